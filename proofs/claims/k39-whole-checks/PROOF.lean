import PyProof.Rows.All
import Wide.All
import OpenK.AllK
import Wide.FinOn
import HandS.ForMost
import HandS.ForExc
import HandS.ExcInit
import HandS.ExcField
import HandS.ExcIs
import HandS.IsInst
import HandS.Style
import HandS.Wide
import HandS.Zip
import HandS.TupAny
import HandS.NoneIn
import HandS.SortInts
import HandS.Lambda
import HandS.EndTab
import HandS.HeadWalk
import HandS.HeadHook4
import HandS.Head2
import KE.GoesEnum
import KE.KExcIs
import PySem.Challenge.RW_pushedback_k39_whole_checks_frames_and_l
set_option Elab.async false
set_option linter.all false
set_option maxRecDepth 100000
set_option maxHeartbeats 4000000
/-! PbZ: the head's run, ahead of all else: it takes much memory. -/
namespace Pb
open PySem PySem.Spec PyProof.Rows L2
abbrev Frg := PySem.W.Frag
def top (i : Nat) : Stmt := PySem.Challenge.pw_pushedback_k39_whole_checks_frames_and_l.main.body.getD i (.Pass ⟨0, 0, 0, 0⟩)
end Pb

set_option Elab.async false
set_option linter.all false
set_option maxRecDepth 100000
set_option maxHeartbeats 4000000
/-! PbAM: what the head is asked: the classes of errors. -/
namespace Pb
open PySem PySem.Spec PyProof.Rows L2
def oexB (K : Frg) (C : Addr) : Bool := (match K.lookup C with
  | some ⟨.type t, _, .cls cd, sl⟩ => decide (t = "type") && ((match cd.mro with
    | .ref C' :: bm => decide (C' = C) && PySem.HandSPX.refsVE bm
    | _ => false) && ((match sl.toList with
    | [_, _, _, _, some (.builtin n), _] => decide (n = "ValueError.__new__")
    | _ => false) && (cd.hasDict && !cd.hasDel)))
  | _ => false) && (decide (PySem.W.findIn K (.ref C) "__setattr__" = some (some (.builtin "object.__setattr__"))) && (decide (PySem.W.subIn K (.ref C) (.type "BaseException") = some true) &&
    (decide (PySem.W.typeIn K (.ref C) = some (.type "type")) && PySem.W.keepIn K (.ref C))))
theorem oexB_ok {K : Frg} {C : Addr} (h : oexB K C = true) : OexC K C := by
  unfold oexB at h
  obtain ⟨h1, h⟩ := He.ba h
  obtain ⟨h2, h⟩ := He.ba h
  obtain ⟨h3, h⟩ := He.ba h
  obtain ⟨h4, h5⟩ := He.ba h
  refine ⟨?_, of_decide_eq_true h2, of_decide_eq_true h3, of_decide_eq_true h4, h5⟩
  split at h1
  · rename_i t dd cd sl lk
    obtain ⟨a1, h1⟩ := He.ba h1
    obtain ⟨a2, h1⟩ := He.ba h1
    obtain ⟨a3, h1⟩ := He.ba h1
    obtain ⟨a4, a5⟩ := He.ba h1
    obtain ⟨nm, bs, mro, ns, qn, hd, sn, sub, ab, col, del⟩ := cd
    dsimp only at a2 a3 a4 a5
    cases mro with
    | nil => cases a2
    | cons v bm =>
      cases v with
      | ref C' =>
        split at a3
        · rename_i k0 k1 k2 k3 n k5 es
          obtain ⟨b1, b2⟩ := He.ba a2
          have e1 := of_decide_eq_true a1
          have e2 := of_decide_eq_true b1
          have e3 := of_decide_eq_true a3
          have e5 : del = false := by
            cases del with
            | false => rfl
            | true => cases a5
          subst e1 e2 e3 a4 e5
          have hsl : sl = #[k0, k1, k2, k3, some (.builtin "ValueError.__new__"), k5] := by
            obtain ⟨l⟩ := sl
            have es : l = _ := es
            rw [es]
          subst hsl
          exact ⟨nm, qn, ns, bs, bm, sn, sub, ab, col, dd, k0, k1, k2, k3, k5, lk, b2⟩
        · cases a3
      | _ => cases a2
  · cases h1
def excB (K : Frg) (D : Addr) : Bool := xfB K D && (decide (PySem.W.findIn K (.ref D) "__class__" = some (some (.builtin "object.__class__"))) && (decide (PySem.W.specialIn K (.builtin "object.__class__") "__get__" = some (some (.builtin "getset_descriptor.__get__"))) &&
  (decide (PySem.W.takesIn K (.builtin "object.__class__") = some true) && decide (PySem.W.mroIn K D (.type "object") = some true))))
theorem excB_ok {K : Frg} {D : Addr} (h : excB K D = true) : XfC K D ∧ ExcC K D := by
  obtain ⟨h1, h⟩ := He.ba h
  obtain ⟨h2, h⟩ := He.ba h
  obtain ⟨h3, h⟩ := He.ba h
  obtain ⟨h4, h5⟩ := He.ba h
  have X := xfB_ok h1
  exact ⟨X, ⟨X.ga, X.gg, X.exC, X.hdC, of_decide_eq_true h2, of_decide_eq_true h3, of_decide_eq_true h4, of_decide_eq_true h5⟩⟩
def kitsB (K : Frg) (l : List (Str × Str × Bool)) : Bool := l.all fun q => decide (PySem.W.kitOne K (.ref (He.ga K q.1)) (.ref (He.ga K q.2.1)) = some q.2.2)
theorem kitsB_ok {K : Frg} {l : List (Str × Str × Bool)} (h : kitsB K l = true) (i : Nat) {x y : Str} {b : Bool} (e : l[i]? = some (x, y, b)) : PySem.W.kitOne K (.ref (He.ga K x)) (.ref (He.ga K y)) = some b :=
  of_decide_eq_true (List.all_eq_true.mp h (x, y, b) (List.mem_of_getElem? e))
def hdKits : List (Str × Str × Bool) := [("NotUsable", "PaperError", false), ("NotUsable", "StackError", true), ("NotUsable", "LossError", false), ("NotUsable", "LiveError", false), ("NotUsable", "TextError", false), ("NotUsable", "NotUsable", true),
  ("Spoilt", "PaperError", false), ("Spoilt", "StackError", false), ("Spoilt", "LossError", true), ("Spoilt", "LiveError", false), ("Spoilt", "TextError", false), ("Spoilt", "Spoilt", true)]
def initB (K : Frg) (x : Str) : Bool := decide (PySem.W.findIn K (.ref (He.ga K x)) "__init__" = some (some (.ref (He.ma K (He.ga K x) "__init__")))) && decide (PySem.W.typeIn K (.ref (He.ma K (He.ga K x) "__init__")) = some (.type "function"))
theorem initB_ok {K : Frg} {x : Str} (h : initB K x = true) : PySem.W.findIn K (.ref (He.ga K x)) "__init__" = some (some (.ref (He.ma K (He.ga K x) "__init__"))) ∧ PySem.W.typeIn K (.ref (He.ma K (He.ga K x) "__init__")) = some (.type "function") := by
  obtain ⟨h1, h2⟩ := He.ba h
  exact ⟨of_decide_eq_true h1, of_decide_eq_true h2⟩
/-- the makers of lambdas -/
def hdTf : List He.Defn := [("_law_are_checks_right", none), ("_law_are_primes_right", none), ("_law_are_check_odds_refused", none), ("_law_are_frame_odds_refused", none)]
def hdTq : List Str := ["_law_are_checks_right.<locals>.<lambda>", "_law_are_primes_right.<locals>.<lambda>", "_law_are_check_odds_refused.<locals>.<lambda>", "_law_are_frame_odds_refused.<locals>.<lambda>"]
def hdMore (K : Frg) : Bool := oexB K (He.ga K "NotUsable") && (oexB K (He.ga K "Spoilt") && (excB K (He.ga K "NotUsable") && (excB K (He.ga K "Spoilt") && (kitsB K hdKits && (initB K "NotUsable" && (initB K "Spoilt" && decide ((hdTf.map fun p => (He.cT K p).2).Nodup)))))))
/-- the tables and the names in them -/
def hdTab (K : Frg) : List (Addr × Str) := (hdTf.map fun p => (He.cT K p).2).zip hdTq
end Pb

set_option Elab.async false
set_option linter.all false
set_option maxRecDepth 100000
set_option maxHeartbeats 0
/-! PbAN: the head: what it tells, its run. -/
namespace Pb
open PySem PySem.Spec PyProof.Rows L2
def hdDef (x : Str) (i : Nat) : He.DefD := ⟨(x, none), x, x, defArgs (top i), defBody (top i), defScope (top i), [], []⟩
def hdIni (c q : Str) (i : Nat) : He.DefD := ⟨(c, some "__init__"), "__init__", q, defArgs (inClass (top i) 0), defBody (inClass (top i) 0), defScope (inClass (top i) 0), [], []⟩
def hfn0 : List He.DefD := [hdDef "a_want" 10, hdDef "is_integer" 12, hdDef "is_number" 13, hdDef "is_base" 14, hdDef "a_is_numbers" 15, hdDef "is_digits" 16, hdDef "row_of" 18, hdDef "added" 20, hdDef "stack_of" 19, hdDef "fits_modulus" 22, hdDef "fits_framed" 23, hdDef "want_base" 24, hdDef "lesser" 30, hdDef "loss_over" 31, hdDef "a_is_size" 33, hdDef "push_even" 34, hdDef "want_checked" 36, hdDef "push_check" 37, hdDef "is_spoilt" 38, hdDef "pop_check" 39, hdDef "seen_apart" 40, hdDef "starts_of" 28, hdDef "shortest_loss" 29, hdDef "stream_of" 26, hdDef "frames_in" 27, hdDef "_law_draw" 43, hdDef "_law_any" 44, hdDef "_law_heap" 47, hdDef "_law_line" 48, hdDef "_law_stack" 49]
def hfn1 : List He.DefD := [hdDef "_law_tape" 50, hdDef "_law_is_apart" 52, hdDef "_law_whole" 56, hdDef "_law_stacks" 55, hdDef "_law_loss_told" 58, hdDef "_law_losses" 57, hdDef "_law_changes" 53, hdDef "_law_feed" 42, hdDef "_law_same" 45, hdDef "_law_are_checks_right" 51, hdDef "_law_are_changes_seen" 54, hdDef "_law_are_frames_right" 59, hdDef "_law_are_rows_right" 60, hdDef "_law_are_primes_right" 61, hdDef "_law_are_hand_right" 62, hdDef "_law_are_check_odds_refused" 63, hdDef "_law_are_frame_odds_refused" 64, hdDef "_law_heard" 46, hdDef "law" 65, hdIni "NotUsable" "NotUsable.__init__" 4, hdIni "Spoilt" "Spoilt.__init__" 6]
def hfn : List He.DefD := hfn0 ++ hfn1
def hfa0 : List He.Fa := [.glo "a_want", .glo "is_integer", .glo "is_number", .glo "is_base", .glo "a_is_numbers", .glo "is_digits", .glo "row_of", .glo "added", .glo "stack_of", .glo "fits_modulus", .glo "fits_framed", .glo "want_base", .glo "lesser", .glo "loss_over", .glo "a_is_size", .glo "push_even", .glo "want_checked", .glo "push_check", .glo "is_spoilt", .glo "pop_check", .glo "seen_apart", .glo "starts_of", .glo "shortest_loss", .glo "stream_of", .glo "frames_in", .glo "_law_draw", .glo "_law_any", .glo "_law_heap", .glo "_law_line", .glo "_law_stack"]
def hfa1 : List He.Fa := [.glo "_law_tape", .glo "_law_is_apart", .glo "_law_whole", .glo "_law_stacks", .glo "_law_loss_told", .glo "_law_losses", .glo "_law_changes", .glo "_law_feed", .glo "_law_same", .glo "_law_are_checks_right", .glo "_law_are_changes_seen", .glo "_law_are_frames_right", .glo "_law_are_rows_right", .glo "_law_are_primes_right", .glo "_law_are_hand_right", .glo "_law_are_check_odds_refused", .glo "_law_are_frame_odds_refused", .glo "_law_heard", .glo "law", .glo "PushError", .glo "PaperError", .glo "StackError", .glo "NotUsable", .glo "LossError", .glo "Spoilt", .glo "LiveError", .glo "TextError", .free "isinstance", .free "int", .free "bool"]
def hfa2 : List He.Fa := [.free "tuple", .free "all", .free "range", .free "len", .free "list", .free "zip", .free "enumerate", .free "sorted", .free "min", .free "repr", .exm "NotUsable" "PushError" true, .exm "Spoilt" "PushError" true, .noat "NotUsable" "word", .noat "NotUsable" "at", .noat "Spoilt" "frame"]
def hfa : List He.Fa := hfa0 ++ hfa1 ++ hfa2
def hlo0 : List Str := ["PushError", "PaperError", "StackError", "NotUsable", "LossError", "Spoilt", "LiveError", "TextError", "a_want", "is_integer", "is_number", "is_base", "a_is_numbers", "is_digits", "row_of", "stack_of", "added", "fits_modulus", "fits_framed", "want_base", "stream_of", "frames_in", "starts_of", "shortest_loss", "lesser", "loss_over", "a_is_size", "push_even", "want_checked", "push_check"]
def hlo1 : List Str := ["is_spoilt", "pop_check", "seen_apart", "_law_feed", "_law_draw", "_law_any", "_law_same", "_law_heard", "_law_heap", "_law_line", "_law_stack", "_law_tape", "_law_are_checks_right", "_law_is_apart", "_law_changes", "_law_are_changes_seen", "_law_stacks", "_law_whole", "_law_losses", "_law_loss_told", "_law_are_frames_right", "_law_are_rows_right", "_law_are_primes_right", "_law_are_hand_right", "_law_are_check_odds_refused", "_law_are_frame_odds_refused"]
def hlo : List Str := hlo0 ++ hlo1
abbrev hdRow : PySem.W.OpenRow := PySem.W.OpenLaw.row PySem.Challenge.rw_pushedback_k39_whole_checks_frames_and_l
abbrev hdHook : PySem.W.Hook := He.hookX 5 hfa hfn [] hdTf hdMore
def hdOb (s : PySem.W.SharedT) : He.AlX := He.obsX 5 hfa hfn [] hdTf hdMore (HandSHeadRun.getT s)
theorem hdOb_eq (s : PySem.W.SharedT) : hdOb s = hdHook.obs s.abs := He.obsX_eq (HandSHeadRun.getT_eq s)
theorem hdRun (w : World) : HandSHeadRun.RunEq hdRow (PySem.W.view hdRow.prog [65]) hdHook hdOb 4000 hlo w := by
  intro os
  kernel_rfl
end Pb

namespace Pb
open PySem PySem.W PySem.Calls PyProof.Rows
set_option maxRecDepth 100000
set_option maxHeartbeats 0
/-- the row holds if the law's call keeps its word -/
theorem hdHead (hw : hdRow.toRowW.promised) (call : WalkO (view hdRow.prog [65]) hlo (XL (view hdRow.prog [65]) []) hdHook.says hdRow.toRowW (HandSHeadRun.topDef hdRow.prog 65) [] fun f vs => PySem.call f vs) : hdRow.Holds :=
  HandSHeadRun.head_any (r := hdRow) (q := view hdRow.prog [65]) (H := hdHook) (ob := hdOb) (M := 4000) (loose := hlo) (d := HandSHeadRun.topDef hdRow.prog 65) (kwd := []) hdOb_eq (by kernel_rfl) (fun s => by kernel_rfl) hdRun (by kernel_rfl) (by kernel_rfl) (by kernel_rfl) (by rfl)
    (by first | assumption | decide +kernel) (by decide +kernel) ⟨rfl, rfl, rfl, rfl, rfl, by decide +kernel⟩ hw call
end Pb

set_option maxHeartbeats 4000000
set_option Elab.async false
set_option linter.all false
set_option maxRecDepth 100000
set_option maxHeartbeats 4000000
/-! PbA: a small logic over the layer: slots that hold data, lists of one's own, the feed. -/
namespace Pb
open PySem PySem.Spec PyProof.Rows L2

/-! ### what is known grows -/
mutual
/-- a value that is such data: all that it names is known to B -/
inductive Dq (B : Hp) : V → PyData → Prop
  | non : Dq B .non .none
  | bl (b : Bool) : Dq B (.bl b) (.bool b)
  | int (i : Int) : Dq B (.int i) (.int i)
  | str (x : Str) : Dq B (.str x) (.str x)
  | lst {a : Addr} {xs : List V} {ds : List PyData} : B a = some (.lst xs) → DqAll B xs ds → Dq B (.ref a) (.list ds)
  | tup {a : Addr} {xs : List V} {ds : List PyData} : B a = some (.tup xs) → DqAll B xs ds → Dq B (.ref a) (.tuple ds)
inductive DqAll (B : Hp) : List V → List PyData → Prop
  | nil : DqAll B [] []
  | cons {v : V} {vs : List V} {d : PyData} {ds : List PyData} : Dq B v d → DqAll B vs ds → DqAll B (v :: vs) (d :: ds)
end
theorem ltr {H : Hp} {a : Addr} {xs : List V} {K : Frg} (h : H a = some (.lst xs)) : SqL K H a xs := .inl (.inl h)
theorem ttr {H : Hp} {a : Addr} {xs : List V} {K : Frg} (h : H a = some (.tup xs)) : SqT K H a xs := .inl (.inl h)
mutual
theorem dp_up {B B' : Hp} (e : Same B B') : ∀ (d : PyData) (v : V), Dq B v d → Dq B' v d
  | .none, _, h => by cases h; exact .non
  | .bool b, _, h => by cases h; exact .bl b
  | .int i, _, h => by cases h; exact .int i
  | .str x, _, h => by cases h; exact .str x
  | .list ds, _, h => by
    cases h with
    | lst hs ha => exact .lst (e _ _ hs) (dps_up e ds _ ha)
  | .tuple ds, _, h => by
    cases h with
    | tup hs ha => exact .tup (e _ _ hs) (dps_up e ds _ ha)
  | .dict _, _, h => by cases h
theorem dps_up {B B' : Hp} (e : Same B B') : ∀ (ds : List PyData) (vs : List V), DqAll B vs ds → DqAll B' vs ds
  | [], _, h => by cases h; exact .nil
  | d :: ds, _, h => by
    cases h with
    | cons h1 h2 => exact .cons (dp_up e d _ h1) (dps_up e ds _ h2)
end
mutual
theorem dq_dp {K : Frg} {B H : Hp} (e : Same B H) : ∀ (d : PyData) (v : V), Dq B v d → Dp K H v d
  | .none, _, h => by cases h; exact .non
  | .bool b, _, h => by cases h; exact .bl b
  | .int i, _, h => by cases h; exact .int i
  | .str x, _, h => by cases h; exact .str x
  | .list ds, _, h => by
    cases h with
    | lst hs ha => exact .lst (ltr (e _ _ hs)) (dqs_dp e ds _ ha)
  | .tuple ds, _, h => by
    cases h with
    | tup hs ha => exact .tup (ttr (e _ _ hs)) (dqs_dp e ds _ ha)
  | .dict _, _, h => by cases h
theorem dqs_dp {K : Frg} {B H : Hp} (e : Same B H) : ∀ (ds : List PyData) (vs : List V), DqAll B vs ds → DpAll K H vs ds
  | [], _, h => by cases h; exact .nil
  | d :: ds, _, h => by
    cases h with
    | cons h1 h2 => exact .cons (dq_dp e d _ h1) (dqs_dp e ds _ h2)
end
section
variable {B B' : Hp}
theorem dps_len : ∀ {vs : List V} {ds : List PyData}, DqAll B vs ds → vs.length = ds.length
  | _, _, .nil => rfl
  | _, _, .cons _ h => by rw [List.length_cons, List.length_cons, dps_len h]
theorem dps_get : ∀ {vs : List V} {ds : List PyData} {i : Nat} {d : PyData}, DqAll B vs ds → ds[i]? = some d → ∃ v, vs[i]? = some v ∧ Dq B v d
  | _, _, _, _, .nil, e => by simp at e
  | _, _, 0, _, .cons h _, e => by
    simp at e
    subst e
    exact ⟨_, rfl, h⟩
  | _, _, i + 1, _, .cons _ h, e => by
    obtain ⟨v, e1, e2⟩ := dps_get (i := i) h (by simpa using e)
    exact ⟨v, by simpa using e1, e2⟩
theorem dps_getv {vs : List V} {ds : List PyData} {i : Nat} {v : V} (h : DqAll B vs ds) (e : vs[i]? = some v) : ∃ d, ds[i]? = some d ∧ Dq B v d := by
  have hi : i < ds.length := by
    rw [← dps_len h]
    exact (List.getElem?_eq_some_iff.mp e).1
  obtain ⟨w, e1, e2⟩ := dps_get h (List.getElem?_eq_getElem hi)
  rw [e] at e1
  cases e1
  exact ⟨_, List.getElem?_eq_getElem hi, e2⟩
theorem dps_app : ∀ {vs ws : List V} {ds es : List PyData}, DqAll B vs ds → DqAll B ws es → DqAll B (vs ++ ws) (ds ++ es)
  | _, _, _, _, .nil, h => h
  | _, _, _, _, .cons a b, h => .cons a (dps_app b h)
theorem dps_set {v : V} {d : PyData} (hv : Dq B v d) : ∀ {vs : List V} {ds : List PyData} (i : Nat), DqAll B vs ds → DqAll B (vs.set i v) (ds.set i d)
  | _, _, _, .nil => .nil
  | _, _, 0, .cons _ h => .cons hv h
  | _, _, i + 1, .cons a h => .cons a (dps_set hv i h)
theorem dps_take : ∀ {vs : List V} {ds : List PyData} (i : Nat), DqAll B vs ds → DqAll B (vs.take i) (ds.take i)
  | _, _, 0, _ => .nil
  | _, _, _ + 1, .nil => .nil
  | _, _, i + 1, .cons a h => .cons a (dps_take i h)
theorem dps_drop : ∀ {vs : List V} {ds : List PyData} (i : Nat), DqAll B vs ds → DqAll B (vs.drop i) (ds.drop i)
  | _, _, 0, h => h
  | _, _, _ + 1, .nil => .nil
  | _, _, i + 1, .cons _ h => dps_drop i h
theorem dps_rev {vs : List V} {ds : List PyData} (h : DqAll B vs ds) : DqAll B vs.reverse ds.reverse := by
  induction h using DqAll.rec (motive_1 := fun _ _ _ => True) with
  | nil => exact .nil
  | cons a b _ ih =>
    rw [List.reverse_cons, List.reverse_cons]
    exact dps_app ih (.cons a .nil)
  | _ => trivial
/-- ints -/
theorem dps_ints : ∀ (ns : List Int), DqAll B (ns.map V.int) (ns.map PyData.int)
  | [] => .nil
  | _ :: ns => .cons (.int _) (dps_ints ns)
theorem ints_dps : ∀ (ns : List Int) (vs : List V), DqAll B vs (ns.map PyData.int) → vs = ns.map V.int
  | [], _, h => by cases h; rfl
  | n :: ns, _, h => by
    cases h with
    | cons a b =>
      cases a
      rw [ints_dps ns _ b]
      rfl
theorem dp_int {v : V} {i : Int} (h : Dq B v (.int i)) : v = .int i := by cases h; rfl
theorem dp_bl {v : V} {b : Bool} (h : Dq B v (.bool b)) : v = .bl b := by cases h; rfl
theorem dp_str {v : V} {x : Str} (h : Dq B v (.str x)) : v = .str x := by cases h; rfl
theorem dp_non {v : V} (h : Dq B v .none) : v = .non := by cases h; rfl
theorem dp_tup {v : V} {ds : List PyData} (h : Dq B v (.tuple ds)) : ∃ a vs, v = .ref a ∧ B a = some (.tup vs) ∧ DqAll B vs ds := by
  cases h with
  | tup h1 h2 => exact ⟨_, _, rfl, h1, h2⟩
theorem dp_lst {v : V} {ds : List PyData} (h : Dq B v (.list ds)) : ∃ a vs, v = .ref a ∧ B a = some (.lst vs) ∧ DqAll B vs ds := by
  cases h with
  | lst h1 h2 => exact ⟨_, _, rfl, h1, h2⟩
end

/-! ### cells, slots -/
inductive Ce where
  | ls (ds : List PyData)
  | no
  | xd (q : Addr) (fs : List (Str × V))
inductive Sl where
  | im (d : PyData)
  | ce (k : Nat)
  | fd
  | un
  | ra (a : Addr)
/-- n: an upper bound of how many draws there were -/
def fkv (c : Addr) (i l k : Int) : List (Key × V) := [(.inr "cells", .ref c), (.inr "next", .int i), (.inr "left", .int l), (.inr "drawn", .int k)]
def FeedOk (K : Frg) (B H : Hp) (a : Addr) (n : Nat) : Prop := ∃ (c : Addr) (ns : List Int) (i l k : Int), H a = some (.dK (fkv c i l k)) ∧ B c = some (.lst (ns.map V.int)) ∧ ns.length ≤ 63 ∧ (∀ z ∈ ns, z.natAbs < 2 ^ 1048576) ∧
  0 ≤ i ∧ i ≤ (n : Int) ∧ 0 ≤ l ∧ l.natAbs < 2 ^ 1048576 ∧ 0 ≤ k ∧ k ≤ (n : Int)
structure Fr (m : Addr → Prop) (B H B' H' : Hp) : Prop where
  b : Same B B'
  sub : Same B' H'
  old : ∀ a, H a ≠ none → B a = none → B' a = none
  kp : ∀ a o, H a = some o → ¬ m a → H' a = some o
  thr : ∀ a, H' a = none → H a = none
  nt : ∀ b ps, B' b = some (.tbl ps) → B b = some (.tbl ps)
theorem Fr.trans {m : Addr → Prop} {B H B1 H1 B2 H2 : Hp} (x : Fr m B H B1 H1) (y : Fr m B1 H1 B2 H2) : Fr m B H B2 H2 :=
  ⟨x.b.trans y.b, y.sub, fun a h1 h2 => y.old a (fun z => h1 (x.thr a z)) (x.old a h1 h2), fun a o h1 h2 => y.kp a o (x.kp a o h1 h2) h2, fun a h => x.thr a (y.thr a h), fun b ps h => x.nt b ps (y.nt b ps h)⟩
theorem Fr.imp {m m' : Addr → Prop} {B H B' H' : Hp} (x : Fr m B H B' H') (h : ∀ a, m a → m' a) : Fr m' B H B' H' := ⟨x.b, x.sub, x.old, fun a o e n => x.kp a o e fun z => n (h a z), x.thr, x.nt⟩
theorem Fr.refl {m : Addr → Prop} {B H : Hp} (s : Same B H) : Fr m B H B H := ⟨Same.refl _, s, fun _ _ h => h, fun _ _ h _ => h, fun _ h => h, fun _ _ h => h⟩
/-- the judging context of a def: the tables of code objects, the feed, the heaps at the entry, the wish of exceptions -/
structure Ct where
  T : List (Addr × Str)
  fa : Option Addr
  B0 : Hp
  H0 : Hp
  E : XK
def Ct.m (C : Ct) (a : Addr) : Prop := C.fa = some a ∨ ∃ p ∈ C.T, p.1 = a
def CellOk (K : Frg) (H0 B H : Hp) (p : Addr) : Ce → Prop
  | .ls ds => H0 p = none ∧ B p = none ∧ ∃ vs, H p = some (.lst vs) ∧ DqAll B vs ds
  | .no => ∃ vs, B p = some (.lst vs)
  | .xd q fs => p = q ∧ H p = some (.xd fs)
def SlOk (K : Frg) (fa : Option Addr) (ads : List Addr) (B : Hp) (o : Option V) : Sl → Prop
  | .im d => ∃ v, o = some v ∧ Dq B v d
  | .ce k => ∃ p, ads[k]? = some p ∧ o = some (.ref p)
  | .fd => ∃ a, fa = some a ∧ o = some (.ref a)
  | .un => True
  | .ra a => o = some (.ref a)
structure RepA (K : Frg) (C : Ct) (ads : List Addr) (B H : Hp) (σ : L2.St) (ρ : List Sl) (μ : List Ce) (n : Nat) : Prop where
  fr : Fr C.m C.B0 C.H0 B H
  sl : Paired (SlOk K C.fa ads B) σ ρ
  ce : Paired (CellOk K C.H0 B H) ads μ
  nd : ads.Nodup
  al : ∀ p ∈ ads, H p ≠ none
  fd : ∀ a, C.fa = some a → C.H0 a ≠ none ∧ B a = none ∧ FeedOk K B H a n
  tb : LamX.Tabs C.T H
  tn : ∀ p ∈ C.T, C.H0 p.1 ≠ none ∧ B p.1 = none ∧ C.fa ≠ some p.1
theorem pr_get {α β : Type} {F : α → β → Prop} : ∀ {l : List α} {r : List β} {i : Nat} {y : β}, Paired F l r → r[i]? = some y → ∃ x, l[i]? = some x ∧ F x y
  | _, _, _, _, .nil, e => by simp at e
  | _, _, 0, _, .cons h _, e => by
    simp at e
    subst e
    exact ⟨_, rfl, h⟩
  | _, _, i + 1, _, .cons _ h, e => by
    obtain ⟨x, e1, e2⟩ := pr_get (i := i) h (by simpa using e)
    exact ⟨x, by simpa using e1, e2⟩
theorem pr_set {α β : Type} {F : α → β → Prop} {x : α} {y : β} (hx : F x y) : ∀ {l : List α} {r : List β} (i : Nat), Paired F l r → Paired F (l.set i x) (r.set i y)
  | _, _, _, .nil => .nil
  | _, _, 0, .cons _ h => .cons hx h
  | _, _, i + 1, .cons a h => .cons a (pr_set hx i h)
theorem pr_app {α β : Type} {F : α → β → Prop} : ∀ {l l' : List α} {r r' : List β}, Paired F l r → Paired F l' r' → Paired F (l ++ l') (r ++ r')
  | _, _, _, _, .nil, h => h
  | _, _, _, _, .cons a b, h => .cons a (pr_app b h)
/-- all but one place -/
theorem pr_but {α β : Type} {F G : α → β → Prop} : ∀ {l : List α} {r : List β} (k : Nat) (y : β), Paired F l r → (∀ (j : Nat) x z, j ≠ k → l[j]? = some x → r[j]? = some z → F x z → G x z) → (∀ x, l[k]? = some x → G x y) → Paired G l (r.set k y)
  | _, _, _, _, .nil, _, _ => .nil
  | _, _, 0, _, .cons a h, f, g => by
    refine .cons (g _ rfl) ?_
    clear a g
    have f' : ∀ (j : Nat) x z, _ → _ → F x z → G x z := fun j x z h1 h2 => f (j + 1) x z (Nat.succ_ne_zero j) (by simpa using h1) (by simpa using h2)
    revert f'
    clear f
    induction h with
    | nil => exact fun _ => .nil
    | cons a b ih => exact fun f => .cons (f 0 _ _ rfl rfl a) (ih fun j x z h1 h2 => f (j + 1) x z (by simpa using h1) (by simpa using h2))
  | _, _, k + 1, _, .cons a h, f, g => .cons (f 0 _ _ (Nat.succ_ne_zero k).symm rfl rfl a) (pr_but k _ h (fun j x z hj h1 h2 => f (j + 1) x z (fun q => hj (Nat.succ.inj q)) (by simpa using h1) (by simpa using h2)) fun x hx => g x (by simpa using hx))
theorem nd_get {l : List Addr} (h : l.Nodup) {i j : Nat} {x y : Addr} (hi : l[i]? = some x) (hj : l[j]? = some y) (n : i ≠ j) : x ≠ y := fun e => n (nd_ix h hi (by rw [hj, e]))

section
variable {K : Frg} {C : Ct} {ads : List Addr} {B H B' H' : Hp} {σ : L2.St} {ρ : List Sl} {μ : List Ce} {n n' : Nat}
theorem SlOk.up (e : Same B B') {o : Option V} : ∀ {s : Sl}, SlOk K C.fa ads B o s → SlOk K C.fa ads B' o s
  | .im _, ⟨v, h1, h2⟩ => ⟨v, h1, dp_up e _ _ h2⟩
  | .ce _, h => h
  | .fd, h => h
  | .un, _ => trivial
  | .ra _, h => h
theorem SlOk.more {p : Addr} {o : Option V} : ∀ {s : Sl}, SlOk K C.fa ads B o s → SlOk K C.fa (ads ++ [p]) B o s
  | .im _, h => h
  | .ce k, ⟨q, h1, h2⟩ => ⟨q, by rw [List.getElem?_append_left (List.getElem?_eq_some_iff.mp h1).1]; exact h1, h2⟩
  | .fd, h => h
  | .un, _ => trivial
  | .ra _, h => h
theorem FeedOk.up {a : Addr} (h : FeedOk K B H a n) (eB : Same B B') (eH : H' a = H a) (l : n ≤ n') : FeedOk K B' H' a n' := by
  obtain ⟨c, ns, i, lf, k, h1, h2, h3, h4, h5, h6, h7, h8, h9, h10⟩ := h
  exact ⟨c, ns, i, lf, k, by rw [eH]; exact h1, eB _ _ h2, h3, h4, h5, by omega, h7, h8, h9, by omega⟩
theorem RepA.sub (r : RepA K C ads B H σ ρ μ n) : Same B H := r.fr.sub
theorem CellOk.up {p : Addr} {c : Ce} (h : CellOk K C.H0 B H p c) (eB : Same B B') (o : H p ≠ none → B p = none → B' p = none) (k : ∀ u, H p = some u → H' p = some u) : CellOk K C.H0 B' H' p c := by
  cases c with
  | ls ds =>
    obtain ⟨h1, h2, vs, h3, h4⟩ := h
    exact ⟨h1, o (by rw [h3]; simp) h2, vs, k _ h3, dps_up eB _ _ h4⟩
  | no =>
    obtain ⟨vs, h⟩ := h
    exact ⟨vs, eB _ _ h⟩
  | xd q fs => exact ⟨h.1, k _ h.2⟩
/-- all that was there stays, more is known -/
theorem RepA.grow (r : RepA K C ads B H σ ρ μ n) (eB : Same B B') (eH : Same H H') (s : Same B' H') (o : ∀ a, H a ≠ none → B a = none → B' a = none) (t : ∀ b ps, B' b = some (.tbl ps) → B b = some (.tbl ps)) : RepA K C ads B' H' σ ρ μ n := by
  have al' : ∀ {a}, H a ≠ none → H' a ≠ none := fun {a} h z => by
    cases e : H a with
    | none => exact h e
    | some u =>
      rw [eH a u e] at z
      cases z
  refine ⟨r.fr.trans ⟨eB, s, o, fun a u h _ => eH a u h, fun a h => ?_, t⟩, Paired.mapP r.sl fun _ _ h => h.up eB, Paired.mapP r.ce fun p c h => h.up eB (o p) (fun u e => eH _ _ e), r.nd, fun p hp => al' (r.al p hp), fun a ha => ?_, r.tb.ext eH, fun p hp => ?_⟩
  · cases e : H a with
    | none => rfl
    | some u =>
      rw [eH a u e] at h
      cases h
  · obtain ⟨h1, h2, h3⟩ := r.fd a ha
    have ne : H a ≠ none := fun z => h1 (r.fr.thr a z)
    refine ⟨h1, o a ne h2, h3.up eB ?_ (Nat.le_refl _)⟩
    cases e : H a with
    | none => exact absurd e ne
    | some u => exact eH a u e
  · obtain ⟨h1, h2, h3⟩ := r.tn p hp
    exact ⟨h1, o _ (fun z => h1 (r.fr.thr _ z)) h2, h3⟩
theorem RepA.more (r : RepA K C ads B H σ ρ μ n) (l : n ≤ n') : RepA K C ads B H σ ρ μ n' :=
  ⟨r.fr, r.sl, r.ce, r.nd, r.al, fun a ha => ⟨(r.fd a ha).1, (r.fd a ha).2.1, (r.fd a ha).2.2.up (Same.refl _) rfl l⟩, r.tb, r.tn⟩
theorem same_new {p : Addr} {o : HO} (h : H p = none) : Same H (upd H p o) := fun b u e => by
  rw [upd_ne (ne_of_none e h)]
  exact e
theorem back_none (s : Same B H) {p : Addr} (h : H p = none) : B p = none := by
  cases e : B p with
  | none => rfl
  | some u =>
    rw [s p u e] at h
    cases h
/-- a new thing that never changes -/
theorem RepA.new (r : RepA K C ads B H σ ρ μ n) {p : Addr} {o : HO} (h : H p = none) (ho : ∀ ps, o ≠ .tbl ps) : RepA K C ads (upd B p o) (upd H p o) σ ρ μ n :=
  r.grow (same_new (back_none r.sub h)) (same_new h) (fun b u e => by
    by_cases hb : b = p
    · rw [hb, upd_same] at e ⊢
      exact e
    · rw [upd_ne hb] at e ⊢
      exact r.sub b u e) (fun a h1 h2 => by
    have : a ≠ p := fun z => h1 (by rw [z]; exact h)
    rw [upd_ne this]
    exact h2) fun b ps e => by
    by_cases hb : b = p
    · rw [hb, upd_same] at e
      exact absurd (Option.some.inj e) (ho ps)
    · rw [upd_ne hb] at e
      exact e
/-- an object that is not known here is told, or not told, otherwise -/
theorem RepA.hid (r : RepA K C ads B H σ ρ μ n) {p : Addr} {o : HO} (h : H p = none) : RepA K C ads B (upd H p o) σ ρ μ n :=
  r.grow (Same.refl _) (same_new h) (r.sub.trans (same_new h)) (fun _ _ h => h) fun _ _ h => h
theorem RepA.setS (r : RepA K C ads B H σ ρ μ n) (i : Nat) {v : V} {s : Sl} (h : SlOk K C.fa ads B (some v) s) : RepA K C ads B H (σ.set i (some v)) (ρ.set i s) μ n :=
  ⟨r.fr, pr_set h i r.sl, r.ce, r.nd, r.al, r.fd, r.tb, r.tn⟩
theorem RepA.slots (r : RepA K C ads B H σ ρ μ n) {σ' : L2.St} {ρ' : List Sl} (h : Paired (SlOk K C.fa ads B) σ' ρ') : RepA K C ads B H σ' ρ' μ n := ⟨r.fr, h, r.ce, r.nd, r.al, r.fd, r.tb, r.tn⟩
/-- a new list of one's own -/
theorem RepA.cell (r : RepA K C ads B H σ ρ μ n) {p : Addr} {vs : List V} {ds : List PyData} (h : H p = none) (d : DqAll B vs ds) : RepA K C (ads ++ [p]) B (upd H p (.lst vs)) σ ρ (μ ++ [.ls ds]) n := by
  have g := r.hid (o := .lst vs) h
  refine ⟨g.fr, Paired.mapP g.sl fun _ _ h => h.more, pr_app g.ce (.cons ⟨r.fr.thr p h, back_none r.sub h, vs, upd_same, d⟩ .nil), ?_, fun q hq => ?_, g.fd, g.tb, g.tn⟩
  · refine List.nodup_append.mpr ⟨r.nd, by simp, fun a ha b hb => ?_⟩
    have e : b = p := by simpa using hb
    rw [e]
    exact fun z => r.al a ha (by rw [z]; exact h)
  · rcases List.mem_append.mp hq with z | z
    · exact g.al q z
    · have e : q = p := by simpa using z
      rw [e, upd_same]
      simp
/-- such a list is changed -/
theorem RepA.put (r : RepA K C ads B H σ ρ μ n) {k : Nat} {p : Addr} {vs : List V} {ds es : List PyData} (ha : ads[k]? = some p) (hm : μ[k]? = some (.ls es)) (d : DqAll B vs ds) : RepA K C ads B (upd H p (.lst vs)) σ ρ (μ.set k (.ls ds)) n := by
  obtain ⟨p', hp', c1, c2, ws, c3, c4⟩ := pr_get r.ce hm
  rw [ha] at hp'
  cases hp'
  have keep : ∀ a, C.H0 a ≠ none → a ≠ p := fun a h z => h (by rw [z]; exact c1)
  refine ⟨⟨r.fr.b, fun b u e => ?_, r.fr.old, fun a o h hm => ?_, fun a h => ?_, r.fr.nt⟩, r.sl, pr_but k _ r.ce (fun j x z hj hx hz h => ?_) (fun x hx => ?_), r.nd, fun q hq => ?_, fun a hfa => ?_, ?_, r.tn⟩
  · have : b ≠ p := fun z => by
      rw [z, c2] at e
      cases e
    rw [upd_ne this]
    exact r.sub b u e
  · rw [upd_ne (keep a (by rw [h]; simp))]
    exact r.fr.kp a o h hm
  · by_cases e : a = p
    · rw [e]
      exact c1
    · rw [upd_ne e] at h
      exact r.fr.thr a h
  · refine h.up (Same.refl _) (fun _ z => z) fun u e => ?_
    rw [upd_ne (nd_get r.nd hx ha hj)]
    exact e
  · rw [ha] at hx
    cases hx
    exact ⟨c1, c2, vs, upd_same, d⟩
  · by_cases e : q = p
    · rw [e, upd_same]
      simp
    · rw [upd_ne e]
      exact r.al q hq
  · obtain ⟨h1, h2, h3⟩ := r.fd a hfa
    exact ⟨h1, h2, h3.up (Same.refl _) (upd_ne (keep a h1)) (Nat.le_refl _)⟩
  · intro t ht
    obtain ⟨ps, e1, e2, e3⟩ := r.tb t ht
    refine ⟨ps, ?_, e2, fun pos cv hc => ?_⟩
    · rw [upd_ne (keep _ (r.tn t ht).1)]
      exact e1
    · obtain ⟨c, z1, z2⟩ := e3 pos cv hc
      refine ⟨c, z1, ?_⟩
      have : c ≠ p := fun z => by
        rw [z, c3] at z2
        unfold LamX.CodeO at z2
        cases z2
      rw [upd_ne this]
      exact z2
/-- such a list is no longer changed: it is data -/
theorem RepA.frz (r : RepA K C ads B H σ ρ μ n) {k : Nat} {p : Addr} {ds : List PyData} (ha : ads[k]? = some p) (hm : μ[k]? = some (.ls ds)) : ∃ B', Same B B' ∧ RepA K C ads B' H σ ρ (μ.set k .no) n ∧ Dq B' (.ref p) (.list ds) := by
  obtain ⟨p', hp', c1, c2, vs, c3, c4⟩ := pr_get r.ce hm
  rw [ha] at hp'
  cases hp'
  have keep : ∀ a, C.H0 a ≠ none → a ≠ p := fun a h z => h (by rw [z]; exact c1)
  have eB : Same B (upd B p (.lst vs)) := same_new c2
  refine ⟨upd B p (.lst vs), eB, ⟨⟨r.fr.b.trans eB, fun b u e => ?_, fun a h1 h2 => ?_, r.fr.kp, r.fr.thr, fun b ps e => ?_⟩, Paired.mapP r.sl fun _ _ h => h.up eB, pr_but k _ r.ce (fun j x z hj hx hz h => ?_) (fun x hx => by
    rw [ha] at hx
    cases hx
    exact ⟨vs, upd_same⟩), r.nd, r.al, fun a hfa => ?_, r.tb, fun t ht => ?_⟩, .lst upd_same (dps_up eB _ _ c4)⟩
  · by_cases e1 : b = p
    · rw [e1, upd_same] at e
      rw [e1, c3, ← e]
    · rw [upd_ne e1] at e
      exact r.sub b u e
  · rw [upd_ne (keep a h1)]
    exact r.fr.old a h1 h2
  · by_cases e1 : b = p
    · rw [e1, upd_same] at e
      cases e
    · rw [upd_ne e1] at e
      exact r.fr.nt b ps e
  · refine h.up eB (fun _ z => ?_) fun u e => e
    rw [upd_ne (nd_get r.nd hx ha hj)]
    exact z
  · obtain ⟨h1, h2, h3⟩ := r.fd a hfa
    exact ⟨h1, by rw [upd_ne (keep a h1)]; exact h2, h3.up eB rfl (Nat.le_refl _)⟩
  · obtain ⟨h1, h2, h3⟩ := r.tn t ht
    exact ⟨h1, by rw [upd_ne (keep _ h1)]; exact h2, h3⟩
/-- the feed is changed -/
theorem RepA.feed (r : RepA K C ads B H σ ρ μ n) {a : Addr} {o : HO} (hfa : C.fa = some a) (h : FeedOk K B (upd H a o) a n') : RepA K C ads B (upd H a o) σ ρ μ n' := by
  obtain ⟨a1, a2, c, ns, i, l, k, a3, _⟩ := r.fd a hfa
  have nb : ∀ b u, B b = some u → b ≠ a := fun b u e z => by
    rw [z, a2] at e
    cases e
  refine ⟨⟨r.fr.b, fun b u e => by rw [upd_ne (nb b u e)]; exact r.sub b u e, r.fr.old, fun b u e m => ?_, fun b e => ?_, r.fr.nt⟩, r.sl, Paired.mapP r.ce fun p ce h => ?_, r.nd, fun p hp => ?_, fun b hb => ?_, ?_, r.tn⟩
  · have : b ≠ a := fun z => m (.inl (by rw [z]; exact hfa))
    rw [upd_ne this]
    exact r.fr.kp b u e m
  · by_cases e1 : b = a
    · rw [e1, upd_same] at e
      cases e
    · rw [upd_ne e1] at e
      exact r.fr.thr b e
  · cases ce with
    | no => exact h
    | xd q fs =>
      have h' : H p = some (.xd fs) := h.2
      have : p ≠ a := fun z => by
        rw [z, a3] at h'
        cases h'
      refine ⟨h.1, ?_⟩
      rw [upd_ne this]
      exact h'
    | ls ds =>
      obtain ⟨h1, h2, vs, h3, h4⟩ := h
      have : p ≠ a := fun z => a1 (by rw [← z]; exact h1)
      exact ⟨h1, h2, vs, by rw [upd_ne this]; exact h3, h4⟩
  · by_cases e1 : p = a
    · rw [e1, upd_same]
      simp
    · rw [upd_ne e1]
      exact r.al p hp
  · rw [hfa] at hb
    cases hb
    exact ⟨a1, a2, h⟩
  · intro t ht
    obtain ⟨ps, e1, e2, e3⟩ := r.tb t ht
    have n1 : t.1 ≠ a := fun z => (r.tn t ht).2.2 (by rw [z]; exact hfa)
    refine ⟨ps, by rw [upd_ne n1]; exact e1, e2, fun pos cv hc => ?_⟩
    obtain ⟨c', z1, z2⟩ := e3 pos cv hc
    refine ⟨c', z1, ?_⟩
    have : c' ≠ a := fun z => by
      rw [z, a3] at z2
      unfold LamX.CodeO at z2
      cases z2
    rw [upd_ne this]
    exact z2
end
end Pb

set_option Elab.async false
set_option linter.all false
set_option maxRecDepth 100000
set_option maxHeartbeats 4000000
/-! PbB: the judgements and the rules of expressions. -/
namespace Pb
open PySem PySem.Spec PyProof.Rows L2

/-! ### canonical readings -/
section
variable (X : Cx)
@[irreducible] def canE (e : Expr) : TE := fun σ H Q => ∀ pins s, Inv X pins σ H s → wpAny (model X.prog X.w) X.A (eval e X.env) (EP X pins σ Q) X.xe s
@[irreducible] def canT (e : Expr) : TT := fun σ H Q => ∀ pins s, Inv X pins σ H s → wpAny (model X.prog X.w) X.A (isTrue e X.env (eval e X.env)) (TP X pins σ Q) X.xe s
@[irreducible] def canW (e : Expr) : TT := fun σ H Q => ∀ whole pins s, Inv X pins σ H s → wpAny (model X.prog X.w) X.A (isTrue e X.env whole) (TP X pins σ Q) X.xe s
@[irreducible] def canA (es : List Expr) : TA := fun σ H Q => ∀ (pos : Pos) pins s, Inv X pins σ H s → wpAny (model X.prog X.w) X.A (spliced (backTo pos (starEach es X.env))) (AP X pins σ Q) X.xe s
@[irreducible] def canK (ks : List Keyword) : TA := fun σ H Q => ∀ (pos : Pos) pins s, Inv X pins σ H s → wpAny (model X.prog X.w) X.A (evalAll ((backToKw pos (keywordEach ks X.env)).map (·.2))) (AP X pins σ Q) X.xe s
@[irreducible] def canS (st : Stmt) : TS := fun D σ H => ∀ pins s, Inv X pins σ H s → wpAny (model X.prog X.w) X.A (exec st X.env) (SP X pins D) X.xe s
@[irreducible] def canB (sts : List Stmt) : TS := fun D σ H => ∀ pins s, Inv X pins σ H s → wpAny (model X.prog X.w) X.A (execs sts X.env) (SP X pins D) X.xe s
end
section
variable {X : Cx}
theorem pe_can {e : Expr} : PE X e (canE X e) := ⟨by
  unfold canE
  exact fun pins s σ H Q I h => h pins s I⟩
theorem pt_can {e : Expr} : PT X e (canT X e) := ⟨by
  unfold canT
  exact fun pins s σ H Q I h => h pins s I⟩
theorem pw_can {e : Expr} : PW X e (canW X e) := ⟨by
  unfold canW
  exact fun wh pins s σ H Q I h => h wh pins s I⟩
theorem pa_can {es : List Expr} : PA X es (canA X es) := ⟨by
  unfold canA
  exact fun pos pins s σ H Q I h => h pos pins s I⟩
theorem pk_can {ks : List Keyword} : PK X ks (canK X ks) := ⟨by
  unfold canK
  exact fun pos pins s σ H Q I h => h pos pins s I⟩
theorem ps_can {st : Stmt} : PS X st (canS X st) := ⟨by
  unfold canS
  exact fun pins s σ H D I h => h pins s I⟩
theorem pss_can {sts : List Stmt} : PSs X sts (canB X sts) := ⟨by
  unfold canB
  exact fun pins s σ H D I h => h pins s I⟩
end

/-! ### the judgements on readings -/
inductive Ar where
  | da (d : PyData)
  | fd
def ArOk (K : Frg) (fa : Option Addr) (B : Hp) (v : V) : Ar → Prop
  | .da d => Dq B v d
  | .fd => ∃ a, fa = some a ∧ v = .ref a
def Ar.sl : Ar → Sl
  | .da d => .im d
  | .fd => .fd
inductive Xn where
  | use (w : Str) (i : Int)
  | spo (i : Int)
def Xn.fs : Xn → List (Str × V)
  | .use w i => [("at", .int i), ("word", .str w)]
  | .spo i => [("frame", .int i)]
def Xn.cl (K : Frg) : Xn → Addr
  | .use _ _ => He.ga K "NotUsable"
  | .spo _ => He.ga K "Spoilt"
inductive Ou where
  | ok (d : PyData)
  | er (x : Xn)
inductive Out where
  | nx (ρ : List Sl) (μ : List Ce) (n : Nat)
  | bk (ρ : List Sl) (μ : List Ce) (n : Nat)
  | ct (ρ : List Sl) (μ : List Ce) (n : Nat)
  | rt (d : PyData) (n : Nat)
  | er (x : Xn) (n : Nat)
section
variable (K : Frg) (C : Ct)
def Ev (t : TE) (ρ : List Sl) (μ : List Ce) (n : Nat) (Φ : PyData → Nat → Prop) : Prop :=
  ∀ ads σ B H (Q : VK), RepA K C ads B H σ ρ μ n → (∀ v d B' H' n', Same B B' → RepA K C ads B' H' σ ρ μ n' → Dq B' v d → Φ d n' → Q v H') → t σ H Q
def EvL (t : TE) (ρ : List Sl) (μ : List Ce) (n : Nat) (Φ : List PyData → Nat → Prop) : Prop :=
  ∀ ads σ B H (Q : VK), RepA K C ads B H σ ρ μ n → (∀ p ds B' H' n', Same B B' → RepA K C (ads ++ [p]) B' H' σ ρ (μ ++ [.ls ds]) n' → Φ ds n' → Q (.ref p) H') → t σ H Q
def EvT (t : TT) (ρ : List Sl) (μ : List Ce) (n : Nat) (Φ : Bool → Nat → Prop) : Prop :=
  ∀ ads σ B H (Q : Bool → Hp → Prop), RepA K C ads B H σ ρ μ n → (∀ b B' H' n', Same B B' → RepA K C ads B' H' σ ρ μ n' → Φ b n' → Q b H') → t σ H Q
def EvA (t : TA) (ρ : List Sl) (μ : List Ce) (n : Nat) (Φ : List Ar → Nat → Prop) : Prop :=
  ∀ ads σ B H (Q : List V → Hp → Prop), RepA K C ads B H σ ρ μ n → (∀ vs as B' H' n', Same B B' → RepA K C ads B' H' σ ρ μ n' → Paired (ArOk K C.fa B') vs as → Φ as n' → Q vs H') → t σ H Q
structure Acc (B0 : Hp) (D : Ends) (Ψ : Out → Prop) : Prop where
  nx : ∀ ads σ B H ρ μ n, Same B0 B → RepA K C ads B H σ ρ μ n → Ψ (.nx ρ μ n) → D.nx σ H
  bk : ∀ ads σ B H ρ μ n, Same B0 B → RepA K C ads B H σ ρ μ n → Ψ (.bk ρ μ n) → D.bk σ H
  ct : ∀ ads σ B H ρ μ n, Same B0 B → RepA K C ads B H σ ρ μ n → Ψ (.ct ρ μ n) → D.ct σ H
  rt : ∀ ads σ B H ρ μ n v d, Same B0 B → RepA K C ads B H σ ρ μ n → Dq B v d → Ψ (.rt d n) → D.rt v H
def AccE (Ψ : Out → Prop) : Prop := ∀ ads σ B H ρ μ n x dd, RepA K C ads B H σ ρ μ n → B dd = none → H dd = some (.xd (Xn.fs x)) → Ψ (.er x n) → C.E (.ref (Xn.cl K x)) (some dd) H
def Sv (t : TS) (ρ : List Sl) (μ : List Ce) (n : Nat) (Ψ : Out → Prop) : Prop :=
  ∀ ads σ B H D, RepA K C ads B H σ ρ μ n → Acc K C B D Ψ → AccE K C Ψ → t D σ H
end
abbrev EX (X : Cx) (C : Ct) (e : Expr) := Ev X.K C (canE X e)
abbrev EL (X : Cx) (C : Ct) (e : Expr) := EvL X.K C (canE X e)
abbrev ET (X : Cx) (C : Ct) (e : Expr) := EvT X.K C (canT X e)
abbrev EW (X : Cx) (C : Ct) (e : Expr) := EvT X.K C (canW X e)
abbrev EA (X : Cx) (C : Ct) (es : List Expr) := EvA X.K C (canA X es)
abbrev EK (X : Cx) (C : Ct) (ks : List Keyword) := EvA X.K C (canK X ks)
abbrev SX (X : Cx) (C : Ct) (st : Stmt) := Sv X.K C (canS X st)
abbrev SB (X : Cx) (C : Ct) (sts : List Stmt) := Sv X.K C (canB X sts)
section
variable {X : Cx} {C : Ct} {ρ : List Sl} {μ : List Ce} {n : Nat}
theorem ex_of {e : Expr} {t : TE} {Φ : PyData → Nat → Prop} (h : PE X e t) (v : Ev X.K C t ρ μ n Φ) : EX X C e ρ μ n Φ := by
  unfold EX canE
  exact fun ads σ B H Q r q pins s I => h.run pins s σ H Q I (v ads σ B H Q r q)
theorem el_of {e : Expr} {t : TE} {Φ : List PyData → Nat → Prop} (h : PE X e t) (v : EvL X.K C t ρ μ n Φ) : EL X C e ρ μ n Φ := by
  unfold EL canE
  exact fun ads σ B H Q r q pins s I => h.run pins s σ H Q I (v ads σ B H Q r q)
theorem et_of {e : Expr} {t : TT} {Φ : Bool → Nat → Prop} (h : PT X e t) (v : EvT X.K C t ρ μ n Φ) : ET X C e ρ μ n Φ := by
  unfold ET canT
  exact fun ads σ B H Q r q pins s I => h.run pins s σ H Q I (v ads σ B H Q r q)
theorem ew_of {e : Expr} {t : TT} {Φ : Bool → Nat → Prop} (h : PW X e t) (v : EvT X.K C t ρ μ n Φ) : EW X C e ρ μ n Φ := by
  unfold EW canW
  exact fun ads σ B H Q r q wh pins s I => h.run wh pins s σ H Q I (v ads σ B H Q r q)
theorem ea_of {es : List Expr} {t : TA} {Φ : List Ar → Nat → Prop} (h : PA X es t) (v : EvA X.K C t ρ μ n Φ) : EA X C es ρ μ n Φ := by
  unfold EA canA
  exact fun ads σ B H Q r q pos pins s I => h.run pos pins s σ H Q I (v ads σ B H Q r q)
theorem ek_of {ks : List Keyword} {t : TA} {Φ : List Ar → Nat → Prop} (h : PK X ks t) (v : EvA X.K C t ρ μ n Φ) : EK X C ks ρ μ n Φ := by
  unfold EK canK
  exact fun ads σ B H Q r q pos pins s I => h.run pos pins s σ H Q I (v ads σ B H Q r q)
theorem sx_of {st : Stmt} {t : TS} {Ψ : Out → Prop} (h : PS X st t) (v : Sv X.K C t ρ μ n Ψ) : SX X C st ρ μ n Ψ := by
  unfold SX canS
  exact fun ads σ B H D r a e pins s I => h.run pins s σ H D I (v ads σ B H D r a e)
theorem sb_of {sts : List Stmt} {t : TS} {Ψ : Out → Prop} (h : PSs X sts t) (v : Sv X.K C t ρ μ n Ψ) : SB X C sts ρ μ n Ψ := by
  unfold SB canB
  exact fun ads σ B H D r a e pins s I => h.run pins s σ H D I (v ads σ B H D r a e)
end

section
variable {K : Frg} {C : Ct} {ρ : List Sl} {μ : List Ce} {n : Nat}
theorem RepA.slotsUp {ads : List Addr} {B H B' H' : Hp} {σ σ' : L2.St} {ρ' : List Sl} {μ' : List Ce} {n' : Nat} (r : RepA K C ads B H σ ρ μ n) (r' : RepA K C ads B' H' σ' ρ' μ' n') (e : Same B B') : RepA K C ads B' H' σ ρ μ' n' :=
  r'.slots (Paired.mapP r.sl fun _ _ h => h.up e)
/-- the last list is let go as data -/
theorem RepA.last {ads : List Addr} {p : Addr} {B H B' H' : Hp} {σ σ' : L2.St} {ρ' : List Sl} {ds : List PyData} {n' : Nat} (r : RepA K C ads B H σ ρ μ n) (e : Same B B') (r' : RepA K C (ads ++ [p]) B' H' σ' ρ' (μ ++ [.ls ds]) n') :
    ∃ B2, Same B' B2 ∧ RepA K C ads B2 H' σ ρ μ n' ∧ Dq B2 (.ref p) (.list ds) := by
  have hl : ads.length = μ.length := Paired.length r.ce
  obtain ⟨B2, e2, r2, d2⟩ := r'.frz (k := ads.length) (p := p) (ds := ds) (by simp) (by rw [hl]; simp)
  refine ⟨B2, e2, ⟨r2.fr, Paired.mapP r.sl fun _ _ h => (h.up e).up e2, ?_, (List.nodup_append.mp r2.nd).1, fun q hq => r2.al q (List.mem_append_left _ hq), r2.fd, r2.tb, r2.tn⟩, d2⟩
  have hm : (μ ++ [Ce.ls ds]).set ads.length .no = μ ++ [.no] := by
    rw [hl, List.set_append_right _ _ (Nat.le_refl _)]
    simp
  have hc := r2.ce
  rw [hm] at hc
  have key : ∀ {l : List Addr} {m : List Ce} {x : Addr} {y : Ce}, l.length = m.length → Paired (CellOk K C.H0 B2 H') (l ++ [x]) (m ++ [y]) → Paired (CellOk K C.H0 B2 H') l m := by
    intro l
    induction l with
    | nil =>
      intro m x y hl h
      cases m with
      | nil => exact .nil
      | cons _ _ => cases hl
    | cons a l ih =>
      intro m x y hl h
      cases m with
      | nil => cases hl
      | cons b m =>
        cases h with
        | cons h1 h2 => exact .cons h1 (ih (Nat.succ.inj hl) h2)
  exact key hl hc
theorem ev_l {t : TE} {Φ : PyData → Nat → Prop} (h : EvL K C t ρ μ n fun ds n' => Φ (.list ds) n') : Ev K C t ρ μ n Φ := fun ads σ B H Q r q => h ads σ B H Q r fun p ds B' H' n' e r' f => by
  obtain ⟨B2, e2, r2, d2⟩ := r.last e r'
  exact q _ _ B2 H' n' (e.trans e2) r2 d2 f
theorem Ev.imp {t : TE} {Φ Φ' : PyData → Nat → Prop} (h : Ev K C t ρ μ n Φ) (f : ∀ d n, Φ d n → Φ' d n) : Ev K C t ρ μ n Φ' := fun ads σ B H Q r q => h ads σ B H Q r fun v d B' H' n' e r' p φ => q v d B' H' n' e r' p (f d n' φ)
theorem EvT.imp {t : TT} {Φ Φ' : Bool → Nat → Prop} (h : EvT K C t ρ μ n Φ) (f : ∀ d n, Φ d n → Φ' d n) : EvT K C t ρ μ n Φ' := fun ads σ B H Q r q => h ads σ B H Q r fun b B' H' n' e r' φ => q b B' H' n' e r' (f b n' φ)
theorem EvL.imp {t : TE} {Φ Φ' : List PyData → Nat → Prop} (h : EvL K C t ρ μ n Φ) (f : ∀ d n, Φ d n → Φ' d n) : EvL K C t ρ μ n Φ' := fun ads σ B H Q r q => h ads σ B H Q r fun p d B' H' n' e r' φ => q p d B' H' n' e r' (f d n' φ)
theorem Acc.imp {B0 : Hp} {D : Ends} {Ψ Ψ' : Out → Prop} (a : Acc K C B0 D Ψ') (f : ∀ o, Ψ o → Ψ' o) : Acc K C B0 D Ψ :=
  ⟨fun a1 a2 a3 a4 a5 a6 a7 h0 h1 h2 => a.nx a1 a2 a3 a4 a5 a6 a7 h0 h1 (f _ h2), fun a1 a2 a3 a4 a5 a6 a7 h0 h1 h2 => a.bk a1 a2 a3 a4 a5 a6 a7 h0 h1 (f _ h2), fun a1 a2 a3 a4 a5 a6 a7 h0 h1 h2 => a.ct a1 a2 a3 a4 a5 a6 a7 h0 h1 (f _ h2),
    fun a1 a2 a3 a4 a5 a6 a7 v d h0 h1 h2 h3 => a.rt a1 a2 a3 a4 a5 a6 a7 v d h0 h1 h2 (f _ h3)⟩
theorem Acc.up {B0 B1 : Hp} {D : Ends} {Ψ : Out → Prop} (a : Acc K C B0 D Ψ) (e : Same B0 B1) : Acc K C B1 D Ψ :=
  ⟨fun a1 a2 a3 a4 a5 a6 a7 h0 => a.nx a1 a2 a3 a4 a5 a6 a7 (e.trans h0), fun a1 a2 a3 a4 a5 a6 a7 h0 => a.bk a1 a2 a3 a4 a5 a6 a7 (e.trans h0), fun a1 a2 a3 a4 a5 a6 a7 h0 => a.ct a1 a2 a3 a4 a5 a6 a7 (e.trans h0),
    fun a1 a2 a3 a4 a5 a6 a7 v d h0 => a.rt a1 a2 a3 a4 a5 a6 a7 v d (e.trans h0)⟩
theorem Sv.imp {t : TS} {Ψ Ψ' : Out → Prop} (h : Sv K C t ρ μ n Ψ) (f : ∀ o, Ψ o → Ψ' o) : Sv K C t ρ μ n Ψ' := fun ads σ B H D r a e =>
  h ads σ B H D r (a.imp f) fun a1 a2 a3 a4 a5 a6 a7 x dd h1 h2 h3 h4 => e a1 a2 a3 a4 a5 a6 a7 x dd h1 h2 h3 (f _ h4)
/-- a one-place, a two-place operation by values: what it asks, what it gives (perhaps a new thing) -/
structure Gr (B H B' H' : Hp) : Prop where
  b : Same B B'
  h : Same H H'
  s : Same B' H'
  o : ∀ a, H a ≠ none → B a = none → B' a = none
  t : ∀ b ps, B' b = some (.tbl ps) → B b = some (.tbl ps)
theorem Gr.refl {B H : Hp} (s : Same B H) : Gr B H B H := ⟨Same.refl _, Same.refl _, s, fun _ _ h => h, fun _ _ h => h⟩
theorem Gr.new {B H : Hp} (s : Same B H) {p : Addr} {o : HO} (h : H p = none) (ho : ∀ ps, o ≠ .tbl ps := by exact fun _ z => nomatch z) : Gr B H (upd B p o) (upd H p o) :=
  ⟨same_new (back_none s h), same_new h, fun b u e => by
    by_cases hb : b = p
    · rw [hb, upd_same] at e ⊢
      exact e
    · rw [upd_ne hb] at e ⊢
      exact s b u e, fun a h1 h2 => by
    have : a ≠ p := fun z => h1 (by rw [z]; exact h)
    rw [upd_ne this]
    exact h2, fun b ps e => by
    by_cases hb : b = p
    · rw [hb, upd_same] at e
      exact absurd (Option.some.inj e) (ho ps)
    · rw [upd_ne hb] at e
      exact e⟩
theorem RepA.gr {ads : List Addr} {B H B' H' : Hp} {σ : L2.St} (r : RepA K C ads B H σ ρ μ n) (g : Gr B H B' H') : RepA K C ads B' H' σ ρ μ n := r.grow g.b g.h g.s g.o g.t
def Op2 (K : Frg) (r : R2) (d1 d2 d3 : PyData) : Prop := ∀ B H v1 v2 (Q : VK), Same B H → Dq B v1 d1 → Dq B v2 d2 → (∀ v B' H', Gr B H B' H' → Dq B' v d3 → Q v H') → r v1 v2 H Q
theorem ev_op2 {ta tb : TE} {r : R2} {Φ : PyData → Nat → Prop} (h : Ev K C ta ρ μ n fun d1 n1 => Ev K C tb ρ μ n1 fun d2 n2 => ∃ d3, Op2 K r d1 d2 d3 ∧ Φ d3 n2) : Ev K C (tOp r ta tb) ρ μ n Φ := fun ads σ B H Q rp q =>
  h ads σ B H _ rp fun v1 d1 B1 H1 n1 e1 r1 p1 h2 => h2 ads σ B1 H1 _ r1 fun v2 d2 B2 H2 n2 e2 r2 p2 ⟨d3, o, f⟩ => o B2 H2 v1 v2 Q r2.sub (dp_up e2 _ _ p1) p2 fun v B' H' g p3 =>
    q v d3 B' H' n2 ((e1.trans e2).trans g.b) (r2.gr g) p3 f
/-- tests by two-place operations -/
def Op2T (K : Frg) (r : R2) (d1 d2 : PyData) (b : Bool) : Prop := ∀ B H v1 v2 (Q : VK), Same B H → Dq B v1 d1 → Dq B v2 d2 → Q (.bl b) H → r v1 v2 H Q
theorem ev_cmp {ta tb : TE} {r : R2} {Φ : PyData → Nat → Prop} (h : Ev K C ta ρ μ n fun d1 n1 => Ev K C tb ρ μ n1 fun d2 n2 => ∃ b, Op2T K r d1 d2 b ∧ Φ (.bool b) n2) : Ev K C (tOp r ta tb) ρ μ n Φ := fun ads σ B H Q rp q =>
  h ads σ B H _ rp fun v1 d1 B1 H1 n1 e1 r1 p1 h2 => h2 ads σ B1 H1 _ r1 fun v2 d2 B2 H2 n2 e2 r2 p2 ⟨b, o, f⟩ => o B2 H2 v1 v2 Q r2.sub (dp_up e2 _ _ p1) p2 (q _ _ B2 H2 n2 (e1.trans e2) r2 (.bl b) f)
theorem et_cmp {ta tb : TE} {r : R2} {Φ : Bool → Nat → Prop} (h : Ev K C ta ρ μ n fun d1 n1 => Ev K C tb ρ μ n1 fun d2 n2 => ∃ b, Op2T K r d1 d2 b ∧ Φ b n2) : EvT K C (tTest (tOp r ta tb)) ρ μ n Φ := fun ads σ B H Q rp q =>
  h ads σ B H _ rp fun v1 d1 B1 H1 n1 e1 r1 p1 h2 => h2 ads σ B1 H1 _ r1 fun v2 d2 B2 H2 n2 e2 r2 p2 ⟨b, o, f⟩ => o B2 H2 v1 v2 _ r2.sub (dp_up e2 _ _ p1) p2 ⟨b, rfl, q _ B2 H2 n2 (e1.trans e2) r2 f⟩
theorem et_val {t : TE} {Φ : Bool → Nat → Prop} (h : Ev K C t ρ μ n fun d n' => ∃ b, d = .bool b ∧ Φ b n') : EvT K C (tB t) ρ μ n Φ := fun ads σ B H Q r q => h ads σ B H _ r fun v d B' H' n' e r' p ⟨b, ed, f⟩ => by
  subst ed
  exact ⟨b, dp_bl p, q b B' H' n' e r' f⟩
theorem et_not {t : TT} {Φ : Bool → Nat → Prop} (h : EvT K C t ρ μ n fun b n' => Φ (!b) n') : EvT K C (tNot t) ρ μ n Φ := fun ads σ B H Q r q => h ads σ B H _ r fun b B' H' n' e r' f => q (!b) B' H' n' e r' f
theorem et_and {t u : TT} {Φ : Bool → Nat → Prop} (h : EvT K C t ρ μ n fun b n' => if b = true then EvT K C u ρ μ n' Φ else Φ false n') : EvT K C (tAnd t u) ρ μ n Φ := fun ads σ B H Q r q => h ads σ B H _ r fun b B' H' n' e r' f => by
  cases b with
  | true =>
    rw [if_pos rfl] at f ⊢
    exact f ads σ B' H' Q r' fun b2 B2 H2 n2 e2 r2 f2 => q b2 B2 H2 n2 (e.trans e2) r2 f2
  | false =>
    rw [if_neg Bool.false_ne_true] at f ⊢
    exact q false B' H' n' e r' f
theorem et_or {t u : TT} {Φ : Bool → Nat → Prop} (h : EvT K C t ρ μ n fun b n' => if b = true then Φ true n' else EvT K C u ρ μ n' Φ) : EvT K C (tOr t u) ρ μ n Φ := fun ads σ B H Q r q => h ads σ B H _ r fun b B' H' n' e r' f => by
  cases b with
  | true =>
    rw [if_pos rfl] at f ⊢
    exact q true B' H' n' e r' f
  | false =>
    rw [if_neg Bool.false_ne_true] at f ⊢
    exact f ads σ B' H' Q r' fun b2 B2 H2 n2 e2 r2 f2 => q b2 B2 H2 n2 (e.trans e2) r2 f2
theorem ev_andV {t u : TE} {Φ : PyData → Nat → Prop} (h : Ev K C t ρ μ n fun d n' => ∃ b, d = .bool b ∧ if b = true then Ev K C u ρ μ n' Φ else Φ (.bool false) n') : Ev K C (tAndV t u) ρ μ n Φ := fun ads σ B H Q r q => h ads σ B H _ r fun v d B' H' n' e r' p ⟨b, ed, f⟩ => by
  subst ed
  refine ⟨b, dp_bl p, ?_⟩
  cases b with
  | true =>
    rw [if_pos rfl] at f ⊢
    exact f ads σ B' H' Q r' fun v2 d2 B2 H2 n2 e2 r2 p2 f2 => q v2 d2 B2 H2 n2 (e.trans e2) r2 p2 f2
  | false =>
    rw [if_neg Bool.false_ne_true] at f ⊢
    exact q _ _ B' H' n' e r' (.bl false) f
theorem ev_orV {t u : TE} {Φ : PyData → Nat → Prop} (h : Ev K C t ρ μ n fun d n' => ∃ b, d = .bool b ∧ if b = true then Φ (.bool true) n' else Ev K C u ρ μ n' Φ) : Ev K C (tOrV t u) ρ μ n Φ := fun ads σ B H Q r q => h ads σ B H _ r fun v d B' H' n' e r' p ⟨b, ed, f⟩ => by
  subst ed
  refine ⟨b, dp_bl p, ?_⟩
  cases b with
  | true =>
    rw [if_pos rfl] at f ⊢
    exact q _ _ B' H' n' e r' (.bl true) f
  | false =>
    rw [if_neg Bool.false_ne_true] at f ⊢
    exact f ads σ B' H' Q r' fun v2 d2 B2 H2 n2 e2 r2 p2 f2 => q v2 d2 B2 H2 n2 (e.trans e2) r2 p2 f2
theorem ev_notV {t : TE} {Φ : PyData → Nat → Prop} (h : Ev K C t ρ μ n fun d n' => ∃ b, d = .bool b ∧ Φ (.bool (!b)) n') : Ev K C (tNotV t) ρ μ n Φ := fun ads σ B H Q r q => h ads σ B H _ r fun v d B' H' n' e r' p ⟨b, ed, f⟩ => by
  subst ed
  exact ⟨b, dp_bl p, q _ _ B' H' n' e r' (.bl _) f⟩
theorem ev_if {t : TT} {ta tb : TE} {Φ : PyData → Nat → Prop} (h : EvT K C t ρ μ n fun b n' => if b = true then Ev K C ta ρ μ n' Φ else Ev K C tb ρ μ n' Φ) : Ev K C (tIf t ta tb) ρ μ n Φ := fun ads σ B H Q r q => h ads σ B H _ r fun b B' H' n' e r' f => by
  cases b with
  | true =>
    rw [if_pos rfl] at f ⊢
    exact f ads σ B' H' Q r' fun v2 d2 B2 H2 n2 e2 r2 p2 f2 => q v2 d2 B2 H2 n2 (e.trans e2) r2 p2 f2
  | false =>
    rw [if_neg Bool.false_ne_true] at f ⊢
    exact f ads σ B' H' Q r' fun v2 d2 B2 H2 n2 e2 r2 p2 f2 => q v2 d2 B2 H2 n2 (e.trans e2) r2 p2 f2
theorem el_if {t : TT} {ta tb : TE} {Φ : List PyData → Nat → Prop} (h : EvT K C t ρ μ n fun b n' => if b = true then EvL K C ta ρ μ n' Φ else EvL K C tb ρ μ n' Φ) : EvL K C (tIf t ta tb) ρ μ n Φ := fun ads σ B H Q r q => h ads σ B H _ r fun b B' H' n' e r' f => by
  cases b with
  | true =>
    rw [if_pos rfl] at f ⊢
    exact f ads σ B' H' Q r' fun v2 d2 B2 H2 n2 e2 r2 f2 => q v2 d2 B2 H2 n2 (e.trans e2) r2 f2
  | false =>
    rw [if_neg Bool.false_ne_true] at f ⊢
    exact f ads σ B' H' Q r' fun v2 d2 B2 H2 n2 e2 r2 f2 => q v2 d2 B2 H2 n2 (e.trans e2) r2 f2
theorem ev_un {t : TE} {r : V → Hp → VK → Prop} {Φ : PyData → Nat → Prop} (h : Ev K C t ρ μ n fun d n' => ∃ d2, (∀ B H v (Q : VK), Same B H → Dq B v d → (∀ v2, Dq B v2 d2 → Q v2 H) → r v H Q) ∧ Φ d2 n') : Ev K C (tUn r t) ρ μ n Φ := fun ads σ B H Q rp q => h ads σ B H _ rp fun v d B' H' n' e r' p ⟨d2, o, f⟩ =>
  o B' H' v Q r'.sub p fun v2 p2 => q v2 d2 B' H' n' e r' p2 f
theorem ea_nil {Φ : List Ar → Nat → Prop} (f : Φ [] n) : EvA K C tNil ρ μ n Φ := fun ads σ B H Q r q => q [] [] B H n (Same.refl _) r .nil f
theorem ars_up {fa : Option Addr} {B B' : Hp} (e : Same B B') {vs : List V} {as : List Ar} (h : Paired (ArOk K fa B) vs as) : Paired (ArOk K fa B') vs as := Paired.mapP h fun v a h => by
  cases a with
  | da d => exact dp_up e _ _ h
  | fd => exact h
theorem ea_cons {te : TE} {ta : TA} {Φ : List Ar → Nat → Prop} (h : Ev K C te ρ μ n fun d n1 => EvA K C ta ρ μ n1 fun as n2 => Φ (.da d :: as) n2) : EvA K C (tCons te ta) ρ μ n Φ := fun ads σ B H Q r q =>
  h ads σ B H _ r fun v d B1 H1 n1 e1 r1 p1 h2 => h2 ads σ B1 H1 _ r1 fun vs as B2 H2 n2 e2 r2 p2 f => q (v :: vs) (.da d :: as) B2 H2 n2 (e1.trans e2) r2 (.cons (dp_up e2 _ _ p1) p2) f
theorem ea_fd {i : Nat} {ta : TA} {Φ : List Ar → Nat → Prop} (hi : ρ[i]? = some .fd) (h : EvA K C ta ρ μ n fun as n2 => Φ (.fd :: as) n2) : EvA K C (tCons (tVar i) ta) ρ μ n Φ := fun ads σ B H Q r q => by
  obtain ⟨o, e1, a, e2, e3⟩ := pr_get r.sl hi
  subst e3
  exact ⟨.ref a, e1, h ads σ B H _ r fun vs as B2 H2 n2 e r2 p2 f => q (.ref a :: vs) (.fd :: as) B2 H2 n2 e r2 (.cons ⟨a, e2, rfl⟩ p2) f⟩
theorem ev_var {i : Nat} {d : PyData} {Φ : PyData → Nat → Prop} (hi : ρ[i]? = some (.im d)) (f : Φ d n) : Ev K C (tVar i) ρ μ n Φ := fun ads σ B H Q r q => by
  obtain ⟨o, e1, v, e2, p⟩ := pr_get r.sl hi
  subst e2
  exact ⟨v, e1, q v d B H n (Same.refl _) r p f⟩
theorem ev_c {v : V} {d : PyData} {Φ : PyData → Nat → Prop} (hd : ∀ B, Dq B v d) (f : Φ d n) : Ev K C (tC v) ρ μ n Φ := fun ads σ B H Q r q => q v d B H n (Same.refl _) r (hd B) f
theorem das {fa : Option Addr} {B : Hp} : ∀ {vs : List V} {ds : List PyData}, Paired (ArOk K fa B) vs (ds.map .da) → DqAll B vs ds
  | _, [], h => by cases h; exact .nil
  | _, d :: ds, h => by
    cases h with
    | cons h1 h2 => exact .cons h1 (das h2)
theorem ev_tup {ta : TA} {Φ : PyData → Nat → Prop} (h : EvA K C ta ρ μ n fun as n1 => ∃ ds, as = ds.map .da ∧ ds.length ≤ 1000 ∧ Φ (.tuple ds) n1) : Ev K C (tTup ta) ρ μ n Φ := fun ads σ B H Q r q => h ads σ B H _ r fun vs as B1 H1 n1 e1 r1 p1 ⟨ds, ea, hl, f⟩ => by
  subst ea
  have hd := das p1
  refine ⟨Nat.le_trans (by rw [dps_len hd]; exact hl) (by decide), fun p hp => ?_⟩
  have g := Gr.new (o := .tup vs) r1.sub hp
  exact q _ _ _ _ n1 (e1.trans g.b) (r1.gr g) (.tup upd_same (dps_up g.b _ _ hd)) f
theorem el_lst {ta : TA} {Φ : List PyData → Nat → Prop} (h : EvA K C ta ρ μ n fun as n1 => ∃ ds, as = ds.map .da ∧ ds.length ≤ 1000 ∧ Φ ds n1) : EvL K C (tLst ta) ρ μ n Φ := fun ads σ B H Q r q => h ads σ B H _ r fun vs as B1 H1 n1 e1 r1 p1 ⟨ds, ea, hl, f⟩ => by
  subst ea
  have hd := das p1
  refine ⟨Nat.le_trans (by rw [dps_len hd]; exact hl) (by decide), fun p hp => ?_⟩
  exact q p ds B1 _ n1 e1 (r1.cell hp hd) f
/-- a call of a built-in on data that gives data -/
def Cal (K : Frg) (r : List V → Hp → VK → Prop) (ds : List PyData) (d : PyData) : Prop := ∀ B H vs (Q : VK), Same B H → DqAll B vs ds → (∀ v B' H', Gr B H B' H' → Dq B' v d → Q v H') → r vs H Q
theorem ev_cb {ta : TA} {r : List V → Hp → VK → Prop} {Φ : PyData → Nat → Prop} (h : EvA K C ta ρ μ n fun as n1 => ∃ ds d, as = ds.map .da ∧ Cal K r ds d ∧ Φ d n1) : Ev K C (tCB r ta) ρ μ n Φ := fun ads σ B H Q rp q => h ads σ B H _ rp fun vs as B1 H1 n1 e1 r1 p1 ⟨ds, d, ea, c, f⟩ => by
  subst ea
  exact c B1 H1 vs Q r1.sub (das p1) fun v B' H' g p => q v d B' H' n1 (e1.trans g.b) (r1.gr g) p f
/-- .. a new list -/
def CalL (K : Frg) (r : List V → Hp → VK → Prop) (ds : List PyData) (es : List PyData) : Prop := ∀ B H vs (Q : VK), Same B H → DqAll B vs ds → (∀ p ws, H p = none → DqAll B ws es → Q (.ref p) (upd H p (.lst ws))) → r vs H Q
theorem el_cb {ta : TA} {r : List V → Hp → VK → Prop} {Φ : List PyData → Nat → Prop} (h : EvA K C ta ρ μ n fun as n1 => ∃ ds es, as = ds.map .da ∧ CalL K r ds es ∧ Φ es n1) : EvL K C (tCB r ta) ρ μ n Φ := fun ads σ B H Q rp q => h ads σ B H _ rp fun vs as B1 H1 n1 e1 r1 p1 ⟨ds, es, ea, c, f⟩ => by
  subst ea
  exact c B1 H1 vs Q r1.sub (das p1) fun p ws hp hd => q p es B1 _ n1 e1 (r1.cell hp hd) f
def Op2L (K : Frg) (r : R2) (d1 d2 : PyData) (es : List PyData) : Prop := ∀ B H v1 v2 (Q : VK), Same B H → Dq B v1 d1 → Dq B v2 d2 → (∀ p ws, H p = none → DqAll B ws es → Q (.ref p) (upd H p (.lst ws))) → r v1 v2 H Q
theorem el_op2 {ta tb : TE} {r : R2} {Φ : List PyData → Nat → Prop} (h : Ev K C ta ρ μ n fun d1 n1 => Ev K C tb ρ μ n1 fun d2 n2 => ∃ es, Op2L K r d1 d2 es ∧ Φ es n2) : EvL K C (tOp r ta tb) ρ μ n Φ := fun ads σ B H Q rp q =>
  h ads σ B H _ rp fun v1 d1 B1 H1 n1 e1 r1 p1 h2 => h2 ads σ B1 H1 _ r1 fun v2 d2 B2 H2 n2 e2 r2 p2 ⟨es, o, f⟩ => o B2 H2 v1 v2 Q r2.sub (dp_up e2 _ _ p1) p2 fun p ws hp hd => q p es B2 _ n2 (e1.trans e2) (r2.cell hp hd) f
end
end Pb

set_option Elab.async false
set_option linter.all false
set_option maxRecDepth 100000
set_option maxHeartbeats 4000000
/-! PbC: promises, calls, statements, loops. -/
namespace Pb
open PySem PySem.Spec PyProof.Rows L2

abbrev Pre := List Ar → Nat → (Ou → Nat → Prop) → Prop
def mOf (fa : Option Addr) (T : List (Addr × Str)) (a : Addr) : Prop := fa = some a ∨ ∃ p ∈ T, p.1 = a
/-- the promise of a def by what it does with data -/
def prom (K : Frg) (T : List (Addr × Str)) (pre : Pre) : Sp := fun vs H Q E => ∃ (fa : Option Addr) (B : Hp) (as : List Ar) (n : Nat) (Φ : Ou → Nat → Prop),
  Same B H ∧ Paired (ArOk K fa B) vs as ∧ (∀ a, fa = some a → B a = none ∧ FeedOk K B H a n) ∧ LamX.Tabs T H ∧ (∀ p ∈ T, B p.1 = none ∧ H p.1 ≠ none ∧ fa ≠ some p.1) ∧ pre as n Φ ∧
  ∀ B' H' n', Fr (mOf fa T) B H B' H' → (∀ a, fa = some a → FeedOk K B' H' a n') → LamX.Tabs T H' →
    (∀ v d, Dq B' v d → Φ (.ok d) n' → Q v H') ∧ (∀ x dd, B' dd = none → H' dd = some (.xd (Xn.fs x)) → Φ (.er x) n' → E (.ref (Xn.cl K x)) (some dd) H')
section
variable {K : Frg} {C : Ct} {ρ : List Sl} {μ : List Ce} {n n' : Nat}
theorem RepA.after {ads : List Addr} {B H B' H' : Hp} {σ : L2.St} (r : RepA K C ads B H σ ρ μ n) (f : Fr (mOf C.fa C.T) B H B' H') (fd : ∀ a, C.fa = some a → FeedOk K B' H' a n') (tb : LamX.Tabs C.T H') : RepA K C ads B' H' σ ρ μ n' := by
  refine ⟨r.fr.trans f, Paired.mapP r.sl fun _ _ h => h.up f.b, Paired.mapP r.ce fun p c h => ?_, r.nd, fun p hp z => r.al p hp (f.thr p z), fun a ha => ?_, tb, fun p hp => ?_⟩
  · cases c with
    | no =>
      obtain ⟨vs, h⟩ := h
      exact ⟨vs, f.b _ _ h⟩
    | xd q fs =>
      have h' : H p = some (.xd fs) := h.2
      refine ⟨h.1, f.kp p _ h' fun m => ?_⟩
      rcases m with e | ⟨t, ht, e⟩
      · obtain ⟨_, _, c, ns, i, l, k, h3, _⟩ := r.fd p e
        rw [h3] at h'
        cases h'
      · obtain ⟨ps, h3, _⟩ := r.tb t ht
        rw [e, h'] at h3
        cases h3
    | ls ds =>
      obtain ⟨h1, h2, vs, h3, h4⟩ := h
      have nm : ¬ mOf C.fa C.T p := fun m => by
        rcases m with e | ⟨t, ht, e⟩
        · exact (r.fd p e).1 h1
        · exact (r.tn t ht).1 (by rw [e]; exact h1)
      exact ⟨h1, f.old p (by rw [h3]; simp) h2, vs, f.kp p _ h3 nm, dps_up f.b _ _ h4⟩
  · obtain ⟨h1, h2, h3⟩ := r.fd a ha
    exact ⟨h1, f.old a (fun z => h1 (r.fr.thr a z)) h2, fd a ha⟩
  · obtain ⟨h1, h2, h3⟩ := r.tn p hp
    exact ⟨h1, f.old _ (fun z => h1 (r.fr.thr _ z)) h2, h3⟩
/-- what a caller has to give and gets -/
theorem prom_call {T : List (Addr × Str)} {pre : Pre} {ads : List Addr} {B H : Hp} {σ : L2.St} {vs : List V} {as : List Ar} {Q : VK} {E : XK} {Θ : Ou → Nat → Prop} (hT : C.T = T) (r : RepA K C ads B H σ ρ μ n) (p : Paired (ArOk K C.fa B) vs as) (h : pre as n Θ)
    (q : ∀ v d B' H' n', Same B B' → RepA K C ads B' H' σ ρ μ n' → Dq B' v d → Θ (.ok d) n' → Q v H') (e : ∀ x dd B' H' n', RepA K C ads B' H' σ ρ μ n' → B' dd = none → H' dd = some (.xd (Xn.fs x)) → Θ (.er x) n' → E (.ref (Xn.cl K x)) (some dd) H') :
    prom K T pre vs H Q E := by
  subst hT
  refine ⟨C.fa, B, as, n, Θ, r.sub, p, fun a ha => (r.fd a ha).2, r.tb, fun t ht => ⟨(r.tn t ht).2.1, fun z => (r.tn t ht).1 (r.fr.thr _ z), (r.tn t ht).2.2⟩, h, fun B' H' n' f fd tb => ?_⟩
  have r' := r.after f fd tb
  exact ⟨fun v d hd hθ => q v d B' H' n' f.b r' hd hθ, fun x dd h1 h2 hθ => e x dd B' H' n' r' h1 h2 hθ⟩
theorem ev_call {T : List (Addr × Str)} {pre : Pre} {ta : TA} {Φ : PyData → Nat → Prop} {E : XK} (hT : C.T = T) (h : EvA K C ta ρ μ n fun as n1 => pre as n1 fun o n2 => match o with | .ok d => Φ d n2 | .er _ => False) : Ev K C (tCall (prom K T pre) [] E ta) ρ μ n Φ := fun ads σ B H Q r q =>
  h ads σ B H _ r fun vs as B1 H1 n1 e1 r1 p1 hp => by
    rw [List.append_nil]
    exact prom_call hT r1 p1 hp (fun v d B' H' n' e2 r' hd hφ => q v d B' H' n' (e1.trans e2) r' hd hφ) fun _ _ _ _ _ _ _ _ hf => hf.elim
theorem ev_callN {T : List (Addr × Str)} {pre : Pre} {tk : TA} {m : Nat} {gV : List V → List V → List V} {Φ : PyData → Nat → Prop} {E : XK} (hT : C.T = T) (pm : List Ar → List Ar) (hm : ∀ fa B vs as, as.length = m → Paired (ArOk K fa B) vs as → Paired (ArOk K fa B) (gV [] vs) (pm as))
    (h : EvA K C tk ρ μ n fun as n1 => as.length = m ∧ pre (pm as) n1 fun o n2 => match o with | .ok d => Φ d n2 | .er _ => False) : Ev K C (tCallN 0 m (prom K T pre) gV E tNil tk) ρ μ n Φ := fun ads σ B H Q r q =>
  h ads σ B H _ r fun vs as B1 H1 n1 e1 r1 p1 ⟨hl, hp⟩ => ⟨rfl, (Paired.length p1).trans hl, prom_call hT r1 (hm _ _ _ _ hl p1) hp (fun v d B' H' n' e2 r' hd hφ => q v d B' H' n' (e1.trans e2) r' hd hφ) fun _ _ _ _ _ _ _ _ hf => hf.elim⟩
/-- a call as a statement, or what a call makes of an outcome -/
def ouS (ρ : List Sl) (μ : List Ce) (Ψ : Out → Prop) (o : Ou) (n : Nat) : Prop := match o with
  | .ok _ => Ψ (.nx ρ μ n)
  | .er x => Ψ (.er x n)
theorem sv_call {T : List (Addr × Str)} {pre : Pre} {ta : TA} {Ψ : Out → Prop} (hT : C.T = T) (h : EvA K C ta ρ μ n fun as n1 => pre as n1 (ouS ρ μ Ψ)) : Sv K C (tDrop (tCall (prom K T pre) [] C.E ta)) ρ μ n Ψ := fun ads σ B H D r a e =>
  h ads σ B H _ r fun vs as B1 H1 n1 e1 r1 p1 hp => by
    rw [List.append_nil]
    exact prom_call hT r1 p1 hp (fun v d B' H' n' e2 r' hd hφ => a.nx _ _ _ _ _ _ _ (e1.trans e2) r' hφ) fun x dd B' H' n' r' h1 h2 hφ => e _ _ _ _ _ _ _ x dd r' h1 h2 hφ

/-! ### statements -/
/-- a statement, then the rest -/
def nxt (k : List Sl → List Ce → Nat → Prop) (Ψ : Out → Prop) : Out → Prop
  | .nx ρ μ n => k ρ μ n
  | .bk ρ μ n => Ψ (.bk ρ μ n)
  | .ct ρ μ n => Ψ (.ct ρ μ n)
  | .rt d n => Ψ (.rt d n)
  | .er x n => Ψ (.er x n)
theorem RepA.setI {ads : List Addr} {B H : Hp} {σ : L2.St} (r : RepA K C ads B H σ ρ μ n) (i : Nat) {v : V} {d : PyData} (h : Dq B v d) : RepA K C ads B H (σ.set i (some v)) (ρ.set i (.im d)) μ n := r.setS i (s := .im d) ⟨v, rfl, h⟩
theorem RepA.setC {ads : List Addr} {B H : Hp} {σ : L2.St} (r : RepA K C ads B H σ ρ μ n) (i k : Nat) {p : Addr} (h : ads[k]? = some p) : RepA K C ads B H (σ.set i (some (.ref p))) (ρ.set i (.ce k)) μ n := r.setS i (s := .ce k) ⟨p, h, rfl⟩
theorem sv_seq {t u : TS} {Ψ : Out → Prop} (h : Sv K C t ρ μ n (nxt (fun ρ' μ' n' => Sv K C u ρ' μ' n' Ψ) Ψ)) : Sv K C (tSeq t u) ρ μ n Ψ := fun ads σ B H D r a e =>
  h ads σ B H { D with nx := u D } r ⟨fun ads' σ' B' H' ρ' μ' n' s r' hk => hk ads' σ' B' H' D r' (a.up s) e, a.bk, a.ct, a.rt⟩ e
theorem sv_next {Ψ : Out → Prop} (f : Ψ (.nx ρ μ n)) : Sv K C tNext ρ μ n Ψ := fun ads σ B H D r a e => a.nx _ _ _ _ _ _ _ (Same.refl _) r f
theorem sv_brk {Ψ : Out → Prop} (f : Ψ (.bk ρ μ n)) : Sv K C tBreak ρ μ n Ψ := fun ads σ B H D r a e => a.bk _ _ _ _ _ _ _ (Same.refl _) r f
theorem sv_cnt {Ψ : Out → Prop} (f : Ψ (.ct ρ μ n)) : Sv K C tCont ρ μ n Ψ := fun ads σ B H D r a e => a.ct _ _ _ _ _ _ _ (Same.refl _) r f
theorem sv_drop {te : TE} {Ψ : Out → Prop} (h : Ev K C te ρ μ n fun _ n' => Ψ (.nx ρ μ n')) : Sv K C (tDrop te) ρ μ n Ψ := fun ads σ B H D r a e => h ads σ B H _ r fun v d B' H' n' e' r' p f => a.nx _ _ _ _ _ _ _ e' r' f
theorem sv_ret {te : TE} {Ψ : Out → Prop} (h : Ev K C te ρ μ n fun d n' => Ψ (.rt d n')) : Sv K C (tRet te) ρ μ n Ψ := fun ads σ B H D r a e => h ads σ B H _ r fun v d B' H' n' e' r' p f => a.rt _ _ _ _ _ _ _ v d e' r' p f
theorem sv_if {t : TT} {u v : TS} {Ψ : Out → Prop} (h : EvT K C t ρ μ n fun b n' => if b = true then Sv K C u ρ μ n' Ψ else Sv K C v ρ μ n' Ψ) : Sv K C (tIfS t u v) ρ μ n Ψ := fun ads σ B H D r a e => h ads σ B H _ r fun b B' H' n' e' r' f => by
  cases b with
  | true =>
    rw [if_pos rfl] at f ⊢
    exact f ads σ B' H' D r' (a.up e') e
  | false =>
    rw [if_neg Bool.false_ne_true] at f ⊢
    exact f ads σ B' H' D r' (a.up e') e
theorem sv_asg {te : TE} {i : Nat} {Ψ : Out → Prop} (h : Ev K C te ρ μ n fun d n' => Ψ (.nx (ρ.set i (.im d)) μ n')) : Sv K C (tAsg te (gName i)) ρ μ n Ψ := fun ads σ B H D r a e => h ads σ B H _ r fun v d B' H' n' e' r' p f => a.nx _ _ _ _ _ _ _ e' (r'.setI i p) f
/-- the name gets a list of its own -/
theorem sv_asgL {te : TE} {i : Nat} {Ψ : Out → Prop} (h : EvL K C te ρ μ n fun ds n' => Ψ (.nx (ρ.set i (.ce μ.length)) (μ ++ [.ls ds]) n')) : Sv K C (tAsg te (gName i)) ρ μ n Ψ := fun ads σ B H D r a e => h ads σ B H _ r fun p ds B' H' n' e' r' f =>
  a.nx _ _ _ _ _ _ _ e' (r'.setC i μ.length (by rw [← Paired.length r.ce]; simp)) f
theorem sv_par {ta : TA} {i j : Nat} {Ψ : Out → Prop} (h : EvA K C ta ρ μ n fun as n' => ∃ d e, as = [.da d, .da e] ∧ Ψ (.nx ((ρ.set i (.im d)).set j (.im e)) μ n')) : Sv K C (tPar i j ta) ρ μ n Ψ := fun ads σ B H D r a e => h ads σ B H _ r fun vs as B' H' n' e' r' p ⟨d, f, ea, k⟩ => by
  subst ea
  cases p with
  | cons p1 p =>
    cases p with
    | cons p2 p =>
      cases p
      exact ⟨_, _, rfl, a.nx _ _ _ _ _ _ _ e' ((r'.setI i p1).setI j p2) k⟩
theorem sv_par3 {ta : TA} {i j l : Nat} {Ψ : Out → Prop} (h : EvA K C ta ρ μ n fun as n' => ∃ d e f, as = [.da d, .da e, .da f] ∧ Ψ (.nx (((ρ.set i (.im d)).set j (.im e)).set l (.im f)) μ n')) : Sv K C (tPar3 i j l ta) ρ μ n Ψ := fun ads σ B H D r a e => h ads σ B H _ r fun vs as B' H' n' e' r' p ⟨d, f, g, ea, k⟩ => by
  subst ea
  cases p with
  | cons p1 p =>
    cases p with
    | cons p2 p =>
      cases p with
      | cons p3 p =>
        cases p
        exact ⟨_, _, _, rfl, a.nx _ _ _ _ _ _ _ e' (((r'.setI i p1).setI j p2).setI l p3) k⟩
/-- a, b = e, []: the second a list of its own -/
theorem sv_parL {ta tb : TE} {i j : Nat} {Ψ : Out → Prop} (h : Ev K C ta ρ μ n fun d n1 => EvL K C tb ρ μ n1 fun ds n2 => Ψ (.nx ((ρ.set i (.im d)).set j (.ce μ.length)) (μ ++ [.ls ds]) n2)) : Sv K C (tPar i j (tCons ta (tCons tb tNil))) ρ μ n Ψ := fun ads σ B H D r a e =>
  h ads σ B H _ r fun v d B1 H1 n1 e1 r1 p1 h2 => h2 ads σ B1 H1 _ r1 fun p ds B2 H2 n2 e2 r2 f =>
    ⟨_, _, rfl, a.nx _ _ _ _ _ _ _ (e1.trans e2) ((r2.setI i (dp_up e2 _ _ p1)).setC j μ.length (by rw [← Paired.length r.ce]; simp)) f⟩
/-- a, b = [], e -/
theorem sv_parK {ta tb : TE} {i j : Nat} {Ψ : Out → Prop} (h : EvL K C ta ρ μ n fun ds n1 => Ev K C tb ρ (μ ++ [.ls ds]) n1 fun d n2 => Ψ (.nx ((ρ.set i (.ce μ.length)).set j (.im d)) (μ ++ [.ls ds]) n2)) : Sv K C (tPar i j (tCons ta (tCons tb tNil))) ρ μ n Ψ := fun ads σ B H D r a e =>
  h ads σ B H _ r fun p ds B1 H1 n1 e1 r1 h2 => h2 _ σ B1 H1 _ r1 fun v d B2 H2 n2 e2 r2 p2 f =>
    ⟨_, _, rfl, a.nx _ _ _ _ _ _ _ (e1.trans e2) ((r2.setC i μ.length (by rw [← Paired.length r.ce]; simp)).setI j p2) f⟩
/-- a, b = [], [] -/
theorem sv_parLL {ta tb : TE} {i j : Nat} {Ψ : Out → Prop} (h : EvL K C ta ρ μ n fun ds n1 => EvL K C tb ρ (μ ++ [.ls ds]) n1 fun es n2 => Ψ (.nx ((ρ.set i (.ce μ.length)).set j (.ce (μ.length + 1))) (μ ++ [.ls ds] ++ [.ls es]) n2)) : Sv K C (tPar i j (tCons ta (tCons tb tNil))) ρ μ n Ψ := fun ads σ B H D r a e =>
  h ads σ B H _ r fun p ds B1 H1 n1 e1 r1 h2 => h2 _ σ B1 H1 _ r1 fun q es B2 H2 n2 e2 r2 f => by
    have l := Paired.length r.ce
    exact ⟨_, _, rfl, a.nx _ _ _ _ _ _ _ (e1.trans e2) ((r2.setC i μ.length (by rw [← l]; simp)).setC j (μ.length + 1) (by rw [← l]; simp)) f⟩
/-- x.append(e), x a list of its own -/
theorem sv_app {te : TE} {i k : Nat} {ds : List PyData} {Ψ : Out → Prop} (hi : ρ[i]? = some (.ce k)) (hm : μ[k]? = some (.ls ds)) (hl : ds.length < 1000000) (h : Ev K C te ρ μ n fun d n' => Ψ (.nx ρ (μ.set k (.ls (ds ++ [d]))) n')) :
    Sv K C (tDrop (tBM K "list" rAppend (tVar i) (tCons te tNil))) ρ μ n Ψ := fun ads σ B H D r a e => by
  obtain ⟨o, e1, p, e2, e3⟩ := pr_get r.sl hi
  subst e3
  obtain ⟨p', e4, c1, c2, vs, c3, c4⟩ := pr_get r.ce hm
  rw [e2] at e4
  cases e4
  refine ⟨_, e1, .inl ⟨rfl, _, .inl (.inl c3)⟩, h ads σ B H _ r fun v d B' H' n' e' r' pd f => ?_⟩
  obtain ⟨p'', e5, c1', c2', vs', c3', c4'⟩ := pr_get r'.ce hm
  rw [e2] at e5
  cases e5
  refine ⟨p, vs', v, rfl, rfl, c3', ?_, a.nx _ _ _ _ _ _ _ e' (r'.put e2 hm (dps_app c4' (.cons pd .nil))) f⟩
  rw [dps_len c4', sizeLine_eq]
  omega
/-- a list of its own is no longer changed -/
theorem sv_frz {t : TS} (i k : Nat) {ds : List PyData} {Ψ : Out → Prop} (hi : ρ[i]? = some (.ce k)) (hm : μ[k]? = some (.ls ds)) (h : Sv K C t (ρ.set i (.im (.list ds))) (μ.set k .no) n Ψ) : Sv K C t ρ μ n Ψ := fun ads σ B H D r a e => by
  obtain ⟨o, e1, p, e2, e3⟩ := pr_get r.sl hi
  subst e3
  obtain ⟨B', eB, r', dp⟩ := r.frz e2 hm
  have hs : σ.set i (some (.ref p)) = σ := List.ext_getElem? fun j => by
    by_cases hj : i = j
    · subst hj
      rw [List.getElem?_set_self (List.getElem?_eq_some_iff.mp e1).1, e1]
    · rw [List.getElem?_set_ne hj]
  have r2 := r'.setI i dp
  rw [hs] at r2
  exact h ads σ B' H D r2 (a.up eB) e
/-- the judgement may be had by what is so of the state -/
theorem sv_ex {t : TS} {Ψ : Out → Prop} (h : ∀ ads σ B H, RepA K C ads B H σ ρ μ n → Sv K C t ρ μ n Ψ) : Sv K C t ρ μ n Ψ := fun ads σ B H D r a e => h ads σ B H r ads σ B H D r a e
/-- what is wanted of a turn of a loop -/
def lp (I : List Sl → List Ce → Nat → Prop) (Ψ : Out → Prop) : Out → Prop
  | .nx ρ μ n => I ρ μ n
  | .ct ρ μ n => I ρ μ n
  | .bk ρ μ n => Ψ (.nx ρ μ n)
  | .rt d n => Ψ (.rt d n)
  | .er x n => Ψ (.er x n)
theorem acc_lp {B0 : Hp} {D : Ends} {Ψ : Out → Prop} {I : List Sl → List Ce → Nat → Prop} {N : L2.St → Hp → Prop} (a : Acc K C B0 D Ψ) (h : ∀ ads σ B H ρ μ n, Same B0 B → RepA K C ads B H σ ρ μ n → I ρ μ n → N σ H) : Acc K C B0 { D with nx := N, ct := N, bk := D.nx } (lp I Ψ) :=
  ⟨h, fun ads σ B H ρ μ n s r f => a.nx ads σ B H ρ μ n s r f, h, fun ads σ B H ρ μ n v d s r p f => a.rt ads σ B H ρ μ n v d s r p f⟩
theorem acce_lp {Ψ : Out → Prop} {I : List Sl → List Ce → Nat → Prop} (e : AccE K C Ψ) : AccE K C (lp I Ψ) := e
theorem sv_while {t : TT} {u : TS} {Ψ : Out → Prop} (I : Nat → List Sl → List Ce → Nat → Prop) (m : Nat) (h0 : I m ρ μ n)
    (hs : ∀ m ρ' μ' n', I m ρ' μ' n' → EvT K C t ρ' μ' n' fun b n2 => if b = true then Sv K C u ρ' μ' n2 (lp (fun ρ3 μ3 n3 => ∃ m', m' < m ∧ I m' ρ3 μ3 n3) Ψ) else Ψ (.nx ρ' μ' n2)) : Sv K C (tWhile t u) ρ μ n Ψ := fun ads σ B H D r a e => by
  refine ⟨fun m σ H => ∃ ads B' ρ' μ' n', Same B B' ∧ RepA K C ads B' H σ ρ' μ' n' ∧ I m ρ' μ' n', ⟨m, ads, B, ρ, μ, n, Same.refl _, r, h0⟩, fun m σ H ⟨ads, B1, ρ', μ', n', s1, r, hI⟩ => ?_⟩
  refine hs m ρ' μ' n' hI ads σ B1 H _ r fun b B2 H' n2 e' r' f => ?_
  cases b with
  | true =>
    rw [if_pos rfl] at f ⊢
    exact ⟨fun σ3 H3 => ∃ m', m' < m ∧ ∃ ads B' ρ' μ' n', Same B B' ∧ RepA K C ads B' H3 σ3 ρ' μ' n' ∧ I m' ρ' μ' n', fun σ3 H3 hn => hn,
      f ads σ B2 H' _ r' (acc_lp (a.up (s1.trans e')) fun ads σ B3 H ρ3 μ3 n3 s3 r3 ⟨m', hm, hI'⟩ => ⟨m', hm, ads, B3, ρ3, μ3, n3, (s1.trans e').trans s3, r3, hI'⟩) e⟩
  | false =>
    rw [if_neg Bool.false_ne_true] at f ⊢
    exact a.nx _ _ _ _ _ _ _ (s1.trans e') r' f
/-- a target: what it makes of the slots -/
def Tg (K : Frg) (g : TG) (d : PyData) (ρ ρ' : List Sl) : Prop := ∀ (C : Ct) (ads : List Addr) (B H : Hp) (σ : L2.St) (μ : List Ce) (n : Nat) (v : V) (Q : L2.St → Hp → Prop), RepA K C ads B H σ ρ μ n → Dq B v d → (∀ σ', RepA K C ads B H σ' ρ' μ n → Q σ' H) → g v σ H Q
theorem tg_name {j : Nat} {d : PyData} : Tg K (gName j) d ρ (ρ.set j (.im d)) := fun C ads B H σ μ n v Q r p q => q _ (r.setI j p)
theorem tg_pair {i j : Nat} {d e : PyData} : Tg K (gTup K 2 (gCons (gName i) (gCons (gName j) gNil))) (.tuple [d, e]) ρ ((ρ.set i (.im d)).set j (.im e)) := fun C ads B H σ μ n v Q r p q => by
  obtain ⟨a, vs, rfl, hs, hd⟩ := dp_tup p
  cases hd with
  | cons h1 hd =>
    cases hd with
    | cons h2 hd =>
      cases hd
      exact ⟨a, _, rfl, ttr (r.sub _ _ hs), rfl, _, _, rfl, _, _, rfl, rfl, q _ ((r.setI i h1).setI j h2)⟩
/-- a walk over len things that stand: the i-th is dx i -/
structure Wk (K : Frg) (B0 : Hp) (J : It) (len : Nat) (dx : Nat → PyData) : Prop where
  stop : ∀ H, Same B0 H → J.stop len H
  go : ∀ i H, i < len → Same B0 H → J.go i H
  yld : ∀ i H x H', i < len → Same B0 H → J.yld i H x H' → ∀ B, Same B0 B → Same B H → ∃ B', Gr B H B' H' ∧ Dq B' x (dx i)
/-- what an iterable's reading gives -/
def Wi (K : Frg) (C : Ct) (wi : TI) (ρ : List Sl) (μ : List Ce) (n : Nat) (Φ : Nat → (Nat → PyData) → Nat → Prop) : Prop :=
  ∀ ads σ B H (R : It → Hp → Prop), RepA K C ads B H σ ρ μ n → (∀ J len dx B' H' n', Same B B' → RepA K C ads B' H' σ ρ μ n' → Wk K B' J len dx → Φ len dx n' → R J H') → wi σ H R
theorem sv_for {wi : TI} {g : TG} {u : TS} {Ψ : Out → Prop} (h : Wi K C wi ρ μ n fun len dx n1 => ∃ I : Nat → List Sl → List Ce → Nat → Prop, I 0 ρ μ n1 ∧
    (∀ i ρ' μ' n', i < len → I i ρ' μ' n' → ∃ ρ2, Tg K g (dx i) ρ' ρ2 ∧ Sv K C u ρ2 μ' n' (lp (I (i + 1)) Ψ)) ∧ ∀ ρ' μ' n', I len ρ' μ' n' → Ψ (.nx ρ' μ' n')) : Sv K C (tFor wi g u) ρ μ n Ψ := fun ads σ B H D r a e =>
  h ads σ B H _ r fun J len dx B1 H1 n1 e1 r1 wk ⟨I, h0, hs, hd⟩ => by
    refine ⟨fun i m σ H => i + m = len ∧ ∃ ads B' ρ' μ' n', Same B1 B' ∧ RepA K C ads B' H σ ρ' μ' n' ∧ I i ρ' μ' n', ⟨len, Nat.zero_add _, ads, B1, ρ, μ, n1, Same.refl _, r1, h0⟩, fun i m σ H ⟨em, ads, B2, ρ', μ', n', s2, r2, hI⟩ => ?_⟩
    by_cases hi : i < len
    · refine .inr ⟨wk.go i H hi (s2.trans r2.sub), fun σ' H' => ∃ ads B' ρ' μ' n', Same B1 B' ∧ RepA K C ads B' H' σ' ρ' μ' n' ∧ I (i + 1) ρ' μ' n', fun σ' H' hn => ⟨m - 1, by omega, by omega, hn⟩, fun x H' hy => ?_⟩
      obtain ⟨B3, g3, p3⟩ := wk.yld i H x H' hi (s2.trans r2.sub) hy B2 s2 r2.sub
      have r3 := r2.gr g3
      obtain ⟨ρ2, tg, sv⟩ := hs i ρ' μ' n' hi hI
      refine tg C ads B3 H' σ μ' n' x _ r3 p3 fun σ' r4 => ?_
      exact sv ads σ' B3 H' _ r4 (acc_lp (a.up ((e1.trans s2).trans g3.b)) fun ads σ B H ρ μ n s r f => ⟨ads, B, ρ, μ, n, (s2.trans g3.b).trans s, r, f⟩) e
    · have e2 : i = len := by omega
      subst e2
      exact .inl ⟨wk.stop H (s2.trans r2.sub), a.nx _ _ _ _ _ _ _ (e1.trans s2) r2 (hd _ _ _ hI)⟩
/-! ### what is walked -/
theorem wi_range1 {ta : TA} {Φ : Nat → (Nat → PyData) → Nat → Prop} (h : EvA K C ta ρ μ n fun as n1 => ∃ m : Int, as = [.da (.int m)] ∧ -(2 ^ 62) ≤ m ∧ m < 2 ^ 62 ∧ Φ m.toNat (fun i => .int i) n1) : Wi K C (iRng1 ta) ρ μ n Φ := fun ads σ B H R r q =>
  h ads σ B H _ r fun vs as B1 H1 n1 e1 r1 p1 ⟨m, ea, l1, l2, f⟩ => by
    subst ea
    cases p1 with
    | cons p1 p =>
      cases p
      refine ⟨m, by rw [dp_int p1], l1, l2, q _ _ _ _ _ n1 e1 r1 ⟨fun H s => ?_, fun i H hi s => ?_, fun i H x H' hi s hy B sB sH => ?_⟩ f⟩
      · exact Nat.le_refl _
      · exact hi
      · obtain ⟨rfl, rfl⟩ := hy
        exact ⟨B, Gr.refl sH, by rw [Int.zero_add]; exact .int _⟩
theorem wi_range2 {ta : TA} {Φ : Nat → (Nat → PyData) → Nat → Prop} (h : EvA K C ta ρ μ n fun as n1 => ∃ l m : Int, as = [.da (.int l), .da (.int m)] ∧ (-(2 ^ 62) ≤ l ∧ l < 2 ^ 62 ∧ -(2 ^ 62) ≤ m ∧ m < 2 ^ 62) ∧ Φ (m - l).toNat (fun i => .int (l + i)) n1) :
    Wi K C (iRng2 ta) ρ μ n Φ := fun ads σ B H R r q =>
  h ads σ B H _ r fun vs as B1 H1 n1 e1 r1 p1 ⟨l, m, ea, hl, f⟩ => by
    subst ea
    cases p1 with
    | cons p1 p =>
      cases p with
      | cons p2 p =>
        cases p
        refine ⟨l, m, by rw [dp_int p1, dp_int p2], hl, q _ _ _ _ _ n1 e1 r1 ⟨fun H s => ?_, fun i H hi s => ?_, fun i H x H' hi s hy B sB sH => ?_⟩ f⟩
        · exact Nat.le_refl _
        · exact hi
        · obtain ⟨rfl, rfl⟩ := hy
          exact ⟨B, Gr.refl sH, .int _⟩
theorem wi_list {tl : TE} {Φ : Nat → (Nat → PyData) → Nat → Prop} (h : Ev K C tl ρ μ n fun d n1 => ∃ ds, d = .list ds ∧ Φ ds.length (fun i => ds.getD i .none) n1) : Wi K C (iList K tl) ρ μ n Φ := fun ads σ B H R r q =>
  h ads σ B H _ r fun v d B1 H1 n1 e1 r1 p1 ⟨ds, ed, f⟩ => by
    subst ed
    obtain ⟨a, vs, rfl, hs, hd⟩ := dp_lst p1
    refine ⟨a, rfl, ⟨vs, ltr (r1.sub _ _ hs)⟩, q _ _ _ _ _ n1 e1 r1 ⟨fun H s => ?_, fun i H hi s => ?_, fun i H x H' hi s hy B sB sH => ?_⟩ f⟩
    · exact ⟨vs, ltr (s _ _ hs), by rw [dps_len hd]; exact Nat.le_refl _⟩
    · obtain ⟨v, e, _⟩ := dps_get hd (List.getElem?_eq_getElem hi)
      exact ⟨vs, v, ltr (s _ _ hs), e⟩
    · obtain ⟨rfl, fv⟩ := hy
      obtain ⟨v, e, p⟩ := dps_get hd (List.getElem?_eq_getElem hi)
      have e2 : x = v := Option.some.inj ((fv _ (ltr (s _ _ hs))).symm.trans e)
      subst e2
      refine ⟨B, Gr.refl sH, ?_⟩
      show Dq B x (ds.getD i .none)
      rw [List.getD_eq_getElem?_getD, List.getElem?_eq_getElem hi]
      exact dp_up sB _ _ p
theorem wi_tup {tl : TE} {Φ : Nat → (Nat → PyData) → Nat → Prop} (h : Ev K C tl ρ μ n fun d n1 => ∃ ds, d = .tuple ds ∧ Φ ds.length (fun i => ds.getD i .none) n1) : Wi K C (iTup K tl) ρ μ n Φ := fun ads σ B H R r q =>
  h ads σ B H _ r fun v d B1 H1 n1 e1 r1 p1 ⟨ds, ed, f⟩ => by
    subst ed
    obtain ⟨a, vs, rfl, hs, hd⟩ := dp_tup p1
    refine ⟨a, rfl, ⟨vs, ttr (r1.sub _ _ hs)⟩, q _ _ _ _ _ n1 e1 r1 ⟨fun H s => ?_, fun i H hi s => ?_, fun i H x H' hi s hy B sB sH => ?_⟩ f⟩
    · exact ⟨vs, ttr (s _ _ hs), by rw [dps_len hd]; exact Nat.le_refl _⟩
    · obtain ⟨v, e, _⟩ := dps_get hd (List.getElem?_eq_getElem hi)
      exact ⟨vs, v, ttr (s _ _ hs), e⟩
    · obtain ⟨rfl, fv⟩ := hy
      obtain ⟨v, e, p⟩ := dps_get hd (List.getElem?_eq_getElem hi)
      have e2 : x = v := Option.some.inj ((fv _ (ttr (s _ _ hs))).symm.trans e)
      subst e2
      refine ⟨B, Gr.refl sH, ?_⟩
      show Dq B x (ds.getD i .none)
      rw [List.getD_eq_getElem?_getD, List.getElem?_eq_getElem hi]
      exact dp_up sB _ _ p
end
end Pb

set_option Elab.async false
set_option linter.all false
set_option maxRecDepth 100000
set_option maxHeartbeats 4000000
/-! PbD: comprehensions, slices, the rules by Python's words, a def by its body. -/
namespace Pb
open PySem PySem.Spec PyProof.Rows L2

section
variable {K : Frg} {C : Ct} {ρ : List Sl} {μ : List Ce} {n n' : Nat}
def wipeS (ρ : List Sl) : List Nat → List Sl
  | [] => ρ
  | v :: vs => (wipeS ρ vs).set v .un
theorem RepA.wipe {ads : List Addr} {B H : Hp} {σ : L2.St} (r : RepA K C ads B H σ ρ μ n) : ∀ vs : List Nat, RepA K C ads B H (wipe σ vs) (wipeS ρ vs) μ n
  | [] => r
  | v :: vs => (r.wipe vs).slots (pr_set (F := SlOk K C.fa ads B) (x := none) (y := .un) trivial v (r.wipe vs).sl)
/-- a comprehension's target -/
def Tgc (K : Frg) (g : TG) (vs : List Nat) (d : PyData) (ρ ρ' : List Sl) : Prop := ∀ (C : Ct) (ads : List Addr) (B H : Hp) (σ : L2.St) (μ : List Ce) (n : Nat) (v : V) (Q : L2.St → Hp → Prop), RepA K C ads B H (wipe σ vs) (wipeS ρ vs) μ n → Dq B v d →
  (∀ σ', wipe σ' vs = wipe σ vs → RepA K C ads B H σ' ρ' μ n → Q σ' H) → g v (wipe σ vs) H Q
theorem tgc_name {j : Nat} {d : PyData} : Tgc K (gName j) [j] d ρ ((wipeS ρ [j]).set j (.im d)) := fun C ads B H σ μ n v Q r p q => q _ (by
  show ((σ.set j none).set j (some v)).set j none = σ.set j none
  rw [List.set_set, List.set_set]) (r.setI j p)
theorem tgc_pair {i j : Nat} {d e : PyData} (hij : i ≠ j) : Tgc K (gTup K 2 (gCons (gName i) (gCons (gName j) gNil))) [i, j] (.tuple [d, e]) ρ (((wipeS ρ [i, j]).set i (.im d)).set j (.im e)) := fun C ads B H σ μ n v Q r p q => by
  obtain ⟨a, vs, rfl, hs, hd⟩ := dp_tup p
  cases hd with
  | cons h1 hd =>
    cases hd with
    | cons h2 hd =>
      cases hd
      refine ⟨a, _, rfl, ttr (r.sub _ _ hs), rfl, _, _, rfl, _, _, rfl, rfl, q _ ?_ ((r.setI i h1).setI j h2)⟩
      show (((((σ.set j none).set i none).set i _).set j _).set j none).set i none = (σ.set j none).set i none
      rw [List.set_set, List.set_comm _ _ hij.symm, List.set_set, List.set_set, List.set_comm _ _ hij, List.set_set]
theorem el_lc {wi : TI} {g : TG} {tt : TT} {te : TE} {vs : List Nat} {Φ : List PyData → Nat → Prop} (h : Wi K C wi ρ μ n fun len dx n1 => len ≤ 1000000 ∧ ∃ I : Nat → List PyData → Nat → Prop, I 0 [] n1 ∧
    (∀ i acc n', i < len → I i acc n' → ∃ ρ2, Tgc K g vs (dx i) ρ ρ2 ∧ EvT K C tt ρ2 (μ ++ [.ls acc]) n' fun b n2 => if b = true then Ev K C te ρ2 (μ ++ [.ls acc]) n2 fun d n3 => I (i + 1) (acc ++ [d]) n3 else I (i + 1) acc n2) ∧
    ∀ acc n', I len acc n' → Φ acc n') : EvL K C (tLc wi g tt te vs) ρ μ n Φ := fun ads σ B H Q r q =>
  h ads σ B H _ r fun J len dx B1 H1 n1 e1 r1 wk ⟨hlen, I, h0, hs, hd⟩ D hD => by
    have hk : ads.length = μ.length := Paired.length r.ce
    refine ⟨fun i m H => i + m = len ∧ ∃ B' acc n', Same B1 B' ∧ RepA K C (ads ++ [D]) B' H σ ρ (μ ++ [.ls acc]) n' ∧ acc.length ≤ i ∧ I i acc n', ⟨len, Nat.zero_add _, B1, [], n1, Same.refl _, r1.cell hD .nil, Nat.le_refl _, h0⟩, fun i m H ⟨em, B2, acc, n2, s2, r2, hl, hI⟩ => ?_⟩
    by_cases hi : i < len
    · refine .inr ⟨wk.go i H hi (s2.trans r2.sub), fun H' => ∃ B' acc n', Same B1 B' ∧ RepA K C (ads ++ [D]) B' H' σ ρ (μ ++ [.ls acc]) n' ∧ acc.length ≤ i + 1 ∧ I (i + 1) acc n', fun H' hn => ⟨m - 1, by omega, by omega, hn⟩, fun x H' hy => ?_⟩
      obtain ⟨B3, g3, p3⟩ := wk.yld i H x H' hi (s2.trans r2.sub) hy B2 s2 r2.sub
      have r3 := r2.gr g3
      obtain ⟨ρ2, tg, ht⟩ := hs i acc n2 hi hI
      refine tg C _ B3 H' σ _ n2 x _ (r3.wipe vs) p3 fun σ' hw r4 => ⟨hw, ?_⟩
      refine ht _ σ' B3 H' _ r4 fun b B5 H5 n5 e5 r5 f => ?_
      have back : ∀ {B6 H6 : Hp} {n6 : Nat} {ρ6 : List Sl} {σ6 : L2.St}, Same B5 B6 → RepA K C (ads ++ [D]) B6 H6 σ6 ρ6 (μ ++ [.ls acc]) n6 → RepA K C (ads ++ [D]) B6 H6 σ ρ (μ ++ [.ls acc]) n6 := fun {B6 H6 n6 ρ6 σ6} e6 r6 => r3.slotsUp r6 (e5.trans e6)
      cases b with
      | true =>
        rw [if_pos rfl] at f ⊢
        refine f _ σ' B5 H5 _ r5 fun y d B6 H6 n6 e6 r6 p6 hI6 => ?_
        have ha : (ads ++ [D])[ads.length]? = some D := by simp
        have hm : (μ ++ [Ce.ls acc])[ads.length]? = some (.ls acc) := by rw [hk]; simp
        have hset : (μ ++ [Ce.ls acc]).set ads.length (.ls (acc ++ [d])) = μ ++ [.ls (acc ++ [d])] := by
          rw [hk, List.set_append_right _ _ (Nat.le_refl _)]
          simp
        obtain ⟨D', eD, c1, c2, ws, c3, c4⟩ := pr_get r6.ce hm
        rw [ha] at eD
        cases eD
        have r7 := (back e6 r6).put ha hm (dps_app c4 (.cons p6 .nil))
        rw [hset] at r7
        refine ⟨ws, c3, ?_, B6, acc ++ [d], n6, ((s2.trans g3.b).trans e5).trans e6, r7, ?_, hI6⟩
        · rw [dps_len c4, sizeLine_eq]
          omega
        · rw [List.length_append, List.length_singleton]
          omega
      | false =>
        rw [if_neg Bool.false_ne_true] at f ⊢
        exact ⟨B5, acc, n5, (s2.trans g3.b).trans e5, back (Same.refl _) r5, by omega, f⟩
    · have e2 : i = len := by omega
      subst e2
      exact .inl ⟨wk.stop H (s2.trans r2.sub), q D acc B2 H n2 (e1.trans s2) r2 (hd _ _ hI)⟩
theorem et_yes {Φ : Bool → Nat → Prop} (f : Φ true n) : EvT K C tYes ρ μ n Φ := fun ads σ B H Q r q => q true B H n (Same.refl _) r f
/-! ### slices -/
def cutL {α : Type} (xs : List α) (lo hi : Option Int) : List α := (xs.drop (HT.sIx xs.length 0 lo)).take (HT.sIx xs.length xs.length hi - HT.sIx xs.length 0 lo)
def EvO (K : Frg) (C : Ct) (t : TO) (ρ : List Sl) (μ : List Ce) (n : Nat) (Φ : Option Int → Nat → Prop) : Prop :=
  ∀ ads σ B H (Q : Option Int → Hp → Prop), RepA K C ads B H σ ρ μ n → (∀ o B' H' n', Same B B' → RepA K C ads B' H' σ ρ μ n' → Φ o n' → Q o H') → t σ H Q
theorem eo_none {Φ : Option Int → Nat → Prop} (f : Φ none n) : EvO K C tNoPart ρ μ n Φ := fun ads σ B H Q r q => q none B H n (Same.refl _) r f
theorem eo_some {te : TE} {Φ : Option Int → Nat → Prop} (h : Ev K C te ρ μ n fun d n' => ∃ i, d = .int i ∧ Φ (some i) n') : EvO K C (tPart te) ρ μ n Φ := fun ads σ B H Q r q => h ads σ B H _ r fun v d B' H' n' e r' p ⟨i, ed, f⟩ => by
  subst ed
  exact ⟨i, dp_int p, q _ B' H' n' e r' f⟩
theorem dps_cut {B : Hp} {vs : List V} {ds : List PyData} (h : DqAll B vs ds) (lo hi : Option Int) : DqAll B (cutV vs lo hi) (cutL ds lo hi) := by
  unfold cutV cutL
  rw [dps_len h]
  exact dps_take _ (dps_drop _ h)
theorem ev_slT {te : TE} {tl th : TO} {Φ : PyData → Nat → Prop} (h : Ev K C te ρ μ n fun d n1 => EvO K C tl ρ μ n1 fun lo n2 => EvO K C th ρ μ n2 fun hi n3 => ∃ ds, d = .tuple ds ∧ Φ (.tuple (cutL ds lo hi)) n3) : Ev K C (tSl (rSlA K) te tl th) ρ μ n Φ := fun ads σ B H Q r q =>
  h ads σ B H _ r fun v d B1 H1 n1 e1 r1 p1 h1 => h1 ads σ B1 H1 _ r1 fun lo B2 H2 n2 e2 r2 h2 => h2 ads σ B2 H2 _ r2 fun hi B3 H3 n3 e3 r3 ⟨ds, ed, f⟩ => by
    subst ed
    obtain ⟨a, vs, rfl, hs, hd⟩ := dp_tup (dp_up (e2.trans e3) _ _ p1)
    have e := (e1.trans e2).trans e3
    refine ⟨a, vs, rfl, ttr (r3.sub _ _ hs), fun hw => ?_, fun _ p hp => ?_⟩
    · refine q _ _ B3 H3 n3 e r3 ?_ f
      have hc : cutL ds lo hi = ds := by
        have hl := dps_len hd
        obtain ⟨w1, w2⟩ := hw
        unfold cutL
        rw [← hl, w1, w2, List.drop_zero]
        exact List.take_of_length_le (by omega)
      rw [hc]
      exact .tup hs hd
    · have g := Gr.new (o := .tup (cutV vs lo hi)) r3.sub hp
      exact q _ _ _ _ n3 (e.trans g.b) (r3.gr g) (.tup upd_same (dps_up g.b _ _ (dps_cut hd lo hi))) f
theorem el_slL {te : TE} {tl th : TO} {Φ : List PyData → Nat → Prop} (h : Ev K C te ρ μ n fun d n1 => EvO K C tl ρ μ n1 fun lo n2 => EvO K C th ρ μ n2 fun hi n3 => ∃ ds, d = .list ds ∧ Φ (cutL ds lo hi) n3) : EvL K C (tSl (rSlL K) te tl th) ρ μ n Φ := fun ads σ B H Q r q =>
  h ads σ B H _ r fun v d B1 H1 n1 e1 r1 p1 h1 => h1 ads σ B1 H1 _ r1 fun lo B2 H2 n2 e2 r2 h2 => h2 ads σ B2 H2 _ r2 fun hi B3 H3 n3 e3 r3 ⟨ds, ed, f⟩ => by
    subst ed
    obtain ⟨a, vs, rfl, hs, hd⟩ := dp_lst (dp_up (e2.trans e3) _ _ p1)
    exact ⟨a, vs, rfl, ltr (r3.sub _ _ hs), fun p hp => q p _ B3 _ n3 ((e1.trans e2).trans e3) (r3.cell hp (dps_cut hd lo hi)) f⟩
theorem el_rev {te : TE} {Φ : List PyData → Nat → Prop} (h : Ev K C te ρ μ n fun d n1 => ∃ ds, d = .list ds ∧ Φ ds.reverse n1) : EvL K C (tRevL K te) ρ μ n Φ := fun ads σ B H Q r q =>
  h ads σ B H _ r fun v d B1 H1 n1 e1 r1 p1 ⟨ds, ed, f⟩ => by
    subst ed
    obtain ⟨a, vs, rfl, hs, hd⟩ := dp_lst p1
    exact ⟨a, vs, rfl, ltr (r1.sub _ _ hs), fun p hp => q p _ B1 _ n1 e1 (r1.cell hp (dps_rev hd)) f⟩
/-! ### operators on data -/
theorem op2_I0 {g : Int → Int → V} {h : Int → Int → PyData} {i j : Int} (hg : ∀ B, Dq B (g i j) (h i j)) : Op2 K (rI0 g) (.int i) (.int j) (h i j) := fun B H v1 v2 Q s p1 p2 q => ⟨i, j, dp_int p1, dp_int p2, q _ B H (Gr.refl s) (hg B)⟩
theorem op2_I {c : Int → Int → Prop} {g : Int → Int → V} {h : Int → Int → PyData} {i j : Int} (hc : c i j) (hg : ∀ B, Dq B (g i j) (h i j)) : Op2 K (rI c g) (.int i) (.int j) (h i j) := fun B H v1 v2 Q s p1 p2 q => ⟨i, j, dp_int p1, dp_int p2, hc, q _ B H (Gr.refl s) (hg B)⟩
theorem op2_cat {ds es : List PyData} (hl : ds.length + es.length ≤ 1000000) : Op2 K (rCatA K) (.tuple ds) (.tuple es) (.tuple (ds ++ es)) := fun B H v1 v2 Q s p1 p2 q => by
  obtain ⟨a, vs, rfl, ha, hd⟩ := dp_tup p1
  obtain ⟨b, ws, rfl, hb, he⟩ := dp_tup p2
  refine ⟨a, b, vs, ws, rfl, rfl, ttr (s _ _ ha), ttr (s _ _ hb), by rw [dps_len hd, dps_len he, sizeLine_eq]; omega, fun z => ?_, fun _ z => ?_, fun _ _ p hp => ?_⟩
  · subst z
    cases hd
    exact q _ B H (Gr.refl s) (.tup hb he)
  · subst z
    cases he
    rw [List.append_nil] at q
    exact q _ B H (Gr.refl s) (.tup ha hd)
  · have g := Gr.new (o := .tup (vs ++ ws)) s hp
    exact q _ _ _ g (.tup upd_same (dps_up g.b _ _ (dps_app hd he)))
theorem op2_catL {ds es : List PyData} (hl : ds.length + es.length ≤ 1000000) : Op2L K rCat (.list ds) (.list es) (ds ++ es) := fun B H v1 v2 Q s p1 p2 q => by
  obtain ⟨a, vs, rfl, ha, hd⟩ := dp_lst p1
  obtain ⟨b, ws, rfl, hb, he⟩ := dp_lst p2
  exact ⟨a, b, vs, ws, rfl, rfl, s _ _ ha, s _ _ hb, by rw [dps_len hd, dps_len he, sizeLine_eq]; omega, fun p hp => q p _ hp (dps_app hd he)⟩
theorem dps_rep {B : Hp} {vs : List V} {ds : List PyData} (h : DqAll B vs ds) : ∀ k : Nat, DqAll B (List.replicate k vs).flatten (List.replicate k ds).flatten
  | 0 => .nil
  | k + 1 => by
    rw [List.replicate_succ, List.replicate_succ, List.flatten_cons, List.flatten_cons]
    exact dps_app h (dps_rep h k)
theorem op2_rep {ds : List PyData} {k : Nat} (hk : k ≤ 1000000) (hl : ds.length * k ≤ 1000000) : Op2L K rRep (.list ds) (.int (k : Int)) (List.replicate k ds).flatten := fun B H v1 v2 Q s p1 p2 q => by
  obtain ⟨a, vs, rfl, ha, hd⟩ := dp_lst p1
  refine ⟨a, _, vs, rfl, dp_int p2, s _ _ ha, by omega, by omega, by rw [dps_len hd, sizeLine_eq, Int.toNat_natCast]; omega, fun p hp => ?_⟩
  rw [Int.toNat_natCast]
  exact q p _ hp (dps_rep hd k)
theorem op2_ixL {ds : List PyData} {i : Nat} {d : PyData} (h : ds[i]? = some d) : Op2 K (rIxL K) (.list ds) (.int (i : Int)) d := fun B H v1 v2 Q s p1 p2 q => by
  obtain ⟨a, vs, rfl, ha, hd⟩ := dp_lst p1
  obtain ⟨v, e, p⟩ := dps_get hd h
  exact ⟨a, vs, _, v, rfl, dp_int p2, ltr (s _ _ ha), atI_nat e, q v B H (Gr.refl s) p⟩
theorem op2_ixT {ds : List PyData} {i : Nat} {d : PyData} (h : ds[i]? = some d) : Op2 K (rIxT K) (.tuple ds) (.int (i : Int)) d := fun B H v1 v2 Q s p1 p2 q => by
  obtain ⟨a, vs, rfl, ha, hd⟩ := dp_tup p1
  obtain ⟨v, e, p⟩ := dps_get hd h
  exact ⟨a, vs, _, v, rfl, dp_int p2, ttr (s _ _ ha), atI_nat e, q v B H (Gr.refl s) p⟩
theorem op2_eqD {d e : PyData} (h1 : SeqAt.shaped d = true) (h2 : SeqAt.shaped e = true) : Op2T K (rEqD K) d e (PyData.eqv d e) := fun B H v1 v2 Q s p1 p2 q => ⟨d, e, dq_dp s _ _ p1, dq_dp s _ _ p2, h1, h2, q⟩
theorem op2_neD {d e : PyData} (h1 : SeqAt.shaped d = true) (h2 : SeqAt.shaped e = true) : Op2T K (rNeD K) d e (!PyData.eqv d e) := fun B H v1 v2 Q s p1 p2 q => ⟨d, e, dq_dp s _ _ p1, dq_dp s _ _ p2, h1, h2, q⟩
theorem op2_eqI {i j : Int} : Op2T K rEq (.int i) (.int j) (decide (i = j)) := fun B H v1 v2 Q s p1 p2 q => by
  cases dp_int p1
  cases dp_int p2
  refine ⟨rfl, ?_⟩
  have e : decide (V.int i = V.int j) = decide (i = j) := by
    by_cases h : i = j
    · subst h; simp
    · rw [decide_eq_false h]
      exact decide_eq_false fun z => h (V.int.inj z)
  rw [e]
  exact q
theorem op2_neI {i j : Int} : Op2T K rNe (.int i) (.int j) (!decide (i = j)) := fun B H v1 v2 Q s p1 p2 q => by
  cases dp_int p1
  cases dp_int p2
  refine ⟨rfl, ?_⟩
  have e : decide (V.int i = V.int j) = decide (i = j) := by
    by_cases h : i = j
    · subst h; simp
    · rw [decide_eq_false h]
      exact decide_eq_false fun z => h (V.int.inj z)
  rw [e]
  exact q
theorem op2t_I0 {g : Int → Int → Bool} {i j : Int} : Op2T K (rI0 fun i j => .bl (g i j)) (.int i) (.int j) (g i j) := fun B H v1 v2 Q s p1 p2 q => ⟨i, j, dp_int p1, dp_int p2, q⟩
theorem op2t_notN {d : PyData} : Op2T K (fun x y H Q => y = .non ∧ Q (.bl (!decide (x = .non))) H) d .none (match d with | .none => false | _ => true) := fun B H v1 v2 Q s p1 p2 q => ⟨dp_non p2, by cases p1 <;> exact q⟩
/-! ### calls of built-ins on data -/
theorem cal1 {r : List V → Hp → VK → Prop} {d e : PyData} (h : ∀ B H v (Q : VK), Same B H → Dq B v d → (∀ v B' H', Gr B H B' H' → Dq B' v e → Q v H') → r [v] H Q) : Cal K r [d] e := fun B H vs Q s p q => by
  cases p with
  | cons p1 p =>
    cases p
    exact h B H _ Q s p1 q
theorem call1 {r : List V → Hp → VK → Prop} {d : PyData} {es : List PyData} (h : ∀ B H v (Q : VK), Same B H → Dq B v d → (∀ p ws, H p = none → DqAll B ws es → Q (.ref p) (upd H p (.lst ws))) → r [v] H Q) : CalL K r [d] es := fun B H vs Q s p q => by
  cases p with
  | cons p1 p =>
    cases p
    exact h B H _ Q s p1 q
def rLenS (K : Frg) : List V → Hp → VK → Prop := fun xs H Q => ∃ p ys, xs = [.ref p] ∧ (SqL K H p ys ∨ SqT K H p ys) ∧ Q (.int ys.length) H
theorem cal_lenL {ds : List PyData} : Cal K (rLenS K) [.list ds] (.int ds.length) := cal1 fun B H v Q s p q => by
  obtain ⟨a, vs, rfl, ha, hd⟩ := dp_lst p
  exact ⟨a, vs, rfl, .inl (ltr (s _ _ ha)), by rw [dps_len hd]; exact q _ B H (Gr.refl s) (.int _)⟩
theorem cal_lenT {ds : List PyData} : Cal K (rLenS K) [.tuple ds] (.int ds.length) := cal1 fun B H v Q s p q => by
  obtain ⟨a, vs, rfl, ha, hd⟩ := dp_tup p
  exact ⟨a, vs, rfl, .inr (ttr (s _ _ ha)), by rw [dps_len hd]; exact q _ B H (Gr.refl s) (.int _)⟩
def rTupS (K : Frg) : List V → Hp → VK → Prop := fun xs H Q => ∃ p ys, xs = [.ref p] ∧ ((SqL K H p ys ∧ ∀ l, H l = none → Q (.ref l) (upd H l (.tup ys))) ∨ (SqT K H p ys ∧ Q (.ref p) H))
theorem cal_tupL {ds : List PyData} : Cal K (rTupS K) [.list ds] (.tuple ds) := cal1 fun B H v Q s p q => by
  obtain ⟨a, vs, rfl, ha, hd⟩ := dp_lst p
  refine ⟨a, vs, rfl, .inl ⟨ltr (s _ _ ha), fun l hl => ?_⟩⟩
  have g := Gr.new (o := .tup vs) s hl
  exact q _ _ _ g (.tup upd_same (dps_up g.b _ _ hd))
theorem cal_tupT {ds : List PyData} : Cal K (rTupS K) [.tuple ds] (.tuple ds) := cal1 fun B H v Q s p q => by
  obtain ⟨a, vs, rfl, ha, hd⟩ := dp_tup p
  exact ⟨a, vs, rfl, .inr ⟨ttr (s _ _ ha), q _ B H (Gr.refl s) (.tup ha hd)⟩⟩
def rLstS (K : Frg) : List V → Hp → VK → Prop := fun xs H Q => ∃ p ys, xs = [.ref p] ∧ (SqL K H p ys ∨ SqT K H p ys) ∧ ∀ l, H l = none → Q (.ref l) (upd H l (.lst ys))
theorem cal_lstT {ds : List PyData} : CalL K (rLstS K) [.tuple ds] ds := call1 fun B H v Q s p q => by
  obtain ⟨a, vs, rfl, ha, hd⟩ := dp_tup p
  exact ⟨a, vs, rfl, .inr (ttr (s _ _ ha)), fun l hl => q l vs hl hd⟩
def rIntS : List V → Hp → VK → Prop := fun xs H Q => (∃ i, xs = [.int i] ∧ Q (.int i) H) ∨ ∃ k, xs = [.bl k] ∧ Q (.int (if k then 1 else 0)) H
theorem cal_int {i : Int} : Cal K rIntS [.int i] (.int i) := cal1 fun B H v Q s p q => .inl ⟨i, by rw [dp_int p], q _ B H (Gr.refl s) (.int _)⟩
theorem dps_bls {B : Hp} : ∀ (bs : List Bool) (vs : List V), DqAll B vs (bs.map PyData.bool) → vs = bs.map V.bl
  | [], _, h => by cases h; rfl
  | b :: bs, _, h => by
    cases h with
    | cons a c =>
      cases a
      rw [dps_bls bs _ c]
      rfl
theorem cal_all {bs : List Bool} : Cal K (rAll K) [.list (bs.map PyData.bool)] (.bool (bs.all id)) := cal1 fun B H v Q s p q => by
  obtain ⟨a, vs, rfl, ha, hd⟩ := dp_lst p
  rw [dps_bls bs vs hd] at ha
  exact ⟨a, bs, rfl, ltr (s _ _ ha), q _ B H (Gr.refl s) (.bl _)⟩
theorem cal_min {ns : List Int} {m : Int} (h0 : 0 < ns.length) (h : ∀ k, k ∈ ns → (∀ y, y ∈ ns → k ≤ y) → k = m) : Cal K (rMin K) [.list (ns.map PyData.int)] (.int m) := cal1 fun B H v Q s p q => by
  obtain ⟨a, vs, rfl, ha, hd⟩ := dp_lst p
  rw [ints_dps ns vs hd] at ha
  refine ⟨a, ns, rfl, ltr (s _ _ ha), h0, fun k h1 h2 => ?_⟩
  rw [h k h1 h2]
  exact q _ B H (Gr.refl s) (.int _)
/-! ### isinstance -/
def tyN : PyData → String
  | .none => "NoneType"
  | .bool _ => "bool"
  | .int _ => "int"
  | .str _ => "str"
  | .list _ => "list"
  | .tuple _ => "tuple"
  | .dict _ => "dict"
theorem tyx {H : Hp} {v : V} {d : PyData} (h : Dq H v d) : TyX K H v (.type (tyN d)) := by
  cases h with
  | non => exact .base .non
  | bl b => exact .base (.bl b)
  | int i => exact .base (.int i)
  | str x => exact .base (.str x)
  | lst hs _ => exact .base (.lst hs)
  | tup hs _ => exact .base (.tup hs)
/-- isinstance(x, T), T a built-in's name -/
theorem ev_isi {te : TE} {T : String} {Φ : PyData → Nat → Prop} (h : Ev K C te ρ μ n fun d n1 => ∃ b, kitB (tyN d) T = some b ∧ Φ (.bool b) n1) : Ev K C (tCB (rIsi K) (tCons te (tCons (tC (.ty T)) tNil))) ρ μ n Φ := fun ads σ B H Q r q =>
  h ads σ B H _ r fun v d B1 H1 n1 e1 r1 p1 ⟨b, hb, f⟩ => ⟨v, .ty T, _, _, b, rfl, .ty T, tyx (dp_up r1.sub _ _ p1), kit_ty hb, q _ _ B1 H1 n1 e1 r1 (.bl b) f⟩
end
end Pb

set_option Elab.async false
set_option linter.all false
set_option maxRecDepth 100000
set_option maxHeartbeats 4000000
/-! PbE: the rules by Python's words. -/
namespace Pb
open PySem PySem.Spec PyProof.Rows L2
section
variable {X : Cx} {C : Ct} {ρ : List Sl} {μ : List Ce} {n : Nat} {a b c e : Expr} {pos p : Pos} {Φ : PyData → Nat → Prop} {Λ : List PyData → Nat → Prop} {Θ : Bool → Nat → Prop} {Ψ : Out → Prop}
/-! ### names, constants -/
theorem ex_v (i : Nat) {x : Str} {d : PyData} (h : ρ[i]? = some (.im d)) (f : Φ d n) (hN : X.N[i]? = some x := by rfl) (hv : Vis X.env.scope x := by first | exact Or.inl rfl | exact Or.inr (Or.inl rfl) | exact Or.inr (Or.inr rfl))
    (hd : (x == ("__debug__" : Str)) = false := by decide) (hcd : (x == ("__classdict__" : Str)) = false := by decide) : EX X C (.Name x pos) ρ μ n Φ := ex_of (pe_var hN hv hd hcd) (ev_var h f)
theorem ex_i {i : Int} {k : Nat} (f : Φ (.int i) n) : EX X C (.Constant (.int i) k pos) ρ μ n Φ := ex_of pe_int (ev_c (fun _ => .int i) f)
theorem ex_s {x : Str} {k : Nat} (f : Φ (.str x) n) : EX X C (.Constant (.str x) k pos) ρ μ n Φ := ex_of pe_str (ev_c (fun _ => .str x) f)
theorem ex_b {x : Bool} {k : Nat} (f : Φ (.bool x) n) : EX X C (.Constant (.bool x) k pos) ρ μ n Φ := ex_of pe_bl (ev_c (fun _ => .bl x) f)
theorem ex_n {k : Nat} (f : Φ .none n) : EX X C (.Constant .none k pos) ρ μ n Φ := ex_of pe_non (ev_c (fun _ => .non) f)
theorem ex_neg (h : EX X C a ρ μ n fun d n' => ∃ i, d = .int i ∧ Φ (.int (-i)) n') : EX X C (.UnaryOp .USub a pos) ρ μ n Φ := ex_of (pe_un un_neg pe_can) (ev_un (h.imp fun d n' ⟨i, e, f⟩ => ⟨.int (-i), fun B H v Q s p q => by
  subst e
  exact ⟨i, dp_int p, q _ (.int _)⟩, f⟩))
/-! ### arithmetic -/
theorem ex_binI {op : Operator} {c : Int → Int → Prop} {g : Int → Int → Int} (ho : OpR X (binaryOp op) (rI c fun i j => .int (g i j))) (h : EX X C a ρ μ n fun d1 n1 => EX X C b ρ μ n1 fun d2 n2 => ∃ i j, d1 = .int i ∧ d2 = .int j ∧ c i j ∧ Φ (.int (g i j)) n2) : EX X C (.BinOp a op b pos) ρ μ n Φ :=
  ex_of (pe_op ho pe_can pe_can) (ev_op2 (h.imp fun d1 n1 h1 => h1.imp fun d2 n2 ⟨i, j, e1, e2, hc, f⟩ => ⟨_, by
    subst e1 e2
    exact op2_I (h := fun i j => .int (g i j)) hc fun _ => .int _, f⟩))
theorem ex_binJ {op : Operator} {g : Int → Int → Int} (ho : OpR X (binaryOp op) (rI0 fun i j => .int (g i j))) (h : EX X C a ρ μ n fun d1 n1 => EX X C b ρ μ n1 fun d2 n2 => ∃ i j, d1 = .int i ∧ d2 = .int j ∧ Φ (.int (g i j)) n2) : EX X C (.BinOp a op b pos) ρ μ n Φ :=
  ex_of (pe_op ho pe_can pe_can) (ev_op2 (h.imp fun d1 n1 h1 => h1.imp fun d2 n2 ⟨i, j, e1, e2, f⟩ => ⟨_, by
    subst e1 e2
    exact op2_I0 (h := fun i j => .int (g i j)) fun _ => .int _, f⟩))
theorem ex_add (h : EX X C a ρ μ n fun d1 n1 => EX X C b ρ μ n1 fun d2 n2 => ∃ i j, d1 = .int i ∧ d2 = .int j ∧ Φ (.int (i + j)) n2) : EX X C (.BinOp a .Add b pos) ρ μ n Φ := ex_binJ op_add h
theorem ex_sub (h : EX X C a ρ μ n fun d1 n1 => EX X C b ρ μ n1 fun d2 n2 => ∃ i j, d1 = .int i ∧ d2 = .int j ∧ Φ (.int (i - j)) n2) : EX X C (.BinOp a .Sub b pos) ρ μ n Φ := ex_binJ op_sub h
theorem ex_mul (h : EX X C a ρ μ n fun d1 n1 => EX X C b ρ μ n1 fun d2 n2 => ∃ i j, d1 = .int i ∧ d2 = .int j ∧ CMul i j ∧ Φ (.int (i * j)) n2) : EX X C (.BinOp a .Mult b pos) ρ μ n Φ := ex_binI op_mul h
theorem ex_mod (h : EX X C a ρ μ n fun d1 n1 => EX X C b ρ μ n1 fun d2 n2 => ∃ i j, d1 = .int i ∧ d2 = .int j ∧ 0 < j ∧ Φ (.int (i % j)) n2) : EX X C (.BinOp a .Mod b pos) ρ μ n Φ := ex_binI op_mod h
theorem ex_div (h : EX X C a ρ μ n fun d1 n1 => EX X C b ρ μ n1 fun d2 n2 => ∃ i j, d1 = .int i ∧ d2 = .int j ∧ CDivW i j ∧ Φ (.int (i / j)) n2) : EX X C (.BinOp a .FloorDiv b pos) ρ μ n Φ := ex_binI op_fdivW h
theorem ex_pow (h : EX X C a ρ μ n fun d1 n1 => EX X C b ρ μ n1 fun d2 n2 => ∃ i j, d1 = .int i ∧ d2 = .int j ∧ CPow i j ∧ Φ (.int (i ^ j.toNat)) n2) : EX X C (.BinOp a .Pow b pos) ρ μ n Φ := ex_binI op_pow h
theorem ex_addT (h : EX X C a ρ μ n fun d1 n1 => EX X C b ρ μ n1 fun d2 n2 => ∃ ds es, d1 = .tuple ds ∧ d2 = .tuple es ∧ ds.length + es.length ≤ 1000000 ∧ Φ (.tuple (ds ++ es)) n2) : EX X C (.BinOp a .Add b pos) ρ μ n Φ :=
  ex_of (pe_op op_catA pe_can pe_can) (ev_op2 (h.imp fun d1 n1 h1 => h1.imp fun d2 n2 ⟨ds, es, e1, e2, hl, f⟩ => ⟨_, by
    subst e1 e2
    exact op2_cat hl, f⟩))
theorem el_addL (h : EX X C a ρ μ n fun d1 n1 => EX X C b ρ μ n1 fun d2 n2 => ∃ ds es, d1 = .list ds ∧ d2 = .list es ∧ ds.length + es.length ≤ 1000000 ∧ Λ (ds ++ es) n2) : EL X C (.BinOp a .Add b pos) ρ μ n Λ :=
  el_of (pe_op op_cat pe_can pe_can) (el_op2 (K := X.K) (h.imp fun d1 n1 h1 => h1.imp fun d2 n2 ⟨ds, es, e1, e2, hl, f⟩ => ⟨_, by
    subst e1 e2
    exact op2_catL hl, f⟩))
theorem el_rep (h : EX X C a ρ μ n fun d1 n1 => EX X C b ρ μ n1 fun d2 n2 => ∃ (ds : List PyData) (k : Nat), d1 = .list ds ∧ d2 = .int (k : Int) ∧ k ≤ 1000000 ∧ ds.length * k ≤ 1000000 ∧ Λ (List.replicate k ds).flatten n2) : EL X C (.BinOp a .Mult b pos) ρ μ n Λ :=
  el_of (pe_op op_rep pe_can pe_can) (el_op2 (K := X.K) (h.imp fun d1 n1 h1 => h1.imp fun d2 n2 ⟨ds, k, e1, e2, hk, hl, f⟩ => ⟨_, by
    subst e1 e2
    exact op2_rep hk hl, f⟩))
theorem ex_l (h : EL X C e ρ μ n fun ds n' => Φ (.list ds) n') : EX X C e ρ μ n Φ := ev_l h
/-! ### comparisons -/
theorem et_cmpJ {op : CmpOp} {g : Int → Int → Bool} (ho : OpR X (compareOp op) (rI0 fun i j => .bl (g i j))) (hm : behindInMarks op b = false) (h : EX X C a ρ μ n fun d1 n1 => EX X C b ρ μ n1 fun d2 n2 => ∃ i j, d1 = .int i ∧ d2 = .int j ∧ Θ (g i j) n2) : ET X C (.Compare a [op] [b] pos) ρ μ n Θ :=
  et_of (pt_cmpR ho pe_can pe_can hm) (et_cmp (h.imp fun d1 n1 h1 => h1.imp fun d2 n2 ⟨i, j, e1, e2, f⟩ => ⟨g i j, by
    subst e1 e2
    exact op2t_I0, f⟩))
theorem ex_cmpJ {op : CmpOp} {g : Int → Int → Bool} (ho : OpR X (compareOp op) (rI0 fun i j => .bl (g i j))) (hm : behindInMarks op b = false) (h : EX X C a ρ μ n fun d1 n1 => EX X C b ρ μ n1 fun d2 n2 => ∃ i j, d1 = .int i ∧ d2 = .int j ∧ Φ (.bool (g i j)) n2) : EX X C (.Compare a [op] [b] pos) ρ μ n Φ :=
  ex_of (pe_cmpR ho pe_can pe_can hm) (ev_cmp (h.imp fun d1 n1 h1 => h1.imp fun d2 n2 ⟨i, j, e1, e2, f⟩ => ⟨g i j, by
    subst e1 e2
    exact op2t_I0, f⟩))
theorem et_lt (h : EX X C a ρ μ n fun d1 n1 => EX X C b ρ μ n1 fun d2 n2 => ∃ i j, d1 = .int i ∧ d2 = .int j ∧ Θ (decide (i < j)) n2) : ET X C (.Compare a [.Lt] [b] pos) ρ μ n Θ := et_cmpJ op_lt (nomark _) h
theorem et_le (h : EX X C a ρ μ n fun d1 n1 => EX X C b ρ μ n1 fun d2 n2 => ∃ i j, d1 = .int i ∧ d2 = .int j ∧ Θ (decide (i ≤ j)) n2) : ET X C (.Compare a [.LtE] [b] pos) ρ μ n Θ := et_cmpJ op_le (nomark _) h
theorem et_gt (h : EX X C a ρ μ n fun d1 n1 => EX X C b ρ μ n1 fun d2 n2 => ∃ i j, d1 = .int i ∧ d2 = .int j ∧ Θ (decide (j < i)) n2) : ET X C (.Compare a [.Gt] [b] pos) ρ μ n Θ := et_cmpJ op_gt (nomark _) h
theorem et_ge (h : EX X C a ρ μ n fun d1 n1 => EX X C b ρ μ n1 fun d2 n2 => ∃ i j, d1 = .int i ∧ d2 = .int j ∧ Θ (decide (j ≤ i)) n2) : ET X C (.Compare a [.GtE] [b] pos) ρ μ n Θ := et_cmpJ op_ge (nomark _) h
theorem ex_lt (h : EX X C a ρ μ n fun d1 n1 => EX X C b ρ μ n1 fun d2 n2 => ∃ i j, d1 = .int i ∧ d2 = .int j ∧ Φ (.bool (decide (i < j))) n2) : EX X C (.Compare a [.Lt] [b] pos) ρ μ n Φ := ex_cmpJ op_lt (nomark _) h
theorem ex_gt (h : EX X C a ρ μ n fun d1 n1 => EX X C b ρ μ n1 fun d2 n2 => ∃ i j, d1 = .int i ∧ d2 = .int j ∧ Φ (.bool (decide (j < i))) n2) : EX X C (.Compare a [.Gt] [b] pos) ρ μ n Φ := ex_cmpJ op_gt (nomark _) h
theorem ex_ge (h : EX X C a ρ μ n fun d1 n1 => EX X C b ρ μ n1 fun d2 n2 => ∃ i j, d1 = .int i ∧ d2 = .int j ∧ Φ (.bool (decide (j ≤ i))) n2) : EX X C (.Compare a [.GtE] [b] pos) ρ μ n Φ := ex_cmpJ op_ge (nomark _) h
theorem et_eq (h : EX X C a ρ μ n fun d1 n1 => EX X C b ρ μ n1 fun d2 n2 => ∃ i j, d1 = .int i ∧ d2 = .int j ∧ Θ (decide (i = j)) n2) : ET X C (.Compare a [.Eq] [b] pos) ρ μ n Θ :=
  et_of (pt_cmpR op_eq pe_can pe_can (nomark _)) (et_cmp (h.imp fun d1 n1 h1 => h1.imp fun d2 n2 ⟨i, j, e1, e2, f⟩ => ⟨_, by
    subst e1 e2
    exact op2_eqI, f⟩))
theorem ex_eq (h : EX X C a ρ μ n fun d1 n1 => EX X C b ρ μ n1 fun d2 n2 => ∃ i j, d1 = .int i ∧ d2 = .int j ∧ Φ (.bool (decide (i = j))) n2) : EX X C (.Compare a [.Eq] [b] pos) ρ μ n Φ :=
  ex_of (pe_cmpR op_eq pe_can pe_can (nomark _)) (ev_cmp (h.imp fun d1 n1 h1 => h1.imp fun d2 n2 ⟨i, j, e1, e2, f⟩ => ⟨_, by
    subst e1 e2
    exact op2_eqI, f⟩))
theorem et_ne (h : EX X C a ρ μ n fun d1 n1 => EX X C b ρ μ n1 fun d2 n2 => ∃ i j, d1 = .int i ∧ d2 = .int j ∧ Θ (!decide (i = j)) n2) : ET X C (.Compare a [.NotEq] [b] pos) ρ μ n Θ :=
  et_of (pt_cmpR op_ne pe_can pe_can (nomark _)) (et_cmp (h.imp fun d1 n1 h1 => h1.imp fun d2 n2 ⟨i, j, e1, e2, f⟩ => ⟨_, by
    subst e1 e2
    exact op2_neI, f⟩))
theorem ex_ne (h : EX X C a ρ μ n fun d1 n1 => EX X C b ρ μ n1 fun d2 n2 => ∃ i j, d1 = .int i ∧ d2 = .int j ∧ Φ (.bool (!decide (i = j))) n2) : EX X C (.Compare a [.NotEq] [b] pos) ρ μ n Φ :=
  ex_of (pe_cmpR op_ne pe_can pe_can (nomark _)) (ev_cmp (h.imp fun d1 n1 h1 => h1.imp fun d2 n2 ⟨i, j, e1, e2, f⟩ => ⟨_, by
    subst e1 e2
    exact op2_neI, f⟩))
/-- of any data -/
theorem et_eqD (hu : X.A.units + 64 < cLine) (h : EX X C a ρ μ n fun d1 n1 => EX X C b ρ μ n1 fun d2 n2 => SeqAt.shaped d1 = true ∧ SeqAt.shaped d2 = true ∧ Θ (PyData.eqv d1 d2) n2) : ET X C (.Compare a [.Eq] [b] pos) ρ μ n Θ :=
  et_of (pt_cmpR (op_eqD hu) pe_can pe_can (nomark _)) (et_cmp (h.imp fun d1 n1 h1 => h1.imp fun d2 n2 ⟨s1, s2, f⟩ => ⟨_, op2_eqD s1 s2, f⟩))
theorem ex_eqD (hu : X.A.units + 64 < cLine) (h : EX X C a ρ μ n fun d1 n1 => EX X C b ρ μ n1 fun d2 n2 => SeqAt.shaped d1 = true ∧ SeqAt.shaped d2 = true ∧ Φ (.bool (PyData.eqv d1 d2)) n2) : EX X C (.Compare a [.Eq] [b] pos) ρ μ n Φ :=
  ex_of (pe_cmpR (op_eqD hu) pe_can pe_can (nomark _)) (ev_cmp (h.imp fun d1 n1 h1 => h1.imp fun d2 n2 ⟨s1, s2, f⟩ => ⟨_, op2_eqD s1 s2, f⟩))
theorem et_neD (hu : X.A.units + 64 < cLine) (h : EX X C a ρ μ n fun d1 n1 => EX X C b ρ μ n1 fun d2 n2 => SeqAt.shaped d1 = true ∧ SeqAt.shaped d2 = true ∧ Θ (!PyData.eqv d1 d2) n2) : ET X C (.Compare a [.NotEq] [b] pos) ρ μ n Θ :=
  et_of (pt_cmpR (op_neD hu) pe_can pe_can (nomark _)) (et_cmp (h.imp fun d1 n1 h1 => h1.imp fun d2 n2 ⟨s1, s2, f⟩ => ⟨_, op2_neD s1 s2, f⟩))
theorem et_notN {k : Nat} {p2 : Pos} (h : EX X C a ρ μ n fun d n' => Θ (match d with | .none => false | _ => true) n') : ET X C (.Compare a [.IsNot] [.Constant .none k p2] pos) ρ μ n Θ :=
  et_of (pt_cmpR op_notN pe_can pe_can (nomark _)) (et_cmp (h.imp fun d1 n1 f => ex_n ⟨_, op2t_notN, f⟩))
/-! ### chains of two comparisons of ints -/
theorem chain_core {op op' : CmpOp} {r r' : Int → Int → Bool} {K : Frg} {ta tb tc : TE} (h : Ev K C ta ρ μ n fun d1 n1 => Ev K C tb ρ μ n1 fun d2 n2 => ∃ i j, d1 = .int i ∧ d2 = .int j ∧ if r i j = true then Ev K C tc ρ μ n2 fun d3 n3 => ∃ k, d3 = .int k ∧ Φ (.bool (r' j k)) n3 else Φ (.bool false) n2) :
    Ev K C (tChain (rI0 fun i j => .bl (r i j)) (rI0 fun i j => .bl (r' i j)) ta tb tc) ρ μ n Φ := fun ads σ B H Q rp q =>
  h ads σ B H _ rp fun v1 d1 B1 H1 n1 e1 r1 p1 h2 => h2 ads σ B1 H1 _ r1 fun v2 d2 B2 H2 n2 e2 r2 p2 ⟨i, j, ed1, ed2, f⟩ => by
    subst ed1 ed2
    refine ⟨i, j, dp_int p1, dp_int p2, r i j, rfl, ?_⟩
    cases hc : r i j with
    | true =>
      rw [hc, if_pos rfl] at f
      rw [if_pos rfl]
      exact f ads σ B2 H2 _ r2 fun v3 d3 B3 H3 n3 e3 r3 p3 ⟨k, ed3, f3⟩ => by
        subst ed3
        exact ⟨j, k, dp_int p2, dp_int p3, q _ _ B3 H3 n3 ((e1.trans e2).trans e3) r3 (.bl _) f3⟩
    | false =>
      rw [hc, if_neg Bool.false_ne_true] at f
      rw [if_neg Bool.false_ne_true]
      exact q _ _ B2 H2 n2 (e1.trans e2) r2 (.bl _) f
theorem ex_chain {op op' : CmpOp} {r r' : Int → Int → Bool} (ho : OpR X (compareOp op) (rI0 fun i j => .bl (r i j))) (ho' : OpR X (compareOp op') (rI0 fun i j => .bl (r' i j)))
    (h : EX X C a ρ μ n fun d1 n1 => EX X C b ρ μ n1 fun d2 n2 => ∃ i j, d1 = .int i ∧ d2 = .int j ∧ if r i j = true then EX X C c ρ μ n2 fun d3 n3 => ∃ k, d3 = .int k ∧ Φ (.bool (r' j k)) n3 else Φ (.bool false) n2) (hm : lastMarks [op, op'] [b, c] = false := by with_unfolding_all rfl) :
    EX X C (.Compare a [op, op'] [b, c] pos) ρ μ n Φ := ex_of (pe_chain ho ho' pe_can pe_can pe_can hm) (chain_core (op := op) (op' := op') h)
/-! ### truth -/
/-- a test that is a value -/
theorem et_v (h : EX X C e ρ μ n fun d n' => ∃ b, d = .bool b ∧ Θ b n') (he : ∀ whole, isTrue e X.env whole = (do let v ← whole; standAt e.pos; holding [v] (truthy v)) := by intro _; rfl) : ET X C e ρ μ n Θ := et_of (pt_val pe_can he) (et_val h)
theorem et_nt (h : ET X C a ρ μ n fun b n' => Θ (!b) n') : ET X C (.UnaryOp .Not a pos) ρ μ n Θ := et_of (pt_not pt_can) (et_not h)
theorem et_w (h : EW X C e ρ μ n Θ) : ET X C e ρ μ n Θ := et_of pw_can.pt h
theorem ew_and {rest : List Expr} (h : ET X C a ρ μ n fun b1 n' => if b1 = true then EW X C (.BoolOp .And (b :: rest) pos) ρ μ n' Θ else Θ false n') : EW X C (.BoolOp .And (a :: b :: rest) pos) ρ μ n Θ := ew_of (pw_and pt_can pw_can) (et_and h)
theorem ew_or {rest : List Expr} (h : ET X C a ρ μ n fun b1 n' => if b1 = true then Θ true n' else EW X C (.BoolOp .Or (b :: rest) pos) ρ μ n' Θ) : EW X C (.BoolOp .Or (a :: b :: rest) pos) ρ μ n Θ := ew_of (pw_or pt_can pw_can) (et_or h)
theorem ew_and1 (h : ET X C a ρ μ n Θ) : EW X C (.BoolOp .And [a] pos) ρ μ n Θ := ew_of (pw_and1 pt_can) h
theorem ew_or1 (h : ET X C a ρ μ n Θ) : EW X C (.BoolOp .Or [a] pos) ρ μ n Θ := ew_of (pw_or1 pt_can) h
theorem ex_and {rest : List Expr} (h : EX X C a ρ μ n fun d n' => ∃ b1, d = .bool b1 ∧ if b1 = true then EX X C (.BoolOp .And (b :: rest) pos) ρ μ n' Φ else Φ (.bool false) n') : EX X C (.BoolOp .And (a :: b :: rest) pos) ρ μ n Φ := ex_of (pe_and pe_can pe_can) (ev_andV h)
theorem ex_or {rest : List Expr} (h : EX X C a ρ μ n fun d n' => ∃ b1, d = .bool b1 ∧ if b1 = true then Φ (.bool true) n' else EX X C (.BoolOp .Or (b :: rest) pos) ρ μ n' Φ) : EX X C (.BoolOp .Or (a :: b :: rest) pos) ρ μ n Φ := ex_of (pe_or pe_can pe_can) (ev_orV h)
theorem ex_one {op : BoolOp} (h : EX X C a ρ μ n Φ) : EX X C (.BoolOp op [a] pos) ρ μ n Φ := ex_of (pe_one pe_can) h
theorem ex_not (h : EX X C a ρ μ n fun d n' => ∃ b, d = .bool b ∧ Φ (.bool (!b)) n') : EX X C (.UnaryOp .Not a pos) ρ μ n Φ := ex_of (pe_not pe_can) (ev_notV h)
theorem ex_ite (h : ET X C c ρ μ n fun b1 n' => if b1 = true then EX X C a ρ μ n' Φ else EX X C b ρ μ n' Φ) : EX X C (.IfExp c a b pos) ρ μ n Φ := ex_of (pe_ifExp pt_can pe_can pe_can) (ev_if h)
theorem el_ite (h : ET X C c ρ μ n fun b1 n' => if b1 = true then EL X C a ρ μ n' Λ else EL X C b ρ μ n' Λ) : EL X C (.IfExp c a b pos) ρ μ n Λ := el_of (pe_ifExp pt_can pe_can pe_can) (el_if h)
/-! ### arguments, displays -/
theorem ea_0 {Γ : List Ar → Nat → Prop} (f : Γ [] n) : EA X C [] ρ μ n Γ := ea_of pa_nil (ea_nil f)
theorem ea_c {es : List Expr} {Γ : List Ar → Nat → Prop} (h : EX X C a ρ μ n fun d n1 => EA X C es ρ μ n1 fun as n2 => Γ (.da d :: as) n2) (hs : starEach (a :: es) X.env = (false, eval a X.env) :: starEach es X.env := by rfl) : EA X C (a :: es) ρ μ n Γ := ea_of (pa_cons pe_can pa_can hs) (ea_cons h)
theorem ea_f (i : Nat) {x : Str} {es : List Expr} {Γ : List Ar → Nat → Prop} (h : ρ[i]? = some .fd) (f : EA X C es ρ μ n fun as n2 => Γ (.fd :: as) n2) (hN : X.N[i]? = some x := by rfl) (hv : Vis X.env.scope x := by first | exact Or.inl rfl | exact Or.inr (Or.inl rfl) | exact Or.inr (Or.inr rfl))
    (hd : (x == ("__debug__" : Str)) = false := by decide) (hcd : (x == ("__classdict__" : Str)) = false := by decide) (hs : starEach (Expr.Name x pos :: es) X.env = (false, eval (.Name x pos) X.env) :: starEach es X.env := by rfl) : EA X C (.Name x pos :: es) ρ μ n Γ := ea_of (pa_cons (pe_var hN hv hd hcd) pa_can hs) (ea_fd h f)
theorem ek_0 {Γ : List Ar → Nat → Prop} (f : Γ [] n) : EK X C [] ρ μ n Γ := ek_of pk_nil (ea_nil f)
theorem ek_c {ks : List Keyword} {nm : Option Str} {Γ : List Ar → Nat → Prop} (h : EX X C a ρ μ n fun d n1 => EK X C ks ρ μ n1 fun as n2 => Γ (.da d :: as) n2) : EK X C (⟨nm, a, pos⟩ :: ks) ρ μ n Γ := ek_of (pk_cons pe_can pk_can) (ea_cons h)
theorem ex_tup {es : List Expr} {x1} (h : EA X C es ρ μ n fun as n1 => ∃ ds, as = ds.map .da ∧ ds.length ≤ 1000 ∧ Φ (.tuple ds) n1) : EX X C (.Tuple es x1 pos) ρ μ n Φ := ex_of (pe_tup pa_can) (ev_tup h)
theorem el_ls {es : List Expr} (h : EA X C es ρ μ n fun as n1 => ∃ ds, as = ds.map .da ∧ ds.length ≤ 1000 ∧ Λ ds n1) : EL X C (.List es pos) ρ μ n Λ := el_of (pe_lst pa_can) (Pb.el_lst (K := X.K) h)
/-! ### items, slices -/
theorem ex_ixL (h : EX X C a ρ μ n fun d1 n1 => EX X C b ρ μ n1 fun d2 n2 => ∃ (ds : List PyData) (i : Nat) (d : PyData), d1 = .list ds ∧ d2 = .int (i : Int) ∧ ds[i]? = some d ∧ Φ d n2) (hs : PlainIx b := by exact fun _ _ => rfl) : EX X C (.Subscript a b pos) ρ μ n Φ :=
  ex_of (pe_ix ix_list pe_can pe_can hs) (ev_op2 (h.imp fun d1 n1 h1 => h1.imp fun d2 n2 ⟨ds, i, d, e1, e2, hd, f⟩ => ⟨d, by
    subst e1 e2
    exact op2_ixL hd, f⟩))
theorem ex_ixT (h : EX X C a ρ μ n fun d1 n1 => EX X C b ρ μ n1 fun d2 n2 => ∃ (ds : List PyData) (i : Nat) (d : PyData), d1 = .tuple ds ∧ d2 = .int (i : Int) ∧ ds[i]? = some d ∧ Φ d n2) (hs : PlainIx b := by exact fun _ _ => rfl) : EX X C (.Subscript a b pos) ρ μ n Φ :=
  ex_of (pe_ix ix_tup pe_can pe_can hs) (ev_op2 (h.imp fun d1 n1 h1 => h1.imp fun d2 n2 ⟨ds, i, d, e1, e2, hd, f⟩ => ⟨d, by
    subst e1 e2
    exact op2_ixT hd, f⟩))
@[irreducible] def canO (X : Cx) (e : Option Expr) : TO := fun σ H Q => ∀ pins s, Inv X pins σ H s → wpAny (model X.prog X.w) X.A (evalPart e X.env) (fun u s' => ∃ o H', Inv X pins σ H' s' ∧ IsPart u o ∧ Q o H') X.xe s
theorem po_can {e : Option Expr} : PO X e (canO X e) := ⟨by
  unfold canO
  exact fun pins s σ H Q I h => h pins s I⟩
abbrev EO (X : Cx) (C : Ct) (e : Option Expr) := EvO X.K C (canO X e)
theorem eo_n {Ω : Option Int → Nat → Prop} (f : Ω none n) : EO X C none ρ μ n Ω := by
  unfold EO canO
  exact fun ads σ B H Q r q pins s I => po_none.run pins s σ H Q I (eo_none (K := X.K) f ads σ B H Q r q)
theorem eo_s {Ω : Option Int → Nat → Prop} (h : EX X C e ρ μ n fun d n' => ∃ i, d = .int i ∧ Ω (some i) n') : EO X C (some e) ρ μ n Ω := by
  unfold EO canO
  exact fun ads σ B H Q r q pins s I => (po_some pe_can).run pins s σ H Q I (eo_some (K := X.K) h ads σ B H Q r q)
theorem ex_slT {lo hi : Option Expr} {p2 : Pos} (h : EX X C a ρ μ n fun d n1 => EO X C lo ρ μ n1 fun l n2 => EO X C hi ρ μ n2 fun u n3 => ∃ ds, d = .tuple ds ∧ Φ (.tuple (cutL ds l u)) n3) : EX X C (.Subscript a (.Slice lo hi none p2) pos) ρ μ n Φ := ex_of (pe_slice sl_tupA pe_can po_can po_can) (ev_slT h)
theorem el_sl {lo hi : Option Expr} {p2 : Pos} (h : EX X C a ρ μ n fun d n1 => EO X C lo ρ μ n1 fun l n2 => EO X C hi ρ μ n2 fun u n3 => ∃ ds, d = .list ds ∧ Λ (cutL ds l u) n3) : EL X C (.Subscript a (.Slice lo hi none p2) pos) ρ μ n Λ := el_of (pe_slice sl_list pe_can po_can po_can) (Pb.el_slL (K := X.K) h)
theorem el_rv {k : Nat} {p1 p2 p3 : Pos} (h : EX X C a ρ μ n fun d n1 => ∃ ds, d = .list ds ∧ Λ ds.reverse n1) : EL X C (.Subscript a (.Slice none none (some (.UnaryOp .USub (.Constant (.int 1) k p1) p2)) p3) pos) ρ μ n Λ := el_of (pe_revL pe_can) (el_rev (K := X.K) h)
/-! ### built-ins -/
theorem ex_cb {x : Str} {es : List Expr} {id : String} {r : List V → Hp → VK → Prop} (hc : CallR X (.builtin id) r) (hm : X.mg x = none) (hv : bootBuiltins x = some (.builtin id)) (h : EA X C (a :: es) ρ μ n fun as n1 => ∃ ds d, as = ds.map .da ∧ Cal X.K r ds d ∧ Φ d n1) (hg : Gl X x := by rfl) (hn : x ≠ "__name__" := by decide) (hdb : (x == ("__debug__" : Str)) = false := by decide)
    (he : starEach (a :: es) X.env = (false, eval a X.env) :: starEach es X.env := by rfl) (hpl : (backTo pos (starEach es X.env)).any (·.1) = false := by rfl) : EX X C (.Call (.Name x p) (a :: es) [] pos) ρ μ n Φ := ex_of (pe_callB hc hg hm hv pa_can hn hdb he hpl) (ev_cb h)
theorem ex_ct {x : Str} {es : List Expr} {T : String} {r : List V → Hp → VK → Prop} (hc : CallR X (.type T) r) (hm : X.mg x = none) (hv : bootBuiltins x = some (.type T)) (h : EA X C (a :: es) ρ μ n fun as n1 => ∃ ds d, as = ds.map .da ∧ Cal X.K r ds d ∧ Φ d n1) (hg : Gl X x := by rfl) (hn : x ≠ "__name__" := by decide) (hdb : (x == ("__debug__" : Str)) = false := by decide)
    (he : starEach (a :: es) X.env = (false, eval a X.env) :: starEach es X.env := by rfl) (hpl : (backTo pos (starEach es X.env)).any (·.1) = false := by rfl) : EX X C (.Call (.Name x p) (a :: es) [] pos) ρ μ n Φ := ex_of (pe_callTy hc hg hm hv pa_can hn hdb he hpl) (ev_cb h)
theorem el_ct {x : Str} {es : List Expr} {T : String} {r : List V → Hp → VK → Prop} (hc : CallR X (.type T) r) (hm : X.mg x = none) (hv : bootBuiltins x = some (.type T)) (h : EA X C (a :: es) ρ μ n fun as n1 => ∃ ds es', as = ds.map .da ∧ CalL X.K r ds es' ∧ Λ es' n1) (hg : Gl X x := by rfl) (hn : x ≠ "__name__" := by decide) (hdb : (x == ("__debug__" : Str)) = false := by decide)
    (he : starEach (a :: es) X.env = (false, eval a X.env) :: starEach es X.env := by rfl) (hpl : (backTo pos (starEach es X.env)).any (·.1) = false := by rfl) : EL X C (.Call (.Name x p) (a :: es) [] pos) ρ μ n Λ := el_of (pe_callTy hc hg hm hv pa_can hn hdb he hpl) (el_cb (K := X.K) h)
theorem ea_1 {Γ : List Ar → Nat → Prop} (h : EX X C a ρ μ n fun d n1 => Γ [.da d] n1) (hs : starEach (a :: []) X.env = (false, eval a X.env) :: starEach [] X.env := by rfl) : EA X C [a] ρ μ n Γ := ea_c (h.imp fun d n1 f => ea_0 f) hs
theorem ex_lenL (hm : X.mg "len" = none) (h : EX X C a ρ μ n fun d n1 => ∃ ds, d = .list ds ∧ Φ (.int (ds.length : Int)) n1) (hg : Gl X "len" := by rfl) (hs : starEach (a :: []) X.env = (false, eval a X.env) :: starEach [] X.env := by rfl) : EX X C (.Call (.Name "len" p) [a] [] pos) ρ μ n Φ := ex_cb (r := rLenS X.K) call_len_seq hm PySem.boot_len (ea_1 (h.imp fun d n1 ⟨ds, e, f⟩ => ⟨[.list ds], _, by rw [e] <;> rfl, cal_lenL, f⟩) hs) hg (by decide) (by decide) hs
theorem ex_lenT (hm : X.mg "len" = none) (h : EX X C a ρ μ n fun d n1 => ∃ ds, d = .tuple ds ∧ Φ (.int (ds.length : Int)) n1) (hg : Gl X "len" := by rfl) (hs : starEach (a :: []) X.env = (false, eval a X.env) :: starEach [] X.env := by rfl) : EX X C (.Call (.Name "len" p) [a] [] pos) ρ μ n Φ := ex_cb (r := rLenS X.K) call_len_seq hm PySem.boot_len (ea_1 (h.imp fun d n1 ⟨ds, e, f⟩ => ⟨[.tuple ds], _, by rw [e] <;> rfl, cal_lenT, f⟩) hs) hg (by decide) (by decide) hs
theorem ex_tupL (hm : X.mg "tuple" = none) (h : EX X C a ρ μ n fun d n1 => ∃ ds, d = .list ds ∧ Φ (.tuple ds) n1) (hg : Gl X "tuple" := by rfl) (hs : starEach (a :: []) X.env = (false, eval a X.env) :: starEach [] X.env := by rfl) : EX X C (.Call (.Name "tuple" p) [a] [] pos) ρ μ n Φ := ex_ct (r := rTupS X.K) call_tuple_of hm (by decide +kernel) (ea_1 (h.imp fun d n1 ⟨ds, e, f⟩ => ⟨[.list ds], _, by rw [e] <;> rfl, cal_tupL, f⟩) hs) hg (by decide) (by decide) hs
theorem ex_tupT (hm : X.mg "tuple" = none) (h : EX X C a ρ μ n fun d n1 => ∃ ds, d = .tuple ds ∧ Φ (.tuple ds) n1) (hg : Gl X "tuple" := by rfl) (hs : starEach (a :: []) X.env = (false, eval a X.env) :: starEach [] X.env := by rfl) : EX X C (.Call (.Name "tuple" p) [a] [] pos) ρ μ n Φ := ex_ct (r := rTupS X.K) call_tuple_of hm (by decide +kernel) (ea_1 (h.imp fun d n1 ⟨ds, e, f⟩ => ⟨[.tuple ds], _, by rw [e] <;> rfl, cal_tupT, f⟩) hs) hg (by decide) (by decide) hs
theorem el_lstT (hm : X.mg "list" = none) (h : EX X C a ρ μ n fun d n1 => ∃ ds, d = .tuple ds ∧ Λ ds n1) (hg : Gl X "list" := by rfl) (hs : starEach (a :: []) X.env = (false, eval a X.env) :: starEach [] X.env := by rfl) : EL X C (.Call (.Name "list" p) [a] [] pos) ρ μ n Λ := el_ct (r := rLstS X.K) call_list_of hm (by decide +kernel) (ea_1 (h.imp fun d n1 ⟨ds, e, f⟩ => ⟨[.tuple ds], _, by rw [e] <;> rfl, cal_lstT, f⟩) hs) hg (by decide) (by decide) hs
theorem ex_int (hm : X.mg "int" = none) (h : EX X C a ρ μ n fun d n1 => ∃ i, d = .int i ∧ Φ (.int i) n1) (hg : Gl X "int" := by rfl) (hs : starEach (a :: []) X.env = (false, eval a X.env) :: starEach [] X.env := by rfl) : EX X C (.Call (.Name "int" p) [a] [] pos) ρ μ n Φ := ex_ct (r := rIntS) call_int1 hm (by decide +kernel) (ea_1 (h.imp fun d n1 ⟨i, e, f⟩ => ⟨[.int i], _, by rw [e] <;> rfl, cal_int, f⟩) hs) hg (by decide) (by decide) hs
theorem ex_all (hc : X.calm = true) (hm : X.mg "all" = none) (h : EX X C a ρ μ n fun d n1 => ∃ bs : List Bool, d = .list (bs.map PyData.bool) ∧ Φ (.bool (bs.all id)) n1) (hg : Gl X "all" := by rfl) (hs : starEach (a :: []) X.env = (false, eval a X.env) :: starEach [] X.env := by rfl) : EX X C (.Call (.Name "all" p) [a] [] pos) ρ μ n Φ := ex_cb (r := rAll X.K) (cr_all hc) hm (by decide +kernel) (ea_1 (h.imp fun d n1 ⟨bs, e, f⟩ => ⟨[.list (bs.map PyData.bool)], _, by rw [e] <;> rfl, cal_all, f⟩) hs) hg (by decide) (by decide) hs
theorem ex_min (hc : X.calm = true) (hm : X.mg "min" = none) (h : EX X C a ρ μ n fun d n1 => ∃ (ns : List Int) (m : Int), d = .list (ns.map PyData.int) ∧ 0 < ns.length ∧ (∀ k, k ∈ ns → (∀ y, y ∈ ns → k ≤ y) → k = m) ∧ Φ (.int m) n1) (hg : Gl X "min" := by rfl) (hs : starEach (a :: []) X.env = (false, eval a X.env) :: starEach [] X.env := by rfl) : EX X C (.Call (.Name "min" p) [a] [] pos) ρ μ n Φ :=
  ex_cb (r := rMin X.K) (cr_min hc) hm (by decide +kernel) (ea_1 (h.imp fun d n1 ⟨ns, m, e, h0, h1, f⟩ => ⟨[.list (ns.map PyData.int)], _, by rw [e] <;> rfl, cal_min h0 h1, f⟩) hs) hg (by decide) (by decide) hs
/-- isinstance(x, T) -/
theorem ex_isi {T : Str} {U : String} {p2 : Pos} (hm : X.mg "isinstance" = none) (hmT : X.mg T = none) (hvT : bootBuiltins T = some (.type U)) (h : EX X C a ρ μ n fun d n1 => ∃ b, kitB (tyN d) U = some b ∧ Φ (.bool b) n1) (hg : Gl X "isinstance" := by rfl) (hgT : Gl X T := by rfl) (hnT : T ≠ "__name__" := by decide) (hdT : (T == ("__debug__" : Str)) = false := by decide)
    (he : starEach (a :: [.Name T p2]) X.env = (false, eval a X.env) :: starEach [.Name T p2] X.env := by rfl) (he2 : starEach (.Name T p2 :: []) X.env = (false, eval (.Name T p2) X.env) :: starEach [] X.env := by rfl) (hpl : (backTo pos (starEach [.Name T p2] X.env)).any (·.1) = false := by rfl) :
    EX X C (.Call (.Name "isinstance" p) [a, .Name T p2] [] pos) ρ μ n Φ := ex_of (pe_callB call_isi hg hm (by decide +kernel) (pa_cons pe_can (pa_cons (pe_bltn (v := .ty U) hgT hmT hvT rfl hnT hdT) pa_nil he2) he) (by decide) (by decide) he hpl) (ev_isi h)
end
end Pb

set_option Elab.async false
set_option linter.all false
set_option maxRecDepth 100000
set_option maxHeartbeats 4000000
/-! PbF: statements by Python's words, calls of own defs, raises, a def by its body. -/
namespace Pb
open PySem PySem.Spec PyProof.Rows L2
/-! ### own defs -/
structure Kn (P : Program) (w : World) (K : Frg) (mg : Str → Option Value) (base : Heap) (T : List (Addr × Str)) (j : Nat) (x : Str) (ps : List Str) (pre : Pre) : Prop where
  ex : ∃ f fd, FnOk P w K mg base (L2.CX P w) j f fd ps (prom K T pre) ∧ mg x = some (.ref f) ∧ PySem.W.keepIn K (.ref f) = true ∧ Binds K fd ps []
/-- .. that is called by keywords ks; pm puts the values in the parameters' order -/
structure KnK (P : Program) (w : World) (K : Frg) (mg : Str → Option Value) (base : Heap) (T : List (Addr × Str)) (j : Nat) (x : Str) (ps ks : List Str) (gV : List V → List V → List V) (pre : Pre) : Prop where
  ex : ∃ f fd g, FnOk P w K mg base (L2.CX P w) j f fd ps (prom K T pre) ∧ mg x = some (.ref f) ∧ PySem.W.keepIn K (.ref f) = true ∧ KBn K fd ps 0 ks g gV
def okp (Φ : PyData → Nat → Prop) (o : Ou) (n : Nat) : Prop := match o with
  | .ok d => Φ d n
  | .er _ => False
def fin (Φ : Ou → Nat → Prop) : Out → Prop
  | .rt d n => Φ (.ok d) n
  | .nx _ _ n => Φ (.ok .none) n
  | .er x n => Φ (.er x) n
  | _ => False
section
variable {X : Cx} {C : Ct} {ρ : List Sl} {μ : List Ce} {n : Nat} {a b c e : Expr} {pos p : Pos} {Φ : PyData → Nat → Prop} {Λ : List PyData → Nat → Prop} {Θ : Bool → Nat → Prop} {Ψ : Out → Prop} {T : List (Addr × Str)} {j : Nat} {x : Str} {ps : List Str} {pre : Pre}
theorem pe_callK0 {CX : CXT} {k : Nat} {f : Addr} {fd : FuncData} {ks : List Str} {sp : Sp} {E : XK} {kws : List Keyword} {tk : TA} {g : List Value → List Value → List Value} {gV : List V → List V → List V} (F : FnOk X.prog X.w X.K X.mg X.base CX k f fd ps sp) (hr : Room k X.A) (hg : Gl X x) (hm : X.mg x = some (.ref f)) (hk : PySem.W.keepIn X.K (.ref f) = true) (hb : KBn X.K fd ps 0 ks g gV) (hx : Passes CX X E) (hkw : PK X kws tk)
    (hall : (backToKw pos (keywordEach kws X.env)).all (·.1.isSome) = true := by rfl) (hks : (backToKw pos (keywordEach kws X.env)).filterMap (·.1) = ks := by rfl) (hdb : (x == ("__debug__" : Str)) = false := by decide)
    (hpl : ((backTo pos (starEach [] X.env)).any (·.1) || (backToKw pos (keywordEach kws X.env)).any (·.1.isNone)) = false := by rfl) : PE X (.Call (.Name x p) [] kws pos) (tCallN 0 ks.length sp gV E tNil tk) := by
  refine ⟨fun pins s σ H Q I h => wpAny_Call_Name_kw (ld_glob I hg hm ?_ hdb)⟩
  refine PySem.W.callWith_KW0 (h₀ := X.base) I.ok.mod.kin hk hall ?_ hpl
  refine thn (hkw.run pos pins s σ H _ I h) fun ws s2 ⟨zs, H2, I2, rz, l1, l2, q2⟩ => ⟨I2.kIn, ?_⟩
  rw [hks]
  exact run_fnN (us := []) F hr hb hx I2 .nil rz l1 l2 q2
theorem ex_call {es : List Expr} (k : Kn X.prog X.w X.K X.mg X.base T j x ps pre) (hr : Room j X.A) (hT : C.T = T) (h : EA X C (a :: es) ρ μ n fun as n1 => pre as n1 (okp Φ)) (hg : Gl X x := by rfl) (hdb : (x == ("__debug__" : Str)) = false := by decide)
    (he : starEach (a :: es) X.env = (false, eval a X.env) :: starEach es X.env := by rfl) (hpl : (backTo pos (starEach es X.env)).any (·.1) = false := by rfl) : EX X C (.Call (.Name x p) (a :: es) [] pos) ρ μ n Φ := by
  obtain ⟨f, fd, F, hm, hk, hb⟩ := k.ex
  exact ex_of (pe_call F hr hg hm hk hb .nil passL pa_can hdb he hpl) (ev_call hT h)
theorem ex_callK {ks : List Str} {kws : List Keyword} {gV : List V → List V → List V} (k : KnK X.prog X.w X.K X.mg X.base T j x ps ks gV pre) (hr : Room j X.A) (hT : C.T = T) (pm : List Ar → List Ar) (hm : ∀ fa B vs as, as.length = ks.length → Paired (ArOk X.K fa B) vs as → Paired (ArOk X.K fa B) (gV [] vs) (pm as))
    (h : EK X C kws ρ μ n fun as n1 => as.length = ks.length ∧ pre (pm as) n1 (okp Φ)) (hg : Gl X x := by rfl) (hall : (backToKw pos (keywordEach kws X.env)).all (·.1.isSome) = true := by rfl) (hks : (backToKw pos (keywordEach kws X.env)).filterMap (·.1) = ks := by rfl) (hdb : (x == ("__debug__" : Str)) = false := by decide)
    (hpl : ((backTo pos (starEach [] X.env)).any (·.1) || (backToKw pos (keywordEach kws X.env)).any (·.1.isNone)) = false := by rfl) : EX X C (.Call (.Name x p) [] kws pos) ρ μ n Φ := by
  obtain ⟨f, fd, g, F, hm', hk, hb⟩ := k.ex
  exact ex_of (pe_callK0 F hr hg hm' hk hb passL pk_can hall hks hdb hpl) (ev_callN hT pm hm h)
/-- a call as a statement; what it raises leaves the def -/
theorem sx_call {es : List Expr} {pos2 : Pos} (k : Kn X.prog X.w X.K X.mg X.base T j x ps pre) (hr : Room j X.A) (hT : C.T = T) (h : EA X C (a :: es) ρ μ n fun as n1 => pre as n1 (ouS ρ μ Ψ)) (tk : Takes X (fun cls d _ H => C.E cls d H) := by exact takes_of rfl rfl rfl rfl) (hg : Gl X x := by rfl) (hdb : (x == ("__debug__" : Str)) = false := by decide)
    (he : starEach (a :: es) X.env = (false, eval a X.env) :: starEach es X.env := by rfl) (hpl : (backTo pos (starEach es X.env)).any (·.1) = false := by rfl) (hs : swapsWith (.Call (.Name x p) (a :: es) [] pos) none pos2.line X.env = pure false := by rfl) : SX X C (.Expr (.Call (.Name x p) (a :: es) [] pos) pos2) ρ μ n Ψ := by
  obtain ⟨f, fd, F, hm, hk, hb⟩ := k.ex
  exact sx_of (ps_expr (pe_call F hr hg hm hk hb .nil (passes_call tk fun _ _ _ _ h => h) pa_can hdb he hpl) hs) (sv_call hT h)
/-! ### statements -/
theorem sb_nil (f : Ψ (.nx ρ μ n)) : SB X C [] ρ μ n Ψ := sb_of pss_nil (sv_next f)
theorem sb_cons {st : Stmt} {rest : List Stmt} (h : SX X C st ρ μ n (nxt (fun ρ' μ' n' => SB X C rest ρ' μ' n' Ψ) Ψ)) : SB X C (st :: rest) ρ μ n Ψ := sb_of (pss_cons ps_can pss_can) (sv_seq h)
theorem sx_asg (i : Nat) {px : Pos} (nd : X.N.Nodup) (h : EX X C e ρ μ n fun d n' => Ψ (.nx (ρ.set i (.im d)) μ n')) (hi : X.N[i]? = some x := by rfl) (hx : Loc X.env.scope x := by first | exact .inl rfl | exact .inr rfl) (hs : swapsWith e (some (.Name x px)) pos.line X.env = pure false := by rfl) (hf : X.fn x = true ∨ X.env.scope.names.lookup x = some .local := by first | exact .inl rfl | exact .inr rfl) :
    SX X C (.Assign [.Name x px] e pos) ρ μ n Ψ := sx_of (ps_set nd hi hx pe_can hs hf) (sv_asg h)
theorem sx_asgL (i : Nat) {px : Pos} (nd : X.N.Nodup) (h : EL X C e ρ μ n fun ds n' => Ψ (.nx (ρ.set i (.ce μ.length)) (μ ++ [.ls ds]) n')) (hi : X.N[i]? = some x := by rfl) (hx : Loc X.env.scope x := by first | exact .inl rfl | exact .inr rfl) (hs : swapsWith e (some (.Name x px)) pos.line X.env = pure false := by rfl) (hf : X.fn x = true ∨ X.env.scope.names.lookup x = some .local := by first | exact .inl rfl | exact .inr rfl) :
    SX X C (.Assign [.Name x px] e pos) ρ μ n Ψ := sx_of (ps_set nd hi hx pe_can hs hf) (sv_asgL h)
theorem sx_ret (h : EX X C e ρ μ n fun d n' => Ψ (.rt d n')) : SX X C (.Return (some e) pos) ρ μ n Ψ := sx_of (ps_ret pe_can) (sv_ret h)
theorem sx_if {s1 s2 : List Stmt} (h : ET X C c ρ μ n fun b n' => if b = true then SB X C s1 ρ μ n' Ψ else SB X C s2 ρ μ n' Ψ) : SX X C (.If c s1 s2 pos) ρ μ n Ψ := sx_of (ps_if pt_can pss_can pss_can) (sv_if h)
theorem sx_while {body : List Stmt} (I : Nat → List Sl → List Ce → Nat → Prop) (m : Nat) (h0 : I m ρ μ n) (hs : ∀ m ρ' μ' n', I m ρ' μ' n' → ET X C c ρ' μ' n' fun b n2 => if b = true then SB X C body ρ' μ' n2 (lp (fun ρ3 μ3 n3 => ∃ m', m' < m ∧ I m' ρ3 μ3 n3) Ψ) else Ψ (.nx ρ' μ' n2))
    (hp : PassesOwn (model X.prog X.w) X.A X.env X.xe := by exact passes_of rfl) : SX X C (.While c body [] pos) ρ μ n Ψ := sx_of (ps_while hp pt_can pss_can) (sv_while I m h0 hs)
/-- what is walked -/
@[irreducible] def canI (X : Cx) (tg it : Expr) : TI := fun σ H R => ∀ pins s, Inv X pins σ H s → wpAny (model X.prog X.w) X.A (eval it X.env) (fun v s1 => wpAny (model X.prog X.w) X.A (pyIter v) (PIE X pins σ tg R) X.xe s1) X.xe s
theorem pi_can {tg it : Expr} : PI X tg it (canI X tg it) := ⟨by
  unfold canI
  exact fun pins s σ H R I h => h pins s I⟩
abbrev WX (X : Cx) (C : Ct) (tg it : Expr) := Wi X.K C (canI X tg it)
theorem wx_of {tg it : Expr} {wi : TI} {Ω : Nat → (Nat → PyData) → Nat → Prop} (h : PI X tg it wi) (v : Wi X.K C wi ρ μ n Ω) : WX X C tg it ρ μ n Ω := by
  unfold WX canI
  exact fun ads σ B H R r q pins s I => h.run pins s σ H R I (v ads σ B H R r q)
theorem wx_range1 {tg : Expr} {Ω : Nat → (Nat → PyData) → Nat → Prop} (hm : X.mg "range" = none) (h : EX X C a ρ μ n fun d n1 => ∃ m : Int, d = .int m ∧ -(2 ^ 62) ≤ m ∧ m < 2 ^ 62 ∧ Ω m.toNat (fun i => .int i) n1) (hg : Gl X "range" := by rfl) (hs : starEach [a] X.env = [(false, eval a X.env)] := by rfl) : WX X C tg (.Call (.Name "range" p) [a] [] pos) ρ μ n Ω :=
  wx_of (pi_range1 hg hm pa_can hs) (wi_range1 (ea_1 (h.imp fun d n1 ⟨m, e, h⟩ => ⟨m, by rw [e], h⟩) hs))
theorem wx_range2 {tg : Expr} {Ω : Nat → (Nat → PyData) → Nat → Prop} (hm : X.mg "range" = none) (h : EX X C a ρ μ n fun d1 n1 => EX X C b ρ μ n1 fun d2 n2 => ∃ l m : Int, d1 = .int l ∧ d2 = .int m ∧ (-(2 ^ 62) ≤ l ∧ l < 2 ^ 62 ∧ -(2 ^ 62) ≤ m ∧ m < 2 ^ 62) ∧ Ω (m - l).toNat (fun i => .int (l + i)) n2) (hg : Gl X "range" := by rfl)
    (hs : starEach [a, b] X.env = [(false, eval a X.env), (false, eval b X.env)] := by rfl) (hs2 : starEach [b] X.env = [(false, eval b X.env)] := by rfl) : WX X C tg (.Call (.Name "range" p) [a, b] [] pos) ρ μ n Ω :=
  wx_of (pi_range2 hg hm pa_can hs hs2) (wi_range2 (ea_c (h.imp fun d1 n1 h1 => ea_1 (h1.imp fun d2 n2 ⟨l, m, e1, e2, h⟩ => ⟨l, m, by rw [e1, e2], h⟩) hs2) (by rw [hs, hs2])))
theorem wx_list {tg : Expr} {Ω : Nat → (Nat → PyData) → Nat → Prop} (h : EX X C e ρ μ n fun d n1 => ∃ ds, d = .list ds ∧ Ω ds.length (fun i => ds.getD i .none) n1) : WX X C tg e ρ μ n Ω := wx_of (pi_list pe_can) (wi_list h)
theorem wx_tup {tg : Expr} {Ω : Nat → (Nat → PyData) → Nat → Prop} (h : EX X C e ρ μ n fun d n1 => ∃ ds, d = .tuple ds ∧ Ω ds.length (fun i => ds.getD i .none) n1) : WX X C tg e ρ μ n Ω := wx_of (pi_tup pe_can) (wi_tup h)
theorem sx_for (j : Nat) {it : Expr} {px : Pos} {body : List Stmt} (hc : X.calm = true) (nd : X.N.Nodup) (h : WX X C (.Name x px) it ρ μ n fun len dx n1 => ∃ I : Nat → List Sl → List Ce → Nat → Prop, I 0 ρ μ n1 ∧ (∀ i ρ' μ' n', i < len → I i ρ' μ' n' → SB X C body (ρ'.set j (.im (dx i))) μ' n' (lp (I (i + 1)) Ψ)) ∧ ∀ ρ' μ' n', I len ρ' μ' n' → Ψ (.nx ρ' μ' n'))
    (hi : X.N[j]? = some x := by rfl) (hx : Loc X.env.scope x := by first | exact .inl rfl | exact .inr rfl) (hf : X.fn x = true ∨ X.env.scope.names.lookup x = some .local := by first | exact .inl rfl | exact .inr rfl) (hp : PassesOwn (model X.prog X.w) X.A X.env X.xe := by exact passes_of rfl) (hs : ∀ y, foldedSetIterable it X.env y = pure y := by intro _; rfl) :
    SX X C (.For (.Name x px) it body [] pos) ρ μ n Ψ := sx_of (ps_for hp hc pi_can (pg_name nd hi hx hf) pss_can hs) (sv_for fun ads σ B H R r q => h ads σ B H R r fun J len dx B' H' n' e r' wk ⟨I, h0, h1, h2⟩ => q J len dx B' H' n' e r' wk ⟨I, h0, fun i ρ' μ' n2 hi hI => ⟨_, tg_name, h1 i ρ' μ' n2 hi hI⟩, h2⟩)
/-- x.append(e) -/
theorem sx_app (i k : Nat) {ds : List PyData} {p1 p2 pos2 : Pos} (hi : ρ[i]? = some (.ce k)) (hm : μ[k]? = some (.ls ds)) (hl : ds.length < 1000000) (h : EX X C e ρ μ n fun d n' => Ψ (.nx ρ (μ.set k (.ls (ds ++ [d]))) n')) (hN : X.N[i]? = some x := by rfl) (hv : Vis X.env.scope x := by first | exact Or.inl rfl | exact Or.inr (Or.inl rfl) | exact Or.inr (Or.inr rfl))
    (hd : (x == ("__debug__" : Str)) = false := by decide) (hcd : (x == ("__classdict__" : Str)) = false := by decide) (hbase : attributeBase (.Name x p1) "append" X.env (eval (.Name x p1) X.env) = eval (.Name x p1) X.env := by rfl)
    (hfew : ((backTo pos (starEach (e :: []) X.env)).all (fun x => !x.1) && (backToKw pos (keywordEach [] X.env)).all (fun x => x.1.isSome) && decide ((e :: []).length + ([] : List Keyword).length + (if ([] : List Keyword).isEmpty then 0 else 1) < 30)) = true := by rfl)
    (hline : (p2.endLine == pos.line) = true := by rfl) (hs : starEach (e :: []) X.env = (false, eval e X.env) :: starEach [] X.env := by rfl) (hplain : (backTo pos (starEach [] X.env)).any (·.1) = false := by rfl) (hsw : swapsWith (.Call (.Attribute (.Name x p1) "append" p2) [e] [] pos) none pos2.line X.env = pure false := by rfl) :
    SX X C (.Expr (.Call (.Attribute (.Name x p1) "append" p2) [e] [] pos) pos2) ρ μ n Ψ :=
  sx_of (ps_expr (pe_bm PySem.F.plainAttrs_list PySem.F.slot_list_append PySem.F.type_list_append mt_append (pe_var hN hv hd hcd) (pa_cons pe_can pa_nil hs) hbase hfew hline hs hplain) hsw) (sv_app hi hm hl h)
/-! ### a comprehension -/
@[irreducible] def canBE (X : Cx) (scope : Scope) (e : Expr) : TE := fun σ H Q => ∀ s0 H0 C cl fp pins s, Inv (X.blk s0 H0 scope (compEnvC scope cl C X.env) fp) pins σ H s → wpAny (model X.prog X.w) X.A (eval e (compEnvC scope cl C X.env)) (EP (X.blk s0 H0 scope (compEnvC scope cl C X.env) fp) pins σ Q) (fun _ _ => False) s
@[irreducible] def canBT (X : Cx) (scope : Scope) (ifs : List Expr) : TT := fun σ H Q => ∀ s0 H0 C cl fp pins s, Inv (X.blk s0 H0 scope (compEnvC scope cl C X.env) fp) pins σ H s → wpAny (model X.prog X.w) X.A (forIn ifs true fun c r => if r = true then do let ok ← isTrue c (compEnvC scope cl C X.env) (eval c (compEnvC scope cl C X.env)); pure (ForInStep.yield ok) else pure (ForInStep.yield r)) (TP (X.blk s0 H0 scope (compEnvC scope cl C X.env) fp) pins σ Q) (fun _ _ => False) s
abbrev BEX (X : Cx) (C : Ct) (scope : Scope) (e : Expr) := Ev X.K C (canBE X scope e)
abbrev BTX (X : Cx) (C : Ct) (scope : Scope) (ifs : List Expr) := EvT X.K C (canBT X scope ifs)
theorem pbe_can {X : Cx} {scope : Scope} {e : Expr} (s0 : Shared) (H0 : Hp) (C' : Addr) (cl : List (Str × Addr)) (fp : List Addr) : PE (X.blk s0 H0 scope (compEnvC scope cl C' X.env) fp) e (canBE X scope e) := ⟨by
  unfold canBE
  exact fun pins s σ H Q I h => h s0 H0 C' cl fp pins s I⟩
theorem pbt_can {X : Cx} {scope : Scope} {ifs : List Expr} (s0 : Shared) (H0 : Hp) (C' : Addr) (cl : List (Str × Addr)) (fp : List Addr) : PTs (X.blk s0 H0 scope (compEnvC scope cl C' X.env) fp) ifs (canBT X scope ifs) := ⟨by
  unfold canBT
  exact fun pins s σ H Q I h => h s0 H0 C' cl fp pins s I⟩
theorem bex {scope : Scope} (h : ∀ (s0 : Shared) (H0 : Hp) (C' : Addr) (cl : List (Str × Addr)) (fp : List Addr), EX (X.blk s0 H0 scope (compEnvC scope cl C' X.env) fp) C e ρ μ n Φ) : BEX X C scope e ρ μ n Φ := by
  unfold EX canE at h
  unfold BEX canBE
  exact fun ads σ B H Q r q s0 H0 C' cl fp pins s I => h s0 H0 C' cl fp ads σ B H Q r q pins s I
theorem btx0 {scope : Scope} (f : Θ true n) : BTX X C scope [] ρ μ n Θ := by
  unfold BTX canBT
  exact fun ads σ B H Q r q s0 H0 C' cl fp pins s I => pts_nil.run pins s σ H Q I (et_yes (K := X.K) f ads σ B H Q r q)
theorem btx1 {scope : Scope} (h : ∀ (s0 : Shared) (H0 : Hp) (C' : Addr) (cl : List (Str × Addr)) (fp : List Addr), ET (X.blk s0 H0 scope (compEnvC scope cl C' X.env) fp) C c ρ μ n Θ) : BTX X C scope [c] ρ μ n Θ := by
  unfold ET at h
  unfold BTX canBT
  exact fun ads σ B H Q r q s0 H0 C' cl fp pins s I => (pts_one pt_can).run pins s σ H Q I (h s0 H0 C' cl fp ads σ B H Q r q)
/-- the reading of a comprehension whose target is the name in slot j -/
def LcN (X : Cx) (C : Ct) (scope : Scope) (tg it : Expr) (ifs : List Expr) (elt : Expr) (j : Nat) (ρ : List Sl) (μ : List Ce) (n : Nat) (Λ : List PyData → Nat → Prop) : Prop :=
  WX X C tg it ρ μ n fun len dx n1 => len ≤ 1000000 ∧ ∃ I : Nat → List PyData → Nat → Prop, I 0 [] n1 ∧ (∀ i acc n', i < len → I i acc n' → BTX X C scope ifs ((wipeS ρ [j]).set j (.im (dx i))) (μ ++ [.ls acc]) n' fun b n2 => if b = true then BEX X C scope elt ((wipeS ρ [j]).set j (.im (dx i))) (μ ++ [.ls acc]) n2 fun d n3 => I (i + 1) (acc ++ [d]) n3 else I (i + 1) acc n2) ∧ ∀ acc n', I len acc n' → Λ acc n'
theorem lcn {scope : Scope} {tg it elt : Expr} {ifs : List Expr} {j : Nat} (h : LcN X C scope tg it ifs elt j ρ μ n Λ) : EvL X.K C (tLc (canI X tg it) (gName j) (canBT X scope ifs) (canBE X scope elt) [j]) ρ μ n Λ := Pb.el_lc (K := X.K) fun ads σ B H R r q => h ads σ B H R r fun J len dx B' H' n' e r' wk ⟨hl, I, h0, h1, h2⟩ => q J len dx B' H' n' e r' wk ⟨hl, I, h0, fun i acc n2 hi hI => ⟨_, tgc_name, h1 i acc n2 hi hI⟩, h2⟩
theorem el_lcN (j : Nat) {scope : Scope} {it elt : Expr} {ifs : List Expr} {px : Pos} (hc : X.calm = true) (nd : X.N.Nodup) (h : LcN X C scope (.Name x px) it ifs elt j ρ μ n Λ) (ok : blkC X.N X.env.scope scope [(x, j)] = true := by kernel_rfl) (hi : X.N[j]? = some x := by rfl) 
    (hx : ∀ (s0 : Shared) (H0 : Hp) (C' : Addr) (cl : List (Str × Addr)) (fp : List Addr), Loc (X.blk s0 H0 scope (compEnvC scope cl C' X.env) fp).env.scope x := by first | exact fun _ _ _ _ _ => .inl rfl | exact fun _ _ _ _ _ => .inr rfl)
    (hf : ∀ (s0 : Shared) (H0 : Hp) (C' : Addr) (cl : List (Str × Addr)) (fp : List Addr), (X.blk s0 H0 scope (compEnvC scope cl C' X.env) fp).fn x = true ∨ (X.blk s0 H0 scope (compEnvC scope cl C' X.env) fp).env.scope.names.lookup x = some .local := by first | exact fun _ _ _ _ _ => .inr rfl | exact fun _ _ _ _ _ => .inl rfl)
    (hs : ∀ y, foldedSetIterable it X.env y = pure y := by intro _; rfl) : EL X C (.ListComp elt [⟨.Name x px, it, ifs, 0⟩] scope pos) ρ μ n Λ :=
  el_of (pe_lc (own := [(x, j)]) (g := gName j) (tt := canBT X scope ifs) (te := canBE X scope elt) hc nd pi_can (blkOk_by ok) (fun s0 H0 C' cl fp => pg_name nd hi (hx s0 H0 C' cl fp) (hf s0 H0 C' cl fp)) (fun s0 H0 C' cl fp => pbt_can s0 H0 C' cl fp) (fun s0 H0 C' cl fp => pbe_can s0 H0 C' cl fp) hs) (lcn h)
/-- y = [..] on one line: the value as data -/
theorem sx_lcN (i j : Nat) {y : Str} {py spos : Pos} {scope : Scope} {it elt : Expr} {ifs : List Expr} {px : Pos} (hc : X.calm = true) (nd : X.N.Nodup) (h : LcN X C scope (.Name x px) it ifs elt j ρ μ n fun ds n' => Ψ (.nx (ρ.set i (.im (.list ds))) μ n')) (hy : X.N[i]? = some y := by rfl) (hyl : X.env.scope.names.lookup y = some .local := by rfl)
    (hsw : swapsWith (.ListComp elt [⟨.Name x px, it, ifs, 0⟩] scope pos) (some (.Name y py)) spos.line X.env = pure true := by exact sw_true rfl rfl rfl (by kernel_rfl)) (ok : blkC X.N X.env.scope scope [(x, j)] = true := by kernel_rfl) (hi : X.N[j]? = some x := by rfl)
    (hx : ∀ (s0 : Shared) (H0 : Hp) (C' : Addr) (cl : List (Str × Addr)) (fp : List Addr), Loc (X.blk s0 H0 scope (compEnvC scope cl C' X.env) fp).env.scope x := by first | exact fun _ _ _ _ _ => .inl rfl | exact fun _ _ _ _ _ => .inr rfl)
    (hf : ∀ (s0 : Shared) (H0 : Hp) (C' : Addr) (cl : List (Str × Addr)) (fp : List Addr), (X.blk s0 H0 scope (compEnvC scope cl C' X.env) fp).fn x = true ∨ (X.blk s0 H0 scope (compEnvC scope cl C' X.env) fp).env.scope.names.lookup x = some .local := by first | exact fun _ _ _ _ _ => .inr rfl | exact fun _ _ _ _ _ => .inl rfl)
    (hs : ∀ y, foldedSetIterable it X.env y = pure y := by intro _; rfl) : SX X C (.Assign [.Name y py] (.ListComp elt [⟨.Name x px, it, ifs, 0⟩] scope pos) spos) ρ μ n Ψ :=
  sx_of (ps_setLc (i := i) (own := [(x, j)]) (g := gName j) (tt := canBT X scope ifs) (te := canBE X scope elt) hc nd hy hyl hsw pi_can (blkOk_by ok) (fun s0 H0 C' cl fp => pg_name nd hi (hx s0 H0 C' cl fp) (hf s0 H0 C' cl fp)) (fun s0 H0 C' cl fp => pbt_can s0 H0 C' cl fp) (fun s0 H0 C' cl fp => pbe_can s0 H0 C' cl fp) hs) (sv_asg (ev_l (lcn h)))
end
/-! ### a def by its body -/
section
variable {P : Program} {w : World} {K : Frg} {mg : Str → Option Value} {base : Heap} {x qual : Str} {params : Arguments} {body : List Stmt} {scope : Scope} {f : Addr} {fd : FuncData} {N ps : List Str} {k : Nat} {pre : Pre} {T : List (Addr × Str)}
theorem rep_start {fa : Option Addr} {B H : Hp} {vs : List V} {as : List Ar} {n : Nat} {E : XK} (s : Same B H) (p : Paired (ArOk K fa B) vs as) (fd : ∀ a, fa = some a → B a = none ∧ FeedOk K B H a n) (tb : LamX.Tabs T H) (tn : ∀ p ∈ T, B p.1 = none ∧ H p.1 ≠ none ∧ fa ≠ some p.1) :
    RepA K ⟨T, fa, B, H, E⟩ [] B H (L2.start N vs) (as.map Ar.sl ++ List.replicate (N.length - as.length) .un) [] n := by
  refine ⟨Fr.refl s, ?_, .nil, List.nodup_nil, fun p hp => absurd hp (by simp), fun a ha => ?_, tb, fun p hp => ⟨(tn p hp).2.1, (tn p hp).1, (tn p hp).2.2⟩⟩
  · unfold L2.start
    rw [Paired.length p]
    refine pr_app ?_ ?_
    · clear fd tb tn s
      induction p with
      | nil => exact .nil
      | @cons v a l r h _ ih =>
        refine .cons ?_ ih
        cases a with
        | da d => exact ⟨v, rfl, h⟩
        | fd =>
          obtain ⟨a, e1, e2⟩ := h
          exact ⟨a, e1, by rw [e2]⟩
    · generalize N.length - as.length = m
      induction m with
      | zero => exact .nil
      | succ m ih => exact .cons trivial ih
  · obtain ⟨h1, h2⟩ := fd a ha
    refine ⟨?_, h1, h2⟩
    obtain ⟨_, _, _, _, _, e, _⟩ := h2
    show H a ≠ none
    rw [e]
    simp
/-- from the body's judgement to the wish of the call -/
theorem prom_body {X : Cx} {vs : List V} {H : Hp} {Q : VK} {E : XK} (hK : X.K = K) (h : prom K T pre vs H Q E) (hb : ∀ fa B as n Φ, pre as n Φ → SB X ⟨T, fa, B, H, E⟩ body (as.map Ar.sl ++ List.replicate (N.length - as.length) .un) [] n (fin Φ)) :
    canB X body { nx := fun _ H' => Q .non H', rt := Q } (L2.start N vs) H := by
  obtain ⟨fa, B, as, n, Φ, s, p, fd, tb, tn, hp, q⟩ := h
  subst hK
  have r0 := rep_start (N := N) (E := E) s p fd tb tn
  have key : ∀ {ads σ B' H' ρ μ n'}, RepA X.K ⟨T, fa, B, H, E⟩ ads B' H' σ ρ μ n' → Fr (mOf fa T) B H B' H' ∧ (∀ a, fa = some a → FeedOk X.K B' H' a n') ∧ LamX.Tabs T H' := fun r => ⟨r.fr, fun a ha => (r.fd a ha).2.2, r.tb⟩
  refine hb fa B as n Φ hp [] _ B H _ r0 ⟨fun ads σ B' H' ρ μ n' _ r hf => ?_, fun _ _ _ _ _ _ _ _ _ hf => hf.elim, fun _ _ _ _ _ _ _ _ _ hf => hf.elim, fun ads σ B' H' ρ μ n' v d _ r hd hf => ?_⟩ fun ads σ B' H' ρ μ n' x dd r h1 h2 hf => ?_
  · obtain ⟨k1, k2, k3⟩ := key r
    exact (q B' H' n' k1 k2 k3).1 .non .none .non hf
  · obtain ⟨k1, k2, k3⟩ := key r
    exact (q B' H' n' k1 k2 k3).1 v d hd hf
  · obtain ⟨k1, k2, k3⟩ := key r
    exact (q B' H' n' k1 k2 k3).2 x dd h1 h2 hf
theorem prom_len {vs : List V} {H : Hp} {Q : VK} {E : XK} {m : Nat} (len : ∀ as n Φ, pre as n Φ → as.length = m) (h : prom K T pre vs H Q E) : vs.length = m := by
  obtain ⟨fa, B, as, n, Φ, s, p, fd, tb, tn, hp, q⟩ := h
  rw [Paired.length p]
  exact len as n Φ hp
theorem fn_pb (F : FunD K x qual params body scope [] [] f fd) (S : FnScope N ps scope) (len : ∀ as n Φ, pre as n Φ → as.length = ps.length)
    (hb : ∀ (cdv : Value) (A : Around) (outer : List Env) (s : Shared) (H : Hp) (E : XK) (fa : Option Addr) (B : Hp) (as : List Ar) (n : Nat) (Φ : Ou → Nat → Prop), Room k (A.deeper (envOfC qual scope s.heap.objs.size f cdv)) → pre as n Φ →
      SB (cxOf (L2.CX P w) P w K mg base N qual scope f cdv A outer s H E) ⟨T, fa, B, H, E⟩ body (as.map Ar.sl ++ List.replicate (N.length - as.length) .un) [] n (fin Φ)) : FnOk P w K mg base (L2.CX P w) (k + 1) f fd ps (prom K T pre) :=
  F.ok S (fun vs H Q E h => prom_len len h) fun cdv A outer s H vs Q E hr h => ⟨_, pss_can, prom_body (N := N) rfl h fun fa B as n Φ hp => hb cdv A outer s H E fa B as n Φ hr hp⟩
/-- how a def of no defaults is known -/
theorem kn_of (F : FunD K x qual params body scope [] [] f fd) (hm : mg x = some (.ref f)) {j : Nat} (G : FnOk P w K mg base (L2.CX P w) j f fd ps (prom K T pre))
    (hb : ∀ (kV doc pm : Value) (an : Option Addr) (cdv ct : Value) (us : List Value), us.length = ps.length → bindArgs (PySem.W.fnOf x qual params body scope .none kV doc pm an cdv ct) ⟨us, []⟩ = pure (ps.zip us)) : Kn P w K mg base T j x ps pre :=
  ⟨f, fd, G, hm, F.kp, F.bindsN hb⟩
theorem Kn.mono {j k : Nat} (h : Kn P w K mg base T j x ps pre) (l : j ≤ k) : Kn P w K mg base T k x ps pre := by
  obtain ⟨f, fd, F, h1, h2, h3⟩ := h.ex
  exact ⟨f, fd, F.mono l, h1, h2, h3⟩
end
end Pb

set_option Elab.async false
set_option linter.all false
set_option maxRecDepth 100000
set_option maxHeartbeats 4000000
/-! PbG: the text by places; joined rules; kinds. -/
namespace Pb
open PySem PySem.Spec PyProof.Rows L2
abbrev FnT (K : Frg) (x : Str) (i : Nat) (f : Addr) (fd : FuncData) : Prop := FunD K x x (defArgs (top i)) (defBody (top i)) (defScope (top i)) [] [] f fd
structure Blt (mg : Str → Option Value) : Prop where
  isinstance : mg "isinstance" = none
  int : mg "int" = none
  bool : mg "bool" = none
  tuple : mg "tuple" = none
  all : mg "all" = none
  range : mg "range" = none
  len : mg "len" = none
  list : mg "list" = none
  zip : mg "zip" = none
  enumerate : mg "enumerate" = none
  sorted : mg "sorted" = none
  min : mg "min" = none
  repr : mg "repr" = none
/-! ### what comes of two values -/
def PAdd (Φ : PyData → Nat → Prop) (n : Nat) : PyData → PyData → Prop
  | .int i, .int j => Φ (.int (i + j)) n
  | .tuple ds, .tuple es => ds.length + es.length ≤ 1000000 ∧ Φ (.tuple (ds ++ es)) n
  | .list ds, .list es => ds.length + es.length ≤ 1000000 ∧ Φ (.list (ds ++ es)) n
  | _, _ => False
def PMul (Φ : PyData → Nat → Prop) (n : Nat) : PyData → PyData → Prop
  | .int i, .int j => CMul i j ∧ Φ (.int (i * j)) n
  | .list ds, .int k => 0 ≤ k ∧ k ≤ 1000000 ∧ ds.length * k.toNat ≤ 1000000 ∧ Φ (.list (List.replicate k.toNat ds).flatten) n
  | _, _ => False
def PIx (Φ : PyData → Nat → Prop) (n : Nat) : PyData → PyData → Prop
  | .list ds, .int i => 0 ≤ i ∧ ∃ d, ds[i.toNat]? = some d ∧ Φ d n
  | .tuple ds, .int i => 0 ≤ i ∧ ∃ d, ds[i.toNat]? = some d ∧ Φ d n
  | _, _ => False
def PLen (Φ : PyData → Nat → Prop) (n : Nat) : PyData → Prop
  | .list ds => Φ (.int ds.length) n
  | .tuple ds => Φ (.int ds.length) n
  | _ => False
def PTup (Φ : PyData → Nat → Prop) (n : Nat) : PyData → Prop
  | .list ds => Φ (.tuple ds) n
  | .tuple ds => Φ (.tuple ds) n
  | _ => False
def PWlk (Ω : Nat → (Nat → PyData) → Nat → Prop) (n : Nat) : PyData → Prop
  | .list ds => Ω ds.length (fun i => ds.getD i .none) n
  | .tuple ds => Ω ds.length (fun i => ds.getD i .none) n
  | _ => False
section
variable {K : Frg} {C : Ct} {ρ : List Sl} {μ : List Ce} {n : Nat}
/-- operands first, then the operation by what they are -/
def Bi (K : Frg) (C : Ct) (r : R2) (ρ : List Sl) (μ : List Ce) (n : Nat) (Φ : PyData → Nat → Prop) (d1 d2 : PyData) : Prop :=
  ∀ ads σ B H v1 v2 (Q : VK), RepA K C ads B H σ ρ μ n → Dq B v1 d1 → Dq B v2 d2 → (∀ v d B' H' n', Same B B' → RepA K C ads B' H' σ ρ μ n' → Dq B' v d → Φ d n' → Q v H') → r v1 v2 H Q
theorem ev_bi {ta tb : TE} {r : R2} {Φ : PyData → Nat → Prop} (h : Ev K C ta ρ μ n fun d1 n1 => Ev K C tb ρ μ n1 fun d2 n2 => Bi K C r ρ μ n2 Φ d1 d2) : Ev K C (tOp r ta tb) ρ μ n Φ := fun ads σ B H Q rp q =>
  h ads σ B H _ rp fun v1 d1 B1 H1 n1 e1 r1 p1 h2 => h2 ads σ B1 H1 _ r1 fun v2 d2 B2 H2 n2 e2 r2 p2 f =>
    f ads σ B2 H2 v1 v2 Q r2 (dp_up e2 _ _ p1) p2 fun v d B' H' n' e' r' p' => q v d B' H' n' ((e1.trans e2).trans e') r' p'
def Un (K : Frg) (C : Ct) (r : V → Hp → VK → Prop) (ρ : List Sl) (μ : List Ce) (n : Nat) (Φ : PyData → Nat → Prop) (d1 : PyData) : Prop :=
  ∀ ads σ B H v1 (Q : VK), RepA K C ads B H σ ρ μ n → Dq B v1 d1 → (∀ v d B' H' n', Same B B' → RepA K C ads B' H' σ ρ μ n' → Dq B' v d → Φ d n' → Q v H') → r v1 H Q
theorem ev_cb1 {ta : TE} {r : List V → Hp → VK → Prop} {Φ : PyData → Nat → Prop} (h : Ev K C ta ρ μ n fun d1 n1 => Un K C (fun v => r [v]) ρ μ n1 Φ d1) : Ev K C (tCB r (tCons ta tNil)) ρ μ n Φ := fun ads σ B H Q rp q =>
  h ads σ B H _ rp fun v1 d1 B1 H1 n1 e1 r1 p1 f => f ads σ B1 H1 v1 Q r1 p1 fun v d B' H' n' e' r' p' => q v d B' H' n' (e1.trans e') r' p'
theorem bi_op2 {r : R2} {Φ : PyData → Nat → Prop} {d1 d2 d3 : PyData} (o : Op2 K r d1 d2 d3) (f : Φ d3 n) : Bi K C r ρ μ n Φ d1 d2 := fun ads σ B H v1 v2 Q r0 p1 p2 q => o B H v1 v2 Q r0.sub p1 p2 fun v B' H' g p => q v d3 B' H' n g.b (r0.gr g) p f
theorem bi_op2L {r : R2} {Φ : PyData → Nat → Prop} {d1 d2 : PyData} {es : List PyData} (o : Op2L K r d1 d2 es) (f : Φ (.list es) n) : Bi K C r ρ μ n Φ d1 d2 := fun ads σ B H v1 v2 Q r0 p1 p2 q => o B H v1 v2 Q r0.sub p1 p2 fun p ws hp hd => by
  obtain ⟨B2, e2, r2, d2⟩ := r0.last (Same.refl _) (r0.cell hp hd)
  exact q _ _ B2 _ n e2 r2 d2 f
theorem bi_or {r r' : R2} {Φ : PyData → Nat → Prop} {d1 d2 : PyData} (h : Bi K C r ρ μ n Φ d1 d2 ∨ Bi K C r' ρ μ n Φ d1 d2) : Bi K C (fun x y H Q => r x y H Q ∨ r' x y H Q) ρ μ n Φ d1 d2 := fun ads σ B H v1 v2 Q r0 p1 p2 q => h.imp (fun f => f ads σ B H v1 v2 Q r0 p1 p2 q) fun f => f ads σ B H v1 v2 Q r0 p1 p2 q
theorem un_cal {r : List V → Hp → VK → Prop} {Φ : PyData → Nat → Prop} {d d2 : PyData} (o : Cal K r [d] d2) (f : Φ d2 n) : Un K C (fun v => r [v]) ρ μ n Φ d := fun ads σ B H v1 Q r0 p1 q => o B H [v1] Q r0.sub (.cons p1 .nil) fun v B' H' g p => q v d2 B' H' n g.b (r0.gr g) p f
theorem un_calL {r : List V → Hp → VK → Prop} {Φ : PyData → Nat → Prop} {d : PyData} {es : List PyData} (o : CalL K r [d] es) (f : Φ (.list es) n) : Un K C (fun v => r [v]) ρ μ n Φ d := fun ads σ B H v1 Q r0 p1 q => o B H [v1] Q r0.sub (.cons p1 .nil) fun p ws hp hd => by
  obtain ⟨B2, e2, r2, d2⟩ := r0.last (Same.refl _) (r0.cell hp hd)
  exact q _ _ B2 _ n e2 r2 d2 f
end
section
variable {X : Cx} {C : Ct} {ρ : List Sl} {μ : List Ce} {n : Nat} {a b c e : Expr} {pos p : Pos} {Φ : PyData → Nat → Prop} {Λ : List PyData → Nat → Prop} {Θ : Bool → Nat → Prop} {Ψ : Out → Prop}
theorem OpR_or {f : Value → Value → Sem Value} {r r' : R2} (h : OpR X f r) (h' : OpR X f r') : OpR X f (fun x y H Q => r x y H Q ∨ r' x y H Q) := fun pins s σ H x y v u Q I rx ry q => q.elim (h pins s σ H x y v u Q I rx ry) (h' pins s σ H x y v u Q I rx ry)
theorem ex_addJ (h : EX X C a ρ μ n fun d1 n1 => EX X C b ρ μ n1 fun d2 n2 => PAdd Φ n2 d1 d2) : EX X C (.BinOp a .Add b pos) ρ μ n Φ :=
  ex_of (pe_op (OpR_or op_add (OpR_or op_catA op_cat)) pe_can pe_can) (ev_bi (h.imp fun d1 n1 h1 => h1.imp fun d2 n2 f => by
    unfold PAdd at f
    split at f
    · exact bi_or (.inl (bi_op2 (op2_I0 (h := fun i j => .int (i + j)) fun _ => .int _) f))
    · exact bi_or (.inr (bi_or (.inl (bi_op2 (op2_cat f.1) f.2))))
    · exact bi_or (.inr (bi_or (.inr (bi_op2L (op2_catL f.1) f.2))))
    · exact f.elim))
theorem ex_mulJ (h : EX X C a ρ μ n fun d1 n1 => EX X C b ρ μ n1 fun d2 n2 => PMul Φ n2 d1 d2) : EX X C (.BinOp a .Mult b pos) ρ μ n Φ :=
  ex_of (pe_op (OpR_or op_mul op_rep) pe_can pe_can) (ev_bi (h.imp fun d1 n1 h1 => h1.imp fun d2 n2 f => by
    unfold PMul at f
    split at f
    · exact bi_or (.inl (bi_op2 (op2_I (h := fun i j => .int (i * j)) f.1 fun _ => .int _) f.2))
    · rename_i ds k
      obtain ⟨h0, h1, h2, h3⟩ := f
      have := op2_rep (K := X.K) (ds := ds) (k := k.toNat) (by omega) h2
      rw [Int.toNat_of_nonneg h0] at this
      exact bi_or (.inr (bi_op2L this h3))
    · exact f.elim))
theorem ex_ixJ (h : EX X C a ρ μ n fun d1 n1 => EX X C b ρ μ n1 fun d2 n2 => PIx Φ n2 d1 d2) (hs : PlainIx b := by exact fun _ _ => rfl) : EX X C (.Subscript a b pos) ρ μ n Φ :=
  ex_of (pe_ix (IxR.or ix_list ix_tup) pe_can pe_can hs) (ev_bi (h.imp fun d1 n1 h1 => h1.imp fun d2 n2 f => by
    unfold PIx at f
    split at f
    · obtain ⟨h0, d, h1, h2⟩ := f
      have := op2_ixL (K := X.K) h1
      rw [Int.toNat_of_nonneg h0] at this
      exact bi_or (.inl (bi_op2 this h2))
    · obtain ⟨h0, d, h1, h2⟩ := f
      have := op2_ixT (K := X.K) h1
      rw [Int.toNat_of_nonneg h0] at this
      exact bi_or (.inr (bi_op2 this h2))
    · exact f.elim))
theorem ex_lenJ (hm : X.mg "len" = none) (h : EX X C a ρ μ n fun d n1 => PLen Φ n1 d) (hg : Gl X "len" := by rfl) (hs : starEach (a :: []) X.env = (false, eval a X.env) :: starEach [] X.env := by rfl) : EX X C (.Call (.Name "len" p) [a] [] pos) ρ μ n Φ :=
  ex_of (pe_callB (r := rLenS X.K) call_len_seq hg hm PySem.boot_len (pa_cons pe_can pa_nil hs) (by decide) (by decide) hs rfl) (ev_cb1 (h.imp fun d n1 f => by
    unfold PLen at f
    split at f
    · exact un_cal (r := rLenS X.K) cal_lenL f
    · exact un_cal (r := rLenS X.K) cal_lenT f
    · exact f.elim))
theorem ex_tupJ (hm : X.mg "tuple" = none) (h : EX X C a ρ μ n fun d n1 => PTup Φ n1 d) (hg : Gl X "tuple" := by rfl) (hs : starEach (a :: []) X.env = (false, eval a X.env) :: starEach [] X.env := by rfl) : EX X C (.Call (.Name "tuple" p) [a] [] pos) ρ μ n Φ :=
  ex_of (pe_callTy (r := rTupS X.K) call_tuple_of hg hm (by decide +kernel) (pa_cons pe_can pa_nil hs) (by decide) (by decide) hs rfl) (ev_cb1 (h.imp fun d n1 f => by
    unfold PTup at f
    split at f
    · exact un_cal (r := rTupS X.K) cal_tupL f
    · exact un_cal (r := rTupS X.K) cal_tupT f
    · exact f.elim))
/-- if by a test -/
theorem ifb {b : Bool} {P Q : Prop} (h1 : b = true → P) (h2 : b = false → Q) : if b = true then P else Q := by
  cases b with
  | true => exact h1 rfl
  | false => exact h2 rfl
theorem ifd {p : Prop} [Decidable p] {P Q : Prop} (h1 : p → P) (h2 : ¬ p → Q) : if decide p = true then P else Q := by
  by_cases h : p
  · rw [if_pos (decide_eq_true h)]
    exact h1 h
  · rw [if_neg (by rw [decide_eq_false h]; exact Bool.false_ne_true)]
    exact h2 h
end
/-! ### isinstance by kinds -/
def isIB : PyData → Bool
  | .int _ => true
  | .bool _ => true
  | _ => false
def isBo : PyData → Bool
  | .bool _ => true
  | _ => false
def isTu : PyData → Bool
  | .tuple _ => true
  | _ => false
theorem kb_int : ∀ d : PyData, kitB (tyN d) "int" = some (isIB d)
  | .none => (by decide +kernel : kitB "NoneType" "int" = some false)
  | .bool _ => (by decide +kernel : kitB "bool" "int" = some true)
  | .int _ => (by decide +kernel : kitB "int" "int" = some true)
  | .str _ => (by decide +kernel : kitB "str" "int" = some false)
  | .list _ => (by decide +kernel : kitB "list" "int" = some false)
  | .tuple _ => (by decide +kernel : kitB "tuple" "int" = some false)
  | .dict _ => (by decide +kernel : kitB "dict" "int" = some false)
theorem kb_bool : ∀ d : PyData, kitB (tyN d) "bool" = some (isBo d)
  | .none => (by decide +kernel : kitB "NoneType" "bool" = some false)
  | .bool _ => (by decide +kernel : kitB "bool" "bool" = some true)
  | .int _ => (by decide +kernel : kitB "int" "bool" = some false)
  | .str _ => (by decide +kernel : kitB "str" "bool" = some false)
  | .list _ => (by decide +kernel : kitB "list" "bool" = some false)
  | .tuple _ => (by decide +kernel : kitB "tuple" "bool" = some false)
  | .dict _ => (by decide +kernel : kitB "dict" "bool" = some false)
theorem kb_tup : ∀ d : PyData, kitB (tyN d) "tuple" = some (isTu d)
  | .none => (by decide +kernel : kitB "NoneType" "tuple" = some false)
  | .bool _ => (by decide +kernel : kitB "bool" "tuple" = some false)
  | .int _ => (by decide +kernel : kitB "int" "tuple" = some false)
  | .str _ => (by decide +kernel : kitB "str" "tuple" = some false)
  | .list _ => (by decide +kernel : kitB "list" "tuple" = some false)
  | .tuple _ => (by decide +kernel : kitB "tuple" "tuple" = some true)
  | .dict _ => (by decide +kernel : kitB "dict" "tuple" = some false)
section
variable {X : Cx} {C : Ct} {ρ : List Sl} {μ : List Ce} {n : Nat} {a b c e : Expr} {pos p p2 : Pos} {Φ : PyData → Nat → Prop}
theorem ex_isInt (b : Blt X.mg) (h : EX X C a ρ μ n fun d n1 => Φ (.bool (isIB d)) n1) (hg : Gl X "isinstance" := by rfl) (hgT : Gl X "int" := by rfl)
    (he : starEach (a :: [.Name "int" p2]) X.env = (false, eval a X.env) :: starEach [.Name "int" p2] X.env := by rfl) (he2 : starEach (.Name "int" p2 :: []) X.env = (false, eval (.Name "int" p2) X.env) :: starEach [] X.env := by rfl) (hpl : (backTo pos (starEach [.Name "int" p2] X.env)).any (·.1) = false := by rfl) :
    EX X C (.Call (.Name "isinstance" p) [a, .Name "int" p2] [] pos) ρ μ n Φ := ex_isi (U := "int") b.isinstance b.int (by decide +kernel) (h.imp fun d n1 f => ⟨_, kb_int d, f⟩) hg hgT (by decide) (by decide) he he2 hpl
theorem ex_isBool (b : Blt X.mg) (h : EX X C a ρ μ n fun d n1 => Φ (.bool (isBo d)) n1) (hg : Gl X "isinstance" := by rfl) (hgT : Gl X "bool" := by rfl)
    (he : starEach (a :: [.Name "bool" p2]) X.env = (false, eval a X.env) :: starEach [.Name "bool" p2] X.env := by rfl) (he2 : starEach (.Name "bool" p2 :: []) X.env = (false, eval (.Name "bool" p2) X.env) :: starEach [] X.env := by rfl) (hpl : (backTo pos (starEach [.Name "bool" p2] X.env)).any (·.1) = false := by rfl) :
    EX X C (.Call (.Name "isinstance" p) [a, .Name "bool" p2] [] pos) ρ μ n Φ := ex_isi (U := "bool") b.isinstance b.bool (by decide +kernel) (h.imp fun d n1 f => ⟨_, kb_bool d, f⟩) hg hgT (by decide) (by decide) he he2 hpl
theorem ex_isTup (b : Blt X.mg) (h : EX X C a ρ μ n fun d n1 => Φ (.bool (isTu d)) n1) (hg : Gl X "isinstance" := by rfl) (hgT : Gl X "tuple" := by rfl)
    (he : starEach (a :: [.Name "tuple" p2]) X.env = (false, eval a X.env) :: starEach [.Name "tuple" p2] X.env := by rfl) (he2 : starEach (.Name "tuple" p2 :: []) X.env = (false, eval (.Name "tuple" p2) X.env) :: starEach [] X.env := by rfl) (hpl : (backTo pos (starEach [.Name "tuple" p2] X.env)).any (·.1) = false := by rfl) :
    EX X C (.Call (.Name "isinstance" p) [a, .Name "tuple" p2] [] pos) ρ μ n Φ := ex_isi (U := "tuple") b.isinstance b.tuple (by decide +kernel) (h.imp fun d n1 f => ⟨_, kb_tup d, f⟩) hg hgT (by decide) (by decide) he he2 hpl
end
end Pb

set_option Elab.async false
set_option linter.all false
set_option maxRecDepth 100000
set_option maxHeartbeats 4000000
/-! PbH: own exceptions with an __init__, raised. -/
namespace Pb
open PySem PySem.Spec PyProof.Rows L2
def spU (K : Frg) : Sp := fun vs H Q E => ∃ (a : Addr) (w : Str) (i : Int), vs = [.ref a, .str w, .int i] ∧ H a = some (exo a (He.ga K "NotUsable") none) ∧
  ∀ dx, H dx = none → dx ≠ a → Q .non (upd (upd (upd H dx (exd dx [("word", .str w)])) a (exo a (He.ga K "NotUsable") (some dx))) dx (exd dx [("at", .int i), ("word", .str w)]))
def spS (K : Frg) : Sp := fun vs H Q E => ∃ (a : Addr) (i : Int), vs = [.ref a, .int i] ∧ H a = some (exo a (He.ga K "Spoilt") none) ∧
  ∀ dx, H dx = none → dx ≠ a → Q .non (upd (upd H dx (exd dx [("frame", .int i)])) a (exo a (He.ga K "Spoilt") (some dx)))
structure ExU (P : Program) (w : World) (K : Frg) (mg : Str → Option Value) (base : Heap) (j : Nat) : Prop where
  ex : ∃ fI fd, OexC K (He.ga K "NotUsable") ∧ PySem.W.findIn K (.ref (He.ga K "NotUsable")) "__init__" = some (some (.ref fI)) ∧ PySem.W.typeIn K (.ref fI) = some (.type "function") ∧ FnOk P w K mg base (L2.CX P w) j fI fd ["self", "word", "at"] (spU K) ∧
    Binds K fd ["self", "word", "at"] [] ∧ mg "NotUsable" = some (.ref (He.ga K "NotUsable"))
structure ExS (P : Program) (w : World) (K : Frg) (mg : Str → Option Value) (base : Heap) (j : Nat) : Prop where
  ex : ∃ fI fd, OexC K (He.ga K "Spoilt") ∧ PySem.W.findIn K (.ref (He.ga K "Spoilt")) "__init__" = some (some (.ref fI)) ∧ PySem.W.typeIn K (.ref fI) = some (.type "function") ∧ FnOk P w K mg base (L2.CX P w) j fI fd ["self", "frame"] (spS K) ∧
    Binds K fd ["self", "frame"] [] ∧ mg "Spoilt" = some (.ref (He.ga K "Spoilt"))
section
variable {K : Frg} {C : Ct} {ρ : List Sl} {μ : List Ce} {n : Nat}
theorem upd_upd {H : Hp} {a : Addr} {x y : HO} : upd (upd H a x) a y = upd H a y := by
  funext b
  by_cases h : b = a
  · rw [h, upd_same, upd_same]
  · rw [upd_ne h, upd_ne h, upd_ne h]
theorem heap_use {H : Hp} {a d : Addr} {o1 o2 o3 o4 o5 : HO} (h : H a = none) (hd : d ≠ a) : upd (del (upd (upd (upd (upd H a o1) d o2) a o3) d o4) a) d o5 = upd H d o5 := by
  funext b
  by_cases h1 : b = d
  · rw [h1, upd_same, upd_same]
  · rw [upd_ne h1, upd_ne h1]
    by_cases h2 : b = a
    · rw [h2, del_same, h]
    · rw [del_ne h2, upd_ne h1, upd_ne h2, upd_ne h1, upd_ne h2]
theorem heap_spo {H : Hp} {a d : Addr} {o1 o2 o3 o5 : HO} (h : H a = none) (hd : d ≠ a) : upd (del (upd (upd (upd H a o1) d o2) a o3) a) d o5 = upd H d o5 := by
  funext b
  by_cases h1 : b = d
  · rw [h1, upd_same, upd_same]
  · rw [upd_ne h1, upd_ne h1]
    by_cases h2 : b = a
    · rw [h2, del_same, h]
    · rw [del_ne h2, upd_ne h2, upd_ne h1, upd_ne h2]
theorem sv_use {ta : TA} {Ψ : Out → Prop} (h : EvA K C ta ρ μ n fun as n1 => ∃ w i, as = [.da (.str w), .da (.int i)] ∧ Ψ (.er (.use w i) n1)) :
    Sv K C (fun _ σ H => tMkO (He.ga K "NotUsable") (spU K) [] ta σ H fun cls d H' => C.E cls d H') ρ μ n Ψ := fun ads σ B H D r a e =>
  h ads σ B H _ r fun vs as B1 H1 n1 e1 r1 p1 ⟨w, i, ea, f⟩ => by
    subst ea
    cases p1 with
    | cons p1 p =>
      cases p with
      | cons p2 p =>
        cases p
        cases dp_str p1
        cases dp_int p2
        refine ⟨by simp, fun x hx => ⟨x, w, i, rfl, upd_same, fun dx hd nd => ⟨rfl, dx, [("at", .int i), ("word", .str w)], ?_, upd_same, ?_, ?_⟩⟩⟩
        · rw [upd_ne nd.symm, upd_same]
        · rw [upd_ne nd] at hd
          exact hd
        · rw [heap_use hx nd]
          have hd' : H1 dx = none := by
            rw [upd_ne nd] at hd
            exact hd
          exact e ads σ B1 _ _ _ n1 (.use w i) dx (r1.hid hd') (back_none r1.sub hd') upd_same f
theorem sv_spo {ta : TA} {Ψ : Out → Prop} (h : EvA K C ta ρ μ n fun as n1 => ∃ i, as = [.da (.int i)] ∧ Ψ (.er (.spo i) n1)) :
    Sv K C (fun _ σ H => tMkO (He.ga K "Spoilt") (spS K) [] ta σ H fun cls d H' => C.E cls d H') ρ μ n Ψ := fun ads σ B H D r a e =>
  h ads σ B H _ r fun vs as B1 H1 n1 e1 r1 p1 ⟨i, ea, f⟩ => by
    subst ea
    cases p1 with
    | cons p1 p =>
      cases p
      cases dp_int p1
      refine ⟨by simp, fun x hx => ⟨x, i, rfl, upd_same, fun dx hd nd => ⟨rfl, dx, [("frame", .int i)], upd_same, ?_, ?_, ?_⟩⟩⟩
      · rw [upd_ne nd, upd_same]
      · rw [upd_ne nd] at hd
        exact hd
      · rw [heap_spo hx nd]
        have hd' : H1 dx = none := by
          rw [upd_ne nd] at hd
          exact hd
        exact e ads σ B1 _ _ _ n1 (.spo i) dx (r1.hid hd') (back_none r1.sub hd') upd_same f
end
section
variable {X : Cx} {C : Ct} {ρ : List Sl} {μ : List Ce} {n : Nat} {a b c e : Expr} {pos p p2 : Pos} {Ψ : Out → Prop} {j : Nat}
theorem sx_use (u : ExU X.prog X.w X.K X.mg X.base j) (hr : Room (j + 1) X.A) (hc : X.calm = true) (h : EX X C a ρ μ n fun d1 n1 => EX X C b ρ μ n1 fun d2 n2 => ∃ w i, d1 = .str w ∧ d2 = .int i ∧ Ψ (.er (.use w i) n2)) (tk : Takes X (fun cls d _ H => C.E cls d H) := by exact takes_of rfl rfl rfl rfl)
    (hg : Gl X "NotUsable" := by rfl) (he : starEach (a :: [b]) X.env = (false, eval a X.env) :: starEach [b] X.env := by rfl) (hs : starEach (b :: []) X.env = (false, eval b X.env) :: starEach [] X.env := by rfl) (hpl : (backTo pos (starEach [b] X.env)).any (·.1) = false := by rfl) :
    SX X C (.Raise (some (.Call (.Name "NotUsable" p) [a, b] [] pos)) none p2) ρ μ n Ψ := by
  obtain ⟨fI, fd, h1, h2, h3, h4, h5, h6⟩ := u.ex
  exact sx_of (ps_raise hc tk (pmk_oex h1 h2 h3 h4 hr h5 .nil passL hg h6 pa_can (by decide) he hpl)) (sv_use (ea_c (h.imp fun d1 n1 h => ea_1 (h.imp fun d2 n2 ⟨w, i, e1, e2, f⟩ => ⟨w, i, by rw [e1, e2], f⟩) hs) he))
theorem sx_spo (u : ExS X.prog X.w X.K X.mg X.base j) (hr : Room (j + 1) X.A) (hc : X.calm = true) (h : EX X C a ρ μ n fun d1 n1 => ∃ i, d1 = .int i ∧ Ψ (.er (.spo i) n1)) (tk : Takes X (fun cls d _ H => C.E cls d H) := by exact takes_of rfl rfl rfl rfl)
    (hg : Gl X "Spoilt" := by rfl) (he : starEach (a :: []) X.env = (false, eval a X.env) :: starEach [] X.env := by rfl) (hpl : (backTo pos (starEach [] X.env)).any (·.1) = false := by rfl) :
    SX X C (.Raise (some (.Call (.Name "Spoilt" p) [a] [] pos)) none p2) ρ μ n Ψ := by
  obtain ⟨fI, fd, h1, h2, h3, h4, h5, h6⟩ := u.ex
  exact sx_of (ps_raise hc tk (pmk_oex h1 h2 h3 h4 hr h5 .nil passL hg h6 pa_can (by decide) he hpl)) (sv_spo (ea_1 (h.imp fun d1 n1 ⟨i, e1, f⟩ => ⟨i, by rw [e1], f⟩) he))
end
/-! ### their __init__ -/
section
variable {P : Program} {w : World} {K : Frg} {mg : Str → Option Value} {base : Heap} {f : Addr} {fd : FuncData}
theorem sc4 : FnScope ["self", "word", "at"] ["self", "word", "at"] (defScope (inClass (top 4) 0)) := ⟨rfl, rfl, rfl, by decide +kernel, rfl, by decide +kernel, by decide +kernel⟩
theorem sc6 : FnScope ["self", "frame"] ["self", "frame"] (defScope (inClass (top 6) 0)) := ⟨rfl, rfl, rfl, by decide +kernel, rfl, by decide +kernel, by decide +kernel⟩
theorem g_use {k : Nat} (F : FunD K "__init__" "NotUsable.__init__" (defArgs (inClass (top 4) 0)) (defBody (inClass (top 4) 0)) (defScope (inClass (top 4) 0)) [] [] f fd) (x : OexC K (He.ga K "NotUsable"))
    (h1 : PySem.W.findIn K (.ref (He.ga K "NotUsable")) "word" = some none) (h2 : PySem.W.findIn K (.ref (He.ga K "NotUsable")) "at" = some none) : FnOk P w K mg base (L2.CX P w) (k + 1) f fd ["self", "word", "at"] (spU K) := by
  refine F.ok sc4 (fun vs H Q E ⟨a, w, i, e, _⟩ => by rw [e]; rfl) fun cdv A outer s H vs Q E hr ⟨a, w, i, e, ha, hq⟩ => ?_
  subst e
  refine ⟨_, pss_cons (ps_ost (pe_var (i := 0) rfl (.inl rfl) (by decide) (by decide)) (pe_var (i := 1) rfl (.inl rfl) (by decide) (by decide))) (pss_cons (ps_ost (pe_var (i := 0) rfl (.inl rfl) (by decide) (by decide)) (pe_var (i := 2) rfl (.inl rfl) (by decide) (by decide))) pss_nil), ?_⟩
  refine ⟨_, rfl, _, rfl, a, _, rfl, x, h1, .inl ⟨ha, fun dx hd nd => ?_⟩⟩
  refine ⟨_, rfl, _, rfl, a, _, rfl, x, h2, .inr ⟨dx, [("word", .str w)], upd_same, ?_, by simp, hq dx hd nd⟩⟩
  rw [upd_ne nd, upd_same]
theorem g_spo {k : Nat} (F : FunD K "__init__" "Spoilt.__init__" (defArgs (inClass (top 6) 0)) (defBody (inClass (top 6) 0)) (defScope (inClass (top 6) 0)) [] [] f fd) (x : OexC K (He.ga K "Spoilt"))
    (h1 : PySem.W.findIn K (.ref (He.ga K "Spoilt")) "frame" = some none) : FnOk P w K mg base (L2.CX P w) (k + 1) f fd ["self", "frame"] (spS K) := by
  refine F.ok sc6 (fun vs H Q E ⟨a, i, e, _⟩ => by rw [e]; rfl) fun cdv A outer s H vs Q E hr ⟨a, i, e, ha, hq⟩ => ?_
  subst e
  refine ⟨_, pss_cons (ps_ost (pe_var (i := 0) rfl (.inl rfl) (by decide) (by decide)) (pe_var (i := 1) rfl (.inl rfl) (by decide) (by decide))) pss_nil, ?_⟩
  exact ⟨_, rfl, _, rfl, a, _, rfl, x, h1, .inl ⟨ha, fun dx hd nd => hq dx hd nd⟩⟩
end
end Pb

set_option Elab.async false
set_option linter.all false
set_option maxRecDepth 100000
set_option maxHeartbeats 4000000
/-! PbI: short words; the program's defs: kinds. -/
namespace Pb
open PySem PySem.Spec PyProof.Rows L2
section
variable {Φ : PyData → Nat → Prop} {Ψ : Out → Prop} {Θ : Ou → Nat → Prop} {k : List Sl → List Ce → Nat → Prop} {ρ : List Sl} {μ : List Ce} {n : Nat} {d : PyData} {x : Xn}
theorem nx_nxt (h : k ρ μ n) : nxt k Ψ (.nx ρ μ n) := h
theorem rt_nxt (h : Ψ (.rt d n)) : nxt k Ψ (.rt d n) := h
theorem er_nxt (h : Ψ (.er x n)) : nxt k Ψ (.er x n) := h
theorem bk_nxt (h : Ψ (.bk ρ μ n)) : nxt k Ψ (.bk ρ μ n) := h
theorem ct_nxt (h : Ψ (.ct ρ μ n)) : nxt k Ψ (.ct ρ μ n) := h
theorem fin_rt (h : Θ (.ok d) n) : fin Θ (.rt d n) := h
theorem fin_nx (h : Θ (.ok .none) n) : fin Θ (.nx ρ μ n) := h
theorem fin_er (h : Θ (.er x) n) : fin Θ (.er x n) := h
theorem nx_lp (h : k ρ μ n) : lp k Ψ (.nx ρ μ n) := h
theorem ct_lp (h : k ρ μ n) : lp k Ψ (.ct ρ μ n) := h
theorem bk_lp (h : Ψ (.nx ρ μ n)) : lp k Ψ (.bk ρ μ n) := h
theorem rt_lp (h : Ψ (.rt d n)) : lp k Ψ (.rt d n) := h
theorem er_lp (h : Ψ (.er x n)) : lp k Ψ (.er x n) := h
theorem xb {b : Bool} {Q : Bool → Prop} (h : Q b) : ∃ b', PyData.bool b = .bool b' ∧ Q b' := ⟨b, rfl, h⟩
theorem xi {i : Int} {Q : Int → Prop} (h : Q i) : ∃ i', PyData.int i = .int i' ∧ Q i' := ⟨i, rfl, h⟩
theorem xi2 {i j : Int} {Q : Int → Int → Prop} (h : Q i j) : ∃ i' j', PyData.int i = .int i' ∧ PyData.int j = .int j' ∧ Q i' j' := ⟨i, j, rfl, rfl, h⟩
theorem xsi {i : Str} {j : Int} {Q : Str → Int → Prop} (h : Q i j) : ∃ i' j', PyData.str i = .str i' ∧ PyData.int j = .int j' ∧ Q i' j' := ⟨i, j, rfl, rfl, h⟩
theorem xl {ds : List PyData} {Q : List PyData → Prop} (h : Q ds) : ∃ ds', PyData.list ds = .list ds' ∧ Q ds' := ⟨ds, rfl, h⟩
theorem xt {ds : List PyData} {Q : List PyData → Prop} (h : Q ds) : ∃ ds', PyData.tuple ds = .tuple ds' ∧ Q ds' := ⟨ds, rfl, h⟩
theorem ifT {P Q : Prop} (h : P) : if true = true then P else Q := h
theorem ifF {P Q : Prop} (h : Q) : if false = true then P else Q := h
theorem okp_ok (h : Φ d n) : okp Φ (.ok d) n := h
theorem add_int {i j : Int} (h : Φ (.int (i + j)) n) : PAdd Φ n (.int i) (.int j) := h
theorem add_tup {ds es : List PyData} (hl : ds.length + es.length ≤ 1000000) (h : Φ (.tuple (ds ++ es)) n) : PAdd Φ n (.tuple ds) (.tuple es) := ⟨hl, h⟩
theorem add_lst {ds es : List PyData} (hl : ds.length + es.length ≤ 1000000) (h : Φ (.list (ds ++ es)) n) : PAdd Φ n (.list ds) (.list es) := ⟨hl, h⟩
theorem mul_int {i j : Int} (hl : CMul i j) (h : Φ (.int (i * j)) n) : PMul Φ n (.int i) (.int j) := ⟨hl, h⟩
theorem ix_l {ds : List PyData} {i : Nat} (h : ∃ d, ds[i]? = some d ∧ Φ d n) : PIx Φ n (.list ds) (.int (i : Int)) := ⟨Int.natCast_nonneg _, h⟩
theorem ix_t {ds : List PyData} {i : Nat} (h : ∃ d, ds[i]? = some d ∧ Φ d n) : PIx Φ n (.tuple ds) (.int (i : Int)) := ⟨Int.natCast_nonneg _, h⟩
end
def pp1 (f : PyData → PyData) : Pre := fun as n Φ => ∃ d, as = [.da d] ∧ Φ (.ok (f d)) n
def pf1 (G : PyData → Prop) (F : PyData → Ou) : Pre := fun as n Φ => ∃ d, as = [.da d] ∧ G d ∧ Φ (F d) n
def pf2 (G : PyData → PyData → Prop) (F : PyData → PyData → Ou) : Pre := fun as n Φ => ∃ d e, as = [.da d, .da e] ∧ G d e ∧ Φ (F d e) n
def pf3 (G : PyData → PyData → PyData → Prop) (F : PyData → PyData → PyData → Ou) : Pre := fun as n Φ => ∃ d e f, as = [.da d, .da e, .da f] ∧ G d e f ∧ Φ (F d e f) n
def pf4 (G : PyData → PyData → PyData → PyData → Prop) (F : PyData → PyData → PyData → PyData → Ou) : Pre := fun as n Φ => ∃ d e f g, as = [.da d, .da e, .da f, .da g] ∧ G d e f g ∧ Φ (F d e f g) n
theorem pf1_len {G F} {as n Φ} (h : pf1 G F as n Φ) : as.length = 1 := by
  obtain ⟨d, h, _⟩ := h
  rw [h]
  rfl
theorem pp1_len {F} {as n Φ} (h : pp1 F as n Φ) : as.length = 1 := by
  obtain ⟨d, h, _⟩ := h
  rw [h]
  rfl
theorem pf2_len {G F} {as n Φ} (h : pf2 G F as n Φ) : as.length = 2 := by
  obtain ⟨d, e, h, _⟩ := h
  rw [h]
  rfl
theorem pf3_len {G F} {as n Φ} (h : pf3 G F as n Φ) : as.length = 3 := by
  obtain ⟨d, e, f, h, _⟩ := h
  rw [h]
  rfl
theorem pf4_len {G F} {as n Φ} (h : pf4 G F as n Φ) : as.length = 4 := by
  obtain ⟨d, e, f, g, h, _⟩ := h
  rw [h]
  rfl
def wantP : Pre := fun as n Φ => ∃ b w, as = [.da (.bool b), .da (.str w)] ∧ Φ (if b = true then .ok .none else .er (.use w (-1))) n
section
variable {X : Cx} {C : Ct} {ρ : List Sl} {μ : List Ce} {n : Nat} {a b c e : Expr} {pos p p2 p3 : Pos} {Φ : PyData → Nat → Prop} {Ψ : Out → Prop} {j k1 : Nat} {T : List (Addr × Str)} {wd x : Str}
/-- a_want(e, "w") -/
theorem sx_want (k : Kn X.prog X.w X.K X.mg X.base T j "a_want" ["good", "word"] wantP) (hr : Room j X.A) (hT : C.T = T) (h : EX X C a ρ μ n fun d n1 => ∃ b, d = .bool b ∧ (if b = true then Ψ (.nx ρ μ n1) else Ψ (.er (.use wd (-1)) n1))) (tk : Takes X (fun cls d _ H => C.E cls d H) := by exact takes_of rfl rfl rfl rfl) (hg : Gl X "a_want" := by rfl)
    (he : starEach (a :: [.Constant (.str wd) k1 p2]) X.env = (false, eval a X.env) :: starEach [.Constant (.str wd) k1 p2] X.env := by rfl) (he2 : starEach (.Constant (.str wd) k1 p2 :: []) X.env = (false, eval (.Constant (.str wd) k1 p2) X.env) :: starEach [] X.env := by rfl) (hpl : (backTo pos (starEach [.Constant (.str wd) k1 p2] X.env)).any (·.1) = false := by rfl)
    (hs : swapsWith (.Call (.Name "a_want" p) [a, .Constant (.str wd) k1 p2] [] pos) none p3.line X.env = pure false := by rfl) : SX X C (.Expr (.Call (.Name "a_want" p) [a, .Constant (.str wd) k1 p2] [] pos) p3) ρ μ n Ψ :=
  sx_call k hr hT (ea_c (h.imp fun d n1 ⟨b, e1, f⟩ => ea_c (ex_s (ea_0 ⟨b, wd, by rw [e1], by
    cases b with
    | true => exact f
    | false => exact f⟩)) he2) he) tk hg (by decide) he hpl hs
/-- a call of one argument -/
theorem ex_call1 {ps : List Str} {f : PyData → PyData} (k : Kn X.prog X.w X.K X.mg X.base T j x ps (pp1 f)) (hr : Room j X.A) (hT : C.T = T) (h : EX X C a ρ μ n fun d n1 => Φ (f d) n1) (hg : Gl X x := by rfl) (hdb : (x == ("__debug__" : Str)) = false := by decide)
    (he : starEach (a :: []) X.env = (false, eval a X.env) :: starEach [] X.env := by rfl) (hpl : (backTo pos (starEach [] X.env)).any (·.1) = false := by rfl) : EX X C (.Call (.Name x p) [a] [] pos) ρ μ n Φ :=
  ex_call k hr hT (ea_1 (h.imp fun d n1 f => ⟨d, rfl, f⟩) he) hg hdb he hpl
end
/-! ### mirrors -/
def isInt : PyData → Bool
  | .int _ => true
  | _ => false
def isNum : PyData → Bool
  | .int i => decide (0 ≤ i)
  | _ => false
def isBase : PyData → Bool
  | .int i => decide (2 ≤ i) && decide (i ≤ 256)
  | _ => false
def isNums : PyData → Bool
  | .tuple ds => ds.all isNum
  | _ => false
def ltB (b : Int) : PyData → Bool
  | .int i => decide (i < b)
  | _ => false
def isDig (b : Int) : PyData → Bool
  | .tuple ds => ds.all isNum && ds.all (ltB b)
  | _ => false
def Sm : PyData → Prop
  | .tuple ds => ds.length ≤ 100000
  | _ => True
def toI : PyData → Int
  | .int i => i
  | _ => 0
theorem isInt_of (d : PyData) (h : isIB d = true) : (!isBo d) = isInt d := by cases d <;> first | rfl | cases h
theorem isInt_no (d : PyData) (h : isIB d = false) : isInt d = false := by cases d <;> first | rfl | cases h
theorem isInt_ex {d : PyData} (h : isInt d = true) : ∃ i, d = .int i := by
  cases d with
  | int i => exact ⟨i, rfl⟩
  | _ => cases h
theorem isNum_ex {d : PyData} (h : isNum d = true) : ∃ i, d = .int i ∧ 0 ≤ i := by
  cases d with
  | int i => exact ⟨i, rfl, of_decide_eq_true h⟩
  | _ => cases h
theorem isBase_ex {d : PyData} (h : isBase d = true) : ∃ i, d = .int i ∧ 2 ≤ i ∧ i ≤ 256 := by
  cases d with
  | int i =>
    unfold isBase at h
    rw [Bool.and_eq_true] at h
    exact ⟨i, rfl, of_decide_eq_true h.1, of_decide_eq_true h.2⟩
  | _ => cases h
theorem isNum_no {d : PyData} (h : isInt d = false) : isNum d = false := by cases d <;> first | rfl | cases h
theorem isBase_no {d : PyData} (h : isInt d = false) : isBase d = false := by cases d <;> first | rfl | cases h
theorem nums_map : ∀ {ds : List PyData}, ds.all isNum = true → ds = (ds.map toI).map .int
  | [], _ => rfl
  | d :: ds, h => by
    rw [List.all_cons, Bool.and_eq_true] at h
    obtain ⟨i, rfl, _⟩ := isNum_ex h.1
    rw [List.map_cons, List.map_cons, ← nums_map h.2]
    rfl
local macro_rules | `(tactic| walk_at "pb v") => `(tactic| first
  | refine ex_v 0 rfl ?_ | refine ex_v 1 rfl ?_ | refine ex_v 2 rfl ?_ | refine ex_v 3 rfl ?_ | refine ex_v 4 rfl ?_ | refine ex_v 5 rfl ?_ | refine ex_v 6 rfl ?_ | refine ex_v 7 rfl ?_
  | refine ex_v 8 rfl ?_ | refine ex_v 9 rfl ?_ | refine ex_v 10 rfl ?_ | refine ex_v 11 rfl ?_ | refine ex_v 12 rfl ?_ | refine ex_v 13 rfl ?_ | refine ex_v 14 rfl ?_)
local macro_rules | `(tactic| walk_at "pb x") => `(tactic| first
  | refine ex_i ?_ | ((with_reducible show EX _ _ (Expr.Name _ _) _ _ _ _); walk_at "pb v") | refine ex_addJ ?_ | refine ex_sub ?_ | refine ex_s ?_ | refine ex_n ?_ | refine ex_b ?_ | refine ex_neg ?_
  | refine ex_mulJ ?_ | refine ex_mod ?_ | refine ex_div ?_ | refine ex_pow ?_ | refine ex_lt ?_ | refine ex_eq ?_ | refine ex_ne ?_ | refine ex_gt ?_ | refine ex_ge ?_ | refine ex_ixJ ?_
  | refine ex_and ?_ | refine ex_or ?_ | refine ex_one ?_ | refine ex_not ?_ | refine ex_ite ?_ | refine ex_isInt ‹_› ?_ | refine ex_isBool ‹_› ?_ | refine ex_isTup ‹_› ?_)
local macro_rules | `(tactic| walk_at "pb t") => `(tactic| first
  | refine et_lt ?_ | refine et_eq ?_ | refine et_ne ?_ | refine et_le ?_ | refine et_gt ?_ | refine et_ge ?_ | refine et_nt ?_ | refine et_w (ew_and ?_) | refine et_w (ew_or ?_) | refine et_v ?_)
local macro_rules | `(tactic| walk_at "pb e") => `(tactic| first
  | ((with_reducible show EX _ _ _ _ _ _ _); walk_at "pb x")
  | with_reducible refine xi2 ?_ | with_reducible refine xi ?_ | with_reducible refine xb ?_ | with_reducible refine xsi ?_ | with_reducible refine xl ?_ | with_reducible refine xt ?_
  | with_reducible refine ifT ?_ | with_reducible refine ifF ?_ | with_reducible refine add_int ?_ | with_reducible refine ix_l ?_
  | with_reducible refine nx_nxt ?_ | with_reducible refine rt_nxt ?_ | with_reducible refine er_nxt ?_ | with_reducible refine bk_nxt ?_ | with_reducible refine ct_nxt ?_ | with_reducible refine fin_rt ?_ | with_reducible refine fin_nx ?_ | with_reducible refine fin_er ?_ 
  | with_reducible refine nx_lp ?_ | with_reducible refine bk_lp ?_ | with_reducible refine ct_lp ?_ | with_reducible refine rt_lp ?_ | with_reducible refine er_lp ?_ | with_reducible refine okp_ok ?_
  | ((with_reducible show ET _ _ _ _ _ _ _); walk_at "pb t")
  | ((with_reducible show EW _ _ _ _ _ _ _); first | refine ew_and ?_ | refine ew_or ?_ | refine ew_and1 ?_ | refine ew_or1 ?_)
  | ((with_reducible show SB _ _ _ _ _ _ _); first | refine sb_cons ?_ | refine sb_nil ?_)
  | ((with_reducible show SX _ _ _ _ _ _ _); first | refine sx_ret ?_ | refine sx_if ?_)
  | ((with_reducible show EA _ _ _ _ _ _ _); first | refine ea_c ?_ | refine ea_0 ?_))
local macro_rules | `(tactic| walk_at "pb") => `(tactic| repeat walk_at "pb e")
section
variable {P : Program} {w : World} {K : Frg} {mg : Str → Option Value} {base : Heap} {f : Addr} {fd : FuncData} {T : List (Addr × Str)} {k : Nat}
theorem sc10 : FnScope ["good", "word"] ["good", "word"] (defScope (top 10)) := ⟨rfl, rfl, rfl, by decide +kernel, rfl, by decide +kernel, by decide +kernel⟩
theorem g_want (F : FnT K "a_want" 10 f fd) (u : ExU P w K mg base k) : FnOk P w K mg base (L2.CX P w) (k + 2) f fd ["good", "word"] (prom K T wantP) := by
  refine fn_pb F sc10 (fun as n Φ ⟨b, w, h, _⟩ => by rw [h]; rfl) fun cdv A outer s H E fa B as n Φ hr hp => ?_
  obtain ⟨b, w, rfl, h⟩ := hp
  walk_at "pb"
  cases b with
  | true =>
    refine ifF ?_
    walk_at "pb"
    exact h
  | false =>
    refine ifT ?_
    walk_at "pb"
    refine sx_use u hr rfl ?_
    walk_at "pb"
    exact h
theorem sc12 : FnScope ["thing"] ["thing"] (defScope (top 12)) := ⟨rfl, rfl, rfl, by decide +kernel, rfl, by decide +kernel, by decide +kernel⟩
theorem g_is_integer (F : FnT K "is_integer" 12 f fd) (b : Blt mg) : FnOk P w K mg base (L2.CX P w) (k + 1) f fd ["thing"] (prom K T (pp1 fun d => .bool (isInt d))) := by
  refine fn_pb F sc12 (fun as n Φ h => pp1_len h) fun cdv A outer s H E fa B as n Φ hr hp => ?_
  obtain ⟨d, rfl, h⟩ := hp
  walk_at "pb"
  refine ifb (fun h1 => ?_) (fun h1 => ?_)
  · walk_at "pb"
    rw [isInt_of d h1]
    exact h
  · walk_at "pb"
    dsimp only at h
    rw [isInt_no d h1] at h
    exact h
theorem sc13 : FnScope ["thing"] ["thing"] (defScope (top 13)) := ⟨rfl, rfl, rfl, by decide +kernel, rfl, by decide +kernel, by decide +kernel⟩
theorem g_is_number (F : FnT K "is_number" 13 f fd) (ki : Kn P w K mg base T k "is_integer" ["thing"] (pp1 fun d => .bool (isInt d))) : FnOk P w K mg base (L2.CX P w) (k + 1) f fd ["thing"] (prom K T (pp1 fun d => .bool (isNum d))) := by
  refine fn_pb F sc13 (fun as n Φ h => pp1_len h) fun cdv A outer s H E fa B as n Φ hr hp => ?_
  obtain ⟨d, rfl, h⟩ := hp
  walk_at "pb"
  refine ex_call1 ki hr rfl ?_
  walk_at "pb"
  refine ifb (fun h1 => ?_) (fun h1 => ?_)
  · obtain ⟨i, rfl⟩ := isInt_ex h1
    walk_at "pb"
    exact h
  · walk_at "pb"
    dsimp only at h
    rw [isNum_no h1] at h
    exact h
theorem sc14 : FnScope ["thing"] ["thing"] (defScope (top 14)) := ⟨rfl, rfl, rfl, by decide +kernel, rfl, by decide +kernel, by decide +kernel⟩
theorem g_is_base (F : FnT K "is_base" 14 f fd) (ki : Kn P w K mg base T k "is_integer" ["thing"] (pp1 fun d => .bool (isInt d))) : FnOk P w K mg base (L2.CX P w) (k + 1) f fd ["thing"] (prom K T (pp1 fun d => .bool (isBase d))) := by
  refine fn_pb F sc14 (fun as n Φ h => pp1_len h) fun cdv A outer s H E fa B as n Φ hr hp => ?_
  obtain ⟨d, rfl, h⟩ := hp
  walk_at "pb"
  refine ex_call1 ki hr rfl ?_
  walk_at "pb"
  refine ifb (fun h1 => ?_) (fun h1 => ?_)
  · obtain ⟨i, rfl⟩ := isInt_ex h1
    walk_at "pb"
    refine ex_chain op_le op_le ?_
    walk_at "pb"
    refine ifd (fun h2 => ?_) (fun h2 => ?_)
    · walk_at "pb"
      dsimp only [isBase] at h
      rw [decide_eq_true h2] at h
      exact h
    · walk_at "pb"
      dsimp only [isBase] at h
      rw [decide_eq_false h2] at h
      exact h
  · walk_at "pb"
    dsimp only at h
    rw [isBase_no h1] at h
    exact h
end
end Pb

set_option Elab.async false
set_option linter.all false
set_option maxRecDepth 100000
set_option maxHeartbeats 4000000
/-! PbJ: comprehensions that only read; mirrors; the program's defs: digits, rows. -/
namespace Pb
open PySem PySem.Spec PyProof.Rows L2
section
variable {X : Cx} {C : Ct} {ρ : List Sl} {μ : List Ce} {n : Nat} {Λ : List PyData → Nat → Prop}
/-- a comprehension that draws nothing -/
def LcP (X : Cx) (C : Ct) (scope : Scope) (tg it : Expr) (ifs : List Expr) (elt : Expr) (j : Nat) (ρ : List Sl) (μ : List Ce) (n : Nat) (Λ : List PyData → Nat → Prop) : Prop :=
  WX X C tg it ρ μ n fun len dx n1 => len ≤ 1000000 ∧ ∃ (t : Nat → Bool) (g : Nat → PyData), (∀ i acc, i < len → BTX X C scope ifs ((wipeS ρ [j]).set j (.im (dx i))) (μ ++ [.ls acc]) n1 fun b n2 => b = t i ∧ n2 = n1) ∧
    (∀ i acc, i < len → t i = true → BEX X C scope elt ((wipeS ρ [j]).set j (.im (dx i))) (μ ++ [.ls acc]) n1 fun d n3 => d = g i ∧ n3 = n1) ∧ Λ (((List.range len).filter t).map g) n1
theorem lcP {scope : Scope} {tg it elt : Expr} {ifs : List Expr} {j : Nat} (h : LcP X C scope tg it ifs elt j ρ μ n Λ) : LcN X C scope tg it ifs elt j ρ μ n Λ := fun ads σ B H R r q =>
  h ads σ B H R r fun J len dx B' H' n' e r' wk ⟨hl, t, g, ht, hg, f⟩ => q J len dx B' H' n' e r' wk ⟨hl, fun i acc n2 => acc = ((List.range i).filter t).map g ∧ n2 = n', ⟨rfl, rfl⟩, fun i acc n2 hi ⟨e1, e2⟩ => by
    subst e2
    refine EvT.imp (ht i acc hi) fun b n3 ⟨e3, e4⟩ => ?_
    subst e3 e4
    refine ifb (fun hb => ?_) (fun hb => ?_)
    · refine Ev.imp (hg i acc hi hb) fun d n4 ⟨e5, e6⟩ => ⟨?_, e6⟩
      rw [e5, e1, List.range_succ, List.filter_append, List.map_append, List.filter_cons_of_pos hb]
      rfl
    · refine ⟨?_, rfl⟩
      rw [e1, List.range_succ, List.filter_append, List.map_append, List.filter_cons_of_neg (by rw [hb]; exact Bool.false_ne_true)]
      simp, fun acc n2 ⟨e1, e2⟩ => by
    subst e1 e2
    exact f⟩
end
theorem range_get {α : Type} (h : PyData → α) : ∀ (ds : List PyData), (List.range ds.length).map (fun i => h (ds.getD i .none)) = ds.map h := fun ds => by
  refine List.ext_getElem (by simp) fun i h1 h2 => ?_
  have hi : i < ds.length := by simpa using h2
  simp [List.getD, List.getElem?_eq_getElem hi]
theorem range_getB (p : PyData → Bool) (ds : List PyData) : (List.range ds.length).map (fun i => PyData.bool (p (ds.getD i .none))) = (ds.map p).map .bool := by
  rw [List.map_map]
  exact range_get (fun d => PyData.bool (p d)) ds
theorem filter_true {n : Nat} : (List.range n).filter (fun _ => true) = List.range n := List.filter_eq_self.mpr fun _ _ => rfl
theorem all_map_bool (ds : List PyData) (p : PyData → Bool) : (ds.map p).all id = ds.all p := by
  rw [List.all_map]
  rfl
theorem divW {i j : Int} (h0 : 0 < j) (h1 : j < 18446744073709551616) : CDivW i j := ⟨h0, by
  have hn : j.natAbs ≠ 0 := by omega
  have h2 : j.natAbs < 2 ^ 64 := by
    have : (2 : Nat) ^ 64 = 18446744073709551616 := by decide
    omega
  have := (Nat.log2_lt hn).mpr h2
  omega⟩
theorem mulR {i j : Int} (h0 : -18446744073709551616 < j) (h1 : j < 18446744073709551616) : CMul i j := .inr ⟨by
  have : (2 : Int) ^ 64 = 18446744073709551616 := by decide
  omega, by
  have : (2 : Int) ^ 64 = 18446744073709551616 := by decide
  omega⟩
theorem mulL {i j : Int} (h0 : -18446744073709551616 < i) (h1 : i < 18446744073709551616) : CMul i j := .inl ⟨by
  have : (2 : Int) ^ 64 = 18446744073709551616 := by decide
  omega, by
  have : (2 : Int) ^ 64 = 18446744073709551616 := by decide
  omega⟩
/-! ### rows -/
def row (b s : Int) : List Int := if h : 0 < s ∧ 2 ≤ b then row b ((s - 1) / b) ++ [(s - 1) % b] else []
termination_by s.toNat
decreasing_by
  have : (s - 1) / b ≤ s - 1 := Int.ediv_le_self _ (by omega)
  omega
theorem row_pos {b s : Int} (h : 0 < s) (hb : 2 ≤ b) : row b s = row b ((s - 1) / b) ++ [(s - 1) % b] := by
  rw [row, dif_pos ⟨h, hb⟩]
theorem row_zero {b s : Int} (h : ¬ 0 < s) : row b s = [] := by
  rw [row, dif_neg fun z => h z.1]
def stk (b t : Int) (ds : List Int) : Int := ds.foldl (fun t d => t * b + d + 1) t
def fitsI (p : Int) : Bool := decide (2 ≤ p) && decide (p < 300) && (List.range 16).all fun i => !(decide ((2 + i : Int) < p) && decide (p % (2 + i : Int) = 0))
def fitsM : PyData → Bool
  | .int p => fitsI p
  | _ => false
def fitsF (b : Int) : PyData → Bool
  | .tuple ds => isDig b (.tuple ds) && decide (ds.length ≠ 0) && decide (toI (ds.getD 0 .none) = b - 1) && decide (toI (ds.getD (ds.length - 1) .none) = b - 1)
  | _ => false
def isB3 : PyData → Bool
  | .int i => decide (3 ≤ i) && decide (i ≤ 256)
  | _ => false
def use (w : Str) : Ou := .er (.use w (-1))
def itup (l : List Int) : PyData := .tuple (l.map .int)
def want3 (d : PyData) : Ou := if isB3 d then .ok .none else use "base"
def evenF (s m d : PyData) : Ou := .ok (.int (toI m * toI s + toI d))
def wantC (s m : PyData) : Ou := if isNum s then if fitsM m then .ok .none else use "modulus" else use "stack"
def pushC (s m : PyData) : Ou := if isNum s then if fitsM m then .ok (.int (toI m * toI s + 0)) else use "modulus" else use "stack"
def spoC (s m : PyData) : Ou := if isNum s then if fitsM m then .ok (.bool (!decide (toI s % toI m = 0))) else use "modulus" else use "stack"
def popC (s m : PyData) : Ou := if isNum s then if fitsM m then if toI s % toI m = 0 then .ok (.int (toI s / toI m)) else .er (.spo (toI s)) else use "modulus" else use "stack"
def toL : PyData → List Int
  | .tuple ds => ds.map toI
  | _ => []
def apart (b m o r : PyData) : Ou := if isB3 b then if fitsM m then if isDig (toI b - 1) o then if isDig (toI b - 1) r && decide ((toL r).length = (toL o).length) then
  .ok (.bool (!decide ((stk (toI b - 1) 0 (toL o) - stk (toI b - 1) 0 (toL r)) % toI m = 0))) else use "other" else use "one" else use "modulus" else use "base"
theorem dig_ex {b : Int} {d : PyData} (h : isDig b d = true) : ∃ ns : List Int, d = .tuple (ns.map .int) ∧ (∀ x ∈ ns, 0 ≤ x ∧ x < b) ∧ toL d = ns := by
  cases d with
  | tuple ds =>
    unfold isDig at h
    rw [Bool.and_eq_true] at h
    refine ⟨ds.map toI, by rw [← nums_map h.1], fun x hx => ?_, rfl⟩
    obtain ⟨y, hy, rfl⟩ := List.mem_map.mp hx
    have h1 := List.all_eq_true.mp h.1 y hy
    have h2 := List.all_eq_true.mp h.2 y hy
    obtain ⟨i, rfl, hi⟩ := isNum_ex h1
    exact ⟨hi, of_decide_eq_true h2⟩
  | _ => cases h
theorem dig_mk {b : Int} {ns : List Int} (h : ∀ x ∈ ns, 0 ≤ x ∧ x < b) : isDig b (.tuple (ns.map .int)) = true := by
  unfold isDig
  rw [Bool.and_eq_true, List.all_map, List.all_map]
  exact ⟨List.all_eq_true.mpr fun x hx => decide_eq_true (h x hx).1, List.all_eq_true.mpr fun x hx => decide_eq_true (h x hx).2⟩
theorem fitsI_le {p : Int} (h : fitsI p = true) : 2 ≤ p ∧ p < 300 := by
  unfold fitsI at h
  simp only [Bool.and_eq_true, decide_eq_true_eq] at h
  exact h.1
theorem fitsM_ex {d : PyData} (h : fitsM d = true) : ∃ p, d = .int p ∧ 2 ≤ p ∧ p < 300 := by
  cases d with
  | int p => exact ⟨p, rfl, fitsI_le h⟩
  | _ => cases h
theorem b3_ex {d : PyData} (h : isB3 d = true) : ∃ i, d = .int i ∧ 3 ≤ i ∧ i ≤ 256 := by
  cases d with
  | int i =>
    unfold isB3 at h
    rw [Bool.and_eq_true] at h
    exact ⟨i, rfl, of_decide_eq_true h.1, of_decide_eq_true h.2⟩
  | _ => cases h
theorem isBase_mk {b : Int} (h1 : 2 ≤ b) (h2 : b ≤ 256) : isBase (.int b) = true := by
  simp [isBase, h1, h2]
theorem isNum_mk {s : Int} (h : 0 ≤ s) : isNum (.int s) = true := decide_eq_true h
theorem row_len_le {b l : Int} (hb : 2 ≤ b) : (row b ((l - 1) / b)).length + 1 = (row b l).length ∨ ¬ 0 < l := by
  by_cases h : 0 < l
  · left
    rw [row_pos h hb, List.length_append]
    rfl
  · exact .inr h
/-! ### promises -/
def preDig : Pre := fun as n Φ => ∃ (b : Int) (t : PyData), as = [.da (.int b), .da t] ∧ 2 ≤ b ∧ b ≤ 256 ∧ Sm t ∧ Φ (.ok (.bool (isDig b t))) n
def preNums : Pre := fun as n Φ => ∃ (t : PyData), as = [.da t] ∧ Sm t ∧ Φ (.ok (.bool (isNums t))) n
def preRow : Pre := fun as n Φ => ∃ (b s : Int), as = [.da (.int b), .da (.int s)] ∧ 2 ≤ b ∧ b ≤ 256 ∧ 0 ≤ s ∧ (row b s).length ≤ 100000 ∧ Φ (.ok (itup (row b s))) n
def preStk : Pre := fun as n Φ => ∃ (b : Int) (ns : List Int), as = [.da (.int b), .da (itup ns)] ∧ 2 ≤ b ∧ b ≤ 256 ∧ (∀ x ∈ ns, 0 ≤ x ∧ x < b) ∧ ns.length ≤ 100000 ∧ Φ (.ok (.int (stk b 0 ns))) n
def preAdd : Pre := fun as n Φ => ∃ (b t : Int) (ns : List Int), as = [.da (.int b), .da (.int t), .da (itup ns)] ∧ 2 ≤ b ∧ b ≤ 256 ∧ 0 ≤ t ∧ (∀ x ∈ ns, 0 ≤ x ∧ x < b) ∧ ns.length ≤ 100000 ∧ Φ (.ok (.int (stk b t ns))) n
def preFitF : Pre := fun as n Φ => ∃ (b : Int) (t : PyData), as = [.da (.int b), .da t] ∧ 2 ≤ b ∧ b ≤ 256 ∧ Sm t ∧ Φ (.ok (.bool (fitsF b t))) n
local macro_rules | `(tactic| walk_at "pb v") => `(tactic| first
  | refine ex_v 0 rfl ?_ | refine ex_v 1 rfl ?_ | refine ex_v 2 rfl ?_ | refine ex_v 3 rfl ?_ | refine ex_v 4 rfl ?_ | refine ex_v 5 rfl ?_ | refine ex_v 6 rfl ?_ | refine ex_v 7 rfl ?_
  | refine ex_v 8 rfl ?_ | refine ex_v 9 rfl ?_ | refine ex_v 10 rfl ?_ | refine ex_v 11 rfl ?_ | refine ex_v 12 rfl ?_ | refine ex_v 13 rfl ?_ | refine ex_v 14 rfl ?_)
local macro_rules | `(tactic| walk_at "pb x") => `(tactic| first
  | refine ex_i ?_ | ((with_reducible show EX _ _ (Expr.Name _ _) _ _ _ _); walk_at "pb v") | refine ex_addJ ?_ | refine ex_sub ?_ | refine ex_s ?_ | refine ex_n ?_ | refine ex_b ?_ | refine ex_neg ?_
  | refine ex_mulJ ?_ | refine ex_mod ?_ | refine ex_div ?_ | refine ex_pow ?_ | refine ex_lt ?_ | refine ex_eq ?_ | refine ex_ne ?_ | refine ex_gt ?_ | refine ex_ge ?_ | refine ex_ixJ ?_
  | refine ex_and ?_ | refine ex_or ?_ | refine ex_one ?_ | refine ex_not ?_ | refine ex_ite ?_ | refine ex_isInt ‹_› ?_ | refine ex_isBool ‹_› ?_ | refine ex_isTup ‹_› ?_)
local macro_rules | `(tactic| walk_at "pb t") => `(tactic| first
  | refine et_lt ?_ | refine et_eq ?_ | refine et_ne ?_ | refine et_le ?_ | refine et_gt ?_ | refine et_ge ?_ | refine et_nt ?_ | refine et_w (ew_and ?_) | refine et_w (ew_or ?_) | refine et_v ?_)
local macro_rules | `(tactic| walk_at "pb e") => `(tactic| first
  | ((with_reducible show EX _ _ _ _ _ _ _); walk_at "pb x")
  | with_reducible refine xi2 ?_ | with_reducible refine xi ?_ | with_reducible refine xb ?_ | with_reducible refine xsi ?_ | with_reducible refine xl ?_ | with_reducible refine xt ?_
  | with_reducible refine ifT ?_ | with_reducible refine ifF ?_ | with_reducible refine add_int ?_ | with_reducible refine ix_l ?_
  | with_reducible refine nx_nxt ?_ | with_reducible refine rt_nxt ?_ | with_reducible refine er_nxt ?_ | with_reducible refine bk_nxt ?_ | with_reducible refine ct_nxt ?_ | with_reducible refine fin_rt ?_ | with_reducible refine fin_nx ?_ | with_reducible refine fin_er ?_ 
  | with_reducible refine nx_lp ?_ | with_reducible refine bk_lp ?_ | with_reducible refine ct_lp ?_ | with_reducible refine rt_lp ?_ | with_reducible refine er_lp ?_ | with_reducible refine okp_ok ?_
  | ((with_reducible show ET _ _ _ _ _ _ _); walk_at "pb t")
  | ((with_reducible show EW _ _ _ _ _ _ _); first | refine ew_and ?_ | refine ew_or ?_ | refine ew_and1 ?_ | refine ew_or1 ?_)
  | ((with_reducible show SB _ _ _ _ _ _ _); first | refine sb_cons ?_ | refine sb_nil ?_)
  | ((with_reducible show SX _ _ _ _ _ _ _); first | refine sx_ret ?_ | refine sx_if ?_)
  | ((with_reducible show EA _ _ _ _ _ _ _); first | refine ea_c ?_ | refine ea_0 ?_))
local macro_rules | `(tactic| walk_at "pb") => `(tactic| repeat walk_at "pb e")
section
variable {P : Program} {w : World} {K : Frg} {mg : Str → Option Value} {base : Heap} {f : Addr} {fd : FuncData} {T : List (Addr × Str)} {k : Nat}
theorem sc15 : FnScope ["thing", "part"] ["thing"] (defScope (top 15)) := ⟨rfl, rfl, rfl, by decide +kernel, rfl, by decide +kernel, by decide +kernel⟩
theorem g_a_is_numbers (F : FnT K "a_is_numbers" 15 f fd) (b : Blt mg) (kn : Kn P w K mg base T k "is_number" ["thing"] (pp1 fun d => .bool (isNum d))) : FnOk P w K mg base (L2.CX P w) (k + 1) f fd ["thing"] (prom K T preNums) := by
  refine fn_pb F sc15 (fun as n Φ ⟨t, h, _⟩ => by rw [h]; rfl) fun cdv A outer s H E fa B as n Φ hr hp => ?_
  obtain ⟨d, rfl, hd, h⟩ := hp
  walk_at "pb"
  refine ifb (fun h1 => ?_) (fun h1 => ?_)
  · cases d with
    | tuple ds =>
      have hl : ds.length ≤ 100000 := hd
      walk_at "pb"
      refine ex_all rfl b.all (ex_l (el_lcN 1 rfl sc15.nd (lcP (wx_tup ?_))))
      walk_at "pb"
      refine ⟨by omega, fun _ => true, fun i => .bool (isNum (ds.getD i .none)), fun i acc hi => btx0 ⟨rfl, rfl⟩, fun i acc hi _ => bex fun s0 H0 C' cl fp => ex_call1 kn hr rfl ?_, ?_⟩
      · walk_at "pb"
        exact ⟨rfl, rfl⟩
      · dsimp only
        rw [filter_true, range_getB isNum]
        refine ⟨ds.map isNum, rfl, ?_⟩
        walk_at "pb"
        rw [all_map_bool]
        exact h
    | _ => cases h1
  · walk_at "pb"
    cases d with
    | tuple ds => cases h1
    | _ => exact h
theorem sc16 : FnScope ["base", "thing", "part"] ["base", "thing"] (defScope (top 16)) := ⟨rfl, rfl, rfl, by decide +kernel, rfl, by decide +kernel, by decide +kernel⟩
theorem g_is_digits (F : FnT K "is_digits" 16 f fd) (b : Blt mg) (kw : Kn P w K mg base T k "a_want" ["good", "word"] wantP) (kb : Kn P w K mg base T k "is_base" ["thing"] (pp1 fun d => .bool (isBase d))) (kn : Kn P w K mg base T k "a_is_numbers" ["thing"] preNums) :
    FnOk P w K mg base (L2.CX P w) (k + 1) f fd ["base", "thing"] (prom K T preDig) := by
  refine fn_pb F sc16 (fun as n Φ ⟨b, t, h, _⟩ => by rw [h]; rfl) fun cdv A outer s H E fa B as n Φ hr hp => ?_
  obtain ⟨bs, d, rfl, hb1, hb2, hd, h⟩ := hp
  walk_at "pb"
  refine sx_want kw hr rfl (ex_call1 kb hr rfl ?_)
  walk_at "pb"
  rw [isBase_mk hb1 hb2]
  refine ifT ?_
  walk_at "pb"
  refine ex_call kn hr rfl ?_
  walk_at "pb"
  refine ⟨d, rfl, hd, ?_⟩
  walk_at "pb"
  refine ifb (fun h1 => ?_) (fun h1 => ?_)
  · cases d with
    | tuple ds =>
      have hl : ds.length ≤ 100000 := hd
      have hn : ds.all isNum = true := h1
      walk_at "pb"
      refine ex_all rfl b.all (ex_l (el_lcN 2 rfl sc16.nd (lcP (wx_tup ?_))))
      walk_at "pb"
      refine ⟨by omega, fun _ => true, fun i => .bool (ltB bs (ds.getD i .none)), fun i acc hi => btx0 ⟨rfl, rfl⟩, fun i acc hi _ => bex fun s0 H0 C' cl fp => ?_, ?_⟩
      · walk_at "pb"
        have hi' := List.all_eq_true.mp hn _ (List.getElem_mem hi)
        obtain ⟨x, hx, _⟩ := isNum_ex hi'
        have e : ds.getD i .none = .int x := by rw [List.getD_eq_getElem?_getD, List.getElem?_eq_getElem hi, hx]; rfl
        dsimp only
        rw [e]
        walk_at "pb"
        exact ⟨rfl, rfl⟩
      · dsimp only
        rw [filter_true, range_getB (ltB bs)]
        refine ⟨ds.map (ltB bs), rfl, ?_⟩
        walk_at "pb"
        rw [all_map_bool]
        simp only [isDig, hn, Bool.true_and] at h
        exact h
    | _ => cases h1
  · walk_at "pb"
    cases d with
    | tuple ds =>
      have hn : ds.all isNum = false := h1
      simp only [isDig, hn, Bool.false_and] at h
      exact h
    | _ => exact h
theorem sc18 : FnScope ["base", "stack", "digits", "left"] ["base", "stack"] (defScope (top 18)) := ⟨rfl, rfl, rfl, by decide +kernel, rfl, by decide +kernel, by decide +kernel⟩
theorem g_row_of (F : FnT K "row_of" 18 f fd) (b : Blt mg) (kw : Kn P w K mg base T k "a_want" ["good", "word"] wantP) (kb : Kn P w K mg base T k "is_base" ["thing"] (pp1 fun d => .bool (isBase d))) (kn : Kn P w K mg base T k "is_number" ["thing"] (pp1 fun d => .bool (isNum d))) :
    FnOk P w K mg base (L2.CX P w) (k + 1) f fd ["base", "stack"] (prom K T preRow) := by
  refine fn_pb F sc18 (fun as n Φ ⟨b, t, h, _⟩ => by rw [h]; rfl) fun cdv A outer s H E fa B as n Φ hr hp => ?_
  obtain ⟨bs, st, rfl, hb1, hb2, hs, hl, h⟩ := hp
  walk_at "pb"
  refine sx_want kw hr rfl (ex_call1 kb hr rfl ?_)
  walk_at "pb"
  rw [isBase_mk hb1 hb2]
  refine ifT ?_
  walk_at "pb"
  refine sx_want kw hr rfl (ex_call1 kn hr rfl ?_)
  walk_at "pb"
  rw [isNum_mk hs]
  refine ifT ?_
  walk_at "pb"
  refine sx_asgL 2 sc18.nd (el_ls ?_)
  walk_at "pb"
  refine ⟨[], rfl, by decide, ?_⟩
  walk_at "pb"
  refine sx_asg 3 sc18.nd ?_
  walk_at "pb"
  refine sx_while (fun m ρ' μ' n' => ∃ (l : Int) (ds : List Int), ρ' = [.im (.int bs), .im (.int st), .ce 0, .im (.int l)] ∧ μ' = [.ls (ds.map .int)] ∧ n' = n ∧ m = l.toNat ∧ 0 ≤ l ∧ row bs l ++ ds.reverse = row bs st) st.toNat ⟨st, [], rfl, rfl, rfl, rfl, hs, List.append_nil _⟩ ?_
  rintro m _ _ _ ⟨l, ds, rfl, rfl, rfl, rfl, hl0, hrow⟩
  walk_at "pb"
  refine ifd (fun h1 => ?_) (fun h1 => ?_)
  · have hlen : (row bs l).length + ds.length = (row bs st).length := by rw [← hrow, List.length_append, List.length_reverse]
    walk_at "pb"
    refine sx_app 2 0 rfl rfl (by rw [List.length_map]; omega) ?_
    walk_at "pb"
    refine ⟨by omega, ?_⟩
    walk_at "pb"
    refine sx_asg 3 sc18.nd ?_
    walk_at "pb"
    refine ⟨divW (by omega) (by omega), ?_⟩
    walk_at "pb"
    refine ⟨((l - 1) / bs).toNat, ?_, (l - 1) / bs, ds ++ [(l - 1) % bs], rfl, by rw [List.map_append]; rfl, rfl, rfl, ?_, ?_⟩
    · have : (l - 1) / bs ≤ l - 1 := Int.ediv_le_self _ (by omega)
      omega
    · exact Int.ediv_nonneg (by omega) (by omega)
    · rw [← hrow, row_pos h1 hb1, List.reverse_append, List.append_assoc]
      rfl
  · walk_at "pb e"
    refine sv_frz 2 0 rfl rfl ?_
    walk_at "pb"
    refine ex_tupJ b.tuple (ex_l (el_rv ?_))
    walk_at "pb"
    rw [row_zero h1, List.nil_append] at hrow
    show Φ (.ok (.tuple ((ds.map PyData.int).reverse))) _
    unfold itup at h
    rw [← List.map_reverse, hrow]
    exact h
end
section
variable {P : Program} {w : World} {K : Frg} {mg : Str → Option Value} {base : Heap} {f : Addr} {fd : FuncData} {T : List (Addr × Str)} {k : Nat}
theorem sc20 : FnScope ["base", "stack", "digits", "total", "digit"] ["base", "stack", "digits"] (defScope (top 20)) := ⟨rfl, rfl, rfl, by decide +kernel, rfl, by decide +kernel, by decide +kernel⟩
theorem g_added (F : FnT K "added" 20 f fd) (b : Blt mg) (kw : Kn P w K mg base T k "a_want" ["good", "word"] wantP) (kb : Kn P w K mg base T k "is_base" ["thing"] (pp1 fun d => .bool (isBase d))) (kn : Kn P w K mg base T k "is_number" ["thing"] (pp1 fun d => .bool (isNum d)))
    (kd : Kn P w K mg base T k "is_digits" ["base", "thing"] preDig) : FnOk P w K mg base (L2.CX P w) (k + 1) f fd ["base", "stack", "digits"] (prom K T preAdd) := by
  refine fn_pb F sc20 (fun as n Φ ⟨b, t, ns, h, _⟩ => by rw [h]; rfl) fun cdv A outer s H E fa B as n Φ hr hp => ?_
  obtain ⟨bs, t, ns, rfl, hb1, hb2, ht, hns, hl, h⟩ := hp
  unfold itup
  walk_at "pb"
  refine sx_want kw hr rfl (ex_call1 kb hr rfl ?_)
  walk_at "pb"
  rw [isBase_mk hb1 hb2]
  refine ifT ?_
  walk_at "pb"
  refine sx_want kw hr rfl (ex_call1 kn hr rfl ?_)
  walk_at "pb"
  rw [isNum_mk ht]
  refine ifT ?_
  walk_at "pb"
  refine sx_want kw hr rfl (ex_call kd hr rfl ?_)
  walk_at "pb"
  refine ⟨bs, _, rfl, hb1, hb2, by rw [Sm, List.length_map]; exact hl, ?_⟩
  walk_at "pb"
  rw [dig_mk hns]
  refine ifT ?_
  walk_at "pb"
  refine sx_asg 3 sc20.nd ?_
  walk_at "pb"
  refine sx_for 4 rfl sc20.nd (wx_tup ?_)
  walk_at "pb"
  refine ⟨fun i ρ' μ' n' => ∃ u, ρ' = [.im (.int bs), .im (.int t), .im (.tuple (ns.map .int)), .im (.int (stk bs t (ns.take i))), u] ∧ μ' = [] ∧ n' = n, ⟨.un, rfl, rfl, rfl⟩, ?_, ?_⟩
  · rintro i _ _ _ hi ⟨u, rfl, rfl, rfl⟩
    rw [List.length_map] at hi
    have e : (ns.map PyData.int).getD i .none = .int ns[i] := by rw [List.getD_eq_getElem?_getD, List.getElem?_map, List.getElem?_eq_getElem hi]; rfl
    dsimp only
    rw [e]
    walk_at "pb e"
    refine sx_asg 3 sc20.nd ?_
    walk_at "pb"
    refine mul_int (mulR (by omega) (by omega)) ?_
    walk_at "pb"
    refine ⟨.im (.int ns[i]), ?_, rfl, rfl⟩
    have e2 : stk bs t (ns.take (i + 1)) = stk bs t (ns.take i) * bs + ns[i] + 1 := by
      unfold stk
      rw [List.take_succ_eq_append_getElem hi, List.foldl_append]
      rfl
    rw [e2]
    rfl
  · rintro _ _ _ ⟨u, rfl, rfl, rfl⟩
    walk_at "pb"
    rw [List.length_map, List.take_length]
    exact h
theorem sc19 : FnScope ["base", "digits"] ["base", "digits"] (defScope (top 19)) := ⟨rfl, rfl, rfl, by decide +kernel, rfl, by decide +kernel, by decide +kernel⟩
theorem g_stack_of (F : FnT K "stack_of" 19 f fd) (b : Blt mg) (kw : Kn P w K mg base T k "a_want" ["good", "word"] wantP) (kb : Kn P w K mg base T k "is_base" ["thing"] (pp1 fun d => .bool (isBase d)))
    (kd : Kn P w K mg base T k "is_digits" ["base", "thing"] preDig) (ka : Kn P w K mg base T k "added" ["base", "stack", "digits"] preAdd) : FnOk P w K mg base (L2.CX P w) (k + 1) f fd ["base", "digits"] (prom K T preStk) := by
  refine fn_pb F sc19 (fun as n Φ ⟨b, ns, h, _⟩ => by rw [h]; rfl) fun cdv A outer s H E fa B as n Φ hr hp => ?_
  obtain ⟨bs, ns, rfl, hb1, hb2, hns, hl, h⟩ := hp
  unfold itup
  walk_at "pb"
  refine sx_want kw hr rfl (ex_call1 kb hr rfl ?_)
  walk_at "pb"
  rw [isBase_mk hb1 hb2]
  refine ifT ?_
  walk_at "pb"
  refine sx_want kw hr rfl (ex_call kd hr rfl ?_)
  walk_at "pb"
  refine ⟨bs, _, rfl, hb1, hb2, by rw [Sm, List.length_map]; exact hl, ?_⟩
  walk_at "pb"
  rw [dig_mk hns]
  refine ifT ?_
  walk_at "pb"
  refine ex_call ka hr rfl ?_
  walk_at "pb"
  refine ⟨bs, 0, ns, rfl, hb1, hb2, by omega, hns, hl, ?_⟩
  walk_at "pb"
  exact h
theorem sc22 : FnScope ["thing", "part"] ["thing"] (defScope (top 22)) := ⟨rfl, rfl, rfl, by decide +kernel, rfl, by decide +kernel, by decide +kernel⟩
theorem g_fits_modulus (F : FnT K "fits_modulus" 22 f fd) (b : Blt mg) (ki : Kn P w K mg base T k "is_integer" ["thing"] (pp1 fun d => .bool (isInt d))) : FnOk P w K mg base (L2.CX P w) (k + 1) f fd ["thing"] (prom K T (pp1 fun d => .bool (fitsM d))) := by
  refine fn_pb F sc22 (fun as n Φ h => pp1_len h) fun cdv A outer s H E fa B as n Φ hr hp => ?_
  obtain ⟨d, rfl, h⟩ := hp
  walk_at "pb"
  refine ex_call1 ki hr rfl ?_
  walk_at "pb"
  by_cases hi : isInt d = true
  · obtain ⟨p, rfl⟩ := isInt_ex hi
    refine ifF ?_
    walk_at "pb"
    refine ifd (fun h1 => ?_) (fun h1 => ?_)
    · refine ifT ?_
      walk_at "pb"
      simp only [fitsM, fitsI, decide_eq_false (show ¬ 2 ≤ p by omega), Bool.false_and] at h
      exact h
    walk_at "pb"
    refine ifd (fun h2 => ?_) (fun h2 => ?_)
    · walk_at "pb"
      simp only [fitsM, fitsI, decide_eq_false (show ¬ p < 300 by omega), Bool.and_false, Bool.false_and] at h
      exact h
    walk_at "pb"
    refine sx_for 1 rfl sc22.nd (wx_range2 b.range ?_)
    walk_at "pb"
    refine ⟨by omega, ?_⟩
    refine ⟨fun i ρ' μ' n' => ∃ u, ρ' = [.im (.int p), u] ∧ μ' = [] ∧ n' = n ∧ ((List.range i).all fun i => !(decide ((2 + i : Int) < p) && decide (p % (2 + i : Int) = 0))) = true, ⟨.un, rfl, rfl, rfl, rfl⟩, ?_, ?_⟩
    · rintro i _ _ _ hi ⟨u, rfl, rfl, rfl, ha⟩
      have hi : i < 16 := hi
      walk_at "pb"
      have hs : ∀ q : Bool, (!(decide ((2 + i : Int) < p) && decide (p % (2 + i : Int) = 0))) = q → ((List.range (i + 1)).all fun i => !(decide ((2 + i : Int) < p) && decide (p % (2 + i : Int) = 0))) = q := fun q hq => by
        rw [List.range_succ, List.all_append, ha, Bool.true_and, List.all_cons, List.all_nil, Bool.and_true]
        exact hq
      refine ifd (fun h3 => ?_) (fun h3 => ?_)
      · walk_at "pb"
        refine ⟨by omega, ?_⟩
        walk_at "pb"
        refine ifd (fun h4 => ?_) (fun h4 => ?_)
        · walk_at "pb"
          have hf : ((List.range 16).all fun i => !(decide ((2 + i : Int) < p) && decide (p % (2 + i : Int) = 0))) = false := by
            rw [List.all_eq_false]
            exact ⟨i, List.mem_range.mpr hi, by rw [decide_eq_true h3, decide_eq_true h4]; decide⟩
          simp only [fitsM, fitsI, hf, Bool.and_false] at h
          exact h
        · walk_at "pb"
          exact ⟨_, rfl, rfl, rfl, hs true (by rw [decide_eq_true h3, decide_eq_false h4]; rfl)⟩
      · walk_at "pb"
        exact ⟨_, rfl, rfl, rfl, hs true (by rw [decide_eq_false h3]; rfl)⟩
    · rintro _ _ _ ⟨u, rfl, rfl, rfl, ha⟩
      walk_at "pb"
      have ha' : ((List.range 16).all fun i => !(decide ((2 + i : Int) < p) && decide (p % (2 + i : Int) = 0))) = true := ha
      simp only [fitsM, fitsI, decide_eq_true (show 2 ≤ p by omega), decide_eq_true (show p < 300 by omega), Bool.true_and, ha'] at h
      exact h
  · have hi' : isInt d = false := by simpa using hi
    rw [hi']
    refine ifT ?_
    refine ifT ?_
    walk_at "pb"
    have : fitsM d = false := by cases d <;> first | rfl | exact absurd rfl hi
    dsimp only at h
    rw [this] at h
    exact h
end
end Pb

set_option Elab.async false
set_option linter.all false
set_option maxRecDepth 100000
set_option maxHeartbeats 4000000
/-! PbL: raising calls in assignments; the program's defs: checks. -/
namespace Pb
open PySem PySem.Spec PyProof.Rows L2
def ouA (i : Nat) (ρ : List Sl) (μ : List Ce) (Ψ : Out → Prop) (o : Ou) (n : Nat) : Prop := match o with
  | .ok d => Ψ (.nx (ρ.set i (.im d)) μ n)
  | .er x => Ψ (.er x n)
section
variable {K : Frg} {C : Ct} {ρ : List Sl} {μ : List Ce} {n : Nat}
theorem sv_asgC {T : List (Addr × Str)} {pre : Pre} {ta : TA} {i : Nat} {Ψ : Out → Prop} (hT : C.T = T) (h : EvA K C ta ρ μ n fun as n1 => pre as n1 (ouA i ρ μ Ψ)) : Sv K C (tAsg (tCall (prom K T pre) [] C.E ta) (gName i)) ρ μ n Ψ := fun ads σ B H D r a e =>
  h ads σ B H _ r fun vs as B1 H1 n1 e1 r1 p1 hp => by
    rw [List.append_nil]
    exact prom_call hT r1 p1 hp (fun v d B' H' n' e2 r' hd hφ => a.nx _ _ _ _ _ _ _ (e1.trans e2) (r'.setI i hd) hφ) fun x dd B' H' n' r' h1 h2 hφ => e _ _ _ _ _ _ _ x dd r' h1 h2 hφ
theorem ou_want3 {d : PyData} {Ψ : Out → Prop} (h1 : isB3 d = true → Ψ (.nx ρ μ n)) (h2 : isB3 d = false → Ψ (.er (.use "base" (-1)) n)) : ouS ρ μ Ψ (want3 d) n := by
  unfold want3
  split
  · rename_i h
    exact h1 h
  · rename_i h
    exact h2 (by simpa using h)
theorem ou_wantC {s m : PyData} {Ψ : Out → Prop} (h1 : isNum s = true → fitsM m = true → Ψ (.nx ρ μ n)) (h2 : isNum s = false → Ψ (.er (.use "stack" (-1)) n)) (h3 : isNum s = true → fitsM m = false → Ψ (.er (.use "modulus" (-1)) n)) : ouS ρ μ Ψ (wantC s m) n := by
  unfold wantC
  split
  · rename_i h
    split
    · rename_i h'
      exact h1 h h'
    · rename_i h'
      exact h3 h (by simpa using h')
  · rename_i h
    exact h2 (by simpa using h)
end
section
variable {X : Cx} {C : Ct} {ρ : List Sl} {μ : List Ce} {n : Nat} {a b c e : Expr} {pos p : Pos} {Ψ : Out → Prop} {T : List (Addr × Str)} {j : Nat} {x y : Str} {ps : List Str} {pre : Pre}
/-- y = f(..), that may raise -/
theorem sx_asgC (i : Nat) {es : List Expr} {pos2 px : Pos} (k : Kn X.prog X.w X.K X.mg X.base T j x ps pre) (hr : Room j X.A) (hT : C.T = T) (nd : X.N.Nodup) (h : EA X C (a :: es) ρ μ n fun as n1 => pre as n1 (ouA i ρ μ Ψ)) (tk : Takes X (fun cls d _ H => C.E cls d H) := by exact takes_of rfl rfl rfl rfl) (hg : Gl X x := by rfl) (hdb : (x == ("__debug__" : Str)) = false := by decide)
    (he : starEach (a :: es) X.env = (false, eval a X.env) :: starEach es X.env := by rfl) (hpl : (backTo pos (starEach es X.env)).any (·.1) = false := by rfl) (hi : X.N[i]? = some y := by rfl) (hx : Loc X.env.scope y := by first | exact .inl rfl | exact .inr rfl) (hs : swapsWith (.Call (.Name x p) (a :: es) [] pos) (some (.Name y px)) pos2.line X.env = pure false := by rfl)
    (hf : X.fn y = true ∨ X.env.scope.names.lookup y = some .local := by first | exact .inl rfl | exact .inr rfl) : SX X C (.Assign [.Name y px] (.Call (.Name x p) (a :: es) [] pos) pos2) ρ μ n Ψ := by
  obtain ⟨f, fd, F, hm, hk, hb⟩ := k.ex
  exact sx_of (ps_set nd hi hx (pe_call F hr hg hm hk hb .nil (passes_call tk fun _ _ _ _ h => h) pa_can hdb he hpl) hs hf) (sv_asgC hT h)
end
theorem ix_ti {Φ : PyData → Nat → Prop} {n : Nat} {ds : List PyData} {i : Int} {d : PyData} (h0 : 0 ≤ i) (e : ds[i.toNat]? = some d) (h : Φ d n) : PIx Φ n (.tuple ds) (.int i) := ⟨h0, d, e, h⟩
theorem ix_li {Φ : PyData → Nat → Prop} {n : Nat} {ds : List PyData} {i : Int} {d : PyData} (h0 : 0 ≤ i) (e : ds[i.toNat]? = some d) (h : Φ d n) : PIx Φ n (.list ds) (.int i) := ⟨h0, d, e, h⟩
def lesI (a b : Int) : Int := if a < b then a else b
def preLes : Pre := fun as n Φ => ∃ (a b : Int), as = [.da (.int a), .da (.int b)] ∧ Φ (.ok (.int (lesI a b))) n
def lossI (st : List Int) (f l : Int) : Int := if f = l then 1 else st.getD l.toNat 0 - st.getD (f + 1).toNat 0 + 1
def preLoss : Pre := fun as n Φ => ∃ (st : List Int) (f l : Int), as = [.da (itup st), .da (.int f), .da (.int l)] ∧ 0 ≤ f ∧ f ≤ l ∧ l < st.length ∧ Φ (.ok (.int (lossI st f l))) n
def preEven : Pre := fun as n Φ => ∃ (s m d : Int), as = [.da (.int s), .da (.int m), .da (.int d)] ∧ 0 ≤ s ∧ 1 ≤ m ∧ m < 1000000 ∧ 0 ≤ d ∧ d < m ∧ Φ (.ok (.int (m * s + d))) n
def preSize : Pre := fun as n Φ => ∃ (m : Int), as = [.da (.int m)] ∧ Φ (.ok (.bool (decide (1 ≤ m)))) n
local macro_rules | `(tactic| walk_at "pb v") => `(tactic| first
  | refine ex_v 0 rfl ?_ | refine ex_v 1 rfl ?_ | refine ex_v 2 rfl ?_ | refine ex_v 3 rfl ?_ | refine ex_v 4 rfl ?_ | refine ex_v 5 rfl ?_ | refine ex_v 6 rfl ?_ | refine ex_v 7 rfl ?_
  | refine ex_v 8 rfl ?_ | refine ex_v 9 rfl ?_ | refine ex_v 10 rfl ?_ | refine ex_v 11 rfl ?_ | refine ex_v 12 rfl ?_ | refine ex_v 13 rfl ?_ | refine ex_v 14 rfl ?_)
local macro_rules | `(tactic| walk_at "pb x") => `(tactic| first
  | refine ex_i ?_ | ((with_reducible show EX _ _ (Expr.Name _ _) _ _ _ _); walk_at "pb v") | refine ex_addJ ?_ | refine ex_sub ?_ | refine ex_s ?_ | refine ex_n ?_ | refine ex_b ?_ | refine ex_neg ?_
  | refine ex_mulJ ?_ | refine ex_mod ?_ | refine ex_div ?_ | refine ex_pow ?_ | refine ex_lt ?_ | refine ex_eq ?_ | refine ex_ne ?_ | refine ex_gt ?_ | refine ex_ge ?_ | refine ex_ixJ ?_
  | refine ex_and ?_ | refine ex_or ?_ | refine ex_one ?_ | refine ex_not ?_ | refine ex_ite ?_ | refine ex_isInt ‹_› ?_ | refine ex_isBool ‹_› ?_ | refine ex_isTup ‹_› ?_)
local macro_rules | `(tactic| walk_at "pb t") => `(tactic| first
  | refine et_lt ?_ | refine et_eq ?_ | refine et_ne ?_ | refine et_le ?_ | refine et_gt ?_ | refine et_ge ?_ | refine et_nt ?_ | refine et_w (ew_and ?_) | refine et_w (ew_or ?_) | refine et_v ?_)
local macro_rules | `(tactic| walk_at "pb e") => `(tactic| first
  | ((with_reducible show EX _ _ _ _ _ _ _); walk_at "pb x")
  | with_reducible refine xi2 ?_ | with_reducible refine xi ?_ | with_reducible refine xb ?_ | with_reducible refine xsi ?_ | with_reducible refine xl ?_ | with_reducible refine xt ?_
  | with_reducible refine ifT ?_ | with_reducible refine ifF ?_ | with_reducible refine add_int ?_ | with_reducible refine ix_l ?_
  | with_reducible refine nx_nxt ?_ | with_reducible refine rt_nxt ?_ | with_reducible refine er_nxt ?_ | with_reducible refine bk_nxt ?_ | with_reducible refine ct_nxt ?_ | with_reducible refine fin_rt ?_ | with_reducible refine fin_nx ?_ | with_reducible refine fin_er ?_ 
  | with_reducible refine nx_lp ?_ | with_reducible refine bk_lp ?_ | with_reducible refine ct_lp ?_ | with_reducible refine rt_lp ?_ | with_reducible refine er_lp ?_ | with_reducible refine okp_ok ?_
  | ((with_reducible show ET _ _ _ _ _ _ _); walk_at "pb t")
  | ((with_reducible show EW _ _ _ _ _ _ _); first | refine ew_and ?_ | refine ew_or ?_ | refine ew_and1 ?_ | refine ew_or1 ?_)
  | ((with_reducible show SB _ _ _ _ _ _ _); first | refine sb_cons ?_ | refine sb_nil ?_)
  | ((with_reducible show SX _ _ _ _ _ _ _); first | refine sx_ret ?_ | refine sx_if ?_)
  | ((with_reducible show EA _ _ _ _ _ _ _); first | refine ea_c ?_ | refine ea_0 ?_))
local macro_rules | `(tactic| walk_at "pb") => `(tactic| repeat walk_at "pb e")
section
variable {P : Program} {w : World} {K : Frg} {mg : Str → Option Value} {base : Heap} {f : Addr} {fd : FuncData} {T : List (Addr × Str)} {k : Nat}
theorem sc23 : FnScope ["base", "thing"] ["base", "thing"] (defScope (top 23)) := ⟨rfl, rfl, rfl, by decide +kernel, rfl, by decide +kernel, by decide +kernel⟩
theorem g_fits_framed (F : FnT K "fits_framed" 23 f fd) (b : Blt mg) (kd : Kn P w K mg base T k "is_digits" ["base", "thing"] preDig) : FnOk P w K mg base (L2.CX P w) (k + 1) f fd ["base", "thing"] (prom K T preFitF) := by
  refine fn_pb F sc23 (fun as n Φ ⟨b, ns, h, _⟩ => by rw [h]; rfl) fun cdv A outer s H E fa B as n Φ hr hp => ?_
  obtain ⟨bs, d, rfl, hb1, hb2, hd, h⟩ := hp
  walk_at "pb"
  refine ex_call kd hr rfl ?_
  walk_at "pb"
  refine ⟨bs, d, rfl, hb1, hb2, hd, ?_⟩
  walk_at "pb"
  cases hg : isDig bs d with
  | false =>
    refine ifT ?_
    walk_at "pb"
    have : fitsF bs d = false := by
      cases d <;> first | rfl | (simp only [fitsF, hg, Bool.false_and])
    rw [this] at h
    exact h
  | true =>
    refine ifF ?_
    walk_at "pb"
    obtain ⟨ns, rfl, hn, _⟩ := dig_ex hg
    refine ex_lenJ b.len ?_
    walk_at "pb"
    show Ev _ _ _ _ _ _ _
    walk_at "pb"
    refine ifd (fun h1 => ?_) (fun h1 => ?_)
    · walk_at "pb"
      have e : ns.length = 0 := by
        rw [List.length_map] at h1
        omega
      have : fitsF bs (.tuple (ns.map .int)) = false := by simp [fitsF, e]
      rw [this] at h
      exact h
    · rw [List.length_map] at h1
      have hp : 0 < ns.length := by omega
      have g : ∀ (i : Nat), i < ns.length → (ns.map PyData.int)[i]? = some (.int (ns.getD i 0)) := fun i hi => by
        rw [List.getElem?_map, List.getD_eq_getElem?_getD, List.getElem?_eq_getElem hi]
        rfl
      have t : ∀ (i : Nat), i < ns.length → toI ((ns.map PyData.int).getD i .none) = ns.getD i 0 := fun i hi => by
        rw [List.getD_eq_getElem?_getD, g i hi]
        rfl
      have hF : fitsF bs (.tuple (ns.map .int)) = (decide (ns.getD 0 0 = bs - 1) && decide (ns.getD (ns.length - 1) 0 = bs - 1)) := by
        simp only [fitsF]
        rw [hg, List.length_map, t 0 hp, t (ns.length - 1) (by omega)]
        have : decide (ns.length ≠ 0) = true := decide_eq_true (by omega)
        rw [this]
        rfl
      rw [hF] at h
      walk_at "pb"
      refine ix_ti (by omega) (g 0 hp) ?_
      walk_at "pb"
      refine ifd (fun h2 => ?_) (fun h2 => ?_)
      · rw [decide_eq_true h2, Bool.true_and] at h
        walk_at "pb"
        refine ex_lenJ b.len ?_
        walk_at "pb"
        show Ev _ _ _ _ _ _ _
        walk_at "pb"
        rw [List.length_map]
        refine ix_ti (by omega) (g _ (by omega)) ?_
        walk_at "pb"
        have e : ((ns.length : Int) - 1).toNat = ns.length - 1 := by omega
        rw [e]
        exact h
      · rw [decide_eq_false h2, Bool.false_and] at h
        walk_at "pb"
        exact h
theorem sc24 : FnScope ["base"] ["base"] (defScope (top 24)) := ⟨rfl, rfl, rfl, by decide +kernel, rfl, by decide +kernel, by decide +kernel⟩
theorem g_want_base (F : FnT K "want_base" 24 f fd) (kw : Kn P w K mg base T k "a_want" ["good", "word"] wantP) (kb : Kn P w K mg base T k "is_base" ["thing"] (pp1 fun d => .bool (isBase d))) :
    FnOk P w K mg base (L2.CX P w) (k + 1) f fd ["base"] (prom K T (pf1 (fun _ => True) want3)) := by
  refine fn_pb F sc24 (fun as n Φ h => pf1_len h) fun cdv A outer s H E fa B as n Φ hr hp => ?_
  obtain ⟨d, rfl, _, h⟩ := hp
  walk_at "pb"
  refine sx_want kw hr rfl ?_
  walk_at "pb"
  refine ex_call1 kb hr rfl ?_
  walk_at "pb"
  refine ifb (fun h1 => ?_) (fun h1 => ?_)
  · obtain ⟨i, rfl, hi, hj⟩ := isBase_ex h1
    walk_at "pb"
    refine ifd (fun h2 => ?_) (fun h2 => ?_)
    · walk_at "pb"
      have : want3 (.int i) = .ok .none := by simp [want3, isB3, h2, hj]
      rw [this] at h
      exact h
    · walk_at "pb"
      have : want3 (.int i) = use "base" := by simp [want3, isB3, h2]
      rw [this] at h
      exact h
  · walk_at "pb"
    have : want3 d = use "base" := by
      have : isB3 d = false := by
        cases d with
        | int i =>
          simp only [isBase, Bool.and_eq_false_iff, decide_eq_false_iff_not] at h1
          simp only [isB3, Bool.and_eq_false_iff, decide_eq_false_iff_not]
          omega
        | _ => rfl
      simp [want3, this]
    rw [this] at h
    exact h
theorem sc30 : FnScope ["one", "other"] ["one", "other"] (defScope (top 30)) := ⟨rfl, rfl, rfl, by decide +kernel, rfl, by decide +kernel, by decide +kernel⟩
theorem g_lesser (F : FnT K "lesser" 30 f fd) : FnOk P w K mg base (L2.CX P w) (k + 1) f fd ["one", "other"] (prom K T preLes) := by
  refine fn_pb F sc30 (fun as n Φ ⟨b, ns, h, _⟩ => by rw [h]; rfl) fun cdv A outer s H E fa B as n Φ hr hp => ?_
  obtain ⟨x, y, rfl, h⟩ := hp
  walk_at "pb"
  refine ifd (fun h2 => ?_) (fun h2 => ?_)
  · walk_at "pb"
    rw [lesI, if_pos h2] at h
    exact h
  · walk_at "pb"
    rw [lesI, if_neg h2] at h
    exact h
theorem sc31 : FnScope ["starts", "first", "last"] ["starts", "first", "last"] (defScope (top 31)) := ⟨rfl, rfl, rfl, by decide +kernel, rfl, by decide +kernel, by decide +kernel⟩
theorem g_loss_over (F : FnT K "loss_over" 31 f fd) : FnOk P w K mg base (L2.CX P w) (k + 1) f fd ["starts", "first", "last"] (prom K T preLoss) := by
  refine fn_pb F sc31 (fun as n Φ ⟨b, ns, _, h, _⟩ => by rw [h]; rfl) fun cdv A outer s H E fa B as n Φ hr hp => ?_
  obtain ⟨st, x, y, rfl, h0, h1, h2, h⟩ := hp
  unfold itup
  walk_at "pb"
  refine ifd (fun h3 => ?_) (fun h3 => ?_)
  · walk_at "pb"
    rw [lossI, if_pos h3] at h
    exact h
  · walk_at "pb"
    have e1 : (st.map PyData.int)[y.toNat]? = some (.int (st.getD y.toNat 0)) := by
      rw [List.getElem?_map, List.getD_eq_getElem?_getD, List.getElem?_eq_getElem (by omega)]
      rfl
    have e2 : (st.map PyData.int)[(x + 1).toNat]? = some (.int (st.getD (x + 1).toNat 0)) := by
      rw [List.getElem?_map, List.getD_eq_getElem?_getD, List.getElem?_eq_getElem (by omega)]
      rfl
    refine ix_ti (by omega) e1 ?_
    walk_at "pb"
    refine ix_ti (by omega) e2 ?_
    walk_at "pb"
    rw [lossI, if_neg h3] at h
    exact h
theorem sc33 : FnScope ["thing"] ["thing"] (defScope (top 33)) := ⟨rfl, rfl, rfl, by decide +kernel, rfl, by decide +kernel, by decide +kernel⟩
theorem g_a_is_size (F : FnT K "a_is_size" 33 f fd) (ki : Kn P w K mg base T k "is_integer" ["thing"] (pp1 fun d => .bool (isInt d))) : FnOk P w K mg base (L2.CX P w) (k + 1) f fd ["thing"] (prom K T preSize) := by
  refine fn_pb F sc33 (fun as n Φ ⟨b, h, _⟩ => by rw [h]; rfl) fun cdv A outer s H E fa B as n Φ hr hp => ?_
  obtain ⟨m, rfl, h⟩ := hp
  walk_at "pb"
  refine ex_call1 ki hr rfl ?_
  walk_at "pb"
  refine ifT ?_
  walk_at "pb"
  exact h
theorem sc34 : FnScope ["stack", "many", "digit"] ["stack", "many", "digit"] (defScope (top 34)) := ⟨rfl, rfl, rfl, by decide +kernel, rfl, by decide +kernel, by decide +kernel⟩
theorem g_push_even (F : FnT K "push_even" 34 f fd) (kw : Kn P w K mg base T k "a_want" ["good", "word"] wantP) (kn : Kn P w K mg base T k "is_number" ["thing"] (pp1 fun d => .bool (isNum d))) (ks : Kn P w K mg base T k "a_is_size" ["thing"] preSize) :
    FnOk P w K mg base (L2.CX P w) (k + 1) f fd ["stack", "many", "digit"] (prom K T preEven) := by
  refine fn_pb F sc34 (fun as n Φ ⟨b, _, _, h, _⟩ => by rw [h]; rfl) fun cdv A outer s H E fa B as n Φ hr hp => ?_
  obtain ⟨st, m, d, rfl, h0, h1, h2, h3, h4, h⟩ := hp
  walk_at "pb"
  refine sx_want kw hr rfl (ex_call1 kn hr rfl ?_)
  walk_at "pb"
  rw [isNum_mk h0]
  walk_at "pb"
  refine sx_want kw hr rfl (ex_call ks hr rfl ?_)
  walk_at "pb"
  refine ⟨m, rfl, ?_⟩
  walk_at "pb"
  refine ifd (fun _ => ?_) (fun z => absurd h1 z)
  walk_at "pb"
  refine sx_want kw hr rfl ?_
  walk_at "pb"
  refine ex_call1 kn hr rfl ?_
  walk_at "pb"
  rw [isNum_mk h3]
  walk_at "pb"
  refine ifd (fun _ => ?_) (fun z => absurd h4 z)
  walk_at "pb"
  refine mul_int (mulL (by omega) (by omega)) ?_
  walk_at "pb"
  exact h
theorem sc36 : FnScope ["stack", "modulus"] ["stack", "modulus"] (defScope (top 36)) := ⟨rfl, rfl, rfl, by decide +kernel, rfl, by decide +kernel, by decide +kernel⟩
theorem g_want_checked (F : FnT K "want_checked" 36 f fd) (kw : Kn P w K mg base T k "a_want" ["good", "word"] wantP) (kn : Kn P w K mg base T k "is_number" ["thing"] (pp1 fun d => .bool (isNum d))) (kf : Kn P w K mg base T k "fits_modulus" ["thing"] (pp1 fun d => .bool (fitsM d))) :
    FnOk P w K mg base (L2.CX P w) (k + 1) f fd ["stack", "modulus"] (prom K T (pf2 (fun _ _ => True) wantC)) := by
  refine fn_pb F sc36 (fun as n Φ h => pf2_len h) fun cdv A outer s H E fa B as n Φ hr hp => ?_
  obtain ⟨st, m, rfl, _, h⟩ := hp
  unfold wantC at h
  walk_at "pb"
  refine sx_want kw hr rfl (ex_call1 kn hr rfl ?_)
  walk_at "pb"
  refine ifb (fun h1 => ?_) (fun h1 => ?_)
  · rw [if_pos h1] at h
    walk_at "pb"
    refine sx_want kw hr rfl (ex_call1 kf hr rfl ?_)
    walk_at "pb"
    refine ifb (fun h2 => ?_) (fun h2 => ?_)
    · rw [if_pos h2] at h
      walk_at "pb"
      exact h
    · rw [if_neg (by rw [h2]; exact Bool.false_ne_true)] at h
      walk_at "pb"
      exact h
  · rw [if_neg (by rw [h1]; exact Bool.false_ne_true)] at h
    walk_at "pb"
    exact h
theorem sc37 : FnScope ["stack", "modulus"] ["stack", "modulus"] (defScope (top 37)) := ⟨rfl, rfl, rfl, by decide +kernel, rfl, by decide +kernel, by decide +kernel⟩
theorem g_push_check (F : FnT K "push_check" 37 f fd) (kw : Kn P w K mg base T k "want_checked" ["stack", "modulus"] (pf2 (fun _ _ => True) wantC)) (ke : Kn P w K mg base T k "push_even" ["stack", "many", "digit"] preEven) :
    FnOk P w K mg base (L2.CX P w) (k + 1) f fd ["stack", "modulus"] (prom K T (pf2 (fun _ _ => True) pushC)) := by
  refine fn_pb F sc37 (fun as n Φ h => pf2_len h) fun cdv A outer s H E fa B as n Φ hr hp => ?_
  obtain ⟨st, m, rfl, _, h⟩ := hp
  unfold pushC at h
  walk_at "pb"
  refine sx_call kw hr rfl ?_
  walk_at "pb"
  refine ⟨st, m, rfl, trivial, ou_wantC (fun h1 h2 => ?_) (fun h1 => ?_) (fun h1 h2 => ?_)⟩
  · rw [if_pos h1, if_pos h2] at h
    obtain ⟨x, rfl, hx⟩ := isNum_ex h1
    obtain ⟨p, rfl, hp, hq⟩ := fitsM_ex h2
    walk_at "pb"
    refine ex_call ke hr rfl ?_
    walk_at "pb"
    refine ⟨x, p, 0, rfl, hx, by omega, by omega, by omega, by omega, ?_⟩
    walk_at "pb"
    exact h
  · rw [if_neg (by rw [h1]; exact Bool.false_ne_true)] at h
    walk_at "pb"
    exact h
  · rw [if_pos h1, if_neg (by rw [h2]; exact Bool.false_ne_true)] at h
    walk_at "pb"
    exact h
theorem sc38 : FnScope ["stack", "modulus"] ["stack", "modulus"] (defScope (top 38)) := ⟨rfl, rfl, rfl, by decide +kernel, rfl, by decide +kernel, by decide +kernel⟩
theorem g_is_spoilt (F : FnT K "is_spoilt" 38 f fd) (kw : Kn P w K mg base T k "want_checked" ["stack", "modulus"] (pf2 (fun _ _ => True) wantC)) :
    FnOk P w K mg base (L2.CX P w) (k + 1) f fd ["stack", "modulus"] (prom K T (pf2 (fun _ _ => True) spoC)) := by
  refine fn_pb F sc38 (fun as n Φ h => pf2_len h) fun cdv A outer s H E fa B as n Φ hr hp => ?_
  obtain ⟨st, m, rfl, _, h⟩ := hp
  unfold spoC at h
  walk_at "pb"
  refine sx_call kw hr rfl ?_
  walk_at "pb"
  refine ⟨st, m, rfl, trivial, ou_wantC (fun h1 h2 => ?_) (fun h1 => ?_) (fun h1 h2 => ?_)⟩
  · rw [if_pos h1, if_pos h2] at h
    obtain ⟨x, rfl, hx⟩ := isNum_ex h1
    obtain ⟨p, rfl, hp, hq⟩ := fitsM_ex h2
    walk_at "pb"
    refine ⟨by omega, ?_⟩
    walk_at "pb"
    exact h
  · rw [if_neg (by rw [h1]; exact Bool.false_ne_true)] at h
    walk_at "pb"
    exact h
  · rw [if_pos h1, if_neg (by rw [h2]; exact Bool.false_ne_true)] at h
    walk_at "pb"
    exact h
theorem sc39 : FnScope ["stack", "modulus"] ["stack", "modulus"] (defScope (top 39)) := ⟨rfl, rfl, rfl, by decide +kernel, rfl, by decide +kernel, by decide +kernel⟩
theorem g_pop_check (F : FnT K "pop_check" 39 f fd) (u : ExS P w K mg base k) (kw : Kn P w K mg base T (k + 1) "want_checked" ["stack", "modulus"] (pf2 (fun _ _ => True) wantC)) :
    FnOk P w K mg base (L2.CX P w) (k + 2) f fd ["stack", "modulus"] (prom K T (pf2 (fun _ _ => True) popC)) := by
  refine fn_pb F sc39 (fun as n Φ h => pf2_len h) fun cdv A outer s H E fa B as n Φ hr hp => ?_
  obtain ⟨st, m, rfl, _, h⟩ := hp
  unfold popC at h
  walk_at "pb"
  refine sx_call kw hr rfl ?_
  walk_at "pb"
  refine ⟨st, m, rfl, trivial, ou_wantC (fun h1 h2 => ?_) (fun h1 => ?_) (fun h1 h2 => ?_)⟩
  · rw [if_pos h1, if_pos h2] at h
    obtain ⟨x, rfl, hx⟩ := isNum_ex h1
    obtain ⟨p, rfl, hp, hq⟩ := fitsM_ex h2
    walk_at "pb"
    refine ⟨by omega, ?_⟩
    walk_at "pb"
    by_cases h3 : x % p = 0
    · rw [if_pos (show toI (.int x) % toI (.int p) = 0 from h3)] at h
      rw [decide_eq_true h3]
      refine ifF ?_
      walk_at "pb"
      refine ⟨divW (by omega) (by omega), ?_⟩
      walk_at "pb"
      exact h
    · rw [if_neg (show ¬ toI (.int x) % toI (.int p) = 0 from h3)] at h
      rw [decide_eq_false h3]
      refine ifT ?_
      walk_at "pb"
      refine sx_spo u hr rfl ?_
      walk_at "pb"
      exact h
  · rw [if_neg (by rw [h1]; exact Bool.false_ne_true)] at h
    walk_at "pb"
    exact h
  · rw [if_pos h1, if_neg (by rw [h2]; exact Bool.false_ne_true)] at h
    walk_at "pb"
    exact h
theorem sc40 : FnScope ["base", "modulus", "one", "other"] ["base", "modulus", "one", "other"] (defScope (top 40)) := ⟨rfl, rfl, rfl, by decide +kernel, rfl, by decide +kernel, by decide +kernel⟩
theorem g_seen_apart (F : FnT K "seen_apart" 40 f fd) (b : Blt mg) (kb : Kn P w K mg base T k "want_base" ["base"] (pf1 (fun _ => True) want3)) (kw : Kn P w K mg base T k "a_want" ["good", "word"] wantP) (kf : Kn P w K mg base T k "fits_modulus" ["thing"] (pp1 fun d => .bool (fitsM d)))
    (kd : Kn P w K mg base T k "is_digits" ["base", "thing"] preDig) (ks : Kn P w K mg base T k "stack_of" ["base", "digits"] preStk) :
    FnOk P w K mg base (L2.CX P w) (k + 1) f fd ["base", "modulus", "one", "other"] (prom K T (pf4 (fun _ _ o r => Sm o ∧ Sm r) apart)) := by
  refine fn_pb F sc40 (fun as n Φ h => pf4_len h) fun cdv A outer s H E fa B as n Φ hr hp => ?_
  obtain ⟨bs, m, o, r, rfl, ⟨ho, hr'⟩, h⟩ := hp
  unfold apart at h
  walk_at "pb"
  refine sx_call kb hr rfl ?_
  walk_at "pb"
  refine ⟨bs, rfl, trivial, ou_want3 (fun h1 => ?_) (fun h1 => ?_)⟩
  case refine_2 =>
    rw [if_neg (by rw [h1]; exact Bool.false_ne_true)] at h
    walk_at "pb"
    exact h
  rw [if_pos h1] at h
  obtain ⟨b', rfl, hb1, hb2⟩ := b3_ex h1
  walk_at "pb"
  refine sx_want kw hr rfl (ex_call1 kf hr rfl ?_)
  walk_at "pb"
  refine ifb (fun h2 => ?_) (fun h2 => ?_)
  case refine_2 =>
    rw [if_neg (by rw [h2]; exact Bool.false_ne_true)] at h
    walk_at "pb"
    exact h
  rw [if_pos h2] at h
  obtain ⟨p, rfl, hp1, hp2⟩ := fitsM_ex h2
  have hD : ∀ t, isDig (toI (.int b') - 1) t = isDig (b' - 1) t := fun _ => rfl
  rw [hD, hD] at h
  walk_at "pb"
  refine sx_want kw hr rfl (ex_call kd hr rfl ?_)
  walk_at "pb"
  refine ⟨b' - 1, o, rfl, by omega, by omega, ho, ?_⟩
  walk_at "pb"
  refine ifb (fun h3 => ?_) (fun h3 => ?_)
  case refine_2 =>
    rw [if_neg (by rw [h3]; exact Bool.false_ne_true)] at h
    walk_at "pb"
    exact h
  rw [if_pos h3] at h
  obtain ⟨os, rfl, hos, eo⟩ := dig_ex h3
  walk_at "pb"
  refine sx_want kw hr rfl ?_
  walk_at "pb"
  refine ex_call kd hr rfl ?_
  walk_at "pb"
  refine ⟨b' - 1, r, rfl, by omega, by omega, hr', ?_⟩
  walk_at "pb"
  refine ifb (fun h4 => ?_) (fun h4 => ?_)
  case refine_2 =>
    rw [h4, Bool.false_and, if_neg Bool.false_ne_true] at h
    walk_at "pb"
    exact h
  obtain ⟨rs, rfl, hrs, er⟩ := dig_ex h4
  rw [h4, eo, er, Bool.true_and] at h
  walk_at "pb"
  refine ex_lenJ b.len ?_
  walk_at "pb"
  show Ev _ _ _ _ _ _ _
  refine ex_lenJ b.len ?_
  walk_at "pb"
  show ∃ i j, _
  walk_at "pb"
  rw [List.length_map, List.length_map]
  refine ifd (fun h5 => ?_) (fun h5 => ?_)
  case refine_2 =>
    rw [if_neg (by rw [decide_eq_true_eq]; omega)] at h
    walk_at "pb"
    exact h
  rw [if_pos (by rw [decide_eq_true_eq]; omega)] at h
  have lo : os.length ≤ 100000 := by rw [Sm, List.length_map] at ho; exact ho
  have lr : rs.length ≤ 100000 := by rw [Sm, List.length_map] at hr'; exact hr'
  walk_at "pb"
  refine ex_call ks hr rfl ?_
  walk_at "pb"
  refine ⟨b' - 1, os, rfl, by omega, by omega, hos, lo, ?_⟩
  walk_at "pb"
  refine ex_call ks hr rfl ?_
  walk_at "pb"
  refine ⟨b' - 1, rs, rfl, by omega, by omega, hrs, lr, ?_⟩
  walk_at "pb"
  refine ⟨by omega, ?_⟩
  walk_at "pb"
  exact h
end
end Pb

set_option Elab.async false
set_option linter.all false
set_option maxRecDepth 100000
set_option maxHeartbeats 4000000
/-! PbM: enumerate over a tuple; pairs as a comprehension's target; list.extend with a tuple; a list slot that may be None. -/
namespace Pb
open PySem PySem.Spec PyProof.Rows L2
set_option maxHeartbeats 1000000 in
theorem meets_en1 {v : Value} {o : Obj} {W : Heap → Prop} (B : Begins v o W) :
    Meets (Builtin.«enumerate.__new__» ⟨[.type "enumerate", v], []⟩) (fun _ R s => W s.heap ∧
      R (.ok (.ret (.ref (s.heap.push o).objs.size))) { s with heap := (s.heap.push o).push { cls := .type "enumerate", data := .fields #[.none, .bool false, .ref s.heap.objs.size, rawInt 0, .none, .none] } }) :=
  .of_wp fun prog w A R s hw => by
    obtain ⟨hp, g, d, tk, os⟩ := s
    obtain ⟨h1, hq⟩ := hw
    have hsub := sub_enumerate
    have q1 : ∀ {A' : Around} {E : Value → Shared → Prop} {Q : Value → Shared → Prop}, Q (.ref hp.objs.size) ⟨hp.push o, g, d, tk, os⟩ → wpAny (model prog w) A' (pyIter v) Q E ⟨hp, g, d, tk, os⟩ :=
      fun q => B.iter prog w _ _ ⟨hp, g, d, tk, os⟩ _ h1 q
    wp_walk using q1
    refine wpAny_stack_any fun st => wpAny_pure ?_
    split
    · rename_i c _ _ _ _ _
      cases (c == Value.type "enumerate")
      · wp_walk using q1
        exact ⟨_, rfl, hq⟩
      · wp_walk using q1
        exact ⟨_, rfl, hq⟩
    · wp_walk using q1
      exact ⟨_, rfl, hq⟩
theorem call_en_tup {prog : Program} {w : World} {A : Around} {E : Value → Shared → Prop} {s : Shared} {a : Addr} {its : Array Value} {Q : Value → Shared → Prop} (ht : s.heap.IsTuple a its)
    (h : ∀ h', IsEnum h' (s.heap.objs.size + 1) s.heap.objs.size 0 .none → h'.IsTupleIter s.heap.objs.size a 0 → (∀ b o, s.heap.get? b = some o → h'.get? b = some o) → Q (.ref (s.heap.objs.size + 1)) { s with heap := h' }) :
    wpAny (model prog w) A (call (.type "enumerate") [.ref a]) Q E s := by
  have B := begins_tuple a its
  refine callType_new F.called_enumerate (by decide) (F.typeCall_enumerate_1 _) (F.newCall_enumerate_1 _) (fun obj => F.args_object_init_2 obj _) F.entry_enumerate_new (meets_en1 B) ⟨ht, ?_⟩
  have hz : (s.heap.push { cls := .type "tuple_iterator", data := .fields #[.ref a, .int 0 0] }).objs.size = s.heap.objs.size + 1 := Heap.size_push ..
  show _ ∧ _
  rw [hz]
  have he : IsEnum ((s.heap.push { cls := .type "tuple_iterator", data := .fields #[.ref a, .int 0 0] }).push { cls := .type "enumerate", data := .fields #[.none, .bool false, .ref s.heap.objs.size, rawInt 0, .none, .none] }) (s.heap.objs.size + 1) s.heap.objs.size 0 .none := by
    have := Heap.get?_push_size (s.heap.push { cls := .type "tuple_iterator", data := .fields #[.ref a, .int 0 0] }) (o := { cls := .type "enumerate", data := .fields #[.none, .bool false, .ref s.heap.objs.size, rawInt 0, .none, .none] }) rfl
    rw [hz] at this
    exact this
  exact ⟨⟨_, he, rfl⟩, h _ he ⟨_, Heap.get?_push_of_some _ (Heap.get?_push_size _ rfl), rfl, rfl⟩ fun b o x => Heap.get?_push_of_some _ (Heap.get?_push_of_some _ x)⟩
/-- the tuple at a, each item in a new pair -/
def Iet (K : Frg) (a : Addr) : It :=
  ⟨fun i H => ∃ (xs : List V) (x : V), SqT K H a xs ∧ xs[i]? = some x, fun i H v H' => ∃ T x, v = .ref T ∧ H T = none ∧ H' = upd H T (.tup [.int (i : Nat), x]) ∧ ∀ xs, SqT K H a xs → xs[i]? = some x, fun i H => ∃ xs : List V, SqT K H a xs ∧ xs.length ≤ i⟩
theorem tup_ne {h : Heap} {a it : Addr} {its : Array Value} {i : Nat} (p : h.IsTuple a its) (q : h.IsTupleIter it a i) : a ≠ it := fun z => by
  obtain ⟨o, e, c, _⟩ := p
  obtain ⟨o', e', c', _⟩ := q
  rw [z, e'] at e
  cases e
  rw [c'] at c
  exact absurd c (by decide)
theorem enu_ne {h : Heap} {a e it : Addr} {its : Array Value} {c : Int} {old : Value} (p : h.IsTuple a its) (q : IsEnum h e it c old) : e ≠ a := fun z => by
  obtain ⟨o, e1, c1, _⟩ := p
  have e2 : h.get? e = some _ := q
  rw [z, e1] at e2
  cases e2
  have c2 : Value.type "enumerate" = .type "tuple" := c1
  exact absurd (Value.type.inj c2) (by decide)
theorem turn_ent {P : Program} {w : World} {K : Frg} {elts : List Expr} {kk : Nat} {tpos : Pos} (a e it : Addr) :
    Turn P w K (.Tuple elts kk tpos) (Iet K a) [e, it] e (fun i h => (∃ old, IsEnum h e it ((i : Nat) : Int) old) ∧ h.IsTupleIter it a i ∧ e ≠ it) where
  mem := by simp
  obj := fun i h st b hb => by
    obtain ⟨⟨old, he⟩, ⟨o, ho, hc, hd⟩, _⟩ := st
    have e' : b = e ∨ b = it := by simpa using hb
    rcases e' with z | z
    · rw [z]
      exact ⟨_, he, fun v q => nomatch q⟩
    · rw [z]
      exact ⟨o, ho, fun v q => by rw [hd] at q; cases q⟩
  keep := fun i h h' st k => let ⟨⟨old, he⟩, hi, hne⟩ := st; ⟨⟨old, k e (by simp) _ he⟩, hi.at fun o q => k it (by simp) o q, hne⟩
  item := by
    intro X hP hw hK hc i pins s σ H E I hf st hg
    subst hP hw hK
    obtain ⟨⟨old, he⟩, hit, hne⟩ := st
    obtain ⟨xs, x, hq, hx⟩ := hg
    obtain ⟨its, rv, p, hz⟩ := I.tuple hq
    have p' : s.heap.IsTuple a its.toArray := p
    obtain ⟨u, hu, ru⟩ := rv.get hx
    have hel : e < s.heap.objs.size := Heap.lt_size he
    have hil : it < s.heap.objs.size := by obtain ⟨_, q, _⟩ := hit; exact Heap.lt_size q
    have D : Draws X.prog X.w X.A.in1 it [it, a] its.toArray.size (fun i v => its.toArray[i]? = some v) (fun i h => h.IsTupleIter it a i ∧ h.IsTuple a its.toArray) := Draws.tuple (show X.A.in1.handled = none from I.ok.hd hc) it a (tup_ne p' hit) its.toArray
    have hlt : i < its.toArray.size := by
      have := (List.getElem?_eq_some_iff.mp hu).1
      simpa using this
    refine wpAny_pyNext_enum_itemC D he ⟨hit, p'⟩ hlt hne (by simp only [List.mem_cons, List.not_mem_nil, or_false, not_or]; exact ⟨hne, enu_ne p' he⟩) fun y h' tk hP ho hs hT hsz hk => ?_
    have ey : y = u := by
      have : its.toArray[i]? = some u := by simpa using hu
      rw [this] at hP
      exact (Option.some.inj hP).symm
    subst ey
    refine ⟨_, rfl, wpAny_letOwnedTupleGo_enum (s := { s with heap := h', toks := tk + 1 }) ho fun h'' he' sb => ?_⟩
    have hT2 : h''.get? s.heap.objs.size = some { cls := .type "tuple", data := .seq #[.int i tk, y] } := (sb.2 _ (Nat.ne_of_gt hel)).trans hT
    have new : ObjOk X.prog X.w (upd H s.heap.objs.size (.tup [.int (i : Nat), x])) h'' s.heap.objs.size (.tup [.int (i : Nat), x]) :=
      ⟨by show 2 ≤ sizeLine; decide, [.int i tk, y], .cons ⟨_, rfl⟩ (.cons ru .nil), ⟨_, hT2, rfl, _, rfl⟩⟩
    have I1 : Inv X pins σ (upd H s.heap.objs.size (.tup [.int (i : Nat), x])) { s with heap := h'', toks := tk + 1 } :=
      I.turnedNew (ch := [e, it]) (fun b ob hb q => (sb.2 b (fun z => hb (by simp [z]))).trans (hk b ob (fun z => hb (by simp [z])) (fun z => hb (by simp [z])) q)) hf (Nat.le_refl _) new
    refine ⟨.ref s.heap.objs.size, _, I1, rfl, ⟨_, x, rfl, I.hok.fresh (Nat.le_refl _), rfl, fun ys hy => by rw [I.tuple_inj hy hq]; exact hx⟩, ⟨⟨y, ?_⟩, hs.1.at fun o q => (sb.2 it (Ne.symm hne)).trans q, hne⟩, fun b hb => ?_⟩
    · have e1 : ((i + 1 : Nat) : Int) = (i : Int) + 1 := by omega
      rw [e1]
      exact he'
    · have hb' : b < s.heap.objs.size := by
        have e' : b = e ∨ b = it := by simpa using hb
        rcases e' with z | z
        · rw [z]; exact hel
        · rw [z]; exact hil
      rw [upd_ne (Nat.ne_of_lt hb')]
      exact (hf b hb).1
  done := by
    intro X hP hw hK hc i pins s σ H E I hf st hg
    subst hP hw hK
    obtain ⟨⟨old, he⟩, hit, hne⟩ := st
    obtain ⟨xs, hq, hx⟩ := hg
    obtain ⟨its, rv, p, hz⟩ := I.tuple hq
    have p' : s.heap.IsTuple a its.toArray := p
    obtain ⟨f0, f1, f2, f3, f4, f5⟩ := hf it (by simp)
    have hl := rv.length
    have hT : s.TypeIs (.ref e) "enumerate" := ⟨_, he, rfl⟩
    unfold pyNext
    refine wpAny_bind (wpAny_attempt (wpAny_callSpecial?_slot (name := Str.ofString "__next__") hT F.slot_enumerate_next
      (wpAny_call_entry F.slot_enumerate_next hT F.entry_enumerate_next ?_ (F.args_enumerate_next_1 _))))
    show wpAny _ _ (field (.ref e) 2 >>= _) _ _ _
    refine wpAny_bind (wpAny_field he rfl (x := .ref it) rfl ?_)
    refine wpAny_bind (wpAny_nextOf_tuple_end (show X.A.in1.handled = none from I.ok.hd hc) hit p' (by simp; omega) fun h' x he' hx' => ?_)
    obtain ⟨o, ho, hc'⟩ := hx'
    refine wpAny_bind (wpAny_isInstance (T := "StopIteration") (b := true) ⟨o, ho, hc'⟩ isSubtype_stop ?_)
    exact wpAny_pure ⟨rfl, I.turned (t' := s.toks) (fun b o hb q => he' b o hb q) f0 f1 f3 f4 f5⟩
  self := fun A i s Q E st h => let ⟨⟨_, he⟩, _⟩ := st; wpAny_pyIter_enum he h
def iEnt (K : Frg) (ta : TA) : TI := fun σ H R => ta σ H fun vs H1 => ∃ a xs, vs = [.ref a] ∧ SqT K H1 a xs ∧ R (Iet K a) H1
theorem pi_ent {X : Cx} {e : Expr} {ta : TA} {p pos tpos : Pos} {elts : List Expr} {kk : Nat} (hg : Gl X "enumerate") (hm : X.mg "enumerate" = none) (ha : PA X [e] ta) (hs : starEach [e] X.env = [(false, eval e X.env)] := by rfl) :
    PI X (.Tuple elts kk tpos) (.Call (.Name "enumerate" p) [e] [] pos) (iEnt X.K ta) := by
  refine ⟨fun pins s σ H R I h => ?_⟩
  refine Call_ (ld_blt I hg hm boot_enumerate (PyProof.Rows.callWith_type1 (thn (ha.run pos pins s σ H _ I h) fun us s1 ⟨vs, H1, I1, r1, q1⟩ => ?_) hs rfl))
  obtain ⟨a, xs, ex, hq, q⟩ := q1
  subst ex
  cases r1 with
  | cons r rr =>
    cases rr
    cases r
    obtain ⟨its, rv, p', hz⟩ := I1.tuple hq
    refine call_en_tup (show s1.heap.IsTuple a its.toArray from p') fun h' he hit hk => wpAny_pyIter_enum he ?_
    have I2 : Inv X pins σ H1 { s1 with heap := h' } := I1.kept (t' := s1.toks) hk
    refine ⟨s1.heap.objs.size + 1, [s1.heap.objs.size + 1, s1.heap.objs.size], _, _, H1, rfl, I2, turn_ent a (s1.heap.objs.size + 1) s1.heap.objs.size, ⟨⟨.none, he⟩, hit, Nat.succ_ne_self _⟩, fun b hb => ?_, q⟩
    have e' : b = s1.heap.objs.size + 1 ∨ b = s1.heap.objs.size := by simpa using hb
    have hle : s1.heap.objs.size ≤ b := by
      rcases e' with z | z
      · rw [z]
        exact Nat.le_add_right _ _
      · rw [z]
        exact Nat.le_refl _
    exact I1.fpOk hle (I1.hok.fresh hle)
section
variable {K : Frg} {C : Ct} {ρ : List Sl} {μ : List Ce} {n : Nat}
theorem wi_ent {tl : TE} {Φ : Nat → (Nat → PyData) → Nat → Prop} (h : Ev K C tl ρ μ n fun d n1 => ∃ ds, d = .tuple ds ∧ Φ ds.length (fun i => .tuple [.int i, ds.getD i .none]) n1) : Wi K C (iEnt K (tCons tl tNil)) ρ μ n Φ := fun ads σ B H R r q =>
  h ads σ B H _ r fun v d B1 H1 n1 e1 r1 p1 ⟨ds, ed, f⟩ => by
    subst ed
    obtain ⟨a, vs, rfl, hs, hd⟩ := dp_tup p1
    refine ⟨a, vs, rfl, ttr (r1.sub _ _ hs), q _ _ _ _ _ n1 e1 r1 ⟨fun H s => ?_, fun i H hi s => ?_, fun i H x H' hi s hy B sB sH => ?_⟩ f⟩
    · exact ⟨vs, ttr (s _ _ hs), by rw [dps_len hd]; exact Nat.le_refl _⟩
    · obtain ⟨v, e, _⟩ := dps_get hd (List.getElem?_eq_getElem hi)
      exact ⟨vs, v, ttr (s _ _ hs), e⟩
    · obtain ⟨T, y, rfl, hT, rfl, fv⟩ := hy
      obtain ⟨v, e, p⟩ := dps_get hd (List.getElem?_eq_getElem hi)
      have e2 : y = v := Option.some.inj ((fv _ (ttr (s _ _ hs))).symm.trans e)
      subst e2
      have g := Gr.new (o := .tup [.int (i : Nat), y]) sH hT
      refine ⟨_, g, .tup upd_same (.cons (.int _) (.cons ?_ .nil))⟩
      rw [List.getD_eq_getElem?_getD, List.getElem?_eq_getElem hi]
      exact dp_up (sB.trans g.b) _ _ p
end
section
variable {X : Cx} {C : Ct} {ρ : List Sl} {μ : List Ce} {n : Nat} {a b c e : Expr} {pos p : Pos} {Λ : List PyData → Nat → Prop} {Ψ : Out → Prop} {x y : Str}
theorem wx_ent {elts : List Expr} {kk : Nat} {tpos : Pos} {Ω : Nat → (Nat → PyData) → Nat → Prop} (hm : X.mg "enumerate" = none) (h : EX X C e ρ μ n fun d n1 => ∃ ds, d = .tuple ds ∧ Ω ds.length (fun i => .tuple [.int i, ds.getD i .none]) n1) (hg : Gl X "enumerate" := by rfl) (hs : starEach [e] X.env = [(false, eval e X.env)] := by rfl) :
    WX X C (.Tuple elts kk tpos) (.Call (.Name "enumerate" p) [e] [] pos) ρ μ n Ω := wx_of (pi_ent hg hm (pa_cons pe_can pa_nil hs) hs) (wi_ent h)
/-- a comprehension over pairs that draws nothing -/
def LcP2 (X : Cx) (C : Ct) (scope : Scope) (tg it : Expr) (ifs : List Expr) (elt : Expr) (i j : Nat) (ρ : List Sl) (μ : List Ce) (n : Nat) (Λ : List PyData → Nat → Prop) : Prop :=
  WX X C tg it ρ μ n fun len dx n1 => len ≤ 1000000 ∧ ∃ (dl dr : Nat → PyData) (t : Nat → Bool) (g : Nat → PyData), (∀ k, k < len → dx k = .tuple [dl k, dr k]) ∧
    (∀ k acc, k < len → BTX X C scope ifs (((wipeS ρ [i, j]).set i (.im (dl k))).set j (.im (dr k))) (μ ++ [.ls acc]) n1 fun b n2 => b = t k ∧ n2 = n1) ∧
    (∀ k acc, k < len → t k = true → BEX X C scope elt (((wipeS ρ [i, j]).set i (.im (dl k))).set j (.im (dr k))) (μ ++ [.ls acc]) n1 fun d n3 => d = g k ∧ n3 = n1) ∧ Λ (((List.range len).filter t).map g) n1
theorem lcP2 {scope : Scope} {tg it elt : Expr} {ifs : List Expr} {i j : Nat} (hij : i ≠ j) (h : LcP2 X C scope tg it ifs elt i j ρ μ n Λ) : EvL X.K C (tLc (canI X tg it) (gTup X.K 2 (gCons (gName i) (gCons (gName j) gNil))) (canBT X scope ifs) (canBE X scope elt) [i, j]) ρ μ n Λ := Pb.el_lc (K := X.K) fun ads σ B H R r q =>
  h ads σ B H R r fun J len dx B' H' n' e r' wk ⟨hl, dl, dr, t, g, hx, ht, hg, f⟩ => q J len dx B' H' n' e r' wk ⟨hl, fun k acc n2 => acc = ((List.range k).filter t).map g ∧ n2 = n', ⟨rfl, rfl⟩, fun k acc n2 hk ⟨e1, e2⟩ => by
    subst e2
    rw [hx k hk]
    refine ⟨_, tgc_pair hij, EvT.imp (ht k acc hk) fun b n3 ⟨e3, e4⟩ => ?_⟩
    subst e3 e4
    refine ifb (fun hb => ?_) (fun hb => ?_)
    · refine Ev.imp (hg k acc hk hb) fun d n4 ⟨e5, e6⟩ => ⟨?_, e6⟩
      rw [e5, e1, List.range_succ, List.filter_append, List.map_append, List.filter_cons_of_pos hb]
      rfl
    · refine ⟨?_, rfl⟩
      rw [e1, List.range_succ, List.filter_append, List.map_append, List.filter_cons_of_neg (by rw [hb]; exact Bool.false_ne_true)]
      simp, fun acc n2 ⟨e1, e2⟩ => by
    subst e1 e2
    exact f⟩
theorem el_lcP2 (i j : Nat) {scope : Scope} {it elt : Expr} {ifs : List Expr} {px py tpos : Pos} {kk : Nat} (hc : X.calm = true) (nd : X.N.Nodup) (h : LcP2 X C scope (.Tuple [.Name x px, .Name y py] kk tpos) it ifs elt i j ρ μ n Λ) (hij : i ≠ j := by decide) (ok : blkC X.N X.env.scope scope [(x, i), (y, j)] = true := by kernel_rfl) (hi : X.N[i]? = some x := by rfl) (hj : X.N[j]? = some y := by rfl)
    (hx : ∀ (s0 : Shared) (H0 : Hp) (C' : Addr) (cl : List (Str × Addr)) (fp : List Addr), Loc (X.blk s0 H0 scope (compEnvC scope cl C' X.env) fp).env.scope x := by first | exact fun _ _ _ _ _ => .inl rfl | exact fun _ _ _ _ _ => .inr rfl)
    (hf : ∀ (s0 : Shared) (H0 : Hp) (C' : Addr) (cl : List (Str × Addr)) (fp : List Addr), (X.blk s0 H0 scope (compEnvC scope cl C' X.env) fp).fn x = true ∨ (X.blk s0 H0 scope (compEnvC scope cl C' X.env) fp).env.scope.names.lookup x = some .local := by first | exact fun _ _ _ _ _ => .inr rfl | exact fun _ _ _ _ _ => .inl rfl)
    (hx2 : ∀ (s0 : Shared) (H0 : Hp) (C' : Addr) (cl : List (Str × Addr)) (fp : List Addr), Loc (X.blk s0 H0 scope (compEnvC scope cl C' X.env) fp).env.scope y := by first | exact fun _ _ _ _ _ => .inl rfl | exact fun _ _ _ _ _ => .inr rfl)
    (hf2 : ∀ (s0 : Shared) (H0 : Hp) (C' : Addr) (cl : List (Str × Addr)) (fp : List Addr), (X.blk s0 H0 scope (compEnvC scope cl C' X.env) fp).fn y = true ∨ (X.blk s0 H0 scope (compEnvC scope cl C' X.env) fp).env.scope.names.lookup y = some .local := by first | exact fun _ _ _ _ _ => .inr rfl | exact fun _ _ _ _ _ => .inl rfl)
    (hcb : ∀ (s0 : Shared) (H0 : Hp) (C' : Addr) (cl : List (Str × Addr)) (fp : List Addr), (X.blk s0 H0 scope (compEnvC scope cl C' X.env) fp).calm = true := by exact fun _ _ _ _ _ => rfl)
    (hs : ∀ y, foldedSetIterable it X.env y = pure y := by intro _; rfl) : EL X C (.ListComp elt [⟨.Tuple [.Name x px, .Name y py] kk tpos, it, ifs, 0⟩] scope pos) ρ μ n Λ :=
  el_of (pe_lc (own := [(x, i), (y, j)]) (g := gTup X.K 2 (gCons (gName i) (gCons (gName j) gNil))) (tt := canBT X scope ifs) (te := canBE X scope elt) hc nd pi_can (blkOk_by ok)
    (fun s0 H0 C' cl fp => pg_tup (hcb s0 H0 C' cl fp) (pgs_cons (pg_name nd hi (hx s0 H0 C' cl fp) (hf s0 H0 C' cl fp)) (pgs_cons (pg_name nd hj (hx2 s0 H0 C' cl fp) (hf2 s0 H0 C' cl fp)) pgs_nil))) (fun s0 H0 C' cl fp => pbt_can s0 H0 C' cl fp) (fun s0 H0 C' cl fp => pbe_can s0 H0 C' cl fp) hs) (lcP2 hij h)
end
/-! ### list.extend with a tuple -/
open AutoSeq1 in
theorem meets_ext_tup (l : Addr) (items : Array Value) (n : Nat) (b : Addr) (items2 : Array Value) (n2 : Nat) (dct : Option Addr) (sl : Array (Option Value)) (hs0 : ¬(!items.isEmpty && Builtin.List.listTooLong (items.size + items2.size)) = true) (hs1 : items.size ≤ sizeLine) (hs2 : items.size + items2.size ≤ sizeLine + 1) :
    Meets (Builtin.«list.extend» ⟨[.ref l, .ref b], []⟩) (fun _ R s => s.heap.get? l = some { cls := .type "list", dict := none, data := .seq items n, slots := #[] } ∧ s.heap.get? b = some { cls := .type "tuple", dict := dct, data := .seq items2 n2, slots := sl } ∧ R (.ok (.ret Value.none)) { s with heap := s.heap.update l (Obj.mapSeq fun x => x ++ items2), toks := s.toks }) :=
  .of_wp fun prog w A R s hq => by
    obtain ⟨hp, g, d, tk, os⟩ := s
    obtain ⟨hl, hb, hR⟩ := hq
    have f1 := idx_int
    have f2 := AutoSeq1.sub_tuple_tuple
    have f3 := AutoSeq1.sub_list_list
    have f4 := AutoSeq1.sub_tuple_list
    have f5 := AutoSeq1.sub_list_tuple
    have hz' : (items ++ items2).size ≤ sizeLine + 1 := by
      rw [Array.size_append]
      exact hs2
    wp_walk using (wpAny_updateSeq hl rfl (hz := hs1) (_hz' := hz')), wpAny_loadPart' hl, wpAny_loadPart' hb
    exact ⟨_, rfl, hR⟩
def rExtT (K : Frg) : V → List V → Hp → VK → Prop := fun x vs H Q => ∃ l b xs zs, x = .ref l ∧ vs = [.ref b] ∧ H l = some (.lst xs) ∧ SqT K H b zs ∧ xs.length + zs.length ≤ sizeLine ∧ Q .non (upd H l (.lst (xs ++ zs)))
theorem mt_extT {X : Cx} : MtM X "list.extend" (rExtT X.K) := by
  intro pins s σ H x vs v us Q I rx rv h
  obtain ⟨l, b, xs, zs, rfl, rfl, hH, hB, hz, q⟩ := h
  cases rx
  obtain ⟨u, rfl, ru⟩ := rv.one
  cases ru
  obtain ⟨z, its, n, r, hl, e⟩ := I.lstM hH
  obtain ⟨its2, r2, ⟨o2, e2, c2, n2, d2⟩, hl2⟩ := I.tuple hB
  have len1 := r.length
  have len2 := r2.length
  have hsz : its.toArray.size + its2.toArray.size ≤ sizeLine := by rw [List.size_toArray, List.size_toArray]; omega
  have hlong : ¬ (!its.toArray.isEmpty && Builtin.List.listTooLong (its.toArray.size + its2.toArray.size)) = true := by
    rw [notLongL hsz, Bool.and_false]
    exact Bool.false_ne_true
  obtain ⟨oc, od, odt, osl⟩ := o2
  have c3 : oc = .type "tuple" := c2
  have d3 : odt = .seq its2.toArray n2 := d2
  subst c3 d3
  refine call_meets F.slot_list_extend ⟨_, e, rfl⟩ F.entry_list_extend (F.args_list_extend_2 _ _)
    (meets_ext_tup l its.toArray n b its2.toArray n2 od osl hlong (by rw [List.size_toArray]; omega) (by omega)) ⟨e, e2, ?_⟩
  refine ⟨.non, _, I.lset (its' := its ++ its2) hH e (by simp) (r.append r2) ?_, rfl, q⟩
  rw [List.length_append]
  omega
section
variable {K : Frg} {C : Ct} {ρ : List Sl} {μ : List Ce} {n : Nat}
theorem sv_extT {te : TE} {i k : Nat} {ds : List PyData} {Ψ : Out → Prop} (hi : ρ[i]? = some (.ce k)) (hm : μ[k]? = some (.ls ds)) (h : Ev K C te ρ μ n fun d n' => ∃ es, d = .tuple es ∧ ds.length + es.length ≤ 1000000 ∧ Ψ (.nx ρ (μ.set k (.ls (ds ++ es))) n')) :
    Sv K C (tDrop (tBM K "list" (rExtT K) (tVar i) (tCons te tNil))) ρ μ n Ψ := fun ads σ B H D r a e => by
  obtain ⟨o, e1, p, e2, e3⟩ := pr_get r.sl hi
  subst e3
  obtain ⟨p', e4, c1, c2, vs, c3, c4⟩ := pr_get r.ce hm
  rw [e2] at e4
  cases e4
  refine ⟨_, e1, .inl ⟨rfl, _, .inl (.inl c3)⟩, h ads σ B H _ r fun v d B' H' n' e' r' pd ⟨es, ed, hl, f⟩ => ?_⟩
  subst ed
  obtain ⟨p'', e5, c1', c2', vs', c3', c4'⟩ := pr_get r'.ce hm
  rw [e2] at e5
  cases e5
  obtain ⟨b, ws, rfl, hb, hw⟩ := dp_tup pd
  refine ⟨p, b, vs', ws, rfl, rfl, c3', ttr (r'.sub _ _ hb), ?_, a.nx _ _ _ _ _ _ _ e' (r'.put e2 hm (dps_app c4' hw)) f⟩
  rw [dps_len c4', dps_len hw, sizeLine_eq]
  omega
end
section
variable {X : Cx} {C : Ct} {ρ : List Sl} {μ : List Ce} {n : Nat} {a b c e : Expr} {pos p : Pos} {Λ : List PyData → Nat → Prop} {Ψ : Out → Prop} {Θ : Bool → Nat → Prop} {x y : Str}
/-- x.extend(e), e a tuple -/
theorem sx_extT (i k : Nat) {ds : List PyData} {p1 p2 pos2 : Pos} (hi : ρ[i]? = some (.ce k)) (hm : μ[k]? = some (.ls ds)) (h : EX X C e ρ μ n fun d n' => ∃ es, d = .tuple es ∧ ds.length + es.length ≤ 1000000 ∧ Ψ (.nx ρ (μ.set k (.ls (ds ++ es))) n')) (hN : X.N[i]? = some x := by rfl) (hv : Vis X.env.scope x := by first | exact Or.inl rfl | exact Or.inr (Or.inl rfl) | exact Or.inr (Or.inr rfl))
    (hd : (x == ("__debug__" : Str)) = false := by decide) (hcd : (x == ("__classdict__" : Str)) = false := by decide) (hbase : attributeBase (.Name x p1) "extend" X.env (eval (.Name x p1) X.env) = eval (.Name x p1) X.env := by rfl)
    (hfew : ((backTo pos (starEach (e :: []) X.env)).all (fun x => !x.1) && (backToKw pos (keywordEach [] X.env)).all (fun x => x.1.isSome) && decide ((e :: []).length + ([] : List Keyword).length + (if ([] : List Keyword).isEmpty then 0 else 1) < 30)) = true := by rfl)
    (hline : (p2.endLine == pos.line) = true := by rfl) (hs : starEach (e :: []) X.env = (false, eval e X.env) :: starEach [] X.env := by rfl) (hplain : (backTo pos (starEach [] X.env)).any (·.1) = false := by rfl) (hsw : swapsWith (.Call (.Attribute (.Name x p1) "extend" p2) [e] [] pos) none pos2.line X.env = pure false := by rfl) :
    SX X C (.Expr (.Call (.Attribute (.Name x p1) "extend" p2) [e] [] pos) pos2) ρ μ n Ψ :=
  sx_of (ps_expr (pe_bm PySem.F.plainAttrs_list PySem.F.slot_list_extend PySem.F.type_list_extend mt_extT (pe_var hN hv hd hcd) (pa_cons pe_can pa_nil hs) hbase hfew hline hs hplain) hsw) (sv_extT hi hm h)
/-- x is not None, x a list of one's own -/
theorem et_notNc (i k : Nat) {kk : Nat} {p1 p2 : Pos} (h : ρ[i]? = some (.ce k)) (f : Θ true n) (hN : X.N[i]? = some x := by rfl) (hv : Vis X.env.scope x := by first | exact Or.inl rfl | exact Or.inr (Or.inl rfl) | exact Or.inr (Or.inr rfl))
    (hd : (x == ("__debug__" : Str)) = false := by decide) (hcd : (x == ("__classdict__" : Str)) = false := by decide) : ET X C (.Compare (.Name x p1) [.IsNot] [.Constant .none kk p2] pos) ρ μ n Θ :=
  et_of (pt_cmpR op_notN (pe_var hN hv hd hcd) pe_can (nomark _)) fun ads σ B H Q r q => by
    obtain ⟨o, e1, pp, e2, e3⟩ := pr_get r.sl h
    subst e3
    refine ⟨_, e1, (ex_n (Φ := fun d n2 => d = .none ∧ n2 = n) ⟨rfl, rfl⟩ : EX X C (.Constant .none kk p2) ρ μ n _) ads σ B H _ r fun v d B' H' n' e' r' p' ⟨ed, en⟩ => ?_⟩
    subst ed en
    exact ⟨dp_non p', true, rfl, q true B' H' n' e' r' f⟩
end
end Pb

set_option Elab.async false
set_option linter.all false
set_option maxRecDepth 100000
set_option maxHeartbeats 4000000
/-! PbN: the program's defs: framing. -/
namespace Pb
open PySem PySem.Spec PyProof.Rows L2
section
variable {Φ : PyData → Nat → Prop} {Ω : Nat → (Nat → PyData) → Nat → Prop} {n : Nat} {ds es : List PyData}
theorem len_t (h : Φ (.int ds.length) n) : PLen Φ n (.tuple ds) := h
theorem len_l (h : Φ (.int ds.length) n) : PLen Φ n (.list ds) := h
theorem tup_t (h : Φ (.tuple ds) n) : PTup Φ n (.tuple ds) := h
theorem tup_l (h : Φ (.tuple ds) n) : PTup Φ n (.list ds) := h
end
def strm (b : Int) (ss : List Int) : List Int := (ss.flatMap fun s => (b - 1) :: row (b - 1) s) ++ [b - 1]
def streamF (b st : PyData) : Ou := if isB3 b then if isNums st then .ok (itup (strm (toI b) (toL st))) else use "stacks" else use "base"
/-- what stands open, what lies ahead -/
def frmG (b : Int) : Option (List Int) → List Int → List Int
  | _, [] => []
  | none, d :: ds => if d = b - 1 then frmG b (some []) ds else frmG b none ds
  | some body, d :: ds => if d = b - 1 then stk (b - 1) 0 body :: frmG b (some []) ds else frmG b (some (body ++ [d])) ds
def frm (b : Int) (ds : List Int) : List Int := frmG b none ds
def framesF (b st : PyData) : Ou := if isB3 b then if isDig (toI b) st then .ok (.list ((frm (toI b) (toL st)).map .int)) else use "scrap" else use "base"
def posn (b : Int) (ds : List Int) : List Int := ((List.range ds.length).filter fun i => decide (ds.getD i 0 = b - 1)).map fun (i : Nat) => (i : Int)
def startsF (b st : PyData) : Ou := if isB3 b then if fitsF (toI b) st then .ok (itup (posn (toI b) (toL st))) else use "stream" else use "base"
def shl (st : List Int) (L : Int) (m : Int) : Int := (List.range ((st.length : Int) - m).toNat).foldl (fun best (f : Nat) => lesI best (lossI st f (f + m - 1))) L
def manyOk (st : List Int) : PyData → Bool
  | .int m => decide (0 < m) && decide (m < st.length)
  | _ => false
def shortF (b st m : PyData) : Ou := if isB3 b then if fitsF (toI b) st then if manyOk (posn (toI b) (toL st)) m then .ok (.int (shl (posn (toI b) (toL st)) (toL st).length (toI m))) else use "many" else use "stream" else use "base"
theorem ou_starts {b st : PyData} {i : Nat} {ρ : List Sl} {μ : List Ce} {n : Nat} {Ψ : Out → Prop} (h1 : isB3 b = true → fitsF (toI b) st = true → Ψ (.nx (ρ.set i (.im (itup (posn (toI b) (toL st))))) μ n)) (h2 : isB3 b = false → Ψ (.er (.use "base" (-1)) n))
    (h3 : isB3 b = true → fitsF (toI b) st = false → Ψ (.er (.use "stream" (-1)) n)) : ouA i ρ μ Ψ (startsF b st) n := by
  unfold startsF
  split
  · rename_i h
    split
    · rename_i h'
      exact h1 h h'
    · rename_i h'
      exact h3 h (by simpa using h')
  · rename_i h
    exact h2 (by simpa using h)
theorem fitsF_dig {b : Int} {d : PyData} (h : fitsF b d = true) : isDig b d = true := by
  cases d with
  | tuple ds =>
    simp only [fitsF, Bool.and_eq_true] at h
    exact h.1.1.1
  | _ => cases h
def preStr := pf2 (fun b st => Sm st ∧ (strm (toI b) (toL st)).length ≤ 100000) streamF
def preFrm := pf2 (fun b st => Sm st) framesF
def preSts := pf2 (fun b st => Sm st) startsF
def preSho := pf3 (fun b st m => Sm st) shortF
theorem posn_len (b : Int) (ds : List Int) : (posn b ds).length ≤ ds.length := by
  unfold posn
  rw [List.length_map]
  exact Nat.le_trans (List.length_filter_le _ _) (by simp)
section
variable {X : Cx} {C : Ct} {ρ : List Sl} {μ : List Ce} {n : Nat} {a : Expr} {pos : Pos} {Θ : Bool → Nat → Prop}
theorem et_notN0 {k : Nat} {p2 : Pos} (h : EX X C a ρ μ n fun d n' => d = .none ∧ Θ false n') : ET X C (.Compare a [.IsNot] [.Constant .none k p2] pos) ρ μ n Θ := et_notN (h.imp fun d n' ⟨e, f⟩ => by
  subst e
  exact f)
end
local macro_rules | `(tactic| walk_at "pb v") => `(tactic| first
  | refine ex_v 0 rfl ?_ | refine ex_v 1 rfl ?_ | refine ex_v 2 rfl ?_ | refine ex_v 3 rfl ?_ | refine ex_v 4 rfl ?_ | refine ex_v 5 rfl ?_ | refine ex_v 6 rfl ?_ | refine ex_v 7 rfl ?_
  | refine ex_v 8 rfl ?_ | refine ex_v 9 rfl ?_ | refine ex_v 10 rfl ?_ | refine ex_v 11 rfl ?_ | refine ex_v 12 rfl ?_ | refine ex_v 13 rfl ?_ | refine ex_v 14 rfl ?_)
local macro_rules | `(tactic| walk_at "pb x") => `(tactic| first
  | refine ex_i ?_ | ((with_reducible show EX _ _ (Expr.Name _ _) _ _ _ _); walk_at "pb v") | refine ex_addJ ?_ | refine ex_sub ?_ | refine ex_s ?_ | refine ex_n ?_ | refine ex_b ?_ | refine ex_neg ?_
  | refine ex_mulJ ?_ | refine ex_mod ?_ | refine ex_div ?_ | refine ex_pow ?_ | refine ex_lt ?_ | refine ex_eq ?_ | refine ex_ne ?_ | refine ex_gt ?_ | refine ex_ge ?_ | refine ex_ixJ ?_
  | refine ex_and ?_ | refine ex_or ?_ | refine ex_one ?_ | refine ex_not ?_ | refine ex_ite ?_ | refine ex_isInt ‹_› ?_ | refine ex_isBool ‹_› ?_ | refine ex_isTup ‹_› ?_)
local macro_rules | `(tactic| walk_at "pb t") => `(tactic| first
  | refine et_lt ?_ | refine et_eq ?_ | refine et_ne ?_ | refine et_le ?_ | refine et_gt ?_ | refine et_ge ?_ | refine et_nt ?_ | refine et_w (ew_and ?_) | refine et_w (ew_or ?_) | refine et_v ?_)
local macro_rules | `(tactic| walk_at "pb e") => `(tactic| first
  | ((with_reducible show EX _ _ _ _ _ _ _); walk_at "pb x")
  | with_reducible refine xi2 ?_ | with_reducible refine xi ?_ | with_reducible refine xb ?_ | with_reducible refine xsi ?_ | with_reducible refine xl ?_ | with_reducible refine xt ?_
  | with_reducible refine ifT ?_ | with_reducible refine ifF ?_ | with_reducible refine add_int ?_ | with_reducible refine ix_l ?_
  | with_reducible refine len_t ?_ | with_reducible refine len_l ?_ | with_reducible refine tup_t ?_ | with_reducible refine tup_l ?_
  | with_reducible refine nx_nxt ?_ | with_reducible refine rt_nxt ?_ | with_reducible refine er_nxt ?_ | with_reducible refine bk_nxt ?_ | with_reducible refine ct_nxt ?_ | with_reducible refine fin_rt ?_ | with_reducible refine fin_nx ?_ | with_reducible refine fin_er ?_ 
  | with_reducible refine nx_lp ?_ | with_reducible refine bk_lp ?_ | with_reducible refine ct_lp ?_ | with_reducible refine rt_lp ?_ | with_reducible refine er_lp ?_ | with_reducible refine okp_ok ?_
  | ((with_reducible show ET _ _ _ _ _ _ _); walk_at "pb t")
  | ((with_reducible show EW _ _ _ _ _ _ _); first | refine ew_and ?_ | refine ew_or ?_ | refine ew_and1 ?_ | refine ew_or1 ?_)
  | ((with_reducible show SB _ _ _ _ _ _ _); first | refine sb_cons ?_ | refine sb_nil ?_)
  | ((with_reducible show SX _ _ _ _ _ _ _); first | refine sx_ret ?_ | refine sx_if ?_)
  | ((with_reducible show EA _ _ _ _ _ _ _); first | refine ea_c ?_ | refine ea_0 ?_))
local macro_rules | `(tactic| walk_at "pb") => `(tactic| repeat walk_at "pb e")
section
variable {P : Program} {w : World} {K : Frg} {mg : Str → Option Value} {base : Heap} {f : Addr} {fd : FuncData} {T : List (Addr × Str)} {k : Nat}
theorem sc28 : FnScope ["base", "stream", "k", "digit"] ["base", "stream"] (defScope (top 28)) := ⟨rfl, rfl, rfl, by decide +kernel, rfl, by decide +kernel, by decide +kernel⟩
theorem g_starts_of (F : FnT K "starts_of" 28 f fd) (b : Blt mg) (kb : Kn P w K mg base T k "want_base" ["base"] (pf1 (fun _ => True) want3)) (kw : Kn P w K mg base T k "a_want" ["good", "word"] wantP) (kf : Kn P w K mg base T k "fits_framed" ["base", "thing"] preFitF) :
    FnOk P w K mg base (L2.CX P w) (k + 1) f fd ["base", "stream"] (prom K T preSts) := by
  refine fn_pb F sc28 (fun as n Φ h => pf2_len h) fun cdv A outer s H E fa B as n Φ hr hp => ?_
  obtain ⟨bs, st, rfl, hs, h⟩ := hp
  unfold startsF at h
  walk_at "pb"
  refine sx_call kb hr rfl ?_
  walk_at "pb"
  refine ⟨bs, rfl, trivial, ou_want3 (fun h1 => ?_) (fun h1 => ?_)⟩
  case refine_2 =>
    rw [if_neg (by rw [h1]; exact Bool.false_ne_true)] at h
    walk_at "pb"
    exact h
  rw [if_pos h1] at h
  obtain ⟨b', rfl, hb1, hb2⟩ := b3_ex h1
  walk_at "pb"
  refine sx_want kw hr rfl (ex_call kf hr rfl ?_)
  walk_at "pb"
  refine ⟨b', st, rfl, by omega, by omega, hs, ?_⟩
  walk_at "pb"
  refine ifb (fun h2 => ?_) (fun h2 => ?_)
  case refine_2 =>
    rw [if_neg (by show ¬ fitsF b' st = true; rw [h2]; exact Bool.false_ne_true)] at h
    walk_at "pb"
    exact h
  rw [if_pos (show fitsF (toI (.int b')) st = true from h2)] at h
  obtain ⟨ns, rfl, hns, en⟩ := dig_ex (fitsF_dig h2)
  rw [en] at h
  walk_at "pb"
  have hl : ns.length ≤ 100000 := by rw [Sm, List.length_map] at hs; exact hs
  refine ex_tupJ b.tuple (ex_l (el_lcP2 2 3 rfl sc28.nd (wx_ent b.enumerate ?_)))
  walk_at "pb"
  rw [List.length_map]
  have e : ∀ i, i < ns.length → (ns.map PyData.int).getD i .none = .int (ns.getD i 0) := fun i hi => by
    rw [List.getD_eq_getElem?_getD, List.getD_eq_getElem?_getD, List.getElem?_map, List.getElem?_eq_getElem hi]
    rfl
  refine ⟨by omega, fun i => .int i, fun i => (ns.map PyData.int).getD i .none, fun i => decide (ns.getD i 0 = b' - 1), fun i => .int i, fun _ _ => rfl, fun i acc hi => btx1 fun s0 H0 C' cl fp => ?_, fun i acc hi _ => bex fun s0 H0 C' cl fp => ?_, ?_⟩
  · dsimp only
    rw [e i hi]
    walk_at "pb"
    exact ⟨rfl, rfl⟩
  · walk_at "pb"
    exact ⟨rfl, rfl⟩
  · show PTup _ _ _
    walk_at "pb"
    have : itup (posn (toI (.int b')) ns) = .tuple (((List.range ns.length).filter fun i => decide (ns.getD i 0 = b' - 1)).map fun (i : Nat) => .int i) := by
      unfold itup posn
      rw [List.map_map]
      rfl
    rw [this] at h
    exact h
theorem sc29 : FnScope ["base", "stream", "many", "starts", "best", "first"] ["base", "stream", "many"] (defScope (top 29)) := ⟨rfl, rfl, rfl, by decide +kernel, rfl, by decide +kernel, by decide +kernel⟩
theorem g_shortest_loss (F : FnT K "shortest_loss" 29 f fd) (b : Blt mg) (ks : Kn P w K mg base T k "starts_of" ["base", "stream"] preSts) (kw : Kn P w K mg base T k "a_want" ["good", "word"] wantP) (kn : Kn P w K mg base T k "is_number" ["thing"] (pp1 fun d => .bool (isNum d)))
    (kl : Kn P w K mg base T k "lesser" ["one", "other"] preLes) (ko : Kn P w K mg base T k "loss_over" ["starts", "first", "last"] preLoss) :
    FnOk P w K mg base (L2.CX P w) (k + 1) f fd ["base", "stream", "many"] (prom K T preSho) := by
  refine fn_pb F sc29 (fun as n Φ h => pf3_len h) fun cdv A outer s H E fa B as n Φ hr hp => ?_
  obtain ⟨bs, st, m, rfl, hs, h⟩ := hp
  unfold shortF at h
  walk_at "pb e"
  refine sx_asgC 3 ks hr rfl sc29.nd ?_
  walk_at "pb"
  refine ⟨bs, st, rfl, hs, ou_starts (fun h1 h2 => ?_) (fun h1 => ?_) (fun h1 h2 => ?_)⟩
  case refine_2 =>
    rw [if_neg (by rw [h1]; exact Bool.false_ne_true)] at h
    walk_at "pb"
    exact h
  case refine_3 =>
    rw [if_pos h1, if_neg (by rw [h2]; exact Bool.false_ne_true)] at h
    walk_at "pb"
    exact h
  rw [if_pos h1, if_pos h2] at h
  obtain ⟨b', rfl, hb1, hb2⟩ := b3_ex h1
  obtain ⟨ns, rfl, hns, en⟩ := dig_ex (fitsF_dig h2)
  rw [en] at h ⊢
  have hl : ns.length ≤ 100000 := by rw [Sm, List.length_map] at hs; exact hs
  have hpl := posn_len (toI (.int b')) ns
  generalize posn (toI (.int b')) ns = sts at h hpl ⊢
  have hst : ((sts.map PyData.int).length : Int) = sts.length := by rw [List.length_map]
  unfold itup
  walk_at "pb"
  refine sx_want kw hr rfl ?_
  walk_at "pb"
  refine ex_call1 kn hr rfl ?_
  walk_at "pb"
  refine ifb (fun h3 => ?_) (fun h3 => ?_)
  case refine_2 =>
    have : manyOk sts m = false := by cases m <;> first | rfl | (simp only [isNum, decide_eq_false_iff_not] at h3; simp only [manyOk, Bool.and_eq_false_iff, decide_eq_false_iff_not]; omega)
    rw [if_neg (by rw [this]; exact Bool.false_ne_true)] at h
    walk_at "pb"
    exact h
  obtain ⟨m', rfl, hm0⟩ := isNum_ex h3
  walk_at "pb"
  refine ex_chain op_lt op_lt ?_
  walk_at "pb"
  refine ifd (fun h4 => ?_) (fun h4 => ?_)
  case refine_2 =>
    rw [if_neg (by simp only [manyOk, decide_eq_false h4, Bool.false_and]; exact Bool.false_ne_true)] at h
    walk_at "pb"
    exact h
  refine ex_lenJ b.len ?_
  walk_at "pb"
  walk_at "pb"
  rw [hst]
  refine ifd (fun h5 => ?_) (fun h5 => ?_)
  case refine_2 =>
    rw [if_neg (by simp only [manyOk, decide_eq_false h5, Bool.and_false]; exact Bool.false_ne_true)] at h
    walk_at "pb"
    exact h
  rw [if_pos (by simp only [manyOk, decide_eq_true h4, decide_eq_true h5, Bool.and_self])] at h
  walk_at "pb"
  refine sx_asg 4 sc29.nd (ex_lenJ b.len ?_)
  walk_at "pb"
  walk_at "pb"
  refine sx_for 5 rfl sc29.nd (wx_range1 b.range ?_)
  walk_at "pb"
  refine ex_lenJ b.len ?_
  walk_at "pb"
  walk_at "pb"
  rw [hst]
  refine ⟨by omega, by omega, ?_⟩
  refine ⟨fun i ρ' μ' n' => ∃ u, ρ' = [.im (.int b'), .im (.tuple (ns.map .int)), .im (.int m'), .im (.tuple (sts.map .int)), .im (.int ((List.range i).foldl (fun best (f : Nat) => lesI best (lossI sts f (f + m' - 1))) ns.length)), u] ∧ μ' = [] ∧ n' = n, ⟨.un, by rw [List.length_map]; rfl, rfl, rfl⟩, ?_, ?_⟩
  · rintro i _ _ _ hi ⟨u, rfl, rfl, rfl⟩
    walk_at "pb e"
    refine sx_asg 4 sc29.nd (ex_call kl hr rfl ?_)
    walk_at "pb"
    refine ex_call ko hr rfl ?_
    walk_at "pb"
    refine ⟨sts, i, _, rfl, by omega, by omega, by omega, ?_⟩
    walk_at "pb"
    refine ⟨_, _, rfl, ?_⟩
    walk_at "pb"
    refine ⟨.im (.int i), ?_, rfl, rfl⟩
    rw [List.range_succ, List.foldl_append]
    rfl
  · rintro _ _ _ ⟨u, rfl, rfl, rfl⟩
    walk_at "pb"
    exact h
theorem sc26 : FnScope ["base", "stacks", "stack", "digits"] ["base", "stacks"] (defScope (top 26)) := ⟨rfl, rfl, rfl, by decide +kernel, rfl, by decide +kernel, by decide +kernel⟩
theorem g_stream_of (F : FnT K "stream_of" 26 f fd) (b : Blt mg) (kb : Kn P w K mg base T k "want_base" ["base"] (pf1 (fun _ => True) want3)) (kw : Kn P w K mg base T k "a_want" ["good", "word"] wantP) (kn : Kn P w K mg base T k "is_number" ["thing"] (pp1 fun d => .bool (isNum d)))
    (kr : Kn P w K mg base T k "row_of" ["base", "stack"] preRow) :
    FnOk P w K mg base (L2.CX P w) (k + 1) f fd ["base", "stacks"] (prom K T preStr) := by
  refine fn_pb F sc26 (fun as n Φ h => pf2_len h) fun cdv A outer s H E fa B as n Φ hr hp => ?_
  obtain ⟨bs, st, rfl, ⟨hs, hl⟩, h⟩ := hp
  unfold streamF at h
  walk_at "pb"
  refine sx_call kb hr rfl ?_
  walk_at "pb"
  refine ⟨bs, rfl, trivial, ou_want3 (fun h1 => ?_) (fun h1 => ?_)⟩
  case refine_2 =>
    rw [if_neg (by rw [h1]; exact Bool.false_ne_true)] at h
    walk_at "pb"
    exact h
  rw [if_pos h1] at h
  obtain ⟨b', rfl, hb1, hb2⟩ := b3_ex h1
  walk_at "pb"
  refine sx_want kw hr rfl ?_
  walk_at "pb"
  cases st with
  | tuple ds =>
    have hs' : ds.length ≤ 100000 := hs
    refine ifT ?_
    walk_at "pb"
    refine sx_for 2 rfl sc26.nd (wx_tup ?_)
    walk_at "pb"
    refine ⟨fun i ρ' μ' n' => ∃ u, ρ' = [.im (.int b'), .im (.tuple ds), u, .un] ∧ μ' = [] ∧ n' = n ∧ (ds.take i).all isNum = true, ⟨.un, rfl, rfl, rfl, rfl⟩, ?_, ?_⟩
    · rintro i _ _ _ hi ⟨u, rfl, rfl, rfl, ha⟩
      have e : ds.getD i .none = ds[i] := by rw [List.getD_eq_getElem?_getD, List.getElem?_eq_getElem hi]; rfl
      dsimp only
      rw [e]
      walk_at "pb"
      refine sx_want kw hr rfl (ex_call1 kn hr rfl ?_)
      walk_at "pb"
      refine ifb (fun h2 => ?_) (fun h2 => ?_)
      · walk_at "pb"
        refine ⟨.im ds[i], rfl, rfl, rfl, ?_⟩
        rw [List.take_succ_eq_append_getElem hi, List.all_append, ha, List.all_cons, h2]
        rfl
      · have : isNums (.tuple ds) = false := by
          unfold isNums
          rw [List.all_eq_false]
          exact ⟨ds[i], List.getElem_mem hi, by rw [h2]; exact Bool.false_ne_true⟩
        rw [if_neg (by rw [this]; exact Bool.false_ne_true)] at h
        walk_at "pb"
        exact h
    · rintro _ _ n2 ⟨u, rfl, rfl, rfl, ha⟩
      rw [List.take_length] at ha
      rw [if_pos (show isNums (.tuple ds) = true from ha)] at h
      have hm := nums_map ha
      have hpos : ∀ x ∈ ds.map toI, 0 ≤ x := fun x hx => by
        obtain ⟨y, hy, rfl⟩ := List.mem_map.mp hx
        obtain ⟨i, rfl, h0⟩ := isNum_ex (List.all_eq_true.mp ha y hy)
        exact h0
      have hL : toL (.tuple ds) = ds.map toI := rfl
      rw [hL] at h hl
      generalize ds.map toI = ss at hm h hl hpos
      subst hm
      rw [List.length_map] at hs'
      walk_at "pb e"
      walk_at "pb e"
      refine sx_asgL 3 sc26.nd (el_ls ?_)
      walk_at "pb"
      refine ⟨[], rfl, by decide, ?_⟩
      walk_at "pb"
      refine sx_for 2 rfl sc26.nd (wx_tup ?_)
      walk_at "pb"
      refine ⟨fun i ρ' μ' n' => ∃ u, ρ' = [.im (.int b'), .im (.tuple (ss.map .int)), u, .ce 0] ∧ μ' = [.ls (((ss.take i).flatMap fun s => (b' - 1) :: row (b' - 1) s).map .int)] ∧ n' = n2, ⟨_, rfl, rfl, rfl⟩, ?_, ?_⟩
      · rintro i _ _ _ hi ⟨u, rfl, rfl, rfl⟩
        rw [List.length_map] at hi
        have e : (ss.map PyData.int).getD i .none = .int ss[i] := by rw [List.getD_eq_getElem?_getD, List.getElem?_map, List.getElem?_eq_getElem hi]; rfl
        dsimp only
        rw [e]
        have hsum : ((ss.take (i + 1)).flatMap fun s => (b' - 1) :: row (b' - 1) s).length ≤ 100000 := by
          have h1 : strm b' ss = ((ss.take (i + 1)).flatMap fun s => (b' - 1) :: row (b' - 1) s) ++ (((ss.drop (i + 1)).flatMap fun s => (b' - 1) :: row (b' - 1) s) ++ [b' - 1]) := by
            unfold strm
            rw [← List.append_assoc, ← List.flatMap_append, List.take_append_drop]
          have h2 : (strm b' ss).length ≤ 100000 := hl
          rw [h1, List.length_append] at h2
          omega
        have hstep : ((ss.take (i + 1)).flatMap fun s => (b' - 1) :: row (b' - 1) s) = ((ss.take i).flatMap fun s => (b' - 1) :: row (b' - 1) s) ++ [b' - 1] ++ row (b' - 1) ss[i] := by
          rw [List.take_succ_eq_append_getElem hi, List.flatMap_append]
          simp
        rw [hstep, List.length_append, List.length_append, List.length_singleton] at hsum
        walk_at "pb"
        refine sx_app 3 0 rfl rfl (by rw [List.length_map]; omega) ?_
        walk_at "pb"
        refine sx_extT 3 0 rfl rfl (ex_call kr hr rfl ?_)
        walk_at "pb"
        refine ⟨b' - 1, ss[i], rfl, by omega, by omega, hpos _ (List.getElem_mem hi), by omega, ?_⟩
        unfold itup
        walk_at "pb"
        refine ⟨by rw [List.length_append, List.length_map, List.length_map, List.length_singleton]; omega, ?_⟩
        walk_at "pb"
        refine ⟨_, rfl, ?_, rfl⟩
        rw [hstep, List.map_append, List.map_append]
        rfl
      · rintro _ _ _ ⟨u, rfl, rfl, rfl⟩
        rw [List.length_map, List.take_length]
        walk_at "pb e"
        refine sv_frz 3 0 rfl rfl ?_
        walk_at "pb"
        refine ex_tupJ b.tuple ?_
        walk_at "pb"
        refine ex_l (el_ls ?_)
        walk_at "pb"
        refine ⟨[.int (b' - 1)], rfl, by simp, ?_⟩
        have h2 : (strm b' ss).length ≤ 100000 := hl
        unfold strm at h2
        rw [List.length_append, List.length_singleton] at h2
        refine add_lst (by rw [List.length_map, List.length_singleton]; omega) ?_
        walk_at "pb"
        have : itup (strm (toI (.int b')) ss) = .tuple (((ss.flatMap fun s => (b' - 1) :: row (b' - 1) s).map .int) ++ [.int (b' - 1)]) := by
          unfold itup strm
          rw [List.map_append]
          rfl
        rw [this] at h
        exact h
  | _ =>
    refine ifF ?_
    rw [if_neg (by exact Bool.false_ne_true)] at h
    walk_at "pb"
    exact h
theorem sc27 : FnScope ["base", "scrap", "found", "body", "digit"] ["base", "scrap"] (defScope (top 27)) := ⟨rfl, rfl, rfl, by decide +kernel, rfl, by decide +kernel, by decide +kernel⟩
theorem g_frames_in (F : FnT K "frames_in" 27 f fd) (b : Blt mg) (kb : Kn P w K mg base T k "want_base" ["base"] (pf1 (fun _ => True) want3)) (kw : Kn P w K mg base T k "a_want" ["good", "word"] wantP) (kd : Kn P w K mg base T k "is_digits" ["base", "thing"] preDig)
    (ks : Kn P w K mg base T k "stack_of" ["base", "digits"] preStk) :
    FnOk P w K mg base (L2.CX P w) (k + 1) f fd ["base", "scrap"] (prom K T preFrm) := by
  refine fn_pb F sc27 (fun as n Φ h => pf2_len h) fun cdv A outer s H E fa B as n Φ hr hp => ?_
  obtain ⟨bs, st, rfl, hs, h⟩ := hp
  unfold framesF at h
  walk_at "pb"
  refine sx_call kb hr rfl ?_
  walk_at "pb"
  refine ⟨bs, rfl, trivial, ou_want3 (fun h1 => ?_) (fun h1 => ?_)⟩
  case refine_2 =>
    rw [if_neg (by rw [h1]; exact Bool.false_ne_true)] at h
    walk_at "pb"
    exact h
  rw [if_pos h1] at h
  obtain ⟨b', rfl, hb1, hb2⟩ := b3_ex h1
  walk_at "pb"
  refine sx_want kw hr rfl (ex_call kd hr rfl ?_)
  walk_at "pb"
  refine ⟨b', st, rfl, by omega, by omega, hs, ?_⟩
  walk_at "pb"
  refine ifb (fun h2 => ?_) (fun h2 => ?_)
  case refine_2 =>
    rw [if_neg (by show ¬ isDig b' st = true; rw [h2]; exact Bool.false_ne_true)] at h
    walk_at "pb"
    exact h
  rw [if_pos (show isDig (toI (.int b')) st = true from h2)] at h
  obtain ⟨ns, rfl, hns, en⟩ := dig_ex h2
  rw [en] at h
  have h' : Φ (.ok (.list ((frmG b' none ns).map .int))) n := h
  have hl : ns.length ≤ 100000 := by rw [Sm, List.length_map] at hs; exact hs
  walk_at "pb"
  refine sx_asgL 2 sc27.nd (el_ls ?_)
  walk_at "pb"
  refine ⟨[], rfl, by decide, ?_⟩
  walk_at "pb"
  refine sx_asg 3 sc27.nd ?_
  walk_at "pb"
  refine sx_for 4 rfl sc27.nd (wx_tup ?_)
  walk_at "pb"
  refine ⟨fun i ρ' μ' n' => ∃ (u sb : Sl) (ob : Option (List Int)) (fo : List Int), ρ' = [.im (.int b'), .im (.tuple (ns.map .int)), .ce 0, sb, u] ∧ μ'[0]? = some (.ls (fo.map .int)) ∧ n' = n ∧ fo.length ≤ i ∧ fo ++ frmG b' ob (ns.drop i) = frmG b' none ns ∧
    ((ob = none ∧ sb = .im .none) ∨ ∃ (bd : List Int) (kk : Nat), ob = some bd ∧ sb = .ce kk ∧ kk ≠ 0 ∧ μ'[kk]? = some (.ls (bd.map .int)) ∧ bd.length ≤ i ∧ ∀ x ∈ bd, 0 ≤ x ∧ x < b' - 1), ⟨.un, .im .none, none, [], rfl, rfl, rfl, Nat.le_refl _, rfl, .inl ⟨rfl, rfl⟩⟩, ?_, ?_⟩
  · rintro i _ μ' n2 hi ⟨u, sb, ob, fo, rfl, hm0, rfl, hfo, hfr, hob⟩
    rw [List.length_map] at hi
    have e : (ns.map PyData.int).getD i .none = .int ns[i] := by rw [List.getD_eq_getElem?_getD, List.getElem?_map, List.getElem?_eq_getElem hi]; rfl
    have hd : ns.drop i = ns[i] :: ns.drop (i + 1) := List.drop_eq_getElem_cons hi
    have hni := hns _ (List.getElem_mem hi)
    rw [hd] at hfr
    dsimp only
    rw [e]
    walk_at "pb"
    have hlt0 : 0 < μ'.length := (List.getElem?_eq_some_iff.mp hm0).1
    refine ifd (fun h3 => ?_) (fun h3 => ?_)
    · rcases hob with ⟨rfl, rfl⟩ | ⟨bd, kk, rfl, rfl, hk0, hmk, hbl, hbx⟩
      · walk_at "pb e"
        walk_at "pb e"
        refine et_notN0 ?_
        walk_at "pb"
        refine ⟨rfl, ?_⟩
        walk_at "pb"
        refine sx_asgL 3 sc27.nd (el_ls ?_)
        walk_at "pb"
        refine ⟨[], rfl, by decide, ?_⟩
        walk_at "pb"
        refine ⟨.im (.int ns[i]), .ce μ'.length, some [], fo, rfl, ?_, rfl, by omega, ?_, .inr ⟨[], μ'.length, rfl, rfl, by omega, by simp, by simp, by simp⟩⟩
        · rw [List.getElem?_append_left hlt0]
          exact hm0
        · rw [← hfr, frmG, if_pos h3]
      · walk_at "pb e"
        walk_at "pb e"
        refine et_notNc 3 kk rfl ?_
        refine ifT ?_
        refine sv_frz 3 kk rfl hmk ?_
        walk_at "pb e"
        have hm1 : (μ'.set kk .no)[0]? = some (.ls (fo.map .int)) := by
          rw [List.getElem?_set_ne hk0]
          exact hm0
        refine sx_app 2 0 rfl hm1 (by rw [List.length_map]; omega) ?_
        refine ex_call ks hr rfl ?_
        walk_at "pb"
        refine ex_tupJ b.tuple ?_
        walk_at "pb"
        refine ⟨b' - 1, bd, rfl, by omega, by omega, hbx, by omega, ?_⟩
        walk_at "pb"
        refine sx_asgL 3 sc27.nd (el_ls ?_)
        walk_at "pb"
        refine ⟨[], rfl, by decide, ?_⟩
        walk_at "pb"
        have hlen : ((μ'.set kk Ce.no).set 0 (Ce.ls (fo.map PyData.int ++ [PyData.int (stk (b' - 1) 0 bd)]))).length = μ'.length := by simp
        refine ⟨.im (.int ns[i]), .ce _, some [], fo ++ [stk (b' - 1) 0 bd], rfl, ?_, rfl, by rw [List.length_append, List.length_singleton]; omega, ?_, .inr ⟨[], _, rfl, rfl, ?_, ?_, by simp, by simp⟩⟩
        · rw [List.getElem?_append_left (by rw [hlen]; exact hlt0), List.getElem?_set_self (by simpa using hlt0), List.map_append]
          rfl
        · rw [← hfr, frmG, if_pos h3, List.append_assoc]
          rfl
        · rw [hlen]
          omega
        · simp
    · rcases hob with ⟨rfl, rfl⟩ | ⟨bd, kk, rfl, rfl, hk0, hmk, hbl, hbx⟩
      · walk_at "pb e"
        walk_at "pb e"
        refine et_notN0 ?_
        walk_at "pb"
        refine ⟨rfl, ?_⟩
        walk_at "pb"
        refine ⟨.im (.int ns[i]), .im .none, none, fo, rfl, hm0, rfl, by omega, ?_, .inl ⟨rfl, rfl⟩⟩
        rw [← hfr, frmG, if_neg h3]
      · walk_at "pb e"
        walk_at "pb e"
        refine et_notNc 3 kk rfl ?_
        refine ifT ?_
        walk_at "pb e"
        refine sx_app 3 kk rfl hmk (by rw [List.length_map]; omega) ?_
        walk_at "pb"
        refine ⟨.im (.int ns[i]), .ce kk, some (bd ++ [ns[i]]), fo, rfl, ?_, rfl, by omega, ?_, .inr ⟨bd ++ [ns[i]], kk, rfl, rfl, hk0, ?_, by rw [List.length_append, List.length_singleton]; omega, ?_⟩⟩
        · rw [List.getElem?_set_ne hk0]
          exact hm0
        · rw [← hfr, frmG, if_neg h3]
        · rw [List.getElem?_set_self (List.getElem?_eq_some_iff.mp hmk).1, List.map_append]
          rfl
        · intro x hx
          rcases List.mem_append.mp hx with hx | hx
          · exact hbx x hx
          · rw [List.mem_singleton.mp hx]
            omega
  · rintro _ μ' _ ⟨u, sb, ob, fo, rfl, hm0, rfl, hfo, hfr, hob⟩
    rw [List.length_map, List.drop_length] at hfr
    have hfo' : fo = frmG b' none ns := by
      rw [← hfr]
      cases ob <;> simp [frmG]
    walk_at "pb e"
    refine sv_frz 2 0 rfl hm0 ?_
    walk_at "pb"
    rw [hfo']
    exact h'
end
end Pb

set_option Elab.async false
set_option linter.all false
set_option maxRecDepth 100000
set_option maxHeartbeats 4000000
/-! PbO: the feed; pairs of names; data's comparison. -/
namespace Pb
open PySem PySem.Spec PyProof.Rows L2
section
variable {K : Frg} {C : Ct} {ρ : List Sl} {μ : List Ce} {n : Nat}
def kC : Key := .inr "cells"
def kN : Key := .inr "next"
def kL : Key := .inr "left"
def kD : Key := .inr "drawn"
theorem val_C {c : Addr} {i l k : Int} : valV (fkv c i l k) kC = some (.ref c) := valV_pos rfl
theorem val_N {c : Addr} {i l k : Int} : valV (fkv c i l k) kN = some (.int i) := by rfl
theorem val_L {c : Addr} {i l k : Int} : valV (fkv c i l k) kL = some (.int l) := by rfl
theorem val_D {c : Addr} {i l k : Int} : valV (fkv c i l k) kD = some (.int k) := by rfl
theorem put_N {c : Addr} {i l k j : Int} : putK (fkv c i l k) kN (.int j) = fkv c j l k := by rfl
theorem put_L {c : Addr} {i l k j : Int} : putK (fkv c i l k) kL (.int j) = fkv c i j k := by rfl
theorem put_D {c : Addr} {i l k j : Int} : putK (fkv c i l k) kD (.int j) = fkv c i l j := by rfl
def FB (n : Nat) (ns : List Int) (i l k : Int) : Prop := ns.length ≤ 63 ∧ (∀ z ∈ ns, z.natAbs < 2 ^ 1048576) ∧ 0 ≤ i ∧ i ≤ (n : Int) ∧ 0 ≤ l ∧ l.natAbs < 2 ^ 1048576 ∧ 0 ≤ k ∧ k ≤ (n : Int)
/-- feed[key] -/
theorem ev_fget {i : Nat} (key : Key) {ty : TE} {Φ : PyData → Nat → Prop} (hty : ty = tC (kV key)) (hi : ρ[i]? = some .fd)
    (g : ∀ (c : Addr) (ns : List Int) (iN l k : Int), FB n ns iN l k → ∃ v d, valV (fkv c iN l k) key = some v ∧ (∀ B : Hp, B c = some (.lst (ns.map V.int)) → Dq B v d) ∧ Φ d n) : Ev K C (tDGet (tVar i) ty) ρ μ n Φ := fun ads σ B H Q r q => by
  subst hty
  obtain ⟨o, e1, a, e2, e3⟩ := pr_get r.sl hi
  subst e3
  obtain ⟨h1, h2, c, ns, iN, l, k, h3, h4, h5⟩ := r.fd a e2
  obtain ⟨v, d, g1, g2, g3⟩ := g c ns iN l k h5
  refine ⟨.ref a, e1, a, v, rfl, ?_, q v d B H n (Same.refl _) r (g2 B h4) g3⟩
  rw [← g1]
  exact DGet.k h3
/-- feed[key] = e -/
theorem sv_fput {i : Nat} (key : Key) {ty te : TE} {Ψ : Out → Prop} (hty : ty = tC (kV key)) (hi : ρ[i]? = some .fd)
    (h : Ev K C te ρ μ n fun d n1 => ∃ (n2 : Nat) (z : Int), d = .int z ∧ (∀ (c : Addr) (ns : List Int) (iN l k : Int), FB n1 ns iN l k → ∃ iN' l' k', putK (fkv c iN l k) key (.int z) = fkv c iN' l' k' ∧ FB n2 ns iN' l' k') ∧ Ψ (.nx ρ μ n2)) : Sv K C (sDPut (tVar i) ty te) ρ μ n Ψ := fun ads σ B H D r a e =>
  h ads σ B H _ r fun v d B1 H1 n1 e1 r1 p1 ⟨n2, z, ed, g, f⟩ => by
    subst ed hty
    cases dp_int p1
    obtain ⟨o, e1', p, e2, e3⟩ := pr_get r1.sl hi
    subst e3
    obtain ⟨h1, h2, c, ns, iN, l, k, h3, h4, h5⟩ := r1.fd p e2
    obtain ⟨iN', l', k', g1, g2⟩ := g c ns iN l k h5
    refine ⟨.ref p, e1', p, _, rfl, DPut.k h3 (by show 4 < sizeLine; rw [sizeLine_eq]; omega), ?_⟩
    rw [g1]
    refine a.nx _ _ _ _ _ _ _ e1 (r1.feed e2 ⟨c, ns, iN', l', k', upd_same, h4, ?_⟩) f
    exact g2
end
section
variable {X : Cx} {C : Ct} {ρ : List Sl} {μ : List Ce} {n : Nat} {a b c e : Expr} {pos p p2 : Pos} {Φ : PyData → Nat → Prop} {Ψ : Out → Prop} {x y z : Str}
theorem ex_fgetN (i : Nat) {k1 : Nat} (hu : X.A.units + 1 < cLine) (hi : ρ[i]? = some .fd) (g : ∀ j : Int, 0 ≤ j → j ≤ n → Φ (.int j) n) (hN : X.N[i]? = some x := by rfl) (hv : Vis X.env.scope x := by first | exact Or.inl rfl | exact Or.inr (Or.inl rfl) | exact Or.inr (Or.inr rfl))
    (hd : (x == ("__debug__" : Str)) = false := by decide) (hcd : (x == ("__classdict__" : Str)) = false := by decide) (hs : NoSl (.Constant (.str "next") k1 p2) := by exact fun _ _ => rfl) : EX X C (.Subscript (.Name x p) (.Constant (.str "next") k1 p2) pos) ρ μ n Φ :=
  ex_of (pe_dget hu (pe_var hN hv hd hcd) pe_str hs) (ev_fget kN rfl hi fun c ns iN l k h => ⟨_, _, val_N, fun B _ => .int _, g iN h.2.2.1 h.2.2.2.1⟩)
theorem ex_fgetD (i : Nat) {k1 : Nat} (hu : X.A.units + 1 < cLine) (hi : ρ[i]? = some .fd) (g : ∀ j : Int, 0 ≤ j → j ≤ n → Φ (.int j) n) (hN : X.N[i]? = some x := by rfl) (hv : Vis X.env.scope x := by first | exact Or.inl rfl | exact Or.inr (Or.inl rfl) | exact Or.inr (Or.inr rfl))
    (hd : (x == ("__debug__" : Str)) = false := by decide) (hcd : (x == ("__classdict__" : Str)) = false := by decide) (hs : NoSl (.Constant (.str "drawn") k1 p2) := by exact fun _ _ => rfl) : EX X C (.Subscript (.Name x p) (.Constant (.str "drawn") k1 p2) pos) ρ μ n Φ :=
  ex_of (pe_dget hu (pe_var hN hv hd hcd) pe_str hs) (ev_fget kD rfl hi fun c ns iN l k h => ⟨_, _, val_D, fun B _ => .int _, g k h.2.2.2.2.2.2.1 h.2.2.2.2.2.2.2⟩)
theorem ex_fgetL (i : Nat) {k1 : Nat} (hu : X.A.units + 1 < cLine) (hi : ρ[i]? = some .fd) (g : ∀ j : Int, 0 ≤ j → j.natAbs < 2 ^ 1048576 → Φ (.int j) n) (hN : X.N[i]? = some x := by rfl) (hv : Vis X.env.scope x := by first | exact Or.inl rfl | exact Or.inr (Or.inl rfl) | exact Or.inr (Or.inr rfl))
    (hd : (x == ("__debug__" : Str)) = false := by decide) (hcd : (x == ("__classdict__" : Str)) = false := by decide) (hs : NoSl (.Constant (.str "left") k1 p2) := by exact fun _ _ => rfl) : EX X C (.Subscript (.Name x p) (.Constant (.str "left") k1 p2) pos) ρ μ n Φ :=
  ex_of (pe_dget hu (pe_var hN hv hd hcd) pe_str hs) (ev_fget kL rfl hi fun c ns iN l k h => ⟨_, _, val_L, fun B _ => .int _, g l h.2.2.2.2.1 h.2.2.2.2.2.1⟩)
theorem ex_fgetC (i : Nat) {k1 : Nat} (hu : X.A.units + 1 < cLine) (hi : ρ[i]? = some .fd) (g : ∀ ns : List Int, ns.length ≤ 63 → (∀ z ∈ ns, z.natAbs < 2 ^ 1048576) → Φ (.list (ns.map .int)) n) (hN : X.N[i]? = some x := by rfl) (hv : Vis X.env.scope x := by first | exact Or.inl rfl | exact Or.inr (Or.inl rfl) | exact Or.inr (Or.inr rfl))
    (hd : (x == ("__debug__" : Str)) = false := by decide) (hcd : (x == ("__classdict__" : Str)) = false := by decide) (hs : NoSl (.Constant (.str "cells") k1 p2) := by exact fun _ _ => rfl) : EX X C (.Subscript (.Name x p) (.Constant (.str "cells") k1 p2) pos) ρ μ n Φ :=
  ex_of (pe_dget hu (pe_var hN hv hd hcd) pe_str hs) (ev_fget kC rfl hi fun c ns iN l k h => ⟨_, _, val_C, fun B hB => .lst hB (dps_ints ns), g ns h.1 h.2.1⟩)
theorem sx_fputD (i : Nat) {k1 : Nat} {pos' : Pos} (hu : X.A.units + 1 < cLine) (hi : ρ[i]? = some .fd) (h : EX X C e ρ μ n fun d n1 => ∃ z : Int, d = .int z ∧ 0 ≤ z ∧ z ≤ n1 + 1 ∧ Ψ (.nx ρ μ (n1 + 1))) (hN : X.N[i]? = some x := by rfl) (hv : Vis X.env.scope x := by first | exact Or.inl rfl | exact Or.inr (Or.inl rfl) | exact Or.inr (Or.inr rfl))
    (hd : (x == ("__debug__" : Str)) = false := by decide) (hcd : (x == ("__classdict__" : Str)) = false := by decide) (hs : swapsWith e (some (.Subscript (.Name x p) (.Constant (.str "drawn") k1 p2) pos')) pos.line X.env = pure false := by rfl) : SX X C (.Assign [.Subscript (.Name x p) (.Constant (.str "drawn") k1 p2) pos'] e pos) ρ μ n Ψ :=
  sx_of (ps_dput hu (pe_var hN hv hd hcd) pe_str pe_can hs) (sv_fput kD rfl hi (h.imp fun d n1 ⟨z, e1, z0, z1, f⟩ => ⟨n1 + 1, z, e1, fun c ns iN l k hb => ⟨iN, l, z, put_D, hb.1, hb.2.1, hb.2.2.1, by have := hb.2.2.2.1; omega, hb.2.2.2.2.1, hb.2.2.2.2.2.1, z0, by omega⟩, f⟩))
theorem sx_fputN (i : Nat) {k1 : Nat} {pos' : Pos} (hu : X.A.units + 1 < cLine) (hi : ρ[i]? = some .fd) (h : EX X C e ρ μ n fun d n1 => ∃ z : Int, d = .int z ∧ 0 ≤ z ∧ z ≤ n1 + 1 ∧ Ψ (.nx ρ μ (n1 + 1))) (hN : X.N[i]? = some x := by rfl) (hv : Vis X.env.scope x := by first | exact Or.inl rfl | exact Or.inr (Or.inl rfl) | exact Or.inr (Or.inr rfl))
    (hd : (x == ("__debug__" : Str)) = false := by decide) (hcd : (x == ("__classdict__" : Str)) = false := by decide) (hs : swapsWith e (some (.Subscript (.Name x p) (.Constant (.str "next") k1 p2) pos')) pos.line X.env = pure false := by rfl) : SX X C (.Assign [.Subscript (.Name x p) (.Constant (.str "next") k1 p2) pos'] e pos) ρ μ n Ψ :=
  sx_of (ps_dput hu (pe_var hN hv hd hcd) pe_str pe_can hs) (sv_fput kN rfl hi (h.imp fun d n1 ⟨z, e1, z0, z1, f⟩ => ⟨n1 + 1, z, e1, fun c ns iN l k hb => ⟨z, l, k, put_N, hb.1, hb.2.1, z0, by omega, hb.2.2.2.2.1, hb.2.2.2.2.2.1, hb.2.2.2.2.2.2.1, by have := hb.2.2.2.2.2.2.2; omega⟩, f⟩))
theorem sx_fputL (i : Nat) {k1 : Nat} {pos' : Pos} (hu : X.A.units + 1 < cLine) (hi : ρ[i]? = some .fd) (h : EX X C e ρ μ n fun d n1 => ∃ z : Int, d = .int z ∧ 0 ≤ z ∧ z.natAbs < 2 ^ 1048576 ∧ Ψ (.nx ρ μ n1)) (hN : X.N[i]? = some x := by rfl) (hv : Vis X.env.scope x := by first | exact Or.inl rfl | exact Or.inr (Or.inl rfl) | exact Or.inr (Or.inr rfl))
    (hd : (x == ("__debug__" : Str)) = false := by decide) (hcd : (x == ("__classdict__" : Str)) = false := by decide) (hs : swapsWith e (some (.Subscript (.Name x p) (.Constant (.str "left") k1 p2) pos')) pos.line X.env = pure false := by rfl) : SX X C (.Assign [.Subscript (.Name x p) (.Constant (.str "left") k1 p2) pos'] e pos) ρ μ n Ψ :=
  sx_of (ps_dput hu (pe_var hN hv hd hcd) pe_str pe_can hs) (sv_fput kL rfl hi (h.imp fun d n1 ⟨z, e1, z0, z1, f⟩ => ⟨n1, z, e1, fun c ns iN l k hb => ⟨iN, z, k, put_L, hb.1, hb.2.1, hb.2.2.1, hb.2.2.2.1, z0, z1, hb.2.2.2.2.2.2⟩, f⟩))
/-! ### x, y = a, b -/
theorem sx_par (i j : Nat) {px py pt : Pos} {kt k2 : Nat} {pt2 : Pos} (hc : X.calm = true) (nd : X.N.Nodup) (h : EX X C a ρ μ n fun d1 n1 => EX X C b ρ μ n1 fun d2 n2 => Ψ (.nx ((ρ.set i (.im d1)).set j (.im d2)) μ n2)) (hi : X.N[i]? = some x := by rfl) (hj : X.N[j]? = some y := by rfl) (hij : i ≠ j := by decide)
    (hx : X.env.scope.names.lookup x = some .local := by rfl) (hy : X.env.scope.names.lookup y = some .local := by rfl) (hsa : starEach (a :: [b]) X.env = (false, eval a X.env) :: starEach [b] X.env := by rfl) (hsb : starEach (b :: []) X.env = (false, eval b X.env) :: starEach [] X.env := by rfl)
    (hw : swappedStores [.Tuple [.Name x px, .Name y py] kt pt] (.Tuple [a, b] k2 pt2) X.env = pure (some [x, y]) := by rfl) (hs : swapsWithSole [.Tuple [.Name x px, .Name y py] kt pt] (.Tuple [a, b] k2 pt2) pos.line X.env = pure false := by rfl) :
    SX X C (.Assign [.Tuple [.Name x px, .Name y py] kt pt] (.Tuple [a, b] k2 pt2) pos) ρ μ n Ψ :=
  sx_of (ps_par hc nd hi hj hij hx hy pa_can hw hs) (sv_par (ea_c (h.imp fun d1 n1 h => ea_c (h.imp fun d2 n2 f => ea_0 ⟨d1, d2, rfl, f⟩) hsb) hsa))
theorem sx_parL (i j : Nat) {px py pt : Pos} {kt k2 : Nat} {pt2 : Pos} (hc : X.calm = true) (nd : X.N.Nodup) (h : EX X C a ρ μ n fun d1 n1 => EL X C b ρ μ n1 fun ds n2 => Ψ (.nx ((ρ.set i (.im d1)).set j (.ce μ.length)) (μ ++ [.ls ds]) n2)) (hi : X.N[i]? = some x := by rfl) (hj : X.N[j]? = some y := by rfl) (hij : i ≠ j := by decide)
    (hx : X.env.scope.names.lookup x = some .local := by rfl) (hy : X.env.scope.names.lookup y = some .local := by rfl) (hsa : starEach (a :: [b]) X.env = (false, eval a X.env) :: starEach [b] X.env := by rfl) (hsb : starEach (b :: []) X.env = (false, eval b X.env) :: starEach [] X.env := by rfl)
    (hw : swappedStores [.Tuple [.Name x px, .Name y py] kt pt] (.Tuple [a, b] k2 pt2) X.env = pure (some [x, y]) := by rfl) (hs : swapsWithSole [.Tuple [.Name x px, .Name y py] kt pt] (.Tuple [a, b] k2 pt2) pos.line X.env = pure false := by rfl) :
    SX X C (.Assign [.Tuple [.Name x px, .Name y py] kt pt] (.Tuple [a, b] k2 pt2) pos) ρ μ n Ψ :=
  sx_of (ps_par hc nd hi hj hij hx hy (pa_cons pe_can (pa_cons pe_can pa_nil hsb) hsa) hw hs) (sv_parL h)
theorem sx_parK (i j : Nat) {px py pt : Pos} {kt k2 : Nat} {pt2 : Pos} (hc : X.calm = true) (nd : X.N.Nodup) (h : EL X C a ρ μ n fun ds n1 => EX X C b ρ (μ ++ [.ls ds]) n1 fun d n2 => Ψ (.nx ((ρ.set i (.ce μ.length)).set j (.im d)) (μ ++ [.ls ds]) n2)) (hi : X.N[i]? = some x := by rfl) (hj : X.N[j]? = some y := by rfl) (hij : i ≠ j := by decide)
    (hx : X.env.scope.names.lookup x = some .local := by rfl) (hy : X.env.scope.names.lookup y = some .local := by rfl) (hsa : starEach (a :: [b]) X.env = (false, eval a X.env) :: starEach [b] X.env := by rfl) (hsb : starEach (b :: []) X.env = (false, eval b X.env) :: starEach [] X.env := by rfl)
    (hw : swappedStores [.Tuple [.Name x px, .Name y py] kt pt] (.Tuple [a, b] k2 pt2) X.env = pure (some [x, y]) := by rfl) (hs : swapsWithSole [.Tuple [.Name x px, .Name y py] kt pt] (.Tuple [a, b] k2 pt2) pos.line X.env = pure false := by rfl) :
    SX X C (.Assign [.Tuple [.Name x px, .Name y py] kt pt] (.Tuple [a, b] k2 pt2) pos) ρ μ n Ψ :=
  sx_of (ps_par hc nd hi hj hij hx hy (pa_cons pe_can (pa_cons pe_can pa_nil hsb) hsa) hw hs) (sv_parK h)
theorem sx_parLL (i j : Nat) {px py pt : Pos} {kt k2 : Nat} {pt2 : Pos} (hc : X.calm = true) (nd : X.N.Nodup) (h : EL X C a ρ μ n fun ds n1 => EL X C b ρ (μ ++ [.ls ds]) n1 fun es n2 => Ψ (.nx ((ρ.set i (.ce μ.length)).set j (.ce (μ.length + 1))) (μ ++ [.ls ds] ++ [.ls es]) n2)) (hi : X.N[i]? = some x := by rfl) (hj : X.N[j]? = some y := by rfl) (hij : i ≠ j := by decide)
    (hx : X.env.scope.names.lookup x = some .local := by rfl) (hy : X.env.scope.names.lookup y = some .local := by rfl) (hsa : starEach (a :: [b]) X.env = (false, eval a X.env) :: starEach [b] X.env := by rfl) (hsb : starEach (b :: []) X.env = (false, eval b X.env) :: starEach [] X.env := by rfl)
    (hw : swappedStores [.Tuple [.Name x px, .Name y py] kt pt] (.Tuple [a, b] k2 pt2) X.env = pure (some [x, y]) := by rfl) (hs : swapsWithSole [.Tuple [.Name x px, .Name y py] kt pt] (.Tuple [a, b] k2 pt2) pos.line X.env = pure false := by rfl) :
    SX X C (.Assign [.Tuple [.Name x px, .Name y py] kt pt] (.Tuple [a, b] k2 pt2) pos) ρ μ n Ψ :=
  sx_of (ps_par hc nd hi hj hij hx hy (pa_cons pe_can (pa_cons pe_can pa_nil hsb) hsa) hw hs) (sv_parLL h)
theorem sx_par3 (i j l : Nat) {px py pz pt : Pos} {kt k2 : Nat} {pt2 : Pos} (hc : X.calm = true) (nd : X.N.Nodup) (h : EX X C a ρ μ n fun d1 n1 => EX X C b ρ μ n1 fun d2 n2 => EX X C c ρ μ n2 fun d3 n3 => Ψ (.nx (((ρ.set i (.im d1)).set j (.im d2)).set l (.im d3)) μ n3)) (hi : X.N[i]? = some x := by rfl) (hj : X.N[j]? = some y := by rfl) (hl : X.N[l]? = some z := by rfl) (hij : i ≠ j := by decide) (hil : i ≠ l := by decide) (hjl : j ≠ l := by decide)
    (hx : X.env.scope.names.lookup x = some .local := by rfl) (hy : X.env.scope.names.lookup y = some .local := by rfl) (hz : X.env.scope.names.lookup z = some .local := by rfl) (hsa : starEach (a :: [b, c]) X.env = (false, eval a X.env) :: starEach [b, c] X.env := by rfl) (hsb : starEach (b :: [c]) X.env = (false, eval b X.env) :: starEach [c] X.env := by rfl) (hsc : starEach (c :: []) X.env = (false, eval c X.env) :: starEach [] X.env := by rfl)
    (hw : swappedStores [.Tuple [.Name x px, .Name y py, .Name z pz] kt pt] (.Tuple [a, b, c] k2 pt2) X.env = pure (some [x, y, z]) := by rfl) (hs : swapsWithSole [.Tuple [.Name x px, .Name y py, .Name z pz] kt pt] (.Tuple [a, b, c] k2 pt2) pos.line X.env = pure false := by rfl) :
    SX X C (.Assign [.Tuple [.Name x px, .Name y py, .Name z pz] kt pt] (.Tuple [a, b, c] k2 pt2) pos) ρ μ n Ψ :=
  sx_of (ps_par3 hc nd hi hj hl hij hil hjl hx hy hz pa_can hw hs) (sv_par3 (ea_c (h.imp fun d1 n1 h => ea_c (h.imp fun d2 n2 h => ea_c (h.imp fun d3 n3 f => ea_0 ⟨d1, d2, d3, rfl, f⟩) hsc) hsb) hsa))
/-- .. where a name is a cell of the def -/
theorem ev_tupd {K : Frg} {ta : TA} {Φ : PyData → Nat → Prop} (h : EvA K C ta ρ μ n fun as n1 => ∃ ds, as = ds.map .da ∧ ds.length ≤ 1000 ∧ Φ (.tuple ds) n1) : Ev K C (tTup ta) ρ μ n Φ := ev_tup h
theorem sx_parC (i j : Nat) {px py pt : Pos} {kt k2 : Nat} {pt2 : Pos} (hc : X.calm = true) (nd : X.N.Nodup) (h : EX X C a ρ μ n fun d1 n1 => EX X C b ρ μ n1 fun d2 n2 => Ψ (.nx ((ρ.set i (.im d1)).set j (.im d2)) μ n2)) (hi : X.N[i]? = some x := by rfl) (hj : X.N[j]? = some y := by rfl)
    (hx : Loc X.env.scope x := by first | exact .inl rfl | exact .inr rfl) (hfx : X.fn x = true ∨ X.env.scope.names.lookup x = some .local := by first | exact .inl rfl | exact .inr rfl) (hy : Loc X.env.scope y := by first | exact .inl rfl | exact .inr rfl) (hfy : X.fn y = true ∨ X.env.scope.names.lookup y = some .local := by first | exact .inl rfl | exact .inr rfl)
    (hsa : starEach (a :: [b]) X.env = (false, eval a X.env) :: starEach [b] X.env := by rfl) (hsb : starEach (b :: []) X.env = (false, eval b X.env) :: starEach [] X.env := by rfl)
    (hw : swappedStores [.Tuple [.Name x px, .Name y py] kt pt] (.Tuple [a, b] k2 pt2) X.env = pure none := by rfl) (hs : swapsWithSole [.Tuple [.Name x px, .Name y py] kt pt] (.Tuple [a, b] k2 pt2) pos.line X.env = pure false := by rfl) :
    SX X C (.Assign [.Tuple [.Name x px, .Name y py] kt pt] (.Tuple [a, b] k2 pt2) pos) ρ μ n Ψ :=
  sx_of (ps_asg pe_can (pg_tup hc (pgs_cons (pg_name nd hi hx hfx) (pgs_cons (pg_name nd hj hy hfy) pgs_nil))) hs hw) fun ads σ B H D r ac ae =>
    (ex_tup (Φ := fun d n2 => ∃ d1 d2, d = .tuple [d1, d2] ∧ Ψ (.nx ((ρ.set i (.im d1)).set j (.im d2)) μ n2)) (ea_c (h.imp fun d1 n1 h => ea_c (h.imp fun d2 n2 f => ea_0 ⟨[d1, d2], rfl, by simp, d1, d2, rfl, f⟩) hsb) hsa) : EX X C (.Tuple [a, b] k2 pt2) ρ μ n _) ads σ B H _ r
      fun v d B' H' n' e r' p ⟨d1, d2, ed, f⟩ => by
        subst ed
        exact tg_pair C ads B' H' σ μ n' v _ r' p fun σ' r2 => ac.nx _ _ _ _ _ _ _ e r2 f
/-! ### == of ints, of data -/
def PEq (Θ : Bool → Nat → Prop) (n : Nat) : PyData → PyData → Prop
  | .int i, .int j => Θ (decide (i = j)) n
  | d1, d2 => SeqAt.shaped d1 = true ∧ SeqAt.shaped d2 = true ∧ Θ (PyData.eqv d1 d2) n
end
end Pb

set_option Elab.async false
set_option linter.all false
set_option maxRecDepth 100000
set_option maxHeartbeats 4000000
/-! PbP: the law's defs: draws, lines. -/
namespace Pb
open PySem PySem.Spec PyProof.Rows L2
def preDraw : Pre := fun as n Φ => ∃ b : Int, as = [.fd, .da (.int b)] ∧ 1 ≤ b ∧ b ≤ 10000000 ∧ n ≤ 1000000 ∧ ∀ v : Int, 0 ≤ v → v < b → Φ (.ok (.int v)) (n + 2)
def preAny : Pre := fun as n Φ => ∃ ds : List PyData, as = [.fd, .da (.list ds)] ∧ 0 < ds.length ∧ ds.length ≤ 1000 ∧ n ≤ 1000000 ∧ ∀ d ∈ ds, Φ (.ok d) (n + 2)
def preHeap : Pre := fun as n Φ => as = [.fd] ∧ n ≤ 900000 ∧ ∀ v : Int, 0 ≤ v → v < 10 ^ 56 → Φ (.ok (.int v)) (n + 18)
theorem sv_more {K : Frg} {C : Ct} {ρ : List Sl} {μ : List Ce} {n : Nat} {t : TS} {Ψ : Out → Prop} (n2 : Nat) (hl : n ≤ n2) (h : Sv K C t ρ μ n2 Ψ) : Sv K C t ρ μ n Ψ := fun ads σ B H D r a e => h ads σ B H D (r.more hl) a e
theorem shaped_ints (ns : List Int) : SeqAt.shaped (.list (ns.map .int)) = true := by
  have h1 : ∀ l : List Int, PyData.canLayAll0 (l.map .int) = true := fun l => by
    induction l with
    | nil => rfl
    | cons x l ih => simp only [List.map_cons, PyData.canLayAll0, PyData.canLay0, ih, Bool.and_self]
  have h2 : ∀ l : List Int, PyData.depthAll (l.map .int) ≤ 1 := fun l => by
    induction l with
    | nil => decide
    | cons x l ih => simp only [List.map_cons, PyData.depthAll, PyData.depth]; omega
  have h3 := h2 ns
  unfold SeqAt.shaped
  rw [Bool.and_eq_true]
  refine ⟨h1 ns, decide_eq_true ?_⟩
  simp only [PyData.depth]
  omega
theorem eqv_nil (ns : List Int) : PyData.eqv (.list (ns.map .int)) (.list []) = ns.isEmpty := by
  cases ns <;> simp [PyData.eqv, PyData.eqvAll]
theorem powI {i : Int} (h0 : -18446744073709551616 < i) (h1 : i < 18446744073709551616) (k : Nat) (hk : k ≤ 1000) : CPow i (k : Int) := ⟨by omega, by omega, by
  have : (2 : Nat) ^ 64 = 18446744073709551616 := by decide
  omega⟩
theorem ediv_lt_abs {a b : Int} (ha : 0 ≤ a) (hb : 1 ≤ b) {M : Nat} (h : a.natAbs < M) : (a / b).natAbs < M := by
  have h1 : a / b ≤ a := Int.ediv_le_self _ ha
  have h2 : 0 ≤ a / b := Int.ediv_nonneg ha (by omega)
  omega
theorem mod_range {a b : Int} (hb : 1 ≤ b) : 0 ≤ a % b ∧ a % b < b := ⟨Int.emod_nonneg _ (by omega), Int.emod_lt_of_pos _ (by omega)⟩
local macro_rules | `(tactic| walk_at "pb v") => `(tactic| first
  | refine ex_v 0 rfl ?_ | refine ex_v 1 rfl ?_ | refine ex_v 2 rfl ?_ | refine ex_v 3 rfl ?_ | refine ex_v 4 rfl ?_ | refine ex_v 5 rfl ?_ | refine ex_v 6 rfl ?_ | refine ex_v 7 rfl ?_
  | refine ex_v 8 rfl ?_ | refine ex_v 9 rfl ?_ | refine ex_v 10 rfl ?_ | refine ex_v 11 rfl ?_ | refine ex_v 12 rfl ?_ | refine ex_v 13 rfl ?_ | refine ex_v 14 rfl ?_)
local macro_rules | `(tactic| walk_at "pb x") => `(tactic| first
  | refine ex_i ?_ | ((with_reducible show EX _ _ (Expr.Name _ _) _ _ _ _); walk_at "pb v") | refine ex_addJ ?_ | refine ex_sub ?_ | refine ex_s ?_ | refine ex_n ?_ | refine ex_b ?_ | refine ex_neg ?_
  | refine ex_mulJ ?_ | refine ex_mod ?_ | refine ex_div ?_ | refine ex_pow ?_ | refine ex_lt ?_ | refine ex_eq ?_ | refine ex_ne ?_ | refine ex_gt ?_ | refine ex_ge ?_ | ((fail_if_success (with_reducible show EX _ _ (Expr.Subscript _ (Expr.Constant (Const.str _) _ _) _) _ _ _ _)); refine ex_ixJ ?_)
  | refine ex_and ?_ | refine ex_or ?_ | refine ex_one ?_ | refine ex_not ?_ | refine ex_ite ?_ | refine ex_isInt ‹_› ?_ | refine ex_isBool ‹_› ?_ | refine ex_isTup ‹_› ?_)
local macro_rules | `(tactic| walk_at "pb t") => `(tactic| first
  | refine et_lt ?_ | refine et_eq ?_ | refine et_ne ?_ | refine et_le ?_ | refine et_gt ?_ | refine et_ge ?_ | refine et_nt ?_ | refine et_w (ew_and ?_) | refine et_w (ew_or ?_) | refine et_v ?_)
local macro_rules | `(tactic| walk_at "pb e") => `(tactic| first
  | ((with_reducible show EX _ _ _ _ _ _ _); walk_at "pb x")
  | with_reducible refine xi2 ?_ | with_reducible refine xi ?_ | with_reducible refine xb ?_ | with_reducible refine xsi ?_ | with_reducible refine xl ?_ | with_reducible refine xt ?_
  | with_reducible refine ifT ?_ | with_reducible refine ifF ?_ | with_reducible refine add_int ?_ | with_reducible refine ix_l ?_
  | with_reducible refine len_t ?_ | with_reducible refine len_l ?_ | with_reducible refine tup_t ?_ | with_reducible refine tup_l ?_
  | with_reducible refine nx_nxt ?_ | with_reducible refine rt_nxt ?_ | with_reducible refine er_nxt ?_ | with_reducible refine bk_nxt ?_ | with_reducible refine ct_nxt ?_ | with_reducible refine fin_rt ?_ | with_reducible refine fin_nx ?_ | with_reducible refine fin_er ?_ 
  | with_reducible refine nx_lp ?_ | with_reducible refine bk_lp ?_ | with_reducible refine ct_lp ?_ | with_reducible refine rt_lp ?_ | with_reducible refine er_lp ?_ | with_reducible refine okp_ok ?_
  | ((with_reducible show ET _ _ _ _ _ _ _); walk_at "pb t")
  | ((with_reducible show EW _ _ _ _ _ _ _); first | refine ew_and ?_ | refine ew_or ?_ | refine ew_and1 ?_ | refine ew_or1 ?_)
  | ((with_reducible show SB _ _ _ _ _ _ _); first | refine sb_cons ?_ | refine sb_nil ?_)
  | ((with_reducible show SX _ _ _ _ _ _ _); first | refine sx_ret ?_ | refine sx_if ?_)
  | ((with_reducible show EA _ _ _ _ _ _ _); first | refine ea_c ?_ | refine ea_0 ?_))
local macro_rules | `(tactic| walk_at "pb") => `(tactic| repeat walk_at "pb e")
section
variable {P : Program} {w : World} {K : Frg} {mg : Str → Option Value} {base : Heap} {f : Addr} {fd : FuncData} {T : List (Addr × Str)} {k : Nat}
theorem sc43 : FnScope ["_law_feed_here", "_law_below", "_law_drawn", "_law_figure", "_law_turn", "_law_cells", "_law_cell", "_law_stirred"] ["_law_feed_here", "_law_below"] (defScope (top 43)) := ⟨rfl, rfl, rfl, by decide +kernel, rfl, by decide +kernel, by decide +kernel⟩
theorem g_law_draw (F : FnT K "_law_draw" 43 f fd) (b : Blt mg) : FnOk P w K mg base (L2.CX P w) (k + 1) f fd ["_law_feed_here", "_law_below"] (prom K T preDraw) := by
  refine fn_pb F sc43 (fun as n Φ ⟨b, h, _⟩ => by rw [h]; rfl) fun cdv A outer s H E fa B as n Φ hr hp => ?_
  obtain ⟨bl, rfl, hb1, hb2, hn, h⟩ := hp
  have hu : (A.deeper (envOfC "_law_draw" (defScope (top 43)) s.heap.objs.size f cdv)).units + 1 < cLine := by have := hr.un; omega
  walk_at "pb"
  refine sx_fputD 0 hu rfl ?_
  walk_at "pb"
  refine ex_fgetD 0 hu rfl fun dr hd0 hd1 => ?_
  walk_at "pb"
  refine ⟨by omega, by omega, ?_⟩
  walk_at "pb"
  refine sx_asg 2 sc43.nd (ex_fgetD 0 hu rfl fun dr2 he0 he1 => ?_)
  walk_at "pb"
  refine ex_fgetL 0 hu rfl fun lf hl0 hl1 => ?_
  walk_at "pb"
  refine ifd (fun h1 => ?_) (fun h1 => ?_)
  · walk_at "pb"
    refine sx_asg 3 sc43.nd ?_
    walk_at "pb"
    refine ex_int b.int ?_
    refine ex_fgetL 0 hu rfl fun lf2 hl2 hl3 => ?_
    walk_at "pb"
    refine ⟨by omega, ?_⟩
    walk_at "pb"
    refine sx_fputL 0 hu rfl ?_
    walk_at "pb"
    refine ex_fgetL 0 hu rfl fun lf3 hl4 hl5 => ?_
    walk_at "pb"
    refine ⟨divW (by omega) (by omega), ?_⟩
    walk_at "pb"
    refine ⟨Int.ediv_nonneg hl4 (by omega), ediv_lt_abs hl4 hb1 hl5, ?_⟩
    walk_at "pb e"
    refine sv_more (n + 2) (by omega) ?_
    walk_at "pb"
    have hm := mod_range (a := lf2) hb1
    exact h _ hm.1 hm.2
  · walk_at "pb"
    refine sx_par 4 5 rfl sc43.nd ?_
    refine ex_fgetN 0 hu rfl fun tn ht0 ht1 => ?_
    refine ex_fgetC 0 hu rfl fun ns hns hnz => ?_
    walk_at "pb"
    refine sx_fputN 0 hu rfl ?_
    walk_at "pb"
    refine ⟨by omega, by omega, ?_⟩
    walk_at "pb e"
    walk_at "pb e"
    have cont : ∀ (cl : Int), cl.natAbs < 2 ^ 1048576 → SB (cxOf (L2.CX P w) P w K mg base ["_law_feed_here", "_law_below", "_law_drawn", "_law_figure", "_law_turn", "_law_cells", "_law_cell", "_law_stirred"] "_law_draw" (defScope (top 43)) f cdv A outer s H E) ⟨T, fa, B, H, E⟩ ((defBody (top 43)).drop 6)
        [.fd, .im (.int bl), .im (.int dr2), .un, .im (.int tn), .im (.list (ns.map .int)), .im (.int cl), .un] [] (n + 2) (fin Φ) := fun cl hcl => by
      walk_at "pb"
      refine ⟨powI (by omega) (by omega) 18 (by omega), ?_⟩
      walk_at "pb"
      have fin2 : SB (cxOf (L2.CX P w) P w K mg base ["_law_feed_here", "_law_below", "_law_drawn", "_law_figure", "_law_turn", "_law_cells", "_law_cell", "_law_stirred"] "_law_draw" (defScope (top 43)) f cdv A outer s H E) ⟨T, fa, B, H, E⟩ ((defBody (top 43)).drop 7)
          [.fd, .im (.int bl), .im (.int dr2), .un, .im (.int tn), .im (.list (ns.map .int)), .im (.int cl), .un] [] (n + 2) (fin Φ) := by
        walk_at "pb e"
        refine sx_asg 7 sc43.nd ?_
        walk_at "pb"
        refine ex_int b.int ?_
        walk_at "pb"
        refine ⟨by omega, ?_⟩
        walk_at "pb"
        refine mul_int (mulL (by omega) (by omega)) ?_
        walk_at "pb"
        have m1 := mod_range (a := cl) (b := 2147483549) (by omega)
        refine ⟨powI (by omega) (by omega) 5 (by omega), ?_⟩
        walk_at "pb"
        refine ⟨by omega, ?_⟩
        walk_at "pb"
        refine sx_asg 7 sc43.nd ?_
        walk_at "pb"
        refine mul_int (mulL (by omega) (by omega)) ?_
        walk_at "pb"
        refine mul_int (mulR (by omega) (by omega)) ?_
        walk_at "pb"
        refine mul_int (mulL (by omega) (by omega)) ?_
        walk_at "pb"
        have m2 : ∀ x : Int, 0 ≤ x % 2147483587 ∧ x % 2147483587 < 2147483587 := fun x => mod_range (by omega)
        have m3 : 0 ≤ dr2 * dr2 ∧ dr2 * dr2 ≤ 1000002 * 1000002 := ⟨Int.mul_nonneg he0 he0, Int.mul_le_mul (by omega) (by omega) he0 (by omega)⟩
        have m4 : 64919 * dr2 * dr2 = 64919 * (dr2 * dr2) := Int.mul_assoc _ _ _
        refine ⟨powI ?_ ?_ 5 (by omega), ?_⟩
        · rw [m4]
          generalize (_ : Int) ^ (5 : Int).toNat = X
          have := m2 X
          omega
        · rw [m4]
          generalize (_ : Int) ^ (5 : Int).toNat = X
          have := m2 X
          omega
        walk_at "pb"
        refine ⟨by omega, ?_⟩
        walk_at "pb"
        refine ⟨divW (by omega) (by omega), ?_⟩
        walk_at "pb"
        refine ⟨by omega, ?_⟩
        walk_at "pb"
        exact h _ (mod_range hb1).1 (mod_range hb1).2
      refine ifd (fun h3 => ?_) (fun h3 => ?_)
      · walk_at "pb"
        refine ex_lenJ b.len ?_
        walk_at "pb"
        refine ifd (fun h4 => ?_) (fun h4 => ?_)
        · walk_at "pb"
          have hc0 : 0 ≤ cl := by
            have : (0 : Int) ≤ 10 ^ ((18 : Int).toNat) := by decide
            omega
          refine sx_fputL 0 hu rfl ?_
          walk_at "pb"
          refine ⟨divW (by omega) (by omega), ?_⟩
          walk_at "pb"
          refine ⟨Int.ediv_nonneg hc0 (by omega), ediv_lt_abs hc0 hb1 hcl, ?_⟩
          walk_at "pb"
          refine ex_int b.int ?_
          walk_at "pb"
          refine ⟨by omega, ?_⟩
          walk_at "pb"
          have hm := mod_range (a := cl) hb1
          exact h _ hm.1 hm.2
        · walk_at "pb e"
          walk_at "pb e"
          exact fin2
      · walk_at "pb e"
        walk_at "pb e"
        exact fin2
    refine sx_asg 6 sc43.nd (ex_ite (et_neD hr.units ?_))
    walk_at "pb"
    refine ex_l (el_ls ?_)
    walk_at "pb"
    refine ⟨[], rfl, by simp, shaped_ints ns, by decide, ?_⟩
    rw [eqv_nil]
    cases ns with
    | nil =>
      refine ifF ?_
      walk_at "pb e"
      walk_at "pb e"
      exact cont 50411 (by
        have h1 : (50411 : Int).natAbs < 2 ^ 17 := by decide
        exact Nat.lt_of_lt_of_le h1 (Nat.pow_le_pow_right (by omega) (by omega)))
    | cons z zs =>
      refine ifT ?_
      walk_at "pb"
      refine ex_int b.int ?_
      walk_at "pb"
      refine ex_lenJ b.len ?_
      walk_at "pb"
      have hlen : (List.map PyData.int (z :: zs)).length = (z :: zs).length := by rw [List.length_map]
      have hpos : 0 < ((List.map PyData.int (z :: zs)).length : Int) := by rw [hlen, List.length_cons]; omega
      refine ⟨hpos, ?_⟩
      have hm := mod_range (a := tn) (b := ((List.map PyData.int (z :: zs)).length : Int)) hpos
      have hi : (tn % ((List.map PyData.int (z :: zs)).length : Int)).toNat < (z :: zs).length := by rw [hlen] at hm ⊢; omega
      refine ix_li hm.1 (d := .int ((z :: zs)[(tn % ((List.map PyData.int (z :: zs)).length : Int)).toNat])) ?_ ?_
      · rw [List.getElem?_map, List.getElem?_eq_getElem hi]
        rfl
      · walk_at "pb e"
        exact cont _ (hnz _ (List.getElem_mem hi))
end
end Pb

set_option Elab.async false
set_option linter.all false
set_option maxRecDepth 100000
set_option maxHeartbeats 4000000
namespace Pb
open PySem PySem.Spec PyProof.Rows L2
theorem tg_tri {K : Frg} {ρ : List Sl} {i j l : Nat} {d e f : PyData} : Tg K (gTup K 3 (gCons (gName i) (gCons (gName j) (gCons (gName l) gNil)))) (.tuple [d, e, f]) ρ (((ρ.set i (.im d)).set j (.im e)).set l (.im f)) := fun C ads B H σ μ n v Q r p q => by
  obtain ⟨a, vs, rfl, hs, hd⟩ := dp_tup p
  cases hd with
  | cons h1 hd =>
    cases hd with
    | cons h2 hd =>
      cases hd with
      | cons h3 hd =>
        cases hd
        exact ⟨a, _, rfl, ttr (r.sub _ _ hs), rfl, _, _, rfl, _, _, rfl, _, _, rfl, rfl, q _ (((r.setI i h1).setI j h2).setI l h3)⟩
section
variable {X : Cx} {C : Ct} {ρ : List Sl} {μ : List Ce} {n : Nat} {a b c e : Expr} {pos : Pos} {Ψ : Out → Prop} {x y z : Str}
theorem sx_parC3 (i j l : Nat) {px py pz pt : Pos} {kt k2 : Nat} {pt2 : Pos} (hc : X.calm = true) (nd : X.N.Nodup) (h : EX X C a ρ μ n fun d1 n1 => EX X C b ρ μ n1 fun d2 n2 => EX X C c ρ μ n2 fun d3 n3 => Ψ (.nx (((ρ.set i (.im d1)).set j (.im d2)).set l (.im d3)) μ n3)) (hi : X.N[i]? = some x := by rfl) (hj : X.N[j]? = some y := by rfl) (hl : X.N[l]? = some z := by rfl)
    (hx : Loc X.env.scope x := by first | exact .inl rfl | exact .inr rfl) (hfx : X.fn x = true ∨ X.env.scope.names.lookup x = some .local := by first | exact .inl rfl | exact .inr rfl) (hy : Loc X.env.scope y := by first | exact .inl rfl | exact .inr rfl) (hfy : X.fn y = true ∨ X.env.scope.names.lookup y = some .local := by first | exact .inl rfl | exact .inr rfl)
    (hz : Loc X.env.scope z := by first | exact .inl rfl | exact .inr rfl) (hfz : X.fn z = true ∨ X.env.scope.names.lookup z = some .local := by first | exact .inl rfl | exact .inr rfl)
    (hsa : starEach (a :: [b, c]) X.env = (false, eval a X.env) :: starEach [b, c] X.env := by rfl) (hsb : starEach (b :: [c]) X.env = (false, eval b X.env) :: starEach [c] X.env := by rfl) (hsc : starEach (c :: []) X.env = (false, eval c X.env) :: starEach [] X.env := by rfl)
    (hw : swappedStores [.Tuple [.Name x px, .Name y py, .Name z pz] kt pt] (.Tuple [a, b, c] k2 pt2) X.env = pure none := by rfl) (hs : swapsWithSole [.Tuple [.Name x px, .Name y py, .Name z pz] kt pt] (.Tuple [a, b, c] k2 pt2) pos.line X.env = pure false := by rfl) :
    SX X C (.Assign [.Tuple [.Name x px, .Name y py, .Name z pz] kt pt] (.Tuple [a, b, c] k2 pt2) pos) ρ μ n Ψ :=
  sx_of (ps_asg pe_can (pg_tup hc (pgs_cons (pg_name nd hi hx hfx) (pgs_cons (pg_name nd hj hy hfy) (pgs_cons (pg_name nd hl hz hfz) pgs_nil)))) hs hw) fun ads σ B H D r ac ae =>
    (ex_tup (Φ := fun d n2 => ∃ d1 d2 d3, d = .tuple [d1, d2, d3] ∧ Ψ (.nx (((ρ.set i (.im d1)).set j (.im d2)).set l (.im d3)) μ n2)) (ea_c (h.imp fun d1 n1 h => ea_c (h.imp fun d2 n2 h => ea_c (h.imp fun d3 n3 f => ea_0 ⟨[d1, d2, d3], rfl, by simp, d1, d2, d3, rfl, f⟩) hsc) hsb) hsa) : EX X C (.Tuple [a, b, c] k2 pt2) ρ μ n _) ads σ B H _ r
      fun v d B' H' n' e r' p ⟨d1, d2, d3, ed, f⟩ => by
        subst ed
        exact tg_tri C ads B' H' σ μ n' v _ r' p fun σ' r2 => ac.nx _ _ _ _ _ _ _ e r2 f
end
/-! ### the law's lines -/
def rep (r : Int) : Nat → Int
  | 0 => 0
  | L + 1 => r * rep r L + 1
def fix (r : Int) : Nat → Int → List Int
  | 0, _ => []
  | L + 1, v => fix r L (v / r) ++ [v % r]
theorem rep_succ (r : Int) : ∀ L : Nat, rep r (L + 1) = rep r L + r ^ L
  | 0 => by simp [rep]
  | L + 1 => by
    have h := rep_succ r L
    have e1 : rep r (L + 1 + 1) = r * rep r (L + 1) + 1 := rfl
    have e2 : rep r (L + 1) = r * rep r L + 1 := rfl
    have e3 : r * rep r (L + 1) = r * rep r L + r * r ^ L := by rw [h, Int.mul_add]
    have e4 : r * r ^ L = r ^ L * r := Int.mul_comm _ _
    rw [e1, Int.pow_succ]
    omega
theorem rep_nonneg {r : Int} (hr : 2 ≤ r) : ∀ L : Nat, 0 ≤ rep r L
  | 0 => Int.le_refl _
  | L + 1 => by
    have := Int.mul_nonneg (show (0 : Int) ≤ r by omega) (rep_nonneg hr L)
    rw [rep]
    omega
theorem row_fix {r : Int} (hr : 2 ≤ r) : ∀ (L : Nat) (v : Int), 0 ≤ v → v < r ^ L → row r (v + rep r L) = fix r L v
  | 0, v, h0, h1 => by
    have : v = 0 := by
      rw [Int.pow_zero] at h1
      omega
    rw [this, rep, fix, row_zero (by omega)]
  | L + 1, v, h0, h1 => by
    have hn := rep_nonneg hr L
    have hm := Int.mul_nonneg (show (0 : Int) ≤ r by omega) hn
    have e : v + rep r (L + 1) - 1 = v + r * rep r L := by rw [rep]; omega
    have hd : (v + r * rep r L) / r = v / r + rep r L := by rw [Int.add_mul_ediv_left _ _ (by omega)]
    have hq : (v + r * rep r L) % r = v % r := by rw [Int.add_mul_emod_self_left]
    have hlt : v / r < r ^ L := by
      rw [Int.pow_succ] at h1
      exact Int.ediv_lt_of_lt_mul (by omega) h1
    rw [row_pos (by rw [rep]; omega) hr, e, hd, hq, row_fix hr L _ (Int.ediv_nonneg h0 (by omega)) hlt, fix]
theorem pow_pos_i {r : Int} (hr : 2 ≤ r) : ∀ L : Nat, 1 ≤ r ^ L
  | 0 => by rw [Int.pow_zero]; omega
  | L + 1 => by
    rw [Int.pow_succ]
    have := pow_pos_i hr L
    have h : r ^ L * 1 ≤ r ^ L * r := Int.mul_le_mul_of_nonneg_left (by omega) (by omega)
    omega
theorem rep_ge {r : Int} (hr : 2 ≤ r) : ∀ L : Nat, 2 ^ L ≤ rep r L + 1
  | 0 => by simp [rep]
  | L + 1 => by
    have h := rep_ge hr L
    have hn := rep_nonneg hr L
    have : 2 * rep r L ≤ r * rep r L := Int.mul_le_mul_of_nonneg_right hr hn
    rw [rep, Int.pow_succ]
    omega
/-- so long a line at the most -/
theorem len_of_rep {r h : Int} (hr : 2 ≤ r) {L : Nat} (h1 : rep r L ≤ h) (h2 : h < 2 ^ 900) : L ≤ 900 := by
  have h3 := rep_ge hr L
  by_cases hL : L ≤ 900
  · exact hL
  · exfalso
    have h4 : (2 : Int) ^ 901 ≤ 2 ^ L := by
      have : (2 : Nat) ^ 901 ≤ 2 ^ L := Nat.pow_le_pow_right (by omega) (by omega)
      exact_mod_cast this
    have h5 : (2 : Int) ^ 901 = 2 * 2 ^ 900 := by rw [Int.pow_succ]; omega
    have h6 : (1 : Int) ≤ 2 ^ 900 := pow_pos_i (by omega) 900
    omega
theorem fix_len (r : Int) : ∀ (L : Nat) (v : Int), (fix r L v).length = L
  | 0, _ => rfl
  | L + 1, v => by rw [fix, List.length_append, fix_len r L]; rfl
theorem row_len {r h : Int} (hr : 2 ≤ r) : ∀ (L : Nat) (h : Int), h < 2 ^ L → (row r h).length ≤ L := by
  intro L
  induction L with
  | zero =>
    intro h hh
    rw [row_zero (by rw [Int.pow_zero] at hh; omega)]
    exact Nat.le_refl _
  | succ L ih =>
    intro h hh
    by_cases hp : 0 < h
    · rw [row_pos hp hr, List.length_append, List.length_singleton]
      have h1 : (h - 1) / r ≤ (h - 1) / 2 := by
        have h0 : (h - 1) / r * r ≤ h - 1 := Int.ediv_mul_le _ (by omega)
        have h2 : 0 ≤ (h - 1) / r := Int.ediv_nonneg (by omega) (by omega)
        have h3 : (h - 1) / r * 2 ≤ (h - 1) / r * r := Int.mul_le_mul_of_nonneg_left hr h2
        omega
      have h2 : (h - 1) / 2 < 2 ^ L := by
        rw [Int.pow_succ] at hh
        omega
      have := ih ((h - 1) / r) (by omega)
      omega
    · rw [row_zero hp]
      exact Nat.zero_le _
def preLine : Pre := fun as n Φ => ∃ r h : Int, as = [.da (.int r), .da (.int h)] ∧ 2 ≤ r ∧ r ≤ 256 ∧ 0 ≤ h ∧ h < 2 ^ 900 ∧ Φ (.ok (itup (row r h))) n
def preStack : Pre := fun as n Φ => ∃ (r : Int) (ns : List Int) (d : PyData), as = [.da (.int r), .da d] ∧ (d = itup ns ∨ d = .list (ns.map .int)) ∧ 0 ≤ r ∧ r ≤ 256 ∧ Φ (.ok (.int (stk r 0 ns))) n
def preTape : Pre := fun as n Φ => ∃ (b : Int) (hs : List Int), as = [.da (.int b), .da (itup hs)] ∧ 3 ≤ b ∧ b ≤ 256 ∧ (∀ h ∈ hs, 0 ≤ h ∧ h < 2 ^ 900) ∧ hs.length ≤ 100 ∧ Φ (.ok (itup (strm b hs))) n
local macro_rules | `(tactic| walk_at "pb v") => `(tactic| first
  | refine ex_v 0 rfl ?_ | refine ex_v 1 rfl ?_ | refine ex_v 2 rfl ?_ | refine ex_v 3 rfl ?_ | refine ex_v 4 rfl ?_ | refine ex_v 5 rfl ?_ | refine ex_v 6 rfl ?_ | refine ex_v 7 rfl ?_
  | refine ex_v 8 rfl ?_ | refine ex_v 9 rfl ?_ | refine ex_v 10 rfl ?_ | refine ex_v 11 rfl ?_ | refine ex_v 12 rfl ?_ | refine ex_v 13 rfl ?_ | refine ex_v 14 rfl ?_)
local macro_rules | `(tactic| walk_at "pb x") => `(tactic| first
  | refine ex_i ?_ | ((with_reducible show EX _ _ (Expr.Name _ _) _ _ _ _); walk_at "pb v") | refine ex_addJ ?_ | refine ex_sub ?_ | refine ex_s ?_ | refine ex_n ?_ | refine ex_b ?_ | refine ex_neg ?_
  | refine ex_mulJ ?_ | refine ex_mod ?_ | refine ex_div ?_ | refine ex_pow ?_ | refine ex_lt ?_ | refine ex_eq ?_ | refine ex_ne ?_ | refine ex_gt ?_ | refine ex_ge ?_ | ((fail_if_success (with_reducible show EX _ _ (Expr.Subscript _ (Expr.Constant (Const.str _) _ _) _) _ _ _ _)); refine ex_ixJ ?_)
  | refine ex_and ?_ | refine ex_or ?_ | refine ex_one ?_ | refine ex_not ?_ | refine ex_ite ?_ | refine ex_isInt ‹_› ?_ | refine ex_isBool ‹_› ?_ | refine ex_isTup ‹_› ?_)
local macro_rules | `(tactic| walk_at "pb t") => `(tactic| first
  | refine et_lt ?_ | refine et_eq ?_ | refine et_ne ?_ | refine et_le ?_ | refine et_gt ?_ | refine et_ge ?_ | refine et_nt ?_ | refine et_w (ew_and ?_) | refine et_w (ew_or ?_) | refine et_v ?_)
local macro_rules | `(tactic| walk_at "pb e") => `(tactic| first
  | ((with_reducible show EX _ _ _ _ _ _ _); walk_at "pb x")
  | with_reducible refine xi2 ?_ | with_reducible refine xi ?_ | with_reducible refine xb ?_ | with_reducible refine xsi ?_ | with_reducible refine xl ?_ | with_reducible refine xt ?_
  | with_reducible refine ifT ?_ | with_reducible refine ifF ?_ | with_reducible refine add_int ?_ | with_reducible refine ix_l ?_
  | with_reducible refine len_t ?_ | with_reducible refine len_l ?_ | with_reducible refine tup_t ?_ | with_reducible refine tup_l ?_
  | with_reducible refine nx_nxt ?_ | with_reducible refine rt_nxt ?_ | with_reducible refine er_nxt ?_ | with_reducible refine bk_nxt ?_ | with_reducible refine ct_nxt ?_ | with_reducible refine fin_rt ?_ | with_reducible refine fin_nx ?_ | with_reducible refine fin_er ?_ 
  | with_reducible refine nx_lp ?_ | with_reducible refine bk_lp ?_ | with_reducible refine ct_lp ?_ | with_reducible refine rt_lp ?_ | with_reducible refine er_lp ?_ | with_reducible refine okp_ok ?_
  | ((with_reducible show ET _ _ _ _ _ _ _); walk_at "pb t")
  | ((with_reducible show EW _ _ _ _ _ _ _); first | refine ew_and ?_ | refine ew_or ?_ | refine ew_and1 ?_ | refine ew_or1 ?_)
  | ((with_reducible show SB _ _ _ _ _ _ _); first | refine sb_cons ?_ | refine sb_nil ?_)
  | ((with_reducible show SX _ _ _ _ _ _ _); first | refine sx_ret ?_ | refine sx_if ?_)
  | ((with_reducible show EA _ _ _ _ _ _ _); first | refine ea_c ?_ | refine ea_0 ?_))
local macro_rules | `(tactic| walk_at "pb") => `(tactic| repeat walk_at "pb e")
section
variable {P : Program} {w : World} {K : Frg} {mg : Str → Option Value} {base : Heap} {f : Addr} {fd : FuncData} {T : List (Addr × Str)} {k : Nat}
theorem sc44 : FnScope ["_law_feed_here", "_law_some"] ["_law_feed_here", "_law_some"] (defScope (top 44)) := ⟨rfl, rfl, rfl, by decide +kernel, rfl, by decide +kernel, by decide +kernel⟩
theorem g_law_any (F : FnT K "_law_any" 44 f fd) (b : Blt mg) (kd : Kn P w K mg base T k "_law_draw" ["_law_feed_here", "_law_below"] preDraw) : FnOk P w K mg base (L2.CX P w) (k + 1) f fd ["_law_feed_here", "_law_some"] (prom K T preAny) := by
  refine fn_pb F sc44 (fun as n Φ ⟨b, h, _⟩ => by rw [h]; rfl) fun cdv A outer s H E fa B as n Φ hr hp => ?_
  obtain ⟨ds, rfl, hl0, hl1, hn, h⟩ := hp
  walk_at "pb"
  refine ex_call kd hr rfl (ea_f 0 rfl ?_)
  walk_at "pb"
  refine ex_lenJ b.len ?_
  walk_at "pb"
  refine ⟨ds.length, rfl, by omega, by omega, hn, fun v h0 h1 => ?_⟩
  walk_at "pb"
  have hv : v.toNat < ds.length := by omega
  refine ix_li h0 (List.getElem?_eq_getElem hv) ?_
  walk_at "pb"
  exact h _ (List.getElem_mem hv)
theorem sc47 : FnScope ["_law_feed_here", "_law_way", "_law_total", "_law_lap"] ["_law_feed_here"] (defScope (top 47)) := ⟨rfl, rfl, rfl, by decide +kernel, rfl, by decide +kernel, by decide +kernel⟩
theorem g_law_heap (F : FnT K "_law_heap" 47 f fd) (b : Blt mg) (kd : Kn P w K mg base T k "_law_draw" ["_law_feed_here", "_law_below"] preDraw) : FnOk P w K mg base (L2.CX P w) (k + 1) f fd ["_law_feed_here"] (prom K T preHeap) := by
  refine fn_pb F sc47 (fun as n Φ ⟨h, _⟩ => by rw [h]; rfl) fun cdv A outer s H E fa B as n Φ hr hp => ?_
  obtain ⟨rfl, hn, h⟩ := hp
  have e7 : (10 : Int) ^ (7 : Int).toNat = 10000000 := by decide
  walk_at "pb"
  refine sx_asg 1 sc47.nd (ex_call kd hr rfl (ea_f 0 rfl ?_))
  walk_at "pb"
  refine ⟨5, rfl, by omega, by omega, by omega, fun wy hw0 hw1 => ?_⟩
  walk_at "pb"
  refine ifd (fun h1 => ?_) (fun h1 => ?_)
  · walk_at "pb e"
    refine sv_more (n + 16) (by omega) ?_
    walk_at "pb"
    refine ex_call kd hr rfl (ea_f 0 rfl ?_)
    walk_at "pb"
    refine ex_l (el_ls ?_)
    walk_at "pb"
    refine ⟨[.int 3, .int 30, .int 400, .int 5000], rfl, by simp, ?_⟩
    walk_at "pb"
    have key : ∃ q : Int, [PyData.int 3, PyData.int 30, PyData.int 400, PyData.int 5000][wy.toNat]? = some (.int q) ∧ 1 ≤ q ∧ q ≤ 5000 := by
      have hw : wy = 0 ∨ wy = 1 ∨ wy = 2 ∨ wy = 3 := by omega
      rcases hw with rfl | rfl | rfl | rfl
      · exact ⟨3, rfl, by omega, by omega⟩
      · exact ⟨30, rfl, by omega, by omega⟩
      · exact ⟨400, rfl, by omega, by omega⟩
      · exact ⟨5000, rfl, by omega, by omega⟩
    obtain ⟨q, hq, hq0, hq1⟩ := key
    refine ix_li hw0 hq ?_
    walk_at "pb"
    refine ⟨q, rfl, hq0, by omega, by omega, fun v hv0 hv1 => ?_⟩
    walk_at "pb"
    refine h v hv0 (Int.lt_of_lt_of_le hv1 ?_)
    have : (5000 : Int) ≤ 10 ^ 56 := by decide
    omega
  · walk_at "pb"
    refine sx_asg 2 sc47.nd ?_
    walk_at "pb"
    refine sx_for 3 rfl sc47.nd (wx_range1 b.range ?_)
    walk_at "pb"
    refine ⟨by omega, by omega, ?_⟩
    refine ⟨fun i ρ' μ' n' => ∃ (u : Sl) (t : Int), ρ' = [.fd, .im (.int wy), .im (.int t), u] ∧ μ' = [] ∧ n' = n + 2 + 2 * i ∧ 0 ≤ t ∧ t < 10000000 ^ i, ⟨.un, 0, rfl, rfl, rfl, by omega, by decide⟩, ?_, ?_⟩
    · rintro i _ _ _ hi ⟨u, t, rfl, rfl, rfl, ht0, ht1⟩
      have hi : i < 8 := hi
      walk_at "pb e"
      refine sx_asg 2 sc47.nd ?_
      walk_at "pb"
      refine ⟨powI (by omega) (by omega) 7 (by omega), ?_⟩
      rw [e7]
      walk_at "pb"
      refine mul_int (mulR (by omega) (by omega)) ?_
      refine ex_call kd hr rfl (ea_f 0 rfl ?_)
      walk_at "pb"
      refine ⟨powI (by omega) (by omega) 7 (by omega), ?_⟩
      rw [e7]
      walk_at "pb"
      refine ⟨10000000, rfl, by omega, by omega, by omega, fun v hv0 hv1 => ?_⟩
      walk_at "pb"
      refine ⟨_, t * 10000000 + v, rfl, rfl, by omega, by omega, ?_⟩
      rw [Int.pow_succ]
      omega
    · rintro _ _ _ ⟨u, t, rfl, rfl, rfl, ht0, ht1⟩
      walk_at "pb"
      have ht1' : t < 10000000 ^ 8 := ht1
      have e8 : (10000000 : Int) ^ 8 = 10 ^ 56 := by decide
      rw [e8] at ht1'
      exact h t ht0 ht1'
theorem sc48 : FnScope ["_law_radix", "_law_heap_here", "_law_first", "_law_step", "_law_long", "_law_value", "_law_line_here", "_law_lap"] ["_law_radix", "_law_heap_here"] (defScope (top 48)) := ⟨rfl, rfl, rfl, by decide +kernel, rfl, by decide +kernel, by decide +kernel⟩
theorem g_law_line (F : FnT K "_law_line" 48 f fd) (b : Blt mg) : FnOk P w K mg base (L2.CX P w) (k + 1) f fd ["_law_radix", "_law_heap_here"] (prom K T preLine) := by
  refine fn_pb F sc48 (fun as n Φ ⟨b, _, h, _⟩ => by rw [h]; rfl) fun cdv A outer s H E fa B as n Φ hr hp => ?_
  obtain ⟨r, hh, rfl, hr2, hr256, hh0, hh1, h⟩ := hp
  walk_at "pb"
  refine sx_parC3 2 3 4 rfl sc48.nd ?_
  walk_at "pb"
  refine sx_while (fun m ρ' μ' n' => ∃ L : Nat, ρ' = [.im (.int r), .im (.int hh), .im (.int (rep r L)), .im (.int (r ^ L)), .im (.int L), .un, .un, .un] ∧ μ' = [] ∧ n' = n ∧ rep r L ≤ hh ∧ m = (hh - rep r L).toNat) hh.toNat ⟨0, by rw [Int.pow_zero]; rfl, rfl, rfl, hh0, by simp [rep]⟩ ?_
  rintro m _ _ n2 ⟨L, rfl, rfl, rfl, hL, rfl⟩
  have hL9 := len_of_rep hr2 hL hh1
  have hp := pow_pos_i hr2 L
  walk_at "pb"
  refine ifd (fun h1 => ?_) (fun h1 => ?_)
  · walk_at "pb"
    refine sx_par3 2 3 4 rfl sc48.nd ?_
    walk_at "pb"
    refine mul_int (mulR (by omega) (by omega)) ?_
    walk_at "pb"
    refine ⟨(hh - rep r (L + 1)).toNat, ?_, L + 1, ?_, rfl, rfl, ?_, rfl⟩
    · rw [rep_succ]
      omega
    · rw [rep_succ, Int.pow_succ]
      rfl
    · rw [rep_succ]
      omega
  · walk_at "pb"
    refine sx_parL 5 6 rfl sc48.nd ?_
    walk_at "pb"
    refine el_ls ?_
    walk_at "pb"
    refine ⟨[], rfl, by simp, ?_⟩
    walk_at "pb"
    refine sx_for 7 rfl sc48.nd (wx_range1 b.range ?_)
    walk_at "pb"
    refine ⟨by omega, by omega, ?_⟩
    have hv0 : 0 ≤ hh - rep r L := by omega
    have hrow : row r hh = fix r L (hh - rep r L) := by
      rw [← row_fix hr2 L (hh - rep r L) hv0 (by omega)]
      congr 1
      omega
    refine ⟨fun i ρ' μ' n' => ∃ (u : Sl) (v : Int) (ds : List Int), ρ' = [.im (.int r), .im (.int hh), .im (.int (rep r L)), .im (.int (r ^ L)), .im (.int L), .im (.int v), .ce 0, u] ∧ μ' = [.ls (ds.map .int)] ∧ n' = n2 ∧ ds.length = i ∧ fix r (L - i) v ++ ds.reverse = fix r L (hh - rep r L),
      ⟨.un, hh - rep r L, [], rfl, rfl, rfl, rfl, by rw [List.reverse_nil, List.append_nil]; rfl⟩, ?_, ?_⟩
    · rintro i _ _ _ hi ⟨u, v, ds, rfl, rfl, rfl, hds, hfx⟩
      have hi : i < L := by have : i < (L : Int).toNat := hi; omega
      walk_at "pb"
      refine sx_app 6 0 rfl rfl (by rw [List.length_map]; omega) ?_
      walk_at "pb"
      refine ex_int b.int ?_
      walk_at "pb"
      refine ⟨by omega, ?_⟩
      walk_at "pb"
      refine sx_asg 5 sc48.nd ?_
      walk_at "pb"
      refine ⟨divW (by omega) (by omega), ?_⟩
      walk_at "pb"
      refine ⟨.im (.int i), v / r, ds ++ [v % r], rfl, by rw [List.map_append]; rfl, rfl, by rw [List.length_append, hds]; rfl, ?_⟩
      rw [← hfx, List.reverse_append]
      have e : L - i = (L - (i + 1)) + 1 := by omega
      rw [e, fix, List.append_assoc]
      rfl
    · rintro _ _ _ ⟨u, v, ds, rfl, rfl, rfl, hds, hfx⟩
      have hz : L - (L : Int).toNat = 0 := by omega
      rw [hz, fix, List.nil_append] at hfx
      walk_at "pb e"
      refine sv_frz 6 0 rfl rfl ?_
      walk_at "pb"
      refine ex_tupJ b.tuple (ex_l (el_rv ?_))
      walk_at "pb"
      unfold itup at h
      rw [← List.map_reverse, hfx, ← hrow]
      exact h
theorem sc49 : FnScope ["_law_radix", "_law_line_here", "_law_total", "_law_digit"] ["_law_radix", "_law_line_here"] (defScope (top 49)) := ⟨rfl, rfl, rfl, by decide +kernel, rfl, by decide +kernel, by decide +kernel⟩
theorem g_law_stack (F : FnT K "_law_stack" 49 f fd) : FnOk P w K mg base (L2.CX P w) (k + 1) f fd ["_law_radix", "_law_line_here"] (prom K T preStack) := by
  refine fn_pb F sc49 (fun as n Φ ⟨b, _, _, h, _⟩ => by rw [h]; rfl) fun cdv A outer s H E fa B as n Φ hr hp => ?_
  obtain ⟨r, ns, d, rfl, hd, hr2, hr256, h⟩ := hp
  walk_at "pb"
  refine sx_asg 2 sc49.nd ?_
  walk_at "pb"
  have body : ∀ (i : Nat) (ρ' : List Sl) (μ' : List Ce) (n' : Nat), i < ns.length → (∃ u, ρ' = [.im (.int r), .im d, .im (.int (stk r 0 (ns.take i))), u] ∧ μ' = [] ∧ n' = n) →
      SB (cxOf (L2.CX P w) P w K mg base ["_law_radix", "_law_line_here", "_law_total", "_law_digit"] "_law_stack" (defScope (top 49)) f cdv A outer s H E) ⟨T, fa, B, H, E⟩ (match (defBody (top 49)).getD 1 (.Pass ⟨0, 0, 0, 0⟩) with | .For _ _ b _ _ => b | _ => [])
        (ρ'.set 3 (.im ((ns.map PyData.int).getD i .none))) μ' n' (lp (fun ρ' μ' n' => ∃ u, ρ' = [.im (.int r), .im d, .im (.int (stk r 0 (ns.take (i + 1)))), u] ∧ μ' = [] ∧ n' = n) (nxt (fun ρ' μ' n' => SB (cxOf (L2.CX P w) P w K mg base ["_law_radix", "_law_line_here", "_law_total", "_law_digit"] "_law_stack" (defScope (top 49)) f cdv A outer s H E) ⟨T, fa, B, H, E⟩ ((defBody (top 49)).drop 2) ρ' μ' n' (fin Φ)) (fin Φ))) := by
    rintro i _ _ _ hi ⟨u, rfl, rfl, rfl⟩
    have e : (ns.map PyData.int).getD i .none = .int ns[i] := by rw [List.getD_eq_getElem?_getD, List.getElem?_map, List.getElem?_eq_getElem hi]; rfl
    rw [e]
    walk_at "pb e"
    refine sx_asg 2 sc49.nd ?_
    walk_at "pb"
    refine mul_int (mulL (by omega) (by omega)) ?_
    walk_at "pb"
    refine ⟨.im (.int ns[i]), ?_, rfl, rfl⟩
    have e2 : stk r 0 (ns.take (i + 1)) = r * stk r 0 (ns.take i) + ns[i] + 1 := by
      unfold stk
      rw [List.take_succ_eq_append_getElem hi, List.foldl_append]
      show _ * r + ns[i] + 1 = _
      rw [Int.mul_comm]
    rw [e2]
    rfl
  have done : ∀ (ρ' : List Sl) (μ' : List Ce) (n' : Nat), (∃ u, ρ' = [.im (.int r), .im d, .im (.int (stk r 0 (ns.take ns.length))), u] ∧ μ' = [] ∧ n' = n) →
      nxt (fun ρ' μ' n' => SB (cxOf (L2.CX P w) P w K mg base ["_law_radix", "_law_line_here", "_law_total", "_law_digit"] "_law_stack" (defScope (top 49)) f cdv A outer s H E) ⟨T, fa, B, H, E⟩ ((defBody (top 49)).drop 2) ρ' μ' n' (fin Φ)) (fin Φ) (.nx ρ' μ' n') := by
    rintro _ _ _ ⟨u, rfl, rfl, rfl⟩
    walk_at "pb"
    rw [List.take_length]
    exact h
  have hl : (ns.map PyData.int).length = ns.length := by rw [List.length_map]
  rcases hd with rfl | rfl
  · refine sx_for 3 rfl sc49.nd (wx_tup ?_)
    unfold itup
    walk_at "pb"
    rw [hl]
    exact ⟨_, ⟨.un, rfl, rfl, rfl⟩, body, done⟩
  · refine sx_for 3 rfl sc49.nd (wx_list ?_)
    walk_at "pb"
    rw [hl]
    exact ⟨_, ⟨.un, rfl, rfl, rfl⟩, body, done⟩
theorem sc50 : FnScope ["_law_base", "_law_heaps", "_law_tape_here", "_law_heap_here"] ["_law_base", "_law_heaps"] (defScope (top 50)) := ⟨rfl, rfl, rfl, by decide +kernel, rfl, by decide +kernel, by decide +kernel⟩
theorem g_law_tape (F : FnT K "_law_tape" 50 f fd) (kl : Kn P w K mg base T k "_law_line" ["_law_radix", "_law_heap_here"] preLine) : FnOk P w K mg base (L2.CX P w) (k + 1) f fd ["_law_base", "_law_heaps"] (prom K T preTape) := by
  refine fn_pb F sc50 (fun as n Φ ⟨b, _, h, _⟩ => by rw [h]; rfl) fun cdv A outer s H E fa B as n Φ hr hp => ?_
  obtain ⟨bs, hs, rfl, hb1, hb2, hh, hl, h⟩ := hp
  unfold itup
  walk_at "pb"
  refine sx_asg 2 sc50.nd (ex_tup ?_)
  walk_at "pb"
  refine ⟨[], rfl, by simp, ?_⟩
  walk_at "pb"
  refine sx_for 3 rfl sc50.nd (wx_tup ?_)
  walk_at "pb"
  refine ⟨fun i ρ' μ' n' => ∃ (u : Sl), ρ' = [.im (.int bs), .im (.tuple (hs.map .int)), .im (.tuple (((hs.take i).flatMap fun s => (bs - 1) :: row (bs - 1) s).map .int)), u] ∧ μ' = [] ∧ n' = n ∧ ((hs.take i).flatMap fun s => (bs - 1) :: row (bs - 1) s).length ≤ 901 * i, ⟨.un, rfl, rfl, rfl, by simp⟩, ?_, ?_⟩
  · rintro i _ _ _ hi ⟨u, rfl, rfl, rfl, hlen⟩
    rw [List.length_map] at hi
    have e : (hs.map PyData.int).getD i .none = .int hs[i] := by rw [List.getD_eq_getElem?_getD, List.getElem?_map, List.getElem?_eq_getElem hi]; rfl
    have hhi := hh _ (List.getElem_mem hi)
    have hrl := row_len (r := bs - 1) (h := 0) (by omega) 900 hs[i] hhi.2
    have hstep : ((hs.take (i + 1)).flatMap fun s => (bs - 1) :: row (bs - 1) s) = ((hs.take i).flatMap fun s => (bs - 1) :: row (bs - 1) s) ++ [bs - 1] ++ row (bs - 1) hs[i] := by
      rw [List.take_succ_eq_append_getElem hi, List.flatMap_append]
      simp
    dsimp only
    rw [e]
    walk_at "pb e"
    refine sx_asg 2 sc50.nd ?_
    walk_at "pb"
    refine ex_tup ?_
    walk_at "pb"
    refine ⟨[.int (bs - 1)], rfl, by simp, ?_⟩
    refine add_tup (by rw [List.length_map, List.length_singleton]; omega) ?_
    refine ex_call kl hr rfl ?_
    walk_at "pb"
    refine ⟨bs - 1, hs[i], rfl, by omega, by omega, hhi.1, hhi.2, ?_⟩
    unfold itup
    walk_at "pb"
    refine add_tup (by rw [List.length_append, List.length_map, List.length_singleton, List.length_map]; omega) ?_
    walk_at "pb"
    refine ⟨.im (.int hs[i]), ?_, rfl, rfl, ?_⟩
    · rw [hstep, List.map_append, List.map_append]
      rfl
    · rw [hstep, List.length_append, List.length_append, List.length_singleton]
      omega
  · rintro _ _ _ ⟨u, rfl, rfl, rfl, hlen⟩
    rw [List.length_map] at hlen
    rw [List.length_map, List.take_length]
    rw [List.take_length] at hlen
    walk_at "pb"
    refine ex_tup ?_
    walk_at "pb"
    refine ⟨[.int (bs - 1)], rfl, by simp, ?_⟩
    refine add_tup (by rw [List.length_map, List.length_singleton]; omega) ?_
    walk_at "pb"
    unfold itup strm at h
    rw [List.map_append] at h
    exact h
end
end Pb

set_option Elab.async false
set_option linter.all false
set_option maxRecDepth 100000
set_option maxHeartbeats 4000000
/-! PbR: sorted of tuples, zip, stores into a list, unpacking. -/
namespace Pb
open PySem PySem.Spec PyProof.Rows L2
section
open SrtO
variable {prog : Program} {w : World} {A : Around} {E : Value → Shared → Prop} {s : Shared}
theorem collect_tup {l : Addr} {vs : List Value} {Q : List Value → Shared → Prop} (hl : s.heap.IsTuple l vs.toArray) (hsz : vs.length ≤ sizeLine)
    (hq : Q vs { s with heap := (s.heap.push (seqObj "list" #[] 0)).update s.heap.objs.size (Obj.mapSeq (· ++ vs.toArray)) }) : wpAny (model prog w) A (collect (.ref l)) Q E s := by
  obtain ⟨o, ho, hc, n, hd⟩ := id hl
  unfold collect
  refine wpAny_bind (wpAny_runValue (codeAny_builtin entry_proto_collect' ?_))
  show wpAny _ _ (do again (.builtin "list.__iadd__" ⟨[← newList [], .ref l], []⟩)) _ _ s
  refine wpAny_bind (wpAny_newList (wpAny_pure ⟨Code.quiet_builtin _ (by decide +kernel), codeAny_builtin entry_list_iadd' ?_⟩))
  show wpAny _ _ (Builtin.List.listExtendWith (.ref s.heap.objs.size) (.ref l) (.ref s.heap.objs.size)) _ _ { s with heap := s.heap.push (seqObj "list" #[] 0) }
  unfold Builtin.List.listExtendWith
  have hp : (s.heap.push (seqObj "list" #[] 0)).get? l = some o := Heap.get?_push_of_some _ ho
  refine wpAny_bind (wpAny_typeOf (T := "tuple") ⟨o, hp, hc⟩ ?_)
  have ht : (Value.type "tuple" == Value.type "tuple") = true := by rfl
  rw [if_pos (by rw [ht]; simp)]
  refine wpAny_bind (listItems_at hp hd ?_)
  refine wpAny_bind (listItems_at (xs := #[]) (n := 0) (Heap.get?_push_size _ rfl) rfl ?_)
  rw [if_neg (by simp)]
  refine wpAny_bind (listUpdate_at (xs := #[]) (n := 0) (Heap.get?_push_size _ rfl) rfl ?_ (Nat.zero_le _) (by show (#[] ++ vs.toArray).size ≤ sizeLine + 1; simp only [Array.size_append, List.size_toArray, List.length_nil]; omega))
  refine wpAny_pure ?_
  show wpAny (model prog w) A (do
      let o ← load s.heap.objs.size
      match o.data with
      | .seq xs _ => pure xs.toList
      | _ => unsupported "internal:collect") Q E { s with heap := (s.heap.push (seqObj "list" #[] 0)).update s.heap.objs.size (Obj.mapSeq (· ++ vs.toArray)) }
  refine wpAny_bind (wpAny_load (get?_update_seq (Heap.get?_push_size _ rfl) _) ?_)
  show wpAny _ _ (pure ((#[] : Array Value) ++ vs.toArray).toList) Q E _
  rw [show ((#[] : Array Value) ++ vs.toArray).toList = vs by simp]
  exact wpAny_pure hq
theorem sorted_ordT {l : Addr} {vs : List Value} {ltv : Value → Value → Bool} {Q : Value → Shared → Prop} (O : Swo ltv) (hl : s.heap.IsTuple l vs.toArray) (hz : vs.length ≤ sizeLine)
    (hS : 2 ≤ vs.length → ∀ (h₁ : Heap) (a : Addr), h₁.get? a = some (seqObj "list" vs.toArray 0) → (∀ b o, s.heap.get? b = some o → b ≠ a ∧ h₁.get? b = some o) → SortableO prog w A.in1.in1 { s with heap := h₁ } a vs ltv)
    (hq : ∀ out : List Value, Srtd ltv out → Stb ltv out vs → Q (.ref (s.heap.objs.size + 1)) { s with heap := sortedAll s.heap vs out.toArray }) : wpAny (model prog w) A (call (.builtin "sorted") [.ref l]) Q E s := by
  refine Calls.call_function_entry kind_sorted plain_sorted entry_sorted (args_sorted1 _) ?_
  unfold Builtin.«sorted»
  refine wpAny_bind (m := checkCount "sorted" 1 1 _) (wpAny_pure ?_)
  refine wpAny_bind (collect_tup hl hz ?_)
  refine wpAny_bind (wpAny_newList ?_ hz)
  have hsz : ((s.heap.push (seqObj "list" #[] 0)).update s.heap.objs.size (Obj.mapSeq (· ++ vs.toArray))).objs.size = s.heap.objs.size + 1 := by
    rw [Heap.size_update, size_push']
  have hoL : (((s.heap.push (seqObj "list" #[] 0)).update s.heap.objs.size (Obj.mapSeq (· ++ vs.toArray))).push (seqObj "list" vs.toArray 0)).get? (s.heap.objs.size + 1) = some (seqObj "list" vs.toArray 0) := by
    rw [← hsz]
    exact Heap.get?_push_size _ rfl
  have keep : ∀ b o, s.heap.get? b = some o → b ≠ s.heap.objs.size + 1 ∧ (((s.heap.push (seqObj "list" #[] 0)).update s.heap.objs.size (Obj.mapSeq (· ++ vs.toArray))).push (seqObj "list" vs.toArray 0)).get? b = some o := fun b o q => by
    have hlt : b < s.heap.objs.size := Heap.lt_size q
    refine ⟨Nat.ne_of_lt (Nat.lt_succ_of_lt hlt), Heap.get?_push_of_some _ ?_⟩
    rw [Heap.get?_update_ne _ _ _ _ (Nat.ne_of_lt hlt)]
    exact Heap.get?_push_of_some _ q
  show wpAny _ _ _ _ _ { s with heap := ((s.heap.push (seqObj "list" #[] 0)).update s.heap.objs.size (Obj.mapSeq (· ++ vs.toArray))).push (seqObj "list" vs.toArray 0) }
  rw [hsz]
  refine wpAny_bind (wpAny_holding (wpAny_call_entry slot_list_sort ⟨_, hoL, rfl⟩ entry_list_sort (list_sort_ord O hoL hz (fun h2 => hS h2 _ _ hoL keep) fun out hs hb => ⟨_, rfl, ?_⟩) (args_list_sort _)))
  exact wpAny_pure ⟨_, rfl, hq out hs hb⟩
end
def rSortedT (K : Frg) : List V → Hp → VK → Prop := fun vs H Q => ∃ (a : Addr) (ns : List Int), vs = [V.ref a] ∧ SqT K H a (ns.map V.int) ∧ ∀ (ns' : List Int) (p : Addr), ns'.Perm ns → ns'.Pairwise (· ≤ ·) → H p = none → Q (.ref p) (upd H p (.lst (ns'.map V.int)))
theorem cr_sortedT {X : Cx} : CallR X (.builtin "sorted") (rSortedT X.K) := by
  intro pins s σ H vs us Q I r h
  obtain ⟨a, ns, rfl, hs, q⟩ := h
  obtain ⟨its, rv, hl, hz⟩ := I.tuple hs
  rw [Vals.ref1 r]
  have hi := rv.ints
  refine sorted_ordT SrtO.swo_int (show s.heap.IsTuple a its.toArray from hl) (by rw [← rv.length]; exact hz) (fun h2 h₁ a' _ _ => SrtO.ints_sortable hi h2) fun out h1 h2 => ?_
  obtain ⟨k1, k2, k3⟩ := SrtO.ints_out hi h1 h2
  obtain ⟨ep, he'⟩ := PyProof.Rows.sortedAll_at s.heap its out.toArray
  have hlen : ((out.map SrtO.iv).map V.int).length ≤ sizeLine := by
    rw [List.length_map, k2.length_eq]
    rw [List.length_map] at hz
    exact hz
  exact ⟨.ref _, upd H (s.heap.objs.size + 1) (.lst ((out.map SrtO.iv).map V.int)), I.laid (t' := s.toks) (fun _ _ => PyProof.Rows.sortedAll_old) (Nat.le_succ _) ⟨hlen, out, ep, vals_of_ints k1, he'⟩, rfl, q _ _ k2 k3 (I.hok.fresh (Nat.le_succ _))⟩
theorem CallR_or {X : Cx} {f : Value} {r r' : List V → Hp → VK → Prop} (h : CallR X f r) (h' : CallR X f r') : CallR X f (fun vs H Q => r vs H Q ∨ r' vs H Q) := fun pins s σ H xs us Q I rx q => q.elim (h pins s σ H xs us Q I rx) (h' pins s σ H xs us Q I rx)
section
variable {K : Frg} {C : Ct} {ρ : List Sl} {μ : List Ce} {n : Nat}
theorem wi_zip {ta tb : TE} {Φ : Nat → (Nat → PyData) → Nat → Prop} (h : Ev K C ta ρ μ n fun d1 n1 => Ev K C tb ρ μ n1 fun d2 n2 => ∃ ds es, ((d1 = .list ds ∧ d2 = .list es) ∨ (d1 = .tuple ds ∧ d2 = .tuple es)) ∧ Φ (min ds.length es.length) (fun i => .tuple [ds.getD i .none, es.getD i .none]) n2) : Wi K C (RZ.iZipA K (tCons ta (tCons tb tNil))) ρ μ n Φ := fun ads σ B H R r q =>
  h ads σ B H _ r fun v d1 B1 H1 n1 e1 r1 p1 h2 => h2 ads σ B1 H1 _ r1 fun u d2 B2 H2 n2 e2 r2 p2 ⟨ds, es, hk, f⟩ => by
    have p1' := dp_up e2 _ _ p1
    have hy : ∀ {a b : Addr} {vs ws : List V}, DqAll B2 vs ds → DqAll B2 ws es → ∀ (i : Nat) (H : Hp) (T : Addr) (x y : V), i < min ds.length es.length → H T = none → vs[i]? = some x → ws[i]? = some y → ∀ B, Same B2 B → Same B H → ∃ B', Gr B H B' (upd H T (.tup [x, y])) ∧ Dq B' (.ref T) (.tuple [ds.getD i .none, es.getD i .none]) := by
      intro a b vs ws hd he i H T x y hi hT hx hy B sB sH
      have h1 : i < ds.length := by omega
      have h2 : i < es.length := by omega
      obtain ⟨x', ex, px⟩ := dps_get hd (List.getElem?_eq_getElem h1)
      obtain ⟨y', ey, py⟩ := dps_get he (List.getElem?_eq_getElem h2)
      rw [hx] at ex
      rw [hy] at ey
      cases ex
      cases ey
      have g := Gr.new (o := .tup [x, y]) sH hT
      refine ⟨_, g, .tup upd_same (.cons ?_ (.cons ?_ .nil))⟩
      · rw [List.getD_eq_getElem?_getD, List.getElem?_eq_getElem h1]
        exact dp_up (sB.trans g.b) _ _ px
      · rw [List.getD_eq_getElem?_getD, List.getElem?_eq_getElem h2]
        exact dp_up (sB.trans g.b) _ _ py
    rcases hk with ⟨rfl, rfl⟩ | ⟨rfl, rfl⟩
    · obtain ⟨a, vs, rfl, hs, hd⟩ := dp_lst p1'
      obtain ⟨b, ws, rfl, ht, he⟩ := dp_lst p2
      refine ⟨a, b, vs, ws, rfl, .inl ⟨ltr (r2.sub _ _ hs), ltr (r2.sub _ _ ht), q _ _ _ _ _ n2 (e1.trans e2) r2 ⟨fun H s => ?_, fun i H hi s => ?_, fun i H x H' hi s hyl B sB sH => ?_⟩ f⟩⟩
      · exact ⟨vs, ws, ltr (s _ _ hs), ltr (s _ _ ht), by rw [dps_len hd, dps_len he]; omega⟩
      · obtain ⟨v, ev, _⟩ := dps_get hd (List.getElem?_eq_getElem (show i < ds.length by omega))
        obtain ⟨u, eu, _⟩ := dps_get he (List.getElem?_eq_getElem (show i < es.length by omega))
        exact ⟨vs, ws, v, u, ltr (s _ _ hs), ltr (s _ _ ht), ev, eu⟩
      · obtain ⟨T, y, z, rfl, hT, rfl, fx, fy⟩ := hyl
        exact hy (a := a) (b := b) hd he i H T y z hi hT (fx _ (ltr (s _ _ hs))) (fy _ (ltr (s _ _ ht))) B sB sH
    · obtain ⟨a, vs, rfl, hs, hd⟩ := dp_tup p1'
      obtain ⟨b, ws, rfl, ht, he⟩ := dp_tup p2
      refine ⟨a, b, vs, ws, rfl, .inr ⟨ttr (r2.sub _ _ hs), ttr (r2.sub _ _ ht), q _ _ _ _ _ n2 (e1.trans e2) r2 ⟨fun H s => ?_, fun i H hi s => ?_, fun i H x H' hi s hyl B sB sH => ?_⟩ f⟩⟩
      · exact ⟨vs, ws, ttr (s _ _ hs), ttr (s _ _ ht), by rw [dps_len hd, dps_len he]; omega⟩
      · obtain ⟨v, ev, _⟩ := dps_get hd (List.getElem?_eq_getElem (show i < ds.length by omega))
        obtain ⟨u, eu, _⟩ := dps_get he (List.getElem?_eq_getElem (show i < es.length by omega))
        exact ⟨vs, ws, v, u, ttr (s _ _ hs), ttr (s _ _ ht), ev, eu⟩
      · obtain ⟨T, y, z, rfl, hT, rfl, fx, fy⟩ := hyl
        exact hy (a := a) (b := b) hd he i H T y z hi hT (fx _ (ttr (s _ _ hs))) (fy _ (ttr (s _ _ ht))) B sB sH
theorem tg_unl {i j : Nat} {d e : PyData} : Tg K (gUnl K 2 (gCons (gName i) (gCons (gName j) gNil))) (.list [d, e]) ρ ((ρ.set i (.im d)).set j (.im e)) := fun C ads B H σ μ n v Q r p q => by
  obtain ⟨a, vs, rfl, hs, hd⟩ := dp_lst p
  cases hd with
  | cons h1 hd =>
    cases hd with
    | cons h2 hd =>
      cases hd
      exact ⟨a, _, rfl, ltr (r.sub _ _ hs), rfl, _, _, rfl, _, _, rfl, rfl, q _ ((r.setI i h1).setI j h2)⟩
theorem el_sorted {ta : TE} {Λ : List PyData → Nat → Prop} (h : Ev K C ta ρ μ n fun d n1 => ∃ ns : List Int, (d = .list (ns.map .int) ∨ d = .tuple (ns.map .int)) ∧ ∀ ns' : List Int, ns'.Perm ns → ns'.Pairwise (· ≤ ·) → Λ (ns'.map .int) n1) : EvL K C (tCB (fun vs H Q => rSortedI K vs H Q ∨ rSortedT K vs H Q) (tCons ta tNil)) ρ μ n Λ := fun ads σ B H Q r q =>
  h ads σ B H _ r fun v d B1 H1 n1 e1 r1 p1 ⟨ns, hk, f⟩ => by
    rcases hk with rfl | rfl
    · obtain ⟨a, vs, rfl, hs, hd⟩ := dp_lst p1
      rw [ints_dps ns vs hd] at hs
      exact .inl ⟨a, ns, rfl, ltr (r1.sub _ _ hs), fun ns' p h1 h2 hp => q p _ B1 _ n1 e1 (r1.cell hp (dps_ints ns')) (f ns' h1 h2)⟩
    · obtain ⟨a, vs, rfl, hs, hd⟩ := dp_tup p1
      rw [ints_dps ns vs hd] at hs
      exact .inr ⟨a, ns, rfl, ttr (r1.sub _ _ hs), fun ns' p h1 h2 hp => q p _ B1 _ n1 e1 (r1.cell hp (dps_ints ns')) (f ns' h1 h2)⟩
/-- x[i] = e -/
theorem sv_setL {te ti : TE} {i k : Nat} {ds : List PyData} {Ψ : Out → Prop} (hi : ρ[i]? = some (.ce k)) (hm : μ[k]? = some (.ls ds)) (h : Ev K C te ρ μ n fun d n1 => Ev K C ti ρ μ n1 fun d2 n2 => ∃ j : Nat, d2 = .int (j : Int) ∧ j < ds.length ∧ Ψ (.nx ρ (μ.set k (.ls (ds.set j d))) n2)) :
    Sv K C (tAsg te (gSub (tVar i) ti rSetL)) ρ μ n Ψ := fun ads σ B H D r a e =>
  h ads σ B H _ r fun v d B1 H1 n1 e1 r1 p1 h2 => by
    obtain ⟨o, e2, p, e3, e4⟩ := pr_get r1.sl hi
    subst e4
    refine ⟨_, e2, h2 ads σ B1 H1 _ r1 fun u d2 B2 H2 n2 e5 r2 p2 ⟨j, ed, hj, f⟩ => ?_⟩
    subst ed
    obtain ⟨p', e6, c1, c2, vs, c3, c4⟩ := pr_get r2.ce hm
    rw [e3] at e6
    cases e6
    refine ⟨p, vs, j, j, rfl, dp_int p2, c3, ?_, a.nx _ _ _ _ _ _ _ (e1.trans e5) (r2.put e3 hm (dps_set (dp_up e5 _ _ p1) j c4)) f⟩
    have hv : j < vs.length := by rw [dps_len c4]; exact hj
    unfold ixN
    rw [if_pos (by omega), if_pos (by omega)]
    simp
/-- x[i], x a list of one's own -/
theorem ev_ixC {ti : TE} {i k : Nat} {ds : List PyData} {Φ : PyData → Nat → Prop} (hi : ρ[i]? = some (.ce k)) (hm : μ[k]? = some (.ls ds)) (h : Ev K C ti ρ μ n fun d2 n2 => ∃ (j : Nat) (d : PyData), d2 = .int (j : Int) ∧ ds[j]? = some d ∧ Φ d n2) :
    Ev K C (tOp (rIxL K) (tVar i) ti) ρ μ n Φ := fun ads σ B H Q r q => by
  obtain ⟨o, e2, p, e3, e4⟩ := pr_get r.sl hi
  subst e4
  refine ⟨_, e2, h ads σ B H _ r fun u d2 B2 H2 n2 e5 r2 p2 ⟨j, d, ed, hj, f⟩ => ?_⟩
  subst ed
  obtain ⟨p', e6, c1, c2, vs, c3, c4⟩ := pr_get r2.ce hm
  rw [e3] at e6
  cases e6
  obtain ⟨v, e7, p3⟩ := dps_get c4 hj
  exact ⟨p, vs, _, v, rfl, dp_int p2, ltr c3, atI_nat e7, q v d B2 H2 n2 e5 r2 p3 f⟩
end
section
variable {X : Cx} {C : Ct} {ρ : List Sl} {μ : List Ce} {n : Nat} {a b c e : Expr} {pos p p2 : Pos} {Φ : PyData → Nat → Prop} {Λ : List PyData → Nat → Prop} {Ψ : Out → Prop} {x y z : Str}
theorem el_sort (hm : X.mg "sorted" = none) (h : EX X C a ρ μ n fun d n1 => ∃ ns : List Int, (d = .list (ns.map .int) ∨ d = .tuple (ns.map .int)) ∧ ∀ ns' : List Int, ns'.Perm ns → ns'.Pairwise (· ≤ ·) → Λ (ns'.map .int) n1) (hg : Gl X "sorted" := by rfl) (hs : starEach (a :: []) X.env = (false, eval a X.env) :: starEach [] X.env := by rfl) :
    EL X C (.Call (.Name "sorted" p) [a] [] pos) ρ μ n Λ := el_of (pe_callB (CallR_or cr_sortedI cr_sortedT) hg hm (by decide +kernel) (pa_cons pe_can pa_nil hs) (by decide) (by decide) hs rfl) (el_sorted h)
theorem wx_zip {elts : List Expr} {kk : Nat} {tpos : Pos} {Ω : Nat → (Nat → PyData) → Nat → Prop} (hm : X.mg "zip" = none) (h : EX X C a ρ μ n fun d1 n1 => EX X C b ρ μ n1 fun d2 n2 => ∃ ds es, ((d1 = .list ds ∧ d2 = .list es) ∨ (d1 = .tuple ds ∧ d2 = .tuple es)) ∧ Ω (min ds.length es.length) (fun i => .tuple [ds.getD i .none, es.getD i .none]) n2)
    (hg : Gl X "zip" := by rfl) (hs : starEach [a, b] X.env = (false, eval a X.env) :: starEach [b] X.env := by rfl) (hsb : starEach (b :: []) X.env = (false, eval b X.env) :: starEach [] X.env := by rfl) (hpl : (backTo pos (starEach [b] X.env)).any (·.1) = false := by rfl) :
    WX X C (.Tuple elts kk tpos) (.Call (.Name "zip" p) [a, b] [] pos) ρ μ n Ω := wx_of (RZ.pi_zipA hg hm (pa_cons pe_can (pa_cons pe_can pa_nil hsb) hs) hs hpl) (wi_zip h)
theorem sx_for2 (i j : Nat) {it : Expr} {px py tpos : Pos} {kk : Nat} {body : List Stmt} (hc : X.calm = true) (nd : X.N.Nodup)
    (h : WX X C (.Tuple [.Name x px, .Name y py] kk tpos) it ρ μ n fun len dx n1 => ∃ (dl dr : Nat → PyData) (I : Nat → List Sl → List Ce → Nat → Prop), (∀ k, k < len → dx k = .tuple [dl k, dr k]) ∧ I 0 ρ μ n1 ∧ (∀ k ρ' μ' n', k < len → I k ρ' μ' n' → SB X C body ((ρ'.set i (.im (dl k))).set j (.im (dr k))) μ' n' (lp (I (k + 1)) Ψ)) ∧ ∀ ρ' μ' n', I len ρ' μ' n' → Ψ (.nx ρ' μ' n'))
    (hi : X.N[i]? = some x := by rfl) (hj : X.N[j]? = some y := by rfl) (hx : Loc X.env.scope x := by first | exact .inl rfl | exact .inr rfl) (hfx : X.fn x = true ∨ X.env.scope.names.lookup x = some .local := by first | exact .inl rfl | exact .inr rfl) (hy : Loc X.env.scope y := by first | exact .inl rfl | exact .inr rfl) (hfy : X.fn y = true ∨ X.env.scope.names.lookup y = some .local := by first | exact .inl rfl | exact .inr rfl)
    (hp : PassesOwn (model X.prog X.w) X.A X.env X.xe := by exact passes_of rfl) (hs : ∀ y, foldedSetIterable it X.env y = pure y := by intro _; rfl) :
    SX X C (.For (.Tuple [.Name x px, .Name y py] kk tpos) it body [] pos) ρ μ n Ψ := sx_of (ps_for hp hc pi_can (pg_tup hc (pgs_cons (pg_name nd hi hx hfx) (pgs_cons (pg_name nd hj hy hfy) pgs_nil))) pss_can hs) (sv_for fun ads σ B H R r q =>
      h ads σ B H R r fun J len dx B' H' n' e r' wk ⟨dl, dr, I, hdx, h0, h1, h2⟩ => q J len dx B' H' n' e r' wk ⟨I, h0, fun k ρ' μ' n2 hk hI => by
        rw [hdx k hk]
        exact ⟨_, tg_pair, h1 k ρ' μ' n2 hk hI⟩, h2⟩)
theorem sx_unl (i j : Nat) {px py tpos : Pos} {kk : Nat} (hc : X.calm = true) (nd : X.N.Nodup) (h : EX X C e ρ μ n fun d n1 => ∃ d1 d2, d = .list [d1, d2] ∧ Ψ (.nx ((ρ.set i (.im d1)).set j (.im d2)) μ n1)) (hi : X.N[i]? = some x := by rfl) (hj : X.N[j]? = some y := by rfl)
    (hx : Loc X.env.scope x := by first | exact .inl rfl | exact .inr rfl) (hfx : X.fn x = true ∨ X.env.scope.names.lookup x = some .local := by first | exact .inl rfl | exact .inr rfl) (hy : Loc X.env.scope y := by first | exact .inl rfl | exact .inr rfl) (hfy : X.fn y = true ∨ X.env.scope.names.lookup y = some .local := by first | exact .inl rfl | exact .inr rfl)
    (hw : swappedStores [.Tuple [.Name x px, .Name y py] kk tpos] e X.env = pure none := by rfl) (hs : swapsWithSole [.Tuple [.Name x px, .Name y py] kk tpos] e pos.line X.env = pure false := by rfl) : SX X C (.Assign [.Tuple [.Name x px, .Name y py] kk tpos] e pos) ρ μ n Ψ :=
  sx_of (ps_asg pe_can (pg_unl hc (pgs_cons (pg_name nd hi hx hfx) (pgs_cons (pg_name nd hj hy hfy) pgs_nil))) hs hw) fun ads σ B H D r ac ae => h ads σ B H _ r fun v d B' H' n' e r' p ⟨d1, d2, ed, f⟩ => by
    subst ed
    exact tg_unl C ads B' H' σ μ n' v _ r' p fun σ' r2 => ac.nx _ _ _ _ _ _ _ e r2 f
theorem sx_setL (i k : Nat) {ds : List PyData} {px ps : Pos} (hi : ρ[i]? = some (.ce k)) (hm : μ[k]? = some (.ls ds)) (h : EX X C e ρ μ n fun d n1 => EX X C a ρ μ n1 fun d2 n2 => ∃ j : Nat, d2 = .int (j : Int) ∧ j < ds.length ∧ Ψ (.nx ρ (μ.set k (.ls (ds.set j d))) n2)) (hN : X.N[i]? = some x := by rfl) (hv : Vis X.env.scope x := by first | exact Or.inl rfl | exact Or.inr (Or.inl rfl) | exact Or.inr (Or.inr rfl))
    (hd : (x == ("__debug__" : Str)) = false := by decide) (hcd : (x == ("__classdict__" : Str)) = false := by decide)
    (ha : ∀ v, assign (.Subscript (.Name x px) a ps) X.env v = (do
      let ov ← holding [v] (eval (.Name x px) X.env)
      let iv ← holding [v, ov] (eval a X.env)
      standAt ps
      holding [v, ov, iv] (setItem ov iv v)
      release [v, ov, iv] []) := by intro _; rfl)
    (hw : swappedStores [.Subscript (.Name x px) a ps] e X.env = pure none := by rfl) (hs : swapsWithSole [.Subscript (.Name x px) a ps] e pos.line X.env = pure false := by rfl) : SX X C (.Assign [.Subscript (.Name x px) a ps] e pos) ρ μ n Ψ :=
  sx_of (ps_asg pe_can (pg_sub (pe_var hN hv hd hcd) pe_can set_list ha) hs hw) (sv_setL hi hm h)
theorem ex_ixC (i k : Nat) {ds : List PyData} {px : Pos} (hi : ρ[i]? = some (.ce k)) (hm : μ[k]? = some (.ls ds)) (h : EX X C a ρ μ n fun d2 n2 => ∃ (j : Nat) (d : PyData), d2 = .int (j : Int) ∧ ds[j]? = some d ∧ Φ d n2) (hN : X.N[i]? = some x := by rfl) (hv : Vis X.env.scope x := by first | exact Or.inl rfl | exact Or.inr (Or.inl rfl) | exact Or.inr (Or.inr rfl))
    (hd : (x == ("__debug__" : Str)) = false := by decide) (hcd : (x == ("__classdict__" : Str)) = false := by decide) (hs : PlainIx a := by exact fun _ _ => rfl) : EX X C (.Subscript (.Name x px) a pos) ρ μ n Φ := ex_of (pe_ix ix_list (pe_var hN hv hd hcd) pe_can hs) (ev_ixC hi hm h)
end
end Pb

set_option Elab.async false
set_option linter.all false
set_option maxRecDepth 100000
set_option maxHeartbeats 4000000
/-! PbX: plain mathematics: frames in a scrap. -/
namespace Pb
/-! ### slices -/
theorem cut_hi {α : Type} (xs : List α) (k : Nat) : cutL xs none (some (k : Int)) = xs.take k := by
  unfold cutL
  rw [HT.sIx_nat, HT.sIx_none, List.drop_zero, Nat.sub_zero, List.take_eq_take_iff]
  omega
theorem cut_lo {α : Type} (xs : List α) (k : Nat) : cutL xs (some (k : Int)) none = xs.drop k := by
  unfold cutL
  rw [HT.sIx_nat, HT.sIx_none]
  by_cases h : k ≤ xs.length
  · rw [Nat.min_eq_left h, List.take_of_length_le (by rw [List.length_drop]; omega)]
  · rw [Nat.min_eq_right (by omega), List.drop_length, List.take_nil, List.drop_eq_nil_of_le (by omega)]
theorem cut_lh {α : Type} (xs : List α) (k l : Nat) : cutL xs (some (k : Int)) (some (l : Int)) = (xs.drop k).take (l - k) := by
  unfold cutL
  rw [HT.sIx_nat, HT.sIx_nat]
  by_cases h : k ≤ xs.length
  · have e : min k xs.length = k := by omega
    rw [e, List.take_eq_take_iff, List.length_drop]
    omega
  · have e : min k xs.length = xs.length := by omega
    rw [e, List.drop_length, List.take_nil, List.drop_eq_nil_of_le (by omega), List.take_nil]
/-! ### marks -/
/-- the places of the mark, counted from k -/
def mk (m : Int) : Nat → List Int → List Nat
  | _, [] => []
  | k, d :: ds => if d = m then k :: mk m (k + 1) ds else mk m (k + 1) ds
theorem mk_range (m : Int) : ∀ (ds : List Int) (k : Nat), mk m k ds = ((List.range ds.length).filter fun i => decide (ds.getD i 0 = m)).map (· + k)
  | [], k => rfl
  | d :: ds, k => by
    rw [mk, mk_range m ds (k + 1), List.length_cons, List.range_succ_eq_map, List.filter_cons]
    have e : ((List.range ds.length).map Nat.succ).filter (fun i => decide ((d :: ds).getD i 0 = m)) = ((List.range ds.length).filter fun i => decide (ds.getD i 0 = m)).map Nat.succ := by
      rw [List.filter_map]
      rfl
    have e2 : ∀ l : List Nat, (l.map Nat.succ).map (· + k) = l.map (· + (k + 1)) := fun l => by
      rw [List.map_map]
      exact List.map_congr_left fun x _ => by show x + 1 + k = x + (k + 1); omega
    by_cases h : d = m
    · rw [if_pos h, if_pos (by simpa using h), e, List.map_cons, e2, Nat.zero_add]
    · rw [if_neg h, if_neg (by simpa using h), e, e2]
theorem posn_mk (b : Int) (ds : List Int) : posn b ds = (mk (b - 1) 0 ds).map fun (i : Nat) => (i : Int) := by
  unfold posn
  rw [mk_range]
  congr 1
  simp
theorem mk_app (m : Int) : ∀ (xs ys : List Int) (k : Nat), mk m k (xs ++ ys) = mk m k xs ++ mk m (k + xs.length) ys
  | [], ys, k => by simp [mk]
  | x :: xs, ys, k => by
    rw [List.cons_append, mk, mk, mk_app m xs ys (k + 1), List.length_cons]
    have e : k + 1 + xs.length = k + (xs.length + 1) := by omega
    rw [e]
    split <;> rfl
theorem mk_none {m : Int} : ∀ {xs : List Int} {k : Nat}, (∀ x ∈ xs, x ≠ m) → mk m k xs = []
  | [], _, _ => rfl
  | x :: xs, k, h => by
    rw [mk, if_neg (h x (List.mem_cons_self ..)), mk_none fun y hy => h y (List.mem_cons_of_mem _ hy)]
theorem mk_bd {m : Int} : ∀ {xs : List Int} {k p : Nat}, p ∈ mk m k xs → k ≤ p ∧ p < k + xs.length
  | [], _, _, h => by simp [mk] at h
  | x :: xs, k, p, h => by
    rw [mk] at h
    split at h
    · rcases List.mem_cons.mp h with e | h
      · rw [e, List.length_cons]
        omega
      · have := mk_bd h
        rw [List.length_cons]
        omega
    · have := mk_bd h
      rw [List.length_cons]
      omega
theorem mk_sorted {m : Int} : ∀ {xs : List Int} {k : Nat}, (mk m k xs).Pairwise (· < ·)
  | [], _ => .nil
  | x :: xs, k => by
    rw [mk]
    split
    · exact .cons (fun p hp => by have := mk_bd hp; omega) mk_sorted
    · exact mk_sorted
theorem mk_shift (m : Int) : ∀ (xs : List Int) (k j : Nat), mk m (k + j) xs = (mk m k xs).map (· + j)
  | [], _, _ => rfl
  | x :: xs, k, j => by
    rw [mk, mk]
    have e : k + j + 1 = (k + 1) + j := by omega
    rw [e, mk_shift m xs (k + 1) j]
    split <;> simp
/-- pairs of neighbours -/
def nb {α : Type} : List α → List (α × α)
  | [] => []
  | [_] => []
  | x :: y :: l => (x, y) :: nb (y :: l)
theorem nb_zip {α : Type} : ∀ l : List α, nb l = l.zip l.tail
  | [] => rfl
  | [_] => rfl
  | x :: y :: l => by
    rw [nb, nb_zip (y :: l)]
    rfl
theorem nb_map {α β : Type} (f : α → β) : ∀ l : List α, nb (l.map f) = (nb l).map fun p => (f p.1, f p.2)
  | [] => rfl
  | [_] => rfl
  | x :: y :: l => by
    have := nb_map f (y :: l)
    rw [List.map_cons] at this
    rw [List.map_cons, List.map_cons, nb, this, nb]
    rfl
theorem nb_len {α : Type} : ∀ l : List α, (nb l).length = l.length - 1
  | [] => rfl
  | [_] => rfl
  | x :: y :: l => by
    rw [nb, List.length_cons, nb_len (y :: l)]
    simp
theorem nb_get {α : Type} : ∀ (l : List α) (i : Nat) (x y : α), l[i]? = some x → l[i + 1]? = some y → (nb l)[i]? = some (x, y)
  | [], i, x, y, h, _ => by simp at h
  | [_], i, x, y, _, h => by simp at h
  | a :: b :: l, 0, x, y, h, h' => by
    simp at h h'
    subst h h'
    rfl
  | a :: b :: l, i + 1, x, y, h, h' => by
    rw [nb, List.getElem?_cons_succ]
    exact nb_get (b :: l) i x y (by simpa using h) (by simpa using h')
/-- what lies between two places -/
def btw (ds : List Int) (p : Nat × Nat) : List Int := (ds.drop (p.1 + 1)).take (p.2 - (p.1 + 1))
/-- the frames are what lies between neighbouring marks: pre lies behind the open mark at k0 -/
theorem frm_open (b : Int) : ∀ (ds all pre : List Int) (k0 : Nat), (∀ x ∈ pre, x ≠ b - 1) → all.drop (k0 + 1) = pre ++ ds →
    frmG b (some pre) ds = (nb (k0 :: mk (b - 1) (k0 + 1 + pre.length) ds)).map fun p => stk (b - 1) 0 (btw all p)
  | [], all, pre, k0, h, he => by rw [frmG, mk, nb]; rfl
  | d :: ds, all, pre, k0, h, he => by
    rw [frmG, mk]
    by_cases hd : d = b - 1
    · rw [if_pos hd, if_pos hd, nb, List.map_cons]
      have hb : btw all (k0, k0 + 1 + pre.length) = pre := by
        unfold btw
        rw [he]
        show (pre ++ d :: ds).take (k0 + 1 + pre.length - (k0 + 1)) = pre
        rw [Nat.add_sub_cancel_left, List.take_left']
        rfl
      have he2 : all.drop (k0 + 1 + pre.length + 1) = [] ++ ds := by
        have e : k0 + 1 + pre.length + 1 = (k0 + 1) + (pre.length + 1) := by omega
        rw [e, ← List.drop_drop, he, List.nil_append]
        have : pre.length + 1 = (pre ++ [d]).length := by simp
        rw [this]
        have e3 : pre ++ d :: ds = (pre ++ [d]) ++ ds := by simp
        rw [e3, List.drop_left']
        rfl
      have ih := frm_open b ds all [] (k0 + 1 + pre.length) (by simp) he2
      rw [List.length_nil, Nat.add_zero] at ih
      rw [ih, hb]
    · rw [if_neg hd, if_neg hd]
      have he2 : all.drop (k0 + 1) = (pre ++ [d]) ++ ds := by rw [he]; simp
      have ih := frm_open b ds all (pre ++ [d]) k0 (fun x hx => by
        rcases List.mem_append.mp hx with hx | hx
        · exact h x hx
        · rw [List.mem_singleton.mp hx]
          exact hd) he2
      rw [ih, List.length_append, List.length_singleton]
      rfl
theorem frm_none (b : Int) : ∀ (ds all : List Int) (k : Nat), all.drop k = ds → frmG b none ds = (nb (mk (b - 1) k ds)).map fun p => stk (b - 1) 0 (btw all p)
  | [], all, k, he => by rw [frmG, mk, nb]; rfl
  | d :: ds, all, k, he => by
    have he2 : all.drop (k + 1) = ds := by rw [← List.drop_drop, he]; rfl
    rw [frmG, mk]
    by_cases hd : d = b - 1
    · rw [if_pos hd, if_pos hd]
      have := frm_open b ds all [] k (by simp) he2
      rw [List.length_nil, Nat.add_zero] at this
      exact this
    · rw [if_neg hd, if_neg hd]
      exact frm_none b ds all (k + 1) he2
theorem frm_nb (b : Int) (ds : List Int) : frm b ds = (nb (mk (b - 1) 0 ds)).map fun p => stk (b - 1) 0 (btw ds p) := frm_none b ds ds 0 rfl
/-- a scrap's marks -/
theorem mk_cut (m : Int) (T : List Int) (lo hi : Nat) (h : lo ≤ hi) (hl : lo ≤ T.length) : (mk m 0 ((T.drop lo).take (hi - lo))).map (· + lo) = (mk m 0 T).filter fun p => decide (lo ≤ p) && decide (p < hi) := by
  have e1 : T = T.take lo ++ ((T.drop lo).take (hi - lo) ++ T.drop hi) := by
    have : T.drop hi = (T.drop lo).drop (hi - lo) := by rw [List.drop_drop]; congr 1; omega
    rw [this, List.take_append_drop, List.take_append_drop]
  have l1 : (T.take lo).length = lo := by rw [List.length_take]; omega
  have e2 : mk m 0 T = mk m 0 (T.take lo) ++ (mk m lo ((T.drop lo).take (hi - lo)) ++ mk m (lo + ((T.drop lo).take (hi - lo)).length) (T.drop hi)) := by
    conv => lhs; rw [e1]
    rw [mk_app, mk_app, l1, Nat.zero_add]
  rw [e2, List.filter_append, List.filter_append]
  have f1 : (mk m 0 (T.take lo)).filter (fun p => decide (lo ≤ p) && decide (p < hi)) = [] := List.filter_eq_nil_iff.mpr fun p hp => by
    have := mk_bd hp
    rw [l1] at this
    simp
    omega
  have f2 : (mk m lo ((T.drop lo).take (hi - lo))).filter (fun p => decide (lo ≤ p) && decide (p < hi)) = mk m lo ((T.drop lo).take (hi - lo)) := List.filter_eq_self.mpr fun p hp => by
    have := mk_bd hp
    rw [List.length_take] at this
    simp
    omega
  have f3 : (mk m (lo + ((T.drop lo).take (hi - lo)).length) (T.drop hi)).filter (fun p => decide (lo ≤ p) && decide (p < hi)) = [] := by
    by_cases hh : hi ≤ T.length
    · refine List.filter_eq_nil_iff.mpr fun p hp => ?_
      have := mk_bd hp
      rw [List.length_take, List.length_drop] at this
      simp
      omega
    · have z : T.drop hi = [] := List.drop_eq_nil_of_le (by omega)
      rw [z]
      rfl
  rw [f1, f2, f3, List.nil_append, List.append_nil]
  have := mk_shift m ((T.drop lo).take (hi - lo)) 0 lo
  rw [Nat.zero_add] at this
  exact this.symm
/-- neighbours among those of a stretch -/
theorem nb_filter (lo hi : Nat) : ∀ l : List Nat, l.Pairwise (· < ·) → nb (l.filter fun p => decide (lo ≤ p) && decide (p < hi)) = (nb l).filter fun p => decide (lo ≤ p.1) && decide (p.2 < hi)
  | [], _ => rfl
  | [x], _ => by
    rw [List.filter_cons]
    split <;> rfl
  | x :: y :: l, h => by
    have hxy : x < y := (List.pairwise_cons.mp h).1 y (List.mem_cons_self ..)
    have h' := (List.pairwise_cons.mp h).2
    have ih := nb_filter lo hi (y :: l) h'
    have big : ∀ {a : Nat} {t : List Nat}, (a :: t).Pairwise (· < ·) → hi ≤ a → (a :: t).filter (fun p => decide (lo ≤ p) && decide (p < hi)) = [] := fun {a t} hp ha => List.filter_eq_nil_iff.mpr fun p hm => by
      have : a ≤ p := by
        rcases List.mem_cons.mp hm with e | hm
        · omega
        · have := (List.pairwise_cons.mp hp).1 p hm
          omega
      simp
      omega
    rw [nb, List.filter_cons]
    by_cases h1 : lo ≤ x
    · by_cases h2 : y < hi
      · rw [if_pos (by simp; omega)]
        have e : (y :: l).filter (fun p => decide (lo ≤ p) && decide (p < hi)) = y :: l.filter (fun p => decide (lo ≤ p) && decide (p < hi)) := by
          rw [List.filter_cons, if_pos (by simp; omega)]
        rw [e] at ih
        rw [e, nb, ih, List.filter_cons, if_pos (by simp; omega)]
      · have e := big h' (by omega : hi ≤ y)
        have e2 : nb ((if (decide (lo ≤ x) && decide (x < hi)) = true then x :: (y :: l).filter (fun p => decide (lo ≤ p) && decide (p < hi)) else (y :: l).filter (fun p => decide (lo ≤ p) && decide (p < hi)))) = [] := by
          rw [e]
          split <;> rfl
        rw [e2, List.filter_cons, if_neg (by simp; omega), ← ih, e]
        rfl
    · rw [if_neg (by simp; omega), ih, List.filter_cons, if_neg (by simp; omega)]
/-- THE LAW of scraps: the frames of a stretch are those that lie in it -/
theorem frm_cut (b : Int) (T : List Int) (lo hi : Nat) (h : lo ≤ hi) (hl : lo ≤ T.length) :
    frm b ((T.drop lo).take (hi - lo)) = ((nb (mk (b - 1) 0 T)).filter fun p => decide (lo ≤ p.1) && decide (p.2 < hi)).map fun p => stk (b - 1) 0 (btw T p) := by
  rw [frm_nb]
  have e := mk_cut (b - 1) T lo hi h hl
  rw [← nb_filter lo hi _ mk_sorted, ← e, nb_map, List.map_map]
  refine List.map_congr_left fun p hp => ?_
  show stk (b - 1) 0 (btw ((T.drop lo).take (hi - lo)) p) = stk (b - 1) 0 (btw T (p.1 + lo, p.2 + lo))
  have hp2 : p.2 ∈ mk (b - 1) 0 ((T.drop lo).take (hi - lo)) := by
    rw [nb_zip] at hp
    exact List.mem_of_mem_tail (List.of_mem_zip hp).2
  have hb := mk_bd hp2
  rw [List.length_take] at hb
  unfold btw
  dsimp only
  rw [List.drop_take, List.drop_drop, List.take_take]
  have e1 : lo + (p.1 + 1) = p.1 + lo + 1 := by omega
  have e2 : min (p.2 - (p.1 + 1)) (hi - lo - (p.1 + 1)) = p.2 + lo - (p.1 + lo + 1) := by omega
  rw [e1, e2]
end Pb

set_option Elab.async false
set_option linter.all false
set_option maxRecDepth 100000
set_option maxHeartbeats 4000000
/-! PbY: plain mathematics: rows and stacks, streams, losses. -/
namespace Pb
open PySem (PyData)
theorem stk_app (r t : Int) (xs : List Int) (d : Int) : stk r t (xs ++ [d]) = stk r t xs * r + d + 1 := by
  unfold stk
  rw [List.foldl_append]
  rfl
theorem stk_row {r : Int} (hr : 2 ≤ r) : ∀ (k : Nat) (h : Int), h.toNat ≤ k → 0 ≤ h → stk r 0 (row r h) = h
  | 0, h, hk, h0 => by
    rw [row_zero (by omega)]
    show (0 : Int) = h
    omega
  | k + 1, h, hk, h0 => by
    by_cases hp : 0 < h
    · have hd : (h - 1) / r ≤ h - 1 := Int.ediv_le_self _ (by omega)
      have hn : 0 ≤ (h - 1) / r := Int.ediv_nonneg (by omega) (by omega)
      rw [row_pos hp hr, stk_app, stk_row hr k _ (by omega) hn]
      have := Int.mul_ediv_add_emod (h - 1) r
      have e : (h - 1) / r * r = r * ((h - 1) / r) := Int.mul_comm _ _
      omega
    · rw [row_zero hp]
      show (0 : Int) = h
      omega
theorem stk_row' {r h : Int} (hr : 2 ≤ r) (h0 : 0 ≤ h) : stk r 0 (row r h) = h := stk_row hr h.toNat h (Nat.le_refl _) h0
theorem row_dig {r : Int} (hr : 2 ≤ r) : ∀ (k : Nat) (h : Int), h.toNat ≤ k → ∀ x ∈ row r h, 0 ≤ x ∧ x < r
  | 0, h, hk => by
    rw [row_zero (by omega)]
    exact fun x hx => absurd hx (by simp)
  | k + 1, h, hk => by
    by_cases hp : 0 < h
    · have hd : (h - 1) / r ≤ h - 1 := Int.ediv_le_self _ (by omega)
      rw [row_pos hp hr]
      intro x hx
      rcases List.mem_append.mp hx with hx | hx
      · exact row_dig hr k _ (by omega) x hx
      · rw [List.mem_singleton.mp hx]
        exact ⟨Int.emod_nonneg _ (by omega), Int.emod_lt_of_pos _ (by omega)⟩
    · rw [row_zero hp]
      exact fun x hx => absurd hx (by simp)
theorem row_dig' {r h : Int} (hr : 2 ≤ r) : ∀ x ∈ row r h, 0 ≤ x ∧ x < r := row_dig hr h.toNat h (Nat.le_refl _)
theorem stk_nonneg {r : Int} (hr : 0 ≤ r) : ∀ (xs : List Int) (t : Int), 0 ≤ t → (∀ x ∈ xs, 0 ≤ x) → 0 ≤ stk r t xs
  | [], t, h, _ => h
  | x :: xs, t, h, hx => by
    have h1 := hx x (List.mem_cons_self ..)
    have h2 := Int.mul_nonneg h hr
    exact stk_nonneg hr xs (t * r + x + 1) (by omega) fun y hy => hx y (List.mem_cons_of_mem _ hy)
theorem stk_lt {r : Int} (hr : 2 ≤ r) (hr2 : r ≤ 256) : ∀ (xs : List Int) (t : Int), 0 ≤ t → (∀ x ∈ xs, 0 ≤ x ∧ x < r) → stk r t xs < (t + 2) * 256 ^ xs.length
  | [], t, h, _ => by
    show t < (t + 2) * 256 ^ 0
    rw [Int.pow_zero]
    omega
  | x :: xs, t, h, hx => by
    have h1 := hx x (List.mem_cons_self ..)
    have h2 := Int.mul_nonneg h (show (0 : Int) ≤ r by omega)
    have h3 := stk_lt hr hr2 xs (t * r + x + 1) (by omega) fun y hy => hx y (List.mem_cons_of_mem _ hy)
    have h4 : t * r ≤ t * 256 := Int.mul_le_mul_of_nonneg_left hr2 h
    have h5 : (t * r + x + 1 + 2) * 256 ^ xs.length ≤ ((t + 2) * 256) * 256 ^ xs.length := Int.mul_le_mul_of_nonneg_right (by omega) (Int.pow_nonneg (by omega))
    rw [List.length_cons, Int.pow_succ]
    have e : (t + 2) * (256 ^ xs.length * 256) = ((t + 2) * 256) * 256 ^ xs.length := by
      rw [Int.mul_comm (256 ^ xs.length) 256, ← Int.mul_assoc]
    rw [e]
    exact Int.lt_of_lt_of_le h3 h5
theorem row_stk {r : Int} (hr : 2 ≤ r) : ∀ (xs : List Int), (∀ x ∈ xs, 0 ≤ x ∧ x < r) → row r (stk r 0 xs.reverse) = xs.reverse
  | [], _ => by
    rw [List.reverse_nil]
    exact row_zero (by show ¬ (0 : Int) < 0; omega)
  | x :: xs, h => by
    have h1 := h x (List.mem_cons_self ..)
    have h2 := row_stk hr xs fun y hy => h y (List.mem_cons_of_mem _ hy)
    have h3 : 0 ≤ stk r 0 xs.reverse := stk_nonneg (by omega) _ 0 (by omega) fun y hy => (h y (List.mem_cons_of_mem _ (List.mem_reverse.mp hy))).1
    have h4 := Int.mul_nonneg h3 (show (0 : Int) ≤ r by omega)
    rw [List.reverse_cons, stk_app, row_pos (by omega) hr]
    have e : stk r 0 xs.reverse * r + x + 1 - 1 = x + stk r 0 xs.reverse * r := by omega
    rw [e, Int.add_mul_ediv_right _ _ (by omega), Int.add_mul_emod_self_right, Int.ediv_eq_zero_of_lt h1.1 h1.2, Int.emod_eq_of_lt h1.1 h1.2, Int.zero_add, h2]
/-! ### streams -/
theorem frmG_skip (b : Int) : ∀ (xs ys pre : List Int), (∀ x ∈ xs, x ≠ b - 1) → frmG b (some pre) (xs ++ ys) = frmG b (some (pre ++ xs)) ys
  | [], ys, pre, _ => by rw [List.nil_append, List.append_nil]
  | x :: xs, ys, pre, h => by
    rw [List.cons_append, frmG, if_neg (h x (List.mem_cons_self ..)), frmG_skip b xs ys _ fun y hy => h y (List.mem_cons_of_mem _ hy), List.append_assoc]
    rfl
theorem frm_strm {b : Int} (hb : 3 ≤ b) : ∀ (hs : List Int), (∀ h ∈ hs, 0 ≤ h) → frmG b none (strm b hs) = hs ∧ ∀ body, frmG b (some body) (strm b hs) = stk (b - 1) 0 body :: hs
  | [], _ => by
    have e : strm b [] = [b - 1] := rfl
    refine ⟨?_, fun body => ?_⟩
    · rw [e, frmG, if_pos rfl, frmG]
    · rw [e, frmG, if_pos rfl, frmG]
  | h :: hs, hp => by
    obtain ⟨i1, i2⟩ := frm_strm hb hs fun x hx => hp x (List.mem_cons_of_mem _ hx)
    have e : strm b (h :: hs) = (b - 1) :: (row (b - 1) h ++ strm b hs) := by
      unfold strm
      rw [List.flatMap_cons, List.cons_append, List.cons_append, List.append_assoc]
    have k : frmG b (some []) (row (b - 1) h ++ strm b hs) = h :: hs := by
      rw [frmG_skip b _ _ _ fun x hx => by have := row_dig' (r := b - 1) (h := h) (by omega) x hx; omega, List.nil_append, i2, stk_row' (by omega) (hp h (List.mem_cons_self ..))]
    refine ⟨?_, fun body => ?_⟩
    · rw [e, frmG, if_pos rfl, k]
    · rw [e, frmG, if_pos rfl, k]
theorem strm_dig {b : Int} (hb : 3 ≤ b) (hs : List Int) : ∀ x ∈ strm b hs, 0 ≤ x ∧ x < b := fun x hx => by
  unfold strm at hx
  rcases List.mem_append.mp hx with hx | hx
  · obtain ⟨h, _, hx⟩ := List.mem_flatMap.mp hx
    rcases List.mem_cons.mp hx with rfl | hx
    · omega
    · have := row_dig' (r := b - 1) (h := h) (by omega) x hx
      omega
  · rw [List.mem_singleton.mp hx]
    omega
theorem strm_last {b : Int} (hs : List Int) : (strm b hs).getD ((strm b hs).length - 1) 0 = b - 1 := by
  unfold strm
  rw [List.getD_eq_getElem?_getD, List.length_append, List.length_singleton, Nat.add_sub_cancel, List.getElem?_append_right (Nat.le_refl _), Nat.sub_self]
  rfl
theorem strm_first {b : Int} (hs : List Int) : (strm b hs).getD 0 0 = b - 1 := by
  cases hs with
  | nil => rfl
  | cons h hs => rfl
theorem strm_pos {b : Int} (hs : List Int) : 0 < (strm b hs).length := by
  unfold strm
  rw [List.length_append, List.length_singleton]
  omega
theorem strm_fits {b : Int} (hb : 3 ≤ b) (hs : List Int) : fitsF b (itup (strm b hs)) = true := by
  have h1 := dig_mk (strm_dig hb hs)
  have hp := strm_pos (b := b) hs
  have t : ∀ i, i < (strm b hs).length → toI (((strm b hs).map PyData.int).getD i .none) = (strm b hs).getD i 0 := fun i hi => by
    rw [List.getD_eq_getElem?_getD, List.getD_eq_getElem?_getD, List.getElem?_map, List.getElem?_eq_getElem hi]
    rfl
  unfold itup
  simp only [fitsF]
  rw [h1, List.length_map, t 0 hp, t _ (by omega), strm_first, strm_last]
  simp
  exact List.ne_nil_of_length_pos hp
/-- by places -/
theorem map_getD {α : Type} (d : α) : ∀ l : List α, (List.range l.length).map (fun i => l.getD i d) = l := fun l => by
  refine List.ext_getElem (by simp) fun i h1 h2 => ?_
  simp [List.getElem?_eq_getElem h2]
theorem filter_range {α : Type} (d : α) (c : α → Bool) (l : List α) : l.filter c = ((List.range l.length).filter fun i => c (l.getD i d)).map fun i => l.getD i d := by
  conv => lhs; rw [← map_getD d l]
  rw [List.filter_map]
  rfl
def wholeL (P hs : List Int) (lo hi : Int) : List Int := ((List.range hs.length).filter fun f => decide (lo ≤ P.getD f 0) && decide (P.getD (f + 1) 0 < hi)).map fun f => hs.getD f 0
theorem posn_get (b : Int) (ds : List Int) (i : Nat) : (posn b ds).getD i 0 = ((mk (b - 1) 0 ds).getD i 0 : Nat) := by
  rw [posn_mk, List.getD_eq_getElem?_getD, List.getD_eq_getElem?_getD, List.getElem?_map]
  cases (mk (b - 1) 0 ds)[i]? <;> rfl
theorem nb_getD (l : List Nat) (i : Nat) (h : i + 1 < l.length) : (nb l).getD i (0, 0) = (l.getD i 0, l.getD (i + 1) 0) := by
  have := nb_get l i _ _ (List.getElem?_eq_getElem (by omega)) (List.getElem?_eq_getElem h)
  rw [List.getD_eq_getElem?_getD, this, List.getD_eq_getElem?_getD, List.getD_eq_getElem?_getD, List.getElem?_eq_getElem (by omega), List.getElem?_eq_getElem h]
  rfl
theorem frm_map {b : Int} (hb : 3 ≤ b) {hs : List Int} (hp : ∀ h ∈ hs, 0 ≤ h) : (nb (mk (b - 1) 0 (strm b hs))).map (fun p => stk (b - 1) 0 (btw (strm b hs) p)) = hs := by
  rw [← frm_nb]
  exact (frm_strm hb hs hp).1
theorem posn_count {b : Int} (hb : 3 ≤ b) {hs : List Int} (hp : ∀ h ∈ hs, 0 ≤ h) : (posn b (strm b hs)).length = hs.length + 1 := by
  have h1 := congrArg List.length (frm_map hb hp)
  rw [List.length_map, nb_len] at h1
  rw [posn_mk, List.length_map]
  have h2 : 0 < (mk (b - 1) 0 (strm b hs)).length := by
    cases hs with
    | nil => 
      have e : strm b [] = [b - 1] := rfl
      rw [e, mk, if_pos rfl]
      exact Nat.succ_pos _
    | cons h hs =>
      have e : strm b (h :: hs) = (b - 1) :: (row (b - 1) h ++ strm b hs) := by
        unfold strm
        rw [List.flatMap_cons, List.cons_append, List.cons_append, List.append_assoc]
      rw [e, mk, if_pos rfl]
      exact Nat.succ_pos _
  omega
theorem whole_frm {b : Int} (hb : 3 ≤ b) {hs : List Int} (hp : ∀ h ∈ hs, 0 ≤ h) (lo hi : Nat) (h : lo ≤ hi) (hl : lo ≤ (strm b hs).length) :
    wholeL (posn b (strm b hs)) hs lo hi = frm b (((strm b hs).drop lo).take (hi - lo)) := by
  have hc := posn_count hb hp
  rw [posn_mk, List.length_map] at hc
  have hm := frm_map hb hp
  have hn : (nb (mk (b - 1) 0 (strm b hs))).length = hs.length := by rw [nb_len]; omega
  rw [frm_cut b _ lo hi h hl, filter_range (0, 0), List.map_map, hn]
  unfold wholeL
  have hg : ∀ i, i < hs.length → (nb (mk (b - 1) 0 (strm b hs))).getD i (0, 0) = ((mk (b - 1) 0 (strm b hs)).getD i 0, (mk (b - 1) 0 (strm b hs)).getD (i + 1) 0) := fun i hi => nb_getD _ i (by omega)
  have hf : (List.range hs.length).filter (fun f => decide ((lo : Int) ≤ (posn b (strm b hs)).getD f 0) && decide ((posn b (strm b hs)).getD (f + 1) 0 < (hi : Int))) =
      (List.range hs.length).filter fun i => decide (lo ≤ ((nb (mk (b - 1) 0 (strm b hs))).getD i (0, 0)).1) && decide (((nb (mk (b - 1) 0 (strm b hs))).getD i (0, 0)).2 < hi) := by
    refine List.filter_congr fun i hi => ?_
    rw [hg i (List.mem_range.mp hi), posn_get, posn_get]
    dsimp only
    congr 1
    · exact decide_eq_decide.mpr Int.ofNat_le
    · exact decide_eq_decide.mpr Int.ofNat_lt
  rw [hf]
  refine List.map_congr_left fun i hi => ?_
  have hi' : i < hs.length := List.mem_range.mp (List.mem_filter.mp hi).1
  show hs.getD i 0 = stk (b - 1) 0 (btw (strm b hs) ((nb (mk (b - 1) 0 (strm b hs))).getD i (0, 0)))
  conv => lhs; rw [← hm]
  rw [List.getD_eq_getElem?_getD, List.getElem?_map, List.getD_eq_getElem?_getD, List.getElem?_eq_getElem (by omega)]
  rfl
/-! ### losses -/
def hitL (P : List Int) (N : Nat) (lo hi : Int) : Nat := ((List.range N).filter fun f => decide (P.getD f 0 ≤ hi) && decide (lo ≤ P.getD (f + 1) 0)).length
theorem les_le (a b : Int) : lesI a b ≤ a ∧ lesI a b ≤ b ∧ (lesI a b = a ∨ lesI a b = b) := by
  unfold lesI
  split <;> omega
theorem fold_les (g : Nat → Int) : ∀ (l : List Nat) (i : Int), l.foldl (fun best f => lesI best (g f)) i ≤ i ∧ (∀ f ∈ l, l.foldl (fun best f => lesI best (g f)) i ≤ g f) ∧ (l.foldl (fun best f => lesI best (g f)) i = i ∨ ∃ f ∈ l, l.foldl (fun best f => lesI best (g f)) i = g f)
  | [], i => ⟨Int.le_refl _, fun f hf => absurd hf (by simp), .inl rfl⟩
  | x :: l, i => by
    obtain ⟨h1, h2, h3⟩ := fold_les g l (lesI i (g x))
    obtain ⟨k1, k2, k3⟩ := les_le i (g x)
    rw [List.foldl_cons]
    refine ⟨by omega, fun f hf => ?_, ?_⟩
    · rcases List.mem_cons.mp hf with rfl | hf
      · omega
      · exact h2 f hf
    · rcases h3 with h3 | ⟨f, hf, h3⟩
      · rcases k3 with k3 | k3
        · exact .inl (h3.trans k3)
        · exact .inr ⟨x, List.mem_cons_self .., h3.trans k3⟩
      · exact .inr ⟨f, List.mem_cons_of_mem _ hf, h3⟩
theorem count_ge (t : Nat → Bool) (a : Nat) : ∀ (m n : Nat), a + m ≤ n → (∀ i, a ≤ i → i < a + m → t i = true) → m ≤ ((List.range n).filter t).length := by
  intro m n
  induction n generalizing m with
  | zero => intro h _; omega
  | succ n ih =>
    intro h ht
    rw [List.range_succ, List.filter_append, List.length_append]
    by_cases e : a + m ≤ n
    · have := ih m e ht
      omega
    · cases m with
      | zero => omega
      | succ m =>
        have e2 : a + m = n := by omega
        have h1 := ih m (by omega) fun i h1 h2 => ht i h1 (by omega)
        have h2 := ht n (by omega) (by omega)
        rw [List.filter_cons_of_pos h2]
        simp
        omega
theorem pair_far : ∀ (l : List Nat) (m : Nat), l.Pairwise (· < ·) → l.length = m + 1 → ∃ a b, a ∈ l ∧ b ∈ l ∧ a + m ≤ b
  | [], m, _, h => by simp at h
  | [x], m, _, h => by
    simp at h
    exact ⟨x, x, by simp, by simp, by omega⟩
  | x :: y :: l, m, hp, h => by
    obtain ⟨h1, h2⟩ := List.pairwise_cons.mp hp
    obtain ⟨a, b, ha, hb, hab⟩ := pair_far (y :: l) (m - 1) h2 (by simp at h ⊢; omega)
    have := h1 a ha
    simp at h
    exact ⟨x, b, by simp, List.mem_cons_of_mem _ hb, by omega⟩
structure Marks (P : List Int) (N : Nat) (L : Int) : Prop where
  len : P.length = N + 1
  lt : ∀ i j, i < j → j ≤ N → P.getD i 0 < P.getD j 0
  lo : ∀ i, i ≤ N → 0 ≤ P.getD i 0
  hi : ∀ i, i ≤ N → P.getD i 0 < L
theorem Marks.le {P : List Int} {N : Nat} {L : Int} (m : Marks P N L) {i j : Nat} (h : i ≤ j) (hj : j ≤ N) : P.getD i 0 ≤ P.getD j 0 := by
  rcases Nat.lt_or_ge i j with h1 | h1
  · exact Int.le_of_lt (m.lt i j h1 hj)
  · have : i = j := by omega
    rw [this]
    exact Int.le_refl _
theorem loss_val {P : List Int} {f m : Nat} (hm : 1 ≤ m) : lossI P f ((f : Int) + m - 1) = if m = 1 then 1 else P.getD (f + m - 1) 0 - P.getD (f + 1) 0 + 1 := by
  unfold lossI
  have e1 : ((f : Int) + m - 1).toNat = f + m - 1 := by omega
  have e2 : ((f : Int) + 1).toNat = f + 1 := by omega
  rw [e1, e2]
  by_cases h : m = 1
  · rw [if_pos (by omega), if_pos h]
  · rw [if_neg (by omega), if_neg h]
/-- a loss that spoils so many costs as much -/
theorem loss_ge {P : List Int} {N : Nat} {L : Int} (M : Marks P N L) {m : Nat} (hm : 1 ≤ m) (hN : m ≤ N) {lo hi : Int} (h1 : lo ≤ hi) (hh : m ≤ hitL P N lo hi) : shl P L m ≤ hi - lo + 1 := by
  obtain ⟨k1, k2, k3⟩ := fold_les (fun f => lossI P f (f + (m : Int) - 1)) (List.range ((P.length : Int) - m).toNat) L
  obtain ⟨a, b, ha, hb, hab⟩ : ∃ a b, a ∈ ((List.range N).filter fun f => decide (P.getD f 0 ≤ hi) && decide (lo ≤ P.getD (f + 1) 0)) ∧ b ∈ ((List.range N).filter fun f => decide (P.getD f 0 ≤ hi) && decide (lo ≤ P.getD (f + 1) 0)) ∧ a + (m - 1) ≤ b := by
    have hs : ((List.range N).filter fun f => decide (P.getD f 0 ≤ hi) && decide (lo ≤ P.getD (f + 1) 0)).Pairwise (· < ·) := List.Pairwise.filter _ List.pairwise_lt_range
    obtain ⟨a, b, ha, hb, hab⟩ := pair_far _ (hitL P N lo hi - 1) hs (by unfold hitL at hh ⊢; omega)
    exact ⟨a, b, ha, hb, by omega⟩
  obtain ⟨ha1, ha2⟩ := List.mem_filter.mp ha
  obtain ⟨hb1, hb2⟩ := List.mem_filter.mp hb
  have ha1 := List.mem_range.mp ha1
  have hb1 := List.mem_range.mp hb1
  rw [Bool.and_eq_true] at ha2 hb2
  have ha3 := of_decide_eq_true ha2.2
  have hb3 := of_decide_eq_true hb2.1
  have := k2 a (List.mem_range.mpr (by rw [M.len]; omega))
  rw [loss_val hm] at this
  unfold shl
  refine Int.le_trans this ?_
  split
  · omega
  · have := M.le (show a + m - 1 ≤ b by omega) (by omega)
    omega
theorem loss_at {P : List Int} {N : Nat} {L : Int} (M : Marks P N L) {m : Nat} (hm : 1 ≤ m) (hN : m ≤ N) : ∃ lo hi : Nat, lo ≤ hi ∧ (hi : Int) < L ∧ m ≤ hitL P N lo hi ∧ shl P L m = (hi : Int) - lo + 1 := by
  obtain ⟨k1, k2, k3⟩ := fold_les (fun f => lossI P f (f + (m : Int) - 1)) (List.range ((P.length : Int) - m).toNat) L
  have key : ∀ f : Nat, f + m ≤ N → ∃ lo hi : Nat, lo ≤ hi ∧ (hi : Int) < L ∧ m ≤ hitL P N lo hi ∧ lossI P f (f + (m : Int) - 1) = (hi : Int) - lo + 1 := fun f hf => by
    rw [loss_val hm]
    by_cases h1 : m = 1
    · rw [if_pos h1]
      have p0 := M.lo f (by omega)
      have p1 := M.hi f (by omega)
      have p2 := M.lt f (f + 1) (by omega) (by omega)
      refine ⟨(P.getD f 0).toNat, (P.getD f 0).toNat, Nat.le_refl _, by omega, ?_, by omega⟩
      refine count_ge _ f m N (by omega) fun i h2 h3 => ?_
      have e : i = f := by omega
      subst e
      rw [Bool.and_eq_true]
      exact ⟨decide_eq_true (by omega), decide_eq_true (by omega)⟩
    · rw [if_neg h1]
      have p0 := M.lo (f + 1) (by omega)
      have p1 := M.hi (f + m - 1) (by omega)
      have p2 := M.le (show f + 1 ≤ f + m - 1 by omega) (by omega)
      refine ⟨(P.getD (f + 1) 0).toNat, (P.getD (f + m - 1) 0).toNat, by omega, by omega, ?_, by omega⟩
      refine count_ge _ f m N (by omega) fun i h2 h3 => ?_
      have q1 := M.le (show i ≤ f + m - 1 by omega) (by omega)
      have q2 := M.le (show f + 1 ≤ i + 1 by omega) (by omega)
      rw [Bool.and_eq_true]
      exact ⟨decide_eq_true (by omega), decide_eq_true (by omega)⟩
  rcases k3 with k3 | ⟨f, hf, k3⟩
  · exfalso
    have h0 : 0 ∈ List.range ((P.length : Int) - m).toNat := List.mem_range.mpr (by rw [M.len]; omega)
    have := k2 0 h0
    rw [k3] at this
    obtain ⟨lo, hi, q1, q2, q3, q4⟩ := key 0 (by omega)
    have q4' : lossI P ((0 : Nat) : Int) (((0 : Nat) : Int) + (m : Int) - 1) = (hi : Int) - lo + 1 := q4
    have this' : L ≤ lossI P ((0 : Nat) : Int) (((0 : Nat) : Int) + (m : Int) - 1) := this
    by_cases hl : lo = 0 ∧ (hi : Int) = L - 1
    · -- the whole: more than one frame lies in it only if the first mark is passed
      have p1 := M.lt 0 1 (by omega) (by omega)
      have p0 := M.lo 0 (by omega)
      rw [loss_val hm] at this' q4'
      by_cases h1 : m = 1
      · rw [if_pos h1] at this'
        have := M.hi 1 (by omega)
        omega
      · rw [if_neg h1] at this'
        have p3 := M.lo 1 (by omega)
        have p4 := M.hi (0 + m - 1) (by omega)
        have e : 0 + 1 = 1 := rfl
        rw [e] at this'
        omega
    · omega
  · have := List.mem_range.mp hf
    rw [M.len] at this
    obtain ⟨lo, hi, q1, q2, q3, q4⟩ := key f (by omega)
    refine ⟨lo, hi, q1, q2, q3, ?_⟩
    unfold shl
    rw [k3]
    exact q4
end Pb

set_option Elab.async false
set_option linter.all false
set_option maxRecDepth 100000
set_option maxHeartbeats 4000000
/-! PbS: the law's defs: apart, stacks, whole, losses. -/
namespace Pb
open PySem PySem.Spec PyProof.Rows L2
def apartI (b p : Int) (l r : List Int) : Bool := !decide ((stk (b - 1) 0 l - stk (b - 1) 0 r) % p = 0)
def preApart : Pre := fun as n Φ => ∃ (b p : Int) (l r : List Int), as = [.da (.int b), .da (.int p), .da (itup l), .da (itup r)] ∧ l.length = r.length ∧ l.length ≤ 100000 ∧ 0 ≤ b ∧ b ≤ 256 ∧ 2 ≤ p ∧ p ≤ 1000 ∧ Φ (.ok (.bool (apartI b p l r))) n
theorem mod_step (D c e p : Int) : (D % p * c + e) % p = (D * c + e) % p := by
  have h := Int.mul_ediv_add_emod D p
  have h2 : D * c = D % p * c + p * (D / p * c) := by
    conv => lhs; rw [← h]
    rw [Int.add_mul, Int.mul_assoc]
    omega
  rw [h2]
  have e3 : D % p * c + p * (D / p * c) + e = D % p * c + e + p * (D / p * c) := by omega
  rw [e3, Int.add_mul_emod_self_left]
def preStks : Pre := fun as n Φ => ∃ b : Int, as = [.fd, .da (.int b)] ∧ n ≤ 800000 ∧ ∀ hs : List Int, hs.length ≤ 7 → (∀ h ∈ hs, 0 ≤ h ∧ h < 10 ^ 56) → Φ (.ok (itup hs)) (n + 50)
def preWhole : Pre := fun as n Φ => ∃ (P hs : List Int) (lo hi : Int), as = [.da (itup P), .da (itup hs), .da (.int lo), .da (.int hi)] ∧ P.length = hs.length + 1 ∧ hs.length ≤ 1000 ∧ Φ (.ok (.list ((wholeL P hs lo hi).map .int))) n
def lossL (P : List Int) (N : Nat) (L : Int) : List Int := (List.range N).map fun i => shl P L ((i + 1 : Nat) : Int)
def preLosses : Pre := fun as n Φ => ∃ (t P : List Int) (N : Nat), as = [.da (itup t), .da (itup P)] ∧ Marks P N t.length ∧ N ≤ 1000 ∧ t.length ≤ 1000 ∧ Φ (.ok (.list ((lossL P N t.length).map .int))) n
def preTold : Pre := fun as n Φ => ∃ (P : List Int) (N : Nat) (L : Int), as = [.da (itup P)] ∧ Marks P N L ∧ N ≤ 1000 ∧ Φ (.ok (.list ((lossL P N L).map .int))) n
theorem min_uni {P : List Int} {N : Nat} {L : Int} (M : Marks P N L) {m : Nat} (hm : 2 ≤ m) (hN : m ≤ N) {k : Int} (h1 : ∃ f, f + m ≤ N ∧ k = P.getD (f + m - 1) 0 - P.getD (f + 1) 0 + 1) (h2 : ∀ f, f + m ≤ N → k ≤ P.getD (f + m - 1) 0 - P.getD (f + 1) 0 + 1) : k = shl P L m := by
  obtain ⟨k1, k2, k3⟩ := fold_les (fun f => lossI P f (f + (m : Int) - 1)) (List.range ((P.length : Int) - m).toNat) L
  obtain ⟨f, hf, rfl⟩ := h1
  have e := k2 f (List.mem_range.mpr (by rw [M.len]; omega))
  rw [loss_val (by omega), if_neg (by omega)] at e
  unfold shl
  refine Int.le_antisymm ?_ e
  rcases k3 with k3 | ⟨g, hg, k3⟩
  · have p1 := M.hi (f + m - 1) (by omega)
    have p2 := M.lo f (by omega)
    have p3 := M.lt f (f + 1) (by omega) (by omega)
    rw [k3]
    omega
  · rw [k3, loss_val (by omega), if_neg (by omega)]
    have := List.mem_range.mp hg
    rw [M.len] at this
    exact h2 g (by omega)
theorem shl_one {P : List Int} {N : Nat} {L : Int} (M : Marks P N L) (hN : 1 ≤ N) : shl P L ((0 + 1 : Nat) : Int) = 1 := by
  obtain ⟨k1, k2, k3⟩ := fold_les (fun f => lossI P f (f + ((0 + 1 : Nat) : Int) - 1)) (List.range ((P.length : Int) - ((0 + 1 : Nat) : Int)).toNat) L
  have p0 := M.lo 0 (by omega)
  have p1 := M.hi 0 (by omega)
  have e := k2 0 (List.mem_range.mpr (by rw [M.len]; omega))
  rw [loss_val (Nat.le_refl _), if_pos rfl] at e
  unfold shl
  rcases k3 with k3 | ⟨g, hg, k3⟩
  · omega
  · rw [k3, loss_val (Nat.le_refl _), if_pos rfl]
/-- the table while the losses are gone through -/
structure Tab (P : List Int) (N : Nat) (L : Nat) (fo : List Int) (D : Nat → Nat → Prop) : Prop where
  len : fo.length = N + 1
  le : ∀ h, h ≤ N → fo.getD h 0 ≤ L
  at_ : ∀ h, h ≤ N → fo.getD h 0 = L ∨ ∃ lo hi : Nat, lo ≤ hi ∧ hi < L ∧ hitL P N lo hi = h ∧ fo.getD h 0 = (hi : Int) - lo + 1
  all : ∀ lo hi : Nat, D lo hi → fo.getD (hitL P N lo hi) 0 ≤ (hi : Int) - lo + 1
theorem hit_le (P : List Int) (N : Nat) (lo hi : Int) : hitL P N lo hi ≤ N := by
  unfold hitL
  exact Nat.le_trans (List.length_filter_le _ _) (by simp)
theorem Tab.start (P : List Int) (N L : Nat) : Tab P N L (List.replicate (N + 1) (L : Int)) fun _ _ => False := by
  have g : ∀ h, h ≤ N → (List.replicate (N + 1) (L : Int)).getD h 0 = L := fun h hh => by
    rw [List.getD_eq_getElem?_getD, List.getElem?_replicate, if_pos (by omega)]
    rfl
  exact ⟨by simp, fun h hh => by rw [g h hh]; exact Int.le_refl _, fun h hh => .inl (g h hh), fun _ _ h => h.elim⟩
theorem Tab.keep {P : List Int} {N L : Nat} {fo : List Int} {D D' : Nat → Nat → Prop} (t : Tab P N L fo D) {lo hi : Nat} (h : ¬ (hi : Int) - lo + 1 < fo.getD (hitL P N lo hi) 0) (hD : ∀ a b, D' a b → D a b ∨ (a = lo ∧ b = hi)) : Tab P N L fo D' :=
  ⟨t.len, t.le, t.at_, fun a b hab => by
    rcases hD a b hab with h1 | ⟨rfl, rfl⟩
    · exact t.all a b h1
    · omega⟩
theorem Tab.put {P : List Int} {N L : Nat} {fo : List Int} {D D' : Nat → Nat → Prop} (t : Tab P N L fo D) {lo hi : Nat} (h : (hi : Int) - lo + 1 < fo.getD (hitL P N lo hi) 0) (h1 : lo ≤ hi) (h2 : hi < L) (hD : ∀ a b, D' a b → D a b ∨ (a = lo ∧ b = hi)) : Tab P N L (fo.set (hitL P N lo hi) ((hi : Int) - lo + 1)) D' := by
  have hl := hit_le P N lo hi
  have g : ∀ x, (fo.set (hitL P N lo hi) ((hi : Int) - lo + 1)).getD x 0 = if hitL P N lo hi = x then (hi : Int) - lo + 1 else fo.getD x 0 := fun x => by
    rw [List.getD_eq_getElem?_getD, List.getElem?_set]
    by_cases e : hitL P N lo hi = x
    · rw [if_pos e, if_pos e, if_pos (by rw [t.len]; omega)]
      rfl
    · rw [if_neg e, if_neg e, List.getD_eq_getElem?_getD]
  refine ⟨by rw [List.length_set]; exact t.len, fun x hx => ?_, fun x hx => ?_, fun a b hab => ?_⟩
  · rw [g]
    split
    · omega
    · exact t.le x hx
  · rw [g]
    split
    · rename_i e
      exact .inr ⟨lo, hi, h1, h2, e, rfl⟩
    · exact t.at_ x hx
  · rw [g]
    split
    · rename_i e
      rcases hD a b hab with h3 | ⟨rfl, rfl⟩
      · have := t.all a b h3
        rw [← e] at this
        omega
      · omega
    · rename_i e
      rcases hD a b hab with h3 | ⟨rfl, rfl⟩
      · exact t.all a b h3
      · exact absurd rfl e
theorem Tab.min {P : List Int} {N L : Nat} {fo : List Int} {D : Nat → Nat → Prop} (t : Tab P N L fo D) (M : Marks P N L) (hD : ∀ a b, a ≤ b → b < L → D a b) {m : Nat} (hm : 1 ≤ m) (hN : m ≤ N) {k : Int} (h1 : k ∈ fo.drop m) (h2 : ∀ y ∈ fo.drop m, k ≤ y) : k = shl P L m := by
  have g : ∀ x, m ≤ x → x ≤ N → fo.getD x 0 ∈ fo.drop m := fun x h3 h4 => by
    have hx : x < fo.length := by rw [t.len]; omega
    rw [List.getD_eq_getElem?_getD, List.getElem?_eq_getElem hx]
    refine List.mem_iff_getElem.mpr ⟨x - m, by rw [List.length_drop]; omega, ?_⟩
    rw [List.getElem_drop]
    simp only [Option.getD_some]
    congr 1
    omega
  refine Int.le_antisymm ?_ ?_
  · obtain ⟨lo, hi, q1, q2, q3, q4⟩ := loss_at M hm hN
    rw [q4]
    have := t.all lo hi (hD lo hi q1 (by omega))
    exact Int.le_trans (h2 _ (g _ q3 (hit_le P N lo hi))) this
  · obtain ⟨i, hi, e⟩ := List.mem_iff_getElem.mp h1
    rw [List.getElem_drop] at e
    rw [List.length_drop, t.len] at hi
    have e2 : k = fo.getD (m + i) 0 := by
      rw [List.getD_eq_getElem?_getD, List.getElem?_eq_getElem (by rw [t.len]; omega)]
      exact e.symm
    rcases t.at_ (m + i) (by omega) with z | ⟨lo, hh, q1, q2, q3, q4⟩
    · obtain ⟨k1, _, _⟩ := fold_les (fun f => lossI P f (f + (m : Int) - 1)) (List.range ((P.length : Int) - m).toNat) L
      rw [e2, z]
      exact k1
    · rw [e2, q4]
      exact loss_ge M hm hN (by omega) (by omega)
/-- the marks of a stream -/
theorem marks_strm {b : Int} (hb : 3 ≤ b) {hs : List Int} (hp : ∀ h ∈ hs, 0 ≤ h) : Marks (posn b (strm b hs)) hs.length (strm b hs).length := by
  have hl := posn_count hb hp
  have hl2 : (mk (b - 1) 0 (strm b hs)).length = hs.length + 1 := by
    rw [posn_mk, List.length_map] at hl
    exact hl
  have hbd : ∀ i, i ≤ hs.length → (mk (b - 1) 0 (strm b hs)).getD i 0 < (strm b hs).length := fun i hi => by
    have hx : i < (mk (b - 1) 0 (strm b hs)).length := by omega
    rw [List.getD_eq_getElem?_getD, List.getElem?_eq_getElem hx]
    have := mk_bd (List.getElem_mem hx)
    simp only [Option.getD_some]
    omega
  refine ⟨hl, fun i j h1 h2 => ?_, fun i h => ?_, fun i h => ?_⟩
  · rw [posn_get, posn_get]
    have hi : i < (mk (b - 1) 0 (strm b hs)).length := by omega
    have hj : j < (mk (b - 1) 0 (strm b hs)).length := by omega
    have := List.pairwise_iff_getElem.mp (mk_sorted (m := b - 1) (xs := strm b hs) (k := 0)) i j hi hj h1
    rw [List.getD_eq_getElem?_getD, List.getElem?_eq_getElem hi, List.getD_eq_getElem?_getD, List.getElem?_eq_getElem hj]
    simp only [Option.getD_some]
    omega
  · rw [posn_get]
    omega
  · rw [posn_get]
    have := hbd i h
    omega
local macro_rules | `(tactic| walk_at "pb v") => `(tactic| first
  | refine ex_v 0 rfl ?_ | refine ex_v 1 rfl ?_ | refine ex_v 2 rfl ?_ | refine ex_v 3 rfl ?_ | refine ex_v 4 rfl ?_ | refine ex_v 5 rfl ?_ | refine ex_v 6 rfl ?_ | refine ex_v 7 rfl ?_
  | refine ex_v 8 rfl ?_ | refine ex_v 9 rfl ?_ | refine ex_v 10 rfl ?_ | refine ex_v 11 rfl ?_ | refine ex_v 12 rfl ?_ | refine ex_v 13 rfl ?_ | refine ex_v 14 rfl ?_)
local macro_rules | `(tactic| walk_at "pb x") => `(tactic| first
  | refine ex_i ?_ | ((with_reducible show EX _ _ (Expr.Name _ _) _ _ _ _); walk_at "pb v") | refine ex_addJ ?_ | refine ex_sub ?_ | refine ex_s ?_ | refine ex_n ?_ | refine ex_b ?_ | refine ex_neg ?_
  | refine ex_mulJ ?_ | refine ex_mod ?_ | refine ex_div ?_ | refine ex_pow ?_ | refine ex_lt ?_ | refine ex_eq ?_ | refine ex_ne ?_ | refine ex_gt ?_ | refine ex_ge ?_ | ((fail_if_success (with_reducible show EX _ _ (Expr.Subscript _ (Expr.Constant (Const.str _) _ _) _) _ _ _ _)); refine ex_ixJ ?_)
  | refine ex_and ?_ | refine ex_or ?_ | refine ex_one ?_ | refine ex_not ?_ | refine ex_ite ?_ | refine ex_isInt ‹_› ?_ | refine ex_isBool ‹_› ?_ | refine ex_isTup ‹_› ?_)
local macro_rules | `(tactic| walk_at "pb t") => `(tactic| first
  | refine et_lt ?_ | refine et_eq ?_ | refine et_ne ?_ | refine et_le ?_ | refine et_gt ?_ | refine et_ge ?_ | refine et_nt ?_ | refine et_w (ew_and ?_) | refine et_w (ew_or ?_) | refine et_v ?_)
local macro_rules | `(tactic| walk_at "pb e") => `(tactic| first
  | ((with_reducible show EX _ _ _ _ _ _ _); walk_at "pb x")
  | with_reducible refine xi2 ?_ | with_reducible refine xi ?_ | with_reducible refine xb ?_ | with_reducible refine xsi ?_ | with_reducible refine xl ?_ | with_reducible refine xt ?_
  | with_reducible refine ifT ?_ | with_reducible refine ifF ?_ | with_reducible refine add_int ?_ | with_reducible refine ix_l ?_
  | with_reducible refine len_t ?_ | with_reducible refine len_l ?_ | with_reducible refine tup_t ?_ | with_reducible refine tup_l ?_
  | with_reducible refine nx_nxt ?_ | with_reducible refine rt_nxt ?_ | with_reducible refine er_nxt ?_ | with_reducible refine bk_nxt ?_ | with_reducible refine ct_nxt ?_ | with_reducible refine fin_rt ?_ | with_reducible refine fin_nx ?_ | with_reducible refine fin_er ?_ 
  | with_reducible refine nx_lp ?_ | with_reducible refine bk_lp ?_ | with_reducible refine ct_lp ?_ | with_reducible refine rt_lp ?_ | with_reducible refine er_lp ?_ | with_reducible refine okp_ok ?_
  | ((with_reducible show ET _ _ _ _ _ _ _); walk_at "pb t")
  | ((with_reducible show EW _ _ _ _ _ _ _); first | refine ew_and ?_ | refine ew_or ?_ | refine ew_and1 ?_ | refine ew_or1 ?_)
  | ((with_reducible show SB _ _ _ _ _ _ _); first | refine sb_cons ?_ | refine sb_nil ?_)
  | ((with_reducible show SX _ _ _ _ _ _ _); first | refine sx_ret ?_ | refine sx_if ?_)
  | ((with_reducible show EO _ _ _ _ _ _ _); first | refine eo_s ?_ | refine eo_n ?_)
  | ((with_reducible show EA _ _ _ _ _ _ _); first | refine ea_c ?_ | refine ea_0 ?_))
local macro_rules | `(tactic| walk_at "pb") => `(tactic| repeat walk_at "pb e")
section
variable {P : Program} {w : World} {K : Frg} {mg : Str → Option Value} {base : Heap} {f : Addr} {fd : FuncData} {T : List (Addr × Str)} {k : Nat}
theorem sc52 : FnScope ["_law_base", "_law_prime", "_law_left", "_law_right", "_law_rest", "_law_digit", "_law_other"] ["_law_base", "_law_prime", "_law_left", "_law_right"] (defScope (top 52)) := ⟨rfl, rfl, rfl, by decide +kernel, rfl, by decide +kernel, by decide +kernel⟩
theorem g_law_is_apart (F : FnT K "_law_is_apart" 52 f fd) (b : Blt mg) : FnOk P w K mg base (L2.CX P w) (k + 1) f fd ["_law_base", "_law_prime", "_law_left", "_law_right"] (prom K T preApart) := by
  refine fn_pb F sc52 (fun as n Φ ⟨b, _, _, _, h, _⟩ => by rw [h]; rfl) fun cdv A outer s H E fa B as n Φ hr hp => ?_
  obtain ⟨bs, p, l, r, rfl, hlr, hll, hb0, hb1, hp0, hp1, h⟩ := hp
  unfold itup
  walk_at "pb"
  refine sx_asg 4 sc52.nd ?_
  walk_at "pb"
  refine sx_for2 5 6 rfl sc52.nd (wx_zip b.zip ?_)
  walk_at "pb"
  refine ⟨l.map .int, r.map .int, .inr ⟨rfl, rfl⟩, fun i => (l.map PyData.int).getD i .none, fun i => (r.map PyData.int).getD i .none, fun i ρ' μ' n' => ∃ u v, ρ' = [.im (.int bs), .im (.int p), .im (.tuple (l.map .int)), .im (.tuple (r.map .int)), .im (.int ((stk (bs - 1) 0 (l.take i) - stk (bs - 1) 0 (r.take i)) % p)), u, v] ∧ μ' = [] ∧ n' = n, fun _ _ => rfl, ⟨.un, .un, ?_, rfl, rfl⟩, ?_, ?_⟩
  · show _ = [_, _, _, _, Sl.im (.int ((0 - 0) % p)), _, _]
    rw [Int.sub_self, Int.zero_emod]
    rfl
  · rintro i _ _ _ hi ⟨u, v, rfl, rfl, rfl⟩
    rw [List.length_map, List.length_map] at hi
    have h1 : i < l.length := by omega
    have h2 : i < r.length := by omega
    have e1 : (l.map PyData.int).getD i .none = .int l[i] := by rw [List.getD_eq_getElem?_getD, List.getElem?_map, List.getElem?_eq_getElem h1]; rfl
    have e2 : (r.map PyData.int).getD i .none = .int r[i] := by rw [List.getD_eq_getElem?_getD, List.getElem?_map, List.getElem?_eq_getElem h2]; rfl
    dsimp only
    rw [e1, e2]
    walk_at "pb e"
    refine sx_asg 4 sc52.nd ?_
    walk_at "pb"
    refine ex_int b.int ?_
    walk_at "pb"
    refine mul_int (mulR (by omega) (by omega)) ?_
    walk_at "pb"
    refine ⟨by omega, ?_⟩
    walk_at "pb"
    refine ⟨.im (.int l[i]), .im (.int r[i]), ?_, rfl, rfl⟩
    rw [List.take_succ_eq_append_getElem h1, List.take_succ_eq_append_getElem h2, stk_app, stk_app]
    have e3 : stk (bs - 1) 0 (l.take i) * (bs - 1) + l[i] + 1 - (stk (bs - 1) 0 (r.take i) * (bs - 1) + r[i] + 1) = (stk (bs - 1) 0 (l.take i) - stk (bs - 1) 0 (r.take i)) * (bs - 1) + (l[i] - r[i]) := by
      rw [Int.sub_mul]
      omega
    rw [e3, ← mod_step]
    have e4 : (stk (bs - 1) 0 (l.take i) - stk (bs - 1) 0 (r.take i)) % p * (bs - 1) + (l[i] - r[i]) = (stk (bs - 1) 0 (l.take i) - stk (bs - 1) 0 (r.take i)) % p * (bs - 1) + l[i] - r[i] := by omega
    rw [e4]
    rfl
  · rintro _ _ _ ⟨u, v, rfl, rfl, rfl⟩
    have e : min (l.map PyData.int).length (r.map PyData.int).length = l.length := by rw [List.length_map, List.length_map]; omega
    have er : r.take l.length = r := by rw [hlr, List.take_length]
    rw [e, List.take_length, er]
    walk_at "pb"
    exact h
theorem sc56 : FnScope ["_law_starts", "_law_heaps", "_law_low", "_law_high", "_law_f"] ["_law_starts", "_law_heaps", "_law_low", "_law_high"] (defScope (top 56)) := ⟨rfl, rfl, rfl, by decide +kernel, rfl, by decide +kernel, by decide +kernel⟩
theorem g_law_whole (F : FnT K "_law_whole" 56 f fd) (b : Blt mg) : FnOk P w K mg base (L2.CX P w) (k + 1) f fd ["_law_starts", "_law_heaps", "_law_low", "_law_high"] (prom K T preWhole) := by
  refine fn_pb F sc56 (fun as n Φ ⟨b, _, _, _, h, _⟩ => by rw [h]; rfl) fun cdv A outer s H E fa B as n Φ hr hp => ?_
  obtain ⟨P', hs, lo, hi, rfl, hl, hl2, h⟩ := hp
  unfold itup
  have gP : ∀ i, i < P'.length → (P'.map PyData.int)[i]? = some (.int (P'.getD i 0)) := fun i hi => by
    rw [List.getElem?_map, List.getD_eq_getElem?_getD, List.getElem?_eq_getElem hi]
    rfl
  have gH : ∀ i, i < hs.length → (hs.map PyData.int)[i]? = some (.int (hs.getD i 0)) := fun i hi => by
    rw [List.getElem?_map, List.getD_eq_getElem?_getD, List.getElem?_eq_getElem hi]
    rfl
  walk_at "pb"
  refine ex_l (el_lcN 4 rfl sc56.nd (lcP (wx_range1 b.range ?_)))
  refine ex_lenJ b.len ?_
  walk_at "pb"
  rw [List.length_map]
  refine ⟨by omega, by omega, by omega, fun i => decide (lo ≤ P'.getD i 0) && decide (P'.getD (i + 1) 0 < hi), fun i => .int (hs.getD i 0), fun i acc hi' => btx1 fun s0 H0 C' cl fp => ?_, fun i acc hi' _ => bex fun s0 H0 C' cl fp => ?_, ?_⟩
  · have hi' : i < hs.length := by omega
    walk_at "pb"
    refine ix_t ⟨_, gP i (by omega), ?_⟩
    walk_at "pb"
    refine ifd (fun h1 => ?_) (fun h1 => ?_)
    · walk_at "pb"
      have e : ((i : Int) + 1).toNat = i + 1 := by omega
      refine ix_ti (by omega) (d := .int (P'.getD (i + 1) 0)) (by rw [e]; exact gP (i + 1) (by omega)) ?_
      walk_at "pb"
      show _ = (decide (lo ≤ P'.getD i 0) && decide (P'.getD (i + 1) 0 < hi)) ∧ _ = _
      rw [decide_eq_true h1, Bool.true_and]
      exact ⟨rfl, rfl⟩
    · show _ = (decide (lo ≤ P'.getD i 0) && decide (P'.getD (i + 1) 0 < hi)) ∧ _ = _
      rw [decide_eq_false h1, Bool.false_and]
      exact ⟨rfl, rfl⟩
  · have hi' : i < hs.length := by omega
    walk_at "pb"
    refine ix_t ⟨_, gH i (by omega), ?_⟩
    exact ⟨rfl, rfl⟩
  · have e : (hs.length : Int).toNat = hs.length := by omega
    rw [e]
    walk_at "pb"
    unfold wholeL at h
    rw [List.map_map] at h
    exact h
theorem sc55 : FnScope ["_law_feed_here", "_law_base", "_law_small", "_law_k"] ["_law_feed_here", "_law_base"] (defScope (top 55)) := ⟨rfl, rfl, rfl, by decide +kernel, rfl, by decide +kernel, by decide +kernel⟩
theorem g_law_stacks (F : FnT K "_law_stacks" 55 f fd) (b : Blt mg) (kd : Kn P w K mg base T k "_law_draw" ["_law_feed_here", "_law_below"] preDraw) (kh : Kn P w K mg base T k "_law_heap" ["_law_feed_here"] preHeap) : FnOk P w K mg base (L2.CX P w) (k + 1) f fd ["_law_feed_here", "_law_base"] (prom K T preStks) := by
  refine fn_pb F sc55 (fun as n Φ ⟨b, h, _⟩ => by rw [h]; rfl) fun cdv A outer s H E fa B as n Φ hr hp => ?_
  obtain ⟨bs, rfl, hn, h⟩ := hp
  have c56 : (400 : Int) ≤ 10 ^ 56 := by decide
  walk_at "pb"
  refine sx_lcN 2 3 rfl sc55.nd (wx_range1 b.range ?_)
  refine ex_call kd hr rfl (ea_f 0 rfl ?_)
  walk_at "pb"
  refine ⟨8, rfl, by omega, by omega, by omega, fun q hq0 hq1 => ?_⟩
  walk_at "pb"
  refine ⟨by omega, by omega, by omega, fun i acc n' => ∃ xs : List Int, acc = xs.map .int ∧ xs.length = i ∧ (∀ x ∈ xs, 0 ≤ x ∧ x < 400) ∧ n' = n + 2 + 4 * i, ⟨[], rfl, rfl, by simp, rfl⟩, ?_, ?_⟩
  · rintro i acc n' hi ⟨xs, rfl, hxl, hx, rfl⟩
    refine btx0 (ifT (bex fun s0 H0 C' cl fp => ?_))
    refine ex_call kd hr rfl (ea_f 0 rfl ?_)
    walk_at "pb"
    refine ex_l (el_ls ?_)
    walk_at "pb"
    refine ⟨[.int 1, .int 4, .int 4, .int 30, .int 400], rfl, by simp, ?_⟩
    refine ex_call kd hr rfl (ea_f 0 rfl ?_)
    walk_at "pb"
    refine ⟨5, rfl, by omega, by omega, by omega, fun wy hw0 hw1 => ?_⟩
    walk_at "pb"
    have key : ∃ q : Int, [PyData.int 1, PyData.int 4, PyData.int 4, PyData.int 30, PyData.int 400][wy.toNat]? = some (.int q) ∧ 1 ≤ q ∧ q ≤ 400 := by
      have hw : wy = 0 ∨ wy = 1 ∨ wy = 2 ∨ wy = 3 ∨ wy = 4 := by omega
      rcases hw with rfl | rfl | rfl | rfl | rfl
      · exact ⟨1, rfl, by omega, by omega⟩
      · exact ⟨4, rfl, by omega, by omega⟩
      · exact ⟨4, rfl, by omega, by omega⟩
      · exact ⟨30, rfl, by omega, by omega⟩
      · exact ⟨400, rfl, by omega, by omega⟩
    obtain ⟨q', hq, hq0', hq1'⟩ := key
    refine ix_li hw0 hq ?_
    walk_at "pb"
    refine ⟨q', rfl, hq0', by omega, by omega, fun v hv0 hv1 => ?_⟩
    walk_at "pb"
    refine ⟨xs ++ [v], by rw [List.map_append]; rfl, by rw [List.length_append, hxl]; rfl, fun x hx' => ?_, by omega⟩
    rcases List.mem_append.mp hx' with hx' | hx'
    · exact hx x hx'
    · rw [List.mem_singleton.mp hx']
      omega
  · rintro acc n' ⟨xs, rfl, hxl, hx, rfl⟩
    have hq7 : xs.length ≤ 7 := by omega
    have hcount : n + 2 + 4 * q.toNat ≤ n + 30 := by omega
    walk_at "pb e"
    refine sv_more (n + 30) hcount ?_
    walk_at "pb"
    refine ex_call kd hr rfl (ea_f 0 rfl ?_)
    walk_at "pb"
    refine ⟨6, rfl, by omega, by omega, by omega, fun v hv0 hv1 => ?_⟩
    walk_at "pb"
    refine ifd (fun h1 => ?_) (fun h1 => ?_)
    · walk_at "pb"
      refine sx_asg 2 sc55.nd ?_
      walk_at "pb"
      refine ex_l (el_sl ?_)
      walk_at "pb"
      have e3 : cutL (xs.map PyData.int) none (some 3) = (xs.take 3).map .int := by
        have := cut_hi (xs.map PyData.int) 3
        rw [List.map_take]
        exact this
      rw [e3]
      refine ex_l (el_ls ?_)
      refine ea_1 ?_
      refine ex_call kh hr rfl (ea_f 0 rfl ?_)
      walk_at "pb"
      refine ⟨rfl, by omega, fun hp hp0 hp1 => ?_⟩
      walk_at "pb"
      refine ⟨[.int hp], rfl, by simp, ?_⟩
      refine add_lst (by rw [List.length_map, List.length_take, List.length_singleton]; omega) ?_
      refine ex_l (el_sl ?_)
      walk_at "pb"
      have e36 : cutL (xs.map PyData.int) (some 3) (some 6) = ((xs.drop 3).take 3).map .int := by
        have := cut_lh (xs.map PyData.int) 3 6
        rw [List.map_take, List.map_drop]
        exact this
      rw [e36]
      refine add_lst (by rw [List.length_append, List.length_map, List.length_take, List.length_singleton, List.length_map, List.length_take]; omega) ?_
      walk_at "pb"
      refine ex_tupJ b.tuple ?_
      walk_at "pb"
      have := h (xs.take 3 ++ [hp] ++ (xs.drop 3).take 3) (by rw [List.length_append, List.length_append, List.length_take, List.length_singleton, List.length_take, List.length_drop]; omega) fun x hx' => by
        rcases List.mem_append.mp hx' with hx' | hx'
        · rcases List.mem_append.mp hx' with hx' | hx'
          · have := hx x (List.mem_of_mem_take hx')
            omega
          · rw [List.mem_singleton.mp hx']
            exact ⟨hp0, hp1⟩
        · have := hx x (List.mem_of_mem_drop (List.mem_of_mem_take hx'))
          omega
      unfold itup at this
      rw [List.map_append, List.map_append] at this
      exact this
    · walk_at "pb e"
      walk_at "pb e"
      refine sv_more (n + 50) (by omega) ?_
      walk_at "pb"
      refine ex_tupJ b.tuple ?_
      walk_at "pb"
      exact h xs hq7 fun x hx' => by
        have := hx x hx'
        omega
theorem sc58 : FnScope ["_law_starts", "_law_many", "_law_found", "_law_few", "_law_f"] ["_law_starts"] (defScope (top 58)) := ⟨rfl, rfl, rfl, by decide +kernel, rfl, by decide +kernel, by decide +kernel⟩
theorem g_law_loss_told (F : FnT K "_law_loss_told" 58 f fd) (b : Blt mg) : FnOk P w K mg base (L2.CX P w) (k + 1) f fd ["_law_starts"] (prom K T preTold) := by
  refine fn_pb F sc58 (fun as n Φ ⟨b, _, _, h, _⟩ => by rw [h]; rfl) fun cdv A outer s H E fa B as n Φ hr hp => ?_
  obtain ⟨P', N, L, rfl, M, hN, h⟩ := hp
  have hPl := M.len
  have gP : ∀ i, i < P'.length → (P'.map PyData.int)[i]? = some (.int (P'.getD i 0)) := fun i hi => by
    rw [List.getElem?_map, List.getD_eq_getElem?_getD, List.getElem?_eq_getElem hi]
    rfl
  unfold itup
  walk_at "pb"
  refine sx_asg 1 sc58.nd ?_
  walk_at "pb"
  refine ex_lenJ b.len ?_
  walk_at "pb"
  have eN : ((P'.map PyData.int).length : Int) - 1 = (N : Int) := by rw [List.length_map, hPl]; omega
  rw [eN]
  refine sx_asgL 2 sc58.nd (el_ite ?_)
  walk_at "pb"
  have rest : ∀ fo : List Int, fo = lossL P' (min N 1) L → SB (cxOf (L2.CX P w) P w K mg base ["_law_starts", "_law_many", "_law_found", "_law_few", "_law_f"] "_law_loss_told" (defScope (top 58)) f cdv A outer s H E) ⟨T, fa, B, H, E⟩ ((defBody (top 58)).drop 2)
      [.im (.tuple (P'.map .int)), .im (.int N), .ce 0, .un, .un] [.ls (fo.map .int)] n (fin Φ) := fun fo hfo => by
    walk_at "pb e"
    refine sx_for 3 rfl sc58.nd (wx_range2 b.range ?_)
    walk_at "pb"
    refine ⟨by omega, ?_⟩
    refine ⟨fun i ρ' μ' n' => ∃ u, ρ' = [.im (.tuple (P'.map .int)), .im (.int N), .ce 0, u, .un] ∧ μ' = [.ls ((lossL P' (min N 1 + i) L).map .int)] ∧ n' = n, ⟨.un, rfl, by rw [hfo]; rfl, rfl⟩, ?_, ?_⟩
    · rintro i _ _ _ hi ⟨u, rfl, rfl, rfl⟩
      have hi2 : i + 2 ≤ N := by omega
      have hm1 : min N 1 = 1 := by omega
      walk_at "pb e"
      refine sx_app 2 0 rfl rfl (by rw [List.length_map]; unfold lossL; rw [List.length_map, List.length_range]; omega) ?_
      refine ex_min rfl b.min (ex_l (el_lcN 4 rfl sc58.nd (lcP (wx_range1 b.range ?_))))
      walk_at "pb"
      have er : ((N : Int) - (2 + (i : Int)) + 1).toNat = N - i - 1 := by omega
      refine ⟨by omega, by omega, ?_⟩
      rw [er]
      refine ⟨by omega, fun _ => true, fun j => .int (P'.getD (j + (i + 2) - 1) 0 - P'.getD (j + 1) 0 + 1), fun _ _ _ => btx0 ⟨rfl, rfl⟩, fun j acc hj _ => bex fun s0 H0 C' cl fp => ?_, ?_⟩
      · walk_at "pb"
        have e1 : ((j : Int) + (2 + (i : Int)) - 1).toNat = j + (i + 2) - 1 := by omega
        have e2 : ((j : Int) + 1).toNat = j + 1 := by omega
        refine ix_ti (by omega) (d := .int (P'.getD (j + (i + 2) - 1) 0)) (by rw [e1]; exact gP _ (by omega)) ?_
        walk_at "pb"
        refine ix_ti (by omega) (d := .int (P'.getD (j + 1) 0)) (by rw [e2]; exact gP _ (by omega)) ?_
        walk_at "pb"
        exact ⟨rfl, rfl⟩
      · rw [filter_true]
        refine ⟨(List.range (N - i - 1)).map fun j => P'.getD (j + (i + 2) - 1) 0 - P'.getD (j + 1) 0 + 1, shl P' L ((i + 2 : Nat) : Int), by rw [List.map_map]; rfl, by rw [List.length_map, List.length_range]; omega, fun q h1 h2 => ?_, ?_⟩
        · obtain ⟨j, hj, rfl⟩ := List.mem_map.mp h1
          have hj := List.mem_range.mp hj
          exact min_uni M (m := i + 2) (by omega) (by omega) ⟨j, by omega, rfl⟩ fun g hg => h2 _ (List.mem_map.mpr ⟨g, List.mem_range.mpr (by omega), rfl⟩)
        · walk_at "pb"
          refine ⟨.im (.int (2 + i)), rfl, ?_, rfl⟩
          have : lossL P' (min N 1 + (i + 1)) L = lossL P' (min N 1 + i) L ++ [shl P' L ((i + 2 : Nat) : Int)] := by
            unfold lossL
            have e : min N 1 + (i + 1) = (min N 1 + i) + 1 := by omega
            rw [e, List.range_succ, List.map_append]
            have e2 : min N 1 + i + 1 = i + 2 := by omega
            rw [List.map_cons, e2]
            rfl
          rw [this, List.map_append]
          rfl
    · rintro _ _ _ ⟨u, rfl, rfl, rfl⟩
      walk_at "pb e"
      refine sv_frz 2 0 rfl rfl ?_
      walk_at "pb"
      have e : min N 1 + ((N : Int) + 1 - 2).toNat = N := by omega
      rw [e]
      exact h
  refine ifd (fun h1 => ?_) (fun h1 => ?_)
  · refine el_ls ?_
    walk_at "pb"
    refine ⟨[.int 1], rfl, by simp, ?_⟩
    walk_at "pb e"
    refine rest [1] ?_
    have e : min N 1 = 1 := by omega
    unfold lossL
    rw [e]
    show [1] = [shl P' L ((0 + 1 : Nat) : Int)]
    rw [shl_one M (by omega)]
  · refine el_ls ?_
    walk_at "pb"
    refine ⟨[], rfl, by simp, ?_⟩
    walk_at "pb e"
    refine rest [] ?_
    have e : min N 1 = 0 := by omega
    rw [e]
    rfl
theorem sc57 : FnScope ["_law_tape_here", "_law_starts", "_law_long", "_law_many", "_law_found", "_law_low", "_law_high", "_law_hit", "_law_f", "_law_few"] ["_law_tape_here", "_law_starts"] (defScope (top 57)) := ⟨rfl, rfl, rfl, by decide +kernel, rfl, by decide +kernel, by decide +kernel⟩
theorem g_law_losses (F : FnT K "_law_losses" 57 f fd) (b : Blt mg) : FnOk P w K mg base (L2.CX P w) (k + 1) f fd ["_law_tape_here", "_law_starts"] (prom K T preLosses) := by
  refine fn_pb F sc57 (fun as n Φ ⟨b, _, _, h, _⟩ => by rw [h]; rfl) fun cdv A outer s H E fa B as n Φ hr hp => ?_
  obtain ⟨t, P', N, rfl, M, hN, hL, h⟩ := hp
  have hPl := M.len
  have gP : ∀ i, i < P'.length → (P'.map PyData.int)[i]? = some (.int (P'.getD i 0)) := fun i hi => by
    rw [List.getElem?_map, List.getD_eq_getElem?_getD, List.getElem?_eq_getElem hi]
    rfl
  have eL : ((t.map PyData.int).length : Int) = (t.length : Int) := by rw [List.length_map]
  have eN : ((P'.map PyData.int).length : Int) - 1 = (N : Int) := by rw [List.length_map, hPl]; omega
  unfold itup
  walk_at "pb"
  refine sx_par 2 3 rfl sc57.nd (ex_lenJ b.len ?_)
  walk_at "pb"
  refine ex_lenJ b.len ?_
  walk_at "pb"
  rw [eN, eL]
  generalize hLg : t.length = L at *
  refine sx_asgL 4 sc57.nd (el_rep ?_)
  refine ex_l (el_ls ?_)
  walk_at "pb"
  refine ⟨[.int L], rfl, by simp, ?_⟩
  walk_at "pb"
  refine ⟨[.int L], N + 1, rfl, rfl, by omega, by simp; omega, ?_⟩
  have e0 : (List.replicate (N + 1) [PyData.int (L : Int)]).flatten = (List.replicate (N + 1) (L : Int)).map .int := by
    rw [List.map_replicate]
    exact List.flatten_replicate_singleton
  rw [e0]
  walk_at "pb"
  refine sx_for 5 rfl sc57.nd (wx_range1 b.range ?_)
  walk_at "pb"
  refine ⟨by omega, by omega, ?_⟩
  refine ⟨fun i ρ' μ' n' => ∃ (u v x : Sl) (fo : List Int), ρ' = [.im (.tuple (t.map .int)), .im (.tuple (P'.map .int)), .im (.int L), .im (.int N), .ce 0, u, v, x, .un, .un] ∧ μ' = [.ls (fo.map .int)] ∧ n' = n ∧ Tab P' N L fo (fun a b => a < i ∧ a ≤ b ∧ b < L),
    ⟨.un, .un, .un, _, rfl, rfl, rfl, (Tab.start P' N L).len, (Tab.start P' N L).le, (Tab.start P' N L).at_, fun a b hab => absurd hab.1 (by omega)⟩, ?_, ?_⟩
  · rintro i _ _ n2 hi ⟨u, v, x, fo, rfl, rfl, rfl, tb⟩
    have hi : i < L := by omega
    walk_at "pb e"
    refine sx_for 6 rfl sc57.nd (wx_range2 b.range ?_)
    walk_at "pb"
    refine ⟨by omega, ?_⟩
    refine ⟨fun j ρ' μ' n' => ∃ (v x : Sl) (fo : List Int), ρ' = [.im (.tuple (t.map .int)), .im (.tuple (P'.map .int)), .im (.int L), .im (.int N), .ce 0, .im (.int i), v, x, .un, .un] ∧ μ' = [.ls (fo.map .int)] ∧ n' = n2 ∧ Tab P' N L fo (fun a b => (a < i ∧ a ≤ b ∧ b < L) ∨ (a = i ∧ a ≤ b ∧ b < i + j)),
      ⟨v, x, fo, rfl, rfl, rfl, tb.len, tb.le, tb.at_, fun a b hab => tb.all a b (by omega)⟩, ?_, ?_⟩
    · rintro j _ _ n3 hj ⟨v, x, fo, rfl, rfl, rfl, tb⟩
      have hj : i + j < L := by omega
      have eh : (i : Int) + (j : Int) = ((i + j : Nat) : Int) := by omega
      dsimp only
      rw [eh]
      generalize hg : i + j = hh at *
      walk_at "pb e"
      refine sx_asg 7 sc57.nd (ex_lenJ b.len (ex_l (el_lcN 8 rfl sc57.nd (lcP (wx_range1 b.range ?_)))))
      walk_at "pb"
      refine ⟨by omega, by omega, by omega, fun q => decide (P'.getD q 0 ≤ (hh : Int)) && decide ((i : Int) ≤ P'.getD (q + 1) 0), fun q => .int q, fun q acc hq => btx1 fun s0 H0 C' cl fp => ?_, fun q acc hq _ => bex fun s0 H0 C' cl fp => ?_, ?_⟩
      · have hq : q < N := by omega
        walk_at "pb"
        refine ix_t ⟨_, gP q (by omega), ?_⟩
        walk_at "pb"
        refine ifd (fun h1 => ?_) (fun h1 => ?_)
        · walk_at "pb"
          have e : ((q : Int) + 1).toNat = q + 1 := by omega
          refine ix_ti (by omega) (d := .int (P'.getD (q + 1) 0)) (by rw [e]; exact gP (q + 1) (by omega)) ?_
          walk_at "pb"
          show _ = (decide (P'.getD q 0 ≤ (hh : Int)) && decide ((i : Int) ≤ P'.getD (q + 1) 0)) ∧ _ = _
          rw [decide_eq_true h1, Bool.true_and]
          exact ⟨rfl, rfl⟩
        · show _ = (decide (P'.getD q 0 ≤ (hh : Int)) && decide ((i : Int) ≤ P'.getD (q + 1) 0)) ∧ _ = _
          rw [decide_eq_false h1, Bool.false_and]
          exact ⟨rfl, rfl⟩
      · walk_at "pb"
        exact ⟨rfl, rfl⟩
      · walk_at "pb e"
        walk_at "pb e"
        have e : (N : Int).toNat = N := by omega
        rw [List.length_map, e]
        have eH : (((List.range N).filter fun q => decide (P'.getD q 0 ≤ (hh : Int)) && decide ((i : Int) ≤ P'.getD (q + 1) 0)).length : Int) = (hitL P' N i hh : Int) := rfl
        rw [eH]
        have hle := hit_le P' N i hh
        have gF : (fo.map PyData.int)[hitL P' N i hh]? = some (.int (fo.getD (hitL P' N i hh) 0)) := by
          rw [List.getElem?_map, List.getD_eq_getElem?_getD, List.getElem?_eq_getElem (by rw [tb.len]; omega)]
          rfl
        walk_at "pb e"
        walk_at "pb e"
        refine et_lt (ex_addJ (ex_sub ?_))
        walk_at "pb e"
        walk_at "pb e"
        walk_at "pb e"
        walk_at "pb e"
        walk_at "pb e"
        refine ex_ixC 4 0 rfl rfl ?_
        walk_at "pb"
        refine ⟨_, _, rfl, gF, ?_⟩
        walk_at "pb"
        refine ifd (fun h1 => ?_) (fun h1 => ?_)
        · walk_at "pb"
          refine sx_setL 4 0 rfl rfl ?_
          walk_at "pb"
          refine ⟨_, rfl, by rw [List.length_map, tb.len]; omega, ?_⟩
          walk_at "pb"
          refine ⟨_, _, _, rfl, ?_, rfl, tb.put h1 (by omega) (by omega) fun a c hab => ?_⟩
          · rw [List.map_set]
            rfl
          · omega
        · walk_at "pb"
          exact ⟨_, _, fo, rfl, rfl, rfl, tb.keep h1 fun a c hab => by omega⟩
    · rintro _ _ _ ⟨v, x, fo, rfl, rfl, rfl, tb⟩
      walk_at "pb"
      exact ⟨_, _, _, fo, rfl, rfl, rfl, tb.len, tb.le, tb.at_, fun a c hab => tb.all a c (by omega)⟩
  · rintro _ _ n2 ⟨u, v, x, fo, rfl, rfl, rfl, tb⟩
    walk_at "pb e"
    refine sv_frz 4 0 rfl rfl ?_
    walk_at "pb"
    refine ex_l (el_lcN 9 rfl sc57.nd (lcP (wx_range2 b.range ?_)))
    walk_at "pb"
    refine ⟨by omega, by omega, fun _ => true, fun i => .int (shl P' L ((i + 1 : Nat) : Int)), fun _ _ _ => btx0 ⟨rfl, rfl⟩, fun i acc hi _ => bex fun s0 H0 C' cl fp => ?_, ?_⟩
    · have hi : i < N := by omega
      refine ex_min rfl b.min (ex_l (el_sl ?_))
      walk_at "pb"
      have e1 : (1 : Int) + (i : Int) = ((i + 1 : Nat) : Int) := by omega
      rw [e1, cut_lo, ← List.map_drop]
      refine ⟨fo.drop (i + 1), shl P' L ((i + 1 : Nat) : Int), rfl, by rw [List.length_drop, tb.len]; omega, fun q h1 h2 => tb.min M (fun a c h3 h4 => by omega) (by omega) (by omega) h1 h2, rfl, rfl⟩
    · rw [filter_true]
      walk_at "pb"
      have e : ((N : Int) + 1 - 1).toNat = N := by omega
      rw [e]
      unfold lossL at h
      rw [List.map_map] at h
      exact h
end
end Pb

set_option Elab.async false
set_option linter.all false
set_option maxRecDepth 100000
set_option maxHeartbeats 4000000
/-! PbT: defs that ask for an empty row of guards; repr; defs that make lambdas. -/
namespace Pb
open PySem PySem.Spec PyProof.Rows L2
/-! ### defs told where no repr stands open -/
structure FnG (P : Program) (w : World) (K : Frg) (mg : Str → Option Value) (base : Heap) (k : Nat) (f : Addr) (fd : FuncData) (ps : List Str) (sp : Sp) : Prop where
  len : ∀ vs H Q E, sp vs H Q E → vs.length = ps.length
  go : ∀ (A : Around) (outer : List Env) (s : Shared) (H : Hp) (args : Args) (us : List Value) (vs : List V) (Q : VK) (E : XK), A.guards = some [] → Room k A → Env0 P w K mg base A outer s H → BindsTo s fd args (ps.zip us) → Vals vs us → sp vs H Q E →
    codeAny (model P w) A (.call (.ref f) args) (CR (L2.CX P w) outer P w H s Q E) s
structure KnG (P : Program) (w : World) (K : Frg) (mg : Str → Option Value) (base : Heap) (j : Nat) (x : Str) (ps : List Str) (sp : Sp) : Prop where
  ex : ∃ f fd, FnG P w K mg base j f fd ps sp ∧ mg x = some (.ref f) ∧ PySem.W.keepIn K (.ref f) = true ∧ Binds K fd ps []
section
variable {X : Cx} {k : Nat} {f : Addr} {fd : FuncData} {ps : List Str} {sp : Sp} {E : XK} {x : Str} {p pos : Pos} {e : Expr} {es : List Expr} {t : TA}
theorem call_g {pins : List (Addr × Obj)} {σ : L2.St} {H : Hp} {s : Shared} {Q : VK} {us : List Value} {vs : List V} (F : FnG X.prog X.w X.K X.mg X.base k f fd ps sp) (hg : X.A.guards = some []) (hr : Room k X.A) (hb : Binds X.K fd ps []) (hx : Passes (L2.CX X.prog X.w) X E)
    (I : Inv X pins σ H s) (r : Vals vs us) (h : sp vs H Q E) : wpAny (model X.prog X.w) X.A (call (.ref f) us) (EP X pins σ Q) X.xe s := by
  have hl : us.length = ps.length := by
    rw [← r.length]
    exact F.len _ _ _ _ h
  have hb' := hb s us I.kIn (by rw [List.append_nil]; exact hl)
  rw [List.append_nil] at hb'
  have c := F.go X.A X.stack s H ⟨us, []⟩ us vs Q E hg hr I.env0 hb' r h
  refine wpAny_call (codeAny_mono c fun res s' hq => ?_)
  match res, hq with
  | .error e, hq => exact hx pins σ H s e s' I hq
  | .ok (.ret u), hq => exact I.after hq
  | .ok .next, hq => exact hq.elim
  | .ok .brk, hq => exact hq.elim
  | .ok .cont, hq => exact hq.elim
theorem pe_g (F : FnG X.prog X.w X.K X.mg X.base k f fd ps sp) (hgd : X.A.guards = some []) (hr : Room k X.A) (hg : Gl X x) (hm : X.mg x = some (.ref f)) (hk : PySem.W.keepIn X.K (.ref f) = true) (hb : Binds X.K fd ps []) (hx : Passes (L2.CX X.prog X.w) X E)
    (ha : PA X (e :: es) t) (hdb : (x == ("__debug__" : Str)) = false := by decide) (he : starEach (e :: es) X.env = (false, eval e X.env) :: starEach es X.env := by rfl) (hpl : (backTo pos (starEach es X.env)).any (·.1) = false := by rfl) :
    PE X (.Call (.Name x p) (e :: es) [] pos) (tCall sp [] E t) := by
  refine ⟨fun pins s σ H Q I h => wpAny_Call_Name_kw (ld_glob I hg hm ?_ hdb)⟩
  refine PySem.W.callWith_K (h₀ := X.base) I.ok.mod.kin hk (thn (ha.run pos pins s σ H _ I h) fun us s1 ⟨vs, H1, I1, r, q⟩ => ⟨I1.kIn, ?_⟩) he hpl
  have q' : sp (vs ++ []) H1 Q E := q
  rw [List.append_nil] at q'
  exact call_g F hgd hr hb hx I1 r q'
theorem pe_g0 (F : FnG X.prog X.w X.K X.mg X.base k f fd ps sp) (hgd : X.A.guards = some []) (hr : Room k X.A) (hg : Gl X x) (hm : X.mg x = some (.ref f)) (hk : PySem.W.keepIn X.K (.ref f) = true) (hb : Binds X.K fd ps []) (hx : Passes (L2.CX X.prog X.w) X E)
    (hdb : (x == ("__debug__" : Str)) = false := by decide) : PE X (.Call (.Name x p) [] [] pos) (tCall sp [] E tNil) :=
  ⟨fun pins s σ H Q I h => wpAny_Call_Name_kw (ld_glob I hg hm (PySem.W.callWith_K0 I.kIn hk (call_g (us := []) (vs := []) F hgd hr hb hx I .nil h)) hdb)⟩
end
/-! ### the promise of a def that makes lambdas: it tells nothing of what is not known -/
def promW (K : Frg) (T : List (Addr × Str)) (pre : Pre) : Sp := fun vs H Q E => ∃ (fa : Option Addr) (B : Hp) (as : List Ar) (n : Nat) (Φ : Ou → Nat → Prop),
  Same B H ∧ Paired (ArOk K fa B) vs as ∧ (∀ a, fa = some a → B a = none ∧ FeedOk K B H a n) ∧ LamX.Tabs T H ∧ (∀ p ∈ T, B p.1 = none ∧ H p.1 ≠ none ∧ fa ≠ some p.1) ∧ (∀ b ps, B b ≠ some (.tbl ps)) ∧ pre as n Φ ∧
  ∀ B' H' n', Same B B' → Same B' H' → (∀ b ps, B' b ≠ some (.tbl ps)) → (∀ a, fa = some a → B' a = none ∧ FeedOk K B' H' a n') → (∀ p ∈ T, B' p.1 = none) → LamX.Tabs T H' → ∀ v d, Dq B' v d → Φ (.ok d) n' → Q v H'
/-- a judging context whose entry heap tells but what is known, the feed, the tables -/
structure Mkr (C : Ct) : Prop where
  sm : ∀ a o, C.H0 a = some o → C.B0 a = some o ∨ C.m a
  nt : ∀ b ps, C.B0 b ≠ some (.tbl ps)
open Classical in
noncomputable def cutH (m : Addr → Prop) (B H : Hp) : Hp := fun a => if B a ≠ none then B a else if m a then H a else none
theorem cutH_B {m : Addr → Prop} {B H : Hp} {a : Addr} {o : HO} (h : B a = some o) : cutH m B H a = some o := by
  unfold cutH
  rw [if_pos (by rw [h]; simp), h]
theorem cutH_m {m : Addr → Prop} {B H : Hp} {a : Addr} (h : B a = none) (hm : m a) : cutH m B H a = H a := by
  unfold cutH
  rw [if_neg (by rw [h]; simp), if_pos hm]
theorem cutH_o {m : Addr → Prop} {B H : Hp} {a : Addr} {o : HO} (h : cutH m B H a = some o) : B a = some o ∨ (m a ∧ H a = some o) := by
  unfold cutH at h
  split at h
  · exact .inl h
  · split at h
    · exact .inr ⟨‹_›, h⟩
    · cases h
section
variable {K : Frg} {C : Ct} {ρ : List Sl} {μ : List Ce} {n n' : Nat} {ads : List Addr} {B H H1 B' H' : Hp} {σ : L2.St}
theorem pr_mem {α β : Type} {F : α → β → Prop} : ∀ {l : List α} {r : List β} {x : α}, Paired F l r → x ∈ l → ∃ y, F x y
  | _, _, _, .nil, h => absurd h (by simp)
  | _, _, x, .cons (b := b) h1 h2, h => by
    rcases List.mem_cons.mp h with rfl | h
    · exact ⟨_, h1⟩
    · exact pr_mem h2 h
/-- after a lambda has been made -/
theorem RepA.lam (r : RepA K C ads B H σ ρ μ n) (M : Mkr C) (e : LamX.ExtN H H1) (t : LamX.Tabs C.T H1) : RepA K C ads B H1 σ ρ μ n := by
  have bt : ∀ b ps, B b ≠ some (.tbl ps) := fun b ps h => M.nt b ps (r.fr.nt b ps h)
  have s1 : Same B H1 := fun b o h => e b o (r.sub b o h) fun ps z => bt b ps (by rw [h, z])
  have f1 : ∀ a, C.fa = some a → H1 a = H a := fun a ha => by
    obtain ⟨_, _, c, ns, i, l, k, h, _⟩ := r.fd a ha
    rw [h]
    exact e a _ h fun ps z => nomatch z
  refine ⟨⟨r.fr.b, s1, r.fr.old, fun a o h hm => ?_, fun a h => ?_, r.fr.nt⟩, r.sl, Paired.mapP r.ce fun p c h => ?_, r.nd, fun p hp => ?_, fun a ha => ?_, t, r.tn⟩
  · rcases M.sm a o h with h | h
    · exact s1 a o (r.fr.b a o h)
    · exact absurd h hm
  · cases e0 : C.H0 a with
    | none => rfl
    | some o =>
      exfalso
      rcases M.sm a o e0 with h2 | h2 | ⟨p, hp, rfl⟩
      · rw [s1 a o (r.fr.b a o h2)] at h
        cases h
      · obtain ⟨_, _, c, ns, i, l, k, h3, _⟩ := r.fd a h2
        rw [f1 a h2, h3] at h
        cases h
      · obtain ⟨ps, h3, _⟩ := t p hp
        rw [h3] at h
        cases h
  · cases c with
    | ls ds =>
      obtain ⟨h1, h2, vs, h3, h4⟩ := h
      exact ⟨h1, h2, vs, e p _ h3 (fun ps z => nomatch z), h4⟩
    | no => exact h
    | xd q fs => exact ⟨h.1, e p _ h.2 fun ps z => nomatch z⟩
  · obtain ⟨c, hc⟩ := pr_mem r.ce hp
    cases c with
    | ls ds =>
      obtain ⟨h1, h2, vs, h3, h4⟩ := hc
      rw [e p _ h3 fun ps z => nomatch z]
      simp
    | no =>
      obtain ⟨vs, h⟩ := hc
      rw [s1 p _ h]
      simp
    | xd q fs =>
      have hc' : H p = some (.xd fs) := hc.2
      rw [e p _ hc' fun ps z => nomatch z]
      simp
  · obtain ⟨h1, h2, h3⟩ := r.fd a ha
    exact ⟨h1, h2, h3.up (Same.refl _) (f1 a ha) (Nat.le_refl _)⟩
theorem rep_startW {T : List (Addr × Str)} {fa : Option Addr} {N : List Str} {vs : List V} {as : List Ar} {E : XK} (s : Same B H) (p : Paired (ArOk K fa B) vs as) (fd : ∀ a, fa = some a → B a = none ∧ FeedOk K B H a n) (tb : LamX.Tabs T H) (tn : ∀ p ∈ T, B p.1 = none ∧ H p.1 ≠ none ∧ fa ≠ some p.1) :
    RepA K ⟨T, fa, B, cutH (mOf fa T) B H, E⟩ [] B H (L2.start N vs) (as.map Ar.sl ++ List.replicate (N.length - as.length) .un) [] n := by
  have r := rep_start (N := N) (E := E) s p fd tb tn
  have nz : ∀ a, fa = some a → cutH (mOf fa T) B H a ≠ none := fun a ha => by
    rw [cutH_m (fd a ha).1 (.inl ha)]
    exact (r.fd a ha).1
  refine ⟨⟨Same.refl _, s, fun _ _ h => h, fun a o h hm => ?_, fun a h => ?_, fun _ _ h => h⟩, r.sl, .nil, r.nd, r.al, fun a ha => ⟨nz a ha, (r.fd a ha).2⟩, tb, fun q hq => ⟨?_, (tn q hq).1, (tn q hq).2.2⟩⟩
  · rcases cutH_o h with h | ⟨_, h⟩
    · exact s a o h
    · exact h
  · cases e : cutH (mOf fa T) B H a with
    | none => exact e
    | some o =>
      exfalso
      rcases cutH_o e with e | ⟨_, e⟩
      · rw [s a o e] at h
        cases h
      · rw [e] at h
        cases h
  · show cutH (mOf fa T) B H q.1 ≠ none
    rw [cutH_m (tn q hq).1 (.inr ⟨q, hq, rfl⟩)]
    exact (tn q hq).2.1
theorem mkr_cut {T : List (Addr × Str)} {fa : Option Addr} {E : XK} (nt : ∀ b ps, B b ≠ some (.tbl ps)) : Mkr ⟨T, fa, B, cutH (mOf fa T) B H, E⟩ :=
  ⟨fun a o h => by
    rcases cutH_o h with h | ⟨hm, _⟩
    · exact .inl h
    · exact .inr hm, nt⟩
/-- from the body's judgement to the wish of such a call -/
theorem promW_body {X : Cx} {T : List (Addr × Str)} {pre : Pre} {vs : List V} {Q : VK} {E : XK} {N : List Str} {body : List Stmt} (h : promW X.K T pre vs H Q E) (hb : ∀ C fa as n Φ, Mkr C → C.T = T → C.fa = fa → C.E = E → pre as n Φ → SB X C body (as.map Ar.sl ++ List.replicate (N.length - as.length) .un) [] n (fin fun o n' => ∃ d, o = .ok d ∧ Φ o n')) :
    canB X body { nx := fun _ H' => Q .non H', rt := Q } (L2.start N vs) H := by
  obtain ⟨fa, B, as, n, Φ, s, p, fd, tb, tn, nt, hp, q⟩ := h
  have r0 := rep_startW (N := N) (E := E) s p fd tb tn
  refine hb _ fa as n Φ (mkr_cut nt) rfl rfl rfl hp [] _ B H _ r0 ⟨fun ads σ B' H' ρ μ n' _ r hf => ?_, fun _ _ _ _ _ _ _ _ _ hf => hf.elim, fun _ _ _ _ _ _ _ _ _ hf => hf.elim, fun ads σ B' H' ρ μ n' v d _ r hd hf => ?_⟩ fun ads σ B' H' ρ μ n' x dd r h1 h2 hf => ?_
  · obtain ⟨d, e, hf⟩ := hf
    exact q B' H' n' r.fr.b r.sub (fun b ps z => nt b ps (r.fr.nt b ps z)) (fun a ha => (r.fd a ha).2) (fun p hp => (r.tn p hp).2.1) r.tb .non .none .non hf
  · obtain ⟨d', e, hf⟩ := hf
    exact q B' H' n' r.fr.b r.sub (fun b ps z => nt b ps (r.fr.nt b ps z)) (fun a ha => (r.fd a ha).2) (fun p hp => (r.tn p hp).2.1) r.tb v d hd hf
  · obtain ⟨d', e, _⟩ := hf
    cases e
end
/-- the caller's state after such a call: it has no lists of its own -/
theorem RepA.afterW {K : Frg} {C : Ct} {ρ : List Sl} {n n' : Nat} {B H B' H' : Hp} {σ : L2.St} (r : RepA K C [] B H σ ρ [] n) (M : Mkr C) (b : Same B B') (s : Same B' H') (nt : ∀ b ps, B' b ≠ some (.tbl ps)) (fd : ∀ a, C.fa = some a → B' a = none ∧ FeedOk K B' H' a n') (tn : ∀ p ∈ C.T, B' p.1 = none) (tb : LamX.Tabs C.T H') : RepA K C [] B' H' σ ρ [] n' := by
  have s0 : Same C.B0 H' := (r.fr.b.trans b).trans s
  refine ⟨⟨r.fr.b.trans b, s, fun a h1 h2 => ?_, fun a o h hm => ?_, fun a h => ?_, fun b ps z => absurd z (nt b ps)⟩, Paired.mapP r.sl fun _ _ h => h.up b, .nil, r.nd, fun p hp => absurd hp (by simp), fun a ha => ⟨(r.fd a ha).1, fd a ha⟩, tb, fun p hp => ⟨(r.tn p hp).1, tn p hp, (r.tn p hp).2.2⟩⟩
  · cases e : C.H0 a with
    | none => exact absurd e h1
    | some o =>
      rcases M.sm a o e with z | z | ⟨p, hp, rfl⟩
      · rw [h2] at z
        cases z
      · exact (fd a z).1
      · exact tn p hp
  · rcases M.sm a o h with z | z
    · exact s0 a o z
    · exact absurd z hm
  · cases e : C.H0 a with
    | none => rfl
    | some o =>
      exfalso
      rcases M.sm a o e with z | z | ⟨p, hp, rfl⟩
      · rw [s0 a o z] at h
        cases h
      · obtain ⟨_, c, ns, i, l, k, h3, _⟩ := fd a z
        rw [h3] at h
        cases h
      · obtain ⟨ps, h3, _⟩ := tb p hp
        rw [h3] at h
        cases h
theorem ev_callW {K : Frg} {C : Ct} {ρ : List Sl} {n : Nat} {T : List (Addr × Str)} {pre : Pre} {ta : TA} {Φ : PyData → Nat → Prop} {E : XK} (hT : C.T = T) (M : Mkr C) (h : EvA K C ta ρ [] n fun as n1 => pre as n1 (okp Φ)) : Ev K C (tCall (promW K T pre) [] E ta) ρ [] n Φ := fun ads σ B H Q r q =>
  h ads σ B H _ r fun vs as B1 H1 n1 e1 r1 p1 hp => by
    subst hT
    have ea : ads = [] := List.length_eq_zero_iff.mp (Paired.length r1.ce)
    subst ea
    rw [List.append_nil]
    refine ⟨C.fa, B1, as, n1, _, r1.sub, p1, fun a ha => (r1.fd a ha).2, r1.tb, fun t ht => ⟨(r1.tn t ht).2.1, fun z => (r1.tn t ht).1 (r1.fr.thr _ z), (r1.tn t ht).2.2⟩, fun b ps z => M.nt b ps (r1.fr.nt b ps z), hp, fun B' H' n' b s nt fd tn tb v d hd hf => ?_⟩
    exact q v d B' H' n' (e1.trans b) (r1.afterW M b s nt fd tn tb) hd hf
/-! ### their bodies -/
section
variable {P : Program} {w : World} {K : Frg} {mg : Str → Option Value} {base : Heap} {x qual : Str} {params : Arguments} {body : List Stmt} {scope : Scope} {f : Addr} {fd : FuncData} {N ps : List Str} {k : Nat} {pre : Pre} {T : List (Addr × Str)}
theorem fng_of {sp : Sp} (F : FunD K x qual params body scope [] [] f fd) (S : FnScope N ps scope) (len : ∀ vs H Q E, sp vs H Q E → vs.length = ps.length)
    (hb : ∀ (cdv : Value) (A : Around) (outer : List Env) (s : Shared) (H : Hp) (E : XK) (vs : List V) (Q : VK), A.guards = some [] → Room k (A.deeper (envOfC qual scope s.heap.objs.size f cdv)) → (∃ o fd', K.lookup f = some o ∧ o.data = .func fd' ∧ fd'.code = cdv) → sp vs H Q E →
      canB (cxOf (L2.CX P w) P w K mg base N qual scope f cdv A outer s H E) body { nx := fun _ H' => Q .non H', rt := Q } (L2.start N vs) H) : FnG P w K mg base (k + 1) f fd ps sp := by
  refine ⟨len, fun A outer s H args us vs Q E hg hr e0 hbd rv h => ?_⟩
  obtain ⟨oc, od, dV, kV, doc, pm, an, cdv, ct, osl, rfl, lk, hcd, _, _⟩ := F.ex
  exact LamX.run_ofS lk hcd S hr e0 hbd rv (len _ _ _ _ h) fun hr' => ⟨_, pss_can, hb cdv A outer s H E vs Q hg hr' ⟨_, _, lk, rfl, rfl⟩ h⟩
theorem fng_pb (F : FunD K x qual params body scope [] [] f fd) (S : FnScope N ps scope) (len : ∀ as n Φ, pre as n Φ → as.length = ps.length)
    (hb : ∀ (cdv : Value) (A : Around) (outer : List Env) (s : Shared) (H : Hp) (E : XK) (fa : Option Addr) (B : Hp) (as : List Ar) (n : Nat) (Φ : Ou → Nat → Prop), (A.deeper (envOfC qual scope s.heap.objs.size f cdv)).guards = some [] → Room k (A.deeper (envOfC qual scope s.heap.objs.size f cdv)) → pre as n Φ →
      SB (cxOf (L2.CX P w) P w K mg base N qual scope f cdv A outer s H E) ⟨T, fa, B, H, E⟩ body (as.map Ar.sl ++ List.replicate (N.length - as.length) .un) [] n (fin Φ)) : FnG P w K mg base (k + 1) f fd ps (prom K T pre) :=
  fng_of F S (fun vs H Q E h => prom_len len h) fun cdv A outer s H E vs Q hg hr _ h => prom_body (N := N) rfl h fun fa B as n Φ hp => hb cdv A outer s H E fa B as n Φ hg hr hp
theorem fng_pw (F : FunD K x qual params body scope [] [] f fd) (S : FnScope N ps scope) (len : ∀ as n Φ, pre as n Φ → as.length = ps.length)
    (hb : ∀ (cdv : Value) (A : Around) (outer : List Env) (s : Shared) (H : Hp) (E : XK) (C : Ct) (as : List Ar) (n : Nat) (Φ : Ou → Nat → Prop), (A.deeper (envOfC qual scope s.heap.objs.size f cdv)).guards = some [] → Room k (A.deeper (envOfC qual scope s.heap.objs.size f cdv)) → (∃ o fd', K.lookup f = some o ∧ o.data = .func fd' ∧ fd'.code = cdv) → Mkr C → C.T = T → C.E = E → pre as n Φ →
      SB (cxOf (L2.CX P w) P w K mg base N qual scope f cdv A outer s H E) C body (as.map Ar.sl ++ List.replicate (N.length - as.length) .un) [] n (fin fun o n' => ∃ d, o = .ok d ∧ Φ o n')) : FnG P w K mg base (k + 1) f fd ps (promW K T pre) :=
  fng_of F S (fun vs H Q E h => by
    obtain ⟨fa, B, as, n, Φ, s, p, fd, tb, tn, nt, hp, q⟩ := h
    rw [Paired.length p]
    exact len as n Φ hp) fun cdv A outer s H E vs Q hg hr hl h => promW_body (N := N) (T := T) h fun C fa as n Φ M hT _ hE hp => hb cdv A outer s H E C as n Φ hg hr hl M hT hE hp
theorem kng_of {sp : Sp} (F : FunD K x qual params body scope [] [] f fd) (hm : mg x = some (.ref f)) {j : Nat} (G : FnG P w K mg base j f fd ps sp)
    (hb : ∀ (kV doc pm : Value) (an : Option Addr) (cdv ct : Value) (us : List Value), us.length = ps.length → bindArgs (PySem.W.fnOf x qual params body scope .none kV doc pm an cdv ct) ⟨us, []⟩ = pure (ps.zip us)) : KnG P w K mg base j x ps sp :=
  ⟨f, fd, G, hm, F.kp, F.bindsN hb⟩
end
section
variable {X : Cx} {C : Ct} {ρ : List Sl} {μ : List Ce} {n : Nat} {a b c e : Expr} {pos p : Pos} {Φ : PyData → Nat → Prop} {T : List (Addr × Str)} {j : Nat} {x : Str} {ps : List Str} {pre : Pre}
theorem ex_g {es : List Expr} (k : KnG X.prog X.w X.K X.mg X.base j x ps (prom X.K T pre)) (hgd : X.A.guards = some []) (hr : Room j X.A) (hT : C.T = T) (h : EA X C (a :: es) ρ μ n fun as n1 => pre as n1 (okp Φ)) (hg : Gl X x := by rfl) (hdb : (x == ("__debug__" : Str)) = false := by decide)
    (he : starEach (a :: es) X.env = (false, eval a X.env) :: starEach es X.env := by rfl) (hpl : (backTo pos (starEach es X.env)).any (·.1) = false := by rfl) : EX X C (.Call (.Name x p) (a :: es) [] pos) ρ μ n Φ := by
  obtain ⟨f, fd, F, hm, hk, hb⟩ := k.ex
  exact ex_of (pe_g F hgd hr hg hm hk hb passL pa_can hdb he hpl) (ev_call hT h)
theorem ex_g0 (k : KnG X.prog X.w X.K X.mg X.base j x ps (prom X.K T pre)) (hgd : X.A.guards = some []) (hr : Room j X.A) (hT : C.T = T) (h : pre [] n (okp Φ)) (hg : Gl X x := by rfl) (hdb : (x == ("__debug__" : Str)) = false := by decide) : EX X C (.Call (.Name x p) [] [] pos) ρ μ n Φ := by
  obtain ⟨f, fd, F, hm, hk, hb⟩ := k.ex
  exact ex_of (pe_g0 F hgd hr hg hm hk hb passL hdb) (ev_call hT (ea_nil h))
theorem ex_gW {es : List Expr} (k : KnG X.prog X.w X.K X.mg X.base j x ps (promW X.K T pre)) (hgd : X.A.guards = some []) (hr : Room j X.A) (hT : C.T = T) (M : Mkr C) (h : EA X C (a :: es) ρ [] n fun as n1 => pre as n1 (okp Φ)) (hg : Gl X x := by rfl) (hdb : (x == ("__debug__" : Str)) = false := by decide)
    (he : starEach (a :: es) X.env = (false, eval a X.env) :: starEach es X.env := by rfl) (hpl : (backTo pos (starEach es X.env)).any (·.1) = false := by rfl) : EX X C (.Call (.Name x p) (a :: es) [] pos) ρ [] n Φ := by
  obtain ⟨f, fd, F, hm, hk, hb⟩ := k.ex
  exact ex_of (pe_g F hgd hr hg hm hk hb passL pa_can hdb he hpl) (ev_callW hT M h)
theorem ex_gW0 (k : KnG X.prog X.w X.K X.mg X.base j x ps (promW X.K T pre)) (hgd : X.A.guards = some []) (hr : Room j X.A) (hT : C.T = T) (M : Mkr C) (h : pre [] n (okp Φ)) (hg : Gl X x := by rfl) (hdb : (x == ("__debug__" : Str)) = false := by decide) : EX X C (.Call (.Name x p) [] [] pos) ρ [] n Φ := by
  obtain ⟨f, fd, F, hm, hk, hb⟩ := k.ex
  exact ex_of (pe_g0 F hgd hr hg hm hk hb passL hdb) (ev_callW hT M (ea_nil h))
end
end Pb

set_option Elab.async false
set_option linter.all false
set_option maxRecDepth 100000
set_option maxHeartbeats 4000000
/-! PbU: repr of data; _law_same. -/
namespace Pb
open PySem PySem.Spec PyProof.Rows L2
/-- data whose repr is short: m bounds its pieces, k its depth -/
structure Rp (m k : Nat) (d : PyData) : Prop where
  lv : d.leavesShort 100 = true
  sh : d.showable = true
  hd : d.hasDict = false
  bk : d.bulk ≤ m
  dp : d.depth ≤ k
structure RpA (m k : Nat) (ds : List PyData) : Prop where
  lv : PyData.leavesShortAll 100 ds = true
  sh : PyData.showableAll ds = true
  hd : PyData.hasDictAll ds = false
  bk : PyData.bulkAll ds ≤ m
  dp : PyData.depthAll ds ≤ k
theorem Rp.mono {m k m' k' : Nat} {d : PyData} (h : Rp m k d) (h1 : m ≤ m') (h2 : k ≤ k') : Rp m' k' d := ⟨h.lv, h.sh, h.hd, Nat.le_trans h.bk h1, Nat.le_trans h.dp h2⟩
theorem RpA.mono {m k m' k' : Nat} {d : List PyData} (h : RpA m k d) (h1 : m ≤ m') (h2 : k ≤ k') : RpA m' k' d := ⟨h.lv, h.sh, h.hd, Nat.le_trans h.bk h1, Nat.le_trans h.dp h2⟩
theorem rp_none : Rp 0 0 .none := ⟨rfl, rfl, rfl, Nat.le_refl _, Nat.le_refl _⟩
theorem rp_bool (b : Bool) : Rp 0 0 (.bool b) := ⟨rfl, rfl, rfl, Nat.le_refl _, Nat.le_refl _⟩
theorem rp_int {i : Int} (h : i.natAbs < 10 ^ 90) : Rp 0 0 (.int i) := by
  refine ⟨?_, ?_, rfl, Nat.le_refl _, Nat.le_refl _⟩
  · simp only [PyData.leavesShort, decide_eq_true_eq]
    have e := int_text_length_le10 (k := 90) (by decide) h
    show (Str.ofString (toString i)).length ≤ 100
    rw [PySem.ofString_length]
    omega
  · simp only [PyData.showable, decide_eq_true_eq]
    by_cases h0 : i.natAbs = 0
    · rw [h0]
      decide
    · have h1 : (10 : Nat) ^ 90 ≤ 2 ^ 300 := by decide +kernel
      have := (Nat.log2_lt h0 (k := 300)).mpr (Nat.lt_of_lt_of_le h h1)
      omega
theorem rpa_nil : RpA 0 0 [] := ⟨rfl, rfl, rfl, Nat.le_refl _, Nat.le_refl _⟩
theorem rpa_cons {m k m' k' : Nat} {d : PyData} {ds : List PyData} (h : Rp m k d) (h' : RpA m' k' ds) : RpA (m + 1 + m') (max k k') (d :: ds) := by
  obtain ⟨a1, a2, a3, a4, a5⟩ := h
  obtain ⟨b1, b2, b3, b4, b5⟩ := h'
  refine ⟨?_, ?_, ?_, ?_, ?_⟩
  · rw [PyData.leavesShortAll, a1, b1]
    rfl
  · rw [PyData.showableAll, a2, b2]
    rfl
  · rw [PyData.hasDictAll, a3, b3]
    rfl
  · rw [PyData.bulkAll]
    omega
  · rw [PyData.depthAll]
    omega
theorem rp_lst {m k : Nat} {ds : List PyData} (h : RpA m k ds) : Rp m (k + 1) (.list ds) := by
  obtain ⟨a1, a2, a3, a4, a5⟩ := h
  refine ⟨?_, ?_, ?_, ?_, ?_⟩
  · rw [PyData.leavesShort]; exact a1
  · rw [PyData.showable]; exact a2
  · rw [PyData.hasDict]; exact a3
  · rw [PyData.bulk]; exact a4
  · rw [PyData.depth]; omega
theorem rp_tup {m k : Nat} {ds : List PyData} (h : RpA m k ds) : Rp m (k + 1) (.tuple ds) := by
  obtain ⟨a1, a2, a3, a4, a5⟩ := h
  refine ⟨?_, ?_, ?_, ?_, ?_⟩
  · rw [PyData.leavesShort]; exact a1
  · rw [PyData.showable]; exact a2
  · rw [PyData.hasDict]; exact a3
  · rw [PyData.bulk]; exact a4
  · rw [PyData.depth]; omega
theorem rpa_all {m k : Nat} : ∀ {ds : List PyData}, (∀ d ∈ ds, Rp m k d) → RpA (ds.length * (m + 1)) k ds
  | [], _ => by
    refine rpa_nil.mono (by simp) (by omega)
  | d :: ds, h => by
    have h1 := h d (List.mem_cons_self ..)
    have h2 := rpa_all fun x hx => h x (List.mem_cons_of_mem _ hx)
    refine (rpa_cons h1 h2).mono ?_ (by omega)
    rw [List.length_cons, Nat.add_mul]
    omega
theorem rpa_ints {ns : List Int} (h : ∀ x ∈ ns, x.natAbs < 10 ^ 90) : RpA ns.length 0 (ns.map .int) := by
  have := rpa_all (m := 0) (k := 0) (ds := ns.map .int) fun d hd => by
    obtain ⟨x, hx, rfl⟩ := List.mem_map.mp hd
    exact rp_int (h x hx)
  refine this.mono ?_ (Nat.le_refl _)
  rw [List.length_map]
  omega
theorem rp_len {d : PyData} (h : Rp 100000 50 d) : d.shown.length ≤ sizeLine := by
  have h1 := PyData.shown_le_bulk 100 (by decide) d h.lv
  have h2 := h.bk
  rw [sizeLine_eq]
  omega
/-! ### repr -/
def rRepr (K : Frg) : List V → Hp → VK → Prop := fun vs H Q => ∃ (a : Addr) (d : PyData), vs = [.ref a] ∧ Dp K H (.ref a) d ∧ Rp 100000 50 d ∧ Q (.str d.shown) H
theorem cr_repr {X : Cx} (hg : X.A.guards = some []) (hu : X.A.units + 64 < cLine) : CallR X (.builtin "repr") (rRepr X.K) := by
  intro pins s σ H xs us Q I r h
  obtain ⟨a, d, rfl, hd, hp, q⟩ := h
  rw [Vals.ref1 r]
  obtain ⟨as, hr⟩ := Dp.reads I d (.ref a) (.ref a) hd rfl
  refine repr_of_reads' hr hp.sh (fun z => by rw [hp.hd] at z; cases z) hg (by have := hp.dp; omega) (fun b o e => e) (fun h' u tk k => ?_) (rp_len hp)
  exact ⟨.str d.shown, H, I.kept (t' := tk) k, ⟨u, rfl⟩, q⟩
section
variable {X : Cx} {C : Ct} {ρ : List Sl} {μ : List Ce} {n : Nat} {a : Expr} {pos p : Pos} {Φ : PyData → Nat → Prop}
theorem ex_repr (hgd : X.A.guards = some []) (hu : X.A.units + 64 < cLine) (hm : X.mg "repr" = none) (h : EX X C a ρ μ n fun d n1 => (∃ ds, d = .list ds) ∧ Rp 100000 50 d ∧ Φ (.str d.shown) n1) (hg : Gl X "repr" := by rfl) (hs : starEach (a :: []) X.env = (false, eval a X.env) :: starEach [] X.env := by rfl) : EX X C (.Call (.Name "repr" p) [a] [] pos) ρ μ n Φ :=
  ex_of (pe_callB (r := rRepr X.K) (cr_repr hgd hu) hg hm (by decide +kernel) (pa_cons pe_can pa_nil hs) (by decide) (by decide) hs rfl) (ev_cb1 (r := rRepr X.K) (h.imp fun d n1 ⟨⟨ds, ed⟩, hp, f⟩ => fun ads σ B H v1 Q r p1 q => by
    subst ed
    obtain ⟨ad, vs, rfl, ha, hd⟩ := dp_lst p1
    exact ⟨ad, _, rfl, dq_dp r.sub _ _ p1, hp, q _ _ B H n1 (Same.refl _) r (.str _) f⟩))
theorem op2_eqS {K : Frg} {x y : Str} : Op2T K rEq (.str x) (.str y) (decide (x = y)) := fun B H v1 v2 Q s p1 p2 q => by
  cases dp_str p1
  cases dp_str p2
  refine ⟨rfl, ?_⟩
  have e : decide (V.str x = V.str y) = decide (x = y) := by
    by_cases h : x = y
    · subst h
      simp
    · rw [decide_eq_false h]
      exact decide_eq_false fun z => h (V.str.inj z)
  rw [e]
  exact q
theorem ex_eqS {b : Expr} (h : EX X C a ρ μ n fun d1 n1 => EX X C b ρ μ n1 fun d2 n2 => ∃ x y, d1 = .str x ∧ d2 = .str y ∧ Φ (.bool (decide (x = y))) n2) : EX X C (.Compare a [.Eq] [b] pos) ρ μ n Φ :=
  ex_of (pe_cmpR op_eq pe_can pe_can (nomark _)) (ev_cmp (h.imp fun d1 n1 h1 => h1.imp fun d2 n2 ⟨x, y, e1, e2, f⟩ => ⟨_, by
    subst e1 e2
    exact op2_eqS, f⟩))
end
def preSame : Pre := fun as n Φ => ∃ ds : List PyData, as = [.da (.list ds), .da (.list ds)] ∧ Rp 100000 50 (.list ds) ∧ Φ (.ok (.bool true)) n
local macro_rules | `(tactic| walk_at "pb v") => `(tactic| first
  | refine ex_v 0 rfl ?_ | refine ex_v 1 rfl ?_ | refine ex_v 2 rfl ?_ | refine ex_v 3 rfl ?_ | refine ex_v 4 rfl ?_ | refine ex_v 5 rfl ?_ | refine ex_v 6 rfl ?_ | refine ex_v 7 rfl ?_
  | refine ex_v 8 rfl ?_ | refine ex_v 9 rfl ?_ | refine ex_v 10 rfl ?_ | refine ex_v 11 rfl ?_ | refine ex_v 12 rfl ?_ | refine ex_v 13 rfl ?_ | refine ex_v 14 rfl ?_)
local macro_rules | `(tactic| walk_at "pb x") => `(tactic| first
  | refine ex_i ?_ | ((with_reducible show EX _ _ (Expr.Name _ _) _ _ _ _); walk_at "pb v") | refine ex_addJ ?_ | refine ex_sub ?_ | refine ex_s ?_ | refine ex_n ?_ | refine ex_b ?_ | refine ex_neg ?_
  | refine ex_mulJ ?_ | refine ex_mod ?_ | refine ex_div ?_ | refine ex_pow ?_ | refine ex_lt ?_ | refine ex_eq ?_ | refine ex_ne ?_ | refine ex_gt ?_ | refine ex_ge ?_ | ((fail_if_success (with_reducible show EX _ _ (Expr.Subscript _ (Expr.Constant (Const.str _) _ _) _) _ _ _ _)); refine ex_ixJ ?_)
  | refine ex_and ?_ | refine ex_or ?_ | refine ex_one ?_ | refine ex_not ?_ | refine ex_ite ?_ | refine ex_isInt ‹_› ?_ | refine ex_isBool ‹_› ?_ | refine ex_isTup ‹_› ?_)
local macro_rules | `(tactic| walk_at "pb t") => `(tactic| first
  | refine et_lt ?_ | refine et_eq ?_ | refine et_ne ?_ | refine et_le ?_ | refine et_gt ?_ | refine et_ge ?_ | refine et_nt ?_ | refine et_w (ew_and ?_) | refine et_w (ew_or ?_) | refine et_v ?_)
local macro_rules | `(tactic| walk_at "pb e") => `(tactic| first
  | ((with_reducible show EX _ _ _ _ _ _ _); walk_at "pb x")
  | with_reducible refine xi2 ?_ | with_reducible refine xi ?_ | with_reducible refine xb ?_ | with_reducible refine xsi ?_ | with_reducible refine xl ?_ | with_reducible refine xt ?_
  | with_reducible refine ifT ?_ | with_reducible refine ifF ?_ | with_reducible refine add_int ?_ | with_reducible refine ix_l ?_
  | with_reducible refine len_t ?_ | with_reducible refine len_l ?_ | with_reducible refine tup_t ?_ | with_reducible refine tup_l ?_
  | with_reducible refine nx_nxt ?_ | with_reducible refine rt_nxt ?_ | with_reducible refine er_nxt ?_ | with_reducible refine bk_nxt ?_ | with_reducible refine ct_nxt ?_ | with_reducible refine fin_rt ?_ | with_reducible refine fin_nx ?_ | with_reducible refine fin_er ?_ 
  | with_reducible refine nx_lp ?_ | with_reducible refine bk_lp ?_ | with_reducible refine ct_lp ?_ | with_reducible refine rt_lp ?_ | with_reducible refine er_lp ?_ | with_reducible refine okp_ok ?_
  | ((with_reducible show ET _ _ _ _ _ _ _); walk_at "pb t")
  | ((with_reducible show EW _ _ _ _ _ _ _); first | refine ew_and ?_ | refine ew_or ?_ | refine ew_and1 ?_ | refine ew_or1 ?_)
  | ((with_reducible show SB _ _ _ _ _ _ _); first | refine sb_cons ?_ | refine sb_nil ?_)
  | ((with_reducible show SX _ _ _ _ _ _ _); first | refine sx_ret ?_ | refine sx_if ?_)
  | ((with_reducible show EO _ _ _ _ _ _ _); first | refine eo_s ?_ | refine eo_n ?_)
  | ((with_reducible show EA _ _ _ _ _ _ _); first | refine ea_c ?_ | refine ea_0 ?_))
local macro_rules | `(tactic| walk_at "pb") => `(tactic| repeat walk_at "pb e")
section
variable {P : Program} {w : World} {K : Frg} {mg : Str → Option Value} {base : Heap} {f : Addr} {fd : FuncData} {T : List (Addr × Str)} {k : Nat}
theorem sc45 : FnScope ["_law_told", "_law_due"] ["_law_told", "_law_due"] (defScope (top 45)) := ⟨rfl, rfl, rfl, by decide +kernel, rfl, by decide +kernel, by decide +kernel⟩
theorem g_law_same (F : FnT K "_law_same" 45 f fd) (b : Blt mg) : FnG P w K mg base (k + 1) f fd ["_law_told", "_law_due"] (prom K T preSame) := by
  refine fng_pb F sc45 (fun as n Φ ⟨b, h, _⟩ => by rw [h]; rfl) fun cdv A outer s H E fa B as n Φ hgd hr hp => ?_
  obtain ⟨ds, rfl, hd, h⟩ := hp
  walk_at "pb e"
  walk_at "pb e"
  refine ex_eqS (ex_repr hgd hr.units b.repr ?_)
  walk_at "pb"
  refine ⟨⟨ds, rfl⟩, hd, ?_⟩
  refine ex_repr hgd hr.units b.repr ?_
  walk_at "pb"
  refine ⟨⟨ds, rfl⟩, hd, _, _, rfl, rfl, ?_⟩
  walk_at "pb"
  rw [decide_eq_true rfl]
  exact h
end
end Pb

set_option Elab.async false
set_option linter.all false
set_option maxRecDepth 100000
set_option maxHeartbeats 4000000
/-! PbV: _law_heard: a lambda's call, told or refused. -/
namespace Pb
open PySem PySem.Spec PyProof.Rows L2
def xres : Xn → PyData
  | .use w i => .tuple [.str "use", .str w, .int i]
  | .spo i => .tuple [.str "spoilt", .int i]
def hear (Φ : PyData → Nat → Prop) (o : Ou) (n : Nat) : Prop := match o with
  | .ok d => Φ (.tuple [.str "told", d]) n
  | .er x => Φ (xres x) n
/-- what is asked of the classes -/
structure ExF (K : Frg) (mg : Str → Option Value) : Prop where
  mp : mg "PaperError" = some (.ref (He.ga K "PaperError"))
  ms : mg "StackError" = some (.ref (He.ga K "StackError"))
  ml : mg "LossError" = some (.ref (He.ga K "LossError"))
  mv : mg "LiveError" = some (.ref (He.ga K "LiveError"))
  mt : mg "TextError" = some (.ref (He.ga K "TextError"))
  mu : mg "NotUsable" = some (.ref (He.ga K "NotUsable"))
  mo : mg "Spoilt" = some (.ref (He.ga K "Spoilt"))
  me : mg "PushError" = some (.ref (He.ga K "PushError"))
  exm : ∀ x, PySem.W.exmOne K (.ref (Xn.cl K x)) (.ref (He.ga K "PushError")) = some true
  cu : ExcC K (He.ga K "NotUsable")
  co : ExcC K (He.ga K "Spoilt")
  fu : XfC K (He.ga K "NotUsable")
  fo : XfC K (He.ga K "Spoilt")
  nw : PySem.W.findIn K (.ref (He.ga K "NotUsable")) "word" = some none
  na : PySem.W.findIn K (.ref (He.ga K "NotUsable")) "at" = some none
  nf : PySem.W.findIn K (.ref (He.ga K "Spoilt")) "frame" = some none
  up : PySem.W.kitOne K (.ref (He.ga K "NotUsable")) (.ref (He.ga K "PaperError")) = some false
  us : PySem.W.kitOne K (.ref (He.ga K "NotUsable")) (.ref (He.ga K "StackError")) = some true
  ul : PySem.W.kitOne K (.ref (He.ga K "NotUsable")) (.ref (He.ga K "LossError")) = some false
  uv : PySem.W.kitOne K (.ref (He.ga K "NotUsable")) (.ref (He.ga K "LiveError")) = some false
  ut : PySem.W.kitOne K (.ref (He.ga K "NotUsable")) (.ref (He.ga K "TextError")) = some false
  uu : PySem.W.kitOne K (.ref (He.ga K "NotUsable")) (.ref (He.ga K "NotUsable")) = some true
  op : PySem.W.kitOne K (.ref (He.ga K "Spoilt")) (.ref (He.ga K "PaperError")) = some false
  os : PySem.W.kitOne K (.ref (He.ga K "Spoilt")) (.ref (He.ga K "StackError")) = some false
  ol : PySem.W.kitOne K (.ref (He.ga K "Spoilt")) (.ref (He.ga K "LossError")) = some true
  ov : PySem.W.kitOne K (.ref (He.ga K "Spoilt")) (.ref (He.ga K "LiveError")) = some false
  ot : PySem.W.kitOne K (.ref (He.ga K "Spoilt")) (.ref (He.ga K "TextError")) = some false
  oo : PySem.W.kitOne K (.ref (He.ga K "Spoilt")) (.ref (He.ga K "Spoilt")) = some true
/-! ### isinstance of the caught exception, its fields -/
def rIsX (K : Frg) (D a dd : Addr) : List V → Hp → VK → Prop := fun xs H Q => ∃ (c : Addr) (b : Bool) (fs : List (Str × V)), xs = [.ref a, .ref c] ∧ PySem.W.kitOne K (.ref D) (.ref c) = some b ∧ H dd = some (.xd fs) ∧ Q (.bl b) H
theorem call_isX {X : Cx} {a D dd : Addr} {oe : Obj} {pn : List (Addr × Obj)} (c : ExcC X.K D) (hz : Zc (.ref D) (some dd) oe) (hf : ∃ vs, oe.data = .fields vs) : CallR (X.suite a ((a, oe) :: pn)) (.builtin "isinstance") (rIsX X.K D a dd) := by
  intro pins s σ H xs us Q I r h
  obtain ⟨cl, b, fs, rfl, e, ed, q⟩ := h
  cases r with
  | cons rx rr =>
    cases rr with
    | cons ry rr =>
      cases rr
      cases rx
      cases ry
      obtain ⟨hget, _⟩ := I.pin (a, oe) (List.mem_append.mpr (.inl List.mem_cons_self))
      obtain ⟨vs, hv⟩ := hf
      obtain ⟨mA, hns, _⟩ : ObjOk X.prog X.w H s.heap dd (.xd fs) := I.hok dd _ ed
      obtain ⟨od, ho, _⟩ := lookIn_ns hns
      have J : PySem.W.InstAt s.heap a oe D (some od) := ⟨hget, hz.1, by unfold PySem.W.notCls; rw [hv] <;> rfl, by rw [hz.2]; exact ho⟩
      have hcl : (PySem.W.clsIn X.K D).isSome = true := by
        obtain ⟨cd, hc, _⟩ := PySem.W.any_some c.hd
        rw [hc]
        rfl
      exact PySem.W.kia_one (PySem.W.kitx_exc (x := a) (od := some od) hcl c.hg c.hk c.hs c.ha c.hn c.ht c.hm) I.kIn J e (fun z => nomatch z) fun tk => ⟨.bl b, H, I.kept (t' := tk) fun _ _ z => z, rfl, q⟩
section
variable {K : Frg} {C : Ct} {ρ : List Sl} {μ : List Ce} {n : Nat}
theorem ev_isX {D a dd cl : Addr} {i k : Nat} {fs : List (Str × V)} {b : Bool} {Φ : PyData → Nat → Prop} (hi : ρ[i]? = some (.ra a)) (hk : μ[k]? = some (.xd dd fs)) (e : PySem.W.kitOne K (.ref D) (.ref cl) = some b) (f : Φ (.bool b) n) : Ev K C (tCB (rIsX K D a dd) (tCons (tVar i) (tCons (tC (.ref cl)) tNil))) ρ μ n Φ := fun ads σ B H Q r q => by
  obtain ⟨o, e1, e2⟩ := pr_get r.sl hi
  subst e2
  obtain ⟨p, e3, e4, e5⟩ := pr_get r.ce hk
  subst e4
  exact ⟨_, e1, cl, b, fs, rfl, e, e5, q _ _ B H n (Same.refl _) r (.bl b) f⟩
theorem ev_xf {D a dd : Addr} {i k : Nat} {fs : List (Str × V)} {nm : Str} {v : V} {d : PyData} {Φ : PyData → Nat → Prop} (hi : ρ[i]? = some (.ra a)) (hk : μ[k]? = some (.xd dd fs)) (e : fs.lookup nm = some v) (hd : ∀ B, Dq B v d) (f : Φ d n) : Ev K C (tXf a (.ref D) (some dd) D nm (tVar i)) ρ μ n Φ := fun ads σ B H Q r q => by
  obtain ⟨o, e1, e2⟩ := pr_get r.sl hi
  subst e2
  obtain ⟨p, e3, e4, e5⟩ := pr_get r.ce hk
  subst e4
  exact ⟨_, e1, rfl, rfl, p, fs, v, rfl, e5, e, q v d B H n (Same.refl _) r (hd B) f⟩
end
section
variable {X : Cx} {C : Ct} {ρ : List Sl} {μ : List Ce} {n : Nat} {a D dd : Addr} {oe : Obj} {pn : List (Addr × Obj)} {Φ : PyData → Nat → Prop} {p p1 p2 pos : Pos} {x T : Str}
theorem ex_isX (i k : Nat) {fs : List (Str × V)} {cl : Addr} {b : Bool} (c : ExcC X.K D) (hz : Zc (.ref D) (some dd) oe) (hf : ∃ vs, oe.data = .fields vs) (hi : ρ[i]? = some (.ra a)) (hk : μ[k]? = some (.xd dd fs)) (hm : X.mg "isinstance" = none) (hmT : X.mg T = some (.ref cl)) (e : PySem.W.kitOne X.K (.ref D) (.ref cl) = some b) (f : Φ (.bool b) n)
    (hN : (X.suite a ((a, oe) :: pn)).N[i]? = some x := by rfl) (hv : Vis (X.suite a ((a, oe) :: pn)).env.scope x := by first | exact Or.inl rfl | exact Or.inr (Or.inl rfl) | exact Or.inr (Or.inr rfl)) (hd : (x == ("__debug__" : Str)) = false := by decide) (hcd : (x == ("__classdict__" : Str)) = false := by decide)
    (hg : Gl (X.suite a ((a, oe) :: pn)) "isinstance" := by rfl) (hgT : Gl (X.suite a ((a, oe) :: pn)) T := by rfl) (hdT : (T == ("__debug__" : Str)) = false := by decide)
    (he : starEach (.Name x p1 :: [.Name T p2]) (X.suite a ((a, oe) :: pn)).env = (false, eval (.Name x p1) (X.suite a ((a, oe) :: pn)).env) :: starEach [.Name T p2] (X.suite a ((a, oe) :: pn)).env := by rfl) (he2 : starEach (.Name T p2 :: []) (X.suite a ((a, oe) :: pn)).env = (false, eval (.Name T p2) (X.suite a ((a, oe) :: pn)).env) :: starEach [] (X.suite a ((a, oe) :: pn)).env := by rfl)
    (hpl : (backTo pos (starEach [.Name T p2] (X.suite a ((a, oe) :: pn)).env)).any (·.1) = false := by rfl) : EX (X.suite a ((a, oe) :: pn)) C (.Call (.Name "isinstance" p) [.Name x p1, .Name T p2] [] pos) ρ μ n Φ :=
  ex_of (pe_callB (call_isX c hz hf) hg hm (by decide +kernel) (pa_cons (pe_var hN hv hd hcd) (pa_cons (pe_glob (v := .ref cl) hgT hmT rfl hdT) pa_nil he2) he) (by decide) (by decide) he hpl) (ev_isX hi hk e f)
theorem ex_xf (i k : Nat) {fs : List (Str × V)} {nm : Str} {v : V} {d : PyData} (t : XfC X.K D) (hno : PySem.W.findIn X.K (.ref D) nm = some none) (hz : Zc (.ref D) (some dd) oe) (hf : ∃ vs, oe.data = .fields vs) (hi : ρ[i]? = some (.ra a)) (hk : μ[k]? = some (.xd dd fs)) (e : fs.lookup nm = some v) (hdq : ∀ B, Dq B v d) (f : Φ d n)
    (hN : (X.suite a ((a, oe) :: pn)).N[i]? = some x := by rfl) (hv : Vis (X.suite a ((a, oe) :: pn)).env.scope x := by first | exact Or.inl rfl | exact Or.inr (Or.inl rfl) | exact Or.inr (Or.inr rfl)) (hd : (x == ("__debug__" : Str)) = false := by decide) (hcd : (x == ("__classdict__" : Str)) = false := by decide)
    (hb : attributeBase (.Name x p1) nm X.env (eval (.Name x p1) X.env) = eval (.Name x p1) X.env := by rfl) : EX (X.suite a ((a, oe) :: pn)) C (.Attribute (.Name x p1) nm pos) ρ μ n Φ :=
  ex_of (pe_xf t hno hz hf (pe_var hN hv hd hcd) hb) (ev_xf hi hk e hdq f)
end
/-! ### the def that hears -/
@[irreducible] def canSu (Z : Cx) (sts : List Stmt) (a : Addr) (cls : Value) (d : Option Addr) : TS := fun D σ H => ∀ oe pn, Zc cls d oe → (∃ vs, oe.data = .fields vs) → ∀ pins s, Inv (Z.suite a ((a, oe) :: pn)) pins σ H s → wpAny (model (Z.suite a ((a, oe) :: pn)).prog (Z.suite a ((a, oe) :: pn)).w) (Z.suite a ((a, oe) :: pn)).A (execs sts (Z.suite a ((a, oe) :: pn)).env) (SP (Z.suite a ((a, oe) :: pn)) pins D) (Z.suite a ((a, oe) :: pn)).xe s
theorem psu_can {Z : Cx} {sts : List Stmt} {a : Addr} {cls : Value} {d : Option Addr} {oe : Obj} {pn : List (Addr × Obj)} (hz : Zc cls d oe) (hf : ∃ vs, oe.data = .fields vs) : PSs (Z.suite a ((a, oe) :: pn)) sts (canSu Z sts a cls d) := ⟨by
  unfold canSu
  exact fun pins s σ H D I h => h oe pn hz hf pins s I⟩
def heardTT (K : Frg) : (XK → Hp → VK → Prop) → Hp → VK → Prop := fun tl H Q => ∃ (C : Ct) (ads : List Addr) (B : Hp) (σ : L2.St) (ρ : List Sl) (μ : List Ce) (n : Nat) (Φ : PyData → Nat → Prop),
  RepA K C ads B H σ ρ μ n ∧ (∀ v d B' H' n', Same B B' → RepA K C ads B' H' σ ρ μ n' → Dq B' v d → Φ d n' → Q v H') ∧
  ∀ (Eh : XK) (Qh : VK), (∀ v d B' H' n', Same B B' → RepA K C ads B' H' σ ρ μ n' → Dq B' v d → Φ (.tuple [.str "told", d]) n' → Qh v H') →
    (∀ x dd B' H' n', Same B B' → RepA K C ads B' H' σ ρ μ n' → B' dd = none → H' dd = some (.xd (Xn.fs x)) → Φ (xres x) n' → Eh (.ref (Xn.cl K x)) (some dd) H') → tl Eh H Qh
local macro_rules | `(tactic| walk_at "pb v") => `(tactic| first
  | refine ex_v 0 rfl ?_ | refine ex_v 1 rfl ?_ | refine ex_v 2 rfl ?_ | refine ex_v 3 rfl ?_ | refine ex_v 4 rfl ?_ | refine ex_v 5 rfl ?_ | refine ex_v 6 rfl ?_ | refine ex_v 7 rfl ?_
  | refine ex_v 8 rfl ?_ | refine ex_v 9 rfl ?_ | refine ex_v 10 rfl ?_ | refine ex_v 11 rfl ?_ | refine ex_v 12 rfl ?_ | refine ex_v 13 rfl ?_ | refine ex_v 14 rfl ?_)
local macro_rules | `(tactic| walk_at "pb x") => `(tactic| first
  | refine ex_i ?_ | ((with_reducible show EX _ _ (Expr.Name _ _) _ _ _ _); walk_at "pb v") | refine ex_addJ ?_ | refine ex_sub ?_ | refine ex_s ?_ | refine ex_n ?_ | refine ex_b ?_ | refine ex_neg ?_
  | refine ex_mulJ ?_ | refine ex_mod ?_ | refine ex_div ?_ | refine ex_pow ?_ | refine ex_lt ?_ | refine ex_eq ?_ | refine ex_ne ?_ | refine ex_gt ?_ | refine ex_ge ?_ | ((fail_if_success (with_reducible show EX _ _ (Expr.Subscript _ (Expr.Constant (Const.str _) _ _) _) _ _ _ _)); refine ex_ixJ ?_)
  | refine ex_and ?_ | refine ex_or ?_ | refine ex_one ?_ | refine ex_not ?_ | refine ex_ite ?_ | refine ex_isInt ‹_› ?_ | refine ex_isBool ‹_› ?_ | refine ex_isTup ‹_› ?_)
local macro_rules | `(tactic| walk_at "pb t") => `(tactic| first
  | refine et_lt ?_ | refine et_eq ?_ | refine et_ne ?_ | refine et_le ?_ | refine et_gt ?_ | refine et_ge ?_ | refine et_nt ?_ | refine et_w (ew_and ?_) | refine et_w (ew_or ?_) | refine et_v ?_)
local macro_rules | `(tactic| walk_at "pb e") => `(tactic| first
  | ((with_reducible show EX _ _ _ _ _ _ _); walk_at "pb x")
  | with_reducible refine xi2 ?_ | with_reducible refine xi ?_ | with_reducible refine xb ?_ | with_reducible refine xsi ?_ | with_reducible refine xl ?_ | with_reducible refine xt ?_
  | with_reducible refine ifT ?_ | with_reducible refine ifF ?_ | with_reducible refine add_int ?_ | with_reducible refine ix_l ?_
  | with_reducible refine len_t ?_ | with_reducible refine len_l ?_ | with_reducible refine tup_t ?_ | with_reducible refine tup_l ?_
  | with_reducible refine nx_nxt ?_ | with_reducible refine rt_nxt ?_ | with_reducible refine er_nxt ?_ | with_reducible refine bk_nxt ?_ | with_reducible refine ct_nxt ?_ | with_reducible refine fin_rt ?_ | with_reducible refine fin_nx ?_ | with_reducible refine fin_er ?_ 
  | with_reducible refine nx_lp ?_ | with_reducible refine bk_lp ?_ | with_reducible refine ct_lp ?_ | with_reducible refine rt_lp ?_ | with_reducible refine er_lp ?_ | with_reducible refine okp_ok ?_
  | ((with_reducible show ET _ _ _ _ _ _ _); walk_at "pb t")
  | ((with_reducible show EW _ _ _ _ _ _ _); first | refine ew_and ?_ | refine ew_or ?_ | refine ew_and1 ?_ | refine ew_or1 ?_)
  | ((with_reducible show SB _ _ _ _ _ _ _); first | refine sb_cons ?_ | refine sb_nil ?_)
  | ((with_reducible show SX _ _ _ _ _ _ _); first | refine sx_ret ?_ | refine sx_if ?_)
  | ((with_reducible show EO _ _ _ _ _ _ _); first | refine eo_s ?_ | refine eo_n ?_)
  | ((with_reducible show EA _ _ _ _ _ _ _); first | refine ea_c ?_ | refine ea_0 ?_))
local macro_rules | `(tactic| walk_at "pb") => `(tactic| repeat walk_at "pb e")
theorem sc46 : FnScope ["_law_call", "e", "_law_homes"] ["_law_call"] (defScope (top 46)) := ⟨rfl, rfl, rfl, by decide +kernel, rfl, by decide +kernel, by decide +kernel⟩
/-- the handler's suite -/
def suite46 : List Stmt := match (defBody (top 46)).getD 0 (.Pass ⟨0, 0, 0, 0⟩) with
  | .Try _ [.ExceptHandler _ _ s _] _ _ _ => s
  | _ => []
section
variable {X : Cx} {s : Shared} {H0 : Hp} {g : Addr} {cdg : Value} {C : Ct} {μ : List Ce} {n : Nat} {a dd : Addr} {oe : Obj} {pn : List (Addr × Obj)} {Φ : PyData → Nat → Prop}
abbrev Zh (X : Cx) (s : Shared) (H0 : Hp) (g : Addr) (cdg : Value) : Cx := (cxOf C8.CX0 X.prog X.w X.K X.mg X.base ["_law_call", "e", "_law_homes"] "_law_heard" (defScope (top 46)) g cdg X.A X.stack s H0 C8.E0).nox
theorem suite_use (F : ExF X.K X.mg) (hm : X.mg "isinstance" = none) (hu : X.A.units + 100 < cLine) {w : Str} {i : Int} (hz : Zc (.ref (He.ga X.K "NotUsable")) (some dd) oe) (hf : ∃ vs, oe.data = .fields vs) (h : Φ (xres (.use w i)) n) :
    SB ((Zh X s H0 g cdg).suite a ((a, oe) :: pn)) C suite46 [.un, .ra a, .un] (μ ++ [.xd dd (Xn.fs (.use w i))]) n (fin (okp Φ)) := by
  have hk : (μ ++ [Ce.xd dd (Xn.fs (.use w i))])[μ.length]? = some (.xd dd (Xn.fs (.use w i))) := by simp
  have hu' : ((Zh X s H0 g cdg).suite a ((a, oe) :: pn)).A.units + 64 < cLine := by
    show X.A.units + 3 + 64 < cLine
    omega
  have key : ∀ (T : Str) (cl : Addr) (b : Bool), True := fun _ _ _ => trivial
  walk_at "pb e"
  refine sx_asg 2 sc46.nd (ex_l (el_ls ?_))
  refine ea_c (ex_isX 1 μ.length F.cu hz hf rfl hk hm F.mp F.up ?_)
  refine ea_c (ex_isX 1 μ.length F.cu hz hf rfl hk hm F.ms F.us ?_)
  refine ea_c (ex_isX 1 μ.length F.cu hz hf rfl hk hm F.ml F.ul ?_)
  walk_at "pb"
  refine ⟨[.bool false, .bool true, .bool false], rfl, by simp, ?_⟩
  walk_at "pb"
  refine sx_asg 2 sc46.nd ?_
  walk_at "pb"
  refine ex_l (el_ls ?_)
  refine ea_c (ex_isX 1 μ.length F.cu hz hf rfl hk hm F.mv F.uv ?_)
  refine ea_c (ex_isX 1 μ.length F.cu hz hf rfl hk hm F.mt F.ut ?_)
  walk_at "pb"
  refine ⟨[.bool false, .bool false], rfl, by simp, add_lst (by simp) ?_⟩
  walk_at "pb e"
  walk_at "pb e"
  walk_at "pb e"
  refine et_w (ew_and (et_eqD hu' ?_))
  walk_at "pb"
  refine ex_l (el_ls ?_)
  walk_at "pb"
  refine ⟨[.bool false, .bool true, .bool false, .bool false, .bool false], rfl, by simp, by decide, by decide, ?_⟩
  refine ifT ?_
  refine ew_and1 (et_v ?_)
  refine ex_isX 1 μ.length F.cu hz hf rfl hk hm F.mu F.uu ?_
  walk_at "pb"
  refine ex_tup ?_
  refine ea_c (ex_s ?_)
  refine ea_c (ex_xf 1 μ.length F.fu F.nw hz hf rfl hk (v := .str w) (by rfl) (fun _ => .str w) ?_)
  refine ea_c (ex_xf 1 μ.length F.fu F.na hz hf rfl hk (v := .int i) (by rfl) (fun _ => .int i) ?_)
  walk_at "pb"
  refine ⟨[.str "use", .str w, .int i], rfl, by simp, ?_⟩
  walk_at "pb"
  exact h
theorem suite_spo (F : ExF X.K X.mg) (hm : X.mg "isinstance" = none) (hu : X.A.units + 100 < cLine) {i : Int} (hz : Zc (.ref (He.ga X.K "Spoilt")) (some dd) oe) (hf : ∃ vs, oe.data = .fields vs) (h : Φ (xres (.spo i)) n) :
    SB ((Zh X s H0 g cdg).suite a ((a, oe) :: pn)) C suite46 [.un, .ra a, .un] (μ ++ [.xd dd (Xn.fs (.spo i))]) n (fin (okp Φ)) := by
  have hk : (μ ++ [Ce.xd dd (Xn.fs (.spo i))])[μ.length]? = some (.xd dd (Xn.fs (.spo i))) := by simp
  have hu' : ((Zh X s H0 g cdg).suite a ((a, oe) :: pn)).A.units + 64 < cLine := by
    show X.A.units + 3 + 64 < cLine
    omega
  walk_at "pb e"
  refine sx_asg 2 sc46.nd (ex_l (el_ls ?_))
  refine ea_c (ex_isX 1 μ.length F.co hz hf rfl hk hm F.mp F.op ?_)
  refine ea_c (ex_isX 1 μ.length F.co hz hf rfl hk hm F.ms F.os ?_)
  refine ea_c (ex_isX 1 μ.length F.co hz hf rfl hk hm F.ml F.ol ?_)
  walk_at "pb"
  refine ⟨[.bool false, .bool false, .bool true], rfl, by simp, ?_⟩
  walk_at "pb"
  refine sx_asg 2 sc46.nd ?_
  walk_at "pb"
  refine ex_l (el_ls ?_)
  refine ea_c (ex_isX 1 μ.length F.co hz hf rfl hk hm F.mv F.ov ?_)
  refine ea_c (ex_isX 1 μ.length F.co hz hf rfl hk hm F.mt F.ot ?_)
  walk_at "pb"
  refine ⟨[.bool false, .bool false], rfl, by simp, add_lst (by simp) ?_⟩
  walk_at "pb e"
  walk_at "pb e"
  walk_at "pb e"
  refine et_w (ew_and (et_eqD hu' ?_))
  walk_at "pb"
  refine ex_l (el_ls ?_)
  walk_at "pb"
  refine ⟨[.bool false, .bool true, .bool false, .bool false, .bool false], rfl, by simp, by decide, by decide, ?_⟩
  refine ifF ?_
  walk_at "pb e"
  walk_at "pb e"
  walk_at "pb e"
  walk_at "pb e"
  walk_at "pb e"
  refine et_w (ew_and (et_eqD hu' ?_))
  walk_at "pb"
  refine ex_l (el_ls ?_)
  walk_at "pb"
  refine ⟨[.bool false, .bool false, .bool true, .bool false, .bool false], rfl, by simp, by decide, by decide, ?_⟩
  refine ifT ?_
  refine ew_and1 (et_v ?_)
  refine ex_isX 1 μ.length F.co hz hf rfl hk hm F.mo F.oo ?_
  walk_at "pb"
  refine ex_tup ?_
  refine ea_c (ex_s ?_)
  refine ea_c (ex_xf 1 μ.length F.fo F.nf hz hf rfl hk (v := .int i) (by rfl) (fun _ => .int i) ?_)
  walk_at "pb"
  refine ⟨[.str "spoilt", .int i], rfl, by simp, ?_⟩
  walk_at "pb"
  exact h
end
section
variable {X : Cx}
theorem heard_gives (F : ExF X.K X.mg) (hm : X.mg "isinstance" = none) (hu : X.A.units + 100 < cLine) {g : Addr} {cdg : Value} {q : Str} : LamX.GivesTo X ["_law_call", "e", "_law_homes"] "_law_heard" (defScope (top 46)) g cdg (defBody (top 46)) "_law_call" q (heardTT X.K) := by
  intro f c' s H Q tl act hc h
  obtain ⟨C, ads, B, σ, ρ, μ, n, Φ, r, hQ, htl⟩ := h
  refine ⟨_, pss_one (ps_try_as (X := Zh X s H g cdg) (x := "PushError") (n := "e") (c := .ref (He.ga X.K "PushError")) (i := 1) (ts := fun a cls d => canSu (Zh X s H g cdg) suite46 a cls d) (Wout := fun _ _ _ _ => False)
      (tb := fun W D σ H => ∃ Ech : XK, (∀ cls d σ' H', Ech cls d H' → W cls d σ' H') ∧ σ[0]? = some (some (.ref f)) ∧ H c' = some (LamX.CodeO c' q) ∧ tl Ech H fun v H1 => [V.str "told", v].length ≤ sizeLine ∧ ∀ p, H1 p = none → D.rt (.ref p) (upd H1 p (.tup [.str "told", v])))
      rfl rfl sc46.nd rfl rfl ⟨rfl, by decide, .inl F.me⟩ LamX.takes0 (fun W pn xe tk _ => ?_) (fun a oe cls d pn hz hf => psu_can hz hf)), ?_⟩
  · refine ⟨fun pins s' σ' H' D I h' => ?_⟩
    obtain ⟨Ech, hW, h1, h2, h3⟩ := h'
    have hp := fun p1 p2 => act W pn xe Ech p1 p2 tk hW
    exact (pss_one (ps_ret (pe_tup (pa_cons pe_str (pa_cons (hp _ _) pa_nil))))).run pins s' σ' H' D I ⟨h1, h2, h3⟩
  · refine ⟨fun cls d H' => ∃ x dd B' n', cls = .ref (Xn.cl X.K x) ∧ d = some dd ∧ Same B B' ∧ RepA X.K C ads B' H' σ ρ μ n' ∧ B' dd = none ∧ H' dd = some (.xd (Xn.fs x)) ∧ Φ (xres x) n', fun cls d σ' H' ⟨x, dd, B', n', e1, e2, e3, r', e5, e6, e7⟩ => ?_, rfl, hc, ?_⟩
    · subst e1 e2
      refine ⟨true, F.exm x, fun _ a ha => ?_, fun z => by cases z⟩
      unfold canSu
      intro oe pn hz hf pins s2 I
      have hlen : (σ'.set 1 (some (V.ref a))).length = 3 := I.len
      have C'h : ∀ p ∈ C.T, H' p.1 ≠ none := fun p hp => by
        obtain ⟨ps, z, _⟩ := r'.tb p hp
        rw [z]
        simp
      have r2 : RepA X.K ⟨C.T, C.fa, B', H', C8.E0⟩ [dd] B' H' (σ'.set 1 (some (.ref a))) [.un, .ra a, .un] ([] ++ [.xd dd (Xn.fs x)]) n' := by
        refine ⟨Fr.refl r'.sub, ?_, .cons ⟨rfl, e6⟩ .nil, by simp, fun p hp => ?_, fun b hb => ?_, r'.tb, fun p hp => ⟨C'h p hp, (r'.tn p hp).2⟩⟩
        · match σ', hlen with
          | [_, _, _], _ => exact .cons trivial (.cons rfl (.cons trivial .nil))
        · rw [List.mem_singleton.mp hp, e6]
          simp
        · obtain ⟨z1, z2, z3⟩ := r'.fd b hb
          refine ⟨?_, z2, z3⟩
          obtain ⟨_, _, _, _, _, z4, _⟩ := z3
          show H' b ≠ none
          rw [z4]
          simp
      have sb : SB ((Zh X s H g cdg).suite a ((a, oe) :: pn)) ⟨C.T, C.fa, B', H', C8.E0⟩ suite46 [.un, .ra a, .un] ([] ++ [.xd dd (Xn.fs x)]) n' (fin (okp Φ)) := by
        cases x with
        | use w i => exact suite_use F hm hu hz hf e7
        | spo i => exact suite_spo F hm hu hz hf e7
      have back : ∀ {ads2 σ2 B2 H2 ρ2 μ2 n2}, RepA X.K ⟨C.T, C.fa, B', H', C8.E0⟩ ads2 B2 H2 σ2 ρ2 μ2 n2 → RepA X.K C ads B2 H2 σ ρ μ n2 := fun r3 => r'.after r3.fr (fun b hb => (r3.fd b hb).2.2) r3.tb
      refine (pss_can (sts := suite46)).run pins s2 _ H' _ I (sb _ _ B' H' _ r2 ⟨fun ads2 σ2 B2 H2 ρ2 μ2 n2 e8 r3 hf => ?_, fun _ _ _ _ _ _ _ _ _ hf => hf.elim, fun _ _ _ _ _ _ _ _ _ hf => hf.elim, fun ads2 σ2 B2 H2 ρ2 μ2 n2 v d' e8 r3 hd hf => ?_⟩ fun ads2 σ2 B2 H2 ρ2 μ2 n2 x2 dd2 r3 h1 h2 hf => hf.elim)
      · exact hQ .non .none B2 H2 n2 (e3.trans e8) (back r3) .non hf
      · exact hQ v d' B2 H2 n2 (e3.trans e8) (back r3) hd hf
    · refine htl _ _ (fun v d B' H' n' e r' hd hf => ⟨by show 2 ≤ sizeLine; decide, fun p hp => ?_⟩) fun x dd B' H' n' e r' h1 h2 hf => ⟨x, dd, B', n', rfl, rfl, e, r', h1, h2, hf⟩
      have gr := Gr.new (o := .tup [.str "told", v]) r'.sub hp
      exact hQ _ _ _ _ n' (e.trans gr.b) (r'.gr gr) (.tup upd_same (.cons (.str _) (.cons (dp_up gr.b _ _ hd) .nil))) hf
end
end Pb

set_option Elab.async false
set_option linter.all false
set_option maxRecDepth 100000
set_option maxHeartbeats 4000000
/-! PbW: _law_heard(lambda: f(..)) in a def. -/
namespace Pb
open PySem PySem.Spec PyProof.Rows L2
@[irreducible] def canLA (X : Cx) (scope : Scope) (es : List Expr) : TA := fun σ H Q => ∀ A outer s0 H0 E f c' (pos : Pos) pins s, Inv (LamX.lamCx X A outer s0 H0 E scope f c') pins σ H s → wpAny (model (LamX.lamCx X A outer s0 H0 E scope f c').prog (LamX.lamCx X A outer s0 H0 E scope f c').w) (LamX.lamCx X A outer s0 H0 E scope f c').A (spliced (backTo pos (starEach es (LamX.lamCx X A outer s0 H0 E scope f c').env))) (AP (LamX.lamCx X A outer s0 H0 E scope f c') pins σ Q) (LamX.lamCx X A outer s0 H0 E scope f c').xe s
@[irreducible] def canLK (X : Cx) (scope : Scope) (ks : List Keyword) : TA := fun σ H Q => ∀ A outer s0 H0 E f c' (pos : Pos) pins s, Inv (LamX.lamCx X A outer s0 H0 E scope f c') pins σ H s → wpAny (model (LamX.lamCx X A outer s0 H0 E scope f c').prog (LamX.lamCx X A outer s0 H0 E scope f c').w) (LamX.lamCx X A outer s0 H0 E scope f c').A (evalAll ((backToKw pos (keywordEach ks (LamX.lamCx X A outer s0 H0 E scope f c').env)).map (·.2))) (AP (LamX.lamCx X A outer s0 H0 E scope f c') pins σ Q) (LamX.lamCx X A outer s0 H0 E scope f c').xe s
section
variable {X : Cx} {scope : Scope} {es : List Expr} {ks : List Keyword} {A : Around} {outer : List Env} {s0 : Shared} {H0 : Hp} {E : XK} {f c' : Addr}
theorem pla_can : PA (LamX.lamCx X A outer s0 H0 E scope f c') es (canLA X scope es) := ⟨by
  unfold canLA
  exact fun pos pins s σ H Q I h => h A outer s0 H0 E f c' pos pins s I⟩
theorem plk_can : PK (LamX.lamCx X A outer s0 H0 E scope f c') ks (canLK X scope ks) := ⟨by
  unfold canLK
  exact fun pos pins s σ H Q I h => h A outer s0 H0 E f c' pos pins s I⟩
variable {C : Ct} {ρ : List Sl} {μ : List Ce} {n : Nat} {Γ : List Ar → Nat → Prop}
theorem lea (h : ∀ A outer s0 H0 E f c', EA (LamX.lamCx X A outer s0 H0 E scope f c') C es ρ μ n Γ) : EvA X.K C (canLA X scope es) ρ μ n Γ := by
  unfold EA canA at h
  unfold canLA
  exact fun ads σ B H Q r q A outer s0 H0 E f c' pos pins s I => h A outer s0 H0 E f c' ads σ B H Q r q pos pins s I
theorem lek (h : ∀ A outer s0 H0 E f c', EK (LamX.lamCx X A outer s0 H0 E scope f c') C ks ρ μ n Γ) : EvA X.K C (canLK X scope ks) ρ μ n Γ := by
  unfold EK canK at h
  unfold canLK
  exact fun ads σ B H Q r q A outer s0 H0 E f c' pos pins s I => h A outer s0 H0 E f c' ads σ B H Q r q pos pins s I
end
/-- how _law_heard lies there -/
structure HeardK (K : Frg) (mg : Str → Option Value) : Prop where
  ex : ∃ (g : Addr) (oc : Value) (od : Option Addr) (dV kV doc pm : Value) (an : Option Addr) (cdv ct : Value) (osl : Array (Option Value)), mg "_law_heard" = some (.ref g) ∧ PySem.W.keepIn K (.ref g) = true ∧
    K.lookup g = some ⟨oc, od, .func (PySem.W.fnOf "_law_heard" "_law_heard" (defArgs (top 46)) (defBody (top 46)) (defScope (top 46)) dV kV doc pm an cdv ct), osl⟩ ∧ PySem.W.codeIn K cdv "_law_heard" = true ∧
    Binds K (PySem.W.fnOf "_law_heard" "_law_heard" (defArgs (top 46)) (defBody (top 46)) (defScope (top 46)) dV kV doc pm an cdv ct) ["_law_call"] []
/-- a def that may make lambdas: its code object, the table of the code objects in it -/
def Lm (T : List (Addr × Str)) (X : Cx) : Prop := ∃ c Pt, X.env.code = .ref c ∧ LamX.TabB X.base X.mg c Pt ∧ (Pt, X.env.qual ++ "<lambda>") ∈ T ∧ ∀ p ∈ T, p.1 = Pt → p.2 = X.env.qual ++ "<lambda>"
section
variable {K : Frg} {C : Ct} {ρ : List Sl} {μ : List Ce} {n : Nat} {T : List (Addr × Str)} {pre : Pre}
theorem prom_callS {ads : List Addr} {B H : Hp} {σ : L2.St} {vs : List V} {as : List Ar} {Q : VK} {E : XK} {Θ : Ou → Nat → Prop} (hT : C.T = T) (r : RepA K C ads B H σ ρ μ n) (p : Paired (ArOk K C.fa B) vs as) (h : pre as n Θ)
    (q : ∀ v d B' H' n', Same B B' → RepA K C ads B' H' σ ρ μ n' → Dq B' v d → Θ (.ok d) n' → Q v H') (e : ∀ x dd B' H' n', Same B B' → RepA K C ads B' H' σ ρ μ n' → B' dd = none → H' dd = some (.xd (Xn.fs x)) → Θ (.er x) n' → E (.ref (Xn.cl K x)) (some dd) H') :
    prom K T pre vs H Q E := by
  subst hT
  refine ⟨C.fa, B, as, n, Θ, r.sub, p, fun a ha => (r.fd a ha).2, r.tb, fun t ht => ⟨(r.tn t ht).2.1, fun z => (r.tn t ht).1 (r.fr.thr _ z), (r.tn t ht).2.2⟩, h, fun B' H' n' f fd tb => ?_⟩
  have r' := r.after f fd tb
  exact ⟨fun v d hd hθ => q v d B' H' n' f.b r' hd hθ, fun x dd h1 h2 hθ => e x dd B' H' n' f.b r' h1 h2 hθ⟩
theorem ev_lam {ta : TA} {Φ : PyData → Nat → Prop} (M : Mkr C) (hT : C.T = T) (h : EvA K C ta ρ μ n fun as n1 => pre as n1 (hear Φ)) : Ev K C (LamX.tLam T (heardTT K) fun E => tCall (prom K T pre) [] E ta) ρ μ n Φ := fun ads σ B H Q r q => by
  subst hT
  refine ⟨r.tb, fun H1 e t1 => ?_⟩
  have r1 := r.lam M e t1
  refine ⟨C, ads, B, σ, ρ, μ, n, Φ, r1, fun v d B' H' n' e' r' p f => q v d B' H' n' e' r' p f, fun Eh Qh hq he => ?_⟩
  refine h ads σ B H1 _ r1 fun vs as B2 H2 n2 e2 r2 p2 hp => ?_
  rw [List.append_nil]
  exact prom_callS rfl r2 p2 hp (fun v d B' H' n' e' r' hd hf => hq v d B' H' n' (e2.trans e') r' hd hf) fun x dd B' H' n' e' r' h1 h2 hf => he x dd B' H' n' (e2.trans e') r' h1 h2 hf
theorem ev_lamK {tk : TA} {m : Nat} {gV : List V → List V → List V} {Φ : PyData → Nat → Prop} (M : Mkr C) (hT : C.T = T) (pm : List Ar → List Ar) (hm : ∀ fa B vs as, as.length = m → Paired (ArOk K fa B) vs as → Paired (ArOk K fa B) (gV [] vs) (pm as)) (h : EvA K C tk ρ μ n fun as n1 => as.length = m ∧ pre (pm as) n1 (hear Φ)) :
    Ev K C (LamX.tLam T (heardTT K) fun E => tCallN 0 m (prom K T pre) gV E tNil tk) ρ μ n Φ := fun ads σ B H Q r q => by
  subst hT
  refine ⟨r.tb, fun H1 e t1 => ?_⟩
  have r1 := r.lam M e t1
  refine ⟨C, ads, B, σ, ρ, μ, n, Φ, r1, fun v d B' H' n' e' r' p f => q v d B' H' n' e' r' p f, fun Eh Qh hq he => ?_⟩
  refine h ads σ B H1 _ r1 fun vs as B2 H2 n2 e2 r2 p2 ⟨hl, hp⟩ => ?_
  exact ⟨rfl, (Paired.length p2).trans hl, prom_callS rfl r2 (hm _ _ _ _ hl p2) hp (fun v d B' H' n' e' r' hd hf => hq v d B' H' n' (e2.trans e') r' hd hf) fun x dd B' H' n' e' r' h1 h2 hf => he x dd B' H' n' (e2.trans e') r' h1 h2 hf⟩
end
section
variable {X : Cx} {C : Ct} {ρ : List Sl} {μ : List Ce} {n : Nat} {a : Expr} {p p2 pos pos2 lpos : Pos} {Φ : PyData → Nat → Prop} {T : List (Addr × Str)} {k : Nat} {x : Str} {ps : List Str} {pre : Pre} {params : Arguments} {scope : Scope}
theorem ex_heard {es : List Expr} (Hk : HeardK X.K X.mg) (F : ExF X.K X.mg) (b : Blt X.mg) (M : Mkr C) (hT : C.T = T) (lm : Lm T X) (hr : Room (k + 2) X.A) (kn : Kn X.prog X.w X.K X.mg X.base T k x ps pre) (h : EvA X.K C (canLA X scope (a :: es)) ρ μ n fun as n1 => pre as n1 (hear Φ))
    (hg : Gl X "_law_heard" := by rfl) (L : LamX.LamS X.env.scope scope := by exact LamX.lamS_by (by kernel_rfl)) (hdef : defaultsOf params X.env = ([], []) := by rfl)
    (hbind : ∀ (q : Str) (cl : List (Str × Addr)) (pm cv ctv : Value), bindArgs (PySem.W.kla_fn "<lambda>" q params (.Call (.Name x p2) (a :: es) [] pos2) scope cl pm cv ctv) ⟨[], []⟩ = pure [] := by intros; rfl)
    (hgx : scope.names.lookup x = some .globalImplicit := by rfl) (hdb : (x == ("__debug__" : Str)) = false := by decide)
    (he : ∀ A outer s0 H0 E f c', starEach (a :: es) (LamX.lamCx X A outer s0 H0 E scope f c').env = (false, eval a (LamX.lamCx X A outer s0 H0 E scope f c').env) :: starEach es (LamX.lamCx X A outer s0 H0 E scope f c').env := by intros; rfl)
    (hpl : ∀ A outer s0 H0 E f c', (backTo pos2 (starEach es (LamX.lamCx X A outer s0 H0 E scope f c').env)).any (·.1) = false := by intros; rfl) :
    EX X C (.Call (.Name "_law_heard" p) [.Lambda params (.Call (.Name x p2) (a :: es) [] pos2) scope lpos] [] pos) ρ μ n Φ := by
  obtain ⟨g, oc, od, dV, kV, doc, pm, an, cdv, ct, osl, hm, hk, lk, hcd, hb⟩ := Hk.ex
  obtain ⟨c, Pt, hc, TB, hmT, hun⟩ := lm
  obtain ⟨f, fd, G, hmf, hkf, hbf⟩ := kn.ex
  refine ex_of (LamX.pe_lamcall (T := T) (TT := heardTT X.K) (k := k) hg hm hk lk hcd hb sc46 rfl (.inl rfl) (heard_gives F b.isinstance (by have := hr.un; omega)) TB hc hmT hun hr L hdef hbind (t := fun E => tCall (prom X.K T pre) [] E (canLA X scope (a :: es))) fun A outer s H E f' c' hr2 => ?_) (ev_lam M hT h)
  exact pe_call (X := LamX.lamCx X A outer s H E scope f' c') G hr2 hgx hmf hkf hbf .nil (passes_call (takes_of (E := E) rfl rfl rfl rfl) fun _ _ _ _ h => h) pla_can hdb (he A outer s H E f' c') (hpl A outer s H E f' c')
theorem ex_heardK {ks : List Str} {kws : List Keyword} {gV : List V → List V → List V} (Hk : HeardK X.K X.mg) (F : ExF X.K X.mg) (b : Blt X.mg) (M : Mkr C) (hT : C.T = T) (lm : Lm T X) (hr : Room (k + 2) X.A) (kn : KnK X.prog X.w X.K X.mg X.base T k x ps ks gV pre) (pm : List Ar → List Ar) (hpm : ∀ fa B vs as, as.length = ks.length → Paired (ArOk X.K fa B) vs as → Paired (ArOk X.K fa B) (gV [] vs) (pm as))
    (h : EvA X.K C (canLK X scope kws) ρ μ n fun as n1 => as.length = ks.length ∧ pre (pm as) n1 (hear Φ))
    (hg : Gl X "_law_heard" := by rfl) (L : LamX.LamS X.env.scope scope := by exact LamX.lamS_by (by kernel_rfl)) (hdef : defaultsOf params X.env = ([], []) := by rfl)
    (hbind : ∀ (q : Str) (cl : List (Str × Addr)) (pm cv ctv : Value), bindArgs (PySem.W.kla_fn "<lambda>" q params (.Call (.Name x p2) [] kws pos2) scope cl pm cv ctv) ⟨[], []⟩ = pure [] := by intros; rfl)
    (hgx : scope.names.lookup x = some .globalImplicit := by rfl) (hdb : (x == ("__debug__" : Str)) = false := by decide)
    (hall : ∀ A outer s0 H0 E f c', (backToKw pos2 (keywordEach kws (LamX.lamCx X A outer s0 H0 E scope f c').env)).all (·.1.isSome) = true := by intros; rfl)
    (hks : ∀ A outer s0 H0 E f c', (backToKw pos2 (keywordEach kws (LamX.lamCx X A outer s0 H0 E scope f c').env)).filterMap (·.1) = ks := by intros; rfl)
    (hpl : ∀ A outer s0 H0 E f c', ((backTo pos2 (starEach [] (LamX.lamCx X A outer s0 H0 E scope f c').env)).any (·.1) || (backToKw pos2 (keywordEach kws (LamX.lamCx X A outer s0 H0 E scope f c').env)).any (·.1.isNone)) = false := by intros; rfl) :
    EX X C (.Call (.Name "_law_heard" p) [.Lambda params (.Call (.Name x p2) [] kws pos2) scope lpos] [] pos) ρ μ n Φ := by
  obtain ⟨g, oc, od, dV, kV, doc, pm', an, cdv, ct, osl, hm, hk, lk, hcd, hb⟩ := Hk.ex
  obtain ⟨c, Pt, hc, TB, hmT, hun⟩ := lm
  obtain ⟨f, fd, gg, G, hmf, hkf, hbf⟩ := kn.ex
  refine ex_of (LamX.pe_lamcall (T := T) (TT := heardTT X.K) (k := k) hg hm hk lk hcd hb sc46 rfl (.inl rfl) (heard_gives F b.isinstance (by have := hr.un; omega)) TB hc hmT hun hr L hdef hbind (t := fun E => tCallN 0 ks.length (prom X.K T pre) gV E tNil (canLK X scope kws)) fun A outer s H E f' c' hr2 => ?_) (ev_lamK M hT pm hpm h)
  exact pe_callK0 (X := LamX.lamCx X A outer s H E scope f' c') G hr2 hgx hmf hkf hbf (passes_call (takes_of (E := E) rfl rfl rfl rfl) fun _ _ _ _ h => h) plk_can (hall A outer s H E f' c') (hks A outer s H E f' c') hdb (hpl A outer s H E f' c')
end
end Pb

set_option Elab.async false
set_option linter.all false
set_option maxRecDepth 100000
set_option maxHeartbeats 4000000
/-! PbAA: the law's tests: checks. -/
namespace Pb
open PySem PySem.Spec PyProof.Rows L2
structure LmD (K : Frg) (base : Heap) (mg : Str → Option Value) (T : List (Addr × Str)) (f : Addr) (q : Str) : Prop where
  ex : ∃ c Pt, (∀ o fd', K.lookup f = some o → o.data = .func fd' → fd'.code = .ref c) ∧ LamX.TabB base mg c Pt ∧ (Pt, q) ∈ T ∧ ∀ p ∈ T, p.1 = Pt → p.2 = q
section
variable {P : Program} {w : World} {K : Frg} {mg : Str → Option Value} {base : Heap} {f : Addr} {T : List (Addr × Str)} {N : List Str} {qual q : Str} {sc : Scope} {cdv : Value} {A : Around} {outer : List Env} {s : Shared} {H : Hp} {E : XK}
theorem lm_of (d : LmD K base mg T f q) (h : ∃ o fd', K.lookup f = some o ∧ o.data = .func fd' ∧ fd'.code = cdv) (hq : (cxOf (L2.CX P w) P w K mg base N qual sc f cdv A outer s H E).env.qual ++ "<lambda>" = q := by rfl) : Lm T (cxOf (L2.CX P w) P w K mg base N qual sc f cdv A outer s H E) := by
  obtain ⟨c, Pt, h1, h2, h3, h4⟩ := d.ex
  obtain ⟨o, fd', e1, e2, e3⟩ := h
  exact ⟨c, Pt, e3.symm.trans (h1 o fd' e1 e2), h2, by rw [hq]; exact h3, fun p hp he => by rw [hq]; exact h4 p hp he⟩
end
theorem mul_two {Φ : PyData → Nat → Prop} {n : Nat} {d : PyData} (h : Φ (.list [d, d]) n) : PMul Φ n (.list [d]) (.int 2) := ⟨by omega, by omega, by simp, h⟩
theorem app_last (μ : List Ce) (c : Ce) : (μ ++ [c])[μ.length]? = some c := by simp
theorem set_last (μ : List Ce) (c d : Ce) : ((μ ++ [c]).set μ.length d)[μ.length]? = some d := by simp
/-- two in the other order -/
def sw {α : Type} : List α → List α
  | [a, b] => [b, a]
  | l => l
theorem sw_ok {K : Frg} (fa : Option Addr) (B : Hp) (vs : List V) (as : List Ar) (hl : as.length = 2) (p : Paired (ArOk K fa B) vs as) : Paired (ArOk K fa B) (sw vs) (sw as) := by
  match as, hl, p with
  | [_, _], _, .cons h1 (.cons h2 .nil) => exact .cons h2 (.cons h1 .nil)
theorem pushC_ok {s p : Int} (h : 0 ≤ s) (hp : fitsI p = true) : pushC (.int s) (.int p) = .ok (.int (p * s + 0)) := by
  unfold pushC
  rw [isNum_mk h, if_pos rfl, if_pos (show fitsM (.int p) = true from hp)]
  rfl
theorem spoC_ok {s p : Int} (h : 0 ≤ s) (hp : fitsI p = true) : spoC (.int s) (.int p) = .ok (.bool (!decide (s % p = 0))) := by
  unfold spoC
  rw [isNum_mk h, if_pos rfl, if_pos (show fitsM (.int p) = true from hp)]
  rfl
theorem popC_ok {s p : Int} (h : 0 ≤ s) (hp : fitsI p = true) (hz : s % p = 0) : popC (.int s) (.int p) = .ok (.int (s / p)) := by
  unfold popC
  rw [isNum_mk h, if_pos rfl, if_pos (show fitsM (.int p) = true from hp), if_pos (show toI (.int s) % toI (.int p) = 0 from hz)]
  rfl
theorem popC_no {s p : Int} (h : 0 ≤ s) (hp : fitsI p = true) (hz : ¬ s % p = 0) : popC (.int s) (.int p) = .er (.spo s) := by
  unfold popC
  rw [isNum_mk h, if_pos rfl, if_pos (show fitsM (.int p) = true from hp), if_neg (show ¬ toI (.int s) % toI (.int p) = 0 from hz)]
  rfl
def preTest (c : Nat) : Pre := fun as n Φ => as = [.fd] ∧ n ≤ 100000 ∧ Φ (.ok (.bool true)) (n + c)
/-- the names that the whole chain knows -/
structure KnP (P : Program) (w : World) (K : Frg) (mg : Str → Option Value) (base : Heap) (T : List (Addr × Str)) (j : Nat) : Prop where
  push : Kn P w K mg base T j "push_check" ["stack", "modulus"] (pf2 (fun _ _ => True) pushC)
  pop : Kn P w K mg base T j "pop_check" ["stack", "modulus"] (pf2 (fun _ _ => True) popC)
  spo : Kn P w K mg base T j "is_spoilt" ["stack", "modulus"] (pf2 (fun _ _ => True) spoC)
  pushK : KnK P w K mg base T j "push_check" ["stack", "modulus"] ["modulus", "stack"] (fun _ vs => sw vs) (pf2 (fun _ _ => True) pushC)
  popK : KnK P w K mg base T j "pop_check" ["stack", "modulus"] ["modulus", "stack"] (fun _ vs => sw vs) (pf2 (fun _ _ => True) popC)
  spoK : KnK P w K mg base T j "is_spoilt" ["stack", "modulus"] ["modulus", "stack"] (fun _ vs => sw vs) (pf2 (fun _ _ => True) spoC)
  draw : Kn P w K mg base T j "_law_draw" ["_law_feed_here", "_law_below"] preDraw
  any : Kn P w K mg base T j "_law_any" ["_law_feed_here", "_law_some"] preAny
  heap : Kn P w K mg base T j "_law_heap" ["_law_feed_here"] preHeap
local macro_rules | `(tactic| walk_at "pb v") => `(tactic| first
  | refine ex_v 0 rfl ?_ | refine ex_v 1 rfl ?_ | refine ex_v 2 rfl ?_ | refine ex_v 3 rfl ?_ | refine ex_v 4 rfl ?_ | refine ex_v 5 rfl ?_ | refine ex_v 6 rfl ?_ | refine ex_v 7 rfl ?_
  | refine ex_v 8 rfl ?_ | refine ex_v 9 rfl ?_ | refine ex_v 10 rfl ?_ | refine ex_v 11 rfl ?_ | refine ex_v 12 rfl ?_ | refine ex_v 13 rfl ?_ | refine ex_v 14 rfl ?_)
local macro_rules | `(tactic| walk_at "pb x") => `(tactic| first
  | refine ex_i ?_ | ((with_reducible show EX _ _ (Expr.Name _ _) _ _ _ _); walk_at "pb v") | refine ex_addJ ?_ | refine ex_sub ?_ | refine ex_s ?_ | refine ex_n ?_ | refine ex_b ?_ | refine ex_neg ?_
  | refine ex_mulJ ?_ | refine ex_mod ?_ | refine ex_div ?_ | refine ex_pow ?_ | refine ex_lt ?_ | refine ex_eq ?_ | refine ex_ne ?_ | refine ex_gt ?_ | refine ex_ge ?_ | ((fail_if_success (with_reducible show EX _ _ (Expr.Subscript _ (Expr.Constant (Const.str _) _ _) _) _ _ _ _)); refine ex_ixJ ?_)
  | refine ex_and ?_ | refine ex_or ?_ | refine ex_one ?_ | refine ex_not ?_ | refine ex_ite ?_ | refine ex_isInt ‹_› ?_ | refine ex_isBool ‹_› ?_ | refine ex_isTup ‹_› ?_)
local macro_rules | `(tactic| walk_at "pb t") => `(tactic| first
  | refine et_lt ?_ | refine et_eq ?_ | refine et_ne ?_ | refine et_le ?_ | refine et_gt ?_ | refine et_ge ?_ | refine et_nt ?_ | refine et_w (ew_and ?_) | refine et_w (ew_or ?_) | refine et_v ?_)
local macro_rules | `(tactic| walk_at "pb e") => `(tactic| first
  | ((with_reducible show EX _ _ _ _ _ _ _); walk_at "pb x")
  | with_reducible refine xi2 ?_ | with_reducible refine xi ?_ | with_reducible refine xb ?_ | with_reducible refine xsi ?_ | with_reducible refine xl ?_ | with_reducible refine xt ?_
  | with_reducible refine ifT ?_ | with_reducible refine ifF ?_ | with_reducible refine add_int ?_ | with_reducible refine ix_l ?_
  | with_reducible refine len_t ?_ | with_reducible refine len_l ?_ | with_reducible refine tup_t ?_ | with_reducible refine tup_l ?_
  | with_reducible refine nx_nxt ?_ | with_reducible refine rt_nxt ?_ | with_reducible refine er_nxt ?_ | with_reducible refine bk_nxt ?_ | with_reducible refine ct_nxt ?_ | with_reducible refine fin_rt ?_ | with_reducible refine fin_nx ?_ | with_reducible refine fin_er ?_ 
  | with_reducible refine nx_lp ?_ | with_reducible refine bk_lp ?_ | with_reducible refine ct_lp ?_ | with_reducible refine rt_lp ?_ | with_reducible refine er_lp ?_ | with_reducible refine okp_ok ?_
  | ((with_reducible show ET _ _ _ _ _ _ _); walk_at "pb t")
  | ((with_reducible show EW _ _ _ _ _ _ _); first | refine ew_and ?_ | refine ew_or ?_ | refine ew_and1 ?_ | refine ew_or1 ?_)
  | ((with_reducible show SB _ _ _ _ _ _ _); first | refine sb_cons ?_ | refine sb_nil ?_)
  | ((with_reducible show SX _ _ _ _ _ _ _); first | refine sx_ret ?_ | refine sx_if ?_)
  | ((with_reducible show EO _ _ _ _ _ _ _); first | refine eo_s ?_ | refine eo_n ?_)
  | ((with_reducible show EK _ _ _ _ _ _ _); first | refine ek_c ?_ | refine ek_0 ?_)
  | ((with_reducible show EA _ _ _ _ _ _ _); first | refine ea_c ?_ | refine ea_0 ?_))
local macro_rules | `(tactic| walk_at "pb") => `(tactic| repeat walk_at "pb e")
section
variable {P : Program} {w : World} {K : Frg} {mg : Str → Option Value} {base : Heap} {f : Addr} {fd : FuncData} {T : List (Addr × Str)} {k : Nat}
theorem sc51 : FnScope ["_law_feed_here", "_law_prime", "_law_lap", "_law_heap_here", "_law_more", "_law_full", "_law_told", "_law_due"] ["_law_feed_here"] (defScope (top 51)) := ⟨rfl, rfl, rfl, by decide +kernel, rfl, by decide +kernel, by decide +kernel⟩
theorem g_checks (F : FnT K "_law_are_checks_right" 51 f fd) (b : Blt mg) (X : ExF K mg) (Hk : HeardK K mg) (ld : LmD K base mg T f "_law_are_checks_right.<locals>.<lambda>") (kp : KnP P w K mg base T k) (ks : KnG P w K mg base k "_law_same" ["_law_told", "_law_due"] (prom K T preSame)) :
    FnG P w K mg base (k + 3) f fd ["_law_feed_here"] (promW K T (preTest 100)) := by
  refine fng_pw F sc51 (fun as n Φ ⟨h, _⟩ => by rw [h]; rfl) fun cdv A outer s H E C as n Φ hgd hr2 hl M hT hE hp => ?_
  have lm := lm_of (P := P) (w := w) (N := ["_law_feed_here", "_law_prime", "_law_lap", "_law_heap_here", "_law_more", "_law_full", "_law_told", "_law_due"]) (qual := "_law_are_checks_right") (sc := defScope (top 51)) (A := A) (outer := outer) (s := s) (H := H) (E := E) ld hl
  have hr := hr2.mono (Nat.le_add_right k 2)
  obtain ⟨rfl, hn, h⟩ := hp
  walk_at "pb"
  refine sx_asg 1 sc51.nd (ex_call kp.any hr hT (ea_f 0 rfl (ea_c ?_)))
  refine ex_l (el_ls ?_)
  walk_at "pb"
  refine ⟨[.int 2, .int 3, .int 5, .int 7, .int 11, .int 13, .int 101, .int 257, .int 283, .int 293], rfl, by simp, ?_⟩
  walk_at "pb"
  refine ⟨_, rfl, by simp, by simp, by omega, fun d hd => ?_⟩
  have hp : ∃ p : Int, d = .int p ∧ fitsI p = true := by
    simp only [List.mem_cons, List.not_mem_nil, or_false] at hd
    rcases hd with rfl | rfl | rfl | rfl | rfl | rfl | rfl | rfl | rfl | rfl <;> exact ⟨_, rfl, by decide +kernel⟩
  obtain ⟨p, rfl, hfp⟩ := hp
  have hp2 := fitsI_le hfp
  walk_at "pb"
  refine sx_for 2 rfl sc51.nd (wx_range1 b.range ?_)
  walk_at "pb"
  refine ⟨by omega, by omega, ?_⟩
  refine ⟨fun i ρ' μ' n' => ∃ u1 u2 u3 u4 u5 u6, ρ' = [.fd, .im (.int p), u1, u2, u3, u4, u5, u6] ∧ n' = n + 2 + 20 * i, ⟨_, _, _, _, _, _, rfl, rfl⟩, ?_, ?_⟩
  · rintro i _ μ' _ hi ⟨u1, u2, u3, u4, u5, u6, rfl, rfl⟩
    have hi : i < 3 := hi
    walk_at "pb e"
    refine sx_par 3 4 rfl sc51.nd (ex_call kp.heap hr hT (ea_f 0 rfl ?_))
    walk_at "pb"
    refine ⟨rfl, by omega, fun hv hv0 hv1 => ?_⟩
    walk_at "pb"
    refine ex_call kp.draw hr hT (ea_f 0 rfl ?_)
    walk_at "pb"
    refine ⟨p, rfl, by omega, by omega, by omega, fun mv hm0 hm1 => ?_⟩
    walk_at "pb"
    refine sx_asg 5 sc51.nd ?_
    walk_at "pb"
    refine mul_int (mulR (by omega) (by omega)) ?_
    walk_at "pb"
    have hvp : 0 ≤ hv * p := Int.mul_nonneg hv0 (by omega)
    have hfu : 0 ≤ hv * p + mv := by omega
    have e1 : (hv * p) % p = 0 := Int.mul_emod_left _ _
    have e2 : hv * p / p = hv := Int.mul_ediv_cancel _ (by omega)
    have e3 : (hv * p + mv) % p = mv := by
      rw [Int.add_comm, Int.add_mul_emod_self_right]
      exact Int.emod_eq_of_lt hm0 hm1
    have e4 : (!decide ((hv * p + mv) % p = 0)) = decide (0 < mv) := by
      rw [e3]
      by_cases z : mv = 0
      · rw [z]
        rfl
      · rw [decide_eq_false z, decide_eq_true (show 0 < mv by omega)]
        rfl
    have e5 : p * hv + 0 = hv * p := by rw [Int.add_zero, Int.mul_comm]
    have ps1 := pushC_ok hv0 hfp
    have po1 := popC_ok hvp hfp e1
    have sp1 := spoC_ok hfu hfp
    rw [e5] at ps1
    rw [e2] at po1
    rw [e4] at sp1
    refine sx_asg 6 sc51.nd (ex_l (el_ls ?_))
    refine ea_c (ex_call kp.push hr hT ?_)
    walk_at "pb"
    refine ⟨_, _, rfl, trivial, ?_⟩
    rw [ps1]
    refine okp_ok ?_
    refine ea_c (ex_callK kp.pushK hr hT sw sw_ok ?_)
    walk_at "pb"
    refine ⟨rfl, _, _, rfl, trivial, ?_⟩
    rw [ps1]
    refine okp_ok ?_
    refine ea_c (ex_call kp.pop hr hT ?_)
    walk_at "pb"
    refine mul_int (mulR (by omega) (by omega)) ?_
    walk_at "pb"
    refine ⟨_, _, rfl, trivial, ?_⟩
    rw [po1]
    refine okp_ok ?_
    walk_at "pb"
    refine ⟨[.int (hv * p), .int (hv * p), .int hv], rfl, by simp, ?_⟩
    walk_at "pb"
    refine sx_asg 6 sc51.nd ?_
    walk_at "pb"
    refine ex_l (el_ls ?_)
    refine ea_c (ex_call kp.spo hr hT ?_)
    walk_at "pb"
    refine ⟨_, _, rfl, trivial, ?_⟩
    rw [sp1]
    refine okp_ok ?_
    refine ea_c (ex_callK kp.spoK hr hT sw sw_ok ?_)
    walk_at "pb"
    refine ⟨rfl, _, _, rfl, trivial, ?_⟩
    rw [sp1]
    refine okp_ok ?_
    walk_at "pb"
    refine ⟨[.bool (decide (0 < mv)), .bool (decide (0 < mv))], rfl, by simp, add_lst (by simp) ?_⟩
    walk_at "pb"
    refine sx_asgL 6 sc51.nd (el_addL ?_)
    walk_at "pb"
    refine ex_l (el_ls ?_)
    have hh : ∀ (Ψ : PyData → Nat → Prop) (m : Nat), Ψ (if 0 < mv then xres (.spo (hv * p + mv)) else .tuple [.str "told", .int hv]) m → hear Ψ (popC (.int (hv * p + mv)) (.int p)) m := fun Ψ m z => by
      by_cases z0 : 0 < mv
      · rw [if_pos z0] at z
        rw [popC_no hfu hfp (by rw [e3]; omega)]
        exact z
      · rw [if_neg z0] at z
        have em : mv = 0 := by omega
        rw [popC_ok hfu hfp (by rw [e3]; exact em), em, Int.add_zero, e2]
        exact z
    refine ea_c (ex_heard Hk X b M hT lm hr2 kp.pop (lea fun A' o' s' H' E' f' c' => ?_))
    walk_at "pb"
    refine ⟨_, _, rfl, trivial, hh _ _ ?_⟩
    walk_at "pb"
    refine ⟨[_], rfl, by simp, _, _, rfl, rfl, by simp, ?_⟩
    walk_at "pb"
    refine sx_app 6 μ'.length rfl (app_last _ _) (by simp) ?_
    refine ex_heardK Hk X b M hT lm hr2 kp.popK sw sw_ok (lek fun A' o' s' H' E' f' c' => ?_)
    walk_at "pb"
    refine ⟨rfl, _, _, rfl, trivial, hh _ _ ?_⟩
    walk_at "pb"
    refine sx_asg 7 sc51.nd (ex_l (el_ls ?_))
    walk_at "pb"
    refine mul_int (mulR (by omega) (by omega)) ?_
    walk_at "pb"
    refine mul_int (mulR (by omega) (by omega)) ?_
    walk_at "pb"
    refine ⟨[.int (hv * p), .int (hv * p), .int hv, .bool (decide (0 < mv)), .bool (decide (0 < mv))], rfl, by simp, ?_⟩
    walk_at "pb"
    refine sx_asg 7 sc51.nd ?_
    walk_at "pb"
    refine ex_l (el_ls ?_)
    refine ea_c (Ev.imp (Φ := fun d n' => d = (if 0 < mv then xres (.spo (hv * p + mv)) else .tuple [.str "told", .int hv]) ∧ n' = n + 2 + 20 * i + 18 + 2) ?_ fun d n' ⟨e, e'⟩ => ?_)
    · walk_at "pb"
      refine ifd (fun z => ?_) (fun z => ?_)
      · refine ex_tup ?_
        walk_at "pb"
        refine ⟨[.str "spoilt", .int (hv * p + mv)], rfl, by simp, ?_⟩
        rw [if_pos z]
        exact ⟨rfl, rfl⟩
      · refine ex_tup ?_
        walk_at "pb"
        refine ⟨[.str "told", .int hv], rfl, by simp, ?_⟩
        rw [if_neg z]
        exact ⟨rfl, rfl⟩
    subst e e'
    walk_at "pb"
    refine ⟨[_], rfl, by simp, ?_⟩
    walk_at "pb"
    refine mul_two (add_lst (by simp) ?_)
    walk_at "pb e"
    walk_at "pb e"
    refine sv_frz 6 μ'.length rfl (set_last _ _ _) ?_
    walk_at "pb"
    refine ex_g ks hgd hr hT ?_
    walk_at "pb"
    have b56 : (10 : Int) ^ 56 * 300 < 10 ^ 90 := by decide
    have c56 : (((10 : Int) ^ 90).toNat) = 10 ^ 90 := by decide
    have hvb : hv * p ≤ 10 ^ 56 * 300 := Int.mul_le_mul (by omega) (by omega) (by omega) (by decide)
    have rI : ∀ z : Int, 0 ≤ z → z < 10 ^ 90 → Rp 0 0 (.int z) := fun z h0 h1 => rp_int (by
      have : (z.natAbs : Int) < ((10 ^ 90 : Nat) : Int) := by
        have e : ((10 ^ 90 : Nat) : Int) = 10 ^ 90 := by decide
        rw [e]
        omega
      exact Int.ofNat_lt.mp this)
    have rR : Rp 200 5 (if 0 < mv then xres (.spo (hv * p + mv)) else .tuple [.str "told", .int hv]) := by
      have s1 : Rp 20 0 (.str "spoilt") := ⟨by decide +kernel, rfl, rfl, by decide +kernel, by decide⟩
      have s2 : Rp 20 0 (.str "told") := ⟨by decide +kernel, rfl, rfl, by decide +kernel, by decide⟩
      split
      · exact (rp_tup (rpa_cons s1 (rpa_cons (rI _ hfu (by omega)) rpa_nil))).mono (by omega) (by omega)
      · exact (rp_tup (rpa_cons s2 (rpa_cons (rI hv hv0 (by omega)) rpa_nil))).mono (by omega) (by omega)
    refine ⟨_, rfl, ?_, ?_⟩
    · exact (rp_lst (rpa_cons (rI _ hvp (by omega)) (rpa_cons (rI _ hvp (by omega)) (rpa_cons (rI hv hv0 (by omega)) (rpa_cons (rp_bool _) (rpa_cons (rp_bool _) (rpa_cons rR (rpa_cons rR rpa_nil)))))))).mono (by omega) (by omega)
    refine okp_ok ?_
    walk_at "pb"
    refine ifF ?_
    walk_at "pb"
    exact ⟨_, _, _, _, _, _, rfl, by omega⟩
  · rintro _ _ _ ⟨u1, u2, u3, u4, u5, u6, rfl, rfl⟩
    walk_at "pb e"
    refine sv_more (n + 100) (by have : (3 : Int).toNat = 3 := rfl
                                 omega) ?_
    walk_at "pb"
    exact ⟨_, rfl, h⟩
end
end Pb

set_option Elab.async false
set_option linter.all false
set_option maxRecDepth 100000
set_option maxHeartbeats 4000000
/-! PbAB: the law's tests: rows, by hand. -/
namespace Pb
open PySem PySem.Spec PyProof.Rows L2
section
variable {X : Cx} {C : Ct} {ρ : List Sl} {μ : List Ce} {n : Nat} {pos : Pos} {Ψ : Out → Prop} {x y : Str}
theorem sx_lcP2 (m i j : Nat) {z : Str} {pz spos : Pos} {scope : Scope} {it elt : Expr} {ifs : List Expr} {px py tpos : Pos} {kk : Nat} (hc : X.calm = true) (nd : X.N.Nodup) (h : LcP2 X C scope (.Tuple [.Name x px, .Name y py] kk tpos) it ifs elt i j ρ μ n fun ds n' => Ψ (.nx (ρ.set m (.im (.list ds))) μ n')) (hz : X.N[m]? = some z := by rfl) (hzl : X.env.scope.names.lookup z = some .local := by rfl)
    (hsw : swapsWith (.ListComp elt [⟨.Tuple [.Name x px, .Name y py] kk tpos, it, ifs, 0⟩] scope pos) (some (.Name z pz)) spos.line X.env = pure true := by exact sw_true rfl rfl rfl (by kernel_rfl))
    (hij : i ≠ j := by decide) (ok : blkC X.N X.env.scope scope [(x, i), (y, j)] = true := by kernel_rfl) (hi : X.N[i]? = some x := by rfl) (hj : X.N[j]? = some y := by rfl)
    (hx : ∀ (s0 : Shared) (H0 : Hp) (C' : Addr) (cl : List (Str × Addr)) (fp : List Addr), Loc (X.blk s0 H0 scope (compEnvC scope cl C' X.env) fp).env.scope x := by first | exact fun _ _ _ _ _ => .inl rfl | exact fun _ _ _ _ _ => .inr rfl)
    (hf : ∀ (s0 : Shared) (H0 : Hp) (C' : Addr) (cl : List (Str × Addr)) (fp : List Addr), (X.blk s0 H0 scope (compEnvC scope cl C' X.env) fp).fn x = true ∨ (X.blk s0 H0 scope (compEnvC scope cl C' X.env) fp).env.scope.names.lookup x = some .local := by first | exact fun _ _ _ _ _ => .inr rfl | exact fun _ _ _ _ _ => .inl rfl)
    (hx2 : ∀ (s0 : Shared) (H0 : Hp) (C' : Addr) (cl : List (Str × Addr)) (fp : List Addr), Loc (X.blk s0 H0 scope (compEnvC scope cl C' X.env) fp).env.scope y := by first | exact fun _ _ _ _ _ => .inl rfl | exact fun _ _ _ _ _ => .inr rfl)
    (hf2 : ∀ (s0 : Shared) (H0 : Hp) (C' : Addr) (cl : List (Str × Addr)) (fp : List Addr), (X.blk s0 H0 scope (compEnvC scope cl C' X.env) fp).fn y = true ∨ (X.blk s0 H0 scope (compEnvC scope cl C' X.env) fp).env.scope.names.lookup y = some .local := by first | exact fun _ _ _ _ _ => .inr rfl | exact fun _ _ _ _ _ => .inl rfl)
    (hcb : ∀ (s0 : Shared) (H0 : Hp) (C' : Addr) (cl : List (Str × Addr)) (fp : List Addr), (X.blk s0 H0 scope (compEnvC scope cl C' X.env) fp).calm = true := by exact fun _ _ _ _ _ => rfl)
    (hs : ∀ y, foldedSetIterable it X.env y = pure y := by intro _; rfl) : SX X C (.Assign [.Name z pz] (.ListComp elt [⟨.Tuple [.Name x px, .Name y py] kk tpos, it, ifs, 0⟩] scope pos) spos) ρ μ n Ψ :=
  sx_of (ps_setLc (i := m) (own := [(x, i), (y, j)]) (g := gTup X.K 2 (gCons (gName i) (gCons (gName j) gNil))) (tt := canBT X scope ifs) (te := canBE X scope elt) hc nd hz hzl hsw pi_can (blkOk_by ok)
    (fun s0 H0 C' cl fp => pg_tup (hcb s0 H0 C' cl fp) (pgs_cons (pg_name nd hi (hx s0 H0 C' cl fp) (hf s0 H0 C' cl fp)) (pgs_cons (pg_name nd hj (hx2 s0 H0 C' cl fp) (hf2 s0 H0 C' cl fp)) pgs_nil))) (fun s0 H0 C' cl fp => pbt_can s0 H0 C' cl fp) (fun s0 H0 C' cl fp => pbe_can s0 H0 C' cl fp) hs) (sv_asg (ev_l (lcP2 hij h)))
end
theorem framesF_ok {b : Int} {ns : List Int} (h3 : 3 ≤ b) (h4 : b ≤ 256) (h : ∀ x ∈ ns, 0 ≤ x ∧ x < b) : framesF (.int b) (itup ns) = .ok (.list ((frm b ns).map .int)) := by
  have e1 : isB3 (.int b) = true := by simp [isB3, h3, h4]
  have e2 : isDig (toI (.int b)) (itup ns) = true := dig_mk h
  unfold framesF
  rw [if_pos e1, if_pos e2]
  have e3 : toL (itup ns) = ns := by
    show (ns.map PyData.int).map toI = ns
    rw [List.map_map]
    exact List.map_id _
  rw [e3]
  rfl
theorem nb_by {α : Type} (f : Nat × Nat → α) (M : List Nat) : (nb M).map f = (List.range (M.length - 1)).map fun i => f (M.getD i 0, M.getD (i + 1) 0) := by
  conv => lhs; rw [← map_getD (0, 0) (nb M)]
  rw [List.map_map, nb_len]
  refine List.map_congr_left fun i hi => ?_
  have hi := List.mem_range.mp hi
  show f ((nb M).getD i (0, 0)) = _
  rw [nb_getD M i (by omega)]
theorem stk_lt2 {r : Int} (hr : 0 ≤ r) (hr2 : r ≤ 256) : ∀ (xs : List Int) (t : Int), 0 ≤ t → (∀ x ∈ xs, 0 ≤ x ∧ x < 256) → stk r t xs < (t + 2) * 256 ^ xs.length
  | [], t, h, _ => by
    show t < (t + 2) * 256 ^ 0
    rw [Int.pow_zero]
    omega
  | x :: xs, t, h, hx => by
    have h1 := hx x (List.mem_cons_self ..)
    have h2 := Int.mul_nonneg h hr
    have h3 := stk_lt2 hr hr2 xs (t * r + x + 1) (by omega) fun y hy => hx y (List.mem_cons_of_mem _ hy)
    have h4 : t * r ≤ t * 256 := Int.mul_le_mul_of_nonneg_left hr2 h
    have h5 : (t * r + x + 1 + 2) * 256 ^ xs.length ≤ ((t + 2) * 256) * 256 ^ xs.length := Int.mul_le_mul_of_nonneg_right (by omega) (Int.pow_nonneg (by omega))
    rw [List.length_cons, Int.pow_succ]
    have e : (t + 2) * (256 ^ xs.length * 256) = ((t + 2) * 256) * 256 ^ xs.length := by
      rw [Int.mul_comm (256 ^ xs.length) 256, ← Int.mul_assoc]
    rw [e]
    exact Int.lt_of_lt_of_le h3 h5
theorem stk_bound {r : Int} (hr : 2 ≤ r) (hr2 : r ≤ 256) {xs : List Int} (h : ∀ x ∈ xs, 0 ≤ x ∧ x < 256) (hl : xs.length ≤ 30) : 0 ≤ stk r 0 xs ∧ (stk r 0 xs).natAbs < 10 ^ 90 := by
  have h1 := stk_nonneg (r := r) (by omega) xs 0 (by omega) fun x hx => (h x hx).1
  have h2 := stk_lt2 (by omega) hr2 xs 0 (by omega) h
  have h3 : (256 : Int) ^ xs.length ≤ 256 ^ 30 := by
    have : (256 : Nat) ^ xs.length ≤ 256 ^ 30 := Nat.pow_le_pow_right (by omega) hl
    exact_mod_cast this
  have h4 : (2 : Int) * 256 ^ 30 < 10 ^ 90 := by decide
  refine ⟨h1, ?_⟩
  have h5 : ((stk r 0 xs).natAbs : Int) < ((10 ^ 90 : Nat) : Int) := by
    have e : ((10 ^ 90 : Nat) : Int) = 10 ^ 90 := by decide
    rw [e]
    have e2 : (0 + 2 : Int) * 256 ^ xs.length ≤ 2 * 256 ^ 30 := Int.mul_le_mul_of_nonneg_left h3 (by omega)
    omega
  exact Int.ofNat_lt.mp h5
structure KnF (P : Program) (w : World) (K : Frg) (mg : Str → Option Value) (base : Heap) (T : List (Addr × Str)) (j : Nat) : Prop where
  frames : Kn P w K mg base T j "frames_in" ["base", "scrap"] preFrm
  stream : Kn P w K mg base T j "stream_of" ["base", "stacks"] preStr
  starts : Kn P w K mg base T j "starts_of" ["base", "stream"] preSts
  short : Kn P w K mg base T j "shortest_loss" ["base", "stream", "many"] preSho
  stack : Kn P w K mg base T j "_law_stack" ["_law_radix", "_law_line_here"] preStack
  line : Kn P w K mg base T j "_law_line" ["_law_radix", "_law_heap_here"] preLine
local macro_rules | `(tactic| walk_at "pb v") => `(tactic| first
  | refine ex_v 0 rfl ?_ | refine ex_v 1 rfl ?_ | refine ex_v 2 rfl ?_ | refine ex_v 3 rfl ?_ | refine ex_v 4 rfl ?_ | refine ex_v 5 rfl ?_ | refine ex_v 6 rfl ?_ | refine ex_v 7 rfl ?_
  | refine ex_v 8 rfl ?_ | refine ex_v 9 rfl ?_ | refine ex_v 10 rfl ?_ | refine ex_v 11 rfl ?_ | refine ex_v 12 rfl ?_ | refine ex_v 13 rfl ?_ | refine ex_v 14 rfl ?_)
local macro_rules | `(tactic| walk_at "pb x") => `(tactic| first
  | refine ex_i ?_ | ((with_reducible show EX _ _ (Expr.Name _ _) _ _ _ _); walk_at "pb v") | refine ex_addJ ?_ | refine ex_sub ?_ | refine ex_s ?_ | refine ex_n ?_ | refine ex_b ?_ | refine ex_neg ?_
  | refine ex_mulJ ?_ | refine ex_mod ?_ | refine ex_div ?_ | refine ex_pow ?_ | refine ex_lt ?_ | refine ex_eq ?_ | refine ex_ne ?_ | refine ex_gt ?_ | refine ex_ge ?_ | ((fail_if_success (with_reducible show EX _ _ (Expr.Subscript _ (Expr.Constant (Const.str _) _ _) _) _ _ _ _)); refine ex_ixJ ?_)
  | refine ex_and ?_ | refine ex_or ?_ | refine ex_one ?_ | refine ex_not ?_ | refine ex_ite ?_ | refine ex_isInt ‹_› ?_ | refine ex_isBool ‹_› ?_ | refine ex_isTup ‹_› ?_)
local macro_rules | `(tactic| walk_at "pb t") => `(tactic| first
  | refine et_lt ?_ | refine et_eq ?_ | refine et_ne ?_ | refine et_le ?_ | refine et_gt ?_ | refine et_ge ?_ | refine et_nt ?_ | refine et_w (ew_and ?_) | refine et_w (ew_or ?_) | refine et_v ?_)
local macro_rules | `(tactic| walk_at "pb e") => `(tactic| first
  | ((with_reducible show EX _ _ _ _ _ _ _); walk_at "pb x")
  | with_reducible refine xi2 ?_ | with_reducible refine xi ?_ | with_reducible refine xb ?_ | with_reducible refine xsi ?_ | with_reducible refine xl ?_ | with_reducible refine xt ?_
  | with_reducible refine ifT ?_ | with_reducible refine ifF ?_ | with_reducible refine add_int ?_ | with_reducible refine ix_l ?_
  | with_reducible refine len_t ?_ | with_reducible refine len_l ?_ | with_reducible refine tup_t ?_ | with_reducible refine tup_l ?_
  | with_reducible refine nx_nxt ?_ | with_reducible refine rt_nxt ?_ | with_reducible refine er_nxt ?_ | with_reducible refine bk_nxt ?_ | with_reducible refine ct_nxt ?_ | with_reducible refine fin_rt ?_ | with_reducible refine fin_nx ?_ | with_reducible refine fin_er ?_ 
  | with_reducible refine nx_lp ?_ | with_reducible refine bk_lp ?_ | with_reducible refine ct_lp ?_ | with_reducible refine rt_lp ?_ | with_reducible refine er_lp ?_ | with_reducible refine okp_ok ?_
  | ((with_reducible show ET _ _ _ _ _ _ _); walk_at "pb t")
  | ((with_reducible show EW _ _ _ _ _ _ _); first | refine ew_and ?_ | refine ew_or ?_ | refine ew_and1 ?_ | refine ew_or1 ?_)
  | ((with_reducible show SB _ _ _ _ _ _ _); first | refine sb_cons ?_ | refine sb_nil ?_)
  | ((with_reducible show SX _ _ _ _ _ _ _); first | refine sx_ret ?_ | refine sx_if ?_)
  | ((with_reducible show EO _ _ _ _ _ _ _); first | refine eo_s ?_ | refine eo_n ?_)
  | ((with_reducible show EK _ _ _ _ _ _ _); first | refine ek_c ?_ | refine ek_0 ?_)
  | ((with_reducible show EA _ _ _ _ _ _ _); first | refine ea_c ?_ | refine ea_0 ?_))
local macro_rules | `(tactic| walk_at "pb") => `(tactic| repeat walk_at "pb e")
section
variable {P : Program} {w : World} {K : Frg} {mg : Str → Option Value} {base : Heap} {f : Addr} {fd : FuncData} {T : List (Addr × Str)} {k : Nat}
theorem sc60 : FnScope ["_law_feed_here", "_law_base", "_law_strip", "_law_marks", "_law_due", "_law_k", "_law_low", "_law_high"] ["_law_feed_here"] (defScope (top 60)) := ⟨rfl, rfl, rfl, by decide +kernel, rfl, by decide +kernel, by decide +kernel⟩
theorem g_rows (F : FnT K "_law_are_rows_right" 60 f fd) (b : Blt mg) (kp : KnP P w K mg base T k) (kf : KnF P w K mg base T k) (ks : KnG P w K mg base k "_law_same" ["_law_told", "_law_due"] (prom K T preSame)) :
    FnG P w K mg base (k + 1) f fd ["_law_feed_here"] (prom K T (preTest 100)) := by
  refine fng_pb F sc60 (fun as n Φ ⟨h, _⟩ => by rw [h]; rfl) fun cdv A outer s H E fa B as n Φ hgd hr hp => ?_
  obtain ⟨rfl, hn, h⟩ := hp
  walk_at "pb"
  refine sx_asg 1 sc60.nd (ex_call kp.any hr rfl (ea_f 0 rfl (ea_c ?_)))
  refine ex_l (el_ls ?_)
  walk_at "pb"
  refine ⟨[.int 3, .int 4, .int 3, .int 6, .int 256], rfl, by simp, ?_⟩
  walk_at "pb"
  refine ⟨_, rfl, by simp, by simp, by omega, fun d hd => ?_⟩
  have hp : ∃ p : Int, d = .int p ∧ 3 ≤ p ∧ p ≤ 256 := by
    simp only [List.mem_cons, List.not_mem_nil, or_false] at hd
    rcases hd with rfl | rfl | rfl | rfl | rfl <;> exact ⟨_, rfl, by decide, by decide⟩
  obtain ⟨bs, rfl, hb1, hb2⟩ := hp
  walk_at "pb"
  refine sx_asg 2 sc60.nd (ex_l (el_lcN 5 rfl sc60.nd (wx_range1 b.range ?_)))
  refine ex_call kp.draw hr rfl (ea_f 0 rfl ?_)
  walk_at "pb"
  refine ⟨16, rfl, by omega, by omega, by omega, fun q hq0 hq1 => ?_⟩
  walk_at "pb"
  refine ⟨by omega, by omega, by omega, fun i acc n' => ∃ xs : List Int, acc = xs.map .int ∧ xs.length = i ∧ (∀ x ∈ xs, 0 ≤ x ∧ x < bs) ∧ n' ≤ n + 4 + 4 * i, ⟨[], rfl, rfl, by simp, by omega⟩, ?_, ?_⟩
  · rintro i acc n' hi ⟨xs, rfl, hxl, hx, hn'⟩
    refine btx0 (ifT (bex fun s0 H0 C' cl fp => ?_))
    have fin1 : ∀ (v : Int) (m : Nat), 0 ≤ v → v < bs → m ≤ n + 4 + 4 * (i + 1) → ∃ ys : List Int, (xs.map PyData.int) ++ [.int v] = ys.map .int ∧ ys.length = i + 1 ∧ (∀ x ∈ ys, 0 ≤ x ∧ x < bs) ∧ m ≤ n + 4 + 4 * (i + 1) := fun v m h0 h1 h2 => by
      refine ⟨xs ++ [v], by rw [List.map_append]; rfl, by rw [List.length_append, hxl]; rfl, fun x hx' => ?_, h2⟩
      rcases List.mem_append.mp hx' with hx' | hx'
      · exact hx x hx'
      · rw [List.mem_singleton.mp hx']
        exact ⟨h0, h1⟩
    walk_at "pb"
    refine ex_call kp.draw hr rfl (ea_f 0 rfl ?_)
    walk_at "pb"
    refine ⟨3, rfl, by omega, by omega, by omega, fun v hv0 hv1 => ?_⟩
    walk_at "pb"
    refine ifd (fun h1 => ?_) (fun h1 => ?_)
    · walk_at "pb"
      exact fin1 _ _ (by omega) (by omega) (by omega)
    · refine ex_call kp.draw hr rfl (ea_f 0 rfl ?_)
      walk_at "pb"
      refine ⟨bs, rfl, by omega, by omega, by omega, fun v hv0 hv1 => ?_⟩
      walk_at "pb"
      exact fin1 _ _ (by omega) (by omega) (by omega)
  · rintro acc n' ⟨xs, rfl, hxl, hx, hn'⟩
    have hq : xs.length ≤ 15 := by omega
    have gX : ∀ i, i < xs.length → (xs.map PyData.int)[i]? = some (.int (xs.getD i 0)) := fun i hi => by
      rw [List.getElem?_map, List.getD_eq_getElem?_getD, List.getElem?_eq_getElem hi]
      rfl
    walk_at "pb e"
    refine sv_more (n + 100) (by omega) ?_
    walk_at "pb"
    refine sx_lcN 3 5 rfl sc60.nd (lcP (wx_range1 b.range ?_))
    refine ex_lenJ b.len ?_
    walk_at "pb"
    rw [List.length_map]
    refine ⟨by omega, by omega, by omega, fun i => decide (xs.getD i 0 = bs - 1), fun i => .int i, fun i acc hi => btx1 fun s0 H0 C' cl fp => ?_, fun i acc hi _ => bex fun s0 H0 C' cl fp => ?_, ?_⟩
    · walk_at "pb"
      refine ⟨_, gX i (by omega), ?_⟩
      walk_at "pb"
      exact ⟨rfl, rfl⟩
    · walk_at "pb"
      exact ⟨rfl, rfl⟩
    have eM : ((List.range ((xs.length : Int).toNat)).filter fun i => decide (xs.getD i 0 = bs - 1)) = mk (bs - 1) 0 xs := by
      rw [mk_range, Int.toNat_natCast]
      simp
    have eM2 : (((List.range ((xs.length : Int).toNat)).filter fun i => decide (xs.getD i 0 = bs - 1)).map fun (i : Nat) => PyData.int (i : Int)) = (mk (bs - 1) 0 xs).map fun (i : Nat) => .int (i : Int) := by rw [eM]
    rw [eM2]
    generalize hM : mk (bs - 1) 0 xs = M
    have hMb : ∀ m ∈ M, m < xs.length := fun m hm => by
      rw [← hM] at hm
      have := mk_bd hm
      omega
    have hMl : M.length ≤ 15 := by
      rw [← hM, mk_range, List.length_map]
      refine Nat.le_trans (List.length_filter_le _ _) ?_
      rw [List.length_range]
      exact hq
    walk_at "pb"
    refine sx_lcP2 4 6 7 rfl sc60.nd (wx_zip b.zip ?_)
    walk_at "pb"
    refine ex_l (el_sl ?_)
    walk_at "pb"
    have e1 : cutL (M.map fun (i : Nat) => PyData.int (i : Int)) (some 1) none = (M.drop 1).map fun (i : Nat) => .int (i : Int) := by
      have := cut_lo (M.map fun (i : Nat) => PyData.int (i : Int)) 1
      rw [List.map_drop]
      exact this
    rw [e1]
    refine ⟨_, _, .inl ⟨rfl, rfl⟩, ?_⟩
    have el : min (M.map fun (i : Nat) => PyData.int (i : Int)).length ((M.drop 1).map fun (i : Nat) => PyData.int (i : Int)).length = M.length - 1 := by
      rw [List.length_map, List.length_map, List.length_drop]
      omega
    rw [el]
    have gM : ∀ i, i < M.length → (M.map fun (i : Nat) => PyData.int (i : Int)).getD i .none = .int ((M.getD i 0 : Nat) : Int) := fun i hi => by
      rw [List.getD_eq_getElem?_getD, List.getD_eq_getElem?_getD, List.getElem?_map, List.getElem?_eq_getElem hi]
      rfl
    have gM2 : ∀ i, i + 1 < M.length → ((M.drop 1).map fun (i : Nat) => PyData.int (i : Int)).getD i .none = .int ((M.getD (i + 1) 0 : Nat) : Int) := fun i hi => by
      rw [List.getD_eq_getElem?_getD, List.getD_eq_getElem?_getD, List.getElem?_map, List.getElem?_drop, Nat.add_comm 1 i, List.getElem?_eq_getElem hi]
      rfl
    refine ⟨by omega, fun i => .int ((M.getD i 0 : Nat) : Int), fun i => .int ((M.getD (i + 1) 0 : Nat) : Int), fun _ => true, fun i => .int (stk (bs - 1) 0 (btw xs (M.getD i 0, M.getD (i + 1) 0))), fun i hi => by dsimp only; rw [gM i (by omega), gM2 i (by omega)], fun _ _ _ => btx0 ⟨rfl, rfl⟩, fun i acc hi _ => bex fun s0 H0 C' cl fp => ?_, ?_⟩
    · refine ex_call kf.stack hr rfl ?_
      walk_at "pb"
      refine ex_l (el_sl ?_)
      walk_at "pb"
      have e2 : ((M.getD i 0 : Nat) : Int) + 1 = ((M.getD i 0 + 1 : Nat) : Int) := by omega
      rw [e2, cut_lh]
      refine ⟨bs - 1, btw xs (M.getD i 0, M.getD (i + 1) 0), _, rfl, .inr ?_, by omega, by omega, ?_⟩
      · unfold btw
        rw [List.map_take, List.map_drop]
      · exact ⟨rfl, rfl⟩
    · rw [filter_true]
      walk_at "pb"
      refine ex_g ks hgd hr rfl (ea_c (ex_call kf.frames hr rfl ?_))
      walk_at "pb"
      refine ex_tupJ b.tuple ?_
      walk_at "pb"
      refine ⟨_, _, rfl, by show (xs.map PyData.int).length ≤ 100000; rw [List.length_map]; omega, ?_⟩
      have eF := framesF_ok hb1 hb2 hx
      unfold itup at eF
      rw [eF]
      refine okp_ok ?_
      walk_at "pb"
      have eD : (frm bs xs).map PyData.int = (List.range (M.length - 1)).map fun i => PyData.int (stk (bs - 1) 0 (btw xs (M.getD i 0, M.getD (i + 1) 0))) := by
        rw [frm_nb, hM, nb_by, List.map_map]
        rfl
      rw [eD]
      refine ⟨_, rfl, ?_, ?_⟩
      · refine (rp_lst (rpa_all (m := 0) (k := 0) fun d hd => ?_)).mono ?_ (by omega)
        · obtain ⟨i, _, rfl⟩ := List.mem_map.mp hd
          refine rp_int (stk_bound (by omega) (by omega) (fun x hx' => ?_) ?_).2
          · have := hx x (List.mem_of_mem_drop (List.mem_of_mem_take hx'))
            omega
          · unfold btw
            rw [List.length_take, List.length_drop]
            omega
        · rw [List.length_map, List.length_range]
          omega
      · walk_at "pb"
        exact h
end
end Pb

set_option Elab.async false
set_option linter.all false
set_option maxRecDepth 100000
set_option maxHeartbeats 4000000
/-! PbAC: the law's tests: primes. -/
namespace Pb
open PySem PySem.Spec PyProof.Rows L2
section
variable {X : Cx} {C : Ct} {ρ : List Sl} {μ : List Ce} {n : Nat} {a b c : Expr} {pos : Pos} {Θ : Bool → Nat → Prop}
theorem et_chain {op op' : CmpOp} {r r' : Int → Int → Bool} (ho : OpR X (compareOp op) (rI0 fun i j => .bl (r i j))) (ho' : OpR X (compareOp op') (rI0 fun i j => .bl (r' i j)))
    (h : EX X C a ρ μ n fun d1 n1 => EX X C b ρ μ n1 fun d2 n2 => ∃ i j, d1 = .int i ∧ d2 = .int j ∧ if r i j = true then EX X C c ρ μ n2 fun d3 n3 => ∃ k, d3 = .int k ∧ ∃ b', PyData.bool (r' j k) = .bool b' ∧ Θ b' n3 else ∃ b', PyData.bool false = .bool b' ∧ Θ b' n2) (hm : lastMarks [op, op'] [b, c] = false := by with_unfolding_all rfl) :
    ET X C (.Compare a [op, op'] [b, c] pos) ρ μ n Θ := et_of (pt_chain ho ho' pe_can pe_can pe_can hm) (et_val (chain_core (Φ := fun d n' => ∃ b', d = .bool b' ∧ Θ b' n') (op := op) (op' := op') h))
end
def preT0 : Pre := fun as n Φ => as = [] ∧ Φ (.ok (.bool true)) n
/-- what is heard of a modulus -/
def prR (i : Nat) : PyData := if fitsI i = true then .tuple [.str "told", .bool true] else .tuple [.str "use", .str "modulus", .int (-1)]
theorem spo_hear {Φ : PyData → Nat → Prop} {n i : Nat} (h : Φ (prR i) n) : hear Φ (spoC (.int 1) (.int i)) n := by
  unfold prR at h
  by_cases hf : fitsI i = true
  · rw [if_pos hf] at h
    have h2 := fitsI_le hf
    rw [spoC_ok (by omega) hf]
    have e : (!decide ((1 : Int) % i = 0)) = true := by
      rw [Int.emod_eq_of_lt (by omega) (by omega)]
      rfl
    rw [e]
    exact h
  · rw [if_neg hf] at h
    have : spoC (.int 1) (.int i) = .er (.use "modulus" (-1)) := by
      unfold spoC
      rw [if_pos (show isNum (.int 1) = true from rfl), if_neg (show ¬ fitsM (.int i) = true from hf)]
      rfl
    rw [this]
    exact h
theorem shaped_nats (ns : List Nat) (g : Nat → Int) : SeqAt.shaped (.list (ns.map fun i => .int (g i))) = true := by
  have := shaped_ints (ns.map g)
  rw [List.map_map] at this
  exact this
theorem eqv_nats (ns : List Nat) (g : Nat → Int) : PyData.eqv (.list (ns.map fun i => .int (g i))) (.list []) = ns.isEmpty := by
  cases ns <;> simp [PyData.eqv, PyData.eqvAll]
local macro_rules | `(tactic| walk_at "pb v") => `(tactic| first
  | refine ex_v 0 rfl ?_ | refine ex_v 1 rfl ?_ | refine ex_v 2 rfl ?_ | refine ex_v 3 rfl ?_ | refine ex_v 4 rfl ?_ | refine ex_v 5 rfl ?_ | refine ex_v 6 rfl ?_ | refine ex_v 7 rfl ?_
  | refine ex_v 8 rfl ?_ | refine ex_v 9 rfl ?_ | refine ex_v 10 rfl ?_ | refine ex_v 11 rfl ?_ | refine ex_v 12 rfl ?_ | refine ex_v 13 rfl ?_ | refine ex_v 14 rfl ?_)
local macro_rules | `(tactic| walk_at "pb x") => `(tactic| first
  | refine ex_i ?_ | ((with_reducible show EX _ _ (Expr.Name _ _) _ _ _ _); walk_at "pb v") | refine ex_addJ ?_ | refine ex_sub ?_ | refine ex_s ?_ | refine ex_n ?_ | refine ex_b ?_ | refine ex_neg ?_
  | refine ex_mulJ ?_ | refine ex_mod ?_ | refine ex_div ?_ | refine ex_pow ?_ | refine ex_lt ?_ | refine ex_eq ?_ | refine ex_ne ?_ | refine ex_gt ?_ | refine ex_ge ?_ | ((fail_if_success (with_reducible show EX _ _ (Expr.Subscript _ (Expr.Constant (Const.str _) _ _) _) _ _ _ _)); refine ex_ixJ ?_)
  | refine ex_and ?_ | refine ex_or ?_ | refine ex_one ?_ | refine ex_not ?_ | refine ex_ite ?_ | refine ex_isInt ‹_› ?_ | refine ex_isBool ‹_› ?_ | refine ex_isTup ‹_› ?_)
local macro_rules | `(tactic| walk_at "pb t") => `(tactic| first
  | refine et_lt ?_ | refine et_eq ?_ | refine et_ne ?_ | refine et_le ?_ | refine et_gt ?_ | refine et_ge ?_ | refine et_nt ?_ | refine et_w (ew_and ?_) | refine et_w (ew_or ?_) | refine et_v ?_)
local macro_rules | `(tactic| walk_at "pb e") => `(tactic| first
  | ((with_reducible show EX _ _ _ _ _ _ _); walk_at "pb x")
  | with_reducible refine xi2 ?_ | with_reducible refine xi ?_ | with_reducible refine xb ?_ | with_reducible refine xsi ?_ | with_reducible refine xl ?_ | with_reducible refine xt ?_
  | with_reducible refine ifT ?_ | with_reducible refine ifF ?_ | with_reducible refine add_int ?_ | with_reducible refine ix_l ?_
  | with_reducible refine len_t ?_ | with_reducible refine len_l ?_ | with_reducible refine tup_t ?_ | with_reducible refine tup_l ?_
  | with_reducible refine nx_nxt ?_ | with_reducible refine rt_nxt ?_ | with_reducible refine er_nxt ?_ | with_reducible refine bk_nxt ?_ | with_reducible refine ct_nxt ?_ | with_reducible refine fin_rt ?_ | with_reducible refine fin_nx ?_ | with_reducible refine fin_er ?_ 
  | with_reducible refine nx_lp ?_ | with_reducible refine bk_lp ?_ | with_reducible refine ct_lp ?_ | with_reducible refine rt_lp ?_ | with_reducible refine er_lp ?_ | with_reducible refine okp_ok ?_
  | ((with_reducible show ET _ _ _ _ _ _ _); walk_at "pb t")
  | ((with_reducible show EW _ _ _ _ _ _ _); first | refine ew_and ?_ | refine ew_or ?_ | refine ew_and1 ?_ | refine ew_or1 ?_)
  | ((with_reducible show SB _ _ _ _ _ _ _); first | refine sb_cons ?_ | refine sb_nil ?_)
  | ((with_reducible show SX _ _ _ _ _ _ _); first | refine sx_ret ?_ | refine sx_if ?_)
  | ((with_reducible show EO _ _ _ _ _ _ _); first | refine eo_s ?_ | refine eo_n ?_)
  | ((with_reducible show EK _ _ _ _ _ _ _); first | refine ek_c ?_ | refine ek_0 ?_)
  | ((with_reducible show EA _ _ _ _ _ _ _); first | refine ea_c ?_ | refine ea_0 ?_))
local macro_rules | `(tactic| walk_at "pb") => `(tactic| repeat walk_at "pb e")
section
variable {P : Program} {w : World} {K : Frg} {mg : Str → Option Value} {base : Heap} {f : Addr} {fd : FuncData} {T : List (Addr × Str)} {k : Nat}
theorem sc61 : FnScope ["_law_told", "_law_due", "_law_prime", "_law_parts", "_law_part"] [] (defScope (top 61)) := ⟨rfl, rfl, rfl, by decide +kernel, rfl, by decide +kernel, by decide +kernel⟩
theorem g_primes (F : FnT K "_law_are_primes_right" 61 f fd) (b : Blt mg) (X : ExF K mg) (Hk : HeardK K mg) (ld : LmD K base mg T f "_law_are_primes_right.<locals>.<lambda>") (kp : KnP P w K mg base T k) (ks : KnG P w K mg base k "_law_same" ["_law_told", "_law_due"] (prom K T preSame)) :
    FnG P w K mg base (k + 3) f fd [] (promW K T preT0) := by
  refine fng_pw F sc61 (fun as n Φ ⟨h, _⟩ => by rw [h]; rfl) fun cdv A outer s H E C as n Φ hgd hr2 hl M hT hE hp => ?_
  have lm := lm_of (P := P) (w := w) (N := ["_law_told", "_law_due", "_law_prime", "_law_parts", "_law_part"]) (qual := "_law_are_primes_right") (sc := defScope (top 61)) (A := A) (outer := outer) (s := s) (H := H) (E := E) ld hl
  have hr := hr2.mono (Nat.le_add_right k 2)
  obtain ⟨rfl, h⟩ := hp
  walk_at "pb"
  refine sx_parLL 0 1 rfl sc61.nd (el_ls ?_)
  walk_at "pb"
  refine ⟨[], rfl, by simp, el_ls ?_⟩
  walk_at "pb"
  refine ⟨[], rfl, by simp, ?_⟩
  walk_at "pb"
  refine sx_for 2 rfl sc61.nd (wx_range1 b.range ?_)
  walk_at "pb"
  refine ⟨by omega, by omega, ?_⟩
  refine ⟨fun i ρ' μ' n' => ∃ u1 u2, ρ' = [.ce 0, .ce 1, u1, u2, .un] ∧ μ' = [.ls ((List.range i).map prR), .ls ((List.range i).map prR)] ∧ n' = n, ⟨.un, .un, rfl, rfl, rfl⟩, ?_, ?_⟩
  · rintro i _ _ n2 hi ⟨u1, u2, rfl, rfl, rfl⟩
    have hi : i < 310 := hi
    walk_at "pb"
    refine sx_app 0 0 rfl rfl (by rw [List.length_map, List.length_range]; omega) ?_
    refine ex_heard Hk X b M hT lm hr2 kp.spo (lea fun A' o' s' H' E' f' c' => ?_)
    walk_at "pb"
    refine ⟨_, _, rfl, trivial, spo_hear ?_⟩
    walk_at "pb"
    refine sx_lcN 3 4 rfl sc61.nd (lcP (wx_range2 b.range ?_))
    walk_at "pb"
    refine ⟨by omega, by omega, fun j => decide ((2 + j : Int) < i) && decide ((i : Int) % (2 + j : Int) = 0), fun j => .int (2 + j), fun j acc hj => btx1 fun s0 H0 C' cl fp => ?_, fun j acc hj _ => bex fun s0 H0 C' cl fp => ?_, ?_⟩
    · walk_at "pb"
      refine ifd (fun h1 => ?_) (fun h1 => ?_)
      · walk_at "pb"
        refine ex_int b.int ?_
        walk_at "pb"
        refine ⟨by omega, ?_⟩
        walk_at "pb"
        show _ = (decide ((2 + j : Int) < i) && decide ((i : Int) % (2 + j : Int) = 0)) ∧ _ = _
        rw [decide_eq_true h1, Bool.true_and]
        exact ⟨rfl, rfl⟩
      · show _ = (decide ((2 + j : Int) < i) && decide ((i : Int) % (2 + j : Int) = 0)) ∧ _ = _
        rw [decide_eq_false h1, Bool.false_and]
        exact ⟨rfl, rfl⟩
    · walk_at "pb"
      exact ⟨rfl, rfl⟩
    walk_at "pb"
    refine sx_app 1 1 rfl rfl (by rw [List.length_map, List.length_range]; omega) ?_
    refine Ev.imp (Φ := fun d n' => d = prR i ∧ n' = n2) ?_ fun d n' ⟨e, e'⟩ => ?_
    · have no : ∀ m, prR i = .tuple [.str "use", .str "modulus", .int (-1)] → m = n2 → EX (cxOf (L2.CX P w) P w K mg base ["_law_told", "_law_due", "_law_prime", "_law_parts", "_law_part"] "_law_are_primes_right" (defScope (top 61)) f cdv A outer s H E) C (.Constant .none 0 ⟨0, 0, 0, 0⟩) [] [] m (fun _ _ => True) := fun m _ _ => ex_n trivial
      have no2 : ∀ (ρ : List Sl) (μ : List Ce) (es : List Expr) (x1 : Nat) (ps : Pos), prR i = .tuple [.str "use", .str "modulus", .int (-1)] → EA (cxOf (L2.CX P w) P w K mg base ["_law_told", "_law_due", "_law_prime", "_law_parts", "_law_part"] "_law_are_primes_right" (defScope (top 61)) f cdv A outer s H E) C es ρ μ n2 (fun as n1 => as = [.da (.str "use"), .da (.str "modulus"), .da (.int (-1))] ∧ n1 = n2) → EX (cxOf (L2.CX P w) P w K mg base ["_law_told", "_law_due", "_law_prime", "_law_parts", "_law_part"] "_law_are_primes_right" (defScope (top 61)) f cdv A outer s H E) C (.Tuple es x1 ps) ρ μ n2 (fun d n' => d = prR i ∧ n' = n2) := fun ρ μ es x1 ps e h => ex_tup (fun ads σ B H Q r q => h ads σ B H Q r fun vs as B' H' n' e' r' p ⟨e1, e2⟩ => q vs as B' H' n' e' r' p ⟨[.str "use", .str "modulus", .int (-1)], e1, by simp, e.symm, e2⟩)
      refine ex_ite (et_w (ew_and (et_chain op_lt op_lt ?_)))
      walk_at "pb"
      refine ifd (fun h1 => ?_) (fun h1 => ?_)
      · walk_at "pb"
        by_cases h2 : (i : Int) < 300
        · rw [decide_eq_true h2]
          refine ifT ?_
          refine ew_and1 (et_eqD hr2.units ?_)
          walk_at "pb"
          refine ex_l (el_ls ?_)
          walk_at "pb"
          refine ⟨[], rfl, by simp, shaped_nats _ (fun j => 2 + (j : Int)), by decide, ?_⟩
          rw [eqv_nats _ (fun j => 2 + (j : Int))]
          have e16 : ((18 : Int) - 2).toNat = 16 := rfl
          rw [e16]
          have hfit : fitsI i = ((List.range 16).filter fun (j : Nat) => decide ((2 + (j : Int) : Int) < i) && decide ((i : Int) % (2 + (j : Int) : Int) = 0)).isEmpty := by
            unfold fitsI
            rw [decide_eq_true (show (2 : Int) ≤ i by omega), decide_eq_true h2, Bool.true_and, Bool.true_and, Bool.eq_iff_iff, List.isEmpty_iff, List.filter_eq_nil_iff, List.all_eq_true]
            refine ⟨fun z a ha hq => ?_, fun z a ha => ?_⟩
            · have := z a ha
              rw [hq] at this
              cases this
            · have := z a ha
              rw [Bool.not_eq_true] at this
              rw [this]
              rfl
          rw [← hfit]
          refine ifb (fun h3 => ?_) (fun h3 => ?_)
          · refine ex_tup ?_
            walk_at "pb"
            refine ⟨[.str "told", .bool true], rfl, by simp, ?_⟩
            unfold prR
            rw [if_pos h3]
            exact ⟨rfl, rfl⟩
          · refine no2 _ _ _ _ _ (by unfold prR; rw [if_neg (by rw [h3]; exact Bool.false_ne_true)]) ?_
            walk_at "pb"
            exact ⟨rfl, rfl⟩
        · rw [decide_eq_false h2]
          refine ifF ?_
          refine ifF ?_
          refine no2 _ _ _ _ _ (by unfold prR; rw [if_neg (fun z => by have := fitsI_le z; omega)]) ?_
          walk_at "pb"
          exact ⟨rfl, rfl⟩
      · walk_at "pb"
        refine no2 _ _ _ _ _ (by unfold prR; rw [if_neg (fun z => by have := fitsI_le z; omega)]) ?_
        walk_at "pb"
        exact ⟨rfl, rfl⟩
    subst e e'
    walk_at "pb"
    refine ⟨_, _, rfl, ?_, rfl⟩
    rw [List.range_succ, List.map_append]
    rfl
  · rintro _ _ _ ⟨u1, u2, rfl, rfl, rfl⟩
    walk_at "pb e"
    refine sv_frz 0 0 rfl rfl ?_
    refine sv_frz 1 1 rfl rfl ?_
    walk_at "pb"
    refine ex_g ks hgd hr hT ?_
    walk_at "pb"
    refine ⟨_, rfl, ?_, ?_⟩
    · refine (rp_lst (rpa_all (m := 30) (k := 2) fun d hd => ?_)).mono ?_ (by omega)
      · obtain ⟨i, _, rfl⟩ := List.mem_map.mp hd
        unfold prR
        split
        · exact ⟨by decide +kernel, by decide +kernel, by decide +kernel, by decide +kernel, by decide⟩
        · exact ⟨by decide +kernel, by decide +kernel, by decide +kernel, by decide +kernel, by decide⟩
      · rw [List.length_map, List.length_range]
        decide
    · walk_at "pb"
      exact ⟨_, rfl, h⟩
end
end Pb

set_option Elab.async false
set_option linter.all false
set_option maxRecDepth 100000
set_option maxHeartbeats 4000000
/-! PbAD: the law's tests: by hand. -/
namespace Pb
open PySem PySem.Spec PyProof.Rows L2
structure KnA (P : Program) (w : World) (K : Frg) (mg : Str → Option Value) (base : Heap) (T : List (Addr × Str)) (j : Nat) : Prop where
  ap : Kn P w K mg base T j "seen_apart" ["base", "modulus", "one", "other"] (pf4 (fun _ _ o r => Sm o ∧ Sm r) apart)
theorem okp_is {Φ : PyData → Nat → Prop} {n : Nat} {o : Ou} {d : PyData} (e : o = .ok d) (h : Φ d n) : okp Φ o n := by
  subst e
  exact h
theorem strm_hand : strm 4 [5, 0, 7] = [3, 0, 1, 3, 3, 1, 0, 3] := by
  have h5 : row (4 - 1) 5 = [0, 1] := row_stk (r := 3) (by omega) [1, 0] (by decide)
  have h7 : row (4 - 1) 7 = [1, 0] := row_stk (r := 3) (by omega) [0, 1] (by decide)
  have h0 : row (4 - 1) 0 = [] := row_zero (by omega)
  unfold strm
  rw [List.flatMap_cons, List.flatMap_cons, List.flatMap_cons, h5, h0, h7]
  rfl
section
variable {Φ : List PyData → Prop}
theorem xd0 (h : Φ []) : ∃ ds, ([] : List Ar) = ds.map .da ∧ ds.length ≤ 1000 ∧ Φ ds := ⟨[], rfl, by simp, h⟩
theorem xd1 {a0 : PyData} (h : Φ [a0]) : ∃ ds, ([.da a0] : List Ar) = ds.map .da ∧ ds.length ≤ 1000 ∧ Φ ds := ⟨[a0], rfl, by simp, h⟩
theorem xd2 {a0 a1 : PyData} (h : Φ [a0, a1]) : ∃ ds, ([.da a0, .da a1] : List Ar) = ds.map .da ∧ ds.length ≤ 1000 ∧ Φ ds := ⟨[a0, a1], rfl, by simp, h⟩
theorem xd3 {a0 a1 a2 : PyData} (h : Φ [a0, a1, a2]) : ∃ ds, ([.da a0, .da a1, .da a2] : List Ar) = ds.map .da ∧ ds.length ≤ 1000 ∧ Φ ds := ⟨[a0, a1, a2], rfl, by simp, h⟩
theorem xd4 {a0 a1 a2 a3 : PyData} (h : Φ [a0, a1, a2, a3]) : ∃ ds, ([.da a0, .da a1, .da a2, .da a3] : List Ar) = ds.map .da ∧ ds.length ≤ 1000 ∧ Φ ds := ⟨[a0, a1, a2, a3], rfl, by simp, h⟩
theorem xd5 {a0 a1 a2 a3 a4 : PyData} (h : Φ [a0, a1, a2, a3, a4]) : ∃ ds, ([.da a0, .da a1, .da a2, .da a3, .da a4] : List Ar) = ds.map .da ∧ ds.length ≤ 1000 ∧ Φ ds := ⟨[a0, a1, a2, a3, a4], rfl, by simp, h⟩
theorem xd6 {a0 a1 a2 a3 a4 a5 : PyData} (h : Φ [a0, a1, a2, a3, a4, a5]) : ∃ ds, ([.da a0, .da a1, .da a2, .da a3, .da a4, .da a5] : List Ar) = ds.map .da ∧ ds.length ≤ 1000 ∧ Φ ds := ⟨[a0, a1, a2, a3, a4, a5], rfl, by simp, h⟩
theorem xd7 {a0 a1 a2 a3 a4 a5 a6 : PyData} (h : Φ [a0, a1, a2, a3, a4, a5, a6]) : ∃ ds, ([.da a0, .da a1, .da a2, .da a3, .da a4, .da a5, .da a6] : List Ar) = ds.map .da ∧ ds.length ≤ 1000 ∧ Φ ds := ⟨[a0, a1, a2, a3, a4, a5, a6], rfl, by simp, h⟩
theorem xd8 {a0 a1 a2 a3 a4 a5 a6 a7 : PyData} (h : Φ [a0, a1, a2, a3, a4, a5, a6, a7]) : ∃ ds, ([.da a0, .da a1, .da a2, .da a3, .da a4, .da a5, .da a6, .da a7] : List Ar) = ds.map .da ∧ ds.length ≤ 1000 ∧ Φ ds := ⟨[a0, a1, a2, a3, a4, a5, a6, a7], rfl, by simp, h⟩
theorem xd9 {a0 a1 a2 a3 a4 a5 a6 a7 a8 : PyData} (h : Φ [a0, a1, a2, a3, a4, a5, a6, a7, a8]) : ∃ ds, ([.da a0, .da a1, .da a2, .da a3, .da a4, .da a5, .da a6, .da a7, .da a8] : List Ar) = ds.map .da ∧ ds.length ≤ 1000 ∧ Φ ds := ⟨[a0, a1, a2, a3, a4, a5, a6, a7, a8], rfl, by simp, h⟩
end
def ns (l : List Int) : PyData := .tuple (l.map .int)
local macro_rules | `(tactic| walk_at "pb v") => `(tactic| first
  | refine ex_v 0 rfl ?_ | refine ex_v 1 rfl ?_ | refine ex_v 2 rfl ?_ | refine ex_v 3 rfl ?_ | refine ex_v 4 rfl ?_ | refine ex_v 5 rfl ?_ | refine ex_v 6 rfl ?_ | refine ex_v 7 rfl ?_
  | refine ex_v 8 rfl ?_ | refine ex_v 9 rfl ?_ | refine ex_v 10 rfl ?_ | refine ex_v 11 rfl ?_ | refine ex_v 12 rfl ?_ | refine ex_v 13 rfl ?_ | refine ex_v 14 rfl ?_)
local macro_rules | `(tactic| walk_at "pb x") => `(tactic| first
  | refine ex_i ?_ | ((with_reducible show EX _ _ (Expr.Name _ _) _ _ _ _); walk_at "pb v") | refine ex_addJ ?_ | refine ex_sub ?_ | refine ex_s ?_ | refine ex_n ?_ | refine ex_b ?_ | refine ex_neg ?_
  | refine ex_mulJ ?_ | refine ex_mod ?_ | refine ex_div ?_ | refine ex_pow ?_ | refine ex_lt ?_ | refine ex_eq ?_ | refine ex_ne ?_ | refine ex_gt ?_ | refine ex_ge ?_ | ((fail_if_success (with_reducible show EX _ _ (Expr.Subscript _ (Expr.Constant (Const.str _) _ _) _) _ _ _ _)); refine ex_ixJ ?_)
  | refine ex_and ?_ | refine ex_or ?_ | refine ex_one ?_ | refine ex_not ?_ | refine ex_ite ?_ | refine ex_tup ?_ | refine ex_l (el_ls ?_) | refine ex_isInt ‹_› ?_ | refine ex_isBool ‹_› ?_ | refine ex_isTup ‹_› ?_)
local macro_rules | `(tactic| walk_at "pb t") => `(tactic| first
  | refine et_lt ?_ | refine et_eq ?_ | refine et_ne ?_ | refine et_le ?_ | refine et_gt ?_ | refine et_ge ?_ | refine et_nt ?_ | refine et_w (ew_and ?_) | refine et_w (ew_or ?_) | refine et_v ?_)
local macro_rules | `(tactic| walk_at "pb e") => `(tactic| first
  | ((with_reducible show EX _ _ _ _ _ _ _); walk_at "pb x")
  | with_reducible refine xi2 ?_ | with_reducible refine xi ?_ | with_reducible refine xb ?_ | with_reducible refine xsi ?_ | with_reducible refine xl ?_ | with_reducible refine xt ?_
  | with_reducible refine xd0 ?_ | with_reducible refine xd1 ?_ | with_reducible refine xd2 ?_ | with_reducible refine xd3 ?_ | with_reducible refine xd4 ?_ | with_reducible refine xd5 ?_ | with_reducible refine xd6 ?_ | with_reducible refine xd7 ?_ | with_reducible refine xd8 ?_ | with_reducible refine xd9 ?_ | with_reducible refine ifT ?_ | with_reducible refine ifF ?_ | with_reducible refine add_int ?_ | with_reducible refine ix_l ?_
  | with_reducible refine len_t ?_ | with_reducible refine len_l ?_ | with_reducible refine tup_t ?_ | with_reducible refine tup_l ?_
  | with_reducible refine nx_nxt ?_ | with_reducible refine rt_nxt ?_ | with_reducible refine er_nxt ?_ | with_reducible refine bk_nxt ?_ | with_reducible refine ct_nxt ?_ | with_reducible refine fin_rt ?_ | with_reducible refine fin_nx ?_ | with_reducible refine fin_er ?_ 
  | with_reducible refine nx_lp ?_ | with_reducible refine bk_lp ?_ | with_reducible refine ct_lp ?_ | with_reducible refine rt_lp ?_ | with_reducible refine er_lp ?_ | with_reducible refine okp_ok ?_
  | ((with_reducible show ET _ _ _ _ _ _ _); walk_at "pb t")
  | ((with_reducible show EW _ _ _ _ _ _ _); first | refine ew_and ?_ | refine ew_or ?_ | refine ew_and1 ?_ | refine ew_or1 ?_)
  | ((with_reducible show SB _ _ _ _ _ _ _); first | refine sb_cons ?_ | refine sb_nil ?_)
  | ((with_reducible show SX _ _ _ _ _ _ _); first | refine sx_ret ?_ | refine sx_if ?_)
  | ((with_reducible show EO _ _ _ _ _ _ _); first | refine eo_s ?_ | refine eo_n ?_)
  | ((with_reducible show EK _ _ _ _ _ _ _); first | refine ek_c ?_ | refine ek_0 ?_)
  | ((with_reducible show EA _ _ _ _ _ _ _); first | refine ea_c ?_ | refine ea_0 ?_))
local macro_rules | `(tactic| walk_at "pb") => `(tactic| repeat walk_at "pb e")
section
variable {P : Program} {w : World} {K : Frg} {mg : Str → Option Value} {base : Heap} {f : Addr} {fd : FuncData} {T : List (Addr × Str)} {k : Nat}
theorem sc62 : FnScope ["_law_tape_here", "_law_told", "_law_due", "_law_few"] [] (defScope (top 62)) := ⟨rfl, rfl, rfl, by decide +kernel, rfl, by decide +kernel, by decide +kernel⟩
theorem g_hand (F : FnT K "_law_are_hand_right" 62 f fd) (b : Blt mg) (kp : KnP P w K mg base T k) (kf : KnF P w K mg base T k) (ka : KnA P w K mg base T k) (ks : KnG P w K mg base k "_law_same" ["_law_told", "_law_due"] (prom K T preSame)) :
    FnG P w K mg base (k + 1) f fd [] (prom K T preT0) := by
  refine fng_pb F sc62 (fun as n Φ ⟨h, _⟩ => by rw [h]; rfl) fun cdv A outer s H E fa B as n Φ hgd hr hp => ?_
  obtain ⟨rfl, h⟩ := hp
  walk_at "pb"
  refine sx_asg 0 sc62.nd ?_
  walk_at "pb"
  refine sx_asg 1 sc62.nd (ex_l (el_ls ?_))
  refine ea_c (ex_call kp.push hr rfl ?_)
  walk_at "pb"
  refine ⟨_, _, rfl, trivial, okp_is (d := .int 35) (by kernel_rfl) ?_⟩
  refine ea_c (ex_call kp.pop hr rfl ?_)
  walk_at "pb"
  refine ⟨_, _, rfl, trivial, okp_is (d := .int 5) (by kernel_rfl) ?_⟩
  refine ea_c (ex_call kp.spo hr rfl ?_)
  walk_at "pb"
  refine ⟨_, _, rfl, trivial, okp_is (d := .bool false) (by kernel_rfl) ?_⟩
  refine ea_c (ex_call kp.pop hr rfl ?_)
  walk_at "pb"
  refine ⟨_, _, rfl, trivial, okp_is (d := .int 0) (by kernel_rfl) ?_⟩
  refine ea_c (ex_call kf.stream hr rfl ?_)
  walk_at "pb"
  have eS : streamF (.int 4) (.tuple [.int 5, .int 0, .int 7]) = .ok (itup (strm 4 [5, 0, 7])) := by
    unfold streamF
    rw [if_pos (show isB3 (.int 4) = true by decide), if_pos (show isNums (.tuple [.int 5, .int 0, .int 7]) = true by decide)]
    rfl
  refine ⟨_, _, rfl, ⟨by show 3 ≤ 100000; decide, by show (strm 4 [5, 0, 7]).length ≤ 100000; rw [strm_hand]; decide⟩, okp_is (d := .tuple [.int 3, .int 0, .int 1, .int 3, .int 3, .int 1, .int 0, .int 3]) (by rw [eS, strm_hand]; rfl) ?_⟩
  walk_at "pb"
  refine sx_asg 2 sc62.nd ?_
  walk_at "pb"
  refine sx_asg 1 sc62.nd ?_
  refine ex_addJ ?_
  walk_at "pb e"
  refine ex_l (el_ls ?_)
  refine ea_c (ex_call kf.starts hr rfl ?_)
  walk_at "pb"
  refine ⟨_, _, rfl, by show 8 ≤ 100000; decide, okp_is (d := .tuple [.int 0, .int 3, .int 4, .int 7]) (by kernel_rfl) ?_⟩
  refine ea_c (ex_call kf.short hr rfl ?_)
  walk_at "pb"
  refine ⟨_, _, _, rfl, by show 8 ≤ 100000; decide, okp_is (d := .int 2) (by kernel_rfl) ?_⟩
  refine ea_c (ex_call kf.frames hr rfl ?_)
  walk_at "pb"
  refine ⟨_, _, rfl, by show 7 ≤ 100000; decide, okp_is (d := .list [.int 0, .int 7]) (by kernel_rfl) ?_⟩
  walk_at "pb"
  refine add_lst (by simp) ?_
  walk_at "pb"
  refine sx_asg 2 sc62.nd ?_
  walk_at "pb"
  refine add_lst (by simp) ?_
  walk_at "pb"
  refine sx_asgL 1 sc62.nd (el_addL ?_)
  walk_at "pb e"
  refine ex_l (el_ls ?_)
  refine ea_c (ex_call kf.stream hr rfl ?_)
  walk_at "pb"
  have eS0 : streamF (.int 3) (.tuple []) = .ok (.tuple [.int 2]) := by kernel_rfl
  refine ⟨_, _, rfl, ⟨by show 0 ≤ 100000; decide, by show (strm 3 []).length ≤ 100000; decide⟩, okp_is eS0 ?_⟩
  refine ea_c (ex_call kf.starts hr rfl ?_)
  walk_at "pb"
  refine ⟨_, _, rfl, by show 1 ≤ 100000; decide, okp_is (d := .tuple [.int 0]) (by kernel_rfl) ?_⟩
  refine ea_c (ex_call kf.frames hr rfl ?_)
  walk_at "pb"
  refine ⟨_, _, rfl, by show 3 ≤ 100000; decide, okp_is (d := .list [.int 0, .int 0]) (by kernel_rfl) ?_⟩
  refine ea_c (ex_call kf.frames hr rfl ?_)
  walk_at "pb"
  refine ⟨_, _, rfl, by show 0 ≤ 100000; decide, okp_is (d := .list []) (by kernel_rfl) ?_⟩
  walk_at "pb"
  refine ⟨_, _, rfl, rfl, by simp, ?_⟩
  walk_at "pb"
  refine sx_app 1 0 rfl rfl (by simp) ?_
  refine ex_call kf.frames hr rfl ?_
  walk_at "pb"
  refine ⟨_, _, rfl, by show 1 ≤ 100000; decide, okp_is (d := .list []) (by kernel_rfl) ?_⟩
  walk_at "pb e"
  refine sv_frz 1 0 rfl rfl ?_
  walk_at "pb"
  refine sx_asg 2 sc62.nd ?_
  walk_at "pb"
  refine add_lst (by simp) ?_
  walk_at "pb"
  refine sx_asg 1 sc62.nd ?_
  refine ex_addJ ?_
  walk_at "pb e"
  refine ex_l (el_ls ?_)
  refine ea_c (ex_call kf.frames hr rfl ?_)
  walk_at "pb"
  refine ⟨_, _, rfl, by show 3 ≤ 100000; decide, okp_is (d := .list []) (by kernel_rfl) ?_⟩
  refine ea_c (ex_call kf.frames hr rfl ?_)
  walk_at "pb"
  refine ⟨_, _, rfl, by show 4 ≤ 100000; decide, okp_is (d := .list [.int 1]) (by kernel_rfl) ?_⟩
  refine ea_c (ex_call kf.frames hr rfl ?_)
  walk_at "pb"
  refine ⟨_, _, rfl, by show 3 ≤ 100000; decide, okp_is (d := .list [.int 255]) (by kernel_rfl) ?_⟩
  walk_at "pb"
  refine add_lst (by simp) ?_
  walk_at "pb"
  refine sx_asg 2 sc62.nd ?_
  walk_at "pb"
  refine add_lst (by simp) ?_
  walk_at "pb"
  refine sx_asg 1 sc62.nd ?_
  refine ex_addJ (ex_addJ ?_)
  walk_at "pb e"
  refine ex_l (el_lcN 3 rfl sc62.nd (lcP (wx_tup ?_)))
  walk_at "pb"
  refine ⟨by simp, fun _ => true, fun i => ([.int 1, .int 1, .int 2] : List PyData).getD i .none, fun _ _ _ => btx0 ⟨rfl, rfl⟩, fun i acc hi _ => bex fun s0 H0 C' cl fp => ?_, ?_⟩
  · refine ex_call kf.short hr rfl ?_
    walk_at "pb"
    have hi3 : i = 0 ∨ i = 1 ∨ i = 2 := by
      have : i < 3 := hi
      omega
    refine ⟨_, _, _, rfl, by show 4 ≤ 100000; decide, okp_is (d := ([.int 1, .int 1, .int 2] : List PyData).getD i .none) ?_ ⟨rfl, rfl⟩⟩
    rcases hi3 with rfl | rfl | rfl <;> kernel_rfl
  refine add_lst (es := [.int 1, .int 1, .int 2]) (by simp) ?_
  refine ex_l (el_ls ?_)
  refine ea_c (ex_call kf.short hr rfl ?_)
  walk_at "pb"
  refine ⟨_, _, _, rfl, by show 4 ≤ 100000; decide, okp_is (d := .int 1) (by kernel_rfl) ?_⟩
  walk_at "pb"
  refine add_lst (by simp) ?_
  walk_at "pb"
  refine sx_asg 2 sc62.nd ?_
  walk_at "pb"
  refine add_lst (by simp) ?_
  walk_at "pb"
  refine sx_asg 1 sc62.nd ?_
  refine ex_addJ ?_
  walk_at "pb e"
  refine ex_l (el_ls ?_)
  refine ea_c (ex_call ka.ap hr rfl ?_)
  walk_at "pb"
  refine ⟨_, _, _, _, rfl, ⟨by show 3 ≤ 100000; decide, by show 3 ≤ 100000; decide⟩, okp_is (d := .bool false) (by kernel_rfl) ?_⟩
  refine ea_c (ex_call ka.ap hr rfl ?_)
  walk_at "pb"
  refine ⟨_, _, _, _, rfl, ⟨by show 2 ≤ 100000; decide, by show 2 ≤ 100000; decide⟩, okp_is (d := .bool true) (by kernel_rfl) ?_⟩
  refine ea_c (ex_call ka.ap hr rfl ?_)
  walk_at "pb"
  refine ⟨_, _, _, _, rfl, ⟨by show 0 ≤ 100000; decide, by show 0 ≤ 100000; decide⟩, okp_is (d := .bool false) (by kernel_rfl) ?_⟩
  walk_at "pb"
  refine add_lst (by simp) ?_
  walk_at "pb"
  refine sx_asg 2 sc62.nd ?_
  walk_at "pb"
  refine add_lst (by simp) ?_
  walk_at "pb"
  refine sx_asgL 1 sc62.nd (el_addL ?_)
  walk_at "pb e"
  refine ex_l (el_ls ?_)
  refine ea_c (ex_call ka.ap hr rfl ?_)
  walk_at "pb"
  refine ⟨_, _, _, _, rfl, ⟨by show 2 ≤ 100000; decide, by show 2 ≤ 100000; decide⟩, okp_is (d := .bool false) (by kernel_rfl) ?_⟩
  refine ea_c (ex_call ka.ap hr rfl ?_)
  walk_at "pb"
  refine ⟨_, _, _, _, rfl, ⟨by show 2 ≤ 100000; decide, by show 2 ≤ 100000; decide⟩, okp_is (d := .bool true) (by kernel_rfl) ?_⟩
  walk_at "pb"
  refine ⟨_, _, rfl, rfl, by simp, ?_⟩
  walk_at "pb"
  refine sx_app 1 1 rfl rfl (by simp) ?_
  refine ex_call ka.ap hr rfl ?_
  walk_at "pb"
  refine ⟨_, _, _, _, rfl, ⟨by show 2 ≤ 100000; decide, by show 2 ≤ 100000; decide⟩, okp_is (d := .bool false) (by kernel_rfl) ?_⟩
  walk_at "pb e"
  refine sv_frz 1 1 rfl rfl ?_
  walk_at "pb"
  refine ex_g ks hgd hr rfl ?_
  walk_at "pb"
  refine add_lst (by simp) ?_
  walk_at "pb"
  refine ⟨[.int 35, .int 5, .bool false, .int 0, .tuple [.int 3, .int 0, .int 1, .int 3, .int 3, .int 1, .int 0, .int 3], .tuple [.int 0, .int 3, .int 4, .int 7], .int 2, .list [.int 0, .int 7], .tuple [.int 2], .tuple [.int 0], .list [.int 0, .int 0], .list [], .list [], .list [], .list [.int 1], .list [.int 255], .int 1, .int 1, .int 2, .int 1, .bool false, .bool true, .bool false, .bool false, .bool true, .bool false], ?_, ?_, okp_ok ?_⟩
  · first | kernel_rfl | rfl
  · refine ⟨?_, ?_, ?_, ?_, ?_⟩ <;> first | decide +kernel | kernel_rfl
  walk_at "pb"
  exact h
end
end Pb

set_option Elab.async false
set_option linter.all false
set_option maxRecDepth 100000
set_option maxHeartbeats 4000000
/-! PbAE: the law's tests: checks refused. -/
namespace Pb
open PySem PySem.Spec PyProof.Rows L2
section
variable {Φ : List PyData → Prop}
theorem xd10 {a0 a1 a2 a3 a4 a5 a6 a7 a8 a9 : PyData} (h : Φ [a0, a1, a2, a3, a4, a5, a6, a7, a8, a9]) : ∃ ds, ([.da a0, .da a1, .da a2, .da a3, .da a4, .da a5, .da a6, .da a7, .da a8, .da a9] : List Ar) = ds.map .da ∧ ds.length ≤ 1000 ∧ Φ ds := ⟨[a0, a1, a2, a3, a4, a5, a6, a7, a8, a9], rfl, by simp, h⟩
theorem xd11 {a0 a1 a2 a3 a4 a5 a6 a7 a8 a9 a10 : PyData} (h : Φ [a0, a1, a2, a3, a4, a5, a6, a7, a8, a9, a10]) : ∃ ds, ([.da a0, .da a1, .da a2, .da a3, .da a4, .da a5, .da a6, .da a7, .da a8, .da a9, .da a10] : List Ar) = ds.map .da ∧ ds.length ≤ 1000 ∧ Φ ds := ⟨[a0, a1, a2, a3, a4, a5, a6, a7, a8, a9, a10], rfl, by simp, h⟩
theorem xd12 {a0 a1 a2 a3 a4 a5 a6 a7 a8 a9 a10 a11 : PyData} (h : Φ [a0, a1, a2, a3, a4, a5, a6, a7, a8, a9, a10, a11]) : ∃ ds, ([.da a0, .da a1, .da a2, .da a3, .da a4, .da a5, .da a6, .da a7, .da a8, .da a9, .da a10, .da a11] : List Ar) = ds.map .da ∧ ds.length ≤ 1000 ∧ Φ ds := ⟨[a0, a1, a2, a3, a4, a5, a6, a7, a8, a9, a10, a11], rfl, by simp, h⟩
theorem xd13 {a0 a1 a2 a3 a4 a5 a6 a7 a8 a9 a10 a11 a12 : PyData} (h : Φ [a0, a1, a2, a3, a4, a5, a6, a7, a8, a9, a10, a11, a12]) : ∃ ds, ([.da a0, .da a1, .da a2, .da a3, .da a4, .da a5, .da a6, .da a7, .da a8, .da a9, .da a10, .da a11, .da a12] : List Ar) = ds.map .da ∧ ds.length ≤ 1000 ∧ Φ ds := ⟨[a0, a1, a2, a3, a4, a5, a6, a7, a8, a9, a10, a11, a12], rfl, by simp, h⟩
theorem xd14 {a0 a1 a2 a3 a4 a5 a6 a7 a8 a9 a10 a11 a12 a13 : PyData} (h : Φ [a0, a1, a2, a3, a4, a5, a6, a7, a8, a9, a10, a11, a12, a13]) : ∃ ds, ([.da a0, .da a1, .da a2, .da a3, .da a4, .da a5, .da a6, .da a7, .da a8, .da a9, .da a10, .da a11, .da a12, .da a13] : List Ar) = ds.map .da ∧ ds.length ≤ 1000 ∧ Φ ds := ⟨[a0, a1, a2, a3, a4, a5, a6, a7, a8, a9, a10, a11, a12, a13], rfl, by simp, h⟩
end

theorem ix_any {Φ : PyData → Nat → Prop} {n : Nat} {ds : List PyData} {v : Int} (h0 : 0 ≤ v) (hl : 0 < ds.length) (h : ∀ d, d ∈ ds → Φ d n) : 0 < (ds.length : Int) ∧ PIx Φ n (.list ds) (.int (v % (ds.length : Int))) := by
  have hp : 0 < (ds.length : Int) := by omega
  have h1 : 0 ≤ v % (ds.length : Int) := Int.emod_nonneg _ (by omega)
  have h2 : v % (ds.length : Int) < ds.length := Int.emod_lt_of_pos _ hp
  exact ⟨hp, ix_li h1 (List.getElem?_eq_getElem (by omega)) (h _ (List.getElem_mem (by omega)))⟩
theorem mul_rep3 {Φ : PyData → Nat → Prop} {n : Nat} {d : PyData} (h : Φ (.list [d, d, d]) n) : PMul Φ n (.list [d]) (.int 3) := ⟨by omega, by omega, by simp, h⟩
theorem rng_map (l : List Str) (g : Str → PyData) : ((List.range l.length).filter fun _ => true).map (fun i => g (l.getD i "")) = l.map g := by
  rw [List.filter_eq_self.mpr fun _ _ => rfl]
  refine List.ext_getElem (by simp) fun i h1 h2 => ?_
  have hi : i < l.length := by simpa using h2
  simp [hi]
def U (w : Str) : PyData := .tuple [.str "use", .str w, .int (-1)]
theorem hear_use {Φ : PyData → Nat → Prop} {o : Ou} {w : Str} {n : Nat} (e : o = use w) (h : Φ (U w) n) : hear Φ o n := by
  subst e
  exact h
theorem ix_mem {ds : List PyData} {i : Int} (h0 : 0 ≤ i) (h1 : i < ds.length) : ∃ d, d ∈ ds ∧ ds[i.toNat]? = some d :=
  ⟨_, List.getElem_mem (by omega), List.getElem?_eq_getElem (by omega)⟩
theorem push_s {s m : PyData} (h : isNum s = false) : pushC s m = use "stack" := by simp [pushC, h]
theorem pop_s {s m : PyData} (h : isNum s = false) : popC s m = use "stack" := by simp [popC, h]
theorem spo_s {s m : PyData} (h : isNum s = false) : spoC s m = use "stack" := by simp [spoC, h]
theorem push_m {s m : PyData} (h0 : isNum s = true) (h : fitsM m = false) : pushC s m = use "modulus" := by simp [pushC, h0, h]
theorem pop_m {s m : PyData} (h0 : isNum s = true) (h : fitsM m = false) : popC s m = use "modulus" := by simp [popC, h0, h]
theorem spo_m {s m : PyData} (h0 : isNum s = true) (h : fitsM m = false) : spoC s m = use "modulus" := by simp [spoC, h0, h]
theorem ap_b {b m o r : PyData} (h : isB3 b = false) : apart b m o r = use "base" := by simp [apart, h]
theorem ap_m {b m o r : PyData} (h0 : isB3 b = true) (h : fitsM m = false) : apart b m o r = use "modulus" := by simp [apart, h0, h]
theorem ap_o {b m o r : PyData} (h0 : isB3 b = true) (h1 : fitsM m = true) (h : isDig (toI b - 1) o = false) : apart b m o r = use "one" := by simp [apart, h0, h1, h]
theorem ap_r {b m o r : PyData} (h0 : isB3 b = true) (h1 : fitsM m = true) (h2 : isDig (toI b - 1) o = true) (h : (isDig (toI b - 1) r && decide ((toL r).length = (toL o).length)) = false) : apart b m o r = use "other" := by
  unfold apart
  rw [if_pos h0, if_pos h1, if_pos h2, h, if_neg Bool.false_ne_true]
def preOdd : Pre := fun as n Φ => ∃ v : Int, as = [.da (.int v)] ∧ 0 ≤ v ∧ v ≤ 1000 ∧ Φ (.ok (.bool true)) n
def W63 : List Str := ["stack", "stack", "stack", "modulus", "modulus", "modulus", "base", "modulus", "one", "other"]
def Ws (W : List Str) : Nat → List Str
  | 0 => []
  | i + 1 => Ws W i ++ W
theorem Ws_len (W : List Str) : ∀ i, (Ws W i).length = i * W.length
  | 0 => by simp [Ws]
  | i + 1 => by rw [Ws, List.length_append, Ws_len W i, Nat.succ_mul]
theorem Ws_mem (W : List Str) {x : Str} : ∀ i, x ∈ Ws W i → x ∈ W
  | 0, h => absurd h (List.not_mem_nil)
  | i + 1, h => (List.mem_append.mp h).elim (Ws_mem W i) id
theorem rpU {w : Str} (h : w ∈ (["stack", "modulus", "base", "one", "other", "stacks", "scrap", "stream", "many"] : List Str)) : Rp 60 2 (U w) := by
  simp only [List.mem_cons, List.not_mem_nil, or_false] at h
  rcases h with rfl | rfl | rfl | rfl | rfl | rfl | rfl | rfl | rfl <;> exact ⟨by decide +kernel, rfl, rfl, by decide +kernel, by decide⟩
theorem rpUs {L : List Str} (hl : L.length ≤ 100) (h : ∀ w, w ∈ L → w ∈ (["stack", "modulus", "base", "one", "other", "stacks", "scrap", "stream", "many"] : List Str)) : Rp 100000 50 (.list (L.map U)) := by
  refine (rp_lst (rpa_all (m := 60) (k := 2) fun d hd => ?_)).mono ?_ (by omega)
  · obtain ⟨x, hx, rfl⟩ := List.mem_map.mp hd
    exact rpU (h x hx)
  · rw [List.length_map]
    omega
local macro_rules | `(tactic| walk_at "pb v") => `(tactic| first
  | refine ex_v 0 rfl ?_ | refine ex_v 1 rfl ?_ | refine ex_v 2 rfl ?_ | refine ex_v 3 rfl ?_ | refine ex_v 4 rfl ?_ | refine ex_v 5 rfl ?_ | refine ex_v 6 rfl ?_ | refine ex_v 7 rfl ?_
  | refine ex_v 8 rfl ?_ | refine ex_v 9 rfl ?_ | refine ex_v 10 rfl ?_ | refine ex_v 11 rfl ?_ | refine ex_v 12 rfl ?_ | refine ex_v 13 rfl ?_ | refine ex_v 14 rfl ?_)
local macro_rules | `(tactic| walk_at "pb x") => `(tactic| first
  | refine ex_i ?_ | ((with_reducible show EX _ _ (Expr.Name _ _) _ _ _ _); walk_at "pb v") | refine ex_addJ ?_ | refine ex_sub ?_ | refine ex_s ?_ | refine ex_n ?_ | refine ex_b ?_ | refine ex_neg ?_
  | refine ex_mulJ ?_ | refine ex_mod ?_ | refine ex_div ?_ | refine ex_pow ?_ | refine ex_lt ?_ | refine ex_eq ?_ | refine ex_ne ?_ | refine ex_gt ?_ | refine ex_ge ?_ | ((fail_if_success (with_reducible show EX _ _ (Expr.Subscript _ (Expr.Constant (Const.str _) _ _) _) _ _ _ _)); refine ex_ixJ ?_)
  | refine ex_and ?_ | refine ex_or ?_ | refine ex_one ?_ | refine ex_not ?_ | refine ex_ite ?_ | refine ex_tup ?_ | refine ex_l (el_ls ?_) | refine ex_isInt ‹_› ?_ | refine ex_isBool ‹_› ?_ | refine ex_isTup ‹_› ?_)
local macro_rules | `(tactic| walk_at "pb t") => `(tactic| first
  | refine et_lt ?_ | refine et_eq ?_ | refine et_ne ?_ | refine et_le ?_ | refine et_gt ?_ | refine et_ge ?_ | refine et_nt ?_ | refine et_w (ew_and ?_) | refine et_w (ew_or ?_) | refine et_v ?_)
local macro_rules | `(tactic| walk_at "pb e") => `(tactic| first
  | ((with_reducible show EX _ _ _ _ _ _ _); walk_at "pb x")
  | with_reducible refine xi2 ?_ | with_reducible refine xi ?_ | with_reducible refine xb ?_ | with_reducible refine xsi ?_ | with_reducible refine xl ?_ | with_reducible refine xt ?_
  | with_reducible refine xd0 ?_ | with_reducible refine xd1 ?_ | with_reducible refine xd2 ?_ | with_reducible refine xd3 ?_ | with_reducible refine xd4 ?_ | with_reducible refine xd5 ?_ | with_reducible refine xd6 ?_ | with_reducible refine xd7 ?_ | with_reducible refine xd8 ?_ | with_reducible refine xd9 ?_ | with_reducible refine xd10 ?_ | with_reducible refine xd11 ?_ | with_reducible refine xd12 ?_ | with_reducible refine xd13 ?_ | with_reducible refine xd14 ?_ | with_reducible refine ifT ?_ | with_reducible refine ifF ?_ | with_reducible refine add_int ?_ | with_reducible refine ix_l ?_
  | with_reducible refine len_t ?_ | with_reducible refine len_l ?_ | with_reducible refine tup_t ?_ | with_reducible refine tup_l ?_
  | with_reducible refine nx_nxt ?_ | with_reducible refine rt_nxt ?_ | with_reducible refine er_nxt ?_ | with_reducible refine bk_nxt ?_ | with_reducible refine ct_nxt ?_ | with_reducible refine fin_rt ?_ | with_reducible refine fin_nx ?_ | with_reducible refine fin_er ?_ 
  | with_reducible refine nx_lp ?_ | with_reducible refine bk_lp ?_ | with_reducible refine ct_lp ?_ | with_reducible refine rt_lp ?_ | with_reducible refine er_lp ?_ | with_reducible refine okp_ok ?_
  | ((with_reducible show ET _ _ _ _ _ _ _); walk_at "pb t")
  | ((with_reducible show EW _ _ _ _ _ _ _); first | refine ew_and ?_ | refine ew_or ?_ | refine ew_and1 ?_ | refine ew_or1 ?_)
  | ((with_reducible show SB _ _ _ _ _ _ _); first | refine sb_cons ?_ | refine sb_nil ?_)
  | ((with_reducible show SX _ _ _ _ _ _ _); first | refine sx_ret ?_ | refine sx_if ?_)
  | ((with_reducible show EO _ _ _ _ _ _ _); first | refine eo_s ?_ | refine eo_n ?_)
  | ((with_reducible show EK _ _ _ _ _ _ _); first | refine ek_c ?_ | refine ek_0 ?_)
  | ((with_reducible show EA _ _ _ _ _ _ _); first | refine ea_c ?_ | refine ea_0 ?_))
local macro_rules | `(tactic| walk_at "pb") => `(tactic| repeat walk_at "pb e")
section
variable {P : Program} {w : World} {K : Frg} {mg : Str → Option Value} {base : Heap} {f : Addr} {fd : FuncData} {T : List (Addr × Str)} {k : Nat}
theorem sc63 : FnScope ["_law_start", "_law_stacks_here", "_law_primes", "_law_bases", "_law_bodies", "_law_told", "_law_due", "_law_k", "_law_turn", "_law_heap_here", "_law_prime", "_law_base", "_law_body", "_law_word"] ["_law_start"] (defScope (top 63)) := ⟨rfl, rfl, rfl, by decide +kernel, rfl, by decide +kernel, by decide +kernel⟩
theorem g_codds (F : FnT K "_law_are_check_odds_refused" 63 f fd) (b : Blt mg) (X : ExF K mg) (Hk : HeardK K mg) (ld : LmD K base mg T f "_law_are_check_odds_refused.<locals>.<lambda>") (kp : KnP P w K mg base T k) (ka : KnA P w K mg base T k) (ks : KnG P w K mg base k "_law_same" ["_law_told", "_law_due"] (prom K T preSame)) :
    FnG P w K mg base (k + 3) f fd ["_law_start"] (promW K T preOdd) := by
  refine fng_pw F sc63 (fun as n Φ ⟨_, h, _⟩ => by rw [h]; rfl) fun cdv A outer s H E C as n Φ hgd hr2 hl M hT hE hp => ?_
  have lm := lm_of (P := P) (w := w) (N := ["_law_start", "_law_stacks_here", "_law_primes", "_law_bases", "_law_bodies", "_law_told", "_law_due", "_law_k", "_law_turn", "_law_heap_here", "_law_prime", "_law_base", "_law_body", "_law_word"]) (qual := "_law_are_check_odds_refused") (sc := defScope (top 63)) (A := A) (outer := outer) (s := s) (H := H) (E := E) ld hl
  have hr := hr2.mono (Nat.le_add_right k 2)
  obtain ⟨st, rfl, hs0, hs1, h⟩ := hp
  walk_at "pb"
  refine sx_asg 1 sc63.nd ?_
  walk_at "pb"
  refine sx_asg 2 sc63.nd ?_
  walk_at "pb"
  refine sx_asg 3 sc63.nd ?_
  walk_at "pb"
  refine sx_asg 4 sc63.nd ?_
  walk_at "pb"
  refine sx_parLL 5 6 rfl sc63.nd (el_ls ?_)
  walk_at "pb"
  refine el_ls ?_
  walk_at "pb e"
  walk_at "pb e"
  walk_at "pb e"
  refine sv_frz 6 1 rfl rfl ?_
  walk_at "pb e"
  refine sx_for 7 rfl sc63.nd (wx_range1 b.range ?_)
  walk_at "pb"
  refine ⟨by omega, by omega, ?_⟩
  generalize hS : ([.none, .int (-1), .bool true, .str "1", .list [.int 1], .tuple [.int 1], .bool false] : List PyData) = S
  generalize hPm : ([.none, .int 0, .int 1, .int 4, .int 9, .int 289, .int 299, .int 300, .int 307, .bool true, .str "2", .int (-3), .tuple [.int 2], .int 25] : List PyData) = Pm
  generalize hBs : ([.none, .int 2, .int 1, .int 0, .int 257, .bool true, .str "3", .int (-3), .tuple [.int 3], .list [.int 3]] : List PyData) = Bs
  generalize hBd : ([.none, .list [.int 0], .tuple [.int 0, .int 2], .tuple [.bool true, .int 0], .tuple [.int (-1), .int 0], .int 0, .str "00", .tuple [.tuple [.int 0]], .tuple [.int 0, .none]] : List PyData) = Bd
  have fS : S.length = 7 ∧ ∀ d ∈ S, isNum d = false := by
    rw [← hS]
    refine ⟨rfl, fun d hd => ?_⟩
    simp only [List.mem_cons, List.not_mem_nil, or_false] at hd
    rcases hd with rfl | rfl | rfl | rfl | rfl | rfl | rfl <;> decide +kernel
  have fPm : Pm.length = 14 ∧ ∀ d ∈ Pm, fitsM d = false := by
    rw [← hPm]
    refine ⟨rfl, fun d hd => ?_⟩
    simp only [List.mem_cons, List.not_mem_nil, or_false] at hd
    rcases hd with rfl | rfl | rfl | rfl | rfl | rfl | rfl | rfl | rfl | rfl | rfl | rfl | rfl | rfl <;> decide +kernel
  have fBs : Bs.length = 10 ∧ ∀ d ∈ Bs, isB3 d = false := by
    rw [← hBs]
    refine ⟨rfl, fun d hd => ?_⟩
    simp only [List.mem_cons, List.not_mem_nil, or_false] at hd
    rcases hd with rfl | rfl | rfl | rfl | rfl | rfl | rfl | rfl | rfl | rfl <;> decide +kernel
  have fBd : Bd.length = 9 ∧ ∀ d ∈ Bd, isDig 2 d = false ∧ Sm d := by
    rw [← hBd]
    refine ⟨rfl, fun d hd => ?_⟩
    simp only [List.mem_cons, List.not_mem_nil, or_false] at hd
    rcases hd with rfl | rfl | rfl | rfl | rfl | rfl | rfl | rfl | rfl <;> exact ⟨by decide +kernel, by simp [Sm]⟩
  clear hS hPm hBs hBd
  obtain ⟨lS, fS⟩ := fS
  obtain ⟨lPm, fPm⟩ := fPm
  obtain ⟨lBs, fBs⟩ := fBs
  obtain ⟨lBd, fBd⟩ := fBd
  refine ⟨fun i ρ' μ' n' => ∃ u1 u2 u3 u4 u5 u6 u7 ws, ws = Ws W63 i ∧ ρ' = [.im (.int st), .im (.list S), .im (.list Pm), .im (.list Bs), .im (.list Bd), .ce 0, .im (.list (ws.map .str)), u1, u2, u3, u4, u5, u6, u7] ∧ μ' = [.ls (ws.map U), .no] ∧ n' = n, ⟨_, _, _, _, _, _, _, _, rfl, rfl, rfl, rfl⟩, ?_, ?_⟩
  · rintro i _ _ _ hi ⟨u1, u2, u3, u4, u5, u6, u7, ws, hw, rfl, rfl, rfl⟩
    have hi : i < 4 := hi
    have hwl : ws.length = i * 10 := by rw [hw, Ws_len]; rfl
    walk_at "pb e"
    refine sx_asg 8 sc63.nd (ex_int b.int ?_)
    walk_at "pb"
    refine mul_int (mulR (by omega) (by omega)) ?_
    walk_at "pb"
    generalize hv : st + 5 * (i : Int) = v
    have hv0 : 0 ≤ v := by omega
    refine sx_parC 9 10 rfl sc63.nd ?_
    walk_at "pb"
    refine ex_lenJ b.len ?_
    walk_at "pb"
    refine ix_any hv0 (by omega) fun s1 ms => ?_
    walk_at "pb"
    refine ex_lenJ b.len ?_
    walk_at "pb"
    refine ix_any hv0 (by omega) fun m1 mm => ?_
    walk_at "pb"
    refine sx_parC 11 12 rfl sc63.nd ?_
    walk_at "pb"
    refine ex_lenJ b.len ?_
    walk_at "pb"
    refine ix_any hv0 (by omega) fun b1 mb => ?_
    walk_at "pb"
    refine ex_lenJ b.len ?_
    walk_at "pb"
    refine ix_any hv0 (by omega) fun o1 mo => ?_
    walk_at "pb"
    have s1n := fS s1 ms
    have m1n := fPm m1 mm
    have b1n := fBs b1 mb
    obtain ⟨o1n, o1s⟩ := fBd o1 mo
    clear ms mm mb mo fS fPm fBs fBd
    refine sx_app 5 0 rfl rfl (by simp; omega) ?_
    refine ex_heard Hk X b M hT lm hr2 kp.push (lea fun A' o' s' H' E' f' c' => ?_)
    walk_at "pb"
    refine ⟨_, _, rfl, trivial, hear_use (push_s s1n) ?_⟩
    walk_at "pb"
    refine sx_app 5 0 rfl rfl (by simp; omega) ?_
    refine ex_heard Hk X b M hT lm hr2 kp.pop (lea fun A' o' s' H' E' f' c' => ?_)
    walk_at "pb"
    refine ⟨_, _, rfl, trivial, hear_use (pop_s s1n) ?_⟩
    walk_at "pb"
    refine sx_app 5 0 rfl rfl (by simp; omega) ?_
    refine ex_heard Hk X b M hT lm hr2 kp.spo (lea fun A' o' s' H' E' f' c' => ?_)
    walk_at "pb"
    refine ⟨_, _, rfl, trivial, hear_use (spo_s s1n) ?_⟩
    walk_at "pb"
    refine sx_app 5 0 rfl rfl (by simp; omega) ?_
    refine ex_heard Hk X b M hT lm hr2 kp.push (lea fun A' o' s' H' E' f' c' => ?_)
    walk_at "pb"
    refine ⟨_, _, rfl, trivial, hear_use (push_m rfl m1n) ?_⟩
    walk_at "pb"
    refine sx_app 5 0 rfl rfl (by simp; omega) ?_
    refine ex_heard Hk X b M hT lm hr2 kp.pop (lea fun A' o' s' H' E' f' c' => ?_)
    walk_at "pb"
    refine ⟨_, _, rfl, trivial, hear_use (pop_m rfl m1n) ?_⟩
    walk_at "pb"
    refine sx_app 5 0 rfl rfl (by simp; omega) ?_
    refine ex_heard Hk X b M hT lm hr2 kp.spo (lea fun A' o' s' H' E' f' c' => ?_)
    walk_at "pb"
    refine ⟨_, _, rfl, trivial, hear_use (spo_m rfl m1n) ?_⟩
    walk_at "pb"
    refine sx_app 5 0 rfl rfl (by simp; omega) ?_
    refine ex_heard Hk X b M hT lm hr2 ka.ap (lea fun A' o' s' H' E' f' c' => ?_)
    walk_at "pb"
    refine ⟨_, _, _, _, rfl, ⟨o1s, trivial⟩, hear_use (ap_b b1n) ?_⟩
    walk_at "pb"
    refine sx_app 5 0 rfl rfl (by simp; omega) ?_
    refine ex_heard Hk X b M hT lm hr2 ka.ap (lea fun A' o' s' H' E' f' c' => ?_)
    walk_at "pb"
    refine ⟨_, _, _, _, rfl, ⟨o1s, (by decide : 2 ≤ 100000)⟩, hear_use (ap_m rfl m1n) ?_⟩
    walk_at "pb"
    refine sx_app 5 0 rfl rfl (by simp; omega) ?_
    refine ex_heard Hk X b M hT lm hr2 ka.ap (lea fun A' o' s' H' E' f' c' => ?_)
    walk_at "pb"
    refine ⟨_, _, _, _, rfl, ⟨o1s, trivial⟩, hear_use (ap_o rfl (by decide +kernel) o1n) ?_⟩
    walk_at "pb"
    refine sx_app 5 0 rfl rfl (by simp; omega) ?_
    refine ex_heard Hk X b M hT lm hr2 ka.ap (lea fun A' o' s' H' E' f' c' => ?_)
    walk_at "pb"
    refine ⟨_, _, _, _, rfl, ⟨(by decide : 2 ≤ 100000), o1s⟩, hear_use (ap_r rfl (by decide +kernel) rfl (by rw [show isDig (toI (.int 3) - 1) o1 = false from o1n]; rfl)) ?_⟩
    walk_at "pb"
    refine sx_asg 6 sc63.nd ?_
    walk_at "pb"
    refine mul_rep3 (add_lst (by simp; omega) ?_)
    walk_at "pb"
    refine mul_rep3 (add_lst (by simp; omega) ?_)
    walk_at "pb"
    refine add_lst (by simp; omega) ?_
    walk_at "pb"
    have e1 : (ws ++ W63).map U = ws.map U ++ [U "stack"] ++ [U "stack"] ++ [U "stack"] ++ [U "modulus"] ++ [U "modulus"] ++ [U "modulus"] ++ [U "base"] ++ [U "modulus"] ++ [U "one"] ++ [U "other"] := by simp [W63]
    have e2 : (ws ++ W63).map PyData.str = ws.map PyData.str ++ [.str "stack", .str "stack", .str "stack"] ++ [.str "modulus", .str "modulus", .str "modulus"] ++ [.str "base", .str "modulus", .str "one", .str "other"] := by simp [W63]
    refine ⟨.im (.int i), .im (.int v), .im s1, .im m1, .im b1, .im o1, u7, ws ++ W63, by rw [hw]; rfl, ?_, ?_, rfl⟩
    · rw [e2]
      rfl
    · rw [e1]
      rfl
  · rintro _ _ _ ⟨u1, u2, u3, u4, u5, u6, u7, ws, hw, rfl, rfl, rfl⟩
    have hw4 : ws = Ws W63 4 := hw
    have hwl : ws.length = 40 := by rw [hw4, Ws_len]; rfl
    have hwW := hw4
    clear hw hw4 fS fPm fBs fBd
    walk_at "pb"
    refine sx_app 5 0 rfl rfl (by simp; omega) ?_
    refine ex_heard Hk X b M hT lm hr2 ka.ap (lea fun A' o' s' H' E' f' c' => ?_)
    walk_at "pb"
    refine ⟨_, _, _, _, rfl, ⟨(by decide : 2 ≤ 100000), (by decide : 3 ≤ 100000)⟩, hear_use (ap_r rfl (by decide +kernel) rfl (by decide +kernel)) ?_⟩
    walk_at "pb"
    refine sx_app 5 0 rfl rfl (by simp; omega) ?_
    refine ex_heard Hk X b M hT lm hr2 ka.ap (lea fun A' o' s' H' E' f' c' => ?_)
    walk_at "pb"
    refine ⟨_, _, _, _, rfl, ⟨(by decide : 2 ≤ 100000), (by decide : 0 ≤ 100000)⟩, hear_use (ap_r rfl (by decide +kernel) rfl (by decide +kernel)) ?_⟩
    walk_at "pb e"
    refine sv_frz 5 0 rfl rfl ?_
    walk_at "pb"
    refine ex_g ks hgd hr hT ?_
    walk_at "pb"
    refine ex_l (el_lcN 13 rfl sc63.nd (lcP (wx_list ?_)))
    walk_at "pb"
    refine mul_two (add_lst (by simp; omega) ?_)
    have e3 : ws.map PyData.str ++ [.str "other", .str "other"] = (ws ++ (["other", "other"] : List Str)).map .str := by simp
    have e4 : ws.map U ++ [U "other"] ++ [U "other"] = (ws ++ (["other", "other"] : List Str)).map U := by simp
    have hL : (ws ++ (["other", "other"] : List Str)).length = 42 := by rw [List.length_append, hwl]; rfl
    have hM : ∀ w, w ∈ ws ++ (["other", "other"] : List Str) → w ∈ (["stack", "modulus", "base", "one", "other", "stacks", "scrap", "stream", "many"] : List Str) := fun w hm => by
      rcases List.mem_append.mp hm with h1 | h1
      · exact (by decide : ∀ y ∈ W63, y ∈ (["stack", "modulus", "base", "one", "other", "stacks", "scrap", "stream", "many"] : List Str)) w (Ws_mem W63 4 (hwW ▸ h1))
      · exact (by decide : ∀ y ∈ (["other", "other"] : List Str), y ∈ (["stack", "modulus", "base", "one", "other", "stacks", "scrap", "stream", "many"] : List Str)) w h1
    rw [e3, e4]
    generalize ws ++ (["other", "other"] : List Str) = L at hL hM ⊢
    refine ⟨_, rfl, by rw [List.length_map]; omega, fun _ => true, fun i => U (L.getD i ""), fun _ _ _ => btx0 ⟨rfl, rfl⟩, fun i acc hi _ => bex fun s0 H0 C' cl fp => ?_, ?_⟩
    · have hi : i < L.length := by simpa using hi
      walk_at "pb"
      refine ⟨by simp [U, hi], rfl⟩
    · rw [List.length_map, rng_map]
      walk_at "pb"
      refine ⟨_, rfl, rpUs (by omega) hM, okp_ok ?_⟩
      walk_at "pb"
      exact ⟨_, rfl, h⟩
end
end Pb

set_option Elab.async false
set_option linter.all false
set_option maxRecDepth 100000
set_option maxHeartbeats 4000000
/-! PbAF: the law's tests: frame odds refused. -/
namespace Pb
open PySem PySem.Spec PyProof.Rows L2
theorem str_b {b s : PyData} (h : isB3 b = false) : streamF b s = use "base" := by simp [streamF, h]
theorem frm_b {b s : PyData} (h : isB3 b = false) : framesF b s = use "base" := by simp [framesF, h]
theorem sts_b {b s : PyData} (h : isB3 b = false) : startsF b s = use "base" := by simp [startsF, h]
theorem sho_b {b s m : PyData} (h : isB3 b = false) : shortF b s m = use "base" := by simp [shortF, h]
theorem str_s {b s : PyData} (h0 : isB3 b = true) (h : isNums s = false) : streamF b s = use "stacks" := by simp [streamF, h0, h]
theorem frm_s {b s : PyData} (h0 : isB3 b = true) (h : isDig (toI b) s = false) : framesF b s = use "scrap" := by simp [framesF, h0, h]
theorem sts_s {b s : PyData} (h0 : isB3 b = true) (h : fitsF (toI b) s = false) : startsF b s = use "stream" := by simp [startsF, h0, h]
theorem sho_s {b s m : PyData} (h0 : isB3 b = true) (h : fitsF (toI b) s = false) : shortF b s m = use "stream" := by simp [shortF, h0, h]
theorem sho_m {b s m : PyData} (h0 : isB3 b = true) (h1 : fitsF (toI b) s = true) (h : manyOk (posn (toI b) (toL s)) m = false) : shortF b s m = use "many" := by simp [shortF, h0, h1, h]
def W64 : List Str := ["base", "base", "base", "base", "stacks", "scrap", "stream", "stream", "many"]
theorem mul_rep4 {Φ : PyData → Nat → Prop} {n : Nat} {d : PyData} (h : Φ (.list [d, d, d, d]) n) : PMul Φ n (.list [d]) (.int 4) := ⟨by omega, by omega, by simp, h⟩
theorem strm_np (b : Int) : ∀ {ss : List Int}, (∀ s ∈ ss, s ≤ 0) → (strm b ss).length = ss.length + 1
  | [], _ => by simp [strm]
  | x :: ss, h => by
    have e := strm_np b (ss := ss) fun y hy => h y (List.mem_cons_of_mem _ hy)
    have e0 : row (b - 1) x = [] := row_zero (by have := h x List.mem_cons_self; omega)
    unfold strm at e ⊢
    rw [List.flatMap_cons, e0]
    simp only [List.length_append, List.length_cons, List.length_nil] at e ⊢
    omega
theorem strm_sm (b : Int) {ss : List Int} (h : ∀ s ∈ ss, s ≤ 0) (hl : ss.length ≤ 10) : (strm b ss).length ≤ 100000 := by
  rw [strm_np b h]
  omega
local macro_rules | `(tactic| walk_at "pb v") => `(tactic| first
  | refine ex_v 0 rfl ?_ | refine ex_v 1 rfl ?_ | refine ex_v 2 rfl ?_ | refine ex_v 3 rfl ?_ | refine ex_v 4 rfl ?_ | refine ex_v 5 rfl ?_ | refine ex_v 6 rfl ?_ | refine ex_v 7 rfl ?_
  | refine ex_v 8 rfl ?_ | refine ex_v 9 rfl ?_ | refine ex_v 10 rfl ?_ | refine ex_v 11 rfl ?_ | refine ex_v 12 rfl ?_ | refine ex_v 13 rfl ?_ | refine ex_v 14 rfl ?_)
local macro_rules | `(tactic| walk_at "pb x") => `(tactic| first
  | refine ex_i ?_ | ((with_reducible show EX _ _ (Expr.Name _ _) _ _ _ _); walk_at "pb v") | refine ex_addJ ?_ | refine ex_sub ?_ | refine ex_s ?_ | refine ex_n ?_ | refine ex_b ?_ | refine ex_neg ?_
  | refine ex_mulJ ?_ | refine ex_mod ?_ | refine ex_div ?_ | refine ex_pow ?_ | refine ex_lt ?_ | refine ex_eq ?_ | refine ex_ne ?_ | refine ex_gt ?_ | refine ex_ge ?_ | ((fail_if_success (with_reducible show EX _ _ (Expr.Subscript _ (Expr.Constant (Const.str _) _ _) _) _ _ _ _)); refine ex_ixJ ?_)
  | refine ex_and ?_ | refine ex_or ?_ | refine ex_one ?_ | refine ex_not ?_ | refine ex_ite ?_ | refine ex_tup ?_ | refine ex_l (el_ls ?_) | refine ex_isInt ‹_› ?_ | refine ex_isBool ‹_› ?_ | refine ex_isTup ‹_› ?_)
local macro_rules | `(tactic| walk_at "pb t") => `(tactic| first
  | refine et_lt ?_ | refine et_eq ?_ | refine et_ne ?_ | refine et_le ?_ | refine et_gt ?_ | refine et_ge ?_ | refine et_nt ?_ | refine et_w (ew_and ?_) | refine et_w (ew_or ?_) | refine et_v ?_)
local macro_rules | `(tactic| walk_at "pb e") => `(tactic| first
  | ((with_reducible show EX _ _ _ _ _ _ _); walk_at "pb x")
  | with_reducible refine xi2 ?_ | with_reducible refine xi ?_ | with_reducible refine xb ?_ | with_reducible refine xsi ?_ | with_reducible refine xl ?_ | with_reducible refine xt ?_
  | with_reducible refine xd0 ?_ | with_reducible refine xd1 ?_ | with_reducible refine xd2 ?_ | with_reducible refine xd3 ?_ | with_reducible refine xd4 ?_ | with_reducible refine xd5 ?_ | with_reducible refine xd6 ?_ | with_reducible refine xd7 ?_ | with_reducible refine xd8 ?_ | with_reducible refine xd9 ?_ | with_reducible refine xd10 ?_ | with_reducible refine xd11 ?_ | with_reducible refine xd12 ?_ | with_reducible refine xd13 ?_ | with_reducible refine xd14 ?_ | with_reducible refine ifT ?_ | with_reducible refine ifF ?_ | with_reducible refine add_int ?_ | with_reducible refine ix_l ?_
  | with_reducible refine len_t ?_ | with_reducible refine len_l ?_ | with_reducible refine tup_t ?_ | with_reducible refine tup_l ?_
  | with_reducible refine nx_nxt ?_ | with_reducible refine rt_nxt ?_ | with_reducible refine er_nxt ?_ | with_reducible refine bk_nxt ?_ | with_reducible refine ct_nxt ?_ | with_reducible refine fin_rt ?_ | with_reducible refine fin_nx ?_ | with_reducible refine fin_er ?_ 
  | with_reducible refine nx_lp ?_ | with_reducible refine bk_lp ?_ | with_reducible refine ct_lp ?_ | with_reducible refine rt_lp ?_ | with_reducible refine er_lp ?_ | with_reducible refine okp_ok ?_
  | ((with_reducible show ET _ _ _ _ _ _ _); walk_at "pb t")
  | ((with_reducible show EW _ _ _ _ _ _ _); first | refine ew_and ?_ | refine ew_or ?_ | refine ew_and1 ?_ | refine ew_or1 ?_)
  | ((with_reducible show SB _ _ _ _ _ _ _); first | refine sb_cons ?_ | refine sb_nil ?_)
  | ((with_reducible show SX _ _ _ _ _ _ _); first | refine sx_ret ?_ | refine sx_if ?_)
  | ((with_reducible show EO _ _ _ _ _ _ _); first | refine eo_s ?_ | refine eo_n ?_)
  | ((with_reducible show EK _ _ _ _ _ _ _); first | refine ek_c ?_ | refine ek_0 ?_)
  | ((with_reducible show EA _ _ _ _ _ _ _); first | refine ea_c ?_ | refine ea_0 ?_))
local macro_rules | `(tactic| walk_at "pb") => `(tactic| repeat walk_at "pb e")
section
variable {P : Program} {w : World} {K : Frg} {mg : Str → Option Value} {base : Heap} {f : Addr} {fd : FuncData} {T : List (Addr × Str)} {k : Nat}
theorem sc64 : FnScope ["_law_start", "_law_bases", "_law_heaps", "_law_strips", "_law_tapes", "_law_some", "_law_told", "_law_due", "_law_k", "_law_turn", "_law_base", "_law_heap_here", "_law_strip", "_law_tape_here", "_law_few", "_law_word"] ["_law_start"] (defScope (top 64)) := ⟨rfl, rfl, rfl, by decide +kernel, rfl, by decide +kernel, by decide +kernel⟩
theorem g_fodds (F : FnT K "_law_are_frame_odds_refused" 64 f fd) (b : Blt mg) (X : ExF K mg) (Hk : HeardK K mg) (ld : LmD K base mg T f "_law_are_frame_odds_refused.<locals>.<lambda>") (kf : KnF P w K mg base T k) (ks : KnG P w K mg base k "_law_same" ["_law_told", "_law_due"] (prom K T preSame)) :
    FnG P w K mg base (k + 3) f fd ["_law_start"] (promW K T preOdd) := by
  refine fng_pw F sc64 (fun as n Φ ⟨_, h, _⟩ => by rw [h]; rfl) fun cdv A outer s H E C as n Φ hgd hr2 hl M hT hE hp => ?_
  have lm := lm_of (P := P) (w := w) (N := ["_law_start", "_law_bases", "_law_heaps", "_law_strips", "_law_tapes", "_law_some", "_law_told", "_law_due", "_law_k", "_law_turn", "_law_base", "_law_heap_here", "_law_strip", "_law_tape_here", "_law_few", "_law_word"]) (qual := "_law_are_frame_odds_refused") (sc := defScope (top 64)) (A := A) (outer := outer) (s := s) (H := H) (E := E) ld hl
  have hr := hr2.mono (Nat.le_add_right k 2)
  obtain ⟨st, rfl, hs0, hs1, h⟩ := hp
  walk_at "pb"
  refine sx_asg 1 sc64.nd ?_
  walk_at "pb"
  refine sx_asg 2 sc64.nd ?_
  walk_at "pb"
  refine sx_asg 3 sc64.nd ?_
  walk_at "pb"
  refine sx_asg 4 sc64.nd ?_
  walk_at "pb"
  refine add_lst (by simp) ?_
  walk_at "pb"
  refine sx_asg 5 sc64.nd ?_
  walk_at "pb"
  refine sx_parLL 6 7 rfl sc64.nd (el_ls ?_)
  walk_at "pb"
  refine el_ls ?_
  walk_at "pb e"
  walk_at "pb e"
  walk_at "pb e"
  refine sv_frz 7 1 rfl rfl ?_
  walk_at "pb e"
  refine sx_for 8 rfl sc64.nd (wx_range1 b.range ?_)
  walk_at "pb"
  refine ⟨by omega, by omega, ?_⟩
  generalize hBs : ([.none, .int 2, .int 1, .int 0, .int 257, .bool true, .str "3", .int (-3), .tuple [.int 3], .list [.int 3]] : List PyData) = Bs
  generalize hHs : ([.none, .list [.int 1], .tuple [.int (-1)], .tuple [.bool true], .tuple [.str "1"], .int 5, .str "", .tuple [.int 0, .none], .tuple [.tuple [.int 0]]] : List PyData) = Hs
  have fBs : Bs.length = 10 ∧ ∀ d ∈ Bs, isB3 d = false := by
    rw [← hBs]
    refine ⟨rfl, fun d hd => ?_⟩
    simp only [List.mem_cons, List.not_mem_nil, or_false] at hd
    rcases hd with rfl | rfl | rfl | rfl | rfl | rfl | rfl | rfl | rfl | rfl <;> decide +kernel
  have fHs : Hs.length = 9 ∧ ∀ d ∈ Hs, isNums d = false ∧ Sm d ∧ (∀ s ∈ toL d, s ≤ 0) ∧ (toL d).length ≤ 10 := by
    rw [← hHs]
    refine ⟨rfl, fun d hd => ?_⟩
    simp only [List.mem_cons, List.not_mem_nil, or_false] at hd
    rcases hd with rfl | rfl | rfl | rfl | rfl | rfl | rfl | rfl | rfl <;> exact ⟨by decide +kernel, by simp [Sm], by decide +kernel, by decide +kernel⟩
  generalize hSp : ([.none, .list [.int 2, .int 2], .tuple [.int 2, .int 3, .int 2], .tuple [.int 2, .int (-1), .int 2], .tuple [.int 2, .bool true, .int 2], .int 2, .str "22", .tuple [.int 2, .none, .int 2], .tuple [.tuple [.int 2, .int 2]]] : List PyData) = Sp
  generalize hTs : Sp ++ ([.tuple [], .tuple [.int 0], .tuple [.int 2, .int 0], .tuple [.int 0, .int 2], .tuple [.int 0, .int 0]] : List PyData) = Ts
  generalize hMs : ([.none, .int 0, .int (-1), .bool true, .str "1", .tuple [.int 1], .int 3, .int 7, .bool false] : List PyData) = Ms
  have fSp : Sp.length = 9 ∧ ∀ d ∈ Sp, isDig 3 d = false ∧ fitsF 3 d = false ∧ Sm d := by
    rw [← hSp]
    refine ⟨rfl, fun d hd => ?_⟩
    simp only [List.mem_cons, List.not_mem_nil, or_false] at hd
    rcases hd with rfl | rfl | rfl | rfl | rfl | rfl | rfl | rfl | rfl <;> exact ⟨by decide +kernel, by decide +kernel, by simp [Sm]⟩
  have fTs : Ts.length = 14 ∧ ∀ d ∈ Ts, fitsF 3 d = false ∧ Sm d := by
    rw [← hTs]
    refine ⟨by rw [List.length_append, fSp.1]; rfl, fun d hd => ?_⟩
    rcases List.mem_append.mp hd with hd | hd
    · exact ⟨(fSp.2 d hd).2.1, (fSp.2 d hd).2.2⟩
    · simp only [List.mem_cons, List.not_mem_nil, or_false] at hd
      rcases hd with rfl | rfl | rfl | rfl | rfl <;> exact ⟨by decide +kernel, by simp [Sm]⟩
  have fMs : Ms.length = 9 ∧ ∀ d ∈ Ms, manyOk (posn 3 [2, 2, 0, 2]) d = false := by
    rw [← hMs]
    refine ⟨rfl, fun d hd => ?_⟩
    simp only [List.mem_cons, List.not_mem_nil, or_false] at hd
    rcases hd with rfl | rfl | rfl | rfl | rfl | rfl | rfl | rfl | rfl <;> decide +kernel
  clear hBs hHs hSp hTs hMs
  obtain ⟨lBs, fBs⟩ := fBs
  obtain ⟨lHs, fHs⟩ := fHs
  obtain ⟨lSp, fSp⟩ := fSp
  obtain ⟨lTs, fTs⟩ := fTs
  obtain ⟨lMs, fMs⟩ := fMs
  refine ⟨fun i ρ' μ' n' => ∃ u1 u2 u3 u4 u5 u6 u7 u8 ws, ws = Ws W64 i ∧ ρ' = [.im (.int st), .im (.list Bs), .im (.list Hs), .im (.list Sp), .im (.list Ts), .im (.list Ms), .ce 0, .im (.list (ws.map .str)), u1, u2, u3, u4, u5, u6, u7, u8] ∧ μ' = [.ls (ws.map U), .no] ∧ n' = n, ⟨_, _, _, _, _, _, _, _, _, rfl, rfl, rfl, rfl⟩, ?_, ?_⟩
  · rintro i _ _ _ hi ⟨u1, u2, u3, u4, u5, u6, u7, u8, ws, hw, rfl, rfl, rfl⟩
    have hi : i < 4 := hi
    have hwl : ws.length = i * 9 := by rw [hw, Ws_len]; rfl
    walk_at "pb e"
    refine sx_asg 9 sc64.nd (ex_int b.int ?_)
    walk_at "pb"
    refine mul_int (mulR (by omega) (by omega)) ?_
    walk_at "pb"
    generalize hv : st + 5 * (i : Int) = v
    have hv0 : 0 ≤ v := by omega
    refine sx_parC3 10 11 12 rfl sc64.nd ?_
    walk_at "pb"
    refine ex_lenJ b.len ?_
    walk_at "pb"
    refine ix_any hv0 (by omega) fun b1 mb => ?_
    walk_at "pb"
    refine ex_lenJ b.len ?_
    walk_at "pb"
    refine ix_any hv0 (by omega) fun h1 mh => ?_
    walk_at "pb"
    refine ex_lenJ b.len ?_
    walk_at "pb"
    refine ix_any hv0 (by omega) fun p1 mp => ?_
    walk_at "pb"
    refine sx_parC 13 14 rfl sc64.nd ?_
    walk_at "pb"
    refine ex_lenJ b.len ?_
    walk_at "pb"
    refine ix_any hv0 (by omega) fun t1 mt => ?_
    walk_at "pb"
    refine ex_lenJ b.len ?_
    walk_at "pb"
    refine ix_any hv0 (by omega) fun m1 mm => ?_
    walk_at "pb"
    have b1n := fBs b1 mb
    obtain ⟨h1n, h1s, h1p, h1l⟩ := fHs h1 mh
    obtain ⟨p1n, _, p1s⟩ := fSp p1 mp
    obtain ⟨t1n, t1s⟩ := fTs t1 mt
    have m1n := fMs m1 mm
    clear mb mh mp mt mm fBs fHs fSp fTs fMs
    refine sx_app 6 0 rfl rfl (by simp; omega) ?_
    refine ex_heard Hk X b M hT lm hr2 kf.stream (lea fun A' o' s' H' E' f' c' => ?_)
    walk_at "pb"
    refine ⟨_, _, rfl, ⟨h1s, strm_sm _ h1p h1l⟩, hear_use (str_b b1n) ?_⟩
    walk_at "pb"
    refine sx_app 6 0 rfl rfl (by simp; omega) ?_
    refine ex_heard Hk X b M hT lm hr2 kf.frames (lea fun A' o' s' H' E' f' c' => ?_)
    walk_at "pb"
    refine ⟨_, _, rfl, p1s, hear_use (frm_b b1n) ?_⟩
    walk_at "pb"
    refine sx_app 6 0 rfl rfl (by simp; omega) ?_
    refine ex_heard Hk X b M hT lm hr2 kf.starts (lea fun A' o' s' H' E' f' c' => ?_)
    walk_at "pb"
    refine ⟨_, _, rfl, (by decide : 2 ≤ 100000), hear_use (sts_b b1n) ?_⟩
    walk_at "pb"
    refine sx_app 6 0 rfl rfl (by simp; omega) ?_
    refine ex_heard Hk X b M hT lm hr2 kf.short (lea fun A' o' s' H' E' f' c' => ?_)
    walk_at "pb"
    refine ⟨_, _, _, rfl, t1s, hear_use (sho_b b1n) ?_⟩
    walk_at "pb"
    refine sx_app 6 0 rfl rfl (by simp; omega) ?_
    refine ex_heard Hk X b M hT lm hr2 kf.stream (lea fun A' o' s' H' E' f' c' => ?_)
    walk_at "pb"
    refine ⟨_, _, rfl, ⟨h1s, strm_sm _ h1p h1l⟩, hear_use (str_s rfl h1n) ?_⟩
    walk_at "pb"
    refine sx_app 6 0 rfl rfl (by simp; omega) ?_
    refine ex_heard Hk X b M hT lm hr2 kf.frames (lea fun A' o' s' H' E' f' c' => ?_)
    walk_at "pb"
    refine ⟨_, _, rfl, p1s, hear_use (frm_s rfl p1n) ?_⟩
    walk_at "pb"
    refine sx_app 6 0 rfl rfl (by simp; omega) ?_
    refine ex_heard Hk X b M hT lm hr2 kf.starts (lea fun A' o' s' H' E' f' c' => ?_)
    walk_at "pb"
    refine ⟨_, _, rfl, t1s, hear_use (sts_s rfl t1n) ?_⟩
    walk_at "pb"
    refine sx_app 6 0 rfl rfl (by simp; omega) ?_
    refine ex_heard Hk X b M hT lm hr2 kf.short (lea fun A' o' s' H' E' f' c' => ?_)
    walk_at "pb"
    refine ⟨_, _, _, rfl, t1s, hear_use (sho_s rfl t1n) ?_⟩
    walk_at "pb"
    refine sx_app 6 0 rfl rfl (by simp; omega) ?_
    refine ex_heard Hk X b M hT lm hr2 kf.short (lea fun A' o' s' H' E' f' c' => ?_)
    walk_at "pb"
    refine ⟨_, _, _, rfl, (by decide : 4 ≤ 100000), hear_use (sho_m rfl (by decide +kernel) m1n) ?_⟩
    walk_at "pb"
    refine sx_asg 7 sc64.nd ?_
    walk_at "pb"
    refine mul_rep4 (add_lst (by simp; omega) ?_)
    walk_at "pb"
    refine add_lst (by simp; omega) ?_
    walk_at "pb"
    have e1 : (ws ++ W64).map U = ws.map U ++ [U "base"] ++ [U "base"] ++ [U "base"] ++ [U "base"] ++ [U "stacks"] ++ [U "scrap"] ++ [U "stream"] ++ [U "stream"] ++ [U "many"] := by simp [W64]
    have e2 : (ws ++ W64).map PyData.str = ws.map PyData.str ++ [.str "base", .str "base", .str "base", .str "base"] ++ [.str "stacks", .str "scrap", .str "stream", .str "stream", .str "many"] := by simp [W64]
    refine ⟨.im (.int i), .im (.int v), .im b1, .im h1, .im p1, .im t1, .im m1, u8, ws ++ W64, by rw [hw]; rfl, ?_, ?_, rfl⟩
    · rw [e2]
      rfl
    · rw [e1]
      rfl
  · rintro _ _ _ ⟨u1, u2, u3, u4, u5, u6, u7, u8, ws, hw, rfl, rfl, rfl⟩
    have hwW : ws = Ws W64 4 := hw
    have hwl : ws.length = 36 := by rw [hwW, Ws_len]; rfl
    clear hw fBs fHs fSp fTs fMs
    walk_at "pb"
    refine sx_app 6 0 rfl rfl (by simp; omega) ?_
    refine ex_heard Hk X b M hT lm hr2 kf.short (lea fun A' o' s' H' E' f' c' => ?_)
    walk_at "pb"
    refine ⟨_, _, _, rfl, (by decide : 1 ≤ 100000), hear_use (sho_m rfl (by decide +kernel) (by decide +kernel)) ?_⟩
    walk_at "pb e"
    refine sv_frz 6 0 rfl rfl ?_
    walk_at "pb"
    refine ex_g ks hgd hr hT ?_
    walk_at "pb"
    refine ex_l (el_lcN 15 rfl sc64.nd (lcP (wx_list ?_)))
    walk_at "pb"
    refine add_lst (by simp; omega) ?_
    have e3 : ws.map PyData.str ++ [.str "many"] = (ws ++ (["many"] : List Str)).map .str := by simp
    have e4 : ws.map U ++ [U "many"] = (ws ++ (["many"] : List Str)).map U := by simp
    have hL : (ws ++ (["many"] : List Str)).length = 37 := by rw [List.length_append, hwl]; rfl
    have hM : ∀ w, w ∈ ws ++ (["many"] : List Str) → w ∈ (["stack", "modulus", "base", "one", "other", "stacks", "scrap", "stream", "many"] : List Str) := fun w hm => by
      rcases List.mem_append.mp hm with h1 | h1
      · exact (by decide : ∀ y ∈ W64, y ∈ (["stack", "modulus", "base", "one", "other", "stacks", "scrap", "stream", "many"] : List Str)) w (Ws_mem W64 4 (hwW ▸ h1))
      · exact (by decide : ∀ y ∈ (["many"] : List Str), y ∈ (["stack", "modulus", "base", "one", "other", "stacks", "scrap", "stream", "many"] : List Str)) w h1
    rw [e3, e4]
    generalize ws ++ (["many"] : List Str) = L at hL hM ⊢
    refine ⟨_, rfl, by rw [List.length_map]; omega, fun _ => true, fun i => U (L.getD i ""), fun _ _ _ => btx0 ⟨rfl, rfl⟩, fun i acc hi _ => bex fun s0 H0 C' cl fp => ?_, ?_⟩
    · have hi : i < L.length := by simpa using hi
      walk_at "pb"
      refine ex_v 15 rfl ?_
      walk_at "pb"
      refine ⟨by simp [U, hi], rfl⟩
    · rw [List.length_map, rng_map]
      walk_at "pb"
      refine ⟨_, rfl, rpUs (by omega) hM, okp_ok ?_⟩
      walk_at "pb"
      exact ⟨_, rfl, h⟩
end
end Pb

set_option Elab.async false
set_option linter.all false
set_option maxRecDepth 100000
set_option maxHeartbeats 4000000
/-! PbAG: the law's bodies changed. -/
namespace Pb
open PySem PySem.Spec PyProof.Rows L2
def preChg : Pre := fun as n Φ => ∃ (b p : Int) (body : List Int), as = [.fd, .da (.int b), .da (.int p), .da (itup body)] ∧ 3 ≤ b ∧ b ≤ 256 ∧ 2 ≤ p ∧ p ≤ 1000 ∧ (∀ x ∈ body, 0 ≤ x ∧ x < b - 1) ∧ body.length ≤ 40 ∧ n ≤ 800000 ∧
  ∀ L : List (List Int), 0 < L.length → L.length ≤ 100 → (∀ x ∈ L, x.length = body.length ∧ ∀ y ∈ x, 0 ≤ y ∧ y < b - 1) → Φ (.ok (.list (L.map itup))) (n + 200)
def GoodL (b : Int) (m : Nat) (L : List (List Int)) : Prop := ∀ x ∈ L, x.length = m ∧ ∀ y ∈ x, 0 ≤ y ∧ y < b - 1
theorem GoodL.app {b : Int} {m : Nat} {L : List (List Int)} {x : List Int} (h : GoodL b m L) (hl : x.length = m) (hx : ∀ y ∈ x, 0 ≤ y ∧ y < b - 1) : GoodL b m (L ++ [x]) := fun z hz => by
  rcases List.mem_append.mp hz with h1 | h1
  · exact h z h1
  · rw [List.mem_singleton.mp h1]
    exact ⟨hl, hx⟩
theorem chg_map (L : List (List Int)) (x : List Int) : L.map itup ++ [itup x] = (L ++ [x]).map itup := by rw [List.map_append]; rfl
theorem cut1 (body : List Int) (k : Nat) (m : List Int) : cutL (body.map PyData.int) none (some (k : Int)) ++ m.map PyData.int ++ cutL (body.map PyData.int) (some ((k : Int) + 1)) none = (body.take k ++ m ++ body.drop (k + 1)).map .int := by
  have e : ((k : Int) + 1) = ((k + 1 : Nat) : Int) := by omega
  rw [e, cut_hi, cut_lo, List.map_append, List.map_append, List.map_take, List.map_drop]
theorem cut2 (body : List Int) (k : Nat) (hk : 0 < k) (m : List Int) : cutL (body.map PyData.int) none (some ((k : Int) - 1)) ++ m.map PyData.int ++ cutL (body.map PyData.int) (some ((k : Int) + 1)) none = (body.take (k - 1) ++ m ++ body.drop (k + 1)).map .int := by
  have e : ((k : Int) + 1) = ((k + 1 : Nat) : Int) := by omega
  have e2 : ((k : Int) - 1) = ((k - 1 : Nat) : Int) := by omega
  rw [e, e2, cut_hi, cut_lo, List.map_append, List.map_append, List.map_take, List.map_drop]
theorem mem_cut {body m : List Int} {j k : Nat} {y : Int} (h : y ∈ body.take j ++ m ++ body.drop k) : y ∈ body ∨ y ∈ m := by
  rcases List.mem_append.mp h with h | h
  · rcases List.mem_append.mp h with h | h
    · exact .inl (List.mem_of_mem_take h)
    · exact .inr h
  · exact .inl (List.mem_of_mem_drop h)
theorem cut_len (body : List Int) (k : Nat) (lo hi : Option Int) : (cutL (body.map PyData.int) lo hi).length ≤ body.length := by
  unfold cutL
  rw [List.length_take, List.length_drop, List.length_map]
  omega
local macro_rules | `(tactic| walk_at "pb v") => `(tactic| first
  | refine ex_v 0 rfl ?_ | refine ex_v 1 rfl ?_ | refine ex_v 2 rfl ?_ | refine ex_v 3 rfl ?_ | refine ex_v 4 rfl ?_ | refine ex_v 5 rfl ?_ | refine ex_v 6 rfl ?_ | refine ex_v 7 rfl ?_
  | refine ex_v 8 rfl ?_ | refine ex_v 9 rfl ?_ | refine ex_v 10 rfl ?_ | refine ex_v 11 rfl ?_ | refine ex_v 12 rfl ?_ | refine ex_v 13 rfl ?_ | refine ex_v 14 rfl ?_)
local macro_rules | `(tactic| walk_at "pb x") => `(tactic| first
  | refine ex_i ?_ | ((with_reducible show EX _ _ (Expr.Name _ _) _ _ _ _); walk_at "pb v") | refine ex_addJ ?_ | refine ex_sub ?_ | refine ex_s ?_ | refine ex_n ?_ | refine ex_b ?_ | refine ex_neg ?_
  | refine ex_mulJ ?_ | refine ex_mod ?_ | refine ex_div ?_ | refine ex_pow ?_ | refine ex_lt ?_ | refine ex_eq ?_ | refine ex_ne ?_ | refine ex_gt ?_ | refine ex_ge ?_ | ((fail_if_success (with_reducible show EX _ _ (Expr.Subscript _ (Expr.Constant (Const.str _) _ _) _) _ _ _ _)); refine ex_ixJ ?_)
  | refine ex_and ?_ | refine ex_or ?_ | refine ex_one ?_ | refine ex_not ?_ | refine ex_ite ?_ | refine ex_tup ?_ | refine ex_l (el_ls ?_) | refine ex_isInt ‹_› ?_ | refine ex_isBool ‹_› ?_ | refine ex_isTup ‹_› ?_)
local macro_rules | `(tactic| walk_at "pb t") => `(tactic| first
  | refine et_lt ?_ | refine et_eq ?_ | refine et_ne ?_ | refine et_le ?_ | refine et_gt ?_ | refine et_ge ?_ | refine et_nt ?_ | refine et_w (ew_and ?_) | refine et_w (ew_or ?_) | refine et_v ?_)
local macro_rules | `(tactic| walk_at "pb e") => `(tactic| first
  | ((with_reducible show EX _ _ _ _ _ _ _); walk_at "pb x")
  | with_reducible refine xi2 ?_ | with_reducible refine xi ?_ | with_reducible refine xb ?_ | with_reducible refine xsi ?_ | with_reducible refine xl ?_ | with_reducible refine xt ?_
  | with_reducible refine xd0 ?_ | with_reducible refine xd1 ?_ | with_reducible refine xd2 ?_ | with_reducible refine xd3 ?_ | with_reducible refine xd4 ?_ | with_reducible refine xd5 ?_ | with_reducible refine xd6 ?_ | with_reducible refine xd7 ?_ | with_reducible refine xd8 ?_ | with_reducible refine xd9 ?_ | with_reducible refine xd10 ?_ | with_reducible refine xd11 ?_ | with_reducible refine xd12 ?_ | with_reducible refine xd13 ?_ | with_reducible refine xd14 ?_ | with_reducible refine ifT ?_ | with_reducible refine ifF ?_ | with_reducible refine add_int ?_ | with_reducible refine ix_l ?_
  | with_reducible refine len_t ?_ | with_reducible refine len_l ?_ | with_reducible refine tup_t ?_ | with_reducible refine tup_l ?_
  | with_reducible refine nx_nxt ?_ | with_reducible refine rt_nxt ?_ | with_reducible refine er_nxt ?_ | with_reducible refine bk_nxt ?_ | with_reducible refine ct_nxt ?_ | with_reducible refine fin_rt ?_ | with_reducible refine fin_nx ?_ | with_reducible refine fin_er ?_ 
  | with_reducible refine nx_lp ?_ | with_reducible refine bk_lp ?_ | with_reducible refine ct_lp ?_ | with_reducible refine rt_lp ?_ | with_reducible refine er_lp ?_ | with_reducible refine okp_ok ?_
  | ((with_reducible show ET _ _ _ _ _ _ _); walk_at "pb t")
  | ((with_reducible show EW _ _ _ _ _ _ _); first | refine ew_and ?_ | refine ew_or ?_ | refine ew_and1 ?_ | refine ew_or1 ?_)
  | ((with_reducible show SB _ _ _ _ _ _ _); first | refine sb_cons ?_ | refine sb_nil ?_)
  | ((with_reducible show SX _ _ _ _ _ _ _); first | refine sx_ret ?_ | refine sx_if ?_)
  | ((with_reducible show EO _ _ _ _ _ _ _); first | refine eo_s ?_ | refine eo_n ?_)
  | ((with_reducible show EK _ _ _ _ _ _ _); first | refine ek_c ?_ | refine ek_0 ?_)
  | ((with_reducible show EA _ _ _ _ _ _ _); first | refine ea_c ?_ | refine ea_0 ?_))
local macro_rules | `(tactic| walk_at "pb") => `(tactic| repeat walk_at "pb e")
section
variable {P : Program} {w : World} {K : Frg} {mg : Str → Option Value} {base : Heap} {f : Addr} {fd : FuncData} {T : List (Addr × Str)} {k : Nat}
theorem sc53 : FnScope ["_law_feed_here", "_law_base", "_law_prime", "_law_body", "_law_some", "_law_long", "_law_k", "_law_digit", "_law_near"] ["_law_feed_here", "_law_base", "_law_prime", "_law_body"] (defScope (top 53)) := ⟨rfl, rfl, rfl, by decide +kernel, rfl, by decide +kernel, by decide +kernel⟩
theorem g_changes (F : FnT K "_law_changes" 53 f fd) (b : Blt mg) (kd : Kn P w K mg base T k "_law_draw" ["_law_feed_here", "_law_below"] preDraw) (kl : Kn P w K mg base T k "_law_line" ["_law_radix", "_law_heap_here"] preLine) (ks : Kn P w K mg base T k "_law_stack" ["_law_radix", "_law_line_here"] preStack) :
    FnOk P w K mg base (L2.CX P w) (k + 1) f fd ["_law_feed_here", "_law_base", "_law_prime", "_law_body"] (prom K T preChg) := by
  refine fn_pb F sc53 (fun as n Φ ⟨_, _, _, h, _⟩ => by rw [h]; rfl) fun cdv A outer s H E fa B as n Φ hr hp => ?_
  obtain ⟨bs, p, body, rfl, hb0, hb1, hp0, hp1, hbd, hbl, hn, h⟩ := hp
  unfold itup
  have gB : ∀ i, i < body.length → (body.map PyData.int)[i]? = some (.int (body.getD i 0)) := fun i hi => by
    rw [List.getElem?_map, List.getD_eq_getElem?_getD, List.getElem?_eq_getElem hi]
    rfl
  have gD : ∀ i, i < body.length → 0 ≤ body.getD i 0 ∧ body.getD i 0 < bs - 1 := fun i hi => by
    rw [List.getD_eq_getElem?_getD, List.getElem?_eq_getElem hi]
    exact hbd _ (List.getElem_mem hi)
  walk_at "pb"
  refine sx_parK 4 5 rfl sc53.nd (el_ls ?_)
  walk_at "pb"
  refine ex_lenJ b.len ?_
  walk_at "pb"
  rw [List.length_map]
  refine sx_for 6 rfl sc53.nd (wx_range1 b.range ?_)
  walk_at "pb"
  refine ⟨by omega, by omega, ?_⟩
  refine ⟨fun i ρ' μ' n' => ∃ (L : List (List Int)) (u1 u2 : Sl), ρ' = [.fd, .im (.int bs), .im (.int p), .im (.tuple (body.map .int)), .ce 0, .im (.int body.length), u1, u2, .un] ∧ μ' = [.ls (L.map itup)] ∧ GoodL bs body.length L ∧ 0 < L.length ∧ L.length ≤ 1 + 2 * i ∧ n' = n + 2 * i, ⟨[body], _, _, rfl, rfl, fun x hx => ?_, by simp, by simp, rfl⟩, ?_, ?_⟩
  · rw [List.mem_singleton.mp hx]
    exact ⟨rfl, hbd⟩
  · rintro i _ _ _ hi ⟨L, u1, u2, rfl, rfl, hg, hL0, hL1, rfl⟩
    have hi : i < body.length := by omega
    have hdi := gD i hi
    walk_at "pb e"
    refine sx_asg 7 sc53.nd ?_
    walk_at "pb"
    refine ex_int b.int ?_
    walk_at "pb"
    refine ix_t ⟨_, gB i hi, ?_⟩
    walk_at "pb"
    refine ex_call kd hr rfl (ea_f 0 rfl ?_)
    walk_at "pb"
    refine ⟨bs - 2, rfl, by omega, by omega, by omega, fun v hv0 hv1 => ?_⟩
    walk_at "pb"
    refine ⟨by omega, ?_⟩
    walk_at "pb"
    generalize hdg : (body.getD i 0 + 1 + v) % (bs - 1) = dg
    have hdg0 : 0 ≤ dg ∧ dg < bs - 1 := by
      rw [← hdg]
      exact mod_range (by omega)
    refine sx_app 4 0 rfl rfl (by rw [List.length_map]; omega) ?_
    walk_at "pb"
    refine ex_slT ?_
    walk_at "pb"
    refine add_tup (by have := cut_len body i none (some (i : Int)); simp only [List.length_cons, List.length_nil]; omega) ?_
    walk_at "pb"
    refine ex_slT ?_
    walk_at "pb"
    refine add_tup (by
      have := cut_len body i none (some (i : Int))
      have := cut_len body i (some ((i : Int) + 1)) none
      simp only [List.length_append, List.length_cons, List.length_nil]
      omega) ?_
    have e1 := cut1 body i [dg]
    rw [List.map_singleton] at e1
    rw [e1]
    have g2 : GoodL bs body.length (L ++ [body.take i ++ [dg] ++ body.drop (i + 1)]) := hg.app (by
      simp only [List.length_append, List.length_take, List.length_drop, List.length_singleton]
      omega) fun y hy => by
        rcases mem_cut hy with h1 | h1
        · exact hbd y h1
        · rw [List.mem_singleton.mp h1]
          exact hdg0
    have em1 := chg_map L (body.take i ++ [dg] ++ body.drop (i + 1))
    walk_at "pb"
    refine ifd (fun h1 => ?_) (fun h1 => ?_)
    · have hi0 : 0 < i := by omega
      walk_at "pb"
      refine sx_app 4 0 rfl rfl (by simp only [List.length_append, List.length_map, List.length_singleton]; omega) ?_
      walk_at "pb"
      refine ex_slT ?_
      walk_at "pb"
      refine ix_t ⟨_, gB i hi, ?_⟩
      walk_at "pb"
      have ei : ((i : Int) - 1).toNat = i - 1 := by omega
      refine ix_ti (by omega) (d := .int (body.getD (i - 1) 0)) (by rw [ei]; exact gB (i - 1) (by omega)) ?_
      walk_at "pb"
      refine add_tup (by have := cut_len body i none (some ((i : Int) - 1)); simp only [List.length_cons, List.length_nil]; omega) ?_
      walk_at "pb"
      refine ex_slT ?_
      walk_at "pb"
      refine add_tup (by
        have := cut_len body i none (some ((i : Int) - 1))
        have := cut_len body i (some ((i : Int) + 1)) none
        simp only [List.length_append, List.length_cons, List.length_nil]
        omega) ?_
      have e2 := cut2 body i hi0 [body.getD i 0, body.getD (i - 1) 0]
      rw [List.map_cons, List.map_singleton] at e2
      rw [e2]
      have g3 : GoodL bs body.length (L ++ [body.take i ++ [dg] ++ body.drop (i + 1)] ++ [body.take (i - 1) ++ [body.getD i 0, body.getD (i - 1) 0] ++ body.drop (i + 1)]) := g2.app (by
        simp only [List.length_append, List.length_take, List.length_drop, List.length_cons, List.length_nil]
        omega) fun y hy => by
          rcases mem_cut hy with h1 | h1
          · exact hbd y h1
          · rcases List.mem_cons.mp h1 with h2 | h2
            · rw [h2]
              exact hdi
            · rw [List.mem_singleton.mp h2]
              exact gD _ (by omega)
      have em2 := chg_map (L ++ [body.take i ++ [dg] ++ body.drop (i + 1)]) (body.take (i - 1) ++ [body.getD i 0, body.getD (i - 1) 0] ++ body.drop (i + 1))
      walk_at "pb"
      refine ⟨_, .im (.int i), .im (.int dg), rfl, ?_, g3, by simp, by simp; omega, by omega⟩
      rw [← em2, ← em1]
      rfl
    · walk_at "pb"
      refine ⟨_, .im (.int i), .im (.int dg), rfl, ?_, g2, by simp, by simp; omega, by omega⟩
      rw [← em1]
      rfl
  · rintro _ _ _ ⟨L, u1, u2, rfl, rfl, hg, hL0, hL1, rfl⟩
    have el : (body.length : Int).toNat = body.length := by omega
    rw [el] at hL1 ⊢
    walk_at "pb"
    refine sx_app 4 0 rfl rfl (by rw [List.length_map]; omega) ?_
    refine ex_tupJ b.tuple (ex_l (el_lcN 7 rfl sc53.nd (wx_tup ?_)))
    walk_at "pb"
    rw [List.length_map]
    refine ⟨by omega, fun i acc n' => ∃ xs : List Int, acc = xs.map .int ∧ xs.length = i ∧ (∀ x ∈ xs, 0 ≤ x ∧ x < bs - 1) ∧ n' = n + 2 * body.length + 2 * i, ⟨[], rfl, rfl, by simp, rfl⟩, ?_, ?_⟩
    · rintro i acc n' hi ⟨xs, rfl, hxl, hx, rfl⟩
      refine btx0 (ifT (bex fun s0 H0 C' cl fp => ?_))
      walk_at "pb"
      refine ex_call kd hr rfl (ea_f 0 rfl ?_)
      walk_at "pb"
      refine ⟨bs - 1, rfl, by omega, by omega, by omega, fun v hv0 hv1 => ?_⟩
      walk_at "pb"
      refine ⟨xs ++ [v], by rw [List.map_append]; rfl, by rw [List.length_append, hxl]; rfl, fun x hx' => ?_, by omega⟩
      rcases List.mem_append.mp hx' with hx' | hx'
      · exact hx x hx'
      · rw [List.mem_singleton.mp hx']
        exact ⟨hv0, hv1⟩
    · rintro acc n' ⟨xs, rfl, hxl, hx, rfl⟩
      walk_at "pb"
      have g2 := hg.app hxl hx
      have em := chg_map L xs
      refine sx_asg 8 sc53.nd (ex_call kl hr rfl ?_)
      walk_at "pb"
      refine ex_call ks hr rfl ?_
      walk_at "pb"
      refine ⟨bs - 1, body, _, rfl, .inl rfl, by omega, by omega, ?_⟩
      walk_at "pb"
      refine ex_call kd hr rfl (ea_f 0 rfl ?_)
      walk_at "pb"
      refine ⟨3, rfl, by omega, by omega, by omega, fun v hv0 hv1 => ?_⟩
      walk_at "pb"
      refine mul_int (mulR (by omega) (by omega)) ?_
      walk_at "pb"
      have s0 := stk_nonneg (r := bs - 1) (by omega) body 0 (by omega) fun x hx => (hbd x hx).1
      have s1 := stk_lt (r := bs - 1) (by omega) (by omega) body 0 (by omega) hbd
      have s2 : (256 : Int) ^ body.length ≤ 256 ^ 40 := by
        have : (256 : Nat) ^ body.length ≤ 256 ^ 40 := Nat.pow_le_pow_right (by omega) hbl
        exact_mod_cast this
      have s3 : (2 : Int) * 256 ^ 40 + 1000 * 3 < 2 ^ 900 := by decide +kernel
      have s4 : p * (1 + v) ≤ 1000 * 3 := Int.mul_le_mul (by omega) (by omega) (by omega) (by omega)
      have s5 : 0 ≤ p * (1 + v) := Int.mul_nonneg (by omega) (by omega)
      refine ⟨bs - 1, _, rfl, by omega, by omega, by omega, by omega, ?_⟩
      generalize hnr : row (bs - 1) (stk (bs - 1) 0 body + p * (1 + v)) = nr
      have hnd : ∀ x ∈ nr, 0 ≤ x ∧ x < bs - 1 := by
        rw [← hnr]
        exact row_dig' (by omega)
      unfold itup
      walk_at "pb"
      refine ex_lenJ b.len ?_
      walk_at "pb"
      rw [List.length_map]
      refine ifd (fun h1 => ?_) (fun h1 => ?_)
      · have h2 : nr.length = body.length := by omega
        have em3 := chg_map (L ++ [xs]) nr
        walk_at "pb"
        refine sx_app 4 0 rfl rfl (by simp only [List.length_append, List.length_map, List.length_singleton]; omega) ?_
        walk_at "pb e"
        repeat first | with_reducible refine nx_nxt ?_ | refine sb_nil ?_
        refine sv_frz 4 0 rfl rfl ?_
        refine sv_more (n + 200) (by omega) ?_
        walk_at "pb"
        have hf := h (L ++ [xs] ++ [nr]) (by simp) (by simp; omega) (g2.app h2 hnd)
        rw [← em3, ← em] at hf
        exact hf
      · repeat first | with_reducible refine nx_nxt ?_ | refine sb_nil ?_
        refine sv_frz 4 0 rfl rfl ?_
        refine sv_more (n + 200) (by omega) ?_
        walk_at "pb"
        have hf := h (L ++ [xs]) (by simp) (by simp; omega) g2
        rw [← em] at hf
        exact hf
end
end Pb

set_option Elab.async false
set_option linter.all false
set_option maxRecDepth 100000
set_option maxHeartbeats 4000000
/-! PbAH: the law's tests: changes seen. -/
namespace Pb
open PySem PySem.Spec PyProof.Rows L2
def Pr (p : Int) : Prop := ∀ x y : Int, p ∣ x * y → p ∣ x ∨ p ∣ y
theorem stk_cat (r t : Int) (xs ys : List Int) : stk r t (xs ++ ys) = stk r (stk r t xs) ys := by
  unfold stk
  rw [List.foldl_append]
theorem stk_sub (r : Int) : ∀ (ys : List Int) (t u : Int), stk r t ys - stk r u ys = (t - u) * r ^ ys.length
  | [], t, u => by
    show t - u = (t - u) * r ^ 0
    rw [Int.pow_zero, Int.mul_one]
  | y :: ys, t, u => by
    show stk r (t * r + y + 1) ys - stk r (u * r + y + 1) ys = _
    rw [stk_sub r ys, List.length_cons, Int.pow_succ]
    have e : t * r + y + 1 - (u * r + y + 1) = (t - u) * r := by
      rw [Int.sub_mul]
      omega
    rw [e, Int.mul_assoc, Int.mul_comm r]
theorem pr_of {q : Nat} (h : ∀ a, a < q → 0 < a → Nat.gcd q a = 1) : Pr (q : Int) := fun x y hd => by
  have h1 : q ∣ x.natAbs * y.natAbs := by
    rw [← Int.natAbs_mul]
    have := Int.natAbs_dvd_natAbs.mpr hd
    rwa [Int.natAbs_natCast] at this
  by_cases hq : q = 0
  · subst hq
    have h2 : x.natAbs * y.natAbs = 0 := Nat.eq_zero_of_zero_dvd h1
    rcases Nat.mul_eq_zero.mp h2 with h3 | h3
    · exact .inl (by rw [Int.natAbs_eq_zero.mp h3]; exact Int.dvd_zero _)
    · exact .inr (by rw [Int.natAbs_eq_zero.mp h3]; exact Int.dvd_zero _)
  · by_cases h0 : x.natAbs % q = 0
    · exact .inl (Int.natAbs_dvd_natAbs.mp (by rw [Int.natAbs_natCast]; exact Nat.dvd_of_mod_eq_zero h0))
    · have h2 := h (x.natAbs % q) (Nat.mod_lt _ (by omega)) (by omega)
      have h3 : Nat.gcd q x.natAbs = 1 := by
        rw [Nat.gcd_comm] at h2
        rw [Nat.gcd_rec]
        exact h2
      exact .inr (Int.natAbs_dvd_natAbs.mp (by rw [Int.natAbs_natCast]; exact Nat.Coprime.dvd_of_dvd_mul_left h3 h1))
theorem pr_small {p x : Int} (h0 : x ≠ 0) (h1 : x < p) (h2 : -p < x) (hp : 0 < p) : ¬ p ∣ x := fun h => by
  obtain ⟨c, rfl⟩ := h
  by_cases hc : c = 0
  · rw [hc, Int.mul_zero] at h0
    exact h0 rfl
  · rcases (show 1 ≤ c ∨ c ≤ -1 by omega) with hc | hc
    · have := Int.mul_le_mul_of_nonneg_left hc (show 0 ≤ p by omega)
      omega
    · have := Int.mul_le_mul_of_nonneg_left hc (show 0 ≤ p by omega)
      omega
theorem pr_pow {p r : Int} (hp : Pr p) (h1 : ¬ p ∣ 1) (hr : ¬ p ∣ r) : ∀ m : Nat, ¬ p ∣ r ^ m
  | 0, h => h1 (by rw [Int.pow_zero] at h; exact h)
  | m + 1, h => by
    rw [Int.pow_succ] at h
    rcases hp _ _ h with h | h
    · exact pr_pow hp h1 hr m h
    · exact hr h
/-- one digit changed -/
theorem one_seen {p r x y : Int} {xs ys : List Int} (hp : Pr p) (hr : 2 ≤ r) (hrp : r < p) (hx : 0 ≤ x ∧ x < r) (hy : 0 ≤ y ∧ y < r) (n : x ≠ y) : ¬ (stk r 0 (xs ++ x :: ys) - stk r 0 (xs ++ y :: ys)) % p = 0 := fun h => by
  have h2 := Int.dvd_of_emod_eq_zero h
  have e : ∀ z, stk r 0 (xs ++ z :: ys) = stk r (stk r 0 xs * r + z + 1) ys := fun z => by
    rw [stk_cat]
    rfl
  rw [e, e, stk_sub] at h2
  have e2 : stk r 0 xs * r + x + 1 - (stk r 0 xs * r + y + 1) = x - y := by omega
  rw [e2] at h2
  rcases hp _ _ h2 with h2 | h2
  · exact pr_small (by omega) (by omega) (by omega) (by omega) h2
  · exact pr_pow hp (pr_small (by omega) (by omega) (by omega) (by omega)) (pr_small (by omega) (by omega) (by omega) (by omega)) _ h2
/-- two neighbours exchanged -/
theorem two_seen {p r x y : Int} {xs ys : List Int} (hp : Pr p) (hr : 2 ≤ r) (hrp : r < p) (hx : 0 ≤ x ∧ x < r) (hy : 0 ≤ y ∧ y < r) (n : x ≠ y) : ¬ (stk r 0 (xs ++ x :: y :: ys) - stk r 0 (xs ++ y :: x :: ys)) % p = 0 := fun h => by
  have h2 := Int.dvd_of_emod_eq_zero h
  have e : ∀ z u, stk r 0 (xs ++ z :: u :: ys) = stk r ((stk r 0 xs * r + z + 1) * r + u + 1) ys := fun z u => by
    rw [stk_cat]
    rfl
  rw [e, e, stk_sub] at h2
  have e2 : (stk r 0 xs * r + x + 1) * r + y + 1 - ((stk r 0 xs * r + y + 1) * r + x + 1) = (x - y) * (r - 1) := by
    have e3 : (stk r 0 xs * r + x + 1) * r = (stk r 0 xs * r + 1) * r + x * r := by rw [← Int.add_mul]; congr 1; omega
    have e4 : (stk r 0 xs * r + y + 1) * r = (stk r 0 xs * r + 1) * r + y * r := by rw [← Int.add_mul]; congr 1; omega
    rw [e3, e4, Int.mul_sub, Int.sub_mul, Int.mul_one]
    omega
  rw [e2] at h2
  rcases hp _ _ h2 with h2 | h2
  · rcases hp _ _ h2 with h2 | h2
    · exact pr_small (by omega) (by omega) (by omega) (by omega) h2
    · exact pr_small (by omega) (by omega) (by omega) (by omega) h2
  · exact pr_pow hp (pr_small (by omega) (by omega) (by omega) (by omega)) (pr_small (by omega) (by omega) (by omega) (by omega)) _ h2
/-- where two rows part -/
def pl (xs ys : List Int) : List Nat := (List.range xs.length).filter fun i => !decide (xs.getD i 0 = ys.getD i 0)
theorem pl_mem {xs ys : List Int} {i : Nat} : i ∈ pl xs ys ↔ i < xs.length ∧ xs.getD i 0 ≠ ys.getD i 0 := by
  unfold pl
  rw [List.mem_filter, List.mem_range]
  simp
theorem getD_el {xs : List Int} {i : Nat} (h : i < xs.length) : xs.getD i 0 = xs[i] := by
  rw [List.getD_eq_getElem?_getD, List.getElem?_eq_getElem h]
  rfl
theorem part_take {xs ys : List Int} {k : Nat} (hl : xs.length = ys.length) (h : ∀ i, i < k → i ∉ pl xs ys) : xs.take k = ys.take k := by
  refine List.ext_getElem (by rw [List.length_take, List.length_take, hl]) fun i h1 h2 => ?_
  rw [List.length_take] at h1
  rw [List.getElem_take, List.getElem_take, ← getD_el (by omega), ← getD_el (by omega)]
  refine Classical.byContradiction fun n => h i (by omega) (pl_mem.mpr ⟨by omega, n⟩)
theorem part_drop {xs ys : List Int} {k : Nat} (hl : xs.length = ys.length) (h : ∀ i, k ≤ i → i ∉ pl xs ys) : xs.drop k = ys.drop k := by
  refine List.ext_getElem (by rw [List.length_drop, List.length_drop, hl]) fun i h1 h2 => ?_
  rw [List.length_drop] at h1
  rw [List.getElem_drop, List.getElem_drop, ← getD_el (by omega), ← getD_el (by omega)]
  exact Classical.byContradiction fun n => h (k + i) (by omega) (pl_mem.mpr ⟨by omega, n⟩)
theorem split1 {xs : List Int} {k : Nat} (h : k < xs.length) : xs = xs.take k ++ xs.getD k 0 :: xs.drop (k + 1) := by
  rw [getD_el h, ← List.drop_eq_getElem_cons h, List.take_append_drop]
theorem split2 {xs : List Int} {k : Nat} (h : k + 1 < xs.length) : xs = xs.take k ++ xs.getD k 0 :: xs.getD (k + 1) 0 :: xs.drop (k + 2) := by
  rw [getD_el h, ← List.drop_eq_getElem_cons h, getD_el (by omega), ← List.drop_eq_getElem_cons (by omega), List.take_append_drop]
theorem lone_seen {p r : Int} {xs ys : List Int} (hp : Pr p) (hr : 2 ≤ r) (hrp : r < p) (hl : xs.length = ys.length) (hx : ∀ x ∈ xs, 0 ≤ x ∧ x < r) (hy : ∀ y ∈ ys, 0 ≤ y ∧ y < r)
    (h : (pl xs ys).length = 1 ∨ ((pl xs ys).length = 2 ∧ ys.Perm xs ∧ (pl xs ys).getD 1 0 = (pl xs ys).getD 0 0 + 1)) : ¬ (stk r 0 xs - stk r 0 ys) % p = 0 := by
  have gx : ∀ i, i < xs.length → 0 ≤ xs.getD i 0 ∧ xs.getD i 0 < r := fun i hi => by
    rw [getD_el hi]
    exact hx _ (List.getElem_mem hi)
  have gy : ∀ i, i < xs.length → 0 ≤ ys.getD i 0 ∧ ys.getD i 0 < r := fun i hi => by
    rw [getD_el (by omega)]
    exact hy _ (List.getElem_mem (by omega))
  rcases h with h | ⟨h, hq, hn⟩
  · obtain ⟨k, hk⟩ := List.length_eq_one_iff.mp h
    have mk : ∀ i, i ∈ pl xs ys ↔ i = k := fun i => by rw [hk]; simp
    obtain ⟨k1, k2⟩ := pl_mem.mp ((mk k).mpr rfl)
    have e1 := split1 k1
    have e2 := split1 (xs := ys) (k := k) (by omega)
    rw [← part_take hl (k := k) fun i hi z => by have := (mk i).mp z; omega, ← part_drop hl (k := k + 1) fun i hi z => by have := (mk i).mp z; omega] at e2
    rw [e1, e2]
    exact one_seen hp hr hrp (gx k k1) (gy k k1) k2
  · obtain ⟨k, j, hk⟩ : ∃ k j, pl xs ys = [k, j] := by
      match hh : pl xs ys, h with
      | [a, b], _ => exact ⟨a, b, rfl⟩
    rw [hk] at hn
    have hj : j = k + 1 := hn
    subst hj
    have mk : ∀ i, i ∈ pl xs ys ↔ i = k ∨ i = k + 1 := fun i => by rw [hk]; simp
    obtain ⟨k1, k2⟩ := pl_mem.mp ((mk k).mpr (.inl rfl))
    obtain ⟨j1, j2⟩ := pl_mem.mp ((mk (k + 1)).mpr (.inr rfl))
    have e1 := split2 j1
    have e2 := split2 (xs := ys) (k := k) (by omega)
    rw [← part_take hl (k := k) fun i hi z => by have := (mk i).mp z; omega, ← part_drop hl (k := k + 2) fun i hi z => by have := (mk i).mp z; omega] at e2
    have hq2 := hq
    rw [e1] at hq2
    have hq3 : (xs.take k ++ ys.getD k 0 :: ys.getD (k + 1) 0 :: xs.drop (k + 2)).Perm (xs.take k ++ xs.getD k 0 :: xs.getD (k + 1) 0 :: xs.drop (k + 2)) := by
      rw [← e2]
      exact hq2
    have hq4 := (List.perm_append_left_iff _).mp hq3
    have hq5 : ([ys.getD k 0, ys.getD (k + 1) 0] ++ xs.drop (k + 2)).Perm ([xs.getD k 0, xs.getD (k + 1) 0] ++ xs.drop (k + 2)) := hq4
    have hq6 := (List.perm_append_right_iff _).mp hq5
    have m1 : ys.getD k 0 ∈ [xs.getD k 0, xs.getD (k + 1) 0] := hq6.mem_iff.mp (by simp)
    have m2 : ys.getD (k + 1) 0 ∈ [xs.getD k 0, xs.getD (k + 1) 0] := hq6.mem_iff.mp (by simp)
    simp only [List.mem_cons, List.not_mem_nil, or_false] at m1 m2
    have f1 : ys.getD k 0 = xs.getD (k + 1) 0 := m1.resolve_left fun z => k2 z.symm
    have f2 : ys.getD (k + 1) 0 = xs.getD k 0 := m2.resolve_right fun z => j2 z.symm
    rw [f1, f2] at e2
    rw [e1, e2]
    exact two_seen hp hr hrp (gx k k1) (gx (k + 1) j1) (by rw [f1] at k2; exact k2)
theorem apart_ok {b p : Int} {o r : List Int} (hb : 3 ≤ b) (hb2 : b ≤ 256) (hp : fitsI p = true) (ho : ∀ x ∈ o, 0 ≤ x ∧ x < b - 1) (hr : ∀ x ∈ r, 0 ≤ x ∧ x < b - 1) (hl : r.length = o.length) :
    apart (.int b) (.int p) (itup o) (itup r) = .ok (.bool (apartI b p o r)) := by
  have e1 : isB3 (.int b) = true := by
    unfold isB3
    simp
    omega
  have l1 : ∀ l : List Int, toL (itup l) = l := fun l => by
    unfold itup toL
    simp [toI, Function.comp_def]
  have d1 : isDig (toI (.int b) - 1) (itup o) = true := dig_mk ho
  have d2 : isDig (toI (.int b) - 1) (itup r) = true := dig_mk hr
  have e2 : fitsM (.int p) = true := hp
  unfold apart
  rw [if_pos e1, if_pos e2, if_pos d1, d2, l1, l1, hl, decide_eq_true rfl]
  rfl
theorem apart_sym (b p : Int) (o r : List Int) : apartI b p r o = apartI b p o r := by
  unfold apartI
  congr 2
  refine propext ⟨fun h => ?_, fun h => ?_⟩
  · have := Int.dvd_neg.mpr (Int.dvd_of_emod_eq_zero h)
    rw [Int.neg_sub] at this
    exact Int.emod_eq_zero_of_dvd this
  · have := Int.dvd_neg.mpr (Int.dvd_of_emod_eq_zero h)
    rw [Int.neg_sub] at this
    exact Int.emod_eq_zero_of_dvd this
theorem apart_zero {b p : Int} {o r : List Int} (h : stk (b - 1) 0 o % p = 0) : (!decide (stk (b - 1) 0 r % p = 0)) = apartI b p o r := by
  unfold apartI
  congr 2
  refine propext ⟨fun h2 => ?_, fun h2 => ?_⟩
  · exact Int.emod_eq_zero_of_dvd (Int.dvd_sub (Int.dvd_of_emod_eq_zero h) (Int.dvd_of_emod_eq_zero h2))
  · have := Int.dvd_sub (Int.dvd_of_emod_eq_zero h) (Int.dvd_of_emod_eq_zero h2)
    have e : stk (b - 1) 0 o - (stk (b - 1) 0 o - stk (b - 1) 0 r) = stk (b - 1) 0 r := by omega
    rw [e] at this
    exact Int.emod_eq_zero_of_dvd this
theorem eqv_ints : ∀ {a c : List Int}, PyData.eqv (.list (a.map .int)) (.list (c.map .int)) = true → a = c := fun {a c} h => by
  simp only [PyData.eqv] at h
  revert c
  induction a with
  | nil =>
    intro c h
    cases c with
    | nil => rfl
    | cons y c => simp [PyData.eqvAll] at h
  | cons x a ih =>
    intro c h
    cases c with
    | nil => simp [PyData.eqvAll] at h
    | cons y c =>
      simp [PyData.eqvAll, PyData.eqv] at h
      rw [h.1, ih h.2]
theorem frm_one {b : Int} {ds : List Int} (h : ∀ x ∈ ds, x ≠ b - 1) : frm b ((b - 1) :: (ds ++ [b - 1])) = [stk (b - 1) 0 ds] := by
  unfold frm
  rw [frmG, if_pos rfl, frmG_skip b ds _ [] h, List.nil_append, frmG, if_pos rfl, frmG]
def rot4 {α : Type} : List α → List α
  | [a, b, c, d] => [b, d, c, a]
  | l => l
def rot3 {α : Type} : List α → List α
  | [a, b, c] => [b, c, a]
  | l => l
theorem rot4_ok {K : Frg} (fa : Option Addr) (B : Hp) (vs : List V) (as : List Ar) (hl : as.length = 4) (p : Paired (ArOk K fa B) vs as) : Paired (ArOk K fa B) (rot4 vs) (rot4 as) := by
  match as, hl, p with
  | [_, _, _, _], _, .cons h1 (.cons h2 (.cons h3 (.cons h4 .nil))) => exact .cons h2 (.cons h4 (.cons h3 (.cons h1 .nil)))
theorem rot3_ok {K : Frg} (fa : Option Addr) (B : Hp) (vs : List V) (as : List Ar) (hl : as.length = 3) (p : Paired (ArOk K fa B) vs as) : Paired (ArOk K fa B) (rot3 vs) (rot3 as) := by
  match as, hl, p with
  | [_, _, _], _, .cons h1 (.cons h2 (.cons h3 .nil)) => exact .cons h2 (.cons h3 (.cons h1 .nil))
structure KnB (P : Program) (w : World) (K : Frg) (mg : Str → Option Value) (base : Heap) (T : List (Addr × Str)) (j : Nat) : Prop where
  chg : Kn P w K mg base T j "_law_changes" ["_law_feed_here", "_law_base", "_law_prime", "_law_body"] preChg
  isap : Kn P w K mg base T j "_law_is_apart" ["_law_base", "_law_prime", "_law_left", "_law_right"] preApart
  apK : KnK P w K mg base T j "seen_apart" ["base", "modulus", "one", "other"] ["other", "base", "one", "modulus"] (fun _ vs => rot4 vs) (pf4 (fun _ _ o r => Sm o ∧ Sm r) apart)
  stks : Kn P w K mg base T j "_law_stacks" ["_law_feed_here", "_law_base"] preStks
  tape : Kn P w K mg base T j "_law_tape" ["_law_base", "_law_heaps"] preTape
  whole : Kn P w K mg base T j "_law_whole" ["_law_starts", "_law_heaps", "_law_low", "_law_high"] preWhole
  losses : Kn P w K mg base T j "_law_losses" ["_law_tape_here", "_law_starts"] preLosses
  told : Kn P w K mg base T j "_law_loss_told" ["_law_starts"] preTold
  strK : KnK P w K mg base T j "stream_of" ["base", "stacks"] ["stacks", "base"] (fun _ vs => sw vs) preStr
  stsK : KnK P w K mg base T j "starts_of" ["base", "stream"] ["stream", "base"] (fun _ vs => sw vs) preSts
  frmK : KnK P w K mg base T j "frames_in" ["base", "scrap"] ["scrap", "base"] (fun _ vs => sw vs) preFrm
  shoK : KnK P w K mg base T j "shortest_loss" ["base", "stream", "many"] ["many", "base", "stream"] (fun _ vs => rot3 vs) preSho
local macro_rules | `(tactic| walk_at "pb v") => `(tactic| first
  | refine ex_v 0 rfl ?_ | refine ex_v 1 rfl ?_ | refine ex_v 2 rfl ?_ | refine ex_v 3 rfl ?_ | refine ex_v 4 rfl ?_ | refine ex_v 5 rfl ?_ | refine ex_v 6 rfl ?_ | refine ex_v 7 rfl ?_
  | refine ex_v 8 rfl ?_ | refine ex_v 9 rfl ?_ | refine ex_v 10 rfl ?_ | refine ex_v 11 rfl ?_ | refine ex_v 12 rfl ?_ | refine ex_v 13 rfl ?_ | refine ex_v 14 rfl ?_)
local macro_rules | `(tactic| walk_at "pb x") => `(tactic| first
  | refine ex_i ?_ | ((with_reducible show EX _ _ (Expr.Name _ _) _ _ _ _); walk_at "pb v") | refine ex_addJ ?_ | refine ex_sub ?_ | refine ex_s ?_ | refine ex_n ?_ | refine ex_b ?_ | refine ex_neg ?_
  | refine ex_mulJ ?_ | refine ex_mod ?_ | refine ex_div ?_ | refine ex_pow ?_ | refine ex_lt ?_ | refine ex_eq ?_ | refine ex_ne ?_ | refine ex_gt ?_ | refine ex_ge ?_ | ((fail_if_success (with_reducible show EX _ _ (Expr.Subscript _ (Expr.Constant (Const.str _) _ _) _) _ _ _ _)); refine ex_ixJ ?_)
  | refine ex_and ?_ | refine ex_or ?_ | refine ex_one ?_ | refine ex_not ?_ | refine ex_ite ?_ | refine ex_tup ?_ | refine ex_l (el_ls ?_) | refine ex_isInt ‹_› ?_ | refine ex_isBool ‹_› ?_ | refine ex_isTup ‹_› ?_)
local macro_rules | `(tactic| walk_at "pb t") => `(tactic| first
  | refine et_lt ?_ | refine et_eq ?_ | refine et_ne ?_ | refine et_le ?_ | refine et_gt ?_ | refine et_ge ?_ | refine et_nt ?_ | refine et_w (ew_and ?_) | refine et_w (ew_or ?_) | refine et_v ?_)
local macro_rules | `(tactic| walk_at "pb e") => `(tactic| first
  | ((with_reducible show EX _ _ _ _ _ _ _); walk_at "pb x")
  | with_reducible refine xi2 ?_ | with_reducible refine xi ?_ | with_reducible refine xb ?_ | with_reducible refine xsi ?_ | with_reducible refine xl ?_ | with_reducible refine xt ?_
  | with_reducible refine xd0 ?_ | with_reducible refine xd1 ?_ | with_reducible refine xd2 ?_ | with_reducible refine xd3 ?_ | with_reducible refine xd4 ?_ | with_reducible refine xd5 ?_ | with_reducible refine xd6 ?_ | with_reducible refine xd7 ?_ | with_reducible refine xd8 ?_ | with_reducible refine xd9 ?_ | with_reducible refine xd10 ?_ | with_reducible refine xd11 ?_ | with_reducible refine xd12 ?_ | with_reducible refine xd13 ?_ | with_reducible refine xd14 ?_ | with_reducible refine ifT ?_ | with_reducible refine ifF ?_ | with_reducible refine add_int ?_ | with_reducible refine ix_l ?_
  | with_reducible refine len_t ?_ | with_reducible refine len_l ?_ | with_reducible refine tup_t ?_ | with_reducible refine tup_l ?_
  | with_reducible refine nx_nxt ?_ | with_reducible refine rt_nxt ?_ | with_reducible refine er_nxt ?_ | with_reducible refine bk_nxt ?_ | with_reducible refine ct_nxt ?_ | with_reducible refine fin_rt ?_ | with_reducible refine fin_nx ?_ | with_reducible refine fin_er ?_ 
  | with_reducible refine nx_lp ?_ | with_reducible refine bk_lp ?_ | with_reducible refine ct_lp ?_ | with_reducible refine rt_lp ?_ | with_reducible refine er_lp ?_ | with_reducible refine okp_ok ?_
  | ((with_reducible show ET _ _ _ _ _ _ _); walk_at "pb t")
  | ((with_reducible show EW _ _ _ _ _ _ _); first | refine ew_and ?_ | refine ew_or ?_ | refine ew_and1 ?_ | refine ew_or1 ?_)
  | ((with_reducible show SB _ _ _ _ _ _ _); first | refine sb_cons ?_ | refine sb_nil ?_)
  | ((with_reducible show SX _ _ _ _ _ _ _); first | refine sx_ret ?_ | refine sx_if ?_)
  | ((with_reducible show EO _ _ _ _ _ _ _); first | refine eo_s ?_ | refine eo_n ?_)
  | ((with_reducible show EK _ _ _ _ _ _ _); first | refine ek_c ?_ | refine ek_0 ?_)
  | ((with_reducible show EA _ _ _ _ _ _ _); first | refine ea_c ?_ | refine ea_0 ?_))
local macro_rules | `(tactic| walk_at "pb") => `(tactic| repeat walk_at "pb e")
section
variable {P : Program} {w : World} {K : Frg} {mg : Str → Option Value} {base : Heap} {f : Addr} {fd : FuncData} {T : List (Addr × Str)} {k : Nat}
theorem sc54 : FnScope ["_law_feed_here", "_law_base", "_law_prime", "_law_heap_here", "_law_body", "_law_near", "_law_due", "_law_full", "_law_told", "_law_places", "_law_lone", "_law_found", "_law_k"] ["_law_feed_here"] (defScope (top 54)) := ⟨rfl, rfl, rfl, by decide +kernel, rfl, by decide +kernel, by decide +kernel⟩
theorem g_changes_seen (F : FnT K "_law_are_changes_seen" 54 f fd) (b : Blt mg) (kp : KnP P w K mg base T k) (kf : KnF P w K mg base T k) (ka : KnA P w K mg base T k) (kb : KnB P w K mg base T k) (ks : KnG P w K mg base k "_law_same" ["_law_told", "_law_due"] (prom K T preSame)) :
    FnG P w K mg base (k + 1) f fd ["_law_feed_here"] (prom K T (preTest 300)) := by
  refine fng_pb F sc54 (fun as n Φ ⟨h, _⟩ => by rw [h]; rfl) fun cdv A outer s H E fa B as n Φ hgd hr hp => ?_
  obtain ⟨rfl, hn, h⟩ := hp
  walk_at "pb"
  refine sx_par 1 2 rfl sc54.nd (ex_call kp.any hr rfl (ea_f 0 rfl (ea_c ?_)))
  walk_at "pb"
  refine ⟨_, rfl, by simp, by simp, by omega, fun d hd => ?_⟩
  have hp : ∃ q : Int, d = .int q ∧ 3 ≤ q ∧ q ≤ 256 := by
    simp only [List.mem_cons, List.not_mem_nil, or_false] at hd
    rcases hd with rfl | rfl | rfl | rfl | rfl | rfl | rfl <;> exact ⟨_, rfl, by decide, by decide⟩
  obtain ⟨bs, rfl, hb0, hb1⟩ := hp
  walk_at "pb"
  refine ex_call kp.any hr rfl (ea_f 0 rfl (ea_c ?_))
  walk_at "pb"
  refine ⟨_, rfl, by simp, by simp, by omega, fun d hd => ?_⟩
  have hp : ∃ q : Int, d = .int q ∧ fitsI q = true ∧ Pr q := by
    simp only [List.mem_cons, List.not_mem_nil, or_false] at hd
    rcases hd with rfl | rfl | rfl | rfl | rfl | rfl | rfl
    · exact ⟨_, rfl, by decide +kernel, pr_of (q := 7) (by decide +kernel)⟩
    · exact ⟨_, rfl, by decide +kernel, pr_of (q := 2) (by decide +kernel)⟩
    · exact ⟨_, rfl, by decide +kernel, pr_of (q := 3) (by decide +kernel)⟩
    · exact ⟨_, rfl, by decide +kernel, pr_of (q := 5) (by decide +kernel)⟩
    · exact ⟨_, rfl, by decide +kernel, pr_of (q := 13) (by decide +kernel)⟩
    · exact ⟨_, rfl, by decide +kernel, pr_of (q := 11) (by decide +kernel)⟩
    · exact ⟨_, rfl, by decide +kernel, pr_of (q := 293) (by decide +kernel)⟩
  obtain ⟨p, rfl, hfp, hpr⟩ := hp
  have hp2 := fitsI_le hfp
  walk_at "pb"
  refine sx_asg 3 sc54.nd ?_
  walk_at "pb"
  refine ex_call kp.draw hr rfl (ea_f 0 rfl ?_)
  walk_at "pb"
  refine ex_call kp.draw hr rfl (ea_f 0 rfl ?_)
  walk_at "pb"
  refine ⟨3, rfl, by omega, by omega, by omega, fun wy hw0 hw1 => ?_⟩
  walk_at "pb"
  have key : ∃ q : Int, [PyData.int 40, PyData.int 4000, PyData.int 400000][wy.toNat]? = some (.int q) ∧ 1 ≤ q ∧ q ≤ 400000 := by
    have hw : wy = 0 ∨ wy = 1 ∨ wy = 2 := by omega
    rcases hw with rfl | rfl | rfl
    · exact ⟨40, rfl, by omega, by omega⟩
    · exact ⟨4000, rfl, by omega, by omega⟩
    · exact ⟨400000, rfl, by omega, by omega⟩
  obtain ⟨q', hq, hq0', hq1'⟩ := key
  refine ix_li hw0 hq ?_
  walk_at "pb"
  refine ⟨q', rfl, hq0', by omega, by omega, fun v hv0 hv1 => ?_⟩
  walk_at "pb"
  refine mul_int (mulR (by omega) (by omega)) ?_
  walk_at "pb"
  have hh0 : 0 ≤ p * v := Int.mul_nonneg (by omega) hv0
  have hh1 : p * v ≤ 300 * 400000 := Int.mul_le_mul (by omega) (by omega) (by omega) (by omega)
  have hhm : p * v % p = 0 := Int.mul_emod_right _ _
  generalize hhe : p * v = hp' at hh0 hh1 hhm
  have c900 : (300 * 400000 : Int) < 2 ^ 900 := by decide +kernel
  refine sx_asg 4 sc54.nd (ex_call kf.line hr rfl ?_)
  walk_at "pb"
  refine ⟨bs - 1, hp', rfl, by omega, by omega, by omega, by omega, ?_⟩
  have hbd := row_dig' (r := bs - 1) (h := hp') (by omega)
  have hbl := row_len (h := 0) (r := bs - 1) (by omega) 27 hp' (by omega)
  have hbs := stk_row' (r := bs - 1) (h := hp') (by omega) hh0
  generalize row (bs - 1) hp' = body at hbd hbl hbs
  rw [← hbs] at hhm
  unfold itup
  walk_at "pb"
  have gB : ∀ i, i < body.length → (body.map PyData.int)[i]? = some (.int (body.getD i 0)) := fun i hi => by
    rw [List.getElem?_map, List.getD_eq_getElem?_getD, List.getElem?_eq_getElem hi]
    rfl
  refine sx_for 5 rfl sc54.nd (wx_list (ex_call kb.chg hr rfl (ea_f 0 rfl ?_)))
  walk_at "pb"
  refine ⟨bs, p, body, rfl, hb0, hb1, by omega, by omega, hbd, by omega, by omega, fun L hL0 hL1 hL => ?_⟩
  walk_at "pb"
  rw [List.length_map]
  refine ⟨fun i ρ' μ' n' => ∃ (u1 u2 u3 u4 u5 u6 : Sl), ρ' = [.fd, .im (.int bs), .im (.int p), .im (.int hp'), .im (.tuple (body.map .int)), u1, u2, u3, u4, u5, u6, .un, .un] ∧ μ' = [] ∧ n' = n + 208 ∧ (0 < i → ∃ near, near ∈ L ∧ u1 = .im (.tuple (near.map .int)) ∧ u3 = .im (.int (stk (bs - 1) 0 near))), ⟨_, _, _, _, _, _, rfl, rfl, rfl, fun z => absurd z (Nat.lt_irrefl 0)⟩, ?_, ?_⟩
  · rintro i _ _ _ hi ⟨u1, u2, u3, u4, u5, u6, rfl, rfl, rfl, -⟩
    have eN : (L.map itup).getD i .none = .tuple ((L.getD i []).map .int) := by
      rw [List.getD_eq_getElem?_getD, List.getD_eq_getElem?_getD, List.getElem?_map, List.getElem?_eq_getElem hi]
      rfl
    have mN : L.getD i [] ∈ L := by
      rw [List.getD_eq_getElem?_getD, List.getElem?_eq_getElem hi]
      exact List.getElem_mem hi
    dsimp only
    rw [eN]
    generalize L.getD i [] = near at mN
    clear eN
    obtain ⟨nl, nd⟩ := hL near mN
    have gN : ∀ i, i < body.length → (near.map PyData.int)[i]? = some (.int (near.getD i 0)) := fun i hi => by
      rw [List.getElem?_map, List.getD_eq_getElem?_getD, List.getElem?_eq_getElem (show i < near.length by omega)]
      rfl
    walk_at "pb"
    refine sx_par 6 7 rfl sc54.nd (ex_call kb.isap hr rfl ?_)
    walk_at "pb"
    refine ⟨bs, p, body, near, rfl, by omega, by omega, by omega, by omega, by omega, by omega, ?_⟩
    walk_at "pb"
    refine ex_call kf.stack hr rfl ?_
    walk_at "pb"
    refine ⟨bs - 1, near, _, rfl, .inl rfl, by omega, by omega, ?_⟩
    walk_at "pb"
    have a1 := apart_ok hb0 hb1 hfp hbd nd (by omega)
    have a2 := apart_ok hb0 hb1 hfp nd hbd (by omega)
    have a3 := apart_zero (b := bs) (p := p) (r := near) hhm
    have sn0 : 0 ≤ stk (bs - 1) 0 near := stk_nonneg (by omega) near 0 (by omega) fun x hx => (nd x hx).1
    have s1 := spoC_ok sn0 hfp
    rw [a3] at s1
    rw [apart_sym] at a2
    unfold itup at a1 a2
    have sm1 : Sm (.tuple (body.map .int)) := by show (body.map PyData.int).length ≤ 100000; rw [List.length_map]; omega
    have sm2 : Sm (.tuple (near.map .int)) := by show (near.map PyData.int).length ≤ 100000; rw [List.length_map]; omega
    have hsee : (pl body near).length = 1 ∨ ((pl body near).length = 2 ∧ near.Perm body ∧ (pl body near).getD 1 0 = (pl body near).getD 0 0 + 1) → bs < p → apartI bs p body near = true := fun z hlt => by
      unfold apartI
      rw [decide_eq_false (lone_seen hpr (by omega) (by omega) nl.symm hbd nd z)]
      rfl
    generalize apartI bs p body near = due at a1 a2 s1 hsee
    refine sx_asg 8 sc54.nd ?_
    walk_at "pb"
    refine ex_call ka.ap hr rfl ?_
    walk_at "pb"
    refine ⟨_, _, _, _, rfl, ⟨sm1, sm2⟩, ?_⟩
    rw [a1]
    walk_at "pb"
    refine ex_callK kb.apK hr rfl rot4 rot4_ok ?_
    walk_at "pb"
    refine ⟨rfl, _, _, _, _, rfl, ⟨sm2, sm1⟩, ?_⟩
    rw [a2]
    walk_at "pb"
    refine ex_g ks hgd hr rfl ?_
    walk_at "pb"
    refine ex_call kp.spo hr rfl ?_
    walk_at "pb"
    refine ⟨_, _, rfl, trivial, ?_⟩
    rw [s1]
    walk_at "pb"
    refine add_lst (by simp) ?_
    walk_at "pb"
    refine mul_rep3 ?_
    walk_at "pb"
    refine ⟨_, rfl, ?_, ?_⟩
    · exact (rp_lst (rpa_cons (rp_bool _) (rpa_cons (rp_bool _) (rpa_cons (rp_bool _) rpa_nil)))).mono (by omega) (by omega)
    walk_at "pb"
    refine ifF ?_
    walk_at "pb"
    refine sx_lcN 9 12 rfl sc54.nd (lcP (wx_range1 b.range ?_))
    refine ex_lenJ b.len ?_
    walk_at "pb"
    rw [List.length_map]
    refine ⟨by omega, by omega, by omega, fun i => !decide (body.getD i 0 = near.getD i 0), fun i => .int i, fun i acc hi => btx1 fun s0 H0 C' cl fp => ?_, fun i acc hi _ => bex fun s0 H0 C' cl fp => ?_, ?_⟩
    · walk_at "pb"
      refine ix_t ⟨_, gB i (by omega), ?_⟩
      walk_at "pb"
      refine ix_t ⟨_, gN i (by omega), ?_⟩
      walk_at "pb"
      exact ⟨rfl, rfl⟩
    · walk_at "pb"
      exact ⟨rfl, rfl⟩
    have eM : ((List.range ((body.length : Int).toNat)).filter fun i => !decide (body.getD i 0 = near.getD i 0)) = pl body near := by
      rw [Int.toNat_natCast]
      rfl
    rw [eM]
    generalize pl body near = M at hsee
    walk_at "pb"
    refine sx_asg 10 sc54.nd (Ev.imp (Φ := fun d n' => ∃ l : Bool, d = .bool l ∧ n' = n + 208 ∧ (l = true → bs < p → due = true)) ?_ fun d n' ⟨l, e1, e2, hlo⟩ => ?_)
    · walk_at "pb"
      refine ex_lenJ b.len ?_
      walk_at "pb"
      rw [List.length_map]
      refine ifd (fun h1 => ?_) (fun h1 => ?_)
      · exact ⟨true, rfl, rfl, fun _ hlt => hsee (.inl (by omega)) hlt⟩
      · walk_at "pb"
        refine ex_lenJ b.len ?_
        walk_at "pb"
        rw [List.length_map]
        refine ifd (fun h2 => ?_) (fun h2 => ?_)
        · have h2 : M.length = 2 := by omega
          refine ex_and (ex_eqD hr.units (ex_l (el_sort b.sorted ?_)))
          walk_at "pb"
          refine ⟨near, .inr rfl, fun q1 p1 _ => ?_⟩
          refine ex_l (el_sort b.sorted ?_)
          walk_at "pb"
          refine ⟨body, .inr rfl, fun q2 p2 _ => ⟨shaped_ints _, shaped_ints _, ?_⟩⟩
          have hE := fun z => eqv_ints (a := q1) (c := q2) z
          generalize PyData.eqv (.list (q1.map .int)) (.list (q2.map .int)) = eb at hE
          refine ⟨eb, rfl, ifb (fun h3 => ?_) (fun h3 => ?_)⟩
          · have h4 : near.Perm body := by
              have := hE h3
              rw [this] at p1
              exact p1.symm.trans p2
            obtain ⟨x, y, rfl⟩ : ∃ x y, M = [x, y] := by
              match M, h2 with
              | [x, y], _ => exact ⟨x, y, rfl⟩
            walk_at "pb"
            refine ix_li (by omega) (d := .int (y : Int)) rfl ?_
            walk_at "pb"
            refine ix_li (by omega) (d := .int (x : Int)) rfl ?_
            walk_at "pb"
            refine ⟨rfl, fun z hlt => hsee (.inr ⟨rfl, h4, ?_⟩) hlt⟩
            have := of_decide_eq_true z
            show y = x + 1
            omega
          · exact ⟨false, rfl, rfl, fun z => by cases z⟩
        · exact ⟨false, rfl, rfl, fun z => by cases z⟩
    · subst e1 e2
      walk_at "pb"
      refine ifb (fun h1 => ?_) (fun h1 => ?_)
      · walk_at "pb"
        refine ifd (fun h2 => ?_) (fun h2 => ?_)
        · walk_at "pb"
          rw [hlo h1 h2]
          refine ifF ?_
          walk_at "pb"
          exact ⟨_, _, _, _, _, _, rfl, rfl, rfl, fun _ => ⟨near, mN, rfl, rfl⟩⟩
        · walk_at "pb"
          exact ⟨_, _, _, _, _, _, rfl, rfl, rfl, fun _ => ⟨near, mN, rfl, rfl⟩⟩
      · walk_at "pb"
        exact ⟨_, _, _, _, _, _, rfl, rfl, rfl, fun _ => ⟨near, mN, rfl, rfl⟩⟩
  · rintro _ _ _ ⟨u1, u2, u3, u4, u5, u6, rfl, rfl, rfl, hz⟩
    obtain ⟨near, mN, rfl, rfl⟩ := hz hL0
    obtain ⟨nl, nd⟩ := hL near mN
    walk_at "pb e"
    refine sv_more (n + 300) (by omega) ?_
    walk_at "pb"
    refine sx_asg 11 sc54.nd (ex_call kf.frames hr rfl ?_)
    walk_at "pb"
    refine add_tup (by simp; omega) ?_
    walk_at "pb"
    refine add_tup (by simp; omega) ?_
    have eT : ([PyData.int (bs - 1)] ++ near.map .int ++ [.int (bs - 1)]) = ((bs - 1) :: (near ++ [bs - 1])).map .int := by simp
    rw [eT]
    walk_at "pb"
    refine ⟨_, _, rfl, by show (((bs - 1) :: (near ++ [bs - 1])).map PyData.int).length ≤ 100000; simp; omega, ?_⟩
    have eF := framesF_ok (b := bs) (ns := (bs - 1) :: (near ++ [bs - 1])) hb0 hb1 (fun x hx => by
      rcases List.mem_cons.mp hx with hx | hx
      · omega
      · rcases List.mem_append.mp hx with hx | hx
        · have := nd x hx
          omega
        · have := List.mem_singleton.mp hx
          omega)
    rw [frm_one fun x hx => by have := nd x hx; omega] at eF
    unfold itup at eF
    rw [eF]
    walk_at "pb"
    refine ex_g ks hgd hr rfl ?_
    walk_at "pb"
    refine ⟨_, rfl, ?_, ?_⟩
    · exact (rp_lst (rpa_cons (rp_int (stk_bound (by omega) (by omega) (fun x hx => by have := nd x hx; omega) (by omega)).2) rpa_nil)).mono (by omega) (by omega)
    walk_at "pb"
    exact h
end
end Pb

set_option Elab.async false
set_option linter.all false
set_option maxRecDepth 100000
set_option maxHeartbeats 4000000
/-! PbAI: the law's tests: frames right. -/
namespace Pb
open PySem PySem.Spec PyProof.Rows L2
theorem toL_itup (l : List Int) : toL (itup l) = l := by
  unfold itup toL
  simp [toI, Function.comp_def]
theorem b3_mk {b : Int} (hb : 3 ≤ b) (hb2 : b ≤ 256) : isB3 (.int b) = true := by
  unfold isB3
  simp
  omega
theorem streamF_ok {b : Int} {hs : List Int} (hb : 3 ≤ b) (hb2 : b ≤ 256) (h : ∀ x ∈ hs, 0 ≤ x) : streamF (.int b) (itup hs) = .ok (itup (strm b hs)) := by
  have e2 : isNums (itup hs) = true := by
    unfold itup isNums
    rw [List.all_eq_true]
    intro d hd
    obtain ⟨x, hx, rfl⟩ := List.mem_map.mp hd
    exact isNum_mk (h x hx)
  unfold streamF
  rw [if_pos (b3_mk hb hb2), if_pos e2, toL_itup]
  rfl
theorem startsF_ok {b : Int} {T : List Int} (hb : 3 ≤ b) (hb2 : b ≤ 256) (h : fitsF b (itup T) = true) : startsF (.int b) (itup T) = .ok (itup (posn b T)) := by
  unfold startsF
  rw [if_pos (b3_mk hb hb2), show toI (.int b) = b from rfl, if_pos h, toL_itup]
theorem shortF_ok {b m : Int} {T : List Int} (hb : 3 ≤ b) (hb2 : b ≤ 256) (h : fitsF b (itup T) = true) (h0 : 0 < m) (h1 : m < (posn b T).length) : shortF (.int b) (itup T) (.int m) = .ok (.int (shl (posn b T) T.length m)) := by
  have e : manyOk (posn b T) (.int m) = true := by
    show (decide (0 < m) && decide (m < (posn b T).length)) = true
    rw [decide_eq_true h0, decide_eq_true h1]
    rfl
  unfold shortF
  rw [if_pos (b3_mk hb hb2), show toI (.int b) = b from rfl, if_pos h, toL_itup, if_pos e]
  rfl
theorem strm_len {b : Int} (hb : 3 ≤ b) : ∀ {hs : List Int}, (∀ h ∈ hs, h < 2 ^ 187) → (strm b hs).length ≤ hs.length * 188 + 1 := fun {hs} h => by
  unfold strm
  rw [List.length_append, List.length_singleton]
  have : (hs.flatMap fun s => (b - 1) :: row (b - 1) s).length ≤ hs.length * 188 := by
    induction hs with
    | nil => simp
    | cons x hs ih =>
      rw [List.flatMap_cons, List.length_append, List.length_cons, List.length_cons, Nat.add_mul]
      have h1 := row_len (h := 0) (r := b - 1) (by omega) 187 x (h x (List.mem_cons_self ..))
      have h2 := ih fun y hy => h y (List.mem_cons_of_mem _ hy)
      omega
  omega
section
variable {X : Cx} {C : Ct} {ρ : List Sl} {μ : List Ce} {n : Nat} {a b c e : Expr} {pos p : Pos} {Ψ : Out → Prop} {x : Str}
/-- y = [..] on one line: a list of one's own -/
theorem sx_lcO (i j : Nat) {y : Str} {py spos : Pos} {scope : Scope} {it elt : Expr} {ifs : List Expr} {px : Pos} (hc : X.calm = true) (nd : X.N.Nodup) (h : LcN X C scope (.Name x px) it ifs elt j ρ μ n fun ds n' => Ψ (.nx (ρ.set i (.ce μ.length)) (μ ++ [.ls ds]) n')) (hy : X.N[i]? = some y := by rfl) (hyl : X.env.scope.names.lookup y = some .local := by rfl)
    (hsw : swapsWith (.ListComp elt [⟨.Name x px, it, ifs, 0⟩] scope pos) (some (.Name y py)) spos.line X.env = pure true := by exact sw_true rfl rfl rfl (by kernel_rfl)) (ok : blkC X.N X.env.scope scope [(x, j)] = true := by kernel_rfl) (hi : X.N[j]? = some x := by rfl)
    (hx : ∀ (s0 : Shared) (H0 : Hp) (C' : Addr) (cl : List (Str × Addr)) (fp : List Addr), Loc (X.blk s0 H0 scope (compEnvC scope cl C' X.env) fp).env.scope x := by first | exact fun _ _ _ _ _ => .inl rfl | exact fun _ _ _ _ _ => .inr rfl)
    (hf : ∀ (s0 : Shared) (H0 : Hp) (C' : Addr) (cl : List (Str × Addr)) (fp : List Addr), (X.blk s0 H0 scope (compEnvC scope cl C' X.env) fp).fn x = true ∨ (X.blk s0 H0 scope (compEnvC scope cl C' X.env) fp).env.scope.names.lookup x = some .local := by first | exact fun _ _ _ _ _ => .inr rfl | exact fun _ _ _ _ _ => .inl rfl)
    (hs : ∀ y, foldedSetIterable it X.env y = pure y := by intro _; rfl) : SX X C (.Assign [.Name y py] (.ListComp elt [⟨.Name x px, it, ifs, 0⟩] scope pos) spos) ρ μ n Ψ :=
  sx_of (ps_setLc (i := i) (own := [(x, j)]) (g := gName j) (tt := canBT X scope ifs) (te := canBE X scope elt) hc nd hy hyl hsw pi_can (blkOk_by ok) (fun s0 H0 C' cl fp => pg_name nd hi (hx s0 H0 C' cl fp) (hf s0 H0 C' cl fp)) (fun s0 H0 C' cl fp => pbt_can s0 H0 C' cl fp) (fun s0 H0 C' cl fp => pbe_can s0 H0 C' cl fp) hs) (sv_asgL (lcn h))
end
theorem loss_len (P : List Int) (N : Nat) (L : Int) : (lossL P N L).length = N := by
  unfold lossL
  rw [List.length_map, List.length_range]
theorem eqv_tnil (ns : List Int) : PyData.eqv (.tuple (ns.map .int)) (.tuple []) = ns.isEmpty := by
  cases ns <;> simp [PyData.eqv, PyData.eqvAll]
theorem shaped_tup (ns : List Int) : SeqAt.shaped (.tuple (ns.map .int)) = true := by
  have h1 : ∀ l : List Int, PyData.canLayAll0 (l.map .int) = true := fun l => by
    induction l with
    | nil => rfl
    | cons x l ih => simp only [List.map_cons, PyData.canLayAll0, PyData.canLay0, ih, Bool.and_self]
  have h2 : ∀ l : List Int, PyData.depthAll (l.map .int) ≤ 1 := fun l => by
    induction l with
    | nil => decide
    | cons x l ih => simp only [List.map_cons, PyData.depthAll, PyData.depth]; omega
  have h3 := h2 ns
  unfold SeqAt.shaped
  rw [Bool.and_eq_true]
  refine ⟨h1 ns, decide_eq_true ?_⟩
  simp only [PyData.depth]
  omega
/-- what the reprs need -/
theorem rp_itup {ns : List Int} {m : Nat} (h : ∀ x ∈ ns, x.natAbs < 10 ^ 90) (hl : ns.length ≤ m) : Rp m 1 (.tuple (ns.map .int)) := (rp_tup (rpa_ints h)).mono hl (Nat.le_refl _)
theorem rp_ilst {ns : List Int} {m : Nat} (h : ∀ x ∈ ns, x.natAbs < 10 ^ 90) (hl : ns.length ≤ m) : Rp m 1 (.list (ns.map .int)) := (rp_lst (rpa_ints h)).mono hl (Nat.le_refl _)
theorem small90 {x : Int} (h0 : 0 ≤ x) (h1 : x < 10 ^ 56) : x.natAbs < 10 ^ 90 := by
  have : (x.natAbs : Int) < ((10 ^ 90 : Nat) : Int) := by
    have e : ((10 ^ 90 : Nat) : Int) = 10 ^ 90 := by decide
    have e2 : (10 : Int) ^ 56 < 10 ^ 90 := by decide
    rw [e]
    omega
  exact Int.ofNat_lt.mp this
theorem whole_mem {P hs : List Int} {lo hi : Int} {x : Int} (h : x ∈ wholeL P hs lo hi) : x ∈ hs := by
  unfold wholeL at h
  obtain ⟨f, hf, rfl⟩ := List.mem_map.mp h
  have := List.mem_range.mp (List.mem_filter.mp hf).1
  rw [List.getD_eq_getElem?_getD, List.getElem?_eq_getElem this]
  exact List.getElem_mem this
theorem whole_len (P hs : List Int) (lo hi : Int) : (wholeL P hs lo hi).length ≤ hs.length := by
  unfold wholeL
  rw [List.length_map]
  exact Nat.le_trans (List.length_filter_le _ _) (by rw [List.length_range]; exact Nat.le_refl _)
theorem posn_bd {b : Int} {T : List Int} {x : Int} (h : x ∈ posn b T) : 0 ≤ x ∧ x < T.length := by
  unfold posn at h
  obtain ⟨i, hi, rfl⟩ := List.mem_map.mp h
  have := List.mem_range.mp (List.mem_filter.mp hi).1
  omega
theorem loss_bd {P : List Int} {N : Nat} {L : Int} (M : Marks P N L) {x : Int} (h : x ∈ lossL P N L) : 1 ≤ x ∧ x ≤ L := by
  unfold lossL at h
  obtain ⟨i, hi, rfl⟩ := List.mem_map.mp h
  have hi := List.mem_range.mp hi
  obtain ⟨lo, hi', h1, h2, _, h3⟩ := loss_at M (m := i + 1) (by omega) (by omega)
  rw [h3]
  omega
theorem sort2 {x y : Int} {l : List Int} (hp : l.Perm [x, y]) (hs : l.Pairwise (· ≤ ·)) : ∃ lo hi, l = [lo, hi] ∧ lo ≤ hi ∧ (lo = x ∨ lo = y) ∧ (hi = x ∨ hi = y) := by
  have hl := hp.length_eq
  match l, hl, hp, hs with
  | [a, c], _, hp, hs =>
    refine ⟨a, c, rfl, ?_, ?_, ?_⟩
    · exact (List.pairwise_cons.mp hs).1 c (by simp)
    · have := hp.mem_iff.mp (show a ∈ [a, c] by simp)
      simpa using this
    · have := hp.mem_iff.mp (show c ∈ [a, c] by simp)
      simpa using this
theorem loss_last {P : List Int} {N : Nat} {L : Int} (h : 0 < N) : cutL ((lossL P N L).map PyData.int) (some ((N : Int) - 1)) none = [.int (shl P L N)] := by
  have e : (N : Int) - 1 = ((N - 1 : Nat) : Int) := by omega
  rw [e, cut_lo]
  have hl : ((lossL P N L).map PyData.int).length = N := by rw [List.length_map, loss_len]
  rw [List.drop_eq_getElem_cons (by omega), List.drop_of_length_le (by omega)]
  unfold lossL
  simp only [List.getElem_map, List.getElem_range]
  have e2 : ((N - 1 + 1 : Nat) : Int) = (N : Int) := by omega
  rw [e2]
local macro_rules | `(tactic| walk_at "pb v") => `(tactic| first
  | refine ex_v 0 rfl ?_ | refine ex_v 1 rfl ?_ | refine ex_v 2 rfl ?_ | refine ex_v 3 rfl ?_ | refine ex_v 4 rfl ?_ | refine ex_v 5 rfl ?_ | refine ex_v 6 rfl ?_ | refine ex_v 7 rfl ?_
  | refine ex_v 8 rfl ?_ | refine ex_v 9 rfl ?_ | refine ex_v 10 rfl ?_ | refine ex_v 11 rfl ?_ | refine ex_v 12 rfl ?_ | refine ex_v 13 rfl ?_ | refine ex_v 14 rfl ?_)
local macro_rules | `(tactic| walk_at "pb x") => `(tactic| first
  | refine ex_i ?_ | ((with_reducible show EX _ _ (Expr.Name _ _) _ _ _ _); walk_at "pb v") | refine ex_addJ ?_ | refine ex_sub ?_ | refine ex_s ?_ | refine ex_n ?_ | refine ex_b ?_ | refine ex_neg ?_
  | refine ex_mulJ ?_ | refine ex_mod ?_ | refine ex_div ?_ | refine ex_pow ?_ | refine ex_lt ?_ | refine ex_eq ?_ | refine ex_ne ?_ | refine ex_gt ?_ | refine ex_ge ?_ | ((fail_if_success (with_reducible show EX _ _ (Expr.Subscript _ (Expr.Constant (Const.str _) _ _) _) _ _ _ _)); refine ex_ixJ ?_)
  | refine ex_and ?_ | refine ex_or ?_ | refine ex_one ?_ | refine ex_not ?_ | refine ex_ite ?_ | refine ex_tup ?_ | refine ex_l (el_ls ?_) | refine ex_isInt ‹_› ?_ | refine ex_isBool ‹_› ?_ | refine ex_isTup ‹_› ?_)
local macro_rules | `(tactic| walk_at "pb t") => `(tactic| first
  | refine et_lt ?_ | refine et_eq ?_ | refine et_ne ?_ | refine et_le ?_ | refine et_gt ?_ | refine et_ge ?_ | refine et_nt ?_ | refine et_w (ew_and ?_) | refine et_w (ew_or ?_) | refine et_v ?_)
local macro_rules | `(tactic| walk_at "pb e") => `(tactic| first
  | ((with_reducible show EX _ _ _ _ _ _ _); walk_at "pb x")
  | with_reducible refine xi2 ?_ | with_reducible refine xi ?_ | with_reducible refine xb ?_ | with_reducible refine xsi ?_ | with_reducible refine xl ?_ | with_reducible refine xt ?_
  | with_reducible refine xd0 ?_ | with_reducible refine xd1 ?_ | with_reducible refine xd2 ?_ | with_reducible refine xd3 ?_ | with_reducible refine xd4 ?_ | with_reducible refine xd5 ?_ | with_reducible refine xd6 ?_ | with_reducible refine xd7 ?_ | with_reducible refine xd8 ?_ | with_reducible refine xd9 ?_ | with_reducible refine xd10 ?_ | with_reducible refine xd11 ?_ | with_reducible refine xd12 ?_ | with_reducible refine xd13 ?_ | with_reducible refine xd14 ?_ | with_reducible refine ifT ?_ | with_reducible refine ifF ?_ | with_reducible refine add_int ?_ | with_reducible refine ix_l ?_
  | with_reducible refine len_t ?_ | with_reducible refine len_l ?_ | with_reducible refine tup_t ?_ | with_reducible refine tup_l ?_
  | with_reducible refine nx_nxt ?_ | with_reducible refine rt_nxt ?_ | with_reducible refine er_nxt ?_ | with_reducible refine bk_nxt ?_ | with_reducible refine ct_nxt ?_ | with_reducible refine fin_rt ?_ | with_reducible refine fin_nx ?_ | with_reducible refine fin_er ?_ 
  | with_reducible refine nx_lp ?_ | with_reducible refine bk_lp ?_ | with_reducible refine ct_lp ?_ | with_reducible refine rt_lp ?_ | with_reducible refine er_lp ?_ | with_reducible refine okp_ok ?_
  | ((with_reducible show ET _ _ _ _ _ _ _); walk_at "pb t")
  | ((with_reducible show EW _ _ _ _ _ _ _); first | refine ew_and ?_ | refine ew_or ?_ | refine ew_and1 ?_ | refine ew_or1 ?_)
  | ((with_reducible show SB _ _ _ _ _ _ _); first | refine sb_cons ?_ | refine sb_nil ?_)
  | ((with_reducible show SX _ _ _ _ _ _ _); first | refine sx_ret ?_ | refine sx_if ?_)
  | ((with_reducible show EO _ _ _ _ _ _ _); first | refine eo_s ?_ | refine eo_n ?_)
  | ((with_reducible show EK _ _ _ _ _ _ _); first | refine ek_c ?_ | refine ek_0 ?_)
  | ((with_reducible show EA _ _ _ _ _ _ _); first | refine ea_c ?_ | refine ea_0 ?_))
local macro_rules | `(tactic| walk_at "pb") => `(tactic| repeat walk_at "pb e")
section
variable {P : Program} {w : World} {K : Frg} {mg : Str → Option Value} {base : Heap} {f : Addr} {fd : FuncData} {T : List (Addr × Str)} {k : Nat}
theorem sc59 : FnScope ["_law_feed_here", "_law_base", "_law_heaps", "_law_tape_here", "_law_starts", "_law_long", "_law_told", "_law_cut", "_law_lap", "_law_low", "_law_high", "_law_due", "_law_k", "_law_few"] ["_law_feed_here"] (defScope (top 59)) := ⟨rfl, rfl, rfl, by decide +kernel, rfl, by decide +kernel, by decide +kernel⟩
theorem g_frames (F : FnT K "_law_are_frames_right" 59 f fd) (b : Blt mg) (kp : KnP P w K mg base T k) (kf : KnF P w K mg base T k) (kb : KnB P w K mg base T k) (ks : KnG P w K mg base k "_law_same" ["_law_told", "_law_due"] (prom K T preSame)) :
    FnG P w K mg base (k + 1) f fd ["_law_feed_here"] (prom K T (preTest 100)) := by
  refine fng_pb F sc59 (fun as n Φ ⟨h, _⟩ => by rw [h]; rfl) fun cdv A outer s H E fa B as n Φ hgd hr hp => ?_
  obtain ⟨rfl, hn, h⟩ := hp
  walk_at "pb"
  refine sx_asg 1 sc59.nd (ex_call kp.any hr rfl (ea_f 0 rfl (ea_c ?_)))
  walk_at "pb"
  refine ⟨_, rfl, by simp, by simp, by omega, fun d hd => ?_⟩
  have hp : ∃ q : Int, d = .int q ∧ 3 ≤ q ∧ q ≤ 256 := by
    simp only [List.mem_cons, List.not_mem_nil, or_false] at hd
    rcases hd with rfl | rfl | rfl | rfl | rfl | rfl | rfl | rfl <;> exact ⟨_, rfl, by decide, by decide⟩
  obtain ⟨bs, rfl, hb0, hb1⟩ := hp
  walk_at "pb"
  refine sx_asg 2 sc59.nd (ex_call kb.stks hr rfl (ea_f 0 rfl ?_))
  walk_at "pb"
  refine ⟨bs, rfl, by omega, fun hs hsl hsb => ?_⟩
  unfold itup
  walk_at "pb"
  have c900 : (10 : Int) ^ 56 < 2 ^ 900 := by decide +kernel
  have c187 : (10 : Int) ^ 56 < 2 ^ 187 := by decide +kernel
  have hs0 : ∀ x ∈ hs, 0 ≤ x := fun x hx => (hsb x hx).1
  refine sx_asg 3 sc59.nd (ex_call kb.tape hr rfl ?_)
  walk_at "pb"
  refine ⟨bs, hs, rfl, hb0, hb1, fun x hx => ⟨hs0 x hx, by have := (hsb x hx).2; omega⟩, by omega, ?_⟩
  have tl := strm_len (b := bs) hb0 (hs := hs) fun x hx => by have := (hsb x hx).2; omega
  have tp := strm_pos (b := bs) hs
  have td := strm_dig (b := bs) hb0 hs
  have tf := strm_fits (b := bs) hb0 hs
  have tc := posn_count (b := bs) hb0 hs0
  have tm := marks_strm (b := bs) hb0 hs0
  have tw := whole_frm (b := bs) hb0 hs0
  have tr := (frm_strm (b := bs) hb0 hs hs0).1
  have f1 := streamF_ok hb0 hb1 hs0
  generalize hU : strm bs hs = U at tl tp td tf tc tm tw tr f1
  have tl2 : U.length ≤ 1317 := by omega
  have f2 := startsF_ok hb0 hb1 tf
  have f3 := framesF_ok hb0 hb1 td
  have f4 := fun m => shortF_ok (m := m) hb0 hb1 tf
  have tr2 : frm bs U = hs := tr
  rw [tr2] at f3
  have pb' := fun x => posn_bd (b := bs) (T := U) (x := x)
  have eP : ((List.range ((U.length : Int).toNat)).filter fun i => decide (U.getD i 0 = bs - 1)).map (fun (i : Nat) => PyData.int (i : Int)) = (posn bs U).map .int := by
    unfold posn
    rw [List.map_map, Int.toNat_natCast]
    rfl
  generalize posn bs U = St at tc tm tw f2 f4 pb' eP
  have smU : Sm (.tuple (U.map .int)) := by show (U.map PyData.int).length ≤ 100000; rw [List.length_map]; omega
  have smH : Sm (.tuple (hs.map .int)) := by show (hs.map PyData.int).length ≤ 100000; rw [List.length_map]; omega
  have szH : (strm (toI (.int bs)) (toL (.tuple (hs.map .int)))).length ≤ 100000 := by
    show (strm bs (toL (itup hs))).length ≤ 100000
    rw [toL_itup, hU]
    omega
  have gU : ∀ i, i < U.length → (U.map PyData.int)[i]? = some (.int (U.getD i 0)) := fun i hi => by
    rw [List.getElem?_map, List.getD_eq_getElem?_getD, List.getElem?_eq_getElem hi]
    rfl
  have sU : ∀ x ∈ U, x.natAbs < 10 ^ 90 := fun x hx => by
    have := td x hx
    exact small90 (by omega) (by have : (256 : Int) < 10 ^ 56 := by decide
                                 omega)
  have sS : ∀ x ∈ St, x.natAbs < 10 ^ 90 := fun x hx => by
    have := pb' x hx
    exact small90 (by omega) (by have : (1317 : Int) < 10 ^ 56 := by decide
                                 omega)
  have sH : ∀ x ∈ hs, x.natAbs < 10 ^ 90 := fun x hx => small90 (hsb x hx).1 (hsb x hx).2
  unfold itup at f1 f2 f3 f4 ⊢
  walk_at "pb"
  refine sx_par 4 5 rfl sc59.nd (ex_tupJ b.tuple (ex_l (el_lcN 12 rfl sc59.nd (lcP (wx_range1 b.range (ex_lenJ b.len ?_))))))
  walk_at "pb"
  rw [List.length_map]
  refine ⟨by omega, by omega, by omega, fun i => decide (U.getD i 0 = bs - 1), fun i => .int i, fun i acc hi => btx1 fun s0 H0 C' cl fp => ?_, fun i acc hi _ => bex fun s0 H0 C' cl fp => ?_, ?_⟩
  · walk_at "pb"
    refine ix_t ⟨_, gU i (by omega), ?_⟩
    walk_at "pb"
    exact ⟨rfl, rfl⟩
  · walk_at "pb"
    exact ⟨rfl, rfl⟩
  rw [eP]
  walk_at "pb"
  refine ex_lenJ b.len ?_
  walk_at "pb"
  rw [List.length_map]
  refine sx_asg 6 sc59.nd ?_
  walk_at "pb"
  refine ex_call kf.stream hr rfl ?_
  walk_at "pb"
  refine ⟨_, _, rfl, ⟨smH, szH⟩, ?_⟩
  rw [f1]
  walk_at "pb"
  refine ex_callK kb.strK hr rfl sw sw_ok ?_
  walk_at "pb"
  refine ⟨rfl, _, _, rfl, ⟨smH, szH⟩, ?_⟩
  rw [f1]
  walk_at "pb"
  refine ex_call kf.starts hr rfl ?_
  walk_at "pb"
  refine ⟨_, _, rfl, smU, ?_⟩
  rw [f2]
  walk_at "pb"
  refine sx_asg 6 sc59.nd ?_
  walk_at "pb"
  refine ex_callK kb.stsK hr rfl sw sw_ok ?_
  walk_at "pb"
  refine ⟨rfl, _, _, rfl, smU, ?_⟩
  rw [f2]
  walk_at "pb"
  refine ex_call kf.frames hr rfl ?_
  walk_at "pb"
  refine ⟨_, _, rfl, smU, ?_⟩
  rw [f3]
  walk_at "pb"
  refine ex_callK kb.frmK hr rfl sw sw_ok ?_
  walk_at "pb"
  refine ⟨rfl, _, _, rfl, smU, ?_⟩
  rw [f3]
  walk_at "pb"
  refine add_lst (by simp) ?_
  walk_at "pb"
  refine ex_g ks hgd hr rfl ?_
  walk_at "pb"
  refine ex_l (el_lstT b.list ?_)
  walk_at "pb"
  refine ex_l (el_lstT b.list ?_)
  walk_at "pb"
  have rU := rp_itup sU tl2
  have rS := rp_itup (m := 8) sS (by omega)
  have rH := rp_ilst (m := 7) sH (by omega)
  refine ⟨_, rfl, ?_, ?_⟩
  · exact (rp_lst (rpa_cons rU (rpa_cons rU (rpa_cons rS (rpa_cons rS (rpa_cons rH (rpa_cons rH rpa_nil))))))).mono (by omega) (by omega)
  walk_at "pb"
  refine ifF ?_
  walk_at "pb"
  refine sx_for 7 rfl sc59.nd (wx_range1 b.range (Ev.imp (Φ := fun d n' => ∃ m : Int, d = .int m ∧ 0 ≤ m ∧ m ≤ 25 ∧ m ≤ U.length + 1 ∧ n' = n + 52) ?_ fun d n' ⟨m, e1, m0, m1, m2, e2⟩ => ?_))
  · walk_at "pb"
    refine ifd (fun h1 => ?_) (fun h1 => ?_)
    · walk_at "pb"
      exact ⟨by omega, by omega, by omega, by omega⟩
    · walk_at "pb"
      exact ⟨by omega, by omega, by omega, by omega⟩
  subst e1 e2
  refine ⟨m, rfl, by omega, by omega, ?_⟩
  refine ⟨fun i ρ' μ' n' => ∃ (u6 u7 : Sl), ρ' = [.fd, .im (.int bs), .im (.tuple (hs.map .int)), .im (.tuple (U.map .int)), .im (.tuple (St.map .int)), .im (.int U.length), u6, u7, .un, .un, .un, .un, .un, .un] ∧ μ' = [] ∧ n' = n + 52, ⟨_, _, rfl, rfl, rfl⟩, ?_, ?_⟩
  · rintro i _ _ _ hi ⟨u6, u7, rfl, rfl, rfl⟩
    have hiU : i ≤ U.length := by omega
    have w1 : wholeL St hs 0 i = frm bs (U.take i) := by
      have := tw 0 i (Nat.zero_le _) (Nat.zero_le _)
      rw [List.drop_zero, Nat.sub_zero] at this
      exact this
    have w2 : wholeL St hs i U.length = frm bs (U.drop i) := by
      have := tw i U.length hiU hiU
      rw [List.take_of_length_le (by rw [List.length_drop]; omega)] at this
      exact this
    have g1 := framesF_ok (ns := U.take i) hb0 hb1 fun x hx => td x (List.mem_of_mem_take hx)
    have g2 := framesF_ok (ns := U.drop i) hb0 hb1 fun x hx => td x (List.mem_of_mem_drop hx)
    rw [← w1] at g1
    rw [← w2] at g2
    have rW : ∀ lo hi : Int, Rp 7 1 (.list ((wholeL St hs lo hi).map .int)) := fun lo hi => rp_ilst (fun x hx => sH x (whole_mem hx)) (Nat.le_trans (whole_len _ _ _ _) (by omega))
    unfold itup at g1 g2
    walk_at "pb"
    refine sx_asg 6 sc59.nd ?_
    walk_at "pb"
    refine ex_call kf.frames hr rfl ?_
    walk_at "pb"
    refine ex_slT ?_
    walk_at "pb"
    rw [cut_hi, ← List.map_take]
    refine ⟨_, _, rfl, by show ((U.take i).map PyData.int).length ≤ 100000; rw [List.length_map, List.length_take]; omega, ?_⟩
    rw [g1]
    walk_at "pb"
    refine ex_call kf.frames hr rfl ?_
    walk_at "pb"
    refine ex_slT ?_
    walk_at "pb"
    rw [cut_lo, ← List.map_drop]
    refine ⟨_, _, rfl, by show ((U.drop i).map PyData.int).length ≤ 100000; rw [List.length_map, List.length_drop]; omega, ?_⟩
    rw [g2]
    walk_at "pb"
    refine ex_g ks hgd hr rfl ?_
    walk_at "pb"
    refine ex_call kb.whole hr rfl ?_
    walk_at "pb"
    refine ⟨St, hs, 0, i, rfl, tc, by omega, ?_⟩
    walk_at "pb"
    refine ex_call kb.whole hr rfl ?_
    walk_at "pb"
    refine ⟨St, hs, i, U.length, rfl, tc, by omega, ?_⟩
    walk_at "pb"
    refine ⟨_, rfl, ?_, ?_⟩
    · exact (rp_lst (rpa_cons (rW _ _) (rpa_cons (rW _ _) rpa_nil))).mono (by omega) (by omega)
    walk_at "pb"
    refine ifF ?_
    walk_at "pb"
    exact ⟨_, _, rfl, rfl, rfl⟩
  · rintro _ _ _ ⟨u6, u7, rfl, rfl, rfl⟩
    walk_at "pb"
    refine sx_for 8 rfl sc59.nd (wx_range1 b.range ?_)
    walk_at "pb"
    refine ⟨by omega, by omega, ?_⟩
    refine ⟨fun i ρ' μ' n' => ∃ (u6 u7 u8 u9 u10 : Sl), ρ' = [.fd, .im (.int bs), .im (.tuple (hs.map .int)), .im (.tuple (U.map .int)), .im (.tuple (St.map .int)), .im (.int U.length), u6, u7, u8, u9, u10, .un, .un, .un] ∧ μ' = [] ∧ n' = n + 52 + 4 * i, ⟨_, _, _, _, _, rfl, rfl, rfl⟩, ?_, ?_⟩
    · rintro i _ _ _ hi ⟨u6, u7, u8, u9, u10, rfl, rfl, rfl⟩
      have hi : i < 6 := hi
      walk_at "pb e"
      refine sx_unl 9 10 rfl sc59.nd (ex_l (el_sort b.sorted ?_))
      walk_at "pb"
      refine ex_call kp.draw hr rfl (ea_f 0 rfl ?_)
      walk_at "pb"
      refine ⟨U.length + 1, rfl, by omega, by omega, by omega, fun x hx0 hx1 => ?_⟩
      walk_at "pb"
      refine ex_call kp.draw hr rfl (ea_f 0 rfl ?_)
      walk_at "pb"
      refine ⟨U.length + 1, rfl, by omega, by omega, by omega, fun y hy0 hy1 => ?_⟩
      walk_at "pb"
      refine ⟨[x, y], .inl rfl, fun l lp ls => ?_⟩
      obtain ⟨lo, hi', rfl, hlh, hlo, hhi⟩ := sort2 lp ls
      have hl0 : 0 ≤ lo ∧ lo ≤ U.length := by rcases hlo with rfl | rfl <;> omega
      have hh0 : 0 ≤ hi' ∧ hi' ≤ U.length := by rcases hhi with rfl | rfl <;> omega
      obtain ⟨a, rfl⟩ := Int.eq_ofNat_of_zero_le hl0.1
      obtain ⟨c, rfl⟩ := Int.eq_ofNat_of_zero_le hh0.1
      refine ⟨.int a, .int c, rfl, ?_⟩
      have w1 := tw a c (by omega) (by omega)
      have g1 := framesF_ok (ns := (U.drop a).take (c - a)) hb0 hb1 fun x hx => td x (List.mem_of_mem_drop (List.mem_of_mem_take hx))
      rw [← w1] at g1
      unfold itup at g1
      walk_at "pb"
      refine ex_g ks hgd hr rfl (ea_c (ex_call kf.frames hr rfl ?_))
      walk_at "pb"
      refine ex_slT ?_
      walk_at "pb"
      rw [cut_lh, ← List.map_drop, ← List.map_take]
      refine ⟨_, _, rfl, by show (((U.drop a).take (c - a)).map PyData.int).length ≤ 100000; rw [List.length_map, List.length_take, List.length_drop]; omega, ?_⟩
      rw [g1]
      walk_at "pb"
      refine ex_call kb.whole hr rfl ?_
      walk_at "pb"
      refine ⟨St, hs, a, c, rfl, tc, by omega, ?_⟩
      walk_at "pb"
      refine ⟨_, rfl, ?_, ?_⟩
      · exact (rp_ilst (m := 7) (fun x hx => sH x (whole_mem hx)) (Nat.le_trans (whole_len _ _ _ _) (by omega))).mono (by omega) (by omega)
      walk_at "pb"
      refine ifF ?_
      walk_at "pb"
      exact ⟨_, _, _, _, _, rfl, rfl, by omega⟩
    · rintro _ _ _ ⟨u6, u7, u8, u9, u10, rfl, rfl, rfl⟩
      walk_at "pb e"
      refine sv_more (n + 100) (by have : (6 : Int).toNat = 6 := rfl
                                   omega) ?_
      walk_at "pb"
      refine sx_asg 11 sc59.nd (Ev.imp (Φ := fun d n' => d = .list ((lossL St hs.length U.length).map .int) ∧ n' = n + 100) ?_ fun d n' ⟨e1, e2⟩ => ?_)
      · walk_at "pb"
        refine ifd (fun h1 => ?_) (fun h1 => ?_)
        · refine ex_call kb.losses hr rfl ?_
          walk_at "pb"
          refine ⟨U, St, hs.length, rfl, tm, by omega, by omega, ?_⟩
          walk_at "pb"
          exact ⟨rfl, rfl⟩
        · refine ex_call kb.told hr rfl ?_
          walk_at "pb"
          refine ⟨St, hs.length, U.length, rfl, tm, by omega, ?_⟩
          walk_at "pb"
          exact ⟨rfl, rfl⟩
      subst e1 e2
      walk_at "pb"
      refine sx_lcO 6 13 rfl sc59.nd (lcP (wx_range2 b.range ?_))
      walk_at "pb"
      refine ex_lenJ b.len ?_
      walk_at "pb"
      rw [List.length_map]
      refine ⟨⟨by omega, by omega, by omega, by omega⟩, by omega, fun _ => true, fun i => .int (shl St U.length ((i + 1 : Nat) : Int)), fun i acc hi => btx0 ⟨rfl, rfl⟩, fun i acc hi _ => bex fun s0 H0 C' cl fp => ?_, ?_⟩
      · refine ex_call kf.short hr rfl ?_
        walk_at "pb"
        refine ⟨_, _, _, rfl, smU, ?_⟩
        rw [f4 (1 + (i : Int)) (by omega) (by omega)]
        walk_at "pb"
        have e3 : (1 + (i : Int)) = ((i + 1 : Nat) : Int) := by omega
        rw [e3]
        exact ⟨rfl, rfl⟩
      have eL : ((List.range ((hs.length : Int) + 1 - 1).toNat).filter fun _ => true).map (fun i => PyData.int (shl St U.length ((i + 1 : Nat) : Int))) = (lossL St hs.length U.length).map .int := by
        have e3 : ((hs.length : Int) + 1 - 1).toNat = hs.length := by omega
        rw [filter_true, e3]
        unfold lossL
        rw [List.map_map]
        rfl
      rw [eL]
      have ll : ((lossL St hs.length U.length).map PyData.int).length = hs.length := by rw [List.length_map, loss_len]
      have sL : ∀ x ∈ lossL St hs.length U.length, x.natAbs < 10 ^ 90 := fun x hx => by
        have := loss_bd tm hx
        exact small90 (by omega) (by have : (1317 : Int) < 10 ^ 56 := by decide
                                     omega)
      have rL := rp_ilst (m := 7) sL (by rw [loss_len]; omega)
      walk_at "pb e"
      walk_at "pb e"
      refine sx_if (et_neD hr.units ?_)
      walk_at "pb"
      refine ⟨shaped_tup hs, by decide +kernel, ?_⟩
      rw [eqv_tnil]
      refine ifb (fun h1 => ?_) (fun h1 => ?_)
      · have hpos : 0 < hs.length := by
          cases hs with
          | nil => cases h1
          | cons _ _ => exact Nat.zero_lt_succ _
        have eS := loss_last (P := St) (N := hs.length) (L := U.length) hpos
        have mS : shl St U.length hs.length ∈ lossL St hs.length U.length := by
          unfold lossL
          refine List.mem_map.mpr ⟨hs.length - 1, List.mem_range.mpr (by omega), ?_⟩
          have e2 : ((hs.length - 1 + 1 : Nat) : Int) = (hs.length : Int) := by omega
          rw [e2]
        walk_at "pb"
        refine sx_app 6 0 rfl rfl (by omega) ?_
        refine ex_callK kb.shoK hr rfl rot3 rot3_ok ?_
        walk_at "pb"
        refine ex_lenJ b.len ?_
        walk_at "pb"
        rw [List.length_map]
        refine ⟨rfl, _, _, _, rfl, smU, ?_⟩
        rw [f4 hs.length (by omega) (by omega)]
        walk_at "pb"
        refine sx_asg 11 sc59.nd ?_
        walk_at "pb"
        refine ex_l (el_sl ?_)
        walk_at "pb"
        refine ex_lenJ b.len ?_
        walk_at "pb"
        rw [ll, eS]
        refine add_lst (by simp only [List.length_singleton]; omega) ?_
        repeat first | with_reducible refine nx_nxt ?_ | refine sb_nil ?_
        refine sv_frz 6 0 rfl rfl ?_
        walk_at "pb"
        refine ex_g ks hgd hr rfl ?_
        walk_at "pb"
        have eA : (lossL St hs.length U.length).map PyData.int ++ [.int (shl St U.length hs.length)] = (lossL St hs.length U.length ++ [shl St U.length hs.length]).map .int := by rw [List.map_append]; rfl
        refine ⟨_, rfl, ?_, ?_⟩
        · rw [eA]
          refine (rp_ilst (m := 8) (fun x hx => ?_) (by rw [List.length_append, loss_len, List.length_singleton]; omega)).mono (by omega) (by omega)
          rcases List.mem_append.mp hx with hx | hx
          · exact sL x hx
          · rw [List.mem_singleton.mp hx]
            exact sL _ mS
        walk_at "pb"
        exact h
      · repeat first | with_reducible refine nx_nxt ?_ | refine sb_nil ?_
        refine sv_frz 6 0 rfl rfl ?_
        walk_at "pb"
        refine ex_g ks hgd hr rfl ?_
        walk_at "pb"
        refine ⟨_, rfl, rL.mono (by omega) (by omega), ?_⟩
        walk_at "pb"
        exact h
end
end Pb

set_option Elab.async false
set_option linter.all false
set_option maxRecDepth 100000
set_option maxHeartbeats 4000000
/-! PbAJ: the feed; the law. -/
namespace Pb
open PySem PySem.Spec PyProof.Rows L2
/-- a list that the entry heap tells -/
theorem sql_keep {K : Frg} {C : Ct} {ads : List Addr} {B H : Hp} {σ : L2.St} {ρ : List Sl} {μ : List Ce} {n : Nat} (r : RepA K C ads B H σ ρ μ n) {a : Addr} {xs : List V} (h : SqL K C.H0 a xs) (hm : ¬ C.m a) : SqL K H a xs := by
  rcases h with (h | ⟨o, h⟩) | h
  · exact .inl (.inl (r.fr.kp a _ h hm))
  · exact .inl (.inr ⟨o, r.fr.kp a _ h hm⟩)
  · exact .inr h
section
variable {X : Cx} {C : Ct} {ρ : List Sl} {μ : List Ce} {n : Nat} {x : Str} {Λ : List PyData → Nat → Prop}
theorem el_slS (i : Nat) {a : Addr} {ns : List Int} {lo hi : Option Expr} {px p2 pos : Pos} (h0 : ρ[i]? = some (.ra a)) (hS : SqL X.K C.H0 a (ns.map V.int)) (hm : ¬ C.m a) (h : EO X C lo ρ μ n fun l n1 => EO X C hi ρ μ n1 fun u n2 => Λ (cutL (ns.map .int) l u) n2)
    (hN : X.N[i]? = some x := by rfl) (hv : Vis X.env.scope x := by first | exact Or.inl rfl | exact Or.inr (Or.inl rfl) | exact Or.inr (Or.inr rfl)) (hd : (x == ("__debug__" : Str)) = false := by decide) (hcd : (x == ("__classdict__" : Str)) = false := by decide) :
    EL X C (.Subscript (.Name x px) (.Slice lo hi none p2) pos) ρ μ n Λ := el_of (pe_slice sl_list (pe_var hN hv hd hcd) po_can po_can) fun ads σ B H Q r q => by
  obtain ⟨o, e1, e2⟩ := pr_get r.sl h0
  have e2 : o = some (.ref a) := e2
  subst e2
  exact ⟨.ref a, e1, h ads σ B H _ r fun l B2 H2 n2 e r2 h2 => h2 ads σ B2 H2 _ r2 fun u B3 H3 n3 e3 r3 f =>
    ⟨a, ns.map V.int, rfl, sql_keep r3 hS hm, fun p hp => q p _ B3 _ n3 (e.trans e3) (r3.cell hp (dps_cut (dps_ints ns) l u)) f⟩⟩
end
def spFeed (K : Frg) : Sp := fun vs H Q _ => ∃ (a : Addr) (ns : List Int), vs = [.ref a] ∧ SqL K H a (ns.map V.int) ∧ ns.length ≤ 63 ∧
  ∀ (p c : Addr) (H' : Hp), Same H H' → H p = none → H c = none → c ≠ p → H' p = some (.dK (fkv c 0 0 0)) → H' c = some (.lst (ns.map V.int)) → Q (.ref p) H'
theorem fng_ok {P : Program} {w : World} {K : Frg} {mg : Str → Option Value} {base : Heap} {k : Nat} {f : Addr} {fd : FuncData} {ps : List Str} {sp : Sp} (F : FnOk P w K mg base (L2.CX P w) k f fd ps sp) : FnG P w K mg base k f fd ps sp :=
  ⟨F.len, fun A outer s H args us vs Q E _ hr he hb hv hs => F.run A outer s H args us vs Q E hr he hb hv hs⟩
/-- the dict of a feed, made -/
def feedE : Expr := match (defBody (top 42)).getD 0 (.Pass ⟨0, 0, 0, 0⟩) with
  | .Return (some (.Dict _ (v :: _) _)) _ => v
  | _ => .Constant .none 0 ⟨0, 0, 0, 0⟩
local macro_rules | `(tactic| walk_at "pb v") => `(tactic| first
  | refine ex_v 0 rfl ?_ | refine ex_v 1 rfl ?_ | refine ex_v 2 rfl ?_ | refine ex_v 3 rfl ?_ | refine ex_v 4 rfl ?_ | refine ex_v 5 rfl ?_ | refine ex_v 6 rfl ?_ | refine ex_v 7 rfl ?_
  | refine ex_v 8 rfl ?_ | refine ex_v 9 rfl ?_ | refine ex_v 10 rfl ?_ | refine ex_v 11 rfl ?_ | refine ex_v 12 rfl ?_ | refine ex_v 13 rfl ?_ | refine ex_v 14 rfl ?_)
local macro_rules | `(tactic| walk_at "pb x") => `(tactic| first
  | refine ex_i ?_ | ((with_reducible show EX _ _ (Expr.Name _ _) _ _ _ _); walk_at "pb v") | refine ex_addJ ?_ | refine ex_sub ?_ | refine ex_s ?_ | refine ex_n ?_ | refine ex_b ?_ | refine ex_neg ?_
  | refine ex_mulJ ?_ | refine ex_mod ?_ | refine ex_div ?_ | refine ex_pow ?_ | refine ex_lt ?_ | refine ex_eq ?_ | refine ex_ne ?_ | refine ex_gt ?_ | refine ex_ge ?_ | ((fail_if_success (with_reducible show EX _ _ (Expr.Subscript _ (Expr.Constant (Const.str _) _ _) _) _ _ _ _)); refine ex_ixJ ?_)
  | refine ex_and ?_ | refine ex_or ?_ | refine ex_one ?_ | refine ex_not ?_ | refine ex_ite ?_ | refine ex_tup ?_ | refine ex_l (el_ls ?_) | refine ex_isInt ‹_› ?_ | refine ex_isBool ‹_› ?_ | refine ex_isTup ‹_› ?_)
local macro_rules | `(tactic| walk_at "pb t") => `(tactic| first
  | refine et_lt ?_ | refine et_eq ?_ | refine et_ne ?_ | refine et_le ?_ | refine et_gt ?_ | refine et_ge ?_ | refine et_nt ?_ | refine et_w (ew_and ?_) | refine et_w (ew_or ?_) | refine et_v ?_)
local macro_rules | `(tactic| walk_at "pb e") => `(tactic| first
  | ((with_reducible show EX _ _ _ _ _ _ _); walk_at "pb x")
  | with_reducible refine xi2 ?_ | with_reducible refine xi ?_ | with_reducible refine xb ?_ | with_reducible refine xsi ?_ | with_reducible refine xl ?_ | with_reducible refine xt ?_
  | with_reducible refine xd0 ?_ | with_reducible refine xd1 ?_ | with_reducible refine xd2 ?_ | with_reducible refine xd3 ?_ | with_reducible refine xd4 ?_ | with_reducible refine xd5 ?_ | with_reducible refine xd6 ?_ | with_reducible refine xd7 ?_ | with_reducible refine xd8 ?_ | with_reducible refine xd9 ?_ | with_reducible refine xd10 ?_ | with_reducible refine xd11 ?_ | with_reducible refine xd12 ?_ | with_reducible refine xd13 ?_ | with_reducible refine xd14 ?_ | with_reducible refine ifT ?_ | with_reducible refine ifF ?_ | with_reducible refine add_int ?_ | with_reducible refine ix_l ?_
  | with_reducible refine len_t ?_ | with_reducible refine len_l ?_ | with_reducible refine tup_t ?_ | with_reducible refine tup_l ?_
  | with_reducible refine nx_nxt ?_ | with_reducible refine rt_nxt ?_ | with_reducible refine er_nxt ?_ | with_reducible refine bk_nxt ?_ | with_reducible refine ct_nxt ?_ | with_reducible refine fin_rt ?_ | with_reducible refine fin_nx ?_ | with_reducible refine fin_er ?_ 
  | with_reducible refine nx_lp ?_ | with_reducible refine bk_lp ?_ | with_reducible refine ct_lp ?_ | with_reducible refine rt_lp ?_ | with_reducible refine er_lp ?_ | with_reducible refine okp_ok ?_
  | ((with_reducible show ET _ _ _ _ _ _ _); walk_at "pb t")
  | ((with_reducible show EW _ _ _ _ _ _ _); first | refine ew_and ?_ | refine ew_or ?_ | refine ew_and1 ?_ | refine ew_or1 ?_)
  | ((with_reducible show SB _ _ _ _ _ _ _); first | refine sb_cons ?_ | refine sb_nil ?_)
  | ((with_reducible show SX _ _ _ _ _ _ _); first | refine sx_ret ?_ | refine sx_if ?_)
  | ((with_reducible show EO _ _ _ _ _ _ _); first | refine eo_s ?_ | refine eo_n ?_)
  | ((with_reducible show EK _ _ _ _ _ _ _); first | refine ek_c ?_ | refine ek_0 ?_)
  | ((with_reducible show EA _ _ _ _ _ _ _); first | refine ea_c ?_ | refine ea_0 ?_))
local macro_rules | `(tactic| walk_at "pb") => `(tactic| repeat walk_at "pb e")
section
variable {P : Program} {w : World} {K : Frg} {mg : Str → Option Value} {base : Heap} {f : Addr} {fd : FuncData} {T : List (Addr × Str)} {k : Nat}
theorem sc42 : FnScope ["_law_script", "_law_cell"] ["_law_script"] (defScope (top 42)) := ⟨rfl, rfl, rfl, by decide +kernel, rfl, by decide +kernel, by decide +kernel⟩
theorem g_feed (F : FnT K "_law_feed" 42 f fd) (b : Blt mg) : FnOk P w K mg base (L2.CX P w) (k + 1) f fd ["_law_script"] (spFeed K) := by
  refine F.ok sc42 (fun vs H Q E ⟨_, _, h, _⟩ => by rw [h]; rfl) fun cdv A outer s H vs Q E hr h => ?_
  obtain ⟨a, ns, rfl, hS, hl, hQ⟩ := h
  refine ⟨_, pss_one (ps_ret (pe_disp (pps_cons pe_str (pe_can (e := feedE)) (pps_cons pe_str pe_int (pps_cons pe_str pe_int (pps_cons pe_str pe_int pps_nil)))) rfl rfl (by decide) (by decide))), fun p hp => ?_⟩
  let C : Ct := ⟨[], none, fun _ => none, upd H p (.dK []), E⟩
  have nm : ∀ b, ¬ C.m b := fun b hb => by
    rcases hb with hb | ⟨q, hq, _⟩
    · cases hb
    · cases hq
  have sH : Same H (upd H p (.dK [])) := same_new hp
  have hS1 : SqL K C.H0 a (ns.map V.int) := by
    rcases hS with (h | ⟨o, h⟩) | h
    · exact .inl (.inl (sH _ _ h))
    · exact .inl (.inr ⟨o, sH _ _ h⟩)
    · exact .inr h
  have r0 : RepA K C [] (fun _ => none) (upd H p (.dK [])) (L2.start ["_law_script", "_law_cell"] [.ref a]) [.ra a, .un] [] 0 :=
    ⟨Fr.refl fun _ _ e => (by cases e), .cons rfl (.cons trivial .nil), .nil, List.nodup_nil, fun q hq => (by cases hq), fun b hb => (by cases hb), fun q hq => (by cases hq), fun q hq => (by cases hq)⟩
  have J : EL (cxOf (L2.CX P w) P w K mg base ["_law_script", "_law_cell"] "_law_feed" (defScope (top 42)) f cdv A outer s H E) C feedE [.ra a, .un] [] 0 fun ds _ => ds = ns.map .int := by
    refine el_lcN 1 rfl sc42.nd (lcP (wx_list (ex_l (el_slS 0 rfl hS1 (nm a) ?_))))
    walk_at "pb"
    have e63 : cutL (ns.map PyData.int) none (some 63) = ns.map .int := by
      have := cut_hi (ns.map PyData.int) 63
      rw [List.take_of_length_le (by rw [List.length_map]; exact hl)] at this
      exact this
    rw [e63, List.length_map]
    refine ⟨by omega, fun _ => true, fun i => .int (ns.getD i 0), fun i acc hi => btx0 ⟨rfl, rfl⟩, fun i acc hi _ => bex fun s0 H0 C' cl fp => ?_, ?_⟩
    · have e : (ns.map PyData.int).getD i .none = .int (ns.getD i 0) := by
        rw [List.getD_eq_getElem?_getD, List.getD_eq_getElem?_getD, List.getElem?_map, List.getElem?_eq_getElem hi]
        rfl
      dsimp only
      rw [e]
      refine ex_int b.int ?_
      walk_at "pb"
      exact ⟨rfl, rfl⟩
    · have e2 : ((List.range ns.length).filter fun _ => true).map (fun i => PyData.int (ns.getD i 0)) = ns.map .int := by
        rw [filter_true]
        have := congrArg (List.map PyData.int) (map_getD 0 ns)
        rw [List.map_map] at this
        exact this
      exact e2
  refine J [] _ _ _ _ r0 fun c ds B' H' n' e r' hds => ?_
  subst hds
  obtain ⟨c1, c2, vs, c3, c4⟩ : CellOk K C.H0 B' H' c (.ls (ns.map .int)) := by
    have := r'.ce
    cases this with
    | cons h _ => exact h
  have ev := ints_dps ns vs c4
  subst ev
  have hcp : c ≠ p := fun z => by
    have c1' : upd H p (.dK []) c = none := c1
    rw [z, upd_same] at c1'
    cases c1'
  have hcn : H c = none := by
    have c1' : upd H p (.dK []) c = none := c1
    rw [upd_ne hcp] at c1'
    exact c1'
  have kp : ∀ b o, upd H p (.dK []) b = some o → H' b = some o := fun b o h => r'.fr.kp b o h (nm b)
  refine ⟨kp p _ upd_same, fkv c 0 0 0, rfl, (by show 4 ≤ 15; decide), ?_⟩
  refine hQ p c _ (fun b o h => ?_) hp hcn hcp upd_same ?_
  · have hb : b ≠ p := fun z => by
      rw [z, hp] at h
      cases h
    rw [upd_ne hb]
    exact kp b o (by rw [upd_ne hb]; exact h)
  · rw [upd_ne hcp]
    exact c3
/-- the law's tests, as they are known -/
structure KnT (P : Program) (w : World) (K : Frg) (mg : Str → Option Value) (base : Heap) (T : List (Addr × Str)) (j : Nat) : Prop where
  feed : KnG P w K mg base j "_law_feed" ["_law_script"] (spFeed K)
  draw : Kn P w K mg base T j "_law_draw" ["_law_feed_here", "_law_below"] preDraw
  chk : KnG P w K mg base j "_law_are_checks_right" ["_law_feed_here"] (promW K T (preTest 100))
  chg : KnG P w K mg base j "_law_are_changes_seen" ["_law_feed_here"] (prom K T (preTest 300))
  frm : KnG P w K mg base j "_law_are_frames_right" ["_law_feed_here"] (prom K T (preTest 100))
  rows : KnG P w K mg base j "_law_are_rows_right" ["_law_feed_here"] (prom K T (preTest 100))
  hand : KnG P w K mg base j "_law_are_hand_right" [] (prom K T preT0)
  codds : KnG P w K mg base j "_law_are_check_odds_refused" ["_law_start"] (promW K T preOdd)
  prim : KnG P w K mg base j "_law_are_primes_right" [] (promW K T preT0)
  fodds : KnG P w K mg base j "_law_are_frame_odds_refused" ["_law_start"] (promW K T preOdd)
def spLaw (K : Frg) (T : List (Addr × Str)) : Sp := fun vs H Q _ => ∃ (a : Addr) (ns : List Int), vs = [.ref a] ∧ SqL K H a (ns.map V.int) ∧ ns.length ≤ 63 ∧ (∀ z ∈ ns, z.natAbs < 2 ^ 1048576) ∧ LamX.Tabs T H ∧ (∀ p ∈ T, H p.1 ≠ none) ∧ ∀ H', Q (.bl true) H'
theorem sc65 : FnScope ["_law_script", "_law_feed_here", "_law_start", "_law_way"] ["_law_script"] (defScope (top 65)) := ⟨rfl, rfl, rfl, by decide +kernel, rfl, by decide +kernel, by decide +kernel⟩
def rest65 : List Stmt := (defBody (top 65)).drop 1
theorem g_law (F : FnT K "law" 65 f fd) (t : KnT P w K mg base T k) : FnG P w K mg base (k + 1) f fd ["_law_script"] (spLaw K T) := by
  refine fng_of F sc65 (fun vs H Q E ⟨_, _, h, _⟩ => by rw [h]; rfl) fun cdv A outer s H E vs Q hgd hr hl h => ?_
  obtain ⟨a, ns, rfl, hS, hnl, hnb, tb, tt, hQ⟩ := h
  obtain ⟨ff, ffd, FF, hfm, hfk, hfb⟩ := t.feed.ex
  have rd : PSs (cxOf (L2.CX P w) P w K mg base ["_law_script", "_law_feed_here", "_law_start", "_law_way"] "law" (defScope (top 65)) f cdv A outer s H E) (defBody (top 65)) (tSeq (tAsg (tCall (spFeed K) [] E0 (tCons (tVar 0) tNil)) (gName 1)) (canB _ rest65)) :=
    pss_cons (ps_set (i := 1) sc65.nd rfl (.inl rfl) (pe_g FF hgd hr rfl hfm hfk hfb passL (pa_cons (pv 0) pa_nil))) pss_can
  have goal : tSeq (tAsg (tCall (spFeed K) [] E0 (tCons (tVar 0) tNil)) (gName 1)) (canB (cxOf (L2.CX P w) P w K mg base ["_law_script", "_law_feed_here", "_law_start", "_law_way"] "law" (defScope (top 65)) f cdv A outer s H E) rest65) { nx := fun _ H' => Q .non H', rt := Q } (L2.start ["_law_script", "_law_feed_here", "_law_start", "_law_way"] [.ref a]) H := by
    refine ⟨.ref a, rfl, a, ns, rfl, hS, hnl, fun p c H' sH hp hc hcp e1 e2 => ?_⟩
    let B : Hp := fun b => if b = c then some (.lst (ns.map V.int)) else none
    have Bc : B c = some (.lst (ns.map V.int)) := if_pos rfl
    have Bn : ∀ b, b ≠ c → B b = none := fun b hb => if_neg hb
    have sB : Same B H' := fun b o e => by
      by_cases hb : b = c
      · rw [hb, Bc] at e
        rw [hb, e2, e]
      · rw [Bn b hb] at e
        cases e
    have nt : ∀ b ps, B b ≠ some (.tbl ps) := fun b ps e => by
      by_cases hb : b = c
      · rw [hb, Bc] at e
        cases e
      · rw [Bn b hb] at e
        cases e
    have tne : ∀ q ∈ T, q.1 ≠ c ∧ q.1 ≠ p ∧ H' q.1 ≠ none := fun q hq => by
      have h1 := tt q hq
      refine ⟨fun z => h1 (by rw [z]; exact hc), fun z => h1 (by rw [z]; exact hp), fun z => ?_⟩
      cases e : H q.1 with
      | none => exact h1 e
      | some o =>
        rw [sH _ _ e] at z
        cases z
    have fd0 : ∀ a', some p = some a' → B a' = none ∧ FeedOk K B H' a' 0 := fun a' ha => by
      cases ha
      exact ⟨Bn p fun z => hcp z.symm, c, ns, 0, 0, 0, e1, Bc, hnl, hnb, Int.le_refl _, Int.le_refl _, Int.le_refl _, Nat.two_pow_pos _, Int.le_refl _, Int.le_refl _⟩
    have tb' : LamX.Tabs T H' := tb.ext sH
    have tn : ∀ q ∈ T, B q.1 = none ∧ H' q.1 ≠ none ∧ some p ≠ some q.1 := fun q hq => by
      obtain ⟨h1, h2, h3⟩ := tne q hq
      exact ⟨Bn _ h1, h3, fun z => h2 (Option.some.inj z).symm⟩
    have M : Mkr ⟨T, some p, B, cutH (mOf (some p) T) B H', E⟩ := mkr_cut nt
    have r0 := rep_startW (K := K) (N := []) (vs := [.ref p]) (as := [.fd]) (E := E) (n := 0) sB (.cons ⟨p, rfl, rfl⟩ .nil) fd0 tb' tn
    have r1 := r0.slots (σ' := [some (.ref a), some (.ref p), none, none]) (ρ' := [.un, .fd, .un, .un]) (.cons trivial (.cons ⟨p, rfl, rfl⟩ (.cons trivial (.cons trivial .nil))))
    have hT : (⟨T, some p, B, cutH (mOf (some p) T) B H', E⟩ : Ct).T = T := rfl
    have sb : SB (cxOf (L2.CX P w) P w K mg base ["_law_script", "_law_feed_here", "_law_start", "_law_way"] "law" (defScope (top 65)) f cdv A outer s H E) ⟨T, some p, B, cutH (mOf (some p) T) B H', E⟩ rest65 [.un, .fd, .un, .un] [] 0 (fin fun o _ => o = .ok (.bool true)) := by
      generalize (⟨T, some p, B, cutH (mOf (some p) T) B H', E⟩ : Ct) = C at M hT
      walk_at "pb"
      refine sx_par 2 3 rfl sc65.nd (ex_call t.draw hr hT (ea_f 1 rfl ?_))
      walk_at "pb"
      refine ⟨60, rfl, by omega, by omega, by omega, fun st hs0 hs1 => ?_⟩
      walk_at "pb"
      refine ex_call t.draw hr hT (ea_f 1 rfl ?_)
      walk_at "pb"
      refine ⟨8, rfl, by omega, by omega, by omega, fun wy hw0 hw1 => ?_⟩
      walk_at "pb"
      refine ex_gW t.chk hgd hr hT M (ea_f 1 rfl ?_)
      walk_at "pb"
      refine ⟨rfl, by omega, ?_⟩
      walk_at "pb"
      refine ifF ?_
      walk_at "pb"
      refine ex_g t.chg hgd hr hT (ea_f 1 rfl ?_)
      walk_at "pb"
      refine ⟨rfl, by omega, ?_⟩
      walk_at "pb"
      refine ifF ?_
      walk_at "pb"
      refine ex_g t.frm hgd hr hT (ea_f 1 rfl ?_)
      walk_at "pb"
      refine ⟨rfl, by omega, ?_⟩
      walk_at "pb"
      refine ifF ?_
      walk_at "pb"
      refine ex_g t.rows hgd hr hT (ea_f 1 rfl ?_)
      walk_at "pb"
      refine ⟨rfl, by omega, ?_⟩
      walk_at "pb"
      refine ifF ?_
      walk_at "pb"
      refine ifd (fun h1 => ?_) (fun h1 => ?_)
      · walk_at "pb"
        refine ex_g0 t.hand hgd hr hT ?_
        refine ⟨rfl, ?_⟩
        walk_at "pb"
        rfl
      walk_at "pb"
      refine ifd (fun h2 => ?_) (fun h2 => ?_)
      · walk_at "pb"
        refine ex_gW t.codds hgd hr hT M ?_
        walk_at "pb"
        refine ⟨st, rfl, hs0, by omega, ?_⟩
        walk_at "pb"
        rfl
      walk_at "pb"
      refine ifd (fun h3 => ?_) (fun h3 => ?_)
      · walk_at "pb"
        refine ex_gW0 t.prim hgd hr hT M ?_
        refine ⟨rfl, ?_⟩
        walk_at "pb"
        rfl
      walk_at "pb"
      refine ifd (fun h4 => ?_) (fun h4 => ?_)
      · refine ex_gW t.fodds hgd hr hT M ?_
        walk_at "pb"
        refine ⟨st, rfl, hs0, by omega, ?_⟩
        walk_at "pb"
        rfl
      · refine ex_g t.frm hgd hr hT (ea_f 1 rfl ?_)
        walk_at "pb"
        refine ⟨rfl, by omega, ?_⟩
        walk_at "pb"
        rfl
    refine sb [] _ B H' _ r1 ⟨fun _ _ _ _ _ _ _ _ _ hf => ?_, fun _ _ _ _ _ _ _ _ _ hf => hf.elim, fun _ _ _ _ _ _ _ _ _ hf => hf.elim, fun _ _ _ _ _ _ _ v d _ _ hd hf => ?_⟩ fun _ _ _ _ _ _ _ _ _ _ _ _ hf => ?_
    · cases hf
    · cases hf
      rw [dp_bl hd]
      exact hQ _
    · cases hf
  unfold canB
  exact fun pins s' I => rd.run pins s' _ H _ I goal
end
end Pb

set_option Elab.async false
set_option linter.all false
set_option maxRecDepth 100000
set_option maxHeartbeats 4000000
/-! PbAK: the law's call at the end of the top: no repr stands open there. -/
namespace Pb
open PySem PySem.Spec PyProof.Rows L2
abbrev emptyT : Obj := { cls := .none, data := .fields #[] }
abbrev scrO (us : List Value) : Obj := { cls := .type "list", data := .seq us.toArray }
open Classical in
/-- what is told ahead of the call: the tables, the script if it does not lie in K -/
noncomputable def tell (K : Frg) (ts : List Addr) (a : Addr) (us : List Value) (ns : List Int) : Hp := fun b =>
  if b ∈ ts then some (.tbl #[]) else if b = a ∧ K.lookup a = none then some (.frz (scrO us) (.lst (ns.map V.int))) else none
section
variable {K : Frg} {ts : List Addr} {a b : Addr} {us : List Value} {ns : List Int} {S : Heap}
theorem tell_t (h : b ∈ ts) : tell K ts a us ns b = some (.tbl #[]) := by
  unfold tell
  exact if_pos h
theorem tell_a (h : a ∉ ts) (hk : K.lookup a = none) : tell K ts a us ns a = some (.frz (scrO us) (.lst (ns.map V.int))) := by
  unfold tell
  rw [if_neg h, if_pos ⟨rfl, hk⟩]
theorem tell_some {u : HO} (h : tell K ts a us ns b = some u) : (b ∈ ts ∧ u = .tbl #[]) ∨ (b = a ∧ K.lookup a = none ∧ u = .frz (scrO us) (.lst (ns.map V.int))) := by
  unfold tell at h
  split at h
  · exact .inl ⟨‹_›, (Option.some.inj h).symm⟩
  · split at h
    · rename_i hc
      exact .inr ⟨hc.1, hc.2, (Option.some.inj h).symm⟩
    · cases h
/-- the told objects lie there so -/
structure Lies (S : Heap) (K : Frg) (ts : List Addr) (a : Addr) (us : List Value) : Prop where
  t : ∀ b ∈ ts, S.get? b = some emptyT
  l : S.get? a = some (scrO us)
  k : ∀ b ∈ ts, K.lookup b = none
  i : K.In S
theorem Lies.na (L : Lies S K ts a us) : a ∉ ts := fun h => by
  have e := L.t a h
  rw [L.l] at e
  have e2 := congrArg Obj.cls (Option.some.inj e)
  cases e2
theorem Lies.un (L : Lies S K ts a us) {o : Obj} (e : S.get? b = some o) (h1 : o ≠ emptyT) (h2 : o ≠ scrO us) : tell K ts a us ns b = none := by
  cases q : tell K ts a us ns b with
  | none => rfl
  | some u =>
    rcases tell_some q with ⟨h, _⟩ | ⟨rfl, _, _⟩
    · exact absurd (Option.some.inj (e.symm.trans (L.t b h))) h1
    · exact absurd (Option.some.inj (e.symm.trans L.l)) h2
theorem Lies.at (L : Lies S K ts a us) {o : Obj} (e : S.get? b = some o) (h1 : o ≠ emptyT) (h2 : o ≠ scrO us) : (hidT S (tell K ts a us ns)).get? b = some o := hidT_get e (L.un e h1 h2)
theorem Lies.kin (L : Lies S K ts a us) : K.In (hidT S (tell K ts a us ns)) := fun b o e => hidT_get (L.i b o e) (by
  cases q : tell K ts a us ns b with
  | none => rfl
  | some u =>
    rcases tell_some q with ⟨h, _⟩ | ⟨rfl, h, _⟩
    · exact absurd (e.symm.trans (L.k b h)) (fun z => nomatch z)
    · exact absurd (e.symm.trans h) (fun z => nomatch z))
theorem dict_un (us : List Value) {o : Obj} {es : Array DictEntry} {ep : Nat} (d : o.data = .dict es ep) : o ≠ emptyT ∧ o ≠ scrO us :=
  ⟨fun z => (by rw [z] at d; cases d), fun z => (by rw [z] at d; cases d)⟩
theorem Lies.nms (L : Lies S K ts a us) {m : Str → Option Value} : S.Ns b m → (hidT S (tell K ts a us ns)).Ns b m := fun ⟨o, es, ep, e, d, r⟩ => ⟨o, es, ep, L.at e (dict_un us d).1 (dict_un us d).2, d, r⟩
theorem Lies.ok {P : Program} {w : World} (L : Lies S K ts a us) (hi : IntsAre us ns) (hl : ns.length ≤ sizeLine) : HOk P w (tell K ts a us ns) S := fun b u q => by
  rcases tell_some q with ⟨h, rfl⟩ | ⟨rfl, _, rfl⟩
  · exact L.t b h
  · exact ⟨L.l, by rw [List.length_map]; exact hl, us, _, vals_ints hi, L.l⟩
end
theorem end_run {P : Program} {w : World} {K : Frg} {mg mb : Str → Option Value} {k : Nat} {fa a : Addr} {cs : List (Addr × Addr)} {fd : FuncData} {x : Str} {sp : Sp} {s : Shared} {us : List Value} {ns : List Int}
    (hK : K.In s.heap) (hg : s.heap.Ns mainGlobals mg) (hb : s.heap.Ns builtinsNs mb) (hbb : ∀ y : Str, y ≠ "__name__" → mb y = bootBuiltins y) (hn : s.heap.NoLimit) (hgen : s.gens = #[])
    (ct : ∀ p ∈ cs, s.heap.get? p.2 = some emptyT ∧ K.lookup p.2 = none ∧ PySem.W.CodeHd s.heap p.1 p.2)
    (bm : ∃ (m : Addr) (o : Obj), mg "__builtins__" = some (.ref m) ∧ m ≠ builtinsNs ∧ s.heap.get? m = some o ∧ o.cls = .type "module" ∧ o.dict = some builtinsNs ∧ o.data = .plain)
    (hs : s.heap.get? a = some (scrO us)) (hi : IntsAre us ns) (hl : ns.length ≤ sizeLine) (hr : Room k callerA)
    (F : ∀ base : Heap, K.In base → base.Ns mainGlobals mg → (∀ p ∈ cs, LamX.TabB base mg p.1 p.2) → FnG P w K mg base k fa fd [x] sp) (hbd : ∀ (s' : Shared) (u : Value), BindsTo s' fd ⟨[u], []⟩ [(x, u)])
    (hsp : ∀ H : Hp, (∀ p ∈ cs, H p.2 = some (.tbl #[])) → SqL K H a (ns.map V.int) → sp [.ref a] H (fun v _ => v = .bl true) E0) :
    codeAny (model P w) callerA (.call (.ref fa) ⟨[.ref a], []⟩) (fun r s' => r = .ok (.ret (.bool true)) ∧ OldK s.heap s'.heap ∧ s'.os = s.os ∧ AllBare s'.gens) s := by
  have L : Lies s.heap K (cs.map (·.2)) a us := ⟨fun b h => by
    obtain ⟨p, hp, rfl⟩ := List.mem_map.mp h
    exact (ct p hp).1, hs, fun b h => by
    obtain ⟨p, hp, rfl⟩ := List.mem_map.mp h
    exact (ct p hp).2.1, hK⟩
  have inT : ∀ p ∈ cs, p.2 ∈ cs.map (·.2) := fun p hp => List.mem_map.mpr ⟨p, hp, rfl⟩
  generalize hTl : tell K (cs.map (·.2)) a us ns = Z
  have Zt : ∀ p ∈ cs, Z p.2 = some (.tbl #[]) := fun p hp => by rw [← hTl]; exact tell_t (inT p hp)
  have ZK : K.In (hidT s.heap Z) := by rw [← hTl]; exact L.kin
  have Zns : ∀ {b : Addr} {m : Str → Option Value}, s.heap.Ns b m → (hidT s.heap Z).Ns b m := fun {b m} q => by rw [← hTl]; exact L.nms q
  have Zat : ∀ {b : Addr} {o : Obj}, s.heap.get? b = some o → o ≠ emptyT → o ≠ scrO us → (hidT s.heap Z).get? b = some o := fun {b o} e h1 h2 => by rw [← hTl]; exact L.at e h1 h2
  have Zok : HOk P w Z s.heap := by rw [← hTl]; exact L.ok hi hl
  have Zs : SqL K Z a (ns.map V.int) := by
    cases q : K.lookup a with
    | none =>
      rw [← hTl]
      exact .inl (.inr ⟨_, tell_a L.na q⟩)
    | some o =>
      have e := hK a o q
      rw [hs] at e
      cases e
      exact .inr ⟨_, us.toArray, _, q, rfl, rfl, rfl, by rw [List.size_toArray, IntsAre.length hi]; exact hl, by simpa using vals_ints hi⟩
  have tab : ∀ p ∈ cs, LamX.TabB (hidT s.heap Z) mg p.1 p.2 := fun p hp => by
    obtain ⟨c1, c2, c3⟩ := ct p hp
    refine ⟨?_, ?_, fun z => ?_⟩
    · obtain ⟨o, vs, file, tf, flags, tg, inF, text, tt, e1, e2, e⟩ := c3
      exact ⟨o, vs, file, tf, flags, tg, inF, text, tt, Zat e1 (fun z => by rw [z] at e2; cases e2) (fun z => by rw [z] at e2; exact absurd (Value.type.inj e2) (by decide)), e2, e⟩
    · obtain ⟨m, o, m1, m2, m3, m4, m5, m6⟩ := bm
      refine ⟨m, o, m1, m2, fun z => ?_, fun z => ?_, Zat m3 (fun z => by rw [z] at m6; cases m6) (fun z => by rw [z] at m6; cases m6), m4, m5, m6⟩
      · obtain ⟨o', es, ep, e, d, _⟩ := hg
        rw [← z, m3] at e
        cases e
        rw [m6] at d
        cases d
      · rw [z, c1] at m3
        cases m3
        cases m6
    · obtain ⟨o', es, ep, e, d, _⟩ := hg
      rw [z, c1] at e
      cases e
      cases d
  have env : Env0 P w K mg (hidT s.heap Z) callerA [] s Z :=
    ⟨rfl, ⟨ZK, Zns hg, ⟨mb, Zns hb, hbb⟩, let ⟨mc, h1, h2⟩ := hn; ⟨mc, Zns h1, h2⟩⟩, fun b o e => of_hidT e, Nat.le_of_eq (hidT_size _ _), trivial, fun b hb => (by cases hb), Zok, .of_eq hgen⟩
  refine codeAny_mono ((F _ ZK (Zns hg) tab).go callerA [] s Z ⟨[.ref a], []⟩ [.ref a] [.ref a] _ E0 rfl hr env (hbd s (.ref a)) (.cons rfl .nil) (hsp Z Zt Zs)) fun r s' h => ?_
  match r, h with
  | .error e, h =>
    obtain ⟨_, _, _, _, _, _, _, _, _, _, _, _, z⟩ := h
    exact z.elim
  | .ok .next, h => exact h.elim
  | .ok .brk, h => exact h.elim
  | .ok .cont, h => exact h.elim
  | .ok (.ret u), h =>
    obtain ⟨v, H', hos, hbare, un, ok', rv, hv⟩ := h
    have hv : v = .bl true := hv
    subst hv
    have hu : u = Value.bool true := rv
    subst hu
    have more : ∀ p ∈ cs, ∃ ms : Array Value, s'.heap.get? p.2 = some { cls := .none, data := .fields ms } := fun p hp => by
      obtain ⟨ms, z⟩ := un.tbls p.2 #[] (Zt p hp)
      exact ⟨_, ok' p.2 _ z⟩
    have stay : ∀ b o, b ∉ cs.map (·.2) → s.heap.get? b = some o → s'.heap.get? b = some o := fun b o nb e => by
      cases q : Z b with
      | none => exact un.keep b o e q (fun z => by cases z) (fun z => by cases z)
      | some c =>
        rw [← hTl] at q
        rcases tell_some q with ⟨z, _⟩ | ⟨rfl, _, rfl⟩
        · exact absurd z nb
        · rw [hTl] at q
          have z := (ok' b _ (un.frzs b _ _ q)).1
          rw [hs] at e
          rw [← Option.some.inj e]
          exact z
    refine ⟨rfl, ⟨fun b o e => ?_, fun b o e => ?_⟩, hos, hbare⟩
    · by_cases nb : b ∈ cs.map (·.2)
      · obtain ⟨p, hp, rfl⟩ := List.mem_map.mp nb
        obtain ⟨c1, _, c3⟩ := ct p hp
        obtain ⟨ms, hm⟩ := more p hp
        rw [c1] at e
        rw [← Option.some.inj e]
        exact .inr (.inl ⟨(c3.tab c1).isCodeTable, rfl, #[], ms, rfl, by rw [Array.empty_append]; exact hm⟩)
      · exact .inl (stay b o nb e)
    · by_cases nb : b ∈ cs.map (·.2)
      · obtain ⟨p, hp, rfl⟩ := List.mem_map.mp nb
        obtain ⟨ms, hm⟩ := more p hp
        exact ⟨_, hm⟩
      · exact ⟨o, stay b o nb e⟩
end Pb

set_option Elab.async false
set_option linter.all false
set_option maxRecDepth 100000
set_option maxHeartbeats 4000000
/-! PbAL: the chain of all defs. -/
namespace Pb
open PySem PySem.Spec PyProof.Rows L2
section
variable {P : Program} {w : World} {K : Frg} {mg : Str → Option Value} {base : Heap} {x qual : Str} {params : Arguments} {body : List Stmt} {scope : Scope} {f : Addr} {fd : FuncData} {ps ks : List Str} {pre : Pre} {T : List (Addr × Str)} {j : Nat}
theorem KnG.mono {k : Nat} {sp : Sp} (h : KnG P w K mg base j x ps sp) (l : j ≤ k) : KnG P w K mg base k x ps sp := by
  obtain ⟨f, fd, F, h1, h2, h3⟩ := h.ex
  exact ⟨f, fd, ⟨F.len, fun A outer s H args us vs Q E hg hr => F.go A outer s H args us vs Q E hg (hr.mono l)⟩, h1, h2, h3⟩
theorem knk_of (F : FunD K x qual params body scope [] [] f fd) (hm : mg x = some (.ref f)) (G : FnOk P w K mg base (L2.CX P w) j f fd ps (prom K T pre)) {g : List Value → List Value} {gV : List V → List V} (hr : ∀ {vs : List V} {us : List Value}, Vals vs us → Vals (gV vs) (g us))
    (hb : ∀ (kV doc pm : Value) (an : Option Addr) (cdv ct : Value) (us : List Value), us.length = ks.length → bindArgs (PySem.W.fnOf x qual params body scope .none kV doc pm an cdv ct) ⟨[], ks.zip us⟩ = pure (ps.zip (g us))) : KnK P w K mg base T j x ps ks (fun _ vs => gV vs) pre := by
  refine ⟨f, fd, fun _ us => g us, G, hm, F.kp, ⟨fun s us ws _ l1 l2 => ?_, fun _ r => hr r⟩⟩
  obtain ⟨oc, od, dV, kV, doc, pm, an, cdv, ct, osl, rfl, lk, hcd, hD, hK⟩ := F.ex
  have e := List.length_eq_zero_iff.mp l1
  subst e
  rcases hD with ⟨_, rfl⟩ | ⟨e, _⟩
  · exact .of_eq (hb kV doc pm an cdv ct ws l2)
  · exact absurd rfl e
end
theorem vals_sw {vs : List V} {us : List Value} (r : Vals vs us) : Vals (sw vs) (sw us) := by
  match vs, us, r with
  | [], _, .nil => exact .nil
  | [_], _, .cons h .nil => exact .cons h .nil
  | [_, _], _, .cons h (.cons h2 .nil) => exact .cons h2 (.cons h .nil)
  | _ :: _ :: _ :: _, _, .cons h (.cons h2 (.cons h3 r)) => exact .cons h (.cons h2 (.cons h3 r))
theorem vals_rot3 {vs : List V} {us : List Value} (r : Vals vs us) : Vals (rot3 vs) (rot3 us) := by
  match vs, us, r with
  | [], _, .nil => exact .nil
  | [_], _, .cons h .nil => exact .cons h .nil
  | [_, _], _, .cons h (.cons h2 .nil) => exact .cons h (.cons h2 .nil)
  | [_, _, _], _, .cons h (.cons h2 (.cons h3 .nil)) => exact .cons h2 (.cons h3 (.cons h .nil))
  | _ :: _ :: _ :: _ :: _, _, .cons h (.cons h2 (.cons h3 (.cons h4 r))) => exact .cons h (.cons h2 (.cons h3 (.cons h4 r)))
theorem vals_rot4 {vs : List V} {us : List Value} (r : Vals vs us) : Vals (rot4 vs) (rot4 us) := by
  match vs, us, r with
  | [], _, .nil => exact .nil
  | [_], _, .cons h .nil => exact .cons h .nil
  | [_, _], _, .cons h (.cons h2 .nil) => exact .cons h (.cons h2 .nil)
  | [_, _, _], _, .cons h (.cons h2 (.cons h3 .nil)) => exact .cons h (.cons h2 (.cons h3 .nil))
  | [_, _, _, _], _, .cons h (.cons h2 (.cons h3 (.cons h4 .nil))) => exact .cons h2 (.cons h4 (.cons h3 (.cons h .nil)))
  | _ :: _ :: _ :: _ :: _ :: _, _, .cons h (.cons h2 (.cons h3 (.cons h4 (.cons h5 r)))) => exact .cons h (.cons h2 (.cons h3 (.cons h4 (.cons h5 r))))
/-- all defs, as the head tells them -/
structure Hd (K : Frg) (mg : Str → Option Value) : Prop where
  f_want : ∃ fd, FnT K "a_want" 10 (He.ga K "a_want") fd
  m_want : mg "a_want" = some (.ref (He.ga K "a_want"))
  f_isint : ∃ fd, FnT K "is_integer" 12 (He.ga K "is_integer") fd
  m_isint : mg "is_integer" = some (.ref (He.ga K "is_integer"))
  f_isnum : ∃ fd, FnT K "is_number" 13 (He.ga K "is_number") fd
  m_isnum : mg "is_number" = some (.ref (He.ga K "is_number"))
  f_isbase : ∃ fd, FnT K "is_base" 14 (He.ga K "is_base") fd
  m_isbase : mg "is_base" = some (.ref (He.ga K "is_base"))
  f_nums : ∃ fd, FnT K "a_is_numbers" 15 (He.ga K "a_is_numbers") fd
  m_nums : mg "a_is_numbers" = some (.ref (He.ga K "a_is_numbers"))
  f_dig : ∃ fd, FnT K "is_digits" 16 (He.ga K "is_digits") fd
  m_dig : mg "is_digits" = some (.ref (He.ga K "is_digits"))
  f_row : ∃ fd, FnT K "row_of" 18 (He.ga K "row_of") fd
  m_row : mg "row_of" = some (.ref (He.ga K "row_of"))
  f_added : ∃ fd, FnT K "added" 20 (He.ga K "added") fd
  m_added : mg "added" = some (.ref (He.ga K "added"))
  f_stk : ∃ fd, FnT K "stack_of" 19 (He.ga K "stack_of") fd
  m_stk : mg "stack_of" = some (.ref (He.ga K "stack_of"))
  f_fitm : ∃ fd, FnT K "fits_modulus" 22 (He.ga K "fits_modulus") fd
  m_fitm : mg "fits_modulus" = some (.ref (He.ga K "fits_modulus"))
  f_fitf : ∃ fd, FnT K "fits_framed" 23 (He.ga K "fits_framed") fd
  m_fitf : mg "fits_framed" = some (.ref (He.ga K "fits_framed"))
  f_wb : ∃ fd, FnT K "want_base" 24 (He.ga K "want_base") fd
  m_wb : mg "want_base" = some (.ref (He.ga K "want_base"))
  f_les : ∃ fd, FnT K "lesser" 30 (He.ga K "lesser") fd
  m_les : mg "lesser" = some (.ref (He.ga K "lesser"))
  f_lov : ∃ fd, FnT K "loss_over" 31 (He.ga K "loss_over") fd
  m_lov : mg "loss_over" = some (.ref (He.ga K "loss_over"))
  f_size : ∃ fd, FnT K "a_is_size" 33 (He.ga K "a_is_size") fd
  m_size : mg "a_is_size" = some (.ref (He.ga K "a_is_size"))
  f_even : ∃ fd, FnT K "push_even" 34 (He.ga K "push_even") fd
  m_even : mg "push_even" = some (.ref (He.ga K "push_even"))
  f_wc : ∃ fd, FnT K "want_checked" 36 (He.ga K "want_checked") fd
  m_wc : mg "want_checked" = some (.ref (He.ga K "want_checked"))
  f_push : ∃ fd, FnT K "push_check" 37 (He.ga K "push_check") fd
  m_push : mg "push_check" = some (.ref (He.ga K "push_check"))
  f_spo : ∃ fd, FnT K "is_spoilt" 38 (He.ga K "is_spoilt") fd
  m_spo : mg "is_spoilt" = some (.ref (He.ga K "is_spoilt"))
  f_pop : ∃ fd, FnT K "pop_check" 39 (He.ga K "pop_check") fd
  m_pop : mg "pop_check" = some (.ref (He.ga K "pop_check"))
  f_ap : ∃ fd, FnT K "seen_apart" 40 (He.ga K "seen_apart") fd
  m_ap : mg "seen_apart" = some (.ref (He.ga K "seen_apart"))
  f_sts : ∃ fd, FnT K "starts_of" 28 (He.ga K "starts_of") fd
  m_sts : mg "starts_of" = some (.ref (He.ga K "starts_of"))
  f_sho : ∃ fd, FnT K "shortest_loss" 29 (He.ga K "shortest_loss") fd
  m_sho : mg "shortest_loss" = some (.ref (He.ga K "shortest_loss"))
  f_str : ∃ fd, FnT K "stream_of" 26 (He.ga K "stream_of") fd
  m_str : mg "stream_of" = some (.ref (He.ga K "stream_of"))
  f_frm : ∃ fd, FnT K "frames_in" 27 (He.ga K "frames_in") fd
  m_frm : mg "frames_in" = some (.ref (He.ga K "frames_in"))
  f_draw : ∃ fd, FnT K "_law_draw" 43 (He.ga K "_law_draw") fd
  m_draw : mg "_law_draw" = some (.ref (He.ga K "_law_draw"))
  f_any : ∃ fd, FnT K "_law_any" 44 (He.ga K "_law_any") fd
  m_any : mg "_law_any" = some (.ref (He.ga K "_law_any"))
  f_heap : ∃ fd, FnT K "_law_heap" 47 (He.ga K "_law_heap") fd
  m_heap : mg "_law_heap" = some (.ref (He.ga K "_law_heap"))
  f_line : ∃ fd, FnT K "_law_line" 48 (He.ga K "_law_line") fd
  m_line : mg "_law_line" = some (.ref (He.ga K "_law_line"))
  f_lstk : ∃ fd, FnT K "_law_stack" 49 (He.ga K "_law_stack") fd
  m_lstk : mg "_law_stack" = some (.ref (He.ga K "_law_stack"))
  f_tape : ∃ fd, FnT K "_law_tape" 50 (He.ga K "_law_tape") fd
  m_tape : mg "_law_tape" = some (.ref (He.ga K "_law_tape"))
  f_isap : ∃ fd, FnT K "_law_is_apart" 52 (He.ga K "_law_is_apart") fd
  m_isap : mg "_law_is_apart" = some (.ref (He.ga K "_law_is_apart"))
  f_whole : ∃ fd, FnT K "_law_whole" 56 (He.ga K "_law_whole") fd
  m_whole : mg "_law_whole" = some (.ref (He.ga K "_law_whole"))
  f_stks : ∃ fd, FnT K "_law_stacks" 55 (He.ga K "_law_stacks") fd
  m_stks : mg "_law_stacks" = some (.ref (He.ga K "_law_stacks"))
  f_told : ∃ fd, FnT K "_law_loss_told" 58 (He.ga K "_law_loss_told") fd
  m_told : mg "_law_loss_told" = some (.ref (He.ga K "_law_loss_told"))
  f_losses : ∃ fd, FnT K "_law_losses" 57 (He.ga K "_law_losses") fd
  m_losses : mg "_law_losses" = some (.ref (He.ga K "_law_losses"))
  f_chg : ∃ fd, FnT K "_law_changes" 53 (He.ga K "_law_changes") fd
  m_chg : mg "_law_changes" = some (.ref (He.ga K "_law_changes"))
  f_feed : ∃ fd, FnT K "_law_feed" 42 (He.ga K "_law_feed") fd
  m_feed : mg "_law_feed" = some (.ref (He.ga K "_law_feed"))
  f_same : ∃ fd, FnT K "_law_same" 45 (He.ga K "_law_same") fd
  m_same : mg "_law_same" = some (.ref (He.ga K "_law_same"))
  f_chk : ∃ fd, FnT K "_law_are_checks_right" 51 (He.ga K "_law_are_checks_right") fd
  m_chk : mg "_law_are_checks_right" = some (.ref (He.ga K "_law_are_checks_right"))
  f_seen : ∃ fd, FnT K "_law_are_changes_seen" 54 (He.ga K "_law_are_changes_seen") fd
  m_seen : mg "_law_are_changes_seen" = some (.ref (He.ga K "_law_are_changes_seen"))
  f_frs : ∃ fd, FnT K "_law_are_frames_right" 59 (He.ga K "_law_are_frames_right") fd
  m_frs : mg "_law_are_frames_right" = some (.ref (He.ga K "_law_are_frames_right"))
  f_rows : ∃ fd, FnT K "_law_are_rows_right" 60 (He.ga K "_law_are_rows_right") fd
  m_rows : mg "_law_are_rows_right" = some (.ref (He.ga K "_law_are_rows_right"))
  f_prim : ∃ fd, FnT K "_law_are_primes_right" 61 (He.ga K "_law_are_primes_right") fd
  m_prim : mg "_law_are_primes_right" = some (.ref (He.ga K "_law_are_primes_right"))
  f_hand : ∃ fd, FnT K "_law_are_hand_right" 62 (He.ga K "_law_are_hand_right") fd
  m_hand : mg "_law_are_hand_right" = some (.ref (He.ga K "_law_are_hand_right"))
  f_codds : ∃ fd, FnT K "_law_are_check_odds_refused" 63 (He.ga K "_law_are_check_odds_refused") fd
  m_codds : mg "_law_are_check_odds_refused" = some (.ref (He.ga K "_law_are_check_odds_refused"))
  f_fodds : ∃ fd, FnT K "_law_are_frame_odds_refused" 64 (He.ga K "_law_are_frame_odds_refused") fd
  m_fodds : mg "_law_are_frame_odds_refused" = some (.ref (He.ga K "_law_are_frame_odds_refused"))
  f_law : ∃ fd, FnT K "law" 65 (He.ga K "law") fd
  n_use : ∃ fd, FunD K "__init__" "NotUsable.__init__" (defArgs (inClass (top 4) 0)) (defBody (inClass (top 4) 0)) (defScope (inClass (top 4) 0)) [] [] (He.ma K (He.ga K "NotUsable") "__init__") fd
  n_spo : ∃ fd, FunD K "__init__" "Spoilt.__init__" (defArgs (inClass (top 6) 0)) (defBody (inClass (top 6) 0)) (defScope (inClass (top 6) 0)) [] [] (He.ma K (He.ga K "Spoilt") "__init__") fd
  i_use : PySem.W.findIn K (.ref (He.ga K "NotUsable")) "__init__" = some (some (.ref (He.ma K (He.ga K "NotUsable") "__init__"))) ∧ PySem.W.typeIn K (.ref (He.ma K (He.ga K "NotUsable") "__init__")) = some (.type "function")
  i_spo : PySem.W.findIn K (.ref (He.ga K "Spoilt")) "__init__" = some (some (.ref (He.ma K (He.ga K "Spoilt") "__init__"))) ∧ PySem.W.typeIn K (.ref (He.ma K (He.ga K "Spoilt") "__init__")) = some (.type "function")
  o_use : OexC K (He.ga K "NotUsable")
  o_spo : OexC K (He.ga K "Spoilt")
  b : Blt mg
  x : ExF K mg
  heard : HeardK K mg
section
variable {P : Program} {w : World} {K : Frg} {mg : Str → Option Value} {base : Heap} {T : List (Addr × Str)}
/-- the program's own defs and the law's helpers -/
structure Kns (P : Program) (w : World) (K : Frg) (mg : Str → Option Value) (base : Heap) (T : List (Addr × Str)) : Prop where
  want : Kn P w K mg base T 3 "a_want" ["good", "word"] wantP
  isint : Kn P w K mg base T 1 "is_integer" ["thing"] (pp1 fun d => .bool (isInt d))
  isnum : Kn P w K mg base T 2 "is_number" ["thing"] (pp1 fun d => .bool (isNum d))
  isbase : Kn P w K mg base T 2 "is_base" ["thing"] (pp1 fun d => .bool (isBase d))
  nums : Kn P w K mg base T 3 "a_is_numbers" ["thing"] preNums
  dig : Kn P w K mg base T 4 "is_digits" ["base", "thing"] preDig
  row : Kn P w K mg base T 4 "row_of" ["base", "stack"] preRow
  added : Kn P w K mg base T 5 "added" ["base", "stack", "digits"] preAdd
  stk : Kn P w K mg base T 6 "stack_of" ["base", "digits"] preStk
  fitm : Kn P w K mg base T 2 "fits_modulus" ["thing"] (pp1 fun d => .bool (fitsM d))
  fitf : Kn P w K mg base T 5 "fits_framed" ["base", "thing"] preFitF
  wb : Kn P w K mg base T 4 "want_base" ["base"] (pf1 (fun _ => True) want3)
  les : Kn P w K mg base T 1 "lesser" ["one", "other"] preLes
  lov : Kn P w K mg base T 1 "loss_over" ["starts", "first", "last"] preLoss
  size : Kn P w K mg base T 2 "a_is_size" ["thing"] preSize
  even : Kn P w K mg base T 4 "push_even" ["stack", "many", "digit"] preEven
  wc : Kn P w K mg base T 4 "want_checked" ["stack", "modulus"] (pf2 (fun _ _ => True) wantC)
  push : Kn P w K mg base T 5 "push_check" ["stack", "modulus"] (pf2 (fun _ _ => True) pushC)
  spo : Kn P w K mg base T 5 "is_spoilt" ["stack", "modulus"] (pf2 (fun _ _ => True) spoC)
  pop : Kn P w K mg base T 5 "pop_check" ["stack", "modulus"] (pf2 (fun _ _ => True) popC)
  ap : Kn P w K mg base T 7 "seen_apart" ["base", "modulus", "one", "other"] (pf4 (fun _ _ o r => Sm o ∧ Sm r) apart)
  sts : Kn P w K mg base T 6 "starts_of" ["base", "stream"] preSts
  sho : Kn P w K mg base T 7 "shortest_loss" ["base", "stream", "many"] preSho
  str : Kn P w K mg base T 5 "stream_of" ["base", "stacks"] preStr
  frm : Kn P w K mg base T 7 "frames_in" ["base", "scrap"] preFrm
  draw : Kn P w K mg base T 1 "_law_draw" ["_law_feed_here", "_law_below"] preDraw
  any : Kn P w K mg base T 2 "_law_any" ["_law_feed_here", "_law_some"] preAny
  heap : Kn P w K mg base T 2 "_law_heap" ["_law_feed_here"] preHeap
  line : Kn P w K mg base T 1 "_law_line" ["_law_radix", "_law_heap_here"] preLine
  lstk : Kn P w K mg base T 1 "_law_stack" ["_law_radix", "_law_line_here"] preStack
  tape : Kn P w K mg base T 2 "_law_tape" ["_law_base", "_law_heaps"] preTape
  isap : Kn P w K mg base T 1 "_law_is_apart" ["_law_base", "_law_prime", "_law_left", "_law_right"] preApart
  whole : Kn P w K mg base T 1 "_law_whole" ["_law_starts", "_law_heaps", "_law_low", "_law_high"] preWhole
  stks : Kn P w K mg base T 3 "_law_stacks" ["_law_feed_here", "_law_base"] preStks
  told : Kn P w K mg base T 1 "_law_loss_told" ["_law_starts"] preTold
  losses : Kn P w K mg base T 1 "_law_losses" ["_law_tape_here", "_law_starts"] preLosses
  chg : Kn P w K mg base T 2 "_law_changes" ["_law_feed_here", "_law_base", "_law_prime", "_law_body"] preChg
  pushK : KnK P w K mg base T 7 "push_check" ["stack", "modulus"] ["modulus", "stack"] (fun _ vs => sw vs) (pf2 (fun _ _ => True) pushC)
  popK : KnK P w K mg base T 7 "pop_check" ["stack", "modulus"] ["modulus", "stack"] (fun _ vs => sw vs) (pf2 (fun _ _ => True) popC)
  spoK : KnK P w K mg base T 7 "is_spoilt" ["stack", "modulus"] ["modulus", "stack"] (fun _ vs => sw vs) (pf2 (fun _ _ => True) spoC)
  apK : KnK P w K mg base T 7 "seen_apart" ["base", "modulus", "one", "other"] ["other", "base", "one", "modulus"] (fun _ vs => rot4 vs) (pf4 (fun _ _ o r => Sm o ∧ Sm r) apart)
  strK : KnK P w K mg base T 7 "stream_of" ["base", "stacks"] ["stacks", "base"] (fun _ vs => sw vs) preStr
  stsK : KnK P w K mg base T 7 "starts_of" ["base", "stream"] ["stream", "base"] (fun _ vs => sw vs) preSts
  frmK : KnK P w K mg base T 7 "frames_in" ["base", "scrap"] ["scrap", "base"] (fun _ vs => sw vs) preFrm
  shoK : KnK P w K mg base T 7 "shortest_loss" ["base", "stream", "many"] ["many", "base", "stream"] (fun _ vs => rot3 vs) preSho
theorem kns_of (h : Hd K mg) : Kns P w K mg base T := by
  have u : ExU P w K mg base 1 := by
    obtain ⟨fd, F⟩ := h.n_use
    exact ⟨_, fd, h.o_use, h.i_use.1, h.i_use.2, g_use (k := 0) F h.o_use h.x.nw h.x.na, F.bindsN (fun _ _ _ _ _ _ us hl => match us, hl with | [_, _, _], _ => rfl), h.x.mu⟩
  have x : ExS P w K mg base 3 := by
    obtain ⟨fd, F⟩ := h.n_spo
    exact ⟨_, fd, h.o_spo, h.i_spo.1, h.i_spo.2, g_spo (k := 2) F h.o_spo h.x.nf, F.bindsN (fun _ _ _ _ _ _ us hl => match us, hl with | [_, _], _ => rfl), h.x.mo⟩
  have k_want : Kn P w K mg base T 3 "a_want" ["good", "word"] wantP := by
    obtain ⟨fd, F⟩ := h.f_want
    exact kn_of F h.m_want (g_want (k := 1) F u) (fun _ _ _ _ _ _ us hl => match us, hl with | [_, _], _ => rfl)
  have k_isint : Kn P w K mg base T 1 "is_integer" ["thing"] (pp1 fun d => .bool (isInt d)) := by
    obtain ⟨fd, F⟩ := h.f_isint
    exact kn_of F h.m_isint (g_is_integer (k := 0) F h.b) (fun _ _ _ _ _ _ us hl => match us, hl with | [_], _ => rfl)
  have k_isnum : Kn P w K mg base T 2 "is_number" ["thing"] (pp1 fun d => .bool (isNum d)) := by
    obtain ⟨fd, F⟩ := h.f_isnum
    exact kn_of F h.m_isnum (g_is_number (k := 1) F k_isint) (fun _ _ _ _ _ _ us hl => match us, hl with | [_], _ => rfl)
  have k_isbase : Kn P w K mg base T 2 "is_base" ["thing"] (pp1 fun d => .bool (isBase d)) := by
    obtain ⟨fd, F⟩ := h.f_isbase
    exact kn_of F h.m_isbase (g_is_base (k := 1) F k_isint) (fun _ _ _ _ _ _ us hl => match us, hl with | [_], _ => rfl)
  have k_nums : Kn P w K mg base T 3 "a_is_numbers" ["thing"] preNums := by
    obtain ⟨fd, F⟩ := h.f_nums
    exact kn_of F h.m_nums (g_a_is_numbers (k := 2) F h.b k_isnum) (fun _ _ _ _ _ _ us hl => match us, hl with | [_], _ => rfl)
  have k_dig : Kn P w K mg base T 4 "is_digits" ["base", "thing"] preDig := by
    obtain ⟨fd, F⟩ := h.f_dig
    exact kn_of F h.m_dig (g_is_digits (k := 3) F h.b k_want (k_isbase.mono (by decide)) k_nums) (fun _ _ _ _ _ _ us hl => match us, hl with | [_, _], _ => rfl)
  have k_row : Kn P w K mg base T 4 "row_of" ["base", "stack"] preRow := by
    obtain ⟨fd, F⟩ := h.f_row
    exact kn_of F h.m_row (g_row_of (k := 3) F h.b k_want (k_isbase.mono (by decide)) (k_isnum.mono (by decide))) (fun _ _ _ _ _ _ us hl => match us, hl with | [_, _], _ => rfl)
  have k_added : Kn P w K mg base T 5 "added" ["base", "stack", "digits"] preAdd := by
    obtain ⟨fd, F⟩ := h.f_added
    exact kn_of F h.m_added (g_added (k := 4) F h.b (k_want.mono (by decide)) (k_isbase.mono (by decide)) (k_isnum.mono (by decide)) k_dig) (fun _ _ _ _ _ _ us hl => match us, hl with | [_, _, _], _ => rfl)
  have k_stk : Kn P w K mg base T 6 "stack_of" ["base", "digits"] preStk := by
    obtain ⟨fd, F⟩ := h.f_stk
    exact kn_of F h.m_stk (g_stack_of (k := 5) F h.b (k_want.mono (by decide)) (k_isbase.mono (by decide)) (k_dig.mono (by decide)) k_added) (fun _ _ _ _ _ _ us hl => match us, hl with | [_, _], _ => rfl)
  have k_fitm : Kn P w K mg base T 2 "fits_modulus" ["thing"] (pp1 fun d => .bool (fitsM d)) := by
    obtain ⟨fd, F⟩ := h.f_fitm
    exact kn_of F h.m_fitm (g_fits_modulus (k := 1) F h.b k_isint) (fun _ _ _ _ _ _ us hl => match us, hl with | [_], _ => rfl)
  have k_fitf : Kn P w K mg base T 5 "fits_framed" ["base", "thing"] preFitF := by
    obtain ⟨fd, F⟩ := h.f_fitf
    exact kn_of F h.m_fitf (g_fits_framed (k := 4) F h.b k_dig) (fun _ _ _ _ _ _ us hl => match us, hl with | [_, _], _ => rfl)
  have k_wb : Kn P w K mg base T 4 "want_base" ["base"] (pf1 (fun _ => True) want3) := by
    obtain ⟨fd, F⟩ := h.f_wb
    exact kn_of F h.m_wb (g_want_base (k := 3) F k_want (k_isbase.mono (by decide))) (fun _ _ _ _ _ _ us hl => match us, hl with | [_], _ => rfl)
  have k_les : Kn P w K mg base T 1 "lesser" ["one", "other"] preLes := by
    obtain ⟨fd, F⟩ := h.f_les
    exact kn_of F h.m_les (g_lesser (k := 0) F ) (fun _ _ _ _ _ _ us hl => match us, hl with | [_, _], _ => rfl)
  have k_lov : Kn P w K mg base T 1 "loss_over" ["starts", "first", "last"] preLoss := by
    obtain ⟨fd, F⟩ := h.f_lov
    exact kn_of F h.m_lov (g_loss_over (k := 0) F ) (fun _ _ _ _ _ _ us hl => match us, hl with | [_, _, _], _ => rfl)
  have k_size : Kn P w K mg base T 2 "a_is_size" ["thing"] preSize := by
    obtain ⟨fd, F⟩ := h.f_size
    exact kn_of F h.m_size (g_a_is_size (k := 1) F k_isint) (fun _ _ _ _ _ _ us hl => match us, hl with | [_], _ => rfl)
  have k_even : Kn P w K mg base T 4 "push_even" ["stack", "many", "digit"] preEven := by
    obtain ⟨fd, F⟩ := h.f_even
    exact kn_of F h.m_even (g_push_even (k := 3) F k_want (k_isnum.mono (by decide)) (k_size.mono (by decide))) (fun _ _ _ _ _ _ us hl => match us, hl with | [_, _, _], _ => rfl)
  have k_wc : Kn P w K mg base T 4 "want_checked" ["stack", "modulus"] (pf2 (fun _ _ => True) wantC) := by
    obtain ⟨fd, F⟩ := h.f_wc
    exact kn_of F h.m_wc (g_want_checked (k := 3) F k_want (k_isnum.mono (by decide)) (k_fitm.mono (by decide))) (fun _ _ _ _ _ _ us hl => match us, hl with | [_, _], _ => rfl)
  have kk_push : Kn P w K mg base T 5 "push_check" ["stack", "modulus"] (pf2 (fun _ _ => True) pushC) ∧ KnK P w K mg base T 7 "push_check" ["stack", "modulus"] ["modulus", "stack"] (fun _ vs => sw vs) (pf2 (fun _ _ => True) pushC) := by
    obtain ⟨fd, F⟩ := h.f_push
    have G := g_push_check (P := P) (w := w) (mg := mg) (base := base) (T := T) (k := 4) F k_wc k_even
    exact ⟨kn_of F h.m_push G (fun _ _ _ _ _ _ us hl => match us, hl with | [_, _], _ => rfl), knk_of F h.m_push (G.mono (by decide)) (g := fun us => sw us) (gV := fun vs => sw vs) (fun r => vals_sw r) (fun _ _ _ _ _ _ us hl => match us, hl with | [_, _], _ => rfl)⟩
  have k_push := kk_push.1
  have kk_spo : Kn P w K mg base T 5 "is_spoilt" ["stack", "modulus"] (pf2 (fun _ _ => True) spoC) ∧ KnK P w K mg base T 7 "is_spoilt" ["stack", "modulus"] ["modulus", "stack"] (fun _ vs => sw vs) (pf2 (fun _ _ => True) spoC) := by
    obtain ⟨fd, F⟩ := h.f_spo
    have G := g_is_spoilt (P := P) (w := w) (mg := mg) (base := base) (T := T) (k := 4) F k_wc
    exact ⟨kn_of F h.m_spo G (fun _ _ _ _ _ _ us hl => match us, hl with | [_, _], _ => rfl), knk_of F h.m_spo (G.mono (by decide)) (g := fun us => sw us) (gV := fun vs => sw vs) (fun r => vals_sw r) (fun _ _ _ _ _ _ us hl => match us, hl with | [_, _], _ => rfl)⟩
  have k_spo := kk_spo.1
  have kk_pop : Kn P w K mg base T 5 "pop_check" ["stack", "modulus"] (pf2 (fun _ _ => True) popC) ∧ KnK P w K mg base T 7 "pop_check" ["stack", "modulus"] ["modulus", "stack"] (fun _ vs => sw vs) (pf2 (fun _ _ => True) popC) := by
    obtain ⟨fd, F⟩ := h.f_pop
    have G := g_pop_check (P := P) (w := w) (mg := mg) (base := base) (T := T) (k := 3) F x k_wc
    exact ⟨kn_of F h.m_pop G (fun _ _ _ _ _ _ us hl => match us, hl with | [_, _], _ => rfl), knk_of F h.m_pop (G.mono (by decide)) (g := fun us => sw us) (gV := fun vs => sw vs) (fun r => vals_sw r) (fun _ _ _ _ _ _ us hl => match us, hl with | [_, _], _ => rfl)⟩
  have k_pop := kk_pop.1
  have kk_ap : Kn P w K mg base T 7 "seen_apart" ["base", "modulus", "one", "other"] (pf4 (fun _ _ o r => Sm o ∧ Sm r) apart) ∧ KnK P w K mg base T 7 "seen_apart" ["base", "modulus", "one", "other"] ["other", "base", "one", "modulus"] (fun _ vs => rot4 vs) (pf4 (fun _ _ o r => Sm o ∧ Sm r) apart) := by
    obtain ⟨fd, F⟩ := h.f_ap
    have G := g_seen_apart (P := P) (w := w) (mg := mg) (base := base) (T := T) (k := 6) F h.b (k_wb.mono (by decide)) (k_want.mono (by decide)) (k_fitm.mono (by decide)) (k_dig.mono (by decide)) k_stk
    exact ⟨kn_of F h.m_ap G (fun _ _ _ _ _ _ us hl => match us, hl with | [_, _, _, _], _ => rfl), knk_of F h.m_ap (G.mono (by decide)) (g := fun us => rot4 us) (gV := fun vs => rot4 vs) (fun r => vals_rot4 r) (fun _ _ _ _ _ _ us hl => match us, hl with | [_, _, _, _], _ => rfl)⟩
  have k_ap := kk_ap.1
  have kk_sts : Kn P w K mg base T 6 "starts_of" ["base", "stream"] preSts ∧ KnK P w K mg base T 7 "starts_of" ["base", "stream"] ["stream", "base"] (fun _ vs => sw vs) preSts := by
    obtain ⟨fd, F⟩ := h.f_sts
    have G := g_starts_of (P := P) (w := w) (mg := mg) (base := base) (T := T) (k := 5) F h.b (k_wb.mono (by decide)) (k_want.mono (by decide)) k_fitf
    exact ⟨kn_of F h.m_sts G (fun _ _ _ _ _ _ us hl => match us, hl with | [_, _], _ => rfl), knk_of F h.m_sts (G.mono (by decide)) (g := fun us => sw us) (gV := fun vs => sw vs) (fun r => vals_sw r) (fun _ _ _ _ _ _ us hl => match us, hl with | [_, _], _ => rfl)⟩
  have k_sts := kk_sts.1
  have kk_sho : Kn P w K mg base T 7 "shortest_loss" ["base", "stream", "many"] preSho ∧ KnK P w K mg base T 7 "shortest_loss" ["base", "stream", "many"] ["many", "base", "stream"] (fun _ vs => rot3 vs) preSho := by
    obtain ⟨fd, F⟩ := h.f_sho
    have G := g_shortest_loss (P := P) (w := w) (mg := mg) (base := base) (T := T) (k := 6) F h.b k_sts (k_want.mono (by decide)) (k_isnum.mono (by decide)) (k_les.mono (by decide)) (k_lov.mono (by decide))
    exact ⟨kn_of F h.m_sho G (fun _ _ _ _ _ _ us hl => match us, hl with | [_, _, _], _ => rfl), knk_of F h.m_sho (G.mono (by decide)) (g := fun us => rot3 us) (gV := fun vs => rot3 vs) (fun r => vals_rot3 r) (fun _ _ _ _ _ _ us hl => match us, hl with | [_, _, _], _ => rfl)⟩
  have k_sho := kk_sho.1
  have kk_str : Kn P w K mg base T 5 "stream_of" ["base", "stacks"] preStr ∧ KnK P w K mg base T 7 "stream_of" ["base", "stacks"] ["stacks", "base"] (fun _ vs => sw vs) preStr := by
    obtain ⟨fd, F⟩ := h.f_str
    have G := g_stream_of (P := P) (w := w) (mg := mg) (base := base) (T := T) (k := 4) F h.b k_wb (k_want.mono (by decide)) (k_isnum.mono (by decide)) k_row
    exact ⟨kn_of F h.m_str G (fun _ _ _ _ _ _ us hl => match us, hl with | [_, _], _ => rfl), knk_of F h.m_str (G.mono (by decide)) (g := fun us => sw us) (gV := fun vs => sw vs) (fun r => vals_sw r) (fun _ _ _ _ _ _ us hl => match us, hl with | [_, _], _ => rfl)⟩
  have k_str := kk_str.1
  have kk_frm : Kn P w K mg base T 7 "frames_in" ["base", "scrap"] preFrm ∧ KnK P w K mg base T 7 "frames_in" ["base", "scrap"] ["scrap", "base"] (fun _ vs => sw vs) preFrm := by
    obtain ⟨fd, F⟩ := h.f_frm
    have G := g_frames_in (P := P) (w := w) (mg := mg) (base := base) (T := T) (k := 6) F h.b (k_wb.mono (by decide)) (k_want.mono (by decide)) (k_dig.mono (by decide)) k_stk
    exact ⟨kn_of F h.m_frm G (fun _ _ _ _ _ _ us hl => match us, hl with | [_, _], _ => rfl), knk_of F h.m_frm (G.mono (by decide)) (g := fun us => sw us) (gV := fun vs => sw vs) (fun r => vals_sw r) (fun _ _ _ _ _ _ us hl => match us, hl with | [_, _], _ => rfl)⟩
  have k_frm := kk_frm.1
  have k_draw : Kn P w K mg base T 1 "_law_draw" ["_law_feed_here", "_law_below"] preDraw := by
    obtain ⟨fd, F⟩ := h.f_draw
    exact kn_of F h.m_draw (g_law_draw (k := 0) F h.b) (fun _ _ _ _ _ _ us hl => match us, hl with | [_, _], _ => rfl)
  have k_any : Kn P w K mg base T 2 "_law_any" ["_law_feed_here", "_law_some"] preAny := by
    obtain ⟨fd, F⟩ := h.f_any
    exact kn_of F h.m_any (g_law_any (k := 1) F h.b k_draw) (fun _ _ _ _ _ _ us hl => match us, hl with | [_, _], _ => rfl)
  have k_heap : Kn P w K mg base T 2 "_law_heap" ["_law_feed_here"] preHeap := by
    obtain ⟨fd, F⟩ := h.f_heap
    exact kn_of F h.m_heap (g_law_heap (k := 1) F h.b k_draw) (fun _ _ _ _ _ _ us hl => match us, hl with | [_], _ => rfl)
  have k_line : Kn P w K mg base T 1 "_law_line" ["_law_radix", "_law_heap_here"] preLine := by
    obtain ⟨fd, F⟩ := h.f_line
    exact kn_of F h.m_line (g_law_line (k := 0) F h.b) (fun _ _ _ _ _ _ us hl => match us, hl with | [_, _], _ => rfl)
  have k_lstk : Kn P w K mg base T 1 "_law_stack" ["_law_radix", "_law_line_here"] preStack := by
    obtain ⟨fd, F⟩ := h.f_lstk
    exact kn_of F h.m_lstk (g_law_stack (k := 0) F ) (fun _ _ _ _ _ _ us hl => match us, hl with | [_, _], _ => rfl)
  have k_tape : Kn P w K mg base T 2 "_law_tape" ["_law_base", "_law_heaps"] preTape := by
    obtain ⟨fd, F⟩ := h.f_tape
    exact kn_of F h.m_tape (g_law_tape (k := 1) F k_line) (fun _ _ _ _ _ _ us hl => match us, hl with | [_, _], _ => rfl)
  have k_isap : Kn P w K mg base T 1 "_law_is_apart" ["_law_base", "_law_prime", "_law_left", "_law_right"] preApart := by
    obtain ⟨fd, F⟩ := h.f_isap
    exact kn_of F h.m_isap (g_law_is_apart (k := 0) F h.b) (fun _ _ _ _ _ _ us hl => match us, hl with | [_, _, _, _], _ => rfl)
  have k_whole : Kn P w K mg base T 1 "_law_whole" ["_law_starts", "_law_heaps", "_law_low", "_law_high"] preWhole := by
    obtain ⟨fd, F⟩ := h.f_whole
    exact kn_of F h.m_whole (g_law_whole (k := 0) F h.b) (fun _ _ _ _ _ _ us hl => match us, hl with | [_, _, _, _], _ => rfl)
  have k_stks : Kn P w K mg base T 3 "_law_stacks" ["_law_feed_here", "_law_base"] preStks := by
    obtain ⟨fd, F⟩ := h.f_stks
    exact kn_of F h.m_stks (g_law_stacks (k := 2) F h.b (k_draw.mono (by decide)) k_heap) (fun _ _ _ _ _ _ us hl => match us, hl with | [_, _], _ => rfl)
  have k_told : Kn P w K mg base T 1 "_law_loss_told" ["_law_starts"] preTold := by
    obtain ⟨fd, F⟩ := h.f_told
    exact kn_of F h.m_told (g_law_loss_told (k := 0) F h.b) (fun _ _ _ _ _ _ us hl => match us, hl with | [_], _ => rfl)
  have k_losses : Kn P w K mg base T 1 "_law_losses" ["_law_tape_here", "_law_starts"] preLosses := by
    obtain ⟨fd, F⟩ := h.f_losses
    exact kn_of F h.m_losses (g_law_losses (k := 0) F h.b) (fun _ _ _ _ _ _ us hl => match us, hl with | [_, _], _ => rfl)
  have k_chg : Kn P w K mg base T 2 "_law_changes" ["_law_feed_here", "_law_base", "_law_prime", "_law_body"] preChg := by
    obtain ⟨fd, F⟩ := h.f_chg
    exact kn_of F h.m_chg (g_changes (k := 1) F h.b k_draw k_line k_lstk) (fun _ _ _ _ _ _ us hl => match us, hl with | [_, _, _, _], _ => rfl)
  exact ⟨k_want, k_isint, k_isnum, k_isbase, k_nums, k_dig, k_row, k_added, k_stk, k_fitm, k_fitf, k_wb, k_les, k_lov, k_size, k_even, k_wc, k_push, k_spo, k_pop, k_ap, k_sts, k_sho, k_str, k_frm, k_draw, k_any, k_heap, k_line, k_lstk, k_tape, k_isap, k_whole, k_stks, k_told, k_losses, k_chg, kk_push.2, kk_pop.2, kk_spo.2, kk_ap.2, kk_str.2, kk_sts.2, kk_frm.2, kk_sho.2⟩
theorem all_of (h : Hd K mg)
    (l1 : LmD K base mg T (He.ga K "_law_are_checks_right") "_law_are_checks_right.<locals>.<lambda>") (l2 : LmD K base mg T (He.ga K "_law_are_primes_right") "_law_are_primes_right.<locals>.<lambda>")
    (l3 : LmD K base mg T (He.ga K "_law_are_check_odds_refused") "_law_are_check_odds_refused.<locals>.<lambda>") (l4 : LmD K base mg T (He.ga K "_law_are_frame_odds_refused") "_law_are_frame_odds_refused.<locals>.<lambda>") : KnT P w K mg base T 10 := by
  have c : Kns P w K mg base T := kns_of h
  have kp : KnP P w K mg base T 7 := ⟨c.push.mono (by decide), c.pop.mono (by decide), c.spo.mono (by decide), c.pushK, c.popK, c.spoK, c.draw.mono (by decide), c.any.mono (by decide), c.heap.mono (by decide)⟩
  have kf : KnF P w K mg base T 7 := ⟨c.frm, c.str.mono (by decide), c.sts.mono (by decide), c.sho, c.lstk.mono (by decide), c.line.mono (by decide)⟩
  have ka : KnA P w K mg base T 7 := ⟨c.ap⟩
  have kb : KnB P w K mg base T 7 := ⟨c.chg.mono (by decide), c.isap.mono (by decide), c.apK, c.stks.mono (by decide), c.tape.mono (by decide), c.whole.mono (by decide), c.losses.mono (by decide), c.told.mono (by decide), c.strK, c.stsK, c.frmK, c.shoK⟩
  have ks : KnG P w K mg base 7 "_law_same" ["_law_told", "_law_due"] (prom K T preSame) := by
    obtain ⟨fd, F⟩ := h.f_same
    exact kng_of F h.m_same (g_law_same (k := 6) F h.b) (fun _ _ _ _ _ _ us hl => match us, hl with | [_, _], _ => rfl)
  refine ⟨?_, c.draw.mono (by decide), ?_, ?_, ?_, ?_, ?_, ?_, ?_, ?_⟩
  · obtain ⟨fd, F⟩ := h.f_feed
    exact (kng_of F h.m_feed (fng_ok (g_feed (k := 0) F h.b)) (fun _ _ _ _ _ _ us hl => match us, hl with | [_], _ => rfl)).mono (by decide)
  · obtain ⟨fd, F⟩ := h.f_chk
    exact (kng_of F h.m_chk (g_checks (k := 7) F h.b h.x h.heard l1 kp ks) (fun _ _ _ _ _ _ us hl => match us, hl with | [_], _ => rfl)).mono (by decide)
  · obtain ⟨fd, F⟩ := h.f_seen
    exact (kng_of F h.m_seen (g_changes_seen (k := 7) F h.b kp kf ka kb ks) (fun _ _ _ _ _ _ us hl => match us, hl with | [_], _ => rfl)).mono (by decide)
  · obtain ⟨fd, F⟩ := h.f_frs
    exact (kng_of F h.m_frs (g_frames (k := 7) F h.b kp kf kb ks) (fun _ _ _ _ _ _ us hl => match us, hl with | [_], _ => rfl)).mono (by decide)
  · obtain ⟨fd, F⟩ := h.f_rows
    exact (kng_of F h.m_rows (g_rows (k := 7) F h.b kp kf ks) (fun _ _ _ _ _ _ us hl => match us, hl with | [_], _ => rfl)).mono (by decide)
  · obtain ⟨fd, F⟩ := h.f_hand
    exact (kng_of F h.m_hand (g_hand (k := 7) F h.b kp kf ka ks) (fun _ _ _ _ _ _ us hl => match us, hl with | [], _ => rfl)).mono (by decide)
  · obtain ⟨fd, F⟩ := h.f_codds
    exact (kng_of F h.m_codds (g_codds (k := 7) F h.b h.x h.heard l3 kp ka ks) (fun _ _ _ _ _ _ us hl => match us, hl with | [_], _ => rfl)).mono (by decide)
  · obtain ⟨fd, F⟩ := h.f_prim
    exact (kng_of F h.m_prim (g_primes (k := 7) F h.b h.x h.heard l2 kp ks) (fun _ _ _ _ _ _ us hl => match us, hl with | [], _ => rfl)).mono (by decide)
  · obtain ⟨fd, F⟩ := h.f_fodds
    exact (kng_of F h.m_fodds (g_fodds (k := 7) F h.b h.x h.heard l4 kf ks) (fun _ _ _ _ _ _ us hl => match us, hl with | [_], _ => rfl)).mono (by decide)
end
end Pb

set_option Elab.async false
set_option linter.all false
set_option maxRecDepth 100000
set_option maxHeartbeats 4000000
/-! PbAO: what is known from the head; the law. -/
namespace Pb
open PySem PySem.Spec PyProof.Rows L2
section
variable {w : World} {h : Heap} {K : Frg} {mg : Str → Option Value}
theorem more_ok (c : He.SaysX hfa hfn [] hdTf hdMore w h K) : OexC K (He.ga K "NotUsable") ∧ OexC K (He.ga K "Spoilt") ∧ (XfC K (He.ga K "NotUsable") ∧ ExcC K (He.ga K "NotUsable")) ∧ (XfC K (He.ga K "Spoilt") ∧ ExcC K (He.ga K "Spoilt")) ∧ kitsB K hdKits = true ∧ initB K "NotUsable" = true ∧ initB K "Spoilt" = true ∧ (hdTf.map fun p => (He.cT K p).2).Nodup := by
  have z := c.more
  unfold hdMore at z
  obtain ⟨h1, z⟩ := He.ba z
  obtain ⟨h2, z⟩ := He.ba z
  obtain ⟨h3, z⟩ := He.ba z
  obtain ⟨h4, z⟩ := He.ba z
  obtain ⟨h5, z⟩ := He.ba z
  obtain ⟨h6, z⟩ := He.ba z
  obtain ⟨h7, z⟩ := He.ba z
  exact ⟨oexB_ok h1, oexB_ok h2, excB_ok h3, excB_ok h4, h5, h6, h7, of_decide_eq_true z⟩
theorem hglo (X : K.In h) (Gm : h.Ns mainGlobals mg) (c : He.SaysX hfa hfn [] hdTf hdMore w h K) (i : Nat) {x : Str} (e : hfa[i]? = some (.glo x)) : mg x = some (.ref (He.ga K x)) := He.glo_ok X Gm (c.t.d.fact i e)
theorem hfree (X : K.In h) (Gm : h.Ns mainGlobals mg) (c : He.SaysX hfa hfn [] hdTf hdMore w h K) (i : Nat) {x : Str} (e : hfa[i]? = some (.free x)) : mg x = none := He.free_ok X Gm (c.t.d.fact i e)
theorem hdef (c : He.SaysX hfa hfn [] hdTf hdMore w h K) (j i : Nat) {x : Str} (e : hfn[j]? = some (hdDef x i)) : ∃ fd, FnT K x i (He.ga K x) fd := c.t.d.def_ j e
theorem blt_of (X : K.In h) (Gm : h.Ns mainGlobals mg) (c : He.SaysX hfa hfn [] hdTf hdMore w h K) : Blt mg :=
  ⟨hfree X Gm c 57 rfl, hfree X Gm c 58 rfl, hfree X Gm c 59 rfl, hfree X Gm c 60 rfl, hfree X Gm c 61 rfl, hfree X Gm c 62 rfl, hfree X Gm c 63 rfl, hfree X Gm c 64 rfl, hfree X Gm c 65 rfl, hfree X Gm c 66 rfl, hfree X Gm c 67 rfl, hfree X Gm c 68 rfl, hfree X Gm c 69 rfl⟩
theorem exf_of (X : K.In h) (Gm : h.Ns mainGlobals mg) (c : He.SaysX hfa hfn [] hdTf hdMore w h K) : ExF K mg := by
  obtain ⟨o1, o2, ⟨x1, e1⟩, ⟨x2, e2⟩, kt, i1, i2, nd⟩ := more_ok c
  refine ⟨hglo X Gm c 50 rfl, hglo X Gm c 51 rfl, hglo X Gm c 53 rfl, hglo X Gm c 55 rfl, hglo X Gm c 56 rfl, hglo X Gm c 52 rfl, hglo X Gm c 54 rfl, hglo X Gm c 49 rfl, ?_, e1, e2, x1, x2, He.noat_ok (c.t.d.fact 72 (f := .noat "NotUsable" "word") rfl), He.noat_ok (c.t.d.fact 73 (f := .noat "NotUsable" "at") rfl), He.noat_ok (c.t.d.fact 74 (f := .noat "Spoilt" "frame") rfl), kitsB_ok kt 0 rfl, kitsB_ok kt 1 rfl, kitsB_ok kt 2 rfl, kitsB_ok kt 3 rfl, kitsB_ok kt 4 rfl, kitsB_ok kt 5 rfl, kitsB_ok kt 6 rfl, kitsB_ok kt 7 rfl, kitsB_ok kt 8 rfl, kitsB_ok kt 9 rfl, kitsB_ok kt 10 rfl, kitsB_ok kt 11 rfl⟩
  intro x
  cases x with
  | use w i => exact He.exm_ok (c.t.d.fact 70 (f := .exm "NotUsable" "PushError" true) rfl)
  | spo i => exact He.exm_ok (c.t.d.fact 71 (f := .exm "Spoilt" "PushError" true) rfl)
theorem heard_of (X : K.In h) (Gm : h.Ns mainGlobals mg) (c : He.SaysX hfa hfn [] hdTf hdMore w h K) : HeardK K mg := by
  obtain ⟨fd, F⟩ := hdef c 47 46 (x := "_law_heard") rfl
  have hb := F.bindsN (ps := ["_law_call"]) (fun _ _ _ _ _ _ us hl => match us, hl with | [_], _ => rfl)
  have kp := F.kp
  obtain ⟨oc, od, dV, kV, doc, pm, an, cdv, ct, osl, e, lk, hcd, _, _⟩ := F.ex
  subst e
  exact ⟨_, oc, od, dV, kV, doc, pm, an, cdv, ct, osl, hglo X Gm c 47 rfl, kp, lk, hcd, hb⟩
theorem hd_of (X : K.In h) (Gm : h.Ns mainGlobals mg) (c : He.SaysX hfa hfn [] hdTf hdMore w h K) : Hd K mg := by
  obtain ⟨o1, o2, _, _, _, i1, i2, _⟩ := more_ok c
  exact ⟨hdef c 0 10 rfl, hglo X Gm c 0 rfl, hdef c 1 12 rfl, hglo X Gm c 1 rfl, hdef c 2 13 rfl, hglo X Gm c 2 rfl, hdef c 3 14 rfl, hglo X Gm c 3 rfl, hdef c 4 15 rfl, hglo X Gm c 4 rfl, hdef c 5 16 rfl, hglo X Gm c 5 rfl, hdef c 6 18 rfl, hglo X Gm c 6 rfl, hdef c 7 20 rfl, hglo X Gm c 7 rfl, hdef c 8 19 rfl, hglo X Gm c 8 rfl, hdef c 9 22 rfl, hglo X Gm c 9 rfl, hdef c 10 23 rfl, hglo X Gm c 10 rfl, hdef c 11 24 rfl, hglo X Gm c 11 rfl, hdef c 12 30 rfl, hglo X Gm c 12 rfl, hdef c 13 31 rfl, hglo X Gm c 13 rfl, hdef c 14 33 rfl, hglo X Gm c 14 rfl, hdef c 15 34 rfl, hglo X Gm c 15 rfl, hdef c 16 36 rfl, hglo X Gm c 16 rfl, hdef c 17 37 rfl, hglo X Gm c 17 rfl, hdef c 18 38 rfl, hglo X Gm c 18 rfl, hdef c 19 39 rfl, hglo X Gm c 19 rfl, hdef c 20 40 rfl, hglo X Gm c 20 rfl, hdef c 21 28 rfl, hglo X Gm c 21 rfl, hdef c 22 29 rfl, hglo X Gm c 22 rfl, hdef c 23 26 rfl, hglo X Gm c 23 rfl, hdef c 24 27 rfl, hglo X Gm c 24 rfl, hdef c 25 43 rfl, hglo X Gm c 25 rfl, hdef c 26 44 rfl, hglo X Gm c 26 rfl, hdef c 27 47 rfl, hglo X Gm c 27 rfl, hdef c 28 48 rfl, hglo X Gm c 28 rfl, hdef c 29 49 rfl, hglo X Gm c 29 rfl, hdef c 30 50 rfl, hglo X Gm c 30 rfl, hdef c 31 52 rfl, hglo X Gm c 31 rfl, hdef c 32 56 rfl, hglo X Gm c 32 rfl, hdef c 33 55 rfl, hglo X Gm c 33 rfl, hdef c 34 58 rfl, hglo X Gm c 34 rfl, hdef c 35 57 rfl, hglo X Gm c 35 rfl, hdef c 36 53 rfl, hglo X Gm c 36 rfl, hdef c 37 42 rfl, hglo X Gm c 37 rfl, hdef c 38 45 rfl, hglo X Gm c 38 rfl, hdef c 39 51 rfl, hglo X Gm c 39 rfl, hdef c 40 54 rfl, hglo X Gm c 40 rfl, hdef c 41 59 rfl, hglo X Gm c 41 rfl, hdef c 42 60 rfl, hglo X Gm c 42 rfl, hdef c 43 61 rfl, hglo X Gm c 43 rfl, hdef c 44 62 rfl, hglo X Gm c 44 rfl, hdef c 45 63 rfl, hglo X Gm c 45 rfl, hdef c 46 64 rfl, hglo X Gm c 46 rfl, hdef c 48 65 rfl, c.t.d.def_ 49 (d := hdIni "NotUsable" "NotUsable.__init__" 4) rfl, c.t.d.def_ 50 (d := hdIni "Spoilt" "Spoilt.__init__" 6) rfl, initB_ok i1, initB_ok i2, o1, o2, blt_of X Gm c, exf_of X Gm c, heard_of X Gm c⟩
/-- a maker of lambdas -/
theorem lmd_of (c : He.SaysX hfa hfn [] hdTf hdMore w h K) {base : Heap} (tb : ∀ p ∈ hdTf.map (He.cT K), LamX.TabB base mg p.1 p.2) (i j m : Nat) {x q : Str} (e1 : hdTf[i]? = some (x, none)) (e2 : hdTq[i]? = some q) (e3 : hfn[j]? = some (hdDef x m)) : LmD K base mg (hdTab K) (He.ga K x) q := by
  obtain ⟨fd, F⟩ := hdef c j m e3
  obtain ⟨oc, od, dV, kV, doc, pm, an, cdv, ct, osl, e, lk, hcd, _, _⟩ := F.ex
  subst e
  obtain ⟨cc, rfl⟩ := He.codeIn_ref hcd
  have ec : He.codeOf K (x, none) = cc := He.codeOf_eq (p := (x, none)) lk rfl
  have nd := (more_ok c).2.2.2.2.2.2.2
  have eP : (hdTf.map fun p => (He.cT K p).2)[i]? = some (He.cT K (x, none)).2 := by rw [List.getElem?_map, e1]; rfl
  refine ⟨cc, (He.cT K (x, none)).2, fun o fd' h1 h2 => ?_, ?_, ?_, fun p hp he => ?_⟩
  · rw [lk] at h1
    have h1 := Option.some.inj h1
    subst h1
    cases h2
    rfl
  · have := tb (He.cT K (x, none)) (List.mem_map.mpr ⟨_, List.mem_of_getElem? e1, rfl⟩)
    have e4 : (He.cT K (x, none)).1 = cc := ec
    rw [e4] at this
    exact this
  · refine List.mem_of_getElem? (i := i) ?_
    unfold hdTab
    rw [List.getElem?_zip_eq_some]
    exact ⟨eP, e2⟩
  · obtain ⟨n, hn⟩ := List.mem_iff_getElem?.mp hp
    unfold hdTab at hn
    rw [List.getElem?_zip_eq_some] at hn
    have en : n = i := by
      rw [he] at hn
      exact nd_ix nd hn.1 eP
    subst en
    exact Option.some.inj (hn.2.symm.trans e2)
end
theorem bits_abs {z : Int} {n : Nat} (h : Builtin.Int.intBits z ≤ n) : z.natAbs < 2 ^ n := by
  unfold Builtin.Int.intBits at h
  by_cases h0 : z = 0
  · subst h0
    exact Nat.two_pow_pos _
  · rw [if_neg (by simpa using h0)] at h
    have h1 : z.natAbs ≠ 0 := fun q => h0 (Int.natAbs_eq_zero.mp q)
    exact (Nat.log2_lt h1).mp (by omega)
/-- the law's call gives True -/
theorem law_end {w : World} {s : Shared} {K : Frg} {mg mb : Str → Option Value} {fa a : Addr} {us : List Value} {ns : List Int} (hK : K.In s.heap) (hg : s.heap.Ns mainGlobals mg) (hb : s.heap.Ns builtinsNs mb) (hbb : ∀ y : Str, y ≠ "__name__" → mb y = bootBuiltins y) (hn : s.heap.NoLimit) (hgen : s.gens = #[])
    (bm : ∃ (m : Addr) (o : Obj), mg "__builtins__" = some (.ref m) ∧ m ≠ builtinsNs ∧ s.heap.get? m = some o ∧ o.cls = .type "module" ∧ o.dict = some builtinsNs ∧ o.data = .plain)
    (hs : s.heap.get? a = some (scrO us)) (hi : IntsAre us ns) (hl : ns.length ≤ 63) (hbit : ∀ z ∈ ns, Builtin.Int.intBits z ≤ 1048576) (hm : mg "law" = some (.ref fa)) (c : He.SaysX hfa hfn [] hdTf hdMore w s.heap K) :
    codeAny (model PySem.Challenge.rw_pushedback_k39_whole_checks_frames_and_l.prog w) callerA (.call (.ref fa) ⟨[.ref a], []⟩) (fun r s' => r = .ok (.ret (.bool true)) ∧ OldK s.heap s'.heap ∧ s'.os = s.os ∧ AllBare s'.gens) s := by
  have e := hm.symm.trans (hglo hK hg c 48 (x := "law") rfl)
  have e := Value.ref.inj (Option.some.inj e)
  subst e
  have hd := hd_of hK hg c
  obtain ⟨fd, F⟩ := hd.f_law
  have hbA := F.bindsA (ps := ["_law_script"]) (fun _ _ _ _ _ _ us hl => match us, hl with | [_], _ => rfl)
  refine end_run (cs := hdTf.map (He.cT K)) (sp := spLaw K (hdTab K)) (k := 11) hK hg hb hbb hn hgen (fun p hp => ?_) bm hs hi (Nat.le_trans hl (by decide)) ⟨rfl, by decide, by decide⟩
    (fun base _ _ tb => g_law F (all_of hd (lmd_of c tb 0 39 51 rfl rfl rfl) (lmd_of c tb 1 43 61 rfl rfl rfl) (lmd_of c tb 2 45 63 rfl rfl rfl) (lmd_of c tb 3 46 64 rfl rfl rfl))) (fun s' u => hbA s' [u] rfl) fun H hT hS => ?_
  · obtain ⟨q, hq, rfl⟩ := List.mem_map.mp hp
    exact ⟨c.empty q hq, c.out q hq, PySem.W.codeHd_of_K hK (c.hd q hq)⟩
  · have tn : ∀ p ∈ hdTab K, H p.1 = some (.tbl #[]) := fun p hp => by
      have h1 := (List.of_mem_zip (a := p.1) (b := p.2) hp).1
      obtain ⟨q, hq, e⟩ := List.mem_map.mp h1
      rw [← e]
      exact hT _ (List.mem_map.mpr ⟨q, hq, rfl⟩)
    exact ⟨a, ns, rfl, hS, hl, fun z hz => bits_abs (hbit z hz), fun p hp => LamX.TabS.nil (tn p hp), fun p hp z => (by rw [tn p hp] at z; cases z), fun _ => rfl⟩
end Pb

set_option maxHeartbeats 4000000
open PySem PySem.W PySem.Calls PyProof.Rows
set_option Elab.async false
set_option maxRecDepth 100000 in
set_option maxHeartbeats 0 in
theorem PySem.Challenge.cw_pushedback_k39_whole_checks_frames_and_l_holds : PySem.Challenge.rw_pushedback_k39_whole_checks_frames_and_l.Holds := by
  w_on; o_law
  refine Pb.hdHead ?hw ?hc
  case hw => w_witness2
  case hc =>
    refine Att.attach_callB (l := PySem.Challenge.rw_pushedback_k39_whole_checks_frames_and_l) (n := 63) rfl (by kernel_rfl) fun w s₀ s₁ mg mb fa o pm cd doc a vs ns G Y ho hd hcd hmg hobj hints hlen hbits hg => ?_
    obtain ⟨K, KX, c⟩ := Y
    have hm : mg ("law" : PySem.Str) = some (.ref fa) := by
      have e : (HandSHeadRun.topDef (OpenLaw.row PySem.Challenge.rw_pushedback_k39_whole_checks_frames_and_l).prog 65).name = ("law" : PySem.Str) := by kernel_rfl
      rw [← e]
      exact hmg
    exact Pb.law_end KX G.T.g G.T.b G.T.builtins G.T.nolimit hg G.T.bmain hobj hints hlen hbits hm c

