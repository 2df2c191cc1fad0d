import PyProof.Rows.All
import Wide.All
import OpenK.AllK
import Wide.FinOn
import HandS.ForMost
import KE.GoesMore
import HandS.Codes
import HandS.IsInst
import HandS.Defaults
import HandS.MakeKw
import HandS.MakeKwOnly
import HandS.SlotsOwn
import HandS.ForExc
import HandS.ExcIs
import HandS.ExcField
import HandS.CallSlots
import KE.KExcIs
import KE.KExcSuper
import KE.KExcMake
import KE.RegKSuper
import HandS.ClsMeth
import KE.KCallOwn
import HandS.IterVal
import KE.KOwnIter
import HandS.Star
import KE.KOpsOwn
import HandS.Property
import KE.KStar
import HandS.Text
import HandS.StrMore
import HandS.Steps
import HandS.TryOnly
import HandS.Exc
import HandS.ExcOwn
import HandS.Comp
import HandS.OwnIter
import PyProof.StrLawsChain
import PyProof.Rows.StrItems
import HandS.Iter
import HandS.HotCalls
import HandS.WordsDict
import HandS.Conv
import HandS.More
import KE.OsRunLaw
import HandS.Walk
import HandS.Style
import HandS.Head0
import HandS.Head1
import HandS.Head2
import HandS.TupAny
import HandS.DictTup
import HandS.DictComp
import HandS.Dict
import HandS.Deep
import PySem.Challenge.RW_weblocks_k54_whole_order_and_meets
set_option Elab.async false
set_option linter.all false
set_option maxRecDepth 100000
set_option maxHeartbeats 4000000
namespace My
open PySem PySem.W
theorem HM.key {A : World → OsState → Prop} {B C : Prop} (hA : (∀ w os, A w os) ∧ B) (main : C) : C := main
abbrev HM.K {α β δ : Type} {B C : Prop} {o : World → OsState → Option δ} {f1 : World → δ → α} {f2 : World → δ → β} {g : δ → Addr → Option Obj} {as : List Addr} {b1 : World → α} {b2 : World → β} {Kf : Params → Frag} (_ : (∀ w os, (o w os).map (fun s => (f1 w s, f2 w s, as.map (g s))) = some (b1 w, b2 w, (Kf w.params).map fun x => some x.2)) ∧ B → C) : Params → Frag := Kf
abbrev HM.as {α β δ : Type} {B C : Prop} {o : World → OsState → Option δ} {f1 : World → δ → α} {f2 : World → δ → β} {g : δ → Addr → Option Obj} {as : List Addr} {b1 : World → α} {b2 : World → β} {Kf : Params → Frag} (_ : (∀ w os, (o w os).map (fun s => (f1 w s, f2 w s, as.map (g s))) = some (b1 w, b2 w, (Kf w.params).map fun x => some x.2)) ∧ B → C) : List Addr := as
section
local macro_rules | `(tactic| k_head) => do
  let h := Lean.mkIdent `hA
  let m := Lean.mkIdent `main
  `(tactic| (rename_i said; revert said; apply HM.key; (case' $m:ident => (intro said; k_headL)); (case' hc => exact (?$h).2)))
local macro_rules | `(tactic| kernel_rfl%$tk) => do
  match tk.getHeadInfo with
  | .none => Lean.Macro.throwUnsupported
  | _ =>
    let k : Lean.TSyntax `tactic := ⟨Lean.Syntax.node .none `tacticKernel_rfl #[.atom .none "kernel_rfl"]⟩
    let h := Lean.mkIdent `hA
    `(tactic| first | (rename_i sd w os; have e := (?$h); exact And.left e w os) | $k:tactic)
set_option maxHeartbeats 0 in
open_top hd for PySem.Challenge.rw_weblocks_k54_whole_order_and_meets
end
set_option maxHeartbeats 0
noncomputable section
abbrev kK : Params → Frag := HM.K My.hd
abbrev kAs : List Addr := HM.as My.hd
theorem kEq : ∀ P, kAs = (kK P).map (·.1) := fun _ => by kernel_rfl
abbrev hR : OpenRow := OpenLaw.row PySem.Challenge.rw_weblocks_k54_whole_order_and_meets
abbrev hQ : Program := view hR.prog [64]
def hN0 : List PySem.Str := ["_wall", "WebError", "BadLevel", "BadShape", "UnknownMark", "OtherShape", "TooLarge", "BadText", "UNLIMITED", "kinds", "supply", "fits", "first_rung", "ladder", "reached", "LEVELS", "rank", "needed", "higher", "lesser", "Way", "way_of", "trimmed", "same_shape", "met", "either", "all_counts", "possible", "permitted", "gap_at"]
def hN1 : List PySem.Str := ["gap", "included", "Policy", "LETTERS", "MODES", "is_mark", "sound_row", "barren", "Shape", "_law_draws", "_law_take", "_law_same", "_law_marks", "_law_rows", "_law_way", "_law_rules", "_law_shape", "_law_way_made", "_law_policy", "_law_cut", "_law_loosened", "_law_tightened", "_law_changed", "_law_both", "_law_table", "_law_table_good"]
def hN : List PySem.Str := hN0 ++ hN1
abbrev hH : Hook := kHook kK kAs kEq
abbrev hOb (s : SharedT) : List (Option Obj) := kAs.map (HandSHeadRun.getT s)
theorem hObE (s : SharedT) : hOb s = hH.obs s.abs := List.map_congr_left fun a _ => HandSHeadRun.getT_eq s a
theorem hRun (w : World) : HandSHeadRun.RunEq hR hQ hH hOb 40000 hN w := by
  intro os
  kernel_rfl
abbrev hD : DefRec := HandSHeadRun.topDef hR.prog 64
theorem hSmall (call : WalkO hQ hN (XL hQ []) hH.says hR.toRowW hD [] fun f vs => PySem.call f vs) : (PySem.Challenge.rw_weblocks_k54_whole_order_and_meets).Holds := by
  w_on; o_law
  refine HandSHeadRun.head_any (r := hR) (q := hQ) (H := hH) (ob := hOb) (M := 40000) (loose := hN) (d := hD) (kwd := []) hObE
    (by kernel_rfl) (fun s => by kernel_rfl) hRun (by kernel_rfl) (by kernel_rfl) (by kernel_rfl) (by rfl)
    (by first | assumption | decide +kernel) (by decide +kernel) ⟨rfl, rfl, rfl, rfl, rfl, by decide +kernel⟩ ?hw ?hc
  case hw => w_witness2
  case hc => exact call
end
end My
local macro_rules | `(tactic| walk_at "sd") => `(tactic| first | assumption | omega | decide | rfl | (refine And.intro ?_ ?_ <;> walk_at "sd") | (show _ < PySem.sizeLine; exact Nat.lt_of_le_of_lt (by omega : _ ≤ 100000) (by decide)) | (show _ ≤ PySem.sizeLine; exact Nat.le_trans (by omega : _ ≤ 100000) (by decide)))
local macro_rules | `(tactic| walk_at "hl") => `(tactic| first | assumption | exact L2.upd_same | (refine (L2.upd_ne ?_).trans ?_; (walk_at "ne"); (walk_at "hl")))
local macro_rules | `(tactic| walk_at "ne") => `(tactic| first | assumption | (apply Ne.symm; assumption) | (refine L2.ne_of_none ?_ (by assumption); walk_at "hl") | (apply Ne.symm; refine L2.ne_of_none ?_ (by assumption); walk_at "hl") | (refine L2.ne_of (o := L2.HO.lst _) (u := L2.HO.tup _) ?_ ?_ (by intro z; cases z) <;> walk_at "hl"))
local macro_rules | `(tactic| walk_at "sq") => `(tactic| first | assumption | exact .inl (.inl (by walk_at "hl")) | exact .inl (.inl (.inl (by walk_at "hl"))) | exact .inr (.inl (.inl (by walk_at "hl"))) | exact .inl (by assumption) | exact .inr (by assumption))
local macro_rules | `(tactic| walk_at "at") => `(tactic| first | assumption | exact rfl | exact L2.atI_nat (j := 0) rfl | exact L2.atI_nat (j := 1) rfl | exact L2.atI_nat (j := 2) rfl | exact L2.atI_nat (j := 3) rfl | exact L2.atI_nat rfl | exact L2.atI_nat (by assumption))
local macro_rules | `(tactic| walk_at "r1") => `(tactic| first
  | (refine ⟨_, rfl, ?_⟩)
  | (refine ⟨_, _, rfl, rfl, ?_⟩)
  | (refine ⟨_, _, _, _, rfl, rfl, (by walk_at "sq"), (by walk_at "at"), ?_⟩)
  | (refine ⟨_, _, rfl, (by walk_at "sq"), ?_⟩)
  | (refine ⟨.inl ⟨rfl, _, L2.SqL.of (by walk_at "hl")⟩, ?_⟩)
  | (refine ⟨_, _, _, rfl, rfl, (by walk_at "hl"), (by walk_at "sd"), ?_⟩)
  | (refine ⟨_, _, _, _, rfl, rfl, (by walk_at "hl"), rfl, ?_⟩)
  | (refine And.intro (by walk_at "sd") ?_)
  | (refine .inl ⟨_, rfl, ?_⟩))
local macro_rules | `(tactic| walk_at "rd") => `(tactic| repeat walk_at "r1")
/-! ### enumerate over a tuple -/
namespace PySem
open AutoSeq1 (wpAny_loadPart')
set_option maxHeartbeats 1000000 in
theorem meets_enumerate_newT (l : Addr) (items : Array Value) :
    Meets (Builtin.«enumerate.__new__» ⟨[.type "enumerate", .ref l], []⟩) (fun _ R s => s.heap.IsTuple l items ∧
      R (.ok (.ret (.ref (s.heap.push { cls := .type "tuple_iterator", data := .fields #[.ref l, .int 0 0] }).objs.size)))
        { s with heap := (s.heap.push { cls := .type "tuple_iterator", data := .fields #[.ref l, .int 0 0] }).push { cls := .type "enumerate", data := .fields #[.none, .bool false, .ref s.heap.objs.size, rawInt 0, .none, .none] } }) :=
  .of_wp fun prog w A R s h => by
    obtain ⟨hp, g, d, tk, os⟩ := s; obtain ⟨hL, h⟩ := h
    have hsub := sub_enumerate
    wp_walk using wpAny_pyIter_tuple hL
    refine wpAny_stack_any fun st => wpAny_pure ?_
    split
    · rename_i c _ _ _ _ _
      cases (c == Value.type "enumerate")
      · wp_walk using wpAny_pyIter_tuple hL
        exact ⟨_, rfl, h⟩
      · wp_walk using wpAny_pyIter_tuple hL
        exact ⟨_, rfl, h⟩
    · wp_walk using wpAny_pyIter_tuple hL
      exact ⟨_, rfl, h⟩
section
variable {prog : Program} {w : World} {A : Around} {E : Value → Shared → Prop} {s : Shared}
theorem call_enumerate_tup {l : Addr} {items : Array Value} {Q : Value → Shared → Prop} (hL : s.heap.IsTuple l items)
    (h : ∀ h', IsEnum h' (s.heap.objs.size + 1) s.heap.objs.size 0 .none → h'.IsTupleIter s.heap.objs.size l 0 → h'.objs.size = s.heap.objs.size + 2 →
      (∀ b o, s.heap.get? b = some o → h'.get? b = some o) → Q (.ref (s.heap.objs.size + 1)) { s with heap := h' }) :
    wpAny (model prog w) A (call (.type "enumerate") [.ref l]) Q E s := by
  refine callType_new F.called_enumerate (by decide) (F.typeCall_enumerate_1 _) (F.newCall_enumerate_1 _) (fun obj => F.args_object_init_2 obj _) F.entry_enumerate_new
    (meets_enumerate_newT l items) ⟨hL, ?_⟩
  have hz : (s.heap.push { cls := .type "tuple_iterator", data := .fields #[.ref l, .int 0 0] }).objs.size = s.heap.objs.size + 1 := Heap.size_push ..
  show _ ∧ _
  rw [hz]
  have he : IsEnum ((s.heap.push { cls := .type "tuple_iterator", data := .fields #[.ref l, .int 0 0] }).push
      { cls := .type "enumerate", data := .fields #[.none, .bool false, .ref s.heap.objs.size, rawInt 0, .none, .none] }) (s.heap.objs.size + 1) s.heap.objs.size 0 .none := by
    have := Heap.get?_push_size (s.heap.push { cls := .type "tuple_iterator", data := .fields #[.ref l, .int 0 0] })
      (o := { cls := .type "enumerate", data := .fields #[.none, .bool false, .ref s.heap.objs.size, rawInt 0, .none, .none] }) rfl
    rw [hz] at this; exact this
  refine ⟨⟨_, he, rfl⟩, h _ he ⟨_, Heap.get?_push_of_some _ (Heap.get?_push_size _ rfl), rfl, rfl⟩ (by rw [Heap.size_push, hz]) fun b o x => Heap.get?_push_of_some _ (Heap.get?_push_of_some _ x)⟩
/-- next of an enumerate whose tuple is at its end -/
theorem wpAny_pyNext_enum_endU {e it l : Addr} {i : Nat} {items : Array Value} {old : Value} {Q : Option Value → Shared → Prop} (hh : A.handled = none) (he : IsEnum s.heap e it i old)
    (hit : s.heap.IsTupleIter it l i) (hl : s.heap.IsTuple l items) (hx : items[i]? = none) (hQ : ∀ h', Heap.ExtBut it s.heap h' → Q none { s with heap := h' }) : wpAny (model prog w) A (pyNext (.ref e)) Q E s := by
  have hT : s.TypeIs (.ref e) "enumerate" := ⟨_, he, rfl⟩
  unfold pyNext
  refine wpAny_bind (wpAny_attempt (wpAny_callSpecial?_slot (name := Str.ofString "__next__") hT F.slot_enumerate_next (wpAny_call_entry F.slot_enumerate_next hT F.entry_enumerate_next ?_ (F.args_enumerate_next_1 _))))
  show wpAny _ _ (field (.ref e) 2 >>= _) _ _ _
  refine wpAny_bind (wpAny_field he rfl (x := .ref it) rfl (wpAny_bind (wpAny_nextOf_tuple_end hh hit hl hx fun h' x he' ⟨o, ho, hc⟩ => ?_)))
  exact wpAny_bind (wpAny_isInstance (T := "StopIteration") (b := true) ⟨o, ho, hc⟩ isSubtype_stop (wpAny_pure (hQ _ he')))
end
end PySem
namespace L2
open PySem PySem.Spec PyProof.Rows
/-- the tuple at a, each item in a new pair -/
def ItuE (K : PySem.W.Frag) (a : Addr) : It :=
  ⟨fun i H => ∃ (xs : List V) (x : V), SqT K H a xs ∧ xs[i]? = some x, fun i H v H' => ∃ T x, v = .ref T ∧ H T = none ∧ H' = upd H T (.tup [.int (i : Nat), x]) ∧ ∀ xs, SqT K H a xs → xs[i]? = some x, fun i H => ∃ xs : List V, SqT K H a xs ∧ xs.length ≤ i⟩
theorem turn_enumT {P : Program} {w : World} {K : PySem.W.Frag} {elts : List Expr} {kk : Nat} {tpos : Pos} (a e it : Addr) :
    Turn P w K (.Tuple elts kk tpos) (ItuE K a) [e, it] e (fun i h => (∃ old, IsEnum h e it ((i : Nat) : Int) old) ∧ h.IsTupleIter it a i ∧ e ≠ it ∧ a ≠ it ∧ a ≠ e) where
  mem := by simp
  obj := fun i h st b hb => by
    obtain ⟨⟨old, he⟩, ⟨o, ho, hc, hd⟩, _⟩ := st
    have e' : b = e ∨ b = it := by simpa using hb
    rcases e' with z | z
    · rw [z]; exact ⟨_, he, fun v q => nomatch q⟩
    · rw [z]; exact ⟨o, ho, fun v q => by rw [hd] at q; cases q⟩
  keep := fun i h h' st k => let ⟨⟨old, he⟩, hi, hne⟩ := st; ⟨⟨old, k e (by simp) _ he⟩, hi.at fun o q => k it (by simp) o q, hne⟩
  item := by
    intro X hP hw hK hc i pins s σ H E I hf st hg
    subst hP hw hK
    obtain ⟨⟨old, he⟩, hit, hne, hai, hae⟩ := st
    obtain ⟨xs, x, hq, hx⟩ := hg
    obtain ⟨its, rv, p, hz⟩ := I.tuple hq
    obtain ⟨u, hu, ru⟩ := rv.get hx
    have hel : e < s.heap.objs.size := Heap.lt_size he
    have hil : it < s.heap.objs.size := by obtain ⟨_, q, _⟩ := hit; exact Heap.lt_size q
    have hlen : i < its.toArray.size := by
      have := (List.getElem?_eq_some_iff.mp hu).1
      simpa using this
    have hT0 : s.heap.IsTuple a its.toArray := p
    refine wpAny_pyNext_enum_itemD (Draws.tuple (prog := X.prog) (w := X.w) (A := X.A.in1) (show X.A.in1.handled = none from I.ok.hd hc) it a hai its.toArray) he ⟨hit, hT0⟩ hlen hne (by simp [hne, Ne.symm hae]) fun y h' tk hy ho hst' hT hsz hk => ?_
    have ey : y = u := by
      have q : its[i]? = some y := by simpa using hy
      exact Option.some.inj (q.symm.trans hu)
    subst ey
    obtain ⟨hit', _⟩ := hst'
    refine ⟨_, rfl, wpAny_letOwnedTupleGo_enum (s := { s with heap := h', toks := tk + 1 }) ho fun h'' he' sb => ?_⟩
    have hT2 : h''.get? s.heap.objs.size = some { cls := .type "tuple", data := .seq #[.int i tk, y] } := (sb.2 _ (Nat.ne_of_gt hel)).trans hT
    have new : ObjOk X.prog X.w (upd H s.heap.objs.size (.tup [.int (i : Nat), x])) h'' s.heap.objs.size (.tup [.int (i : Nat), x]) :=
      ⟨by show 2 ≤ sizeLine; decide, [.int i tk, y], .cons ⟨_, rfl⟩ (.cons ru .nil), ⟨_, hT2, rfl, _, rfl⟩⟩
    have I1 : Inv X pins σ (upd H s.heap.objs.size (.tup [.int (i : Nat), x])) { s with heap := h'', toks := tk + 1 } :=
      I.turnedNew (ch := [e, it]) (fun b ob hb q => (sb.2 b (fun z => hb (by simp [z]))).trans (hk b ob (fun z => hb (by simp [z])) (fun z => hb (by simp [z])) q)) hf (Nat.le_refl _) new
    refine ⟨.ref s.heap.objs.size, _, I1, rfl, ⟨_, x, rfl, I.hok.fresh (Nat.le_refl _), rfl, fun ys hy => by rw [I.tuple_inj hy hq]; exact hx⟩, ⟨⟨y, ?_⟩, hit'.at fun o q => (sb.2 it (Ne.symm hne)).trans q, hne, hai, hae⟩, fun b hb => ?_⟩
    · have e1 : ((i + 1 : Nat) : Int) = (i : Int) + 1 := by omega
      rw [e1]; exact he'
    · have hb' : b < s.heap.objs.size := by
        have e' : b = e ∨ b = it := by simpa using hb
        rcases e' with z | z
        · rw [z]; exact hel
        · rw [z]; exact hil
      rw [upd_ne (Nat.ne_of_lt hb')]
      exact (hf b hb).1
  done := by
    intro X hP hw hK hc i pins s σ H E I hf st hg
    subst hP hw hK
    obtain ⟨⟨old, he⟩, hit, hne, hai, hae⟩ := st
    obtain ⟨xs, hq, hx⟩ := hg
    obtain ⟨its, rv, p, hz⟩ := I.tuple hq
    obtain ⟨f0, f1, f2, f3, f4, f5⟩ := hf it (by simp)
    have hl := rv.length
    have hT0 : s.heap.IsTuple a its.toArray := p
    exact wpAny_pyNext_enum_endU (I.ok.hd hc) he hit hT0 (by simp; omega) fun h' eb => ⟨rfl, I.turned (t' := s.toks) (fun b o hb q => eb b o hb q) f0 f1 f3 f4 f5⟩
  self := fun A i s Q E st h => let ⟨⟨_, he⟩, _⟩ := st; wpAny_pyIter_enum he h
def iEnumT (K : PySem.W.Frag) (ta : TA) : TI := fun σ H R => ta σ H fun vs H1 => ∃ a xs, vs = [.ref a] ∧ SqT K H1 a xs ∧ R (ItuE K a) H1
theorem pi_enumT {X : Cx} {e : Expr} {ta : TA} {p pos tpos : Pos} {elts : List Expr} {kk : Nat} (hg : Gl X "enumerate") (hm : X.mg "enumerate" = none) (ha : PA X [e] ta) (hs : starEach [e] X.env = [(false, eval e X.env)] := by rfl) :
    PI X (.Tuple elts kk tpos) (.Call (.Name "enumerate" p) [e] [] pos) (iEnumT X.K ta) := by
  refine ⟨fun pins s σ H R I h => ?_⟩
  refine Call_ (ld_blt I hg hm boot_enumerate (PyProof.Rows.callWith_type1 (thn (ha.run pos pins s σ H _ I h) fun us s1 ⟨vs, H1, I1, r1, q1⟩ => ?_) hs rfl))
  obtain ⟨a, xs, ex, hq, q⟩ := q1
  subst ex
  cases r1 with
  | cons r rr =>
    cases rr
    cases r
    obtain ⟨its, rv, p', hz⟩ := I1.tuple hq
    have hT0 : s1.heap.IsTuple a its.toArray := p'
    have hal : a < s1.heap.objs.size := by obtain ⟨_, q, _⟩ := hT0; exact Heap.lt_size q
    refine call_enumerate_tup hT0 fun h' he hit hsz hk => wpAny_pyIter_enum he ?_
    have I2 : Inv X pins σ H1 { s1 with heap := h' } := I1.kept (t' := s1.toks) hk
    refine ⟨s1.heap.objs.size + 1, [s1.heap.objs.size + 1, s1.heap.objs.size], _, _, H1, rfl, I2, turn_enumT a (s1.heap.objs.size + 1) s1.heap.objs.size, ⟨⟨.none, he⟩, hit, Nat.succ_ne_self _, Nat.ne_of_lt hal, Nat.ne_of_lt (Nat.lt_succ_of_lt hal)⟩, fun b hb => ?_, q⟩
    have e' : b = s1.heap.objs.size + 1 ∨ b = s1.heap.objs.size := by simpa using hb
    have hle : s1.heap.objs.size ≤ b := by
      rcases e' with z | z
      · rw [z]; exact Nat.le_add_right _ _
      · rw [z]; exact Nat.le_refl _
    exact I1.fpOk hle (I1.hok.fresh hle)
end L2
namespace L2
open PySem PySem.Spec PyProof.Rows
theorem for_enumT {K : PySem.W.Frag} {a : Addr} {xs : List V} {g : TG} {tb : TS} {D : Ends} {σ : St} {H : Hp} (Pv : Nat → St → Hp → Prop) (h0 : Pv 0 σ H) (hl : ∀ i σ H, i ≤ xs.length → Pv i σ H → SqT K H a xs)
    (hs : ∀ i x σ H T, xs[i]? = some x → Pv i σ H → H T = none → g (.ref T) σ (upd H T (.tup [.int (i : Nat), x])) fun σ2 H2 => tb { D with nx := Pv (i + 1), ct := Pv (i + 1), bk := D.nx } σ2 H2)
    (hd : ∀ σ H, Pv xs.length σ H → D.nx σ H) :
    ∃ W : Nat → Nat → St → Hp → Prop, (∃ m, W 0 m σ H) ∧ ∀ i m σ H, W i m σ H →
      ((ItuE K a).stop i H ∧ D.nx σ H) ∨ ((ItuE K a).go i H ∧ ∃ N : St → Hp → Prop, (∀ σ' H', N σ' H' → ∃ m', m' < m ∧ W (i + 1) m' σ' H') ∧ ∀ x H', (ItuE K a).yld i H x H' → g x σ H' fun σ2 H2 => tb { D with nx := N, ct := N, bk := D.nx } σ2 H2) := by
  refine ⟨fun i m σ H => m = xs.length - i ∧ i ≤ xs.length ∧ Pv i σ H, ⟨xs.length, by simp, Nat.zero_le _, h0⟩, fun i m σ H hW => ?_⟩
  obtain ⟨em, hi, p⟩ := hW
  have q := hl i σ H hi p
  by_cases hlt : i < xs.length
  · refine .inr ⟨⟨xs, xs[i], q, List.getElem?_eq_getElem hlt⟩, Pv (i + 1), fun σ' H' p' => ⟨xs.length - (i + 1), by omega, rfl, hlt, p'⟩, fun x H' y => ?_⟩
    obtain ⟨T, x', ev, nT, eH, hx⟩ := y
    subst ev eH
    exact hs i x' σ H T (hx xs q) p nT
  · have ei : i = xs.length := by omega
    subst ei
    exact .inl ⟨⟨xs, q, Nat.le_refl _⟩, hd σ H p⟩
end L2

namespace L2
open PySem PySem.Spec PyProof.Rows
/-! ### o.m(e, .., k = v, ..) -/
def tMethN (C : Addr) (m : Str) (n j : Nat) (sp : Sp) (gV : List V → List V → List V) (E : XK) (ta : TE) (t tk : TA) : TE := fun σ H Q => ta σ H fun x H1 => ∃ a dx fs, x = .ref a ∧ H1 a = some (.ins C dx fs) ∧ fs.lookup m = none ∧
  t σ H1 fun vs H2 => tk σ H2 fun zs H3 => vs.length + 1 = n ∧ zs.length = j ∧ sp (gV (x :: vs) zs) H3 Q E
section
variable {X : Cx} {CX : CXT} {k n : Nat} {f C : Addr} {fd : FuncData} {ps ks : List Str} {sp : Sp} {E : XK} {m : Str} {pos apos : Pos} {e o : Expr} {es : List Expr} {kws : List Keyword} {ta : TE} {t tk : TA} {g : List Value → List Value → List Value} {gV : List V → List V → List V}
theorem pe_methN {pl : Sem Bool} (he : PE X o ta) (c : Cls X.K C) (hm : Meth X.K C m f) (F : FnOk X.prog X.w X.K X.mg X.base CX k f fd ps sp) (hr : Room k X.A) (hb : KBn X.K fd ps n ks g gV) (hx : Passes CX X E) (ha : PA X (e :: es) t) (hkw : PK X kws tk)
    (hall : (backToKw pos (keywordEach kws X.env)).all (·.1.isSome) = true := by rfl) (hks : (backToKw pos (keywordEach kws X.env)).filterMap (·.1) = ks := by rfl)
    (hst : starEach (e :: es) X.env = (false, eval e X.env) :: starEach es X.env := by rfl)
    (hpl : ((backTo pos (starEach (e :: es) X.env)).any (·.1) || (backToKw pos (keywordEach kws X.env)).any (·.1.isNone)) = false := by rfl)
    (ht : eval (.Call (.Attribute o m apos) (e :: es) kws pos) X.env = (do
      let ov ← eval o X.env
      standAt apos.atName
      let (f, first) ← holding [ov] (getMethod ov m pl)
      callWith pos f first (backTo pos (starEach (e :: es) X.env)) (backToKw pos (keywordEach kws X.env))) := by rfl) :
    PE X (.Call (.Attribute o m apos) (e :: es) kws pos) (tMethN C m n ks.length sp gV E ta t tk) := by
  refine ⟨fun pins s σ H Q I h => PySem.W.methodCall_KW (pl := pl) (thn (he.run pins s σ H _ I h) fun u s1 ⟨x, H1, I1, rx, a, dx, fs, ex, ea, l, q⟩ => ?_) ht⟩
  subst ex
  obtain rfl : u = Value.ref a := rx
  refine getmeth_ok I1 ea c hm l ?_
  refine PySem.W.callWith_KW (first := [.ref a]) (h₀ := X.base) I.ok.mod.kin hm.kp hall (thn (ha.run pos pins s1 σ H1 _ I1 q) fun us s2 ⟨vs, H2, I2, r, q2⟩ => ?_) hpl hst
  refine thn (hkw.run pos pins s2 σ H2 _ I2 q2) fun ws s3 ⟨zs, H3, I3, rz, l1, l2, q3⟩ => ⟨I3.kIn, ?_⟩
  rw [hks]
  exact run_fnN (us := .ref a :: us) (vs := .ref a :: vs) F hr hb hx I3 (.cons rfl r) rz l1 l2 q3
end
section
variable {P : Program} {w : World} {K : PySem.W.Frag} {mg : Str → Option Value} {base : Heap} {x qual : Str} {params : Arguments} {body : List Stmt} {scope : Scope} {dvs : List V} {kws : List (Str × V)} {f : Addr} {fd : FuncData}
/-- a def with defaults that lets nothing out -/
theorem FunD.ok0 {N ps : List Str} {k : Nat} {sp : Sp} (F : FunD K x qual params body scope dvs kws f fd) (S : FnScope N ps scope) (len : ∀ vs H Q E, sp vs H Q E → vs.length = ps.length)
    (hb : ∀ (cdv : Value) (A : Around) (outer : List Env) (s : Shared) (H : Hp) (vs : List V) (Q : VK) (E : XK), Room k (A.deeper (envOfC qual scope s.heap.objs.size f cdv)) → sp vs H Q E →
      ∃ t, PSs (cxOf CX0 P w K mg base N qual scope f cdv A outer s H E).nox body t ∧ t { nx := fun _ H' => Q .non H', rt := Q } (start N vs) H) : FnOk P w K mg base CX0 (k + 1) f fd ps sp :=
  F.ok S len fun cdv A outer s H vs Q E hr h => (hb cdv A outer s H vs Q E hr h).elim fun t ⟨h1, h2⟩ => ⟨t, h1.nox, h2⟩
end
end L2

namespace L2
open PySem PySem.Spec PyProof.Rows
/-! ### x op y by an own def of the class of both -/
def rOwnI (C : Addr) (sp : Sp) (E : XK) : R2 := fun x y H Q => ∃ a dx fs b dy gs, x = .ref a ∧ y = .ref b ∧ H a = some (.ins C dx fs) ∧ H b = some (.ins C dy gs) ∧ sp [x, y] H Q E
section
variable {X : Cx} {CX : CXT} {n : Nat} {C g : Addr} {fd : FuncData} {ps : List Str} {sp : Sp} {E : XK}
theorem op_cmpI {op : CmpOp} (hop : ∀ a b, compareOp op a b = richCompare op a b) (hs : PySem.W.findIn X.K (.ref C) (cmpInfo op).2.1 = some (some (.ref g))) (hf : PySem.W.isFn X.K (.ref g) = true)
    (F : FnOk X.prog X.w X.K X.mg X.base CX n g fd ps sp) (hr : Room n X.A) (hb : Binds X.K fd ps []) (hx : Passes CX X E) : OpR X (compareOp op) (rOwnI C sp E) := by
  intro pins s σ H x y v u Q I rx ry h
  obtain ⟨a, dx, fs, b, dy, gs, rfl, rfl, ha, hb', q⟩ := h
  cases rx
  cases ry
  obtain ⟨mA, J, _⟩ := ins_get I.hok ha
  obtain ⟨mB, J', _⟩ := ins_get I.hok hb'
  obtain ⟨od, J, _⟩ := J.look
  obtain ⟨od', J', _⟩ := J'.look
  obtain ⟨m, hF⟩ := I.fr
  rw [hop]
  refine PySem.W.cmp_K (op := op) (tb := .ref C) hr.units0 hF I.ok.mod.kin J J'.type (by simp [PySem.W.notFirst]) hs hf ?_
  refine wpAny_mono (run_fn (us := [.ref a, .ref b]) (vs := [.ref a, .ref b]) (dvs := []) F hr hb .nil hx I (.cons rfl (.cons rfl .nil)) q) (fun w s' z => ?_) fun _ _ x => x
  obtain ⟨z', H', I', rz, qz⟩ := z
  exact SlX.cmpback rz ⟨z', H', I', rz, qz⟩
theorem op_binI {op : Operator} (hc : PySem.W.selfFirst X.K C = true) (hs : PySem.W.findIn X.K (.ref C) (PySem.dunder op.info.2) = some (some (.ref g))) (hf : PySem.W.isFn X.K (.ref g) = true)
    (F : FnOk X.prog X.w X.K X.mg X.base CX n g fd ps sp) (hr : Room n X.A) (hb : Binds X.K fd ps []) (hx : Passes CX X E) : OpR X (binaryOp op) (rOwnI C sp E) := by
  intro pins s σ H x y v u Q I rx ry h
  obtain ⟨a, dx, fs, b, dy, gs, rfl, rfl, ha, hb', q⟩ := h
  cases rx
  cases ry
  obtain ⟨mA, J, _⟩ := ins_get I.hok ha
  obtain ⟨mB, J', _⟩ := ins_get I.hok hb'
  obtain ⟨od, J, _⟩ := J.look
  obtain ⟨od', J', _⟩ := J'.look
  obtain ⟨m, hF⟩ := I.fr
  refine PySem.W.binop_K (op := op) hF I.ok.mod.kin J J'.type hc hs hf ?_
  refine wpAny_mono (run_fn (us := [.ref a, .ref b]) (vs := [.ref a, .ref b]) (dvs := []) F hr hb .nil hx I (.cons rfl (.cons rfl .nil)) q) (fun w s' z => ?_) fun _ _ x => x
  obtain ⟨z', H', I', rz, qz⟩ := z
  exact SlX.cmpback rz ⟨z', H', I', rz, qz⟩
end
end L2

/-! ### errors whose __init__ says super().__init__(text) and stores one field -/
namespace PySem
namespace WX
open PySem.W PySem.Calls PyProof.Rows PySem.HandSPX
def iB (fl tx : Str) (q1 q2 q3 q4 q5 q6 q7 q8 q9 q10 : Pos) (j : Nat) : List Stmt :=
  [.Expr (.Call (.Attribute (.Call (.Name "super" q1) [] [] q2) "__init__" q3) [.Constant (.str tx) j q4] [] q5) q6, .Assign [.Attribute (.Name "self" q7) fl q8] (.Name fl q9) q10]
/-- what the top has written of the class cn, at C, and of its __init__, at fI -/
structure ExcTxt (P : Program) (K : Frag) (mg : Str → Option Value) (cn fl : Str) (C : Addr) where
  gC : mg cn = some (.ref C)
  cls : ∃ nm q N bs bm sn sub ab col dd k0 k1 k2 k3 k5, K.lookup C = some (excClassObj nm q C N bs bm true sn sub ab col dd k0 k1 k2 k3 k5 "ValueError.__new__") ∧ refsVE bm = true
  sa : findIn K (.ref C) "__setattr__" = some (some (.builtin "object.__setattr__"))
  ga : findIn K (.ref C) "__getattribute__" = some (some (.builtin "BaseException.__getattribute__"))
  gg : findIn K (.ref C) "__getattr__" = some none
  noN : findIn K (.ref C) fl = some none
  kC : keepIn K (.ref C) = true
  exC : subIn K (.ref C) (.type "BaseException") = some true
  tyC : typeIn K (.ref C) = some (.type "type")
  hdC : hasDictIn K C = true
  D : Addr
  clsD : ∃ oD cdD, K.lookup D = some oD ∧ oD.data = .cls cdD
  fI : Addr
  qual : Str
  tx : Str
  S : Stmt
  oc : Value
  od : Option Addr
  kV : Value
  doc : Value
  pm : Value
  an : Option Addr
  cda : Addr
  ct : Value
  osl : Array (Option Value)
  cc : Addr
  cl : Value
  cld : Option Addr
  csl : Array (Option Value)
  ccl : Value
  cdd : Option Addr
  vs : Array Value
  ccs : Array (Option Value)
  file : Str
  tf : Tok
  q1 : Pos
  q2 : Pos
  q3 : Pos
  q4 : Pos
  q5 : Pos
  q6 : Pos
  q7 : Pos
  q8 : Pos
  q9 : Pos
  q10 : Pos
  j : Nat
  pl : Sem Bool
  iC : findIn K (.ref C) "__init__" = some (some (.ref fI))
  tI : typeIn K (.ref fI) = some (.type "function")
  lI : K.lookup fI = some ⟨oc, od, .func (ksFn "__init__" qual (L2.defArgs S) (L2.defBody S) (L2.defScope S) .none kV doc pm an (.ref cda) ct cc), osl⟩
  cI : codeIn K (.ref cda) qual = true
  lcc : K.lookup cc = some ⟨cl, cld, .cell (some (.ref D)), csl⟩
  lcd : K.lookup cda = some ⟨ccl, cdd, .fields vs, ccs⟩
  hvs : vs[2]? = some (.str file tf)
  hfile : ((P.main.file : Str) == file) = true
  hpar : ∃ ar : Arg, ((L2.defArgs S).posonlyargs ++ (L2.defArgs S).args).head? = some ar ∧ ar.arg = "self"
  hbody : L2.defBody S = iB fl tx q1 q2 q3 q4 q5 q6 q7 q8 q9 q10 j
  hbind : ∀ x v : Value, bindArgs (ksFn "__init__" qual (L2.defArgs S) (L2.defBody S) (L2.defScope S) .none kV doc pm an (.ref cda) ct cc) ⟨[x, v], []⟩ = pure [(("self" : Str), x), (fl, v)]
  hev : ∀ L f : Addr, eval (.Call (.Attribute (.Call (.Name "super" q1) [] [] q2) "__init__" q3) [.Constant (.str tx) j q4] [] q5) (ksEnv qual (L2.defScope S) L f (.ref cda) cc) = (do
      let ov ← attributeBase (.Call (.Name "super" q1) [] [] q2) "__init__" (ksEnv qual (L2.defScope S) L f (.ref cda) cc) (eval (.Call (.Name "super" q1) [] [] q2) (ksEnv qual (L2.defScope S) L f (.ref cda) cc))
      standAt q3.atName
      let (g, first) ← holding [ov] (getMethod ov "__init__" pl)
      callWith q5 g first (backTo q5 (starEach [.Constant (.str tx) j q4] (ksEnv qual (L2.defScope S) L f (.ref cda) cc))) [])
  hk : (L2.defScope S).kind = .function
  hco : (L2.defScope S).isCoroutine = false
  hgen : (L2.defScope S).isGenerator = false
  hks : (L2.defScope S).names.lookup ("super" : Str) = some .globalImplicit
  hkc : (L2.defScope S).names.lookup ("__class__" : Str) = some .free
  hself : (L2.defScope S).names.lookup ("self" : Str) = some .local
  hfl : (L2.defScope S).names.lookup fl = some .local
  hcell : ∀ y ∈ (L2.defScope S).names, y.2 ≠ .cell
  nf : ("self" : Str) ≠ fl ∧ (fl == ("__debug__" : Str)) = false
  top : (P.main.scope.names.lookup ("super" : Str)).isSome = false
  sup : mg "super" = none
  opq : nsIn K cStatics "thirdparty.any" = some none
  nxt : ks_superIn K C D "__init__" = some (some (.builtin "ValueError.__init__"))
  slf : mroIn K C (.ref D) = some true
  sub : subIn K (.ref C) (.type "ValueError") = some true
section
variable {P : Program} {w : World} {A : Around} {E : Value → Shared → Prop} {R : Result → Shared → Prop} {s : Shared} {K : Frag} {mg : Str → Option Value} {cn fl : Str} {C : Addr}
/-- the method-wrapper of ValueError.__init__ called -/
theorem call_mw {h : Heap} {g : Array GenState} {d : Drawn} {t : Nat} {os : OsState} {nm q : Str} {N : Addr} {bs bm : List Value} {hdct : Bool} {sn : List Str} {sub : List Value} {ab : Bool} {col : Option Bool} {dd : Option Addr} {k0 k1 k2 k3 k5 : Option Value} {u e t0 : Addr} {rest : List Value} {Q : Value → Shared → Prop}
    (hC : h.get? C = some (excClassObj nm q C N bs bm hdct sn sub ab col dd k0 k1 k2 k3 k5 "ValueError.__new__")) (he : h.get? e = some (excO C t0)) (hu : h.get? u = some (kxs_mw "ValueError.__init__" e)) (hrest : rest.length ≤ sizeLine)
    (hq : ∀ h' t1, (∀ b o, b ≠ e → h.get? b = some o → h'.get? b = some o) → h'.get? e = some (excO C t1) → Q .none ⟨h', g, d, t, os⟩) :
    wpAny (model P w) A (call (.ref u) rest) Q E ⟨h, g, d, t, os⟩ := by
  refine wpAny_call (codeAny_of_tree ?_)
  show wpAny _ A.in1 (callAny (.ref u) ⟨rest, []⟩) _ _ _
  simp only [callAny]
  refine wpAny_bind (wpAny_load hu ?_)
  simp only [kxs_mw, show (Value.type "method-wrapper" == Value.type "method" || Value.type "method-wrapper" == Value.type "builtin_function_or_method" || Value.type "method-wrapper" == Value.type "method-wrapper") = true by decide, if_true]
  refine KFB.if_so (by decide) (wpAny_bind (check_bound_init PySem.F.excBase_ValueError.toExcCallFacts hC he rfl (wpAny_bind (wpAny_pure (wpAny_pure ?_)))))
  refine ⟨plainId_quiet PySem.F.excBase_ValueError.init.plain _, codeAny_builtin PySem.F.excBase_ValueError.initEntry ?_⟩
  exact exc_init_tree (cls := .ref C) (t0 := t0) (dv := none) (c2 := .none) (c3 := .none) (b4 := .bool false) he hrest fun h' k e' _ => hq h' _ k e'
/-- what __init__ leaves of a fresh exception at x -/
structure InitEnd (h h' : Heap) (x C dx : Addr) (fl : Str) (v : Value) : Prop where
  keep : ∀ b o, b ≠ x → h.get? b = some o → h'.get? b = some o
  obj : ∃ t1 : Addr, h'.get? x = some { cls := .ref C, dict := some dx, data := .fields #[.ref t1, .none, .none, .none, .bool false, .none] }
  dbig : h.objs.size ≤ dx
  dne : dx ≠ x
  ns : h'.Ns1 dx (fun y => if y = fl then some v else none)
theorem x_init (T : ExcTxt P K mg cn fl C) {x t0 : Addr} {v : Value} (X : K.In s.heap) (hlim : s.heap.NoLimit) (hG : s.heap.Ns mainGlobals mg) (hB : ∃ mb, s.heap.Ns builtinsNs mb ∧ ∀ y : Str, y ≠ "__name__" → mb y = bootBuiltins y)
    (hx : s.heap.get? x = some (excO C t0)) (hnx : K.lookup x = none) (hroom : A.depth < recursionLimit)
    (hq : ∀ h' tk dx, InitEnd s.heap h' x C dx fl v → R (.ok (.ret .none)) { s with heap := h', toks := tk }) :
    codeAny (model P w) A (.call (.ref T.fI) ⟨[.ref x, v], []⟩) R s := by
  obtain ⟨nm, q, N, bs, bm, sn, sub, ab, col, dd, k0, k1, k2, k3, k5, hC, hbm⟩ := T.cls
  obtain ⟨oD, cdD, hD, hDd⟩ := T.clsD
  have hcl : clsIn K C = some { name := nm, bases := bs, mro := .ref C :: bm, ns := N, qualname := q, hasDict := true, slotNames := sn, subclasses := sub, abstract := ab, collection := col, hasDel := false } := by unfold clsIn; rw [hC] <;> rfl
  have hxC : x ≠ C := fun z => by
    have e1 := X _ _ hC
    rw [← z, hx] at e1
    have e2 := congrArg (fun o : Option Obj => o.map (·.data)) e1
    simp [excO, excClassObj] at e2
  have ho := T.lI
  refine ks_codeAny_call_defAt (fd := ksFn "__init__" T.qual (L2.defArgs T.S) (L2.defBody T.S) (L2.defScope T.S) .none T.kV T.doc T.pm T.an (.ref T.cda) T.ct T.cc) (body := L2.defBody T.S) (binds := [("self", .ref x), (fl, v)])
    hroom (X _ _ ho) rfl hlim (codeRec_of X T.cI) rfl (BindsTo.of_eq (T.hbind _ _)) T.hcell ?hloc (fun h₁ hns hk₁ => ?_) T.hco T.hgen T.hk
  case hloc =>
    intro y hy
    simp only [List.mem_cons, List.not_mem_nil, or_false] at hy
    rcases hy with rfl | rfl
    · exact T.hself
    · exact T.hfl
  have X₁ : K.In h₁ := X.keeps hk₁
  have hx₁ := hk₁ _ _ hx
  have ms : (fun y : Str => ([("self", Value.ref x), (fl, v)] : List (Str × Value)).reverse.lookup y) "self" = some (.ref x) := by
    have z : (("self" : Str) == fl) = false := by simpa using T.nf.1
    simp [List.lookup, z]
  have mf : (fun y : Str => ([("self", Value.ref x), (fl, v)] : List (Str × Value)).reverse.lookup y) fl = some v := by simp [List.lookup]
  show wpAt _ (A.deeper (ksEnv T.qual (L2.defScope T.S) s.heap.objs.size T.fI (.ref T.cda) T.cc)) (.func (L2.defBody T.S) (ksEnv T.qual (L2.defScope T.S) s.heap.objs.size T.fI (.ref T.cda) T.cc)) (execs (L2.defBody T.S) (ksEnv T.qual (L2.defScope T.S) s.heap.objs.size T.fI (.ref T.cda) T.cc)) _ _ _
  rw [T.hbody]
  refine ks_wpAt_execs_cons (ks_wpAt_Expr_any (ks_wpAt_MethodCall ?_ (T.hev _ _)) (by unfold interactive; show ((L2.defScope T.S).kind == .module && _) = false; rw [T.hk]; rfl))
  obtain ⟨ar, hp, har⟩ := T.hpar
  obtain ⟨mb, hB1, hB2⟩ := hB
  refine ks_wpAt_super_base T.hks T.hkc (by decide +kernel) rfl (hk₁ _ _ (X _ _ ho)) rfl hp rfl (hk₁ _ _ (X _ _ T.lcd)) rfl T.hvs T.hfile T.top ?_
  refine ks_loadName_global T.hk T.hks (loadGlobal_builtin (hG.keeps hk₁) T.sup (hB1.keeps hk₁) ((hB2 _ (by decide +kernel)).trans PyProof.Rows.Boot.«super») ⟨rfl, ?_⟩)
  refine wpAny_loadName_free T.hk T.hkc rfl ⟨_, X₁ _ _ T.lcc, rfl⟩ ?_
  rw [har]
  refine wpAny_loadName_local T.hk T.hself hns ms ?_
  refine ks_wpAny_isType_cls (X₁ _ _ hD) hDd ⟨rfl, ?_⟩
  refine ks_wpAny_call_super (X₁ _ _ hD) hDd hx₁ rfl (fun c e => by cases e) (looks_mroIn X₁ T.slf) (fun h₂ e₂ k₂ => ?_)
  have X₂ : K.In h₂ := X₁.keeps k₂
  have hx₂ := k₂ _ _ hx₁
  have I₂ : InstAt h₂ x (excO C t0) C none := ⟨hx₂, rfl, rfl, trivial⟩
  have hnxt : alongIn K "__init__" (((Value.ref C :: bm).dropWhile (· != .ref T.D)).drop 1) = some (some (.builtin "ValueError.__init__")) := by
    have z := T.nxt
    unfold ks_superIn at z
    rw [hcl] at z
    exact z
  refine kxs_getMethod kxs_ValueError e₂ (looks_opaque X₂ T.opq) (l₀ := Value.ref C :: bm) (fun A Q E s k q => wpAny_bind ((looks_clsIn X₂ hcl) A _ E s k (wpAny_pure q))) rfl X₂ hnxt (I₂.type.andThen (looks_subIn X₂ T.sub)) hxC (by decide +kernel) ?_
  have k₃ : ∀ b o, h₂.get? b = some o → (h₂.push (kxs_mw "ValueError.__init__" x)).get? b = some o := fun b o e => Heap.get?_push_of_some _ e
  refine kxs_callWith (i := "ValueError.__init__") (x := x) rfl (evalArgs_plain (spliced_more (wpAny_Constant_str (spliced_none ?_))))
  refine ⟨Heap.get?_push_at rfl rfl, ?_⟩
  refine call_mw (k₃ _ _ (X₂ _ _ hC)) (k₃ _ _ hx₂) (Heap.get?_push_at rfl rfl) (by show 1 ≤ sizeLine; decide) fun h₄ t1 k₄ hx₄ => ?_
  have k14 : ∀ b o, b ≠ x → h₁.get? b = some o → h₄.get? b = some o := fun b o hb e => k₄ b o hb (k₃ _ _ (k₂ _ _ e))
  have hxL : s.heap.objs.size ≠ x := Nat.ne_of_gt (Heap.lt_size hx)
  have hns₄ : h₄.Ns s.heap.objs.size (fun y : Str => ([("self", Value.ref x), (fl, v)] : List (Str × Value)).reverse.lookup y) := by
    obtain ⟨oL, es, ep, hL, r⟩ := hns
    exact ⟨oL, es, ep, k14 _ _ hxL hL, r⟩
  have X₄ : K.In h₄ := fun b o e => k14 b o (fun z => by rw [z, hnx] at e; cases e) (X₁ _ _ e)
  refine ks_wpAt_execs_cons (ks_wpAt_Assign_Attr (wpAt_of_wpAny (wpAny_Name (wpAny_loadName_local T.hk T.hfl hns₄ mf ?_) T.nf.2)))
  refine wpAny_Name (wpAny_loadName_local T.hk T.hself hns₄ ms ?_)
  refine set_plain X₄ (ox := excO C t1) (od := none) ⟨hx₄, rfl, rfl, trivial⟩ T.sa ?_
  refine exc_osa X₄ hx₄ hcl (show refsVE (.ref C :: bm) = true from hbm) rfl T.noN (fun h₅ tk₅ dx k₅ dn dne hx₅ hn₅ => ?_)
  exact wpAt_of_wpAny (wpAny_execs_nil (hq h₅ tk₅ dx ⟨fun b o hb e => k₅ b o hb (k14 b o hb (hk₁ b o e)), ⟨t1, hx₅⟩, Nat.le_trans (Nat.le_of_lt hns₄.lt) dn, dne, hn₅⟩))
/-- a made error -/
structure OwnMade (h h' : Heap) (e C d : Addr) (fl : Str) (v : Value) : Prop where
  keep : ∀ b o, h.get? b = some o → h'.get? b = some o
  new : h.objs.size ≤ e
  obj : ∃ oe vs, h'.get? e = some oe ∧ oe.cls = .ref C ∧ oe.dict = some d ∧ oe.data = .fields vs ∧ vs[1]? = some .none
  dbig : h.objs.size ≤ d
  dne : d ≠ e
  ns : h'.Ns1 d (fun y => if y = fl then some v else none)
theorem x_made (T : ExcTxt P K mg cn fl C) {v : Value} (X : K.In s.heap) (hlim : s.heap.NoLimit) (hG : s.heap.Ns mainGlobals mg) (hB : ∃ mb, s.heap.Ns builtinsNs mb ∧ ∀ y : Str, y ≠ "__name__" → mb y = bootBuiltins y) (hroom : A.depth + 1 < recursionLimit)
    (hq : ∀ h' tk e d, OwnMade s.heap h' e C d fl v → R (.ok (.ret (.ref e))) { s with heap := h', toks := tk }) :
    codeAny (model P w) A (.call (.ref C) ⟨[v], []⟩) R s := by
  obtain ⟨nm, q, N, bs, bm, sn, sub, ab, col, dd, k0, k1, k2, k3, k5, hC, hbm⟩ := T.cls
  obtain ⟨hp, g, dr, tk, os⟩ := s
  have k : ∀ b o, hp.get? b = some o → ((hp.push (kdv_tup [v])).push (excO C hp.objs.size)).get? b = some o := fun b o e => Heap.get?_push_of_some _ (Heap.get?_push_of_some _ e)
  have hget : ((hp.push (kdv_tup [v])).push (excO C hp.objs.size)).get? (hp.objs.size + 1) = some (excO C hp.objs.size) := by heap_get
  have hnx : K.lookup (hp.objs.size + 1) = none := by
    cases e : K.lookup (hp.objs.size + 1) with
    | none => rfl
    | some o => exact absurd (Nat.lt_of_succ_lt (Heap.lt_size (show hp.get? (hp.objs.size + 1) = some o from X _ _ e))) (Nat.lt_irrefl _)
  obtain ⟨mb, hB1, hB2⟩ := hB
  refine call_own PySem.F.excBase_ValueError (fun X => refsVE_contains X bm hbm) (X _ _ hC) (looks_findIn X T.iC) (fun self => bind_fn X self T.tI) (by show 1 ≤ sizeLine; decide) ?_
  refine x_init (s := ⟨(hp.push (kdv_tup [v])).push (excO C hp.objs.size), g, dr, tk, os⟩) T (X.keeps k) (hlim.keeps k) (hG.keeps k) ⟨mb, hB1.keeps k, hB2⟩ hget hnx (show A.depth + 1 < recursionLimit from hroom) fun h' tk' dx ⟨k', ⟨t1, hx⟩, dn, dne, hns⟩ => ?_
  have old : ∀ b o, hp.get? b = some o → h'.get? b = some o := fun b o e => k' b o (Nat.ne_of_lt (Nat.lt_succ_of_lt (Heap.lt_size e))) (k b o e)
  have z : hp.objs.size + 1 + 1 ≤ dx := by
    first
      | (simpa only [Heap.size_push] using dn)
      | exact dn
      | (have q := dn; rw [Heap.size_push, Heap.size_push] at q; exact q)
  exact ⟨rfl, hq h' tk' (hp.objs.size + 1) dx ⟨old, Nat.le_succ _, ⟨_, _, hx, rfl, rfl, rfl, rfl⟩, Nat.le_trans (Nat.le_trans (Nat.le_succ _) (Nat.le_succ _)) z, dne, hns⟩⟩
end
end WX
end PySem
namespace L2
open PySem PySem.Spec PyProof.Rows
theorem relO_x {v : V} {v' : Value} (fl : Str) (r : RelV v v') (f : Str) : RelO (List.lookup f [(fl, v)]) (if f = fl then some v' else none) := by
  by_cases hw : f = fl
  · subst hw
    rw [if_pos rfl, show List.lookup f [(f, v)] = some v by simp [List.lookup]]
    exact r
  · rw [if_neg hw, show List.lookup f [(fl, v)] = none by simp [List.lookup, show (f == fl) = false by simpa using hw]]
    trivial
section
variable {X : Cx} {C : Addr} {cn fl : Str}
/-- cn(e) -/
def tMkX (C : Addr) (fl : Str) (ta : TA) : St → Hp → XK → Prop := fun σ H Q => ta σ H fun vs H1 => ∃ v, vs = [v] ∧ ∀ d, H1 d = none → Q (.ref C) (some d) (upd H1 d (.xd [(fl, v)]))
theorem pmk_x {a : Expr} {ta : TA} {p pos : Pos} {k : Nat} (T : PySem.WX.ExcTxt X.prog X.K X.mg cn fl C) (hr : Room k X.A) (ha : PA X [a] ta) (hg : Gl X cn := by rfl) (hdb : (cn == ("__debug__" : Str)) = false := by decide)
    (he : starEach (a :: []) X.env = (false, eval a X.env) :: starEach [] X.env := by rfl) (hpl : (backTo pos (starEach [] X.env)).any (·.1) = false := by rfl) :
    PMk X (.Call (.Name cn p) [a] [] pos) (tMkX C fl ta) := by
  intro pins s σ H Q I h
  refine wpAny_Call_Name_kw (ld_glob I hg T.gC ?_ hdb)
  refine PySem.W.callWith_K (h₀ := X.base) I.ok.mod.kin T.kC (thn (ha.run pos pins s σ H _ I h) fun us s1 hh => ?_) he hpl
  obtain ⟨vs, H1, I1, r1, v, ev, q1⟩ := hh
  subst ev
  refine ⟨I1.kIn, ?_⟩
  cases r1 with
  | cons rv rn =>
    rename_i v' us'
    cases rn
    show wpAny _ _ (call (.ref C) [v']) _ _ _
    have hlim := I1.nolimit
    have hG := I1.mod.glob.keeps I1.bk
    obtain ⟨mb, hB1, hB2⟩ := I1.mod.blt
    have hB1' := hB1.keeps I1.bk
    obtain ⟨hp, g, dr, tk, os⟩ := s1
    refine wpAny_call (PySem.WX.x_made T I1.kIn hlim hG ⟨mb, hB1', hB2⟩ (by have := hr.dp; omega) fun h' tk' e d M => ?_)
    show MkP X pins σ Q (.ref e) ⟨h', g, dr, tk', os⟩
    obtain ⟨oe, fv, hoe, hc, hd, hdat, h1⟩ := M.obj
    obtain ⟨G', g1, g2⟩ := restrict h' fun b => decide (b ≠ e)
    have gk : ∀ b, b ≠ e → G'.get? b = h'.get? b := fun b hb => g1 b (decide_eq_true hb)
    have ge : G'.get? e = none := g2 e (by simp)
    have old : ∀ b o, hp.get? b = some o → G'.get? b = some o := fun b o q => (gk b (Nat.ne_of_lt (Nat.lt_of_lt_of_le (Heap.lt_size q) M.new))).trans (M.keep b o q)
    have ob : ObjOk X.prog X.w (upd H1 d (.xd [(fl, v)])) G' d (.xd [(fl, v)]) := ⟨_, M.ns.at (fun o q => (gk d M.dne).trans q), fun f => relO_x fl rv f⟩
    have J : Inv X pins σ (upd H1 d (.xd [(fl, v)])) ⟨G', g, dr, tk', os⟩ := I1.laid (t' := tk') old M.dbig ob
    refine ⟨e, oe, fv, ⟨G', g, dr, tk', os⟩, _, .ref C, some d, rfl, J, fun b o q => ?_, ge, hoe, ⟨hc, hd⟩, hdat, h1, ?_, rfl, I1.bare, raises_own T.exC T.tyC, q1 d (I1.hok.fresh M.dbig)⟩
    · by_cases hb : b = e
      · have q' : G'.get? b = some o := q
        rw [hb, ge] at q'; cases q'
      · exact (gk b hb).symm.trans q
    · rw [upd_ne (Ne.symm M.dne)]
      exact I1.hok.fresh M.new
/-- raise cn(e) -/
def tRaiseX (C : Addr) (fl : Str) (W : WX) (ta : TA) : TS := fun _ σ H => tMkX C fl ta σ H fun cls d H' => W cls d σ H'
theorem ps_raiseX {a : Expr} {ta : TA} {W : WX} {p pos pos2 : Pos} {k : Nat} (hc : X.calm = true) (T : PySem.WX.ExcTxt X.prog X.K X.mg cn fl C) (hr : Room k X.A) (tk : Takes X W) (ha : PA X [a] ta) (hg : Gl X cn := by rfl) (hdb : (cn == ("__debug__" : Str)) = false := by decide)
    (he : starEach (a :: []) X.env = (false, eval a X.env) :: starEach [] X.env := by rfl) (hpl : (backTo pos (starEach [] X.env)).any (·.1) = false := by rfl) :
    PS X (.Raise (some (.Call (.Name cn p) [a] [] pos)) none pos2) (tRaiseX C fl W ta) := ps_raise hc tk (pmk_x T hr ha hg hdb he hpl)
end
end L2

namespace L2
open PySem PySem.Spec PyProof.Rows
/-! ### in an except suite: isinstance(e, c) and e.f, e an own error with a dict -/
structure XC (K : PySem.W.Frag) (D : Addr) : Prop where
  ga : PySem.W.findIn K (.ref D) "__getattribute__" = some (some (.builtin "BaseException.__getattribute__"))
  gg : PySem.W.findIn K (.ref D) "__getattr__" = some none
  hs : PySem.W.subIn K (.ref D) (.type "BaseException") = some true
  hd : PySem.W.hasDictIn K D = true
  ha : PySem.W.findIn K (.ref D) "__class__" = some (some (.builtin "object.__class__"))
  hn : PySem.W.specialIn K (.builtin "object.__class__") "__get__" = some (some (.builtin "getset_descriptor.__get__"))
  ht : PySem.W.takesIn K (.builtin "object.__class__") = some true
  hm : PySem.W.mroIn K D (.type "object") = some true
def rIsX (K : PySem.W.Frag) (a : Addr) (cls : Value) (d : Option Addr) : List V → Hp → VK → Prop := fun xs H Q => ∃ (D dd : Addr) (fs : List (Str × V)) (c : V) (cv : Value) (b : Bool), cls = .ref D ∧ d = some dd ∧ H dd = some (.xd fs) ∧ XC K D ∧ xs = [.ref a, c] ∧ ClsV c cv ∧ PySem.W.kitOne K (.ref D) cv = some b ∧ Q (.bl b) H
theorem call_isX {X : Cx} {a : Addr} {oe : Obj} {cls : Value} {d : Option Addr} {pn : List (Addr × Obj)} (hz : Zc cls d oe) (hf : ∃ vs, oe.data = .fields vs) : CallR (X.suite a ((a, oe) :: pn)) (.builtin "isinstance") (rIsX X.K a cls d) := by
  intro pins s σ H xs us Q I r h
  obtain ⟨D, dd, fs, c, cv, b, rfl, rfl, hdd, C, rfl, hcv, e, q⟩ := h
  cases r with
  | cons rx rr =>
    cases rr with
    | cons rt rr =>
      cases rr
      cases rx
      have ec := hcv.eq rt
      subst ec
      obtain ⟨hget, _⟩ := I.pin (a, oe) (List.mem_append.mpr (.inl List.mem_cons_self))
      obtain ⟨vs, hv⟩ := hf
      have hx : ObjOk X.prog X.w H s.heap dd (.xd fs) := I.hok dd _ hdd
      obtain ⟨mA, hns, hr⟩ := hx
      obtain ⟨od, ho, hl⟩ := lookIn_ns hns
      have J : PySem.W.InstAt s.heap a oe D (some od) := ⟨hget, hz.1, by unfold PySem.W.notCls; rw [hv] <;> rfl, by rw [hz.2]; exact ho⟩
      obtain ⟨cd, hc, _⟩ := PySem.W.any_some C.hd
      exact PySem.W.kia_one (PySem.W.kitx_exc (by rw [hc]; rfl) C.ga C.gg C.hs C.ha C.hn C.ht C.hm) I.kIn J e (fun z => nomatch z) fun tk => ⟨.bl b, H, I.kept (t' := tk) fun _ _ z => z, rfl, q⟩
/-- e.f: the reading names the class -/
def tXfX (K : PySem.W.Frag) (a : Addr) (cls : Value) (d : Option Addr) (f : Str) (te : TE) : TE := fun σ H Q => te σ H fun x H1 => x = .ref a ∧ ∃ (C dd : Addr) (fs : List (Str × V)) (v : V), cls = .ref C ∧ XC K C ∧ PySem.W.findIn K (.ref C) f = some none ∧ d = some dd ∧ H1 dd = some (.xd fs) ∧ fs.lookup f = some v ∧ Q v H1
theorem pe_xfX {X : Cx} {a : Addr} {oe : Obj} {cls : Value} {d : Option Addr} {pn : List (Addr × Obj)} {e : Expr} {te : TE} {pos : Pos} {n : Str}
    (hz : Zc cls d oe) (hf : ∃ vs, oe.data = .fields vs) (he : PE (X.suite a ((a, oe) :: pn)) e te) (hb : attributeBase e n X.env (eval e X.env) = eval e X.env := by rfl) :
    PE (X.suite a ((a, oe) :: pn)) (.Attribute e n pos) (tXfX X.K a cls d n te) := by
  refine ⟨fun pins s σ H Q I h => ?_⟩
  refine attr_of hb (thn (he.run pins s σ H _ I h) fun u s1 hh => ?_)
  obtain ⟨x, H1, I1, rx, ex, C, dd, fs, v, ec, T, hno, ed, ea, l, q⟩ := hh
  subst ex
  obtain rfl : u = Value.ref a := rx
  subst ec
  subst ed
  obtain ⟨ha, _⟩ := I1.pin (a, oe) (List.mem_append_left _ List.mem_cons_self)
  obtain ⟨vs, hd⟩ := hf
  have hx : ObjOk X.prog X.w H1 s1.heap dd (.xd fs) := I1.hok dd _ ea
  obtain ⟨mA, hns, hr⟩ := hx
  obtain ⟨od, ho, hl⟩ := lookIn_ns hns
  obtain ⟨u, hu, ru⟩ := RelO.some_of (v := v) (o := mA n) (by rw [← l]; exact hr n)
  have J : PySem.W.InstAt s1.heap a oe C (some od) := ⟨ha, hz.1, by unfold PySem.W.notCls; rw [hd] <;> rfl, by rw [hz.2]; exact ho⟩
  exact HandSPX.exc_get I1.kIn J T.ga T.gg T.hs (PySem.W.findObj_own T.hd hno rfl (by rw [hl, hu])) (handed_of ru) ⟨v, H1, I1.tok _, ru, q⟩
/-! ### calls in a try's body: the way out sees the slots -/
def tMethW (C : Addr) (m : Str) (sp : Sp) (dvs : List V) (E : St → XK) (ta : TE) (t : TA) : TE := fun σ H Q => tMeth C m sp dvs (E σ) ta t σ H Q
section
variable {X : Cx} {CX : CXT} {k : Nat} {f C : Addr} {fd : FuncData} {ps : List Str} {sp : Sp} {dvs : List V} {ds : List Value} {E : St → XK} {x m : Str} {p pos apos : Pos} {e o : Expr} {es : List Expr} {ta : TE} {t : TA}
theorem pe_methW {pl : Sem Bool} (he : PE X o ta) (c : Cls X.K C) (hm : Meth X.K C m f) (F : FnOk X.prog X.w X.K X.mg X.base CX k f fd ps sp) (hr : Room k X.A) (hb : Binds X.K fd ps ds) (hd : Vals dvs ds) (hx : ∀ σ, PassesAt CX X σ (E σ)) (ha : PA X (e :: es) t)
    (hst : starEach (e :: es) X.env = (false, eval e X.env) :: starEach es X.env := by rfl) (hpl : (backTo pos (starEach es X.env)).any (·.1) = false := by rfl)
    (ht : eval (.Call (.Attribute o m apos) (e :: es) [] pos) X.env = (do
      let ov ← eval o X.env
      standAt apos.atName
      let (f, first) ← holding [ov] (getMethod ov m pl)
      callWith pos f first (backTo pos (starEach (e :: es) X.env)) (backToKw pos (keywordEach [] X.env))) := by rfl) :
    PE X (.Call (.Attribute o m apos) (e :: es) [] pos) (tMethW C m sp dvs E ta t) := by
  refine ⟨fun pins s σ H Q I h => ?_⟩
  refine PySem.W.methodCall_KW (pl := pl) (thn (he.run pins s σ H _ I h) fun u s1 ⟨x, H1, I1, rx, a, dx, fs, ex, ea, l, q⟩ => ?_) ht
  subst ex
  obtain rfl : u = Value.ref a := rx
  refine getmeth_ok I1 ea c hm l ?_
  refine PySem.W.callWith_K (first := [.ref a]) (h₀ := X.base) I.ok.mod.kin hm.kp (thn (ha.run pos pins s1 σ H1 _ I1 q) fun us s2 ⟨vs, H2, I2, r, q2⟩ => ⟨I2.kIn, ?_⟩) hst hpl
  exact run_fnSD (us := .ref a :: us) (vs := .ref a :: vs) F hr hb hd (hx σ) I2 (.cons rfl r) q2
end
end L2

namespace L2
open PySem PySem.Spec PyProof.Rows
/-- a def that raises nothing where nothing may be raised -/
theorem FnOk.calm {P : Program} {w : World} {K : PySem.W.Frag} {mg : Str → Option Value} {base : Heap} {k : Nat} {f : Addr} {fd : FuncData} {ps : List Str} {sp : Sp} (F : FnOk P w K mg base (L2.CX P w) k f fd ps sp) :
    FnOk P w K mg base CX0 k f fd ps (fun vs H Q _ => sp vs H Q fun _ _ _ => False) :=
  ⟨fun vs H Q _ h => F.len vs H Q _ h, fun A outer s H args us vs Q _ hr he hb hv hs => codeAny_mono (F.run A outer s H args us vs Q _ hr he hb hv hs) fun r s' hq => by
    cases r with
    | error e =>
      obtain ⟨_, _, _, _, _, _, _, _, _, _, _, _, h⟩ := hq
      exact h.elim
    | ok fl =>
      cases fl with
      | ret u => exact hq
      | next => exact hq
      | brk => exact hq
      | cont => exact hq⟩
/-- the way out of a def as its own caller's -/
theorem passX {X : Cx} {E : XK} (tk : Takes X (fun cls d _ H => E cls d H)) : Passes (L2.CX X.prog X.w) X E := passes_call tk fun _ _ _ _ h => h
end L2

namespace L2
open PySem
def gSeq (K : PySem.W.Frag) (n : Nat) (t : TGs) : TG := fun v σ H Q => gTup K n t v σ H Q ∨ gLst K n t v σ H Q
theorem pg_seq {X : Cx} {es : List Expr} {k : Nat} {t : TGs} {n : Nat} {pos : Pos} (hc : X.calm = true) (h : PGs X es t)
    (hn : (assignEach es X.env).length = n := by rfl) (hst : (assignEach es X.env).findIdx? (·.1) = none := by rfl) : PG X (.Tuple es k pos) (gSeq X.K n t) :=
  ⟨fun pins s σ H v u Q I r hw => hw.elim (fun w => (pg_tup hc h hn hst).run pins s σ H v u Q I r w) (fun w => (pg_lst hc h hn hst).run pins s σ H v u Q I r w)⟩
end L2
namespace L2
open PySem
theorem gSeq_of {K : PySem.W.Frag} {n : Nat} {t : TGs} {p : Addr} {xs : List V} {σ : L2.St} {H : Hp} {Q : L2.St → Hp → Prop} (h : H p = some (.tup xs) ∨ H p = some (.lst xs)) (hn : xs.length = n) (q : t xs σ H Q) : gSeq K n t (.ref p) σ H Q := by
  rcases h with h | h
  · exact .inl ⟨p, xs, rfl, SqT.of h, hn, q⟩
  · exact .inr ⟨p, xs, rfl, SqL.of h, hn, q⟩
end L2

namespace L2
open PySem PySem.Spec PyProof.Rows L2H
/-! ### a def that is handed the exception of the except suite it is called from: p, its place and its object, is known -/
structure FnE (P : Program) (w : World) (K : PySem.W.Frag) (mg : Str → Option Value) (base : Heap) (CX : CXT) (k : Nat) (f : Addr) (fd : FuncData) (ps : List Str) (sp : Sp) (p : Addr × Obj) : Prop where
  len : ∀ vs H Q E, sp vs H Q E → vs.length = ps.length
  run : ∀ (A : Around) (outer : List Env) (s : Shared) (H : Hp) (args : Args) (us : List Value) (vs : List V) (Q : VK) (E : XK), RoomH k A → PinOk outer H s p → Env0 P w K mg base A outer s H → BindsTo s fd args (ps.zip us) → Vals vs us → sp vs H Q E →
    codeAny (model P w) A (.call (.ref f) args) (CR CX outer P w H s Q E) s
section
variable {P : Program} {w : World} {K : PySem.W.Frag} {mg : Str → Option Value} {base : Heap} {k : Nat} {f : Addr} {fd : FuncData} {x qual : Str} {st : Stmt} {N ps : List Str} {sp : Sp} {p : Addr × Obj}
theorem Fun.okE (F : Fun K x qual st f fd) (S : FnScope N ps (defScope st)) (len : ∀ vs H Q E, sp vs H Q E → vs.length = ps.length)
    (body : ∀ (cdv : Value) (A : Around) (outer : List Env) (s : Shared) (H : Hp) (vs : List V) (Q : VK) (E : XK), RoomH k (A.deeper (envOfC qual (defScope st) s.heap.objs.size f cdv)) → sp vs H Q E →
      ∃ t, PSs (cxH CX0 P w K mg base N qual (defScope st) f cdv A outer s H E p) (defBody st) t ∧ t { nx := fun _ H' => Q .non H', rt := Q } (start N vs) H) : FnE P w K mg base CX0 (k + 1) f fd ps sp p := by
  obtain ⟨oc, od, kV, doc, pm, an, cdv, ct, osl, rfl, lk, hcd⟩ := F.ex
  refine ⟨len, fun A outer s H args us vs Q E hr hpin e0 hb r hsp => ?_⟩
  have inK : K.In s.heap := e0.mod.kin.keeps fun b o e => (e0.bs b o e).1
  have lim : s.heap.NoLimit := e0.mod.nolimit.keeps fun b o e => (e0.bs b o e).1
  have kinds : ∀ y ∈ ps.zip us, (defScope st).names.lookup y.1 = some .local ∨ ((defScope st).names.lookup y.1 = some .cell ∧ ((cellsFrom (s.heap.objs.size + 1) (defScope st).names []).lookup y.1).isSome = true) := fun ⟨n, v⟩ hy =>
    (S.par n (List.of_mem_zip hy).1).elim .inl fun q => .inr ⟨q, PySem.W.cellsFrom_some _ _ _ (.inl q)⟩
  refine codeAny_call_function hr.depth (inK _ _ lk) rfl S.co S.gen rfl (PySem.W.codeRec_of inK hcd) (hb _ _ _ _ (wpAny_newFunctionEnv_cells S.kind kinds fun env he s1 y => ?_))
  subst he
  obtain ⟨t, ht, hq⟩ := body cdv A outer s H vs Q E (hr.deeper _) hsp
  refine ⟨lim.keeps y.toInCall.keep, codeAny_func (wpAny_mono (ht.run [] s1 (start N vs) H _ (inv_startH S hpin e0 (len _ _ _ _ hsp) r y) hq) (fun fl s' hs => ?_) fun e s' hs => hs)⟩
  match fl, hs with
  | .ret u, ⟨v, σ', H', J, rv, q⟩ => exact ⟨v, H', J.os, J.bare, J.base, J.hok, rv, q⟩
  | .next, ⟨σ', H', J, q⟩ => exact ⟨V.non, H', J.os, J.bare, J.base, J.hok, rfl, q⟩
  | .brk, ⟨_, _, _, q⟩ => exact False.elim q
  | .cont, ⟨_, _, _, q⟩ => exact False.elim q
end
section
variable {X : Cx} {CX : CXT} {k : Nat} {f : Addr} {fd : FuncData} {ps : List Str} {sp : Sp} {E : XK} {p : Addr × Obj} {x : Str} {q pos : Pos} {e : Expr} {es : List Expr} {t : TA}
theorem pe_callE (F : FnE X.prog X.w X.K X.mg X.base CX k f fd ps sp p) (hr : RoomH k X.A) (hp : p ∈ X.pn) (hg : Gl X x) (hm : X.mg x = some (.ref f)) (hk : PySem.W.keepIn X.K (.ref f) = true) (hb : Binds X.K fd ps []) (hx : Passes CX X E)
    (ha : PA X (e :: es) t) (hdb : (x == ("__debug__" : Str)) = false := by decide) (he : starEach (e :: es) X.env = (false, eval e X.env) :: starEach es X.env := by rfl) (hpl : (backTo pos (starEach es X.env)).any (·.1) = false := by rfl) :
    PE X (.Call (.Name x q) (e :: es) [] pos) (tCall sp [] E t) := by
  refine ⟨fun pins s σ H Q I h => ?_⟩
  refine wpAny_Call_Name_kw (ld_glob I hg hm ?_ hdb)
  refine PySem.W.callWith_K (h₀ := X.base) I.ok.mod.kin hk (thn (ha.run pos pins s σ H _ I h) fun us s1 ⟨vs, H1, I1, r, q⟩ => ⟨I1.kIn, ?_⟩) he hpl
  have q : sp vs H1 Q E := by simpa using q
  have hl : us.length = ps.length := by rw [← r.length]; exact F.len _ _ _ _ q
  have b := hb s1 us I1.kIn (by rw [List.append_nil]; exact hl)
  rw [List.append_nil] at b
  have P1 := I1.pin p (List.mem_append_left _ hp)
  have hpin : PinOk X.stack H1 s1 p := ⟨P1.1, P1.2.1, fun hm => (List.mem_cons.mp (I1.stkSub p.1 hm)).elim P1.2.2.1 P1.2.2.2.1, P1.2.2.2.2⟩
  refine wpAny_call (codeAny_mono (F.run X.A X.stack s1 H1 ⟨us, []⟩ us vs Q E hr hpin I1.env0 b r q) fun r s' hq => ?_)
  match r, hq with
  | .error e, hq => exact hx pins σ H1 s1 e s' I1 hq
  | .ok (.ret u), hq => exact I1.after hq
/-- isinstance(e, c), e the pinned exception -/
theorem call_isP {a : Addr} {oe : Obj} {cls : Value} {d : Option Addr} (hp : (a, oe) ∈ X.pn) (hz : Zc cls d oe) (hf : ∃ vs, oe.data = .fields vs) : CallR X (.builtin "isinstance") (rIsX X.K a cls d) := by
  intro pins s σ H xs us Q I r h
  obtain ⟨D, dd, fs, c, cv, b, rfl, rfl, hdd, C, rfl, hcv, e, q⟩ := h
  cases r with
  | cons rx rr =>
    cases rr with
    | cons rt rr =>
      cases rr
      cases rx
      have ec := hcv.eq rt
      subst ec
      obtain ⟨hget, _⟩ := I.pin (a, oe) (List.mem_append_left _ hp)
      obtain ⟨vs, hv⟩ := hf
      have hx : ObjOk X.prog X.w H s.heap dd (.xd fs) := I.hok dd _ hdd
      obtain ⟨mA, hns, hr⟩ := hx
      obtain ⟨od, ho, hl⟩ := lookIn_ns hns
      have J : PySem.W.InstAt s.heap a oe D (some od) := ⟨hget, hz.1, by unfold PySem.W.notCls; rw [hv] <;> rfl, by rw [hz.2]; exact ho⟩
      obtain ⟨cd, hc, _⟩ := PySem.W.any_some C.hd
      exact PySem.W.kia_one (PySem.W.kitx_exc (by rw [hc]; rfl) C.ga C.gg C.hs C.ha C.hn C.ht C.hm) I.kIn J e (fun z => nomatch z) fun tk => ⟨.bl b, H, I.kept (t' := tk) fun _ _ z => z, rfl, q⟩
/-- e.f, e the pinned exception -/
theorem pe_xfP {a : Addr} {oe : Obj} {cls : Value} {d : Option Addr} {ex : Expr} {te : TE} {n : Str} {apos : Pos} (hp : (a, oe) ∈ X.pn) (hz : Zc cls d oe) (hf : ∃ vs, oe.data = .fields vs) (he : PE X ex te) (hb : attributeBase ex n X.env (eval ex X.env) = eval ex X.env := by rfl) :
    PE X (.Attribute ex n apos) (tXfX X.K a cls d n te) := by
  refine ⟨fun pins s σ H Q I h => ?_⟩
  refine attr_of hb (thn (he.run pins s σ H _ I h) fun u s1 hh => ?_)
  obtain ⟨x, H1, I1, rx, ex, C, dd, fs, v, ec, T, hno, ed, ea, l, q⟩ := hh
  subst ex
  obtain rfl : u = Value.ref a := rx
  subst ec
  subst ed
  obtain ⟨ha, _⟩ := I1.pin (a, oe) (List.mem_append_left _ hp)
  obtain ⟨vs, hd⟩ := hf
  have hx : ObjOk X.prog X.w H1 s1.heap dd (.xd fs) := I1.hok dd _ ea
  obtain ⟨mA, hns, hr⟩ := hx
  obtain ⟨od, ho, hl⟩ := lookIn_ns hns
  obtain ⟨u, hu, ru⟩ := RelO.some_of (v := v) (o := mA n) (by rw [← l]; exact hr n)
  have J : PySem.W.InstAt s1.heap a oe C (some od) := ⟨ha, hz.1, by unfold PySem.W.notCls; rw [hd] <;> rfl, by rw [hz.2]; exact ho⟩
  exact HandSPX.exc_get I1.kIn J T.ga T.gg T.hs (PySem.W.findObj_own T.hd hno rfl (by rw [hl, hu])) (handed_of ru) ⟨v, H1, I1.tok _, ru, q⟩
end
end L2
namespace L2
/-- a built-in's method, the fragment named (for suites and a try's body, whose context names what the reading may not) -/
theorem pe_bmK {X : Cx} {K : PySem.W.Frag} {ex : PySem.Expr} {T : String} {r : V → List V → Hp → VK → Prop} {to : TE} {t : TA} (hK : X.K = K) (h : PE X ex (tBM X.K T r to t)) : PE X ex (tBM K T r to t) := hK ▸ h
end L2
namespace L2
open PySem
theorem room_suite {k j : Nat} {A A' : Around} (hr : Room k A) (h : j ≤ k) (e1 : A'.depth = A.depth) (e2 : A'.units = A.units) : L2H.RoomH j A' := ⟨by have := hr.dp; rw [e1]; omega, by have := hr.un; rw [e2]; omega⟩
end L2

namespace L2
open PySem PySem.Spec PyProof.Rows
/-! ### own objects where a built-in asks them: o[k], x in o, len(o), str(o), for x in o, C.m(..) of a staticmethod -/
section
variable {X : Cx} {CX : CXT} {k : Nat} {f C a dx : Addr} {fs : List (Str × V)} {fd : FuncData} {ps : List Str} {sp : Sp} {E : XK} {pins : List (Addr × Obj)} {σ : St} {H : Hp} {s : Shared} {Q : VK} {us : List Value} {vs : List V}
/-- a def's call from within a built-in -/
theorem run_sub {A1 : Around} (hf : A1.frames = some X.stack) (F : FnOk X.prog X.w X.K X.mg X.base CX k f fd ps sp) (hr : Room k A1) (hb : Binds X.K fd ps []) (hx : Passes CX X E) (I : Inv X pins σ H s) (r : Vals vs us) (h : sp vs H Q E) :
    wpAny (model X.prog X.w) A1 (call (.ref f) us) (EP X pins σ Q) X.xe s := by
  have hl : (us ++ []).length = ps.length := by rw [List.append_nil, ← r.length]; exact F.len _ _ _ _ h
  have e := I.env0
  have bt := hb s us I.kIn hl
  rw [List.append_nil] at bt
  refine wpAny_call (codeAny_mono (F.run A1 X.stack s H ⟨us, []⟩ us vs Q E hr ⟨hf, e.mod, e.bs, e.bsz, e.funs, e.frf, e.hok, e.bare⟩ bt r h) fun r s' hq => ?_)
  match r, hq with
  | .error e, hq => exact hx pins σ H s e s' I hq
  | .ok (.ret u), hq => exact I.after hq
theorem stack_of (I : Inv X pins σ H s) : X.A.frames = some X.stack := I.env0.frames
theorem inst_of (I : Inv X pins σ H s) (h : H a = some (.ins C dx fs)) : ∃ ox od, PySem.W.InstAt s.heap a ox C (some od) := by
  obtain ⟨mA, J, _⟩ := ins_get I.hok h
  obtain ⟨od, J, _⟩ := J.look
  exact ⟨_, od, J⟩
/-- o[k] by the class's own def -/
def rGetI (C : Addr) (sp : Sp) (E : XK) : R2 := fun x y H Q => ∃ a dx fs, x = .ref a ∧ H a = some (.ins C dx fs) ∧ sp [x, y] H Q E
theorem pe_getI {ea eb : Expr} {ta tb : TE} {pos : Pos} (m : Meth X.K C "__getitem__" f) (hfi : PySem.W.fnIn X.K f = true) (F : FnOk X.prog X.w X.K X.mg X.base CX k f fd ps sp) (hr : Room (k + 1) X.A) (hb : Binds X.K fd ps []) (hx : Passes CX X E)
    (ha : PE X ea ta) (hbe : PE X eb tb) (hsl : ∀ (x : Addr) (i : Value), subscripted eb true (.ref x) i = runValue (.builtin "lifetime.subscript" ⟨[.ref x, i], []⟩) := by intro _ _; with_unfolding_all rfl) : PE X (.Subscript ea eb pos) (tOp (rGetI C sp E) ta tb) := by
  refine ⟨fun pins s σ H Q I h => ?_⟩
  refine Subscript_ (binT ha hbe I h fun v u s2 x y H2 I2 rx ry q => ?_)
  obtain ⟨a, dx, fs, rfl, ho, q⟩ := q
  cases rx
  obtain ⟨ox, od, J⟩ := inst_of I2 ho
  obtain ⟨mf, hF⟩ := I2.fr
  exact PySem.W.sub_K hF I2.ok.mod.kin J m.at_ hfi m.fn (run_sub (A1 := X.A.in1) (us := [.ref a, u]) (vs := [.ref a, y]) (stack_of I2) F hr.in1 hb hx I2 (.cons rfl (.cons ry .nil)) q) (hsl a u)
/-- x in o, x not in o -/
def rInI (C : Addr) (sp : Sp) (E : XK) (neg : Bool) : R2 := fun x y H Q => ∃ a dx fs, y = .ref a ∧ H a = some (.ins C dx fs) ∧ sp [y, x] H (fun v H' => ∃ b : Bool, v = .bl b ∧ Q (.bl (if neg then !b else b)) H') E
theorem truth_bl {A : Around} {E' : Value → Shared → Prop} {b : Bool} {s : Shared} {Qb : Bool → Shared → Prop} (h : Qb b s) : wpAny (model X.prog X.w) A (truthy (.bool b)) Qb E' s := by
  unfold truthy
  exact wpAny_pure h
theorem op_inI (m : Meth X.K C "__contains__" f) (F : FnOk X.prog X.w X.K X.mg X.base CX k f fd ps sp) (hr : Room k X.A) (hb : Binds X.K fd ps []) (hx : Passes CX X E) : OpR X (compareOp .In) (rInI C sp E false) := by
  intro pins s σ H x y v u Q I rx ry h
  obtain ⟨a, dx, fs, rfl, ho, q⟩ := h
  cases ry
  obtain ⟨ox, od, J⟩ := inst_of I ho
  obtain ⟨mf, hF⟩ := I.fr
  refine PySem.W.in_K hF I.ok.mod.kin J m.at_ m.fn (thn (run_sub (us := [.ref a, v]) (vs := [.ref a, x]) (stack_of I) F hr hb hx I (.cons rfl (.cons rx .nil)) q) fun r s' z => ?_)
  obtain ⟨z1, H1, I1, r1, b, rfl, q1⟩ := z
  cases r1
  exact truth_bl ⟨.bl b, H1, I1, rfl, q1⟩
theorem op_ninI (m : Meth X.K C "__contains__" f) (F : FnOk X.prog X.w X.K X.mg X.base CX k f fd ps sp) (hr : Room k X.A) (hb : Binds X.K fd ps []) (hx : Passes CX X E) : OpR X (compareOp .NotIn) (rInI C sp E true) := by
  intro pins s σ H x y v u Q I rx ry h
  obtain ⟨a, dx, fs, rfl, ho, q⟩ := h
  cases ry
  obtain ⟨ox, od, J⟩ := inst_of I ho
  obtain ⟨mf, hF⟩ := I.fr
  refine PySem.W.notIn_K hF I.ok.mod.kin J m.at_ m.fn (thn (run_sub (us := [.ref a, v]) (vs := [.ref a, x]) (stack_of I) F hr hb hx I (.cons rfl (.cons rx .nil)) q) fun r s' z => ?_)
  obtain ⟨z1, H1, I1, r1, b, rfl, q1⟩ := z
  cases r1
  exact truth_bl ⟨.bl (!b), H1, I1, rfl, q1⟩
/-- len(o) -/
def rLenI (C : Addr) (sp : Sp) (E : XK) : List V → Hp → VK → Prop := fun xs H Q => ∃ a dx fs, xs = [.ref a] ∧ H a = some (.ins C dx fs) ∧ sp [.ref a] H (fun v H' => ∃ n : Int, v = .int n ∧ 0 ≤ n ∧ n < 2 ^ 63 ∧ Q (.int n) H') E
theorem call_lenI (m : Meth X.K C "__len__" f) (F : FnOk X.prog X.w X.K X.mg X.base CX k f fd ps sp) (hr : Room (k + 1) X.A) (hb : Binds X.K fd ps []) (hx : Passes CX X E) : CallR X (.builtin "len") (rLenI C sp E) := by
  intro pins s σ H xs us Q I r h
  obtain ⟨a, dx, fs, rfl, ho, q⟩ := h
  obtain ⟨u, rfl, ru⟩ := vals1 r
  cases ru
  obtain ⟨ox, od, J⟩ := inst_of I ho
  obtain ⟨mf, hF⟩ := I.fr
  refine PySem.W.len_K hF I.ok.mod.kin J m.at_ m.fn (thn (run_sub (A1 := X.A.in1) (us := [.ref a]) (vs := [.ref a]) (stack_of I) F hr.in1 hb hx I (.cons rfl .nil) q) fun r s' z => ?_)
  obtain ⟨z1, H1, I1, r1, n, rfl, h0, h1, q1⟩ := z
  obtain ⟨t, rfl⟩ := r1
  exact ⟨⟨h0, h1⟩, .int n, H1, I1.tok _, ⟨_, rfl⟩, q1⟩
/-- str(o) -/
def rStrI (C : Addr) (sp : Sp) (E : XK) : List V → Hp → VK → Prop := fun xs H Q => ∃ a dx fs, xs = [.ref a] ∧ H a = some (.ins C dx fs) ∧ sp [.ref a] H (fun v H' => ∃ z : Str, v = .str z ∧ Q (.str z) H') E
theorem call_strI (m : Meth X.K C "__str__" f) (F : FnOk X.prog X.w X.K X.mg X.base CX k f fd ps sp) (hr : Room (k + 2) X.A) (hb : Binds X.K fd ps []) (hx : Passes CX X E) : CallR X (.type "str") (rStrI C sp E) := by
  intro pins s σ H xs us Q I r h
  obtain ⟨a, dx, fs, rfl, ho, q⟩ := h
  obtain ⟨u, rfl, ru⟩ := vals1 r
  cases ru
  obtain ⟨ox, od, J⟩ := inst_of I ho
  have hr2 : Room k X.A.in1.in1 := hr.in1.in1
  refine PySem.W.kso_call hr2.units0 I.kIn J m.at_ m.fn (thn (run_sub (A1 := X.A.in1.in1) (us := [.ref a]) (vs := [.ref a]) (stack_of I) F hr2 hb hx I (.cons rfl .nil) q) fun r s' z => ?_)
  obtain ⟨z1, H1, I1, r1, y, rfl, q1⟩ := z
  obtain ⟨t, rfl⟩ := r1
  exact ⟨.str y, H1, I1, ⟨_, rfl⟩, q1⟩
end
/-! ### a staticmethod through its class -/
structure SMet (K : PySem.W.Frag) (C : Addr) (mc : Value) (m : Str) (p g : Addr) : Prop where
  at_ : PySem.W.findCls K (.ref C) mc m = some (.get (.builtin "staticmethod.__get__") (.ref p) .none (.ref C))
  rc : ∃ rest, PySem.W.recIn K p "staticmethod" = some (.ref g :: rest)
  kp : PySem.W.keepIn K (.ref g) = true
def tSMeth (C : Addr) (sp : Sp) (E : XK) (ta : TE) (t : TA) : TE := fun σ H Q => ta σ H fun x H1 => x = .ref C ∧ t σ H1 fun vs H2 => sp vs H2 Q E
section
variable {X : Cx} {CX : CXT} {k : Nat} {C p g : Addr} {mc : Value} {fd : FuncData} {ps : List Str} {sp : Sp} {E : XK} {o e : Expr} {es : List Expr} {m : Str} {pos apos : Pos} {ta : TE} {t : TA} {pl : Sem Bool}
theorem getsm_ok {pins : List (Addr × Obj)} {σ : St} {H : Hp} {s : Shared} {A : Around} {E' : Value → Shared → Prop} {Q : Value × List Value → Shared → Prop} (I : Inv X pins σ H s) (r : ClX.CRead X.K C mc) (c : SMet X.K C mc m p g)
    (h : ∀ s', Inv X pins σ H s' → Q (.ref g, []) s') : wpAny (model X.prog X.w) A (getMethod (.ref C) m pl) Q E' s := by
  obtain ⟨rest, hp⟩ := c.rc
  refine PySem.W.method_cls I.kIn r.ga (PySem.W.cls_bind I.kIn r.rd c.at_ (wpAny_call ?_))
  exact PySem.W.sm_get (s := { s with toks := s.toks + 1 }) I.kIn hp (PySem.W.handed_on rfl (h _ (I.tok _)))
theorem pe_smeth (he : PE X o ta) (r : ClX.CRead X.K C mc) (c : SMet X.K C mc m p g) (F : FnOk X.prog X.w X.K X.mg X.base CX k g fd ps sp) (hr : Room k X.A) (hb : Binds X.K fd ps []) (hx : Passes CX X E) (ha : PA X (e :: es) t)
    (hst : starEach (e :: es) X.env = (false, eval e X.env) :: starEach es X.env := by rfl) (hpl : (backTo pos (starEach es X.env)).any (·.1) = false := by rfl)
    (ht : eval (.Call (.Attribute o m apos) (e :: es) [] pos) X.env = (do
      let ov ← eval o X.env
      standAt apos.atName
      let (f, first) ← holding [ov] (getMethod ov m pl)
      callWith pos f first (backTo pos (starEach (e :: es) X.env)) (backToKw pos (keywordEach [] X.env))) := by rfl) :
    PE X (.Call (.Attribute o m apos) (e :: es) [] pos) (tSMeth C sp E ta t) := by
  refine ⟨fun pins s σ H Q I h => PySem.W.methodCall_KW (pl := pl) (thn (he.run pins s σ H _ I h) fun u s1 ⟨x, H1, I1, rx, ex, q⟩ => ?_) ht⟩
  subst ex
  obtain rfl : u = Value.ref C := rx
  refine getsm_ok I1 r c fun s2 I2 => ?_
  refine PySem.W.callWith_K (first := []) (h₀ := X.base) I.ok.mod.kin c.kp (thn (ha.run pos pins s2 σ H1 _ I2 q) fun us s3 ⟨vs, H2, I3, rv, q2⟩ => ⟨I3.kIn, ?_⟩) hst hpl
  exact run_sub (us := us) (vs := vs) (stack_of I3) F hr hb hx I3 rv q2
/-- the same in a try's body: the way out sees the slots -/
def tSMethW (C : Addr) (sp : Sp) (E : St → XK) (ta : TE) (t : TA) : TE := fun σ H Q => tSMeth C sp (E σ) ta t σ H Q
theorem pe_smethW {E : St → XK} (he : PE X o ta) (r : ClX.CRead X.K C mc) (c : SMet X.K C mc m p g) (F : FnOk X.prog X.w X.K X.mg X.base CX k g fd ps sp) (hr : Room k X.A) (hb : Binds X.K fd ps []) (hx : ∀ σ, PassesAt CX X σ (E σ)) (ha : PA X (e :: es) t)
    (hst : starEach (e :: es) X.env = (false, eval e X.env) :: starEach es X.env := by rfl) (hpl : (backTo pos (starEach es X.env)).any (·.1) = false := by rfl)
    (ht : eval (.Call (.Attribute o m apos) (e :: es) [] pos) X.env = (do
      let ov ← eval o X.env
      standAt apos.atName
      let (f, first) ← holding [ov] (getMethod ov m pl)
      callWith pos f first (backTo pos (starEach (e :: es) X.env)) (backToKw pos (keywordEach [] X.env))) := by rfl) :
    PE X (.Call (.Attribute o m apos) (e :: es) [] pos) (tSMethW C sp E ta t) := by
  refine ⟨fun pins s σ H Q I h => PySem.W.methodCall_KW (pl := pl) (thn (he.run pins s σ H _ I h) fun u s1 ⟨x, H1, I1, rx, ex, q⟩ => ?_) ht⟩
  subst ex
  obtain rfl : u = Value.ref C := rx
  refine getsm_ok I1 r c fun s2 I2 => ?_
  refine PySem.W.callWith_K (first := []) (h₀ := X.base) I.ok.mod.kin c.kp (thn (ha.run pos pins s2 σ H1 _ I2 q) fun us s3 ⟨vs, H2, I3, rv, q2⟩ => ⟨I3.kIn, ?_⟩) hst hpl
  exact run_fnSD (us := us) (vs := vs) F hr hb .nil (hx σ) I3 rv (by rw [List.append_nil]; exact q2)
end
end L2

namespace L2
open PySem PySem.Spec PyProof.Rows
/-! ### for x in o, o's __iter__ gives iter(o.f), f a list -/
section
variable {P : Program} {w : World} {K : PySem.W.Frag} {mg : Str → Option Value} {base : Heap} {x qual : Str} {st : Stmt} {f : Addr} {fd : FuncData} {N ps : List Str} {k : Nat}
/-- one call of a def, told from its state -/
theorem fn_here {A : Around} {outer : List Env} {s : Shared} {H : Hp} {us : List Value} {vs : List V} {Q : VK} {E : XK} (F : Fun K x qual st f fd) (S : FnScope N ps (defScope st)) (hb : Binds K fd ps []) (hr : Room (k + 1) A) (e0 : Env0 P w K mg base A outer s H)
    (r : Vals vs us) (hl : vs.length = ps.length)
    (body : ∀ cdv, Room k (A.deeper (envOfC qual (defScope st) s.heap.objs.size f cdv)) → ∃ t, PSs (cxOf CX0 P w K mg base N qual (defScope st) f cdv A outer s H E).nox (defBody st) t ∧ t { nx := fun _ H' => Q .non H', rt := Q } (start N vs) H) :
    codeAny (model P w) A (.call (.ref f) ⟨us, []⟩) (CR CX0 outer P w H s Q E) s := by
  obtain ⟨oc, od, kV, doc, pm, an, cdv, ct, osl, rfl, lk, hcd⟩ := F.ex
  have KX : K.In s.heap := PySem.W.Frag.In.keeps e0.mod.kin (fun b o q => (e0.bs b o q).1)
  have NL : s.heap.NoLimit := Heap.NoLimit.keeps e0.mod.nolimit (fun b o q => (e0.bs b o q).1)
  have lu : (us ++ []).length = ps.length := by rw [List.append_nil, ← r.length, hl]
  have bt := hb s us KX lu
  rw [List.append_nil] at bt
  obtain ⟨t, ht, hq⟩ := body cdv (hr.deeper _)
  refine codeAny_call_function hr.depth (KX _ _ lk) rfl S.co S.gen rfl (PySem.W.codeRec_of KX hcd) (bt _ _ _ _ (wpAny_newFunctionEnv_cells S.kind ?_ ?_))
  · intro y hy
    have m := (List.of_mem_zip (a := y.1) (b := y.2) hy).1
    exact (S.par y.1 m).elim .inl fun z => .inr ⟨z, PySem.W.cellsFrom_some _ _ _ (.inl z)⟩
  · intro env he s1 ic
    subst he
    have I : Inv (cxOf CX0 P w K mg base N qual (defScope st) f cdv A outer s H E) [] (start N vs) H s1 := inv_start S hr.hd e0 hl r ic
    refine ⟨NL.keeps ic.toInCall.keep, codeAny_func (wpAny_mono (ht.nox.run [] s1 (start N vs) H _ I hq) (fun fl s' z => ?_) fun _ _ z => z)⟩
    match fl, z with
    | .ret u, ⟨v, _, H', J, rv, q⟩ => exact ⟨v, H', J.os, J.bare, J.base, J.hok, rv, q⟩
    | .next, ⟨_, H', J, q⟩ => exact ⟨V.non, H', J.os, J.bare, J.base, J.hok, rfl, q⟩
    | .brk, ⟨_, _, _, q⟩ => exact q.elim
    | .cont, ⟨_, _, _, q⟩ => exact q.elim
/-- what such an __iter__ promises: a new iterator of the list, younger than the call -/
def IterOk (P : Program) (w : World) (K : PySem.W.Frag) (mg : Str → Option Value) (base : Heap) (k : Nat) (g C : Addr) (fl : Str) : Prop :=
  ∀ (A : Around) (outer : List Env) (s : Shared) (H : Hp) (a dx l : Addr) (fs : List (Str × V)) (xs : List V) (Q : VK) (E : XK), Room k A → Env0 P w K mg base A outer s H → H a = some (.ins C dx fs) → fs.lookup fl = some (.ref l) → SqL K H l xs →
    (∀ it, H it = none → s.heap.objs.size ≤ it → Q (.ref it) (upd H it (ItO l it 0))) → codeAny (model P w) A (.call (.ref g) ⟨[.ref a], []⟩) (CR CX0 outer P w H s Q E) s
end
def iOwn (K : PySem.W.Frag) (C : Addr) (f : Str) (tl : TE) : TI := fun σ H R => tl σ H fun x H1 => ∃ (a dx l : Addr) (fs : List (Str × V)) (xs : List V), x = .ref a ∧ H1 a = some (.ins C dx fs) ∧ fs.lookup f = some (.ref l) ∧ SqL K H1 l xs ∧ R (Itl K l) H1
section
variable {X : Cx} {tg o : Expr} {tl : TE} {k : Nat} {g C : Addr} {fl : Str}
theorem pi_own (m : Meth X.K C "__iter__" g) (F : IterOk X.prog X.w X.K X.mg X.base k g C fl) (hr : Room k X.A) (ho : PE X o tl) : PI X tg o (iOwn X.K C fl tl) := by
  refine ⟨fun pins s σ H R I h => thn (ho.run pins s σ H _ I h) fun v s1 ⟨x, H1, I1, r1, a, dx, l, fs, xs, ex, ha, hf, hq, q⟩ => ?_⟩
  subst ex
  cases r1
  obtain ⟨ox, od, J⟩ := inst_of I1 ha
  obtain ⟨mf, hF⟩ := I1.fr
  refine PySem.W.owit_iter hF I1.ok.mod.kin J m.at_ m.fn (wpAny_call (codeAny_mono (F X.A X.stack s1 H1 a dx l fs xs (fun v H2 => ∃ it, v = .ref it ∧ H1 it = none ∧ s1.heap.objs.size ≤ it ∧ H2 = upd H1 it (ItO l it 0)) E0 hr I1.env0 ha hf hq fun it n1 n2 => ⟨it, rfl, n1, n2, rfl⟩) fun r s' z => ?_))
  match r, z with
  | .error _, z => exact z.elim
  | .ok (.ret u), z =>
    obtain ⟨v2, H2, I2, r2, it, rfl, n1, n2, rfl⟩ := I1.after z
    cases r2
    have eo := itO_get I2 upd_same
    have hT : s'.TypeIs (.ref it) "list_iterator" := ⟨_, eo, rfl⟩
    have I3 := ItX.inv_drop I2 (a := it) (by rw [upd_same]; rfl)
    rw [ItX.dropH_upd n1] at I3
    refine wpAny_specialOf (name := Str.ofString "__next__") hT slot_listiter_next.lookup ?_
    refine ⟨it, [it], _, _, H1, rfl, I3, turn_list l it, ⟨_, eo, rfl, rfl⟩, fun b hb => ?_, q⟩
    obtain rfl : b = it := by simpa using hb
    exact I1.fpOk n2 n1
end
end L2

namespace L2
open PySem PySem.Spec PyProof.Rows
/-! ### defs with *rest, instances made by C(), C(*a), C(*a, *b) -/
/-- what a def with ps and *pv binds -/
def StarB (fd : FuncData) (ps : List Str) (pv : Str) : Prop := ∀ us rest : List Value, us.length = ps.length → bindArgs fd ⟨us ++ rest, []⟩ = (newTuple rest >>= fun t => pure (ps.zip us ++ [(pv, t)]))
/-- its promise: from that of its body, the rest as a new tuple -/
def spStar (n : Nat) (sp : Sp) : Sp := fun vs H Q E => ∃ ws rest, vs = ws ++ rest ∧ ws.length = n ∧ rest.length ≤ sizeLine ∧ ∀ p, H p = none → sp (ws ++ [V.ref p]) (upd H p (.tup rest)) Q E
section
variable {P : Program} {w : World} {K : PySem.W.Frag} {mg : Str → Option Value} {base : Heap} {x qual : Str} {st : Stmt} {f : Addr} {fd : FuncData} {N ps : List Str} {pv : Str} {k : Nat} {sp : Sp}
theorem Fun.starX (F : Fun K x qual st f fd) (S : FnScope N (ps ++ [pv]) (defScope st)) (hb : StarB fd ps pv)
    (body : ∀ (cdv : Value) (A : Around) (outer : List Env) (s : Shared) (H : Hp) (vs : List V) (Q : VK) (E : XK), Room k (A.deeper (envOfC qual (defScope st) s.heap.objs.size f cdv)) → sp vs H Q E →
      ∃ t, PSs (cxOf (L2.CX P w) P w K mg base N qual (defScope st) f cdv A outer s H E) (defBody st) t ∧ t { nx := fun _ H' => Q .non H', rt := Q } (start N vs) H) : FnR P w K mg base (L2.CX P w) (k + 1) f (spStar ps.length sp) := by
  obtain ⟨oc, od, kV, doc, pm, an, cdv, ct, osl, rfl, lk, hcd⟩ := F.ex
  exact StX.fn_star lk hcd S StX.cxUp hb fun A outer s H vs Q E hr h => body cdv A outer s H vs Q E hr h
theorem FnR.calm (F : FnR P w K mg base (L2.CX P w) k f sp) : FnR P w K mg base CX0 k f (fun vs H Q _ => sp vs H Q fun _ _ _ => False) := fun A outer s H us vs Q _ hr e0 r h =>
  codeAny_mono (F A outer s H us vs Q _ hr e0 r h) fun r s' hq => by
    match r, hq with
    | .error _, ⟨_, _, _, _, _, _, _, _, _, _, _, _, z⟩ => exact z.elim
    | .ok (.ret _), hq => exact hq
end
/-- two starred arguments -/
theorem evalArgs_two {M : Model} {A : Around} {E : Value → Shared → Prop} {s : Shared} {f : Value} {a b : Bool × Sem Value} {rest : List (Bool × Sem Value)} {Q : Args → Shared → Prop} (h : wpAny M A (spliced (a :: b :: rest)) (fun vs s' => Q ⟨vs, []⟩ s') E s) : wpAny M A (evalArgs f true (a :: b :: rest) []) Q E s := by
  obtain ⟨a1, a2⟩ := a
  unfold evalArgs
  cases a1
  · show wpAny M A (spliced ((false, a2) :: b :: rest) >>= _) Q E s
    exact wpAny_bind (wpAny_mono h (fun vs s' q => wpAny_holding (wpAny_bind (wpAny_pure (wpAny_bind (wpAny_pure (wpAny_pure q)))))) fun _ _ z => z)
  · show wpAny M A (spliced ((true, a2) :: b :: rest) >>= _) Q E s
    exact wpAny_bind (wpAny_mono h (fun vs s' q => wpAny_holding (wpAny_bind (wpAny_pure (wpAny_bind (wpAny_pure (wpAny_pure q)))))) fun _ _ z => z)
section
variable {X : Cx} {CX : CXT} {k : Nat} {f C : Addr} {sp : Sp} {E : XK} {x : Str} {e e1 e2 : Expr} {es : List Expr} {te : TE} {t : TA} {p q1 q2 pos : Pos}
theorem pe_makeR0 (M : Mk X.K C f) (F : FnR X.prog X.w X.K X.mg X.base CX k f sp) (hr : Room (k + 1) X.A) (hg : Gl X x) (hm : X.mg x = some (.ref C)) (hx : Passes CX X E) (hdb : (x == ("__debug__" : Str)) = false := by decide) :
    PE X (.Call (.Name x p) [] [] pos) (StX.tMakeR C sp E tNil) := by
  refine ⟨fun pins s σ H Q I h => wpAny_Call_Name_kw (ld_glob I hg hm ?_ hdb)⟩
  exact PySem.W.callWith_K0 I.kIn M.kp (StX.run_makeR (us := []) (vs := []) M F hr hx I .nil h)
/-- C(*e): the reading -/
def tMakeS (K : PySem.W.Frag) (C : Addr) (sp : Sp) (E : XK) (te : TE) : TE := fun σ H Q => te σ H fun y H1 => ∃ a xs, y = V.ref a ∧ (SqT K H1 a xs ∨ SqL K H1 a xs) ∧ ∀ x dx, H1 x = none → H1 dx = none → dx ≠ x → sp (V.ref x :: xs) (upd (upd H1 dx (.own x)) x (.ins C dx [])) (fun v H2 => v = .non ∧ Q (.ref x) H2) E
theorem pe_makeS1 (M : Mk X.K C f) (F : FnR X.prog X.w X.K X.mg X.base CX k f sp) (hr : Room (k + 1) X.A) (hg : Gl X x) (hm : X.mg x = some (.ref C)) (hx : Passes CX X E) (he : PE X e te) (hdb : (x == ("__debug__" : Str)) = false := by decide)
    (hst : starEach [.Starred e q1] X.env = [(true, eval e X.env)] := by rfl) : PE X (.Call (.Name x p) [.Starred e q1] [] pos) (tMakeS X.K C sp E te) := by
  refine ⟨fun pins s σ H Q I h => wpAny_Call_Name_kw (ld_glob I hg hm (PySem.W.callWith_S (h₀ := X.base) I.ok.mod.kin M.kp (thn (he.run pins s σ H _ I h) fun v s1 ⟨y, H1, I1, ry, a, xs, ey, hxs, q⟩ => ?_) hst) hdb)⟩
  subst ey
  cases ry
  exact StX.star_any I1 hxs fun us s2 I2 rv => ⟨I2.kIn, StX.run_makeR (us := us) (vs := xs) M F hr hx I2 rv q⟩
/-- C(*a, *b) -/
theorem pe_makeS2 (M : Mk X.K C f) (F : FnR X.prog X.w X.K X.mg X.base CX k f sp) (hr : Room (k + 1) X.A) (hg : Gl X x) (hm : X.mg x = some (.ref C)) (hx : Passes CX X E) (ha : PA X [.Starred e1 q1, .Starred e2 q2] t) (hdb : (x == ("__debug__" : Str)) = false := by decide)
    (hst : starEach [.Starred e1 q1, .Starred e2 q2] X.env = [(true, eval e1 X.env), (true, eval e2 X.env)] := by rfl) : PE X (.Call (.Name x p) [.Starred e1 q1, .Starred e2 q2] [] pos) (StX.tMakeR C sp E t) := by
  refine ⟨fun pins s σ H Q I h => wpAny_Call_Name_kw (ld_glob I hg hm ?_ hdb)⟩
  have z := thn (ha.run pos pins s σ H _ I h) (Q' := fun us s1 => X.K.In s1.heap ∧ wpAny (model X.prog X.w) X.A (call (.ref C) ([] ++ us)) (EP X pins σ Q) X.xe s1) fun us s1 ⟨vs, H1, I1, r, q⟩ => ⟨I1.kIn, StX.run_makeR (us := us) (vs := vs) M F hr hx I1 r q⟩
  show wpAny _ _ (callWith pos (.ref C) [] (backTo pos (starEach [.Starred e1 q1, .Starred e2 q2] X.env)) []) _ _ _
  rw [hst] at z ⊢
  exact PySem.W.ks_call rfl (PySem.W.keeps_K M.kp) (evalArgs_two z)
end
/-! ### o + y by the class's own def, y an instance of the class, a list or a tuple -/
def Opd (K : PySem.W.Frag) (C : Addr) (H : Hp) (y : V) : Prop := (∃ b dy gs, y = .ref b ∧ H b = some (.ins C dy gs)) ∨ ∃ b xs, y = .ref b ∧ (SqL K H b xs ∨ SqT K H b xs)
def rOpI (K : PySem.W.Frag) (C : Addr) (sp : Sp) (E : XK) : R2 := fun x y H Q => ∃ a dx fs, x = .ref a ∧ H a = some (.ins C dx fs) ∧ Opd K C H y ∧ sp [x, y] H Q E
/-- what the top must have: the two defs, and of lists and tuples -/
structure OpF (K : PySem.W.Frag) (C : Addr) (nm : String) (g : Addr) : Prop where
  first : PySem.W.selfFirst K C = true
  at_ : PySem.W.findIn K (.ref C) (PySem.dunder nm) = some (some (.ref g))
  fn : PySem.W.isFn K (.ref g) = true
  rev : ∃ rc, PySem.W.findIn K (.ref C) (PySem.dunderR nm) = some rc ∧ (rc = none ∨ ∃ h : Addr, rc = some (.ref h))
  lst : ∃ fo ro, PySem.W.findIn K (.type "list") (PySem.dunder nm) = some fo ∧ PySem.W.findIn K (.type "list") (PySem.dunderR nm) = some ro ∧ PySem.W.subIn K (.type "list") (.ref C) = some false
  tup : ∃ fo ro, PySem.W.findIn K (.type "tuple") (PySem.dunder nm) = some fo ∧ PySem.W.findIn K (.type "tuple") (PySem.dunderR nm) = some ro ∧ PySem.W.subIn K (.type "tuple") (.ref C) = some false
section
variable {prog : Program} {w : World} {A : Around} {E : Value → Shared → Prop} {s : Shared} {K : PySem.W.Frag} {x C L f : Addr} {h₀ : Heap} {m : Str → Option Value} {ox : Obj} {od : Option Obj} {T : String}
/-- the library's row for an operand of a built-in type, told of what a look at its type gives -/
theorem binL {op : Operator} {b : Value} {fo ro rc : Option Value} {Q : Value → Shared → Prop} (F : Fr h₀ L s.heap m) (X₀ : K.In h₀) (I : PySem.W.InstAt s.heap x ox C od) (hb : PySem.W.Looks (model prog w) s.heap (typeOf b) (.type T)) (hc : PySem.W.selfFirst K C = true)
    (hs : PySem.W.findIn K (.ref C) (PySem.dunder op.info.2) = some (some (.ref f))) (hf : PySem.W.isFn K (.ref f) = true) (hr : PySem.W.findIn K (.ref C) (dunderR op.info.2) = some rc) (hp : rc = none ∨ ∃ g : Addr, rc = some (.ref g))
    (h1 : PySem.W.findIn K (.type T) (PySem.dunder op.info.2) = some fo) (h2 : PySem.W.findIn K (.type T) (dunderR op.info.2) = some ro) (hsub : PySem.W.subIn K (.type T) (.ref C) = some false)
    (h : wpAny (model prog w) A (call (.ref f) [.ref x, b]) (PySem.W.CmpBack Q) E s) : wpAny (model prog w) A (binaryOp op (.ref x) b) Q E s := by
  have X := X₀.keeps F.keep
  obtain ⟨cd, rest, hcd, hm⟩ := PySem.W.ksp_first hc
  rcases hi : op.info with ⟨sym, nm'⟩
  rw [hi] at hs hr h1 h2; dsimp only at hs hr h1 h2
  have one := PySem.W.ksp_try X I hs hf h
  obtain ⟨hh, gg, dd, tt, os⟩ := s
  have La := I.type (M := model prog w)
  have Lc := PySem.W.fills_K (M := model prog w) X hcd hm hs
  have Ld := PySem.W.ksp_fillsT (M := model prog w) X h1 h2
  have Le : PySem.W.Looks (model prog w) hh (isSubtype (.type T) (.ref C)) false := PySem.W.looks_subIn X hsub
  have Lf := PySem.W.ksp_inPy (M := model prog w) X hs hr hp
  have Lg : PySem.W.Looks (model prog w) hh (numberSlotInPython (.type T) nm') false := PySem.W.Looks.of_pure rfl
  have Lh : PySem.W.Looks (model prog w) hh (typeLookup (.type T) (dunderR nm')) ro := PySem.W.looks_findIn X h2
  revert Ld
  generalize ((fo.isSome && !isSeqSlot fo) || (ro.isSome && !isSeqSlot ro)) = right
  intro Ld
  have hne : (Value.ref C == Value.type T) = false := Bool.eq_false_iff.mpr fun q => by cases beq_iff_eq.mp q
  simp only [binaryOp, hi]
  refine wpAny_holding (wpAny_bind ?_)
  unfold binaryOp1
  refine wpAny_bind (La.at (wpAny_bind (hb.at (wpAny_bind (Lc.at ?_)))))
  simp only [hne, Bool.false_eq_true, if_false]
  cases right <;> (ksp_lk; refine wpAny_mono one (fun r s' hr' => ?_) (fun _ _ e => e); obtain ⟨v, rfl, hq⟩ := hr'; ksp_lk; exact hq)
end
section
variable {X : Cx} {CX : CXT} {n : Nat} {C g : Addr} {fd : FuncData} {ps : List Str} {sp : Sp} {E : XK}
theorem op_binO {op : Operator} (T : OpF X.K C op.info.2 g) (F : FnOk X.prog X.w X.K X.mg X.base CX n g fd ps sp) (hr : Room n X.A) (hb : Binds X.K fd ps []) (hx : Passes CX X E) : OpR X (binaryOp op) (rOpI X.K C sp E) := by
  intro pins s σ H x y v u Q I rx ry h
  obtain ⟨a, dx, fs, rfl, ho, hy, q⟩ := h
  cases rx
  obtain ⟨ox, od, J⟩ := inst_of I ho
  obtain ⟨mf, hF⟩ := I.fr
  have go := thn (run_sub (us := [.ref a, u]) (vs := [.ref a, y]) (stack_of I) F hr hb hx I (.cons rfl (.cons ry .nil)) q) (Q' := PySem.W.CmpBack (EP X pins σ Q)) fun w s' ⟨z', H', I', rz, qz⟩ => SlX.cmpback rz ⟨z', H', I', rz, qz⟩
  rcases hy with ⟨b, dy, gs, rfl, hb'⟩ | ⟨b, xs, rfl, hq⟩
  · cases ry
    obtain ⟨oy, od', J'⟩ := inst_of I hb'
    exact PySem.W.binop_K (op := op) hF I.ok.mod.kin J J'.type T.first T.at_ T.fn go
  · cases ry
    obtain ⟨rc, r1, r2⟩ := T.rev
    rcases hq with hq | hq
    · obtain ⟨fo, ro, t1, t2, t3⟩ := T.lst
      obtain ⟨its, rv, pl, hz⟩ := I.list hq
      obtain ⟨o, ho, hc, _⟩ := pl.isList
      exact binL hF I.ok.mod.kin J (fun A Q E s k z => wpAny_typeOf_ref (k _ _ ho) (by rw [hc]; exact z)) T.first T.at_ T.fn r1 r2 t1 t2 t3 go
    · obtain ⟨fo, ro, t1, t2, t3⟩ := T.tup
      obtain ⟨its, rv, ⟨o, ho, hc, _⟩, hz⟩ := I.tuple hq
      exact binL hF I.ok.mod.kin J (fun A Q E s k z => wpAny_typeOf_ref (k _ _ ho) (by rw [hc]; exact z)) T.first T.at_ T.fn r1 r2 t1 t2 t3 go
end
end L2

namespace L2
open PySem PySem.Spec PyProof.Rows
/-! ### o[k] by the class's own def, in a try's body -/
section
variable {X : Cx} {CX : CXT} {k : Nat} {f C a dx : Addr} {fs : List (Str × V)} {fd : FuncData} {ps : List Str} {sp : Sp} {pins : List (Addr × Obj)} {σ : St} {H : Hp} {s : Shared} {Q : VK} {us : List Value} {vs : List V}
theorem run_subW {E : XK} {A1 : Around} (hf : A1.frames = some X.stack) (F : FnOk X.prog X.w X.K X.mg X.base CX k f fd ps sp) (hr : Room k A1) (hb : Binds X.K fd ps []) (hx : PassesAt CX X σ E) (I : Inv X pins σ H s) (r : Vals vs us) (h : sp vs H Q E) :
    wpAny (model X.prog X.w) A1 (call (.ref f) us) (EP X pins σ Q) X.xe s := by
  have hl : (us ++ []).length = ps.length := by rw [List.append_nil, ← r.length]; exact F.len _ _ _ _ h
  have e := I.env0
  have bt := hb s us I.kIn hl
  rw [List.append_nil] at bt
  refine wpAny_call (codeAny_mono (F.run A1 X.stack s H ⟨us, []⟩ us vs Q E hr ⟨hf, e.mod, e.bs, e.bsz, e.funs, e.frf, e.hok, e.bare⟩ bt r h) fun r s' hq => ?_)
  match r, hq with
  | .error e, hq => exact hx pins H s e s' I hq
  | .ok (.ret u), hq => exact I.after hq
def tGetIW (C : Addr) (sp : Sp) (E : St → XK) (ta tb : TE) : TE := fun σ H Q => tOp (rGetI C sp (E σ)) ta tb σ H Q
theorem pe_getIW {E : St → XK} {ea eb : Expr} {ta tb : TE} {pos : Pos} (m : Meth X.K C "__getitem__" f) (hfi : PySem.W.fnIn X.K f = true) (F : FnOk X.prog X.w X.K X.mg X.base CX k f fd ps sp) (hr : Room (k + 1) X.A) (hb : Binds X.K fd ps []) (hx : ∀ σ, PassesAt CX X σ (E σ))
    (ha : PE X ea ta) (hbe : PE X eb tb) (hsl : ∀ (x : Addr) (i : Value), subscripted eb true (.ref x) i = runValue (.builtin "lifetime.subscript" ⟨[.ref x, i], []⟩) := by intro _ _; with_unfolding_all rfl) : PE X (.Subscript ea eb pos) (tGetIW C sp E ta tb) := by
  refine ⟨fun pins s σ H Q I h => ?_⟩
  refine Subscript_ (binT ha hbe I h fun v u s2 x y H2 I2 rx ry q => ?_)
  obtain ⟨a, dx, fs, rfl, ho, q⟩ := q
  cases rx
  obtain ⟨ox, od, J⟩ := inst_of I2 ho
  obtain ⟨mf, hF⟩ := I2.fr
  exact PySem.W.sub_K hF I2.ok.mod.kin J m.at_ hfi m.fn (run_subW (A1 := X.A.in1) (us := [.ref a, u]) (vs := [.ref a, y]) (stack_of I2) F hr.in1 hb (hx σ) I2 (.cons rfl (.cons ry .nil)) q) (hsl a u)
end
end L2
namespace L2
open PySem PySem.Spec PyProof.Rows
/-! ### a try within a loop: its reading by a name -/
def tTryAs (K : PySem.W.Frag) (c : Value) (i : Nat) (tb : WX → TS) (ts : Addr → Value → Option Addr → TS) (Wout : WX) : TS := fun D σ H => tb (wAs K c i ts Wout D) D σ H
section
variable {X : Cx} {x n : Str} {c : Value} {i : Nat} {body suite : List Stmt} {b₀ : Stmt} {np pos pos' : Pos} {tb : WX → TS} {ts : Addr → Value → Option Addr → TS} {Wout : WX}
theorem ps_tryL (hs : X.stack = X.env :: X.outer) (hf : X.env.frame = some X.env.locals) (hN : X.N.Nodup) (hi : X.N[i]? = some n) (hln : X.env.kindOf n = some .local) (hc : Names X x c) (tk : Takes X Wout)
    (hb : ∀ (W : WX) (pn : List (Addr × Obj)) (xe : Value → Shared → Prop), Takes (X.tr pn xe) W → PassesOwn (model X.prog X.w) X.A X.env xe → PSs (X.tr pn xe) body (tb W))
    (hsu : ∀ (a : Addr) (oe : Obj) (cls : Value) (d : Option Addr) (pn : List (Addr × Obj)), Zc cls d oe → (∃ vs, oe.data = .fields vs) → PSs (X.suite a ((a, oe) :: pn)) (b₀ :: suite) (ts a cls d)) :
    PS X (.Try body [.ExceptHandler (some (.Name x np)) (some n) (b₀ :: suite) pos'] [] [] pos) (tTryAs X.K c i tb ts Wout) := ps_try_as hs hf hN hi hln hc tk hb hsu
end
end L2

namespace L2
open PySem PySem.Spec PyProof.Rows
section
variable {prog : Program} {w : World} {A : Around} {E : Value → Shared → Prop} {s : Shared} {K : PySem.W.Frag} {x C L f f0 : Addr} {h₀ : Heap} {m : Str → Option Value} {ox : Obj} {od : Option Obj} {T : String}
/-- a + o, a of a built-in type that fills no number slot: o's own reflected def -/
theorem binR {op : Operator} {a : Value} {fo ro : Option Value} {Q : Value → Shared → Prop} (F : Fr h₀ L s.heap m) (X₀ : K.In h₀) (I : PySem.W.InstAt s.heap x ox C od) (ha : PySem.W.Looks (model prog w) s.heap (typeOf a) (.type T)) (hc : PySem.W.selfFirst K C = true)
    (hs : PySem.W.findIn K (.ref C) (PySem.dunder op.info.2) = some (some (.ref f0))) (hr : PySem.W.findIn K (.ref C) (dunderR op.info.2) = some (some (.ref f))) (hf : PySem.W.isFn K (.ref f) = true)
    (h1 : PySem.W.findIn K (.type T) (PySem.dunder op.info.2) = some fo) (h2 : PySem.W.findIn K (.type T) (dunderR op.info.2) = some ro) (hl : ((fo.isSome && !isSeqSlot fo) || (ro.isSome && !isSeqSlot ro)) = false)
    (h : wpAny (model prog w) A (call (.ref f) [.ref x, a]) (PySem.W.CmpBack Q) E s) : wpAny (model prog w) A (binaryOp op a (.ref x)) Q E s := by
  have X := X₀.keeps F.keep
  obtain ⟨cd, rest, hcd, hm⟩ := PySem.W.ksp_first hc
  rcases hi : op.info with ⟨sym, nm'⟩
  rw [hi] at hs hr h1 h2; dsimp only at hs hr h1 h2
  have one := PySem.W.ksp_try X I hr hf h
  obtain ⟨hh, gg, dd, tt, os⟩ := s
  have La := I.type (M := model prog w)
  have Lc := PySem.W.fills_K (M := model prog w) X hcd hm hs
  have Ld := PySem.W.ksp_fillsT (M := model prog w) X h1 h2
  rw [hl] at Ld
  have hne : (Value.type T == Value.ref C) = false := Bool.eq_false_iff.mpr fun q => by cases beq_iff_eq.mp q
  simp only [binaryOp, hi]
  refine wpAny_holding (wpAny_bind ?_)
  unfold binaryOp1
  refine wpAny_bind (ha.at (wpAny_bind (La.at (wpAny_bind (Ld.at ?_)))))
  simp only [hne, Bool.false_eq_true, if_false]
  ksp_lk
  refine wpAny_mono one (fun r s' hr' => ?_) (fun _ _ e => e)
  obtain ⟨v, rfl, hq⟩ := hr'
  ksp_lk
  exact hq
end
/-- what list and tuple look like to + -/
structure SeqAdd (K : PySem.W.Frag) : Prop where
  la : PySem.W.findIn K (.type "list") "__add__" = some (some (.builtin "list.__add__"))
  lr : PySem.W.findIn K (.type "list") "__radd__" = some none
  ta : PySem.W.findIn K (.type "tuple") "__add__" = some (some (.builtin "tuple.__add__"))
  tr : PySem.W.findIn K (.type "tuple") "__radd__" = some none
def rOpR (K : PySem.W.Frag) (C : Addr) (sp : Sp) (E : XK) : R2 := fun x y H Q => ∃ b dy gs p xs, y = .ref b ∧ H b = some (.ins C dy gs) ∧ x = .ref p ∧ (SqL K H p xs ∨ SqT K H p xs) ∧ sp [y, x] H Q E
def ipOwn (C : Addr) (sp : Sp) (E : XK) : TIp := fun x y H Q => ∃ a dx fs, x = .ref a ∧ H a = some (.ins C dx fs) ∧ sp [x, y] H Q E
section
variable {X : Cx} {CX : CXT} {n : Nat} {C g g0 : Addr} {fd : FuncData} {ps : List Str} {sp : Sp} {E : XK}
theorem op_radd (S : SeqAdd X.K) (hc : PySem.W.selfFirst X.K C = true) (m0 : Meth X.K C "__add__" g0) (m : Meth X.K C "__radd__" g) (F : FnOk X.prog X.w X.K X.mg X.base CX n g fd ps sp) (hr : Room n X.A) (hb : Binds X.K fd ps []) (hx : Passes CX X E) : OpR X (binaryOp .Add) (rOpR X.K C sp E) := by
  intro pins s σ H x y v u Q I rx ry h
  obtain ⟨b, dy, gs, p, xs, rfl, ho, rfl, hq, q⟩ := h
  cases ry
  cases rx
  obtain ⟨ox, od, J⟩ := inst_of I ho
  obtain ⟨mf, hF⟩ := I.fr
  have go := thn (run_sub (us := [.ref b, .ref p]) (vs := [.ref b, .ref p]) (stack_of I) F hr hb hx I (.cons rfl (.cons rfl .nil)) q) (Q' := PySem.W.CmpBack (EP X pins σ Q)) fun w s' ⟨z', H', I', rz, qz⟩ => SlX.cmpback rz ⟨z', H', I', rz, qz⟩
  rcases hq with hq | hq
  · obtain ⟨its, rv, pl, hz⟩ := I.list hq
    obtain ⟨o, ho, hc', _⟩ := pl.isList
    exact binR (op := .Add) hF I.ok.mod.kin J (fun A Q E s k z => wpAny_typeOf_ref (k _ _ ho) (by rw [hc']; exact z)) hc m0.at_ m.at_ m.fn S.la S.lr (by decide +kernel) go
  · obtain ⟨its, rv, ⟨o, ho, hc', _⟩, hz⟩ := I.tuple hq
    exact binR (op := .Add) hF I.ok.mod.kin J (fun A Q E s k z => wpAny_typeOf_ref (k _ _ ho) (by rw [hc']; exact z)) hc m0.at_ m.at_ m.fn S.ta S.tr (by decide +kernel) go
theorem ip_own (hc : PySem.W.selfFirst X.K C = true) (m : Meth X.K C "__iadd__" g) (F : FnOk X.prog X.w X.K X.mg X.base CX n g fd ps sp) (hr : Room n X.A) (hb : Binds X.K fd ps []) (hx : Passes CX X E) : PIp X .Add (ipOwn C sp E) := by
  intro pins s σ H x y v u Q I rx ry h
  obtain ⟨a, dx, fs, rfl, ho, q⟩ := h
  cases rx
  obtain ⟨ox, od, J⟩ := inst_of I ho
  obtain ⟨mf, hF⟩ := I.fr
  have go := thn (run_sub (us := [.ref a, u]) (vs := [.ref a, y]) (stack_of I) F hr hb hx I (.cons rfl (.cons ry .nil)) q) (Q' := PySem.W.CmpBack (EP X pins σ Q)) fun w s' ⟨z', H', I', rz, qz⟩ => SlX.cmpback rz ⟨z', H', I', rz, qz⟩
  exact PySem.W.ksp_inplace (op := .Add) hF I.ok.mod.kin J hc m.at_ m.fn go
end
end L2

namespace L2
open PySem PySem.Spec PyProof.Rows
/-! ### an own error whose class has no __init__ of its own: C('text'); in an except suite isinstance(e, c) -/
structure Exc0 (K : PySem.W.Frag) (mg : Str → Option Value) (cn : Str) (C : Addr) : Prop where
  gC : mg cn = some (.ref C)
  q : PySem.W.excIn K C [.type "ValueError", .type "Exception", .type "BaseException", .type "object"] "ValueError.__new__" = true
  kC : PySem.W.keepIn K (.ref C) = true
  exC : PySem.W.subIn K (.ref C) (.type "BaseException") = some true
  tyC : PySem.W.typeIn K (.ref C) = some (.type "type")
def tRaise0 (C : Addr) (W : WX) : TS := fun _ σ H => W (.ref C) none σ H
theorem ps_raise0 {X : Cx} {cn m : Str} {C : Addr} {W : WX} {j : Nat} {p p2 pos pos2 : Pos} (hc : X.calm = true) (T : Exc0 X.K X.mg cn C) (tk : Takes X W) (hg : Gl X cn := by rfl) (hdb : (cn == ("__debug__" : Str)) = false := by decide) :
    PS X (.Raise (some (.Call (.Name cn p) [.Constant (.str m) j p2] [] pos)) none pos2) (tRaise0 C W) := ps_raise hc tk (pmk_own PySem.F.excBase_ValueError T.q T.gC T.kC (raises_own T.exC T.tyC) hg hdb)
def rIs0 (K : PySem.W.Frag) (a : Addr) (cls : Value) (d : Option Addr) : List V → Hp → VK → Prop := fun xs H Q => ∃ (D : Addr) (c : V) (cv : Value) (b : Bool), cls = .ref D ∧ d = none ∧ XC K D ∧ xs = [.ref a, c] ∧ ClsV c cv ∧ PySem.W.kitOne K (.ref D) cv = some b ∧ Q (.bl b) H
theorem call_is0 {X : Cx} {a : Addr} {oe : Obj} {cls : Value} {d : Option Addr} {pn : List (Addr × Obj)} (hz : Zc cls d oe) (hf : ∃ vs, oe.data = .fields vs) : CallR (X.suite a ((a, oe) :: pn)) (.builtin "isinstance") (rIs0 X.K a cls d) := by
  intro pins s σ H xs us Q I r h
  obtain ⟨D, c, cv, b, rfl, rfl, C, rfl, hcv, e, q⟩ := h
  cases r with
  | cons rx rr =>
    cases rr with
    | cons rt rr =>
      cases rr
      cases rx
      have ec := hcv.eq rt
      subst ec
      obtain ⟨hget, _⟩ := I.pin (a, oe) (List.mem_append.mpr (.inl List.mem_cons_self))
      obtain ⟨vs, hv⟩ := hf
      have J : PySem.W.InstAt s.heap a oe D none := ⟨hget, hz.1, by unfold PySem.W.notCls; rw [hv] <;> rfl, by rw [hz.2]; trivial⟩
      obtain ⟨cd, hc, _⟩ := PySem.W.any_some C.hd
      exact PySem.W.kia_one (PySem.W.kitx_exc (by rw [hc]; rfl) C.ga C.gg C.hs C.ha C.hn C.ht C.hm) I.kIn J e (fun z => nomatch z) fun tk => ⟨.bl b, H, I.kept (t' := tk) fun _ _ z => z, rfl, q⟩
end L2

namespace L2
open PySem PySem.Spec PyProof.Rows
/-! ### dicts compared: what stands under a key is flat or an address -/
theorem hits_allR {κ : Type} [DecidableEq κ] {A : Around} {s : Shared} {kvs : List (κ × V)} {vb : List (κ × Value)} (rb : KV kvs vb) {ks : List (κ × V)} {va : List (κ × Value)} (ra : KV ks va) :
    (∀ p ∈ ks, valV kvs p.1 = some p.2 ∧ (flatB p.2 = true ∨ ∃ a, p.2 = .ref a)) → PySem.W.KeqHits A s vb va true := by
  unfold KV at ra
  induction ra with
  | nil => intro _; exact .nil
  | @cons p q ps qs h t ih =>
    intro hp
    obtain ⟨h1, h2⟩ := h
    obtain ⟨e, f⟩ := hp p List.mem_cons_self
    have rr : RelO (some p.2) (valueAt vb p.1) := by rw [← e]; exact rb.val p.1
    obtain ⟨y, hy, ry⟩ := rr.some_of
    obtain ⟨k, v⟩ := q
    have h1' : p.1 = k := h1
    rw [h1'] at hy
    show PySem.W.KeqHits A s vb ((k, v) :: qs) (true && true)
    rcases f with f | ⟨a, ea⟩
    · exact .hit hy (eqAt_same h2 ry f) (ih fun p' hm => hp p' (List.mem_cons_of_mem _ hm))
    · have h2' : RelV p.2 v := h2
      rw [ea] at h2' ry
      obtain rfl : v = Value.ref a := h2'
      obtain rfl : y = Value.ref a := ry
      exact .hit hy (SeqAt.EqAt.same _) (ih fun p' hm => hp p' (List.mem_cons_of_mem _ hm))
section
variable {X : Cx}
def rEqDR : R2 := fun x y H Q => ∃ a b ks ls, x = .ref a ∧ y = .ref b ∧ H a = some (.dK ks) ∧ H b = some (.dK ls) ∧ ks.length = ls.length ∧ (∀ p ∈ ks, valV ls p.1 = some p.2 ∧ (flatB p.2 = true ∨ ∃ a, p.2 = .ref a)) ∧ Q (.bl true) H
theorem op_eq_dictR (hu : X.A.units < cLine) : OpR X (compareOp .Eq) rEqDR := by
  intro pins s σ H x y v u Q I rx ry h
  obtain ⟨a, b, ks, ls, rfl, rfl, ea, eb, hlen, hp, q⟩ := h
  obtain rfl : v = Value.ref a := rx
  obtain rfl : u = Value.ref b := ry
  obtain ⟨_, ya, va, ra, da⟩ := (show ObjOk X.prog X.w H s.heap a (.dK ks) from I.hok a _ ea)
  obtain ⟨_, yb, vb, rb, db⟩ := (show ObjOk X.prog X.w H s.heap b (.dK ls) from I.hok b _ eb)
  have hl : va.length = vb.length := by rw [← ra.length, ← rb.length]; exact hlen
  exact PySem.W.keq_eq (knd := mixKind X.prog X.w) (r := true) ya yb da db hu (fun _ => hits_allR rb ra hp) (fin_bl I q (by simp [hl]))
end
end L2

namespace L2
open PySem PySem.Spec PyProof.Rows
/-! ### C(..) in a try -/
section
variable {X : Cx} {CX : CXT} {k : Nat} {f C : Addr} {fd : FuncData} {ps : List Str} {sp : Sp} {dvs : List V} {ds : List Value} {x : Str} {p pos : Pos} {e : Expr} {es : List Expr} {t : TA}
theorem run_makeW {E : XK} {pins : List (Addr × Obj)} {σ : St} {H : Hp} {s : Shared} {Q : VK} {us : List Value} {vs : List V} (M : Mk X.K C f) (F : FnOk X.prog X.w X.K X.mg X.base CX k f fd ps sp) (hr : Room (k + 1) X.A) (hb : Binds X.K fd ps ds) (hd : Vals dvs ds)
    (hx : PassesAt CX X σ E) (I : Inv X pins σ H s) (r : Vals vs us)
    (h : ∀ x dx, H x = none → H dx = none → dx ≠ x → sp (.ref x :: (vs ++ dvs)) (upd (upd H dx (.own x)) x (.ins C dx [])) (fun v H2 => v = .non ∧ Q (.ref x) H2) E) :
    wpAny (model X.prog X.w) X.A (call (.ref C) us) (EP X pins σ Q) X.xe s := by
  have hq := h (s.heap.objs.size + 1) s.heap.objs.size (I.hok.fresh (Nat.le_succ _)) (I.hok.fresh (Nat.le_refl _)) (Nat.ne_of_lt (Nat.lt_succ_self _))
  have I2 := Inv.made (C := C) I
  have r2 : Vals (V.ref (s.heap.objs.size + 1) :: (vs ++ dvs)) (Value.ref (s.heap.objs.size + 1) :: (us ++ ds)) := .cons rfl (r.append hd)
  have hl : (Value.ref (s.heap.objs.size + 1) :: us ++ ds).length = ps.length := by
    have e := r2.length
    rw [F.len _ _ _ _ hq] at e
    exact e.symm
  refine wpAny_call (make_map (f := f) I.kIn M.makes M.init (beq_iff_eq.mp M.fn) (codeAny_mono (F.run _ X.stack _ _ ⟨Value.ref (s.heap.objs.size + 1) :: us, []⟩ (Value.ref (s.heap.objs.size + 1) :: (us ++ ds)) _ _ E (hr.make C us [])
    (I2.env0.make C us []) (hb _ (Value.ref (s.heap.objs.size + 1) :: us) I2.kIn hl) r2 hq) fun r s' hq' => ?_))
  cases r with
  | error e => exact hx pins _ _ e s' I2 hq'
  | ok fl =>
    cases fl with
    | ret u =>
      obtain ⟨v, H', I3, rv, ev, q3⟩ := I2.after hq'
      subst ev
      exact ⟨rv, ⟨V.ref (s.heap.objs.size + 1), H', I3, rfl, q3⟩⟩
    | next => exact False.elim hq'
    | brk => exact False.elim hq'
    | cont => exact False.elim hq'
def tMakeW (C : Addr) (sp : Sp) (dvs : List V) (E : St → XK) (t : TA) : TE := fun σ H Q => tMake C sp dvs (E σ) t σ H Q
theorem pe_makeW {E : St → XK} (M : Mk X.K C f) (F : FnOk X.prog X.w X.K X.mg X.base CX k f fd ps sp) (hr : Room (k + 1) X.A) (hg : Gl X x) (hm : X.mg x = some (.ref C)) (hb : Binds X.K fd ps ds) (hd : Vals dvs ds) (hx : ∀ σ, PassesAt CX X σ (E σ))
    (ha : PA X (e :: es) t) (hdb : (x == ("__debug__" : Str)) = false := by decide) (he : starEach (e :: es) X.env = (false, eval e X.env) :: starEach es X.env := by rfl) (hpl : (backTo pos (starEach es X.env)).any (·.1) = false := by rfl) :
    PE X (.Call (.Name x p) (e :: es) [] pos) (tMakeW C sp dvs E t) := by
  refine ⟨fun pins s σ H Q I h => ?_⟩
  refine wpAny_Call_Name_kw (ld_glob I hg hm ?_ hdb)
  refine PySem.W.callWith_K (h₀ := X.base) I.ok.mod.kin M.kp (thn (ha.run pos pins s σ H _ I h) fun us s1 ⟨vs, H1, I1, r, q⟩ => ⟨I1.kIn, ?_⟩) he hpl
  exact run_makeW M F hr hb hd (hx σ) I1 r q
end
end L2

namespace L2
open PySem PySem.Spec PyProof.Rows
/-! ### an own operator that may raise, in a try's body: the way out sees the slots -/
def tOpW (K : PySem.W.Frag) (C : Addr) (sp : Sp) (E : St → XK) (ta tb : TE) : TE := fun σ H Q => tOp (rOpI K C sp (E σ)) ta tb σ H Q
section
variable {X : Cx} {CX : CXT} {n : Nat} {C g : Addr} {fd : FuncData} {ps : List Str} {sp : Sp} {E : St → XK} {K : PySem.W.Frag} {a b : Expr} {pos : Pos} {ta tb : TE}
theorem pe_opW {op : Operator} (hK : X.K = K) (T : OpF K C op.info.2 g) (F : FnOk X.prog X.w X.K X.mg X.base CX n g fd ps sp) (hr : Room n X.A) (hb : Binds K fd ps []) (hx : ∀ σ, PassesAt CX X σ (E σ)) (ha : PE X a ta) (hb2 : PE X b tb) :
    PE X (.BinOp a op b pos) (tOpW K C sp E ta tb) := by
  subst hK
  refine ⟨fun pins s σ H Q I h => ?_⟩
  have h : tOp (rOpI X.K C sp (E σ)) ta tb σ H Q := h
  refine wpAny_BinOp (binT ha hb2 I h fun v u s2 x y H2 I2 rx ry q0 => ?_)
  obtain ⟨a, dx, fs, rfl, ho, hy, q⟩ := q0
  cases rx
  obtain ⟨ox, od, J⟩ := inst_of I2 ho
  obtain ⟨mf, hF⟩ := I2.fr
  have go := thn (run_fnSD (us := [.ref a, u]) (vs := [.ref a, y]) (E := E) F hr hb .nil (hx σ) I2 (.cons rfl (.cons ry .nil)) q) (Q' := PySem.W.CmpBack (EP X pins σ Q)) fun w s' ⟨z', H', I', rz, qz⟩ => SlX.cmpback rz ⟨z', H', I', rz, qz⟩
  rcases hy with ⟨b, dy, gs, rfl, hb'⟩ | ⟨b, xs, rfl, hq⟩
  · cases ry
    obtain ⟨oy, od', J'⟩ := inst_of I2 hb'
    exact PySem.W.binop_K (op := op) hF I2.ok.mod.kin J J'.type T.first T.at_ T.fn go
  · cases ry
    obtain ⟨rc, r1, r2⟩ := T.rev
    rcases hq with hq | hq
    · obtain ⟨fo, ro, t1, t2, t3⟩ := T.lst
      obtain ⟨its, rv, pl, hz⟩ := I2.list hq
      obtain ⟨o, ho, hc, _⟩ := pl.isList
      exact binL hF I2.ok.mod.kin J (fun A Q E s k z => wpAny_typeOf_ref (k _ _ ho) (by rw [hc]; exact z)) T.first T.at_ T.fn r1 r2 t1 t2 t3 go
    · obtain ⟨fo, ro, t1, t2, t3⟩ := T.tup
      obtain ⟨its, rv, ⟨o, ho, hc, _⟩, hz⟩ := I2.tuple hq
      exact binL hF I2.ok.mod.kin J (fun A Q E s k z => wpAny_typeOf_ref (k _ _ ho) (by rw [hc]; exact z)) T.first T.at_ T.fn r1 r2 t1 t2 t3 go
end
end L2

namespace PySem
namespace HandSPX
open PySem PySem.Spec
/-- it leaves the def, its flight whatever it is -/
theorem leaves_anyZ {M : Model} {A : Around} {E : Value → Shared → Prop} {s : Shared} {Z : Obj → Prop} {base : Heap} {env : Env} {outer : List Env} {L e : Addr} {fl : Value} {Q : Unit → Shared → Prop} (hZ : Steady Z)
    (hfr : A.frames = some (env :: outer)) (hf : env.frame = some L) (hkb : base.StaysIn s.heap) (hen : base.get? e = none) (hl : s.heap.FunFrames base (env :: outer)) (ht : TracedZ s.heap base e Z fl)
    (hQ : ∀ h', FlyingZ base outer e Z h' → s.heap.UpToSlots h' → Q () { s with heap := h' }) : wpAny M A (leaving env (.ref e)) Q E s := by
  by_cases hfl : fl = rawInt L
  · subst hfl
    exact leaves_heldZ hf ⟨hkb, hen, hl, ht⟩ hQ
  obtain ⟨oe, vs, T, oT, ts, he, hz, hd, h1, hnT, hTe, hT, hdT, h3⟩ := ht
  unfold leaving noteFrame
  simp only [hf]
  refine wpAny_bind (wpAny_bind (wpAny_field he hd h1 ?_))
  rw [if_pos (show (Value.ref T != Value.none) = true from by simp)]
  refine wpAny_bind (wpAny_field hT hdT h3 ?_)
  rw [if_neg (show ¬ ((fl == rawInt L) = true) from by simp [hfl])]
  refine wpAny_bind (wpAny_setField hT hdT (Array.getElem?_eq_some_iff.mp h3).1 ?_)
  have other : ∀ b, b ≠ T → (s.heap.update T (Obj.mapFields (·.setIfInBounds 3 Value.none))).get? b = s.heap.get? b := fun b hb => Heap.get?_update_other _ _ (Ne.symm hb)
  have noRecord : ∀ b o, s.heap.get? b = some o → (∀ vs, o.data ≠ .fields vs) → b ≠ T := fun b o hb hnf q => by
    rw [q, hT] at hb; injection hb with hb; subst hb; exact hnf ts hdT
  refine wpAny_newEntryZ hZ hfr (hl.of_keeps fun b o hb hnf => ⟨o, (other b (noRecord b o hb hnf)).trans hb, rfl⟩) hf ((other e (Ne.symm hTe)).trans he)
    (fun b o hbo => (other b fun q => by rw [q, hnT] at hbo; cases hbo).trans (hkb b o hbo)) hen hd (Array.getElem?_eq_some_iff.mp h1).1 hz fun h' hL => ?_
  obtain ⟨x1, ⟨_, _, x2⟩, x3, x4⟩ := hL
  exact hQ h' ⟨x1, hen, x2, x3⟩ fun b o hb hnf => x4 b o ((other b (noRecord b o hb hnf)).trans hb) hnf
end HandSPX
end PySem
namespace L2
open PySem PySem.Spec PyProof.Rows
theorem noteFrame_as {e1 e2 : Env} (h : e1.frame = e2.frame) (x : Value) : noteFrame x e1 = noteFrame x e2 := by
  unfold noteFrame PySem.frameOf
  rw [h]
section
variable {X : Cx} {pins : List (Addr × Obj)} {σ : St} {H : Hp} {sI s s' : Shared} {B : Heap} {E : XK}
theorem leaveAny (hs : X.stack = X.env :: X.outer) (hf : X.env.frame = some X.env.locals) (hex : X.ex = []) {E₁ : Value → Shared → Prop} {a : Addr} {cls : Value} {d : Option Addr} {fl : Value}
    (I : Inv X pins σ H sI) (nb : ∀ b o, sI.heap.get? b = some o → b ∉ frs X.stack → B.get? b = some o) (up : sI.heap.UpToSlots s'.heap) (hB : B.StaysIn s'.heap) (hn : B.get? a = none) (hl : s'.heap.FunFrames B X.stack) (ht : HandSPX.TracedZ s'.heap B a (Zc cls d) fl)
    (na : H a = none) (os : s'.os = sI.os) (ag : AllBare s'.gens) (hE : E cls d H) :
    wpAny (model X.prog X.w) X.A (leaving X.env (.ref a)) (fun _ s'' => CX X.prog X.w X.outer X.H_0 X.s_0 E (.ref a) s'') E₁ s' := by
  have hfr : X.A.frames = some (X.env :: X.outer) := by rw [I.ok.frames, hs]
  have nst : ∀ b o, X.s_0.heap.get? b = some o → b ∉ X.fs → b ∉ frs X.stack := fun b o e hb hm => by
    rcases List.mem_cons.mp (I.stkSub b hm) with z | z
    · have h1 := Heap.lt_size e
      have h2 := I.ok.above
      rw [z] at h1
      exact absurd (Nat.lt_of_lt_of_le h1 h2) (Nat.lt_irrefl _)
    · exact hb z
  have hex' : ∀ b, b ∉ X.ex := fun b hb => by rw [hex] at hb; cases hb
  have hokB := I.inGround nb
  rw [hs] at hl
  refine HandSPX.leaves_anyZ Zc.steady hfr hf hB hn hl ht fun h' fl up' => ?_
  refine ⟨a, B, H, cls, d, rfl, fl, hokB, ⟨fun b o e n hb => nb b o (I.base.keep b o e n hb (hex' b)) (nst b o e hb), fun b o e hb => ?_, fun b o e n => I.base.free b o e n (hex' b), fun b o e hb => ?_, I.base.tups, I.base.frzs, I.base.tbls⟩,
    na, os.trans I.os, ag, hE⟩
  · obtain ⟨_, o₀, e₀, hnf⟩ := I.ok.funs.mem hb
    rw [e] at e₀; cases e₀
    obtain ⟨sl, e1⟩ := I.base.slot b o e (I.ok.frf b hb) hb (hex' b)
    obtain ⟨sl2, e2⟩ := up b _ e1 hnf
    obtain ⟨sl3, e3⟩ := up' b _ e2 hnf
    exact ⟨sl3, e3⟩
  · obtain ⟨o', e1⟩ := I.base.there b o e (hex' b)
    exact ⟨o', nb b o' e1 (nst b o e hb)⟩
/-- a call's exception, its parts -/
theorem of_callF (I : Inv X pins σ H s) {u : Value} (c : CX X.prog X.w X.stack H s E u s') : ∃ (a : Addr) (B : Heap) (sI : Shared) (H' : Hp) (cls : Value) (d : Option Addr), u = .ref a ∧ Inv X pins σ H' sI ∧ (∀ b o, sI.heap.get? b = some o → b ∉ frs X.stack → B.get? b = some o) ∧ sI.heap.UpToSlots s'.heap ∧
    HandSPX.FlyingZ B X.stack a (Zc cls d) s'.heap ∧ H' a = none ∧ s'.os = sI.os ∧ AllBare s'.gens ∧ E cls d H' := by
  obtain ⟨a, B, H', cls, d, rfl, fl, hok, ub, na, os, ag, hE⟩ := c
  obtain ⟨G, g1, g2⟩ := restrict s'.heap fun b => (B.get? b).isSome || decide (b ∈ frs X.stack)
  have st : B.StaysIn s'.heap := fl.1
  have gB : ∀ b o, B.get? b = some o → G.get? b = some o := fun b o e => by
    rw [g1 b (by simp [e])]
    exact st b o e
  have gF : ∀ b, b ∈ frs X.stack → G.get? b = s'.heap.get? b := fun b hb => g1 b (by simp [hb])
  have og : ∀ b o, G.get? b = some o → s'.heap.get? b = some o ∧ ((B.get? b).isSome = true ∨ b ∈ frs X.stack) := fun b o e => by
    cases q : ((B.get? b).isSome || decide (b ∈ frs X.stack)) with
    | false => rw [g2 b q] at e; cases e
    | true =>
      rw [g1 b q] at e
      exact ⟨e, by simpa [Bool.or_eq_true] using q⟩
  refine ⟨a, B, { s with heap := G, gens := s'.gens, drawn := s'.drawn, toks := s'.toks }, H', cls, d, rfl, ?_, fun b o e hb => ?_, Heap.UpToSlots.of_keeps fun b o e => (og b o e).1, fl, na, os, ag, hE⟩
  · refine I.call (ch := []) ⟨fun b o e n hb _ => gB b o (ub.keep b o e n hb), fun b o e n hb _ => ?_, fun b o e n _ => ub.free b o e n, fun b o e _ => ?_, ub.tups, ub.frzs, ub.tbls⟩ (hok.kept gB) ag (fun _ z => nomatch z)
    · obtain ⟨sl, q⟩ := ub.slot b o e hb
      exact ⟨sl, by rw [gF b hb]; exact q⟩
    · by_cases hb : b ∈ frs X.stack
      · obtain ⟨sl, q⟩ := ub.slot b o e hb
        exact ⟨_, by rw [gF b hb]; exact q⟩
      · obtain ⟨o', q⟩ := ub.there b o e hb
        exact ⟨o', gB b o' q⟩
  · obtain ⟨e', h⟩ := og b o e
    rcases h with h | h
    · obtain ⟨o', q⟩ := Option.isSome_iff_exists.mp h
      have z := st b o' q
      rw [e'] at z; cases z
      exact q
    · exact absurd h hb
theorem funFrames_hide {B h h' : Heap} {C : Addr} (k : ∀ b, b ≠ C → h'.get? b = h.get? b) : ∀ {l : List Env}, h.FunFrames B l → C ∉ frs l → h'.FunFrames (PySem.W.hideAll B [C]) l
  | [], _, _ => trivial
  | env :: l, hh, hC => by
    obtain ⟨hk, ⟨L, o, hf, hn, ho, hd⟩, hr⟩ := hh
    have m : L ∈ frs (env :: l) := List.mem_filterMap.mpr ⟨env, List.mem_cons_self, hf⟩
    have nL : L ≠ C := fun e => hC (e ▸ m)
    refine ⟨hk, ⟨L, o, hf, ?_, (k L nL).trans ho, hd⟩, funFrames_hide k hr fun z => hC ?_⟩
    · cases q : (PySem.W.hideAll B [C]).get? L with
      | none => rfl
      | some u => rw [PySem.W.of_hideAll _ q] at hn; cases hn
    · obtain ⟨e, he, q⟩ := List.mem_filterMap.mp z
      exact List.mem_filterMap.mpr ⟨e, List.mem_cons_of_mem _ he, q⟩
theorem Inv.reXe (I : Inv X pins σ H s) (xb : Value → Shared → Prop) : Inv { X with xe := xb } pins σ H s :=
  ⟨⟨I.ok.mod, I.ok.kind, I.ok.glob, I.ok.blt, I.ok.above, I.ok.inj, I.ok.has, I.ok.cab, I.ok.hd, I.ok.frames, I.ok.stk, I.ok.exf, I.ok.bs, I.ok.bsz, I.ok.noex, I.ok.exfs, I.ok.funs, I.ok.frf⟩, I.os, I.bare, I.base, I.loc, I.cell, I.free, I.freeC, I.pin, I.hok, I.len⟩
end
end L2

namespace L2
open PySem PySem.Spec PyProof.Rows
section
variable {X : Cx} {E : XK}
/-- what a call in the block lets out goes out of the comprehension and out of the def -/
theorem blk_passes {pins : List (Addr × Obj)} {σ : St} {H3 : Hp} {s3 : Shared} {scope : Scope} {ce : Env} {fp : List Addr} {use : Option (Value → Sem Unit)} {Qf : Value → Shared → Prop} {acc : Value} {E₁ : Value → Shared → Prop}
    (hs : X.stack = X.env :: X.outer) (hf : X.env.frame = some X.env.locals) (hex : X.ex = [])
    (hx : X.xe = fun e s' => wpAny (model X.prog X.w) X.A (leaving X.env e) (fun _ s'' => CX X.prog X.w X.outer X.H_0 X.s_0 E e s'') E₁ s')
    (I3 : Inv X pins σ H3 s3) (f3 : ∀ b ∈ fp, FpOk X pins H3 b ∧ b < s3.heap.objs.size) (cL : ce.locals = s3.heap.objs.size) (cF : ce.frame = X.env.frame) :
    Passes (CX X.prog X.w) { X.blk s3 H3 scope ce fp with xe := notedBy (model X.prog X.w) X.A ce fun e s' => compPost (model X.prog X.w) X.A X.xe use Qf acc s3.heap.objs.size (.error e) s' } E := by
  intro pinsB σB H s e s' I c
  obtain ⟨a, B, sI, H', cls, d, rfl, Ib, nb, up, fl, na, os, ag, hE⟩ := of_callF I c
  have nb : ∀ b o, sI.heap.get? b = some o → b ∉ frs X.stack → B.get? b = some o := nb
  have fl : HandSPX.FlyingZ B X.stack a (Zc cls d) s'.heap := fl
  generalize hC : s3.heap.objs.size = C at cL
  have hfr : X.A.frames = some (X.env :: X.outer) := by rw [I3.ok.frames, hs]
  show wpAny (model X.prog X.w) X.A (noteFrame (.ref a) ce) (fun _ s'' => compPost (model X.prog X.w) X.A X.xe use Qf acc C (.error (.ref a)) s'') _ s'
  rw [noteFrame_as cF]
  rw [hs] at fl
  refine HandSPX.looks_onZ Zc.steady hfr hf fl fun h1 held up1 => ?_
  have I1 : Inv _ pinsB σB H' { s' with heap := h1 } := Ib.landed (s' := { s' with heap := h1 }) nb held.1 (Heap.UpToSlots.trans up up1) os ag
  obtain ⟨m, hn, _⟩ := I1.loc
  have hn : h1.Ns ce.locals m := hn
  rw [cL] at hn
  have nC : H' C = none := by
    have z : H' ce.locals = none := Ib.free
    rw [cL] at z; exact z
  have IX : Inv X pins σ H' sI := I3.call' (ch := fp) Ib.os Ib.base Ib.hok Ib.bare fun b hb => ⟨(f3 b hb).1.2.2.2.1, (f3 b hb).1.2.1, (f3 b hb).1.2.2.2.2.1, (f3 b hb).1.2.2.2.2.2⟩
  obtain ⟨f0, f1, f2, f3', f4, f5⟩ := I3.fpOk (b := C) (Nat.le_of_eq hC) nC
  have I2 : Inv X pins σ H' { sI with heap := PySem.W.hideAll sI.heap [C], toks := sI.toks } := IX.turned (it := C) (fun b o hb e => PySem.W.hideAll_get _ e (by simpa using hb)) f0 f1 f3' f4 f5
  have nhide : ∀ {h : Heap} {b : Addr} {o : Obj}, (PySem.W.hideAll h [C]).get? b = some o → b ≠ C := fun {h b o} e z => by
    rw [PySem.W.hideAll_none (b := b) [C] (by simp [z])] at e; cases e
  have hCs : C ∉ frs X.stack := fun z => by
    rcases List.mem_cons.mp (I3.stkSub C z) with e | e
    · exact f1 e
    · exact f2 e
  have fin : ∃ m, h1.Ns C m ∧ ∀ h', Heap.SameBut C h1 h' → ∀ cenv : Env, cenv.locals = C → wpAny (model X.prog X.w) X.A (PySem.passOn "comprehension.variables-let-go" (.ref a) cenv : Sem Value) (fun _ _ => False) X.xe { s' with heap := h' } := by
    refine ⟨m, hn, fun h' sb cenv _ => ?_⟩
    obtain ⟨kB, hen, hl, oe, vs, T, oT, ts, he, hz, hd, e1, hnT, hTe, hT, hdT, e3⟩ := held
    obtain ⟨oC, es, ep, gC, dC, _⟩ := hn
    have naC : a ≠ C := fun z => by rw [z, gC] at he; cases he; rw [dC] at hd; cases hd
    have nTC : T ≠ C := fun z => by rw [z, gC] at hT; cases hT; rw [dC] at hdT; cases hdT
    have he' : h'.get? a = some oe := (sb.2 a naC).trans he
    have hT' : h'.get? T = some oT := (sb.2 T nTC).trans hT
    have hnB : ∀ b, B.get? b = none → (PySem.W.hideAll B [C]).get? b = none := fun b e => by
      cases q : (PySem.W.hideAll B [C]).get? b with
      | none => rfl
      | some u => rw [PySem.W.of_hideAll _ q] at e; cases e
    have kB' : (PySem.W.hideAll B [C]).StaysIn h' := fun b o e => (sb.2 b (nhide e)).trans (kB b o (PySem.W.of_hideAll _ e))
    have hl' : h'.FunFrames (PySem.W.hideAll B [C]) (X.env :: X.outer) := funFrames_hide sb.2 hl (by rw [← hs]; exact hCs)
    have ht' : HandSPX.TracedZ h' (PySem.W.hideAll B [C]) a (Zc cls d) (rawInt X.env.locals) := ⟨oe, vs, T, oT, ts, he', hz, hd, e1, hnB T hnT, hTe, hT', hdT, e3⟩
    unfold PySem.passOn
    refine wpAny_bind (wpAny_field he' hd e1 ?_)
    rw [if_neg (show ¬ ((Value.ref T == Value.none) = true) from by simp)]
    refine wpAny_bind (HandSPX.setFlight_anyZ kB' hl' ht' fun h2 k1 k2 k3 k4 => wpAny_throw ?_)
    rw [hx]
    refine leaveAny hs hf hex I2 (fun b o e hb => ?_) (fun b o e hnf => ?_) k1 (hnB a hen) (by rw [hs]; exact k2) k3 na os ag hE
    · exact PySem.W.hideAll_get _ (nb b o (PySem.W.of_hideAll _ e) hb) (by simpa using nhide e)
    · have nb' := nhide e
      obtain ⟨sl1, q1⟩ := up b o (PySem.W.of_hideAll _ e) hnf
      obtain ⟨sl2, q2⟩ := up1 b _ q1 hnf
      obtain ⟨sl3, q3⟩ := k4 b _ ((sb.2 b nb').trans q2) hnf
      exact ⟨sl3, q3⟩
  cases use <;> exact fin
theorem lc_coreX {pins : List (Addr × Obj)} {s : Shared} {σ : St} {H : Hp} {Q : VK} {elt tg iter : Expr} {ifs : List Expr} {scope : Scope} {own : List (Str × Nat)} {pos pos' : Pos} {wi : TI} {g : TG} {tt : TT} {te : TE} {use : Option (Value → Sem Unit)} {Qf : Value → Shared → Prop} {E₁ : Value → Shared → Prop}
    (hst : X.stack = X.env :: X.outer) (hfm : X.env.frame = some X.env.locals) (hex : X.ex = [])
    (hx : X.xe = fun e s' => wpAny (model X.prog X.w) X.A (leaving X.env e) (fun _ s'' => CX X.prog X.w X.outer X.H_0 X.s_0 E e s'') E₁ s')
    (hc : X.calm = true) (hN : X.N.Nodup) (I : Inv X pins σ H s) (hi : PI X tg iter wi) (ok : BlkOk X.N X.env.scope scope own)
    (hg : ∀ (s : Shared) (H : Hp) (C : Addr) (cl : List (Str × Addr)) (fp : List Addr) (xb : Value → Shared → Prop), PG { X.blk s H scope (compEnvC scope cl C X.env) fp with xe := xb } tg g) (ht : ∀ (s : Shared) (H : Hp) (C : Addr) (cl : List (Str × Addr)) (fp : List Addr) (xb : Value → Shared → Prop), PTs { X.blk s H scope (compEnvC scope cl C X.env) fp with xe := xb } ifs tt)
    (he : ∀ (s : Shared) (H : Hp) (C : Addr) (cl : List (Str × Addr)) (fp : List Addr) (xb : Value → Shared → Prop), Passes (CX X.prog X.w) { X.blk s H scope (compEnvC scope cl C X.env) fp with xe := xb } E → PE { X.blk s H scope (compEnvC scope cl C X.env) fp with xe := xb } elt te) (hs : ∀ x, foldedSetIterable iter X.env x = pure x)
    (h : tLc wi g tt te (own.map (·.2)) σ H Q)
    (hRR : ∀ D C s' m H', Inv X pins σ H' s' → Q (.ref D) H' → s'.heap.Ns C m → FpOk X pins H' C → compPost (model X.prog X.w) X.A X.xe use Qf (.ref D) C (.ok .next) s') :
    wpAny (model X.prog X.w) X.A (comprehension (.ListComp elt [⟨tg, iter, ifs, 0⟩] scope pos) scope X.env pos' (newList []) false (eval iter X.env) use) Qf X.xe s := by
  have hfree : ∀ y ∈ scope.names, y.2 = .free → ∃ c, X.env.cells.lookup y.1 = some c := fun y hy e => by
    rcases ok.free y hy e with k | k
    · exact I.ok.has _ (.inl k)
    · exact I.ok.has _ (.inr k)
  refine wpAny_comprehension_free (use := use) rfl hs (closure_ok hfree) ok.kind (fun y hy e => by rw [ok.uniq y hy, e])
    (thn (hi.run pins s σ H _ I h) fun xv s1 hxv => thn hxv fun itv s2 h2 => ?_)
  obtain ⟨it, fp, tn, J, H2, e, I2, T, st2, f2, q⟩ := h2
  subst e
  refine wpAny_newObj_type (newEnv_comp ?_) (by show 0 ≤ sizeLine; decide)
  generalize hD : s2.heap.objs.size = D
  have hDn : H2 D = none := I2.hok.fresh (Nat.le_of_eq hD)
  obtain ⟨W, ⟨m0, w0⟩, turn⟩ := q D hDn
  -- the new list
  generalize hs3 : ({ s2 with heap := s2.heap.push { cls := .type "list", data := .seq ([] : List Value).toArray } } : Shared) = s3
  have I3 : Inv X pins σ (upd H2 D (.lst [])) s3 := by
    rw [← hs3]
    refine I2.laid (t' := s2.toks) (fun b o e => Heap.get?_push_of_some _ e) (Nat.le_of_eq hD) ⟨Nat.zero_le _, [], 0, .nil, ?_⟩
    rw [← hD]
    exact Heap.get?_push_size _ rfl
  have h3 : s3.heap = s2.heap.push { cls := .type "list", data := .seq ([] : List Value).toArray } := by rw [← hs3]
  have sz : ∀ b ∈ fp, b < s2.heap.objs.size := fun b hb => by
    obtain ⟨o, e, _⟩ := T.obj _ _ st2 b hb
    exact Heap.lt_size e
  have f3 : ∀ b ∈ fp, FpOk X pins (upd H2 D (.lst [])) b ∧ b < s3.heap.objs.size := fun b hb => by
    have hlt := sz b hb
    refine ⟨⟨?_, (f2 b hb).2⟩, by rw [h3, Heap.size_push]; exact Nat.lt_succ_of_lt hlt⟩
    rw [upd_ne (by rw [← hD]; exact Nat.ne_of_lt hlt)]
    exact (f2 b hb).1
  have st3 : tn 0 s3.heap := T.keep _ _ _ st2 fun b _ o e => by rw [h3]; exact Heap.get?_push_of_some _ e
  have I4 := block_start I3 ok hN f3
  have pg := hg s3 (upd H2 D (.lst [])) s3.heap.objs.size (cellsFrom (s3.heap.objs.size + 1) scope.names (cloFrom X.env.cells scope.names [])) fp
  have pt := ht s3 (upd H2 D (.lst [])) s3.heap.objs.size (cellsFrom (s3.heap.objs.size + 1) scope.names (cloFrom X.env.cells scope.names [])) fp
  have pe := he s3 (upd H2 D (.lst [])) s3.heap.objs.size (cellsFrom (s3.heap.objs.size + 1) scope.names (cloFrom X.env.cells scope.names [])) fp
  show codeAny _ _ (.compStart (.ListComp elt [⟨tg, iter, ifs, 0⟩] scope pos) 0 (.ref it) (.ref D) (compEnvC scope (cellsFrom (s3.heap.objs.size + 1) scope.names (cloFrom X.env.cells scope.names [])) s3.heap.objs.size X.env)) (compPost (model X.prog X.w) X.A X.xe use Qf (.ref D) s3.heap.objs.size) { s3 with heap := pushCells (s3.heap.push { cls := .type "dict", data := .dict #[] }) scope.names }
  have nfp : ∀ b ∈ fp, (upd H2 D (.lst [])) b = none := fun b hb => (f3 b hb).1.1
  have cF : (compEnvC scope (cellsFrom (s3.heap.objs.size + 1) scope.names (cloFrom X.env.cells scope.names [])) s3.heap.objs.size X.env).frame = X.env.frame := rfl
  generalize hce : compEnvC scope (cellsFrom (s3.heap.objs.size + 1) scope.names (cloFrom X.env.cells scope.names [])) s3.heap.objs.size X.env = ce at I4 pg pt pe cF ⊢
  have cL : ce.locals = s3.heap.objs.size := by subst hce; rfl
  generalize hH3 : upd H2 D (.lst []) = H3 at I3 I4 pg pt pe w0 nfp f3
  have ps := blk_passes (use := use) (Qf := Qf) (acc := .ref D) (scope := scope) (fp := fp) hst hfm hex hx I3 f3 cL cF
  replace pg := pg (notedBy (model X.prog X.w) X.A ce fun e s' => compPost (model X.prog X.w) X.A X.xe use Qf (.ref D) s3.heap.objs.size (.error e) s')
  replace pt := pt (notedBy (model X.prog X.w) X.A ce fun e s' => compPost (model X.prog X.w) X.A X.xe use Qf (.ref D) s3.heap.objs.size (.error e) s')
  replace pe := pe _ ps
  replace I4 := I4.reXe (notedBy (model X.prog X.w) X.A ce fun e s' => compPost (model X.prog X.w) X.A X.xe use Qf (.ref D) s3.heap.objs.size (.error e) s')
  generalize hXB : ({ X.blk s3 H3 scope ce fp with xe := notedBy (model X.prog X.w) X.A ce fun e s' => compPost (model X.prog X.w) X.A X.xe use Qf (.ref D) s3.heap.objs.size (.error e) s' } : Cx) = XB at pg pt pe I4
  have eP : XB.prog = X.prog := by subst hXB; rfl
  have eW : XB.w = X.w := by subst hXB; rfl
  have eK : XB.K = X.K := by subst hXB; rfl
  have eC : XB.calm = true := by subst hXB; exact hc
  have eE : XB.env = ce := by subst hXB; rfl
  have eA : XB.A = X.A := by subst hXB; rfl
  have eX : XB.xe = notedBy (model X.prog X.w) X.A ce fun e s' => compPost (model X.prog X.w) X.A X.xe use Qf (.ref D) s3.heap.objs.size (.error e) s' := by subst hXB; rfl
  generalize hs4 : ({ s3 with heap := pushCells (s3.heap.push { cls := .type "dict", data := .dict #[] }) scope.names } : Shared) = s4 at I4 ⊢
  have st4 : tn 0 s4.heap := T.keep _ _ _ st3 fun b _ o e => by rw [← hs4]; exact pushCells_keeps _ _ _ _ (Heap.get?_push_of_some _ e)
  have stat : ∀ {σ' : St} {H' : Hp} {s' : Shared}, Inv XB [] σ' H' s' → (∀ b ∈ fp, H' b = none) → ∀ b ∈ fp, FpOk XB [] H' b := fun {σ' H' s'} I' hn b hb => by
    subst hXB
    exact ⟨hn b hb, (I'.ok.exf b hb).1, I'.ok.exfs b hb, .inl hb, fun x c e => (I'.ok.exf b hb).2 x c e, fun p hp => absurd (show p ∈ ([] : List (Addr × Obj)) ++ [] from hp) (by simp)⟩
  have loop : codeAny (model X.prog X.w) X.A (.compLoop (.ListComp elt [⟨tg, iter, ifs, 0⟩] scope pos) 0 (.ref it) (.ref D) ce) (compPost (model X.prog X.w) X.A X.xe use Qf (.ref D) s3.heap.objs.size) s4 := by
    refine compLoop_any (fun n s' => ∃ i H', Inv XB [] (wipe σ (own.map (·.2))) H' s' ∧ tn i s'.heap ∧ (∀ b ∈ fp, H' b = none) ∧ W i n H') ?_ m0 ⟨0, H3, I4, st4, nfp, w0⟩
    rintro n s5 ⟨i, H5, I5, st5, n5, w5⟩
    rcases turn i n H5 w5 with ⟨stop, qq⟩ | ⟨go, Nx, hNx, step⟩
    · have td := T.done XB eP eW eK eC i [] s5 _ H5 (fun _ _ => False) I5 (stat I5 n5) st5 stop
      rw [eA] at td
      refine thnF td fun r s6 ⟨hr, I6⟩ => ?_
      subst hr
      have I6' : Inv { X.blk s3 H3 scope ce fp with xe := notedBy (model X.prog X.w) X.A ce fun e s' => compPost (model X.prog X.w) X.A X.xe use Qf (.ref D) s3.heap.objs.size (.error e) s' } [] (wipe σ (own.map (·.2))) H5 s6 := by rw [hXB]; exact I6
      -- back in the def's context
      have I7 : Inv X pins σ H5 s6 := I3.call' (ch := fp) I6'.os I6'.base I6'.hok I6'.bare fun b hb => ⟨(f3 b hb).1.2.2.2.1, (f3 b hb).1.2.1, (f3 b hb).1.2.2.2.2.1, (f3 b hb).1.2.2.2.2.2⟩
      have nC : H5 s3.heap.objs.size = none := by
        have z : H5 ce.locals = none := I6'.free
        rw [cL] at z
        exact z
      obtain ⟨m, hn, _⟩ := I6'.loc
      have hn : s6.heap.Ns ce.locals m := hn
      rw [cL] at hn
      exact hRR D s3.heap.objs.size s6 m H5 I7 qq hn (I3.fpOk (Nat.le_refl _) nC)
    · have ti := T.item XB eP eW eK eC i [] s5 _ H5 (fun _ _ => False) I5 (stat I5 n5) st5 go
      rw [eA] at ti
      refine thnF ti fun r s6 ⟨u, hr, h6⟩ => ?_
      subst hr
      refine thnF h6 fun _ s7 ⟨x, H7, I7, r7, y7, st7, n7⟩ => ?_
      have I7' := I7.pinned (stat I7 n7) (T.obj _ _ st7)
      have pg' := pg.run _ s7 _ H7 x u _ I7' r7 (step x H7 y7)
      rw [eP, eW, eA, eE, eX] at pg'
      refine thn pg' fun _ s8 ⟨σ8, H8, I8, hw8, q8⟩ => ?_
      have pt' := pt.run _ s8 σ8 H8 _ I8 q8
      rw [eP, eW, eA, eE, eX] at pt'
      refine thn pt' fun b s9 ⟨H9, I9, q9⟩ => ?_
      -- the turn's end
      have fin : ∀ {s' : Shared} {H' : Hp}, Inv XB ([] ++ pinsAt fp s7.heap) σ8 H' s' → Nx H' → ∃ m, m < n ∧ ∃ i H', Inv XB [] (wipe σ (own.map (·.2))) H' s' ∧ tn i s'.heap ∧ (∀ b ∈ fp, H' b = none) ∧ W i m H' := fun {s' H'} I' nx => by
        obtain ⟨m', hm, w'⟩ := hNx H' nx
        have pin' : ∀ b ∈ fp, ∀ o, s7.heap.get? b = some o → s'.heap.get? b = some o ∧ H' b = none := fun b hb o e =>
          let z := I'.pin (b, o) (List.mem_append_right _ (List.mem_append_right _ (mem_pinsAt hb e)))
          ⟨z.1, z.2.1⟩
        have hl : (wipe σ (own.map (·.2))).length = σ8.length := by rw [← hw8, wipe_length]
        refine ⟨m', hm, i + 1, H', (I'.unpinned (pins := [])).weak hl (fun j v e => ?_), T.keep _ _ _ st7 fun b hb o e => (pin' b hb o e).1, fun b hb => ?_, w'⟩
        · rw [← hw8] at e
          exact (wipe_some e).1
        · obtain ⟨o, e, _⟩ := T.obj _ _ st7 b hb
          exact (pin' b hb o e).2
      cases b with
      | false =>
        simp only [Bool.false_eq_true, if_false] at q9 ⊢
        exact fin I9 q9
      | true =>
        simp only [if_true] at q9 ⊢
        have pe' := pe.run _ s9 σ8 H9 _ I9 q9
        rw [eP, eW, eA, eE, eX] at pe'
        refine thn pe' fun z s10 ⟨yv, H10, I10, r10, acc, hD10, hz10, nx⟩ => ?_
        have ap : wpAny (model XB.prog XB.w) XB.A (call (.builtin "list.append") [.ref D, z]) (fun _ s' => ∃ m, m < n ∧ ∃ i H', Inv XB [] (wipe σ (own.map (·.2))) H' s' ∧ tn i s'.heap ∧ (∀ b ∈ fp, H' b = none) ∧ W i m H')
            (notedBy (model X.prog X.w) X.A ce fun e s' => compPost (model X.prog X.w) X.A X.xe use Qf (.ref D) s3.heap.objs.size (.error e) s') s10 := app_ok (X := XB) I10 hD10 hz10 r10 fun s11 I11 => fin I11 nx
        rw [eP, eW, eA] at ap
        exact ap
  exact codeAny_compStart_list loop (T.self X.A 0 _ _ _ st4 loop)
/-- [f(x) for x in ..], f(x) may raise what the def may raise -/
theorem pe_lcX {elt tg iter : Expr} {ifs : List Expr} {scope : Scope} {own : List (Str × Nat)} {pos : Pos} {wi : TI} {g : TG} {tt : TT} {te : TE} {E₁ : Value → Shared → Prop}
    (hst : X.stack = X.env :: X.outer) (hfm : X.env.frame = some X.env.locals) (hex : X.ex = [])
    (hx : X.xe = fun e s' => wpAny (model X.prog X.w) X.A (leaving X.env e) (fun _ s'' => CX X.prog X.w X.outer X.H_0 X.s_0 E e s'') E₁ s')
    (hc : X.calm = true) (hN : X.N.Nodup) (hi : PI X tg iter wi) (ok : BlkOk X.N X.env.scope scope own)
    (hg : ∀ (s : Shared) (H : Hp) (C : Addr) (cl : List (Str × Addr)) (fp : List Addr) (xb : Value → Shared → Prop), PG { X.blk s H scope (compEnvC scope cl C X.env) fp with xe := xb } tg g) (ht : ∀ (s : Shared) (H : Hp) (C : Addr) (cl : List (Str × Addr)) (fp : List Addr) (xb : Value → Shared → Prop), PTs { X.blk s H scope (compEnvC scope cl C X.env) fp with xe := xb } ifs tt)
    (he : ∀ (s : Shared) (H : Hp) (C : Addr) (cl : List (Str × Addr)) (fp : List Addr) (xb : Value → Shared → Prop), Passes (CX X.prog X.w) { X.blk s H scope (compEnvC scope cl C X.env) fp with xe := xb } E → PE { X.blk s H scope (compEnvC scope cl C X.env) fp with xe := xb } elt te)
    (hs : ∀ x, foldedSetIterable iter X.env x = pure x := by intro _; rfl) : PE X (.ListComp elt [⟨tg, iter, ifs, 0⟩] scope pos) (tLc wi g tt te (own.map (·.2))) := by
  refine ⟨fun pins s σ H Q I h => ?_⟩
  rw [eval_ListComp]
  refine lc_coreX hst hfm hex hx hc hN I hi ok hg ht he hs h fun D C s' m H' I' q hn f => ⟨m, hn, fun h'' sb => ?_⟩
  obtain ⟨f0, f1, f2, f3, f4, f5⟩ := f
  exact ⟨.ref D, H', I'.turned (t' := s'.toks) (fun b o hb e => (sb.2 b hb).trans e) f0 f1 f3 f4 f5, rfl, q⟩
end
end L2

namespace L2
open PySem PySem.Spec PyProof.Rows
/-! ### list(o), o's __iter__ gives iter(o.f), f a list, and __len__ is a def -/
section
variable {X : Cx} {pins : List (Addr × Obj)} {σ : St}
theorem listI_loop {A1 : Around} {q it l : Addr} {xs : List V} {H0 : Hp} {Rs : Result → Shared → Prop} (hh : A1.in1.handled = none) (hz : xs.length ≤ sizeLine) (nq : H0 q = none) (nit : H0 it = none) (nqi : q ≠ it) (nl : l ≠ q) (hl : SqL X.K H0 l xs)
    (hf : ∀ H', H' it = none → FpOk X pins H' it) (hdone : ∀ s, Inv X pins σ (upd H0 q (.lst xs)) s → Rs (.ok (.ret .none)) s) :
    ∀ (m i : Nat) (s : Shared), xs.length - i = m → i ≤ xs.length → Inv X pins σ (upd H0 q (.lst (xs.take i))) s → s.heap.IsListIter it l i → codeAny (model X.prog X.w) A1 (.builtin "list.extend.loop" ⟨[.ref q, .ref it, .none], []⟩) Rs s := by
  have nitq : ∀ o, (upd H0 q o) it = none := fun o => by rw [upd_ne nqi.symm]; exact nit
  have hlq : ∀ o, SqL X.K (upd H0 q o) l xs := fun o => by
    rcases hl with (h | ⟨o', h⟩) | h
    · exact .inl (.inl (by rw [upd_ne nl]; exact h))
    · exact .inl (.inr ⟨o', by rw [upd_ne nl]; exact h⟩)
    · exact .inr h
  intro m
  induction m with
  | zero =>
    intro i s hm hi I st
    have e : i = xs.length := by omega
    subst e
    obtain ⟨its, rv, pl, _⟩ := I.list (hlq _)
    refine codeAny_builtin PySem.F.entry_extend_loop ?_
    rw [Around.under_plainId PySem.F.plain_extend_loop _]
    show wpAny _ A1.in1 (pyNext (.ref it) >>= _) _ _ s
    obtain ⟨f0, f1, f2, f3, f4, f5⟩ := hf _ (nitq (.lst xs))
    refine wpAny_bind (wpAny_pyNext_list_end hh st pl.isList (by have := rv.length; simp; omega) fun h' he' => wpAny_pure (hdone _ ?_))
    rw [List.take_length] at I
    exact I.turned (it := it) (t' := s.toks) (fun b o hb e => he' b o hb e) (nitq _) f1 f3 f4 f5
  | succ m ih =>
    intro i s hm hi I st
    have hlt : i < xs.length := by omega
    obtain ⟨its, rv, pl, _⟩ := I.list (hlq _)
    have hx : xs[i]? = some xs[i] := List.getElem?_eq_getElem hlt
    obtain ⟨u, hu, ri⟩ := rv.get hx
    refine codeAny_builtin PySem.F.entry_extend_loop ?_
    rw [Around.under_plainId PySem.F.plain_extend_loop _]
    show wpAny _ A1.in1 (pyNext (.ref it) >>= _) _ _ s
    obtain ⟨f0, f1, f2, f3, f4, f5⟩ := hf _ (nitq (.lst (xs.take i)))
    refine wpAny_bind (wpAny_pyNext_list_item st pl.isList (x := u) (by simpa using hu) fun h' hit' hs' => ?_)
    have I' := I.turned (it := it) (h' := h') (t' := s.toks) (fun b o hb e => hs'.extBut b o hb e) (nitq _) f1 f3 f4 f5
    show wpAny _ A1.in1 (updateSeq q (·.push u) >>= _) _ _ _
    obtain ⟨z, its2, k, r2, hl2, e⟩ := I'.lstM upd_same
    refine wpAny_bind (wpAny_updateSeq e rfl (wpAny_pure ⟨plainId_quiet PySem.F.plain_extend_loop _, ?_⟩) (by rw [List.size_toArray]; rw [List.length_take] at hl2; omega) (by show (its2.toArray.push u).size ≤ sizeLine + 1; rw [Array.size_push, List.size_toArray]; rw [List.length_take] at hl2; omega))
    refine ih (i + 1) _ (by omega) hlt ?_ (hit'.at fun o e => (Heap.get?_update_other _ _ nqi).trans e)
    have I2 := I'.lset (f := (·.push u)) (its' := its2 ++ [u]) (t' := s.toks) upd_same e (by simp) (r2.append (.cons ri .nil)) (by rw [List.length_append, List.length_take]; show _ + 1 ≤ _; omega)
    rw [upd_upd] at I2
    rw [List.take_add_one, hx]
    exact I2
variable {CI CL : CXT} {k : Nat} {g fL C : Addr} {fl : Str} {fdL : FuncData} {psL : List Str} {spL : Sp} {EL : XK}
def rListI (K : PySem.W.Frag) (C : Addr) (fl : Str) (spL : Sp) (EL : XK) : List V → Hp → VK → Prop := fun vs H Q => ∃ (a dx l : Addr) (fs : List (Str × V)) (xs : List V), vs = [.ref a] ∧ H a = some (.ins C dx fs) ∧ fs.lookup fl = some (.ref l) ∧ SqL K H l xs ∧ xs.length ≤ 1000 ∧
  (∀ q, H q = none → spL [.ref a] (upd H q (.lst [])) (fun v H' => (∃ n : Nat, v = .int (n : Int) ∧ n ≤ 1000) ∧ H' = upd H q (.lst [])) EL) ∧ ∀ q, H q = none → Q (.ref q) (upd H q (.lst xs))
theorem call_listI (m : Meth X.K C "__iter__" g) (FI : IterOk X.prog X.w X.K X.mg X.base k g C fl) (ml : Meth X.K C "__len__" fL) (FL : FnOk X.prog X.w X.K X.mg X.base CX0 k fL fdL psL spL) (bL : Binds X.K fdL psL []) (hc : X.calm = true) (hr : Room (k + 4) X.A) :
    CallR X (.type "list") (rListI X.K C fl spL E0) := by
  intro pins s σ H vs us Q I rv h
  obtain ⟨a, dx, l, fs, xs, rfl, ha, hfl, hl, hz, hsp, hq⟩ := h
  obtain ⟨u, rfl, ru⟩ := rv.one
  cases ru
  have sb : Sub X (k + 2) X.A.in1.in1 := (Sub.in1 (Sub.in1 (⟨hr, rfl⟩ : Sub X (k + 4) X.A)))
  refine callType_codes (Q₁ := fun obj s₁ => obj = .ref s.heap.objs.size ∧ s₁ = { s with heap := s.heap.push { cls := .type "list", data := .seq #[] } }) PySem.F.called_list (PySem.F.typeCall_list_1 _) PySem.F.entry_list_init
    (code_list_new _ ⟨rfl, rfl⟩) fun obj s₁ h₁ => ?_
  obtain ⟨rfl, rfl⟩ := h₁
  have hS : (s.heap.push { cls := .type "list", data := .seq #[] }).get? s.heap.objs.size = some { cls := .type "list", data := .seq #[] } := Heap.get?_push_size _ rfl
  refine ⟨⟨_, hS, rfl⟩, PySem.F.args_list_init_2 _ _, ?_⟩
  have fr : H s.heap.objs.size = none := I.hok.fresh (Nat.le_refl _)
  have I1 : Inv X pins σ (upd H s.heap.objs.size (.lst [])) { s with heap := s.heap.push { cls := .type "list", data := .seq #[] } } := I.lnew (its := []) (t' := s.toks) .nil (Nat.zero_le _)
  show wpAny _ _ (do let old ← Builtin.List.listItems (.ref s.heap.objs.size); Builtin.List.listUpdate (.ref s.heap.objs.size) (fun _ => #[]); letGo old.toList.reverse; Builtin.List.listExtendWith (.ref s.heap.objs.size) (.ref a) .none) _ _ _
  refine wpAny_bind ?_
  unfold Builtin.List.listItems
  refine wpAny_bind (wpAny_seqItems hS rfl (wpAny_pure ?_))
  show wpAny _ _ (updateSeq s.heap.objs.size (fun _ => #[]) >>= fun _ => letGo (#[] : Array Value).toList.reverse >>= fun _ => Builtin.List.listExtendWith (.ref s.heap.objs.size) (.ref a) .none) _ _ _
  refine wpAny_bind (wpAny_updateSeq hS rfl ?_)
  have I2 := I1.lset (f := fun _ => #[]) (its := []) (its' := []) (ys := []) (t' := s.toks) upd_same hS rfl .nil (Nat.zero_le _)
  rw [upd_upd] at I2
  refine wpAny_bind (wpAny_letGo ?_)
  have nlq : l ≠ s.heap.objs.size := fun z => by
    obtain ⟨its, rv, pl, _⟩ := I.list hl
    obtain ⟨o, ho, _⟩ := pl.isList
    have := Heap.lt_size ho
    rw [z] at this
    exact absurd this (Nat.lt_irrefl _)
  have hQ := hq _ fr
  have hL := hsp _ fr
  revert I2 fr nlq hQ hL
  generalize s.heap.objs.size = q
  generalize ({ s with heap := _, toks := _ } : Shared) = s2
  intro fr I2 nlq hQ hL
  have naq : a ≠ q := ne_of_none ha fr
  have ha2 : (upd H q (.lst [])) a = some (.ins C dx fs) := by rw [upd_ne naq]; exact ha
  obtain ⟨ox, od, J⟩ := inst_of I2 ha2
  obtain ⟨mf, hF⟩ := I2.fr
  unfold Builtin.List.listExtendWith
  refine wpAny_bind (J.type.here ?_)
  have h1 : Builtin.List.listSameRef (.ref q) (.ref a) = false := by simp [Builtin.List.listSameRef, naq.symm]
  have h2 : (Value.ref C == Value.type "list") = false := rfl
  have h3 : (Value.ref C == Value.type "tuple") = false := rfl
  simp only [h1, h2, h3, Bool.or_false, Bool.false_eq_true, if_false]
  have e0 : Env0 X.prog X.w X.K X.mg X.base X.A.in1.in1 X.stack s2 (upd H q (.lst [])) := by
    have e := I2.env0
    exact ⟨by rw [sb.fr]; exact e.frames, e.mod, e.bs, e.bsz, e.funs, e.frf, e.hok, e.bare⟩
  have hl2 : SqL X.K (upd H q (.lst [])) l xs := by
    rcases hl with (h | ⟨o', h⟩) | h
    · exact .inl (.inl (by rw [upd_ne nlq]; exact h))
    · exact .inl (.inr ⟨o', by rw [upd_ne nlq]; exact h⟩)
    · exact .inr h
  refine wpAny_bind (PySem.W.owit_iter hF I2.ok.mod.kin J m.at_ m.fn (wpAny_call (codeAny_mono (FI X.A.in1.in1 X.stack s2 (upd H q (.lst [])) a dx l fs xs (fun v H2 => ∃ it, v = .ref it ∧ (upd H q (.lst [])) it = none ∧ s2.heap.objs.size ≤ it ∧ H2 = upd (upd H q (.lst [])) it (ItO l it 0)) E0 (sb.room.mono (by omega)) e0 ha2 hfl hl2 fun it n1 n2 => ⟨it, rfl, n1, n2, rfl⟩) fun r s' z => ?_)))
  match r, z with
  | .error _, z => exact z.elim
  | .ok (.ret u), z =>
    obtain ⟨v2, H2, I3, r2, it, rfl, n1, n2, rfl⟩ := I2.after z
    cases r2
    have eo := itO_get I3 upd_same
    have hT : s'.TypeIs (.ref it) "list_iterator" := ⟨_, eo, rfl⟩
    have I4 := ItX.inv_drop I3 (a := it) (by rw [upd_same]; rfl)
    rw [ItX.dropH_upd n1] at I4
    refine wpAny_specialOf (name := Str.ofString "__next__") hT slot_listiter_next.lookup ?_
    obtain ⟨ox4, od4, J4⟩ := inst_of I4 ha2
    show wpAny (model X.prog X.w) X.A.in1.in1 (do
            let room ← holding [Value.ref it] (Builtin.List.listLengthHint (Value.ref a))
            _) _ _ s'
    refine wpAny_bind (wpAny_holding ?_)
    unfold Builtin.List.listLengthHint
    refine wpAny_bind (wpAny_bind (J4.type.here ((PySem.W.looks_findIn I4.kIn ml.at_).here ?_)))
    refine PySem.W.KFB.if_not rfl ?_
    refine wpAny_ite_split (fun _ => ?_) (fun hab => absurd rfl hab)
    refine wpAny_bind (wpAny_rule ?_)
    obtain ⟨mf4, hF4⟩ := I4.fr
    have fpI : FpOk X pins (upd H q (.lst [])) it := I2.fpOk n2 n1
    have oI : ∀ b ∈ [it], ∃ o, s'.heap.get? b = some o ∧ ∀ v, o.data ≠ .cell v := fun b hb => by
      obtain rfl : b = it := by simpa using hb
      exact ⟨_, eo, fun v z => nomatch z⟩
    have I4n : Inv X.nox (pins ++ pinsAt [it] s'.heap) σ (upd H q (.lst [])) s' := (I4.pinned (fp := [it]) (fun b hb => by rw [List.mem_singleton.mp hb]; exact fpI) oI).wish _
    have lenq : wpAny (model X.prog X.w) X.A.in1.in1 (call (.builtin "len") [.ref a]) (fun nv s6 => ∃ (n : Nat) (t : Tok), nv = .int (n : Int) t ∧ n ≤ 1000 ∧ Inv X pins σ (upd H q (.lst [])) s6 ∧ s6.heap.IsListIter it l 0) (fun _ _ => False) s' := by
      refine PySem.W.len_K hF4 I4.ok.mod.kin J4 ml.at_ ml.fn (thn (run_sub (X := X.nox) (A1 := X.A.in1.in1.in1) (us := [.ref a]) (vs := [.ref a]) (stack_of I4) FL ((sb.room.mono (by omega)).in1 (k := k)) bL pass0 I4n (.cons rfl .nil) hL) fun r s5 z => ?_)
      obtain ⟨z1, H1, I5, r1, ⟨n, rfl, hn⟩, rfl⟩ := z
      obtain ⟨t, rfl⟩ := r1
      have g5 := (I5.pin (it, _) (List.mem_append_right _ (List.mem_append_right _ (mem_pinsAt (List.mem_singleton.mpr rfl) eo)))).1
      exact ⟨⟨by omega, by omega⟩, n, _, rfl, hn, (I5.unwish.unpinned (pins := pins)).tok _, ⟨_, g5, rfl, rfl⟩⟩
    refine wpAny_bind (wpAny_attempt (thnF lenq fun nv s6 h6 => ?_))
    obtain ⟨n, t, rfl, hn, I6, st6⟩ := h6
    have hbig : Builtin.List.listTooLong ((n : Int)).toNat = false := by
      unfold Builtin.List.listTooLong
      rw [Int.toNat_natCast]
      have : 1000 < sizeLine := by decide
      exact decide_eq_false (by omega)
    refine wpAny_bind (wpAny_pure ?_)
    refine PySem.W.KFB.if_not hbig (wpAny_pure ?_)
    have big : 1000 < sizeLine := by decide
    have nqi : q ≠ it := fun z => by
      rw [← z, upd_same] at n1; cases n1
    have nitH : H it = none := by rw [upd_ne nqi.symm] at n1; exact n1
    have loop : ∀ s7, Inv X pins σ (upd H q (.lst [])) s7 → s7.heap.IsListIter it l 0 → codeAny (model X.prog X.w) X.A.in1 (.builtin "list.extend.loop" ⟨[.ref q, .ref it, .none], []⟩) (wants (fun r s₂ => r = .none ∧ EP X pins σ Q (.ref q) s₂) X.xe) s7 := fun s7 I7 st7 =>
      listI_loop (A1 := X.A.in1) (H0 := H) (by exact I7.ok.hd hc) (by omega) fr nitH nqi nlq hl (fun H' nH => ⟨nH, fpI.2⟩) (fun s8 I8 => ⟨rfl, .ref q, _, I8, rfl, hQ⟩) xs.length 0 s7 (by omega) (Nat.zero_le _) (by rw [List.take_zero]; exact I7) st7
    refine wpAny_ite_split (fun _ => ?_) (fun _ => wpAny_pure ⟨plainId_quiet PySem.F.plain_extend_loop _, loop s6 I6 st6⟩)
    refine wpAny_bind (wpAny_rule ?_)
    refine wpAny_bind ?_
    obtain ⟨z3, its3, k3, r3, hl3, e3⟩ := I6.lstM upd_same
    cases r3
    show wpAny _ _ (updateSeq q (·.push .none) >>= fun _ => updateSeq q (·.pop)) _ _ _
    refine wpAny_bind (wpAny_updateSeq e3 rfl ?_)
    have I7 := I6.lset (f := (·.push Value.none)) (its' := [Value.none]) (ys := [.non]) (t' := s6.toks) upd_same e3 (by simp) (.cons rfl .nil) (by rw [List.length_singleton, sizeLine_eq]; decide)
    obtain ⟨z4, its4, k4, r4, hl4, e4⟩ := I7.lstM upd_same
    obtain ⟨u4, rfl, ru4⟩ := r4.one
    refine wpAny_updateSeq e4 rfl ?_ (by show 1 ≤ sizeLine; rw [sizeLine_eq]; decide) (by show 0 ≤ sizeLine + 1; exact Nat.zero_le _)
    have I8 := I7.lset (f := (·.pop)) (its := [u4]) (its' := []) (ys := []) (t' := s6.toks) upd_same e4 (by rfl) .nil (Nat.zero_le _)
    rw [upd_upd, upd_upd] at I8
    refine wpAny_pure ⟨plainId_quiet PySem.F.plain_extend_loop _, loop _ I8 (st6.at fun o e => ?_)⟩
    exact (Heap.get?_update_other _ _ nqi).trans ((Heap.get?_update_other _ _ nqi).trans e)
end
end L2

namespace L2
open PySem PySem.Spec PyProof.Rows
section
variable {X : Cx} {a b c d : Expr} {ta tb tc td : TE} {pos : Pos}
/-- a op b op' c op'' d -/
def tChain3 (r r' r'' : R2) (ta tb tc td : TE) : TE := fun σ H Q => ta σ H fun x H1 => tb σ H1 fun y H2 => r x y H2 fun z H3 => ∃ k, z = .bl k ∧
  (if k = true then tc σ H3 fun v H4 => r' y v H4 fun z' H5 => ∃ k', z' = .bl k' ∧ (if k' = true then td σ H5 fun u H6 => r'' v u H6 Q else Q (.bl false) H5) else Q (.bl false) H3)
theorem pe_chain3 {op op' op'' : CmpOp} {r r' r'' : R2} (ho : OpR X (compareOp op) r) (ho' : OpR X (compareOp op') r') (ho'' : OpR X (compareOp op'') r'') (ha : PE X a ta) (hb : PE X b tb) (hc : PE X c tc) (hd : PE X d td)
    (hm : lastMarks [op, op', op''] [b, c, d] = false := by with_unfolding_all rfl) : PE X (.Compare a [op, op', op''] [b, c, d] pos) (tChain3 r r' r'' ta tb tc td) := by
  refine ⟨fun pins s σ H Q I h => ?_⟩
  refine Compare_chain (thn (ha.run pins s σ H _ I h) fun v s1 ⟨x, H1, I1, r1, q1⟩ => chain_link (thn (hb.run pins s1 σ H1 _ I1 q1) fun u s2 ⟨y, H2, I2, r2, q2⟩ =>
    thn (ho pins s2 σ H2 x y v u _ I2 r1 r2 q2) fun d s3 ⟨z, H3, I3, r3, k, e, q3⟩ => ?_)) hm
  subst e
  cases r3
  refine wpAny_truthy_bool ?_
  cases k with
  | false => exact ite_ff ⟨.bl false, H3, I3, rfl, q3⟩
  | true =>
    refine ite_tt (chain_link (thn (hc.run pins s3 σ H3 _ I3 q3) fun w' s4 ⟨z', H4, I4, r4, q4⟩ => thn (ho' pins s4 σ H4 y z' u w' _ I4 r2 r4 q4) fun d5 s5 ⟨z5, H5, I5, r5, k', e5, q5⟩ => ?_))
    subst e5
    cases r5
    refine wpAny_truthy_bool ?_
    cases k' with
    | false => exact ite_ff ⟨.bl false, H5, I5, rfl, q5⟩
    | true => exact ite_tt (chain_last (thn (hd.run pins s5 σ H5 _ I5 q5) fun w6 s6 ⟨z6, H6, I6, r6, q6⟩ => ho'' pins s6 σ H6 z' z6 w' w6 Q I6 r4 r6 q6))
end
end L2
namespace L2
open PySem PySem.Spec PyProof.Rows
def rInKd (neg : Bool) : R2 := fun x y H Q => ∃ a o, y = .ref a ∧ DGet H a x o ∧ Q (.bl (if neg then !o.isSome else o.isSome)) H
theorem op_inKd {X : Cx} (hu : X.A.units + 1 < cLine) : OpR X (compareOp .In) (rInKd false) := by
  intro pins s σ H x y v u Q I rx ry h
  obtain ⟨a, o, rfl, g, q⟩ := h
  cases ry
  exact d_in hu I g rx fun s3 I3 => ⟨.bl o.isSome, H, I3, rfl, q⟩
theorem op_ninKd {X : Cx} (hu : X.A.units + 1 < cLine) : OpR X (compareOp .NotIn) (rInKd true) := by
  intro pins s σ H x y v u Q I rx ry h
  obtain ⟨a, o, rfl, g, q⟩ := h
  cases ry
  exact d_notIn hu I g rx fun s3 I3 => ⟨.bl (!o.isSome), H, I3, rfl, q⟩
end L2

namespace L2
open PySem
theorem for_str {z : Str} {g : TG} {tb : TS} {D : Ends} {σ : L2.St} {H : Hp} (Pv : Nat → L2.St → Hp → Prop) (h0 : Pv 0 σ H)
    (hs : ∀ i c σ H, (TL.tl z)[i]? = some c → Pv i σ H → g (.str ⟨#[c]⟩) σ H fun σ2 H2 => tb { D with nx := Pv (i + 1), ct := Pv (i + 1), bk := D.nx } σ2 H2) (hd : ∀ σ H, Pv z.length σ H → D.nx σ H) :
    ∃ W : Nat → Nat → L2.St → Hp → Prop, (∃ m, W 0 m σ H) ∧ ∀ i m σ H, W i m σ H →
      ((Its z).stop i H ∧ D.nx σ H) ∨ ((Its z).go i H ∧ ∃ N : L2.St → Hp → Prop, (∀ σ' H', N σ' H' → ∃ m', m' < m ∧ W (i + 1) m' σ' H') ∧ ∀ x H', (Its z).yld i H x H' → g x σ H' fun σ2 H2 => tb { D with nx := N, ct := N, bk := D.nx } σ2 H2) := by
  refine ⟨fun i m σ H => m = z.length - i ∧ i ≤ z.length ∧ Pv i σ H, ⟨z.length, by simp, Nat.zero_le _, h0⟩, ?_⟩
  rintro i m σ H ⟨rfl, hi, p⟩
  by_cases hlt : i < z.length
  · refine .inr ⟨hlt, Pv (i + 1), fun σ' H' p' => ⟨z.length - (i + 1), by omega, rfl, hlt, p'⟩, fun x H' y => ?_⟩
    obtain ⟨e, c, hc, ex⟩ := y
    subst e ex
    exact hs i c σ _ (by show z.cps.toList[i]? = some c; rw [Array.getElem?_toList]; exact hc) p
  · have e : i = z.length := by omega
    subst e
    exact .inl ⟨Nat.le_refl _, hd σ H p⟩
end L2
namespace L2
open PySem
theorem pg_tupK {X : Cx} {K : PySem.W.Frag} {es : List Expr} {k : Nat} {t : TGs} {n : Nat} {pos : Pos} (hK : X.K = K) (hc : X.calm = true) (h : PGs X es t)
    (hn : (assignEach es X.env).length = n := by rfl) (hst : (assignEach es X.env).findIdx? (·.1) = none := by rfl) : PG X (.Tuple es k pos) (gTup K n t) := hK ▸ pg_tup hc h hn hst
end L2

namespace L2
open PySem PySem.Spec PyProof.Rows
theorem anyK {X : Cx} {K : PySem.W.Frag} (h : X.K = K) (hc : X.calm = true) : CallR X (.builtin "any") (rAny K) := h ▸ cr_any hc
end L2
namespace L2
open PySem
theorem lenK {X : Cx} {K : PySem.W.Frag} (h : X.K = K) : CallR X (.builtin "len") (fun xs H Q => ∃ p ys, xs = [V.ref p] ∧ (SqL K H p ys ∨ SqT K H p ys) ∧ Q (.int ((ys.length : Nat) : Int)) H) := h ▸ call_len_seq
theorem pi_listK {X : Cx} {K : PySem.W.Frag} {tg l : Expr} {tl : TE} (h : X.K = K) (hl : PE X l tl) : PI X tg l (iList K tl) := h ▸ pi_list hl
theorem pi_tupleK {X : Cx} {K : PySem.W.Frag} {tg l : Expr} {tl : TE} (h : X.K = K) (hl : PE X l tl) : PI X tg l (iTup K tl) := h ▸ pi_tup hl
def rListOf (K : PySem.W.Frag) : List V → Hp → VK → Prop := fun xs H Q => ∃ p ys, xs = [V.ref p] ∧ (SqL K H p ys ∨ SqT K H p ys) ∧ ∀ l, H l = none → Q (.ref l) (upd H l (.lst ys))
def rTupOf (K : PySem.W.Frag) : List V → Hp → VK → Prop := fun xs H Q => ∃ p ys, xs = [V.ref p] ∧ ((SqL K H p ys ∧ ∀ l, H l = none → Q (.ref l) (upd H l (.tup ys))) ∨ (SqT K H p ys ∧ Q (.ref p) H))
theorem listK {X : Cx} {K : PySem.W.Frag} (h : X.K = K) : CallR X (.type "list") (rListOf K) := h ▸ call_list_of
theorem tupleK {X : Cx} {K : PySem.W.Frag} (h : X.K = K) : CallR X (.type "tuple") (rTupOf K) := h ▸ call_tuple_of
end L2

namespace L2
open PySem PySem.Spec PyProof.Rows
theorem eqDK {X : Cx} {K : PySem.W.Frag} (h : X.K = K) (hu : X.A.units + 64 < cLine) : OpR X (compareOp .Eq) (rEqD K) := h ▸ op_eqD hu
theorem neDK {X : Cx} {K : PySem.W.Frag} (h : X.K = K) (hu : X.A.units + 64 < cLine) : OpR X (compareOp .NotEq) (rNeD K) := h ▸ op_neD hu
end L2

namespace L2
open PySem PySem.Spec PyProof.Rows
theorem FnOk.toR {P : Program} {w : World} {K : PySem.W.Frag} {mg : Str → Option Value} {base : Heap} {CX : CXT} {k : Nat} {f : Addr} {sp : Sp} {fd : FuncData} {ps : List Str} (F : FnOk P w K mg base CX k f fd ps sp) (hb : Binds K fd ps []) : FnR P w K mg base CX k f sp := (F.raw hb .nil).imp fun vs H Q E h => by rw [List.append_nil]; exact h
/-! ### o[k] = v by the class's own def; c(..), c a local name for a class -/
section
variable {X : Cx} {CX : CXT} {k : Nat} {f C : Addr} {fd : FuncData} {ps : List Str} {sp : Sp} {dvs : List V} {ds : List Value} {E : XK} {p pos : Pos} {e : Expr} {es : List Expr} {t : TA} {x : Str} {ta : TE}
def rSetI (C : Addr) (sp : Sp) (E : XK) : V → V → V → Hp → (Hp → Prop) → Prop := fun o i v H Q => ∃ a dx fs, o = .ref a ∧ H a = some (.ins C dx fs) ∧ sp [o, i, v] H (fun _ H' => Q H') E
theorem set_own (m : Meth X.K C "__setitem__" f) (hq : PySem.W.noSeq X.K C = true) (F : FnOk X.prog X.w X.K X.mg X.base CX k f fd ps sp) (hr : Room k X.A) (hb : Binds X.K fd ps []) (hx : Passes CX X E) : PSet X (rSetI C sp E) := by
  intro pins s σ H o i v ov iv u Q I ro ri rv h
  obtain ⟨a, dx, fs, rfl, ho, q⟩ := h
  cases ro
  obtain ⟨ox, od, J⟩ := inst_of I ho
  obtain ⟨mf, hF⟩ := I.fr
  exact PySem.W.ksp_setItem hF I.ok.mod.kin J hq m.at_ m.fn (thn (run_sub (us := [.ref a, iv, u]) (vs := [.ref a, i, v]) (stack_of I) F hr hb hx I (.cons rfl (.cons ri (.cons rv .nil))) q) fun w s' ⟨z', H', I', rz, qz⟩ => ⟨H', I', qz⟩)
def tMakeV (C : Addr) (sp : Sp) (dvs : List V) (E : XK) (ta : TE) (t : TA) : TE := fun σ H Q => ta σ H fun y H1 => y = .ref C ∧ tMake C sp dvs E t σ H1 Q
theorem pe_makeV (hn : PE X (.Name x p) ta) (M : Mk X.K C f) (F : FnOk X.prog X.w X.K X.mg X.base CX k f fd ps sp) (hr : Room (k + 1) X.A) (hb : Binds X.K fd ps ds) (hd : Vals dvs ds) (hx : Passes CX X E)
    (ha : PA X (e :: es) t) (he : starEach (e :: es) X.env = (false, eval e X.env) :: starEach es X.env := by rfl) (hpl : (backTo pos (starEach es X.env)).any (·.1) = false := by rfl) :
    PE X (.Call (.Name x p) (e :: es) [] pos) (tMakeV C sp dvs E ta t) := by
  refine ⟨fun pins s σ H Q I h => ?_⟩
  refine wpAny_Call_Name_kw (thn (hn.run pins s σ H _ I h) fun u s1 ⟨y, H1, I1, ry, ey, q⟩ => ?_)
  subst ey
  obtain rfl : u = Value.ref C := ry
  refine PySem.W.callWith_K (h₀ := X.base) I1.ok.mod.kin M.kp (thn (ha.run pos pins s1 σ H1 _ I1 q) fun us s2 ⟨vs, H2, I2, r, q⟩ => ⟨I2.kIn, ?_⟩) he hpl
  exact run_make M F hr hb hd hx I2 r q
end
end L2

namespace My
open PySem L2
abbrev PP : Program := PySem.Challenge.pw_weblocks_k54_whole_order_and_meets
def topS (i : Nat) : Stmt := PySem.Challenge.pw_weblocks_k54_whole_order_and_meets.main.body.getD i (.Pass ⟨0, 0, 0, 0⟩)
abbrev S_kinds : Stmt := topS 11
abbrev S_supply : Stmt := topS 12
abbrev S_fits : Stmt := topS 13
abbrev S_first_rung : Stmt := topS 14
abbrev S_ladder : Stmt := topS 15
abbrev S_reached : Stmt := topS 16
abbrev S_rank : Stmt := topS 19
abbrev S_needed : Stmt := topS 20
abbrev S_higher : Stmt := topS 22
abbrev S_Way_init : Stmt := inClass (topS 24) 1
abbrev S_Way_needs : Stmt := inClass (topS 24) 2
abbrev S_Way_permits : Stmt := inClass (topS 24) 3
abbrev S_Way_eq : Stmt := inClass (topS 24) 5
abbrev S_Way_le : Stmt := inClass (topS 24) 6
abbrev S_Way_and : Stmt := inClass (topS 24) 8
abbrev S_trimmed : Stmt := topS 26
abbrev S_same_shape : Stmt := topS 28
abbrev S_met : Stmt := topS 29
abbrev S_either : Stmt := topS 30
abbrev S_all_counts : Stmt := topS 31
abbrev S_possible : Stmt := topS 32
abbrev S_permitted : Stmt := topS 33
abbrev S_gap_at : Stmt := topS 34
abbrev S_gap : Stmt := topS 35
abbrev S_included : Stmt := topS 36
abbrev S_Policy_init : Stmt := inClass (topS 38) 0
abbrev S_Policy_getitem : Stmt := inClass (topS 38) 3
abbrev S_Policy_setitem : Stmt := inClass (topS 38) 4
abbrev S_Policy_starts_at : Stmt := inClass (topS 38) 6
abbrev S_Policy_ways_of : Stmt := inClass (topS 38) 7
abbrev S_Policy_starts : Stmt := inClass (topS 38) 8
abbrev S_Policy_and : Stmt := inClass (topS 38) 11
abbrev S_Policy_or : Stmt := inClass (topS 38) 12
abbrev S_is_mark : Stmt := topS 42
abbrev S_sound_row : Stmt := topS 43
abbrev S_barren : Stmt := topS 44
abbrev S_Shape_init : Stmt := inClass (topS 45) 2
abbrev S_Shape_getitem : Stmt := inClass (topS 45) 3
abbrev S_Shape_iter : Stmt := inClass (topS 45) 4
abbrev S_Shape_len : Stmt := inClass (topS 45) 5
abbrev S_Shape_eq : Stmt := inClass (topS 45) 7
abbrev S_Shape_modes_of : Stmt := inClass (topS 45) 10
abbrev S__law_draws : Stmt := topS 47
abbrev S__law_take : Stmt := topS 48
abbrev S__law_same : Stmt := topS 49
abbrev S__law_marks : Stmt := topS 50
abbrev S__law_rows : Stmt := topS 51
abbrev S__law_way : Stmt := topS 52
abbrev S__law_rules : Stmt := topS 53
abbrev S__law_shape : Stmt := topS 54
abbrev S__law_way_made : Stmt := topS 55
abbrev S__law_policy : Stmt := topS 56
abbrev S__law_cut : Stmt := topS 57
abbrev S__law_loosened : Stmt := topS 58
abbrev S__law_tightened : Stmt := topS 59
abbrev S__law_changed : Stmt := topS 60
abbrev S__law_both : Stmt := topS 61
abbrev S__law_table : Stmt := topS 62
abbrev S__law_table_good : Stmt := topS 63
abbrev S_law : Stmt := topS 64
abbrev S_BadShape_init : Stmt := inClass (topS 4) 0
abbrev S_UnknownMark_init : Stmt := inClass (topS 5) 0
abbrev S_TooLarge_init : Stmt := inClass (topS 7) 0
theorem sc_kinds : FnScope ["policy", "found", "mark", "mode"] ["policy"] (defScope S_kinds) := ⟨rfl, rfl, rfl, by decide +kernel, rfl, by decide +kernel, by decide +kernel⟩
theorem sc_supply : FnScope ["shape", "mark", "kind", "reached", "seen", "owned", "shared", "parent"] ["shape", "mark", "kind", "reached"] (defScope S_supply) := ⟨rfl, rfl, rfl, by decide +kernel, rfl, by decide +kernel, by decide +kernel⟩
theorem sc_fits : FnScope ["shape", "way", "mark", "parents", "kind", "reached", "_", "owned", "seen", "seen_supply", "own_supply"] ["shape", "way", "mark", "parents", "kind", "reached"] (defScope S_fits) := ⟨rfl, rfl, rfl, by decide +kernel, rfl, by decide +kernel, by decide +kernel⟩
theorem sc_first_rung : FnScope ["policy", "mark", "kind", "names", "row", "index", "way", "parents"] ["policy", "mark", "kind", "names"] (defScope S_first_rung) := ⟨rfl, rfl, rfl, by decide +kernel, rfl, by decide +kernel, by decide +kernel⟩
theorem sc_ladder : FnScope ["policy", "kind", "rungs", "names", "grown", "mark", "rung"] ["policy", "kind"] (defScope S_ladder) := ⟨rfl, rfl, rfl, by decide +kernel, rfl, by decide +kernel, by decide +kernel⟩
theorem sc_reached : FnScope ["policy", "kind", "names", "rung", "mark"] ["policy", "kind"] (defScope S_reached) := ⟨rfl, rfl, rfl, by decide +kernel, rfl, by decide +kernel, by decide +kernel⟩
theorem sc_rank : FnScope ["level", "place", "word"] ["level"] (defScope S_rank) := ⟨rfl, rfl, rfl, by decide +kernel, rfl, by decide +kernel, by decide +kernel⟩
theorem sc_needed : FnScope ["level", "parents", "place"] ["level", "parents"] (defScope S_needed) := ⟨rfl, rfl, rfl, by decide +kernel, rfl, by decide +kernel, by decide +kernel⟩
theorem sc_higher : FnScope ["level", "other"] ["level", "other"] (defScope S_higher) := ⟨rfl, rfl, rfl, by decide +kernel, rfl, by decide +kernel, by decide +kernel⟩
theorem sc_Way_init : FnScope ["self", "held", "owned", "seen", "early", "by_held", "by_owned", "by_seen"] ["self", "held", "owned", "seen", "early"] (defScope S_Way_init) := ⟨rfl, rfl, rfl, by decide +kernel, rfl, by decide +kernel, by decide +kernel⟩
theorem sc_Way_needs : FnScope ["self", "parents"] ["self", "parents"] (defScope S_Way_needs) := ⟨rfl, rfl, rfl, by decide +kernel, rfl, by decide +kernel, by decide +kernel⟩
theorem sc_Way_permits : FnScope ["self", "held", "owned", "seen", "parents", "loose", "by_held", "by_owned", "by_seen"] ["self", "held", "owned", "seen", "parents", "loose"] (defScope S_Way_permits) := ⟨rfl, rfl, rfl, by decide +kernel, rfl, by decide +kernel, by decide +kernel⟩
theorem sc_Way_eq : FnScope ["self", "other"] ["self", "other"] (defScope S_Way_eq) := ⟨rfl, rfl, rfl, by decide +kernel, rfl, by decide +kernel, by decide +kernel⟩
theorem sc_Way_le : FnScope ["self", "other"] ["self", "other"] (defScope S_Way_le) := ⟨rfl, rfl, rfl, by decide +kernel, rfl, by decide +kernel, by decide +kernel⟩
theorem sc_Way_and : FnScope ["self", "other", "early"] ["self", "other"] (defScope S_Way_and) := ⟨rfl, rfl, rfl, by decide +kernel, rfl, by decide +kernel, by decide +kernel⟩
theorem sc_trimmed : FnScope ["ways", "kept", "place", "way", "covered", "other_place", "other"] ["ways"] (defScope S_trimmed) := ⟨rfl, rfl, rfl, by decide +kernel, rfl, by decide +kernel, by decide +kernel⟩
theorem sc_same_shape : FnScope ["policy", "other"] ["policy", "other"] (defScope S_same_shape) := ⟨rfl, rfl, rfl, by decide +kernel, rfl, by decide +kernel, by decide +kernel⟩
theorem sc_met : FnScope ["policy", "other", "rows", "mark", "ways", "way", "further", "start"] ["policy", "other"] (defScope S_met) := ⟨rfl, rfl, rfl, by decide +kernel, rfl, by decide +kernel, by decide +kernel⟩
theorem sc_either : FnScope ["policy", "other", "rows", "mark", "ways", "start"] ["policy", "other"] (defScope S_either) := ⟨rfl, rfl, rfl, by decide +kernel, rfl, by decide +kernel, by decide +kernel⟩
theorem sc_all_counts : FnScope ["parents", "found", "held", "owned", "seen"] ["parents"] (defScope S_all_counts) := ⟨rfl, rfl, rfl, by decide +kernel, rfl, by decide +kernel, by decide +kernel⟩
theorem sc_possible : FnScope ["counts", "loose", "supplies", "more", "held", "owned", "seen", "seen_supply", "own_supply", "shared_supply"] ["counts", "loose", "supplies", "more"] (defScope S_possible) := ⟨rfl, rfl, rfl, by decide +kernel, rfl, by decide +kernel, by decide +kernel⟩
theorem sc_permitted : FnScope ["policy", "mark", "parents", "counts", "loose", "held", "owned", "seen", "way"] ["policy", "mark", "parents", "counts", "loose"] (defScope S_permitted) := ⟨rfl, rfl, rfl, by decide +kernel, rfl, by decide +kernel, by decide +kernel⟩
theorem sc_gap_at : FnScope ["policy", "other", "mark", "supplies", "more", "row", "parents", "counts", "loose"] ["policy", "other", "mark", "supplies", "more"] (defScope S_gap_at) := ⟨rfl, rfl, rfl, by decide +kernel, rfl, by decide +kernel, by decide +kernel⟩
theorem sc_gap : FnScope ["policy", "other", "mark", "both", "kind", "names", "found"] ["policy", "other"] (defScope S_gap) := ⟨rfl, rfl, rfl, by decide +kernel, rfl, by decide +kernel, by decide +kernel⟩
theorem sc_included : FnScope ["policy", "other"] ["policy", "other"] (defScope S_included) := ⟨rfl, rfl, rfl, by decide +kernel, rfl, by decide +kernel, by decide +kernel⟩
theorem sc_Policy_init : FnScope ["self", "shape", "rows", "starts", "table", "mark", "start", "ways"] ["self", "shape", "rows"] (defScope S_Policy_init) := ⟨rfl, rfl, rfl, by decide +kernel, rfl, by decide +kernel, by decide +kernel⟩
theorem sc_Policy_getitem : FnScope ["self", "mark"] ["self", "mark"] (defScope S_Policy_getitem) := ⟨rfl, rfl, rfl, by decide +kernel, rfl, by decide +kernel, by decide +kernel⟩
theorem sc_Policy_setitem : FnScope ["self", "mark", "rule", "start", "ways"] ["self", "mark", "rule"] (defScope S_Policy_setitem) := ⟨rfl, rfl, rfl, by decide +kernel, rfl, by decide +kernel, by decide +kernel⟩
theorem sc_Policy_starts_at : FnScope ["self", "mark"] ["self", "mark"] (defScope S_Policy_starts_at) := ⟨rfl, rfl, rfl, by decide +kernel, rfl, by decide +kernel, by decide +kernel⟩
theorem sc_Policy_ways_of : FnScope ["self", "mark"] ["self", "mark"] (defScope S_Policy_ways_of) := ⟨rfl, rfl, rfl, by decide +kernel, rfl, by decide +kernel, by decide +kernel⟩
theorem sc_Policy_starts : FnScope ["self", "mark"] ["self"] (defScope S_Policy_starts) := ⟨rfl, rfl, rfl, by decide +kernel, rfl, by decide +kernel, by decide +kernel⟩
theorem sc_Policy_and : FnScope ["self", "other"] ["self", "other"] (defScope S_Policy_and) := ⟨rfl, rfl, rfl, by decide +kernel, rfl, by decide +kernel, by decide +kernel⟩
theorem sc_Policy_or : FnScope ["self", "other"] ["self", "other"] (defScope S_Policy_or) := ⟨rfl, rfl, rfl, by decide +kernel, rfl, by decide +kernel, by decide +kernel⟩
theorem sc_is_mark : FnScope ["text", "sign"] ["text"] (defScope S_is_mark) := ⟨rfl, rfl, rfl, by decide +kernel, rfl, by decide +kernel, by decide +kernel⟩
theorem sc_sound_row : FnScope ["row", "before", "mark", "parents", "least", "most", "shared", "good", "place", "parent"] ["row", "before"] (defScope S_sound_row) := ⟨rfl, rfl, rfl, by decide +kernel, rfl, by decide +kernel, by decide +kernel⟩
theorem sc_barren : FnScope ["rows", "known", "grown", "mark", "parents", "least", "_", "parent", "row"] ["rows"] (defScope S_barren) := ⟨rfl, rfl, rfl, by decide +kernel, rfl, by decide +kernel, by decide +kernel⟩
theorem sc_Shape_init : FnScope ["self", "rows", "listed", "marks", "row", "parent", "lost"] ["self", "rows"] (defScope S_Shape_init) := ⟨rfl, rfl, rfl, by decide +kernel, rfl, by decide +kernel, by decide +kernel⟩
theorem sc_Shape_getitem : FnScope ["self", "mark", "row"] ["self", "mark"] (defScope S_Shape_getitem) := ⟨rfl, rfl, rfl, by decide +kernel, rfl, by decide +kernel, by decide +kernel⟩
theorem sc_Shape_iter : FnScope ["self"] ["self"] (defScope S_Shape_iter) := ⟨rfl, rfl, rfl, by decide +kernel, rfl, by decide +kernel, by decide +kernel⟩
theorem sc_Shape_len : FnScope ["self"] ["self"] (defScope S_Shape_len) := ⟨rfl, rfl, rfl, by decide +kernel, rfl, by decide +kernel, by decide +kernel⟩
theorem sc_Shape_eq : FnScope ["self", "other"] ["self", "other"] (defScope S_Shape_eq) := ⟨rfl, rfl, rfl, by decide +kernel, rfl, by decide +kernel, by decide +kernel⟩
theorem sc_Shape_modes_of : FnScope ["self", "mark"] ["self", "mark"] (defScope S_Shape_modes_of) := ⟨rfl, rfl, rfl, by decide +kernel, rfl, by decide +kernel, by decide +kernel⟩
theorem sc__law_draws : FnScope ["_law_script", "_law_draws_here", "_law_cell", "_law_rest", "_law_k", "_law_mixed"] ["_law_script"] (defScope S__law_draws) := ⟨rfl, rfl, rfl, by decide +kernel, rfl, by decide +kernel, by decide +kernel⟩
theorem sc__law_take : FnScope ["_law_draws_here", "_law_at", "_law_size"] ["_law_draws_here", "_law_at", "_law_size"] (defScope S__law_take) := ⟨rfl, rfl, rfl, by decide +kernel, rfl, by decide +kernel, by decide +kernel⟩
theorem sc__law_same : FnScope ["_law_actual", "_law_expected", "_law_k"] ["_law_actual", "_law_expected"] (defScope S__law_same) := ⟨rfl, rfl, rfl, by decide +kernel, rfl, by decide +kernel, by decide +kernel⟩
theorem sc__law_marks : FnScope ["_law_draws_here", "_law_at", "_law_count", "_law_letters", "_law_shift", "_law_front", "_law_marks_here", "_law_k", "_law_size", "_law_first", "_law_rest", "_law_j", "_law_sign"] ["_law_draws_here", "_law_at", "_law_count"] (defScope S__law_marks) := ⟨rfl, rfl, rfl, by decide +kernel, rfl, by decide +kernel, by decide +kernel⟩
theorem sc__law_rows : FnScope ["_law_draws_here", "_law_at", "_law_exclusive", "_law_marks_here", "_law_rows_here", "_law_k", "_law_mask", "_law_parents", "_law_j", "_law_most", "_law_least", "_law_mark", "_law_shared"] ["_law_draws_here", "_law_at", "_law_exclusive"] (defScope S__law_rows) := ⟨rfl, rfl, rfl, by decide +kernel, rfl, by decide +kernel, by decide +kernel⟩
theorem sc__law_way : FnScope ["_law_draws_here", "_law_at", "_law_menu", "_law_choice", "_law_owned", "_law_held", "_law_seen"] ["_law_draws_here", "_law_at"] (defScope S__law_way) := ⟨rfl, rfl, rfl, by decide +kernel, rfl, by decide +kernel, by decide +kernel⟩
theorem sc__law_rules : FnScope ["_law_draws_here", "_law_at", "_law_rows_here", "_law_rules_here", "_law_row", "_law_start", "_law_count", "_law_ways", "_law_k"] ["_law_draws_here", "_law_at", "_law_rows_here"] (defScope S__law_rules) := ⟨rfl, rfl, rfl, by decide +kernel, rfl, by decide +kernel, by decide +kernel⟩
theorem sc__law_shape : FnScope ["_law_rows_here", "_law_made", "_law_row"] ["_law_rows_here"] (defScope S__law_shape) := ⟨rfl, rfl, rfl, by decide +kernel, rfl, by decide +kernel, by decide +kernel⟩
theorem sc__law_way_made : FnScope ["_law_way_here", "_law_words"] ["_law_way_here"] (defScope S__law_way_made) := ⟨rfl, rfl, rfl, by decide +kernel, rfl, by decide +kernel, by decide +kernel⟩
theorem sc__law_policy : FnScope ["_law_shape_here", "_law_rules_here", "_law_policy_here", "_law_mark", "_law_way_here"] ["_law_shape_here", "_law_rules_here"] (defScope S__law_policy) := ⟨rfl, rfl, rfl, by decide +kernel, rfl, by decide +kernel, by decide +kernel⟩
theorem sc__law_cut : FnScope ["_law_rows_here", "_law_count", "_law_kept", "_law_names", "_law_row", "_law_cut_here", "_law_parents", "_law_mark"] ["_law_rows_here", "_law_count"] (defScope S__law_cut) := ⟨rfl, rfl, rfl, by decide +kernel, rfl, by decide +kernel, by decide +kernel⟩
theorem sc__law_loosened : FnScope ["_law_draws_here", "_law_at", "_law_rules_here", "_law_marks_here", "_law_mark", "_law_begin", "_law_ways", "_law_way_here", "_law_choice", "_law_changed_here", "_law_name"] ["_law_draws_here", "_law_at", "_law_rules_here"] (defScope S__law_loosened) := ⟨rfl, rfl, rfl, by decide +kernel, rfl, by decide +kernel, by decide +kernel⟩
theorem sc__law_tightened : FnScope ["_law_draws_here", "_law_at", "_law_rules_here", "_law_marks_here", "_law_mark", "_law_begin", "_law_ways", "_law_way_here", "_law_choice", "_law_changed_here", "_law_name"] ["_law_draws_here", "_law_at", "_law_rules_here"] (defScope S__law_tightened) := ⟨rfl, rfl, rfl, by decide +kernel, rfl, by decide +kernel, by decide +kernel⟩
theorem sc__law_changed : FnScope ["_law_draws_here", "_law_at", "_law_rules_here"] ["_law_draws_here", "_law_at", "_law_rules_here"] (defScope S__law_changed) := ⟨rfl, rfl, rfl, by decide +kernel, rfl, by decide +kernel, by decide +kernel⟩
theorem sc__law_both : FnScope ["_law_rules_here", "_law_other", "_law_both_here", "_law_mark", "_law_ways", "_law_way_here"] ["_law_rules_here", "_law_other"] (defScope S__law_both) := ⟨rfl, rfl, rfl, by decide +kernel, rfl, by decide +kernel, by decide +kernel⟩
theorem sc__law_table : FnScope ["_law_made", "_law_table_here", "_law_one", "_law_line", "_law_two"] ["_law_made"] (defScope S__law_table) := ⟨rfl, rfl, rfl, by decide +kernel, rfl, by decide +kernel, by decide +kernel⟩
theorem sc__law_table_good : FnScope ["_law_table_here", "_law_p", "_law_q", "_law_r"] ["_law_table_here"] (defScope S__law_table_good) := ⟨rfl, rfl, rfl, by decide +kernel, rfl, by decide +kernel, by decide +kernel⟩
theorem sc_law : FnScope ["_law_script", "_law_draws_here", "_law_at", "_law_rows_here", "_law_first", "_law_looser", "_law_tighter", "_law_second", "_law_choice", "_law_third", "_law_made", "_law_rules_here", "_law_table_here", "_law_meet", "_law_join", "_law_k", "_law_bounds"] ["_law_script"] (defScope S_law) := ⟨rfl, rfl, rfl, by decide +kernel, rfl, by decide +kernel, by decide +kernel⟩
structure Txt (K : PySem.W.Frag) (mg : Str → Option Value) where
  a_kinds : Addr
  fd_kinds : FuncData
  F_kinds : Fun K "kinds" "kinds" S_kinds a_kinds fd_kinds
  b_kinds : Binds K fd_kinds ["policy"] []
  g_kinds : mg "kinds" = some (.ref a_kinds)
  a_supply : Addr
  fd_supply : FuncData
  F_supply : Fun K "supply" "supply" S_supply a_supply fd_supply
  b_supply : Binds K fd_supply ["shape", "mark", "kind", "reached"] []
  g_supply : mg "supply" = some (.ref a_supply)
  a_fits : Addr
  fd_fits : FuncData
  F_fits : Fun K "fits" "fits" S_fits a_fits fd_fits
  b_fits : Binds K fd_fits ["shape", "way", "mark", "parents", "kind", "reached"] []
  g_fits : mg "fits" = some (.ref a_fits)
  a_first_rung : Addr
  fd_first_rung : FuncData
  F_first_rung : Fun K "first_rung" "first_rung" S_first_rung a_first_rung fd_first_rung
  b_first_rung : Binds K fd_first_rung ["policy", "mark", "kind", "names"] []
  g_first_rung : mg "first_rung" = some (.ref a_first_rung)
  a_ladder : Addr
  fd_ladder : FuncData
  F_ladder : Fun K "ladder" "ladder" S_ladder a_ladder fd_ladder
  b_ladder : Binds K fd_ladder ["policy", "kind"] []
  g_ladder : mg "ladder" = some (.ref a_ladder)
  a_reached : Addr
  fd_reached : FuncData
  F_reached : Fun K "reached" "reached" S_reached a_reached fd_reached
  b_reached : Binds K fd_reached ["policy", "kind"] []
  g_reached : mg "reached" = some (.ref a_reached)
  a_rank : Addr
  fd_rank : FuncData
  F_rank : Fun K "rank" "rank" S_rank a_rank fd_rank
  b_rank : Binds K fd_rank ["level"] []
  g_rank : mg "rank" = some (.ref a_rank)
  a_needed : Addr
  fd_needed : FuncData
  F_needed : Fun K "needed" "needed" S_needed a_needed fd_needed
  b_needed : Binds K fd_needed ["level", "parents"] []
  g_needed : mg "needed" = some (.ref a_needed)
  a_higher : Addr
  fd_higher : FuncData
  F_higher : Fun K "higher" "higher" S_higher a_higher fd_higher
  b_higher : Binds K fd_higher ["level", "other"] []
  g_higher : mg "higher" = some (.ref a_higher)
  a_Way_init : Addr
  fd_Way_init : FuncData
  F_Way_init : FunD K "__init__" "Way.__init__" (defArgs S_Way_init) (defBody S_Way_init) (defScope S_Way_init) [.str "none", .str "none", .str "none"] [("early", .bl false)] a_Way_init fd_Way_init
  a_Way_needs : Addr
  fd_Way_needs : FuncData
  F_Way_needs : Fun K "needs" "Way.needs" S_Way_needs a_Way_needs fd_Way_needs
  b_Way_needs : Binds K fd_Way_needs ["self", "parents"] []
  a_Way_permits : Addr
  fd_Way_permits : FuncData
  F_Way_permits : FunD K "permits" "Way.permits" (defArgs S_Way_permits) (defBody S_Way_permits) (defScope S_Way_permits) [] [("loose", .bl false)] a_Way_permits fd_Way_permits
  a_Way_eq : Addr
  fd_Way_eq : FuncData
  F_Way_eq : Fun K "__eq__" "Way.__eq__" S_Way_eq a_Way_eq fd_Way_eq
  b_Way_eq : Binds K fd_Way_eq ["self", "other"] []
  a_Way_le : Addr
  fd_Way_le : FuncData
  F_Way_le : Fun K "__le__" "Way.__le__" S_Way_le a_Way_le fd_Way_le
  b_Way_le : Binds K fd_Way_le ["self", "other"] []
  a_Way_and : Addr
  fd_Way_and : FuncData
  F_Way_and : Fun K "__and__" "Way.__and__" S_Way_and a_Way_and fd_Way_and
  b_Way_and : Binds K fd_Way_and ["self", "other"] []
  a_trimmed : Addr
  fd_trimmed : FuncData
  F_trimmed : Fun K "trimmed" "trimmed" S_trimmed a_trimmed fd_trimmed
  b_trimmed : Binds K fd_trimmed ["ways"] []
  g_trimmed : mg "trimmed" = some (.ref a_trimmed)
  a_same_shape : Addr
  fd_same_shape : FuncData
  F_same_shape : Fun K "same_shape" "same_shape" S_same_shape a_same_shape fd_same_shape
  b_same_shape : Binds K fd_same_shape ["policy", "other"] []
  g_same_shape : mg "same_shape" = some (.ref a_same_shape)
  a_met : Addr
  fd_met : FuncData
  F_met : Fun K "met" "met" S_met a_met fd_met
  b_met : Binds K fd_met ["policy", "other"] []
  g_met : mg "met" = some (.ref a_met)
  a_either : Addr
  fd_either : FuncData
  F_either : Fun K "either" "either" S_either a_either fd_either
  b_either : Binds K fd_either ["policy", "other"] []
  g_either : mg "either" = some (.ref a_either)
  a_all_counts : Addr
  fd_all_counts : FuncData
  F_all_counts : Fun K "all_counts" "all_counts" S_all_counts a_all_counts fd_all_counts
  b_all_counts : Binds K fd_all_counts ["parents"] []
  g_all_counts : mg "all_counts" = some (.ref a_all_counts)
  a_possible : Addr
  fd_possible : FuncData
  F_possible : Fun K "possible" "possible" S_possible a_possible fd_possible
  b_possible : Binds K fd_possible ["counts", "loose", "supplies", "more"] []
  g_possible : mg "possible" = some (.ref a_possible)
  a_permitted : Addr
  fd_permitted : FuncData
  F_permitted : Fun K "permitted" "permitted" S_permitted a_permitted fd_permitted
  b_permitted : Binds K fd_permitted ["policy", "mark", "parents", "counts", "loose"] []
  g_permitted : mg "permitted" = some (.ref a_permitted)
  a_gap_at : Addr
  fd_gap_at : FuncData
  F_gap_at : Fun K "gap_at" "gap_at" S_gap_at a_gap_at fd_gap_at
  b_gap_at : Binds K fd_gap_at ["policy", "other", "mark", "supplies", "more"] []
  g_gap_at : mg "gap_at" = some (.ref a_gap_at)
  a_gap : Addr
  fd_gap : FuncData
  F_gap : Fun K "gap" "gap" S_gap a_gap fd_gap
  b_gap : Binds K fd_gap ["policy", "other"] []
  g_gap : mg "gap" = some (.ref a_gap)
  a_included : Addr
  fd_included : FuncData
  F_included : Fun K "included" "included" S_included a_included fd_included
  b_included : Binds K fd_included ["policy", "other"] []
  g_included : mg "included" = some (.ref a_included)
  a_Policy_init : Addr
  fd_Policy_init : FuncData
  ed_Policy_init_0 : Addr
  qe_Policy_init_0 : ∀ H : Hp, SqT K H ed_Policy_init_0 []
  F_Policy_init : FunD K "__init__" "Policy.__init__" (defArgs S_Policy_init) (defBody S_Policy_init) (defScope S_Policy_init) [.ref ed_Policy_init_0] [] a_Policy_init fd_Policy_init
  a_Policy_getitem : Addr
  fd_Policy_getitem : FuncData
  F_Policy_getitem : Fun K "__getitem__" "Policy.__getitem__" S_Policy_getitem a_Policy_getitem fd_Policy_getitem
  b_Policy_getitem : Binds K fd_Policy_getitem ["self", "mark"] []
  a_Policy_setitem : Addr
  fd_Policy_setitem : FuncData
  F_Policy_setitem : Fun K "__setitem__" "Policy.__setitem__" S_Policy_setitem a_Policy_setitem fd_Policy_setitem
  b_Policy_setitem : Binds K fd_Policy_setitem ["self", "mark", "rule"] []
  a_Policy_starts_at : Addr
  fd_Policy_starts_at : FuncData
  F_Policy_starts_at : Fun K "starts_at" "Policy.starts_at" S_Policy_starts_at a_Policy_starts_at fd_Policy_starts_at
  b_Policy_starts_at : Binds K fd_Policy_starts_at ["self", "mark"] []
  a_Policy_ways_of : Addr
  fd_Policy_ways_of : FuncData
  F_Policy_ways_of : Fun K "ways_of" "Policy.ways_of" S_Policy_ways_of a_Policy_ways_of fd_Policy_ways_of
  b_Policy_ways_of : Binds K fd_Policy_ways_of ["self", "mark"] []
  a_Policy_starts : Addr
  fd_Policy_starts : FuncData
  F_Policy_starts : Fun K "starts" "Policy.starts" S_Policy_starts a_Policy_starts fd_Policy_starts
  b_Policy_starts : Binds K fd_Policy_starts ["self"] []
  a_Policy_and : Addr
  fd_Policy_and : FuncData
  F_Policy_and : Fun K "__and__" "Policy.__and__" S_Policy_and a_Policy_and fd_Policy_and
  b_Policy_and : Binds K fd_Policy_and ["self", "other"] []
  a_Policy_or : Addr
  fd_Policy_or : FuncData
  F_Policy_or : Fun K "__or__" "Policy.__or__" S_Policy_or a_Policy_or fd_Policy_or
  b_Policy_or : Binds K fd_Policy_or ["self", "other"] []
  a_is_mark : Addr
  fd_is_mark : FuncData
  F_is_mark : Fun K "is_mark" "is_mark" S_is_mark a_is_mark fd_is_mark
  b_is_mark : Binds K fd_is_mark ["text"] []
  g_is_mark : mg "is_mark" = some (.ref a_is_mark)
  a_sound_row : Addr
  fd_sound_row : FuncData
  F_sound_row : Fun K "sound_row" "sound_row" S_sound_row a_sound_row fd_sound_row
  b_sound_row : Binds K fd_sound_row ["row", "before"] []
  g_sound_row : mg "sound_row" = some (.ref a_sound_row)
  a_barren : Addr
  fd_barren : FuncData
  F_barren : Fun K "barren" "barren" S_barren a_barren fd_barren
  b_barren : Binds K fd_barren ["rows"] []
  g_barren : mg "barren" = some (.ref a_barren)
  a_Shape_init : Addr
  fd_Shape_init : FuncData
  F_Shape_init : Fun K "__init__" "Shape.__init__" S_Shape_init a_Shape_init fd_Shape_init
  bs_Shape_init : StarB fd_Shape_init ["self"] "rows"
  a_Shape_getitem : Addr
  fd_Shape_getitem : FuncData
  F_Shape_getitem : Fun K "__getitem__" "Shape.__getitem__" S_Shape_getitem a_Shape_getitem fd_Shape_getitem
  b_Shape_getitem : Binds K fd_Shape_getitem ["self", "mark"] []
  a_Shape_iter : Addr
  fd_Shape_iter : FuncData
  F_Shape_iter : Fun K "__iter__" "Shape.__iter__" S_Shape_iter a_Shape_iter fd_Shape_iter
  b_Shape_iter : Binds K fd_Shape_iter ["self"] []
  a_Shape_len : Addr
  fd_Shape_len : FuncData
  F_Shape_len : Fun K "__len__" "Shape.__len__" S_Shape_len a_Shape_len fd_Shape_len
  b_Shape_len : Binds K fd_Shape_len ["self"] []
  a_Shape_eq : Addr
  fd_Shape_eq : FuncData
  F_Shape_eq : Fun K "__eq__" "Shape.__eq__" S_Shape_eq a_Shape_eq fd_Shape_eq
  b_Shape_eq : Binds K fd_Shape_eq ["self", "other"] []
  a_Shape_modes_of : Addr
  fd_Shape_modes_of : FuncData
  F_Shape_modes_of : Fun K "modes_of" "Shape.modes_of" S_Shape_modes_of a_Shape_modes_of fd_Shape_modes_of
  b_Shape_modes_of : Binds K fd_Shape_modes_of ["self", "mark"] []
  a__law_draws : Addr
  fd__law_draws : FuncData
  F__law_draws : Fun K "_law_draws" "_law_draws" S__law_draws a__law_draws fd__law_draws
  b__law_draws : Binds K fd__law_draws ["_law_script"] []
  g__law_draws : mg "_law_draws" = some (.ref a__law_draws)
  a__law_take : Addr
  fd__law_take : FuncData
  F__law_take : Fun K "_law_take" "_law_take" S__law_take a__law_take fd__law_take
  b__law_take : Binds K fd__law_take ["_law_draws_here", "_law_at", "_law_size"] []
  g__law_take : mg "_law_take" = some (.ref a__law_take)
  a__law_same : Addr
  fd__law_same : FuncData
  F__law_same : Fun K "_law_same" "_law_same" S__law_same a__law_same fd__law_same
  b__law_same : Binds K fd__law_same ["_law_actual", "_law_expected"] []
  g__law_same : mg "_law_same" = some (.ref a__law_same)
  a__law_marks : Addr
  fd__law_marks : FuncData
  F__law_marks : Fun K "_law_marks" "_law_marks" S__law_marks a__law_marks fd__law_marks
  b__law_marks : Binds K fd__law_marks ["_law_draws_here", "_law_at", "_law_count"] []
  g__law_marks : mg "_law_marks" = some (.ref a__law_marks)
  a__law_rows : Addr
  fd__law_rows : FuncData
  F__law_rows : Fun K "_law_rows" "_law_rows" S__law_rows a__law_rows fd__law_rows
  b__law_rows : Binds K fd__law_rows ["_law_draws_here", "_law_at", "_law_exclusive"] []
  g__law_rows : mg "_law_rows" = some (.ref a__law_rows)
  a__law_way : Addr
  fd__law_way : FuncData
  F__law_way : Fun K "_law_way" "_law_way" S__law_way a__law_way fd__law_way
  b__law_way : Binds K fd__law_way ["_law_draws_here", "_law_at"] []
  g__law_way : mg "_law_way" = some (.ref a__law_way)
  a__law_rules : Addr
  fd__law_rules : FuncData
  F__law_rules : Fun K "_law_rules" "_law_rules" S__law_rules a__law_rules fd__law_rules
  b__law_rules : Binds K fd__law_rules ["_law_draws_here", "_law_at", "_law_rows_here"] []
  g__law_rules : mg "_law_rules" = some (.ref a__law_rules)
  a__law_shape : Addr
  fd__law_shape : FuncData
  F__law_shape : Fun K "_law_shape" "_law_shape" S__law_shape a__law_shape fd__law_shape
  b__law_shape : Binds K fd__law_shape ["_law_rows_here"] []
  g__law_shape : mg "_law_shape" = some (.ref a__law_shape)
  a__law_way_made : Addr
  fd__law_way_made : FuncData
  F__law_way_made : Fun K "_law_way_made" "_law_way_made" S__law_way_made a__law_way_made fd__law_way_made
  b__law_way_made : Binds K fd__law_way_made ["_law_way_here"] []
  g__law_way_made : mg "_law_way_made" = some (.ref a__law_way_made)
  a__law_policy : Addr
  fd__law_policy : FuncData
  F__law_policy : Fun K "_law_policy" "_law_policy" S__law_policy a__law_policy fd__law_policy
  b__law_policy : Binds K fd__law_policy ["_law_shape_here", "_law_rules_here"] []
  g__law_policy : mg "_law_policy" = some (.ref a__law_policy)
  a__law_cut : Addr
  fd__law_cut : FuncData
  F__law_cut : Fun K "_law_cut" "_law_cut" S__law_cut a__law_cut fd__law_cut
  b__law_cut : Binds K fd__law_cut ["_law_rows_here", "_law_count"] []
  g__law_cut : mg "_law_cut" = some (.ref a__law_cut)
  a__law_loosened : Addr
  fd__law_loosened : FuncData
  F__law_loosened : Fun K "_law_loosened" "_law_loosened" S__law_loosened a__law_loosened fd__law_loosened
  b__law_loosened : Binds K fd__law_loosened ["_law_draws_here", "_law_at", "_law_rules_here"] []
  g__law_loosened : mg "_law_loosened" = some (.ref a__law_loosened)
  a__law_tightened : Addr
  fd__law_tightened : FuncData
  F__law_tightened : Fun K "_law_tightened" "_law_tightened" S__law_tightened a__law_tightened fd__law_tightened
  b__law_tightened : Binds K fd__law_tightened ["_law_draws_here", "_law_at", "_law_rules_here"] []
  g__law_tightened : mg "_law_tightened" = some (.ref a__law_tightened)
  a__law_changed : Addr
  fd__law_changed : FuncData
  F__law_changed : Fun K "_law_changed" "_law_changed" S__law_changed a__law_changed fd__law_changed
  b__law_changed : Binds K fd__law_changed ["_law_draws_here", "_law_at", "_law_rules_here"] []
  g__law_changed : mg "_law_changed" = some (.ref a__law_changed)
  a__law_both : Addr
  fd__law_both : FuncData
  F__law_both : Fun K "_law_both" "_law_both" S__law_both a__law_both fd__law_both
  b__law_both : Binds K fd__law_both ["_law_rules_here", "_law_other"] []
  g__law_both : mg "_law_both" = some (.ref a__law_both)
  a__law_table : Addr
  fd__law_table : FuncData
  F__law_table : Fun K "_law_table" "_law_table" S__law_table a__law_table fd__law_table
  b__law_table : Binds K fd__law_table ["_law_made"] []
  g__law_table : mg "_law_table" = some (.ref a__law_table)
  a__law_table_good : Addr
  fd__law_table_good : FuncData
  F__law_table_good : Fun K "_law_table_good" "_law_table_good" S__law_table_good a__law_table_good fd__law_table_good
  b__law_table_good : Binds K fd__law_table_good ["_law_table_here"] []
  g__law_table_good : mg "_law_table_good" = some (.ref a__law_table_good)
  a_law : Addr
  fd_law : FuncData
  F_law : Fun K "law" "law" S_law a_law fd_law
  b_law : Binds K fd_law ["_law_script"] []
  g_law : mg "law" = some (.ref a_law)
  n_any : mg "any" = none
  n_bool : mg "bool" = none
  n_enumerate : mg "enumerate" = none
  n_int : mg "int" = none
  n_isinstance : mg "isinstance" = none
  n_iter : mg "iter" = none
  n_len : mg "len" = none
  n_list : mg "list" = none
  n_max : mg "max" = none
  n_property : mg "property" = none
  n_range : mg "range" = none
  n_str : mg "str" = none
  n_tuple : mg "tuple" = none
  tk_UNLIMITED : Tok
  g_UNLIMITED : mg "UNLIMITED" = some (.int 9 tk_UNLIMITED)
  k_LEVELS : Addr
  g_LEVELS : mg "LEVELS" = some (.ref k_LEVELS)
  q_LEVELS : ∀ H : Hp, SqT K H k_LEVELS [.str "none", .str "one", .str "most", .str "all"]
  tk_LETTERS : Tok
  g_LETTERS : mg "LETTERS" = some (.str "abcdefghijklmnopqrstuvwxyz" tk_LETTERS)
  k_MODES : Addr
  g_MODES : mg "MODES" = some (.ref k_MODES)
  q_MODES : ∀ H : Hp, SqT K H k_MODES [.str "own", .str "share"]
  c_Way : Addr
  g_Way : mg "Way" = some (.ref c_Way)
  cl_Way : Cls K c_Way
  mk_Way : Mk K c_Way a_Way_init
  m_Way_needs : Meth K c_Way "needs" a_Way_needs
  m_Way_permits : Meth K c_Way "permits" a_Way_permits
  m_Way_eq : Meth K c_Way "__eq__" a_Way_eq
  m_Way_le : Meth K c_Way "__le__" a_Way_le
  m_Way_and : Meth K c_Way "__and__" a_Way_and
  ti_Way : ∀ (H : Hp) (a dx : Addr) (fs : List (Str × V)), H a = some (.ins c_Way dx fs) → TyOf K H (.ref a) (.ref c_Way)
  kk_Way : PySem.W.kitOne K (.ref c_Way) (.ref c_Way) = some true
  sf_Way : PySem.W.selfFirst K c_Way = true
  no_Way_held : NoAttr K c_Way "held"
  no_Way_owned : NoAttr K c_Way "owned"
  no_Way_seen : NoAttr K c_Way "seen"
  no_Way_early : NoAttr K c_Way "early"
  c_Policy : Addr
  g_Policy : mg "Policy" = some (.ref c_Policy)
  cl_Policy : Cls K c_Policy
  mk_Policy : Mk K c_Policy a_Policy_init
  m_Policy_getitem : Meth K c_Policy "__getitem__" a_Policy_getitem
  m_Policy_setitem : Meth K c_Policy "__setitem__" a_Policy_setitem
  m_Policy_starts_at : Meth K c_Policy "starts_at" a_Policy_starts_at
  m_Policy_ways_of : Meth K c_Policy "ways_of" a_Policy_ways_of
  p_Policy_starts : Addr
  pr_Policy_starts : PropOf K c_Policy "starts" p_Policy_starts a_Policy_starts
  m_Policy_and : Meth K c_Policy "__and__" a_Policy_and
  m_Policy_or : Meth K c_Policy "__or__" a_Policy_or
  fi_Policy_getitem : PySem.W.fnIn K a_Policy_getitem = true
  nq_Policy : PySem.W.noSeq K c_Policy = true
  ti_Policy : ∀ (H : Hp) (a dx : Addr) (fs : List (Str × V)), H a = some (.ins c_Policy dx fs) → TyOf K H (.ref a) (.ref c_Policy)
  kk_Policy : PySem.W.kitOne K (.ref c_Policy) (.ref c_Policy) = some true
  of_Policy_and : OpF K c_Policy "and" a_Policy_and
  of_Policy_or : OpF K c_Policy "or" a_Policy_or
  no_Policy_shape : NoAttr K c_Policy "shape"
  no_Policy__marks : NoAttr K c_Policy "_marks"
  no_Policy__starts : NoAttr K c_Policy "_starts"
  no_Policy__ways : NoAttr K c_Policy "_ways"
  c_Shape : Addr
  g_Shape : mg "Shape" = some (.ref c_Shape)
  cl_Shape : Cls K c_Shape
  mk_Shape : Mk K c_Shape a_Shape_init
  m_Shape_getitem : Meth K c_Shape "__getitem__" a_Shape_getitem
  m_Shape_iter : Meth K c_Shape "__iter__" a_Shape_iter
  m_Shape_len : Meth K c_Shape "__len__" a_Shape_len
  m_Shape_eq : Meth K c_Shape "__eq__" a_Shape_eq
  m_Shape_modes_of : Meth K c_Shape "modes_of" a_Shape_modes_of
  fi_Shape_getitem : PySem.W.fnIn K a_Shape_getitem = true
  ti_Shape : ∀ (H : Hp) (a dx : Addr) (fs : List (Str × V)), H a = some (.ins c_Shape dx fs) → TyOf K H (.ref a) (.ref c_Shape)
  kk_Shape : PySem.W.kitOne K (.ref c_Shape) (.ref c_Shape) = some true
  cr_Shape : ClX.CRead K c_Shape (.type "type")
  tk_Shape_MARKS : Tok
  cv_Shape_MARKS : ClX.CVal K c_Shape (.type "type") "MARKS" (.int 6) (.int 6 tk_Shape_MARKS)
  tk_Shape_PARENTS : Tok
  cv_Shape_PARENTS : ClX.CVal K c_Shape (.type "type") "PARENTS" (.int 4) (.int 4 tk_Shape_PARENTS)
  no_Shape__listed : NoAttr K c_Shape "_listed"
  no_Shape__marks : NoAttr K c_Shape "_marks"
  kb_Way_init_4_early : KBn K fd_Way_init ["self", "held", "owned", "seen", "early"] 4 ["early"] (fun us ws => us ++ ws) (fun vs zs => vs ++ zs)
  kb_Policy_init_2 : ∃ ds, Vals [.ref ed_Policy_init_0] ds ∧ Binds K fd_Policy_init ["self", "shape", "rows"] ds
  kb_Policy_init_3 : ∃ ds, Vals [] ds ∧ Binds K fd_Policy_init ["self", "shape", "rows"] ds
  kb_Way_permits_5_loose : KBn K fd_Way_permits ["self", "held", "owned", "seen", "parents", "loose"] 5 ["loose"] (fun us ws => us ++ ws) (fun vs zs => vs ++ zs)
  c_BadShape : Addr
  g_BadShape : mg "BadShape" = some (.ref c_BadShape)
  c_UnknownMark : Addr
  g_UnknownMark : mg "UnknownMark" = some (.ref c_UnknownMark)
  c_TooLarge : Addr
  g_TooLarge : mg "TooLarge" = some (.ref c_TooLarge)
  c_OtherShape : Addr
  g_OtherShape : mg "OtherShape" = some (.ref c_OtherShape)
  x_BadShape : PySem.WX.ExcTxt PP K mg "BadShape" "mark" c_BadShape
  xc_BadShape : XC K c_BadShape
  xn_BadShape : PySem.W.findIn K (.ref c_BadShape) "mark" = some none
  x_UnknownMark : PySem.WX.ExcTxt PP K mg "UnknownMark" "mark" c_UnknownMark
  xc_UnknownMark : XC K c_UnknownMark
  xn_UnknownMark : PySem.W.findIn K (.ref c_UnknownMark) "mark" = some none
  x_TooLarge : PySem.WX.ExcTxt PP K mg "TooLarge" "most" c_TooLarge
  xc_TooLarge : XC K c_TooLarge
  xn_TooLarge : PySem.W.findIn K (.ref c_TooLarge) "most" = some none
  x_OtherShape : L2.Exc0 K mg "OtherShape" c_OtherShape
  xc_OtherShape : XC K c_OtherShape
end My
namespace My
open PySem L2
/-! ### heaps: all but a as it was -/
def But (a : Addr) (H H' : Hp) : Prop := ∀ b o, b ≠ a → H b = some o → H' b = some o
theorem But.refl (a : Addr) (H : Hp) : But a H H := fun _ _ _ h => h
theorem But.trans {a : Addr} {H H1 H2 : Hp} (x : But a H H1) (y : But a H1 H2) : But a H H2 := fun b o n h => y b o n (x b o n h)
theorem But.of_same {a : Addr} {H H' : Hp} (s : Same H H') : But a H H' := fun b o _ h => s b o h
theorem But.upd {a : Addr} {H : Hp} {o : HO} : But a H (upd H a o) := fun b u n h => by rw [upd_ne n]; exact h
theorem same_new {H : Hp} {p : Addr} {o : HO} (h : H p = none) : Same H (upd H p o) := fun b x e => by
  rw [upd_ne (ne_of_none e h)]; exact e
theorem But.new {a p : Addr} {H : Hp} {o : HO} (h : H p = none) : But a H (L2.upd H p o) := But.of_same (same_new h)
/-- an object that H does not know may change -/
theorem same_mut {H H' : Hp} {p : Addr} {o : HO} (e : Same H H') (h : H p = none) : Same H (upd H' p o) := fun a u ha => by
  rw [upd_ne (ne_of_none ha h)]; exact e a u ha
theorem But.mut {a p : Addr} {H H' : Hp} {o : HO} (e : But a H H') (h : H p = none) : But a H (L2.upd H' p o) := fun b u n hb => by
  rw [upd_ne (ne_of_none hb h)]; exact e b u n hb
theorem But.free {a p : Addr} {H H' : Hp} (e : But a H H') (n : p ≠ a) (h : H' p = none) : H p = none := by
  cases q : H p with
  | none => rfl
  | some o => rw [e p o n q] at h; cases h
theorem But.sqL {K : PySem.W.Frag} {a d : Addr} {H H' : Hp} {xs : List V} (e : But a H H') (n : d ≠ a) (h : SqL K H d xs) : SqL K H' d xs := by
  rcases h with (h | ⟨o, h⟩) | h
  · exact .inl (.inl (e _ _ n h))
  · exact .inl (.inr ⟨o, e _ _ n h⟩)
  · exact .inr h
theorem But.sqT {K : PySem.W.Frag} {a d : Addr} {H H' : Hp} {xs : List V} (e : But a H H') (n : d ≠ a) (h : SqT K H d xs) : SqT K H' d xs := by
  rcases h with (h | ⟨o, h⟩) | h
  · exact .inl (.inl (e _ _ n h))
  · exact .inl (.inr ⟨o, e _ _ n h⟩)
  · exact .inr h
theorem same_sqT {K : PySem.W.Frag} {d : Addr} {H H' : Hp} {xs : List V} (e : Same H H') (h : SqT K H d xs) : SqT K H' d xs := by
  rcases h with (h | ⟨o, h⟩) | h
  · exact .inl (.inl (e _ _ h))
  · exact .inl (.inr ⟨o, e _ _ h⟩)
  · exact .inr h
theorem same_make {H H5 : Hp} {x dx C : Addr} (nx : H x = none) (nd : H dx = none) (b : But x (L2.upd (L2.upd H dx (.own x)) x (.ins C dx [])) H5) : Same H H5 := fun y o h =>
  b y o (ne_of_none h nx) (by rw [upd_ne (ne_of_none h nx), upd_ne (ne_of_none h nd)]; exact h)
/-! ### tests -/
theorem iteD {c A B : Prop} [Decidable c] (h1 : c → A) (h2 : ¬ c → B) : if decide c = true then A else B := by
  by_cases h : c
  · rw [decide_eq_true h]; exact iteT (h1 h)
  · rw [decide_eq_false h]; exact iteF (h2 h)
theorem iteN {c A B : Prop} [Decidable c] (h1 : ¬ c → A) (h2 : c → B) : if (!decide c) = true then A else B := by
  by_cases h : c
  · rw [decide_eq_true h]; exact iteF (h2 h)
  · rw [decide_eq_false h]; exact iteT (h1 h)
theorem iteB {b : Bool} {A B : Prop} (h1 : b = true → A) (h2 : b = false → B) : if b = true then A else B := by
  cases b with
  | true => exact iteT (h1 rfl)
  | false => exact iteF (h2 rfl)
theorem iteYes {b : Bool} {A B : Prop} (h : b = true) (h1 : A) : if b = true then A else B := by rw [h]; exact iteT h1
theorem iteNo {b : Bool} {A B : Prop} (h : b = false) (h1 : B) : if b = true then A else B := by rw [h]; exact iteF h1
/-! ### lists -/
theorem ints_app (zs : List Int) (z : Int) : (zs.map V.int) ++ [V.int z] = (zs ++ [z]).map V.int := by rw [List.map_append]; rfl
theorem at_ok {xs : List V} {i : Int} (h0 : 0 ≤ i) (h1 : i < xs.length) : ∃ v, atI xs i = some v ∧ v ∈ xs := by
  obtain ⟨j, rfl⟩ := Int.eq_ofNat_of_zero_le h0
  have hj : j < xs.length := by omega
  exact ⟨xs[j], atI_nat (List.getElem?_eq_getElem hj), List.getElem_mem hj⟩
theorem get_int {ns : List Int} {i : Nat} {y : V} (h : (ns.map V.int)[i]? = some y) : ∃ z, ns[i]? = some z ∧ y = .int z := by
  rw [List.getElem?_map] at h
  cases e : ns[i]? with
  | none => rw [e] at h; cases h
  | some z => rw [e] at h; exact ⟨z, rfl, (Option.some.inj h).symm⟩
end My
namespace L2
open PySem
/-! ### rules whose reading names K itself (in a comprehension's block) -/
theorem ixLK {X : Cx} {K : PySem.W.Frag} (h : X.K = K) : IxR X (rIxL K) := h ▸ ix_list
theorem ixTK {X : Cx} {K : PySem.W.Frag} (h : X.K = K) : IxR X (rIxT K) := h ▸ ix_tup
theorem inK {X : Cx} {K : PySem.W.Frag} (h : X.K = K) : OpR X (compareOp .In) (rIn K false) := h ▸ op_in_seq
theorem ninK {X : Cx} {K : PySem.W.Frag} (h : X.K = K) : OpR X (compareOp .NotIn) (rIn K true) := h ▸ op_notIn_seq
theorem pe_fldK {X : Cx} {K : PySem.W.Frag} {e : Expr} {f : Str} {pos : Pos} {ta : TE} (h : X.K = K) (he : PE X e ta) (hb : attributeBase e f X.env (eval e X.env) = eval e X.env) : PE X (.Attribute e f pos) (tFld K ta f) := h ▸ pe_fld he hb
end L2

namespace My
open PySem L2
/-- the draws at d, the place at a -/
structure Dr (K : PySem.W.Frag) (H : Hp) (d a : Addr) : Prop where
  ds : ∃ ns : List Int, H d = some (.lst (ns.map V.int))
  pl : ∃ k : Nat, H a = some (.lst [.int k])
  ne : d ≠ a
theorem Dr.but {K : PySem.W.Frag} {H H' : Hp} {d a : Addr} (x : Dr K H d a) (e : But a H H') (pl : ∃ k : Nat, H' a = some (.lst [.int k])) : Dr K H' d a :=
  ⟨x.ds.elim fun ns h => ⟨ns, e _ _ x.ne h⟩, pl, x.ne⟩
theorem Dr.same {K : PySem.W.Frag} {H H' : Hp} {d a : Addr} (x : Dr K H d a) (e : Same H H') : Dr K H' d a :=
  x.but (But.of_same e) (x.pl.elim fun k h => ⟨k, e _ _ h⟩)
/-- another object is changed -/
theorem Dr.other {K : PySem.W.Frag} {H H' : Hp} {d a p : Addr} (x : Dr K H d a) (e : But p H H') (n1 : d ≠ p) (n2 : a ≠ p) : Dr K H' d a :=
  ⟨x.ds.elim fun ns h => ⟨ns, e _ _ n1 h⟩, x.pl.elim fun k h => ⟨k, e _ _ n2 h⟩, x.ne⟩
theorem Dr.nd {K : PySem.W.Frag} {H : Hp} {d a p : Addr} (x : Dr K H d a) (h : H p = none) : d ≠ p := ne_of_none x.ds.choose_spec h
theorem Dr.na {K : PySem.W.Frag} {H : Hp} {d a p : Addr} (x : Dr K H d a) (h : H p = none) : p ≠ a := (ne_of_none x.pl.choose_spec h).symm
def spTake (K : PySem.W.Frag) : Sp := fun vs H Q _ => ∃ (d a : Addr) (size : Int), vs = [.ref d, .ref a, .int size] ∧ Dr K H d a ∧ 0 < size ∧
  ∀ (r : Int) (H' : Hp), 0 ≤ r → r < size → Dr K H' d a → But a H H' → Q (.int r) H'
section
variable {P : Program} {w : World} {K : PySem.W.Frag} {mg : Str → Option Value} {base : Heap}
theorem ok__law_take (T : Txt K mg) : FnOk P w K mg base CX0 1 T.a__law_take T.fd__law_take ["_law_draws_here", "_law_at", "_law_size"] (spTake K) := by
  refine T.F__law_take.ok sc__law_take (fun vs H Q E h => ?_) (fun cdv A outer s H vs Q E hr h => ?_)
  · obtain ⟨d, a, size, rfl, _⟩ := h; rfl
  · obtain ⟨d, a, size, rfl, D, hs, q⟩ := h
    obtain ⟨ns, hd0⟩ := D.ds
    have hd : SqL K H d (ns.map V.int) := SqL.of hd0
    obtain ⟨k, hk⟩ := D.pl
    have hb : But a H (upd H a (.lst [.int (k + 1 : Nat)])) := But.upd
    have D' : Dr K (upd H a (.lst [.int (k + 1 : Nat)])) d a := D.but hb ⟨_, upd_same⟩
    have hd' := hb.sqL D.ne hd
    refine ⟨_, (pss_cons (ps_asg (pe_op op_add (pe_ix ix_list (pv 1) (pe_int) (fun _ _ => rfl)) (pe_int)) (pg_sub (pv 1) (pe_int) set_list))
      (pss_cons (ps_if (pt_cmpR op_gt (pe_ix ix_list (pv 1) (pe_int) (fun _ _ => rfl)) (pe_callB call_len_seq (by rfl) T.n_len (by decide +kernel) (pa_cons (pv 0) pa_nil)) (nomark _)) (pss_one (ps_ret (pe_int))) pss_nil)
      (pss_one (ps_ret (pe_op op_mod (pe_callTy call_int1 (by rfl) T.n_int (by decide +kernel) (pa_cons (pe_ix ix_list (pv 0) (pe_op op_sub (pe_ix ix_list (pv 1) (pe_int) (fun _ _ => rfl)) (pe_int)) (fun _ _ => rfl)) pa_nil)) (pv 2)))))), ?_⟩
    walk_at "rd"

    refine iteD (fun c => ?_) (fun c => ?_)
    · exact q 0 _ (Int.le_refl _) hs D' hb
    · rw [List.length_map] at c
      have hl : k < ns.length := by omega
      refine ⟨_, rfl, _, rfl, _, _, _, _, rfl, rfl, SqL.of upd_same, atI_nat (j := 0) rfl, _, _, rfl, rfl, _, _, _, _, rfl, rfl, hd', at_of (j := k) (by omega) (by rw [List.getElem?_map, List.getElem?_eq_getElem hl]; rfl), ?_⟩
      walk_at "rd"
      exact q _ _ (Int.emod_nonneg _ (by omega)) (Int.emod_lt_of_pos _ hs) D' hb
end
end My

namespace My
open PySem L2
def spDraws (K : PySem.W.Frag) : Sp := fun vs H Q _ => ∃ (a : Addr) (ns : List Int), vs = [.ref a] ∧ SqL K H a (ns.map V.int) ∧ ns.length ≤ 63 ∧
  ∀ (p : Addr) (zs : List Int) (H' : Hp), Same H H' → H p = none → H' p = some (.lst (zs.map V.int)) → Q (.ref p) H'
section
variable {P : Program} {w : World} {K : PySem.W.Frag} {mg : Str → Option Value} {base : Heap}
theorem ok__law_draws (T : Txt K mg) : FnOk P w K mg base CX0 1 T.a__law_draws T.fd__law_draws ["_law_script"] (spDraws K) := by
  refine T.F__law_draws.ok sc__law_draws (fun vs H Q E h => ?_) (fun cdv A outer s H vs Q E hr h => ?_)
  · obtain ⟨a, ns, rfl, _⟩ := h; rfl
  · obtain ⟨a, ns, rfl, hS, hlen, q⟩ := h
    refine ⟨_, (pss_cons (ps_set (i := 1) sc__law_draws.nd rfl (.inl rfl) (pe_lst pa_nil))
      (pss_cons (ps_for PassesOwn.never rfl (pi_list (pv 0)) (pg_name (i := 2) sc__law_draws.nd rfl (.inl rfl)) (pss_one (ps_if (pt_cmpR op_ge (pv 2) (pe_op op_pow (pe_int) (pe_int)) (nomark _)) (pss_cons (ps_set (i := 3) sc__law_draws.nd rfl (.inl rfl) (pe_callTy call_int1 (by rfl) T.n_int (by decide +kernel) (pa_cons (pv 2) pa_nil)))
      (pss_one (ps_for PassesOwn.never rfl (pi_range1 (by rfl) T.n_range (pa_cons (pe_int) pa_nil)) (pg_name (i := 4) sc__law_draws.nd rfl (.inl rfl)) (pss_one (ps_if (pt_cmpR op_gt (pv 3) (pe_int) (nomark _)) (pss_cons (ps_expr (pe_bm PySem.F.plainAttrs_list PySem.F.slot_list_append PySem.F.type_list_append mt_append (pv 1) (pa_cons (pe_op op_mod (pe_callTy call_int1 (by rfl) T.n_int (by decide +kernel) (pa_cons (pv 3) pa_nil)) (pe_int)) pa_nil)))
      (pss_one (ps_set (i := 3) sc__law_draws.nd rfl (.inl rfl) (pe_op op_fdiv (pv 3) (pe_int))))) pss_nil))))) (pss_cons (ps_set (i := 5) sc__law_draws.nd rfl (.inl rfl) (pe_op op_mod (pe_callTy call_int1 (by rfl) T.n_int (by decide +kernel) (pa_cons (pe_op op_add (pe_op op_mul (pv 2) (pe_int)) (pe_int)) pa_nil)) (pe_int)))
      (pss_cons (ps_expr (pe_bm PySem.F.plainAttrs_list PySem.F.slot_list_append PySem.F.type_list_append mt_append (pv 1) (pa_cons (pv 5) pa_nil)))
      (pss_one (ps_expr (pe_bm PySem.F.plainAttrs_list PySem.F.slot_list_append PySem.F.type_list_append mt_append (pv 1) (pa_cons (pe_op op_mod (pe_callTy call_int1 (by rfl) T.n_int (by decide +kernel) (pa_cons (pe_op op_add (pe_op op_add (pe_op op_mul (pv 5) (pv 5)) (pe_op op_mul (pe_int) (pv 5))) (pe_op op_mul (pe_int) (pe_callB call_len_seq (by rfl) T.n_len (by decide +kernel) (pa_cons (pv 1) pa_nil)))) pa_nil)) (pe_int)) pa_nil)))))))))
      (pss_one (ps_ret (pv 1))))), ?_⟩
    refine ⟨Nat.zero_le _, fun p hp => ?_⟩
    have s0 : Same H (upd H p (.lst [])) := same_new hp
    refine ⟨_, rfl, a, rfl, ⟨_, s0.seq hS⟩, for_list (K := K) (a := a) (xs := ns.map V.int) (fun i σ H' => ∃ (zs : List Int) (x2 x3 x4 x5 : Option V), σ = [some (.ref a), some (.ref p), x2, x3, x4, x5] ∧ Same H H' ∧ H' p = some (.lst (zs.map V.int)) ∧ zs.length ≤ 60 * i)
      ⟨[], _, _, _, _, rfl, s0, upd_same, Nat.zero_le _⟩ (fun i σ H' _ ⟨_, _, _, _, _, _, s1, _⟩ => s1.seq hS) ?_ ?_⟩
    · rintro i y σ H1 hi ⟨zs, x2, x3, x4, x5, rfl, s1, h1, hz⟩
      have hi63 : i < ns.length := by
        have z := (List.getElem?_eq_some_iff.mp hi).1
        rw [List.length_map] at z
        exact z
      obtain ⟨c, hc, rfl⟩ := get_int hi
      refine ⟨_, rfl, _, _, rfl, rfl, ⟨by decide, by decide, by decide⟩, ?_⟩
      walk_at "rd"
      refine iteD (fun c1 => ?_) (fun c1 => ?_)
      · refine ⟨_, rfl, .inl ⟨_, rfl, ?_⟩⟩
        refine ⟨60, rfl, by decide, by decide, for_range (lo := 0) (n := 60) (fun j σ H' => ∃ (zs : List Int) (r : Int) (x4 : Option V), σ = [some (.ref a), some (.ref p), some (.int c), some (.int r), x4, x5] ∧ Same H H' ∧ H' p = some (.lst (zs.map V.int)) ∧ zs.length ≤ 60 * i + j)
          ⟨zs, c, x4, rfl, s1, h1, hz⟩ ?_ ?_⟩
        · rintro j σ H2 hj ⟨zs, r, x4, rfl, s2, h2, hz2⟩
          walk_at "rd"
          refine iteD (fun c2 => ?_) (fun c2 => ?_)
          · refine ⟨_, rfl, .inl ⟨rfl, _, SqL.of h2⟩, _, rfl, .inl ⟨_, rfl, _, _, rfl, rfl, (by show (0 : Int) < 1000; decide), _, _, _, rfl, rfl, h2, by rw [List.length_map]; exact Nat.lt_of_le_of_lt (by omega : _ ≤ 100000) (by decide), ?_⟩⟩
            refine ⟨_, rfl, _, _, rfl, rfl, ⟨by decide, by decide⟩, ?_⟩
            exact ⟨zs ++ [r % 1000], _, _, rfl, same_mut s2 hp, by rw [upd_same, ints_app], by rw [List.length_append, List.length_singleton]; omega⟩
          · exact ⟨zs, r, _, rfl, s2, h2, by omega⟩
        · rintro σ H2 ⟨zs, r, x4, rfl, s2, h2, hz2⟩
          exact ⟨zs, _, _, _, _, rfl, s2, h2, by omega⟩
      · refine ⟨_, rfl, _, _, rfl, rfl, .inr ⟨by decide, by decide⟩, _, _, rfl, rfl, .inl ⟨_, rfl, _, _, rfl, rfl, (by show (0 : Int) < 9973; decide), ?_⟩⟩
        have hm0 : 0 ≤ (c * 48271 + 12345) % 9973 := Int.emod_nonneg _ (by decide)
        have hm1 : (c * 48271 + 12345) % 9973 < 9973 := Int.emod_lt_of_pos _ (by decide)
        refine ⟨_, rfl, .inl ⟨rfl, _, SqL.of h1⟩, _, rfl, _, _, _, rfl, rfl, h1, by rw [List.length_map]; exact Nat.lt_of_le_of_lt (by omega : _ ≤ 100000) (by decide), ?_⟩
        refine ⟨_, rfl, .inl ⟨rfl, _, SqL.of upd_same⟩, _, rfl, _, rfl, _, _, rfl, rfl, .inl ⟨by omega, by omega⟩, _, rfl, _, _, rfl, rfl, .inl ⟨by decide, by decide⟩, _, _, rfl, rfl, _, rfl, _, _, rfl, .inl (SqL.of upd_same), _, _, rfl, rfl, .inl ⟨by decide, by decide⟩, _, _, rfl, rfl, .inl ⟨_, rfl, _, _, rfl, rfl, (by show (0 : Int) < 9949; decide), ?_⟩⟩
        refine ⟨_, _, _, rfl, rfl, upd_same, by rw [List.length_append, List.length_map]; exact Nat.lt_of_le_of_lt (by simp; omega : _ ≤ 100000) (by decide), ?_⟩
        rw [ints_app, ints_app, upd_upd]
        exact ⟨_, _, _, _, _, rfl, same_mut s1 hp, upd_same, by simp; omega⟩
    · rintro σ H1 ⟨zs, x2, x3, x4, x5, rfl, s1, h1, hz⟩
      exact ⟨_, rfl, q p zs H1 s1 hp h1⟩
end
end My

namespace My
open PySem L2
/-! ### plain data -/
inductive Sc : V → PyData → Prop
  | non : Sc .non .none
  | bl (b : Bool) : Sc (.bl b) (.bool b)
  | int (i : Int) : Sc (.int i) (.int i)
  | str (z : Str) : Sc (.str z) (.str z)
/-- a list that stays where x alone is changed; a tuple likewise -/
def SL (K : PySem.W.Frag) (x : Addr) (H : Hp) (a : Addr) (xs : List V) : Prop := (a ≠ x ∧ SqL K H a xs) ∨ ∀ H', SqL K H' a xs
def SU (K : PySem.W.Frag) (x : Addr) (H : Hp) (a : Addr) (xs : List V) : Prop := (a ≠ x ∧ SqT K H a xs) ∨ ∀ H', SqT K H' a xs
section
variable {K : PySem.W.Frag} {x : Addr} {H H' : Hp} {a : Addr} {xs : List V}
theorem SL.sq (h : SL K x H a xs) : SqL K H a xs := by
  rcases h with h | h
  · exact h.2
  · exact h H
theorem SU.sq (h : SU K x H a xs) : SqT K H a xs := by
  rcases h with h | h
  · exact h.2
  · exact h H
theorem SL.but (h : SL K x H a xs) (e : But x H H') : SL K x H' a xs := by
  rcases h with ⟨n, h⟩ | h
  · exact .inl ⟨n, e.sqL n h⟩
  · exact .inr h
theorem SU.but (h : SU K x H a xs) (e : But x H H') : SU K x H' a xs := by
  rcases h with ⟨n, h⟩ | h
  · exact .inl ⟨n, e.sqT n h⟩
  · exact .inr h
theorem tyL (h : SqL K H a xs) : TyX K H (.ref a) (.type "list") := by
  rcases h with (h | ⟨o, h⟩) | ⟨o, its, n, h, c, _⟩
  · exact .base (.lst h)
  · exact .base (.frz h)
  · exact .kList h c
theorem tyT (h : SqT K H a xs) : TyX K H (.ref a) (.type "tuple") := by
  rcases h with (h | ⟨o, h⟩) | ⟨o, its, n, h, c, _⟩
  · exact .base (.tup h)
  · exact .fTuple h
  · exact .kTuple h c
end
/-- data of depth n at most -/
def Dn (K : PySem.W.Frag) (x : Addr) (H : Hp) : Nat → V → PyData → Prop
  | 0, v, d => Sc v d
  | n + 1, v, d => Sc v d ∨ (∃ a xs ds, v = .ref a ∧ d = .list ds ∧ SL K x H a xs ∧ xs.length ≤ 100000 ∧ Paired (Dn K x H n) xs ds) ∨ ∃ a xs ds, v = .ref a ∧ d = .tuple ds ∧ SU K x H a xs ∧ xs.length ≤ 100000 ∧ Paired (Dn K x H n) xs ds
theorem Dn.sc {K : PySem.W.Frag} {x : Addr} {H : Hp} {v : V} {d : PyData} (h : Sc v d) : ∀ n, Dn K x H n v d
  | 0 => h
  | _ + 1 => .inl h
theorem Dn.but {K : PySem.W.Frag} {x : Addr} {H H' : Hp} (e : But x H H') : ∀ {n : Nat} {v : V} {d : PyData}, Dn K x H n v d → Dn K x H' n v d
  | 0, _, _, h => h
  | n + 1, v, d, h => by
    rcases h with h | ⟨a, xs, ds, rfl, rfl, h, hz, p⟩ | ⟨a, xs, ds, rfl, rfl, h, hz, p⟩
    · exact .inl h
    · exact .inr (.inl ⟨a, xs, ds, rfl, rfl, h.but e, hz, L2.Paired.mapP p fun _ _ z => Dn.but e z⟩)
    · exact .inr (.inr ⟨a, xs, ds, rfl, rfl, h.but e, hz, L2.Paired.mapP p fun _ _ z => Dn.but e z⟩)
theorem Dn.lst {K : PySem.W.Frag} {x : Addr} {H : Hp} {n : Nat} {a : Addr} {xs : List V} {ds : List PyData} (ne : a ≠ x) (h : SqL K H a xs) (p : Paired (Dn K x H n) xs ds) (hz : xs.length ≤ 100000 := by simp) : Dn K x H (n + 1) (.ref a) (.list ds) :=
  .inr (.inl ⟨a, xs, ds, rfl, rfl, .inl ⟨ne, h⟩, hz, p⟩)
theorem Dn.tup {K : PySem.W.Frag} {x : Addr} {H : Hp} {n : Nat} {a : Addr} {xs : List V} {ds : List PyData} (ne : a ≠ x) (h : SqT K H a xs) (p : Paired (Dn K x H n) xs ds) (hz : xs.length ≤ 100000 := by simp) : Dn K x H (n + 1) (.ref a) (.tuple ds) :=
  .inr (.inr ⟨a, xs, ds, rfl, rfl, .inl ⟨ne, h⟩, hz, p⟩)
theorem Dn.int {K : PySem.W.Frag} {x : Addr} {H : Hp} (i : Int) {n : Nat} : Dn K x H n (.int i) (.int i) := Dn.sc (.int i) n
theorem Dn.str {K : PySem.W.Frag} {x : Addr} {H : Hp} (i : Str) {n : Nat} : Dn K x H n (.str i) (.str i) := Dn.sc (.str i) n
theorem Dn.bl {K : PySem.W.Frag} {x : Addr} {H : Hp} (i : Bool) {n : Nat} : Dn K x H n (.bl i) (.bool i) := Dn.sc (.bl i) n
theorem Dn.non {K : PySem.W.Frag} {x : Addr} {H : Hp} {n : Nat} : Dn K x H n .non .none := Dn.sc .non n
theorem Dn.up {K : PySem.W.Frag} {x : Addr} {H : Hp} : ∀ {n : Nat} {v : V} {d : PyData}, Dn K x H n v d → Dn K x H (n + 1) v d
  | 0, _, _, h => .inl h
  | n + 1, v, d, h => by
    rcases h with h | ⟨a, xs, ds, rfl, rfl, h, hz, p⟩ | ⟨a, xs, ds, rfl, rfl, h, hz, p⟩
    · exact .inl h
    · exact .inr (.inl ⟨a, xs, ds, rfl, rfl, h, hz, L2.Paired.mapP p fun _ _ z => Dn.up z⟩)
    · exact .inr (.inr ⟨a, xs, ds, rfl, rfl, h, hz, L2.Paired.mapP p fun _ _ z => Dn.up z⟩)
theorem pair_get {α β : Type} {F : α → β → Prop} : ∀ {l : List α} {m : List β} {i : Nat} {x : α}, Paired F l m → l[i]? = some x → ∃ y, m[i]? = some y ∧ F x y
  | _, _, _, _, .nil, e => by simp at e
  | _, _, 0, _, .cons r _, e => by simp at e; subst e; exact ⟨_, rfl, r⟩
  | _, _, i + 1, x, .cons _ t, e => by
    obtain ⟨y, h1, h2⟩ := pair_get (i := i) (x := x) t (by simpa using e)
    exact ⟨y, by simpa using h1, h2⟩
theorem pair_len {α β : Type} {F : α → β → Prop} : ∀ {l : List α} {m : List β}, Paired F l m → l.length = m.length
  | _, _, .nil => rfl
  | _, _, .cons _ t => by rw [List.length_cons, List.length_cons, pair_len t]
noncomputable def sameD (d e : PyData) : Bool := @decide (d = e) (Classical.propDecidable _)
theorem same_yes {d e : PyData} (h : d = e) : sameD d e = true := by unfold sameD; exact @decide_eq_true _ (Classical.propDecidable _) h
theorem same_no {d e : PyData} (h : d ≠ e) : sameD d e = false := by unfold sameD; exact @decide_eq_false _ (Classical.propDecidable _) h
theorem same_iff {d e : PyData} : sameD d e = true ↔ d = e := by
  constructor
  · intro h
    by_cases q : d = e
    · exact q
    · rw [same_no q] at h; cases h
  · exact same_yes
theorem same_of {p : Prop} [Decidable p] {d e : PyData} (h : d = e ↔ p) : sameD d e = decide p := by
  by_cases q : p
  · rw [decide_eq_true q, same_yes (h.mpr q)]
  · rw [decide_eq_false q, same_no (fun z => q (h.mp z))]
def spSame (K : PySem.W.Frag) (n : Nat) : Sp := fun vs H Q _ => ∃ (x : Addr) (v1 v2 : V) (d1 d2 : PyData), vs = [v1, v2] ∧ Dn K x H n v1 d1 ∧ Dn K x H n v2 d2 ∧ Q (.bl (sameD d1 d2)) H
end My
local macro_rules | `(tactic| walk_at "ty") => `(tactic| first | exact .base (.int _) | exact .base (.bl _) | exact .base .non | exact .base (.str _) | exact My.tyL (by assumption) | exact My.tyT (by assumption))
local macro_rules | `(tactic| walk_at "is") => `(tactic| first | refine ⟨_, _, _, _, true, rfl, L2.ClsV.ty _, (by walk_at "ty"), L2.kit_ty (by decide +kernel), ?_⟩ | refine ⟨_, _, _, _, false, rfl, L2.ClsV.ty _, (by walk_at "ty"), L2.kit_ty (by decide +kernel), ?_⟩)
local macro_rules | `(tactic| walk_at "ri") => `(tactic| repeat (first | walk_at "is" | refine ⟨_, rfl, ?_⟩ | refine ⟨rfl, ?_⟩))
namespace My
open PySem L2
theorem same_bl (a b : Bool) : sameD (.bool a) (.bool b) = decide (V.bl a = V.bl b) := same_of ⟨fun h => by cases h; rfl, fun h => by cases h; rfl⟩
theorem same_int (a b : Int) : sameD (.int a) (.int b) = decide (V.int a = V.int b) := same_of ⟨fun h => by cases h; rfl, fun h => by cases h; rfl⟩
theorem same_str (a b : Str) : sameD (.str a) (.str b) = decide (V.str a = V.str b) := same_of ⟨fun h => by cases h; rfl, fun h => by cases h; rfl⟩
theorem same_non : sameD .none .none = true := same_yes rfl
theorem same_lst (a b : List PyData) : sameD (.list a) (.list b) = true ↔ a = b := same_iff.trans ⟨fun h => by cases h; rfl, fun h => by cases h; rfl⟩
theorem same_tup (a b : List PyData) : sameD (.tuple a) (.tuple b) = true ↔ a = b := same_iff.trans ⟨fun h => by cases h; rfl, fun h => by cases h; rfl⟩
section
variable {P : Program} {w : World} {K : PySem.W.Frag} {mg : Str → Option Value} {base : Heap}
set_option maxHeartbeats 8000000 in
theorem ok__law_same (T : Txt K mg) : ∀ n, FnOk P w K mg base CX0 (n + 1) T.a__law_same T.fd__law_same ["_law_actual", "_law_expected"] (spSame K n)
  | 0 => by
    refine T.F__law_same.ok sc__law_same (fun vs H Q E h => ?_) (fun cdv A outer s H vs Q E hr h => ?_)
    · obtain ⟨x, v1, v2, d1, d2, rfl, _⟩ := h; rfl
    · obtain ⟨x, v1, v2, d1, d2, rfl, h1, h2, q⟩ := h
      refine ⟨_, (pss_cons (ps_if (PW.pt (pw_or (pt_val (pe_callB call_isi (by rfl) T.n_isinstance (by decide +kernel) (pa_cons (pv 0) (pa_cons (pe_bltn (v := .ty "bool") (by rfl) T.n_bool (by decide +kernel) rfl) pa_nil)))) (pw_or1 (pt_val (pe_callB call_isi (by rfl) T.n_isinstance (by decide +kernel) (pa_cons (pv 1) (pa_cons (pe_bltn (v := .ty "bool") (by rfl) T.n_bool (by decide +kernel) rfl) pa_nil))))))) (pss_one (ps_ret (pe_and (pe_callB call_isi (by rfl) T.n_isinstance (by decide +kernel) (pa_cons (pv 0) (pa_cons (pe_bltn (v := .ty "bool") (by rfl) T.n_bool (by decide +kernel) rfl) pa_nil))) (pe_and (pe_callB call_isi (by rfl) T.n_isinstance (by decide +kernel) (pa_cons (pv 1) (pa_cons (pe_bltn (v := .ty "bool") (by rfl) T.n_bool (by decide +kernel) rfl) pa_nil))) (pe_one (pe_cmpR op_eq (pv 0) (pv 1) (nomark _))))))) pss_nil)
      (pss_cons (ps_if (PW.pt (pw_or (pt_cmpR op_isN (pv 0) (pe_non) (nomark _)) (pw_or1 (pt_cmpR op_isN (pv 1) (pe_non) (nomark _))))) (pss_one (ps_ret (pe_and (pe_cmpR op_isN (pv 0) (pe_non) (nomark _)) (pe_one (pe_cmpR op_isN (pv 1) (pe_non) (nomark _)))))) pss_nil)
      (pss_cons (ps_if (pt_val (pe_callB call_isi (by rfl) T.n_isinstance (by decide +kernel) (pa_cons (pv 1) (pa_cons (pe_bltn (v := .ty "int") (by rfl) T.n_int (by decide +kernel) rfl) pa_nil)))) (pss_one (ps_ret (pe_and (pe_callB call_isi (by rfl) T.n_isinstance (by decide +kernel) (pa_cons (pv 0) (pa_cons (pe_bltn (v := .ty "int") (by rfl) T.n_int (by decide +kernel) rfl) pa_nil))) (pe_one (pe_cmpR op_eq (pv 0) (pv 1) (nomark _)))))) pss_nil)
      (pss_cons (ps_if (pt_val (pe_callB call_isi (by rfl) T.n_isinstance (by decide +kernel) (pa_cons (pv 1) (pa_cons (pe_bltn (v := .ty "str") (by rfl) T.n_str (by decide +kernel) rfl) pa_nil)))) (pss_one (ps_ret (pe_and (pe_callB call_isi (by rfl) T.n_isinstance (by decide +kernel) (pa_cons (pv 0) (pa_cons (pe_bltn (v := .ty "str") (by rfl) T.n_str (by decide +kernel) rfl) pa_nil))) (pe_one (pe_cmpR op_eq (pv 0) (pv 1) (nomark _)))))) pss_nil)
      (pss_cons (ps_if (PW.pt (pw_and (pt_val (pe_callB call_isi (by rfl) T.n_isinstance (by decide +kernel) (pa_cons (pv 1) (pa_cons (pe_bltn (v := .ty "tuple") (by rfl) T.n_tuple (by decide +kernel) rfl) pa_nil)))) (pw_and1 (pt_not (pt_val (pe_callB call_isi (by rfl) T.n_isinstance (by decide +kernel) (pa_cons (pv 0) (pa_cons (pe_bltn (v := .ty "tuple") (by rfl) T.n_tuple (by decide +kernel) rfl) pa_nil)))))))) (pss_one (ps_ret (pe_bl))) pss_nil)
      (pss_cons (ps_if (PW.pt (pw_and (pt_val (pe_callB call_isi (by rfl) T.n_isinstance (by decide +kernel) (pa_cons (pv 1) (pa_cons (pe_bltn (v := .ty "list") (by rfl) T.n_list (by decide +kernel) rfl) pa_nil)))) (pw_and1 (pt_not (pt_val (pe_callB call_isi (by rfl) T.n_isinstance (by decide +kernel) (pa_cons (pv 0) (pa_cons (pe_bltn (v := .ty "list") (by rfl) T.n_list (by decide +kernel) rfl) pa_nil)))))))) (pss_one (ps_ret (pe_bl))) pss_nil)
      (pss_cons (ps_if (pt_cmpR op_ne (pe_callB call_len_seq (by rfl) T.n_len (by decide +kernel) (pa_cons (pv 0) pa_nil)) (pe_callB call_len_seq (by rfl) T.n_len (by decide +kernel) (pa_cons (pv 1) pa_nil)) (nomark _)) (pss_one (ps_ret (pe_bl))) pss_nil)
      (pss_cons ps_never
      (pss_one (ps_ret (pe_bl))))))))))), ?_⟩
      cases h1 <;> cases h2
      all_goals walk_at "ri"
      all_goals first | (rw [same_no (by intro z; cases z)] at q; exact q) | (rw [same_bl] at q; exact q) | (rw [same_int] at q; exact q) | (rw [same_str] at q; exact q) | (rw [same_non] at q; exact q)
  | n + 1 => by
    refine T.F__law_same.ok sc__law_same (fun vs H Q E h => ?_) (fun cdv A outer s H vs Q E hr h => ?_)
    · obtain ⟨x, v1, v2, d1, d2, rfl, _⟩ := h; rfl
    · obtain ⟨x, v1, v2, d1, d2, rfl, h1, h2, q⟩ := h
      refine ⟨_, (pss_cons (ps_if (PW.pt (pw_or (pt_val (pe_callB call_isi (by rfl) T.n_isinstance (by decide +kernel) (pa_cons (pv 0) (pa_cons (pe_bltn (v := .ty "bool") (by rfl) T.n_bool (by decide +kernel) rfl) pa_nil)))) (pw_or1 (pt_val (pe_callB call_isi (by rfl) T.n_isinstance (by decide +kernel) (pa_cons (pv 1) (pa_cons (pe_bltn (v := .ty "bool") (by rfl) T.n_bool (by decide +kernel) rfl) pa_nil))))))) (pss_one (ps_ret (pe_and (pe_callB call_isi (by rfl) T.n_isinstance (by decide +kernel) (pa_cons (pv 0) (pa_cons (pe_bltn (v := .ty "bool") (by rfl) T.n_bool (by decide +kernel) rfl) pa_nil))) (pe_and (pe_callB call_isi (by rfl) T.n_isinstance (by decide +kernel) (pa_cons (pv 1) (pa_cons (pe_bltn (v := .ty "bool") (by rfl) T.n_bool (by decide +kernel) rfl) pa_nil))) (pe_one (pe_cmpR op_eq (pv 0) (pv 1) (nomark _))))))) pss_nil)
      (pss_cons (ps_if (PW.pt (pw_or (pt_cmpR op_isN (pv 0) (pe_non) (nomark _)) (pw_or1 (pt_cmpR op_isN (pv 1) (pe_non) (nomark _))))) (pss_one (ps_ret (pe_and (pe_cmpR op_isN (pv 0) (pe_non) (nomark _)) (pe_one (pe_cmpR op_isN (pv 1) (pe_non) (nomark _)))))) pss_nil)
      (pss_cons (ps_if (pt_val (pe_callB call_isi (by rfl) T.n_isinstance (by decide +kernel) (pa_cons (pv 1) (pa_cons (pe_bltn (v := .ty "int") (by rfl) T.n_int (by decide +kernel) rfl) pa_nil)))) (pss_one (ps_ret (pe_and (pe_callB call_isi (by rfl) T.n_isinstance (by decide +kernel) (pa_cons (pv 0) (pa_cons (pe_bltn (v := .ty "int") (by rfl) T.n_int (by decide +kernel) rfl) pa_nil))) (pe_one (pe_cmpR op_eq (pv 0) (pv 1) (nomark _)))))) pss_nil)
      (pss_cons (ps_if (pt_val (pe_callB call_isi (by rfl) T.n_isinstance (by decide +kernel) (pa_cons (pv 1) (pa_cons (pe_bltn (v := .ty "str") (by rfl) T.n_str (by decide +kernel) rfl) pa_nil)))) (pss_one (ps_ret (pe_and (pe_callB call_isi (by rfl) T.n_isinstance (by decide +kernel) (pa_cons (pv 0) (pa_cons (pe_bltn (v := .ty "str") (by rfl) T.n_str (by decide +kernel) rfl) pa_nil))) (pe_one (pe_cmpR op_eq (pv 0) (pv 1) (nomark _)))))) pss_nil)
      (pss_cons (ps_if (PW.pt (pw_and (pt_val (pe_callB call_isi (by rfl) T.n_isinstance (by decide +kernel) (pa_cons (pv 1) (pa_cons (pe_bltn (v := .ty "tuple") (by rfl) T.n_tuple (by decide +kernel) rfl) pa_nil)))) (pw_and1 (pt_not (pt_val (pe_callB call_isi (by rfl) T.n_isinstance (by decide +kernel) (pa_cons (pv 0) (pa_cons (pe_bltn (v := .ty "tuple") (by rfl) T.n_tuple (by decide +kernel) rfl) pa_nil)))))))) (pss_one (ps_ret (pe_bl))) pss_nil)
      (pss_cons (ps_if (PW.pt (pw_and (pt_val (pe_callB call_isi (by rfl) T.n_isinstance (by decide +kernel) (pa_cons (pv 1) (pa_cons (pe_bltn (v := .ty "list") (by rfl) T.n_list (by decide +kernel) rfl) pa_nil)))) (pw_and1 (pt_not (pt_val (pe_callB call_isi (by rfl) T.n_isinstance (by decide +kernel) (pa_cons (pv 0) (pa_cons (pe_bltn (v := .ty "list") (by rfl) T.n_list (by decide +kernel) rfl) pa_nil)))))))) (pss_one (ps_ret (pe_bl))) pss_nil)
      (pss_cons (ps_if (pt_cmpR op_ne (pe_callB call_len_seq (by rfl) T.n_len (by decide +kernel) (pa_cons (pv 0) pa_nil)) (pe_callB call_len_seq (by rfl) T.n_len (by decide +kernel) (pa_cons (pv 1) pa_nil)) (nomark _)) (pss_one (ps_ret (pe_bl))) pss_nil)
      (pss_cons (ps_for PassesOwn.never rfl (pi_range1 (by rfl) T.n_range (pa_cons (pe_callB call_len_seq (by rfl) T.n_len (by decide +kernel) (pa_cons (pv 1) pa_nil)) pa_nil)) (pg_name (i := 2) sc__law_same.nd rfl (.inl rfl)) (pss_one (ps_if (pt_not (pt_val (pe_call (ok__law_same T n) (hr.mono (by omega)) (by rfl) T.g__law_same T.F__law_same.kp T.b__law_same .nil pass0 (pa_cons (pe_ix ix_seq (pv 0) (pv 2) (fun _ _ => rfl)) (pa_cons (pe_ix ix_seq (pv 1) (pv 2) (fun _ _ => rfl)) pa_nil))))) (pss_one (ps_ret (pe_bl))) pss_nil)))
      (pss_one (ps_ret (pe_bl))))))))))), ?_⟩
      rcases h1 with h1 | ⟨a1, xs1, ds1, rfl, rfl, h1, z1, p1⟩ | ⟨a1, xs1, ds1, rfl, rfl, h1, z1, p1⟩ <;> rcases h2 with h2 | ⟨a2, xs2, ds2, rfl, rfl, h2, z2, p2⟩ | ⟨a2, xs2, ds2, rfl, rfl, h2, z2, p2⟩
      · cases h1 <;> cases h2
        all_goals walk_at "ri"
        all_goals first | (rw [same_no (by intro z; cases z)] at q; exact q) | (rw [same_bl] at q; exact q) | (rw [same_int] at q; exact q) | (rw [same_str] at q; exact q) | (rw [same_non] at q; exact q)
      · have t2 := h2.sq
        cases h1
        all_goals (walk_at "ri"; rw [same_no (by intro z; cases z)] at q; exact q)
      · have t2 := h2.sq
        cases h1
        all_goals (walk_at "ri"; rw [same_no (by intro z; cases z)] at q; exact q)
      · have t1 := h1.sq
        cases h2
        all_goals (walk_at "ri"; rw [same_no (by intro z; cases z)] at q; exact q)
      · have t1 := h1.sq
        have t2 := h2.sq
        walk_at "ri"
        refine ⟨_, _, rfl, .inl t1, _, rfl, _, _, rfl, .inl t2, rfl, _, rfl, ?_⟩
        have l1 := pair_len p1
        have l2 := pair_len p2
        refine iteN (fun c => ?_) (fun c => ?_)
        · rw [same_no (by intro z; cases z; exact c (by rw [l1, l2]))] at q; exact q
        have c' : xs1.length = xs2.length := by have := V.int.inj c; omega
        refine ⟨_, rfl, _, _, rfl, .inl t2, _, rfl, by omega, by omega, for_range (lo := 0) (n := _) (fun j σ H' => ∃ x2, σ = [some (.ref a1), some (.ref a2), x2] ∧ H' = H ∧ ds1.take j = ds2.take j) ⟨_, rfl, rfl, rfl⟩ ?_ ?_⟩
        · rintro j σ H1 hj ⟨x2, rfl, rfl, et⟩
          have j2 : j < xs2.length := by omega
          have j1 : j < xs1.length := by omega
          obtain ⟨e1, g1, r1⟩ := pair_get p1 (List.getElem?_eq_getElem j1)
          obtain ⟨e2, g2, r2⟩ := pair_get p2 (List.getElem?_eq_getElem j2)
          refine ⟨_, rfl, _, rfl, .inl ⟨_, _, _, _, rfl, rfl, t1, at_of (j := j) (by omega) (List.getElem?_eq_getElem j1), ?_⟩⟩
          refine ⟨_, rfl, _, rfl, .inl ⟨_, _, _, _, rfl, rfl, t2, at_of (j := j) (by omega) (List.getElem?_eq_getElem j2), ?_⟩⟩
          refine ⟨x, _, _, e1, e2, rfl, r1, r2, _, rfl, ?_⟩
          refine iteB (fun b => ?_) (fun b => ?_)
          · have ne : e1 ≠ e2 := fun h => by rw [same_yes h] at b; cases b
            rw [same_no (by intro z; cases z; rw [g1] at g2; exact ne (Option.some.inj g2))] at q; exact q
          · have ee : e1 = e2 := by
              apply same_iff.mp
              cases h : sameD e1 e2 with
              | true => rfl
              | false => rw [h] at b; cases b
            subst ee
            exact ⟨_, rfl, rfl, by rw [List.take_add_one, List.take_add_one, et, g1, g2]⟩
        · rintro σ H1 ⟨x2, rfl, rfl, et⟩
          have ed : ds1 = ds2 := by
            rw [List.take_of_length_le (by omega), List.take_of_length_le (by omega)] at et
            exact et
          subst ed
          rw [same_yes rfl] at q; exact q
      · have t1 := h1.sq
        have t2 := h2.sq
        walk_at "ri"
        rw [same_no (by intro z; cases z)] at q; exact q
      · have t1 := h1.sq
        cases h2
        all_goals (walk_at "ri"; rw [same_no (by intro z; cases z)] at q; exact q)
      · have t1 := h1.sq
        have t2 := h2.sq
        walk_at "ri"
        rw [same_no (by intro z; cases z)] at q; exact q
      · have t1 := h1.sq
        have t2 := h2.sq
        walk_at "ri"
        refine ⟨_, _, rfl, .inr t1, _, rfl, _, _, rfl, .inr t2, rfl, _, rfl, ?_⟩
        have l1 := pair_len p1
        have l2 := pair_len p2
        refine iteN (fun c => ?_) (fun c => ?_)
        · rw [same_no (by intro z; cases z; exact c (by rw [l1, l2]))] at q; exact q
        have c' : xs1.length = xs2.length := by have := V.int.inj c; omega
        refine ⟨_, rfl, _, _, rfl, .inr t2, _, rfl, by omega, by omega, for_range (lo := 0) (n := _) (fun j σ H' => ∃ x2, σ = [some (.ref a1), some (.ref a2), x2] ∧ H' = H ∧ ds1.take j = ds2.take j) ⟨_, rfl, rfl, rfl⟩ ?_ ?_⟩
        · rintro j σ H1 hj ⟨x2, rfl, rfl, et⟩
          have j2 : j < xs2.length := by omega
          have j1 : j < xs1.length := by omega
          obtain ⟨e1, g1, r1⟩ := pair_get p1 (List.getElem?_eq_getElem j1)
          obtain ⟨e2, g2, r2⟩ := pair_get p2 (List.getElem?_eq_getElem j2)
          refine ⟨_, rfl, _, rfl, .inr (.inl ⟨_, _, _, _, rfl, rfl, t1, at_of (j := j) (by omega) (List.getElem?_eq_getElem j1), ?_⟩)⟩
          refine ⟨_, rfl, _, rfl, .inr (.inl ⟨_, _, _, _, rfl, rfl, t2, at_of (j := j) (by omega) (List.getElem?_eq_getElem j2), ?_⟩)⟩
          refine ⟨x, _, _, e1, e2, rfl, r1, r2, _, rfl, ?_⟩
          refine iteB (fun b => ?_) (fun b => ?_)
          · have ne : e1 ≠ e2 := fun h => by rw [same_yes h] at b; cases b
            rw [same_no (by intro z; cases z; rw [g1] at g2; exact ne (Option.some.inj g2))] at q; exact q
          · have ee : e1 = e2 := by
              apply same_iff.mp
              cases h : sameD e1 e2 with
              | true => rfl
              | false => rw [h] at b; cases b
            subst ee
            exact ⟨_, rfl, rfl, by rw [List.take_add_one, List.take_add_one, et, g1, g2]⟩
        · rintro σ H1 ⟨x2, rfl, rfl, et⟩
          have ed : ds1 = ds2 := by
            rw [List.take_of_length_le (by omega), List.take_of_length_le (by omega)] at et
            exact et
          subst ed
          rw [same_yes rfl] at q; exact q
end
theorem nsame {d : PyData} : (!sameD d d) = false := by rw [same_yes rfl]; rfl
end My

namespace My
open PySem L2
/-! ### lists of ints: in, flat; slices -/
theorem flat_ints (ns : List Int) : (ns.map V.int).all flatV = true := by
  rw [List.all_eq_true]
  intro v h
  obtain ⟨n, _, rfl⟩ := List.mem_map.mp h
  rfl
theorem in_ints (n : Int) (ns : List Int) : inV (.int n) (ns.map V.int) = decide (n ∈ ns) := by
  unfold inV
  rw [List.any_map, Bool.eq_iff_iff, List.any_eq_true, decide_eq_true_iff]
  constructor
  · rintro ⟨m, h, e⟩
    have e : (m == n) = true := e
    rw [← beq_iff_eq.mp e]; exact h
  · intro h
    exact ⟨n, h, by show (n == n) = true; simp⟩
theorem cut_to (xs : List V) (n : Nat) : cutV xs none (some (n : Int)) = xs.take n := by
  unfold cutV HT.sIx
  simp only [List.drop_zero, Nat.sub_zero]
  have h0 : ¬ (n : Int) < 0 := by omega
  simp only [h0, if_false]
  by_cases h : n ≤ xs.length
  · congr 1
    omega
  · rw [List.take_of_length_le (by omega), List.take_of_length_le (by omega)]
theorem cut_from (xs : List V) (n : Nat) : cutV xs (some (n : Int)) none = xs.drop n := by
  unfold cutV HT.sIx
  have h0 : ¬ (n : Int) < 0 := by omega
  simp only [h0, if_false]
  by_cases h : n ≤ xs.length
  · rw [List.take_of_length_le (by rw [List.length_drop]; omega)]
    congr 1
    omega
  · rw [List.drop_eq_nil_of_le (by omega), List.drop_eq_nil_of_le (by omega), List.take_nil]
end My

namespace My
open PySem L2
/-! ### shapes: rows -/
structure Row where
  mark : Str
  pars : List Str
  least : Int
  most : Int
  sh : Bool
  deriving DecidableEq
def isMk (t : Str) : Bool := decide (1 ≤ t.length ∧ t.length ≤ 8) && (TL.tl t).all fun c => decide (97 ≤ c ∧ c ≤ 122)
def spMark : Sp := fun vs H Q _ => ∃ (z : Str), vs = [.str z] ∧ z.length ≤ 90000 ∧ Q (.bl (isMk z)) H
theorem letter_mem {c : Nat} : c ∈ ("abcdefghijklmnopqrstuvwxyz" : Str).cps.toList ↔ 97 ≤ c ∧ c ≤ 122 := by
  rw [show ("abcdefghijklmnopqrstuvwxyz" : Str).cps.toList = [97, 98, 99, 100, 101, 102, 103, 104, 105, 106, 107, 108, 109, 110, 111, 112, 113, 114, 115, 116, 117, 118, 119, 120, 121, 122] by decide +kernel]
  simp only [List.mem_cons, List.not_mem_nil, or_false]
  omega
section
variable {w : World} {K : PySem.W.Frag} {mg : Str → Option Value} {base : Heap}
theorem ok_is_mark (T : Txt K mg) : FnOk PP w K mg base CX0 1 T.a_is_mark T.fd_is_mark ["text"] spMark := by
  refine T.F_is_mark.ok sc_is_mark (fun vs H Q E h => ?_) (fun cdv A outer s H vs Q E hr h => ?_)
  · obtain ⟨z, rfl, _⟩ := h; rfl
  · obtain ⟨z, rfl, hz, q⟩ := h
    refine ⟨_, (pss_cons (ps_if (pt_not (pt_chain op_le op_le (pe_int) (pe_callB call_len_str (by rfl) T.n_len (by decide +kernel) (pa_cons (pv 0) pa_nil)) (pe_int))) (pss_one (ps_ret (pe_bl))) pss_nil)
      (pss_cons (ps_for PassesOwn.never rfl (pi_str (pv 0)) (pg_name (i := 1) sc_is_mark.nd rfl (.inl rfl)) (pss_one (ps_if (pt_cmpR op_notInS (pv 1) (pe_glob (v := .str "abcdefghijklmnopqrstuvwxyz") (by rfl) T.g_LETTERS ⟨_, rfl⟩) (by with_unfolding_all rfl)) (pss_one (ps_ret (pe_bl))) pss_nil)))
      (pss_one (ps_ret (pe_bl))))), ?_⟩
    have big : 90000 < sizeLine := by decide
    by_cases k1 : 1 ≤ z.length
    case neg =>
      rw [show isMk z = false by unfold isMk; rw [decide_eq_false (by omega)]; rfl] at q
      exact ⟨_, rfl, z, rfl, by omega, _, _, rfl, rfl, _, rfl, iteNo (decide_eq_false (by omega)) ⟨_, rfl, iteYes rfl q⟩⟩
    refine ⟨_, rfl, z, rfl, by omega, _, _, rfl, rfl, _, rfl, iteYes (decide_eq_true (by omega)) ⟨_, _, rfl, rfl, _, rfl, ?_⟩⟩
    by_cases k9 : z.length ≤ 8
    case neg =>
      rw [show isMk z = false by unfold isMk; rw [decide_eq_false (by omega)]; rfl] at q
      exact iteYes (by rw [decide_eq_false (by omega)]; rfl) q
    refine iteNo (by rw [decide_eq_true (by omega)]; rfl) ?_
    refine ⟨_, rfl, z, rfl, for_str (z := z) (fun i σ H' => ∃ x1, H' = H ∧ σ = [some (.str z), x1] ∧ ∀ j, j < i → ∀ c, (TL.tl z)[j]? = some c → 97 ≤ c ∧ c ≤ 122) ⟨_, rfl, rfl, fun j hj => absurd hj (Nat.not_lt_zero _)⟩ ?_ ?_⟩
    · rintro i c σ H' hc ⟨x1, rfl, rfl, hp⟩
      refine ⟨_, rfl, c, _, rfl, rfl, _, rfl, iteN (fun h => ?_) (fun h => ?_)⟩
      · rw [show isMk z = false by
          unfold isMk
          rw [List.all_eq_false.mpr ⟨c, List.mem_of_getElem? hc, by simpa using fun a => Nat.lt_of_not_le fun b => h (letter_mem.mpr ⟨a, b⟩)⟩, Bool.and_false]] at q
        exact q
      · refine ⟨_, rfl, rfl, fun j hj c' hc' => ?_⟩
        by_cases e : j = i
        · subst e
          rw [hc] at hc'
          exact Option.some.inj hc' ▸ letter_mem.mp h
        · exact hp j (by omega) c' hc'
    · rintro σ H' ⟨x1, rfl, rfl, hp⟩
      rw [show isMk z = true by
        unfold isMk
        rw [decide_eq_true ⟨k1, k9⟩, Bool.true_and, List.all_eq_true]
        intro c hc
        obtain ⟨j, hj, e⟩ := List.getElem_of_mem hc
        exact decide_eq_true (hp j (by rw [TL.len_tl]; exact hj) c (by rw [List.getElem?_eq_getElem hj, e]))] at q
      exact q
end
end My

namespace My
open PySem L2
def rowL (r : Row) (pp : Addr) : List V := [.str r.mark, .ref pp, .int r.least, .int r.most, .bl r.sh]
/-- a row as it is handed over: lists or tuples -/
def RowV (H : Hp) (v : V) (r : Row) : Prop := ∃ p pp, v = .ref p ∧ (H p = some (.tup (rowL r pp)) ∨ H p = some (.lst (rowL r pp))) ∧ (H pp = some (.tup (r.pars.map V.str)) ∨ H pp = some (.lst (r.pars.map V.str)))
/-- a row as it is kept -/
def RowT (H : Hp) (v : V) (r : Row) : Prop := ∃ p pp, v = .ref p ∧ H p = some (.tup (rowL r pp)) ∧ H pp = some (.tup (r.pars.map V.str))
def small (r : Row) : Prop := r.mark.length ≤ 1000 ∧ r.pars.length ≤ 100
def sizeB (r : Row) : Bool := decide (0 ≤ r.least) && (decide (r.least ≤ r.most) && decide (r.most ≤ 4))
def fineB (r : Row) (bs : List Str) : Bool := (isMk r.mark && (!decide (r.mark ∈ bs) && sizeB r)) && (decide (0 < r.most) == decide (0 < r.pars.length)) && decide r.pars.Nodup
def spRow (X : Addr) : Sp := fun vs H Q E => ∃ (v : V) (b : Addr) (r : Row) (bs : List Str), vs = [v, .ref b] ∧ RowV H v r ∧ H b = some (.lst (bs.map V.str)) ∧ small r ∧
  (fineB r bs = true → ∀ p pp H', Same H H' → H p = none → H' p = some (.tup (rowL r pp)) → H' pp = some (.tup (r.pars.map V.str)) → Q (.ref p) H') ∧
  (fineB r bs = false → ∀ H' d, Same H H' → H d = none → H' d = some (.xd [("mark", .str r.mark)]) → E (.ref X) (some d) H')
theorem flat_strs (ns : List Str) : (ns.map V.str).all flatV = true := by
  rw [List.all_eq_true]
  intro v h
  obtain ⟨n, _, rfl⟩ := List.mem_map.mp h
  rfl
theorem in_strs (n : Str) (ns : List Str) : inV (.str n) (ns.map V.str) = decide (n ∈ ns) := by
  unfold inV
  rw [List.any_map, Bool.eq_iff_iff, List.any_eq_true, decide_eq_true_iff]
  constructor
  · rintro ⟨m, h, e⟩
    have e : (m == n) = true := e
    rw [← beq_iff_eq.mp e]; exact h
  · intro h
    exact ⟨n, h, by show (n == n) = true; simp⟩
theorem nodup_take_succ {xs : List Str} {i : Nat} {y : Str} (h : xs[i]? = some y) : (xs.take (i + 1)).Nodup ↔ (xs.take i).Nodup ∧ y ∉ xs.take i := by
  rw [List.take_succ, h, Option.toList_some, List.nodup_append]
  constructor
  · rintro ⟨a, _, b⟩
    exact ⟨a, fun m => b y m y (List.mem_singleton.mpr rfl) rfl⟩
  · rintro ⟨a, b⟩
    refine ⟨a, List.nodup_cons.mpr ⟨List.not_mem_nil, List.nodup_nil⟩, fun x hx z hz e => b ?_⟩
    rw [List.mem_singleton.mp hz] at e
    exact e ▸ hx
section
variable {w : World} {K : PySem.W.Frag} {mg : Str → Option Value} {base : Heap}
theorem ok_sound_row (T : Txt K mg) : FnOk PP w K mg base (L2.CX PP w) 3 T.a_sound_row T.fd_sound_row ["row", "before"] (spRow T.c_BadShape) := by
  refine T.F_sound_row.okX sc_sound_row (fun vs H Q E h => ?_) (fun cdv A outer s H vs Q E hr h => ?_)
  · obtain ⟨v, b, r, bs, rfl, _⟩ := h; rfl
  · obtain ⟨v, b, r, bs, rfl, ⟨p, pp, rfl, hp, hpp⟩, hb, hz, q, qb⟩ := h
    refine ⟨_, (pss_cons (ps_asg (pv 0) (pg_seq rfl (pgs_cons (pg_name (i := 2) sc_sound_row.nd rfl (.inl rfl)) (pgs_cons (pg_name (i := 3) sc_sound_row.nd rfl (.inl rfl)) (pgs_cons (pg_name (i := 4) sc_sound_row.nd rfl (.inl rfl)) (pgs_cons (pg_name (i := 5) sc_sound_row.nd rfl (.inl rfl)) (pgs_cons (pg_name (i := 6) sc_sound_row.nd rfl (.inl rfl)) pgs_nil)))))))
      (C8.pss_cut (ps_set (i := 3) sc_sound_row.nd rfl (.inl rfl) (pe_callTy call_tuple_of (by rfl) T.n_tuple (by decide +kernel) (pa_cons (pv 3) pa_nil)))
      (C8.pss_cut (ps_set (i := 7) sc_sound_row.nd rfl (.inl rfl) (pe_and (pe_call (ok_is_mark T) (hr.mono (by omega)) (by rfl) T.g_is_mark T.F_is_mark.kp T.b_is_mark .nil pass0 (pa_cons (pv 2) pa_nil)) (pe_and (pe_cmpR op_notIn_seq (pv 2) (pv 1) (by with_unfolding_all rfl)) (pe_one (pe_chain3 op_le op_le op_le (pe_int) (pv 4) (pv 5) (ClX.pe_cval (pe_glob (v := .ref T.c_Shape) (by rfl) T.g_Shape rfl)))))))
      (C8.pss_cut (ps_if (PW.pt (pw_and (pt_val (pv 7)) (pw_and1 (pt_cmpR op_ne (pe_cmpR op_gt (pv 5) (pe_int) (nomark _)) (pe_cmpR op_gt (pe_callB call_len_seq (by rfl) T.n_len (by decide +kernel) (pa_cons (pv 3) pa_nil)) (pe_int) (nomark _)) (nomark _))))) (pss_one (ps_set (i := 7) sc_sound_row.nd rfl (.inl rfl) (pe_bl))) pss_nil)
      (pss_cons (ps_for (passes_of rfl) rfl (pi_enumT (by rfl) T.n_enumerate (pa_cons (pv 3) pa_nil)) (pg_tup rfl (pgs_cons (pg_name (i := 8) sc_sound_row.nd rfl (.inl rfl)) (pgs_cons (pg_name (i := 9) sc_sound_row.nd rfl (.inl rfl)) pgs_nil))) (pss_one (ps_if (pt_cmpR op_in_seq (pv 9) (pe_slice sl_tup (pv 3) po_none (po_some (pv 8))) (by with_unfolding_all rfl)) (pss_one (ps_set (i := 7) sc_sound_row.nd rfl (.inl rfl) (pe_bl))) pss_nil)))
      (pss_cons (ps_if (pt_not (pt_val (pv 7))) (pss_one (ps_raiseX rfl T.x_BadShape hr (takes_of rfl rfl rfl rfl) (pa_cons (pv 2) pa_nil))) pss_nil)
      (pss_one (ps_ret (pe_tup (pa_cons (pv 2) (pa_cons (pv 3) (pa_cons (pv 4) (pa_cons (pv 5) (pa_cons (pv 6) pa_nil)))))))))))))), ?_⟩
    have big : 90000 < sizeLine := by decide
    refine ⟨_, rfl, gSeq_of hp rfl ⟨_, _, rfl, _, _, rfl, _, _, rfl, _, _, rfl, _, _, rfl, rfl, ?_⟩⟩
    have lm := hz.1
    have lp := hz.2
    -- parents = tuple(parents)
    refine ⟨fun σ' H' => ∃ pq, σ' = [some (.ref p), some (.ref b), some (.str r.mark), some (.ref pq), some (.int r.least), some (.int r.most), some (.bl r.sh), none, none, none] ∧ Same H H' ∧ H' pq = some (.tup (r.pars.map V.str)), ?_, ?_⟩
    · rcases hpp with hpp | hpp
      · exact ⟨_, rfl, pp, _, rfl, .inr ⟨SqT.of hpp, pp, rfl, fun _ _ h => h, hpp⟩⟩
      · exact ⟨_, rfl, pp, _, rfl, .inl ⟨SqL.of hpp, fun l hl => ⟨l, rfl, same_new hl, upd_same⟩⟩⟩
    rintro σ' H1 ⟨pq, rfl, s1, hq⟩
    -- good
    refine ⟨fun σ' H' => H' = H1 ∧ σ' = [some (.ref p), some (.ref b), some (.str r.mark), some (.ref pq), some (.int r.least), some (.int r.most), some (.bl r.sh), some (.bl (isMk r.mark && (!decide (r.mark ∈ bs) && sizeB r))), none, none], ?_, ?_⟩
    · refine ⟨_, rfl, r.mark, rfl, by omega, ?_⟩
      refine ⟨_, rfl, ?_⟩
      cases isMk r.mark with
      | false => exact iteF ⟨rfl, rfl⟩
      | true =>
        refine iteT ⟨_, rfl, _, rfl, _, _, rfl, .inl (SqL.of (s1 _ _ hb)), rfl, flat_strs bs, ?_⟩
        rw [in_strs]
        refine ⟨_, rfl, ?_⟩
        by_cases hm : r.mark ∈ bs
        · refine iteNo (by simp [hm]) ⟨rfl, ?_⟩
          rw [show (true && (!decide (r.mark ∈ bs) && sizeB r)) = false by simp [hm]]
          rfl
        · refine iteYes (by simp [hm]) ⟨_, rfl, _, _, rfl, rfl, _, rfl, iteD (fun c1 => ?_) (fun c1 => ?_)⟩
          · refine ⟨_, rfl, _, _, rfl, rfl, _, rfl, iteD (fun c2 => ?_) (fun c2 => ?_)⟩
            · refine ⟨_, _, _, _, rfl, T.cr_Shape, T.cv_Shape_PARENTS, _, _, rfl, rfl, rfl, ?_⟩
              rw [show (true && (!decide (r.mark ∈ bs) && sizeB r)) = decide (r.most ≤ 4) by simp [hm, sizeB, c1, c2]]
              rfl
            · refine ⟨rfl, ?_⟩
              rw [show (true && (!decide (r.mark ∈ bs) && sizeB r)) = false by simp [hm, sizeB, c2]]
              rfl
          · refine ⟨rfl, ?_⟩
            rw [show (true && (!decide (r.mark ∈ bs) && sizeB r)) = false by simp [hm, sizeB, c1]]
            rfl
    rintro σ' H' ⟨rfl, rfl⟩
    generalize hg0 : (isMk r.mark && (!decide (r.mark ∈ bs) && sizeB r)) = g0
    -- parents and the greatest number
    refine ⟨fun σ' H1 => H1 = H' ∧ σ' = [some (.ref p), some (.ref b), some (.str r.mark), some (.ref pq), some (.int r.least), some (.int r.most), some (.bl r.sh), some (.bl (g0 && (decide (0 < r.most) == decide (0 < r.pars.length)))), none, none], ?_, ?_⟩
    · refine ⟨_, rfl, _, rfl, ?_⟩
      cases g0 with
      | false => exact iteF ⟨rfl, rfl⟩
      | true =>
        refine iteT ⟨_, rfl, _, _, rfl, rfl, _, rfl, pq, _, rfl, .inr (SqT.of hq), _, _, rfl, rfl, rfl, _, rfl, ?_⟩
        rw [List.length_map]
        have hz : decide ((0 : Int) < ((r.pars.length : Nat) : Int)) = decide (0 < r.pars.length) := decide_eq_decide.mpr (by omega)
        refine iteN (fun e => ?_) (fun e => ?_)
        · refine ⟨rfl, ?_⟩
          have e : decide (0 < r.most) ≠ decide (0 < r.pars.length) := fun z => e (congrArg V.bl (z.trans hz.symm))
          rw [show (true && (decide (0 < r.most) == decide (0 < r.pars.length))) = false by simpa using e]
          rfl
        · refine ⟨rfl, ?_⟩
          have e : decide (0 < r.most) = decide (0 < r.pars.length) := (V.bl.inj e).trans hz
          rw [e]; simp
    rintro σ' H1 ⟨rfl, rfl⟩
    generalize hg1 : (g0 && (decide (0 < r.most) == decide (0 < r.pars.length))) = g1
    refine ⟨_, rfl, pq, _, rfl, SqT.of hq, for_enumT (K := K) (a := pq) (xs := r.pars.map V.str) (fun i σ' H2 => ∃ x8 x9, Same H1 H2 ∧ σ' = [some (.ref p), some (.ref b), some (.str r.mark), some (.ref pq), some (.int r.least), some (.int r.most), some (.bl r.sh), some (.bl (g1 && decide (r.pars.take i).Nodup)), x8, x9])
      ⟨_, _, fun _ _ h => h, by rw [List.take_zero, decide_eq_true List.nodup_nil, Bool.and_true]⟩ (fun i σ' H2 _ ⟨_, _, s2, _⟩ => SqT.of (s2 _ _ hq)) ?_ ?_⟩
    · rintro i v σ' H2 Tt hv ⟨x8, x9, s2, rfl⟩ hTt
      obtain ⟨y, hy, rfl⟩ : ∃ y, r.pars[i]? = some y ∧ v = .str y := by
        rw [List.getElem?_map] at hv
        cases e : r.pars[i]? with
        | none => rw [e] at hv; cases hv
        | some y => rw [e] at hv; exact ⟨y, rfl, (Option.some.inj hv).symm⟩
      have s3 := s2.trans (same_new (o := .tup [.int (i : Nat), .str y]) hTt)
      have hi : i < r.pars.length := (List.getElem?_eq_some_iff.mp hy).1
      have hpq : (L2.upd H2 Tt (.tup [.int (i : Nat), .str y])) pq = some (.tup (r.pars.map V.str)) := s3 _ _ hq
      refine ⟨Tt, _, rfl, .inl (.inl upd_same), rfl, _, _, rfl, _, _, rfl, rfl, ?_⟩
      refine ⟨_, rfl, _, rfl, _, rfl, _, rfl, pq, _, rfl, SqT.of hpq, ?_, fun c hc => ?_⟩
      · rw [HT.sIx_nat, List.length_map, Nat.min_eq_left (Nat.le_of_lt hi)]
        exact fun h => absurd h.2 (by omega)
      · have ct : cutV (r.pars.map V.str) none (some ((i : Nat) : Int)) = (r.pars.take i).map V.str := by rw [cut_to, List.map_take]
        refine ⟨_, _, rfl, .inr (SqT.of upd_same), rfl, by rw [ct]; exact flat_strs _, ?_⟩
        rw [ct, in_strs]
        refine ⟨_, rfl, iteD (fun k => ?_) (fun k => ?_)⟩
        · refine ⟨some (.int (i : Nat)), some (.str y), s3.trans (same_new hc), ?_⟩
          rw [decide_eq_false (p := (r.pars.take (i + 1)).Nodup) (fun n => ((nodup_take_succ hy).mp n).2 k), Bool.and_false]
          rfl
        · refine ⟨some (.int (i : Nat)), some (.str y), s3.trans (same_new hc), ?_⟩
          rw [show decide (r.pars.take (i + 1)).Nodup = decide (r.pars.take i).Nodup from decide_eq_decide.mpr ⟨fun n => ((nodup_take_succ hy).mp n).1, fun n => (nodup_take_succ hy).mpr ⟨n, k⟩⟩]
          rfl
    rintro σ' H2 ⟨x8, x9, s2, rfl⟩
    rw [List.length_map, List.take_length]
    have ef : fineB r bs = (g1 && decide r.pars.Nodup) := by unfold fineB; rw [hg0, hg1]
    have t2 := s1.trans s2
    refine ⟨_, rfl, _, rfl, ?_⟩
    rw [← ef]
    cases hf : fineB r bs with
    | false =>
      refine iteYes rfl ⟨_, rfl, _, rfl, fun d hd => ?_⟩
      exact qb hf _ d (t2.trans (same_new hd)) (t2.free hd) upd_same
    | true =>
      refine iteNo rfl ⟨_, rfl, _, rfl, _, rfl, _, rfl, _, rfl, by show 5 ≤ sizeLine; decide, fun z hz' => ?_⟩
      exact q hf z pq _ (t2.trans (same_new hz')) (t2.free hz') upd_same (same_new hz' _ _ (s2 _ _ hq))
end
end My

namespace My
open PySem L2
/-! ### marks that webs can contain -/
inductive Fert (rs : List Row) : Str → Prop
  | base {r : Row} : r ∈ rs → r.least = 0 → Fert rs r.mark
  | step {r : Row} {p : Str} : r ∈ rs → p ∈ r.pars → Fert rs p → Fert rs r.mark
abbrev RowsT (H : Hp) (vs : List V) (rs : List Row) : Prop := Paired (RowT H) vs rs
theorem RowT.same {H H' : Hp} {v : V} {r : Row} (h : RowT H v r) (s : Same H H') : RowT H' v r := let ⟨p, pp, e, a, b⟩ := h; ⟨p, pp, e, s _ _ a, s _ _ b⟩
theorem rowsT_same {H H' : Hp} {vs : List V} {rs : List Row} (h : RowsT H vs rs) (s : Same H H') : RowsT H' vs rs := L2.Paired.mapP h fun _ _ x => x.same s
theorem pair_get' {α β : Type} {F : α → β → Prop} : ∀ {l : List α} {m : List β} {i : Nat} {x : α}, Paired F l m → l[i]? = some x → ∃ y, m[i]? = some y ∧ F x y
  | _, _, _, _, .nil, e => by simp at e
  | _, _, 0, _, .cons r _, e => by simp at e; subst e; exact ⟨_, rfl, r⟩
  | _, _, i + 1, x, .cons _ t, e => by
    obtain ⟨y, h1, h2⟩ := pair_get' (i := i) (x := x) t (by simpa using e)
    exact ⟨y, by simpa using h1, h2⟩
theorem pair_len' {α β : Type} {F : α → β → Prop} : ∀ {l : List α} {m : List β}, Paired F l m → l.length = m.length
  | _, _, .nil => rfl
  | _, _, .cons _ t => by rw [List.length_cons, List.length_cons, pair_len' t]
/-- the first mark that no web can contain -/
inductive Lost (rs : List Row) : V → Prop
  | no : (∀ r ∈ rs, Fert rs r.mark) → Lost rs .non
  | yes {i : Nat} {r : Row} : rs[i]? = some r → (∀ q ∈ rs.take i, Fert rs q.mark) → ¬ Fert rs r.mark → Lost rs (.str r.mark)
def spBarren (K : PySem.W.Frag) : Sp := fun vs H Q _ => ∃ (a : Addr) (us : List V) (rs : List Row), vs = [.ref a] ∧ H a = some (.lst us) ∧ RowsT H us rs ∧ rs.length ≤ 100 ∧ (∀ r ∈ rs, small r) ∧
  ∀ v H', Same H H' → Lost rs v → Q v H'
def knB (kvs : List (Key × V)) (m : Str) : Bool := (valV kvs (.inr m)).isSome
theorem knB_put {kvs : List (Key × V)} {m n : Str} {v : V} : knB (putK kvs (.inr m) v) n = (decide (n = m) || knB kvs n) := by
  unfold knB
  rw [valV_put]
  by_cases e : n = m
  · subst e; simp
  · rw [if_neg (fun c => e (Sum.inr.inj c))]; simp [e]
def ripeB (kvs : List (Key × V)) (r : Row) : Bool := decide (r.least = 0) || r.pars.any (knB kvs)
/-- rows whose marks are not known -/
def restOf (kvs : List (Key × V)) (rs : List Row) : Nat := (rs.filter fun r => !knB kvs r.mark).length
theorem flt_lt {α : Type} {f g : α → Bool} {x : α} : ∀ {l : List α}, (∀ y ∈ l, f y = true → g y = true) → x ∈ l → f x = false → g x = true → (l.filter f).length < (l.filter g).length
  | [], _, h, _, _ => by cases h
  | a :: l, i, h, hf, hg => by
    have le : ∀ {l : List α}, (∀ y ∈ l, f y = true → g y = true) → (l.filter f).length ≤ (l.filter g).length := by
      intro l
      induction l with
      | nil => intro _; exact Nat.le_refl _
      | cons a l ih =>
        intro i
        have ih := ih fun y hy => i y (List.mem_cons_of_mem _ hy)
        have ia := i a (List.mem_cons_self ..)
        simp only [List.filter_cons]
        cases e : f a with
        | false => cases g a <;> simp <;> omega
        | true => rw [ia e]; simp; exact ih
    have il := fun y hy => i y (List.mem_cons_of_mem _ hy)
    simp only [List.filter_cons]
    rcases List.mem_cons.mp h with rfl | h
    · rw [hf, hg]
      simp only [Bool.false_eq_true, if_false, if_true, List.length_cons]
      exact Nat.lt_succ_of_le (le il)
    · have := flt_lt il h hf hg
      have ia := i a (List.mem_cons_self ..)
      cases e : f a with
      | false => cases g a <;> simp <;> omega
      | true => rw [ia e]; simp; exact this
theorem rest_put {kvs : List (Key × V)} {rs : List Row} {r : Row} {v : V} (h : r ∈ rs) (n : knB kvs r.mark = false) : restOf (putK kvs (.inr r.mark) v) rs < restOf kvs rs := by
  refine flt_lt (x := r) (fun y _ e => ?_) h ?_ ?_
  · rw [knB_put] at e
    cases k : knB kvs y.mark with
    | false => rfl
    | true => rw [k, Bool.or_true] at e; cases e
  · rw [knB_put]; simp
  · rw [n]; rfl
section
variable {K : PySem.W.Frag}
theorem any_kn {x0 x2 x3 x5 x6 x7 x8 : Option V} {d pp : Addr} {ps : List Str} {kvs : List (Key × V)} {H : Hp} {Q : VK} (hd : H d = some (.dK kvs)) (hp : H pp = some (.tup (ps.map V.str))) (hz : ps.length ≤ 1000) (q : ∀ H', Same H H' → Q (.bl (ps.any (knB kvs))) H') :
    tCB (rAny K) (tCons (tLc (iTup K (tVar 4)) (gName 7) tYes (tOp (rInKd false) (tVar 7) (tVar 1)) [7]) tNil) [x0, some (.ref d), x2, x3, some (.ref pp), x5, x6, x7, x8] H Q := by
  have big : 1000 < sizeLine := by decide
  refine ⟨_, rfl, pp, rfl, ⟨_, SqT.of hp⟩, fun D hD => lc_tup (K := K) (a := pp) (xs := ps.map V.str) (fun i H' => Same H H' ∧ H' D = some (.lst ((ps.take i).map fun y => V.bl (knB kvs y)))) ⟨same_new hD, upd_same⟩ (fun i H' _ h => SqT.of (h.1 _ _ hp)) ?_ ?_⟩
  · rintro i v H1 hv ⟨s1, hD1⟩
    rw [List.getElem?_map] at hv
    cases e : ps[i]? with
    | none => rw [e] at hv; cases hv
    | some y1 =>
      rw [e] at hv
      obtain rfl : V.str y1 = v := Option.some.inj hv
      refine ⟨rfl, ?_⟩
      unfold tYes
      refine iteT ⟨_, rfl, _, rfl, d, _, rfl, DGet.k (k := .inr y1) (s1 _ _ hd), _, hD1, ?_, same_mut s1 hD, ?_⟩
      · rw [List.length_map, List.length_take]; omega
      · rw [upd_same, List.take_succ, e]
        simp [knB]
  · rintro H1 ⟨s1, hD1⟩
    rw [List.length_map, List.take_length] at hD1
    refine ⟨D, ps.map fun y => knB kvs y, rfl, SqL.of (by rw [hD1, List.map_map]; rfl), ?_⟩
    rw [List.any_map]
    exact q H1 s1
end
theorem fert_known {rs : List Row} {kvs : List (Key × V)} (cl : ∀ r ∈ rs, knB kvs r.mark = false → ripeB kvs r = false) {m : Str} (h : Fert rs m) : knB kvs m = true := by
  induction h with
  | @base r hr e =>
    cases k : knB kvs r.mark with
    | true => rfl
    | false =>
      have := cl r hr k
      unfold ripeB at this
      rw [decide_eq_true e, Bool.true_or] at this; cases this
  | @step r p hr hp _ ih =>
    cases k : knB kvs r.mark with
    | true => rfl
    | false =>
      have := cl r hr k
      unfold ripeB at this
      rw [List.any_eq_true.mpr ⟨p, hp, ih⟩, Bool.or_true] at this; cases this
theorem ripe_fert {rs : List Row} {kvs : List (Key × V)} (so : ∀ m, knB kvs m = true → Fert rs m) {r : Row} (hr : r ∈ rs) (h : ripeB kvs r = true) : Fert rs r.mark := by
  unfold ripeB at h
  rw [Bool.or_eq_true, decide_eq_true_iff, List.any_eq_true] at h
  rcases h with h | ⟨p, hp, k⟩
  · exact .base hr h
  · exact .step hr hp (so p k)
section
variable {w : World} {K : PySem.W.Frag} {mg : Str → Option Value} {base : Heap}
theorem ok_barren (T : Txt K mg) : FnOk PP w K mg base CX0 2 T.a_barren T.fd_barren ["rows"] (spBarren K) := by
  refine T.F_barren.ok sc_barren (fun vs H Q E h => ?_) (fun cdv A outer s H vs Q E hr h => ?_)
  · obtain ⟨a, us, rs, rfl, _⟩ := h; rfl
  · obtain ⟨a, us, rs, rfl, ha, hR, hz, hsm, q⟩ := h
    refine ⟨_, (pss_cons (ps_set (i := 1) sc_barren.nd rfl (.inr rfl) (pe_dnewK))
      (pss_cons (ps_set (i := 2) sc_barren.nd rfl (.inl rfl) (pe_bl))
      (pss_cons (ps_while PassesOwn.never (pt_val (pv 2)) (pss_cons (ps_set (i := 2) sc_barren.nd rfl (.inl rfl) (pe_bl))
      (pss_one (ps_for PassesOwn.never rfl (pi_list (pv 0)) (pg_tup rfl (pgs_cons (pg_name (i := 3) sc_barren.nd rfl (.inl rfl)) (pgs_cons (pg_name (i := 4) sc_barren.nd rfl (.inl rfl)) (pgs_cons (pg_name (i := 5) sc_barren.nd rfl (.inl rfl)) (pgs_cons (pg_name (i := 6) sc_barren.nd rfl (.inl rfl)) (pgs_cons (pg_name (i := 6) sc_barren.nd rfl (.inl rfl)) pgs_nil)))))) (pss_one (ps_if (PW.pt (pw_and (pt_cmpR (op_ninKd (hu_of hr)) (pv 3) (pv 1) (by with_unfolding_all rfl)) (pw_and1 (PW.pt (pw_or (pt_cmpR op_eq (pv 5) (pe_int) (nomark _)) (pw_or1 (pt_val (pe_callB (anyK (K := K) rfl rfl) (by rfl) T.n_any (by decide +kernel) (pa_cons (pe_lc (own := [("parent", 7)]) (g := (gName 7)) (by rfl) sc_barren.nd (pi_tup (pv 4)) (blkOk_by (own := [("parent", 7)]) (N := ["rows", "known", "grown", "mark", "parents", "least", "_", "parent", "row"]) (sc := defScope S_barren) (by decide +kernel)) (fun _ _ _ _ _ => (pg_name (i := 7) sc_barren.nd rfl (by first | exact .inl rfl | exact .inr rfl))) (fun _ _ _ _ _ => pts_nil) (fun _ _ _ _ _ => (pe_cmpR (op_inKd (hu_of hr)) (pv 7) (pv 1) (by with_unfolding_all rfl)))) pa_nil))))))))) (pss_cons (ps_dput (hu_of hr) (pv 1) (pv 3) (pe_bl) rfl)
      (pss_one (ps_set (i := 2) sc_barren.nd rfl (.inl rfl) (pe_bl)))) pss_nil))))))
      (pss_cons (ps_for PassesOwn.never rfl (pi_list (pv 0)) (pg_name (i := 8) sc_barren.nd rfl (.inl rfl)) (pss_one (ps_if (pt_cmpR (op_ninKd (hu_of hr)) (pe_ix ix_tup (pv 8) (pe_int) (fun _ _ => rfl)) (pv 1) (by with_unfolding_all rfl)) (pss_one (ps_ret (pe_ix ix_tup (pv 8) (pe_int) (fun _ _ => rfl)))) pss_nil)))
      (pss_one (ps_ret (pe_non))))))), ?_⟩
    have big : 1000 < sizeLine := by decide
    refine fun d hd => ?_
    have s1 := same_new (o := .dK []) hd
    refine ⟨fun m σ H' => ∃ (kvs : List (Key × V)) (g : Bool) (x3 x4 x5 x6 x7 x8 : Option V), σ = [some (.ref a), some (.ref d), some (.bl g), x3, x4, x5, x6, x7, x8] ∧ Same H H' ∧ H' d = some (.dK kvs) ∧ m = 2 * restOf kvs rs + (if g then 1 else 0) ∧ kvs.length + restOf kvs rs ≤ rs.length ∧
      (∀ m, knB kvs m = true → Fert rs m) ∧ (g = false → ∀ r ∈ rs, knB kvs r.mark = false → ripeB kvs r = false), ⟨_, [], true, _, _, _, _, _, _, rfl, s1, upd_same, rfl, ?_, (fun m h => by cases h), (fun h => by cases h)⟩, ?_⟩
    · rw [List.length_nil, Nat.zero_add]; exact List.length_filter_le _ _
    rintro m σ H2 ⟨kvs, g, x3, x4, x5, x6, x7, x8, rfl, s2, hd2, rfl, lk, so, cl⟩
    refine ⟨_, rfl, _, rfl, ?_⟩
    cases g with
    | true =>
      refine iteT ⟨_, fun σ' H' h => h, ?_⟩
      refine ⟨_, rfl, a, rfl, ⟨_, SqL.of (s2 _ _ ha)⟩, for_list (K := K) (a := a) (xs := us) (fun i σ H' => ∃ (kv : List (Key × V)) (g : Bool) (x3 x4 x5 x6 x7 x8 : Option V), σ = [some (.ref a), some (.ref d), some (.bl g), x3, x4, x5, x6, x7, x8] ∧ Same H H' ∧ H' d = some (.dK kv) ∧ kv.length + restOf kv rs ≤ rs.length ∧
        (∀ m, knB kv m = true → Fert rs m) ∧ (g = true → restOf kv rs < restOf kvs rs) ∧ (g = false → kv = kvs ∧ ∀ r ∈ rs.take i, knB kv r.mark = false → ripeB kv r = false))
        ⟨kvs, false, _, _, _, _, _, _, rfl, s2, hd2, lk, so, (fun h => by cases h), fun _ => ⟨rfl, fun r h => by rw [List.take_zero] at h; cases h⟩⟩ (fun i σ H' _ ⟨_, _, _, _, _, _, _, _, _, s, _⟩ => SqL.of (s _ _ ha)) ?_ ?_⟩
      · rintro i v σ H3 hv ⟨kv, g, y3, y4, y5, y6, y7, y8, rfl, s3, hd3, lk3, so3, up, dn⟩
        obtain ⟨r, hr, p, pp, rfl, hp, hpp⟩ := pair_get' hR hv
        have mr : r ∈ rs := List.mem_of_getElem? hr
        have hp3 := s3 _ _ hp
        have hpp3 := s3 _ _ hpp
        refine ⟨p, _, rfl, SqT.of hp3, rfl, _, _, rfl, _, _, rfl, _, _, rfl, _, _, rfl, _, _, rfl, rfl, ?_⟩
        have stay : (knB kv r.mark = false → ripeB kv r = false) → ∀ H4, Same H3 H4 → ∀ y7, ∃ (kv' : List (Key × V)) (g' : Bool) (x3 x4 x5 x6 x7 x8 : Option V), ([some (.ref a), some (.ref d), some (.bl g), some (.str r.mark), some (.ref pp), some (.int r.least), some (.bl r.sh), y7, y8] : L2.St) = [some (.ref a), some (.ref d), some (.bl g'), x3, x4, x5, x6, x7, x8] ∧ Same H H4 ∧ H4 d = some (.dK kv') ∧ kv'.length + restOf kv' rs ≤ rs.length ∧
            (∀ m, knB kv' m = true → Fert rs m) ∧ (g' = true → restOf kv' rs < restOf kvs rs) ∧ (g' = false → kv' = kvs ∧ ∀ r ∈ rs.take (i + 1), knB kv' r.mark = false → ripeB kv' r = false) := fun no H4 s4 y7 => by
          refine ⟨kv, g, _, _, _, _, _, _, rfl, s3.trans s4, s4 _ _ hd3, lk3, so3, up, fun e => ⟨(dn e).1, fun q hq => ?_⟩⟩
          rw [List.take_succ, hr] at hq
          rcases List.mem_append.mp hq with hq | hq
          · exact (dn e).2 q hq
          · rw [List.mem_singleton.mp hq]; exact no
        have go : knB kv r.mark = false → ripeB kv r = true → ∀ H4, Same H3 H4 → ∀ y7, ∃ (kv' : List (Key × V)) (g' : Bool) (x3 x4 x5 x6 x7 x8 : Option V), ([some (.ref a), some (.ref d), some (.bl true), some (.str r.mark), some (.ref pp), some (.int r.least), some (.bl r.sh), y7, y8] : L2.St) = [some (.ref a), some (.ref d), some (.bl g'), x3, x4, x5, x6, x7, x8] ∧ Same H (upd H4 d (.dK (putK kv (.inr r.mark) (.bl true)))) ∧ (upd H4 d (.dK (putK kv (.inr r.mark) (.bl true)))) d = some (.dK kv') ∧ kv'.length + restOf kv' rs ≤ rs.length ∧
            (∀ m, knB kv' m = true → Fert rs m) ∧ (g' = true → restOf kv' rs < restOf kvs rs) ∧ (g' = false → kv' = kvs ∧ ∀ r ∈ rs.take (i + 1), knB kv' r.mark = false → ripeB kv' r = false) := fun nk rp H4 s4 y7 => by
          have lt := rest_put (v := .bl true) mr nk
          refine ⟨putK kv (.inr r.mark) (.bl true), true, _, _, _, _, _, _, rfl, same_mut (s3.trans s4) hd, upd_same, ?_, fun m hm => ?_, fun _ => ?_, fun e => by cases e⟩
          · have := length_putK kv (.inr r.mark) (.bl true); omega
          · rw [knB_put, Bool.or_eq_true, decide_eq_true_iff] at hm
            rcases hm with rfl | hm
            · exact ripe_fert so3 mr rp
            · exact so3 m hm
          · cases g with
            | true => have := up rfl; omega
            | false => have e := (dn rfl).1; subst e; exact lt
        have lz : kv.length < sizeLine := by omega
        refine ⟨_, rfl, _, rfl, d, _, rfl, DGet.k (k := .inr r.mark) hd3, _, rfl, ?_⟩
        cases nk : knB kv r.mark with
        | true => exact iteNo (by show (!knB kv r.mark) = false; rw [nk]; rfl) (stay (fun z => by rw [nk] at z; cases z) H3 (fun _ _ h => h) y7)
        | false =>
          refine iteYes (by show (!knB kv r.mark) = true; rw [nk]; rfl) ⟨_, rfl, rfl, _, rfl, ?_⟩
          refine iteD (fun c => ?_) (fun c => ?_)
          · have c : r.least = 0 := V.int.inj c
            refine iteT ?_
            refine ⟨_, rfl, _, rfl, d, _, rfl, DPut.k (k := .inr r.mark) hd3 lz, ?_⟩
            exact go nk (by unfold ripeB; rw [decide_eq_true c, Bool.true_or]) H3 (fun _ _ h => h) y7
          · have c : r.least ≠ 0 := fun z => c (by rw [z])
            refine any_kn hd3 hpp3 (by have := (hsm r mr).2; omega) fun H4 s4 => ⟨_, rfl, ?_⟩
            cases ra : r.pars.any (knB kv) with
            | true =>
              refine iteT ?_
              refine ⟨_, rfl, _, rfl, d, _, rfl, DPut.k (k := .inr r.mark) (s4 _ _ hd3) lz, ?_⟩
              exact go nk (by unfold ripeB; rw [ra, Bool.or_true]) H4 s4 y7
            | false => exact iteF (stay (fun _ => by unfold ripeB; rw [ra, decide_eq_false c]; rfl) H4 s4 y7)
      · rintro σ H3 ⟨kv, g, y3, y4, y5, y6, y7, y8, rfl, s3, hd3, lk3, so3, up, dn⟩
        rw [pair_len' hR, List.take_length] at dn
        refine ⟨_, ?_, kv, g, _, _, _, _, _, _, rfl, s3, hd3, rfl, lk3, so3, fun e => (dn e).2⟩
        cases g with
        | true => have := up rfl; simp; omega
        | false => rw [(dn rfl).1]; simp
    | false =>
      refine iteF ?_
      have cl := cl rfl
      refine ⟨_, rfl, a, rfl, ⟨_, SqL.of (s2 _ _ ha)⟩, for_list (K := K) (a := a) (xs := us) (fun i σ H' => ∃ x8, σ = [some (.ref a), some (.ref d), some (.bl false), x3, x4, x5, x6, x7, x8] ∧ H' = H2 ∧ ∀ r ∈ rs.take i, Fert rs r.mark) ⟨_, rfl, rfl, fun r h => by rw [List.take_zero] at h; cases h⟩ (fun i σ H' _ ⟨_, _, e, _⟩ => SqL.of (by rw [e]; exact s2 _ _ ha)) ?_ ?_⟩
      · rintro i v σ H3 hv ⟨y8, rfl, rfl, hf⟩
        obtain ⟨r, hr, p, pp, rfl, hp, hpp⟩ := pair_get' hR hv
        have hp3 := s2 _ _ hp
        refine ⟨_, rfl, _, _, _, _, rfl, rfl, SqT.of hp3, atI_nat (j := 0) rfl, _, rfl, d, _, rfl, DGet.k (k := .inr r.mark) hd2, _, rfl, ?_⟩
        cases nk : knB kvs r.mark with
        | true =>
          refine iteNo (by show (!knB kvs r.mark) = false; rw [nk]; rfl) ⟨_, rfl, rfl, fun q hq => ?_⟩
          rw [List.take_succ, hr] at hq
          rcases List.mem_append.mp hq with hq | hq
          · exact hf q hq
          · rw [List.mem_singleton.mp hq]; exact so _ nk
        | false =>
          refine iteYes (by show (!knB kvs r.mark) = true; rw [nk]; rfl) ⟨_, rfl, _, _, _, _, rfl, rfl, SqT.of hp3, atI_nat (j := 0) rfl, ?_⟩
          exact q _ _ s2 (.yes hr hf fun f => by have := fert_known cl f; rw [nk] at this; cases this)
      · rintro σ H3 ⟨y8, rfl, rfl, hf⟩
        rw [pair_len' hR, List.take_length] at hf
        exact q _ _ s2 (.no hf)
end
end My

namespace My
open PySem L2
/-! ### a new shape -/
def mksV (rs : List Row) : List V := rs.map fun r => .str r.mark
def mks (rs : List Row) : List Str := rs.map Row.mark
theorem mksV_eq (rs : List Row) : mksV rs = (mks rs).map V.str := by unfold mksV mks; rw [List.map_map]; rfl
def rowFine (rs : List Row) (i : Nat) : Prop := ∀ r, rs[i]? = some r → fineB r (mks (rs.take i)) = true
inductive SErr where
  | large
  | bad (m : Str)
  | unk (m : Str)
def parsOk (rs : List Row) (r : Row) : Prop := ∀ p ∈ r.pars, p ∈ mks rs
inductive Due (rs : List Row) : SErr → Prop
  | large : 6 < rs.length → Due rs .large
  | row {i : Nat} {r : Row} : rs.length ≤ 6 → rs[i]? = some r → (∀ j, j < i → rowFine rs j) → fineB r (mks (rs.take i)) = false → Due rs (.bad r.mark)
  | par {i k : Nat} {r : Row} {p : Str} : rs.length ≤ 6 → (∀ j, rowFine rs j) → rs[i]? = some r → r.pars[k]? = some p → (∀ q ∈ rs.take i, parsOk rs q) → (∀ q ∈ r.pars.take k, q ∈ mks rs) → p ∉ mks rs → Due rs (.unk p)
  | lost {i : Nat} {r : Row} : rs.length ≤ 6 → (∀ j, rowFine rs j) → (∀ q ∈ rs, parsOk rs q) → rs[i]? = some r → (∀ q ∈ rs.take i, Fert rs q.mark) → ¬ Fert rs r.mark → Due rs (.bad r.mark)
structure Good (rs : List Row) : Prop where
  len : rs.length ≤ 6
  fine : ∀ j, rowFine rs j
  pars : ∀ q ∈ rs, parsOk rs q
  fert : ∀ q ∈ rs, Fert rs q.mark
/-- what the error e is: its class and what it holds -/
def ErrIs (TL BS UM : Addr) : SErr → Addr → V → Str → Prop
  | .large, c, v, f => c = TL ∧ v = .int 6 ∧ f = "most"
  | .bad m, c, v, f => c = BS ∧ v = .str m ∧ f = "mark"
  | .unk m, c, v, f => c = UM ∧ v = .str m ∧ f = "mark"
/-- a shape at x -/
def ShO (C : Addr) (H : Hp) (x : Addr) (rs : List Row) : Prop := ∃ dx l m vs, H x = some (.ins C dx [("_listed", .ref l), ("_marks", .ref m)]) ∧ H l = some (.lst vs) ∧ RowsT H vs rs ∧ H m = some (.lst (mksV rs))
theorem ShO.same {C : Addr} {H H' : Hp} {x : Addr} {rs : List Row} (h : ShO C H x rs) (s : Same H H') : ShO C H' x rs := by
  obtain ⟨dx, l, m, vs, a, b, c, d⟩ := h
  exact ⟨dx, l, m, vs, s _ _ a, s _ _ b, rowsT_same c s, s _ _ d⟩
/-- a shape whose lists stand at addresses of F -/
def ShN (F : Addr → Prop) (C : Addr) (H : Hp) (x : Addr) (rs : List Row) : Prop := ∃ dx l m vs, F l ∧ F m ∧ H x = some (.ins C dx [("_listed", .ref l), ("_marks", .ref m)]) ∧ H l = some (.lst vs) ∧ RowsT H vs rs ∧ H m = some (.lst (mksV rs))
theorem ShN.sh {F : Addr → Prop} {C : Addr} {H : Hp} {x : Addr} {rs : List Row} (h : ShN F C H x rs) : ShO C H x rs := let ⟨dx, l, m, vs, _, _, e⟩ := h; ⟨dx, l, m, vs, e⟩
theorem ShN.sub {F G : Addr → Prop} {C : Addr} {H : Hp} {x : Addr} {rs : List Row} (h : ShN F C H x rs) (i : ∀ a, F a → G a) : ShN G C H x rs := let ⟨dx, l, m, vs, a, b, e⟩ := h; ⟨dx, l, m, vs, i _ a, i _ b, e⟩
theorem RowV.same {H H' : Hp} {v : V} {r : Row} (h : RowV H v r) (s : Same H H') : RowV H' v r := by
  obtain ⟨p, pp, e, a, b⟩ := h
  exact ⟨p, pp, e, a.imp (s _ _) (s _ _), b.imp (s _ _) (s _ _)⟩
theorem rowsV_same {H H' : Hp} {vs : List V} {rs : List Row} (h : Paired (RowV H) vs rs) (s : Same H H') : Paired (RowV H') vs rs := L2.Paired.mapP h fun _ _ x => x.same s
theorem RowT.keep {H H' : Hp} {v : V} {r : Row} (h : RowT H v r) (s : ∀ a xs, H a = some (.tup xs) → H' a = some (.tup xs)) : RowT H' v r := let ⟨p, pp, e, a, b⟩ := h; ⟨p, pp, e, s _ _ a, s _ _ b⟩
theorem rowsT_keep {H H' : Hp} {vs : List V} {rs : List Row} (h : RowsT H vs rs) (s : ∀ a xs, H a = some (.tup xs) → H' a = some (.tup xs)) : RowsT H' vs rs := L2.Paired.mapP h fun _ _ x => x.keep s
theorem keep_lst {H : Hp} {l : Addr} {vs ws : List V} (h : H l = some (.lst vs)) : ∀ a xs, H a = some (.tup xs) → (upd H l (.lst ws)) a = some (.tup xs) := fun a xs e => by rw [upd_ne (fun z => by rw [z, h] at e; cases e)]; exact e
theorem rowL_seq {K : PySem.W.Frag} {H : Hp} {p pp : Addr} {r : Row} {i : Int} {v : V} {Q : VK} (h : H p = some (.tup (rowL r pp)) ∨ H p = some (.lst (rowL r pp))) (e : atI (rowL r pp) i = some v) (q : Q v H) : rIx K (.ref p) (.int i) H Q := by
  rcases h with h | h
  · exact .inr (.inl ⟨_, _, _, _, rfl, rfl, SqT.of h, e, q⟩)
  · exact .inl ⟨_, _, _, _, rfl, rfl, SqL.of h, e, q⟩
theorem pair_app' {α β : Type} {F : α → β → Prop} : ∀ {l l' : List α} {m m' : List β}, Paired F l m → Paired F l' m' → Paired F (l ++ l') (m ++ m')
  | _, _, _, _, .nil, q => q
  | _, _, _, _, .cons r t, q => .cons r (pair_app' t q)
def spShInit (C TL BS UM : Addr) : Sp := fun vs H Q E => ∃ (x dx p : Addr) (us : List V) (rs : List Row), vs = [.ref x, .ref p] ∧ H x = some (.ins C dx []) ∧ H p = some (.tup us) ∧ Paired (RowV H) us rs ∧ us.length ≤ 100 ∧ (∀ r ∈ rs, small r) ∧
  (Good rs → ∀ H', But x H H' → ShN (fun a => H a = none) C H' x rs → Q .non H') ∧
  (∀ e c v f, Due rs e → ErrIs TL BS UM e c v f → ∀ H' d, Same H H' → H d = none → H' d = some (.xd [(f, v)]) → E (.ref c) (some d) H')
theorem make_sh {C TL BS UM : Addr} {H : Hp} {us : List V} {rs : List Row} {Q : VK} {E : XK} (hs : Paired (RowV H) us rs) (hl : us.length ≤ 100) (hsm : ∀ r ∈ rs, small r) (q : Good rs → ∀ x H', Same H H' → H x = none → ShN (fun a => H a = none) C H' x rs → Q (.ref x) H')
    (qe : ∀ e c v f, Due rs e → ErrIs TL BS UM e c v f → ∀ H' d, Same H H' → H d = none → H' d = some (.xd [(f, v)]) → E (.ref c) (some d) H') :
    ∀ x dx, H x = none → H dx = none → dx ≠ x → spStar 1 (spShInit C TL BS UM) (.ref x :: us) (upd (upd H dx (.own x)) x (.ins C dx [])) (fun v H2 => v = .non ∧ Q (.ref x) H2) E := fun x dx nx nd _ => by
  have s1 : Same H (upd (upd H dx (.own x)) x (.ins C dx [])) := fun y o h => by rw [upd_ne (ne_of_none h nx), upd_ne (ne_of_none h nd)]; exact h
  refine ⟨[.ref x], us, rfl, rfl, Nat.le_trans hl (by decide), fun p np => ?_⟩
  have s2 := s1.trans (same_new (o := .tup us) np)
  refine ⟨x, dx, p, us, rs, rfl, same_new np _ _ upd_same, upd_same, rowsV_same hs s2, hl, hsm, fun g H' b sh => ⟨rfl, q g x H' (fun y o h => b y o (ne_of_none h nx) (s2 _ _ h)) nx (sh.sub fun a h => s2.free h)⟩, fun e c v f du er H' d s' nd' hd => qe e c v f du er H' d (s2.trans s') (s2.free nd') hd⟩
section
variable {w : World} {K : PySem.W.Frag} {mg : Str → Option Value} {base : Heap}
theorem ok_Shape_init (T : Txt K mg) : FnR PP w K mg base (L2.CX PP w) 5 T.a_Shape_init (spStar 1 (spShInit T.c_Shape T.c_TooLarge T.c_BadShape T.c_UnknownMark)) := by
  refine Fun.starX (k := 4) (ps := ["self"]) T.F_Shape_init sc_Shape_init T.bs_Shape_init fun cdv A outer s H vs Q E hr h => ?_
  obtain ⟨x, dx, p, us, rs, rfl, hx, hp, hs, hl, hsm, q, qe⟩ := h
  refine ⟨_, (pss_cons (ps_if (pt_cmpR op_gt (pe_callB call_len_seq (by rfl) T.n_len (by decide +kernel) (pa_cons (pv 1) pa_nil)) (ClX.pe_cval (pe_glob (v := .ref T.c_Shape) (by rfl) T.g_Shape rfl)) (nomark _)) (pss_one (ps_raiseX rfl T.x_TooLarge hr (takes_of rfl rfl rfl rfl) (pa_cons (ClX.pe_cval (pe_glob (v := .ref T.c_Shape) (by rfl) T.g_Shape rfl)) pa_nil))) pss_nil)
      (pss_cons (ps_set (i := 2) sc_Shape_init.nd rfl (.inl rfl) (pe_lst pa_nil))
      (pss_cons (ps_set (i := 3) sc_Shape_init.nd rfl (.inl rfl) (pe_lst pa_nil))
      (pss_cons (ps_for (passes_of rfl) rfl (pi_tup (pv 1)) (pg_name (i := 4) sc_Shape_init.nd rfl (.inl rfl)) (pss_cons (ps_expr (pe_bm PySem.F.plainAttrs_list PySem.F.slot_list_append PySem.F.type_list_append mt_append (pv 2) (pa_cons (pe_call (ok_sound_row T) (hr.mono (by omega)) (by rfl) T.g_sound_row T.F_sound_row.kp T.b_sound_row .nil (passes_call (takes_of rfl rfl rfl rfl) (fun _ _ _ _ h => h)) (pa_cons (pv 4) (pa_cons (pv 3) pa_nil))) pa_nil)))
      (pss_one (ps_expr (pe_bm PySem.F.plainAttrs_list PySem.F.slot_list_append PySem.F.type_list_append mt_append (pv 3) (pa_cons (pe_ix ix_seq (pv 4) (pe_int) (fun _ _ => rfl)) pa_nil))))))
      (pss_cons (ps_for (passes_of rfl) rfl (pi_list (pv 2)) (pg_name (i := 4) sc_Shape_init.nd rfl (.inl rfl)) (pss_one (ps_for (passes_of rfl) rfl (pi_tup (pe_ix ix_seq (pv 4) (pe_int) (fun _ _ => rfl))) (pg_name (i := 5) sc_Shape_init.nd rfl (.inl rfl)) (pss_one (ps_if (pt_cmpR op_notIn_seq (pv 5) (pv 3) (by with_unfolding_all rfl)) (pss_one (ps_raiseX rfl T.x_UnknownMark hr (takes_of rfl rfl rfl rfl) (pa_cons (pv 5) pa_nil))) pss_nil)))))
      (pss_cons (ps_set (i := 6) sc_Shape_init.nd rfl (.inl rfl) (pe_call (ok_barren T) (hr.mono (by omega)) (by rfl) T.g_barren T.F_barren.kp T.b_barren .nil pass0 (pa_cons (pv 2) pa_nil)))
      (pss_cons (ps_if (pt_cmpR op_notN (pv 6) (pe_non) (nomark _)) (pss_one (ps_raiseX rfl T.x_BadShape hr (takes_of rfl rfl rfl rfl) (pa_cons (pv 6) pa_nil))) pss_nil)
      (pss_cons (ps_fld (pv 0) (pv 2) rfl)
      (pss_one (ps_fld (pv 0) (pv 3) rfl)))))))))), ?_⟩
  have big : 1000 < sizeLine := by decide
  have lr := pair_len' hs
  refine ⟨_, rfl, p, us, rfl, .inr (SqT.of hp), _, _, _, _, rfl, T.cr_Shape, T.cv_Shape_MARKS, _, _, rfl, rfl, _, rfl, iteD (fun c => ?_) (fun c => ?_)⟩
  · refine ⟨_, _, _, _, rfl, T.cr_Shape, T.cv_Shape_MARKS, _, rfl, fun d hd => ?_⟩
    exact qe .large _ _ _ (.large (by omega)) ⟨rfl, rfl, rfl⟩ _ d (same_new hd) hd upd_same
  have l6 : rs.length ≤ 6 := by omega
  refine ⟨Nat.zero_le _, fun l hl0 => ⟨Nat.zero_le _, fun m hm0' => ?_⟩⟩
  have s0 := same_new (o := .lst []) hl0
  have hm0 : H m = none := s0.free hm0'
  have nlm : l ≠ m := fun z => by rw [← z, upd_same] at hm0'; cases hm0'
  have s1 := s0.trans (same_new (o := .lst []) hm0')
  refine ⟨_, rfl, p, rfl, ⟨_, SqT.of (s1 _ _ hp)⟩, for_tup (K := K) (a := p) (xs := us) (fun i σ H' => ∃ (x4 x5 : Option V) (vs' : List V), σ = [some (.ref x), some (.ref p), some (.ref l), some (.ref m), x4, x5, none] ∧ Same H H' ∧ H' l = some (.lst vs') ∧ H' m = some (.lst (mksV (rs.take i))) ∧ RowsT H' vs' (rs.take i) ∧ ∀ j, j < i → rowFine rs j)
    ⟨_, _, [], rfl, s1, by rw [upd_ne nlm]; exact upd_same, upd_same, .nil, fun j h => absurd h (Nat.not_lt_zero _)⟩ (fun i σ H' _ ⟨_, _, _, _, s, _⟩ => SqT.of (s _ _ hp)) ?_ ?_⟩
  · rintro i v σ H1 hv ⟨x4, x5, vs', rfl, s1, hl1, hm1, rt, fi⟩
    obtain ⟨r, hr, hV⟩ := pair_get' hs hv
    have mr : r ∈ rs := List.mem_of_getElem? hr
    have hi := (List.getElem?_eq_some_iff.mp hr).1
    obtain ⟨p0, pp0, rfl, hp0, hpp0⟩ := id (hV.same s1)
    have lv : vs'.length = i := by rw [pair_len' rt, List.length_take]; omega
    refine ⟨_, rfl, .inl ⟨rfl, _, SqL.of hl1⟩, _, rfl, _, rfl, _, _, r, mks (rs.take i), rfl, hV.same s1, by rw [hm1, mksV_eq], hsm r mr, fun gd pq pp H2 s2 npq hpq hpp => ?_, fun bd H2 d s2 nd hd => ?_⟩
    · have hl2 := s2 _ _ hl1
      refine ⟨_, _, _, rfl, rfl, hl2, by omega, ?_⟩
      have npl : pq ≠ l := (ne_of_none hl1 npq).symm
      have t2 := s1.trans s2
      have s3 : Same H (upd H2 l (.lst (vs' ++ [.ref pq]))) := same_mut t2 hl0
      have k3 := keep_lst (ws := vs' ++ [.ref pq]) hl2
      have hm3 : (upd H2 l (.lst (vs' ++ [.ref pq]))) m = some (.lst (mksV (rs.take i))) := by rw [upd_ne nlm.symm]; exact s2 _ _ hm1
      have k4 := keep_lst (ws := mksV (rs.take i) ++ [.str r.mark]) hm3
      refine ⟨_, rfl, .inl ⟨rfl, _, SqL.of hm3⟩, _, rfl, rowL_seq (hp0.imp (fun h => k3 _ _ (s2 _ _ h)) (fun h => ?_)) rfl ?_⟩
      · have n0 : p0 ≠ l := fun z => by
          obtain ⟨w0, _, e0, h0, _⟩ := hV
          obtain rfl : p0 = w0 := V.ref.inj e0
          rcases h0 with h0 | h0
          · rw [z, hl0] at h0; cases h0
          · rw [z, hl0] at h0; cases h0
        rw [upd_ne n0]; exact s2 _ _ h
      · refine ⟨_, _, _, rfl, rfl, hm3, by unfold mksV; rw [List.length_map, List.length_take]; omega, ?_⟩
        refine ⟨_, _, vs' ++ [.ref pq], rfl, same_mut s3 hm0, by rw [upd_ne nlm]; exact upd_same, ?_, ?_, fun j hj => ?_⟩
        · rw [upd_same, List.take_succ, hr]; unfold mksV; rw [List.map_append]; rfl
        · rw [List.take_succ, hr]
          exact pair_app' (rowsT_keep rt fun a xs e => k4 _ _ (k3 _ _ (s2 _ _ e))) (.cons ⟨pq, pp, rfl, k4 _ _ (k3 _ _ hpq), k4 _ _ (k3 _ _ hpp)⟩ .nil)
        · by_cases e : j = i
          · subst e
            intro r' hr'
            rw [hr] at hr'
            exact Option.some.inj hr' ▸ gd
          · exact fi j (by omega)
    · exact qe _ _ _ _ (.row l6 hr fi bd) ⟨rfl, rfl, rfl⟩ H2 d (s1.trans s2) (s1.free nd) hd
  rintro σ H1 ⟨x4, x5, vs', rfl, s1, hl1, hm1, rt, fi⟩
  rw [lr, List.take_length] at hm1 rt
  have fi : ∀ j, rowFine rs j := fun j => by
    by_cases c : j < rs.length
    · exact fi j (by omega)
    · intro r hr
      rw [List.getElem?_eq_none (by omega)] at hr; cases hr
  refine ⟨_, rfl, l, rfl, ⟨_, SqL.of hl1⟩, for_list (K := K) (a := l) (xs := vs') (fun i σ H' => ∃ (x4 x5 : Option V), σ = [some (.ref x), some (.ref p), some (.ref l), some (.ref m), x4, x5, none] ∧ H' = H1 ∧ ∀ q ∈ rs.take i, parsOk rs q)
    ⟨_, _, rfl, rfl, fun q h => by rw [List.take_zero] at h; cases h⟩ (fun i σ H' _ ⟨_, _, _, e, _⟩ => SqL.of (by rw [e]; exact hl1)) ?_ ?_⟩
  · rintro i v σ H2 hv ⟨x4, x5, rfl, rfl, po⟩
    obtain ⟨r, hr, p0, pp0, rfl, hp0, hpp0⟩ := pair_get' rt hv
    refine ⟨_, rfl, rowL_seq (.inl hp0) rfl ⟨pp0, rfl, ⟨_, SqT.of hpp0⟩, for_tup (K := K) (a := pp0) (xs := r.pars.map V.str) (fun k σ H' => ∃ (x5 : Option V), σ = [some (.ref x), some (.ref p), some (.ref l), some (.ref m), some (.ref p0), x5, none] ∧ H' = H2 ∧ ∀ q ∈ r.pars.take k, q ∈ mks rs)
      ⟨_, rfl, rfl, fun q h => by rw [List.take_zero] at h; cases h⟩ (fun i σ H' _ ⟨_, _, e, _⟩ => SqT.of (by rw [e]; exact hpp0)) ?_ ?_⟩⟩
    · rintro k v σ H3 hk ⟨x5, rfl, rfl, pk⟩
      obtain ⟨y, hy, rfl⟩ : ∃ y, r.pars[k]? = some y ∧ v = .str y := by
        rw [List.getElem?_map] at hk
        cases e : r.pars[k]? with
        | none => rw [e] at hk; cases hk
        | some y => rw [e] at hk; exact ⟨y, rfl, (Option.some.inj hk).symm⟩
      refine ⟨_, rfl, _, rfl, _, _, rfl, .inl (SqL.of hm1), rfl, by rw [mksV_eq]; exact flat_strs _, ?_⟩
      rw [mksV_eq, in_strs]
      refine ⟨_, rfl, iteN (fun c => ?_) (fun c => ?_)⟩
      · refine ⟨_, rfl, _, rfl, fun d hd => ?_⟩
        exact qe (.unk y) _ _ _ (.par l6 fi hr hy po pk c) ⟨rfl, rfl, rfl⟩ _ d (s1.trans (same_new hd)) (s1.free hd) upd_same
      · refine ⟨_, rfl, rfl, fun q hq => ?_⟩
        rw [List.take_succ, hy] at hq
        rcases List.mem_append.mp hq with hq | hq
        · exact pk q hq
        · rw [List.mem_singleton.mp hq]; exact c
    · rintro σ H3 ⟨x5, rfl, rfl, pk⟩
      rw [List.length_map, List.take_length] at pk
      refine ⟨_, _, rfl, rfl, fun q hq => ?_⟩
      rw [List.take_succ, hr] at hq
      rcases List.mem_append.mp hq with hq | hq
      · exact po q hq
      · rw [List.mem_singleton.mp hq]; exact pk
  rintro σ H2 ⟨x4, x5, rfl, rfl, po⟩
  rw [pair_len' rt, List.take_length] at po
  refine ⟨_, rfl, l, vs', rs, rfl, hl1, rt, by omega, hsm, fun v H3 s3 lo => ?_⟩
  have t3 := s1.trans s3
  cases lo with
  | @yes i r hr hf nf =>
    refine ⟨_, rfl, rfl, _, rfl, iteYes rfl ⟨_, rfl, _, rfl, fun d hd => ?_⟩⟩
    exact qe _ _ _ _ (.lost l6 fi po hr hf nf) ⟨rfl, rfl, rfl⟩ _ d (t3.trans (same_new hd)) (t3.free hd) upd_same
  | no hf =>
    refine ⟨_, rfl, rfl, _, rfl, iteNo rfl ?_⟩
    have hx3 := t3 _ _ hx
    refine ⟨_, rfl, _, rfl, x, _, dx, _, rfl, hx3, T.cl_Shape, T.no_Shape__listed, by show 0 < 1000; decide, ?_⟩
    refine ⟨_, rfl, _, rfl, x, _, dx, _, rfl, upd_same, T.cl_Shape, T.no_Shape__marks, by show 1 < 1000; decide, ?_⟩
    have nx : ∀ {a : Addr} {ws : List V}, H3 a = some (.lst ws) → a ≠ x := fun h z => by rw [z, hx3] at h; cases h
    have hl3 := s3 _ _ hl1
    have hm3 := s3 _ _ hm1
    refine q ⟨l6, fi, po, hf⟩ _ (fun y o n h => by rw [upd_ne n, upd_ne n]; exact t3 _ _ h) ⟨dx, l, m, vs', hl0, hm0, upd_same, ?_, ?_, ?_⟩
    · rw [upd_ne (nx hl3), upd_ne (nx hl3)]; exact hl3
    · refine rowsT_keep (rowsT_same rt s3) fun a xs e => ?_
      have n : a ≠ x := fun z => by rw [z, hx3] at e; cases e
      rw [upd_ne n, upd_ne n]; exact e
    · rw [upd_ne (nx hm3), upd_ne (nx hm3)]; exact hm3
end
end My

namespace My
open PySem L2
/-! ### what shapes answer -/
def rowD (r : Row) : PyData := .tuple [.str r.mark, .tuple (r.pars.map .str), .int r.least, .int r.most, .bool r.sh]
theorem eqv_strs : ∀ a b : List Str, PyData.eqvAll (a.map .str) (b.map .str) = decide (a = b)
  | [], [] => by simp [PyData.eqvAll]
  | [], _ :: _ => by simp [PyData.eqvAll]
  | _ :: _, [] => by simp [PyData.eqvAll]
  | x :: a, y :: b => by
    simp only [List.map_cons, PyData.eqvAll, PyData.eqv, eqv_strs a b]
    rw [Bool.eq_iff_iff, Bool.and_eq_true, beq_iff_eq, decide_eq_true_iff, decide_eq_true_iff]
    simp
theorem eqv_row (a b : Row) : PyData.eqv (rowD a) (rowD b) = decide (a = b) := by
  unfold rowD
  simp only [PyData.eqv, PyData.eqvAll, eqv_strs, Bool.and_true]
  rw [Bool.eq_iff_iff]
  simp only [Bool.and_eq_true, beq_iff_eq, decide_eq_true_iff]
  cases a; cases b
  simp
theorem eqv_rows : ∀ a b : List Row, PyData.eqvAll (a.map rowD) (b.map rowD) = decide (a = b)
  | [], [] => by simp [PyData.eqvAll]
  | [], _ :: _ => by simp [PyData.eqvAll]
  | _ :: _, [] => by simp [PyData.eqvAll]
  | x :: a, y :: b => by
    simp only [List.map_cons, PyData.eqvAll, eqv_row, eqv_rows a b]
    rw [Bool.eq_iff_iff, Bool.and_eq_true, decide_eq_true_iff, decide_eq_true_iff, decide_eq_true_iff]
    simp
theorem strOk_mk {z : Str} (h : isMk z = true) : PyData.strOk z = true := by
  unfold isMk at h
  rw [Bool.and_eq_true, List.all_eq_true] at h
  unfold PyData.strOk
  rw [← Array.all_toList, List.all_eq_true]
  intro c hc
  have := of_decide_eq_true (h.2 c hc)
  exact decide_eq_true (by omega)
theorem canLay_strs : ∀ {l : List Str}, (∀ z ∈ l, PyData.strOk z = true) → PyData.canLayAll0 (l.map .str) = true
  | [], _ => rfl
  | z :: l, h => by rw [List.map_cons, PyData.canLayAll0, PyData.canLay0, h z (by simp), canLay_strs fun y hy => h y (by simp [hy])]; rfl
theorem depth_strs : ∀ l : List Str, PyData.depthAll (l.map .str) = 0
  | [] => rfl
  | z :: l => by rw [List.map_cons, PyData.depthAll, depth_strs l]; rfl
/-- rows whose words are marks -/
def wordsOk (rs : List Row) : Prop := ∀ r ∈ rs, PyData.strOk r.mark = true ∧ ∀ p ∈ r.pars, PyData.strOk p = true
theorem Good.words {rs : List Row} (h : Good rs) : wordsOk rs := by
  have mk : ∀ r ∈ rs, isMk r.mark = true := fun r hr => by
    obtain ⟨j, hj⟩ := List.mem_iff_getElem?.mp hr
    have := h.fine j r hj
    unfold fineB at this
    simp only [Bool.and_eq_true] at this
    exact this.1.1.1
  intro r hr
  refine ⟨strOk_mk (mk r hr), fun p hp => ?_⟩
  obtain ⟨q, hq, rfl⟩ := List.mem_map.mp (h.pars r hr p hp)
  exact strOk_mk (mk q hq)
theorem row_lay {r : Row} (h : PyData.strOk r.mark = true ∧ ∀ p ∈ r.pars, PyData.strOk p = true) : PyData.canLay0 (rowD r) = true := by
  unfold rowD
  simp [PyData.canLay0, PyData.canLayAll0, h.1, canLay_strs h.2]
theorem rows_shaped {rs : List Row} (h : wordsOk rs) : SeqAt.shaped (.list (rs.map rowD)) = true := by
  have h1 : ∀ l : List Row, wordsOk l → PyData.canLayAll0 (l.map rowD) = true := fun l => by
    induction l with
    | nil => intro _; rfl
    | cons a r ih => intro q; rw [List.map_cons, PyData.canLayAll0, row_lay (q a (by simp)), ih fun s hs => q s (by simp [hs])]; rfl
  have h2 : ∀ l : List Row, PyData.depthAll (l.map rowD) ≤ 4 := fun l => by
    induction l with
    | nil => exact Nat.zero_le _
    | cons a r ih =>
      rw [List.map_cons, PyData.depthAll]
      have : PyData.depth (rowD a) ≤ 4 := by unfold rowD; simp [PyData.depth, PyData.depthAll, depth_strs]
      omega
  unfold SeqAt.shaped
  rw [PyData.canLay0, h1 rs h, PyData.depth, Bool.true_and, decide_eq_true_iff]
  have := h2 rs
  omega
theorem strsDp {K : PySem.W.Frag} {H : Hp} : ∀ l : List Str, DpAll K H (l.map V.str) (l.map .str)
  | [] => .nil
  | z :: l => .cons (.str _) (strsDp l)
theorem rowDp {K : PySem.W.Frag} {H : Hp} {v : V} {r : Row} (h : RowT H v r) : Dp K H v (rowD r) := by
  obtain ⟨p, pp, rfl, hp, hpp⟩ := h
  exact .tup (SqT.of hp) (.cons (.str _) (.cons (.tup (SqT.of hpp) (strsDp _)) (.cons (.int _) (.cons (.int _) (.cons (.bl _) .nil)))))
theorem rowsDp {K : PySem.W.Frag} {H : Hp} : ∀ {vs : List V} {rs : List Row}, RowsT H vs rs → DpAll K H vs (rs.map rowD)
  | _, _, .nil => .nil
  | _, _, .cons h t => .cons (rowDp h) (rowsDp t)
def findR (rs : List Row) (z : Str) : Option Row := rs.find? fun r => decide (r.mark = z)
theorem findR_at {rs : List Row} {z : Str} {i : Nat} {r : Row} (h : rs[i]? = some r) (e : r.mark = z) (n : ∀ q ∈ rs.take i, q.mark ≠ z) : findR rs z = some r := by
  unfold findR
  have e1 : rs = rs.take i ++ r :: rs.drop (i + 1) := by
    obtain ⟨h1, h2⟩ := List.getElem?_eq_some_iff.mp h
    rw [← h2, ← List.drop_eq_getElem_cons h1, List.take_append_drop]
  rw [e1, List.find?_append, List.find?_eq_none.mpr (by intro q hq; simpa using n q hq)]
  simp [List.find?_cons, e]
theorem findR_no {rs : List Row} {z : Str} (n : ∀ q ∈ rs, q.mark ≠ z) : findR rs z = none := List.find?_eq_none.mpr (by intro q hq; simpa using n q hq)
theorem findR_mem {rs : List Row} {z : Str} {r : Row} (h : findR rs z = some r) : r ∈ rs ∧ r.mark = z := ⟨List.mem_of_find?_eq_some h, by simpa using List.find?_some h⟩
/-- an error of the class X with the word z -/
abbrev ErrS (X : Addr) (f : Str) (v : V) (H : Hp) (E : XK) : Prop := ∀ H' d, Same H H' → H d = none → H' d = some (.xd [(f, v)]) → E (.ref X) (some d) H'
def spShGet (C X : Addr) : Sp := fun vs H Q E => ∃ (x : Addr) (z : Str) (rs : List Row), vs = [.ref x, .str z] ∧ ShO C H x rs ∧
  (∀ r p pp, findR rs z = some r → H p = some (.tup (rowL r pp)) → H pp = some (.tup (r.pars.map V.str)) → Q (.ref p) H) ∧ (findR rs z = none → ErrS X "mark" (.str z) H E)
def spShLen (C : Addr) : Sp := fun vs H Q _ => ∃ (x : Addr) (rs : List Row), vs = [.ref x] ∧ ShO C H x rs ∧ Q (.int rs.length) H
def spShHas (C : Addr) : Sp := fun vs H Q _ => ∃ (x : Addr) (z : Str) (rs : List Row), vs = [.ref x, .str z] ∧ ShO C H x rs ∧ Q (.bl (decide (z ∈ mks rs))) H
def spShEq (C : Addr) : Sp := fun vs H Q _ => ∃ (x y : Addr) (rs ts : List Row), vs = [.ref x, .ref y] ∧ ShO C H x rs ∧ ShO C H y ts ∧ wordsOk rs ∧ wordsOk ts ∧ Q (.bl (decide (rs = ts))) H
def spShMarks (C : Addr) : Sp := fun vs H Q _ => ∃ (x : Addr) (rs : List Row), vs = [.ref x] ∧ ShO C H x rs ∧ ∀ t H', Same H H' → H t = none → H' t = some (.tup (mksV rs)) → Q (.ref t) H'
def spShExc (C : Addr) : Sp := fun vs H Q _ => ∃ (x : Addr) (rs : List Row), vs = [.ref x] ∧ ShO C H x rs ∧ Q (.bl (!rs.any (·.sh))) H
def widthOf (rs : List Row) : Int := rs.foldl (fun (a : Int) (r : Row) => if a < r.most then r.most else a) 1
def spShWidth (C : Addr) : Sp := fun vs H Q _ => ∃ (x : Addr) (rs : List Row), vs = [.ref x] ∧ ShO C H x rs ∧ Q (.int (widthOf rs)) H
def modesV (sh : Bool) : List V := if sh then [.str "own", .str "share"] else [.str "own"]
/-- a tuple that was made, or a constant -/
def TupC (K : PySem.W.Frag) (H : Hp) (t : Addr) (xs : List V) : Prop := H t = some (.tup xs) ∨ ∀ H', SqT K H' t xs
theorem TupC.sq {K : PySem.W.Frag} {H : Hp} {t : Addr} {xs : List V} (h : TupC K H t xs) : SqT K H t xs := h.elim SqT.of fun h => h H
theorem TupC.same {K : PySem.W.Frag} {H H' : Hp} {t : Addr} {xs : List V} (h : TupC K H t xs) (s : Same H H') : TupC K H' t xs := h.imp (s _ _) id
def spShModes (K : PySem.W.Frag) (C X : Addr) : Sp := fun vs H Q E => ∃ (x : Addr) (z : Str) (rs : List Row), vs = [.ref x, .str z] ∧ ShO C H x rs ∧
  (∀ r t H', findR rs z = some r → Same H H' → TupC K H' t (modesV r.sh) → Q (.ref t) H') ∧ (findR rs z = none → ErrS X "mark" (.str z) H E)
theorem sh_look1 (l m : Addr) : List.lookup ("_listed" : Str) [(("_listed" : Str), V.ref l), ("_marks", V.ref m)] = some (V.ref l) := rfl
theorem sh_look2 (l m : Addr) : List.lookup ("_marks" : Str) [(("_listed" : Str), V.ref l), ("_marks", V.ref m)] = some (V.ref m) := rfl
section
variable {w : World} {K : PySem.W.Frag} {mg : Str → Option Value} {base : Heap}
theorem ok_Shape_iter (T : Txt K mg) : IterOk PP w K mg base 1 T.a_Shape_iter T.c_Shape "_marks" := fun A outer s H a dx l fs xs Q E hr e0 ha hf hq q => by
  refine fn_here T.F_Shape_iter sc_Shape_iter T.b_Shape_iter hr e0 (vs := [.ref a]) (.cons rfl .nil) rfl fun cdv hr => ⟨_, (pss_one (ps_ret (pe_callB ItX.call_iterN (by rfl) T.n_iter (by decide +kernel) (pa_cons (pe_fld (pv 0) rfl) pa_nil)))), ?_⟩
  exact ⟨_, rfl, a, _, dx, _, _, rfl, ha, T.cl_Shape, T.no_Shape__marks, hf, l, xs, rfl, hq, fun it n1 n2 => q it n1 n2⟩
theorem ok_Shape_eq (T : Txt K mg) : FnOk PP w K mg base CX0 1 T.a_Shape_eq T.fd_Shape_eq ["self", "other"] (spShEq T.c_Shape) := by
  refine T.F_Shape_eq.ok sc_Shape_eq (fun vs H Q E h => ?_) (fun cdv A outer s H vs Q E hr h => ?_)
  · obtain ⟨x, y, ss, tt, rfl, _⟩ := h; rfl
  · obtain ⟨x, y, ss, tt, rfl, ⟨dx, l, m, us, hx, hl, hs, hm⟩, ⟨dy, l2, m2, vs, hy, hl2, ht, hm2⟩, gs, gt, q⟩ := h
    refine ⟨_, (pss_one (ps_ret (pe_and (pe_callB call_isi (by rfl) T.n_isinstance (by decide +kernel) (pa_cons (pv 1) (pa_cons (pe_glob (v := .ref T.c_Shape) (by rfl) T.g_Shape rfl) pa_nil))) (pe_one (pe_cmpR (op_eqD hr.units) (pe_fld (pv 0) rfl) (pe_fld (pv 1) rfl) (nomark _)))))), ?_⟩
    refine ⟨_, rfl, _, _, _, _, true, rfl, ClsV.own _, .base (T.ti_Shape _ _ _ _ hy), T.kk_Shape, _, rfl, iteT ?_⟩
    refine ⟨_, rfl, x, _, dx, _, _, rfl, hx, T.cl_Shape, T.no_Shape__listed, sh_look1 l m, _, rfl, y, _, dy, _, _, rfl, hy, T.cl_Shape, T.no_Shape__listed, sh_look1 l2 m2, _, _, .lst (SqL.of hl) (rowsDp hs), .lst (SqL.of hl2) (rowsDp ht), rows_shaped gs, rows_shaped gt, ?_⟩
    rw [PyData.eqv, eqv_rows]
    exact q
theorem ok_Shape_len (T : Txt K mg) : FnOk PP w K mg base CX0 1 T.a_Shape_len T.fd_Shape_len ["self"] (spShLen T.c_Shape) := by
  refine T.F_Shape_len.ok sc_Shape_len (fun vs H Q E h => ?_) (fun cdv A outer s H vs Q E hr h => ?_)
  · obtain ⟨x, rs, rfl, _⟩ := h; rfl
  · obtain ⟨x, rs, rfl, ⟨dx, l, m, us, hx, hl, hs, hm⟩, q⟩ := h
    refine ⟨_, (pss_one (ps_ret (pe_callB call_len_seq (by rfl) T.n_len (by decide +kernel) (pa_cons (pe_fld (pv 0) rfl) pa_nil)))), ?_⟩
    refine ⟨_, rfl, x, _, dx, _, _, rfl, hx, T.cl_Shape, T.no_Shape__marks, sh_look2 l m, m, _, rfl, .inl (SqL.of hm), ?_⟩
    unfold mksV
    rw [List.length_map]
    exact q
theorem ok_Shape_getitem (T : Txt K mg) : FnOk PP w K mg base (L2.CX PP w) 2 T.a_Shape_getitem T.fd_Shape_getitem ["self", "mark"] (spShGet T.c_Shape T.c_UnknownMark) := by
  refine T.F_Shape_getitem.okX sc_Shape_getitem (fun vs H Q E h => ?_) (fun cdv A outer s H vs Q E hr h => ?_)
  · obtain ⟨x, z, rs, rfl, _⟩ := h; rfl
  · obtain ⟨x, z, rs, rfl, ⟨dx, l, m, us, hx, hl, hs, hm⟩, q, qx⟩ := h
    refine ⟨_, (pss_cons (ps_for (passes_of rfl) rfl (pi_list (pe_fld (pv 0) rfl)) (pg_name (i := 2) sc_Shape_getitem.nd rfl (.inl rfl)) (pss_one (ps_if (pt_cmpR op_eq (pe_ix ix_tup (pv 2) (pe_int) (fun _ _ => rfl)) (pv 1) (nomark _)) (pss_one (ps_ret (pv 2))) pss_nil)))
      (pss_one (ps_raiseX rfl T.x_UnknownMark hr (takes_of rfl rfl rfl rfl) (pa_cons (pv 1) pa_nil)))), ?_⟩
    refine ⟨_, rfl, x, _, dx, _, _, rfl, hx, T.cl_Shape, T.no_Shape__listed, sh_look1 l m, l, rfl, ⟨_, SqL.of hl⟩, for_list (K := K) (a := l) (xs := us) (fun i σ H' => ∃ x2, σ = [some (.ref x), some (.str z), x2] ∧ H' = H ∧ ∀ q ∈ rs.take i, q.mark ≠ z) ⟨_, rfl, rfl, fun q h => by rw [List.take_zero] at h; cases h⟩ (fun i σ H' _ ⟨_, _, e, _⟩ => e ▸ SqL.of hl) ?_ ?_⟩
    · rintro i v σ H2 hv ⟨x1, rfl, rfl, nb⟩
      obtain ⟨r, hr, p, pp, rfl, hp, hpp⟩ := pair_get' hs hv
      refine ⟨_, rfl, _, _, _, _, rfl, rfl, SqT.of hp, atI_nat (j := 0) rfl, _, rfl, rfl, _, rfl, iteD (fun c => ?_) (fun c => ?_)⟩
      · exact ⟨_, rfl, q r p pp (findR_at hr (V.str.inj c) nb) hp hpp⟩
      · refine ⟨_, rfl, rfl, fun t ht => ?_⟩
        rw [List.take_succ, hr] at ht
        rcases List.mem_append.mp ht with ht | ht
        · exact nb t ht
        · rw [List.mem_singleton.mp ht]; exact fun e => c (by rw [e])
    · rintro σ H2 ⟨x1, rfl, rfl, nb⟩
      rw [pair_len' hs, List.take_length] at nb
      exact ⟨_, rfl, _, rfl, fun d hd => qx (findR_no nb) _ d (same_new hd) hd upd_same⟩
theorem ok_Shape_modes_of (T : Txt K mg) : FnOk PP w K mg base (L2.CX PP w) 4 T.a_Shape_modes_of T.fd_Shape_modes_of ["self", "mark"] (spShModes K T.c_Shape T.c_UnknownMark) := by
  refine T.F_Shape_modes_of.okX sc_Shape_modes_of (fun vs H Q E h => ?_) (fun cdv A outer s H vs Q E hr h => ?_)
  · obtain ⟨x, z, rs, rfl, _⟩ := h; rfl
  · obtain ⟨x, z, rs, rfl, hS, q, qx⟩ := h
    obtain ⟨dx, l, m, us, hx, _⟩ := id hS
    refine ⟨_, (pss_cons (ps_if (pt_val (pe_ix ix_tup (pe_getI T.m_Shape_getitem T.fi_Shape_getitem (ok_Shape_getitem T) (hr.mono (by omega)) T.b_Shape_getitem (passes_call (takes_of rfl rfl rfl rfl) (fun _ _ _ _ h => h)) (pv 0) (pv 1)) (pe_int) (fun _ _ => rfl))) (pss_one (ps_ret (pe_glob (v := .ref T.k_MODES) (by rfl) T.g_MODES rfl))) pss_nil)
      (pss_one (ps_ret (pe_slice sl_tup (pe_glob (v := .ref T.k_MODES) (by rfl) T.g_MODES rfl) po_none (po_some (pe_int)))))), ?_⟩
    refine ⟨_, rfl, _, rfl, x, _, _, rfl, hx, x, z, rs, rfl, hS, fun r p pp hf hp hpp => ?_, qx⟩
    refine ⟨_, _, _, _, rfl, rfl, SqT.of hp, atI_nat (j := 4) rfl, _, rfl, ?_⟩
    cases e : r.sh with
    | true =>
      refine iteT (q r _ H hf (fun _ _ h => h) ?_)
      rw [e]
      exact .inr T.q_MODES
    | false =>
      refine iteF ⟨_, rfl, T.k_MODES, _, rfl, T.q_MODES _, by decide, fun c hc => q r _ _ hf (same_new hc) ?_⟩
      rw [e]
      exact .inl upd_same
end
end My

namespace My
open PySem L2
/-! ### drawn marks -/
def spLMarks (K : PySem.W.Frag) : Sp := fun vs H Q _ => ∃ (d t : Addr) (n : Nat), vs = [.ref d, .ref t, .int n] ∧ Dr K H d t ∧ n ≤ 26 ∧
  ∀ (ms : List Str) p H', ms.length = n → ms.Nodup → (∀ m ∈ ms, isMk m = true) → Dr K H' d t → But t H H' → H p = none → H' p = some (.lst (ms.map V.str)) → Q (.ref p) H'
theorem joinL_nil : ∀ ls : List (List Nat), TL.joinL [] ls = ls.flatten
  | [] => rfl
  | [p] => by simp [TL.joinL]
  | p :: q :: r => by
    have := joinL_nil (q :: r)
    rw [TL.joinL, this]; simp
theorem letters_tl : ("abcdefghijklmnopqrstuvwxyz" : Str).cps.toList = (List.range 26).map (97 + ·) := by decide +kernel
theorem letter_at {i : Int} (h0 : 0 ≤ i) (h1 : i < 26) : atI ("abcdefghijklmnopqrstuvwxyz" : Str).cps.toList i = some (97 + i.toNat) := by
  obtain ⟨j, rfl⟩ := Int.eq_ofNat_of_zero_le h0
  refine atI_nat ?_
  rw [letters_tl, List.getElem?_map, List.getElem?_range (by omega)]
  rfl
def letS (i : Int) : Str := ⟨#[97 + i.toNat]⟩
theorem tl_letS (i : Int) : TL.tl (letS i) = [97 + i.toNat] := rfl
def restS (f : Int) (z : Nat) : Str := Txt.join "" ((List.range z).map fun j => letS ((f + 3 * (j : Nat)) % 26))
theorem tl_restS (f : Int) (z : Nat) : TL.tl (restS f z) = (List.range z).map fun j => 97 + ((f + 3 * (j : Nat)) % 26).toNat := by
  unfold restS
  rw [TL.join_eq, TL.tl_join, show TL.tl ("" : Str) = [] by decide +kernel, joinL_nil, List.map_map, ← List.flatMap_def]
  induction z with
  | zero => rfl
  | succ z ih => rw [List.range_succ, List.flatMap_append, ih, List.map_append]; rfl
theorem isMk_of {m : Str} (h1 : 1 ≤ (TL.tl m).length) (h8 : (TL.tl m).length ≤ 8) (ha : ∀ c ∈ TL.tl m, 97 ≤ c ∧ c ≤ 122) : isMk m = true := by
  unfold isMk
  rw [TL.len_tl, decide_eq_true ⟨h1, h8⟩, Bool.true_and, List.all_eq_true]
  exact fun c hc => decide_eq_true (ha c hc)
theorem let_ok (i : Int) : 97 ≤ 97 + (i % 26).toNat ∧ 97 + (i % 26).toNat ≤ 122 := by
  have := Int.emod_lt_of_pos i (show (0 : Int) < 26 by decide)
  have := Int.emod_nonneg i (show (26 : Int) ≠ 0 by decide)
  omega
theorem rest_ok {f : Int} {z c : Nat} (h : c ∈ TL.tl (restS f z)) : 97 ≤ c ∧ c ≤ 122 := by
  rw [tl_restS] at h
  obtain ⟨j, _, rfl⟩ := List.mem_map.mp h
  exact let_ok _
theorem rest_len (f : Int) (z : Nat) : (TL.tl (restS f z)).length = z := by rw [tl_restS, List.length_map, List.length_range]
theorem sum_let (f : Int) (z : Nat) : (((List.range z).map fun j => letS ((f + 3 * ((j : Nat) : Int)) % 26)).map (·.length)).sum = z := by
  induction z with
  | zero => rfl
  | succ z ih =>
    rw [List.range_succ, List.map_append, List.map_append, List.sum_append, ih]
    rfl
def sgn (sh : Int) (j : Nat) : Nat := 97 + ((sh + 5 * (j : Nat)) % 26).toNat
def keyOf (front : Bool) (m : Str) : Option Nat := if front then (TL.tl m).head? else (TL.tl m).getLast?
theorem key_nodup {front : Bool} {sh : Int} {ms : List Str} (hz : ms.length ≤ 26) (h : ∀ j m, ms[j]? = some m → keyOf front m = some (sgn sh j)) : ms.Nodup := by
  refine List.pairwise_iff_getElem.mpr fun i j hi hj hij e => ?_
  have e1 := h i _ (List.getElem?_eq_getElem hi)
  have e2 := h j _ (List.getElem?_eq_getElem hj)
  rw [e, e2] at e1
  have e1 := Option.some.inj e1
  unfold sgn at e1
  omega
section
variable {P : Program} {w : World} {K : PySem.W.Frag} {mg : Str → Option Value} {base : Heap}
theorem ok__law_marks (T : Txt K mg) : FnOk P w K mg base CX0 2 T.a__law_marks T.fd__law_marks ["_law_draws_here", "_law_at", "_law_count"] (spLMarks K) := by
  refine T.F__law_marks.ok sc__law_marks (fun vs H Q E h => ?_) (fun cdv A outer s H vs Q E hr h => ?_)
  · obtain ⟨d, t, n, rfl, _⟩ := h; rfl
  · obtain ⟨d, t, n, rfl, D0, hn, q⟩ := h
    refine ⟨_, (pss_cons (ps_set (i := 3) sc__law_marks.nd rfl (.inr rfl) (pe_str))
      (pss_cons (ps_set (i := 4) sc__law_marks.nd rfl (.inl rfl) (pe_call (ok__law_take T) (hr.mono (by omega)) (by rfl) T.g__law_take T.F__law_take.kp T.b__law_take .nil pass0 (pa_cons (pv 0) (pa_cons (pv 1) (pa_cons (pe_int) pa_nil)))))
      (pss_cons (ps_set (i := 5) sc__law_marks.nd rfl (.inl rfl) (pe_cmpR op_eq (pe_call (ok__law_take T) (hr.mono (by omega)) (by rfl) T.g__law_take T.F__law_take.kp T.b__law_take .nil pass0 (pa_cons (pv 0) (pa_cons (pv 1) (pa_cons (pe_int) pa_nil)))) (pe_int) (nomark _)))
      (pss_cons (ps_set (i := 6) sc__law_marks.nd rfl (.inl rfl) (pe_lst pa_nil))
      (pss_cons (ps_for PassesOwn.never rfl (pi_range1 (by rfl) T.n_range (pa_cons (pv 2) pa_nil)) (pg_name (i := 7) sc__law_marks.nd rfl (.inl rfl)) (pss_cons (ps_set (i := 8) sc__law_marks.nd rfl (.inl rfl) (pe_ix ix_list (pe_lst (pa_cons (pe_int) (pa_cons (pe_int) (pa_cons (pe_int) (pa_cons (pe_int) (pa_cons (pe_int) pa_nil)))))) (pe_call (ok__law_take T) (hr.mono (by omega)) (by rfl) T.g__law_take T.F__law_take.kp T.b__law_take .nil pass0 (pa_cons (pv 0) (pa_cons (pv 1) (pa_cons (pe_int) pa_nil)))) (fun _ _ => rfl)))
      (pss_cons (ps_set (i := 9) sc__law_marks.nd rfl (.inr rfl) (pe_call (ok__law_take T) (hr.mono (by omega)) (by rfl) T.g__law_take T.F__law_take.kp T.b__law_take .nil pass0 (pa_cons (pv 0) (pa_cons (pv 1) (pa_cons (pe_int) pa_nil)))))
      (pss_cons (ps_set (i := 10) sc__law_marks.nd rfl (.inl rfl) (pe_join (pe_str) (pe_lc (own := [("_law_j", 11)]) (g := (gName 11)) (by rfl) sc__law_marks.nd (pi_range1 (by rfl) T.n_range (pa_cons (pv 8) pa_nil)) (blkOk_by (own := [("_law_j", 11)]) (N := ["_law_draws_here", "_law_at", "_law_count", "_law_letters", "_law_shift", "_law_front", "_law_marks_here", "_law_k", "_law_size", "_law_first", "_law_rest", "_law_j", "_law_sign"]) (sc := defScope S__law_marks) (by decide +kernel)) (fun _ _ _ _ _ => (pg_name (i := 11) sc__law_marks.nd rfl (by first | exact .inl rfl | exact .inr rfl))) (fun _ _ _ _ _ => pts_nil) (fun _ _ _ _ _ => (pe_ix ix_str (pv 3) (pe_op op_mod (pe_op op_add (pv 9) (pe_op op_mul (pe_int) (pv 11))) (pe_int)) (fun _ _ => rfl))))))
      (pss_cons (ps_set (i := 12) sc__law_marks.nd rfl (.inl rfl) (pe_ix ix_str (pv 3) (pe_op op_mod (pe_op op_add (pv 4) (pe_op op_mul (pe_int) (pv 7))) (pe_int)) (fun _ _ => rfl)))
      (pss_one (ps_if (pt_val (pv 5)) (pss_one (ps_expr (pe_bm PySem.F.plainAttrs_list PySem.F.slot_list_append PySem.F.type_list_append mt_append (pv 6) (pa_cons (pe_op op_add_str (pv 12) (pv 10)) pa_nil)))) (pss_one (ps_expr (pe_bm PySem.F.plainAttrs_list PySem.F.slot_list_append PySem.F.type_list_append mt_append (pv 6) (pa_cons (pe_op op_add_str (pv 10) (pv 12)) pa_nil)))))))))))
      (pss_one (ps_ret (pv 6)))))))), ?_⟩
    have big : 100000 < sizeLine := by decide
    refine ⟨_, rfl, _, rfl, d, t, 26, rfl, D0, by decide, fun sh H1 h0 h1 D1 b1 => ?_⟩
    refine ⟨_, rfl, _, rfl, d, t, 2, rfl, D1, by decide, fun fr H2 _ _ D2 b2 => ⟨rfl, ?_⟩⟩
    generalize decide (V.int fr = V.int 1) = front
    refine ⟨Nat.zero_le _, fun l hl => ?_⟩
    have nlt : l ≠ t := D2.na hl
    have b2 := b1.trans b2
    have hl0 : H l = none := b2.free nlt hl
    have s3 := same_new (o := .lst []) hl
    refine ⟨_, rfl, _, rfl, by omega, by omega, for_range (lo := 0) (n := n) (fun k σ H' => ∃ (ms : List Str) (x7 x8 x9 x10 x11 x12 : Option V), σ = [some (.ref d), some (.ref t), some (.int n), some (.str "abcdefghijklmnopqrstuvwxyz"), some (.int sh), some (.bl front), some (.ref l), x7, x8, x9, x10, x11, x12] ∧ Dr K H' d t ∧ But t H H' ∧ H' l = some (.lst (ms.map V.str)) ∧ ms.length = k ∧
        ∀ j m, ms[j]? = some m → isMk m = true ∧ keyOf front m = some (sgn sh j))
      ⟨[], _, _, _, _, _, _, rfl, D2.same s3, b2.trans (But.of_same s3), upd_same, rfl, fun j m h => by simp at h⟩ ?_ ?_⟩
    · rintro k σ H3 hk ⟨ms, x7, x8, x9, x10, x11, x12, rfl, D3, b3, hl3, lk, hms⟩
      rw [Int.zero_add]
      refine ⟨by show 5 ≤ sizeLine; decide, fun m hm => ?_⟩
      have nmt : m ≠ t := D3.na hm
      have s4 := same_new (o := .lst [.int 0, .int 1, .int 2, .int 4, .int 7]) hm
      refine ⟨_, rfl, _, rfl, d, t, 5, rfl, D3.same s4, by decide, fun r H4 r0 r1 D4 b4 => ?_⟩
      obtain ⟨v, hv, mv⟩ := at_ok (xs := [.int 0, .int 1, .int 2, .int 4, .int 7]) r0 r1
      obtain ⟨z, rfl, hz⟩ : ∃ z : Nat, v = .int z ∧ z ≤ 7 := by
        simp only [List.mem_cons, List.not_mem_nil, or_false] at mv
        rcases mv with rfl | rfl | rfl | rfl | rfl
        · exact ⟨0, rfl, by decide⟩
        · exact ⟨1, rfl, by decide⟩
        · exact ⟨2, rfl, by decide⟩
        · exact ⟨4, rfl, by decide⟩
        · exact ⟨7, rfl, by decide⟩
      refine ⟨_, _, _, _, rfl, rfl, SqL.of (b4 _ _ nmt upd_same), hv, ?_⟩
      refine ⟨_, rfl, _, rfl, d, t, 26, rfl, D4, by decide, fun f H5 f0 f1 D5 b5 => ?_⟩
      have t5 : But t H H5 := ((b3.trans (But.of_same s4)).trans b4).trans b5
      have hl5 := b5 _ _ nlt (b4 _ _ nlt (s4 _ _ hl3))
      refine ⟨⟨_, rfl⟩, _, rfl, _, rfl, by omega, by omega, fun D hD => lc_range (lo := 0) (n := z) (fun i H' => Same H5 H' ∧ H' D = some (.lst (((List.range i).map fun j => letS ((f + 3 * (j : Nat)) % 26)).map V.str))) ⟨same_new hD, upd_same⟩ ?_ ?_⟩
      · rintro i H6 hi ⟨s6, h6⟩
        rw [Int.zero_add]
        refine ⟨rfl, ?_⟩
        unfold tYes
        refine iteT ⟨_, rfl, _, rfl, _, rfl, _, _, rfl, rfl, .inl ⟨by decide, by decide⟩, _, _, rfl, rfl, _, _, rfl, rfl, (show (0 : Int) < 26 by decide), _, _, _, rfl, rfl, by decide +kernel, letter_at (Int.emod_nonneg _ (by decide)) (Int.emod_lt_of_pos _ (by decide)), ?_⟩
        refine ⟨_, h6, by simp; omega, same_mut s6 hD, ?_⟩
        rw [upd_same, List.range_succ, List.map_append, List.map_append]; rfl
      · rintro H6 ⟨s6, h6⟩
        refine ⟨_, D, _, rfl, rfl, .inl (SqL.of h6), ?_, ?_⟩
        · rw [sum_let, List.length_map, List.length_range, show ("" : Str).length = 0 by decide +kernel]; omega
        show (fun _ => _) _
        refine ⟨_, rfl, _, rfl, _, rfl, _, _, rfl, rfl, .inl ⟨by decide, by decide⟩, _, _, rfl, rfl, _, _, rfl, rfl, (show (0 : Int) < 26 by decide), _, _, _, rfl, rfl, by decide +kernel, letter_at (Int.emod_nonneg _ (by decide)) (Int.emod_lt_of_pos _ (by decide)), ?_⟩
        have hl6 := s6 _ _ hl5
        have t6 := t5.trans (But.of_same s6)
        have D6 := D5.same s6
        have rl := rest_len f z
        have keep : ∀ m : Str, (isMk m = true ∧ keyOf front m = some (sgn sh k)) → ∀ j m', (ms ++ [m])[j]? = some m' → isMk m' = true ∧ keyOf front m' = some (sgn sh j) := fun m hm j m' h => by
          by_cases c : j < ms.length
          · rw [List.getElem?_append_left c] at h; exact hms j m' h
          · rw [List.getElem?_append_right (by omega)] at h
            obtain ⟨h1, h2⟩ := List.getElem?_eq_some_iff.mp h
            have h1 : j - ms.length < 1 := h1
            obtain rfl : j = k := by omega
            have e0 : j - ms.length = 0 := by omega
            rw [e0] at h
            exact Option.some.inj h ▸ hm
        refine ⟨_, rfl, _, rfl, ?_⟩
        cases front with
        | true =>
          refine iteT ⟨_, rfl, .inl ⟨rfl, _, SqL.of hl6⟩, _, rfl, _, rfl, _, _, rfl, rfl, ?_, _, _, _, rfl, rfl, hl6, by rw [List.length_map]; omega, ?_⟩
          · rw [TL.len_tl, TL.len_tl]; show 1 + _ ≤ _; rw [show TL.tl (Txt.join "" ((List.range z).map fun j => letS ((f + 3 * ((j : Nat) : Int)) % 26))) = TL.tl (restS f z) from rfl, rl]; omega
          · refine ⟨ms ++ [letS ((sh + 5 * (k : Nat)) % 26) ++ restS f z], _, _, _, _, _, _, rfl, D6.other But.upd (D0.nd hl0) nlt.symm, t6.mut hl0, by rw [upd_same, List.map_append]; rfl, by rw [List.length_append, lk]; rfl, keep _ ⟨isMk_of ?_ ?_ ?_, ?_⟩⟩
            · rw [TL.tl_append, List.length_append]; show 1 ≤ 1 + _; omega
            · rw [TL.tl_append, List.length_append, rl]; show 1 + _ ≤ _; omega
            · intro c hc
              rw [TL.tl_append] at hc
              rcases List.mem_append.mp hc with hc | hc
              · rw [List.mem_singleton.mp hc]; exact let_ok _
              · exact rest_ok hc
            · unfold keyOf; rw [TL.tl_append]; rfl
        | false =>
          refine iteF ⟨_, rfl, .inl ⟨rfl, _, SqL.of hl6⟩, _, rfl, _, rfl, _, _, rfl, rfl, ?_, _, _, _, rfl, rfl, hl6, by rw [List.length_map]; omega, ?_⟩
          · rw [TL.len_tl, TL.len_tl]; show _ + 1 ≤ _; rw [show TL.tl (Txt.join "" ((List.range z).map fun j => letS ((f + 3 * ((j : Nat) : Int)) % 26))) = TL.tl (restS f z) from rfl, rl]; omega
          · refine ⟨ms ++ [restS f z ++ letS ((sh + 5 * (k : Nat)) % 26)], _, _, _, _, _, _, rfl, D6.other But.upd (D0.nd hl0) nlt.symm, t6.mut hl0, by rw [upd_same, List.map_append]; rfl, by rw [List.length_append, lk]; rfl, keep _ ⟨isMk_of ?_ ?_ ?_, ?_⟩⟩
            · rw [TL.tl_append, List.length_append]; show 1 ≤ _ + 1; omega
            · rw [TL.tl_append, List.length_append, rl]; show _ + 1 ≤ _; omega
            · intro c hc
              rw [TL.tl_append] at hc
              rcases List.mem_append.mp hc with hc | hc
              · exact rest_ok hc
              · rw [List.mem_singleton.mp hc]; exact let_ok _
            · unfold keyOf; rw [TL.tl_append]; exact List.getLast?_concat
    · rintro σ H3 ⟨ms, x7, x8, x9, x10, x11, x12, rfl, D3, b3, hl3, lk, hms⟩
      refine ⟨_, rfl, q ms l H3 lk (key_nodup (by omega) fun j m h => (hms j m h).2) (fun m hm => ?_) D3 b3 hl0 hl3⟩
      obtain ⟨j, hj⟩ := List.mem_iff_getElem?.mp hm
      exact (hms j m hj).1
end
end My

namespace My
open PySem L2
/-! ### all but what A holds stays -/
def Le (A : List Addr) (H H' : Hp) : Prop := ∀ b o, b ∉ A → H b = some o → H' b = some o
theorem Le.refl (A : List Addr) (H : Hp) : Le A H H := fun _ _ _ h => h
theorem Le.trans {A : List Addr} {H H1 H2 : Hp} (x : Le A H H1) (y : Le A H1 H2) : Le A H H2 := fun b o n h => y b o n (x b o n h)
theorem Le.same {A : List Addr} {H H' : Hp} (s : Same H H') : Le A H H' := fun b o _ h => s b o h
theorem Le.but {A : List Addr} {t : Addr} {H H' : Hp} (m : t ∈ A) (b : But t H H') : Le A H H' := fun a o n h => b a o (fun z => n (z ▸ m)) h
theorem Le.upd {A : List Addr} {H : Hp} {p : Addr} {o : HO} (m : p ∈ A) : Le A H (upd H p o) := fun a u n e => by rw [upd_ne (show a ≠ p from fun q => n (by rw [q]; exact m))]; exact e
theorem Le.put {A : List Addr} {H H' : Hp} {p : Addr} {o : HO} (x : Le A H H') (h : H p = none) : Le A H (L2.upd H' p o) := fun a u n e => by rw [upd_ne (ne_of_none e h)]; exact x a u n e
/-- the addresses of A are taken -/
def Al (A : List Addr) (H : Hp) : Prop := ∀ a ∈ A, ∃ o, H a = some o
theorem Al.nin {A : List Addr} {H : Hp} (h : Al A H) {p : Addr} (n : H p = none) : p ∉ A := fun m => by obtain ⟨o, e⟩ := h p m; rw [n] at e; cases e
theorem Al.same {A : List Addr} {H H' : Hp} (h : Al A H) (s : Same H H') : Al A H' := fun a m => (h a m).elim fun o e => ⟨o, s _ _ e⟩
/-! ### drawn rows of a shape -/
structure PRow where
  idx : Int
  pars : List Int
  least : Int
  most : Int
  sh : Bool
def prL (r : PRow) (pp : Addr) : List V := [.int r.idx, .ref pp, .int r.least, .int r.most, .bl r.sh]
def PrV (A : List Addr) (H : Hp) (v : V) (r : PRow) : Prop := ∃ p pp, v = .ref p ∧ p ∉ A ∧ pp ∉ A ∧ H p = some (.lst (prL r pp)) ∧ H pp = some (.lst (r.pars.map V.int))
theorem PrV.le {A : List Addr} {H H' : Hp} {v : V} {r : PRow} (h : PrV A H v r) (l : Le A H H') : PrV A H' v r := let ⟨p, pp, e, a, b, c, d⟩ := h; ⟨p, pp, e, a, b, l _ _ a c, l _ _ b d⟩
theorem PrV.sub {A B : List Addr} {H : Hp} {v : V} {r : PRow} (h : PrV A H v r) (s : ∀ a ∈ B, a ∈ A) : PrV B H v r := let ⟨p, pp, e, a, b, c, d⟩ := h; ⟨p, pp, e, fun m => a (s _ m), fun m => b (s _ m), c, d⟩
def listOk (n : Nat) (js : List Int) : Prop := js.Nodup ∧ ∀ j ∈ js, 0 ≤ j ∧ j < n
structure PrOk (n k : Nat) (r : PRow) : Prop where
  idx : r.idx = k
  pars : listOk n r.pars
  l0 : 0 ≤ r.least
  lm : r.least ≤ r.most
  m4 : r.most ≤ 4
  pm : 0 < r.most ↔ r.pars ≠ []
  low : r.least ≠ 0 → ∃ j ∈ r.pars, j < (k : Int)
def PlanOk (n : Nat) (prs : List PRow) : Prop := prs.length = n ∧ ∀ k r, prs[k]? = some r → PrOk n k r
def spLPlan (K : PySem.W.Frag) : Sp := fun vs H Q _ => ∃ (d t : Addr) (n : Nat), vs = [.ref d, .ref t, .int n] ∧ Dr K H d t ∧ n ≤ 26 ∧
  ∀ (prs : List PRow) us p H', PlanOk n prs → Dr K H' d t → But t H H' → H p = none → H' p = some (.lst us) → Paired (PrV [t] H') us prs → Q (.ref p) H'
theorem lst_len {n : Nat} {js : List Int} (h : listOk n js) : js.length ≤ n := by
  have nd : (js.map Int.toNat).Nodup := by
    refine List.pairwise_map.mpr (List.Pairwise.imp_of_mem (fun {a b} ha hb ne e => ne ?_) h.1)
    have := h.2 a ha; have := h.2 b hb; omega
  have sub : ∀ x ∈ js.map Int.toNat, x ∈ List.range n := fun x hx => by
    obtain ⟨j, hj, rfl⟩ := List.mem_map.mp hx
    have := h.2 j hj
    exact List.mem_range.mpr (by omega)
  have := List.Nodup.length_le_of_subset nd sub
  rwa [List.length_map, List.length_range] at this
section
variable {P : Program} {w : World} {K : PySem.W.Frag} {mg : Str → Option Value} {base : Heap}
end
end My

namespace My
open PySem L2
/-! ### rows of a shape with names, as lists or tuples, at addresses of F -/
def seqO (b : Bool) (xs : List V) : HO := if b then .lst xs else .tup xs
def RowN (F : Addr → Prop) (b : Bool) (H : Hp) (v : V) (r : Row) : Prop := ∃ p pp, v = .ref p ∧ F p ∧ F pp ∧ H p = some (seqO b (rowL r pp)) ∧ H pp = some (seqO b (r.pars.map V.str))
abbrev RowsN (F : Addr → Prop) (b : Bool) (H : Hp) (vs : List V) (rs : List Row) : Prop := Paired (RowN F b H) vs rs
theorem RowN.le {F : Addr → Prop} {b : Bool} {H H' : Hp} {v : V} {r : Row} (h : RowN F b H v r) (l : ∀ a o, F a → H a = some o → H' a = some o) : RowN F b H' v r := let ⟨p, pp, e, f, g, x, y⟩ := h; ⟨p, pp, e, f, g, l _ _ f x, l _ _ g y⟩
theorem RowN.sub {F G : Addr → Prop} {b : Bool} {H : Hp} {v : V} {r : Row} (h : RowN F b H v r) (l : ∀ a, F a → G a) : RowN G b H v r := let ⟨p, pp, e, f, g, x, y⟩ := h; ⟨p, pp, e, l _ f, l _ g, x, y⟩
theorem rowsN_le {F : Addr → Prop} {b : Bool} {H H' : Hp} {vs : List V} {rs : List Row} (h : RowsN F b H vs rs) (l : ∀ a o, F a → H a = some o → H' a = some o) : RowsN F b H' vs rs := L2.Paired.mapP h fun _ _ x => x.le l
theorem rowsN_same {F : Addr → Prop} {b : Bool} {H H' : Hp} {vs : List V} {rs : List Row} (h : RowsN F b H vs rs) (s : Same H H') : RowsN F b H' vs rs := rowsN_le h fun a o _ e => s a o e
theorem rowsN_sub {F G : Addr → Prop} {b : Bool} {H : Hp} {vs : List V} {rs : List Row} (h : RowsN F b H vs rs) (l : ∀ a, F a → G a) : RowsN G b H vs rs := L2.Paired.mapP h fun _ _ x => x.sub l
theorem RowN.toV {F : Addr → Prop} {b : Bool} {H : Hp} {v : V} {r : Row} (h : RowN F b H v r) : RowV H v r := by
  obtain ⟨p, pp, e, _, _, x, y⟩ := h
  cases b with
  | true => exact ⟨p, pp, e, .inr x, .inr y⟩
  | false => exact ⟨p, pp, e, .inl x, .inl y⟩
theorem rowsN_toV {F : Addr → Prop} {b : Bool} {H : Hp} {vs : List V} {rs : List Row} (h : RowsN F b H vs rs) : Paired (RowV H) vs rs := L2.Paired.mapP h fun _ _ x => x.toV
abbrev New (H0 : Hp) : Addr → Prop := fun a => H0 a = none
def nm (ms : List Str) (i : Int) : Str := ms.getD i.toNat ""
def nameR (ms : List Str) (r : PRow) : Row := ⟨nm ms r.idx, r.pars.map (nm ms), r.least, r.most, r.sh⟩
def spLNamed (K : PySem.W.Frag) : Sp := fun vs H Q _ => ∃ (a b : Addr) (us : List V) (prs : List PRow) (n : Nat) (ms : List Str), vs = [.ref a, .ref b] ∧ H a = some (.lst us) ∧ Paired (PrV [] H) us prs ∧ PlanOk n prs ∧ n ≤ ms.length ∧ n ≤ 26 ∧ H b = some (.lst (ms.map V.str)) ∧
  ∀ p ws H', Same H H' → H p = none → H' p = some (.lst ws) → RowsN (New H) true H' ws (prs.map (nameR ms)) → Q (.ref p) H'
def spLHanded (K : PySem.W.Frag) : Sp := fun vs H Q _ => ∃ (a : Addr) (b : Bool) (us : List V) (rs : List Row), vs = [.ref a, .bl b] ∧ H a = some (.lst us) ∧ RowsN (fun _ => True) true H us rs ∧ us.length ≤ 100 ∧
  ∀ p ws H', Same H H' → H p = none → H' p = some (.lst ws) → RowsN (fun a => H a = none ∧ a ≠ p) b H' ws rs → Q (.ref p) H'
def spLWidth (K : PySem.W.Frag) : Sp := fun vs H Q _ => ∃ (a : Addr) (us : List V) (rs : List Row), vs = [.ref a] ∧ H a = some (.lst us) ∧ RowsN (fun _ => True) true H us rs ∧ Q (.int (widthOf rs)) H
theorem nm_at {ms : List Str} {i : Int} (h0 : 0 ≤ i) (h1 : i < ms.length) : atI (ms.map V.str) i = some (.str (nm ms i)) := by
  obtain ⟨j, rfl⟩ := Int.eq_ofNat_of_zero_le h0
  refine atI_nat ?_
  have hj : j < ms.length := by omega
  unfold nm
  rw [List.getElem?_map, List.getElem?_eq_getElem hj, List.getD_eq_getElem?_getD, Int.toNat_natCast, List.getElem?_eq_getElem hj]
  rfl
theorem named_in {K : PySem.W.Frag} {x0 x3 : Option V} {b p pp : Addr} {xs : List V} {js : List Int} {ms : List Str} {H : Hp} {Q : VK} (hb : H b = some (.lst (ms.map V.str))) (hp : H p = some (.lst xs)) (hx : atI xs 1 = some (.ref pp)) (hpp : H pp = some (.lst (js.map V.int))) (hz : js.length ≤ 1000) (hj : ∀ j ∈ js, 0 ≤ j ∧ j < ms.length)
    (q : ∀ D H', Same H H' → H D = none → H' D = some (.lst ((js.map (nm ms)).map V.str)) → Q (.ref D) H') :
    tLc (iList K (tOp (rIxL K) (tVar 2) (tC (.int 1)))) (gName 3) tYes (tOp (rIxL K) (tVar 1) (tVar 3)) [3] [x0, some (.ref b), some (.ref p), x3] H Q := by
  have big : 100000 < sizeLine := by decide
  refine ⟨_, rfl, _, _, _, _, rfl, rfl, SqL.of hp, hx, pp, rfl, ⟨_, SqL.of hpp⟩, fun E hE => lc_list (K := K) (a := pp) (xs := js.map V.int) (fun i H' => Same H H' ∧ H' E = some (.lst (((js.take i).map (nm ms)).map V.str))) ⟨same_new hE, upd_same⟩ (fun i H' _ h => SqL.of (h.1 _ _ hpp)) ?_ ?_⟩
  · rintro i v H2 hv ⟨s2, h2⟩
    obtain ⟨z, hz', rfl⟩ := get_int hv
    have zok := hj z (List.mem_of_getElem? hz')
    refine ⟨rfl, ?_⟩
    unfold tYes
    refine iteT ⟨_, rfl, _, rfl, _, _, _, _, rfl, rfl, SqL.of (s2 _ _ hb), nm_at zok.1 zok.2, _, h2, ?_, same_mut s2 hE, ?_⟩
    · rw [List.length_map, List.length_map, List.length_take]; omega
    · rw [upd_same, List.take_succ, hz', List.map_append, List.map_append]; rfl
  · rintro H2 ⟨s2, h2⟩
    rw [List.length_map, List.take_length] at h2
    exact q E H2 s2 hE h2
section
variable {P : Program} {w : World} {K : PySem.W.Frag} {mg : Str → Option Value} {base : Heap}
end
end My

namespace My
open PySem L2
/-! ### good shapes, changed -/
def rowOk (r : Row) : Prop := isMk r.mark = true ∧ sizeB r = true ∧ (decide (0 < r.most) == decide (0 < r.pars.length)) = true ∧ r.pars.Nodup
theorem fineB_iff {r : Row} {bs : List Str} : fineB r bs = true ↔ rowOk r ∧ r.mark ∉ bs := by
  unfold fineB rowOk
  simp only [Bool.and_eq_true, Bool.not_eq_true', decide_eq_false_iff_not, decide_eq_true_iff]
  constructor
  · rintro ⟨⟨⟨a, b, c⟩, d⟩, e⟩; exact ⟨⟨a, c, d, e⟩, b⟩
  · rintro ⟨⟨a, c, d, e⟩, b⟩; exact ⟨⟨⟨a, b, c⟩, d⟩, e⟩
theorem nodup_take {l : List Str} : l.Nodup ↔ ∀ (j : Nat) (x : Str), l[j]? = some x → x ∉ l.take j := by
  constructor
  · intro h j x hx m
    obtain ⟨i, hi, e⟩ := List.getElem_of_mem m
    rw [List.length_take] at hi
    rw [List.getElem_take] at e
    obtain ⟨hj, e2⟩ := List.getElem?_eq_some_iff.mp hx
    exact List.pairwise_iff_getElem.mp h i j (by omega) hj (by omega) (e.trans e2.symm)
  · intro h
    refine List.pairwise_iff_getElem.mpr fun i j hi hj hij e => h j _ (List.getElem?_eq_getElem hj) ?_
    rw [← e]
    exact List.mem_iff_getElem.mpr ⟨i, by rw [List.length_take]; omega, by rw [List.getElem_take]⟩
structure GoodC (rs : List Row) : Prop where
  len : rs.length ≤ 6
  nd : (mks rs).Nodup
  row : ∀ r ∈ rs, rowOk r
  pars : ∀ q ∈ rs, parsOk rs q
  fert : ∀ q ∈ rs, Fert rs q.mark
theorem mks_take (rs : List Row) (j : Nat) : mks (rs.take j) = (mks rs).take j := List.map_take ..
theorem Good.c {rs : List Row} (g : Good rs) : GoodC rs := by
  refine ⟨g.len, nodup_take.mpr fun j x hx m => ?_, fun r hr => ?_, g.pars, g.fert⟩
  · unfold mks at hx
    rw [List.getElem?_map] at hx
    cases e : rs[j]? with
    | none => rw [e] at hx; cases hx
    | some r =>
      rw [e] at hx
      have e2 := (fineB_iff.mp (g.fine j r e)).2
      rw [mks_take, show r.mark = x from Option.some.inj hx] at e2
      exact e2 m
  · obtain ⟨j, hj⟩ := List.mem_iff_getElem?.mp hr
    exact (fineB_iff.mp (g.fine j r hj)).1
theorem GoodC.g {rs : List Row} (g : GoodC rs) : Good rs := by
  refine ⟨g.len, fun j r hr => fineB_iff.mpr ⟨g.row r (List.mem_of_getElem? hr), ?_⟩, g.pars, g.fert⟩
  rw [mks_take]
  refine nodup_take.mp g.nd j _ ?_
  unfold mks
  rw [List.getElem?_map, hr]; rfl
theorem Fert.mono {rs ts : List Row} (h : ∀ r ∈ rs, ∃ q ∈ ts, q.mark = r.mark ∧ q.least = r.least ∧ q.pars = r.pars) {m : Str} (f : Fert rs m) : Fert ts m := by
  induction f with
  | @base r hr e =>
    obtain ⟨q, hq, a, b, _⟩ := h r hr
    exact a ▸ .base hq (b.trans e)
  | @step r p hr hp _ ih =>
    obtain ⟨q, hq, a, _, c⟩ := h r hr
    exact a ▸ .step hq (c ▸ hp) ih
theorem GoodC.alike {rs ts : List Row} (g : GoodC rs) (hl : ts.length ≤ 6) (nd : (mks ts).Nodup) (a : ∀ q ∈ ts, rowOk q ∧ ∃ r ∈ rs, q.mark = r.mark ∧ q.pars = r.pars) (b : ∀ r ∈ rs, ∃ q ∈ ts, q.mark = r.mark ∧ q.least = r.least ∧ q.pars = r.pars) : GoodC ts := by
  refine ⟨hl, nd, fun q hq => (a q hq).1, fun q hq p hp => ?_, fun q hq => ?_⟩
  · obtain ⟨r, hr, _, e⟩ := (a q hq).2
    obtain ⟨r2, hr2, e2⟩ := List.mem_map.mp (g.pars r hr p (e ▸ hp))
    obtain ⟨q2, hq2, e3, _⟩ := b r2 hr2
    exact List.mem_map.mpr ⟨q2, hq2, e3.trans e2⟩
  · obtain ⟨r, hr, e, _⟩ := (a q hq).2
    rw [e]
    exact (g.fert r hr).mono b
theorem set_marks {rs : List Row} {i : Nat} {r q : Row} (h : rs[i]? = some r) (e : q.mark = r.mark) : mks (rs.set i q) = mks rs := by
  unfold mks
  rw [List.map_set, e]
  refine List.ext_getElem? fun j => ?_
  rw [List.getElem?_set]
  split
  · rename_i c; subst c
    rw [List.getElem?_map, h]
    have := (List.getElem?_eq_some_iff.mp h).1
    simp [this]
  · rfl
theorem GoodC.put {rs : List Row} (g : GoodC rs) {i : Nat} {r q : Row} (h : rs[i]? = some r) (e : q.mark = r.mark) (el : q.least = r.least) (ep : q.pars = r.pars) (ok : rowOk q) : GoodC (rs.set i q) := by
  have hi := (List.getElem?_eq_some_iff.mp h).1
  have mq : q ∈ rs.set i q := List.mem_iff_getElem?.mpr ⟨i, by rw [List.getElem?_set]; simp [hi]⟩
  refine g.alike (by rw [List.length_set]; exact g.len) (by rw [set_marks h e]; exact g.nd) (fun x hx => ?_) (fun x hx => ?_)
  · rcases List.mem_or_eq_of_mem_set hx with hx | hx
    · exact ⟨g.row x hx, x, hx, rfl, rfl⟩
    · subst hx; exact ⟨ok, r, List.mem_of_getElem? h, e, ep⟩
  · obtain ⟨j, hj⟩ := List.mem_iff_getElem?.mp hx
    by_cases c : i = j
    · subst c
      rw [h] at hj
      obtain rfl := Option.some.inj hj
      exact ⟨q, mq, e, el, ep⟩
    · exact ⟨x, List.mem_iff_getElem?.mpr ⟨j, by rw [List.getElem?_set, if_neg c]; exact hj⟩, rfl, rfl, rfl⟩
theorem GoodC.swap {rs : List Row} (g : GoodC rs) {i : Nat} {r q : Row} (h : rs[i]? = some r) (h0 : rs[0]? = some q) : GoodC ((rs.set i q).set 0 r) := by
  obtain ⟨hi, ei⟩ := List.getElem?_eq_some_iff.mp h
  obtain ⟨hz, ez⟩ := List.getElem?_eq_some_iff.mp h0
  have sub : ∀ x, x ∈ (rs.set i q).set 0 r → x ∈ rs := fun x hx => by
    rcases List.mem_or_eq_of_mem_set hx with hx | hx
    · rcases List.mem_or_eq_of_mem_set hx with hx | hx
      · exact hx
      · subst hx; exact List.mem_of_getElem? h0
    · subst hx; exact List.mem_of_getElem? h
  have sup : ∀ x, x ∈ rs → x ∈ (rs.set i q).set 0 r := fun x hx => by
    obtain ⟨j, hj⟩ := List.mem_iff_getElem?.mp hx
    by_cases c : j = i
    · subst c
      rw [h] at hj
      obtain rfl := Option.some.inj hj
      exact List.mem_iff_getElem?.mpr ⟨0, by rw [List.getElem?_set]; simp [hz]⟩
    by_cases c0 : j = 0
    · subst c0
      rw [h0] at hj
      obtain rfl := Option.some.inj hj
      refine List.mem_iff_getElem?.mpr ⟨i, ?_⟩
      rw [List.getElem?_set, if_neg (fun z => c z), List.getElem?_set]
      simp [hi]
    · exact List.mem_iff_getElem?.mpr ⟨j, by rw [List.getElem?_set, if_neg (fun z => c0 z.symm), List.getElem?_set, if_neg (fun z => c z.symm)]; exact hj⟩
  refine g.alike (by rw [List.length_set, List.length_set]; exact g.len) ?_ (fun x hx => ⟨g.row x (sub x hx), x, sub x hx, rfl, rfl⟩) (fun x hx => ⟨x, sup x hx, rfl, rfl, rfl⟩)
  have inj : ∀ a b (ha : a < rs.length) (hb : b < rs.length), rs[a].mark = rs[b].mark → a = b := fun a b ha hb e => by
    have n := List.pairwise_iff_getElem.mp g.nd
    unfold mks at n
    rcases Nat.lt_trichotomy a b with c | c | c
    · exact absurd (by rw [List.getElem_map, List.getElem_map]; exact e) (n a b (by rw [List.length_map]; exact ha) (by rw [List.length_map]; exact hb) c)
    · exact c
    · exact absurd (by rw [List.getElem_map, List.getElem_map]; exact e.symm) (n b a (by rw [List.length_map]; exact hb) (by rw [List.length_map]; exact ha) c)
  refine List.pairwise_iff_getElem.mpr fun a b ha hb hab e => ?_
  unfold mks at ha hb e
  rw [List.length_map, List.length_set, List.length_set] at ha hb
  rw [List.getElem_map, List.getElem_map] at e
  simp only [List.getElem_set] at e
  subst ei ez
  have i0 := inj
  split at e <;> split at e <;> (try split at e) <;> (try split at e) <;> first | omega | (have := inj _ _ _ _ e; omega)
theorem GoodC.add {rs : List Row} (g : GoodC rs) {z : Str} (hl : rs.length < 6) (hz : isMk z = true) (nz : z ∉ mks rs) : GoodC (rs ++ [⟨z, [], 0, 0, false⟩]) := by
  have em : mks (rs ++ [⟨z, [], 0, 0, false⟩]) = mks rs ++ [z] := by unfold mks; rw [List.map_append]; rfl
  refine ⟨by rw [List.length_append]; simp; omega, ?_, fun r hr => ?_, fun r hr p hp => ?_, fun r hr => ?_⟩
  · rw [em, List.nodup_append]
    exact ⟨g.nd, by simp, fun a ha b hb e => nz (by rw [List.mem_singleton] at hb; rw [← hb, ← e]; exact ha)⟩
  · rcases List.mem_append.mp hr with hr | hr
    · exact g.row r hr
    · rw [List.mem_singleton.mp hr]; exact ⟨hz, rfl, rfl, List.nodup_nil⟩
  · rcases List.mem_append.mp hr with hr | hr
    · rw [em]; exact List.mem_append_left _ (g.pars r hr p hp)
    · rw [List.mem_singleton.mp hr] at hp; cases hp
  · rcases List.mem_append.mp hr with hr | hr
    · exact (g.fert r hr).mono fun q hq => ⟨q, List.mem_append_left _ hq, rfl, rfl, rfl⟩
    · rw [List.mem_singleton.mp hr]
      exact Fert.base (r := ⟨z, [], 0, 0, false⟩) (List.mem_append_right _ (List.mem_singleton.mpr rfl)) rfl
def renS (o z m : Str) : Str := if m = o then z else m
def renR (o z : Str) (r : Row) : Row := ⟨renS o z r.mark, r.pars.map (renS o z), r.least, r.most, r.sh⟩
theorem renS_inj {o z : Str} {l : List Str} (nz : z ∉ l) {a b : Str} (ha : a ∈ l) (hb : b ∈ l) (e : renS o z a = renS o z b) : a = b := by
  unfold renS at e
  by_cases c : a = o <;> by_cases d : b = o
  · rw [c, d]
  · rw [if_pos c, if_neg d] at e; rw [← e] at hb; exact absurd hb nz
  · rw [if_neg c, if_pos d] at e; rw [e] at ha; exact absurd ha nz
  · rw [if_neg c, if_neg d] at e; exact e
theorem nodup_ren {o z : Str} {l m : List Str} (nz : z ∉ m) (s : ∀ a ∈ l, a ∈ m) (h : l.Nodup) : (l.map (renS o z)).Nodup :=
  List.pairwise_map.mpr (List.Pairwise.imp_of_mem (fun {a b} ha hb ne e => ne (renS_inj nz (s a ha) (s b hb) e)) h)
theorem GoodC.ren {rs : List Row} (g : GoodC rs) {o z : Str} (hz : isMk z = true) (nz : z ∉ mks rs) : GoodC (rs.map (renR o z)) := by
  have em : mks (rs.map (renR o z)) = (mks rs).map (renS o z) := by unfold mks; rw [List.map_map, List.map_map]; rfl
  refine ⟨by rw [List.length_map]; exact g.len, by rw [em]; exact nodup_ren nz (fun _ h => h) g.nd, fun q hq => ?_, fun q hq p hp => ?_, fun q hq => ?_⟩
  · obtain ⟨r, hr, rfl⟩ := List.mem_map.mp hq
    obtain ⟨a, b, c, d⟩ := g.row r hr
    refine ⟨?_, b, ?_, nodup_ren nz (g.pars r hr) d⟩
    · show isMk (renS o z r.mark) = true
      unfold renS; split
      · exact hz
      · exact a
    · show (decide (0 < r.most) == decide (0 < (r.pars.map (renS o z)).length)) = true
      rw [List.length_map]; exact c
  · obtain ⟨r, hr, rfl⟩ := List.mem_map.mp hq
    obtain ⟨y, hy, rfl⟩ := List.mem_map.mp hp
    rw [em]
    exact List.mem_map.mpr ⟨y, g.pars r hr y hy, rfl⟩
  · obtain ⟨r, hr, rfl⟩ := List.mem_map.mp hq
    have k : ∀ {m}, Fert rs m → Fert (rs.map (renR o z)) (renS o z m) := fun f => by
      induction f with
      | @base r hr e => exact Fert.base (r := renR o z r) (List.mem_map.mpr ⟨r, hr, rfl⟩) e
      | @step r p hr hp _ ih => exact Fert.step (r := renR o z r) (List.mem_map.mpr ⟨r, hr, rfl⟩) (List.mem_map.mpr ⟨p, hp, rfl⟩) ih
    exact k (g.fert r hr)
/-- drawn rows with drawn marks -/
theorem good_named {n : Nat} {prs : List PRow} {ms : List Str} (ok : PlanOk n prs) (h6 : n ≤ 6) (hn : n ≤ ms.length) (nd : ms.Nodup) (hm : ∀ m ∈ ms, isMk m = true) : GoodC (prs.map (nameR ms)) := by
  have nmi : ∀ {i : Int}, 0 ≤ i → i < n → nm ms i ∈ ms := fun {i} h0 h1 => by
    unfold nm
    rw [List.getD_eq_getElem?_getD, List.getElem?_eq_getElem (by omega)]
    exact List.getElem_mem _
  have inj : ∀ {i j : Int}, 0 ≤ i → i < n → 0 ≤ j → j < n → nm ms i = nm ms j → i = j := fun {i j} a b c d e => by
    unfold nm at e
    rw [List.getD_eq_getElem?_getD, List.getD_eq_getElem?_getD, List.getElem?_eq_getElem (by omega), List.getElem?_eq_getElem (by omega)] at e
    have e : ms[i.toNat]'(by omega) = ms[j.toNat]'(by omega) := e
    have p := List.pairwise_iff_getElem.mp nd
    rcases Nat.lt_trichotomy i.toNat j.toNat with q | q | q
    · exact absurd e (p _ _ (by omega) (by omega) q)
    · omega
    · exact absurd e.symm (p _ _ (by omega) (by omega) q)
  have at_ : ∀ {k : Nat} {r : PRow}, prs[k]? = some r → k < n := fun h => by have := (List.getElem?_eq_some_iff.mp h).1; have := ok.1; omega
  have row : ∀ {j : Int}, 0 ≤ j → j < n → ∃ r, prs[j.toNat]? = some r ∧ (nameR ms r).mark = nm ms j := fun {j} a b => by
    have hj : j.toNat < prs.length := by rw [ok.1]; omega
    refine ⟨prs[j.toNat], List.getElem?_eq_getElem hj, ?_⟩
    have := (ok.2 _ _ (List.getElem?_eq_getElem hj)).idx
    show nm ms (prs[j.toNat]).idx = _
    rw [this, show ((j.toNat : Nat) : Int) = j by omega]
  refine ⟨by rw [List.length_map, ok.1]; exact h6, ?_, fun q hq => ?_, fun q hq p hp => ?_, fun q hq => ?_⟩
  · refine List.pairwise_iff_getElem.mpr fun a b ha hb hab e => ?_
    unfold mks at ha hb e
    rw [List.length_map, List.length_map] at ha hb
    simp only [List.getElem_map] at e
    have ia := (ok.2 a _ (List.getElem?_eq_getElem ha)).idx
    have ib := (ok.2 b _ (List.getElem?_eq_getElem hb)).idx
    have ka := at_ (List.getElem?_eq_getElem ha)
    have kb := at_ (List.getElem?_eq_getElem hb)
    have e : nm ms prs[a].idx = nm ms prs[b].idx := e
    have := inj (by omega) (by omega) (by omega) (by omega) e
    omega
  · obtain ⟨r, hr, rfl⟩ := List.mem_map.mp hq
    obtain ⟨k, hk⟩ := List.mem_iff_getElem?.mp hr
    have o := ok.2 k r hk
    have kn := at_ hk
    refine ⟨hm _ (nmi (by rw [o.idx]; omega) (by rw [o.idx]; omega)), ?_, ?_, ?_⟩
    · show (decide (0 ≤ r.least) && (decide (r.least ≤ r.most) && decide (r.most ≤ 4))) = true
      rw [decide_eq_true o.l0, decide_eq_true o.lm, decide_eq_true o.m4]; rfl
    · show (decide (0 < r.most) == decide (0 < (r.pars.map (nm ms)).length)) = true
      rw [List.length_map, beq_iff_eq]
      refine decide_eq_decide.mpr (o.pm.trans ?_)
      rw [List.length_pos_iff]
    · exact List.pairwise_map.mpr (List.Pairwise.imp_of_mem (fun {a b} ha hb ne e => ne (inj (o.pars.2 a ha).1 (o.pars.2 a ha).2 (o.pars.2 b hb).1 (o.pars.2 b hb).2 e)) o.pars.1)
  · obtain ⟨r, hr, rfl⟩ := List.mem_map.mp hq
    obtain ⟨k, hk⟩ := List.mem_iff_getElem?.mp hr
    obtain ⟨j, hj, rfl⟩ := List.mem_map.mp hp
    have o := (ok.2 k r hk).pars.2 j hj
    obtain ⟨r2, h2, e2⟩ := row o.1 o.2
    exact List.mem_map.mpr ⟨nameR ms r2, List.mem_map.mpr ⟨r2, List.mem_of_getElem? h2, rfl⟩, e2⟩
  · obtain ⟨r, hr, rfl⟩ := List.mem_map.mp hq
    obtain ⟨k, hk⟩ := List.mem_iff_getElem?.mp hr
    have all : ∀ (k : Nat) (r : PRow), prs[k]? = some r → Fert (prs.map (nameR ms)) (nameR ms r).mark := by
      intro k
      induction k using Nat.strongRecOn with
      | ind k ih =>
        intro r hk
        have o := ok.2 k r hk
        have mr : nameR ms r ∈ prs.map (nameR ms) := List.mem_map.mpr ⟨r, List.mem_of_getElem? hk, rfl⟩
        by_cases c : r.least = 0
        · exact Fert.base (r := nameR ms r) mr c
        · obtain ⟨j, hj, lt⟩ := o.low c
          have oj := o.pars.2 j hj
          obtain ⟨r2, h2, e2⟩ := row oj.1 oj.2
          have f := ih j.toNat (by omega) r2 h2
          rw [e2] at f
          exact Fert.step (r := nameR ms r) mr (List.mem_map.mpr ⟨j, hj, rfl⟩) f
    exact all k r hk
end My

namespace My
open PySem L2
theorem due_good {rs : List Row} (g : Good rs) {e : SErr} (h : Due rs e) : False := by
  cases h with
  | large h => have := g.len; omega
  | row _ hr _ hb => rw [g.fine _ _ hr] at hb; cases hb
  | par _ _ hr hp _ _ n => exact n (g.pars _ (List.mem_of_getElem? hr) _ (List.mem_of_getElem? hp))
  | lost _ _ _ hr _ n => exact n (g.fert _ (List.mem_of_getElem? hr))
end My

namespace My
open PySem L2
theorem dn_strs {K : PySem.W.Frag} {x : Addr} {H : Hp} {n : Nat} : ∀ l : List Str, Paired (Dn K x H n) (l.map V.str) (l.map .str)
  | [] => .nil
  | z :: l => .cons (Dn.str z) (dn_strs l)
theorem dn_strL {K : PySem.W.Frag} {x a : Addr} {H : Hp} {n : Nat} {l : List Str} (h : H a = some (.lst (l.map V.str))) (ne : a ≠ x) (hz : l.length ≤ 100000) : Dn K x H (n + 1) (.ref a) (.list (l.map .str)) := Dn.lst ne (SqL.of h) (dn_strs l) (by rw [List.length_map]; exact hz)
theorem dn_strT {K : PySem.W.Frag} {x a : Addr} {H : Hp} {n : Nat} {l : List Str} (h : H a = some (.tup (l.map V.str))) (ne : a ≠ x) (hz : l.length ≤ 100000) : Dn K x H (n + 1) (.ref a) (.tuple (l.map .str)) := Dn.tup ne (SqT.of h) (dn_strs l) (by rw [List.length_map]; exact hz)
theorem dn_row {K : PySem.W.Frag} {x : Addr} {H : Hp} {n : Nat} {r : Row} {p pp : Addr} (hp : H p = some (.tup (rowL r pp))) (hpp : H pp = some (.tup (r.pars.map V.str))) (n1 : p ≠ x) (n2 : pp ≠ x) (hz : r.pars.length ≤ 1000) : Dn K x H (n + 2) (.ref p) (rowD r) :=
  Dn.tup n1 (SqT.of hp) (.cons (Dn.str _) (.cons (dn_strT hpp n2 (by omega)) (.cons (Dn.int _) (.cons (Dn.int _) (.cons (Dn.bl _) .nil))))) (by simp [rowL])
theorem rowsN_leA {F : Addr → Prop} {b : Bool} {H H' : Hp} {vs : List V} {rs : List Row} {A : List Addr} (h : RowsN F b H vs rs) (l : Le A H H') (n : ∀ a, F a → a ∉ A) : RowsN F b H' vs rs := rowsN_le h fun a o f e => l a o (n a f) e
/-- the rows' own addresses are taken -/
theorem rowsN_al {F : Addr → Prop} {b : Bool} {H : Hp} {vs : List V} {rs : List Row} (h : RowsN F b H vs rs) : RowsN (fun a => F a ∧ ∃ o, H a = some o) b H vs rs := L2.Paired.mapP h fun _ _ ⟨p, pp, e, f, g, x, y⟩ => ⟨p, pp, e, ⟨f, _, x⟩, ⟨g, _, y⟩, x, y⟩
def rowDb (b : Bool) (r : Row) : PyData := if b then .list [.str r.mark, .list (r.pars.map .str), .int r.least, .int r.most, .bool r.sh] else rowD r
theorem dn_rowN {K : PySem.W.Frag} {F : Addr → Prop} {x : Addr} {b : Bool} {H : Hp} {n : Nat} {v : V} {r : Row} (h : RowN F b H v r) (nx : ∀ a, F a → a ≠ x) (hz : r.pars.length ≤ 1000) : Dn K x H (n + 2) v (rowDb b r) := by
  obtain ⟨p, pp, rfl, f, g, hp, hpp⟩ := h
  cases b with
  | true =>
    have hp : H p = some (.lst (rowL r pp)) := hp
    have hpp : H pp = some (.lst (r.pars.map V.str)) := hpp
    exact Dn.lst (nx p f) (SqL.of hp) (.cons (Dn.str _) (.cons (dn_strL hpp (nx pp g) (by omega)) (.cons (Dn.int _) (.cons (Dn.int _) (.cons (Dn.bl _) .nil))))) (by simp [rowL])
  | false => exact dn_row hp hpp (nx p f) (nx pp g) hz
theorem dn_rowsN {K : PySem.W.Frag} {F : Addr → Prop} {x a : Addr} {b : Bool} {H : Hp} {vs : List V} {rs : List Row} (h : RowsN F b H vs rs) (ha : H a = some (.lst vs)) (na : a ≠ x) (nx : ∀ a, F a → a ≠ x) (hz : ∀ r ∈ rs, r.pars.length ≤ 1000) (hl : rs.length ≤ 1000) : Dn K x H 3 (.ref a) (.list (rs.map (rowDb b))) := by
  refine Dn.lst na (SqL.of ha) ?_ (by rw [pair_len' h]; omega)
  revert hz
  clear ha hl
  induction h with
  | nil => intro _; exact .nil
  | cons r t ih => intro hz; exact .cons (dn_rowN r nx (hz _ (by simp))) (ih fun q hq => hz q (by simp [hq]))
theorem GoodC.bnd {rs : List Row} (g : GoodC rs) : ∀ r ∈ rs, r.mark.length ≤ 8 ∧ r.pars.length ≤ 6 := fun r hr => by
  obtain ⟨a, _, _, d⟩ := g.row r hr
  unfold isMk at a
  rw [Bool.and_eq_true, decide_eq_true_iff] at a
  have := List.Nodup.length_le_of_subset d (g.pars r hr)
  unfold mks at this
  rw [List.length_map] at this
  have := g.len
  exact ⟨by omega, by omega⟩
end My

namespace L2
open PySem
theorem sl_listK {X : Cx} {K : PySem.W.Frag} (h : X.K = K) : SlR X (rSlL K) := h ▸ sl_list
end L2

namespace My
open PySem L2
/-! ### the rows that _law_rows draws -/
theorem int_at {js : List Int} {i : Int} (h0 : 0 ≤ i) (h1 : i < (js.length : Int)) : ∃ z, atI (js.map V.int) i = some (.int z) ∧ z ∈ js := by
  obtain ⟨v, hv, mv⟩ := at_ok (xs := js.map V.int) h0 (by rw [List.length_map]; exact h1)
  obtain ⟨z, hz, rfl⟩ := List.mem_map.mp mv
  exact ⟨z, hv, hz⟩
def spLRows (K : PySem.W.Frag) : Sp := fun vs H Q _ => ∃ (d t : Addr) (ex : Bool), vs = [.ref d, .ref t, .bl ex] ∧ Dr K H d t ∧
  ∀ (ms : List Str) (prs : List PRow) ws p H', PlanOk ms.length prs → (∀ r ∈ prs, r.most ≤ 3) → 1 ≤ ms.length → ms.length ≤ 3 → ms.Nodup → (∀ m ∈ ms, isMk m = true) → Dr K H' d t → But t H H' → H p = none → H' p = some (.lst ws) → RowsN (New H) true H' ws (prs.map (nameR ms)) → Q (.ref p) H'
theorem nm_take {ms : List Str} (nd : ms.Nodup) {j : Int} {k : Nat} (h0 : 0 ≤ j) (h1 : j < ms.length) (h : nm ms j ∈ ms.take k) : j < (k : Int) := by
  obtain ⟨n, rfl⟩ := Int.eq_ofNat_of_zero_le h0
  have hn : n < ms.length := by omega
  obtain ⟨i, hi, e⟩ := List.getElem_of_mem h
  rw [List.length_take] at hi
  rw [List.getElem_take] at e
  have e2 : nm ms (n : Int) = ms[n] := by unfold nm; rw [List.getD_eq_getElem?_getD, Int.toNat_natCast, List.getElem?_eq_getElem hn]; rfl
  rw [e2] at e
  have := (List.getElem_inj nd).mp e
  omega
theorem nm_mem {ms : List Str} {j : Int} (h0 : 0 ≤ j) (h1 : j < ms.length) : nm ms j ∈ ms := by
  obtain ⟨n, rfl⟩ := Int.eq_ofNat_of_zero_le h0
  have hn : n < ms.length := by omega
  unfold nm; rw [List.getD_eq_getElem?_getD, Int.toNat_natCast, List.getElem?_eq_getElem hn]; exact List.getElem_mem hn
section
variable {P : Program} {w : World} {K : PySem.W.Frag} {mg : Str → Option Value} {base : Heap}
set_option maxHeartbeats 16000000 in
theorem ok__law_rows (T : Txt K mg) : FnOk P w K mg base CX0 4 T.a__law_rows T.fd__law_rows ["_law_draws_here", "_law_at", "_law_exclusive"] (spLRows K) := by
  refine T.F__law_rows.ok sc__law_rows (fun vs H Q E h => ?_) (fun cdv A outer s H vs Q E hr h => ?_)
  · obtain ⟨d, t, ex, rfl, _⟩ := h; rfl
  · obtain ⟨d, t, ex, rfl, D0, q⟩ := h
    refine ⟨_, (pss_cons (ps_set (i := 3) sc__law_rows.nd rfl (.inr rfl) (pe_call (ok__law_marks T) (hr.mono (by omega)) (by rfl) T.g__law_marks T.F__law_marks.kp T.b__law_marks .nil pass0 (pa_cons (pv 0) (pa_cons (pv 1) (pa_cons (pe_ix ix_list (pe_lst (pa_cons (pe_int) (pa_cons (pe_int) (pa_cons (pe_int) pa_nil)))) (pe_call (ok__law_take T) (hr.mono (by omega)) (by rfl) T.g__law_take T.F__law_take.kp T.b__law_take .nil pass0 (pa_cons (pv 0) (pa_cons (pv 1) (pa_cons (pe_int) pa_nil)))) (fun _ _ => rfl)) pa_nil)))))
      (pss_cons (ps_set (i := 4) sc__law_rows.nd rfl (.inl rfl) (pe_lst pa_nil))
      (pss_cons (ps_for PassesOwn.never rfl (pi_range1 (by rfl) T.n_range (pa_cons (pe_callB call_len_seq (by rfl) T.n_len (by decide +kernel) (pa_cons (pv 3) pa_nil)) pa_nil)) (pg_name (i := 5) sc__law_rows.nd rfl (.inr rfl)) (pss_cons (ps_set (i := 6) sc__law_rows.nd rfl (.inr rfl) (pe_ix ix_list (pe_lst (pa_cons (pe_int) (pa_cons (pe_int) (pa_cons (pe_int) (pa_cons (pe_int) (pa_cons (pe_int) (pa_cons (pe_int) (pa_cons (pe_int) (pa_cons (pe_int) (pa_cons (pe_int) pa_nil)))))))))) (pe_call (ok__law_take T) (hr.mono (by omega)) (by rfl) T.g__law_take T.F__law_take.kp T.b__law_take .nil pass0 (pa_cons (pv 0) (pa_cons (pv 1) (pa_cons (pe_int) pa_nil)))) (fun _ _ => rfl)))
      (pss_cons (ps_setLc (i := 7) (own := [("_law_j", 8)]) (g := (gName 8)) (by rfl) sc__law_rows.nd rfl rfl (sw_true rfl rfl rfl (by decide +kernel)) (pi_range1 (by rfl) T.n_range (pa_cons (pe_callB call_len_seq (by rfl) T.n_len (by decide +kernel) (pa_cons (pv 3) pa_nil)) pa_nil)) (blkOk_by (own := [("_law_j", 8)]) (N := ["_law_draws_here", "_law_at", "_law_exclusive", "_law_marks_here", "_law_rows_here", "_law_k", "_law_mask", "_law_parents", "_law_j", "_law_most", "_law_least", "_law_mark", "_law_shared"]) (sc := defScope S__law_rows) (by decide +kernel)) (fun _ _ _ _ _ => (pg_name (i := 8) sc__law_rows.nd rfl (by first | exact .inl rfl | exact .inr rfl))) (fun _ _ _ _ _ => (pts_one (pt_cmpR op_eq (pe_op op_mod (pe_op op_fdiv (pv 6) (pe_ix (ixLK (K := K) rfl) (pe_lst (pa_cons (pe_int) (pa_cons (pe_int) (pa_cons (pe_int) pa_nil)))) (pv 8) (fun _ _ => rfl))) (pe_int)) (pe_int) (nomark _)))) (fun _ _ _ _ _ => (pe_ix (ixLK (K := K) rfl) (pv 3) (pv 8) (fun _ _ => rfl))))
      (pss_cons (ps_set (i := 9) sc__law_rows.nd rfl (.inl rfl) (pe_int))
      (pss_cons (ps_set (i := 10) sc__law_rows.nd rfl (.inl rfl) (pe_int))
      (C8.pss_cut (ps_if (pt_cmpR op_gt (pe_callB call_len_seq (by rfl) T.n_len (by decide +kernel) (pa_cons (pv 7) pa_nil)) (pe_int) (nomark _)) (pss_one (ps_set (i := 9) sc__law_rows.nd rfl (.inl rfl) (pe_ix ix_list (pe_lst (pa_cons (pe_int) (pa_cons (pe_int) (pa_cons (pe_int) (pa_cons (pe_int) pa_nil))))) (pe_call (ok__law_take T) (hr.mono (by omega)) (by rfl) T.g__law_take T.F__law_take.kp T.b__law_take .nil pass0 (pa_cons (pv 0) (pa_cons (pv 1) (pa_cons (pe_int) pa_nil)))) (fun _ _ => rfl)))) pss_nil)
      (C8.pss_cut (ps_if (pt_cmpR op_gt (pe_callB call_len_seq (by rfl) T.n_len (by decide +kernel) (pa_cons (pe_lc (own := [("_law_mark", 11)]) (g := (gName 11)) (by rfl) sc__law_rows.nd (pi_list (pv 7)) (blkOk_by (own := [("_law_mark", 11)]) (N := ["_law_draws_here", "_law_at", "_law_exclusive", "_law_marks_here", "_law_rows_here", "_law_k", "_law_mask", "_law_parents", "_law_j", "_law_most", "_law_least", "_law_mark", "_law_shared"]) (sc := defScope S__law_rows) (by decide +kernel)) (fun _ _ _ _ _ => (pg_name (i := 11) sc__law_rows.nd rfl (by first | exact .inl rfl | exact .inr rfl))) (fun _ _ _ _ _ => (pts_one (pt_cmpR (inK (K := K) rfl) (pv 11) (pe_slice (sl_listK (K := K) rfl) (pv 3) po_none (po_some (pv 5))) (by with_unfolding_all rfl)))) (fun _ _ _ _ _ => (pv 11))) pa_nil)) (pe_int) (nomark _)) (pss_one (ps_set (i := 10) sc__law_rows.nd rfl (.inl rfl) (pe_ix ix_list (pe_lst (pa_cons (pe_int) (pa_cons (pe_int) (pa_cons (pe_int) (pa_cons (pe_int) pa_nil))))) (pe_call (ok__law_take T) (hr.mono (by omega)) (by rfl) T.g__law_take T.F__law_take.kp T.b__law_take .nil pass0 (pa_cons (pv 0) (pa_cons (pv 1) (pa_cons (pe_int) pa_nil)))) (fun _ _ => rfl)))) pss_nil)
      (C8.pss_cut (ps_if (pt_cmpR op_gt (pv 10) (pv 9) (nomark _)) (pss_one (ps_set (i := 10) sc__law_rows.nd rfl (.inl rfl) (pv 9))) pss_nil)
      (C8.pss_cut (ps_set (i := 12) sc__law_rows.nd rfl (.inl rfl) (pe_and (pe_cmpR op_eq (pe_call (ok__law_take T) (hr.mono (by omega)) (by rfl) T.g__law_take T.F__law_take.kp T.b__law_take .nil pass0 (pa_cons (pv 0) (pa_cons (pv 1) (pa_cons (pe_int) pa_nil)))) (pe_int) (nomark _)) (pe_one (pe_not (pv 2)))))
      (pss_one (ps_expr (pe_bm PySem.F.plainAttrs_list PySem.F.slot_list_append PySem.F.type_list_append mt_append (pv 4) (pa_cons (pe_lst (pa_cons (pe_ix ix_list (pv 3) (pv 5) (fun _ _ => rfl)) (pa_cons (pv 7) (pa_cons (pv 10) (pa_cons (pv 9) (pa_cons (pv 12) pa_nil)))))) pa_nil)))))))))))))
      (pss_one (ps_ret (pv 4)))))), ?_⟩
    have big : 100000 < sizeLine := by decide
    refine ⟨_, rfl, _, rfl, by show 3 ≤ sizeLine; decide, fun u0 nu0 => ?_⟩
    have s0 := same_new (o := .lst [.int 2, .int 1, .int 3]) nu0
    refine ⟨_, rfl, _, rfl, d, t, 3, rfl, D0.same s0, by decide, fun r Ha r0 r1 Da ba => ?_⟩
    obtain ⟨z, hz, mz⟩ := int_at (js := [2, 1, 3]) r0 r1
    obtain ⟨n, rfl, n1, n3⟩ : ∃ n : Nat, z = n ∧ 1 ≤ n ∧ n ≤ 3 := by
      simp only [List.mem_cons, List.not_mem_nil, or_false] at mz
      exact ⟨z.toNat, by omega, by omega, by omega⟩
    refine ⟨_, _, _, _, rfl, rfl, SqL.of (ba _ _ (D0.na nu0) upd_same), hz, ?_⟩
    refine ⟨d, t, n, rfl, Da, by omega, fun ms mk Hb lms nms oms Db bb nmk hmk => ?_⟩
    have tb : But t H Hb := ((But.of_same s0).trans ba).trans bb
    have nmt : mk ≠ t := Da.na nmk
    refine ⟨Nat.zero_le _, fun l hl0 => ?_⟩
    have nlt : l ≠ t := Db.na hl0
    have ndl : d ≠ l := Db.nd hl0
    have nml : mk ≠ l := ne_of_none hmk hl0
    have nl0 : H l = none := tb.free nlt hl0
    have s1 := same_new (o := .lst []) hl0
    refine ⟨_, rfl, mk, _, rfl, .inl (SqL.of (s1 _ _ hmk)), ms.length, by rw [List.length_map], by omega, by omega, for_range (lo := 0) (n := ms.length) (fun k σ H' => ∃ (prs : List PRow) (us : List V) (x5 x6 x7 x9 x10 x12 : Option V), σ = [some (.ref d), some (.ref t), some (.bl ex), some (.ref mk), some (.ref l), x5, x6, x7, none, x9, x10, none, x12] ∧ Dr K H' d t ∧ But t H H' ∧ H' mk = some (.lst (ms.map V.str)) ∧ H' l = some (.lst us) ∧ RowsN (fun a => H a = none ∧ a ≠ l) true H' us (prs.map (nameR ms)) ∧ prs.length = k ∧ ∀ j r, prs[j]? = some r → PrOk ms.length j r ∧ r.most ≤ 3)
      ⟨[], [], _, _, _, _, _, _, rfl, Db.same s1, tb.trans (But.of_same s1), s1 _ _ hmk, upd_same, .nil, rfl, fun j r h => by simp at h⟩ ?_ ?_⟩
    rotate_left
    · rintro σ H2 ⟨prs, us, x5, x6, x7, x9, x10, x12, rfl, D2, b2, hmk2, hl2, pv, lk, ok⟩
      exact ⟨_, rfl, q ms prs us l H2 ⟨lk, fun j r h => (ok j r h).1⟩ (fun r hr => (by obtain ⟨j, hj⟩ := List.mem_iff_getElem?.mp hr; exact (ok j r hj).2)) (by omega) (by omega) nms oms D2 b2 nl0 hl2 (rowsN_sub pv fun a f => f.1)⟩
    rintro k σ H2 hk ⟨prs, us, x5, x6, x7, x9, x10, x12, rfl, D2, b2, hmk2, hl2, pv, lk, ok⟩
    rw [Int.zero_add]
    have up : ∀ {H3 : Hp}, But t H2 H3 → But t H H3 ∧ H3 mk = some (.lst (ms.map V.str)) ∧ H3 l = some (.lst us) ∧ RowsN (fun a => H a = none ∧ a ≠ l) true H3 us (prs.map (nameR ms)) := fun b3 => ⟨b2.trans b3, b3 _ _ nmt hmk2, b3 _ _ nlt hl2, rowsN_le pv fun a o f e => b3 _ _ (D0.na f.1) e⟩
    -- the mask
    refine ⟨by show 9 ≤ sizeLine; decide, fun u1 nu1 => ?_⟩
    have s2 := same_new (o := .lst [.int 7, .int 1, .int 2, .int 3, .int 5, .int 6, .int 7, .int 4, .int 0]) nu1
    refine ⟨_, rfl, _, rfl, d, t, 9, rfl, D2.same s2, by decide, fun r H3 r0 r1 D3 b3 => ?_⟩
    obtain ⟨mask, hmask, _⟩ := int_at (js := [7, 1, 2, 3, 5, 6, 7, 4, 0]) r0 r1
    refine ⟨_, _, _, _, rfl, rfl, SqL.of (b3 _ _ (D2.na nu1) upd_same), hmask, ?_⟩
    have b3 := (But.of_same (a := t) s2).trans b3
    obtain ⟨_, hmk3, _, _⟩ := up b3
    -- the parents
    refine ⟨_, rfl, mk, _, rfl, .inl (SqL.of hmk3), _, rfl, by omega, by rw [List.length_map]; omega, fun D hD => ?_⟩
    rw [List.length_map]
    refine lc_range (lo := 0) (n := ms.length) (fun i H' => ∃ js : List Int, Same H3 H' ∧ H' D = some (.lst ((js.map (nm ms)).map V.str)) ∧ listOk i js) ⟨[], same_new hD, upd_same, List.nodup_nil, fun j h => by cases h⟩ ?_ ?_
    · rintro i H4 hi ⟨js, s4, h4, lo⟩
      rw [Int.zero_add]
      obtain ⟨z, hz, z0, z4⟩ : ∃ z : Int, atI [V.int 1, .int 2, .int 4] ((i : Nat) : Int) = some (.int z) ∧ 0 < z ∧ z ≤ 4 := by
        match i, (show i < 3 by omega) with
        | 0, _ => exact ⟨1, rfl, by decide, by decide⟩
        | 1, _ => exact ⟨2, rfl, by decide, by decide⟩
        | 2, _ => exact ⟨4, rfl, by decide, by decide⟩
      refine ⟨rfl, _, rfl, by show 3 ≤ sizeLine; decide, fun u nu => ?_⟩
      have s5 := s4.trans (same_new (o := .lst [.int 1, .int 2, .int 4]) nu)
      have h5 := same_new (o := .lst [.int 1, .int 2, .int 4]) nu _ _ h4
      have hu : (upd H4 u (.lst [.int 1, .int 2, .int 4])) u = some (.lst [.int 1, .int 2, .int 4]) := upd_same
      revert s5 h5 hu
      generalize upd H4 u (.lst [.int 1, .int 2, .int 4]) = H5
      intro s5 h5 hu
      refine ⟨_, rfl, _, _, _, _, rfl, rfl, SqL.of hu, hz, _, _, rfl, rfl, ⟨z0, by omega⟩, _, _, rfl, rfl, (show (0 : Int) < 2 by decide), rfl, _, rfl, iteD (fun c => ?_) (fun c => ?_)⟩
      · have nd : js.length ≤ i := lst_len lo
        refine ⟨_, rfl, _, rfl, _, _, _, _, rfl, rfl, SqL.of (s5 _ _ hmk3), nm_at (by omega) (by omega), _, h5, by rw [List.length_map, List.length_map]; omega, js ++ [(i : Int)], same_mut s5 hD, by rw [upd_same, List.map_append, List.map_append]; rfl, ?_, ?_⟩
        · rw [List.nodup_append]
          exact ⟨lo.1, by simp, fun a ha b hb e => by rw [List.mem_singleton] at hb; have := lo.2 a ha; omega⟩
        · intro j hj
          rcases List.mem_append.mp hj with hj | hj
          · have := lo.2 j hj; omega
          · rw [List.mem_singleton.mp hj]; omega
      · exact ⟨js, s5, h5, lo.1, fun j hj => by have := lo.2 j hj; omega⟩
    rintro H4 ⟨js, s4, hD4, lo⟩
    have D4 := D3.same s4
    have b4 : But t H2 H4 := b3.trans (But.of_same s4)
    have nDt : D ≠ t := D3.na hD
    obtain ⟨_, _, hl3, _⟩ := up b3
    have nDl : D ≠ l := (ne_of_none hl3 hD).symm
    have nD0 : H D = none := (b2.trans b3).free nDt hD
    have lj := lst_len lo
    have ljs : ((js.map (nm ms)).map V.str).length = js.length := by rw [List.length_map, List.length_map]
    -- most
    refine ⟨fun σ' H' => ∃ (m : Int), σ' = [some (.ref d), some (.ref t), some (.bl ex), some (.ref mk), some (.ref l), some (.int k), some (.int mask), some (.ref D), none, some (.int m), some (.int 0), none, x12] ∧ Dr K H' d t ∧ But t H2 H' ∧ H' D = some (.lst ((js.map (nm ms)).map V.str)) ∧ 0 ≤ m ∧ m ≤ 3 ∧ (0 < m ↔ js ≠ []), ?_, ?_⟩
    · refine ⟨_, rfl, D, _, rfl, .inl (SqL.of hD4), _, _, rfl, rfl, _, rfl, iteD (fun c => ?_) (fun c => ?_)⟩
      · rw [ljs] at c
        refine ⟨by show 4 ≤ sizeLine; decide, fun u nu => ?_⟩
        have s5 := same_new (o := .lst [.int 1, .int 2, .int 3, .int 1]) nu
        refine ⟨_, rfl, _, rfl, d, t, 4, rfl, D4.same s5, by decide, fun r H5 r0 r1 D5 b5 => ?_⟩
        obtain ⟨m, hm, mm⟩ := int_at (js := [1, 2, 3, 1]) r0 r1
        simp only [List.mem_cons, List.not_mem_nil, or_false] at mm
        refine ⟨_, _, _, _, rfl, rfl, SqL.of (b5 _ _ (D4.na nu) upd_same), hm, ?_⟩
        refine ⟨m, rfl, D5, (b4.trans (But.of_same s5)).trans b5, b5 _ _ nDt (s5 _ _ hD4), by omega, by omega, fun _ z => ?_, fun _ => by omega⟩
        rw [z] at c; simp at c
      · rw [ljs] at c
        have e : js = [] := by
          cases js with
          | nil => rfl
          | cons a r => exact absurd (by simp) c
        exact ⟨0, rfl, D4, b4, hD4, Int.le_refl _, by decide, fun z => absurd z (by decide), fun z => absurd e z⟩
    rintro σ' H5 ⟨m, rfl, D5, b5, hD5, m0, m4, mj⟩
    obtain ⟨_, hmk5, _, _⟩ := up b5
    -- least
    refine ⟨fun σ' H' => ∃ (m2 : Int), σ' = [some (.ref d), some (.ref t), some (.bl ex), some (.ref mk), some (.ref l), some (.int k), some (.int mask), some (.ref D), none, some (.int m), some (.int m2), none, x12] ∧ Dr K H' d t ∧ But t H2 H' ∧ H' D = some (.lst ((js.map (nm ms)).map V.str)) ∧ 0 ≤ m2 ∧ (m2 ≠ 0 → ∃ j ∈ js, j < (k : Int)), ?_, ?_⟩
    · refine ⟨_, rfl, D, rfl, ⟨_, SqL.of hD5⟩, fun D' hD' => lc_list (K := K) (a := D) (xs := (js.map (nm ms)).map V.str) (fun i H' => ∃ fs, Same H5 H' ∧ H' D' = some (.lst fs) ∧ fs.length ≤ i ∧ (fs ≠ [] → ∃ j ∈ js, j < (k : Int))) ⟨[], same_new hD', upd_same, Nat.le_refl _, fun h => absurd rfl h⟩ (fun i H' _ ⟨_, s, _⟩ => SqL.of (s _ _ hD5)) ?_ ?_⟩
      · rintro i v H6 hv ⟨fs, s6, h6, lf, pf⟩
        rw [List.getElem?_map, List.getElem?_map] at hv
        obtain ⟨j, hj⟩ : ∃ j, js[i]? = some j := by
          cases e : js[i]? with
          | none => rw [e] at hv; cases hv
          | some j => exact ⟨j, rfl⟩
        rw [hj] at hv
        obtain rfl := Option.some.inj hv
        have mjs := List.mem_of_getElem? hj
        have oj := lo.2 j mjs
        have hi := (List.getElem?_eq_some_iff.mp hj).1
        refine ⟨rfl, _, rfl, _, rfl, _, rfl, _, rfl, mk, _, rfl, SqL.of (s6 _ _ hmk5), fun c hc => ?_⟩
        have ct : cutV (ms.map V.str) none (some ((k : Nat) : Int)) = (ms.take k).map V.str := by rw [cut_to, List.map_take]
        have s7 := s6.trans (same_new (o := .lst (cutV (ms.map V.str) none (some ((k : Nat) : Int)))) hc)
        refine ⟨_, _, rfl, .inl (SqL.of upd_same), rfl, by rw [ct]; exact flat_strs _, ?_⟩
        rw [show (if false = true then !inV (V.str (nm ms j)) (cutV (ms.map V.str) none (some ((k : Nat) : Int))) else inV (V.str (nm ms j)) (cutV (ms.map V.str) none (some ((k : Nat) : Int)))) = decide (nm ms j ∈ ms.take k) by rw [if_neg Bool.false_ne_true, ct, in_strs]]
        refine ⟨_, rfl, iteD (fun m => ?_) (fun m => ?_)⟩
        · exact ⟨_, rfl, _, (same_new hc _ _ h6), by omega, fs ++ [.str (nm ms j)], same_mut s7 hD', upd_same, by rw [List.length_append]; simp; omega, fun _ => ⟨j, mjs, nm_take nms oj.1 oj.2 m⟩⟩
        · exact ⟨fs, s7, same_new hc _ _ h6, by omega, pf⟩
      · rintro H6 ⟨fs, s6, h6, lf, pf⟩
        refine ⟨D', _, rfl, .inl (SqL.of h6), _, _, rfl, rfl, _, rfl, iteD (fun c => ?_) (fun c => ?_)⟩
        · have ex2 := pf fun z => by rw [z] at c; simp at c
          have D6 := D5.same s6
          refine ⟨by show 4 ≤ sizeLine; decide, fun u hu => ?_⟩
          have s7 := same_new (o := .lst [.int 0, .int 0, .int 1, .int 2]) hu
          refine ⟨_, rfl, _, rfl, d, t, 4, rfl, D6.same s7, by decide, fun r H8 r0 r1 D8 b8 => ?_⟩
          obtain ⟨m2, hm2, mm2⟩ := int_at (js := [0, 0, 1, 2]) r0 r1
          simp only [List.mem_cons, List.not_mem_nil, or_false] at mm2
          refine ⟨_, _, _, _, rfl, rfl, SqL.of (b8 _ _ (D6.na hu) upd_same), hm2, ?_⟩
          exact ⟨m2, rfl, D8, ((b5.trans (But.of_same s6)).trans (But.of_same s7)).trans b8, b8 _ _ nDt (s7 _ _ (s6 _ _ hD5)), by omega, fun _ => ex2⟩
        · exact ⟨0, rfl, D5.same s6, b5.trans (But.of_same s6), s6 _ _ hD5, Int.le_refl _, fun z => absurd rfl z⟩
    rintro σ' H6 ⟨m2, rfl, D6, b6, hD6, z0, zl⟩
    refine ⟨fun σ' H' => ∃ (m3 : Int), H' = H6 ∧ σ' = [some (.ref d), some (.ref t), some (.bl ex), some (.ref mk), some (.ref l), some (.int k), some (.int mask), some (.ref D), none, some (.int m), some (.int m3), none, x12] ∧ 0 ≤ m3 ∧ m3 ≤ m ∧ (m3 ≠ 0 → ∃ j ∈ js, j < (k : Int)), ?_, ?_⟩
    · refine ⟨_, rfl, _, rfl, _, _, rfl, rfl, _, rfl, iteD (fun c => ?_) (fun c => ?_)⟩
      · exact ⟨_, rfl, m, rfl, rfl, m0, Int.le_refl _, fun _ => zl (by omega)⟩
      · exact ⟨m2, rfl, rfl, z0, by omega, zl⟩
    rintro σ' H7 ⟨m3, rfl, rfl, z0, z1, zl⟩
    refine ⟨fun σ' H' => ∃ (sh : Bool), σ' = [some (.ref d), some (.ref t), some (.bl ex), some (.ref mk), some (.ref l), some (.int k), some (.int mask), some (.ref D), none, some (.int m), some (.int m3), none, some (.bl sh)] ∧ Dr K H' d t ∧ But t H2 H' ∧ H' D = some (.lst ((js.map (nm ms)).map V.str)), ?_, ?_⟩
    · refine ⟨_, rfl, _, rfl, d, t, 3, rfl, D6, by decide, fun r H8 _ _ D8 b8 => ⟨rfl, _, rfl, ?_⟩⟩
      have e8 := b8 _ _ nDt hD6
      exact iteD (fun _ => ⟨_, rfl, _, rfl, _, rfl, D8, b6.trans b8, e8⟩) (fun _ => ⟨_, rfl, D8, b6.trans b8, e8⟩)
    rintro σ' H8 ⟨sh, rfl, D8, b8, hD8⟩
    obtain ⟨b8', hmk8, hl8, pv8⟩ := up b8
    refine ⟨_, rfl, .inl ⟨rfl, _, SqL.of hl8⟩, _, rfl, _, rfl, _, _, _, _, rfl, rfl, SqL.of hmk8, nm_at (by omega) (by omega), _, rfl, _, rfl, _, rfl, _, rfl, by show 5 ≤ sizeLine; decide, fun u hu => ?_⟩
    have s9 := same_new (o := .lst [.str (nm ms (k : Nat)), .ref D, .int m3, .int m, .bl sh]) hu
    have nul : l ≠ u := ne_of_none hl8 hu
    have nut := D8.na hu
    have nu0' : H u = none := b8'.free nut hu
    have lus : us.length = k := by rw [pair_len' pv, List.length_map, lk]
    refine ⟨_, _, _, rfl, rfl, s9 _ _ hl8, by omega, ?_⟩
    refine ⟨prs ++ [⟨k, js, m3, m, sh⟩], us ++ [.ref u], _, _, _, _, _, _, rfl, (D8.same s9).other But.upd ndl nlt.symm, (b8'.trans (But.of_same s9)).mut nl0, by rw [upd_ne nml]; exact s9 _ _ hmk8, upd_same, ?_, by rw [List.length_append, lk]; rfl, ?_⟩
    · rw [List.map_append]
      refine pair_app' (rowsN_le pv8 fun a o f e => by rw [upd_ne f.2]; exact s9 _ _ e) (.cons ⟨u, D, rfl, ⟨nu0', nul.symm⟩, ⟨nD0, nDl⟩, ?_, ?_⟩ .nil)
      · rw [upd_ne nul.symm]; exact upd_same
      · rw [upd_ne nDl]; exact s9 _ _ hD8
    · intro j r h
      rw [List.getElem?_append] at h
      split at h
      · exact ok j r h
      · rename_i c
        rw [lk] at h c
        obtain rfl : j = k := by
          have := (List.getElem?_eq_some_iff.mp h).1
          simp at this; omega
        simp at h
        subst h
        exact ⟨⟨rfl, lo, z0, z1, by show m ≤ 4; omega, mj, zl⟩, m4⟩
end
end My

namespace My
open PySem L2
def spLShape (C : Addr) : Sp := fun vs H Q _ => ∃ (a : Addr) (us : List V) (rs : List Row), vs = [.ref a] ∧ H a = some (.lst us) ∧ RowsN (fun _ => True) true H us rs ∧ 1 ≤ us.length ∧ us.length ≤ 3 ∧ GoodC rs ∧
  ∀ x H', Same H H' → H x = none → ShN (fun a => H a = none) C H' x rs → Q (.ref x) H'
section
variable {w : World} {K : PySem.W.Frag} {mg : Str → Option Value} {base : Heap}
theorem ok__law_shape (T : Txt K mg) : FnOk PP w K mg base CX0 7 T.a__law_shape T.fd__law_shape ["_law_rows_here"] (spLShape T.c_Shape) := by
  refine T.F__law_shape.ok sc__law_shape (fun vs H Q E h => ?_) (fun cdv A outer s H vs Q E hr h => ?_)
  · obtain ⟨a, us, rs, rfl, _⟩ := h; rfl
  · obtain ⟨a, us, rs, rfl, ha, hR, l1, l3, g, q⟩ := h
    refine ⟨_, (pss_cons (ps_setLc (i := 1) (own := [("_law_row", 2)]) (g := (gName 2)) (by rfl) sc__law_shape.nd rfl rfl (sw_true rfl rfl rfl (by decide +kernel)) (pi_list (pv 0)) (blkOk_by (own := [("_law_row", 2)]) (N := ["_law_rows_here", "_law_made", "_law_row"]) (sc := defScope S__law_shape) (by decide +kernel)) (fun _ _ _ _ _ => (pg_name (i := 2) sc__law_shape.nd rfl (by first | exact .inl rfl | exact .inr rfl))) (fun _ _ _ _ _ => pts_nil) (fun _ _ _ _ _ => (pe_tup (pa_cons (pe_ix (ixLK (K := K) rfl) (pv 2) (pe_int) (fun _ _ => rfl)) (pa_cons (pe_callTy (tupleK (K := K) rfl) (by rfl) T.n_tuple (by decide +kernel) (pa_cons (pe_ix (ixLK (K := K) rfl) (pv 2) (pe_int) (fun _ _ => rfl)) pa_nil)) (pa_cons (pe_ix (ixLK (K := K) rfl) (pv 2) (pe_int) (fun _ _ => rfl)) (pa_cons (pe_ix (ixLK (K := K) rfl) (pv 2) (pe_int) (fun _ _ => rfl)) (pa_cons (pe_ix (ixLK (K := K) rfl) (pv 2) (pe_int) (fun _ _ => rfl)) pa_nil))))))))
      (pss_cons (ps_if (pt_cmpR op_eq (pe_callB call_len_seq (by rfl) T.n_len (by decide +kernel) (pa_cons (pv 1) pa_nil)) (pe_int) (nomark _)) (pss_one (ps_ret (StX.pe_makeR T.mk_Shape ((ok_Shape_init T).calm) (hr.mono (by omega)) (by rfl) T.g_Shape pass0 (pa_cons (pe_ix ix_list (pv 1) (pe_int) (fun _ _ => rfl)) pa_nil)))) pss_nil)
      (pss_cons (ps_if (pt_cmpR op_eq (pe_callB call_len_seq (by rfl) T.n_len (by decide +kernel) (pa_cons (pv 1) pa_nil)) (pe_int) (nomark _)) (pss_one (ps_ret (StX.pe_makeR T.mk_Shape ((ok_Shape_init T).calm) (hr.mono (by omega)) (by rfl) T.g_Shape pass0 (pa_cons (pe_ix ix_list (pv 1) (pe_int) (fun _ _ => rfl)) (pa_cons (pe_ix ix_list (pv 1) (pe_int) (fun _ _ => rfl)) pa_nil))))) pss_nil)
      (pss_one (ps_ret (StX.pe_makeR T.mk_Shape ((ok_Shape_init T).calm) (hr.mono (by omega)) (by rfl) T.g_Shape pass0 (pa_cons (pe_ix ix_list (pv 1) (pe_int) (fun _ _ => rfl)) (pa_cons (pe_ix ix_list (pv 1) (pe_int) (fun _ _ => rfl)) (pa_cons (pe_ix ix_list (pv 1) (pe_int) (fun _ _ => rfl)) pa_nil))))))))), ?_⟩
    have big : 100000 < sizeLine := by decide
    have lu := pair_len' hR
    refine ⟨_, rfl, a, rfl, ⟨_, SqL.of ha⟩, fun D hD => lc_list (K := K) (a := a) (xs := us) (fun i H' => ∃ ws, Same H H' ∧ H' D = some (.lst ws) ∧ RowsN (fun x => H x = none ∧ x ≠ D) false H' ws (rs.take i)) ⟨[], same_new hD, upd_same, .nil⟩ (fun i H' _ ⟨_, s, _⟩ => SqL.of (s _ _ ha)) ?_ ?_⟩
    · rintro i v H1 hv ⟨ws, s1, h1, rw1⟩
      obtain ⟨r, hr, p, pp, rfl, _, _, hp, hpp⟩ := pair_get' hR hv
      have hi := (List.getElem?_eq_some_iff.mp hr).1
      have hp : H p = some (.lst (rowL r pp)) := hp
      have hpp : H pp = some (.lst (r.pars.map V.str)) := hpp
      have hp1 := s1 _ _ hp
      have hpp1 := s1 _ _ hpp
      refine ⟨rfl, ?_⟩
      unfold tYes
      refine iteT ⟨_, rfl, _, _, _, _, rfl, rfl, SqL.of hp1, atI_nat (j := 0) rfl, ?_⟩
      refine ⟨_, rfl, _, _, _, _, rfl, rfl, SqL.of hp1, atI_nat (j := 1) rfl, pp, _, rfl, .inl ⟨SqL.of hpp1, fun E hE => ?_⟩⟩
      have s2 := same_new (o := .tup (r.pars.map V.str)) hE
      have hp2 := s2 _ _ hp1
      refine ⟨_, rfl, _, _, _, _, rfl, rfl, SqL.of hp2, atI_nat (j := 2) rfl, _, rfl, _, _, _, _, rfl, rfl, SqL.of hp2, atI_nat (j := 3) rfl, _, rfl, _, _, _, _, rfl, rfl, SqL.of hp2, atI_nat (j := 4) rfl, by show 5 ≤ sizeLine; decide, fun u hu => ?_⟩
      have s3 := s2.trans (same_new (o := .tup [.str r.mark, .ref E, .int r.least, .int r.most, .bl r.sh]) hu)
      have nuD : u ≠ D := (ne_of_none (s2 _ _ h1) hu).symm
      have nED : E ≠ D := (ne_of_none h1 hE).symm
      have lw : ws.length = i := by rw [pair_len' rw1, List.length_take]; omega
      have huE : E ≠ u := ne_of_none upd_same hu
      refine ⟨_, s3 _ _ h1, by omega, ws ++ [.ref u], same_mut (s1.trans s3) hD, upd_same, ?_⟩
      rw [List.take_succ, hr]
      refine pair_app' (rowsN_le rw1 fun x o f e => by rw [upd_ne f.2]; exact s3 _ _ e) (.cons ⟨u, E, rfl, ⟨(s1.trans s2).free hu, nuD⟩, ⟨s1.free hE, nED⟩, by rw [upd_ne nuD]; exact upd_same, by rw [upd_ne nED, upd_ne huE]; exact upd_same⟩ .nil)
    rintro H1 ⟨ws, s1, h1, rw1⟩
    rw [lu, List.take_length] at rw1
    have lw := pair_len' rw1
    have sm : ∀ r ∈ rs, small r := fun r hr => by have := g.bnd r hr; exact ⟨by omega, by omega⟩
    have fin : ∀ x H', Same H1 H' → H1 x = none → ShN (fun a => H1 a = none) T.c_Shape H' x rs → Q (.ref x) H' := fun x H' s n S => q x H' (s1.trans s) (s1.free n) (S.sub fun a f => s1.free f)
    have lw1 : 1 ≤ ws.length := by omega
    have lw3 : ws.length ≤ 3 := by omega
    clear lu l1 l3 lw
    rcases ws with _ | ⟨v0, ws⟩
    · simp at lw1
    rcases ws with _ | ⟨v1, ws⟩
    · refine ⟨_, rfl, D, _, rfl, .inl (SqL.of h1), rfl, _, rfl, iteYes (decide_eq_true rfl) ?_⟩
      exact ⟨_, rfl, _, _, _, _, rfl, rfl, SqL.of h1, atI_nat (j := 0) rfl, make_sh (rowsN_toV rw1) (by simp) sm (fun _ => fin) (fun e c v f du => (due_good g.g du).elim)⟩
    rcases ws with _ | ⟨v2, ws⟩
    · refine ⟨_, rfl, D, _, rfl, .inl (SqL.of h1), rfl, _, rfl, iteNo (decide_eq_false fun z => by simp at z) ⟨_, rfl, D, _, rfl, .inl (SqL.of h1), rfl, _, rfl, iteYes (decide_eq_true rfl) ?_⟩⟩
      exact ⟨_, rfl, _, _, _, _, rfl, rfl, SqL.of h1, atI_nat (j := 0) rfl, _, rfl, _, _, _, _, rfl, rfl, SqL.of h1, atI_nat (j := 1) rfl, make_sh (rowsN_toV rw1) (by simp) sm (fun _ => fin) (fun e c v f du => (due_good g.g du).elim)⟩
    obtain rfl : ws = [] := by cases ws with | nil => rfl | cons => simp at lw3
    refine ⟨_, rfl, D, _, rfl, .inl (SqL.of h1), rfl, _, rfl, iteNo (decide_eq_false fun z => by simp at z) ⟨_, rfl, D, _, rfl, .inl (SqL.of h1), rfl, _, rfl, iteNo (decide_eq_false fun z => by simp at z) ?_⟩⟩
    exact ⟨_, rfl, _, _, _, _, rfl, rfl, SqL.of h1, atI_nat (j := 0) rfl, _, rfl, _, _, _, _, rfl, rfl, SqL.of h1, atI_nat (j := 1) rfl, _, rfl, _, _, _, _, rfl, rfl, SqL.of h1, atI_nat (j := 2) rfl, make_sh (rowsN_toV rw1) (by simp) sm (fun _ => fin) (fun e c v f du => (due_good g.g du).elim)⟩
end
end My

namespace My
open PySem L2
/-! ### the levels -/
def lev : List Str := ["none", "one", "most", "all"]
def levV : List V := [.str "none", .str "one", .str "most", .str "all"]
theorem levV_eq : levV = lev.map V.str := rfl
theorem lev_nd : lev.Nodup := by decide +kernel
theorem lev_inj {i j : Nat} {z : Str} (h : lev[i]? = some z) (h' : lev[j]? = some z) : i = j := nd_ix lev_nd h h'
theorem lev_lt {i : Nat} {z : Str} (h : lev[i]? = some z) : i < 4 := (List.getElem?_eq_some_iff.mp h).1
/-- what level i asks of n parents -/
def need (i : Nat) (n : Int) : Int := if i = 0 then 0 else if i = 1 then 1 else if i = 2 then n / 2 + 1 else if n > 1 then n else 1
/-- the place of a word, or -1 -/
def placeOf (z : Str) : Int := if z = "none" then 0 else if z = "one" then 1 else if z = "most" then 2 else if z = "all" then 3 else -1
theorem place_lev {i : Nat} {z : Str} (h : lev[i]? = some z) : placeOf z = i := by
  have hi := lev_lt h
  rcases (by omega : i = 0 ∨ i = 1 ∨ i = 2 ∨ i = 3) with rfl | rfl | rfl | rfl
  all_goals (obtain rfl : _ = z := Option.some.inj h; decide +kernel)
theorem lev_at {i : Nat} (h : i < 4) : ∃ z, lev[i]? = some z := ⟨lev[i]'h, List.getElem?_eq_getElem h⟩
def permB (a b c : Nat) (e : Bool) (h o s n : Int) (l : Bool) : Bool := !(e && l) && (decide (need a n ≤ h) && (decide (need b n ≤ o) && decide (need c n ≤ s)))
end My

namespace My
open PySem L2
/-- rank of a level -/
def spRank : Sp := fun vs H Q _ => ∃ (z : Str) (i : Nat), vs = [.str z] ∧ lev[i]? = some z ∧ ∀ H', Same H H' → Q (.int i) H'
section
variable {P : Program} {w : World} {K : PySem.W.Frag} {mg : Str → Option Value} {base : Heap}
theorem ok_rank (T : Txt K mg) : FnOk P w K mg base CX0 1 T.a_rank T.fd_rank ["level"] spRank := by
  refine T.F_rank.ok sc_rank (fun vs H Q E h => ?_) (fun cdv A outer s H vs Q E hr h => ?_)
  · obtain ⟨z, i, rfl, _⟩ := h; rfl
  · obtain ⟨z, i, rfl, hi, q⟩ := h
    refine ⟨_, (pss_cons (ps_for PassesOwn.never rfl (pi_enumT (by rfl) T.n_enumerate (pa_cons (pe_glob (v := .ref T.k_LEVELS) (by rfl) T.g_LEVELS rfl) pa_nil)) (pg_tup rfl (pgs_cons (pg_name (i := 1) sc_rank.nd rfl (.inl rfl)) (pgs_cons (pg_name (i := 2) sc_rank.nd rfl (.inl rfl)) pgs_nil))) (pss_one (ps_if (pt_cmpR op_eq (pv 2) (pv 0) (nomark _)) (pss_one (ps_ret (pv 1))) pss_nil)))
      (pss_one (ps_never))), ?_⟩
    refine ⟨T.k_LEVELS, levV, rfl, T.q_LEVELS _, for_enumT (K := K) (a := T.k_LEVELS) (xs := levV) (fun j σ H' => ∃ x1 x2, σ = [some (.str z), x1, x2] ∧ Same H H' ∧ ∀ l, l < j → l ≠ i) ⟨_, _, rfl, Same.refl H, fun l h => absurd h (Nat.not_lt_zero _)⟩ (fun _ _ H' _ _ => T.q_LEVELS H') ?_ ?_⟩
    · rintro j x σ H1 t hx ⟨x1, x2, rfl, s1, ne⟩ ht
      rw [levV_eq, List.getElem?_map] at hx
      cases e : lev[j]? with
      | none => rw [e] at hx; cases hx
      | some y =>
        rw [e] at hx
        obtain rfl : V.str y = x := Option.some.inj hx
        have s2 : Same H1 (upd H1 t (.tup [.int j, .str y])) := same_new ht
        refine ⟨t, _, rfl, .inl (.inl upd_same), rfl, _, _, rfl, _, _, rfl, rfl, ?_⟩
        refine ⟨_, rfl, _, rfl, rfl, _, rfl, ?_⟩
        refine iteD (fun c => ?_) (fun c => ?_)
        · have ey : y = z := V.str.inj c
          subst ey
          obtain rfl := lev_inj e hi
          exact ⟨_, rfl, q _ (s1.trans s2)⟩
        · refine ⟨_, _, rfl, s1.trans s2, fun l hl => ?_⟩
          rcases Nat.lt_succ_iff_lt_or_eq.mp hl with h | h
          · exact ne l h
          · subst h
            exact fun h => c (by rw [← h, e] at hi; rw [Option.some.inj hi])
    · rintro σ H1 ⟨x1, x2, rfl, s1, ne⟩
      exact ne i (lev_lt hi) rfl
end
end My

namespace My
open PySem L2
def spNeeded : Sp := fun vs H Q _ => ∃ (z : Str) (i : Nat) (n : Int), vs = [.str z, .int n] ∧ lev[i]? = some z ∧ ∀ H', Same H H' → Q (.int (need i n)) H'
section
variable {P : Program} {w : World} {K : PySem.W.Frag} {mg : Str → Option Value} {base : Heap}
theorem ok_needed (T : Txt K mg) : FnOk P w K mg base CX0 2 T.a_needed T.fd_needed ["level", "parents"] spNeeded := by
  refine T.F_needed.ok sc_needed (fun vs H Q E h => ?_) (fun cdv A outer s H vs Q E hr h => ?_)
  · obtain ⟨z, i, n, rfl, _⟩ := h; rfl
  · obtain ⟨z, i, n, rfl, hi, q⟩ := h
    refine ⟨_, (pss_cons (ps_set (i := 2) sc_needed.nd rfl (.inl rfl) (pe_call (ok_rank T) (hr.mono (by omega)) (by rfl) T.g_rank T.F_rank.kp T.b_rank .nil pass0 (pa_cons (pv 0) pa_nil)))
      (pss_cons (ps_if (pt_cmpR op_eq (pv 2) (pe_int) (nomark _)) (pss_one (ps_ret (pe_int))) pss_nil)
      (pss_cons (ps_if (pt_cmpR op_eq (pv 2) (pe_int) (nomark _)) (pss_one (ps_ret (pe_int))) pss_nil)
      (pss_cons (ps_if (pt_cmpR op_eq (pv 2) (pe_int) (nomark _)) (pss_one (ps_ret (pe_op op_add (pe_op op_fdiv (pv 1) (pe_int)) (pe_int)))) pss_nil)
      (pss_one (ps_ret (pe_callB (call_max2 rfl) (by rfl) T.n_max (by decide +kernel) (pa_cons (pe_int) (pa_cons (pv 1) pa_nil))))))))), ?_⟩
    refine ⟨_, rfl, z, i, rfl, hi, fun H1 s1 => ?_⟩
    have q1 := q H1 s1
    unfold need at q1
    walk_at "rd"
    refine iteD (fun c => ?_) (fun c => ?_)
    · rw [if_pos (by have := V.int.inj c; omega)] at q1; exact q1
    rw [if_neg (by intro h; exact c (by rw [h]; rfl))] at q1
    walk_at "rd"
    refine iteD (fun c => ?_) (fun c => ?_)
    · rw [if_pos (by have := V.int.inj c; omega)] at q1; exact q1
    rw [if_neg (by intro h; exact c (by rw [h]; rfl))] at q1
    walk_at "rd"
    refine iteD (fun c => ?_) (fun c => ?_)
    · rw [if_pos (by have := V.int.inj c; omega)] at q1
      walk_at "rd"
      exact q1
    rw [if_neg (by intro h; exact c (by rw [h]; rfl))] at q1
    exact ⟨_, rfl, _, _, rfl, q1⟩
end
end My

namespace My
open PySem L2
/-! ### ways -/
def levn (i : Nat) : Str := lev.getD i ""
theorem levn_get {i : Nat} (h : i < 4) : lev[i]? = some (levn i) := by
  unfold levn
  rw [List.getD_eq_getElem?_getD, List.getElem?_eq_getElem (by exact h)]
  rfl
theorem levV_at {i : Nat} (h : i < 4) : levV[i]? = some (.str (levn i)) := by rw [levV_eq, List.getElem?_map, levn_get h]; rfl
theorem levn_inj {i j : Nat} (hi : i < 4) (hj : j < 4) (h : levn i = levn j) : i = j := lev_inj (levn_get hi) (h ▸ levn_get hj)
def wayF (a b c : Nat) (e : Bool) : List (Str × V) := [("held", .str (levn a)), ("owned", .str (levn b)), ("seen", .str (levn c)), ("early", .bl e)]
theorem putF_len (f : Str) (v : V) : ∀ fs : List (Str × V), (putF f v fs).length ≤ fs.length + 1
  | [] => Nat.le_refl _
  | (g, x) :: r => by
    simp only [putF]
    split
    · exact Nat.le_succ _
    · rw [List.length_cons, List.length_cons]
      exact Nat.succ_le_succ (putF_len f v r)
theorem wayF_put (a b c : Nat) (e : Bool) : putF "early" (.bl e) (putF "seen" (.str (levn c)) (putF "owned" (.str (levn b)) (putF "held" (.str (levn a)) []))) = wayF a b c e := by
  simp only [putF]
  rw [if_neg (by decide +kernel : ¬ ("held" : Str) = "owned")]
  simp only [putF]
  rw [if_neg (by decide +kernel : ¬ ("held" : Str) = "seen"), if_neg (by decide +kernel : ¬ ("owned" : Str) = "seen")]
  simp only [putF]
  rw [if_neg (by decide +kernel : ¬ ("held" : Str) = "early"), if_neg (by decide +kernel : ¬ ("owned" : Str) = "early"), if_neg (by decide +kernel : ¬ ("seen" : Str) = "early")]
  rfl
theorem wayF_held (a b c : Nat) (e : Bool) : (wayF a b c e).lookup ("held" : Str) = some (.str (levn a)) := by rw [← wayF_put, lookup_putF, if_neg (by decide +kernel), lookup_putF, if_neg (by decide +kernel), lookup_putF, if_neg (by decide +kernel), lookup_putF, if_pos rfl]
theorem wayF_owned (a b c : Nat) (e : Bool) : (wayF a b c e).lookup ("owned" : Str) = some (.str (levn b)) := by rw [← wayF_put, lookup_putF, if_neg (by decide +kernel), lookup_putF, if_neg (by decide +kernel), lookup_putF, if_pos rfl]
theorem wayF_seen (a b c : Nat) (e : Bool) : (wayF a b c e).lookup ("seen" : Str) = some (.str (levn c)) := by rw [← wayF_put, lookup_putF, if_neg (by decide +kernel), lookup_putF, if_pos rfl]
theorem wayF_early (a b c : Nat) (e : Bool) : (wayF a b c e).lookup ("early" : Str) = some (.bl e) := by rw [← wayF_put, lookup_putF, if_pos rfl]
theorem wayF_no (a b c : Nat) (e : Bool) {m : Str} (h1 : ¬ m = "early") (h2 : ¬ m = "seen") (h3 : ¬ m = "owned") (h4 : ¬ m = "held") : (wayF a b c e).lookup m = none := by
  rw [← wayF_put, lookup_putF, if_neg h1, lookup_putF, if_neg h2, lookup_putF, if_neg h3, lookup_putF, if_neg h4]; rfl
/-- a way of the class at C stands at x -/
def Wy (C : Addr) (H : Hp) (x : Addr) (a b c : Nat) (e : Bool) : Prop := ∃ dx, H x = some (.ins C dx (wayF a b c e))
theorem Wy.same {C : Addr} {H H' : Hp} {x : Addr} {a b c : Nat} {e : Bool} (h : Wy C H x a b c e) (s : Same H H') : Wy C H' x a b c e := h.elim fun dx h => ⟨dx, s _ _ h⟩
theorem Wy.but {C : Addr} {H H' : Hp} {x y : Addr} {a b c : Nat} {e : Bool} (h : Wy C H x a b c e) (s : But y H H') (n : x ≠ y) : Wy C H' x a b c e := h.elim fun dx h => ⟨dx, s _ _ n h⟩
def spWayInit (C : Addr) : Sp := fun vs H Q _ => ∃ (x dx : Addr) (a b c : Nat) (e : Bool), vs = [.ref x, .str (levn a), .str (levn b), .str (levn c), .bl e] ∧ a < 4 ∧ b < 4 ∧ c < 4 ∧ H x = some (.ins C dx []) ∧
  ∀ H', But x H H' → H' x = some (.ins C dx (wayF (max a b) b (max c (max a b)) e)) → Q .non H'
section
variable {P : Program} {w : World} {K : PySem.W.Frag} {mg : Str → Option Value} {base : Heap}
theorem ok_Way_init (T : Txt K mg) : FnOk P w K mg base CX0 2 T.a_Way_init T.fd_Way_init ["self", "held", "owned", "seen", "early"] (spWayInit T.c_Way) := by
  refine T.F_Way_init.ok0 sc_Way_init (fun vs H Q E h => ?_) (fun cdv A outer s H vs Q E hr h => ?_)
  · obtain ⟨x, dx, a, b, c, e, rfl, _⟩ := h; rfl
  · obtain ⟨x, dx, a, b, c, e, rfl, ha, hb, hc, hx, q⟩ := h
    refine ⟨_, (pss_cons (ps_set (i := 5) sc_Way_init.nd rfl (.inl rfl) (pe_call (ok_rank T) (hr.mono (by omega)) (by rfl) T.g_rank T.F_rank.kp T.b_rank .nil pass0 (pa_cons (pv 1) pa_nil)))
      (pss_cons (ps_set (i := 6) sc_Way_init.nd rfl (.inl rfl) (pe_call (ok_rank T) (hr.mono (by omega)) (by rfl) T.g_rank T.F_rank.kp T.b_rank .nil pass0 (pa_cons (pv 2) pa_nil)))
      (pss_cons (ps_set (i := 7) sc_Way_init.nd rfl (.inl rfl) (pe_call (ok_rank T) (hr.mono (by omega)) (by rfl) T.g_rank T.F_rank.kp T.b_rank .nil pass0 (pa_cons (pv 3) pa_nil)))
      (C8.pss_cut (ps_if (pt_cmpR op_lt (pv 5) (pv 6) (nomark _)) (pss_one (ps_set (i := 5) sc_Way_init.nd rfl (.inl rfl) (pv 6))) pss_nil)
      (C8.pss_cut (ps_if (pt_cmpR op_lt (pv 7) (pv 5) (nomark _)) (pss_one (ps_set (i := 7) sc_Way_init.nd rfl (.inl rfl) (pv 5))) pss_nil)
      (pss_cons (ps_fld (pv 0) (pe_ix ix_tup (pe_glob (v := .ref T.k_LEVELS) (by rfl) T.g_LEVELS rfl) (pv 5) (fun _ _ => rfl)) rfl)
      (pss_cons (ps_fld (pv 0) (pe_ix ix_tup (pe_glob (v := .ref T.k_LEVELS) (by rfl) T.g_LEVELS rfl) (pv 6) (fun _ _ => rfl)) rfl)
      (pss_cons (ps_fld (pv 0) (pe_ix ix_tup (pe_glob (v := .ref T.k_LEVELS) (by rfl) T.g_LEVELS rfl) (pv 7) (fun _ _ => rfl)) rfl)
      (pss_one (ps_fld (pv 0) (pv 4) rfl)))))))))), ?_⟩
    refine ⟨_, rfl, _, a, rfl, levn_get ha, fun H1 s1 => ?_⟩
    refine ⟨_, rfl, _, b, rfl, levn_get hb, fun H2 s2 => ?_⟩
    refine ⟨_, rfl, _, c, rfl, levn_get hc, fun H3 s3 => ?_⟩
    have sx : Same H H3 := (s1.trans s2).trans s3
    have hx3 := sx _ _ hx
    -- by_held
    refine ⟨fun σ' H' => H' = H3 ∧ σ' = [some (.ref x), some (.str (levn a)), some (.str (levn b)), some (.str (levn c)), some (.bl e), some (.int (max a b : Nat)), some (.int b), some (.int c)], ?_, ?_⟩
    · walk_at "rd"
      refine iteD (fun k => ?_) (fun k => ?_)
      · exact ⟨_, rfl, rfl, by rw [Nat.max_eq_right (by omega)]; try rfl⟩
      · exact ⟨rfl, by rw [Nat.max_eq_left (by omega)]; try rfl⟩
    rintro σ' H' ⟨rfl, rfl⟩
    refine ⟨fun σ' H'' => H'' = H' ∧ σ' = [some (.ref x), some (.str (levn a)), some (.str (levn b)), some (.str (levn c)), some (.bl e), some (.int (max a b : Nat)), some (.int b), some (.int (max c (max a b) : Nat))], ?_, ?_⟩
    · walk_at "rd"
      refine iteD (fun k => ?_) (fun k => ?_)
      · exact ⟨_, rfl, rfl, by rw [Nat.max_eq_right (by omega : c ≤ max a b)]; try rfl⟩
      · exact ⟨rfl, by rw [Nat.max_eq_left (by omega : max a b ≤ c)]; try rfl⟩
    rintro σ' H'' ⟨rfl, rfl⟩
    refine ⟨_, rfl, _, _, _, _, rfl, rfl, T.q_LEVELS _, at_of (j := max a b) rfl (levV_at (by omega)), _, rfl, x, T.c_Way, dx, _, rfl, hx3, T.cl_Way, T.no_Way_held, by show 0 < 1000; decide, ?_⟩
    refine ⟨_, rfl, _, _, _, _, rfl, rfl, T.q_LEVELS _, at_of (j := b) rfl (levV_at hb), _, rfl, x, T.c_Way, dx, _, rfl, upd_same, T.cl_Way, T.no_Way_owned, by show 1 < 1000; decide, ?_⟩
    refine ⟨_, rfl, _, _, _, _, rfl, rfl, T.q_LEVELS _, at_of (j := max c (max a b)) rfl (levV_at (by omega)), _, rfl, x, T.c_Way, dx, _, rfl, upd_same, T.cl_Way, T.no_Way_seen, ?_, ?_⟩
    · exact Nat.lt_of_le_of_lt (putF_len _ _ _) (by show 2 < 1000; decide)
    refine ⟨_, rfl, _, rfl, x, T.c_Way, dx, _, rfl, upd_same, T.cl_Way, T.no_Way_early, ?_, ?_⟩
    · exact Nat.lt_of_le_of_lt (putF_len _ _ _) (Nat.lt_of_le_of_lt (Nat.succ_le_succ (putF_len _ _ _)) (by show 3 < 1000; decide))
    rw [upd_upd, upd_upd, upd_upd, wayF_put]
    exact q _ (fun y o n h => by rw [upd_ne n]; exact sx _ _ h) upd_same
end
end My

namespace My
open PySem L2
def spNeeds (C : Addr) : Sp := fun vs H Q _ => ∃ (x : Addr) (a b c : Nat) (e : Bool) (n : Int), vs = [.ref x, .int n] ∧ a < 4 ∧ b < 4 ∧ c < 4 ∧ Wy C H x a b c e ∧
  ∀ (p : Addr) H', Same H H' → H p = none → H' p = some (.tup [.int (need a n), .int (need b n), .int (need c n)]) → Q (.ref p) H'
section
variable {P : Program} {w : World} {K : PySem.W.Frag} {mg : Str → Option Value} {base : Heap}
theorem ok_Way_needs (T : Txt K mg) : FnOk P w K mg base CX0 3 T.a_Way_needs T.fd_Way_needs ["self", "parents"] (spNeeds T.c_Way) := by
  refine T.F_Way_needs.ok sc_Way_needs (fun vs H Q E h => ?_) (fun cdv A outer s H vs Q E hr h => ?_)
  · obtain ⟨x, a, b, c, e, n, rfl, _⟩ := h; rfl
  · obtain ⟨x, a, b, c, e, n, rfl, ha, hb, hc, ⟨dx, hx⟩, q⟩ := h
    refine ⟨_, (pss_one (ps_ret (pe_tup (pa_cons (pe_call (ok_needed T) (hr.mono (by omega)) (by rfl) T.g_needed T.F_needed.kp T.b_needed .nil pass0 (pa_cons (pe_fld (pv 0) rfl) (pa_cons (pv 1) pa_nil))) (pa_cons (pe_call (ok_needed T) (hr.mono (by omega)) (by rfl) T.g_needed T.F_needed.kp T.b_needed .nil pass0 (pa_cons (pe_fld (pv 0) rfl) (pa_cons (pv 1) pa_nil))) (pa_cons (pe_call (ok_needed T) (hr.mono (by omega)) (by rfl) T.g_needed T.F_needed.kp T.b_needed .nil pass0 (pa_cons (pe_fld (pv 0) rfl) (pa_cons (pv 1) pa_nil))) pa_nil)))))), ?_⟩
    refine ⟨_, rfl, x, T.c_Way, dx, _, _, rfl, hx, T.cl_Way, T.no_Way_held, wayF_held _ _ _ _, _, rfl, _, a, n, rfl, levn_get ha, fun H1 s1 => ?_⟩
    refine ⟨_, rfl, x, T.c_Way, dx, _, _, rfl, s1 _ _ hx, T.cl_Way, T.no_Way_owned, wayF_owned _ _ _ _, _, rfl, _, b, n, rfl, levn_get hb, fun H2 s2 => ?_⟩
    refine ⟨_, rfl, x, T.c_Way, dx, _, _, rfl, s2 _ _ (s1 _ _ hx), T.cl_Way, T.no_Way_seen, wayF_seen _ _ _ _, _, rfl, _, c, n, rfl, levn_get hc, fun H3 s3 => ?_⟩
    refine ⟨by show 3 ≤ sizeLine; decide, fun p hp => ?_⟩
    have s4 := (s1.trans s2).trans s3
    exact q p _ (s4.trans (same_new hp)) (s4.free hp) upd_same
end
end My

namespace My
open PySem L2
def spPermits (C : Addr) : Sp := fun vs H Q _ => ∃ (x : Addr) (a b c : Nat) (e : Bool) (h o s n : Int) (l : Bool), vs = [.ref x, .int h, .int o, .int s, .int n, .bl l] ∧ a < 4 ∧ b < 4 ∧ c < 4 ∧ Wy C H x a b c e ∧
  ∀ H', Same H H' → Q (.bl (permB a b c e h o s n l)) H'
section
variable {P : Program} {w : World} {K : PySem.W.Frag} {mg : Str → Option Value} {base : Heap}
theorem ok_Way_permits (T : Txt K mg) : FnOk P w K mg base CX0 4 T.a_Way_permits T.fd_Way_permits ["self", "held", "owned", "seen", "parents", "loose"] (spPermits T.c_Way) := by
  refine T.F_Way_permits.ok0 sc_Way_permits (fun vs H Q E h => ?_) (fun cdv A outer s H vs Q E hr h => ?_)
  · obtain ⟨x, a, b, c, e, h, o, s, n, l, rfl, _⟩ := h; rfl
  · obtain ⟨x, a, b, c, e, h, o, s, n, l, rfl, ha, hb, hc, hW, q⟩ := h
    obtain ⟨dx, hx⟩ := id hW
    refine ⟨_, (C8.pss_cut (ps_if (PW.pt (pw_and (pt_val (pe_fld (pv 0) rfl)) (pw_and1 (pt_val (pv 5))))) (pss_one (ps_ret (pe_bl))) pss_nil)
      (pss_cons (ps_asg (pe_meth (pv 0) T.cl_Way T.m_Way_needs (ok_Way_needs T) (hr.mono (by omega)) T.b_Way_needs .nil pass0 (pa_cons (pv 4) pa_nil)) (pg_tup rfl (pgs_cons (pg_name (i := 6) sc_Way_permits.nd rfl (.inl rfl)) (pgs_cons (pg_name (i := 7) sc_Way_permits.nd rfl (.inl rfl)) (pgs_cons (pg_name (i := 8) sc_Way_permits.nd rfl (.inl rfl)) pgs_nil)))))
      (pss_one (ps_ret (pe_and (pe_cmpR op_ge (pv 1) (pv 6) (nomark _)) (pe_and (pe_cmpR op_ge (pv 2) (pv 7) (nomark _)) (pe_one (pe_cmpR op_ge (pv 3) (pv 8) (nomark _))))))))), ?_⟩
    refine ⟨fun σ' H' => H' = H ∧ σ' = start ["self", "held", "owned", "seen", "parents", "loose", "by_held", "by_owned", "by_seen"] [.ref x, .int h, .int o, .int s, .int n, .bl l] ∧ (e && l) = false, ?_, ?_⟩
    · refine ⟨_, rfl, x, T.c_Way, dx, _, _, rfl, hx, T.cl_Way, T.no_Way_early, wayF_early _ _ _ _, _, rfl, ?_⟩
      cases e with
      | false => exact ⟨rfl, rfl, rfl⟩
      | true =>
        refine ⟨_, rfl, _, rfl, ?_⟩
        cases l with
        | false => exact ⟨rfl, rfl, rfl⟩
        | true => exact q H (Same.refl H)
    rintro σ' H' ⟨rfl, rfl, hel⟩
    refine ⟨_, rfl, x, dx, _, rfl, hx, wayF_no _ _ _ _ (by decide +kernel) (by decide +kernel) (by decide +kernel) (by decide +kernel), _, rfl, x, a, b, c, e, n, rfl, ha, hb, hc, hW, fun p H1 s1 np hp => ?_⟩
    refine ⟨p, _, rfl, .inl (.inl hp), rfl, _, _, rfl, _, _, rfl, _, _, rfl, rfl, ?_⟩
    have q1 := q H1 s1
    unfold permB at q1
    rw [hel] at q1
    refine ⟨_, rfl, _, rfl, _, _, rfl, rfl, _, rfl, iteD (fun c1 => ?_) (fun c1 => ?_)⟩
    · rw [decide_eq_true c1] at q1
      refine ⟨_, rfl, _, rfl, _, _, rfl, rfl, _, rfl, iteD (fun c2 => ?_) (fun c2 => ?_)⟩
      · rw [decide_eq_true c2] at q1
        exact ⟨_, rfl, _, rfl, _, _, rfl, rfl, q1⟩
      · rw [decide_eq_false c2] at q1
        exact q1
    · rw [decide_eq_false c1] at q1
      exact q1
end
end My

namespace My
open PySem L2
def leB (a b c : Nat) (e : Bool) (a' b' c' : Nat) (e' : Bool) : Bool := !(e' && !e) && (decide (a' ≤ a) && (decide (b' ≤ b) && decide (c' ≤ c)))
def eqB (a b c : Nat) (e : Bool) (a' b' c' : Nat) (e' : Bool) : Bool := decide (a = a') && (decide (b = b') && (decide (c = c') && decide (e = e')))
/-- two ways compared by f -/
def spTwo (C : Addr) (f : Nat → Nat → Nat → Bool → Nat → Nat → Nat → Bool → Bool) : Sp := fun vs H Q _ => ∃ (x y : Addr) (a b c : Nat) (e : Bool) (a' b' c' : Nat) (e' : Bool), vs = [.ref x, .ref y] ∧ Wy C H x a b c e ∧ Wy C H y a' b' c' e' ∧
  a < 4 ∧ b < 4 ∧ c < 4 ∧ a' < 4 ∧ b' < 4 ∧ c' < 4 ∧ ∀ H', Same H H' → Q (.bl (f a b c e a' b' c' e')) H'
def spHigher : Sp := fun vs H Q _ => ∃ (a b : Nat), vs = [.str (levn a), .str (levn b)] ∧ a < 4 ∧ b < 4 ∧ ∀ H', Same H H' → Q (.str (levn (max a b))) H'
def spAnd (C : Addr) : Sp := fun vs H Q _ => ∃ (x y : Addr) (a b c : Nat) (e : Bool) (a' b' c' : Nat) (e' : Bool), vs = [.ref x, .ref y] ∧ Wy C H x a b c e ∧ Wy C H y a' b' c' e' ∧
  a < 4 ∧ b < 4 ∧ c < 4 ∧ a' < 4 ∧ b' < 4 ∧ c' < 4 ∧ ∀ z H', Same H H' → H z = none → Wy C H' z (max (max a a') (max b b')) (max b b') (max (max c c') (max (max a a') (max b b'))) (e || e') → Q (.ref z) H'
theorem dec_str {a b : Nat} (ha : a < 4) (hb : b < 4) : decide (V.str (levn a) = V.str (levn b)) = decide (a = b) := by
  by_cases h : a = b
  · rw [decide_eq_true h, decide_eq_true (by rw [h])]
  · rw [decide_eq_false h, decide_eq_false (fun z => h (levn_inj ha hb (V.str.inj z)))]
theorem dec_bl {a b : Bool} : decide (V.bl a = V.bl b) = decide (a = b) := by cases a <;> cases b <;> rfl
section
variable {P : Program} {w : World} {K : PySem.W.Frag} {mg : Str → Option Value} {base : Heap}
theorem ok_Way_eq (T : Txt K mg) : FnOk P w K mg base CX0 1 T.a_Way_eq T.fd_Way_eq ["self", "other"] (spTwo T.c_Way eqB) := by
  refine T.F_Way_eq.ok sc_Way_eq (fun vs H Q E h => ?_) (fun cdv A outer s H vs Q E hr h => ?_)
  · obtain ⟨x, y, a, b, c, e, a', b', c', e', rfl, _⟩ := h; rfl
  · obtain ⟨x, y, a, b, c, e, a', b', c', e', rfl, ⟨dx, hx⟩, ⟨dy, hy⟩, ha, hb, hc, ha', hb', hc', q⟩ := h
    have q1 := q H (Same.refl H)
    unfold eqB at q1
    refine ⟨_, (pss_one (ps_ret (pe_and (pe_callB call_isi (by rfl) T.n_isinstance (by decide +kernel) (pa_cons (pv 1) (pa_cons (pe_glob (v := .ref T.c_Way) (by rfl) T.g_Way rfl) pa_nil))) (pe_and (pe_cmpR op_eq (pe_fld (pv 0) rfl) (pe_fld (pv 1) rfl) (nomark _)) (pe_and (pe_cmpR op_eq (pe_fld (pv 0) rfl) (pe_fld (pv 1) rfl) (nomark _)) (pe_and (pe_cmpR op_eq (pe_fld (pv 0) rfl) (pe_fld (pv 1) rfl) (nomark _)) (pe_one (pe_cmpR op_eq (pe_fld (pv 0) rfl) (pe_fld (pv 1) rfl) (nomark _))))))))), ?_⟩
    refine ⟨_, rfl, _, _, _, _, true, rfl, ClsV.own _, .base (T.ti_Way _ _ _ _ hy), T.kk_Way, _, rfl, iteT ?_⟩
    refine ⟨_, rfl, x, _, dx, _, _, rfl, hx, T.cl_Way, T.no_Way_held, wayF_held _ _ _ _, _, rfl, y, _, dy, _, _, rfl, hy, T.cl_Way, T.no_Way_held, wayF_held _ _ _ _, rfl, _, rfl, ?_⟩
    rw [dec_str ha ha']
    refine iteD (fun k1 => ?_) (fun k1 => ?_)
    · rw [decide_eq_true k1] at q1
      refine ⟨_, rfl, x, _, dx, _, _, rfl, hx, T.cl_Way, T.no_Way_owned, wayF_owned _ _ _ _, _, rfl, y, _, dy, _, _, rfl, hy, T.cl_Way, T.no_Way_owned, wayF_owned _ _ _ _, rfl, _, rfl, ?_⟩
      rw [dec_str hb hb']
      refine iteD (fun k2 => ?_) (fun k2 => ?_)
      · rw [decide_eq_true k2] at q1
        refine ⟨_, rfl, x, _, dx, _, _, rfl, hx, T.cl_Way, T.no_Way_seen, wayF_seen _ _ _ _, _, rfl, y, _, dy, _, _, rfl, hy, T.cl_Way, T.no_Way_seen, wayF_seen _ _ _ _, rfl, _, rfl, ?_⟩
        rw [dec_str hc hc']
        refine iteD (fun k3 => ?_) (fun k3 => ?_)
        · rw [decide_eq_true k3] at q1
          refine ⟨_, rfl, x, _, dx, _, _, rfl, hx, T.cl_Way, T.no_Way_early, wayF_early _ _ _ _, _, rfl, y, _, dy, _, _, rfl, hy, T.cl_Way, T.no_Way_early, wayF_early _ _ _ _, rfl, ?_⟩
          rw [dec_bl]
          exact q1
        · rw [decide_eq_false k3] at q1; exact q1
      · rw [decide_eq_false k2] at q1; exact q1
    · rw [decide_eq_false k1] at q1; exact q1
theorem ok_Way_le (T : Txt K mg) : FnOk P w K mg base CX0 2 T.a_Way_le T.fd_Way_le ["self", "other"] (spTwo T.c_Way leB) := by
  refine T.F_Way_le.ok sc_Way_le (fun vs H Q E h => ?_) (fun cdv A outer s H vs Q E hr h => ?_)
  · obtain ⟨x, y, a, b, c, e, a', b', c', e', rfl, _⟩ := h; rfl
  · obtain ⟨x, y, a, b, c, e, a', b', c', e', rfl, ⟨dx, hx⟩, ⟨dy, hy⟩, ha, hb, hc, ha', hb', hc', q⟩ := h
    refine ⟨_, (pss_cons (ps_if (pt_not (pt_val (pe_callB call_isi (by rfl) T.n_isinstance (by decide +kernel) (pa_cons (pv 1) (pa_cons (pe_glob (v := .ref T.c_Way) (by rfl) T.g_Way rfl) pa_nil))))) (pss_one ps_never) pss_nil)
      (C8.pss_cut (ps_if (PW.pt (pw_and (pt_val (pe_fld (pv 1) rfl)) (pw_and1 (pt_not (pt_val (pe_fld (pv 0) rfl)))))) (pss_one (ps_ret (pe_bl))) pss_nil)
      (pss_one (ps_ret (pe_and (pe_cmpR op_ge (pe_call (ok_rank T) (hr.mono (by omega)) (by rfl) T.g_rank T.F_rank.kp T.b_rank .nil pass0 (pa_cons (pe_fld (pv 0) rfl) pa_nil)) (pe_call (ok_rank T) (hr.mono (by omega)) (by rfl) T.g_rank T.F_rank.kp T.b_rank .nil pass0 (pa_cons (pe_fld (pv 1) rfl) pa_nil)) (nomark _)) (pe_and (pe_cmpR op_ge (pe_call (ok_rank T) (hr.mono (by omega)) (by rfl) T.g_rank T.F_rank.kp T.b_rank .nil pass0 (pa_cons (pe_fld (pv 0) rfl) pa_nil)) (pe_call (ok_rank T) (hr.mono (by omega)) (by rfl) T.g_rank T.F_rank.kp T.b_rank .nil pass0 (pa_cons (pe_fld (pv 1) rfl) pa_nil)) (nomark _)) (pe_one (pe_cmpR op_ge (pe_call (ok_rank T) (hr.mono (by omega)) (by rfl) T.g_rank T.F_rank.kp T.b_rank .nil pass0 (pa_cons (pe_fld (pv 0) rfl) pa_nil)) (pe_call (ok_rank T) (hr.mono (by omega)) (by rfl) T.g_rank T.F_rank.kp T.b_rank .nil pass0 (pa_cons (pe_fld (pv 1) rfl) pa_nil)) (nomark _))))))))), ?_⟩
    refine ⟨_, rfl, _, _, _, _, true, rfl, ClsV.own _, .base (T.ti_Way _ _ _ _ hy), T.kk_Way, _, rfl, iteF ?_⟩
    refine ⟨fun σ' H' => H' = H ∧ σ' = [some (.ref x), some (.ref y)] ∧ (e' && !e) = false, ?_, ?_⟩
    · refine ⟨_, rfl, y, _, dy, _, _, rfl, hy, T.cl_Way, T.no_Way_early, wayF_early _ _ _ _, _, rfl, ?_⟩
      cases e' with
      | false => exact ⟨rfl, rfl, rfl⟩
      | true =>
        refine ⟨_, rfl, x, _, dx, _, _, rfl, hx, T.cl_Way, T.no_Way_early, wayF_early _ _ _ _, _, rfl, ?_⟩
        cases e with
        | true => exact ⟨rfl, rfl, rfl⟩
        | false => exact q H (Same.refl H)
    rintro σ' H' ⟨rfl, rfl, hel⟩
    unfold leB at q
    rw [hel] at q
    refine ⟨_, rfl, x, _, dx, _, _, rfl, hx, T.cl_Way, T.no_Way_held, wayF_held _ _ _ _, _, a, rfl, levn_get ha, fun H1 s1 => ?_⟩
    refine ⟨_, rfl, y, _, dy, _, _, rfl, s1 _ _ hy, T.cl_Way, T.no_Way_held, wayF_held _ _ _ _, _, a', rfl, levn_get ha', fun H2 s2 => ?_⟩
    have t2 := s1.trans s2
    refine ⟨_, _, rfl, rfl, _, rfl, iteD (fun k1 => ?_) (fun k1 => ?_)⟩
    · rw [decide_eq_true (by omega : a' ≤ a)] at q
      refine ⟨_, rfl, x, _, dx, _, _, rfl, t2 _ _ hx, T.cl_Way, T.no_Way_owned, wayF_owned _ _ _ _, _, b, rfl, levn_get hb, fun H3 s3 => ?_⟩
      have t3 := t2.trans s3
      refine ⟨_, rfl, y, _, dy, _, _, rfl, t3 _ _ hy, T.cl_Way, T.no_Way_owned, wayF_owned _ _ _ _, _, b', rfl, levn_get hb', fun H4 s4 => ?_⟩
      have t4 := t3.trans s4
      refine ⟨_, _, rfl, rfl, _, rfl, iteD (fun k2 => ?_) (fun k2 => ?_)⟩
      · rw [decide_eq_true (by omega : b' ≤ b)] at q
        refine ⟨_, rfl, x, _, dx, _, _, rfl, t4 _ _ hx, T.cl_Way, T.no_Way_seen, wayF_seen _ _ _ _, _, c, rfl, levn_get hc, fun H5 s5 => ?_⟩
        have t5 := t4.trans s5
        refine ⟨_, rfl, y, _, dy, _, _, rfl, t5 _ _ hy, T.cl_Way, T.no_Way_seen, wayF_seen _ _ _ _, _, c', rfl, levn_get hc', fun H6 s6 => ?_⟩
        refine ⟨_, _, rfl, rfl, ?_⟩
        have q1 := q H6 (t5.trans s6)
        rw [show decide (c' ≤ c) = decide ((c' : Int) ≤ (c : Int)) from decide_eq_decide.mpr (by omega)] at q1
        exact q1
      · rw [decide_eq_false (by omega : ¬ b' ≤ b)] at q; exact q H4 t4
    · rw [decide_eq_false (by omega : ¬ a' ≤ a)] at q; exact q H2 t2
end
end My

namespace My
open PySem L2
section
variable {P : Program} {w : World} {K : PySem.W.Frag} {mg : Str → Option Value} {base : Heap}
theorem ok_higher (T : Txt K mg) : FnOk P w K mg base CX0 2 T.a_higher T.fd_higher ["level", "other"] spHigher := by
  refine T.F_higher.ok sc_higher (fun vs H Q E h => ?_) (fun cdv A outer s H vs Q E hr h => ?_)
  · obtain ⟨a, b, rfl, _⟩ := h; rfl
  · obtain ⟨a, b, rfl, ha, hb, q⟩ := h
    refine ⟨_, (pss_cons (ps_if (pt_cmpR op_lt (pe_call (ok_rank T) (hr.mono (by omega)) (by rfl) T.g_rank T.F_rank.kp T.b_rank .nil pass0 (pa_cons (pv 0) pa_nil)) (pe_call (ok_rank T) (hr.mono (by omega)) (by rfl) T.g_rank T.F_rank.kp T.b_rank .nil pass0 (pa_cons (pv 1) pa_nil)) (nomark _)) (pss_one (ps_ret (pv 1))) pss_nil)
      (pss_one (ps_ret (pv 0)))), ?_⟩
    refine ⟨_, rfl, _, a, rfl, levn_get ha, fun H1 s1 => ?_⟩
    refine ⟨_, rfl, _, b, rfl, levn_get hb, fun H2 s2 => ?_⟩
    refine ⟨_, _, rfl, rfl, _, rfl, iteD (fun k => ?_) (fun k => ?_)⟩
    · have q1 := q H2 (s1.trans s2)
      rw [Nat.max_eq_right (by omega)] at q1
      exact ⟨_, rfl, q1⟩
    · have q1 := q H2 (s1.trans s2)
      rw [Nat.max_eq_left (by omega)] at q1
      exact ⟨_, rfl, q1⟩
theorem ok_Way_and (T : Txt K mg) : FnOk P w K mg base CX0 4 T.a_Way_and T.fd_Way_and ["self", "other"] (spAnd T.c_Way) := by
  refine T.F_Way_and.ok sc_Way_and (fun vs H Q E h => ?_) (fun cdv A outer s H vs Q E hr h => ?_)
  · obtain ⟨x, y, a, b, c, e, a', b', c', e', rfl, _⟩ := h; rfl
  · obtain ⟨x, y, a, b, c, e, a', b', c', e', rfl, ⟨dx, hx⟩, ⟨dy, hy⟩, ha, hb, hc, ha', hb', hc', q⟩ := h
    refine ⟨_, (pss_cons (ps_if (pt_not (pt_val (pe_callB call_isi (by rfl) T.n_isinstance (by decide +kernel) (pa_cons (pv 1) (pa_cons (pe_glob (v := .ref T.c_Way) (by rfl) T.g_Way rfl) pa_nil))))) (pss_one ps_never) pss_nil)
      (C8.pss_cut (ps_set (i := 2) sc_Way_and.nd rfl (.inl rfl) (pe_or (pe_fld (pv 0) rfl) (pe_one (pe_fld (pv 1) rfl))))
      (pss_one (ps_ret (pe_makeN T.mk_Way (ok_Way_init T) (hr.mono (by omega)) (by rfl) T.g_Way T.kb_Way_init_4_early pass0 (pa_cons (pe_call (ok_higher T) (hr.mono (by omega)) (by rfl) T.g_higher T.F_higher.kp T.b_higher .nil pass0 (pa_cons (pe_fld (pv 0) rfl) (pa_cons (pe_fld (pv 1) rfl) pa_nil))) (pa_cons (pe_call (ok_higher T) (hr.mono (by omega)) (by rfl) T.g_higher T.F_higher.kp T.b_higher .nil pass0 (pa_cons (pe_fld (pv 0) rfl) (pa_cons (pe_fld (pv 1) rfl) pa_nil))) (pa_cons (pe_call (ok_higher T) (hr.mono (by omega)) (by rfl) T.g_higher T.F_higher.kp T.b_higher .nil pass0 (pa_cons (pe_fld (pv 0) rfl) (pa_cons (pe_fld (pv 1) rfl) pa_nil))) pa_nil))) (pk_cons (pv 2) pk_nil)))))), ?_⟩
    refine ⟨_, rfl, _, _, _, _, true, rfl, ClsV.own _, .base (T.ti_Way _ _ _ _ hy), T.kk_Way, _, rfl, iteF ?_⟩
    refine ⟨fun σ' H' => H' = H ∧ σ' = [some (.ref x), some (.ref y), some (.bl (e || e'))], ?_, ?_⟩
    · refine ⟨_, rfl, x, _, dx, _, _, rfl, hx, T.cl_Way, T.no_Way_early, wayF_early _ _ _ _, _, rfl, ?_⟩
      cases e with
      | true => exact ⟨rfl, rfl⟩
      | false => exact ⟨_, rfl, y, _, dy, _, _, rfl, hy, T.cl_Way, T.no_Way_early, wayF_early _ _ _ _, rfl, rfl⟩
    rintro σ' H' ⟨rfl, rfl⟩
    refine ⟨_, rfl, x, _, dx, _, _, rfl, hx, T.cl_Way, T.no_Way_held, wayF_held _ _ _ _, _, rfl, y, _, dy, _, _, rfl, hy, T.cl_Way, T.no_Way_held, wayF_held _ _ _ _, a, a', rfl, ha, ha', fun H1 s1 => ?_⟩
    refine ⟨_, rfl, x, _, dx, _, _, rfl, s1 _ _ hx, T.cl_Way, T.no_Way_owned, wayF_owned _ _ _ _, _, rfl, y, _, dy, _, _, rfl, s1 _ _ hy, T.cl_Way, T.no_Way_owned, wayF_owned _ _ _ _, b, b', rfl, hb, hb', fun H2 s2 => ?_⟩
    have t2 := s1.trans s2
    refine ⟨_, rfl, x, _, dx, _, _, rfl, t2 _ _ hx, T.cl_Way, T.no_Way_seen, wayF_seen _ _ _ _, _, rfl, y, _, dy, _, _, rfl, t2 _ _ hy, T.cl_Way, T.no_Way_seen, wayF_seen _ _ _ _, c, c', rfl, hc, hc', fun H3 s3 => ?_⟩
    have t3 := t2.trans s3
    refine ⟨_, rfl, rfl, rfl, fun z dz nz ndz ne => ⟨z, dz, max a a', max b b', max c c', (e || e'), rfl, by omega, by omega, by omega, upd_same, fun H8 b8 hx8 => ⟨rfl, ?_⟩⟩⟩
    exact q z H8 (t3.trans (same_make nz ndz b8)) (t3.free nz) ⟨dz, hx8⟩
end
end My

namespace My
open PySem L2
/-! ### the law's own ways: ranks and a flag in a list -/
abbrev LwO (a b c : Nat) (e : Bool) : HO := .lst [.int a, .int b, .int c, .bl e]
def Adj (a b c : Nat) : Prop := b ≤ a ∧ a ≤ c ∧ c < 4
def spLWay (K : PySem.W.Frag) : Sp := fun vs H Q _ => ∃ (d t : Addr), vs = [.ref d, .ref t] ∧ Dr K H d t ∧ ∀ (p : Addr) (a b c : Nat) (e : Bool) H', Adj a b c → Dr K H' d t → But t H H' → H p = none → H' p = some (LwO a b c e) → Q (.ref p) H'
def spMade (K : PySem.W.Frag) (C : Addr) : Sp := fun vs H Q _ => ∃ (p : Addr) (a b c : Nat) (e : Bool), vs = [.ref p] ∧ Adj a b c ∧ SqL K H p [.int a, .int b, .int c, .bl e] ∧ ∀ x H', Same H H' → H x = none → Wy C H' x a b c e → Q (.ref x) H'
def spAdj (K : PySem.W.Frag) : Sp := fun vs H Q _ => ∃ (p : Addr) (a b c : Nat) (e : Bool), vs = [.ref p] ∧ a < 4 ∧ b < 4 ∧ c < 4 ∧ SqL K H p [.int a, .int b, .int c, .bl e] ∧ ∀ r, H r = none → Q (.ref r) (upd H r (LwO (max a b) b (max c (max a b)) e))
def spFields (C : Addr) : Sp := fun vs H Q _ => ∃ (x : Addr) (a b c : Nat) (e : Bool), vs = [.ref x] ∧ Wy C H x a b c e ∧ ∀ r, H r = none → Q (.ref r) (upd H r (.lst [.str (levn a), .str (levn b), .str (levn c), .bl e]))
def spWords (K : PySem.W.Frag) : Sp := fun vs H Q _ => ∃ (p : Addr) (a b c : Nat) (e : Bool), vs = [.ref p] ∧ a < 4 ∧ b < 4 ∧ c < 4 ∧ SqL K H p [.int a, .int b, .int c, .bl e] ∧ ∀ r H', Same H H' → H r = none → H' r = some (.lst [.str (levn a), .str (levn b), .str (levn c), .bl e]) → Q (.ref r) H'
def spSecond (K : PySem.W.Frag) : Sp := fun vs H Q _ => ∃ (d t f : Addr) (a b c : Nat) (e : Bool), vs = [.ref d, .ref t, .ref f] ∧ Dr K H d t ∧ Adj a b c ∧ f ≠ t ∧ H f = some (LwO a b c e) ∧ ∀ (p : Addr) (a b c : Nat) (e : Bool) H', Adj a b c → Dr K H' d t → But t H H' → H p = none → H' p = some (LwO a b c e) → Q (.ref p) H'
section
variable {P : Program} {w : World} {K : PySem.W.Frag} {mg : Str → Option Value} {base : Heap}
theorem ok__law_way (T : Txt K mg) : FnOk P w K mg base CX0 2 T.a__law_way T.fd__law_way ["_law_draws_here", "_law_at"] (spLWay K) := by
  refine T.F__law_way.ok sc__law_way (fun vs H Q E h => ?_) (fun cdv A outer s H vs Q E hr h => ?_)
  · obtain ⟨d, t, rfl, _⟩ := h; rfl
  · obtain ⟨d, t, rfl, D, q⟩ := h
    refine ⟨_, (pss_cons (ps_set (i := 2) sc__law_way.nd rfl (.inl rfl) (pe_lst (pa_cons (pe_lst (pa_cons (pe_int) (pa_cons (pe_int) (pa_cons (pe_int) (pa_cons (pe_bl) pa_nil))))) (pa_cons (pe_lst (pa_cons (pe_int) (pa_cons (pe_int) (pa_cons (pe_int) (pa_cons (pe_bl) pa_nil))))) (pa_cons (pe_lst (pa_cons (pe_int) (pa_cons (pe_int) (pa_cons (pe_int) (pa_cons (pe_bl) pa_nil))))) (pa_cons (pe_lst (pa_cons (pe_int) (pa_cons (pe_int) (pa_cons (pe_int) (pa_cons (pe_bl) pa_nil))))) (pa_cons (pe_lst (pa_cons (pe_int) (pa_cons (pe_int) (pa_cons (pe_int) (pa_cons (pe_bl) pa_nil))))) pa_nil)))))))
      (pss_cons (ps_set (i := 3) sc__law_way.nd rfl (.inl rfl) (pe_call (ok__law_take T) (hr.mono (by omega)) (by rfl) T.g__law_take T.F__law_take.kp T.b__law_take .nil pass0 (pa_cons (pv 0) (pa_cons (pv 1) (pa_cons (pe_int) pa_nil)))))
      (pss_cons (ps_if (pt_cmpR op_lt (pv 3) (pe_int) (nomark _)) (pss_one (ps_ret (pe_ix ix_list (pv 2) (pv 3) (fun _ _ => rfl)))) pss_nil)
      (pss_cons (ps_set (i := 4) sc__law_way.nd rfl (.inl rfl) (pe_call (ok__law_take T) (hr.mono (by omega)) (by rfl) T.g__law_take T.F__law_take.kp T.b__law_take .nil pass0 (pa_cons (pv 0) (pa_cons (pv 1) (pa_cons (pe_int) pa_nil)))))
      (pss_cons (ps_set (i := 5) sc__law_way.nd rfl (.inl rfl) (pe_op op_add (pv 4) (pe_call (ok__law_take T) (hr.mono (by omega)) (by rfl) T.g__law_take T.F__law_take.kp T.b__law_take .nil pass0 (pa_cons (pv 0) (pa_cons (pv 1) (pa_cons (pe_op op_sub (pe_int) (pv 4)) pa_nil))))))
      (pss_cons (ps_set (i := 6) sc__law_way.nd rfl (.inl rfl) (pe_op op_add (pv 5) (pe_call (ok__law_take T) (hr.mono (by omega)) (by rfl) T.g__law_take T.F__law_take.kp T.b__law_take .nil pass0 (pa_cons (pv 0) (pa_cons (pv 1) (pa_cons (pe_op op_sub (pe_int) (pv 5)) pa_nil))))))
      (pss_one (ps_ret (pe_lst (pa_cons (pv 5) (pa_cons (pv 4) (pa_cons (pv 6) (pa_cons (pe_cmpR op_eq (pe_call (ok__law_take T) (hr.mono (by omega)) (by rfl) T.g__law_take T.F__law_take.kp T.b__law_take .nil pass0 (pa_cons (pv 0) (pa_cons (pv 1) (pa_cons (pe_int) pa_nil)))) (pe_int) (nomark _)) pa_nil))))))))))))), ?_⟩
    refine ⟨by show 4 ≤ sizeLine; decide, fun p1 n1 => ⟨by show 4 ≤ sizeLine; decide, fun p2 n2 => ⟨by show 4 ≤ sizeLine; decide, fun p3 n3 => ⟨by show 4 ≤ sizeLine; decide, fun p4 n4 => ⟨by show 4 ≤ sizeLine; decide, fun p5 n5 => ⟨by show 5 ≤ sizeLine; decide, fun pm nm => ?_⟩⟩⟩⟩⟩⟩
    have s1 := same_new (o := LwO 1 1 1 false) n1
    have s2 := same_new (o := LwO 2 2 2 false) n2
    have s3 := same_new (o := LwO 1 1 3 false) n3
    have s4 := same_new (o := LwO 0 0 0 true) n4
    have s5 := same_new (o := LwO 1 0 1 false) n5
    have s6 := same_new (o := .lst [.ref p1, .ref p2, .ref p3, .ref p4, .ref p5]) nm
    have g1 := s6 _ _ (s5 _ _ (s4 _ _ (s3 _ _ (s2 _ _ (upd_same (H := H) (a := p1) (o := LwO 1 1 1 false))))))
    have g2 := s6 _ _ (s5 _ _ (s4 _ _ (s3 _ _ (upd_same (H := upd H p1 (LwO 1 1 1 false)) (a := p2) (o := LwO 2 2 2 false)))))
    have g3 := s6 _ _ (s5 _ _ (s4 _ _ (upd_same (H := upd (upd H p1 (LwO 1 1 1 false)) p2 (LwO 2 2 2 false)) (a := p3) (o := LwO 1 1 3 false))))
    have g4 := s6 _ _ (s5 _ _ (upd_same (H := upd (upd (upd H p1 (LwO 1 1 1 false)) p2 (LwO 2 2 2 false)) p3 (LwO 1 1 3 false)) (a := p4) (o := LwO 0 0 0 true)))
    have g5 := s6 _ _ (upd_same (H := upd (upd (upd (upd H p1 (LwO 1 1 1 false)) p2 (LwO 2 2 2 false)) p3 (LwO 1 1 3 false)) p4 (LwO 0 0 0 true)) (a := p5) (o := LwO 1 0 1 false))
    have gm := upd_same (H := upd (upd (upd (upd (upd H p1 (LwO 1 1 1 false)) p2 (LwO 2 2 2 false)) p3 (LwO 1 1 3 false)) p4 (LwO 0 0 0 true)) p5 (LwO 1 0 1 false)) (a := pm) (o := .lst [.ref p1, .ref p2, .ref p3, .ref p4, .ref p5])
    have sA : Same H _ := ((((s1.trans s2).trans s3).trans s4).trans s5).trans s6
    have f2 := s1.free n2
    have f3 := (s1.trans s2).free n3
    have f4 := ((s1.trans s2).trans s3).free n4
    have f5 := (((s1.trans s2).trans s3).trans s4).free n5
    have D1 := D.same sA
    have nmt : pm ≠ t := D.na ((((((s1.trans s2).trans s3).trans s4).trans s5)).free nm)
    revert g1 g2 g3 g4 g5 gm sA D1
    generalize upd (upd (upd (upd (upd (upd H p1 (LwO 1 1 1 false)) p2 (LwO 2 2 2 false)) p3 (LwO 1 1 3 false)) p4 (LwO 0 0 0 true)) p5 (LwO 1 0 1 false)) pm (.lst [.ref p1, .ref p2, .ref p3, .ref p4, .ref p5]) = H1
    intro g1 g2 g3 g4 g5 gm sA D1
    refine ⟨_, rfl, _, rfl, d, t, 9, rfl, D1, by decide, fun r H2 h0 h1 D2 b2 => ?_⟩
    have bA : But t H H2 := (But.of_same sA).trans b2
    refine ⟨_, rfl, _, _, rfl, rfl, _, rfl, iteD (fun k => ?_) (fun k => ?_)⟩
    · obtain ⟨v, hv, mv⟩ := at_ok (xs := [V.ref p1, .ref p2, .ref p3, .ref p4, .ref p5]) h0 (by simpa using k)
      refine ⟨_, rfl, _, rfl, _, _, _, _, rfl, rfl, SqL.of (b2 _ _ nmt gm), hv, ?_⟩
      simp only [List.mem_cons, List.not_mem_nil, or_false] at mv
      rcases mv with rfl | rfl | rfl | rfl | rfl
      · exact q p1 1 1 1 false H2 ⟨by decide, by decide, by decide⟩ D2 bA n1 (b2 _ _ (D.na n1) g1)
      · exact q p2 2 2 2 false H2 ⟨by decide, by decide, by decide⟩ D2 bA f2 (b2 _ _ (D.na f2) g2)
      · exact q p3 1 1 3 false H2 ⟨by decide, by decide, by decide⟩ D2 bA f3 (b2 _ _ (D.na f3) g3)
      · exact q p4 0 0 0 true H2 ⟨by decide, by decide, by decide⟩ D2 bA f4 (b2 _ _ (D.na f4) g4)
      · exact q p5 1 0 1 false H2 ⟨by decide, by decide, by decide⟩ D2 bA f5 (b2 _ _ (D.na f5) g5)
    · refine ⟨_, rfl, _, rfl, d, t, 4, rfl, D2, by decide, fun r1 H3 h10 h11 D3 b3 => ?_⟩
      obtain ⟨i1, rfl⟩ := Int.eq_ofNat_of_zero_le h10
      refine ⟨_, rfl, _, rfl, _, rfl, _, rfl, _, _, rfl, rfl, d, t, _, rfl, D3, by omega, fun r2 H4 h20 h21 D4 b4 => ⟨_, _, rfl, rfl, ?_⟩⟩
      obtain ⟨i2, rfl⟩ := Int.eq_ofNat_of_zero_le h20
      refine ⟨_, rfl, _, rfl, _, rfl, _, rfl, _, _, rfl, rfl, d, t, _, rfl, D4, by omega, fun r3 H5 h30 h31 D5 b5 => ⟨_, _, rfl, rfl, ?_⟩⟩
      obtain ⟨i3, rfl⟩ := Int.eq_ofNat_of_zero_le h30
      refine ⟨_, rfl, _, rfl, _, rfl, _, rfl, _, rfl, d, t, 2, rfl, D5, by decide, fun r4 H6 _ _ D6 b6 => ⟨rfl, by show 4 ≤ sizeLine; decide, fun p hp => ?_⟩⟩
      have bB := (((bA.trans b3).trans b4).trans b5).trans b6
      have e1 : ((i1 : Int) + (i2 : Int)) = ((i1 + i2 : Nat) : Int) := by omega
      have e2 : ((i1 : Int) + (i2 : Int) + (i3 : Int)) = ((i1 + i2 + i3 : Nat) : Int) := by omega
      refine q p (i1 + i2) i1 (i1 + i2 + i3) (decide (V.int r4 = V.int 1)) _ ⟨by omega, by omega, by omega⟩ (D6.same (same_new hp)) (bB.trans (But.new hp)) (bB.free (D6.na hp) hp) ?_
      rw [upd_same]
      show some (HO.lst [.int ((i1 : Int) + (i2 : Int)), .int (i1 : Int), .int ((i1 : Int) + (i2 : Int) + (i3 : Int)), _]) = _
      rw [e2, e1]
theorem ok__law_way_made (T : Txt K mg) : FnOk P w K mg base CX0 4 T.a__law_way_made T.fd__law_way_made ["_law_way_here"] (spMade K T.c_Way) := by
  refine T.F__law_way_made.ok sc__law_way_made (fun vs H Q E h => ?_) (fun cdv A outer s H vs Q E hr h => ?_)
  · obtain ⟨p, a, b, c, e, rfl, _⟩ := h; rfl
  · obtain ⟨p, a, b, c, e, rfl, ⟨ab, ac, c4⟩, hp, q⟩ := h
    refine ⟨_, (pss_cons (ps_set (i := 1) sc__law_way_made.nd rfl (.inl rfl) (pe_lst (pa_cons (pe_str) (pa_cons (pe_str) (pa_cons (pe_str) (pa_cons (pe_str) pa_nil))))))
      (pss_one (ps_ret (pe_makeN T.mk_Way (ok_Way_init T) (hr.mono (by omega)) (by rfl) T.g_Way T.kb_Way_init_4_early pass0 (pa_cons (pe_ix ix_list (pv 1) (pe_ix ix_list (pv 0) (pe_int) (fun _ _ => rfl)) (fun _ _ => rfl)) (pa_cons (pe_ix ix_list (pv 1) (pe_ix ix_list (pv 0) (pe_int) (fun _ _ => rfl)) (fun _ _ => rfl)) (pa_cons (pe_ix ix_list (pv 1) (pe_ix ix_list (pv 0) (pe_int) (fun _ _ => rfl)) (fun _ _ => rfl)) pa_nil))) (pk_cons (pe_ix ix_list (pv 0) (pe_int) (fun _ _ => rfl)) pk_nil))))), ?_⟩
    refine ⟨by show 4 ≤ sizeLine; decide, fun pw hw => ?_⟩
    have s1 := same_new (o := .lst levV) hw
    have W1 : (upd H pw (.lst levV)) pw = some (.lst levV) := upd_same
    have hp1 := s1.seq hp
    refine ⟨_, rfl, _, rfl, _, _, _, _, rfl, rfl, hp1, at_of (j := 0) rfl rfl, _, _, _, _, rfl, rfl, SqL.of W1, at_of (j := a) rfl (levV_at (by omega)), ?_⟩
    refine ⟨_, rfl, _, rfl, _, _, _, _, rfl, rfl, hp1, at_of (j := 1) rfl rfl, _, _, _, _, rfl, rfl, SqL.of W1, at_of (j := b) rfl (levV_at (by omega)), ?_⟩
    refine ⟨_, rfl, _, rfl, _, _, _, _, rfl, rfl, hp1, at_of (j := 2) rfl rfl, _, _, _, _, rfl, rfl, SqL.of W1, at_of (j := c) rfl (levV_at (by omega)), ?_⟩
    refine ⟨_, rfl, _, _, _, _, rfl, rfl, hp1, at_of (j := 3) rfl rfl, rfl, rfl, fun x dx nx ndx ne => ⟨x, dx, a, b, c, e, rfl, by omega, by omega, by omega, upd_same, fun H8 b8 hx8 => ⟨rfl, ?_⟩⟩⟩
    rw [Nat.max_eq_left ab, Nat.max_eq_left ac] at hx8
    exact q x H8 (s1.trans (same_make nx ndx b8)) (s1.free nx) ⟨dx, hx8⟩
end
end My

namespace L2
open PySem PySem.Spec PyProof.Rows
theorem for_enumL {K : PySem.W.Frag} {a : Addr} {xs : List V} {g : TG} {tb : TS} {D : Ends} {σ : St} {H : Hp} (Pv : Nat → St → Hp → Prop) (h0 : Pv 0 σ H) (hl : ∀ i σ H, i ≤ xs.length → Pv i σ H → SqL K H a xs)
    (hs : ∀ i x σ H T, xs[i]? = some x → Pv i σ H → H T = none → g (.ref T) σ (upd H T (.tup [.int (i : Nat), x])) fun σ2 H2 => tb { D with nx := Pv (i + 1), ct := Pv (i + 1), bk := D.nx } σ2 H2)
    (hd : ∀ σ H, Pv xs.length σ H → D.nx σ H) :
    ∃ W : Nat → Nat → St → Hp → Prop, (∃ m, W 0 m σ H) ∧ ∀ i m σ H, W i m σ H →
      ((Ite K a).stop i H ∧ D.nx σ H) ∨ ((Ite K a).go i H ∧ ∃ N : St → Hp → Prop, (∀ σ' H', N σ' H' → ∃ m', m' < m ∧ W (i + 1) m' σ' H') ∧ ∀ x H', (Ite K a).yld i H x H' → g x σ H' fun σ2 H2 => tb { D with nx := N, ct := N, bk := D.nx } σ2 H2) := by
  refine ⟨fun i m σ H => m = xs.length - i ∧ i ≤ xs.length ∧ Pv i σ H, ⟨xs.length, by simp, Nat.zero_le _, h0⟩, fun i m σ H hW => ?_⟩
  obtain ⟨em, hi, p⟩ := hW
  have q := hl i σ H hi p
  by_cases hlt : i < xs.length
  · refine .inr ⟨⟨xs, xs[i], q, List.getElem?_eq_getElem hlt⟩, Pv (i + 1), fun σ' H' p' => ⟨xs.length - (i + 1), by omega, rfl, hlt, p'⟩, fun x H' y => ?_⟩
    obtain ⟨T, x', ev, nT, eH, hx⟩ := y
    subst ev eH
    exact hs i x' σ H T (hx xs q) p nT
  · have ei : i = xs.length := by omega
    subst ei
    exact .inl ⟨⟨xs, q, Nat.le_refl _⟩, hd σ H p⟩
end L2

namespace My
open PySem L2
/-! ### rows of ways: what is kept -/
structure Rk where
  a : Nat
  b : Nat
  c : Nat
  e : Bool
def Rk.Ok (r : Rk) : Prop := Adj r.a r.b r.c
def leR (x y : Rk) : Bool := leB x.a x.b x.c x.e y.a y.b y.c y.e
section
variable {α : Type} (le : α → α → Bool)
def covB (k : Nat) (x : α) (j : Nat) (y : α) : Bool := !decide (j = k) && (le x y && (!le y x || decide (j < k)))
def covN (rs : List α) (k : Nat) (x : α) : Nat → Bool
  | 0 => false
  | n + 1 => match rs[n]? with
    | some y => covN rs k x n || covB le k x n y
    | none => covN rs k x n
def keepN (rs : List α) : Nat → List α
  | 0 => []
  | n + 1 => match rs[n]? with
    | some x => if covN le rs n x rs.length then keepN rs n else keepN rs n ++ [x]
    | none => keepN rs n
def leftR (rs : List α) : List α := keepN le rs rs.length
variable {le}
theorem cov_no {rs : List α} {k : Nat} {x : α} : ∀ {n : Nat}, covN le rs k x n = false → ∀ {m : Nat} {y : α}, m < n → rs[m]? = some y → covB le k x m y = false
  | 0, _, m, _, h, _ => absurd h (Nat.not_lt_zero m)
  | n + 1, hc, m, y, h, e => by
    unfold covN at hc
    cases q : rs[n]? with
    | none =>
      rw [q] at hc
      rcases Nat.lt_succ_iff_lt_or_eq.mp h with z | z
      · exact cov_no hc z e
      · subst z; rw [q] at e; cases e
    | some y' =>
      rw [q] at hc
      simp only [Bool.or_eq_false_iff] at hc
      rcases Nat.lt_succ_iff_lt_or_eq.mp h with z | z
      · exact cov_no hc.1 z e
      · subst z; rw [q] at e; cases e; exact hc.2
theorem no_cov {rs : List α} {k : Nat} {x : α} : ∀ {n : Nat}, (∀ {m : Nat} {y : α}, rs[m]? = some y → covB le k x m y = false) → covN le rs k x n = false
  | 0, _ => rfl
  | n + 1, h => by
    unfold covN
    cases q : rs[n]? with
    | none => exact no_cov h
    | some y => show (covN le rs k x n || covB le k x n y) = false; rw [no_cov h, h q]; rfl
theorem keep_mem {rs : List α} : ∀ {n : Nat} {y : α}, y ∈ keepN le rs n → ∃ m, m < n ∧ rs[m]? = some y ∧ covN le rs m y rs.length = false
  | 0, _, h => by cases h
  | n + 1, y, h => by
    unfold keepN at h
    cases q : rs[n]? with
    | none => rw [q] at h; obtain ⟨m, a, b⟩ := keep_mem h; exact ⟨m, by omega, b⟩
    | some x =>
      rw [q] at h
      dsimp only at h
      cases c : covN le rs n x rs.length with
      | true => rw [c] at h; obtain ⟨m, a, b⟩ := keep_mem h; exact ⟨m, by omega, b⟩
      | false =>
        rw [c] at h
        rcases List.mem_append.mp h with z | z
        · obtain ⟨m, a, b⟩ := keep_mem z; exact ⟨m, by omega, b⟩
        · cases List.mem_singleton.mp z; exact ⟨n, by omega, q, c⟩
theorem keep_apart {rs : List α} : ∀ {n : Nat}, n ≤ rs.length → (keepN le rs n).Pairwise fun x y => le x y = false ∧ le y x = false
  | 0, _ => .nil
  | n + 1, hn => by
    unfold keepN
    cases q : rs[n]? with
    | none => exact keep_apart (by omega)
    | some x =>
      dsimp only
      cases c : covN le rs n x rs.length with
      | true => exact keep_apart (by omega)
      | false =>
        refine List.pairwise_append.mpr ⟨keep_apart (by omega), .cons (fun _ h => by cases h) .nil, fun y hy z hz => ?_⟩
        cases List.mem_singleton.mp hz
        obtain ⟨m, hm, e, cm⟩ := keep_mem hy
        have h1 := cov_no cm (by omega : n < rs.length) q
        have h2 := cov_no c (by omega : m < rs.length) e
        unfold covB at h1 h2
        rw [decide_eq_false (by omega : ¬ n = m), decide_eq_false (by omega : ¬ n < m)] at h1
        rw [decide_eq_false (by omega : ¬ m = n), decide_eq_true (by omega : m < n)] at h2
        revert h1 h2
        cases le y x <;> cases le x y <;> simp
theorem keep_all {xs : List α} (h : xs.Pairwise fun x y => le x y = false ∧ le y x = false) : ∀ n, n ≤ xs.length → keepN le xs n = xs.take n
  | 0, _ => by simp [keepN]
  | n + 1, hn => by
    unfold keepN
    have hlt : n < xs.length := by omega
    rw [List.getElem?_eq_getElem hlt]
    dsimp only
    rw [no_cov (k := n) (x := xs[n]) (rs := xs) (fun {m} {y} e => ?_)]
    · rw [keep_all h n (by omega), List.take_succ, List.getElem?_eq_getElem hlt]; rfl
    · obtain ⟨hm, rfl⟩ := List.getElem?_eq_some_iff.mp e
      have hp := List.pairwise_iff_getElem.mp h
      unfold covB
      rcases Nat.lt_trichotomy m n with z | z | z
      · rw [(hp m n hm hlt z).2]; simp
      · subst z; simp
      · rw [(hp n m hlt hm z).1]; simp
theorem left_left (rs : List α) : leftR le (leftR le rs) = leftR le rs := by
  have h := keep_all (le := le) (xs := leftR le rs) (keep_apart (Nat.le_refl _)) (leftR le rs).length (Nat.le_refl _)
  rw [List.take_length] at h
  exact h
theorem left_mem {rs : List α} {y : α} (h : y ∈ leftR le rs) : y ∈ rs := by
  obtain ⟨m, _, e, _⟩ := keep_mem h
  exact List.mem_of_getElem? e
theorem keep_len {rs : List α} (n : Nat) : (keepN le rs n).length ≤ n := by
  induction n with
  | zero => exact Nat.le_refl _
  | succ n this =>
    unfold keepN
    cases rs[n]? with
    | none => dsimp only; omega
    | some x => dsimp only; split <;> (try rw [List.length_append, List.length_singleton]) <;> omega
end
/-! ### rows on the heap -/
def All2 (f : Addr → Rk → Prop) (ps : List V) (rs : List Rk) : Prop := ps.length = rs.length ∧ ∀ (i : Nat) (r : Rk), rs[i]? = some r → ∃ q, ps[i]? = some (V.ref q) ∧ f q r
theorem All2.nil {f : Addr → Rk → Prop} : All2 f [] [] := ⟨rfl, fun i r h => by simp at h⟩
theorem All2.imp {f g : Addr → Rk → Prop} {ps : List V} {rs : List Rk} (h : All2 f ps rs) (k : ∀ q r, f q r → g q r) : All2 g ps rs :=
  ⟨h.1, fun i r e => let ⟨q, a, b⟩ := h.2 i r e; ⟨q, a, k q r b⟩⟩
theorem All2.app {f : Addr → Rk → Prop} {ps : List V} {rs : List Rk} {q : Addr} {r : Rk} (h : All2 f ps rs) (k : f q r) : All2 f (ps ++ [.ref q]) (rs ++ [r]) := by
  refine ⟨by simp [h.1], fun i x e => ?_⟩
  by_cases z : i < rs.length
  · rw [List.getElem?_append_left z] at e
    obtain ⟨p, a, b⟩ := h.2 i x e
    exact ⟨p, by rw [List.getElem?_append_left (by rw [h.1]; exact z)]; exact a, b⟩
  · rw [List.getElem?_append_right (by omega)] at e
    have z2 : i - rs.length = 0 := by
      rcases Nat.eq_zero_or_pos (i - rs.length) with z3 | z3
      · exact z3
      · rw [List.getElem?_eq_none (by simp; omega)] at e; cases e
    rw [z2] at e
    cases e
    exact ⟨q, by rw [List.getElem?_append_right (by rw [h.1]; omega), h.1, z2]; rfl, k⟩
theorem All2.get {f : Addr → Rk → Prop} {ps : List V} {rs : List Rk} (h : All2 f ps rs) {i : Nat} {x : V} (e : ps[i]? = some x) : ∃ q r, x = .ref q ∧ rs[i]? = some r ∧ f q r := by
  have hi := (List.getElem?_eq_some_iff.mp e).1
  rw [h.1] at hi
  obtain ⟨q, a, b⟩ := h.2 i rs[i] (List.getElem?_eq_getElem hi)
  exact ⟨q, rs[i], Option.some.inj (e.symm.trans a), List.getElem?_eq_getElem hi, b⟩
theorem All2.at {f : Addr → Rk → Prop} {ps : List V} {rs : List Rk} (h : All2 f ps rs) {i : Nat} (hi : i < rs.length) : ∃ q r, ps[i]? = some (.ref q) ∧ rs[i]? = some r ∧ f q r := by
  obtain ⟨q, a, b⟩ := h.2 i rs[i] (List.getElem?_eq_getElem hi)
  exact ⟨q, rs[i], a, List.getElem?_eq_getElem hi, b⟩
def LwAt (H : Hp) (q : Addr) (r : Rk) : Prop := H q = some (LwO r.a r.b r.c r.e)
def WyAt (C : Addr) (H : Hp) (x : Addr) (r : Rk) : Prop := Wy C H x r.a r.b r.c r.e
theorem lw_same {H H' : Hp} {ps : List V} {rs : List Rk} (h : All2 (LwAt H) ps rs) (s : Same H H') : All2 (LwAt H') ps rs := h.imp fun _ _ z => s _ _ z
theorem wy_same {C : Addr} {H H' : Hp} {ps : List V} {rs : List Rk} (h : All2 (WyAt C H) ps rs) (s : Same H H') : All2 (WyAt C H') ps rs := h.imp fun _ _ z => Wy.same z s
theorem lw_ne {K : PySem.W.Frag} {H : Hp} {d t q : Addr} {r : Rk} (D : Dr K H d t) (h : LwAt H q r) : q ≠ t := by
  obtain ⟨k, e⟩ := D.pl
  rintro rfl
  unfold LwAt at h
  rw [e] at h
  cases h
theorem wy_ne {K : PySem.W.Frag} {C : Addr} {H : Hp} {d t q : Addr} {r : Rk} (D : Dr K H d t) (h : WyAt C H q r) : q ≠ t := by
  obtain ⟨k, e⟩ := D.pl
  obtain ⟨dx, h⟩ := h
  rintro rfl
  rw [e] at h
  cases h
theorem lw_but {K : PySem.W.Frag} {H H' : Hp} {d t : Addr} {ps : List V} {rs : List Rk} (h : All2 (LwAt H) ps rs) (D : Dr K H d t) (b : But t H H') : All2 (LwAt H') ps rs := h.imp fun _ _ z => b _ _ (lw_ne D z) z
theorem wy_but {K : PySem.W.Frag} {C : Addr} {H H' : Hp} {d t : Addr} {ps : List V} {rs : List Rk} (h : All2 (WyAt C H) ps rs) (D : Dr K H d t) (b : But t H H') : All2 (WyAt C H') ps rs := h.imp fun _ _ z => Wy.but z b (wy_ne D z)
/-- a list of such items is none of them -/
theorem row_ne {f : Addr → Rk → Prop} {H : Hp} {p q : Addr} {r : Rk} {ps : List V} {rs : List Rk} (hp : H p = some (.lst ps)) (h : All2 f ps rs) (z : LwAt H q r) : q ≠ p := by
  rintro rfl
  unfold LwAt at z
  rw [hp] at z
  have z : ps = [.int r.a, .int r.b, .int r.c, .bl r.e] := by simpa [LwO] using z
  obtain ⟨q', _, e, _⟩ := h.get (i := 0) (x := .int r.a) (by rw [z]; rfl)
  cases e
theorem row_mut {f : Addr → Rk → Prop} {H : Hp} {p : Addr} {ps qs : List V} {rs rs' : List Rk} {o : HO} (hp : H p = some (.lst ps)) (h : All2 f ps rs) (k : All2 (LwAt H) qs rs') : All2 (LwAt (upd H p o)) qs rs' := k.imp fun q r z => by
  show upd H p o q = _
  rw [upd_ne (row_ne hp h z)]; exact z
theorem wy_mut {C : Addr} {H : Hp} {p : Addr} {ps qs : List V} {rs' : List Rk} {o : HO} (hp : H p = some (.lst ps)) (k : All2 (WyAt C H) qs rs') : All2 (WyAt C (upd H p o)) qs rs' := k.imp fun q r ⟨dx, z⟩ => ⟨dx, by
  rw [upd_ne (by rintro rfl; rw [hp] at z; cases z)]; exact z⟩
end My

namespace My
open PySem L2
def spTrim (K : PySem.W.Frag) (C : Addr) : Sp := fun vs H Q _ => ∃ (u : Addr) (ps : List V) (rs : List Rk), vs = [.ref u] ∧ (SqL K H u ps ∨ SqT K H u ps) ∧ All2 (WyAt C H) ps rs ∧ (∀ r ∈ rs, r.Ok) ∧ rs.length ≤ 2000 ∧
  ∀ v ks H', Same H H' → H v = none → H' v = some (.tup ks) → All2 (WyAt C H) ks (leftR leR rs) → Q (.ref v) H'
theorem Rk.Ok.lt {r : Rk} (h : r.Ok) : r.a < 4 ∧ r.b < 4 ∧ r.c < 4 := by obtain ⟨h1, h2, h3⟩ := h; exact ⟨by omega, by omega, by omega⟩
theorem cov_step {rs : List Rk} {k : Nat} {x y : Rk} {j : Nat} {b : Bool} (e : rs[j]? = some y) (h : covB leR k x j y = b) : covN leR rs k x (j + 1) = (covN leR rs k x j || b) := by
  rw [covN, e, ← h]
theorem keep_step {rs : List Rk} {j : Nat} {x : Rk} (e : rs[j]? = some x) : keepN leR rs (j + 1) = if covN leR rs j x rs.length then keepN leR rs j else keepN leR rs j ++ [x] := by
  rw [keepN, e]
section
variable {P : Program} {w : World} {K : PySem.W.Frag} {mg : Str → Option Value} {base : Heap}
theorem ok_trimmed (T : Txt K mg) : FnOk P w K mg base CX0 3 T.a_trimmed T.fd_trimmed ["ways"] (spTrim K T.c_Way) := by
  refine T.F_trimmed.ok sc_trimmed (fun vs H Q E h => ?_) (fun cdv A outer s H vs Q E hr h => ?_)
  · obtain ⟨u, ps, rs, rfl, _⟩ := h; rfl
  · obtain ⟨u, ps, rs, rfl, hu | hu, hW, hO, hn, q⟩ := h
    · refine ⟨_, (pss_cons (ps_set (i := 1) sc_trimmed.nd rfl (.inl rfl) (pe_lst pa_nil))
      (pss_cons (ps_for PassesOwn.never rfl (pi_enum (by rfl) T.n_enumerate (pa_cons (pv 0) pa_nil)) (pg_tup rfl (pgs_cons (pg_name (i := 2) sc_trimmed.nd rfl (.inl rfl)) (pgs_cons (pg_name (i := 3) sc_trimmed.nd rfl (.inl rfl)) pgs_nil))) (pss_cons (ps_set (i := 4) sc_trimmed.nd rfl (.inl rfl) (pe_bl))
      (pss_cons (ps_for PassesOwn.never rfl (pi_enum (by rfl) T.n_enumerate (pa_cons (pv 0) pa_nil)) (pg_tup rfl (pgs_cons (pg_name (i := 5) sc_trimmed.nd rfl (.inl rfl)) (pgs_cons (pg_name (i := 6) sc_trimmed.nd rfl (.inl rfl)) pgs_nil))) (pss_one (ps_if (PW.pt (pw_and (pt_cmpR op_ne (pv 5) (pv 2) (nomark _)) (pw_and (pt_cmpR (op_cmpI (fun _ _ => rfl) T.m_Way_le.at_ T.m_Way_le.fn (ok_Way_le T) (hr.mono (by omega)) T.b_Way_le pass0) (pv 3) (pv 6) (nomark _)) (pw_and1 (PW.pt (pw_or (pt_not (pt_cmpR (op_cmpI (fun _ _ => rfl) T.m_Way_le.at_ T.m_Way_le.fn (ok_Way_le T) (hr.mono (by omega)) T.b_Way_le pass0) (pv 6) (pv 3) (nomark _))) (pw_or1 (pt_cmpR op_lt (pv 5) (pv 2) (nomark _))))))))) (pss_one (ps_set (i := 4) sc_trimmed.nd rfl (.inl rfl) (pe_bl))) pss_nil)))
      (pss_one (ps_if (pt_not (pt_val (pv 4))) (pss_one (ps_expr (pe_bm PySem.F.plainAttrs_list PySem.F.slot_list_append PySem.F.type_list_append mt_append (pv 1) (pa_cons (pv 3) pa_nil)))) pss_nil)))))
      (pss_one (ps_ret (pe_callTy call_tuple_of (by rfl) T.n_tuple (by decide +kernel) (pa_cons (pv 1) pa_nil)))))), ?_⟩
      refine ⟨Nat.zero_le _, fun p hp => ?_⟩
      have s0 : Same H (upd H p (.lst [])) := same_new hp
      have len := hW.1
      refine ⟨_, rfl, u, ps, rfl, s0.seq hu, for_enumL (K := K) (a := u) (xs := ps) (fun i σ H' => ∃ x2 x3 x4 x5 x6 ks, σ = [some (.ref u), some (.ref p), x2, x3, x4, x5, x6] ∧ Same H H' ∧ H' p = some (.lst ks) ∧ All2 (WyAt T.c_Way H) ks (keepN leR rs i))
        ⟨_, _, _, _, _, [], rfl, s0, upd_same, All2.nil⟩ (fun i σ H' _ ⟨_, _, _, _, _, _, _, s1, _⟩ => s1.seq hu) ?_ ?_⟩
      · rintro i v σ H1 t hx ⟨x2, x3, x4, x5, x6, ks, rfl, s1, hk, kk⟩ ht
        obtain ⟨x, r, rfl, er, wx⟩ := hW.get hx
        have okr := (hO r (List.mem_of_getElem? er)).lt
        have sT : Same H1 (upd H1 t (.tup [.int i, .ref x])) := same_new ht
        have s2 := s1.trans sT
        refine ⟨t, _, rfl, .inl (.inl upd_same), rfl, _, _, rfl, _, _, rfl, rfl, ?_⟩
        have hk2 : (upd H1 t (.tup [.int i, .ref x])) p = some (.lst ks) := sT _ _ hk
        refine ⟨_, rfl, u, ps, rfl, s2.seq hu, for_enumL (K := K) (a := u) (xs := ps) (fun j σ H' => ∃ x5 x6, σ = [some (.ref u), some (.ref p), some (.int i), some (.ref x), some (.bl (covN leR rs i r j)), x5, x6] ∧ Same H H' ∧ H' p = some (.lst ks))
          ⟨_, _, rfl, s2, hk2⟩ (fun i σ H' _ ⟨_, _, _, s1, _⟩ => s1.seq hu) ?_ ?_⟩
        · rintro j v σ H3 t3 hy ⟨x5, x6, rfl, s3, hk3⟩ ht3
          obtain ⟨y, r', rfl, er', wy⟩ := hW.get hy
          have okr' := (hO r' (List.mem_of_getElem? er')).lt
          have s4 := s3.trans (same_new (o := .tup [.int j, .ref y]) ht3)
          have hk4 : (upd H3 t3 (.tup [.int j, .ref y])) p = some (.lst ks) := same_new ht3 _ _ hk3
          have fin : ∀ b H', covB leR i r j r' = b → Same (upd H3 t3 (.tup [.int j, .ref y])) H' → ∃ x5 x6, ([some (.ref u), some (.ref p), some (.int i), some (.ref x), some (.bl (covN leR rs i r j || b)), some (.int j), some (.ref y)] : St) = [some (.ref u), some (.ref p), some (.int i), some (.ref x), some (.bl (covN leR rs i r (j + 1))), x5, x6] ∧ Same H H' ∧ H' p = some (.lst ks) := fun b H' e s => ⟨_, _, by rw [cov_step er' e], s4.trans s, s _ _ hk4⟩
          unfold covB at fin
          refine ⟨t3, _, rfl, .inl (.inl upd_same), rfl, _, _, rfl, _, _, rfl, rfl, ?_⟩
          refine ⟨_, rfl, _, rfl, rfl, _, rfl, iteN (fun c => ?_) (fun c => ?_)⟩
          · have c' : ¬ j = i := fun z => c (by rw [z])
            rw [decide_eq_false c'] at fin
            obtain ⟨dx, hx4⟩ := wx.same s4
            obtain ⟨dy, hy4⟩ := wy.same s4
            refine ⟨_, rfl, _, rfl, x, dx, _, y, dy, _, rfl, rfl, hx4, hy4, x, y, _, _, _, _, _, _, _, _, rfl, wx.same s4, wy.same s4, okr.1, okr.2.1, okr.2.2, okr'.1, okr'.2.1, okr'.2.2, fun H5 s5 => ⟨_, rfl, iteB (fun l1 => ?_) (fun l1 => ?_)⟩⟩
            · have s6 := s4.trans s5
              have l1' : leR r r' = true := l1
              rw [l1'] at fin
              refine ⟨_, rfl, _, rfl, y, dy, _, x, dx, _, rfl, rfl, s5 _ _ hy4, s5 _ _ hx4, y, x, _, _, _, _, _, _, _, _, rfl, wy.same s6, wx.same s6, okr'.1, okr'.2.1, okr'.2.2, okr.1, okr.2.1, okr.2.2, fun H6 s7 => ⟨_, rfl, ?_⟩⟩
              rw [show leR r' r = leB r'.a r'.b r'.c r'.e r.a r.b r.c r.e from rfl] at fin
              have s57 := s5.trans s7
              cases l2 : leB r'.a r'.b r'.c r'.e r.a r.b r.c r.e with
              | false =>
                rw [l2] at fin
                have := fin true H6 rfl s57
                rw [Bool.or_true] at this
                exact this
              | true =>
                rw [l2] at fin
                refine ⟨_, rfl, _, rfl, _, _, rfl, rfl, _, rfl, iteD (fun c3 => ?_) (fun c3 => ?_)⟩
                · rw [decide_eq_true (by omega : j < i)] at fin
                  have := fin true H6 rfl s57
                  rw [Bool.or_true] at this
                  exact this
                · rw [decide_eq_false (by omega : ¬ j < i)] at fin
                  have := fin false H6 rfl s57
                  rw [Bool.or_false] at this
                  exact this
            · have l1' : leR r r' = false := l1
              rw [l1'] at fin
              have := fin false H5 rfl s5
              rw [Bool.or_false] at this
              exact this
          · have c' : j = i := by have z : V.int (j : Int) = V.int (i : Int) := c; injection z with z; omega
            rw [decide_eq_true c'] at fin
            have := fin false _ rfl (Same.refl _)
            rw [Bool.or_false] at this
            exact this
        · rintro σ H3 ⟨x5, x6, rfl, s3, hk3⟩
          rw [len]
          have kl : ks.length ≤ i := by rw [kk.1]; exact keep_len i
          have il : i < rs.length := (List.getElem?_eq_some_iff.mp er).1
          have kst := keep_step er
          refine ⟨_, rfl, _, rfl, ?_⟩
          cases c : covN leR rs i r rs.length with
          | true =>
            rw [c] at kst
            exact ⟨_, _, _, _, _, ks, rfl, s3, hk3, by rw [kst]; exact kk⟩
          | false =>
            rw [c] at kst
            refine ⟨_, rfl, .inl ⟨rfl, _, SqL.of hk3⟩, _, rfl, _, _, _, rfl, rfl, hk3, Nat.lt_of_le_of_lt (by omega : _ ≤ 5000) (by decide), ?_⟩
            exact ⟨_, _, _, _, _, ks ++ [.ref x], rfl, same_mut s3 hp, upd_same, by rw [kst]; exact kk.app wx⟩
      · rintro σ H1 ⟨x2, x3, x4, x5, x6, ks, rfl, s1, hk, kk⟩
        rw [len] at kk
        refine ⟨_, rfl, p, ks, rfl, .inl ⟨SqL.of hk, fun v hv => ?_⟩⟩
        exact q v ks _ (s1.trans (same_new hv)) (s1.free hv) upd_same kk
    · refine ⟨_, (pss_cons (ps_set (i := 1) sc_trimmed.nd rfl (.inl rfl) (pe_lst pa_nil))
      (pss_cons (ps_for PassesOwn.never rfl (pi_enumT (by rfl) T.n_enumerate (pa_cons (pv 0) pa_nil)) (pg_tup rfl (pgs_cons (pg_name (i := 2) sc_trimmed.nd rfl (.inl rfl)) (pgs_cons (pg_name (i := 3) sc_trimmed.nd rfl (.inl rfl)) pgs_nil))) (pss_cons (ps_set (i := 4) sc_trimmed.nd rfl (.inl rfl) (pe_bl))
      (pss_cons (ps_for PassesOwn.never rfl (pi_enumT (by rfl) T.n_enumerate (pa_cons (pv 0) pa_nil)) (pg_tup rfl (pgs_cons (pg_name (i := 5) sc_trimmed.nd rfl (.inl rfl)) (pgs_cons (pg_name (i := 6) sc_trimmed.nd rfl (.inl rfl)) pgs_nil))) (pss_one (ps_if (PW.pt (pw_and (pt_cmpR op_ne (pv 5) (pv 2) (nomark _)) (pw_and (pt_cmpR (op_cmpI (fun _ _ => rfl) T.m_Way_le.at_ T.m_Way_le.fn (ok_Way_le T) (hr.mono (by omega)) T.b_Way_le pass0) (pv 3) (pv 6) (nomark _)) (pw_and1 (PW.pt (pw_or (pt_not (pt_cmpR (op_cmpI (fun _ _ => rfl) T.m_Way_le.at_ T.m_Way_le.fn (ok_Way_le T) (hr.mono (by omega)) T.b_Way_le pass0) (pv 6) (pv 3) (nomark _))) (pw_or1 (pt_cmpR op_lt (pv 5) (pv 2) (nomark _))))))))) (pss_one (ps_set (i := 4) sc_trimmed.nd rfl (.inl rfl) (pe_bl))) pss_nil)))
      (pss_one (ps_if (pt_not (pt_val (pv 4))) (pss_one (ps_expr (pe_bm PySem.F.plainAttrs_list PySem.F.slot_list_append PySem.F.type_list_append mt_append (pv 1) (pa_cons (pv 3) pa_nil)))) pss_nil)))))
      (pss_one (ps_ret (pe_callTy call_tuple_of (by rfl) T.n_tuple (by decide +kernel) (pa_cons (pv 1) pa_nil)))))), ?_⟩
      refine ⟨Nat.zero_le _, fun p hp => ?_⟩
      have s0 : Same H (upd H p (.lst [])) := same_new hp
      have len := hW.1
      refine ⟨_, rfl, u, ps, rfl, same_sqT s0 hu, for_enumT (K := K) (a := u) (xs := ps) (fun i σ H' => ∃ x2 x3 x4 x5 x6 ks, σ = [some (.ref u), some (.ref p), x2, x3, x4, x5, x6] ∧ Same H H' ∧ H' p = some (.lst ks) ∧ All2 (WyAt T.c_Way H) ks (keepN leR rs i))
        ⟨_, _, _, _, _, [], rfl, s0, upd_same, All2.nil⟩ (fun i σ H' _ ⟨_, _, _, _, _, _, _, s1, _⟩ => same_sqT s1 hu) ?_ ?_⟩
      · rintro i v σ H1 t hx ⟨x2, x3, x4, x5, x6, ks, rfl, s1, hk, kk⟩ ht
        obtain ⟨x, r, rfl, er, wx⟩ := hW.get hx
        have okr := (hO r (List.mem_of_getElem? er)).lt
        have sT : Same H1 (upd H1 t (.tup [.int i, .ref x])) := same_new ht
        have s2 := s1.trans sT
        refine ⟨t, _, rfl, .inl (.inl upd_same), rfl, _, _, rfl, _, _, rfl, rfl, ?_⟩
        have hk2 : (upd H1 t (.tup [.int i, .ref x])) p = some (.lst ks) := sT _ _ hk
        refine ⟨_, rfl, u, ps, rfl, same_sqT s2 hu, for_enumT (K := K) (a := u) (xs := ps) (fun j σ H' => ∃ x5 x6, σ = [some (.ref u), some (.ref p), some (.int i), some (.ref x), some (.bl (covN leR rs i r j)), x5, x6] ∧ Same H H' ∧ H' p = some (.lst ks))
          ⟨_, _, rfl, s2, hk2⟩ (fun i σ H' _ ⟨_, _, _, s1, _⟩ => same_sqT s1 hu) ?_ ?_⟩
        · rintro j v σ H3 t3 hy ⟨x5, x6, rfl, s3, hk3⟩ ht3
          obtain ⟨y, r', rfl, er', wy⟩ := hW.get hy
          have okr' := (hO r' (List.mem_of_getElem? er')).lt
          have s4 := s3.trans (same_new (o := .tup [.int j, .ref y]) ht3)
          have hk4 : (upd H3 t3 (.tup [.int j, .ref y])) p = some (.lst ks) := same_new ht3 _ _ hk3
          have fin : ∀ b H', covB leR i r j r' = b → Same (upd H3 t3 (.tup [.int j, .ref y])) H' → ∃ x5 x6, ([some (.ref u), some (.ref p), some (.int i), some (.ref x), some (.bl (covN leR rs i r j || b)), some (.int j), some (.ref y)] : St) = [some (.ref u), some (.ref p), some (.int i), some (.ref x), some (.bl (covN leR rs i r (j + 1))), x5, x6] ∧ Same H H' ∧ H' p = some (.lst ks) := fun b H' e s => ⟨_, _, by rw [cov_step er' e], s4.trans s, s _ _ hk4⟩
          unfold covB at fin
          refine ⟨t3, _, rfl, .inl (.inl upd_same), rfl, _, _, rfl, _, _, rfl, rfl, ?_⟩
          refine ⟨_, rfl, _, rfl, rfl, _, rfl, iteN (fun c => ?_) (fun c => ?_)⟩
          · have c' : ¬ j = i := fun z => c (by rw [z])
            rw [decide_eq_false c'] at fin
            obtain ⟨dx, hx4⟩ := wx.same s4
            obtain ⟨dy, hy4⟩ := wy.same s4
            refine ⟨_, rfl, _, rfl, x, dx, _, y, dy, _, rfl, rfl, hx4, hy4, x, y, _, _, _, _, _, _, _, _, rfl, wx.same s4, wy.same s4, okr.1, okr.2.1, okr.2.2, okr'.1, okr'.2.1, okr'.2.2, fun H5 s5 => ⟨_, rfl, iteB (fun l1 => ?_) (fun l1 => ?_)⟩⟩
            · have s6 := s4.trans s5
              have l1' : leR r r' = true := l1
              rw [l1'] at fin
              refine ⟨_, rfl, _, rfl, y, dy, _, x, dx, _, rfl, rfl, s5 _ _ hy4, s5 _ _ hx4, y, x, _, _, _, _, _, _, _, _, rfl, wy.same s6, wx.same s6, okr'.1, okr'.2.1, okr'.2.2, okr.1, okr.2.1, okr.2.2, fun H6 s7 => ⟨_, rfl, ?_⟩⟩
              rw [show leR r' r = leB r'.a r'.b r'.c r'.e r.a r.b r.c r.e from rfl] at fin
              have s57 := s5.trans s7
              cases l2 : leB r'.a r'.b r'.c r'.e r.a r.b r.c r.e with
              | false =>
                rw [l2] at fin
                have := fin true H6 rfl s57
                rw [Bool.or_true] at this
                exact this
              | true =>
                rw [l2] at fin
                refine ⟨_, rfl, _, rfl, _, _, rfl, rfl, _, rfl, iteD (fun c3 => ?_) (fun c3 => ?_)⟩
                · rw [decide_eq_true (by omega : j < i)] at fin
                  have := fin true H6 rfl s57
                  rw [Bool.or_true] at this
                  exact this
                · rw [decide_eq_false (by omega : ¬ j < i)] at fin
                  have := fin false H6 rfl s57
                  rw [Bool.or_false] at this
                  exact this
            · have l1' : leR r r' = false := l1
              rw [l1'] at fin
              have := fin false H5 rfl s5
              rw [Bool.or_false] at this
              exact this
          · have c' : j = i := by have z : V.int (j : Int) = V.int (i : Int) := c; injection z with z; omega
            rw [decide_eq_true c'] at fin
            have := fin false _ rfl (Same.refl _)
            rw [Bool.or_false] at this
            exact this
        · rintro σ H3 ⟨x5, x6, rfl, s3, hk3⟩
          rw [len]
          have kl : ks.length ≤ i := by rw [kk.1]; exact keep_len i
          have il : i < rs.length := (List.getElem?_eq_some_iff.mp er).1
          have kst := keep_step er
          refine ⟨_, rfl, _, rfl, ?_⟩
          cases c : covN leR rs i r rs.length with
          | true =>
            rw [c] at kst
            exact ⟨_, _, _, _, _, ks, rfl, s3, hk3, by rw [kst]; exact kk⟩
          | false =>
            rw [c] at kst
            refine ⟨_, rfl, .inl ⟨rfl, _, SqL.of hk3⟩, _, rfl, _, _, _, rfl, rfl, hk3, Nat.lt_of_le_of_lt (by omega : _ ≤ 5000) (by decide), ?_⟩
            exact ⟨_, _, _, _, _, ks ++ [.ref x], rfl, same_mut s3 hp, upd_same, by rw [kst]; exact kk.app wx⟩
      · rintro σ H1 ⟨x2, x3, x4, x5, x6, ks, rfl, s1, hk, kk⟩
        rw [len] at kk
        refine ⟨_, rfl, p, ks, rfl, .inl ⟨SqL.of hk, fun v hv => ?_⟩⟩
        exact q v ks _ (s1.trans (same_new hv)) (s1.free hv) upd_same kk
end
end My

namespace My
open PySem L2
/-! ### policies: their rules, where they stand -/
abbrev Wv := Nat × Nat × Nat × Bool
abbrev Rl := Str × Bool × List Wv
abbrev Lr := Str × Bool × Addr
def WyV (Cw : Addr) (H : Hp) (v : V) (k : Wv) : Prop := ∃ x, v = .ref x ∧ Wy Cw H x k.1 k.2.1 k.2.2.1 k.2.2.2
def WysT (Cw : Addr) (H : Hp) (p : Addr) (ks : List Wv) : Prop := ∃ vs, H p = some (.tup vs) ∧ Paired (WyV Cw H) vs ks
/-- tuples and ways stay -/
def Kw (Cw : Addr) (H H' : Hp) : Prop := ∀ a o, H a = some o → ((∃ xs, o = .tup xs) ∨ ∃ dx x1 x2 x3 e, o = .ins Cw dx (wayF x1 x2 x3 e)) → H' a = some o
theorem Kw.same {Cw : Addr} {H H' : Hp} (s : Same H H') : Kw Cw H H' := fun a o h _ => s a o h
theorem Kw.trans {Cw : Addr} {H H1 H2 : Hp} (x : Kw Cw H H1) (y : Kw Cw H1 H2) : Kw Cw H H2 := fun a o h t => y a o (x a o h t) t
theorem Kw.upd {Cw : Addr} {H : Hp} {a : Addr} {o o' : HO} (h : H a = some o) (n : ¬ ((∃ xs, o = .tup xs) ∨ ∃ dx x1 x2 x3 e, o = .ins Cw dx (wayF x1 x2 x3 e))) : Kw Cw H (upd H a o') := fun b u hb t => by
  by_cases e : b = a
  · rw [e, h] at hb; cases hb; exact absurd t n
  · rw [upd_ne e]; exact hb
theorem Kw.updD {Cw : Addr} {H : Hp} {a : Addr} {kvs : List (Key × V)} {o' : HO} (h : H a = some (.dK kvs)) : Kw Cw H (L2.upd H a o') := .upd h fun t => by rcases t with ⟨_, e⟩ | ⟨_, _, _, _, _, e⟩ <;> cases e
theorem WyV.keep {Cw : Addr} {H H' : Hp} {v : V} {k : Wv} (h : WyV Cw H v k) (s : Kw Cw H H') : WyV Cw H' v k := let ⟨x, e, dx, hx⟩ := h; ⟨x, e, dx, s _ _ hx (.inr ⟨_, _, _, _, _, rfl⟩)⟩
theorem WysT.keep {Cw : Addr} {H H' : Hp} {p : Addr} {ks : List Wv} (h : WysT Cw H p ks) (s : Kw Cw H H') : WysT Cw H' p ks := let ⟨vs, e, f⟩ := h; ⟨vs, s _ _ e (.inl ⟨_, rfl⟩), L2.Paired.mapP f fun _ _ x => x.keep s⟩
def RlL (Cw : Addr) (H : Hp) (q : Lr) (r : Rl) : Prop := q.1 = r.1 ∧ q.2.1 = r.2.1 ∧ WysT Cw H q.2.2 r.2.2
theorem rlL_keep {Cw : Addr} {H H' : Hp} {ls : List Lr} {rl : List Rl} (h : Paired (RlL Cw H) ls rl) (s : Kw Cw H H') : Paired (RlL Cw H') ls rl := L2.Paired.mapP h fun _ _ ⟨a, b, c⟩ => ⟨a, b, c.keep s⟩
def stK (ls : List Lr) : List (Key × V) := ls.map fun q => (.inr q.1, .bl q.2.1)
def wyK (ls : List Lr) : List (Key × V) := ls.map fun q => (.inr q.1, .ref q.2.2)
def setR (rl : List Rl) (r : Rl) : List Rl := rl.map fun q => if q.1 = r.1 then r else q
def lookR (rl : List Rl) (z : Str) : Option Rl := rl.find? fun r => decide (r.1 = z)
structure Pol (C Cw : Addr) (H : Hp) (y x m a b : Addr) (rl : List Rl) : Prop where
  obj : ∃ dy, H y = some (.ins C dy [("shape", .ref x), ("_marks", .ref m), ("_starts", .ref a), ("_ways", .ref b)])
  mar : H m = some (.lst (rl.map fun r => .str r.1))
  tb : ∃ ls : List Lr, H a = some (.dK (stK ls)) ∧ H b = some (.dK (wyK ls)) ∧ Paired (RlL Cw H) ls rl
  ne : a ≠ b
  nd : (rl.map (·.1)).Nodup
theorem valV_f {f : Lr → V} (z : Str) : ∀ ls : List Lr, valV (ls.map fun q => ((.inr q.1 : Key), f q)) (.inr z) = (ls.find? fun q => decide (q.1 = z)).map f
  | [] => rfl
  | q :: ls => by
    rw [List.map_cons, List.find?_cons]
    by_cases h : q.1 = z
    · rw [valV_pos (by rw [h]), decide_eq_true h]; rfl
    · rw [valV_neg (fun e => h (by injection e)), decide_eq_false h, valV_f z ls]
theorem find_pair {Cw : Addr} {H : Hp} {z : Str} : ∀ {ls : List Lr} {rl : List Rl}, Paired (RlL Cw H) ls rl → (∃ r q, lookR rl z = some r ∧ (ls.find? fun q => decide (q.1 = z)) = some q ∧ RlL Cw H q r) ∨ (lookR rl z = none ∧ (ls.find? fun q => decide (q.1 = z)) = none)
  | _, _, .nil => .inr ⟨rfl, rfl⟩
  | q :: ls, r :: rl, .cons h t => by
    unfold lookR
    rw [List.find?_cons, List.find?_cons]
    by_cases e : r.1 = z
    · exact .inl ⟨r, q, by rw [decide_eq_true e], by rw [decide_eq_true (h.1.trans e)], h⟩
    · rw [decide_eq_false e, decide_eq_false (fun e' => e (h.1.symm.trans e'))]
      exact find_pair t
theorem valV_st {z : Str} {ls : List Lr} : valV (stK ls) (.inr z) = (ls.find? fun q => decide (q.1 = z)).map fun q => V.bl q.2.1 := valV_f z ls
theorem valV_wy {z : Str} {ls : List Lr} : valV (wyK ls) (.inr z) = (ls.find? fun q => decide (q.1 = z)).map fun q => V.ref q.2.2 := valV_f z ls
theorem find_none {ls : List Lr} {z : Str} (h : z ∉ ls.map (·.1)) : (ls.find? fun q => decide (q.1 = z)) = none := List.find?_eq_none.mpr fun q hq e => h (List.mem_map.mpr ⟨q, hq, of_decide_eq_true e⟩)
theorem find_some {ls : List Lr} {z : Str} (h : z ∈ ls.map (·.1)) : ∃ q, (ls.find? fun q => decide (q.1 = z)) = some q := by
  cases e : ls.find? fun q => decide (q.1 = z) with
  | some q => exact ⟨q, rfl⟩
  | none =>
    obtain ⟨q, hq, e2⟩ := List.mem_map.mp h
    exact absurd (decide_eq_true e2) (by simpa using List.find?_eq_none.mp e q hq)
theorem putK_old {kvs : List (Key × V)} {k : Key} {v : V} (h : (valV kvs k).isSome = true) : putK kvs k v = kvs.map fun kv => if kv.1 = k then (kv.1, v) else kv := by
  unfold putK
  rw [valV_any, h, if_pos rfl]
def setL (ls : List Lr) (z : Str) (st : Bool) (p : Addr) : List Lr := ls.map fun q => if q.1 = z then (q.1, st, p) else q
theorem put_st' {ls : List Lr} {z : Str} {st : Bool} {p : Addr} (h : z ∈ ls.map (·.1)) : putK (stK ls) (.inr z) (.bl st) = stK (setL ls z st p) := by
  obtain ⟨q, hq⟩ := find_some h
  rw [putK_old (by rw [valV_st, hq]; rfl)]
  unfold stK setL
  rw [List.map_map, List.map_map]
  refine List.map_congr_left fun q _ => ?_
  by_cases e : q.1 = z
  · simp [e]
  · simp [e]
theorem put_wy' {ls : List Lr} {z : Str} {st : Bool} {p : Addr} (h : z ∈ ls.map (·.1)) : putK (wyK ls) (.inr z) (.ref p) = wyK (setL ls z st p) := by
  obtain ⟨q, hq⟩ := find_some h
  rw [putK_old (by rw [valV_wy, hq]; rfl)]
  unfold wyK setL
  rw [List.map_map, List.map_map]
  refine List.map_congr_left fun q _ => ?_
  by_cases e : q.1 = z
  · simp [e]
  · simp [e]
theorem setL_pair {Cw : Addr} {H : Hp} {r : Rl} {p : Addr} (w : WysT Cw H p r.2.2) : ∀ {ls : List Lr} {rl : List Rl}, Paired (RlL Cw H) ls rl → Paired (RlL Cw H) (setL ls r.1 r.2.1 p) (setR rl r)
  | _, _, .nil => .nil
  | q :: ls, r' :: rl, .cons h t => by
    refine .cons ?_ (setL_pair w t)
    show RlL Cw H (if q.1 = r.1 then (q.1, r.2.1, p) else q) (if r'.1 = r.1 then r else r')
    by_cases e : r'.1 = r.1
    · rw [if_pos e, if_pos (h.1.trans e)]; exact ⟨h.1.trans e, rfl, w⟩
    · rw [if_neg e, if_neg (fun e' => e (h.1.symm.trans e'))]; exact h
theorem pair_fst {Cw : Addr} {H : Hp} : ∀ {ls : List Lr} {rl : List Rl}, Paired (RlL Cw H) ls rl → ls.map (·.1) = rl.map (·.1)
  | _, _, .nil => rfl
  | q :: ls, r :: rl, .cons h t => by rw [List.map_cons, List.map_cons, h.1, pair_fst t]
theorem setR_fst (rl : List Rl) (r : Rl) : (setR rl r).map (·.1) = rl.map (·.1) := by
  unfold setR
  rw [List.map_map]
  refine List.map_congr_left fun q _ => ?_
  by_cases e : q.1 = r.1
  · simp [e]
  · simp [e]
theorem setRs_fst : ∀ (rs rl : List Rl), (rs.foldl setR rl).map (·.1) = rl.map (·.1)
  | [], _ => rfl
  | r :: rs, rl => by rw [List.foldl_cons, setRs_fst rs, setR_fst]
/-- the rows that are passed in -/
def RwV (Cw : Addr) (H : Hp) (v : V) (r : Rl) : Prop := ∃ p t, v = .ref p ∧ H p = some (.tup [.str r.1, .bl r.2.1, .ref t]) ∧ WysT Cw H t r.2.2
theorem RwV.keep {Cw : Addr} {H H' : Hp} {v : V} {r : Rl} (h : RwV Cw H v r) (s : Kw Cw H H') : RwV Cw H' v r := let ⟨p, t, e, a, b⟩ := h; ⟨p, t, e, s _ _ a (.inl ⟨_, rfl⟩), b.keep s⟩
def emptyR (rs : List Row) : List Rl := (mks rs).map fun z => (z, false, [])
theorem polF1 (x m a b : Addr) : List.lookup ("shape" : Str) [(("shape" : Str), V.ref x), ("_marks", V.ref m), ("_starts", V.ref a), ("_ways", V.ref b)] = some (V.ref x) := rfl
theorem polF2 (x m a b : Addr) : List.lookup ("_marks" : Str) [(("shape" : Str), V.ref x), ("_marks", V.ref m), ("_starts", V.ref a), ("_ways", V.ref b)] = some (V.ref m) := rfl
theorem polF3 (x m a b : Addr) : List.lookup ("_starts" : Str) [(("shape" : Str), V.ref x), ("_marks", V.ref m), ("_starts", V.ref a), ("_ways", V.ref b)] = some (V.ref a) := rfl
theorem polF4 (x m a b : Addr) : List.lookup ("_ways" : Str) [(("shape" : Str), V.ref x), ("_marks", V.ref m), ("_starts", V.ref a), ("_ways", V.ref b)] = some (V.ref b) := rfl
end My

namespace My
open PySem L2
def spPInit0 (K : PySem.W.Frag) (C Cw Cs : Addr) : Sp := fun vs H Q _ => ∃ (y dy x q : Addr) (rs : List Row), vs = [.ref y, .ref x, .ref q] ∧ H y = some (.ins C dy []) ∧ ShO Cs H x rs ∧ (mks rs).Nodup ∧ rs.length ≤ 100 ∧ (∀ H', SqT K H' q []) ∧
  ∀ m a b H', But y H H' → H m = none → H a = none → H b = none → Pol C Cw H' y x m a b (emptyR rs) → Q .non H'
section
variable {w : World} {K : PySem.W.Frag} {mg : Str → Option Value} {base : Heap}
set_option maxHeartbeats 16000000 in
set_option pp.maxSteps 600 in
theorem ok_Policy_init (T : Txt K mg) : FnOk PP w K mg base CX0 8 T.a_Policy_init T.fd_Policy_init ["self", "shape", "rows"] (spPInit0 K T.c_Policy T.c_Way T.c_Shape) := by
  refine T.F_Policy_init.ok0 sc_Policy_init (fun vs H Q E h => ?_) (fun cdv A outer s H vs Q E hr h => ?_)
  · obtain ⟨y, dy, x, q, rs, rfl, _⟩ := h; rfl
  · obtain ⟨y, dy, x, q, rs, rfl, hy, hS, nd, lr, hq, qq⟩ := h
    refine ⟨_, (pss_cons (ps_set (i := 3) sc_Policy_init.nd rfl (.inl rfl) (pe_dnewK))
      (pss_cons (ps_set (i := 4) sc_Policy_init.nd rfl (.inl rfl) (pe_dnewK))
      (pss_cons (ps_for PassesOwn.never rfl (pi_own T.m_Shape_iter (ok_Shape_iter T) (hr.mono (by omega)) (pv 1)) (pg_name (i := 5) sc_Policy_init.nd rfl (.inl rfl)) (pss_cons (ps_dput (hu_of hr) (pv 3) (pv 5) (pe_bl) rfl)
      (pss_one (ps_dput (hu_of hr) (pv 4) (pv 5) (pe_tup pa_nil) rfl))))
      (pss_cons (ps_for PassesOwn.never rfl (pi_tup (pv 2)) (pg_tup rfl (pgs_cons (pg_name (i := 5) sc_Policy_init.nd rfl (.inl rfl)) (pgs_cons (pg_name (i := 6) sc_Policy_init.nd rfl (.inl rfl)) (pgs_cons (pg_name (i := 7) sc_Policy_init.nd rfl (.inl rfl)) pgs_nil)))) (pss_cons (ps_if (pt_cmpR (op_ninKd (hu_of hr)) (pv 5) (pv 3) (by with_unfolding_all rfl)) (pss_one (ps_never)) pss_nil)
      (pss_cons (ps_dput (hu_of hr) (pv 3) (pv 5) (pv 6) rfl)
      (pss_one (ps_dput (hu_of hr) (pv 4) (pv 5) (pe_callTy call_tuple_of (by rfl) T.n_tuple (by decide +kernel) (pa_cons (pv 7) pa_nil)) rfl)))))
      (pss_cons (ps_fld (pv 0) (pv 1) rfl)
      (pss_cons (ps_fld (pv 0) (pe_callTy (call_listI T.m_Shape_iter (ok_Shape_iter T) T.m_Shape_len (ok_Shape_len T) T.b_Shape_len rfl (hr.mono (by omega))) (by rfl) T.n_list (by decide +kernel) (pa_cons (pv 1) pa_nil)) rfl)
      (pss_cons (ps_fld (pv 0) (pv 3) rfl)
      (pss_one (ps_fld (pv 0) (pv 4) rfl))))))))), ?_⟩
    have big : 100000 < sizeLine := by decide
    obtain ⟨dx, l, mm, vs0, hx, hl, hrs, hmm⟩ := hS
    have lmk : (mks rs).length = rs.length := by unfold mks; rw [List.length_map]
    refine fun a ha => fun b hb => ?_
    have sa := same_new (o := .dK []) ha
    have sb := same_new (o := .dK []) hb
    have nab : a ≠ b := fun e => by rw [← e, upd_same] at hb; cases hb
    have hb0 := sa.free hb
    have e1 : (upd (upd H a (.dK [])) b (.dK [])) a = some (.dK (stK [])) := by rw [upd_ne nab, upd_same]; rfl
    have e2 : (upd (upd H a (.dK [])) b (.dK [])) b = some (.dK (wyK [])) := upd_same
    have sab := sa.trans sb
    revert e1 e2 sab
    generalize upd (upd H a (.dK [])) b (.dK []) = H2
    intro e1 e2 sab
    refine ⟨_, rfl, x, dx, mm, _, mksV rs, rfl, sab _ _ hx, sh_look2 l mm, SqL.of (sab _ _ hmm), for_list (K := K) (a := mm) (xs := mksV rs) (fun i σ H' => ∃ (x5 : Option V) (ls : List Lr), σ = [some (.ref y), some (.ref x), some (.ref q), some (.ref a), some (.ref b), x5, none, none] ∧ Same H H' ∧ H' a = some (.dK (stK ls)) ∧ H' b = some (.dK (wyK ls)) ∧ Paired (RlL T.c_Way H') ls (((mks rs).take i).map fun z => (z, false, []))) ⟨_, [], rfl, sab, e1, e2, by rw [List.take_zero]; exact .nil⟩ (fun i σ H' _ ⟨_, _, _, s, _⟩ => SqL.of (s _ _ hmm)) ?_ ?_⟩
    · rintro i v σ H3 hv ⟨x5, ls, rfl, s3, h3a, h3b, pr⟩
      obtain ⟨z, hz, rfl⟩ : ∃ z, (mks rs)[i]? = some z ∧ v = .str z := by
        unfold mksV at hv
        rw [List.getElem?_map] at hv
        cases e : rs[i]? with
        | none => rw [e] at hv; cases hv
        | some r => rw [e] at hv; exact ⟨r.mark, by unfold mks; rw [List.getElem?_map, e]; rfl, (Option.some.inj hv).symm⟩
      have hi := (List.getElem?_eq_some_iff.mp hz).1
      have lls : ls.length = i := by rw [pair_len' pr, List.length_map, List.length_take]; omega
      have fs := pair_fst pr
      rw [List.map_map] at fs
      have fs : ls.map (·.1) = (mks rs).take i := by rw [fs]; exact List.map_id _
      have nz : z ∉ ls.map (·.1) := by rw [fs]; exact fun h => (nodup_take.mp nd) i z hz h
      refine ⟨_, rfl, _, rfl, a, _, rfl, DPut.k (k := .inr z) h3a (by unfold stK; rw [List.length_map]; omega), ?_⟩
      have k3 : Kw T.c_Way H3 (upd H3 a (.dK (putK (stK ls) (.inr z) (.bl false)))) := .updD h3a
      have s4 := same_mut (o := .dK (putK (stK ls) (.inr z) (.bl false))) s3 ha
      have h4a : (upd H3 a (.dK (putK (stK ls) (.inr z) (.bl false)))) a = some (.dK (stK ls ++ [(.inr z, .bl false)])) := by rw [upd_same, L2.putK_new _ (by rw [valV_st, find_none nz]; rfl)]
      have h4b : (upd H3 a (.dK (putK (stK ls) (.inr z) (.bl false)))) b = some (.dK (wyK ls)) := by rw [upd_ne nab.symm]; exact h3b
      revert k3 s4 h4a h4b
      generalize upd H3 a (.dK (putK (stK ls) (.inr z) (.bl false))) = H4
      intro k3 s4 h4a h4b
      refine ⟨Nat.zero_le _, fun p np => ?_⟩
      have k4 : Kw T.c_Way H4 (upd H4 p (.tup [])) := .same (same_new np)
      have s5 := s4.trans (same_new (o := .tup []) np)
      have h5p : (upd H4 p (.tup [])) p = some (.tup []) := upd_same
      have h5a := same_new (o := .tup []) np _ _ h4a
      have h5b := same_new (o := .tup []) np _ _ h4b
      revert k4 s5 h5p h5a h5b
      generalize upd H4 p (.tup []) = H5
      intro k4 s5 h5p h5a h5b
      refine ⟨_, rfl, _, rfl, b, _, rfl, DPut.k (k := .inr z) h5b (by unfold wyK; rw [List.length_map]; omega), ?_⟩
      have k5 : Kw T.c_Way H5 (upd H5 b (.dK (putK (wyK ls) (.inr z) (.ref p)))) := .updD h5b
      refine ⟨_, ls ++ [(z, false, p)], rfl, same_mut s5 hb0, ?_, ?_, ?_⟩
      · rw [upd_ne nab, h5a]; unfold stK; rw [List.map_append]; rfl
      · rw [upd_same, L2.putK_new _ (by rw [valV_wy, find_none nz]; rfl)]; unfold wyK; rw [List.map_append]; rfl
      · rw [List.take_succ, hz, Option.toList_some, List.map_append]
        exact pair_app' (rlL_keep pr ((k3.trans k4).trans k5)) (.cons ⟨rfl, rfl, [], k5 _ _ h5p (.inl ⟨_, rfl⟩), .nil⟩ .nil)
    rintro σ H3 ⟨x5, ls0, rfl, s3, h3a, h3b, pr0⟩
    rw [show (mksV rs).length = (mks rs).length by unfold mksV; rw [List.length_map, lmk], List.take_length] at pr0
    refine ⟨_, rfl, q, rfl, ⟨_, hq _⟩, for_tup (K := K) (a := q) (xs := []) (fun i σ H' => ∃ (x5 x6 x7 : Option V), σ = [some (.ref y), some (.ref x), some (.ref q), some (.ref a), some (.ref b), x5, x6, x7] ∧ H' = H3) ⟨_, _, _, rfl, rfl⟩ (fun i σ H' _ _ => hq _) (fun i v σ H' hv _ => by simp at hv) ?_⟩
    rintro σ H4 ⟨x5', x6, x7, rfl, rfl⟩
    have s4 := s3
    have h4a := h3a
    have h4b := h3b
    have pr : Paired (RlL T.c_Way H4) ls0 (emptyR rs) := pr0
    obtain ⟨ls, els⟩ : ∃ ls, ls = ls0 := ⟨_, rfl⟩
    rw [← els] at h4a h4b pr
    have lmr : (emptyR rs).map (·.1) = mks rs := by
      unfold emptyR
      rw [List.map_map]; exact List.map_id _
    have nxy : x ≠ y := fun e => by
      rw [e, hy] at hx
      have hx := Option.some.inj hx
      injection hx with _ _ z
      exact nomatch z
    have nly : l ≠ y := fun e => by rw [e, hy] at hl; cases hl
    have nmy : mm ≠ y := fun e => by rw [e, hy] at hmm; cases hmm
    have nay : a ≠ y := fun e => by rw [e, hy] at ha; cases ha
    have nby : b ≠ y := fun e => by rw [e, hy] at hb0; cases hb0
    refine ⟨_, rfl, _, rfl, y, _, dy, _, rfl, s4 _ _ hy, T.cl_Policy, T.no_Policy_shape, by show 0 < 1000; decide, ?_⟩
    have k5 : Kw T.c_Way H4 (upd H4 y (.ins T.c_Policy dy (putF "shape" (.ref x) []))) := .upd (s4 _ _ hy) fun t => by
      rcases t with ⟨_, e⟩ | ⟨_, _, _, _, _, e⟩
      · cases e
      · injection e with _ _ e; exact nomatch e
    have b5 : But y H (upd H4 y (.ins T.c_Policy dy (putF "shape" (.ref x) []))) := fun c o n e => by rw [upd_ne n]; exact s4 _ _ e
    have h5y : (upd H4 y (.ins T.c_Policy dy (putF "shape" (.ref x) []))) y = some (.ins T.c_Policy dy [("shape", .ref x)]) := upd_same
    have h5a : (upd H4 y (.ins T.c_Policy dy (putF "shape" (.ref x) []))) a = some (.dK (stK ls)) := by rw [upd_ne nay]; exact h4a
    have h5b : (upd H4 y (.ins T.c_Policy dy (putF "shape" (.ref x) []))) b = some (.dK (wyK ls)) := by rw [upd_ne nby]; exact h4b
    revert k5 b5 h5y h5a h5b
    generalize upd H4 y (.ins T.c_Policy dy (putF "shape" (.ref x) [])) = H5
    intro k5 b5 h5y h5a h5b
    have sh5 : ShO T.c_Shape H5 x rs := ⟨dx, l, mm, vs0, b5 _ _ nxy hx, b5 _ _ nly hl, rowsT_keep hrs (fun c xs e => b5 _ _ (fun z => by rw [z, hy] at e; cases e) e), b5 _ _ nmy hmm⟩
    refine ⟨_, rfl, x, dx, mm, _, mksV rs, rfl, b5 _ _ nxy hx, sh_look2 l mm, SqL.of (b5 _ _ nmy hmm), by unfold mksV; rw [List.length_map]; omega, fun c nc => ⟨x, rs, rfl, sh5.same (same_new nc), ⟨_, rfl, by omega⟩, rfl⟩, fun m nm => ?_⟩
    have nmy' : m ≠ y := fun e => by rw [e, h5y] at nm; cases nm
    have nma : m ≠ a := fun e => by rw [e, h5a] at nm; cases nm
    have nmb : m ≠ b := fun e => by rw [e, h5b] at nm; cases nm
    refine ⟨_, rfl, y, _, dy, _, rfl, same_new nm _ _ h5y, T.cl_Policy, T.no_Policy__marks, by show 1 < 1000; decide, ?_⟩
    refine ⟨_, rfl, _, rfl, y, _, dy, _, rfl, upd_same, T.cl_Policy, T.no_Policy__starts, by show 2 < 1000; decide, ?_⟩
    refine ⟨_, rfl, _, rfl, y, _, dy, _, rfl, upd_same, T.cl_Policy, T.no_Policy__ways, by show 3 < 1000; decide, ?_⟩
    have nm0 : H m = none := b5.free nmy' nm
    have at' : ∀ {c : Addr} {o1 o2 o3 o4 : HO}, c ≠ y → (upd (upd (upd (upd H5 m o1) y o2) y o3) y o4) c = (upd H5 m o1) c := fun n => by rw [upd_ne n, upd_ne n, upd_ne n]
    refine qq m a b _ (fun c o n e => ?_) nm0 ha hb0 ⟨⟨dy, upd_same⟩, ?_, ⟨ls, ?_, ?_, rlL_keep pr (k5.trans fun c o e t => ?_)⟩, nab, by rw [lmr]; exact nd⟩
    · rw [at' n, upd_ne (fun z => by rw [z, nm0] at e; cases e)]; exact b5 _ _ n e
    · rw [at' nmy', upd_same]
      unfold mksV
      rw [show (List.map (fun r => V.str r.1) (emptyR rs)) = ((emptyR rs).map (·.1)).map V.str by rw [List.map_map]; rfl, lmr]
      unfold mks
      rw [List.map_map]; rfl
    · rw [at' nay, upd_ne nma.symm]; exact h5a
    · rw [at' nby, upd_ne nmb.symm]; exact h5b
    · have ncy : c ≠ y := fun z => by
        rw [z, h5y] at e; cases e
        rcases t with ⟨_, e⟩ | ⟨_, _, _, _, _, e⟩
        · cases e
        · injection e with _ _ e; exact nomatch e
      rw [at' ncy]; exact same_new nm _ _ e
end
end My

namespace My
open PySem L2
def spPInit (C Cw Cs : Addr) : Sp := fun vs H Q _ => ∃ (y dy x q : Addr) (us : List V) (rows : List Rl) (rs : List Row), vs = [.ref y, .ref x, .ref q] ∧ H y = some (.ins C dy []) ∧ ShO Cs H x rs ∧ (mks rs).Nodup ∧ rs.length ≤ 100 ∧ H q = some (.lst us) ∧ Paired (RwV Cw H) us rows ∧ (∀ r ∈ rows, r.1 ∈ mks rs) ∧
  ∀ m a b H', But y H H' → H m = none → H a = none → H b = none → Pol C Cw H' y x m a b (rows.foldl setR (emptyR rs)) → Q .non H'
section
variable {w : World} {K : PySem.W.Frag} {mg : Str → Option Value} {base : Heap}
set_option maxHeartbeats 16000000 in
set_option pp.maxSteps 600 in
theorem ok_Policy_init_l (T : Txt K mg) : FnOk PP w K mg base CX0 8 T.a_Policy_init T.fd_Policy_init ["self", "shape", "rows"] (spPInit T.c_Policy T.c_Way T.c_Shape) := by
  refine T.F_Policy_init.ok0 sc_Policy_init (fun vs H Q E h => ?_) (fun cdv A outer s H vs Q E hr h => ?_)
  · obtain ⟨y, dy, x, q, us, rows, rs, rfl, _⟩ := h; rfl
  · obtain ⟨y, dy, x, q, us, rows, rs, rfl, hy, hS, nd, lr, hq, hR, hm, qq⟩ := h
    refine ⟨_, (pss_cons (ps_set (i := 3) sc_Policy_init.nd rfl (.inl rfl) (pe_dnewK))
      (pss_cons (ps_set (i := 4) sc_Policy_init.nd rfl (.inl rfl) (pe_dnewK))
      (pss_cons (ps_for PassesOwn.never rfl (pi_own T.m_Shape_iter (ok_Shape_iter T) (hr.mono (by omega)) (pv 1)) (pg_name (i := 5) sc_Policy_init.nd rfl (.inl rfl)) (pss_cons (ps_dput (hu_of hr) (pv 3) (pv 5) (pe_bl) rfl)
      (pss_one (ps_dput (hu_of hr) (pv 4) (pv 5) (pe_tup pa_nil) rfl))))
      (pss_cons (ps_for PassesOwn.never rfl (pi_list (pv 2)) (pg_tup rfl (pgs_cons (pg_name (i := 5) sc_Policy_init.nd rfl (.inl rfl)) (pgs_cons (pg_name (i := 6) sc_Policy_init.nd rfl (.inl rfl)) (pgs_cons (pg_name (i := 7) sc_Policy_init.nd rfl (.inl rfl)) pgs_nil)))) (pss_cons (ps_if (pt_cmpR (op_ninKd (hu_of hr)) (pv 5) (pv 3) (by with_unfolding_all rfl)) (pss_one (ps_never)) pss_nil)
      (pss_cons (ps_dput (hu_of hr) (pv 3) (pv 5) (pv 6) rfl)
      (pss_one (ps_dput (hu_of hr) (pv 4) (pv 5) (pe_callTy call_tuple_of (by rfl) T.n_tuple (by decide +kernel) (pa_cons (pv 7) pa_nil)) rfl)))))
      (pss_cons (ps_fld (pv 0) (pv 1) rfl)
      (pss_cons (ps_fld (pv 0) (pe_callTy (call_listI T.m_Shape_iter (ok_Shape_iter T) T.m_Shape_len (ok_Shape_len T) T.b_Shape_len rfl (hr.mono (by omega))) (by rfl) T.n_list (by decide +kernel) (pa_cons (pv 1) pa_nil)) rfl)
      (pss_cons (ps_fld (pv 0) (pv 3) rfl)
      (pss_one (ps_fld (pv 0) (pv 4) rfl))))))))), ?_⟩
    have big : 100000 < sizeLine := by decide
    obtain ⟨dx, l, mm, vs0, hx, hl, hrs, hmm⟩ := hS
    have lus := pair_len' hR
    have lmk : (mks rs).length = rs.length := by unfold mks; rw [List.length_map]
    refine fun a ha => fun b hb => ?_
    have sa := same_new (o := .dK []) ha
    have sb := same_new (o := .dK []) hb
    have nab : a ≠ b := fun e => by rw [← e, upd_same] at hb; cases hb
    have hb0 := sa.free hb
    have e1 : (upd (upd H a (.dK [])) b (.dK [])) a = some (.dK (stK [])) := by rw [upd_ne nab, upd_same]; rfl
    have e2 : (upd (upd H a (.dK [])) b (.dK [])) b = some (.dK (wyK [])) := upd_same
    have sab := sa.trans sb
    revert e1 e2 sab
    generalize upd (upd H a (.dK [])) b (.dK []) = H2
    intro e1 e2 sab
    refine ⟨_, rfl, x, dx, mm, _, mksV rs, rfl, sab _ _ hx, sh_look2 l mm, SqL.of (sab _ _ hmm), for_list (K := K) (a := mm) (xs := mksV rs) (fun i σ H' => ∃ (x5 : Option V) (ls : List Lr), σ = [some (.ref y), some (.ref x), some (.ref q), some (.ref a), some (.ref b), x5, none, none] ∧ Same H H' ∧ H' a = some (.dK (stK ls)) ∧ H' b = some (.dK (wyK ls)) ∧ Paired (RlL T.c_Way H') ls (((mks rs).take i).map fun z => (z, false, []))) ⟨_, [], rfl, sab, e1, e2, by rw [List.take_zero]; exact .nil⟩ (fun i σ H' _ ⟨_, _, _, s, _⟩ => SqL.of (s _ _ hmm)) ?_ ?_⟩
    · rintro i v σ H3 hv ⟨x5, ls, rfl, s3, h3a, h3b, pr⟩
      obtain ⟨z, hz, rfl⟩ : ∃ z, (mks rs)[i]? = some z ∧ v = .str z := by
        unfold mksV at hv
        rw [List.getElem?_map] at hv
        cases e : rs[i]? with
        | none => rw [e] at hv; cases hv
        | some r => rw [e] at hv; exact ⟨r.mark, by unfold mks; rw [List.getElem?_map, e]; rfl, (Option.some.inj hv).symm⟩
      have hi := (List.getElem?_eq_some_iff.mp hz).1
      have lls : ls.length = i := by rw [pair_len' pr, List.length_map, List.length_take]; omega
      have fs := pair_fst pr
      rw [List.map_map] at fs
      have fs : ls.map (·.1) = (mks rs).take i := by rw [fs]; exact List.map_id _
      have nz : z ∉ ls.map (·.1) := by rw [fs]; exact fun h => (nodup_take.mp nd) i z hz h
      refine ⟨_, rfl, _, rfl, a, _, rfl, DPut.k (k := .inr z) h3a (by unfold stK; rw [List.length_map]; omega), ?_⟩
      have k3 : Kw T.c_Way H3 (upd H3 a (.dK (putK (stK ls) (.inr z) (.bl false)))) := .updD h3a
      have s4 := same_mut (o := .dK (putK (stK ls) (.inr z) (.bl false))) s3 ha
      have h4a : (upd H3 a (.dK (putK (stK ls) (.inr z) (.bl false)))) a = some (.dK (stK ls ++ [(.inr z, .bl false)])) := by rw [upd_same, L2.putK_new _ (by rw [valV_st, find_none nz]; rfl)]
      have h4b : (upd H3 a (.dK (putK (stK ls) (.inr z) (.bl false)))) b = some (.dK (wyK ls)) := by rw [upd_ne nab.symm]; exact h3b
      revert k3 s4 h4a h4b
      generalize upd H3 a (.dK (putK (stK ls) (.inr z) (.bl false))) = H4
      intro k3 s4 h4a h4b
      refine ⟨Nat.zero_le _, fun p np => ?_⟩
      have k4 : Kw T.c_Way H4 (upd H4 p (.tup [])) := .same (same_new np)
      have s5 := s4.trans (same_new (o := .tup []) np)
      have h5p : (upd H4 p (.tup [])) p = some (.tup []) := upd_same
      have h5a := same_new (o := .tup []) np _ _ h4a
      have h5b := same_new (o := .tup []) np _ _ h4b
      revert k4 s5 h5p h5a h5b
      generalize upd H4 p (.tup []) = H5
      intro k4 s5 h5p h5a h5b
      refine ⟨_, rfl, _, rfl, b, _, rfl, DPut.k (k := .inr z) h5b (by unfold wyK; rw [List.length_map]; omega), ?_⟩
      have k5 : Kw T.c_Way H5 (upd H5 b (.dK (putK (wyK ls) (.inr z) (.ref p)))) := .updD h5b
      refine ⟨_, ls ++ [(z, false, p)], rfl, same_mut s5 hb0, ?_, ?_, ?_⟩
      · rw [upd_ne nab, h5a]; unfold stK; rw [List.map_append]; rfl
      · rw [upd_same, L2.putK_new _ (by rw [valV_wy, find_none nz]; rfl)]; unfold wyK; rw [List.map_append]; rfl
      · rw [List.take_succ, hz, Option.toList_some, List.map_append]
        exact pair_app' (rlL_keep pr ((k3.trans k4).trans k5)) (.cons ⟨rfl, rfl, [], k5 _ _ h5p (.inl ⟨_, rfl⟩), .nil⟩ .nil)
    rintro σ H3 ⟨x5, ls0, rfl, s3, h3a, h3b, pr0⟩
    rw [show (mksV rs).length = (mks rs).length by unfold mksV; rw [List.length_map, lmk], List.take_length] at pr0
    have kq := Kw.same (Cw := T.c_Way) s3
    refine ⟨_, rfl, q, rfl, ⟨_, SqL.of (s3 _ _ hq)⟩, for_list (K := K) (a := q) (xs := us) (fun i σ H' => ∃ (x5 x6 x7 : Option V) (ls : List Lr), σ = [some (.ref y), some (.ref x), some (.ref q), some (.ref a), some (.ref b), x5, x6, x7] ∧ Same H H' ∧ H' a = some (.dK (stK ls)) ∧ H' b = some (.dK (wyK ls)) ∧ Paired (RlL T.c_Way H') ls ((rows.take i).foldl setR (emptyR rs))) ⟨_, _, _, ls0, rfl, s3, h3a, h3b, pr0⟩ (fun i σ H' _ ⟨_, _, _, _, _, s, _⟩ => SqL.of (s _ _ hq)) ?_ ?_⟩
    · rintro i v σ H4 hv ⟨x5', x6, x7, ls, rfl, s4, h4a, h4b, pr⟩
      obtain ⟨r, hr, p, t, rfl, hp, ht⟩ := pair_get' hR hv
      have fs : ls.map (·.1) = mks rs := by
        rw [pair_fst pr, setRs_fst]
        unfold emptyR
        rw [List.map_map]; exact List.map_id _
      have lls : ls.length = (mks rs).length := by rw [← fs, List.length_map]
      have mz : r.1 ∈ ls.map (·.1) := by rw [fs]; exact hm r (List.mem_of_getElem? hr)
      obtain ⟨q0, hq0⟩ := find_some mz
      obtain ⟨ts, hts, htw⟩ := ht.keep (Kw.same s4)
      have w4 : WysT T.c_Way H4 t r.2.2 := ⟨ts, hts, htw⟩
      refine ⟨p, _, rfl, SqT.of (s4 _ _ hp), rfl, _, _, rfl, _, _, rfl, _, _, rfl, rfl, ?_⟩
      refine ⟨_, rfl, _, rfl, a, _, rfl, DGet.k (k := .inr r.1) h4a, _, rfl, iteNo (by rw [valV_st, hq0]; rfl) ?_⟩
      refine ⟨_, rfl, _, rfl, _, rfl, a, _, rfl, DPut.k (k := .inr r.1) h4a (by unfold stK; rw [List.length_map]; omega), ?_⟩
      rw [put_st' (p := t) mz]
      have k4 : Kw T.c_Way H4 (upd H4 a (.dK (stK (setL ls r.1 r.2.1 t)))) := .updD h4a
      have h5b : (upd H4 a (.dK (stK (setL ls r.1 r.2.1 t)))) b = some (.dK (wyK ls)) := by rw [upd_ne nab.symm]; exact h4b
      have h5t := k4 _ _ hts (.inl ⟨_, rfl⟩)
      refine ⟨_, rfl, t, _, rfl, .inr ⟨SqT.of h5t, ?_⟩⟩
      refine ⟨_, rfl, _, rfl, b, _, rfl, DPut.k (k := .inr r.1) h5b (by unfold wyK; rw [List.length_map]; omega), ?_⟩
      rw [put_wy' (st := r.2.1) mz]
      have k5 : Kw T.c_Way (upd H4 a (.dK (stK (setL ls r.1 r.2.1 t)))) (upd (upd H4 a (.dK (stK (setL ls r.1 r.2.1 t)))) b (.dK (wyK (setL ls r.1 r.2.1 t)))) := .updD h5b
      refine ⟨_, _, _, setL ls r.1 r.2.1 t, rfl, same_mut (same_mut s4 ha) hb0, by rw [upd_ne nab, upd_same], upd_same, ?_⟩
      rw [List.take_succ, hr, Option.toList_some, List.foldl_append]
      exact rlL_keep (setL_pair (w4) pr) (k4.trans k5)
    rintro σ H4 ⟨x5', x6, x7, ls, rfl, s4, h4a, h4b, pr⟩
    rw [lus, List.take_length] at pr
    have lmr : (rows.foldl setR (emptyR rs)).map (·.1) = mks rs := by
      rw [setRs_fst]
      unfold emptyR
      rw [List.map_map]; exact List.map_id _
    have nxy : x ≠ y := fun e => by
      rw [e, hy] at hx
      have hx := Option.some.inj hx
      injection hx with _ _ z
      exact nomatch z
    have nly : l ≠ y := fun e => by rw [e, hy] at hl; cases hl
    have nmy : mm ≠ y := fun e => by rw [e, hy] at hmm; cases hmm
    have nay : a ≠ y := fun e => by rw [e, hy] at ha; cases ha
    have nby : b ≠ y := fun e => by rw [e, hy] at hb0; cases hb0
    refine ⟨_, rfl, _, rfl, y, _, dy, _, rfl, s4 _ _ hy, T.cl_Policy, T.no_Policy_shape, by show 0 < 1000; decide, ?_⟩
    have k5 : Kw T.c_Way H4 (upd H4 y (.ins T.c_Policy dy (putF "shape" (.ref x) []))) := .upd (s4 _ _ hy) fun t => by
      rcases t with ⟨_, e⟩ | ⟨_, _, _, _, _, e⟩
      · cases e
      · injection e with _ _ e; exact nomatch e
    have b5 : But y H (upd H4 y (.ins T.c_Policy dy (putF "shape" (.ref x) []))) := fun c o n e => by rw [upd_ne n]; exact s4 _ _ e
    have h5y : (upd H4 y (.ins T.c_Policy dy (putF "shape" (.ref x) []))) y = some (.ins T.c_Policy dy [("shape", .ref x)]) := upd_same
    have h5a : (upd H4 y (.ins T.c_Policy dy (putF "shape" (.ref x) []))) a = some (.dK (stK ls)) := by rw [upd_ne nay]; exact h4a
    have h5b : (upd H4 y (.ins T.c_Policy dy (putF "shape" (.ref x) []))) b = some (.dK (wyK ls)) := by rw [upd_ne nby]; exact h4b
    revert k5 b5 h5y h5a h5b
    generalize upd H4 y (.ins T.c_Policy dy (putF "shape" (.ref x) [])) = H5
    intro k5 b5 h5y h5a h5b
    have sh5 : ShO T.c_Shape H5 x rs := ⟨dx, l, mm, vs0, b5 _ _ nxy hx, b5 _ _ nly hl, rowsT_keep hrs (fun c xs e => b5 _ _ (fun z => by rw [z, hy] at e; cases e) e), b5 _ _ nmy hmm⟩
    refine ⟨_, rfl, x, dx, mm, _, mksV rs, rfl, b5 _ _ nxy hx, sh_look2 l mm, SqL.of (b5 _ _ nmy hmm), by unfold mksV; rw [List.length_map]; omega, fun c nc => ⟨x, rs, rfl, sh5.same (same_new nc), ⟨_, rfl, by omega⟩, rfl⟩, fun m nm => ?_⟩
    have nmy' : m ≠ y := fun e => by rw [e, h5y] at nm; cases nm
    have nma : m ≠ a := fun e => by rw [e, h5a] at nm; cases nm
    have nmb : m ≠ b := fun e => by rw [e, h5b] at nm; cases nm
    refine ⟨_, rfl, y, _, dy, _, rfl, same_new nm _ _ h5y, T.cl_Policy, T.no_Policy__marks, by show 1 < 1000; decide, ?_⟩
    refine ⟨_, rfl, _, rfl, y, _, dy, _, rfl, upd_same, T.cl_Policy, T.no_Policy__starts, by show 2 < 1000; decide, ?_⟩
    refine ⟨_, rfl, _, rfl, y, _, dy, _, rfl, upd_same, T.cl_Policy, T.no_Policy__ways, by show 3 < 1000; decide, ?_⟩
    have nm0 : H m = none := b5.free nmy' nm
    have at' : ∀ {c : Addr} {o1 o2 o3 o4 : HO}, c ≠ y → (upd (upd (upd (upd H5 m o1) y o2) y o3) y o4) c = (upd H5 m o1) c := fun n => by rw [upd_ne n, upd_ne n, upd_ne n]
    refine qq m a b _ (fun c o n e => ?_) nm0 ha hb0 ⟨⟨dy, upd_same⟩, ?_, ⟨ls, ?_, ?_, rlL_keep pr (k5.trans fun c o e t => ?_)⟩, nab, by rw [lmr]; exact nd⟩
    · rw [at' n, upd_ne (fun z => by rw [z, nm0] at e; cases e)]; exact b5 _ _ n e
    · rw [at' nmy', upd_same]
      unfold mksV
      rw [show (List.map (fun r => V.str r.1) (rows.foldl setR (emptyR rs))) = ((rows.foldl setR (emptyR rs)).map (·.1)).map V.str by rw [List.map_map]; rfl, lmr]
      unfold mks
      rw [List.map_map]; rfl
    · rw [at' nay, upd_ne nma.symm]; exact h5a
    · rw [at' nby, upd_ne nmb.symm]; exact h5b
    · have ncy : c ≠ y := fun z => by
        rw [z, h5y] at e; cases e
        rcases t with ⟨_, e⟩ | ⟨_, _, _, _, _, e⟩
        · cases e
        · injection e with _ _ e; exact nomatch e
      rw [at' ncy]; exact same_new nm _ _ e
end
end My

namespace My
open PySem L2
theorem find_at : ∀ {ls : List Lr} {i : Nat} {q : Lr}, (ls.map (·.1)).Nodup → ls[i]? = some q → (ls.find? fun p => decide (p.1 = q.1)) = some q
  | [], _, _, _, e => by simp at e
  | q0 :: ls, 0, q, _, e => by
    simp at e
    rw [List.find?_cons, decide_eq_true (by rw [e])]
    exact congrArg some e
  | q0 :: ls, i + 1, q, nd, e => by
    have e : ls[i]? = some q := by simpa using e
    have nd := List.nodup_cons.mp (by simpa using nd : (q0.1 :: ls.map (·.1)).Nodup)
    have ne : q0.1 ≠ q.1 := fun h => nd.1 (h ▸ List.mem_map.mpr ⟨q, List.mem_of_getElem? e, rfl⟩)
    rw [List.find?_cons, decide_eq_false ne]
    exact find_at nd.2 e
theorem dget_st {H : Hp} {a : Addr} {ls : List Lr} {z : Str} {q : Lr} (h : H a = some (.dK (stK ls))) (e : (ls.find? fun p => decide (p.1 = z)) = some q) : DGet H a (.str z) (some (.bl q.2.1)) := by
  have d := DGet.k (k := .inr z) h
  rw [valV_st, e] at d; exact d
theorem dget_wy {H : Hp} {a : Addr} {ls : List Lr} {z : Str} {q : Lr} (h : H a = some (.dK (wyK ls))) (e : (ls.find? fun p => decide (p.1 = z)) = some q) : DGet H a (.str z) (some (.ref q.2.2)) := by
  have d := DGet.k (k := .inr z) h
  rw [valV_wy, e] at d; exact d
theorem Pol.same {C Cw : Addr} {H H' : Hp} {y x m a b : Addr} {rl : List Rl} (P : Pol C Cw H y x m a b rl) (s : Same H H') : Pol C Cw H' y x m a b rl := by
  obtain ⟨⟨dy, hy⟩, hm, ⟨ls, ha, hb, pr⟩, ne, nd⟩ := P
  exact ⟨⟨dy, s _ _ hy⟩, s _ _ hm, ⟨ls, s _ _ ha, s _ _ hb, rlL_keep pr (.same s)⟩, ne, nd⟩
theorem Pol.le {C Cw : Addr} {A : List Addr} {H H' : Hp} {y x m a b : Addr} {rl : List Rl} (P : Pol C Cw H y x m a b rl) (s : Le A H H') (k : Kw Cw H H') (n : ∀ c ∈ [y, m, a, b], c ∉ A) : Pol C Cw H' y x m a b rl := by
  obtain ⟨⟨dy, hy⟩, hm, ⟨ls, ha, hb, pr⟩, ne, nd⟩ := P
  exact ⟨⟨dy, s _ _ (n y (by simp)) hy⟩, s _ _ (n m (by simp)) hm, ⟨ls, s _ _ (n a (by simp)) ha, s _ _ (n b (by simp)) hb, rlL_keep pr k⟩, ne, nd⟩
theorem fold_setR (f : Str → Rl) (hf : ∀ z, (f z).1 = z) : ∀ (ms : List Str) (rl : List Rl), (ms.map f).foldl setR rl = rl.map fun q => if q.1 ∈ ms then f q.1 else q
  | [], rl => by simp
  | z :: ms, rl => by
    rw [List.map_cons, List.foldl_cons, fold_setR f hf ms]
    unfold setR
    rw [List.map_map]
    refine List.map_congr_left fun q _ => ?_
    show (if (if q.1 = (f z).1 then f z else q).1 ∈ ms then f (if q.1 = (f z).1 then f z else q).1 else (if q.1 = (f z).1 then f z else q)) = _
    rw [hf]
    by_cases e : q.1 = z
    · rw [if_pos e, hf, e, if_pos (List.mem_cons_self)]
      split <;> rfl
    · rw [if_neg e]
      by_cases m : q.1 ∈ ms
      · rw [if_pos m, if_pos (List.mem_cons_of_mem _ m)]
      · rw [if_neg m, if_neg (fun h => (List.mem_cons.mp h).elim e m)]
theorem fold_all (f : Str → Rl) (hf : ∀ z, (f z).1 = z) (rs : List Row) : ((mks rs).map f).foldl setR (emptyR rs) = (mks rs).map f := by
  rw [fold_setR f hf]
  unfold emptyR
  rw [List.map_map]
  refine List.map_congr_left fun z hz => ?_
  show (if z ∈ mks rs then f z else (z, false, [])) = f z
  rw [if_pos hz]
theorem free_make {H : Hp} {y dy c : Addr} {o o' : HO} (ny : H y = none) (ndy : H dy = none) (ne : dy ≠ y) (h : (upd (upd H dy o) y o') c = none) : H c = none := by
  have n1 : c ≠ y := fun e => by rw [e, upd_same] at h; cases h
  rw [upd_ne n1] at h
  exact (same_new ndy).free h
end My

namespace My
open PySem L2
def spPGet (C Cw : Addr) : Sp := fun vs H Q _ => ∃ (y x m a b : Addr) (rl : List Rl) (z : Str) (r : Rl), vs = [.ref y, .str z] ∧ Pol C Cw H y x m a b rl ∧ lookR rl z = some r ∧
  ∀ u t H', Same H H' → H u = none → H' u = some (.tup [.bl r.2.1, .ref t]) → WysT Cw H' t r.2.2 → Q (.ref u) H'
section
variable {w : World} {K : PySem.W.Frag} {mg : Str → Option Value} {base : Heap}
set_option pp.maxSteps 600 in
theorem ok_Policy_getitem (T : Txt K mg) : FnOk PP w K mg base CX0 1 T.a_Policy_getitem T.fd_Policy_getitem ["self", "mark"] (spPGet T.c_Policy T.c_Way) := by
  refine T.F_Policy_getitem.ok sc_Policy_getitem (fun vs H Q E h => ?_) (fun cdv A outer s H vs Q E hr h => ?_)
  · obtain ⟨y, x, m, a, b, rl, z, r, rfl, _⟩ := h; rfl
  · obtain ⟨y, x, m, a, b, rl, z, r, rfl, ⟨⟨dy, hy⟩, hm, ⟨ls, ha, hb, pr⟩, ne, nd⟩, hz, q⟩ := h
    refine ⟨_, (pss_cons (ps_if (pt_cmpR (op_ninKd (hu_of hr)) (pv 1) (pe_fld (pv 0) rfl) (by with_unfolding_all rfl)) (pss_one (ps_never)) pss_nil)
      (pss_one (ps_ret (pe_tup (pa_cons (pe_dget (hu_of hr) (pe_fld (pv 0) rfl) (pv 1) (fun _ _ => rfl)) (pa_cons (pe_dget (hu_of hr) (pe_fld (pv 0) rfl) (pv 1) (fun _ _ => rfl)) pa_nil)))))), ?_⟩
    obtain ⟨q0, hq0, rl0⟩ : ∃ q0, (ls.find? fun p => decide (p.1 = z)) = some q0 ∧ RlL T.c_Way H q0 r := by
      rcases find_pair (z := z) pr with ⟨r', q', e1, e2, e3⟩ | ⟨e1, _⟩
      · rw [hz] at e1; cases e1; exact ⟨q', e2, e3⟩
      · rw [hz] at e1; cases e1
    refine ⟨_, rfl, _, rfl, y, _, dy, _, _, rfl, hy, T.cl_Policy, T.no_Policy__starts, polF3 x m a b, a, _, rfl, dget_st ha hq0, _, rfl, iteNo rfl ?_⟩
    refine ⟨_, rfl, y, _, dy, _, _, rfl, hy, T.cl_Policy, T.no_Policy__starts, polF3 x m a b, _, rfl, a, _, rfl, dget_st ha hq0, ?_⟩
    refine ⟨_, rfl, y, _, dy, _, _, rfl, hy, T.cl_Policy, T.no_Policy__ways, polF4 x m a b, _, rfl, b, _, rfl, dget_wy hb hq0, ?_⟩
    refine ⟨by show 2 ≤ sizeLine; decide, fun u nu => ?_⟩
    exact q u q0.2.2 _ (same_new nu) nu (by rw [upd_same, rl0.2.1]) (rl0.2.2.keep (.same (same_new nu)))
end
end My

namespace My
open PySem L2
def spPSet (C Cw : Addr) : Sp := fun vs H Q _ => ∃ (y x m a b u t : Addr) (rl : List Rl) (z : Str) (st : Bool) (ws : List Wv), vs = [.ref y, .str z, .ref u] ∧ Pol C Cw H y x m a b rl ∧ rl.length ≤ 1000 ∧ z ∈ rl.map (·.1) ∧ H u = some (.tup [.bl st, .ref t]) ∧ WysT Cw H t ws ∧
  ∀ H', Le [a, b] H H' → Kw Cw H H' → Pol C Cw H' y x m a b (setR rl (z, st, ws)) → Q .non H'
section
variable {w : World} {K : PySem.W.Frag} {mg : Str → Option Value} {base : Heap}
set_option pp.maxSteps 600 in
theorem ok_Policy_setitem (T : Txt K mg) : FnOk PP w K mg base CX0 1 T.a_Policy_setitem T.fd_Policy_setitem ["self", "mark", "rule"] (spPSet T.c_Policy T.c_Way) := by
  refine T.F_Policy_setitem.ok sc_Policy_setitem (fun vs H Q E h => ?_) (fun cdv A outer s H vs Q E hr h => ?_)
  · obtain ⟨y, x, m, a, b, u, t, rl, z, st, ws, rfl, _⟩ := h; rfl
  · obtain ⟨y, x, m, a, b, u, t, rl, z, st, ws, rfl, ⟨⟨dy, hy⟩, hm, ⟨ls, ha, hb, pr⟩, ne, nd⟩, lrl, hz, hu, ht, q⟩ := h
    refine ⟨_, (pss_cons (ps_if (pt_cmpR (op_ninKd (hu_of hr)) (pv 1) (pe_fld (pv 0) rfl) (by with_unfolding_all rfl)) (pss_one (ps_never)) pss_nil)
      (pss_cons (ps_asg (pv 2) (pg_tup rfl (pgs_cons (pg_name (i := 3) sc_Policy_setitem.nd rfl (.inl rfl)) (pgs_cons (pg_name (i := 4) sc_Policy_setitem.nd rfl (.inl rfl)) pgs_nil))))
      (pss_cons (ps_dput (hu_of hr) (pe_fld (pv 0) rfl) (pv 1) (pv 3) rfl)
      (pss_one (ps_dput (hu_of hr) (pe_fld (pv 0) rfl) (pv 1) (pe_callTy call_tuple_of (by rfl) T.n_tuple (by decide +kernel) (pa_cons (pv 4) pa_nil)) rfl))))), ?_⟩
    have big : 100000 < sizeLine := by decide
    have lls := pair_len' pr
    have mz : z ∈ ls.map (·.1) := by rw [pair_fst pr]; exact hz
    obtain ⟨q0, hq0⟩ := find_some mz
    obtain ⟨ts, hts, htw⟩ := ht
    refine ⟨_, rfl, _, rfl, y, _, dy, _, _, rfl, hy, T.cl_Policy, T.no_Policy__starts, polF3 x m a b, a, _, rfl, dget_st ha hq0, _, rfl, iteNo rfl ?_⟩
    refine ⟨_, rfl, u, _, rfl, SqT.of hu, rfl, _, _, rfl, _, _, rfl, rfl, ?_⟩
    have nay : y ≠ a := fun e => by rw [e, ha] at hy; cases hy
    have nby : y ≠ b := fun e => by rw [e, hb] at hy; cases hy
    have nma : m ≠ a := fun e => by rw [e, ha] at hm; cases hm
    have nmb : m ≠ b := fun e => by rw [e, hb] at hm; cases hm
    refine ⟨_, rfl, _, rfl, y, _, dy, _, _, rfl, hy, T.cl_Policy, T.no_Policy__starts, polF3 x m a b, _, rfl, a, _, rfl, DPut.k (k := .inr z) ha (by unfold stK; rw [List.length_map]; omega), ?_⟩
    rw [put_st' (p := t) mz]
    have k1 : Kw T.c_Way H (upd H a (.dK (stK (setL ls z st t)))) := .updD ha
    have h1b : (upd H a (.dK (stK (setL ls z st t)))) b = some (.dK (wyK ls)) := by rw [upd_ne ne.symm]; exact hb
    have h1y : (upd H a (.dK (stK (setL ls z st t)))) y = some (.ins T.c_Policy dy [("shape", .ref x), ("_marks", .ref m), ("_starts", .ref a), ("_ways", .ref b)]) := by rw [upd_ne nay]; exact hy
    refine ⟨_, rfl, t, _, rfl, .inr ⟨SqT.of (k1 _ _ hts (.inl ⟨_, rfl⟩)), ?_⟩⟩
    refine ⟨_, rfl, y, _, dy, _, _, rfl, h1y, T.cl_Policy, T.no_Policy__ways, polF4 x m a b, _, rfl, b, _, rfl, DPut.k (k := .inr z) h1b (by unfold wyK; rw [List.length_map]; omega), ?_⟩
    rw [put_wy' (st := st) mz]
    have k2 : Kw T.c_Way (upd H a (.dK (stK (setL ls z st t)))) (upd (upd H a (.dK (stK (setL ls z st t)))) b (.dK (wyK (setL ls z st t)))) := .updD h1b
    refine q _ (fun c o n e => ?_) (k1.trans k2) ⟨⟨dy, by rw [upd_ne nby]; exact h1y⟩, ?_, ⟨setL ls z st t, by rw [upd_ne ne, upd_same], upd_same, ?_⟩, ne, by rw [setR_fst]; exact nd⟩
    · simp only [List.mem_cons, List.not_mem_nil, or_false, not_or] at n
      rw [upd_ne n.2, upd_ne n.1]; exact e
    · rw [upd_ne nmb, upd_ne nma, hm]
      have e := congrArg (List.map V.str) (setR_fst rl (z, st, ws))
      rw [List.map_map, List.map_map] at e
      exact congrArg (fun l => some (HO.lst l)) e.symm
    · exact rlL_keep (setL_pair (r := (z, st, ws)) ⟨ts, hts, htw⟩ pr) (k1.trans k2)
end
end My

namespace My
open PySem L2
def spPolLen (C Cw : Addr) : Sp := fun vs H Q _ => ∃ (y x m a b : Addr) (rl : List Rl), vs = [.ref y] ∧ Pol C Cw H y x m a b rl ∧ Q (.int rl.length) H
section
variable {w : World} {K : PySem.W.Frag} {mg : Str → Option Value} {base : Heap}
end
end My

namespace My
open PySem L2
def spPStarts (C Cw : Addr) : Sp := fun vs H Q _ => ∃ (y x m a b : Addr) (rl : List Rl), vs = [.ref y] ∧ Pol C Cw H y x m a b rl ∧ rl.length ≤ 1000 ∧
  ∀ u H', Same H H' → H u = none → H' u = some (.tup ((rl.filter (·.2.1)).map fun r => .str r.1)) → Q (.ref u) H'
section
variable {w : World} {K : PySem.W.Frag} {mg : Str → Option Value} {base : Heap}
set_option pp.maxSteps 600 in
theorem ok_Policy_starts (T : Txt K mg) : FnOk PP w K mg base CX0 1 T.a_Policy_starts T.fd_Policy_starts ["self"] (spPStarts T.c_Policy T.c_Way) := by
  refine T.F_Policy_starts.ok sc_Policy_starts (fun vs H Q E h => ?_) (fun cdv A outer s H vs Q E hr h => ?_)
  · obtain ⟨y, x, m, a, b, rl, rfl, _⟩ := h; rfl
  · obtain ⟨y, x, m, a, b, rl, rfl, ⟨⟨dy, hy⟩, hm, ⟨ls, ha, hb, pr⟩, ne, nd⟩, lrl, q⟩ := h
    refine ⟨_, (pss_one (ps_ret (pe_callTy call_tuple_of (by rfl) T.n_tuple (by decide +kernel) (pa_cons (pe_lc (own := [("mark", 1)]) (g := (gName 1)) (by rfl) sc_Policy_starts.nd (pi_list (pe_fld (pv 0) rfl)) (blkOk_by (own := [("mark", 1)]) (N := ["self", "mark"]) (sc := defScope S_Policy_starts) (by decide +kernel)) (fun _ _ _ _ _ => (pg_name (i := 1) sc_Policy_starts.nd rfl (by first | exact .inl rfl | exact .inr rfl))) (fun _ _ _ _ _ => (pts_one (pt_val (pe_dget (hu_of hr) (pe_fldK (K := K) rfl (pv 0) rfl) (pv 1) (fun _ _ => rfl))))) (fun _ _ _ _ _ => (pv 1))) pa_nil)))), ?_⟩
    have big : 100000 < sizeLine := by decide
    have lls := pair_len' pr
    refine ⟨_, rfl, y, _, dy, _, _, rfl, hy, T.cl_Policy, T.no_Policy__marks, polF2 x m a b, m, rfl, ⟨_, SqL.of hm⟩, fun D hD => lc_list (K := K) (a := m) (xs := rl.map fun r => .str r.1) (fun i H' => Same H H' ∧ H' D = some (.lst (((rl.take i).filter (·.2.1)).map fun r => .str r.1))) ⟨same_new hD, upd_same⟩ (fun i H' _ h => SqL.of (h.1 _ _ hm)) ?_ ?_⟩
    · rintro i v H1 hv ⟨s1, h1⟩
      obtain ⟨r, hr, rfl⟩ : ∃ r, rl[i]? = some r ∧ v = .str r.1 := by
        rw [List.getElem?_map] at hv
        cases e : rl[i]? with
        | none => rw [e] at hv; cases hv
        | some r => rw [e] at hv; exact ⟨r, rfl, (Option.some.inj hv).symm⟩
      have hi := (List.getElem?_eq_some_iff.mp hr).1
      obtain ⟨q0, e0, r1⟩ : ∃ q0, ls[i]? = some q0 ∧ RlL T.c_Way H q0 r := by
        have hi' : i < ls.length := by omega
        obtain ⟨r', e1, e2⟩ := pair_get' pr (List.getElem?_eq_getElem hi')
        rw [hr] at e1; cases e1
        exact ⟨_, List.getElem?_eq_getElem hi', e2⟩
      have f0 := find_at (by rw [pair_fst pr]; exact nd) e0
      rw [r1.1] at f0
      have ht : (((rl.take (i + 1)).filter (·.2.1)).map fun r => V.str r.1) = (((rl.take i).filter (·.2.1)).map fun r => V.str r.1) ++ (if r.2.1 then [V.str r.1] else []) := by
        rw [List.take_add_one, hr, Option.toList_some, List.filter_append, List.map_append]
        congr 1
        cases e : r.2.1 <;> simp [e]
      rw [ht]
      refine ⟨rfl, _, rfl, y, _, dy, _, _, rfl, s1 _ _ hy, T.cl_Policy, T.no_Policy__starts, polF3 x m a b, _, rfl, a, _, rfl, dget_st (s1 _ _ ha) f0, _, rfl, ?_⟩
      rw [r1.2.1]
      have lf : (((rl.take i).filter (·.2.1)).map fun r => V.str r.1).length < sizeLine := by
        rw [List.length_map]
        have := List.length_filter_le (fun r : Rl => r.2.1) (rl.take i)
        rw [List.length_take] at this
        omega
      cases c : r.2.1 with
      | true => exact iteT ⟨_, rfl, _, h1, lf, same_mut s1 hD, upd_same⟩
      | false => exact iteNo rfl ⟨s1, by rw [h1]; simp⟩
    rintro H1 ⟨s1, h1⟩
    rw [List.length_map, List.take_length] at h1
    refine ⟨D, _, rfl, .inl ⟨SqL.of h1, fun u nu => ?_⟩⟩
    exact q u _ (s1.trans (same_new nu)) (s1.free nu) upd_same
end
end My

namespace My
open PySem L2
/-- the law's ways in a list -/
def LwV (H : Hp) (v : V) (k : Wv) : Prop := ∃ q, v = .ref q ∧ H q = some (LwO k.1 k.2.1 k.2.2.1 k.2.2.2) ∧ Adj k.1 k.2.1 k.2.2.1
theorem LwV.same {H H' : Hp} {v : V} {k : Wv} (h : LwV H v k) (s : Same H H') : LwV H' v k := let ⟨q, e, f, g⟩ := h; ⟨q, e, s _ _ f, g⟩
/-- the law's own rules in a dict -/
def RdV (H : Hp) (kv : Key × V) (r : Rl) : Prop := kv.1 = .inr r.1 ∧ ∃ q p us, kv.2 = .ref q ∧ H q = some (.lst [.bl r.2.1, .ref p]) ∧ H p = some (.lst us) ∧ Paired (LwV H) us r.2.2 ∧ us.length ≤ 100
theorem RdV.same {H H' : Hp} {kv : Key × V} {r : Rl} (h : RdV H kv r) (s : Same H H') : RdV H' kv r := let ⟨a, q, p, us, e, f, g, k, l⟩ := h; ⟨a, q, p, us, e, s _ _ f, s _ _ g, L2.Paired.mapP k fun _ _ x => x.same s, l⟩
theorem look_at : ∀ {rl : List Rl} {i : Nat} {r : Rl}, (rl.map (·.1)).Nodup → rl[i]? = some r → lookR rl r.1 = some r
  | [], _, _, _, e => by simp at e
  | q0 :: rl, 0, r, _, e => by
    simp at e
    unfold lookR
    rw [List.find?_cons, decide_eq_true (by rw [e])]
    exact congrArg some e
  | q0 :: rl, i + 1, r, nd, e => by
    have e : rl[i]? = some r := by simpa using e
    have nd := List.nodup_cons.mp (by simpa using nd : (q0.1 :: rl.map (·.1)).Nodup)
    have ne : q0.1 ≠ r.1 := fun h => nd.1 (h ▸ List.mem_map.mpr ⟨r, List.mem_of_getElem? e, rfl⟩)
    unfold lookR
    rw [List.find?_cons, decide_eq_false ne]
    exact look_at nd.2 e
theorem val_rd {H : Hp} : ∀ {kvs : List (Key × V)} {rl : List Rl} {i : Nat} {r : Rl}, Paired (RdV H) kvs rl → (rl.map (·.1)).Nodup → rl[i]? = some r → ∃ kv, valV kvs (.inr r.1) = some kv.2 ∧ RdV H kv r
  | _, _, _, _, .nil, _, e => by simp at e
  | kv :: kvs, q0 :: rl, 0, r, .cons h t, _, e => by
    simp at e; subst e
    exact ⟨kv, by rw [valV_pos h.1], h⟩
  | kv :: kvs, q0 :: rl, i + 1, r, .cons h t, nd, e => by
    have e : rl[i]? = some r := by simpa using e
    have nd := List.nodup_cons.mp (by simpa using nd : (q0.1 :: rl.map (·.1)).Nodup)
    have ne : q0.1 ≠ r.1 := fun h => nd.1 (h ▸ List.mem_map.mpr ⟨r, List.mem_of_getElem? e, rfl⟩)
    rw [valV_neg (by rw [h.1]; exact fun z => ne (by injection z))]
    exact val_rd t nd.2 e
end My

namespace My
open PySem L2
def LkS (t : Addr) (H H' : Hp) : Prop := ∀ a xs, a ≠ t → H a = some (.lst xs) → H' a = some (.lst xs)
theorem LkS.same {t : Addr} {H H' : Hp} (s : Same H H') : LkS t H H' := fun a xs _ e => s _ _ e
theorem LkS.but {t : Addr} {H H' : Hp} (b : But t H H') : LkS t H H' := fun a xs n e => b _ _ n e
theorem LkS.trans {t : Addr} {H H1 H2 : Hp} (x : LkS t H H1) (y : LkS t H1 H2) : LkS t H H2 := fun a xs n e => y a xs n (x a xs n e)
theorem LkS.updD {t g : Addr} {H : Hp} {kvs : List (Key × V)} {o : HO} (h : H g = some (.dK kvs)) : LkS t H (L2.upd H g o) := fun a xs _ e => by rw [upd_ne (fun z => by rw [z, h] at e; cases e)]; exact e
def LwN (t : Addr) (H : Hp) (v : V) (k : Wv) : Prop := ∃ q, v = .ref q ∧ q ≠ t ∧ H q = some (LwO k.1 k.2.1 k.2.2.1 k.2.2.2) ∧ Adj k.1 k.2.1 k.2.2.1
theorem LwN.keep {t : Addr} {H H' : Hp} {v : V} {k : Wv} (h : LwN t H v k) (b : LkS t H H') : LwN t H' v k := let ⟨q, e, n, f, g⟩ := h; ⟨q, e, n, b _ _ n f, g⟩
def RdN (t : Addr) (H : Hp) (kv : Key × V) (r : Rl) : Prop := kv.1 = .inr r.1 ∧ ∃ q p us, kv.2 = .ref q ∧ q ≠ t ∧ H q = some (.lst [.bl r.2.1, .ref p]) ∧ p ≠ t ∧ H p = some (.lst us) ∧ Paired (LwN t H) us r.2.2 ∧ us.length ≤ 100
theorem RdN.keep {t : Addr} {H H' : Hp} {kv : Key × V} {r : Rl} (h : RdN t H kv r) (b : LkS t H H') : RdN t H' kv r := let ⟨a, q, p, us, e, n, f, n2, g, k, l⟩ := h; ⟨a, q, p, us, e, n, b _ _ n f, n2, b _ _ n2 g, L2.Paired.mapP k fun _ _ x => x.keep b, l⟩
theorem rd_none {t : Addr} {H : Hp} {z : Str} : ∀ {kvs : List (Key × V)} {rl : List Rl}, Paired (RdN t H) kvs rl → z ∉ rl.map (·.1) → valV kvs (.inr z) = none
  | _, _, .nil, _ => rfl
  | kv :: kvs, r :: rl, .cons h p, n => by
    rw [List.map_cons, List.mem_cons, not_or] at n
    rw [valV_neg (by rw [h.1]; exact fun e => n.1 (by injection e with e; exact e.symm))]
    exact rd_none p n.2
theorem val_rdn {t : Addr} {H : Hp} : ∀ {kvs : List (Key × V)} {rl : List Rl} {i : Nat} {r : Rl}, Paired (RdN t H) kvs rl → (rl.map (·.1)).Nodup → rl[i]? = some r → ∃ kv, valV kvs (.inr r.1) = some kv.2 ∧ RdN t H kv r
  | _, _, _, _, .nil, _, e => by simp at e
  | kv :: kvs, q0 :: rl, 0, r, .cons h t, _, e => by
    simp at e; subst e
    exact ⟨kv, by rw [valV_pos h.1], h⟩
  | kv :: kvs, q0 :: rl, i + 1, r, .cons h t, nd, e => by
    have e : rl[i]? = some r := by simpa using e
    have nd := List.nodup_cons.mp (by simpa using nd : (q0.1 :: rl.map (·.1)).Nodup)
    have ne : q0.1 ≠ r.1 := fun h => nd.1 (h ▸ List.mem_map.mpr ⟨r, List.mem_of_getElem? e, rfl⟩)
    rw [valV_neg (by rw [h.1]; exact fun z => ne (by injection z))]
    exact val_rdn t nd.2 e
end My

namespace My
open PySem L2
theorem putK_new {kvs : List (Key × V)} {k : Key} {v : V} (h : valV kvs k = none) : putK kvs k v = kvs ++ [(k, v)] := by
  unfold putK
  rw [if_neg]
  rw [valV_any, h]; simp
theorem pair_back {α β : Type} {F : α → β → Prop} : ∀ {l : List α} {m : List β} {i : Nat} {y : β}, Paired F l m → m[i]? = some y → ∃ x, l[i]? = some x ∧ F x y
  | _, _, _, _, .nil, e => by simp at e
  | _, _, 0, _, .cons r _, e => by simp at e; subst e; exact ⟨_, rfl, r⟩
  | _, _, i + 1, y, .cons _ t, e => by
    obtain ⟨x, h1, h2⟩ := pair_back (i := i) (y := y) t (by simpa using e)
    exact ⟨x, by simpa using h1, h2⟩
theorem find_rl {rl : List Rl} {z : Str} (h : z ∈ rl.map (·.1)) (nd : (rl.map (·.1)).Nodup) : ∃ (i : Nat) (r : Rl), rl[i]? = some r ∧ r.1 = z ∧ rl.find? (fun r => decide (r.1 = z)) = some r := by
  obtain ⟨r, hr, e⟩ := List.mem_map.mp h
  obtain ⟨i, hi⟩ := List.getElem?_of_mem hr
  refine ⟨i, r, hi, e, ?_⟩
  cases f : rl.find? (fun r => decide (r.1 = z)) with
  | none => exact absurd (decide_eq_true e) (List.find?_eq_none.mp f r hr)
  | some q =>
    have e2 : q.1 = z := by simpa using List.find?_some f
    obtain ⟨k, hk⟩ := List.getElem?_of_mem (List.mem_of_find?_eq_some f)
    have h1 : (rl.map (·.1))[i]? = some z := by rw [List.getElem?_map, hi, ← e]; rfl
    have h2 : (rl.map (·.1))[k]? = some z := by rw [List.getElem?_map, hk, ← e2]; rfl
    have : i = k := by
      have li := (List.getElem?_eq_some_iff.mp h1).1
      exact (List.getElem?_inj li nd).mp (h1.trans h2.symm)
    subst this
    rw [hi] at hk; cases hk; rfl
end My

namespace My
open PySem L2
/-! ### the rules that _law_rules draws -/
def spLRules (K : PySem.W.Frag) : Sp := fun vs H Q _ => ∃ (d t R : Addr) (ws : List V) (rs : List Row), vs = [.ref d, .ref t, .ref R] ∧ Dr K H d t ∧ H R = some (.lst ws) ∧ R ≠ t ∧ RowsN (fun a => a ≠ t) true H ws rs ∧ rs.length ≤ 100 ∧ (mks rs).Nodup ∧
  ∀ (rl : List Rl) kvs g H', rl.map (·.1) = mks rs → (∀ r ∈ rl, r.2.2.length ≤ 3) → Dr K H' d t → But t H H' → H g = none → H' g = some (.dK kvs) → Paired (RdN t H') kvs rl → Q (.ref g) H'
section
variable {P : Program} {w : World} {K : PySem.W.Frag} {mg : Str → Option Value} {base : Heap}
set_option maxHeartbeats 16000000 in
set_option pp.maxSteps 600 in
theorem ok__law_rules (T : Txt K mg) : FnOk P w K mg base CX0 4 T.a__law_rules T.fd__law_rules ["_law_draws_here", "_law_at", "_law_rows_here"] (spLRules K) := by
  refine T.F__law_rules.ok sc__law_rules (fun vs H Q E h => ?_) (fun cdv A outer s H vs Q E hr h => ?_)
  · obtain ⟨d, t, R, ws, rs, rfl, _⟩ := h; rfl
  · obtain ⟨d, t, R, ws, rs, rfl, D0, hR, nR, rR, lr, nd, q⟩ := h
    refine ⟨_, (pss_cons (ps_set (i := 3) sc__law_rules.nd rfl (.inl rfl) (pe_dnewK))
      (pss_cons (ps_for PassesOwn.never rfl (pi_list (pv 2)) (pg_name (i := 4) sc__law_rules.nd rfl (.inl rfl)) (pss_cons (ps_set (i := 5) sc__law_rules.nd rfl (.inl rfl) (pe_cmpR op_ne (pe_call (ok__law_take T) (hr.mono (by omega)) (by rfl) T.g__law_take T.F__law_take.kp T.b__law_take .nil pass0 (pa_cons (pv 0) (pa_cons (pv 1) (pa_cons (pe_int) pa_nil)))) (pe_int) (nomark _)))
      (pss_cons (ps_set (i := 6) sc__law_rules.nd rfl (.inl rfl) (pe_ix ix_list (pe_lst (pa_cons (pe_int) (pa_cons (pe_int) (pa_cons (pe_int) (pa_cons (pe_int) (pa_cons (pe_int) pa_nil)))))) (pe_call (ok__law_take T) (hr.mono (by omega)) (by rfl) T.g__law_take T.F__law_take.kp T.b__law_take .nil pass0 (pa_cons (pv 0) (pa_cons (pv 1) (pa_cons (pe_int) pa_nil)))) (fun _ _ => rfl)))
      (pss_cons (ps_set (i := 7) sc__law_rules.nd rfl (.inl rfl) (pe_lst pa_nil))
      (pss_cons (ps_for PassesOwn.never rfl (pi_range1 (by rfl) T.n_range (pa_cons (pv 6) pa_nil)) (pg_name (i := 8) sc__law_rules.nd rfl (.inl rfl)) (pss_one (ps_expr (pe_bm PySem.F.plainAttrs_list PySem.F.slot_list_append PySem.F.type_list_append mt_append (pv 7) (pa_cons (pe_call (ok__law_way T) (hr.mono (by omega)) (by rfl) T.g__law_way T.F__law_way.kp T.b__law_way .nil pass0 (pa_cons (pv 0) (pa_cons (pv 1) pa_nil))) pa_nil)))))
      (pss_one (ps_dput (hu_of hr) (pv 3) (pe_ix ix_list (pv 4) (pe_int) (fun _ _ => rfl)) (pe_lst (pa_cons (pv 5) (pa_cons (pv 7) pa_nil))) rfl)))))))
      (pss_one (ps_ret (pv 3))))), ?_⟩
    have big : 100000 < sizeLine := by decide
    have lw := pair_len' rR
    refine fun g ng => ?_
    have s1 := same_new (o := .dK []) ng
    have ngt : g ≠ t := D0.na ng
    refine ⟨_, rfl, R, rfl, ⟨_, SqL.of (s1 _ _ hR)⟩, for_list (K := K) (a := R) (xs := ws) (fun i σ H' => ∃ (x5 x6 x7 x8 x9 : Option V) (kvs : List (Key × V)) (rl : List Rl), σ = [some (.ref d), some (.ref t), some (.ref R), some (.ref g), x5, x6, x7, x8, x9] ∧ Dr K H' d t ∧ But t H H' ∧ H' g = some (.dK kvs) ∧ Paired (RdN t H') kvs rl ∧ rl.map (·.1) = (mks rs).take i ∧ ∀ r ∈ rl, r.2.2.length ≤ 3)
      ⟨_, _, _, _, _, [], [], rfl, D0.same s1, But.of_same s1, upd_same, .nil, by rw [List.take_zero]; rfl, fun _ h => nomatch h⟩ (fun i σ H' _ ⟨_, _, _, _, _, _, _, _, _, b, _⟩ => SqL.of (b _ _ nR hR)) ?_ ?_⟩
    rotate_left
    · rintro σ H' ⟨x5, x6, x7, x8, x9, kvs, rl, rfl, D', b', hg, pk, ef, lw3⟩
      rw [lw, show rs.length = (mks rs).length by unfold mks; rw [List.length_map], List.take_length] at ef
      exact ⟨_, rfl, q rl kvs g H' ef lw3 D' b' ng hg pk⟩
    rintro i v σ H2 hv ⟨x5, x6, x7, x8, x9, kvs, rl, rfl, D2, b2, hg2, pk, ef, lw3⟩
    obtain ⟨r, hr, p, pp, rfl, npt, _, hp, _⟩ := pair_get' rR hv
    have hp : H p = some (.lst (rowL r pp)) := hp
    have hi := (List.getElem?_eq_some_iff.mp hr).1
    have hz : (mks rs)[i]? = some r.mark := by unfold mks; rw [List.getElem?_map, hr]; rfl
    have lkv : kvs.length = i := by
      have e := congrArg List.length ef
      rw [List.length_map, List.length_take] at e
      rw [pair_len' pk]
      unfold mks at e
      rw [List.length_map] at e
      omega
    refine ⟨_, rfl, _, rfl, d, t, 4, rfl, D2, by decide, fun z H3 _ _ D3 b3 => ⟨rfl, ?_⟩⟩
    refine ⟨by show 5 ≤ sizeLine; decide, fun m nm => ?_⟩
    have s4 := same_new (o := .lst [.int 1, .int 1, .int 2, .int 1, .int 0]) nm
    refine ⟨_, rfl, _, rfl, d, t, 5, rfl, D3.same s4, by decide, fun z5 H5 r0 r1 D5 b5 => ?_⟩
    obtain ⟨v, hv5, mv⟩ := at_ok (xs := [.int 1, .int 1, .int 2, .int 1, .int 0]) r0 r1
    obtain ⟨n2, rfl, hn2⟩ : ∃ n : Nat, v = .int n ∧ n ≤ 3 := by
      simp only [List.mem_cons, List.not_mem_nil, or_false] at mv
      rcases mv with rfl | rfl | rfl | rfl | rfl
      · exact ⟨1, rfl, by decide⟩
      · exact ⟨1, rfl, by decide⟩
      · exact ⟨2, rfl, by decide⟩
      · exact ⟨1, rfl, by decide⟩
      · exact ⟨0, rfl, by decide⟩
    have b25 := (b3.trans (But.of_same s4)).trans b5
    refine ⟨_, _, _, _, rfl, rfl, SqL.of (b5 _ _ (D3.na nm) upd_same), hv5, ?_⟩
    refine ⟨Nat.zero_le _, fun W hW => ?_⟩
    have nWt : W ≠ t := D5.na hW
    have D6 := D5.same (same_new (o := .lst []) hW)
    have b26 := b25.trans (But.of_same (same_new (o := .lst []) hW))
    have h6W : (upd H5 W (.lst [])) W = some (.lst []) := upd_same
    have nW2 : H2 W = none := b25.free nWt hW
    have ndW : d ≠ W := D5.nd hW
    revert D6 b26 h6W
    generalize upd H5 W (.lst []) = H6
    intro D6 b26 h6W
    generalize decide (V.int z = V.int 3) = dz
    refine ⟨_, rfl, _, rfl, by omega, by omega, for_range (lo := 0) (n := n2) (fun j σ H' => ∃ (x9 : Option V) (us : List V) (ks : List Wv), σ = [some (.ref d), some (.ref t), some (.ref R), some (.ref g), some (.ref p), some (.bl (!dz)), some (.int n2), some (.ref W), x9] ∧ Dr K H' d t ∧ But t H2 H' ∧ H' W = some (.lst us) ∧ us.length = j ∧ Paired (fun v k => LwN t H' v k ∧ ∀ q, v = .ref q → q ≠ W) us ks)
      ⟨_, [], [], rfl, D6, b26, h6W, rfl, .nil⟩ ?_ ?_⟩
    · rintro j σ H9 hj ⟨x9, us, ks, rfl, D9, b9, h9, l9, p9⟩
      refine ⟨_, rfl, .inl ⟨rfl, _, SqL.of h9⟩, _, rfl, _, rfl, d, t, rfl, D9, fun p a b c e HA adj DA bA np hp => ?_⟩
      have npW : p ≠ W := (ne_of_none h9 np).symm
      have hWA := bA _ _ nWt h9
      refine ⟨_, _, _, rfl, rfl, hWA, by omega, ?_⟩
      refine ⟨_, us ++ [.ref p], ks ++ [(a, b, c, e)], rfl, ⟨DA.ds.elim fun zs e => ⟨zs, by rw [upd_ne ndW]; exact e⟩, DA.pl.elim fun k e => ⟨k, by rw [upd_ne nWt.symm]; exact e⟩, DA.ne⟩, (b9.trans bA).mut nW2, upd_same, by rw [List.length_append, l9]; rfl, ?_⟩
      refine pair_app' (L2.Paired.mapP p9 fun v k ⟨⟨q, e1, e2, e3, e4⟩, e5⟩ => ⟨⟨q, e1, e2, by rw [upd_ne (e5 q e1)]; exact bA _ _ e2 e3, e4⟩, e5⟩) (.cons ⟨⟨p, rfl, D9.na np, by rw [upd_ne npW]; exact hp, adj⟩, fun q e => by cases e; exact npW⟩ .nil)
    rintro σ H9 ⟨x9', us, ks, rfl, D9, b9, h9W, l9, p9⟩
    have p9 : Paired (LwN t H9) us ks := L2.Paired.mapP p9 fun _ _ h => h.1
    have hp9 := b9 _ _ npt (b2 _ _ npt hp)
    have hg9 := b9 _ _ ngt hg2
    refine ⟨_, rfl, _, rfl, by show 2 ≤ sizeLine; decide, fun u nu => ?_⟩
    have sA := same_new (o := .lst [.bl (!dz), .ref W]) nu
    have hgA := sA _ _ hg9
    have nW9 := sA _ _ h9W
    have hAu : (upd H9 u (.lst [.bl (!dz), .ref W])) u = some (.lst [.bl (!dz), .ref W]) := upd_same
    have DA := D9.same sA
    have bA := (b2.trans b9).trans (But.of_same sA)
    have nut : u ≠ t := D9.na nu
    have pA : Paired (RdN t (upd H9 u (.lst [.bl (!dz), .ref W]))) kvs rl := L2.Paired.mapP pk fun _ _ h => (h.keep (.but b9)).keep (.same sA)
    have wA : Paired (LwN t (upd H9 u (.lst [.bl (!dz), .ref W]))) us ks := L2.Paired.mapP p9 fun _ _ h => h.keep (.same sA)
    have hpA := sA _ _ hp9
    revert hgA nW9 hAu DA bA pA wA hpA
    generalize upd H9 u (.lst [.bl (!dz), .ref W]) = HA
    intro hgA hWA hAu DA bA pA wA hpA
    refine ⟨_, rfl, _, rfl, _, _, _, _, rfl, rfl, SqL.of hpA, atI_nat (j := 0) rfl, g, _, rfl, DPut.k (k := .inr r.mark) hgA (by omega), ?_⟩
    have nz : r.mark ∉ rl.map (·.1) := by rw [ef]; exact fun h => (nodup_take.mp nd) i _ hz h
    rw [putK_new (rd_none pA nz)]
    have lk : LkS t HA (upd HA g (.dK (kvs ++ [(.inr r.mark, .ref u)]))) := .updD hgA
    have ng' : ∀ {a : Addr} {xs : List V}, HA a = some (.lst xs) → a ≠ g := fun h e => by rw [e, hgA] at h; cases h
    have ndg : d ≠ g := DA.ds.elim fun _ h => ng' h
    have ntg : t ≠ g := ngt.symm
    refine ⟨_, _, _, _, _, _, rl ++ [(r.mark, !dz, ks)], rfl, DA.other But.upd ndg ntg, bA.mut ng, upd_same, ?_, ?_, ?_⟩
    · refine pair_app' (L2.Paired.mapP pA fun _ _ h => h.keep lk) (.cons ⟨rfl, u, W, us, rfl, nut, lk _ _ nut hAu, nWt, lk _ _ nWt hWA, L2.Paired.mapP wA fun _ _ h => h.keep lk, by omega⟩ .nil)
    · rw [List.map_append, ef, List.take_succ, hz]; rfl
    · intro x hx
      rcases List.mem_append.mp hx with hx | hx
      · exact lw3 x hx
      · rw [List.mem_singleton.mp hx]
        show ks.length ≤ 3
        have := pair_len' p9
        omega
end
end My

namespace My
open PySem L2
/-! ### the policy of a shape and rules -/
theorem fold_self {rl : List Rl} {rs : List Row} (nd : (mks rs).Nodup) (ef : rl.map (·.1) = mks rs) : rl.foldl setR (emptyR rs) = rl := by
  have nd' : (rl.map (·.1)).Nodup := by rw [ef]; exact nd
  have hf : ∀ z, ((fun z => (lookR rl z).getD (z, false, [])) z).1 = z := fun z => by
    show ((lookR rl z).getD (z, false, [])).1 = z
    cases e : lookR rl z with
    | none => rfl
    | some r => exact of_decide_eq_true (List.find?_some (p := fun r : Rl => decide (r.1 = z)) e)
  have e : (mks rs).map (fun z => (lookR rl z).getD (z, false, [])) = rl := by
    rw [← ef, List.map_map]
    refine List.ext_getElem? fun i => ?_
    rw [List.getElem?_map]
    cases h : rl[i]? with
    | none => rfl
    | some r =>
      show some ((lookR rl r.1).getD (r.1, false, [])) = some r
      rw [look_at nd' h]; rfl
  have f := fold_all _ hf rs
  rw [e] at f
  exact f
def spLPolicy (C Cw Cs : Addr) : Sp := fun vs H Q _ => ∃ (x g : Addr) (rs : List Row) (kvs : List (Key × V)) (rl : List Rl), vs = [.ref x, .ref g] ∧ ShO Cs H x rs ∧ (mks rs).Nodup ∧ rs.length ≤ 100 ∧ H g = some (.dK kvs) ∧ Paired (RdV H) kvs rl ∧ rl.map (·.1) = mks rs ∧
  ∀ y m a b H', Same H H' → H y = none → H m = none → H a = none → H b = none → Pol C Cw H' y x m a b rl → Q (.ref y) H'
section
variable {w : World} {K : PySem.W.Frag} {mg : Str → Option Value} {base : Heap}
set_option maxHeartbeats 16000000 in
set_option pp.maxSteps 600 in
theorem ok__law_policy (T : Txt K mg) : FnOk PP w K mg base CX0 10 T.a__law_policy T.fd__law_policy ["_law_shape_here", "_law_rules_here"] (spLPolicy T.c_Policy T.c_Way T.c_Shape) := by
  refine T.F__law_policy.ok sc__law_policy (fun vs H Q E h => ?_) (fun cdv A outer s H vs Q E hr h => ?_)
  · obtain ⟨x, g, rs, kvs, rl, rfl, _⟩ := h; rfl
  · obtain ⟨x, g, rs, kvs, rl, rfl, hS, nd, lr, hg, pk, ef, q⟩ := h
    refine ⟨_, (pss_cons (ps_set (i := 2) sc__law_policy.nd rfl (.inl rfl) (pe_make T.mk_Policy (ok_Policy_init T) (hr.mono (by omega)) (by rfl) T.g_Policy T.kb_Policy_init_2.choose_spec.2 T.kb_Policy_init_2.choose_spec.1 pass0 (pa_cons (pv 0) pa_nil)))
      (pss_cons (ps_lock (ps_for PassesOwn.never rfl (pi_keys (pv 1)) (pg_name (i := 3) sc__law_policy.nd rfl (.inl rfl)) (pss_one (ps_asg (pe_tup (pa_cons (pe_ix ix_list (pe_dget (hu_of hr) (pv 1) (pv 3) (fun _ _ => rfl)) (pe_int) (fun _ _ => rfl)) (pa_cons (pe_callTy call_tuple_of (by rfl) T.n_tuple (by decide +kernel) (pa_cons (pe_lc (own := [("_law_way_here", 4)]) (g := (gName 4)) (by rfl) sc__law_policy.nd (pi_list (pe_ix ix_list (pe_dget (hu_of hr) (pv 1) (pv 3) (fun _ _ => rfl)) (pe_int) (fun _ _ => rfl))) (blkOk_by (own := [("_law_way_here", 4)]) (N := ["_law_shape_here", "_law_rules_here", "_law_policy_here", "_law_mark", "_law_way_here"]) (sc := defScope S__law_policy) (by decide +kernel)) (fun _ _ _ _ _ => (pg_name (i := 4) sc__law_policy.nd rfl (by first | exact .inl rfl | exact .inr rfl))) (fun _ _ _ _ _ => pts_nil) (fun _ _ _ _ _ => (pe_call (ok__law_way_made T) (hr.mono (by omega)) (by rfl) T.g__law_way_made T.F__law_way_made.kp T.b__law_way_made .nil pass0 (pa_cons (pv 4) pa_nil)))) pa_nil)) pa_nil))) (pg_sub (pv 2) (pv 3) (set_own T.m_Policy_setitem T.nq_Policy (ok_Policy_setitem T) (hr.mono (by omega)) T.b_Policy_setitem pass0))))))
      (pss_one (ps_ret (pv 2))))), ?_⟩
    have big : 100000 < sizeLine := by decide
    have lmk : (mks rs).length = rs.length := by unfold mks; rw [List.length_map]
    have lrl : rl.length = rs.length := by
      have e := congrArg List.length ef
      rw [List.length_map, lmk] at e; exact e
    have lkv := pair_len' pk
    have ndl : (rl.map (·.1)).Nodup := by rw [ef]; exact nd
    refine ⟨_, rfl, fun y dy ny ndy ne => ⟨y, dy, x, _, rs, rfl, upd_same, hS.same (same_make ny ndy (But.refl _ _)), nd, lr, T.qe_Policy_init_0, fun m a b H2 b2 nm na nb P2 => ⟨rfl, ?_⟩⟩⟩
    have s2 := same_make ny ndy b2
    have fm : H m = none := free_make ny ndy ne nm
    have fa : H a = none := free_make ny ndy ne na
    have fb : H b = none := free_make ny ndy ne nb
    clear b2 nm na nb ne ndy
    refine ⟨g, _, s2 _ _ hg, trivial, fun od => ?_⟩
    have nyg : y ≠ g := (ne_of_none hg ny).symm
    have nmg : m ≠ g := (ne_of_none hg fm).symm
    have nag : a ≠ g := (ne_of_none hg fa).symm
    have nbg : b ≠ g := (ne_of_none hg fb).symm
    have pup : ∀ {o : HO} {H3 : Hp} {rl : List Rl}, (∀ kv, H3 g ≠ some (.tup kv)) → (∀ c d f, H3 g ≠ some (.ins c d f)) → Pol T.c_Policy T.c_Way H3 y x m a b rl → Pol T.c_Policy T.c_Way (upd H3 g o) y x m a b rl := fun {o H3 rl} nt ni P => P.le (A := [g]) (fun c o n e => by rw [upd_ne (by simpa using n)]; exact e) (fun c o' e t => by
      rw [upd_ne (fun z => by
        rw [z] at e
        rcases t with ⟨_, t⟩ | ⟨_, _, _, _, _, t⟩
        · exact nt _ (t ▸ e)
        · exact ni _ _ _ (t ▸ e))]; exact e) (fun c hc => by
      simp only [List.mem_cons, List.not_mem_nil, or_false] at hc ⊢
      rcases hc with rfl | rfl | rfl | rfl
      · exact nyg
      · exact nmg
      · exact nag
      · exact nbg)
    have hg2 := s2 _ _ hg
    refine ⟨_, rfl, g, od, rfl, .inl ⟨kvs, upd_same, for_it walk_keys (fun i σ H' => ∃ x3 : Option V, σ = [some (.ref x), some (.ref g), some (.ref y), x3, none] ∧ But g H H' ∧ H' g = some (.frz od (.dK kvs)) ∧ Pol T.c_Policy T.c_Way H' y x m a b ((rl.take i).foldl setR (emptyR rs))) ⟨_, rfl, fun c o n e => by rw [upd_ne n]; exact s2 _ _ e, upd_same, pup (fun _ e => by rw [hg2] at e; cases e) (fun _ _ _ e => by rw [hg2] at e; cases e) P2⟩ (fun i σ H' _ ⟨_, _, _, h, _⟩ => h) ?_ ?_⟩⟩
    · rintro i v σ H3 H4 hi ⟨x3, rfl, b3, f3, P3⟩ ⟨rfl, k, v', ek, rfl⟩
      obtain ⟨r, hr, ek1, _⟩ := pair_get' pk ek
      have ek1 : k = .inr r.1 := ek1
      subst ek1
      obtain ⟨kv, ev, _, q0, p0, us, eq0, hq0, hp0, pw, lus⟩ := val_rd pk ndl hr
      have dg : ∀ {H5 : Hp}, Same H4 H5 → DGet H5 g (.str r.1) (some (.ref q0)) := fun s => .inl ⟨kvs, .inr r.1, .inr ⟨od, s _ _ f3⟩, rfl, by rw [ev, eq0]⟩
      have hq3 := b3 _ _ (fun z => by rw [z, hg] at hq0; cases hq0) hq0
      have hp3 := b3 _ _ (fun z => by rw [z, hg] at hp0; cases hp0) hp0
      refine ⟨_, rfl, _, rfl, g, _, rfl, dg (Same.refl _), _, _, _, _, rfl, rfl, SqL.of hq3, atI_nat (j := 0) rfl, ?_⟩
      refine ⟨_, rfl, _, rfl, g, _, rfl, dg (Same.refl _), _, _, _, _, rfl, rfl, SqL.of hq3, atI_nat (j := 1) rfl, p0, rfl, ⟨_, SqL.of hp3⟩, fun D hD => lc_list (K := K) (a := p0) (xs := us) (fun i H' => ∃ vs, Same H4 H' ∧ H' D = some (.lst vs) ∧ Paired (WyV T.c_Way H') vs (r.2.2.take i)) ⟨[], same_new hD, upd_same, .nil⟩ (fun i H' _ ⟨_, s, _⟩ => SqL.of (s _ _ hp3)) ?_ ?_⟩
      · rintro i v H5 hv ⟨vs, s5, h5, pr⟩
        obtain ⟨k, hk, q1, rfl, hq1, aj⟩ := pair_get' pw hv
        have hi := (List.getElem?_eq_some_iff.mp hv).1
        have hq3 := b3 _ _ (fun z => by rw [z, hg] at hq1; cases hq1) hq1
        refine ⟨rfl, ?_⟩
        unfold tYes
        refine iteT ⟨_, rfl, q1, k.1, k.2.1, k.2.2.1, k.2.2.2, rfl, aj, SqL.of (s5 _ _ hq3), fun z H6 s6 nz wz => ?_⟩
        have h6 := s6 _ _ h5
        have kk : Kw T.c_Way H6 (upd H6 D (.lst (vs ++ [.ref z]))) := .upd h6 fun t => by rcases t with ⟨_, e⟩ | ⟨_, _, _, _, _, e⟩ <;> cases e
        refine ⟨vs, h6, by rw [pair_len' pr, List.length_take]; omega, vs ++ [.ref z], same_mut (s5.trans s6) hD, upd_same, ?_⟩
        rw [List.take_succ, hk]
        exact pair_app' (L2.Paired.mapP pr fun _ _ h => (h.keep (.same s6)).keep kk) (.cons (WyV.keep ⟨z, rfl, wz⟩ kk) .nil)
      rintro H5 ⟨vs, s5, h5, pr⟩
      rw [pair_len' pw, List.take_length] at pr
      refine ⟨D, _, rfl, .inl ⟨SqL.of h5, fun u nu => ⟨by show 2 ≤ sizeLine; decide, fun u2 nu2 => ?_⟩⟩⟩
      have s6 := same_new (o := .tup vs) nu
      have s7 := same_new (o := .tup [.bl r.2.1, .ref u]) nu2
      have w7 : WysT T.c_Way (upd (upd H5 u (.tup vs)) u2 (.tup [.bl r.2.1, .ref u])) u r.2.2 := ⟨vs, s7 _ _ upd_same, L2.Paired.mapP pr fun _ _ h => h.keep (.same (s6.trans s7))⟩
      have hu2 : (upd (upd H5 u (.tup vs)) u2 (.tup [.bl r.2.1, .ref u])) u2 = some (.tup [.bl r.2.1, .ref u]) := upd_same
      have s47 := s5.trans (s6.trans s7)
      revert w7 hu2 s47
      generalize upd (upd H5 u (.tup vs)) u2 (.tup [.bl r.2.1, .ref u]) = H7
      intro w7 hu2 s47
      have P7 := P3.same s47
      obtain ⟨dy7, hy7⟩ := P7.obj
      have lf : ((rl.take i).foldl setR (emptyR rs)).map (·.1) = mks rs := by
        rw [setRs_fst]; unfold emptyR; rw [List.map_map]; exact List.map_id _
      have ll : ((rl.take i).foldl setR (emptyR rs)).length = rs.length := by
        have e := congrArg List.length lf
        rw [List.length_map, lmk] at e; exact e
      have mz : r.1 ∈ ((rl.take i).foldl setR (emptyR rs)).map (·.1) := by
        rw [lf, ← ef]; exact List.mem_map.mpr ⟨r, List.mem_of_getElem? hr, rfl⟩
      have f7 := s47 _ _ f3
      refine ⟨_, rfl, _, rfl, y, dy7, _, rfl, hy7, y, x, m, a, b, u2, u, _, r.1, r.2.1, r.2.2, rfl, P7, by omega, mz, hu2, w7, fun H8 le8 kw8 P8 => ?_⟩
      have le7 : ∀ c o, c ≠ g → H c = some o → H8 c = some o := fun c o n e => le8 _ _ (by
        simp only [List.mem_cons, List.not_mem_nil, or_false, not_or]
        exact ⟨ne_of_none e fa, ne_of_none e fb⟩) (s47 _ _ (b3 _ _ n e))
      refine ⟨_, rfl, le7, le8 _ _ (by
        simp only [List.mem_cons, List.not_mem_nil, or_false, not_or]
        exact ⟨nag.symm, nbg.symm⟩) f7, ?_⟩
      rw [List.take_succ, hr, Option.toList_some, List.foldl_append]
      exact P8
    rintro σ H3 ⟨x3, rfl, b3, f3, P3⟩
    rw [lkv, List.take_length, fold_self nd ef] at P3
    refine ⟨f3, _, rfl, ?_⟩
    refine q y m a b _ (fun c o e => ?_) ny fm fa fb (pup (fun _ e => by rw [f3] at e; cases e) (fun _ _ _ e => by rw [f3] at e; cases e) P3)
    by_cases n : c = g
    · rw [n, upd_same, ← hg, ← n, e]
    · rw [upd_ne n]; exact b3 c o n e
end
end My

namespace My
open PySem L2
def spPAt (C Cw : Addr) : Sp := fun vs H Q _ => ∃ (y x m a b : Addr) (rl : List Rl) (z : Str) (r : Rl), vs = [.ref y, .str z] ∧ Pol C Cw H y x m a b rl ∧ lookR rl z = some r ∧ ∀ H', Same H H' → Q (.bl r.2.1) H'
def spPWays (C Cw : Addr) : Sp := fun vs H Q _ => ∃ (y x m a b : Addr) (rl : List Rl) (z : Str) (r : Rl), vs = [.ref y, .str z] ∧ Pol C Cw H y x m a b rl ∧ lookR rl z = some r ∧ ∀ t H', Same H H' → WysT Cw H' t r.2.2 → Q (.ref t) H'
section
variable {w : World} {K : PySem.W.Frag} {mg : Str → Option Value} {base : Heap}
theorem ok_Policy_starts_at (T : Txt K mg) : FnOk PP w K mg base CX0 3 T.a_Policy_starts_at T.fd_Policy_starts_at ["self", "mark"] (spPAt T.c_Policy T.c_Way) := by
  refine T.F_Policy_starts_at.ok sc_Policy_starts_at (fun vs H Q E h => ?_) (fun cdv A outer s H vs Q E hr h => ?_)
  · obtain ⟨y, x, m, a, b, rl, z, r, rfl, _⟩ := h; rfl
  · obtain ⟨y, x, m, a, b, rl, z, r, rfl, P, hz, q⟩ := h
    refine ⟨_, (pss_one (ps_ret (pe_ix ix_tup (pe_getI T.m_Policy_getitem T.fi_Policy_getitem (ok_Policy_getitem T) (hr.mono (by omega)) T.b_Policy_getitem pass0 (pv 0) (pv 1)) (pe_int) (fun _ _ => rfl)))), ?_⟩
    obtain ⟨dy, hy⟩ := P.obj
    exact ⟨_, rfl, _, rfl, y, dy, _, rfl, hy, y, x, m, a, b, rl, z, r, rfl, P, hz, fun u t H' s nu hu ht => ⟨_, _, _, _, rfl, rfl, SqT.of hu, atI_nat (j := 0) rfl, q H' s⟩⟩
theorem ok_Policy_ways_of (T : Txt K mg) : FnOk PP w K mg base CX0 3 T.a_Policy_ways_of T.fd_Policy_ways_of ["self", "mark"] (spPWays T.c_Policy T.c_Way) := by
  refine T.F_Policy_ways_of.ok sc_Policy_ways_of (fun vs H Q E h => ?_) (fun cdv A outer s H vs Q E hr h => ?_)
  · obtain ⟨y, x, m, a, b, rl, z, r, rfl, _⟩ := h; rfl
  · obtain ⟨y, x, m, a, b, rl, z, r, rfl, P, hz, q⟩ := h
    refine ⟨_, (pss_one (ps_ret (pe_ix ix_tup (pe_getI T.m_Policy_getitem T.fi_Policy_getitem (ok_Policy_getitem T) (hr.mono (by omega)) T.b_Policy_getitem pass0 (pv 0) (pv 1)) (pe_int) (fun _ _ => rfl)))), ?_⟩
    obtain ⟨dy, hy⟩ := P.obj
    exact ⟨_, rfl, _, rfl, y, dy, _, rfl, hy, y, x, m, a, b, rl, z, r, rfl, P, hz, fun u t H' s nu hu ht => ⟨_, _, _, _, rfl, rfl, SqT.of hu, atI_nat (j := 1) rfl, q t H' s ht⟩⟩
end
end My

namespace L2
open PySem PySem.Spec PyProof.Rows
/-! ### [e for x in t for y in u]: tuples that stay -/
section
variable {K : PySem.W.Frag} {a : Addr} {xs : List V} {g g1 : TG} {tt tt1 : TT} {wi1 : TI} {te : TE} {vs vs1 : List Nat} {σ σ2 : St} {H1 H4 : Hp} {D : Addr} {Qd N : Hp → Prop}
theorem lc2_tup (Pv : Nat → Hp → Prop) (h0 : Pv 0 (upd H1 D (.lst []))) (hl : ∀ i H, i ≤ xs.length → Pv i H → SqT K H a xs)
    (hs : ∀ i x H, xs[i]? = some x → Pv i H → g x (wipe σ vs) H fun σ2 H2 => wipe σ2 vs = wipe σ vs ∧ tt σ2 H2 fun b H3 => if b = true then wi1 σ2 H3 fun J1 H4 => ∃ W1 : Nat → Nat → Hp → Prop, (∃ m, W1 0 m H4) ∧ ∀ j k H, W1 j k H →
      (J1.stop j H ∧ Pv (i + 1) H) ∨ (J1.go j H ∧ ∃ Nx1 : Hp → Prop, (∀ H', Nx1 H' → ∃ k', k' < k ∧ W1 (j + 1) k' H') ∧ ∀ x H', J1.yld j H x H' → g1 x (wipe σ2 vs1) H' fun σ3 H5 => wipe σ3 vs1 = wipe σ2 vs1 ∧ tt1 σ3 H5 fun b H6 =>
        if b = true then te σ3 H6 fun y H7 => ∃ acc, H7 D = some (.lst acc) ∧ acc.length < sizeLine ∧ Nx1 (upd H7 D (.lst (acc ++ [y]))) else Nx1 H6) else Pv (i + 1) H3) (hd : ∀ H, Pv xs.length H → Qd H) :
    ∃ W : Nat → Nat → Hp → Prop, (∃ m, W 0 m (upd H1 D (.lst []))) ∧ ∀ i m H, W i m H →
      ((Itt K a).stop i H ∧ Qd H) ∨ ((Itt K a).go i H ∧ ∃ Nx : Hp → Prop, (∀ H', Nx H' → ∃ m', m' < m ∧ W (i + 1) m' H') ∧ ∀ x H', (Itt K a).yld i H x H' → g x (wipe σ vs) H' fun σ2 H2 => wipe σ2 vs = wipe σ vs ∧ tt σ2 H2 fun b H3 => if b = true then wi1 σ2 H3 fun J1 H4 => ∃ W1 : Nat → Nat → Hp → Prop, (∃ m, W1 0 m H4) ∧ ∀ j k H, W1 j k H →
        (J1.stop j H ∧ Nx H) ∨ (J1.go j H ∧ ∃ Nx1 : Hp → Prop, (∀ H', Nx1 H' → ∃ k', k' < k ∧ W1 (j + 1) k' H') ∧ ∀ x H', J1.yld j H x H' → g1 x (wipe σ2 vs1) H' fun σ3 H5 => wipe σ3 vs1 = wipe σ2 vs1 ∧ tt1 σ3 H5 fun b H6 =>
          if b = true then te σ3 H6 fun y H7 => ∃ acc, H7 D = some (.lst acc) ∧ acc.length < sizeLine ∧ Nx1 (upd H7 D (.lst (acc ++ [y]))) else Nx1 H6) else Nx H3) := by
  refine ⟨fun i m H => m = xs.length - i ∧ i ≤ xs.length ∧ Pv i H, ⟨xs.length, by simp, Nat.zero_le _, h0⟩, ?_⟩
  rintro i m H ⟨rfl, hi, p⟩
  have q := hl i H hi p
  by_cases hlt : i < xs.length
  · refine .inr ⟨⟨xs, xs[i], q, by simp [hlt]⟩, Pv (i + 1), fun H' p' => ⟨xs.length - (i + 1), by omega, rfl, hlt, p'⟩, fun x H' y => ?_⟩
    obtain ⟨e, y⟩ := y
    subst e
    exact hs i x _ (y xs q) p
  · have e : i = xs.length := by omega
    subst e
    exact .inl ⟨⟨xs, q, Nat.le_refl _⟩, hd H p⟩
theorem in_tup (Pw : Nat → Hp → Prop) (h0 : Pw 0 H4) (hl : ∀ j H, j ≤ xs.length → Pw j H → SqT K H a xs)
    (hs : ∀ j x H, xs[j]? = some x → Pw j H → g1 x (wipe σ2 vs1) H fun σ3 H5 => wipe σ3 vs1 = wipe σ2 vs1 ∧ tt1 σ3 H5 fun b H6 => if b = true then te σ3 H6 fun y H7 => ∃ acc, H7 D = some (.lst acc) ∧ acc.length < sizeLine ∧ Pw (j + 1) (upd H7 D (.lst (acc ++ [y]))) else Pw (j + 1) H6)
    (hd : ∀ H, Pw xs.length H → N H) :
    ∃ W1 : Nat → Nat → Hp → Prop, (∃ m, W1 0 m H4) ∧ ∀ j k H, W1 j k H →
      ((Itt K a).stop j H ∧ N H) ∨ ((Itt K a).go j H ∧ ∃ Nx1 : Hp → Prop, (∀ H', Nx1 H' → ∃ k', k' < k ∧ W1 (j + 1) k' H') ∧ ∀ x H', (Itt K a).yld j H x H' → g1 x (wipe σ2 vs1) H' fun σ3 H5 => wipe σ3 vs1 = wipe σ2 vs1 ∧ tt1 σ3 H5 fun b H6 =>
        if b = true then te σ3 H6 fun y H7 => ∃ acc, H7 D = some (.lst acc) ∧ acc.length < sizeLine ∧ Nx1 (upd H7 D (.lst (acc ++ [y]))) else Nx1 H6) := by
  refine ⟨fun i m H => m = xs.length - i ∧ i ≤ xs.length ∧ Pw i H, ⟨xs.length, by simp, Nat.zero_le _, h0⟩, ?_⟩
  rintro i m H ⟨rfl, hi, p⟩
  have q := hl i H hi p
  by_cases hlt : i < xs.length
  · refine .inr ⟨⟨xs, xs[i], q, by simp [hlt]⟩, Pw (i + 1), fun H' p' => ⟨xs.length - (i + 1), by omega, rfl, hlt, p'⟩, fun x H' y => ?_⟩
    obtain ⟨e, y⟩ := y
    subst e
    exact hs i x _ (y xs q) p
  · have e : i = xs.length := by omega
    subst e
    exact .inl ⟨⟨xs, q, Nat.le_refl _⟩, hd H p⟩
end
end L2

namespace My
open PySem L2
theorem yes_i {σ : St} {H : Hp} {Q : Bool → Hp → Prop} (h : Q true H) : tYes σ H Q := h
end My

namespace My
open PySem L2
/-! ### two policies met: what is computed -/
def andW (x y : Wv) : Wv := (max x.1 y.1, max x.2.1 y.2.1, max x.2.2.1 y.2.2.1, x.2.2.2 || y.2.2.2)
def leW (x y : Wv) : Bool := leB x.1 x.2.1 x.2.2.1 x.2.2.2 y.1 y.2.1 y.2.2.1 y.2.2.2
def AdjW (k : Wv) : Prop := Adj k.1 k.2.1 k.2.2.1
def trimW (ks : List Wv) : List Wv := leftR leW ks
def meetW (A B : List Wv) : List Wv := A.flatMap fun a => B.map (andW a)
def rlAt (Q : List Rl) (z : Str) : Rl := (lookR Q z).getD (z, false, [])
def metR (P Q : List Rl) : List Rl := P.map fun r => (r.1, (r.2.1 && (rlAt Q r.1).2.1), trimW (meetW r.2.2 (rlAt Q r.1).2.2))
theorem metR_fst (P Q : List Rl) : (metR P Q).map (·.1) = P.map (·.1) := by unfold metR; rw [List.map_map]; rfl
theorem adj_and {x y : Wv} (hx : AdjW x) (hy : AdjW y) : AdjW (andW x y) := by
  obtain ⟨a, b, c⟩ := hx; obtain ⟨a', b', c'⟩ := hy
  unfold AdjW andW Adj
  simp only
  omega
theorem adj_lt {x : Wv} (hx : AdjW x) : x.1 < 4 ∧ x.2.1 < 4 ∧ x.2.2.1 < 4 := by
  obtain ⟨a, b, c⟩ := hx; omega
theorem mem_meet {A B : List Wv} {k : Wv} (h : k ∈ meetW A B) : ∃ a ∈ A, ∃ b ∈ B, k = andW a b := by
  obtain ⟨a, ha, h⟩ := List.mem_flatMap.mp h
  obtain ⟨b, hb, rfl⟩ := List.mem_map.mp h
  exact ⟨a, ha, b, hb, rfl⟩
theorem meet_len (A B : List Wv) : (meetW A B).length = A.length * B.length := by
  unfold meetW
  induction A with
  | nil => simp
  | cons a A ih => rw [List.flatMap_cons, List.length_append, ih, List.length_map, List.length_cons, Nat.add_mul]; omega
theorem meet_app (A B : List Wv) (k : Wv) : meetW (A ++ [k]) B = meetW A B ++ B.map (andW k) := by
  unfold meetW
  rw [List.flatMap_append]
  simp
/-! #### what is trimmed away is covered -/
theorem keep_sub {rs : List Wv} {y : Wv} (h : y ∈ trimW rs) : y ∈ rs := by
  obtain ⟨m, _, e, _⟩ := keep_mem h
  exact List.mem_of_getElem? e
def joinR (P Q : List Rl) : List Rl := P.map fun r => (r.1, (r.2.1 || (rlAt Q r.1).2.1), trimW (r.2.2 ++ (rlAt Q r.1).2.2))
theorem joinR_fst (P Q : List Rl) : (joinR P Q).map (·.1) = P.map (·.1) := by unfold joinR; rw [List.map_map]; rfl
theorem joinR_len (P Q : List Rl) : (joinR P Q).length = P.length := by unfold joinR; rw [List.length_map]
theorem metR_len (P Q : List Rl) : (metR P Q).length = P.length := by unfold metR; rw [List.length_map]
/-! #### a trimmed list is short -/
theorem leW_iff {x y : Wv} : leW x y = true ↔ (y.2.2.2 = true → x.2.2.2 = true) ∧ y.1 ≤ x.1 ∧ y.2.1 ≤ x.2.1 ∧ y.2.2.1 ≤ x.2.2.1 := by
  unfold leW leB
  cases x.2.2.2 <;> cases y.2.2.2 <;> simp
def codeW (k : Wv) : Nat := k.1 * 8 + k.2.2.1 * 2 + if k.2.2.2 then 1 else 0
theorem short_nats : ∀ (n : Nat) (l : List Nat), l.Nodup → (∀ x ∈ l, x < n) → l.length ≤ n
  | 0, l, _, h => by
    cases l with
    | nil => exact Nat.le_refl _
    | cons a l => exact absurd (h a List.mem_cons_self) (Nat.not_lt_zero _)
  | n + 1, l, nd, h => by
    have := short_nats n (l.erase n) (nd.erase n) fun x hx => by
      have hm := (List.Nodup.mem_erase_iff nd).mp hx
      have := h x hm.2
      have := hm.1
      omega
    have e : l.length ≤ (l.erase n).length + 1 := by
      by_cases c : n ∈ l
      · rw [List.length_erase_of_mem c]; omega
      · rw [List.erase_of_not_mem c]; omega
    omega
theorem trim_le {ks : List Wv} (h : ∀ k ∈ ks, AdjW k) : (trimW ks).length ≤ 32 := by
  have ap := keep_apart (le := leW) (rs := ks) (Nat.le_refl _)
  have lt : ∀ x ∈ (trimW ks).map codeW, x < 32 := fun x hx => by
    obtain ⟨k, hk, rfl⟩ := List.mem_map.mp hx
    obtain ⟨a, b, c⟩ := adj_lt (h k (keep_sub hk))
    unfold codeW
    split <;> omega
  have nd : ((trimW ks).map codeW).Nodup := by
    refine List.pairwise_map.mpr (List.Pairwise.imp_of_mem (fun {x y} hx hy h2 e => ?_) ap)
    obtain ⟨h3, h4⟩ := h2
    obtain ⟨a, b, c⟩ := adj_lt (h x (keep_sub hx))
    obtain ⟨a', b', c'⟩ := adj_lt (h y (keep_sub hy))
    unfold codeW at e
    have hb : x.2.2.2 = y.2.2.2 := by
      cases q1 : x.2.2.2 <;> cases q2 : y.2.2.2 <;> rw [q1, q2] at e <;> first | rfl | (simp at e; omega)
    rw [hb] at e
    have e1 : x.1 = y.1 := by omega
    have e2 : x.2.2.1 = y.2.2.1 := by omega
    rcases Nat.le_total x.2.1 y.2.1 with l | l
    · have := (leW_iff (x := y) (y := x)).mpr ⟨fun h => by rw [← hb]; exact h, by omega, by omega, by omega⟩
      rw [this] at h4; cases h4
    · have := (leW_iff (x := x) (y := y)).mpr ⟨fun h => by rw [hb]; exact h, by omega, by omega, by omega⟩
      rw [this] at h3; cases h3
  have := short_nats 32 _ nd lt
  rw [List.length_map] at this
  exact this
theorem met_ok {P Q : List Rl} (aP : ∀ r ∈ P, ∀ k ∈ r.2.2, AdjW k) (aQ : ∀ r ∈ Q, ∀ k ∈ r.2.2, AdjW k) : ∀ r ∈ metR P Q, (∀ k ∈ r.2.2, AdjW k) ∧ r.2.2.length ≤ 32 := fun r hr => by
  obtain ⟨p, hp, rfl⟩ := List.mem_map.mp hr
  have ok : ∀ k ∈ meetW p.2.2 (rlAt Q p.1).2.2, AdjW k := fun k hk => by
    obtain ⟨a, ha, b, hb, rfl⟩ := mem_meet hk
    refine adj_and (aP p hp a ha) ?_
    unfold rlAt at hb
    cases e : lookR Q p.1 with
    | none => rw [e] at hb; cases hb
    | some q => rw [e] at hb; exact aQ q (List.mem_of_find?_eq_some e) b hb
  exact ⟨fun k hk => ok k (keep_sub hk), trim_le ok⟩
theorem join_ok {P Q : List Rl} (aP : ∀ r ∈ P, ∀ k ∈ r.2.2, AdjW k) (aQ : ∀ r ∈ Q, ∀ k ∈ r.2.2, AdjW k) : ∀ r ∈ joinR P Q, (∀ k ∈ r.2.2, AdjW k) ∧ r.2.2.length ≤ 32 := fun r hr => by
  obtain ⟨p, hp, rfl⟩ := List.mem_map.mp hr
  have ok : ∀ k ∈ p.2.2 ++ (rlAt Q p.1).2.2, AdjW k := fun k hk => by
    rcases List.mem_append.mp hk with hk | hk
    · exact aP p hp k hk
    · unfold rlAt at hk
      cases e : lookR Q p.1 with
      | none => rw [e] at hk; cases hk
      | some q => rw [e] at hk; exact aQ q (List.mem_of_find?_eq_some e) k hk
  exact ⟨fun k hk => ok k (keep_sub hk), trim_le ok⟩
end My

namespace My
open PySem L2
def spLeft (K : PySem.W.Frag) : Sp := fun vs H Q _ => ∃ (u : Addr) (ps : List V) (rs : List Rk), vs = [.ref u] ∧ SqL K H u ps ∧ All2 (LwAt H) ps rs ∧ rs.length ≤ 2000 ∧
  ∀ v ks H', Same H H' → H v = none → H' v = some (.lst ks) → All2 (LwAt H) ks (leftR leR rs) → Q (.ref v) H'
section
variable {P : Program} {w : World} {K : PySem.W.Frag} {mg : Str → Option Value} {base : Heap}
end
/-! ### the same with ways as in rules -/
def rk (k : Wv) : Rk := ⟨k.1, k.2.1, k.2.2.1, k.2.2.2⟩
theorem cov_map {α β : Type} {f : α → β} {le : α → α → Bool} {le' : β → β → Bool} (h : ∀ x y, le' (f x) (f y) = le x y) (l : List α) (k : Nat) (x : α) : ∀ n, covN le' (l.map f) k (f x) n = covN le l k x n
  | 0 => rfl
  | n + 1 => by
    unfold covN
    rw [List.getElem?_map]
    cases e : l[n]? with
    | none => exact cov_map h l k x n
    | some y =>
      show (covN le' (l.map f) k (f x) n || covB le' k (f x) n (f y)) = (covN le l k x n || covB le k x n y)
      rw [cov_map h l k x n]
      unfold covB
      rw [h, h]
theorem keep_map {α β : Type} {f : α → β} {le : α → α → Bool} {le' : β → β → Bool} (h : ∀ x y, le' (f x) (f y) = le x y) (l : List α) : ∀ n, keepN le' (l.map f) n = (keepN le l n).map f
  | 0 => rfl
  | n + 1 => by
    unfold keepN
    rw [List.getElem?_map]
    cases e : l[n]? with
    | none => exact keep_map h l n
    | some x =>
      show (if covN le' (l.map f) n (f x) (l.map f).length then keepN le' (l.map f) n else keepN le' (l.map f) n ++ [f x]) = (if covN le l n x l.length then keepN le l n else keepN le l n ++ [x]).map f
      rw [List.length_map, cov_map h, keep_map h l n]
      split
      · rfl
      · rw [List.map_append]; rfl
theorem left_rk (ks : List Wv) : leftR leR (ks.map rk) = (trimW ks).map rk := by
  unfold leftR trimW leftR
  rw [List.length_map]
  exact keep_map (fun _ _ => rfl) ks _
theorem all2_of {F : V → Wv → Prop} {G : Addr → Rk → Prop} (h : ∀ v k, F v k → ∃ q, v = .ref q ∧ G q (rk k)) {us : List V} {ks : List Wv} (p : Paired F us ks) : All2 G us (ks.map rk) := by
  refine ⟨by rw [pair_len' p, List.length_map], fun i r e => ?_⟩
  rw [List.getElem?_map] at e
  cases ek : ks[i]? with
  | none => rw [ek] at e; cases e
  | some k =>
    rw [ek] at e
    obtain rfl := Option.some.inj e
    obtain ⟨v, hv, f⟩ := pair_back p ek
    obtain ⟨q, rfl, g⟩ := h v k f
    exact ⟨q, hv, g⟩
theorem of_all2 {G : Addr → Rk → Prop} : ∀ {us : List V} {ks : List Wv}, All2 G us (ks.map rk) → Paired (fun v k => ∃ q, v = .ref q ∧ G q (rk k)) us ks
  | [], [], _ => .nil
  | [], k :: ks, h => by have := h.1; simp at this
  | v :: us, [], h => by have := h.1; simp at this
  | v :: us, k :: ks, h => by
    obtain ⟨q, e, g⟩ := h.2 0 (rk k) rfl
    refine .cons ⟨q, by simpa using e, g⟩ (of_all2 ⟨by have := h.1; simpa using this, fun i r er => ?_⟩)
    obtain ⟨q2, e2, g2⟩ := h.2 (i + 1) r (by simpa using er)
    exact ⟨q2, by simpa using e2, g2⟩
end My

namespace My
open PySem L2
def spSameSh (Cp Cw Cs CO : Addr) : Sp := fun vs H Q E => ∃ (p q xp mp ap bp xq mq aq bq : Addr) (P1 P2 : List Rl) (rs rs2 : List Row), vs = [.ref p, .ref q] ∧ Pol Cp Cw H p xp mp ap bp P1 ∧ Pol Cp Cw H q xq mq aq bq P2 ∧ ShO Cs H xp rs ∧ ShO Cs H xq rs2 ∧ wordsOk rs ∧ wordsOk rs2 ∧
  (rs = rs2 → Q .non H) ∧ (rs ≠ rs2 → E (.ref CO) none H)
section
variable {w : World} {K : PySem.W.Frag} {mg : Str → Option Value} {base : Heap}
theorem ok_same_shape (T : Txt K mg) : FnOk PP w K mg base (L2.CX PP w) 2 T.a_same_shape T.fd_same_shape ["policy", "other"] (spSameSh T.c_Policy T.c_Way T.c_Shape T.c_OtherShape) := by
  refine T.F_same_shape.okX sc_same_shape (fun vs H Q E h => ?_) (fun cdv A outer s H vs Q E hr h => ?_)
  · obtain ⟨p, q, xp, mp, ap, bp, xq, mq, aq, bq, P1, P2, rs, rs2, rfl, _⟩ := h; rfl
  · obtain ⟨p, q, xp, mp, ap, bp, xq, mq, aq, bq, P1, P2, rs, rs2, rfl, hP, hQ, S, S2, g, g2, qq, qe⟩ := h
    refine ⟨_, (pss_one (ps_if (pt_not (pt_cmpR (op_cmpI (fun _ _ => rfl) T.m_Shape_eq.at_ T.m_Shape_eq.fn (ok_Shape_eq T) (hr.mono (by omega)) T.b_Shape_eq pass0) (pe_fld (pv 0) rfl) (pe_fld (pv 1) rfl) (nomark _))) (pss_one (ps_raise0 rfl T.x_OtherShape (takes_of rfl rfl rfl rfl))) pss_nil)), ?_⟩
    obtain ⟨dp, hp⟩ := hP.obj
    obtain ⟨dq, hq⟩ := hQ.obj
    obtain ⟨dx, _, _, _, hx, _⟩ := id S
    obtain ⟨dx2, _, _, _, hx2, _⟩ := id S2
    refine ⟨_, rfl, p, _, dp, _, _, rfl, hp, T.cl_Policy, T.no_Policy_shape, rfl, _, rfl, q, _, dq, _, _, rfl, hq, T.cl_Policy, T.no_Policy_shape, rfl, xp, dx, _, xq, dx2, _, rfl, rfl, hx, hx2, xp, xq, rs, rs2, rfl, S, S2, g, g2, ?_⟩
    refine ⟨_, rfl, iteN (fun c => ?_) (fun c => ?_)⟩
    · exact qe c
    · exact qq c
def spMet (Cp Cw Cs CO : Addr) : Sp := fun vs H Q E => ∃ (p q xp mp ap bp xq mq aq bq : Addr) (P1 P2 : List Rl) (rs rs2 : List Row), vs = [.ref p, .ref q] ∧ Pol Cp Cw H p xp mp ap bp P1 ∧ Pol Cp Cw H q xq mq aq bq P2 ∧ ShO Cs H xp rs ∧ ShO Cs H xq rs2 ∧ wordsOk rs ∧ wordsOk rs2 ∧ P1.map (·.1) = mks rs ∧ P2.map (·.1) = mks rs2 ∧
  (∀ r ∈ P1, (∀ k ∈ r.2.2, AdjW k) ∧ r.2.2.length ≤ 32) ∧ (∀ r ∈ P2, (∀ k ∈ r.2.2, AdjW k) ∧ r.2.2.length ≤ 32) ∧ P1.length ≤ 100 ∧
  (rs = rs2 → ∀ u us H', Same H H' → H u = none → H' u = some (.lst us) → Paired (RwV Cw H') us (metR P1 P2) → Q (.ref u) H') ∧ (rs ≠ rs2 → E (.ref CO) none H)
set_option maxHeartbeats 16000000 in
set_option pp.maxSteps 900 in
theorem ok_met (T : Txt K mg) : FnOk PP w K mg base (L2.CX PP w) 8 T.a_met T.fd_met ["policy", "other"] (spMet T.c_Policy T.c_Way T.c_Shape T.c_OtherShape) := by
  refine T.F_met.okX sc_met (fun vs H Q E h => ?_) (fun cdv A outer s H vs Q E hr h => ?_)
  · obtain ⟨p, q, xp, mp, ap, bp, xq, mq, aq, bq, P1, P2, rs, rs2, rfl, _⟩ := h; rfl
  · obtain ⟨p, q, xp, mp, ap, bp, xq, mq, aq, bq, P1, P2, rs, rs2, rfl, hP, hQ, S, S2, g, g2, e1, e2, a1, a2, l1, qq, qe⟩ := h
    refine ⟨_, (pss_cons (ps_expr (pe_call (ok_same_shape T) (hr.mono (by omega)) (by rfl) T.g_same_shape T.F_same_shape.kp T.b_same_shape .nil (passes_call (takes_of rfl rfl rfl rfl) (fun _ _ _ _ h => h)) (pa_cons (pv 0) (pa_cons (pv 1) pa_nil))))
      (pss_cons (ps_set (i := 2) sc_met.nd rfl (.inl rfl) (pe_lst pa_nil))
      (pss_cons (ps_for (passes_of rfl) rfl (pi_own T.m_Shape_iter (ok_Shape_iter T) (hr.mono (by omega)) (pe_fld (pv 0) rfl)) (pg_name (i := 3) sc_met.nd rfl (.inr rfl)) (pss_cons (ps_setLc2 (i := 4) (own := [("way", 5), ("further", 6)]) (g := gName 5) (g1 := gName 6) (vs1 := [6]) (by rfl) sc_met.nd rfl rfl (sw_true rfl rfl rfl (by decide +kernel)) (pi_tup (pe_meth (pv 0) T.cl_Policy T.m_Policy_ways_of (ok_Policy_ways_of T) (hr.mono (by omega)) T.b_Policy_ways_of .nil pass0 (pa_cons (pv 3) pa_nil))) (blkOk_by (own := [("way", 5), ("further", 6)]) (N := ["policy", "other", "rows", "mark", "ways", "way", "further", "start"]) (sc := defScope S_met) (by decide +kernel)) (by decide) (fun _ _ _ _ _ => (pg_name (i := 5) sc_met.nd rfl (by first | exact .inl rfl | exact .inr rfl))) (fun _ _ _ _ _ => pts_nil) (fun _ _ _ _ _ => (pi_tupleK (K := K) rfl (pe_meth (pv 1) T.cl_Policy T.m_Policy_ways_of (ok_Policy_ways_of T) (hr.mono (by omega)) T.b_Policy_ways_of .nil pass0 (pa_cons (pv 3) pa_nil)))) (fun _ _ _ _ _ => (pg_name (i := 6) sc_met.nd rfl (by first | exact .inl rfl | exact .inr rfl))) (fun _ _ _ _ _ => pts_nil) (fun _ _ _ _ _ => (pe_op (op_binI T.sf_Way T.m_Way_and.at_ T.m_Way_and.fn (ok_Way_and T) (hr.mono (by omega)) T.b_Way_and pass0) (pv 5) (pv 6))))
      (pss_cons (ps_set (i := 7) sc_met.nd rfl (.inl rfl) (pe_and (pe_meth (pv 0) T.cl_Policy T.m_Policy_starts_at (ok_Policy_starts_at T) (hr.mono (by omega)) T.b_Policy_starts_at .nil pass0 (pa_cons (pv 3) pa_nil)) (pe_one (pe_meth (pv 1) T.cl_Policy T.m_Policy_starts_at (ok_Policy_starts_at T) (hr.mono (by omega)) T.b_Policy_starts_at .nil pass0 (pa_cons (pv 3) pa_nil)))))
      (pss_one (ps_expr (pe_bm PySem.F.plainAttrs_list PySem.F.slot_list_append PySem.F.type_list_append mt_append (pv 2) (pa_cons (pe_tup (pa_cons (pv 3) (pa_cons (pv 7) (pa_cons (pe_call (ok_trimmed T) (hr.mono (by omega)) (by rfl) T.g_trimmed T.F_trimmed.kp T.b_trimmed .nil pass0 (pa_cons (pv 4) pa_nil)) pa_nil)))) pa_nil)))))))
      (pss_one (ps_ret (pv 2)))))), ?_⟩
    have big : 100000 < sizeLine := by decide
    obtain ⟨dp, hp⟩ := hP.obj
    obtain ⟨dq, hq⟩ := hQ.obj
    obtain ⟨dx, l, mm, vs0, hx, hl, hrs, hmm⟩ := id S
    refine ⟨_, rfl, _, rfl, p, q, xp, mp, ap, bp, xq, mq, aq, bq, P1, P2, rs, rs2, rfl, hP, hQ, S, S2, g, g2, fun e => ?_, fun n => qe n⟩
    refine ⟨Nat.zero_le _, fun L nL => ?_⟩
    have lmk : (mksV rs).length = rs.length := by unfold mksV; rw [List.length_map]
    have lP1 : P1.length = rs.length := by rw [← List.length_map (f := fun r : Rl => r.1), e1]; unfold mks; rw [List.length_map]
    have sL := same_new (o := .lst []) nL
    refine ⟨_, rfl, p, _, dp, _, _, rfl, sL _ _ hp, T.cl_Policy, T.no_Policy_shape, rfl, xp, dx, mm, _, mksV rs, rfl, sL _ _ hx, sh_look2 l mm, SqL.of (sL _ _ hmm), for_list (K := K) (a := mm) (xs := mksV rs) (fun i σ H' => ∃ (x3 x4 x7 : Option V) (us : List V), σ = [some (.ref p), some (.ref q), some (.ref L), x3, x4, none, none, x7] ∧ Same H H' ∧ H' L = some (.lst us) ∧ Paired (RwV T.c_Way H') us ((metR P1 P2).take i)) ⟨_, _, _, [], rfl, sL, upd_same, .nil⟩ (fun i σ H' _ ⟨_, _, _, _, _, s, _⟩ => SqL.of (s _ _ hmm)) ?_ ?_⟩
    rotate_left
    · rintro σ H2 ⟨x3, x4, x7, us, rfl, s2, h2, p2⟩
      refine ⟨_, rfl, qq e L us H2 s2 nL h2 ?_⟩
      rw [lmk, ← lP1, show P1.length = (metR P1 P2).length by unfold metR; rw [List.length_map], List.take_length] at p2
      exact p2
    rintro i v σ H2 hv ⟨x3, x4, x7, us, rfl, s2, h2, p2⟩
    obtain ⟨r, hr, rfl⟩ : ∃ r, P1[i]? = some r ∧ v = .str r.1 := by
      have e3 : mksV rs = P1.map fun r => V.str r.1 := by
        unfold mksV
        rw [show (List.map (fun r : Rl => V.str r.1) P1) = (P1.map (·.1)).map V.str by rw [List.map_map]; rfl, e1]
        unfold mks
        rw [List.map_map]; rfl
      rw [e3, List.getElem?_map] at hv
      cases ep : P1[i]? with
      | none => rw [ep] at hv; cases hv
      | some r => rw [ep] at hv; exact ⟨r, rfl, (Option.some.inj hv).symm⟩
    have hi := (List.getElem?_eq_some_iff.mp hr).1
    have lk1 : lookR P1 r.1 = some r := look_at hP.nd hr
    obtain ⟨r2, hr2, er2⟩ : ∃ r2, P2[i]? = some r2 ∧ r2.1 = r.1 := by
      have e4 : P2.map (·.1) = P1.map (·.1) := by rw [e2, e1, e]
      have e5 : (P2.map (·.1))[i]? = some r.1 := by rw [e4, List.getElem?_map, hr]; rfl
      rw [List.getElem?_map] at e5
      cases ep : P2[i]? with
      | none => rw [ep] at e5; cases e5
      | some r2 => rw [ep] at e5; exact ⟨r2, rfl, Option.some.inj e5⟩
    have lk2 : lookR P2 r.1 = some r2 := by rw [← er2]; exact look_at hQ.nd hr2
    have eA : rlAt P2 r.1 = r2 := by unfold rlAt; rw [lk2]; rfl
    obtain ⟨ad1, ln1⟩ := a1 r (List.mem_of_getElem? hr)
    obtain ⟨ad2, ln2⟩ := a2 r2 (List.mem_of_getElem? hr2)
    -- the ways
    refine ⟨_, rfl, p, dp, _, rfl, s2 _ _ hp, rfl, _, rfl, p, xp, mp, ap, bp, P1, r.1, r, rfl, hP.same s2, lk1, fun t1 H3 s3 ⟨vs1, ht1, pw1⟩ => ⟨t1, rfl, ⟨_, SqT.of ht1⟩, fun D nD => lc2_tup (K := K) (a := t1) (xs := vs1) (fun i H' => ∃ os, Same H3 H' ∧ H' D = some (.lst os) ∧ Paired (WyV T.c_Way H') os (meetW (r.2.2.take i) r2.2.2)) ⟨[], same_new nD, upd_same, .nil⟩ (fun i H' _ ⟨_, s, _⟩ => SqT.of (s _ _ ht1)) ?_ ?_⟩⟩
    · rintro i1 v1 H4 hv1 ⟨os, s4, hD4, po⟩
      obtain ⟨k1, hk1, y1, rfl, dy1, hy1⟩ := pair_get' pw1 hv1
      have m1 := List.mem_of_getElem? hk1
      have s24 := s3.trans s4
      refine ⟨rfl, yes_i (iteT ?_)⟩
      refine ⟨_, rfl, q, dq, _, rfl, (s2.trans s24) _ _ hq, rfl, _, rfl, q, xq, mq, aq, bq, P2, r.1, r2, rfl, hQ.same (s2.trans s24), lk2, fun t2 H5 s5 ⟨vs2, ht2, pw2⟩ => ⟨t2, rfl, ⟨_, SqT.of ht2⟩, in_tup (K := K) (a := t2) (xs := vs2) (fun j H' => ∃ oz, But D H5 H' ∧ H' D = some (.lst (os ++ oz)) ∧ Paired (WyV T.c_Way H') (os ++ oz) (meetW (r.2.2.take i1) r2.2.2 ++ (r2.2.2.take j).map (andW k1))) ⟨[], But.refl _ _, by rw [List.append_nil]; exact s5 _ _ hD4, by rw [List.append_nil, List.take_zero, List.map_nil, List.append_nil]; exact L2.Paired.mapP po fun _ _ h => h.keep (.same s5)⟩ (fun j H' _ ⟨_, b, _⟩ => SqT.of (b _ _ (fun z => by rw [z, s5 _ _ hD4] at ht2; cases ht2) ht2)) ?_ ?_⟩⟩
      · rintro j v2 H6 hv2 ⟨oz, b6, hD6, pz⟩
        obtain ⟨k2, hk2, y2, rfl, dy2, hy2⟩ := pair_get' pw2 hv2
        have m2 := List.mem_of_getElem? hk2
        have hy2' := b6 _ _ (fun z => by rw [z, s5 _ _ hD4] at hy2; cases hy2) hy2
        have hy1' := b6 _ _ (ne_of_none hy1 nD) (s5 _ _ (s4 _ _ hy1))
        obtain ⟨l11, l12, l13⟩ := adj_lt (ad1 k1 m1)
        obtain ⟨l21, l22, l23⟩ := adj_lt (ad2 k2 m2)
        refine ⟨rfl, yes_i (iteT ?_)⟩
        refine ⟨_, rfl, _, rfl, y1, dy1, _, y2, dy2, _, rfl, rfl, hy1', hy2', y1, y2, k1.1, k1.2.1, k1.2.2.1, k1.2.2.2, k2.1, k2.2.1, k2.2.2.1, k2.2.2.2, rfl, ⟨dy1, hy1'⟩, ⟨dy2, hy2'⟩, l11, l12, l13, l21, l22, l23, fun z H7 s7 nz wz => ?_⟩
        have hD7 := s7 _ _ hD6
        have lpz := pair_len' pz
        have lm := meet_len (r.2.2.take i1) r2.2.2
        have lt1 : (r.2.2.take i1).length ≤ 32 := by rw [List.length_take]; omega
        have lmm : (meetW (r.2.2.take i1) r2.2.2).length ≤ 1024 := by
          rw [lm]; exact Nat.mul_le_mul lt1 ln2
        have kk : Kw T.c_Way H7 (upd H7 D (.lst ((os ++ oz) ++ [.ref z]))) := .upd hD7 fun t => by rcases t with ⟨_, e⟩ | ⟨_, _, _, _, _, e⟩ <;> cases e
        have ea : Wy T.c_Way H7 z (andW k1 k2).1 (andW k1 k2).2.1 (andW k1 k2).2.2.1 (andW k1 k2).2.2.2 := by
          obtain ⟨b1, b2, b3⟩ := ad1 k1 m1
          obtain ⟨b4, b5, b6⟩ := ad2 k2 m2
          have x1 : max (max k1.1 k2.1) (max k1.2.1 k2.2.1) = max k1.1 k2.1 := by omega
          have x2 : max (max k1.2.2.1 k2.2.2.1) (max k1.1 k2.1) = max k1.2.2.1 k2.2.2.1 := by omega
          rw [x1, x2] at wz
          exact wz
        refine ⟨os ++ oz, hD7, ?_, oz ++ [.ref z], (b6.trans (But.of_same s7)).trans But.upd, by rw [← List.append_assoc]; exact upd_same, ?_⟩
        · rw [lpz, List.length_append, List.length_map, List.length_take]; omega
        · rw [List.take_add_one, hk2, Option.toList_some, List.map_append, ← List.append_assoc, ← List.append_assoc]
          exact pair_app' (L2.Paired.mapP pz fun _ _ h => (h.keep (.same s7)).keep kk) (.cons (WyV.keep ⟨z, rfl, ea⟩ kk) .nil)
      · rintro H6 ⟨oz, b6, hD6, pz⟩
        refine ⟨os ++ oz, fun c o h => b6 _ _ (ne_of_none h nD) (s5 _ _ (s4 _ _ h)), hD6, ?_⟩
        rw [List.take_add_one, hk1, Option.toList_some, meet_app]
        rw [pair_len' pw2, List.take_length] at pz
        exact pz
    rintro H4 ⟨os, s4, hD4, po⟩
    rw [pair_len' pw1, List.take_length] at po
    have s24 := s3.trans s4
    have s04 := s2.trans s24
    have lpo := pair_len' po
    have lmm : (meetW r.2.2 r2.2.2).length ≤ 1024 := by rw [meet_len]; exact Nat.mul_le_mul ln1 ln2
    have okm : ∀ k ∈ meetW r.2.2 r2.2.2, AdjW k := fun k hk => by
      obtain ⟨a, ha, b, hb, rfl⟩ := mem_meet hk
      exact adj_and (ad1 a ha) (ad2 b hb)
    have em : (metR P1 P2)[i]? = some (r.1, (r.2.1 && r2.2.1), trimW (meetW r.2.2 r2.2.2)) := by
      unfold metR
      rw [List.getElem?_map, hr, Option.map_some, eA]
    have lus := pair_len' p2
    have lmet : (metR P1 P2).length = P1.length := by unfold metR; rw [List.length_map]
    -- the start, the row
    refine ⟨_, rfl, p, dp, _, rfl, s04 _ _ hp, rfl, _, rfl, p, xp, mp, ap, bp, P1, r.1, r, rfl, hP.same s04, lk1, fun H5 s5 => ⟨_, rfl, ?_⟩⟩
    cases hb : r.2.1 with
    | true =>
      rw [hb] at em
      refine iteT ⟨_, rfl, q, dq, _, rfl, (s04.trans s5) _ _ hq, rfl, _, rfl, q, xq, mq, aq, bq, P2, r.1, r2, rfl, hQ.same (s04.trans s5), lk2, fun H6 s6 => ?_⟩
      have s46 := s5.trans s6
      have s26 := s24.trans s46
      refine ⟨_, rfl, .inl ⟨rfl, _, SqL.of (s26 _ _ h2)⟩, _, rfl, _, rfl, _, rfl, D, os, (meetW r.2.2 r2.2.2).map rk, rfl, .inl (SqL.of (s46 _ _ hD4)), all2_of (fun v k ⟨x, e, f⟩ => ⟨x, e, Wy.same f s46⟩) po, fun x hx => by obtain ⟨k, hk, rfl⟩ := List.mem_map.mp hx; exact okm k hk, by rw [List.length_map]; omega, fun tv ks H8 s8 ntv htv all => ⟨by show 3 ≤ sizeLine; decide, fun u nu => ?_⟩⟩
      have s9 := same_new (o := .tup [.str r.1, .bl r2.2.1, .ref tv]) nu
      have s29 := s26.trans (s8.trans s9)
      have hL9 := s29 _ _ h2
      refine ⟨_, _, _, rfl, rfl, hL9, by rw [lus, List.length_take]; omega, ?_⟩
      have all' := of_all2 (left_rk _ ▸ all)
      have kk : Kw T.c_Way (upd H8 u (.tup [.str r.1, .bl r2.2.1, .ref tv])) (upd (upd H8 u (.tup [.str r.1, .bl r2.2.1, .ref tv])) L (.lst (us ++ [.ref u]))) := .upd hL9 fun t => by rcases t with ⟨_, e⟩ | ⟨_, _, _, _, _, e⟩ <;> cases e
      have keepR : ∀ {v : V} {x : Rl}, RwV T.c_Way (upd H8 u (.tup [.str r.1, .bl r2.2.1, .ref tv])) v x → RwV T.c_Way (upd (upd H8 u (.tup [.str r.1, .bl r2.2.1, .ref tv])) L (.lst (us ++ [.ref u]))) v x := fun ⟨a, t, e, f, g⟩ => ⟨a, t, e, kk _ _ f (.inl ⟨_, rfl⟩), g.keep kk⟩
      refine ⟨_, _, _, us ++ [.ref u], rfl, same_mut (s2.trans s29) nL, upd_same, ?_⟩
      rw [List.take_add_one, em, Option.toList_some]
      refine pair_app' (L2.Paired.mapP p2 fun _ _ ⟨a, t, e, f, g⟩ => keepR ⟨a, t, e, s29 _ _ f, g.keep (.same s29)⟩) (.cons (keepR ⟨u, tv, rfl, upd_same, ⟨ks, s9 _ _ htv, L2.Paired.mapP all' fun _ _ ⟨x, e, f⟩ => ⟨x, e, Wy.same f (s8.trans s9)⟩⟩⟩) .nil)
    | false =>
      rw [hb] at em
      refine iteF ?_
      have s46 := s5
      have s26 := s24.trans s46
      refine ⟨_, rfl, .inl ⟨rfl, _, SqL.of (s26 _ _ h2)⟩, _, rfl, _, rfl, _, rfl, D, os, (meetW r.2.2 r2.2.2).map rk, rfl, .inl (SqL.of (s46 _ _ hD4)), all2_of (fun v k ⟨x, e, f⟩ => ⟨x, e, Wy.same f s46⟩) po, fun x hx => by obtain ⟨k, hk, rfl⟩ := List.mem_map.mp hx; exact okm k hk, by rw [List.length_map]; omega, fun tv ks H8 s8 ntv htv all => ⟨by show 3 ≤ sizeLine; decide, fun u nu => ?_⟩⟩
      have s9 := same_new (o := .tup [.str r.1, .bl false, .ref tv]) nu
      have s29 := s26.trans (s8.trans s9)
      have hL9 := s29 _ _ h2
      refine ⟨_, _, _, rfl, rfl, hL9, by rw [lus, List.length_take]; omega, ?_⟩
      have all' := of_all2 (left_rk _ ▸ all)
      have kk : Kw T.c_Way (upd H8 u (.tup [.str r.1, .bl false, .ref tv])) (upd (upd H8 u (.tup [.str r.1, .bl false, .ref tv])) L (.lst (us ++ [.ref u]))) := .upd hL9 fun t => by rcases t with ⟨_, e⟩ | ⟨_, _, _, _, _, e⟩ <;> cases e
      have keepR : ∀ {v : V} {x : Rl}, RwV T.c_Way (upd H8 u (.tup [.str r.1, .bl false, .ref tv])) v x → RwV T.c_Way (upd (upd H8 u (.tup [.str r.1, .bl false, .ref tv])) L (.lst (us ++ [.ref u]))) v x := fun ⟨a, t, e, f, g⟩ => ⟨a, t, e, kk _ _ f (.inl ⟨_, rfl⟩), g.keep kk⟩
      refine ⟨_, _, _, us ++ [.ref u], rfl, same_mut (s2.trans s29) nL, upd_same, ?_⟩
      rw [List.take_add_one, em, Option.toList_some]
      refine pair_app' (L2.Paired.mapP p2 fun _ _ ⟨a, t, e, f, g⟩ => keepR ⟨a, t, e, s29 _ _ f, g.keep (.same s29)⟩) (.cons (keepR ⟨u, tv, rfl, upd_same, ⟨ks, s9 _ _ htv, L2.Paired.mapP all' fun _ _ ⟨x, e, f⟩ => ⟨x, e, Wy.same f (s8.trans s9)⟩⟩⟩) .nil)
def spPolAnd (Cp Cw Cs CO : Addr) : Sp := fun vs H Q E => ∃ (p q xp mp ap bp xq mq aq bq : Addr) (P1 P2 : List Rl) (rs rs2 : List Row), vs = [.ref p, .ref q] ∧ Pol Cp Cw H p xp mp ap bp P1 ∧ Pol Cp Cw H q xq mq aq bq P2 ∧ ShO Cs H xp rs ∧ ShO Cs H xq rs2 ∧ wordsOk rs ∧ wordsOk rs2 ∧ P1.map (·.1) = mks rs ∧ P2.map (·.1) = mks rs2 ∧
  (∀ r ∈ P1, (∀ k ∈ r.2.2, AdjW k) ∧ r.2.2.length ≤ 32) ∧ (∀ r ∈ P2, (∀ k ∈ r.2.2, AdjW k) ∧ r.2.2.length ≤ 32) ∧ P1.length ≤ 100 ∧
  (rs = rs2 → ∀ z m a b H', Same H H' → H z = none → H m = none → H a = none → H b = none → Pol Cp Cw H' z xp m a b (metR P1 P2) → Q (.ref z) H') ∧ (rs ≠ rs2 → E (.ref CO) none H)
theorem ok_Policy_and (T : Txt K mg) : FnOk PP w K mg base (L2.CX PP w) 10 T.a_Policy_and T.fd_Policy_and ["self", "other"] (spPolAnd T.c_Policy T.c_Way T.c_Shape T.c_OtherShape) := by
  refine T.F_Policy_and.okX sc_Policy_and (fun vs H Q E h => ?_) (fun cdv A outer s H vs Q E hr h => ?_)
  · obtain ⟨p, q, xp, mp, ap, bp, xq, mq, aq, bq, P1, P2, rs, rs2, rfl, _⟩ := h; rfl
  · obtain ⟨p, q, xp, mp, ap, bp, xq, mq, aq, bq, P1, P2, rs, rs2, rfl, hP, hQ, S, S2, g, g2, e1, e2, a1, a2, l1, qq, qe⟩ := h
    refine ⟨_, (pss_cons (ps_if (pt_not (pt_val (pe_callB call_isi (by rfl) T.n_isinstance (by decide +kernel) (pa_cons (pv 1) (pa_cons (pe_glob (v := .ref T.c_Policy) (by rfl) T.g_Policy rfl) pa_nil))))) (pss_one ps_never) pss_nil)
      (pss_one (ps_ret (pe_make T.mk_Policy (ok_Policy_init_l T) (hr.mono (by omega)) (by rfl) T.g_Policy T.kb_Policy_init_3.choose_spec.2 T.kb_Policy_init_3.choose_spec.1 pass0 (pa_cons (pe_fld (pv 0) rfl) (pa_cons (pe_call (ok_met T) (hr.mono (by omega)) (by rfl) T.g_met T.F_met.kp T.b_met .nil (passes_call (takes_of rfl rfl rfl rfl) (fun _ _ _ _ h => h)) (pa_cons (pv 0) (pa_cons (pv 1) pa_nil))) pa_nil)))))), ?_⟩
    obtain ⟨dp, hp⟩ := hP.obj
    obtain ⟨dq, hq⟩ := hQ.obj
    have lrs : rs.length ≤ 100 := by
      have : P1.length = rs.length := by rw [← List.length_map (f := fun r : Rl => r.1), e1]; unfold mks; rw [List.length_map]
      omega
    refine ⟨_, rfl, _, _, _, _, true, rfl, ClsV.own _, .base (T.ti_Policy _ _ _ _ hq), T.kk_Policy, _, rfl, iteF ?_⟩
    refine ⟨_, rfl, p, _, dp, _, _, rfl, hp, T.cl_Policy, T.no_Policy_shape, rfl, _, rfl, _, rfl, p, q, xp, mp, ap, bp, xq, mq, aq, bq, P1, P2, rs, rs2, rfl, hP, hQ, S, S2, g, g2, e1, e2, a1, a2, l1, fun e u us H1 s1 nu hu pu => ?_, fun n => qe n⟩
    refine fun y dy ny ndy ne => ?_
    have s2 : Same H1 (upd (upd H1 dy (.own y)) y (.ins T.c_Policy dy [])) := fun a o h => by rw [upd_ne (ne_of_none h ny), upd_ne (ne_of_none h ndy)]; exact h
    have em : (metR P1 P2).map (·.1) = mks rs := by rw [metR_fst, e1]
    refine ⟨y, dy, xp, u, us, metR P1 P2, rs, rfl, upd_same, S.same (s1.trans s2), by rw [← e1]; exact hP.nd, lrs, s2 _ _ hu, L2.Paired.mapP pu fun _ _ ⟨a, t, e, f, g⟩ => ⟨a, t, e, s2 _ _ f, g.keep (.same s2)⟩, fun r hr => by rw [← em]; exact List.mem_map.mpr ⟨r, hr, rfl⟩, fun m a b H2 b2 nm na nb P2' => ⟨rfl, ?_⟩⟩
    have ndr : (mks rs).Nodup := by rw [← e1]; exact hP.nd
    rw [fold_self ndr em] at P2'
    have fr : ∀ {c : Addr}, (upd (upd H1 dy (.own y)) y (.ins T.c_Policy dy [])) c = none → H c = none := fun {c} h => (s1.trans s2).free h
    exact qq e y m a b H2 (fun c o h => b2 _ _ (ne_of_none (s1 _ _ h) ny) (s2 _ _ (s1 _ _ h))) (s1.free ny) (fr nm) (fr na) (fr nb) P2'
end
end My

namespace My
open PySem L2
theorem catA_any {K : PySem.W.Frag} {a b : Addr} {xs ys : List V} {H : Hp} {Q : VK} (ha : H a = some (.tup xs)) (hb : H b = some (.tup ys)) (l : xs.length + ys.length ≤ sizeLine) (q : ∀ p H', Same H H' → H' p = some (.tup (xs ++ ys)) → Q (.ref p) H') : rCatA K (.ref a) (.ref b) H Q :=
  ⟨a, b, xs, ys, rfl, rfl, SqT.of ha, SqT.of hb, l, fun e => q b H (Same.refl _) (by rw [e]; exact hb), fun _ e => q a H (Same.refl _) (by rw [e, List.append_nil]; exact ha), fun _ _ p np => q p _ (same_new np) upd_same⟩
section
variable {w : World} {K : PySem.W.Frag} {mg : Str → Option Value} {base : Heap}
def spEither (Cp Cw Cs CO : Addr) : Sp := fun vs H Q E => ∃ (p q xp mp ap bp xq mq aq bq : Addr) (P1 P2 : List Rl) (rs rs2 : List Row), vs = [.ref p, .ref q] ∧ Pol Cp Cw H p xp mp ap bp P1 ∧ Pol Cp Cw H q xq mq aq bq P2 ∧ ShO Cs H xp rs ∧ ShO Cs H xq rs2 ∧ wordsOk rs ∧ wordsOk rs2 ∧ P1.map (·.1) = mks rs ∧ P2.map (·.1) = mks rs2 ∧
  (∀ r ∈ P1, (∀ k ∈ r.2.2, AdjW k) ∧ r.2.2.length ≤ 32) ∧ (∀ r ∈ P2, (∀ k ∈ r.2.2, AdjW k) ∧ r.2.2.length ≤ 32) ∧ P1.length ≤ 100 ∧
  (rs = rs2 → ∀ u us H', Same H H' → H u = none → H' u = some (.lst us) → Paired (RwV Cw H') us (joinR P1 P2) → Q (.ref u) H') ∧ (rs ≠ rs2 → E (.ref CO) none H)
set_option maxHeartbeats 16000000 in
set_option pp.maxSteps 900 in
theorem ok_either (T : Txt K mg) : FnOk PP w K mg base (L2.CX PP w) 8 T.a_either T.fd_either ["policy", "other"] (spEither T.c_Policy T.c_Way T.c_Shape T.c_OtherShape) := by
  refine T.F_either.okX sc_either (fun vs H Q E h => ?_) (fun cdv A outer s H vs Q E hr h => ?_)
  · obtain ⟨p, q, xp, mp, ap, bp, xq, mq, aq, bq, P1, P2, rs, rs2, rfl, _⟩ := h; rfl
  · obtain ⟨p, q, xp, mp, ap, bp, xq, mq, aq, bq, P1, P2, rs, rs2, rfl, hP, hQ, S, S2, g, g2, e1, e2, a1, a2, l1, qq, qe⟩ := h
    refine ⟨_, (pss_cons (ps_expr (pe_call (ok_same_shape T) (hr.mono (by omega)) (by rfl) T.g_same_shape T.F_same_shape.kp T.b_same_shape .nil (passes_call (takes_of rfl rfl rfl rfl) (fun _ _ _ _ h => h)) (pa_cons (pv 0) (pa_cons (pv 1) pa_nil))))
      (pss_cons (ps_set (i := 2) sc_either.nd rfl (.inl rfl) (pe_lst pa_nil))
      (pss_cons (ps_for (passes_of rfl) rfl (pi_own T.m_Shape_iter (ok_Shape_iter T) (hr.mono (by omega)) (pe_fld (pv 0) rfl)) (pg_name (i := 3) sc_either.nd rfl (.inl rfl)) (pss_cons (ps_set (i := 4) sc_either.nd rfl (.inl rfl) (pe_op op_catA (pe_meth (pv 0) T.cl_Policy T.m_Policy_ways_of (ok_Policy_ways_of T) (hr.mono (by omega)) T.b_Policy_ways_of .nil pass0 (pa_cons (pv 3) pa_nil)) (pe_meth (pv 1) T.cl_Policy T.m_Policy_ways_of (ok_Policy_ways_of T) (hr.mono (by omega)) T.b_Policy_ways_of .nil pass0 (pa_cons (pv 3) pa_nil))))
      (pss_cons (ps_set (i := 5) sc_either.nd rfl (.inl rfl) (pe_or (pe_meth (pv 0) T.cl_Policy T.m_Policy_starts_at (ok_Policy_starts_at T) (hr.mono (by omega)) T.b_Policy_starts_at .nil pass0 (pa_cons (pv 3) pa_nil)) (pe_one (pe_meth (pv 1) T.cl_Policy T.m_Policy_starts_at (ok_Policy_starts_at T) (hr.mono (by omega)) T.b_Policy_starts_at .nil pass0 (pa_cons (pv 3) pa_nil)))))
      (pss_one (ps_expr (pe_bm PySem.F.plainAttrs_list PySem.F.slot_list_append PySem.F.type_list_append mt_append (pv 2) (pa_cons (pe_tup (pa_cons (pv 3) (pa_cons (pv 5) (pa_cons (pe_call (ok_trimmed T) (hr.mono (by omega)) (by rfl) T.g_trimmed T.F_trimmed.kp T.b_trimmed .nil pass0 (pa_cons (pv 4) pa_nil)) pa_nil)))) pa_nil)))))))
      (pss_one (ps_ret (pv 2)))))), ?_⟩
    have big : 100000 < sizeLine := by decide
    obtain ⟨dp, hp⟩ := hP.obj
    obtain ⟨dq, hq⟩ := hQ.obj
    obtain ⟨dx, l, mm, vs0, hx, hl, hrs, hmm⟩ := id S
    refine ⟨_, rfl, _, rfl, p, q, xp, mp, ap, bp, xq, mq, aq, bq, P1, P2, rs, rs2, rfl, hP, hQ, S, S2, g, g2, fun e => ?_, fun n => qe n⟩
    refine ⟨Nat.zero_le _, fun L nL => ?_⟩
    have lmk : (mksV rs).length = rs.length := by unfold mksV; rw [List.length_map]
    have lP1 : P1.length = rs.length := by rw [← List.length_map (f := fun r : Rl => r.1), e1]; unfold mks; rw [List.length_map]
    have sL := same_new (o := .lst []) nL
    refine ⟨_, rfl, p, _, dp, _, _, rfl, sL _ _ hp, T.cl_Policy, T.no_Policy_shape, rfl, xp, dx, mm, _, mksV rs, rfl, sL _ _ hx, sh_look2 l mm, SqL.of (sL _ _ hmm), for_list (K := K) (a := mm) (xs := mksV rs) (fun i σ H' => ∃ (x3 x4 x7 : Option V) (us : List V), σ = [some (.ref p), some (.ref q), some (.ref L), x3, x4, x7] ∧ Same H H' ∧ H' L = some (.lst us) ∧ Paired (RwV T.c_Way H') us ((joinR P1 P2).take i)) ⟨_, _, _, [], rfl, sL, upd_same, .nil⟩ (fun i σ H' _ ⟨_, _, _, _, _, s, _⟩ => SqL.of (s _ _ hmm)) ?_ ?_⟩
    rotate_left
    · rintro σ H2 ⟨x3, x4, x7, us, rfl, s2, h2, p2⟩
      refine ⟨_, rfl, qq e L us H2 s2 nL h2 ?_⟩
      rw [lmk, ← lP1, show P1.length = (joinR P1 P2).length by unfold joinR; rw [List.length_map], List.take_length] at p2
      exact p2
    rintro i v σ H2 hv ⟨x3, x4, x7, us, rfl, s2, h2, p2⟩
    obtain ⟨r, hr, rfl⟩ : ∃ r, P1[i]? = some r ∧ v = .str r.1 := by
      have e3 : mksV rs = P1.map fun r => V.str r.1 := by
        unfold mksV
        rw [show (List.map (fun r : Rl => V.str r.1) P1) = (P1.map (·.1)).map V.str by rw [List.map_map]; rfl, e1]
        unfold mks
        rw [List.map_map]; rfl
      rw [e3, List.getElem?_map] at hv
      cases ep : P1[i]? with
      | none => rw [ep] at hv; cases hv
      | some r => rw [ep] at hv; exact ⟨r, rfl, (Option.some.inj hv).symm⟩
    have hi := (List.getElem?_eq_some_iff.mp hr).1
    have lk1 : lookR P1 r.1 = some r := look_at hP.nd hr
    obtain ⟨r2, hr2, er2⟩ : ∃ r2, P2[i]? = some r2 ∧ r2.1 = r.1 := by
      have e4 : P2.map (·.1) = P1.map (·.1) := by rw [e2, e1, e]
      have e5 : (P2.map (·.1))[i]? = some r.1 := by rw [e4, List.getElem?_map, hr]; rfl
      rw [List.getElem?_map] at e5
      cases ep : P2[i]? with
      | none => rw [ep] at e5; cases e5
      | some r2 => rw [ep] at e5; exact ⟨r2, rfl, Option.some.inj e5⟩
    have lk2 : lookR P2 r.1 = some r2 := by rw [← er2]; exact look_at hQ.nd hr2
    have eA : rlAt P2 r.1 = r2 := by unfold rlAt; rw [lk2]; rfl
    obtain ⟨ad1, ln1⟩ := a1 r (List.mem_of_getElem? hr)
    obtain ⟨ad2, ln2⟩ := a2 r2 (List.mem_of_getElem? hr2)
    -- the ways
    have s2p := s2 _ _ hp
    refine ⟨_, rfl, p, dp, _, rfl, s2 _ _ hp, rfl, _, rfl, p, xp, mp, ap, bp, P1, r.1, r, rfl, hP.same s2, lk1, fun t1 H3 s3 ⟨vs1, ht1, pw1⟩ => ⟨_, rfl, q, dq, _, rfl, (s2.trans s3) _ _ hq, rfl, _, rfl, q, xq, mq, aq, bq, P2, r.1, r2, rfl, hQ.same (s2.trans s3), lk2, fun t2 H4 s4 ⟨vs2, ht2, pw2⟩ => catA_any (K := K) (s4 _ _ ht1) ht2 (by rw [pair_len' pw1, pair_len' pw2]; omega) fun D H5 s5 hD => ?_⟩⟩
    have po : Paired (WyV T.c_Way H5) (vs1 ++ vs2) (r.2.2 ++ r2.2.2) := pair_app' (L2.Paired.mapP pw1 fun _ _ h => h.keep (.same (s4.trans s5))) (L2.Paired.mapP pw2 fun _ _ h => h.keep (.same s5))
    have s25 := s3.trans (s4.trans s5)
    have s05 := s2.trans s25
    clear pw1 pw2 ht1 ht2 s3 s4 s5
    have lpo := pair_len' po
    have lmm : (r.2.2 ++ r2.2.2).length ≤ 64 := by rw [List.length_append]; omega
    have okm : ∀ k ∈ r.2.2 ++ r2.2.2, AdjW k := fun k hk => by
      rcases List.mem_append.mp hk with hk | hk
      · exact ad1 k hk
      · exact ad2 k hk
    have em : (joinR P1 P2)[i]? = some (r.1, (r.2.1 || r2.2.1), trimW (r.2.2 ++ r2.2.2)) := by
      unfold joinR
      rw [List.getElem?_map, hr, Option.map_some, eA]
    have lus := pair_len' p2
    have lmet : (joinR P1 P2).length = P1.length := joinR_len _ _
    -- the start, the row
    refine ⟨_, rfl, p, dp, _, rfl, s05 _ _ hp, rfl, _, rfl, p, xp, mp, ap, bp, P1, r.1, r, rfl, hP.same s05, lk1, fun H6 s6 => ⟨_, rfl, ?_⟩⟩
    cases hb : r.2.1 with
    | true =>
      rw [hb] at em
      refine iteT ?_
      have s57 := s6
      have s27 := s25.trans s57
      refine ⟨_, rfl, .inl ⟨rfl, _, SqL.of (s27 _ _ h2)⟩, _, rfl, _, rfl, _, rfl, D, vs1 ++ vs2, (r.2.2 ++ r2.2.2).map rk, rfl, .inr (SqT.of (s57 _ _ hD)), all2_of (fun v k ⟨x, e, f⟩ => ⟨x, e, Wy.same f s57⟩) po, fun x hx => by obtain ⟨k, hk, rfl⟩ := List.mem_map.mp hx; exact okm k hk, by rw [List.length_map]; omega, fun tv ks H8 s8 ntv htv all => ⟨by show 3 ≤ sizeLine; decide, fun u nu => ?_⟩⟩
      have s9 := same_new (o := .tup [.str r.1, .bl true, .ref tv]) nu
      have s29 := s27.trans (s8.trans s9)
      have hL9 := s29 _ _ h2
      refine ⟨_, _, _, rfl, rfl, hL9, by rw [lus, List.length_take]; omega, ?_⟩
      have all' := of_all2 (left_rk _ ▸ all)
      have kk : Kw T.c_Way (upd H8 u (.tup [.str r.1, .bl true, .ref tv])) (upd (upd H8 u (.tup [.str r.1, .bl true, .ref tv])) L (.lst (us ++ [.ref u]))) := .upd hL9 fun t => by rcases t with ⟨_, e⟩ | ⟨_, _, _, _, _, e⟩ <;> cases e
      have keepR : ∀ {v : V} {x : Rl}, RwV T.c_Way (upd H8 u (.tup [.str r.1, .bl true, .ref tv])) v x → RwV T.c_Way (upd (upd H8 u (.tup [.str r.1, .bl true, .ref tv])) L (.lst (us ++ [.ref u]))) v x := fun ⟨a, t, e, f, g⟩ => ⟨a, t, e, kk _ _ f (.inl ⟨_, rfl⟩), g.keep kk⟩
      refine ⟨_, _, _, us ++ [.ref u], rfl, same_mut (s2.trans s29) nL, upd_same, ?_⟩
      rw [List.take_add_one, em, Option.toList_some]
      refine pair_app' (L2.Paired.mapP p2 fun _ _ ⟨a, t, e, f, g⟩ => keepR ⟨a, t, e, s29 _ _ f, g.keep (.same s29)⟩) (.cons (keepR ⟨u, tv, rfl, upd_same, ⟨ks, s9 _ _ htv, L2.Paired.mapP all' fun _ _ ⟨x, e, f⟩ => ⟨x, e, Wy.same f (s8.trans s9)⟩⟩⟩) .nil)
    | false =>
      rw [hb] at em
      refine iteF ⟨_, rfl, q, dq, _, rfl, (s05.trans s6) _ _ hq, rfl, _, rfl, q, xq, mq, aq, bq, P2, r.1, r2, rfl, hQ.same (s05.trans s6), lk2, fun H7 s7 => ?_⟩
      have s57 := s6.trans s7
      have s27 := s25.trans s57
      refine ⟨_, rfl, .inl ⟨rfl, _, SqL.of (s27 _ _ h2)⟩, _, rfl, _, rfl, _, rfl, D, vs1 ++ vs2, (r.2.2 ++ r2.2.2).map rk, rfl, .inr (SqT.of (s57 _ _ hD)), all2_of (fun v k ⟨x, e, f⟩ => ⟨x, e, Wy.same f s57⟩) po, fun x hx => by obtain ⟨k, hk, rfl⟩ := List.mem_map.mp hx; exact okm k hk, by rw [List.length_map]; omega, fun tv ks H8 s8 ntv htv all => ⟨by show 3 ≤ sizeLine; decide, fun u nu => ?_⟩⟩
      have s9 := same_new (o := .tup [.str r.1, .bl r2.2.1, .ref tv]) nu
      have s29 := s27.trans (s8.trans s9)
      have hL9 := s29 _ _ h2
      refine ⟨_, _, _, rfl, rfl, hL9, by rw [lus, List.length_take]; omega, ?_⟩
      have all' := of_all2 (left_rk _ ▸ all)
      have kk : Kw T.c_Way (upd H8 u (.tup [.str r.1, .bl r2.2.1, .ref tv])) (upd (upd H8 u (.tup [.str r.1, .bl r2.2.1, .ref tv])) L (.lst (us ++ [.ref u]))) := .upd hL9 fun t => by rcases t with ⟨_, e⟩ | ⟨_, _, _, _, _, e⟩ <;> cases e
      have keepR : ∀ {v : V} {x : Rl}, RwV T.c_Way (upd H8 u (.tup [.str r.1, .bl r2.2.1, .ref tv])) v x → RwV T.c_Way (upd (upd H8 u (.tup [.str r.1, .bl r2.2.1, .ref tv])) L (.lst (us ++ [.ref u]))) v x := fun ⟨a, t, e, f, g⟩ => ⟨a, t, e, kk _ _ f (.inl ⟨_, rfl⟩), g.keep kk⟩
      refine ⟨_, _, _, us ++ [.ref u], rfl, same_mut (s2.trans s29) nL, upd_same, ?_⟩
      rw [List.take_add_one, em, Option.toList_some]
      refine pair_app' (L2.Paired.mapP p2 fun _ _ ⟨a, t, e, f, g⟩ => keepR ⟨a, t, e, s29 _ _ f, g.keep (.same s29)⟩) (.cons (keepR ⟨u, tv, rfl, upd_same, ⟨ks, s9 _ _ htv, L2.Paired.mapP all' fun _ _ ⟨x, e, f⟩ => ⟨x, e, Wy.same f (s8.trans s9)⟩⟩⟩) .nil)
def spPolOr (Cp Cw Cs CO : Addr) : Sp := fun vs H Q E => ∃ (p q xp mp ap bp xq mq aq bq : Addr) (P1 P2 : List Rl) (rs rs2 : List Row), vs = [.ref p, .ref q] ∧ Pol Cp Cw H p xp mp ap bp P1 ∧ Pol Cp Cw H q xq mq aq bq P2 ∧ ShO Cs H xp rs ∧ ShO Cs H xq rs2 ∧ wordsOk rs ∧ wordsOk rs2 ∧ P1.map (·.1) = mks rs ∧ P2.map (·.1) = mks rs2 ∧
  (∀ r ∈ P1, (∀ k ∈ r.2.2, AdjW k) ∧ r.2.2.length ≤ 32) ∧ (∀ r ∈ P2, (∀ k ∈ r.2.2, AdjW k) ∧ r.2.2.length ≤ 32) ∧ P1.length ≤ 100 ∧
  (rs = rs2 → ∀ z m a b H', Same H H' → H z = none → H m = none → H a = none → H b = none → Pol Cp Cw H' z xp m a b (joinR P1 P2) → Q (.ref z) H') ∧ (rs ≠ rs2 → E (.ref CO) none H)
theorem ok_Policy_or (T : Txt K mg) : FnOk PP w K mg base (L2.CX PP w) 10 T.a_Policy_or T.fd_Policy_or ["self", "other"] (spPolOr T.c_Policy T.c_Way T.c_Shape T.c_OtherShape) := by
  refine T.F_Policy_or.okX sc_Policy_or (fun vs H Q E h => ?_) (fun cdv A outer s H vs Q E hr h => ?_)
  · obtain ⟨p, q, xp, mp, ap, bp, xq, mq, aq, bq, P1, P2, rs, rs2, rfl, _⟩ := h; rfl
  · obtain ⟨p, q, xp, mp, ap, bp, xq, mq, aq, bq, P1, P2, rs, rs2, rfl, hP, hQ, S, S2, g, g2, e1, e2, a1, a2, l1, qq, qe⟩ := h
    refine ⟨_, (pss_cons (ps_if (pt_not (pt_val (pe_callB call_isi (by rfl) T.n_isinstance (by decide +kernel) (pa_cons (pv 1) (pa_cons (pe_glob (v := .ref T.c_Policy) (by rfl) T.g_Policy rfl) pa_nil))))) (pss_one ps_never) pss_nil)
      (pss_one (ps_ret (pe_make T.mk_Policy (ok_Policy_init_l T) (hr.mono (by omega)) (by rfl) T.g_Policy T.kb_Policy_init_3.choose_spec.2 T.kb_Policy_init_3.choose_spec.1 pass0 (pa_cons (pe_fld (pv 0) rfl) (pa_cons (pe_call (ok_either T) (hr.mono (by omega)) (by rfl) T.g_either T.F_either.kp T.b_either .nil (passes_call (takes_of rfl rfl rfl rfl) (fun _ _ _ _ h => h)) (pa_cons (pv 0) (pa_cons (pv 1) pa_nil))) pa_nil)))))), ?_⟩
    obtain ⟨dp, hp⟩ := hP.obj
    obtain ⟨dq, hq⟩ := hQ.obj
    have lrs : rs.length ≤ 100 := by
      have : P1.length = rs.length := by rw [← List.length_map (f := fun r : Rl => r.1), e1]; unfold mks; rw [List.length_map]
      omega
    refine ⟨_, rfl, _, _, _, _, true, rfl, ClsV.own _, .base (T.ti_Policy _ _ _ _ hq), T.kk_Policy, _, rfl, iteF ?_⟩
    refine ⟨_, rfl, p, _, dp, _, _, rfl, hp, T.cl_Policy, T.no_Policy_shape, rfl, _, rfl, _, rfl, p, q, xp, mp, ap, bp, xq, mq, aq, bq, P1, P2, rs, rs2, rfl, hP, hQ, S, S2, g, g2, e1, e2, a1, a2, l1, fun e u us H1 s1 nu hu pu => ?_, fun n => qe n⟩
    refine fun y dy ny ndy ne => ?_
    have s2 : Same H1 (upd (upd H1 dy (.own y)) y (.ins T.c_Policy dy [])) := fun a o h => by rw [upd_ne (ne_of_none h ny), upd_ne (ne_of_none h ndy)]; exact h
    have em : (joinR P1 P2).map (·.1) = mks rs := by rw [joinR_fst, e1]
    refine ⟨y, dy, xp, u, us, joinR P1 P2, rs, rfl, upd_same, S.same (s1.trans s2), by rw [← e1]; exact hP.nd, lrs, s2 _ _ hu, L2.Paired.mapP pu fun _ _ ⟨a, t, e, f, g⟩ => ⟨a, t, e, s2 _ _ f, g.keep (.same s2)⟩, fun r hr => by rw [← em]; exact List.mem_map.mpr ⟨r, hr, rfl⟩, fun m a b H2 b2 nm na nb P2' => ⟨rfl, ?_⟩⟩
    have ndr : (mks rs).Nodup := by rw [← e1]; exact hP.nd
    rw [fold_self ndr em] at P2'
    have fr : ∀ {c : Addr}, (upd (upd H1 dy (.own y)) y (.ins T.c_Policy dy [])) c = none → H c = none := fun {c} h => (s1.trans s2).free h
    exact qq e y m a b H2 (fun c o h => b2 _ _ (ne_of_none (s1 _ _ h) ny) (s2 _ _ (s1 _ _ h))) (s1.free ny) (fr nm) (fr na) (fr nb) P2'
end
end My

namespace My
open PySem L2
/-! ### kinds, supplies, what fits -/
abbrev Kd := Str × Str
def KdV (H : Hp) (v : V) (k : Kd) : Prop := ∃ p, v = .ref p ∧ H p = some (.tup [.str k.1, .str k.2])
theorem KdV.same {H H' : Hp} {v : V} {k : Kd} (h : KdV H v k) (s : Same H H') : KdV H' v k := let ⟨p, e, f⟩ := h; ⟨p, e, s _ _ f⟩
def kds (z : Str) (sh : Bool) : List Kd := if sh then [(z, "own"), (z, "share")] else [(z, "own")]
def shB (rs : List Row) (z : Str) : Bool := ((findR rs z).map (·.sh)).getD false
def kindsOf (rs : List Row) (rl : List Rl) : List Kd := rl.flatMap fun q => if q.2.1 then kds q.1 (shB rs q.1) else []
theorem flat_filter {α β : Type} (p : α → Bool) (f : α → List β) : ∀ l : List α, (l.filter p).flatMap f = l.flatMap fun a => if p a then f a else []
  | [] => rfl
  | a :: l => by
    cases e : p a with
    | true => rw [List.filter_cons_of_pos e, List.flatMap_cons, List.flatMap_cons, flat_filter p f l, e]; rfl
    | false => rw [List.filter_cons_of_neg (by rw [e]; exact Bool.false_ne_true), List.flatMap_cons, flat_filter p f l, e]; rfl
theorem findR_nd : ∀ {rs : List Row} {i : Nat} {r : Row}, (mks rs).Nodup → rs[i]? = some r → findR rs r.mark = some r
  | [], _, _, _, e => by simp at e
  | q :: rs, 0, r, _, e => by
    obtain rfl : q = r := by simpa using e
    unfold findR
    rw [List.find?_cons, decide_eq_true rfl]
  | q :: rs, i + 1, r, nd, e => by
    have e : rs[i]? = some r := by simpa using e
    have nd := List.nodup_cons.mp (show (q.mark :: mks rs).Nodup from nd)
    have ne : q.mark ≠ r.mark := fun h => nd.1 (h ▸ List.mem_map.mpr ⟨r, List.mem_of_getElem? e, rfl⟩)
    unfold findR
    rw [List.find?_cons, decide_eq_false ne]
    exact findR_nd nd.2 e
theorem findR_in {rs : List Row} {z : Str} (h : z ∈ mks rs) : ∃ r, findR rs z = some r := by
  cases e : findR rs z with
  | some r => exact ⟨r, rfl⟩
  | none =>
    obtain ⟨r, hr, e2⟩ := List.mem_map.mp h
    exact absurd (decide_eq_true e2) (by simpa using List.find?_eq_none.mp e r hr)
theorem shB_at {rs : List Row} {z : Str} {r : Row} (h : findR rs z = some r) : shB rs z = r.sh := by unfold shB; rw [h]; rfl
/-- what is supplied -/
def nearB (ps ns : List Str) : Bool := ps.any fun p => decide (p ∈ ns)
def nshB (rs : List Row) (ps ns : List Str) : Bool := ps.any fun p => decide (p ∈ ns) && shB rs p
def supS (ps ns : List Str) (k : Kd) : Int := if nearB ps ns then 9 else if k.1 ∈ ps then 1 else 0
def supO (ps ns : List Str) (k : Kd) : Int := if nearB ps ns then 9 else if k.1 ∈ ps ∧ k.2 = "own" then 1 else 0
def supH (rs : List Row) (ps ns : List Str) (k : Kd) : Int := if nshB rs ps ns then 9 else if k.1 ∈ ps ∧ k.2 = "share" then 1 else 0
def okKd (k : Kd) : Prop := k.2 = "own" ∨ k.2 = "share"
def fitB (r : Row) (ns : List Str) (k : Kd) (w : Wv) (n : Int) : Bool := decide (need w.2.2.1 n ≤ n) && (decide (need w.2.2.1 n ≤ supS r.pars ns k) && decide (need w.2.1 n ≤ supO r.pars ns k))
theorem kds_modes (z : Str) (sh : Bool) : modesV sh = (kds z sh).map fun k => .str k.2 := by cases sh <;> rfl
theorem kds_fst {z : Str} {sh : Bool} {k : Kd} (h : k ∈ kds z sh) : k.1 = z := by
  unfold kds at h
  cases sh with
  | true =>
    simp at h
    rcases h with rfl | rfl <;> rfl
  | false =>
    simp at h
    rw [h]
theorem kds_len (z : Str) (sh : Bool) : (kds z sh).length ≤ 2 := by cases sh <;> simp [kds]
theorem KdV.but {u : Addr} {H H' : Hp} {v : V} {k : Kd} {xs : List V} (hu : H u = some (.lst xs)) (h : KdV H v k) (b : But u H H') : KdV H' v k := let ⟨p, e, f⟩ := h; ⟨p, e, b _ _ (fun z => by rw [z, hu] at f; cases f) f⟩
theorem same_butK {u : Addr} {H H2 H' : Hp} (s : Same H H2) (n : H u = none) (b : But u H2 H') : Same H H' := fun c o e => b _ _ (ne_of_none e n) (s _ _ e)
theorem flat_lenK {α : Type} {f : α → List Kd} (hf : ∀ a, (f a).length ≤ 2) : ∀ l : List α, (l.flatMap f).length ≤ 2 * l.length
  | [] => Nat.zero_le _
  | a :: l => by
    rw [List.flatMap_cons, List.length_append, List.length_cons]
    have := flat_lenK hf l
    have := hf a
    omega
theorem inShare (sh : Bool) : inV (V.str "share") (modesV sh) = sh := by cases sh <;> rfl
def spKinds (C Cw Cs : Addr) : Sp := fun vs H Q _ => ∃ (y x m a b : Addr) (rl : List Rl) (rs : List Row), vs = [.ref y] ∧ Pol C Cw H y x m a b rl ∧ ShO Cs H x rs ∧ rl.length ≤ 1000 ∧ (∀ q ∈ rl, q.1 ∈ mks rs) ∧
  ∀ u ws H', Same H H' → H u = none → H' u = some (.lst ws) → Paired (KdV H') ws (kindsOf rs rl) → Q (.ref u) H'
def spSupply (K : PySem.W.Frag) (Cs : Addr) : Sp := fun vs H Q _ => ∃ (x kk n : Addr) (z : Str) (rs : List Row) (r : Row) (k : Kd) (ns : List Str), vs = [.ref x, .str z, .ref kk, .ref n] ∧ ShO Cs H x rs ∧ findR rs z = some r ∧ (∀ p ∈ r.pars, p ∈ mks rs) ∧ r.pars.length ≤ 1000 ∧ H kk = some (.tup [.str k.1, .str k.2]) ∧ (SqL K H n (ns.map V.str) ∨ SqT K H n (ns.map V.str)) ∧ okKd k ∧
  ∀ u H', Same H H' → H u = none → H' u = some (.tup [.int (supS r.pars ns k), .int (supO r.pars ns k), .int (supH rs r.pars ns k)]) → Q (.ref u) H'
def spFits (K : PySem.W.Frag) (Cw Cs : Addr) : Sp := fun vs H Q _ => ∃ (x w kk n : Addr) (z : Str) (c : Int) (rs : List Row) (r : Row) (wv : Wv) (k : Kd) (ns : List Str), vs = [.ref x, .ref w, .str z, .int c, .ref kk, .ref n] ∧ ShO Cs H x rs ∧ findR rs z = some r ∧ (∀ p ∈ r.pars, p ∈ mks rs) ∧ r.pars.length ≤ 1000 ∧ Wy Cw H w wv.1 wv.2.1 wv.2.2.1 wv.2.2.2 ∧ wv.1 < 4 ∧ wv.2.1 < 4 ∧ wv.2.2.1 < 4 ∧ H kk = some (.tup [.str k.1, .str k.2]) ∧ (SqL K H n (ns.map V.str) ∨ SqT K H n (ns.map V.str)) ∧ okKd k ∧
  ∀ H', Same H H' → Q (.bl (fitB r ns k wv c)) H'
theorem any_take {α : Type} {l : List α} {f : α → Bool} {i : Nat} {x : α} (h : l[i]? = some x) : (l.take (i + 1)).any f = ((l.take i).any f || f x) := by
  rw [List.take_succ, h, List.any_append]; simp
section
variable {w : World} {K : PySem.W.Frag} {mg : Str → Option Value} {base : Heap}
set_option maxHeartbeats 16000000 in
set_option pp.maxSteps 600 in
theorem ok_kinds (T : Txt K mg) : FnOk PP w K mg base CX0 8 T.a_kinds T.fd_kinds ["policy"] (spKinds T.c_Policy T.c_Way T.c_Shape) := by
  refine T.F_kinds.ok sc_kinds (fun vs H Q E h => ?_) (fun cdv A outer s H vs Q E hr h => ?_)
  · obtain ⟨y, x, m, a, b, rl, rs, rfl, _⟩ := h; rfl
  · obtain ⟨y, x, m, a, b, rl, rs, rfl, P, hS, lr, sub, q⟩ := h
    refine ⟨_, (pss_cons (ps_set (i := 1) sc_kinds.nd rfl (.inl rfl) (pe_lst pa_nil))
      (pss_cons (ps_for PassesOwn.never rfl (pi_tup (pe_prop (pv 0) T.cl_Policy T.pr_Policy_starts (ok_Policy_starts T) (hr.mono (by omega)) T.b_Policy_starts .nil pass0 rfl)) (pg_name (i := 2) sc_kinds.nd rfl (.inl rfl)) (pss_one (ps_for PassesOwn.never rfl (pi_tup (pe_meth (pe_fld (pv 0) rfl) T.cl_Shape T.m_Shape_modes_of ((ok_Shape_modes_of T).calm) (hr.mono (by omega)) T.b_Shape_modes_of .nil pass0 (pa_cons (pv 2) pa_nil))) (pg_name (i := 3) sc_kinds.nd rfl (.inl rfl)) (pss_one (ps_expr (pe_bm PySem.F.plainAttrs_list PySem.F.slot_list_append PySem.F.type_list_append mt_append (pv 1) (pa_cons (pe_tup (pa_cons (pv 2) (pa_cons (pv 3) pa_nil))) pa_nil)))))))
      (pss_one (ps_ret (pv 1))))), ?_⟩
    have big : 100000 < sizeLine := by decide
    obtain ⟨dy, hy⟩ := P.obj
    obtain ⟨dx, sl, sm, us, hx, _⟩ := id hS
    refine ⟨Nat.zero_le _, fun u nu => ?_⟩
    have s1 := same_new (o := .lst []) nu
    have hu1 : (upd H u (.lst [])) u = some (.lst []) := upd_same
    revert s1 hu1
    generalize upd H u (.lst []) = H1
    intro s1 hu1
    refine ⟨_, rfl, y, dy, _, rfl, s1 _ _ hy, y, x, m, a, b, rl, rfl, P.same s1, lr, fun p H2 s2 np hp => ?_⟩
    have s02 := s1.trans s2
    have hu2 := s2 _ _ hu1
    have npu : p ≠ u := (ne_of_none hu1 np).symm
    obtain ⟨f, ef⟩ : ∃ f : Rl → List Kd, f = fun q => kds q.1 (shB rs q.1) := ⟨_, rfl⟩
    have lf : ∀ q, (f q).length ≤ 2 := fun q => by rw [ef]; exact kds_len _ _
    have lfl := List.length_filter_le (fun r : Rl => r.2.1) rl
    refine ⟨p, rfl, ⟨_, SqT.of hp⟩, for_tup (K := K) (a := p) (xs := (rl.filter (·.2.1)).map fun r => .str r.1) (fun i σ H' => ∃ (x2 x3 : Option V) (ws : List V), σ = [some (.ref y), some (.ref u), x2, x3] ∧ But u H2 H' ∧ H' u = some (.lst ws) ∧ Paired (KdV H') ws (((rl.filter (·.2.1)).take i).flatMap f)) ⟨_, _, [], rfl, But.refl _ _, hu2, .nil⟩ (fun i σ H' _ ⟨_, _, _, _, b, _⟩ => SqT.of (b _ _ npu hp)) ?_ ?_⟩
    · rintro i v σ H3 hv ⟨x2, x3, ws, rfl, b3, hu3, pr⟩
      rw [List.getElem?_map] at hv
      obtain ⟨q0, hq0⟩ : ∃ q0, (rl.filter (·.2.1))[i]? = some q0 := by
        cases e : (rl.filter (·.2.1))[i]? with
        | none => rw [e] at hv; cases hv
        | some q0 => exact ⟨q0, rfl⟩
      rw [hq0] at hv
      obtain rfl := Option.some.inj hv
      have hi := (List.getElem?_eq_some_iff.mp hq0).1
      obtain ⟨r, fr⟩ := findR_in (sub q0 (List.mem_filter.mp (List.mem_of_getElem? hq0)).1)
      have s3 := same_butK s02 nu b3
      refine ⟨_, rfl, y, _, dy, _, _, rfl, s3 _ _ hy, T.cl_Policy, T.no_Policy_shape, polF1 x m a b, x, dx, _, rfl, s3 _ _ hx, rfl, _, rfl, x, q0.1, rs, rfl, hS.same s3, fun r' t H4 fr' s4 tc => ?_, fun e => by rw [fr] at e; cases e⟩
      rw [fr] at fr'
      obtain rfl := Option.some.inj fr'
      rw [kds_modes q0.1] at tc
      have hu4 := s4 _ _ hu3
      have fq : f q0 = kds q0.1 r.sh := by rw [ef]; show kds q0.1 (shB rs q0.1) = _; rw [shB_at fr]
      have lw3 : ws.length ≤ 2 * i := by
        have := flat_lenK lf ((rl.filter (·.2.1)).take i)
        rw [pair_len' pr]
        rw [List.length_take] at this
        omega
      refine ⟨t, rfl, ⟨_, tc.sq⟩, for_tup (K := K) (a := t) (xs := (kds q0.1 r.sh).map fun k => .str k.2) (fun j σ H' => ∃ (x3 : Option V) (ws' : List V), σ = [some (.ref y), some (.ref u), some (.str q0.1), x3] ∧ But u H4 H' ∧ H' u = some (.lst ws') ∧ Paired (KdV H') ws' (((rl.filter (·.2.1)).take i).flatMap f ++ (f q0).take j)) ⟨_, ws, rfl, But.refl _ _, hu4, by rw [List.take_zero, List.append_nil]; exact L2.Paired.mapP pr fun _ _ h => h.same s4⟩ (fun j σ H' _ ⟨_, _, _, b, _⟩ => ?_) ?_ ?_⟩
      · rcases tc with tc | tc
        · exact SqT.of (b _ _ (fun z => by rw [z, hu4] at tc; cases tc) tc)
        · exact tc _
      · rintro j v σ H5 hv ⟨x3, ws', rfl, b5, hu5, pr5⟩
        rw [List.getElem?_map] at hv
        obtain ⟨k, hk⟩ : ∃ k, (kds q0.1 r.sh)[j]? = some k := by
          cases e : (kds q0.1 r.sh)[j]? with
          | none => rw [e] at hv; cases hv
          | some k => exact ⟨k, rfl⟩
        rw [hk] at hv
        obtain rfl := Option.some.inj hv
        have ek := kds_fst (List.mem_of_getElem? hk)
        have l5 : ws'.length ≤ 2 * i + 2 := by
          have := flat_lenK lf ((rl.filter (·.2.1)).take i)
          rw [pair_len' pr5, List.length_append]
          rw [List.length_take] at this
          have h2 := lf q0
          rw [List.length_take]
          omega
        refine ⟨_, rfl, .inl ⟨rfl, _, SqL.of hu5⟩, _, rfl, _, rfl, by show 2 ≤ sizeLine; decide, fun e ne => ?_⟩
        have s6 := same_new (o := .tup [.str q0.1, .str k.2]) ne
        have neu : e ≠ u := (ne_of_none hu5 ne).symm
        refine ⟨_, _, _, rfl, rfl, s6 _ _ hu5, by omega, ?_⟩
        have b6 : But u H5 (upd (upd H5 e (.tup [.str q0.1, .str k.2])) u (.lst (ws' ++ [.ref e]))) := fun c o n h => by rw [upd_ne n]; exact s6 _ _ h
        refine ⟨_, ws' ++ [.ref e], rfl, b5.trans b6, upd_same, ?_⟩
        rw [List.take_succ, fq, hk, ← List.append_assoc, ← fq]
        refine pair_app' (L2.Paired.mapP pr5 fun _ _ h => h.but hu5 b6) (.cons ⟨e, rfl, ?_⟩ .nil)
        rw [upd_ne neu, ek]; exact upd_same
      · rintro σ H5 ⟨x3, ws', rfl, b5, hu5, pr5⟩
        rw [List.length_map, ← fq, List.take_length] at pr5
        refine ⟨_, _, ws', rfl, (b3.trans (But.of_same s4)).trans b5, hu5, ?_⟩
        rw [List.take_succ, hq0, Option.toList_some, List.flatMap_append, List.flatMap_cons, List.flatMap_nil, List.append_nil]
        exact pr5
    · rintro σ H3 ⟨x2, x3, ws, rfl, b3, hu3, pr⟩
      rw [List.length_map, List.take_length, ef, flat_filter] at pr
      exact ⟨_, rfl, q u ws H3 (same_butK s02 nu b3) nu hu3 pr⟩
set_option maxHeartbeats 16000000 in
set_option pp.maxSteps 600 in
theorem ok_supply (T : Txt K mg) : FnOk PP w K mg base CX0 8 T.a_supply T.fd_supply ["shape", "mark", "kind", "reached"] (spSupply K T.c_Shape) := by
  refine T.F_supply.ok sc_supply (fun vs H Q E h => ?_) (fun cdv A outer s H vs Q E hr h => ?_)
  · obtain ⟨x, kk, n, z, rs, r, k, ns, rfl, _⟩ := h; rfl
  · obtain ⟨x, kk, n, z, rs, r, k, ns, rfl, hS, fr, sub, lp, hk, hn, ok, q⟩ := h
    refine ⟨_, (pss_cons (ps_set (i := 4) sc_supply.nd rfl (.inl rfl) (pe_int))
      (pss_cons (ps_set (i := 5) sc_supply.nd rfl (.inl rfl) (pe_int))
      (pss_cons (ps_set (i := 6) sc_supply.nd rfl (.inl rfl) (pe_int))
      (pss_cons (ps_for PassesOwn.never rfl (pi_tup (pe_ix ix_tup (pe_getI T.m_Shape_getitem T.fi_Shape_getitem ((ok_Shape_getitem T).calm) (hr.mono (by omega)) T.b_Shape_getitem pass0 (pv 0) (pv 1)) (pe_int) (fun _ _ => rfl))) (pg_name (i := 7) sc_supply.nd rfl (.inl rfl)) (pss_one (ps_if (pt_cmpR op_in_seq (pv 7) (pv 3) (by with_unfolding_all rfl)) (pss_cons (ps_set (i := 4) sc_supply.nd rfl (.inl rfl) (pe_glob (v := .int 9) (by rfl) T.g_UNLIMITED ⟨_, rfl⟩))
      (pss_cons (ps_set (i := 5) sc_supply.nd rfl (.inl rfl) (pe_glob (v := .int 9) (by rfl) T.g_UNLIMITED ⟨_, rfl⟩))
      (pss_one (ps_if (pt_cmpR op_in_seq (pe_str) (pe_meth (pv 0) T.cl_Shape T.m_Shape_modes_of ((ok_Shape_modes_of T).calm) (hr.mono (by omega)) T.b_Shape_modes_of .nil pass0 (pa_cons (pv 7) pa_nil)) (by with_unfolding_all rfl)) (pss_one (ps_set (i := 6) sc_supply.nd rfl (.inl rfl) (pe_glob (v := .int 9) (by rfl) T.g_UNLIMITED ⟨_, rfl⟩))) pss_nil)))) pss_nil)))
      (pss_cons (ps_if (pt_cmpR op_in_seq (pe_ix ix_tup (pv 2) (pe_int) (fun _ _ => rfl)) (pe_ix ix_tup (pe_getI T.m_Shape_getitem T.fi_Shape_getitem ((ok_Shape_getitem T).calm) (hr.mono (by omega)) T.b_Shape_getitem pass0 (pv 0) (pv 1)) (pe_int) (fun _ _ => rfl)) (by with_unfolding_all rfl)) (pss_cons (ps_if (pt_cmpR op_eq (pv 4) (pe_int) (nomark _)) (pss_one (ps_set (i := 4) sc_supply.nd rfl (.inl rfl) (pe_int))) pss_nil)
      (pss_cons (ps_if (PW.pt (pw_and (pt_cmpR op_eq (pe_ix ix_tup (pv 2) (pe_int) (fun _ _ => rfl)) (pe_str) (nomark _)) (pw_and1 (pt_cmpR op_eq (pv 5) (pe_int) (nomark _))))) (pss_one (ps_set (i := 5) sc_supply.nd rfl (.inl rfl) (pe_int))) pss_nil)
      (pss_one (ps_if (PW.pt (pw_and (pt_cmpR op_eq (pe_ix ix_tup (pv 2) (pe_int) (fun _ _ => rfl)) (pe_str) (nomark _)) (pw_and1 (pt_cmpR op_eq (pv 6) (pe_int) (nomark _))))) (pss_one (ps_set (i := 6) sc_supply.nd rfl (.inl rfl) (pe_int))) pss_nil)))) pss_nil)
      (pss_one (ps_ret (pe_tup (pa_cons (pv 4) (pa_cons (pv 5) (pa_cons (pv 6) pa_nil))))))))))), ?_⟩
    obtain ⟨dx, sl, sm, us, hx, _⟩ := id hS
    have hnS : ∀ {H' : Hp}, Same H H' → (SqL K H' n (ns.map V.str) ∨ SqT K H' n (ns.map V.str)) := fun s => hn.imp s.seq (same_sqT s)
    refine ⟨_, rfl, _, rfl, x, _, _, rfl, hx, x, z, rs, rfl, hS, fun r' p pp hf hp hpp => ?_, fun e => by rw [fr] at e; cases e⟩
    rw [fr] at hf
    obtain rfl := Option.some.inj hf
    refine ⟨_, _, _, _, rfl, rfl, SqT.of hp, atI_nat (j := 1) rfl, pp, rfl, ⟨_, SqT.of hpp⟩, for_tup (K := K) (a := pp) (xs := r.pars.map V.str) (fun i σ H' => ∃ x7 : Option V, σ = [some (.ref x), some (.str z), some (.ref kk), some (.ref n), some (.int (if nearB (r.pars.take i) ns then 9 else 0)), some (.int (if nearB (r.pars.take i) ns then 9 else 0)), some (.int (if nshB rs (r.pars.take i) ns then 9 else 0)), x7] ∧ Same H H') ⟨_, rfl, Same.refl _⟩ (fun i σ H' _ ⟨_, _, s⟩ => SqT.of (s _ _ hpp)) ?_ ?_⟩
    · rintro i v σ H3 hv ⟨x7, rfl, s3⟩
      rw [List.getElem?_map] at hv
      obtain ⟨pr, hpr⟩ : ∃ pr, r.pars[i]? = some pr := by
        cases e : r.pars[i]? with
        | none => rw [e] at hv; cases hv
        | some pr => exact ⟨pr, rfl⟩
      rw [hpr] at hv
      obtain rfl := Option.some.inj hv
      have e1 : nearB (r.pars.take (i + 1)) ns = (nearB (r.pars.take i) ns || decide (pr ∈ ns)) := any_take hpr
      have e2 : nshB rs (r.pars.take (i + 1)) ns = (nshB rs (r.pars.take i) ns || (decide (pr ∈ ns) && shB rs pr)) := any_take hpr
      refine ⟨_, rfl, _, rfl, n, _, rfl, hnS s3, rfl, flat_strs _, ?_⟩
      rw [show (if false = true then !inV (V.str pr) (ns.map V.str) else inV (V.str pr) (ns.map V.str)) = decide (pr ∈ ns) by rw [if_neg Bool.false_ne_true, in_strs]]
      refine ⟨_, rfl, iteD (fun c => ?_) (fun c => ?_)⟩
      · obtain ⟨r2, fr2⟩ := findR_in (sub pr (List.mem_of_getElem? hpr))
        refine ⟨_, rfl, x, dx, _, rfl, s3 _ _ hx, rfl, _, rfl, x, pr, rs, rfl, hS.same s3, fun r' t H4 fr' s4 tc => ?_, fun e => by rw [fr2] at e; cases e⟩
        rw [fr2] at fr'
        obtain rfl := Option.some.inj fr'
        refine ⟨t, _, rfl, .inr tc.sq, rfl, by cases r2.sh <;> trivial, ?_⟩
        rw [show (if false = true then !inV (V.str "share") (modesV r2.sh) else inV (V.str "share") (modesV r2.sh)) = r2.sh by rw [if_neg Bool.false_ne_true, inShare]]
        rw [e1, e2, decide_eq_true c, shB_at fr2]
        refine ⟨_, rfl, ?_⟩
        cases r2.sh with
        | true =>
          refine iteYes rfl ⟨some (.str pr), ?_, s3.trans s4⟩
          rw [Bool.or_true, Bool.true_and, Bool.or_true]; rfl
        | false =>
          refine iteNo rfl ⟨some (.str pr), ?_, s3.trans s4⟩
          rw [Bool.or_true, Bool.true_and, Bool.or_false]; rfl
      · rw [e1, e2, decide_eq_false c, Bool.or_false, Bool.false_and, Bool.or_false]
        exact ⟨_, rfl, s3⟩
    rintro σ H3 ⟨x7, rfl, s3⟩
    rw [List.length_map, List.take_length]
    refine ⟨_, rfl, _, _, _, _, rfl, rfl, SqT.of (s3 _ _ hk), atI_nat (j := 0) rfl, _, rfl, _, rfl, x, _, _, rfl, s3 _ _ hx, x, z, rs, rfl, hS.same s3, fun r' p pp hf hp hpp => ?_, fun e => by rw [fr] at e; cases e⟩
    rw [fr] at hf
    obtain rfl := Option.some.inj hf
    refine ⟨_, _, _, _, rfl, rfl, SqT.of hp, atI_nat (j := 1) rfl, pp, _, rfl, .inr (SqT.of hpp), rfl, flat_strs _, ?_⟩
    rw [show (if false = true then !inV (V.str k.1) (r.pars.map V.str) else inV (V.str k.1) (r.pars.map V.str)) = decide (k.1 ∈ r.pars) by rw [if_neg Bool.false_ne_true, in_strs]]
    have hk3 := s3 _ _ hk
    unfold supS supO supH at q
    generalize nearB r.pars ns = bn at *
    generalize nshB rs r.pars ns = bh at *
    obtain ⟨k1, k2⟩ := k
    have ok : k2 = "own" ∨ k2 = "share" := ok
    have n1 : ¬ (Str.ofString "own" = Str.ofString "share") := by decide +kernel
    have n2 : ¬ (Str.ofString "share" = Str.ofString "own") := by decide +kernel
    refine ⟨_, rfl, iteD (fun c => ?_) (fun c => ?_)⟩
    · have c : k1 ∈ r.pars := c
      rcases ok with rfl | rfl <;> cases bn <;> cases bh
      all_goals
        refine ⟨_, rfl, rfl, _, rfl, ?_⟩
        first | refine iteYes (decide_eq_true rfl) ?_ | refine iteNo (decide_eq_false (by decide)) ?_
        refine ⟨_, rfl, _, _, _, _, rfl, rfl, SqT.of hk3, atI_nat (j := 1) rfl, rfl, _, rfl, ?_⟩
        first | refine iteYes (decide_eq_true rfl) ⟨_, rfl, rfl, _, rfl, ?_⟩ | skip
        first | refine iteYes (decide_eq_true rfl) ?_ | refine iteNo (decide_eq_false (fun h => n1 (V.str.inj h))) ?_ | refine iteNo (decide_eq_false (fun h => n2 (V.str.inj h))) ?_ | refine iteNo (decide_eq_false (by decide +kernel)) ?_
        refine ⟨_, rfl, _, _, _, _, rfl, rfl, SqT.of hk3, atI_nat (j := 1) rfl, rfl, _, rfl, ?_⟩
        first | refine iteYes (decide_eq_true rfl) ⟨_, rfl, rfl, _, rfl, ?_⟩ | skip
        first | refine iteYes (decide_eq_true rfl) ?_ | refine iteNo (decide_eq_false (fun h => n1 (V.str.inj h))) ?_ | refine iteNo (decide_eq_false (fun h => n2 (V.str.inj h))) ?_ | refine iteNo (decide_eq_false (by decide +kernel)) ?_
        refine ⟨_, rfl, _, rfl, _, rfl, by show 3 ≤ sizeLine; decide, fun u nu => ?_⟩
        exact q u _ (s3.trans (same_new nu)) (s3.free nu) (by rw [upd_same]; simp [c, n1, n2])
    · have c : k1 ∉ r.pars := c
      refine ⟨_, rfl, _, rfl, _, rfl, by show 3 ≤ sizeLine; decide, fun u nu => ?_⟩
      refine q u _ (s3.trans (same_new nu)) (s3.free nu) ?_
      rw [upd_same]; simp [c]
set_option maxHeartbeats 16000000 in
set_option pp.maxSteps 600 in
theorem ok_fits (T : Txt K mg) : FnOk PP w K mg base CX0 10 T.a_fits T.fd_fits ["shape", "way", "mark", "parents", "kind", "reached"] (spFits K T.c_Way T.c_Shape) := by
  refine T.F_fits.ok sc_fits (fun vs H Q E h => ?_) (fun cdv A outer s H vs Q E hr h => ?_)
  · obtain ⟨x, w, kk, n, z, c, rs, r, wv, k, ns, rfl, _⟩ := h; rfl
  · obtain ⟨x, w, kk, n, z, c, rs, r, wv, k, ns, rfl, hS, fr, sub, lp, hw, w1, w2, w3, hk, hn, ok, q⟩ := h
    refine ⟨_, (pss_cons (ps_asg (pe_meth (pv 1) T.cl_Way T.m_Way_needs (ok_Way_needs T) (hr.mono (by omega)) T.b_Way_needs .nil pass0 (pa_cons (pv 3) pa_nil)) (pg_tup rfl (pgs_cons (pg_name (i := 6) sc_fits.nd rfl (.inl rfl)) (pgs_cons (pg_name (i := 7) sc_fits.nd rfl (.inl rfl)) (pgs_cons (pg_name (i := 8) sc_fits.nd rfl (.inl rfl)) pgs_nil)))))
      (pss_cons (ps_asg (pe_call (ok_supply T) (hr.mono (by omega)) (by rfl) T.g_supply T.F_supply.kp T.b_supply .nil pass0 (pa_cons (pv 0) (pa_cons (pv 2) (pa_cons (pv 4) (pa_cons (pv 5) pa_nil))))) (pg_tup rfl (pgs_cons (pg_name (i := 9) sc_fits.nd rfl (.inl rfl)) (pgs_cons (pg_name (i := 10) sc_fits.nd rfl (.inl rfl)) (pgs_cons (pg_name (i := 6) sc_fits.nd rfl (.inl rfl)) pgs_nil)))))
      (pss_one (ps_ret (pe_and (pe_cmpR op_le (pv 8) (pv 3) (nomark _)) (pe_and (pe_cmpR op_le (pv 8) (pv 9) (nomark _)) (pe_one (pe_cmpR op_le (pv 7) (pv 10) (nomark _))))))))), ?_⟩
    obtain ⟨dx, sl, sm, us, hx, _⟩ := id hS
    obtain ⟨dw, hw0⟩ := id hw
    refine ⟨_, rfl, w, dw, _, rfl, hw0, wayF_no _ _ _ _ (by decide +kernel) (by decide +kernel) (by decide +kernel) (by decide +kernel), _, rfl, w, wv.1, wv.2.1, wv.2.2.1, wv.2.2.2, c, rfl, w1, w2, w3, hw, fun p H1 s1 np hp => ?_⟩
    refine ⟨p, _, rfl, SqT.of hp, rfl, _, _, rfl, _, _, rfl, _, _, rfl, rfl, ?_⟩
    refine ⟨_, rfl, _, rfl, _, rfl, _, rfl, x, kk, n, z, rs, r, k, ns, rfl, hS.same s1, fr, sub, lp, s1 _ _ hk, hn.imp s1.seq (same_sqT s1), ok, fun p2 H2 s2 np2 hp2 => ?_⟩
    refine ⟨p2, _, rfl, SqT.of hp2, rfl, _, _, rfl, _, _, rfl, _, _, rfl, rfl, ?_⟩
    have q2 := q H2 (s1.trans s2)
    unfold fitB at q2
    refine ⟨_, rfl, _, rfl, _, _, rfl, rfl, _, rfl, iteD (fun c1 => ?_) (fun c1 => ?_)⟩
    · rw [decide_eq_true c1] at q2
      refine ⟨_, rfl, _, rfl, _, _, rfl, rfl, _, rfl, iteD (fun c2 => ?_) (fun c2 => ?_)⟩
      · rw [decide_eq_true c2] at q2
        exact ⟨_, rfl, _, rfl, _, _, rfl, rfl, q2⟩
      · rw [decide_eq_false c2] at q2
        exact q2
    · rw [decide_eq_false c1] at q2
      exact q2
end
end My

namespace My
open PySem L2
def RowL (H : Hp) (p : Addr) (r : Row) : Prop := ∃ pp, H p = some (.lst (rowL r pp)) ∧ H pp = some (.lst (r.pars.map V.str))
theorem RowL.same {H H' : Hp} {p : Addr} {r : Row} (h : RowL H p r) (s : Same H H') : RowL H' p r := let ⟨pp, a, b⟩ := h; ⟨pp, s _ _ a, s _ _ b⟩
def spLKinds (Cs : Addr) : Sp := fun vs H Q _ => ∃ (R g : Addr) (ws : List V) (rs : List Row) (kvs : List (Key × V)) (rl : List Rl), vs = [.ref R, .ref g] ∧ H R = some (.lst ws) ∧ RowsN (fun _ => True) true H ws rs ∧ (mks rs).Nodup ∧ rs.length ≤ 100 ∧ H g = some (.dK kvs) ∧ Paired (RdV H) kvs rl ∧ rl.map (·.1) = mks rs ∧
  ∀ u us H', Same H H' → H u = none → H' u = some (.lst us) → Paired (KdV H') us (kindsOf rs rl) → Q (.ref u) H'
def spLSupply : Sp := fun vs H Q _ => ∃ (R p kk n : Addr) (ws : List V) (rs : List Row) (r : Row) (k : Kd) (ns : List Str), vs = [.ref R, .ref p, .ref kk, .ref n] ∧ H R = some (.lst ws) ∧ RowsN (fun _ => True) true H ws rs ∧ (mks rs).Nodup ∧ rs.length ≤ 100 ∧ RowL H p r ∧ (∀ z ∈ r.pars, z ∈ mks rs) ∧ H kk = some (.tup [.str k.1, .str k.2]) ∧ H n = some (.lst (ns.map V.str)) ∧ okKd k ∧
  ∀ u H', Same H H' → H u = none → H' u = some (.lst [.int (supS r.pars ns k), .int (supO r.pars ns k), .int (supH rs r.pars ns k)]) → Q (.ref u) H'
def spLFits : Sp := fun vs H Q _ => ∃ (R p wq kk n : Addr) (c : Int) (ws : List V) (rs : List Row) (r : Row) (wv : Wv) (k : Kd) (ns : List Str), vs = [.ref R, .ref p, .ref wq, .int c, .ref kk, .ref n] ∧ H R = some (.lst ws) ∧ RowsN (fun _ => True) true H ws rs ∧ (mks rs).Nodup ∧ rs.length ≤ 100 ∧ RowL H p r ∧ (∀ z ∈ r.pars, z ∈ mks rs) ∧ H wq = some (LwO wv.1 wv.2.1 wv.2.2.1 wv.2.2.2) ∧ wv.2.1 < 4 ∧ wv.2.2.1 < 4 ∧ 0 ≤ c ∧ H kk = some (.tup [.str k.1, .str k.2]) ∧ H n = some (.lst (ns.map V.str)) ∧ okKd k ∧
  ∀ H', Same H H' → Q (.bl (fitB r ns k wv c)) H'
def spLSupplied (Cs : Addr) : Sp := fun vs H Q _ => ∃ (x R kk n wq : Addr) (ws : List V) (rs : List Row) (wv : Wv) (k : Kd) (ns : List Str), vs = [.ref x, .ref R, .ref kk, .ref n, .ref wq] ∧ ShO Cs H x rs ∧ H R = some (.lst ws) ∧ RowsN (fun _ => True) true H ws rs ∧ GoodC rs ∧ H kk = some (.tup [.str k.1, .str k.2]) ∧ H n = some (.lst (ns.map V.str)) ∧ ns.length ≤ 1000 ∧ okKd k ∧ H wq = some (LwO wv.1 wv.2.1 wv.2.2.1 wv.2.2.2) ∧ Adj wv.1 wv.2.1 wv.2.2.1 ∧
  ∀ H', Same H H' → Q (.bl true) H'
theorem near_iff {rs : List Row} {ps ns : List Str} (sub : ∀ z ∈ ps, z ∈ mks rs) : decide (0 < ((rs.filter fun q => decide (q.mark ∈ ps) && decide (q.mark ∈ ns)).length : Int)) = nearB ps ns := by
  rw [Bool.eq_iff_iff, decide_eq_true_iff]
  unfold nearB
  rw [List.any_eq_true]
  constructor
  · intro h
    obtain ⟨q, hq⟩ := List.exists_mem_of_length_pos (show 0 < (rs.filter fun q => decide (q.mark ∈ ps) && decide (q.mark ∈ ns)).length by omega)
    obtain ⟨_, h2⟩ := List.mem_filter.mp hq
    rw [Bool.and_eq_true, decide_eq_true_iff, decide_eq_true_iff] at h2
    exact ⟨q.mark, h2.1, decide_eq_true h2.2⟩
  · rintro ⟨z, hz, hn⟩
    obtain ⟨q, hq, rfl⟩ := List.mem_map.mp (sub z hz)
    have : q ∈ rs.filter fun q => decide (q.mark ∈ ps) && decide (q.mark ∈ ns) := List.mem_filter.mpr ⟨hq, by rw [decide_eq_true hz, hn]; rfl⟩
    have := List.length_pos_of_mem this
    omega
theorem nsh_iff {rs : List Row} {ps ns : List Str} (nd : (mks rs).Nodup) (sub : ∀ z ∈ ps, z ∈ mks rs) : decide (0 < (((rs.filter fun q => decide (q.mark ∈ ps) && decide (q.mark ∈ ns)).filter (·.sh)).length : Int)) = nshB rs ps ns := by
  have sh : ∀ q ∈ rs, shB rs q.mark = q.sh := fun q hq => by
    obtain ⟨i, hi⟩ := List.mem_iff_getElem?.mp hq
    exact shB_at (findR_nd nd hi)
  rw [Bool.eq_iff_iff, decide_eq_true_iff]
  unfold nshB
  rw [List.any_eq_true]
  constructor
  · intro h
    obtain ⟨q, hq⟩ := List.exists_mem_of_length_pos (show 0 < ((rs.filter fun q => decide (q.mark ∈ ps) && decide (q.mark ∈ ns)).filter (·.sh)).length by omega)
    obtain ⟨h1, h3⟩ := List.mem_filter.mp hq
    obtain ⟨h1, h2⟩ := List.mem_filter.mp h1
    rw [Bool.and_eq_true, decide_eq_true_iff] at h2
    exact ⟨q.mark, h2.1, by rw [h2.2, sh q h1, h3]; rfl⟩
  · rintro ⟨z, hz, hn⟩
    obtain ⟨q, hq, rfl⟩ := List.mem_map.mp (sub z hz)
    rw [Bool.and_eq_true, sh q hq] at hn
    have : q ∈ (rs.filter fun q => decide (q.mark ∈ ps) && decide (q.mark ∈ ns)).filter (·.sh) := List.mem_filter.mpr ⟨List.mem_filter.mpr ⟨hq, by rw [decide_eq_true hz, hn.1]; rfl⟩, hn.2⟩
    have := List.length_pos_of_mem this
    omega
theorem nsh_near {rs : List Row} {ps ns : List Str} (h : nearB ps ns = false) : nshB rs ps ns = false := by
  unfold nearB at h
  unfold nshB
  rw [List.any_eq_false] at h ⊢
  intro p hp
  have := h p hp
  simp only [decide_eq_true_eq] at this
  rw [decide_eq_false this]; simp
theorem dn_i3 {K : PySem.W.Frag} {x a : Addr} {H : Hp} {i j k : Int} (h : H a = some (.tup [.int i, .int j, .int k])) (ne : a ≠ x) : Dn K x H 1 (.ref a) (.tuple [.int i, .int j, .int k]) := Dn.tup ne (SqT.of h) (.cons (Dn.int _) (.cons (Dn.int _) (.cons (Dn.int _) .nil))) (by simp)
section
variable {w : World} {K : PySem.W.Frag} {mg : Str → Option Value} {base : Heap}
end
end My

namespace My
open PySem L2
/-! ### what a kind reaches: rounds -/
def rungW (r : Row) (ns : List Str) (k : Kd) (w : Wv) : Bool := (List.range (r.most - r.least + 1).toNat).any fun j => fitB r ns k w (r.least + ((j : Nat) : Int))
def rungB (r : Row) (ws : List Wv) (ns : List Str) (k : Kd) : Bool := ws.any (rungW r ns k)
def waysL (P : List Rl) (z : Str) : List Wv := ((lookR P z).map (·.2.2)).getD []
def stepL (P : List Rl) (k : Kd) (ns : List Str) (r : Row) : List Str := if r.mark ∈ ns then ns else if rungB r (waysL P r.mark) ns k then ns ++ [r.mark] else ns
def roundL (rs : List Row) (P : List Rl) (k : Kd) (ns : List Str) : List Str := rs.foldl (stepL P k) ns
def roundsL (rs : List Row) (P : List Rl) (k : Kd) : Nat → List Str
  | 0 => []
  | n + 1 => roundL rs P k (roundsL rs P k n)
def namesL (rs : List Row) (P : List Rl) (k : Kd) : List Str := roundsL rs P k rs.length
def reachL (rs : List Row) (P : List Rl) (k : Kd) : List Str := (mks rs).filter fun z => decide (z ∈ namesL rs P k)
section
variable {rs : List Row} {P : List Rl} {k : Kd}
theorem stepL_le (ns : List Str) (r : Row) : ns.length ≤ (stepL P k ns r).length := by
  unfold stepL; split
  · exact Nat.le_refl _
  · split
    · rw [List.length_append]; exact Nat.le_add_right _ _
    · exact Nat.le_refl _
theorem stepL_eq {ns : List Str} {r : Row} (h : (stepL P k ns r).length = ns.length) : stepL P k ns r = ns := by
  unfold stepL at h ⊢; split
  · rfl
  · rename_i c; rw [if_neg c] at h; split
    · rename_i c2; rw [if_pos c2, List.length_append] at h; simp at h
    · rfl
theorem foldL_le : ∀ (l : List Row) (ns : List Str), ns.length ≤ (l.foldl (stepL P k) ns).length
  | [], _ => Nat.le_refl _
  | r :: l, ns => Nat.le_trans (stepL_le ns r) (foldL_le l _)
theorem foldL_eq : ∀ (l : List Row) (ns : List Str), (l.foldl (stepL P k) ns).length = ns.length → l.foldl (stepL P k) ns = ns ∧ ∀ r ∈ l, stepL P k ns r = ns
  | [], _, _ => ⟨rfl, fun _ h => nomatch h⟩
  | r :: l, ns, h => by
    have h1 := stepL_le (P := P) (k := k) ns r
    have h2 := foldL_le (P := P) (k := k) l (stepL P k ns r)
    have h : (l.foldl (stepL P k) (stepL P k ns r)).length = ns.length := h
    have e := stepL_eq (P := P) (k := k) (ns := ns) (r := r) (by omega)
    rw [e] at h
    obtain ⟨a, b⟩ := foldL_eq l ns h
    refine ⟨by rw [List.foldl_cons, e, a], fun q hq => ?_⟩
    rcases List.mem_cons.mp hq with rfl | hq
    · exact e
    · exact b q hq
theorem stepL_sub {ns : List Str} {r : Row} {z : Str} (h : z ∈ stepL P k ns r) : z ∈ ns ∨ z = r.mark := by
  unfold stepL at h; split at h
  · exact .inl h
  · split at h
    · rcases List.mem_append.mp h with h | h
      · exact .inl h
      · exact .inr (List.mem_singleton.mp h)
    · exact .inl h
theorem stepL_nd {ns : List Str} {r : Row} (h : ns.Nodup) : (stepL P k ns r).Nodup := by
  unfold stepL; split
  · exact h
  · rename_i c; split
    · refine List.nodup_append.mpr ⟨h, by simp, fun a ha b hb e => ?_⟩
      rw [List.mem_singleton.mp hb] at e
      exact c (e ▸ ha)
    · exact h
theorem foldL_ok {ms : List Str} : ∀ (l : List Row) (ns : List Str), (∀ r ∈ l, r.mark ∈ ms) → ns.Nodup → (∀ z ∈ ns, z ∈ ms) → (l.foldl (stepL P k) ns).Nodup ∧ ∀ z ∈ l.foldl (stepL P k) ns, z ∈ ms
  | [], _, _, nd, s => ⟨nd, s⟩
  | r :: l, ns, hm, nd, s => foldL_ok l _ (fun q hq => hm q (List.mem_cons_of_mem _ hq)) (stepL_nd nd) fun z hz => (stepL_sub hz).elim (s z) fun e => e ▸ hm r List.mem_cons_self
theorem roundsL_ok (n : Nat) : (roundsL rs P k n).Nodup ∧ ∀ z ∈ roundsL rs P k n, z ∈ mks rs := by
  induction n with
  | zero => exact ⟨List.nodup_nil, fun _ h => nomatch h⟩
  | succ n ih => exact foldL_ok rs _ (fun r hr => List.mem_map.mpr ⟨r, hr, rfl⟩) ih.1 ih.2
theorem nd_len {l m : List Str} (nd : l.Nodup) (s : ∀ z ∈ l, z ∈ m) : l.length ≤ m.length := List.Nodup.length_le_of_subset nd fun x hx => s x hx
theorem roundsL_len (n : Nat) : (roundsL rs P k n).length ≤ rs.length := by
  have h := nd_len (roundsL_ok (rs := rs) (P := P) (k := k) n).1 (roundsL_ok n).2
  unfold mks at h
  rwa [List.length_map] at h
/-- where a round adds nothing, none does -/
theorem rounds_stay {m : Nat} (h : roundL rs P k (roundsL rs P k m) = roundsL rs P k m) : ∀ d, roundsL rs P k (m + d) = roundsL rs P k m
  | 0 => rfl
  | d + 1 => by
    show roundL rs P k (roundsL rs P k (m + d)) = _
    rw [rounds_stay h d, h]
theorem rounds_grow : ∀ n : Nat, (∃ m, m ≤ n ∧ roundL rs P k (roundsL rs P k m) = roundsL rs P k m) ∨ n + 1 ≤ (roundsL rs P k (n + 1)).length
  | 0 => by
    by_cases h : (roundL rs P k (roundsL rs P k 0)).length = (roundsL rs P k 0).length
    · exact .inl ⟨0, Nat.le_refl _, (foldL_eq rs _ h).1⟩
    · have := foldL_le (P := P) (k := k) rs (roundsL rs P k 0)
      refine .inr ?_
      show 1 ≤ (roundL rs P k (roundsL rs P k 0)).length
      have h : (roundL rs P k (roundsL rs P k 0)).length ≠ 0 := h
      omega
  | n + 1 => by
    rcases rounds_grow n with ⟨m, hm, e⟩ | l
    · exact .inl ⟨m, by omega, e⟩
    by_cases h : (roundL rs P k (roundsL rs P k (n + 1))).length = (roundsL rs P k (n + 1)).length
    · exact .inl ⟨n + 1, Nat.le_refl _, (foldL_eq rs _ h).1⟩
    · have := foldL_le (P := P) (k := k) rs (roundsL rs P k (n + 1))
      refine .inr ?_
      show n + 1 + 1 ≤ (roundL rs P k (roundsL rs P k (n + 1))).length
      unfold roundL at h ⊢
      omega
theorem names_fix : roundL rs P k (namesL rs P k) = namesL rs P k := by
  rcases rounds_grow (rs := rs) (P := P) (k := k) rs.length with ⟨m, hm, e⟩ | l
  · obtain ⟨d, hd⟩ := Nat.le.dest hm
    have := rounds_stay e d
    unfold namesL
    rw [← hd, this, e]
  · have := roundsL_len (rs := rs) (P := P) (k := k) (rs.length + 1)
    omega
theorem names_any {m : Nat} (h : (roundL rs P k (roundsL rs P k m)).length = (roundsL rs P k m).length) : roundsL rs P k m = namesL rs P k := by
  have e := (foldL_eq rs _ h).1
  rcases Nat.le_total m rs.length with c | c
  · obtain ⟨d, hd⟩ := Nat.le.dest c
    unfold namesL
    rw [← hd, rounds_stay e d]
  · obtain ⟨d, hd⟩ := Nat.le.dest c
    rw [← hd, rounds_stay names_fix d]; rfl
/-- a row that fits is among them -/
theorem names_closed {r : Row} (hr : r ∈ rs) (h : rungB r (waysL P r.mark) (namesL rs P k) k = true) : r.mark ∈ namesL rs P k := by
  have e := (foldL_eq (P := P) (k := k) rs (namesL rs P k) (by rw [show rs.foldl (stepL P k) (namesL rs P k) = namesL rs P k from names_fix])).2 r hr
  by_cases c : r.mark ∈ namesL rs P k
  · exact c
  · unfold stepL at e
    rw [if_neg c, if_pos h] at e
    have := congrArg List.length e
    rw [List.length_append] at this
    simp at this
end
end My

namespace My
open PySem L2
def LtW (k : Wv) : Prop := k.1 < 4 ∧ k.2.1 < 4 ∧ k.2.2.1 < 4
def OkW (P : List Rl) : Prop := ∀ r ∈ P, (∀ k ∈ r.2.2, LtW k) ∧ r.2.2.length ≤ 1000
theorem good_sizes {rs : List Row} (g : GoodC rs) {r : Row} (h : r ∈ rs) : 0 ≤ r.least ∧ r.least ≤ r.most ∧ r.most ≤ 4 := by
  have b := (g.row r h).2.1
  unfold sizeB at b
  simp only [Bool.and_eq_true, decide_eq_true_iff] at b
  exact ⟨b.1, b.2.1, b.2.2⟩
theorem any_take' {α : Type} {l : List α} {f : α → Bool} {i : Nat} {x : α} (h : l[i]? = some x) (e : (l.take i).any f = false) (e2 : f x = false) : (l.take (i + 1)).any f = false := by
  rw [List.take_succ, h, List.any_append, e]; simp [e2]
theorem any_rng {f : Nat → Bool} {j : Nat} (e : (List.range j).any f = false) (e2 : f j = false) : (List.range (j + 1)).any f = false := by
  rw [List.range_succ, List.any_append, e]; simp [e2]
theorem any_at {α : Type} {l : List α} {f : α → Bool} {i : Nat} {x : α} (h : l[i]? = some x) (e : f x = true) : l.any f = true := List.any_eq_true.mpr ⟨x, List.mem_of_getElem? h, e⟩
def spFirst (K : PySem.W.Frag) (Cp Cw Cs : Addr) : Sp := fun vs H Q _ => ∃ (p x m a b kk n : Addr) (z : Str) (P : List Rl) (rs : List Row) (r : Row) (q : Rl) (k : Kd) (ns : List Str), vs = [.ref p, .str z, .ref kk, .ref n] ∧ Pol Cp Cw H p x m a b P ∧ ShO Cs H x rs ∧ findR rs z = some r ∧ GoodC rs ∧ r ∈ rs ∧ lookR P z = some q ∧ (∀ k ∈ q.2.2, LtW k) ∧ H kk = some (.tup [.str k.1, .str k.2]) ∧ SqL K H n (ns.map V.str) ∧ okKd k ∧
  (rungB r q.2.2 ns k = false → ∀ H', Same H H' → Q .non H') ∧ (rungB r q.2.2 ns k = true → ∀ u i c H', Same H H' → H u = none → H' u = some (.tup [.str z, .int i, .int c]) → Q (.ref u) H')
section
variable {w : World} {K : PySem.W.Frag} {mg : Str → Option Value} {base : Heap}
set_option maxHeartbeats 16000000 in
set_option pp.maxSteps 700 in
theorem ok_first_rung (T : Txt K mg) : FnOk PP w K mg base CX0 14 T.a_first_rung T.fd_first_rung ["policy", "mark", "kind", "names"] (spFirst K T.c_Policy T.c_Way T.c_Shape) := by
  refine T.F_first_rung.ok sc_first_rung (fun vs H Q E h => ?_) (fun cdv A outer s H vs Q E hr h => ?_)
  · obtain ⟨p, x, m, a, b, kk, n, z, P, rs, r, q, k, ns, rfl, _⟩ := h; rfl
  · obtain ⟨p, x, m, a, b, kk, n, z, P, rs, r, q, k, ns, rfl, hP, S, fr, g, mr, lz, okw, hk, hn, kd, qn, qy⟩ := h
    refine ⟨_, (pss_cons (ps_set (i := 4) sc_first_rung.nd rfl (.inl rfl) (pe_getI T.m_Shape_getitem T.fi_Shape_getitem ((ok_Shape_getitem T).calm) (hr.mono (by omega)) T.b_Shape_getitem pass0 (pe_fld (pv 0) rfl) (pv 1)))
      (pss_cons (ps_for PassesOwn.never rfl (pi_enumT (by rfl) T.n_enumerate (pa_cons (pe_meth (pv 0) T.cl_Policy T.m_Policy_ways_of (ok_Policy_ways_of T) (hr.mono (by omega)) T.b_Policy_ways_of .nil pass0 (pa_cons (pv 1) pa_nil)) pa_nil)) (pg_tup rfl (pgs_cons (pg_name (i := 5) sc_first_rung.nd rfl (.inl rfl)) (pgs_cons (pg_name (i := 6) sc_first_rung.nd rfl (.inl rfl)) pgs_nil))) (pss_one (ps_for PassesOwn.never rfl (pi_range2 (by rfl) T.n_range (pa_cons (pe_ix ix_tup (pv 4) (pe_int) (fun _ _ => rfl)) (pa_cons (pe_op op_add (pe_ix ix_tup (pv 4) (pe_int) (fun _ _ => rfl)) (pe_int)) pa_nil))) (pg_name (i := 7) sc_first_rung.nd rfl (.inl rfl)) (pss_one (ps_if (pt_val (pe_call (ok_fits T) (hr.mono (by omega)) (by rfl) T.g_fits T.F_fits.kp T.b_fits .nil pass0 (pa_cons (pe_fld (pv 0) rfl) (pa_cons (pv 6) (pa_cons (pv 1) (pa_cons (pv 7) (pa_cons (pv 2) (pa_cons (pv 3) pa_nil)))))))) (pss_one (ps_ret (pe_tup (pa_cons (pv 1) (pa_cons (pv 5) (pa_cons (pv 7) pa_nil)))))) pss_nil)))))
      (pss_one (ps_ret (pe_non))))), ?_⟩
    have big : 100000 < sizeLine := by decide
    obtain ⟨z0, z1, z2⟩ := good_sizes g mr
    obtain ⟨dp, hp⟩ := hP.obj
    obtain ⟨dx, sl, sm, us, hx, _⟩ := id S
    have sub := g.pars r mr
    have lp : r.pars.length ≤ 1000 := by have := (g.bnd r mr).2; omega
    refine ⟨_, rfl, p, _, dp, _, _, rfl, hp, T.cl_Policy, T.no_Policy_shape, polF1 x m a b, _, rfl, x, dx, _, rfl, hx, x, z, rs, rfl, S, fun r' row pp fr' hrow hpp => ?_, fun e => by rw [fr] at e; cases e⟩
    rw [fr] at fr'
    obtain rfl := Option.some.inj fr'
    refine ⟨_, rfl, p, dp, _, rfl, hp, rfl, _, rfl, p, x, m, a, b, P, z, q, rfl, hP, lz, fun t H1 s1 ⟨vs, ht, pw⟩ => ?_⟩
    have lvs := pair_len' pw
    have t1 : ∀ {H' : Hp}, Same H1 H' → Same H H' := fun s => s1.trans s
    have hrow1 : ∀ {H' : Hp}, Same H1 H' → SqT K H' row (rowL r pp) := fun s => SqT.of (s _ _ (s1 _ _ hrow))
    refine ⟨t, vs, rfl, SqT.of ht, for_enumT (K := K) (a := t) (xs := vs) (fun i σ H' => ∃ (x5 x6 x7 : Option V), σ = [some (.ref p), some (.str z), some (.ref kk), some (.ref n), some (.ref row), x5, x6, x7] ∧ Same H1 H' ∧ (q.2.2.take i).any (rungW r ns k) = false) ⟨_, _, _, rfl, Same.refl _, rfl⟩ (fun i σ H' _ ⟨_, _, _, _, s, _⟩ => SqT.of (s _ _ ht)) ?_ ?_⟩
    rotate_left
    · rintro σ H2 ⟨x5, x6, x7, rfl, s2, e⟩
      rw [lvs, List.take_length] at e
      exact qn e H2 (t1 s2)
    rintro i v σ H2 TT hv ⟨x5, x6, x7, rfl, s2, e⟩ nT
    obtain ⟨wv, hwv, wy, rfl, wk⟩ := pair_get' pw hv
    have sT := same_new (o := .tup [.int (i : Nat), .ref wy]) nT
    refine ⟨TT, _, rfl, .inl (.inl upd_same), rfl, _, _, rfl, _, _, rfl, rfl, ?_⟩
    have s3 := s2.trans sT
    revert s3
    generalize upd H2 TT (.tup [.int (i : Nat), .ref wy]) = H3
    intro s3
    obtain ⟨l1, l2, l3⟩ := okw wv (List.mem_of_getElem? hwv)
    refine ⟨_, rfl, _, _, _, _, rfl, rfl, hrow1 s3, atI_nat (j := 2) rfl, _, rfl, _, _, _, _, rfl, rfl, hrow1 s3, atI_nat (j := 3) rfl, _, _, rfl, rfl, r.least, r.most + 1, rfl, ⟨by omega, by omega, by omega, by omega⟩, for_range (lo := r.least) (n := (r.most + 1 - r.least).toNat) (fun j σ H' => ∃ (x7 : Option V), σ = [some (.ref p), some (.str z), some (.ref kk), some (.ref n), some (.ref row), some (.int (i : Nat)), some (.ref wy), x7] ∧ Same H3 H' ∧ (List.range j).any (fun j => fitB r ns k wv (r.least + ((j : Nat) : Int))) = false) ⟨_, rfl, Same.refl _, rfl⟩ ?_ ?_⟩
    rotate_left
    · rintro σ H4 ⟨x7, rfl, s4, e4⟩
      refine ⟨_, _, _, rfl, s3.trans s4, any_take' hwv e ?_⟩
      unfold rungW
      rw [show (r.most - r.least + 1).toNat = (r.most + 1 - r.least).toNat by omega]
      exact e4
    rintro j σ H4 hj ⟨x7, rfl, s4, e4⟩
    have s34 := s3.trans s4
    refine ⟨_, rfl, p, _, dp, _, _, rfl, (t1 s34) _ _ hp, T.cl_Policy, T.no_Policy_shape, polF1 x m a b, _, rfl, _, rfl, _, rfl, _, rfl, _, rfl, x, wy, kk, n, z, _, rs, r, wv, k, ns, rfl, S.same (t1 s34), fr, sub, lp, Wy.same wk s34, l1, l2, l3, (t1 s34) _ _ hk, .inl ((t1 s34).seq hn), kd, fun H5 s5 => ⟨_, rfl, ?_⟩⟩
    cases ef : fitB r ns k wv (r.least + (j : Int)) with
    | false => exact iteNo rfl ⟨_, rfl, s4.trans s5, any_rng e4 ef⟩
    | true =>
      have ey : rungB r q.2.2 ns k = true := any_at hwv (by
        unfold rungW
        exact List.any_eq_true.mpr ⟨j, List.mem_range.mpr (by omega), ef⟩)
      refine iteYes rfl ⟨_, rfl, _, rfl, _, rfl, by show 3 ≤ sizeLine; decide, fun u nu => ?_⟩
      have s6 := same_new (o := .tup [.str z, .int (i : Nat), .int (r.least + (j : Int))]) nu
      exact qy ey u _ _ _ ((t1 (s34.trans s5)).trans s6) ((t1 (s34.trans s5)).free nu) upd_same
end
end My

namespace My
open PySem L2
def RungV (H : Hp) (v : V) (z : Str) : Prop := ∃ a i c, v = .ref a ∧ H a = some (.tup [.str z, .int i, .int c])
theorem RungV.same {H H' : Hp} {v : V} {z : Str} (h : RungV H v z) (s : Same H H') : RungV H' v z := let ⟨a, i, c, e, f⟩ := h; ⟨a, i, c, e, s _ _ f⟩
theorem RungV.upd {H : Hp} {A : Addr} {xs : List V} {o : HO} {v : V} {z : Str} (h : RungV H v z) (hA : H A = some (.lst xs)) : RungV (upd H A o) v z := let ⟨a, i, c, e, f⟩ := h; ⟨a, i, c, e, by rw [upd_ne (fun z => by rw [z, hA] at f; cases f)]; exact f⟩
theorem fold_take {α β : Type} {f : β → α → β} {l : List α} {i : Nat} {x : α} (b : β) (h : l[i]? = some x) : (l.take (i + 1)).foldl f b = f ((l.take i).foldl f b) x := by
  rw [List.take_add_one, h, Option.toList_some, List.foldl_append]; rfl
def lenAt (H : Hp) (B : Addr) : Nat := match H B with
  | some (.lst xs) => xs.length
  | _ => 0
theorem lenAt_of {H : Hp} {B : Addr} {xs : List V} (h : H B = some (.lst xs)) : lenAt H B = xs.length := by unfold lenAt; rw [h]
theorem look_mark {P : List Rl} {rs : List Row} {r : Row} (nd : (P.map (·.1)).Nodup) (e : P.map (·.1) = mks rs) (h : r ∈ rs) : ∃ q, lookR P r.mark = some q ∧ q ∈ P ∧ q.1 = r.mark := by
  have m : r.mark ∈ P.map (·.1) := by rw [e]; exact List.mem_map.mpr ⟨r, h, rfl⟩
  obtain ⟨q, hq, eq⟩ := List.mem_map.mp m
  obtain ⟨i, hi⟩ := List.mem_iff_getElem?.mp hq
  exact ⟨q, eq ▸ look_at nd hi, hq, eq⟩
def spLadder (K : PySem.W.Frag) (Cp Cw Cs : Addr) : Sp := fun vs H Q _ => ∃ (p x m a b kk : Addr) (P : List Rl) (rs : List Row) (k : Kd), vs = [.ref p, .ref kk] ∧ Pol Cp Cw H p x m a b P ∧ ShO Cs H x rs ∧ GoodC rs ∧ P.map (·.1) = mks rs ∧ OkW P ∧ H kk = some (.tup [.str k.1, .str k.2]) ∧ okKd k ∧
  ∀ u us H', Same H H' → H u = none → H' u = some (.lst us) → Paired (RungV H') us (namesL rs P k) → Q (.ref u) H'
section
variable {w : World} {K : PySem.W.Frag} {mg : Str → Option Value} {base : Heap}
set_option maxHeartbeats 16000000 in
set_option pp.maxSteps 700 in
theorem ok_ladder (T : Txt K mg) : FnOk PP w K mg base CX0 16 T.a_ladder T.fd_ladder ["policy", "kind"] (spLadder K T.c_Policy T.c_Way T.c_Shape) := by
  refine T.F_ladder.ok sc_ladder (fun vs H Q E h => ?_) (fun cdv A outer s H vs Q E hr h => ?_)
  · obtain ⟨p, x, m, a, b, kk, P, rs, k, rfl, _⟩ := h; rfl
  · obtain ⟨p, x, m, a, b, kk, P, rs, k, rfl, hP, S, g, eP, okP, hk, kd, qq⟩ := h
    refine ⟨_, (pss_cons (ps_set (i := 2) sc_ladder.nd rfl (.inl rfl) (pe_lst pa_nil))
      (pss_cons (ps_set (i := 3) sc_ladder.nd rfl (.inl rfl) (pe_lst pa_nil))
      (pss_cons (ps_set (i := 4) sc_ladder.nd rfl (.inl rfl) (pe_bl))
      (pss_cons (ps_while PassesOwn.never (pt_val (pv 4)) (pss_cons (ps_set (i := 4) sc_ladder.nd rfl (.inl rfl) (pe_bl))
      (pss_one (ps_for PassesOwn.never rfl (pi_own T.m_Shape_iter (ok_Shape_iter T) (hr.mono (by omega)) (pe_fld (pv 0) rfl)) (pg_name (i := 5) sc_ladder.nd rfl (.inl rfl)) (pss_one (ps_if (pt_cmpR op_notIn_seq (pv 5) (pv 3) (by with_unfolding_all rfl)) (pss_cons (ps_set (i := 6) sc_ladder.nd rfl (.inl rfl) (pe_call (ok_first_rung T) (hr.mono (by omega)) (by rfl) T.g_first_rung T.F_first_rung.kp T.b_first_rung .nil pass0 (pa_cons (pv 0) (pa_cons (pv 5) (pa_cons (pv 1) (pa_cons (pv 3) pa_nil))))))
      (pss_one (ps_if (pt_cmpR op_notN (pv 6) (pe_non) (nomark _)) (pss_cons (ps_expr (pe_bm PySem.F.plainAttrs_list PySem.F.slot_list_append PySem.F.type_list_append mt_append (pv 2) (pa_cons (pv 6) pa_nil)))
      (pss_cons (ps_expr (pe_bm PySem.F.plainAttrs_list PySem.F.slot_list_append PySem.F.type_list_append mt_append (pv 3) (pa_cons (pv 5) pa_nil)))
      (pss_one (ps_set (i := 4) sc_ladder.nd rfl (.inl rfl) (pe_bl))))) pss_nil))) pss_nil))))))
      (pss_one (ps_ret (pv 2))))))), ?_⟩
    have big : 100000 < sizeLine := by decide
    obtain ⟨dp, hp⟩ := hP.obj
    obtain ⟨dx, sl, sm, us0, hx, hsl, hrT, hsm⟩ := id S
    refine ⟨Nat.zero_le _, fun A nA => ⟨Nat.zero_le _, fun B nB => ?_⟩⟩
    have sA := same_new (o := .lst []) nA
    have sB := same_new (o := .lst []) nB
    have hA1 := sB _ _ (upd_same (H := H) (a := A) (o := .lst []))
    have hB1 : (upd (upd H A (.lst [])) B (.lst [])) B = some (.lst []) := upd_same
    have nAB : A ≠ B := fun z => by rw [← z, upd_same] at nB; cases nB
    have nB0 := sA.free nB
    have s1 := sA.trans sB
    revert hA1 hB1 s1
    generalize upd (upd H A (.lst [])) B (.lst []) = H1
    intro hA1 hB1 s1
    refine while_by (fun σ H' => ∃ (gr : Bool) (x5 x6 : Option V) (us : List V) (n : Nat), σ = [some (.ref p), some (.ref kk), some (.ref A), some (.ref B), some (.bl gr), x5, x6] ∧ Same H H' ∧ H' A = some (.lst us) ∧ H' B = some (.lst ((roundsL rs P k n).map V.str)) ∧ Paired (RungV H') us (roundsL rs P k n) ∧ (gr = false → (roundL rs P k (roundsL rs P k n)).length = (roundsL rs P k n).length)) (fun σ H' => 2 * (rs.length - lenAt H' B) + (if σ[4]? = some (some (.bl true)) then 1 else 0)) ⟨true, none, none, [], 0, rfl, s1, hA1, hB1, .nil, fun e => by cases e⟩ ?_ (fun σ H Q Q' h ⟨v, e, b, eb, q⟩ => ⟨v, e, b, eb, h _ _ q⟩)
    rintro σ H2 ⟨gr, x5, x6, us, n, rfl, s2, hA2, hB2, pr2, gf⟩
    refine ⟨_, rfl, gr, rfl, ?_⟩
    cases gr with
    | false =>
      refine iteNo rfl ⟨_, rfl, qq A us H2 s2 nA hA2 ?_⟩
      rw [← names_any (gf rfl)]; exact pr2
    | true =>
      refine iteYes rfl ?_
      have ln0 := roundsL_len (rs := rs) (P := P) (k := k) n
      obtain ⟨ok1, ok2⟩ := roundsL_ok (rs := rs) (P := P) (k := k) n
      refine ⟨_, rfl, p, _, dp, _, _, rfl, s2 _ _ hp, T.cl_Policy, T.no_Policy_shape, polF1 x m a b, x, dx, sm, _, _, rfl, s2 _ _ hx, sh_look2 _ _, SqL.of (s2 _ _ hsm), for_list (K := K) (a := sm) (xs := mksV rs) (fun i σ H' => ∃ (x5 x6 : Option V) (us' : List V) (ns' : List Str), σ = [some (.ref p), some (.ref kk), some (.ref A), some (.ref B), some (.bl (decide ((roundsL rs P k n).length < ns'.length))), x5, x6] ∧ Same H H' ∧ H' A = some (.lst us') ∧ H' B = some (.lst (ns'.map V.str)) ∧ Paired (RungV H') us' ns' ∧ ns' = (rs.take i).foldl (stepL P k) (roundsL rs P k n)) ⟨_, _, us, roundsL rs P k n, by rw [decide_eq_false (Nat.lt_irrefl _)]; rfl, s2, hA2, hB2, pr2, rfl⟩ (fun i σ H' _ ⟨_, _, _, _, _, s, _⟩ => SqL.of (s _ _ hsm)) ?_ ?_⟩
      rotate_left
      · rintro σ H3 ⟨x5, x6, us', ns', rfl, s3, hA3, hB3, pr3, e3⟩
        rw [show (mksV rs).length = rs.length by unfold mksV; rw [List.length_map], List.take_length] at e3
        have e3' : ns' = roundsL rs P k (n + 1) := e3
        subst e3'
        have le := foldL_le (P := P) (k := k) rs (roundsL rs P k n)
        have le : (roundsL rs P k n).length ≤ (roundsL rs P k (n + 1)).length := le
        refine ⟨⟨_, _, _, us', n + 1, rfl, s3, hA3, hB3, pr3, fun ef => ?_⟩, ?_⟩
        · have ef := of_decide_eq_false ef
          have e4 : roundsL rs P k (n + 1) = roundsL rs P k n := (foldL_eq (P := P) (k := k) rs (roundsL rs P k n) (by
            show (roundsL rs P k (n + 1)).length = _
            omega)).1
          rw [e4]
          show (roundsL rs P k (n + 1)).length = _
          rw [e4]
        · have l3 := roundsL_len (rs := rs) (P := P) (k := k) (n + 1)
          rw [lenAt_of hB3, lenAt_of hB2, List.length_map, List.length_map]
          show 2 * (rs.length - (roundsL rs P k (n + 1)).length) + (if some (some (V.bl (decide ((roundsL rs P k n).length < (roundsL rs P k (n + 1)).length)))) = some (some (V.bl true)) then 1 else 0) < 2 * (rs.length - (roundsL rs P k n).length) + (if some (some (V.bl true)) = some (some (V.bl true)) then 1 else 0)
          rw [if_pos (c := some (some (V.bl true)) = some (some (V.bl true))) rfl]
          by_cases c : (roundsL rs P k n).length < (roundsL rs P k (n + 1)).length
          · rw [decide_eq_true c, if_pos rfl]; omega
          · rw [decide_eq_false c, if_neg (fun e => by cases e)]; omega
      rintro i v σ H3 hv ⟨x5, x6, us', ns', rfl, s3, hA3, hB3, pr3, e3⟩
      obtain ⟨r, hr, rfl⟩ : ∃ r, rs[i]? = some r ∧ v = .str r.mark := by
        unfold mksV at hv
        rw [List.getElem?_map] at hv
        cases e : rs[i]? with
        | none => rw [e] at hv; cases hv
        | some r => rw [e] at hv; exact ⟨r, rfl, (Option.some.inj hv).symm⟩
      have mr := List.mem_of_getElem? hr
      obtain ⟨q, lz, mq, eq⟩ := look_mark hP.nd eP mr
      have fr := findR_nd g.nd hr
      have en : ns' = (rs.take i).foldl (stepL P k) (roundsL rs P k n) := e3
      obtain ⟨okn1, okn2⟩ := foldL_ok (P := P) (k := k) (ms := mks rs) (rs.take i) (roundsL rs P k n) (fun r hr => List.mem_map.mpr ⟨r, List.mem_of_mem_take hr, rfl⟩) ok1 ok2
      rw [← en] at okn1 okn2
      have ln := nd_len okn1 okn2
      have ln : ns'.length ≤ 6 := by
        have := g.len
        unfold mks at ln
        rw [List.length_map] at ln; omega
      have lus := pair_len' pr3
      have est : stepL P k ns' r = (rs.take (i + 1)).foldl (stepL P k) (roundsL rs P k n) := by rw [fold_take _ hr, ← en]
      have ew : waysL P r.mark = q.2.2 := by unfold waysL; rw [lz]; rfl
      refine ⟨_, rfl, _, rfl, B, _, rfl, .inl (SqL.of hB3), rfl, flat_strs _, ?_⟩
      rw [show (if true = true then !inV (V.str r.mark) (ns'.map V.str) else inV (V.str r.mark) (ns'.map V.str)) = !decide (r.mark ∈ ns') by rw [if_pos rfl, in_strs]]
      refine ⟨_, rfl, iteB (fun c => ?_) (fun c => ?_)⟩
      rotate_left
      · have c : r.mark ∈ ns' := by simpa using c
        have e : stepL P k ns' r = ns' := by unfold stepL; rw [if_pos c]
        exact ⟨_, _, us', ns', rfl, s3, hA3, hB3, pr3, by rw [← est, e]⟩
      have c : r.mark ∉ ns' := by simpa using c
      refine ⟨_, rfl, _, rfl, _, rfl, _, rfl, p, x, m, a, b, kk, B, r.mark, P, rs, r, q, k, ns', rfl, hP.same s3, S.same s3, fr, g, mr, lz, (okP q mq).1, s3 _ _ hk, SqL.of hB3, kd, fun ef H4 s4 => ?_, fun ef u j c2 H4 s4 nu hu => ?_⟩
      · refine ⟨_, rfl, rfl, _, rfl, iteB (fun c => by simp at c) (fun _ => ?_)⟩
        have e : stepL P k ns' r = ns' := by unfold stepL; rw [if_neg c, ew, if_neg (by rw [ef]; exact Bool.false_ne_true)]
        exact ⟨_, _, us', ns', rfl, s3.trans s4, s4 _ _ hA3, s4 _ _ hB3, L2.Paired.mapP pr3 fun _ _ h => h.same s4, by rw [← est, e]⟩
      · refine ⟨_, rfl, rfl, _, rfl, iteB (fun _ => ?_) (fun c => by simp at c)⟩
        have e : stepL P k ns' r = ns' ++ [r.mark] := by unfold stepL; rw [if_neg c, ew, if_pos ef]
        have hA4 := s4 _ _ hA3
        have hB4 := s4 _ _ hB3
        refine ⟨_, rfl, .inl ⟨rfl, _, SqL.of hA4⟩, _, rfl, _, _, _, rfl, rfl, hA4, by omega, ?_⟩
        have hB5 : (upd H4 A (.lst (us' ++ [.ref u]))) B = some (.lst (ns'.map V.str)) := by rw [upd_ne nAB.symm]; exact hB4
        refine ⟨_, rfl, .inl ⟨rfl, _, SqL.of hB5⟩, _, rfl, _, _, _, rfl, rfl, hB5, by rw [List.length_map]; omega, ?_⟩
        have lt : (roundsL rs P k n).length < (ns' ++ [r.mark]).length := by
          have := foldL_le (P := P) (k := k) (rs.take i) (roundsL rs P k n)
          rw [← en] at this
          rw [List.length_append]; simp; omega
        refine ⟨_, _, us' ++ [.ref u], ns' ++ [r.mark], by rw [decide_eq_true lt]; rfl, same_mut (same_mut (s3.trans s4) nA) nB0, by rw [upd_ne nAB]; exact upd_same, by rw [upd_same, List.map_append]; rfl, ?_, by rw [← est, e]⟩
        refine pair_app' (L2.Paired.mapP pr3 fun _ _ h => ((h.same s4).upd hA4).upd hB5) (.cons ⟨u, j, c2, rfl, ?_⟩ .nil)
        rw [upd_ne (fun z => by rw [z, hB4] at hu; cases hu), upd_ne (fun z => by rw [z, hA4] at hu; cases hu)]
        exact hu
end
end My

namespace My
open PySem L2
def spReached (K : PySem.W.Frag) (Cp Cw Cs : Addr) : Sp := fun vs H Q _ => ∃ (p x m a b kk : Addr) (P : List Rl) (rs : List Row) (k : Kd), vs = [.ref p, .ref kk] ∧ Pol Cp Cw H p x m a b P ∧ ShO Cs H x rs ∧ GoodC rs ∧ P.map (·.1) = mks rs ∧ OkW P ∧ H kk = some (.tup [.str k.1, .str k.2]) ∧ okKd k ∧
  ∀ u H', Same H H' → H u = none → H' u = some (.tup ((reachL rs P k).map V.str)) → Q (.ref u) H'
theorem filter_take {α : Type} {f : α → Bool} {l : List α} {i : Nat} {x : α} (h : l[i]? = some x) : (l.take (i + 1)).filter f = (l.take i).filter f ++ (if f x = true then [x] else []) := by
  rw [List.take_add_one, h, Option.toList_some, List.filter_append]
  congr 1
  cases e : f x <;> simp [e]
section
variable {w : World} {K : PySem.W.Frag} {mg : Str → Option Value} {base : Heap}
set_option maxHeartbeats 16000000 in
set_option pp.maxSteps 700 in
theorem ok_reached (T : Txt K mg) : FnOk PP w K mg base CX0 18 T.a_reached T.fd_reached ["policy", "kind"] (spReached K T.c_Policy T.c_Way T.c_Shape) := by
  refine T.F_reached.ok sc_reached (fun vs H Q E h => ?_) (fun cdv A outer s H vs Q E hr h => ?_)
  · obtain ⟨p, x, m, a, b, kk, P, rs, k, rfl, _⟩ := h; rfl
  · obtain ⟨p, x, m, a, b, kk, P, rs, k, rfl, hP, S, g, eP, okP, hk, kd, qq⟩ := h
    refine ⟨_, (pss_cons (ps_set (i := 2) sc_reached.nd rfl (.inr rfl) (pe_lc (own := [("rung", 3)]) (g := (gName 3)) (by rfl) sc_reached.nd (pi_list (pe_call (ok_ladder T) (hr.mono (by omega)) (by rfl) T.g_ladder T.F_ladder.kp T.b_ladder .nil pass0 (pa_cons (pv 0) (pa_cons (pv 1) pa_nil)))) (blkOk_by (own := [("rung", 3)]) (N := ["policy", "kind", "names", "rung", "mark"]) (sc := defScope S_reached) (by decide +kernel)) (fun _ _ _ _ _ => (pg_name (i := 3) sc_reached.nd rfl (by first | exact .inl rfl | exact .inr rfl))) (fun _ _ _ _ _ => pts_nil) (fun _ _ _ _ _ => (pe_ix (ixTK (K := K) rfl) (pv 3) (pe_int) (fun _ _ => rfl)))))
      (pss_one (ps_ret (pe_callTy call_tuple_of (by rfl) T.n_tuple (by decide +kernel) (pa_cons (pe_lc (own := [("mark", 4)]) (g := (gName 4)) (by rfl) sc_reached.nd (pi_own T.m_Shape_iter (ok_Shape_iter T) (hr.mono (by omega)) (pe_fld (pv 0) rfl)) (blkOk_by (own := [("mark", 4)]) (N := ["policy", "kind", "names", "rung", "mark"]) (sc := defScope S_reached) (by decide +kernel)) (fun _ _ _ _ _ => (pg_name (i := 4) sc_reached.nd rfl (by first | exact .inl rfl | exact .inr rfl))) (fun _ _ _ _ _ => (pts_one (pt_cmpR (inK (K := K) rfl) (pv 4) (pv 2) (by with_unfolding_all rfl)))) (fun _ _ _ _ _ => (pv 4))) pa_nil))))), ?_⟩
    have big : 100000 < sizeLine := by decide
    obtain ⟨dp, hp⟩ := hP.obj
    obtain ⟨dx, sl, sm, us0, hx, hsl, hrT, hsm⟩ := id S
    have ln : (namesL rs P k).length ≤ 6 := by
      have := roundsL_len (rs := rs) (P := P) (k := k) rs.length
      have := g.len
      unfold namesL; omega
    refine ⟨_, rfl, _, rfl, p, x, m, a, b, kk, P, rs, k, rfl, hP, S, g, eP, okP, hk, kd, fun u us H1 s1 nu hu pr => ⟨u, rfl, ⟨_, SqL.of hu⟩, fun D hD => lc_list (K := K) (a := u) (xs := us) (fun i H' => Same H1 H' ∧ H' D = some (.lst (((namesL rs P k).take i).map V.str))) ⟨same_new hD, upd_same⟩ (fun i H' _ h => SqL.of (h.1 _ _ hu)) ?_ ?_⟩⟩
    · rintro i v H2 hv ⟨s2, h2⟩
      obtain ⟨z, hz, a0, i0, c0, rfl, hq⟩ := pair_get' pr hv
      refine ⟨rfl, ?_⟩
      refine yes_i ?_
      refine iteT ⟨_, rfl, _, _, _, _, rfl, rfl, SqT.of (s2 _ _ hq), atI_nat (j := 0) rfl, _, h2, ?_, same_mut s2 hD, ?_⟩
      · rw [List.length_map, List.length_take]; omega
      · rw [upd_same, List.take_add_one, hz, Option.toList_some, List.map_append]; rfl
    rintro H2 ⟨s2, h2⟩
    rw [pair_len' pr, List.take_length] at h2
    have s12 := s1.trans s2
    have lm := g.len
    refine ⟨_, rfl, p, _, dp, _, _, rfl, s12 _ _ hp, T.cl_Policy, T.no_Policy_shape, polF1 x m a b, x, dx, sm, _, mksV rs, rfl, s12 _ _ hx, sh_look2 _ _, SqL.of (s12 _ _ hsm), fun G hG => lc_list (K := K) (a := sm) (xs := mksV rs) (fun i H' => Same H2 H' ∧ H' G = some (.lst ((((mks rs).take i).filter fun z => decide (z ∈ namesL rs P k)).map V.str))) ⟨same_new hG, upd_same⟩ (fun i H' _ h => SqL.of (h.1 _ _ (s12 _ _ hsm))) ?_ ?_⟩
    · rintro i v H3 hv ⟨s3, h3⟩
      obtain ⟨r, hr, rfl⟩ : ∃ r, rs[i]? = some r ∧ v = .str r.mark := by
        unfold mksV at hv
        rw [List.getElem?_map] at hv
        cases e : rs[i]? with
        | none => rw [e] at hv; cases hv
        | some r => rw [e] at hv; exact ⟨r, rfl, (Option.some.inj hv).symm⟩
      have hm : (mks rs)[i]? = some r.mark := by unfold mks; rw [List.getElem?_map, hr]; rfl
      have hi := (List.getElem?_eq_some_iff.mp hr).1
      refine ⟨rfl, _, rfl, _, rfl, D, _, rfl, .inl (SqL.of (s3 _ _ h2)), rfl, flat_strs _, ?_⟩
      rw [show (if false = true then !inV (V.str r.mark) ((namesL rs P k).map V.str) else inV (V.str r.mark) ((namesL rs P k).map V.str)) = decide (r.mark ∈ namesL rs P k) by rw [if_neg Bool.false_ne_true, in_strs]]
      rw [filter_take hm]
      refine ⟨_, rfl, iteD (fun c => ?_) (fun c => ?_)⟩
      · refine ⟨_, rfl, _, h3, ?_, same_mut s3 hG, ?_⟩
        · rw [List.length_map]
          have := List.length_filter_le (fun z => decide (z ∈ namesL rs P k)) ((mks rs).take i)
          rw [List.length_take] at this
          omega
        · rw [upd_same, if_pos (decide_eq_true c), List.map_append]; rfl
      · exact ⟨s3, by rw [if_neg (by rw [decide_eq_false c]; exact Bool.false_ne_true), List.append_nil]; exact h3⟩
    rintro H3 ⟨s3, h3⟩
    rw [show (mksV rs).length = (mks rs).length by unfold mksV mks; rw [List.length_map, List.length_map], List.take_length] at h3
    have s03 := s12.trans s3
    exact ⟨G, _, rfl, .inl ⟨SqL.of h3, fun l nl => qq l _ (s03.trans (same_new nl)) (s03.free nl) upd_same⟩⟩
end
end My

namespace My
open PySem L2
/-! ### counts at which a lock can be -/
abbrev Cn := Nat × Nat × Nat
def cntL (n : Nat) : List Cn := (List.range (n + 1)).flatMap fun h => (List.range (h + 1)).flatMap fun o => (List.range (n + 1 - h)).map fun j => (h, o, h + j)
theorem cntL_mem {n : Nat} {c : Cn} : c ∈ cntL n ↔ c.2.1 ≤ c.1 ∧ c.1 ≤ c.2.2 ∧ c.2.2 ≤ n := by
  unfold cntL
  obtain ⟨h, o, s⟩ := c
  simp only [List.mem_flatMap, List.mem_range, List.mem_map, Prod.mk.injEq]
  constructor
  · rintro ⟨h', hh, o', ho, j, hj, rfl, rfl, rfl⟩
    omega
  · rintro ⟨a, b, c⟩
    exact ⟨h, by omega, o, by omega, s - h, by omega, rfl, rfl, by omega⟩
def CntV (H : Hp) (v : V) (c : Cn) : Prop := ∃ a, v = .ref a ∧ H a = some (.tup [.int ((c.1 : Nat) : Int), .int ((c.2.1 : Nat) : Int), .int ((c.2.2 : Nat) : Int)])
theorem CntV.same {H H' : Hp} {v : V} {c : Cn} (h : CntV H v c) (s : Same H H') : CntV H' v c := let ⟨a, e, f⟩ := h; ⟨a, e, s _ _ f⟩
theorem CntV.lst {H : Hp} {A : Addr} {xs : List V} {o : HO} {v : V} {c : Cn} (h : CntV H v c) (hA : H A = some (.lst xs)) : CntV (upd H A o) v c := let ⟨a, e, f⟩ := h; ⟨a, e, by rw [upd_ne (fun z => by rw [z, hA] at f; cases f)]; exact f⟩
def spCounts : Sp := fun vs H Q _ => ∃ n : Nat, vs = [.int ((n : Nat) : Int)] ∧ n ≤ 4 ∧ ∀ u us H', Same H H' → H u = none → H' u = some (.lst us) → Paired (CntV H') us (cntL n) → Q (.ref u) H'
def possB (c : Cn) (l : Bool) (sup : Int × Int × Int) (more : Bool) : Bool :=
  if decide (sup.2.1 < (c.2.1 : Int)) || (decide (sup.2.2 < (c.1 : Int) - (c.2.1 : Int)) || decide (sup.1 < (c.2.2 : Int))) then false
  else if l then decide ((c.1 : Int) < (c.2.2 : Int)) || (more || decide (V.int (c.1 : Int) = V.int 0)) else decide (V.int (c.2.2 : Int) = V.int (c.1 : Int))
def SupO (sup : Int × Int × Int) : HO := .tup [.int sup.1, .int sup.2.1, .int sup.2.2]
def CntO (c : Cn) : HO := .tup [.int ((c.1 : Nat) : Int), .int ((c.2.1 : Nat) : Int), .int ((c.2.2 : Nat) : Int)]
def spPoss : Sp := fun vs H Q _ => ∃ (ca sa : Addr) (c : Cn) (l : Bool) (sup : Int × Int × Int) (more : Bool), vs = [.ref ca, .bl l, .ref sa, .bl more] ∧ H ca = some (CntO c) ∧ H sa = some (SupO sup) ∧ Q (.bl (possB c l sup more)) H
def permL (ws : List Wv) (c : Cn) (n : Int) (l : Bool) : Bool := ws.any fun k => permB k.1 k.2.1 k.2.2.1 k.2.2.2 (c.1 : Nat) (c.2.1 : Nat) (c.2.2 : Nat) n l
def spPermd (Cp Cw : Addr) : Sp := fun vs H Q _ => ∃ (p x m a b ca : Addr) (z : Str) (n : Int) (P : List Rl) (q : Rl) (c : Cn) (l : Bool), vs = [.ref p, .str z, .int n, .ref ca, .bl l] ∧ Pol Cp Cw H p x m a b P ∧ lookR P z = some q ∧ (∀ k ∈ q.2.2, LtW k) ∧ H ca = some (CntO c) ∧ ∀ H', Same H H' → Q (.bl (permL q.2.2 c n l)) H'
section
variable {w : World} {K : PySem.W.Frag} {mg : Str → Option Value} {base : Heap}
set_option maxHeartbeats 16000000 in
set_option pp.maxSteps 600 in
theorem ok_all_counts (T : Txt K mg) : FnOk PP w K mg base CX0 1 T.a_all_counts T.fd_all_counts ["parents"] spCounts := by
  refine T.F_all_counts.ok sc_all_counts (fun vs H Q E h => ?_) (fun cdv A outer s H vs Q E hr h => ?_)
  · obtain ⟨n, rfl, _⟩ := h; rfl
  · obtain ⟨n, rfl, n4, q⟩ := h
    refine ⟨_, (pss_cons (ps_set (i := 1) sc_all_counts.nd rfl (.inl rfl) (pe_lst pa_nil))
      (pss_cons (ps_for PassesOwn.never rfl (pi_range1 (by rfl) T.n_range (pa_cons (pe_op op_add (pv 0) (pe_int)) pa_nil)) (pg_name (i := 2) sc_all_counts.nd rfl (.inl rfl)) (pss_one (ps_for PassesOwn.never rfl (pi_range1 (by rfl) T.n_range (pa_cons (pe_op op_add (pv 2) (pe_int)) pa_nil)) (pg_name (i := 3) sc_all_counts.nd rfl (.inl rfl)) (pss_one (ps_for PassesOwn.never rfl (pi_range2 (by rfl) T.n_range (pa_cons (pv 2) (pa_cons (pe_op op_add (pv 0) (pe_int)) pa_nil))) (pg_name (i := 4) sc_all_counts.nd rfl (.inl rfl)) (pss_one (ps_expr (pe_bm PySem.F.plainAttrs_list PySem.F.slot_list_append PySem.F.type_list_append mt_append (pv 1) (pa_cons (pe_tup (pa_cons (pv 2) (pa_cons (pv 3) (pa_cons (pv 4) pa_nil)))) pa_nil)))))))))
      (pss_one (ps_ret (pv 1))))), ?_⟩
    have big : 100000 < sizeLine := by decide
    refine ⟨Nat.zero_le _, fun L nL => ?_⟩
    have s1 := same_new (o := .lst []) nL
    have hL1 : (upd H L (.lst [])) L = some (.lst []) := upd_same
    revert hL1 s1
    generalize upd H L (.lst []) = H1
    intro s1 hL1
    refine ⟨_, rfl, _, _, rfl, rfl, _, rfl, by omega, by omega, for_range (lo := 0) (n := n + 1) (fun i σ H' => ∃ (x2 x3 x4 : Option V) (us : List V), σ = [some (.int ((n : Nat) : Int)), some (.ref L), x2, x3, x4] ∧ Same H H' ∧ H' L = some (.lst us) ∧ us.length ≤ 25 * i ∧ Paired (CntV H') us ((List.range i).flatMap fun h => (List.range (h + 1)).flatMap fun o => (List.range (n + 1 - h)).map fun j => (h, o, h + j))) ⟨_, _, _, [], rfl, s1, hL1, Nat.le_refl _, .nil⟩ ?_ ?_⟩
    rotate_left
    · rintro σ H2 ⟨x2, x3, x4, us, rfl, s2, hL2, _, p2⟩
      exact ⟨_, rfl, q L us H2 s2 nL hL2 p2⟩
    rintro i σ H2 hi ⟨x2, x3, x4, us, rfl, s2, hL2, l2, p2⟩
    refine ⟨_, rfl, _, _, rfl, rfl, _, rfl, by omega, by omega, for_range (lo := 0) (n := (0 + ((i : Nat) : Int) + 1).toNat) (fun j σ H' => ∃ (x3 x4 : Option V) (us : List V), σ = [some (.int ((n : Nat) : Int)), some (.ref L), some (.int (0 + ((i : Nat) : Int))), x3, x4] ∧ Same H H' ∧ H' L = some (.lst us) ∧ us.length ≤ 25 * i + 5 * j ∧ Paired (CntV H') us (((List.range i).flatMap fun h => (List.range (h + 1)).flatMap fun o => (List.range (n + 1 - h)).map fun j => (h, o, h + j)) ++ (List.range j).flatMap fun o => (List.range (n + 1 - i)).map fun j => (i, o, i + j))) ⟨_, _, us, rfl, s2, hL2, l2, by rw [List.range_zero, List.flatMap_nil, List.append_nil]; exact p2⟩ ?_ ?_⟩
    rotate_left
    · rintro σ H3 ⟨x3, x4, us, rfl, s3, hL3, l3, p3⟩
      rw [show (0 + ((i : Nat) : Int) + 1).toNat = i + 1 by omega] at p3 l3
      refine ⟨_, _, _, us, rfl, s3, hL3, by omega, ?_⟩
      rw [List.range_succ, List.flatMap_append, List.flatMap_singleton]
      exact p3
    rintro j σ H3 hj ⟨x3, x4, us, rfl, s3, hL3, l3, p3⟩
    refine ⟨_, rfl, _, rfl, _, _, rfl, rfl, 0 + ((i : Nat) : Int), ((n : Nat) : Int) + 1, rfl, ⟨by omega, by omega, by omega, by omega⟩, for_range (lo := 0 + ((i : Nat) : Int)) (n := (((n : Nat) : Int) + 1 - (0 + ((i : Nat) : Int))).toNat) (fun k σ H' => ∃ (x4 : Option V) (us : List V), σ = [some (.int ((n : Nat) : Int)), some (.ref L), some (.int (0 + ((i : Nat) : Int))), some (.int (0 + ((j : Nat) : Int))), x4] ∧ Same H H' ∧ H' L = some (.lst us) ∧ us.length ≤ 25 * i + 5 * j + k ∧ Paired (CntV H') us ((((List.range i).flatMap fun h => (List.range (h + 1)).flatMap fun o => (List.range (n + 1 - h)).map fun j => (h, o, h + j)) ++ (List.range j).flatMap fun o => (List.range (n + 1 - i)).map fun j => (i, o, i + j)) ++ (List.range k).map fun m => (i, j, i + m))) ⟨_, us, rfl, s3, hL3, l3, by rw [List.range_zero, List.map_nil, List.append_nil]; exact p3⟩ ?_ ?_⟩
    rotate_left
    · rintro σ H4 ⟨x4, us, rfl, s4, hL4, l4, p4⟩
      rw [show (((n : Nat) : Int) + 1 - (0 + ((i : Nat) : Int))).toNat = n + 1 - i by omega] at p4 l4
      refine ⟨_, _, us, rfl, s4, hL4, by omega, ?_⟩
      rw [List.range_succ, List.flatMap_append, List.flatMap_singleton, ← List.append_assoc]
      exact p4
    rintro k σ H4 hk ⟨x4, us, rfl, s4, hL4, l4, p4⟩
    refine ⟨_, rfl, .inl ⟨rfl, _, SqL.of hL4⟩, _, rfl, _, rfl, _, rfl, by show 3 ≤ sizeLine; decide, fun c nc => ?_⟩
    have s5 := same_new (o := .tup [.int (0 + ((i : Nat) : Int)), .int (0 + ((j : Nat) : Int)), .int (0 + ((i : Nat) : Int) + ((k : Nat) : Int))]) nc
    have hL5 := s5 _ _ hL4
    refine ⟨_, _, _, rfl, rfl, hL5, by omega, ?_⟩
    refine ⟨_, us ++ [.ref c], rfl, same_mut (s4.trans s5) nL, upd_same, by rw [List.length_append]; simp; omega, ?_⟩
    rw [List.range_succ, List.map_append, ← List.append_assoc]
    refine pair_app' (L2.Paired.mapP p4 fun _ _ h => (CntV.same h s5).lst hL5) (.cons (CntV.lst ⟨c, rfl, ?_⟩ hL5) .nil)
    rw [upd_same]
    show some (HO.tup [.int (0 + ((i : Nat) : Int)), .int (0 + ((j : Nat) : Int)), .int (0 + ((i : Nat) : Int) + ((k : Nat) : Int))]) = some (.tup [.int ((i : Nat) : Int), .int ((j : Nat) : Int), .int ((i + k : Nat) : Int)])
    rw [Int.zero_add, Int.zero_add, Int.natCast_add]
set_option pp.maxSteps 600 in
theorem ok_possible (T : Txt K mg) : FnOk PP w K mg base CX0 1 T.a_possible T.fd_possible ["counts", "loose", "supplies", "more"] spPoss := by
  refine T.F_possible.ok sc_possible (fun vs H Q E h => ?_) (fun cdv A outer s H vs Q E hr h => ?_)
  · obtain ⟨ca, sa, c, l, sup, more, rfl, _⟩ := h; rfl
  · obtain ⟨ca, sa, c, l, sup, more, rfl, hc, hs, q⟩ := h
    refine ⟨_, (pss_cons (ps_asg (pv 0) (pg_tup rfl (pgs_cons (pg_name (i := 4) sc_possible.nd rfl (.inl rfl)) (pgs_cons (pg_name (i := 5) sc_possible.nd rfl (.inl rfl)) (pgs_cons (pg_name (i := 6) sc_possible.nd rfl (.inl rfl)) pgs_nil)))))
      (pss_cons (ps_asg (pv 2) (pg_tup rfl (pgs_cons (pg_name (i := 7) sc_possible.nd rfl (.inl rfl)) (pgs_cons (pg_name (i := 8) sc_possible.nd rfl (.inl rfl)) (pgs_cons (pg_name (i := 9) sc_possible.nd rfl (.inl rfl)) pgs_nil)))))
      (pss_cons (ps_if (PW.pt (pw_or (pt_cmpR op_gt (pv 5) (pv 8) (nomark _)) (pw_or (pt_cmpR op_gt (pe_op op_sub (pv 4) (pv 5)) (pv 9) (nomark _)) (pw_or1 (pt_cmpR op_gt (pv 6) (pv 7) (nomark _)))))) (pss_one (ps_ret (pe_bl))) pss_nil)
      (pss_cons (ps_if (pt_val (pv 1)) (pss_one (ps_ret (pe_or (pe_cmpR op_gt (pv 6) (pv 4) (nomark _)) (pe_or (pv 3) (pe_one (pe_cmpR op_eq (pv 4) (pe_int) (nomark _))))))) pss_nil)
      (pss_one (ps_ret (pe_cmpR op_eq (pv 6) (pv 4) (nomark _)))))))), ?_⟩
    refine ⟨_, rfl, ca, _, rfl, SqT.of hc, rfl, _, _, rfl, _, _, rfl, _, _, rfl, rfl, ?_⟩
    refine ⟨_, rfl, sa, _, rfl, SqT.of hs, rfl, _, _, rfl, _, _, rfl, _, _, rfl, rfl, ?_⟩
    unfold possB at q
    refine ⟨_, rfl, _, rfl, _, _, rfl, rfl, _, rfl, iteD (fun c1 => ?_) (fun c1 => ?_)⟩
    · rw [decide_eq_true c1] at q
      exact iteT q
    rw [decide_eq_false c1] at q
    refine ⟨_, rfl, _, rfl, _, _, rfl, rfl, _, rfl, _, _, rfl, rfl, _, rfl, iteD (fun c2 => ?_) (fun c2 => ?_)⟩
    · rw [decide_eq_true c2] at q
      exact iteT q
    rw [decide_eq_false c2] at q
    refine ⟨_, rfl, _, rfl, _, _, rfl, rfl, _, rfl, iteD (fun c3 => ?_) (fun c3 => ?_)⟩
    · rw [decide_eq_true c3] at q
      exact q
    rw [decide_eq_false c3] at q
    have q : Q (.bl (if l = true then decide ((c.1 : Int) < (c.2.2 : Int)) || (more || decide (V.int (c.1 : Int) = V.int 0)) else decide (V.int (c.2.2 : Int) = V.int (c.1 : Int)))) H := q
    refine ⟨_, rfl, l, rfl, ?_⟩
    cases l with
    | false => exact iteF ⟨_, rfl, _, rfl, rfl, q⟩
    | true =>
      refine iteT ?_
      have q : Q (.bl (decide ((c.1 : Int) < (c.2.2 : Int)) || (more || decide (V.int (c.1 : Int) = V.int 0)))) H := q
      refine ⟨_, rfl, _, rfl, _, _, rfl, rfl, _, rfl, iteD (fun c4 => ?_) (fun c4 => ?_)⟩
      · rw [decide_eq_true c4] at q; exact q
      rw [decide_eq_false c4] at q
      refine ⟨_, rfl, more, rfl, ?_⟩
      cases more with
      | true => exact iteT q
      | false => exact iteF ⟨_, rfl, rfl, q⟩
set_option pp.maxSteps 600 in
theorem ok_permitted (T : Txt K mg) : FnOk PP w K mg base CX0 12 T.a_permitted T.fd_permitted ["policy", "mark", "parents", "counts", "loose"] (spPermd T.c_Policy T.c_Way) := by
  refine T.F_permitted.ok sc_permitted (fun vs H Q E h => ?_) (fun cdv A outer s H vs Q E hr h => ?_)
  · obtain ⟨p, x, m, a, b, ca, z, n, P, q, c, l, rfl, _⟩ := h; rfl
  · obtain ⟨p, x, m, a, b, ca, z, n, P, q, c, l, rfl, hP, lz, okw, hc, qq⟩ := h
    refine ⟨_, (pss_cons (ps_asg (pv 3) (pg_tup rfl (pgs_cons (pg_name (i := 5) sc_permitted.nd rfl (.inl rfl)) (pgs_cons (pg_name (i := 6) sc_permitted.nd rfl (.inl rfl)) (pgs_cons (pg_name (i := 7) sc_permitted.nd rfl (.inl rfl)) pgs_nil)))))
      (pss_cons (ps_for PassesOwn.never rfl (pi_tup (pe_meth (pv 0) T.cl_Policy T.m_Policy_ways_of (ok_Policy_ways_of T) (hr.mono (by omega)) T.b_Policy_ways_of .nil pass0 (pa_cons (pv 1) pa_nil))) (pg_name (i := 8) sc_permitted.nd rfl (.inl rfl)) (pss_one (ps_if (pt_val (pe_methN (pv 8) T.cl_Way T.m_Way_permits (ok_Way_permits T) (hr.mono (by omega)) T.kb_Way_permits_5_loose pass0 (pa_cons (pv 5) (pa_cons (pv 6) (pa_cons (pv 7) (pa_cons (pv 2) pa_nil)))) (pk_cons (pv 4) pk_nil))) (pss_one (ps_ret (pe_bl))) pss_nil)))
      (pss_one (ps_ret (pe_bl))))), ?_⟩
    have big : 100000 < sizeLine := by decide
    obtain ⟨dp, hp⟩ := hP.obj
    refine ⟨_, rfl, ca, _, rfl, SqT.of hc, rfl, _, _, rfl, _, _, rfl, _, _, rfl, rfl, ?_⟩
    refine ⟨_, rfl, p, dp, _, rfl, hp, rfl, _, rfl, p, x, m, a, b, P, z, q, rfl, hP, lz, fun t H1 s1 ⟨vs, ht, pw⟩ => ?_⟩
    have lvs := pair_len' pw
    obtain ⟨f, ef⟩ : ∃ f : Wv → Bool, f = fun k => permB k.1 k.2.1 k.2.2.1 k.2.2.2 (c.1 : Nat) (c.2.1 : Nat) (c.2.2 : Nat) n l := ⟨_, rfl⟩
    have em : permL q.2.2 c n l = q.2.2.any f := by rw [ef]; rfl
    rw [em] at qq
    refine ⟨t, rfl, ⟨_, SqT.of ht⟩, for_tup (K := K) (a := t) (xs := vs) (fun i σ H' => ∃ (x8 : Option V), σ = [some (.ref p), some (.str z), some (.int n), some (.ref ca), some (.bl l), some (.int (c.1 : Nat)), some (.int (c.2.1 : Nat)), some (.int (c.2.2 : Nat)), x8] ∧ Same H1 H' ∧ (q.2.2.take i).any f = false) ⟨_, rfl, Same.refl _, rfl⟩ (fun i σ H' _ ⟨_, _, s, _⟩ => SqT.of (s _ _ ht)) ?_ ?_⟩
    rotate_left
    · rintro σ H2 ⟨x8, rfl, s2, e⟩
      rw [lvs, List.take_length] at e
      have := qq H2 (s1.trans s2)
      rw [e] at this
      exact this
    rintro i v σ H2 hv ⟨x8, rfl, s2, e⟩
    obtain ⟨wv, hwv, wy, rfl, wk⟩ := pair_get' pw hv
    obtain ⟨l1, l2, l3⟩ := okw wv (List.mem_of_getElem? hwv)
    obtain ⟨dw, hw0⟩ := id wk
    refine ⟨_, rfl, wy, dw, _, rfl, s2 _ _ hw0, wayF_no _ _ _ _ (by decide +kernel) (by decide +kernel) (by decide +kernel) (by decide +kernel), _, rfl, _, rfl, _, rfl, _, rfl, _, rfl, rfl, rfl, wy, wv.1, wv.2.1, wv.2.2.1, wv.2.2.2, _, _, _, n, l, rfl, l1, l2, l3, Wy.same wk s2, fun H3 s3 => ⟨_, rfl, ?_⟩⟩
    cases ep : permB wv.1 wv.2.1 wv.2.2.1 wv.2.2.2 (c.1 : Nat) (c.2.1 : Nat) (c.2.2 : Nat) n l with
    | true =>
      have et : q.2.2.any f = true := any_at hwv (by rw [ef]; exact ep)
      have := qq H3 (s1.trans (s2.trans s3))
      rw [et] at this
      exact iteYes rfl this
    | false => exact iteNo rfl ⟨_, rfl, s2.trans s3, any_take' hwv e (by rw [ef]; exact ep)⟩
end
end My

namespace My
open PySem L2
/-! ### gaps -/
def gapN (ws1 ws2 : List Wv) (sup : Int × Int × Int) (more : Bool) (n : Nat) : Bool := (cntL n).any fun c => [false, true].any fun l => possB c l sup more && (permL ws1 c n l && !permL ws2 c n l)
def gapAt (r : Row) (ws1 ws2 : List Wv) (sup : Int × Int × Int) (more : Bool) : Bool := (List.range (r.most + 1 - r.least).toNat).any fun j => gapN ws1 ws2 sup more (r.least + ((j : Nat) : Int)).toNat
def supL (rs : List Row) (r : Row) (ns : List Str) (k : Kd) : Int × Int × Int := (supS r.pars ns k, supO r.pars ns k, supH rs r.pars ns k)
def gapK (rs : List Row) (P1 P2 : List Rl) (k : Kd) (ns : List Str) : Bool := rs.any fun r => gapAt r (waysL P1 r.mark) (waysL P2 r.mark) (supL rs r ns k) (decide (0 < ns.length))
def gapB (rs : List Row) (P1 P2 : List Rl) : Bool := (P1.any fun r => r.2.1 && !(rlAt P2 r.1).2.1) || (kindsOf rs (metR P1 P2)).any fun k => gapK rs P1 P2 k (reachL rs (metR P1 P2) k)
def OkA (P : List Rl) : Prop := ∀ r ∈ P, (∀ k ∈ r.2.2, AdjW k) ∧ r.2.2.length ≤ 32
theorem OkA.w {P : List Rl} (h : OkA P) : OkW P := fun r hr => ⟨fun k hk => adj_lt ((h r hr).1 k hk), by have := (h r hr).2; omega⟩
theorem OkA.lt {P : List Rl} (h : OkA P) {q : Rl} (m : q ∈ P) : ∀ k ∈ q.2.2, LtW k := fun k hk => adj_lt ((h q m).1 k hk)
theorem met_okA {P Q : List Rl} (h1 : OkA P) (h2 : OkA Q) : OkA (metR P Q) := met_ok (fun r hr => (h1 r hr).1) (fun r hr => (h2 r hr).1)
def spGapAt (Cp Cw Cs : Addr) : Sp := fun vs H Q _ => ∃ (p xp mp ap bp q xq mq aq bq sa : Addr) (z : Str) (P1 P2 : List Rl) (rs : List Row) (r : Row) (q1 q2 : Rl) (sup : Int × Int × Int) (more : Bool), vs = [.ref p, .ref q, .str z, .ref sa, .bl more] ∧ Pol Cp Cw H p xp mp ap bp P1 ∧ Pol Cp Cw H q xq mq aq bq P2 ∧ ShO Cs H xp rs ∧ GoodC rs ∧ findR rs z = some r ∧ r ∈ rs ∧ lookR P1 z = some q1 ∧ lookR P2 z = some q2 ∧ (∀ k ∈ q1.2.2, LtW k) ∧ (∀ k ∈ q2.2.2, LtW k) ∧ H sa = some (SupO sup) ∧
  (gapAt r q1.2.2 q2.2.2 sup more = false → ∀ H', Same H H' → Q .non H') ∧ (gapAt r q1.2.2 q2.2.2 sup more = true → ∀ u H', Same H H' → Q (.ref u) H')
section
variable {w : World} {K : PySem.W.Frag} {mg : Str → Option Value} {base : Heap}
set_option maxHeartbeats 16000000 in
set_option pp.maxSteps 700 in
theorem ok_gap_at (T : Txt K mg) : FnOk PP w K mg base CX0 14 T.a_gap_at T.fd_gap_at ["policy", "other", "mark", "supplies", "more"] (spGapAt T.c_Policy T.c_Way T.c_Shape) := by
  refine T.F_gap_at.ok sc_gap_at (fun vs H Q E h => ?_) (fun cdv A outer s H vs Q E hr h => ?_)
  · obtain ⟨p, xp, mp, ap, bp, q, xq, mq, aq, bq, sa, z, P1, P2, rs, r, q1, q2, sup, more, rfl, _⟩ := h; rfl
  · obtain ⟨p, xp, mp, ap, bp, q, xq, mq, aq, bq, sa, z, P1, P2, rs, r, q1, q2, sup, more, rfl, hP, hQ, S, g, fr, mr, lz1, lz2, ok1, ok2, hsa, qn, qy⟩ := h
    refine ⟨_, (pss_cons (ps_set (i := 5) sc_gap_at.nd rfl (.inl rfl) (pe_getI T.m_Shape_getitem T.fi_Shape_getitem ((ok_Shape_getitem T).calm) (hr.mono (by omega)) T.b_Shape_getitem pass0 (pe_fld (pv 0) rfl) (pv 2)))
      (pss_cons (ps_for PassesOwn.never rfl (pi_range2 (by rfl) T.n_range (pa_cons (pe_ix ix_tup (pv 5) (pe_int) (fun _ _ => rfl)) (pa_cons (pe_op op_add (pe_ix ix_tup (pv 5) (pe_int) (fun _ _ => rfl)) (pe_int)) pa_nil))) (pg_name (i := 6) sc_gap_at.nd rfl (.inl rfl)) (pss_one (ps_for PassesOwn.never rfl (pi_list (pe_call (ok_all_counts T) (hr.mono (by omega)) (by rfl) T.g_all_counts T.F_all_counts.kp T.b_all_counts .nil pass0 (pa_cons (pv 6) pa_nil))) (pg_name (i := 7) sc_gap_at.nd rfl (.inl rfl)) (pss_one (ps_for PassesOwn.never rfl (pi_tup (pe_tup (pa_cons (pe_bl) (pa_cons (pe_bl) pa_nil)))) (pg_name (i := 8) sc_gap_at.nd rfl (.inl rfl)) (pss_one (ps_if (PW.pt (pw_and (pt_val (pe_call (ok_possible T) (hr.mono (by omega)) (by rfl) T.g_possible T.F_possible.kp T.b_possible .nil pass0 (pa_cons (pv 7) (pa_cons (pv 8) (pa_cons (pv 3) (pa_cons (pv 4) pa_nil)))))) (pw_and (pt_val (pe_call (ok_permitted T) (hr.mono (by omega)) (by rfl) T.g_permitted T.F_permitted.kp T.b_permitted .nil pass0 (pa_cons (pv 0) (pa_cons (pv 2) (pa_cons (pv 6) (pa_cons (pv 7) (pa_cons (pv 8) pa_nil))))))) (pw_and1 (pt_not (pt_val (pe_call (ok_permitted T) (hr.mono (by omega)) (by rfl) T.g_permitted T.F_permitted.kp T.b_permitted .nil pass0 (pa_cons (pv 1) (pa_cons (pv 2) (pa_cons (pv 6) (pa_cons (pv 7) (pa_cons (pv 8) pa_nil)))))))))))) (pss_one (ps_ret (pe_tup (pa_cons (pv 6) (pa_cons (pv 7) (pa_cons (pv 8) pa_nil)))))) pss_nil)))))))
      (pss_one (ps_ret (pe_non))))), ?_⟩
    have big : 100000 < sizeLine := by decide
    obtain ⟨dp, hp⟩ := hP.obj
    obtain ⟨dx, sl, sm, us0, hx, hsl, hrT, hsm⟩ := id S
    obtain ⟨z0, z1, z2⟩ := good_sizes g mr
    refine ⟨_, rfl, p, _, dp, _, _, rfl, hp, T.cl_Policy, T.no_Policy_shape, polF1 xp mp ap bp, _, rfl, xp, dx, _, rfl, hx, xp, z, rs, rfl, S, fun r' row pp fr' hrow hpp => ?_, fun e => by rw [fr] at e; cases e⟩
    rw [fr] at fr'
    obtain rfl := Option.some.inj fr'
    unfold gapAt at qn qy
    refine ⟨_, rfl, _, _, _, _, rfl, rfl, SqT.of hrow, atI_nat (j := 2) rfl, _, rfl, _, _, _, _, rfl, rfl, SqT.of hrow, atI_nat (j := 3) rfl, _, _, rfl, rfl, r.least, r.most + 1, rfl, ⟨by omega, by omega, by omega, by omega⟩, for_range (lo := r.least) (n := (r.most + 1 - r.least).toNat) (fun j σ H' => ∃ (x6 x7 x8 : Option V), σ = [some (.ref p), some (.ref q), some (.str z), some (.ref sa), some (.bl more), some (.ref row), x6, x7, x8] ∧ Same H H' ∧ (List.range j).any (fun j => gapN q1.2.2 q2.2.2 sup more (r.least + ((j : Nat) : Int)).toNat) = false) ⟨_, _, _, rfl, Same.refl _, rfl⟩ ?_ ?_⟩
    rotate_left
    · rintro σ H2 ⟨x6, x7, x8, rfl, s2, e⟩
      exact qn e H2 s2
    rintro j σ H2 hj ⟨x6, x7, x8, rfl, s2, e⟩
    obtain ⟨n, hn⟩ := Int.eq_ofNat_of_zero_le (by omega : 0 ≤ r.least + ((j : Nat) : Int))
    have next : gapN q1.2.2 q2.2.2 sup more n = false → (List.range (j + 1)).any (fun j => gapN q1.2.2 q2.2.2 sup more (r.least + ((j : Nat) : Int)).toNat) = false := fun h => any_rng e (by rw [hn]; exact h)
    have done : gapN q1.2.2 q2.2.2 sup more n = true → ∀ u H', Same H H' → Q (.ref u) H' := fun h => qy (List.any_eq_true.mpr ⟨j, List.mem_range.mpr hj, by rw [hn]; exact h⟩)
    simp only [hn]
    have n4 : n ≤ 4 := by omega
    refine ⟨_, rfl, n, rfl, n4, fun u us H3 s3 nu hu pu => ⟨u, rfl, ⟨_, SqL.of hu⟩, for_list (K := K) (a := u) (xs := us) (fun i σ H' => ∃ (x7 x8 : Option V), σ = [some (.ref p), some (.ref q), some (.str z), some (.ref sa), some (.bl more), some (.ref row), some (.int ((n : Nat) : Int)), x7, x8] ∧ Same H3 H' ∧ ((cntL n).take i).any (fun c => [false, true].any fun l => possB c l sup more && (permL q1.2.2 c n l && !permL q2.2.2 c n l)) = false) ⟨_, _, rfl, Same.refl _, rfl⟩ (fun i σ H' _ ⟨_, _, _, s, _⟩ => SqL.of (s _ _ hu)) ?_ ?_⟩⟩
    rotate_left
    · rintro σ H4 ⟨x7, x8, rfl, s4, e4⟩
      rw [pair_len' pu, List.take_length] at e4
      exact ⟨_, _, _, rfl, s2.trans (s3.trans s4), next e4⟩
    rintro i v σ H4 hv ⟨x7, x8, rfl, s4, e4⟩
    obtain ⟨c, hc, ca, rfl, hca⟩ := pair_get' pu hv
    refine ⟨by show 2 ≤ sizeLine; decide, fun tt ntt => ?_⟩
    have st := same_new (o := .tup [.bl false, .bl true]) ntt
    have htt : (upd H4 tt (.tup [.bl false, .bl true])) tt = some (.tup [.bl false, .bl true]) := upd_same
    revert st htt
    generalize upd H4 tt (.tup [.bl false, .bl true]) = H5
    intro st htt
    have s35 := s4.trans st
    have s05 := s2.trans (s3.trans s35)
    have stop : ∀ l ∈ [false, true], (possB c l sup more && (permL q1.2.2 c n l && !permL q2.2.2 c n l)) = true → ∀ u H', Same H H' → Q (.ref u) H' := fun l hl h => done (any_at hc (List.any_eq_true.mpr ⟨l, hl, h⟩))
    refine ⟨tt, rfl, ⟨_, SqT.of htt⟩, for_tup (K := K) (a := tt) (xs := [.bl false, .bl true]) (fun m σ H' => ∃ (x8 : Option V), σ = [some (.ref p), some (.ref q), some (.str z), some (.ref sa), some (.bl more), some (.ref row), some (.int ((n : Nat) : Int)), some (.ref ca), x8] ∧ Same H5 H' ∧ ([false, true].take m).any (fun l => possB c l sup more && (permL q1.2.2 c n l && !permL q2.2.2 c n l)) = false) ⟨_, rfl, Same.refl _, rfl⟩ (fun m σ H' _ ⟨_, _, s, _⟩ => SqT.of (s _ _ htt)) ?_ ?_⟩
    rotate_left
    · rintro σ H6 ⟨x8, rfl, s6, e6⟩
      exact ⟨_, _, rfl, s35.trans s6, any_take' hc e4 e6⟩
    rintro m v σ H6 hv6 ⟨x8, rfl, s6, e6⟩
    obtain ⟨l, hl, rfl⟩ : ∃ l, [false, true][m]? = some l ∧ v = .bl l := by
      rw [show ([V.bl false, .bl true] : List V) = [false, true].map V.bl from rfl, List.getElem?_map] at hv6
      cases e : [false, true][m]? with
      | none => rw [e] at hv6; cases hv6
      | some l => rw [e] at hv6; exact ⟨l, rfl, (Option.some.inj hv6).symm⟩
    have ml := List.mem_of_getElem? hl
    have s06 := s05.trans s6
    have hca6 : H6 ca = some (CntO c) := (s35.trans s6) _ _ hca
    refine ⟨_, rfl, _, rfl, _, rfl, _, rfl, ca, sa, c, l, sup, more, rfl, hca6, s06 _ _ hsa, _, rfl, ?_⟩
    cases e1 : possB c l sup more with
    | false => exact iteNo rfl (iteNo rfl ⟨_, rfl, s6, any_take' hl e6 (by rw [e1]; rfl)⟩)
    | true =>
      refine iteYes rfl ?_
      refine ⟨_, rfl, _, rfl, _, rfl, _, rfl, _, rfl, p, xp, mp, ap, bp, ca, z, (n : Int), P1, q1, c, l, rfl, hP.same s06, lz1, ok1, hca6, fun H7 s7 => ⟨_, rfl, ?_⟩⟩
      cases e2 : permL q1.2.2 c n l with
      | false => exact iteNo rfl (iteNo rfl ⟨_, rfl, s6.trans s7, any_take' hl e6 (by rw [e1, e2]; rfl)⟩)
      | true =>
        refine iteYes rfl ?_
        refine ⟨_, rfl, _, rfl, _, rfl, _, rfl, _, rfl, q, xq, mq, aq, bq, ca, z, (n : Int), P2, q2, c, l, rfl, hQ.same (s06.trans s7), lz2, ok2, s7 _ _ hca6, fun H8 s8 => ⟨_, rfl, ?_⟩⟩
        cases e3 : permL q2.2.2 c n l with
        | true => exact iteNo rfl ⟨_, rfl, s6.trans (s7.trans s8), any_take' hl e6 (by rw [e1, e2, e3]; rfl)⟩
        | false =>
          refine iteYes rfl ⟨_, rfl, _, rfl, _, rfl, by show 3 ≤ sizeLine; decide, fun u2 nu2 => ?_⟩
          exact stop l ml (by rw [e1, e2, e3]; rfl) u2 _ ((s06.trans (s7.trans s8)).trans (same_new nu2))
end
end My

namespace My
open PySem L2
theorem nd_take {α : Type} {l : List α} {i : Nat} {x : α} (nd : l.Nodup) (h : l[i]? = some x) : x ∉ l.take i := by
  intro m
  obtain ⟨j, hj⟩ := List.mem_iff_getElem?.mp m
  rw [List.getElem?_take] at hj
  split at hj
  · have := (List.getElem?_inj (List.getElem?_eq_some_iff.mp h).1 nd).mp (h.trans hj.symm)
    omega
  · cases hj
def kdK (k : Kd) : List Key := [.inr k.1, .inr k.2]
theorem kdK_inj {a b : Kd} (h : kdK a = kdK b) : a = b := by
  unfold kdK at h
  injection h with h1 h2
  injection h2 with h2 _
  injection h1 with h1
  injection h2 with h2
  exact Prod.ext h1 h2
theorem kdK_vals (k : Kd) : (kdK k).map kV = [.str k.1, .str k.2] := rfl
def TabV (mk : List V → HO) (rs : List Row) (P : List Rl) (H : Hp) (kv : List Key × V) (k : Kd) : Prop := kv.1 = kdK k ∧ ∃ u, kv.2 = .ref u ∧ H u = some (mk ((reachL rs P k).map V.str))
theorem TabV.same {mk : List V → HO} {rs : List Row} {P : List Rl} {H H' : Hp} {kv : List Key × V} {k : Kd} (h : TabV mk rs P H kv k) (s : Same H H') : TabV mk rs P H' kv k := let ⟨a, u, b, c⟩ := h; ⟨a, u, b, s _ _ c⟩
theorem key_val {F : List Key × V → Kd → Prop} (hF : ∀ kv k, F kv k → kv.1 = kdK k) : ∀ {kvs : List (List Key × V)} {ks : List Kd} {k : Kd}, Paired F kvs ks → k ∈ ks → ∃ kv, valV kvs (kdK k) = some kv.2 ∧ F kv k
  | _, _, _, .nil, h => nomatch h
  | kv :: kvs, q :: ks, k, .cons h t, m => by
    by_cases e : q = k
    · subst e
      exact ⟨kv, valV_pos (hF _ _ h), h⟩
    · have m : k ∈ ks := by
        rcases List.mem_cons.mp m with z | m
        · exact absurd z.symm e
        · exact m
      obtain ⟨kv', a, b⟩ := key_val hF t m
      exact ⟨kv', by rw [valV_neg (by rw [hF _ _ h]; exact fun z => e (kdK_inj z))]; exact a, b⟩
theorem key_none {F : List Key × V → Kd → Prop} (hF : ∀ kv k, F kv k → kv.1 = kdK k) : ∀ {kvs : List (List Key × V)} {ks : List Kd} {k : Kd}, Paired F kvs ks → k ∉ ks → valV kvs (kdK k) = none
  | _, _, _, .nil, _ => rfl
  | kv :: kvs, q :: ks, k, .cons h t, m => by
    rw [List.mem_cons, not_or] at m
    rw [valV_neg (by rw [hF _ _ h]; exact fun z => m.1 (kdK_inj z).symm)]
    exact key_none hF t m.2
theorem kds_nd (z : Str) (sh : Bool) : (kds z sh).Nodup := by
  unfold kds
  split
  · refine List.nodup_cons.mpr ⟨fun h => ?_, by simp⟩
    have e := List.mem_singleton.mp h
    injection e with _ e
    exact absurd e (by decide +kernel)
  · simp
theorem kinds_nd {rs : List Row} : ∀ {P : List Rl}, (P.map (·.1)).Nodup → (kindsOf rs P).Nodup
  | [], _ => List.nodup_nil
  | q :: P, nd => by
    have nd := List.nodup_cons.mp (show (q.1 :: P.map (·.1)).Nodup from nd)
    show ((if q.2.1 then kds q.1 (shB rs q.1) else []) ++ kindsOf rs P).Nodup
    have h1 : ∀ k ∈ (if q.2.1 then kds q.1 (shB rs q.1) else []), k.1 = q.1 := fun k hk => by
      split at hk
      · exact kds_fst hk
      · cases hk
    refine List.nodup_append.mpr ⟨?_, kinds_nd nd.2, fun a ha b hb e => ?_⟩
    · split
      · exact kds_nd _ _
      · exact List.nodup_nil
    · unfold kindsOf at hb
      obtain ⟨q2, hq2, hb⟩ := List.mem_flatMap.mp hb
      have hb : b.1 = q2.1 := by
        split at hb
        · exact kds_fst hb
        · cases hb
      exact nd.1 (List.mem_map.mpr ⟨q2, hq2, by rw [← hb, ← e, h1 a ha]⟩)
theorem kinds_len (rs : List Row) (P : List Rl) : (kindsOf rs P).length ≤ 2 * P.length := by
  unfold kindsOf
  exact flat_lenK (fun q => by split <;> first | exact kds_len _ _ | simp) P
theorem kinds_ok {rs : List Row} {P : List Rl} {k : Kd} (h : k ∈ kindsOf rs P) : okKd k := by
  unfold kindsOf at h
  obtain ⟨q, _, hk⟩ := List.mem_flatMap.mp h
  split at hk
  · unfold kds at hk
    split at hk
    · simp only [List.mem_cons, List.not_mem_nil, or_false] at hk
      rcases hk with rfl | rfl
      · exact .inl rfl
      · exact .inr rfl
    · simp only [List.mem_cons, List.not_mem_nil, or_false] at hk
      rw [hk]; exact .inl rfl
  · cases hk
end My

namespace My
open PySem L2
theorem look_in {P : List Rl} {z : Str} (nd : (P.map (·.1)).Nodup) (h : z ∈ P.map (·.1)) : ∃ q, lookR P z = some q ∧ q ∈ P ∧ q.1 = z := by
  obtain ⟨q, hq, eq⟩ := List.mem_map.mp h
  obtain ⟨i, hi⟩ := List.mem_iff_getElem?.mp hq
  exact ⟨q, eq ▸ look_at nd hi, hq, eq⟩
theorem any_filt {α : Type} (p f : α → Bool) (l : List α) : (l.filter p).any f = l.any fun a => p a && f a := List.any_filter
def spGap (Cp Cw Cs CO : Addr) : Sp := fun vs H Q E => ∃ (p q xp mp ap bp xq mq aq bq : Addr) (P1 P2 : List Rl) (rs rs2 : List Row), vs = [.ref p, .ref q] ∧ Pol Cp Cw H p xp mp ap bp P1 ∧ Pol Cp Cw H q xq mq aq bq P2 ∧ ShO Cs H xp rs ∧ ShO Cs H xq rs2 ∧ GoodC rs ∧ wordsOk rs ∧ wordsOk rs2 ∧ P1.map (·.1) = mks rs ∧ P2.map (·.1) = mks rs2 ∧ OkA P1 ∧ OkA P2 ∧
  (rs = rs2 → (gapB rs P1 P2 = false → ∀ H', Same H H' → Q .non H') ∧ (gapB rs P1 P2 = true → ∀ u H', Same H H' → Q (.ref u) H')) ∧ (rs ≠ rs2 → E (.ref CO) none H)
def spIncl (Cp Cw Cs CO : Addr) : Sp := fun vs H Q E => ∃ (p q xp mp ap bp xq mq aq bq : Addr) (P1 P2 : List Rl) (rs rs2 : List Row), vs = [.ref p, .ref q] ∧ Pol Cp Cw H p xp mp ap bp P1 ∧ Pol Cp Cw H q xq mq aq bq P2 ∧ ShO Cs H xp rs ∧ ShO Cs H xq rs2 ∧ GoodC rs ∧ wordsOk rs ∧ wordsOk rs2 ∧ P1.map (·.1) = mks rs ∧ P2.map (·.1) = mks rs2 ∧ OkA P1 ∧ OkA P2 ∧
  (rs = rs2 → ∀ H', Same H H' → Q (.bl (!gapB rs P1 P2)) H') ∧ (rs ≠ rs2 → E (.ref CO) none H)
section
variable {w : World} {K : PySem.W.Frag} {mg : Str → Option Value} {base : Heap}
set_option maxHeartbeats 16000000 in
set_option pp.maxSteps 700 in
theorem ok_gap (T : Txt K mg) : FnOk PP w K mg base (L2.CX PP w) 24 T.a_gap T.fd_gap ["policy", "other"] (spGap T.c_Policy T.c_Way T.c_Shape T.c_OtherShape) := by
  refine T.F_gap.okX sc_gap (fun vs H Q E h => ?_) (fun cdv A outer s H vs Q E hr h => ?_)
  · obtain ⟨p, q, xp, mp, ap, bp, xq, mq, aq, bq, P1, P2, rs, rs2, rfl, _⟩ := h; rfl
  · obtain ⟨p, q, xp, mp, ap, bp, xq, mq, aq, bq, P1, P2, rs, rs2, rfl, hP, hQ, S, S2, g, wo, wo2, e1, e2, a1, a2, qq, qe⟩ := h
    refine ⟨_, (pss_cons (ps_expr (pe_call (ok_same_shape T) (hr.mono (by omega)) (by rfl) T.g_same_shape T.F_same_shape.kp T.b_same_shape .nil (passes_call (takes_of rfl rfl rfl rfl) (fun _ _ _ _ h => h)) (pa_cons (pv 0) (pa_cons (pv 1) pa_nil))))
      (pss_cons (ps_for (passes_of rfl) rfl (pi_tup (pe_prop (pv 0) T.cl_Policy T.pr_Policy_starts (ok_Policy_starts T) (hr.mono (by omega)) T.b_Policy_starts .nil pass0 rfl)) (pg_name (i := 2) sc_gap.nd rfl (.inl rfl)) (pss_one (ps_if (pt_not (pt_val (pe_meth (pv 1) T.cl_Policy T.m_Policy_starts_at (ok_Policy_starts_at T) (hr.mono (by omega)) T.b_Policy_starts_at .nil pass0 (pa_cons (pv 2) pa_nil)))) (pss_one (ps_ret (pe_tup (pa_cons (pe_str) (pa_cons (pv 2) pa_nil))))) pss_nil)))
      (pss_cons (ps_set (i := 3) sc_gap.nd rfl (.inl rfl) (pe_op (op_binO T.of_Policy_and (ok_Policy_and T) (hr.mono (by omega)) T.b_Policy_and (passes_call (takes_of rfl rfl rfl rfl) (fun _ _ _ _ h => h))) (pv 0) (pv 1)))
      (pss_cons (ps_for (passes_of rfl) rfl (pi_list (pe_call (ok_kinds T) (hr.mono (by omega)) (by rfl) T.g_kinds T.F_kinds.kp T.b_kinds .nil pass0 (pa_cons (pv 3) pa_nil))) (pg_name (i := 4) sc_gap.nd rfl (.inl rfl)) (pss_cons (ps_set (i := 5) sc_gap.nd rfl (.inl rfl) (pe_call (ok_reached T) (hr.mono (by omega)) (by rfl) T.g_reached T.F_reached.kp T.b_reached .nil pass0 (pa_cons (pv 3) (pa_cons (pv 4) pa_nil))))
      (pss_one (ps_for (passes_of rfl) rfl (pi_own T.m_Shape_iter (ok_Shape_iter T) (hr.mono (by omega)) (pe_fld (pv 0) rfl)) (pg_name (i := 2) sc_gap.nd rfl (.inl rfl)) (pss_cons (ps_set (i := 6) sc_gap.nd rfl (.inl rfl) (pe_call (ok_gap_at T) (hr.mono (by omega)) (by rfl) T.g_gap_at T.F_gap_at.kp T.b_gap_at .nil pass0 (pa_cons (pv 0) (pa_cons (pv 1) (pa_cons (pv 2) (pa_cons (pe_call (ok_supply T) (hr.mono (by omega)) (by rfl) T.g_supply T.F_supply.kp T.b_supply .nil pass0 (pa_cons (pe_fld (pv 0) rfl) (pa_cons (pv 2) (pa_cons (pv 4) (pa_cons (pv 5) pa_nil))))) (pa_cons (pe_cmpR op_gt (pe_callB call_len_seq (by rfl) T.n_len (by decide +kernel) (pa_cons (pv 5) pa_nil)) (pe_int) (nomark _)) pa_nil)))))))
      (pss_one (ps_if (pt_cmpR op_notN (pv 6) (pe_non) (nomark _)) (pss_one (ps_ret (pe_tup (pa_cons (pe_str) (pa_cons (pv 4) (pa_cons (pv 2) (pa_cons (pv 6) pa_nil))))))) pss_nil)))))))
      (pss_one (ps_ret (pe_non))))))), ?_⟩
    have big : 100000 < sizeLine := by decide
    refine ⟨_, rfl, _, rfl, p, q, xp, mp, ap, bp, xq, mq, aq, bq, P1, P2, rs, rs2, rfl, hP, hQ, S, S2, wo, wo2, fun e => ?_, fun n => qe n⟩
    subst e
    obtain ⟨qn, qy⟩ := qq rfl
    clear qq qe
    obtain ⟨dp, hp⟩ := hP.obj
    obtain ⟨dq, hq⟩ := hQ.obj
    obtain ⟨dx, sl, sm, us0, hx, hsl, hrT, hsm⟩ := id S
    have l6 := g.len
    have lP1 : P1.length = rs.length := by rw [← List.length_map (f := fun r : Rl => r.1), e1]; unfold mks; rw [List.length_map]
    have nd1 : (P1.map (·.1)).Nodup := by rw [e1]; exact g.nd
    have nd2 : (P2.map (·.1)).Nodup := by rw [e2]; exact g.nd
    have eM : (metR P1 P2).map (·.1) = mks rs := by rw [metR_fst, e1]
    have lM : (metR P1 P2).length = rs.length := by unfold metR; rw [List.length_map, lP1]
    have okM := (met_okA a1 a2).w
    obtain ⟨f0, ef0⟩ : ∃ f0 : Rl → Bool, f0 = fun r => !(rlAt P2 r.1).2.1 := ⟨_, rfl⟩
    have eb : gapB rs P1 P2 = ((P1.filter (·.2.1)).any f0 || (kindsOf rs (metR P1 P2)).any fun k => gapK rs P1 P2 k (reachL rs (metR P1 P2) k)) := by rw [any_filt, ef0]; rfl
    rw [eb] at qn qy
    refine ⟨_, rfl, p, dp, _, rfl, hp, p, xp, mp, ap, bp, P1, rfl, hP, by omega, fun t H1 s1 nt ht => ⟨t, rfl, ⟨_, SqT.of ht⟩, for_tup (K := K) (a := t) (xs := (P1.filter (·.2.1)).map fun r => .str r.1) (fun i σ H' => ∃ (x2 : Option V), σ = [some (.ref p), some (.ref q), x2, none, none, none, none] ∧ Same H1 H' ∧ ((P1.filter (·.2.1)).take i).any f0 = false) ⟨_, rfl, Same.refl _, rfl⟩ (fun i σ H' _ ⟨_, _, s, _⟩ => SqT.of (s _ _ ht)) ?_ ?_⟩⟩
    · rintro i v σ H2 hv ⟨x2, rfl, s2, e⟩
      rw [List.getElem?_map] at hv
      obtain ⟨r, hr, rfl⟩ : ∃ r, (P1.filter (·.2.1))[i]? = some r ∧ v = .str r.1 := by
        cases e : (P1.filter (·.2.1))[i]? with
        | none => rw [e] at hv; cases hv
        | some r => rw [e] at hv; exact ⟨r, rfl, (Option.some.inj hv).symm⟩
      have mr := (List.mem_filter.mp (List.mem_of_getElem? hr)).1
      obtain ⟨r2, lk2, _, _⟩ := look_in nd2 (by rw [e2, ← e1]; exact List.mem_map.mpr ⟨r, mr, rfl⟩ : r.1 ∈ P2.map (·.1))
      have eA : rlAt P2 r.1 = r2 := by unfold rlAt; rw [lk2]; rfl
      have s12 := s1.trans s2
      refine ⟨_, rfl, q, dq, _, rfl, s12 _ _ hq, rfl, _, rfl, q, xq, mq, aq, bq, P2, r.1, r2, rfl, hQ.same s12, lk2, fun H3 s3 => ⟨_, rfl, ?_⟩⟩
      cases eb2 : r2.2.1 with
      | true => exact iteNo rfl ⟨_, rfl, s2.trans s3, any_take' hr e (by rw [ef0]; dsimp only; rw [eA, eb2]; rfl)⟩
      | false =>
        refine iteYes rfl ⟨_, rfl, by show 2 ≤ sizeLine; decide, fun u nu => ?_⟩
        refine qy ?_ u _ ((s12.trans s3).trans (same_new nu))
        rw [any_at hr (by rw [ef0]; dsimp only; rw [eA, eb2]; rfl), Bool.true_or]
    rintro σ H2 ⟨x2, rfl, s2, e⟩
    rw [List.length_map, List.take_length] at e
    rw [e, Bool.false_or] at qn qy
    have s12 := s1.trans s2
    have P12 := hP.same s12
    have Q12 := hQ.same s12
    refine ⟨_, rfl, _, rfl, p, dp, _, rfl, s12 _ _ hp, .inl ⟨q, dq, _, rfl, s12 _ _ hq⟩, p, q, xp, mp, ap, bp, xq, mq, aq, bq, P1, P2, rs, rs, rfl, P12, Q12, S.same s12, S2.same s12, wo, wo, e1, e2, a1, a2, by omega, fun _ y m a b H3 s3 ny nm na nb PM => ?_, fun n => absurd rfl n⟩
    have s13 := s12.trans s3
    have ndk := kinds_nd (rs := rs) PM.nd
    refine ⟨_, rfl, y, xp, m, a, b, metR P1 P2, rs, rfl, PM, S.same s13, by omega, (fun q hq => by rw [← eM]; exact List.mem_map.mpr ⟨q, hq, rfl⟩), fun u ws H4 s4 nu hu pu => ⟨u, rfl, ⟨_, SqL.of hu⟩, for_list (K := K) (a := u) (xs := ws) (fun i σ H' => ∃ (x2 x4 x5 x6 : Option V), σ = [some (.ref p), some (.ref q), x2, some (.ref y), x4, x5, x6] ∧ Same H4 H' ∧ ((kindsOf rs (metR P1 P2)).take i).any (fun k => gapK rs P1 P2 k (reachL rs (metR P1 P2) k)) = false) ⟨_, _, _, _, rfl, Same.refl _, rfl⟩ (fun i σ H' _ ⟨_, _, _, _, _, s, _⟩ => SqL.of (s _ _ hu)) ?_ ?_⟩⟩
    rotate_left
    · rintro σ H5 ⟨x2, x4, x5, x6, rfl, s5, e5⟩
      rw [pair_len' pu, List.take_length] at e5
      exact qn e5 H5 ((s13.trans s4).trans s5)
    rintro i v σ H5 hv ⟨x2, x4, x5, x6, rfl, s5, e5⟩
    obtain ⟨k, hk, kk, rfl, hkk⟩ := pair_get' pu hv
    have kd := kinds_ok (List.mem_of_getElem? hk)
    have s45 := s4.trans s5
    have s15 := s13.trans s45
    refine ⟨_, rfl, _, rfl, y, xp, m, a, b, kk, metR P1 P2, rs, k, rfl, PM.same s45, S.same s15, g, eM, okM, s5 _ _ hkk, kd, fun nt H6 s6 nnt hnt => ?_⟩
    have s16 := s15.trans s6
    have hkk6 := s6 _ _ (s5 _ _ hkk)
    have stop : gapK rs P1 P2 k (reachL rs (metR P1 P2) k) = true → ∀ u H', Same H H' → Q (.ref u) H' := fun h => qy (any_at hk h)
    have next : gapK rs P1 P2 k (reachL rs (metR P1 P2) k) = false → ((kindsOf rs (metR P1 P2)).take (i + 1)).any (fun k => gapK rs P1 P2 k (reachL rs (metR P1 P2) k)) = false := fun h => any_take' hk e5 h
    unfold gapK at stop next
    revert stop next hnt
    generalize reachL rs (metR P1 P2) k = ns
    intro hnt stop next
    obtain ⟨f, ef⟩ : ∃ f : Row → Bool, f = fun r => gapAt r (waysL P1 r.mark) (waysL P2 r.mark) (supL rs r ns k) (decide (0 < ns.length)) := ⟨_, rfl⟩
    have em : (decide ((0 : Int) < (((ns.map V.str).length : Nat) : Int))) = decide (0 < ns.length) := by
      rw [List.length_map, decide_eq_decide]; omega
    refine ⟨_, rfl, p, _, dp, _, _, rfl, s16 _ _ hp, T.cl_Policy, T.no_Policy_shape, polF1 xp mp ap bp, xp, dx, sm, _, _, rfl, s16 _ _ hx, sh_look2 _ _, SqL.of (s16 _ _ hsm), for_list (K := K) (a := sm) (xs := mksV rs) (fun j σ H' => ∃ (x2 x6 : Option V), σ = [some (.ref p), some (.ref q), x2, some (.ref y), some (.ref kk), some (.ref nt), x6] ∧ Same H6 H' ∧ (rs.take j).any f = false) ⟨_, _, rfl, Same.refl _, rfl⟩ (fun j σ H' _ ⟨_, _, _, s, _⟩ => SqL.of (s _ _ (s16 _ _ hsm))) ?_ ?_⟩
    rotate_left
    · rintro σ H7 ⟨x2, x6, rfl, s7, e7⟩
      rw [show (mksV rs).length = rs.length by unfold mksV; rw [List.length_map], List.take_length, ef] at e7
      exact ⟨_, _, _, _, rfl, s5.trans (s6.trans s7), next e7⟩
    rintro j v σ H7 hv7 ⟨x2, x6, rfl, s7, e7⟩
    obtain ⟨r, hr, rfl⟩ : ∃ r, rs[j]? = some r ∧ v = .str r.mark := by
      unfold mksV at hv7
      rw [List.getElem?_map] at hv7
      cases e : rs[j]? with
      | none => rw [e] at hv7; cases hv7
      | some r => rw [e] at hv7; exact ⟨r, rfl, (Option.some.inj hv7).symm⟩
    have mr := List.mem_of_getElem? hr
    have fr := findR_nd g.nd hr
    obtain ⟨q1, lz1, mq1, eq1⟩ := look_in nd1 (by rw [e1]; exact List.mem_map.mpr ⟨r, mr, rfl⟩ : r.mark ∈ P1.map (·.1))
    obtain ⟨q2, lz2, mq2, eq2⟩ := look_in nd2 (by rw [e2]; exact List.mem_map.mpr ⟨r, mr, rfl⟩ : r.mark ∈ P2.map (·.1))
    have ew1 : waysL P1 r.mark = q1.2.2 := by unfold waysL; rw [lz1]; rfl
    have ew2 : waysL P2 r.mark = q2.2.2 := by unfold waysL; rw [lz2]; rfl
    have efr : f r = gapAt r q1.2.2 q2.2.2 (supL rs r ns k) (decide (0 < ns.length)) := by rw [ef]; dsimp only; rw [ew1, ew2]
    have lp : r.pars.length ≤ 1000 := by have := (g.bnd r mr).2; omega
    have s17 := s16.trans s7
    refine ⟨_, rfl, _, rfl, _, rfl, _, rfl, p, _, dp, _, _, rfl, s17 _ _ hp, T.cl_Policy, T.no_Policy_shape, polF1 xp mp ap bp, _, rfl, _, rfl, _, rfl, xp, kk, nt, r.mark, rs, r, k, ns, rfl, S.same s17, fr, g.pars r mr, lp, s7 _ _ hkk6, .inr (SqT.of (s7 _ _ hnt)), kd, fun sa H8 s8 nsa hsa => ?_⟩
    have s18 := s17.trans s8
    refine ⟨_, rfl, nt, _, rfl, .inr (SqT.of (s8 _ _ (s7 _ _ hnt))), _, _, rfl, rfl, p, xp, mp, ap, bp, q, xq, mq, aq, bq, sa, r.mark, P1, P2, rs, r, q1, q2, supL rs r ns k, decide (0 < ns.length), congrArg (fun b => [V.ref p, .ref q, .str r.mark, .ref sa, .bl b]) em, hP.same s18, hQ.same s18, S.same s18, g, fr, mr, lz1, lz2, a1.lt mq1, a2.lt mq2, hsa, fun en H9 s9 => ?_, fun ey v9 H9 s9 => ?_⟩
    · exact ⟨_, rfl, rfl, _, rfl, iteB (fun c => by simp at c) (fun _ => ⟨_, _, rfl, s7.trans (s8.trans s9), any_take' hr e7 (by rw [efr]; exact en)⟩)⟩
    · refine ⟨_, rfl, rfl, _, rfl, iteB (fun _ => ?_) (fun c => by simp at c)⟩
      refine ⟨_, rfl, _, rfl, _, rfl, by show 4 ≤ sizeLine; decide, fun u2 nu2 => ?_⟩
      refine stop ?_ u2 _ ((s18.trans s9).trans (same_new nu2))
      have := any_at hr (f := f) (by rw [efr]; exact ey)
      rw [ef] at this
      exact this
theorem ok_included (T : Txt K mg) : FnOk PP w K mg base (L2.CX PP w) 26 T.a_included T.fd_included ["policy", "other"] (spIncl T.c_Policy T.c_Way T.c_Shape T.c_OtherShape) := by
  refine T.F_included.okX sc_included (fun vs H Q E h => ?_) (fun cdv A outer s H vs Q E hr h => ?_)
  · obtain ⟨p, q, xp, mp, ap, bp, xq, mq, aq, bq, P1, P2, rs, rs2, rfl, _⟩ := h; rfl
  · obtain ⟨p, q, xp, mp, ap, bp, xq, mq, aq, bq, P1, P2, rs, rs2, rfl, hP, hQ, S, S2, g, wo, wo2, e1, e2, a1, a2, qq, qe⟩ := h
    refine ⟨_, (pss_one (ps_ret (pe_cmpR op_isN (pe_call (ok_gap T) (hr.mono (by omega)) (by rfl) T.g_gap T.F_gap.kp T.b_gap .nil (passes_call (takes_of rfl rfl rfl rfl) (fun _ _ _ _ h => h)) (pa_cons (pv 0) (pa_cons (pv 1) pa_nil))) (pe_non) (nomark _)))), ?_⟩
    refine ⟨_, rfl, _, rfl, p, q, xp, mp, ap, bp, xq, mq, aq, bq, P1, P2, rs, rs2, rfl, hP, hQ, S, S2, g, wo, wo2, e1, e2, a1, a2, fun e => ⟨fun n H' s => ⟨rfl, ?_⟩, fun y u H' s => ⟨rfl, ?_⟩⟩, qe⟩
    · have h := qq e H' s; rw [n] at h; exact h
    · have h := qq e H' s; rw [y] at h; exact h
end
end My

namespace My
open PySem L2
theorem need_mono {i j : Nat} {n : Int} (h : i ≤ j) (hj : j < 4) (hn : 0 ≤ n) : need i n ≤ need j n := by
  unfold need
  rcases (by omega : i = 0 ∨ i = 1 ∨ i = 2 ∨ i = 3) with rfl | rfl | rfl | rfl <;> rcases (by omega : j = 0 ∨ j = 1 ∨ j = 2 ∨ j = 3) with rfl | rfl | rfl | rfl <;> simp <;> first | omega | (split <;> omega)
theorem need_max {i j : Nat} {n h : Int} (hi : i < 4) (hj : j < 4) (hn : 0 ≤ n) : decide (need (max i j) n ≤ h) = (decide (need i n ≤ h) && decide (need j n ≤ h)) := by
  rcases Nat.le_total i j with z | z
  · have m := need_mono z hj hn
    rw [Nat.max_eq_right z, Bool.eq_iff_iff]
    simp
    omega
  · have m := need_mono z hi hn
    rw [Nat.max_eq_left z, Bool.eq_iff_iff]
    simp
    omega
theorem perm_and {a b c a' b' c' : Nat} {e e' : Bool} {h o s n : Int} {l : Bool} (ha : a < 4) (hb : b < 4) (hc : c < 4) (ha' : a' < 4) (hb' : b' < 4) (hc' : c' < 4) (hn : 0 ≤ n) :
    permB (max a a') (max b b') (max c c') (e || e') h o s n l = (permB a b c e h o s n l && permB a' b' c' e' h o s n l) := by
  unfold permB
  rw [need_max ha ha' hn, need_max hb hb' hn, need_max hc hc' hn]
  cases e <;> cases e' <;> cases l <;> cases decide (need a n ≤ h) <;> cases decide (need a' n ≤ h) <;> cases decide (need b n ≤ o) <;> cases decide (need b' n ≤ o) <;> cases decide (need c n ≤ s) <;> cases decide (need c' n ≤ s) <;> rfl
end My

namespace My
open PySem L2
/-! ### what is trimmed away is covered -/
theorem keep_in {α : Type} {le : α → α → Bool} {rs : List α} : ∀ {n m : Nat} {y : α}, m < n → rs[m]? = some y → covN le rs m y rs.length = false → y ∈ keepN le rs n
  | 0, m, _, h, _, _ => absurd h (Nat.not_lt_zero m)
  | n + 1, m, y, h, e, c => by
    unfold keepN
    rcases Nat.lt_succ_iff_lt_or_eq.mp h with z | z
    · cases q : rs[n]? with
      | none => exact keep_in z e c
      | some x =>
        dsimp only
        split
        · exact keep_in z e c
        · exact List.mem_append.mpr (.inl (keep_in z e c))
    · subst z
      rw [e]
      dsimp only
      rw [c]
      exact List.mem_append.mpr (.inr (List.mem_singleton.mpr rfl))
theorem cov_yes {α : Type} {le : α → α → Bool} {rs : List α} {k : Nat} {x : α} : ∀ {n : Nat}, covN le rs k x n = true → ∃ m y, m < n ∧ rs[m]? = some y ∧ covB le k x m y = true
  | 0, h => by cases h
  | n + 1, h => by
    unfold covN at h
    cases q : rs[n]? with
    | none =>
      rw [q] at h
      obtain ⟨m, y, a, b, c⟩ := cov_yes h
      exact ⟨m, y, by omega, b, c⟩
    | some y =>
      rw [q] at h
      dsimp only at h
      rcases Bool.or_eq_true_iff.mp h with h | h
      · obtain ⟨m, y, a, b, c⟩ := cov_yes h
        exact ⟨m, y, by omega, b, c⟩
      · exact ⟨n, y, by omega, q, h⟩
def sumW (x : Wv) : Nat := x.1 + x.2.1 + x.2.2.1 + if x.2.2.2 then 1 else 0
theorem leW_refl (x : Wv) : leW x x = true := leW_iff.mpr ⟨id, Nat.le_refl _, Nat.le_refl _, Nat.le_refl _⟩
theorem leW_trans {x y z : Wv} (h : leW x y = true) (k : leW y z = true) : leW x z = true := by
  obtain ⟨a, b, c, d⟩ := leW_iff.mp h
  obtain ⟨a', b', c', d'⟩ := leW_iff.mp k
  exact leW_iff.mpr ⟨fun h => a (a' h), by omega, by omega, by omega⟩
theorem sumW_le {x y : Wv} (h : leW x y = true) : sumW y ≤ sumW x ∧ (leW y x = false → sumW y < sumW x) := by
  obtain ⟨a, b, c, d⟩ := leW_iff.mp h
  unfold sumW
  have e : (if y.2.2.2 then 1 else 0) ≤ (if x.2.2.2 then 1 else (0 : Nat)) := by
    cases hy : y.2.2.2
    · simp
    · rw [a hy]
      exact Nat.le_refl _
  refine ⟨by omega, fun n => ?_⟩
  rcases Nat.lt_or_ge (y.1 + y.2.1 + y.2.2.1 + (if y.2.2.2 then 1 else 0)) (x.1 + x.2.1 + x.2.2.1 + if x.2.2.2 then 1 else 0) with h | h
  · exact h
  · exfalso
    have e2 : (if y.2.2.2 then 1 else 0) = (if x.2.2.2 then 1 else (0 : Nat)) := by omega
    have : leW y x = true := leW_iff.mpr ⟨fun hx => by
      cases hy : y.2.2.2
      · rw [hy, hx] at e2; simp at e2
      · rfl, by omega, by omega, by omega⟩
    rw [this] at n; cases n
theorem trim_up {rs : List Wv} : ∀ (m k : Nat) (x : Wv), rs[k]? = some x → sumW x * (rs.length + 1) + k ≤ m → ∃ z ∈ trimW rs, leW x z = true := fun m => by
  induction m using Nat.strongRecOn with
  | ind m ih =>
    intro k x hx hm
    cases c : covN leW rs k x rs.length with
    | false => exact ⟨x, keep_in (List.getElem?_eq_some_iff.mp hx).1 hx c, leW_refl x⟩
    | true =>
      obtain ⟨j, y, hj, hy, cv⟩ := cov_yes c
      unfold covB at cv
      simp only [Bool.and_eq_true, Bool.or_eq_true, Bool.not_eq_true', decide_eq_false_iff_not, decide_eq_true_eq] at cv
      obtain ⟨njk, lxy, h⟩ := cv
      obtain ⟨s1, s2⟩ := sumW_le lxy
      have lt : sumW y * (rs.length + 1) + j < sumW x * (rs.length + 1) + k := by
        rcases h with h | h
        · have := s2 h
          have h3 : (sumW y + 1) * (rs.length + 1) ≤ sumW x * (rs.length + 1) := Nat.mul_le_mul_right _ this
          rw [Nat.add_mul] at h3
          omega
        · have h3 : sumW y * (rs.length + 1) ≤ sumW x * (rs.length + 1) := Nat.mul_le_mul_right _ s1
          omega
      obtain ⟨z, hz, lz⟩ := ih (sumW y * (rs.length + 1) + j) (by omega) j y hy (Nat.le_refl _)
      exact ⟨z, hz, leW_trans lxy lz⟩
theorem trim_any {rs : List Wv} {f : Wv → Bool} (mono : ∀ x y, x ∈ rs → y ∈ rs → leW x y = true → f x = true → f y = true) : (trimW rs).any f = rs.any f := by
  rw [Bool.eq_iff_iff, List.any_eq_true, List.any_eq_true]
  constructor
  · rintro ⟨x, hx, fx⟩; exact ⟨x, keep_sub hx, fx⟩
  · rintro ⟨x, hx, fx⟩
    obtain ⟨k, hk⟩ := List.getElem?_of_mem hx
    obtain ⟨z, hz, lz⟩ := trim_up _ k x hk (Nat.le_refl _)
    exact ⟨z, hz, mono x z hx (keep_sub hz) lz fx⟩
def permW (k : Wv) (h o s n : Int) (l : Bool) : Bool := permB k.1 k.2.1 k.2.2.1 k.2.2.2 h o s n l
theorem permW_mono {x y : Wv} (hx : AdjW x) {h o s n : Int} {l : Bool} (hn : 0 ≤ n) (le : leW x y = true) (p : permW x h o s n l = true) : permW y h o s n l = true := by
  obtain ⟨a, b, c, d⟩ := leW_iff.mp le
  obtain ⟨x1, x2, x3⟩ := adj_lt hx
  unfold permW permB at p ⊢
  simp only [Bool.and_eq_true, Bool.not_eq_true', Bool.and_eq_false_imp, decide_eq_true_eq] at p ⊢
  obtain ⟨p1, p2, p3, p4⟩ := p
  exact ⟨fun e => p1 (a e), Int.le_trans (need_mono b x1 hn) p2, Int.le_trans (need_mono c x2 hn) p3, Int.le_trans (need_mono d x3 hn) p4⟩
theorem permW_and {x y : Wv} (hx : AdjW x) (hy : AdjW y) {h o s n : Int} {l : Bool} (hn : 0 ≤ n) : permW (andW x y) h o s n l = (permW x h o s n l && permW y h o s n l) := by
  obtain ⟨x1, x2, x3⟩ := adj_lt hx
  obtain ⟨y1, y2, y3⟩ := adj_lt hy
  exact perm_and x1 x2 x3 y1 y2 y3 hn
theorem met_any {A B : List Wv} (hA : ∀ k ∈ A, AdjW k) (hB : ∀ k ∈ B, AdjW k) {h o s n : Int} {l : Bool} (hn : 0 ≤ n) : (trimW (meetW A B)).any (fun k => permW k h o s n l) = (A.any (fun k => permW k h o s n l) && B.any fun k => permW k h o s n l) := by
  rw [trim_any fun x y hx hy le p => by
    obtain ⟨a, ha, b, hb, rfl⟩ := mem_meet hx
    exact permW_mono (adj_and (hA a ha) (hB b hb)) hn le p]
  rw [Bool.eq_iff_iff, Bool.and_eq_true, List.any_eq_true, List.any_eq_true, List.any_eq_true]
  constructor
  · rintro ⟨k, hk, p⟩
    obtain ⟨a, ha, b, hb, rfl⟩ := mem_meet hk
    rw [permW_and (hA a ha) (hB b hb) hn, Bool.and_eq_true] at p
    exact ⟨⟨a, ha, p.1⟩, ⟨b, hb, p.2⟩⟩
  · rintro ⟨⟨a, ha, p⟩, ⟨b, hb, q⟩⟩
    exact ⟨andW a b, List.mem_flatMap.mpr ⟨a, ha, List.mem_map.mpr ⟨b, hb, rfl⟩⟩, by rw [permW_and (hA a ha) (hB b hb) hn, p, q]; rfl⟩
theorem join_any {A B : List Wv} (hA : ∀ k ∈ A, AdjW k) (hB : ∀ k ∈ B, AdjW k) {h o s n : Int} {l : Bool} (hn : 0 ≤ n) : (trimW (A ++ B)).any (fun k => permW k h o s n l) = (A.any (fun k => permW k h o s n l) || B.any fun k => permW k h o s n l) := by
  rw [trim_any fun x y hx hy le p => by
    refine permW_mono ?_ hn le p
    rcases List.mem_append.mp hx with h | h
    · exact hA x h
    · exact hB x h, List.any_append]
end My

namespace My
open PySem L2
/-! ### the order of policies -/
theorem permL_eq (ws : List Wv) (c : Cn) (n : Int) (l : Bool) : permL ws c n l = ws.any fun k => permW k (c.1 : Nat) (c.2.1 : Nat) (c.2.2 : Nat) n l := rfl
theorem poss_iff {c : Cn} {l : Bool} {sup : Int × Int × Int} {more : Bool} : possB c l sup more = true ↔ (c.2.1 : Int) ≤ sup.2.1 ∧ (c.1 : Int) - (c.2.1 : Int) ≤ sup.2.2 ∧ (c.2.2 : Int) ≤ sup.1 ∧ (l = true → c.1 < c.2.2 ∨ more = true ∨ c.1 = 0) ∧ (l = false → c.2.2 = c.1) := by
  have v : ∀ {a b : Int}, (V.int a = V.int b) ↔ a = b := ⟨fun h => V.int.inj h, fun h => by rw [h]⟩
  unfold possB
  by_cases c1 : sup.2.1 < (c.2.1 : Int) ∨ (sup.2.2 < (c.1 : Int) - (c.2.1 : Int) ∨ sup.1 < (c.2.2 : Int))
  · rw [if_pos (by simpa using c1)]
    refine ⟨(fun h => by cases h), ?_⟩
    rintro ⟨a, b, c, _⟩
    omega
  · rw [if_neg (by simpa using c1)]
    cases l with
    | true =>
      rw [if_pos rfl]
      simp only [Bool.or_eq_true, decide_eq_true_iff, v]
      constructor
      · intro h
        refine ⟨by omega, by omega, by omega, fun _ => ?_, (fun e => by cases e)⟩
        rcases h with h | h | h
        · left; omega
        · right; left; exact h
        · right; right; omega
      · intro h
        rcases h.2.2.2.1 trivial with h | h | h
        · left; omega
        · right; left; exact h
        · right; right; omega
    | false =>
      rw [if_neg Bool.false_ne_true]
      simp only [decide_eq_true_iff, v]
      constructor
      · intro h
        refine ⟨by omega, by omega, by omega, (fun e => by cases e), fun _ => by omega⟩
      · intro h
        have := h.2.2.2.2 trivial
        omega
theorem near_mono {ps ns ns' : List Str} (h : ∀ z ∈ ns, z ∈ ns') (e : nearB ps ns = true) : nearB ps ns' = true := by
  unfold nearB at e ⊢
  obtain ⟨p, hp, e⟩ := List.any_eq_true.mp e
  exact List.any_eq_true.mpr ⟨p, hp, decide_eq_true (h p (of_decide_eq_true e))⟩
theorem nsh_mono {rs : List Row} {ps ns ns' : List Str} (h : ∀ z ∈ ns, z ∈ ns') (e : nshB rs ps ns = true) : nshB rs ps ns' = true := by
  unfold nshB at e ⊢
  obtain ⟨p, hp, e⟩ := List.any_eq_true.mp e
  obtain ⟨e, e2⟩ := Bool.and_eq_true_iff.mp e
  exact List.any_eq_true.mpr ⟨p, hp, Bool.and_eq_true_iff.mpr ⟨decide_eq_true (h p (of_decide_eq_true e)), e2⟩⟩
theorem sup_mono {rs : List Row} {ps ns ns' : List Str} {k : Kd} (h : ∀ z ∈ ns, z ∈ ns') : supS ps ns k ≤ supS ps ns' k ∧ supO ps ns k ≤ supO ps ns' k ∧ supH rs ps ns k ≤ supH rs ps ns' k := by
  unfold supS supO supH
  refine ⟨?_, ?_, ?_⟩
  · cases e : nearB ps ns with
    | true => rw [near_mono h e]; simp
    | false => cases nearB ps ns' <;> simp <;> split <;> simp
  · cases e : nearB ps ns with
    | true => rw [near_mono h e]; simp
    | false => cases nearB ps ns' <;> simp <;> split <;> simp
  · cases e : nshB rs ps ns with
    | true => rw [nsh_mono h e]; simp
    | false => cases nshB rs ps ns' <;> simp <;> split <;> simp
theorem poss_mono {rs : List Row} {r : Row} {k : Kd} {ns ns' : List Str} {c : Cn} {l : Bool} (h : ∀ z ∈ ns, z ∈ ns') (p : possB c l (supL rs r ns k) (decide (0 < ns.length)) = true) : possB c l (supL rs r ns' k) (decide (0 < ns'.length)) = true := by
  rw [poss_iff] at p ⊢
  obtain ⟨a, b, d⟩ := sup_mono (rs := rs) (ps := r.pars) (k := k) h
  unfold supL at p ⊢
  obtain ⟨p1, p2, p3, p4, p5⟩ := p
  refine ⟨Int.le_trans p1 b, Int.le_trans p2 d, Int.le_trans p3 a, fun e => (p4 e).imp id fun x => x.imp (fun y => ?_) id, p5⟩
  have y : 0 < ns.length := of_decide_eq_true y
  refine decide_eq_true ?_
  cases ns with
  | nil => exact absurd y (Nat.lt_irrefl 0)
  | cons z ns => exact List.length_pos_of_mem (h z List.mem_cons_self)
/-- what fits, told by counts -/
theorem sup_cases {rs : List Row} {ps ns : List Str} {k : Kd} (kd : okKd k) : (supS ps ns k = 9 ∧ supO ps ns k = 9 ∧ 0 ≤ supH rs ps ns k) ∨ (supS ps ns k ≤ 1 ∧ 0 ≤ supO ps ns k ∧ 0 ≤ supH rs ps ns k ∧ (supS ps ns k = 1 → supO ps ns k = 1 ∨ 1 ≤ supH rs ps ns k)) := by
  have h0 : 0 ≤ supH rs ps ns k := by
    unfold supH
    split
    · decide
    · split <;> decide
  unfold supS supO
  cases nearB ps ns with
  | true => left; simp [h0]
  | false =>
    right
    rw [if_neg Bool.false_ne_true, if_neg Bool.false_ne_true]
    refine ⟨by split <;> decide, by split <;> decide, h0, fun e => ?_⟩
    have m : k.1 ∈ ps := by
      by_cases m : k.1 ∈ ps
      · exact m
      · rw [if_neg m] at e; cases e
    rcases kd with kd | kd
    · left; rw [if_pos ⟨m, kd⟩]
    · right
      unfold supH
      split
      · decide
      · rw [if_pos ⟨m, kd⟩]; decide
theorem fit_iff {rs : List Row} {r : Row} {ns : List Str} {k : Kd} {w : Wv} {n : Nat} {more : Bool} (kd : okKd k) (aw : AdjW w) (n4 : n ≤ 4) : fitB r ns k w (n : Int) = true ↔ ∃ c ∈ cntL n, ∃ l, possB c l (supL rs r ns k) more = true ∧ permW w (c.1 : Nat) (c.2.1 : Nat) (c.2.2 : Nat) (n : Int) l = true := by
  have hn : (0 : Int) ≤ (n : Int) := Int.natCast_nonneg n
  obtain ⟨x1, x2, x3⟩ := aw
  have mo := need_mono (i := w.2.1) (j := w.1) (n := n) (by omega) (by omega) hn
  have mh := need_mono (i := w.1) (j := w.2.2.1) (n := n) (by omega) (by omega) hn
  have m0 := need_mono (i := 0) (j := w.2.1) (n := n) (Nat.zero_le _) (by omega) hn
  have m00 : need 0 (n : Int) = 0 := by unfold need; rw [if_pos rfl]
  rw [m00] at m0
  unfold fitB supL
  simp only [Bool.and_eq_true, decide_eq_true_iff]
  constructor
  · rintro ⟨f1, f2, f3⟩
    obtain ⟨s0, hs⟩ := Int.eq_ofNat_of_zero_le (by omega : 0 ≤ need w.2.2.1 (n : Int))
    obtain ⟨h0, hh⟩ := Int.eq_ofNat_of_zero_le (by omega : 0 ≤ need w.1 (n : Int))
    obtain ⟨o0, ho⟩ := Int.eq_ofNat_of_zero_le m0
    have key : ∃ o : Nat, o0 ≤ o ∧ o ≤ s0 ∧ (o : Int) ≤ supO r.pars ns k ∧ (s0 : Int) - (o : Int) ≤ supH rs r.pars ns k := by
      rcases sup_cases (rs := rs) (ps := r.pars) (ns := ns) kd with ⟨a, b, c⟩ | ⟨a, b, c, d⟩
      · exact ⟨s0, by omega, Nat.le_refl _, by omega, by omega⟩
      · by_cases z : s0 = 0
        · exact ⟨0, by omega, by omega, by omega, by omega⟩
        · have e1 : supS r.pars ns k = 1 := by omega
          rcases d e1 with d | d
          · exact ⟨s0, by omega, Nat.le_refl _, by omega, by omega⟩
          · by_cases z2 : supO r.pars ns k = 0
            · exact ⟨0, by omega, by omega, by omega, by omega⟩
            · exact ⟨s0, by omega, Nat.le_refl _, by omega, by omega⟩
    obtain ⟨o, k1, k2, k3, k4⟩ := key
    refine ⟨(s0, o, s0), cntL_mem.mpr ⟨k2, Nat.le_refl _, by show s0 ≤ n; omega⟩, false, poss_iff.mpr ⟨k3, k4, by show (s0 : Int) ≤ supS r.pars ns k; omega, (fun e => by cases e), fun _ => rfl⟩, ?_⟩
    unfold permW permB
    rw [hs, hh, ho]
    simp only [Bool.and_false, Bool.not_false, Bool.true_and, Bool.and_eq_true, decide_eq_true_iff]
    omega
  · rintro ⟨c, hc, l, p, q⟩
    obtain ⟨c1, c2, c3⟩ := cntL_mem.mp hc
    obtain ⟨p1, p2, p3, _⟩ := poss_iff.mp p
    unfold permW permB at q
    simp only [Bool.and_eq_true, decide_eq_true_iff] at q
    obtain ⟨_, q1, q2, q3⟩ := q
    simp only at p1 p2 p3
    omega
theorem rung_iff {rs : List Row} {r : Row} {ws : List Wv} {ns : List Str} {k : Kd} {more : Bool} (kd : okKd k) (aw : ∀ w ∈ ws, AdjW w) (z0 : 0 ≤ r.least) (z2 : r.most ≤ 4) : rungB r ws ns k = true ↔ ∃ n : Nat, r.least ≤ (n : Int) ∧ (n : Int) ≤ r.most ∧ ∃ c ∈ cntL n, ∃ l, possB c l (supL rs r ns k) more = true ∧ permL ws c n l = true := by
  unfold rungB rungW
  simp only [permL_eq]
  constructor
  · intro h
    obtain ⟨w, hw, h⟩ := List.any_eq_true.mp h
    obtain ⟨j, hj, h⟩ := List.any_eq_true.mp h
    have hj := List.mem_range.mp hj
    obtain ⟨n, hn⟩ := Int.eq_ofNat_of_zero_le (by omega : 0 ≤ r.least + ((j : Nat) : Int))
    rw [hn] at h
    obtain ⟨c, hc, l, p, q⟩ := (fit_iff (rs := rs) (more := more) kd (aw w hw) (by omega)).mp h
    exact ⟨n, by omega, by omega, c, hc, l, p, List.any_eq_true.mpr ⟨w, hw, q⟩⟩
  · rintro ⟨n, l1, l2, c, hc, l, p, q⟩
    obtain ⟨w, hw, q⟩ := List.any_eq_true.mp q
    have h := (fit_iff (rs := rs) (more := more) kd (aw w hw) (by omega)).mpr ⟨c, hc, l, p, q⟩
    refine List.any_eq_true.mpr ⟨w, hw, List.any_eq_true.mpr ⟨((n : Int) - r.least).toNat, List.mem_range.mpr (by omega), ?_⟩⟩
    rw [show r.least + ((((n : Int) - r.least).toNat : Nat) : Int) = (n : Int) by omega]
    exact h
end My

namespace My
open PySem L2
def Cov (rs : List Row) (P Q : List Rl) (k : Kd) (ns : List Str) : Prop := ∀ r ∈ rs, ∀ n : Nat, r.least ≤ (n : Int) → (n : Int) ≤ r.most → ∀ c ∈ cntL n, ∀ l, possB c l (supL rs r ns k) (decide (0 < ns.length)) = true → permL (waysL P r.mark) c n l = true → permL (waysL Q r.mark) c n l = true
def St (P Q : List Rl) : Prop := ∀ r ∈ P, r.2.1 = true → (rlAt Q r.1).2.1 = true
def LeP (rs : List Row) (P Q : List Rl) : Prop := St P Q ∧ ∀ k ∈ kindsOf rs P, Cov rs P Q k (reachL rs P k)
theorem any_no {α : Type} {l : List α} {f : α → Bool} : l.any f = false ↔ ∀ x ∈ l, f x = false := by
  rw [List.any_eq_false]
  exact ⟨fun h x hx => by simpa using h x hx, fun h x hx => by rw [h x hx]; exact Bool.false_ne_true⟩
theorem gapN_iff {ws1 ws2 : List Wv} {sup : Int × Int × Int} {more : Bool} {n : Nat} : gapN ws1 ws2 sup more n = false ↔ ∀ c ∈ cntL n, ∀ l, possB c l sup more = true → permL ws1 c n l = true → permL ws2 c n l = true := by
  unfold gapN
  rw [any_no]
  constructor
  · intro h c hc l p q
    have := any_no.mp (h c hc) l (by cases l <;> simp)
    rw [p, q] at this
    simpa using this
  · intro h c hc
    rw [any_no]
    intro l _
    cases p : possB c l sup more with
    | false => rfl
    | true =>
      cases q : permL ws1 c n l with
      | false => rfl
      | true => rw [h c hc l p q]; rfl
theorem gapK_iff {rs : List Row} {P Q : List Rl} {k : Kd} {ns : List Str} (g : GoodC rs) : gapK rs P Q k ns = false ↔ Cov rs P Q k ns := by
  unfold gapK gapAt
  rw [any_no]
  constructor
  · intro h r hr n l1 l2 c hc l p q
    obtain ⟨z0, z1, z2⟩ := good_sizes g hr
    have := any_no.mp (h r hr) ((n : Int) - r.least).toNat (List.mem_range.mpr (by omega))
    rw [show (r.least + ((((n : Int) - r.least).toNat : Nat) : Int)).toNat = n by omega] at this
    exact gapN_iff.mp this c hc l p q
  · intro h r hr
    obtain ⟨z0, z1, z2⟩ := good_sizes g hr
    rw [any_no]
    intro j hj
    have hj := List.mem_range.mp hj
    refine gapN_iff.mpr fun c hc l p q => ?_
    have := h r hr (r.least + ((j : Nat) : Int)).toNat (by omega) (by omega) c hc l p
    exact this q
theorem Cov.mono {rs : List Row} {P Q : List Rl} {k : Kd} {ns ns' : List Str} (h : Cov rs P Q k ns') (s : ∀ z ∈ ns, z ∈ ns') : Cov rs P Q k ns := fun r hr n l1 l2 c hc l p q => h r hr n l1 l2 c hc l (poss_mono s p) q
theorem ways_adj {P : List Rl} (a : OkA P) {z : Str} : ∀ w ∈ waysL P z, AdjW w := fun w hw => by
  unfold waysL at hw
  cases e : lookR P z with
  | none => rw [e] at hw; cases hw
  | some q => rw [e] at hw; exact (a q (List.mem_of_find?_eq_some e)).1 w hw
theorem reach_iff {rs : List Row} {P : List Rl} {k : Kd} {z : Str} : z ∈ reachL rs P k ↔ z ∈ namesL rs P k := by
  unfold reachL
  rw [List.mem_filter, decide_eq_true_iff]
  exact ⟨fun h => h.2, fun h => ⟨(roundsL_ok (rs := rs) (P := P) (k := k) rs.length).2 z h, h⟩⟩
theorem names_ind {rs : List Row} {P : List Rl} {k : Kd} {X : Str → Prop} (h : ∀ ns, (∀ z ∈ ns, X z) → ∀ r ∈ rs, rungB r (waysL P r.mark) ns k = true → X r.mark) : ∀ z ∈ reachL rs P k, X z := by
  have fold : ∀ (l : List Row) (ns : List Str), (∀ r ∈ l, r ∈ rs) → (∀ z ∈ ns, X z) → ∀ z ∈ l.foldl (stepL P k) ns, X z := fun l => by
    induction l with
    | nil => exact fun ns _ h => h
    | cons r l ih =>
      intro ns m hx
      refine ih _ (fun q hq => m q (List.mem_cons_of_mem _ hq)) fun z hz => ?_
      unfold stepL at hz
      split at hz
      · exact hx z hz
      · split at hz
        · rename_i q
          rcases List.mem_append.mp hz with hz | hz
          · exact hx z hz
          · rw [List.mem_singleton.mp hz]; exact h ns hx r (m r List.mem_cons_self) q
        · exact hx z hz
  have rounds : ∀ n, ∀ z ∈ roundsL rs P k n, X z := fun n => by
    induction n with
    | zero => exact fun z hz => nomatch hz
    | succ n ih => exact fold rs _ (fun _ h => h) ih
  exact fun z hz => rounds rs.length z (reach_iff.mp hz)
section
variable {rs : List Row} {P Q R : List Rl} {k : Kd} (g : GoodC rs) (kd : okKd k)
theorem rung_mono (a : OkA P) {r : Row} (hr : r ∈ rs) {ns ns' : List Str} (s : ∀ z ∈ ns, z ∈ ns') (h : rungB r (waysL P r.mark) ns k = true) (g : GoodC rs) (kd : okKd k) : rungB r (waysL P r.mark) ns' k = true := by
  obtain ⟨z0, z1, z2⟩ := good_sizes g hr
  obtain ⟨n, l1, l2, c, hc, l, p, q⟩ := (rung_iff (rs := rs) (more := decide (0 < ns.length)) kd (ways_adj a) z0 z2).mp h
  exact (rung_iff (rs := rs) (more := decide (0 < ns'.length)) kd (ways_adj a) z0 z2).mpr ⟨n, l1, l2, c, hc, l, poss_mono s p, q⟩
theorem reach_closed (g : GoodC rs) (kd : okKd k) (a : OkA P) {r : Row} (hr : r ∈ rs) {ns : List Str} (s : ∀ z ∈ ns, z ∈ reachL rs P k) (h : rungB r (waysL P r.mark) ns k = true) : r.mark ∈ reachL rs P k :=
  reach_iff.mpr (names_closed hr (rung_mono a hr (fun z hz => reach_iff.mp (s z hz)) h g kd))
theorem rung_cov (g : GoodC rs) (kd : okKd k) (a : OkA P) (b : OkA Q) {r : Row} (hr : r ∈ rs) {ns : List Str} (c : Cov rs P Q k ns) (h : rungB r (waysL P r.mark) ns k = true) : rungB r (waysL Q r.mark) ns k = true := by
  obtain ⟨z0, z1, z2⟩ := good_sizes g hr
  obtain ⟨n, l1, l2, x, hx, l, p, q⟩ := (rung_iff (rs := rs) (more := decide (0 < ns.length)) kd (ways_adj a) z0 z2).mp h
  exact (rung_iff (rs := rs) (more := decide (0 < ns.length)) kd (ways_adj b) z0 z2).mpr ⟨n, l1, l2, x, hx, l, p, c r hr n l1 l2 x hx l p q⟩
/-- what the first reaches, the second reaches -/
theorem reach_sub (g : GoodC rs) (kd : okKd k) (a : OkA P) (b : OkA Q) (c : Cov rs P Q k (reachL rs P k)) : ∀ z ∈ reachL rs P k, z ∈ reachL rs Q k := fun z hz => by
  have := names_ind (rs := rs) (P := P) (k := k) (X := fun z => z ∈ reachL rs P k ∧ z ∈ reachL rs Q k) (fun ns hx r hr h => ⟨reach_closed g kd a hr (fun z hz => (hx z hz).1) h, reach_closed g kd b hr (fun z hz => (hx z hz).2) (rung_cov g kd a b hr (c.mono fun z hz => (hx z hz).1) h)⟩) z hz
  exact this.2
theorem reach_sub2 (g : GoodC rs) (kd : okKd k) (a : OkA P) (b : OkA Q) (c : Cov rs P Q k (reachL rs Q k)) : ∀ z ∈ reachL rs P k, z ∈ reachL rs Q k := 
  names_ind (rs := rs) (P := P) (k := k) (X := fun z => z ∈ reachL rs Q k) (fun ns hx r hr h => reach_closed g kd b hr hx (rung_cov g kd a b hr (c.mono hx) h))
end
/-! #### two met, two joined -/
theorem look_met (P Q : List Rl) (z : Str) : lookR (metR P Q) z = (lookR P z).map fun r => (r.1, (r.2.1 && (rlAt Q r.1).2.1), trimW (meetW r.2.2 (rlAt Q r.1).2.2)) := by
  unfold metR
  unfold lookR
  induction P with
  | nil => rfl
  | cons r P ih =>
    rw [List.map_cons, List.find?_cons, List.find?_cons]
    by_cases c : r.1 = z
    · rw [decide_eq_true c]; rfl
    · rw [decide_eq_false c]; exact ih
theorem look_join (P Q : List Rl) (z : Str) : lookR (joinR P Q) z = (lookR P z).map fun r => (r.1, (r.2.1 || (rlAt Q r.1).2.1), trimW (r.2.2 ++ (rlAt Q r.1).2.2)) := by
  unfold joinR
  unfold lookR
  induction P with
  | nil => rfl
  | cons r P ih =>
    rw [List.map_cons, List.find?_cons, List.find?_cons]
    by_cases c : r.1 = z
    · rw [decide_eq_true c]; rfl
    · rw [decide_eq_false c]; exact ih
section
variable {rs : List Row} {P Q R : List Rl}
theorem look_mk (g : GoodC rs) (e : P.map (·.1) = mks rs) {z : Str} (h : z ∈ mks rs) : ∃ q, lookR P z = some q ∧ q ∈ P ∧ q.1 = z := look_in (by rw [e]; exact g.nd) (by rw [e]; exact h)
theorem rlAt_mk (g : GoodC rs) (e : P.map (·.1) = mks rs) {z : Str} (h : z ∈ mks rs) : rlAt P z ∈ P ∧ (rlAt P z).1 = z ∧ waysL P z = (rlAt P z).2.2 := by
  obtain ⟨q, lz, mq, eq⟩ := look_mk g e h
  unfold rlAt waysL
  rw [lz]
  exact ⟨mq, eq, rfl⟩
theorem rlAt_met (g : GoodC rs) (e : P.map (·.1) = mks rs) {z : Str} (h : z ∈ mks rs) : rlAt (metR P Q) z = (z, ((rlAt P z).2.1 && (rlAt Q z).2.1), trimW (meetW (rlAt P z).2.2 (rlAt Q z).2.2)) := by
  obtain ⟨q, lz, mq, eq⟩ := look_mk g e h
  have h1 : rlAt P z = q := by unfold rlAt; rw [lz]; rfl
  have h2 : rlAt (metR P Q) z = (q.1, (q.2.1 && (rlAt Q q.1).2.1), trimW (meetW q.2.2 (rlAt Q q.1).2.2)) := by unfold rlAt; rw [look_met, lz]; rfl
  rw [h2, h1, eq]
theorem rlAt_join (g : GoodC rs) (e : P.map (·.1) = mks rs) {z : Str} (h : z ∈ mks rs) : rlAt (joinR P Q) z = (z, ((rlAt P z).2.1 || (rlAt Q z).2.1), trimW ((rlAt P z).2.2 ++ (rlAt Q z).2.2)) := by
  obtain ⟨q, lz, mq, eq⟩ := look_mk g e h
  have h1 : rlAt P z = q := by unfold rlAt; rw [lz]; rfl
  have h2 : rlAt (joinR P Q) z = (q.1, (q.2.1 || (rlAt Q q.1).2.1), trimW (q.2.2 ++ (rlAt Q q.1).2.2)) := by unfold rlAt; rw [look_join, lz]; rfl
  rw [h2, h1, eq]
theorem perm_met (g : GoodC rs) (e1 : P.map (·.1) = mks rs) (e2 : Q.map (·.1) = mks rs) (a : OkA P) (b : OkA Q) {z : Str} (h : z ∈ mks rs) (c : Cn) (n : Nat) (l : Bool) : permL (waysL (metR P Q) z) c n l = (permL (waysL P z) c n l && permL (waysL Q z) c n l) := by
  have e3 : (metR P Q).map (·.1) = mks rs := by rw [metR_fst, e1]
  obtain ⟨m1, _, w1⟩ := rlAt_mk g e1 h
  obtain ⟨m2, _, w2⟩ := rlAt_mk g e2 h
  obtain ⟨_, _, w3⟩ := rlAt_mk g e3 h
  rw [w1, w2, w3, rlAt_met g e1 h, permL_eq, permL_eq, permL_eq]
  exact met_any (a _ m1).1 (b _ m2).1 (Int.natCast_nonneg n)
theorem perm_join (g : GoodC rs) (e1 : P.map (·.1) = mks rs) (e2 : Q.map (·.1) = mks rs) (a : OkA P) (b : OkA Q) {z : Str} (h : z ∈ mks rs) (c : Cn) (n : Nat) (l : Bool) : permL (waysL (joinR P Q) z) c n l = (permL (waysL P z) c n l || permL (waysL Q z) c n l) := by
  have e3 : (joinR P Q).map (·.1) = mks rs := by rw [joinR_fst, e1]
  obtain ⟨m1, _, w1⟩ := rlAt_mk g e1 h
  obtain ⟨m2, _, w2⟩ := rlAt_mk g e2 h
  obtain ⟨_, _, w3⟩ := rlAt_mk g e3 h
  rw [w1, w2, w3, rlAt_join g e1 h, permL_eq, permL_eq, permL_eq]
  exact join_any (a _ m1).1 (b _ m2).1 (Int.natCast_nonneg n)
theorem kinds_met (st : St P Q) : kindsOf rs (metR P Q) = kindsOf rs P := by
  unfold kindsOf metR
  rw [List.flatMap_map]
  have go : ∀ (l : List Rl), (∀ r ∈ l, r ∈ P) → (l.flatMap fun r => if (r.2.1 && (rlAt Q r.1).2.1) = true then kds r.1 (shB rs r.1) else []) = l.flatMap fun q => if q.2.1 = true then kds q.1 (shB rs q.1) else [] := fun l => by
    induction l with
    | nil => intro _; rfl
    | cons r l ih =>
      intro m
      rw [List.flatMap_cons, List.flatMap_cons, ih fun q hq => m q (List.mem_cons_of_mem _ hq)]
      congr 1
      cases e : r.2.1 with
      | false => rfl
      | true => rw [st r (m r List.mem_cons_self) e]; rfl
  exact go P fun _ h => h
theorem kinds_sub (g : GoodC rs) (e1 : P.map (·.1) = mks rs) (e2 : Q.map (·.1) = mks rs) (st : St P Q) {k : Kd} (h : k ∈ kindsOf rs P) : k ∈ kindsOf rs Q := by
  unfold kindsOf at h ⊢
  obtain ⟨r, hr, hk⟩ := List.mem_flatMap.mp h
  have mz : r.1 ∈ mks rs := by rw [← e1]; exact List.mem_map.mpr ⟨r, hr, rfl⟩
  obtain ⟨m2, ez, _⟩ := rlAt_mk g e2 mz
  cases e : r.2.1 with
  | false => rw [if_neg (by rw [e]; exact Bool.false_ne_true)] at hk; cases hk
  | true =>
    rw [if_pos e] at hk
    refine List.mem_flatMap.mpr ⟨rlAt Q r.1, m2, ?_⟩
    rw [if_pos (st r hr e), ez]; exact hk
/-- the program's answer, told without the meet -/
theorem gap_iff (g : GoodC rs) (e1 : P.map (·.1) = mks rs) (e2 : Q.map (·.1) = mks rs) (a : OkA P) (b : OkA Q) : gapB rs P Q = false ↔ LeP rs P Q := by
  have aM := met_okA a b
  have mP : ∀ k ns, Cov rs (metR P Q) P k ns := fun k ns r hr n l1 l2 c hc l p q => by
    rw [perm_met g e1 e2 a b (List.mem_map.mpr ⟨r, hr, rfl⟩), Bool.and_eq_true] at q
    exact q.1
  have cM : ∀ {k ns}, Cov rs P Q k ns → Cov rs P (metR P Q) k ns := fun h r hr n l1 l2 c hc l p q => by
    rw [perm_met g e1 e2 a b (List.mem_map.mpr ⟨r, hr, rfl⟩), q, h r hr n l1 l2 c hc l p q]; rfl
  unfold gapB LeP
  rw [Bool.or_eq_false_iff, any_no, any_no]
  have es : (∀ x ∈ P, (x.2.1 && !(rlAt Q x.1).2.1) = false) ↔ St P Q := by
    unfold St
    constructor
    · intro h r hr e
      have := h r hr
      rw [e] at this
      simpa using this
    · intro h r hr
      cases e : r.2.1 with
      | false => rfl
      | true => rw [h r hr e]; rfl
  rw [es]
  constructor
  · rintro ⟨st, h⟩
    rw [kinds_met st] at h
    refine ⟨st, fun k hk => ?_⟩
    have kd := kinds_ok hk
    have h1 := (gapK_iff g).mp (h k hk)
    exact h1.mono (reach_sub2 g kd a aM (cM h1))
  · rintro ⟨st, h⟩
    rw [kinds_met st]
    refine ⟨st, fun k hk => ?_⟩
    have kd := kinds_ok hk
    exact (gapK_iff g).mpr ((h k hk).mono (reach_sub g kd aM a (mP k _)))
theorem le_refl (g : GoodC rs) (e1 : P.map (·.1) = mks rs) : LeP rs P P := by
  refine ⟨fun r hr e => ?_, fun k hk r hr n l1 l2 c hc l p q => q⟩
  obtain ⟨i, hi⟩ := List.mem_iff_getElem?.mp hr
  have : lookR P r.1 = some r := look_at (by rw [e1]; exact g.nd) hi
  unfold rlAt
  rw [this]; exact e
theorem le_trans (g : GoodC rs) (e1 : P.map (·.1) = mks rs) (e2 : Q.map (·.1) = mks rs) (e3 : R.map (·.1) = mks rs) (a : OkA P) (b : OkA Q) (h1 : LeP rs P Q) (h2 : LeP rs Q R) : LeP rs P R := by
  have mz : ∀ r ∈ P, r.1 ∈ mks rs := fun r hr => by rw [← e1]; exact List.mem_map.mpr ⟨r, hr, rfl⟩
  refine ⟨fun r hr e => ?_, fun k hk => ?_⟩
  · obtain ⟨m2, ez, _⟩ := rlAt_mk g e2 (mz r hr)
    have := h2.1 _ m2 (h1.1 r hr e)
    rwa [ez] at this
  · have kd := kinds_ok hk
    have c1 := h1.2 k hk
    have c2 := h2.2 k (kinds_sub g e1 e2 h1.1 hk)
    have s := reach_sub g kd a b c1
    exact fun r hr n l1 l2 c hc l p q => c2 r hr n l1 l2 c hc l (poss_mono s p) (c1 r hr n l1 l2 c hc l p q)
theorem le_met (g : GoodC rs) (e1 : P.map (·.1) = mks rs) (e2 : Q.map (·.1) = mks rs) (e3 : R.map (·.1) = mks rs) (a : OkA P) (b : OkA Q) : LeP rs R (metR P Q) ↔ LeP rs R P ∧ LeP rs R Q := by
  have mz : ∀ r ∈ R, r.1 ∈ mks rs := fun r hr => by rw [← e3]; exact List.mem_map.mpr ⟨r, hr, rfl⟩
  constructor
  · intro h
    refine ⟨⟨fun r hr e => ?_, fun k hk r hr n l1 l2 c hc l p q => ?_⟩, ⟨fun r hr e => ?_, fun k hk r hr n l1 l2 c hc l p q => ?_⟩⟩
    · have := h.1 r hr e
      rw [rlAt_met g e1 (mz r hr), Bool.and_eq_true] at this
      exact this.1
    · have := h.2 k hk r hr n l1 l2 c hc l p q
      rw [perm_met g e1 e2 a b (List.mem_map.mpr ⟨r, hr, rfl⟩), Bool.and_eq_true] at this
      exact this.1
    · have := h.1 r hr e
      rw [rlAt_met g e1 (mz r hr), Bool.and_eq_true] at this
      exact this.2
    · have := h.2 k hk r hr n l1 l2 c hc l p q
      rw [perm_met g e1 e2 a b (List.mem_map.mpr ⟨r, hr, rfl⟩), Bool.and_eq_true] at this
      exact this.2
  · rintro ⟨h1, h2⟩
    refine ⟨fun r hr e => ?_, fun k hk r hr n l1 l2 c hc l p q => ?_⟩
    · rw [rlAt_met g e1 (mz r hr), h1.1 r hr e, h2.1 r hr e]; rfl
    · rw [perm_met g e1 e2 a b (List.mem_map.mpr ⟨r, hr, rfl⟩), h1.2 k hk r hr n l1 l2 c hc l p q, h2.2 k hk r hr n l1 l2 c hc l p q]; rfl
theorem le_pt (st : ∀ z ∈ mks rs, (rlAt P z).2.1 = true → (rlAt Q z).2.1 = true) (g : GoodC rs) (e1 : P.map (·.1) = mks rs) (pw : ∀ z ∈ mks rs, ∀ (c : Cn) (n : Nat) (l : Bool), permL (waysL P z) c n l = true → permL (waysL Q z) c n l = true) : LeP rs P Q := by
  refine ⟨fun r hr e => ?_, fun k hk r hr n l1 l2 c hc l p q => pw r.mark (List.mem_map.mpr ⟨r, hr, rfl⟩) c n l q⟩
  have mz : r.1 ∈ mks rs := by rw [← e1]; exact List.mem_map.mpr ⟨r, hr, rfl⟩
  refine st r.1 mz ?_
  obtain ⟨i, hi⟩ := List.mem_iff_getElem?.mp hr
  have : lookR P r.1 = some r := look_at (by rw [e1]; exact g.nd) hi
  unfold rlAt
  rw [this]; exact e
theorem le_join (g : GoodC rs) (e1 : P.map (·.1) = mks rs) (e2 : Q.map (·.1) = mks rs) (a : OkA P) (b : OkA Q) : LeP rs P (joinR P Q) ∧ LeP rs Q (joinR P Q) := by
  refine ⟨le_pt (fun z hz h => ?_) g e1 fun z hz c n l h => ?_, le_pt (fun z hz h => ?_) g e2 fun z hz c n l h => ?_⟩
  · rw [rlAt_join g e1 hz, h]; rfl
  · rw [perm_join g e1 e2 a b hz, h]; rfl
  · rw [rlAt_join g e1 hz, h]; exact Bool.or_true _
  · rw [perm_join g e1 e2 a b hz, h]; exact Bool.or_true _
end
end My

namespace My
open PySem L2
def LK (H H' : Hp) : Prop := ∀ a xs, H a = some (.lst xs) → H' a = some (.lst xs)
theorem LK.same {H H' : Hp} (s : Same H H') : LK H H' := fun a _ h => s a _ h
theorem LK.updD {H : Hp} {g : Addr} {kvs : List (Key × V)} {o : HO} (h : H g = some (.dK kvs)) : LK H (upd H g o) := fun a xs e => by rw [upd_ne (fun z => by rw [z, h] at e; cases e)]; exact e
theorem rdn_put {t : Addr} {B : Hp} {kvs : List (Key × V)} {rl : List Rl} {r : Rl} {q : Addr} (h : Paired (RdN t B) kvs rl) (m : r.1 ∈ rl.map (·.1)) (n : RdN t B (.inr r.1, .ref q) r) : Paired (RdN t B) (putK kvs (.inr r.1) (.ref q)) (setR rl r) := by
  have go : ∀ {kvs : List (Key × V)} {rl : List Rl}, Paired (RdN t B) kvs rl → Paired (RdN t B) (kvs.map fun kv => if kv.1 = .inr r.1 then (kv.1, .ref q) else kv) (setR rl r) := fun h => by
    induction h with
    | nil => exact .nil
    | @cons kv r0 kvs rl a b ih =>
      refine .cons ?_ ih
      have ek : kv.1 = .inr r0.1 := a.1
      show RdN t B (if kv.1 = .inr r.1 then (kv.1, .ref q) else kv) (if r0.1 = r.1 then r else r0)
      by_cases e : r0.1 = r.1
      · rw [if_pos e, if_pos (by rw [ek, e]), ek, e]; exact n
      · rw [if_neg e, if_neg (fun z => e (by rw [ek] at z; injection z))]; exact a
  rw [putK_old]
  · exact go h
  · obtain ⟨r0, hr0, e0⟩ := List.mem_map.mp m
    rw [← valV_any, List.any_eq_true]
    obtain ⟨i, hi⟩ := List.getElem?_of_mem hr0
    obtain ⟨kv, hkv, a⟩ := pair_back h hi
    exact ⟨kv, List.mem_of_getElem? hkv, decide_eq_true (by rw [a.1, e0])⟩
theorem RdN.v {t : Addr} {H : Hp} {kv : Key × V} {r : Rl} (h : RdN t H kv r) : RdV H kv r := let ⟨a, q, p, us, e, _, f, _, g, k, b⟩ := h; ⟨a, q, p, us, e, f, g, _root_.L2.Paired.mapP k fun _ _ ⟨q, e, _, f, j⟩ => ⟨q, e, f, j⟩, b⟩
theorem rdv_off {t : Addr} {k : Nat} {H : Hp} {kv : Key × V} {r : Rl} (h : RdV H kv r) (ht : H t = some (.lst [.int k])) : RdN t H kv r := by
  obtain ⟨a, q, p, us, e, f, g, kk, l⟩ := h
  have nl : ∀ {a : Addr} {xs : List V}, H a = some (.lst xs) → (∀ k, xs ≠ [V.int k]) → a ≠ t := fun h n z => by rw [z, ht] at h; exact n _ (HO.lst.inj (Option.some.inj h)).symm
  refine ⟨a, q, p, us, e, nl f (fun k z => by cases z), f, nl g (fun k z => ?_), g, L2.Paired.mapP kk fun _ _ ⟨q, e, f, j⟩ => ⟨q, e, nl f (fun k z => by cases z), f, j⟩, l⟩
  obtain ⟨_, _, _, e, _⟩ := pair_get' kk (i := 0) (x := V.int k) (by rw [z]; rfl)
  cases e
theorem Pol.off {Cp Cw : Addr} {H H' : Hp} {y x m a b t : Addr} {rl : List Rl} {xs : List V} (P : Pol Cp Cw H y x m a b rl) (ht : H t = some (.lst xs)) (n : ∀ l : List Str, xs ≠ l.map V.str) (bu : But t H H') : Pol Cp Cw H' y x m a b rl := by
  obtain ⟨⟨dy, hy⟩, hm, ⟨ls, ha, hb, _⟩, _, _⟩ := id P
  refine P.le (A := [t]) (.but (by simp) bu) (fun c o h tt => bu _ _ (fun z => ?_) h) fun c hc h => ?_
  · rw [z, ht] at h
    obtain rfl := Option.some.inj h
    rcases tt with ⟨_, e⟩ | ⟨_, _, _, _, _, e⟩ <;> cases e
  · obtain rfl := List.mem_singleton.mp h
    simp only [List.mem_cons, List.not_mem_nil, or_false] at hc
    rcases hc with rfl | rfl | rfl | rfl
    · rw [ht] at hy; cases hy
    · rw [ht] at hm
      refine n (rl.map (·.1)) ?_
      rw [List.map_map]
      exact HO.lst.inj (Option.some.inj hm)
    · rw [ht] at ha; cases ha
    · rw [ht] at hb; cases hb
theorem int_strs {k : Int} : ∀ l : List Str, [V.int k] ≠ l.map V.str := fun l e => by cases l <;> cases e
theorem ref_strs {a : Addr} {r : List V} : ∀ l : List Str, V.ref a :: r ≠ l.map V.str := fun l e => by cases l <;> cases e
theorem ShO.off {Cs : Addr} {H H' : Hp} {x t : Addr} {k : Int} {rs : List Row} (S : ShO Cs H x rs) (ht : H t = some (.lst [.int k])) (b : But t H H') : ShO Cs H' x rs := by
  obtain ⟨dx, l, m, vs, hx, hl, hr, hm⟩ := S
  refine ⟨dx, l, m, vs, b _ _ (fun z => by rw [z, ht] at hx; cases hx) hx, b _ _ (fun z => ?_) hl, rowsT_keep hr (fun a xs e => b _ _ (fun z => by rw [z, ht] at e; cases e) e), b _ _ (fun z => ?_) hm⟩
  · rw [z, ht] at hl
    have e := HO.lst.inj (Option.some.inj hl)
    subst e
    obtain ⟨_, _, q, _, e, _⟩ := pair_get' hr (i := 0) (x := V.int k) rfl
    cases e
  · rw [z, ht] at hm
    have e := HO.lst.inj (Option.some.inj hm)
    exact int_strs (rs.map (·.mark)) (by rw [e]; unfold mksV; rw [List.map_map]; rfl)
/-- all but dicts stays -/
def NdK (H H' : Hp) : Prop := ∀ a o, (∀ k, o ≠ .dK k) → H a = some o → H' a = some o
theorem NdK.le {H H' : Hp} {a b : Addr} {k1 k2 : List (Key × V)} (h1 : H a = some (.dK k1)) (h2 : H b = some (.dK k2)) (l : Le [a, b] H H') : NdK H H' := fun c o n h => l _ _ (fun m => by
  simp only [List.mem_cons, List.not_mem_nil, or_false] at m
  rcases m with rfl | rfl
  · rw [h1] at h; exact n _ (Option.some.inj h).symm
  · rw [h2] at h; exact n _ (Option.some.inj h).symm) h
theorem NdK.but {H H' : Hp} {a : Addr} {k1 : List (Key × V)} (h1 : H a = some (.dK k1)) (l : But a H H') : NdK H H' := fun c o n h => l _ _ (fun m => by
  rw [m, h1] at h; exact n _ (Option.some.inj h).symm) h
theorem NdK.same {H H' : Hp} (s : Same H H') : NdK H H' := fun _ _ _ h => s _ _ h
theorem NdK.trans {H H1 H2 : Hp} (x : NdK H H1) (y : NdK H1 H2) : NdK H H2 := fun a o n h => y a o n (x a o n h)
theorem ShO.nd {Cs : Addr} {H H' : Hp} {x : Addr} {rs : List Row} (S : ShO Cs H x rs) (k : NdK H H') : ShO Cs H' x rs := by
  obtain ⟨dx, l, m, vs, hx, hl, hr, hm⟩ := S
  exact ⟨dx, l, m, vs, k _ _ (fun _ h => nomatch h) hx, k _ _ (fun _ h => nomatch h) hl, rowsT_keep hr (fun a xs e => k _ _ (fun _ h => nomatch h) e), k _ _ (fun _ h => nomatch h) hm⟩
theorem rowsN_nd {F : Addr → Prop} {b : Bool} {H H' : Hp} {vs : List V} {rs : List Row} (h : RowsN F b H vs rs) (k : NdK H H') : RowsN F b H' vs rs := L2.Paired.mapP h fun _ _ ⟨q, qq, e, f1, f2, h1, h2⟩ => ⟨q, qq, e, f1, f2, k _ _ (fun _ z => by unfold seqO at z; split at z <;> cases z) h1, k _ _ (fun _ z => by unfold seqO at z; split at z <;> cases z) h2⟩
theorem Pol.offD {Cp Cw : Addr} {H H' : Hp} {y x m a b t : Addr} {rl : List Rl} {kvs : List (Key × V)} (P : Pol Cp Cw H y x m a b rl) (ht : H t = some (.dK kvs)) (n1 : t ≠ a) (n2 : t ≠ b) (bu : But t H H') : Pol Cp Cw H' y x m a b rl := by
  obtain ⟨⟨dy, hy⟩, hm, _, _, _⟩ := id P
  refine P.le (A := [t]) (.but (by simp) bu) (fun c o h tt => bu _ _ (fun z => ?_) h) fun c hc h => ?_
  · rw [z, ht] at h
    obtain rfl := Option.some.inj h
    rcases tt with ⟨_, e⟩ | ⟨_, _, _, _, _, e⟩ <;> cases e
  · obtain rfl := List.mem_singleton.mp h
    simp only [List.mem_cons, List.not_mem_nil, or_false] at hc
    rcases hc with rfl | rfl | rfl | rfl
    · rw [ht] at hy; cases hy
    · rw [ht] at hm; cases hm
    · exact n1 rfl
    · exact n2 rfl
theorem pair_takeP {α β : Type} {F : α → β → Prop} : ∀ {l : List α} {m : List β} (n : Nat), Paired F l m → Paired F (l.take n) (m.take n)
  | _, _, 0, _ => by simp only [List.take_zero]; exact .nil
  | _, _, n + 1, .nil => .nil
  | _, _, n + 1, .cons h t => .cons h (pair_takeP n t)
end My

namespace My
open PySem L2
/-! ### the law's own rules, loosened and tightened -/
def AdW (k : Wv) : Prop := Adj k.1 k.2.1 k.2.2.1
def WyC (H : Hp) (q : Addr) (k : Wv) : Prop := H q = some (LwO k.1 k.2.1 k.2.2.1 k.2.2.2) ∧ AdW k
theorem wyc_set {H : Hp} {q : Addr} {k' : Wv} (ad : AdW k') : ∀ {ps : List Addr} {ls : List Wv} {j : Nat}, Paired (WyC H) ps ls → ps.Nodup → ps[j]? = some q → Paired (WyC (upd H q (LwO k'.1 k'.2.1 k'.2.2.1 k'.2.2.2))) ps (ls.set j k')
  | _, _, _, .nil, _, h => by simp at h
  | p :: ps, l :: ls, 0, .cons h t, nd, e => by
    simp at e; subst e
    have nd := List.nodup_cons.mp nd
    refine .cons ⟨upd_same, ad⟩ ?_
    have go : ∀ {ps : List Addr} {ls : List Wv}, Paired (WyC H) ps ls → p ∉ ps → Paired (WyC (upd H p (LwO k'.1 k'.2.1 k'.2.2.1 k'.2.2.2))) ps ls := fun h => by
      induction h with
      | nil => intro _; exact .nil
      | @cons a b as bs h t ih =>
        intro n
        rw [List.mem_cons, not_or] at n
        exact .cons ⟨by rw [upd_ne (fun z => n.1 z.symm)]; exact h.1, h.2⟩ (ih n.2)
    exact go t nd.1
  | p :: ps, l :: ls, j + 1, .cons h t, nd, e => by
    have nd := List.nodup_cons.mp nd
    have e : ps[j]? = some q := by simpa using e
    refine .cons ⟨by rw [upd_ne (fun z : p = q => nd.1 (by rw [z]; exact List.mem_of_getElem? e))]; exact h.1, h.2⟩ ?_
    exact wyc_set ad t nd.2 e
theorem upd_upd' {H : Hp} {a : Addr} {o o' : HO} : upd (upd H a o) a o' = upd H a o' := by
  funext c
  by_cases e : c = a
  · subst e; rw [upd_same, upd_same]
  · rw [upd_ne e, upd_ne e, upd_ne e]
theorem upd_self {H : Hp} {a : Addr} {o : HO} (h : H a = some o) : upd H a o = H := by
  funext c
  by_cases e : c = a
  · subst e; rw [upd_same, h]
  · rw [upd_ne e]
theorem pair_memL {α β : Type} {F G : α → β → Prop} : ∀ {l : List α} {m : List β}, Paired F l m → (∀ a b, a ∈ l → F a b → G a b) → Paired G l m
  | _, _, .nil, _ => .nil
  | _, _, .cons h t, g => .cons (g _ _ List.mem_cons_self h) (pair_memL t fun a b ha => g a b (List.mem_cons_of_mem _ ha))
theorem wyc_lwn {t : Addr} {H H' : Hp} : ∀ {ps : List Addr} {ks : List Wv}, Paired (WyC H) ps ks → (∀ p (k : Wv), p ∈ ps → H p = some (LwO k.1 k.2.1 k.2.2.1 k.2.2.2) → p ≠ t ∧ H' p = some (LwO k.1 k.2.1 k.2.2.1 k.2.2.2)) → Paired (LwN t H') (ps.map V.ref) ks
  | _, _, .nil, _ => .nil
  | p :: ps, k :: ks, .cons h t, g => .cons ⟨p, rfl, (g p k List.mem_cons_self h.1).1, (g p k List.mem_cons_self h.1).2, h.2⟩ (wyc_lwn t fun a b ha => g a b (List.mem_cons_of_mem _ ha))
def WkR (r r' : Rl) : Prop := r.1 = r'.1 ∧ (r.2.1 = true → r'.2.1 = true) ∧ ∀ w ∈ r.2.2, ∃ w' ∈ r'.2.2, leW w w' = true
def Weak (P Q : List Rl) : Prop := Paired WkR P Q
theorem leW_refl' (x : Wv) : leW x x = true := leW_iff.mpr ⟨id, Nat.le_refl _, Nat.le_refl _, Nat.le_refl _⟩
theorem WkR.refl (r : Rl) : WkR r r := ⟨rfl, id, fun w hw => ⟨w, hw, leW_refl' w⟩⟩
theorem weak_set {P : List Rl} {r : Rl} (h : ∀ x ∈ P, x.1 = r.1 → WkR x r) : Weak P (setR P r) := by
  unfold Weak setR
  have go : ∀ l : List Rl, (∀ x ∈ l, x.1 = r.1 → WkR x r) → Paired WkR l (l.map fun x => if x.1 = r.1 then r else x) := fun l => by
    induction l with
    | nil => intro _; exact .nil
    | cons a l ih =>
      intro m
      refine .cons ?_ (ih fun x hx => m x (List.mem_cons_of_mem _ hx))
      show WkR a (if a.1 = r.1 then r else a)
      by_cases e : a.1 = r.1
      · rw [if_pos e]; exact m a List.mem_cons_self e
      · rw [if_neg e]; exact WkR.refl a
  exact go P h
theorem weak_set2 {P : List Rl} {r : Rl} (h : ∀ x ∈ P, x.1 = r.1 → WkR r x) : Weak (setR P r) P := by
  unfold Weak setR
  have go : ∀ l : List Rl, (∀ x ∈ l, x.1 = r.1 → WkR r x) → Paired WkR (l.map fun x => if x.1 = r.1 then r else x) l := fun l => by
    induction l with
    | nil => intro _; exact .nil
    | cons a l ih =>
      intro m
      refine .cons ?_ (ih fun x hx => m x (List.mem_cons_of_mem _ hx))
      show WkR (if a.1 = r.1 then r else a) a
      by_cases e : a.1 = r.1
      · rw [if_pos e]; exact m a List.mem_cons_self e
      · rw [if_neg e]; exact WkR.refl a
  exact go P h
theorem weak_look {z : Str} : ∀ {P Q : List Rl} {p : Rl}, Weak P Q → lookR P z = some p → ∃ q, lookR Q z = some q ∧ WkR p q
  | _, _, _, .nil, e => by cases e
  | a :: P, b :: Q, p, .cons h t, e => by
    unfold lookR at e ⊢
    rw [List.find?_cons] at e ⊢
    have e1 := h.1
    by_cases c : a.1 = z
    · rw [decide_eq_true c] at e
      rw [decide_eq_true (by rw [← e1]; exact c)]
      obtain rfl := Option.some.inj e
      exact ⟨b, rfl, h⟩
    · rw [decide_eq_false c] at e
      rw [decide_eq_false (by rw [← e1]; exact c)]
      exact weak_look t e
theorem le_weak {rs : List Row} {P Q : List Rl} (g : GoodC rs) (e1 : P.map (·.1) = mks rs) (a : OkA P) (h : Weak P Q) : LeP rs P Q := by
  have both : ∀ z ∈ mks rs, ∃ p q, lookR P z = some p ∧ lookR Q z = some q ∧ p ∈ P ∧ WkR p q := fun z hz => by
    obtain ⟨p, lz, mp, _⟩ := look_mk g e1 hz
    obtain ⟨q, lq, w⟩ := weak_look h lz
    exact ⟨p, q, lz, lq, mp, w⟩
  refine le_pt (fun z hz e => ?_) g e1 fun z hz c n l e => ?_
  · obtain ⟨p, q, lp, lq, _, w⟩ := both z hz
    unfold rlAt at e ⊢
    rw [lp] at e
    rw [lq]
    exact w.2.1 e
  · obtain ⟨p, q, lp, lq, mp, w⟩ := both z hz
    unfold waysL at e ⊢
    rw [lp] at e
    rw [lq]
    rw [permL_eq] at e ⊢
    obtain ⟨x, hx, px⟩ := List.any_eq_true.mp e
    obtain ⟨y, hy, le⟩ := w.2.2 x hx
    exact List.any_eq_true.mpr ⟨y, hy, permW_mono ((a p mp).1 x hx) (Int.natCast_nonneg n) le px⟩
theorem val_ix {t : Addr} {H : Hp} : ∀ {kvs : List (Key × V)} {P : List Rl} {i : Nat} {r : Rl} {kv : Key × V}, Paired (RdN t H) kvs P → (P.map (·.1)).Nodup → P[i]? = some r → kvs[i]? = some kv → valV kvs (.inr r.1) = some kv.2
  | _, _, _, _, _, .nil, _, e, _ => by simp at e
  | a :: kvs, q0 :: rl, 0, r, kv, .cons h t, _, e, e2 => by
    simp at e e2; subst e e2
    exact valV_pos h.1
  | a :: kvs, q0 :: rl, i + 1, r, kv, .cons h t, nd, e, e2 => by
    have e : rl[i]? = some r := by simpa using e
    have e2 : kvs[i]? = some kv := by simpa using e2
    have nd := List.nodup_cons.mp (by simpa using nd : (q0.1 :: rl.map (·.1)).Nodup)
    have ne : q0.1 ≠ r.1 := fun h => nd.1 (h ▸ List.mem_map.mpr ⟨r, List.mem_of_getElem? e, rfl⟩)
    rw [valV_neg (by rw [h.1]; exact fun z => ne (by injection z))]
    exact val_ix t nd.2 e e2
theorem keys_str {t : Addr} {H : Hp} : ∀ {kvs : List (Key × V)} {P : List Rl}, Paired (RdN t H) kvs P → (kvs.map fun kv => kV kv.1) = (P.map (·.1)).map V.str
  | _, _, .nil => rfl
  | a :: kvs, r :: P, .cons h tl => by rw [List.map_cons, List.map_cons, List.map_cons, h.1, keys_str tl]; rfl
def spLVar (K : PySem.W.Frag) (W : List Rl → List Rl → Prop) : Sp := fun vs H Q _ => ∃ (d t gd : Addr) (kvs : List (Key × V)) (P : List Rl) (B : Nat), vs = [.ref d, .ref t, .ref gd] ∧ Dr K H d t ∧ H gd = some (.dK kvs) ∧ Paired (RdN t H) kvs P ∧ (P.map (·.1)).Nodup ∧ 1 ≤ P.length ∧ P.length ≤ 100 ∧ B ≤ 30 ∧ (∀ r ∈ P, r.2.2.length ≤ B) ∧
  ∀ (P' : List Rl) kv' o H', P'.map (·.1) = P.map (·.1) → (∀ r ∈ P', r.2.2.length ≤ B + 1) → W P P' → Dr K H' d t → But t H H' → H o = none → H' o = some (.dK kv') → Paired (RdN t H') kv' P' → Q (.ref o) H'
section
variable {P : Program} {w : World} {K : PySem.W.Frag} {mg : Str → Option Value} {base : Heap}
set_option maxHeartbeats 32000000 in
set_option pp.maxSteps 900 in
theorem ok__law_loosened (T : Txt K mg) : FnOk P w K mg base CX0 6 T.a__law_loosened T.fd__law_loosened ["_law_draws_here", "_law_at", "_law_rules_here"] (spLVar K Weak) := by
  refine T.F__law_loosened.ok sc__law_loosened (fun vs H Q E h => ?_) (fun cdv A outer s H vs Q E hr h => ?_)
  · obtain ⟨d, t, gd, kvs, P, B, rfl, _⟩ := h; rfl
  · obtain ⟨d, t, gd, kvs, P, B, rfl, D0, hg, pk, nd, lP1, lP, lB, lw, q⟩ := h
    refine ⟨_, (pss_cons (ps_set (i := 3) sc__law_loosened.nd rfl (.inl rfl) (pe_callTy (call_list_dK rfl) (by rfl) T.n_list (by decide +kernel) (pa_cons (pv 2) pa_nil)))
      (pss_cons (ps_set (i := 4) sc__law_loosened.nd rfl (.inl rfl) (pe_ix ix_list (pv 3) (pe_call (ok__law_take T) (hr.mono (by omega)) (by rfl) T.g__law_take T.F__law_take.kp T.b__law_take .nil pass0 (pa_cons (pv 0) (pa_cons (pv 1) (pa_cons (pe_callB call_len_seq (by rfl) T.n_len (by decide +kernel) (pa_cons (pv 3) pa_nil)) pa_nil)))) (fun _ _ => rfl)))
      (pss_cons (ps_set (i := 5) sc__law_loosened.nd rfl (.inl rfl) (pe_ix ix_list (pe_dget (hu_of hr) (pv 2) (pv 4) (fun _ _ => rfl)) (pe_int) (fun _ _ => rfl)))
      (pss_cons (ps_setLc (i := 6) (own := [("_law_way_here", 7)]) (g := (gName 7)) (by rfl) sc__law_loosened.nd rfl rfl (sw_true rfl rfl rfl (by decide +kernel)) (pi_list (pe_ix ix_list (pe_dget (hu_of hr) (pv 2) (pv 4) (fun _ _ => rfl)) (pe_int) (fun _ _ => rfl))) (blkOk_by (own := [("_law_way_here", 7)]) (N := ["_law_draws_here", "_law_at", "_law_rules_here", "_law_marks_here", "_law_mark", "_law_begin", "_law_ways", "_law_way_here", "_law_choice", "_law_changed_here", "_law_name"]) (sc := defScope S__law_loosened) (by decide +kernel)) (fun _ _ _ _ _ => (pg_name (i := 7) sc__law_loosened.nd rfl (by first | exact .inl rfl | exact .inr rfl))) (fun _ _ _ _ _ => pts_nil) (fun _ _ _ _ _ => (pe_callTy (listK (K := K) rfl) (by rfl) T.n_list (by decide +kernel) (pa_cons (pv 7) pa_nil))))
      (pss_cons (ps_set (i := 8) sc__law_loosened.nd rfl (.inl rfl) (pe_call (ok__law_take T) (hr.mono (by omega)) (by rfl) T.g__law_take T.F__law_take.kp T.b__law_take .nil pass0 (pa_cons (pv 0) (pa_cons (pv 1) (pa_cons (pe_int) pa_nil)))))
      (C8.pss_cut (ps_if (pt_cmpR op_eq (pv 8) (pe_int) (nomark _)) (pss_one (ps_set (i := 5) sc__law_loosened.nd rfl (.inl rfl) (pe_bl))) (pss_one (ps_if (pt_cmpR op_eq (pv 8) (pe_int) (nomark _)) (pss_one (ps_expr (pe_bm PySem.F.plainAttrs_list PySem.F.slot_list_append PySem.F.type_list_append mt_append (pv 6) (pa_cons (pe_call (ok__law_way T) (hr.mono (by omega)) (by rfl) T.g__law_way T.F__law_way.kp T.b__law_way .nil pass0 (pa_cons (pv 0) (pa_cons (pv 1) pa_nil))) pa_nil)))) (pss_one (ps_if (pt_cmpR op_gt (pe_callB call_len_seq (by rfl) T.n_len (by decide +kernel) (pa_cons (pv 6) pa_nil)) (pe_int) (nomark _)) (pss_cons (ps_set (i := 7) sc__law_loosened.nd rfl (.inl rfl) (pe_ix ix_list (pv 6) (pe_call (ok__law_take T) (hr.mono (by omega)) (by rfl) T.g__law_take T.F__law_take.kp T.b__law_take .nil pass0 (pa_cons (pv 0) (pa_cons (pv 1) (pa_cons (pe_callB call_len_seq (by rfl) T.n_len (by decide +kernel) (pa_cons (pv 6) pa_nil)) pa_nil)))) (fun _ _ => rfl)))
      (pss_one (ps_if (PW.pt (pw_and (pt_cmpR op_eq (pv 8) (pe_int) (nomark _)) (pw_and1 (pt_cmpR op_gt (pe_ix ix_list (pv 7) (pe_int) (fun _ _ => rfl)) (pe_int) (nomark _))))) (pss_one (ps_asg (pe_op op_sub (pe_ix ix_list (pv 7) (pe_int) (fun _ _ => rfl)) (pe_int)) (pg_sub (pv 7) (pe_int) set_list))) (pss_one (ps_if (PW.pt (pw_and (pt_cmpR op_eq (pv 8) (pe_int) (nomark _)) (pw_and1 (pt_cmpR op_gt (pe_ix ix_list (pv 7) (pe_int) (fun _ _ => rfl)) (pe_ix ix_list (pv 7) (pe_int) (fun _ _ => rfl)) (nomark _))))) (pss_one (ps_asg (pe_op op_sub (pe_ix ix_list (pv 7) (pe_int) (fun _ _ => rfl)) (pe_int)) (pg_sub (pv 7) (pe_int) set_list))) (pss_one (ps_if (PW.pt (pw_and (pt_cmpR op_eq (pv 8) (pe_int) (nomark _)) (pw_and1 (pt_cmpR op_gt (pe_ix ix_list (pv 7) (pe_int) (fun _ _ => rfl)) (pe_ix ix_list (pv 7) (pe_int) (fun _ _ => rfl)) (nomark _))))) (pss_one (ps_asg (pe_op op_sub (pe_ix ix_list (pv 7) (pe_int) (fun _ _ => rfl)) (pe_int)) (pg_sub (pv 7) (pe_int) set_list))) (pss_one (ps_if (pt_cmpR op_eq (pv 8) (pe_int) (nomark _)) (pss_one (ps_asg (pe_bl) (pg_sub (pv 7) (pe_int) set_list))) pss_nil))))))))) pss_nil)))))
      (pss_cons (ps_set (i := 9) sc__law_loosened.nd rfl (.inl rfl) (pe_dnewK))
      (pss_cons (ps_for PassesOwn.never rfl (pi_list (pv 3)) (pg_name (i := 10) sc__law_loosened.nd rfl (.inl rfl)) (pss_one (ps_dput (hu_of hr) (pv 9) (pv 10) (pe_dget (hu_of hr) (pv 2) (pv 10) (fun _ _ => rfl)) rfl)))
      (pss_cons (ps_dput (hu_of hr) (pv 9) (pv 4) (pe_lst (pa_cons (pv 5) (pa_cons (pv 6) pa_nil))) rfl)
      (pss_one (ps_ret (pv 9)))))))))))), ?_⟩
    have big : 100000 < sizeLine := by decide
    have lkv := pair_len' pk
    have ngt : gd ≠ t := fun z => by obtain ⟨k, e⟩ := D0.pl; rw [z, e] at hg; cases hg
    refine ⟨_, rfl, gd, kvs, rfl, hg, fun M nM => ?_⟩
    rw [keys_str pk]
    have nMt := D0.na nM
    have b1 : But t H (upd H M (.lst ((P.map (·.1)).map V.str))) := But.new nM
    have D1 := D0.same (same_new (o := .lst ((P.map (·.1)).map V.str)) nM)
    have hM1 : (upd H M (.lst ((P.map (·.1)).map V.str))) M = some (.lst ((P.map (·.1)).map V.str)) := upd_same
    revert b1 D1 hM1
    generalize upd H M (.lst ((P.map (·.1)).map V.str)) = H1
    intro b1 D1 hM1
    refine ⟨_, rfl, _, rfl, _, rfl, _, rfl, M, _, rfl, .inl (SqL.of hM1), d, t, _, rfl, D1, by rw [List.length_map, List.length_map]; omega, fun rr H2 r0 r1 D2 b12 => ?_⟩
    rw [List.length_map, List.length_map] at r1
    obtain ⟨jm, rfl⟩ := Int.eq_ofNat_of_zero_le r0
    obtain ⟨r, hr⟩ : ∃ r, P[jm]? = some r := ⟨_, List.getElem?_eq_getElem (by omega)⟩
    have mr := List.mem_of_getElem? hr
    have b2 := b1.trans b12
    refine ⟨_, _, _, _, rfl, rfl, SqL.of (b12 _ _ nMt hM1), atI_nat (v := .str r.1) (by rw [List.getElem?_map, List.getElem?_map, hr]; rfl), ?_⟩
    obtain ⟨kv, ev, _, q0, p0, us0, eq0, nq0, hq0, np0, hp0, pw0, l0⟩ := val_rdn pk nd hr
    have dgF : ∀ {H' : Hp}, But t H H' → DGet H' gd (.str r.1) (some (.ref q0)) := fun b => by
      have := DGet.k (k := .inr r.1) (b _ _ ngt hg)
      rw [ev, eq0] at this
      exact this
    have lr := lw r mr
    have l00 := pair_len' pw0
    have hM2 := b12 _ _ nMt hM1
    refine ⟨_, rfl, _, rfl, gd, _, rfl, dgF b2, _, _, _, _, rfl, rfl, SqL.of (b2 _ _ nq0 hq0), atI_nat (j := 0) rfl, ?_⟩
    -- the copies
    refine ⟨_, rfl, _, rfl, gd, _, rfl, dgF b2, _, _, _, _, rfl, rfl, SqL.of (b2 _ _ nq0 hq0), atI_nat (j := 1) rfl, p0, rfl, ⟨_, SqL.of (b2 _ _ np0 hp0)⟩, fun W hW => lc_list (K := K) (a := p0) (xs := us0) (fun i H' => ∃ ps : List Addr, Same H2 H' ∧ H' W = some (.lst (ps.map V.ref)) ∧ ps.Nodup ∧ (∀ p ∈ ps, H2 p = none ∧ p ≠ W ∧ ∃ x, H' p = some x) ∧ Paired (WyC H') ps (r.2.2.take i)) ⟨[], same_new hW, upd_same, List.nodup_nil, (fun _ h => nomatch h), .nil⟩ (fun i H' _ ⟨_, s, _⟩ => SqL.of (s _ _ (b2 _ _ np0 hp0))) ?_ ?_⟩
    · rintro i v H5 hv ⟨ps, s5, h5, ndp, al, pr⟩
      obtain ⟨wv, hwv, wq, rfl, nwt, hwq, adw⟩ := pair_get' pw0 hv
      have hi := (List.getElem?_eq_some_iff.mp hwv).1
      have lps : ps.length = i := by rw [pair_len' pr, List.length_take]; omega
      have hwq2 := b2 _ _ nwt hwq
      refine ⟨rfl, ?_⟩
      unfold tYes
      refine iteT ⟨_, rfl, wq, _, rfl, .inl (SqL.of (s5 _ _ hwq2)), fun u nu => ?_⟩
      have nuW : u ≠ W := (ne_of_none h5 nu).symm
      have s6 := same_new (o := LwO wv.1 wv.2.1 wv.2.2.1 wv.2.2.2) nu
      refine ⟨_, s6 _ _ h5, by rw [List.length_map]; omega, ps ++ [u], same_mut (s5.trans s6) hW, by rw [upd_same, List.map_append]; rfl, ?_, ?_, ?_⟩
      · refine List.nodup_append.mpr ⟨ndp, by simp, fun a ha b hb e => ?_⟩
        rw [List.mem_singleton] at hb
        obtain ⟨_, _, x, hx⟩ := al a ha
        rw [e, hb, nu] at hx; cases hx
      · intro a ha
        rcases List.mem_append.mp ha with ha | ha
        · obtain ⟨n1, n2, x, hx⟩ := al a ha
          exact ⟨n1, n2, x, by rw [upd_ne n2]; exact s6 _ _ hx⟩
        · rw [List.mem_singleton.mp ha]
          exact ⟨s5.free nu, nuW, _, by rw [upd_ne nuW]; exact upd_same⟩
      · rw [List.take_add_one, hwv, Option.toList_some]
        have n1 : ∀ a ∈ ps, a ≠ W := fun a ha => (al a ha).2.1
        refine pair_app' (pair_memL pr fun a k ha h => ⟨by rw [upd_ne (n1 a ha)]; exact s6 _ _ h.1, h.2⟩) (.cons ⟨by rw [upd_ne nuW]; exact upd_same, adw⟩ .nil)
    rintro H5 ⟨ps0, s5, h5W, ndp0, al0, pr0⟩
    rw [l00, List.take_length] at pr0
    have nWt : W ≠ t := D2.na hW
    have D5 := D2.same s5
    have b5 := b2.trans (But.of_same s5)
    have al : ∀ p ∈ ps0, H2 p = none ∧ p ≠ W := fun p hp => ⟨(al0 p hp).1, (al0 p hp).2.1⟩
    have nH : ∀ {p : Addr}, H2 p = none → H p = none := fun h => b2.free (D2.na h) h
    have lps := pair_len' pr0
    -- the choice
    refine ⟨_, rfl, _, rfl, d, t, 6, rfl, D5, by decide, fun ch H6 ch0 ch1 D6 b56 => ?_⟩
    have b6 := b5.trans b56
    have h6W := b56 _ _ nWt h5W
    have hM6 := b56 _ _ nMt (s5 _ _ hM2)
    have pr6 : Paired (WyC H6) ps0 r.2.2 := pair_memL pr0 fun p k hp h => ⟨b56 _ _ (D2.na (al p hp).1) h.1, h.2⟩
    clear al0 pr0 h5W b56 D5 b5
    refine ⟨fun σ' H' => ∃ (b' : Bool) (W' : Addr) (us : List V) (ws' : List Wv) (x7 : Option V), σ' = [some (.ref d), some (.ref t), some (.ref gd), some (.ref M), some (.str r.1), some (.bl b'), some (.ref W'), x7, some (.int ch), none, none] ∧ Dr K H' d t ∧ But t H H' ∧ H' M = some (.lst ((P.map (·.1)).map V.str)) ∧ H' W' = some (.lst us) ∧ W' ≠ t ∧ Paired (LwN t H') us ws' ∧ us.length ≤ 100 ∧ ws'.length ≤ B + 1 ∧ WkR r (r.1, b', ws'), ?_, ?_⟩
    · have lwn0 : Paired (LwN t H6) (ps0.map V.ref) r.2.2 := wyc_lwn pr6 fun p k hp h => ⟨D2.na (al p hp).1, h⟩
      refine ⟨_, rfl, rfl, _, rfl, iteD (fun c => ?_) (fun c => ?_)⟩
      · exact ⟨true, W, _, r.2.2, none, rfl, D6, b6, hM6, h6W, nWt, lwn0, by rw [List.length_map]; omega, by omega, rfl, (fun _ => rfl), fun w hw => ⟨w, hw, leW_refl' w⟩⟩
      refine ⟨_, rfl, rfl, _, rfl, iteD (fun c1 => ?_) (fun c1 => ?_)⟩
      · refine ⟨_, rfl, .inl ⟨rfl, _, SqL.of h6W⟩, _, rfl, _, rfl, d, t, rfl, D6, fun wq wa wb wc we H7 adw D7 b7 nwq hwq => ?_⟩
        have h7W := b7 _ _ nWt h6W
        have nwt : wq ≠ t := D6.na nwq
        have nwW : wq ≠ W := (ne_of_none h6W nwq).symm
        have nMW : M ≠ W := ne_of_none hM2 hW
        refine ⟨_, _, _, rfl, rfl, h7W, by rw [List.length_map]; omega, r.2.1, W, _, r.2.2 ++ [(wa, wb, wc, we)], none, rfl, D7.other But.upd (fun z => by obtain ⟨ns, e⟩ := D2.ds; rw [z, hW] at e; cases e) nWt.symm, (b6.trans b7).mut (nH hW), by rw [upd_ne nMW]; exact b7 _ _ nMt hM6, upd_same, nWt, ?_, by rw [List.length_append, List.length_map]; simp; omega, by rw [List.length_append]; simp; omega, rfl, id, fun w hw => ⟨w, List.mem_append.mpr (.inl hw), leW_refl' w⟩⟩
        have up : ∀ {a : Addr} {xs : List V}, a ≠ t → a ≠ W → H6 a = some (.lst xs) → (upd H7 W (.lst (ps0.map V.ref ++ [.ref wq]))) a = some (.lst xs) := fun n1 n2 h => by rw [upd_ne n2]; exact b7 _ _ n1 h
        exact pair_app' (wyc_lwn pr6 fun p k hp h => ⟨D2.na (al p hp).1, up (D2.na (al p hp).1) (al p hp).2 h⟩) (.cons ⟨wq, rfl, nwt, by rw [upd_ne nwW]; exact hwq, adw⟩ .nil)
      have same : ∀ {H' : Hp} {x7 : Option V}, Dr K H' d t → But t H6 H' → ∃ (b' : Bool) (W' : Addr) (us : List V) (ws' : List Wv) (x7' : Option V), [some (V.ref d), some (.ref t), some (.ref gd), some (.ref M), some (.str r.1), some (.bl r.2.1), some (.ref W), x7, some (.int ch), none, none] = [some (V.ref d), some (.ref t), some (.ref gd), some (.ref M), some (.str r.1), some (.bl b'), some (.ref W'), x7', some (.int ch), none, none] ∧ Dr K H' d t ∧ But t H H' ∧ H' M = some (.lst ((P.map (·.1)).map V.str)) ∧ H' W' = some (.lst us) ∧ W' ≠ t ∧ Paired (LwN t H') us ws' ∧ us.length ≤ 100 ∧ ws'.length ≤ B + 1 ∧ WkR r (r.1, b', ws') := fun D' b' => ⟨r.2.1, W, _, r.2.2, _, rfl, D', b6.trans b', b' _ _ nMt hM6, b' _ _ nWt h6W, nWt, L2.Paired.mapP lwn0 fun _ _ h => h.keep (.but b'), by rw [List.length_map]; omega, by omega, rfl, id, fun w hw => ⟨w, hw, leW_refl' w⟩⟩
      refine ⟨_, rfl, W, _, rfl, .inl (SqL.of h6W), _, _, rfl, rfl, _, rfl, iteD (fun c2 => ?_) (fun c2 => same D6 (But.refl _ _))⟩
      rw [List.length_map] at c2
      refine ⟨_, rfl, _, rfl, _, rfl, _, rfl, W, _, rfl, .inl (SqL.of h6W), d, t, _, rfl, D6, by rw [List.length_map]; omega, fun r2 H7 r20 r21 D7 b67 => ?_⟩
      rw [List.length_map] at r21
      obtain ⟨j, rfl⟩ := Int.eq_ofNat_of_zero_le r20
      obtain ⟨wq, hwq⟩ : ∃ wq, ps0[j]? = some wq := ⟨_, List.getElem?_eq_getElem (by omega)⟩
      refine ⟨_, _, _, _, rfl, rfl, SqL.of (b67 _ _ nWt h6W), atI_nat (v := .ref wq) (by rw [List.getElem?_map, hwq]; rfl), ?_⟩
      obtain ⟨nw2, nwW⟩ := al wq (List.mem_of_getElem? hwq)
      have nwt : wq ≠ t := D2.na nw2
      have pr7 : Paired (WyC H7) ps0 r.2.2 := pair_memL pr6 fun p k hp h => ⟨b67 _ _ (D2.na (al p hp).1) h.1, h.2⟩
      obtain ⟨k, hk, hwk, adk⟩ := pair_get' pr7 hwq
      have mk := List.mem_of_getElem? hk
      have hwk : H7 wq = some (.lst [.int (k.1 : Nat), .int (k.2.1 : Nat), .int (k.2.2.1 : Nat), .bl k.2.2.2]) := hwk
      have hM7 := b67 _ _ nMt hM6
      have h7W := b67 _ _ nWt h6W
      have nMw : M ≠ wq := ne_of_none hM2 nw2
      have fin : ∀ (k' : Wv), AdW k' → leW k k' = true → ∃ (b' : Bool) (W' : Addr) (us : List V) (ws' : List Wv) (x7' : Option V), [some (V.ref d), some (.ref t), some (.ref gd), some (.ref M), some (.str r.1), some (.bl r.2.1), some (.ref W), some (.ref wq), some (.int ch), none, none] = [some (V.ref d), some (.ref t), some (.ref gd), some (.ref M), some (.str r.1), some (.bl b'), some (.ref W'), x7', some (.int ch), none, none] ∧ Dr K (upd H7 wq (LwO k'.1 k'.2.1 k'.2.2.1 k'.2.2.2)) d t ∧ But t H (upd H7 wq (LwO k'.1 k'.2.1 k'.2.2.1 k'.2.2.2)) ∧ (upd H7 wq (LwO k'.1 k'.2.1 k'.2.2.1 k'.2.2.2)) M = some (.lst ((P.map (·.1)).map V.str)) ∧ (upd H7 wq (LwO k'.1 k'.2.1 k'.2.2.1 k'.2.2.2)) W' = some (.lst us) ∧ W' ≠ t ∧ Paired (LwN t (upd H7 wq (LwO k'.1 k'.2.1 k'.2.2.1 k'.2.2.2))) us ws' ∧ us.length ≤ 100 ∧ ws'.length ≤ B + 1 ∧ WkR r (r.1, b', ws') := fun k' ad le => by
        refine ⟨r.2.1, W, ps0.map V.ref, r.2.2.set j k', _, rfl, D7.other But.upd (fun z => ?_) nwt.symm, (b6.trans b67).mut (nH nw2), by rw [upd_ne nMw]; exact hM7, by rw [upd_ne nwW.symm]; exact h7W, nWt, ?_, by rw [List.length_map]; omega, by rw [List.length_set]; omega, rfl, id, fun w hw => ?_⟩
        · obtain ⟨ns, e⟩ := D2.ds
          rw [z, nw2] at e; cases e
        · exact wyc_lwn (wyc_set ad pr7 ndp0 hwq) fun p k hp h => ⟨D2.na (al p hp).1, h⟩
        · obtain ⟨i, hi⟩ := List.mem_iff_getElem?.mp hw
          by_cases e : i = j
          · subst e
            rw [hk] at hi
            obtain rfl := Option.some.inj hi
            exact ⟨k', List.mem_of_getElem? (List.getElem?_set_self (List.getElem?_eq_some_iff.mp hk).1), le⟩
          · exact ⟨w, List.mem_of_getElem? (by rw [List.getElem?_set_ne (fun z => e z.symm)]; exact hi), leW_refl' w⟩
      obtain ⟨a1, a2, a3⟩ := id adk
      have keep := same (H' := H7) (x7 := some (V.ref wq)) D7 b67
      -- owned
      refine ⟨_, rfl, rfl, _, rfl, iteD (fun d2 => ?_) (fun d2 => ?_)⟩
      · refine ⟨_, rfl, _, _, _, _, rfl, rfl, SqL.of hwk, atI_nat (j := 1) rfl, _, _, rfl, rfl, _, rfl, iteD (fun e2 => ?_) (fun e2 => ?_)⟩
        · refine ⟨_, rfl, _, _, _, _, rfl, rfl, SqL.of hwk, atI_nat (j := 1) rfl, _, _, rfl, rfl, _, rfl, wq, _, 1, 1, rfl, rfl, hwk, rfl, ?_⟩
          have := fin (k.1, k.2.1 - 1, k.2.2.1, k.2.2.2) ⟨by show k.2.1 - 1 ≤ k.1; omega, a2, a3⟩ (leW_iff.mpr ⟨id, Nat.le_refl _, by show k.2.1 - 1 ≤ k.2.1; omega, Nat.le_refl _⟩)
          have ee : ((k.2.1 - 1 : Nat) : Int) = (k.2.1 : Nat) - 1 := by omega
          unfold LwO at this
          simp only [ee] at this
          exact this
        · have n3 : ¬ (V.int ch = V.int 3) := by rw [d2]; decide
          have n4 : ¬ (V.int ch = V.int 4) := by rw [d2]; decide
          have n5 : ¬ (V.int ch = V.int 5) := by rw [d2]; decide
          exact ⟨_, rfl, rfl, _, rfl, iteNo (decide_eq_false n3) (iteF ⟨_, rfl, rfl, _, rfl, iteNo (decide_eq_false n4) (iteF ⟨_, rfl, rfl, _, rfl, iteNo (decide_eq_false n5) keep⟩)⟩)⟩
      refine iteF ?_
      -- held
      refine ⟨_, rfl, rfl, _, rfl, iteD (fun d3 => ?_) (fun d3 => ?_)⟩
      · refine ⟨_, rfl, _, _, _, _, rfl, rfl, SqL.of hwk, atI_nat (j := 0) rfl, _, rfl, _, _, _, _, rfl, rfl, SqL.of hwk, atI_nat (j := 1) rfl, _, _, rfl, rfl, _, rfl, iteD (fun e2 => ?_) (fun e2 => ?_)⟩
        · refine ⟨_, rfl, _, _, _, _, rfl, rfl, SqL.of hwk, atI_nat (j := 0) rfl, _, _, rfl, rfl, _, rfl, wq, _, 0, 0, rfl, rfl, hwk, rfl, ?_⟩
          have := fin (k.1 - 1, k.2.1, k.2.2.1, k.2.2.2) ⟨by show k.2.1 ≤ k.1 - 1; omega, by show k.1 - 1 ≤ k.2.2.1; omega, a3⟩ (leW_iff.mpr ⟨id, by show k.1 - 1 ≤ k.1; omega, Nat.le_refl _, Nat.le_refl _⟩)
          have ee : ((k.1 - 1 : Nat) : Int) = (k.1 : Nat) - 1 := by omega
          unfold LwO at this
          simp only [ee] at this
          exact this
        · have n4 : ¬ (V.int ch = V.int 4) := by rw [d3]; decide
          have n5 : ¬ (V.int ch = V.int 5) := by rw [d3]; decide
          exact ⟨_, rfl, rfl, _, rfl, iteNo (decide_eq_false n4) (iteF ⟨_, rfl, rfl, _, rfl, iteNo (decide_eq_false n5) keep⟩)⟩
      refine iteF ?_
      -- seen
      refine ⟨_, rfl, rfl, _, rfl, iteD (fun d4 => ?_) (fun d4 => ?_)⟩
      · refine ⟨_, rfl, _, _, _, _, rfl, rfl, SqL.of hwk, atI_nat (j := 2) rfl, _, rfl, _, _, _, _, rfl, rfl, SqL.of hwk, atI_nat (j := 0) rfl, _, _, rfl, rfl, _, rfl, iteD (fun e2 => ?_) (fun e2 => ?_)⟩
        · refine ⟨_, rfl, _, _, _, _, rfl, rfl, SqL.of hwk, atI_nat (j := 2) rfl, _, _, rfl, rfl, _, rfl, wq, _, 2, 2, rfl, rfl, hwk, rfl, ?_⟩
          have := fin (k.1, k.2.1, k.2.2.1 - 1, k.2.2.2) ⟨a1, by show k.1 ≤ k.2.2.1 - 1; omega, by show k.2.2.1 - 1 < 4; omega⟩ (leW_iff.mpr ⟨id, Nat.le_refl _, Nat.le_refl _, by show k.2.2.1 - 1 ≤ k.2.2.1; omega⟩)
          have ee : ((k.2.2.1 - 1 : Nat) : Int) = (k.2.2.1 : Nat) - 1 := by omega
          unfold LwO at this
          simp only [ee] at this
          exact this
        · have n5 : ¬ (V.int ch = V.int 5) := by rw [d4]; decide
          exact ⟨_, rfl, rfl, _, rfl, iteNo (decide_eq_false n5) keep⟩
      refine iteF ?_
      refine ⟨_, rfl, rfl, _, rfl, iteD (fun d5 => ?_) (fun d5 => keep)⟩
      exact ⟨_, rfl, wq, _, 3, 3, rfl, rfl, hwk, rfl, fin (k.1, k.2.1, k.2.2.1, false) ⟨a1, a2, a3⟩ (leW_iff.mpr ⟨(fun e => by cases e), Nat.le_refl _, Nat.le_refl _, Nat.le_refl _⟩)⟩
    rintro _ H7 ⟨b', W', us, ws', x7, rfl, D7, b7, hM7, hW7, nWt', pw7, lus, lws, wk⟩
    refine fun o no => ?_
    have not' : o ≠ t := D7.na no
    have no0 : H o = none := b7.free not' no
    have nod : d ≠ o := fun z => by obtain ⟨ns, e⟩ := D7.ds; rw [z, no] at e; cases e
    have s8 := same_new (o := .dK []) no
    have ho8 : (upd H7 o (.dK [])) o = some (.dK []) := upd_same
    have D8 := D7.same s8
    revert s8 ho8 D8
    generalize upd H7 o (.dK []) = H8
    intro s8 ho8 D8
    have b8 := b7.trans (But.of_same s8)
    have nMo : M ≠ o := ne_of_none hM7 no
    refine ⟨_, rfl, M, rfl, ⟨_, SqL.of (s8 _ _ hM7)⟩, for_list (K := K) (a := M) (xs := (P.map (·.1)).map V.str) (fun i σ H' => ∃ (x10 : Option V), σ = [some (.ref d), some (.ref t), some (.ref gd), some (.ref M), some (.str r.1), some (.bl b'), some (.ref W'), x7, some (.int ch), some (.ref o), x10] ∧ Dr K H' d t ∧ But o H8 H' ∧ But t H H' ∧ H' o = some (.dK (kvs.take i))) ⟨_, rfl, D8, But.refl _ _, b8, ho8⟩ (fun i σ H' _ ⟨_, _, _, b, _⟩ => SqL.of (b _ _ nMo (s8 _ _ hM7))) ?_ ?_⟩
    · rintro i v σ H9 hv ⟨x10, rfl, D9, b89, b9, ho9⟩
      rw [List.getElem?_map, List.getElem?_map] at hv
      obtain ⟨ri, hri, rfl⟩ : ∃ ri, P[i]? = some ri ∧ v = .str ri.1 := by
        cases e : P[i]? with
        | none => rw [e] at hv; cases hv
        | some r => rw [e] at hv; exact ⟨r, rfl, (Option.some.inj hv).symm⟩
      obtain ⟨kvi, hkv, _⟩ := pair_back pk hri
      have evi := val_ix pk nd hri hkv
      have dgi := DGet.k (k := .inr ri.1) (b9 _ _ ngt hg)
      rw [evi] at dgi
      have li := (List.getElem?_eq_some_iff.mp hkv).1
      have nz : ri.1 ∉ (P.take i).map (·.1) := by
        rw [List.map_take]
        exact (nodup_take.mp nd) i _ (by rw [List.getElem?_map, hri]; rfl)
      refine ⟨_, rfl, _, rfl, gd, _, rfl, dgi, _, rfl, _, rfl, o, _, rfl, DPut.k (k := .inr ri.1) ho9 (by rw [List.length_take]; omega), ?_⟩
      rw [L2.putK_new _ (rd_none (pair_takeP i pk) nz)]
      refine ⟨_, rfl, D9.other But.upd nod not'.symm, b89.trans But.upd, b9.mut no0, ?_⟩
      obtain ⟨_, hek, _⟩ := pair_back pk hri
      have ek : kvi.1 = .inr ri.1 := by
        obtain ⟨y, hy, h⟩ := pair_get' pk hkv
        rw [hri] at hy
        obtain rfl := Option.some.inj hy
        exact h.1
      rw [upd_same, List.take_add_one, hkv, Option.toList_some, ← ek]
    rintro σ H9 ⟨x10, rfl, D9, b89, b9, ho9⟩
    rw [List.length_map, List.length_map, ← lkv, List.take_length] at ho9
    refine ⟨_, rfl, _, rfl, by show 2 ≤ sizeLine; decide, fun u nu => ⟨_, rfl, _, rfl, o, _, rfl, DPut.k (k := .inr r.1) (same_new nu _ _ ho9) (by omega), ?_⟩⟩
    have sa := same_new (o := .lst [.bl b', .ref W']) nu
    have nut : u ≠ t := D9.na nu
    have nuo : u ≠ o := (ne_of_none ho9 nu).symm
    have Da := (D9.same sa).other (But.upd (a := o) (o := .dK (putK kvs (.inr r.1) (.ref u)))) nod not'.symm
    have ba := (b9.trans (But.of_same sa)).mut (o := .dK (putK kvs (.inr r.1) (.ref u))) no0
    have hu : (upd (upd H9 u (.lst [.bl b', .ref W'])) o (.dK (putK kvs (.inr r.1) (.ref u)))) u = some (.lst [.bl b', .ref W']) := by rw [upd_ne nuo]; exact upd_same
    have hoa : (upd (upd H9 u (.lst [.bl b', .ref W'])) o (.dK (putK kvs (.inr r.1) (.ref u)))) o = some (.dK (putK kvs (.inr r.1) (.ref u))) := upd_same
    have lk : ∀ a xs, H7 a = some (.lst xs) → (upd (upd H9 u (.lst [.bl b', .ref W'])) o (.dK (putK kvs (.inr r.1) (.ref u)))) a = some (.lst xs) := fun a xs h => by
      have na : a ≠ o := ne_of_none h no
      rw [upd_ne na]
      exact sa _ _ (b89 _ _ na (s8 _ _ h))
    revert Da ba hu hoa lk
    generalize upd (upd H9 u (.lst [.bl b', .ref W'])) o (.dK (putK kvs (.inr r.1) (.ref u))) = Ha
    intro Da ba hu hoa lk
    have mk : r.1 ∈ P.map (·.1) := List.mem_map.mpr ⟨r, mr, rfl⟩
    have pn : Paired (RdN t Ha) (putK kvs (.inr r.1) (.ref u)) (setR P (r.1, b', ws')) := rdn_put (r := (r.1, b', ws')) (L2.Paired.mapP pk fun _ _ h => h.keep (.but ba)) mk ⟨rfl, u, W', us, rfl, nut, hu, nWt', lk _ _ hW7, L2.Paired.mapP pw7 fun _ _ h => h.keep fun a xs _ e => lk a xs e, lus⟩
    have uniq : ∀ x ∈ P, x.1 = r.1 → x = r := fun x hx e => by
      obtain ⟨ix, hix⟩ := List.mem_iff_getElem?.mp hx
      have h1 := look_at nd hix
      have h2 := look_at nd hr
      rw [e, h2] at h1
      exact (Option.some.inj h1).symm
    refine ⟨_, rfl, q (setR P (r.1, b', ws')) _ o Ha ?_ (fun x hx => ?_) (weak_set fun x hx e => by rw [uniq x hx e]; exact wk) Da ba no0 hoa pn⟩
    · unfold setR
      rw [List.map_map]
      refine List.map_congr_left fun x _ => ?_
      show (if x.1 = r.1 then ((r.1, b', ws') : Rl) else x).1 = x.1
      split
      · rename_i c; exact c.symm
      · rfl
    · unfold setR at hx
      obtain ⟨y, hy, rfl⟩ := List.mem_map.mp hx
      show (if y.1 = r.1 then ((r.1, b', ws') : Rl) else y).2.2.length ≤ B + 1
      split
      · exact lws
      · have := lw y hy; omega
end
end My

namespace My
open PySem L2
def LeK (k k1 : Wv) : Prop := k.1 ≤ k1.1 ∧ k.2.1 ≤ k1.2.1 ∧ k.2.2.1 ≤ k1.2.2.1 ∧ k1.1 < 4 ∧ k1.2.1 < 4 ∧ k1.2.2.1 < 4 ∧ (k.2.2.2 = true → k1.2.2.2 = true)
theorem pair_dropP {α β : Type} {F : α → β → Prop} : ∀ {l : List α} {m : List β} (n : Nat), Paired F l m → Paired F (l.drop n) (m.drop n)
  | _, _, 0, h => h
  | _, _, n + 1, .nil => .nil
  | _, _, n + 1, .cons _ t => pair_dropP n t
section
variable {P : Program} {w : World} {K : PySem.W.Frag} {mg : Str → Option Value} {base : Heap}
set_option maxHeartbeats 32000000 in
set_option pp.maxSteps 900 in
theorem ok__law_tightened (T : Txt K mg) : FnOk P w K mg base CX0 6 T.a__law_tightened T.fd__law_tightened ["_law_draws_here", "_law_at", "_law_rules_here"] (spLVar K fun P P' => Weak P' P) := by
  refine T.F__law_tightened.ok sc__law_tightened (fun vs H Q E h => ?_) (fun cdv A outer s H vs Q E hr h => ?_)
  · obtain ⟨d, t, gd, kvs, P, B, rfl, _⟩ := h; rfl
  · obtain ⟨d, t, gd, kvs, P, B, rfl, D0, hg, pk, nd, lP1, lP, lB, lw, q⟩ := h
    refine ⟨_, (pss_cons (ps_set (i := 3) sc__law_tightened.nd rfl (.inl rfl) (pe_callTy (call_list_dK rfl) (by rfl) T.n_list (by decide +kernel) (pa_cons (pv 2) pa_nil)))
      (pss_cons (ps_set (i := 4) sc__law_tightened.nd rfl (.inl rfl) (pe_ix ix_list (pv 3) (pe_call (ok__law_take T) (hr.mono (by omega)) (by rfl) T.g__law_take T.F__law_take.kp T.b__law_take .nil pass0 (pa_cons (pv 0) (pa_cons (pv 1) (pa_cons (pe_callB call_len_seq (by rfl) T.n_len (by decide +kernel) (pa_cons (pv 3) pa_nil)) pa_nil)))) (fun _ _ => rfl)))
      (pss_cons (ps_set (i := 5) sc__law_tightened.nd rfl (.inl rfl) (pe_ix ix_list (pe_dget (hu_of hr) (pv 2) (pv 4) (fun _ _ => rfl)) (pe_int) (fun _ _ => rfl)))
      (pss_cons (ps_setLc (i := 6) (own := [("_law_way_here", 7)]) (g := (gName 7)) (by rfl) sc__law_tightened.nd rfl rfl (sw_true rfl rfl rfl (by decide +kernel)) (pi_list (pe_ix ix_list (pe_dget (hu_of hr) (pv 2) (pv 4) (fun _ _ => rfl)) (pe_int) (fun _ _ => rfl))) (blkOk_by (own := [("_law_way_here", 7)]) (N := ["_law_draws_here", "_law_at", "_law_rules_here", "_law_marks_here", "_law_mark", "_law_begin", "_law_ways", "_law_way_here", "_law_choice", "_law_changed_here", "_law_name"]) (sc := defScope S__law_tightened) (by decide +kernel)) (fun _ _ _ _ _ => (pg_name (i := 7) sc__law_tightened.nd rfl (by first | exact .inl rfl | exact .inr rfl))) (fun _ _ _ _ _ => pts_nil) (fun _ _ _ _ _ => (pe_callTy (listK (K := K) rfl) (by rfl) T.n_list (by decide +kernel) (pa_cons (pv 7) pa_nil))))
      (pss_cons (ps_set (i := 8) sc__law_tightened.nd rfl (.inl rfl) (pe_call (ok__law_take T) (hr.mono (by omega)) (by rfl) T.g__law_take T.F__law_take.kp T.b__law_take .nil pass0 (pa_cons (pv 0) (pa_cons (pv 1) (pa_cons (pe_int) pa_nil)))))
      (C8.pss_cut (ps_if (pt_cmpR op_eq (pv 8) (pe_int) (nomark _)) (pss_one (ps_set (i := 5) sc__law_tightened.nd rfl (.inl rfl) (pe_bl))) (pss_one (ps_if (pt_cmpR op_eq (pv 8) (pe_int) (nomark _)) (pss_one (ps_set (i := 6) sc__law_tightened.nd rfl (.inl rfl) (pe_slice sl_list (pv 6) (po_some (pe_int)) po_none))) (pss_one (ps_if (pt_cmpR op_gt (pe_callB call_len_seq (by rfl) T.n_len (by decide +kernel) (pa_cons (pv 6) pa_nil)) (pe_int) (nomark _)) (pss_cons (ps_set (i := 7) sc__law_tightened.nd rfl (.inl rfl) (pe_ix ix_list (pv 6) (pe_call (ok__law_take T) (hr.mono (by omega)) (by rfl) T.g__law_take T.F__law_take.kp T.b__law_take .nil pass0 (pa_cons (pv 0) (pa_cons (pv 1) (pa_cons (pe_callB call_len_seq (by rfl) T.n_len (by decide +kernel) (pa_cons (pv 6) pa_nil)) pa_nil)))) (fun _ _ => rfl)))
      (C8.pss_cut (ps_if (pt_cmpR op_eq (pv 8) (pe_int) (nomark _)) (pss_one (ps_asg (pe_bl) (pg_sub (pv 7) (pe_int) set_list))) (pss_one (ps_if (pt_cmpR op_lt (pe_ix ix_list (pv 7) (pe_op op_sub (pv 8) (pe_int)) (fun _ _ => rfl)) (pe_int) (nomark _)) (pss_one (ps_asg (pe_op op_add (pe_ix ix_list (pv 7) (pe_op op_sub (pv 8) (pe_int)) (fun _ _ => rfl)) (pe_int)) (pg_sub (pv 7) (pe_op op_sub (pv 8) (pe_int)) set_list))) pss_nil)))
      (C8.pss_cut (ps_if (pt_cmpR op_lt (pe_ix ix_list (pv 7) (pe_int) (fun _ _ => rfl)) (pe_ix ix_list (pv 7) (pe_int) (fun _ _ => rfl)) (nomark _)) (pss_one (ps_asg (pe_ix ix_list (pv 7) (pe_int) (fun _ _ => rfl)) (pg_sub (pv 7) (pe_int) set_list))) pss_nil)
      (pss_one (ps_if (pt_cmpR op_lt (pe_ix ix_list (pv 7) (pe_int) (fun _ _ => rfl)) (pe_ix ix_list (pv 7) (pe_int) (fun _ _ => rfl)) (nomark _)) (pss_one (ps_asg (pe_ix ix_list (pv 7) (pe_int) (fun _ _ => rfl)) (pg_sub (pv 7) (pe_int) set_list))) pss_nil))))) pss_nil)))))
      (pss_cons (ps_set (i := 9) sc__law_tightened.nd rfl (.inl rfl) (pe_dnewK))
      (pss_cons (ps_for PassesOwn.never rfl (pi_list (pv 3)) (pg_name (i := 10) sc__law_tightened.nd rfl (.inl rfl)) (pss_one (ps_dput (hu_of hr) (pv 9) (pv 10) (pe_dget (hu_of hr) (pv 2) (pv 10) (fun _ _ => rfl)) rfl)))
      (pss_cons (ps_dput (hu_of hr) (pv 9) (pv 4) (pe_lst (pa_cons (pv 5) (pa_cons (pv 6) pa_nil))) rfl)
      (pss_one (ps_ret (pv 9)))))))))))), ?_⟩
    have big : 100000 < sizeLine := by decide
    have lkv := pair_len' pk
    have ngt : gd ≠ t := fun z => by obtain ⟨k, e⟩ := D0.pl; rw [z, e] at hg; cases hg
    refine ⟨_, rfl, gd, kvs, rfl, hg, fun M nM => ?_⟩
    rw [keys_str pk]
    have nMt := D0.na nM
    have b1 : But t H (upd H M (.lst ((P.map (·.1)).map V.str))) := But.new nM
    have D1 := D0.same (same_new (o := .lst ((P.map (·.1)).map V.str)) nM)
    have hM1 : (upd H M (.lst ((P.map (·.1)).map V.str))) M = some (.lst ((P.map (·.1)).map V.str)) := upd_same
    revert b1 D1 hM1
    generalize upd H M (.lst ((P.map (·.1)).map V.str)) = H1
    intro b1 D1 hM1
    refine ⟨_, rfl, _, rfl, _, rfl, _, rfl, M, _, rfl, .inl (SqL.of hM1), d, t, _, rfl, D1, by rw [List.length_map, List.length_map]; omega, fun rr H2 r0 r1 D2 b12 => ?_⟩
    rw [List.length_map, List.length_map] at r1
    obtain ⟨jm, rfl⟩ := Int.eq_ofNat_of_zero_le r0
    obtain ⟨r, hr⟩ : ∃ r, P[jm]? = some r := ⟨_, List.getElem?_eq_getElem (by omega)⟩
    have mr := List.mem_of_getElem? hr
    have b2 := b1.trans b12
    refine ⟨_, _, _, _, rfl, rfl, SqL.of (b12 _ _ nMt hM1), atI_nat (v := .str r.1) (by rw [List.getElem?_map, List.getElem?_map, hr]; rfl), ?_⟩
    obtain ⟨kv, ev, _, q0, p0, us0, eq0, nq0, hq0, np0, hp0, pw0, l0⟩ := val_rdn pk nd hr
    have dgF : ∀ {H' : Hp}, But t H H' → DGet H' gd (.str r.1) (some (.ref q0)) := fun b => by
      have := DGet.k (k := .inr r.1) (b _ _ ngt hg)
      rw [ev, eq0] at this
      exact this
    have lr := lw r mr
    have l00 := pair_len' pw0
    have hM2 := b12 _ _ nMt hM1
    refine ⟨_, rfl, _, rfl, gd, _, rfl, dgF b2, _, _, _, _, rfl, rfl, SqL.of (b2 _ _ nq0 hq0), atI_nat (j := 0) rfl, ?_⟩
    -- the copies
    refine ⟨_, rfl, _, rfl, gd, _, rfl, dgF b2, _, _, _, _, rfl, rfl, SqL.of (b2 _ _ nq0 hq0), atI_nat (j := 1) rfl, p0, rfl, ⟨_, SqL.of (b2 _ _ np0 hp0)⟩, fun W hW => lc_list (K := K) (a := p0) (xs := us0) (fun i H' => ∃ ps : List Addr, Same H2 H' ∧ H' W = some (.lst (ps.map V.ref)) ∧ ps.Nodup ∧ (∀ p ∈ ps, H2 p = none ∧ p ≠ W ∧ ∃ x, H' p = some x) ∧ Paired (WyC H') ps (r.2.2.take i)) ⟨[], same_new hW, upd_same, List.nodup_nil, (fun _ h => nomatch h), .nil⟩ (fun i H' _ ⟨_, s, _⟩ => SqL.of (s _ _ (b2 _ _ np0 hp0))) ?_ ?_⟩
    · rintro i v H5 hv ⟨ps, s5, h5, ndp, al, pr⟩
      obtain ⟨wv, hwv, wq, rfl, nwt, hwq, adw⟩ := pair_get' pw0 hv
      have hi := (List.getElem?_eq_some_iff.mp hwv).1
      have lps : ps.length = i := by rw [pair_len' pr, List.length_take]; omega
      have hwq2 := b2 _ _ nwt hwq
      refine ⟨rfl, ?_⟩
      unfold tYes
      refine iteT ⟨_, rfl, wq, _, rfl, .inl (SqL.of (s5 _ _ hwq2)), fun u nu => ?_⟩
      have nuW : u ≠ W := (ne_of_none h5 nu).symm
      have s6 := same_new (o := LwO wv.1 wv.2.1 wv.2.2.1 wv.2.2.2) nu
      refine ⟨_, s6 _ _ h5, by rw [List.length_map]; omega, ps ++ [u], same_mut (s5.trans s6) hW, by rw [upd_same, List.map_append]; rfl, ?_, ?_, ?_⟩
      · refine List.nodup_append.mpr ⟨ndp, by simp, fun a ha b hb e => ?_⟩
        rw [List.mem_singleton] at hb
        obtain ⟨_, _, x, hx⟩ := al a ha
        rw [e, hb, nu] at hx; cases hx
      · intro a ha
        rcases List.mem_append.mp ha with ha | ha
        · obtain ⟨n1, n2, x, hx⟩ := al a ha
          exact ⟨n1, n2, x, by rw [upd_ne n2]; exact s6 _ _ hx⟩
        · rw [List.mem_singleton.mp ha]
          exact ⟨s5.free nu, nuW, _, by rw [upd_ne nuW]; exact upd_same⟩
      · rw [List.take_add_one, hwv, Option.toList_some]
        have n1 : ∀ a ∈ ps, a ≠ W := fun a ha => (al a ha).2.1
        refine pair_app' (pair_memL pr fun a k ha h => ⟨by rw [upd_ne (n1 a ha)]; exact s6 _ _ h.1, h.2⟩) (.cons ⟨by rw [upd_ne nuW]; exact upd_same, adw⟩ .nil)
    rintro H5 ⟨ps0, s5, h5W, ndp0, al0, pr0⟩
    rw [l00, List.take_length] at pr0
    have nWt : W ≠ t := D2.na hW
    have D5 := D2.same s5
    have b5 := b2.trans (But.of_same s5)
    have al : ∀ p ∈ ps0, H2 p = none ∧ p ≠ W := fun p hp => ⟨(al0 p hp).1, (al0 p hp).2.1⟩
    have nH : ∀ {p : Addr}, H2 p = none → H p = none := fun h => b2.free (D2.na h) h
    have lps := pair_len' pr0
    -- the choice
    refine ⟨_, rfl, _, rfl, d, t, 6, rfl, D5, by decide, fun ch H6 ch0 ch1 D6 b56 => ?_⟩
    have b6 := b5.trans b56
    have h6W := b56 _ _ nWt h5W
    have hM6 := b56 _ _ nMt (s5 _ _ hM2)
    have pr6 : Paired (WyC H6) ps0 r.2.2 := pair_memL pr0 fun p k hp h => ⟨b56 _ _ (D2.na (al p hp).1) h.1, h.2⟩
    clear al0 pr0 h5W b56 D5 b5
    refine ⟨fun σ' H' => ∃ (b' : Bool) (W' : Addr) (us : List V) (ws' : List Wv) (x7 : Option V), σ' = [some (.ref d), some (.ref t), some (.ref gd), some (.ref M), some (.str r.1), some (.bl b'), some (.ref W'), x7, some (.int ch), none, none] ∧ Dr K H' d t ∧ But t H H' ∧ H' M = some (.lst ((P.map (·.1)).map V.str)) ∧ H' W' = some (.lst us) ∧ W' ≠ t ∧ Paired (LwN t H') us ws' ∧ us.length ≤ 100 ∧ ws'.length ≤ B + 1 ∧ WkR (r.1, b', ws') r, ?_, ?_⟩
    · have lwn0 : Paired (LwN t H6) (ps0.map V.ref) r.2.2 := wyc_lwn pr6 fun p k hp h => ⟨D2.na (al p hp).1, h⟩
      refine ⟨_, rfl, rfl, _, rfl, iteD (fun c => ?_) (fun c => ?_)⟩
      · exact ⟨false, W, _, r.2.2, none, rfl, D6, b6, hM6, h6W, nWt, lwn0, by rw [List.length_map]; omega, by omega, rfl, (fun e => by cases e), fun w hw => ⟨w, hw, leW_refl' w⟩⟩
      refine ⟨_, rfl, rfl, _, rfl, iteD (fun c1 => ?_) (fun c1 => ?_)⟩
      · refine ⟨_, rfl, _, rfl, W, _, rfl, SqL.of h6W, fun W2 nW2 => ?_⟩
        rw [show (1 : Int) = ((1 : Nat) : Int) from rfl, cut_from]
        have s7 := same_new (o := .lst ((ps0.map V.ref).drop 1)) nW2
        exact ⟨r.2.1, W2, _, r.2.2.drop 1, none, rfl, D6.same s7, b6.trans (But.of_same s7), s7 _ _ hM6, upd_same, D6.na nW2, pair_dropP 1 (L2.Paired.mapP lwn0 fun _ _ h => h.keep (.same s7)), by rw [List.length_drop, List.length_map]; omega, by rw [List.length_drop]; omega, rfl, id, fun w hw => ⟨w, List.mem_of_mem_drop hw, leW_refl' w⟩⟩
      have same : ∀ {H' : Hp} {x7 : Option V}, Dr K H' d t → But t H6 H' → ∃ (b' : Bool) (W' : Addr) (us : List V) (ws' : List Wv) (x7' : Option V), [some (V.ref d), some (.ref t), some (.ref gd), some (.ref M), some (.str r.1), some (.bl r.2.1), some (.ref W), x7, some (.int ch), none, none] = [some (V.ref d), some (.ref t), some (.ref gd), some (.ref M), some (.str r.1), some (.bl b'), some (.ref W'), x7', some (.int ch), none, none] ∧ Dr K H' d t ∧ But t H H' ∧ H' M = some (.lst ((P.map (·.1)).map V.str)) ∧ H' W' = some (.lst us) ∧ W' ≠ t ∧ Paired (LwN t H') us ws' ∧ us.length ≤ 100 ∧ ws'.length ≤ B + 1 ∧ WkR (r.1, b', ws') r := fun D' b' => ⟨r.2.1, W, _, r.2.2, _, rfl, D', b6.trans b', b' _ _ nMt hM6, b' _ _ nWt h6W, nWt, L2.Paired.mapP lwn0 fun _ _ h => h.keep (.but b'), by rw [List.length_map]; omega, by omega, rfl, id, fun w hw => ⟨w, hw, leW_refl' w⟩⟩
      refine ⟨_, rfl, W, _, rfl, .inl (SqL.of h6W), _, _, rfl, rfl, _, rfl, iteD (fun c2 => ?_) (fun c2 => same D6 (But.refl _ _))⟩
      rw [List.length_map] at c2
      refine ⟨_, rfl, _, rfl, _, rfl, _, rfl, W, _, rfl, .inl (SqL.of h6W), d, t, _, rfl, D6, by rw [List.length_map]; omega, fun r2 H7 r20 r21 D7 b67 => ?_⟩
      rw [List.length_map] at r21
      obtain ⟨j, rfl⟩ := Int.eq_ofNat_of_zero_le r20
      obtain ⟨wq, hwq⟩ : ∃ wq, ps0[j]? = some wq := ⟨_, List.getElem?_eq_getElem (by omega)⟩
      refine ⟨_, _, _, _, rfl, rfl, SqL.of (b67 _ _ nWt h6W), atI_nat (v := .ref wq) (by rw [List.getElem?_map, hwq]; rfl), ?_⟩
      obtain ⟨nw2, nwW⟩ := al wq (List.mem_of_getElem? hwq)
      have nwt : wq ≠ t := D2.na nw2
      have pr7 : Paired (WyC H7) ps0 r.2.2 := pair_memL pr6 fun p k hp h => ⟨b67 _ _ (D2.na (al p hp).1) h.1, h.2⟩
      obtain ⟨k, hk, hwk, adk⟩ := pair_get' pr7 hwq
      have mk := List.mem_of_getElem? hk
      have hwk : H7 wq = some (.lst [.int (k.1 : Nat), .int (k.2.1 : Nat), .int (k.2.2.1 : Nat), .bl k.2.2.2]) := hwk
      have hM7 := b67 _ _ nMt hM6
      have h7W := b67 _ _ nWt h6W
      have nMw : M ≠ wq := ne_of_none hM2 nw2
      have fin : ∀ (k' : Wv), AdW k' → leW k' k = true → ∃ (b' : Bool) (W' : Addr) (us : List V) (ws' : List Wv) (x7' : Option V), [some (V.ref d), some (.ref t), some (.ref gd), some (.ref M), some (.str r.1), some (.bl r.2.1), some (.ref W), some (.ref wq), some (.int ch), none, none] = [some (V.ref d), some (.ref t), some (.ref gd), some (.ref M), some (.str r.1), some (.bl b'), some (.ref W'), x7', some (.int ch), none, none] ∧ Dr K (upd H7 wq (LwO k'.1 k'.2.1 k'.2.2.1 k'.2.2.2)) d t ∧ But t H (upd H7 wq (LwO k'.1 k'.2.1 k'.2.2.1 k'.2.2.2)) ∧ (upd H7 wq (LwO k'.1 k'.2.1 k'.2.2.1 k'.2.2.2)) M = some (.lst ((P.map (·.1)).map V.str)) ∧ (upd H7 wq (LwO k'.1 k'.2.1 k'.2.2.1 k'.2.2.2)) W' = some (.lst us) ∧ W' ≠ t ∧ Paired (LwN t (upd H7 wq (LwO k'.1 k'.2.1 k'.2.2.1 k'.2.2.2))) us ws' ∧ us.length ≤ 100 ∧ ws'.length ≤ B + 1 ∧ WkR (r.1, b', ws') r := fun k' ad le => by
        refine ⟨r.2.1, W, ps0.map V.ref, r.2.2.set j k', _, rfl, D7.other But.upd (fun z => ?_) nwt.symm, (b6.trans b67).mut (nH nw2), by rw [upd_ne nMw]; exact hM7, by rw [upd_ne nwW.symm]; exact h7W, nWt, ?_, by rw [List.length_map]; omega, by rw [List.length_set]; omega, rfl, id, fun w hw => ?_⟩
        · obtain ⟨ns, e⟩ := D2.ds
          rw [z, nw2] at e; cases e
        · exact wyc_lwn (wyc_set ad pr7 ndp0 hwq) fun p k hp h => ⟨D2.na (al p hp).1, h⟩
        · rcases List.mem_or_eq_of_mem_set hw with hw | rfl
          · exact ⟨w, hw, leW_refl' w⟩
          · exact ⟨k, mk, le⟩
      obtain ⟨a1, a2, a3⟩ := id adk
      have lek : LeK k k := by unfold LeK; exact ⟨Nat.le_refl _, Nat.le_refl _, Nat.le_refl _, by omega, by omega, by omega, id⟩
      refine ⟨fun σ' H' => ∃ k1 : Wv, σ' = [some (.ref d), some (.ref t), some (.ref gd), some (.ref M), some (.str r.1), some (.bl r.2.1), some (.ref W), some (.ref wq), some (.int ch), none, none] ∧ H' = upd H7 wq (LwO k1.1 k1.2.1 k1.2.2.1 k1.2.2.2) ∧ LeK k k1, ?_, ?_⟩
      · refine ⟨_, rfl, rfl, _, rfl, iteD (fun d0 => ?_) (fun d0 => ?_)⟩
        · exact ⟨_, rfl, wq, _, 3, 3, rfl, rfl, hwk, rfl, (k.1, k.2.1, k.2.2.1, true), rfl, rfl, lek.1, lek.2.1, lek.2.2.1, lek.2.2.2.1, lek.2.2.2.2.1, lek.2.2.2.2.2.1, fun _ => rfl⟩
        have hc : ch = 3 ∨ ch = 4 ∨ ch = 5 := by
          have n1 : ch ≠ 1 := fun z => c (by rw [z])
          have n2 : ch ≠ 2 := fun z => c1 (by rw [z])
          have n0 : ch ≠ 0 := fun z => d0 (by rw [z])
          omega
        unfold LeK at lek
        rcases hc with rfl | rfl | rfl
        · refine ⟨_, rfl, _, rfl, _, _, rfl, rfl, _, _, _, _, rfl, rfl, SqL.of hwk, at_of (j := 0) (by decide) rfl, _, _, rfl, rfl, _, rfl, iteD (fun e => ?_) (fun e => ⟨k, rfl, (upd_self hwk).symm, lek⟩)⟩
          refine ⟨_, rfl, _, rfl, _, _, rfl, rfl, _, _, _, _, rfl, rfl, SqL.of hwk, at_of (j := 0) (by decide) rfl, _, _, rfl, rfl, _, rfl, _, rfl, _, _, rfl, rfl, wq, _, _, 0, rfl, rfl, hwk, by show ixN 4 _ = _; decide, (k.1 + 1, k.2.1, k.2.2.1, k.2.2.2), rfl, ?_, ?_⟩
          · have ee : ((k.1 + 1 : Nat) : Int) = (k.1 : Nat) + 1 := by omega
            unfold LwO
            simp only [ee]
            rfl
          · exact ⟨by simp only; omega, by simp only; omega, by simp only; omega, by simp only; omega, by simp only; omega, by simp only; omega, id⟩
        · refine ⟨_, rfl, _, rfl, _, _, rfl, rfl, _, _, _, _, rfl, rfl, SqL.of hwk, at_of (j := 1) (by decide) rfl, _, _, rfl, rfl, _, rfl, iteD (fun e => ?_) (fun e => ⟨k, rfl, (upd_self hwk).symm, lek⟩)⟩
          refine ⟨_, rfl, _, rfl, _, _, rfl, rfl, _, _, _, _, rfl, rfl, SqL.of hwk, at_of (j := 1) (by decide) rfl, _, _, rfl, rfl, _, rfl, _, rfl, _, _, rfl, rfl, wq, _, _, 1, rfl, rfl, hwk, by show ixN 4 _ = _; decide, (k.1, k.2.1 + 1, k.2.2.1, k.2.2.2), rfl, ?_, ?_⟩
          · have ee : ((k.2.1 + 1 : Nat) : Int) = (k.2.1 : Nat) + 1 := by omega
            unfold LwO
            simp only [ee]
            rfl
          · exact ⟨by simp only; omega, by simp only; omega, by simp only; omega, by simp only; omega, by simp only; omega, by simp only; omega, id⟩
        · refine ⟨_, rfl, _, rfl, _, _, rfl, rfl, _, _, _, _, rfl, rfl, SqL.of hwk, at_of (j := 2) (by decide) rfl, _, _, rfl, rfl, _, rfl, iteD (fun e => ?_) (fun e => ⟨k, rfl, (upd_self hwk).symm, lek⟩)⟩
          refine ⟨_, rfl, _, rfl, _, _, rfl, rfl, _, _, _, _, rfl, rfl, SqL.of hwk, at_of (j := 2) (by decide) rfl, _, _, rfl, rfl, _, rfl, _, rfl, _, _, rfl, rfl, wq, _, _, 2, rfl, rfl, hwk, by show ixN 4 _ = _; decide, (k.1, k.2.1, k.2.2.1 + 1, k.2.2.2), rfl, ?_, ?_⟩
          · have ee : ((k.2.2.1 + 1 : Nat) : Int) = (k.2.2.1 : Nat) + 1 := by omega
            unfold LwO
            simp only [ee]
            rfl
          · exact ⟨by simp only; omega, by simp only; omega, by simp only; omega, by simp only; omega, by simp only; omega, by simp only; omega, id⟩
      rintro _ _ ⟨k1, rfl, rfl, le1⟩
      refine ⟨fun σ' H' => ∃ k1 : Wv, σ' = [some (.ref d), some (.ref t), some (.ref gd), some (.ref M), some (.str r.1), some (.bl r.2.1), some (.ref W), some (.ref wq), some (.int ch), none, none] ∧ H' = upd H7 wq (LwO k1.1 k1.2.1 k1.2.2.1 k1.2.2.2) ∧ LeK k k1 ∧ k1.2.1 ≤ k1.1, ?_, ?_⟩
      · have h1 : (upd H7 wq (LwO k1.1 k1.2.1 k1.2.2.1 k1.2.2.2)) wq = some (.lst [.int (k1.1 : Nat), .int (k1.2.1 : Nat), .int (k1.2.2.1 : Nat), .bl k1.2.2.2]) := upd_same
        refine ⟨_, rfl, _, _, _, _, rfl, rfl, SqL.of h1, atI_nat (j := 0) rfl, _, rfl, _, _, _, _, rfl, rfl, SqL.of h1, atI_nat (j := 1) rfl, _, _, rfl, rfl, _, rfl, iteD (fun e => ?_) (fun e => ⟨k1, rfl, rfl, le1, by omega⟩)⟩
        refine ⟨_, rfl, _, _, _, _, rfl, rfl, SqL.of h1, atI_nat (j := 1) rfl, _, rfl, wq, _, 0, 0, rfl, rfl, h1, rfl, (k1.2.1, k1.2.1, k1.2.2.1, k1.2.2.2), rfl, ?_, ?_, Nat.le_refl _⟩
        · rw [upd_upd']; rfl
        · obtain ⟨p1, p2, p3, p4, p5, p6, p7⟩ := le1
          exact ⟨by simp only; omega, p2, p3, p5, p5, p6, p7⟩
      rintro _ _ ⟨k2, rfl, rfl, le2, ad2⟩
      have h2 : (upd H7 wq (LwO k2.1 k2.2.1 k2.2.2.1 k2.2.2.2)) wq = some (.lst [.int (k2.1 : Nat), .int (k2.2.1 : Nat), .int (k2.2.2.1 : Nat), .bl k2.2.2.2]) := upd_same
      obtain ⟨q1, q2, q3, q4, q5, q6, q7⟩ := le2
      refine ⟨_, rfl, _, _, _, _, rfl, rfl, SqL.of h2, atI_nat (j := 2) rfl, _, rfl, _, _, _, _, rfl, rfl, SqL.of h2, atI_nat (j := 0) rfl, _, _, rfl, rfl, _, rfl, iteD (fun e => ?_) (fun e => ?_)⟩
      · refine ⟨_, rfl, _, _, _, _, rfl, rfl, SqL.of h2, atI_nat (j := 0) rfl, _, rfl, wq, _, 2, 2, rfl, rfl, h2, rfl, ?_⟩
        rw [upd_upd']
        exact fin (k2.1, k2.2.1, k2.1, k2.2.2.2) ⟨ad2, Nat.le_refl _, q4⟩ (leW_iff.mpr ⟨q7, q1, q2, by show k.2.2.1 ≤ k2.1; omega⟩)
      · exact fin k2 ⟨ad2, by omega, q6⟩ (leW_iff.mpr ⟨q7, q1, q2, q3⟩)
    rintro _ H7 ⟨b', W', us, ws', x7, rfl, D7, b7, hM7, hW7, nWt', pw7, lus, lws, wk⟩
    refine fun o no => ?_
    have not' : o ≠ t := D7.na no
    have no0 : H o = none := b7.free not' no
    have nod : d ≠ o := fun z => by obtain ⟨ns, e⟩ := D7.ds; rw [z, no] at e; cases e
    have s8 := same_new (o := .dK []) no
    have ho8 : (upd H7 o (.dK [])) o = some (.dK []) := upd_same
    have D8 := D7.same s8
    revert s8 ho8 D8
    generalize upd H7 o (.dK []) = H8
    intro s8 ho8 D8
    have b8 := b7.trans (But.of_same s8)
    have nMo : M ≠ o := ne_of_none hM7 no
    refine ⟨_, rfl, M, rfl, ⟨_, SqL.of (s8 _ _ hM7)⟩, for_list (K := K) (a := M) (xs := (P.map (·.1)).map V.str) (fun i σ H' => ∃ (x10 : Option V), σ = [some (.ref d), some (.ref t), some (.ref gd), some (.ref M), some (.str r.1), some (.bl b'), some (.ref W'), x7, some (.int ch), some (.ref o), x10] ∧ Dr K H' d t ∧ But o H8 H' ∧ But t H H' ∧ H' o = some (.dK (kvs.take i))) ⟨_, rfl, D8, But.refl _ _, b8, ho8⟩ (fun i σ H' _ ⟨_, _, _, b, _⟩ => SqL.of (b _ _ nMo (s8 _ _ hM7))) ?_ ?_⟩
    · rintro i v σ H9 hv ⟨x10, rfl, D9, b89, b9, ho9⟩
      rw [List.getElem?_map, List.getElem?_map] at hv
      obtain ⟨ri, hri, rfl⟩ : ∃ ri, P[i]? = some ri ∧ v = .str ri.1 := by
        cases e : P[i]? with
        | none => rw [e] at hv; cases hv
        | some r => rw [e] at hv; exact ⟨r, rfl, (Option.some.inj hv).symm⟩
      obtain ⟨kvi, hkv, _⟩ := pair_back pk hri
      have evi := val_ix pk nd hri hkv
      have dgi := DGet.k (k := .inr ri.1) (b9 _ _ ngt hg)
      rw [evi] at dgi
      have li := (List.getElem?_eq_some_iff.mp hkv).1
      have nz : ri.1 ∉ (P.take i).map (·.1) := by
        rw [List.map_take]
        exact (nodup_take.mp nd) i _ (by rw [List.getElem?_map, hri]; rfl)
      refine ⟨_, rfl, _, rfl, gd, _, rfl, dgi, _, rfl, _, rfl, o, _, rfl, DPut.k (k := .inr ri.1) ho9 (by rw [List.length_take]; omega), ?_⟩
      rw [L2.putK_new _ (rd_none (pair_takeP i pk) nz)]
      refine ⟨_, rfl, D9.other But.upd nod not'.symm, b89.trans But.upd, b9.mut no0, ?_⟩
      obtain ⟨_, hek, _⟩ := pair_back pk hri
      have ek : kvi.1 = .inr ri.1 := by
        obtain ⟨y, hy, h⟩ := pair_get' pk hkv
        rw [hri] at hy
        obtain rfl := Option.some.inj hy
        exact h.1
      rw [upd_same, List.take_add_one, hkv, Option.toList_some, ← ek]
    rintro σ H9 ⟨x10, rfl, D9, b89, b9, ho9⟩
    rw [List.length_map, List.length_map, ← lkv, List.take_length] at ho9
    refine ⟨_, rfl, _, rfl, by show 2 ≤ sizeLine; decide, fun u nu => ⟨_, rfl, _, rfl, o, _, rfl, DPut.k (k := .inr r.1) (same_new nu _ _ ho9) (by omega), ?_⟩⟩
    have sa := same_new (o := .lst [.bl b', .ref W']) nu
    have nut : u ≠ t := D9.na nu
    have nuo : u ≠ o := (ne_of_none ho9 nu).symm
    have Da := (D9.same sa).other (But.upd (a := o) (o := .dK (putK kvs (.inr r.1) (.ref u)))) nod not'.symm
    have ba := (b9.trans (But.of_same sa)).mut (o := .dK (putK kvs (.inr r.1) (.ref u))) no0
    have hu : (upd (upd H9 u (.lst [.bl b', .ref W'])) o (.dK (putK kvs (.inr r.1) (.ref u)))) u = some (.lst [.bl b', .ref W']) := by rw [upd_ne nuo]; exact upd_same
    have hoa : (upd (upd H9 u (.lst [.bl b', .ref W'])) o (.dK (putK kvs (.inr r.1) (.ref u)))) o = some (.dK (putK kvs (.inr r.1) (.ref u))) := upd_same
    have lk : ∀ a xs, H7 a = some (.lst xs) → (upd (upd H9 u (.lst [.bl b', .ref W'])) o (.dK (putK kvs (.inr r.1) (.ref u)))) a = some (.lst xs) := fun a xs h => by
      have na : a ≠ o := ne_of_none h no
      rw [upd_ne na]
      exact sa _ _ (b89 _ _ na (s8 _ _ h))
    revert Da ba hu hoa lk
    generalize upd (upd H9 u (.lst [.bl b', .ref W'])) o (.dK (putK kvs (.inr r.1) (.ref u))) = Ha
    intro Da ba hu hoa lk
    have mk : r.1 ∈ P.map (·.1) := List.mem_map.mpr ⟨r, mr, rfl⟩
    have pn : Paired (RdN t Ha) (putK kvs (.inr r.1) (.ref u)) (setR P (r.1, b', ws')) := rdn_put (r := (r.1, b', ws')) (L2.Paired.mapP pk fun _ _ h => h.keep (.but ba)) mk ⟨rfl, u, W', us, rfl, nut, hu, nWt', lk _ _ hW7, L2.Paired.mapP pw7 fun _ _ h => h.keep fun a xs _ e => lk a xs e, lus⟩
    have uniq : ∀ x ∈ P, x.1 = r.1 → x = r := fun x hx e => by
      obtain ⟨ix, hix⟩ := List.mem_iff_getElem?.mp hx
      have h1 := look_at nd hix
      have h2 := look_at nd hr
      rw [e, h2] at h1
      exact (Option.some.inj h1).symm
    refine ⟨_, rfl, q (setR P (r.1, b', ws')) _ o Ha ?_ (fun x hx => ?_) (weak_set2 fun x hx e => by rw [uniq x hx e]; exact wk) Da ba no0 hoa pn⟩
    · unfold setR
      rw [List.map_map]
      refine List.map_congr_left fun x _ => ?_
      show (if x.1 = r.1 then ((r.1, b', ws') : Rl) else x).1 = x.1
      split
      · rename_i c; exact c.symm
      · rfl
    · unfold setR at hx
      obtain ⟨y, hy, rfl⟩ := List.mem_map.mp hx
      show (if y.1 = r.1 then ((r.1, b', ws') : Rl) else y).2.2.length ≤ B + 1
      split
      · exact lws
      · have := lw y hy; omega
end
end My

namespace My
open PySem L2
section
variable {P : Program} {w : World} {K : PySem.W.Frag} {mg : Str → Option Value} {base : Heap}
theorem ok__law_changed (T : Txt K mg) : FnOk P w K mg base CX0 8 T.a__law_changed T.fd__law_changed ["_law_draws_here", "_law_at", "_law_rules_here"] (spLVar K fun _ _ => True) := by
  refine T.F__law_changed.ok sc__law_changed (fun vs H Q E h => ?_) (fun cdv A outer s H vs Q E hr h => ?_)
  · obtain ⟨d, t, gd, kvs, P, B, rfl, _⟩ := h; rfl
  · obtain ⟨d, t, gd, kvs, P, B, rfl, D0, hg, pk, nd, lP1, lP, lB, lw, q⟩ := h
    refine ⟨_, (pss_cons (ps_if (pt_cmpR op_eq (pe_call (ok__law_take T) (hr.mono (by omega)) (by rfl) T.g__law_take T.F__law_take.kp T.b__law_take .nil pass0 (pa_cons (pv 0) (pa_cons (pv 1) (pa_cons (pe_int) pa_nil)))) (pe_int) (nomark _)) (pss_one (ps_ret (pe_call (ok__law_tightened T) (hr.mono (by omega)) (by rfl) T.g__law_tightened T.F__law_tightened.kp T.b__law_tightened .nil pass0 (pa_cons (pv 0) (pa_cons (pv 1) (pa_cons (pv 2) pa_nil)))))) pss_nil)
      (pss_one (ps_ret (pe_call (ok__law_loosened T) (hr.mono (by omega)) (by rfl) T.g__law_loosened T.F__law_loosened.kp T.b__law_loosened .nil pass0 (pa_cons (pv 0) (pa_cons (pv 1) (pa_cons (pv 2) pa_nil))))))), ?_⟩
    have ngt : gd ≠ t := fun z => by obtain ⟨k, e⟩ := D0.pl; rw [z, e] at hg; cases hg
    refine ⟨_, rfl, _, rfl, d, t, 2, rfl, D0, by decide, fun r0 H1 _ _ D1 b1 => ⟨rfl, _, rfl, iteD (fun _ => ?_) (fun _ => ?_)⟩⟩
    · exact ⟨_, rfl, _, rfl, _, rfl, d, t, gd, kvs, P, B, rfl, D1, b1 _ _ ngt hg, L2.Paired.mapP pk fun _ _ h => h.keep (.but b1), nd, lP1, lP, lB, lw, fun P' kv' o H' e l _ D' b' no ho pp => q P' kv' o H' e l trivial D' (b1.trans b') (b1.free (D1.na no) no) ho pp⟩
    · exact ⟨_, rfl, _, rfl, _, rfl, d, t, gd, kvs, P, B, rfl, D1, b1 _ _ ngt hg, L2.Paired.mapP pk fun _ _ h => h.keep (.but b1), nd, lP1, lP, lB, lw, fun P' kv' o H' e l _ D' b' no ho pp => q P' kv' o H' e l trivial D' (b1.trans b') (b1.free (D1.na no) no) ho pp⟩
end
end My

namespace L2
open PySem
theorem hu65' {k : Nat} {A : Around} (r : Room k A) : A.units + 65 < cLine := by have := r.un; omega
theorem inDK {X : Cx} {K : PySem.W.Frag} (h : X.K = K) (hu : X.A.units + 65 < cLine) : OpR X (compareOp .In) (rInD K) := h ▸ op_inD hu
theorem ninDK {X : Cx} {K : PySem.W.Frag} (h : X.K = K) (hu : X.A.units + 65 < cLine) : OpR X (compareOp .NotIn) (rNotInD K) := h ▸ op_notInD hu
end L2

namespace My
open PySem L2
theorem wvDp {K : PySem.W.Frag} {H : Hp} {q : Addr} {k : Wv} (h : H q = some (LwO k.1 k.2.1 k.2.2.1 k.2.2.2)) : Dp K H (.ref q) (.list [.int (k.1 : Nat), .int (k.2.1 : Nat), .int (k.2.2.1 : Nat), .bool k.2.2.2]) := .lst (SqL.of h) (.cons (.int _) (.cons (.int _) (.cons (.int _) (.cons (.bl _) .nil))))
def wvD (k : Wv) : PyData := .list [.int (k.1 : Nat), .int (k.2.1 : Nat), .int (k.2.2.1 : Nat), .bool k.2.2.2]
theorem wvD_lay (k : Wv) : PyData.canLay0 (wvD k) = true := by unfold wvD; simp [PyData.canLay0, PyData.canLayAll0]
theorem wvD_depth (k : Wv) : PyData.depth (wvD k) = 1 := by unfold wvD; simp [PyData.depth, PyData.depthAll]
theorem wvsDp {K : PySem.W.Frag} {H : Hp} : ∀ {us : List V} {ks : List Wv}, Paired (LwV H) us ks → DpAll K H us (ks.map wvD)
  | _, _, .nil => .nil
  | _, _, .cons ⟨q, e, h, _⟩ t => by
    subst e
    exact .cons (wvDp h) (wvsDp t)
theorem wvs_shaped (ks : List Wv) : SeqAt.shaped (.list (ks.map wvD)) = true := by
  have h1 : ∀ l : List Wv, PyData.canLayAll0 (l.map wvD) = true := fun l => by
    induction l with
    | nil => rfl
    | cons a r ih => rw [List.map_cons, PyData.canLayAll0, wvD_lay a, ih]; rfl
  have h2 : ∀ l : List Wv, PyData.depthAll (l.map wvD) ≤ 1 := fun l => by
    induction l with
    | nil => exact Nat.zero_le _
    | cons a r ih =>
      rw [List.map_cons, PyData.depthAll, wvD_depth]
      omega
  unfold SeqAt.shaped
  rw [PyData.canLay0, h1 ks, PyData.depth, Bool.true_and, decide_eq_true_iff]
  have := h2 ks
  omega
theorem wv_shaped (k : Wv) : SeqAt.shaped (wvD k) = true := by
  unfold SeqAt.shaped
  rw [wvD_lay, Bool.true_and, decide_eq_true_iff, wvD_depth]; decide
theorem rd_noneV {H : Hp} {z : Str} : ∀ {kvs : List (Key × V)} {rl : List Rl}, Paired (RdV H) kvs rl → z ∉ rl.map (·.1) → valV kvs (.inr z) = none
  | _, _, .nil, _ => rfl
  | kv :: kvs, r :: rl, .cons h p, n => by
    rw [List.map_cons, List.mem_cons, not_or] at n
    rw [valV_neg (by rw [h.1]; exact fun e => n.1 (by injection e with e; exact e.symm))]
    exact rd_noneV p n.2
def spLBoth : Sp := fun vs H Q _ => ∃ (F S : Addr) (kf ks : List (Key × V)) (P1 P2 : List Rl) (B : Nat), vs = [.ref F, .ref S] ∧ H F = some (.dK kf) ∧ H S = some (.dK ks) ∧ F ≠ S ∧ Paired (RdV H) kf P1 ∧ Paired (RdV H) ks P2 ∧ (P1.map (·.1)).Nodup ∧ P1.map (·.1) = P2.map (·.1) ∧ P1.length ≤ 100 ∧ B ≤ 30 ∧ (∀ r ∈ P1, r.2.2.length ≤ B) ∧
  ∀ (P' : List Rl) kv' o H', P'.map (·.1) = P1.map (·.1) → (∀ r ∈ P', r.2.2.length ≤ B) → Same H H' → H o = none → H' o = some (.dK kv') → Paired (RdV H') kv' P' → Q (.ref o) H'
section
variable {P : Program} {w : World} {K : PySem.W.Frag} {mg : Str → Option Value} {base : Heap}
set_option maxHeartbeats 16000000 in
set_option pp.maxSteps 600 in
theorem ok__law_both (T : Txt K mg) : FnOk P w K mg base CX0 2 T.a__law_both T.fd__law_both ["_law_rules_here", "_law_other"] spLBoth := by
  refine T.F__law_both.ok sc__law_both (fun vs H Q E h => ?_) (fun cdv A outer s H vs Q E hr h => ?_)
  · obtain ⟨F, S, kf, ks, P1, P2, B, rfl, _⟩ := h; rfl
  · obtain ⟨F, S, kf, ks, P1, P2, B, rfl, hF, hS, nFS, p1, p2, nd, e12, lP, lB, lw, q⟩ := h
    refine ⟨_, (pss_cons (ps_set (i := 2) sc__law_both.nd rfl (.inl rfl) (pe_dnewK))
      (pss_cons (ps_lock (ps_for PassesOwn.never rfl (pi_keys (pv 0)) (pg_name (i := 3) sc__law_both.nd rfl (.inr rfl)) (pss_cons (ps_setLc (i := 4) (own := [("_law_way_here", 5)]) (g := (gName 5)) (by rfl) sc__law_both.nd rfl rfl (sw_true rfl rfl rfl (by decide +kernel)) (pi_list (pe_ix ix_list (pe_dget (hu_of hr) (pv 0) (pv 3) (fun _ _ => rfl)) (pe_int) (fun _ _ => rfl))) (blkOk_by (own := [("_law_way_here", 5)]) (N := ["_law_rules_here", "_law_other", "_law_both_here", "_law_mark", "_law_ways", "_law_way_here"]) (sc := defScope S__law_both) (by decide +kernel)) (fun _ _ _ _ _ => (pg_name (i := 5) sc__law_both.nd rfl (by first | exact .inl rfl | exact .inr rfl))) (fun _ _ _ _ _ => (pts_one (pt_cmpR (inDK (K := K) rfl (hu65' hr)) (pv 5) (pe_ix (ixLK (K := K) rfl) (pe_dget (hu_of hr) (pv 1) (pv 3) (fun _ _ => rfl)) (pe_int) (fun _ _ => rfl)) (by with_unfolding_all rfl)))) (fun _ _ _ _ _ => (pv 5)))
      (pss_one (ps_dput (hu_of hr) (pv 2) (pv 3) (pe_lst (pa_cons (pe_and (pe_ix ix_list (pe_dget (hu_of hr) (pv 0) (pv 3) (fun _ _ => rfl)) (pe_int) (fun _ _ => rfl)) (pe_one (pe_ix ix_list (pe_dget (hu_of hr) (pv 1) (pv 3) (fun _ _ => rfl)) (pe_int) (fun _ _ => rfl)))) (pa_cons (pv 4) pa_nil))) rfl)))))
      (pss_one (ps_ret (pv 2))))), ?_⟩
    have big : 100000 < sizeLine := by decide
    have lkf := pair_len' p1
    have nd2 : (P2.map (·.1)).Nodup := by rw [← e12]; exact nd
    refine fun o no => ?_
    have s1 := same_new (o := .dK []) no
    have nFo : F ≠ o := ne_of_none hF no
    refine ⟨F, _, s1 _ _ hF, trivial, fun od => ?_⟩
    have b2 : ∀ a x, a ≠ F → H a = some x → (upd (upd H o (.dK [])) F (.frz od (.dK kf))) a = some x := fun a x n h => by rw [upd_ne n]; exact s1 _ _ h
    have f2 : (upd (upd H o (.dK [])) F (.frz od (.dK kf))) F = some (.frz od (.dK kf)) := upd_same
    have ho2 : (upd (upd H o (.dK [])) F (.frz od (.dK kf))) o = some (.dK []) := by rw [upd_ne nFo.symm]; exact upd_same
    revert b2 f2 ho2
    generalize upd (upd H o (.dK [])) F (.frz od (.dK kf)) = H2
    intro b2 f2 ho2
    refine ⟨_, rfl, F, od, rfl, .inl ⟨kf, f2, for_it walk_keys (fun i σ H' => ∃ (x3 x4 x5 : Option V) (kv' : List (Key × V)) (P' : List Rl), σ = [some (.ref F), some (.ref S), some (.ref o), x3, x4, x5] ∧ (∀ a x, a ≠ F → H a = some x → H' a = some x) ∧ H' F = some (.frz od (.dK kf)) ∧ H' o = some (.dK kv') ∧ Paired (RdV H') kv' P' ∧ P'.map (·.1) = (P1.map (·.1)).take i ∧ ∀ r ∈ P', r.2.2.length ≤ B) ⟨_, _, _, [], [], rfl, b2, f2, ho2, .nil, by simp, fun _ h => nomatch h⟩ (fun i σ H' _ ⟨_, _, _, _, _, _, _, h, _⟩ => h) ?_ ?_⟩⟩
    rotate_left
    · rintro σ H3 ⟨x3, x4, x5, kv', P', rfl, b3, f3, ho3, p3, e3, l3⟩
      rw [lkf, ← List.length_map (f := fun r : Rl => r.1), List.take_length] at e3
      have kl : ∀ {a : Addr} {xs : List V}, H3 a = some (.lst xs) → (upd H3 F (.dK kf)) a = some (.lst xs) := fun h => by rw [upd_ne (fun z => by rw [z, f3] at h; cases h)]; exact h
      refine ⟨f3, _, rfl, q P' kv' o _ e3 l3 (fun a x h => ?_) no (by rw [upd_ne nFo.symm]; exact ho3) (L2.Paired.mapP p3 fun _ _ ⟨a, q, p, us, e, f, g, k, l⟩ => ⟨a, q, p, us, e, kl f, kl g, L2.Paired.mapP k fun _ _ ⟨q, e, f, g⟩ => ⟨q, e, kl f, g⟩, l⟩)⟩
      by_cases e : a = F
      · rw [e, upd_same, ← hF, ← e, h]
      · rw [upd_ne e]; exact b3 a x e h
    rintro i v σ H3 H4 hi ⟨x3, x4, x5, kv', P', rfl, b3, f3, ho3, p3, e3, l3⟩ ⟨rfl, k, v', ek, rfl⟩
    obtain ⟨r, hr, ek1, _⟩ := pair_get' p1 ek
    have ek1 : k = .inr r.1 := ek1
    subst ek1
    have kl : ∀ {a : Addr} {xs : List V}, H a = some (.lst xs) → H4 a = some (.lst xs) := fun h => b3 _ _ (fun z => by rw [z, hF] at h; cases h) h
    have rdk : ∀ {kv : Key × V} {r : Rl}, RdV H kv r → RdV H4 kv r := fun ⟨a, q, p, us, e, f, g, k, l⟩ => ⟨a, q, p, us, e, kl f, kl g, L2.Paired.mapP k fun _ _ ⟨q, e, f, g⟩ => ⟨q, e, kl f, g⟩, l⟩
    obtain ⟨kv, ev, _, q0, p0, us0, eq0, hq0, hp0, pw0, l0⟩ := val_rd (L2.Paired.mapP p1 fun _ _ h => rdk h) nd hr
    have mr := List.mem_of_getElem? hr
    obtain ⟨r2, hr2, er2⟩ := List.mem_map.mp (by rw [← e12]; exact List.mem_map.mpr ⟨r, mr, rfl⟩ : r.1 ∈ P2.map (·.1))
    obtain ⟨i2, hi2⟩ := List.mem_iff_getElem?.mp hr2
    obtain ⟨kv2, ev2, _, q2, p02, us2, eq2, hq2, hp2, pw2, l2⟩ := val_rd (L2.Paired.mapP p2 fun _ _ h => rdk h) nd2 hi2
    have dgF : ∀ {H' : Hp}, H' F = some (.frz od (.dK kf)) → DGet H' F (.str r.1) (some (.ref q0)) := fun h => .inl ⟨kf, .inr r.1, .inr ⟨od, h⟩, rfl, by rw [ev, eq0]⟩
    have hS4 := b3 _ _ nFS.symm hS
    have dgS : ∀ {H' : Hp}, Same H4 H' → DGet H' S (.str r.1) (some (.ref q2)) := fun s => by
      have := DGet.k (k := .inr r2.1) (s _ _ hS4)
      rw [ev2, eq2, er2] at this
      exact this
    have lr := lw r mr
    have l00 := pair_len' pw0
    refine ⟨_, rfl, _, rfl, F, _, rfl, dgF f3, _, _, _, _, rfl, rfl, SqL.of hq0, atI_nat (j := 1) rfl, p0, rfl, ⟨_, SqL.of hp0⟩, fun W hW => lc_list (K := K) (a := p0) (xs := us0) (fun i H' => ∃ us ws, Same H4 H' ∧ H' W = some (.lst us) ∧ Paired (LwV H4) us ws ∧ us.length ≤ i) ⟨[], [], same_new hW, upd_same, .nil, Nat.le_refl _⟩ (fun i H' _ ⟨_, _, s, _⟩ => SqL.of (s _ _ hp0)) ?_ ?_⟩
    · rintro j v H5 hv ⟨us, ws, s5, h5, pu, lu⟩
      obtain ⟨wv, hwv, wq, rfl, hwq, adw⟩ := pair_get' pw0 hv
      have hj := (List.getElem?_eq_some_iff.mp hv).1
      refine ⟨rfl, _, rfl, _, rfl, _, rfl, S, _, rfl, dgS s5, _, _, _, _, rfl, rfl, SqL.of (s5 _ _ hq2), atI_nat (j := 1) rfl, wvD wv, r2.2.2.map wvD, wvDp (s5 _ _ hwq), .lst (SqL.of (s5 _ _ hp2)) (wvsDp (L2.Paired.mapP pw2 fun _ _ h => LwV.same h s5)), wv_shaped wv, wvs_shaped _, _, rfl, iteB (fun _ => ?_) (fun _ => ?_)⟩
      · exact ⟨_, rfl, us, h5, by omega, us ++ [.ref wq], ws ++ [wv], same_mut s5 hW, upd_same, pair_app' pu (.cons ⟨wq, rfl, hwq, adw⟩ .nil), by rw [List.length_append]; simp; omega⟩
      · exact ⟨us, ws, s5, h5, pu, by omega⟩
    rintro H5 ⟨us, ws, s5, h5W, pu, lu⟩
    have lws := pair_len' pu
    have hq05 := s5 _ _ hq0
    have hq25 := s5 _ _ hq2
    have ho5 := s5 _ _ ho3
    have f5 := s5 _ _ f3
    have lkv' := pair_len' p3
    have lP' := congrArg List.length e3
    rw [List.length_map, List.length_take, List.length_map] at lP'
    have hir := (List.getElem?_eq_some_iff.mp hr).1
    have nz : r.1 ∉ P'.map (·.1) := by
      rw [e3]
      exact (nodup_take.mp nd) i _ (by rw [List.getElem?_map, hr]; rfl)
    refine ⟨_, rfl, _, rfl, F, _, rfl, dgF f5, _, _, _, _, rfl, rfl, SqL.of hq05, atI_nat (j := 0) rfl, r.2.1, rfl, ?_⟩
    cases hb : r.2.1 with
    | true =>
      refine iteT ⟨_, rfl, _, rfl, S, _, rfl, dgS s5, _, _, _, _, rfl, rfl, SqL.of hq25, atI_nat (j := 0) rfl, ?_⟩
      refine ⟨_, rfl, by show 2 ≤ sizeLine; decide, fun u nu => ⟨_, rfl, _, rfl, o, _, rfl, DPut.k (k := .inr r.1) (same_new nu _ _ ho5) (by omega), ?_⟩⟩
      rw [L2.putK_new _ (rd_noneV p3 nz)]
      have s6 := same_new (o := .lst [.bl r2.2.1, .ref W]) nu
      have nuo : u ≠ o := (ne_of_none ho5 nu).symm
      have kl6 : ∀ {a : Addr} {xs : List V}, H4 a = some (.lst xs) → (upd (upd H5 u (.lst [.bl r2.2.1, .ref W])) o (.dK (kv' ++ [(.inr r.1, .ref u)]))) a = some (.lst xs) := fun {a xs} h => by rw [upd_ne (fun z => by rw [z, ho3] at h; cases h)]; exact s6 _ _ (s5 _ _ h)
      refine ⟨_, _, _, kv' ++ [(.inr r.1, .ref u)], P' ++ [(r.1, r2.2.1, ws)], rfl, (fun a x n h => by rw [upd_ne (ne_of_none h no)]; exact s6 _ _ (s5 _ _ (b3 a x n h))), by rw [upd_ne nFo]; exact s6 _ _ f5, upd_same, ?_, ?_, fun x hx => ?_⟩
      · refine pair_app' (L2.Paired.mapP p3 fun _ _ ⟨a, q, p, us, e, f, g, k, l⟩ => ⟨a, q, p, us, e, kl6 f, kl6 g, L2.Paired.mapP k fun _ _ ⟨q, e, f, g⟩ => ⟨q, e, kl6 f, g⟩, l⟩) (.cons ⟨rfl, u, W, us, rfl, by rw [upd_ne nuo]; exact upd_same, by rw [upd_ne (fun z => by rw [z, ho5] at h5W; cases h5W)]; exact s6 _ _ h5W, L2.Paired.mapP pu fun _ _ ⟨q, e, f, g⟩ => ⟨q, e, kl6 f, g⟩, by omega⟩ .nil)
      · rw [List.map_append, e3, List.take_add_one]
        congr 1
        rw [List.getElem?_map, hr]; rfl
      · rcases List.mem_append.mp hx with hx | hx
        · exact l3 x hx
        · rw [List.mem_singleton.mp hx]
          show ws.length ≤ B
          omega
    | false =>
      refine iteF ?_
      refine ⟨_, rfl, by show 2 ≤ sizeLine; decide, fun u nu => ⟨_, rfl, _, rfl, o, _, rfl, DPut.k (k := .inr r.1) (same_new nu _ _ ho5) (by omega), ?_⟩⟩
      rw [L2.putK_new _ (rd_noneV p3 nz)]
      have s6 := same_new (o := .lst [.bl false, .ref W]) nu
      have nuo : u ≠ o := (ne_of_none ho5 nu).symm
      have kl6 : ∀ {a : Addr} {xs : List V}, H4 a = some (.lst xs) → (upd (upd H5 u (.lst [.bl false, .ref W])) o (.dK (kv' ++ [(.inr r.1, .ref u)]))) a = some (.lst xs) := fun {a xs} h => by rw [upd_ne (fun z => by rw [z, ho3] at h; cases h)]; exact s6 _ _ (s5 _ _ h)
      refine ⟨_, _, _, kv' ++ [(.inr r.1, .ref u)], P' ++ [(r.1, false, ws)], rfl, (fun a x n h => by rw [upd_ne (ne_of_none h no)]; exact s6 _ _ (s5 _ _ (b3 a x n h))), by rw [upd_ne nFo]; exact s6 _ _ f5, upd_same, ?_, ?_, fun x hx => ?_⟩
      · refine pair_app' (L2.Paired.mapP p3 fun _ _ ⟨a, q, p, us, e, f, g, k, l⟩ => ⟨a, q, p, us, e, kl6 f, kl6 g, L2.Paired.mapP k fun _ _ ⟨q, e, f, g⟩ => ⟨q, e, kl6 f, g⟩, l⟩) (.cons ⟨rfl, u, W, us, rfl, by rw [upd_ne nuo]; exact upd_same, by rw [upd_ne (fun z => by rw [z, ho5] at h5W; cases h5W)]; exact s6 _ _ h5W, L2.Paired.mapP pu fun _ _ ⟨q, e, f, g⟩ => ⟨q, e, kl6 f, g⟩, by omega⟩ .nil)
      · rw [List.map_append, e3, List.take_add_one]
        congr 1
        rw [List.getElem?_map, hr]; rfl
      · rcases List.mem_append.mp hx with hx | hx
        · exact l3 x hx
        · rw [List.mem_singleton.mp hx]
          show ws.length ≤ B
          omega
end
end My

namespace My
open PySem L2
/-! ### rows cut -/
def cutR (ns : List Str) (r : Row) : Row := if (r.pars.filter fun z => decide (z ∈ ns)) = [] then ⟨r.mark, [], 0, 0, r.sh⟩ else ⟨r.mark, r.pars.filter fun z => decide (z ∈ ns), r.least, r.most, r.sh⟩
def cutL (rs : List Row) : List Row := (rs.take 2).map (cutR (mks (rs.take 2)))
def cutPR (m : Nat) (p : PRow) : PRow := if (p.pars.filter fun j => decide (j < (m : Int))) = [] then ⟨p.idx, [], 0, 0, p.sh⟩ else ⟨p.idx, p.pars.filter fun j => decide (j < (m : Int)), p.least, p.most, p.sh⟩
theorem cut_plan {n : Nat} {prs : List PRow} (ok : PlanOk n prs) : PlanOk (min 2 n) ((prs.take 2).map (cutPR (min 2 n))) := by
  refine ⟨by rw [List.length_map, List.length_take, ok.1], fun k r hr => ?_⟩
  rw [List.getElem?_map] at hr
  obtain ⟨p, hp, rfl⟩ : ∃ p, (prs.take 2)[k]? = some p ∧ r = cutPR (min 2 n) p := by
    cases e : (prs.take 2)[k]? with
    | none => rw [e] at hr; cases hr
    | some p => rw [e] at hr; exact ⟨p, rfl, (Option.some.inj hr).symm⟩
  have hk := (List.getElem?_eq_some_iff.mp hp).1
  rw [List.length_take, ok.1] at hk
  rw [List.getElem?_take_of_lt (by omega)] at hp
  have o := ok.2 k p hp
  unfold cutPR
  by_cases c : (p.pars.filter fun j => decide (j < ((min 2 n : Nat) : Int))) = []
  · rw [if_pos c]
    exact ⟨o.idx, ⟨List.nodup_nil, fun _ h => nomatch h⟩, Int.le_refl _, Int.le_refl _, by show (0 : Int) ≤ 4; decide, ⟨fun h => absurd h (Int.lt_irrefl _), fun h => absurd rfl h⟩, fun h => absurd rfl h⟩
  · rw [if_neg c]
    refine ⟨o.idx, ⟨o.pars.1.sublist (List.filter_sublist ..), fun j hj => ?_⟩, o.l0, o.lm, o.m4, ⟨fun _ => c, fun _ => o.pm.mpr fun e => c (by rw [e]; rfl)⟩, fun h => ?_⟩
    · obtain ⟨h1, h2⟩ := List.mem_filter.mp hj
      exact ⟨(o.pars.2 j h1).1, of_decide_eq_true h2⟩
    · obtain ⟨j, hj, lt⟩ := o.low h
      exact ⟨j, List.mem_filter.mpr ⟨hj, decide_eq_true (by omega)⟩, lt⟩
theorem cut_named {n : Nat} {prs : List PRow} {ms : List Str} (ok : PlanOk n prs) (hn : n ≤ ms.length) (nd : ms.Nodup) : cutL (prs.map (nameR ms)) = ((prs.take 2).map (cutPR (min 2 n))).map (nameR ms) := by
  unfold cutL
  rw [← List.map_take, List.map_map, List.map_map]
  have inj : ∀ {i j : Int}, 0 ≤ i → i < n → 0 ≤ j → j < n → nm ms i = nm ms j → i = j := fun {i j} a b c d e => by
    unfold nm at e
    rw [List.getD_eq_getElem?_getD, List.getD_eq_getElem?_getD, List.getElem?_eq_getElem (by omega), List.getElem?_eq_getElem (by omega)] at e
    have e : ms[i.toNat]'(by omega) = ms[j.toNat]'(by omega) := e
    have p := List.pairwise_iff_getElem.mp nd
    rcases Nat.lt_trichotomy i.toNat j.toNat with q | q | q
    · exact absurd e (p _ _ (by omega) (by omega) q)
    · omega
    · exact absurd e.symm (p _ _ (by omega) (by omega) q)
  refine List.map_congr_left fun p hp => ?_
  have hp0 := List.mem_of_mem_take hp
  obtain ⟨kp, hkp⟩ := List.mem_iff_getElem?.mp hp0
  have o := ok.2 kp p hkp
  show cutR (mks ((prs.take 2).map (nameR ms))) (nameR ms p) = nameR ms (cutPR (min 2 n) p)
  have mem : ∀ j ∈ p.pars, decide (nm ms j ∈ mks ((prs.take 2).map (nameR ms))) = decide (j < ((min 2 n : Nat) : Int)) := fun j hj => by
    obtain ⟨j0, jn⟩ := o.pars.2 j hj
    rw [decide_eq_decide]
    unfold mks
    rw [List.map_map, List.mem_map]
    constructor
    · rintro ⟨x, hx, e⟩
      obtain ⟨k, hk⟩ := List.mem_iff_getElem?.mp hx
      have lk := (List.getElem?_eq_some_iff.mp hk).1
      rw [List.length_take, ok.1] at lk
      rw [List.getElem?_take_of_lt (by omega)] at hk
      have ox := ok.2 k x hk
      have e : nm ms x.idx = nm ms j := e
      have := inj (by rw [ox.idx]; omega) (by rw [ox.idx]; omega) j0 jn e
      rw [ox.idx] at this
      omega
    · intro lt
      have lj : j.toNat < prs.length := by rw [ok.1]; omega
      refine ⟨prs[j.toNat], List.mem_of_getElem? (i := j.toNat) (by rw [List.getElem?_take_of_lt (by omega)]; exact List.getElem?_eq_getElem lj), ?_⟩
      have ox := ok.2 j.toNat _ (List.getElem?_eq_getElem lj)
      show nm ms (prs[j.toNat]).idx = nm ms j
      rw [ox.idx, show ((j.toNat : Nat) : Int) = j by omega]
  have ef : (p.pars.map (nm ms)).filter (fun z => decide (z ∈ mks ((prs.take 2).map (nameR ms)))) = (p.pars.filter fun j => decide (j < ((min 2 n : Nat) : Int))).map (nm ms) := by
    rw [List.filter_map]
    congr 1
    exact List.filter_congr mem
  unfold cutR cutPR
  show (if ((p.pars.map (nm ms)).filter fun z => decide (z ∈ mks ((prs.take 2).map (nameR ms)))) = [] then (⟨nm ms p.idx, [], 0, 0, p.sh⟩ : Row) else ⟨nm ms p.idx, (p.pars.map (nm ms)).filter fun z => decide (z ∈ mks ((prs.take 2).map (nameR ms))), p.least, p.most, p.sh⟩) = _
  rw [ef]
  by_cases c : (p.pars.filter fun j => decide (j < ((min 2 n : Nat) : Int))) = []
  · rw [if_pos c, c]; rfl
  · rw [if_neg c, if_neg (by simpa using c)]; rfl
def spLCut : Sp := fun vs H Q _ => ∃ (R : Addr) (ws : List V) (rs : List Row), vs = [.ref R, .int 2] ∧ H R = some (.lst ws) ∧ RowsN (fun _ => True) true H ws rs ∧ (∀ r ∈ rs, r.pars.length ≤ 1000) ∧
  ∀ u us H', Same H H' → H u = none → H' u = some (.lst us) → RowsN (New H) true H' us (cutL rs) → Q (.ref u) H'
section
variable {P : Program} {w : World} {K : PySem.W.Frag} {mg : Str → Option Value} {base : Heap}
set_option maxHeartbeats 16000000 in
set_option pp.maxSteps 600 in
theorem ok__law_cut (T : Txt K mg) : FnOk P w K mg base CX0 2 T.a__law_cut T.fd__law_cut ["_law_rows_here", "_law_count"] spLCut := by
  refine T.F__law_cut.ok sc__law_cut (fun vs H Q E h => ?_) (fun cdv A outer s H vs Q E hr h => ?_)
  · obtain ⟨R, ws, rs, rfl, _⟩ := h; rfl
  · obtain ⟨R, ws, rs, rfl, hR, rR, lpr, q⟩ := h
    refine ⟨_, (pss_cons (ps_set (i := 2) sc__law_cut.nd rfl (.inl rfl) (pe_slice sl_list (pv 0) po_none (po_some (pv 1))))
      (pss_cons (ps_set (i := 3) sc__law_cut.nd rfl (.inr rfl) (pe_lc (own := [("_law_row", 4)]) (g := (gName 4)) (by rfl) sc__law_cut.nd (pi_list (pv 2)) (blkOk_by (own := [("_law_row", 4)]) (N := ["_law_rows_here", "_law_count", "_law_kept", "_law_names", "_law_row", "_law_cut_here", "_law_parents", "_law_mark"]) (sc := defScope S__law_cut) (by decide +kernel)) (fun _ _ _ _ _ => (pg_name (i := 4) sc__law_cut.nd rfl (by first | exact .inl rfl | exact .inr rfl))) (fun _ _ _ _ _ => pts_nil) (fun _ _ _ _ _ => (pe_ix (ixLK (K := K) rfl) (pv 4) (pe_int) (fun _ _ => rfl)))))
      (pss_cons (ps_set (i := 5) sc__law_cut.nd rfl (.inl rfl) (pe_lst pa_nil))
      (pss_cons (ps_for PassesOwn.never rfl (pi_list (pv 2)) (pg_name (i := 4) sc__law_cut.nd rfl (.inl rfl)) (pss_cons (ps_setLc (i := 6) (own := [("_law_mark", 7)]) (g := (gName 7)) (by rfl) sc__law_cut.nd rfl rfl (sw_true rfl rfl rfl (by decide +kernel)) (pi_list (pe_ix ix_list (pv 4) (pe_int) (fun _ _ => rfl))) (blkOk_by (own := [("_law_mark", 7)]) (N := ["_law_rows_here", "_law_count", "_law_kept", "_law_names", "_law_row", "_law_cut_here", "_law_parents", "_law_mark"]) (sc := defScope S__law_cut) (by decide +kernel)) (fun _ _ _ _ _ => (pg_name (i := 7) sc__law_cut.nd rfl (by first | exact .inl rfl | exact .inr rfl))) (fun _ _ _ _ _ => (pts_one (pt_cmpR (inK (K := K) rfl) (pv 7) (pv 3) (by with_unfolding_all rfl)))) (fun _ _ _ _ _ => (pv 7)))
      (pss_one (ps_if (pt_cmpR op_gt (pe_callB call_len_seq (by rfl) T.n_len (by decide +kernel) (pa_cons (pv 6) pa_nil)) (pe_int) (nomark _)) (pss_one (ps_expr (pe_bm PySem.F.plainAttrs_list PySem.F.slot_list_append PySem.F.type_list_append mt_append (pv 5) (pa_cons (pe_lst (pa_cons (pe_ix ix_list (pv 4) (pe_int) (fun _ _ => rfl)) (pa_cons (pv 6) (pa_cons (pe_ix ix_list (pv 4) (pe_int) (fun _ _ => rfl)) (pa_cons (pe_ix ix_list (pv 4) (pe_int) (fun _ _ => rfl)) (pa_cons (pe_ix ix_list (pv 4) (pe_int) (fun _ _ => rfl)) pa_nil)))))) pa_nil)))) (pss_one (ps_expr (pe_bm PySem.F.plainAttrs_list PySem.F.slot_list_append PySem.F.type_list_append mt_append (pv 5) (pa_cons (pe_lst (pa_cons (pe_ix ix_list (pv 4) (pe_int) (fun _ _ => rfl)) (pa_cons (pe_lst pa_nil) (pa_cons (pe_int) (pa_cons (pe_int) (pa_cons (pe_ix ix_list (pv 4) (pe_int) (fun _ _ => rfl)) pa_nil)))))) pa_nil))))))))
      (pss_one (ps_ret (pv 5))))))), ?_⟩
    have big : 100000 < sizeLine := by decide
    refine ⟨_, rfl, _, rfl, _, rfl, R, _, rfl, SqL.of hR, fun Kp nK => ?_⟩
    rw [show (2 : Int) = ((2 : Nat) : Int) from rfl, cut_to]
    have sK := same_new (o := .lst (ws.take 2)) nK
    have hK : (upd H Kp (.lst (ws.take 2))) Kp = some (.lst (ws.take 2)) := upd_same
    revert sK hK
    generalize upd H Kp (.lst (ws.take 2)) = H1
    intro sK hK
    have rK : RowsN (fun _ => True) true H (ws.take 2) (rs.take 2) := pair_takeP 2 rR
    have lpk : ∀ r ∈ rs.take 2, r.pars.length ≤ 1000 := fun r hr => lpr r (List.mem_of_mem_take hr)
    have l2 : (rs.take 2).length ≤ 2 := by rw [List.length_take]; omega
    have q' : ∀ u us H', Same H H' → H u = none → H' u = some (.lst us) → RowsN (New H) true H' us ((rs.take 2).map (cutR (mks (rs.take 2)))) → Q (.ref u) H' := q
    clear q
    revert rK lpk l2 q' hK
    generalize ws.take 2 = wk
    generalize rs.take 2 = rk
    intro hK rK lpk l2 q
    have lwk := pair_len' rK
    refine ⟨_, rfl, Kp, rfl, ⟨_, SqL.of hK⟩, fun N nN => lc_list (K := K) (a := Kp) (xs := wk) (fun i H' => Same H1 H' ∧ H' N = some (.lst (((mks rk).take i).map V.str))) ⟨same_new nN, upd_same⟩ (fun i H' _ h => SqL.of (h.1 _ _ hK)) ?_ ?_⟩
    · rintro i v H2 hv ⟨s2, h2⟩
      obtain ⟨r, hr, rp, pp, rfl, _, _, hrp, hpp⟩ := pair_get' rK hv
      have hrp : H rp = some (.lst (rowL r pp)) := hrp
      have hi := (List.getElem?_eq_some_iff.mp hr).1
      have hm : (mks rk)[i]? = some r.mark := by unfold mks; rw [List.getElem?_map, hr]; rfl
      refine ⟨rfl, yes_i (iteT ⟨_, rfl, _, _, _, _, rfl, rfl, SqL.of ((sK.trans s2) _ _ hrp), atI_nat (j := 0) rfl, _, h2, ?_, same_mut s2 nN, ?_⟩)⟩
      · rw [List.length_map, List.length_take]; omega
      · rw [upd_same, List.take_add_one, hm, Option.toList_some, List.map_append]; rfl
    rintro H2 ⟨s2, hN⟩
    rw [show wk.length = (mks rk).length by unfold mks; rw [List.length_map, lwk], List.take_length] at hN
    have s02 := sK.trans s2
    refine ⟨Nat.zero_le _, fun L nL => ?_⟩
    have s3 := same_new (o := .lst []) nL
    have hL3 : (upd H2 L (.lst [])) L = some (.lst []) := upd_same
    revert s3 hL3
    generalize upd H2 L (.lst []) = H3
    intro s3 hL3
    have s03 := s02.trans s3
    have nL0 := s02.free nL
    have hK3 := s3 _ _ (s2 _ _ hK)
    have hN3 := s3 _ _ hN
    have nNL : N ≠ L := ne_of_none hN nL
    have nKL : Kp ≠ L := ne_of_none (s2 _ _ hK) nL
    refine ⟨_, rfl, Kp, rfl, ⟨_, SqL.of hK3⟩, for_list (K := K) (a := Kp) (xs := wk) (fun i σ H' => ∃ (x4 x6 x7 : Option V) (us : List V), σ = [some (.ref R), some (.int 2), some (.ref Kp), some (.ref N), x4, some (.ref L), x6, x7] ∧ Same H H' ∧ But L H3 H' ∧ H' L = some (.lst us) ∧ us.length ≤ i ∧ RowsN (fun a => H a = none ∧ a ≠ L) true H' us ((rk.take i).map (cutR (mks rk)))) ⟨_, _, _, [], rfl, s03, But.refl _ _, hL3, Nat.le_refl _, .nil⟩ (fun i σ H' _ ⟨_, _, _, _, _, _, b, _⟩ => SqL.of (b _ _ nKL hK3)) ?_ ?_⟩
    rotate_left
    · rintro σ H4 ⟨x4, x6, x7, us, rfl, s4, _, hL4, _, r4⟩
      rw [lwk, List.take_length] at r4
      exact ⟨_, rfl, q L us H4 s4 nL0 hL4 (rowsN_sub r4 fun a f => f.1)⟩
    rintro i v σ H4 hv ⟨x4, x6, x7, us, rfl, s4, b4, hL4, l4, r4⟩
    obtain ⟨r, hr, rp, pp, rfl, _, _, hrp, hpp⟩ := pair_get' rK hv
    have hrp : H rp = some (.lst (rowL r pp)) := hrp
    have hpp : H pp = some (.lst (r.pars.map V.str)) := hpp
    have hi := (List.getElem?_eq_some_iff.mp hr).1
    have lp := lpk r (List.mem_of_getElem? hr)
    have hN4 := b4 _ _ nNL hN3
    obtain ⟨f, ef⟩ : ∃ f : Str → Bool, f = fun z => decide (z ∈ mks rk) := ⟨_, rfl⟩
    refine ⟨_, rfl, _, _, _, _, rfl, rfl, SqL.of (s4 _ _ hrp), atI_nat (j := 1) rfl, pp, rfl, ⟨_, SqL.of (s4 _ _ hpp)⟩, fun G nG => lc_list (K := K) (a := pp) (xs := r.pars.map V.str) (fun j H' => Same H4 H' ∧ H' G = some (.lst (((r.pars.take j).filter f).map V.str))) ⟨same_new nG, upd_same⟩ (fun j H' _ h => SqL.of (h.1 _ _ (s4 _ _ hpp))) ?_ ?_⟩
    · rintro j v H5 hv5 ⟨s5, h5⟩
      rw [List.getElem?_map] at hv5
      obtain ⟨z, hz, rfl⟩ : ∃ z, r.pars[j]? = some z ∧ v = .str z := by
        cases e : r.pars[j]? with
        | none => rw [e] at hv5; cases hv5
        | some z => rw [e] at hv5; exact ⟨z, rfl, (Option.some.inj hv5).symm⟩
      have hj := (List.getElem?_eq_some_iff.mp hz).1
      refine ⟨rfl, _, rfl, _, rfl, N, _, rfl, .inl (SqL.of (s5 _ _ hN4)), rfl, flat_strs _, ?_⟩
      rw [show (if false = true then !inV (V.str z) ((mks rk).map V.str) else inV (V.str z) ((mks rk).map V.str)) = f z by rw [if_neg Bool.false_ne_true, in_strs, ef]]
      rw [filter_take hz]
      refine ⟨_, rfl, ?_⟩
      cases e : f z with
      | true =>
        refine iteYes rfl ⟨_, rfl, _, h5, ?_, same_mut s5 nG, ?_⟩
        · rw [List.length_map]
          have := List.length_filter_le f (r.pars.take j)
          rw [List.length_take] at this
          omega
        · rw [upd_same, if_pos rfl, List.map_append]; rfl
      | false => exact iteNo rfl ⟨s5, by rw [if_neg Bool.false_ne_true, List.append_nil]; exact h5⟩
    rintro H5 ⟨s5, hG5⟩
    rw [List.length_map, List.take_length] at hG5
    have hL5 := s5 _ _ hL4
    have hrp5 := s5 _ _ (s4 _ _ hrp)
    have s05 := s4.trans s5
    have b5 := b4.trans (But.of_same s5)
    have nG0 : H G = none := s4.free nG
    have nGL : G ≠ L := (ne_of_none hL4 nG).symm
    have r5 : RowsN (fun a => H a = none ∧ a ≠ L) true H5 us ((rk.take i).map (cutR (mks rk))) := rowsN_same r4 s5
    have lf : (if r.pars.filter f = [] then (⟨r.mark, [], 0, 0, r.sh⟩ : Row) else ⟨r.mark, r.pars.filter f, r.least, r.most, r.sh⟩) = cutR (mks rk) r := by rw [ef]; rfl
    have fin : ∀ (x7' : Option V) (u y : Addr) (H6 : Hp) (q1 : Row), Same H5 H6 → H5 u = none → H5 y = none ∨ y = G → y ≠ u → H6 u = some (.lst (rowL q1 y)) → H6 y = some (.lst (q1.pars.map V.str)) → q1 = cutR (mks rk) r → ∃ (x4 x6 x7 : Option V) (us' : List V), [some (V.ref R), some (.int 2), some (.ref Kp), some (.ref N), some (.ref rp), some (.ref L), some (.ref G), x7'] = [some (V.ref R), some (.int 2), some (.ref Kp), some (.ref N), x4, some (.ref L), x6, x7] ∧ Same H (upd H6 L (.lst (us ++ [.ref u]))) ∧ But L H3 (upd H6 L (.lst (us ++ [.ref u]))) ∧ (upd H6 L (.lst (us ++ [.ref u]))) L = some (.lst us') ∧ us'.length ≤ i + 1 ∧ RowsN (fun a => H a = none ∧ a ≠ L) true (upd H6 L (.lst (us ++ [.ref u]))) us' ((rk.take (i + 1)).map (cutR (mks rk)))        := fun x7' u y H6 q1 s6 nu ny nyu hu hy eq => by
      have nuL : u ≠ L := (ne_of_none hL5 nu).symm
      have nyL : y ≠ L := by
        rcases ny with h | h
        · exact (ne_of_none hL5 h).symm
        · rw [h]; exact nGL
      have ny0 : H y = none := by
        rcases ny with h | h
        · exact s05.free h
        · rw [h]; exact nG0
      refine ⟨_, _, _, us ++ [.ref u], rfl, same_mut (s05.trans s6) nL0, (b5.trans (But.of_same s6)).trans But.upd, upd_same, by rw [List.length_append]; simp; omega, ?_⟩
      rw [List.take_add_one, hr, Option.toList_some, List.map_append]
      refine pair_app' (rowsN_le r5 fun a o f e => by rw [upd_ne f.2]; exact s6 _ _ e) (.cons ⟨u, y, rfl, ⟨s05.free nu, nuL⟩, ⟨ny0, nyL⟩, ?_, ?_⟩ .nil)
      · rw [upd_ne nuL, hu, eq]; rfl
      · rw [upd_ne nyL, hy, eq]; rfl
    refine ⟨_, rfl, G, _, rfl, .inl (SqL.of hG5), _, _, rfl, rfl, _, rfl, iteD (fun c => ?_) (fun c => ?_)⟩
    · have c : ¬ (r.pars.filter f = []) := fun z => by rw [z] at c; exact absurd c (by simp)
      refine ⟨_, rfl, .inl ⟨rfl, _, SqL.of hL5⟩, _, rfl, _, _, _, _, rfl, rfl, SqL.of hrp5, atI_nat (j := 0) rfl, _, rfl, _, rfl, _, _, _, _, rfl, rfl, SqL.of hrp5, atI_nat (j := 2) rfl, _, rfl, _, _, _, _, rfl, rfl, SqL.of hrp5, atI_nat (j := 3) rfl, _, rfl, _, _, _, _, rfl, rfl, SqL.of hrp5, atI_nat (j := 4) rfl, by show 5 ≤ sizeLine; decide, fun u nu => ?_⟩
      have s6 := same_new (o := .lst [.str r.mark, .ref G, .int r.least, .int r.most, .bl r.sh]) nu
      refine ⟨_, _, _, rfl, rfl, s6 _ _ hL5, by omega, ?_⟩
      rw [if_neg c] at lf
      exact fin _ u G _ ⟨r.mark, r.pars.filter f, r.least, r.most, r.sh⟩ s6 nu (.inr rfl) (ne_of_none hG5 nu) upd_same (s6 _ _ hG5) lf
    · have c : r.pars.filter f = [] := by
        cases e : r.pars.filter f with
        | nil => rfl
        | cons a l => rw [e] at c; exact absurd (by simp) c
      refine ⟨_, rfl, .inl ⟨rfl, _, SqL.of hL5⟩, _, rfl, _, _, _, _, rfl, rfl, SqL.of hrp5, atI_nat (j := 0) rfl, Nat.zero_le _, fun y ny => ?_⟩
      have sy := same_new (o := .lst []) ny
      have hy : (upd H5 y (.lst [])) y = some (.lst []) := upd_same
      revert sy hy
      generalize upd H5 y (.lst []) = H6
      intro sy hy
      refine ⟨_, rfl, _, _, _, _, rfl, rfl, SqL.of (sy _ _ hrp5), atI_nat (j := 4) rfl, by show 5 ≤ sizeLine; decide, fun u nu => ?_⟩
      have s6 := same_new (o := .lst [.str r.mark, .ref y, .int 0, .int 0, .bl r.sh]) nu
      refine ⟨_, _, _, rfl, rfl, s6 _ _ (sy _ _ hL5), by omega, ?_⟩
      rw [if_pos c] at lf
      exact fin _ u y _ ⟨r.mark, [], 0, 0, r.sh⟩ (sy.trans s6) (sy.free nu) (.inl ny) (ne_of_none hy nu) upd_same (s6 _ _ hy) lf
end
end My

namespace My
open PySem L2
def PolsV (Cp Cw Cs : Addr) (rs : List Row) (H : Hp) (v : V) (P : List Rl) : Prop := ∃ y x m a b, v = .ref y ∧ Pol Cp Cw H y x m a b P ∧ ShO Cs H x rs
theorem PolsV.same {Cp Cw Cs : Addr} {rs : List Row} {H H' : Hp} {v : V} {P : List Rl} (h : PolsV Cp Cw Cs rs H v P) (s : Same H H') : PolsV Cp Cw Cs rs H' v P := let ⟨y, x, m, a, b, e, p, q⟩ := h; ⟨y, x, m, a, b, e, p.same s, q.same s⟩
def inB (rs : List Row) (P Q : List Rl) : Bool := !gapB rs P Q
def RowB (rs : List Row) (Ps : List (List Rl)) (H : Hp) (v : V) (P : List Rl) : Prop := ∃ a, v = .ref a ∧ H a = some (.lst (Ps.map fun Q => V.bl (inB rs P Q)))
theorem RowB.same {rs : List Row} {Ps : List (List Rl)} {H H' : Hp} {v : V} {P : List Rl} (h : RowB rs Ps H v P) (s : Same H H') : RowB rs Ps H' v P := let ⟨a, e, f⟩ := h; ⟨a, e, s _ _ f⟩
def okPs (rs : List Row) (Ps : List (List Rl)) : Prop := ∀ P ∈ Ps, P.map (·.1) = mks rs ∧ OkA P
def spLTab (Cp Cw Cs : Addr) : Sp := fun vs H Q _ => ∃ (M : Addr) (pvs : List V) (rs : List Row) (Ps : List (List Rl)), vs = [.ref M] ∧ H M = some (.lst pvs) ∧ Paired (PolsV Cp Cw Cs rs H) pvs Ps ∧ GoodC rs ∧ wordsOk rs ∧ okPs rs Ps ∧ Ps.length ≤ 10 ∧
  ∀ u lv H', Same H H' → H u = none → H' u = some (.lst lv) → Paired (RowB rs Ps H') lv Ps → Q (.ref u) H'
def spLTabGood : Sp := fun vs H Q _ => ∃ (tb : Addr) (lv : List V) (f : Nat → Nat → Bool), vs = [.ref tb] ∧ H tb = some (.lst lv) ∧ (∀ p, p < 3 → ∃ a ls, lv[p]? = some (.ref a) ∧ H a = some (.lst ls) ∧ ∀ q, q < 3 → ls[q]? = some (.bl (f p q))) ∧ (∀ p, p < 3 → f p p = true) ∧ (∀ p q r, p < 3 → q < 3 → r < 3 → f p q = true → f q r = true → f p r = true) ∧ Q (.bl true) H
section
variable {w : World} {K : PySem.W.Frag} {mg : Str → Option Value} {base : Heap}
set_option maxHeartbeats 16000000 in
set_option pp.maxSteps 600 in
theorem ok__law_table (T : Txt K mg) : FnOk PP w K mg base (L2.CX PP w) 28 T.a__law_table T.fd__law_table ["_law_made"] (spLTab T.c_Policy T.c_Way T.c_Shape) := by
  refine T.F__law_table.okX sc__law_table (fun vs H Q E h => ?_) (fun cdv A outer s H vs Q E hr h => ?_)
  · obtain ⟨M, pvs, rs, Ps, rfl, _⟩ := h; rfl
  · obtain ⟨M, pvs, rs, Ps, rfl, hM, pp, g, wo, ok, l10, q⟩ := h
    refine ⟨_, (pss_cons (ps_set (i := 1) sc__law_table.nd rfl (.inl rfl) (pe_lst pa_nil))
      (pss_cons (ps_for (passes_of rfl) rfl (pi_list (pv 0)) (pg_name (i := 2) sc__law_table.nd rfl (.inl rfl)) (pss_cons (ps_set (i := 3) sc__law_table.nd rfl (.inl rfl) (pe_lst pa_nil))
      (pss_cons (ps_for (passes_of rfl) rfl (pi_list (pv 0)) (pg_name (i := 4) sc__law_table.nd rfl (.inl rfl)) (pss_one (ps_expr (pe_bm PySem.F.plainAttrs_list PySem.F.slot_list_append PySem.F.type_list_append mt_append (pv 3) (pa_cons (pe_call (ok_included T) (hr.mono (by omega)) (by rfl) T.g_included T.F_included.kp T.b_included .nil (passes_call (takes_of rfl rfl rfl rfl) (fun _ _ _ _ h => h)) (pa_cons (pv 2) (pa_cons (pv 4) pa_nil))) pa_nil)))))
      (pss_one (ps_expr (pe_bm PySem.F.plainAttrs_list PySem.F.slot_list_append PySem.F.type_list_append mt_append (pv 1) (pa_cons (pv 3) pa_nil)))))))
      (pss_one (ps_ret (pv 1))))), ?_⟩
    have big : 100000 < sizeLine := by decide
    have lpv := pair_len' pp
    refine ⟨Nat.zero_le _, fun L nL => ?_⟩
    have s1 := same_new (o := .lst []) nL
    have hL1 : (upd H L (.lst [])) L = some (.lst []) := upd_same
    revert s1 hL1
    generalize upd H L (.lst []) = H1
    intro s1 hL1
    refine ⟨_, rfl, M, rfl, ⟨_, SqL.of (s1 _ _ hM)⟩, for_list (K := K) (a := M) (xs := pvs) (fun i σ H' => ∃ (x2 x3 x4 : Option V) (lv : List V), σ = [some (.ref M), some (.ref L), x2, x3, x4] ∧ Same H H' ∧ H' L = some (.lst lv) ∧ Paired (fun v P => ∃ a, v = .ref a ∧ a ≠ L ∧ H' a = some (.lst (Ps.map fun Q => V.bl (inB rs P Q)))) lv (Ps.take i)) ⟨_, _, _, [], rfl, s1, hL1, .nil⟩ (fun i σ H' _ ⟨_, _, _, _, _, s, _⟩ => SqL.of (s _ _ hM)) ?_ ?_⟩
    rotate_left
    · rintro σ H2 ⟨x2, x3, x4, lv, rfl, s2, hL2, p2⟩
      rw [lpv, List.take_length] at p2
      exact ⟨_, rfl, q L lv H2 s2 nL hL2 (L2.Paired.mapP p2 fun _ _ ⟨a, e, _, f⟩ => ⟨a, e, f⟩)⟩
    rintro i v σ H2 hv ⟨x2, x3, x4, lv, rfl, s2, hL2, p2⟩
    obtain ⟨P1, hP1, p, xp, mp, ap, bp, rfl, hPp, Sp⟩ := pair_get' pp hv
    have m1 := List.mem_of_getElem? hP1
    have hi := (List.getElem?_eq_some_iff.mp hP1).1
    refine ⟨Nat.zero_le _, fun W nW => ?_⟩
    have s3 := same_new (o := .lst []) nW
    have hW3 : (upd H2 W (.lst [])) W = some (.lst []) := upd_same
    revert s3 hW3
    generalize upd H2 W (.lst []) = H3
    intro s3 hW3
    have nW0 := s2.free nW
    refine ⟨_, rfl, M, rfl, ⟨_, SqL.of ((s2.trans s3) _ _ hM)⟩, for_list (K := K) (a := M) (xs := pvs) (fun j σ H' => ∃ (x4 : Option V), σ = [some (.ref M), some (.ref L), some (.ref p), some (.ref W), x4] ∧ Same H2 H' ∧ H' W = some (.lst ((Ps.take j).map fun Q => V.bl (inB rs P1 Q)))) ⟨_, rfl, s3, hW3⟩ (fun j σ H' _ ⟨_, _, s, _⟩ => SqL.of ((s2.trans s) _ _ hM)) ?_ ?_⟩
    rotate_left
    · rintro σ H4 ⟨x4, rfl, s4, hW4⟩
      rw [lpv, List.take_length] at hW4
      have hL4 := s4 _ _ hL2
      have lp2 := pair_len' p2
      rw [List.length_take] at lp2
      have nWL : W ≠ L := (ne_of_none hL2 nW).symm
      refine ⟨_, rfl, .inl ⟨rfl, _, SqL.of hL4⟩, _, rfl, _, _, _, rfl, rfl, hL4, by omega, _, _, _, lv ++ [.ref W], rfl, same_mut (s2.trans s4) nL, upd_same, ?_⟩
      rw [List.take_add_one, hP1, Option.toList_some]
      exact pair_app' (L2.Paired.mapP p2 fun _ _ ⟨a, e, n, f⟩ => ⟨a, e, n, by rw [upd_ne n]; exact s4 _ _ f⟩) (.cons ⟨W, rfl, nWL, by rw [upd_ne nWL]; exact hW4⟩ .nil)
    rintro j v σ H4 hv4 ⟨x4, rfl, s4, hW4⟩
    obtain ⟨P2, hP2, y, xq, mq, aq, bq, rfl, hPq, Sq⟩ := pair_get' pp hv4
    have m2 := List.mem_of_getElem? hP2
    have hj := (List.getElem?_eq_some_iff.mp hP2).1
    have s24 := s2.trans s4
    refine ⟨_, rfl, .inl ⟨rfl, _, SqL.of hW4⟩, _, rfl, _, rfl, p, y, xp, mp, ap, bp, xq, mq, aq, bq, P1, P2, rs, rs, rfl, hPp.same s24, hPq.same s24, Sp.same s24, Sq.same s24, g, wo, wo, (ok P1 m1).1, (ok P2 m2).1, (ok P1 m1).2, (ok P2 m2).2, fun _ H5 s5 => ?_, fun n => absurd rfl n⟩
    have hW5 := s5 _ _ hW4
    refine ⟨_, _, _, rfl, rfl, hW5, by rw [List.length_map, List.length_take]; omega, _, rfl, same_mut (s4.trans s5) nW, ?_⟩
    rw [upd_same, List.take_add_one, hP2, Option.toList_some, List.map_append]; rfl
set_option pp.maxSteps 600 in
theorem ok__law_table_good (T : Txt K mg) : FnOk PP w K mg base CX0 1 T.a__law_table_good T.fd__law_table_good ["_law_table_here"] spLTabGood := by
  refine T.F__law_table_good.ok sc__law_table_good (fun vs H Q E h => ?_) (fun cdv A outer s H vs Q E hr h => ?_)
  · obtain ⟨tb, lv, f, rfl, _⟩ := h; rfl
  · obtain ⟨tb, lv, f, rfl, ht, hrow, re, tr, q⟩ := h
    refine ⟨_, (pss_cons (ps_for PassesOwn.never rfl (pi_range1 (by rfl) T.n_range (pa_cons (pe_int) pa_nil)) (pg_name (i := 1) sc__law_table_good.nd rfl (.inl rfl)) (pss_one (ps_for PassesOwn.never rfl (pi_range1 (by rfl) T.n_range (pa_cons (pe_int) pa_nil)) (pg_name (i := 2) sc__law_table_good.nd rfl (.inl rfl)) (C8.pss_cut (ps_if (PW.pt (pw_or (pt_not (pt_val (pe_callB call_isi (by rfl) T.n_isinstance (by decide +kernel) (pa_cons (pe_ix ix_list (pe_ix ix_list (pv 0) (pv 1) (fun _ _ => rfl)) (pv 2) (fun _ _ => rfl)) (pa_cons (pe_bltn (v := .ty "bool") (by rfl) T.n_bool (by decide +kernel) rfl) pa_nil))))) (pw_or1 (PW.pt (pw_and (pt_cmpR op_eq (pv 1) (pv 2) (nomark _)) (pw_and1 (pt_not (pt_val (pe_ix ix_list (pe_ix ix_list (pv 0) (pv 1) (fun _ _ => rfl)) (pv 2) (fun _ _ => rfl)))))))))) (pss_one (ps_ret (pe_bl))) pss_nil)
      (pss_one (ps_for PassesOwn.never rfl (pi_range1 (by rfl) T.n_range (pa_cons (pe_int) pa_nil)) (pg_name (i := 3) sc__law_table_good.nd rfl (.inl rfl)) (pss_one (ps_if (PW.pt (pw_and (pt_val (pe_ix ix_list (pe_ix ix_list (pv 0) (pv 1) (fun _ _ => rfl)) (pv 2) (fun _ _ => rfl))) (pw_and (pt_val (pe_ix ix_list (pe_ix ix_list (pv 0) (pv 2) (fun _ _ => rfl)) (pv 3) (fun _ _ => rfl))) (pw_and1 (pt_not (pt_val (pe_ix ix_list (pe_ix ix_list (pv 0) (pv 1) (fun _ _ => rfl)) (pv 3) (fun _ _ => rfl)))))))) (pss_one (ps_ret (pe_bl))) pss_nil))))))))
      (pss_one (ps_ret (pe_bl)))), ?_⟩
    refine ⟨3, rfl, by decide, by decide, for_range (lo := 0) (n := 3) (fun i σ H' => ∃ (x1 x2 x3 : Option V), σ = [some (.ref tb), x1, x2, x3] ∧ H' = H) ⟨_, _, _, rfl, rfl⟩ ?_ ?_⟩
    rotate_left
    · rintro σ H' ⟨x1, x2, x3, rfl, e⟩
      rw [e]; exact q
    rintro p σ H1 hp ⟨x1, x2, x3, rfl, e1⟩
    rw [e1]
    rw [Int.zero_add]
    obtain ⟨a, ls, ea, ha, el⟩ := hrow p hp
    refine ⟨3, rfl, by decide, by decide, for_range (lo := 0) (n := 3) (fun i σ H' => ∃ (x2 x3 : Option V), σ = [some (.ref tb), some (.int ((p : Nat) : Int)), x2, x3] ∧ H' = H) ⟨_, _, rfl, rfl⟩ ?_ ?_⟩
    rotate_left
    · rintro σ H' ⟨x2, x3, rfl, e⟩
      exact ⟨_, _, _, rfl, e⟩
    rintro r σ H2 hq ⟨x2, x3, rfl, e2⟩
    rw [e2]
    rw [Int.zero_add]
    obtain ⟨a2, ls2, ea2, ha2, el2⟩ := hrow r hq
    refine ⟨fun σ' H' => σ' = [some (.ref tb), some (.int ((p : Nat) : Int)), some (.int ((r : Nat) : Int)), x3] ∧ H' = H, ?_, ?_⟩
    · refine ⟨_, rfl, _, rfl, _, _, _, _, rfl, rfl, SqL.of ht, atI_nat ea, _, rfl, _, _, _, _, rfl, rfl, SqL.of ha, atI_nat (el r hq), _, _, _, _, _, rfl, ClsV.ty "bool", .base (.bl _), kit_ty (by decide +kernel), true, rfl, iteF ?_⟩
      refine ⟨_, rfl, _, rfl, rfl, _, rfl, iteD (fun e => ?_) (fun _ => iteF ⟨rfl, rfl⟩)⟩
      have e : p = r := by
        have := V.int.inj e
        omega
      refine ⟨_, rfl, _, rfl, _, _, _, _, rfl, rfl, SqL.of ht, atI_nat ea, _, rfl, _, _, _, _, rfl, rfl, SqL.of ha, atI_nat (el r hq), _, rfl, iteNo (by rw [← e, re p hp]; rfl) ⟨rfl, rfl⟩⟩
    rintro _ H3 ⟨rfl, e3⟩
    rw [e3]
    refine ⟨3, rfl, by decide, by decide, for_range (lo := 0) (n := 3) (fun i σ H' => ∃ (x3 : Option V), σ = [some (.ref tb), some (.int ((p : Nat) : Int)), some (.int ((r : Nat) : Int)), x3] ∧ H' = H) ⟨_, rfl, rfl⟩ ?_ ?_⟩
    rotate_left
    · rintro σ H' ⟨x3, rfl, e⟩
      exact ⟨_, _, rfl, e⟩
    rintro z σ H4 hz ⟨x3, rfl, e4⟩
    rw [e4]
    rw [Int.zero_add]
    refine ⟨_, rfl, _, rfl, _, _, _, _, rfl, rfl, SqL.of ht, atI_nat ea, _, rfl, _, _, _, _, rfl, rfl, SqL.of ha, atI_nat (el r hq), f p r, rfl, iteB (fun e1 => ?_) (fun _ => iteF ⟨_, rfl, rfl⟩)⟩
    refine ⟨_, rfl, _, rfl, _, _, _, _, rfl, rfl, SqL.of ht, atI_nat ea2, _, rfl, _, _, _, _, rfl, rfl, SqL.of ha2, atI_nat (el2 z hz), f r z, rfl, iteB (fun e2 => ?_) (fun _ => iteF ⟨_, rfl, rfl⟩)⟩
    refine ⟨_, rfl, _, rfl, _, _, _, _, rfl, rfl, SqL.of ht, atI_nat ea, _, rfl, _, _, _, _, rfl, rfl, SqL.of ha, atI_nat (el z hz), f p z, rfl, iteNo (by rw [tr p r z hp hq hz e1 e2]; rfl) ⟨_, rfl, rfl⟩⟩
end
end My

namespace My
open PySem L2
/-! ### policies in a list that grows -/
theorem refs_strs {xs : List V} (h : ∀ v ∈ xs, ∃ a, v = V.ref a) {l : List Str} (n : l ≠ []) : xs ≠ l.map V.str := fun e => by
  cases l with
  | nil => exact n rfl
  | cons z l =>
    obtain ⟨a, ea⟩ := h (V.str z) (by rw [e]; exact List.mem_cons_self)
    cases ea
theorem Pol.off2 {Cp Cw : Addr} {H H' : Hp} {y x m a b t : Addr} {rl : List Rl} {xs : List V} (P : Pol Cp Cw H y x m a b rl) (ht : H t = some (.lst xs)) (n : ∀ v ∈ xs, ∃ a, v = V.ref a) (ne : rl ≠ []) (bu : But t H H') : Pol Cp Cw H' y x m a b rl := by
  obtain ⟨⟨dy, hy⟩, hm, ⟨ls, ha, hb, _⟩, _, _⟩ := id P
  refine P.le (A := [t]) (.but (by simp) bu) (fun c o h tt => bu _ _ (fun z => ?_) h) fun c hc h => ?_
  · rw [z, ht] at h
    obtain rfl := Option.some.inj h
    rcases tt with ⟨_, e⟩ | ⟨_, _, _, _, _, e⟩ <;> cases e
  · obtain rfl := List.mem_singleton.mp h
    simp only [List.mem_cons, List.not_mem_nil, or_false] at hc
    rcases hc with rfl | rfl | rfl | rfl
    · rw [ht] at hy; cases hy
    · rw [ht] at hm
      refine refs_strs n (l := rl.map (·.1)) (by simpa using ne) ?_
      rw [List.map_map]
      exact HO.lst.inj (Option.some.inj hm)
    · rw [ht] at ha; cases ha
    · rw [ht] at hb; cases hb
theorem ShO.off2 {Cs : Addr} {H H' : Hp} {x t : Addr} {xs : List V} {rs : List Row} (S : ShO Cs H x rs) (ht : H t = some (.lst xs)) (n : ∀ v ∈ xs, ∃ a C d fs, v = V.ref a ∧ H a = some (.ins C d fs)) (ne : rs ≠ []) (b : But t H H') : ShO Cs H' x rs := by
  obtain ⟨dx, l, m, vs, hx, hl, hr, hm⟩ := S
  refine ⟨dx, l, m, vs, b _ _ (fun z => by rw [z, ht] at hx; cases hx) hx, b _ _ (fun z => ?_) hl, rowsT_keep hr (fun a xs e => b _ _ (fun z => by rw [z, ht] at e; cases e) e), b _ _ (fun z => ?_) hm⟩
  · rw [z, ht] at hl
    have e := HO.lst.inj (Option.some.inj hl)
    subst e
    cases rs with
    | nil => exact ne rfl
    | cons r rs =>
      obtain ⟨v, hv, h⟩ := pair_back hr (i := 0) (y := r) rfl
      obtain ⟨a, C, d, fs, ea, ha⟩ := n v (List.mem_of_getElem? hv)
      obtain ⟨p, pp, ev, hp, _⟩ := h
      rw [ev] at ea
      obtain rfl := V.ref.inj ea
      rw [ha] at hp; cases hp
  · rw [z, ht] at hm
    have e := HO.lst.inj (Option.some.inj hm)
    refine refs_strs (xs := xs) (l := rs.map (·.mark)) (fun v hv => ?_) (by simpa using ne) (by rw [e]; unfold mksV; rw [List.map_map]; rfl)
    obtain ⟨a, _, _, _, ea, _⟩ := n v hv
    exact ⟨a, ea⟩
theorem PolsV.upd {Cp Cw Cs : Addr} {rs : List Row} {H : Hp} {v : V} {P : List Rl} {t : Addr} {us : List V} {Ps : List (List Rl)} {o : HO} (h : PolsV Cp Cw Cs rs H v P) (ht : H t = some (.lst us)) (pu : Paired (PolsV Cp Cw Cs rs H) us Ps) (nr : rs ≠ []) (nP : P ≠ []) : PolsV Cp Cw Cs rs (upd H t o) v P := by
  have n : ∀ v ∈ us, ∃ a C d fs, v = V.ref a ∧ H a = some (.ins C d fs) := fun v hv => by
    obtain ⟨i, hi⟩ := List.mem_iff_getElem?.mp hv
    obtain ⟨_, _, y, x, m, a, b, e, p, _⟩ := pair_get' pu hi
    obtain ⟨d, hy⟩ := p.obj
    exact ⟨y, _, _, _, e, hy⟩
  obtain ⟨y, x, m, a, b, e, p, q⟩ := h
  exact ⟨y, x, m, a, b, e, p.off2 ht (fun v hv => let ⟨a, _, _, _, e, _⟩ := n v hv; ⟨a, e⟩) nP But.upd, q.off2 ht n nr But.upd⟩
/-- a dict of the law's own rules -/
def TbO (t : Addr) (rs : List Row) (B : Nat) (H : Hp) (S : Addr) (P : List Rl) : Prop := S ≠ t ∧ ∃ kv, H S = some (.dK kv) ∧ Paired (RdN t H) kv P ∧ P.map (·.1) = mks rs ∧ ∀ r ∈ P, r.2.2.length ≤ B
theorem TbO.but {t : Addr} {rs : List Row} {B : Nat} {H H' : Hp} {S : Addr} {P : List Rl} (h : TbO t rs B H S P) (b : But t H H') : TbO t rs B H' S P := let ⟨n, kv, e, p, f, l⟩ := h; ⟨n, kv, b _ _ n e, L2.Paired.mapP p fun _ _ h => h.keep (.but b), f, l⟩
theorem TbO.up {t : Addr} {rs : List Row} {B C : Nat} {H : Hp} {S : Addr} {P : List Rl} (h : TbO t rs B H S P) (l : B ≤ C) : TbO t rs C H S P := let ⟨n, kv, e, p, f, g⟩ := h; ⟨n, kv, e, p, f, fun r hr => Nat.le_trans (g r hr) l⟩
theorem rdn_adjA {t : Addr} {H : Hp} {B : Nat} : ∀ {kvs : List (Key × V)} {P : List Rl}, Paired (RdN t H) kvs P → (∀ r ∈ P, r.2.2.length ≤ B) → B ≤ 32 → OkA P
  | _, _, .nil, _, _ => fun _ h => nomatch h
  | _, _, .cons h tl, lb, l => fun r hr => by
    rcases List.mem_cons.mp hr with rfl | hr
    · refine ⟨fun k hk => ?_, Nat.le_trans (lb _ List.mem_cons_self) l⟩
      obtain ⟨_, _, _, us, _, _, _, _, _, pk, _⟩ := h
      obtain ⟨i, hi⟩ := List.getElem?_of_mem hk
      obtain ⟨v, _, _, _, _, _, a⟩ := pair_back pk hi
      exact a
    · exact rdn_adjA tl (fun x hx => lb x (List.mem_cons_of_mem _ hx)) l r hr
theorem TbO.ok {t : Addr} {rs : List Row} {B : Nat} {H : Hp} {S : Addr} {P : List Rl} (h : TbO t rs B H S P) (l : B ≤ 32) : P.map (·.1) = mks rs ∧ OkA P := let ⟨_, _, _, p, f, g⟩ := h; ⟨f, rdn_adjA p g l⟩
end My

namespace My
open PySem L2
def spLaw (K : PySem.W.Frag) : Sp := fun vs H Q _ => ∃ (a : Addr) (ns : List Int), vs = [.ref a] ∧ SqL K H a (ns.map V.int) ∧ ns.length ≤ 63 ∧ ∀ H', Q (.bl true) H'
theorem inB_iff {rs : List Row} {P Q : List Rl} (g : GoodC rs) (hP : P.map (·.1) = mks rs ∧ OkA P) (hQ : Q.map (·.1) = mks rs ∧ OkA Q) : inB rs P Q = true ↔ LeP rs P Q := by
  unfold inB
  rw [← gap_iff g hP.1 hQ.1 hP.2 hQ.2]
  cases gapB rs P Q <;> simp
theorem inB_met {rs : List Row} {P Q R : List Rl} (g : GoodC rs) (hP : P.map (·.1) = mks rs ∧ OkA P) (hQ : Q.map (·.1) = mks rs ∧ OkA Q) (hR : R.map (·.1) = mks rs ∧ OkA R) : inB rs R (metR P Q) = (inB rs R P && inB rs R Q) := by
  have hM : (metR P Q).map (·.1) = mks rs ∧ OkA (metR P Q) := ⟨by rw [metR_fst, hP.1], met_okA hP.2 hQ.2⟩
  rw [Bool.eq_iff_iff, Bool.and_eq_true, inB_iff g hR hM, inB_iff g hR hP, inB_iff g hR hQ]
  exact le_met g hP.1 hQ.1 hR.1 hP.2 hQ.2
section
variable {w : World} {K : PySem.W.Frag} {mg : Str → Option Value} {base : Heap}
set_option maxHeartbeats 64000000 in
set_option pp.maxSteps 500 in
theorem ok_law (T : Txt K mg) : FnOk PP w K mg base CX0 40 T.a_law T.fd_law ["_law_script"] (spLaw K) := by
  refine T.F_law.ok sc_law (fun vs H Q E h => ?_) (fun cdv A outer s H vs Q E hr h => ?_)
  · obtain ⟨a, ns, rfl, _⟩ := h; rfl
  · obtain ⟨a0, ns0, rfl, hS, hlen, qq⟩ := h
    refine ⟨_, (pss_cons (ps_set (i := 1) sc_law.nd rfl (.inl rfl) (pe_call (ok__law_draws T) (hr.mono (by omega)) (by rfl) T.g__law_draws T.F__law_draws.kp T.b__law_draws .nil pass0 (pa_cons (pv 0) pa_nil)))
      (pss_cons (ps_set (i := 2) sc_law.nd rfl (.inl rfl) (pe_lst (pa_cons (pe_int) pa_nil)))
      (pss_cons (ps_set (i := 3) sc_law.nd rfl (.inr rfl) (pe_call (ok__law_cut T) (hr.mono (by omega)) (by rfl) T.g__law_cut T.F__law_cut.kp T.b__law_cut .nil pass0 (pa_cons (pe_call (ok__law_rows T) (hr.mono (by omega)) (by rfl) T.g__law_rows T.F__law_rows.kp T.b__law_rows .nil pass0 (pa_cons (pv 1) (pa_cons (pv 2) (pa_cons (pe_bl) pa_nil)))) (pa_cons (pe_int) pa_nil))))
      (pss_cons (ps_set (i := 4) sc_law.nd rfl (.inl rfl) (pe_call (ok__law_rules T) (hr.mono (by omega)) (by rfl) T.g__law_rules T.F__law_rules.kp T.b__law_rules .nil pass0 (pa_cons (pv 1) (pa_cons (pv 2) (pa_cons (pv 3) pa_nil)))))
      (pss_cons (ps_set (i := 5) sc_law.nd rfl (.inl rfl) (pe_call (ok__law_loosened T) (hr.mono (by omega)) (by rfl) T.g__law_loosened T.F__law_loosened.kp T.b__law_loosened .nil pass0 (pa_cons (pv 1) (pa_cons (pv 2) (pa_cons (pv 4) pa_nil)))))
      (pss_cons (ps_set (i := 6) sc_law.nd rfl (.inl rfl) (pe_call (ok__law_tightened T) (hr.mono (by omega)) (by rfl) T.g__law_tightened T.F__law_tightened.kp T.b__law_tightened .nil pass0 (pa_cons (pv 1) (pa_cons (pv 2) (pa_cons (pv 4) pa_nil)))))
      (pss_cons (ps_set (i := 7) sc_law.nd rfl (.inl rfl) (pe_ix ix_list (pe_lst (pa_cons (pv 6) (pa_cons (pv 5) (pa_cons (pe_call (ok__law_rules T) (hr.mono (by omega)) (by rfl) T.g__law_rules T.F__law_rules.kp T.b__law_rules .nil pass0 (pa_cons (pv 1) (pa_cons (pv 2) (pa_cons (pv 3) pa_nil)))) pa_nil)))) (pe_call (ok__law_take T) (hr.mono (by omega)) (by rfl) T.g__law_take T.F__law_take.kp T.b__law_take .nil pass0 (pa_cons (pv 1) (pa_cons (pv 2) (pa_cons (pe_int) pa_nil)))) (fun _ _ => rfl)))
      (pss_cons (ps_set (i := 8) sc_law.nd rfl (.inl rfl) (pe_call (ok__law_take T) (hr.mono (by omega)) (by rfl) T.g__law_take T.F__law_take.kp T.b__law_take .nil pass0 (pa_cons (pv 1) (pa_cons (pv 2) (pa_cons (pe_int) pa_nil)))))
      (C8.pss_cut (ps_if (pt_cmpR op_eq (pv 8) (pe_int) (nomark _)) (pss_one (ps_set (i := 9) sc_law.nd rfl (.inl rfl) (pe_call (ok__law_changed T) (hr.mono (by omega)) (by rfl) T.g__law_changed T.F__law_changed.kp T.b__law_changed .nil pass0 (pa_cons (pv 1) (pa_cons (pv 2) (pa_cons (pv 7) pa_nil)))))) (pss_one (ps_if (pt_cmpR op_eq (pv 8) (pe_int) (nomark _)) (pss_one (ps_set (i := 9) sc_law.nd rfl (.inl rfl) (pe_call (ok__law_changed T) (hr.mono (by omega)) (by rfl) T.g__law_changed T.F__law_changed.kp T.b__law_changed .nil pass0 (pa_cons (pv 1) (pa_cons (pv 2) (pa_cons (pv 4) pa_nil)))))) (pss_one (ps_if (pt_cmpR op_eq (pv 8) (pe_int) (nomark _)) (pss_one (ps_set (i := 9) sc_law.nd rfl (.inl rfl) (pe_call (ok__law_changed T) (hr.mono (by omega)) (by rfl) T.g__law_changed T.F__law_changed.kp T.b__law_changed .nil pass0 (pa_cons (pv 1) (pa_cons (pv 2) (pa_cons (pe_call (ok__law_both T) (hr.mono (by omega)) (by rfl) T.g__law_both T.F__law_both.kp T.b__law_both .nil pass0 (pa_cons (pv 4) (pa_cons (pv 7) pa_nil))) pa_nil)))))) (pss_one (ps_set (i := 9) sc_law.nd rfl (.inl rfl) (pe_call (ok__law_rules T) (hr.mono (by omega)) (by rfl) T.g__law_rules T.F__law_rules.kp T.b__law_rules .nil pass0 (pa_cons (pv 1) (pa_cons (pv 2) (pa_cons (pv 3) pa_nil)))))))))))
      (pss_cons (ps_setLc (i := 10) (own := [("_law_rules_here", 11)]) (g := (gName 11)) (by rfl) sc_law.nd rfl rfl (sw_true rfl rfl rfl (by decide +kernel)) (pi_list (pe_lst (pa_cons (pv 4) (pa_cons (pv 7) (pa_cons (pv 9) pa_nil))))) (blkOk_by (own := [("_law_rules_here", 11)]) (N := ["_law_script", "_law_draws_here", "_law_at", "_law_rows_here", "_law_first", "_law_looser", "_law_tighter", "_law_second", "_law_choice", "_law_third", "_law_made", "_law_rules_here", "_law_table_here", "_law_meet", "_law_join", "_law_k", "_law_bounds"]) (sc := defScope S_law) (by decide +kernel)) (fun _ _ _ _ _ => (pg_name (i := 11) sc_law.nd rfl (by first | exact .inl rfl | exact .inr rfl))) (fun _ _ _ _ _ => pts_nil) (fun _ _ _ _ _ => (pe_call (ok__law_policy T) (hr.mono (by omega)) (by rfl) T.g__law_policy T.F__law_policy.kp T.b__law_policy .nil pass0 (pa_cons (pe_call (ok__law_shape T) (hr.mono (by omega)) (by rfl) T.g__law_shape T.F__law_shape.kp T.b__law_shape .nil pass0 (pa_cons (pv 3) pa_nil)) (pa_cons (pv 11) pa_nil)))))
      (pss_cons (ps_set (i := 12) sc_law.nd rfl (.inl rfl) (pe_call ((ok__law_table T).calm) (hr.mono (by omega)) (by rfl) T.g__law_table T.F__law_table.kp T.b__law_table .nil pass0 (pa_cons (pv 10) pa_nil)))
      (pss_cons (ps_if (pt_not (pt_val (pe_call (ok__law_table_good T) (hr.mono (by omega)) (by rfl) T.g__law_table_good T.F__law_table_good.kp T.b__law_table_good .nil pass0 (pa_cons (pv 12) pa_nil)))) (pss_one (ps_ret (pe_bl))) pss_nil)
      (pss_cons (ps_set (i := 13) sc_law.nd rfl (.inl rfl) (pe_op (op_binO T.of_Policy_and ((ok_Policy_and T).calm) (hr.mono (by omega)) T.b_Policy_and pass0) (pe_ix ix_list (pv 10) (pe_int) (fun _ _ => rfl)) (pe_ix ix_list (pv 10) (pe_int) (fun _ _ => rfl))))
      (pss_cons (ps_set (i := 14) sc_law.nd rfl (.inl rfl) (pe_op (op_binO T.of_Policy_or ((ok_Policy_or T).calm) (hr.mono (by omega)) T.b_Policy_or pass0) (pe_ix ix_list (pv 10) (pe_int) (fun _ _ => rfl)) (pe_ix ix_list (pv 10) (pe_int) (fun _ _ => rfl))))
      (pss_cons (ps_for PassesOwn.never rfl (pi_range1 (by rfl) T.n_range (pa_cons (pe_int) pa_nil)) (pg_name (i := 15) sc_law.nd rfl (.inl rfl)) (pss_one (ps_if (pt_not (pt_val (pe_call (ok__law_same T 1) (hr.mono (by omega)) (by rfl) T.g__law_same T.F__law_same.kp T.b__law_same .nil pass0 (pa_cons (pe_call ((ok_included T).calm) (hr.mono (by omega)) (by rfl) T.g_included T.F_included.kp T.b_included .nil pass0 (pa_cons (pe_ix ix_list (pv 10) (pv 15) (fun _ _ => rfl)) (pa_cons (pv 13) pa_nil))) (pa_cons (pe_and (pe_ix ix_list (pe_ix ix_list (pv 12) (pv 15) (fun _ _ => rfl)) (pe_int) (fun _ _ => rfl)) (pe_one (pe_ix ix_list (pe_ix ix_list (pv 12) (pv 15) (fun _ _ => rfl)) (pe_int) (fun _ _ => rfl)))) pa_nil))))) (pss_one (ps_ret (pe_bl))) pss_nil)))
      (pss_cons (ps_for PassesOwn.never rfl (pi_range1 (by rfl) T.n_range (pa_cons (pe_int) pa_nil)) (pg_name (i := 15) sc_law.nd rfl (.inl rfl)) (pss_one (ps_if (PW.pt (pw_or (pt_not (pt_val (pe_call ((ok_included T).calm) (hr.mono (by omega)) (by rfl) T.g_included T.F_included.kp T.b_included .nil pass0 (pa_cons (pv 13) (pa_cons (pe_ix ix_list (pv 10) (pv 15) (fun _ _ => rfl)) pa_nil))))) (pw_or1 (pt_not (pt_val (pe_call ((ok_included T).calm) (hr.mono (by omega)) (by rfl) T.g_included T.F_included.kp T.b_included .nil pass0 (pa_cons (pe_ix ix_list (pv 10) (pv 15) (fun _ _ => rfl)) (pa_cons (pv 14) pa_nil)))))))) (pss_one (ps_ret (pe_bl))) pss_nil)))
      (pss_cons (ps_setLc (i := 16) (own := [("_law_rules_here", 11)]) (g := (gName 11)) (by rfl) sc_law.nd rfl rfl (sw_true rfl rfl rfl (by decide +kernel)) (pi_list (pe_lst (pa_cons (pv 6) (pa_cons (pv 5) pa_nil)))) (blkOk_by (own := [("_law_rules_here", 11)]) (N := ["_law_script", "_law_draws_here", "_law_at", "_law_rows_here", "_law_first", "_law_looser", "_law_tighter", "_law_second", "_law_choice", "_law_third", "_law_made", "_law_rules_here", "_law_table_here", "_law_meet", "_law_join", "_law_k", "_law_bounds"]) (sc := defScope S_law) (by decide +kernel)) (fun _ _ _ _ _ => (pg_name (i := 11) sc_law.nd rfl (by first | exact .inl rfl | exact .inr rfl))) (fun _ _ _ _ _ => pts_nil) (fun _ _ _ _ _ => (pe_call (ok__law_policy T) (hr.mono (by omega)) (by rfl) T.g__law_policy T.F__law_policy.kp T.b__law_policy .nil pass0 (pa_cons (pe_call (ok__law_shape T) (hr.mono (by omega)) (by rfl) T.g__law_shape T.F__law_shape.kp T.b__law_shape .nil pass0 (pa_cons (pv 3) pa_nil)) (pa_cons (pv 11) pa_nil)))))
      (pss_cons (ps_if (PW.pt (pw_or (pt_not (pt_val (pe_call ((ok_included T).calm) (hr.mono (by omega)) (by rfl) T.g_included T.F_included.kp T.b_included .nil pass0 (pa_cons (pe_ix ix_list (pv 16) (pe_int) (fun _ _ => rfl)) (pa_cons (pe_ix ix_list (pv 10) (pe_int) (fun _ _ => rfl)) pa_nil))))) (pw_or1 (pt_not (pt_val (pe_call ((ok_included T).calm) (hr.mono (by omega)) (by rfl) T.g_included T.F_included.kp T.b_included .nil pass0 (pa_cons (pe_ix ix_list (pv 10) (pe_int) (fun _ _ => rfl)) (pa_cons (pe_ix ix_list (pv 16) (pe_int) (fun _ _ => rfl)) pa_nil)))))))) (pss_one (ps_ret (pe_bl))) pss_nil)
      (pss_one (ps_ret (pe_and (pe_call (ok__law_same T 1) (hr.mono (by omega)) (by rfl) T.g__law_same T.F__law_same.kp T.b__law_same .nil pass0 (pa_cons (pe_call ((ok_included T).calm) (hr.mono (by omega)) (by rfl) T.g_included T.F_included.kp T.b_included .nil pass0 (pa_cons (pe_ix ix_list (pv 10) (pe_int) (fun _ _ => rfl)) (pa_cons (pe_ix ix_list (pv 10) (pe_int) (fun _ _ => rfl)) pa_nil))) (pa_cons (pe_ix ix_list (pe_ix ix_list (pv 12) (pe_int) (fun _ _ => rfl)) (pe_int) (fun _ _ => rfl)) pa_nil))) (pe_one (pe_call (ok__law_same T 1) (hr.mono (by omega)) (by rfl) T.g__law_same T.F__law_same.kp T.b__law_same .nil pass0 (pa_cons (pe_call ((ok_included T).calm) (hr.mono (by omega)) (by rfl) T.g_included T.F_included.kp T.b_included .nil pass0 (pa_cons (pe_ix ix_list (pv 10) (pe_int) (fun _ _ => rfl)) (pa_cons (pe_ix ix_list (pv 10) (pe_int) (fun _ _ => rfl)) pa_nil))) (pa_cons (pe_ix ix_list (pe_ix ix_list (pv 12) (pe_int) (fun _ _ => rfl)) (pe_int) (fun _ _ => rfl)) pa_nil))))))))))))))))))))))))), ?_⟩
    have big : 100000 < sizeLine := by decide
    refine ⟨_, rfl, a0, ns0, rfl, hS, hlen, fun d zs H1 s1 nd hd => ?_⟩
    refine ⟨by show 1 ≤ sizeLine; decide, fun t hat => ?_⟩
    have D0 : Dr K (upd H1 t (.lst [.int 0])) d t := ⟨⟨zs, same_new hat _ _ hd⟩, ⟨0, upd_same⟩, ne_of_none hd hat⟩
    revert D0
    generalize upd H1 t (.lst [.int 0]) = H2
    intro D0
    -- the rows
    refine ⟨_, rfl, _, rfl, d, t, false, rfl, D0, fun ms prs ws0 R0 H5 pok m3 l1 l3 nms0 oms D5 b5 nR0 hR0 rR0 => ?_⟩
    have g0 := good_named pok (by omega : ms.length ≤ 6) (Nat.le_refl _) nms0 oms
    have g : GoodC (cutL (prs.map (nameR ms))) := by
      rw [cut_named pok (Nat.le_refl _) nms0]
      exact good_named (cut_plan pok) (by omega) (by omega) nms0 oms
    have lrs : (cutL (prs.map (nameR ms))).length = min 2 ms.length := by
      unfold cutL
      rw [List.length_map, List.length_take, List.length_map, pok.1]
    refine ⟨R0, ws0, _, rfl, hR0, rowsN_sub rR0 (fun _ _ => trivial), fun r hr => by have := (g0.bnd r hr).2; omega, fun R ws H6 s6 nR hR6 rR => ?_⟩
    generalize cutL (prs.map (nameR ms)) = rs at g lrs rR
    have D6 := D5.same s6
    have nRt : R ≠ t := D5.na nR
    have rR6 : RowsN (fun a => a ≠ t) true H6 ws rs := rowsN_sub rR fun a f => D5.na f
    have wo : wordsOk rs := g.g.words
    have lws := pair_len' rR6
    have ndm : (mks rs).Nodup := g.nd
    have nrs : rs ≠ [] := fun z => by rw [z] at lrs; simp at lrs; omega
    have lenP : ∀ {P : List Rl}, P.map (·.1) = mks rs → P.length = rs.length := fun {P} e => by rw [← List.length_map (f := fun r : Rl => r.1), e]; unfold mks; rw [List.length_map]
    have neP : ∀ {P : List Rl}, P.map (·.1) = mks rs → P ≠ [] := fun {P} e z => by have := lenP e; rw [z] at this; simp at this; omega
    clear g0 nR0 hR0 rR0 D5 b5 D0 rR s6 nR
    -- the rules
    refine ⟨_, rfl, _, rfl, _, rfl, d, t, R, ws, rs, rfl, D6, hR6, nRt, rR6, by omega, ndm, fun P1 kv1 G1 H7 e1 w1 D7 b7 nG1 hG1 pG1 => ?_⟩
    have T1 : TbO t rs 3 H7 G1 P1 := ⟨D6.na nG1, kv1, hG1, pG1, e1, w1⟩
    have nd1 : (P1.map (·.1)).Nodup := by rw [e1]; exact ndm
    have lP1 := lenP e1
    refine ⟨_, rfl, _, rfl, _, rfl, d, t, G1, kv1, P1, 3, rfl, D7, hG1, pG1, nd1, by omega, by omega, by decide, w1, fun PL kvL GL H8 eL wL kL D8 b8 nGL hGL pGL => ?_⟩
    have TL : TbO t rs 4 H8 GL PL := ⟨D7.na nGL, kvL, hGL, pGL, by rw [eL, e1], wL⟩
    have T18 := T1.but b8
    have n1L : G1 ≠ GL := ne_of_none hG1 nGL
    clear T1 hG1 pG1
    obtain ⟨nG1t, kv1', hG1, pG1, _, _⟩ := id T18
    refine ⟨_, rfl, _, rfl, _, rfl, d, t, G1, kv1', P1, 3, rfl, D8, hG1, pG1, nd1, by omega, by omega, by decide, w1, fun PT kvT GT H9 eT wT kT D9 b9 nGT hGT pGT => ?_⟩
    have TT : TbO t rs 4 H9 GT PT := ⟨D8.na nGT, kvT, hGT, pGT, by rw [eT, e1], wT⟩
    have n1T : G1 ≠ GT := ne_of_none hG1 nGT
    have T19 := T18.but b9
    have TL9 := TL.but b9
    have b69 := b7.trans (b8.trans b9)
    have hR9 := b69 _ _ nRt hR6
    have rR9 := rowsN_le rR6 fun a o f e => b69 a o f e
    clear T18 TL hG1 pG1 hGL pGL hGT pGT hR6 rR6 b69 b7 b8 b9 D6 D7 D8
    -- the second
    refine ⟨_, rfl, _, rfl, _, rfl, _, rfl, _, rfl, d, t, R, ws, rs, rfl, D9, hR9, nRt, rR9, by omega, ndm, fun P4 kv4 G4 Ha e4 w4 Da ba nG4 hG4 pG4 => ⟨by show 3 ≤ sizeLine; decide, fun c0 nc0 => ?_⟩⟩
    have T4 : TbO t rs 4 Ha G4 P4 := TbO.up ⟨D9.na nG4, kv4, hG4, pG4, e4, w4⟩ (by decide)
    obtain ⟨_, hG19, _⟩ := id T19.2
    have n14 : G1 ≠ G4 := ne_of_none hG19 nG4
    have s0 := same_new (o := .lst [.ref GT, .ref GL, .ref G4]) nc0
    have nc0t : c0 ≠ t := Da.na nc0
    refine ⟨_, rfl, _, rfl, d, t, 3, rfl, Da.same s0, by decide, fun r0 Hb r00 r01 Db bb => ?_⟩
    have bab : But t Ha Hb := (But.of_same s0).trans bb
    have b9b := ba.trans bab
    obtain ⟨S2, P2, hat2, T2, n12⟩ : ∃ S2 P2, atI [V.ref GT, .ref GL, .ref G4] r0 = some (.ref S2) ∧ TbO t rs 4 Hb S2 P2 ∧ G1 ≠ S2 := by
      rcases (by omega : r0 = 0 ∨ r0 = 1 ∨ r0 = 2) with rfl | rfl | rfl
      · exact ⟨GT, PT, rfl, TT.but b9b, n1T⟩
      · exact ⟨GL, PL, rfl, TL9.but b9b, n1L⟩
      · exact ⟨G4, P4, rfl, T4.but bab, n14⟩
    refine ⟨_, _, _, _, rfl, rfl, SqL.of (bb _ _ nc0t upd_same), hat2, ?_⟩
    have T1b := T19.but b9b
    have TLb := TL9.but b9b
    have TTb := TT.but b9b
    have hRb := b9b _ _ nRt hR9
    have rRb := rowsN_le rR9 fun a o f e => b9b a o f e
    clear T19 TL9 TT T4 hG4 pG4 hG19 s0 bb ba bab b9b hR9 rR9 Da D9 nc0
    -- the third
    refine ⟨_, rfl, _, rfl, d, t, 4, rfl, Db, by decide, fun ch Hc ch0 ch1 Dc bc => ?_⟩
    have T1c := T1b.but bc
    have T2c := T2.but bc
    have hRc := bc _ _ nRt hRb
    have rRc := rowsN_le rRb fun a o f e => bc a o f e
    refine ⟨fun σ' H' => ∃ (S3 : Addr) (P3 : List Rl), σ' = [some (.ref a0), some (.ref d), some (.ref t), some (.ref R), some (.ref G1), some (.ref GL), some (.ref GT), some (.ref S2), some (.int ch), some (.ref S3), none, none, none, none, none, none, none] ∧ Dr K H' d t ∧ But t Hc H' ∧ TbO t rs 5 H' S3 P3, ?_, ?_⟩
    · obtain ⟨_, kv1c, hG1c, pG1c, _, w1c⟩ := id T1c
      obtain ⟨_, kv2c, hS2c, pS2c, e2, w2c⟩ := id T2c
      have nd2 : (P2.map (·.1)).Nodup := by rw [e2]; exact ndm
      have lP2 := lenP e2
      refine ⟨_, rfl, rfl, _, rfl, iteD (fun _ => ?_) (fun _ => ?_)⟩
      · exact ⟨_, rfl, _, rfl, _, rfl, d, t, S2, kv2c, P2, 4, rfl, Dc, hS2c, pS2c, nd2, by omega, by omega, by decide, w2c, fun P3 kv3 S3 Hd e3 w3 _ Dd bd n3 h3 p3 => ⟨S3, P3, rfl, Dd, bd, Dc.na n3, kv3, h3, p3, by rw [e3, e2], w3⟩⟩
      refine ⟨_, rfl, rfl, _, rfl, iteD (fun _ => ?_) (fun _ => ?_)⟩
      · exact ⟨_, rfl, _, rfl, _, rfl, d, t, G1, kv1c, P1, 3, rfl, Dc, hG1c, pG1c, nd1, by omega, by omega, by decide, w1c, fun P3 kv3 S3 Hd e3 w3 _ Dd bd n3 h3 p3 => ⟨S3, P3, rfl, Dd, bd, TbO.up ⟨Dc.na n3, kv3, h3, p3, by rw [e3, e1], w3⟩ (by decide)⟩⟩
      refine ⟨_, rfl, rfl, _, rfl, iteD (fun _ => ?_) (fun _ => ?_)⟩
      · refine ⟨_, rfl, _, rfl, _, rfl, _, rfl, G1, S2, kv1c, kv2c, P1, P2, 3, rfl, hG1c, hS2c, n12, L2.Paired.mapP pG1c fun _ _ h => h.v, L2.Paired.mapP pS2c fun _ _ h => h.v, nd1, by rw [e1, e2], by omega, by decide, w1c, fun PB kvB SB Hd eB wB sB nB hB pB => ?_⟩
        have DB := Dc.same sB
        obtain ⟨kt, htB⟩ := DB.pl
        have lPB : PB.length = rs.length := lenP (by rw [eB, e1])
        exact ⟨d, t, SB, kvB, PB, 3, rfl, DB, hB, L2.Paired.mapP pB fun _ _ h => rdv_off h htB, by rw [eB]; exact nd1, by omega, by omega, by decide, wB, fun P3 kv3 S3 Hd e3 w3 _ Dd bd n3 h3 p3 => ⟨S3, P3, rfl, Dd, (But.of_same sB).trans bd, TbO.up ⟨DB.na n3, kv3, h3, p3, by rw [e3, eB, e1], w3⟩ (by decide)⟩⟩
      · exact ⟨_, rfl, _, rfl, _, rfl, d, t, R, ws, rs, rfl, Dc, hRc, nRt, rRc, by omega, ndm, fun P3 kv3 S3 Hd e3 w3 Dd bd n3 h3 p3 => ⟨S3, P3, rfl, Dd, bd, TbO.up ⟨Dc.na n3, kv3, h3, p3, e3, w3⟩ (by decide)⟩⟩
    rintro _ Hd ⟨S3, P3, rfl, Dd, bcd, T3⟩
    have bbd := bc.trans bcd
    have T1d := T1b.but bbd
    have T2d := T2.but bbd
    have TLd := TLb.but bbd
    have TTd := TTb.but bbd
    have hRd := bbd _ _ nRt hRb
    have rRd : RowsN (fun _ => True) true Hd ws rs := rowsN_sub (rowsN_le rRb fun a o f e => bbd a o f e) fun _ _ => trivial
    have ok1 := T1d.ok (by decide)
    have ok2 := T2d.ok (by decide)
    have ok3 := T3.ok (by decide)
    have okL := TLd.ok (by decide)
    have okT := TTd.ok (by decide)
    clear T1b T2 TLb TTb T1c T2c hRb rRb hRc rRc bc bcd bbd Db Dc
    have dat : ∀ {B : Nat} {S : Addr} {P : List Rl}, TbO t rs B Hd S P → ∃ S' kv, V.ref S = .ref S' ∧ Hd S' = some (.dK kv) ∧ Paired (RdV Hd) kv P ∧ P.map (·.1) = mks rs := fun {B S P} ⟨_, kv, h, p, f, _⟩ => ⟨S, kv, rfl, h, L2.Paired.mapP p fun _ _ h => h.v, f⟩
    have px : Paired (fun v P => ∃ S kv, v = V.ref S ∧ Hd S = some (.dK kv) ∧ Paired (RdV Hd) kv P ∧ P.map (·.1) = mks rs) [V.ref G1, .ref S2, .ref S3] [P1, P2, P3] := .cons (dat T1d) (.cons (dat T2d) (.cons (dat T3) .nil))
    have py : Paired (fun v P => ∃ S kv, v = V.ref S ∧ Hd S = some (.dK kv) ∧ Paired (RdV Hd) kv P ∧ P.map (·.1) = mks rs) [V.ref GT, .ref GL] [PT, PL] := .cons (dat TTd) (.cons (dat TLd) .nil)
    -- the policies
    refine ⟨_, rfl, _, rfl, _, rfl, by show 3 ≤ sizeLine; decide, fun c1 nc1 => ?_⟩
    have sc1 := same_new (o := .lst [V.ref G1, .ref S2, .ref S3]) nc1
    have hc1 : (upd Hd c1 (.lst [V.ref G1, .ref S2, .ref S3])) c1 = some (.lst [V.ref G1, .ref S2, .ref S3]) := upd_same
    revert sc1 hc1
    generalize upd Hd c1 (.lst [V.ref G1, .ref S2, .ref S3]) = He
    intro sc1 hc1
    refine ⟨c1, rfl, ⟨_, SqL.of hc1⟩, fun M nM => lc_list (K := K) (a := c1) (xs := [V.ref G1, .ref S2, .ref S3]) (fun i H' => ∃ us, Same He H' ∧ H' M = some (.lst us) ∧ us.length ≤ i ∧ Paired (fun v P => PolsV T.c_Policy T.c_Way T.c_Shape rs H' v P ∧ P ≠ []) us ([P1, P2, P3].take i)) ⟨[], same_new nM, upd_same, Nat.le_refl _, .nil⟩ (fun i H' _ ⟨_, s, _⟩ => SqL.of (s _ _ hc1)) ?_ ?_⟩
    · rintro i v Hf hv ⟨us, sf, hMf, lus, pf⟩
      have hi : i < 3 := (List.getElem?_eq_some_iff.mp hv).1
      obtain ⟨Pi, hPi, S, kv, rfl, hS, pS, fS⟩ := pair_get' px hv
      have sdf := sc1.trans sf
      refine ⟨rfl, yes_i (iteT ⟨_, rfl, R, ws, rs, rfl, sdf _ _ hRd, rowsN_same rRd sdf, by omega, by omega, g, fun x Hg sb nx Sx => ⟨_, rfl, x, S, rs, kv, Pi, rfl, Sx.sh, ndm, by omega, (sdf.trans sb) _ _ hS, L2.Paired.mapP pS fun _ _ h => h.same (sdf.trans sb), fS, fun p m pa pb Hh sg np nm npa npb Pp => ?_⟩⟩)⟩
      have hMh := sg _ _ (sb _ _ hMf)
      have ph := L2.Paired.mapP pf fun _ _ h => And.intro (PolsV.same h.1 (sb.trans sg)) h.2
      have ph1 := L2.Paired.mapP ph fun _ _ h => h.1
      refine ⟨us, hMh, by omega, us ++ [.ref p], same_mut (sf.trans (sb.trans sg)) nM, upd_same, by rw [List.length_append]; simp; omega, ?_⟩
      rw [List.take_add_one, hPi, Option.toList_some]
      exact pair_app' (L2.Paired.mapP ph fun _ _ h => ⟨h.1.upd hMh ph1 nrs h.2, h.2⟩) (.cons ⟨PolsV.upd ⟨p, x, m, pa, pb, rfl, Pp, Sx.sh.same sg⟩ hMh ph1 nrs (neP fS), neP fS⟩ .nil)
    rintro Hf ⟨us, sf, hMf, lus, pf⟩
    have pf : Paired (fun v P => PolsV T.c_Policy T.c_Way T.c_Shape rs Hf v P ∧ P ≠ []) us [P1, P2, P3] := pf
    have pf : Paired (PolsV T.c_Policy T.c_Way T.c_Shape rs Hf) us [P1, P2, P3] := L2.Paired.mapP pf fun _ _ h => h.1
    have sdf := sc1.trans sf
    have okA3 : okPs rs [P1, P2, P3] := fun P hP => by
      simp only [List.mem_cons, List.not_mem_nil, or_false] at hP
      rcases hP with rfl | rfl | rfl
      · exact ok1
      · exact ok2
      · exact ok3
    -- the table
    refine ⟨_, rfl, M, us, rs, [P1, P2, P3], rfl, hMf, pf, g, wo, okA3, by show 3 ≤ 10; decide, fun tb lv Hg sg ntb htb ptb => ?_⟩
    have sdg := sdf.trans sg
    obtain ⟨Pn, ePn⟩ : ∃ Pn : Nat → List Rl, Pn = fun p => ([P1, P2, P3][p]?).getD [] := ⟨_, rfl⟩
    have hPn : ∀ p, p < 3 → [P1, P2, P3][p]? = some (Pn p) := fun p hp => by
      rw [ePn]
      rcases (by omega : p = 0 ∨ p = 1 ∨ p = 2) with rfl | rfl | rfl <;> rfl
    have okn : ∀ p, p < 3 → (Pn p).map (·.1) = mks rs ∧ OkA (Pn p) := fun p hp => okA3 _ (List.mem_of_getElem? (hPn p hp))
    have hrow : ∀ p, p < 3 → ∃ a ls, lv[p]? = some (.ref a) ∧ Hg a = some (.lst ls) ∧ ∀ q, q < 3 → ls[q]? = some (.bl (inB rs (Pn p) (Pn q))) := fun p hp => by
      obtain ⟨v, hv, a, rfl, ha⟩ := pair_back ptb (hPn p hp)
      exact ⟨a, _, hv, ha, fun q hq => by rw [List.getElem?_map, hPn q hq]; rfl⟩
    have e0 : Pn 0 = P1 := by rw [ePn]; rfl
    have e1' : Pn 1 = P2 := by rw [ePn]; rfl
    refine ⟨_, rfl, tb, lv, fun p q => inB rs (Pn p) (Pn q), rfl, htb, hrow, fun p hp => (inB_iff g (okn p hp) (okn p hp)).mpr (le_refl g (okn p hp).1), fun p q r hp hq hr h1 h2 => (inB_iff g (okn p hp) (okn r hr)).mpr (le_trans g (okn p hp).1 (okn q hq).1 (okn r hr).1 (okn p hp).2 (okn q hq).2 ((inB_iff g (okn p hp) (okn q hq)).mp h1) ((inB_iff g (okn q hq) (okn r hr)).mp h2)), _, rfl, iteNo rfl ?_⟩
    have hMg := sg _ _ hMf
    have pg : Paired (PolsV T.c_Policy T.c_Way T.c_Shape rs Hg) us [P1, P2, P3] := L2.Paired.mapP pf fun _ _ h => h.same sg
    obtain ⟨v1, hv1, y1, x1, m1, a1, b1, rfl, Po1, Sh1⟩ := pair_back pg (i := 0) (y := P1) rfl
    obtain ⟨v2, hv2, y2, x2, m2, a2, b2, rfl, Po2, Sh2⟩ := pair_back pg (i := 1) (y := P2) rfl
    obtain ⟨d1, hy1⟩ := Po1.obj
    obtain ⟨d2, hy2⟩ := Po2.obj
    have lP1 := lenP ok1.1
    -- the meet
    refine ⟨_, rfl, _, _, _, _, rfl, rfl, SqL.of hMg, atI_nat (j := 0) hv1, _, rfl, _, _, _, _, rfl, rfl, SqL.of hMg, atI_nat (j := 1) hv2, y1, d1, _, rfl, hy1, .inl ⟨y2, d2, _, rfl, hy2⟩, y1, y2, x1, m1, a1, b1, x2, m2, a2, b2, P1, P2, rs, rs, rfl, Po1, Po2, Sh1, Sh2, wo, wo, ok1.1, ok2.1, ok1.2, ok2.2, by omega, fun _ z zm za zb Hh sh nz nzm nza nzb Pz => ?_, fun n => absurd rfl n⟩
    have okM : (metR P1 P2).map (·.1) = mks rs ∧ OkA (metR P1 P2) := ⟨by rw [metR_fst, ok1.1], met_okA ok1.2 ok2.2⟩
    -- the join
    refine ⟨_, rfl, _, _, _, _, rfl, rfl, SqL.of (sh _ _ hMg), atI_nat (j := 0) hv1, _, rfl, _, _, _, _, rfl, rfl, SqL.of (sh _ _ hMg), atI_nat (j := 1) hv2, y1, d1, _, rfl, sh _ _ hy1, .inl ⟨y2, d2, _, rfl, sh _ _ hy2⟩, y1, y2, x1, m1, a1, b1, x2, m2, a2, b2, P1, P2, rs, rs, rfl, Po1.same sh, Po2.same sh, Sh1.same sh, Sh2.same sh, wo, wo, ok1.1, ok2.1, ok1.2, ok2.2, by omega, fun _ j jm ja jb Hi si nj njm nja njb Pj => ?_, fun n => absurd rfl n⟩
    have okJ : (joinR P1 P2).map (·.1) = mks rs ∧ OkA (joinR P1 P2) := ⟨by rw [joinR_fst, ok1.1], join_ok (fun r hr => (ok1.2 r hr).1) (fun r hr => (ok2.2 r hr).1)⟩
    have sgi := sh.trans si
    have Pzi := Pz.same si
    have Shz := Sh1.same sgi
    have pi : Paired (PolsV T.c_Policy T.c_Way T.c_Shape rs Hi) us [P1, P2, P3] := L2.Paired.mapP pg fun _ _ h => h.same sgi
    have hMi := sgi _ _ hMg
    have htbi := sgi _ _ htb
    have tab : ∀ p q, p < 3 → q < 3 → ∃ a ls, lv[p]? = some (.ref a) ∧ Hi a = some (.lst ls) ∧ ls[q]? = some (.bl (inB rs (Pn p) (Pn q))) := fun p q hp hq => by
      obtain ⟨a, ls, e, h, f⟩ := hrow p hp
      exact ⟨a, ls, e, sgi _ _ h, f q hq⟩
    refine ⟨3, rfl, by decide, by decide, for_range (lo := 0) (n := 3) (fun i σ H' => ∃ (x15 : Option V), σ = [some (.ref a0), some (.ref d), some (.ref t), some (.ref R), some (.ref G1), some (.ref GL), some (.ref GT), some (.ref S2), some (.int ch), some (.ref S3), some (.ref M), none, some (.ref tb), some (.ref z), some (.ref j), x15, none] ∧ Same Hi H') ⟨_, rfl, Same.refl _⟩ ?_ ?_⟩
    · rintro k σ Hj hk ⟨x15, rfl, sj⟩
      rw [Int.zero_add]
      obtain ⟨v, hv, y, x, m, a, b, rfl, Po, Sh⟩ := pair_back pi (hPn k hk)
      obtain ⟨a3, ls, ea, ha, el0⟩ := tab k 0 hk (by decide)
      obtain ⟨a4, ls4, ea4, ha4, el1⟩ := tab k 1 hk (by decide)
      rw [e0] at el0
      rw [e1'] at el1
      have em := inB_met g ok1 ok2 (okn k hk)
      refine ⟨_, rfl, _, rfl, _, _, _, _, rfl, rfl, SqL.of (sj _ _ hMi), atI_nat hv, _, rfl, y, z, x, m, a, b, x1, zm, za, zb, Pn k, metR P1 P2, rs, rs, rfl, Po.same sj, Pzi.same sj, Sh.same sj, Shz.same sj, g, wo, wo, (okn k hk).1, okM.1, (okn k hk).2, okM.2, fun _ Hk sk => ?_, fun n => absurd rfl n⟩
      have sik := sj.trans sk
      refine ⟨_, rfl, _, rfl, _, _, _, _, rfl, rfl, SqL.of (sik _ _ htbi), atI_nat ea, _, _, _, _, rfl, rfl, SqL.of (sik _ _ ha), atI_nat (j := 0) el0, inB rs (Pn k) P1, rfl, ?_⟩
      have fin : ∀ b : Bool, b = inB rs (Pn k) (metR P1 P2) → (.bool (!gapB rs (Pn k) (metR P1 P2)) : PyData) = .bool b := fun b e => by rw [e]; rfl
      cases e5 : inB rs (Pn k) P1 with
      | true =>
        rw [e5, Bool.true_and] at em
        exact iteT ⟨_, rfl, _, rfl, _, _, _, _, rfl, rfl, SqL.of (sik _ _ htbi), atI_nat ea4, _, _, _, _, rfl, rfl, SqL.of (sik _ _ ha4), atI_nat (j := 1) el1, t, _, _, .bool (inB rs (Pn k) (metR P1 P2)), .bool (inB rs (Pn k) (metR P1 P2)), rfl, Dn.bl _, by rw [em]; exact Dn.bl _, _, rfl, iteNo nsame ⟨_, rfl, sik⟩⟩
      | false =>
        rw [e5, Bool.false_and] at em
        exact iteF ⟨t, _, _, .bool (inB rs (Pn k) (metR P1 P2)), .bool (inB rs (Pn k) (metR P1 P2)), rfl, Dn.bl _, by rw [em]; exact Dn.bl _, _, rfl, iteNo nsame ⟨_, rfl, sik⟩⟩
    rintro σ Hj ⟨x15, rfl, sj⟩
    have leJ := le_join g ok1.1 ok2.1 ok1.2 ok2.2
    have leM := (le_met g ok1.1 ok2.1 okM.1 ok1.2 ok2.2).mp (le_refl g okM.1)
    refine ⟨2, rfl, by decide, by decide, for_range (lo := 0) (n := 2) (fun i σ H' => ∃ (x15 : Option V), σ = [some (.ref a0), some (.ref d), some (.ref t), some (.ref R), some (.ref G1), some (.ref GL), some (.ref GT), some (.ref S2), some (.int ch), some (.ref S3), some (.ref M), none, some (.ref tb), some (.ref z), some (.ref j), x15, none] ∧ Same Hi H') ⟨_, rfl, sj⟩ ?_ ?_⟩
    · rintro k σ Hk hk ⟨x15, rfl, sk⟩
      rw [Int.zero_add]
      have hk3 : k < 3 := by omega
      obtain ⟨v, hv, y, x, m, a, b, rfl, Po, Sh⟩ := pair_back pi (hPn k hk3)
      have both : inB rs (metR P1 P2) (Pn k) = true ∧ inB rs (Pn k) (joinR P1 P2) = true := by
        rw [inB_iff g okM (okn k hk3), inB_iff g (okn k hk3) okJ]
        rcases (by omega : k = 0 ∨ k = 1) with rfl | rfl
        · rw [e0]; exact ⟨leM.1, leJ.1⟩
        · rw [e1']; exact ⟨leM.2, leJ.2⟩
      refine ⟨_, rfl, _, rfl, _, rfl, _, _, _, _, rfl, rfl, SqL.of (sk _ _ hMi), atI_nat hv, z, y, x1, zm, za, zb, x, m, a, b, metR P1 P2, Pn k, rs, rs, rfl, Pzi.same sk, Po.same sk, Shz.same sk, Sh.same sk, g, wo, wo, okM.1, (okn k hk3).1, okM.2, (okn k hk3).2, fun _ Hl sl => ⟨_, rfl, iteNo (by show (!inB rs (metR P1 P2) (Pn k)) = false; rw [both.1]; rfl) ?_⟩, fun n => absurd rfl n⟩
      have skl := sk.trans sl
      exact ⟨_, rfl, _, rfl, _, _, _, _, rfl, rfl, SqL.of (skl _ _ hMi), atI_nat hv, _, rfl, y, j, x, m, a, b, x1, jm, ja, jb, Pn k, joinR P1 P2, rs, rs, rfl, Po.same skl, Pj.same skl, Sh.same skl, Shz.same skl, g, wo, wo, (okn k hk3).1, okJ.1, (okn k hk3).2, okJ.2, fun _ Hm sm => ⟨_, rfl, iteNo (by show (!inB rs (Pn k) (joinR P1 P2)) = false; rw [both.2]; rfl) ⟨_, rfl, skl.trans sm⟩⟩, fun n => absurd rfl n⟩
    rintro σ Hk ⟨x15', rfl, sk⟩
    -- the bounds
    have sdk := sdg.trans (sgi.trans sk)
    refine ⟨_, rfl, _, rfl, by show 2 ≤ sizeLine; decide, fun c2 nc2 => ?_⟩
    have sc2 := same_new (o := .lst [V.ref GT, .ref GL]) nc2
    have hc2 : (upd Hk c2 (.lst [V.ref GT, .ref GL])) c2 = some (.lst [V.ref GT, .ref GL]) := upd_same
    revert sc2 hc2
    generalize upd Hk c2 (.lst [V.ref GT, .ref GL]) = Hl
    intro sc2 hc2
    refine ⟨c2, rfl, ⟨_, SqL.of hc2⟩, fun N nN => lc_list (K := K) (a := c2) (xs := [V.ref GT, .ref GL]) (fun i H' => ∃ us, Same Hl H' ∧ H' N = some (.lst us) ∧ us.length ≤ i ∧ Paired (fun v P => PolsV T.c_Policy T.c_Way T.c_Shape rs H' v P ∧ P ≠ []) us ([PT, PL].take i)) ⟨[], same_new nN, upd_same, Nat.le_refl _, .nil⟩ (fun i H' _ ⟨_, s, _⟩ => SqL.of (s _ _ hc2)) ?_ ?_⟩
    · rintro i v Hf hv ⟨us, sf, hMf, lus, pf⟩
      have hi : i < 2 := (List.getElem?_eq_some_iff.mp hv).1
      obtain ⟨Pi, hPi, S, kv, rfl, hS, pS, fS⟩ := pair_get' py hv
      have sdf := (sdk.trans sc2).trans sf
      refine ⟨rfl, yes_i (iteT ⟨_, rfl, R, ws, rs, rfl, sdf _ _ hRd, rowsN_same rRd sdf, by omega, by omega, g, fun x Hg sb nx Sx => ⟨_, rfl, x, S, rs, kv, Pi, rfl, Sx.sh, ndm, by omega, (sdf.trans sb) _ _ hS, L2.Paired.mapP pS fun _ _ h => h.same (sdf.trans sb), fS, fun p m pa pb Hh sg np nm npa npb Pp => ?_⟩⟩)⟩
      have hMh := sg _ _ (sb _ _ hMf)
      have ph := L2.Paired.mapP pf fun _ _ h => And.intro (PolsV.same h.1 (sb.trans sg)) h.2
      have ph1 := L2.Paired.mapP ph fun _ _ h => h.1
      refine ⟨us, hMh, by omega, us ++ [.ref p], same_mut (sf.trans (sb.trans sg)) nN, upd_same, by rw [List.length_append]; simp; omega, ?_⟩
      rw [List.take_add_one, hPi, Option.toList_some]
      exact pair_app' (L2.Paired.mapP ph fun _ _ h => ⟨h.1.upd hMh ph1 nrs h.2, h.2⟩) (.cons ⟨PolsV.upd ⟨p, x, m, pa, pb, rfl, Pp, Sx.sh.same sg⟩ hMh ph1 nrs (neP fS), neP fS⟩ .nil)
    rintro Hm ⟨us2, sm, hNm, _, pm⟩
    have pm : Paired (fun v P => PolsV T.c_Policy T.c_Way T.c_Shape rs Hm v P ∧ P ≠ []) us2 [PT, PL] := pm
    obtain ⟨vT, hvT, ⟨yT, xT, mT, aT, bT, rfl, PoT, ShT⟩, _⟩ := pair_back pm (i := 0) (y := PT) rfl
    obtain ⟨vL, hvL, ⟨yL, xL, mL, aL, bL, rfl, PoL, ShL⟩, _⟩ := pair_back pm (i := 1) (y := PL) rfl
    have sim := sk.trans (sc2.trans sm)
    have hMm := sim _ _ hMi
    have P1m := Po1.same (sgi.trans sim)
    have S1m := Sh1.same (sgi.trans sim)
    have P2m := Po2.same (sgi.trans sim)
    have S2m := Sh2.same (sgi.trans sim)
    have bT : inB rs PT P1 = true := (inB_iff g okT ok1).mpr (le_weak g okT.1 okT.2 kT)
    have bL' : inB rs P1 PL = true := (inB_iff g ok1 okL).mpr (le_weak g ok1.1 ok1.2 kL)
    refine ⟨_, rfl, _, _, _, _, rfl, rfl, SqL.of hNm, atI_nat (j := 0) hvT, _, rfl, _, _, _, _, rfl, rfl, SqL.of hMm, atI_nat (j := 0) hv1, yT, y1, xT, mT, aT, _, x1, m1, a1, b1, PT, P1, rs, rs, rfl, PoT, P1m, ShT, S1m, g, wo, wo, okT.1, ok1.1, okT.2, ok1.2, fun _ Hn sn => ⟨_, rfl, iteNo (by show (!inB rs PT P1) = false; rw [bT]; rfl) ?_⟩, fun n => absurd rfl n⟩
    refine ⟨_, rfl, _, _, _, _, rfl, rfl, SqL.of (sn _ _ hMm), atI_nat (j := 0) hv1, _, rfl, _, _, _, _, rfl, rfl, SqL.of (sn _ _ hNm), atI_nat (j := 1) hvL, y1, yL, x1, m1, a1, b1, xL, mL, aL, bL, P1, PL, rs, rs, rfl, P1m.same sn, PoL.same sn, S1m.same sn, ShL.same sn, g, wo, wo, ok1.1, okL.1, ok1.2, okL.2, fun _ Ho so => ⟨_, rfl, iteNo (by show (!inB rs P1 PL) = false; rw [bL']; rfl) ?_⟩, fun n => absurd rfl n⟩
    -- once more
    have smo := sn.trans so
    have sio := sim.trans smo
    obtain ⟨a3, ls, ea, ha, el⟩ := tab 0 1 (by decide) (by decide)
    obtain ⟨a4, ls4, ea4, ha4, el4⟩ := tab 1 0 (by decide) (by decide)
    rw [e0, e1'] at el
    rw [e0, e1'] at el4
    refine ⟨_, rfl, _, _, _, _, rfl, rfl, SqL.of (smo _ _ hMm), atI_nat (j := 0) hv1, _, rfl, _, _, _, _, rfl, rfl, SqL.of (smo _ _ hMm), atI_nat (j := 1) hv2, y1, y2, x1, m1, a1, b1, x2, m2, a2, b2, P1, P2, rs, rs, rfl, P1m.same smo, P2m.same smo, S1m.same smo, S2m.same smo, g, wo, wo, ok1.1, ok2.1, ok1.2, ok2.2, fun _ Hp sp => ?_, fun n => absurd rfl n⟩
    have sip := sio.trans sp
    refine ⟨_, rfl, _, _, _, _, rfl, rfl, SqL.of (sip _ _ htbi), atI_nat (j := 0) ea, _, _, _, _, rfl, rfl, SqL.of (sip _ _ ha), atI_nat (j := 1) el, t, _, _, .bool (inB rs P1 P2), .bool (inB rs P1 P2), rfl, Dn.bl _, Dn.bl _, _, rfl, iteYes (same_yes rfl) ?_⟩
    have smp := smo.trans sp
    refine ⟨_, rfl, _, _, _, _, rfl, rfl, SqL.of (smp _ _ hMm), atI_nat (j := 1) hv2, _, rfl, _, _, _, _, rfl, rfl, SqL.of (smp _ _ hMm), atI_nat (j := 0) hv1, y2, y1, x2, m2, a2, b2, x1, m1, a1, b1, P2, P1, rs, rs, rfl, P2m.same smp, P1m.same smp, S2m.same smp, S1m.same smp, g, wo, wo, ok2.1, ok1.1, ok2.2, ok1.2, fun _ Hq sq => ?_, fun n => absurd rfl n⟩
    have siq := sip.trans sq
    refine ⟨_, rfl, _, _, _, _, rfl, rfl, SqL.of (siq _ _ htbi), atI_nat (j := 1) ea4, _, _, _, _, rfl, rfl, SqL.of (siq _ _ ha4), atI_nat (j := 0) el4, t, _, _, .bool (inB rs P2 P1), .bool (inB rs P2 P1), rfl, Dn.bl _, Dn.bl _, ?_⟩
    rw [same_yes rfl]
    exact qq _
end
end My

namespace My
open PySem L2
theorem all_mk {w : World} {K : PySem.W.Frag} {h : Heap} {mg : Str → Option Value} {fa : Addr} (X : K.In h) (G : h.Ns mainGlobals mg) (hfa : mg "law" = some (.ref fa))
    {c_Way : Addr}
    {c_Policy : Addr}
    {c_Shape : Addr}
    {f_kinds : Addr} {od_kinds an_kinds : Option Addr} {sl_kinds : Array (Option Value)} {oc_kinds kV_kinds dc_kinds pm_kinds cd_kinds ct_kinds : Value}
    {f_supply : Addr} {od_supply an_supply : Option Addr} {sl_supply : Array (Option Value)} {oc_supply kV_supply dc_supply pm_supply cd_supply ct_supply : Value}
    {f_fits : Addr} {od_fits an_fits : Option Addr} {sl_fits : Array (Option Value)} {oc_fits kV_fits dc_fits pm_fits cd_fits ct_fits : Value}
    {f_first_rung : Addr} {od_first_rung an_first_rung : Option Addr} {sl_first_rung : Array (Option Value)} {oc_first_rung kV_first_rung dc_first_rung pm_first_rung cd_first_rung ct_first_rung : Value}
    {f_ladder : Addr} {od_ladder an_ladder : Option Addr} {sl_ladder : Array (Option Value)} {oc_ladder kV_ladder dc_ladder pm_ladder cd_ladder ct_ladder : Value}
    {f_reached : Addr} {od_reached an_reached : Option Addr} {sl_reached : Array (Option Value)} {oc_reached kV_reached dc_reached pm_reached cd_reached ct_reached : Value}
    {f_rank : Addr} {od_rank an_rank : Option Addr} {sl_rank : Array (Option Value)} {oc_rank kV_rank dc_rank pm_rank cd_rank ct_rank : Value}
    {f_needed : Addr} {od_needed an_needed : Option Addr} {sl_needed : Array (Option Value)} {oc_needed kV_needed dc_needed pm_needed cd_needed ct_needed : Value}
    {f_higher : Addr} {od_higher an_higher : Option Addr} {sl_higher : Array (Option Value)} {oc_higher kV_higher dc_higher pm_higher cd_higher ct_higher : Value}
    {f_Way_init : Addr} {od_Way_init an_Way_init : Option Addr} {sl_Way_init : Array (Option Value)} {oc_Way_init dc_Way_init pm_Way_init cd_Way_init ct_Way_init : Value}
    {dt_Way_init : Addr} {odt_Way_init : Option Addr} {cdt_Way_init : Value} {ndt_Way_init : Nat} {sdt_Way_init : Array (Option Value)} {tt_Way_init_0 : Tok} {tt_Way_init_1 : Tok} {tt_Way_init_2 : Tok}
    {kd_Way_init : Addr} 
    {f_Way_needs : Addr} {od_Way_needs an_Way_needs : Option Addr} {sl_Way_needs : Array (Option Value)} {oc_Way_needs kV_Way_needs dc_Way_needs pm_Way_needs cd_Way_needs ct_Way_needs : Value}
    {f_Way_permits : Addr} {od_Way_permits an_Way_permits : Option Addr} {sl_Way_permits : Array (Option Value)} {oc_Way_permits dc_Way_permits pm_Way_permits cd_Way_permits ct_Way_permits : Value}
    {kd_Way_permits : Addr} 
    {f_Way_eq : Addr} {od_Way_eq an_Way_eq : Option Addr} {sl_Way_eq : Array (Option Value)} {oc_Way_eq kV_Way_eq dc_Way_eq pm_Way_eq cd_Way_eq ct_Way_eq : Value}
    {f_Way_le : Addr} {od_Way_le an_Way_le : Option Addr} {sl_Way_le : Array (Option Value)} {oc_Way_le kV_Way_le dc_Way_le pm_Way_le cd_Way_le ct_Way_le : Value}
    {f_Way_and : Addr} {od_Way_and an_Way_and : Option Addr} {sl_Way_and : Array (Option Value)} {oc_Way_and kV_Way_and dc_Way_and pm_Way_and cd_Way_and ct_Way_and : Value}
    {f_trimmed : Addr} {od_trimmed an_trimmed : Option Addr} {sl_trimmed : Array (Option Value)} {oc_trimmed kV_trimmed dc_trimmed pm_trimmed cd_trimmed ct_trimmed : Value}
    {f_same_shape : Addr} {od_same_shape an_same_shape : Option Addr} {sl_same_shape : Array (Option Value)} {oc_same_shape kV_same_shape dc_same_shape pm_same_shape cd_same_shape ct_same_shape : Value}
    {f_met : Addr} {od_met an_met : Option Addr} {sl_met : Array (Option Value)} {oc_met kV_met dc_met pm_met cd_met ct_met : Value}
    {f_either : Addr} {od_either an_either : Option Addr} {sl_either : Array (Option Value)} {oc_either kV_either dc_either pm_either cd_either ct_either : Value}
    {f_all_counts : Addr} {od_all_counts an_all_counts : Option Addr} {sl_all_counts : Array (Option Value)} {oc_all_counts kV_all_counts dc_all_counts pm_all_counts cd_all_counts ct_all_counts : Value}
    {f_possible : Addr} {od_possible an_possible : Option Addr} {sl_possible : Array (Option Value)} {oc_possible kV_possible dc_possible pm_possible cd_possible ct_possible : Value}
    {f_permitted : Addr} {od_permitted an_permitted : Option Addr} {sl_permitted : Array (Option Value)} {oc_permitted kV_permitted dc_permitted pm_permitted cd_permitted ct_permitted : Value}
    {f_gap_at : Addr} {od_gap_at an_gap_at : Option Addr} {sl_gap_at : Array (Option Value)} {oc_gap_at kV_gap_at dc_gap_at pm_gap_at cd_gap_at ct_gap_at : Value}
    {f_gap : Addr} {od_gap an_gap : Option Addr} {sl_gap : Array (Option Value)} {oc_gap kV_gap dc_gap pm_gap cd_gap ct_gap : Value}
    {f_included : Addr} {od_included an_included : Option Addr} {sl_included : Array (Option Value)} {oc_included kV_included dc_included pm_included cd_included ct_included : Value}
    {f_Policy_init : Addr} {od_Policy_init an_Policy_init : Option Addr} {sl_Policy_init : Array (Option Value)} {oc_Policy_init dc_Policy_init pm_Policy_init cd_Policy_init ct_Policy_init : Value}
    {kV_Policy_init : Value}
    {dt_Policy_init : Addr} {odt_Policy_init : Option Addr} {cdt_Policy_init : Value} {ndt_Policy_init : Nat} {sdt_Policy_init : Array (Option Value)} {ed_Policy_init_0 : Addr}
    {oe_Policy_init_0 : Option Addr} {ne_Policy_init_0 : Nat} {se_Policy_init_0 : Array (Option Value)}
    {f_Policy_getitem : Addr} {od_Policy_getitem an_Policy_getitem : Option Addr} {sl_Policy_getitem : Array (Option Value)} {oc_Policy_getitem kV_Policy_getitem dc_Policy_getitem pm_Policy_getitem cd_Policy_getitem ct_Policy_getitem : Value}
    {f_Policy_setitem : Addr} {od_Policy_setitem an_Policy_setitem : Option Addr} {sl_Policy_setitem : Array (Option Value)} {oc_Policy_setitem kV_Policy_setitem dc_Policy_setitem pm_Policy_setitem cd_Policy_setitem ct_Policy_setitem : Value}
    {f_Policy_starts_at : Addr} {od_Policy_starts_at an_Policy_starts_at : Option Addr} {sl_Policy_starts_at : Array (Option Value)} {oc_Policy_starts_at kV_Policy_starts_at dc_Policy_starts_at pm_Policy_starts_at cd_Policy_starts_at ct_Policy_starts_at : Value}
    {f_Policy_ways_of : Addr} {od_Policy_ways_of an_Policy_ways_of : Option Addr} {sl_Policy_ways_of : Array (Option Value)} {oc_Policy_ways_of kV_Policy_ways_of dc_Policy_ways_of pm_Policy_ways_of cd_Policy_ways_of ct_Policy_ways_of : Value}
    {f_Policy_starts : Addr} {od_Policy_starts an_Policy_starts : Option Addr} {sl_Policy_starts : Array (Option Value)} {oc_Policy_starts kV_Policy_starts dc_Policy_starts pm_Policy_starts cd_Policy_starts ct_Policy_starts : Value}
    {p_Policy_starts : Addr} {rs_Policy_starts : List Value}
    {f_Policy_and : Addr} {od_Policy_and an_Policy_and : Option Addr} {sl_Policy_and : Array (Option Value)} {oc_Policy_and kV_Policy_and dc_Policy_and pm_Policy_and cd_Policy_and ct_Policy_and : Value}
    {f_Policy_or : Addr} {od_Policy_or an_Policy_or : Option Addr} {sl_Policy_or : Array (Option Value)} {oc_Policy_or kV_Policy_or dc_Policy_or pm_Policy_or cd_Policy_or ct_Policy_or : Value}
    {f_is_mark : Addr} {od_is_mark an_is_mark : Option Addr} {sl_is_mark : Array (Option Value)} {oc_is_mark kV_is_mark dc_is_mark pm_is_mark cd_is_mark ct_is_mark : Value}
    {f_sound_row : Addr} {od_sound_row an_sound_row : Option Addr} {sl_sound_row : Array (Option Value)} {oc_sound_row kV_sound_row dc_sound_row pm_sound_row cd_sound_row ct_sound_row : Value}
    {f_barren : Addr} {od_barren an_barren : Option Addr} {sl_barren : Array (Option Value)} {oc_barren kV_barren dc_barren pm_barren cd_barren ct_barren : Value}
    {f_Shape_init : Addr} {od_Shape_init an_Shape_init : Option Addr} {sl_Shape_init : Array (Option Value)} {oc_Shape_init kV_Shape_init dc_Shape_init pm_Shape_init cd_Shape_init ct_Shape_init : Value}
    {f_Shape_getitem : Addr} {od_Shape_getitem an_Shape_getitem : Option Addr} {sl_Shape_getitem : Array (Option Value)} {oc_Shape_getitem kV_Shape_getitem dc_Shape_getitem pm_Shape_getitem cd_Shape_getitem ct_Shape_getitem : Value}
    {f_Shape_iter : Addr} {od_Shape_iter an_Shape_iter : Option Addr} {sl_Shape_iter : Array (Option Value)} {oc_Shape_iter kV_Shape_iter dc_Shape_iter pm_Shape_iter cd_Shape_iter ct_Shape_iter : Value}
    {f_Shape_len : Addr} {od_Shape_len an_Shape_len : Option Addr} {sl_Shape_len : Array (Option Value)} {oc_Shape_len kV_Shape_len dc_Shape_len pm_Shape_len cd_Shape_len ct_Shape_len : Value}
    {f_Shape_eq : Addr} {od_Shape_eq an_Shape_eq : Option Addr} {sl_Shape_eq : Array (Option Value)} {oc_Shape_eq kV_Shape_eq dc_Shape_eq pm_Shape_eq cd_Shape_eq ct_Shape_eq : Value}
    {f_Shape_modes_of : Addr} {od_Shape_modes_of an_Shape_modes_of : Option Addr} {sl_Shape_modes_of : Array (Option Value)} {oc_Shape_modes_of kV_Shape_modes_of dc_Shape_modes_of pm_Shape_modes_of cd_Shape_modes_of ct_Shape_modes_of : Value}
    {f__law_draws : Addr} {od__law_draws an__law_draws : Option Addr} {sl__law_draws : Array (Option Value)} {oc__law_draws kV__law_draws dc__law_draws pm__law_draws cd__law_draws ct__law_draws : Value}
    {f__law_take : Addr} {od__law_take an__law_take : Option Addr} {sl__law_take : Array (Option Value)} {oc__law_take kV__law_take dc__law_take pm__law_take cd__law_take ct__law_take : Value}
    {f__law_same : Addr} {od__law_same an__law_same : Option Addr} {sl__law_same : Array (Option Value)} {oc__law_same kV__law_same dc__law_same pm__law_same cd__law_same ct__law_same : Value}
    {f__law_marks : Addr} {od__law_marks an__law_marks : Option Addr} {sl__law_marks : Array (Option Value)} {oc__law_marks kV__law_marks dc__law_marks pm__law_marks cd__law_marks ct__law_marks : Value}
    {f__law_rows : Addr} {od__law_rows an__law_rows : Option Addr} {sl__law_rows : Array (Option Value)} {oc__law_rows kV__law_rows dc__law_rows pm__law_rows cd__law_rows ct__law_rows : Value}
    {f__law_way : Addr} {od__law_way an__law_way : Option Addr} {sl__law_way : Array (Option Value)} {oc__law_way kV__law_way dc__law_way pm__law_way cd__law_way ct__law_way : Value}
    {f__law_rules : Addr} {od__law_rules an__law_rules : Option Addr} {sl__law_rules : Array (Option Value)} {oc__law_rules kV__law_rules dc__law_rules pm__law_rules cd__law_rules ct__law_rules : Value}
    {f__law_shape : Addr} {od__law_shape an__law_shape : Option Addr} {sl__law_shape : Array (Option Value)} {oc__law_shape kV__law_shape dc__law_shape pm__law_shape cd__law_shape ct__law_shape : Value}
    {f__law_way_made : Addr} {od__law_way_made an__law_way_made : Option Addr} {sl__law_way_made : Array (Option Value)} {oc__law_way_made kV__law_way_made dc__law_way_made pm__law_way_made cd__law_way_made ct__law_way_made : Value}
    {f__law_policy : Addr} {od__law_policy an__law_policy : Option Addr} {sl__law_policy : Array (Option Value)} {oc__law_policy kV__law_policy dc__law_policy pm__law_policy cd__law_policy ct__law_policy : Value}
    {f__law_cut : Addr} {od__law_cut an__law_cut : Option Addr} {sl__law_cut : Array (Option Value)} {oc__law_cut kV__law_cut dc__law_cut pm__law_cut cd__law_cut ct__law_cut : Value}
    {f__law_loosened : Addr} {od__law_loosened an__law_loosened : Option Addr} {sl__law_loosened : Array (Option Value)} {oc__law_loosened kV__law_loosened dc__law_loosened pm__law_loosened cd__law_loosened ct__law_loosened : Value}
    {f__law_tightened : Addr} {od__law_tightened an__law_tightened : Option Addr} {sl__law_tightened : Array (Option Value)} {oc__law_tightened kV__law_tightened dc__law_tightened pm__law_tightened cd__law_tightened ct__law_tightened : Value}
    {f__law_changed : Addr} {od__law_changed an__law_changed : Option Addr} {sl__law_changed : Array (Option Value)} {oc__law_changed kV__law_changed dc__law_changed pm__law_changed cd__law_changed ct__law_changed : Value}
    {f__law_both : Addr} {od__law_both an__law_both : Option Addr} {sl__law_both : Array (Option Value)} {oc__law_both kV__law_both dc__law_both pm__law_both cd__law_both ct__law_both : Value}
    {f__law_table : Addr} {od__law_table an__law_table : Option Addr} {sl__law_table : Array (Option Value)} {oc__law_table kV__law_table dc__law_table pm__law_table cd__law_table ct__law_table : Value}
    {f__law_table_good : Addr} {od__law_table_good an__law_table_good : Option Addr} {sl__law_table_good : Array (Option Value)} {oc__law_table_good kV__law_table_good dc__law_table_good pm__law_table_good cd__law_table_good ct__law_table_good : Value}
    {f_law : Addr} {od_law an_law : Option Addr} {sl_law : Array (Option Value)} {oc_law kV_law dc_law pm_law cd_law ct_law : Value}
    {tq_UNLIMITED : Tok}
    {q_LEVELS : Addr} {oq_LEVELS : Option Addr} {nq_LEVELS : Nat} {slq_LEVELS : Array (Option Value)} {t_LEVELS_0 : Tok} {t_LEVELS_1 : Tok} {t_LEVELS_2 : Tok} {t_LEVELS_3 : Tok}
    {tq_LETTERS : Tok}
    {q_MODES : Addr} {oq_MODES : Option Addr} {nq_MODES : Nat} {slq_MODES : Array (Option Value)} {t_MODES_0 : Tok} {t_MODES_1 : Tok}
    {fl_Policy_and rl_Policy_and ft_Policy_and rt_Policy_and : Option Value}
    {fl_Policy_or rl_Policy_or ft_Policy_or rt_Policy_or : Option Value}
    {ti_Shape_MARKS : Tok}
    {ti_Shape_PARENTS : Tok}
    {c_BadShape : Addr}
    {c_UnknownMark : Addr}
    {c_TooLarge : Addr}
    {c_OtherShape : Addr}
    {nm_BadShape q_BadShape : Str} {N_BadShape : Addr} {bs_BadShape : List Value} {sn_BadShape : List Str} {sub_BadShape : List Value} {ab_BadShape : Bool} {col_BadShape : Option Bool} {dd_BadShape : Option Addr} {m0_BadShape m1_BadShape m2_BadShape m3_BadShape m5_BadShape : Option Value}
    {f_BadShape cda_BadShape cc_BadShape : Addr} {od_BadShape an_BadShape cld_BadShape cdd_BadShape : Option Addr} {osl_BadShape csl_BadShape ccs_BadShape : Array (Option Value)} {oc_BadShape kV_BadShape dc_BadShape pm_BadShape ct_BadShape cl_BadShape ccl_BadShape : Value} {vs_BadShape : Array Value} {file_BadShape : Str} {tf_BadShape : Tok}
    {nm_UnknownMark q_UnknownMark : Str} {N_UnknownMark : Addr} {bs_UnknownMark : List Value} {sn_UnknownMark : List Str} {sub_UnknownMark : List Value} {ab_UnknownMark : Bool} {col_UnknownMark : Option Bool} {dd_UnknownMark : Option Addr} {m0_UnknownMark m1_UnknownMark m2_UnknownMark m3_UnknownMark m5_UnknownMark : Option Value}
    {f_UnknownMark cda_UnknownMark cc_UnknownMark : Addr} {od_UnknownMark an_UnknownMark cld_UnknownMark cdd_UnknownMark : Option Addr} {osl_UnknownMark csl_UnknownMark ccs_UnknownMark : Array (Option Value)} {oc_UnknownMark kV_UnknownMark dc_UnknownMark pm_UnknownMark ct_UnknownMark cl_UnknownMark ccl_UnknownMark : Value} {vs_UnknownMark : Array Value} {file_UnknownMark : Str} {tf_UnknownMark : Tok}
    {nm_TooLarge q_TooLarge : Str} {N_TooLarge : Addr} {bs_TooLarge : List Value} {sn_TooLarge : List Str} {sub_TooLarge : List Value} {ab_TooLarge : Bool} {col_TooLarge : Option Bool} {dd_TooLarge : Option Addr} {m0_TooLarge m1_TooLarge m2_TooLarge m3_TooLarge m5_TooLarge : Option Value}
    {f_TooLarge cda_TooLarge cc_TooLarge : Addr} {od_TooLarge an_TooLarge cld_TooLarge cdd_TooLarge : Option Addr} {osl_TooLarge csl_TooLarge ccs_TooLarge : Array (Option Value)} {oc_TooLarge kV_TooLarge dc_TooLarge pm_TooLarge ct_TooLarge cl_TooLarge ccl_TooLarge : Value} {vs_TooLarge : Array Value} {file_TooLarge : Str} {tf_TooLarge : Tok}
    (gc_Way : PySem.W.nsIn K mainGlobals "Way" = some (some (.ref c_Way)))
    (gc_Policy : PySem.W.nsIn K mainGlobals "Policy" = some (some (.ref c_Policy)))
    (gc_Shape : PySem.W.nsIn K mainGlobals "Shape" = some (some (.ref c_Shape)))
    (a_kinds : PySem.W.nsIn K mainGlobals "kinds" = some (some (.ref f_kinds)))
    (l_kinds : K.lookup f_kinds = some ⟨oc_kinds, od_kinds, .func (PySem.W.fnOf "kinds" "kinds" (defArgs S_kinds) (defBody S_kinds) (defScope S_kinds) .none kV_kinds dc_kinds pm_kinds an_kinds cd_kinds ct_kinds), sl_kinds⟩)
    (c_kinds : PySem.W.codeIn K cd_kinds "kinds" = true)
    (k_kinds : PySem.W.keepIn K (.ref f_kinds) = true)
    (a_supply : PySem.W.nsIn K mainGlobals "supply" = some (some (.ref f_supply)))
    (l_supply : K.lookup f_supply = some ⟨oc_supply, od_supply, .func (PySem.W.fnOf "supply" "supply" (defArgs S_supply) (defBody S_supply) (defScope S_supply) .none kV_supply dc_supply pm_supply an_supply cd_supply ct_supply), sl_supply⟩)
    (c_supply : PySem.W.codeIn K cd_supply "supply" = true)
    (k_supply : PySem.W.keepIn K (.ref f_supply) = true)
    (a_fits : PySem.W.nsIn K mainGlobals "fits" = some (some (.ref f_fits)))
    (l_fits : K.lookup f_fits = some ⟨oc_fits, od_fits, .func (PySem.W.fnOf "fits" "fits" (defArgs S_fits) (defBody S_fits) (defScope S_fits) .none kV_fits dc_fits pm_fits an_fits cd_fits ct_fits), sl_fits⟩)
    (c_fits : PySem.W.codeIn K cd_fits "fits" = true)
    (k_fits : PySem.W.keepIn K (.ref f_fits) = true)
    (a_first_rung : PySem.W.nsIn K mainGlobals "first_rung" = some (some (.ref f_first_rung)))
    (l_first_rung : K.lookup f_first_rung = some ⟨oc_first_rung, od_first_rung, .func (PySem.W.fnOf "first_rung" "first_rung" (defArgs S_first_rung) (defBody S_first_rung) (defScope S_first_rung) .none kV_first_rung dc_first_rung pm_first_rung an_first_rung cd_first_rung ct_first_rung), sl_first_rung⟩)
    (c_first_rung : PySem.W.codeIn K cd_first_rung "first_rung" = true)
    (k_first_rung : PySem.W.keepIn K (.ref f_first_rung) = true)
    (a_ladder : PySem.W.nsIn K mainGlobals "ladder" = some (some (.ref f_ladder)))
    (l_ladder : K.lookup f_ladder = some ⟨oc_ladder, od_ladder, .func (PySem.W.fnOf "ladder" "ladder" (defArgs S_ladder) (defBody S_ladder) (defScope S_ladder) .none kV_ladder dc_ladder pm_ladder an_ladder cd_ladder ct_ladder), sl_ladder⟩)
    (c_ladder : PySem.W.codeIn K cd_ladder "ladder" = true)
    (k_ladder : PySem.W.keepIn K (.ref f_ladder) = true)
    (a_reached : PySem.W.nsIn K mainGlobals "reached" = some (some (.ref f_reached)))
    (l_reached : K.lookup f_reached = some ⟨oc_reached, od_reached, .func (PySem.W.fnOf "reached" "reached" (defArgs S_reached) (defBody S_reached) (defScope S_reached) .none kV_reached dc_reached pm_reached an_reached cd_reached ct_reached), sl_reached⟩)
    (c_reached : PySem.W.codeIn K cd_reached "reached" = true)
    (k_reached : PySem.W.keepIn K (.ref f_reached) = true)
    (a_rank : PySem.W.nsIn K mainGlobals "rank" = some (some (.ref f_rank)))
    (l_rank : K.lookup f_rank = some ⟨oc_rank, od_rank, .func (PySem.W.fnOf "rank" "rank" (defArgs S_rank) (defBody S_rank) (defScope S_rank) .none kV_rank dc_rank pm_rank an_rank cd_rank ct_rank), sl_rank⟩)
    (c_rank : PySem.W.codeIn K cd_rank "rank" = true)
    (k_rank : PySem.W.keepIn K (.ref f_rank) = true)
    (a_needed : PySem.W.nsIn K mainGlobals "needed" = some (some (.ref f_needed)))
    (l_needed : K.lookup f_needed = some ⟨oc_needed, od_needed, .func (PySem.W.fnOf "needed" "needed" (defArgs S_needed) (defBody S_needed) (defScope S_needed) .none kV_needed dc_needed pm_needed an_needed cd_needed ct_needed), sl_needed⟩)
    (c_needed : PySem.W.codeIn K cd_needed "needed" = true)
    (k_needed : PySem.W.keepIn K (.ref f_needed) = true)
    (a_higher : PySem.W.nsIn K mainGlobals "higher" = some (some (.ref f_higher)))
    (l_higher : K.lookup f_higher = some ⟨oc_higher, od_higher, .func (PySem.W.fnOf "higher" "higher" (defArgs S_higher) (defBody S_higher) (defScope S_higher) .none kV_higher dc_higher pm_higher an_higher cd_higher ct_higher), sl_higher⟩)
    (c_higher : PySem.W.codeIn K cd_higher "higher" = true)
    (k_higher : PySem.W.keepIn K (.ref f_higher) = true)
    (a_Way_init : PySem.W.findIn K (.ref c_Way) "__init__" = some (some (.ref f_Way_init)))
    (l_Way_init : K.lookup f_Way_init = some ⟨oc_Way_init, od_Way_init, .func (PySem.W.fnOf "__init__" "Way.__init__" (defArgs S_Way_init) (defBody S_Way_init) (defScope S_Way_init) (.ref dt_Way_init) (.ref kd_Way_init) dc_Way_init pm_Way_init an_Way_init cd_Way_init ct_Way_init), sl_Way_init⟩)
    (c_Way_init : PySem.W.codeIn K cd_Way_init "Way.__init__" = true)
    (k_Way_init : PySem.W.keepIn K (.ref f_Way_init) = true)
    (lt_Way_init : K.lookup dt_Way_init = some ⟨cdt_Way_init, odt_Way_init, .seq #[.str "none" tt_Way_init_0, .str "none" tt_Way_init_1, .str "none" tt_Way_init_2] ndt_Way_init, sdt_Way_init⟩)
    (nk_Way_init_early : PySem.W.nsIn K kd_Way_init "early" = some (some (.bool false)))
    (a_Way_needs : PySem.W.findIn K (.ref c_Way) "needs" = some (some (.ref f_Way_needs)))
    (l_Way_needs : K.lookup f_Way_needs = some ⟨oc_Way_needs, od_Way_needs, .func (PySem.W.fnOf "needs" "Way.needs" (defArgs S_Way_needs) (defBody S_Way_needs) (defScope S_Way_needs) .none kV_Way_needs dc_Way_needs pm_Way_needs an_Way_needs cd_Way_needs ct_Way_needs), sl_Way_needs⟩)
    (c_Way_needs : PySem.W.codeIn K cd_Way_needs "Way.needs" = true)
    (k_Way_needs : PySem.W.keepIn K (.ref f_Way_needs) = true)
    (a_Way_permits : PySem.W.findIn K (.ref c_Way) "permits" = some (some (.ref f_Way_permits)))
    (l_Way_permits : K.lookup f_Way_permits = some ⟨oc_Way_permits, od_Way_permits, .func (PySem.W.fnOf "permits" "Way.permits" (defArgs S_Way_permits) (defBody S_Way_permits) (defScope S_Way_permits) .none (.ref kd_Way_permits) dc_Way_permits pm_Way_permits an_Way_permits cd_Way_permits ct_Way_permits), sl_Way_permits⟩)
    (c_Way_permits : PySem.W.codeIn K cd_Way_permits "Way.permits" = true)
    (k_Way_permits : PySem.W.keepIn K (.ref f_Way_permits) = true)
    (nk_Way_permits_loose : PySem.W.nsIn K kd_Way_permits "loose" = some (some (.bool false)))
    (a_Way_eq : PySem.W.findIn K (.ref c_Way) "__eq__" = some (some (.ref f_Way_eq)))
    (l_Way_eq : K.lookup f_Way_eq = some ⟨oc_Way_eq, od_Way_eq, .func (PySem.W.fnOf "__eq__" "Way.__eq__" (defArgs S_Way_eq) (defBody S_Way_eq) (defScope S_Way_eq) .none kV_Way_eq dc_Way_eq pm_Way_eq an_Way_eq cd_Way_eq ct_Way_eq), sl_Way_eq⟩)
    (c_Way_eq : PySem.W.codeIn K cd_Way_eq "Way.__eq__" = true)
    (k_Way_eq : PySem.W.keepIn K (.ref f_Way_eq) = true)
    (a_Way_le : PySem.W.findIn K (.ref c_Way) "__le__" = some (some (.ref f_Way_le)))
    (l_Way_le : K.lookup f_Way_le = some ⟨oc_Way_le, od_Way_le, .func (PySem.W.fnOf "__le__" "Way.__le__" (defArgs S_Way_le) (defBody S_Way_le) (defScope S_Way_le) .none kV_Way_le dc_Way_le pm_Way_le an_Way_le cd_Way_le ct_Way_le), sl_Way_le⟩)
    (c_Way_le : PySem.W.codeIn K cd_Way_le "Way.__le__" = true)
    (k_Way_le : PySem.W.keepIn K (.ref f_Way_le) = true)
    (a_Way_and : PySem.W.findIn K (.ref c_Way) "__and__" = some (some (.ref f_Way_and)))
    (l_Way_and : K.lookup f_Way_and = some ⟨oc_Way_and, od_Way_and, .func (PySem.W.fnOf "__and__" "Way.__and__" (defArgs S_Way_and) (defBody S_Way_and) (defScope S_Way_and) .none kV_Way_and dc_Way_and pm_Way_and an_Way_and cd_Way_and ct_Way_and), sl_Way_and⟩)
    (c_Way_and : PySem.W.codeIn K cd_Way_and "Way.__and__" = true)
    (k_Way_and : PySem.W.keepIn K (.ref f_Way_and) = true)
    (a_trimmed : PySem.W.nsIn K mainGlobals "trimmed" = some (some (.ref f_trimmed)))
    (l_trimmed : K.lookup f_trimmed = some ⟨oc_trimmed, od_trimmed, .func (PySem.W.fnOf "trimmed" "trimmed" (defArgs S_trimmed) (defBody S_trimmed) (defScope S_trimmed) .none kV_trimmed dc_trimmed pm_trimmed an_trimmed cd_trimmed ct_trimmed), sl_trimmed⟩)
    (c_trimmed : PySem.W.codeIn K cd_trimmed "trimmed" = true)
    (k_trimmed : PySem.W.keepIn K (.ref f_trimmed) = true)
    (a_same_shape : PySem.W.nsIn K mainGlobals "same_shape" = some (some (.ref f_same_shape)))
    (l_same_shape : K.lookup f_same_shape = some ⟨oc_same_shape, od_same_shape, .func (PySem.W.fnOf "same_shape" "same_shape" (defArgs S_same_shape) (defBody S_same_shape) (defScope S_same_shape) .none kV_same_shape dc_same_shape pm_same_shape an_same_shape cd_same_shape ct_same_shape), sl_same_shape⟩)
    (c_same_shape : PySem.W.codeIn K cd_same_shape "same_shape" = true)
    (k_same_shape : PySem.W.keepIn K (.ref f_same_shape) = true)
    (a_met : PySem.W.nsIn K mainGlobals "met" = some (some (.ref f_met)))
    (l_met : K.lookup f_met = some ⟨oc_met, od_met, .func (PySem.W.fnOf "met" "met" (defArgs S_met) (defBody S_met) (defScope S_met) .none kV_met dc_met pm_met an_met cd_met ct_met), sl_met⟩)
    (c_met : PySem.W.codeIn K cd_met "met" = true)
    (k_met : PySem.W.keepIn K (.ref f_met) = true)
    (a_either : PySem.W.nsIn K mainGlobals "either" = some (some (.ref f_either)))
    (l_either : K.lookup f_either = some ⟨oc_either, od_either, .func (PySem.W.fnOf "either" "either" (defArgs S_either) (defBody S_either) (defScope S_either) .none kV_either dc_either pm_either an_either cd_either ct_either), sl_either⟩)
    (c_either : PySem.W.codeIn K cd_either "either" = true)
    (k_either : PySem.W.keepIn K (.ref f_either) = true)
    (a_all_counts : PySem.W.nsIn K mainGlobals "all_counts" = some (some (.ref f_all_counts)))
    (l_all_counts : K.lookup f_all_counts = some ⟨oc_all_counts, od_all_counts, .func (PySem.W.fnOf "all_counts" "all_counts" (defArgs S_all_counts) (defBody S_all_counts) (defScope S_all_counts) .none kV_all_counts dc_all_counts pm_all_counts an_all_counts cd_all_counts ct_all_counts), sl_all_counts⟩)
    (c_all_counts : PySem.W.codeIn K cd_all_counts "all_counts" = true)
    (k_all_counts : PySem.W.keepIn K (.ref f_all_counts) = true)
    (a_possible : PySem.W.nsIn K mainGlobals "possible" = some (some (.ref f_possible)))
    (l_possible : K.lookup f_possible = some ⟨oc_possible, od_possible, .func (PySem.W.fnOf "possible" "possible" (defArgs S_possible) (defBody S_possible) (defScope S_possible) .none kV_possible dc_possible pm_possible an_possible cd_possible ct_possible), sl_possible⟩)
    (c_possible : PySem.W.codeIn K cd_possible "possible" = true)
    (k_possible : PySem.W.keepIn K (.ref f_possible) = true)
    (a_permitted : PySem.W.nsIn K mainGlobals "permitted" = some (some (.ref f_permitted)))
    (l_permitted : K.lookup f_permitted = some ⟨oc_permitted, od_permitted, .func (PySem.W.fnOf "permitted" "permitted" (defArgs S_permitted) (defBody S_permitted) (defScope S_permitted) .none kV_permitted dc_permitted pm_permitted an_permitted cd_permitted ct_permitted), sl_permitted⟩)
    (c_permitted : PySem.W.codeIn K cd_permitted "permitted" = true)
    (k_permitted : PySem.W.keepIn K (.ref f_permitted) = true)
    (a_gap_at : PySem.W.nsIn K mainGlobals "gap_at" = some (some (.ref f_gap_at)))
    (l_gap_at : K.lookup f_gap_at = some ⟨oc_gap_at, od_gap_at, .func (PySem.W.fnOf "gap_at" "gap_at" (defArgs S_gap_at) (defBody S_gap_at) (defScope S_gap_at) .none kV_gap_at dc_gap_at pm_gap_at an_gap_at cd_gap_at ct_gap_at), sl_gap_at⟩)
    (c_gap_at : PySem.W.codeIn K cd_gap_at "gap_at" = true)
    (k_gap_at : PySem.W.keepIn K (.ref f_gap_at) = true)
    (a_gap : PySem.W.nsIn K mainGlobals "gap" = some (some (.ref f_gap)))
    (l_gap : K.lookup f_gap = some ⟨oc_gap, od_gap, .func (PySem.W.fnOf "gap" "gap" (defArgs S_gap) (defBody S_gap) (defScope S_gap) .none kV_gap dc_gap pm_gap an_gap cd_gap ct_gap), sl_gap⟩)
    (c_gap : PySem.W.codeIn K cd_gap "gap" = true)
    (k_gap : PySem.W.keepIn K (.ref f_gap) = true)
    (a_included : PySem.W.nsIn K mainGlobals "included" = some (some (.ref f_included)))
    (l_included : K.lookup f_included = some ⟨oc_included, od_included, .func (PySem.W.fnOf "included" "included" (defArgs S_included) (defBody S_included) (defScope S_included) .none kV_included dc_included pm_included an_included cd_included ct_included), sl_included⟩)
    (c_included : PySem.W.codeIn K cd_included "included" = true)
    (k_included : PySem.W.keepIn K (.ref f_included) = true)
    (a_Policy_init : PySem.W.findIn K (.ref c_Policy) "__init__" = some (some (.ref f_Policy_init)))
    (l_Policy_init : K.lookup f_Policy_init = some ⟨oc_Policy_init, od_Policy_init, .func (PySem.W.fnOf "__init__" "Policy.__init__" (defArgs S_Policy_init) (defBody S_Policy_init) (defScope S_Policy_init) (.ref dt_Policy_init) kV_Policy_init dc_Policy_init pm_Policy_init an_Policy_init cd_Policy_init ct_Policy_init), sl_Policy_init⟩)
    (c_Policy_init : PySem.W.codeIn K cd_Policy_init "Policy.__init__" = true)
    (k_Policy_init : PySem.W.keepIn K (.ref f_Policy_init) = true)
    (lt_Policy_init : K.lookup dt_Policy_init = some ⟨cdt_Policy_init, odt_Policy_init, .seq #[.ref ed_Policy_init_0] ndt_Policy_init, sdt_Policy_init⟩)
    (le_Policy_init_0 : K.lookup ed_Policy_init_0 = some ⟨.type "tuple", oe_Policy_init_0, .seq #[] ne_Policy_init_0, se_Policy_init_0⟩)
    (a_Policy_getitem : PySem.W.findIn K (.ref c_Policy) "__getitem__" = some (some (.ref f_Policy_getitem)))
    (l_Policy_getitem : K.lookup f_Policy_getitem = some ⟨oc_Policy_getitem, od_Policy_getitem, .func (PySem.W.fnOf "__getitem__" "Policy.__getitem__" (defArgs S_Policy_getitem) (defBody S_Policy_getitem) (defScope S_Policy_getitem) .none kV_Policy_getitem dc_Policy_getitem pm_Policy_getitem an_Policy_getitem cd_Policy_getitem ct_Policy_getitem), sl_Policy_getitem⟩)
    (c_Policy_getitem : PySem.W.codeIn K cd_Policy_getitem "Policy.__getitem__" = true)
    (k_Policy_getitem : PySem.W.keepIn K (.ref f_Policy_getitem) = true)
    (a_Policy_setitem : PySem.W.findIn K (.ref c_Policy) "__setitem__" = some (some (.ref f_Policy_setitem)))
    (l_Policy_setitem : K.lookup f_Policy_setitem = some ⟨oc_Policy_setitem, od_Policy_setitem, .func (PySem.W.fnOf "__setitem__" "Policy.__setitem__" (defArgs S_Policy_setitem) (defBody S_Policy_setitem) (defScope S_Policy_setitem) .none kV_Policy_setitem dc_Policy_setitem pm_Policy_setitem an_Policy_setitem cd_Policy_setitem ct_Policy_setitem), sl_Policy_setitem⟩)
    (c_Policy_setitem : PySem.W.codeIn K cd_Policy_setitem "Policy.__setitem__" = true)
    (k_Policy_setitem : PySem.W.keepIn K (.ref f_Policy_setitem) = true)
    (a_Policy_starts_at : PySem.W.findIn K (.ref c_Policy) "starts_at" = some (some (.ref f_Policy_starts_at)))
    (l_Policy_starts_at : K.lookup f_Policy_starts_at = some ⟨oc_Policy_starts_at, od_Policy_starts_at, .func (PySem.W.fnOf "starts_at" "Policy.starts_at" (defArgs S_Policy_starts_at) (defBody S_Policy_starts_at) (defScope S_Policy_starts_at) .none kV_Policy_starts_at dc_Policy_starts_at pm_Policy_starts_at an_Policy_starts_at cd_Policy_starts_at ct_Policy_starts_at), sl_Policy_starts_at⟩)
    (c_Policy_starts_at : PySem.W.codeIn K cd_Policy_starts_at "Policy.starts_at" = true)
    (k_Policy_starts_at : PySem.W.keepIn K (.ref f_Policy_starts_at) = true)
    (a_Policy_ways_of : PySem.W.findIn K (.ref c_Policy) "ways_of" = some (some (.ref f_Policy_ways_of)))
    (l_Policy_ways_of : K.lookup f_Policy_ways_of = some ⟨oc_Policy_ways_of, od_Policy_ways_of, .func (PySem.W.fnOf "ways_of" "Policy.ways_of" (defArgs S_Policy_ways_of) (defBody S_Policy_ways_of) (defScope S_Policy_ways_of) .none kV_Policy_ways_of dc_Policy_ways_of pm_Policy_ways_of an_Policy_ways_of cd_Policy_ways_of ct_Policy_ways_of), sl_Policy_ways_of⟩)
    (c_Policy_ways_of : PySem.W.codeIn K cd_Policy_ways_of "Policy.ways_of" = true)
    (k_Policy_ways_of : PySem.W.keepIn K (.ref f_Policy_ways_of) = true)
    (pa_Policy_starts : PySem.W.findIn K (.ref c_Policy) "starts" = some (some (.ref p_Policy_starts)))
    (pr_Policy_starts : PySem.W.recIn K p_Policy_starts "property" = some (.ref f_Policy_starts :: rs_Policy_starts))
    (pg_Policy_starts : PySem.W.specialIn K (.ref p_Policy_starts) "__get__" = some (some (.builtin "property.__get__")))
    (pt_Policy_starts : PySem.W.takesIn K (.ref p_Policy_starts) = some true)
    (l_Policy_starts : K.lookup f_Policy_starts = some ⟨oc_Policy_starts, od_Policy_starts, .func (PySem.W.fnOf "starts" "Policy.starts" (defArgs S_Policy_starts) (defBody S_Policy_starts) (defScope S_Policy_starts) .none kV_Policy_starts dc_Policy_starts pm_Policy_starts an_Policy_starts cd_Policy_starts ct_Policy_starts), sl_Policy_starts⟩)
    (c_Policy_starts : PySem.W.codeIn K cd_Policy_starts "Policy.starts" = true)
    (k_Policy_starts : PySem.W.keepIn K (.ref f_Policy_starts) = true)
    (a_Policy_and : PySem.W.findIn K (.ref c_Policy) "__and__" = some (some (.ref f_Policy_and)))
    (l_Policy_and : K.lookup f_Policy_and = some ⟨oc_Policy_and, od_Policy_and, .func (PySem.W.fnOf "__and__" "Policy.__and__" (defArgs S_Policy_and) (defBody S_Policy_and) (defScope S_Policy_and) .none kV_Policy_and dc_Policy_and pm_Policy_and an_Policy_and cd_Policy_and ct_Policy_and), sl_Policy_and⟩)
    (c_Policy_and : PySem.W.codeIn K cd_Policy_and "Policy.__and__" = true)
    (k_Policy_and : PySem.W.keepIn K (.ref f_Policy_and) = true)
    (a_Policy_or : PySem.W.findIn K (.ref c_Policy) "__or__" = some (some (.ref f_Policy_or)))
    (l_Policy_or : K.lookup f_Policy_or = some ⟨oc_Policy_or, od_Policy_or, .func (PySem.W.fnOf "__or__" "Policy.__or__" (defArgs S_Policy_or) (defBody S_Policy_or) (defScope S_Policy_or) .none kV_Policy_or dc_Policy_or pm_Policy_or an_Policy_or cd_Policy_or ct_Policy_or), sl_Policy_or⟩)
    (c_Policy_or : PySem.W.codeIn K cd_Policy_or "Policy.__or__" = true)
    (k_Policy_or : PySem.W.keepIn K (.ref f_Policy_or) = true)
    (a_is_mark : PySem.W.nsIn K mainGlobals "is_mark" = some (some (.ref f_is_mark)))
    (l_is_mark : K.lookup f_is_mark = some ⟨oc_is_mark, od_is_mark, .func (PySem.W.fnOf "is_mark" "is_mark" (defArgs S_is_mark) (defBody S_is_mark) (defScope S_is_mark) .none kV_is_mark dc_is_mark pm_is_mark an_is_mark cd_is_mark ct_is_mark), sl_is_mark⟩)
    (c_is_mark : PySem.W.codeIn K cd_is_mark "is_mark" = true)
    (k_is_mark : PySem.W.keepIn K (.ref f_is_mark) = true)
    (a_sound_row : PySem.W.nsIn K mainGlobals "sound_row" = some (some (.ref f_sound_row)))
    (l_sound_row : K.lookup f_sound_row = some ⟨oc_sound_row, od_sound_row, .func (PySem.W.fnOf "sound_row" "sound_row" (defArgs S_sound_row) (defBody S_sound_row) (defScope S_sound_row) .none kV_sound_row dc_sound_row pm_sound_row an_sound_row cd_sound_row ct_sound_row), sl_sound_row⟩)
    (c_sound_row : PySem.W.codeIn K cd_sound_row "sound_row" = true)
    (k_sound_row : PySem.W.keepIn K (.ref f_sound_row) = true)
    (a_barren : PySem.W.nsIn K mainGlobals "barren" = some (some (.ref f_barren)))
    (l_barren : K.lookup f_barren = some ⟨oc_barren, od_barren, .func (PySem.W.fnOf "barren" "barren" (defArgs S_barren) (defBody S_barren) (defScope S_barren) .none kV_barren dc_barren pm_barren an_barren cd_barren ct_barren), sl_barren⟩)
    (c_barren : PySem.W.codeIn K cd_barren "barren" = true)
    (k_barren : PySem.W.keepIn K (.ref f_barren) = true)
    (a_Shape_init : PySem.W.findIn K (.ref c_Shape) "__init__" = some (some (.ref f_Shape_init)))
    (l_Shape_init : K.lookup f_Shape_init = some ⟨oc_Shape_init, od_Shape_init, .func (PySem.W.fnOf "__init__" "Shape.__init__" (defArgs S_Shape_init) (defBody S_Shape_init) (defScope S_Shape_init) .none kV_Shape_init dc_Shape_init pm_Shape_init an_Shape_init cd_Shape_init ct_Shape_init), sl_Shape_init⟩)
    (c_Shape_init : PySem.W.codeIn K cd_Shape_init "Shape.__init__" = true)
    (k_Shape_init : PySem.W.keepIn K (.ref f_Shape_init) = true)
    (a_Shape_getitem : PySem.W.findIn K (.ref c_Shape) "__getitem__" = some (some (.ref f_Shape_getitem)))
    (l_Shape_getitem : K.lookup f_Shape_getitem = some ⟨oc_Shape_getitem, od_Shape_getitem, .func (PySem.W.fnOf "__getitem__" "Shape.__getitem__" (defArgs S_Shape_getitem) (defBody S_Shape_getitem) (defScope S_Shape_getitem) .none kV_Shape_getitem dc_Shape_getitem pm_Shape_getitem an_Shape_getitem cd_Shape_getitem ct_Shape_getitem), sl_Shape_getitem⟩)
    (c_Shape_getitem : PySem.W.codeIn K cd_Shape_getitem "Shape.__getitem__" = true)
    (k_Shape_getitem : PySem.W.keepIn K (.ref f_Shape_getitem) = true)
    (a_Shape_iter : PySem.W.findIn K (.ref c_Shape) "__iter__" = some (some (.ref f_Shape_iter)))
    (l_Shape_iter : K.lookup f_Shape_iter = some ⟨oc_Shape_iter, od_Shape_iter, .func (PySem.W.fnOf "__iter__" "Shape.__iter__" (defArgs S_Shape_iter) (defBody S_Shape_iter) (defScope S_Shape_iter) .none kV_Shape_iter dc_Shape_iter pm_Shape_iter an_Shape_iter cd_Shape_iter ct_Shape_iter), sl_Shape_iter⟩)
    (c_Shape_iter : PySem.W.codeIn K cd_Shape_iter "Shape.__iter__" = true)
    (k_Shape_iter : PySem.W.keepIn K (.ref f_Shape_iter) = true)
    (a_Shape_len : PySem.W.findIn K (.ref c_Shape) "__len__" = some (some (.ref f_Shape_len)))
    (l_Shape_len : K.lookup f_Shape_len = some ⟨oc_Shape_len, od_Shape_len, .func (PySem.W.fnOf "__len__" "Shape.__len__" (defArgs S_Shape_len) (defBody S_Shape_len) (defScope S_Shape_len) .none kV_Shape_len dc_Shape_len pm_Shape_len an_Shape_len cd_Shape_len ct_Shape_len), sl_Shape_len⟩)
    (c_Shape_len : PySem.W.codeIn K cd_Shape_len "Shape.__len__" = true)
    (k_Shape_len : PySem.W.keepIn K (.ref f_Shape_len) = true)
    (a_Shape_eq : PySem.W.findIn K (.ref c_Shape) "__eq__" = some (some (.ref f_Shape_eq)))
    (l_Shape_eq : K.lookup f_Shape_eq = some ⟨oc_Shape_eq, od_Shape_eq, .func (PySem.W.fnOf "__eq__" "Shape.__eq__" (defArgs S_Shape_eq) (defBody S_Shape_eq) (defScope S_Shape_eq) .none kV_Shape_eq dc_Shape_eq pm_Shape_eq an_Shape_eq cd_Shape_eq ct_Shape_eq), sl_Shape_eq⟩)
    (c_Shape_eq : PySem.W.codeIn K cd_Shape_eq "Shape.__eq__" = true)
    (k_Shape_eq : PySem.W.keepIn K (.ref f_Shape_eq) = true)
    (a_Shape_modes_of : PySem.W.findIn K (.ref c_Shape) "modes_of" = some (some (.ref f_Shape_modes_of)))
    (l_Shape_modes_of : K.lookup f_Shape_modes_of = some ⟨oc_Shape_modes_of, od_Shape_modes_of, .func (PySem.W.fnOf "modes_of" "Shape.modes_of" (defArgs S_Shape_modes_of) (defBody S_Shape_modes_of) (defScope S_Shape_modes_of) .none kV_Shape_modes_of dc_Shape_modes_of pm_Shape_modes_of an_Shape_modes_of cd_Shape_modes_of ct_Shape_modes_of), sl_Shape_modes_of⟩)
    (c_Shape_modes_of : PySem.W.codeIn K cd_Shape_modes_of "Shape.modes_of" = true)
    (k_Shape_modes_of : PySem.W.keepIn K (.ref f_Shape_modes_of) = true)
    (a__law_draws : PySem.W.nsIn K mainGlobals "_law_draws" = some (some (.ref f__law_draws)))
    (l__law_draws : K.lookup f__law_draws = some ⟨oc__law_draws, od__law_draws, .func (PySem.W.fnOf "_law_draws" "_law_draws" (defArgs S__law_draws) (defBody S__law_draws) (defScope S__law_draws) .none kV__law_draws dc__law_draws pm__law_draws an__law_draws cd__law_draws ct__law_draws), sl__law_draws⟩)
    (c__law_draws : PySem.W.codeIn K cd__law_draws "_law_draws" = true)
    (k__law_draws : PySem.W.keepIn K (.ref f__law_draws) = true)
    (a__law_take : PySem.W.nsIn K mainGlobals "_law_take" = some (some (.ref f__law_take)))
    (l__law_take : K.lookup f__law_take = some ⟨oc__law_take, od__law_take, .func (PySem.W.fnOf "_law_take" "_law_take" (defArgs S__law_take) (defBody S__law_take) (defScope S__law_take) .none kV__law_take dc__law_take pm__law_take an__law_take cd__law_take ct__law_take), sl__law_take⟩)
    (c__law_take : PySem.W.codeIn K cd__law_take "_law_take" = true)
    (k__law_take : PySem.W.keepIn K (.ref f__law_take) = true)
    (a__law_same : PySem.W.nsIn K mainGlobals "_law_same" = some (some (.ref f__law_same)))
    (l__law_same : K.lookup f__law_same = some ⟨oc__law_same, od__law_same, .func (PySem.W.fnOf "_law_same" "_law_same" (defArgs S__law_same) (defBody S__law_same) (defScope S__law_same) .none kV__law_same dc__law_same pm__law_same an__law_same cd__law_same ct__law_same), sl__law_same⟩)
    (c__law_same : PySem.W.codeIn K cd__law_same "_law_same" = true)
    (k__law_same : PySem.W.keepIn K (.ref f__law_same) = true)
    (a__law_marks : PySem.W.nsIn K mainGlobals "_law_marks" = some (some (.ref f__law_marks)))
    (l__law_marks : K.lookup f__law_marks = some ⟨oc__law_marks, od__law_marks, .func (PySem.W.fnOf "_law_marks" "_law_marks" (defArgs S__law_marks) (defBody S__law_marks) (defScope S__law_marks) .none kV__law_marks dc__law_marks pm__law_marks an__law_marks cd__law_marks ct__law_marks), sl__law_marks⟩)
    (c__law_marks : PySem.W.codeIn K cd__law_marks "_law_marks" = true)
    (k__law_marks : PySem.W.keepIn K (.ref f__law_marks) = true)
    (a__law_rows : PySem.W.nsIn K mainGlobals "_law_rows" = some (some (.ref f__law_rows)))
    (l__law_rows : K.lookup f__law_rows = some ⟨oc__law_rows, od__law_rows, .func (PySem.W.fnOf "_law_rows" "_law_rows" (defArgs S__law_rows) (defBody S__law_rows) (defScope S__law_rows) .none kV__law_rows dc__law_rows pm__law_rows an__law_rows cd__law_rows ct__law_rows), sl__law_rows⟩)
    (c__law_rows : PySem.W.codeIn K cd__law_rows "_law_rows" = true)
    (k__law_rows : PySem.W.keepIn K (.ref f__law_rows) = true)
    (a__law_way : PySem.W.nsIn K mainGlobals "_law_way" = some (some (.ref f__law_way)))
    (l__law_way : K.lookup f__law_way = some ⟨oc__law_way, od__law_way, .func (PySem.W.fnOf "_law_way" "_law_way" (defArgs S__law_way) (defBody S__law_way) (defScope S__law_way) .none kV__law_way dc__law_way pm__law_way an__law_way cd__law_way ct__law_way), sl__law_way⟩)
    (c__law_way : PySem.W.codeIn K cd__law_way "_law_way" = true)
    (k__law_way : PySem.W.keepIn K (.ref f__law_way) = true)
    (a__law_rules : PySem.W.nsIn K mainGlobals "_law_rules" = some (some (.ref f__law_rules)))
    (l__law_rules : K.lookup f__law_rules = some ⟨oc__law_rules, od__law_rules, .func (PySem.W.fnOf "_law_rules" "_law_rules" (defArgs S__law_rules) (defBody S__law_rules) (defScope S__law_rules) .none kV__law_rules dc__law_rules pm__law_rules an__law_rules cd__law_rules ct__law_rules), sl__law_rules⟩)
    (c__law_rules : PySem.W.codeIn K cd__law_rules "_law_rules" = true)
    (k__law_rules : PySem.W.keepIn K (.ref f__law_rules) = true)
    (a__law_shape : PySem.W.nsIn K mainGlobals "_law_shape" = some (some (.ref f__law_shape)))
    (l__law_shape : K.lookup f__law_shape = some ⟨oc__law_shape, od__law_shape, .func (PySem.W.fnOf "_law_shape" "_law_shape" (defArgs S__law_shape) (defBody S__law_shape) (defScope S__law_shape) .none kV__law_shape dc__law_shape pm__law_shape an__law_shape cd__law_shape ct__law_shape), sl__law_shape⟩)
    (c__law_shape : PySem.W.codeIn K cd__law_shape "_law_shape" = true)
    (k__law_shape : PySem.W.keepIn K (.ref f__law_shape) = true)
    (a__law_way_made : PySem.W.nsIn K mainGlobals "_law_way_made" = some (some (.ref f__law_way_made)))
    (l__law_way_made : K.lookup f__law_way_made = some ⟨oc__law_way_made, od__law_way_made, .func (PySem.W.fnOf "_law_way_made" "_law_way_made" (defArgs S__law_way_made) (defBody S__law_way_made) (defScope S__law_way_made) .none kV__law_way_made dc__law_way_made pm__law_way_made an__law_way_made cd__law_way_made ct__law_way_made), sl__law_way_made⟩)
    (c__law_way_made : PySem.W.codeIn K cd__law_way_made "_law_way_made" = true)
    (k__law_way_made : PySem.W.keepIn K (.ref f__law_way_made) = true)
    (a__law_policy : PySem.W.nsIn K mainGlobals "_law_policy" = some (some (.ref f__law_policy)))
    (l__law_policy : K.lookup f__law_policy = some ⟨oc__law_policy, od__law_policy, .func (PySem.W.fnOf "_law_policy" "_law_policy" (defArgs S__law_policy) (defBody S__law_policy) (defScope S__law_policy) .none kV__law_policy dc__law_policy pm__law_policy an__law_policy cd__law_policy ct__law_policy), sl__law_policy⟩)
    (c__law_policy : PySem.W.codeIn K cd__law_policy "_law_policy" = true)
    (k__law_policy : PySem.W.keepIn K (.ref f__law_policy) = true)
    (a__law_cut : PySem.W.nsIn K mainGlobals "_law_cut" = some (some (.ref f__law_cut)))
    (l__law_cut : K.lookup f__law_cut = some ⟨oc__law_cut, od__law_cut, .func (PySem.W.fnOf "_law_cut" "_law_cut" (defArgs S__law_cut) (defBody S__law_cut) (defScope S__law_cut) .none kV__law_cut dc__law_cut pm__law_cut an__law_cut cd__law_cut ct__law_cut), sl__law_cut⟩)
    (c__law_cut : PySem.W.codeIn K cd__law_cut "_law_cut" = true)
    (k__law_cut : PySem.W.keepIn K (.ref f__law_cut) = true)
    (a__law_loosened : PySem.W.nsIn K mainGlobals "_law_loosened" = some (some (.ref f__law_loosened)))
    (l__law_loosened : K.lookup f__law_loosened = some ⟨oc__law_loosened, od__law_loosened, .func (PySem.W.fnOf "_law_loosened" "_law_loosened" (defArgs S__law_loosened) (defBody S__law_loosened) (defScope S__law_loosened) .none kV__law_loosened dc__law_loosened pm__law_loosened an__law_loosened cd__law_loosened ct__law_loosened), sl__law_loosened⟩)
    (c__law_loosened : PySem.W.codeIn K cd__law_loosened "_law_loosened" = true)
    (k__law_loosened : PySem.W.keepIn K (.ref f__law_loosened) = true)
    (a__law_tightened : PySem.W.nsIn K mainGlobals "_law_tightened" = some (some (.ref f__law_tightened)))
    (l__law_tightened : K.lookup f__law_tightened = some ⟨oc__law_tightened, od__law_tightened, .func (PySem.W.fnOf "_law_tightened" "_law_tightened" (defArgs S__law_tightened) (defBody S__law_tightened) (defScope S__law_tightened) .none kV__law_tightened dc__law_tightened pm__law_tightened an__law_tightened cd__law_tightened ct__law_tightened), sl__law_tightened⟩)
    (c__law_tightened : PySem.W.codeIn K cd__law_tightened "_law_tightened" = true)
    (k__law_tightened : PySem.W.keepIn K (.ref f__law_tightened) = true)
    (a__law_changed : PySem.W.nsIn K mainGlobals "_law_changed" = some (some (.ref f__law_changed)))
    (l__law_changed : K.lookup f__law_changed = some ⟨oc__law_changed, od__law_changed, .func (PySem.W.fnOf "_law_changed" "_law_changed" (defArgs S__law_changed) (defBody S__law_changed) (defScope S__law_changed) .none kV__law_changed dc__law_changed pm__law_changed an__law_changed cd__law_changed ct__law_changed), sl__law_changed⟩)
    (c__law_changed : PySem.W.codeIn K cd__law_changed "_law_changed" = true)
    (k__law_changed : PySem.W.keepIn K (.ref f__law_changed) = true)
    (a__law_both : PySem.W.nsIn K mainGlobals "_law_both" = some (some (.ref f__law_both)))
    (l__law_both : K.lookup f__law_both = some ⟨oc__law_both, od__law_both, .func (PySem.W.fnOf "_law_both" "_law_both" (defArgs S__law_both) (defBody S__law_both) (defScope S__law_both) .none kV__law_both dc__law_both pm__law_both an__law_both cd__law_both ct__law_both), sl__law_both⟩)
    (c__law_both : PySem.W.codeIn K cd__law_both "_law_both" = true)
    (k__law_both : PySem.W.keepIn K (.ref f__law_both) = true)
    (a__law_table : PySem.W.nsIn K mainGlobals "_law_table" = some (some (.ref f__law_table)))
    (l__law_table : K.lookup f__law_table = some ⟨oc__law_table, od__law_table, .func (PySem.W.fnOf "_law_table" "_law_table" (defArgs S__law_table) (defBody S__law_table) (defScope S__law_table) .none kV__law_table dc__law_table pm__law_table an__law_table cd__law_table ct__law_table), sl__law_table⟩)
    (c__law_table : PySem.W.codeIn K cd__law_table "_law_table" = true)
    (k__law_table : PySem.W.keepIn K (.ref f__law_table) = true)
    (a__law_table_good : PySem.W.nsIn K mainGlobals "_law_table_good" = some (some (.ref f__law_table_good)))
    (l__law_table_good : K.lookup f__law_table_good = some ⟨oc__law_table_good, od__law_table_good, .func (PySem.W.fnOf "_law_table_good" "_law_table_good" (defArgs S__law_table_good) (defBody S__law_table_good) (defScope S__law_table_good) .none kV__law_table_good dc__law_table_good pm__law_table_good an__law_table_good cd__law_table_good ct__law_table_good), sl__law_table_good⟩)
    (c__law_table_good : PySem.W.codeIn K cd__law_table_good "_law_table_good" = true)
    (k__law_table_good : PySem.W.keepIn K (.ref f__law_table_good) = true)
    (a_law : PySem.W.nsIn K mainGlobals "law" = some (some (.ref f_law)))
    (l_law : K.lookup f_law = some ⟨oc_law, od_law, .func (PySem.W.fnOf "law" "law" (defArgs S_law) (defBody S_law) (defScope S_law) .none kV_law dc_law pm_law an_law cd_law ct_law), sl_law⟩)
    (c_law : PySem.W.codeIn K cd_law "law" = true)
    (k_law : PySem.W.keepIn K (.ref f_law) = true)
    (z_any : PySem.W.nsIn K mainGlobals "any" = some none)
    (z_bool : PySem.W.nsIn K mainGlobals "bool" = some none)
    (z_enumerate : PySem.W.nsIn K mainGlobals "enumerate" = some none)
    (z_int : PySem.W.nsIn K mainGlobals "int" = some none)
    (z_isinstance : PySem.W.nsIn K mainGlobals "isinstance" = some none)
    (z_iter : PySem.W.nsIn K mainGlobals "iter" = some none)
    (z_len : PySem.W.nsIn K mainGlobals "len" = some none)
    (z_list : PySem.W.nsIn K mainGlobals "list" = some none)
    (z_max : PySem.W.nsIn K mainGlobals "max" = some none)
    (z_property : PySem.W.nsIn K mainGlobals "property" = some none)
    (z_range : PySem.W.nsIn K mainGlobals "range" = some none)
    (z_str : PySem.W.nsIn K mainGlobals "str" = some none)
    (z_tuple : PySem.W.nsIn K mainGlobals "tuple" = some none)
    (aq_UNLIMITED : PySem.W.nsIn K mainGlobals "UNLIMITED" = some (some (.int 9 tq_UNLIMITED)))
    (aq_LEVELS : PySem.W.nsIn K mainGlobals "LEVELS" = some (some (.ref q_LEVELS)))
    (lq_LEVELS : K.lookup q_LEVELS = some ⟨.type "tuple", oq_LEVELS, .seq #[.str "none" t_LEVELS_0, .str "one" t_LEVELS_1, .str "most" t_LEVELS_2, .str "all" t_LEVELS_3] nq_LEVELS, slq_LEVELS⟩)
    (aq_LETTERS : PySem.W.nsIn K mainGlobals "LETTERS" = some (some (.str "abcdefghijklmnopqrstuvwxyz" tq_LETTERS)))
    (aq_MODES : PySem.W.nsIn K mainGlobals "MODES" = some (some (.ref q_MODES)))
    (lq_MODES : K.lookup q_MODES = some ⟨.type "tuple", oq_MODES, .seq #[.str "own" t_MODES_0, .str "share" t_MODES_1] nq_MODES, slq_MODES⟩)
    (pg_Way : PySem.W.plainGet K c_Way Str.empty = true)
    (hd_Way : PySem.W.hasDictIn K c_Way = true)
    (po_Way : PySem.W.plainOver K c_Way = true)
    (sa_Way : PySem.W.findIn K (.ref c_Way) "__setattr__" = some (some (.builtin "object.__setattr__")))
    (kc_Way : PySem.W.keepIn K (.ref c_Way) = true)
    (i_Way_init : PySem.W.isFn K (.ref f_Way_init) = true)
    (mk_Way : PySem.W.makesIn K c_Way = true)
    (i_Way_needs : PySem.W.isFn K (.ref f_Way_needs) = true)
    (i_Way_permits : PySem.W.isFn K (.ref f_Way_permits) = true)
    (i_Way_eq : PySem.W.isFn K (.ref f_Way_eq) = true)
    (i_Way_le : PySem.W.isFn K (.ref f_Way_le) = true)
    (i_Way_and : PySem.W.isFn K (.ref f_Way_and) = true)
    (hca_Way : PySem.W.findIn K (.ref c_Way) "__class__" = some (some (.builtin "object.__class__")))
    (hcn_Way : PySem.W.specialIn K (.builtin "object.__class__") "__get__" = some (some (.builtin "getset_descriptor.__get__")))
    (hct_Way : PySem.W.takesIn K (.builtin "object.__class__") = some true)
    (hcm_Way : PySem.W.mroIn K c_Way (.type "object") = some true)
    (sf_Way : PySem.W.selfFirst K c_Way = true)
    (no_Way_held : PySem.W.findIn K (.ref c_Way) "held" = some none)
    (no_Way_owned : PySem.W.findIn K (.ref c_Way) "owned" = some none)
    (no_Way_seen : PySem.W.findIn K (.ref c_Way) "seen" = some none)
    (no_Way_early : PySem.W.findIn K (.ref c_Way) "early" = some none)
    (pg_Policy : PySem.W.plainGet K c_Policy Str.empty = true)
    (hd_Policy : PySem.W.hasDictIn K c_Policy = true)
    (po_Policy : PySem.W.plainOver K c_Policy = true)
    (sa_Policy : PySem.W.findIn K (.ref c_Policy) "__setattr__" = some (some (.builtin "object.__setattr__")))
    (kc_Policy : PySem.W.keepIn K (.ref c_Policy) = true)
    (i_Policy_init : PySem.W.isFn K (.ref f_Policy_init) = true)
    (mk_Policy : PySem.W.makesIn K c_Policy = true)
    (fi_Policy_getitem : PySem.W.fnIn K f_Policy_getitem = true)
    (i_Policy_getitem : PySem.W.isFn K (.ref f_Policy_getitem) = true)
    (nq_Policy : PySem.W.noSeq K c_Policy = true)
    (i_Policy_setitem : PySem.W.isFn K (.ref f_Policy_setitem) = true)
    (i_Policy_starts_at : PySem.W.isFn K (.ref f_Policy_starts_at) = true)
    (i_Policy_ways_of : PySem.W.isFn K (.ref f_Policy_ways_of) = true)
    (i_Policy_and : PySem.W.isFn K (.ref f_Policy_and) = true)
    (i_Policy_or : PySem.W.isFn K (.ref f_Policy_or) = true)
    (hca_Policy : PySem.W.findIn K (.ref c_Policy) "__class__" = some (some (.builtin "object.__class__")))
    (hcn_Policy : PySem.W.specialIn K (.builtin "object.__class__") "__get__" = some (some (.builtin "getset_descriptor.__get__")))
    (hct_Policy : PySem.W.takesIn K (.builtin "object.__class__") = some true)
    (hcm_Policy : PySem.W.mroIn K c_Policy (.type "object") = some true)
    (sf_Policy : PySem.W.selfFirst K c_Policy = true)
    (or_Policy_and : PySem.W.findIn K (.ref c_Policy) "__rand__" = some none)
    (ola_Policy_and : PySem.W.findIn K (.type "list") "__and__" = some fl_Policy_and)
    (olr_Policy_and : PySem.W.findIn K (.type "list") "__rand__" = some rl_Policy_and)
    (ols_Policy_and : PySem.W.subIn K (.type "list") (.ref c_Policy) = some false)
    (ota_Policy_and : PySem.W.findIn K (.type "tuple") "__and__" = some ft_Policy_and)
    (otr_Policy_and : PySem.W.findIn K (.type "tuple") "__rand__" = some rt_Policy_and)
    (ots_Policy_and : PySem.W.subIn K (.type "tuple") (.ref c_Policy) = some false)
    (or_Policy_or : PySem.W.findIn K (.ref c_Policy) "__ror__" = some none)
    (ola_Policy_or : PySem.W.findIn K (.type "list") "__or__" = some fl_Policy_or)
    (olr_Policy_or : PySem.W.findIn K (.type "list") "__ror__" = some rl_Policy_or)
    (ols_Policy_or : PySem.W.subIn K (.type "list") (.ref c_Policy) = some false)
    (ota_Policy_or : PySem.W.findIn K (.type "tuple") "__or__" = some ft_Policy_or)
    (otr_Policy_or : PySem.W.findIn K (.type "tuple") "__ror__" = some rt_Policy_or)
    (ots_Policy_or : PySem.W.subIn K (.type "tuple") (.ref c_Policy) = some false)
    (no_Policy_shape : PySem.W.findIn K (.ref c_Policy) "shape" = some none)
    (no_Policy__marks : PySem.W.findIn K (.ref c_Policy) "_marks" = some none)
    (no_Policy__starts : PySem.W.findIn K (.ref c_Policy) "_starts" = some none)
    (no_Policy__ways : PySem.W.findIn K (.ref c_Policy) "_ways" = some none)
    (pg_Shape : PySem.W.plainGet K c_Shape Str.empty = true)
    (hd_Shape : PySem.W.hasDictIn K c_Shape = true)
    (po_Shape : PySem.W.plainOver K c_Shape = true)
    (sa_Shape : PySem.W.findIn K (.ref c_Shape) "__setattr__" = some (some (.builtin "object.__setattr__")))
    (kc_Shape : PySem.W.keepIn K (.ref c_Shape) = true)
    (i_Shape_init : PySem.W.isFn K (.ref f_Shape_init) = true)
    (mk_Shape : PySem.W.makesIn K c_Shape = true)
    (fi_Shape_getitem : PySem.W.fnIn K f_Shape_getitem = true)
    (i_Shape_getitem : PySem.W.isFn K (.ref f_Shape_getitem) = true)
    (i_Shape_iter : PySem.W.isFn K (.ref f_Shape_iter) = true)
    (i_Shape_len : PySem.W.isFn K (.ref f_Shape_len) = true)
    (i_Shape_eq : PySem.W.isFn K (.ref f_Shape_eq) = true)
    (i_Shape_modes_of : PySem.W.isFn K (.ref f_Shape_modes_of) = true)
    (hca_Shape : PySem.W.findIn K (.ref c_Shape) "__class__" = some (some (.builtin "object.__class__")))
    (hcn_Shape : PySem.W.specialIn K (.builtin "object.__class__") "__get__" = some (some (.builtin "getset_descriptor.__get__")))
    (hct_Shape : PySem.W.takesIn K (.builtin "object.__class__") = some true)
    (hcm_Shape : PySem.W.mroIn K c_Shape (.type "object") = some true)
    (rdc_Shape : PySem.W.readsIn K c_Shape (.type "type") = true)
    (gac_Shape : PySem.W.specialIn K (.ref c_Shape) "__getattribute__" = some (some (.builtin "type.__getattribute__")))
    (fcl_Shape_MARKS : PySem.W.findCls K (.ref c_Shape) (.type "type") "MARKS" = some (.val (.int 6 ti_Shape_MARKS)))
    (fcl_Shape_PARENTS : PySem.W.findCls K (.ref c_Shape) (.type "type") "PARENTS" = some (.val (.int 4 ti_Shape_PARENTS)))
    (no_Shape__listed : PySem.W.findIn K (.ref c_Shape) "_listed" = some none)
    (no_Shape__marks : PySem.W.findIn K (.ref c_Shape) "_marks" = some none)
    (gc_BadShape : PySem.W.nsIn K mainGlobals "BadShape" = some (some (.ref c_BadShape)))
    (gc_UnknownMark : PySem.W.nsIn K mainGlobals "UnknownMark" = some (some (.ref c_UnknownMark)))
    (gc_TooLarge : PySem.W.nsIn K mainGlobals "TooLarge" = some (some (.ref c_TooLarge)))
    (gc_OtherShape : PySem.W.nsIn K mainGlobals "OtherShape" = some (some (.ref c_OtherShape)))
    (xz_super : PySem.W.nsIn K mainGlobals "super" = some none)
    (x_opq : PySem.W.nsIn K cStatics "thirdparty.any" = some none)
    (x_hn : PySem.W.specialIn K (.builtin "object.__class__") "__get__" = some (some (.builtin "getset_descriptor.__get__")))
    (x_ht : PySem.W.takesIn K (.builtin "object.__class__") = some true)
    (xq_OtherShape : PySem.W.excIn K c_OtherShape [.type "ValueError", .type "Exception", .type "BaseException", .type "object"] "ValueError.__new__" = true)
    (xga_OtherShape : PySem.W.findIn K (.ref c_OtherShape) "__getattribute__" = some (some (.builtin "BaseException.__getattribute__")))
    (xgg_OtherShape : PySem.W.findIn K (.ref c_OtherShape) "__getattr__" = some none)
    (xk_OtherShape : PySem.W.keepIn K (.ref c_OtherShape) = true)
    (xb_OtherShape : PySem.W.subIn K (.ref c_OtherShape) (.type "BaseException") = some true)
    (xt_OtherShape : PySem.W.typeIn K (.ref c_OtherShape) = some (.type "type"))
    (xd_OtherShape : PySem.W.hasDictIn K c_OtherShape = true)
    (xha_OtherShape : PySem.W.findIn K (.ref c_OtherShape) "__class__" = some (some (.builtin "object.__class__")))
    (xhm_OtherShape : PySem.W.mroIn K c_OtherShape (.type "object") = some true)
    (xl_BadShape : K.lookup c_BadShape = some (excClassObj nm_BadShape q_BadShape c_BadShape N_BadShape bs_BadShape [.ref c_WebError, .type "ValueError", .type "Exception", .type "BaseException", .type "object"] true sn_BadShape sub_BadShape ab_BadShape col_BadShape dd_BadShape m0_BadShape m1_BadShape m2_BadShape m3_BadShape m5_BadShape "ValueError.__new__"))
    (xsa_BadShape : PySem.W.findIn K (.ref c_BadShape) "__setattr__" = some (some (.builtin "object.__setattr__")))
    (xga_BadShape : PySem.W.findIn K (.ref c_BadShape) "__getattribute__" = some (some (.builtin "BaseException.__getattribute__")))
    (xgg_BadShape : PySem.W.findIn K (.ref c_BadShape) "__getattr__" = some none)
    (xno_BadShape : PySem.W.findIn K (.ref c_BadShape) "mark" = some none)
    (xk_BadShape : PySem.W.keepIn K (.ref c_BadShape) = true)
    (xb_BadShape : PySem.W.subIn K (.ref c_BadShape) (.type "BaseException") = some true)
    (xt_BadShape : PySem.W.typeIn K (.ref c_BadShape) = some (.type "type"))
    (xd_BadShape : PySem.W.hasDictIn K c_BadShape = true)
    (xi_BadShape : PySem.W.findIn K (.ref c_BadShape) "__init__" = some (some (.ref f_BadShape)))
    (xf_BadShape : PySem.W.typeIn K (.ref f_BadShape) = some (.type "function"))
    (xfl_BadShape : K.lookup f_BadShape = some ⟨oc_BadShape, od_BadShape, .func (PySem.W.ksFn "__init__" "BadShape.__init__" (defArgs S_BadShape_init) (defBody S_BadShape_init) (defScope S_BadShape_init) .none kV_BadShape dc_BadShape pm_BadShape an_BadShape (.ref cda_BadShape) ct_BadShape cc_BadShape), osl_BadShape⟩)
    (xci_BadShape : PySem.W.codeIn K (.ref cda_BadShape) "BadShape.__init__" = true)
    (xcc_BadShape : K.lookup cc_BadShape = some ⟨cl_BadShape, cld_BadShape, .cell (some (.ref c_BadShape)), csl_BadShape⟩)
    (xcd_BadShape : K.lookup cda_BadShape = some ⟨ccl_BadShape, cdd_BadShape, .fields vs_BadShape, ccs_BadShape⟩)
    (xvs_BadShape : vs_BadShape[2]? = some (.str file_BadShape tf_BadShape))
    (xfi_BadShape : ((PP.main.file : Str) == file_BadShape) = true)
    (xnx_BadShape : PySem.W.ks_superIn K c_BadShape c_BadShape "__init__" = some (some (.builtin "ValueError.__init__")))
    (xsl_BadShape : PySem.W.mroIn K c_BadShape (.ref c_BadShape) = some true)
    (xsu_BadShape : PySem.W.subIn K (.ref c_BadShape) (.type "ValueError") = some true)
    (xha_BadShape : PySem.W.findIn K (.ref c_BadShape) "__class__" = some (some (.builtin "object.__class__")))
    (xhm_BadShape : PySem.W.mroIn K c_BadShape (.type "object") = some true)
    (xl_UnknownMark : K.lookup c_UnknownMark = some (excClassObj nm_UnknownMark q_UnknownMark c_UnknownMark N_UnknownMark bs_UnknownMark [.ref c_WebError, .type "ValueError", .type "Exception", .type "BaseException", .type "object"] true sn_UnknownMark sub_UnknownMark ab_UnknownMark col_UnknownMark dd_UnknownMark m0_UnknownMark m1_UnknownMark m2_UnknownMark m3_UnknownMark m5_UnknownMark "ValueError.__new__"))
    (xsa_UnknownMark : PySem.W.findIn K (.ref c_UnknownMark) "__setattr__" = some (some (.builtin "object.__setattr__")))
    (xga_UnknownMark : PySem.W.findIn K (.ref c_UnknownMark) "__getattribute__" = some (some (.builtin "BaseException.__getattribute__")))
    (xgg_UnknownMark : PySem.W.findIn K (.ref c_UnknownMark) "__getattr__" = some none)
    (xno_UnknownMark : PySem.W.findIn K (.ref c_UnknownMark) "mark" = some none)
    (xk_UnknownMark : PySem.W.keepIn K (.ref c_UnknownMark) = true)
    (xb_UnknownMark : PySem.W.subIn K (.ref c_UnknownMark) (.type "BaseException") = some true)
    (xt_UnknownMark : PySem.W.typeIn K (.ref c_UnknownMark) = some (.type "type"))
    (xd_UnknownMark : PySem.W.hasDictIn K c_UnknownMark = true)
    (xi_UnknownMark : PySem.W.findIn K (.ref c_UnknownMark) "__init__" = some (some (.ref f_UnknownMark)))
    (xf_UnknownMark : PySem.W.typeIn K (.ref f_UnknownMark) = some (.type "function"))
    (xfl_UnknownMark : K.lookup f_UnknownMark = some ⟨oc_UnknownMark, od_UnknownMark, .func (PySem.W.ksFn "__init__" "UnknownMark.__init__" (defArgs S_UnknownMark_init) (defBody S_UnknownMark_init) (defScope S_UnknownMark_init) .none kV_UnknownMark dc_UnknownMark pm_UnknownMark an_UnknownMark (.ref cda_UnknownMark) ct_UnknownMark cc_UnknownMark), osl_UnknownMark⟩)
    (xci_UnknownMark : PySem.W.codeIn K (.ref cda_UnknownMark) "UnknownMark.__init__" = true)
    (xcc_UnknownMark : K.lookup cc_UnknownMark = some ⟨cl_UnknownMark, cld_UnknownMark, .cell (some (.ref c_UnknownMark)), csl_UnknownMark⟩)
    (xcd_UnknownMark : K.lookup cda_UnknownMark = some ⟨ccl_UnknownMark, cdd_UnknownMark, .fields vs_UnknownMark, ccs_UnknownMark⟩)
    (xvs_UnknownMark : vs_UnknownMark[2]? = some (.str file_UnknownMark tf_UnknownMark))
    (xfi_UnknownMark : ((PP.main.file : Str) == file_UnknownMark) = true)
    (xnx_UnknownMark : PySem.W.ks_superIn K c_UnknownMark c_UnknownMark "__init__" = some (some (.builtin "ValueError.__init__")))
    (xsl_UnknownMark : PySem.W.mroIn K c_UnknownMark (.ref c_UnknownMark) = some true)
    (xsu_UnknownMark : PySem.W.subIn K (.ref c_UnknownMark) (.type "ValueError") = some true)
    (xha_UnknownMark : PySem.W.findIn K (.ref c_UnknownMark) "__class__" = some (some (.builtin "object.__class__")))
    (xhm_UnknownMark : PySem.W.mroIn K c_UnknownMark (.type "object") = some true)
    (xl_TooLarge : K.lookup c_TooLarge = some (excClassObj nm_TooLarge q_TooLarge c_TooLarge N_TooLarge bs_TooLarge [.ref c_WebError, .type "ValueError", .type "Exception", .type "BaseException", .type "object"] true sn_TooLarge sub_TooLarge ab_TooLarge col_TooLarge dd_TooLarge m0_TooLarge m1_TooLarge m2_TooLarge m3_TooLarge m5_TooLarge "ValueError.__new__"))
    (xsa_TooLarge : PySem.W.findIn K (.ref c_TooLarge) "__setattr__" = some (some (.builtin "object.__setattr__")))
    (xga_TooLarge : PySem.W.findIn K (.ref c_TooLarge) "__getattribute__" = some (some (.builtin "BaseException.__getattribute__")))
    (xgg_TooLarge : PySem.W.findIn K (.ref c_TooLarge) "__getattr__" = some none)
    (xno_TooLarge : PySem.W.findIn K (.ref c_TooLarge) "most" = some none)
    (xk_TooLarge : PySem.W.keepIn K (.ref c_TooLarge) = true)
    (xb_TooLarge : PySem.W.subIn K (.ref c_TooLarge) (.type "BaseException") = some true)
    (xt_TooLarge : PySem.W.typeIn K (.ref c_TooLarge) = some (.type "type"))
    (xd_TooLarge : PySem.W.hasDictIn K c_TooLarge = true)
    (xi_TooLarge : PySem.W.findIn K (.ref c_TooLarge) "__init__" = some (some (.ref f_TooLarge)))
    (xf_TooLarge : PySem.W.typeIn K (.ref f_TooLarge) = some (.type "function"))
    (xfl_TooLarge : K.lookup f_TooLarge = some ⟨oc_TooLarge, od_TooLarge, .func (PySem.W.ksFn "__init__" "TooLarge.__init__" (defArgs S_TooLarge_init) (defBody S_TooLarge_init) (defScope S_TooLarge_init) .none kV_TooLarge dc_TooLarge pm_TooLarge an_TooLarge (.ref cda_TooLarge) ct_TooLarge cc_TooLarge), osl_TooLarge⟩)
    (xci_TooLarge : PySem.W.codeIn K (.ref cda_TooLarge) "TooLarge.__init__" = true)
    (xcc_TooLarge : K.lookup cc_TooLarge = some ⟨cl_TooLarge, cld_TooLarge, .cell (some (.ref c_TooLarge)), csl_TooLarge⟩)
    (xcd_TooLarge : K.lookup cda_TooLarge = some ⟨ccl_TooLarge, cdd_TooLarge, .fields vs_TooLarge, ccs_TooLarge⟩)
    (xvs_TooLarge : vs_TooLarge[2]? = some (.str file_TooLarge tf_TooLarge))
    (xfi_TooLarge : ((PP.main.file : Str) == file_TooLarge) = true)
    (xnx_TooLarge : PySem.W.ks_superIn K c_TooLarge c_TooLarge "__init__" = some (some (.builtin "ValueError.__init__")))
    (xsl_TooLarge : PySem.W.mroIn K c_TooLarge (.ref c_TooLarge) = some true)
    (xsu_TooLarge : PySem.W.subIn K (.ref c_TooLarge) (.type "ValueError") = some true)
    (xha_TooLarge : PySem.W.findIn K (.ref c_TooLarge) "__class__" = some (some (.builtin "object.__class__")))
    (xhm_TooLarge : PySem.W.mroIn K c_TooLarge (.type "object") = some true)
    : ∃ fd : FuncData, (∀ (s : Shared) (v : Value), BindsTo s fd ⟨[v], []⟩ [("_law_script", v)]) ∧ ∀ base : Heap, K.In base → base.Ns mainGlobals mg → FnOk PP w K mg base CX0 40 fa fd ["_law_script"] (spLaw K) := by
  have e := hfa.symm.trans (PySem.W.mg_of X G a_law)
  cases e
  have FD_Way_init : FunD K "__init__" "Way.__init__" (defArgs S_Way_init) (defBody S_Way_init) (defScope S_Way_init) [.str "none", .str "none", .str "none"] [("early", .bl false)] f_Way_init (PySem.W.fnOf "__init__" "Way.__init__" (defArgs S_Way_init) (defBody S_Way_init) (defScope S_Way_init) (.ref dt_Way_init) (.ref kd_Way_init) dc_Way_init pm_Way_init an_Way_init cd_Way_init ct_Way_init) := ⟨⟨_, _, _, _, _, _, _, _, _, _, rfl, l_Way_init, c_Way_init, .inr ⟨by simp, dt_Way_init, _, [.str "none" tt_Way_init_0, .str "none" tt_Way_init_1, .str "none" tt_Way_init_2], _, rfl, lt_Way_init, rfl, (.cons ⟨_, rfl⟩ (.cons ⟨_, rfl⟩ (.cons ⟨_, rfl⟩ .nil)))⟩, .inr ⟨kd_Way_init, rfl, fun q hq => by
      simp only [List.mem_cons, List.not_mem_nil, or_false] at hq
      rcases hq with rfl
      · exact ⟨_, nk_Way_init_early, rfl⟩⟩⟩, k_Way_init⟩
  have FD_Way_permits : FunD K "permits" "Way.permits" (defArgs S_Way_permits) (defBody S_Way_permits) (defScope S_Way_permits) [] [("loose", .bl false)] f_Way_permits (PySem.W.fnOf "permits" "Way.permits" (defArgs S_Way_permits) (defBody S_Way_permits) (defScope S_Way_permits) .none (.ref kd_Way_permits) dc_Way_permits pm_Way_permits an_Way_permits cd_Way_permits ct_Way_permits) := ⟨⟨_, _, _, _, _, _, _, _, _, _, rfl, l_Way_permits, c_Way_permits, .inl ⟨rfl, rfl⟩, .inr ⟨kd_Way_permits, rfl, fun q hq => by
      simp only [List.mem_cons, List.not_mem_nil, or_false] at hq
      rcases hq with rfl
      · exact ⟨_, nk_Way_permits_loose, rfl⟩⟩⟩, k_Way_permits⟩
  have FD_Policy_init : FunD K "__init__" "Policy.__init__" (defArgs S_Policy_init) (defBody S_Policy_init) (defScope S_Policy_init) [.ref ed_Policy_init_0] [] f_Policy_init (PySem.W.fnOf "__init__" "Policy.__init__" (defArgs S_Policy_init) (defBody S_Policy_init) (defScope S_Policy_init) (.ref dt_Policy_init) kV_Policy_init dc_Policy_init pm_Policy_init an_Policy_init cd_Policy_init ct_Policy_init) := ⟨⟨_, _, _, _, _, _, _, _, _, _, rfl, l_Policy_init, c_Policy_init, .inr ⟨by simp, dt_Policy_init, _, [.ref ed_Policy_init_0], _, rfl, lt_Policy_init, rfl, (.cons rfl .nil)⟩, .inl rfl⟩, k_Policy_init⟩
  have Hkb_Way_init_4_early : KBn K (PySem.W.fnOf "__init__" "Way.__init__" (defArgs S_Way_init) (defBody S_Way_init) (defScope S_Way_init) (.ref dt_Way_init) (.ref kd_Way_init) dc_Way_init pm_Way_init an_Way_init cd_Way_init ct_Way_init) ["self", "held", "owned", "seen", "early"] 4 ["early"] (fun us ws => us ++ ws) (fun vs zs => vs ++ zs) := by
    obtain ⟨its, mv, h⟩ := FunD.kbinds (ps := ["self", "held", "owned", "seen", "early"]) FD_Way_init 4 ["early"] [] (fun us its mv ws => us ++ ws) (by simp) (by simp) (by simp) (fun r1 r2 r3 r4 => r1.append r4) (fun T D doc pm an cdv ct us its mv ws l1 l2 l3 l4 => match us, ws, mv, its, l1, l4, l3, l2 with | [_, _, _, _], [_], [], [_, _, _], _, _, _, _ => ⟨_, rfl, rfl⟩)
    exact h
  have Hkb_Policy_init_2 : ∃ ds, Vals [.ref ed_Policy_init_0] ds ∧ Binds K (PySem.W.fnOf "__init__" "Policy.__init__" (defArgs S_Policy_init) (defBody S_Policy_init) (defScope S_Policy_init) (.ref dt_Policy_init) kV_Policy_init dc_Policy_init pm_Policy_init an_Policy_init cd_Policy_init ct_Policy_init) ["self", "shape", "rows"] ds := FunD.binds1 (ps := ["self", "shape", "rows"]) FD_Policy_init 2 0 (by simp) (by rfl) (fun T kV doc pm an cdv ct us its l1 l2 => match us, its, l1, l2 with | [_, _], [_], _, _ => ⟨_, rfl, rfl⟩)
  have Hkb_Policy_init_3 : ∃ ds, Vals [] ds ∧ Binds K (PySem.W.fnOf "__init__" "Policy.__init__" (defArgs S_Policy_init) (defBody S_Policy_init) (defScope S_Policy_init) (.ref dt_Policy_init) kV_Policy_init dc_Policy_init pm_Policy_init an_Policy_init cd_Policy_init ct_Policy_init) ["self", "shape", "rows"] ds := FunD.binds1 (ps := ["self", "shape", "rows"]) FD_Policy_init 3 1 (by simp) (by rfl) (fun T kV doc pm an cdv ct us its l1 l2 => match us, its, l1, l2 with | [_, _, _], [_], _, _ => ⟨_, rfl, rfl⟩)
  have Hkb_Way_permits_5_loose : KBn K (PySem.W.fnOf "permits" "Way.permits" (defArgs S_Way_permits) (defBody S_Way_permits) (defScope S_Way_permits) .none (.ref kd_Way_permits) dc_Way_permits pm_Way_permits an_Way_permits cd_Way_permits ct_Way_permits) ["self", "held", "owned", "seen", "parents", "loose"] 5 ["loose"] (fun us ws => us ++ ws) (fun vs zs => vs ++ zs) := by
    obtain ⟨mv, h⟩ := FunD.kbinds0 (ps := ["self", "held", "owned", "seen", "parents", "loose"]) FD_Way_permits 5 ["loose"] [] (fun us mv ws => us ++ ws) (by simp) (by simp) (fun r1 r2 r3 => r1.append r3) (fun D doc pm an cdv ct us mv ws l1 l2 l3 => match us, ws, mv, l1, l3, l2 with | [_, _, _, _, _], [_], [], _, _, _ => rfl)
    exact h
  have XT_BadShape : PySem.WX.ExcTxt PP K mg "BadShape" "mark" c_BadShape := { gC := PySem.W.mg_of X G gc_BadShape, cls := ⟨nm_BadShape, q_BadShape, N_BadShape, bs_BadShape, _, sn_BadShape, sub_BadShape, ab_BadShape, col_BadShape, dd_BadShape, m0_BadShape, m1_BadShape, m2_BadShape, m3_BadShape, m5_BadShape, xl_BadShape, rfl⟩, sa := xsa_BadShape, ga := xga_BadShape, gg := xgg_BadShape, noN := xno_BadShape, kC := xk_BadShape, exC := xb_BadShape, tyC := xt_BadShape, hdC := xd_BadShape, D := c_BadShape, clsD := ⟨_, _, xl_BadShape, rfl⟩, fI := f_BadShape, qual := "BadShape.__init__", tx := _, S := S_BadShape_init, oc := oc_BadShape, od := od_BadShape, kV := kV_BadShape, doc := dc_BadShape, pm := pm_BadShape, an := an_BadShape, cda := cda_BadShape, ct := ct_BadShape, osl := osl_BadShape, cc := cc_BadShape, cl := cl_BadShape, cld := cld_BadShape, csl := csl_BadShape, ccl := ccl_BadShape, cdd := cdd_BadShape, vs := vs_BadShape, ccs := ccs_BadShape, file := file_BadShape, tf := tf_BadShape, q1 := _, q2 := _, q3 := _, q4 := _, q5 := _, q6 := _, q7 := _, q8 := _, q9 := _, q10 := _, j := _, pl := _, iC := xi_BadShape, tI := xf_BadShape, lI := xfl_BadShape, cI := xci_BadShape, lcc := xcc_BadShape, lcd := xcd_BadShape, hvs := xvs_BadShape, hfile := xfi_BadShape, hpar := ⟨_, rfl, rfl⟩, hbody := rfl, hbind := fun _ _ => rfl, hev := fun _ _ => rfl, hk := rfl, hco := rfl, hgen := rfl, hks := rfl, hkc := rfl, hself := rfl, hfl := rfl, hcell := by decide +kernel, nf := by decide +kernel, top := by decide +kernel, sup := PySem.W.mg_none_of X G xz_super, opq := x_opq, nxt := xnx_BadShape, slf := xsl_BadShape, sub := xsu_BadShape }
  have XT_UnknownMark : PySem.WX.ExcTxt PP K mg "UnknownMark" "mark" c_UnknownMark := { gC := PySem.W.mg_of X G gc_UnknownMark, cls := ⟨nm_UnknownMark, q_UnknownMark, N_UnknownMark, bs_UnknownMark, _, sn_UnknownMark, sub_UnknownMark, ab_UnknownMark, col_UnknownMark, dd_UnknownMark, m0_UnknownMark, m1_UnknownMark, m2_UnknownMark, m3_UnknownMark, m5_UnknownMark, xl_UnknownMark, rfl⟩, sa := xsa_UnknownMark, ga := xga_UnknownMark, gg := xgg_UnknownMark, noN := xno_UnknownMark, kC := xk_UnknownMark, exC := xb_UnknownMark, tyC := xt_UnknownMark, hdC := xd_UnknownMark, D := c_UnknownMark, clsD := ⟨_, _, xl_UnknownMark, rfl⟩, fI := f_UnknownMark, qual := "UnknownMark.__init__", tx := _, S := S_UnknownMark_init, oc := oc_UnknownMark, od := od_UnknownMark, kV := kV_UnknownMark, doc := dc_UnknownMark, pm := pm_UnknownMark, an := an_UnknownMark, cda := cda_UnknownMark, ct := ct_UnknownMark, osl := osl_UnknownMark, cc := cc_UnknownMark, cl := cl_UnknownMark, cld := cld_UnknownMark, csl := csl_UnknownMark, ccl := ccl_UnknownMark, cdd := cdd_UnknownMark, vs := vs_UnknownMark, ccs := ccs_UnknownMark, file := file_UnknownMark, tf := tf_UnknownMark, q1 := _, q2 := _, q3 := _, q4 := _, q5 := _, q6 := _, q7 := _, q8 := _, q9 := _, q10 := _, j := _, pl := _, iC := xi_UnknownMark, tI := xf_UnknownMark, lI := xfl_UnknownMark, cI := xci_UnknownMark, lcc := xcc_UnknownMark, lcd := xcd_UnknownMark, hvs := xvs_UnknownMark, hfile := xfi_UnknownMark, hpar := ⟨_, rfl, rfl⟩, hbody := rfl, hbind := fun _ _ => rfl, hev := fun _ _ => rfl, hk := rfl, hco := rfl, hgen := rfl, hks := rfl, hkc := rfl, hself := rfl, hfl := rfl, hcell := by decide +kernel, nf := by decide +kernel, top := by decide +kernel, sup := PySem.W.mg_none_of X G xz_super, opq := x_opq, nxt := xnx_UnknownMark, slf := xsl_UnknownMark, sub := xsu_UnknownMark }
  have XT_TooLarge : PySem.WX.ExcTxt PP K mg "TooLarge" "most" c_TooLarge := { gC := PySem.W.mg_of X G gc_TooLarge, cls := ⟨nm_TooLarge, q_TooLarge, N_TooLarge, bs_TooLarge, _, sn_TooLarge, sub_TooLarge, ab_TooLarge, col_TooLarge, dd_TooLarge, m0_TooLarge, m1_TooLarge, m2_TooLarge, m3_TooLarge, m5_TooLarge, xl_TooLarge, rfl⟩, sa := xsa_TooLarge, ga := xga_TooLarge, gg := xgg_TooLarge, noN := xno_TooLarge, kC := xk_TooLarge, exC := xb_TooLarge, tyC := xt_TooLarge, hdC := xd_TooLarge, D := c_TooLarge, clsD := ⟨_, _, xl_TooLarge, rfl⟩, fI := f_TooLarge, qual := "TooLarge.__init__", tx := _, S := S_TooLarge_init, oc := oc_TooLarge, od := od_TooLarge, kV := kV_TooLarge, doc := dc_TooLarge, pm := pm_TooLarge, an := an_TooLarge, cda := cda_TooLarge, ct := ct_TooLarge, osl := osl_TooLarge, cc := cc_TooLarge, cl := cl_TooLarge, cld := cld_TooLarge, csl := csl_TooLarge, ccl := ccl_TooLarge, cdd := cdd_TooLarge, vs := vs_TooLarge, ccs := ccs_TooLarge, file := file_TooLarge, tf := tf_TooLarge, q1 := _, q2 := _, q3 := _, q4 := _, q5 := _, q6 := _, q7 := _, q8 := _, q9 := _, q10 := _, j := _, pl := _, iC := xi_TooLarge, tI := xf_TooLarge, lI := xfl_TooLarge, cI := xci_TooLarge, lcc := xcc_TooLarge, lcd := xcd_TooLarge, hvs := xvs_TooLarge, hfile := xfi_TooLarge, hpar := ⟨_, rfl, rfl⟩, hbody := rfl, hbind := fun _ _ => rfl, hev := fun _ _ => rfl, hk := rfl, hco := rfl, hgen := rfl, hks := rfl, hkc := rfl, hself := rfl, hfl := rfl, hcell := by decide +kernel, nf := by decide +kernel, top := by decide +kernel, sup := PySem.W.mg_none_of X G xz_super, opq := x_opq, nxt := xnx_TooLarge, slf := xsl_TooLarge, sub := xsu_TooLarge }
  let T : Txt K mg := {
    a_kinds := f_kinds,
    fd_kinds := _,
    F_kinds := fun_mk (st := S_kinds) l_kinds c_kinds k_kinds,
    b_kinds := (fun_mk (st := S_kinds) l_kinds c_kinds k_kinds).binds (ps := ["policy"]) fun _ _ _ _ _ _ us hl => match us, hl with | [_], _ => rfl,
    g_kinds := PySem.W.mg_of X G a_kinds,
    a_supply := f_supply,
    fd_supply := _,
    F_supply := fun_mk (st := S_supply) l_supply c_supply k_supply,
    b_supply := (fun_mk (st := S_supply) l_supply c_supply k_supply).binds (ps := ["shape", "mark", "kind", "reached"]) fun _ _ _ _ _ _ us hl => match us, hl with | [_, _, _, _], _ => rfl,
    g_supply := PySem.W.mg_of X G a_supply,
    a_fits := f_fits,
    fd_fits := _,
    F_fits := fun_mk (st := S_fits) l_fits c_fits k_fits,
    b_fits := (fun_mk (st := S_fits) l_fits c_fits k_fits).binds (ps := ["shape", "way", "mark", "parents", "kind", "reached"]) fun _ _ _ _ _ _ us hl => match us, hl with | [_, _, _, _, _, _], _ => rfl,
    g_fits := PySem.W.mg_of X G a_fits,
    a_first_rung := f_first_rung,
    fd_first_rung := _,
    F_first_rung := fun_mk (st := S_first_rung) l_first_rung c_first_rung k_first_rung,
    b_first_rung := (fun_mk (st := S_first_rung) l_first_rung c_first_rung k_first_rung).binds (ps := ["policy", "mark", "kind", "names"]) fun _ _ _ _ _ _ us hl => match us, hl with | [_, _, _, _], _ => rfl,
    g_first_rung := PySem.W.mg_of X G a_first_rung,
    a_ladder := f_ladder,
    fd_ladder := _,
    F_ladder := fun_mk (st := S_ladder) l_ladder c_ladder k_ladder,
    b_ladder := (fun_mk (st := S_ladder) l_ladder c_ladder k_ladder).binds (ps := ["policy", "kind"]) fun _ _ _ _ _ _ us hl => match us, hl with | [_, _], _ => rfl,
    g_ladder := PySem.W.mg_of X G a_ladder,
    a_reached := f_reached,
    fd_reached := _,
    F_reached := fun_mk (st := S_reached) l_reached c_reached k_reached,
    b_reached := (fun_mk (st := S_reached) l_reached c_reached k_reached).binds (ps := ["policy", "kind"]) fun _ _ _ _ _ _ us hl => match us, hl with | [_, _], _ => rfl,
    g_reached := PySem.W.mg_of X G a_reached,
    a_rank := f_rank,
    fd_rank := _,
    F_rank := fun_mk (st := S_rank) l_rank c_rank k_rank,
    b_rank := (fun_mk (st := S_rank) l_rank c_rank k_rank).binds (ps := ["level"]) fun _ _ _ _ _ _ us hl => match us, hl with | [_], _ => rfl,
    g_rank := PySem.W.mg_of X G a_rank,
    a_needed := f_needed,
    fd_needed := _,
    F_needed := fun_mk (st := S_needed) l_needed c_needed k_needed,
    b_needed := (fun_mk (st := S_needed) l_needed c_needed k_needed).binds (ps := ["level", "parents"]) fun _ _ _ _ _ _ us hl => match us, hl with | [_, _], _ => rfl,
    g_needed := PySem.W.mg_of X G a_needed,
    a_higher := f_higher,
    fd_higher := _,
    F_higher := fun_mk (st := S_higher) l_higher c_higher k_higher,
    b_higher := (fun_mk (st := S_higher) l_higher c_higher k_higher).binds (ps := ["level", "other"]) fun _ _ _ _ _ _ us hl => match us, hl with | [_, _], _ => rfl,
    g_higher := PySem.W.mg_of X G a_higher,
    a_Way_init := f_Way_init,
    fd_Way_init := _,
    F_Way_init := FD_Way_init,
    a_Way_needs := f_Way_needs,
    fd_Way_needs := _,
    F_Way_needs := fun_mk (st := S_Way_needs) l_Way_needs c_Way_needs k_Way_needs,
    b_Way_needs := (fun_mk (st := S_Way_needs) l_Way_needs c_Way_needs k_Way_needs).binds (ps := ["self", "parents"]) fun _ _ _ _ _ _ us hl => match us, hl with | [_, _], _ => rfl,
    a_Way_permits := f_Way_permits,
    fd_Way_permits := _,
    F_Way_permits := FD_Way_permits,
    a_Way_eq := f_Way_eq,
    fd_Way_eq := _,
    F_Way_eq := fun_mk (st := S_Way_eq) l_Way_eq c_Way_eq k_Way_eq,
    b_Way_eq := (fun_mk (st := S_Way_eq) l_Way_eq c_Way_eq k_Way_eq).binds (ps := ["self", "other"]) fun _ _ _ _ _ _ us hl => match us, hl with | [_, _], _ => rfl,
    a_Way_le := f_Way_le,
    fd_Way_le := _,
    F_Way_le := fun_mk (st := S_Way_le) l_Way_le c_Way_le k_Way_le,
    b_Way_le := (fun_mk (st := S_Way_le) l_Way_le c_Way_le k_Way_le).binds (ps := ["self", "other"]) fun _ _ _ _ _ _ us hl => match us, hl with | [_, _], _ => rfl,
    a_Way_and := f_Way_and,
    fd_Way_and := _,
    F_Way_and := fun_mk (st := S_Way_and) l_Way_and c_Way_and k_Way_and,
    b_Way_and := (fun_mk (st := S_Way_and) l_Way_and c_Way_and k_Way_and).binds (ps := ["self", "other"]) fun _ _ _ _ _ _ us hl => match us, hl with | [_, _], _ => rfl,
    a_trimmed := f_trimmed,
    fd_trimmed := _,
    F_trimmed := fun_mk (st := S_trimmed) l_trimmed c_trimmed k_trimmed,
    b_trimmed := (fun_mk (st := S_trimmed) l_trimmed c_trimmed k_trimmed).binds (ps := ["ways"]) fun _ _ _ _ _ _ us hl => match us, hl with | [_], _ => rfl,
    g_trimmed := PySem.W.mg_of X G a_trimmed,
    a_same_shape := f_same_shape,
    fd_same_shape := _,
    F_same_shape := fun_mk (st := S_same_shape) l_same_shape c_same_shape k_same_shape,
    b_same_shape := (fun_mk (st := S_same_shape) l_same_shape c_same_shape k_same_shape).binds (ps := ["policy", "other"]) fun _ _ _ _ _ _ us hl => match us, hl with | [_, _], _ => rfl,
    g_same_shape := PySem.W.mg_of X G a_same_shape,
    a_met := f_met,
    fd_met := _,
    F_met := fun_mk (st := S_met) l_met c_met k_met,
    b_met := (fun_mk (st := S_met) l_met c_met k_met).binds (ps := ["policy", "other"]) fun _ _ _ _ _ _ us hl => match us, hl with | [_, _], _ => rfl,
    g_met := PySem.W.mg_of X G a_met,
    a_either := f_either,
    fd_either := _,
    F_either := fun_mk (st := S_either) l_either c_either k_either,
    b_either := (fun_mk (st := S_either) l_either c_either k_either).binds (ps := ["policy", "other"]) fun _ _ _ _ _ _ us hl => match us, hl with | [_, _], _ => rfl,
    g_either := PySem.W.mg_of X G a_either,
    a_all_counts := f_all_counts,
    fd_all_counts := _,
    F_all_counts := fun_mk (st := S_all_counts) l_all_counts c_all_counts k_all_counts,
    b_all_counts := (fun_mk (st := S_all_counts) l_all_counts c_all_counts k_all_counts).binds (ps := ["parents"]) fun _ _ _ _ _ _ us hl => match us, hl with | [_], _ => rfl,
    g_all_counts := PySem.W.mg_of X G a_all_counts,
    a_possible := f_possible,
    fd_possible := _,
    F_possible := fun_mk (st := S_possible) l_possible c_possible k_possible,
    b_possible := (fun_mk (st := S_possible) l_possible c_possible k_possible).binds (ps := ["counts", "loose", "supplies", "more"]) fun _ _ _ _ _ _ us hl => match us, hl with | [_, _, _, _], _ => rfl,
    g_possible := PySem.W.mg_of X G a_possible,
    a_permitted := f_permitted,
    fd_permitted := _,
    F_permitted := fun_mk (st := S_permitted) l_permitted c_permitted k_permitted,
    b_permitted := (fun_mk (st := S_permitted) l_permitted c_permitted k_permitted).binds (ps := ["policy", "mark", "parents", "counts", "loose"]) fun _ _ _ _ _ _ us hl => match us, hl with | [_, _, _, _, _], _ => rfl,
    g_permitted := PySem.W.mg_of X G a_permitted,
    a_gap_at := f_gap_at,
    fd_gap_at := _,
    F_gap_at := fun_mk (st := S_gap_at) l_gap_at c_gap_at k_gap_at,
    b_gap_at := (fun_mk (st := S_gap_at) l_gap_at c_gap_at k_gap_at).binds (ps := ["policy", "other", "mark", "supplies", "more"]) fun _ _ _ _ _ _ us hl => match us, hl with | [_, _, _, _, _], _ => rfl,
    g_gap_at := PySem.W.mg_of X G a_gap_at,
    a_gap := f_gap,
    fd_gap := _,
    F_gap := fun_mk (st := S_gap) l_gap c_gap k_gap,
    b_gap := (fun_mk (st := S_gap) l_gap c_gap k_gap).binds (ps := ["policy", "other"]) fun _ _ _ _ _ _ us hl => match us, hl with | [_, _], _ => rfl,
    g_gap := PySem.W.mg_of X G a_gap,
    a_included := f_included,
    fd_included := _,
    F_included := fun_mk (st := S_included) l_included c_included k_included,
    b_included := (fun_mk (st := S_included) l_included c_included k_included).binds (ps := ["policy", "other"]) fun _ _ _ _ _ _ us hl => match us, hl with | [_, _], _ => rfl,
    g_included := PySem.W.mg_of X G a_included,
    a_Policy_init := f_Policy_init,
    fd_Policy_init := _,
    F_Policy_init := FD_Policy_init,
    ed_Policy_init_0 := ed_Policy_init_0,
    qe_Policy_init_0 := fun H => .inr ⟨_, _, _, le_Policy_init_0, rfl, rfl, by show 0 ≤ sizeLine; decide, .nil⟩,
    a_Policy_getitem := f_Policy_getitem,
    fd_Policy_getitem := _,
    F_Policy_getitem := fun_mk (st := S_Policy_getitem) l_Policy_getitem c_Policy_getitem k_Policy_getitem,
    b_Policy_getitem := (fun_mk (st := S_Policy_getitem) l_Policy_getitem c_Policy_getitem k_Policy_getitem).binds (ps := ["self", "mark"]) fun _ _ _ _ _ _ us hl => match us, hl with | [_, _], _ => rfl,
    a_Policy_setitem := f_Policy_setitem,
    fd_Policy_setitem := _,
    F_Policy_setitem := fun_mk (st := S_Policy_setitem) l_Policy_setitem c_Policy_setitem k_Policy_setitem,
    b_Policy_setitem := (fun_mk (st := S_Policy_setitem) l_Policy_setitem c_Policy_setitem k_Policy_setitem).binds (ps := ["self", "mark", "rule"]) fun _ _ _ _ _ _ us hl => match us, hl with | [_, _, _], _ => rfl,
    a_Policy_starts_at := f_Policy_starts_at,
    fd_Policy_starts_at := _,
    F_Policy_starts_at := fun_mk (st := S_Policy_starts_at) l_Policy_starts_at c_Policy_starts_at k_Policy_starts_at,
    b_Policy_starts_at := (fun_mk (st := S_Policy_starts_at) l_Policy_starts_at c_Policy_starts_at k_Policy_starts_at).binds (ps := ["self", "mark"]) fun _ _ _ _ _ _ us hl => match us, hl with | [_, _], _ => rfl,
    a_Policy_ways_of := f_Policy_ways_of,
    fd_Policy_ways_of := _,
    F_Policy_ways_of := fun_mk (st := S_Policy_ways_of) l_Policy_ways_of c_Policy_ways_of k_Policy_ways_of,
    b_Policy_ways_of := (fun_mk (st := S_Policy_ways_of) l_Policy_ways_of c_Policy_ways_of k_Policy_ways_of).binds (ps := ["self", "mark"]) fun _ _ _ _ _ _ us hl => match us, hl with | [_, _], _ => rfl,
    a_Policy_starts := f_Policy_starts,
    fd_Policy_starts := _,
    F_Policy_starts := fun_mk (st := S_Policy_starts) l_Policy_starts c_Policy_starts k_Policy_starts,
    b_Policy_starts := (fun_mk (st := S_Policy_starts) l_Policy_starts c_Policy_starts k_Policy_starts).binds (ps := ["self"]) fun _ _ _ _ _ _ us hl => match us, hl with | [_], _ => rfl,
    a_Policy_and := f_Policy_and,
    fd_Policy_and := _,
    F_Policy_and := fun_mk (st := S_Policy_and) l_Policy_and c_Policy_and k_Policy_and,
    b_Policy_and := (fun_mk (st := S_Policy_and) l_Policy_and c_Policy_and k_Policy_and).binds (ps := ["self", "other"]) fun _ _ _ _ _ _ us hl => match us, hl with | [_, _], _ => rfl,
    a_Policy_or := f_Policy_or,
    fd_Policy_or := _,
    F_Policy_or := fun_mk (st := S_Policy_or) l_Policy_or c_Policy_or k_Policy_or,
    b_Policy_or := (fun_mk (st := S_Policy_or) l_Policy_or c_Policy_or k_Policy_or).binds (ps := ["self", "other"]) fun _ _ _ _ _ _ us hl => match us, hl with | [_, _], _ => rfl,
    a_is_mark := f_is_mark,
    fd_is_mark := _,
    F_is_mark := fun_mk (st := S_is_mark) l_is_mark c_is_mark k_is_mark,
    b_is_mark := (fun_mk (st := S_is_mark) l_is_mark c_is_mark k_is_mark).binds (ps := ["text"]) fun _ _ _ _ _ _ us hl => match us, hl with | [_], _ => rfl,
    g_is_mark := PySem.W.mg_of X G a_is_mark,
    a_sound_row := f_sound_row,
    fd_sound_row := _,
    F_sound_row := fun_mk (st := S_sound_row) l_sound_row c_sound_row k_sound_row,
    b_sound_row := (fun_mk (st := S_sound_row) l_sound_row c_sound_row k_sound_row).binds (ps := ["row", "before"]) fun _ _ _ _ _ _ us hl => match us, hl with | [_, _], _ => rfl,
    g_sound_row := PySem.W.mg_of X G a_sound_row,
    a_barren := f_barren,
    fd_barren := _,
    F_barren := fun_mk (st := S_barren) l_barren c_barren k_barren,
    b_barren := (fun_mk (st := S_barren) l_barren c_barren k_barren).binds (ps := ["rows"]) fun _ _ _ _ _ _ us hl => match us, hl with | [_], _ => rfl,
    g_barren := PySem.W.mg_of X G a_barren,
    a_Shape_init := f_Shape_init,
    fd_Shape_init := _,
    F_Shape_init := fun_mk (st := S_Shape_init) l_Shape_init c_Shape_init k_Shape_init,
    bs_Shape_init := StX.bind_star1 (B := fun us => bindArgs (PySem.W.fnOf "__init__" "Shape.__init__" (defArgs S_Shape_init) (defBody S_Shape_init) (defScope S_Shape_init) .none kV_Shape_init dc_Shape_init pm_Shape_init an_Shape_init cd_Shape_init ct_Shape_init) ⟨us, []⟩) (fun a => rfl) (fun a r rs => rfl),
    a_Shape_getitem := f_Shape_getitem,
    fd_Shape_getitem := _,
    F_Shape_getitem := fun_mk (st := S_Shape_getitem) l_Shape_getitem c_Shape_getitem k_Shape_getitem,
    b_Shape_getitem := (fun_mk (st := S_Shape_getitem) l_Shape_getitem c_Shape_getitem k_Shape_getitem).binds (ps := ["self", "mark"]) fun _ _ _ _ _ _ us hl => match us, hl with | [_, _], _ => rfl,
    a_Shape_iter := f_Shape_iter,
    fd_Shape_iter := _,
    F_Shape_iter := fun_mk (st := S_Shape_iter) l_Shape_iter c_Shape_iter k_Shape_iter,
    b_Shape_iter := (fun_mk (st := S_Shape_iter) l_Shape_iter c_Shape_iter k_Shape_iter).binds (ps := ["self"]) fun _ _ _ _ _ _ us hl => match us, hl with | [_], _ => rfl,
    a_Shape_len := f_Shape_len,
    fd_Shape_len := _,
    F_Shape_len := fun_mk (st := S_Shape_len) l_Shape_len c_Shape_len k_Shape_len,
    b_Shape_len := (fun_mk (st := S_Shape_len) l_Shape_len c_Shape_len k_Shape_len).binds (ps := ["self"]) fun _ _ _ _ _ _ us hl => match us, hl with | [_], _ => rfl,
    a_Shape_eq := f_Shape_eq,
    fd_Shape_eq := _,
    F_Shape_eq := fun_mk (st := S_Shape_eq) l_Shape_eq c_Shape_eq k_Shape_eq,
    b_Shape_eq := (fun_mk (st := S_Shape_eq) l_Shape_eq c_Shape_eq k_Shape_eq).binds (ps := ["self", "other"]) fun _ _ _ _ _ _ us hl => match us, hl with | [_, _], _ => rfl,
    a_Shape_modes_of := f_Shape_modes_of,
    fd_Shape_modes_of := _,
    F_Shape_modes_of := fun_mk (st := S_Shape_modes_of) l_Shape_modes_of c_Shape_modes_of k_Shape_modes_of,
    b_Shape_modes_of := (fun_mk (st := S_Shape_modes_of) l_Shape_modes_of c_Shape_modes_of k_Shape_modes_of).binds (ps := ["self", "mark"]) fun _ _ _ _ _ _ us hl => match us, hl with | [_, _], _ => rfl,
    a__law_draws := f__law_draws,
    fd__law_draws := _,
    F__law_draws := fun_mk (st := S__law_draws) l__law_draws c__law_draws k__law_draws,
    b__law_draws := (fun_mk (st := S__law_draws) l__law_draws c__law_draws k__law_draws).binds (ps := ["_law_script"]) fun _ _ _ _ _ _ us hl => match us, hl with | [_], _ => rfl,
    g__law_draws := PySem.W.mg_of X G a__law_draws,
    a__law_take := f__law_take,
    fd__law_take := _,
    F__law_take := fun_mk (st := S__law_take) l__law_take c__law_take k__law_take,
    b__law_take := (fun_mk (st := S__law_take) l__law_take c__law_take k__law_take).binds (ps := ["_law_draws_here", "_law_at", "_law_size"]) fun _ _ _ _ _ _ us hl => match us, hl with | [_, _, _], _ => rfl,
    g__law_take := PySem.W.mg_of X G a__law_take,
    a__law_same := f__law_same,
    fd__law_same := _,
    F__law_same := fun_mk (st := S__law_same) l__law_same c__law_same k__law_same,
    b__law_same := (fun_mk (st := S__law_same) l__law_same c__law_same k__law_same).binds (ps := ["_law_actual", "_law_expected"]) fun _ _ _ _ _ _ us hl => match us, hl with | [_, _], _ => rfl,
    g__law_same := PySem.W.mg_of X G a__law_same,
    a__law_marks := f__law_marks,
    fd__law_marks := _,
    F__law_marks := fun_mk (st := S__law_marks) l__law_marks c__law_marks k__law_marks,
    b__law_marks := (fun_mk (st := S__law_marks) l__law_marks c__law_marks k__law_marks).binds (ps := ["_law_draws_here", "_law_at", "_law_count"]) fun _ _ _ _ _ _ us hl => match us, hl with | [_, _, _], _ => rfl,
    g__law_marks := PySem.W.mg_of X G a__law_marks,
    a__law_rows := f__law_rows,
    fd__law_rows := _,
    F__law_rows := fun_mk (st := S__law_rows) l__law_rows c__law_rows k__law_rows,
    b__law_rows := (fun_mk (st := S__law_rows) l__law_rows c__law_rows k__law_rows).binds (ps := ["_law_draws_here", "_law_at", "_law_exclusive"]) fun _ _ _ _ _ _ us hl => match us, hl with | [_, _, _], _ => rfl,
    g__law_rows := PySem.W.mg_of X G a__law_rows,
    a__law_way := f__law_way,
    fd__law_way := _,
    F__law_way := fun_mk (st := S__law_way) l__law_way c__law_way k__law_way,
    b__law_way := (fun_mk (st := S__law_way) l__law_way c__law_way k__law_way).binds (ps := ["_law_draws_here", "_law_at"]) fun _ _ _ _ _ _ us hl => match us, hl with | [_, _], _ => rfl,
    g__law_way := PySem.W.mg_of X G a__law_way,
    a__law_rules := f__law_rules,
    fd__law_rules := _,
    F__law_rules := fun_mk (st := S__law_rules) l__law_rules c__law_rules k__law_rules,
    b__law_rules := (fun_mk (st := S__law_rules) l__law_rules c__law_rules k__law_rules).binds (ps := ["_law_draws_here", "_law_at", "_law_rows_here"]) fun _ _ _ _ _ _ us hl => match us, hl with | [_, _, _], _ => rfl,
    g__law_rules := PySem.W.mg_of X G a__law_rules,
    a__law_shape := f__law_shape,
    fd__law_shape := _,
    F__law_shape := fun_mk (st := S__law_shape) l__law_shape c__law_shape k__law_shape,
    b__law_shape := (fun_mk (st := S__law_shape) l__law_shape c__law_shape k__law_shape).binds (ps := ["_law_rows_here"]) fun _ _ _ _ _ _ us hl => match us, hl with | [_], _ => rfl,
    g__law_shape := PySem.W.mg_of X G a__law_shape,
    a__law_way_made := f__law_way_made,
    fd__law_way_made := _,
    F__law_way_made := fun_mk (st := S__law_way_made) l__law_way_made c__law_way_made k__law_way_made,
    b__law_way_made := (fun_mk (st := S__law_way_made) l__law_way_made c__law_way_made k__law_way_made).binds (ps := ["_law_way_here"]) fun _ _ _ _ _ _ us hl => match us, hl with | [_], _ => rfl,
    g__law_way_made := PySem.W.mg_of X G a__law_way_made,
    a__law_policy := f__law_policy,
    fd__law_policy := _,
    F__law_policy := fun_mk (st := S__law_policy) l__law_policy c__law_policy k__law_policy,
    b__law_policy := (fun_mk (st := S__law_policy) l__law_policy c__law_policy k__law_policy).binds (ps := ["_law_shape_here", "_law_rules_here"]) fun _ _ _ _ _ _ us hl => match us, hl with | [_, _], _ => rfl,
    g__law_policy := PySem.W.mg_of X G a__law_policy,
    a__law_cut := f__law_cut,
    fd__law_cut := _,
    F__law_cut := fun_mk (st := S__law_cut) l__law_cut c__law_cut k__law_cut,
    b__law_cut := (fun_mk (st := S__law_cut) l__law_cut c__law_cut k__law_cut).binds (ps := ["_law_rows_here", "_law_count"]) fun _ _ _ _ _ _ us hl => match us, hl with | [_, _], _ => rfl,
    g__law_cut := PySem.W.mg_of X G a__law_cut,
    a__law_loosened := f__law_loosened,
    fd__law_loosened := _,
    F__law_loosened := fun_mk (st := S__law_loosened) l__law_loosened c__law_loosened k__law_loosened,
    b__law_loosened := (fun_mk (st := S__law_loosened) l__law_loosened c__law_loosened k__law_loosened).binds (ps := ["_law_draws_here", "_law_at", "_law_rules_here"]) fun _ _ _ _ _ _ us hl => match us, hl with | [_, _, _], _ => rfl,
    g__law_loosened := PySem.W.mg_of X G a__law_loosened,
    a__law_tightened := f__law_tightened,
    fd__law_tightened := _,
    F__law_tightened := fun_mk (st := S__law_tightened) l__law_tightened c__law_tightened k__law_tightened,
    b__law_tightened := (fun_mk (st := S__law_tightened) l__law_tightened c__law_tightened k__law_tightened).binds (ps := ["_law_draws_here", "_law_at", "_law_rules_here"]) fun _ _ _ _ _ _ us hl => match us, hl with | [_, _, _], _ => rfl,
    g__law_tightened := PySem.W.mg_of X G a__law_tightened,
    a__law_changed := f__law_changed,
    fd__law_changed := _,
    F__law_changed := fun_mk (st := S__law_changed) l__law_changed c__law_changed k__law_changed,
    b__law_changed := (fun_mk (st := S__law_changed) l__law_changed c__law_changed k__law_changed).binds (ps := ["_law_draws_here", "_law_at", "_law_rules_here"]) fun _ _ _ _ _ _ us hl => match us, hl with | [_, _, _], _ => rfl,
    g__law_changed := PySem.W.mg_of X G a__law_changed,
    a__law_both := f__law_both,
    fd__law_both := _,
    F__law_both := fun_mk (st := S__law_both) l__law_both c__law_both k__law_both,
    b__law_both := (fun_mk (st := S__law_both) l__law_both c__law_both k__law_both).binds (ps := ["_law_rules_here", "_law_other"]) fun _ _ _ _ _ _ us hl => match us, hl with | [_, _], _ => rfl,
    g__law_both := PySem.W.mg_of X G a__law_both,
    a__law_table := f__law_table,
    fd__law_table := _,
    F__law_table := fun_mk (st := S__law_table) l__law_table c__law_table k__law_table,
    b__law_table := (fun_mk (st := S__law_table) l__law_table c__law_table k__law_table).binds (ps := ["_law_made"]) fun _ _ _ _ _ _ us hl => match us, hl with | [_], _ => rfl,
    g__law_table := PySem.W.mg_of X G a__law_table,
    a__law_table_good := f__law_table_good,
    fd__law_table_good := _,
    F__law_table_good := fun_mk (st := S__law_table_good) l__law_table_good c__law_table_good k__law_table_good,
    b__law_table_good := (fun_mk (st := S__law_table_good) l__law_table_good c__law_table_good k__law_table_good).binds (ps := ["_law_table_here"]) fun _ _ _ _ _ _ us hl => match us, hl with | [_], _ => rfl,
    g__law_table_good := PySem.W.mg_of X G a__law_table_good,
    a_law := fa,
    fd_law := _,
    F_law := fun_mk (st := S_law) l_law c_law k_law,
    b_law := (fun_mk (st := S_law) l_law c_law k_law).binds (ps := ["_law_script"]) fun _ _ _ _ _ _ us hl => match us, hl with | [_], _ => rfl,
    g_law := PySem.W.mg_of X G a_law,
    n_any := PySem.W.mg_none_of X G z_any,
    n_bool := PySem.W.mg_none_of X G z_bool,
    n_enumerate := PySem.W.mg_none_of X G z_enumerate,
    n_int := PySem.W.mg_none_of X G z_int,
    n_isinstance := PySem.W.mg_none_of X G z_isinstance,
    n_iter := PySem.W.mg_none_of X G z_iter,
    n_len := PySem.W.mg_none_of X G z_len,
    n_list := PySem.W.mg_none_of X G z_list,
    n_max := PySem.W.mg_none_of X G z_max,
    n_property := PySem.W.mg_none_of X G z_property,
    n_range := PySem.W.mg_none_of X G z_range,
    n_str := PySem.W.mg_none_of X G z_str,
    n_tuple := PySem.W.mg_none_of X G z_tuple,
    tk_UNLIMITED := tq_UNLIMITED,
    g_UNLIMITED := PySem.W.mg_of X G aq_UNLIMITED,
    k_LEVELS := q_LEVELS,
    g_LEVELS := PySem.W.mg_of X G aq_LEVELS,
    q_LEVELS := fun H => .inr ⟨_, _, _, lq_LEVELS, rfl, rfl, by show 4 ≤ sizeLine; decide, (.cons ⟨_, rfl⟩ (.cons ⟨_, rfl⟩ (.cons ⟨_, rfl⟩ (.cons ⟨_, rfl⟩ .nil))))⟩,
    tk_LETTERS := tq_LETTERS,
    g_LETTERS := PySem.W.mg_of X G aq_LETTERS,
    k_MODES := q_MODES,
    g_MODES := PySem.W.mg_of X G aq_MODES,
    q_MODES := fun H => .inr ⟨_, _, _, lq_MODES, rfl, rfl, by show 2 ≤ sizeLine; decide, (.cons ⟨_, rfl⟩ (.cons ⟨_, rfl⟩ .nil))⟩,
    c_Way := c_Way,
    g_Way := PySem.W.mg_of X G gc_Way,
    cl_Way := ⟨pg_Way, hd_Way, po_Way, sa_Way⟩,
    mk_Way := ⟨mk_Way, a_Way_init, i_Way_init, kc_Way⟩,
    m_Way_needs := ⟨a_Way_needs, i_Way_needs, k_Way_needs⟩,
    m_Way_permits := ⟨a_Way_permits, i_Way_permits, k_Way_permits⟩,
    m_Way_eq := ⟨a_Way_eq, i_Way_eq, k_Way_eq⟩,
    m_Way_le := ⟨a_Way_le, i_Way_le, k_Way_le⟩,
    m_Way_and := ⟨a_Way_and, i_Way_and, k_Way_and⟩,
    ti_Way := fun _ _ _ _ h => .ins h ⟨pg_Way, hd_Way, po_Way, sa_Way⟩ hca_Way hcn_Way hct_Way hcm_Way,
    kk_Way := if_pos (beq_self_eq_true _),
    sf_Way := sf_Way,
    no_Way_held := no_Way_held,
    no_Way_owned := no_Way_owned,
    no_Way_seen := no_Way_seen,
    no_Way_early := no_Way_early,
    c_Policy := c_Policy,
    g_Policy := PySem.W.mg_of X G gc_Policy,
    cl_Policy := ⟨pg_Policy, hd_Policy, po_Policy, sa_Policy⟩,
    mk_Policy := ⟨mk_Policy, a_Policy_init, i_Policy_init, kc_Policy⟩,
    fi_Policy_getitem := fi_Policy_getitem,
    m_Policy_getitem := ⟨a_Policy_getitem, i_Policy_getitem, k_Policy_getitem⟩,
    nq_Policy := nq_Policy,
    m_Policy_setitem := ⟨a_Policy_setitem, i_Policy_setitem, k_Policy_setitem⟩,
    m_Policy_starts_at := ⟨a_Policy_starts_at, i_Policy_starts_at, k_Policy_starts_at⟩,
    m_Policy_ways_of := ⟨a_Policy_ways_of, i_Policy_ways_of, k_Policy_ways_of⟩,
    p_Policy_starts := p_Policy_starts,
    pr_Policy_starts := ⟨pa_Policy_starts, pg_Policy_starts, pt_Policy_starts, ⟨_, pr_Policy_starts⟩⟩,
    m_Policy_and := ⟨a_Policy_and, i_Policy_and, k_Policy_and⟩,
    m_Policy_or := ⟨a_Policy_or, i_Policy_or, k_Policy_or⟩,
    ti_Policy := fun _ _ _ _ h => .ins h ⟨pg_Policy, hd_Policy, po_Policy, sa_Policy⟩ hca_Policy hcn_Policy hct_Policy hcm_Policy,
    kk_Policy := if_pos (beq_self_eq_true _),
    of_Policy_and := ⟨sf_Policy, a_Policy_and, i_Policy_and, ⟨_, or_Policy_and, .inl rfl⟩, ⟨_, _, ola_Policy_and, olr_Policy_and, ols_Policy_and⟩, ⟨_, _, ota_Policy_and, otr_Policy_and, ots_Policy_and⟩⟩,
    of_Policy_or := ⟨sf_Policy, a_Policy_or, i_Policy_or, ⟨_, or_Policy_or, .inl rfl⟩, ⟨_, _, ola_Policy_or, olr_Policy_or, ols_Policy_or⟩, ⟨_, _, ota_Policy_or, otr_Policy_or, ots_Policy_or⟩⟩,
    no_Policy_shape := no_Policy_shape,
    no_Policy__marks := no_Policy__marks,
    no_Policy__starts := no_Policy__starts,
    no_Policy__ways := no_Policy__ways,
    c_Shape := c_Shape,
    g_Shape := PySem.W.mg_of X G gc_Shape,
    cl_Shape := ⟨pg_Shape, hd_Shape, po_Shape, sa_Shape⟩,
    mk_Shape := ⟨mk_Shape, a_Shape_init, i_Shape_init, kc_Shape⟩,
    fi_Shape_getitem := fi_Shape_getitem,
    m_Shape_getitem := ⟨a_Shape_getitem, i_Shape_getitem, k_Shape_getitem⟩,
    m_Shape_iter := ⟨a_Shape_iter, i_Shape_iter, k_Shape_iter⟩,
    m_Shape_len := ⟨a_Shape_len, i_Shape_len, k_Shape_len⟩,
    m_Shape_eq := ⟨a_Shape_eq, i_Shape_eq, k_Shape_eq⟩,
    m_Shape_modes_of := ⟨a_Shape_modes_of, i_Shape_modes_of, k_Shape_modes_of⟩,
    ti_Shape := fun _ _ _ _ h => .ins h ⟨pg_Shape, hd_Shape, po_Shape, sa_Shape⟩ hca_Shape hcn_Shape hct_Shape hcm_Shape,
    kk_Shape := if_pos (beq_self_eq_true _),
    cr_Shape := ⟨rdc_Shape, gac_Shape⟩,
    tk_Shape_MARKS := ti_Shape_MARKS,
    cv_Shape_MARKS := ⟨fcl_Shape_MARKS, ⟨_, rfl⟩⟩,
    tk_Shape_PARENTS := ti_Shape_PARENTS,
    cv_Shape_PARENTS := ⟨fcl_Shape_PARENTS, ⟨_, rfl⟩⟩,
    no_Shape__listed := no_Shape__listed,
    no_Shape__marks := no_Shape__marks,
    kb_Way_init_4_early := Hkb_Way_init_4_early,
    kb_Policy_init_2 := Hkb_Policy_init_2,
    kb_Policy_init_3 := Hkb_Policy_init_3,
    kb_Way_permits_5_loose := Hkb_Way_permits_5_loose,
    c_BadShape := c_BadShape,
    g_BadShape := PySem.W.mg_of X G gc_BadShape,
    c_UnknownMark := c_UnknownMark,
    g_UnknownMark := PySem.W.mg_of X G gc_UnknownMark,
    c_TooLarge := c_TooLarge,
    g_TooLarge := PySem.W.mg_of X G gc_TooLarge,
    c_OtherShape := c_OtherShape,
    g_OtherShape := PySem.W.mg_of X G gc_OtherShape,
    x_OtherShape := ⟨PySem.W.mg_of X G gc_OtherShape, xq_OtherShape, xk_OtherShape, xb_OtherShape, xt_OtherShape⟩,
    xc_OtherShape := ⟨xga_OtherShape, xgg_OtherShape, xb_OtherShape, xd_OtherShape, xha_OtherShape, x_hn, x_ht, xhm_OtherShape⟩,
    x_BadShape := XT_BadShape,
    xc_BadShape := ⟨xga_BadShape, xgg_BadShape, xb_BadShape, xd_BadShape, xha_BadShape, x_hn, x_ht, xhm_BadShape⟩,
    xn_BadShape := xno_BadShape,
    x_UnknownMark := XT_UnknownMark,
    xc_UnknownMark := ⟨xga_UnknownMark, xgg_UnknownMark, xb_UnknownMark, xd_UnknownMark, xha_UnknownMark, x_hn, x_ht, xhm_UnknownMark⟩,
    xn_UnknownMark := xno_UnknownMark,
    x_TooLarge := XT_TooLarge,
    xc_TooLarge := ⟨xga_TooLarge, xgg_TooLarge, xb_TooLarge, xd_TooLarge, xha_TooLarge, x_hn, x_ht, xhm_TooLarge⟩,
    xn_TooLarge := xno_TooLarge }
  exact ⟨T.fd_law, fun s v => .of_eq rfl, fun base _ _ => ok_law T⟩
end My
open PySem PySem.W PyProof.Rows in
set_option maxRecDepth 100000 in
set_option maxHeartbeats 0 in
theorem PySem.Challenge.cw_weblocks_k54_whole_order_and_meets_holds : PySem.Challenge.rw_weblocks_k54_whole_order_and_meets.Holds := by
  have fill : ∀ R : _ → _ → Prop, R PySem.Challenge.rw_weblocks_k54_whole_order_and_meets My.kK → R PySem.Challenge.rw_weblocks_k54_whole_order_and_meets My.kK := by
    dsimp only [My.kK, My.HM.K]
    k_fill
    exact fun _ h => h
  clear fill
  refine My.hSmall ?_
  refine L2.walk_of (l := PySem.Challenge.rw_weblocks_k54_whole_order_and_meets) (n := 63) (k := 40) (x := "_law_script") (CX := fun _ => L2.CX0) (sp := fun w => My.spLaw _) rfl (by decide) (by kernel_rfl) ⟨rfl, by decide, by decide⟩ (fun w h Y => PySem.W.kIn_of Y) ?F (fun _ _ a ns hl _ hS => ⟨a, ns, rfl, hS, hl, fun _ => rfl⟩) (fun _ _ _ _ _ h => h)
  case F =>
    intro w mg fa h KX G hmg
    have en : My.hD.name = ("law" : PySem.Str) := by kernel_rfl
    rw [en] at hmg
    dsimp only [My.kK, My.HM.K] at KX ⊢
    refine' My.all_mk KX G hmg ?gc_Way ?gc_Policy ?gc_Shape ?a_kinds ?l_kinds ?c_kinds ?k_kinds ?a_supply ?l_supply ?c_supply ?k_supply ?a_fits ?l_fits ?c_fits ?k_fits ?a_first_rung ?l_first_rung ?c_first_rung ?k_first_rung ?a_ladder ?l_ladder ?c_ladder ?k_ladder ?a_reached ?l_reached ?c_reached ?k_reached ?a_rank ?l_rank ?c_rank ?k_rank ?a_needed ?l_needed ?c_needed ?k_needed ?a_higher ?l_higher ?c_higher ?k_higher ?a_Way_init ?l_Way_init ?c_Way_init ?k_Way_init ?lt_Way_init ?nk_Way_init_early ?a_Way_needs ?l_Way_needs ?c_Way_needs ?k_Way_needs ?a_Way_permits ?l_Way_permits ?c_Way_permits ?k_Way_permits ?nk_Way_permits_loose ?a_Way_eq ?l_Way_eq ?c_Way_eq ?k_Way_eq ?a_Way_le ?l_Way_le ?c_Way_le ?k_Way_le ?a_Way_and ?l_Way_and ?c_Way_and ?k_Way_and ?a_trimmed ?l_trimmed ?c_trimmed ?k_trimmed ?a_same_shape ?l_same_shape ?c_same_shape ?k_same_shape ?a_met ?l_met ?c_met ?k_met ?a_either ?l_either ?c_either ?k_either ?a_all_counts ?l_all_counts ?c_all_counts ?k_all_counts ?a_possible ?l_possible ?c_possible ?k_possible ?a_permitted ?l_permitted ?c_permitted ?k_permitted ?a_gap_at ?l_gap_at ?c_gap_at ?k_gap_at ?a_gap ?l_gap ?c_gap ?k_gap ?a_included ?l_included ?c_included ?k_included ?a_Policy_init ?l_Policy_init ?c_Policy_init ?k_Policy_init ?lt_Policy_init ?le_Policy_init_0 ?a_Policy_getitem ?l_Policy_getitem ?c_Policy_getitem ?k_Policy_getitem ?a_Policy_setitem ?l_Policy_setitem ?c_Policy_setitem ?k_Policy_setitem ?a_Policy_starts_at ?l_Policy_starts_at ?c_Policy_starts_at ?k_Policy_starts_at ?a_Policy_ways_of ?l_Policy_ways_of ?c_Policy_ways_of ?k_Policy_ways_of ?pa_Policy_starts ?pr_Policy_starts ?pg_Policy_starts ?pt_Policy_starts ?l_Policy_starts ?c_Policy_starts ?k_Policy_starts ?a_Policy_and ?l_Policy_and ?c_Policy_and ?k_Policy_and ?a_Policy_or ?l_Policy_or ?c_Policy_or ?k_Policy_or ?a_is_mark ?l_is_mark ?c_is_mark ?k_is_mark ?a_sound_row ?l_sound_row ?c_sound_row ?k_sound_row ?a_barren ?l_barren ?c_barren ?k_barren ?a_Shape_init ?l_Shape_init ?c_Shape_init ?k_Shape_init ?a_Shape_getitem ?l_Shape_getitem ?c_Shape_getitem ?k_Shape_getitem ?a_Shape_iter ?l_Shape_iter ?c_Shape_iter ?k_Shape_iter ?a_Shape_len ?l_Shape_len ?c_Shape_len ?k_Shape_len ?a_Shape_eq ?l_Shape_eq ?c_Shape_eq ?k_Shape_eq ?a_Shape_modes_of ?l_Shape_modes_of ?c_Shape_modes_of ?k_Shape_modes_of ?a__law_draws ?l__law_draws ?c__law_draws ?k__law_draws ?a__law_take ?l__law_take ?c__law_take ?k__law_take ?a__law_same ?l__law_same ?c__law_same ?k__law_same ?a__law_marks ?l__law_marks ?c__law_marks ?k__law_marks ?a__law_rows ?l__law_rows ?c__law_rows ?k__law_rows ?a__law_way ?l__law_way ?c__law_way ?k__law_way ?a__law_rules ?l__law_rules ?c__law_rules ?k__law_rules ?a__law_shape ?l__law_shape ?c__law_shape ?k__law_shape ?a__law_way_made ?l__law_way_made ?c__law_way_made ?k__law_way_made ?a__law_policy ?l__law_policy ?c__law_policy ?k__law_policy ?a__law_cut ?l__law_cut ?c__law_cut ?k__law_cut ?a__law_loosened ?l__law_loosened ?c__law_loosened ?k__law_loosened ?a__law_tightened ?l__law_tightened ?c__law_tightened ?k__law_tightened ?a__law_changed ?l__law_changed ?c__law_changed ?k__law_changed ?a__law_both ?l__law_both ?c__law_both ?k__law_both ?a__law_table ?l__law_table ?c__law_table ?k__law_table ?a__law_table_good ?l__law_table_good ?c__law_table_good ?k__law_table_good ?a_law ?l_law ?c_law ?k_law ?z_any ?z_bool ?z_enumerate ?z_int ?z_isinstance ?z_iter ?z_len ?z_list ?z_max ?z_property ?z_range ?z_str ?z_tuple ?aq_UNLIMITED ?aq_LEVELS ?lq_LEVELS ?aq_LETTERS ?aq_MODES ?lq_MODES ?pg_Way ?hd_Way ?po_Way ?sa_Way ?kc_Way ?i_Way_init ?mk_Way ?i_Way_needs ?i_Way_permits ?i_Way_eq ?i_Way_le ?i_Way_and ?hca_Way ?hcn_Way ?hct_Way ?hcm_Way ?sf_Way ?no_Way_held ?no_Way_owned ?no_Way_seen ?no_Way_early ?pg_Policy ?hd_Policy ?po_Policy ?sa_Policy ?kc_Policy ?i_Policy_init ?mk_Policy ?fi_Policy_getitem ?i_Policy_getitem ?nq_Policy ?i_Policy_setitem ?i_Policy_starts_at ?i_Policy_ways_of ?i_Policy_and ?i_Policy_or ?hca_Policy ?hcn_Policy ?hct_Policy ?hcm_Policy ?sf_Policy ?or_Policy_and ?ola_Policy_and ?olr_Policy_and ?ols_Policy_and ?ota_Policy_and ?otr_Policy_and ?ots_Policy_and ?or_Policy_or ?ola_Policy_or ?olr_Policy_or ?ols_Policy_or ?ota_Policy_or ?otr_Policy_or ?ots_Policy_or ?no_Policy_shape ?no_Policy__marks ?no_Policy__starts ?no_Policy__ways ?pg_Shape ?hd_Shape ?po_Shape ?sa_Shape ?kc_Shape ?i_Shape_init ?mk_Shape ?fi_Shape_getitem ?i_Shape_getitem ?i_Shape_iter ?i_Shape_len ?i_Shape_eq ?i_Shape_modes_of ?hca_Shape ?hcn_Shape ?hct_Shape ?hcm_Shape ?rdc_Shape ?gac_Shape ?fcl_Shape_MARKS ?fcl_Shape_PARENTS ?no_Shape__listed ?no_Shape__marks ?gc_BadShape ?gc_UnknownMark ?gc_TooLarge ?gc_OtherShape ?xz_super ?x_opq ?x_hn ?x_ht ?xq_OtherShape ?xga_OtherShape ?xgg_OtherShape ?xk_OtherShape ?xb_OtherShape ?xt_OtherShape ?xd_OtherShape ?xha_OtherShape ?xhm_OtherShape ?xl_BadShape ?xsa_BadShape ?xga_BadShape ?xgg_BadShape ?xno_BadShape ?xk_BadShape ?xb_BadShape ?xt_BadShape ?xd_BadShape ?xi_BadShape ?xf_BadShape ?xfl_BadShape ?xci_BadShape ?xcc_BadShape ?xcd_BadShape ?xvs_BadShape ?xfi_BadShape ?xnx_BadShape ?xsl_BadShape ?xsu_BadShape ?xha_BadShape ?xhm_BadShape ?xl_UnknownMark ?xsa_UnknownMark ?xga_UnknownMark ?xgg_UnknownMark ?xno_UnknownMark ?xk_UnknownMark ?xb_UnknownMark ?xt_UnknownMark ?xd_UnknownMark ?xi_UnknownMark ?xf_UnknownMark ?xfl_UnknownMark ?xci_UnknownMark ?xcc_UnknownMark ?xcd_UnknownMark ?xvs_UnknownMark ?xfi_UnknownMark ?xnx_UnknownMark ?xsl_UnknownMark ?xsu_UnknownMark ?xha_UnknownMark ?xhm_UnknownMark ?xl_TooLarge ?xsa_TooLarge ?xga_TooLarge ?xgg_TooLarge ?xno_TooLarge ?xk_TooLarge ?xb_TooLarge ?xt_TooLarge ?xd_TooLarge ?xi_TooLarge ?xf_TooLarge ?xfl_TooLarge ?xci_TooLarge ?xcc_TooLarge ?xcd_TooLarge ?xvs_TooLarge ?xfi_TooLarge ?xnx_TooLarge ?xsl_TooLarge ?xsu_TooLarge ?xha_TooLarge ?xhm_TooLarge
    (case gc_Way => k_is)
    (case gc_Policy => k_is)
    (case gc_Shape => k_is)
    (case a_kinds => k_is)
    (case l_kinds => k_is)
    (case c_kinds => k_is)
    (case k_kinds => k_is)
    (case a_supply => k_is)
    (case l_supply => k_is)
    (case c_supply => k_is)
    (case k_supply => k_is)
    (case a_fits => k_is)
    (case l_fits => k_is)
    (case c_fits => k_is)
    (case k_fits => k_is)
    (case a_first_rung => k_is)
    (case l_first_rung => k_is)
    (case c_first_rung => k_is)
    (case k_first_rung => k_is)
    (case a_ladder => k_is)
    (case l_ladder => k_is)
    (case c_ladder => k_is)
    (case k_ladder => k_is)
    (case a_reached => k_is)
    (case l_reached => k_is)
    (case c_reached => k_is)
    (case k_reached => k_is)
    (case a_rank => k_is)
    (case l_rank => k_is)
    (case c_rank => k_is)
    (case k_rank => k_is)
    (case a_needed => k_is)
    (case l_needed => k_is)
    (case c_needed => k_is)
    (case k_needed => k_is)
    (case a_higher => k_is)
    (case l_higher => k_is)
    (case c_higher => k_is)
    (case k_higher => k_is)
    (case a_Way_init => k_is)
    (case l_Way_init => k_is)
    (case c_Way_init => k_is)
    (case k_Way_init => k_is)
    (case lt_Way_init => k_is)
    (case nk_Way_init_early => k_is)
    (case a_Way_needs => k_is)
    (case l_Way_needs => k_is)
    (case c_Way_needs => k_is)
    (case k_Way_needs => k_is)
    (case a_Way_permits => k_is)
    (case l_Way_permits => k_is)
    (case c_Way_permits => k_is)
    (case k_Way_permits => k_is)
    (case nk_Way_permits_loose => k_is)
    (case a_Way_eq => k_is)
    (case l_Way_eq => k_is)
    (case c_Way_eq => k_is)
    (case k_Way_eq => k_is)
    (case a_Way_le => k_is)
    (case l_Way_le => k_is)
    (case c_Way_le => k_is)
    (case k_Way_le => k_is)
    (case a_Way_and => k_is)
    (case l_Way_and => k_is)
    (case c_Way_and => k_is)
    (case k_Way_and => k_is)
    (case a_trimmed => k_is)
    (case l_trimmed => k_is)
    (case c_trimmed => k_is)
    (case k_trimmed => k_is)
    (case a_same_shape => k_is)
    (case l_same_shape => k_is)
    (case c_same_shape => k_is)
    (case k_same_shape => k_is)
    (case a_met => k_is)
    (case l_met => k_is)
    (case c_met => k_is)
    (case k_met => k_is)
    (case a_either => k_is)
    (case l_either => k_is)
    (case c_either => k_is)
    (case k_either => k_is)
    (case a_all_counts => k_is)
    (case l_all_counts => k_is)
    (case c_all_counts => k_is)
    (case k_all_counts => k_is)
    (case a_possible => k_is)
    (case l_possible => k_is)
    (case c_possible => k_is)
    (case k_possible => k_is)
    (case a_permitted => k_is)
    (case l_permitted => k_is)
    (case c_permitted => k_is)
    (case k_permitted => k_is)
    (case a_gap_at => k_is)
    (case l_gap_at => k_is)
    (case c_gap_at => k_is)
    (case k_gap_at => k_is)
    (case a_gap => k_is)
    (case l_gap => k_is)
    (case c_gap => k_is)
    (case k_gap => k_is)
    (case a_included => k_is)
    (case l_included => k_is)
    (case c_included => k_is)
    (case k_included => k_is)
    (case a_Policy_init => k_is)
    (case l_Policy_init => k_is)
    (case c_Policy_init => k_is)
    (case k_Policy_init => k_is)
    (case lt_Policy_init => k_is)
    (case le_Policy_init_0 => k_is)
    (case a_Policy_getitem => k_is)
    (case l_Policy_getitem => k_is)
    (case c_Policy_getitem => k_is)
    (case k_Policy_getitem => k_is)
    (case a_Policy_setitem => k_is)
    (case l_Policy_setitem => k_is)
    (case c_Policy_setitem => k_is)
    (case k_Policy_setitem => k_is)
    (case a_Policy_starts_at => k_is)
    (case l_Policy_starts_at => k_is)
    (case c_Policy_starts_at => k_is)
    (case k_Policy_starts_at => k_is)
    (case a_Policy_ways_of => k_is)
    (case l_Policy_ways_of => k_is)
    (case c_Policy_ways_of => k_is)
    (case k_Policy_ways_of => k_is)
    (case pa_Policy_starts => k_is)
    (case pr_Policy_starts => k_is)
    (case pg_Policy_starts => k_is)
    (case pt_Policy_starts => k_is)
    (case l_Policy_starts => k_is)
    (case c_Policy_starts => k_is)
    (case k_Policy_starts => k_is)
    (case a_Policy_and => k_is)
    (case l_Policy_and => k_is)
    (case c_Policy_and => k_is)
    (case k_Policy_and => k_is)
    (case a_Policy_or => k_is)
    (case l_Policy_or => k_is)
    (case c_Policy_or => k_is)
    (case k_Policy_or => k_is)
    (case a_is_mark => k_is)
    (case l_is_mark => k_is)
    (case c_is_mark => k_is)
    (case k_is_mark => k_is)
    (case a_sound_row => k_is)
    (case l_sound_row => k_is)
    (case c_sound_row => k_is)
    (case k_sound_row => k_is)
    (case a_barren => k_is)
    (case l_barren => k_is)
    (case c_barren => k_is)
    (case k_barren => k_is)
    (case a_Shape_init => k_is)
    (case l_Shape_init => k_is)
    (case c_Shape_init => k_is)
    (case k_Shape_init => k_is)
    (case a_Shape_getitem => k_is)
    (case l_Shape_getitem => k_is)
    (case c_Shape_getitem => k_is)
    (case k_Shape_getitem => k_is)
    (case a_Shape_iter => k_is)
    (case l_Shape_iter => k_is)
    (case c_Shape_iter => k_is)
    (case k_Shape_iter => k_is)
    (case a_Shape_len => k_is)
    (case l_Shape_len => k_is)
    (case c_Shape_len => k_is)
    (case k_Shape_len => k_is)
    (case a_Shape_eq => k_is)
    (case l_Shape_eq => k_is)
    (case c_Shape_eq => k_is)
    (case k_Shape_eq => k_is)
    (case a_Shape_modes_of => k_is)
    (case l_Shape_modes_of => k_is)
    (case c_Shape_modes_of => k_is)
    (case k_Shape_modes_of => k_is)
    (case a__law_draws => k_is)
    (case l__law_draws => k_is)
    (case c__law_draws => k_is)
    (case k__law_draws => k_is)
    (case a__law_take => k_is)
    (case l__law_take => k_is)
    (case c__law_take => k_is)
    (case k__law_take => k_is)
    (case a__law_same => k_is)
    (case l__law_same => k_is)
    (case c__law_same => k_is)
    (case k__law_same => k_is)
    (case a__law_marks => k_is)
    (case l__law_marks => k_is)
    (case c__law_marks => k_is)
    (case k__law_marks => k_is)
    (case a__law_rows => k_is)
    (case l__law_rows => k_is)
    (case c__law_rows => k_is)
    (case k__law_rows => k_is)
    (case a__law_way => k_is)
    (case l__law_way => k_is)
    (case c__law_way => k_is)
    (case k__law_way => k_is)
    (case a__law_rules => k_is)
    (case l__law_rules => k_is)
    (case c__law_rules => k_is)
    (case k__law_rules => k_is)
    (case a__law_shape => k_is)
    (case l__law_shape => k_is)
    (case c__law_shape => k_is)
    (case k__law_shape => k_is)
    (case a__law_way_made => k_is)
    (case l__law_way_made => k_is)
    (case c__law_way_made => k_is)
    (case k__law_way_made => k_is)
    (case a__law_policy => k_is)
    (case l__law_policy => k_is)
    (case c__law_policy => k_is)
    (case k__law_policy => k_is)
    (case a__law_cut => k_is)
    (case l__law_cut => k_is)
    (case c__law_cut => k_is)
    (case k__law_cut => k_is)
    (case a__law_loosened => k_is)
    (case l__law_loosened => k_is)
    (case c__law_loosened => k_is)
    (case k__law_loosened => k_is)
    (case a__law_tightened => k_is)
    (case l__law_tightened => k_is)
    (case c__law_tightened => k_is)
    (case k__law_tightened => k_is)
    (case a__law_changed => k_is)
    (case l__law_changed => k_is)
    (case c__law_changed => k_is)
    (case k__law_changed => k_is)
    (case a__law_both => k_is)
    (case l__law_both => k_is)
    (case c__law_both => k_is)
    (case k__law_both => k_is)
    (case a__law_table => k_is)
    (case l__law_table => k_is)
    (case c__law_table => k_is)
    (case k__law_table => k_is)
    (case a__law_table_good => k_is)
    (case l__law_table_good => k_is)
    (case c__law_table_good => k_is)
    (case k__law_table_good => k_is)
    (case a_law => k_is)
    (case l_law => k_is)
    (case c_law => k_is)
    (case k_law => k_is)
    (case z_any => k_is)
    (case z_bool => k_is)
    (case z_enumerate => k_is)
    (case z_int => k_is)
    (case z_isinstance => k_is)
    (case z_iter => k_is)
    (case z_len => k_is)
    (case z_list => k_is)
    (case z_max => k_is)
    (case z_property => k_is)
    (case z_range => k_is)
    (case z_str => k_is)
    (case z_tuple => k_is)
    (case aq_UNLIMITED => k_is)
    (case aq_LEVELS => k_is)
    (case lq_LEVELS => k_is)
    (case aq_LETTERS => k_is)
    (case aq_MODES => k_is)
    (case lq_MODES => k_is)
    (case pg_Way => k_is)
    (case hd_Way => k_is)
    (case po_Way => k_is)
    (case sa_Way => k_is)
    (case kc_Way => k_is)
    (case i_Way_init => k_is)
    (case mk_Way => k_is)
    (case i_Way_needs => k_is)
    (case i_Way_permits => k_is)
    (case i_Way_eq => k_is)
    (case i_Way_le => k_is)
    (case i_Way_and => k_is)
    (case hca_Way => k_is)
    (case hcn_Way => k_is)
    (case hct_Way => k_is)
    (case hcm_Way => k_is)
    (case sf_Way => k_is)
    (case no_Way_held => k_is)
    (case no_Way_owned => k_is)
    (case no_Way_seen => k_is)
    (case no_Way_early => k_is)
    (case pg_Policy => k_is)
    (case hd_Policy => k_is)
    (case po_Policy => k_is)
    (case sa_Policy => k_is)
    (case kc_Policy => k_is)
    (case i_Policy_init => k_is)
    (case mk_Policy => k_is)
    (case fi_Policy_getitem => k_is)
    (case i_Policy_getitem => k_is)
    (case nq_Policy => k_is)
    (case i_Policy_setitem => k_is)
    (case i_Policy_starts_at => k_is)
    (case i_Policy_ways_of => k_is)
    (case i_Policy_and => k_is)
    (case i_Policy_or => k_is)
    (case hca_Policy => k_is)
    (case hcn_Policy => k_is)
    (case hct_Policy => k_is)
    (case hcm_Policy => k_is)
    (case sf_Policy => k_is)
    (case or_Policy_and => k_is)
    (case ola_Policy_and => k_is)
    (case olr_Policy_and => k_is)
    (case ols_Policy_and => k_is)
    (case ota_Policy_and => k_is)
    (case otr_Policy_and => k_is)
    (case ots_Policy_and => k_is)
    (case or_Policy_or => k_is)
    (case ola_Policy_or => k_is)
    (case olr_Policy_or => k_is)
    (case ols_Policy_or => k_is)
    (case ota_Policy_or => k_is)
    (case otr_Policy_or => k_is)
    (case ots_Policy_or => k_is)
    (case no_Policy_shape => k_is)
    (case no_Policy__marks => k_is)
    (case no_Policy__starts => k_is)
    (case no_Policy__ways => k_is)
    (case pg_Shape => k_is)
    (case hd_Shape => k_is)
    (case po_Shape => k_is)
    (case sa_Shape => k_is)
    (case kc_Shape => k_is)
    (case i_Shape_init => k_is)
    (case mk_Shape => k_is)
    (case fi_Shape_getitem => k_is)
    (case i_Shape_getitem => k_is)
    (case i_Shape_iter => k_is)
    (case i_Shape_len => k_is)
    (case i_Shape_eq => k_is)
    (case i_Shape_modes_of => k_is)
    (case hca_Shape => k_is)
    (case hcn_Shape => k_is)
    (case hct_Shape => k_is)
    (case hcm_Shape => k_is)
    (case rdc_Shape => k_is)
    (case gac_Shape => k_is)
    (case fcl_Shape_MARKS => k_is)
    (case fcl_Shape_PARENTS => k_is)
    (case no_Shape__listed => k_is)
    (case no_Shape__marks => k_is)
    (case gc_BadShape => k_is)
    (case gc_UnknownMark => k_is)
    (case gc_TooLarge => k_is)
    (case gc_OtherShape => k_is)
    (case xz_super => k_is)
    (case x_opq => k_is)
    (case x_hn => k_is)
    (case x_ht => k_is)
    (case xq_OtherShape => k_exc)
    (case xga_OtherShape => k_is)
    (case xgg_OtherShape => k_is)
    (case xk_OtherShape => k_is)
    (case xb_OtherShape => k_is)
    (case xt_OtherShape => k_is)
    (case xd_OtherShape => k_is)
    (case xha_OtherShape => k_is)
    (case xhm_OtherShape => k_is)
    (case xl_BadShape => k_is)
    (case xsa_BadShape => k_is)
    (case xga_BadShape => k_is)
    (case xgg_BadShape => k_is)
    (case xno_BadShape => k_is)
    (case xk_BadShape => k_is)
    (case xb_BadShape => k_is)
    (case xt_BadShape => k_is)
    (case xd_BadShape => k_is)
    (case xi_BadShape => k_is)
    (case xf_BadShape => k_is)
    (case xfl_BadShape => k_is)
    (case xci_BadShape => k_is)
    (case xcc_BadShape => k_is)
    (case xcd_BadShape => k_is)
    (case xvs_BadShape => rfl)
    (case xfi_BadShape => first | rfl | decide +kernel)
    (case xnx_BadShape => ks_is)
    (case xsl_BadShape => k_is)
    (case xsu_BadShape => k_is)
    (case xha_BadShape => k_is)
    (case xhm_BadShape => k_is)
    (case xl_UnknownMark => k_is)
    (case xsa_UnknownMark => k_is)
    (case xga_UnknownMark => k_is)
    (case xgg_UnknownMark => k_is)
    (case xno_UnknownMark => k_is)
    (case xk_UnknownMark => k_is)
    (case xb_UnknownMark => k_is)
    (case xt_UnknownMark => k_is)
    (case xd_UnknownMark => k_is)
    (case xi_UnknownMark => k_is)
    (case xf_UnknownMark => k_is)
    (case xfl_UnknownMark => k_is)
    (case xci_UnknownMark => k_is)
    (case xcc_UnknownMark => k_is)
    (case xcd_UnknownMark => k_is)
    (case xvs_UnknownMark => rfl)
    (case xfi_UnknownMark => first | rfl | decide +kernel)
    (case xnx_UnknownMark => ks_is)
    (case xsl_UnknownMark => k_is)
    (case xsu_UnknownMark => k_is)
    (case xha_UnknownMark => k_is)
    (case xhm_UnknownMark => k_is)
    (case xl_TooLarge => k_is)
    (case xsa_TooLarge => k_is)
    (case xga_TooLarge => k_is)
    (case xgg_TooLarge => k_is)
    (case xno_TooLarge => k_is)
    (case xk_TooLarge => k_is)
    (case xb_TooLarge => k_is)
    (case xt_TooLarge => k_is)
    (case xd_TooLarge => k_is)
    (case xi_TooLarge => k_is)
    (case xf_TooLarge => k_is)
    (case xfl_TooLarge => k_is)
    (case xci_TooLarge => k_is)
    (case xcc_TooLarge => k_is)
    (case xcd_TooLarge => k_is)
    (case xvs_TooLarge => rfl)
    (case xfi_TooLarge => first | rfl | decide +kernel)
    (case xnx_TooLarge => ks_is)
    (case xsl_TooLarge => k_is)
    (case xsu_TooLarge => k_is)
    (case xha_TooLarge => k_is)
    (case xhm_TooLarge => k_is)
#print axioms PySem.Challenge.cw_weblocks_k54_whole_order_and_meets_holds
