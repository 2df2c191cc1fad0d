import PyProof.Rows.All
import Wide.All
import OpenK.AllK
import Wide.FinOn
import HandS.ForMost
import KE.GoesMore
import HandS.Codes
import HandS.IsInst
import HandS.Defaults
import HandS.MakeKw
import HandS.MakeKwOnly
import HandS.SlotsOwn
import HandS.ForExc
import HandS.ExcIs
import HandS.ExcField
import HandS.CallSlots
import KE.KExcIs
import KE.KExcSuper
import KE.KExcMake
import KE.RegKSuper
import HandS.ClsMeth
import KE.KCallOwn
import HandS.IterVal
import KE.KOwnIter
import HandS.Star
import KE.KOpsOwn
import HandS.Property
import KE.KStar
import HandS.Text
import HandS.StrMore
import HandS.Steps
import HandS.TryOnly
import HandS.Exc
import HandS.ExcOwn
import HandS.Comp
import HandS.OwnIter
import PyProof.StrLawsChain
import PyProof.Rows.StrItems
import HandS.Iter
import HandS.Text
import HandS.StrMore
import HandS.Steps
import HandS.TryOnly
import HandS.Exc
import HandS.ExcOwn
import HandS.Comp
import HandS.OwnIter
import HandS.HotCalls
import HandS.WordsDict
import HandS.Conv
import HandS.More
import KE.OsRunLaw
import HandS.Walk
import HandS.Style
import HandS.Head0
import HandS.Head1
import HandS.Head2
import HandS.TupAny
import HandS.GenList
import HandS.GenYield
import HandS.GenOver
import HandS.GenCall
import PySem.Challenge.RW_weblocks_k60_loosenings_in_order
set_option Elab.async false
set_option linter.all false
set_option maxRecDepth 100000
set_option maxHeartbeats 4000000
namespace My
open PySem PySem.W
theorem HM.key {A : World → OsState → Prop} {B C : Prop} (hA : (∀ w os, A w os) ∧ B) (main : C) : C := main
abbrev HM.K {α β δ : Type} {B C : Prop} {o : World → OsState → Option δ} {f1 : World → δ → α} {f2 : World → δ → β} {g : δ → Addr → Option Obj} {as : List Addr} {b1 : World → α} {b2 : World → β} {Kf : Params → Frag} (_ : (∀ w os, (o w os).map (fun s => (f1 w s, f2 w s, as.map (g s))) = some (b1 w, b2 w, (Kf w.params).map fun x => some x.2)) ∧ B → C) : Params → Frag := Kf
abbrev HM.as {α β δ : Type} {B C : Prop} {o : World → OsState → Option δ} {f1 : World → δ → α} {f2 : World → δ → β} {g : δ → Addr → Option Obj} {as : List Addr} {b1 : World → α} {b2 : World → β} {Kf : Params → Frag} (_ : (∀ w os, (o w os).map (fun s => (f1 w s, f2 w s, as.map (g s))) = some (b1 w, b2 w, (Kf w.params).map fun x => some x.2)) ∧ B → C) : List Addr := as
section
local macro_rules | `(tactic| k_head) => do
  let h := Lean.mkIdent `hA
  let m := Lean.mkIdent `main
  `(tactic| (rename_i said; revert said; apply HM.key; (case' $m:ident => (intro said; k_headL)); (case' hc => exact (?$h).2)))
local macro_rules | `(tactic| kernel_rfl%$tk) => do
  match tk.getHeadInfo with
  | .none => Lean.Macro.throwUnsupported
  | _ =>
    let k : Lean.TSyntax `tactic := ⟨Lean.Syntax.node .none `tacticKernel_rfl #[.atom .none "kernel_rfl"]⟩
    let h := Lean.mkIdent `hA
    `(tactic| first | (rename_i sd w os; have e := (?$h); exact And.left e w os) | $k:tactic)
set_option maxHeartbeats 0 in
open_top hd for PySem.Challenge.rw_weblocks_k60_loosenings_in_order
end
set_option maxHeartbeats 0
noncomputable section
abbrev kK : Params → Frag := HM.K My.hd
abbrev kAs : List Addr := HM.as My.hd
theorem kEq : ∀ P, kAs = (kK P).map (·.1) := fun _ => by kernel_rfl
abbrev hR : OpenRow := OpenLaw.row PySem.Challenge.rw_weblocks_k60_loosenings_in_order
abbrev hQ : Program := view hR.prog [67]
def hN0 : List PySem.Str := ["_wall", "WebError", "BadLevel", "BadShape", "UnknownMark", "OtherShape", "TooLarge", "BadText", "UNLIMITED", "kinds", "supply", "fits", "first_rung", "ladder", "reached", "LEVELS", "rank", "needed", "higher", "lesser", "Way", "way_of", "trimmed", "changed", "with_way", "loosenings", "same_shape", "met", "either", "all_counts"]
def hN1 : List PySem.Str := ["possible", "permitted", "gap_at", "gap", "included", "Policy", "LETTERS", "MODES", "is_mark", "sound_row", "barren", "Shape", "_law_draws", "_law_take", "_law_same", "_law_marks", "_law_rows", "_law_way", "_law_rules", "_law_shape", "_law_way_made", "_law_policy", "_law_reads", "_law_lowered", "_law_with", "_law_looser_rules", "_law_set", "_law_good"]
def hN : List PySem.Str := hN0 ++ hN1
abbrev hH : Hook := kHook kK kAs kEq
abbrev hOb (s : SharedT) : List (Option Obj) := kAs.map (HandSHeadRun.getT s)
theorem hObE (s : SharedT) : hOb s = hH.obs s.abs := List.map_congr_left fun a _ => HandSHeadRun.getT_eq s a
theorem hRun (w : World) : HandSHeadRun.RunEq hR hQ hH hOb 40000 hN w := by
  intro os
  kernel_rfl
abbrev hD : DefRec := HandSHeadRun.topDef hR.prog 67
theorem hSmall (call : WalkO hQ hN (XL hQ []) hH.says hR.toRowW hD [] fun f vs => PySem.call f vs) : (PySem.Challenge.rw_weblocks_k60_loosenings_in_order).Holds := by
  w_on; o_law
  refine HandSHeadRun.head_any (r := hR) (q := hQ) (H := hH) (ob := hOb) (M := 40000) (loose := hN) (d := hD) (kwd := []) hObE
    (by kernel_rfl) (fun s => by kernel_rfl) hRun (by kernel_rfl) (by kernel_rfl) (by kernel_rfl) (by rfl)
    (by first | assumption | decide +kernel) (by decide +kernel) ⟨rfl, rfl, rfl, rfl, rfl, by decide +kernel⟩ ?hw ?hc
  case hw => w_witness2
  case hc => exact call
end
end My
local macro_rules | `(tactic| walk_at "sd") => `(tactic| first | assumption | omega | decide | rfl | (refine And.intro ?_ ?_ <;> walk_at "sd") | (show _ < PySem.sizeLine; exact Nat.lt_of_le_of_lt (by omega : _ ≤ 100000) (by decide)) | (show _ ≤ PySem.sizeLine; exact Nat.le_trans (by omega : _ ≤ 100000) (by decide)))
local macro_rules | `(tactic| walk_at "hl") => `(tactic| first | assumption | exact L2.upd_same | (refine (L2.upd_ne ?_).trans ?_; (walk_at "ne"); (walk_at "hl")))
local macro_rules | `(tactic| walk_at "ne") => `(tactic| first | assumption | (apply Ne.symm; assumption) | (refine L2.ne_of_none ?_ (by assumption); walk_at "hl") | (apply Ne.symm; refine L2.ne_of_none ?_ (by assumption); walk_at "hl") | (refine L2.ne_of (o := L2.HO.lst _) (u := L2.HO.tup _) ?_ ?_ (by intro z; cases z) <;> walk_at "hl"))
local macro_rules | `(tactic| walk_at "sq") => `(tactic| first | assumption | exact .inl (.inl (by walk_at "hl")) | exact .inl (.inl (.inl (by walk_at "hl"))) | exact .inr (.inl (.inl (by walk_at "hl"))) | exact .inl (by assumption) | exact .inr (by assumption))
local macro_rules | `(tactic| walk_at "at") => `(tactic| first | assumption | exact rfl | exact L2.atI_nat (j := 0) rfl | exact L2.atI_nat (j := 1) rfl | exact L2.atI_nat (j := 2) rfl | exact L2.atI_nat (j := 3) rfl | exact L2.atI_nat rfl | exact L2.atI_nat (by assumption))
local macro_rules | `(tactic| walk_at "r1") => `(tactic| first
  | (refine ⟨_, rfl, ?_⟩)
  | (refine ⟨_, _, rfl, rfl, ?_⟩)
  | (refine ⟨_, _, _, _, rfl, rfl, (by walk_at "sq"), (by walk_at "at"), ?_⟩)
  | (refine ⟨_, _, rfl, (by walk_at "sq"), ?_⟩)
  | (refine ⟨.inl ⟨rfl, _, L2.SqL.of (by walk_at "hl")⟩, ?_⟩)
  | (refine ⟨_, _, _, rfl, rfl, (by walk_at "hl"), (by walk_at "sd"), ?_⟩)
  | (refine ⟨_, _, _, _, rfl, rfl, (by walk_at "hl"), rfl, ?_⟩)
  | (refine And.intro (by walk_at "sd") ?_)
  | (refine .inl ⟨_, rfl, ?_⟩))
local macro_rules | `(tactic| walk_at "rd") => `(tactic| repeat walk_at "r1")
/-! ### enumerate over a tuple -/
namespace PySem
open AutoSeq1 (wpAny_loadPart')
set_option maxHeartbeats 1000000 in
theorem meets_enumerate_newT (l : Addr) (items : Array Value) :
    Meets (Builtin.«enumerate.__new__» ⟨[.type "enumerate", .ref l], []⟩) (fun _ R s => s.heap.IsTuple l items ∧
      R (.ok (.ret (.ref (s.heap.push { cls := .type "tuple_iterator", data := .fields #[.ref l, .int 0 0] }).objs.size)))
        { s with heap := (s.heap.push { cls := .type "tuple_iterator", data := .fields #[.ref l, .int 0 0] }).push { cls := .type "enumerate", data := .fields #[.none, .bool false, .ref s.heap.objs.size, rawInt 0, .none, .none] } }) :=
  .of_wp fun prog w A R s h => by
    obtain ⟨hp, g, d, tk, os⟩ := s; obtain ⟨hL, h⟩ := h
    have hsub := sub_enumerate
    wp_walk using wpAny_pyIter_tuple hL
    refine wpAny_stack_any fun st => wpAny_pure ?_
    split
    · rename_i c _ _ _ _ _
      cases (c == Value.type "enumerate")
      · wp_walk using wpAny_pyIter_tuple hL
        exact ⟨_, rfl, h⟩
      · wp_walk using wpAny_pyIter_tuple hL
        exact ⟨_, rfl, h⟩
    · wp_walk using wpAny_pyIter_tuple hL
      exact ⟨_, rfl, h⟩
section
variable {prog : Program} {w : World} {A : Around} {E : Value → Shared → Prop} {s : Shared}
theorem call_enumerate_tup {l : Addr} {items : Array Value} {Q : Value → Shared → Prop} (hL : s.heap.IsTuple l items)
    (h : ∀ h', IsEnum h' (s.heap.objs.size + 1) s.heap.objs.size 0 .none → h'.IsTupleIter s.heap.objs.size l 0 → h'.objs.size = s.heap.objs.size + 2 →
      (∀ b o, s.heap.get? b = some o → h'.get? b = some o) → Q (.ref (s.heap.objs.size + 1)) { s with heap := h' }) :
    wpAny (model prog w) A (call (.type "enumerate") [.ref l]) Q E s := by
  refine callType_new F.called_enumerate (by decide) (F.typeCall_enumerate_1 _) (F.newCall_enumerate_1 _) (fun obj => F.args_object_init_2 obj _) F.entry_enumerate_new
    (meets_enumerate_newT l items) ⟨hL, ?_⟩
  have hz : (s.heap.push { cls := .type "tuple_iterator", data := .fields #[.ref l, .int 0 0] }).objs.size = s.heap.objs.size + 1 := Heap.size_push ..
  show _ ∧ _
  rw [hz]
  have he : IsEnum ((s.heap.push { cls := .type "tuple_iterator", data := .fields #[.ref l, .int 0 0] }).push
      { cls := .type "enumerate", data := .fields #[.none, .bool false, .ref s.heap.objs.size, rawInt 0, .none, .none] }) (s.heap.objs.size + 1) s.heap.objs.size 0 .none := by
    have := Heap.get?_push_size (s.heap.push { cls := .type "tuple_iterator", data := .fields #[.ref l, .int 0 0] })
      (o := { cls := .type "enumerate", data := .fields #[.none, .bool false, .ref s.heap.objs.size, rawInt 0, .none, .none] }) rfl
    rw [hz] at this; exact this
  refine ⟨⟨_, he, rfl⟩, h _ he ⟨_, Heap.get?_push_of_some _ (Heap.get?_push_size _ rfl), rfl, rfl⟩ (by rw [Heap.size_push, hz]) fun b o x => Heap.get?_push_of_some _ (Heap.get?_push_of_some _ x)⟩
/-- next of an enumerate whose tuple is at its end -/
theorem wpAny_pyNext_enum_endU {e it l : Addr} {i : Nat} {items : Array Value} {old : Value} {Q : Option Value → Shared → Prop} (hh : A.handled = none) (he : IsEnum s.heap e it i old)
    (hit : s.heap.IsTupleIter it l i) (hl : s.heap.IsTuple l items) (hx : items[i]? = none) (hQ : ∀ h', Heap.ExtBut it s.heap h' → Q none { s with heap := h' }) : wpAny (model prog w) A (pyNext (.ref e)) Q E s := by
  have hT : s.TypeIs (.ref e) "enumerate" := ⟨_, he, rfl⟩
  unfold pyNext
  refine wpAny_bind (wpAny_attempt (wpAny_callSpecial?_slot (name := Str.ofString "__next__") hT F.slot_enumerate_next (wpAny_call_entry F.slot_enumerate_next hT F.entry_enumerate_next ?_ (F.args_enumerate_next_1 _))))
  show wpAny _ _ (field (.ref e) 2 >>= _) _ _ _
  refine wpAny_bind (wpAny_field he rfl (x := .ref it) rfl (wpAny_bind (wpAny_nextOf_tuple_end hh hit hl hx fun h' x he' ⟨o, ho, hc⟩ => ?_)))
  exact wpAny_bind (wpAny_isInstance (T := "StopIteration") (b := true) ⟨o, ho, hc⟩ isSubtype_stop (wpAny_pure (hQ _ he')))
end
end PySem
namespace L2
open PySem PySem.Spec PyProof.Rows
/-- the tuple at a, each item in a new pair -/
def ItuE (K : PySem.W.Frag) (a : Addr) : It :=
  ⟨fun i H => ∃ (xs : List V) (x : V), SqT K H a xs ∧ xs[i]? = some x, fun i H v H' => ∃ T x, v = .ref T ∧ H T = none ∧ H' = upd H T (.tup [.int (i : Nat), x]) ∧ ∀ xs, SqT K H a xs → xs[i]? = some x, fun i H => ∃ xs : List V, SqT K H a xs ∧ xs.length ≤ i⟩
theorem turn_enumT {P : Program} {w : World} {K : PySem.W.Frag} {elts : List Expr} {kk : Nat} {tpos : Pos} (a e it : Addr) :
    Turn P w K (.Tuple elts kk tpos) (ItuE K a) [e, it] e (fun i h => (∃ old, IsEnum h e it ((i : Nat) : Int) old) ∧ h.IsTupleIter it a i ∧ e ≠ it ∧ a ≠ it ∧ a ≠ e) where
  mem := by simp
  obj := fun i h st b hb => by
    obtain ⟨⟨old, he⟩, ⟨o, ho, hc, hd⟩, _⟩ := st
    have e' : b = e ∨ b = it := by simpa using hb
    rcases e' with z | z
    · rw [z]; exact ⟨_, he, fun v q => nomatch q⟩
    · rw [z]; exact ⟨o, ho, fun v q => by rw [hd] at q; cases q⟩
  keep := fun i h h' st k => let ⟨⟨old, he⟩, hi, hne⟩ := st; ⟨⟨old, k e (by simp) _ he⟩, hi.at fun o q => k it (by simp) o q, hne⟩
  item := by
    intro X hP hw hK hc i pins s σ H E I hf st hg
    subst hP hw hK
    obtain ⟨⟨old, he⟩, hit, hne, hai, hae⟩ := st
    obtain ⟨xs, x, hq, hx⟩ := hg
    obtain ⟨its, rv, p, hz⟩ := I.tuple hq
    obtain ⟨u, hu, ru⟩ := rv.get hx
    have hel : e < s.heap.objs.size := Heap.lt_size he
    have hil : it < s.heap.objs.size := by obtain ⟨_, q, _⟩ := hit; exact Heap.lt_size q
    have hlen : i < its.toArray.size := by
      have := (List.getElem?_eq_some_iff.mp hu).1
      simpa using this
    have hT0 : s.heap.IsTuple a its.toArray := p
    refine wpAny_pyNext_enum_itemD (Draws.tuple (prog := X.prog) (w := X.w) (A := X.A.in1) (show X.A.in1.handled = none from I.ok.hd hc) it a hai its.toArray) he ⟨hit, hT0⟩ hlen hne (by simp [hne, Ne.symm hae]) fun y h' tk hy ho hst' hT hsz hk => ?_
    have ey : y = u := by
      have q : its[i]? = some y := by simpa using hy
      exact Option.some.inj (q.symm.trans hu)
    subst ey
    obtain ⟨hit', _⟩ := hst'
    refine ⟨_, rfl, wpAny_letOwnedTupleGo_enum (s := { s with heap := h', toks := tk + 1 }) ho fun h'' he' sb => ?_⟩
    have hT2 : h''.get? s.heap.objs.size = some { cls := .type "tuple", data := .seq #[.int i tk, y] } := (sb.2 _ (Nat.ne_of_gt hel)).trans hT
    have new : ObjOk X.prog X.w (upd H s.heap.objs.size (.tup [.int (i : Nat), x])) h'' s.heap.objs.size (.tup [.int (i : Nat), x]) :=
      ⟨by show 2 ≤ sizeLine; decide, [.int i tk, y], .cons ⟨_, rfl⟩ (.cons ru .nil), ⟨_, hT2, rfl, _, rfl⟩⟩
    have I1 : Inv X pins σ (upd H s.heap.objs.size (.tup [.int (i : Nat), x])) { s with heap := h'', toks := tk + 1 } :=
      I.turnedNew (ch := [e, it]) (fun b ob hb q => (sb.2 b (fun z => hb (by simp [z]))).trans (hk b ob (fun z => hb (by simp [z])) (fun z => hb (by simp [z])) q)) hf (Nat.le_refl _) new
    refine ⟨.ref s.heap.objs.size, _, I1, rfl, ⟨_, x, rfl, I.hok.fresh (Nat.le_refl _), rfl, fun ys hy => by rw [I.tuple_inj hy hq]; exact hx⟩, ⟨⟨y, ?_⟩, hit'.at fun o q => (sb.2 it (Ne.symm hne)).trans q, hne, hai, hae⟩, fun b hb => ?_⟩
    · have e1 : ((i + 1 : Nat) : Int) = (i : Int) + 1 := by omega
      rw [e1]; exact he'
    · have hb' : b < s.heap.objs.size := by
        have e' : b = e ∨ b = it := by simpa using hb
        rcases e' with z | z
        · rw [z]; exact hel
        · rw [z]; exact hil
      rw [upd_ne (Nat.ne_of_lt hb')]
      exact (hf b hb).1
  done := by
    intro X hP hw hK hc i pins s σ H E I hf st hg
    subst hP hw hK
    obtain ⟨⟨old, he⟩, hit, hne, hai, hae⟩ := st
    obtain ⟨xs, hq, hx⟩ := hg
    obtain ⟨its, rv, p, hz⟩ := I.tuple hq
    obtain ⟨f0, f1, f2, f3, f4, f5⟩ := hf it (by simp)
    have hl := rv.length
    have hT0 : s.heap.IsTuple a its.toArray := p
    exact wpAny_pyNext_enum_endU (I.ok.hd hc) he hit hT0 (by simp; omega) fun h' eb => ⟨rfl, I.turned (t' := s.toks) (fun b o hb q => eb b o hb q) f0 f1 f3 f4 f5⟩
  self := fun A i s Q E st h => let ⟨⟨_, he⟩, _⟩ := st; wpAny_pyIter_enum he h
def iEnumT (K : PySem.W.Frag) (ta : TA) : TI := fun σ H R => ta σ H fun vs H1 => ∃ a xs, vs = [.ref a] ∧ SqT K H1 a xs ∧ R (ItuE K a) H1
theorem pi_enumT {X : Cx} {e : Expr} {ta : TA} {p pos tpos : Pos} {elts : List Expr} {kk : Nat} (hg : Gl X "enumerate") (hm : X.mg "enumerate" = none) (ha : PA X [e] ta) (hs : starEach [e] X.env = [(false, eval e X.env)] := by rfl) :
    PI X (.Tuple elts kk tpos) (.Call (.Name "enumerate" p) [e] [] pos) (iEnumT X.K ta) := by
  refine ⟨fun pins s σ H R I h => ?_⟩
  refine Call_ (ld_blt I hg hm boot_enumerate (PyProof.Rows.callWith_type1 (thn (ha.run pos pins s σ H _ I h) fun us s1 ⟨vs, H1, I1, r1, q1⟩ => ?_) hs rfl))
  obtain ⟨a, xs, ex, hq, q⟩ := q1
  subst ex
  cases r1 with
  | cons r rr =>
    cases rr
    cases r
    obtain ⟨its, rv, p', hz⟩ := I1.tuple hq
    have hT0 : s1.heap.IsTuple a its.toArray := p'
    have hal : a < s1.heap.objs.size := by obtain ⟨_, q, _⟩ := hT0; exact Heap.lt_size q
    refine call_enumerate_tup hT0 fun h' he hit hsz hk => wpAny_pyIter_enum he ?_
    have I2 : Inv X pins σ H1 { s1 with heap := h' } := I1.kept (t' := s1.toks) hk
    refine ⟨s1.heap.objs.size + 1, [s1.heap.objs.size + 1, s1.heap.objs.size], _, _, H1, rfl, I2, turn_enumT a (s1.heap.objs.size + 1) s1.heap.objs.size, ⟨⟨.none, he⟩, hit, Nat.succ_ne_self _, Nat.ne_of_lt hal, Nat.ne_of_lt (Nat.lt_succ_of_lt hal)⟩, fun b hb => ?_, q⟩
    have e' : b = s1.heap.objs.size + 1 ∨ b = s1.heap.objs.size := by simpa using hb
    have hle : s1.heap.objs.size ≤ b := by
      rcases e' with z | z
      · rw [z]; exact Nat.le_add_right _ _
      · rw [z]; exact Nat.le_refl _
    exact I1.fpOk hle (I1.hok.fresh hle)
end L2
namespace L2
open PySem PySem.Spec PyProof.Rows
theorem for_enumT {K : PySem.W.Frag} {a : Addr} {xs : List V} {g : TG} {tb : TS} {D : Ends} {σ : St} {H : Hp} (Pv : Nat → St → Hp → Prop) (h0 : Pv 0 σ H) (hl : ∀ i σ H, i ≤ xs.length → Pv i σ H → SqT K H a xs)
    (hs : ∀ i x σ H T, xs[i]? = some x → Pv i σ H → H T = none → g (.ref T) σ (upd H T (.tup [.int (i : Nat), x])) fun σ2 H2 => tb { D with nx := Pv (i + 1), ct := Pv (i + 1), bk := D.nx } σ2 H2)
    (hd : ∀ σ H, Pv xs.length σ H → D.nx σ H) :
    ∃ W : Nat → Nat → St → Hp → Prop, (∃ m, W 0 m σ H) ∧ ∀ i m σ H, W i m σ H →
      ((ItuE K a).stop i H ∧ D.nx σ H) ∨ ((ItuE K a).go i H ∧ ∃ N : St → Hp → Prop, (∀ σ' H', N σ' H' → ∃ m', m' < m ∧ W (i + 1) m' σ' H') ∧ ∀ x H', (ItuE K a).yld i H x H' → g x σ H' fun σ2 H2 => tb { D with nx := N, ct := N, bk := D.nx } σ2 H2) := by
  refine ⟨fun i m σ H => m = xs.length - i ∧ i ≤ xs.length ∧ Pv i σ H, ⟨xs.length, by simp, Nat.zero_le _, h0⟩, fun i m σ H hW => ?_⟩
  obtain ⟨em, hi, p⟩ := hW
  have q := hl i σ H hi p
  by_cases hlt : i < xs.length
  · refine .inr ⟨⟨xs, xs[i], q, List.getElem?_eq_getElem hlt⟩, Pv (i + 1), fun σ' H' p' => ⟨xs.length - (i + 1), by omega, rfl, hlt, p'⟩, fun x H' y => ?_⟩
    obtain ⟨T, x', ev, nT, eH, hx⟩ := y
    subst ev eH
    exact hs i x' σ H T (hx xs q) p nT
  · have ei : i = xs.length := by omega
    subst ei
    exact .inl ⟨⟨xs, q, Nat.le_refl _⟩, hd σ H p⟩
end L2

namespace L2
open PySem PySem.Spec PyProof.Rows
/-! ### o.m(e, .., k = v, ..) -/
def tMethN (C : Addr) (m : Str) (n j : Nat) (sp : Sp) (gV : List V → List V → List V) (E : XK) (ta : TE) (t tk : TA) : TE := fun σ H Q => ta σ H fun x H1 => ∃ a dx fs, x = .ref a ∧ H1 a = some (.ins C dx fs) ∧ fs.lookup m = none ∧
  t σ H1 fun vs H2 => tk σ H2 fun zs H3 => vs.length + 1 = n ∧ zs.length = j ∧ sp (gV (x :: vs) zs) H3 Q E
section
variable {X : Cx} {CX : CXT} {k n : Nat} {f C : Addr} {fd : FuncData} {ps ks : List Str} {sp : Sp} {E : XK} {m : Str} {pos apos : Pos} {e o : Expr} {es : List Expr} {kws : List Keyword} {ta : TE} {t tk : TA} {g : List Value → List Value → List Value} {gV : List V → List V → List V}
theorem pe_methN {pl : Sem Bool} (he : PE X o ta) (c : Cls X.K C) (hm : Meth X.K C m f) (F : FnOk X.prog X.w X.K X.mg X.base CX k f fd ps sp) (hr : Room k X.A) (hb : KBn X.K fd ps n ks g gV) (hx : Passes CX X E) (ha : PA X (e :: es) t) (hkw : PK X kws tk)
    (hall : (backToKw pos (keywordEach kws X.env)).all (·.1.isSome) = true := by rfl) (hks : (backToKw pos (keywordEach kws X.env)).filterMap (·.1) = ks := by rfl)
    (hst : starEach (e :: es) X.env = (false, eval e X.env) :: starEach es X.env := by rfl)
    (hpl : ((backTo pos (starEach (e :: es) X.env)).any (·.1) || (backToKw pos (keywordEach kws X.env)).any (·.1.isNone)) = false := by rfl)
    (ht : eval (.Call (.Attribute o m apos) (e :: es) kws pos) X.env = (do
      let ov ← eval o X.env
      standAt apos.atName
      let (f, first) ← holding [ov] (getMethod ov m pl)
      callWith pos f first (backTo pos (starEach (e :: es) X.env)) (backToKw pos (keywordEach kws X.env))) := by rfl) :
    PE X (.Call (.Attribute o m apos) (e :: es) kws pos) (tMethN C m n ks.length sp gV E ta t tk) := by
  refine ⟨fun pins s σ H Q I h => PySem.W.methodCall_KW (pl := pl) (thn (he.run pins s σ H _ I h) fun u s1 ⟨x, H1, I1, rx, a, dx, fs, ex, ea, l, q⟩ => ?_) ht⟩
  subst ex
  obtain rfl : u = Value.ref a := rx
  refine getmeth_ok I1 ea c hm l ?_
  refine PySem.W.callWith_KW (first := [.ref a]) (h₀ := X.base) I.ok.mod.kin hm.kp hall (thn (ha.run pos pins s1 σ H1 _ I1 q) fun us s2 ⟨vs, H2, I2, r, q2⟩ => ?_) hpl hst
  refine thn (hkw.run pos pins s2 σ H2 _ I2 q2) fun ws s3 ⟨zs, H3, I3, rz, l1, l2, q3⟩ => ⟨I3.kIn, ?_⟩
  rw [hks]
  exact run_fnN (us := .ref a :: us) (vs := .ref a :: vs) F hr hb hx I3 (.cons rfl r) rz l1 l2 q3
end
section
variable {P : Program} {w : World} {K : PySem.W.Frag} {mg : Str → Option Value} {base : Heap} {x qual : Str} {params : Arguments} {body : List Stmt} {scope : Scope} {dvs : List V} {kws : List (Str × V)} {f : Addr} {fd : FuncData}
/-- a def with defaults that lets nothing out -/
theorem FunD.ok0 {N ps : List Str} {k : Nat} {sp : Sp} (F : FunD K x qual params body scope dvs kws f fd) (S : FnScope N ps scope) (len : ∀ vs H Q E, sp vs H Q E → vs.length = ps.length)
    (hb : ∀ (cdv : Value) (A : Around) (outer : List Env) (s : Shared) (H : Hp) (vs : List V) (Q : VK) (E : XK), Room k (A.deeper (envOfC qual scope s.heap.objs.size f cdv)) → sp vs H Q E →
      ∃ t, PSs (cxOf CX0 P w K mg base N qual scope f cdv A outer s H E).nox body t ∧ t { nx := fun _ H' => Q .non H', rt := Q } (start N vs) H) : FnOk P w K mg base CX0 (k + 1) f fd ps sp :=
  F.ok S len fun cdv A outer s H vs Q E hr h => (hb cdv A outer s H vs Q E hr h).elim fun t ⟨h1, h2⟩ => ⟨t, h1.nox, h2⟩
end
end L2

namespace L2
open PySem PySem.Spec PyProof.Rows
/-! ### x op y by an own def of the class of both -/
def rOwnI (C : Addr) (sp : Sp) (E : XK) : R2 := fun x y H Q => ∃ a dx fs b dy gs, x = .ref a ∧ y = .ref b ∧ H a = some (.ins C dx fs) ∧ H b = some (.ins C dy gs) ∧ sp [x, y] H Q E
section
variable {X : Cx} {CX : CXT} {n : Nat} {C g : Addr} {fd : FuncData} {ps : List Str} {sp : Sp} {E : XK}
theorem op_cmpI {op : CmpOp} (hop : ∀ a b, compareOp op a b = richCompare op a b) (hs : PySem.W.findIn X.K (.ref C) (cmpInfo op).2.1 = some (some (.ref g))) (hf : PySem.W.isFn X.K (.ref g) = true)
    (F : FnOk X.prog X.w X.K X.mg X.base CX n g fd ps sp) (hr : Room n X.A) (hb : Binds X.K fd ps []) (hx : Passes CX X E) : OpR X (compareOp op) (rOwnI C sp E) := by
  intro pins s σ H x y v u Q I rx ry h
  obtain ⟨a, dx, fs, b, dy, gs, rfl, rfl, ha, hb', q⟩ := h
  cases rx
  cases ry
  obtain ⟨mA, J, _⟩ := ins_get I.hok ha
  obtain ⟨mB, J', _⟩ := ins_get I.hok hb'
  obtain ⟨od, J, _⟩ := J.look
  obtain ⟨od', J', _⟩ := J'.look
  obtain ⟨m, hF⟩ := I.fr
  rw [hop]
  refine PySem.W.cmp_K (op := op) (tb := .ref C) hr.units0 hF I.ok.mod.kin J J'.type (by simp [PySem.W.notFirst]) hs hf ?_
  refine wpAny_mono (run_fn (us := [.ref a, .ref b]) (vs := [.ref a, .ref b]) (dvs := []) F hr hb .nil hx I (.cons rfl (.cons rfl .nil)) q) (fun w s' z => ?_) fun _ _ x => x
  obtain ⟨z', H', I', rz, qz⟩ := z
  exact SlX.cmpback rz ⟨z', H', I', rz, qz⟩
theorem op_binI {op : Operator} (hc : PySem.W.selfFirst X.K C = true) (hs : PySem.W.findIn X.K (.ref C) (PySem.dunder op.info.2) = some (some (.ref g))) (hf : PySem.W.isFn X.K (.ref g) = true)
    (F : FnOk X.prog X.w X.K X.mg X.base CX n g fd ps sp) (hr : Room n X.A) (hb : Binds X.K fd ps []) (hx : Passes CX X E) : OpR X (binaryOp op) (rOwnI C sp E) := by
  intro pins s σ H x y v u Q I rx ry h
  obtain ⟨a, dx, fs, b, dy, gs, rfl, rfl, ha, hb', q⟩ := h
  cases rx
  cases ry
  obtain ⟨mA, J, _⟩ := ins_get I.hok ha
  obtain ⟨mB, J', _⟩ := ins_get I.hok hb'
  obtain ⟨od, J, _⟩ := J.look
  obtain ⟨od', J', _⟩ := J'.look
  obtain ⟨m, hF⟩ := I.fr
  refine PySem.W.binop_K (op := op) hF I.ok.mod.kin J J'.type hc hs hf ?_
  refine wpAny_mono (run_fn (us := [.ref a, .ref b]) (vs := [.ref a, .ref b]) (dvs := []) F hr hb .nil hx I (.cons rfl (.cons rfl .nil)) q) (fun w s' z => ?_) fun _ _ x => x
  obtain ⟨z', H', I', rz, qz⟩ := z
  exact SlX.cmpback rz ⟨z', H', I', rz, qz⟩
end
end L2

/-! ### errors whose __init__ says super().__init__(text) and stores one field -/
namespace PySem
namespace WX
open PySem.W PySem.Calls PyProof.Rows PySem.HandSPX
def iB (fl tx : Str) (q1 q2 q3 q4 q5 q6 q7 q8 q9 q10 : Pos) (j : Nat) : List Stmt :=
  [.Expr (.Call (.Attribute (.Call (.Name "super" q1) [] [] q2) "__init__" q3) [.Constant (.str tx) j q4] [] q5) q6, .Assign [.Attribute (.Name "self" q7) fl q8] (.Name fl q9) q10]
/-- what the top has written of the class cn, at C, and of its __init__, at fI -/
structure ExcTxt (P : Program) (K : Frag) (mg : Str → Option Value) (cn fl : Str) (C : Addr) where
  gC : mg cn = some (.ref C)
  cls : ∃ nm q N bs bm sn sub ab col dd k0 k1 k2 k3 k5, K.lookup C = some (excClassObj nm q C N bs bm true sn sub ab col dd k0 k1 k2 k3 k5 "ValueError.__new__") ∧ refsVE bm = true
  sa : findIn K (.ref C) "__setattr__" = some (some (.builtin "object.__setattr__"))
  ga : findIn K (.ref C) "__getattribute__" = some (some (.builtin "BaseException.__getattribute__"))
  gg : findIn K (.ref C) "__getattr__" = some none
  noN : findIn K (.ref C) fl = some none
  kC : keepIn K (.ref C) = true
  exC : subIn K (.ref C) (.type "BaseException") = some true
  tyC : typeIn K (.ref C) = some (.type "type")
  hdC : hasDictIn K C = true
  D : Addr
  clsD : ∃ oD cdD, K.lookup D = some oD ∧ oD.data = .cls cdD
  fI : Addr
  qual : Str
  tx : Str
  S : Stmt
  oc : Value
  od : Option Addr
  kV : Value
  doc : Value
  pm : Value
  an : Option Addr
  cda : Addr
  ct : Value
  osl : Array (Option Value)
  cc : Addr
  cl : Value
  cld : Option Addr
  csl : Array (Option Value)
  ccl : Value
  cdd : Option Addr
  vs : Array Value
  ccs : Array (Option Value)
  file : Str
  tf : Tok
  q1 : Pos
  q2 : Pos
  q3 : Pos
  q4 : Pos
  q5 : Pos
  q6 : Pos
  q7 : Pos
  q8 : Pos
  q9 : Pos
  q10 : Pos
  j : Nat
  pl : Sem Bool
  iC : findIn K (.ref C) "__init__" = some (some (.ref fI))
  tI : typeIn K (.ref fI) = some (.type "function")
  lI : K.lookup fI = some ⟨oc, od, .func (ksFn "__init__" qual (L2.defArgs S) (L2.defBody S) (L2.defScope S) .none kV doc pm an (.ref cda) ct cc), osl⟩
  cI : codeIn K (.ref cda) qual = true
  lcc : K.lookup cc = some ⟨cl, cld, .cell (some (.ref D)), csl⟩
  lcd : K.lookup cda = some ⟨ccl, cdd, .fields vs, ccs⟩
  hvs : vs[2]? = some (.str file tf)
  hfile : ((P.main.file : Str) == file) = true
  hpar : ∃ ar : Arg, ((L2.defArgs S).posonlyargs ++ (L2.defArgs S).args).head? = some ar ∧ ar.arg = "self"
  hbody : L2.defBody S = iB fl tx q1 q2 q3 q4 q5 q6 q7 q8 q9 q10 j
  hbind : ∀ x v : Value, bindArgs (ksFn "__init__" qual (L2.defArgs S) (L2.defBody S) (L2.defScope S) .none kV doc pm an (.ref cda) ct cc) ⟨[x, v], []⟩ = pure [(("self" : Str), x), (fl, v)]
  hev : ∀ L f : Addr, eval (.Call (.Attribute (.Call (.Name "super" q1) [] [] q2) "__init__" q3) [.Constant (.str tx) j q4] [] q5) (ksEnv qual (L2.defScope S) L f (.ref cda) cc) = (do
      let ov ← attributeBase (.Call (.Name "super" q1) [] [] q2) "__init__" (ksEnv qual (L2.defScope S) L f (.ref cda) cc) (eval (.Call (.Name "super" q1) [] [] q2) (ksEnv qual (L2.defScope S) L f (.ref cda) cc))
      standAt q3.atName
      let (g, first) ← holding [ov] (getMethod ov "__init__" pl)
      callWith q5 g first (backTo q5 (starEach [.Constant (.str tx) j q4] (ksEnv qual (L2.defScope S) L f (.ref cda) cc))) [])
  hk : (L2.defScope S).kind = .function
  hco : (L2.defScope S).isCoroutine = false
  hgen : (L2.defScope S).isGenerator = false
  hks : (L2.defScope S).names.lookup ("super" : Str) = some .globalImplicit
  hkc : (L2.defScope S).names.lookup ("__class__" : Str) = some .free
  hself : (L2.defScope S).names.lookup ("self" : Str) = some .local
  hfl : (L2.defScope S).names.lookup fl = some .local
  hcell : ∀ y ∈ (L2.defScope S).names, y.2 ≠ .cell
  nf : ("self" : Str) ≠ fl ∧ (fl == ("__debug__" : Str)) = false
  top : (P.main.scope.names.lookup ("super" : Str)).isSome = false
  sup : mg "super" = none
  opq : nsIn K cStatics "thirdparty.any" = some none
  nxt : ks_superIn K C D "__init__" = some (some (.builtin "ValueError.__init__"))
  slf : mroIn K C (.ref D) = some true
  sub : subIn K (.ref C) (.type "ValueError") = some true
section
variable {P : Program} {w : World} {A : Around} {E : Value → Shared → Prop} {R : Result → Shared → Prop} {s : Shared} {K : Frag} {mg : Str → Option Value} {cn fl : Str} {C : Addr}
/-- the method-wrapper of ValueError.__init__ called -/
theorem call_mw {h : Heap} {g : Array GenState} {d : Drawn} {t : Nat} {os : OsState} {nm q : Str} {N : Addr} {bs bm : List Value} {hdct : Bool} {sn : List Str} {sub : List Value} {ab : Bool} {col : Option Bool} {dd : Option Addr} {k0 k1 k2 k3 k5 : Option Value} {u e t0 : Addr} {rest : List Value} {Q : Value → Shared → Prop}
    (hC : h.get? C = some (excClassObj nm q C N bs bm hdct sn sub ab col dd k0 k1 k2 k3 k5 "ValueError.__new__")) (he : h.get? e = some (excO C t0)) (hu : h.get? u = some (kxs_mw "ValueError.__init__" e)) (hrest : rest.length ≤ sizeLine)
    (hq : ∀ h' t1, (∀ b o, b ≠ e → h.get? b = some o → h'.get? b = some o) → h'.get? e = some (excO C t1) → Q .none ⟨h', g, d, t, os⟩) :
    wpAny (model P w) A (call (.ref u) rest) Q E ⟨h, g, d, t, os⟩ := by
  refine wpAny_call (codeAny_of_tree ?_)
  show wpAny _ A.in1 (callAny (.ref u) ⟨rest, []⟩) _ _ _
  simp only [callAny]
  refine wpAny_bind (wpAny_load hu ?_)
  simp only [kxs_mw, show (Value.type "method-wrapper" == Value.type "method" || Value.type "method-wrapper" == Value.type "builtin_function_or_method" || Value.type "method-wrapper" == Value.type "method-wrapper") = true by decide, if_true]
  refine KFB.if_so (by decide) (wpAny_bind (check_bound_init PySem.F.excBase_ValueError.toExcCallFacts hC he rfl (wpAny_bind (wpAny_pure (wpAny_pure ?_)))))
  refine ⟨plainId_quiet PySem.F.excBase_ValueError.init.plain _, codeAny_builtin PySem.F.excBase_ValueError.initEntry ?_⟩
  exact exc_init_tree (cls := .ref C) (t0 := t0) (dv := none) (c2 := .none) (c3 := .none) (b4 := .bool false) he hrest fun h' k e' _ => hq h' _ k e'
/-- what __init__ leaves of a fresh exception at x -/
structure InitEnd (h h' : Heap) (x C dx : Addr) (fl : Str) (v : Value) : Prop where
  keep : ∀ b o, b ≠ x → h.get? b = some o → h'.get? b = some o
  obj : ∃ t1 : Addr, h'.get? x = some { cls := .ref C, dict := some dx, data := .fields #[.ref t1, .none, .none, .none, .bool false, .none] }
  dbig : h.objs.size ≤ dx
  dne : dx ≠ x
  ns : h'.Ns1 dx (fun y => if y = fl then some v else none)
theorem x_init (T : ExcTxt P K mg cn fl C) {x t0 : Addr} {v : Value} (X : K.In s.heap) (hlim : s.heap.NoLimit) (hG : s.heap.Ns mainGlobals mg) (hB : ∃ mb, s.heap.Ns builtinsNs mb ∧ ∀ y : Str, y ≠ "__name__" → mb y = bootBuiltins y)
    (hx : s.heap.get? x = some (excO C t0)) (hnx : K.lookup x = none) (hroom : A.depth < recursionLimit)
    (hq : ∀ h' tk dx, InitEnd s.heap h' x C dx fl v → R (.ok (.ret .none)) { s with heap := h', toks := tk }) :
    codeAny (model P w) A (.call (.ref T.fI) ⟨[.ref x, v], []⟩) R s := by
  obtain ⟨nm, q, N, bs, bm, sn, sub, ab, col, dd, k0, k1, k2, k3, k5, hC, hbm⟩ := T.cls
  obtain ⟨oD, cdD, hD, hDd⟩ := T.clsD
  have hcl : clsIn K C = some { name := nm, bases := bs, mro := .ref C :: bm, ns := N, qualname := q, hasDict := true, slotNames := sn, subclasses := sub, abstract := ab, collection := col, hasDel := false } := by unfold clsIn; rw [hC] <;> rfl
  have hxC : x ≠ C := fun z => by
    have e1 := X _ _ hC
    rw [← z, hx] at e1
    have e2 := congrArg (fun o : Option Obj => o.map (·.data)) e1
    simp [excO, excClassObj] at e2
  have ho := T.lI
  refine ks_codeAny_call_defAt (fd := ksFn "__init__" T.qual (L2.defArgs T.S) (L2.defBody T.S) (L2.defScope T.S) .none T.kV T.doc T.pm T.an (.ref T.cda) T.ct T.cc) (body := L2.defBody T.S) (binds := [("self", .ref x), (fl, v)])
    hroom (X _ _ ho) rfl hlim (codeRec_of X T.cI) rfl (BindsTo.of_eq (T.hbind _ _)) T.hcell ?hloc (fun h₁ hns hk₁ => ?_) T.hco T.hgen T.hk
  case hloc =>
    intro y hy
    simp only [List.mem_cons, List.not_mem_nil, or_false] at hy
    rcases hy with rfl | rfl
    · exact T.hself
    · exact T.hfl
  have X₁ : K.In h₁ := X.keeps hk₁
  have hx₁ := hk₁ _ _ hx
  have ms : (fun y : Str => ([("self", Value.ref x), (fl, v)] : List (Str × Value)).reverse.lookup y) "self" = some (.ref x) := by
    have z : (("self" : Str) == fl) = false := by simpa using T.nf.1
    simp [List.lookup, z]
  have mf : (fun y : Str => ([("self", Value.ref x), (fl, v)] : List (Str × Value)).reverse.lookup y) fl = some v := by simp [List.lookup]
  show wpAt _ (A.deeper (ksEnv T.qual (L2.defScope T.S) s.heap.objs.size T.fI (.ref T.cda) T.cc)) (.func (L2.defBody T.S) (ksEnv T.qual (L2.defScope T.S) s.heap.objs.size T.fI (.ref T.cda) T.cc)) (execs (L2.defBody T.S) (ksEnv T.qual (L2.defScope T.S) s.heap.objs.size T.fI (.ref T.cda) T.cc)) _ _ _
  rw [T.hbody]
  refine ks_wpAt_execs_cons (ks_wpAt_Expr_any (ks_wpAt_MethodCall ?_ (T.hev _ _)) (by unfold interactive; show ((L2.defScope T.S).kind == .module && _) = false; rw [T.hk]; rfl))
  obtain ⟨ar, hp, har⟩ := T.hpar
  obtain ⟨mb, hB1, hB2⟩ := hB
  refine ks_wpAt_super_base T.hks T.hkc (by decide +kernel) rfl (hk₁ _ _ (X _ _ ho)) rfl hp rfl (hk₁ _ _ (X _ _ T.lcd)) rfl T.hvs T.hfile T.top ?_
  refine ks_loadName_global T.hk T.hks (loadGlobal_builtin (hG.keeps hk₁) T.sup (hB1.keeps hk₁) ((hB2 _ (by decide +kernel)).trans PyProof.Rows.Boot.«super») ⟨rfl, ?_⟩)
  refine wpAny_loadName_free T.hk T.hkc rfl ⟨_, X₁ _ _ T.lcc, rfl⟩ ?_
  rw [har]
  refine wpAny_loadName_local T.hk T.hself hns ms ?_
  refine ks_wpAny_isType_cls (X₁ _ _ hD) hDd ⟨rfl, ?_⟩
  refine ks_wpAny_call_super (X₁ _ _ hD) hDd hx₁ rfl (fun c e => by cases e) (looks_mroIn X₁ T.slf) (fun h₂ e₂ k₂ => ?_)
  have X₂ : K.In h₂ := X₁.keeps k₂
  have hx₂ := k₂ _ _ hx₁
  have I₂ : InstAt h₂ x (excO C t0) C none := ⟨hx₂, rfl, rfl, trivial⟩
  have hnxt : alongIn K "__init__" (((Value.ref C :: bm).dropWhile (· != .ref T.D)).drop 1) = some (some (.builtin "ValueError.__init__")) := by
    have z := T.nxt
    unfold ks_superIn at z
    rw [hcl] at z
    exact z
  refine kxs_getMethod kxs_ValueError e₂ (looks_opaque X₂ T.opq) (l₀ := Value.ref C :: bm) (fun A Q E s k q => wpAny_bind ((looks_clsIn X₂ hcl) A _ E s k (wpAny_pure q))) rfl X₂ hnxt (I₂.type.andThen (looks_subIn X₂ T.sub)) hxC (by decide +kernel) ?_
  have k₃ : ∀ b o, h₂.get? b = some o → (h₂.push (kxs_mw "ValueError.__init__" x)).get? b = some o := fun b o e => Heap.get?_push_of_some _ e
  refine kxs_callWith (i := "ValueError.__init__") (x := x) rfl (evalArgs_plain (spliced_more (wpAny_Constant_str (spliced_none ?_))))
  refine ⟨Heap.get?_push_at rfl rfl, ?_⟩
  refine call_mw (k₃ _ _ (X₂ _ _ hC)) (k₃ _ _ hx₂) (Heap.get?_push_at rfl rfl) (by show 1 ≤ sizeLine; decide) fun h₄ t1 k₄ hx₄ => ?_
  have k14 : ∀ b o, b ≠ x → h₁.get? b = some o → h₄.get? b = some o := fun b o hb e => k₄ b o hb (k₃ _ _ (k₂ _ _ e))
  have hxL : s.heap.objs.size ≠ x := Nat.ne_of_gt (Heap.lt_size hx)
  have hns₄ : h₄.Ns s.heap.objs.size (fun y : Str => ([("self", Value.ref x), (fl, v)] : List (Str × Value)).reverse.lookup y) := by
    obtain ⟨oL, es, ep, hL, r⟩ := hns
    exact ⟨oL, es, ep, k14 _ _ hxL hL, r⟩
  have X₄ : K.In h₄ := fun b o e => k14 b o (fun z => by rw [z, hnx] at e; cases e) (X₁ _ _ e)
  refine ks_wpAt_execs_cons (ks_wpAt_Assign_Attr (wpAt_of_wpAny (wpAny_Name (wpAny_loadName_local T.hk T.hfl hns₄ mf ?_) T.nf.2)))
  refine wpAny_Name (wpAny_loadName_local T.hk T.hself hns₄ ms ?_)
  refine set_plain X₄ (ox := excO C t1) (od := none) ⟨hx₄, rfl, rfl, trivial⟩ T.sa ?_
  refine exc_osa X₄ hx₄ hcl (show refsVE (.ref C :: bm) = true from hbm) rfl T.noN (fun h₅ tk₅ dx k₅ dn dne hx₅ hn₅ => ?_)
  exact wpAt_of_wpAny (wpAny_execs_nil (hq h₅ tk₅ dx ⟨fun b o hb e => k₅ b o hb (k14 b o hb (hk₁ b o e)), ⟨t1, hx₅⟩, Nat.le_trans (Nat.le_of_lt hns₄.lt) dn, dne, hn₅⟩))
/-- a made error -/
structure OwnMade (h h' : Heap) (e C d : Addr) (fl : Str) (v : Value) : Prop where
  keep : ∀ b o, h.get? b = some o → h'.get? b = some o
  new : h.objs.size ≤ e
  obj : ∃ oe vs, h'.get? e = some oe ∧ oe.cls = .ref C ∧ oe.dict = some d ∧ oe.data = .fields vs ∧ vs[1]? = some .none
  dbig : h.objs.size ≤ d
  dne : d ≠ e
  ns : h'.Ns1 d (fun y => if y = fl then some v else none)
theorem x_made (T : ExcTxt P K mg cn fl C) {v : Value} (X : K.In s.heap) (hlim : s.heap.NoLimit) (hG : s.heap.Ns mainGlobals mg) (hB : ∃ mb, s.heap.Ns builtinsNs mb ∧ ∀ y : Str, y ≠ "__name__" → mb y = bootBuiltins y) (hroom : A.depth + 1 < recursionLimit)
    (hq : ∀ h' tk e d, OwnMade s.heap h' e C d fl v → R (.ok (.ret (.ref e))) { s with heap := h', toks := tk }) :
    codeAny (model P w) A (.call (.ref C) ⟨[v], []⟩) R s := by
  obtain ⟨nm, q, N, bs, bm, sn, sub, ab, col, dd, k0, k1, k2, k3, k5, hC, hbm⟩ := T.cls
  obtain ⟨hp, g, dr, tk, os⟩ := s
  have k : ∀ b o, hp.get? b = some o → ((hp.push (kdv_tup [v])).push (excO C hp.objs.size)).get? b = some o := fun b o e => Heap.get?_push_of_some _ (Heap.get?_push_of_some _ e)
  have hget : ((hp.push (kdv_tup [v])).push (excO C hp.objs.size)).get? (hp.objs.size + 1) = some (excO C hp.objs.size) := by heap_get
  have hnx : K.lookup (hp.objs.size + 1) = none := by
    cases e : K.lookup (hp.objs.size + 1) with
    | none => rfl
    | some o => exact absurd (Nat.lt_of_succ_lt (Heap.lt_size (show hp.get? (hp.objs.size + 1) = some o from X _ _ e))) (Nat.lt_irrefl _)
  obtain ⟨mb, hB1, hB2⟩ := hB
  refine call_own PySem.F.excBase_ValueError (fun X => refsVE_contains X bm hbm) (X _ _ hC) (looks_findIn X T.iC) (fun self => bind_fn X self T.tI) (by show 1 ≤ sizeLine; decide) ?_
  refine x_init (s := ⟨(hp.push (kdv_tup [v])).push (excO C hp.objs.size), g, dr, tk, os⟩) T (X.keeps k) (hlim.keeps k) (hG.keeps k) ⟨mb, hB1.keeps k, hB2⟩ hget hnx (show A.depth + 1 < recursionLimit from hroom) fun h' tk' dx ⟨k', ⟨t1, hx⟩, dn, dne, hns⟩ => ?_
  have old : ∀ b o, hp.get? b = some o → h'.get? b = some o := fun b o e => k' b o (Nat.ne_of_lt (Nat.lt_succ_of_lt (Heap.lt_size e))) (k b o e)
  have z : hp.objs.size + 1 + 1 ≤ dx := by
    first
      | (simpa only [Heap.size_push] using dn)
      | exact dn
      | (have q := dn; rw [Heap.size_push, Heap.size_push] at q; exact q)
  exact ⟨rfl, hq h' tk' (hp.objs.size + 1) dx ⟨old, Nat.le_succ _, ⟨_, _, hx, rfl, rfl, rfl, rfl⟩, Nat.le_trans (Nat.le_trans (Nat.le_succ _) (Nat.le_succ _)) z, dne, hns⟩⟩
end
end WX
end PySem
namespace L2
open PySem PySem.Spec PyProof.Rows
theorem relO_x {v : V} {v' : Value} (fl : Str) (r : RelV v v') (f : Str) : RelO (List.lookup f [(fl, v)]) (if f = fl then some v' else none) := by
  by_cases hw : f = fl
  · subst hw
    rw [if_pos rfl, show List.lookup f [(f, v)] = some v by simp [List.lookup]]
    exact r
  · rw [if_neg hw, show List.lookup f [(fl, v)] = none by simp [List.lookup, show (f == fl) = false by simpa using hw]]
    trivial
section
variable {X : Cx} {C : Addr} {cn fl : Str}
/-- cn(e) -/
def tMkX (C : Addr) (fl : Str) (ta : TA) : St → Hp → XK → Prop := fun σ H Q => ta σ H fun vs H1 => ∃ v, vs = [v] ∧ ∀ d, H1 d = none → Q (.ref C) (some d) (upd H1 d (.xd [(fl, v)]))
theorem pmk_x {a : Expr} {ta : TA} {p pos : Pos} {k : Nat} (T : PySem.WX.ExcTxt X.prog X.K X.mg cn fl C) (hr : Room k X.A) (ha : PA X [a] ta) (hg : Gl X cn := by rfl) (hdb : (cn == ("__debug__" : Str)) = false := by decide)
    (he : starEach (a :: []) X.env = (false, eval a X.env) :: starEach [] X.env := by rfl) (hpl : (backTo pos (starEach [] X.env)).any (·.1) = false := by rfl) :
    PMk X (.Call (.Name cn p) [a] [] pos) (tMkX C fl ta) := by
  intro pins s σ H Q I h
  refine wpAny_Call_Name_kw (ld_glob I hg T.gC ?_ hdb)
  refine PySem.W.callWith_K (h₀ := X.base) I.ok.mod.kin T.kC (thn (ha.run pos pins s σ H _ I h) fun us s1 hh => ?_) he hpl
  obtain ⟨vs, H1, I1, r1, v, ev, q1⟩ := hh
  subst ev
  refine ⟨I1.kIn, ?_⟩
  cases r1 with
  | cons rv rn =>
    rename_i v' us'
    cases rn
    show wpAny _ _ (call (.ref C) [v']) _ _ _
    have hlim := I1.nolimit
    have hG := I1.mod.glob.keeps I1.bk
    obtain ⟨mb, hB1, hB2⟩ := I1.mod.blt
    have hB1' := hB1.keeps I1.bk
    obtain ⟨hp, g, dr, tk, os⟩ := s1
    refine wpAny_call (PySem.WX.x_made T I1.kIn hlim hG ⟨mb, hB1', hB2⟩ (by have := hr.dp; omega) fun h' tk' e d M => ?_)
    show MkP X pins σ Q (.ref e) ⟨h', g, dr, tk', os⟩
    obtain ⟨oe, fv, hoe, hc, hd, hdat, h1⟩ := M.obj
    obtain ⟨G', g1, g2⟩ := restrict h' fun b => decide (b ≠ e)
    have gk : ∀ b, b ≠ e → G'.get? b = h'.get? b := fun b hb => g1 b (decide_eq_true hb)
    have ge : G'.get? e = none := g2 e (by simp)
    have old : ∀ b o, hp.get? b = some o → G'.get? b = some o := fun b o q => (gk b (Nat.ne_of_lt (Nat.lt_of_lt_of_le (Heap.lt_size q) M.new))).trans (M.keep b o q)
    have ob : ObjOk X.prog X.w (upd H1 d (.xd [(fl, v)])) G' d (.xd [(fl, v)]) := ⟨_, M.ns.at (fun o q => (gk d M.dne).trans q), fun f => relO_x fl rv f⟩
    have J : Inv X pins σ (upd H1 d (.xd [(fl, v)])) ⟨G', g, dr, tk', os⟩ := I1.laid (t' := tk') old M.dbig ob
    refine ⟨e, oe, fv, ⟨G', g, dr, tk', os⟩, _, .ref C, some d, rfl, J, fun b o q => ?_, ge, hoe, ⟨hc, hd⟩, hdat, h1, ?_, rfl, I1.bare, raises_own T.exC T.tyC, q1 d (I1.hok.fresh M.dbig)⟩
    · by_cases hb : b = e
      · have q' : G'.get? b = some o := q
        rw [hb, ge] at q'; cases q'
      · exact (gk b hb).symm.trans q
    · rw [upd_ne (Ne.symm M.dne)]
      exact I1.hok.fresh M.new
/-- raise cn(e) -/
def tRaiseX (C : Addr) (fl : Str) (W : WX) (ta : TA) : TS := fun _ σ H => tMkX C fl ta σ H fun cls d H' => W cls d σ H'
theorem ps_raiseX {a : Expr} {ta : TA} {W : WX} {p pos pos2 : Pos} {k : Nat} (hc : X.calm = true) (T : PySem.WX.ExcTxt X.prog X.K X.mg cn fl C) (hr : Room k X.A) (tk : Takes X W) (ha : PA X [a] ta) (hg : Gl X cn := by rfl) (hdb : (cn == ("__debug__" : Str)) = false := by decide)
    (he : starEach (a :: []) X.env = (false, eval a X.env) :: starEach [] X.env := by rfl) (hpl : (backTo pos (starEach [] X.env)).any (·.1) = false := by rfl) :
    PS X (.Raise (some (.Call (.Name cn p) [a] [] pos)) none pos2) (tRaiseX C fl W ta) := ps_raise hc tk (pmk_x T hr ha hg hdb he hpl)
end
end L2

namespace L2
open PySem PySem.Spec PyProof.Rows
/-! ### in an except suite: isinstance(e, c) and e.f, e an own error with a dict -/
structure XC (K : PySem.W.Frag) (D : Addr) : Prop where
  ga : PySem.W.findIn K (.ref D) "__getattribute__" = some (some (.builtin "BaseException.__getattribute__"))
  gg : PySem.W.findIn K (.ref D) "__getattr__" = some none
  hs : PySem.W.subIn K (.ref D) (.type "BaseException") = some true
  hd : PySem.W.hasDictIn K D = true
  ha : PySem.W.findIn K (.ref D) "__class__" = some (some (.builtin "object.__class__"))
  hn : PySem.W.specialIn K (.builtin "object.__class__") "__get__" = some (some (.builtin "getset_descriptor.__get__"))
  ht : PySem.W.takesIn K (.builtin "object.__class__") = some true
  hm : PySem.W.mroIn K D (.type "object") = some true
def rIsX (K : PySem.W.Frag) (a : Addr) (cls : Value) (d : Option Addr) : List V → Hp → VK → Prop := fun xs H Q => ∃ (D dd : Addr) (fs : List (Str × V)) (c : V) (cv : Value) (b : Bool), cls = .ref D ∧ d = some dd ∧ H dd = some (.xd fs) ∧ XC K D ∧ xs = [.ref a, c] ∧ ClsV c cv ∧ PySem.W.kitOne K (.ref D) cv = some b ∧ Q (.bl b) H
theorem call_isX {X : Cx} {a : Addr} {oe : Obj} {cls : Value} {d : Option Addr} {pn : List (Addr × Obj)} (hz : Zc cls d oe) (hf : ∃ vs, oe.data = .fields vs) : CallR (X.suite a ((a, oe) :: pn)) (.builtin "isinstance") (rIsX X.K a cls d) := by
  intro pins s σ H xs us Q I r h
  obtain ⟨D, dd, fs, c, cv, b, rfl, rfl, hdd, C, rfl, hcv, e, q⟩ := h
  cases r with
  | cons rx rr =>
    cases rr with
    | cons rt rr =>
      cases rr
      cases rx
      have ec := hcv.eq rt
      subst ec
      obtain ⟨hget, _⟩ := I.pin (a, oe) (List.mem_append.mpr (.inl List.mem_cons_self))
      obtain ⟨vs, hv⟩ := hf
      have hx : ObjOk X.prog X.w H s.heap dd (.xd fs) := I.hok dd _ hdd
      obtain ⟨mA, hns, hr⟩ := hx
      obtain ⟨od, ho, hl⟩ := lookIn_ns hns
      have J : PySem.W.InstAt s.heap a oe D (some od) := ⟨hget, hz.1, by unfold PySem.W.notCls; rw [hv] <;> rfl, by rw [hz.2]; exact ho⟩
      obtain ⟨cd, hc, _⟩ := PySem.W.any_some C.hd
      exact PySem.W.kia_one (PySem.W.kitx_exc (by rw [hc]; rfl) C.ga C.gg C.hs C.ha C.hn C.ht C.hm) I.kIn J e (fun z => nomatch z) fun tk => ⟨.bl b, H, I.kept (t' := tk) fun _ _ z => z, rfl, q⟩
/-- e.f: the reading names the class -/
def tXfX (K : PySem.W.Frag) (a : Addr) (cls : Value) (d : Option Addr) (f : Str) (te : TE) : TE := fun σ H Q => te σ H fun x H1 => x = .ref a ∧ ∃ (C dd : Addr) (fs : List (Str × V)) (v : V), cls = .ref C ∧ XC K C ∧ PySem.W.findIn K (.ref C) f = some none ∧ d = some dd ∧ H1 dd = some (.xd fs) ∧ fs.lookup f = some v ∧ Q v H1
theorem pe_xfX {X : Cx} {a : Addr} {oe : Obj} {cls : Value} {d : Option Addr} {pn : List (Addr × Obj)} {e : Expr} {te : TE} {pos : Pos} {n : Str}
    (hz : Zc cls d oe) (hf : ∃ vs, oe.data = .fields vs) (he : PE (X.suite a ((a, oe) :: pn)) e te) (hb : attributeBase e n X.env (eval e X.env) = eval e X.env := by rfl) :
    PE (X.suite a ((a, oe) :: pn)) (.Attribute e n pos) (tXfX X.K a cls d n te) := by
  refine ⟨fun pins s σ H Q I h => ?_⟩
  refine attr_of hb (thn (he.run pins s σ H _ I h) fun u s1 hh => ?_)
  obtain ⟨x, H1, I1, rx, ex, C, dd, fs, v, ec, T, hno, ed, ea, l, q⟩ := hh
  subst ex
  obtain rfl : u = Value.ref a := rx
  subst ec
  subst ed
  obtain ⟨ha, _⟩ := I1.pin (a, oe) (List.mem_append_left _ List.mem_cons_self)
  obtain ⟨vs, hd⟩ := hf
  have hx : ObjOk X.prog X.w H1 s1.heap dd (.xd fs) := I1.hok dd _ ea
  obtain ⟨mA, hns, hr⟩ := hx
  obtain ⟨od, ho, hl⟩ := lookIn_ns hns
  obtain ⟨u, hu, ru⟩ := RelO.some_of (v := v) (o := mA n) (by rw [← l]; exact hr n)
  have J : PySem.W.InstAt s1.heap a oe C (some od) := ⟨ha, hz.1, by unfold PySem.W.notCls; rw [hd] <;> rfl, by rw [hz.2]; exact ho⟩
  exact HandSPX.exc_get I1.kIn J T.ga T.gg T.hs (PySem.W.findObj_own T.hd hno rfl (by rw [hl, hu])) (handed_of ru) ⟨v, H1, I1.tok _, ru, q⟩
/-! ### calls in a try's body: the way out sees the slots -/
def tMethW (C : Addr) (m : Str) (sp : Sp) (dvs : List V) (E : St → XK) (ta : TE) (t : TA) : TE := fun σ H Q => tMeth C m sp dvs (E σ) ta t σ H Q
section
variable {X : Cx} {CX : CXT} {k : Nat} {f C : Addr} {fd : FuncData} {ps : List Str} {sp : Sp} {dvs : List V} {ds : List Value} {E : St → XK} {x m : Str} {p pos apos : Pos} {e o : Expr} {es : List Expr} {ta : TE} {t : TA}
theorem pe_methW {pl : Sem Bool} (he : PE X o ta) (c : Cls X.K C) (hm : Meth X.K C m f) (F : FnOk X.prog X.w X.K X.mg X.base CX k f fd ps sp) (hr : Room k X.A) (hb : Binds X.K fd ps ds) (hd : Vals dvs ds) (hx : ∀ σ, PassesAt CX X σ (E σ)) (ha : PA X (e :: es) t)
    (hst : starEach (e :: es) X.env = (false, eval e X.env) :: starEach es X.env := by rfl) (hpl : (backTo pos (starEach es X.env)).any (·.1) = false := by rfl)
    (ht : eval (.Call (.Attribute o m apos) (e :: es) [] pos) X.env = (do
      let ov ← eval o X.env
      standAt apos.atName
      let (f, first) ← holding [ov] (getMethod ov m pl)
      callWith pos f first (backTo pos (starEach (e :: es) X.env)) (backToKw pos (keywordEach [] X.env))) := by rfl) :
    PE X (.Call (.Attribute o m apos) (e :: es) [] pos) (tMethW C m sp dvs E ta t) := by
  refine ⟨fun pins s σ H Q I h => ?_⟩
  refine PySem.W.methodCall_KW (pl := pl) (thn (he.run pins s σ H _ I h) fun u s1 ⟨x, H1, I1, rx, a, dx, fs, ex, ea, l, q⟩ => ?_) ht
  subst ex
  obtain rfl : u = Value.ref a := rx
  refine getmeth_ok I1 ea c hm l ?_
  refine PySem.W.callWith_K (first := [.ref a]) (h₀ := X.base) I.ok.mod.kin hm.kp (thn (ha.run pos pins s1 σ H1 _ I1 q) fun us s2 ⟨vs, H2, I2, r, q2⟩ => ⟨I2.kIn, ?_⟩) hst hpl
  exact run_fnSD (us := .ref a :: us) (vs := .ref a :: vs) F hr hb hd (hx σ) I2 (.cons rfl r) q2
end
end L2

namespace L2
open PySem PySem.Spec PyProof.Rows
/-- a def that raises nothing where nothing may be raised -/
theorem FnOk.calm {P : Program} {w : World} {K : PySem.W.Frag} {mg : Str → Option Value} {base : Heap} {k : Nat} {f : Addr} {fd : FuncData} {ps : List Str} {sp : Sp} (F : FnOk P w K mg base (L2.CX P w) k f fd ps sp) :
    FnOk P w K mg base CX0 k f fd ps (fun vs H Q _ => sp vs H Q fun _ _ _ => False) :=
  ⟨fun vs H Q _ h => F.len vs H Q _ h, fun A outer s H args us vs Q _ hr he hb hv hs => codeAny_mono (F.run A outer s H args us vs Q _ hr he hb hv hs) fun r s' hq => by
    cases r with
    | error e =>
      obtain ⟨_, _, _, _, _, _, _, _, _, _, _, _, h⟩ := hq
      exact h.elim
    | ok fl =>
      cases fl with
      | ret u => exact hq
      | next => exact hq
      | brk => exact hq
      | cont => exact hq⟩
/-- the way out of a def as its own caller's -/
theorem passX {X : Cx} {E : XK} (tk : Takes X (fun cls d _ H => E cls d H)) : Passes (L2.CX X.prog X.w) X E := passes_call tk fun _ _ _ _ h => h
end L2

namespace L2
open PySem
def gSeq (K : PySem.W.Frag) (n : Nat) (t : TGs) : TG := fun v σ H Q => gTup K n t v σ H Q ∨ gLst K n t v σ H Q
theorem pg_seq {X : Cx} {es : List Expr} {k : Nat} {t : TGs} {n : Nat} {pos : Pos} (hc : X.calm = true) (h : PGs X es t)
    (hn : (assignEach es X.env).length = n := by rfl) (hst : (assignEach es X.env).findIdx? (·.1) = none := by rfl) : PG X (.Tuple es k pos) (gSeq X.K n t) :=
  ⟨fun pins s σ H v u Q I r hw => hw.elim (fun w => (pg_tup hc h hn hst).run pins s σ H v u Q I r w) (fun w => (pg_lst hc h hn hst).run pins s σ H v u Q I r w)⟩
end L2
namespace L2
open PySem
theorem gSeq_of {K : PySem.W.Frag} {n : Nat} {t : TGs} {p : Addr} {xs : List V} {σ : L2.St} {H : Hp} {Q : L2.St → Hp → Prop} (h : H p = some (.tup xs) ∨ H p = some (.lst xs)) (hn : xs.length = n) (q : t xs σ H Q) : gSeq K n t (.ref p) σ H Q := by
  rcases h with h | h
  · exact .inl ⟨p, xs, rfl, SqT.of h, hn, q⟩
  · exact .inr ⟨p, xs, rfl, SqL.of h, hn, q⟩
end L2

namespace L2
open PySem PySem.Spec PyProof.Rows L2H
/-! ### a def that is handed the exception of the except suite it is called from: p, its place and its object, is known -/
structure FnE (P : Program) (w : World) (K : PySem.W.Frag) (mg : Str → Option Value) (base : Heap) (CX : CXT) (k : Nat) (f : Addr) (fd : FuncData) (ps : List Str) (sp : Sp) (p : Addr × Obj) : Prop where
  len : ∀ vs H Q E, sp vs H Q E → vs.length = ps.length
  run : ∀ (A : Around) (outer : List Env) (s : Shared) (H : Hp) (args : Args) (us : List Value) (vs : List V) (Q : VK) (E : XK), RoomH k A → PinOk outer H s p → Env0 P w K mg base A outer s H → BindsTo s fd args (ps.zip us) → Vals vs us → sp vs H Q E →
    codeAny (model P w) A (.call (.ref f) args) (CR CX outer P w H s Q E) s
section
variable {P : Program} {w : World} {K : PySem.W.Frag} {mg : Str → Option Value} {base : Heap} {k : Nat} {f : Addr} {fd : FuncData} {x qual : Str} {st : Stmt} {N ps : List Str} {sp : Sp} {p : Addr × Obj}
theorem Fun.okE (F : Fun K x qual st f fd) (S : FnScope N ps (defScope st)) (len : ∀ vs H Q E, sp vs H Q E → vs.length = ps.length)
    (body : ∀ (cdv : Value) (A : Around) (outer : List Env) (s : Shared) (H : Hp) (vs : List V) (Q : VK) (E : XK), RoomH k (A.deeper (envOfC qual (defScope st) s.heap.objs.size f cdv)) → sp vs H Q E →
      ∃ t, PSs (cxH CX0 P w K mg base N qual (defScope st) f cdv A outer s H E p) (defBody st) t ∧ t { nx := fun _ H' => Q .non H', rt := Q } (start N vs) H) : FnE P w K mg base CX0 (k + 1) f fd ps sp p := by
  obtain ⟨oc, od, kV, doc, pm, an, cdv, ct, osl, rfl, lk, hcd⟩ := F.ex
  refine ⟨len, fun A outer s H args us vs Q E hr hpin e0 hb r hsp => ?_⟩
  have inK : K.In s.heap := e0.mod.kin.keeps fun b o e => (e0.bs b o e).1
  have lim : s.heap.NoLimit := e0.mod.nolimit.keeps fun b o e => (e0.bs b o e).1
  have kinds : ∀ y ∈ ps.zip us, (defScope st).names.lookup y.1 = some .local ∨ ((defScope st).names.lookup y.1 = some .cell ∧ ((cellsFrom (s.heap.objs.size + 1) (defScope st).names []).lookup y.1).isSome = true) := fun ⟨n, v⟩ hy =>
    (S.par n (List.of_mem_zip hy).1).elim .inl fun q => .inr ⟨q, PySem.W.cellsFrom_some _ _ _ (.inl q)⟩
  refine codeAny_call_function hr.depth (inK _ _ lk) rfl S.co S.gen rfl (PySem.W.codeRec_of inK hcd) (hb _ _ _ _ (wpAny_newFunctionEnv_cells S.kind kinds fun env he s1 y => ?_))
  subst he
  obtain ⟨t, ht, hq⟩ := body cdv A outer s H vs Q E (hr.deeper _) hsp
  refine ⟨lim.keeps y.toInCall.keep, codeAny_func (wpAny_mono (ht.run [] s1 (start N vs) H _ (inv_startH S hpin e0 (len _ _ _ _ hsp) r y) hq) (fun fl s' hs => ?_) fun e s' hs => hs)⟩
  match fl, hs with
  | .ret u, ⟨v, σ', H', J, rv, q⟩ => exact ⟨v, H', J.os, J.bare, J.base, J.hok, rv, q⟩
  | .next, ⟨σ', H', J, q⟩ => exact ⟨V.non, H', J.os, J.bare, J.base, J.hok, rfl, q⟩
  | .brk, ⟨_, _, _, q⟩ => exact False.elim q
  | .cont, ⟨_, _, _, q⟩ => exact False.elim q
end
section
variable {X : Cx} {CX : CXT} {k : Nat} {f : Addr} {fd : FuncData} {ps : List Str} {sp : Sp} {E : XK} {p : Addr × Obj} {x : Str} {q pos : Pos} {e : Expr} {es : List Expr} {t : TA}
theorem pe_callE (F : FnE X.prog X.w X.K X.mg X.base CX k f fd ps sp p) (hr : RoomH k X.A) (hp : p ∈ X.pn) (hg : Gl X x) (hm : X.mg x = some (.ref f)) (hk : PySem.W.keepIn X.K (.ref f) = true) (hb : Binds X.K fd ps []) (hx : Passes CX X E)
    (ha : PA X (e :: es) t) (hdb : (x == ("__debug__" : Str)) = false := by decide) (he : starEach (e :: es) X.env = (false, eval e X.env) :: starEach es X.env := by rfl) (hpl : (backTo pos (starEach es X.env)).any (·.1) = false := by rfl) :
    PE X (.Call (.Name x q) (e :: es) [] pos) (tCall sp [] E t) := by
  refine ⟨fun pins s σ H Q I h => ?_⟩
  refine wpAny_Call_Name_kw (ld_glob I hg hm ?_ hdb)
  refine PySem.W.callWith_K (h₀ := X.base) I.ok.mod.kin hk (thn (ha.run pos pins s σ H _ I h) fun us s1 ⟨vs, H1, I1, r, q⟩ => ⟨I1.kIn, ?_⟩) he hpl
  have q : sp vs H1 Q E := by simpa using q
  have hl : us.length = ps.length := by rw [← r.length]; exact F.len _ _ _ _ q
  have b := hb s1 us I1.kIn (by rw [List.append_nil]; exact hl)
  rw [List.append_nil] at b
  have P1 := I1.pin p (List.mem_append_left _ hp)
  have hpin : PinOk X.stack H1 s1 p := ⟨P1.1, P1.2.1, fun hm => (List.mem_cons.mp (I1.stkSub p.1 hm)).elim P1.2.2.1 P1.2.2.2.1, P1.2.2.2.2⟩
  refine wpAny_call (codeAny_mono (F.run X.A X.stack s1 H1 ⟨us, []⟩ us vs Q E hr hpin I1.env0 b r q) fun r s' hq => ?_)
  match r, hq with
  | .error e, hq => exact hx pins σ H1 s1 e s' I1 hq
  | .ok (.ret u), hq => exact I1.after hq
/-- isinstance(e, c), e the pinned exception -/
theorem call_isP {a : Addr} {oe : Obj} {cls : Value} {d : Option Addr} (hp : (a, oe) ∈ X.pn) (hz : Zc cls d oe) (hf : ∃ vs, oe.data = .fields vs) : CallR X (.builtin "isinstance") (rIsX X.K a cls d) := by
  intro pins s σ H xs us Q I r h
  obtain ⟨D, dd, fs, c, cv, b, rfl, rfl, hdd, C, rfl, hcv, e, q⟩ := h
  cases r with
  | cons rx rr =>
    cases rr with
    | cons rt rr =>
      cases rr
      cases rx
      have ec := hcv.eq rt
      subst ec
      obtain ⟨hget, _⟩ := I.pin (a, oe) (List.mem_append_left _ hp)
      obtain ⟨vs, hv⟩ := hf
      have hx : ObjOk X.prog X.w H s.heap dd (.xd fs) := I.hok dd _ hdd
      obtain ⟨mA, hns, hr⟩ := hx
      obtain ⟨od, ho, hl⟩ := lookIn_ns hns
      have J : PySem.W.InstAt s.heap a oe D (some od) := ⟨hget, hz.1, by unfold PySem.W.notCls; rw [hv] <;> rfl, by rw [hz.2]; exact ho⟩
      obtain ⟨cd, hc, _⟩ := PySem.W.any_some C.hd
      exact PySem.W.kia_one (PySem.W.kitx_exc (by rw [hc]; rfl) C.ga C.gg C.hs C.ha C.hn C.ht C.hm) I.kIn J e (fun z => nomatch z) fun tk => ⟨.bl b, H, I.kept (t' := tk) fun _ _ z => z, rfl, q⟩
/-- e.f, e the pinned exception -/
theorem pe_xfP {a : Addr} {oe : Obj} {cls : Value} {d : Option Addr} {ex : Expr} {te : TE} {n : Str} {apos : Pos} (hp : (a, oe) ∈ X.pn) (hz : Zc cls d oe) (hf : ∃ vs, oe.data = .fields vs) (he : PE X ex te) (hb : attributeBase ex n X.env (eval ex X.env) = eval ex X.env := by rfl) :
    PE X (.Attribute ex n apos) (tXfX X.K a cls d n te) := by
  refine ⟨fun pins s σ H Q I h => ?_⟩
  refine attr_of hb (thn (he.run pins s σ H _ I h) fun u s1 hh => ?_)
  obtain ⟨x, H1, I1, rx, ex, C, dd, fs, v, ec, T, hno, ed, ea, l, q⟩ := hh
  subst ex
  obtain rfl : u = Value.ref a := rx
  subst ec
  subst ed
  obtain ⟨ha, _⟩ := I1.pin (a, oe) (List.mem_append_left _ hp)
  obtain ⟨vs, hd⟩ := hf
  have hx : ObjOk X.prog X.w H1 s1.heap dd (.xd fs) := I1.hok dd _ ea
  obtain ⟨mA, hns, hr⟩ := hx
  obtain ⟨od, ho, hl⟩ := lookIn_ns hns
  obtain ⟨u, hu, ru⟩ := RelO.some_of (v := v) (o := mA n) (by rw [← l]; exact hr n)
  have J : PySem.W.InstAt s1.heap a oe C (some od) := ⟨ha, hz.1, by unfold PySem.W.notCls; rw [hd] <;> rfl, by rw [hz.2]; exact ho⟩
  exact HandSPX.exc_get I1.kIn J T.ga T.gg T.hs (PySem.W.findObj_own T.hd hno rfl (by rw [hl, hu])) (handed_of ru) ⟨v, H1, I1.tok _, ru, q⟩
end
end L2
namespace L2
/-- a built-in's method, the fragment named (for suites and a try's body, whose context names what the reading may not) -/
theorem pe_bmK {X : Cx} {K : PySem.W.Frag} {ex : PySem.Expr} {T : String} {r : V → List V → Hp → VK → Prop} {to : TE} {t : TA} (hK : X.K = K) (h : PE X ex (tBM X.K T r to t)) : PE X ex (tBM K T r to t) := hK ▸ h
end L2
namespace L2
open PySem
theorem room_suite {k j : Nat} {A A' : Around} (hr : Room k A) (h : j ≤ k) (e1 : A'.depth = A.depth) (e2 : A'.units = A.units) : L2H.RoomH j A' := ⟨by have := hr.dp; rw [e1]; omega, by have := hr.un; rw [e2]; omega⟩
end L2

namespace L2
open PySem PySem.Spec PyProof.Rows
/-! ### own objects where a built-in asks them: o[k], x in o, len(o), str(o), for x in o, C.m(..) of a staticmethod -/
section
variable {X : Cx} {CX : CXT} {k : Nat} {f C a dx : Addr} {fs : List (Str × V)} {fd : FuncData} {ps : List Str} {sp : Sp} {E : XK} {pins : List (Addr × Obj)} {σ : St} {H : Hp} {s : Shared} {Q : VK} {us : List Value} {vs : List V}
/-- a def's call from within a built-in -/
theorem run_sub {A1 : Around} (hf : A1.frames = some X.stack) (F : FnOk X.prog X.w X.K X.mg X.base CX k f fd ps sp) (hr : Room k A1) (hb : Binds X.K fd ps []) (hx : Passes CX X E) (I : Inv X pins σ H s) (r : Vals vs us) (h : sp vs H Q E) :
    wpAny (model X.prog X.w) A1 (call (.ref f) us) (EP X pins σ Q) X.xe s := by
  have hl : (us ++ []).length = ps.length := by rw [List.append_nil, ← r.length]; exact F.len _ _ _ _ h
  have e := I.env0
  have bt := hb s us I.kIn hl
  rw [List.append_nil] at bt
  refine wpAny_call (codeAny_mono (F.run A1 X.stack s H ⟨us, []⟩ us vs Q E hr ⟨hf, e.mod, e.bs, e.bsz, e.funs, e.frf, e.hok, e.bare⟩ bt r h) fun r s' hq => ?_)
  match r, hq with
  | .error e, hq => exact hx pins σ H s e s' I hq
  | .ok (.ret u), hq => exact I.after hq
theorem stack_of (I : Inv X pins σ H s) : X.A.frames = some X.stack := I.env0.frames
theorem inst_of (I : Inv X pins σ H s) (h : H a = some (.ins C dx fs)) : ∃ ox od, PySem.W.InstAt s.heap a ox C (some od) := by
  obtain ⟨mA, J, _⟩ := ins_get I.hok h
  obtain ⟨od, J, _⟩ := J.look
  exact ⟨_, od, J⟩
/-- o[k] by the class's own def -/
def rGetI (C : Addr) (sp : Sp) (E : XK) : R2 := fun x y H Q => ∃ a dx fs, x = .ref a ∧ H a = some (.ins C dx fs) ∧ sp [x, y] H Q E
theorem pe_getI {ea eb : Expr} {ta tb : TE} {pos : Pos} (m : Meth X.K C "__getitem__" f) (hfi : PySem.W.fnIn X.K f = true) (F : FnOk X.prog X.w X.K X.mg X.base CX k f fd ps sp) (hr : Room (k + 1) X.A) (hb : Binds X.K fd ps []) (hx : Passes CX X E)
    (ha : PE X ea ta) (hbe : PE X eb tb) (hsl : ∀ (x : Addr) (i : Value), subscripted eb true (.ref x) i = runValue (.builtin "lifetime.subscript" ⟨[.ref x, i], []⟩) := by intro _ _; with_unfolding_all rfl) : PE X (.Subscript ea eb pos) (tOp (rGetI C sp E) ta tb) := by
  refine ⟨fun pins s σ H Q I h => ?_⟩
  refine Subscript_ (binT ha hbe I h fun v u s2 x y H2 I2 rx ry q => ?_)
  obtain ⟨a, dx, fs, rfl, ho, q⟩ := q
  cases rx
  obtain ⟨ox, od, J⟩ := inst_of I2 ho
  obtain ⟨mf, hF⟩ := I2.fr
  exact PySem.W.sub_K hF I2.ok.mod.kin J m.at_ hfi m.fn (run_sub (A1 := X.A.in1) (us := [.ref a, u]) (vs := [.ref a, y]) (stack_of I2) F hr.in1 hb hx I2 (.cons rfl (.cons ry .nil)) q) (hsl a u)
/-- x in o, x not in o -/
def rInI (C : Addr) (sp : Sp) (E : XK) (neg : Bool) : R2 := fun x y H Q => ∃ a dx fs, y = .ref a ∧ H a = some (.ins C dx fs) ∧ sp [y, x] H (fun v H' => ∃ b : Bool, v = .bl b ∧ Q (.bl (if neg then !b else b)) H') E
theorem truth_bl {A : Around} {E' : Value → Shared → Prop} {b : Bool} {s : Shared} {Qb : Bool → Shared → Prop} (h : Qb b s) : wpAny (model X.prog X.w) A (truthy (.bool b)) Qb E' s := by
  unfold truthy
  exact wpAny_pure h
theorem op_inI (m : Meth X.K C "__contains__" f) (F : FnOk X.prog X.w X.K X.mg X.base CX k f fd ps sp) (hr : Room k X.A) (hb : Binds X.K fd ps []) (hx : Passes CX X E) : OpR X (compareOp .In) (rInI C sp E false) := by
  intro pins s σ H x y v u Q I rx ry h
  obtain ⟨a, dx, fs, rfl, ho, q⟩ := h
  cases ry
  obtain ⟨ox, od, J⟩ := inst_of I ho
  obtain ⟨mf, hF⟩ := I.fr
  refine PySem.W.in_K hF I.ok.mod.kin J m.at_ m.fn (thn (run_sub (us := [.ref a, v]) (vs := [.ref a, x]) (stack_of I) F hr hb hx I (.cons rfl (.cons rx .nil)) q) fun r s' z => ?_)
  obtain ⟨z1, H1, I1, r1, b, rfl, q1⟩ := z
  cases r1
  exact truth_bl ⟨.bl b, H1, I1, rfl, q1⟩
theorem op_ninI (m : Meth X.K C "__contains__" f) (F : FnOk X.prog X.w X.K X.mg X.base CX k f fd ps sp) (hr : Room k X.A) (hb : Binds X.K fd ps []) (hx : Passes CX X E) : OpR X (compareOp .NotIn) (rInI C sp E true) := by
  intro pins s σ H x y v u Q I rx ry h
  obtain ⟨a, dx, fs, rfl, ho, q⟩ := h
  cases ry
  obtain ⟨ox, od, J⟩ := inst_of I ho
  obtain ⟨mf, hF⟩ := I.fr
  refine PySem.W.notIn_K hF I.ok.mod.kin J m.at_ m.fn (thn (run_sub (us := [.ref a, v]) (vs := [.ref a, x]) (stack_of I) F hr hb hx I (.cons rfl (.cons rx .nil)) q) fun r s' z => ?_)
  obtain ⟨z1, H1, I1, r1, b, rfl, q1⟩ := z
  cases r1
  exact truth_bl ⟨.bl (!b), H1, I1, rfl, q1⟩
/-- len(o) -/
def rLenI (C : Addr) (sp : Sp) (E : XK) : List V → Hp → VK → Prop := fun xs H Q => ∃ a dx fs, xs = [.ref a] ∧ H a = some (.ins C dx fs) ∧ sp [.ref a] H (fun v H' => ∃ n : Int, v = .int n ∧ 0 ≤ n ∧ n < 2 ^ 63 ∧ Q (.int n) H') E
theorem call_lenI (m : Meth X.K C "__len__" f) (F : FnOk X.prog X.w X.K X.mg X.base CX k f fd ps sp) (hr : Room (k + 1) X.A) (hb : Binds X.K fd ps []) (hx : Passes CX X E) : CallR X (.builtin "len") (rLenI C sp E) := by
  intro pins s σ H xs us Q I r h
  obtain ⟨a, dx, fs, rfl, ho, q⟩ := h
  obtain ⟨u, rfl, ru⟩ := vals1 r
  cases ru
  obtain ⟨ox, od, J⟩ := inst_of I ho
  obtain ⟨mf, hF⟩ := I.fr
  refine PySem.W.len_K hF I.ok.mod.kin J m.at_ m.fn (thn (run_sub (A1 := X.A.in1) (us := [.ref a]) (vs := [.ref a]) (stack_of I) F hr.in1 hb hx I (.cons rfl .nil) q) fun r s' z => ?_)
  obtain ⟨z1, H1, I1, r1, n, rfl, h0, h1, q1⟩ := z
  obtain ⟨t, rfl⟩ := r1
  exact ⟨⟨h0, h1⟩, .int n, H1, I1.tok _, ⟨_, rfl⟩, q1⟩
/-- str(o) -/
def rStrI (C : Addr) (sp : Sp) (E : XK) : List V → Hp → VK → Prop := fun xs H Q => ∃ a dx fs, xs = [.ref a] ∧ H a = some (.ins C dx fs) ∧ sp [.ref a] H (fun v H' => ∃ z : Str, v = .str z ∧ Q (.str z) H') E
theorem call_strI (m : Meth X.K C "__str__" f) (F : FnOk X.prog X.w X.K X.mg X.base CX k f fd ps sp) (hr : Room (k + 2) X.A) (hb : Binds X.K fd ps []) (hx : Passes CX X E) : CallR X (.type "str") (rStrI C sp E) := by
  intro pins s σ H xs us Q I r h
  obtain ⟨a, dx, fs, rfl, ho, q⟩ := h
  obtain ⟨u, rfl, ru⟩ := vals1 r
  cases ru
  obtain ⟨ox, od, J⟩ := inst_of I ho
  have hr2 : Room k X.A.in1.in1 := hr.in1.in1
  refine PySem.W.kso_call hr2.units0 I.kIn J m.at_ m.fn (thn (run_sub (A1 := X.A.in1.in1) (us := [.ref a]) (vs := [.ref a]) (stack_of I) F hr2 hb hx I (.cons rfl .nil) q) fun r s' z => ?_)
  obtain ⟨z1, H1, I1, r1, y, rfl, q1⟩ := z
  obtain ⟨t, rfl⟩ := r1
  exact ⟨.str y, H1, I1, ⟨_, rfl⟩, q1⟩
end
/-! ### a staticmethod through its class -/
structure SMet (K : PySem.W.Frag) (C : Addr) (mc : Value) (m : Str) (p g : Addr) : Prop where
  at_ : PySem.W.findCls K (.ref C) mc m = some (.get (.builtin "staticmethod.__get__") (.ref p) .none (.ref C))
  rc : ∃ rest, PySem.W.recIn K p "staticmethod" = some (.ref g :: rest)
  kp : PySem.W.keepIn K (.ref g) = true
def tSMeth (C : Addr) (sp : Sp) (E : XK) (ta : TE) (t : TA) : TE := fun σ H Q => ta σ H fun x H1 => x = .ref C ∧ t σ H1 fun vs H2 => sp vs H2 Q E
section
variable {X : Cx} {CX : CXT} {k : Nat} {C p g : Addr} {mc : Value} {fd : FuncData} {ps : List Str} {sp : Sp} {E : XK} {o e : Expr} {es : List Expr} {m : Str} {pos apos : Pos} {ta : TE} {t : TA} {pl : Sem Bool}
theorem getsm_ok {pins : List (Addr × Obj)} {σ : St} {H : Hp} {s : Shared} {A : Around} {E' : Value → Shared → Prop} {Q : Value × List Value → Shared → Prop} (I : Inv X pins σ H s) (r : ClX.CRead X.K C mc) (c : SMet X.K C mc m p g)
    (h : ∀ s', Inv X pins σ H s' → Q (.ref g, []) s') : wpAny (model X.prog X.w) A (getMethod (.ref C) m pl) Q E' s := by
  obtain ⟨rest, hp⟩ := c.rc
  refine PySem.W.method_cls I.kIn r.ga (PySem.W.cls_bind I.kIn r.rd c.at_ (wpAny_call ?_))
  exact PySem.W.sm_get (s := { s with toks := s.toks + 1 }) I.kIn hp (PySem.W.handed_on rfl (h _ (I.tok _)))
theorem pe_smeth (he : PE X o ta) (r : ClX.CRead X.K C mc) (c : SMet X.K C mc m p g) (F : FnOk X.prog X.w X.K X.mg X.base CX k g fd ps sp) (hr : Room k X.A) (hb : Binds X.K fd ps []) (hx : Passes CX X E) (ha : PA X (e :: es) t)
    (hst : starEach (e :: es) X.env = (false, eval e X.env) :: starEach es X.env := by rfl) (hpl : (backTo pos (starEach es X.env)).any (·.1) = false := by rfl)
    (ht : eval (.Call (.Attribute o m apos) (e :: es) [] pos) X.env = (do
      let ov ← eval o X.env
      standAt apos.atName
      let (f, first) ← holding [ov] (getMethod ov m pl)
      callWith pos f first (backTo pos (starEach (e :: es) X.env)) (backToKw pos (keywordEach [] X.env))) := by rfl) :
    PE X (.Call (.Attribute o m apos) (e :: es) [] pos) (tSMeth C sp E ta t) := by
  refine ⟨fun pins s σ H Q I h => PySem.W.methodCall_KW (pl := pl) (thn (he.run pins s σ H _ I h) fun u s1 ⟨x, H1, I1, rx, ex, q⟩ => ?_) ht⟩
  subst ex
  obtain rfl : u = Value.ref C := rx
  refine getsm_ok I1 r c fun s2 I2 => ?_
  refine PySem.W.callWith_K (first := []) (h₀ := X.base) I.ok.mod.kin c.kp (thn (ha.run pos pins s2 σ H1 _ I2 q) fun us s3 ⟨vs, H2, I3, rv, q2⟩ => ⟨I3.kIn, ?_⟩) hst hpl
  exact run_sub (us := us) (vs := vs) (stack_of I3) F hr hb hx I3 rv q2
/-- the same in a try's body: the way out sees the slots -/
def tSMethW (C : Addr) (sp : Sp) (E : St → XK) (ta : TE) (t : TA) : TE := fun σ H Q => tSMeth C sp (E σ) ta t σ H Q
theorem pe_smethW {E : St → XK} (he : PE X o ta) (r : ClX.CRead X.K C mc) (c : SMet X.K C mc m p g) (F : FnOk X.prog X.w X.K X.mg X.base CX k g fd ps sp) (hr : Room k X.A) (hb : Binds X.K fd ps []) (hx : ∀ σ, PassesAt CX X σ (E σ)) (ha : PA X (e :: es) t)
    (hst : starEach (e :: es) X.env = (false, eval e X.env) :: starEach es X.env := by rfl) (hpl : (backTo pos (starEach es X.env)).any (·.1) = false := by rfl)
    (ht : eval (.Call (.Attribute o m apos) (e :: es) [] pos) X.env = (do
      let ov ← eval o X.env
      standAt apos.atName
      let (f, first) ← holding [ov] (getMethod ov m pl)
      callWith pos f first (backTo pos (starEach (e :: es) X.env)) (backToKw pos (keywordEach [] X.env))) := by rfl) :
    PE X (.Call (.Attribute o m apos) (e :: es) [] pos) (tSMethW C sp E ta t) := by
  refine ⟨fun pins s σ H Q I h => PySem.W.methodCall_KW (pl := pl) (thn (he.run pins s σ H _ I h) fun u s1 ⟨x, H1, I1, rx, ex, q⟩ => ?_) ht⟩
  subst ex
  obtain rfl : u = Value.ref C := rx
  refine getsm_ok I1 r c fun s2 I2 => ?_
  refine PySem.W.callWith_K (first := []) (h₀ := X.base) I.ok.mod.kin c.kp (thn (ha.run pos pins s2 σ H1 _ I2 q) fun us s3 ⟨vs, H2, I3, rv, q2⟩ => ⟨I3.kIn, ?_⟩) hst hpl
  exact run_fnSD (us := us) (vs := vs) F hr hb .nil (hx σ) I3 rv (by rw [List.append_nil]; exact q2)
end
end L2

namespace L2
open PySem PySem.Spec PyProof.Rows
/-! ### for x in o, o's __iter__ gives iter(o.f), f a list -/
section
variable {P : Program} {w : World} {K : PySem.W.Frag} {mg : Str → Option Value} {base : Heap} {x qual : Str} {st : Stmt} {f : Addr} {fd : FuncData} {N ps : List Str} {k : Nat}
/-- one call of a def, told from its state -/
theorem fn_here {A : Around} {outer : List Env} {s : Shared} {H : Hp} {us : List Value} {vs : List V} {Q : VK} {E : XK} (F : Fun K x qual st f fd) (S : FnScope N ps (defScope st)) (hb : Binds K fd ps []) (hr : Room (k + 1) A) (e0 : Env0 P w K mg base A outer s H)
    (r : Vals vs us) (hl : vs.length = ps.length)
    (body : ∀ cdv, Room k (A.deeper (envOfC qual (defScope st) s.heap.objs.size f cdv)) → ∃ t, PSs (cxOf CX0 P w K mg base N qual (defScope st) f cdv A outer s H E).nox (defBody st) t ∧ t { nx := fun _ H' => Q .non H', rt := Q } (start N vs) H) :
    codeAny (model P w) A (.call (.ref f) ⟨us, []⟩) (CR CX0 outer P w H s Q E) s := by
  obtain ⟨oc, od, kV, doc, pm, an, cdv, ct, osl, rfl, lk, hcd⟩ := F.ex
  have KX : K.In s.heap := PySem.W.Frag.In.keeps e0.mod.kin (fun b o q => (e0.bs b o q).1)
  have NL : s.heap.NoLimit := Heap.NoLimit.keeps e0.mod.nolimit (fun b o q => (e0.bs b o q).1)
  have lu : (us ++ []).length = ps.length := by rw [List.append_nil, ← r.length, hl]
  have bt := hb s us KX lu
  rw [List.append_nil] at bt
  obtain ⟨t, ht, hq⟩ := body cdv (hr.deeper _)
  refine codeAny_call_function hr.depth (KX _ _ lk) rfl S.co S.gen rfl (PySem.W.codeRec_of KX hcd) (bt _ _ _ _ (wpAny_newFunctionEnv_cells S.kind ?_ ?_))
  · intro y hy
    have m := (List.of_mem_zip (a := y.1) (b := y.2) hy).1
    exact (S.par y.1 m).elim .inl fun z => .inr ⟨z, PySem.W.cellsFrom_some _ _ _ (.inl z)⟩
  · intro env he s1 ic
    subst he
    have I : Inv (cxOf CX0 P w K mg base N qual (defScope st) f cdv A outer s H E) [] (start N vs) H s1 := inv_start S hr.hd e0 hl r ic
    refine ⟨NL.keeps ic.toInCall.keep, codeAny_func (wpAny_mono (ht.nox.run [] s1 (start N vs) H _ I hq) (fun fl s' z => ?_) fun _ _ z => z)⟩
    match fl, z with
    | .ret u, ⟨v, _, H', J, rv, q⟩ => exact ⟨v, H', J.os, J.bare, J.base, J.hok, rv, q⟩
    | .next, ⟨_, H', J, q⟩ => exact ⟨V.non, H', J.os, J.bare, J.base, J.hok, rfl, q⟩
    | .brk, ⟨_, _, _, q⟩ => exact q.elim
    | .cont, ⟨_, _, _, q⟩ => exact q.elim
/-- what such an __iter__ promises: a new iterator of the list, younger than the call -/
def IterOk (P : Program) (w : World) (K : PySem.W.Frag) (mg : Str → Option Value) (base : Heap) (k : Nat) (g C : Addr) (fl : Str) : Prop :=
  ∀ (A : Around) (outer : List Env) (s : Shared) (H : Hp) (a dx l : Addr) (fs : List (Str × V)) (xs : List V) (Q : VK) (E : XK), Room k A → Env0 P w K mg base A outer s H → H a = some (.ins C dx fs) → fs.lookup fl = some (.ref l) → SqL K H l xs →
    (∀ it, H it = none → s.heap.objs.size ≤ it → Q (.ref it) (upd H it (ItO l it 0))) → codeAny (model P w) A (.call (.ref g) ⟨[.ref a], []⟩) (CR CX0 outer P w H s Q E) s
end
def iOwn (K : PySem.W.Frag) (C : Addr) (f : Str) (tl : TE) : TI := fun σ H R => tl σ H fun x H1 => ∃ (a dx l : Addr) (fs : List (Str × V)) (xs : List V), x = .ref a ∧ H1 a = some (.ins C dx fs) ∧ fs.lookup f = some (.ref l) ∧ SqL K H1 l xs ∧ R (Itl K l) H1
section
variable {X : Cx} {tg o : Expr} {tl : TE} {k : Nat} {g C : Addr} {fl : Str}
theorem pi_own (m : Meth X.K C "__iter__" g) (F : IterOk X.prog X.w X.K X.mg X.base k g C fl) (hr : Room k X.A) (ho : PE X o tl) : PI X tg o (iOwn X.K C fl tl) := by
  refine ⟨fun pins s σ H R I h => thn (ho.run pins s σ H _ I h) fun v s1 ⟨x, H1, I1, r1, a, dx, l, fs, xs, ex, ha, hf, hq, q⟩ => ?_⟩
  subst ex
  cases r1
  obtain ⟨ox, od, J⟩ := inst_of I1 ha
  obtain ⟨mf, hF⟩ := I1.fr
  refine PySem.W.owit_iter hF I1.ok.mod.kin J m.at_ m.fn (wpAny_call (codeAny_mono (F X.A X.stack s1 H1 a dx l fs xs (fun v H2 => ∃ it, v = .ref it ∧ H1 it = none ∧ s1.heap.objs.size ≤ it ∧ H2 = upd H1 it (ItO l it 0)) E0 hr I1.env0 ha hf hq fun it n1 n2 => ⟨it, rfl, n1, n2, rfl⟩) fun r s' z => ?_))
  match r, z with
  | .error _, z => exact z.elim
  | .ok (.ret u), z =>
    obtain ⟨v2, H2, I2, r2, it, rfl, n1, n2, rfl⟩ := I1.after z
    cases r2
    have eo := itO_get I2 upd_same
    have hT : s'.TypeIs (.ref it) "list_iterator" := ⟨_, eo, rfl⟩
    have I3 := ItX.inv_drop I2 (a := it) (by rw [upd_same]; rfl)
    rw [ItX.dropH_upd n1] at I3
    refine wpAny_specialOf (name := Str.ofString "__next__") hT slot_listiter_next.lookup ?_
    refine ⟨it, [it], _, _, H1, rfl, I3, turn_list l it, ⟨_, eo, rfl, rfl⟩, fun b hb => ?_, q⟩
    obtain rfl : b = it := by simpa using hb
    exact I1.fpOk n2 n1
end
end L2

namespace L2
open PySem PySem.Spec PyProof.Rows
/-! ### defs with *rest, instances made by C(), C(*a), C(*a, *b) -/
/-- what a def with ps and *pv binds -/
def StarB (fd : FuncData) (ps : List Str) (pv : Str) : Prop := ∀ us rest : List Value, us.length = ps.length → bindArgs fd ⟨us ++ rest, []⟩ = (newTuple rest >>= fun t => pure (ps.zip us ++ [(pv, t)]))
/-- its promise: from that of its body, the rest as a new tuple -/
def spStar (n : Nat) (sp : Sp) : Sp := fun vs H Q E => ∃ ws rest, vs = ws ++ rest ∧ ws.length = n ∧ rest.length ≤ sizeLine ∧ ∀ p, H p = none → sp (ws ++ [V.ref p]) (upd H p (.tup rest)) Q E
section
variable {P : Program} {w : World} {K : PySem.W.Frag} {mg : Str → Option Value} {base : Heap} {x qual : Str} {st : Stmt} {f : Addr} {fd : FuncData} {N ps : List Str} {pv : Str} {k : Nat} {sp : Sp}
theorem Fun.starX (F : Fun K x qual st f fd) (S : FnScope N (ps ++ [pv]) (defScope st)) (hb : StarB fd ps pv)
    (body : ∀ (cdv : Value) (A : Around) (outer : List Env) (s : Shared) (H : Hp) (vs : List V) (Q : VK) (E : XK), Room k (A.deeper (envOfC qual (defScope st) s.heap.objs.size f cdv)) → sp vs H Q E →
      ∃ t, PSs (cxOf (L2.CX P w) P w K mg base N qual (defScope st) f cdv A outer s H E) (defBody st) t ∧ t { nx := fun _ H' => Q .non H', rt := Q } (start N vs) H) : FnR P w K mg base (L2.CX P w) (k + 1) f (spStar ps.length sp) := by
  obtain ⟨oc, od, kV, doc, pm, an, cdv, ct, osl, rfl, lk, hcd⟩ := F.ex
  exact StX.fn_star lk hcd S StX.cxUp hb fun A outer s H vs Q E hr h => body cdv A outer s H vs Q E hr h
theorem FnR.calm (F : FnR P w K mg base (L2.CX P w) k f sp) : FnR P w K mg base CX0 k f (fun vs H Q _ => sp vs H Q fun _ _ _ => False) := fun A outer s H us vs Q _ hr e0 r h =>
  codeAny_mono (F A outer s H us vs Q _ hr e0 r h) fun r s' hq => by
    match r, hq with
    | .error _, ⟨_, _, _, _, _, _, _, _, _, _, _, _, z⟩ => exact z.elim
    | .ok (.ret _), hq => exact hq
end
/-- two starred arguments -/
theorem evalArgs_two {M : Model} {A : Around} {E : Value → Shared → Prop} {s : Shared} {f : Value} {a b : Bool × Sem Value} {rest : List (Bool × Sem Value)} {Q : Args → Shared → Prop} (h : wpAny M A (spliced (a :: b :: rest)) (fun vs s' => Q ⟨vs, []⟩ s') E s) : wpAny M A (evalArgs f true (a :: b :: rest) []) Q E s := by
  obtain ⟨a1, a2⟩ := a
  unfold evalArgs
  cases a1
  · show wpAny M A (spliced ((false, a2) :: b :: rest) >>= _) Q E s
    exact wpAny_bind (wpAny_mono h (fun vs s' q => wpAny_holding (wpAny_bind (wpAny_pure (wpAny_bind (wpAny_pure (wpAny_pure q)))))) fun _ _ z => z)
  · show wpAny M A (spliced ((true, a2) :: b :: rest) >>= _) Q E s
    exact wpAny_bind (wpAny_mono h (fun vs s' q => wpAny_holding (wpAny_bind (wpAny_pure (wpAny_bind (wpAny_pure (wpAny_pure q)))))) fun _ _ z => z)
section
variable {X : Cx} {CX : CXT} {k : Nat} {f C : Addr} {sp : Sp} {E : XK} {x : Str} {e e1 e2 : Expr} {es : List Expr} {te : TE} {t : TA} {p q1 q2 pos : Pos}
theorem pe_makeR0 (M : Mk X.K C f) (F : FnR X.prog X.w X.K X.mg X.base CX k f sp) (hr : Room (k + 1) X.A) (hg : Gl X x) (hm : X.mg x = some (.ref C)) (hx : Passes CX X E) (hdb : (x == ("__debug__" : Str)) = false := by decide) :
    PE X (.Call (.Name x p) [] [] pos) (StX.tMakeR C sp E tNil) := by
  refine ⟨fun pins s σ H Q I h => wpAny_Call_Name_kw (ld_glob I hg hm ?_ hdb)⟩
  exact PySem.W.callWith_K0 I.kIn M.kp (StX.run_makeR (us := []) (vs := []) M F hr hx I .nil h)
/-- C(*e): the reading -/
def tMakeS (K : PySem.W.Frag) (C : Addr) (sp : Sp) (E : XK) (te : TE) : TE := fun σ H Q => te σ H fun y H1 => ∃ a xs, y = V.ref a ∧ (SqT K H1 a xs ∨ SqL K H1 a xs) ∧ ∀ x dx, H1 x = none → H1 dx = none → dx ≠ x → sp (V.ref x :: xs) (upd (upd H1 dx (.own x)) x (.ins C dx [])) (fun v H2 => v = .non ∧ Q (.ref x) H2) E
theorem pe_makeS1 (M : Mk X.K C f) (F : FnR X.prog X.w X.K X.mg X.base CX k f sp) (hr : Room (k + 1) X.A) (hg : Gl X x) (hm : X.mg x = some (.ref C)) (hx : Passes CX X E) (he : PE X e te) (hdb : (x == ("__debug__" : Str)) = false := by decide)
    (hst : starEach [.Starred e q1] X.env = [(true, eval e X.env)] := by rfl) : PE X (.Call (.Name x p) [.Starred e q1] [] pos) (tMakeS X.K C sp E te) := by
  refine ⟨fun pins s σ H Q I h => wpAny_Call_Name_kw (ld_glob I hg hm (PySem.W.callWith_S (h₀ := X.base) I.ok.mod.kin M.kp (thn (he.run pins s σ H _ I h) fun v s1 ⟨y, H1, I1, ry, a, xs, ey, hxs, q⟩ => ?_) hst) hdb)⟩
  subst ey
  cases ry
  exact StX.star_any I1 hxs fun us s2 I2 rv => ⟨I2.kIn, StX.run_makeR (us := us) (vs := xs) M F hr hx I2 rv q⟩
/-- C(*a, *b) -/
theorem pe_makeS2 (M : Mk X.K C f) (F : FnR X.prog X.w X.K X.mg X.base CX k f sp) (hr : Room (k + 1) X.A) (hg : Gl X x) (hm : X.mg x = some (.ref C)) (hx : Passes CX X E) (ha : PA X [.Starred e1 q1, .Starred e2 q2] t) (hdb : (x == ("__debug__" : Str)) = false := by decide)
    (hst : starEach [.Starred e1 q1, .Starred e2 q2] X.env = [(true, eval e1 X.env), (true, eval e2 X.env)] := by rfl) : PE X (.Call (.Name x p) [.Starred e1 q1, .Starred e2 q2] [] pos) (StX.tMakeR C sp E t) := by
  refine ⟨fun pins s σ H Q I h => wpAny_Call_Name_kw (ld_glob I hg hm ?_ hdb)⟩
  have z := thn (ha.run pos pins s σ H _ I h) (Q' := fun us s1 => X.K.In s1.heap ∧ wpAny (model X.prog X.w) X.A (call (.ref C) ([] ++ us)) (EP X pins σ Q) X.xe s1) fun us s1 ⟨vs, H1, I1, r, q⟩ => ⟨I1.kIn, StX.run_makeR (us := us) (vs := vs) M F hr hx I1 r q⟩
  show wpAny _ _ (callWith pos (.ref C) [] (backTo pos (starEach [.Starred e1 q1, .Starred e2 q2] X.env)) []) _ _ _
  rw [hst] at z ⊢
  exact PySem.W.ks_call rfl (PySem.W.keeps_K M.kp) (evalArgs_two z)
end
/-! ### o + y by the class's own def, y an instance of the class, a list or a tuple -/
def Opd (K : PySem.W.Frag) (C : Addr) (H : Hp) (y : V) : Prop := (∃ b dy gs, y = .ref b ∧ H b = some (.ins C dy gs)) ∨ ∃ b xs, y = .ref b ∧ (SqL K H b xs ∨ SqT K H b xs)
def rOpI (K : PySem.W.Frag) (C : Addr) (sp : Sp) (E : XK) : R2 := fun x y H Q => ∃ a dx fs, x = .ref a ∧ H a = some (.ins C dx fs) ∧ Opd K C H y ∧ sp [x, y] H Q E
/-- what the top must have: the two defs, and of lists and tuples -/
structure OpF (K : PySem.W.Frag) (C : Addr) (nm : String) (g : Addr) : Prop where
  first : PySem.W.selfFirst K C = true
  at_ : PySem.W.findIn K (.ref C) (PySem.dunder nm) = some (some (.ref g))
  fn : PySem.W.isFn K (.ref g) = true
  rev : ∃ rc, PySem.W.findIn K (.ref C) (PySem.dunderR nm) = some rc ∧ (rc = none ∨ ∃ h : Addr, rc = some (.ref h))
  lst : ∃ fo ro, PySem.W.findIn K (.type "list") (PySem.dunder nm) = some fo ∧ PySem.W.findIn K (.type "list") (PySem.dunderR nm) = some ro ∧ PySem.W.subIn K (.type "list") (.ref C) = some false
  tup : ∃ fo ro, PySem.W.findIn K (.type "tuple") (PySem.dunder nm) = some fo ∧ PySem.W.findIn K (.type "tuple") (PySem.dunderR nm) = some ro ∧ PySem.W.subIn K (.type "tuple") (.ref C) = some false
section
variable {prog : Program} {w : World} {A : Around} {E : Value → Shared → Prop} {s : Shared} {K : PySem.W.Frag} {x C L f : Addr} {h₀ : Heap} {m : Str → Option Value} {ox : Obj} {od : Option Obj} {T : String}
/-- the library's row for an operand of a built-in type, told of what a look at its type gives -/
theorem binL {op : Operator} {b : Value} {fo ro rc : Option Value} {Q : Value → Shared → Prop} (F : Fr h₀ L s.heap m) (X₀ : K.In h₀) (I : PySem.W.InstAt s.heap x ox C od) (hb : PySem.W.Looks (model prog w) s.heap (typeOf b) (.type T)) (hc : PySem.W.selfFirst K C = true)
    (hs : PySem.W.findIn K (.ref C) (PySem.dunder op.info.2) = some (some (.ref f))) (hf : PySem.W.isFn K (.ref f) = true) (hr : PySem.W.findIn K (.ref C) (dunderR op.info.2) = some rc) (hp : rc = none ∨ ∃ g : Addr, rc = some (.ref g))
    (h1 : PySem.W.findIn K (.type T) (PySem.dunder op.info.2) = some fo) (h2 : PySem.W.findIn K (.type T) (dunderR op.info.2) = some ro) (hsub : PySem.W.subIn K (.type T) (.ref C) = some false)
    (h : wpAny (model prog w) A (call (.ref f) [.ref x, b]) (PySem.W.CmpBack Q) E s) : wpAny (model prog w) A (binaryOp op (.ref x) b) Q E s := by
  have X := X₀.keeps F.keep
  obtain ⟨cd, rest, hcd, hm⟩ := PySem.W.ksp_first hc
  rcases hi : op.info with ⟨sym, nm'⟩
  rw [hi] at hs hr h1 h2; dsimp only at hs hr h1 h2
  have one := PySem.W.ksp_try X I hs hf h
  obtain ⟨hh, gg, dd, tt, os⟩ := s
  have La := I.type (M := model prog w)
  have Lc := PySem.W.fills_K (M := model prog w) X hcd hm hs
  have Ld := PySem.W.ksp_fillsT (M := model prog w) X h1 h2
  have Le : PySem.W.Looks (model prog w) hh (isSubtype (.type T) (.ref C)) false := PySem.W.looks_subIn X hsub
  have Lf := PySem.W.ksp_inPy (M := model prog w) X hs hr hp
  have Lg : PySem.W.Looks (model prog w) hh (numberSlotInPython (.type T) nm') false := PySem.W.Looks.of_pure rfl
  have Lh : PySem.W.Looks (model prog w) hh (typeLookup (.type T) (dunderR nm')) ro := PySem.W.looks_findIn X h2
  revert Ld
  generalize ((fo.isSome && !isSeqSlot fo) || (ro.isSome && !isSeqSlot ro)) = right
  intro Ld
  have hne : (Value.ref C == Value.type T) = false := Bool.eq_false_iff.mpr fun q => by cases beq_iff_eq.mp q
  simp only [binaryOp, hi]
  refine wpAny_holding (wpAny_bind ?_)
  unfold binaryOp1
  refine wpAny_bind (La.at (wpAny_bind (hb.at (wpAny_bind (Lc.at ?_)))))
  simp only [hne, Bool.false_eq_true, if_false]
  cases right <;> (ksp_lk; refine wpAny_mono one (fun r s' hr' => ?_) (fun _ _ e => e); obtain ⟨v, rfl, hq⟩ := hr'; ksp_lk; exact hq)
end
section
variable {X : Cx} {CX : CXT} {n : Nat} {C g : Addr} {fd : FuncData} {ps : List Str} {sp : Sp} {E : XK}
theorem op_binO {op : Operator} (T : OpF X.K C op.info.2 g) (F : FnOk X.prog X.w X.K X.mg X.base CX n g fd ps sp) (hr : Room n X.A) (hb : Binds X.K fd ps []) (hx : Passes CX X E) : OpR X (binaryOp op) (rOpI X.K C sp E) := by
  intro pins s σ H x y v u Q I rx ry h
  obtain ⟨a, dx, fs, rfl, ho, hy, q⟩ := h
  cases rx
  obtain ⟨ox, od, J⟩ := inst_of I ho
  obtain ⟨mf, hF⟩ := I.fr
  have go := thn (run_sub (us := [.ref a, u]) (vs := [.ref a, y]) (stack_of I) F hr hb hx I (.cons rfl (.cons ry .nil)) q) (Q' := PySem.W.CmpBack (EP X pins σ Q)) fun w s' ⟨z', H', I', rz, qz⟩ => SlX.cmpback rz ⟨z', H', I', rz, qz⟩
  rcases hy with ⟨b, dy, gs, rfl, hb'⟩ | ⟨b, xs, rfl, hq⟩
  · cases ry
    obtain ⟨oy, od', J'⟩ := inst_of I hb'
    exact PySem.W.binop_K (op := op) hF I.ok.mod.kin J J'.type T.first T.at_ T.fn go
  · cases ry
    obtain ⟨rc, r1, r2⟩ := T.rev
    rcases hq with hq | hq
    · obtain ⟨fo, ro, t1, t2, t3⟩ := T.lst
      obtain ⟨its, rv, pl, hz⟩ := I.list hq
      obtain ⟨o, ho, hc, _⟩ := pl.isList
      exact binL hF I.ok.mod.kin J (fun A Q E s k z => wpAny_typeOf_ref (k _ _ ho) (by rw [hc]; exact z)) T.first T.at_ T.fn r1 r2 t1 t2 t3 go
    · obtain ⟨fo, ro, t1, t2, t3⟩ := T.tup
      obtain ⟨its, rv, ⟨o, ho, hc, _⟩, hz⟩ := I.tuple hq
      exact binL hF I.ok.mod.kin J (fun A Q E s k z => wpAny_typeOf_ref (k _ _ ho) (by rw [hc]; exact z)) T.first T.at_ T.fn r1 r2 t1 t2 t3 go
end
end L2

namespace L2
open PySem PySem.Spec PyProof.Rows
/-! ### o[k] by the class's own def, in a try's body -/
section
variable {X : Cx} {CX : CXT} {k : Nat} {f C a dx : Addr} {fs : List (Str × V)} {fd : FuncData} {ps : List Str} {sp : Sp} {pins : List (Addr × Obj)} {σ : St} {H : Hp} {s : Shared} {Q : VK} {us : List Value} {vs : List V}
theorem run_subW {E : XK} {A1 : Around} (hf : A1.frames = some X.stack) (F : FnOk X.prog X.w X.K X.mg X.base CX k f fd ps sp) (hr : Room k A1) (hb : Binds X.K fd ps []) (hx : PassesAt CX X σ E) (I : Inv X pins σ H s) (r : Vals vs us) (h : sp vs H Q E) :
    wpAny (model X.prog X.w) A1 (call (.ref f) us) (EP X pins σ Q) X.xe s := by
  have hl : (us ++ []).length = ps.length := by rw [List.append_nil, ← r.length]; exact F.len _ _ _ _ h
  have e := I.env0
  have bt := hb s us I.kIn hl
  rw [List.append_nil] at bt
  refine wpAny_call (codeAny_mono (F.run A1 X.stack s H ⟨us, []⟩ us vs Q E hr ⟨hf, e.mod, e.bs, e.bsz, e.funs, e.frf, e.hok, e.bare⟩ bt r h) fun r s' hq => ?_)
  match r, hq with
  | .error e, hq => exact hx pins H s e s' I hq
  | .ok (.ret u), hq => exact I.after hq
def tGetIW (C : Addr) (sp : Sp) (E : St → XK) (ta tb : TE) : TE := fun σ H Q => tOp (rGetI C sp (E σ)) ta tb σ H Q
theorem pe_getIW {E : St → XK} {ea eb : Expr} {ta tb : TE} {pos : Pos} (m : Meth X.K C "__getitem__" f) (hfi : PySem.W.fnIn X.K f = true) (F : FnOk X.prog X.w X.K X.mg X.base CX k f fd ps sp) (hr : Room (k + 1) X.A) (hb : Binds X.K fd ps []) (hx : ∀ σ, PassesAt CX X σ (E σ))
    (ha : PE X ea ta) (hbe : PE X eb tb) (hsl : ∀ (x : Addr) (i : Value), subscripted eb true (.ref x) i = runValue (.builtin "lifetime.subscript" ⟨[.ref x, i], []⟩) := by intro _ _; with_unfolding_all rfl) : PE X (.Subscript ea eb pos) (tGetIW C sp E ta tb) := by
  refine ⟨fun pins s σ H Q I h => ?_⟩
  refine Subscript_ (binT ha hbe I h fun v u s2 x y H2 I2 rx ry q => ?_)
  obtain ⟨a, dx, fs, rfl, ho, q⟩ := q
  cases rx
  obtain ⟨ox, od, J⟩ := inst_of I2 ho
  obtain ⟨mf, hF⟩ := I2.fr
  exact PySem.W.sub_K hF I2.ok.mod.kin J m.at_ hfi m.fn (run_subW (A1 := X.A.in1) (us := [.ref a, u]) (vs := [.ref a, y]) (stack_of I2) F hr.in1 hb (hx σ) I2 (.cons rfl (.cons ry .nil)) q) (hsl a u)
end
end L2
namespace L2
open PySem PySem.Spec PyProof.Rows
/-! ### a try within a loop: its reading by a name -/
def tTryAs (K : PySem.W.Frag) (c : Value) (i : Nat) (tb : WX → TS) (ts : Addr → Value → Option Addr → TS) (Wout : WX) : TS := fun D σ H => tb (wAs K c i ts Wout D) D σ H
section
variable {X : Cx} {x n : Str} {c : Value} {i : Nat} {body suite : List Stmt} {b₀ : Stmt} {np pos pos' : Pos} {tb : WX → TS} {ts : Addr → Value → Option Addr → TS} {Wout : WX}
theorem ps_tryL (hs : X.stack = X.env :: X.outer) (hf : X.env.frame = some X.env.locals) (hN : X.N.Nodup) (hi : X.N[i]? = some n) (hln : X.env.kindOf n = some .local) (hc : Names X x c) (tk : Takes X Wout)
    (hb : ∀ (W : WX) (pn : List (Addr × Obj)) (xe : Value → Shared → Prop), Takes (X.tr pn xe) W → PassesOwn (model X.prog X.w) X.A X.env xe → PSs (X.tr pn xe) body (tb W))
    (hsu : ∀ (a : Addr) (oe : Obj) (cls : Value) (d : Option Addr) (pn : List (Addr × Obj)), Zc cls d oe → (∃ vs, oe.data = .fields vs) → PSs (X.suite a ((a, oe) :: pn)) (b₀ :: suite) (ts a cls d)) :
    PS X (.Try body [.ExceptHandler (some (.Name x np)) (some n) (b₀ :: suite) pos'] [] [] pos) (tTryAs X.K c i tb ts Wout) := ps_try_as hs hf hN hi hln hc tk hb hsu
end
end L2

namespace L2
open PySem PySem.Spec PyProof.Rows
section
variable {prog : Program} {w : World} {A : Around} {E : Value → Shared → Prop} {s : Shared} {K : PySem.W.Frag} {x C L f f0 : Addr} {h₀ : Heap} {m : Str → Option Value} {ox : Obj} {od : Option Obj} {T : String}
/-- a + o, a of a built-in type that fills no number slot: o's own reflected def -/
theorem binR {op : Operator} {a : Value} {fo ro : Option Value} {Q : Value → Shared → Prop} (F : Fr h₀ L s.heap m) (X₀ : K.In h₀) (I : PySem.W.InstAt s.heap x ox C od) (ha : PySem.W.Looks (model prog w) s.heap (typeOf a) (.type T)) (hc : PySem.W.selfFirst K C = true)
    (hs : PySem.W.findIn K (.ref C) (PySem.dunder op.info.2) = some (some (.ref f0))) (hr : PySem.W.findIn K (.ref C) (dunderR op.info.2) = some (some (.ref f))) (hf : PySem.W.isFn K (.ref f) = true)
    (h1 : PySem.W.findIn K (.type T) (PySem.dunder op.info.2) = some fo) (h2 : PySem.W.findIn K (.type T) (dunderR op.info.2) = some ro) (hl : ((fo.isSome && !isSeqSlot fo) || (ro.isSome && !isSeqSlot ro)) = false)
    (h : wpAny (model prog w) A (call (.ref f) [.ref x, a]) (PySem.W.CmpBack Q) E s) : wpAny (model prog w) A (binaryOp op a (.ref x)) Q E s := by
  have X := X₀.keeps F.keep
  obtain ⟨cd, rest, hcd, hm⟩ := PySem.W.ksp_first hc
  rcases hi : op.info with ⟨sym, nm'⟩
  rw [hi] at hs hr h1 h2; dsimp only at hs hr h1 h2
  have one := PySem.W.ksp_try X I hr hf h
  obtain ⟨hh, gg, dd, tt, os⟩ := s
  have La := I.type (M := model prog w)
  have Lc := PySem.W.fills_K (M := model prog w) X hcd hm hs
  have Ld := PySem.W.ksp_fillsT (M := model prog w) X h1 h2
  rw [hl] at Ld
  have hne : (Value.type T == Value.ref C) = false := Bool.eq_false_iff.mpr fun q => by cases beq_iff_eq.mp q
  simp only [binaryOp, hi]
  refine wpAny_holding (wpAny_bind ?_)
  unfold binaryOp1
  refine wpAny_bind (ha.at (wpAny_bind (La.at (wpAny_bind (Ld.at ?_)))))
  simp only [hne, Bool.false_eq_true, if_false]
  ksp_lk
  refine wpAny_mono one (fun r s' hr' => ?_) (fun _ _ e => e)
  obtain ⟨v, rfl, hq⟩ := hr'
  ksp_lk
  exact hq
end
/-- what list and tuple look like to + -/
structure SeqAdd (K : PySem.W.Frag) : Prop where
  la : PySem.W.findIn K (.type "list") "__add__" = some (some (.builtin "list.__add__"))
  lr : PySem.W.findIn K (.type "list") "__radd__" = some none
  ta : PySem.W.findIn K (.type "tuple") "__add__" = some (some (.builtin "tuple.__add__"))
  tr : PySem.W.findIn K (.type "tuple") "__radd__" = some none
def rOpR (K : PySem.W.Frag) (C : Addr) (sp : Sp) (E : XK) : R2 := fun x y H Q => ∃ b dy gs p xs, y = .ref b ∧ H b = some (.ins C dy gs) ∧ x = .ref p ∧ (SqL K H p xs ∨ SqT K H p xs) ∧ sp [y, x] H Q E
def ipOwn (C : Addr) (sp : Sp) (E : XK) : TIp := fun x y H Q => ∃ a dx fs, x = .ref a ∧ H a = some (.ins C dx fs) ∧ sp [x, y] H Q E
section
variable {X : Cx} {CX : CXT} {n : Nat} {C g g0 : Addr} {fd : FuncData} {ps : List Str} {sp : Sp} {E : XK}
theorem op_radd (S : SeqAdd X.K) (hc : PySem.W.selfFirst X.K C = true) (m0 : Meth X.K C "__add__" g0) (m : Meth X.K C "__radd__" g) (F : FnOk X.prog X.w X.K X.mg X.base CX n g fd ps sp) (hr : Room n X.A) (hb : Binds X.K fd ps []) (hx : Passes CX X E) : OpR X (binaryOp .Add) (rOpR X.K C sp E) := by
  intro pins s σ H x y v u Q I rx ry h
  obtain ⟨b, dy, gs, p, xs, rfl, ho, rfl, hq, q⟩ := h
  cases ry
  cases rx
  obtain ⟨ox, od, J⟩ := inst_of I ho
  obtain ⟨mf, hF⟩ := I.fr
  have go := thn (run_sub (us := [.ref b, .ref p]) (vs := [.ref b, .ref p]) (stack_of I) F hr hb hx I (.cons rfl (.cons rfl .nil)) q) (Q' := PySem.W.CmpBack (EP X pins σ Q)) fun w s' ⟨z', H', I', rz, qz⟩ => SlX.cmpback rz ⟨z', H', I', rz, qz⟩
  rcases hq with hq | hq
  · obtain ⟨its, rv, pl, hz⟩ := I.list hq
    obtain ⟨o, ho, hc', _⟩ := pl.isList
    exact binR (op := .Add) hF I.ok.mod.kin J (fun A Q E s k z => wpAny_typeOf_ref (k _ _ ho) (by rw [hc']; exact z)) hc m0.at_ m.at_ m.fn S.la S.lr (by decide +kernel) go
  · obtain ⟨its, rv, ⟨o, ho, hc', _⟩, hz⟩ := I.tuple hq
    exact binR (op := .Add) hF I.ok.mod.kin J (fun A Q E s k z => wpAny_typeOf_ref (k _ _ ho) (by rw [hc']; exact z)) hc m0.at_ m.at_ m.fn S.ta S.tr (by decide +kernel) go
theorem ip_own (hc : PySem.W.selfFirst X.K C = true) (m : Meth X.K C "__iadd__" g) (F : FnOk X.prog X.w X.K X.mg X.base CX n g fd ps sp) (hr : Room n X.A) (hb : Binds X.K fd ps []) (hx : Passes CX X E) : PIp X .Add (ipOwn C sp E) := by
  intro pins s σ H x y v u Q I rx ry h
  obtain ⟨a, dx, fs, rfl, ho, q⟩ := h
  cases rx
  obtain ⟨ox, od, J⟩ := inst_of I ho
  obtain ⟨mf, hF⟩ := I.fr
  have go := thn (run_sub (us := [.ref a, u]) (vs := [.ref a, y]) (stack_of I) F hr hb hx I (.cons rfl (.cons ry .nil)) q) (Q' := PySem.W.CmpBack (EP X pins σ Q)) fun w s' ⟨z', H', I', rz, qz⟩ => SlX.cmpback rz ⟨z', H', I', rz, qz⟩
  exact PySem.W.ksp_inplace (op := .Add) hF I.ok.mod.kin J hc m.at_ m.fn go
end
end L2

namespace L2
open PySem PySem.Spec PyProof.Rows
/-! ### C(..) in a try -/
section
variable {X : Cx} {CX : CXT} {k : Nat} {f C : Addr} {fd : FuncData} {ps : List Str} {sp : Sp} {dvs : List V} {ds : List Value} {x : Str} {p pos : Pos} {e : Expr} {es : List Expr} {t : TA}
theorem run_makeW {E : XK} {pins : List (Addr × Obj)} {σ : St} {H : Hp} {s : Shared} {Q : VK} {us : List Value} {vs : List V} (M : Mk X.K C f) (F : FnOk X.prog X.w X.K X.mg X.base CX k f fd ps sp) (hr : Room (k + 1) X.A) (hb : Binds X.K fd ps ds) (hd : Vals dvs ds)
    (hx : PassesAt CX X σ E) (I : Inv X pins σ H s) (r : Vals vs us)
    (h : ∀ x dx, H x = none → H dx = none → dx ≠ x → sp (.ref x :: (vs ++ dvs)) (upd (upd H dx (.own x)) x (.ins C dx [])) (fun v H2 => v = .non ∧ Q (.ref x) H2) E) :
    wpAny (model X.prog X.w) X.A (call (.ref C) us) (EP X pins σ Q) X.xe s := by
  have hq := h (s.heap.objs.size + 1) s.heap.objs.size (I.hok.fresh (Nat.le_succ _)) (I.hok.fresh (Nat.le_refl _)) (Nat.ne_of_lt (Nat.lt_succ_self _))
  have I2 := Inv.made (C := C) I
  have r2 : Vals (V.ref (s.heap.objs.size + 1) :: (vs ++ dvs)) (Value.ref (s.heap.objs.size + 1) :: (us ++ ds)) := .cons rfl (r.append hd)
  have hl : (Value.ref (s.heap.objs.size + 1) :: us ++ ds).length = ps.length := by
    have e := r2.length
    rw [F.len _ _ _ _ hq] at e
    exact e.symm
  refine wpAny_call (make_map (f := f) I.kIn M.makes M.init (beq_iff_eq.mp M.fn) (codeAny_mono (F.run _ X.stack _ _ ⟨Value.ref (s.heap.objs.size + 1) :: us, []⟩ (Value.ref (s.heap.objs.size + 1) :: (us ++ ds)) _ _ E (hr.make C us [])
    (I2.env0.make C us []) (hb _ (Value.ref (s.heap.objs.size + 1) :: us) I2.kIn hl) r2 hq) fun r s' hq' => ?_))
  cases r with
  | error e => exact hx pins _ _ e s' I2 hq'
  | ok fl =>
    cases fl with
    | ret u =>
      obtain ⟨v, H', I3, rv, ev, q3⟩ := I2.after hq'
      subst ev
      exact ⟨rv, ⟨V.ref (s.heap.objs.size + 1), H', I3, rfl, q3⟩⟩
    | next => exact False.elim hq'
    | brk => exact False.elim hq'
    | cont => exact False.elim hq'
def tMakeW (C : Addr) (sp : Sp) (dvs : List V) (E : St → XK) (t : TA) : TE := fun σ H Q => tMake C sp dvs (E σ) t σ H Q
theorem pe_makeW {E : St → XK} (M : Mk X.K C f) (F : FnOk X.prog X.w X.K X.mg X.base CX k f fd ps sp) (hr : Room (k + 1) X.A) (hg : Gl X x) (hm : X.mg x = some (.ref C)) (hb : Binds X.K fd ps ds) (hd : Vals dvs ds) (hx : ∀ σ, PassesAt CX X σ (E σ))
    (ha : PA X (e :: es) t) (hdb : (x == ("__debug__" : Str)) = false := by decide) (he : starEach (e :: es) X.env = (false, eval e X.env) :: starEach es X.env := by rfl) (hpl : (backTo pos (starEach es X.env)).any (·.1) = false := by rfl) :
    PE X (.Call (.Name x p) (e :: es) [] pos) (tMakeW C sp dvs E t) := by
  refine ⟨fun pins s σ H Q I h => ?_⟩
  refine wpAny_Call_Name_kw (ld_glob I hg hm ?_ hdb)
  refine PySem.W.callWith_K (h₀ := X.base) I.ok.mod.kin M.kp (thn (ha.run pos pins s σ H _ I h) fun us s1 ⟨vs, H1, I1, r, q⟩ => ⟨I1.kIn, ?_⟩) he hpl
  exact run_makeW M F hr hb hd (hx σ) I1 r q
end
end L2

namespace L2
open PySem PySem.Spec PyProof.Rows
/-! ### generator defs by their text; list(g) within a try -/
section
variable {P : Program} {w : World} {K : PySem.W.Frag} {mg : Str → Option Value} {base : Heap}
theorem Fun.gen {x qual : Str} {st : Stmt} {f : Addr} {fd : FuncData} {N ps : List Str} {k : Nat} {sp : SpG} (F : Fun K x qual st f fd) (S : GScope N ps (defScope st)) (len : ∀ vs H Q E, sp vs H Q E → vs.length = ps.length)
    (body : ∀ (cdv : Value) (A : Around) (outer : List Env) (s : Shared) (H : Hp) (vs : List V) (Q : List V → Hp → Prop) (E : XK) (pn : List (Addr × Obj)), Room k (A.deeper (envOfC qual (defScope st) s.heap.objs.size f cdv)) → sp vs H Q E →
      ∃ t, GSs (gcxOf P w K mg base N qual (defScope st) f cdv A outer s H E pn) (defBody st) t ∧ t { nx := fun ys _ H' => Q ys H', rt := fun ys v H' => v = .non ∧ Q ys H' } [] (start N vs) H) : GFn P w K mg base (k + 1) f fd ps sp := by
  obtain ⟨oc, od, kV, doc, pm, an, cdv, ct, osl, rfl, lk, hcd⟩ := F.ex
  exact gfn_of lk hcd S len fun A outer s H vs Q E pn hr h => body cdv A outer s H vs Q E pn hr h
end
def tGNever : TGn := fun _ _ _ _ => False
theorem gss_never {X : Cx} {sts : List Stmt} : GSs X sts tGNever := ⟨fun _ _ _ _ _ _ _ _ _ _ _ _ _ _ _ _ _ _ _ _ _ h => h.elim⟩
section
variable {X : Cx} {k : Nat} {p pos : Pos}
theorem kin_cx {pins : List (Addr × Obj)} {σ : St} {H : Hp} {s s' : Shared} {E : XK} {e : Value} (I : Inv X pins σ H s) (c : L2.CX X.prog X.w X.stack H s E e s') : X.K.In s'.heap := by
  obtain ⟨a, B, _, _, _, _, fly, _, u, _⟩ := c
  refine I.ok.mod.kin.keeps fun b o q => fly.1 b o ?_
  obtain ⟨q1, q2⟩ := I.bs b o q
  refine u.keep b o q1 q2 fun m => ?_
  have lt := Nat.lt_of_lt_of_le (Nat.lt_of_lt_of_le (Heap.lt_size q) I.ok.bsz) I.ok.above
  cases List.mem_cons.mp (I.stkSub b m) with
  | inl z => exact Nat.lt_irrefl _ (z ▸ lt)
  | inr z => exact I.ok.nofr q z
/-- no StopIteration among them -/
def NSE (K : PySem.W.Frag) (E : XK) : XK := fun c d H => E c d H ∧ PySem.W.subIn K c (.type "StopIteration") = some false
theorem cx_imp {P : Program} {w : World} {outer : List Env} {H : Hp} {s s' : Shared} {E E' : XK} {e : Value} (h : ∀ c d H, E c d H → E' c d H) (x : L2.CX P w outer H s E e s') : L2.CX P w outer H s E' e s' := by
  obtain ⟨a, B, H', c, d, x1, x2, x3, x4, x5, x6, x7, x8⟩ := x
  exact ⟨a, B, H', c, d, x1, x2, x3, x4, x5, x6, x7, h _ _ _ x8⟩
theorem cx_gen {P : Program} {w : World} {outer : List Env} {H : Hp} {s s' : Shared} {E : XK} {e : Value} {g : Nat} (x : L2.CX P w outer H s E e s') : L2.CX P w outer H s E e (s'.setGen g .finished) := by
  obtain ⟨a, B, H', c, d, x1, x2, x3, x4, x5, x6, x7, x8⟩ := x
  exact ⟨a, B, H', c, d, x1, x2, x3, x4, x5, x6, allBare_setGen x7 rfl, x8⟩
def tListGW (tg : St → TGen) : TE := fun σ H Q => tg σ σ H fun out H2 => ∀ p, H2 p = none → Q (.ref p) (upd H2 p (.lst out))
theorem pe_listGW {e : Expr} {tg : St → TGen} {E : St → XK} {nm : Str} (h : ∀ σ, PGen X k e (tg σ) (NSE X.K (E σ))) (hx : ∀ σ, PassesAt (L2.CX X.prog X.w) X σ (E σ)) (hr : Room (k + 3) X.A) (hg : Gl X nm) (hmg : X.mg nm = none) (hv : bootBuiltins nm = some (.type "list")) (hnm : nm ≠ "__name__" := by decide) (hdb : (nm == ("__debug__" : Str)) = false := by decide)
    (he : starEach [e] X.env = (false, eval e X.env) :: starEach [] X.env := by rfl) : PE X (.Call (.Name nm p) [e] [] pos) (tListGW tg) := by
  refine ⟨fun pins s σ H Q I hq => wpAny_Call_Name_kw (ld_blt I hg hmg hv ?_ hnm hdb)⟩
  refine PyProof.Rows.callWith_type1 ?_ he rfl
  rw [he]
  show wpAny _ _ (spliced ((false, eval e X.env) :: backTo pos (starEach [] X.env))) _ _ s
  refine Calls.spliced_cons (thn ((h σ).run pins s σ H _ I hq) fun u s1 ⟨H1, sc, ex, I1, hex, made⟩ => Calls.spliced_nil ?_)
  have old : sc.heap.objs.size ≤ s1.heap.objs.size := by
    obtain ⟨a, _, _, _, l1, l2, _⟩ := made
    exact Nat.le_of_lt (Nat.lt_of_le_of_lt l1 l2)
  refine call_list_new hr I1.ok.frames made (fun S s' acc c H' ys l q1 q2 q3 q4 q5 q6 q7 q8 q9 => ?_) fun x s' g hc => ?_
  · exact ⟨.ref S, upd H' S (.lst ys), I1.drained (Nat.le_trans old l) q3 q1 q2 hex q4 q5 q6 q7 q8, rfl, q9 S q8⟩
  · exact ⟨notStop_of (fun _ _ _ z => z.2) (kin_cx I1 hc) hc, hx σ pins H1 sc x _ I1 (cx_gen (cx_imp (fun _ _ _ z => z.1) hc))⟩
/-- list(o.m(e, ..)) of a generator method, in a try's body -/
def tListGM (K : PySem.W.Frag) (C : Addr) (m : Str) (sp : SpG) (dvs : List V) (E : St → XK) (ta : TE) (t : TA) : TE := fun σ H Q => tMethG C m sp dvs (NSE K (E σ)) ta t σ H fun out H2 => ∀ p, H2 p = none → Q (.ref p) (upd H2 p (.lst out))
theorem pe_listGM {f C : Addr} {fd : FuncData} {ps : List Str} {sp : SpG} {dvs : List V} {ds : List Value} {m nm : Str} {pos' apos : Pos} {o e : Expr} {es : List Expr} {ta : TE} {t : TA} {E : St → XK} {pl : Sem Bool} {K : PySem.W.Frag} (hK : X.K = K)
    (he : PE X o ta) (c : Cls X.K C) (hm : Meth X.K C m f) (F : GFn X.prog X.w X.K X.mg X.base k f fd ps sp) (hrg : Room k X.A) (hb : Binds X.K fd ps ds) (hd : Vals dvs ds) (ha : PA X (e :: es) t) (hx : ∀ σ, PassesAt (L2.CX X.prog X.w) X σ (E σ)) (hr : Room (k + 3) X.A)
    (hg : Gl X nm) (hmg : X.mg nm = none) (hv : bootBuiltins nm = some (.type "list")) (hnm : nm ≠ "__name__" := by decide) (hdb : (nm == ("__debug__" : Str)) = false := by decide)
    (hst : starEach (e :: es) X.env = (false, eval e X.env) :: starEach es X.env := by rfl) (hpl : (backTo pos' (starEach es X.env)).any (·.1) = false := by rfl)
    (ht : eval (.Call (.Attribute o m apos) (e :: es) [] pos') X.env = (do
      let ov ← eval o X.env
      standAt apos.atName
      let (f, first) ← holding [ov] (getMethod ov m pl)
      callWith pos' f first (backTo pos' (starEach (e :: es) X.env)) (backToKw pos' (keywordEach [] X.env))) := by rfl)
    (hel : starEach [Expr.Call (.Attribute o m apos) (e :: es) [] pos'] X.env = (false, eval (.Call (.Attribute o m apos) (e :: es) [] pos') X.env) :: starEach [] X.env := by rfl) :
    PE X (.Call (.Name nm p) [.Call (.Attribute o m apos) (e :: es) [] pos'] [] pos) (tListGM K C m sp dvs E ta t) := hK ▸
  pe_listGW (tg := fun σ => tMethG C m sp dvs (NSE X.K (E σ)) ta t) (fun σ => pgen_meth (pl := pl) he c hm F hrg hb hd ha hst hpl ht) hx hr hg hmg hv hnm hdb hel
end
end L2
namespace L2
open PySem
theorem nopass {X : Cx} : Passes (L2.CX X.prog X.w) X (fun _ _ _ => False) := fun _ _ _ _ _ _ _ x => by
  obtain ⟨a, B, H', c, d, x1, x2, x3, x4, x5, x6, x7, x8⟩ := x
  exact x8.elim
theorem nostop {K : PySem.W.Frag} : NoStop K (fun _ _ _ => False) := fun _ _ _ h => h.elim
end L2

namespace L2
open PySem PySem.Spec PyProof.Rows GenW
/-! ### if and for in a generator's body -/
section
variable {X : Cx}
def tGIf (c : TT) (t u : TGn) : TGn := fun D ys σ H => c σ H fun b H1 => if b = true then t D ys σ H1 else u D ys σ H1
theorem gs_if {test : Expr} {a b : List Stmt} {pos : Pos} {tc : TT} {t u : TGn} (hc : PT X test tc) (ha : GSs X a t) (hb : GSs X b u) : GS X (.If test a b pos) (tGIf tc t u) := by
  refine ⟨fun A S ip R n ys s₀ c fs K J gd lv s σ H D g hn k hI ht => ?_⟩
  obtain ⟨acc, cc, r, I⟩ := hI
  rw [exec_If]
  show Seg _ _ _ _ _ _ _ (.at pos fun _ => ((isTrue test X.env (eval test X.env) >>= fun d => if d = true then execs a X.env else execs b X.env).wrap K J gd lv)) _ _
  refine seg_at (seg_bind_wrap ?_)
  rw [g.over]
  refine wpAny_mono (hc.run _ s σ H _ I ht) (fun d s1 ⟨H1, I1, q⟩ => ?_) fun x s1 hx => k.exc n s₀ x s1 hx
  cases d with
  | true => exact ha.run A S ip R n ys s₀ c fs K J gd lv s1 σ H1 D g hn k ⟨acc, cc, r, I1⟩ q
  | false => exact hb.run A S ip R n ys s₀ c fs K J gd lv s1 σ H1 D g hn k ⟨acc, cc, r, I1⟩ q
/-- for in a generator: the word of the loop speaks of what is out, too -/
def tGFor (wi : TI) (g : TG) (tb : TGn) : TGn := fun D ys σ H => wi σ H fun J H1 => ∃ W : Nat → Nat → List V → St → Hp → Prop, (∃ m, W 0 m ys σ H1) ∧ ∀ i m ys σ H, W i m ys σ H →
  (J.stop i H ∧ D.nx ys σ H) ∨ (J.go i H ∧ ∃ N : List V → St → Hp → Prop, (∀ ys' σ' H', N ys' σ' H' → ∃ m', m' < m ∧ W (i + 1) m' ys' σ' H') ∧ ∀ x H', J.yld i H x H' → g x σ H' fun σ2 H2 => tb { D with nx := N, ct := N, bk := D.nx } ys σ2 H2)
theorem wpAny_bindK {α β : Type} {M : Model} {A : Around} {m : Sem α} {f : α → Sem β} {Q : β → Shared → Prop} {E : Value → Shared → Prop} {s : Shared} (h : wpAny M A m (fun a s' => wpAny M A (f a) Q E s') E s) : wpAny M A (m >>= f) Q E s := wpAny_bind h
theorem gs_for {tg iter : Expr} {body : List Stmt} {pos : Pos} {wi : TI} {g : TG} {tb : TGn} (hp : PassesOwn (model X.prog X.w) X.A X.env X.xe) (hc : X.calm = true) (hi : PI X tg iter wi) (hg : PG X tg g) (hb : GSs X body tb)
    (hs : ∀ x, foldedSetIterable iter X.env x = pure x := by intro _; rfl) : GS X (.For tg iter body [] pos) (tGFor wi g tb) := by
  refine ⟨fun A S ip R n ys s₀ c fs K J gd lv s σ H D gc hn k hI ht => ?_⟩
  obtain ⟨acc, cc, r, I⟩ := hI
  rw [exec_For]
  show Seg _ _ _ _ _ _ _ (.at pos fun _ => ((eval iter X.env >>= fun v => foldedSetIterable iter X.env v >>= fun x => (standAt iter.pos >>= fun _ => (holding [x] (pyIter x) >>= fun it => runOwn (.forLoop tg it body [] X.env) X.env))).wrap K J gd lv)) _ _
  refine seg_at (seg_bind_wrap ?_)
  rw [gc.over]
  refine wpAny_mono (hi.run _ s σ H _ I ht) (fun v s1 h1 => ?_) fun x s1 hx => k.exc n s₀ x s1 hx
  rw [hs v]
  show Seg _ _ _ _ _ _ _ (.at iter.pos fun _ => ((holding [v] (pyIter v) >>= fun it => runOwn (.forLoop tg it body [] X.env) X.env).wrap K J gd lv)) _ _
  refine seg_at (seg_bind_wrap (wpAny_holding ?_))
  rw [gc.over]
  refine wpAny_mono h1 (fun itv s2 h2 => ?_) fun x s1 hx => k.exc n s₀ x s1 hx
  obtain ⟨it, fp, tn, Jt, H2, rfl, I2, T, st2, f2, W, ⟨m0, w0⟩, turn⟩ := h2
  refine seg_call fun p => ?_
  have gl := fun (kk : Result → Sem PySem.Fin) => gc_loop (k := kk) (c' := .forLoop tg (.ref it) body [] X.env) (l := lv []) (kp := []) (p := p) gc rfl rfl
  have notS : ∀ b ∈ fp, S ≠ b := fun b hb => (f2 b hb).2.2.2.2.2 (S, lstObj acc cc) (List.mem_append_right _ List.mem_cons_self)
  have stat : ∀ {H' : Hp} {acc' : Array Value} {cc' : Nat}, (∀ b ∈ fp, H' b = none) → ∀ b ∈ fp, FpOk X ((S, lstObj acc' cc') :: ip) H' b := fun hn b hb => by
    obtain ⟨_, y2, y3, y4, y5, y6⟩ := f2 b hb
    refine ⟨hn b hb, y2, y3, y4, y5, fun q hq => ?_⟩
    rcases List.mem_append.mp hq with hq | hq
    · exact y6 q (List.mem_append_left _ hq)
    · rcases List.mem_cons.mp hq with rfl | hq
      · exact notS b hb
      · exact y6 q (List.mem_append_right _ (List.mem_cons_of_mem _ hq))
  have ee : ∀ (n : Nat) (s₀ : Shared) (x : Value) (s' : Shared), X.xe x s' → Seg (model X.prog X.w) A R (GY X S) n s₀ (.forLoop tg (.ref it) body [] X.env)
      (Sem.bind (do noteFrame x X.env; theTreesLotGoes x : Sem Unit) fun _ => Sem.raise x)
      (.ret (fun r => ((match r with | .ok f => (.pure f : Sem Flow) | .error e => .raise e).onRaise (cameBack X.env)).wrap K J gd lv) none (gd false) (lv []) c p [] :: fs) s' := fun n s₀ x s' hx => by
    rw [show (Sem.bind (do noteFrame x X.env; theTreesLotGoes x : Sem Unit) fun _ => (Sem.raise x : Sem PySem.Fin)) = (do noteFrame x X.env; theTreesLotGoes x : Sem Unit).wrap (fun _ => .raise x) .raise id id from Sem.bind_eq_wrap' ..]
    refine seg_wrap ?_
    rw [(gl _).over]
    refine wpAny_bind (wpAny_mono (hp x s' hx) (fun _ s3 h3 => wpAny_theTreesLotGoes ?_) fun y s3 h3 => ?_)
    · exact seg_leaf (.error x) (seg_cameBack gc k h3)
    · exact seg_leaf (.error y) (seg_cameBack gc k h3)
  have loop : ∀ (m i n : Nat) (ys : List V) (s₀ s : Shared) (σ : St) (H : Hp) (acc : Array Value) (cc : Nat), n + ys.length = sizeLine → W i m ys σ H → Vals ys acc.toList → Inv X ((S, lstObj acc cc) :: ip) σ H s → tn i s.heap → (∀ b ∈ fp, H b = none) →
      Seg (model X.prog X.w) A R (GY X S) n s₀ (.forLoop tg (.ref it) body [] X.env) ((model X.prog X.w).den (.forLoop tg (.ref it) body [] X.env))
        (.ret (fun r => ((match r with | .ok f => (.pure f : Sem Flow) | .error e => .raise e).onRaise (cameBack X.env)).wrap K J gd lv) none (gd false) (lv []) c p [] :: fs) s := by
    intro m
    induction m using Nat.strongRecOn with
    | ind m ih =>
      intro i n ys s₀ s σ H acc cc hn w r I st fr
      show Seg _ A R _ n s₀ _ ((forTurn tg (.ref it) body [] X.env).onRaise (fun x => do noteFrame x X.env; theTreesLotGoes x)) _ s
      unfold forTurn
      rw [Sem.onRaise_eq_wrap]
      show Seg _ _ _ _ _ _ _ (.at tg.pos fun _ => Sem.wrap _ _ _ _ _) _ _
      refine seg_at ?_
      rcases turn i m ys σ H w with ⟨stop, qn⟩ | ⟨go, N, hN, step⟩
      · refine seg_bind_wrap ?_
        rw [(gl _).over]
        refine wpAny_pure ?_
        refine seg_bind_wrap ?_
        rw [(gl _).over]
        refine wpAny_onRaise (wpAny_mono (T.done X rfl rfl rfl hc i _ s σ H X.xe I (stat fr) st stop) (fun a s1 ⟨ha, I1⟩ => ?_) fun x s1 hx => wpAny_standAt ?_)
        · subst ha
          refine seg_again rfl ?_
          exact seg_leaf (.ok .next) (k.ok n ys s₀ s1 .next hn ⟨σ, H, ⟨acc, cc, r, I1⟩, qn⟩)
        · have := ee n s₀ x s1 hx
          exact this
      · refine seg_bind_wrap ?_
        rw [(gl _).over]
        refine wpAny_pure ?_
        refine seg_bind_wrap ?_
        rw [(gl _).over]
        refine wpAny_onRaise (wpAny_mono (T.item X rfl rfl rfl hc i _ s σ H X.xe I (stat fr) st go) (fun a s1 ⟨u, ha, h1⟩ => ?_) fun x s1 hx => wpAny_standAt ?_)
        · subst ha
          refine seg_bind_wrap ?_
          rw [(gl _).over]
          refine wpAny_mono h1 (fun _ s3 ⟨x, H3, I3, r3, y3, st3, fr3⟩ => ?_) fun x s3 hx => ee n s₀ x s3 hx
          have I3' := I3.pinned (stat fr3) (T.obj _ _ st3)
          refine seg_bind_wrap ?_
          rw [(gl _).over]
          refine wpAny_mono (hg.run _ s3 σ H3 x u _ I3' r3 (step x H3 y3)) (fun _ s4 ⟨σ4, H4, I4, q4⟩ => ?_) fun x s4 hx => ee n s₀ x s4 hx
          have gp : GC X S (ip ++ pinsAt fp s3.heap) A (.forLoop tg (.ref it) body [] X.env) (.ret (fun r => ((match r with | .ok f => (.pure f : Sem Flow) | .error e => .raise e).onRaise (cameBack X.env)).wrap K J gd lv) none (gd false) (lv []) c p [] :: fs) id :=
            { gl _ with ip := fun q hq => (List.mem_append.mp hq).elim (gc.ip q) fun z => Ne.symm (notS q.1 (of_pinsAt z).1) }
          rw [Sem.bind_eq_wrap', Sem.wrap_wrap]
          refine hb.run A S (ip ++ pinsAt fp s3.heap) R n ys s₀ _ _ _ _ id id s4 σ4 H4 { D with nx := N, ct := N, bk := D.nx } gp hn ⟨fun n' ys' s₀' s5 f hn' hs' => ?_, fun n' s₀' x s5 hx => ee n' s₀' x s5 hx⟩ ⟨acc, cc, r, I4⟩ q4
          have again : ∀ {σ5 : L2.St} {H5 : Hp}, GI X S (ip ++ pinsAt fp s3.heap) ys' σ5 H5 s5 → N ys' σ5 H5 → Seg (model X.prog X.w) A R (GY X S) n' s₀' (.forLoop tg (.ref it) body [] X.env) ((model X.prog X.w).den (.forLoop tg (.ref it) body [] X.env)) (.ret (fun r => ((match r with | .ok f => (.pure f : Sem Flow) | .error e => .raise e).onRaise (cameBack X.env)).wrap K J gd lv) none (gd false) (lv []) c p [] :: fs) s5 := fun {σ5 H5} ⟨acc5, cc5, r5, I5⟩ n5 => by
            obtain ⟨m', hm, w5⟩ := hN ys' σ5 H5 n5
            have I5' : Inv X (((S, lstObj acc5 cc5) :: ip) ++ pinsAt fp s3.heap) σ5 H5 s5 := I5
            refine ih m' hm (i + 1) n' ys' s₀' s5 σ5 H5 acc5 cc5 hn' w5 r5 I5'.unpinned (T.keep _ _ _ st3 fun b hb o e => (I5'.pin (b, o) (List.mem_append_right _ (List.mem_append_right _ (mem_pinsAt hb e)))).1) fun b hb => ?_
            obtain ⟨o, e, _⟩ := T.obj _ _ st3 b hb
            exact (I5'.pin (b, o) (List.mem_append_right _ (List.mem_append_right _ (mem_pinsAt hb e)))).2.1
          have un : ∀ {σ5 : L2.St} {H5 : Hp}, GI X S (ip ++ pinsAt fp s3.heap) ys' σ5 H5 s5 → GI X S ip ys' σ5 H5 s5 := fun {σ5 H5} ⟨acc5, cc5, r5, I5⟩ => ⟨acc5, cc5, r5, (show Inv X (((S, lstObj acc5 cc5) :: ip) ++ pinsAt fp s3.heap) σ5 H5 s5 from I5).unpinned⟩
          cases f with
          | next => obtain ⟨σ5, H5, I5, n5⟩ := hs'; exact seg_again rfl (again I5 n5)
          | cont => obtain ⟨σ5, H5, I5, n5⟩ := hs'; exact seg_again rfl (again I5 n5)
          | brk => obtain ⟨σ5, H5, I5, n5⟩ := hs'; exact seg_leaf (.ok .next) (k.ok n' ys' s₀' s5 .next hn' ⟨σ5, H5, un I5, n5⟩)
          | ret v => obtain ⟨v5, σ5, H5, I5, rv5, n5⟩ := hs'; exact seg_leaf (.ok (.ret v)) (k.ok n' ys' s₀' s5 (.ret v) hn' ⟨v5, σ5, H5, un I5, rv5, n5⟩)
        · have := ee n s₀ x s1 hx
          exact this
  exact loop m0 0 n ys s₀ s2 σ H2 acc cc hn w0 r I2 st2 fun b hb => (f2 b hb).1
end
end L2

namespace PySem
namespace HandSPX
open PySem PySem.Spec
/-- it leaves the def, its flight whatever it is -/
theorem leaves_anyZ {M : Model} {A : Around} {E : Value → Shared → Prop} {s : Shared} {Z : Obj → Prop} {base : Heap} {env : Env} {outer : List Env} {L e : Addr} {fl : Value} {Q : Unit → Shared → Prop} (hZ : Steady Z)
    (hfr : A.frames = some (env :: outer)) (hf : env.frame = some L) (hkb : base.StaysIn s.heap) (hen : base.get? e = none) (hl : s.heap.FunFrames base (env :: outer)) (ht : TracedZ s.heap base e Z fl)
    (hQ : ∀ h', FlyingZ base outer e Z h' → s.heap.UpToSlots h' → Q () { s with heap := h' }) : wpAny M A (leaving env (.ref e)) Q E s := by
  by_cases hfl : fl = rawInt L
  · subst hfl
    exact leaves_heldZ hf ⟨hkb, hen, hl, ht⟩ hQ
  obtain ⟨oe, vs, T, oT, ts, he, hz, hd, h1, hnT, hTe, hT, hdT, h3⟩ := ht
  unfold leaving noteFrame
  simp only [hf]
  refine wpAny_bind (wpAny_bind (wpAny_field he hd h1 ?_))
  rw [if_pos (show (Value.ref T != Value.none) = true from by simp)]
  refine wpAny_bind (wpAny_field hT hdT h3 ?_)
  rw [if_neg (show ¬ ((fl == rawInt L) = true) from by simp [hfl])]
  refine wpAny_bind (wpAny_setField hT hdT (Array.getElem?_eq_some_iff.mp h3).1 ?_)
  have other : ∀ b, b ≠ T → (s.heap.update T (Obj.mapFields (·.setIfInBounds 3 Value.none))).get? b = s.heap.get? b := fun b hb => Heap.get?_update_other _ _ (Ne.symm hb)
  have noRecord : ∀ b o, s.heap.get? b = some o → (∀ vs, o.data ≠ .fields vs) → b ≠ T := fun b o hb hnf q => by
    rw [q, hT] at hb; injection hb with hb; subst hb; exact hnf ts hdT
  refine wpAny_newEntryZ hZ hfr (hl.of_keeps fun b o hb hnf => ⟨o, (other b (noRecord b o hb hnf)).trans hb, rfl⟩) hf ((other e (Ne.symm hTe)).trans he)
    (fun b o hbo => (other b fun q => by rw [q, hnT] at hbo; cases hbo).trans (hkb b o hbo)) hen hd (Array.getElem?_eq_some_iff.mp h1).1 hz fun h' hL => ?_
  obtain ⟨x1, ⟨_, _, x2⟩, x3, x4⟩ := hL
  exact hQ h' ⟨x1, hen, x2, x3⟩ fun b o hb hnf => x4 b o ((other b (noRecord b o hb hnf)).trans hb) hnf
end HandSPX
end PySem
namespace L2
open PySem PySem.Spec PyProof.Rows
theorem noteFrame_as {e1 e2 : Env} (h : e1.frame = e2.frame) (x : Value) : noteFrame x e1 = noteFrame x e2 := by
  unfold noteFrame PySem.frameOf
  rw [h]
section
variable {X : Cx} {pins : List (Addr × Obj)} {σ : St} {H : Hp} {sI s s' : Shared} {B : Heap} {E : XK}
theorem leaveAny (hs : X.stack = X.env :: X.outer) (hf : X.env.frame = some X.env.locals) (hex : X.ex = []) {E₁ : Value → Shared → Prop} {a : Addr} {cls : Value} {d : Option Addr} {fl : Value}
    (I : Inv X pins σ H sI) (nb : ∀ b o, sI.heap.get? b = some o → b ∉ frs X.stack → B.get? b = some o) (up : sI.heap.UpToSlots s'.heap) (hB : B.StaysIn s'.heap) (hn : B.get? a = none) (hl : s'.heap.FunFrames B X.stack) (ht : HandSPX.TracedZ s'.heap B a (Zc cls d) fl)
    (na : H a = none) (os : s'.os = sI.os) (ag : AllBare s'.gens) (hE : E cls d H) :
    wpAny (model X.prog X.w) X.A (leaving X.env (.ref a)) (fun _ s'' => CX X.prog X.w X.outer X.H_0 X.s_0 E (.ref a) s'') E₁ s' := by
  have hfr : X.A.frames = some (X.env :: X.outer) := by rw [I.ok.frames, hs]
  have nst : ∀ b o, X.s_0.heap.get? b = some o → b ∉ X.fs → b ∉ frs X.stack := fun b o e hb hm => by
    rcases List.mem_cons.mp (I.stkSub b hm) with z | z
    · have h1 := Heap.lt_size e
      have h2 := I.ok.above
      rw [z] at h1
      exact absurd (Nat.lt_of_lt_of_le h1 h2) (Nat.lt_irrefl _)
    · exact hb z
  have hex' : ∀ b, b ∉ X.ex := fun b hb => by rw [hex] at hb; cases hb
  have hokB := I.inGround nb
  rw [hs] at hl
  refine HandSPX.leaves_anyZ Zc.steady hfr hf hB hn hl ht fun h' fl up' => ?_
  refine ⟨a, B, H, cls, d, rfl, fl, hokB, ⟨fun b o e n hb => nb b o (I.base.keep b o e n hb (hex' b)) (nst b o e hb), fun b o e hb => ?_, fun b o e n => I.base.free b o e n (hex' b), fun b o e hb => ?_, I.base.tups, I.base.frzs, I.base.tbls⟩,
    na, os.trans I.os, ag, hE⟩
  · obtain ⟨_, o₀, e₀, hnf⟩ := I.ok.funs.mem hb
    rw [e] at e₀; cases e₀
    obtain ⟨sl, e1⟩ := I.base.slot b o e (I.ok.frf b hb) hb (hex' b)
    obtain ⟨sl2, e2⟩ := up b _ e1 hnf
    obtain ⟨sl3, e3⟩ := up' b _ e2 hnf
    exact ⟨sl3, e3⟩
  · obtain ⟨o', e1⟩ := I.base.there b o e (hex' b)
    exact ⟨o', nb b o' e1 (nst b o e hb)⟩
/-- a call's exception, its parts -/
theorem of_callF (I : Inv X pins σ H s) {u : Value} (c : CX X.prog X.w X.stack H s E u s') : ∃ (a : Addr) (B : Heap) (sI : Shared) (H' : Hp) (cls : Value) (d : Option Addr), u = .ref a ∧ Inv X pins σ H' sI ∧ (∀ b o, sI.heap.get? b = some o → b ∉ frs X.stack → B.get? b = some o) ∧ sI.heap.UpToSlots s'.heap ∧
    HandSPX.FlyingZ B X.stack a (Zc cls d) s'.heap ∧ H' a = none ∧ s'.os = sI.os ∧ AllBare s'.gens ∧ E cls d H' := by
  obtain ⟨a, B, H', cls, d, rfl, fl, hok, ub, na, os, ag, hE⟩ := c
  obtain ⟨G, g1, g2⟩ := restrict s'.heap fun b => (B.get? b).isSome || decide (b ∈ frs X.stack)
  have st : B.StaysIn s'.heap := fl.1
  have gB : ∀ b o, B.get? b = some o → G.get? b = some o := fun b o e => by
    rw [g1 b (by simp [e])]
    exact st b o e
  have gF : ∀ b, b ∈ frs X.stack → G.get? b = s'.heap.get? b := fun b hb => g1 b (by simp [hb])
  have og : ∀ b o, G.get? b = some o → s'.heap.get? b = some o ∧ ((B.get? b).isSome = true ∨ b ∈ frs X.stack) := fun b o e => by
    cases q : ((B.get? b).isSome || decide (b ∈ frs X.stack)) with
    | false => rw [g2 b q] at e; cases e
    | true =>
      rw [g1 b q] at e
      exact ⟨e, by simpa [Bool.or_eq_true] using q⟩
  refine ⟨a, B, { s with heap := G, gens := s'.gens, drawn := s'.drawn, toks := s'.toks }, H', cls, d, rfl, ?_, fun b o e hb => ?_, Heap.UpToSlots.of_keeps fun b o e => (og b o e).1, fl, na, os, ag, hE⟩
  · refine I.call (ch := []) ⟨fun b o e n hb _ => gB b o (ub.keep b o e n hb), fun b o e n hb _ => ?_, fun b o e n _ => ub.free b o e n, fun b o e _ => ?_, ub.tups, ub.frzs, ub.tbls⟩ (hok.kept gB) ag (fun _ z => nomatch z)
    · obtain ⟨sl, q⟩ := ub.slot b o e hb
      exact ⟨sl, by rw [gF b hb]; exact q⟩
    · by_cases hb : b ∈ frs X.stack
      · obtain ⟨sl, q⟩ := ub.slot b o e hb
        exact ⟨_, by rw [gF b hb]; exact q⟩
      · obtain ⟨o', q⟩ := ub.there b o e hb
        exact ⟨o', gB b o' q⟩
  · obtain ⟨e', h⟩ := og b o e
    rcases h with h | h
    · obtain ⟨o', q⟩ := Option.isSome_iff_exists.mp h
      have z := st b o' q
      rw [e'] at z; cases z
      exact q
    · exact absurd h hb
theorem funFrames_hide {B h h' : Heap} {C : Addr} (k : ∀ b, b ≠ C → h'.get? b = h.get? b) : ∀ {l : List Env}, h.FunFrames B l → C ∉ frs l → h'.FunFrames (PySem.W.hideAll B [C]) l
  | [], _, _ => trivial
  | env :: l, hh, hC => by
    obtain ⟨hk, ⟨L, o, hf, hn, ho, hd⟩, hr⟩ := hh
    have m : L ∈ frs (env :: l) := List.mem_filterMap.mpr ⟨env, List.mem_cons_self, hf⟩
    have nL : L ≠ C := fun e => hC (e ▸ m)
    refine ⟨hk, ⟨L, o, hf, ?_, (k L nL).trans ho, hd⟩, funFrames_hide k hr fun z => hC ?_⟩
    · cases q : (PySem.W.hideAll B [C]).get? L with
      | none => rfl
      | some u => rw [PySem.W.of_hideAll _ q] at hn; cases hn
    · obtain ⟨e, he, q⟩ := List.mem_filterMap.mp z
      exact List.mem_filterMap.mpr ⟨e, List.mem_cons_of_mem _ he, q⟩
theorem Inv.reXe (I : Inv X pins σ H s) (xb : Value → Shared → Prop) : Inv { X with xe := xb } pins σ H s :=
  ⟨⟨I.ok.mod, I.ok.kind, I.ok.glob, I.ok.blt, I.ok.above, I.ok.inj, I.ok.has, I.ok.cab, I.ok.hd, I.ok.frames, I.ok.stk, I.ok.exf, I.ok.bs, I.ok.bsz, I.ok.noex, I.ok.exfs, I.ok.funs, I.ok.frf⟩, I.os, I.bare, I.base, I.loc, I.cell, I.free, I.freeC, I.pin, I.hok, I.len⟩
end
end L2

namespace L2
open PySem PySem.Spec PyProof.Rows
section
variable {X : Cx} {E : XK}
/-- what a call in the block lets out goes out of the comprehension and out of the def -/
theorem blk_passes {pins : List (Addr × Obj)} {σ : St} {H3 : Hp} {s3 : Shared} {scope : Scope} {ce : Env} {fp : List Addr} {use : Option (Value → Sem Unit)} {Qf : Value → Shared → Prop} {acc : Value} {E₁ : Value → Shared → Prop}
    (hs : X.stack = X.env :: X.outer) (hf : X.env.frame = some X.env.locals) (hex : X.ex = [])
    (hx : X.xe = fun e s' => wpAny (model X.prog X.w) X.A (leaving X.env e) (fun _ s'' => CX X.prog X.w X.outer X.H_0 X.s_0 E e s'') E₁ s')
    (I3 : Inv X pins σ H3 s3) (f3 : ∀ b ∈ fp, FpOk X pins H3 b ∧ b < s3.heap.objs.size) (cL : ce.locals = s3.heap.objs.size) (cF : ce.frame = X.env.frame) :
    Passes (CX X.prog X.w) { X.blk s3 H3 scope ce fp with xe := notedBy (model X.prog X.w) X.A ce fun e s' => compPost (model X.prog X.w) X.A X.xe use Qf acc s3.heap.objs.size (.error e) s' } E := by
  intro pinsB σB H s e s' I c
  obtain ⟨a, B, sI, H', cls, d, rfl, Ib, nb, up, fl, na, os, ag, hE⟩ := of_callF I c
  have nb : ∀ b o, sI.heap.get? b = some o → b ∉ frs X.stack → B.get? b = some o := nb
  have fl : HandSPX.FlyingZ B X.stack a (Zc cls d) s'.heap := fl
  generalize hC : s3.heap.objs.size = C at cL
  have hfr : X.A.frames = some (X.env :: X.outer) := by rw [I3.ok.frames, hs]
  show wpAny (model X.prog X.w) X.A (noteFrame (.ref a) ce) (fun _ s'' => compPost (model X.prog X.w) X.A X.xe use Qf acc C (.error (.ref a)) s'') _ s'
  rw [noteFrame_as cF]
  rw [hs] at fl
  refine HandSPX.looks_onZ Zc.steady hfr hf fl fun h1 held up1 => ?_
  have I1 : Inv _ pinsB σB H' { s' with heap := h1 } := Ib.landed (s' := { s' with heap := h1 }) nb held.1 (Heap.UpToSlots.trans up up1) os ag
  obtain ⟨m, hn, _⟩ := I1.loc
  have hn : h1.Ns ce.locals m := hn
  rw [cL] at hn
  have nC : H' C = none := by
    have z : H' ce.locals = none := Ib.free
    rw [cL] at z; exact z
  have IX : Inv X pins σ H' sI := I3.call' (ch := fp) Ib.os Ib.base Ib.hok Ib.bare fun b hb => ⟨(f3 b hb).1.2.2.2.1, (f3 b hb).1.2.1, (f3 b hb).1.2.2.2.2.1, (f3 b hb).1.2.2.2.2.2⟩
  obtain ⟨f0, f1, f2, f3', f4, f5⟩ := I3.fpOk (b := C) (Nat.le_of_eq hC) nC
  have I2 : Inv X pins σ H' { sI with heap := PySem.W.hideAll sI.heap [C], toks := sI.toks } := IX.turned (it := C) (fun b o hb e => PySem.W.hideAll_get _ e (by simpa using hb)) f0 f1 f3' f4 f5
  have nhide : ∀ {h : Heap} {b : Addr} {o : Obj}, (PySem.W.hideAll h [C]).get? b = some o → b ≠ C := fun {h b o} e z => by
    rw [PySem.W.hideAll_none (b := b) [C] (by simp [z])] at e; cases e
  have hCs : C ∉ frs X.stack := fun z => by
    rcases List.mem_cons.mp (I3.stkSub C z) with e | e
    · exact f1 e
    · exact f2 e
  have fin : ∃ m, h1.Ns C m ∧ ∀ h', Heap.SameBut C h1 h' → ∀ cenv : Env, cenv.locals = C → wpAny (model X.prog X.w) X.A (PySem.passOn "comprehension.variables-let-go" (.ref a) cenv : Sem Value) (fun _ _ => False) X.xe { s' with heap := h' } := by
    refine ⟨m, hn, fun h' sb cenv _ => ?_⟩
    obtain ⟨kB, hen, hl, oe, vs, T, oT, ts, he, hz, hd, e1, hnT, hTe, hT, hdT, e3⟩ := held
    obtain ⟨oC, es, ep, gC, dC, _⟩ := hn
    have naC : a ≠ C := fun z => by rw [z, gC] at he; cases he; rw [dC] at hd; cases hd
    have nTC : T ≠ C := fun z => by rw [z, gC] at hT; cases hT; rw [dC] at hdT; cases hdT
    have he' : h'.get? a = some oe := (sb.2 a naC).trans he
    have hT' : h'.get? T = some oT := (sb.2 T nTC).trans hT
    have hnB : ∀ b, B.get? b = none → (PySem.W.hideAll B [C]).get? b = none := fun b e => by
      cases q : (PySem.W.hideAll B [C]).get? b with
      | none => rfl
      | some u => rw [PySem.W.of_hideAll _ q] at e; cases e
    have kB' : (PySem.W.hideAll B [C]).StaysIn h' := fun b o e => (sb.2 b (nhide e)).trans (kB b o (PySem.W.of_hideAll _ e))
    have hl' : h'.FunFrames (PySem.W.hideAll B [C]) (X.env :: X.outer) := funFrames_hide sb.2 hl (by rw [← hs]; exact hCs)
    have ht' : HandSPX.TracedZ h' (PySem.W.hideAll B [C]) a (Zc cls d) (rawInt X.env.locals) := ⟨oe, vs, T, oT, ts, he', hz, hd, e1, hnB T hnT, hTe, hT', hdT, e3⟩
    unfold PySem.passOn
    refine wpAny_bind (wpAny_field he' hd e1 ?_)
    rw [if_neg (show ¬ ((Value.ref T == Value.none) = true) from by simp)]
    refine wpAny_bind (HandSPX.setFlight_anyZ kB' hl' ht' fun h2 k1 k2 k3 k4 => wpAny_throw ?_)
    rw [hx]
    refine leaveAny hs hf hex I2 (fun b o e hb => ?_) (fun b o e hnf => ?_) k1 (hnB a hen) (by rw [hs]; exact k2) k3 na os ag hE
    · exact PySem.W.hideAll_get _ (nb b o (PySem.W.of_hideAll _ e) hb) (by simpa using nhide e)
    · have nb' := nhide e
      obtain ⟨sl1, q1⟩ := up b o (PySem.W.of_hideAll _ e) hnf
      obtain ⟨sl2, q2⟩ := up1 b _ q1 hnf
      obtain ⟨sl3, q3⟩ := k4 b _ ((sb.2 b nb').trans q2) hnf
      exact ⟨sl3, q3⟩
  cases use <;> exact fin
theorem lc_coreX {pins : List (Addr × Obj)} {s : Shared} {σ : St} {H : Hp} {Q : VK} {elt tg iter : Expr} {ifs : List Expr} {scope : Scope} {own : List (Str × Nat)} {pos pos' : Pos} {wi : TI} {g : TG} {tt : TT} {te : TE} {use : Option (Value → Sem Unit)} {Qf : Value → Shared → Prop} {E₁ : Value → Shared → Prop}
    (hst : X.stack = X.env :: X.outer) (hfm : X.env.frame = some X.env.locals) (hex : X.ex = [])
    (hx : X.xe = fun e s' => wpAny (model X.prog X.w) X.A (leaving X.env e) (fun _ s'' => CX X.prog X.w X.outer X.H_0 X.s_0 E e s'') E₁ s')
    (hc : X.calm = true) (hN : X.N.Nodup) (I : Inv X pins σ H s) (hi : PI X tg iter wi) (ok : BlkOk X.N X.env.scope scope own)
    (hg : ∀ (s : Shared) (H : Hp) (C : Addr) (cl : List (Str × Addr)) (fp : List Addr) (xb : Value → Shared → Prop), PG { X.blk s H scope (compEnvC scope cl C X.env) fp with xe := xb } tg g) (ht : ∀ (s : Shared) (H : Hp) (C : Addr) (cl : List (Str × Addr)) (fp : List Addr) (xb : Value → Shared → Prop), PTs { X.blk s H scope (compEnvC scope cl C X.env) fp with xe := xb } ifs tt)
    (he : ∀ (s : Shared) (H : Hp) (C : Addr) (cl : List (Str × Addr)) (fp : List Addr) (xb : Value → Shared → Prop), Passes (CX X.prog X.w) { X.blk s H scope (compEnvC scope cl C X.env) fp with xe := xb } E → PE { X.blk s H scope (compEnvC scope cl C X.env) fp with xe := xb } elt te) (hs : ∀ x, foldedSetIterable iter X.env x = pure x)
    (h : tLc wi g tt te (own.map (·.2)) σ H Q)
    (hRR : ∀ D C s' m H', Inv X pins σ H' s' → Q (.ref D) H' → s'.heap.Ns C m → FpOk X pins H' C → compPost (model X.prog X.w) X.A X.xe use Qf (.ref D) C (.ok .next) s') :
    wpAny (model X.prog X.w) X.A (comprehension (.ListComp elt [⟨tg, iter, ifs, 0⟩] scope pos) scope X.env pos' (newList []) false (eval iter X.env) use) Qf X.xe s := by
  have hfree : ∀ y ∈ scope.names, y.2 = .free → ∃ c, X.env.cells.lookup y.1 = some c := fun y hy e => by
    rcases ok.free y hy e with k | k
    · exact I.ok.has _ (.inl k)
    · exact I.ok.has _ (.inr k)
  refine wpAny_comprehension_free (use := use) rfl hs (closure_ok hfree) ok.kind (fun y hy e => by rw [ok.uniq y hy, e])
    (thn (hi.run pins s σ H _ I h) fun xv s1 hxv => thn hxv fun itv s2 h2 => ?_)
  obtain ⟨it, fp, tn, J, H2, e, I2, T, st2, f2, q⟩ := h2
  subst e
  refine wpAny_newObj_type (newEnv_comp ?_) (by show 0 ≤ sizeLine; decide)
  generalize hD : s2.heap.objs.size = D
  have hDn : H2 D = none := I2.hok.fresh (Nat.le_of_eq hD)
  obtain ⟨W, ⟨m0, w0⟩, turn⟩ := q D hDn
  -- the new list
  generalize hs3 : ({ s2 with heap := s2.heap.push { cls := .type "list", data := .seq ([] : List Value).toArray } } : Shared) = s3
  have I3 : Inv X pins σ (upd H2 D (.lst [])) s3 := by
    rw [← hs3]
    refine I2.laid (t' := s2.toks) (fun b o e => Heap.get?_push_of_some _ e) (Nat.le_of_eq hD) ⟨Nat.zero_le _, [], 0, .nil, ?_⟩
    rw [← hD]
    exact Heap.get?_push_size _ rfl
  have h3 : s3.heap = s2.heap.push { cls := .type "list", data := .seq ([] : List Value).toArray } := by rw [← hs3]
  have sz : ∀ b ∈ fp, b < s2.heap.objs.size := fun b hb => by
    obtain ⟨o, e, _⟩ := T.obj _ _ st2 b hb
    exact Heap.lt_size e
  have f3 : ∀ b ∈ fp, FpOk X pins (upd H2 D (.lst [])) b ∧ b < s3.heap.objs.size := fun b hb => by
    have hlt := sz b hb
    refine ⟨⟨?_, (f2 b hb).2⟩, by rw [h3, Heap.size_push]; exact Nat.lt_succ_of_lt hlt⟩
    rw [upd_ne (by rw [← hD]; exact Nat.ne_of_lt hlt)]
    exact (f2 b hb).1
  have st3 : tn 0 s3.heap := T.keep _ _ _ st2 fun b _ o e => by rw [h3]; exact Heap.get?_push_of_some _ e
  have I4 := block_start I3 ok hN f3
  have pg := hg s3 (upd H2 D (.lst [])) s3.heap.objs.size (cellsFrom (s3.heap.objs.size + 1) scope.names (cloFrom X.env.cells scope.names [])) fp
  have pt := ht s3 (upd H2 D (.lst [])) s3.heap.objs.size (cellsFrom (s3.heap.objs.size + 1) scope.names (cloFrom X.env.cells scope.names [])) fp
  have pe := he s3 (upd H2 D (.lst [])) s3.heap.objs.size (cellsFrom (s3.heap.objs.size + 1) scope.names (cloFrom X.env.cells scope.names [])) fp
  show codeAny _ _ (.compStart (.ListComp elt [⟨tg, iter, ifs, 0⟩] scope pos) 0 (.ref it) (.ref D) (compEnvC scope (cellsFrom (s3.heap.objs.size + 1) scope.names (cloFrom X.env.cells scope.names [])) s3.heap.objs.size X.env)) (compPost (model X.prog X.w) X.A X.xe use Qf (.ref D) s3.heap.objs.size) { s3 with heap := pushCells (s3.heap.push { cls := .type "dict", data := .dict #[] }) scope.names }
  have nfp : ∀ b ∈ fp, (upd H2 D (.lst [])) b = none := fun b hb => (f3 b hb).1.1
  have cF : (compEnvC scope (cellsFrom (s3.heap.objs.size + 1) scope.names (cloFrom X.env.cells scope.names [])) s3.heap.objs.size X.env).frame = X.env.frame := rfl
  generalize hce : compEnvC scope (cellsFrom (s3.heap.objs.size + 1) scope.names (cloFrom X.env.cells scope.names [])) s3.heap.objs.size X.env = ce at I4 pg pt pe cF ⊢
  have cL : ce.locals = s3.heap.objs.size := by subst hce; rfl
  generalize hH3 : upd H2 D (.lst []) = H3 at I3 I4 pg pt pe w0 nfp f3
  have ps := blk_passes (use := use) (Qf := Qf) (acc := .ref D) (scope := scope) (fp := fp) hst hfm hex hx I3 f3 cL cF
  replace pg := pg (notedBy (model X.prog X.w) X.A ce fun e s' => compPost (model X.prog X.w) X.A X.xe use Qf (.ref D) s3.heap.objs.size (.error e) s')
  replace pt := pt (notedBy (model X.prog X.w) X.A ce fun e s' => compPost (model X.prog X.w) X.A X.xe use Qf (.ref D) s3.heap.objs.size (.error e) s')
  replace pe := pe _ ps
  replace I4 := I4.reXe (notedBy (model X.prog X.w) X.A ce fun e s' => compPost (model X.prog X.w) X.A X.xe use Qf (.ref D) s3.heap.objs.size (.error e) s')
  generalize hXB : ({ X.blk s3 H3 scope ce fp with xe := notedBy (model X.prog X.w) X.A ce fun e s' => compPost (model X.prog X.w) X.A X.xe use Qf (.ref D) s3.heap.objs.size (.error e) s' } : Cx) = XB at pg pt pe I4
  have eP : XB.prog = X.prog := by subst hXB; rfl
  have eW : XB.w = X.w := by subst hXB; rfl
  have eK : XB.K = X.K := by subst hXB; rfl
  have eC : XB.calm = true := by subst hXB; exact hc
  have eE : XB.env = ce := by subst hXB; rfl
  have eA : XB.A = X.A := by subst hXB; rfl
  have eX : XB.xe = notedBy (model X.prog X.w) X.A ce fun e s' => compPost (model X.prog X.w) X.A X.xe use Qf (.ref D) s3.heap.objs.size (.error e) s' := by subst hXB; rfl
  generalize hs4 : ({ s3 with heap := pushCells (s3.heap.push { cls := .type "dict", data := .dict #[] }) scope.names } : Shared) = s4 at I4 ⊢
  have st4 : tn 0 s4.heap := T.keep _ _ _ st3 fun b _ o e => by rw [← hs4]; exact pushCells_keeps _ _ _ _ (Heap.get?_push_of_some _ e)
  have stat : ∀ {σ' : St} {H' : Hp} {s' : Shared}, Inv XB [] σ' H' s' → (∀ b ∈ fp, H' b = none) → ∀ b ∈ fp, FpOk XB [] H' b := fun {σ' H' s'} I' hn b hb => by
    subst hXB
    exact ⟨hn b hb, (I'.ok.exf b hb).1, I'.ok.exfs b hb, .inl hb, fun x c e => (I'.ok.exf b hb).2 x c e, fun p hp => absurd (show p ∈ ([] : List (Addr × Obj)) ++ [] from hp) (by simp)⟩
  have loop : codeAny (model X.prog X.w) X.A (.compLoop (.ListComp elt [⟨tg, iter, ifs, 0⟩] scope pos) 0 (.ref it) (.ref D) ce) (compPost (model X.prog X.w) X.A X.xe use Qf (.ref D) s3.heap.objs.size) s4 := by
    refine compLoop_any (fun n s' => ∃ i H', Inv XB [] (wipe σ (own.map (·.2))) H' s' ∧ tn i s'.heap ∧ (∀ b ∈ fp, H' b = none) ∧ W i n H') ?_ m0 ⟨0, H3, I4, st4, nfp, w0⟩
    rintro n s5 ⟨i, H5, I5, st5, n5, w5⟩
    rcases turn i n H5 w5 with ⟨stop, qq⟩ | ⟨go, Nx, hNx, step⟩
    · have td := T.done XB eP eW eK eC i [] s5 _ H5 (fun _ _ => False) I5 (stat I5 n5) st5 stop
      rw [eA] at td
      refine thnF td fun r s6 ⟨hr, I6⟩ => ?_
      subst hr
      have I6' : Inv { X.blk s3 H3 scope ce fp with xe := notedBy (model X.prog X.w) X.A ce fun e s' => compPost (model X.prog X.w) X.A X.xe use Qf (.ref D) s3.heap.objs.size (.error e) s' } [] (wipe σ (own.map (·.2))) H5 s6 := by rw [hXB]; exact I6
      -- back in the def's context
      have I7 : Inv X pins σ H5 s6 := I3.call' (ch := fp) I6'.os I6'.base I6'.hok I6'.bare fun b hb => ⟨(f3 b hb).1.2.2.2.1, (f3 b hb).1.2.1, (f3 b hb).1.2.2.2.2.1, (f3 b hb).1.2.2.2.2.2⟩
      have nC : H5 s3.heap.objs.size = none := by
        have z : H5 ce.locals = none := I6'.free
        rw [cL] at z
        exact z
      obtain ⟨m, hn, _⟩ := I6'.loc
      have hn : s6.heap.Ns ce.locals m := hn
      rw [cL] at hn
      exact hRR D s3.heap.objs.size s6 m H5 I7 qq hn (I3.fpOk (Nat.le_refl _) nC)
    · have ti := T.item XB eP eW eK eC i [] s5 _ H5 (fun _ _ => False) I5 (stat I5 n5) st5 go
      rw [eA] at ti
      refine thnF ti fun r s6 ⟨u, hr, h6⟩ => ?_
      subst hr
      refine thnF h6 fun _ s7 ⟨x, H7, I7, r7, y7, st7, n7⟩ => ?_
      have I7' := I7.pinned (stat I7 n7) (T.obj _ _ st7)
      have pg' := pg.run _ s7 _ H7 x u _ I7' r7 (step x H7 y7)
      rw [eP, eW, eA, eE, eX] at pg'
      refine thn pg' fun _ s8 ⟨σ8, H8, I8, hw8, q8⟩ => ?_
      have pt' := pt.run _ s8 σ8 H8 _ I8 q8
      rw [eP, eW, eA, eE, eX] at pt'
      refine thn pt' fun b s9 ⟨H9, I9, q9⟩ => ?_
      -- the turn's end
      have fin : ∀ {s' : Shared} {H' : Hp}, Inv XB ([] ++ pinsAt fp s7.heap) σ8 H' s' → Nx H' → ∃ m, m < n ∧ ∃ i H', Inv XB [] (wipe σ (own.map (·.2))) H' s' ∧ tn i s'.heap ∧ (∀ b ∈ fp, H' b = none) ∧ W i m H' := fun {s' H'} I' nx => by
        obtain ⟨m', hm, w'⟩ := hNx H' nx
        have pin' : ∀ b ∈ fp, ∀ o, s7.heap.get? b = some o → s'.heap.get? b = some o ∧ H' b = none := fun b hb o e =>
          let z := I'.pin (b, o) (List.mem_append_right _ (List.mem_append_right _ (mem_pinsAt hb e)))
          ⟨z.1, z.2.1⟩
        have hl : (wipe σ (own.map (·.2))).length = σ8.length := by rw [← hw8, wipe_length]
        refine ⟨m', hm, i + 1, H', (I'.unpinned (pins := [])).weak hl (fun j v e => ?_), T.keep _ _ _ st7 fun b hb o e => (pin' b hb o e).1, fun b hb => ?_, w'⟩
        · rw [← hw8] at e
          exact (wipe_some e).1
        · obtain ⟨o, e, _⟩ := T.obj _ _ st7 b hb
          exact (pin' b hb o e).2
      cases b with
      | false =>
        simp only [Bool.false_eq_true, if_false] at q9 ⊢
        exact fin I9 q9
      | true =>
        simp only [if_true] at q9 ⊢
        have pe' := pe.run _ s9 σ8 H9 _ I9 q9
        rw [eP, eW, eA, eE, eX] at pe'
        refine thn pe' fun z s10 ⟨yv, H10, I10, r10, acc, hD10, hz10, nx⟩ => ?_
        have ap : wpAny (model XB.prog XB.w) XB.A (call (.builtin "list.append") [.ref D, z]) (fun _ s' => ∃ m, m < n ∧ ∃ i H', Inv XB [] (wipe σ (own.map (·.2))) H' s' ∧ tn i s'.heap ∧ (∀ b ∈ fp, H' b = none) ∧ W i m H')
            (notedBy (model X.prog X.w) X.A ce fun e s' => compPost (model X.prog X.w) X.A X.xe use Qf (.ref D) s3.heap.objs.size (.error e) s') s10 := app_ok (X := XB) I10 hD10 hz10 r10 fun s11 I11 => fin I11 nx
        rw [eP, eW, eA] at ap
        exact ap
  exact codeAny_compStart_list loop (T.self X.A 0 _ _ _ st4 loop)
/-- [f(x) for x in ..], f(x) may raise what the def may raise -/
theorem pe_lcX {elt tg iter : Expr} {ifs : List Expr} {scope : Scope} {own : List (Str × Nat)} {pos : Pos} {wi : TI} {g : TG} {tt : TT} {te : TE} {E₁ : Value → Shared → Prop}
    (hst : X.stack = X.env :: X.outer) (hfm : X.env.frame = some X.env.locals) (hex : X.ex = [])
    (hx : X.xe = fun e s' => wpAny (model X.prog X.w) X.A (leaving X.env e) (fun _ s'' => CX X.prog X.w X.outer X.H_0 X.s_0 E e s'') E₁ s')
    (hc : X.calm = true) (hN : X.N.Nodup) (hi : PI X tg iter wi) (ok : BlkOk X.N X.env.scope scope own)
    (hg : ∀ (s : Shared) (H : Hp) (C : Addr) (cl : List (Str × Addr)) (fp : List Addr) (xb : Value → Shared → Prop), PG { X.blk s H scope (compEnvC scope cl C X.env) fp with xe := xb } tg g) (ht : ∀ (s : Shared) (H : Hp) (C : Addr) (cl : List (Str × Addr)) (fp : List Addr) (xb : Value → Shared → Prop), PTs { X.blk s H scope (compEnvC scope cl C X.env) fp with xe := xb } ifs tt)
    (he : ∀ (s : Shared) (H : Hp) (C : Addr) (cl : List (Str × Addr)) (fp : List Addr) (xb : Value → Shared → Prop), Passes (CX X.prog X.w) { X.blk s H scope (compEnvC scope cl C X.env) fp with xe := xb } E → PE { X.blk s H scope (compEnvC scope cl C X.env) fp with xe := xb } elt te)
    (hs : ∀ x, foldedSetIterable iter X.env x = pure x := by intro _; rfl) : PE X (.ListComp elt [⟨tg, iter, ifs, 0⟩] scope pos) (tLc wi g tt te (own.map (·.2))) := by
  refine ⟨fun pins s σ H Q I h => ?_⟩
  rw [eval_ListComp]
  refine lc_coreX hst hfm hex hx hc hN I hi ok hg ht he hs h fun D C s' m H' I' q hn f => ⟨m, hn, fun h'' sb => ?_⟩
  obtain ⟨f0, f1, f2, f3, f4, f5⟩ := f
  exact ⟨.ref D, H', I'.turned (t' := s'.toks) (fun b o hb e => (sb.2 b hb).trans e) f0 f1 f3 f4 f5, rfl, q⟩
end
end L2

namespace L2
open PySem PySem.Spec PyProof.Rows
/-! ### list(o), o's __iter__ gives iter(o.f), f a list, and __len__ is a def -/
section
variable {X : Cx} {pins : List (Addr × Obj)} {σ : St}
theorem listI_loop {A1 : Around} {q it l : Addr} {xs : List V} {H0 : Hp} {Rs : Result → Shared → Prop} (hh : A1.in1.handled = none) (hz : xs.length ≤ sizeLine) (nq : H0 q = none) (nit : H0 it = none) (nqi : q ≠ it) (nl : l ≠ q) (hl : SqL X.K H0 l xs)
    (hf : ∀ H', H' it = none → FpOk X pins H' it) (hdone : ∀ s, Inv X pins σ (upd H0 q (.lst xs)) s → Rs (.ok (.ret .none)) s) :
    ∀ (m i : Nat) (s : Shared), xs.length - i = m → i ≤ xs.length → Inv X pins σ (upd H0 q (.lst (xs.take i))) s → s.heap.IsListIter it l i → codeAny (model X.prog X.w) A1 (.builtin "list.extend.loop" ⟨[.ref q, .ref it, .none], []⟩) Rs s := by
  have nitq : ∀ o, (upd H0 q o) it = none := fun o => by rw [upd_ne nqi.symm]; exact nit
  have hlq : ∀ o, SqL X.K (upd H0 q o) l xs := fun o => by
    rcases hl with (h | ⟨o', h⟩) | h
    · exact .inl (.inl (by rw [upd_ne nl]; exact h))
    · exact .inl (.inr ⟨o', by rw [upd_ne nl]; exact h⟩)
    · exact .inr h
  intro m
  induction m with
  | zero =>
    intro i s hm hi I st
    have e : i = xs.length := by omega
    subst e
    obtain ⟨its, rv, pl, _⟩ := I.list (hlq _)
    refine codeAny_builtin PySem.F.entry_extend_loop ?_
    rw [Around.under_plainId PySem.F.plain_extend_loop _]
    show wpAny _ A1.in1 (pyNext (.ref it) >>= _) _ _ s
    obtain ⟨f0, f1, f2, f3, f4, f5⟩ := hf _ (nitq (.lst xs))
    refine wpAny_bind (wpAny_pyNext_list_end hh st pl.isList (by have := rv.length; simp; omega) fun h' he' => wpAny_pure (hdone _ ?_))
    rw [List.take_length] at I
    exact I.turned (it := it) (t' := s.toks) (fun b o hb e => he' b o hb e) (nitq _) f1 f3 f4 f5
  | succ m ih =>
    intro i s hm hi I st
    have hlt : i < xs.length := by omega
    obtain ⟨its, rv, pl, _⟩ := I.list (hlq _)
    have hx : xs[i]? = some xs[i] := List.getElem?_eq_getElem hlt
    obtain ⟨u, hu, ri⟩ := rv.get hx
    refine codeAny_builtin PySem.F.entry_extend_loop ?_
    rw [Around.under_plainId PySem.F.plain_extend_loop _]
    show wpAny _ A1.in1 (pyNext (.ref it) >>= _) _ _ s
    obtain ⟨f0, f1, f2, f3, f4, f5⟩ := hf _ (nitq (.lst (xs.take i)))
    refine wpAny_bind (wpAny_pyNext_list_item st pl.isList (x := u) (by simpa using hu) fun h' hit' hs' => ?_)
    have I' := I.turned (it := it) (h' := h') (t' := s.toks) (fun b o hb e => hs'.extBut b o hb e) (nitq _) f1 f3 f4 f5
    show wpAny _ A1.in1 (updateSeq q (·.push u) >>= _) _ _ _
    obtain ⟨z, its2, k, r2, hl2, e⟩ := I'.lstM upd_same
    refine wpAny_bind (wpAny_updateSeq e rfl (wpAny_pure ⟨plainId_quiet PySem.F.plain_extend_loop _, ?_⟩) (by rw [List.size_toArray]; rw [List.length_take] at hl2; omega) (by show (its2.toArray.push u).size ≤ sizeLine + 1; rw [Array.size_push, List.size_toArray]; rw [List.length_take] at hl2; omega))
    refine ih (i + 1) _ (by omega) hlt ?_ (hit'.at fun o e => (Heap.get?_update_other _ _ nqi).trans e)
    have I2 := I'.lset (f := (·.push u)) (its' := its2 ++ [u]) (t' := s.toks) upd_same e (by simp) (r2.append (.cons ri .nil)) (by rw [List.length_append, List.length_take]; show _ + 1 ≤ _; omega)
    rw [upd_upd] at I2
    rw [List.take_add_one, hx]
    exact I2
variable {CI CL : CXT} {k : Nat} {g fL C : Addr} {fl : Str} {fdL : FuncData} {psL : List Str} {spL : Sp} {EL : XK}
def rListI (K : PySem.W.Frag) (C : Addr) (fl : Str) (spL : Sp) (EL : XK) : List V → Hp → VK → Prop := fun vs H Q => ∃ (a dx l : Addr) (fs : List (Str × V)) (xs : List V), vs = [.ref a] ∧ H a = some (.ins C dx fs) ∧ fs.lookup fl = some (.ref l) ∧ SqL K H l xs ∧ xs.length ≤ 1000 ∧
  (∀ q, H q = none → spL [.ref a] (upd H q (.lst [])) (fun v H' => (∃ n : Nat, v = .int (n : Int) ∧ n ≤ 1000) ∧ H' = upd H q (.lst [])) EL) ∧ ∀ q, H q = none → Q (.ref q) (upd H q (.lst xs))
theorem call_listI (m : Meth X.K C "__iter__" g) (FI : IterOk X.prog X.w X.K X.mg X.base k g C fl) (ml : Meth X.K C "__len__" fL) (FL : FnOk X.prog X.w X.K X.mg X.base CX0 k fL fdL psL spL) (bL : Binds X.K fdL psL []) (hc : X.calm = true) (hr : Room (k + 4) X.A) :
    CallR X (.type "list") (rListI X.K C fl spL E0) := by
  intro pins s σ H vs us Q I rv h
  obtain ⟨a, dx, l, fs, xs, rfl, ha, hfl, hl, hz, hsp, hq⟩ := h
  obtain ⟨u, rfl, ru⟩ := rv.one
  cases ru
  have sb : Sub X (k + 2) X.A.in1.in1 := (Sub.in1 (Sub.in1 (⟨hr, rfl⟩ : Sub X (k + 4) X.A)))
  refine callType_codes (Q₁ := fun obj s₁ => obj = .ref s.heap.objs.size ∧ s₁ = { s with heap := s.heap.push { cls := .type "list", data := .seq #[] } }) PySem.F.called_list (PySem.F.typeCall_list_1 _) PySem.F.entry_list_init
    (code_list_new _ ⟨rfl, rfl⟩) fun obj s₁ h₁ => ?_
  obtain ⟨rfl, rfl⟩ := h₁
  have hS : (s.heap.push { cls := .type "list", data := .seq #[] }).get? s.heap.objs.size = some { cls := .type "list", data := .seq #[] } := Heap.get?_push_size _ rfl
  refine ⟨⟨_, hS, rfl⟩, PySem.F.args_list_init_2 _ _, ?_⟩
  have fr : H s.heap.objs.size = none := I.hok.fresh (Nat.le_refl _)
  have I1 : Inv X pins σ (upd H s.heap.objs.size (.lst [])) { s with heap := s.heap.push { cls := .type "list", data := .seq #[] } } := I.lnew (its := []) (t' := s.toks) .nil (Nat.zero_le _)
  show wpAny _ _ (do let old ← Builtin.List.listItems (.ref s.heap.objs.size); Builtin.List.listUpdate (.ref s.heap.objs.size) (fun _ => #[]); letGo old.toList.reverse; Builtin.List.listExtendWith (.ref s.heap.objs.size) (.ref a) .none) _ _ _
  refine wpAny_bind ?_
  unfold Builtin.List.listItems
  refine wpAny_bind (wpAny_seqItems hS rfl (wpAny_pure ?_))
  show wpAny _ _ (updateSeq s.heap.objs.size (fun _ => #[]) >>= fun _ => letGo (#[] : Array Value).toList.reverse >>= fun _ => Builtin.List.listExtendWith (.ref s.heap.objs.size) (.ref a) .none) _ _ _
  refine wpAny_bind (wpAny_updateSeq hS rfl ?_)
  have I2 := I1.lset (f := fun _ => #[]) (its := []) (its' := []) (ys := []) (t' := s.toks) upd_same hS rfl .nil (Nat.zero_le _)
  rw [upd_upd] at I2
  refine wpAny_bind (wpAny_letGo ?_)
  have nlq : l ≠ s.heap.objs.size := fun z => by
    obtain ⟨its, rv, pl, _⟩ := I.list hl
    obtain ⟨o, ho, _⟩ := pl.isList
    have := Heap.lt_size ho
    rw [z] at this
    exact absurd this (Nat.lt_irrefl _)
  have hQ := hq _ fr
  have hL := hsp _ fr
  revert I2 fr nlq hQ hL
  generalize s.heap.objs.size = q
  generalize ({ s with heap := _, toks := _ } : Shared) = s2
  intro fr I2 nlq hQ hL
  have naq : a ≠ q := ne_of_none ha fr
  have ha2 : (upd H q (.lst [])) a = some (.ins C dx fs) := by rw [upd_ne naq]; exact ha
  obtain ⟨ox, od, J⟩ := inst_of I2 ha2
  obtain ⟨mf, hF⟩ := I2.fr
  unfold Builtin.List.listExtendWith
  refine wpAny_bind (J.type.here ?_)
  have h1 : Builtin.List.listSameRef (.ref q) (.ref a) = false := by simp [Builtin.List.listSameRef, naq.symm]
  have h2 : (Value.ref C == Value.type "list") = false := rfl
  have h3 : (Value.ref C == Value.type "tuple") = false := rfl
  simp only [h1, h2, h3, Bool.or_false, Bool.false_eq_true, if_false]
  have e0 : Env0 X.prog X.w X.K X.mg X.base X.A.in1.in1 X.stack s2 (upd H q (.lst [])) := by
    have e := I2.env0
    exact ⟨by rw [sb.fr]; exact e.frames, e.mod, e.bs, e.bsz, e.funs, e.frf, e.hok, e.bare⟩
  have hl2 : SqL X.K (upd H q (.lst [])) l xs := by
    rcases hl with (h | ⟨o', h⟩) | h
    · exact .inl (.inl (by rw [upd_ne nlq]; exact h))
    · exact .inl (.inr ⟨o', by rw [upd_ne nlq]; exact h⟩)
    · exact .inr h
  refine wpAny_bind (PySem.W.owit_iter hF I2.ok.mod.kin J m.at_ m.fn (wpAny_call (codeAny_mono (FI X.A.in1.in1 X.stack s2 (upd H q (.lst [])) a dx l fs xs (fun v H2 => ∃ it, v = .ref it ∧ (upd H q (.lst [])) it = none ∧ s2.heap.objs.size ≤ it ∧ H2 = upd (upd H q (.lst [])) it (ItO l it 0)) E0 (sb.room.mono (by omega)) e0 ha2 hfl hl2 fun it n1 n2 => ⟨it, rfl, n1, n2, rfl⟩) fun r s' z => ?_)))
  match r, z with
  | .error _, z => exact z.elim
  | .ok (.ret u), z =>
    obtain ⟨v2, H2, I3, r2, it, rfl, n1, n2, rfl⟩ := I2.after z
    cases r2
    have eo := itO_get I3 upd_same
    have hT : s'.TypeIs (.ref it) "list_iterator" := ⟨_, eo, rfl⟩
    have I4 := ItX.inv_drop I3 (a := it) (by rw [upd_same]; rfl)
    rw [ItX.dropH_upd n1] at I4
    refine wpAny_specialOf (name := Str.ofString "__next__") hT slot_listiter_next.lookup ?_
    obtain ⟨ox4, od4, J4⟩ := inst_of I4 ha2
    show wpAny (model X.prog X.w) X.A.in1.in1 (do
            let room ← holding [Value.ref it] (Builtin.List.listLengthHint (Value.ref a))
            _) _ _ s'
    refine wpAny_bind (wpAny_holding ?_)
    unfold Builtin.List.listLengthHint
    refine wpAny_bind (wpAny_bind (J4.type.here ((PySem.W.looks_findIn I4.kIn ml.at_).here ?_)))
    refine PySem.W.KFB.if_not rfl ?_
    refine wpAny_ite_split (fun _ => ?_) (fun hab => absurd rfl hab)
    refine wpAny_bind (wpAny_rule ?_)
    obtain ⟨mf4, hF4⟩ := I4.fr
    have fpI : FpOk X pins (upd H q (.lst [])) it := I2.fpOk n2 n1
    have oI : ∀ b ∈ [it], ∃ o, s'.heap.get? b = some o ∧ ∀ v, o.data ≠ .cell v := fun b hb => by
      obtain rfl : b = it := by simpa using hb
      exact ⟨_, eo, fun v z => nomatch z⟩
    have I4n : Inv X.nox (pins ++ pinsAt [it] s'.heap) σ (upd H q (.lst [])) s' := (I4.pinned (fp := [it]) (fun b hb => by rw [List.mem_singleton.mp hb]; exact fpI) oI).wish _
    have lenq : wpAny (model X.prog X.w) X.A.in1.in1 (call (.builtin "len") [.ref a]) (fun nv s6 => ∃ (n : Nat) (t : Tok), nv = .int (n : Int) t ∧ n ≤ 1000 ∧ Inv X pins σ (upd H q (.lst [])) s6 ∧ s6.heap.IsListIter it l 0) (fun _ _ => False) s' := by
      refine PySem.W.len_K hF4 I4.ok.mod.kin J4 ml.at_ ml.fn (thn (run_sub (X := X.nox) (A1 := X.A.in1.in1.in1) (us := [.ref a]) (vs := [.ref a]) (stack_of I4) FL ((sb.room.mono (by omega)).in1 (k := k)) bL pass0 I4n (.cons rfl .nil) hL) fun r s5 z => ?_)
      obtain ⟨z1, H1, I5, r1, ⟨n, rfl, hn⟩, rfl⟩ := z
      obtain ⟨t, rfl⟩ := r1
      have g5 := (I5.pin (it, _) (List.mem_append_right _ (List.mem_append_right _ (mem_pinsAt (List.mem_singleton.mpr rfl) eo)))).1
      exact ⟨⟨by omega, by omega⟩, n, _, rfl, hn, (I5.unwish.unpinned (pins := pins)).tok _, ⟨_, g5, rfl, rfl⟩⟩
    refine wpAny_bind (wpAny_attempt (thnF lenq fun nv s6 h6 => ?_))
    obtain ⟨n, t, rfl, hn, I6, st6⟩ := h6
    have hbig : Builtin.List.listTooLong ((n : Int)).toNat = false := by
      unfold Builtin.List.listTooLong
      rw [Int.toNat_natCast]
      have : 1000 < sizeLine := by decide
      exact decide_eq_false (by omega)
    refine wpAny_bind (wpAny_pure ?_)
    refine PySem.W.KFB.if_not hbig (wpAny_pure ?_)
    have big : 1000 < sizeLine := by decide
    have nqi : q ≠ it := fun z => by
      rw [← z, upd_same] at n1; cases n1
    have nitH : H it = none := by rw [upd_ne nqi.symm] at n1; exact n1
    have loop : ∀ s7, Inv X pins σ (upd H q (.lst [])) s7 → s7.heap.IsListIter it l 0 → codeAny (model X.prog X.w) X.A.in1 (.builtin "list.extend.loop" ⟨[.ref q, .ref it, .none], []⟩) (wants (fun r s₂ => r = .none ∧ EP X pins σ Q (.ref q) s₂) X.xe) s7 := fun s7 I7 st7 =>
      listI_loop (A1 := X.A.in1) (H0 := H) (by exact I7.ok.hd hc) (by omega) fr nitH nqi nlq hl (fun H' nH => ⟨nH, fpI.2⟩) (fun s8 I8 => ⟨rfl, .ref q, _, I8, rfl, hQ⟩) xs.length 0 s7 (by omega) (Nat.zero_le _) (by rw [List.take_zero]; exact I7) st7
    refine wpAny_ite_split (fun _ => ?_) (fun _ => wpAny_pure ⟨plainId_quiet PySem.F.plain_extend_loop _, loop s6 I6 st6⟩)
    refine wpAny_bind (wpAny_rule ?_)
    refine wpAny_bind ?_
    obtain ⟨z3, its3, k3, r3, hl3, e3⟩ := I6.lstM upd_same
    cases r3
    show wpAny _ _ (updateSeq q (·.push .none) >>= fun _ => updateSeq q (·.pop)) _ _ _
    refine wpAny_bind (wpAny_updateSeq e3 rfl ?_)
    have I7 := I6.lset (f := (·.push Value.none)) (its' := [Value.none]) (ys := [.non]) (t' := s6.toks) upd_same e3 (by simp) (.cons rfl .nil) (by rw [List.length_singleton, sizeLine_eq]; decide)
    obtain ⟨z4, its4, k4, r4, hl4, e4⟩ := I7.lstM upd_same
    obtain ⟨u4, rfl, ru4⟩ := r4.one
    refine wpAny_updateSeq e4 rfl ?_ (by show 1 ≤ sizeLine; rw [sizeLine_eq]; decide) (by show 0 ≤ sizeLine + 1; exact Nat.zero_le _)
    have I8 := I7.lset (f := (·.pop)) (its := [u4]) (its' := []) (ys := []) (t' := s6.toks) upd_same e4 (by rfl) .nil (Nat.zero_le _)
    rw [upd_upd, upd_upd] at I8
    refine wpAny_pure ⟨plainId_quiet PySem.F.plain_extend_loop _, loop _ I8 (st6.at fun o e => ?_)⟩
    exact (Heap.get?_update_other _ _ nqi).trans ((Heap.get?_update_other _ _ nqi).trans e)
end
end L2

namespace L2
open PySem PySem.Spec PyProof.Rows
section
variable {X : Cx} {a b c d : Expr} {ta tb tc td : TE} {pos : Pos}
/-- a op b op' c op'' d -/
def tChain3 (r r' r'' : R2) (ta tb tc td : TE) : TE := fun σ H Q => ta σ H fun x H1 => tb σ H1 fun y H2 => r x y H2 fun z H3 => ∃ k, z = .bl k ∧
  (if k = true then tc σ H3 fun v H4 => r' y v H4 fun z' H5 => ∃ k', z' = .bl k' ∧ (if k' = true then td σ H5 fun u H6 => r'' v u H6 Q else Q (.bl false) H5) else Q (.bl false) H3)
theorem pe_chain3 {op op' op'' : CmpOp} {r r' r'' : R2} (ho : OpR X (compareOp op) r) (ho' : OpR X (compareOp op') r') (ho'' : OpR X (compareOp op'') r'') (ha : PE X a ta) (hb : PE X b tb) (hc : PE X c tc) (hd : PE X d td)
    (hm : lastMarks [op, op', op''] [b, c, d] = false := by with_unfolding_all rfl) : PE X (.Compare a [op, op', op''] [b, c, d] pos) (tChain3 r r' r'' ta tb tc td) := by
  refine ⟨fun pins s σ H Q I h => ?_⟩
  refine Compare_chain (thn (ha.run pins s σ H _ I h) fun v s1 ⟨x, H1, I1, r1, q1⟩ => chain_link (thn (hb.run pins s1 σ H1 _ I1 q1) fun u s2 ⟨y, H2, I2, r2, q2⟩ =>
    thn (ho pins s2 σ H2 x y v u _ I2 r1 r2 q2) fun d s3 ⟨z, H3, I3, r3, k, e, q3⟩ => ?_)) hm
  subst e
  cases r3
  refine wpAny_truthy_bool ?_
  cases k with
  | false => exact ite_ff ⟨.bl false, H3, I3, rfl, q3⟩
  | true =>
    refine ite_tt (chain_link (thn (hc.run pins s3 σ H3 _ I3 q3) fun w' s4 ⟨z', H4, I4, r4, q4⟩ => thn (ho' pins s4 σ H4 y z' u w' _ I4 r2 r4 q4) fun d5 s5 ⟨z5, H5, I5, r5, k', e5, q5⟩ => ?_))
    subst e5
    cases r5
    refine wpAny_truthy_bool ?_
    cases k' with
    | false => exact ite_ff ⟨.bl false, H5, I5, rfl, q5⟩
    | true => exact ite_tt (chain_last (thn (hd.run pins s5 σ H5 _ I5 q5) fun w6 s6 ⟨z6, H6, I6, r6, q6⟩ => ho'' pins s6 σ H6 z' z6 w' w6 Q I6 r4 r6 q6))
end
end L2
namespace L2
open PySem PySem.Spec PyProof.Rows
def rInKd (neg : Bool) : R2 := fun x y H Q => ∃ a o, y = .ref a ∧ DGet H a x o ∧ Q (.bl (if neg then !o.isSome else o.isSome)) H
theorem op_inKd {X : Cx} (hu : X.A.units + 1 < cLine) : OpR X (compareOp .In) (rInKd false) := by
  intro pins s σ H x y v u Q I rx ry h
  obtain ⟨a, o, rfl, g, q⟩ := h
  cases ry
  exact d_in hu I g rx fun s3 I3 => ⟨.bl o.isSome, H, I3, rfl, q⟩
theorem op_ninKd {X : Cx} (hu : X.A.units + 1 < cLine) : OpR X (compareOp .NotIn) (rInKd true) := by
  intro pins s σ H x y v u Q I rx ry h
  obtain ⟨a, o, rfl, g, q⟩ := h
  cases ry
  exact d_notIn hu I g rx fun s3 I3 => ⟨.bl (!o.isSome), H, I3, rfl, q⟩
end L2

namespace L2
open PySem
theorem for_str {z : Str} {g : TG} {tb : TS} {D : Ends} {σ : L2.St} {H : Hp} (Pv : Nat → L2.St → Hp → Prop) (h0 : Pv 0 σ H)
    (hs : ∀ i c σ H, (TL.tl z)[i]? = some c → Pv i σ H → g (.str ⟨#[c]⟩) σ H fun σ2 H2 => tb { D with nx := Pv (i + 1), ct := Pv (i + 1), bk := D.nx } σ2 H2) (hd : ∀ σ H, Pv z.length σ H → D.nx σ H) :
    ∃ W : Nat → Nat → L2.St → Hp → Prop, (∃ m, W 0 m σ H) ∧ ∀ i m σ H, W i m σ H →
      ((Its z).stop i H ∧ D.nx σ H) ∨ ((Its z).go i H ∧ ∃ N : L2.St → Hp → Prop, (∀ σ' H', N σ' H' → ∃ m', m' < m ∧ W (i + 1) m' σ' H') ∧ ∀ x H', (Its z).yld i H x H' → g x σ H' fun σ2 H2 => tb { D with nx := N, ct := N, bk := D.nx } σ2 H2) := by
  refine ⟨fun i m σ H => m = z.length - i ∧ i ≤ z.length ∧ Pv i σ H, ⟨z.length, by simp, Nat.zero_le _, h0⟩, ?_⟩
  rintro i m σ H ⟨rfl, hi, p⟩
  by_cases hlt : i < z.length
  · refine .inr ⟨hlt, Pv (i + 1), fun σ' H' p' => ⟨z.length - (i + 1), by omega, rfl, hlt, p'⟩, fun x H' y => ?_⟩
    obtain ⟨e, c, hc, ex⟩ := y
    subst e ex
    exact hs i c σ _ (by show z.cps.toList[i]? = some c; rw [Array.getElem?_toList]; exact hc) p
  · have e : i = z.length := by omega
    subst e
    exact .inl ⟨Nat.le_refl _, hd σ H p⟩
end L2
namespace L2
open PySem
theorem pg_tupK {X : Cx} {K : PySem.W.Frag} {es : List Expr} {k : Nat} {t : TGs} {n : Nat} {pos : Pos} (hK : X.K = K) (hc : X.calm = true) (h : PGs X es t)
    (hn : (assignEach es X.env).length = n := by rfl) (hst : (assignEach es X.env).findIdx? (·.1) = none := by rfl) : PG X (.Tuple es k pos) (gTup K n t) := hK ▸ pg_tup hc h hn hst
end L2

namespace L2
open PySem PySem.Spec PyProof.Rows
theorem anyK {X : Cx} {K : PySem.W.Frag} (h : X.K = K) (hc : X.calm = true) : CallR X (.builtin "any") (rAny K) := h ▸ cr_any hc
end L2
namespace L2
open PySem
theorem lenK {X : Cx} {K : PySem.W.Frag} (h : X.K = K) : CallR X (.builtin "len") (fun xs H Q => ∃ p ys, xs = [V.ref p] ∧ (SqL K H p ys ∨ SqT K H p ys) ∧ Q (.int ((ys.length : Nat) : Int)) H) := h ▸ call_len_seq
theorem pi_listK {X : Cx} {K : PySem.W.Frag} {tg l : Expr} {tl : TE} (h : X.K = K) (hl : PE X l tl) : PI X tg l (iList K tl) := h ▸ pi_list hl
theorem pi_tupleK {X : Cx} {K : PySem.W.Frag} {tg l : Expr} {tl : TE} (h : X.K = K) (hl : PE X l tl) : PI X tg l (iTup K tl) := h ▸ pi_tup hl
def rListOf (K : PySem.W.Frag) : List V → Hp → VK → Prop := fun xs H Q => ∃ p ys, xs = [V.ref p] ∧ (SqL K H p ys ∨ SqT K H p ys) ∧ ∀ l, H l = none → Q (.ref l) (upd H l (.lst ys))
def rTupOf (K : PySem.W.Frag) : List V → Hp → VK → Prop := fun xs H Q => ∃ p ys, xs = [V.ref p] ∧ ((SqL K H p ys ∧ ∀ l, H l = none → Q (.ref l) (upd H l (.tup ys))) ∨ (SqT K H p ys ∧ Q (.ref p) H))
theorem listK {X : Cx} {K : PySem.W.Frag} (h : X.K = K) : CallR X (.type "list") (rListOf K) := h ▸ call_list_of
theorem tupleK {X : Cx} {K : PySem.W.Frag} (h : X.K = K) : CallR X (.type "tuple") (rTupOf K) := h ▸ call_tuple_of
end L2

namespace L2
open PySem PySem.Spec PyProof.Rows
theorem eqDK {X : Cx} {K : PySem.W.Frag} (h : X.K = K) (hu : X.A.units + 64 < cLine) : OpR X (compareOp .Eq) (rEqD K) := h ▸ op_eqD hu
theorem neDK {X : Cx} {K : PySem.W.Frag} (h : X.K = K) (hu : X.A.units + 64 < cLine) : OpR X (compareOp .NotEq) (rNeD K) := h ▸ op_neD hu
end L2

namespace L2
open PySem PySem.Spec PyProof.Rows
theorem FnOk.toR {P : Program} {w : World} {K : PySem.W.Frag} {mg : Str → Option Value} {base : Heap} {CX : CXT} {k : Nat} {f : Addr} {sp : Sp} {fd : FuncData} {ps : List Str} (F : FnOk P w K mg base CX k f fd ps sp) (hb : Binds K fd ps []) : FnR P w K mg base CX k f sp := (F.raw hb .nil).imp fun vs H Q E h => by rw [List.append_nil]; exact h
/-! ### o[k] = v by the class's own def; c(..), c a local name for a class -/
section
variable {X : Cx} {CX : CXT} {k : Nat} {f C : Addr} {fd : FuncData} {ps : List Str} {sp : Sp} {dvs : List V} {ds : List Value} {E : XK} {p pos : Pos} {e : Expr} {es : List Expr} {t : TA} {x : Str} {ta : TE}
def rSetI (C : Addr) (sp : Sp) (E : XK) : V → V → V → Hp → (Hp → Prop) → Prop := fun o i v H Q => ∃ a dx fs, o = .ref a ∧ H a = some (.ins C dx fs) ∧ sp [o, i, v] H (fun _ H' => Q H') E
theorem set_own (m : Meth X.K C "__setitem__" f) (hq : PySem.W.noSeq X.K C = true) (F : FnOk X.prog X.w X.K X.mg X.base CX k f fd ps sp) (hr : Room k X.A) (hb : Binds X.K fd ps []) (hx : Passes CX X E) : PSet X (rSetI C sp E) := by
  intro pins s σ H o i v ov iv u Q I ro ri rv h
  obtain ⟨a, dx, fs, rfl, ho, q⟩ := h
  cases ro
  obtain ⟨ox, od, J⟩ := inst_of I ho
  obtain ⟨mf, hF⟩ := I.fr
  exact PySem.W.ksp_setItem hF I.ok.mod.kin J hq m.at_ m.fn (thn (run_sub (us := [.ref a, iv, u]) (vs := [.ref a, i, v]) (stack_of I) F hr hb hx I (.cons rfl (.cons ri (.cons rv .nil))) q) fun w s' ⟨z', H', I', rz, qz⟩ => ⟨H', I', qz⟩)
def tMakeV (C : Addr) (sp : Sp) (dvs : List V) (E : XK) (ta : TE) (t : TA) : TE := fun σ H Q => ta σ H fun y H1 => y = .ref C ∧ tMake C sp dvs E t σ H1 Q
theorem pe_makeV (hn : PE X (.Name x p) ta) (M : Mk X.K C f) (F : FnOk X.prog X.w X.K X.mg X.base CX k f fd ps sp) (hr : Room (k + 1) X.A) (hb : Binds X.K fd ps ds) (hd : Vals dvs ds) (hx : Passes CX X E)
    (ha : PA X (e :: es) t) (he : starEach (e :: es) X.env = (false, eval e X.env) :: starEach es X.env := by rfl) (hpl : (backTo pos (starEach es X.env)).any (·.1) = false := by rfl) :
    PE X (.Call (.Name x p) (e :: es) [] pos) (tMakeV C sp dvs E ta t) := by
  refine ⟨fun pins s σ H Q I h => ?_⟩
  refine wpAny_Call_Name_kw (thn (hn.run pins s σ H _ I h) fun u s1 ⟨y, H1, I1, ry, ey, q⟩ => ?_)
  subst ey
  obtain rfl : u = Value.ref C := ry
  refine PySem.W.callWith_K (h₀ := X.base) I1.ok.mod.kin M.kp (thn (ha.run pos pins s1 σ H1 _ I1 q) fun us s2 ⟨vs, H2, I2, r, q⟩ => ⟨I2.kIn, ?_⟩) he hpl
  exact run_make M F hr hb hd hx I2 r q
end
end L2

namespace My
open PySem L2
abbrev PP : Program := PySem.Challenge.pw_weblocks_k60_loosenings_in_order
def topS (i : Nat) : Stmt := PySem.Challenge.pw_weblocks_k60_loosenings_in_order.main.body.getD i (.Pass ⟨0, 0, 0, 0⟩)
abbrev S_rank : Stmt := topS 19
abbrev S_Way_init : Stmt := inClass (topS 24) 1
abbrev S_Way_lowered : Stmt := inClass (topS 24) 4
abbrev S_Way_eq : Stmt := inClass (topS 24) 5
abbrev S_changed : Stmt := topS 28
abbrev S_with_way : Stmt := topS 29
abbrev S_loosenings : Stmt := topS 30
abbrev S_Policy_init : Stmt := inClass (topS 42) 0
abbrev S_Policy_iter : Stmt := inClass (topS 42) 1
abbrev S_Policy_len : Stmt := inClass (topS 42) 2
abbrev S_Policy_getitem : Stmt := inClass (topS 42) 3
abbrev S_Policy_setitem : Stmt := inClass (topS 42) 4
abbrev S_Policy_copy : Stmt := inClass (topS 42) 9
abbrev S_is_mark : Stmt := topS 46
abbrev S_sound_row : Stmt := topS 47
abbrev S_barren : Stmt := topS 48
abbrev S_Shape_init : Stmt := inClass (topS 49) 2
abbrev S_Shape_iter : Stmt := inClass (topS 49) 4
abbrev S_Shape_len : Stmt := inClass (topS 49) 5
abbrev S_Shape_eq : Stmt := inClass (topS 49) 7
abbrev S__law_draws : Stmt := topS 51
abbrev S__law_take : Stmt := topS 52
abbrev S__law_same : Stmt := topS 53
abbrev S__law_marks : Stmt := topS 54
abbrev S__law_rows : Stmt := topS 55
abbrev S__law_way : Stmt := topS 56
abbrev S__law_rules : Stmt := topS 57
abbrev S__law_shape : Stmt := topS 58
abbrev S__law_way_made : Stmt := topS 59
abbrev S__law_policy : Stmt := topS 60
abbrev S__law_reads : Stmt := topS 61
abbrev S__law_lowered : Stmt := topS 62
abbrev S__law_with : Stmt := topS 63
abbrev S__law_looser_rules : Stmt := topS 64
abbrev S__law_set : Stmt := topS 65
abbrev S__law_good : Stmt := topS 66
abbrev S_law : Stmt := topS 67
abbrev S_BadShape_init : Stmt := inClass (topS 4) 0
abbrev S_UnknownMark_init : Stmt := inClass (topS 5) 0
abbrev S_TooLarge_init : Stmt := inClass (topS 7) 0
abbrev S_BadLevel_init : Stmt := inClass (topS 3) 0
theorem sc_rank : FnScope ["level", "place", "word"] ["level"] (defScope S_rank) := ⟨rfl, rfl, rfl, by decide +kernel, rfl, by decide +kernel, by decide +kernel⟩
theorem sc_Way_init : FnScope ["self", "held", "owned", "seen", "early", "by_held", "by_owned", "by_seen"] ["self", "held", "owned", "seen", "early"] (defScope S_Way_init) := ⟨rfl, rfl, rfl, by decide +kernel, rfl, by decide +kernel, by decide +kernel⟩
theorem sc_Way_lowered : FnScope ["self", "part", "levels", "place", "way"] ["self", "part"] (defScope S_Way_lowered) := ⟨rfl, rfl, rfl, by decide +kernel, rfl, by decide +kernel, by decide +kernel⟩
theorem sc_Way_eq : FnScope ["self", "other"] ["self", "other"] (defScope S_Way_eq) := ⟨rfl, rfl, rfl, by decide +kernel, rfl, by decide +kernel, by decide +kernel⟩
theorem sc_changed : FnScope ["policy", "mark", "start", "ways", "twin"] ["policy", "mark", "start", "ways"] (defScope S_changed) := ⟨rfl, rfl, rfl, by decide +kernel, rfl, by decide +kernel, by decide +kernel⟩
theorem sc_with_way : FnScope ["policy", "mark", "index", "way", "start", "ways"] ["policy", "mark", "index", "way"] (defScope S_with_way) := ⟨rfl, rfl, rfl, by decide +kernel, rfl, by decide +kernel, by decide +kernel⟩
theorem sc_loosenings : GScope ["policy", "mark", "start", "ways", "index", "way", "part", "looser"] ["policy"] (defScope S_loosenings) := ⟨rfl, rfl, rfl, by decide +kernel, rfl, by decide +kernel, by decide +kernel⟩
theorem sc_Policy_init : FnScope ["self", "shape", "rows", "starts", "table", "mark", "start", "ways"] ["self", "shape", "rows"] (defScope S_Policy_init) := ⟨rfl, rfl, rfl, by decide +kernel, rfl, by decide +kernel, by decide +kernel⟩
theorem sc_Policy_iter : FnScope ["self"] ["self"] (defScope S_Policy_iter) := ⟨rfl, rfl, rfl, by decide +kernel, rfl, by decide +kernel, by decide +kernel⟩
theorem sc_Policy_len : FnScope ["self"] ["self"] (defScope S_Policy_len) := ⟨rfl, rfl, rfl, by decide +kernel, rfl, by decide +kernel, by decide +kernel⟩
theorem sc_Policy_getitem : FnScope ["self", "mark"] ["self", "mark"] (defScope S_Policy_getitem) := ⟨rfl, rfl, rfl, by decide +kernel, rfl, by decide +kernel, by decide +kernel⟩
theorem sc_Policy_setitem : FnScope ["self", "mark", "rule", "start", "ways"] ["self", "mark", "rule"] (defScope S_Policy_setitem) := ⟨rfl, rfl, rfl, by decide +kernel, rfl, by decide +kernel, by decide +kernel⟩
theorem sc_Policy_copy : FnScope ["self", "mark"] ["self"] (defScope S_Policy_copy) := ⟨rfl, rfl, rfl, by decide +kernel, rfl, by decide +kernel, by decide +kernel⟩
theorem sc_is_mark : FnScope ["text", "sign"] ["text"] (defScope S_is_mark) := ⟨rfl, rfl, rfl, by decide +kernel, rfl, by decide +kernel, by decide +kernel⟩
theorem sc_sound_row : FnScope ["row", "before", "mark", "parents", "least", "most", "shared", "good", "place", "parent"] ["row", "before"] (defScope S_sound_row) := ⟨rfl, rfl, rfl, by decide +kernel, rfl, by decide +kernel, by decide +kernel⟩
theorem sc_barren : FnScope ["rows", "known", "grown", "mark", "parents", "least", "_", "parent", "row"] ["rows"] (defScope S_barren) := ⟨rfl, rfl, rfl, by decide +kernel, rfl, by decide +kernel, by decide +kernel⟩
theorem sc_Shape_init : FnScope ["self", "rows", "listed", "marks", "row", "parent", "lost"] ["self", "rows"] (defScope S_Shape_init) := ⟨rfl, rfl, rfl, by decide +kernel, rfl, by decide +kernel, by decide +kernel⟩
theorem sc_Shape_iter : FnScope ["self"] ["self"] (defScope S_Shape_iter) := ⟨rfl, rfl, rfl, by decide +kernel, rfl, by decide +kernel, by decide +kernel⟩
theorem sc_Shape_len : FnScope ["self"] ["self"] (defScope S_Shape_len) := ⟨rfl, rfl, rfl, by decide +kernel, rfl, by decide +kernel, by decide +kernel⟩
theorem sc_Shape_eq : FnScope ["self", "other"] ["self", "other"] (defScope S_Shape_eq) := ⟨rfl, rfl, rfl, by decide +kernel, rfl, by decide +kernel, by decide +kernel⟩
theorem sc__law_draws : FnScope ["_law_script", "_law_draws_here", "_law_cell", "_law_rest", "_law_k", "_law_mixed"] ["_law_script"] (defScope S__law_draws) := ⟨rfl, rfl, rfl, by decide +kernel, rfl, by decide +kernel, by decide +kernel⟩
theorem sc__law_take : FnScope ["_law_draws_here", "_law_at", "_law_size"] ["_law_draws_here", "_law_at", "_law_size"] (defScope S__law_take) := ⟨rfl, rfl, rfl, by decide +kernel, rfl, by decide +kernel, by decide +kernel⟩
theorem sc__law_same : FnScope ["_law_actual", "_law_expected", "_law_k"] ["_law_actual", "_law_expected"] (defScope S__law_same) := ⟨rfl, rfl, rfl, by decide +kernel, rfl, by decide +kernel, by decide +kernel⟩
theorem sc__law_marks : FnScope ["_law_draws_here", "_law_at", "_law_count", "_law_letters", "_law_shift", "_law_front", "_law_marks_here", "_law_k", "_law_size", "_law_first", "_law_rest", "_law_j", "_law_sign"] ["_law_draws_here", "_law_at", "_law_count"] (defScope S__law_marks) := ⟨rfl, rfl, rfl, by decide +kernel, rfl, by decide +kernel, by decide +kernel⟩
theorem sc__law_rows : FnScope ["_law_draws_here", "_law_at", "_law_exclusive", "_law_marks_here", "_law_rows_here", "_law_k", "_law_mask", "_law_parents", "_law_j", "_law_most", "_law_least", "_law_mark", "_law_shared"] ["_law_draws_here", "_law_at", "_law_exclusive"] (defScope S__law_rows) := ⟨rfl, rfl, rfl, by decide +kernel, rfl, by decide +kernel, by decide +kernel⟩
theorem sc__law_way : FnScope ["_law_draws_here", "_law_at", "_law_menu", "_law_choice", "_law_owned", "_law_held", "_law_seen"] ["_law_draws_here", "_law_at"] (defScope S__law_way) := ⟨rfl, rfl, rfl, by decide +kernel, rfl, by decide +kernel, by decide +kernel⟩
theorem sc__law_rules : FnScope ["_law_draws_here", "_law_at", "_law_rows_here", "_law_rules_here", "_law_row", "_law_start", "_law_count", "_law_ways", "_law_k"] ["_law_draws_here", "_law_at", "_law_rows_here"] (defScope S__law_rules) := ⟨rfl, rfl, rfl, by decide +kernel, rfl, by decide +kernel, by decide +kernel⟩
theorem sc__law_shape : FnScope ["_law_rows_here", "_law_made", "_law_row"] ["_law_rows_here"] (defScope S__law_shape) := ⟨rfl, rfl, rfl, by decide +kernel, rfl, by decide +kernel, by decide +kernel⟩
theorem sc__law_way_made : FnScope ["_law_way_here", "_law_words"] ["_law_way_here"] (defScope S__law_way_made) := ⟨rfl, rfl, rfl, by decide +kernel, rfl, by decide +kernel, by decide +kernel⟩
theorem sc__law_policy : FnScope ["_law_shape_here", "_law_rules_here", "_law_policy_here", "_law_mark", "_law_way_here"] ["_law_shape_here", "_law_rules_here"] (defScope S__law_policy) := ⟨rfl, rfl, rfl, by decide +kernel, rfl, by decide +kernel, by decide +kernel⟩
theorem sc__law_reads : FnScope ["_law_policy_here", "_law_rules_here", "_law_words", "_law_mark", "_law_rule", "_law_ways", "_law_k", "_law_way_here", "_law_due"] ["_law_policy_here", "_law_rules_here"] (defScope S__law_reads) := ⟨rfl, rfl, rfl, by decide +kernel, rfl, by decide +kernel, by decide +kernel⟩
theorem sc__law_lowered : FnScope ["_law_way_here", "_law_found"] ["_law_way_here"] (defScope S__law_lowered) := ⟨rfl, rfl, rfl, by decide +kernel, rfl, by decide +kernel, by decide +kernel⟩
theorem sc__law_with : FnScope ["_law_rules_here", "_law_mark", "_law_begin", "_law_ways", "_law_changed", "_law_name"] ["_law_rules_here", "_law_mark", "_law_begin", "_law_ways"] (defScope S__law_with) := ⟨rfl, rfl, rfl, by decide +kernel, rfl, by decide +kernel, by decide +kernel⟩
theorem sc__law_looser_rules : FnScope ["_law_rules_here", "_law_found", "_law_mark", "_law_begin", "_law_ways", "_law_k", "_law_way_here"] ["_law_rules_here"] (defScope S__law_looser_rules) := ⟨rfl, rfl, rfl, by decide +kernel, rfl, by decide +kernel, by decide +kernel⟩
theorem sc__law_set : FnScope ["_law_policy_here", "_law_rules_here", "_law_mark", "_law_way_here"] ["_law_policy_here", "_law_rules_here"] (defScope S__law_set) := ⟨rfl, rfl, rfl, by decide +kernel, rfl, by decide +kernel, by decide +kernel⟩
theorem sc__law_good : FnScope ["_law_found", "_law_shape_here", "_law_due", "_law_k"] ["_law_found", "_law_shape_here", "_law_due"] (defScope S__law_good) := ⟨rfl, rfl, rfl, by decide +kernel, rfl, by decide +kernel, by decide +kernel⟩
theorem sc_law : FnScope ["_law_script", "_law_draws_here", "_law_at", "_law_rows_here", "_law_rules_here", "_law_rule", "_law_k", "_law_shape_here", "_law_policy_here", "_law_due", "_law_found", "_law_place", "_law_mark", "_law_looser"] ["_law_script"] (defScope S_law) := ⟨rfl, rfl, rfl, by decide +kernel, rfl, by decide +kernel, by decide +kernel⟩
structure Txt (K : PySem.W.Frag) (mg : Str → Option Value) where
  a_rank : Addr
  fd_rank : FuncData
  F_rank : Fun K "rank" "rank" S_rank a_rank fd_rank
  b_rank : Binds K fd_rank ["level"] []
  g_rank : mg "rank" = some (.ref a_rank)
  a_Way_init : Addr
  fd_Way_init : FuncData
  F_Way_init : FunD K "__init__" "Way.__init__" (defArgs S_Way_init) (defBody S_Way_init) (defScope S_Way_init) [.str "none", .str "none", .str "none"] [("early", .bl false)] a_Way_init fd_Way_init
  a_Way_lowered : Addr
  fd_Way_lowered : FuncData
  F_Way_lowered : Fun K "lowered" "Way.lowered" S_Way_lowered a_Way_lowered fd_Way_lowered
  b_Way_lowered : Binds K fd_Way_lowered ["self", "part"] []
  a_Way_eq : Addr
  fd_Way_eq : FuncData
  F_Way_eq : Fun K "__eq__" "Way.__eq__" S_Way_eq a_Way_eq fd_Way_eq
  b_Way_eq : Binds K fd_Way_eq ["self", "other"] []
  a_changed : Addr
  fd_changed : FuncData
  F_changed : Fun K "changed" "changed" S_changed a_changed fd_changed
  b_changed : Binds K fd_changed ["policy", "mark", "start", "ways"] []
  g_changed : mg "changed" = some (.ref a_changed)
  a_with_way : Addr
  fd_with_way : FuncData
  F_with_way : Fun K "with_way" "with_way" S_with_way a_with_way fd_with_way
  b_with_way : Binds K fd_with_way ["policy", "mark", "index", "way"] []
  g_with_way : mg "with_way" = some (.ref a_with_way)
  a_loosenings : Addr
  fd_loosenings : FuncData
  F_loosenings : Fun K "loosenings" "loosenings" S_loosenings a_loosenings fd_loosenings
  b_loosenings : Binds K fd_loosenings ["policy"] []
  g_loosenings : mg "loosenings" = some (.ref a_loosenings)
  a_Policy_init : Addr
  fd_Policy_init : FuncData
  ed_Policy_init_0 : Addr
  qe_Policy_init_0 : ∀ H : Hp, SqT K H ed_Policy_init_0 []
  F_Policy_init : FunD K "__init__" "Policy.__init__" (defArgs S_Policy_init) (defBody S_Policy_init) (defScope S_Policy_init) [.ref ed_Policy_init_0] [] a_Policy_init fd_Policy_init
  a_Policy_iter : Addr
  fd_Policy_iter : FuncData
  F_Policy_iter : Fun K "__iter__" "Policy.__iter__" S_Policy_iter a_Policy_iter fd_Policy_iter
  b_Policy_iter : Binds K fd_Policy_iter ["self"] []
  a_Policy_len : Addr
  fd_Policy_len : FuncData
  F_Policy_len : Fun K "__len__" "Policy.__len__" S_Policy_len a_Policy_len fd_Policy_len
  b_Policy_len : Binds K fd_Policy_len ["self"] []
  a_Policy_getitem : Addr
  fd_Policy_getitem : FuncData
  F_Policy_getitem : Fun K "__getitem__" "Policy.__getitem__" S_Policy_getitem a_Policy_getitem fd_Policy_getitem
  b_Policy_getitem : Binds K fd_Policy_getitem ["self", "mark"] []
  a_Policy_setitem : Addr
  fd_Policy_setitem : FuncData
  F_Policy_setitem : Fun K "__setitem__" "Policy.__setitem__" S_Policy_setitem a_Policy_setitem fd_Policy_setitem
  b_Policy_setitem : Binds K fd_Policy_setitem ["self", "mark", "rule"] []
  a_Policy_copy : Addr
  fd_Policy_copy : FuncData
  F_Policy_copy : Fun K "copy" "Policy.copy" S_Policy_copy a_Policy_copy fd_Policy_copy
  b_Policy_copy : Binds K fd_Policy_copy ["self"] []
  a_is_mark : Addr
  fd_is_mark : FuncData
  F_is_mark : Fun K "is_mark" "is_mark" S_is_mark a_is_mark fd_is_mark
  b_is_mark : Binds K fd_is_mark ["text"] []
  g_is_mark : mg "is_mark" = some (.ref a_is_mark)
  a_sound_row : Addr
  fd_sound_row : FuncData
  F_sound_row : Fun K "sound_row" "sound_row" S_sound_row a_sound_row fd_sound_row
  b_sound_row : Binds K fd_sound_row ["row", "before"] []
  g_sound_row : mg "sound_row" = some (.ref a_sound_row)
  a_barren : Addr
  fd_barren : FuncData
  F_barren : Fun K "barren" "barren" S_barren a_barren fd_barren
  b_barren : Binds K fd_barren ["rows"] []
  g_barren : mg "barren" = some (.ref a_barren)
  a_Shape_init : Addr
  fd_Shape_init : FuncData
  F_Shape_init : Fun K "__init__" "Shape.__init__" S_Shape_init a_Shape_init fd_Shape_init
  bs_Shape_init : StarB fd_Shape_init ["self"] "rows"
  a_Shape_iter : Addr
  fd_Shape_iter : FuncData
  F_Shape_iter : Fun K "__iter__" "Shape.__iter__" S_Shape_iter a_Shape_iter fd_Shape_iter
  b_Shape_iter : Binds K fd_Shape_iter ["self"] []
  a_Shape_len : Addr
  fd_Shape_len : FuncData
  F_Shape_len : Fun K "__len__" "Shape.__len__" S_Shape_len a_Shape_len fd_Shape_len
  b_Shape_len : Binds K fd_Shape_len ["self"] []
  a_Shape_eq : Addr
  fd_Shape_eq : FuncData
  F_Shape_eq : Fun K "__eq__" "Shape.__eq__" S_Shape_eq a_Shape_eq fd_Shape_eq
  b_Shape_eq : Binds K fd_Shape_eq ["self", "other"] []
  a__law_draws : Addr
  fd__law_draws : FuncData
  F__law_draws : Fun K "_law_draws" "_law_draws" S__law_draws a__law_draws fd__law_draws
  b__law_draws : Binds K fd__law_draws ["_law_script"] []
  g__law_draws : mg "_law_draws" = some (.ref a__law_draws)
  a__law_take : Addr
  fd__law_take : FuncData
  F__law_take : Fun K "_law_take" "_law_take" S__law_take a__law_take fd__law_take
  b__law_take : Binds K fd__law_take ["_law_draws_here", "_law_at", "_law_size"] []
  g__law_take : mg "_law_take" = some (.ref a__law_take)
  a__law_same : Addr
  fd__law_same : FuncData
  F__law_same : Fun K "_law_same" "_law_same" S__law_same a__law_same fd__law_same
  b__law_same : Binds K fd__law_same ["_law_actual", "_law_expected"] []
  g__law_same : mg "_law_same" = some (.ref a__law_same)
  a__law_marks : Addr
  fd__law_marks : FuncData
  F__law_marks : Fun K "_law_marks" "_law_marks" S__law_marks a__law_marks fd__law_marks
  b__law_marks : Binds K fd__law_marks ["_law_draws_here", "_law_at", "_law_count"] []
  g__law_marks : mg "_law_marks" = some (.ref a__law_marks)
  a__law_rows : Addr
  fd__law_rows : FuncData
  F__law_rows : Fun K "_law_rows" "_law_rows" S__law_rows a__law_rows fd__law_rows
  b__law_rows : Binds K fd__law_rows ["_law_draws_here", "_law_at", "_law_exclusive"] []
  g__law_rows : mg "_law_rows" = some (.ref a__law_rows)
  a__law_way : Addr
  fd__law_way : FuncData
  F__law_way : Fun K "_law_way" "_law_way" S__law_way a__law_way fd__law_way
  b__law_way : Binds K fd__law_way ["_law_draws_here", "_law_at"] []
  g__law_way : mg "_law_way" = some (.ref a__law_way)
  a__law_rules : Addr
  fd__law_rules : FuncData
  F__law_rules : Fun K "_law_rules" "_law_rules" S__law_rules a__law_rules fd__law_rules
  b__law_rules : Binds K fd__law_rules ["_law_draws_here", "_law_at", "_law_rows_here"] []
  g__law_rules : mg "_law_rules" = some (.ref a__law_rules)
  a__law_shape : Addr
  fd__law_shape : FuncData
  F__law_shape : Fun K "_law_shape" "_law_shape" S__law_shape a__law_shape fd__law_shape
  b__law_shape : Binds K fd__law_shape ["_law_rows_here"] []
  g__law_shape : mg "_law_shape" = some (.ref a__law_shape)
  a__law_way_made : Addr
  fd__law_way_made : FuncData
  F__law_way_made : Fun K "_law_way_made" "_law_way_made" S__law_way_made a__law_way_made fd__law_way_made
  b__law_way_made : Binds K fd__law_way_made ["_law_way_here"] []
  g__law_way_made : mg "_law_way_made" = some (.ref a__law_way_made)
  a__law_policy : Addr
  fd__law_policy : FuncData
  F__law_policy : Fun K "_law_policy" "_law_policy" S__law_policy a__law_policy fd__law_policy
  b__law_policy : Binds K fd__law_policy ["_law_shape_here", "_law_rules_here"] []
  g__law_policy : mg "_law_policy" = some (.ref a__law_policy)
  a__law_reads : Addr
  fd__law_reads : FuncData
  F__law_reads : Fun K "_law_reads" "_law_reads" S__law_reads a__law_reads fd__law_reads
  b__law_reads : Binds K fd__law_reads ["_law_policy_here", "_law_rules_here"] []
  g__law_reads : mg "_law_reads" = some (.ref a__law_reads)
  a__law_lowered : Addr
  fd__law_lowered : FuncData
  F__law_lowered : Fun K "_law_lowered" "_law_lowered" S__law_lowered a__law_lowered fd__law_lowered
  b__law_lowered : Binds K fd__law_lowered ["_law_way_here"] []
  g__law_lowered : mg "_law_lowered" = some (.ref a__law_lowered)
  a__law_with : Addr
  fd__law_with : FuncData
  F__law_with : Fun K "_law_with" "_law_with" S__law_with a__law_with fd__law_with
  b__law_with : Binds K fd__law_with ["_law_rules_here", "_law_mark", "_law_begin", "_law_ways"] []
  g__law_with : mg "_law_with" = some (.ref a__law_with)
  a__law_looser_rules : Addr
  fd__law_looser_rules : FuncData
  F__law_looser_rules : Fun K "_law_looser_rules" "_law_looser_rules" S__law_looser_rules a__law_looser_rules fd__law_looser_rules
  b__law_looser_rules : Binds K fd__law_looser_rules ["_law_rules_here"] []
  g__law_looser_rules : mg "_law_looser_rules" = some (.ref a__law_looser_rules)
  a__law_set : Addr
  fd__law_set : FuncData
  F__law_set : Fun K "_law_set" "_law_set" S__law_set a__law_set fd__law_set
  b__law_set : Binds K fd__law_set ["_law_policy_here", "_law_rules_here"] []
  g__law_set : mg "_law_set" = some (.ref a__law_set)
  a__law_good : Addr
  fd__law_good : FuncData
  F__law_good : Fun K "_law_good" "_law_good" S__law_good a__law_good fd__law_good
  b__law_good : Binds K fd__law_good ["_law_found", "_law_shape_here", "_law_due"] []
  g__law_good : mg "_law_good" = some (.ref a__law_good)
  a_law : Addr
  fd_law : FuncData
  F_law : Fun K "law" "law" S_law a_law fd_law
  b_law : Binds K fd_law ["_law_script"] []
  g_law : mg "law" = some (.ref a_law)
  n_any : mg "any" = none
  n_bool : mg "bool" = none
  n_enumerate : mg "enumerate" = none
  n_int : mg "int" = none
  n_isinstance : mg "isinstance" = none
  n_iter : mg "iter" = none
  n_len : mg "len" = none
  n_list : mg "list" = none
  n_range : mg "range" = none
  n_str : mg "str" = none
  n_tuple : mg "tuple" = none
  tk_UNLIMITED : Tok
  g_UNLIMITED : mg "UNLIMITED" = some (.int 9 tk_UNLIMITED)
  k_LEVELS : Addr
  g_LEVELS : mg "LEVELS" = some (.ref k_LEVELS)
  q_LEVELS : ∀ H : Hp, SqT K H k_LEVELS [.str "none", .str "one", .str "most", .str "all"]
  tk_LETTERS : Tok
  g_LETTERS : mg "LETTERS" = some (.str "abcdefghijklmnopqrstuvwxyz" tk_LETTERS)
  k_MODES : Addr
  g_MODES : mg "MODES" = some (.ref k_MODES)
  q_MODES : ∀ H : Hp, SqT K H k_MODES [.str "own", .str "share"]
  c_Way : Addr
  g_Way : mg "Way" = some (.ref c_Way)
  cl_Way : Cls K c_Way
  mk_Way : Mk K c_Way a_Way_init
  m_Way_lowered : Meth K c_Way "lowered" a_Way_lowered
  m_Way_eq : Meth K c_Way "__eq__" a_Way_eq
  ti_Way : ∀ (H : Hp) (a dx : Addr) (fs : List (Str × V)), H a = some (.ins c_Way dx fs) → TyOf K H (.ref a) (.ref c_Way)
  kk_Way : PySem.W.kitOne K (.ref c_Way) (.ref c_Way) = some true
  k_Way_PARTS : Addr
  cr_Way : ClX.CRead K c_Way (.type "type")
  cv_Way_PARTS : ClX.CVal K c_Way (.type "type") "PARTS" (.ref k_Way_PARTS) (.ref k_Way_PARTS)
  q_Way_PARTS : ∀ H : Hp, SqT K H k_Way_PARTS [.str "owned", .str "held", .str "seen", .str "early"]
  no_Way_held : NoAttr K c_Way "held"
  no_Way_owned : NoAttr K c_Way "owned"
  no_Way_seen : NoAttr K c_Way "seen"
  no_Way_early : NoAttr K c_Way "early"
  c_Policy : Addr
  g_Policy : mg "Policy" = some (.ref c_Policy)
  cl_Policy : Cls K c_Policy
  mk_Policy : Mk K c_Policy a_Policy_init
  m_Policy_iter : Meth K c_Policy "__iter__" a_Policy_iter
  m_Policy_len : Meth K c_Policy "__len__" a_Policy_len
  m_Policy_getitem : Meth K c_Policy "__getitem__" a_Policy_getitem
  m_Policy_setitem : Meth K c_Policy "__setitem__" a_Policy_setitem
  m_Policy_copy : Meth K c_Policy "copy" a_Policy_copy
  fi_Policy_getitem : PySem.W.fnIn K a_Policy_getitem = true
  nq_Policy : PySem.W.noSeq K c_Policy = true
  ti_Policy : ∀ (H : Hp) (a dx : Addr) (fs : List (Str × V)), H a = some (.ins c_Policy dx fs) → TyOf K H (.ref a) (.ref c_Policy)
  kk_Policy : PySem.W.kitOne K (.ref c_Policy) (.ref c_Policy) = some true
  no_Policy_shape : NoAttr K c_Policy "shape"
  no_Policy__marks : NoAttr K c_Policy "_marks"
  no_Policy__starts : NoAttr K c_Policy "_starts"
  no_Policy__ways : NoAttr K c_Policy "_ways"
  c_Shape : Addr
  g_Shape : mg "Shape" = some (.ref c_Shape)
  cl_Shape : Cls K c_Shape
  mk_Shape : Mk K c_Shape a_Shape_init
  m_Shape_iter : Meth K c_Shape "__iter__" a_Shape_iter
  m_Shape_len : Meth K c_Shape "__len__" a_Shape_len
  m_Shape_eq : Meth K c_Shape "__eq__" a_Shape_eq
  ti_Shape : ∀ (H : Hp) (a dx : Addr) (fs : List (Str × V)), H a = some (.ins c_Shape dx fs) → TyOf K H (.ref a) (.ref c_Shape)
  kk_Shape : PySem.W.kitOne K (.ref c_Shape) (.ref c_Shape) = some true
  cr_Shape : ClX.CRead K c_Shape (.type "type")
  tk_Shape_MARKS : Tok
  cv_Shape_MARKS : ClX.CVal K c_Shape (.type "type") "MARKS" (.int 6) (.int 6 tk_Shape_MARKS)
  tk_Shape_PARENTS : Tok
  cv_Shape_PARENTS : ClX.CVal K c_Shape (.type "type") "PARENTS" (.int 4) (.int 4 tk_Shape_PARENTS)
  no_Shape__listed : NoAttr K c_Shape "_listed"
  no_Shape__marks : NoAttr K c_Shape "_marks"
  kb_Way_init_4_early : KBn K fd_Way_init ["self", "held", "owned", "seen", "early"] 4 ["early"] (fun us ws => us ++ ws) (fun vs zs => vs ++ zs)
  kb_Way_init_4 : ∃ ds, Vals [.bl false] ds ∧ Binds K fd_Way_init ["self", "held", "owned", "seen", "early"] ds
  kb_Policy_init_2 : ∃ ds, Vals [.ref ed_Policy_init_0] ds ∧ Binds K fd_Policy_init ["self", "shape", "rows"] ds
  kb_Policy_init_3 : ∃ ds, Vals [] ds ∧ Binds K fd_Policy_init ["self", "shape", "rows"] ds
  c_BadShape : Addr
  g_BadShape : mg "BadShape" = some (.ref c_BadShape)
  c_UnknownMark : Addr
  g_UnknownMark : mg "UnknownMark" = some (.ref c_UnknownMark)
  c_TooLarge : Addr
  g_TooLarge : mg "TooLarge" = some (.ref c_TooLarge)
  c_BadLevel : Addr
  g_BadLevel : mg "BadLevel" = some (.ref c_BadLevel)
  x_BadShape : PySem.WX.ExcTxt PP K mg "BadShape" "mark" c_BadShape
  xc_BadShape : XC K c_BadShape
  xn_BadShape : PySem.W.findIn K (.ref c_BadShape) "mark" = some none
  x_UnknownMark : PySem.WX.ExcTxt PP K mg "UnknownMark" "mark" c_UnknownMark
  xc_UnknownMark : XC K c_UnknownMark
  xn_UnknownMark : PySem.W.findIn K (.ref c_UnknownMark) "mark" = some none
  x_TooLarge : PySem.WX.ExcTxt PP K mg "TooLarge" "most" c_TooLarge
  xc_TooLarge : XC K c_TooLarge
  xn_TooLarge : PySem.W.findIn K (.ref c_TooLarge) "most" = some none
  x_BadLevel : PySem.WX.ExcTxt PP K mg "BadLevel" "level" c_BadLevel
  xc_BadLevel : XC K c_BadLevel
  xn_BadLevel : PySem.W.findIn K (.ref c_BadLevel) "level" = some none
end My
namespace My
open PySem L2
/-! ### heaps: all but a as it was -/
def But (a : Addr) (H H' : Hp) : Prop := ∀ b o, b ≠ a → H b = some o → H' b = some o
theorem But.refl (a : Addr) (H : Hp) : But a H H := fun _ _ _ h => h
theorem But.trans {a : Addr} {H H1 H2 : Hp} (x : But a H H1) (y : But a H1 H2) : But a H H2 := fun b o n h => y b o n (x b o n h)
theorem But.of_same {a : Addr} {H H' : Hp} (s : Same H H') : But a H H' := fun b o _ h => s b o h
theorem But.upd {a : Addr} {H : Hp} {o : HO} : But a H (upd H a o) := fun b u n h => by rw [upd_ne n]; exact h
theorem same_new {H : Hp} {p : Addr} {o : HO} (h : H p = none) : Same H (upd H p o) := fun b x e => by
  rw [upd_ne (ne_of_none e h)]; exact e
theorem But.new {a p : Addr} {H : Hp} {o : HO} (h : H p = none) : But a H (L2.upd H p o) := But.of_same (same_new h)
/-- an object that H does not know may change -/
theorem same_mut {H H' : Hp} {p : Addr} {o : HO} (e : Same H H') (h : H p = none) : Same H (upd H' p o) := fun a u ha => by
  rw [upd_ne (ne_of_none ha h)]; exact e a u ha
theorem But.mut {a p : Addr} {H H' : Hp} {o : HO} (e : But a H H') (h : H p = none) : But a H (L2.upd H' p o) := fun b u n hb => by
  rw [upd_ne (ne_of_none hb h)]; exact e b u n hb
theorem But.free {a p : Addr} {H H' : Hp} (e : But a H H') (n : p ≠ a) (h : H' p = none) : H p = none := by
  cases q : H p with
  | none => rfl
  | some o => rw [e p o n q] at h; cases h
theorem But.sqL {K : PySem.W.Frag} {a d : Addr} {H H' : Hp} {xs : List V} (e : But a H H') (n : d ≠ a) (h : SqL K H d xs) : SqL K H' d xs := by
  rcases h with (h | ⟨o, h⟩) | h
  · exact .inl (.inl (e _ _ n h))
  · exact .inl (.inr ⟨o, e _ _ n h⟩)
  · exact .inr h
theorem But.sqT {K : PySem.W.Frag} {a d : Addr} {H H' : Hp} {xs : List V} (e : But a H H') (n : d ≠ a) (h : SqT K H d xs) : SqT K H' d xs := by
  rcases h with (h | ⟨o, h⟩) | h
  · exact .inl (.inl (e _ _ n h))
  · exact .inl (.inr ⟨o, e _ _ n h⟩)
  · exact .inr h
theorem same_sqT {K : PySem.W.Frag} {d : Addr} {H H' : Hp} {xs : List V} (e : Same H H') (h : SqT K H d xs) : SqT K H' d xs := by
  rcases h with (h | ⟨o, h⟩) | h
  · exact .inl (.inl (e _ _ h))
  · exact .inl (.inr ⟨o, e _ _ h⟩)
  · exact .inr h
theorem same_make {H H5 : Hp} {x dx C : Addr} (nx : H x = none) (nd : H dx = none) (b : But x (L2.upd (L2.upd H dx (.own x)) x (.ins C dx [])) H5) : Same H H5 := fun y o h =>
  b y o (ne_of_none h nx) (by rw [upd_ne (ne_of_none h nx), upd_ne (ne_of_none h nd)]; exact h)
/-! ### tests -/
theorem iteD {c A B : Prop} [Decidable c] (h1 : c → A) (h2 : ¬ c → B) : if decide c = true then A else B := by
  by_cases h : c
  · rw [decide_eq_true h]; exact iteT (h1 h)
  · rw [decide_eq_false h]; exact iteF (h2 h)
theorem iteN {c A B : Prop} [Decidable c] (h1 : ¬ c → A) (h2 : c → B) : if (!decide c) = true then A else B := by
  by_cases h : c
  · rw [decide_eq_true h]; exact iteF (h2 h)
  · rw [decide_eq_false h]; exact iteT (h1 h)
theorem iteB {b : Bool} {A B : Prop} (h1 : b = true → A) (h2 : b = false → B) : if b = true then A else B := by
  cases b with
  | true => exact iteT (h1 rfl)
  | false => exact iteF (h2 rfl)
theorem iteYes {b : Bool} {A B : Prop} (h : b = true) (h1 : A) : if b = true then A else B := by rw [h]; exact iteT h1
theorem iteNo {b : Bool} {A B : Prop} (h : b = false) (h1 : B) : if b = true then A else B := by rw [h]; exact iteF h1
/-! ### lists -/
theorem ints_app (zs : List Int) (z : Int) : (zs.map V.int) ++ [V.int z] = (zs ++ [z]).map V.int := by rw [List.map_append]; rfl
theorem at_ok {xs : List V} {i : Int} (h0 : 0 ≤ i) (h1 : i < xs.length) : ∃ v, atI xs i = some v ∧ v ∈ xs := by
  obtain ⟨j, rfl⟩ := Int.eq_ofNat_of_zero_le h0
  have hj : j < xs.length := by omega
  exact ⟨xs[j], atI_nat (List.getElem?_eq_getElem hj), List.getElem_mem hj⟩
theorem get_int {ns : List Int} {i : Nat} {y : V} (h : (ns.map V.int)[i]? = some y) : ∃ z, ns[i]? = some z ∧ y = .int z := by
  rw [List.getElem?_map] at h
  cases e : ns[i]? with
  | none => rw [e] at h; cases h
  | some z => rw [e] at h; exact ⟨z, rfl, (Option.some.inj h).symm⟩
end My
namespace L2
open PySem
/-! ### rules whose reading names K itself (in a comprehension's block) -/
theorem ixLK {X : Cx} {K : PySem.W.Frag} (h : X.K = K) : IxR X (rIxL K) := h ▸ ix_list
theorem ixTK {X : Cx} {K : PySem.W.Frag} (h : X.K = K) : IxR X (rIxT K) := h ▸ ix_tup
theorem inK {X : Cx} {K : PySem.W.Frag} (h : X.K = K) : OpR X (compareOp .In) (rIn K false) := h ▸ op_in_seq
theorem ninK {X : Cx} {K : PySem.W.Frag} (h : X.K = K) : OpR X (compareOp .NotIn) (rIn K true) := h ▸ op_notIn_seq
theorem pe_fldK {X : Cx} {K : PySem.W.Frag} {e : Expr} {f : Str} {pos : Pos} {ta : TE} (h : X.K = K) (he : PE X e ta) (hb : attributeBase e f X.env (eval e X.env) = eval e X.env) : PE X (.Attribute e f pos) (tFld K ta f) := h ▸ pe_fld he hb
end L2

namespace My
open PySem L2
/-- the draws at d, the place at a -/
structure Dr (K : PySem.W.Frag) (H : Hp) (d a : Addr) : Prop where
  ds : ∃ ns : List Int, H d = some (.lst (ns.map V.int))
  pl : ∃ k : Nat, H a = some (.lst [.int k])
  ne : d ≠ a
theorem Dr.but {K : PySem.W.Frag} {H H' : Hp} {d a : Addr} (x : Dr K H d a) (e : But a H H') (pl : ∃ k : Nat, H' a = some (.lst [.int k])) : Dr K H' d a :=
  ⟨x.ds.elim fun ns h => ⟨ns, e _ _ x.ne h⟩, pl, x.ne⟩
theorem Dr.same {K : PySem.W.Frag} {H H' : Hp} {d a : Addr} (x : Dr K H d a) (e : Same H H') : Dr K H' d a :=
  x.but (But.of_same e) (x.pl.elim fun k h => ⟨k, e _ _ h⟩)
/-- another object is changed -/
theorem Dr.other {K : PySem.W.Frag} {H H' : Hp} {d a p : Addr} (x : Dr K H d a) (e : But p H H') (n1 : d ≠ p) (n2 : a ≠ p) : Dr K H' d a :=
  ⟨x.ds.elim fun ns h => ⟨ns, e _ _ n1 h⟩, x.pl.elim fun k h => ⟨k, e _ _ n2 h⟩, x.ne⟩
theorem Dr.nd {K : PySem.W.Frag} {H : Hp} {d a p : Addr} (x : Dr K H d a) (h : H p = none) : d ≠ p := ne_of_none x.ds.choose_spec h
theorem Dr.na {K : PySem.W.Frag} {H : Hp} {d a p : Addr} (x : Dr K H d a) (h : H p = none) : p ≠ a := (ne_of_none x.pl.choose_spec h).symm
def spTake (K : PySem.W.Frag) : Sp := fun vs H Q _ => ∃ (d a : Addr) (size : Int), vs = [.ref d, .ref a, .int size] ∧ Dr K H d a ∧ 0 < size ∧
  ∀ (r : Int) (H' : Hp), 0 ≤ r → r < size → Dr K H' d a → But a H H' → Q (.int r) H'
section
variable {P : Program} {w : World} {K : PySem.W.Frag} {mg : Str → Option Value} {base : Heap}
theorem ok__law_take (T : Txt K mg) : FnOk P w K mg base CX0 1 T.a__law_take T.fd__law_take ["_law_draws_here", "_law_at", "_law_size"] (spTake K) := by
  refine T.F__law_take.ok sc__law_take (fun vs H Q E h => ?_) (fun cdv A outer s H vs Q E hr h => ?_)
  · obtain ⟨d, a, size, rfl, _⟩ := h; rfl
  · obtain ⟨d, a, size, rfl, D, hs, q⟩ := h
    obtain ⟨ns, hd0⟩ := D.ds
    have hd : SqL K H d (ns.map V.int) := SqL.of hd0
    obtain ⟨k, hk⟩ := D.pl
    have hb : But a H (upd H a (.lst [.int (k + 1 : Nat)])) := But.upd
    have D' : Dr K (upd H a (.lst [.int (k + 1 : Nat)])) d a := D.but hb ⟨_, upd_same⟩
    have hd' := hb.sqL D.ne hd
    refine ⟨_, (pss_cons (ps_asg (pe_op op_add (pe_ix ix_list (pv 1) (pe_int) (fun _ _ => rfl)) (pe_int)) (pg_sub (pv 1) (pe_int) set_list))
      (pss_cons (ps_if (pt_cmpR op_gt (pe_ix ix_list (pv 1) (pe_int) (fun _ _ => rfl)) (pe_callB call_len_seq (by rfl) T.n_len (by decide +kernel) (pa_cons (pv 0) pa_nil)) (nomark _)) (pss_one (ps_ret (pe_int))) pss_nil)
      (pss_one (ps_ret (pe_op op_mod (pe_callTy call_int1 (by rfl) T.n_int (by decide +kernel) (pa_cons (pe_ix ix_list (pv 0) (pe_op op_sub (pe_ix ix_list (pv 1) (pe_int) (fun _ _ => rfl)) (pe_int)) (fun _ _ => rfl)) pa_nil)) (pv 2)))))), ?_⟩
    walk_at "rd"

    refine iteD (fun c => ?_) (fun c => ?_)
    · exact q 0 _ (Int.le_refl _) hs D' hb
    · rw [List.length_map] at c
      have hl : k < ns.length := by omega
      refine ⟨_, rfl, _, rfl, _, _, _, _, rfl, rfl, SqL.of upd_same, atI_nat (j := 0) rfl, _, _, rfl, rfl, _, _, _, _, rfl, rfl, hd', at_of (j := k) (by omega) (by rw [List.getElem?_map, List.getElem?_eq_getElem hl]; rfl), ?_⟩
      walk_at "rd"
      exact q _ _ (Int.emod_nonneg _ (by omega)) (Int.emod_lt_of_pos _ hs) D' hb
end
end My

namespace My
open PySem L2
def spDraws (K : PySem.W.Frag) : Sp := fun vs H Q _ => ∃ (a : Addr) (ns : List Int), vs = [.ref a] ∧ SqL K H a (ns.map V.int) ∧ ns.length ≤ 63 ∧
  ∀ (p : Addr) (zs : List Int) (H' : Hp), Same H H' → H p = none → H' p = some (.lst (zs.map V.int)) → Q (.ref p) H'
section
variable {P : Program} {w : World} {K : PySem.W.Frag} {mg : Str → Option Value} {base : Heap}
theorem ok__law_draws (T : Txt K mg) : FnOk P w K mg base CX0 1 T.a__law_draws T.fd__law_draws ["_law_script"] (spDraws K) := by
  refine T.F__law_draws.ok sc__law_draws (fun vs H Q E h => ?_) (fun cdv A outer s H vs Q E hr h => ?_)
  · obtain ⟨a, ns, rfl, _⟩ := h; rfl
  · obtain ⟨a, ns, rfl, hS, hlen, q⟩ := h
    refine ⟨_, (pss_cons (ps_set (i := 1) sc__law_draws.nd rfl (.inl rfl) (pe_lst pa_nil))
      (pss_cons (ps_for PassesOwn.never rfl (pi_list (pv 0)) (pg_name (i := 2) sc__law_draws.nd rfl (.inl rfl)) (pss_one (ps_if (pt_cmpR op_ge (pv 2) (pe_op op_pow (pe_int) (pe_int)) (nomark _)) (pss_cons (ps_set (i := 3) sc__law_draws.nd rfl (.inl rfl) (pe_callTy call_int1 (by rfl) T.n_int (by decide +kernel) (pa_cons (pv 2) pa_nil)))
      (pss_one (ps_for PassesOwn.never rfl (pi_range1 (by rfl) T.n_range (pa_cons (pe_int) pa_nil)) (pg_name (i := 4) sc__law_draws.nd rfl (.inl rfl)) (pss_one (ps_if (pt_cmpR op_gt (pv 3) (pe_int) (nomark _)) (pss_cons (ps_expr (pe_bm PySem.F.plainAttrs_list PySem.F.slot_list_append PySem.F.type_list_append mt_append (pv 1) (pa_cons (pe_op op_mod (pe_callTy call_int1 (by rfl) T.n_int (by decide +kernel) (pa_cons (pv 3) pa_nil)) (pe_int)) pa_nil)))
      (pss_one (ps_set (i := 3) sc__law_draws.nd rfl (.inl rfl) (pe_op op_fdiv (pv 3) (pe_int))))) pss_nil))))) (pss_cons (ps_set (i := 5) sc__law_draws.nd rfl (.inl rfl) (pe_op op_mod (pe_callTy call_int1 (by rfl) T.n_int (by decide +kernel) (pa_cons (pe_op op_add (pe_op op_mul (pv 2) (pe_int)) (pe_int)) pa_nil)) (pe_int)))
      (pss_cons (ps_expr (pe_bm PySem.F.plainAttrs_list PySem.F.slot_list_append PySem.F.type_list_append mt_append (pv 1) (pa_cons (pv 5) pa_nil)))
      (pss_one (ps_expr (pe_bm PySem.F.plainAttrs_list PySem.F.slot_list_append PySem.F.type_list_append mt_append (pv 1) (pa_cons (pe_op op_mod (pe_callTy call_int1 (by rfl) T.n_int (by decide +kernel) (pa_cons (pe_op op_add (pe_op op_add (pe_op op_mul (pv 5) (pv 5)) (pe_op op_mul (pe_int) (pv 5))) (pe_op op_mul (pe_int) (pe_callB call_len_seq (by rfl) T.n_len (by decide +kernel) (pa_cons (pv 1) pa_nil)))) pa_nil)) (pe_int)) pa_nil)))))))))
      (pss_one (ps_ret (pv 1))))), ?_⟩
    refine ⟨Nat.zero_le _, fun p hp => ?_⟩
    have s0 : Same H (upd H p (.lst [])) := same_new hp
    refine ⟨_, rfl, a, rfl, ⟨_, s0.seq hS⟩, for_list (K := K) (a := a) (xs := ns.map V.int) (fun i σ H' => ∃ (zs : List Int) (x2 x3 x4 x5 : Option V), σ = [some (.ref a), some (.ref p), x2, x3, x4, x5] ∧ Same H H' ∧ H' p = some (.lst (zs.map V.int)) ∧ zs.length ≤ 60 * i)
      ⟨[], _, _, _, _, rfl, s0, upd_same, Nat.zero_le _⟩ (fun i σ H' _ ⟨_, _, _, _, _, _, s1, _⟩ => s1.seq hS) ?_ ?_⟩
    · rintro i y σ H1 hi ⟨zs, x2, x3, x4, x5, rfl, s1, h1, hz⟩
      have hi63 : i < ns.length := by
        have z := (List.getElem?_eq_some_iff.mp hi).1
        rw [List.length_map] at z
        exact z
      obtain ⟨c, hc, rfl⟩ := get_int hi
      refine ⟨_, rfl, _, _, rfl, rfl, ⟨by decide, by decide, by decide⟩, ?_⟩
      walk_at "rd"
      refine iteD (fun c1 => ?_) (fun c1 => ?_)
      · refine ⟨_, rfl, .inl ⟨_, rfl, ?_⟩⟩
        refine ⟨60, rfl, by decide, by decide, for_range (lo := 0) (n := 60) (fun j σ H' => ∃ (zs : List Int) (r : Int) (x4 : Option V), σ = [some (.ref a), some (.ref p), some (.int c), some (.int r), x4, x5] ∧ Same H H' ∧ H' p = some (.lst (zs.map V.int)) ∧ zs.length ≤ 60 * i + j)
          ⟨zs, c, x4, rfl, s1, h1, hz⟩ ?_ ?_⟩
        · rintro j σ H2 hj ⟨zs, r, x4, rfl, s2, h2, hz2⟩
          walk_at "rd"
          refine iteD (fun c2 => ?_) (fun c2 => ?_)
          · refine ⟨_, rfl, .inl ⟨rfl, _, SqL.of h2⟩, _, rfl, .inl ⟨_, rfl, _, _, rfl, rfl, (by show (0 : Int) < 1000; decide), _, _, _, rfl, rfl, h2, by rw [List.length_map]; exact Nat.lt_of_le_of_lt (by omega : _ ≤ 100000) (by decide), ?_⟩⟩
            refine ⟨_, rfl, _, _, rfl, rfl, ⟨by decide, by decide⟩, ?_⟩
            exact ⟨zs ++ [r % 1000], _, _, rfl, same_mut s2 hp, by rw [upd_same, ints_app], by rw [List.length_append, List.length_singleton]; omega⟩
          · exact ⟨zs, r, _, rfl, s2, h2, by omega⟩
        · rintro σ H2 ⟨zs, r, x4, rfl, s2, h2, hz2⟩
          exact ⟨zs, _, _, _, _, rfl, s2, h2, by omega⟩
      · refine ⟨_, rfl, _, _, rfl, rfl, .inr ⟨by decide, by decide⟩, _, _, rfl, rfl, .inl ⟨_, rfl, _, _, rfl, rfl, (by show (0 : Int) < 9973; decide), ?_⟩⟩
        have hm0 : 0 ≤ (c * 48271 + 12345) % 9973 := Int.emod_nonneg _ (by decide)
        have hm1 : (c * 48271 + 12345) % 9973 < 9973 := Int.emod_lt_of_pos _ (by decide)
        refine ⟨_, rfl, .inl ⟨rfl, _, SqL.of h1⟩, _, rfl, _, _, _, rfl, rfl, h1, by rw [List.length_map]; exact Nat.lt_of_le_of_lt (by omega : _ ≤ 100000) (by decide), ?_⟩
        refine ⟨_, rfl, .inl ⟨rfl, _, SqL.of upd_same⟩, _, rfl, _, rfl, _, _, rfl, rfl, .inl ⟨by omega, by omega⟩, _, rfl, _, _, rfl, rfl, .inl ⟨by decide, by decide⟩, _, _, rfl, rfl, _, rfl, _, _, rfl, .inl (SqL.of upd_same), _, _, rfl, rfl, .inl ⟨by decide, by decide⟩, _, _, rfl, rfl, .inl ⟨_, rfl, _, _, rfl, rfl, (by show (0 : Int) < 9949; decide), ?_⟩⟩
        refine ⟨_, _, _, rfl, rfl, upd_same, by rw [List.length_append, List.length_map]; exact Nat.lt_of_le_of_lt (by simp; omega : _ ≤ 100000) (by decide), ?_⟩
        rw [ints_app, ints_app, upd_upd]
        exact ⟨_, _, _, _, _, rfl, same_mut s1 hp, upd_same, by simp; omega⟩
    · rintro σ H1 ⟨zs, x2, x3, x4, x5, rfl, s1, h1, hz⟩
      exact ⟨_, rfl, q p zs H1 s1 hp h1⟩
end
end My

namespace My
open PySem L2
/-! ### plain data -/
inductive Sc : V → PyData → Prop
  | non : Sc .non .none
  | bl (b : Bool) : Sc (.bl b) (.bool b)
  | int (i : Int) : Sc (.int i) (.int i)
  | str (z : Str) : Sc (.str z) (.str z)
/-- a list that stays where x alone is changed; a tuple likewise -/
def SL (K : PySem.W.Frag) (x : Addr) (H : Hp) (a : Addr) (xs : List V) : Prop := (a ≠ x ∧ SqL K H a xs) ∨ ∀ H', SqL K H' a xs
def SU (K : PySem.W.Frag) (x : Addr) (H : Hp) (a : Addr) (xs : List V) : Prop := (a ≠ x ∧ SqT K H a xs) ∨ ∀ H', SqT K H' a xs
section
variable {K : PySem.W.Frag} {x : Addr} {H H' : Hp} {a : Addr} {xs : List V}
theorem SL.sq (h : SL K x H a xs) : SqL K H a xs := by
  rcases h with h | h
  · exact h.2
  · exact h H
theorem SU.sq (h : SU K x H a xs) : SqT K H a xs := by
  rcases h with h | h
  · exact h.2
  · exact h H
theorem SL.but (h : SL K x H a xs) (e : But x H H') : SL K x H' a xs := by
  rcases h with ⟨n, h⟩ | h
  · exact .inl ⟨n, e.sqL n h⟩
  · exact .inr h
theorem SU.but (h : SU K x H a xs) (e : But x H H') : SU K x H' a xs := by
  rcases h with ⟨n, h⟩ | h
  · exact .inl ⟨n, e.sqT n h⟩
  · exact .inr h
theorem tyL (h : SqL K H a xs) : TyX K H (.ref a) (.type "list") := by
  rcases h with (h | ⟨o, h⟩) | ⟨o, its, n, h, c, _⟩
  · exact .base (.lst h)
  · exact .base (.frz h)
  · exact .kList h c
theorem tyT (h : SqT K H a xs) : TyX K H (.ref a) (.type "tuple") := by
  rcases h with (h | ⟨o, h⟩) | ⟨o, its, n, h, c, _⟩
  · exact .base (.tup h)
  · exact .fTuple h
  · exact .kTuple h c
end
/-- data of depth n at most -/
def Dn (K : PySem.W.Frag) (x : Addr) (H : Hp) : Nat → V → PyData → Prop
  | 0, v, d => Sc v d
  | n + 1, v, d => Sc v d ∨ (∃ a xs ds, v = .ref a ∧ d = .list ds ∧ SL K x H a xs ∧ xs.length ≤ 100000 ∧ Paired (Dn K x H n) xs ds) ∨ ∃ a xs ds, v = .ref a ∧ d = .tuple ds ∧ SU K x H a xs ∧ xs.length ≤ 100000 ∧ Paired (Dn K x H n) xs ds
theorem Dn.sc {K : PySem.W.Frag} {x : Addr} {H : Hp} {v : V} {d : PyData} (h : Sc v d) : ∀ n, Dn K x H n v d
  | 0 => h
  | _ + 1 => .inl h
theorem Dn.but {K : PySem.W.Frag} {x : Addr} {H H' : Hp} (e : But x H H') : ∀ {n : Nat} {v : V} {d : PyData}, Dn K x H n v d → Dn K x H' n v d
  | 0, _, _, h => h
  | n + 1, v, d, h => by
    rcases h with h | ⟨a, xs, ds, rfl, rfl, h, hz, p⟩ | ⟨a, xs, ds, rfl, rfl, h, hz, p⟩
    · exact .inl h
    · exact .inr (.inl ⟨a, xs, ds, rfl, rfl, h.but e, hz, L2.Paired.mapP p fun _ _ z => Dn.but e z⟩)
    · exact .inr (.inr ⟨a, xs, ds, rfl, rfl, h.but e, hz, L2.Paired.mapP p fun _ _ z => Dn.but e z⟩)
theorem Dn.lst {K : PySem.W.Frag} {x : Addr} {H : Hp} {n : Nat} {a : Addr} {xs : List V} {ds : List PyData} (ne : a ≠ x) (h : SqL K H a xs) (p : Paired (Dn K x H n) xs ds) (hz : xs.length ≤ 100000 := by simp) : Dn K x H (n + 1) (.ref a) (.list ds) :=
  .inr (.inl ⟨a, xs, ds, rfl, rfl, .inl ⟨ne, h⟩, hz, p⟩)
theorem Dn.tup {K : PySem.W.Frag} {x : Addr} {H : Hp} {n : Nat} {a : Addr} {xs : List V} {ds : List PyData} (ne : a ≠ x) (h : SqT K H a xs) (p : Paired (Dn K x H n) xs ds) (hz : xs.length ≤ 100000 := by simp) : Dn K x H (n + 1) (.ref a) (.tuple ds) :=
  .inr (.inr ⟨a, xs, ds, rfl, rfl, .inl ⟨ne, h⟩, hz, p⟩)
theorem Dn.int {K : PySem.W.Frag} {x : Addr} {H : Hp} (i : Int) {n : Nat} : Dn K x H n (.int i) (.int i) := Dn.sc (.int i) n
theorem Dn.str {K : PySem.W.Frag} {x : Addr} {H : Hp} (i : Str) {n : Nat} : Dn K x H n (.str i) (.str i) := Dn.sc (.str i) n
theorem Dn.bl {K : PySem.W.Frag} {x : Addr} {H : Hp} (i : Bool) {n : Nat} : Dn K x H n (.bl i) (.bool i) := Dn.sc (.bl i) n
theorem Dn.non {K : PySem.W.Frag} {x : Addr} {H : Hp} {n : Nat} : Dn K x H n .non .none := Dn.sc .non n
theorem Dn.up {K : PySem.W.Frag} {x : Addr} {H : Hp} : ∀ {n : Nat} {v : V} {d : PyData}, Dn K x H n v d → Dn K x H (n + 1) v d
  | 0, _, _, h => .inl h
  | n + 1, v, d, h => by
    rcases h with h | ⟨a, xs, ds, rfl, rfl, h, hz, p⟩ | ⟨a, xs, ds, rfl, rfl, h, hz, p⟩
    · exact .inl h
    · exact .inr (.inl ⟨a, xs, ds, rfl, rfl, h, hz, L2.Paired.mapP p fun _ _ z => Dn.up z⟩)
    · exact .inr (.inr ⟨a, xs, ds, rfl, rfl, h, hz, L2.Paired.mapP p fun _ _ z => Dn.up z⟩)
theorem pair_get {α β : Type} {F : α → β → Prop} : ∀ {l : List α} {m : List β} {i : Nat} {x : α}, Paired F l m → l[i]? = some x → ∃ y, m[i]? = some y ∧ F x y
  | _, _, _, _, .nil, e => by simp at e
  | _, _, 0, _, .cons r _, e => by simp at e; subst e; exact ⟨_, rfl, r⟩
  | _, _, i + 1, x, .cons _ t, e => by
    obtain ⟨y, h1, h2⟩ := pair_get (i := i) (x := x) t (by simpa using e)
    exact ⟨y, by simpa using h1, h2⟩
theorem pair_len {α β : Type} {F : α → β → Prop} : ∀ {l : List α} {m : List β}, Paired F l m → l.length = m.length
  | _, _, .nil => rfl
  | _, _, .cons _ t => by rw [List.length_cons, List.length_cons, pair_len t]
noncomputable def sameD (d e : PyData) : Bool := @decide (d = e) (Classical.propDecidable _)
theorem same_yes {d e : PyData} (h : d = e) : sameD d e = true := by unfold sameD; exact @decide_eq_true _ (Classical.propDecidable _) h
theorem same_no {d e : PyData} (h : d ≠ e) : sameD d e = false := by unfold sameD; exact @decide_eq_false _ (Classical.propDecidable _) h
theorem same_iff {d e : PyData} : sameD d e = true ↔ d = e := by
  constructor
  · intro h
    by_cases q : d = e
    · exact q
    · rw [same_no q] at h; cases h
  · exact same_yes
theorem same_of {p : Prop} [Decidable p] {d e : PyData} (h : d = e ↔ p) : sameD d e = decide p := by
  by_cases q : p
  · rw [decide_eq_true q, same_yes (h.mpr q)]
  · rw [decide_eq_false q, same_no (fun z => q (h.mp z))]
def spSame (K : PySem.W.Frag) (n : Nat) : Sp := fun vs H Q _ => ∃ (x : Addr) (v1 v2 : V) (d1 d2 : PyData), vs = [v1, v2] ∧ Dn K x H n v1 d1 ∧ Dn K x H n v2 d2 ∧ Q (.bl (sameD d1 d2)) H
end My
local macro_rules | `(tactic| walk_at "ty") => `(tactic| first | exact .base (.int _) | exact .base (.bl _) | exact .base .non | exact .base (.str _) | exact My.tyL (by assumption) | exact My.tyT (by assumption))
local macro_rules | `(tactic| walk_at "is") => `(tactic| first | refine ⟨_, _, _, _, true, rfl, L2.ClsV.ty _, (by walk_at "ty"), L2.kit_ty (by decide +kernel), ?_⟩ | refine ⟨_, _, _, _, false, rfl, L2.ClsV.ty _, (by walk_at "ty"), L2.kit_ty (by decide +kernel), ?_⟩)
local macro_rules | `(tactic| walk_at "ri") => `(tactic| repeat (first | walk_at "is" | refine ⟨_, rfl, ?_⟩ | refine ⟨rfl, ?_⟩))
namespace My
open PySem L2
theorem same_bl (a b : Bool) : sameD (.bool a) (.bool b) = decide (V.bl a = V.bl b) := same_of ⟨fun h => by cases h; rfl, fun h => by cases h; rfl⟩
theorem same_int (a b : Int) : sameD (.int a) (.int b) = decide (V.int a = V.int b) := same_of ⟨fun h => by cases h; rfl, fun h => by cases h; rfl⟩
theorem same_str (a b : Str) : sameD (.str a) (.str b) = decide (V.str a = V.str b) := same_of ⟨fun h => by cases h; rfl, fun h => by cases h; rfl⟩
theorem same_non : sameD .none .none = true := same_yes rfl
theorem same_lst (a b : List PyData) : sameD (.list a) (.list b) = true ↔ a = b := same_iff.trans ⟨fun h => by cases h; rfl, fun h => by cases h; rfl⟩
theorem same_tup (a b : List PyData) : sameD (.tuple a) (.tuple b) = true ↔ a = b := same_iff.trans ⟨fun h => by cases h; rfl, fun h => by cases h; rfl⟩
section
variable {P : Program} {w : World} {K : PySem.W.Frag} {mg : Str → Option Value} {base : Heap}
set_option maxHeartbeats 8000000 in
theorem ok__law_same (T : Txt K mg) : ∀ n, FnOk P w K mg base CX0 (n + 1) T.a__law_same T.fd__law_same ["_law_actual", "_law_expected"] (spSame K n)
  | 0 => by
    refine T.F__law_same.ok sc__law_same (fun vs H Q E h => ?_) (fun cdv A outer s H vs Q E hr h => ?_)
    · obtain ⟨x, v1, v2, d1, d2, rfl, _⟩ := h; rfl
    · obtain ⟨x, v1, v2, d1, d2, rfl, h1, h2, q⟩ := h
      refine ⟨_, (pss_cons (ps_if (PW.pt (pw_or (pt_val (pe_callB call_isi (by rfl) T.n_isinstance (by decide +kernel) (pa_cons (pv 0) (pa_cons (pe_bltn (v := .ty "bool") (by rfl) T.n_bool (by decide +kernel) rfl) pa_nil)))) (pw_or1 (pt_val (pe_callB call_isi (by rfl) T.n_isinstance (by decide +kernel) (pa_cons (pv 1) (pa_cons (pe_bltn (v := .ty "bool") (by rfl) T.n_bool (by decide +kernel) rfl) pa_nil))))))) (pss_one (ps_ret (pe_and (pe_callB call_isi (by rfl) T.n_isinstance (by decide +kernel) (pa_cons (pv 0) (pa_cons (pe_bltn (v := .ty "bool") (by rfl) T.n_bool (by decide +kernel) rfl) pa_nil))) (pe_and (pe_callB call_isi (by rfl) T.n_isinstance (by decide +kernel) (pa_cons (pv 1) (pa_cons (pe_bltn (v := .ty "bool") (by rfl) T.n_bool (by decide +kernel) rfl) pa_nil))) (pe_one (pe_cmpR op_eq (pv 0) (pv 1) (nomark _))))))) pss_nil)
      (pss_cons (ps_if (PW.pt (pw_or (pt_cmpR op_isN (pv 0) (pe_non) (nomark _)) (pw_or1 (pt_cmpR op_isN (pv 1) (pe_non) (nomark _))))) (pss_one (ps_ret (pe_and (pe_cmpR op_isN (pv 0) (pe_non) (nomark _)) (pe_one (pe_cmpR op_isN (pv 1) (pe_non) (nomark _)))))) pss_nil)
      (pss_cons (ps_if (pt_val (pe_callB call_isi (by rfl) T.n_isinstance (by decide +kernel) (pa_cons (pv 1) (pa_cons (pe_bltn (v := .ty "int") (by rfl) T.n_int (by decide +kernel) rfl) pa_nil)))) (pss_one (ps_ret (pe_and (pe_callB call_isi (by rfl) T.n_isinstance (by decide +kernel) (pa_cons (pv 0) (pa_cons (pe_bltn (v := .ty "int") (by rfl) T.n_int (by decide +kernel) rfl) pa_nil))) (pe_one (pe_cmpR op_eq (pv 0) (pv 1) (nomark _)))))) pss_nil)
      (pss_cons (ps_if (pt_val (pe_callB call_isi (by rfl) T.n_isinstance (by decide +kernel) (pa_cons (pv 1) (pa_cons (pe_bltn (v := .ty "str") (by rfl) T.n_str (by decide +kernel) rfl) pa_nil)))) (pss_one (ps_ret (pe_and (pe_callB call_isi (by rfl) T.n_isinstance (by decide +kernel) (pa_cons (pv 0) (pa_cons (pe_bltn (v := .ty "str") (by rfl) T.n_str (by decide +kernel) rfl) pa_nil))) (pe_one (pe_cmpR op_eq (pv 0) (pv 1) (nomark _)))))) pss_nil)
      (pss_cons (ps_if (PW.pt (pw_and (pt_val (pe_callB call_isi (by rfl) T.n_isinstance (by decide +kernel) (pa_cons (pv 1) (pa_cons (pe_bltn (v := .ty "tuple") (by rfl) T.n_tuple (by decide +kernel) rfl) pa_nil)))) (pw_and1 (pt_not (pt_val (pe_callB call_isi (by rfl) T.n_isinstance (by decide +kernel) (pa_cons (pv 0) (pa_cons (pe_bltn (v := .ty "tuple") (by rfl) T.n_tuple (by decide +kernel) rfl) pa_nil)))))))) (pss_one (ps_ret (pe_bl))) pss_nil)
      (pss_cons (ps_if (PW.pt (pw_and (pt_val (pe_callB call_isi (by rfl) T.n_isinstance (by decide +kernel) (pa_cons (pv 1) (pa_cons (pe_bltn (v := .ty "list") (by rfl) T.n_list (by decide +kernel) rfl) pa_nil)))) (pw_and1 (pt_not (pt_val (pe_callB call_isi (by rfl) T.n_isinstance (by decide +kernel) (pa_cons (pv 0) (pa_cons (pe_bltn (v := .ty "list") (by rfl) T.n_list (by decide +kernel) rfl) pa_nil)))))))) (pss_one (ps_ret (pe_bl))) pss_nil)
      (pss_cons (ps_if (pt_cmpR op_ne (pe_callB call_len_seq (by rfl) T.n_len (by decide +kernel) (pa_cons (pv 0) pa_nil)) (pe_callB call_len_seq (by rfl) T.n_len (by decide +kernel) (pa_cons (pv 1) pa_nil)) (nomark _)) (pss_one (ps_ret (pe_bl))) pss_nil)
      (pss_cons ps_never
      (pss_one (ps_ret (pe_bl))))))))))), ?_⟩
      cases h1 <;> cases h2
      all_goals walk_at "ri"
      all_goals first | (rw [same_no (by intro z; cases z)] at q; exact q) | (rw [same_bl] at q; exact q) | (rw [same_int] at q; exact q) | (rw [same_str] at q; exact q) | (rw [same_non] at q; exact q)
  | n + 1 => by
    refine T.F__law_same.ok sc__law_same (fun vs H Q E h => ?_) (fun cdv A outer s H vs Q E hr h => ?_)
    · obtain ⟨x, v1, v2, d1, d2, rfl, _⟩ := h; rfl
    · obtain ⟨x, v1, v2, d1, d2, rfl, h1, h2, q⟩ := h
      refine ⟨_, (pss_cons (ps_if (PW.pt (pw_or (pt_val (pe_callB call_isi (by rfl) T.n_isinstance (by decide +kernel) (pa_cons (pv 0) (pa_cons (pe_bltn (v := .ty "bool") (by rfl) T.n_bool (by decide +kernel) rfl) pa_nil)))) (pw_or1 (pt_val (pe_callB call_isi (by rfl) T.n_isinstance (by decide +kernel) (pa_cons (pv 1) (pa_cons (pe_bltn (v := .ty "bool") (by rfl) T.n_bool (by decide +kernel) rfl) pa_nil))))))) (pss_one (ps_ret (pe_and (pe_callB call_isi (by rfl) T.n_isinstance (by decide +kernel) (pa_cons (pv 0) (pa_cons (pe_bltn (v := .ty "bool") (by rfl) T.n_bool (by decide +kernel) rfl) pa_nil))) (pe_and (pe_callB call_isi (by rfl) T.n_isinstance (by decide +kernel) (pa_cons (pv 1) (pa_cons (pe_bltn (v := .ty "bool") (by rfl) T.n_bool (by decide +kernel) rfl) pa_nil))) (pe_one (pe_cmpR op_eq (pv 0) (pv 1) (nomark _))))))) pss_nil)
      (pss_cons (ps_if (PW.pt (pw_or (pt_cmpR op_isN (pv 0) (pe_non) (nomark _)) (pw_or1 (pt_cmpR op_isN (pv 1) (pe_non) (nomark _))))) (pss_one (ps_ret (pe_and (pe_cmpR op_isN (pv 0) (pe_non) (nomark _)) (pe_one (pe_cmpR op_isN (pv 1) (pe_non) (nomark _)))))) pss_nil)
      (pss_cons (ps_if (pt_val (pe_callB call_isi (by rfl) T.n_isinstance (by decide +kernel) (pa_cons (pv 1) (pa_cons (pe_bltn (v := .ty "int") (by rfl) T.n_int (by decide +kernel) rfl) pa_nil)))) (pss_one (ps_ret (pe_and (pe_callB call_isi (by rfl) T.n_isinstance (by decide +kernel) (pa_cons (pv 0) (pa_cons (pe_bltn (v := .ty "int") (by rfl) T.n_int (by decide +kernel) rfl) pa_nil))) (pe_one (pe_cmpR op_eq (pv 0) (pv 1) (nomark _)))))) pss_nil)
      (pss_cons (ps_if (pt_val (pe_callB call_isi (by rfl) T.n_isinstance (by decide +kernel) (pa_cons (pv 1) (pa_cons (pe_bltn (v := .ty "str") (by rfl) T.n_str (by decide +kernel) rfl) pa_nil)))) (pss_one (ps_ret (pe_and (pe_callB call_isi (by rfl) T.n_isinstance (by decide +kernel) (pa_cons (pv 0) (pa_cons (pe_bltn (v := .ty "str") (by rfl) T.n_str (by decide +kernel) rfl) pa_nil))) (pe_one (pe_cmpR op_eq (pv 0) (pv 1) (nomark _)))))) pss_nil)
      (pss_cons (ps_if (PW.pt (pw_and (pt_val (pe_callB call_isi (by rfl) T.n_isinstance (by decide +kernel) (pa_cons (pv 1) (pa_cons (pe_bltn (v := .ty "tuple") (by rfl) T.n_tuple (by decide +kernel) rfl) pa_nil)))) (pw_and1 (pt_not (pt_val (pe_callB call_isi (by rfl) T.n_isinstance (by decide +kernel) (pa_cons (pv 0) (pa_cons (pe_bltn (v := .ty "tuple") (by rfl) T.n_tuple (by decide +kernel) rfl) pa_nil)))))))) (pss_one (ps_ret (pe_bl))) pss_nil)
      (pss_cons (ps_if (PW.pt (pw_and (pt_val (pe_callB call_isi (by rfl) T.n_isinstance (by decide +kernel) (pa_cons (pv 1) (pa_cons (pe_bltn (v := .ty "list") (by rfl) T.n_list (by decide +kernel) rfl) pa_nil)))) (pw_and1 (pt_not (pt_val (pe_callB call_isi (by rfl) T.n_isinstance (by decide +kernel) (pa_cons (pv 0) (pa_cons (pe_bltn (v := .ty "list") (by rfl) T.n_list (by decide +kernel) rfl) pa_nil)))))))) (pss_one (ps_ret (pe_bl))) pss_nil)
      (pss_cons (ps_if (pt_cmpR op_ne (pe_callB call_len_seq (by rfl) T.n_len (by decide +kernel) (pa_cons (pv 0) pa_nil)) (pe_callB call_len_seq (by rfl) T.n_len (by decide +kernel) (pa_cons (pv 1) pa_nil)) (nomark _)) (pss_one (ps_ret (pe_bl))) pss_nil)
      (pss_cons (ps_for PassesOwn.never rfl (pi_range1 (by rfl) T.n_range (pa_cons (pe_callB call_len_seq (by rfl) T.n_len (by decide +kernel) (pa_cons (pv 1) pa_nil)) pa_nil)) (pg_name (i := 2) sc__law_same.nd rfl (.inl rfl)) (pss_one (ps_if (pt_not (pt_val (pe_call (ok__law_same T n) (hr.mono (by omega)) (by rfl) T.g__law_same T.F__law_same.kp T.b__law_same .nil pass0 (pa_cons (pe_ix ix_seq (pv 0) (pv 2) (fun _ _ => rfl)) (pa_cons (pe_ix ix_seq (pv 1) (pv 2) (fun _ _ => rfl)) pa_nil))))) (pss_one (ps_ret (pe_bl))) pss_nil)))
      (pss_one (ps_ret (pe_bl))))))))))), ?_⟩
      rcases h1 with h1 | ⟨a1, xs1, ds1, rfl, rfl, h1, z1, p1⟩ | ⟨a1, xs1, ds1, rfl, rfl, h1, z1, p1⟩ <;> rcases h2 with h2 | ⟨a2, xs2, ds2, rfl, rfl, h2, z2, p2⟩ | ⟨a2, xs2, ds2, rfl, rfl, h2, z2, p2⟩
      · cases h1 <;> cases h2
        all_goals walk_at "ri"
        all_goals first | (rw [same_no (by intro z; cases z)] at q; exact q) | (rw [same_bl] at q; exact q) | (rw [same_int] at q; exact q) | (rw [same_str] at q; exact q) | (rw [same_non] at q; exact q)
      · have t2 := h2.sq
        cases h1
        all_goals (walk_at "ri"; rw [same_no (by intro z; cases z)] at q; exact q)
      · have t2 := h2.sq
        cases h1
        all_goals (walk_at "ri"; rw [same_no (by intro z; cases z)] at q; exact q)
      · have t1 := h1.sq
        cases h2
        all_goals (walk_at "ri"; rw [same_no (by intro z; cases z)] at q; exact q)
      · have t1 := h1.sq
        have t2 := h2.sq
        walk_at "ri"
        refine ⟨_, _, rfl, .inl t1, _, rfl, _, _, rfl, .inl t2, rfl, _, rfl, ?_⟩
        have l1 := pair_len p1
        have l2 := pair_len p2
        refine iteN (fun c => ?_) (fun c => ?_)
        · rw [same_no (by intro z; cases z; exact c (by rw [l1, l2]))] at q; exact q
        have c' : xs1.length = xs2.length := by have := V.int.inj c; omega
        refine ⟨_, rfl, _, _, rfl, .inl t2, _, rfl, by omega, by omega, for_range (lo := 0) (n := _) (fun j σ H' => ∃ x2, σ = [some (.ref a1), some (.ref a2), x2] ∧ H' = H ∧ ds1.take j = ds2.take j) ⟨_, rfl, rfl, rfl⟩ ?_ ?_⟩
        · rintro j σ H1 hj ⟨x2, rfl, rfl, et⟩
          have j2 : j < xs2.length := by omega
          have j1 : j < xs1.length := by omega
          obtain ⟨e1, g1, r1⟩ := pair_get p1 (List.getElem?_eq_getElem j1)
          obtain ⟨e2, g2, r2⟩ := pair_get p2 (List.getElem?_eq_getElem j2)
          refine ⟨_, rfl, _, rfl, .inl ⟨_, _, _, _, rfl, rfl, t1, at_of (j := j) (by omega) (List.getElem?_eq_getElem j1), ?_⟩⟩
          refine ⟨_, rfl, _, rfl, .inl ⟨_, _, _, _, rfl, rfl, t2, at_of (j := j) (by omega) (List.getElem?_eq_getElem j2), ?_⟩⟩
          refine ⟨x, _, _, e1, e2, rfl, r1, r2, _, rfl, ?_⟩
          refine iteB (fun b => ?_) (fun b => ?_)
          · have ne : e1 ≠ e2 := fun h => by rw [same_yes h] at b; cases b
            rw [same_no (by intro z; cases z; rw [g1] at g2; exact ne (Option.some.inj g2))] at q; exact q
          · have ee : e1 = e2 := by
              apply same_iff.mp
              cases h : sameD e1 e2 with
              | true => rfl
              | false => rw [h] at b; cases b
            subst ee
            exact ⟨_, rfl, rfl, by rw [List.take_add_one, List.take_add_one, et, g1, g2]⟩
        · rintro σ H1 ⟨x2, rfl, rfl, et⟩
          have ed : ds1 = ds2 := by
            rw [List.take_of_length_le (by omega), List.take_of_length_le (by omega)] at et
            exact et
          subst ed
          rw [same_yes rfl] at q; exact q
      · have t1 := h1.sq
        have t2 := h2.sq
        walk_at "ri"
        rw [same_no (by intro z; cases z)] at q; exact q
      · have t1 := h1.sq
        cases h2
        all_goals (walk_at "ri"; rw [same_no (by intro z; cases z)] at q; exact q)
      · have t1 := h1.sq
        have t2 := h2.sq
        walk_at "ri"
        rw [same_no (by intro z; cases z)] at q; exact q
      · have t1 := h1.sq
        have t2 := h2.sq
        walk_at "ri"
        refine ⟨_, _, rfl, .inr t1, _, rfl, _, _, rfl, .inr t2, rfl, _, rfl, ?_⟩
        have l1 := pair_len p1
        have l2 := pair_len p2
        refine iteN (fun c => ?_) (fun c => ?_)
        · rw [same_no (by intro z; cases z; exact c (by rw [l1, l2]))] at q; exact q
        have c' : xs1.length = xs2.length := by have := V.int.inj c; omega
        refine ⟨_, rfl, _, _, rfl, .inr t2, _, rfl, by omega, by omega, for_range (lo := 0) (n := _) (fun j σ H' => ∃ x2, σ = [some (.ref a1), some (.ref a2), x2] ∧ H' = H ∧ ds1.take j = ds2.take j) ⟨_, rfl, rfl, rfl⟩ ?_ ?_⟩
        · rintro j σ H1 hj ⟨x2, rfl, rfl, et⟩
          have j2 : j < xs2.length := by omega
          have j1 : j < xs1.length := by omega
          obtain ⟨e1, g1, r1⟩ := pair_get p1 (List.getElem?_eq_getElem j1)
          obtain ⟨e2, g2, r2⟩ := pair_get p2 (List.getElem?_eq_getElem j2)
          refine ⟨_, rfl, _, rfl, .inr (.inl ⟨_, _, _, _, rfl, rfl, t1, at_of (j := j) (by omega) (List.getElem?_eq_getElem j1), ?_⟩)⟩
          refine ⟨_, rfl, _, rfl, .inr (.inl ⟨_, _, _, _, rfl, rfl, t2, at_of (j := j) (by omega) (List.getElem?_eq_getElem j2), ?_⟩)⟩
          refine ⟨x, _, _, e1, e2, rfl, r1, r2, _, rfl, ?_⟩
          refine iteB (fun b => ?_) (fun b => ?_)
          · have ne : e1 ≠ e2 := fun h => by rw [same_yes h] at b; cases b
            rw [same_no (by intro z; cases z; rw [g1] at g2; exact ne (Option.some.inj g2))] at q; exact q
          · have ee : e1 = e2 := by
              apply same_iff.mp
              cases h : sameD e1 e2 with
              | true => rfl
              | false => rw [h] at b; cases b
            subst ee
            exact ⟨_, rfl, rfl, by rw [List.take_add_one, List.take_add_one, et, g1, g2]⟩
        · rintro σ H1 ⟨x2, rfl, rfl, et⟩
          have ed : ds1 = ds2 := by
            rw [List.take_of_length_le (by omega), List.take_of_length_le (by omega)] at et
            exact et
          subst ed
          rw [same_yes rfl] at q; exact q
end
theorem nsame {d : PyData} : (!sameD d d) = false := by rw [same_yes rfl]; rfl
end My

namespace My
open PySem L2
/-! ### lists of ints: in, flat; slices -/
theorem flat_ints (ns : List Int) : (ns.map V.int).all flatV = true := by
  rw [List.all_eq_true]
  intro v h
  obtain ⟨n, _, rfl⟩ := List.mem_map.mp h
  rfl
theorem in_ints (n : Int) (ns : List Int) : inV (.int n) (ns.map V.int) = decide (n ∈ ns) := by
  unfold inV
  rw [List.any_map, Bool.eq_iff_iff, List.any_eq_true, decide_eq_true_iff]
  constructor
  · rintro ⟨m, h, e⟩
    have e : (m == n) = true := e
    rw [← beq_iff_eq.mp e]; exact h
  · intro h
    exact ⟨n, h, by show (n == n) = true; simp⟩
theorem cut_to (xs : List V) (n : Nat) : cutV xs none (some (n : Int)) = xs.take n := by
  unfold cutV HT.sIx
  simp only [List.drop_zero, Nat.sub_zero]
  have h0 : ¬ (n : Int) < 0 := by omega
  simp only [h0, if_false]
  by_cases h : n ≤ xs.length
  · congr 1
    omega
  · rw [List.take_of_length_le (by omega), List.take_of_length_le (by omega)]
theorem cut_from (xs : List V) (n : Nat) : cutV xs (some (n : Int)) none = xs.drop n := by
  unfold cutV HT.sIx
  have h0 : ¬ (n : Int) < 0 := by omega
  simp only [h0, if_false]
  by_cases h : n ≤ xs.length
  · rw [List.take_of_length_le (by rw [List.length_drop]; omega)]
    congr 1
    omega
  · rw [List.drop_eq_nil_of_le (by omega), List.drop_eq_nil_of_le (by omega), List.take_nil]
end My

namespace My
open PySem L2
/-! ### shapes: rows -/
structure Row where
  mark : Str
  pars : List Str
  least : Int
  most : Int
  sh : Bool
  deriving DecidableEq
def isMk (t : Str) : Bool := decide (1 ≤ t.length ∧ t.length ≤ 8) && (TL.tl t).all fun c => decide (97 ≤ c ∧ c ≤ 122)
def spMark : Sp := fun vs H Q _ => ∃ (z : Str), vs = [.str z] ∧ z.length ≤ 90000 ∧ Q (.bl (isMk z)) H
theorem letter_mem {c : Nat} : c ∈ ("abcdefghijklmnopqrstuvwxyz" : Str).cps.toList ↔ 97 ≤ c ∧ c ≤ 122 := by
  rw [show ("abcdefghijklmnopqrstuvwxyz" : Str).cps.toList = [97, 98, 99, 100, 101, 102, 103, 104, 105, 106, 107, 108, 109, 110, 111, 112, 113, 114, 115, 116, 117, 118, 119, 120, 121, 122] by decide +kernel]
  simp only [List.mem_cons, List.not_mem_nil, or_false]
  omega
section
variable {w : World} {K : PySem.W.Frag} {mg : Str → Option Value} {base : Heap}
theorem ok_is_mark (T : Txt K mg) : FnOk PP w K mg base CX0 1 T.a_is_mark T.fd_is_mark ["text"] spMark := by
  refine T.F_is_mark.ok sc_is_mark (fun vs H Q E h => ?_) (fun cdv A outer s H vs Q E hr h => ?_)
  · obtain ⟨z, rfl, _⟩ := h; rfl
  · obtain ⟨z, rfl, hz, q⟩ := h
    refine ⟨_, (pss_cons (ps_if (pt_not (pt_chain op_le op_le (pe_int) (pe_callB call_len_str (by rfl) T.n_len (by decide +kernel) (pa_cons (pv 0) pa_nil)) (pe_int))) (pss_one (ps_ret (pe_bl))) pss_nil)
      (pss_cons (ps_for PassesOwn.never rfl (pi_str (pv 0)) (pg_name (i := 1) sc_is_mark.nd rfl (.inl rfl)) (pss_one (ps_if (pt_cmpR op_notInS (pv 1) (pe_glob (v := .str "abcdefghijklmnopqrstuvwxyz") (by rfl) T.g_LETTERS ⟨_, rfl⟩) (by with_unfolding_all rfl)) (pss_one (ps_ret (pe_bl))) pss_nil)))
      (pss_one (ps_ret (pe_bl))))), ?_⟩
    have big : 90000 < sizeLine := by decide
    by_cases k1 : 1 ≤ z.length
    case neg =>
      rw [show isMk z = false by unfold isMk; rw [decide_eq_false (by omega)]; rfl] at q
      exact ⟨_, rfl, z, rfl, by omega, _, _, rfl, rfl, _, rfl, iteNo (decide_eq_false (by omega)) ⟨_, rfl, iteYes rfl q⟩⟩
    refine ⟨_, rfl, z, rfl, by omega, _, _, rfl, rfl, _, rfl, iteYes (decide_eq_true (by omega)) ⟨_, _, rfl, rfl, _, rfl, ?_⟩⟩
    by_cases k9 : z.length ≤ 8
    case neg =>
      rw [show isMk z = false by unfold isMk; rw [decide_eq_false (by omega)]; rfl] at q
      exact iteYes (by rw [decide_eq_false (by omega)]; rfl) q
    refine iteNo (by rw [decide_eq_true (by omega)]; rfl) ?_
    refine ⟨_, rfl, z, rfl, for_str (z := z) (fun i σ H' => ∃ x1, H' = H ∧ σ = [some (.str z), x1] ∧ ∀ j, j < i → ∀ c, (TL.tl z)[j]? = some c → 97 ≤ c ∧ c ≤ 122) ⟨_, rfl, rfl, fun j hj => absurd hj (Nat.not_lt_zero _)⟩ ?_ ?_⟩
    · rintro i c σ H' hc ⟨x1, rfl, rfl, hp⟩
      refine ⟨_, rfl, c, _, rfl, rfl, _, rfl, iteN (fun h => ?_) (fun h => ?_)⟩
      · rw [show isMk z = false by
          unfold isMk
          rw [List.all_eq_false.mpr ⟨c, List.mem_of_getElem? hc, by simpa using fun a => Nat.lt_of_not_le fun b => h (letter_mem.mpr ⟨a, b⟩)⟩, Bool.and_false]] at q
        exact q
      · refine ⟨_, rfl, rfl, fun j hj c' hc' => ?_⟩
        by_cases e : j = i
        · subst e
          rw [hc] at hc'
          exact Option.some.inj hc' ▸ letter_mem.mp h
        · exact hp j (by omega) c' hc'
    · rintro σ H' ⟨x1, rfl, rfl, hp⟩
      rw [show isMk z = true by
        unfold isMk
        rw [decide_eq_true ⟨k1, k9⟩, Bool.true_and, List.all_eq_true]
        intro c hc
        obtain ⟨j, hj, e⟩ := List.getElem_of_mem hc
        exact decide_eq_true (hp j (by rw [TL.len_tl]; exact hj) c (by rw [List.getElem?_eq_getElem hj, e]))] at q
      exact q
end
end My

namespace My
open PySem L2
def rowL (r : Row) (pp : Addr) : List V := [.str r.mark, .ref pp, .int r.least, .int r.most, .bl r.sh]
/-- a row as it is handed over: lists or tuples -/
def RowV (H : Hp) (v : V) (r : Row) : Prop := ∃ p pp, v = .ref p ∧ (H p = some (.tup (rowL r pp)) ∨ H p = some (.lst (rowL r pp))) ∧ (H pp = some (.tup (r.pars.map V.str)) ∨ H pp = some (.lst (r.pars.map V.str)))
/-- a row as it is kept -/
def RowT (H : Hp) (v : V) (r : Row) : Prop := ∃ p pp, v = .ref p ∧ H p = some (.tup (rowL r pp)) ∧ H pp = some (.tup (r.pars.map V.str))
def small (r : Row) : Prop := r.mark.length ≤ 1000 ∧ r.pars.length ≤ 100
def sizeB (r : Row) : Bool := decide (0 ≤ r.least) && (decide (r.least ≤ r.most) && decide (r.most ≤ 4))
def fineB (r : Row) (bs : List Str) : Bool := (isMk r.mark && (!decide (r.mark ∈ bs) && sizeB r)) && (decide (0 < r.most) == decide (0 < r.pars.length)) && decide r.pars.Nodup
def spRow (X : Addr) : Sp := fun vs H Q E => ∃ (v : V) (b : Addr) (r : Row) (bs : List Str), vs = [v, .ref b] ∧ RowV H v r ∧ H b = some (.lst (bs.map V.str)) ∧ small r ∧
  (fineB r bs = true → ∀ p pp H', Same H H' → H p = none → H' p = some (.tup (rowL r pp)) → H' pp = some (.tup (r.pars.map V.str)) → Q (.ref p) H') ∧
  (fineB r bs = false → ∀ H' d, Same H H' → H d = none → H' d = some (.xd [("mark", .str r.mark)]) → E (.ref X) (some d) H')
theorem flat_strs (ns : List Str) : (ns.map V.str).all flatV = true := by
  rw [List.all_eq_true]
  intro v h
  obtain ⟨n, _, rfl⟩ := List.mem_map.mp h
  rfl
theorem in_strs (n : Str) (ns : List Str) : inV (.str n) (ns.map V.str) = decide (n ∈ ns) := by
  unfold inV
  rw [List.any_map, Bool.eq_iff_iff, List.any_eq_true, decide_eq_true_iff]
  constructor
  · rintro ⟨m, h, e⟩
    have e : (m == n) = true := e
    rw [← beq_iff_eq.mp e]; exact h
  · intro h
    exact ⟨n, h, by show (n == n) = true; simp⟩
theorem nodup_take_succ {xs : List Str} {i : Nat} {y : Str} (h : xs[i]? = some y) : (xs.take (i + 1)).Nodup ↔ (xs.take i).Nodup ∧ y ∉ xs.take i := by
  rw [List.take_succ, h, Option.toList_some, List.nodup_append]
  constructor
  · rintro ⟨a, _, b⟩
    exact ⟨a, fun m => b y m y (List.mem_singleton.mpr rfl) rfl⟩
  · rintro ⟨a, b⟩
    refine ⟨a, List.nodup_cons.mpr ⟨List.not_mem_nil, List.nodup_nil⟩, fun x hx z hz e => b ?_⟩
    rw [List.mem_singleton.mp hz] at e
    exact e ▸ hx
section
variable {w : World} {K : PySem.W.Frag} {mg : Str → Option Value} {base : Heap}
theorem ok_sound_row (T : Txt K mg) : FnOk PP w K mg base (L2.CX PP w) 3 T.a_sound_row T.fd_sound_row ["row", "before"] (spRow T.c_BadShape) := by
  refine T.F_sound_row.okX sc_sound_row (fun vs H Q E h => ?_) (fun cdv A outer s H vs Q E hr h => ?_)
  · obtain ⟨v, b, r, bs, rfl, _⟩ := h; rfl
  · obtain ⟨v, b, r, bs, rfl, ⟨p, pp, rfl, hp, hpp⟩, hb, hz, q, qb⟩ := h
    refine ⟨_, (pss_cons (ps_asg (pv 0) (pg_seq rfl (pgs_cons (pg_name (i := 2) sc_sound_row.nd rfl (.inl rfl)) (pgs_cons (pg_name (i := 3) sc_sound_row.nd rfl (.inl rfl)) (pgs_cons (pg_name (i := 4) sc_sound_row.nd rfl (.inl rfl)) (pgs_cons (pg_name (i := 5) sc_sound_row.nd rfl (.inl rfl)) (pgs_cons (pg_name (i := 6) sc_sound_row.nd rfl (.inl rfl)) pgs_nil)))))))
      (C8.pss_cut (ps_set (i := 3) sc_sound_row.nd rfl (.inl rfl) (pe_callTy call_tuple_of (by rfl) T.n_tuple (by decide +kernel) (pa_cons (pv 3) pa_nil)))
      (C8.pss_cut (ps_set (i := 7) sc_sound_row.nd rfl (.inl rfl) (pe_and (pe_call (ok_is_mark T) (hr.mono (by omega)) (by rfl) T.g_is_mark T.F_is_mark.kp T.b_is_mark .nil pass0 (pa_cons (pv 2) pa_nil)) (pe_and (pe_cmpR op_notIn_seq (pv 2) (pv 1) (by with_unfolding_all rfl)) (pe_one (pe_chain3 op_le op_le op_le (pe_int) (pv 4) (pv 5) (ClX.pe_cval (pe_glob (v := .ref T.c_Shape) (by rfl) T.g_Shape rfl)))))))
      (C8.pss_cut (ps_if (PW.pt (pw_and (pt_val (pv 7)) (pw_and1 (pt_cmpR op_ne (pe_cmpR op_gt (pv 5) (pe_int) (nomark _)) (pe_cmpR op_gt (pe_callB call_len_seq (by rfl) T.n_len (by decide +kernel) (pa_cons (pv 3) pa_nil)) (pe_int) (nomark _)) (nomark _))))) (pss_one (ps_set (i := 7) sc_sound_row.nd rfl (.inl rfl) (pe_bl))) pss_nil)
      (pss_cons (ps_for (passes_of rfl) rfl (pi_enumT (by rfl) T.n_enumerate (pa_cons (pv 3) pa_nil)) (pg_tup rfl (pgs_cons (pg_name (i := 8) sc_sound_row.nd rfl (.inl rfl)) (pgs_cons (pg_name (i := 9) sc_sound_row.nd rfl (.inl rfl)) pgs_nil))) (pss_one (ps_if (pt_cmpR op_in_seq (pv 9) (pe_slice sl_tup (pv 3) po_none (po_some (pv 8))) (by with_unfolding_all rfl)) (pss_one (ps_set (i := 7) sc_sound_row.nd rfl (.inl rfl) (pe_bl))) pss_nil)))
      (pss_cons (ps_if (pt_not (pt_val (pv 7))) (pss_one (ps_raiseX rfl T.x_BadShape hr (takes_of rfl rfl rfl rfl) (pa_cons (pv 2) pa_nil))) pss_nil)
      (pss_one (ps_ret (pe_tup (pa_cons (pv 2) (pa_cons (pv 3) (pa_cons (pv 4) (pa_cons (pv 5) (pa_cons (pv 6) pa_nil)))))))))))))), ?_⟩
    have big : 90000 < sizeLine := by decide
    refine ⟨_, rfl, gSeq_of hp rfl ⟨_, _, rfl, _, _, rfl, _, _, rfl, _, _, rfl, _, _, rfl, rfl, ?_⟩⟩
    have lm := hz.1
    have lp := hz.2
    -- parents = tuple(parents)
    refine ⟨fun σ' H' => ∃ pq, σ' = [some (.ref p), some (.ref b), some (.str r.mark), some (.ref pq), some (.int r.least), some (.int r.most), some (.bl r.sh), none, none, none] ∧ Same H H' ∧ H' pq = some (.tup (r.pars.map V.str)), ?_, ?_⟩
    · rcases hpp with hpp | hpp
      · exact ⟨_, rfl, pp, _, rfl, .inr ⟨SqT.of hpp, pp, rfl, fun _ _ h => h, hpp⟩⟩
      · exact ⟨_, rfl, pp, _, rfl, .inl ⟨SqL.of hpp, fun l hl => ⟨l, rfl, same_new hl, upd_same⟩⟩⟩
    rintro σ' H1 ⟨pq, rfl, s1, hq⟩
    -- good
    refine ⟨fun σ' H' => H' = H1 ∧ σ' = [some (.ref p), some (.ref b), some (.str r.mark), some (.ref pq), some (.int r.least), some (.int r.most), some (.bl r.sh), some (.bl (isMk r.mark && (!decide (r.mark ∈ bs) && sizeB r))), none, none], ?_, ?_⟩
    · refine ⟨_, rfl, r.mark, rfl, by omega, ?_⟩
      refine ⟨_, rfl, ?_⟩
      cases isMk r.mark with
      | false => exact iteF ⟨rfl, rfl⟩
      | true =>
        refine iteT ⟨_, rfl, _, rfl, _, _, rfl, .inl (SqL.of (s1 _ _ hb)), rfl, flat_strs bs, ?_⟩
        rw [in_strs]
        refine ⟨_, rfl, ?_⟩
        by_cases hm : r.mark ∈ bs
        · refine iteNo (by simp [hm]) ⟨rfl, ?_⟩
          rw [show (true && (!decide (r.mark ∈ bs) && sizeB r)) = false by simp [hm]]
          rfl
        · refine iteYes (by simp [hm]) ⟨_, rfl, _, _, rfl, rfl, _, rfl, iteD (fun c1 => ?_) (fun c1 => ?_)⟩
          · refine ⟨_, rfl, _, _, rfl, rfl, _, rfl, iteD (fun c2 => ?_) (fun c2 => ?_)⟩
            · refine ⟨_, _, _, _, rfl, T.cr_Shape, T.cv_Shape_PARENTS, _, _, rfl, rfl, rfl, ?_⟩
              rw [show (true && (!decide (r.mark ∈ bs) && sizeB r)) = decide (r.most ≤ 4) by simp [hm, sizeB, c1, c2]]
              rfl
            · refine ⟨rfl, ?_⟩
              rw [show (true && (!decide (r.mark ∈ bs) && sizeB r)) = false by simp [hm, sizeB, c2]]
              rfl
          · refine ⟨rfl, ?_⟩
            rw [show (true && (!decide (r.mark ∈ bs) && sizeB r)) = false by simp [hm, sizeB, c1]]
            rfl
    rintro σ' H' ⟨rfl, rfl⟩
    generalize hg0 : (isMk r.mark && (!decide (r.mark ∈ bs) && sizeB r)) = g0
    -- parents and the greatest number
    refine ⟨fun σ' H1 => H1 = H' ∧ σ' = [some (.ref p), some (.ref b), some (.str r.mark), some (.ref pq), some (.int r.least), some (.int r.most), some (.bl r.sh), some (.bl (g0 && (decide (0 < r.most) == decide (0 < r.pars.length)))), none, none], ?_, ?_⟩
    · refine ⟨_, rfl, _, rfl, ?_⟩
      cases g0 with
      | false => exact iteF ⟨rfl, rfl⟩
      | true =>
        refine iteT ⟨_, rfl, _, _, rfl, rfl, _, rfl, pq, _, rfl, .inr (SqT.of hq), _, _, rfl, rfl, rfl, _, rfl, ?_⟩
        rw [List.length_map]
        have hz : decide ((0 : Int) < ((r.pars.length : Nat) : Int)) = decide (0 < r.pars.length) := decide_eq_decide.mpr (by omega)
        refine iteN (fun e => ?_) (fun e => ?_)
        · refine ⟨rfl, ?_⟩
          have e : decide (0 < r.most) ≠ decide (0 < r.pars.length) := fun z => e (congrArg V.bl (z.trans hz.symm))
          rw [show (true && (decide (0 < r.most) == decide (0 < r.pars.length))) = false by simpa using e]
          rfl
        · refine ⟨rfl, ?_⟩
          have e : decide (0 < r.most) = decide (0 < r.pars.length) := (V.bl.inj e).trans hz
          rw [e]; simp
    rintro σ' H1 ⟨rfl, rfl⟩
    generalize hg1 : (g0 && (decide (0 < r.most) == decide (0 < r.pars.length))) = g1
    refine ⟨_, rfl, pq, _, rfl, SqT.of hq, for_enumT (K := K) (a := pq) (xs := r.pars.map V.str) (fun i σ' H2 => ∃ x8 x9, Same H1 H2 ∧ σ' = [some (.ref p), some (.ref b), some (.str r.mark), some (.ref pq), some (.int r.least), some (.int r.most), some (.bl r.sh), some (.bl (g1 && decide (r.pars.take i).Nodup)), x8, x9])
      ⟨_, _, fun _ _ h => h, by rw [List.take_zero, decide_eq_true List.nodup_nil, Bool.and_true]⟩ (fun i σ' H2 _ ⟨_, _, s2, _⟩ => SqT.of (s2 _ _ hq)) ?_ ?_⟩
    · rintro i v σ' H2 Tt hv ⟨x8, x9, s2, rfl⟩ hTt
      obtain ⟨y, hy, rfl⟩ : ∃ y, r.pars[i]? = some y ∧ v = .str y := by
        rw [List.getElem?_map] at hv
        cases e : r.pars[i]? with
        | none => rw [e] at hv; cases hv
        | some y => rw [e] at hv; exact ⟨y, rfl, (Option.some.inj hv).symm⟩
      have s3 := s2.trans (same_new (o := .tup [.int (i : Nat), .str y]) hTt)
      have hi : i < r.pars.length := (List.getElem?_eq_some_iff.mp hy).1
      have hpq : (L2.upd H2 Tt (.tup [.int (i : Nat), .str y])) pq = some (.tup (r.pars.map V.str)) := s3 _ _ hq
      refine ⟨Tt, _, rfl, .inl (.inl upd_same), rfl, _, _, rfl, _, _, rfl, rfl, ?_⟩
      refine ⟨_, rfl, _, rfl, _, rfl, _, rfl, pq, _, rfl, SqT.of hpq, ?_, fun c hc => ?_⟩
      · rw [HT.sIx_nat, List.length_map, Nat.min_eq_left (Nat.le_of_lt hi)]
        exact fun h => absurd h.2 (by omega)
      · have ct : cutV (r.pars.map V.str) none (some ((i : Nat) : Int)) = (r.pars.take i).map V.str := by rw [cut_to, List.map_take]
        refine ⟨_, _, rfl, .inr (SqT.of upd_same), rfl, by rw [ct]; exact flat_strs _, ?_⟩
        rw [ct, in_strs]
        refine ⟨_, rfl, iteD (fun k => ?_) (fun k => ?_)⟩
        · refine ⟨some (.int (i : Nat)), some (.str y), s3.trans (same_new hc), ?_⟩
          rw [decide_eq_false (p := (r.pars.take (i + 1)).Nodup) (fun n => ((nodup_take_succ hy).mp n).2 k), Bool.and_false]
          rfl
        · refine ⟨some (.int (i : Nat)), some (.str y), s3.trans (same_new hc), ?_⟩
          rw [show decide (r.pars.take (i + 1)).Nodup = decide (r.pars.take i).Nodup from decide_eq_decide.mpr ⟨fun n => ((nodup_take_succ hy).mp n).1, fun n => (nodup_take_succ hy).mpr ⟨n, k⟩⟩]
          rfl
    rintro σ' H2 ⟨x8, x9, s2, rfl⟩
    rw [List.length_map, List.take_length]
    have ef : fineB r bs = (g1 && decide r.pars.Nodup) := by unfold fineB; rw [hg0, hg1]
    have t2 := s1.trans s2
    refine ⟨_, rfl, _, rfl, ?_⟩
    rw [← ef]
    cases hf : fineB r bs with
    | false =>
      refine iteYes rfl ⟨_, rfl, _, rfl, fun d hd => ?_⟩
      exact qb hf _ d (t2.trans (same_new hd)) (t2.free hd) upd_same
    | true =>
      refine iteNo rfl ⟨_, rfl, _, rfl, _, rfl, _, rfl, _, rfl, by show 5 ≤ sizeLine; decide, fun z hz' => ?_⟩
      exact q hf z pq _ (t2.trans (same_new hz')) (t2.free hz') upd_same (same_new hz' _ _ (s2 _ _ hq))
end
end My

namespace My
open PySem L2
/-! ### marks that webs can contain -/
inductive Fert (rs : List Row) : Str → Prop
  | base {r : Row} : r ∈ rs → r.least = 0 → Fert rs r.mark
  | step {r : Row} {p : Str} : r ∈ rs → p ∈ r.pars → Fert rs p → Fert rs r.mark
abbrev RowsT (H : Hp) (vs : List V) (rs : List Row) : Prop := Paired (RowT H) vs rs
theorem RowT.same {H H' : Hp} {v : V} {r : Row} (h : RowT H v r) (s : Same H H') : RowT H' v r := let ⟨p, pp, e, a, b⟩ := h; ⟨p, pp, e, s _ _ a, s _ _ b⟩
theorem rowsT_same {H H' : Hp} {vs : List V} {rs : List Row} (h : RowsT H vs rs) (s : Same H H') : RowsT H' vs rs := L2.Paired.mapP h fun _ _ x => x.same s
theorem pair_get' {α β : Type} {F : α → β → Prop} : ∀ {l : List α} {m : List β} {i : Nat} {x : α}, Paired F l m → l[i]? = some x → ∃ y, m[i]? = some y ∧ F x y
  | _, _, _, _, .nil, e => by simp at e
  | _, _, 0, _, .cons r _, e => by simp at e; subst e; exact ⟨_, rfl, r⟩
  | _, _, i + 1, x, .cons _ t, e => by
    obtain ⟨y, h1, h2⟩ := pair_get' (i := i) (x := x) t (by simpa using e)
    exact ⟨y, by simpa using h1, h2⟩
theorem pair_len' {α β : Type} {F : α → β → Prop} : ∀ {l : List α} {m : List β}, Paired F l m → l.length = m.length
  | _, _, .nil => rfl
  | _, _, .cons _ t => by rw [List.length_cons, List.length_cons, pair_len' t]
/-- the first mark that no web can contain -/
inductive Lost (rs : List Row) : V → Prop
  | no : (∀ r ∈ rs, Fert rs r.mark) → Lost rs .non
  | yes {i : Nat} {r : Row} : rs[i]? = some r → (∀ q ∈ rs.take i, Fert rs q.mark) → ¬ Fert rs r.mark → Lost rs (.str r.mark)
def spBarren (K : PySem.W.Frag) : Sp := fun vs H Q _ => ∃ (a : Addr) (us : List V) (rs : List Row), vs = [.ref a] ∧ H a = some (.lst us) ∧ RowsT H us rs ∧ rs.length ≤ 100 ∧ (∀ r ∈ rs, small r) ∧
  ∀ v H', Same H H' → Lost rs v → Q v H'
def knB (kvs : List (Key × V)) (m : Str) : Bool := (valV kvs (.inr m)).isSome
theorem knB_put {kvs : List (Key × V)} {m n : Str} {v : V} : knB (putK kvs (.inr m) v) n = (decide (n = m) || knB kvs n) := by
  unfold knB
  rw [valV_put]
  by_cases e : n = m
  · subst e; simp
  · rw [if_neg (fun c => e (Sum.inr.inj c))]; simp [e]
def ripeB (kvs : List (Key × V)) (r : Row) : Bool := decide (r.least = 0) || r.pars.any (knB kvs)
/-- rows whose marks are not known -/
def restOf (kvs : List (Key × V)) (rs : List Row) : Nat := (rs.filter fun r => !knB kvs r.mark).length
theorem flt_lt {α : Type} {f g : α → Bool} {x : α} : ∀ {l : List α}, (∀ y ∈ l, f y = true → g y = true) → x ∈ l → f x = false → g x = true → (l.filter f).length < (l.filter g).length
  | [], _, h, _, _ => by cases h
  | a :: l, i, h, hf, hg => by
    have le : ∀ {l : List α}, (∀ y ∈ l, f y = true → g y = true) → (l.filter f).length ≤ (l.filter g).length := by
      intro l
      induction l with
      | nil => intro _; exact Nat.le_refl _
      | cons a l ih =>
        intro i
        have ih := ih fun y hy => i y (List.mem_cons_of_mem _ hy)
        have ia := i a (List.mem_cons_self ..)
        simp only [List.filter_cons]
        cases e : f a with
        | false => cases g a <;> simp <;> omega
        | true => rw [ia e]; simp; exact ih
    have il := fun y hy => i y (List.mem_cons_of_mem _ hy)
    simp only [List.filter_cons]
    rcases List.mem_cons.mp h with rfl | h
    · rw [hf, hg]
      simp only [Bool.false_eq_true, if_false, if_true, List.length_cons]
      exact Nat.lt_succ_of_le (le il)
    · have := flt_lt il h hf hg
      have ia := i a (List.mem_cons_self ..)
      cases e : f a with
      | false => cases g a <;> simp <;> omega
      | true => rw [ia e]; simp; exact this
theorem rest_put {kvs : List (Key × V)} {rs : List Row} {r : Row} {v : V} (h : r ∈ rs) (n : knB kvs r.mark = false) : restOf (putK kvs (.inr r.mark) v) rs < restOf kvs rs := by
  refine flt_lt (x := r) (fun y _ e => ?_) h ?_ ?_
  · rw [knB_put] at e
    cases k : knB kvs y.mark with
    | false => rfl
    | true => rw [k, Bool.or_true] at e; cases e
  · rw [knB_put]; simp
  · rw [n]; rfl
section
variable {K : PySem.W.Frag}
theorem any_kn {x0 x2 x3 x5 x6 x7 x8 : Option V} {d pp : Addr} {ps : List Str} {kvs : List (Key × V)} {H : Hp} {Q : VK} (hd : H d = some (.dK kvs)) (hp : H pp = some (.tup (ps.map V.str))) (hz : ps.length ≤ 1000) (q : ∀ H', Same H H' → Q (.bl (ps.any (knB kvs))) H') :
    tCB (rAny K) (tCons (tLc (iTup K (tVar 4)) (gName 7) tYes (tOp (rInKd false) (tVar 7) (tVar 1)) [7]) tNil) [x0, some (.ref d), x2, x3, some (.ref pp), x5, x6, x7, x8] H Q := by
  have big : 1000 < sizeLine := by decide
  refine ⟨_, rfl, pp, rfl, ⟨_, SqT.of hp⟩, fun D hD => lc_tup (K := K) (a := pp) (xs := ps.map V.str) (fun i H' => Same H H' ∧ H' D = some (.lst ((ps.take i).map fun y => V.bl (knB kvs y)))) ⟨same_new hD, upd_same⟩ (fun i H' _ h => SqT.of (h.1 _ _ hp)) ?_ ?_⟩
  · rintro i v H1 hv ⟨s1, hD1⟩
    rw [List.getElem?_map] at hv
    cases e : ps[i]? with
    | none => rw [e] at hv; cases hv
    | some y1 =>
      rw [e] at hv
      obtain rfl : V.str y1 = v := Option.some.inj hv
      refine ⟨rfl, ?_⟩
      unfold tYes
      refine iteT ⟨_, rfl, _, rfl, d, _, rfl, DGet.k (k := .inr y1) (s1 _ _ hd), _, hD1, ?_, same_mut s1 hD, ?_⟩
      · rw [List.length_map, List.length_take]; omega
      · rw [upd_same, List.take_succ, e]
        simp [knB]
  · rintro H1 ⟨s1, hD1⟩
    rw [List.length_map, List.take_length] at hD1
    refine ⟨D, ps.map fun y => knB kvs y, rfl, SqL.of (by rw [hD1, List.map_map]; rfl), ?_⟩
    rw [List.any_map]
    exact q H1 s1
end
theorem fert_known {rs : List Row} {kvs : List (Key × V)} (cl : ∀ r ∈ rs, knB kvs r.mark = false → ripeB kvs r = false) {m : Str} (h : Fert rs m) : knB kvs m = true := by
  induction h with
  | @base r hr e =>
    cases k : knB kvs r.mark with
    | true => rfl
    | false =>
      have := cl r hr k
      unfold ripeB at this
      rw [decide_eq_true e, Bool.true_or] at this; cases this
  | @step r p hr hp _ ih =>
    cases k : knB kvs r.mark with
    | true => rfl
    | false =>
      have := cl r hr k
      unfold ripeB at this
      rw [List.any_eq_true.mpr ⟨p, hp, ih⟩, Bool.or_true] at this; cases this
theorem ripe_fert {rs : List Row} {kvs : List (Key × V)} (so : ∀ m, knB kvs m = true → Fert rs m) {r : Row} (hr : r ∈ rs) (h : ripeB kvs r = true) : Fert rs r.mark := by
  unfold ripeB at h
  rw [Bool.or_eq_true, decide_eq_true_iff, List.any_eq_true] at h
  rcases h with h | ⟨p, hp, k⟩
  · exact .base hr h
  · exact .step hr hp (so p k)
section
variable {w : World} {K : PySem.W.Frag} {mg : Str → Option Value} {base : Heap}
theorem ok_barren (T : Txt K mg) : FnOk PP w K mg base CX0 2 T.a_barren T.fd_barren ["rows"] (spBarren K) := by
  refine T.F_barren.ok sc_barren (fun vs H Q E h => ?_) (fun cdv A outer s H vs Q E hr h => ?_)
  · obtain ⟨a, us, rs, rfl, _⟩ := h; rfl
  · obtain ⟨a, us, rs, rfl, ha, hR, hz, hsm, q⟩ := h
    refine ⟨_, (pss_cons (ps_set (i := 1) sc_barren.nd rfl (.inr rfl) (pe_dnewK))
      (pss_cons (ps_set (i := 2) sc_barren.nd rfl (.inl rfl) (pe_bl))
      (pss_cons (ps_while PassesOwn.never (pt_val (pv 2)) (pss_cons (ps_set (i := 2) sc_barren.nd rfl (.inl rfl) (pe_bl))
      (pss_one (ps_for PassesOwn.never rfl (pi_list (pv 0)) (pg_tup rfl (pgs_cons (pg_name (i := 3) sc_barren.nd rfl (.inl rfl)) (pgs_cons (pg_name (i := 4) sc_barren.nd rfl (.inl rfl)) (pgs_cons (pg_name (i := 5) sc_barren.nd rfl (.inl rfl)) (pgs_cons (pg_name (i := 6) sc_barren.nd rfl (.inl rfl)) (pgs_cons (pg_name (i := 6) sc_barren.nd rfl (.inl rfl)) pgs_nil)))))) (pss_one (ps_if (PW.pt (pw_and (pt_cmpR (op_ninKd (hu_of hr)) (pv 3) (pv 1) (by with_unfolding_all rfl)) (pw_and1 (PW.pt (pw_or (pt_cmpR op_eq (pv 5) (pe_int) (nomark _)) (pw_or1 (pt_val (pe_callB (anyK (K := K) rfl rfl) (by rfl) T.n_any (by decide +kernel) (pa_cons (pe_lc (own := [("parent", 7)]) (g := (gName 7)) (by rfl) sc_barren.nd (pi_tup (pv 4)) (blkOk_by (own := [("parent", 7)]) (N := ["rows", "known", "grown", "mark", "parents", "least", "_", "parent", "row"]) (sc := defScope S_barren) (by decide +kernel)) (fun _ _ _ _ _ => (pg_name (i := 7) sc_barren.nd rfl (by first | exact .inl rfl | exact .inr rfl))) (fun _ _ _ _ _ => pts_nil) (fun _ _ _ _ _ => (pe_cmpR (op_inKd (hu_of hr)) (pv 7) (pv 1) (by with_unfolding_all rfl)))) pa_nil))))))))) (pss_cons (ps_dput (hu_of hr) (pv 1) (pv 3) (pe_bl) rfl)
      (pss_one (ps_set (i := 2) sc_barren.nd rfl (.inl rfl) (pe_bl)))) pss_nil))))))
      (pss_cons (ps_for PassesOwn.never rfl (pi_list (pv 0)) (pg_name (i := 8) sc_barren.nd rfl (.inl rfl)) (pss_one (ps_if (pt_cmpR (op_ninKd (hu_of hr)) (pe_ix ix_tup (pv 8) (pe_int) (fun _ _ => rfl)) (pv 1) (by with_unfolding_all rfl)) (pss_one (ps_ret (pe_ix ix_tup (pv 8) (pe_int) (fun _ _ => rfl)))) pss_nil)))
      (pss_one (ps_ret (pe_non))))))), ?_⟩
    have big : 1000 < sizeLine := by decide
    refine fun d hd => ?_
    have s1 := same_new (o := .dK []) hd
    refine ⟨fun m σ H' => ∃ (kvs : List (Key × V)) (g : Bool) (x3 x4 x5 x6 x7 x8 : Option V), σ = [some (.ref a), some (.ref d), some (.bl g), x3, x4, x5, x6, x7, x8] ∧ Same H H' ∧ H' d = some (.dK kvs) ∧ m = 2 * restOf kvs rs + (if g then 1 else 0) ∧ kvs.length + restOf kvs rs ≤ rs.length ∧
      (∀ m, knB kvs m = true → Fert rs m) ∧ (g = false → ∀ r ∈ rs, knB kvs r.mark = false → ripeB kvs r = false), ⟨_, [], true, _, _, _, _, _, _, rfl, s1, upd_same, rfl, ?_, (fun m h => by cases h), (fun h => by cases h)⟩, ?_⟩
    · rw [List.length_nil, Nat.zero_add]; exact List.length_filter_le _ _
    rintro m σ H2 ⟨kvs, g, x3, x4, x5, x6, x7, x8, rfl, s2, hd2, rfl, lk, so, cl⟩
    refine ⟨_, rfl, _, rfl, ?_⟩
    cases g with
    | true =>
      refine iteT ⟨_, fun σ' H' h => h, ?_⟩
      refine ⟨_, rfl, a, rfl, ⟨_, SqL.of (s2 _ _ ha)⟩, for_list (K := K) (a := a) (xs := us) (fun i σ H' => ∃ (kv : List (Key × V)) (g : Bool) (x3 x4 x5 x6 x7 x8 : Option V), σ = [some (.ref a), some (.ref d), some (.bl g), x3, x4, x5, x6, x7, x8] ∧ Same H H' ∧ H' d = some (.dK kv) ∧ kv.length + restOf kv rs ≤ rs.length ∧
        (∀ m, knB kv m = true → Fert rs m) ∧ (g = true → restOf kv rs < restOf kvs rs) ∧ (g = false → kv = kvs ∧ ∀ r ∈ rs.take i, knB kv r.mark = false → ripeB kv r = false))
        ⟨kvs, false, _, _, _, _, _, _, rfl, s2, hd2, lk, so, (fun h => by cases h), fun _ => ⟨rfl, fun r h => by rw [List.take_zero] at h; cases h⟩⟩ (fun i σ H' _ ⟨_, _, _, _, _, _, _, _, _, s, _⟩ => SqL.of (s _ _ ha)) ?_ ?_⟩
      · rintro i v σ H3 hv ⟨kv, g, y3, y4, y5, y6, y7, y8, rfl, s3, hd3, lk3, so3, up, dn⟩
        obtain ⟨r, hr, p, pp, rfl, hp, hpp⟩ := pair_get' hR hv
        have mr : r ∈ rs := List.mem_of_getElem? hr
        have hp3 := s3 _ _ hp
        have hpp3 := s3 _ _ hpp
        refine ⟨p, _, rfl, SqT.of hp3, rfl, _, _, rfl, _, _, rfl, _, _, rfl, _, _, rfl, _, _, rfl, rfl, ?_⟩
        have stay : (knB kv r.mark = false → ripeB kv r = false) → ∀ H4, Same H3 H4 → ∀ y7, ∃ (kv' : List (Key × V)) (g' : Bool) (x3 x4 x5 x6 x7 x8 : Option V), ([some (.ref a), some (.ref d), some (.bl g), some (.str r.mark), some (.ref pp), some (.int r.least), some (.bl r.sh), y7, y8] : L2.St) = [some (.ref a), some (.ref d), some (.bl g'), x3, x4, x5, x6, x7, x8] ∧ Same H H4 ∧ H4 d = some (.dK kv') ∧ kv'.length + restOf kv' rs ≤ rs.length ∧
            (∀ m, knB kv' m = true → Fert rs m) ∧ (g' = true → restOf kv' rs < restOf kvs rs) ∧ (g' = false → kv' = kvs ∧ ∀ r ∈ rs.take (i + 1), knB kv' r.mark = false → ripeB kv' r = false) := fun no H4 s4 y7 => by
          refine ⟨kv, g, _, _, _, _, _, _, rfl, s3.trans s4, s4 _ _ hd3, lk3, so3, up, fun e => ⟨(dn e).1, fun q hq => ?_⟩⟩
          rw [List.take_succ, hr] at hq
          rcases List.mem_append.mp hq with hq | hq
          · exact (dn e).2 q hq
          · rw [List.mem_singleton.mp hq]; exact no
        have go : knB kv r.mark = false → ripeB kv r = true → ∀ H4, Same H3 H4 → ∀ y7, ∃ (kv' : List (Key × V)) (g' : Bool) (x3 x4 x5 x6 x7 x8 : Option V), ([some (.ref a), some (.ref d), some (.bl true), some (.str r.mark), some (.ref pp), some (.int r.least), some (.bl r.sh), y7, y8] : L2.St) = [some (.ref a), some (.ref d), some (.bl g'), x3, x4, x5, x6, x7, x8] ∧ Same H (upd H4 d (.dK (putK kv (.inr r.mark) (.bl true)))) ∧ (upd H4 d (.dK (putK kv (.inr r.mark) (.bl true)))) d = some (.dK kv') ∧ kv'.length + restOf kv' rs ≤ rs.length ∧
            (∀ m, knB kv' m = true → Fert rs m) ∧ (g' = true → restOf kv' rs < restOf kvs rs) ∧ (g' = false → kv' = kvs ∧ ∀ r ∈ rs.take (i + 1), knB kv' r.mark = false → ripeB kv' r = false) := fun nk rp H4 s4 y7 => by
          have lt := rest_put (v := .bl true) mr nk
          refine ⟨putK kv (.inr r.mark) (.bl true), true, _, _, _, _, _, _, rfl, same_mut (s3.trans s4) hd, upd_same, ?_, fun m hm => ?_, fun _ => ?_, fun e => by cases e⟩
          · have := length_putK kv (.inr r.mark) (.bl true); omega
          · rw [knB_put, Bool.or_eq_true, decide_eq_true_iff] at hm
            rcases hm with rfl | hm
            · exact ripe_fert so3 mr rp
            · exact so3 m hm
          · cases g with
            | true => have := up rfl; omega
            | false => have e := (dn rfl).1; subst e; exact lt
        have lz : kv.length < sizeLine := by omega
        refine ⟨_, rfl, _, rfl, d, _, rfl, DGet.k (k := .inr r.mark) hd3, _, rfl, ?_⟩
        cases nk : knB kv r.mark with
        | true => exact iteNo (by show (!knB kv r.mark) = false; rw [nk]; rfl) (stay (fun z => by rw [nk] at z; cases z) H3 (fun _ _ h => h) y7)
        | false =>
          refine iteYes (by show (!knB kv r.mark) = true; rw [nk]; rfl) ⟨_, rfl, rfl, _, rfl, ?_⟩
          refine iteD (fun c => ?_) (fun c => ?_)
          · have c : r.least = 0 := V.int.inj c
            refine iteT ?_
            refine ⟨_, rfl, _, rfl, d, _, rfl, DPut.k (k := .inr r.mark) hd3 lz, ?_⟩
            exact go nk (by unfold ripeB; rw [decide_eq_true c, Bool.true_or]) H3 (fun _ _ h => h) y7
          · have c : r.least ≠ 0 := fun z => c (by rw [z])
            refine any_kn hd3 hpp3 (by have := (hsm r mr).2; omega) fun H4 s4 => ⟨_, rfl, ?_⟩
            cases ra : r.pars.any (knB kv) with
            | true =>
              refine iteT ?_
              refine ⟨_, rfl, _, rfl, d, _, rfl, DPut.k (k := .inr r.mark) (s4 _ _ hd3) lz, ?_⟩
              exact go nk (by unfold ripeB; rw [ra, Bool.or_true]) H4 s4 y7
            | false => exact iteF (stay (fun _ => by unfold ripeB; rw [ra, decide_eq_false c]; rfl) H4 s4 y7)
      · rintro σ H3 ⟨kv, g, y3, y4, y5, y6, y7, y8, rfl, s3, hd3, lk3, so3, up, dn⟩
        rw [pair_len' hR, List.take_length] at dn
        refine ⟨_, ?_, kv, g, _, _, _, _, _, _, rfl, s3, hd3, rfl, lk3, so3, fun e => (dn e).2⟩
        cases g with
        | true => have := up rfl; simp; omega
        | false => rw [(dn rfl).1]; simp
    | false =>
      refine iteF ?_
      have cl := cl rfl
      refine ⟨_, rfl, a, rfl, ⟨_, SqL.of (s2 _ _ ha)⟩, for_list (K := K) (a := a) (xs := us) (fun i σ H' => ∃ x8, σ = [some (.ref a), some (.ref d), some (.bl false), x3, x4, x5, x6, x7, x8] ∧ H' = H2 ∧ ∀ r ∈ rs.take i, Fert rs r.mark) ⟨_, rfl, rfl, fun r h => by rw [List.take_zero] at h; cases h⟩ (fun i σ H' _ ⟨_, _, e, _⟩ => SqL.of (by rw [e]; exact s2 _ _ ha)) ?_ ?_⟩
      · rintro i v σ H3 hv ⟨y8, rfl, rfl, hf⟩
        obtain ⟨r, hr, p, pp, rfl, hp, hpp⟩ := pair_get' hR hv
        have hp3 := s2 _ _ hp
        refine ⟨_, rfl, _, _, _, _, rfl, rfl, SqT.of hp3, atI_nat (j := 0) rfl, _, rfl, d, _, rfl, DGet.k (k := .inr r.mark) hd2, _, rfl, ?_⟩
        cases nk : knB kvs r.mark with
        | true =>
          refine iteNo (by show (!knB kvs r.mark) = false; rw [nk]; rfl) ⟨_, rfl, rfl, fun q hq => ?_⟩
          rw [List.take_succ, hr] at hq
          rcases List.mem_append.mp hq with hq | hq
          · exact hf q hq
          · rw [List.mem_singleton.mp hq]; exact so _ nk
        | false =>
          refine iteYes (by show (!knB kvs r.mark) = true; rw [nk]; rfl) ⟨_, rfl, _, _, _, _, rfl, rfl, SqT.of hp3, atI_nat (j := 0) rfl, ?_⟩
          exact q _ _ s2 (.yes hr hf fun f => by have := fert_known cl f; rw [nk] at this; cases this)
      · rintro σ H3 ⟨y8, rfl, rfl, hf⟩
        rw [pair_len' hR, List.take_length] at hf
        exact q _ _ s2 (.no hf)
end
end My

namespace My
open PySem L2
/-! ### a new shape -/
def mksV (rs : List Row) : List V := rs.map fun r => .str r.mark
def mks (rs : List Row) : List Str := rs.map Row.mark
theorem mksV_eq (rs : List Row) : mksV rs = (mks rs).map V.str := by unfold mksV mks; rw [List.map_map]; rfl
def rowFine (rs : List Row) (i : Nat) : Prop := ∀ r, rs[i]? = some r → fineB r (mks (rs.take i)) = true
inductive SErr where
  | large
  | bad (m : Str)
  | unk (m : Str)
def parsOk (rs : List Row) (r : Row) : Prop := ∀ p ∈ r.pars, p ∈ mks rs
inductive Due (rs : List Row) : SErr → Prop
  | large : 6 < rs.length → Due rs .large
  | row {i : Nat} {r : Row} : rs.length ≤ 6 → rs[i]? = some r → (∀ j, j < i → rowFine rs j) → fineB r (mks (rs.take i)) = false → Due rs (.bad r.mark)
  | par {i k : Nat} {r : Row} {p : Str} : rs.length ≤ 6 → (∀ j, rowFine rs j) → rs[i]? = some r → r.pars[k]? = some p → (∀ q ∈ rs.take i, parsOk rs q) → (∀ q ∈ r.pars.take k, q ∈ mks rs) → p ∉ mks rs → Due rs (.unk p)
  | lost {i : Nat} {r : Row} : rs.length ≤ 6 → (∀ j, rowFine rs j) → (∀ q ∈ rs, parsOk rs q) → rs[i]? = some r → (∀ q ∈ rs.take i, Fert rs q.mark) → ¬ Fert rs r.mark → Due rs (.bad r.mark)
structure Good (rs : List Row) : Prop where
  len : rs.length ≤ 6
  fine : ∀ j, rowFine rs j
  pars : ∀ q ∈ rs, parsOk rs q
  fert : ∀ q ∈ rs, Fert rs q.mark
/-- what the error e is: its class and what it holds -/
def ErrIs (TL BS UM : Addr) : SErr → Addr → V → Str → Prop
  | .large, c, v, f => c = TL ∧ v = .int 6 ∧ f = "most"
  | .bad m, c, v, f => c = BS ∧ v = .str m ∧ f = "mark"
  | .unk m, c, v, f => c = UM ∧ v = .str m ∧ f = "mark"
/-- a shape at x -/
def ShO (C : Addr) (H : Hp) (x : Addr) (rs : List Row) : Prop := ∃ dx l m vs, H x = some (.ins C dx [("_listed", .ref l), ("_marks", .ref m)]) ∧ H l = some (.lst vs) ∧ RowsT H vs rs ∧ H m = some (.lst (mksV rs))
theorem ShO.same {C : Addr} {H H' : Hp} {x : Addr} {rs : List Row} (h : ShO C H x rs) (s : Same H H') : ShO C H' x rs := by
  obtain ⟨dx, l, m, vs, a, b, c, d⟩ := h
  exact ⟨dx, l, m, vs, s _ _ a, s _ _ b, rowsT_same c s, s _ _ d⟩
/-- a shape whose lists stand at addresses of F -/
def ShN (F : Addr → Prop) (C : Addr) (H : Hp) (x : Addr) (rs : List Row) : Prop := ∃ dx l m vs, F l ∧ F m ∧ H x = some (.ins C dx [("_listed", .ref l), ("_marks", .ref m)]) ∧ H l = some (.lst vs) ∧ RowsT H vs rs ∧ H m = some (.lst (mksV rs))
theorem ShN.sh {F : Addr → Prop} {C : Addr} {H : Hp} {x : Addr} {rs : List Row} (h : ShN F C H x rs) : ShO C H x rs := let ⟨dx, l, m, vs, _, _, e⟩ := h; ⟨dx, l, m, vs, e⟩
theorem ShN.sub {F G : Addr → Prop} {C : Addr} {H : Hp} {x : Addr} {rs : List Row} (h : ShN F C H x rs) (i : ∀ a, F a → G a) : ShN G C H x rs := let ⟨dx, l, m, vs, a, b, e⟩ := h; ⟨dx, l, m, vs, i _ a, i _ b, e⟩
theorem RowV.same {H H' : Hp} {v : V} {r : Row} (h : RowV H v r) (s : Same H H') : RowV H' v r := by
  obtain ⟨p, pp, e, a, b⟩ := h
  exact ⟨p, pp, e, a.imp (s _ _) (s _ _), b.imp (s _ _) (s _ _)⟩
theorem rowsV_same {H H' : Hp} {vs : List V} {rs : List Row} (h : Paired (RowV H) vs rs) (s : Same H H') : Paired (RowV H') vs rs := L2.Paired.mapP h fun _ _ x => x.same s
theorem RowT.keep {H H' : Hp} {v : V} {r : Row} (h : RowT H v r) (s : ∀ a xs, H a = some (.tup xs) → H' a = some (.tup xs)) : RowT H' v r := let ⟨p, pp, e, a, b⟩ := h; ⟨p, pp, e, s _ _ a, s _ _ b⟩
theorem rowsT_keep {H H' : Hp} {vs : List V} {rs : List Row} (h : RowsT H vs rs) (s : ∀ a xs, H a = some (.tup xs) → H' a = some (.tup xs)) : RowsT H' vs rs := L2.Paired.mapP h fun _ _ x => x.keep s
theorem keep_lst {H : Hp} {l : Addr} {vs ws : List V} (h : H l = some (.lst vs)) : ∀ a xs, H a = some (.tup xs) → (upd H l (.lst ws)) a = some (.tup xs) := fun a xs e => by rw [upd_ne (fun z => by rw [z, h] at e; cases e)]; exact e
theorem rowL_seq {K : PySem.W.Frag} {H : Hp} {p pp : Addr} {r : Row} {i : Int} {v : V} {Q : VK} (h : H p = some (.tup (rowL r pp)) ∨ H p = some (.lst (rowL r pp))) (e : atI (rowL r pp) i = some v) (q : Q v H) : rIx K (.ref p) (.int i) H Q := by
  rcases h with h | h
  · exact .inr (.inl ⟨_, _, _, _, rfl, rfl, SqT.of h, e, q⟩)
  · exact .inl ⟨_, _, _, _, rfl, rfl, SqL.of h, e, q⟩
theorem pair_app' {α β : Type} {F : α → β → Prop} : ∀ {l l' : List α} {m m' : List β}, Paired F l m → Paired F l' m' → Paired F (l ++ l') (m ++ m')
  | _, _, _, _, .nil, q => q
  | _, _, _, _, .cons r t, q => .cons r (pair_app' t q)
def spShInit (C TL BS UM : Addr) : Sp := fun vs H Q E => ∃ (x dx p : Addr) (us : List V) (rs : List Row), vs = [.ref x, .ref p] ∧ H x = some (.ins C dx []) ∧ H p = some (.tup us) ∧ Paired (RowV H) us rs ∧ us.length ≤ 100 ∧ (∀ r ∈ rs, small r) ∧
  (Good rs → ∀ H', But x H H' → ShN (fun a => H a = none) C H' x rs → Q .non H') ∧
  (∀ e c v f, Due rs e → ErrIs TL BS UM e c v f → ∀ H' d, Same H H' → H d = none → H' d = some (.xd [(f, v)]) → E (.ref c) (some d) H')
theorem make_sh {C TL BS UM : Addr} {H : Hp} {us : List V} {rs : List Row} {Q : VK} {E : XK} (hs : Paired (RowV H) us rs) (hl : us.length ≤ 100) (hsm : ∀ r ∈ rs, small r) (q : Good rs → ∀ x H', Same H H' → H x = none → ShN (fun a => H a = none) C H' x rs → Q (.ref x) H')
    (qe : ∀ e c v f, Due rs e → ErrIs TL BS UM e c v f → ∀ H' d, Same H H' → H d = none → H' d = some (.xd [(f, v)]) → E (.ref c) (some d) H') :
    ∀ x dx, H x = none → H dx = none → dx ≠ x → spStar 1 (spShInit C TL BS UM) (.ref x :: us) (upd (upd H dx (.own x)) x (.ins C dx [])) (fun v H2 => v = .non ∧ Q (.ref x) H2) E := fun x dx nx nd _ => by
  have s1 : Same H (upd (upd H dx (.own x)) x (.ins C dx [])) := fun y o h => by rw [upd_ne (ne_of_none h nx), upd_ne (ne_of_none h nd)]; exact h
  refine ⟨[.ref x], us, rfl, rfl, Nat.le_trans hl (by decide), fun p np => ?_⟩
  have s2 := s1.trans (same_new (o := .tup us) np)
  refine ⟨x, dx, p, us, rs, rfl, same_new np _ _ upd_same, upd_same, rowsV_same hs s2, hl, hsm, fun g H' b sh => ⟨rfl, q g x H' (fun y o h => b y o (ne_of_none h nx) (s2 _ _ h)) nx (sh.sub fun a h => s2.free h)⟩, fun e c v f du er H' d s' nd' hd => qe e c v f du er H' d (s2.trans s') (s2.free nd') hd⟩
section
variable {w : World} {K : PySem.W.Frag} {mg : Str → Option Value} {base : Heap}
theorem ok_Shape_init (T : Txt K mg) : FnR PP w K mg base (L2.CX PP w) 5 T.a_Shape_init (spStar 1 (spShInit T.c_Shape T.c_TooLarge T.c_BadShape T.c_UnknownMark)) := by
  refine Fun.starX (k := 4) (ps := ["self"]) T.F_Shape_init sc_Shape_init T.bs_Shape_init fun cdv A outer s H vs Q E hr h => ?_
  obtain ⟨x, dx, p, us, rs, rfl, hx, hp, hs, hl, hsm, q, qe⟩ := h
  refine ⟨_, (pss_cons (ps_if (pt_cmpR op_gt (pe_callB call_len_seq (by rfl) T.n_len (by decide +kernel) (pa_cons (pv 1) pa_nil)) (ClX.pe_cval (pe_glob (v := .ref T.c_Shape) (by rfl) T.g_Shape rfl)) (nomark _)) (pss_one (ps_raiseX rfl T.x_TooLarge hr (takes_of rfl rfl rfl rfl) (pa_cons (ClX.pe_cval (pe_glob (v := .ref T.c_Shape) (by rfl) T.g_Shape rfl)) pa_nil))) pss_nil)
      (pss_cons (ps_set (i := 2) sc_Shape_init.nd rfl (.inl rfl) (pe_lst pa_nil))
      (pss_cons (ps_set (i := 3) sc_Shape_init.nd rfl (.inl rfl) (pe_lst pa_nil))
      (pss_cons (ps_for (passes_of rfl) rfl (pi_tup (pv 1)) (pg_name (i := 4) sc_Shape_init.nd rfl (.inl rfl)) (pss_cons (ps_expr (pe_bm PySem.F.plainAttrs_list PySem.F.slot_list_append PySem.F.type_list_append mt_append (pv 2) (pa_cons (pe_call (ok_sound_row T) (hr.mono (by omega)) (by rfl) T.g_sound_row T.F_sound_row.kp T.b_sound_row .nil (passes_call (takes_of rfl rfl rfl rfl) (fun _ _ _ _ h => h)) (pa_cons (pv 4) (pa_cons (pv 3) pa_nil))) pa_nil)))
      (pss_one (ps_expr (pe_bm PySem.F.plainAttrs_list PySem.F.slot_list_append PySem.F.type_list_append mt_append (pv 3) (pa_cons (pe_ix ix_seq (pv 4) (pe_int) (fun _ _ => rfl)) pa_nil))))))
      (pss_cons (ps_for (passes_of rfl) rfl (pi_list (pv 2)) (pg_name (i := 4) sc_Shape_init.nd rfl (.inl rfl)) (pss_one (ps_for (passes_of rfl) rfl (pi_tup (pe_ix ix_seq (pv 4) (pe_int) (fun _ _ => rfl))) (pg_name (i := 5) sc_Shape_init.nd rfl (.inl rfl)) (pss_one (ps_if (pt_cmpR op_notIn_seq (pv 5) (pv 3) (by with_unfolding_all rfl)) (pss_one (ps_raiseX rfl T.x_UnknownMark hr (takes_of rfl rfl rfl rfl) (pa_cons (pv 5) pa_nil))) pss_nil)))))
      (pss_cons (ps_set (i := 6) sc_Shape_init.nd rfl (.inl rfl) (pe_call (ok_barren T) (hr.mono (by omega)) (by rfl) T.g_barren T.F_barren.kp T.b_barren .nil pass0 (pa_cons (pv 2) pa_nil)))
      (pss_cons (ps_if (pt_cmpR op_notN (pv 6) (pe_non) (nomark _)) (pss_one (ps_raiseX rfl T.x_BadShape hr (takes_of rfl rfl rfl rfl) (pa_cons (pv 6) pa_nil))) pss_nil)
      (pss_cons (ps_fld (pv 0) (pv 2) rfl)
      (pss_one (ps_fld (pv 0) (pv 3) rfl)))))))))), ?_⟩
  have big : 1000 < sizeLine := by decide
  have lr := pair_len' hs
  refine ⟨_, rfl, p, us, rfl, .inr (SqT.of hp), _, _, _, _, rfl, T.cr_Shape, T.cv_Shape_MARKS, _, _, rfl, rfl, _, rfl, iteD (fun c => ?_) (fun c => ?_)⟩
  · refine ⟨_, _, _, _, rfl, T.cr_Shape, T.cv_Shape_MARKS, _, rfl, fun d hd => ?_⟩
    exact qe .large _ _ _ (.large (by omega)) ⟨rfl, rfl, rfl⟩ _ d (same_new hd) hd upd_same
  have l6 : rs.length ≤ 6 := by omega
  refine ⟨Nat.zero_le _, fun l hl0 => ⟨Nat.zero_le _, fun m hm0' => ?_⟩⟩
  have s0 := same_new (o := .lst []) hl0
  have hm0 : H m = none := s0.free hm0'
  have nlm : l ≠ m := fun z => by rw [← z, upd_same] at hm0'; cases hm0'
  have s1 := s0.trans (same_new (o := .lst []) hm0')
  refine ⟨_, rfl, p, rfl, ⟨_, SqT.of (s1 _ _ hp)⟩, for_tup (K := K) (a := p) (xs := us) (fun i σ H' => ∃ (x4 x5 : Option V) (vs' : List V), σ = [some (.ref x), some (.ref p), some (.ref l), some (.ref m), x4, x5, none] ∧ Same H H' ∧ H' l = some (.lst vs') ∧ H' m = some (.lst (mksV (rs.take i))) ∧ RowsT H' vs' (rs.take i) ∧ ∀ j, j < i → rowFine rs j)
    ⟨_, _, [], rfl, s1, by rw [upd_ne nlm]; exact upd_same, upd_same, .nil, fun j h => absurd h (Nat.not_lt_zero _)⟩ (fun i σ H' _ ⟨_, _, _, _, s, _⟩ => SqT.of (s _ _ hp)) ?_ ?_⟩
  · rintro i v σ H1 hv ⟨x4, x5, vs', rfl, s1, hl1, hm1, rt, fi⟩
    obtain ⟨r, hr, hV⟩ := pair_get' hs hv
    have mr : r ∈ rs := List.mem_of_getElem? hr
    have hi := (List.getElem?_eq_some_iff.mp hr).1
    obtain ⟨p0, pp0, rfl, hp0, hpp0⟩ := id (hV.same s1)
    have lv : vs'.length = i := by rw [pair_len' rt, List.length_take]; omega
    refine ⟨_, rfl, .inl ⟨rfl, _, SqL.of hl1⟩, _, rfl, _, rfl, _, _, r, mks (rs.take i), rfl, hV.same s1, by rw [hm1, mksV_eq], hsm r mr, fun gd pq pp H2 s2 npq hpq hpp => ?_, fun bd H2 d s2 nd hd => ?_⟩
    · have hl2 := s2 _ _ hl1
      refine ⟨_, _, _, rfl, rfl, hl2, by omega, ?_⟩
      have npl : pq ≠ l := (ne_of_none hl1 npq).symm
      have t2 := s1.trans s2
      have s3 : Same H (upd H2 l (.lst (vs' ++ [.ref pq]))) := same_mut t2 hl0
      have k3 := keep_lst (ws := vs' ++ [.ref pq]) hl2
      have hm3 : (upd H2 l (.lst (vs' ++ [.ref pq]))) m = some (.lst (mksV (rs.take i))) := by rw [upd_ne nlm.symm]; exact s2 _ _ hm1
      have k4 := keep_lst (ws := mksV (rs.take i) ++ [.str r.mark]) hm3
      refine ⟨_, rfl, .inl ⟨rfl, _, SqL.of hm3⟩, _, rfl, rowL_seq (hp0.imp (fun h => k3 _ _ (s2 _ _ h)) (fun h => ?_)) rfl ?_⟩
      · have n0 : p0 ≠ l := fun z => by
          obtain ⟨w0, _, e0, h0, _⟩ := hV
          obtain rfl : p0 = w0 := V.ref.inj e0
          rcases h0 with h0 | h0
          · rw [z, hl0] at h0; cases h0
          · rw [z, hl0] at h0; cases h0
        rw [upd_ne n0]; exact s2 _ _ h
      · refine ⟨_, _, _, rfl, rfl, hm3, by unfold mksV; rw [List.length_map, List.length_take]; omega, ?_⟩
        refine ⟨_, _, vs' ++ [.ref pq], rfl, same_mut s3 hm0, by rw [upd_ne nlm]; exact upd_same, ?_, ?_, fun j hj => ?_⟩
        · rw [upd_same, List.take_succ, hr]; unfold mksV; rw [List.map_append]; rfl
        · rw [List.take_succ, hr]
          exact pair_app' (rowsT_keep rt fun a xs e => k4 _ _ (k3 _ _ (s2 _ _ e))) (.cons ⟨pq, pp, rfl, k4 _ _ (k3 _ _ hpq), k4 _ _ (k3 _ _ hpp)⟩ .nil)
        · by_cases e : j = i
          · subst e
            intro r' hr'
            rw [hr] at hr'
            exact Option.some.inj hr' ▸ gd
          · exact fi j (by omega)
    · exact qe _ _ _ _ (.row l6 hr fi bd) ⟨rfl, rfl, rfl⟩ H2 d (s1.trans s2) (s1.free nd) hd
  rintro σ H1 ⟨x4, x5, vs', rfl, s1, hl1, hm1, rt, fi⟩
  rw [lr, List.take_length] at hm1 rt
  have fi : ∀ j, rowFine rs j := fun j => by
    by_cases c : j < rs.length
    · exact fi j (by omega)
    · intro r hr
      rw [List.getElem?_eq_none (by omega)] at hr; cases hr
  refine ⟨_, rfl, l, rfl, ⟨_, SqL.of hl1⟩, for_list (K := K) (a := l) (xs := vs') (fun i σ H' => ∃ (x4 x5 : Option V), σ = [some (.ref x), some (.ref p), some (.ref l), some (.ref m), x4, x5, none] ∧ H' = H1 ∧ ∀ q ∈ rs.take i, parsOk rs q)
    ⟨_, _, rfl, rfl, fun q h => by rw [List.take_zero] at h; cases h⟩ (fun i σ H' _ ⟨_, _, _, e, _⟩ => SqL.of (by rw [e]; exact hl1)) ?_ ?_⟩
  · rintro i v σ H2 hv ⟨x4, x5, rfl, rfl, po⟩
    obtain ⟨r, hr, p0, pp0, rfl, hp0, hpp0⟩ := pair_get' rt hv
    refine ⟨_, rfl, rowL_seq (.inl hp0) rfl ⟨pp0, rfl, ⟨_, SqT.of hpp0⟩, for_tup (K := K) (a := pp0) (xs := r.pars.map V.str) (fun k σ H' => ∃ (x5 : Option V), σ = [some (.ref x), some (.ref p), some (.ref l), some (.ref m), some (.ref p0), x5, none] ∧ H' = H2 ∧ ∀ q ∈ r.pars.take k, q ∈ mks rs)
      ⟨_, rfl, rfl, fun q h => by rw [List.take_zero] at h; cases h⟩ (fun i σ H' _ ⟨_, _, e, _⟩ => SqT.of (by rw [e]; exact hpp0)) ?_ ?_⟩⟩
    · rintro k v σ H3 hk ⟨x5, rfl, rfl, pk⟩
      obtain ⟨y, hy, rfl⟩ : ∃ y, r.pars[k]? = some y ∧ v = .str y := by
        rw [List.getElem?_map] at hk
        cases e : r.pars[k]? with
        | none => rw [e] at hk; cases hk
        | some y => rw [e] at hk; exact ⟨y, rfl, (Option.some.inj hk).symm⟩
      refine ⟨_, rfl, _, rfl, _, _, rfl, .inl (SqL.of hm1), rfl, by rw [mksV_eq]; exact flat_strs _, ?_⟩
      rw [mksV_eq, in_strs]
      refine ⟨_, rfl, iteN (fun c => ?_) (fun c => ?_)⟩
      · refine ⟨_, rfl, _, rfl, fun d hd => ?_⟩
        exact qe (.unk y) _ _ _ (.par l6 fi hr hy po pk c) ⟨rfl, rfl, rfl⟩ _ d (s1.trans (same_new hd)) (s1.free hd) upd_same
      · refine ⟨_, rfl, rfl, fun q hq => ?_⟩
        rw [List.take_succ, hy] at hq
        rcases List.mem_append.mp hq with hq | hq
        · exact pk q hq
        · rw [List.mem_singleton.mp hq]; exact c
    · rintro σ H3 ⟨x5, rfl, rfl, pk⟩
      rw [List.length_map, List.take_length] at pk
      refine ⟨_, _, rfl, rfl, fun q hq => ?_⟩
      rw [List.take_succ, hr] at hq
      rcases List.mem_append.mp hq with hq | hq
      · exact po q hq
      · rw [List.mem_singleton.mp hq]; exact pk
  rintro σ H2 ⟨x4, x5, rfl, rfl, po⟩
  rw [pair_len' rt, List.take_length] at po
  refine ⟨_, rfl, l, vs', rs, rfl, hl1, rt, by omega, hsm, fun v H3 s3 lo => ?_⟩
  have t3 := s1.trans s3
  cases lo with
  | @yes i r hr hf nf =>
    refine ⟨_, rfl, rfl, _, rfl, iteYes rfl ⟨_, rfl, _, rfl, fun d hd => ?_⟩⟩
    exact qe _ _ _ _ (.lost l6 fi po hr hf nf) ⟨rfl, rfl, rfl⟩ _ d (t3.trans (same_new hd)) (t3.free hd) upd_same
  | no hf =>
    refine ⟨_, rfl, rfl, _, rfl, iteNo rfl ?_⟩
    have hx3 := t3 _ _ hx
    refine ⟨_, rfl, _, rfl, x, _, dx, _, rfl, hx3, T.cl_Shape, T.no_Shape__listed, by show 0 < 1000; decide, ?_⟩
    refine ⟨_, rfl, _, rfl, x, _, dx, _, rfl, upd_same, T.cl_Shape, T.no_Shape__marks, by show 1 < 1000; decide, ?_⟩
    have nx : ∀ {a : Addr} {ws : List V}, H3 a = some (.lst ws) → a ≠ x := fun h z => by rw [z, hx3] at h; cases h
    have hl3 := s3 _ _ hl1
    have hm3 := s3 _ _ hm1
    refine q ⟨l6, fi, po, hf⟩ _ (fun y o n h => by rw [upd_ne n, upd_ne n]; exact t3 _ _ h) ⟨dx, l, m, vs', hl0, hm0, upd_same, ?_, ?_, ?_⟩
    · rw [upd_ne (nx hl3), upd_ne (nx hl3)]; exact hl3
    · refine rowsT_keep (rowsT_same rt s3) fun a xs e => ?_
      have n : a ≠ x := fun z => by rw [z, hx3] at e; cases e
      rw [upd_ne n, upd_ne n]; exact e
    · rw [upd_ne (nx hm3), upd_ne (nx hm3)]; exact hm3
end
end My

namespace My
open PySem L2
/-! ### what shapes answer -/
def rowD (r : Row) : PyData := .tuple [.str r.mark, .tuple (r.pars.map .str), .int r.least, .int r.most, .bool r.sh]
theorem eqv_strs : ∀ a b : List Str, PyData.eqvAll (a.map .str) (b.map .str) = decide (a = b)
  | [], [] => by simp [PyData.eqvAll]
  | [], _ :: _ => by simp [PyData.eqvAll]
  | _ :: _, [] => by simp [PyData.eqvAll]
  | x :: a, y :: b => by
    simp only [List.map_cons, PyData.eqvAll, PyData.eqv, eqv_strs a b]
    rw [Bool.eq_iff_iff, Bool.and_eq_true, beq_iff_eq, decide_eq_true_iff, decide_eq_true_iff]
    simp
theorem eqv_row (a b : Row) : PyData.eqv (rowD a) (rowD b) = decide (a = b) := by
  unfold rowD
  simp only [PyData.eqv, PyData.eqvAll, eqv_strs, Bool.and_true]
  rw [Bool.eq_iff_iff]
  simp only [Bool.and_eq_true, beq_iff_eq, decide_eq_true_iff]
  cases a; cases b
  simp
theorem eqv_rows : ∀ a b : List Row, PyData.eqvAll (a.map rowD) (b.map rowD) = decide (a = b)
  | [], [] => by simp [PyData.eqvAll]
  | [], _ :: _ => by simp [PyData.eqvAll]
  | _ :: _, [] => by simp [PyData.eqvAll]
  | x :: a, y :: b => by
    simp only [List.map_cons, PyData.eqvAll, eqv_row, eqv_rows a b]
    rw [Bool.eq_iff_iff, Bool.and_eq_true, decide_eq_true_iff, decide_eq_true_iff, decide_eq_true_iff]
    simp
theorem strOk_mk {z : Str} (h : isMk z = true) : PyData.strOk z = true := by
  unfold isMk at h
  rw [Bool.and_eq_true, List.all_eq_true] at h
  unfold PyData.strOk
  rw [← Array.all_toList, List.all_eq_true]
  intro c hc
  have := of_decide_eq_true (h.2 c hc)
  exact decide_eq_true (by omega)
theorem canLay_strs : ∀ {l : List Str}, (∀ z ∈ l, PyData.strOk z = true) → PyData.canLayAll0 (l.map .str) = true
  | [], _ => rfl
  | z :: l, h => by rw [List.map_cons, PyData.canLayAll0, PyData.canLay0, h z (by simp), canLay_strs fun y hy => h y (by simp [hy])]; rfl
theorem depth_strs : ∀ l : List Str, PyData.depthAll (l.map .str) = 0
  | [] => rfl
  | z :: l => by rw [List.map_cons, PyData.depthAll, depth_strs l]; rfl
/-- rows whose words are marks -/
def wordsOk (rs : List Row) : Prop := ∀ r ∈ rs, PyData.strOk r.mark = true ∧ ∀ p ∈ r.pars, PyData.strOk p = true
theorem Good.words {rs : List Row} (h : Good rs) : wordsOk rs := by
  have mk : ∀ r ∈ rs, isMk r.mark = true := fun r hr => by
    obtain ⟨j, hj⟩ := List.mem_iff_getElem?.mp hr
    have := h.fine j r hj
    unfold fineB at this
    simp only [Bool.and_eq_true] at this
    exact this.1.1.1
  intro r hr
  refine ⟨strOk_mk (mk r hr), fun p hp => ?_⟩
  obtain ⟨q, hq, rfl⟩ := List.mem_map.mp (h.pars r hr p hp)
  exact strOk_mk (mk q hq)
theorem row_lay {r : Row} (h : PyData.strOk r.mark = true ∧ ∀ p ∈ r.pars, PyData.strOk p = true) : PyData.canLay0 (rowD r) = true := by
  unfold rowD
  simp [PyData.canLay0, PyData.canLayAll0, h.1, canLay_strs h.2]
theorem rows_shaped {rs : List Row} (h : wordsOk rs) : SeqAt.shaped (.list (rs.map rowD)) = true := by
  have h1 : ∀ l : List Row, wordsOk l → PyData.canLayAll0 (l.map rowD) = true := fun l => by
    induction l with
    | nil => intro _; rfl
    | cons a r ih => intro q; rw [List.map_cons, PyData.canLayAll0, row_lay (q a (by simp)), ih fun s hs => q s (by simp [hs])]; rfl
  have h2 : ∀ l : List Row, PyData.depthAll (l.map rowD) ≤ 4 := fun l => by
    induction l with
    | nil => exact Nat.zero_le _
    | cons a r ih =>
      rw [List.map_cons, PyData.depthAll]
      have : PyData.depth (rowD a) ≤ 4 := by unfold rowD; simp [PyData.depth, PyData.depthAll, depth_strs]
      omega
  unfold SeqAt.shaped
  rw [PyData.canLay0, h1 rs h, PyData.depth, Bool.true_and, decide_eq_true_iff]
  have := h2 rs
  omega
theorem strsDp {K : PySem.W.Frag} {H : Hp} : ∀ l : List Str, DpAll K H (l.map V.str) (l.map .str)
  | [] => .nil
  | z :: l => .cons (.str _) (strsDp l)
theorem rowDp {K : PySem.W.Frag} {H : Hp} {v : V} {r : Row} (h : RowT H v r) : Dp K H v (rowD r) := by
  obtain ⟨p, pp, rfl, hp, hpp⟩ := h
  exact .tup (SqT.of hp) (.cons (.str _) (.cons (.tup (SqT.of hpp) (strsDp _)) (.cons (.int _) (.cons (.int _) (.cons (.bl _) .nil)))))
theorem rowsDp {K : PySem.W.Frag} {H : Hp} : ∀ {vs : List V} {rs : List Row}, RowsT H vs rs → DpAll K H vs (rs.map rowD)
  | _, _, .nil => .nil
  | _, _, .cons h t => .cons (rowDp h) (rowsDp t)
def findR (rs : List Row) (z : Str) : Option Row := rs.find? fun r => decide (r.mark = z)
theorem findR_at {rs : List Row} {z : Str} {i : Nat} {r : Row} (h : rs[i]? = some r) (e : r.mark = z) (n : ∀ q ∈ rs.take i, q.mark ≠ z) : findR rs z = some r := by
  unfold findR
  have e1 : rs = rs.take i ++ r :: rs.drop (i + 1) := by
    obtain ⟨h1, h2⟩ := List.getElem?_eq_some_iff.mp h
    rw [← h2, ← List.drop_eq_getElem_cons h1, List.take_append_drop]
  rw [e1, List.find?_append, List.find?_eq_none.mpr (by intro q hq; simpa using n q hq)]
  simp [List.find?_cons, e]
theorem findR_no {rs : List Row} {z : Str} (n : ∀ q ∈ rs, q.mark ≠ z) : findR rs z = none := List.find?_eq_none.mpr (by intro q hq; simpa using n q hq)
theorem findR_mem {rs : List Row} {z : Str} {r : Row} (h : findR rs z = some r) : r ∈ rs ∧ r.mark = z := ⟨List.mem_of_find?_eq_some h, by simpa using List.find?_some h⟩
/-- an error of the class X with the word z -/
abbrev ErrS (X : Addr) (f : Str) (v : V) (H : Hp) (E : XK) : Prop := ∀ H' d, Same H H' → H d = none → H' d = some (.xd [(f, v)]) → E (.ref X) (some d) H'
def spShGet (C X : Addr) : Sp := fun vs H Q E => ∃ (x : Addr) (z : Str) (rs : List Row), vs = [.ref x, .str z] ∧ ShO C H x rs ∧
  (∀ r p pp, findR rs z = some r → H p = some (.tup (rowL r pp)) → H pp = some (.tup (r.pars.map V.str)) → Q (.ref p) H) ∧ (findR rs z = none → ErrS X "mark" (.str z) H E)
def spShLen (C : Addr) : Sp := fun vs H Q _ => ∃ (x : Addr) (rs : List Row), vs = [.ref x] ∧ ShO C H x rs ∧ Q (.int rs.length) H
def spShHas (C : Addr) : Sp := fun vs H Q _ => ∃ (x : Addr) (z : Str) (rs : List Row), vs = [.ref x, .str z] ∧ ShO C H x rs ∧ Q (.bl (decide (z ∈ mks rs))) H
def spShEq (C : Addr) : Sp := fun vs H Q _ => ∃ (x y : Addr) (rs ts : List Row), vs = [.ref x, .ref y] ∧ ShO C H x rs ∧ ShO C H y ts ∧ wordsOk rs ∧ wordsOk ts ∧ Q (.bl (decide (rs = ts))) H
def spShMarks (C : Addr) : Sp := fun vs H Q _ => ∃ (x : Addr) (rs : List Row), vs = [.ref x] ∧ ShO C H x rs ∧ ∀ t H', Same H H' → H t = none → H' t = some (.tup (mksV rs)) → Q (.ref t) H'
def spShExc (C : Addr) : Sp := fun vs H Q _ => ∃ (x : Addr) (rs : List Row), vs = [.ref x] ∧ ShO C H x rs ∧ Q (.bl (!rs.any (·.sh))) H
def widthOf (rs : List Row) : Int := rs.foldl (fun (a : Int) (r : Row) => if a < r.most then r.most else a) 1
def spShWidth (C : Addr) : Sp := fun vs H Q _ => ∃ (x : Addr) (rs : List Row), vs = [.ref x] ∧ ShO C H x rs ∧ Q (.int (widthOf rs)) H
def modesV (sh : Bool) : List V := if sh then [.str "own", .str "share"] else [.str "own"]
/-- a tuple that was made, or a constant -/
def TupC (K : PySem.W.Frag) (H : Hp) (t : Addr) (xs : List V) : Prop := H t = some (.tup xs) ∨ ∀ H', SqT K H' t xs
theorem TupC.sq {K : PySem.W.Frag} {H : Hp} {t : Addr} {xs : List V} (h : TupC K H t xs) : SqT K H t xs := h.elim SqT.of fun h => h H
theorem TupC.same {K : PySem.W.Frag} {H H' : Hp} {t : Addr} {xs : List V} (h : TupC K H t xs) (s : Same H H') : TupC K H' t xs := h.imp (s _ _) id
def spShModes (K : PySem.W.Frag) (C X : Addr) : Sp := fun vs H Q E => ∃ (x : Addr) (z : Str) (rs : List Row), vs = [.ref x, .str z] ∧ ShO C H x rs ∧
  (∀ r t H', findR rs z = some r → Same H H' → TupC K H' t (modesV r.sh) → Q (.ref t) H') ∧ (findR rs z = none → ErrS X "mark" (.str z) H E)
theorem sh_look1 (l m : Addr) : List.lookup ("_listed" : Str) [(("_listed" : Str), V.ref l), ("_marks", V.ref m)] = some (V.ref l) := rfl
theorem sh_look2 (l m : Addr) : List.lookup ("_marks" : Str) [(("_listed" : Str), V.ref l), ("_marks", V.ref m)] = some (V.ref m) := rfl
section
variable {w : World} {K : PySem.W.Frag} {mg : Str → Option Value} {base : Heap}
theorem ok_Shape_iter (T : Txt K mg) : IterOk PP w K mg base 1 T.a_Shape_iter T.c_Shape "_marks" := fun A outer s H a dx l fs xs Q E hr e0 ha hf hq q => by
  refine fn_here T.F_Shape_iter sc_Shape_iter T.b_Shape_iter hr e0 (vs := [.ref a]) (.cons rfl .nil) rfl fun cdv hr => ⟨_, (pss_one (ps_ret (pe_callB ItX.call_iterN (by rfl) T.n_iter (by decide +kernel) (pa_cons (pe_fld (pv 0) rfl) pa_nil)))), ?_⟩
  exact ⟨_, rfl, a, _, dx, _, _, rfl, ha, T.cl_Shape, T.no_Shape__marks, hf, l, xs, rfl, hq, fun it n1 n2 => q it n1 n2⟩
theorem ok_Shape_eq (T : Txt K mg) : FnOk PP w K mg base CX0 1 T.a_Shape_eq T.fd_Shape_eq ["self", "other"] (spShEq T.c_Shape) := by
  refine T.F_Shape_eq.ok sc_Shape_eq (fun vs H Q E h => ?_) (fun cdv A outer s H vs Q E hr h => ?_)
  · obtain ⟨x, y, ss, tt, rfl, _⟩ := h; rfl
  · obtain ⟨x, y, ss, tt, rfl, ⟨dx, l, m, us, hx, hl, hs, hm⟩, ⟨dy, l2, m2, vs, hy, hl2, ht, hm2⟩, gs, gt, q⟩ := h
    refine ⟨_, (pss_one (ps_ret (pe_and (pe_callB call_isi (by rfl) T.n_isinstance (by decide +kernel) (pa_cons (pv 1) (pa_cons (pe_glob (v := .ref T.c_Shape) (by rfl) T.g_Shape rfl) pa_nil))) (pe_one (pe_cmpR (op_eqD hr.units) (pe_fld (pv 0) rfl) (pe_fld (pv 1) rfl) (nomark _)))))), ?_⟩
    refine ⟨_, rfl, _, _, _, _, true, rfl, ClsV.own _, .base (T.ti_Shape _ _ _ _ hy), T.kk_Shape, _, rfl, iteT ?_⟩
    refine ⟨_, rfl, x, _, dx, _, _, rfl, hx, T.cl_Shape, T.no_Shape__listed, sh_look1 l m, _, rfl, y, _, dy, _, _, rfl, hy, T.cl_Shape, T.no_Shape__listed, sh_look1 l2 m2, _, _, .lst (SqL.of hl) (rowsDp hs), .lst (SqL.of hl2) (rowsDp ht), rows_shaped gs, rows_shaped gt, ?_⟩
    rw [PyData.eqv, eqv_rows]
    exact q
theorem ok_Shape_len (T : Txt K mg) : FnOk PP w K mg base CX0 1 T.a_Shape_len T.fd_Shape_len ["self"] (spShLen T.c_Shape) := by
  refine T.F_Shape_len.ok sc_Shape_len (fun vs H Q E h => ?_) (fun cdv A outer s H vs Q E hr h => ?_)
  · obtain ⟨x, rs, rfl, _⟩ := h; rfl
  · obtain ⟨x, rs, rfl, ⟨dx, l, m, us, hx, hl, hs, hm⟩, q⟩ := h
    refine ⟨_, (pss_one (ps_ret (pe_callB call_len_seq (by rfl) T.n_len (by decide +kernel) (pa_cons (pe_fld (pv 0) rfl) pa_nil)))), ?_⟩
    refine ⟨_, rfl, x, _, dx, _, _, rfl, hx, T.cl_Shape, T.no_Shape__marks, sh_look2 l m, m, _, rfl, .inl (SqL.of hm), ?_⟩
    unfold mksV
    rw [List.length_map]
    exact q
end
end My

namespace My
open PySem L2
/-! ### drawn marks -/
def spLMarks (K : PySem.W.Frag) : Sp := fun vs H Q _ => ∃ (d t : Addr) (n : Nat), vs = [.ref d, .ref t, .int n] ∧ Dr K H d t ∧ n ≤ 26 ∧
  ∀ (ms : List Str) p H', ms.length = n → ms.Nodup → (∀ m ∈ ms, isMk m = true) → Dr K H' d t → But t H H' → H p = none → H' p = some (.lst (ms.map V.str)) → Q (.ref p) H'
theorem joinL_nil : ∀ ls : List (List Nat), TL.joinL [] ls = ls.flatten
  | [] => rfl
  | [p] => by simp [TL.joinL]
  | p :: q :: r => by
    have := joinL_nil (q :: r)
    rw [TL.joinL, this]; simp
theorem letters_tl : ("abcdefghijklmnopqrstuvwxyz" : Str).cps.toList = (List.range 26).map (97 + ·) := by decide +kernel
theorem letter_at {i : Int} (h0 : 0 ≤ i) (h1 : i < 26) : atI ("abcdefghijklmnopqrstuvwxyz" : Str).cps.toList i = some (97 + i.toNat) := by
  obtain ⟨j, rfl⟩ := Int.eq_ofNat_of_zero_le h0
  refine atI_nat ?_
  rw [letters_tl, List.getElem?_map, List.getElem?_range (by omega)]
  rfl
def letS (i : Int) : Str := ⟨#[97 + i.toNat]⟩
theorem tl_letS (i : Int) : TL.tl (letS i) = [97 + i.toNat] := rfl
def restS (f : Int) (z : Nat) : Str := Txt.join "" ((List.range z).map fun j => letS ((f + 3 * (j : Nat)) % 26))
theorem tl_restS (f : Int) (z : Nat) : TL.tl (restS f z) = (List.range z).map fun j => 97 + ((f + 3 * (j : Nat)) % 26).toNat := by
  unfold restS
  rw [TL.join_eq, TL.tl_join, show TL.tl ("" : Str) = [] by decide +kernel, joinL_nil, List.map_map, ← List.flatMap_def]
  induction z with
  | zero => rfl
  | succ z ih => rw [List.range_succ, List.flatMap_append, ih, List.map_append]; rfl
theorem isMk_of {m : Str} (h1 : 1 ≤ (TL.tl m).length) (h8 : (TL.tl m).length ≤ 8) (ha : ∀ c ∈ TL.tl m, 97 ≤ c ∧ c ≤ 122) : isMk m = true := by
  unfold isMk
  rw [TL.len_tl, decide_eq_true ⟨h1, h8⟩, Bool.true_and, List.all_eq_true]
  exact fun c hc => decide_eq_true (ha c hc)
theorem let_ok (i : Int) : 97 ≤ 97 + (i % 26).toNat ∧ 97 + (i % 26).toNat ≤ 122 := by
  have := Int.emod_lt_of_pos i (show (0 : Int) < 26 by decide)
  have := Int.emod_nonneg i (show (26 : Int) ≠ 0 by decide)
  omega
theorem rest_ok {f : Int} {z c : Nat} (h : c ∈ TL.tl (restS f z)) : 97 ≤ c ∧ c ≤ 122 := by
  rw [tl_restS] at h
  obtain ⟨j, _, rfl⟩ := List.mem_map.mp h
  exact let_ok _
theorem rest_len (f : Int) (z : Nat) : (TL.tl (restS f z)).length = z := by rw [tl_restS, List.length_map, List.length_range]
theorem sum_let (f : Int) (z : Nat) : (((List.range z).map fun j => letS ((f + 3 * ((j : Nat) : Int)) % 26)).map (·.length)).sum = z := by
  induction z with
  | zero => rfl
  | succ z ih =>
    rw [List.range_succ, List.map_append, List.map_append, List.sum_append, ih]
    rfl
def sgn (sh : Int) (j : Nat) : Nat := 97 + ((sh + 5 * (j : Nat)) % 26).toNat
def keyOf (front : Bool) (m : Str) : Option Nat := if front then (TL.tl m).head? else (TL.tl m).getLast?
theorem key_nodup {front : Bool} {sh : Int} {ms : List Str} (hz : ms.length ≤ 26) (h : ∀ j m, ms[j]? = some m → keyOf front m = some (sgn sh j)) : ms.Nodup := by
  refine List.pairwise_iff_getElem.mpr fun i j hi hj hij e => ?_
  have e1 := h i _ (List.getElem?_eq_getElem hi)
  have e2 := h j _ (List.getElem?_eq_getElem hj)
  rw [e, e2] at e1
  have e1 := Option.some.inj e1
  unfold sgn at e1
  omega
section
variable {P : Program} {w : World} {K : PySem.W.Frag} {mg : Str → Option Value} {base : Heap}
theorem ok__law_marks (T : Txt K mg) : FnOk P w K mg base CX0 2 T.a__law_marks T.fd__law_marks ["_law_draws_here", "_law_at", "_law_count"] (spLMarks K) := by
  refine T.F__law_marks.ok sc__law_marks (fun vs H Q E h => ?_) (fun cdv A outer s H vs Q E hr h => ?_)
  · obtain ⟨d, t, n, rfl, _⟩ := h; rfl
  · obtain ⟨d, t, n, rfl, D0, hn, q⟩ := h
    refine ⟨_, (pss_cons (ps_set (i := 3) sc__law_marks.nd rfl (.inr rfl) (pe_str))
      (pss_cons (ps_set (i := 4) sc__law_marks.nd rfl (.inl rfl) (pe_call (ok__law_take T) (hr.mono (by omega)) (by rfl) T.g__law_take T.F__law_take.kp T.b__law_take .nil pass0 (pa_cons (pv 0) (pa_cons (pv 1) (pa_cons (pe_int) pa_nil)))))
      (pss_cons (ps_set (i := 5) sc__law_marks.nd rfl (.inl rfl) (pe_cmpR op_eq (pe_call (ok__law_take T) (hr.mono (by omega)) (by rfl) T.g__law_take T.F__law_take.kp T.b__law_take .nil pass0 (pa_cons (pv 0) (pa_cons (pv 1) (pa_cons (pe_int) pa_nil)))) (pe_int) (nomark _)))
      (pss_cons (ps_set (i := 6) sc__law_marks.nd rfl (.inl rfl) (pe_lst pa_nil))
      (pss_cons (ps_for PassesOwn.never rfl (pi_range1 (by rfl) T.n_range (pa_cons (pv 2) pa_nil)) (pg_name (i := 7) sc__law_marks.nd rfl (.inl rfl)) (pss_cons (ps_set (i := 8) sc__law_marks.nd rfl (.inl rfl) (pe_ix ix_list (pe_lst (pa_cons (pe_int) (pa_cons (pe_int) (pa_cons (pe_int) (pa_cons (pe_int) (pa_cons (pe_int) pa_nil)))))) (pe_call (ok__law_take T) (hr.mono (by omega)) (by rfl) T.g__law_take T.F__law_take.kp T.b__law_take .nil pass0 (pa_cons (pv 0) (pa_cons (pv 1) (pa_cons (pe_int) pa_nil)))) (fun _ _ => rfl)))
      (pss_cons (ps_set (i := 9) sc__law_marks.nd rfl (.inr rfl) (pe_call (ok__law_take T) (hr.mono (by omega)) (by rfl) T.g__law_take T.F__law_take.kp T.b__law_take .nil pass0 (pa_cons (pv 0) (pa_cons (pv 1) (pa_cons (pe_int) pa_nil)))))
      (pss_cons (ps_set (i := 10) sc__law_marks.nd rfl (.inl rfl) (pe_join (pe_str) (pe_lc (own := [("_law_j", 11)]) (g := (gName 11)) (by rfl) sc__law_marks.nd (pi_range1 (by rfl) T.n_range (pa_cons (pv 8) pa_nil)) (blkOk_by (own := [("_law_j", 11)]) (N := ["_law_draws_here", "_law_at", "_law_count", "_law_letters", "_law_shift", "_law_front", "_law_marks_here", "_law_k", "_law_size", "_law_first", "_law_rest", "_law_j", "_law_sign"]) (sc := defScope S__law_marks) (by decide +kernel)) (fun _ _ _ _ _ => (pg_name (i := 11) sc__law_marks.nd rfl (by first | exact .inl rfl | exact .inr rfl))) (fun _ _ _ _ _ => pts_nil) (fun _ _ _ _ _ => (pe_ix ix_str (pv 3) (pe_op op_mod (pe_op op_add (pv 9) (pe_op op_mul (pe_int) (pv 11))) (pe_int)) (fun _ _ => rfl))))))
      (pss_cons (ps_set (i := 12) sc__law_marks.nd rfl (.inl rfl) (pe_ix ix_str (pv 3) (pe_op op_mod (pe_op op_add (pv 4) (pe_op op_mul (pe_int) (pv 7))) (pe_int)) (fun _ _ => rfl)))
      (pss_one (ps_if (pt_val (pv 5)) (pss_one (ps_expr (pe_bm PySem.F.plainAttrs_list PySem.F.slot_list_append PySem.F.type_list_append mt_append (pv 6) (pa_cons (pe_op op_add_str (pv 12) (pv 10)) pa_nil)))) (pss_one (ps_expr (pe_bm PySem.F.plainAttrs_list PySem.F.slot_list_append PySem.F.type_list_append mt_append (pv 6) (pa_cons (pe_op op_add_str (pv 10) (pv 12)) pa_nil)))))))))))
      (pss_one (ps_ret (pv 6)))))))), ?_⟩
    have big : 100000 < sizeLine := by decide
    refine ⟨_, rfl, _, rfl, d, t, 26, rfl, D0, by decide, fun sh H1 h0 h1 D1 b1 => ?_⟩
    refine ⟨_, rfl, _, rfl, d, t, 2, rfl, D1, by decide, fun fr H2 _ _ D2 b2 => ⟨rfl, ?_⟩⟩
    generalize decide (V.int fr = V.int 1) = front
    refine ⟨Nat.zero_le _, fun l hl => ?_⟩
    have nlt : l ≠ t := D2.na hl
    have b2 := b1.trans b2
    have hl0 : H l = none := b2.free nlt hl
    have s3 := same_new (o := .lst []) hl
    refine ⟨_, rfl, _, rfl, by omega, by omega, for_range (lo := 0) (n := n) (fun k σ H' => ∃ (ms : List Str) (x7 x8 x9 x10 x11 x12 : Option V), σ = [some (.ref d), some (.ref t), some (.int n), some (.str "abcdefghijklmnopqrstuvwxyz"), some (.int sh), some (.bl front), some (.ref l), x7, x8, x9, x10, x11, x12] ∧ Dr K H' d t ∧ But t H H' ∧ H' l = some (.lst (ms.map V.str)) ∧ ms.length = k ∧
        ∀ j m, ms[j]? = some m → isMk m = true ∧ keyOf front m = some (sgn sh j))
      ⟨[], _, _, _, _, _, _, rfl, D2.same s3, b2.trans (But.of_same s3), upd_same, rfl, fun j m h => by simp at h⟩ ?_ ?_⟩
    · rintro k σ H3 hk ⟨ms, x7, x8, x9, x10, x11, x12, rfl, D3, b3, hl3, lk, hms⟩
      rw [Int.zero_add]
      refine ⟨by show 5 ≤ sizeLine; decide, fun m hm => ?_⟩
      have nmt : m ≠ t := D3.na hm
      have s4 := same_new (o := .lst [.int 0, .int 1, .int 2, .int 4, .int 7]) hm
      refine ⟨_, rfl, _, rfl, d, t, 5, rfl, D3.same s4, by decide, fun r H4 r0 r1 D4 b4 => ?_⟩
      obtain ⟨v, hv, mv⟩ := at_ok (xs := [.int 0, .int 1, .int 2, .int 4, .int 7]) r0 r1
      obtain ⟨z, rfl, hz⟩ : ∃ z : Nat, v = .int z ∧ z ≤ 7 := by
        simp only [List.mem_cons, List.not_mem_nil, or_false] at mv
        rcases mv with rfl | rfl | rfl | rfl | rfl
        · exact ⟨0, rfl, by decide⟩
        · exact ⟨1, rfl, by decide⟩
        · exact ⟨2, rfl, by decide⟩
        · exact ⟨4, rfl, by decide⟩
        · exact ⟨7, rfl, by decide⟩
      refine ⟨_, _, _, _, rfl, rfl, SqL.of (b4 _ _ nmt upd_same), hv, ?_⟩
      refine ⟨_, rfl, _, rfl, d, t, 26, rfl, D4, by decide, fun f H5 f0 f1 D5 b5 => ?_⟩
      have t5 : But t H H5 := ((b3.trans (But.of_same s4)).trans b4).trans b5
      have hl5 := b5 _ _ nlt (b4 _ _ nlt (s4 _ _ hl3))
      refine ⟨⟨_, rfl⟩, _, rfl, _, rfl, by omega, by omega, fun D hD => lc_range (lo := 0) (n := z) (fun i H' => Same H5 H' ∧ H' D = some (.lst (((List.range i).map fun j => letS ((f + 3 * (j : Nat)) % 26)).map V.str))) ⟨same_new hD, upd_same⟩ ?_ ?_⟩
      · rintro i H6 hi ⟨s6, h6⟩
        rw [Int.zero_add]
        refine ⟨rfl, ?_⟩
        unfold tYes
        refine iteT ⟨_, rfl, _, rfl, _, rfl, _, _, rfl, rfl, .inl ⟨by decide, by decide⟩, _, _, rfl, rfl, _, _, rfl, rfl, (show (0 : Int) < 26 by decide), _, _, _, rfl, rfl, by decide +kernel, letter_at (Int.emod_nonneg _ (by decide)) (Int.emod_lt_of_pos _ (by decide)), ?_⟩
        refine ⟨_, h6, by simp; omega, same_mut s6 hD, ?_⟩
        rw [upd_same, List.range_succ, List.map_append, List.map_append]; rfl
      · rintro H6 ⟨s6, h6⟩
        refine ⟨_, D, _, rfl, rfl, .inl (SqL.of h6), ?_, ?_⟩
        · rw [sum_let, List.length_map, List.length_range, show ("" : Str).length = 0 by decide +kernel]; omega
        show (fun _ => _) _
        refine ⟨_, rfl, _, rfl, _, rfl, _, _, rfl, rfl, .inl ⟨by decide, by decide⟩, _, _, rfl, rfl, _, _, rfl, rfl, (show (0 : Int) < 26 by decide), _, _, _, rfl, rfl, by decide +kernel, letter_at (Int.emod_nonneg _ (by decide)) (Int.emod_lt_of_pos _ (by decide)), ?_⟩
        have hl6 := s6 _ _ hl5
        have t6 := t5.trans (But.of_same s6)
        have D6 := D5.same s6
        have rl := rest_len f z
        have keep : ∀ m : Str, (isMk m = true ∧ keyOf front m = some (sgn sh k)) → ∀ j m', (ms ++ [m])[j]? = some m' → isMk m' = true ∧ keyOf front m' = some (sgn sh j) := fun m hm j m' h => by
          by_cases c : j < ms.length
          · rw [List.getElem?_append_left c] at h; exact hms j m' h
          · rw [List.getElem?_append_right (by omega)] at h
            obtain ⟨h1, h2⟩ := List.getElem?_eq_some_iff.mp h
            have h1 : j - ms.length < 1 := h1
            obtain rfl : j = k := by omega
            have e0 : j - ms.length = 0 := by omega
            rw [e0] at h
            exact Option.some.inj h ▸ hm
        refine ⟨_, rfl, _, rfl, ?_⟩
        cases front with
        | true =>
          refine iteT ⟨_, rfl, .inl ⟨rfl, _, SqL.of hl6⟩, _, rfl, _, rfl, _, _, rfl, rfl, ?_, _, _, _, rfl, rfl, hl6, by rw [List.length_map]; omega, ?_⟩
          · rw [TL.len_tl, TL.len_tl]; show 1 + _ ≤ _; rw [show TL.tl (Txt.join "" ((List.range z).map fun j => letS ((f + 3 * ((j : Nat) : Int)) % 26))) = TL.tl (restS f z) from rfl, rl]; omega
          · refine ⟨ms ++ [letS ((sh + 5 * (k : Nat)) % 26) ++ restS f z], _, _, _, _, _, _, rfl, D6.other But.upd (D0.nd hl0) nlt.symm, t6.mut hl0, by rw [upd_same, List.map_append]; rfl, by rw [List.length_append, lk]; rfl, keep _ ⟨isMk_of ?_ ?_ ?_, ?_⟩⟩
            · rw [TL.tl_append, List.length_append]; show 1 ≤ 1 + _; omega
            · rw [TL.tl_append, List.length_append, rl]; show 1 + _ ≤ _; omega
            · intro c hc
              rw [TL.tl_append] at hc
              rcases List.mem_append.mp hc with hc | hc
              · rw [List.mem_singleton.mp hc]; exact let_ok _
              · exact rest_ok hc
            · unfold keyOf; rw [TL.tl_append]; rfl
        | false =>
          refine iteF ⟨_, rfl, .inl ⟨rfl, _, SqL.of hl6⟩, _, rfl, _, rfl, _, _, rfl, rfl, ?_, _, _, _, rfl, rfl, hl6, by rw [List.length_map]; omega, ?_⟩
          · rw [TL.len_tl, TL.len_tl]; show _ + 1 ≤ _; rw [show TL.tl (Txt.join "" ((List.range z).map fun j => letS ((f + 3 * ((j : Nat) : Int)) % 26))) = TL.tl (restS f z) from rfl, rl]; omega
          · refine ⟨ms ++ [restS f z ++ letS ((sh + 5 * (k : Nat)) % 26)], _, _, _, _, _, _, rfl, D6.other But.upd (D0.nd hl0) nlt.symm, t6.mut hl0, by rw [upd_same, List.map_append]; rfl, by rw [List.length_append, lk]; rfl, keep _ ⟨isMk_of ?_ ?_ ?_, ?_⟩⟩
            · rw [TL.tl_append, List.length_append]; show 1 ≤ _ + 1; omega
            · rw [TL.tl_append, List.length_append, rl]; show _ + 1 ≤ _; omega
            · intro c hc
              rw [TL.tl_append] at hc
              rcases List.mem_append.mp hc with hc | hc
              · exact rest_ok hc
              · rw [List.mem_singleton.mp hc]; exact let_ok _
            · unfold keyOf; rw [TL.tl_append]; exact List.getLast?_concat
    · rintro σ H3 ⟨ms, x7, x8, x9, x10, x11, x12, rfl, D3, b3, hl3, lk, hms⟩
      refine ⟨_, rfl, q ms l H3 lk (key_nodup (by omega) fun j m h => (hms j m h).2) (fun m hm => ?_) D3 b3 hl0 hl3⟩
      obtain ⟨j, hj⟩ := List.mem_iff_getElem?.mp hm
      exact (hms j m hj).1
end
end My

namespace My
open PySem L2
/-! ### all but what A holds stays -/
def Le (A : List Addr) (H H' : Hp) : Prop := ∀ b o, b ∉ A → H b = some o → H' b = some o
theorem Le.refl (A : List Addr) (H : Hp) : Le A H H := fun _ _ _ h => h
theorem Le.trans {A : List Addr} {H H1 H2 : Hp} (x : Le A H H1) (y : Le A H1 H2) : Le A H H2 := fun b o n h => y b o n (x b o n h)
theorem Le.same {A : List Addr} {H H' : Hp} (s : Same H H') : Le A H H' := fun b o _ h => s b o h
theorem Le.but {A : List Addr} {t : Addr} {H H' : Hp} (m : t ∈ A) (b : But t H H') : Le A H H' := fun a o n h => b a o (fun z => n (z ▸ m)) h
theorem Le.upd {A : List Addr} {H : Hp} {p : Addr} {o : HO} (m : p ∈ A) : Le A H (upd H p o) := fun a u n e => by rw [upd_ne (show a ≠ p from fun q => n (by rw [q]; exact m))]; exact e
theorem Le.put {A : List Addr} {H H' : Hp} {p : Addr} {o : HO} (x : Le A H H') (h : H p = none) : Le A H (L2.upd H' p o) := fun a u n e => by rw [upd_ne (ne_of_none e h)]; exact x a u n e
/-- the addresses of A are taken -/
def Al (A : List Addr) (H : Hp) : Prop := ∀ a ∈ A, ∃ o, H a = some o
theorem Al.nin {A : List Addr} {H : Hp} (h : Al A H) {p : Addr} (n : H p = none) : p ∉ A := fun m => by obtain ⟨o, e⟩ := h p m; rw [n] at e; cases e
theorem Al.same {A : List Addr} {H H' : Hp} (h : Al A H) (s : Same H H') : Al A H' := fun a m => (h a m).elim fun o e => ⟨o, s _ _ e⟩
/-! ### drawn rows of a shape -/
structure PRow where
  idx : Int
  pars : List Int
  least : Int
  most : Int
  sh : Bool
def prL (r : PRow) (pp : Addr) : List V := [.int r.idx, .ref pp, .int r.least, .int r.most, .bl r.sh]
def PrV (A : List Addr) (H : Hp) (v : V) (r : PRow) : Prop := ∃ p pp, v = .ref p ∧ p ∉ A ∧ pp ∉ A ∧ H p = some (.lst (prL r pp)) ∧ H pp = some (.lst (r.pars.map V.int))
theorem PrV.le {A : List Addr} {H H' : Hp} {v : V} {r : PRow} (h : PrV A H v r) (l : Le A H H') : PrV A H' v r := let ⟨p, pp, e, a, b, c, d⟩ := h; ⟨p, pp, e, a, b, l _ _ a c, l _ _ b d⟩
theorem PrV.sub {A B : List Addr} {H : Hp} {v : V} {r : PRow} (h : PrV A H v r) (s : ∀ a ∈ B, a ∈ A) : PrV B H v r := let ⟨p, pp, e, a, b, c, d⟩ := h; ⟨p, pp, e, fun m => a (s _ m), fun m => b (s _ m), c, d⟩
def listOk (n : Nat) (js : List Int) : Prop := js.Nodup ∧ ∀ j ∈ js, 0 ≤ j ∧ j < n
structure PrOk (n k : Nat) (r : PRow) : Prop where
  idx : r.idx = k
  pars : listOk n r.pars
  l0 : 0 ≤ r.least
  lm : r.least ≤ r.most
  m4 : r.most ≤ 4
  pm : 0 < r.most ↔ r.pars ≠ []
  low : r.least ≠ 0 → ∃ j ∈ r.pars, j < (k : Int)
def PlanOk (n : Nat) (prs : List PRow) : Prop := prs.length = n ∧ ∀ k r, prs[k]? = some r → PrOk n k r
def spLPlan (K : PySem.W.Frag) : Sp := fun vs H Q _ => ∃ (d t : Addr) (n : Nat), vs = [.ref d, .ref t, .int n] ∧ Dr K H d t ∧ n ≤ 26 ∧
  ∀ (prs : List PRow) us p H', PlanOk n prs → Dr K H' d t → But t H H' → H p = none → H' p = some (.lst us) → Paired (PrV [t] H') us prs → Q (.ref p) H'
theorem lst_len {n : Nat} {js : List Int} (h : listOk n js) : js.length ≤ n := by
  have nd : (js.map Int.toNat).Nodup := by
    refine List.pairwise_map.mpr (List.Pairwise.imp_of_mem (fun {a b} ha hb ne e => ne ?_) h.1)
    have := h.2 a ha; have := h.2 b hb; omega
  have sub : ∀ x ∈ js.map Int.toNat, x ∈ List.range n := fun x hx => by
    obtain ⟨j, hj, rfl⟩ := List.mem_map.mp hx
    have := h.2 j hj
    exact List.mem_range.mpr (by omega)
  have := List.Nodup.length_le_of_subset nd sub
  rwa [List.length_map, List.length_range] at this
section
variable {P : Program} {w : World} {K : PySem.W.Frag} {mg : Str → Option Value} {base : Heap}
end
end My

namespace My
open PySem L2
/-! ### rows of a shape with names, as lists or tuples, at addresses of F -/
def seqO (b : Bool) (xs : List V) : HO := if b then .lst xs else .tup xs
def RowN (F : Addr → Prop) (b : Bool) (H : Hp) (v : V) (r : Row) : Prop := ∃ p pp, v = .ref p ∧ F p ∧ F pp ∧ H p = some (seqO b (rowL r pp)) ∧ H pp = some (seqO b (r.pars.map V.str))
abbrev RowsN (F : Addr → Prop) (b : Bool) (H : Hp) (vs : List V) (rs : List Row) : Prop := Paired (RowN F b H) vs rs
theorem RowN.le {F : Addr → Prop} {b : Bool} {H H' : Hp} {v : V} {r : Row} (h : RowN F b H v r) (l : ∀ a o, F a → H a = some o → H' a = some o) : RowN F b H' v r := let ⟨p, pp, e, f, g, x, y⟩ := h; ⟨p, pp, e, f, g, l _ _ f x, l _ _ g y⟩
theorem RowN.sub {F G : Addr → Prop} {b : Bool} {H : Hp} {v : V} {r : Row} (h : RowN F b H v r) (l : ∀ a, F a → G a) : RowN G b H v r := let ⟨p, pp, e, f, g, x, y⟩ := h; ⟨p, pp, e, l _ f, l _ g, x, y⟩
theorem rowsN_le {F : Addr → Prop} {b : Bool} {H H' : Hp} {vs : List V} {rs : List Row} (h : RowsN F b H vs rs) (l : ∀ a o, F a → H a = some o → H' a = some o) : RowsN F b H' vs rs := L2.Paired.mapP h fun _ _ x => x.le l
theorem rowsN_same {F : Addr → Prop} {b : Bool} {H H' : Hp} {vs : List V} {rs : List Row} (h : RowsN F b H vs rs) (s : Same H H') : RowsN F b H' vs rs := rowsN_le h fun a o _ e => s a o e
theorem rowsN_sub {F G : Addr → Prop} {b : Bool} {H : Hp} {vs : List V} {rs : List Row} (h : RowsN F b H vs rs) (l : ∀ a, F a → G a) : RowsN G b H vs rs := L2.Paired.mapP h fun _ _ x => x.sub l
theorem RowN.toV {F : Addr → Prop} {b : Bool} {H : Hp} {v : V} {r : Row} (h : RowN F b H v r) : RowV H v r := by
  obtain ⟨p, pp, e, _, _, x, y⟩ := h
  cases b with
  | true => exact ⟨p, pp, e, .inr x, .inr y⟩
  | false => exact ⟨p, pp, e, .inl x, .inl y⟩
theorem rowsN_toV {F : Addr → Prop} {b : Bool} {H : Hp} {vs : List V} {rs : List Row} (h : RowsN F b H vs rs) : Paired (RowV H) vs rs := L2.Paired.mapP h fun _ _ x => x.toV
abbrev New (H0 : Hp) : Addr → Prop := fun a => H0 a = none
def nm (ms : List Str) (i : Int) : Str := ms.getD i.toNat ""
def nameR (ms : List Str) (r : PRow) : Row := ⟨nm ms r.idx, r.pars.map (nm ms), r.least, r.most, r.sh⟩
def spLNamed (K : PySem.W.Frag) : Sp := fun vs H Q _ => ∃ (a b : Addr) (us : List V) (prs : List PRow) (n : Nat) (ms : List Str), vs = [.ref a, .ref b] ∧ H a = some (.lst us) ∧ Paired (PrV [] H) us prs ∧ PlanOk n prs ∧ n ≤ ms.length ∧ n ≤ 26 ∧ H b = some (.lst (ms.map V.str)) ∧
  ∀ p ws H', Same H H' → H p = none → H' p = some (.lst ws) → RowsN (New H) true H' ws (prs.map (nameR ms)) → Q (.ref p) H'
def spLHanded (K : PySem.W.Frag) : Sp := fun vs H Q _ => ∃ (a : Addr) (b : Bool) (us : List V) (rs : List Row), vs = [.ref a, .bl b] ∧ H a = some (.lst us) ∧ RowsN (fun _ => True) true H us rs ∧ us.length ≤ 100 ∧
  ∀ p ws H', Same H H' → H p = none → H' p = some (.lst ws) → RowsN (fun a => H a = none ∧ a ≠ p) b H' ws rs → Q (.ref p) H'
def spLWidth (K : PySem.W.Frag) : Sp := fun vs H Q _ => ∃ (a : Addr) (us : List V) (rs : List Row), vs = [.ref a] ∧ H a = some (.lst us) ∧ RowsN (fun _ => True) true H us rs ∧ Q (.int (widthOf rs)) H
theorem nm_at {ms : List Str} {i : Int} (h0 : 0 ≤ i) (h1 : i < ms.length) : atI (ms.map V.str) i = some (.str (nm ms i)) := by
  obtain ⟨j, rfl⟩ := Int.eq_ofNat_of_zero_le h0
  refine atI_nat ?_
  have hj : j < ms.length := by omega
  unfold nm
  rw [List.getElem?_map, List.getElem?_eq_getElem hj, List.getD_eq_getElem?_getD, Int.toNat_natCast, List.getElem?_eq_getElem hj]
  rfl
theorem named_in {K : PySem.W.Frag} {x0 x3 : Option V} {b p pp : Addr} {xs : List V} {js : List Int} {ms : List Str} {H : Hp} {Q : VK} (hb : H b = some (.lst (ms.map V.str))) (hp : H p = some (.lst xs)) (hx : atI xs 1 = some (.ref pp)) (hpp : H pp = some (.lst (js.map V.int))) (hz : js.length ≤ 1000) (hj : ∀ j ∈ js, 0 ≤ j ∧ j < ms.length)
    (q : ∀ D H', Same H H' → H D = none → H' D = some (.lst ((js.map (nm ms)).map V.str)) → Q (.ref D) H') :
    tLc (iList K (tOp (rIxL K) (tVar 2) (tC (.int 1)))) (gName 3) tYes (tOp (rIxL K) (tVar 1) (tVar 3)) [3] [x0, some (.ref b), some (.ref p), x3] H Q := by
  have big : 100000 < sizeLine := by decide
  refine ⟨_, rfl, _, _, _, _, rfl, rfl, SqL.of hp, hx, pp, rfl, ⟨_, SqL.of hpp⟩, fun E hE => lc_list (K := K) (a := pp) (xs := js.map V.int) (fun i H' => Same H H' ∧ H' E = some (.lst (((js.take i).map (nm ms)).map V.str))) ⟨same_new hE, upd_same⟩ (fun i H' _ h => SqL.of (h.1 _ _ hpp)) ?_ ?_⟩
  · rintro i v H2 hv ⟨s2, h2⟩
    obtain ⟨z, hz', rfl⟩ := get_int hv
    have zok := hj z (List.mem_of_getElem? hz')
    refine ⟨rfl, ?_⟩
    unfold tYes
    refine iteT ⟨_, rfl, _, rfl, _, _, _, _, rfl, rfl, SqL.of (s2 _ _ hb), nm_at zok.1 zok.2, _, h2, ?_, same_mut s2 hE, ?_⟩
    · rw [List.length_map, List.length_map, List.length_take]; omega
    · rw [upd_same, List.take_succ, hz', List.map_append, List.map_append]; rfl
  · rintro H2 ⟨s2, h2⟩
    rw [List.length_map, List.take_length] at h2
    exact q E H2 s2 hE h2
section
variable {P : Program} {w : World} {K : PySem.W.Frag} {mg : Str → Option Value} {base : Heap}
end
end My

namespace My
open PySem L2
/-! ### good shapes, changed -/
def rowOk (r : Row) : Prop := isMk r.mark = true ∧ sizeB r = true ∧ (decide (0 < r.most) == decide (0 < r.pars.length)) = true ∧ r.pars.Nodup
theorem fineB_iff {r : Row} {bs : List Str} : fineB r bs = true ↔ rowOk r ∧ r.mark ∉ bs := by
  unfold fineB rowOk
  simp only [Bool.and_eq_true, Bool.not_eq_true', decide_eq_false_iff_not, decide_eq_true_iff]
  constructor
  · rintro ⟨⟨⟨a, b, c⟩, d⟩, e⟩; exact ⟨⟨a, c, d, e⟩, b⟩
  · rintro ⟨⟨a, c, d, e⟩, b⟩; exact ⟨⟨⟨a, b, c⟩, d⟩, e⟩
theorem nodup_take {l : List Str} : l.Nodup ↔ ∀ (j : Nat) (x : Str), l[j]? = some x → x ∉ l.take j := by
  constructor
  · intro h j x hx m
    obtain ⟨i, hi, e⟩ := List.getElem_of_mem m
    rw [List.length_take] at hi
    rw [List.getElem_take] at e
    obtain ⟨hj, e2⟩ := List.getElem?_eq_some_iff.mp hx
    exact List.pairwise_iff_getElem.mp h i j (by omega) hj (by omega) (e.trans e2.symm)
  · intro h
    refine List.pairwise_iff_getElem.mpr fun i j hi hj hij e => h j _ (List.getElem?_eq_getElem hj) ?_
    rw [← e]
    exact List.mem_iff_getElem.mpr ⟨i, by rw [List.length_take]; omega, by rw [List.getElem_take]⟩
structure GoodC (rs : List Row) : Prop where
  len : rs.length ≤ 6
  nd : (mks rs).Nodup
  row : ∀ r ∈ rs, rowOk r
  pars : ∀ q ∈ rs, parsOk rs q
  fert : ∀ q ∈ rs, Fert rs q.mark
theorem mks_take (rs : List Row) (j : Nat) : mks (rs.take j) = (mks rs).take j := List.map_take ..
theorem Good.c {rs : List Row} (g : Good rs) : GoodC rs := by
  refine ⟨g.len, nodup_take.mpr fun j x hx m => ?_, fun r hr => ?_, g.pars, g.fert⟩
  · unfold mks at hx
    rw [List.getElem?_map] at hx
    cases e : rs[j]? with
    | none => rw [e] at hx; cases hx
    | some r =>
      rw [e] at hx
      have e2 := (fineB_iff.mp (g.fine j r e)).2
      rw [mks_take, show r.mark = x from Option.some.inj hx] at e2
      exact e2 m
  · obtain ⟨j, hj⟩ := List.mem_iff_getElem?.mp hr
    exact (fineB_iff.mp (g.fine j r hj)).1
theorem GoodC.g {rs : List Row} (g : GoodC rs) : Good rs := by
  refine ⟨g.len, fun j r hr => fineB_iff.mpr ⟨g.row r (List.mem_of_getElem? hr), ?_⟩, g.pars, g.fert⟩
  rw [mks_take]
  refine nodup_take.mp g.nd j _ ?_
  unfold mks
  rw [List.getElem?_map, hr]; rfl
theorem Fert.mono {rs ts : List Row} (h : ∀ r ∈ rs, ∃ q ∈ ts, q.mark = r.mark ∧ q.least = r.least ∧ q.pars = r.pars) {m : Str} (f : Fert rs m) : Fert ts m := by
  induction f with
  | @base r hr e =>
    obtain ⟨q, hq, a, b, _⟩ := h r hr
    exact a ▸ .base hq (b.trans e)
  | @step r p hr hp _ ih =>
    obtain ⟨q, hq, a, _, c⟩ := h r hr
    exact a ▸ .step hq (c ▸ hp) ih
theorem GoodC.alike {rs ts : List Row} (g : GoodC rs) (hl : ts.length ≤ 6) (nd : (mks ts).Nodup) (a : ∀ q ∈ ts, rowOk q ∧ ∃ r ∈ rs, q.mark = r.mark ∧ q.pars = r.pars) (b : ∀ r ∈ rs, ∃ q ∈ ts, q.mark = r.mark ∧ q.least = r.least ∧ q.pars = r.pars) : GoodC ts := by
  refine ⟨hl, nd, fun q hq => (a q hq).1, fun q hq p hp => ?_, fun q hq => ?_⟩
  · obtain ⟨r, hr, _, e⟩ := (a q hq).2
    obtain ⟨r2, hr2, e2⟩ := List.mem_map.mp (g.pars r hr p (e ▸ hp))
    obtain ⟨q2, hq2, e3, _⟩ := b r2 hr2
    exact List.mem_map.mpr ⟨q2, hq2, e3.trans e2⟩
  · obtain ⟨r, hr, e, _⟩ := (a q hq).2
    rw [e]
    exact (g.fert r hr).mono b
theorem set_marks {rs : List Row} {i : Nat} {r q : Row} (h : rs[i]? = some r) (e : q.mark = r.mark) : mks (rs.set i q) = mks rs := by
  unfold mks
  rw [List.map_set, e]
  refine List.ext_getElem? fun j => ?_
  rw [List.getElem?_set]
  split
  · rename_i c; subst c
    rw [List.getElem?_map, h]
    have := (List.getElem?_eq_some_iff.mp h).1
    simp [this]
  · rfl
theorem GoodC.put {rs : List Row} (g : GoodC rs) {i : Nat} {r q : Row} (h : rs[i]? = some r) (e : q.mark = r.mark) (el : q.least = r.least) (ep : q.pars = r.pars) (ok : rowOk q) : GoodC (rs.set i q) := by
  have hi := (List.getElem?_eq_some_iff.mp h).1
  have mq : q ∈ rs.set i q := List.mem_iff_getElem?.mpr ⟨i, by rw [List.getElem?_set]; simp [hi]⟩
  refine g.alike (by rw [List.length_set]; exact g.len) (by rw [set_marks h e]; exact g.nd) (fun x hx => ?_) (fun x hx => ?_)
  · rcases List.mem_or_eq_of_mem_set hx with hx | hx
    · exact ⟨g.row x hx, x, hx, rfl, rfl⟩
    · subst hx; exact ⟨ok, r, List.mem_of_getElem? h, e, ep⟩
  · obtain ⟨j, hj⟩ := List.mem_iff_getElem?.mp hx
    by_cases c : i = j
    · subst c
      rw [h] at hj
      obtain rfl := Option.some.inj hj
      exact ⟨q, mq, e, el, ep⟩
    · exact ⟨x, List.mem_iff_getElem?.mpr ⟨j, by rw [List.getElem?_set, if_neg c]; exact hj⟩, rfl, rfl, rfl⟩
theorem GoodC.swap {rs : List Row} (g : GoodC rs) {i : Nat} {r q : Row} (h : rs[i]? = some r) (h0 : rs[0]? = some q) : GoodC ((rs.set i q).set 0 r) := by
  obtain ⟨hi, ei⟩ := List.getElem?_eq_some_iff.mp h
  obtain ⟨hz, ez⟩ := List.getElem?_eq_some_iff.mp h0
  have sub : ∀ x, x ∈ (rs.set i q).set 0 r → x ∈ rs := fun x hx => by
    rcases List.mem_or_eq_of_mem_set hx with hx | hx
    · rcases List.mem_or_eq_of_mem_set hx with hx | hx
      · exact hx
      · subst hx; exact List.mem_of_getElem? h0
    · subst hx; exact List.mem_of_getElem? h
  have sup : ∀ x, x ∈ rs → x ∈ (rs.set i q).set 0 r := fun x hx => by
    obtain ⟨j, hj⟩ := List.mem_iff_getElem?.mp hx
    by_cases c : j = i
    · subst c
      rw [h] at hj
      obtain rfl := Option.some.inj hj
      exact List.mem_iff_getElem?.mpr ⟨0, by rw [List.getElem?_set]; simp [hz]⟩
    by_cases c0 : j = 0
    · subst c0
      rw [h0] at hj
      obtain rfl := Option.some.inj hj
      refine List.mem_iff_getElem?.mpr ⟨i, ?_⟩
      rw [List.getElem?_set, if_neg (fun z => c z), List.getElem?_set]
      simp [hi]
    · exact List.mem_iff_getElem?.mpr ⟨j, by rw [List.getElem?_set, if_neg (fun z => c0 z.symm), List.getElem?_set, if_neg (fun z => c z.symm)]; exact hj⟩
  refine g.alike (by rw [List.length_set, List.length_set]; exact g.len) ?_ (fun x hx => ⟨g.row x (sub x hx), x, sub x hx, rfl, rfl⟩) (fun x hx => ⟨x, sup x hx, rfl, rfl, rfl⟩)
  have inj : ∀ a b (ha : a < rs.length) (hb : b < rs.length), rs[a].mark = rs[b].mark → a = b := fun a b ha hb e => by
    have n := List.pairwise_iff_getElem.mp g.nd
    unfold mks at n
    rcases Nat.lt_trichotomy a b with c | c | c
    · exact absurd (by rw [List.getElem_map, List.getElem_map]; exact e) (n a b (by rw [List.length_map]; exact ha) (by rw [List.length_map]; exact hb) c)
    · exact c
    · exact absurd (by rw [List.getElem_map, List.getElem_map]; exact e.symm) (n b a (by rw [List.length_map]; exact hb) (by rw [List.length_map]; exact ha) c)
  refine List.pairwise_iff_getElem.mpr fun a b ha hb hab e => ?_
  unfold mks at ha hb e
  rw [List.length_map, List.length_set, List.length_set] at ha hb
  rw [List.getElem_map, List.getElem_map] at e
  simp only [List.getElem_set] at e
  subst ei ez
  have i0 := inj
  split at e <;> split at e <;> (try split at e) <;> (try split at e) <;> first | omega | (have := inj _ _ _ _ e; omega)
theorem GoodC.add {rs : List Row} (g : GoodC rs) {z : Str} (hl : rs.length < 6) (hz : isMk z = true) (nz : z ∉ mks rs) : GoodC (rs ++ [⟨z, [], 0, 0, false⟩]) := by
  have em : mks (rs ++ [⟨z, [], 0, 0, false⟩]) = mks rs ++ [z] := by unfold mks; rw [List.map_append]; rfl
  refine ⟨by rw [List.length_append]; simp; omega, ?_, fun r hr => ?_, fun r hr p hp => ?_, fun r hr => ?_⟩
  · rw [em, List.nodup_append]
    exact ⟨g.nd, by simp, fun a ha b hb e => nz (by rw [List.mem_singleton] at hb; rw [← hb, ← e]; exact ha)⟩
  · rcases List.mem_append.mp hr with hr | hr
    · exact g.row r hr
    · rw [List.mem_singleton.mp hr]; exact ⟨hz, rfl, rfl, List.nodup_nil⟩
  · rcases List.mem_append.mp hr with hr | hr
    · rw [em]; exact List.mem_append_left _ (g.pars r hr p hp)
    · rw [List.mem_singleton.mp hr] at hp; cases hp
  · rcases List.mem_append.mp hr with hr | hr
    · exact (g.fert r hr).mono fun q hq => ⟨q, List.mem_append_left _ hq, rfl, rfl, rfl⟩
    · rw [List.mem_singleton.mp hr]
      exact Fert.base (r := ⟨z, [], 0, 0, false⟩) (List.mem_append_right _ (List.mem_singleton.mpr rfl)) rfl
def renS (o z m : Str) : Str := if m = o then z else m
def renR (o z : Str) (r : Row) : Row := ⟨renS o z r.mark, r.pars.map (renS o z), r.least, r.most, r.sh⟩
theorem renS_inj {o z : Str} {l : List Str} (nz : z ∉ l) {a b : Str} (ha : a ∈ l) (hb : b ∈ l) (e : renS o z a = renS o z b) : a = b := by
  unfold renS at e
  by_cases c : a = o <;> by_cases d : b = o
  · rw [c, d]
  · rw [if_pos c, if_neg d] at e; rw [← e] at hb; exact absurd hb nz
  · rw [if_neg c, if_pos d] at e; rw [e] at ha; exact absurd ha nz
  · rw [if_neg c, if_neg d] at e; exact e
theorem nodup_ren {o z : Str} {l m : List Str} (nz : z ∉ m) (s : ∀ a ∈ l, a ∈ m) (h : l.Nodup) : (l.map (renS o z)).Nodup :=
  List.pairwise_map.mpr (List.Pairwise.imp_of_mem (fun {a b} ha hb ne e => ne (renS_inj nz (s a ha) (s b hb) e)) h)
theorem GoodC.ren {rs : List Row} (g : GoodC rs) {o z : Str} (hz : isMk z = true) (nz : z ∉ mks rs) : GoodC (rs.map (renR o z)) := by
  have em : mks (rs.map (renR o z)) = (mks rs).map (renS o z) := by unfold mks; rw [List.map_map, List.map_map]; rfl
  refine ⟨by rw [List.length_map]; exact g.len, by rw [em]; exact nodup_ren nz (fun _ h => h) g.nd, fun q hq => ?_, fun q hq p hp => ?_, fun q hq => ?_⟩
  · obtain ⟨r, hr, rfl⟩ := List.mem_map.mp hq
    obtain ⟨a, b, c, d⟩ := g.row r hr
    refine ⟨?_, b, ?_, nodup_ren nz (g.pars r hr) d⟩
    · show isMk (renS o z r.mark) = true
      unfold renS; split
      · exact hz
      · exact a
    · show (decide (0 < r.most) == decide (0 < (r.pars.map (renS o z)).length)) = true
      rw [List.length_map]; exact c
  · obtain ⟨r, hr, rfl⟩ := List.mem_map.mp hq
    obtain ⟨y, hy, rfl⟩ := List.mem_map.mp hp
    rw [em]
    exact List.mem_map.mpr ⟨y, g.pars r hr y hy, rfl⟩
  · obtain ⟨r, hr, rfl⟩ := List.mem_map.mp hq
    have k : ∀ {m}, Fert rs m → Fert (rs.map (renR o z)) (renS o z m) := fun f => by
      induction f with
      | @base r hr e => exact Fert.base (r := renR o z r) (List.mem_map.mpr ⟨r, hr, rfl⟩) e
      | @step r p hr hp _ ih => exact Fert.step (r := renR o z r) (List.mem_map.mpr ⟨r, hr, rfl⟩) (List.mem_map.mpr ⟨p, hp, rfl⟩) ih
    exact k (g.fert r hr)
/-- drawn rows with drawn marks -/
theorem good_named {n : Nat} {prs : List PRow} {ms : List Str} (ok : PlanOk n prs) (h6 : n ≤ 6) (hn : n ≤ ms.length) (nd : ms.Nodup) (hm : ∀ m ∈ ms, isMk m = true) : GoodC (prs.map (nameR ms)) := by
  have nmi : ∀ {i : Int}, 0 ≤ i → i < n → nm ms i ∈ ms := fun {i} h0 h1 => by
    unfold nm
    rw [List.getD_eq_getElem?_getD, List.getElem?_eq_getElem (by omega)]
    exact List.getElem_mem _
  have inj : ∀ {i j : Int}, 0 ≤ i → i < n → 0 ≤ j → j < n → nm ms i = nm ms j → i = j := fun {i j} a b c d e => by
    unfold nm at e
    rw [List.getD_eq_getElem?_getD, List.getD_eq_getElem?_getD, List.getElem?_eq_getElem (by omega), List.getElem?_eq_getElem (by omega)] at e
    have e : ms[i.toNat]'(by omega) = ms[j.toNat]'(by omega) := e
    have p := List.pairwise_iff_getElem.mp nd
    rcases Nat.lt_trichotomy i.toNat j.toNat with q | q | q
    · exact absurd e (p _ _ (by omega) (by omega) q)
    · omega
    · exact absurd e.symm (p _ _ (by omega) (by omega) q)
  have at_ : ∀ {k : Nat} {r : PRow}, prs[k]? = some r → k < n := fun h => by have := (List.getElem?_eq_some_iff.mp h).1; have := ok.1; omega
  have row : ∀ {j : Int}, 0 ≤ j → j < n → ∃ r, prs[j.toNat]? = some r ∧ (nameR ms r).mark = nm ms j := fun {j} a b => by
    have hj : j.toNat < prs.length := by rw [ok.1]; omega
    refine ⟨prs[j.toNat], List.getElem?_eq_getElem hj, ?_⟩
    have := (ok.2 _ _ (List.getElem?_eq_getElem hj)).idx
    show nm ms (prs[j.toNat]).idx = _
    rw [this, show ((j.toNat : Nat) : Int) = j by omega]
  refine ⟨by rw [List.length_map, ok.1]; exact h6, ?_, fun q hq => ?_, fun q hq p hp => ?_, fun q hq => ?_⟩
  · refine List.pairwise_iff_getElem.mpr fun a b ha hb hab e => ?_
    unfold mks at ha hb e
    rw [List.length_map, List.length_map] at ha hb
    simp only [List.getElem_map] at e
    have ia := (ok.2 a _ (List.getElem?_eq_getElem ha)).idx
    have ib := (ok.2 b _ (List.getElem?_eq_getElem hb)).idx
    have ka := at_ (List.getElem?_eq_getElem ha)
    have kb := at_ (List.getElem?_eq_getElem hb)
    have e : nm ms prs[a].idx = nm ms prs[b].idx := e
    have := inj (by omega) (by omega) (by omega) (by omega) e
    omega
  · obtain ⟨r, hr, rfl⟩ := List.mem_map.mp hq
    obtain ⟨k, hk⟩ := List.mem_iff_getElem?.mp hr
    have o := ok.2 k r hk
    have kn := at_ hk
    refine ⟨hm _ (nmi (by rw [o.idx]; omega) (by rw [o.idx]; omega)), ?_, ?_, ?_⟩
    · show (decide (0 ≤ r.least) && (decide (r.least ≤ r.most) && decide (r.most ≤ 4))) = true
      rw [decide_eq_true o.l0, decide_eq_true o.lm, decide_eq_true o.m4]; rfl
    · show (decide (0 < r.most) == decide (0 < (r.pars.map (nm ms)).length)) = true
      rw [List.length_map, beq_iff_eq]
      refine decide_eq_decide.mpr (o.pm.trans ?_)
      rw [List.length_pos_iff]
    · exact List.pairwise_map.mpr (List.Pairwise.imp_of_mem (fun {a b} ha hb ne e => ne (inj (o.pars.2 a ha).1 (o.pars.2 a ha).2 (o.pars.2 b hb).1 (o.pars.2 b hb).2 e)) o.pars.1)
  · obtain ⟨r, hr, rfl⟩ := List.mem_map.mp hq
    obtain ⟨k, hk⟩ := List.mem_iff_getElem?.mp hr
    obtain ⟨j, hj, rfl⟩ := List.mem_map.mp hp
    have o := (ok.2 k r hk).pars.2 j hj
    obtain ⟨r2, h2, e2⟩ := row o.1 o.2
    exact List.mem_map.mpr ⟨nameR ms r2, List.mem_map.mpr ⟨r2, List.mem_of_getElem? h2, rfl⟩, e2⟩
  · obtain ⟨r, hr, rfl⟩ := List.mem_map.mp hq
    obtain ⟨k, hk⟩ := List.mem_iff_getElem?.mp hr
    have all : ∀ (k : Nat) (r : PRow), prs[k]? = some r → Fert (prs.map (nameR ms)) (nameR ms r).mark := by
      intro k
      induction k using Nat.strongRecOn with
      | ind k ih =>
        intro r hk
        have o := ok.2 k r hk
        have mr : nameR ms r ∈ prs.map (nameR ms) := List.mem_map.mpr ⟨r, List.mem_of_getElem? hk, rfl⟩
        by_cases c : r.least = 0
        · exact Fert.base (r := nameR ms r) mr c
        · obtain ⟨j, hj, lt⟩ := o.low c
          have oj := o.pars.2 j hj
          obtain ⟨r2, h2, e2⟩ := row oj.1 oj.2
          have f := ih j.toNat (by omega) r2 h2
          rw [e2] at f
          exact Fert.step (r := nameR ms r) mr (List.mem_map.mpr ⟨j, hj, rfl⟩) f
    exact all k r hk
end My

namespace My
open PySem L2
theorem due_good {rs : List Row} (g : Good rs) {e : SErr} (h : Due rs e) : False := by
  cases h with
  | large h => have := g.len; omega
  | row _ hr _ hb => rw [g.fine _ _ hr] at hb; cases hb
  | par _ _ hr hp _ _ n => exact n (g.pars _ (List.mem_of_getElem? hr) _ (List.mem_of_getElem? hp))
  | lost _ _ _ hr _ n => exact n (g.fert _ (List.mem_of_getElem? hr))
end My

namespace My
open PySem L2
theorem dn_strs {K : PySem.W.Frag} {x : Addr} {H : Hp} {n : Nat} : ∀ l : List Str, Paired (Dn K x H n) (l.map V.str) (l.map .str)
  | [] => .nil
  | z :: l => .cons (Dn.str z) (dn_strs l)
theorem dn_strL {K : PySem.W.Frag} {x a : Addr} {H : Hp} {n : Nat} {l : List Str} (h : H a = some (.lst (l.map V.str))) (ne : a ≠ x) (hz : l.length ≤ 100000) : Dn K x H (n + 1) (.ref a) (.list (l.map .str)) := Dn.lst ne (SqL.of h) (dn_strs l) (by rw [List.length_map]; exact hz)
theorem dn_strT {K : PySem.W.Frag} {x a : Addr} {H : Hp} {n : Nat} {l : List Str} (h : H a = some (.tup (l.map V.str))) (ne : a ≠ x) (hz : l.length ≤ 100000) : Dn K x H (n + 1) (.ref a) (.tuple (l.map .str)) := Dn.tup ne (SqT.of h) (dn_strs l) (by rw [List.length_map]; exact hz)
theorem dn_row {K : PySem.W.Frag} {x : Addr} {H : Hp} {n : Nat} {r : Row} {p pp : Addr} (hp : H p = some (.tup (rowL r pp))) (hpp : H pp = some (.tup (r.pars.map V.str))) (n1 : p ≠ x) (n2 : pp ≠ x) (hz : r.pars.length ≤ 1000) : Dn K x H (n + 2) (.ref p) (rowD r) :=
  Dn.tup n1 (SqT.of hp) (.cons (Dn.str _) (.cons (dn_strT hpp n2 (by omega)) (.cons (Dn.int _) (.cons (Dn.int _) (.cons (Dn.bl _) .nil))))) (by simp [rowL])
theorem rowsN_leA {F : Addr → Prop} {b : Bool} {H H' : Hp} {vs : List V} {rs : List Row} {A : List Addr} (h : RowsN F b H vs rs) (l : Le A H H') (n : ∀ a, F a → a ∉ A) : RowsN F b H' vs rs := rowsN_le h fun a o f e => l a o (n a f) e
/-- the rows' own addresses are taken -/
theorem rowsN_al {F : Addr → Prop} {b : Bool} {H : Hp} {vs : List V} {rs : List Row} (h : RowsN F b H vs rs) : RowsN (fun a => F a ∧ ∃ o, H a = some o) b H vs rs := L2.Paired.mapP h fun _ _ ⟨p, pp, e, f, g, x, y⟩ => ⟨p, pp, e, ⟨f, _, x⟩, ⟨g, _, y⟩, x, y⟩
def rowDb (b : Bool) (r : Row) : PyData := if b then .list [.str r.mark, .list (r.pars.map .str), .int r.least, .int r.most, .bool r.sh] else rowD r
theorem dn_rowN {K : PySem.W.Frag} {F : Addr → Prop} {x : Addr} {b : Bool} {H : Hp} {n : Nat} {v : V} {r : Row} (h : RowN F b H v r) (nx : ∀ a, F a → a ≠ x) (hz : r.pars.length ≤ 1000) : Dn K x H (n + 2) v (rowDb b r) := by
  obtain ⟨p, pp, rfl, f, g, hp, hpp⟩ := h
  cases b with
  | true =>
    have hp : H p = some (.lst (rowL r pp)) := hp
    have hpp : H pp = some (.lst (r.pars.map V.str)) := hpp
    exact Dn.lst (nx p f) (SqL.of hp) (.cons (Dn.str _) (.cons (dn_strL hpp (nx pp g) (by omega)) (.cons (Dn.int _) (.cons (Dn.int _) (.cons (Dn.bl _) .nil))))) (by simp [rowL])
  | false => exact dn_row hp hpp (nx p f) (nx pp g) hz
theorem dn_rowsN {K : PySem.W.Frag} {F : Addr → Prop} {x a : Addr} {b : Bool} {H : Hp} {vs : List V} {rs : List Row} (h : RowsN F b H vs rs) (ha : H a = some (.lst vs)) (na : a ≠ x) (nx : ∀ a, F a → a ≠ x) (hz : ∀ r ∈ rs, r.pars.length ≤ 1000) (hl : rs.length ≤ 1000) : Dn K x H 3 (.ref a) (.list (rs.map (rowDb b))) := by
  refine Dn.lst na (SqL.of ha) ?_ (by rw [pair_len' h]; omega)
  revert hz
  clear ha hl
  induction h with
  | nil => intro _; exact .nil
  | cons r t ih => intro hz; exact .cons (dn_rowN r nx (hz _ (by simp))) (ih fun q hq => hz q (by simp [hq]))
theorem GoodC.bnd {rs : List Row} (g : GoodC rs) : ∀ r ∈ rs, r.mark.length ≤ 8 ∧ r.pars.length ≤ 6 := fun r hr => by
  obtain ⟨a, _, _, d⟩ := g.row r hr
  unfold isMk at a
  rw [Bool.and_eq_true, decide_eq_true_iff] at a
  have := List.Nodup.length_le_of_subset d (g.pars r hr)
  unfold mks at this
  rw [List.length_map] at this
  have := g.len
  exact ⟨by omega, by omega⟩
end My

namespace L2
open PySem
theorem sl_listK {X : Cx} {K : PySem.W.Frag} (h : X.K = K) : SlR X (rSlL K) := h ▸ sl_list
end L2

namespace My
open PySem L2
/-! ### the rows that _law_rows draws -/
theorem int_at {js : List Int} {i : Int} (h0 : 0 ≤ i) (h1 : i < (js.length : Int)) : ∃ z, atI (js.map V.int) i = some (.int z) ∧ z ∈ js := by
  obtain ⟨v, hv, mv⟩ := at_ok (xs := js.map V.int) h0 (by rw [List.length_map]; exact h1)
  obtain ⟨z, hz, rfl⟩ := List.mem_map.mp mv
  exact ⟨z, hv, hz⟩
def spLRows (K : PySem.W.Frag) : Sp := fun vs H Q _ => ∃ (d t : Addr) (ex : Bool), vs = [.ref d, .ref t, .bl ex] ∧ Dr K H d t ∧
  ∀ (ms : List Str) (prs : List PRow) ws p H', PlanOk ms.length prs → (∀ r ∈ prs, r.most ≤ 3) → 1 ≤ ms.length → ms.length ≤ 3 → ms.Nodup → (∀ m ∈ ms, isMk m = true) → Dr K H' d t → But t H H' → H p = none → H' p = some (.lst ws) → RowsN (New H) true H' ws (prs.map (nameR ms)) → Q (.ref p) H'
theorem nm_take {ms : List Str} (nd : ms.Nodup) {j : Int} {k : Nat} (h0 : 0 ≤ j) (h1 : j < ms.length) (h : nm ms j ∈ ms.take k) : j < (k : Int) := by
  obtain ⟨n, rfl⟩ := Int.eq_ofNat_of_zero_le h0
  have hn : n < ms.length := by omega
  obtain ⟨i, hi, e⟩ := List.getElem_of_mem h
  rw [List.length_take] at hi
  rw [List.getElem_take] at e
  have e2 : nm ms (n : Int) = ms[n] := by unfold nm; rw [List.getD_eq_getElem?_getD, Int.toNat_natCast, List.getElem?_eq_getElem hn]; rfl
  rw [e2] at e
  have := (List.getElem_inj nd).mp e
  omega
theorem nm_mem {ms : List Str} {j : Int} (h0 : 0 ≤ j) (h1 : j < ms.length) : nm ms j ∈ ms := by
  obtain ⟨n, rfl⟩ := Int.eq_ofNat_of_zero_le h0
  have hn : n < ms.length := by omega
  unfold nm; rw [List.getD_eq_getElem?_getD, Int.toNat_natCast, List.getElem?_eq_getElem hn]; exact List.getElem_mem hn
section
variable {P : Program} {w : World} {K : PySem.W.Frag} {mg : Str → Option Value} {base : Heap}
set_option maxHeartbeats 16000000 in
theorem ok__law_rows (T : Txt K mg) : FnOk P w K mg base CX0 4 T.a__law_rows T.fd__law_rows ["_law_draws_here", "_law_at", "_law_exclusive"] (spLRows K) := by
  refine T.F__law_rows.ok sc__law_rows (fun vs H Q E h => ?_) (fun cdv A outer s H vs Q E hr h => ?_)
  · obtain ⟨d, t, ex, rfl, _⟩ := h; rfl
  · obtain ⟨d, t, ex, rfl, D0, q⟩ := h
    refine ⟨_, (pss_cons (ps_set (i := 3) sc__law_rows.nd rfl (.inr rfl) (pe_call (ok__law_marks T) (hr.mono (by omega)) (by rfl) T.g__law_marks T.F__law_marks.kp T.b__law_marks .nil pass0 (pa_cons (pv 0) (pa_cons (pv 1) (pa_cons (pe_ix ix_list (pe_lst (pa_cons (pe_int) (pa_cons (pe_int) (pa_cons (pe_int) pa_nil)))) (pe_call (ok__law_take T) (hr.mono (by omega)) (by rfl) T.g__law_take T.F__law_take.kp T.b__law_take .nil pass0 (pa_cons (pv 0) (pa_cons (pv 1) (pa_cons (pe_int) pa_nil)))) (fun _ _ => rfl)) pa_nil)))))
      (pss_cons (ps_set (i := 4) sc__law_rows.nd rfl (.inl rfl) (pe_lst pa_nil))
      (pss_cons (ps_for PassesOwn.never rfl (pi_range1 (by rfl) T.n_range (pa_cons (pe_callB call_len_seq (by rfl) T.n_len (by decide +kernel) (pa_cons (pv 3) pa_nil)) pa_nil)) (pg_name (i := 5) sc__law_rows.nd rfl (.inr rfl)) (pss_cons (ps_set (i := 6) sc__law_rows.nd rfl (.inr rfl) (pe_ix ix_list (pe_lst (pa_cons (pe_int) (pa_cons (pe_int) (pa_cons (pe_int) (pa_cons (pe_int) (pa_cons (pe_int) (pa_cons (pe_int) (pa_cons (pe_int) (pa_cons (pe_int) (pa_cons (pe_int) pa_nil)))))))))) (pe_call (ok__law_take T) (hr.mono (by omega)) (by rfl) T.g__law_take T.F__law_take.kp T.b__law_take .nil pass0 (pa_cons (pv 0) (pa_cons (pv 1) (pa_cons (pe_int) pa_nil)))) (fun _ _ => rfl)))
      (pss_cons (ps_setLc (i := 7) (own := [("_law_j", 8)]) (g := (gName 8)) (by rfl) sc__law_rows.nd rfl rfl (sw_true rfl rfl rfl (by decide +kernel)) (pi_range1 (by rfl) T.n_range (pa_cons (pe_callB call_len_seq (by rfl) T.n_len (by decide +kernel) (pa_cons (pv 3) pa_nil)) pa_nil)) (blkOk_by (own := [("_law_j", 8)]) (N := ["_law_draws_here", "_law_at", "_law_exclusive", "_law_marks_here", "_law_rows_here", "_law_k", "_law_mask", "_law_parents", "_law_j", "_law_most", "_law_least", "_law_mark", "_law_shared"]) (sc := defScope S__law_rows) (by decide +kernel)) (fun _ _ _ _ _ => (pg_name (i := 8) sc__law_rows.nd rfl (by first | exact .inl rfl | exact .inr rfl))) (fun _ _ _ _ _ => (pts_one (pt_cmpR op_eq (pe_op op_mod (pe_op op_fdiv (pv 6) (pe_ix (ixLK (K := K) rfl) (pe_lst (pa_cons (pe_int) (pa_cons (pe_int) (pa_cons (pe_int) pa_nil)))) (pv 8) (fun _ _ => rfl))) (pe_int)) (pe_int) (nomark _)))) (fun _ _ _ _ _ => (pe_ix (ixLK (K := K) rfl) (pv 3) (pv 8) (fun _ _ => rfl))))
      (pss_cons (ps_set (i := 9) sc__law_rows.nd rfl (.inl rfl) (pe_int))
      (pss_cons (ps_set (i := 10) sc__law_rows.nd rfl (.inl rfl) (pe_int))
      (C8.pss_cut (ps_if (pt_cmpR op_gt (pe_callB call_len_seq (by rfl) T.n_len (by decide +kernel) (pa_cons (pv 7) pa_nil)) (pe_int) (nomark _)) (pss_one (ps_set (i := 9) sc__law_rows.nd rfl (.inl rfl) (pe_ix ix_list (pe_lst (pa_cons (pe_int) (pa_cons (pe_int) (pa_cons (pe_int) (pa_cons (pe_int) pa_nil))))) (pe_call (ok__law_take T) (hr.mono (by omega)) (by rfl) T.g__law_take T.F__law_take.kp T.b__law_take .nil pass0 (pa_cons (pv 0) (pa_cons (pv 1) (pa_cons (pe_int) pa_nil)))) (fun _ _ => rfl)))) pss_nil)
      (C8.pss_cut (ps_if (pt_cmpR op_gt (pe_callB call_len_seq (by rfl) T.n_len (by decide +kernel) (pa_cons (pe_lc (own := [("_law_mark", 11)]) (g := (gName 11)) (by rfl) sc__law_rows.nd (pi_list (pv 7)) (blkOk_by (own := [("_law_mark", 11)]) (N := ["_law_draws_here", "_law_at", "_law_exclusive", "_law_marks_here", "_law_rows_here", "_law_k", "_law_mask", "_law_parents", "_law_j", "_law_most", "_law_least", "_law_mark", "_law_shared"]) (sc := defScope S__law_rows) (by decide +kernel)) (fun _ _ _ _ _ => (pg_name (i := 11) sc__law_rows.nd rfl (by first | exact .inl rfl | exact .inr rfl))) (fun _ _ _ _ _ => (pts_one (pt_cmpR (inK (K := K) rfl) (pv 11) (pe_slice (sl_listK (K := K) rfl) (pv 3) po_none (po_some (pv 5))) (by with_unfolding_all rfl)))) (fun _ _ _ _ _ => (pv 11))) pa_nil)) (pe_int) (nomark _)) (pss_one (ps_set (i := 10) sc__law_rows.nd rfl (.inl rfl) (pe_ix ix_list (pe_lst (pa_cons (pe_int) (pa_cons (pe_int) (pa_cons (pe_int) (pa_cons (pe_int) pa_nil))))) (pe_call (ok__law_take T) (hr.mono (by omega)) (by rfl) T.g__law_take T.F__law_take.kp T.b__law_take .nil pass0 (pa_cons (pv 0) (pa_cons (pv 1) (pa_cons (pe_int) pa_nil)))) (fun _ _ => rfl)))) pss_nil)
      (C8.pss_cut (ps_if (pt_cmpR op_gt (pv 10) (pv 9) (nomark _)) (pss_one (ps_set (i := 10) sc__law_rows.nd rfl (.inl rfl) (pv 9))) pss_nil)
      (C8.pss_cut (ps_set (i := 12) sc__law_rows.nd rfl (.inl rfl) (pe_and (pe_cmpR op_eq (pe_call (ok__law_take T) (hr.mono (by omega)) (by rfl) T.g__law_take T.F__law_take.kp T.b__law_take .nil pass0 (pa_cons (pv 0) (pa_cons (pv 1) (pa_cons (pe_int) pa_nil)))) (pe_int) (nomark _)) (pe_one (pe_not (pv 2)))))
      (pss_one (ps_expr (pe_bm PySem.F.plainAttrs_list PySem.F.slot_list_append PySem.F.type_list_append mt_append (pv 4) (pa_cons (pe_lst (pa_cons (pe_ix ix_list (pv 3) (pv 5) (fun _ _ => rfl)) (pa_cons (pv 7) (pa_cons (pv 10) (pa_cons (pv 9) (pa_cons (pv 12) pa_nil)))))) pa_nil)))))))))))))
      (pss_one (ps_ret (pv 4)))))), ?_⟩
    have big : 100000 < sizeLine := by decide
    refine ⟨_, rfl, _, rfl, by show 3 ≤ sizeLine; decide, fun u0 nu0 => ?_⟩
    have s0 := same_new (o := .lst [.int 2, .int 1, .int 3]) nu0
    refine ⟨_, rfl, _, rfl, d, t, 3, rfl, D0.same s0, by decide, fun r Ha r0 r1 Da ba => ?_⟩
    obtain ⟨z, hz, mz⟩ := int_at (js := [2, 1, 3]) r0 r1
    obtain ⟨n, rfl, n1, n3⟩ : ∃ n : Nat, z = n ∧ 1 ≤ n ∧ n ≤ 3 := by
      simp only [List.mem_cons, List.not_mem_nil, or_false] at mz
      exact ⟨z.toNat, by omega, by omega, by omega⟩
    refine ⟨_, _, _, _, rfl, rfl, SqL.of (ba _ _ (D0.na nu0) upd_same), hz, ?_⟩
    refine ⟨d, t, n, rfl, Da, by omega, fun ms mk Hb lms nms oms Db bb nmk hmk => ?_⟩
    have tb : But t H Hb := ((But.of_same s0).trans ba).trans bb
    have nmt : mk ≠ t := Da.na nmk
    refine ⟨Nat.zero_le _, fun l hl0 => ?_⟩
    have nlt : l ≠ t := Db.na hl0
    have ndl : d ≠ l := Db.nd hl0
    have nml : mk ≠ l := ne_of_none hmk hl0
    have nl0 : H l = none := tb.free nlt hl0
    have s1 := same_new (o := .lst []) hl0
    refine ⟨_, rfl, mk, _, rfl, .inl (SqL.of (s1 _ _ hmk)), ms.length, by rw [List.length_map], by omega, by omega, for_range (lo := 0) (n := ms.length) (fun k σ H' => ∃ (prs : List PRow) (us : List V) (x5 x6 x7 x9 x10 x12 : Option V), σ = [some (.ref d), some (.ref t), some (.bl ex), some (.ref mk), some (.ref l), x5, x6, x7, none, x9, x10, none, x12] ∧ Dr K H' d t ∧ But t H H' ∧ H' mk = some (.lst (ms.map V.str)) ∧ H' l = some (.lst us) ∧ RowsN (fun a => H a = none ∧ a ≠ l) true H' us (prs.map (nameR ms)) ∧ prs.length = k ∧ ∀ j r, prs[j]? = some r → PrOk ms.length j r ∧ r.most ≤ 3)
      ⟨[], [], _, _, _, _, _, _, rfl, Db.same s1, tb.trans (But.of_same s1), s1 _ _ hmk, upd_same, .nil, rfl, fun j r h => by simp at h⟩ ?_ ?_⟩
    rotate_left
    · rintro σ H2 ⟨prs, us, x5, x6, x7, x9, x10, x12, rfl, D2, b2, hmk2, hl2, pv, lk, ok⟩
      exact ⟨_, rfl, q ms prs us l H2 ⟨lk, fun j r h => (ok j r h).1⟩ (fun r hr => (by obtain ⟨j, hj⟩ := List.mem_iff_getElem?.mp hr; exact (ok j r hj).2)) (by omega) (by omega) nms oms D2 b2 nl0 hl2 (rowsN_sub pv fun a f => f.1)⟩
    rintro k σ H2 hk ⟨prs, us, x5, x6, x7, x9, x10, x12, rfl, D2, b2, hmk2, hl2, pv, lk, ok⟩
    rw [Int.zero_add]
    have up : ∀ {H3 : Hp}, But t H2 H3 → But t H H3 ∧ H3 mk = some (.lst (ms.map V.str)) ∧ H3 l = some (.lst us) ∧ RowsN (fun a => H a = none ∧ a ≠ l) true H3 us (prs.map (nameR ms)) := fun b3 => ⟨b2.trans b3, b3 _ _ nmt hmk2, b3 _ _ nlt hl2, rowsN_le pv fun a o f e => b3 _ _ (D0.na f.1) e⟩
    -- the mask
    refine ⟨by show 9 ≤ sizeLine; decide, fun u1 nu1 => ?_⟩
    have s2 := same_new (o := .lst [.int 7, .int 1, .int 2, .int 3, .int 5, .int 6, .int 7, .int 4, .int 0]) nu1
    refine ⟨_, rfl, _, rfl, d, t, 9, rfl, D2.same s2, by decide, fun r H3 r0 r1 D3 b3 => ?_⟩
    obtain ⟨mask, hmask, _⟩ := int_at (js := [7, 1, 2, 3, 5, 6, 7, 4, 0]) r0 r1
    refine ⟨_, _, _, _, rfl, rfl, SqL.of (b3 _ _ (D2.na nu1) upd_same), hmask, ?_⟩
    have b3 := (But.of_same (a := t) s2).trans b3
    obtain ⟨_, hmk3, _, _⟩ := up b3
    -- the parents
    refine ⟨_, rfl, mk, _, rfl, .inl (SqL.of hmk3), _, rfl, by omega, by rw [List.length_map]; omega, fun D hD => ?_⟩
    rw [List.length_map]
    refine lc_range (lo := 0) (n := ms.length) (fun i H' => ∃ js : List Int, Same H3 H' ∧ H' D = some (.lst ((js.map (nm ms)).map V.str)) ∧ listOk i js) ⟨[], same_new hD, upd_same, List.nodup_nil, fun j h => by cases h⟩ ?_ ?_
    · rintro i H4 hi ⟨js, s4, h4, lo⟩
      rw [Int.zero_add]
      obtain ⟨z, hz, z0, z4⟩ : ∃ z : Int, atI [V.int 1, .int 2, .int 4] ((i : Nat) : Int) = some (.int z) ∧ 0 < z ∧ z ≤ 4 := by
        match i, (show i < 3 by omega) with
        | 0, _ => exact ⟨1, rfl, by decide, by decide⟩
        | 1, _ => exact ⟨2, rfl, by decide, by decide⟩
        | 2, _ => exact ⟨4, rfl, by decide, by decide⟩
      refine ⟨rfl, _, rfl, by show 3 ≤ sizeLine; decide, fun u nu => ?_⟩
      have s5 := s4.trans (same_new (o := .lst [.int 1, .int 2, .int 4]) nu)
      have h5 := same_new (o := .lst [.int 1, .int 2, .int 4]) nu _ _ h4
      have hu : (upd H4 u (.lst [.int 1, .int 2, .int 4])) u = some (.lst [.int 1, .int 2, .int 4]) := upd_same
      revert s5 h5 hu
      generalize upd H4 u (.lst [.int 1, .int 2, .int 4]) = H5
      intro s5 h5 hu
      refine ⟨_, rfl, _, _, _, _, rfl, rfl, SqL.of hu, hz, _, _, rfl, rfl, ⟨z0, by omega⟩, _, _, rfl, rfl, (show (0 : Int) < 2 by decide), rfl, _, rfl, iteD (fun c => ?_) (fun c => ?_)⟩
      · have nd : js.length ≤ i := lst_len lo
        refine ⟨_, rfl, _, rfl, _, _, _, _, rfl, rfl, SqL.of (s5 _ _ hmk3), nm_at (by omega) (by omega), _, h5, by rw [List.length_map, List.length_map]; omega, js ++ [(i : Int)], same_mut s5 hD, by rw [upd_same, List.map_append, List.map_append]; rfl, ?_, ?_⟩
        · rw [List.nodup_append]
          exact ⟨lo.1, by simp, fun a ha b hb e => by rw [List.mem_singleton] at hb; have := lo.2 a ha; omega⟩
        · intro j hj
          rcases List.mem_append.mp hj with hj | hj
          · have := lo.2 j hj; omega
          · rw [List.mem_singleton.mp hj]; omega
      · exact ⟨js, s5, h5, lo.1, fun j hj => by have := lo.2 j hj; omega⟩
    rintro H4 ⟨js, s4, hD4, lo⟩
    have D4 := D3.same s4
    have b4 : But t H2 H4 := b3.trans (But.of_same s4)
    have nDt : D ≠ t := D3.na hD
    obtain ⟨_, _, hl3, _⟩ := up b3
    have nDl : D ≠ l := (ne_of_none hl3 hD).symm
    have nD0 : H D = none := (b2.trans b3).free nDt hD
    have lj := lst_len lo
    have ljs : ((js.map (nm ms)).map V.str).length = js.length := by rw [List.length_map, List.length_map]
    -- most
    refine ⟨fun σ' H' => ∃ (m : Int), σ' = [some (.ref d), some (.ref t), some (.bl ex), some (.ref mk), some (.ref l), some (.int k), some (.int mask), some (.ref D), none, some (.int m), some (.int 0), none, x12] ∧ Dr K H' d t ∧ But t H2 H' ∧ H' D = some (.lst ((js.map (nm ms)).map V.str)) ∧ 0 ≤ m ∧ m ≤ 3 ∧ (0 < m ↔ js ≠ []), ?_, ?_⟩
    · refine ⟨_, rfl, D, _, rfl, .inl (SqL.of hD4), _, _, rfl, rfl, _, rfl, iteD (fun c => ?_) (fun c => ?_)⟩
      · rw [ljs] at c
        refine ⟨by show 4 ≤ sizeLine; decide, fun u nu => ?_⟩
        have s5 := same_new (o := .lst [.int 1, .int 2, .int 3, .int 1]) nu
        refine ⟨_, rfl, _, rfl, d, t, 4, rfl, D4.same s5, by decide, fun r H5 r0 r1 D5 b5 => ?_⟩
        obtain ⟨m, hm, mm⟩ := int_at (js := [1, 2, 3, 1]) r0 r1
        simp only [List.mem_cons, List.not_mem_nil, or_false] at mm
        refine ⟨_, _, _, _, rfl, rfl, SqL.of (b5 _ _ (D4.na nu) upd_same), hm, ?_⟩
        refine ⟨m, rfl, D5, (b4.trans (But.of_same s5)).trans b5, b5 _ _ nDt (s5 _ _ hD4), by omega, by omega, fun _ z => ?_, fun _ => by omega⟩
        rw [z] at c; simp at c
      · rw [ljs] at c
        have e : js = [] := by
          cases js with
          | nil => rfl
          | cons a r => exact absurd (by simp) c
        exact ⟨0, rfl, D4, b4, hD4, Int.le_refl _, by decide, fun z => absurd z (by decide), fun z => absurd e z⟩
    rintro σ' H5 ⟨m, rfl, D5, b5, hD5, m0, m4, mj⟩
    obtain ⟨_, hmk5, _, _⟩ := up b5
    -- least
    refine ⟨fun σ' H' => ∃ (m2 : Int), σ' = [some (.ref d), some (.ref t), some (.bl ex), some (.ref mk), some (.ref l), some (.int k), some (.int mask), some (.ref D), none, some (.int m), some (.int m2), none, x12] ∧ Dr K H' d t ∧ But t H2 H' ∧ H' D = some (.lst ((js.map (nm ms)).map V.str)) ∧ 0 ≤ m2 ∧ (m2 ≠ 0 → ∃ j ∈ js, j < (k : Int)), ?_, ?_⟩
    · refine ⟨_, rfl, D, rfl, ⟨_, SqL.of hD5⟩, fun D' hD' => lc_list (K := K) (a := D) (xs := (js.map (nm ms)).map V.str) (fun i H' => ∃ fs, Same H5 H' ∧ H' D' = some (.lst fs) ∧ fs.length ≤ i ∧ (fs ≠ [] → ∃ j ∈ js, j < (k : Int))) ⟨[], same_new hD', upd_same, Nat.le_refl _, fun h => absurd rfl h⟩ (fun i H' _ ⟨_, s, _⟩ => SqL.of (s _ _ hD5)) ?_ ?_⟩
      · rintro i v H6 hv ⟨fs, s6, h6, lf, pf⟩
        rw [List.getElem?_map, List.getElem?_map] at hv
        obtain ⟨j, hj⟩ : ∃ j, js[i]? = some j := by
          cases e : js[i]? with
          | none => rw [e] at hv; cases hv
          | some j => exact ⟨j, rfl⟩
        rw [hj] at hv
        obtain rfl := Option.some.inj hv
        have mjs := List.mem_of_getElem? hj
        have oj := lo.2 j mjs
        have hi := (List.getElem?_eq_some_iff.mp hj).1
        refine ⟨rfl, _, rfl, _, rfl, _, rfl, _, rfl, mk, _, rfl, SqL.of (s6 _ _ hmk5), fun c hc => ?_⟩
        have ct : cutV (ms.map V.str) none (some ((k : Nat) : Int)) = (ms.take k).map V.str := by rw [cut_to, List.map_take]
        have s7 := s6.trans (same_new (o := .lst (cutV (ms.map V.str) none (some ((k : Nat) : Int)))) hc)
        refine ⟨_, _, rfl, .inl (SqL.of upd_same), rfl, by rw [ct]; exact flat_strs _, ?_⟩
        rw [show (if false = true then !inV (V.str (nm ms j)) (cutV (ms.map V.str) none (some ((k : Nat) : Int))) else inV (V.str (nm ms j)) (cutV (ms.map V.str) none (some ((k : Nat) : Int)))) = decide (nm ms j ∈ ms.take k) by rw [if_neg Bool.false_ne_true, ct, in_strs]]
        refine ⟨_, rfl, iteD (fun m => ?_) (fun m => ?_)⟩
        · exact ⟨_, rfl, _, (same_new hc _ _ h6), by omega, fs ++ [.str (nm ms j)], same_mut s7 hD', upd_same, by rw [List.length_append]; simp; omega, fun _ => ⟨j, mjs, nm_take nms oj.1 oj.2 m⟩⟩
        · exact ⟨fs, s7, same_new hc _ _ h6, by omega, pf⟩
      · rintro H6 ⟨fs, s6, h6, lf, pf⟩
        refine ⟨D', _, rfl, .inl (SqL.of h6), _, _, rfl, rfl, _, rfl, iteD (fun c => ?_) (fun c => ?_)⟩
        · have ex2 := pf fun z => by rw [z] at c; simp at c
          have D6 := D5.same s6
          refine ⟨by show 4 ≤ sizeLine; decide, fun u hu => ?_⟩
          have s7 := same_new (o := .lst [.int 0, .int 0, .int 1, .int 2]) hu
          refine ⟨_, rfl, _, rfl, d, t, 4, rfl, D6.same s7, by decide, fun r H8 r0 r1 D8 b8 => ?_⟩
          obtain ⟨m2, hm2, mm2⟩ := int_at (js := [0, 0, 1, 2]) r0 r1
          simp only [List.mem_cons, List.not_mem_nil, or_false] at mm2
          refine ⟨_, _, _, _, rfl, rfl, SqL.of (b8 _ _ (D6.na hu) upd_same), hm2, ?_⟩
          exact ⟨m2, rfl, D8, ((b5.trans (But.of_same s6)).trans (But.of_same s7)).trans b8, b8 _ _ nDt (s7 _ _ (s6 _ _ hD5)), by omega, fun _ => ex2⟩
        · exact ⟨0, rfl, D5.same s6, b5.trans (But.of_same s6), s6 _ _ hD5, Int.le_refl _, fun z => absurd rfl z⟩
    rintro σ' H6 ⟨m2, rfl, D6, b6, hD6, z0, zl⟩
    refine ⟨fun σ' H' => ∃ (m3 : Int), H' = H6 ∧ σ' = [some (.ref d), some (.ref t), some (.bl ex), some (.ref mk), some (.ref l), some (.int k), some (.int mask), some (.ref D), none, some (.int m), some (.int m3), none, x12] ∧ 0 ≤ m3 ∧ m3 ≤ m ∧ (m3 ≠ 0 → ∃ j ∈ js, j < (k : Int)), ?_, ?_⟩
    · refine ⟨_, rfl, _, rfl, _, _, rfl, rfl, _, rfl, iteD (fun c => ?_) (fun c => ?_)⟩
      · exact ⟨_, rfl, m, rfl, rfl, m0, Int.le_refl _, fun _ => zl (by omega)⟩
      · exact ⟨m2, rfl, rfl, z0, by omega, zl⟩
    rintro σ' H7 ⟨m3, rfl, rfl, z0, z1, zl⟩
    refine ⟨fun σ' H' => ∃ (sh : Bool), σ' = [some (.ref d), some (.ref t), some (.bl ex), some (.ref mk), some (.ref l), some (.int k), some (.int mask), some (.ref D), none, some (.int m), some (.int m3), none, some (.bl sh)] ∧ Dr K H' d t ∧ But t H2 H' ∧ H' D = some (.lst ((js.map (nm ms)).map V.str)), ?_, ?_⟩
    · refine ⟨_, rfl, _, rfl, d, t, 3, rfl, D6, by decide, fun r H8 _ _ D8 b8 => ⟨rfl, _, rfl, ?_⟩⟩
      have e8 := b8 _ _ nDt hD6
      exact iteD (fun _ => ⟨_, rfl, _, rfl, _, rfl, D8, b6.trans b8, e8⟩) (fun _ => ⟨_, rfl, D8, b6.trans b8, e8⟩)
    rintro σ' H8 ⟨sh, rfl, D8, b8, hD8⟩
    obtain ⟨b8', hmk8, hl8, pv8⟩ := up b8
    refine ⟨_, rfl, .inl ⟨rfl, _, SqL.of hl8⟩, _, rfl, _, rfl, _, _, _, _, rfl, rfl, SqL.of hmk8, nm_at (by omega) (by omega), _, rfl, _, rfl, _, rfl, _, rfl, by show 5 ≤ sizeLine; decide, fun u hu => ?_⟩
    have s9 := same_new (o := .lst [.str (nm ms (k : Nat)), .ref D, .int m3, .int m, .bl sh]) hu
    have nul : l ≠ u := ne_of_none hl8 hu
    have nut := D8.na hu
    have nu0' : H u = none := b8'.free nut hu
    have lus : us.length = k := by rw [pair_len' pv, List.length_map, lk]
    refine ⟨_, _, _, rfl, rfl, s9 _ _ hl8, by omega, ?_⟩
    refine ⟨prs ++ [⟨k, js, m3, m, sh⟩], us ++ [.ref u], _, _, _, _, _, _, rfl, (D8.same s9).other But.upd ndl nlt.symm, (b8'.trans (But.of_same s9)).mut nl0, by rw [upd_ne nml]; exact s9 _ _ hmk8, upd_same, ?_, by rw [List.length_append, lk]; rfl, ?_⟩
    · rw [List.map_append]
      refine pair_app' (rowsN_le pv8 fun a o f e => by rw [upd_ne f.2]; exact s9 _ _ e) (.cons ⟨u, D, rfl, ⟨nu0', nul.symm⟩, ⟨nD0, nDl⟩, ?_, ?_⟩ .nil)
      · rw [upd_ne nul.symm]; exact upd_same
      · rw [upd_ne nDl]; exact s9 _ _ hD8
    · intro j r h
      rw [List.getElem?_append] at h
      split at h
      · exact ok j r h
      · rename_i c
        rw [lk] at h c
        obtain rfl : j = k := by
          have := (List.getElem?_eq_some_iff.mp h).1
          simp at this; omega
        simp at h
        subst h
        exact ⟨⟨rfl, lo, z0, z1, by show m ≤ 4; omega, mj, zl⟩, m4⟩
end
end My

namespace My
open PySem L2
def spLShape (C : Addr) : Sp := fun vs H Q _ => ∃ (a : Addr) (us : List V) (rs : List Row), vs = [.ref a] ∧ H a = some (.lst us) ∧ RowsN (fun _ => True) true H us rs ∧ 1 ≤ us.length ∧ us.length ≤ 3 ∧ GoodC rs ∧
  ∀ x H', Same H H' → H x = none → ShN (fun a => H a = none) C H' x rs → Q (.ref x) H'
section
variable {w : World} {K : PySem.W.Frag} {mg : Str → Option Value} {base : Heap}
theorem ok__law_shape (T : Txt K mg) : FnOk PP w K mg base CX0 7 T.a__law_shape T.fd__law_shape ["_law_rows_here"] (spLShape T.c_Shape) := by
  refine T.F__law_shape.ok sc__law_shape (fun vs H Q E h => ?_) (fun cdv A outer s H vs Q E hr h => ?_)
  · obtain ⟨a, us, rs, rfl, _⟩ := h; rfl
  · obtain ⟨a, us, rs, rfl, ha, hR, l1, l3, g, q⟩ := h
    refine ⟨_, (pss_cons (ps_setLc (i := 1) (own := [("_law_row", 2)]) (g := (gName 2)) (by rfl) sc__law_shape.nd rfl rfl (sw_true rfl rfl rfl (by decide +kernel)) (pi_list (pv 0)) (blkOk_by (own := [("_law_row", 2)]) (N := ["_law_rows_here", "_law_made", "_law_row"]) (sc := defScope S__law_shape) (by decide +kernel)) (fun _ _ _ _ _ => (pg_name (i := 2) sc__law_shape.nd rfl (by first | exact .inl rfl | exact .inr rfl))) (fun _ _ _ _ _ => pts_nil) (fun _ _ _ _ _ => (pe_tup (pa_cons (pe_ix (ixLK (K := K) rfl) (pv 2) (pe_int) (fun _ _ => rfl)) (pa_cons (pe_callTy (tupleK (K := K) rfl) (by rfl) T.n_tuple (by decide +kernel) (pa_cons (pe_ix (ixLK (K := K) rfl) (pv 2) (pe_int) (fun _ _ => rfl)) pa_nil)) (pa_cons (pe_ix (ixLK (K := K) rfl) (pv 2) (pe_int) (fun _ _ => rfl)) (pa_cons (pe_ix (ixLK (K := K) rfl) (pv 2) (pe_int) (fun _ _ => rfl)) (pa_cons (pe_ix (ixLK (K := K) rfl) (pv 2) (pe_int) (fun _ _ => rfl)) pa_nil))))))))
      (pss_cons (ps_if (pt_cmpR op_eq (pe_callB call_len_seq (by rfl) T.n_len (by decide +kernel) (pa_cons (pv 1) pa_nil)) (pe_int) (nomark _)) (pss_one (ps_ret (StX.pe_makeR T.mk_Shape ((ok_Shape_init T).calm) (hr.mono (by omega)) (by rfl) T.g_Shape pass0 (pa_cons (pe_ix ix_list (pv 1) (pe_int) (fun _ _ => rfl)) pa_nil)))) pss_nil)
      (pss_cons (ps_if (pt_cmpR op_eq (pe_callB call_len_seq (by rfl) T.n_len (by decide +kernel) (pa_cons (pv 1) pa_nil)) (pe_int) (nomark _)) (pss_one (ps_ret (StX.pe_makeR T.mk_Shape ((ok_Shape_init T).calm) (hr.mono (by omega)) (by rfl) T.g_Shape pass0 (pa_cons (pe_ix ix_list (pv 1) (pe_int) (fun _ _ => rfl)) (pa_cons (pe_ix ix_list (pv 1) (pe_int) (fun _ _ => rfl)) pa_nil))))) pss_nil)
      (pss_one (ps_ret (StX.pe_makeR T.mk_Shape ((ok_Shape_init T).calm) (hr.mono (by omega)) (by rfl) T.g_Shape pass0 (pa_cons (pe_ix ix_list (pv 1) (pe_int) (fun _ _ => rfl)) (pa_cons (pe_ix ix_list (pv 1) (pe_int) (fun _ _ => rfl)) (pa_cons (pe_ix ix_list (pv 1) (pe_int) (fun _ _ => rfl)) pa_nil))))))))), ?_⟩
    have big : 100000 < sizeLine := by decide
    have lu := pair_len' hR
    refine ⟨_, rfl, a, rfl, ⟨_, SqL.of ha⟩, fun D hD => lc_list (K := K) (a := a) (xs := us) (fun i H' => ∃ ws, Same H H' ∧ H' D = some (.lst ws) ∧ RowsN (fun x => H x = none ∧ x ≠ D) false H' ws (rs.take i)) ⟨[], same_new hD, upd_same, .nil⟩ (fun i H' _ ⟨_, s, _⟩ => SqL.of (s _ _ ha)) ?_ ?_⟩
    · rintro i v H1 hv ⟨ws, s1, h1, rw1⟩
      obtain ⟨r, hr, p, pp, rfl, _, _, hp, hpp⟩ := pair_get' hR hv
      have hi := (List.getElem?_eq_some_iff.mp hr).1
      have hp : H p = some (.lst (rowL r pp)) := hp
      have hpp : H pp = some (.lst (r.pars.map V.str)) := hpp
      have hp1 := s1 _ _ hp
      have hpp1 := s1 _ _ hpp
      refine ⟨rfl, ?_⟩
      unfold tYes
      refine iteT ⟨_, rfl, _, _, _, _, rfl, rfl, SqL.of hp1, atI_nat (j := 0) rfl, ?_⟩
      refine ⟨_, rfl, _, _, _, _, rfl, rfl, SqL.of hp1, atI_nat (j := 1) rfl, pp, _, rfl, .inl ⟨SqL.of hpp1, fun E hE => ?_⟩⟩
      have s2 := same_new (o := .tup (r.pars.map V.str)) hE
      have hp2 := s2 _ _ hp1
      refine ⟨_, rfl, _, _, _, _, rfl, rfl, SqL.of hp2, atI_nat (j := 2) rfl, _, rfl, _, _, _, _, rfl, rfl, SqL.of hp2, atI_nat (j := 3) rfl, _, rfl, _, _, _, _, rfl, rfl, SqL.of hp2, atI_nat (j := 4) rfl, by show 5 ≤ sizeLine; decide, fun u hu => ?_⟩
      have s3 := s2.trans (same_new (o := .tup [.str r.mark, .ref E, .int r.least, .int r.most, .bl r.sh]) hu)
      have nuD : u ≠ D := (ne_of_none (s2 _ _ h1) hu).symm
      have nED : E ≠ D := (ne_of_none h1 hE).symm
      have lw : ws.length = i := by rw [pair_len' rw1, List.length_take]; omega
      have huE : E ≠ u := ne_of_none upd_same hu
      refine ⟨_, s3 _ _ h1, by omega, ws ++ [.ref u], same_mut (s1.trans s3) hD, upd_same, ?_⟩
      rw [List.take_succ, hr]
      refine pair_app' (rowsN_le rw1 fun x o f e => by rw [upd_ne f.2]; exact s3 _ _ e) (.cons ⟨u, E, rfl, ⟨(s1.trans s2).free hu, nuD⟩, ⟨s1.free hE, nED⟩, by rw [upd_ne nuD]; exact upd_same, by rw [upd_ne nED, upd_ne huE]; exact upd_same⟩ .nil)
    rintro H1 ⟨ws, s1, h1, rw1⟩
    rw [lu, List.take_length] at rw1
    have lw := pair_len' rw1
    have sm : ∀ r ∈ rs, small r := fun r hr => by have := g.bnd r hr; exact ⟨by omega, by omega⟩
    have fin : ∀ x H', Same H1 H' → H1 x = none → ShN (fun a => H1 a = none) T.c_Shape H' x rs → Q (.ref x) H' := fun x H' s n S => q x H' (s1.trans s) (s1.free n) (S.sub fun a f => s1.free f)
    have lw1 : 1 ≤ ws.length := by omega
    have lw3 : ws.length ≤ 3 := by omega
    clear lu l1 l3 lw
    rcases ws with _ | ⟨v0, ws⟩
    · simp at lw1
    rcases ws with _ | ⟨v1, ws⟩
    · refine ⟨_, rfl, D, _, rfl, .inl (SqL.of h1), rfl, _, rfl, iteYes (decide_eq_true rfl) ?_⟩
      exact ⟨_, rfl, _, _, _, _, rfl, rfl, SqL.of h1, atI_nat (j := 0) rfl, make_sh (rowsN_toV rw1) (by simp) sm (fun _ => fin) (fun e c v f du => (due_good g.g du).elim)⟩
    rcases ws with _ | ⟨v2, ws⟩
    · refine ⟨_, rfl, D, _, rfl, .inl (SqL.of h1), rfl, _, rfl, iteNo (decide_eq_false fun z => by simp at z) ⟨_, rfl, D, _, rfl, .inl (SqL.of h1), rfl, _, rfl, iteYes (decide_eq_true rfl) ?_⟩⟩
      exact ⟨_, rfl, _, _, _, _, rfl, rfl, SqL.of h1, atI_nat (j := 0) rfl, _, rfl, _, _, _, _, rfl, rfl, SqL.of h1, atI_nat (j := 1) rfl, make_sh (rowsN_toV rw1) (by simp) sm (fun _ => fin) (fun e c v f du => (due_good g.g du).elim)⟩
    obtain rfl : ws = [] := by cases ws with | nil => rfl | cons => simp at lw3
    refine ⟨_, rfl, D, _, rfl, .inl (SqL.of h1), rfl, _, rfl, iteNo (decide_eq_false fun z => by simp at z) ⟨_, rfl, D, _, rfl, .inl (SqL.of h1), rfl, _, rfl, iteNo (decide_eq_false fun z => by simp at z) ?_⟩⟩
    exact ⟨_, rfl, _, _, _, _, rfl, rfl, SqL.of h1, atI_nat (j := 0) rfl, _, rfl, _, _, _, _, rfl, rfl, SqL.of h1, atI_nat (j := 1) rfl, _, rfl, _, _, _, _, rfl, rfl, SqL.of h1, atI_nat (j := 2) rfl, make_sh (rowsN_toV rw1) (by simp) sm (fun _ => fin) (fun e c v f du => (due_good g.g du).elim)⟩
end
end My

namespace My
open PySem L2
/-! ### the levels -/
def lev : List Str := ["none", "one", "most", "all"]
def levV : List V := [.str "none", .str "one", .str "most", .str "all"]
theorem levV_eq : levV = lev.map V.str := rfl
theorem lev_nd : lev.Nodup := by decide +kernel
theorem lev_inj {i j : Nat} {z : Str} (h : lev[i]? = some z) (h' : lev[j]? = some z) : i = j := nd_ix lev_nd h h'
theorem lev_lt {i : Nat} {z : Str} (h : lev[i]? = some z) : i < 4 := (List.getElem?_eq_some_iff.mp h).1
/-- what level i asks of n parents -/
def need (i : Nat) (n : Int) : Int := if i = 0 then 0 else if i = 1 then 1 else if i = 2 then n / 2 + 1 else if n > 1 then n else 1
/-- the place of a word, or -1 -/
def placeOf (z : Str) : Int := if z = "none" then 0 else if z = "one" then 1 else if z = "most" then 2 else if z = "all" then 3 else -1
theorem place_lev {i : Nat} {z : Str} (h : lev[i]? = some z) : placeOf z = i := by
  have hi := lev_lt h
  rcases (by omega : i = 0 ∨ i = 1 ∨ i = 2 ∨ i = 3) with rfl | rfl | rfl | rfl
  all_goals (obtain rfl : _ = z := Option.some.inj h; decide +kernel)
theorem lev_at {i : Nat} (h : i < 4) : ∃ z, lev[i]? = some z := ⟨lev[i]'h, List.getElem?_eq_getElem h⟩
def permB (a b c : Nat) (e : Bool) (h o s n : Int) (l : Bool) : Bool := !(e && l) && (decide (need a n ≤ h) && (decide (need b n ≤ o) && decide (need c n ≤ s)))
end My

namespace My
open PySem L2
/-- rank of a level -/
def spRank : Sp := fun vs H Q _ => ∃ (z : Str) (i : Nat), vs = [.str z] ∧ lev[i]? = some z ∧ ∀ H', Same H H' → Q (.int i) H'
section
variable {P : Program} {w : World} {K : PySem.W.Frag} {mg : Str → Option Value} {base : Heap}
theorem ok_rank (T : Txt K mg) : FnOk P w K mg base CX0 1 T.a_rank T.fd_rank ["level"] spRank := by
  refine T.F_rank.ok sc_rank (fun vs H Q E h => ?_) (fun cdv A outer s H vs Q E hr h => ?_)
  · obtain ⟨z, i, rfl, _⟩ := h; rfl
  · obtain ⟨z, i, rfl, hi, q⟩ := h
    refine ⟨_, (pss_cons (ps_for PassesOwn.never rfl (pi_enumT (by rfl) T.n_enumerate (pa_cons (pe_glob (v := .ref T.k_LEVELS) (by rfl) T.g_LEVELS rfl) pa_nil)) (pg_tup rfl (pgs_cons (pg_name (i := 1) sc_rank.nd rfl (.inl rfl)) (pgs_cons (pg_name (i := 2) sc_rank.nd rfl (.inl rfl)) pgs_nil))) (pss_one (ps_if (pt_cmpR op_eq (pv 2) (pv 0) (nomark _)) (pss_one (ps_ret (pv 1))) pss_nil)))
      (pss_one (ps_never))), ?_⟩
    refine ⟨T.k_LEVELS, levV, rfl, T.q_LEVELS _, for_enumT (K := K) (a := T.k_LEVELS) (xs := levV) (fun j σ H' => ∃ x1 x2, σ = [some (.str z), x1, x2] ∧ Same H H' ∧ ∀ l, l < j → l ≠ i) ⟨_, _, rfl, Same.refl H, fun l h => absurd h (Nat.not_lt_zero _)⟩ (fun _ _ H' _ _ => T.q_LEVELS H') ?_ ?_⟩
    · rintro j x σ H1 t hx ⟨x1, x2, rfl, s1, ne⟩ ht
      rw [levV_eq, List.getElem?_map] at hx
      cases e : lev[j]? with
      | none => rw [e] at hx; cases hx
      | some y =>
        rw [e] at hx
        obtain rfl : V.str y = x := Option.some.inj hx
        have s2 : Same H1 (upd H1 t (.tup [.int j, .str y])) := same_new ht
        refine ⟨t, _, rfl, .inl (.inl upd_same), rfl, _, _, rfl, _, _, rfl, rfl, ?_⟩
        refine ⟨_, rfl, _, rfl, rfl, _, rfl, ?_⟩
        refine iteD (fun c => ?_) (fun c => ?_)
        · have ey : y = z := V.str.inj c
          subst ey
          obtain rfl := lev_inj e hi
          exact ⟨_, rfl, q _ (s1.trans s2)⟩
        · refine ⟨_, _, rfl, s1.trans s2, fun l hl => ?_⟩
          rcases Nat.lt_succ_iff_lt_or_eq.mp hl with h | h
          · exact ne l h
          · subst h
            exact fun h => c (by rw [← h, e] at hi; rw [Option.some.inj hi])
    · rintro σ H1 ⟨x1, x2, rfl, s1, ne⟩
      exact ne i (lev_lt hi) rfl
end
end My

namespace My
open PySem L2
/-! ### ways -/
def levn (i : Nat) : Str := lev.getD i ""
theorem levn_get {i : Nat} (h : i < 4) : lev[i]? = some (levn i) := by
  unfold levn
  rw [List.getD_eq_getElem?_getD, List.getElem?_eq_getElem (by exact h)]
  rfl
theorem levV_at {i : Nat} (h : i < 4) : levV[i]? = some (.str (levn i)) := by rw [levV_eq, List.getElem?_map, levn_get h]; rfl
theorem levn_inj {i j : Nat} (hi : i < 4) (hj : j < 4) (h : levn i = levn j) : i = j := lev_inj (levn_get hi) (h ▸ levn_get hj)
def wayF (a b c : Nat) (e : Bool) : List (Str × V) := [("held", .str (levn a)), ("owned", .str (levn b)), ("seen", .str (levn c)), ("early", .bl e)]
theorem putF_len (f : Str) (v : V) : ∀ fs : List (Str × V), (putF f v fs).length ≤ fs.length + 1
  | [] => Nat.le_refl _
  | (g, x) :: r => by
    simp only [putF]
    split
    · exact Nat.le_succ _
    · rw [List.length_cons, List.length_cons]
      exact Nat.succ_le_succ (putF_len f v r)
theorem wayF_put (a b c : Nat) (e : Bool) : putF "early" (.bl e) (putF "seen" (.str (levn c)) (putF "owned" (.str (levn b)) (putF "held" (.str (levn a)) []))) = wayF a b c e := by
  simp only [putF]
  rw [if_neg (by decide +kernel : ¬ ("held" : Str) = "owned")]
  simp only [putF]
  rw [if_neg (by decide +kernel : ¬ ("held" : Str) = "seen"), if_neg (by decide +kernel : ¬ ("owned" : Str) = "seen")]
  simp only [putF]
  rw [if_neg (by decide +kernel : ¬ ("held" : Str) = "early"), if_neg (by decide +kernel : ¬ ("owned" : Str) = "early"), if_neg (by decide +kernel : ¬ ("seen" : Str) = "early")]
  rfl
theorem wayF_held (a b c : Nat) (e : Bool) : (wayF a b c e).lookup ("held" : Str) = some (.str (levn a)) := by rw [← wayF_put, lookup_putF, if_neg (by decide +kernel), lookup_putF, if_neg (by decide +kernel), lookup_putF, if_neg (by decide +kernel), lookup_putF, if_pos rfl]
theorem wayF_owned (a b c : Nat) (e : Bool) : (wayF a b c e).lookup ("owned" : Str) = some (.str (levn b)) := by rw [← wayF_put, lookup_putF, if_neg (by decide +kernel), lookup_putF, if_neg (by decide +kernel), lookup_putF, if_pos rfl]
theorem wayF_seen (a b c : Nat) (e : Bool) : (wayF a b c e).lookup ("seen" : Str) = some (.str (levn c)) := by rw [← wayF_put, lookup_putF, if_neg (by decide +kernel), lookup_putF, if_pos rfl]
theorem wayF_early (a b c : Nat) (e : Bool) : (wayF a b c e).lookup ("early" : Str) = some (.bl e) := by rw [← wayF_put, lookup_putF, if_pos rfl]
theorem wayF_no (a b c : Nat) (e : Bool) {m : Str} (h1 : ¬ m = "early") (h2 : ¬ m = "seen") (h3 : ¬ m = "owned") (h4 : ¬ m = "held") : (wayF a b c e).lookup m = none := by
  rw [← wayF_put, lookup_putF, if_neg h1, lookup_putF, if_neg h2, lookup_putF, if_neg h3, lookup_putF, if_neg h4]; rfl
/-- a way of the class at C stands at x -/
def Wy (C : Addr) (H : Hp) (x : Addr) (a b c : Nat) (e : Bool) : Prop := ∃ dx, H x = some (.ins C dx (wayF a b c e))
theorem Wy.same {C : Addr} {H H' : Hp} {x : Addr} {a b c : Nat} {e : Bool} (h : Wy C H x a b c e) (s : Same H H') : Wy C H' x a b c e := h.elim fun dx h => ⟨dx, s _ _ h⟩
theorem Wy.but {C : Addr} {H H' : Hp} {x y : Addr} {a b c : Nat} {e : Bool} (h : Wy C H x a b c e) (s : But y H H') (n : x ≠ y) : Wy C H' x a b c e := h.elim fun dx h => ⟨dx, s _ _ n h⟩
def spWayInit (C : Addr) : Sp := fun vs H Q _ => ∃ (x dx : Addr) (a b c : Nat) (e : Bool), vs = [.ref x, .str (levn a), .str (levn b), .str (levn c), .bl e] ∧ a < 4 ∧ b < 4 ∧ c < 4 ∧ H x = some (.ins C dx []) ∧
  ∀ H', But x H H' → H' x = some (.ins C dx (wayF (max a b) b (max c (max a b)) e)) → Q .non H'
section
variable {P : Program} {w : World} {K : PySem.W.Frag} {mg : Str → Option Value} {base : Heap}
theorem ok_Way_init (T : Txt K mg) : FnOk P w K mg base CX0 2 T.a_Way_init T.fd_Way_init ["self", "held", "owned", "seen", "early"] (spWayInit T.c_Way) := by
  refine T.F_Way_init.ok0 sc_Way_init (fun vs H Q E h => ?_) (fun cdv A outer s H vs Q E hr h => ?_)
  · obtain ⟨x, dx, a, b, c, e, rfl, _⟩ := h; rfl
  · obtain ⟨x, dx, a, b, c, e, rfl, ha, hb, hc, hx, q⟩ := h
    refine ⟨_, (pss_cons (ps_set (i := 5) sc_Way_init.nd rfl (.inl rfl) (pe_call (ok_rank T) (hr.mono (by omega)) (by rfl) T.g_rank T.F_rank.kp T.b_rank .nil pass0 (pa_cons (pv 1) pa_nil)))
      (pss_cons (ps_set (i := 6) sc_Way_init.nd rfl (.inl rfl) (pe_call (ok_rank T) (hr.mono (by omega)) (by rfl) T.g_rank T.F_rank.kp T.b_rank .nil pass0 (pa_cons (pv 2) pa_nil)))
      (pss_cons (ps_set (i := 7) sc_Way_init.nd rfl (.inl rfl) (pe_call (ok_rank T) (hr.mono (by omega)) (by rfl) T.g_rank T.F_rank.kp T.b_rank .nil pass0 (pa_cons (pv 3) pa_nil)))
      (C8.pss_cut (ps_if (pt_cmpR op_lt (pv 5) (pv 6) (nomark _)) (pss_one (ps_set (i := 5) sc_Way_init.nd rfl (.inl rfl) (pv 6))) pss_nil)
      (C8.pss_cut (ps_if (pt_cmpR op_lt (pv 7) (pv 5) (nomark _)) (pss_one (ps_set (i := 7) sc_Way_init.nd rfl (.inl rfl) (pv 5))) pss_nil)
      (pss_cons (ps_fld (pv 0) (pe_ix ix_tup (pe_glob (v := .ref T.k_LEVELS) (by rfl) T.g_LEVELS rfl) (pv 5) (fun _ _ => rfl)) rfl)
      (pss_cons (ps_fld (pv 0) (pe_ix ix_tup (pe_glob (v := .ref T.k_LEVELS) (by rfl) T.g_LEVELS rfl) (pv 6) (fun _ _ => rfl)) rfl)
      (pss_cons (ps_fld (pv 0) (pe_ix ix_tup (pe_glob (v := .ref T.k_LEVELS) (by rfl) T.g_LEVELS rfl) (pv 7) (fun _ _ => rfl)) rfl)
      (pss_one (ps_fld (pv 0) (pv 4) rfl)))))))))), ?_⟩
    refine ⟨_, rfl, _, a, rfl, levn_get ha, fun H1 s1 => ?_⟩
    refine ⟨_, rfl, _, b, rfl, levn_get hb, fun H2 s2 => ?_⟩
    refine ⟨_, rfl, _, c, rfl, levn_get hc, fun H3 s3 => ?_⟩
    have sx : Same H H3 := (s1.trans s2).trans s3
    have hx3 := sx _ _ hx
    -- by_held
    refine ⟨fun σ' H' => H' = H3 ∧ σ' = [some (.ref x), some (.str (levn a)), some (.str (levn b)), some (.str (levn c)), some (.bl e), some (.int (max a b : Nat)), some (.int b), some (.int c)], ?_, ?_⟩
    · walk_at "rd"
      refine iteD (fun k => ?_) (fun k => ?_)
      · exact ⟨_, rfl, rfl, by rw [Nat.max_eq_right (by omega)]; try rfl⟩
      · exact ⟨rfl, by rw [Nat.max_eq_left (by omega)]; try rfl⟩
    rintro σ' H' ⟨rfl, rfl⟩
    refine ⟨fun σ' H'' => H'' = H' ∧ σ' = [some (.ref x), some (.str (levn a)), some (.str (levn b)), some (.str (levn c)), some (.bl e), some (.int (max a b : Nat)), some (.int b), some (.int (max c (max a b) : Nat))], ?_, ?_⟩
    · walk_at "rd"
      refine iteD (fun k => ?_) (fun k => ?_)
      · exact ⟨_, rfl, rfl, by rw [Nat.max_eq_right (by omega : c ≤ max a b)]; try rfl⟩
      · exact ⟨rfl, by rw [Nat.max_eq_left (by omega : max a b ≤ c)]; try rfl⟩
    rintro σ' H'' ⟨rfl, rfl⟩
    refine ⟨_, rfl, _, _, _, _, rfl, rfl, T.q_LEVELS _, at_of (j := max a b) rfl (levV_at (by omega)), _, rfl, x, T.c_Way, dx, _, rfl, hx3, T.cl_Way, T.no_Way_held, by show 0 < 1000; decide, ?_⟩
    refine ⟨_, rfl, _, _, _, _, rfl, rfl, T.q_LEVELS _, at_of (j := b) rfl (levV_at hb), _, rfl, x, T.c_Way, dx, _, rfl, upd_same, T.cl_Way, T.no_Way_owned, by show 1 < 1000; decide, ?_⟩
    refine ⟨_, rfl, _, _, _, _, rfl, rfl, T.q_LEVELS _, at_of (j := max c (max a b)) rfl (levV_at (by omega)), _, rfl, x, T.c_Way, dx, _, rfl, upd_same, T.cl_Way, T.no_Way_seen, ?_, ?_⟩
    · exact Nat.lt_of_le_of_lt (putF_len _ _ _) (by show 2 < 1000; decide)
    refine ⟨_, rfl, _, rfl, x, T.c_Way, dx, _, rfl, upd_same, T.cl_Way, T.no_Way_early, ?_, ?_⟩
    · exact Nat.lt_of_le_of_lt (putF_len _ _ _) (Nat.lt_of_le_of_lt (Nat.succ_le_succ (putF_len _ _ _)) (by show 3 < 1000; decide))
    rw [upd_upd, upd_upd, upd_upd, wayF_put]
    exact q _ (fun y o n h => by rw [upd_ne n]; exact sx _ _ h) upd_same
end
end My

namespace My
open PySem L2
def leB (a b c : Nat) (e : Bool) (a' b' c' : Nat) (e' : Bool) : Bool := !(e' && !e) && (decide (a' ≤ a) && (decide (b' ≤ b) && decide (c' ≤ c)))
def eqB (a b c : Nat) (e : Bool) (a' b' c' : Nat) (e' : Bool) : Bool := decide (a = a') && (decide (b = b') && (decide (c = c') && decide (e = e')))
/-- two ways compared by f -/
def spTwo (C : Addr) (f : Nat → Nat → Nat → Bool → Nat → Nat → Nat → Bool → Bool) : Sp := fun vs H Q _ => ∃ (x y : Addr) (a b c : Nat) (e : Bool) (a' b' c' : Nat) (e' : Bool), vs = [.ref x, .ref y] ∧ Wy C H x a b c e ∧ Wy C H y a' b' c' e' ∧
  a < 4 ∧ b < 4 ∧ c < 4 ∧ a' < 4 ∧ b' < 4 ∧ c' < 4 ∧ ∀ H', Same H H' → Q (.bl (f a b c e a' b' c' e')) H'
def spHigher : Sp := fun vs H Q _ => ∃ (a b : Nat), vs = [.str (levn a), .str (levn b)] ∧ a < 4 ∧ b < 4 ∧ ∀ H', Same H H' → Q (.str (levn (max a b))) H'
def spAnd (C : Addr) : Sp := fun vs H Q _ => ∃ (x y : Addr) (a b c : Nat) (e : Bool) (a' b' c' : Nat) (e' : Bool), vs = [.ref x, .ref y] ∧ Wy C H x a b c e ∧ Wy C H y a' b' c' e' ∧
  a < 4 ∧ b < 4 ∧ c < 4 ∧ a' < 4 ∧ b' < 4 ∧ c' < 4 ∧ ∀ z H', Same H H' → H z = none → Wy C H' z (max (max a a') (max b b')) (max b b') (max (max c c') (max (max a a') (max b b'))) (e || e') → Q (.ref z) H'
theorem dec_str {a b : Nat} (ha : a < 4) (hb : b < 4) : decide (V.str (levn a) = V.str (levn b)) = decide (a = b) := by
  by_cases h : a = b
  · rw [decide_eq_true h, decide_eq_true (by rw [h])]
  · rw [decide_eq_false h, decide_eq_false (fun z => h (levn_inj ha hb (V.str.inj z)))]
theorem dec_bl {a b : Bool} : decide (V.bl a = V.bl b) = decide (a = b) := by cases a <;> cases b <;> rfl
section
variable {P : Program} {w : World} {K : PySem.W.Frag} {mg : Str → Option Value} {base : Heap}
theorem ok_Way_eq (T : Txt K mg) : FnOk P w K mg base CX0 1 T.a_Way_eq T.fd_Way_eq ["self", "other"] (spTwo T.c_Way eqB) := by
  refine T.F_Way_eq.ok sc_Way_eq (fun vs H Q E h => ?_) (fun cdv A outer s H vs Q E hr h => ?_)
  · obtain ⟨x, y, a, b, c, e, a', b', c', e', rfl, _⟩ := h; rfl
  · obtain ⟨x, y, a, b, c, e, a', b', c', e', rfl, ⟨dx, hx⟩, ⟨dy, hy⟩, ha, hb, hc, ha', hb', hc', q⟩ := h
    have q1 := q H (Same.refl H)
    unfold eqB at q1
    refine ⟨_, (pss_one (ps_ret (pe_and (pe_callB call_isi (by rfl) T.n_isinstance (by decide +kernel) (pa_cons (pv 1) (pa_cons (pe_glob (v := .ref T.c_Way) (by rfl) T.g_Way rfl) pa_nil))) (pe_and (pe_cmpR op_eq (pe_fld (pv 0) rfl) (pe_fld (pv 1) rfl) (nomark _)) (pe_and (pe_cmpR op_eq (pe_fld (pv 0) rfl) (pe_fld (pv 1) rfl) (nomark _)) (pe_and (pe_cmpR op_eq (pe_fld (pv 0) rfl) (pe_fld (pv 1) rfl) (nomark _)) (pe_one (pe_cmpR op_eq (pe_fld (pv 0) rfl) (pe_fld (pv 1) rfl) (nomark _))))))))), ?_⟩
    refine ⟨_, rfl, _, _, _, _, true, rfl, ClsV.own _, .base (T.ti_Way _ _ _ _ hy), T.kk_Way, _, rfl, iteT ?_⟩
    refine ⟨_, rfl, x, _, dx, _, _, rfl, hx, T.cl_Way, T.no_Way_held, wayF_held _ _ _ _, _, rfl, y, _, dy, _, _, rfl, hy, T.cl_Way, T.no_Way_held, wayF_held _ _ _ _, rfl, _, rfl, ?_⟩
    rw [dec_str ha ha']
    refine iteD (fun k1 => ?_) (fun k1 => ?_)
    · rw [decide_eq_true k1] at q1
      refine ⟨_, rfl, x, _, dx, _, _, rfl, hx, T.cl_Way, T.no_Way_owned, wayF_owned _ _ _ _, _, rfl, y, _, dy, _, _, rfl, hy, T.cl_Way, T.no_Way_owned, wayF_owned _ _ _ _, rfl, _, rfl, ?_⟩
      rw [dec_str hb hb']
      refine iteD (fun k2 => ?_) (fun k2 => ?_)
      · rw [decide_eq_true k2] at q1
        refine ⟨_, rfl, x, _, dx, _, _, rfl, hx, T.cl_Way, T.no_Way_seen, wayF_seen _ _ _ _, _, rfl, y, _, dy, _, _, rfl, hy, T.cl_Way, T.no_Way_seen, wayF_seen _ _ _ _, rfl, _, rfl, ?_⟩
        rw [dec_str hc hc']
        refine iteD (fun k3 => ?_) (fun k3 => ?_)
        · rw [decide_eq_true k3] at q1
          refine ⟨_, rfl, x, _, dx, _, _, rfl, hx, T.cl_Way, T.no_Way_early, wayF_early _ _ _ _, _, rfl, y, _, dy, _, _, rfl, hy, T.cl_Way, T.no_Way_early, wayF_early _ _ _ _, rfl, ?_⟩
          rw [dec_bl]
          exact q1
        · rw [decide_eq_false k3] at q1; exact q1
      · rw [decide_eq_false k2] at q1; exact q1
    · rw [decide_eq_false k1] at q1; exact q1
end
end My

namespace My
open PySem L2
/-! ### the law's own ways: ranks and a flag in a list -/
abbrev LwO (a b c : Nat) (e : Bool) : HO := .lst [.int a, .int b, .int c, .bl e]
def Adj (a b c : Nat) : Prop := b ≤ a ∧ a ≤ c ∧ c < 4
def spLWay (K : PySem.W.Frag) : Sp := fun vs H Q _ => ∃ (d t : Addr), vs = [.ref d, .ref t] ∧ Dr K H d t ∧ ∀ (p : Addr) (a b c : Nat) (e : Bool) H', Adj a b c → Dr K H' d t → But t H H' → H p = none → H' p = some (LwO a b c e) → Q (.ref p) H'
def spMade (K : PySem.W.Frag) (C : Addr) : Sp := fun vs H Q _ => ∃ (p : Addr) (a b c : Nat) (e : Bool), vs = [.ref p] ∧ Adj a b c ∧ SqL K H p [.int a, .int b, .int c, .bl e] ∧ ∀ x H', Same H H' → H x = none → Wy C H' x a b c e → Q (.ref x) H'
def spAdj (K : PySem.W.Frag) : Sp := fun vs H Q _ => ∃ (p : Addr) (a b c : Nat) (e : Bool), vs = [.ref p] ∧ a < 4 ∧ b < 4 ∧ c < 4 ∧ SqL K H p [.int a, .int b, .int c, .bl e] ∧ ∀ r, H r = none → Q (.ref r) (upd H r (LwO (max a b) b (max c (max a b)) e))
def spFields (C : Addr) : Sp := fun vs H Q _ => ∃ (x : Addr) (a b c : Nat) (e : Bool), vs = [.ref x] ∧ Wy C H x a b c e ∧ ∀ r, H r = none → Q (.ref r) (upd H r (.lst [.str (levn a), .str (levn b), .str (levn c), .bl e]))
def spWords (K : PySem.W.Frag) : Sp := fun vs H Q _ => ∃ (p : Addr) (a b c : Nat) (e : Bool), vs = [.ref p] ∧ a < 4 ∧ b < 4 ∧ c < 4 ∧ SqL K H p [.int a, .int b, .int c, .bl e] ∧ ∀ r H', Same H H' → H r = none → H' r = some (.lst [.str (levn a), .str (levn b), .str (levn c), .bl e]) → Q (.ref r) H'
def spSecond (K : PySem.W.Frag) : Sp := fun vs H Q _ => ∃ (d t f : Addr) (a b c : Nat) (e : Bool), vs = [.ref d, .ref t, .ref f] ∧ Dr K H d t ∧ Adj a b c ∧ f ≠ t ∧ H f = some (LwO a b c e) ∧ ∀ (p : Addr) (a b c : Nat) (e : Bool) H', Adj a b c → Dr K H' d t → But t H H' → H p = none → H' p = some (LwO a b c e) → Q (.ref p) H'
section
variable {P : Program} {w : World} {K : PySem.W.Frag} {mg : Str → Option Value} {base : Heap}
theorem ok__law_way (T : Txt K mg) : FnOk P w K mg base CX0 2 T.a__law_way T.fd__law_way ["_law_draws_here", "_law_at"] (spLWay K) := by
  refine T.F__law_way.ok sc__law_way (fun vs H Q E h => ?_) (fun cdv A outer s H vs Q E hr h => ?_)
  · obtain ⟨d, t, rfl, _⟩ := h; rfl
  · obtain ⟨d, t, rfl, D, q⟩ := h
    refine ⟨_, (pss_cons (ps_set (i := 2) sc__law_way.nd rfl (.inl rfl) (pe_lst (pa_cons (pe_lst (pa_cons (pe_int) (pa_cons (pe_int) (pa_cons (pe_int) (pa_cons (pe_bl) pa_nil))))) (pa_cons (pe_lst (pa_cons (pe_int) (pa_cons (pe_int) (pa_cons (pe_int) (pa_cons (pe_bl) pa_nil))))) (pa_cons (pe_lst (pa_cons (pe_int) (pa_cons (pe_int) (pa_cons (pe_int) (pa_cons (pe_bl) pa_nil))))) (pa_cons (pe_lst (pa_cons (pe_int) (pa_cons (pe_int) (pa_cons (pe_int) (pa_cons (pe_bl) pa_nil))))) (pa_cons (pe_lst (pa_cons (pe_int) (pa_cons (pe_int) (pa_cons (pe_int) (pa_cons (pe_bl) pa_nil))))) pa_nil)))))))
      (pss_cons (ps_set (i := 3) sc__law_way.nd rfl (.inl rfl) (pe_call (ok__law_take T) (hr.mono (by omega)) (by rfl) T.g__law_take T.F__law_take.kp T.b__law_take .nil pass0 (pa_cons (pv 0) (pa_cons (pv 1) (pa_cons (pe_int) pa_nil)))))
      (pss_cons (ps_if (pt_cmpR op_lt (pv 3) (pe_int) (nomark _)) (pss_one (ps_ret (pe_ix ix_list (pv 2) (pv 3) (fun _ _ => rfl)))) pss_nil)
      (pss_cons (ps_set (i := 4) sc__law_way.nd rfl (.inl rfl) (pe_call (ok__law_take T) (hr.mono (by omega)) (by rfl) T.g__law_take T.F__law_take.kp T.b__law_take .nil pass0 (pa_cons (pv 0) (pa_cons (pv 1) (pa_cons (pe_int) pa_nil)))))
      (pss_cons (ps_set (i := 5) sc__law_way.nd rfl (.inl rfl) (pe_op op_add (pv 4) (pe_call (ok__law_take T) (hr.mono (by omega)) (by rfl) T.g__law_take T.F__law_take.kp T.b__law_take .nil pass0 (pa_cons (pv 0) (pa_cons (pv 1) (pa_cons (pe_op op_sub (pe_int) (pv 4)) pa_nil))))))
      (pss_cons (ps_set (i := 6) sc__law_way.nd rfl (.inl rfl) (pe_op op_add (pv 5) (pe_call (ok__law_take T) (hr.mono (by omega)) (by rfl) T.g__law_take T.F__law_take.kp T.b__law_take .nil pass0 (pa_cons (pv 0) (pa_cons (pv 1) (pa_cons (pe_op op_sub (pe_int) (pv 5)) pa_nil))))))
      (pss_one (ps_ret (pe_lst (pa_cons (pv 5) (pa_cons (pv 4) (pa_cons (pv 6) (pa_cons (pe_cmpR op_eq (pe_call (ok__law_take T) (hr.mono (by omega)) (by rfl) T.g__law_take T.F__law_take.kp T.b__law_take .nil pass0 (pa_cons (pv 0) (pa_cons (pv 1) (pa_cons (pe_int) pa_nil)))) (pe_int) (nomark _)) pa_nil))))))))))))), ?_⟩
    refine ⟨by show 4 ≤ sizeLine; decide, fun p1 n1 => ⟨by show 4 ≤ sizeLine; decide, fun p2 n2 => ⟨by show 4 ≤ sizeLine; decide, fun p3 n3 => ⟨by show 4 ≤ sizeLine; decide, fun p4 n4 => ⟨by show 4 ≤ sizeLine; decide, fun p5 n5 => ⟨by show 5 ≤ sizeLine; decide, fun pm nm => ?_⟩⟩⟩⟩⟩⟩
    have s1 := same_new (o := LwO 1 1 1 false) n1
    have s2 := same_new (o := LwO 2 2 2 false) n2
    have s3 := same_new (o := LwO 1 1 3 false) n3
    have s4 := same_new (o := LwO 0 0 0 true) n4
    have s5 := same_new (o := LwO 1 0 1 false) n5
    have s6 := same_new (o := .lst [.ref p1, .ref p2, .ref p3, .ref p4, .ref p5]) nm
    have g1 := s6 _ _ (s5 _ _ (s4 _ _ (s3 _ _ (s2 _ _ (upd_same (H := H) (a := p1) (o := LwO 1 1 1 false))))))
    have g2 := s6 _ _ (s5 _ _ (s4 _ _ (s3 _ _ (upd_same (H := upd H p1 (LwO 1 1 1 false)) (a := p2) (o := LwO 2 2 2 false)))))
    have g3 := s6 _ _ (s5 _ _ (s4 _ _ (upd_same (H := upd (upd H p1 (LwO 1 1 1 false)) p2 (LwO 2 2 2 false)) (a := p3) (o := LwO 1 1 3 false))))
    have g4 := s6 _ _ (s5 _ _ (upd_same (H := upd (upd (upd H p1 (LwO 1 1 1 false)) p2 (LwO 2 2 2 false)) p3 (LwO 1 1 3 false)) (a := p4) (o := LwO 0 0 0 true)))
    have g5 := s6 _ _ (upd_same (H := upd (upd (upd (upd H p1 (LwO 1 1 1 false)) p2 (LwO 2 2 2 false)) p3 (LwO 1 1 3 false)) p4 (LwO 0 0 0 true)) (a := p5) (o := LwO 1 0 1 false))
    have gm := upd_same (H := upd (upd (upd (upd (upd H p1 (LwO 1 1 1 false)) p2 (LwO 2 2 2 false)) p3 (LwO 1 1 3 false)) p4 (LwO 0 0 0 true)) p5 (LwO 1 0 1 false)) (a := pm) (o := .lst [.ref p1, .ref p2, .ref p3, .ref p4, .ref p5])
    have sA : Same H _ := ((((s1.trans s2).trans s3).trans s4).trans s5).trans s6
    have f2 := s1.free n2
    have f3 := (s1.trans s2).free n3
    have f4 := ((s1.trans s2).trans s3).free n4
    have f5 := (((s1.trans s2).trans s3).trans s4).free n5
    have D1 := D.same sA
    have nmt : pm ≠ t := D.na ((((((s1.trans s2).trans s3).trans s4).trans s5)).free nm)
    revert g1 g2 g3 g4 g5 gm sA D1
    generalize upd (upd (upd (upd (upd (upd H p1 (LwO 1 1 1 false)) p2 (LwO 2 2 2 false)) p3 (LwO 1 1 3 false)) p4 (LwO 0 0 0 true)) p5 (LwO 1 0 1 false)) pm (.lst [.ref p1, .ref p2, .ref p3, .ref p4, .ref p5]) = H1
    intro g1 g2 g3 g4 g5 gm sA D1
    refine ⟨_, rfl, _, rfl, d, t, 9, rfl, D1, by decide, fun r H2 h0 h1 D2 b2 => ?_⟩
    have bA : But t H H2 := (But.of_same sA).trans b2
    refine ⟨_, rfl, _, _, rfl, rfl, _, rfl, iteD (fun k => ?_) (fun k => ?_)⟩
    · obtain ⟨v, hv, mv⟩ := at_ok (xs := [V.ref p1, .ref p2, .ref p3, .ref p4, .ref p5]) h0 (by simpa using k)
      refine ⟨_, rfl, _, rfl, _, _, _, _, rfl, rfl, SqL.of (b2 _ _ nmt gm), hv, ?_⟩
      simp only [List.mem_cons, List.not_mem_nil, or_false] at mv
      rcases mv with rfl | rfl | rfl | rfl | rfl
      · exact q p1 1 1 1 false H2 ⟨by decide, by decide, by decide⟩ D2 bA n1 (b2 _ _ (D.na n1) g1)
      · exact q p2 2 2 2 false H2 ⟨by decide, by decide, by decide⟩ D2 bA f2 (b2 _ _ (D.na f2) g2)
      · exact q p3 1 1 3 false H2 ⟨by decide, by decide, by decide⟩ D2 bA f3 (b2 _ _ (D.na f3) g3)
      · exact q p4 0 0 0 true H2 ⟨by decide, by decide, by decide⟩ D2 bA f4 (b2 _ _ (D.na f4) g4)
      · exact q p5 1 0 1 false H2 ⟨by decide, by decide, by decide⟩ D2 bA f5 (b2 _ _ (D.na f5) g5)
    · refine ⟨_, rfl, _, rfl, d, t, 4, rfl, D2, by decide, fun r1 H3 h10 h11 D3 b3 => ?_⟩
      obtain ⟨i1, rfl⟩ := Int.eq_ofNat_of_zero_le h10
      refine ⟨_, rfl, _, rfl, _, rfl, _, rfl, _, _, rfl, rfl, d, t, _, rfl, D3, by omega, fun r2 H4 h20 h21 D4 b4 => ⟨_, _, rfl, rfl, ?_⟩⟩
      obtain ⟨i2, rfl⟩ := Int.eq_ofNat_of_zero_le h20
      refine ⟨_, rfl, _, rfl, _, rfl, _, rfl, _, _, rfl, rfl, d, t, _, rfl, D4, by omega, fun r3 H5 h30 h31 D5 b5 => ⟨_, _, rfl, rfl, ?_⟩⟩
      obtain ⟨i3, rfl⟩ := Int.eq_ofNat_of_zero_le h30
      refine ⟨_, rfl, _, rfl, _, rfl, _, rfl, _, rfl, d, t, 2, rfl, D5, by decide, fun r4 H6 _ _ D6 b6 => ⟨rfl, by show 4 ≤ sizeLine; decide, fun p hp => ?_⟩⟩
      have bB := (((bA.trans b3).trans b4).trans b5).trans b6
      have e1 : ((i1 : Int) + (i2 : Int)) = ((i1 + i2 : Nat) : Int) := by omega
      have e2 : ((i1 : Int) + (i2 : Int) + (i3 : Int)) = ((i1 + i2 + i3 : Nat) : Int) := by omega
      refine q p (i1 + i2) i1 (i1 + i2 + i3) (decide (V.int r4 = V.int 1)) _ ⟨by omega, by omega, by omega⟩ (D6.same (same_new hp)) (bB.trans (But.new hp)) (bB.free (D6.na hp) hp) ?_
      rw [upd_same]
      show some (HO.lst [.int ((i1 : Int) + (i2 : Int)), .int (i1 : Int), .int ((i1 : Int) + (i2 : Int) + (i3 : Int)), _]) = _
      rw [e2, e1]
theorem ok__law_way_made (T : Txt K mg) : FnOk P w K mg base CX0 4 T.a__law_way_made T.fd__law_way_made ["_law_way_here"] (spMade K T.c_Way) := by
  refine T.F__law_way_made.ok sc__law_way_made (fun vs H Q E h => ?_) (fun cdv A outer s H vs Q E hr h => ?_)
  · obtain ⟨p, a, b, c, e, rfl, _⟩ := h; rfl
  · obtain ⟨p, a, b, c, e, rfl, ⟨ab, ac, c4⟩, hp, q⟩ := h
    refine ⟨_, (pss_cons (ps_set (i := 1) sc__law_way_made.nd rfl (.inl rfl) (pe_lst (pa_cons (pe_str) (pa_cons (pe_str) (pa_cons (pe_str) (pa_cons (pe_str) pa_nil))))))
      (pss_one (ps_ret (pe_makeN T.mk_Way (ok_Way_init T) (hr.mono (by omega)) (by rfl) T.g_Way T.kb_Way_init_4_early pass0 (pa_cons (pe_ix ix_list (pv 1) (pe_ix ix_list (pv 0) (pe_int) (fun _ _ => rfl)) (fun _ _ => rfl)) (pa_cons (pe_ix ix_list (pv 1) (pe_ix ix_list (pv 0) (pe_int) (fun _ _ => rfl)) (fun _ _ => rfl)) (pa_cons (pe_ix ix_list (pv 1) (pe_ix ix_list (pv 0) (pe_int) (fun _ _ => rfl)) (fun _ _ => rfl)) pa_nil))) (pk_cons (pe_ix ix_list (pv 0) (pe_int) (fun _ _ => rfl)) pk_nil))))), ?_⟩
    refine ⟨by show 4 ≤ sizeLine; decide, fun pw hw => ?_⟩
    have s1 := same_new (o := .lst levV) hw
    have W1 : (upd H pw (.lst levV)) pw = some (.lst levV) := upd_same
    have hp1 := s1.seq hp
    refine ⟨_, rfl, _, rfl, _, _, _, _, rfl, rfl, hp1, at_of (j := 0) rfl rfl, _, _, _, _, rfl, rfl, SqL.of W1, at_of (j := a) rfl (levV_at (by omega)), ?_⟩
    refine ⟨_, rfl, _, rfl, _, _, _, _, rfl, rfl, hp1, at_of (j := 1) rfl rfl, _, _, _, _, rfl, rfl, SqL.of W1, at_of (j := b) rfl (levV_at (by omega)), ?_⟩
    refine ⟨_, rfl, _, rfl, _, _, _, _, rfl, rfl, hp1, at_of (j := 2) rfl rfl, _, _, _, _, rfl, rfl, SqL.of W1, at_of (j := c) rfl (levV_at (by omega)), ?_⟩
    refine ⟨_, rfl, _, _, _, _, rfl, rfl, hp1, at_of (j := 3) rfl rfl, rfl, rfl, fun x dx nx ndx ne => ⟨x, dx, a, b, c, e, rfl, by omega, by omega, by omega, upd_same, fun H8 b8 hx8 => ⟨rfl, ?_⟩⟩⟩
    rw [Nat.max_eq_left ab, Nat.max_eq_left ac] at hx8
    exact q x H8 (s1.trans (same_make nx ndx b8)) (s1.free nx) ⟨dx, hx8⟩
end
end My

namespace My
open PySem L2
def lowT (i a b c : Nat) : Option (Nat × Nat × Nat) :=
  let p := if i = 0 then a else if i = 1 then b else c
  if p = 0 then none else
  let a' := if i = 0 then a - 1 else a
  let b' := if i = 1 then b - 1 else b
  let c' := if i = 2 then c - 1 else c
  if max a' b' = a ∧ b' = b ∧ max c' (max a' b') = c then none else some (max a' b', b', max c' (max a' b'))
def partS : List Str := ["held", "owned", "seen"]
def spLow (C X : Addr) : Sp := fun vs H Q E => ∃ (x : Addr) (part : Str) (a b c : Nat) (e : Bool), vs = [.ref x, .str part] ∧ Wy C H x a b c e ∧ Adj a b c ∧
  ((¬ (part = "owned" ∨ part = "held" ∨ part = "seen" ∨ part = "early") ∧ ∀ H' d, Same H H' → H d = none → H' d = some (.xd [("level", .str part)]) → E (.ref X) (some d) H') ∨
   (part = "early" ∧ e = false ∧ ∀ H', Same H H' → Q .non H') ∨
   (part = "early" ∧ e = true ∧ ∀ z H', Same H H' → H z = none → Wy C H' z a b c false → Q (.ref z) H') ∨
   (∃ i, partS[i]? = some part ∧ lowT i a b c = none ∧ ∀ H', Same H H' → Q .non H') ∨
   (∃ i r, partS[i]? = some part ∧ lowT i a b c = some r ∧ ∀ z H', Same H H' → H z = none → Wy C H' z r.1 r.2.1 r.2.2 e → Q (.ref z) H'))
theorem inPart_yes {part : Str} (h : part = "owned" ∨ part = "held" ∨ part = "seen" ∨ part = "early") : inV (.str part) [.str "owned", .str "held", .str "seen", .str "early"] = true := by
  rcases h with rfl | rfl | rfl | rfl <;> decide +kernel
theorem inPart_no {part : Str} (h : ¬ (part = "owned" ∨ part = "held" ∨ part = "seen" ∨ part = "early")) : inV (.str part) [.str "owned", .str "held", .str "seen", .str "early"] = false := by
  unfold inV
  simp only [not_or] at h
  have g1 : ¬ ("owned" : Str) = part := fun z => h.1 z.symm
  have g2 : ¬ ("held" : Str) = part := fun z => h.2.1 z.symm
  have g3 : ¬ ("seen" : Str) = part := fun z => h.2.2.1 z.symm
  have g4 : ¬ ("early" : Str) = part := fun z => h.2.2.2 z.symm
  simp [eqV, g1, g2, g3, g4]
theorem part_of {i : Nat} {part : Str} (h : partS[i]? = some part) : part = "owned" ∨ part = "held" ∨ part = "seen" ∨ part = "early" := by
  have m := List.mem_of_getElem? h
  unfold partS at m
  simp only [List.mem_cons, List.not_mem_nil, or_false] at m
  rcases m with rfl | rfl | rfl <;> simp
theorem part_ne {i : Nat} {part : Str} (h : partS[i]? = some part) : part ≠ "early" := by
  have m := List.mem_of_getElem? h
  unfold partS at m
  simp only [List.mem_cons, List.not_mem_nil, or_false] at m
  rcases m with rfl | rfl | rfl <;> decide +kernel
def kvL (x y z : V) : List (Key × V) := mergeK [] [(.inr "held", x), (.inr "owned", y), (.inr "seen", z)]
theorem kvL_held (x y z : V) : valV (kvL x y z) (.inr "held") = some x := by
  unfold kvL mergeK; simp only [List.foldl]; rw [valV_put, if_neg (by decide +kernel), valV_put, if_neg (by decide +kernel), valV_put, if_pos rfl]
theorem kvL_owned (x y z : V) : valV (kvL x y z) (.inr "owned") = some y := by
  unfold kvL mergeK; simp only [List.foldl]; rw [valV_put, if_neg (by decide +kernel), valV_put, if_pos rfl]
theorem kvL_seen (x y z : V) : valV (kvL x y z) (.inr "seen") = some z := by
  unfold kvL mergeK; simp only [List.foldl]; rw [valV_put, if_pos rfl]
theorem kvL_len (x y z : V) : (kvL x y z).length < sizeLine := by
  have : (kvL x y z).length = 3 := by unfold kvL; rfl
  rw [this]; decide
theorem part_ix {i j : Nat} {p : Str} (h : partS[i]? = some p) (k : partS[j]? = some p) : i = j := by
  have hi := (List.getElem?_eq_some_iff.mp h).1
  have hj := (List.getElem?_eq_some_iff.mp k).1
  have e := h.trans k.symm
  have hi : i < 3 := hi
  have hj : j < 3 := hj
  rcases (by omega : i = 0 ∨ i = 1 ∨ i = 2) with rfl | rfl | rfl <;> rcases (by omega : j = 0 ∨ j = 1 ∨ j = 2) with rfl | rfl | rfl <;> first | rfl | (exact absurd e (by decide +kernel))
section
variable {w : World} {K : PySem.W.Frag} {mg : Str → Option Value} {base : Heap}
theorem ok_Way_lowered (T : Txt K mg) : FnOk PP w K mg base (L2.CX PP w) 4 T.a_Way_lowered T.fd_Way_lowered ["self", "part"] (spLow T.c_Way T.c_BadLevel) := by
  refine T.F_Way_lowered.okX sc_Way_lowered (fun vs H Q E h => ?_) (fun cdv A outer s H vs Q E hr h => ?_)
  · obtain ⟨x, part, a, b, c, e, rfl, _⟩ := h; rfl
  · obtain ⟨x, part, a, b, c, e, rfl, ⟨dx, hx⟩, ad, h⟩ := h
    have la : a < 4 := by have := ad.1; have := ad.2.1; have := ad.2.2; omega
    have lb : b < 4 := by have := ad.1; have := ad.2.1; have := ad.2.2; omega
    have lc : c < 4 := ad.2.2
    have e1 : max c (max a b) = c := by have := ad.1; have := ad.2.1; omega
    have e2 : max a b = a := by have := ad.1; omega
    refine ⟨_, (pss_cons (ps_if (pt_cmpR op_notIn_seq (pv 1) (ClX.pe_cval (pe_glob (v := .ref T.c_Way) (by rfl) T.g_Way rfl)) (by with_unfolding_all rfl)) (pss_one (ps_raiseX rfl T.x_BadLevel hr (takes_of rfl rfl rfl rfl) (pa_cons (pv 1) pa_nil))) pss_nil)
      (pss_cons (ps_if (pt_cmpR op_eq (pv 1) (pe_str) (nomark _)) (pss_cons (ps_if (pt_not (pt_val (pe_fld (pv 0) rfl))) (pss_one (ps_ret (pe_non))) pss_nil)
      (pss_one (ps_ret (pe_make T.mk_Way (ok_Way_init T) (hr.mono (by omega)) (by rfl) T.g_Way T.kb_Way_init_4.choose_spec.2 T.kb_Way_init_4.choose_spec.1 pass0 (pa_cons (pe_fld (pv 0) rfl) (pa_cons (pe_fld (pv 0) rfl) (pa_cons (pe_fld (pv 0) rfl) pa_nil))))))) pss_nil)
      (pss_cons (ps_set (i := 2) sc_Way_lowered.nd rfl (.inl rfl) (pe_disp (pps_cons (pe_str) (pe_fld (pv 0) rfl) (pps_cons (pe_str) (pe_fld (pv 0) rfl) (pps_cons (pe_str) (pe_fld (pv 0) rfl) pps_nil))) rfl rfl (by simp) (by decide)))
      (pss_cons (ps_set (i := 3) sc_Way_lowered.nd rfl (.inl rfl) (pe_call (ok_rank T) (hr.mono (by omega)) (by rfl) T.g_rank T.F_rank.kp T.b_rank .nil pass0 (pa_cons (pe_dget (hu_of hr) (pv 2) (pv 1) (fun _ _ => rfl)) pa_nil)))
      (pss_cons (ps_if (pt_cmpR op_eq (pv 3) (pe_int) (nomark _)) (pss_one (ps_ret (pe_non))) pss_nil)
      (pss_cons (ps_dput (hu_of hr) (pv 2) (pv 1) (pe_ix ix_tup (pe_glob (v := .ref T.k_LEVELS) (by rfl) T.g_LEVELS rfl) (pe_op op_sub (pv 3) (pe_int)) (fun _ _ => rfl)) rfl)
      (pss_cons (ps_set (i := 4) sc_Way_lowered.nd rfl (.inl rfl) (pe_makeN T.mk_Way (ok_Way_init T) (hr.mono (by omega)) (by rfl) T.g_Way T.kb_Way_init_4_early pass0 (pa_cons (pe_dget (hu_of hr) (pv 2) (pe_str) (fun _ _ => rfl)) (pa_cons (pe_dget (hu_of hr) (pv 2) (pe_str) (fun _ _ => rfl)) (pa_cons (pe_dget (hu_of hr) (pv 2) (pe_str) (fun _ _ => rfl)) pa_nil))) (pk_cons (pe_fld (pv 0) rfl) pk_nil)))
      (pss_cons (ps_if (pt_cmpR (op_cmpI (fun _ _ => rfl) T.m_Way_eq.at_ T.m_Way_eq.fn (ok_Way_eq T) (hr.mono (by omega)) T.b_Way_eq pass0) (pv 4) (pv 0) (nomark _)) (pss_one (ps_ret (pe_non))) pss_nil)
      (pss_one (ps_ret (pv 4))))))))))), ?_⟩
    refine ⟨_, rfl, _, _, _, _, rfl, T.cr_Way, T.cv_Way_PARTS, _, _, rfl, .inr (T.q_Way_PARTS _), rfl, rfl, _, rfl, ?_⟩
    by_cases hp : ¬ (part = "owned" ∨ part = "held" ∨ part = "seen" ∨ part = "early")
    · refine iteYes (by rw [inPart_no hp]; rfl) ?_
      rcases h with ⟨_, k⟩ | ⟨rfl, _⟩ | ⟨rfl, _⟩ | ⟨i, hi, _⟩ | ⟨i, r, hi, _⟩
      · exact ⟨_, rfl, _, rfl, fun d hd => k _ d (same_new hd) hd upd_same⟩
      · exact absurd (by simp) hp
      · exact absurd (by simp) hp
      · exact absurd (part_of hi) hp
      · exact absurd (part_of hi) hp
    have hp := Classical.not_not.mp hp
    refine iteNo (by rw [inPart_yes hp]; rfl) ?_
    refine ⟨_, rfl, rfl, _, rfl, iteD (fun pe => ?_) (fun pe => ?_)⟩
    · have pe : part = "early" := V.str.inj pe
      subst pe
      refine ⟨_, rfl, x, _, dx, _, _, rfl, hx, T.cl_Way, T.no_Way_early, wayF_early _ _ _ _, _, rfl, ?_⟩
      rcases h with ⟨k, _⟩ | ⟨_, rfl, k⟩ | ⟨_, rfl, k⟩ | ⟨i, hi, _⟩ | ⟨i, r, hi, _⟩
      · exact absurd hp k
      · exact k H (Same.refl H)
      · refine ⟨_, rfl, x, _, dx, _, _, rfl, hx, T.cl_Way, T.no_Way_held, wayF_held _ _ _ _, _, rfl, x, _, dx, _, _, rfl, hx, T.cl_Way, T.no_Way_owned, wayF_owned _ _ _ _, _, rfl, x, _, dx, _, _, rfl, hx, T.cl_Way, T.no_Way_seen, wayF_seen _ _ _ _, fun z dz nz ndz ne => ⟨z, dz, a, b, c, false, rfl, la, lb, lc, upd_same, fun H8 b8 hx8 => ⟨rfl, ?_⟩⟩⟩
        rw [e1, e2] at hx8
        exact k z H8 (same_make nz ndz b8) nz ⟨dz, hx8⟩
      · exact absurd (part_ne hi) (by simp)
      · exact absurd (part_ne hi) (by simp)
    · have pe : ¬ part = "early" := fun z => pe (by rw [z])
      refine fun l hl => ?_
      have s0 : Same H (upd H l (.dK [])) := same_new hl
      have hx0 := s0 _ _ hx
      refine ⟨_, rfl, x, _, dx, _, _, rfl, hx0, T.cl_Way, T.no_Way_held, wayF_held _ _ _ _, _, rfl, x, _, dx, _, _, rfl, hx0, T.cl_Way, T.no_Way_owned, wayF_owned _ _ _ _, _, rfl, x, _, dx, _, _, rfl, hx0, T.cl_Way, T.no_Way_seen, wayF_seen _ _ _ _, upd_same, [(.inr "held", .str (levn a)), (.inr "owned", .str (levn b)), (.inr "seen", .str (levn c))], rfl, by simp, ?_⟩
      rw [upd_upd]
      have s1 : Same H (upd H l (.dK (kvL (.str (levn a)) (.str (levn b)) (.str (levn c))))) := same_new hl
      have hl1 : (upd H l (.dK (kvL (.str (levn a)) (.str (levn b)) (.str (levn c))))) l = some (.dK (kvL (.str (levn a)) (.str (levn b)) (.str (levn c)))) := upd_same
      change gName 2 _ _ (upd H l (.dK (kvL (.str (levn a)) (.str (levn b)) (.str (levn c))))) _
      generalize upd H l (.dK (kvL (.str (levn a)) (.str (levn b)) (.str (levn c)))) = H1 at s1 hl1
      have hN : ∀ i, partS[i]? = some part → (lowT i a b c = none ∧ ∀ H', Same H H' → Q .non H') ∨ ∃ r, lowT i a b c = some r ∧ ∀ z H', Same H H' → H z = none → Wy T.c_Way H' z r.1 r.2.1 r.2.2 e → Q (.ref z) H' := fun i hi => by
        rcases h with ⟨k, _⟩ | ⟨z, _⟩ | ⟨z, _⟩ | ⟨j, hj, hn, k⟩ | ⟨j, r, hj, hs, k⟩
        · exact absurd hp k
        · exact absurd z pe
        · exact absurd z pe
        · obtain rfl := part_ix hi hj; exact .inl ⟨hn, k⟩
        · obtain rfl := part_ix hi hj; exact .inr ⟨r, hs, k⟩
      clear h
      rcases hp with rfl | rfl | rfl | rfl
      rotate_right
      · exact absurd rfl pe
      · refine ⟨_, rfl, _, rfl, l, _, rfl, .inl ⟨_, .inr "owned", .inl hl1, rfl, (kvL_owned _ _ _).symm⟩, _, b, rfl, levn_get lb, fun H2 s2 => ?_⟩
        have hl2 := s2 _ _ hl1
        have s12 := s1.trans s2
        refine ⟨_, rfl, rfl, _, rfl, iteD (fun p0 => ?_) (fun p0 => ?_)⟩
        · have p0 : b = 0 := by have z : V.int ((b : Nat) : Int) = V.int 0 := p0; injection z with z; omega
          rcases hN 1 rfl with ⟨_, k⟩ | ⟨r, hs, _⟩
          · exact k H2 s12
          · exact absurd hs (by unfold lowT; simp [p0])
        · have p0 : 0 < b := by
            rcases Nat.eq_zero_or_pos b with z | z
            · exact absurd (by rw [z]; rfl) p0
            · exact z
          refine ⟨_, rfl, _, _, rfl, rfl, _, _, _, _, rfl, rfl, T.q_LEVELS _, (by rw [show ((b : Nat) : Int) - 1 = ((b - 1 : Nat) : Int) by omega]; exact at_of (j := b - 1) rfl (levV_at (by omega))), _, rfl, _, rfl, l, _, rfl, .inl ⟨_, .inr "owned", hl2, rfl, kvL_len _ _ _, rfl⟩, ?_⟩
          have s3 : Same H (upd H2 l (.dK (putK (kvL (.str (levn a)) (.str (levn b)) (.str (levn c))) (.inr "owned") (.str (levn (b - 1)))))) := same_mut s12 hl
          have hl3 : (upd H2 l (.dK (putK (kvL (.str (levn a)) (.str (levn b)) (.str (levn c))) (.inr "owned") (.str (levn (b - 1)))))) l = some (.dK (putK (kvL (.str (levn a)) (.str (levn b)) (.str (levn c))) (.inr "owned") (.str (levn (b - 1))))) := upd_same
          have vh : some (V.str (levn a)) = valV (putK (kvL (.str (levn a)) (.str (levn b)) (.str (levn c))) (.inr "owned") (.str (levn (b - 1)))) (.inr "held") := by first | rw [valV_put, if_pos rfl] | rw [valV_put, if_neg (by decide +kernel), kvL_held]
          have vo : some (V.str (levn (b - 1))) = valV (putK (kvL (.str (levn a)) (.str (levn b)) (.str (levn c))) (.inr "owned") (.str (levn (b - 1)))) (.inr "owned") := by first | rw [valV_put, if_pos rfl] | rw [valV_put, if_neg (by decide +kernel), kvL_owned]
          have ve : some (V.str (levn c)) = valV (putK (kvL (.str (levn a)) (.str (levn b)) (.str (levn c))) (.inr "owned") (.str (levn (b - 1)))) (.inr "seen") := by first | rw [valV_put, if_pos rfl] | rw [valV_put, if_neg (by decide +kernel), kvL_seen]
          revert s3 hl3 vh vo ve
          generalize putK (kvL (.str (levn a)) (.str (levn b)) (.str (levn c))) (.inr "owned") (.str (levn (b - 1))) = kv
          intro s3 hl3 vh vo ve
          have hx3 := s3 _ _ hx
          refine ⟨_, rfl, l, _, rfl, .inl ⟨_, .inr "held", .inl hl3, rfl, vh⟩, _, rfl, l, _, rfl, .inl ⟨_, .inr "owned", .inl hl3, rfl, vo⟩, _, rfl, l, _, rfl, .inl ⟨_, .inr "seen", .inl hl3, rfl, ve⟩, _, rfl, x, _, dx, _, _, rfl, hx3, T.cl_Way, T.no_Way_early, wayF_early _ _ _ _, rfl, rfl, fun z dz nz ndz ne => ⟨z, dz, a, b - 1, c, e, rfl, by omega, by omega, by omega, upd_same, fun H8 b8 hx8 => ⟨rfl, ?_⟩⟩⟩
          have s38 := same_make nz ndz b8
          have sA := s3.trans s38
          have hx9 := s38 _ _ hx3
          refine ⟨_, rfl, _, rfl, z, dz, _, x, dx, _, rfl, rfl, hx8, hx9, z, x, _, _, _, _, a, b, c, e, rfl, ⟨dz, hx8⟩, ⟨dx, hx9⟩, by omega, by omega, by omega, la, lb, lc, fun H9 s9 => ⟨_, rfl, iteB (fun q1 => ?_) (fun q1 => ?_)⟩⟩
          · rcases hN 1 rfl with ⟨_, k⟩ | ⟨r, hs, _⟩
            · exact k H9 (sA.trans s9)
            · refine absurd hs ?_
              unfold eqB at q1
              simp only [Bool.and_eq_true, decide_eq_true_eq] at q1
              unfold lowT
              simp
              omega
          · rcases hN 1 rfl with ⟨hn, k⟩ | ⟨r, hs, k⟩
            · refine absurd hn ?_
              unfold eqB at q1
              simp at q1
              unfold lowT
              simp
              omega
            · refine ⟨_, rfl, k z H9 (sA.trans s9) (s3.free nz) ?_⟩
              have er : r = (max a (b - 1), (b - 1), max c (max a (b - 1))) := by
                unfold lowT at hs
                simp at hs
                exact hs.2.2.symm
              subst er
              exact ⟨dz, s9 _ _ hx8⟩
      · refine ⟨_, rfl, _, rfl, l, _, rfl, .inl ⟨_, .inr "held", .inl hl1, rfl, (kvL_held _ _ _).symm⟩, _, a, rfl, levn_get la, fun H2 s2 => ?_⟩
        have hl2 := s2 _ _ hl1
        have s12 := s1.trans s2
        refine ⟨_, rfl, rfl, _, rfl, iteD (fun p0 => ?_) (fun p0 => ?_)⟩
        · have p0 : a = 0 := by have z : V.int ((a : Nat) : Int) = V.int 0 := p0; injection z with z; omega
          rcases hN 0 rfl with ⟨_, k⟩ | ⟨r, hs, _⟩
          · exact k H2 s12
          · exact absurd hs (by unfold lowT; simp [p0])
        · have p0 : 0 < a := by
            rcases Nat.eq_zero_or_pos a with z | z
            · exact absurd (by rw [z]; rfl) p0
            · exact z
          refine ⟨_, rfl, _, _, rfl, rfl, _, _, _, _, rfl, rfl, T.q_LEVELS _, (by rw [show ((a : Nat) : Int) - 1 = ((a - 1 : Nat) : Int) by omega]; exact at_of (j := a - 1) rfl (levV_at (by omega))), _, rfl, _, rfl, l, _, rfl, .inl ⟨_, .inr "held", hl2, rfl, kvL_len _ _ _, rfl⟩, ?_⟩
          have s3 : Same H (upd H2 l (.dK (putK (kvL (.str (levn a)) (.str (levn b)) (.str (levn c))) (.inr "held") (.str (levn (a - 1)))))) := same_mut s12 hl
          have hl3 : (upd H2 l (.dK (putK (kvL (.str (levn a)) (.str (levn b)) (.str (levn c))) (.inr "held") (.str (levn (a - 1)))))) l = some (.dK (putK (kvL (.str (levn a)) (.str (levn b)) (.str (levn c))) (.inr "held") (.str (levn (a - 1))))) := upd_same
          have vh : some (V.str (levn (a - 1))) = valV (putK (kvL (.str (levn a)) (.str (levn b)) (.str (levn c))) (.inr "held") (.str (levn (a - 1)))) (.inr "held") := by first | rw [valV_put, if_pos rfl] | rw [valV_put, if_neg (by decide +kernel), kvL_held]
          have vo : some (V.str (levn b)) = valV (putK (kvL (.str (levn a)) (.str (levn b)) (.str (levn c))) (.inr "held") (.str (levn (a - 1)))) (.inr "owned") := by first | rw [valV_put, if_pos rfl] | rw [valV_put, if_neg (by decide +kernel), kvL_owned]
          have ve : some (V.str (levn c)) = valV (putK (kvL (.str (levn a)) (.str (levn b)) (.str (levn c))) (.inr "held") (.str (levn (a - 1)))) (.inr "seen") := by first | rw [valV_put, if_pos rfl] | rw [valV_put, if_neg (by decide +kernel), kvL_seen]
          revert s3 hl3 vh vo ve
          generalize putK (kvL (.str (levn a)) (.str (levn b)) (.str (levn c))) (.inr "held") (.str (levn (a - 1))) = kv
          intro s3 hl3 vh vo ve
          have hx3 := s3 _ _ hx
          refine ⟨_, rfl, l, _, rfl, .inl ⟨_, .inr "held", .inl hl3, rfl, vh⟩, _, rfl, l, _, rfl, .inl ⟨_, .inr "owned", .inl hl3, rfl, vo⟩, _, rfl, l, _, rfl, .inl ⟨_, .inr "seen", .inl hl3, rfl, ve⟩, _, rfl, x, _, dx, _, _, rfl, hx3, T.cl_Way, T.no_Way_early, wayF_early _ _ _ _, rfl, rfl, fun z dz nz ndz ne => ⟨z, dz, a - 1, b, c, e, rfl, by omega, by omega, by omega, upd_same, fun H8 b8 hx8 => ⟨rfl, ?_⟩⟩⟩
          have s38 := same_make nz ndz b8
          have sA := s3.trans s38
          have hx9 := s38 _ _ hx3
          refine ⟨_, rfl, _, rfl, z, dz, _, x, dx, _, rfl, rfl, hx8, hx9, z, x, _, _, _, _, a, b, c, e, rfl, ⟨dz, hx8⟩, ⟨dx, hx9⟩, by omega, by omega, by omega, la, lb, lc, fun H9 s9 => ⟨_, rfl, iteB (fun q1 => ?_) (fun q1 => ?_)⟩⟩
          · rcases hN 0 rfl with ⟨_, k⟩ | ⟨r, hs, _⟩
            · exact k H9 (sA.trans s9)
            · refine absurd hs ?_
              unfold eqB at q1
              simp only [Bool.and_eq_true, decide_eq_true_eq] at q1
              unfold lowT
              simp
              omega
          · rcases hN 0 rfl with ⟨hn, k⟩ | ⟨r, hs, k⟩
            · refine absurd hn ?_
              unfold eqB at q1
              simp at q1
              unfold lowT
              simp
              omega
            · refine ⟨_, rfl, k z H9 (sA.trans s9) (s3.free nz) ?_⟩
              have er : r = (max (a - 1) b, b, max c (max (a - 1) b)) := by
                unfold lowT at hs
                simp at hs
                exact hs.2.2.symm
              subst er
              exact ⟨dz, s9 _ _ hx8⟩
      · refine ⟨_, rfl, _, rfl, l, _, rfl, .inl ⟨_, .inr "seen", .inl hl1, rfl, (kvL_seen _ _ _).symm⟩, _, c, rfl, levn_get lc, fun H2 s2 => ?_⟩
        have hl2 := s2 _ _ hl1
        have s12 := s1.trans s2
        refine ⟨_, rfl, rfl, _, rfl, iteD (fun p0 => ?_) (fun p0 => ?_)⟩
        · have p0 : c = 0 := by have z : V.int ((c : Nat) : Int) = V.int 0 := p0; injection z with z; omega
          rcases hN 2 rfl with ⟨_, k⟩ | ⟨r, hs, _⟩
          · exact k H2 s12
          · exact absurd hs (by unfold lowT; simp [p0])
        · have p0 : 0 < c := by
            rcases Nat.eq_zero_or_pos c with z | z
            · exact absurd (by rw [z]; rfl) p0
            · exact z
          refine ⟨_, rfl, _, _, rfl, rfl, _, _, _, _, rfl, rfl, T.q_LEVELS _, (by rw [show ((c : Nat) : Int) - 1 = ((c - 1 : Nat) : Int) by omega]; exact at_of (j := c - 1) rfl (levV_at (by omega))), _, rfl, _, rfl, l, _, rfl, .inl ⟨_, .inr "seen", hl2, rfl, kvL_len _ _ _, rfl⟩, ?_⟩
          have s3 : Same H (upd H2 l (.dK (putK (kvL (.str (levn a)) (.str (levn b)) (.str (levn c))) (.inr "seen") (.str (levn (c - 1)))))) := same_mut s12 hl
          have hl3 : (upd H2 l (.dK (putK (kvL (.str (levn a)) (.str (levn b)) (.str (levn c))) (.inr "seen") (.str (levn (c - 1)))))) l = some (.dK (putK (kvL (.str (levn a)) (.str (levn b)) (.str (levn c))) (.inr "seen") (.str (levn (c - 1))))) := upd_same
          have vh : some (V.str (levn a)) = valV (putK (kvL (.str (levn a)) (.str (levn b)) (.str (levn c))) (.inr "seen") (.str (levn (c - 1)))) (.inr "held") := by first | rw [valV_put, if_pos rfl] | rw [valV_put, if_neg (by decide +kernel), kvL_held]
          have vo : some (V.str (levn b)) = valV (putK (kvL (.str (levn a)) (.str (levn b)) (.str (levn c))) (.inr "seen") (.str (levn (c - 1)))) (.inr "owned") := by first | rw [valV_put, if_pos rfl] | rw [valV_put, if_neg (by decide +kernel), kvL_owned]
          have ve : some (V.str (levn (c - 1))) = valV (putK (kvL (.str (levn a)) (.str (levn b)) (.str (levn c))) (.inr "seen") (.str (levn (c - 1)))) (.inr "seen") := by first | rw [valV_put, if_pos rfl] | rw [valV_put, if_neg (by decide +kernel), kvL_seen]
          revert s3 hl3 vh vo ve
          generalize putK (kvL (.str (levn a)) (.str (levn b)) (.str (levn c))) (.inr "seen") (.str (levn (c - 1))) = kv
          intro s3 hl3 vh vo ve
          have hx3 := s3 _ _ hx
          refine ⟨_, rfl, l, _, rfl, .inl ⟨_, .inr "held", .inl hl3, rfl, vh⟩, _, rfl, l, _, rfl, .inl ⟨_, .inr "owned", .inl hl3, rfl, vo⟩, _, rfl, l, _, rfl, .inl ⟨_, .inr "seen", .inl hl3, rfl, ve⟩, _, rfl, x, _, dx, _, _, rfl, hx3, T.cl_Way, T.no_Way_early, wayF_early _ _ _ _, rfl, rfl, fun z dz nz ndz ne => ⟨z, dz, a, b, c - 1, e, rfl, by omega, by omega, by omega, upd_same, fun H8 b8 hx8 => ⟨rfl, ?_⟩⟩⟩
          have s38 := same_make nz ndz b8
          have sA := s3.trans s38
          have hx9 := s38 _ _ hx3
          refine ⟨_, rfl, _, rfl, z, dz, _, x, dx, _, rfl, rfl, hx8, hx9, z, x, _, _, _, _, a, b, c, e, rfl, ⟨dz, hx8⟩, ⟨dx, hx9⟩, by omega, by omega, by omega, la, lb, lc, fun H9 s9 => ⟨_, rfl, iteB (fun q1 => ?_) (fun q1 => ?_)⟩⟩
          · rcases hN 2 rfl with ⟨_, k⟩ | ⟨r, hs, _⟩
            · exact k H9 (sA.trans s9)
            · refine absurd hs ?_
              unfold eqB at q1
              simp only [Bool.and_eq_true, decide_eq_true_eq] at q1
              unfold lowT
              simp
              omega
          · rcases hN 2 rfl with ⟨hn, k⟩ | ⟨r, hs, k⟩
            · refine absurd hn ?_
              unfold eqB at q1
              simp at q1
              unfold lowT
              simp
              omega
            · refine ⟨_, rfl, k z H9 (sA.trans s9) (s3.free nz) ?_⟩
              have er : r = (max a b, b, max (c - 1) (max a b)) := by
                unfold lowT at hs
                simp at hs
                exact hs.2.2.symm
              subst er
              exact ⟨dz, s9 _ _ hx8⟩
end
end My

namespace My
open PySem L2
/-! ### policies: their rules, where they stand -/
abbrev Wv := Nat × Nat × Nat × Bool
abbrev Rl := Str × Bool × List Wv
abbrev Lr := Str × Bool × Addr
def WyV (Cw : Addr) (H : Hp) (v : V) (k : Wv) : Prop := ∃ x, v = .ref x ∧ Wy Cw H x k.1 k.2.1 k.2.2.1 k.2.2.2
def WysT (Cw : Addr) (H : Hp) (p : Addr) (ks : List Wv) : Prop := ∃ vs, H p = some (.tup vs) ∧ Paired (WyV Cw H) vs ks
/-- tuples and ways stay -/
def Kw (Cw : Addr) (H H' : Hp) : Prop := ∀ a o, H a = some o → ((∃ xs, o = .tup xs) ∨ ∃ dx x1 x2 x3 e, o = .ins Cw dx (wayF x1 x2 x3 e)) → H' a = some o
theorem Kw.same {Cw : Addr} {H H' : Hp} (s : Same H H') : Kw Cw H H' := fun a o h _ => s a o h
theorem Kw.trans {Cw : Addr} {H H1 H2 : Hp} (x : Kw Cw H H1) (y : Kw Cw H1 H2) : Kw Cw H H2 := fun a o h t => y a o (x a o h t) t
theorem Kw.upd {Cw : Addr} {H : Hp} {a : Addr} {o o' : HO} (h : H a = some o) (n : ¬ ((∃ xs, o = .tup xs) ∨ ∃ dx x1 x2 x3 e, o = .ins Cw dx (wayF x1 x2 x3 e))) : Kw Cw H (upd H a o') := fun b u hb t => by
  by_cases e : b = a
  · rw [e, h] at hb; cases hb; exact absurd t n
  · rw [upd_ne e]; exact hb
theorem Kw.updD {Cw : Addr} {H : Hp} {a : Addr} {kvs : List (Key × V)} {o' : HO} (h : H a = some (.dK kvs)) : Kw Cw H (L2.upd H a o') := .upd h fun t => by rcases t with ⟨_, e⟩ | ⟨_, _, _, _, _, e⟩ <;> cases e
theorem WyV.keep {Cw : Addr} {H H' : Hp} {v : V} {k : Wv} (h : WyV Cw H v k) (s : Kw Cw H H') : WyV Cw H' v k := let ⟨x, e, dx, hx⟩ := h; ⟨x, e, dx, s _ _ hx (.inr ⟨_, _, _, _, _, rfl⟩)⟩
theorem WysT.keep {Cw : Addr} {H H' : Hp} {p : Addr} {ks : List Wv} (h : WysT Cw H p ks) (s : Kw Cw H H') : WysT Cw H' p ks := let ⟨vs, e, f⟩ := h; ⟨vs, s _ _ e (.inl ⟨_, rfl⟩), L2.Paired.mapP f fun _ _ x => x.keep s⟩
def RlL (Cw : Addr) (H : Hp) (q : Lr) (r : Rl) : Prop := q.1 = r.1 ∧ q.2.1 = r.2.1 ∧ WysT Cw H q.2.2 r.2.2
theorem rlL_keep {Cw : Addr} {H H' : Hp} {ls : List Lr} {rl : List Rl} (h : Paired (RlL Cw H) ls rl) (s : Kw Cw H H') : Paired (RlL Cw H') ls rl := L2.Paired.mapP h fun _ _ ⟨a, b, c⟩ => ⟨a, b, c.keep s⟩
def stK (ls : List Lr) : List (Key × V) := ls.map fun q => (.inr q.1, .bl q.2.1)
def wyK (ls : List Lr) : List (Key × V) := ls.map fun q => (.inr q.1, .ref q.2.2)
def setR (rl : List Rl) (r : Rl) : List Rl := rl.map fun q => if q.1 = r.1 then r else q
def lookR (rl : List Rl) (z : Str) : Option Rl := rl.find? fun r => decide (r.1 = z)
structure Pol (C Cw : Addr) (H : Hp) (y x m a b : Addr) (rl : List Rl) : Prop where
  obj : ∃ dy, H y = some (.ins C dy [("shape", .ref x), ("_marks", .ref m), ("_starts", .ref a), ("_ways", .ref b)])
  mar : H m = some (.lst (rl.map fun r => .str r.1))
  tb : ∃ ls : List Lr, H a = some (.dK (stK ls)) ∧ H b = some (.dK (wyK ls)) ∧ Paired (RlL Cw H) ls rl
  ne : a ≠ b
  nd : (rl.map (·.1)).Nodup
theorem valV_f {f : Lr → V} (z : Str) : ∀ ls : List Lr, valV (ls.map fun q => ((.inr q.1 : Key), f q)) (.inr z) = (ls.find? fun q => decide (q.1 = z)).map f
  | [] => rfl
  | q :: ls => by
    rw [List.map_cons, List.find?_cons]
    by_cases h : q.1 = z
    · rw [valV_pos (by rw [h]), decide_eq_true h]; rfl
    · rw [valV_neg (fun e => h (by injection e)), decide_eq_false h, valV_f z ls]
theorem find_pair {Cw : Addr} {H : Hp} {z : Str} : ∀ {ls : List Lr} {rl : List Rl}, Paired (RlL Cw H) ls rl → (∃ r q, lookR rl z = some r ∧ (ls.find? fun q => decide (q.1 = z)) = some q ∧ RlL Cw H q r) ∨ (lookR rl z = none ∧ (ls.find? fun q => decide (q.1 = z)) = none)
  | _, _, .nil => .inr ⟨rfl, rfl⟩
  | q :: ls, r :: rl, .cons h t => by
    unfold lookR
    rw [List.find?_cons, List.find?_cons]
    by_cases e : r.1 = z
    · exact .inl ⟨r, q, by rw [decide_eq_true e], by rw [decide_eq_true (h.1.trans e)], h⟩
    · rw [decide_eq_false e, decide_eq_false (fun e' => e (h.1.symm.trans e'))]
      exact find_pair t
theorem valV_st {z : Str} {ls : List Lr} : valV (stK ls) (.inr z) = (ls.find? fun q => decide (q.1 = z)).map fun q => V.bl q.2.1 := valV_f z ls
theorem valV_wy {z : Str} {ls : List Lr} : valV (wyK ls) (.inr z) = (ls.find? fun q => decide (q.1 = z)).map fun q => V.ref q.2.2 := valV_f z ls
theorem find_none {ls : List Lr} {z : Str} (h : z ∉ ls.map (·.1)) : (ls.find? fun q => decide (q.1 = z)) = none := List.find?_eq_none.mpr fun q hq e => h (List.mem_map.mpr ⟨q, hq, of_decide_eq_true e⟩)
theorem find_some {ls : List Lr} {z : Str} (h : z ∈ ls.map (·.1)) : ∃ q, (ls.find? fun q => decide (q.1 = z)) = some q := by
  cases e : ls.find? fun q => decide (q.1 = z) with
  | some q => exact ⟨q, rfl⟩
  | none =>
    obtain ⟨q, hq, e2⟩ := List.mem_map.mp h
    exact absurd (decide_eq_true e2) (by simpa using List.find?_eq_none.mp e q hq)
theorem putK_old {kvs : List (Key × V)} {k : Key} {v : V} (h : (valV kvs k).isSome = true) : putK kvs k v = kvs.map fun kv => if kv.1 = k then (kv.1, v) else kv := by
  unfold putK
  rw [valV_any, h, if_pos rfl]
def setL (ls : List Lr) (z : Str) (st : Bool) (p : Addr) : List Lr := ls.map fun q => if q.1 = z then (q.1, st, p) else q
theorem put_st' {ls : List Lr} {z : Str} {st : Bool} {p : Addr} (h : z ∈ ls.map (·.1)) : putK (stK ls) (.inr z) (.bl st) = stK (setL ls z st p) := by
  obtain ⟨q, hq⟩ := find_some h
  rw [putK_old (by rw [valV_st, hq]; rfl)]
  unfold stK setL
  rw [List.map_map, List.map_map]
  refine List.map_congr_left fun q _ => ?_
  by_cases e : q.1 = z
  · simp [e]
  · simp [e]
theorem put_wy' {ls : List Lr} {z : Str} {st : Bool} {p : Addr} (h : z ∈ ls.map (·.1)) : putK (wyK ls) (.inr z) (.ref p) = wyK (setL ls z st p) := by
  obtain ⟨q, hq⟩ := find_some h
  rw [putK_old (by rw [valV_wy, hq]; rfl)]
  unfold wyK setL
  rw [List.map_map, List.map_map]
  refine List.map_congr_left fun q _ => ?_
  by_cases e : q.1 = z
  · simp [e]
  · simp [e]
theorem setL_pair {Cw : Addr} {H : Hp} {r : Rl} {p : Addr} (w : WysT Cw H p r.2.2) : ∀ {ls : List Lr} {rl : List Rl}, Paired (RlL Cw H) ls rl → Paired (RlL Cw H) (setL ls r.1 r.2.1 p) (setR rl r)
  | _, _, .nil => .nil
  | q :: ls, r' :: rl, .cons h t => by
    refine .cons ?_ (setL_pair w t)
    show RlL Cw H (if q.1 = r.1 then (q.1, r.2.1, p) else q) (if r'.1 = r.1 then r else r')
    by_cases e : r'.1 = r.1
    · rw [if_pos e, if_pos (h.1.trans e)]; exact ⟨h.1.trans e, rfl, w⟩
    · rw [if_neg e, if_neg (fun e' => e (h.1.symm.trans e'))]; exact h
theorem pair_fst {Cw : Addr} {H : Hp} : ∀ {ls : List Lr} {rl : List Rl}, Paired (RlL Cw H) ls rl → ls.map (·.1) = rl.map (·.1)
  | _, _, .nil => rfl
  | q :: ls, r :: rl, .cons h t => by rw [List.map_cons, List.map_cons, h.1, pair_fst t]
theorem setR_fst (rl : List Rl) (r : Rl) : (setR rl r).map (·.1) = rl.map (·.1) := by
  unfold setR
  rw [List.map_map]
  refine List.map_congr_left fun q _ => ?_
  by_cases e : q.1 = r.1
  · simp [e]
  · simp [e]
theorem setRs_fst : ∀ (rs rl : List Rl), (rs.foldl setR rl).map (·.1) = rl.map (·.1)
  | [], _ => rfl
  | r :: rs, rl => by rw [List.foldl_cons, setRs_fst rs, setR_fst]
/-- the rows that are passed in -/
def RwV (Cw : Addr) (H : Hp) (v : V) (r : Rl) : Prop := ∃ p t, v = .ref p ∧ H p = some (.tup [.str r.1, .bl r.2.1, .ref t]) ∧ WysT Cw H t r.2.2
theorem RwV.keep {Cw : Addr} {H H' : Hp} {v : V} {r : Rl} (h : RwV Cw H v r) (s : Kw Cw H H') : RwV Cw H' v r := let ⟨p, t, e, a, b⟩ := h; ⟨p, t, e, s _ _ a (.inl ⟨_, rfl⟩), b.keep s⟩
def emptyR (rs : List Row) : List Rl := (mks rs).map fun z => (z, false, [])
theorem polF1 (x m a b : Addr) : List.lookup ("shape" : Str) [(("shape" : Str), V.ref x), ("_marks", V.ref m), ("_starts", V.ref a), ("_ways", V.ref b)] = some (V.ref x) := rfl
theorem polF2 (x m a b : Addr) : List.lookup ("_marks" : Str) [(("shape" : Str), V.ref x), ("_marks", V.ref m), ("_starts", V.ref a), ("_ways", V.ref b)] = some (V.ref m) := rfl
theorem polF3 (x m a b : Addr) : List.lookup ("_starts" : Str) [(("shape" : Str), V.ref x), ("_marks", V.ref m), ("_starts", V.ref a), ("_ways", V.ref b)] = some (V.ref a) := rfl
theorem polF4 (x m a b : Addr) : List.lookup ("_ways" : Str) [(("shape" : Str), V.ref x), ("_marks", V.ref m), ("_starts", V.ref a), ("_ways", V.ref b)] = some (V.ref b) := rfl
end My

namespace My
open PySem L2
def spPInit0 (K : PySem.W.Frag) (C Cw Cs : Addr) : Sp := fun vs H Q _ => ∃ (y dy x q : Addr) (rs : List Row), vs = [.ref y, .ref x, .ref q] ∧ H y = some (.ins C dy []) ∧ ShO Cs H x rs ∧ (mks rs).Nodup ∧ rs.length ≤ 100 ∧ (∀ H', SqT K H' q []) ∧
  ∀ m a b H', But y H H' → H m = none → H a = none → H b = none → Pol C Cw H' y x m a b (emptyR rs) → Q .non H'
section
variable {w : World} {K : PySem.W.Frag} {mg : Str → Option Value} {base : Heap}
set_option maxHeartbeats 16000000 in
set_option pp.maxSteps 600 in
theorem ok_Policy_init (T : Txt K mg) : FnOk PP w K mg base CX0 8 T.a_Policy_init T.fd_Policy_init ["self", "shape", "rows"] (spPInit0 K T.c_Policy T.c_Way T.c_Shape) := by
  refine T.F_Policy_init.ok0 sc_Policy_init (fun vs H Q E h => ?_) (fun cdv A outer s H vs Q E hr h => ?_)
  · obtain ⟨y, dy, x, q, rs, rfl, _⟩ := h; rfl
  · obtain ⟨y, dy, x, q, rs, rfl, hy, hS, nd, lr, hq, qq⟩ := h
    refine ⟨_, (pss_cons (ps_set (i := 3) sc_Policy_init.nd rfl (.inl rfl) (pe_dnewK))
      (pss_cons (ps_set (i := 4) sc_Policy_init.nd rfl (.inl rfl) (pe_dnewK))
      (pss_cons (ps_for PassesOwn.never rfl (pi_own T.m_Shape_iter (ok_Shape_iter T) (hr.mono (by omega)) (pv 1)) (pg_name (i := 5) sc_Policy_init.nd rfl (.inl rfl)) (pss_cons (ps_dput (hu_of hr) (pv 3) (pv 5) (pe_bl) rfl)
      (pss_one (ps_dput (hu_of hr) (pv 4) (pv 5) (pe_tup pa_nil) rfl))))
      (pss_cons (ps_for PassesOwn.never rfl (pi_tup (pv 2)) (pg_tup rfl (pgs_cons (pg_name (i := 5) sc_Policy_init.nd rfl (.inl rfl)) (pgs_cons (pg_name (i := 6) sc_Policy_init.nd rfl (.inl rfl)) (pgs_cons (pg_name (i := 7) sc_Policy_init.nd rfl (.inl rfl)) pgs_nil)))) (pss_cons (ps_if (pt_cmpR (op_ninKd (hu_of hr)) (pv 5) (pv 3) (by with_unfolding_all rfl)) (pss_one (ps_never)) pss_nil)
      (pss_cons (ps_dput (hu_of hr) (pv 3) (pv 5) (pv 6) rfl)
      (pss_one (ps_dput (hu_of hr) (pv 4) (pv 5) (pe_callTy call_tuple_of (by rfl) T.n_tuple (by decide +kernel) (pa_cons (pv 7) pa_nil)) rfl)))))
      (pss_cons (ps_fld (pv 0) (pv 1) rfl)
      (pss_cons (ps_fld (pv 0) (pe_callTy (call_listI T.m_Shape_iter (ok_Shape_iter T) T.m_Shape_len (ok_Shape_len T) T.b_Shape_len rfl (hr.mono (by omega))) (by rfl) T.n_list (by decide +kernel) (pa_cons (pv 1) pa_nil)) rfl)
      (pss_cons (ps_fld (pv 0) (pv 3) rfl)
      (pss_one (ps_fld (pv 0) (pv 4) rfl))))))))), ?_⟩
    have big : 100000 < sizeLine := by decide
    obtain ⟨dx, l, mm, vs0, hx, hl, hrs, hmm⟩ := hS
    have lmk : (mks rs).length = rs.length := by unfold mks; rw [List.length_map]
    refine fun a ha => fun b hb => ?_
    have sa := same_new (o := .dK []) ha
    have sb := same_new (o := .dK []) hb
    have nab : a ≠ b := fun e => by rw [← e, upd_same] at hb; cases hb
    have hb0 := sa.free hb
    have e1 : (upd (upd H a (.dK [])) b (.dK [])) a = some (.dK (stK [])) := by rw [upd_ne nab, upd_same]; rfl
    have e2 : (upd (upd H a (.dK [])) b (.dK [])) b = some (.dK (wyK [])) := upd_same
    have sab := sa.trans sb
    revert e1 e2 sab
    generalize upd (upd H a (.dK [])) b (.dK []) = H2
    intro e1 e2 sab
    refine ⟨_, rfl, x, dx, mm, _, mksV rs, rfl, sab _ _ hx, sh_look2 l mm, SqL.of (sab _ _ hmm), for_list (K := K) (a := mm) (xs := mksV rs) (fun i σ H' => ∃ (x5 : Option V) (ls : List Lr), σ = [some (.ref y), some (.ref x), some (.ref q), some (.ref a), some (.ref b), x5, none, none] ∧ Same H H' ∧ H' a = some (.dK (stK ls)) ∧ H' b = some (.dK (wyK ls)) ∧ Paired (RlL T.c_Way H') ls (((mks rs).take i).map fun z => (z, false, []))) ⟨_, [], rfl, sab, e1, e2, by rw [List.take_zero]; exact .nil⟩ (fun i σ H' _ ⟨_, _, _, s, _⟩ => SqL.of (s _ _ hmm)) ?_ ?_⟩
    · rintro i v σ H3 hv ⟨x5, ls, rfl, s3, h3a, h3b, pr⟩
      obtain ⟨z, hz, rfl⟩ : ∃ z, (mks rs)[i]? = some z ∧ v = .str z := by
        unfold mksV at hv
        rw [List.getElem?_map] at hv
        cases e : rs[i]? with
        | none => rw [e] at hv; cases hv
        | some r => rw [e] at hv; exact ⟨r.mark, by unfold mks; rw [List.getElem?_map, e]; rfl, (Option.some.inj hv).symm⟩
      have hi := (List.getElem?_eq_some_iff.mp hz).1
      have lls : ls.length = i := by rw [pair_len' pr, List.length_map, List.length_take]; omega
      have fs := pair_fst pr
      rw [List.map_map] at fs
      have fs : ls.map (·.1) = (mks rs).take i := by rw [fs]; exact List.map_id _
      have nz : z ∉ ls.map (·.1) := by rw [fs]; exact fun h => (nodup_take.mp nd) i z hz h
      refine ⟨_, rfl, _, rfl, a, _, rfl, DPut.k (k := .inr z) h3a (by unfold stK; rw [List.length_map]; omega), ?_⟩
      have k3 : Kw T.c_Way H3 (upd H3 a (.dK (putK (stK ls) (.inr z) (.bl false)))) := .updD h3a
      have s4 := same_mut (o := .dK (putK (stK ls) (.inr z) (.bl false))) s3 ha
      have h4a : (upd H3 a (.dK (putK (stK ls) (.inr z) (.bl false)))) a = some (.dK (stK ls ++ [(.inr z, .bl false)])) := by rw [upd_same, L2.putK_new _ (by rw [valV_st, find_none nz]; rfl)]
      have h4b : (upd H3 a (.dK (putK (stK ls) (.inr z) (.bl false)))) b = some (.dK (wyK ls)) := by rw [upd_ne nab.symm]; exact h3b
      revert k3 s4 h4a h4b
      generalize upd H3 a (.dK (putK (stK ls) (.inr z) (.bl false))) = H4
      intro k3 s4 h4a h4b
      refine ⟨Nat.zero_le _, fun p np => ?_⟩
      have k4 : Kw T.c_Way H4 (upd H4 p (.tup [])) := .same (same_new np)
      have s5 := s4.trans (same_new (o := .tup []) np)
      have h5p : (upd H4 p (.tup [])) p = some (.tup []) := upd_same
      have h5a := same_new (o := .tup []) np _ _ h4a
      have h5b := same_new (o := .tup []) np _ _ h4b
      revert k4 s5 h5p h5a h5b
      generalize upd H4 p (.tup []) = H5
      intro k4 s5 h5p h5a h5b
      refine ⟨_, rfl, _, rfl, b, _, rfl, DPut.k (k := .inr z) h5b (by unfold wyK; rw [List.length_map]; omega), ?_⟩
      have k5 : Kw T.c_Way H5 (upd H5 b (.dK (putK (wyK ls) (.inr z) (.ref p)))) := .updD h5b
      refine ⟨_, ls ++ [(z, false, p)], rfl, same_mut s5 hb0, ?_, ?_, ?_⟩
      · rw [upd_ne nab, h5a]; unfold stK; rw [List.map_append]; rfl
      · rw [upd_same, L2.putK_new _ (by rw [valV_wy, find_none nz]; rfl)]; unfold wyK; rw [List.map_append]; rfl
      · rw [List.take_succ, hz, Option.toList_some, List.map_append]
        exact pair_app' (rlL_keep pr ((k3.trans k4).trans k5)) (.cons ⟨rfl, rfl, [], k5 _ _ h5p (.inl ⟨_, rfl⟩), .nil⟩ .nil)
    rintro σ H3 ⟨x5, ls0, rfl, s3, h3a, h3b, pr0⟩
    rw [show (mksV rs).length = (mks rs).length by unfold mksV; rw [List.length_map, lmk], List.take_length] at pr0
    refine ⟨_, rfl, q, rfl, ⟨_, hq _⟩, for_tup (K := K) (a := q) (xs := []) (fun i σ H' => ∃ (x5 x6 x7 : Option V), σ = [some (.ref y), some (.ref x), some (.ref q), some (.ref a), some (.ref b), x5, x6, x7] ∧ H' = H3) ⟨_, _, _, rfl, rfl⟩ (fun i σ H' _ _ => hq _) (fun i v σ H' hv _ => by simp at hv) ?_⟩
    rintro σ H4 ⟨x5', x6, x7, rfl, rfl⟩
    have s4 := s3
    have h4a := h3a
    have h4b := h3b
    have pr : Paired (RlL T.c_Way H4) ls0 (emptyR rs) := pr0
    obtain ⟨ls, els⟩ : ∃ ls, ls = ls0 := ⟨_, rfl⟩
    rw [← els] at h4a h4b pr
    have lmr : (emptyR rs).map (·.1) = mks rs := by
      unfold emptyR
      rw [List.map_map]; exact List.map_id _
    have nxy : x ≠ y := fun e => by
      rw [e, hy] at hx
      have hx := Option.some.inj hx
      injection hx with _ _ z
      exact nomatch z
    have nly : l ≠ y := fun e => by rw [e, hy] at hl; cases hl
    have nmy : mm ≠ y := fun e => by rw [e, hy] at hmm; cases hmm
    have nay : a ≠ y := fun e => by rw [e, hy] at ha; cases ha
    have nby : b ≠ y := fun e => by rw [e, hy] at hb0; cases hb0
    refine ⟨_, rfl, _, rfl, y, _, dy, _, rfl, s4 _ _ hy, T.cl_Policy, T.no_Policy_shape, by show 0 < 1000; decide, ?_⟩
    have k5 : Kw T.c_Way H4 (upd H4 y (.ins T.c_Policy dy (putF "shape" (.ref x) []))) := .upd (s4 _ _ hy) fun t => by
      rcases t with ⟨_, e⟩ | ⟨_, _, _, _, _, e⟩
      · cases e
      · injection e with _ _ e; exact nomatch e
    have b5 : But y H (upd H4 y (.ins T.c_Policy dy (putF "shape" (.ref x) []))) := fun c o n e => by rw [upd_ne n]; exact s4 _ _ e
    have h5y : (upd H4 y (.ins T.c_Policy dy (putF "shape" (.ref x) []))) y = some (.ins T.c_Policy dy [("shape", .ref x)]) := upd_same
    have h5a : (upd H4 y (.ins T.c_Policy dy (putF "shape" (.ref x) []))) a = some (.dK (stK ls)) := by rw [upd_ne nay]; exact h4a
    have h5b : (upd H4 y (.ins T.c_Policy dy (putF "shape" (.ref x) []))) b = some (.dK (wyK ls)) := by rw [upd_ne nby]; exact h4b
    revert k5 b5 h5y h5a h5b
    generalize upd H4 y (.ins T.c_Policy dy (putF "shape" (.ref x) [])) = H5
    intro k5 b5 h5y h5a h5b
    have sh5 : ShO T.c_Shape H5 x rs := ⟨dx, l, mm, vs0, b5 _ _ nxy hx, b5 _ _ nly hl, rowsT_keep hrs (fun c xs e => b5 _ _ (fun z => by rw [z, hy] at e; cases e) e), b5 _ _ nmy hmm⟩
    refine ⟨_, rfl, x, dx, mm, _, mksV rs, rfl, b5 _ _ nxy hx, sh_look2 l mm, SqL.of (b5 _ _ nmy hmm), by unfold mksV; rw [List.length_map]; omega, fun c nc => ⟨x, rs, rfl, sh5.same (same_new nc), ⟨_, rfl, by omega⟩, rfl⟩, fun m nm => ?_⟩
    have nmy' : m ≠ y := fun e => by rw [e, h5y] at nm; cases nm
    have nma : m ≠ a := fun e => by rw [e, h5a] at nm; cases nm
    have nmb : m ≠ b := fun e => by rw [e, h5b] at nm; cases nm
    refine ⟨_, rfl, y, _, dy, _, rfl, same_new nm _ _ h5y, T.cl_Policy, T.no_Policy__marks, by show 1 < 1000; decide, ?_⟩
    refine ⟨_, rfl, _, rfl, y, _, dy, _, rfl, upd_same, T.cl_Policy, T.no_Policy__starts, by show 2 < 1000; decide, ?_⟩
    refine ⟨_, rfl, _, rfl, y, _, dy, _, rfl, upd_same, T.cl_Policy, T.no_Policy__ways, by show 3 < 1000; decide, ?_⟩
    have nm0 : H m = none := b5.free nmy' nm
    have at' : ∀ {c : Addr} {o1 o2 o3 o4 : HO}, c ≠ y → (upd (upd (upd (upd H5 m o1) y o2) y o3) y o4) c = (upd H5 m o1) c := fun n => by rw [upd_ne n, upd_ne n, upd_ne n]
    refine qq m a b _ (fun c o n e => ?_) nm0 ha hb0 ⟨⟨dy, upd_same⟩, ?_, ⟨ls, ?_, ?_, rlL_keep pr (k5.trans fun c o e t => ?_)⟩, nab, by rw [lmr]; exact nd⟩
    · rw [at' n, upd_ne (fun z => by rw [z, nm0] at e; cases e)]; exact b5 _ _ n e
    · rw [at' nmy', upd_same]
      unfold mksV
      rw [show (List.map (fun r => V.str r.1) (emptyR rs)) = ((emptyR rs).map (·.1)).map V.str by rw [List.map_map]; rfl, lmr]
      unfold mks
      rw [List.map_map]; rfl
    · rw [at' nay, upd_ne nma.symm]; exact h5a
    · rw [at' nby, upd_ne nmb.symm]; exact h5b
    · have ncy : c ≠ y := fun z => by
        rw [z, h5y] at e; cases e
        rcases t with ⟨_, e⟩ | ⟨_, _, _, _, _, e⟩
        · cases e
        · injection e with _ _ e; exact nomatch e
      rw [at' ncy]; exact same_new nm _ _ e
end
end My

namespace My
open PySem L2
def spPInit (C Cw Cs : Addr) : Sp := fun vs H Q _ => ∃ (y dy x q : Addr) (us : List V) (rows : List Rl) (rs : List Row), vs = [.ref y, .ref x, .ref q] ∧ H y = some (.ins C dy []) ∧ ShO Cs H x rs ∧ (mks rs).Nodup ∧ rs.length ≤ 100 ∧ H q = some (.lst us) ∧ Paired (RwV Cw H) us rows ∧ (∀ r ∈ rows, r.1 ∈ mks rs) ∧
  ∀ m a b H', But y H H' → H m = none → H a = none → H b = none → Pol C Cw H' y x m a b (rows.foldl setR (emptyR rs)) → Q .non H'
section
variable {w : World} {K : PySem.W.Frag} {mg : Str → Option Value} {base : Heap}
set_option maxHeartbeats 16000000 in
set_option pp.maxSteps 600 in
theorem ok_Policy_init_l (T : Txt K mg) : FnOk PP w K mg base CX0 8 T.a_Policy_init T.fd_Policy_init ["self", "shape", "rows"] (spPInit T.c_Policy T.c_Way T.c_Shape) := by
  refine T.F_Policy_init.ok0 sc_Policy_init (fun vs H Q E h => ?_) (fun cdv A outer s H vs Q E hr h => ?_)
  · obtain ⟨y, dy, x, q, us, rows, rs, rfl, _⟩ := h; rfl
  · obtain ⟨y, dy, x, q, us, rows, rs, rfl, hy, hS, nd, lr, hq, hR, hm, qq⟩ := h
    refine ⟨_, (pss_cons (ps_set (i := 3) sc_Policy_init.nd rfl (.inl rfl) (pe_dnewK))
      (pss_cons (ps_set (i := 4) sc_Policy_init.nd rfl (.inl rfl) (pe_dnewK))
      (pss_cons (ps_for PassesOwn.never rfl (pi_own T.m_Shape_iter (ok_Shape_iter T) (hr.mono (by omega)) (pv 1)) (pg_name (i := 5) sc_Policy_init.nd rfl (.inl rfl)) (pss_cons (ps_dput (hu_of hr) (pv 3) (pv 5) (pe_bl) rfl)
      (pss_one (ps_dput (hu_of hr) (pv 4) (pv 5) (pe_tup pa_nil) rfl))))
      (pss_cons (ps_for PassesOwn.never rfl (pi_list (pv 2)) (pg_tup rfl (pgs_cons (pg_name (i := 5) sc_Policy_init.nd rfl (.inl rfl)) (pgs_cons (pg_name (i := 6) sc_Policy_init.nd rfl (.inl rfl)) (pgs_cons (pg_name (i := 7) sc_Policy_init.nd rfl (.inl rfl)) pgs_nil)))) (pss_cons (ps_if (pt_cmpR (op_ninKd (hu_of hr)) (pv 5) (pv 3) (by with_unfolding_all rfl)) (pss_one (ps_never)) pss_nil)
      (pss_cons (ps_dput (hu_of hr) (pv 3) (pv 5) (pv 6) rfl)
      (pss_one (ps_dput (hu_of hr) (pv 4) (pv 5) (pe_callTy call_tuple_of (by rfl) T.n_tuple (by decide +kernel) (pa_cons (pv 7) pa_nil)) rfl)))))
      (pss_cons (ps_fld (pv 0) (pv 1) rfl)
      (pss_cons (ps_fld (pv 0) (pe_callTy (call_listI T.m_Shape_iter (ok_Shape_iter T) T.m_Shape_len (ok_Shape_len T) T.b_Shape_len rfl (hr.mono (by omega))) (by rfl) T.n_list (by decide +kernel) (pa_cons (pv 1) pa_nil)) rfl)
      (pss_cons (ps_fld (pv 0) (pv 3) rfl)
      (pss_one (ps_fld (pv 0) (pv 4) rfl))))))))), ?_⟩
    have big : 100000 < sizeLine := by decide
    obtain ⟨dx, l, mm, vs0, hx, hl, hrs, hmm⟩ := hS
    have lus := pair_len' hR
    have lmk : (mks rs).length = rs.length := by unfold mks; rw [List.length_map]
    refine fun a ha => fun b hb => ?_
    have sa := same_new (o := .dK []) ha
    have sb := same_new (o := .dK []) hb
    have nab : a ≠ b := fun e => by rw [← e, upd_same] at hb; cases hb
    have hb0 := sa.free hb
    have e1 : (upd (upd H a (.dK [])) b (.dK [])) a = some (.dK (stK [])) := by rw [upd_ne nab, upd_same]; rfl
    have e2 : (upd (upd H a (.dK [])) b (.dK [])) b = some (.dK (wyK [])) := upd_same
    have sab := sa.trans sb
    revert e1 e2 sab
    generalize upd (upd H a (.dK [])) b (.dK []) = H2
    intro e1 e2 sab
    refine ⟨_, rfl, x, dx, mm, _, mksV rs, rfl, sab _ _ hx, sh_look2 l mm, SqL.of (sab _ _ hmm), for_list (K := K) (a := mm) (xs := mksV rs) (fun i σ H' => ∃ (x5 : Option V) (ls : List Lr), σ = [some (.ref y), some (.ref x), some (.ref q), some (.ref a), some (.ref b), x5, none, none] ∧ Same H H' ∧ H' a = some (.dK (stK ls)) ∧ H' b = some (.dK (wyK ls)) ∧ Paired (RlL T.c_Way H') ls (((mks rs).take i).map fun z => (z, false, []))) ⟨_, [], rfl, sab, e1, e2, by rw [List.take_zero]; exact .nil⟩ (fun i σ H' _ ⟨_, _, _, s, _⟩ => SqL.of (s _ _ hmm)) ?_ ?_⟩
    · rintro i v σ H3 hv ⟨x5, ls, rfl, s3, h3a, h3b, pr⟩
      obtain ⟨z, hz, rfl⟩ : ∃ z, (mks rs)[i]? = some z ∧ v = .str z := by
        unfold mksV at hv
        rw [List.getElem?_map] at hv
        cases e : rs[i]? with
        | none => rw [e] at hv; cases hv
        | some r => rw [e] at hv; exact ⟨r.mark, by unfold mks; rw [List.getElem?_map, e]; rfl, (Option.some.inj hv).symm⟩
      have hi := (List.getElem?_eq_some_iff.mp hz).1
      have lls : ls.length = i := by rw [pair_len' pr, List.length_map, List.length_take]; omega
      have fs := pair_fst pr
      rw [List.map_map] at fs
      have fs : ls.map (·.1) = (mks rs).take i := by rw [fs]; exact List.map_id _
      have nz : z ∉ ls.map (·.1) := by rw [fs]; exact fun h => (nodup_take.mp nd) i z hz h
      refine ⟨_, rfl, _, rfl, a, _, rfl, DPut.k (k := .inr z) h3a (by unfold stK; rw [List.length_map]; omega), ?_⟩
      have k3 : Kw T.c_Way H3 (upd H3 a (.dK (putK (stK ls) (.inr z) (.bl false)))) := .updD h3a
      have s4 := same_mut (o := .dK (putK (stK ls) (.inr z) (.bl false))) s3 ha
      have h4a : (upd H3 a (.dK (putK (stK ls) (.inr z) (.bl false)))) a = some (.dK (stK ls ++ [(.inr z, .bl false)])) := by rw [upd_same, L2.putK_new _ (by rw [valV_st, find_none nz]; rfl)]
      have h4b : (upd H3 a (.dK (putK (stK ls) (.inr z) (.bl false)))) b = some (.dK (wyK ls)) := by rw [upd_ne nab.symm]; exact h3b
      revert k3 s4 h4a h4b
      generalize upd H3 a (.dK (putK (stK ls) (.inr z) (.bl false))) = H4
      intro k3 s4 h4a h4b
      refine ⟨Nat.zero_le _, fun p np => ?_⟩
      have k4 : Kw T.c_Way H4 (upd H4 p (.tup [])) := .same (same_new np)
      have s5 := s4.trans (same_new (o := .tup []) np)
      have h5p : (upd H4 p (.tup [])) p = some (.tup []) := upd_same
      have h5a := same_new (o := .tup []) np _ _ h4a
      have h5b := same_new (o := .tup []) np _ _ h4b
      revert k4 s5 h5p h5a h5b
      generalize upd H4 p (.tup []) = H5
      intro k4 s5 h5p h5a h5b
      refine ⟨_, rfl, _, rfl, b, _, rfl, DPut.k (k := .inr z) h5b (by unfold wyK; rw [List.length_map]; omega), ?_⟩
      have k5 : Kw T.c_Way H5 (upd H5 b (.dK (putK (wyK ls) (.inr z) (.ref p)))) := .updD h5b
      refine ⟨_, ls ++ [(z, false, p)], rfl, same_mut s5 hb0, ?_, ?_, ?_⟩
      · rw [upd_ne nab, h5a]; unfold stK; rw [List.map_append]; rfl
      · rw [upd_same, L2.putK_new _ (by rw [valV_wy, find_none nz]; rfl)]; unfold wyK; rw [List.map_append]; rfl
      · rw [List.take_succ, hz, Option.toList_some, List.map_append]
        exact pair_app' (rlL_keep pr ((k3.trans k4).trans k5)) (.cons ⟨rfl, rfl, [], k5 _ _ h5p (.inl ⟨_, rfl⟩), .nil⟩ .nil)
    rintro σ H3 ⟨x5, ls0, rfl, s3, h3a, h3b, pr0⟩
    rw [show (mksV rs).length = (mks rs).length by unfold mksV; rw [List.length_map, lmk], List.take_length] at pr0
    have kq := Kw.same (Cw := T.c_Way) s3
    refine ⟨_, rfl, q, rfl, ⟨_, SqL.of (s3 _ _ hq)⟩, for_list (K := K) (a := q) (xs := us) (fun i σ H' => ∃ (x5 x6 x7 : Option V) (ls : List Lr), σ = [some (.ref y), some (.ref x), some (.ref q), some (.ref a), some (.ref b), x5, x6, x7] ∧ Same H H' ∧ H' a = some (.dK (stK ls)) ∧ H' b = some (.dK (wyK ls)) ∧ Paired (RlL T.c_Way H') ls ((rows.take i).foldl setR (emptyR rs))) ⟨_, _, _, ls0, rfl, s3, h3a, h3b, pr0⟩ (fun i σ H' _ ⟨_, _, _, _, _, s, _⟩ => SqL.of (s _ _ hq)) ?_ ?_⟩
    · rintro i v σ H4 hv ⟨x5', x6, x7, ls, rfl, s4, h4a, h4b, pr⟩
      obtain ⟨r, hr, p, t, rfl, hp, ht⟩ := pair_get' hR hv
      have fs : ls.map (·.1) = mks rs := by
        rw [pair_fst pr, setRs_fst]
        unfold emptyR
        rw [List.map_map]; exact List.map_id _
      have lls : ls.length = (mks rs).length := by rw [← fs, List.length_map]
      have mz : r.1 ∈ ls.map (·.1) := by rw [fs]; exact hm r (List.mem_of_getElem? hr)
      obtain ⟨q0, hq0⟩ := find_some mz
      obtain ⟨ts, hts, htw⟩ := ht.keep (Kw.same s4)
      have w4 : WysT T.c_Way H4 t r.2.2 := ⟨ts, hts, htw⟩
      refine ⟨p, _, rfl, SqT.of (s4 _ _ hp), rfl, _, _, rfl, _, _, rfl, _, _, rfl, rfl, ?_⟩
      refine ⟨_, rfl, _, rfl, a, _, rfl, DGet.k (k := .inr r.1) h4a, _, rfl, iteNo (by rw [valV_st, hq0]; rfl) ?_⟩
      refine ⟨_, rfl, _, rfl, _, rfl, a, _, rfl, DPut.k (k := .inr r.1) h4a (by unfold stK; rw [List.length_map]; omega), ?_⟩
      rw [put_st' (p := t) mz]
      have k4 : Kw T.c_Way H4 (upd H4 a (.dK (stK (setL ls r.1 r.2.1 t)))) := .updD h4a
      have h5b : (upd H4 a (.dK (stK (setL ls r.1 r.2.1 t)))) b = some (.dK (wyK ls)) := by rw [upd_ne nab.symm]; exact h4b
      have h5t := k4 _ _ hts (.inl ⟨_, rfl⟩)
      refine ⟨_, rfl, t, _, rfl, .inr ⟨SqT.of h5t, ?_⟩⟩
      refine ⟨_, rfl, _, rfl, b, _, rfl, DPut.k (k := .inr r.1) h5b (by unfold wyK; rw [List.length_map]; omega), ?_⟩
      rw [put_wy' (st := r.2.1) mz]
      have k5 : Kw T.c_Way (upd H4 a (.dK (stK (setL ls r.1 r.2.1 t)))) (upd (upd H4 a (.dK (stK (setL ls r.1 r.2.1 t)))) b (.dK (wyK (setL ls r.1 r.2.1 t)))) := .updD h5b
      refine ⟨_, _, _, setL ls r.1 r.2.1 t, rfl, same_mut (same_mut s4 ha) hb0, by rw [upd_ne nab, upd_same], upd_same, ?_⟩
      rw [List.take_succ, hr, Option.toList_some, List.foldl_append]
      exact rlL_keep (setL_pair (w4) pr) (k4.trans k5)
    rintro σ H4 ⟨x5', x6, x7, ls, rfl, s4, h4a, h4b, pr⟩
    rw [lus, List.take_length] at pr
    have lmr : (rows.foldl setR (emptyR rs)).map (·.1) = mks rs := by
      rw [setRs_fst]
      unfold emptyR
      rw [List.map_map]; exact List.map_id _
    have nxy : x ≠ y := fun e => by
      rw [e, hy] at hx
      have hx := Option.some.inj hx
      injection hx with _ _ z
      exact nomatch z
    have nly : l ≠ y := fun e => by rw [e, hy] at hl; cases hl
    have nmy : mm ≠ y := fun e => by rw [e, hy] at hmm; cases hmm
    have nay : a ≠ y := fun e => by rw [e, hy] at ha; cases ha
    have nby : b ≠ y := fun e => by rw [e, hy] at hb0; cases hb0
    refine ⟨_, rfl, _, rfl, y, _, dy, _, rfl, s4 _ _ hy, T.cl_Policy, T.no_Policy_shape, by show 0 < 1000; decide, ?_⟩
    have k5 : Kw T.c_Way H4 (upd H4 y (.ins T.c_Policy dy (putF "shape" (.ref x) []))) := .upd (s4 _ _ hy) fun t => by
      rcases t with ⟨_, e⟩ | ⟨_, _, _, _, _, e⟩
      · cases e
      · injection e with _ _ e; exact nomatch e
    have b5 : But y H (upd H4 y (.ins T.c_Policy dy (putF "shape" (.ref x) []))) := fun c o n e => by rw [upd_ne n]; exact s4 _ _ e
    have h5y : (upd H4 y (.ins T.c_Policy dy (putF "shape" (.ref x) []))) y = some (.ins T.c_Policy dy [("shape", .ref x)]) := upd_same
    have h5a : (upd H4 y (.ins T.c_Policy dy (putF "shape" (.ref x) []))) a = some (.dK (stK ls)) := by rw [upd_ne nay]; exact h4a
    have h5b : (upd H4 y (.ins T.c_Policy dy (putF "shape" (.ref x) []))) b = some (.dK (wyK ls)) := by rw [upd_ne nby]; exact h4b
    revert k5 b5 h5y h5a h5b
    generalize upd H4 y (.ins T.c_Policy dy (putF "shape" (.ref x) [])) = H5
    intro k5 b5 h5y h5a h5b
    have sh5 : ShO T.c_Shape H5 x rs := ⟨dx, l, mm, vs0, b5 _ _ nxy hx, b5 _ _ nly hl, rowsT_keep hrs (fun c xs e => b5 _ _ (fun z => by rw [z, hy] at e; cases e) e), b5 _ _ nmy hmm⟩
    refine ⟨_, rfl, x, dx, mm, _, mksV rs, rfl, b5 _ _ nxy hx, sh_look2 l mm, SqL.of (b5 _ _ nmy hmm), by unfold mksV; rw [List.length_map]; omega, fun c nc => ⟨x, rs, rfl, sh5.same (same_new nc), ⟨_, rfl, by omega⟩, rfl⟩, fun m nm => ?_⟩
    have nmy' : m ≠ y := fun e => by rw [e, h5y] at nm; cases nm
    have nma : m ≠ a := fun e => by rw [e, h5a] at nm; cases nm
    have nmb : m ≠ b := fun e => by rw [e, h5b] at nm; cases nm
    refine ⟨_, rfl, y, _, dy, _, rfl, same_new nm _ _ h5y, T.cl_Policy, T.no_Policy__marks, by show 1 < 1000; decide, ?_⟩
    refine ⟨_, rfl, _, rfl, y, _, dy, _, rfl, upd_same, T.cl_Policy, T.no_Policy__starts, by show 2 < 1000; decide, ?_⟩
    refine ⟨_, rfl, _, rfl, y, _, dy, _, rfl, upd_same, T.cl_Policy, T.no_Policy__ways, by show 3 < 1000; decide, ?_⟩
    have nm0 : H m = none := b5.free nmy' nm
    have at' : ∀ {c : Addr} {o1 o2 o3 o4 : HO}, c ≠ y → (upd (upd (upd (upd H5 m o1) y o2) y o3) y o4) c = (upd H5 m o1) c := fun n => by rw [upd_ne n, upd_ne n, upd_ne n]
    refine qq m a b _ (fun c o n e => ?_) nm0 ha hb0 ⟨⟨dy, upd_same⟩, ?_, ⟨ls, ?_, ?_, rlL_keep pr (k5.trans fun c o e t => ?_)⟩, nab, by rw [lmr]; exact nd⟩
    · rw [at' n, upd_ne (fun z => by rw [z, nm0] at e; cases e)]; exact b5 _ _ n e
    · rw [at' nmy', upd_same]
      unfold mksV
      rw [show (List.map (fun r => V.str r.1) (rows.foldl setR (emptyR rs))) = ((rows.foldl setR (emptyR rs)).map (·.1)).map V.str by rw [List.map_map]; rfl, lmr]
      unfold mks
      rw [List.map_map]; rfl
    · rw [at' nay, upd_ne nma.symm]; exact h5a
    · rw [at' nby, upd_ne nmb.symm]; exact h5b
    · have ncy : c ≠ y := fun z => by
        rw [z, h5y] at e; cases e
        rcases t with ⟨_, e⟩ | ⟨_, _, _, _, _, e⟩
        · cases e
        · injection e with _ _ e; exact nomatch e
      rw [at' ncy]; exact same_new nm _ _ e
end
end My

namespace My
open PySem L2
theorem find_at : ∀ {ls : List Lr} {i : Nat} {q : Lr}, (ls.map (·.1)).Nodup → ls[i]? = some q → (ls.find? fun p => decide (p.1 = q.1)) = some q
  | [], _, _, _, e => by simp at e
  | q0 :: ls, 0, q, _, e => by
    simp at e
    rw [List.find?_cons, decide_eq_true (by rw [e])]
    exact congrArg some e
  | q0 :: ls, i + 1, q, nd, e => by
    have e : ls[i]? = some q := by simpa using e
    have nd := List.nodup_cons.mp (by simpa using nd : (q0.1 :: ls.map (·.1)).Nodup)
    have ne : q0.1 ≠ q.1 := fun h => nd.1 (h ▸ List.mem_map.mpr ⟨q, List.mem_of_getElem? e, rfl⟩)
    rw [List.find?_cons, decide_eq_false ne]
    exact find_at nd.2 e
theorem dget_st {H : Hp} {a : Addr} {ls : List Lr} {z : Str} {q : Lr} (h : H a = some (.dK (stK ls))) (e : (ls.find? fun p => decide (p.1 = z)) = some q) : DGet H a (.str z) (some (.bl q.2.1)) := by
  have d := DGet.k (k := .inr z) h
  rw [valV_st, e] at d; exact d
theorem dget_wy {H : Hp} {a : Addr} {ls : List Lr} {z : Str} {q : Lr} (h : H a = some (.dK (wyK ls))) (e : (ls.find? fun p => decide (p.1 = z)) = some q) : DGet H a (.str z) (some (.ref q.2.2)) := by
  have d := DGet.k (k := .inr z) h
  rw [valV_wy, e] at d; exact d
theorem Pol.same {C Cw : Addr} {H H' : Hp} {y x m a b : Addr} {rl : List Rl} (P : Pol C Cw H y x m a b rl) (s : Same H H') : Pol C Cw H' y x m a b rl := by
  obtain ⟨⟨dy, hy⟩, hm, ⟨ls, ha, hb, pr⟩, ne, nd⟩ := P
  exact ⟨⟨dy, s _ _ hy⟩, s _ _ hm, ⟨ls, s _ _ ha, s _ _ hb, rlL_keep pr (.same s)⟩, ne, nd⟩
theorem Pol.le {C Cw : Addr} {A : List Addr} {H H' : Hp} {y x m a b : Addr} {rl : List Rl} (P : Pol C Cw H y x m a b rl) (s : Le A H H') (k : Kw Cw H H') (n : ∀ c ∈ [y, m, a, b], c ∉ A) : Pol C Cw H' y x m a b rl := by
  obtain ⟨⟨dy, hy⟩, hm, ⟨ls, ha, hb, pr⟩, ne, nd⟩ := P
  exact ⟨⟨dy, s _ _ (n y (by simp)) hy⟩, s _ _ (n m (by simp)) hm, ⟨ls, s _ _ (n a (by simp)) ha, s _ _ (n b (by simp)) hb, rlL_keep pr k⟩, ne, nd⟩
theorem fold_setR (f : Str → Rl) (hf : ∀ z, (f z).1 = z) : ∀ (ms : List Str) (rl : List Rl), (ms.map f).foldl setR rl = rl.map fun q => if q.1 ∈ ms then f q.1 else q
  | [], rl => by simp
  | z :: ms, rl => by
    rw [List.map_cons, List.foldl_cons, fold_setR f hf ms]
    unfold setR
    rw [List.map_map]
    refine List.map_congr_left fun q _ => ?_
    show (if (if q.1 = (f z).1 then f z else q).1 ∈ ms then f (if q.1 = (f z).1 then f z else q).1 else (if q.1 = (f z).1 then f z else q)) = _
    rw [hf]
    by_cases e : q.1 = z
    · rw [if_pos e, hf, e, if_pos (List.mem_cons_self)]
      split <;> rfl
    · rw [if_neg e]
      by_cases m : q.1 ∈ ms
      · rw [if_pos m, if_pos (List.mem_cons_of_mem _ m)]
      · rw [if_neg m, if_neg (fun h => (List.mem_cons.mp h).elim e m)]
theorem fold_all (f : Str → Rl) (hf : ∀ z, (f z).1 = z) (rs : List Row) : ((mks rs).map f).foldl setR (emptyR rs) = (mks rs).map f := by
  rw [fold_setR f hf]
  unfold emptyR
  rw [List.map_map]
  refine List.map_congr_left fun z hz => ?_
  show (if z ∈ mks rs then f z else (z, false, [])) = f z
  rw [if_pos hz]
theorem free_make {H : Hp} {y dy c : Addr} {o o' : HO} (ny : H y = none) (ndy : H dy = none) (ne : dy ≠ y) (h : (upd (upd H dy o) y o') c = none) : H c = none := by
  have n1 : c ≠ y := fun e => by rw [e, upd_same] at h; cases h
  rw [upd_ne n1] at h
  exact (same_new ndy).free h
end My

namespace My
open PySem L2
def spPGet (C Cw : Addr) : Sp := fun vs H Q _ => ∃ (y x m a b : Addr) (rl : List Rl) (z : Str) (r : Rl), vs = [.ref y, .str z] ∧ Pol C Cw H y x m a b rl ∧ lookR rl z = some r ∧
  ∀ u t H', Same H H' → H u = none → H' u = some (.tup [.bl r.2.1, .ref t]) → WysT Cw H' t r.2.2 → Q (.ref u) H'
section
variable {w : World} {K : PySem.W.Frag} {mg : Str → Option Value} {base : Heap}
set_option pp.maxSteps 600 in
theorem ok_Policy_getitem (T : Txt K mg) : FnOk PP w K mg base CX0 1 T.a_Policy_getitem T.fd_Policy_getitem ["self", "mark"] (spPGet T.c_Policy T.c_Way) := by
  refine T.F_Policy_getitem.ok sc_Policy_getitem (fun vs H Q E h => ?_) (fun cdv A outer s H vs Q E hr h => ?_)
  · obtain ⟨y, x, m, a, b, rl, z, r, rfl, _⟩ := h; rfl
  · obtain ⟨y, x, m, a, b, rl, z, r, rfl, ⟨⟨dy, hy⟩, hm, ⟨ls, ha, hb, pr⟩, ne, nd⟩, hz, q⟩ := h
    refine ⟨_, (pss_cons (ps_if (pt_cmpR (op_ninKd (hu_of hr)) (pv 1) (pe_fld (pv 0) rfl) (by with_unfolding_all rfl)) (pss_one (ps_never)) pss_nil)
      (pss_one (ps_ret (pe_tup (pa_cons (pe_dget (hu_of hr) (pe_fld (pv 0) rfl) (pv 1) (fun _ _ => rfl)) (pa_cons (pe_dget (hu_of hr) (pe_fld (pv 0) rfl) (pv 1) (fun _ _ => rfl)) pa_nil)))))), ?_⟩
    obtain ⟨q0, hq0, rl0⟩ : ∃ q0, (ls.find? fun p => decide (p.1 = z)) = some q0 ∧ RlL T.c_Way H q0 r := by
      rcases find_pair (z := z) pr with ⟨r', q', e1, e2, e3⟩ | ⟨e1, _⟩
      · rw [hz] at e1; cases e1; exact ⟨q', e2, e3⟩
      · rw [hz] at e1; cases e1
    refine ⟨_, rfl, _, rfl, y, _, dy, _, _, rfl, hy, T.cl_Policy, T.no_Policy__starts, polF3 x m a b, a, _, rfl, dget_st ha hq0, _, rfl, iteNo rfl ?_⟩
    refine ⟨_, rfl, y, _, dy, _, _, rfl, hy, T.cl_Policy, T.no_Policy__starts, polF3 x m a b, _, rfl, a, _, rfl, dget_st ha hq0, ?_⟩
    refine ⟨_, rfl, y, _, dy, _, _, rfl, hy, T.cl_Policy, T.no_Policy__ways, polF4 x m a b, _, rfl, b, _, rfl, dget_wy hb hq0, ?_⟩
    refine ⟨by show 2 ≤ sizeLine; decide, fun u nu => ?_⟩
    exact q u q0.2.2 _ (same_new nu) nu (by rw [upd_same, rl0.2.1]) (rl0.2.2.keep (.same (same_new nu)))
end
end My

namespace My
open PySem L2
def spPSet (C Cw : Addr) : Sp := fun vs H Q _ => ∃ (y x m a b u t : Addr) (rl : List Rl) (z : Str) (st : Bool) (ws : List Wv), vs = [.ref y, .str z, .ref u] ∧ Pol C Cw H y x m a b rl ∧ rl.length ≤ 1000 ∧ z ∈ rl.map (·.1) ∧ H u = some (.tup [.bl st, .ref t]) ∧ WysT Cw H t ws ∧
  ∀ H', Le [a, b] H H' → Kw Cw H H' → Pol C Cw H' y x m a b (setR rl (z, st, ws)) → Q .non H'
section
variable {w : World} {K : PySem.W.Frag} {mg : Str → Option Value} {base : Heap}
set_option pp.maxSteps 600 in
theorem ok_Policy_setitem (T : Txt K mg) : FnOk PP w K mg base CX0 1 T.a_Policy_setitem T.fd_Policy_setitem ["self", "mark", "rule"] (spPSet T.c_Policy T.c_Way) := by
  refine T.F_Policy_setitem.ok sc_Policy_setitem (fun vs H Q E h => ?_) (fun cdv A outer s H vs Q E hr h => ?_)
  · obtain ⟨y, x, m, a, b, u, t, rl, z, st, ws, rfl, _⟩ := h; rfl
  · obtain ⟨y, x, m, a, b, u, t, rl, z, st, ws, rfl, ⟨⟨dy, hy⟩, hm, ⟨ls, ha, hb, pr⟩, ne, nd⟩, lrl, hz, hu, ht, q⟩ := h
    refine ⟨_, (pss_cons (ps_if (pt_cmpR (op_ninKd (hu_of hr)) (pv 1) (pe_fld (pv 0) rfl) (by with_unfolding_all rfl)) (pss_one (ps_never)) pss_nil)
      (pss_cons (ps_asg (pv 2) (pg_tup rfl (pgs_cons (pg_name (i := 3) sc_Policy_setitem.nd rfl (.inl rfl)) (pgs_cons (pg_name (i := 4) sc_Policy_setitem.nd rfl (.inl rfl)) pgs_nil))))
      (pss_cons (ps_dput (hu_of hr) (pe_fld (pv 0) rfl) (pv 1) (pv 3) rfl)
      (pss_one (ps_dput (hu_of hr) (pe_fld (pv 0) rfl) (pv 1) (pe_callTy call_tuple_of (by rfl) T.n_tuple (by decide +kernel) (pa_cons (pv 4) pa_nil)) rfl))))), ?_⟩
    have big : 100000 < sizeLine := by decide
    have lls := pair_len' pr
    have mz : z ∈ ls.map (·.1) := by rw [pair_fst pr]; exact hz
    obtain ⟨q0, hq0⟩ := find_some mz
    obtain ⟨ts, hts, htw⟩ := ht
    refine ⟨_, rfl, _, rfl, y, _, dy, _, _, rfl, hy, T.cl_Policy, T.no_Policy__starts, polF3 x m a b, a, _, rfl, dget_st ha hq0, _, rfl, iteNo rfl ?_⟩
    refine ⟨_, rfl, u, _, rfl, SqT.of hu, rfl, _, _, rfl, _, _, rfl, rfl, ?_⟩
    have nay : y ≠ a := fun e => by rw [e, ha] at hy; cases hy
    have nby : y ≠ b := fun e => by rw [e, hb] at hy; cases hy
    have nma : m ≠ a := fun e => by rw [e, ha] at hm; cases hm
    have nmb : m ≠ b := fun e => by rw [e, hb] at hm; cases hm
    refine ⟨_, rfl, _, rfl, y, _, dy, _, _, rfl, hy, T.cl_Policy, T.no_Policy__starts, polF3 x m a b, _, rfl, a, _, rfl, DPut.k (k := .inr z) ha (by unfold stK; rw [List.length_map]; omega), ?_⟩
    rw [put_st' (p := t) mz]
    have k1 : Kw T.c_Way H (upd H a (.dK (stK (setL ls z st t)))) := .updD ha
    have h1b : (upd H a (.dK (stK (setL ls z st t)))) b = some (.dK (wyK ls)) := by rw [upd_ne ne.symm]; exact hb
    have h1y : (upd H a (.dK (stK (setL ls z st t)))) y = some (.ins T.c_Policy dy [("shape", .ref x), ("_marks", .ref m), ("_starts", .ref a), ("_ways", .ref b)]) := by rw [upd_ne nay]; exact hy
    refine ⟨_, rfl, t, _, rfl, .inr ⟨SqT.of (k1 _ _ hts (.inl ⟨_, rfl⟩)), ?_⟩⟩
    refine ⟨_, rfl, y, _, dy, _, _, rfl, h1y, T.cl_Policy, T.no_Policy__ways, polF4 x m a b, _, rfl, b, _, rfl, DPut.k (k := .inr z) h1b (by unfold wyK; rw [List.length_map]; omega), ?_⟩
    rw [put_wy' (st := st) mz]
    have k2 : Kw T.c_Way (upd H a (.dK (stK (setL ls z st t)))) (upd (upd H a (.dK (stK (setL ls z st t)))) b (.dK (wyK (setL ls z st t)))) := .updD h1b
    refine q _ (fun c o n e => ?_) (k1.trans k2) ⟨⟨dy, by rw [upd_ne nby]; exact h1y⟩, ?_, ⟨setL ls z st t, by rw [upd_ne ne, upd_same], upd_same, ?_⟩, ne, by rw [setR_fst]; exact nd⟩
    · simp only [List.mem_cons, List.not_mem_nil, or_false, not_or] at n
      rw [upd_ne n.2, upd_ne n.1]; exact e
    · rw [upd_ne nmb, upd_ne nma, hm]
      have e := congrArg (List.map V.str) (setR_fst rl (z, st, ws))
      rw [List.map_map, List.map_map] at e
      exact congrArg (fun l => some (HO.lst l)) e.symm
    · exact rlL_keep (setL_pair (r := (z, st, ws)) ⟨ts, hts, htw⟩ pr) (k1.trans k2)
end
end My

namespace My
open PySem L2
def spPolLen (C Cw : Addr) : Sp := fun vs H Q _ => ∃ (y x m a b : Addr) (rl : List Rl), vs = [.ref y] ∧ Pol C Cw H y x m a b rl ∧ Q (.int rl.length) H
section
variable {w : World} {K : PySem.W.Frag} {mg : Str → Option Value} {base : Heap}
theorem ok_Policy_len (T : Txt K mg) : FnOk PP w K mg base CX0 1 T.a_Policy_len T.fd_Policy_len ["self"] (spPolLen T.c_Policy T.c_Way) := by
  refine T.F_Policy_len.ok sc_Policy_len (fun vs H Q E h => ?_) (fun cdv A outer s H vs Q E hr h => ?_)
  · obtain ⟨y, x, m, a, b, rl, rfl, _⟩ := h; rfl
  · obtain ⟨y, x, m, a, b, rl, rfl, hP, q⟩ := h
    obtain ⟨⟨dy, hy⟩, hm, _, _, _⟩ := hP
    refine ⟨_, (pss_one (ps_ret (pe_callB call_len_seq (by rfl) T.n_len (by decide +kernel) (pa_cons (pe_fld (pv 0) rfl) pa_nil)))), ?_⟩
    refine ⟨_, rfl, y, _, dy, _, _, rfl, hy, T.cl_Policy, T.no_Policy__marks, polF2 x m a b, m, _, rfl, .inl (SqL.of hm), ?_⟩
    rw [List.length_map]; exact q
theorem ok_Policy_iter (T : Txt K mg) : IterOk PP w K mg base 1 T.a_Policy_iter T.c_Policy "_marks" := fun A outer s H a dx l fs xs Q E hr e0 ha hf hq q => by
  refine fn_here T.F_Policy_iter sc_Policy_iter T.b_Policy_iter hr e0 (vs := [.ref a]) (.cons rfl .nil) rfl fun cdv hr => ⟨_, (pss_one (ps_ret (pe_callB ItX.call_iterN (by rfl) T.n_iter (by decide +kernel) (pa_cons (pe_fld (pv 0) rfl) pa_nil)))), ?_⟩
  exact ⟨_, rfl, a, _, dx, _, _, rfl, ha, T.cl_Policy, T.no_Policy__marks, hf, l, xs, rfl, hq, fun it n1 n2 => q it n1 n2⟩
end
end My

namespace My
open PySem L2
/-- the law's ways in a list -/
def LwV (H : Hp) (v : V) (k : Wv) : Prop := ∃ q, v = .ref q ∧ H q = some (LwO k.1 k.2.1 k.2.2.1 k.2.2.2) ∧ Adj k.1 k.2.1 k.2.2.1
theorem LwV.same {H H' : Hp} {v : V} {k : Wv} (h : LwV H v k) (s : Same H H') : LwV H' v k := let ⟨q, e, f, g⟩ := h; ⟨q, e, s _ _ f, g⟩
/-- the law's own rules in a dict -/
def RdV (H : Hp) (kv : Key × V) (r : Rl) : Prop := kv.1 = .inr r.1 ∧ ∃ q p us, kv.2 = .ref q ∧ H q = some (.lst [.bl r.2.1, .ref p]) ∧ H p = some (.lst us) ∧ Paired (LwV H) us r.2.2 ∧ us.length ≤ 100
theorem RdV.same {H H' : Hp} {kv : Key × V} {r : Rl} (h : RdV H kv r) (s : Same H H') : RdV H' kv r := let ⟨a, q, p, us, e, f, g, k, l⟩ := h; ⟨a, q, p, us, e, s _ _ f, s _ _ g, L2.Paired.mapP k fun _ _ x => x.same s, l⟩
theorem look_at : ∀ {rl : List Rl} {i : Nat} {r : Rl}, (rl.map (·.1)).Nodup → rl[i]? = some r → lookR rl r.1 = some r
  | [], _, _, _, e => by simp at e
  | q0 :: rl, 0, r, _, e => by
    simp at e
    unfold lookR
    rw [List.find?_cons, decide_eq_true (by rw [e])]
    exact congrArg some e
  | q0 :: rl, i + 1, r, nd, e => by
    have e : rl[i]? = some r := by simpa using e
    have nd := List.nodup_cons.mp (by simpa using nd : (q0.1 :: rl.map (·.1)).Nodup)
    have ne : q0.1 ≠ r.1 := fun h => nd.1 (h ▸ List.mem_map.mpr ⟨r, List.mem_of_getElem? e, rfl⟩)
    unfold lookR
    rw [List.find?_cons, decide_eq_false ne]
    exact look_at nd.2 e
theorem val_rd {H : Hp} : ∀ {kvs : List (Key × V)} {rl : List Rl} {i : Nat} {r : Rl}, Paired (RdV H) kvs rl → (rl.map (·.1)).Nodup → rl[i]? = some r → ∃ kv, valV kvs (.inr r.1) = some kv.2 ∧ RdV H kv r
  | _, _, _, _, .nil, _, e => by simp at e
  | kv :: kvs, q0 :: rl, 0, r, .cons h t, _, e => by
    simp at e; subst e
    exact ⟨kv, by rw [valV_pos h.1], h⟩
  | kv :: kvs, q0 :: rl, i + 1, r, .cons h t, nd, e => by
    have e : rl[i]? = some r := by simpa using e
    have nd := List.nodup_cons.mp (by simpa using nd : (q0.1 :: rl.map (·.1)).Nodup)
    have ne : q0.1 ≠ r.1 := fun h => nd.1 (h ▸ List.mem_map.mpr ⟨r, List.mem_of_getElem? e, rfl⟩)
    rw [valV_neg (by rw [h.1]; exact fun z => ne (by injection z))]
    exact val_rd t nd.2 e
end My

namespace My
open PySem L2
def LkS (t : Addr) (H H' : Hp) : Prop := ∀ a xs, a ≠ t → H a = some (.lst xs) → H' a = some (.lst xs)
theorem LkS.same {t : Addr} {H H' : Hp} (s : Same H H') : LkS t H H' := fun a xs _ e => s _ _ e
theorem LkS.but {t : Addr} {H H' : Hp} (b : But t H H') : LkS t H H' := fun a xs n e => b _ _ n e
theorem LkS.trans {t : Addr} {H H1 H2 : Hp} (x : LkS t H H1) (y : LkS t H1 H2) : LkS t H H2 := fun a xs n e => y a xs n (x a xs n e)
theorem LkS.updD {t g : Addr} {H : Hp} {kvs : List (Key × V)} {o : HO} (h : H g = some (.dK kvs)) : LkS t H (L2.upd H g o) := fun a xs _ e => by rw [upd_ne (fun z => by rw [z, h] at e; cases e)]; exact e
def LwN (t : Addr) (H : Hp) (v : V) (k : Wv) : Prop := ∃ q, v = .ref q ∧ q ≠ t ∧ H q = some (LwO k.1 k.2.1 k.2.2.1 k.2.2.2) ∧ Adj k.1 k.2.1 k.2.2.1
theorem LwN.keep {t : Addr} {H H' : Hp} {v : V} {k : Wv} (h : LwN t H v k) (b : LkS t H H') : LwN t H' v k := let ⟨q, e, n, f, g⟩ := h; ⟨q, e, n, b _ _ n f, g⟩
def RdN (t : Addr) (H : Hp) (kv : Key × V) (r : Rl) : Prop := kv.1 = .inr r.1 ∧ ∃ q p us, kv.2 = .ref q ∧ q ≠ t ∧ H q = some (.lst [.bl r.2.1, .ref p]) ∧ p ≠ t ∧ H p = some (.lst us) ∧ Paired (LwN t H) us r.2.2 ∧ us.length ≤ 100
theorem RdN.keep {t : Addr} {H H' : Hp} {kv : Key × V} {r : Rl} (h : RdN t H kv r) (b : LkS t H H') : RdN t H' kv r := let ⟨a, q, p, us, e, n, f, n2, g, k, l⟩ := h; ⟨a, q, p, us, e, n, b _ _ n f, n2, b _ _ n2 g, L2.Paired.mapP k fun _ _ x => x.keep b, l⟩
theorem rd_none {t : Addr} {H : Hp} {z : Str} : ∀ {kvs : List (Key × V)} {rl : List Rl}, Paired (RdN t H) kvs rl → z ∉ rl.map (·.1) → valV kvs (.inr z) = none
  | _, _, .nil, _ => rfl
  | kv :: kvs, r :: rl, .cons h p, n => by
    rw [List.map_cons, List.mem_cons, not_or] at n
    rw [valV_neg (by rw [h.1]; exact fun e => n.1 (by injection e with e; exact e.symm))]
    exact rd_none p n.2
theorem val_rdn {t : Addr} {H : Hp} : ∀ {kvs : List (Key × V)} {rl : List Rl} {i : Nat} {r : Rl}, Paired (RdN t H) kvs rl → (rl.map (·.1)).Nodup → rl[i]? = some r → ∃ kv, valV kvs (.inr r.1) = some kv.2 ∧ RdN t H kv r
  | _, _, _, _, .nil, _, e => by simp at e
  | kv :: kvs, q0 :: rl, 0, r, .cons h t, _, e => by
    simp at e; subst e
    exact ⟨kv, by rw [valV_pos h.1], h⟩
  | kv :: kvs, q0 :: rl, i + 1, r, .cons h t, nd, e => by
    have e : rl[i]? = some r := by simpa using e
    have nd := List.nodup_cons.mp (by simpa using nd : (q0.1 :: rl.map (·.1)).Nodup)
    have ne : q0.1 ≠ r.1 := fun h => nd.1 (h ▸ List.mem_map.mpr ⟨r, List.mem_of_getElem? e, rfl⟩)
    rw [valV_neg (by rw [h.1]; exact fun z => ne (by injection z))]
    exact val_rdn t nd.2 e
end My

namespace My
open PySem L2
theorem putK_new {kvs : List (Key × V)} {k : Key} {v : V} (h : valV kvs k = none) : putK kvs k v = kvs ++ [(k, v)] := by
  unfold putK
  rw [if_neg]
  rw [valV_any, h]; simp
theorem pair_back {α β : Type} {F : α → β → Prop} : ∀ {l : List α} {m : List β} {i : Nat} {y : β}, Paired F l m → m[i]? = some y → ∃ x, l[i]? = some x ∧ F x y
  | _, _, _, _, .nil, e => by simp at e
  | _, _, 0, _, .cons r _, e => by simp at e; subst e; exact ⟨_, rfl, r⟩
  | _, _, i + 1, y, .cons _ t, e => by
    obtain ⟨x, h1, h2⟩ := pair_back (i := i) (y := y) t (by simpa using e)
    exact ⟨x, by simpa using h1, h2⟩
theorem find_rl {rl : List Rl} {z : Str} (h : z ∈ rl.map (·.1)) (nd : (rl.map (·.1)).Nodup) : ∃ (i : Nat) (r : Rl), rl[i]? = some r ∧ r.1 = z ∧ rl.find? (fun r => decide (r.1 = z)) = some r := by
  obtain ⟨r, hr, e⟩ := List.mem_map.mp h
  obtain ⟨i, hi⟩ := List.getElem?_of_mem hr
  refine ⟨i, r, hi, e, ?_⟩
  cases f : rl.find? (fun r => decide (r.1 = z)) with
  | none => exact absurd (decide_eq_true e) (List.find?_eq_none.mp f r hr)
  | some q =>
    have e2 : q.1 = z := by simpa using List.find?_some f
    obtain ⟨k, hk⟩ := List.getElem?_of_mem (List.mem_of_find?_eq_some f)
    have h1 : (rl.map (·.1))[i]? = some z := by rw [List.getElem?_map, hi, ← e]; rfl
    have h2 : (rl.map (·.1))[k]? = some z := by rw [List.getElem?_map, hk, ← e2]; rfl
    have : i = k := by
      have li := (List.getElem?_eq_some_iff.mp h1).1
      exact (List.getElem?_inj li nd).mp (h1.trans h2.symm)
    subst this
    rw [hi] at hk; cases hk; rfl
end My

namespace My
open PySem L2
/-! ### the rules that _law_rules draws: their lists of ways are apart -/
def PwV (H : Hp) (kv : Key × V) (p : Addr) : Prop := ∃ q b, kv.2 = .ref q ∧ H q = some (.lst [.bl b, .ref p])
theorem PwV.keep {t : Addr} {H H' : Hp} {kv : Key × V} {p : Addr} (h : PwV H kv p) (n : ∃ k : Nat, H t = some (.lst [.int k])) (b : LkS t H H') : PwV H' kv p := let ⟨q, x, e, f⟩ := h; ⟨q, x, e, b _ _ (fun z => by obtain ⟨k, hk⟩ := n; rw [z, hk] at f; cases f) f⟩
theorem pw_ex {t : Addr} {H : Hp} : ∀ {kvs : List (Key × V)} {rl : List Rl} {ps : List Addr}, Paired (RdN t H) kvs rl → Paired (PwV H) kvs ps → ∀ p ∈ ps, p ≠ t ∧ ∃ o, H p = some o
  | _, _, _, .nil, .nil => fun _ h => nomatch h
  | _, _, _, .cons h t, .cons h2 t2 => fun p hp => by
    rcases List.mem_cons.mp hp with rfl | hp
    · obtain ⟨_, q, p, us, e, _, f, n, g, _⟩ := h
      obtain ⟨q2, b, e2, f2⟩ := h2
      rw [e] at e2
      obtain rfl := V.ref.inj e2
      rw [f] at f2
      injection f2 with f2
      injection f2 with f2
      injection f2 with _ f2
      injection f2 with f2 _
      obtain rfl := V.ref.inj f2
      exact ⟨n, _, g⟩
    · exact pw_ex t t2 p hp
def spLRules (K : PySem.W.Frag) : Sp := fun vs H Q _ => ∃ (d t R : Addr) (ws : List V) (rs : List Row), vs = [.ref d, .ref t, .ref R] ∧ Dr K H d t ∧ H R = some (.lst ws) ∧ R ≠ t ∧ RowsN (fun a => a ≠ t) true H ws rs ∧ rs.length ≤ 100 ∧ (mks rs).Nodup ∧
  ∀ (rl : List Rl) kvs ps g H', Paired (PwV H') kvs ps → ps.Nodup → (∀ p ∈ ps, H p = none) → rl.map (·.1) = mks rs → (∀ r ∈ rl, r.2.2.length ≤ 3) → Dr K H' d t → But t H H' → H g = none → H' g = some (.dK kvs) → Paired (RdN t H') kvs rl → Q (.ref g) H'
section
variable {P : Program} {w : World} {K : PySem.W.Frag} {mg : Str → Option Value} {base : Heap}
set_option maxHeartbeats 16000000 in
set_option pp.maxSteps 600 in
theorem ok__law_rules (T : Txt K mg) : FnOk P w K mg base CX0 4 T.a__law_rules T.fd__law_rules ["_law_draws_here", "_law_at", "_law_rows_here"] (spLRules K) := by
  refine T.F__law_rules.ok sc__law_rules (fun vs H Q E h => ?_) (fun cdv A outer s H vs Q E hr h => ?_)
  · obtain ⟨d, t, R, ws, rs, rfl, _⟩ := h; rfl
  · obtain ⟨d, t, R, ws, rs, rfl, D0, hR, nR, rR, lr, nd, q⟩ := h
    refine ⟨_, (pss_cons (ps_set (i := 3) sc__law_rules.nd rfl (.inl rfl) (pe_dnewK))
      (pss_cons (ps_for PassesOwn.never rfl (pi_list (pv 2)) (pg_name (i := 4) sc__law_rules.nd rfl (.inl rfl)) (pss_cons (ps_set (i := 5) sc__law_rules.nd rfl (.inl rfl) (pe_cmpR op_ne (pe_call (ok__law_take T) (hr.mono (by omega)) (by rfl) T.g__law_take T.F__law_take.kp T.b__law_take .nil pass0 (pa_cons (pv 0) (pa_cons (pv 1) (pa_cons (pe_int) pa_nil)))) (pe_int) (nomark _)))
      (pss_cons (ps_set (i := 6) sc__law_rules.nd rfl (.inl rfl) (pe_ix ix_list (pe_lst (pa_cons (pe_int) (pa_cons (pe_int) (pa_cons (pe_int) (pa_cons (pe_int) (pa_cons (pe_int) pa_nil)))))) (pe_call (ok__law_take T) (hr.mono (by omega)) (by rfl) T.g__law_take T.F__law_take.kp T.b__law_take .nil pass0 (pa_cons (pv 0) (pa_cons (pv 1) (pa_cons (pe_int) pa_nil)))) (fun _ _ => rfl)))
      (pss_cons (ps_set (i := 7) sc__law_rules.nd rfl (.inl rfl) (pe_lst pa_nil))
      (pss_cons (ps_for PassesOwn.never rfl (pi_range1 (by rfl) T.n_range (pa_cons (pv 6) pa_nil)) (pg_name (i := 8) sc__law_rules.nd rfl (.inl rfl)) (pss_one (ps_expr (pe_bm PySem.F.plainAttrs_list PySem.F.slot_list_append PySem.F.type_list_append mt_append (pv 7) (pa_cons (pe_call (ok__law_way T) (hr.mono (by omega)) (by rfl) T.g__law_way T.F__law_way.kp T.b__law_way .nil pass0 (pa_cons (pv 0) (pa_cons (pv 1) pa_nil))) pa_nil)))))
      (pss_one (ps_dput (hu_of hr) (pv 3) (pe_ix ix_list (pv 4) (pe_int) (fun _ _ => rfl)) (pe_lst (pa_cons (pv 5) (pa_cons (pv 7) pa_nil))) rfl)))))))
      (pss_one (ps_ret (pv 3))))), ?_⟩
    have big : 100000 < sizeLine := by decide
    have lw := pair_len' rR
    refine fun g ng => ?_
    have s1 := same_new (o := .dK []) ng
    have ngt : g ≠ t := D0.na ng
    refine ⟨_, rfl, R, rfl, ⟨_, SqL.of (s1 _ _ hR)⟩, for_list (K := K) (a := R) (xs := ws) (fun i σ H' => ∃ (x5 x6 x7 x8 x9 : Option V) (kvs : List (Key × V)) (rl : List Rl) (ps : List Addr), σ = [some (.ref d), some (.ref t), some (.ref R), some (.ref g), x5, x6, x7, x8, x9] ∧ Dr K H' d t ∧ But t H H' ∧ H' g = some (.dK kvs) ∧ Paired (RdN t H') kvs rl ∧ Paired (PwV H') kvs ps ∧ ps.Nodup ∧ (∀ p ∈ ps, H p = none) ∧ rl.map (·.1) = (mks rs).take i ∧ ∀ r ∈ rl, r.2.2.length ≤ 3)
      ⟨_, _, _, _, _, [], [], [], rfl, D0.same s1, But.of_same s1, upd_same, .nil, .nil, List.nodup_nil, (fun _ h => nomatch h), by rw [List.take_zero]; rfl, fun _ h => nomatch h⟩ (fun i σ H' _ ⟨_, _, _, _, _, _, _, _, _, _, b, _⟩ => SqL.of (b _ _ nR hR)) ?_ ?_⟩
    rotate_left
    · rintro σ H' ⟨x5, x6, x7, x8, x9, kvs, rl, ps, rfl, D', b', hg, pk, ppw, ndp, frp, ef, lw3⟩
      rw [lw, show rs.length = (mks rs).length by unfold mks; rw [List.length_map], List.take_length] at ef
      exact ⟨_, rfl, q rl kvs ps g H' ppw ndp frp ef lw3 D' b' ng hg pk⟩
    rintro i v σ H2 hv ⟨x5, x6, x7, x8, x9, kvs, rl, ps, rfl, D2, b2, hg2, pk, ppw, ndp, frp, ef, lw3⟩
    have pex := pw_ex pk ppw
    obtain ⟨r, hr, p, pp, rfl, npt, _, hp, _⟩ := pair_get' rR hv
    have hp : H p = some (.lst (rowL r pp)) := hp
    have hi := (List.getElem?_eq_some_iff.mp hr).1
    have hz : (mks rs)[i]? = some r.mark := by unfold mks; rw [List.getElem?_map, hr]; rfl
    have lkv : kvs.length = i := by
      have e := congrArg List.length ef
      rw [List.length_map, List.length_take] at e
      rw [pair_len' pk]
      unfold mks at e
      rw [List.length_map] at e
      omega
    refine ⟨_, rfl, _, rfl, d, t, 4, rfl, D2, by decide, fun z H3 _ _ D3 b3 => ⟨rfl, ?_⟩⟩
    refine ⟨by show 5 ≤ sizeLine; decide, fun m nm => ?_⟩
    have s4 := same_new (o := .lst [.int 1, .int 1, .int 2, .int 1, .int 0]) nm
    refine ⟨_, rfl, _, rfl, d, t, 5, rfl, D3.same s4, by decide, fun z5 H5 r0 r1 D5 b5 => ?_⟩
    obtain ⟨v, hv5, mv⟩ := at_ok (xs := [.int 1, .int 1, .int 2, .int 1, .int 0]) r0 r1
    obtain ⟨n2, rfl, hn2⟩ : ∃ n : Nat, v = .int n ∧ n ≤ 3 := by
      simp only [List.mem_cons, List.not_mem_nil, or_false] at mv
      rcases mv with rfl | rfl | rfl | rfl | rfl
      · exact ⟨1, rfl, by decide⟩
      · exact ⟨1, rfl, by decide⟩
      · exact ⟨2, rfl, by decide⟩
      · exact ⟨1, rfl, by decide⟩
      · exact ⟨0, rfl, by decide⟩
    have b25 := (b3.trans (But.of_same s4)).trans b5
    refine ⟨_, _, _, _, rfl, rfl, SqL.of (b5 _ _ (D3.na nm) upd_same), hv5, ?_⟩
    refine ⟨Nat.zero_le _, fun W hW => ?_⟩
    have nWt : W ≠ t := D5.na hW
    have D6 := D5.same (same_new (o := .lst []) hW)
    have b26 := b25.trans (But.of_same (same_new (o := .lst []) hW))
    have h6W : (upd H5 W (.lst [])) W = some (.lst []) := upd_same
    have nW2 : H2 W = none := b25.free nWt hW
    have nWp : W ∉ ps := fun m => by
      obtain ⟨_, o, ho⟩ := pex W m
      rw [ho] at nW2; cases nW2
    have pw5 : Paired (PwV H5) kvs ps := L2.Paired.mapP ppw fun _ _ h => h.keep D2.pl (.but b25)
    have ndW : d ≠ W := D5.nd hW
    revert D6 b26 h6W
    generalize upd H5 W (.lst []) = H6
    intro D6 b26 h6W
    generalize decide (V.int z = V.int 3) = dz
    refine ⟨_, rfl, _, rfl, by omega, by omega, for_range (lo := 0) (n := n2) (fun j σ H' => ∃ (x9 : Option V) (us : List V) (ks : List Wv), σ = [some (.ref d), some (.ref t), some (.ref R), some (.ref g), some (.ref p), some (.bl (!dz)), some (.int n2), some (.ref W), x9] ∧ Dr K H' d t ∧ But t H2 H' ∧ H' W = some (.lst us) ∧ us.length = j ∧ Paired (fun v k => LwN t H' v k ∧ ∀ q, v = .ref q → q ≠ W) us ks)
      ⟨_, [], [], rfl, D6, b26, h6W, rfl, .nil⟩ ?_ ?_⟩
    · rintro j σ H9 hj ⟨x9, us, ks, rfl, D9, b9, h9, l9, p9⟩
      refine ⟨_, rfl, .inl ⟨rfl, _, SqL.of h9⟩, _, rfl, _, rfl, d, t, rfl, D9, fun p a b c e HA adj DA bA np hp => ?_⟩
      have npW : p ≠ W := (ne_of_none h9 np).symm
      have hWA := bA _ _ nWt h9
      refine ⟨_, _, _, rfl, rfl, hWA, by omega, ?_⟩
      refine ⟨_, us ++ [.ref p], ks ++ [(a, b, c, e)], rfl, ⟨DA.ds.elim fun zs e => ⟨zs, by rw [upd_ne ndW]; exact e⟩, DA.pl.elim fun k e => ⟨k, by rw [upd_ne nWt.symm]; exact e⟩, DA.ne⟩, (b9.trans bA).mut nW2, upd_same, by rw [List.length_append, l9]; rfl, ?_⟩
      refine pair_app' (L2.Paired.mapP p9 fun v k ⟨⟨q, e1, e2, e3, e4⟩, e5⟩ => ⟨⟨q, e1, e2, by rw [upd_ne (e5 q e1)]; exact bA _ _ e2 e3, e4⟩, e5⟩) (.cons ⟨⟨p, rfl, D9.na np, by rw [upd_ne npW]; exact hp, adj⟩, fun q e => by cases e; exact npW⟩ .nil)
    rintro σ H9 ⟨x9', us, ks, rfl, D9, b9, h9W, l9, p9⟩
    have p9 : Paired (LwN t H9) us ks := L2.Paired.mapP p9 fun _ _ h => h.1
    have hp9 := b9 _ _ npt (b2 _ _ npt hp)
    have hg9 := b9 _ _ ngt hg2
    have pw9 : Paired (PwV H9) kvs ps := L2.Paired.mapP ppw fun _ _ h => h.keep D2.pl (.but b9)
    refine ⟨_, rfl, _, rfl, by show 2 ≤ sizeLine; decide, fun u nu => ?_⟩
    have sA := same_new (o := .lst [.bl (!dz), .ref W]) nu
    have hgA := sA _ _ hg9
    have nW9 := sA _ _ h9W
    have hAu : (upd H9 u (.lst [.bl (!dz), .ref W])) u = some (.lst [.bl (!dz), .ref W]) := upd_same
    have DA := D9.same sA
    have bA := (b2.trans b9).trans (But.of_same sA)
    have nut : u ≠ t := D9.na nu
    have pA : Paired (RdN t (upd H9 u (.lst [.bl (!dz), .ref W]))) kvs rl := L2.Paired.mapP pk fun _ _ h => (h.keep (.but b9)).keep (.same sA)
    have wA : Paired (LwN t (upd H9 u (.lst [.bl (!dz), .ref W]))) us ks := L2.Paired.mapP p9 fun _ _ h => h.keep (.same sA)
    have hpA := sA _ _ hp9
    have pwA : Paired (PwV (upd H9 u (.lst [.bl (!dz), .ref W]))) kvs ps := L2.Paired.mapP pw9 fun _ _ h => h.keep D9.pl (.same sA)
    revert hgA nW9 hAu DA bA pA wA hpA pwA
    generalize upd H9 u (.lst [.bl (!dz), .ref W]) = HA
    intro hgA hWA hAu DA bA pA wA hpA pwA
    refine ⟨_, rfl, _, rfl, _, _, _, _, rfl, rfl, SqL.of hpA, atI_nat (j := 0) rfl, g, _, rfl, DPut.k (k := .inr r.mark) hgA (by omega), ?_⟩
    have nz : r.mark ∉ rl.map (·.1) := by rw [ef]; exact fun h => (nodup_take.mp nd) i _ hz h
    rw [putK_new (rd_none pA nz)]
    have lk : LkS t HA (upd HA g (.dK (kvs ++ [(.inr r.mark, .ref u)]))) := .updD hgA
    have ng' : ∀ {a : Addr} {xs : List V}, HA a = some (.lst xs) → a ≠ g := fun h e => by rw [e, hgA] at h; cases h
    have ndg : d ≠ g := DA.ds.elim fun _ h => ng' h
    have ntg : t ≠ g := ngt.symm
    refine ⟨_, _, _, _, _, _, rl ++ [(r.mark, !dz, ks)], ps ++ [W], rfl, DA.other But.upd ndg ntg, bA.mut ng, upd_same, ?_, pair_app' (L2.Paired.mapP pwA fun _ _ h => h.keep DA.pl lk) (.cons ⟨u, !dz, rfl, lk _ _ nut hAu⟩ .nil), List.nodup_append.mpr ⟨ndp, by simp, fun c hc e he z => by rw [List.mem_singleton.mp he] at z; exact nWp (z ▸ hc)⟩, (fun p hp => (List.mem_append.mp hp).elim (frp p) fun h => by rw [List.mem_singleton.mp h]; exact b2.free nWt nW2), ?_, ?_⟩
    · refine pair_app' (L2.Paired.mapP pA fun _ _ h => h.keep lk) (.cons ⟨rfl, u, W, us, rfl, nut, lk _ _ nut hAu, nWt, lk _ _ nWt hWA, L2.Paired.mapP wA fun _ _ h => h.keep lk, by omega⟩ .nil)
    · rw [List.map_append, ef, List.take_succ, hz]; rfl
    · intro x hx
      rcases List.mem_append.mp hx with hx | hx
      · exact lw3 x hx
      · rw [List.mem_singleton.mp hx]
        show ks.length ≤ 3
        have := pair_len' p9
        omega
end
end My

namespace My
open PySem L2
/-! ### the policy of a shape and rules -/
theorem fold_self {rl : List Rl} {rs : List Row} (nd : (mks rs).Nodup) (ef : rl.map (·.1) = mks rs) : rl.foldl setR (emptyR rs) = rl := by
  have nd' : (rl.map (·.1)).Nodup := by rw [ef]; exact nd
  have hf : ∀ z, ((fun z => (lookR rl z).getD (z, false, [])) z).1 = z := fun z => by
    show ((lookR rl z).getD (z, false, [])).1 = z
    cases e : lookR rl z with
    | none => rfl
    | some r => exact of_decide_eq_true (List.find?_some (p := fun r : Rl => decide (r.1 = z)) e)
  have e : (mks rs).map (fun z => (lookR rl z).getD (z, false, [])) = rl := by
    rw [← ef, List.map_map]
    refine List.ext_getElem? fun i => ?_
    rw [List.getElem?_map]
    cases h : rl[i]? with
    | none => rfl
    | some r =>
      show some ((lookR rl r.1).getD (r.1, false, [])) = some r
      rw [look_at nd' h]; rfl
  have f := fold_all _ hf rs
  rw [e] at f
  exact f
def spLPolicy (C Cw Cs : Addr) : Sp := fun vs H Q _ => ∃ (x g : Addr) (rs : List Row) (kvs : List (Key × V)) (rl : List Rl), vs = [.ref x, .ref g] ∧ ShO Cs H x rs ∧ (mks rs).Nodup ∧ rs.length ≤ 100 ∧ H g = some (.dK kvs) ∧ Paired (RdV H) kvs rl ∧ rl.map (·.1) = mks rs ∧
  ∀ y m a b H', Same H H' → H y = none → H m = none → H a = none → H b = none → Pol C Cw H' y x m a b rl → Q (.ref y) H'
section
variable {w : World} {K : PySem.W.Frag} {mg : Str → Option Value} {base : Heap}
set_option maxHeartbeats 16000000 in
set_option pp.maxSteps 600 in
theorem ok__law_policy (T : Txt K mg) : FnOk PP w K mg base CX0 10 T.a__law_policy T.fd__law_policy ["_law_shape_here", "_law_rules_here"] (spLPolicy T.c_Policy T.c_Way T.c_Shape) := by
  refine T.F__law_policy.ok sc__law_policy (fun vs H Q E h => ?_) (fun cdv A outer s H vs Q E hr h => ?_)
  · obtain ⟨x, g, rs, kvs, rl, rfl, _⟩ := h; rfl
  · obtain ⟨x, g, rs, kvs, rl, rfl, hS, nd, lr, hg, pk, ef, q⟩ := h
    refine ⟨_, (pss_cons (ps_set (i := 2) sc__law_policy.nd rfl (.inl rfl) (pe_make T.mk_Policy (ok_Policy_init T) (hr.mono (by omega)) (by rfl) T.g_Policy T.kb_Policy_init_2.choose_spec.2 T.kb_Policy_init_2.choose_spec.1 pass0 (pa_cons (pv 0) pa_nil)))
      (pss_cons (ps_lock (ps_for PassesOwn.never rfl (pi_keys (pv 1)) (pg_name (i := 3) sc__law_policy.nd rfl (.inl rfl)) (pss_one (ps_asg (pe_tup (pa_cons (pe_ix ix_list (pe_dget (hu_of hr) (pv 1) (pv 3) (fun _ _ => rfl)) (pe_int) (fun _ _ => rfl)) (pa_cons (pe_callTy call_tuple_of (by rfl) T.n_tuple (by decide +kernel) (pa_cons (pe_lc (own := [("_law_way_here", 4)]) (g := (gName 4)) (by rfl) sc__law_policy.nd (pi_list (pe_ix ix_list (pe_dget (hu_of hr) (pv 1) (pv 3) (fun _ _ => rfl)) (pe_int) (fun _ _ => rfl))) (blkOk_by (own := [("_law_way_here", 4)]) (N := ["_law_shape_here", "_law_rules_here", "_law_policy_here", "_law_mark", "_law_way_here"]) (sc := defScope S__law_policy) (by decide +kernel)) (fun _ _ _ _ _ => (pg_name (i := 4) sc__law_policy.nd rfl (by first | exact .inl rfl | exact .inr rfl))) (fun _ _ _ _ _ => pts_nil) (fun _ _ _ _ _ => (pe_call (ok__law_way_made T) (hr.mono (by omega)) (by rfl) T.g__law_way_made T.F__law_way_made.kp T.b__law_way_made .nil pass0 (pa_cons (pv 4) pa_nil)))) pa_nil)) pa_nil))) (pg_sub (pv 2) (pv 3) (set_own T.m_Policy_setitem T.nq_Policy (ok_Policy_setitem T) (hr.mono (by omega)) T.b_Policy_setitem pass0))))))
      (pss_one (ps_ret (pv 2))))), ?_⟩
    have big : 100000 < sizeLine := by decide
    have lmk : (mks rs).length = rs.length := by unfold mks; rw [List.length_map]
    have lrl : rl.length = rs.length := by
      have e := congrArg List.length ef
      rw [List.length_map, lmk] at e; exact e
    have lkv := pair_len' pk
    have ndl : (rl.map (·.1)).Nodup := by rw [ef]; exact nd
    refine ⟨_, rfl, fun y dy ny ndy ne => ⟨y, dy, x, _, rs, rfl, upd_same, hS.same (same_make ny ndy (But.refl _ _)), nd, lr, T.qe_Policy_init_0, fun m a b H2 b2 nm na nb P2 => ⟨rfl, ?_⟩⟩⟩
    have s2 := same_make ny ndy b2
    have fm : H m = none := free_make ny ndy ne nm
    have fa : H a = none := free_make ny ndy ne na
    have fb : H b = none := free_make ny ndy ne nb
    clear b2 nm na nb ne ndy
    refine ⟨g, _, s2 _ _ hg, trivial, fun od => ?_⟩
    have nyg : y ≠ g := (ne_of_none hg ny).symm
    have nmg : m ≠ g := (ne_of_none hg fm).symm
    have nag : a ≠ g := (ne_of_none hg fa).symm
    have nbg : b ≠ g := (ne_of_none hg fb).symm
    have pup : ∀ {o : HO} {H3 : Hp} {rl : List Rl}, (∀ kv, H3 g ≠ some (.tup kv)) → (∀ c d f, H3 g ≠ some (.ins c d f)) → Pol T.c_Policy T.c_Way H3 y x m a b rl → Pol T.c_Policy T.c_Way (upd H3 g o) y x m a b rl := fun {o H3 rl} nt ni P => P.le (A := [g]) (fun c o n e => by rw [upd_ne (by simpa using n)]; exact e) (fun c o' e t => by
      rw [upd_ne (fun z => by
        rw [z] at e
        rcases t with ⟨_, t⟩ | ⟨_, _, _, _, _, t⟩
        · exact nt _ (t ▸ e)
        · exact ni _ _ _ (t ▸ e))]; exact e) (fun c hc => by
      simp only [List.mem_cons, List.not_mem_nil, or_false] at hc ⊢
      rcases hc with rfl | rfl | rfl | rfl
      · exact nyg
      · exact nmg
      · exact nag
      · exact nbg)
    have hg2 := s2 _ _ hg
    refine ⟨_, rfl, g, od, rfl, .inl ⟨kvs, upd_same, for_it walk_keys (fun i σ H' => ∃ x3 : Option V, σ = [some (.ref x), some (.ref g), some (.ref y), x3, none] ∧ But g H H' ∧ H' g = some (.frz od (.dK kvs)) ∧ Pol T.c_Policy T.c_Way H' y x m a b ((rl.take i).foldl setR (emptyR rs))) ⟨_, rfl, fun c o n e => by rw [upd_ne n]; exact s2 _ _ e, upd_same, pup (fun _ e => by rw [hg2] at e; cases e) (fun _ _ _ e => by rw [hg2] at e; cases e) P2⟩ (fun i σ H' _ ⟨_, _, _, h, _⟩ => h) ?_ ?_⟩⟩
    · rintro i v σ H3 H4 hi ⟨x3, rfl, b3, f3, P3⟩ ⟨rfl, k, v', ek, rfl⟩
      obtain ⟨r, hr, ek1, _⟩ := pair_get' pk ek
      have ek1 : k = .inr r.1 := ek1
      subst ek1
      obtain ⟨kv, ev, _, q0, p0, us, eq0, hq0, hp0, pw, lus⟩ := val_rd pk ndl hr
      have dg : ∀ {H5 : Hp}, Same H4 H5 → DGet H5 g (.str r.1) (some (.ref q0)) := fun s => .inl ⟨kvs, .inr r.1, .inr ⟨od, s _ _ f3⟩, rfl, by rw [ev, eq0]⟩
      have hq3 := b3 _ _ (fun z => by rw [z, hg] at hq0; cases hq0) hq0
      have hp3 := b3 _ _ (fun z => by rw [z, hg] at hp0; cases hp0) hp0
      refine ⟨_, rfl, _, rfl, g, _, rfl, dg (Same.refl _), _, _, _, _, rfl, rfl, SqL.of hq3, atI_nat (j := 0) rfl, ?_⟩
      refine ⟨_, rfl, _, rfl, g, _, rfl, dg (Same.refl _), _, _, _, _, rfl, rfl, SqL.of hq3, atI_nat (j := 1) rfl, p0, rfl, ⟨_, SqL.of hp3⟩, fun D hD => lc_list (K := K) (a := p0) (xs := us) (fun i H' => ∃ vs, Same H4 H' ∧ H' D = some (.lst vs) ∧ Paired (WyV T.c_Way H') vs (r.2.2.take i)) ⟨[], same_new hD, upd_same, .nil⟩ (fun i H' _ ⟨_, s, _⟩ => SqL.of (s _ _ hp3)) ?_ ?_⟩
      · rintro i v H5 hv ⟨vs, s5, h5, pr⟩
        obtain ⟨k, hk, q1, rfl, hq1, aj⟩ := pair_get' pw hv
        have hi := (List.getElem?_eq_some_iff.mp hv).1
        have hq3 := b3 _ _ (fun z => by rw [z, hg] at hq1; cases hq1) hq1
        refine ⟨rfl, ?_⟩
        unfold tYes
        refine iteT ⟨_, rfl, q1, k.1, k.2.1, k.2.2.1, k.2.2.2, rfl, aj, SqL.of (s5 _ _ hq3), fun z H6 s6 nz wz => ?_⟩
        have h6 := s6 _ _ h5
        have kk : Kw T.c_Way H6 (upd H6 D (.lst (vs ++ [.ref z]))) := .upd h6 fun t => by rcases t with ⟨_, e⟩ | ⟨_, _, _, _, _, e⟩ <;> cases e
        refine ⟨vs, h6, by rw [pair_len' pr, List.length_take]; omega, vs ++ [.ref z], same_mut (s5.trans s6) hD, upd_same, ?_⟩
        rw [List.take_succ, hk]
        exact pair_app' (L2.Paired.mapP pr fun _ _ h => (h.keep (.same s6)).keep kk) (.cons (WyV.keep ⟨z, rfl, wz⟩ kk) .nil)
      rintro H5 ⟨vs, s5, h5, pr⟩
      rw [pair_len' pw, List.take_length] at pr
      refine ⟨D, _, rfl, .inl ⟨SqL.of h5, fun u nu => ⟨by show 2 ≤ sizeLine; decide, fun u2 nu2 => ?_⟩⟩⟩
      have s6 := same_new (o := .tup vs) nu
      have s7 := same_new (o := .tup [.bl r.2.1, .ref u]) nu2
      have w7 : WysT T.c_Way (upd (upd H5 u (.tup vs)) u2 (.tup [.bl r.2.1, .ref u])) u r.2.2 := ⟨vs, s7 _ _ upd_same, L2.Paired.mapP pr fun _ _ h => h.keep (.same (s6.trans s7))⟩
      have hu2 : (upd (upd H5 u (.tup vs)) u2 (.tup [.bl r.2.1, .ref u])) u2 = some (.tup [.bl r.2.1, .ref u]) := upd_same
      have s47 := s5.trans (s6.trans s7)
      revert w7 hu2 s47
      generalize upd (upd H5 u (.tup vs)) u2 (.tup [.bl r.2.1, .ref u]) = H7
      intro w7 hu2 s47
      have P7 := P3.same s47
      obtain ⟨dy7, hy7⟩ := P7.obj
      have lf : ((rl.take i).foldl setR (emptyR rs)).map (·.1) = mks rs := by
        rw [setRs_fst]; unfold emptyR; rw [List.map_map]; exact List.map_id _
      have ll : ((rl.take i).foldl setR (emptyR rs)).length = rs.length := by
        have e := congrArg List.length lf
        rw [List.length_map, lmk] at e; exact e
      have mz : r.1 ∈ ((rl.take i).foldl setR (emptyR rs)).map (·.1) := by
        rw [lf, ← ef]; exact List.mem_map.mpr ⟨r, List.mem_of_getElem? hr, rfl⟩
      have f7 := s47 _ _ f3
      refine ⟨_, rfl, _, rfl, y, dy7, _, rfl, hy7, y, x, m, a, b, u2, u, _, r.1, r.2.1, r.2.2, rfl, P7, by omega, mz, hu2, w7, fun H8 le8 kw8 P8 => ?_⟩
      have le7 : ∀ c o, c ≠ g → H c = some o → H8 c = some o := fun c o n e => le8 _ _ (by
        simp only [List.mem_cons, List.not_mem_nil, or_false, not_or]
        exact ⟨ne_of_none e fa, ne_of_none e fb⟩) (s47 _ _ (b3 _ _ n e))
      refine ⟨_, rfl, le7, le8 _ _ (by
        simp only [List.mem_cons, List.not_mem_nil, or_false, not_or]
        exact ⟨nag.symm, nbg.symm⟩) f7, ?_⟩
      rw [List.take_succ, hr, Option.toList_some, List.foldl_append]
      exact P8
    rintro σ H3 ⟨x3, rfl, b3, f3, P3⟩
    rw [lkv, List.take_length, fold_self nd ef] at P3
    refine ⟨f3, _, rfl, ?_⟩
    refine q y m a b _ (fun c o e => ?_) ny fm fa fb (pup (fun _ e => by rw [f3] at e; cases e) (fun _ _ _ e => by rw [f3] at e; cases e) P3)
    by_cases n : c = g
    · rw [n, upd_same, ← hg, ← n, e]
    · rw [upd_ne n]; exact b3 c o n e
end
end My

namespace My
open PySem L2
theorem yes_i {σ : St} {H : Hp} {Q : Bool → Hp → Prop} (h : Q true H) : tYes σ H Q := h
end My

namespace My
open PySem L2
def spPolCopy (Cp Cw Cs : Addr) : Sp := fun vs H Q _ => ∃ (p xp mp ap bp : Addr) (P1 : List Rl) (rs : List Row), vs = [.ref p] ∧ Pol Cp Cw H p xp mp ap bp P1 ∧ ShO Cs H xp rs ∧ P1.map (·.1) = mks rs ∧ P1.length ≤ 100 ∧
  ∀ z m a b H', Same H H' → H z = none → H m = none → H a = none → H b = none → Pol Cp Cw H' z xp m a b P1 → Q (.ref z) H'
section
variable {w : World} {K : PySem.W.Frag} {mg : Str → Option Value} {base : Heap}
set_option pp.maxSteps 900 in
theorem ok_Policy_copy (T : Txt K mg) : FnOk PP w K mg base CX0 10 T.a_Policy_copy T.fd_Policy_copy ["self"] (spPolCopy T.c_Policy T.c_Way T.c_Shape) := by
  refine T.F_Policy_copy.ok sc_Policy_copy (fun vs H Q E h => ?_) (fun cdv A outer s H vs Q E hr h => ?_)
  · obtain ⟨p, xp, mp, ap, bp, P1, rs, rfl, _⟩ := h; rfl
  · obtain ⟨p, xp, mp, ap, bp, P1, rs, rfl, hP, S, e1, l1, qq⟩ := h
    refine ⟨_, (pss_one (ps_ret (pe_make T.mk_Policy (ok_Policy_init_l T) (hr.mono (by omega)) (by rfl) T.g_Policy T.kb_Policy_init_3.choose_spec.2 T.kb_Policy_init_3.choose_spec.1 pass0 (pa_cons (pe_fld (pv 0) rfl) (pa_cons (pe_lc (own := [("mark", 1)]) (g := (gName 1)) (by rfl) sc_Policy_copy.nd (pi_list (pe_fld (pv 0) rfl)) (blkOk_by (own := [("mark", 1)]) (N := ["self", "mark"]) (sc := defScope S_Policy_copy) (by decide +kernel)) (fun _ _ _ _ _ => (pg_name (i := 1) sc_Policy_copy.nd rfl (by first | exact .inl rfl | exact .inr rfl))) (fun _ _ _ _ _ => pts_nil) (fun _ _ _ _ _ => (pe_tup (pa_cons (pv 1) (pa_cons (pe_dget (hu_of hr) (pe_fldK (K := K) rfl (pv 0) rfl) (pv 1) (fun _ _ => rfl)) (pa_cons (pe_dget (hu_of hr) (pe_fldK (K := K) rfl (pv 0) rfl) (pv 1) (fun _ _ => rfl)) pa_nil)))))) pa_nil))))), ?_⟩
    obtain ⟨⟨dp, hp⟩, hm, ⟨ls, ha, hb, pr⟩, ne, nd⟩ := id hP
    have big : 100000 < sizeLine := by decide
    have lls := pair_len' pr
    refine ⟨_, rfl, p, _, dp, _, _, rfl, hp, T.cl_Policy, T.no_Policy_shape, polF1 xp mp ap bp, _, rfl, p, _, dp, _, _, rfl, hp, T.cl_Policy, T.no_Policy__marks, polF2 xp mp ap bp, mp, rfl, ⟨_, SqL.of hm⟩, fun D hD => lc_list (K := K) (a := mp) (xs := P1.map fun r => .str r.1) (fun i H' => ∃ us, Same H H' ∧ H' D = some (.lst us) ∧ Paired (RwV T.c_Way H') us (P1.take i)) ⟨[], same_new hD, upd_same, .nil⟩ (fun i H' _ h => by obtain ⟨_, s, _⟩ := h; exact SqL.of (s _ _ hm)) ?_ ?_⟩
    · rintro i v H1 hv ⟨us, s1, h1, pu⟩
      obtain ⟨r, hr, rfl⟩ : ∃ r, P1[i]? = some r ∧ v = .str r.1 := by
        rw [List.getElem?_map] at hv
        cases e : P1[i]? with
        | none => rw [e] at hv; cases hv
        | some r => rw [e] at hv; exact ⟨r, rfl, (Option.some.inj hv).symm⟩
      have hi := (List.getElem?_eq_some_iff.mp hr).1
      obtain ⟨q0, e0, r1⟩ : ∃ q0, ls[i]? = some q0 ∧ RlL T.c_Way H q0 r := by
        have hi' : i < ls.length := by omega
        obtain ⟨r', e1, e2⟩ := pair_get' pr (List.getElem?_eq_getElem hi')
        rw [hr] at e1; cases e1
        exact ⟨_, List.getElem?_eq_getElem hi', e2⟩
      have f0 := find_at (by rw [pair_fst pr]; exact nd) e0
      rw [r1.1] at f0
      have lus := pair_len' pu
      have g1 := dget_st (s1 _ _ ha) f0
      have g2 := dget_wy (s1 _ _ hb) f0
      rw [r1.2.1] at g1
      refine ⟨rfl, yes_i (iteT ⟨_, rfl, _, rfl, p, _, dp, _, _, rfl, s1 _ _ hp, T.cl_Policy, T.no_Policy__starts, polF3 xp mp ap bp, _, rfl, ap, _, rfl, g1, _, rfl, p, _, dp, _, _, rfl, s1 _ _ hp, T.cl_Policy, T.no_Policy__ways, polF4 xp mp ap bp, _, rfl, bp, _, rfl, g2, by show 3 ≤ sizeLine; decide, fun u nu => ?_⟩)⟩
      have s2 := same_new (o := .tup [.str r.1, .bl r.2.1, .ref q0.2.2]) nu
      have hD2 := s2 _ _ h1
      have kk : Kw T.c_Way (upd H1 u (.tup [.str r.1, .bl r.2.1, .ref q0.2.2])) (upd (upd H1 u (.tup [.str r.1, .bl r.2.1, .ref q0.2.2])) D (.lst (us ++ [.ref u]))) := .upd hD2 fun t => by rcases t with ⟨_, e⟩ | ⟨_, _, _, _, _, e⟩ <;> cases e
      refine ⟨us, hD2, by rw [lus, List.length_take]; omega, us ++ [.ref u], same_mut (s1.trans s2) hD, upd_same, ?_⟩
      rw [List.take_add_one, hr, Option.toList_some]
      exact pair_app' (L2.Paired.mapP pu fun _ _ h => (h.keep (.same s2)).keep kk) (.cons ⟨u, q0.2.2, rfl, kk _ _ upd_same (.inl ⟨_, rfl⟩), (r1.2.2.keep (.same (s1.trans s2))).keep kk⟩ .nil)
    · rintro H1 ⟨us, s1, h1, pu⟩
      rw [List.length_map, List.take_length] at pu
      refine fun y dy ny ndy ne2 => ?_
      have s2 : Same H1 (upd (upd H1 dy (.own y)) y (.ins T.c_Policy dy [])) := fun a o h => by rw [upd_ne (ne_of_none h ny), upd_ne (ne_of_none h ndy)]; exact h
      have lrs : rs.length ≤ 100 := by
        have : P1.length = rs.length := by rw [← List.length_map (f := fun r : Rl => r.1), e1]; unfold mks; rw [List.length_map]
        omega
      have ndr : (mks rs).Nodup := by rw [← e1]; exact nd
      refine ⟨y, dy, xp, D, us, P1, rs, rfl, upd_same, S.same (s1.trans s2), ndr, lrs, s2 _ _ h1, L2.Paired.mapP pu fun _ _ h => h.keep (.same s2), fun r hr => by rw [← e1]; exact List.mem_map.mpr ⟨r, hr, rfl⟩, fun m a b H2 b2 nm na nb P2' => ⟨rfl, ?_⟩⟩
      rw [fold_self ndr e1] at P2'
      have fr : ∀ {c : Addr}, (upd (upd H1 dy (.own y)) y (.ins T.c_Policy dy [])) c = none → H c = none := fun {c} h => (s1.trans s2).free h
      exact qq y m a b H2 (fun c o h => b2 _ _ (ne_of_none (s1 _ _ h) ny) (s2 _ _ (s1 _ _ h))) (s1.free ny) (fr nm) (fr na) (fr nb) P2'
end
end My

namespace L2
open PySem PySem.Spec PyProof.Rows GenW
/-! ### a cut in a generator's body -/
def tGCut (t u : TGn) : TGn := fun D ys σ H => ∃ Mid : List V → L2.St → Hp → Prop, t { D with nx := Mid } ys σ H ∧ ∀ ys' σ' H', Mid ys' σ' H' → u D ys' σ' H'
theorem gss_cut {X : Cx} {st : Stmt} {rest : List Stmt} {t u : TGn} (a : GS X st t) (b : GSs X rest u) : GSs X (st :: rest) (tGCut t u) := by
  refine ⟨fun A S ip R n ys s₀ c fs K J gd lv s σ H D g hn k hI ht => ?_⟩
  obtain ⟨Mid, h1, h2⟩ := ht
  refine seg_execs_cons ?_
  refine a.run A S ip R n ys s₀ c fs _ J gd lv s σ H { D with nx := Mid } g hn ⟨fun n' ys' s₀' s' f hn' hs => ?_, k.exc⟩ hI h1
  cases f with
  | next =>
    obtain ⟨σ', H', I', q⟩ := hs
    exact b.run A S ip R n' ys' s₀' c fs K J gd lv s' σ' H' D g hn' k I' (h2 _ _ _ q)
  | brk => exact k.ok n' ys' s₀' s' .brk hn' hs
  | cont => exact k.ok n' ys' s₀' s' .cont hn' hs
  | ret u => exact k.ok n' ys' s₀' s' (.ret u) hn' hs
/-! ### the forms one uses of a for in a generator -/
theorem gfor_list {K : PySem.W.Frag} {a : Addr} {xs : List V} {g : TG} {tb : TGn} {D : GEnds} {ys : List V} {σ : L2.St} {H : Hp} (Pv : Nat → List V → L2.St → Hp → Prop) (h0 : Pv 0 ys σ H) (hl : ∀ i ys σ H, i ≤ xs.length → Pv i ys σ H → SqL K H a xs)
    (hs : ∀ i x ys σ H, xs[i]? = some x → Pv i ys σ H → g x σ H fun σ2 H2 => tb { D with nx := Pv (i + 1), ct := Pv (i + 1), bk := D.nx } ys σ2 H2) (hd : ∀ ys σ H, Pv xs.length ys σ H → D.nx ys σ H) :
    ∃ W : Nat → Nat → List V → L2.St → Hp → Prop, (∃ m, W 0 m ys σ H) ∧ ∀ i m ys σ H, W i m ys σ H →
      ((Itl K a).stop i H ∧ D.nx ys σ H) ∨ ((Itl K a).go i H ∧ ∃ N : List V → L2.St → Hp → Prop, (∀ ys' σ' H', N ys' σ' H' → ∃ m', m' < m ∧ W (i + 1) m' ys' σ' H') ∧ ∀ x H', (Itl K a).yld i H x H' → g x σ H' fun σ2 H2 => tb { D with nx := N, ct := N, bk := D.nx } ys σ2 H2) := by
  refine ⟨fun i m ys σ H => m = xs.length - i ∧ i ≤ xs.length ∧ Pv i ys σ H, ⟨xs.length, by simp, Nat.zero_le _, h0⟩, ?_⟩
  rintro i m ys σ H ⟨rfl, hi, p⟩
  have q := hl i ys σ H hi p
  by_cases hlt : i < xs.length
  · refine .inr ⟨⟨xs, xs[i], q, by simp [hlt]⟩, Pv (i + 1), fun ys' σ' H' p' => ⟨xs.length - (i + 1), by omega, rfl, hlt, p'⟩, fun x H' y => ?_⟩
    obtain ⟨e, y⟩ := y
    subst e
    exact hs i x ys σ _ (y xs q) p
  · have e : i = xs.length := by omega
    subst e
    exact .inl ⟨⟨xs, q, Nat.le_refl _⟩, hd ys σ H p⟩
theorem gfor_tup {K : PySem.W.Frag} {a : Addr} {xs : List V} {g : TG} {tb : TGn} {D : GEnds} {ys : List V} {σ : L2.St} {H : Hp} (Pv : Nat → List V → L2.St → Hp → Prop) (h0 : Pv 0 ys σ H) (hl : ∀ i ys σ H, i ≤ xs.length → Pv i ys σ H → SqT K H a xs)
    (hs : ∀ i x ys σ H, xs[i]? = some x → Pv i ys σ H → g x σ H fun σ2 H2 => tb { D with nx := Pv (i + 1), ct := Pv (i + 1), bk := D.nx } ys σ2 H2) (hd : ∀ ys σ H, Pv xs.length ys σ H → D.nx ys σ H) :
    ∃ W : Nat → Nat → List V → L2.St → Hp → Prop, (∃ m, W 0 m ys σ H) ∧ ∀ i m ys σ H, W i m ys σ H →
      ((Itt K a).stop i H ∧ D.nx ys σ H) ∨ ((Itt K a).go i H ∧ ∃ N : List V → L2.St → Hp → Prop, (∀ ys' σ' H', N ys' σ' H' → ∃ m', m' < m ∧ W (i + 1) m' ys' σ' H') ∧ ∀ x H', (Itt K a).yld i H x H' → g x σ H' fun σ2 H2 => tb { D with nx := N, ct := N, bk := D.nx } ys σ2 H2) := by
  refine ⟨fun i m ys σ H => m = xs.length - i ∧ i ≤ xs.length ∧ Pv i ys σ H, ⟨xs.length, by simp, Nat.zero_le _, h0⟩, ?_⟩
  rintro i m ys σ H ⟨rfl, hi, p⟩
  have q := hl i ys σ H hi p
  by_cases hlt : i < xs.length
  · refine .inr ⟨⟨xs, xs[i], q, by simp [hlt]⟩, Pv (i + 1), fun ys' σ' H' p' => ⟨xs.length - (i + 1), by omega, rfl, hlt, p'⟩, fun x H' y => ?_⟩
    obtain ⟨e, y⟩ := y
    subst e
    exact hs i x ys σ _ (y xs q) p
  · have e : i = xs.length := by omega
    subst e
    exact .inl ⟨⟨xs, q, Nat.le_refl _⟩, hd ys σ H p⟩
theorem gfor_enumT {K : PySem.W.Frag} {a : Addr} {xs : List V} {g : TG} {tb : TGn} {D : GEnds} {ys : List V} {σ : L2.St} {H : Hp} (Pv : Nat → List V → L2.St → Hp → Prop) (h0 : Pv 0 ys σ H) (hl : ∀ i ys σ H, i ≤ xs.length → Pv i ys σ H → SqT K H a xs)
    (hs : ∀ i x ys σ H T, xs[i]? = some x → Pv i ys σ H → H T = none → g (.ref T) σ (upd H T (.tup [.int (i : Nat), x])) fun σ2 H2 => tb { D with nx := Pv (i + 1), ct := Pv (i + 1), bk := D.nx } ys σ2 H2)
    (hd : ∀ ys σ H, Pv xs.length ys σ H → D.nx ys σ H) :
    ∃ W : Nat → Nat → List V → L2.St → Hp → Prop, (∃ m, W 0 m ys σ H) ∧ ∀ i m ys σ H, W i m ys σ H →
      ((ItuE K a).stop i H ∧ D.nx ys σ H) ∨ ((ItuE K a).go i H ∧ ∃ N : List V → L2.St → Hp → Prop, (∀ ys' σ' H', N ys' σ' H' → ∃ m', m' < m ∧ W (i + 1) m' ys' σ' H') ∧ ∀ x H', (ItuE K a).yld i H x H' → g x σ H' fun σ2 H2 => tb { D with nx := N, ct := N, bk := D.nx } ys σ2 H2) := by
  refine ⟨fun i m ys σ H => m = xs.length - i ∧ i ≤ xs.length ∧ Pv i ys σ H, ⟨xs.length, by simp, Nat.zero_le _, h0⟩, fun i m ys σ H hW => ?_⟩
  obtain ⟨em, hi, p⟩ := hW
  have q := hl i ys σ H hi p
  by_cases hlt : i < xs.length
  · refine .inr ⟨⟨xs, xs[i], q, List.getElem?_eq_getElem hlt⟩, Pv (i + 1), fun ys' σ' H' p' => ⟨xs.length - (i + 1), by omega, rfl, hlt, p'⟩, fun x H' y => ?_⟩
    obtain ⟨T, x', ev, nT, eH, hx⟩ := y
    subst ev eH
    exact hs i x' ys σ H T (hx xs q) p nT
  · have ei : i = xs.length := by omega
    subst ei
    exact .inl ⟨⟨xs, q, Nat.le_refl _⟩, hd ys σ H p⟩
end L2

namespace My
open PySem L2
/-! ### looser ways, looser rules -/
def partW (k : Wv) : Nat → Option Wv
  | 0 => if 0 < k.2.1 then some (k.1, k.2.1 - 1, k.2.2.1, k.2.2.2) else none
  | 1 => if k.2.1 < k.1 then some (k.1 - 1, k.2.1, k.2.2.1, k.2.2.2) else none
  | 2 => if k.1 < k.2.2.1 then some (k.1, k.2.1, k.2.2.1 - 1, k.2.2.2) else none
  | _ => if k.2.2.2 = true then some (k.1, k.2.1, k.2.2.1, false) else none
def lowW (k : Wv) : List Wv := (List.range 4).flatMap fun j => (partW k j).toList
def AdjW (k : Wv) : Prop := Adj k.1 k.2.1 k.2.2.1
theorem ite_some {c : Prop} [Decidable c] {a b : Wv} (h : (if c then some a else none) = some b) : c ∧ b = a := by
  by_cases d : c
  · rw [if_pos d] at h; exact ⟨d, (Option.some.inj h).symm⟩
  · rw [if_neg d] at h; cases h
theorem part_adj {k k' : Wv} {j : Nat} (a : AdjW k) (h : partW k j = some k') : AdjW k' := by
  obtain ⟨a1, a2, a3⟩ := a
  rcases j with _ | _ | _ | j
  · obtain ⟨c, rfl⟩ := ite_some h
    unfold AdjW Adj; simp only; omega
  · obtain ⟨c, rfl⟩ := ite_some h
    unfold AdjW Adj; simp only; omega
  · obtain ⟨c, rfl⟩ := ite_some h
    unfold AdjW Adj; simp only; omega
  · obtain ⟨c, rfl⟩ := ite_some h
    exact ⟨a1, a2, a3⟩
def putW (P : List Rl) (r : Rl) (i : Nat) (k : Wv) : List Rl := setR P (r.1, r.2.1, r.2.2.set i k)
def wayL (P : List Rl) (r : Rl) (i : Nat) : List (List Rl) := match r.2.2[i]? with
  | none => []
  | some k => (lowW k).map (putW P r i)
def staL (P : List Rl) (r : Rl) : List (List Rl) := if r.2.1 = true then [] else [setR P (r.1, true, r.2.2)]
def rowL2 (P : List Rl) (r : Rl) : List (List Rl) := staL P r ++ (List.range r.2.2.length).flatMap (wayL P r)
def loosR (P : List Rl) : List (List Rl) := P.flatMap (rowL2 P)
theorem range_flat2 {α : Type} (f : Nat → List α) (j : Nat) : (List.range (j + 1)).flatMap f = (List.range j).flatMap f ++ f j := by
  rw [List.range_succ, List.flatMap_append]; simp
theorem take_flat {α β : Type} {f : α → List β} {l : List α} {i : Nat} {x : α} (h : l[i]? = some x) : (l.take (i + 1)).flatMap f = (l.take i).flatMap f ++ f x := by
  rw [List.take_add_one, h, Option.toList_some, List.flatMap_append]; simp
theorem lowW_len (k : Wv) : (lowW k).length ≤ 4 := by
  unfold lowW
  have h : ∀ j, (partW k j).toList.length ≤ 1 := fun j => by cases partW k j <;> simp
  have e : List.range 4 = [0, 1, 2, 3] := rfl
  rw [e]
  simp only [List.flatMap_cons, List.flatMap_nil, List.length_append, List.length_nil]
  have := h 0; have := h 1; have := h 2; have := h 3
  omega
theorem wayL_len (P : List Rl) (r : Rl) (i : Nat) : (wayL P r i).length ≤ 4 := by
  unfold wayL
  split
  · simp
  · rw [List.length_map]; exact lowW_len _
theorem flat_len2 {α β : Type} {f : α → List β} {c : Nat} : ∀ {l : List α}, (∀ x ∈ l, (f x).length ≤ c) → (l.flatMap f).length ≤ c * l.length
  | [], _ => by simp
  | x :: l, h => by
    rw [List.flatMap_cons, List.length_append, List.length_cons, Nat.mul_succ]
    have := h x List.mem_cons_self
    have := flat_len2 (l := l) fun y hy => h y (List.mem_cons_of_mem _ hy)
    omega
theorem rowL2_len {P : List Rl} {r : Rl} (h : r.2.2.length ≤ 10) : (rowL2 P r).length ≤ 50 := by
  unfold rowL2
  rw [List.length_append]
  have := flat_len2 (f := wayL P r) (c := 4) (l := List.range r.2.2.length) fun i _ => wayL_len P r i
  rw [List.length_range] at this
  have : (staL P r).length ≤ 1 := by unfold staL; split <;> simp
  omega
theorem loos_len {P : List Rl} {n : Nat} (h : ∀ r ∈ P, r.2.2.length ≤ 10) : ((P.take n).flatMap (rowL2 P)).length ≤ 50 * P.length := by
  refine Nat.le_trans (flat_len2 (c := 50) fun r hr => rowL2_len (h r (List.mem_of_mem_take hr))) (Nat.mul_le_mul_left _ ?_)
  rw [List.length_take]; omega
/-- all are of the same marks, and good -/
def OkR (P : List Rl) : Prop := ∀ r ∈ P, (∀ k ∈ r.2.2, AdjW k) ∧ r.2.2.length ≤ 10
theorem set_ok {P : List Rl} {z : Str} {b : Bool} {ks : List Wv} (h : OkR P) (g : (∀ k ∈ ks, AdjW k) ∧ ks.length ≤ 10) : OkR (setR P (z, b, ks)) := fun r hr => by
  unfold setR at hr
  obtain ⟨q, hq, rfl⟩ := List.mem_map.mp hr
  by_cases e : q.1 = z
  · rw [if_pos e]; exact g
  · rw [if_neg e]; exact h q hq
theorem loos_ok {P Q : List Rl} (h : OkR P) (m : Q ∈ loosR P) : OkR Q ∧ Q.map (·.1) = P.map (·.1) := by
  obtain ⟨r, hr, m⟩ := List.mem_flatMap.mp m
  obtain ⟨h1, h2⟩ := h r hr
  rcases List.mem_append.mp m with m | m
  · unfold staL at m
    split at m
    · cases m
    · rw [List.mem_singleton.mp m]
      exact ⟨set_ok h ⟨h1, h2⟩, setR_fst _ _⟩
  · obtain ⟨i, _, m⟩ := List.mem_flatMap.mp m
    unfold wayL at m
    split at m
    · cases m
    · rename_i k hk
      obtain ⟨k', hk', rfl⟩ := List.mem_map.mp m
      refine ⟨set_ok h ⟨fun q hq => ?_, by rw [List.length_set]; exact h2⟩, setR_fst _ _⟩
      rcases List.mem_or_eq_of_mem_set hq with hq | rfl
      · exact h1 q hq
      · obtain ⟨j, _, hj⟩ := List.mem_flatMap.mp hk'
        cases e : partW k j with
        | none => rw [e] at hj; cases hj
        | some k2 =>
          rw [e] at hj
          rw [List.mem_singleton.mp hj]
          exact part_adj (h1 k (List.mem_of_getElem? hk)) e
/-! #### Way.lowered, by the place of the part -/
def partS4 : List Str := ["owned", "held", "seen", "early"]
theorem low_owned {a b c : Nat} (ad : Adj a b c) : lowT 1 a b c = if 0 < b then some (a, b - 1, c) else none := by
  obtain ⟨h1, h2, h3⟩ := ad
  unfold lowT
  simp only [Nat.one_ne_zero, if_false, if_true]
  by_cases z : b = 0
  · rw [if_pos z, if_neg (by omega)]
  · rw [if_neg z, if_pos (by omega : 0 < b)]
    simp only [show ¬ ((1 : Nat) = 2) by decide, if_false]
    rw [if_neg (by omega), show max a (b - 1) = a by omega, show max c a = c by omega]
theorem low_held {a b c : Nat} (ad : Adj a b c) : lowT 0 a b c = if b < a then some (a - 1, b, c) else none := by
  obtain ⟨h1, h2, h3⟩ := ad
  unfold lowT
  simp only [if_true, show ¬ ((0 : Nat) = 1) by decide, show ¬ ((0 : Nat) = 2) by decide, if_false]
  by_cases z : a = 0
  · rw [if_pos z, if_neg (by omega)]
  · rw [if_neg z]
    by_cases y : b < a
    · rw [if_pos y, if_neg (by omega), show max (a - 1) b = a - 1 by omega, show max c (a - 1) = c by omega]
    · have e : max (a - 1) b = a ∧ True ∧ max c (max (a - 1) b) = c := ⟨by omega, trivial, by omega⟩
      rw [if_neg y, if_pos e]
theorem low_seen {a b c : Nat} (ad : Adj a b c) : lowT 2 a b c = if a < c then some (a, b, c - 1) else none := by
  obtain ⟨h1, h2, h3⟩ := ad
  unfold lowT
  simp only [if_true, show ¬ ((2 : Nat) = 1) by decide, show ¬ ((2 : Nat) = 0) by decide, if_false]
  by_cases z : c = 0
  · rw [if_pos z, if_neg (by omega)]
  · rw [if_neg z]
    by_cases y : a < c
    · rw [if_pos y, if_neg (by omega), show max a b = a by omega, show max (c - 1) a = c - 1 by omega]
    · have e : max a b = a ∧ True ∧ max (c - 1) (max a b) = c := ⟨by omega, trivial, by omega⟩
      rw [if_neg y, if_pos e]
theorem low_use {C X : Addr} {H : Hp} {Q : VK} {E : XK} {x : Addr} {k : Wv} {j : Nat} {part : Str} (hj : partS4[j]? = some part) (w : Wy C H x k.1 k.2.1 k.2.2.1 k.2.2.2) (ad : AdjW k)
    (q0 : partW k j = none → ∀ H', Same H H' → Q .non H') (q1 : ∀ k', partW k j = some k' → ∀ z H', Same H H' → H z = none → Wy C H' z k'.1 k'.2.1 k'.2.2.1 k'.2.2.2 → Q (.ref z) H') : spLow C X [.ref x, .str part] H Q E := by
  refine ⟨x, part, k.1, k.2.1, k.2.2.1, k.2.2.2, rfl, w, ad, ?_⟩
  rcases j with _ | _ | _ | _ | j
  · cases hj
    have e := low_owned ad
    by_cases c : 0 < k.2.1
    · rw [if_pos c] at e
      exact .inr (.inr (.inr (.inr ⟨1, _, rfl, e, q1 _ (if_pos c)⟩)))
    · rw [if_neg c] at e
      exact .inr (.inr (.inr (.inl ⟨1, rfl, e, q0 (if_neg c)⟩)))
  · cases hj
    have e := low_held ad
    by_cases c : k.2.1 < k.1
    · rw [if_pos c] at e
      exact .inr (.inr (.inr (.inr ⟨0, _, rfl, e, q1 _ (if_pos c)⟩)))
    · rw [if_neg c] at e
      exact .inr (.inr (.inr (.inl ⟨0, rfl, e, q0 (if_neg c)⟩)))
  · cases hj
    have e := low_seen ad
    by_cases c : k.1 < k.2.2.1
    · rw [if_pos c] at e
      exact .inr (.inr (.inr (.inr ⟨2, _, rfl, e, q1 _ (if_pos c)⟩)))
    · rw [if_neg c] at e
      exact .inr (.inr (.inr (.inl ⟨2, rfl, e, q0 (if_neg c)⟩)))
  · cases hj
    by_cases c : k.2.2.2 = true
    · exact .inr (.inr (.inl ⟨rfl, c, q1 _ (if_pos c)⟩))
    · exact .inr (.inl ⟨rfl, by simpa using c, q0 (if_neg c)⟩)
  · simp [partS4] at hj
/-! #### policies that are made one after the other -/
def PolE (Cp Cw x : Addr) (H : Hp) (v : V) (e : List Rl × Addr × Addr) : Prop := ∃ y m, v = .ref y ∧ Pol Cp Cw H y x m e.2.1 e.2.2 e.1
theorem PolE.same {Cp Cw x : Addr} {H H' : Hp} {v : V} {e : List Rl × Addr × Addr} (h : PolE Cp Cw x H v e) (s : Same H H') : PolE Cp Cw x H' v e := let ⟨y, m, e, P⟩ := h; ⟨y, m, e, P.same s⟩
def absE (es : List (List Rl × Addr × Addr)) : List Addr := es.flatMap fun e => [e.2.1, e.2.2]
end My

namespace My
open PySem L2
def spChanged (Cp Cw Cs : Addr) : Sp := fun vs H Q _ => ∃ (p x m a b t : Addr) (P : List Rl) (rs : List Row) (z : Str) (st : Bool) (ks : List Wv), vs = [.ref p, .str z, .bl st, .ref t] ∧ Pol Cp Cw H p x m a b P ∧ ShO Cs H x rs ∧ P.map (·.1) = mks rs ∧ P.length ≤ 100 ∧ z ∈ mks rs ∧ WysT Cw H t ks ∧
  ∀ y m a b H', Same H H' → H y = none → H m = none → H a = none → H b = none → Pol Cp Cw H' y x m a b (setR P (z, st, ks)) → Q (.ref y) H'
def spWith (Cp Cw Cs : Addr) : Sp := fun vs H Q _ => ∃ (p x m a b w : Addr) (i : Nat) (P : List Rl) (rs : List Row) (z : Str) (r : Rl) (k : Wv), vs = [.ref p, .str z, .int i, .ref w] ∧ Pol Cp Cw H p x m a b P ∧ ShO Cs H x rs ∧ P.map (·.1) = mks rs ∧ P.length ≤ 100 ∧ lookR P z = some r ∧ i < r.2.2.length ∧ r.2.2.length ≤ 100 ∧ Wy Cw H w k.1 k.2.1 k.2.2.1 k.2.2.2 ∧
  ∀ y m a b H', Same H H' → H y = none → H m = none → H a = none → H b = none → Pol Cp Cw H' y x m a b (putW P r i k) → Q (.ref y) H'
theorem catA_any {K : PySem.W.Frag} {a b : Addr} {xs ys : List V} {H : Hp} {Q : VK} (ha : H a = some (.tup xs)) (hb : H b = some (.tup ys)) (l : xs.length + ys.length ≤ sizeLine) (q : ∀ p H', Same H H' → H' p = some (.tup (xs ++ ys)) → Q (.ref p) H') : rCatA K (.ref a) (.ref b) H Q :=
  ⟨a, b, xs, ys, rfl, rfl, SqT.of ha, SqT.of hb, l, fun e => q b H (Same.refl _) (by rw [e]; exact hb), fun _ e => q a H (Same.refl _) (by rw [e, List.append_nil]; exact ha), fun _ _ p np => q p _ (same_new np) upd_same⟩
theorem slA_any {K : PySem.W.Frag} {a : Addr} {xs : List V} {lo hi : Option Int} {H : Hp} {Q : VK} (h : H a = some (.tup xs)) (q : ∀ p H', Same H H' → H' p = some (.tup (cutV xs lo hi)) → Q (.ref p) H') : rSlA K (.ref a) lo hi H Q :=
  ⟨a, xs, rfl, SqT.of h, fun ⟨e1, e2⟩ => q a H (Same.refl _) (by unfold cutV; rw [e1, e2, List.drop_zero, Nat.sub_zero, List.take_length]; exact h), fun _ p np => q p _ (same_new np) upd_same⟩
theorem set_parts {α : Type} : ∀ {l : List α} {i : Nat} (x : α), i < l.length → l.take i ++ [x] ++ l.drop (i + 1) = l.set i x
  | [], _, _, h => by cases h
  | a :: l, 0, x, _ => by simp
  | a :: l, i + 1, x, h => by
    have := set_parts (l := l) (i := i) x (by simpa using h)
    simp only [List.take_succ_cons, List.drop_succ_cons, List.set_cons_succ, List.cons_append]
    rw [this]
theorem pair_setX {α β : Type} {F : α → β → Prop} : ∀ {l : List α} {m : List β} {i : Nat} {x : α} {y : β}, Paired F l m → F x y → Paired F (l.set i x) (m.set i y)
  | _, _, _, _, _, .nil, _ => .nil
  | _, _, 0, _, _, .cons _ t, f => .cons f t
  | _, _, i + 1, _, _, .cons h t, f => .cons h (pair_setX t f)
theorem look_mem' {rl : List Rl} {z : Str} {r : Rl} (h : lookR rl z = some r) : r ∈ rl ∧ r.1 = z := by
  unfold lookR at h
  exact ⟨List.mem_of_find?_eq_some h, by simpa using List.find?_some h⟩
section
variable {w : World} {K : PySem.W.Frag} {mg : Str → Option Value} {base : Heap}
set_option pp.maxSteps 900 in
theorem ok_changed (T : Txt K mg) : FnOk PP w K mg base CX0 12 T.a_changed T.fd_changed ["policy", "mark", "start", "ways"] (spChanged T.c_Policy T.c_Way T.c_Shape) := by
  refine T.F_changed.ok sc_changed (fun vs H Q E h => ?_) (fun cdv A outer s H vs Q E hr h => ?_)
  · obtain ⟨p, x, m, a, b, t, P, rs, z, st, ks, rfl, _⟩ := h; rfl
  · obtain ⟨p, x, m, a, b, t, P, rs, z, st, ks, rfl, hP, S, e1, l1, mz, wt, qq⟩ := h
    refine ⟨_, (pss_cons (ps_set (i := 4) sc_changed.nd rfl (.inl rfl) (pe_meth0 (pv 0) T.cl_Policy T.m_Policy_copy (ok_Policy_copy T) (hr.mono (by omega)) T.b_Policy_copy .nil pass0))
      (pss_cons (ps_asg (pe_tup (pa_cons (pv 2) (pa_cons (pv 3) pa_nil))) (pg_sub (pv 4) (pv 1) (set_own T.m_Policy_setitem T.nq_Policy (ok_Policy_setitem T) (hr.mono (by omega)) T.b_Policy_setitem pass0)))
      (pss_one (ps_ret (pv 4))))), ?_⟩
    obtain ⟨dp, hp⟩ := hP.obj
    refine ⟨_, rfl, p, dp, _, rfl, hp, rfl, p, x, m, a, b, P, rs, rfl, hP, S, e1, l1, fun y m2 a2 b2 H1 s1 ny nm na nb P1 => ?_⟩
    refine ⟨_, rfl, _, rfl, by show 2 ≤ sizeLine; decide, fun u nu => ?_⟩
    have s2 := same_new (o := .tup [.bl st, .ref t]) nu
    obtain ⟨dy, hy⟩ := P1.obj
    refine ⟨_, rfl, _, rfl, y, dy, _, rfl, s2 _ _ hy, y, x, m2, a2, b2, u, t, P, z, st, ks, rfl, P1.same s2, by omega, by rw [e1]; exact mz, upd_same, wt.keep (.same (s1.trans s2)), fun H3 l3 k3 P3 => ⟨_, rfl, ?_⟩⟩
    exact qq y m2 a2 b2 H3 (fun c o h => l3 _ _ (fun m => by
      simp only [List.mem_cons, List.not_mem_nil, or_false] at m
      rcases m with rfl | rfl
      · rw [na] at h; cases h
      · rw [nb] at h; cases h) ((s1.trans s2) _ _ h)) ny nm na nb P3
set_option pp.maxSteps 900 in
theorem ok_with_way (T : Txt K mg) : FnOk PP w K mg base CX0 14 T.a_with_way T.fd_with_way ["policy", "mark", "index", "way"] (spWith T.c_Policy T.c_Way T.c_Shape) := by
  refine T.F_with_way.ok sc_with_way (fun vs H Q E h => ?_) (fun cdv A outer s H vs Q E hr h => ?_)
  · obtain ⟨p, x, m, a, b, w, i, P, rs, z, r, k, rfl, _⟩ := h; rfl
  · obtain ⟨p, x, m, a, b, wy, i, P, rs, z, r, k, rfl, hP, S, e1, l1, hz, hi, lw, hw, qq⟩ := h
    refine ⟨_, (pss_cons (ps_asg (pe_getI T.m_Policy_getitem T.fi_Policy_getitem (ok_Policy_getitem T) (hr.mono (by omega)) T.b_Policy_getitem pass0 (pv 0) (pv 1)) (pg_tup rfl (pgs_cons (pg_name (i := 4) sc_with_way.nd rfl (.inl rfl)) (pgs_cons (pg_name (i := 5) sc_with_way.nd rfl (.inl rfl)) pgs_nil))))
      (pss_one (ps_ret (pe_call (ok_changed T) (hr.mono (by omega)) (by rfl) T.g_changed T.F_changed.kp T.b_changed .nil pass0 (pa_cons (pv 0) (pa_cons (pv 1) (pa_cons (pv 4) (pa_cons (pe_op op_catA (pe_op op_catA (pe_slice sl_tupA (pv 5) po_none (po_some (pv 2))) (pe_tup (pa_cons (pv 3) pa_nil))) (pe_slice sl_tupA (pv 5) (po_some (pe_op op_add (pv 2) (pe_int))) po_none)) pa_nil)))))))), ?_⟩
    have big : 100000 < sizeLine := by decide
    obtain ⟨dp, hp⟩ := hP.obj
    refine ⟨_, rfl, _, rfl, p, dp, _, rfl, hp, p, x, m, a, b, P, z, r, rfl, hP, hz, fun u t H1 s1 nu hu ⟨vs, ht, pw⟩ => ?_⟩
    refine ⟨u, _, rfl, SqT.of hu, rfl, _, _, rfl, _, _, rfl, rfl, ?_⟩
    have hz2 := hw
    refine ⟨_, rfl, _, rfl, _, rfl, _, rfl, _, rfl, _, rfl, slA_any ht fun p1 H2 s2 h2 => ?_⟩
    rw [cut_to] at h2
    refine ⟨_, rfl, by show 1 ≤ sizeLine; decide, fun u2 nu2 => ?_⟩
    have s3 := same_new (o := .tup [.ref wy]) nu2
    have lvs := pair_len' pw
    refine catA_any (s3 _ _ h2) upd_same (by rw [List.length_take]; simp only [List.length_cons, List.length_nil]; omega) fun p2 H3 s4 h3 => ?_
    have s14 := s2.trans (s3.trans s4)
    have ht3 := s14 _ _ ht
    refine ⟨_, rfl, _, rfl, _, _, rfl, rfl, _, rfl, ?_⟩
    dsimp only [tNoPart]
    refine slA_any ht3 fun p3 H4 s5 h4 => ?_
    rw [show ((i : Nat) : Int) + 1 = ((i + 1 : Nat) : Int) by omega, cut_from] at h4
    refine catA_any (s5 _ _ h3) h4 (by rw [List.length_append, List.length_take, List.length_drop]; simp only [List.length_cons, List.length_nil]; omega) fun p4 H5 s6 h5 => ?_
    rw [set_parts _ (by omega)] at h5
    have s05 := s1.trans (s14.trans (s5.trans s6))
    have s15 := s14.trans (s5.trans s6)
    exact ⟨p, x, m, a, b, p4, P, rs, z, r.2.1, r.2.2.set i k, rfl, hP.same s05, S.same s05, e1, l1, by rw [← e1, ← (look_mem' hz).2]; exact List.mem_map.mpr ⟨r, (look_mem' hz).1, rfl⟩, ⟨_, h5, pair_setX (L2.Paired.mapP pw fun _ _ h => h.keep (.same s15)) ⟨wy, rfl, Wy.same hw s05⟩⟩, fun y m2 a2 b2 H6 s7 ny nm na nb P6 => qq y m2 a2 b2 H6 (s05.trans s7) (s05.free ny) (s05.free nm) (s05.free na) (s05.free nb) (by unfold putW; rw [(look_mem' hz).2]; exact P6)⟩
end
end My

namespace My
open PySem L2
theorem abs_snoc (es : List (List Rl × Addr × Addr)) (e : List Rl × Addr × Addr) : absE (es ++ [e]) = absE es ++ [e.2.1, e.2.2] := by unfold absE; rw [List.flatMap_append]; simp
theorem mem_abs {es : List (List Rl × Addr × Addr)} {a : Addr} (h : a ∈ absE es) : ∃ e ∈ es, a = e.2.1 ∨ a = e.2.2 := by
  obtain ⟨e, he, h⟩ := List.mem_flatMap.mp h
  simp only [List.mem_cons, List.not_mem_nil, or_false] at h
  exact ⟨e, he, h⟩
/-- what is out so far: es tells which rules, which dicts -/
structure Outs (Cp Cw x : Addr) (H H' : Hp) (ys : List V) (es : List (List Rl × Addr × Addr)) (L : List (List Rl)) : Prop where
  pr : Paired (PolE Cp Cw x H') ys es
  eq : es.map (·.1) = L
  nd : (absE es).Nodup
  fr : ∀ a ∈ absE es, H a = none ∧ ∃ o, H' a = some o
theorem Outs.same {Cp Cw x : Addr} {H H' H2 : Hp} {ys : List V} {es : List (List Rl × Addr × Addr)} {L : List (List Rl)} (h : Outs Cp Cw x H H' ys es L) (s : Same H' H2) : Outs Cp Cw x H H2 ys es L :=
  ⟨L2.Paired.mapP h.pr fun _ _ e => e.same s, h.eq, h.nd, fun a m => ⟨(h.fr a m).1, (h.fr a m).2.imp fun _ e => s _ _ e⟩⟩
theorem Outs.add {Cp Cw x : Addr} {H H' H2 : Hp} {ys : List V} {es : List (List Rl × Addr × Addr)} {L : List (List Rl)} (h : Outs Cp Cw x H H' ys es L) (s : Same H H') (s2 : Same H' H2) {y m a b : Addr} {Q : List Rl} (na : H' a = none) (nb : H' b = none) (P : Pol Cp Cw H2 y x m a b Q) : Outs Cp Cw x H H2 (ys ++ [.ref y]) (es ++ [(Q, a, b)]) (L ++ [Q]) := by
  have h2 := h.same s2
  obtain ⟨_, _, ⟨ls, ha, hb, _⟩, ne, _⟩ := id P
  refine ⟨pair_app' h2.pr (.cons ⟨y, m, rfl, P⟩ .nil), by rw [List.map_append, h.eq]; rfl, ?_, fun c hc => ?_⟩
  · rw [abs_snoc]
    refine List.nodup_append.mpr ⟨h.nd, by simp [ne], fun c hc d hd e => ?_⟩
    obtain ⟨o, ho⟩ := (h.fr c hc).2
    subst e
    simp only [List.mem_cons, List.not_mem_nil, or_false] at hd
    rcases hd with rfl | rfl
    · rw [na] at ho; cases ho
    · rw [nb] at ho; cases ho
  · rw [abs_snoc] at hc
    rcases List.mem_append.mp hc with hc | hc
    · exact h2.fr c hc
    · simp only [List.mem_cons, List.not_mem_nil, or_false] at hc
      rcases hc with rfl | rfl
      · exact ⟨s.free na, _, ha⟩
      · exact ⟨s.free nb, _, hb⟩
def spLoos (Cp Cw Cs : Addr) : SpG := fun vs H Q _ => ∃ (p x m a b : Addr) (P : List Rl) (rs : List Row), vs = [.ref p] ∧ Pol Cp Cw H p x m a b P ∧ ShO Cs H x rs ∧ P.map (·.1) = mks rs ∧ P.length ≤ 100 ∧ OkR P ∧
  ∀ ys es H', Same H H' → Outs Cp Cw x H H' ys es (loosR P) → Q ys H'
section
variable {w : World} {K : PySem.W.Frag} {mg : Str → Option Value} {base : Heap}
set_option maxHeartbeats 16000000 in
set_option pp.maxSteps 700 in
theorem ok_loosenings (T : Txt K mg) : GFn PP w K mg base 16 T.a_loosenings T.fd_loosenings ["policy"] (spLoos T.c_Policy T.c_Way T.c_Shape) := by
  refine T.F_loosenings.gen sc_loosenings (fun vs H Q E h => ?_) (fun cdv A outer s H vs Q E pn hr h => ?_)
  · obtain ⟨p, x, m, a, b, P, rs, rfl, _⟩ := h; rfl
  · obtain ⟨p, x, m, a, b, P, rs, rfl, hP, S, e1, l1, ok, q⟩ := h
    refine ⟨_, (gss_cons (gs_for (passes_of rfl) rfl (pi_own T.m_Policy_iter (ok_Policy_iter T) (hr.mono (by omega)) (pv 0)) (pg_name (i := 1) sc_loosenings.nd rfl (.inl rfl)) (gss_cons (gs_ps (ps_asg (pe_getI T.m_Policy_getitem T.fi_Policy_getitem (ok_Policy_getitem T) (hr.mono (by omega)) T.b_Policy_getitem pass0 (pv 0) (pv 1)) (pg_tup rfl (pgs_cons (pg_name (i := 2) sc_loosenings.nd rfl (.inl rfl)) (pgs_cons (pg_name (i := 3) sc_loosenings.nd rfl (.inl rfl)) pgs_nil)))))
      (gss_cut (gs_if (pt_not (pt_val (pv 2))) (gss_cons (gs_yield (pe_call (ok_changed T) (hr.mono (by omega)) (by rfl) T.g_changed T.F_changed.kp T.b_changed .nil pass0 (pa_cons (pv 0) (pa_cons (pv 1) (pa_cons (pe_bl) (pa_cons (pv 3) pa_nil))))))
      gss_nil) gss_nil)
      (gss_cons (gs_for (passes_of rfl) rfl (pi_enumT (by rfl) T.n_enumerate (pa_cons (pv 3) pa_nil)) (pg_tup rfl (pgs_cons (pg_name (i := 4) sc_loosenings.nd rfl (.inl rfl)) (pgs_cons (pg_name (i := 5) sc_loosenings.nd rfl (.inl rfl)) pgs_nil))) (gss_cons (gs_for (passes_of rfl) rfl (pi_tup (ClX.pe_cval (pe_glob (v := .ref T.c_Way) (by rfl) T.g_Way rfl))) (pg_name (i := 6) sc_loosenings.nd rfl (.inl rfl)) (gss_cons (gs_ps (ps_set (i := 7) sc_loosenings.nd rfl (.inl rfl) (pe_meth (pv 5) T.cl_Way T.m_Way_lowered ((ok_Way_lowered T).calm) (hr.mono (by omega)) T.b_Way_lowered .nil pass0 (pa_cons (pv 6) pa_nil))))
      (gss_cons (gs_if (pt_cmpR op_notN (pv 7) (pe_non) (nomark _)) (gss_cons (gs_yield (pe_call (ok_with_way T) (hr.mono (by omega)) (by rfl) T.g_with_way T.F_with_way.kp T.b_with_way .nil pass0 (pa_cons (pv 0) (pa_cons (pv 1) (pa_cons (pv 4) (pa_cons (pv 7) pa_nil))))))
      gss_nil) gss_nil)
      gss_nil)))
      gss_nil))
      gss_nil))))
      gss_nil), ?_⟩
    have big : 100000 < sizeLine := by decide
    obtain ⟨dp, hp⟩ := hP.obj
    obtain ⟨ls, _⟩ : ∃ ls : List V, ls = P.map fun r => V.str r.1 := ⟨_, rfl⟩
    have hm : H m = some (.lst (P.map fun r => .str r.1)) := hP.mar
    refine ⟨_, rfl, p, dp, m, _, _, rfl, hp, polF2 x m a b, SqL.of hm, gfor_list (K := K) (a := m) (xs := P.map fun r => .str r.1) (fun i ys σ H' => ∃ (x1 x2 x3 x4 x5 x6 x7 : Option V) (es : List (List Rl × Addr × Addr)), σ = [some (.ref p), x1, x2, x3, x4, x5, x6, x7] ∧ Same H H' ∧ Outs T.c_Policy T.c_Way x H H' ys es ((P.take i).flatMap (rowL2 P))) ⟨_, _, _, _, _, _, _, [], rfl, Same.refl _, .nil, rfl, List.nodup_nil, fun _ h => nomatch h⟩ (fun i ys σ H' _ ⟨_, _, _, _, _, _, _, _, _, s, _⟩ => SqL.of (s _ _ hm)) ?_ ?_⟩
    rotate_left
    · rintro ys σ H2 ⟨x1, x2, x3, x4, x5, x6, x7, es, rfl, s2, o2⟩
      rw [List.length_map, List.take_length] at o2
      exact q ys es H2 s2 o2
    rintro i v ys σ H1 hv ⟨x1, x2, x3, x4, x5, x6, x7, es, rfl, s1, o1⟩
    obtain ⟨r, hr, rfl⟩ : ∃ r, P[i]? = some r ∧ v = .str r.1 := by
      rw [List.getElem?_map] at hv
      cases e : P[i]? with
      | none => rw [e] at hv; cases hv
      | some r => rw [e] at hv; exact ⟨r, rfl, (Option.some.inj hv).symm⟩
    have mr := List.mem_of_getElem? hr
    obtain ⟨adk, lk⟩ := ok r mr
    have hz : lookR P r.1 = some r := look_at hP.nd hr
    have mz : r.1 ∈ mks rs := by rw [← e1]; exact List.mem_map.mpr ⟨r, mr, rfl⟩
    refine ⟨_, rfl, _, rfl, p, dp, _, rfl, s1 _ _ hp, p, x, m, a, b, P, r.1, r, rfl, hP.same s1, hz, fun u t H2 s2 nu hu ⟨vs, ht, pw⟩ => ?_⟩
    refine ⟨u, _, rfl, SqT.of hu, rfl, _, _, rfl, _, _, rfl, rfl, ?_⟩
    have t2 := s1.trans s2
    have lvs := pair_len' pw
    have o2 := o1.same s2
    -- the start
    refine ⟨fun ys' σ' H' => ∃ es', σ' = [some (.ref p), some (.str r.1), some (.bl r.2.1), some (.ref t), x4, x5, x6, x7] ∧ Same H2 H' ∧ Outs T.c_Policy T.c_Way x H H' ys' es' ((P.take i).flatMap (rowL2 P) ++ staL P r), ?_, ?_⟩
    · refine ⟨_, rfl, _, rfl, iteB (fun c => ?_) (fun c => ?_)⟩
      · have c : r.2.1 = false := by simpa using c
        refine ⟨?_, _, rfl, _, rfl, _, rfl, p, x, m, a, b, t, P, rs, r.1, true, r.2.2, rfl, hP.same t2, S.same t2, e1, l1, mz, ⟨vs, ht, pw⟩, fun y m2 a2 b2 H3 s3 ny nm na nb P3 => ⟨es ++ [(setR P (r.1, true, r.2.2), a2, b2)], rfl, s3, ?_⟩⟩
        · have l := pair_len' o2.pr
          have l2 := congrArg List.length o2.eq
          rw [List.length_map] at l2
          have := loos_len (n := i) fun r h => (ok r h).2
          omega
        · rw [show staL P r = [setR P (r.1, true, r.2.2)] by unfold staL; rw [if_neg (by rw [c]; exact Bool.false_ne_true)]]
          exact o2.add t2 s3 na nb P3
      · have c : r.2.1 = true := by simpa using c
        exact ⟨es, rfl, Same.refl _, by rw [show staL P r = [] by unfold staL; rw [if_pos c], List.append_nil]; exact o2⟩
    clear o2 o1
    rintro ys2 σ2 H3 ⟨es2, rfl, s3, o3⟩
    have t3 := t2.trans s3
    have ht3 := s3 _ _ ht
    -- the ways
    refine ⟨_, rfl, t, vs, rfl, SqT.of ht3, gfor_enumT (K := K) (a := t) (xs := vs) (fun n ys σ H' => ∃ (x4 x5 x6 x7 : Option V) (es' : List (List Rl × Addr × Addr)), σ = [some (.ref p), some (.str r.1), some (.bl r.2.1), some (.ref t), x4, x5, x6, x7] ∧ Same H3 H' ∧ Outs T.c_Policy T.c_Way x H H' ys es' ((P.take i).flatMap (rowL2 P) ++ (staL P r ++ (List.range n).flatMap (wayL P r)))) ⟨_, _, _, _, es2, rfl, Same.refl _, by rw [List.range_zero, List.flatMap_nil, List.append_nil]; exact o3⟩ (fun n ys σ H' _ ⟨_, _, _, _, _, _, s, _⟩ => SqT.of (s _ _ ht3)) ?_ ?_⟩
    rotate_left
    · rintro ys σ H4 ⟨x4, x5, x6, x7, es4, rfl, s4, o4⟩
      refine ⟨_, _, _, _, _, _, _, es4, rfl, t3.trans s4, ?_⟩
      rw [take_flat hr]
      unfold rowL2
      rw [lvs] at o4
      exact o4
    rintro n v ys σ H4 TT hv ⟨x4, x5, x6, x7, es4, rfl, s4, o4⟩ nT
    obtain ⟨k, hk, wy, rfl, wk⟩ := pair_get' pw hv
    have sT := same_new (o := .tup [.int (n : Nat), .ref wy]) nT
    refine ⟨TT, _, rfl, .inl (.inl upd_same), rfl, _, _, rfl, _, _, rfl, rfl, ?_⟩
    have o5 := o4.same sT
    have t5 := t3.trans (s4.trans sT)
    have s25 := s3.trans (s4.trans sT)
    have hn := (List.getElem?_eq_some_iff.mp hk).1
    have adn := adk k (List.mem_of_getElem? hk)
    have s45 := s4.trans sT
    revert o5 t5 s25 s45
    generalize upd H4 TT (.tup [.int (n : Nat), .ref wy]) = H5
    intro o5 t5 s25 s45
    have wk5 : Wy T.c_Way H5 wy k.1 k.2.1 k.2.2.1 k.2.2.2 := Wy.same wk s25
    obtain ⟨dw, hwy⟩ := id wk5
    have ew : wayL P r n = (List.range 4).flatMap fun j => (partW k j).toList.map (putW P r n) := by
      unfold wayL lowW
      rw [hk]
      exact List.map_flatMap
    clear o4 o3 nT sT
    refine ⟨_, _, _, _, rfl, T.cr_Way, T.cv_Way_PARTS, T.k_Way_PARTS, rfl, ⟨_, T.q_Way_PARTS _⟩, gfor_tup (K := K) (a := T.k_Way_PARTS) (xs := partS4.map V.str) (fun j ys σ H' => ∃ (x6 x7 : Option V) (es' : List (List Rl × Addr × Addr)), σ = [some (.ref p), some (.str r.1), some (.bl r.2.1), some (.ref t), some (.int (n : Nat)), some (.ref wy), x6, x7] ∧ Same H5 H' ∧ Outs T.c_Policy T.c_Way x H H' ys es' ((P.take i).flatMap (rowL2 P) ++ (staL P r ++ ((List.range n).flatMap (wayL P r) ++ (List.range j).flatMap fun j => (partW k j).toList.map (putW P r n))))) ⟨_, _, es4, rfl, Same.refl _, by rw [List.range_zero, List.flatMap_nil, List.append_nil]; exact o5⟩ (fun _ _ _ _ _ _ => T.q_Way_PARTS _) ?_ ?_⟩
    rotate_left
    · rintro ys σ H6 ⟨x6, x7, es6, rfl, s6, o6⟩
      refine ⟨_, _, _, _, es6, rfl, s45.trans s6, ?_⟩
      rw [range_flat2, ew]
      exact o6
    rintro j v ys σ H6 hv ⟨x6, x7, es6, rfl, s6, o6⟩
    obtain ⟨z, hj, rfl⟩ : ∃ z, partS4[j]? = some z ∧ v = .str z := by
      rw [List.getElem?_map] at hv
      cases e : partS4[j]? with
      | none => rw [e] at hv; cases hv
      | some z => rw [e] at hv; exact ⟨z, rfl, (Option.some.inj hv).symm⟩
    have hj4 : j < 4 := (List.getElem?_eq_some_iff.mp hj).1
    have t6 := t5.trans s6
    have ly : ys.length < 100000 := by
      have l := pair_len' o6.pr
      have l2 := congrArg List.length o6.eq
      rw [List.length_map, List.length_append, List.length_append, List.length_append] at l2
      have h1 := loos_len (n := i) fun r h => (ok r h).2
      have h2 : (staL P r).length ≤ 1 := by unfold staL; split <;> simp
      have h3 := flat_len2 (f := wayL P r) (c := 4) (l := List.range n) fun i _ => wayL_len P r i
      have h4 := flat_len2 (f := fun j => (partW k j).toList.map (putW P r n)) (c := 1) (l := List.range j) fun i _ => by
        rw [List.length_map]; cases partW k i <;> simp
      rw [List.length_range] at h3 h4
      omega
    refine ⟨_, rfl, wy, dw, _, rfl, s6 _ _ hwy, wayF_no _ _ _ _ (by decide +kernel) (by decide +kernel) (by decide +kernel) (by decide +kernel), _, rfl, ?_⟩
    dsimp only [tNil, List.append_nil]
    refine low_use hj (Wy.same wk5 s6) adn (fun e0 H7 s7 => ?_) (fun k' e1' zw H7 s7 nz wz => ?_)
    · refine ⟨_, rfl, rfl, _, rfl, iteB (fun c => by simp at c) (fun _ => ⟨_, _, es6, rfl, s6.trans s7, ?_⟩)⟩
      rw [range_flat2, e0, Option.toList_none, List.map_nil, List.append_nil]
      exact o6.same s7
    · refine ⟨_, rfl, rfl, _, rfl, iteB (fun _ => ?_) (fun c => by simp at c)⟩
      have t7 := t6.trans s7
      refine ⟨by omega, _, rfl, _, rfl, _, rfl, _, rfl, p, x, m, a, b, zw, n, P, rs, r.1, r, k', rfl, hP.same t7, S.same t7, e1, l1, hz, hn, by omega, wz, fun y m2 a2 b2 H8 s8 ny nm na nb P8 => ⟨_, _, es6 ++ [(putW P r n k', a2, b2)], rfl, (s6.trans s7).trans s8, ?_⟩⟩
      rw [range_flat2, e1', Option.toList_some, List.map_cons, List.map_nil]
      have h := (o6.same s7).add t7 s8 na nb P8
      simpa only [List.append_assoc] using h
end
end My

namespace My
open PySem L2
theorem low_step {H0 H : Hp} {L q : Addr} {us : List V} {ks : List Wv} {k : Wv} (nL : H0 L = none) (s : Same H0 H) (hL : H L = some (.lst us)) (p : Paired (fun v k => LwV H v k ∧ v ≠ .ref L) us ks) (nq : H q = none) (ad : AdjW k) :
    Same H0 (upd (upd H q (LwO k.1 k.2.1 k.2.2.1 k.2.2.2)) L (.lst (us ++ [.ref q]))) ∧ (upd (upd H q (LwO k.1 k.2.1 k.2.2.1 k.2.2.2)) L (.lst (us ++ [.ref q]))) L = some (.lst (us ++ [.ref q])) ∧ Paired (fun v k2 => LwV (upd (upd H q (LwO k.1 k.2.1 k.2.2.1 k.2.2.2)) L (.lst (us ++ [.ref q]))) v k2 ∧ v ≠ .ref L) (us ++ [.ref q]) (ks ++ [k]) := by
  have nqL : q ≠ L := (ne_of_none hL nq).symm
  have sq := same_new (o := LwO k.1 k.2.1 k.2.2.1 k.2.2.2) nq
  refine ⟨fun a o h => by rw [upd_ne (ne_of_none h nL)]; exact sq _ _ (s _ _ h), upd_same, pair_app' (L2.Paired.mapP p fun v k ⟨⟨a, e1, f1, g1⟩, n1⟩ => ⟨⟨a, e1, by rw [upd_ne (fun z => n1 (by rw [e1, z]))]; exact sq _ _ f1, g1⟩, n1⟩) (.cons ⟨⟨q, rfl, ?_, ad⟩, fun z => nqL (by injection z)⟩ .nil)⟩
  rw [upd_ne nqL, upd_same]
def spLLowered : Sp := fun vs H Q _ => ∃ (p : Addr) (k : Wv), vs = [.ref p] ∧ H p = some (LwO k.1 k.2.1 k.2.2.1 k.2.2.2) ∧ AdjW k ∧ ∀ u us H', Same H H' → H u = none → H' u = some (.lst us) → Paired (LwV H') us (lowW k) → Q (.ref u) H'
section
variable {P : Program} {w : World} {K : PySem.W.Frag} {mg : Str → Option Value} {base : Heap}
set_option maxHeartbeats 16000000 in
set_option pp.maxSteps 900 in
theorem ok__law_lowered (T : Txt K mg) : FnOk P w K mg base CX0 1 T.a__law_lowered T.fd__law_lowered ["_law_way_here"] spLLowered := by
  refine T.F__law_lowered.ok sc__law_lowered (fun vs H Q E h => ?_) (fun cdv A outer s H vs Q E hr h => ?_)
  · obtain ⟨p, k, rfl, _⟩ := h; rfl
  · obtain ⟨p, k, rfl, hp, ad, q⟩ := h
    refine ⟨_, (pss_cons (ps_set (i := 1) sc__law_lowered.nd rfl (.inl rfl) (pe_lst pa_nil))
      (C8.pss_cut (ps_if (pt_cmpR op_gt (pe_ix ix_list (pv 0) (pe_int) (fun _ _ => rfl)) (pe_int) (nomark _)) (pss_one (ps_expr (pe_bm PySem.F.plainAttrs_list PySem.F.slot_list_append PySem.F.type_list_append mt_append (pv 1) (pa_cons (pe_lst (pa_cons (pe_ix ix_list (pv 0) (pe_int) (fun _ _ => rfl)) (pa_cons (pe_op op_sub (pe_ix ix_list (pv 0) (pe_int) (fun _ _ => rfl)) (pe_int)) (pa_cons (pe_ix ix_list (pv 0) (pe_int) (fun _ _ => rfl)) (pa_cons (pe_ix ix_list (pv 0) (pe_int) (fun _ _ => rfl)) pa_nil))))) pa_nil)))) pss_nil)
      (C8.pss_cut (ps_if (pt_cmpR op_gt (pe_ix ix_list (pv 0) (pe_int) (fun _ _ => rfl)) (pe_ix ix_list (pv 0) (pe_int) (fun _ _ => rfl)) (nomark _)) (pss_one (ps_expr (pe_bm PySem.F.plainAttrs_list PySem.F.slot_list_append PySem.F.type_list_append mt_append (pv 1) (pa_cons (pe_lst (pa_cons (pe_op op_sub (pe_ix ix_list (pv 0) (pe_int) (fun _ _ => rfl)) (pe_int)) (pa_cons (pe_ix ix_list (pv 0) (pe_int) (fun _ _ => rfl)) (pa_cons (pe_ix ix_list (pv 0) (pe_int) (fun _ _ => rfl)) (pa_cons (pe_ix ix_list (pv 0) (pe_int) (fun _ _ => rfl)) pa_nil))))) pa_nil)))) pss_nil)
      (C8.pss_cut (ps_if (pt_cmpR op_gt (pe_ix ix_list (pv 0) (pe_int) (fun _ _ => rfl)) (pe_ix ix_list (pv 0) (pe_int) (fun _ _ => rfl)) (nomark _)) (pss_one (ps_expr (pe_bm PySem.F.plainAttrs_list PySem.F.slot_list_append PySem.F.type_list_append mt_append (pv 1) (pa_cons (pe_lst (pa_cons (pe_ix ix_list (pv 0) (pe_int) (fun _ _ => rfl)) (pa_cons (pe_ix ix_list (pv 0) (pe_int) (fun _ _ => rfl)) (pa_cons (pe_op op_sub (pe_ix ix_list (pv 0) (pe_int) (fun _ _ => rfl)) (pe_int)) (pa_cons (pe_ix ix_list (pv 0) (pe_int) (fun _ _ => rfl)) pa_nil))))) pa_nil)))) pss_nil)
      (C8.pss_cut (ps_if (pt_val (pe_ix ix_list (pv 0) (pe_int) (fun _ _ => rfl))) (pss_one (ps_expr (pe_bm PySem.F.plainAttrs_list PySem.F.slot_list_append PySem.F.type_list_append mt_append (pv 1) (pa_cons (pe_lst (pa_cons (pe_ix ix_list (pv 0) (pe_int) (fun _ _ => rfl)) (pa_cons (pe_ix ix_list (pv 0) (pe_int) (fun _ _ => rfl)) (pa_cons (pe_ix ix_list (pv 0) (pe_int) (fun _ _ => rfl)) (pa_cons (pe_bl) pa_nil))))) pa_nil)))) pss_nil)
      (pss_one (ps_ret (pv 1)))))))), ?_⟩
    have big : 100000 < sizeLine := by decide
    refine ⟨Nat.zero_le _, fun L nL => ?_⟩
    have sL := same_new (o := .lst []) nL
    have ip : ∀ {H1 : Hp}, Same H H1 → SqL K H1 p [.int (k.1 : Nat), .int (k.2.1 : Nat), .int (k.2.2.1 : Nat), .bl k.2.2.2] := fun s => SqL.of (s _ _ hp)
    have M0 : ∃ us, Same H (upd H L (.lst [])) ∧ (upd H L (.lst [])) L = some (.lst us) ∧ Paired (fun v k => LwV (upd H L (.lst [])) v k ∧ v ≠ .ref L) us ((List.range 0).flatMap fun j => (partW k j).toList) := ⟨[], sL, upd_same, .nil⟩
    revert M0
    generalize upd H L (.lst []) = H1
    clear sL
    intro M0
    have lus : ∀ {H1 : Hp} {us : List V} {j : Nat}, Paired (fun v k => LwV H1 v k ∧ v ≠ .ref L) us ((List.range j).flatMap fun j => (partW k j).toList) → j ≤ 4 → us.length < sizeLine := fun {H1 us j} h hj => by
      have l := pair_len' h
      have h4 := flat_len2 (f := fun j => (partW k j).toList) (c := 1) (l := List.range j) fun i _ => by cases partW k i <;> simp
      rw [List.length_range] at h4
      omega
    have yes : ∀ {H1 : Hp} {us : List V} {j : Nat} {k' : Wv}, Same H H1 → H1 L = some (.lst us) → Paired (fun v k => LwV H1 v k ∧ v ≠ .ref L) us ((List.range j).flatMap fun j => (partW k j).toList) → partW k j = some k' → ∀ q, H1 q = none → ∃ us', Same H (upd (upd H1 q (LwO k'.1 k'.2.1 k'.2.2.1 k'.2.2.2)) L (.lst (us ++ [.ref q]))) ∧ (upd (upd H1 q (LwO k'.1 k'.2.1 k'.2.2.1 k'.2.2.2)) L (.lst (us ++ [.ref q]))) L = some (.lst us') ∧ Paired (fun v k => LwV (upd (upd H1 q (LwO k'.1 k'.2.1 k'.2.2.1 k'.2.2.2)) L (.lst (us ++ [.ref q]))) v k ∧ v ≠ .ref L) us' ((List.range (j + 1)).flatMap fun j => (partW k j).toList) := fun {H1 us j k'} s hL p e q nq => by
      obtain ⟨a, b, c⟩ := low_step nL s hL p nq (part_adj ad e)
      refine ⟨_, a, b, ?_⟩
      rw [range_flat2, e]
      exact c
    have no : ∀ {H1 : Hp} {us : List V} {j : Nat}, Same H H1 → H1 L = some (.lst us) → Paired (fun v k => LwV H1 v k ∧ v ≠ .ref L) us ((List.range j).flatMap fun j => (partW k j).toList) → partW k j = none → ∃ us', Same H H1 ∧ H1 L = some (.lst us') ∧ Paired (fun v k => LwV H1 v k ∧ v ≠ .ref L) us' ((List.range (j + 1)).flatMap fun j => (partW k j).toList) := fun {H1 us j} s hL p e => by
      refine ⟨_, s, hL, ?_⟩
      rw [range_flat2, e]
      simpa using p
    refine ⟨fun σ' H' => σ' = [some (.ref p), some (.ref L)] ∧ ∃ us, Same H H' ∧ H' L = some (.lst us) ∧ Paired (fun v k => LwV H' v k ∧ v ≠ .ref L) us ((List.range 1).flatMap fun j => (partW k j).toList), ?_, ?_⟩
    · obtain ⟨us, s2, hL, pu⟩ := M0
      refine ⟨_, rfl, _, _, _, _, rfl, rfl, ip s2, at_of (j := 1) rfl rfl, _, _, rfl, rfl, _, rfl, iteD (fun c => ?_) (fun c => ?_)⟩
      · have c : 0 < k.2.1 := by omega
        refine ⟨_, rfl, .inl ⟨rfl, _, SqL.of hL⟩, _, rfl, _, _, _, _, rfl, rfl, ip s2, at_of (j := 0) rfl rfl, _, rfl, _, _, _, _, rfl, rfl, ip s2, at_of (j := 1) rfl rfl, _, _, rfl, rfl, _, rfl, _, _, _, _, rfl, rfl, ip s2, at_of (j := 2) rfl rfl, _, rfl, _, _, _, _, rfl, rfl, ip s2, at_of (j := 3) rfl rfl, by show 4 ≤ sizeLine; decide, fun q nq => ⟨_, _, _, rfl, rfl, same_new nq _ _ hL, lus pu (by decide), rfl, ?_⟩⟩
        have h := yes s2 hL pu (if_pos c) q nq
        dsimp only
        rw [show ((k.2.1 : Nat) : Int) - 1 = ((k.2.1 - 1 : Nat) : Int) by omega]
        exact h
      · have c : ¬ 0 < k.2.1 := fun z => c (by omega)
        exact ⟨rfl, no s2 hL pu (if_neg c)⟩
    clear M0 H1
    rintro _ H2 ⟨rfl, M0⟩
    refine ⟨fun σ' H' => σ' = [some (.ref p), some (.ref L)] ∧ ∃ us, Same H H' ∧ H' L = some (.lst us) ∧ Paired (fun v k => LwV H' v k ∧ v ≠ .ref L) us ((List.range 2).flatMap fun j => (partW k j).toList), ?_, ?_⟩
    · obtain ⟨us, s2, hL, pu⟩ := M0
      refine ⟨_, rfl, _, _, _, _, rfl, rfl, ip s2, at_of (j := 0) rfl rfl, _, rfl, _, _, _, _, rfl, rfl, ip s2, at_of (j := 1) rfl rfl, _, _, rfl, rfl, _, rfl, iteD (fun c => ?_) (fun c => ?_)⟩
      · have c : k.2.1 < k.1 := by omega
        refine ⟨_, rfl, .inl ⟨rfl, _, SqL.of hL⟩, _, rfl, _, _, _, _, rfl, rfl, ip s2, at_of (j := 0) rfl rfl, _, _, rfl, rfl, _, rfl, _, _, _, _, rfl, rfl, ip s2, at_of (j := 1) rfl rfl, _, rfl, _, _, _, _, rfl, rfl, ip s2, at_of (j := 2) rfl rfl, _, rfl, _, _, _, _, rfl, rfl, ip s2, at_of (j := 3) rfl rfl, by show 4 ≤ sizeLine; decide, fun q nq => ⟨_, _, _, rfl, rfl, same_new nq _ _ hL, lus pu (by decide), rfl, ?_⟩⟩
        have h := yes s2 hL pu (if_pos c) q nq
        dsimp only
        rw [show ((k.1 : Nat) : Int) - 1 = ((k.1 - 1 : Nat) : Int) by omega]
        exact h
      · have c : ¬ k.2.1 < k.1 := fun z => c (by omega)
        exact ⟨rfl, no s2 hL pu (if_neg c)⟩
    clear M0 H2
    rintro _ H3 ⟨rfl, M0⟩
    refine ⟨fun σ' H' => σ' = [some (.ref p), some (.ref L)] ∧ ∃ us, Same H H' ∧ H' L = some (.lst us) ∧ Paired (fun v k => LwV H' v k ∧ v ≠ .ref L) us ((List.range 3).flatMap fun j => (partW k j).toList), ?_, ?_⟩
    · obtain ⟨us, s2, hL, pu⟩ := M0
      refine ⟨_, rfl, _, _, _, _, rfl, rfl, ip s2, at_of (j := 2) rfl rfl, _, rfl, _, _, _, _, rfl, rfl, ip s2, at_of (j := 0) rfl rfl, _, _, rfl, rfl, _, rfl, iteD (fun c => ?_) (fun c => ?_)⟩
      · have c : k.1 < k.2.2.1 := by omega
        refine ⟨_, rfl, .inl ⟨rfl, _, SqL.of hL⟩, _, rfl, _, _, _, _, rfl, rfl, ip s2, at_of (j := 0) rfl rfl, _, rfl, _, _, _, _, rfl, rfl, ip s2, at_of (j := 1) rfl rfl, _, rfl, _, _, _, _, rfl, rfl, ip s2, at_of (j := 2) rfl rfl, _, _, rfl, rfl, _, rfl, _, _, _, _, rfl, rfl, ip s2, at_of (j := 3) rfl rfl, by show 4 ≤ sizeLine; decide, fun q nq => ⟨_, _, _, rfl, rfl, same_new nq _ _ hL, lus pu (by decide), rfl, ?_⟩⟩
        have h := yes s2 hL pu (if_pos c) q nq
        dsimp only
        rw [show ((k.2.2.1 : Nat) : Int) - 1 = ((k.2.2.1 - 1 : Nat) : Int) by omega]
        exact h
      · have c : ¬ k.1 < k.2.2.1 := fun z => c (by omega)
        exact ⟨rfl, no s2 hL pu (if_neg c)⟩
    clear M0 H3
    rintro _ H4 ⟨rfl, M0⟩
    refine ⟨fun σ' H' => σ' = [some (.ref p), some (.ref L)] ∧ ∃ us, Same H H' ∧ H' L = some (.lst us) ∧ Paired (fun v k => LwV H' v k ∧ v ≠ .ref L) us ((List.range 4).flatMap fun j => (partW k j).toList), ?_, ?_⟩
    · obtain ⟨us, s2, hL, pu⟩ := M0
      refine ⟨_, rfl, _, _, _, _, rfl, rfl, ip s2, at_of (j := 3) rfl rfl, _, rfl, iteB (fun c => ?_) (fun c => ?_)⟩
      · have c : k.2.2.2 = true := c
        refine ⟨_, rfl, .inl ⟨rfl, _, SqL.of hL⟩, _, rfl, _, _, _, _, rfl, rfl, ip s2, at_of (j := 0) rfl rfl, _, rfl, _, _, _, _, rfl, rfl, ip s2, at_of (j := 1) rfl rfl, _, rfl, _, _, _, _, rfl, rfl, ip s2, at_of (j := 2) rfl rfl, by show 4 ≤ sizeLine; decide, fun q nq => ⟨_, _, _, rfl, rfl, same_new nq _ _ hL, lus pu (by decide), rfl, ?_⟩⟩
        have h := yes s2 hL pu (if_pos c) q nq
        exact h
      · have c : ¬ k.2.2.2 = true := by rw [c]; exact Bool.false_ne_true
        exact ⟨rfl, no s2 hL pu (if_neg c)⟩
    clear M0 H4
    rintro _ H5 ⟨rfl, M0⟩
    obtain ⟨us, s2, hL, pu⟩ := M0
    exact ⟨_, rfl, q L us _ s2 nL hL (L2.Paired.mapP pu fun _ _ h => h.1)⟩
end
end My

namespace My
open PySem L2
def LK (H H' : Hp) : Prop := ∀ a xs, H a = some (.lst xs) → H' a = some (.lst xs)
theorem LK.same {H H' : Hp} (s : Same H H') : LK H H' := fun a _ h => s a _ h
theorem LK.updD {H : Hp} {g : Addr} {kvs : List (Key × V)} {o : HO} (h : H g = some (.dK kvs)) : LK H (upd H g o) := fun a xs e => by rw [upd_ne (fun z => by rw [z, h] at e; cases e)]; exact e
theorem rdn_put {t : Addr} {B : Hp} {kvs : List (Key × V)} {rl : List Rl} {r : Rl} {q : Addr} (h : Paired (RdN t B) kvs rl) (m : r.1 ∈ rl.map (·.1)) (n : RdN t B (.inr r.1, .ref q) r) : Paired (RdN t B) (putK kvs (.inr r.1) (.ref q)) (setR rl r) := by
  have go : ∀ {kvs : List (Key × V)} {rl : List Rl}, Paired (RdN t B) kvs rl → Paired (RdN t B) (kvs.map fun kv => if kv.1 = .inr r.1 then (kv.1, .ref q) else kv) (setR rl r) := fun h => by
    induction h with
    | nil => exact .nil
    | @cons kv r0 kvs rl a b ih =>
      refine .cons ?_ ih
      have ek : kv.1 = .inr r0.1 := a.1
      show RdN t B (if kv.1 = .inr r.1 then (kv.1, .ref q) else kv) (if r0.1 = r.1 then r else r0)
      by_cases e : r0.1 = r.1
      · rw [if_pos e, if_pos (by rw [ek, e]), ek, e]; exact n
      · rw [if_neg e, if_neg (fun z => e (by rw [ek] at z; injection z))]; exact a
  rw [putK_old]
  · exact go h
  · obtain ⟨r0, hr0, e0⟩ := List.mem_map.mp m
    rw [← valV_any, List.any_eq_true]
    obtain ⟨i, hi⟩ := List.getElem?_of_mem hr0
    obtain ⟨kv, hkv, a⟩ := pair_back h hi
    exact ⟨kv, List.mem_of_getElem? hkv, decide_eq_true (by rw [a.1, e0])⟩
def spLWith : Sp := fun vs H Q _ => ∃ (t g w : Addr) (z : Str) (b : Bool) (kvs : List (Key × V)) (P : List Rl) (us : List V) (ks : List Wv), vs = [.ref g, .str z, .bl b, .ref w] ∧ (∃ o, H t = some o) ∧ w ≠ t ∧ H g = some (.dK kvs) ∧ Paired (RdN t H) kvs P ∧ (P.map (·.1)).Nodup ∧ z ∈ P.map (·.1) ∧ P.length ≤ 100 ∧ H w = some (.lst us) ∧ Paired (LwN t H) us ks ∧ us.length ≤ 100 ∧
  ∀ g' kv' H', Same H H' → H g' = none → H' g' = some (.dK kv') → Paired (RdN t H') kv' (setR P (z, b, ks)) → Q (.ref g') H'
def spLWithF : Sp := fun vs H Q _ => ∃ (t g w : Addr) (od : _) (z : Str) (b : Bool) (kvs : List (Key × V)) (P : List Rl) (us : List V) (ks : List Wv), vs = [.ref g, .str z, .bl b, .ref w] ∧ (∃ o, H t = some o) ∧ w ≠ t ∧ H g = some (.frz od (.dK kvs)) ∧ Paired (RdN t H) kvs P ∧ (P.map (·.1)).Nodup ∧ z ∈ P.map (·.1) ∧ P.length ≤ 100 ∧ H w = some (.lst us) ∧ Paired (LwN t H) us ks ∧ us.length ≤ 100 ∧
  ∀ g' kv' H', Same H H' → H g' = none → H' g' = some (.dK kv') → Paired (RdN t H') kv' (setR P (z, b, ks)) → Q (.ref g') H'
section
variable {P : Program} {w : World} {K : PySem.W.Frag} {mg : Str → Option Value} {base : Heap}
set_option maxHeartbeats 16000000 in
set_option pp.maxSteps 900 in
theorem ok__law_with (T : Txt K mg) : FnOk P w K mg base CX0 1 T.a__law_with T.fd__law_with ["_law_rules_here", "_law_mark", "_law_begin", "_law_ways"] spLWith := by
  refine T.F__law_with.ok sc__law_with (fun vs H Q E h => ?_) (fun cdv A outer s H vs Q E hr h => ?_)
  · obtain ⟨t, g, wl, z, b, kvs, P, us, ks, rfl, _⟩ := h; rfl
  · obtain ⟨t, g, wl, z, b, kvs, P, us, ks, rfl, ⟨ot, htt⟩, nwt, hg, pk, nd, mz, lP, hw, pw, lw, q⟩ := h
    refine ⟨_, (pss_cons (ps_set (i := 4) sc__law_with.nd rfl (.inl rfl) (pe_dnewK))
      (pss_cons (ps_lock (ps_for PassesOwn.never rfl (pi_keys (pv 0)) (pg_name (i := 5) sc__law_with.nd rfl (.inl rfl)) (pss_one (ps_dput (hu_of hr) (pv 4) (pv 5) (pe_dget (hu_of hr) (pv 0) (pv 5) (fun _ _ => rfl)) rfl))))
      (pss_cons (ps_dput (hu_of hr) (pv 4) (pv 1) (pe_lst (pa_cons (pv 2) (pa_cons (pv 3) pa_nil))) rfl)
      (pss_one (ps_ret (pv 4)))))), ?_⟩
    have big : 100000 < sizeLine := by decide
    have lkv := pair_len' pk
    refine fun G nG => ?_
    have s1 := same_new (o := .dK []) nG
    have hg1 := s1 _ _ hg
    have nGg : g ≠ G := ne_of_none hg nG
    refine ⟨g, _, hg1, trivial, fun od => ?_⟩
    have bG : But g H (upd (upd H G (.dK [])) g (.frz od (.dK kvs))) := fun c o n e => by rw [upd_ne n]; exact s1 _ _ e
    have fz : (upd (upd H G (.dK [])) g (.frz od (.dK kvs))) g = some (.frz od (.dK kvs)) := upd_same
    have hG0 : (upd (upd H G (.dK [])) g (.frz od (.dK kvs))) G = some (.dK []) := by rw [upd_ne nGg.symm]; exact upd_same
    refine ⟨_, rfl, g, od, rfl, .inl ⟨kvs, fz, for_it walk_keys (fun i σ H' => ∃ (x5 : Option V) (kv' : List (Key × V)), σ = [some (.ref g), some (.str z), some (.bl b), some (.ref wl), some (.ref G), x5] ∧ But g H H' ∧ H' g = some (.frz od (.dK kvs)) ∧ H' G = some (.dK kv') ∧ Paired (RdN t H') kv' (P.take i)) ⟨_, [], rfl, bG, fz, hG0, .nil⟩ (fun i σ H' _ ⟨_, _, _, _, h, _⟩ => h) ?_ ?_⟩⟩
    rotate_left
    · rintro σ H3 ⟨x5, kv', rfl, b3, f3, hG3, p3⟩
      rw [lkv, List.take_length] at p3
      have kl3 : ∀ {a : Addr} {xs : List V}, H a = some (.lst xs) → H3 a = some (.lst xs) := fun h => b3 _ _ (fun z => by rw [z, hg] at h; cases h) h
      refine ⟨f3, ?_⟩
      have sU : Same H (upd H3 g (.dK kvs)) := fun c o e => by
        by_cases n : c = g
        · rw [n, upd_same, ← hg, ← n, e]
        · rw [upd_ne n]; exact b3 c o n e
      have lkU : LK H3 (upd H3 g (.dK kvs)) := fun a xs e => by rw [upd_ne (fun z => by rw [z, f3] at e; cases e)]; exact e
      have hGU : (upd H3 g (.dK kvs)) G = some (.dK kv') := by rw [upd_ne nGg.symm]; exact hG3
      have pU := L2.Paired.mapP p3 fun _ _ h => h.keep fun a xs _ e => lkU a xs e
      revert sU hGU pU
      generalize (upd H3 g (.dK kvs)) = H4
      intro sU hGU pU
      refine ⟨_, rfl, _, rfl, by show 2 ≤ sizeLine; decide, fun u nu => ?_⟩
      have s5 := same_new (o := .lst [.bl b, .ref wl]) nu
      have hG5 := s5 _ _ hGU
      have lk' := pair_len' pU
      refine ⟨_, rfl, _, rfl, G, _, rfl, DPut.k (k := .inr z) hG5 (by rw [lk']; omega), ?_⟩
      have lk := LK.updD (o := .dK (putK kv' (.inr z) (.ref u))) hG5
      have pn := rdn_put (r := (z, b, ks)) (L2.Paired.mapP pU fun _ _ h => h.keep fun a xs _ e => lk _ _ (s5 _ _ e)) mz ⟨rfl, u, wl, us, rfl, (ne_of_none (sU _ _ htt) nu).symm, lk _ _ upd_same, nwt, lk _ _ (s5 _ _ (sU _ _ hw)), L2.Paired.mapP pw fun _ _ ⟨q, e, n, f, g⟩ => ⟨q, e, n, lk _ _ (s5 _ _ (sU _ _ f)), g⟩, lw⟩
      exact ⟨_, rfl, q G _ _ (fun c o e => by rw [upd_ne (ne_of_none e nG)]; exact s5 _ _ (sU _ _ e)) nG upd_same pn⟩
    rintro i v σ H3 H4 hi ⟨x5, kv', rfl, b3, f3, hG3, p3⟩ ⟨rfl, kk, v', ek, rfl⟩
    obtain ⟨r, hr, ek1, _⟩ := pair_get' pk ek
    have ek1 : kk = .inr r.1 := ek1
    subst ek1
    have hir := (List.getElem?_eq_some_iff.mp hr).1
    obtain ⟨kv, ev, rest⟩ := val_rdn pk nd hr
    obtain ⟨e0, q0, p0, us0, eq0, nq0, hq0, np0, hp0, pw0, l0⟩ := id rest
    have kl : LK H H4 := fun a xs h => b3 _ _ (fun z => by rw [z, hg] at h; cases h) h
    have dg : DGet H4 g (.str r.1) (some (.ref q0)) := .inl ⟨kvs, .inr r.1, .inr ⟨od, f3⟩, rfl, by rw [ev, eq0]⟩
    have lk' := pair_len' p3
    refine ⟨_, rfl, _, rfl, g, _, rfl, dg, _, rfl, _, rfl, G, _, rfl, DPut.k (k := .inr r.1) hG3 (by rw [lk', List.length_take]; omega), ?_⟩
    have nz : r.1 ∉ (P.take i).map (·.1) := by
      rw [List.map_take]
      exact (nodup_take.mp nd) i _ (by rw [List.getElem?_map, hr]; rfl)
    rw [L2.putK_new _ (rd_none p3 nz)]
    have lk := LK.updD (o := .dK (kv' ++ [(.inr r.1, .ref q0)])) hG3
    refine ⟨_, kv' ++ [(.inr r.1, .ref q0)], rfl, fun c o n e => by rw [upd_ne (ne_of_none e nG)]; exact b3 c o n e, by rw [upd_ne nGg]; exact f3, upd_same, ?_⟩
    rw [List.take_add_one, hr, Option.toList_some]
    exact pair_app' (L2.Paired.mapP p3 fun _ _ h => h.keep fun a xs _ e => lk a xs e) (.cons ⟨rfl, q0, p0, us0, rfl, nq0, lk _ _ (kl _ _ hq0), np0, lk _ _ (kl _ _ hp0), L2.Paired.mapP pw0 fun _ _ ⟨q, e, n, f, g⟩ => ⟨q, e, n, lk _ _ (kl _ _ f), g⟩, l0⟩ .nil)
set_option maxHeartbeats 16000000 in
set_option pp.maxSteps 900 in
theorem ok__law_with_f (T : Txt K mg) : FnOk P w K mg base CX0 1 T.a__law_with T.fd__law_with ["_law_rules_here", "_law_mark", "_law_begin", "_law_ways"] spLWithF := by
  refine T.F__law_with.ok sc__law_with (fun vs H Q E h => ?_) (fun cdv A outer s H vs Q E hr h => ?_)
  · obtain ⟨t, g, wl, od, z, b, kvs, P, us, ks, rfl, _⟩ := h; rfl
  · obtain ⟨t, g, wl, od, z, b, kvs, P, us, ks, rfl, ⟨ot, htt⟩, nwt, hg, pk, nd, mz, lP, hw, pw, lw, q⟩ := h
    refine ⟨_, (pss_cons (ps_set (i := 4) sc__law_with.nd rfl (.inl rfl) (pe_dnewK))
      (pss_cons (ps_for PassesOwn.never rfl (pi_keys (pv 0)) (pg_name (i := 5) sc__law_with.nd rfl (.inl rfl)) (pss_one (ps_dput (hu_of hr) (pv 4) (pv 5) (pe_dget (hu_of hr) (pv 0) (pv 5) (fun _ _ => rfl)) rfl)))
      (pss_cons (ps_dput (hu_of hr) (pv 4) (pv 1) (pe_lst (pa_cons (pv 2) (pa_cons (pv 3) pa_nil))) rfl)
      (pss_one (ps_ret (pv 4)))))), ?_⟩
    have big : 100000 < sizeLine := by decide
    have lkv := pair_len' pk
    refine fun G nG => ?_
    have s1 := same_new (o := .dK []) nG
    have hg1 := s1 _ _ hg
    have nGg : g ≠ G := ne_of_none hg nG
    skip
    have bG : But g H (upd H G (.dK [])) := fun c o n e => by exact s1 _ _ e
    have fz : (upd H G (.dK [])) g = some (.frz od (.dK kvs)) := hg1
    have hG0 : (upd H G (.dK [])) G = some (.dK []) := upd_same
    refine ⟨_, rfl, g, od, rfl, .inl ⟨kvs, fz, for_it walk_keys (fun i σ H' => ∃ (x5 : Option V) (kv' : List (Key × V)), σ = [some (.ref g), some (.str z), some (.bl b), some (.ref wl), some (.ref G), x5] ∧ But g H H' ∧ H' g = some (.frz od (.dK kvs)) ∧ H' G = some (.dK kv') ∧ Paired (RdN t H') kv' (P.take i)) ⟨_, [], rfl, bG, fz, hG0, .nil⟩ (fun i σ H' _ ⟨_, _, _, _, h, _⟩ => h) ?_ ?_⟩⟩
    rotate_left
    · rintro σ H3 ⟨x5, kv', rfl, b3, f3, hG3, p3⟩
      rw [lkv, List.take_length] at p3
      have kl3 : ∀ {a : Addr} {xs : List V}, H a = some (.lst xs) → H3 a = some (.lst xs) := fun h => b3 _ _ (fun z => by rw [z, hg] at h; cases h) h
      skip
      have sU : Same H H3 := fun c o e => by
        by_cases n : c = g
        · rw [n] at e ⊢; rw [f3, ← hg, e]
        · exact b3 c o n e
      have lkU : LK H3 H3 := fun a xs e => by exact e
      have hGU : H3 G = some (.dK kv') := by exact hG3
      have pU := L2.Paired.mapP p3 fun _ _ h => h.keep fun a xs _ e => lkU a xs e
      revert sU hGU pU
      generalize H3 = H4
      intro sU hGU pU
      refine ⟨_, rfl, _, rfl, by show 2 ≤ sizeLine; decide, fun u nu => ?_⟩
      have s5 := same_new (o := .lst [.bl b, .ref wl]) nu
      have hG5 := s5 _ _ hGU
      have lk' := pair_len' pU
      refine ⟨_, rfl, _, rfl, G, _, rfl, DPut.k (k := .inr z) hG5 (by rw [lk']; omega), ?_⟩
      have lk := LK.updD (o := .dK (putK kv' (.inr z) (.ref u))) hG5
      have pn := rdn_put (r := (z, b, ks)) (L2.Paired.mapP pU fun _ _ h => h.keep fun a xs _ e => lk _ _ (s5 _ _ e)) mz ⟨rfl, u, wl, us, rfl, (ne_of_none (sU _ _ htt) nu).symm, lk _ _ upd_same, nwt, lk _ _ (s5 _ _ (sU _ _ hw)), L2.Paired.mapP pw fun _ _ ⟨q, e, n, f, g⟩ => ⟨q, e, n, lk _ _ (s5 _ _ (sU _ _ f)), g⟩, lw⟩
      exact ⟨_, rfl, q G _ _ (fun c o e => by rw [upd_ne (ne_of_none e nG)]; exact s5 _ _ (sU _ _ e)) nG upd_same pn⟩
    rintro i v σ H3 H4 hi ⟨x5, kv', rfl, b3, f3, hG3, p3⟩ ⟨rfl, kk, v', ek, rfl⟩
    obtain ⟨r, hr, ek1, _⟩ := pair_get' pk ek
    have ek1 : kk = .inr r.1 := ek1
    subst ek1
    have hir := (List.getElem?_eq_some_iff.mp hr).1
    obtain ⟨kv, ev, rest⟩ := val_rdn pk nd hr
    obtain ⟨e0, q0, p0, us0, eq0, nq0, hq0, np0, hp0, pw0, l0⟩ := id rest
    have kl : LK H H4 := fun a xs h => b3 _ _ (fun z => by rw [z, hg] at h; cases h) h
    have dg : DGet H4 g (.str r.1) (some (.ref q0)) := .inl ⟨kvs, .inr r.1, .inr ⟨od, f3⟩, rfl, by rw [ev, eq0]⟩
    have lk' := pair_len' p3
    refine ⟨_, rfl, _, rfl, g, _, rfl, dg, _, rfl, _, rfl, G, _, rfl, DPut.k (k := .inr r.1) hG3 (by rw [lk', List.length_take]; omega), ?_⟩
    have nz : r.1 ∉ (P.take i).map (·.1) := by
      rw [List.map_take]
      exact (nodup_take.mp nd) i _ (by rw [List.getElem?_map, hr]; rfl)
    rw [L2.putK_new _ (rd_none p3 nz)]
    have lk := LK.updD (o := .dK (kv' ++ [(.inr r.1, .ref q0)])) hG3
    refine ⟨_, kv' ++ [(.inr r.1, .ref q0)], rfl, fun c o n e => by rw [upd_ne (ne_of_none e nG)]; exact b3 c o n e, by rw [upd_ne nGg]; exact f3, upd_same, ?_⟩
    rw [List.take_add_one, hr, Option.toList_some]
    exact pair_app' (L2.Paired.mapP p3 fun _ _ h => h.keep fun a xs _ e => lk a xs e) (.cons ⟨rfl, q0, p0, us0, rfl, nq0, lk _ _ (kl _ _ hq0), np0, lk _ _ (kl _ _ hp0), L2.Paired.mapP pw0 fun _ _ ⟨q, e, n, f, g⟩ => ⟨q, e, n, lk _ _ (kl _ _ f), g⟩, l0⟩ .nil)
end
end My

namespace My
open PySem L2
def DicN (t : Addr) (H : Hp) (v : V) (rl : List Rl) : Prop := ∃ g kvs, v = .ref g ∧ g ≠ t ∧ H g = some (.dK kvs) ∧ Paired (RdN t H) kvs rl
theorem DicN.but {t : Addr} {H H' : Hp} {v : V} {rl : List Rl} (h : DicN t H v rl) (b : But t H H') : DicN t H' v rl := let ⟨g, kvs, e, n, f, p⟩ := h; ⟨g, kvs, e, n, b _ _ n f, L2.Paired.mapP p fun _ _ x => x.keep (.but b)⟩
theorem dic_int {t : Addr} {H : Hp} {us : List V} {L : List (List Rl)} {a : Int} {r : List V} (p : Paired (DicN t H) us L) : us ≠ .int a :: r := fun e => by
  obtain ⟨_, _, _, _, e2, _⟩ := pair_get' p (i := 0) (x := V.int a) (by rw [e]; rfl)
  cases e2
theorem rdv_rdn {t : Addr} {H : Hp} {kv : Key × V} {r : Rl} (h : RdV H kv r) (n : H t = none) : RdN t H kv r := let ⟨a, q, p, us, e, f, g, k, l⟩ := h; ⟨a, q, p, us, e, ne_of_none f n, f, ne_of_none g n, g, L2.Paired.mapP k fun _ _ ⟨q, e, f, j⟩ => ⟨q, e, ne_of_none f n, f, j⟩, l⟩
theorem set_parts' {α : Type} : ∀ {l : List α} {i : Nat} (x : α), i < l.length → l.take i ++ [x] ++ l.drop (i + 1) = l.set i x := fun x h => set_parts x h
def spLLooser : Sp := fun vs H Q _ => ∃ (g : Addr) (kvs : List (Key × V)) (P : List Rl), vs = [.ref g] ∧ H g = some (.dK kvs) ∧ Paired (RdV H) kvs P ∧ (P.map (·.1)).Nodup ∧ P.length ≤ 100 ∧ (∀ r ∈ P, r.2.2.length ≤ 10) ∧
  ∀ u us H', Same H H' → H u = none → H' u = some (.lst us) → Paired (DicN u H') us (loosR P) → Q (.ref u) H'
section
variable {P : Program} {w : World} {K : PySem.W.Frag} {mg : Str → Option Value} {base : Heap}
set_option maxHeartbeats 32000000 in
set_option pp.maxSteps 700 in
theorem ok__law_looser_rules (T : Txt K mg) : FnOk P w K mg base CX0 3 T.a__law_looser_rules T.fd__law_looser_rules ["_law_rules_here"] spLLooser := by
  refine T.F__law_looser_rules.ok sc__law_looser_rules (fun vs H Q E h => ?_) (fun cdv A outer s H vs Q E hr h => ?_)
  · obtain ⟨g, kvs, P, rfl, _⟩ := h; rfl
  · obtain ⟨g, kvs, P, rfl, hg, pk, nd, lP, l10, q⟩ := h
    refine ⟨_, (pss_cons (ps_set (i := 1) sc__law_looser_rules.nd rfl (.inl rfl) (pe_lst pa_nil))
      (pss_cons (ps_lock (ps_for PassesOwn.never rfl (pi_keys (pv 0)) (pg_name (i := 2) sc__law_looser_rules.nd rfl (.inl rfl)) (pss_cons (ps_set (i := 3) sc__law_looser_rules.nd rfl (.inl rfl) (pe_ix ix_list (pe_dget (hu_of hr) (pv 0) (pv 2) (fun _ _ => rfl)) (pe_int) (fun _ _ => rfl)))
      (pss_cons (ps_set (i := 4) sc__law_looser_rules.nd rfl (.inl rfl) (pe_ix ix_list (pe_dget (hu_of hr) (pv 0) (pv 2) (fun _ _ => rfl)) (pe_int) (fun _ _ => rfl)))
      (C8.pss_cut (ps_if (pt_not (pt_val (pv 3))) (pss_one (ps_expr (pe_bm PySem.F.plainAttrs_list PySem.F.slot_list_append PySem.F.type_list_append mt_append (pv 1) (pa_cons (pe_call (ok__law_with_f T) (hr.mono (by omega)) (by rfl) T.g__law_with T.F__law_with.kp T.b__law_with .nil pass0 (pa_cons (pv 0) (pa_cons (pv 2) (pa_cons (pe_bl) (pa_cons (pv 4) pa_nil))))) pa_nil)))) pss_nil)
      (pss_one (ps_for PassesOwn.never rfl (pi_range1 (by rfl) T.n_range (pa_cons (pe_callB call_len_seq (by rfl) T.n_len (by decide +kernel) (pa_cons (pv 4) pa_nil)) pa_nil)) (pg_name (i := 5) sc__law_looser_rules.nd rfl (.inl rfl)) (pss_one (ps_for PassesOwn.never rfl (pi_list (pe_call (ok__law_lowered T) (hr.mono (by omega)) (by rfl) T.g__law_lowered T.F__law_lowered.kp T.b__law_lowered .nil pass0 (pa_cons (pe_ix ix_list (pv 4) (pv 5) (fun _ _ => rfl)) pa_nil))) (pg_name (i := 6) sc__law_looser_rules.nd rfl (.inl rfl)) (pss_one (ps_expr (pe_bm PySem.F.plainAttrs_list PySem.F.slot_list_append PySem.F.type_list_append mt_append (pv 1) (pa_cons (pe_call (ok__law_with_f T) (hr.mono (by omega)) (by rfl) T.g__law_with T.F__law_with.kp T.b__law_with .nil pass0 (pa_cons (pv 0) (pa_cons (pv 2) (pa_cons (pv 3) (pa_cons (pe_op op_cat (pe_op op_cat (pe_slice sl_list (pv 4) po_none (po_some (pv 5))) (pe_lst (pa_cons (pv 6) pa_nil))) (pe_slice sl_list (pv 4) (po_some (pe_op op_add (pv 5) (pe_int))) po_none)) pa_nil))))) pa_nil)))))))))))))
      (pss_one (ps_ret (pv 1))))), ?_⟩
    have big : 100000 < sizeLine := by decide
    have lkv := pair_len' pk
    refine ⟨Nat.zero_le _, fun L nL => ?_⟩
    have s1 := same_new (o := .lst []) nL
    have hg1 := s1 _ _ hg
    have nLg : g ≠ L := ne_of_none hg nL
    refine ⟨g, _, hg1, trivial, fun od => ?_⟩
    obtain ⟨Hb, eHb⟩ : ∃ Hb, Hb = upd (upd H L (.lst [])) g (.frz od (.dK kvs)) := ⟨_, rfl⟩
    rw [← eHb]
    have fb : Hb g = some (.frz od (.dK kvs)) := by rw [eHb]; exact upd_same
    have hLb : Hb L = some (.lst []) := by rw [eHb, upd_ne nLg.symm]; exact upd_same
    have lb : ∀ a xs, H a = some (.lst xs) → Hb a = some (.lst xs) := fun a xs h => by rw [eHb, upd_ne (fun z => by rw [z, hg] at h; cases h)]; exact s1 _ _ h
    have bgb : But g H Hb := fun c o n e => by rw [eHb, upd_ne n]; exact s1 _ _ e
    have pN : Paired (RdN L Hb) kvs P := L2.Paired.mapP pk fun _ _ h => (rdv_rdn h nL).keep fun a xs _ e => lb a xs e
    clear eHb
    have lenB : ∀ {us : List V} {H' : Hp} {A B : List (List Rl)} {n : Nat}, Paired (DicN L H') us (A ++ B) → A.length ≤ 5000 → B.length ≤ n → n ≤ 1000 → us.length < sizeLine := fun p h1 h2 h3 => by
      have l := pair_len' p
      rw [List.length_append] at l
      omega
    have lA : ∀ i, ((P.take i).flatMap (rowL2 P)).length ≤ 5000 := fun i => by
      have := loos_len (n := i) l10
      omega
    have lS : ∀ r, (staL P r).length ≤ 1 := fun r => by unfold staL; split <;> simp
    refine ⟨_, rfl, g, od, rfl, .inl ⟨kvs, fb, for_it walk_keys (fun i σ H' => ∃ (x2 x3 x4 x5 x6 : Option V) (us : List V), σ = [some (.ref g), some (.ref L), x2, x3, x4, x5, x6] ∧ But L Hb H' ∧ H' L = some (.lst us) ∧ Paired (DicN L H') us ((P.take i).flatMap (rowL2 P))) ⟨_, _, _, _, _, [], rfl, But.refl _ _, hLb, .nil⟩ (fun i σ H' _ ⟨_, _, _, _, _, _, _, b, _⟩ => b _ _ nLg fb) ?_ ?_⟩⟩
    rotate_left
    · rintro σ H3 ⟨x2, x3, x4, x5, x6, us, rfl, b3, hL3, p3⟩
      rw [lkv, List.take_length] at p3
      have f3 := b3 _ _ nLg fb
      refine ⟨f3, _, rfl, q L us _ (fun c o e => ?_) nL (by rw [upd_ne nLg.symm]; exact hL3) (L2.Paired.mapP p3 fun v rl ⟨g2, kv2, e, n, f, p⟩ => ⟨g2, kv2, e, n, by rw [upd_ne (fun z => by rw [z, f3] at f; cases f)]; exact f, L2.Paired.mapP p fun _ _ h => h.keep fun a xs _ e => by rw [upd_ne (fun z => by rw [z, f3] at e; cases e)]; exact e⟩)⟩
      by_cases n : c = g
      · rw [n, upd_same, ← hg, ← n, e]
      · rw [upd_ne n]; exact b3 _ _ (ne_of_none e nL) (bgb _ _ n e)
    rintro i v σ H3 H4 hi ⟨x2, x3, x4, x5, x6, us, rfl, b4, hL4, p4⟩ ⟨rfl, kk, v', ek, rfl⟩
    obtain ⟨r, hr, ek1, _⟩ := pair_get' pk ek
    have ek1 : kk = .inr r.1 := ek1
    subst ek1
    have mr := List.mem_of_getElem? hr
    have mz : r.1 ∈ P.map (·.1) := List.mem_map.mpr ⟨r, mr, rfl⟩
    have lr := l10 r mr
    obtain ⟨kv, ev, _, q0, p0, us0, eq0, nq0, hq0, np0, hp0, pw0, l0⟩ := val_rdn pN nd hr
    have l00 := pair_len' pw0
    have dg : ∀ {H' : Hp}, But L Hb H' → DGet H' g (.str r.1) (some (.ref q0)) := fun b => .inl ⟨kvs, .inr r.1, .inr ⟨od, b _ _ nLg fb⟩, rfl, by rw [ev, eq0]⟩
    have frz : ∀ {H' : Hp}, But L Hb H' → H' g = some (.frz od (.dK kvs)) := fun b => b _ _ nLg fb
    have pNb : ∀ {H' : Hp}, But L Hb H' → Paired (RdN L H') kvs P := fun b => L2.Paired.mapP pN fun _ _ h => h.keep (.but b)
    have pwb : ∀ {H' : Hp}, But L Hb H' → Paired (LwN L H') us0 r.2.2 := fun b => L2.Paired.mapP pw0 fun _ _ h => h.keep (.but b)
    refine ⟨_, rfl, _, rfl, g, _, rfl, dg b4, _, _, _, _, rfl, rfl, SqL.of (b4 _ _ nq0 hq0), atI_nat (j := 0) rfl, ?_⟩
    refine ⟨_, rfl, _, rfl, g, _, rfl, dg b4, _, _, _, _, rfl, rfl, SqL.of (b4 _ _ nq0 hq0), atI_nat (j := 1) rfl, ?_⟩
    -- the start
    refine ⟨fun σ' H' => ∃ us', σ' = [some (.ref g), some (.ref L), some (.str r.1), some (.bl r.2.1), some (.ref p0), x5, x6] ∧ But L Hb H' ∧ H' L = some (.lst us') ∧ Paired (DicN L H') us' ((P.take i).flatMap (rowL2 P) ++ staL P r), ?_, ?_⟩
    · refine ⟨_, rfl, _, rfl, iteB (fun c => ?_) (fun c => ?_)⟩
      · have c : r.2.1 = false := by simpa using c
        refine ⟨_, rfl, .inl ⟨rfl, _, SqL.of hL4⟩, _, rfl, _, rfl, _, rfl, L, g, p0, od, r.1, true, kvs, P, us0, r.2.2, rfl, ⟨_, hL4⟩, np0, frz b4, pNb b4, nd, mz, lP, b4 _ _ np0 hp0, pwb b4, l0, fun g' kv' H5 s5 ng' hg' pk' => ?_⟩
        have hL5 := s5 _ _ hL4
        have nL' : g' ≠ L := (ne_of_none hL4 ng').symm
        have bu : But L H5 (upd H5 L (.lst (us ++ [.ref g']))) := But.upd
        refine ⟨_, _, _, rfl, rfl, hL5, lenB (B := []) (n := 0) (by rw [List.append_nil]; exact p4) (lA i) (by simp) (by decide), us ++ [.ref g'], rfl, (b4.trans (But.of_same s5)).trans bu, upd_same, ?_⟩
        rw [show staL P r = [setR P (r.1, true, r.2.2)] by unfold staL; rw [if_neg (by rw [c]; exact Bool.false_ne_true)]]
        exact pair_app' (L2.Paired.mapP p4 fun _ _ h => (h.but (But.of_same s5)).but bu) (.cons (DicN.but ⟨g', kv', rfl, nL', hg', pk'⟩ bu) .nil)
      · have c : r.2.1 = true := by simpa using c
        exact ⟨us, rfl, b4, hL4, by rw [show staL P r = [] by unfold staL; rw [if_pos c], List.append_nil]; exact p4⟩
    clear p4 hL4 b4 H4
    rintro _ H5 ⟨us5, rfl, b5, hL5, p5⟩
    -- the ways
    refine ⟨_, rfl, p0, us0, rfl, .inl (SqL.of (b5 _ _ np0 hp0)), us0.length, rfl, by omega, by omega, for_range (lo := 0) (n := us0.length) (fun n σ H' => ∃ (x5 x6 : Option V) (us' : List V), σ = [some (.ref g), some (.ref L), some (.str r.1), some (.bl r.2.1), some (.ref p0), x5, x6] ∧ But L Hb H' ∧ H' L = some (.lst us') ∧ Paired (DicN L H') us' ((P.take i).flatMap (rowL2 P) ++ (staL P r ++ (List.range n).flatMap (wayL P r)))) ⟨_, _, us5, rfl, b5, hL5, by rw [List.range_zero, List.flatMap_nil, List.append_nil]; exact p5⟩ ?_ ?_⟩
    rotate_left
    · rintro σ H6 ⟨x5, x6, us6, rfl, b6, hL6, p6⟩
      refine ⟨_, _, _, _, _, us6, rfl, b6, hL6, ?_⟩
      rw [take_flat hr]
      unfold rowL2
      rw [l00] at p6
      exact p6
    clear p5 hL5 b5 H5
    rintro n σ H6 hn ⟨x5, x6, us6, rfl, b6, hL6, p6⟩
    rw [Int.zero_add]
    obtain ⟨vw, hvw⟩ : ∃ v, us0[n]? = some v := ⟨_, List.getElem?_eq_getElem hn⟩
    obtain ⟨k, hk, qw, rfl, nqw, hqw, adw⟩ := pair_get' pw0 hvw
    have hn2 : n < r.2.2.length := by omega
    have ew : wayL P r n = (lowW k).map (putW P r n) := by unfold wayL; rw [hk]
    refine ⟨_, rfl, _, rfl, _, _, _, _, rfl, rfl, SqL.of (b6 _ _ np0 hp0), atI_nat hvw, qw, k, rfl, b6 _ _ nqw hqw, adw, fun u wus H7 s7 nu hu pu => ?_⟩
    have b7 := b6.trans (But.of_same s7)
    have hL7 := s7 _ _ hL6
    have p7 := L2.Paired.mapP p6 fun _ _ h => h.but (But.of_same s7)
    have nuL : u ≠ L := (ne_of_none hL6 nu).symm
    have puN : Paired (LwN L H7) wus (lowW k) := L2.Paired.mapP pu fun v k ⟨q, e, f, g⟩ => ⟨q, e, fun z => by rw [z, hL7] at f; exact dic_int p7 (HO.lst.inj (Option.some.inj f)), f, g⟩
    have lw4 := lowW_len k
    have lwu := pair_len' puN
    refine ⟨u, rfl, ⟨_, SqL.of hu⟩, for_list (K := K) (a := u) (xs := wus) (fun j σ H' => ∃ (x6 : Option V) (us' : List V), σ = [some (.ref g), some (.ref L), some (.str r.1), some (.bl r.2.1), some (.ref p0), some (.int ((n : Nat) : Int)), x6] ∧ But L H7 H' ∧ H' L = some (.lst us') ∧ Paired (DicN L H') us' ((P.take i).flatMap (rowL2 P) ++ (staL P r ++ ((List.range n).flatMap (wayL P r) ++ ((lowW k).take j).map (putW P r n))))) ⟨_, us6, rfl, But.refl _ _, hL7, by rw [List.take_zero, List.map_nil, List.append_nil]; exact p7⟩ (fun j σ H' _ ⟨_, _, _, b, _⟩ => SqL.of (b _ _ nuL hu)) ?_ ?_⟩
    rotate_left
    · rintro σ H8 ⟨x6, us8, rfl, b8, hL8, p8⟩
      refine ⟨_, _, us8, rfl, b7.trans b8, hL8, ?_⟩
      rw [lwu, List.take_length] at p8
      rw [range_flat2, ew]
      exact p8
    rintro j v σ H8 hv ⟨x6, us8, rfl, b8, hL8, p8⟩
    obtain ⟨k', hk', qk, rfl, nqk, hqk, adk⟩ := pair_get' puN hv
    have b78 := b7.trans b8
    have hp8 := b78 _ _ np0 hp0
    have len8 : us8.length < sizeLine := lenB (n := 50) p8 (lA i) (by
      have h3 := flat_len2 (f := wayL P r) (c := 4) (l := List.range n) fun i _ => wayL_len P r i
      have := lS r
      rw [List.length_range] at h3
      rw [List.length_append, List.length_append, List.length_map, List.length_take]
      omega) (by decide)
    refine ⟨_, rfl, .inl ⟨rfl, _, SqL.of hL8⟩, _, rfl, _, rfl, _, rfl, _, rfl, _, rfl, _, rfl, p0, _, rfl, SqL.of hp8, fun c1 n1 => ?_⟩
    rw [cut_to]
    have sA := same_new (o := .lst (us0.take n)) n1
    refine ⟨_, rfl, by show 1 ≤ sizeLine; decide, fun l1 nl1 => ?_⟩
    have sB := same_new (o := .lst [.ref qk]) nl1
    refine ⟨c1, l1, _, _, rfl, rfl, sB _ _ upd_same, upd_same, by rw [List.length_take]; simp only [List.length_cons, List.length_nil]; omega, fun c2 n2 => ?_⟩
    have sC := same_new (o := .lst (us0.take n ++ [.ref qk])) n2
    have sABC := sA.trans (sB.trans sC)
    refine ⟨_, rfl, _, rfl, _, _, rfl, rfl, _, rfl, ?_⟩
    dsimp only [tNoPart]
    refine ⟨p0, _, rfl, SqL.of (sABC _ _ hp8), fun c3 n3 => ?_⟩
    rw [show ((n : Nat) : Int) + 1 = ((n + 1 : Nat) : Int) by omega, cut_from]
    have sD := same_new (o := .lst (us0.drop (n + 1))) n3
    refine ⟨c2, c3, _, _, rfl, rfl, sD _ _ upd_same, upd_same, by rw [List.length_append, List.length_take, List.length_drop]; simp only [List.length_cons, List.length_nil]; omega, fun c4 n4 => ?_⟩
    have sE := same_new (o := .lst (us0.take n ++ [.ref qk] ++ us0.drop (n + 1))) n4
    have s8E := sABC.trans (sD.trans sE)
    have nc4 : c4 ≠ L := (ne_of_none ((sABC.trans sD) _ _ hL8) n4).symm
    have hc4 := upd_same (H := upd (upd (upd (upd H8 c1 (.lst (us0.take n))) l1 (.lst [.ref qk])) c2 (.lst (us0.take n ++ [.ref qk]))) c3 (.lst (us0.drop (n + 1)))) (a := c4) (o := .lst (us0.take n ++ [.ref qk] ++ us0.drop (n + 1)))
    revert s8E hc4
    generalize upd (upd (upd (upd (upd H8 c1 (.lst (us0.take n))) l1 (.lst [.ref qk])) c2 (.lst (us0.take n ++ [.ref qk]))) c3 (.lst (us0.drop (n + 1)))) c4 (.lst (us0.take n ++ [.ref qk] ++ us0.drop (n + 1))) = H9
    intro s8E hc4
    rw [set_parts _ hn] at hc4
    have b9 := b78.trans (But.of_same s8E)
    have hL9 := s8E _ _ hL8
    have pw9 : Paired (LwN L H9) (us0.set n (.ref qk)) (r.2.2.set n k') := pair_setX (pwb b9) ⟨qk, rfl, nqk, (b8.trans (But.of_same s8E)) _ _ nqk hqk, adk⟩
    refine ⟨L, g, c4, od, r.1, r.2.1, kvs, P, us0.set n (.ref qk), r.2.2.set n k', rfl, ⟨_, hL9⟩, nc4, frz b9, pNb b9, nd, mz, lP, hc4, pw9, by rw [List.length_set]; exact l0, fun g' kv' Ha sa' ng' hg' pk' => ?_⟩
    have hLa := sa' _ _ hL9
    have nL' : g' ≠ L := (ne_of_none hL9 ng').symm
    have bu : But L Ha (upd Ha L (.lst (us8 ++ [.ref g']))) := But.upd
    refine ⟨_, _, _, rfl, rfl, hLa, len8, _, us8 ++ [.ref g'], rfl, ((b8.trans (But.of_same s8E)).trans (But.of_same sa')).trans bu, upd_same, ?_⟩
    rw [List.take_add_one, hk', Option.toList_some, List.map_append, List.map_cons, List.map_nil]
    have h := pair_app' (L2.Paired.mapP p8 fun _ _ h => ((h.but (But.of_same s8E)).but (But.of_same sa')).but bu) (.cons (DicN.but ⟨g', kv', rfl, nL', hg', pk'⟩ bu) .nil : Paired (DicN L (upd Ha L (.lst (us8 ++ [.ref g'])))) [.ref g'] [setR P (r.1, r.2.1, r.2.2.set n k')])
    simp only [List.append_assoc] at h ⊢
    exact h
end
end My

namespace My
open PySem L2
theorem isTup {K : PySem.W.Frag} {H : Hp} {z : Addr} {ws : List V} (h : H z = some (.tup ws)) : TyX K H (.ref z) (.type "tuple") := .base (.tup h)
theorem keys_rdv {H : Hp} : ∀ {kvs : List (Key × V)} {rl : List Rl}, Paired (RdV H) kvs rl → (kvs.map fun kv => kV kv.1) = (rl.map (·.1)).map V.str
  | _, _, .nil => rfl
  | _, _, .cons h t => by rw [List.map_cons, List.map_cons, List.map_cons, h.1, keys_rdv t]; rfl
theorem pol_but {Cp Cw : Addr} {H H' : Hp} {y x m a b g : Addr} {P : List Rl} {kvs : List (Key × V)} (hP : Pol Cp Cw H y x m a b P) (hg : H g = some (.dK kvs)) (n : g ≠ a ∧ g ≠ b) (bu : But g H H') : Pol Cp Cw H' y x m a b P := by
  obtain ⟨⟨dy, hy⟩, hm, _⟩ := id hP
  refine hP.le (A := [g]) (.but (by simp) bu) (fun c o h t => bu _ _ (fun z => ?_) h) fun c hc h => ?_
  · rw [z, hg] at h
    obtain rfl := Option.some.inj h
    rcases t with ⟨_, e⟩ | ⟨_, _, _, _, _, e⟩ <;> cases e
  · obtain rfl := List.mem_singleton.mp h
    simp only [List.mem_cons, List.not_mem_nil, or_false] at hc
    rcases hc with rfl | rfl | rfl | rfl
    · rw [hg] at hy; cases hy
    · rw [hg] at hm; cases hm
    · exact n.1 rfl
    · exact n.2 rfl
def spLReads (Cp Cw : Addr) : Sp := fun vs H Q _ => ∃ (y x m a b g : Addr) (kvs : List (Key × V)) (P : List Rl), vs = [.ref y, .ref g] ∧ Pol Cp Cw H y x m a b P ∧ H g = some (.dK kvs) ∧ Paired (RdV H) kvs P ∧ (g ≠ a ∧ g ≠ b) ∧ P.length ≤ 100 ∧ ∀ H', Same H H' → Q (.bl true) H'
section
variable {w : World} {K : PySem.W.Frag} {mg : Str → Option Value} {base : Heap}
set_option maxHeartbeats 16000000 in
set_option pp.maxSteps 700 in
theorem ok__law_reads (T : Txt K mg) : FnOk PP w K mg base CX0 7 T.a__law_reads T.fd__law_reads ["_law_policy_here", "_law_rules_here"] (spLReads T.c_Policy T.c_Way) := by
  refine T.F__law_reads.ok sc__law_reads (fun vs H Q E h => ?_) (fun cdv A outer s H vs Q E hr h => ?_)
  · obtain ⟨y, x, m, a, b, g, kvs, P, rfl, _⟩ := h; rfl
  · obtain ⟨y, x, m, a, b, g, kvs, P, rfl, hP, hg, pk, ng, lP, q⟩ := h
    refine ⟨_, (pss_cons (ps_set (i := 2) sc__law_reads.nd rfl (.inl rfl) (pe_lst (pa_cons (pe_str) (pa_cons (pe_str) (pa_cons (pe_str) (pa_cons (pe_str) pa_nil))))))
      (pss_cons (ps_if (pt_not (pt_val (pe_call (ok__law_same T 1) (hr.mono (by omega)) (by rfl) T.g__law_same T.F__law_same.kp T.b__law_same .nil pass0 (pa_cons (pe_callTy (call_listI T.m_Policy_iter (ok_Policy_iter T) T.m_Policy_len (ok_Policy_len T) T.b_Policy_len rfl (hr.mono (by omega))) (by rfl) T.n_list (by decide +kernel) (pa_cons (pv 0) pa_nil)) (pa_cons (pe_callTy (call_list_dK rfl) (by rfl) T.n_list (by decide +kernel) (pa_cons (pv 1) pa_nil)) pa_nil))))) (pss_one (ps_ret (pe_bl))) pss_nil)
      (pss_cons (ps_lock (ps_for PassesOwn.never rfl (pi_keys (pv 1)) (pg_name (i := 3) sc__law_reads.nd rfl (.inl rfl)) (pss_cons (ps_set (i := 4) sc__law_reads.nd rfl (.inl rfl) (pe_getI T.m_Policy_getitem T.fi_Policy_getitem (ok_Policy_getitem T) (hr.mono (by omega)) T.b_Policy_getitem pass0 (pv 0) (pv 3)))
      (pss_cons (ps_set (i := 5) sc__law_reads.nd rfl (.inl rfl) (pe_ix ix_list (pe_dget (hu_of hr) (pv 1) (pv 3) (fun _ _ => rfl)) (pe_int) (fun _ _ => rfl)))
      (pss_cons (ps_if (PW.pt (pw_or (pt_not (pt_val (pe_callB call_isi (by rfl) T.n_isinstance (by decide +kernel) (pa_cons (pv 4) (pa_cons (pe_bltn (v := .ty "tuple") (by rfl) T.n_tuple (by decide +kernel) rfl) pa_nil))))) (pw_or (pt_cmpR op_ne (pe_callB call_len_seq (by rfl) T.n_len (by decide +kernel) (pa_cons (pv 4) pa_nil)) (pe_int) (nomark _)) (pw_or1 (pt_not (pt_val (pe_callB call_isi (by rfl) T.n_isinstance (by decide +kernel) (pa_cons (pe_ix ix_tup (pv 4) (pe_int) (fun _ _ => rfl)) (pa_cons (pe_bltn (v := .ty "tuple") (by rfl) T.n_tuple (by decide +kernel) rfl) pa_nil))))))))) (pss_one (ps_ret (pe_bl))) pss_nil)
      (pss_cons (ps_if (PW.pt (pw_or (pt_not (pt_val (pe_call (ok__law_same T 1) (hr.mono (by omega)) (by rfl) T.g__law_same T.F__law_same.kp T.b__law_same .nil pass0 (pa_cons (pe_ix ix_tup (pv 4) (pe_int) (fun _ _ => rfl)) (pa_cons (pe_ix ix_list (pe_dget (hu_of hr) (pv 1) (pv 3) (fun _ _ => rfl)) (pe_int) (fun _ _ => rfl)) pa_nil))))) (pw_or1 (pt_cmpR op_ne (pe_callB call_len_seq (by rfl) T.n_len (by decide +kernel) (pa_cons (pe_ix ix_tup (pv 4) (pe_int) (fun _ _ => rfl)) pa_nil)) (pe_callB call_len_seq (by rfl) T.n_len (by decide +kernel) (pa_cons (pv 5) pa_nil)) (nomark _))))) (pss_one (ps_ret (pe_bl))) pss_nil)
      (pss_one (ps_for PassesOwn.never rfl (pi_range1 (by rfl) T.n_range (pa_cons (pe_callB call_len_seq (by rfl) T.n_len (by decide +kernel) (pa_cons (pv 5) pa_nil)) pa_nil)) (pg_name (i := 6) sc__law_reads.nd rfl (.inl rfl)) (pss_cons (ps_set (i := 7) sc__law_reads.nd rfl (.inl rfl) (pe_ix ix_tup (pe_ix ix_tup (pv 4) (pe_int) (fun _ _ => rfl)) (pv 6) (fun _ _ => rfl)))
      (pss_cons (ps_set (i := 8) sc__law_reads.nd rfl (.inl rfl) (pe_lst (pa_cons (pe_ix ix_list (pv 2) (pe_ix ix_list (pe_ix ix_list (pv 5) (pv 6) (fun _ _ => rfl)) (pe_int) (fun _ _ => rfl)) (fun _ _ => rfl)) (pa_cons (pe_ix ix_list (pv 2) (pe_ix ix_list (pe_ix ix_list (pv 5) (pv 6) (fun _ _ => rfl)) (pe_int) (fun _ _ => rfl)) (fun _ _ => rfl)) (pa_cons (pe_ix ix_list (pv 2) (pe_ix ix_list (pe_ix ix_list (pv 5) (pv 6) (fun _ _ => rfl)) (pe_int) (fun _ _ => rfl)) (fun _ _ => rfl)) (pa_cons (pe_ix ix_list (pe_ix ix_list (pv 5) (pv 6) (fun _ _ => rfl)) (pe_int) (fun _ _ => rfl)) pa_nil))))))
      (pss_one (ps_if (pt_not (pt_val (pe_call (ok__law_same T 1) (hr.mono (by omega)) (by rfl) T.g__law_same T.F__law_same.kp T.b__law_same .nil pass0 (pa_cons (pe_lst (pa_cons (pe_fld (pv 7) rfl) (pa_cons (pe_fld (pv 7) rfl) (pa_cons (pe_fld (pv 7) rfl) (pa_cons (pe_fld (pv 7) rfl) pa_nil))))) (pa_cons (pv 8) pa_nil))))) (pss_one (ps_ret (pe_bl))) pss_nil))))))))))))
      (pss_one (ps_ret (pe_bl)))))), ?_⟩
    have big : 100000 < sizeLine := by decide
    have lkv := pair_len' pk
    have bg : (P.length : Int) < 2 ^ 63 := by
      have : (P.length : Int) ≤ 100 := by omega
      exact Int.lt_of_le_of_lt this (by decide)
    have nd := hP.nd
    have ek := keys_rdv pk
    obtain ⟨dy, hy⟩ := hP.obj
    refine ⟨by show 4 ≤ sizeLine; decide, fun pw npw => ?_⟩
    have s1 := same_new (o := .lst [.str "none", .str "one", .str "most", .str "all"]) npw
    have W1 : (upd H pw (.lst [.str "none", .str "one", .str "most", .str "all"])) pw = some (.lst levV) := upd_same
    revert s1 W1
    generalize upd H pw (.lst [.str "none", .str "one", .str "most", .str "all"]) = H1
    intro s1 W1
    have P1 := hP.same s1
    have hy1 := s1 _ _ hy
    refine ⟨_, rfl, y, dy, m, _, _, rfl, hy1, polF2 x m a b, SqL.of P1.mar, by rw [List.length_map]; omega, fun c nc => ⟨y, x, m, a, b, P, rfl, P1.same (same_new nc), ⟨_, rfl, by omega⟩, rfl⟩, fun c nc => ?_⟩
    have s2 := same_new (o := .lst (P.map fun r => .str r.1)) nc
    have hc2 : (upd H1 c (.lst (P.map fun r => .str r.1))) c = some (.lst ((P.map (·.1)).map V.str)) := by rw [upd_same, List.map_map]; rfl
    have ncy : c ≠ y := (ne_of_none hy1 nc).symm
    revert s2 hc2
    generalize upd H1 c (.lst (P.map fun r => .str r.1)) = H2
    intro s2 hc2
    have hg2 := (s1.trans s2) _ _ hg
    refine ⟨_, rfl, g, kvs, rfl, hg2, fun c2 nc2 => ?_⟩
    have s3 := same_new (o := .lst (kvs.map fun kv => kV kv.1)) nc2
    have hc3 : (upd H2 c2 (.lst (kvs.map fun kv => kV kv.1))) c2 = some (.lst ((P.map (·.1)).map V.str)) := by rw [upd_same, ek]
    have nc2y : c2 ≠ y := (ne_of_none (s2 _ _ hy1) nc2).symm
    revert s3 hc3
    generalize upd H2 c2 (.lst (kvs.map fun kv => kV kv.1)) = H3
    intro s3 hc3
    refine ⟨y, _, _, _, _, rfl, dn_strL (s3 _ _ hc2) ncy (by rw [List.length_map]; omega), dn_strL hc3 nc2y (by rw [List.length_map]; omega), _, rfl, iteNo nsame ?_⟩
    have s03 := s1.trans (s2.trans s3)
    have hg3 := s03 _ _ hg
    have W3 := s3 _ _ (s2 _ _ W1)
    have P3 := hP.same s03
    have pk3 := L2.Paired.mapP pk fun _ _ h => h.same s03
    clear hc3 nc2y hc2 ncy hg2 hy1 P1 s2 s3 s1 W1 nc nc2 npw
    -- each rule
    refine ⟨g, _, hg3, trivial, fun od => ?_⟩
    refine ⟨_, rfl, g, od, rfl, .inl ⟨kvs, upd_same, for_it walk_keys (fun i σ H' => ∃ (x3 x4 x5 x6 x7 x8 : Option V), σ = [some (.ref y), some (.ref g), some (.ref pw), x3, x4, x5, x6, x7, x8] ∧ But g H3 H' ∧ H' g = some (.frz od (.dK kvs))) ⟨_, _, _, _, _, _, rfl, But.upd, upd_same⟩ (fun i σ H' _ ⟨_, _, _, _, _, _, _, _, h⟩ => h) ?_ ?_⟩⟩
    rotate_left
    · rintro σ H4 ⟨x3, x4, x5, x6, x7, x8, rfl, b4, f4⟩
      refine ⟨f4, q _ (s03.trans fun c o e => ?_)⟩
      by_cases n : c = g
      · rw [n, upd_same, ← hg3, ← n, e]
      · rw [upd_ne n]; exact b4 c o n e
    rintro i v σ H3' H4 hi ⟨x3, x4, x5, x6, x7, x8, rfl, b4, f4⟩ ⟨rfl, kk, v', ekk, rfl⟩
    obtain ⟨r, hr, ek1, _⟩ := pair_get' pk ekk
    have ek1 : kk = .inr r.1 := ek1
    subst ek1
    obtain ⟨kv, ev, _, q0, p0, us0, eq0, hq0, hp0, pw0, l0⟩ := val_rd pk3 nd hr
    have hz : lookR P r.1 = some r := look_at nd hr
    have P4 := pol_but P3 hg3 ng b4
    obtain ⟨dy4, hy4⟩ := P4.obj
    have kl : ∀ {a : Addr} {xs : List V}, H3 a = some (.lst xs) → H4 a = some (.lst xs) := fun h => b4 _ _ (fun z => by rw [z, hg3] at h; cases h) h
    refine ⟨_, rfl, _, rfl, y, dy4, _, rfl, hy4, y, x, m, a, b, P, r.1, r, rfl, P4, hz, fun u t H5 s5 nu hu ⟨ts, ht, tw⟩ => ?_⟩
    have l00 := pair_len' pw0
    have lt := pair_len' tw
    have hq5 := s5 _ _ (kl hq0)
    have hp5 := s5 _ _ (kl hp0)
    have dg : DGet H5 g (.str r.1) (some (.ref q0)) := .inl ⟨kvs, .inr r.1, .inr ⟨od, s5 _ _ f4⟩, rfl, by rw [ev, eq0]⟩
    have W5 := s5 _ _ (kl W3)
    refine ⟨_, rfl, _, rfl, g, _, rfl, dg, _, _, _, _, rfl, rfl, SqL.of hq5, atI_nat (j := 1) rfl, ?_⟩
    refine ⟨_, rfl, _, _, _, _, true, rfl, ClsV.ty _, isTup hu, kit_ty (by decide +kernel), _, rfl, iteNo rfl ?_⟩
    refine ⟨_, rfl, u, _, rfl, .inr (SqT.of hu), rfl, _, rfl, iteNo rfl ?_⟩
    refine ⟨_, rfl, _, _, _, _, rfl, rfl, SqT.of hu, atI_nat (j := 1) rfl, _, _, _, _, true, rfl, ClsV.ty _, isTup ht, kit_ty (by decide +kernel), _, rfl, iteNo rfl ?_⟩
    refine ⟨_, rfl, _, _, _, _, rfl, rfl, SqT.of hu, atI_nat (j := 0) rfl, _, rfl, _, rfl, g, _, rfl, dg, _, _, _, _, rfl, rfl, SqL.of hq5, atI_nat (j := 0) rfl, y, _, _, .bool r.2.1, .bool r.2.1, rfl, Dn.bl _, Dn.bl _, _, rfl, iteNo nsame ?_⟩
    refine ⟨_, rfl, _, _, _, _, rfl, rfl, SqT.of hu, atI_nat (j := 1) rfl, t, _, rfl, .inr (SqT.of ht), _, rfl, p0, _, rfl, .inl (SqL.of hp5), rfl, _, rfl, iteNo (by rw [lt, l00]; simp) ?_⟩
    refine ⟨_, rfl, p0, us0, rfl, .inl (SqL.of hp5), us0.length, rfl, by omega, by omega, for_range (lo := 0) (n := us0.length) (fun n σ H' => ∃ (x6 x7 x8 : Option V), σ = [some (.ref y), some (.ref g), some (.ref pw), some (.str r.1), some (.ref u), some (.ref p0), x6, x7, x8] ∧ Same H5 H') ⟨_, _, _, rfl, Same.refl _⟩ ?_ ?_⟩
    rotate_left
    · rintro σ H6 ⟨x6, x7, x8, rfl, s6⟩
      exact ⟨_, _, _, _, _, _, rfl, fun c o n e => s6 _ _ (s5 _ _ (b4 c o n e)), s6 _ _ (s5 _ _ f4)⟩
    rintro n σ H6 hn ⟨x6, x7, x8, rfl, s6⟩
    rw [Int.zero_add]
    obtain ⟨v, hv⟩ : ∃ v, us0[n]? = some v := ⟨_, List.getElem?_eq_getElem hn⟩
    obtain ⟨k, hk, qk, rfl, hqk, ab, ac, c4⟩ := pair_get' pw0 hv
    obtain ⟨v2, hv2⟩ : ∃ v, ts[n]? = some v := ⟨_, List.getElem?_eq_getElem (by omega)⟩
    obtain ⟨k', hk', xw, rfl, dx, hx⟩ := pair_get' tw hv2
    obtain rfl : k = k' := by rw [hk] at hk'; exact Option.some.inj hk'
    have hu6 := s6 _ _ hu
    have ht6 := s6 _ _ ht
    have hp6 := s6 _ _ hp5
    have hq6 := s6 _ _ (s5 _ _ (kl hqk))
    have W6 := s6 _ _ W5
    refine ⟨_, rfl, _, _, _, _, rfl, rfl, SqT.of hu6, atI_nat (j := 1) rfl, _, rfl, _, _, _, _, rfl, rfl, SqT.of ht6, atI_nat hv2, ?_⟩
    refine ⟨_, rfl, _, rfl, _, rfl, _, _, _, _, rfl, rfl, SqL.of hp6, atI_nat hv, _, _, _, _, rfl, rfl, SqL.of hq6, at_of (j := 0) rfl rfl, _, _, _, _, rfl, rfl, SqL.of W6, at_of (j := k.1) rfl (levV_at (by omega)), ?_⟩
    refine ⟨_, rfl, _, rfl, _, rfl, _, _, _, _, rfl, rfl, SqL.of hp6, atI_nat hv, _, _, _, _, rfl, rfl, SqL.of hq6, at_of (j := 1) rfl rfl, _, _, _, _, rfl, rfl, SqL.of W6, at_of (j := k.2.1) rfl (levV_at (by omega)), ?_⟩
    refine ⟨_, rfl, _, rfl, _, rfl, _, _, _, _, rfl, rfl, SqL.of hp6, atI_nat hv, _, _, _, _, rfl, rfl, SqL.of hq6, at_of (j := 2) rfl rfl, _, _, _, _, rfl, rfl, SqL.of W6, at_of (j := k.2.2.1) rfl (levV_at (by omega)), ?_⟩
    refine ⟨_, rfl, _, rfl, _, _, _, _, rfl, rfl, SqL.of hp6, atI_nat hv, _, _, _, _, rfl, rfl, SqL.of hq6, at_of (j := 3) rfl rfl, by show 4 ≤ sizeLine; decide, fun f nf => ?_⟩
    have s7 := same_new (o := .lst [.str (levn k.1), .str (levn k.2.1), .str (levn k.2.2.1), .bl k.2.2.2]) nf
    have hf : (upd H6 f (.lst [.str (levn k.1), .str (levn k.2.1), .str (levn k.2.2.1), .bl k.2.2.2])) f = some (.lst [.str (levn k.1), .str (levn k.2.1), .str (levn k.2.2.1), .bl k.2.2.2]) := upd_same
    have hyf : f ≠ y := (ne_of_none (s6 _ _ (s5 _ _ hy4)) nf).symm
    have hx7 := s7 _ _ (s6 _ _ hx)
    revert s7 hf hx7
    generalize upd H6 f (.lst [.str (levn k.1), .str (levn k.2.1), .str (levn k.2.2.1), .bl k.2.2.2]) = H7
    intro s7 hf hx7
    refine ⟨_, rfl, xw, T.c_Way, dx, _, _, rfl, hx7, T.cl_Way, T.no_Way_held, wayF_held _ _ _ _, _, rfl, xw, T.c_Way, dx, _, _, rfl, hx7, T.cl_Way, T.no_Way_owned, wayF_owned _ _ _ _, _, rfl, xw, T.c_Way, dx, _, _, rfl, hx7, T.cl_Way, T.no_Way_seen, wayF_seen _ _ _ _, _, rfl, xw, T.c_Way, dx, _, _, rfl, hx7, T.cl_Way, T.no_Way_early, wayF_early _ _ _ _, by show 4 ≤ sizeLine; decide, fun f2 nf2 => ?_⟩
    have s8 := same_new (o := .lst [.str (levn k.1), .str (levn k.2.1), .str (levn k.2.2.1), .bl k.2.2.2]) nf2
    have hyf2 : f2 ≠ y := (ne_of_none (s7 _ _ (s6 _ _ (s5 _ _ hy4))) nf2).symm
    refine ⟨_, rfl, y, _, _, (.list [.str (levn k.1), .str (levn k.2.1), .str (levn k.2.2.1), .bool k.2.2.2]), (.list [.str (levn k.1), .str (levn k.2.1), .str (levn k.2.2.1), .bool k.2.2.2]), rfl, Dn.lst hyf2 (SqL.of upd_same) (.cons (.str _) (.cons (.str _) (.cons (.str _) (.cons (.bl _) .nil)))), Dn.lst hyf (SqL.of (s8 _ _ hf)) (.cons (.str _) (.cons (.str _) (.cons (.str _) (.cons (.bl _) .nil)))), _, rfl, iteNo nsame ?_⟩
    exact ⟨_, _, _, rfl, (s6.trans s7).trans s8⟩
end
end My

namespace My
open PySem L2
def rlAt6 (Q : List Rl) (z : Str) : Rl := (lookR Q z).getD (z, false, [])
theorem fold_put {P L : List Rl} (nd : (P.map (·.1)).Nodup) (e : L.map (·.1) = P.map (·.1)) : L.foldl setR P = L := by
  have nd' : (L.map (·.1)).Nodup := by rw [e]; exact nd
  have hf : ∀ z, (rlAt6 L z).1 = z := fun z => by
    unfold rlAt6
    cases h : lookR L z with
    | none => rfl
    | some r => exact of_decide_eq_true (List.find?_some (p := fun r : Rl => decide (r.1 = z)) h)
  have eL : (L.map (·.1)).map (rlAt6 L) = L := by
    rw [List.map_map]
    refine List.ext_getElem? fun i => ?_
    rw [List.getElem?_map]
    cases h : L[i]? with
    | none => rfl
    | some r =>
      show some (rlAt6 L r.1) = some r
      unfold rlAt6
      rw [look_at nd' h]; rfl
  have h := fold_setR (rlAt6 L) hf (L.map (·.1)) P
  rw [eL] at h
  rw [h]
  refine Eq.trans ?_ eL
  rw [e, List.map_map]
  refine List.map_congr_left fun q hq => ?_
  exact if_pos (List.mem_map.mpr ⟨q, hq, rfl⟩)
theorem fold_fst : ∀ (L P : List Rl), (L.foldl setR P).map (·.1) = P.map (·.1)
  | [], _ => rfl
  | r :: L, P => by rw [List.foldl_cons, fold_fst L, setR_fst]
def spLSet (Cp Cw : Addr) : Sp := fun vs H Q _ => ∃ (y x m a b g : Addr) (kvs : List (Key × V)) (P P0 : List Rl), vs = [.ref y, .ref g] ∧ Pol Cp Cw H y x m a b P0 ∧ H g = some (.dK kvs) ∧ Paired (RdV H) kvs P ∧ P.map (·.1) = P0.map (·.1) ∧ (g ≠ a ∧ g ≠ b) ∧ P.length ≤ 100 ∧ ∀ H', Le [a, b] H H' → Kw Cw H H' → Pol Cp Cw H' y x m a b P → Q .non H'
def spLGood (Cp Cw Cs : Addr) : Sp := fun vs H Q _ => ∃ (F x D : Addr) (us ds : List V) (es : List (List Rl × Addr × Addr)) (rs : List Row) (L : List (List Rl)), vs = [.ref F, .ref x, .ref D] ∧ H F = some (.lst us) ∧ H D = some (.lst ds) ∧ ShO Cs H x rs ∧ wordsOk rs ∧ Paired (PolE Cp Cw x H) us es ∧ Paired (fun v rl => ∃ g kvs, v = .ref g ∧ H g = some (.dK kvs) ∧ Paired (RdV H) kvs rl ∧ rl.length ≤ 100 ∧ g ∉ absE es) ds L ∧ es.map (·.1) = L ∧ L.length ≤ 20000 ∧ ∀ H', Same H H' → Q (.bl true) H'
section
variable {w : World} {K : PySem.W.Frag} {mg : Str → Option Value} {base : Heap}
set_option maxHeartbeats 16000000 in
set_option pp.maxSteps 700 in
theorem ok__law_set (T : Txt K mg) : FnOk PP w K mg base CX0 7 T.a__law_set T.fd__law_set ["_law_policy_here", "_law_rules_here"] (spLSet T.c_Policy T.c_Way) := by
  refine T.F__law_set.ok sc__law_set (fun vs H Q E h => ?_) (fun cdv A outer s H vs Q E hr h => ?_)
  · obtain ⟨y, x, m, a, b, g, kvs, P, P0, rfl, _⟩ := h; rfl
  · obtain ⟨y, x, m, a, b, g, kvs, P, P0, rfl, hP, hg, pk, ef, ng, lP, q⟩ := h
    refine ⟨_, (pss_one (ps_lock (ps_for PassesOwn.never rfl (pi_keys (pv 1)) (pg_name (i := 2) sc__law_set.nd rfl (.inl rfl)) (pss_one (ps_asg (pe_tup (pa_cons (pe_ix ix_list (pe_dget (hu_of hr) (pv 1) (pv 2) (fun _ _ => rfl)) (pe_int) (fun _ _ => rfl)) (pa_cons (pe_callTy call_tuple_of (by rfl) T.n_tuple (by decide +kernel) (pa_cons (pe_lc (own := [("_law_way_here", 3)]) (g := (gName 3)) (by rfl) sc__law_set.nd (pi_list (pe_ix ix_list (pe_dget (hu_of hr) (pv 1) (pv 2) (fun _ _ => rfl)) (pe_int) (fun _ _ => rfl))) (blkOk_by (own := [("_law_way_here", 3)]) (N := ["_law_policy_here", "_law_rules_here", "_law_mark", "_law_way_here"]) (sc := defScope S__law_set) (by decide +kernel)) (fun _ _ _ _ _ => (pg_name (i := 3) sc__law_set.nd rfl (by first | exact .inl rfl | exact .inr rfl))) (fun _ _ _ _ _ => pts_nil) (fun _ _ _ _ _ => (pe_call (ok__law_way_made T) (hr.mono (by omega)) (by rfl) T.g__law_way_made T.F__law_way_made.kp T.b__law_way_made .nil pass0 (pa_cons (pv 3) pa_nil)))) pa_nil)) pa_nil))) (pg_sub (pv 0) (pv 2) (set_own T.m_Policy_setitem T.nq_Policy (ok_Policy_setitem T) (hr.mono (by omega)) T.b_Policy_setitem pass0))))))), ?_⟩
    have big : 100000 < sizeLine := by decide
    have lkv := pair_len' pk
    have nd0 := hP.nd
    have nd : (P.map (·.1)).Nodup := by rw [ef]; exact nd0
    have lP0 : P0.length = P.length := by
      have e := congrArg List.length ef
      rw [List.length_map, List.length_map] at e; exact e.symm
    obtain ⟨_, _, ⟨ls, ha, hb, _⟩, _, _⟩ := id hP
    refine ⟨g, _, hg, trivial, fun od => ?_⟩
    refine ⟨_, rfl, g, od, rfl, .inl ⟨kvs, upd_same, for_it walk_keys (fun i σ H' => ∃ x3 : Option V, σ = [some (.ref y), some (.ref g), x3, none] ∧ Le [g, a, b] H H' ∧ (∀ c o, c ≠ g → H c = some o → ((∃ xs, o = .tup xs) ∨ ∃ dx x1 x2 x3 e, o = .ins T.c_Way dx (wayF x1 x2 x3 e)) → H' c = some o) ∧ H' g = some (.frz od (.dK kvs)) ∧ Pol T.c_Policy T.c_Way H' y x m a b ((P.take i).foldl setR P0)) ⟨_, rfl, .upd (by simp), (fun c o n e _ => by rw [upd_ne n]; exact e), upd_same, pol_but hP hg ng But.upd⟩ (fun i σ H' _ ⟨_, _, _, _, h, _⟩ => h) ?_ ?_⟩⟩
    · rintro i v σ H3 H4 hi ⟨x3, rfl, b3, k3, f3, P3⟩ ⟨rfl, k, v', ek, rfl⟩
      obtain ⟨r, hr, ek1, _⟩ := pair_get' pk ek
      have ek1 : k = .inr r.1 := ek1
      subst ek1
      obtain ⟨kv, ev, _, q0, p0, us, eq0, hq0, hp0, pw, lus⟩ := val_rd pk nd hr
      have dg : ∀ {H5 : Hp}, Same H4 H5 → DGet H5 g (.str r.1) (some (.ref q0)) := fun s => .inl ⟨kvs, .inr r.1, .inr ⟨od, s _ _ f3⟩, rfl, by rw [ev, eq0]⟩
      have kl : ∀ {c : Addr} {xs : List V}, H c = some (.lst xs) → H4 c = some (.lst xs) := fun h => b3 _ _ (fun z => by
        simp only [List.mem_cons, List.not_mem_nil, or_false] at z
        rcases z with rfl | rfl | rfl
        · rw [hg] at h; cases h
        · rw [ha] at h; cases h
        · rw [hb] at h; cases h) h
      have hq3 := kl hq0
      have hp3 := kl hp0
      refine ⟨_, rfl, _, rfl, g, _, rfl, dg (Same.refl _), _, _, _, _, rfl, rfl, SqL.of hq3, atI_nat (j := 0) rfl, ?_⟩
      refine ⟨_, rfl, _, rfl, g, _, rfl, dg (Same.refl _), _, _, _, _, rfl, rfl, SqL.of hq3, atI_nat (j := 1) rfl, p0, rfl, ⟨_, SqL.of hp3⟩, fun D hD => lc_list (K := K) (a := p0) (xs := us) (fun i H' => ∃ vs, Same H4 H' ∧ H' D = some (.lst vs) ∧ Paired (WyV T.c_Way H') vs (r.2.2.take i)) ⟨[], same_new hD, upd_same, .nil⟩ (fun i H' _ ⟨_, s, _⟩ => SqL.of (s _ _ hp3)) ?_ ?_⟩
      · rintro i v H5 hv ⟨vs, s5, h5, pr⟩
        obtain ⟨k, hk, q1, rfl, hq1, aj⟩ := pair_get' pw hv
        have hi := (List.getElem?_eq_some_iff.mp hv).1
        have hq3 := kl hq1
        refine ⟨rfl, ?_⟩
        unfold tYes
        refine iteT ⟨_, rfl, q1, k.1, k.2.1, k.2.2.1, k.2.2.2, rfl, aj, SqL.of (s5 _ _ hq3), fun z H6 s6 nz wz => ?_⟩
        have h6 := s6 _ _ h5
        have kk : Kw T.c_Way H6 (upd H6 D (.lst (vs ++ [.ref z]))) := .upd h6 fun t => by rcases t with ⟨_, e⟩ | ⟨_, _, _, _, _, e⟩ <;> cases e
        refine ⟨vs, h6, by rw [pair_len' pr, List.length_take]; omega, vs ++ [.ref z], same_mut (s5.trans s6) hD, upd_same, ?_⟩
        rw [List.take_succ, hk]
        exact pair_app' (L2.Paired.mapP pr fun _ _ h => (h.keep (.same s6)).keep kk) (.cons (WyV.keep ⟨z, rfl, wz⟩ kk) .nil)
      rintro H5 ⟨vs, s5, h5, pr⟩
      rw [pair_len' pw, List.take_length] at pr
      refine ⟨D, _, rfl, .inl ⟨SqL.of h5, fun u nu => ⟨by show 2 ≤ sizeLine; decide, fun u2 nu2 => ?_⟩⟩⟩
      have s6 := same_new (o := .tup vs) nu
      have s7 := same_new (o := .tup [.bl r.2.1, .ref u]) nu2
      have w7 : WysT T.c_Way (upd (upd H5 u (.tup vs)) u2 (.tup [.bl r.2.1, .ref u])) u r.2.2 := ⟨vs, s7 _ _ upd_same, L2.Paired.mapP pr fun _ _ h => h.keep (.same (s6.trans s7))⟩
      have hu2 : (upd (upd H5 u (.tup vs)) u2 (.tup [.bl r.2.1, .ref u])) u2 = some (.tup [.bl r.2.1, .ref u]) := upd_same
      have s47 := s5.trans (s6.trans s7)
      revert w7 hu2 s47
      generalize upd (upd H5 u (.tup vs)) u2 (.tup [.bl r.2.1, .ref u]) = H7
      intro w7 hu2 s47
      have P7 := P3.same s47
      obtain ⟨dy7, hy7⟩ := P7.obj
      have lf := fold_fst (P.take i) P0
      have ll : ((P.take i).foldl setR P0).length = P.length := by
        have e := congrArg List.length lf
        rw [List.length_map, List.length_map] at e; rw [e, lP0]
      have mz : r.1 ∈ ((P.take i).foldl setR P0).map (·.1) := by
        rw [lf, ← ef]; exact List.mem_map.mpr ⟨r, List.mem_of_getElem? hr, rfl⟩
      have f7 := s47 _ _ f3
      refine ⟨_, rfl, _, rfl, y, dy7, _, rfl, hy7, y, x, m, a, b, u2, u, _, r.1, r.2.1, r.2.2, rfl, P7, by omega, mz, hu2, w7, fun H8 le8 kw8 P8 => ?_⟩
      refine ⟨_, rfl, fun c o n e => ?_, fun c o n e t => kw8 _ _ (s47 _ _ (k3 c o n e t)) t, ?_, ?_⟩
      · simp only [List.mem_cons, List.not_mem_nil, or_false, not_or] at n
        exact le8 _ _ (by simp only [List.mem_cons, List.not_mem_nil, or_false, not_or]; exact n.2) (s47 _ _ (b3 _ _ (by simp only [List.mem_cons, List.not_mem_nil, or_false, not_or]; exact n) e))
      · exact le8 _ _ (by simp only [List.mem_cons, List.not_mem_nil, or_false, not_or]; exact ng) f7
      · rw [List.take_succ, hr, Option.toList_some, List.foldl_append]
        exact P8
    rintro σ H3 ⟨x3, rfl, b3, k3, f3, P3⟩
    rw [lkv, List.take_length, fold_put nd0 ef] at P3
    refine ⟨f3, ?_⟩
    have bu : But g H3 (upd H3 g (.dK kvs)) := But.upd
    have kw : Kw T.c_Way H (upd H3 g (.dK kvs)) := fun c o e t => by
      have n : c ≠ g := fun z => by
        rw [z, hg] at e
        obtain rfl := Option.some.inj e
        rcases t with ⟨_, e⟩ | ⟨_, _, _, _, _, e⟩ <;> cases e
      exact bu _ _ n (k3 c o n e t)
    refine q _ (fun c o n e => ?_) kw ?_
    · by_cases z : c = g
      · rw [z, upd_same, ← hg, ← z, e]
      · simp only [List.mem_cons, List.not_mem_nil, or_false, not_or] at n
        exact bu _ _ z (b3 _ _ (by simp only [List.mem_cons, List.not_mem_nil, or_false, not_or]; exact ⟨z, n⟩) e)
    · obtain ⟨⟨dy, hy⟩, hm, _⟩ := id P3
      refine P3.le (A := [g]) (.but (by simp) bu) (fun c o h t => bu _ _ (fun z => ?_) h) fun c hc h => ?_
      · rw [z, f3] at h
        obtain rfl := Option.some.inj h
        rcases t with ⟨_, e⟩ | ⟨_, _, _, _, _, e⟩ <;> cases e
      · obtain rfl := List.mem_singleton.mp h
        simp only [List.mem_cons, List.not_mem_nil, or_false] at hc
        rcases hc with rfl | rfl | rfl | rfl
        · rw [f3] at hy; cases hy
        · rw [f3] at hm; cases hm
        · exact ng.1 rfl
        · exact ng.2 rfl
set_option pp.maxSteps 700 in
theorem ok__law_good (T : Txt K mg) : FnOk PP w K mg base CX0 9 T.a__law_good T.fd__law_good ["_law_found", "_law_shape_here", "_law_due"] (spLGood T.c_Policy T.c_Way T.c_Shape) := by
  refine T.F__law_good.ok sc__law_good (fun vs H Q E h => ?_) (fun cdv A outer s H vs Q E hr h => ?_)
  · obtain ⟨F, x, D, us, ds, es, rs, L, rfl, _⟩ := h; rfl
  · obtain ⟨F, x, D, us, ds, es, rs, L, rfl, hF, hD, S, wo, pu, pd, e, lL, q⟩ := h
    refine ⟨_, (pss_cons (ps_if (pt_cmpR op_ne (pe_callB call_len_seq (by rfl) T.n_len (by decide +kernel) (pa_cons (pv 0) pa_nil)) (pe_callB call_len_seq (by rfl) T.n_len (by decide +kernel) (pa_cons (pv 2) pa_nil)) (nomark _)) (pss_one (ps_ret (pe_bl))) pss_nil)
      (pss_cons (ps_for PassesOwn.never rfl (pi_range1 (by rfl) T.n_range (pa_cons (pe_callB call_len_seq (by rfl) T.n_len (by decide +kernel) (pa_cons (pv 2) pa_nil)) pa_nil)) (pg_name (i := 3) sc__law_good.nd rfl (.inl rfl)) (pss_one (ps_if (PW.pt (pw_or (pt_not (pt_cmpR (op_cmpI (fun _ _ => rfl) T.m_Shape_eq.at_ T.m_Shape_eq.fn (ok_Shape_eq T) (hr.mono (by omega)) T.b_Shape_eq pass0) (pe_fld (pe_ix ix_list (pv 0) (pv 3) (fun _ _ => rfl)) rfl) (pv 1) (nomark _))) (pw_or1 (pt_not (pt_val (pe_call (ok__law_reads T) (hr.mono (by omega)) (by rfl) T.g__law_reads T.F__law_reads.kp T.b__law_reads .nil pass0 (pa_cons (pe_ix ix_list (pv 0) (pv 3) (fun _ _ => rfl)) (pa_cons (pe_ix ix_list (pv 2) (pv 3) (fun _ _ => rfl)) pa_nil)))))))) (pss_one (ps_ret (pe_bl))) pss_nil)))
      (pss_one (ps_ret (pe_bl))))), ?_⟩
    have big : 100000 < sizeLine := by decide
    have l1 := pair_len' pu
    have l2 := pair_len' pd
    have l3 : es.length = L.length := by rw [← e, List.length_map]
    obtain ⟨dx, _, _, _, hx, _⟩ := id S
    refine ⟨_, rfl, F, _, rfl, .inl (SqL.of hF), _, rfl, D, _, rfl, .inl (SqL.of hD), rfl, _, rfl, iteNo (by rw [l1, l2, l3]; simp) ?_⟩
    refine ⟨_, rfl, D, _, rfl, .inl (SqL.of hD), _, rfl, by omega, by omega, for_range (lo := 0) (n := ds.length) (fun i σ H' => ∃ x3 : Option V, σ = [some (.ref F), some (.ref x), some (.ref D), x3] ∧ Same H H') ⟨_, rfl, Same.refl _⟩ ?_ ?_⟩
    · rintro i σ H1 hi ⟨x3, rfl, s1⟩
      rw [Int.zero_add]
      obtain ⟨v, hv⟩ : ∃ v, ds[i]? = some v := ⟨_, List.getElem?_eq_getElem hi⟩
      obtain ⟨rl, hrl, g, kvs, rfl, hg, pk, lk, ngE⟩ := pair_get' pd hv
      obtain ⟨u, hu⟩ : ∃ u, us[i]? = some u := ⟨_, List.getElem?_eq_getElem (by omega)⟩
      obtain ⟨en, hen, y, m, rfl, P⟩ := pair_get' pu hu
      have een : en.1 = rl := by
        rw [← e, List.getElem?_map, hen] at hrl
        exact Option.some.inj hrl
      have men := List.mem_of_getElem? hen
      have ng : g ≠ en.2.1 ∧ g ≠ en.2.2 := ⟨fun z => ngE (List.mem_flatMap.mpr ⟨en, men, by simp [z]⟩), fun z => ngE (List.mem_flatMap.mpr ⟨en, men, by simp [z]⟩)⟩
      rw [een] at P
      have P1 := P.same s1
      obtain ⟨dy, hy⟩ := P1.obj
      have hx1 := s1 _ _ hx
      have S1 := S.same s1
      refine ⟨_, rfl, _, rfl, _, _, _, _, rfl, rfl, SqL.of (s1 _ _ hF), atI_nat hu, y, _, dy, _, _, rfl, hy, T.cl_Policy, T.no_Policy_shape, polF1 x m en.2.1 en.2.2, _, rfl, x, _, _, x, _, _, rfl, rfl, hx1, hx1, x, x, rs, rs, rfl, S1, S1, wo, wo, _, rfl, iteNo (by simp) ?_⟩
      exact ⟨_, rfl, _, rfl, _, _, _, _, rfl, rfl, SqL.of (s1 _ _ hF), atI_nat hu, _, rfl, _, rfl, _, _, _, _, rfl, rfl, SqL.of (s1 _ _ hD), atI_nat hv, y, x, m, en.2.1, en.2.2, g, kvs, rl, rfl, P1, s1 _ _ hg, L2.Paired.mapP pk fun _ _ h => h.same s1, ng, lk, fun H2 s2 => ⟨_, rfl, iteNo rfl ⟨_, rfl, s1.trans s2⟩⟩⟩
    · rintro σ H1 ⟨x3, rfl, s1⟩
      exact q _ s1
end
end My

namespace My
open PySem L2
def spLaw (K : PySem.W.Frag) : Sp := fun vs H Q _ => ∃ (a : Addr) (ns : List Int), vs = [.ref a] ∧ SqL K H a (ns.map V.int) ∧ ns.length ≤ 63 ∧ ∀ H', Q (.bl true) H'
theorem RdN.v {t : Addr} {H : Hp} {kv : Key × V} {r : Rl} (h : RdN t H kv r) : RdV H kv r := let ⟨a, q, p, us, e, _, f, _, g, k, b⟩ := h; ⟨a, q, p, us, e, f, g, _root_.L2.Paired.mapP k fun _ _ ⟨q, e, _, f, j⟩ => ⟨q, e, f, j⟩, b⟩
theorem rdv_off {t : Addr} {k : Nat} {H : Hp} {kv : Key × V} {r : Rl} (h : RdV H kv r) (ht : H t = some (.lst [.int k])) : RdN t H kv r := by
  obtain ⟨a, q, p, us, e, f, g, kk, l⟩ := h
  have nl : ∀ {a : Addr} {xs : List V}, H a = some (.lst xs) → (∀ k, xs ≠ [V.int k]) → a ≠ t := fun h n z => by rw [z, ht] at h; exact n _ (HO.lst.inj (Option.some.inj h)).symm
  refine ⟨a, q, p, us, e, nl f (fun k z => by cases z), f, nl g (fun k z => ?_), g, L2.Paired.mapP kk fun _ _ ⟨q, e, f, j⟩ => ⟨q, e, nl f (fun k z => by cases z), f, j⟩, l⟩
  obtain ⟨_, _, _, e, _⟩ := pair_get' kk (i := 0) (x := V.int k) (by rw [z]; rfl)
  cases e
theorem rdn_adj {t : Addr} {H : Hp} : ∀ {kvs : List (Key × V)} {rl : List Rl}, Paired (RdN t H) kvs rl → ∀ r ∈ rl, ∀ k ∈ r.2.2, AdjW k
  | _, _, .nil => fun _ h => nomatch h
  | _, _, .cons h t => fun r hr => by
    rcases List.mem_cons.mp hr with rfl | hr
    · intro k hk
      obtain ⟨_, _, _, us, _, _, _, _, _, pk, _⟩ := h
      obtain ⟨i, hi⟩ := List.getElem?_of_mem hk
      obtain ⟨v, _, _, _, _, _, a⟩ := pair_back pk hi
      exact a
    · exact rdn_adj t r hr
theorem pair_setM {α β : Type} {F G : α → β → Prop} : ∀ {l : List α} {m : List β} {i : Nat} {x : α} {y : β}, Paired F l m → l[i]? = some x → (∀ j a b, j ≠ i → l[j]? = some a → m[j]? = some b → F a b → G a b) → G x y → Paired G l (m.set i y)
  | _, _, _, _, _, .nil, h, _, _ => by simp at h
  | a :: l, b :: m, 0, x, y, .cons h t, hx, k, g => by
    simp at hx; subst hx
    refine .cons g ?_
    have go : ∀ {l : List α} {m : List β}, Paired F l m → (∀ j a b, l[j]? = some a → m[j]? = some b → F a b → G a b) → Paired G l m := fun {l m} p => by
      induction p with
      | nil => exact fun _ => .nil
      | cons h t ih => exact fun k => .cons (k 0 _ _ rfl rfl h) (ih fun j a b e e2 => k (j + 1) a b (by simpa using e) (by simpa using e2))
    exact go t fun j a b e e2 => k (j + 1) a b (by omega) (by simpa using e) (by simpa using e2)
  | a :: l, b :: m, i + 1, x, y, .cons h t, hx, k, g => .cons (k 0 a b (by omega) rfl rfl h) (pair_setM t (by simpa using hx) (fun j a b n e e2 => k (j + 1) a b (by omega) (by simpa using e) (by simpa using e2)) g)
/-- one way more in a rule -/
theorem rdn_app {t p0 : Addr} {H : Hp} {kvs : List (Key × V)} {P : List Rl} {ps : List Addr} {i : Nat} {r : Rl} {us : List V} {wq : Addr} {k : Wv} (pk : Paired (RdN t H) kvs P) (pw : Paired (PwV H) kvs ps) (nd : ps.Nodup) (hi : P[i]? = some r) (hp : ps[i]? = some p0) (hus : H p0 = some (.lst us)) (hw : H wq = some (LwO k.1 k.2.1 k.2.2.1 k.2.2.2)) (nwt : wq ≠ t) (ad : AdjW k) (l : us.length ≤ 50) :
    Paired (RdN t (upd H p0 (.lst (us ++ [.ref wq])))) kvs (P.set i (r.1, r.2.1, r.2.2 ++ [k])) ∧ Paired (PwV (upd H p0 (.lst (us ++ [.ref wq])))) kvs ps := by
  -- what stands where
  have at_ : ∀ {j : Nat} {kv : Key × V} {r : Rl} {p : Addr}, kvs[j]? = some kv → ps[j]? = some p → RdN t H kv r → ∃ q us', kv.2 = .ref q ∧ q ≠ t ∧ H q = some (.lst [.bl r.2.1, .ref p]) ∧ p ≠ t ∧ H p = some (.lst us') ∧ Paired (LwN t H) us' r.2.2 ∧ us'.length ≤ 100 := fun {j kv r p} e1 e2 h => by
    obtain ⟨p2, ep2, q2, b2, e3, f2⟩ := pair_get' pw e1
    rw [e2] at ep2
    obtain rfl := Option.some.inj ep2
    obtain ⟨_, q, p, us', e, n, f, n2, g, kk, l⟩ := h
    rw [e] at e3
    obtain rfl := V.ref.inj e3
    rw [f] at f2
    injection f2 with f2
    injection f2 with f2
    injection f2 with _ f2
    injection f2 with f2 _
    obtain rfl := V.ref.inj f2
    exact ⟨q, us', e, n, f, n2, g, kk, l⟩
  obtain ⟨kv, hkv, hr0⟩ : ∃ kv, kvs[i]? = some kv ∧ RdN t H kv r := by
    obtain ⟨kv, e, h⟩ := pair_back pk hi
    exact ⟨kv, e, h⟩
  obtain ⟨q, us', e, n, f, n2, g, kk, _⟩ := at_ hkv hp hr0
  rw [hus] at g
  obtain rfl := HO.lst.inj (Option.some.inj g)
  have headR : us ≠ [] → ∃ a r, us = .ref a :: r := fun h => by
    obtain ⟨v, r, e⟩ := List.exists_cons_of_ne_nil h
    obtain ⟨_, _, a, e2, _⟩ := pair_get' kk (i := 0) (x := v) (by rw [e]; rfl)
    exact ⟨a, r, by rw [e, e2]⟩
  have nq : ∀ {c : Addr} {b : Bool} {z : Addr}, H c = some (.lst [.bl b, .ref z]) → c ≠ p0 := fun h z => by
    rw [z, hus] at h
    have e := HO.lst.inj (Option.some.inj h)
    obtain ⟨a, r, e2⟩ := headR (by rw [e]; simp)
    rw [e2] at e; cases e
  have nw : ∀ {c : Addr} {a b d : Nat} {x : Bool}, H c = some (LwO a b d x) → c ≠ p0 := fun h z => by
    rw [z, hus] at h
    have e := HO.lst.inj (Option.some.inj h)
    obtain ⟨a, r, e2⟩ := headR (by rw [e]; simp)
    rw [e2] at e; cases e
  have lw : ∀ {vs : List V} {ks : List Wv}, Paired (LwN t H) vs ks → Paired (LwN t (upd H p0 (.lst (us ++ [.ref wq])))) vs ks := fun h => L2.Paired.mapP h fun _ _ ⟨q, e, n, f, g⟩ => ⟨q, e, n, by rw [upd_ne (nw f)]; exact f, g⟩
  refine ⟨pair_setM pk hkv (fun j kv' r' nj e1 e2 h => ?_) ?_, L2.Paired.mapP pw fun kv p ⟨q, b, e, f⟩ => ⟨q, b, e, by rw [upd_ne (nq f)]; exact f⟩⟩
  · obtain ⟨p', ep, _⟩ := pair_get' pw e1
    have np : p' ≠ p0 := fun z => nj ((List.getElem?_inj (List.getElem?_eq_some_iff.mp ep).1 nd).mp (by rw [ep, hp, z]))
    obtain ⟨q', us2, e, n, f, n2, g, kk, l⟩ := at_ e1 ep h
    exact ⟨h.1, q', p', us2, e, n, by rw [upd_ne (nq f)]; exact f, n2, by rw [upd_ne np]; exact g, lw kk, l⟩
  · refine ⟨hr0.1, q, p0, us ++ [.ref wq], e, n, by rw [upd_ne (nq f)]; exact f, n2, upd_same, pair_app' (lw kk) (.cons ⟨wq, rfl, nwt, by rw [upd_ne (nw hw)]; exact hw, ad⟩ .nil), by rw [List.length_append]; simp; omega⟩
/-! ### what a list or a dict is not, by what stands there -/
theorem Pol.off {Cp Cw : Addr} {H H' : Hp} {y x m a b t : Addr} {rl : List Rl} {xs : List V} (P : Pol Cp Cw H y x m a b rl) (ht : H t = some (.lst xs)) (n : ∀ l : List Str, xs ≠ l.map V.str) (bu : But t H H') : Pol Cp Cw H' y x m a b rl := by
  obtain ⟨⟨dy, hy⟩, hm, ⟨ls, ha, hb, _⟩, _, _⟩ := id P
  refine P.le (A := [t]) (.but (by simp) bu) (fun c o h tt => bu _ _ (fun z => ?_) h) fun c hc h => ?_
  · rw [z, ht] at h
    obtain rfl := Option.some.inj h
    rcases tt with ⟨_, e⟩ | ⟨_, _, _, _, _, e⟩ <;> cases e
  · obtain rfl := List.mem_singleton.mp h
    simp only [List.mem_cons, List.not_mem_nil, or_false] at hc
    rcases hc with rfl | rfl | rfl | rfl
    · rw [ht] at hy; cases hy
    · rw [ht] at hm
      refine n (rl.map (·.1)) ?_
      rw [List.map_map]
      exact HO.lst.inj (Option.some.inj hm)
    · rw [ht] at ha; cases ha
    · rw [ht] at hb; cases hb
theorem int_strs {k : Int} : ∀ l : List Str, [V.int k] ≠ l.map V.str := fun l e => by cases l <;> cases e
theorem ref_strs {a : Addr} {r : List V} : ∀ l : List Str, V.ref a :: r ≠ l.map V.str := fun l e => by cases l <;> cases e
theorem pol_dict {Cp Cw : Addr} {H : Hp} {y x m a b g : Addr} {rl P : List Rl} {kvs : List (Key × V)} (hP : Pol Cp Cw H y x m a b rl) (hg : H g = some (.dK kvs)) (pk : Paired (RdV H) kvs P) (ne : P ≠ []) : g ≠ a ∧ g ≠ b := by
  obtain ⟨_, _, ⟨ls, ha, hb, pr⟩, _, _⟩ := hP
  cases pk with
  | nil => exact absurd rfl ne
  | @cons kv r kvs P h t =>
    obtain ⟨_, q, _, _, e, f, _⟩ := h
    refine ⟨fun z => ?_, fun z => ?_⟩
    · rw [← z, hg] at ha
      have e2 := HO.dK.inj (Option.some.inj ha)
      cases ls with
      | nil => cases e2
      | cons l ls =>
        unfold stK at e2
        rw [List.map_cons] at e2
        injection e2 with e2 _
        rw [e2] at e; cases e
    · rw [← z, hg] at hb
      have e2 := HO.dK.inj (Option.some.inj hb)
      cases pr with
      | nil => cases e2
      | cons hl _ =>
        unfold wyK at e2
        rw [List.map_cons] at e2
        injection e2 with e2 _
        rw [e2] at e
        obtain ⟨_, _, ts, ht, _⟩ := hl
        rw [← V.ref.inj e, ht] at f; cases f
theorem PolE.off {Cp Cw x t : Addr} {H H' : Hp} {v : V} {e : List Rl × Addr × Addr} {xs : List V} (h : PolE Cp Cw x H v e) (ht : H t = some (.lst xs)) (n : ∀ l : List Str, xs ≠ l.map V.str) (bu : But t H H') : PolE Cp Cw x H' v e := let ⟨y, m, e, P⟩ := h; ⟨y, m, e, P.off ht n bu⟩
theorem abs_apart : ∀ {es : List (List Rl × Addr × Addr)} {i j : Nat} {e e' : List Rl × Addr × Addr}, (absE es).Nodup → es[i]? = some e → es[j]? = some e' → i ≠ j → ∀ c ∈ [e.2.1, e.2.2], c ∉ [e'.2.1, e'.2.2]
  | [], _, _, _, _, _, h, _, _ => by simp at h
  | e0 :: es, 0, 0, _, _, _, _, _, n => absurd rfl n
  | e0 :: es, 0, j + 1, e, e', nd, h1, h2, _ => fun c hc hc' => by
    simp at h1; subst h1
    have nd' : ([e0.2.1, e0.2.2] ++ absE es).Nodup := nd
    exact (List.nodup_append.mp nd').2.2 c hc c (List.mem_flatMap.mpr ⟨e', List.mem_of_getElem? (by simpa using h2), hc'⟩) rfl
  | e0 :: es, i + 1, 0, e, e', nd, h1, h2, _ => fun c hc hc' => by
    simp at h2; subst h2
    have nd' : ([e0.2.1, e0.2.2] ++ absE es).Nodup := nd
    exact (List.nodup_append.mp nd').2.2 c hc' c (List.mem_flatMap.mpr ⟨e, List.mem_of_getElem? (by simpa using h1), hc⟩) rfl
  | e0 :: es, i + 1, j + 1, e, e', nd, h1, h2, n => by
    have nd' : ([e0.2.1, e0.2.2] ++ absE es).Nodup := nd
    exact abs_apart (List.nodup_append.mp nd').2.1 (by simpa using h1) (by simpa using h2) (by omega)
theorem make_w {C : Addr} {H : Hp} {R : Addr → VK} {E : XK} (q : ∀ y H', Same H H' → H y = none → Wy C H' y 3 1 3 false → R y .non H') :
    ∀ y dy, H y = none → H dy = none → dy ≠ y → spWayInit C (.ref y :: ([.str "all", .str "one", .str "all"] ++ [.bl false])) (upd (upd H dy (.own y)) y (.ins C dy [])) (R y) E := fun y dy ny nd _ => by
  have s1 : Same H (upd (upd H dy (.own y)) y (.ins C dy [])) := fun a o h => by rw [upd_ne (ne_of_none h ny), upd_ne (ne_of_none h nd)]; exact h
  exact ⟨y, dy, 3, 1, 3, false, rfl, by decide, by decide, by decide, upd_same, fun H' bu w => q y H' (fun c o h => bu c o (ne_of_none h ny) (s1 _ _ h)) ny ⟨dy, w⟩⟩
/-! ### what the law holds once the looser ones are made -/
def wipeX (X : List Addr) (H : Hp) : Hp := fun a => if a ∈ X then none else H a
theorem wipe_in {X : List Addr} {H : Hp} {a : Addr} (h : a ∈ X) : wipeX X H a = none := if_pos h
theorem wipe_off {X : List Addr} {H : Hp} {a : Addr} (h : a ∉ X) : wipeX X H a = H a := if_neg h
theorem wipe_same {X : List Addr} {H : Hp} : Same (wipeX X H) H := fun a o h => by
  by_cases m : a ∈ X
  · rw [wipe_in m] at h; cases h
  · rw [wipe_off m] at h; exact h
def DicE (H : Hp) (v : V) (rl : List Rl) : Prop := ∃ g kvs, v = .ref g ∧ H g = some (.dK kvs) ∧ Paired (RdV H) kvs rl
theorem DicE.same {H H' : Hp} {v : V} {rl : List Rl} (h : DicE H v rl) (s : Same H H') : DicE H' v rl := let ⟨g, kvs, e, f, p⟩ := h; ⟨g, kvs, e, s _ _ f, L2.Paired.mapP p fun _ _ h => h.same s⟩
structure E60 (Cp Cw Cs : Addr) (B H : Hp) (t d R G x p pm pa pb F u : Addr) (rs : List Row) (P : List Rl) (es : List (List Rl × Addr × Addr)) (L : List (List Rl)) : Prop where
  s : Same B H
  nX : ∀ a ∈ [t, pa, pb, u] ++ absE es, B a = none
  ds : ∃ ns : List Int, B d = some (.lst (ns.map V.int))
  rw : ∃ ws, B R = some (.lst ws) ∧ RowsN (fun _ => True) true B ws rs
  g : ∃ kv, B G = some (.dK kv) ∧ Paired (RdV B) kv P
  sh : ShO Cs B x rs
  pl : ∃ k : Nat, H t = some (.lst [.int k])
  tu : t ≠ u
  pp : Pol Cp Cw H p x pm pa pb P
  fo : ∃ us, B F = some (.lst us) ∧ Paired (PolE Cp Cw x H) us es
  du : ∃ ds, H u = some (.lst ds) ∧ Paired (DicE B) ds L
  nd : (absE es).Nodup
  np : pa ∉ absE es ∧ pb ∉ absE es
section
variable {Cp Cw Cs : Addr} {B H H' : Hp} {t d R G x p pm pa pb F u : Addr} {rs : List Row} {P : List Rl} {es : List (List Rl × Addr × Addr)} {L : List (List Rl)}
theorem E60.same (E : E60 Cp Cw Cs B H t d R G x p pm pa pb F u rs P es L) (m : Same H H') : E60 Cp Cw Cs B H' t d R G x p pm pa pb F u rs P es L :=
  ⟨E.s.trans m, E.nX, E.ds, E.rw, E.g, E.sh, E.pl.imp fun _ h => m _ _ h, E.tu, E.pp.same m, E.fo.imp fun _ h => ⟨h.1, L2.Paired.mapP h.2 fun _ _ h => h.same m⟩, E.du.imp fun _ h => ⟨m _ _ h.1, h.2⟩, E.nd, E.np⟩
theorem E60.dr {K : PySem.W.Frag} (E : E60 Cp Cw Cs B H t d R G x p pm pa pb F u rs P es L) : Dr K H d t := by
  obtain ⟨ns, h⟩ := E.ds
  exact ⟨⟨ns, E.s _ _ h⟩, E.pl, ne_of_none h (E.nX t (by simp))⟩
theorem E60.draw {K : PySem.W.Frag} (E : E60 Cp Cw Cs B H t d R G x p pm pa pb F u rs P es L) (b : But t H H') (D : Dr K H' d t) : E60 Cp Cw Cs B H' t d R G x p pm pa pb F u rs P es L := by
  obtain ⟨k, ht⟩ := E.pl
  exact ⟨fun a o h => b _ _ (ne_of_none h (E.nX t (by simp))) (E.s _ _ h), E.nX, E.ds, E.rw, E.g, E.sh, D.pl, E.tu, E.pp.off ht int_strs b, E.fo.imp fun _ h => ⟨h.1, L2.Paired.mapP h.2 fun _ _ h => h.off ht int_strs b⟩, E.du.imp fun _ h => ⟨b _ _ E.tu.symm h.1, h.2⟩, E.nd, E.np⟩
theorem abs_set : ∀ {es : List (List Rl × Addr × Addr)} {n : Nat} {e : List Rl × Addr × Addr} {Q : List Rl}, es[n]? = some e → absE (es.set n (Q, e.2.1, e.2.2)) = absE es
  | [], _, _, _, h => by simp at h
  | e0 :: es, 0, e, Q, h => by simp at h; subst h; rfl
  | e0 :: es, n + 1, e, Q, h => by
    have := abs_set (es := es) (n := n) (e := e) (Q := Q) (by simpa using h)
    show [e0.2.1, e0.2.2] ++ absE (es.set n (Q, e.2.1, e.2.2)) = [e0.2.1, e0.2.2] ++ absE es
    rw [this]
theorem E60.setE (E : E60 Cp Cw Cs B H t d R G x p pm pa pb F u rs P es L) {n : Nat} {e : List Rl × Addr × Addr} {us : List V} {y m : Addr} {Q : List Rl} (hF : B F = some (.lst us)) (hn : es[n]? = some e) (hu : us[n]? = some (.ref y)) (l : Le [e.2.1, e.2.2] H H') (kw : Kw Cw H H') (PQ : Pol Cp Cw H' y x m e.2.1 e.2.2 Q) : E60 Cp Cw Cs B H' t d R G x p pm pa pb F u rs P (es.set n (Q, e.2.1, e.2.2)) L := by
  have men := List.mem_of_getElem? hn
  have ma : ∀ c ∈ [e.2.1, e.2.2], c ∈ absE es := fun c hc => List.mem_flatMap.mpr ⟨e, men, hc⟩
  have offB : ∀ {a : Addr} {o : HO}, B a = some o → a ∉ [e.2.1, e.2.2] := fun h m => by rw [E.nX _ (List.mem_append.mpr (.inr (ma _ m)))] at h; cases h
  obtain ⟨us', hF', pu⟩ := E.fo
  rw [hF] at hF'
  obtain rfl := HO.lst.inj (Option.some.inj hF')
  obtain ⟨e2, he2, y2, m2, ey, P2⟩ := pair_get' pu hu
  rw [hn] at he2
  obtain rfl := Option.some.inj he2
  obtain ⟨_, _, ⟨ls2, ha2, hb2, _⟩, _, _⟩ := id P2
  have offL : ∀ {a : Addr} {o : HO}, H a = some o → (∀ k, o ≠ .dK k) → a ∉ [e.2.1, e.2.2] := fun h n m => by
    simp only [List.mem_cons, List.not_mem_nil, or_false] at m
    rcases m with rfl | rfl
    · rw [ha2] at h; exact n _ (Option.some.inj h).symm
    · rw [hb2] at h; exact n _ (Option.some.inj h).symm
  have pol : ∀ {y m a b : Addr} {rl : List Rl}, Pol Cp Cw H y x m a b rl → (∀ c ∈ [a, b], c ∉ [e.2.1, e.2.2]) → Pol Cp Cw H' y x m a b rl := fun {y m a b rl} hP na => by
    obtain ⟨⟨dy, hy⟩, hm, _⟩ := id hP
    refine hP.le l kw fun c hc => ?_
    simp only [List.mem_cons, List.not_mem_nil, or_false] at hc
    rcases hc with rfl | rfl | rfl | rfl
    · exact offL hy (fun _ h => nomatch h)
    · exact offL hm (fun _ h => nomatch h)
    · exact na _ (by simp)
    · exact na _ (by simp)
  obtain ⟨k, ht⟩ := E.pl
  obtain ⟨ds, hds, pd⟩ := E.du
  refine ⟨fun a o h => l _ _ (offB h) (E.s _ _ h), by rw [abs_set hn]; exact E.nX, E.ds, E.rw, E.g, E.sh, ⟨k, l _ _ (offL ht (fun _ h => nomatch h)) ht⟩, E.tu, pol E.pp (fun c hc m => ?_), ⟨us, hF, pair_setM pu hu (fun j v e3 nj e4 e5 h => ?_) ⟨y, m, rfl, PQ⟩⟩, ⟨ds, l _ _ (offL hds (fun _ h => nomatch h)) hds, pd⟩, by rw [abs_set hn]; exact E.nd, by rw [abs_set hn]; exact E.np⟩
  · simp only [List.mem_cons, List.not_mem_nil, or_false] at hc
    rcases hc with rfl | rfl
    · exact E.np.1 (ma _ m)
    · exact E.np.2 (ma _ m)
  · obtain ⟨y3, m3, ev, P3⟩ := h
    exact ⟨y3, m3, ev, pol P3 (abs_apart E.nd e5 hn nj)⟩
/-- one of the dues is another dict: everything that stands now, apart from what changes, is the base -/
theorem E60.setU (E : E60 Cp Cw Cs B H t d R G x p pm pa pb F u rs P es L) {n : Nat} {ds : List V} {g : Addr} {kvs : List (Key × V)} {rl : List Rl} (hu : H u = some (.lst ds)) (hn : n < ds.length) (hg : H g = some (.dK kvs)) (pk : Paired (RdV H) kvs rl) (ngp : g ∉ [pa, pb] ++ absE es) : ∃ B', Same B B' ∧ E60 Cp Cw Cs B' (upd H u (.lst (ds.set n (.ref g)))) t d R G x p pm pa pb F u rs P es (L.set n rl) := by
  obtain ⟨k, ht⟩ := E.pl
  obtain ⟨ds', hds, pd⟩ := E.du
  rw [hu] at hds
  obtain rfl := HO.lst.inj (Option.some.inj hds)
  have bu : But u H (upd H u (.lst (ds.set n (.ref g)))) := But.upd
  obtain ⟨a0, r0, e0⟩ : ∃ a r, ds = V.ref a :: r := by
    cases pd with
    | nil => simp at hn
    | cons h _ => obtain ⟨g, _, rfl, _⟩ := h; exact ⟨g, _, rfl⟩
  have nstr : ∀ l : List Str, ds ≠ l.map V.str := fun l => by rw [e0]; exact ref_strs l
  have sB : Same B (wipeX ([t, pa, pb, u] ++ absE es) H) := fun a o h => by
    rw [wipe_off (fun m => by rw [E.nX _ m] at h; cases h)]; exact E.s _ _ h
  obtain ⟨_, _, ⟨ls, ha, hb, _⟩, _, _⟩ := id E.pp
  obtain ⟨us, hF, pu⟩ := E.fo
  have dic : ∀ {c : Addr} {o : HO}, c ∈ absE es → H c = some o → ∃ k, o = .dK k := fun {c o} m h => by
    obtain ⟨e, he, hc⟩ := mem_abs m
    obtain ⟨i, hi⟩ := List.getElem?_of_mem he
    obtain ⟨_, _, _, _, _, P2⟩ := pair_back pu hi
    obtain ⟨_, _, ⟨ls2, ha2, hb2, _⟩, _, _⟩ := id P2
    rcases hc with rfl | rfl
    · rw [ha2] at h; exact ⟨_, (Option.some.inj h).symm⟩
    · rw [hb2] at h; exact ⟨_, (Option.some.inj h).symm⟩
  have lstB : ∀ {c : Addr} {xs : List V}, H c = some (.lst xs) → c ≠ t → c ≠ u → wipeX ([t, pa, pb, u] ++ absE es) H c = some (.lst xs) := fun {c xs} h n1 n2 => by
    rw [wipe_off (fun m => ?_)]
    · exact h
    · rcases List.mem_append.mp m with m | m
      · simp only [List.mem_cons, List.not_mem_nil, or_false] at m
        rcases m with rfl | rfl | rfl | rfl
        · exact n1 rfl
        · rw [ha] at h; cases h
        · rw [hb] at h; cases h
        · exact n2 rfl
      · obtain ⟨_, e⟩ := dic m h; cases e
  have gB : wipeX ([t, pa, pb, u] ++ absE es) H g = some (.dK kvs) := by
    rw [wipe_off (fun m => ?_)]
    · exact hg
    · rcases List.mem_append.mp m with m | m
      · simp only [List.mem_cons, List.not_mem_nil, or_false] at m
        rcases m with rfl | rfl | rfl | rfl
        · rw [ht] at hg; cases hg
        · exact ngp (by simp)
        · exact ngp (by simp)
        · rw [hu] at hg; cases hg
      · exact ngp (List.mem_append.mpr (.inr m))
  have pkB : Paired (RdV (wipeX ([t, pa, pb, u] ++ absE es) H)) kvs rl := L2.Paired.mapP pk fun kv r h => by
    obtain ⟨a1, q, p', us', e, _, f, _, f2, kk, l⟩ := rdv_off h ht
    have nu : ∀ {c : Addr} {xs : List V}, H c = some (.lst xs) → (∀ a r, xs ≠ V.ref a :: r) → c ≠ u := fun h n z => by
      rw [z, hu] at h
      exact n _ _ (e0 ▸ (HO.lst.inj (Option.some.inj h)).symm)
    have nt : ∀ {c : Addr} {xs : List V}, H c = some (.lst xs) → (∀ k, xs ≠ [V.int k]) → c ≠ t := fun h n z => by rw [z, ht] at h; exact n _ (HO.lst.inj (Option.some.inj h)).symm
    refine ⟨a1, q, p', us', e, lstB f (nt f fun k z => by cases z) (nu f fun a r z => by cases z), lstB f2 ?_ ?_, L2.Paired.mapP kk fun _ _ ⟨q, e, n, f, j⟩ => ⟨q, e, lstB f n (nu f fun a r z => by cases z), j⟩, l⟩
    · refine nt f2 fun k z => ?_
      obtain ⟨_, _, _, e, _⟩ := pair_get' kk (i := 0) (x := V.int k) (by rw [z]; rfl)
      cases e
    · intro z
      rw [z, hu] at f2
      have e2 := HO.lst.inj (Option.some.inj f2)
      rw [e0] at e2
      obtain ⟨_, _, q2, e3, _, h3, _⟩ := pair_get' kk (i := 0) (x := V.ref a0) (by rw [← e2]; rfl)
      obtain rfl := V.ref.inj e3
      obtain ⟨_, _, g3, _, e4, h4, _⟩ := pair_get' pd (i := 0) (x := V.ref a0) (by rw [e0]; rfl)
      obtain rfl := V.ref.inj e4
      rw [E.s _ _ h4] at h3; cases h3
  refine ⟨_, sB, ⟨fun a o h => ?_, fun a m => wipe_in m, E.ds.imp fun _ h => sB _ _ h, E.rw.imp fun _ h => ⟨sB _ _ h.1, rowsN_same h.2 sB⟩, E.g.imp fun _ h => ⟨sB _ _ h.1, L2.Paired.mapP h.2 fun _ _ h => h.same sB⟩, E.sh.same sB, ⟨k, bu _ _ E.tu ht⟩, E.tu, E.pp.off hu nstr bu, ⟨us, sB _ _ hF, L2.Paired.mapP pu fun _ _ h => h.off hu nstr bu⟩, ⟨_, upd_same, pair_setX (L2.Paired.mapP pd fun _ _ h => h.same sB) ⟨g, kvs, rfl, gB, pkB⟩⟩, E.nd, E.np⟩⟩
  have n : a ≠ u := fun z => by rw [z, wipe_in (by simp)] at h; cases h
  exact bu _ _ n (wipe_same _ _ h)
end
abbrev st60 (a0 d t R G : Addr) (x5 x6 x7 x8 x9 x10 x11 x12 x13 : Option V) : St := [some (.ref a0), some (.ref d), some (.ref t), some (.ref R), some (.ref G), x5, x6, x7, x8, x9, x10, x11, x12, x13]
end My

namespace My
open PySem L2
theorem set_at {α : Type} {l : List α} {i : Nat} {x : α} (h : l[i]? = some x) : l.set i x = l := by
  obtain ⟨hl, rfl⟩ := List.getElem?_eq_some_iff.mp h
  exact List.set_getElem_self hl
theorem pair_memG {α β : Type} {F G : α → β → Prop} : ∀ {l : List α} {m : List β}, Paired F l m → (∀ a b, b ∈ m → F a b → G a b) → Paired G l m
  | _, _, .nil, _ => .nil
  | _, _, .cons h t, g => .cons (g _ _ List.mem_cons_self h) (pair_memG t fun a b hb => g a b (List.mem_cons_of_mem _ hb))
theorem rd_at {t : Addr} {H : Hp} {kvs : List (Key × V)} {P : List Rl} {ps : List Addr} {i : Nat} {r : Rl} (pk : Paired (RdN t H) kvs P) (pw : Paired (PwV H) kvs ps) (hi : P[i]? = some r) : ∃ (q p : Addr) (us : List V) (kv : Key × V), kvs[i]? = some kv ∧ kv.2 = .ref q ∧ ps[i]? = some p ∧ q ≠ t ∧ p ≠ t ∧ H q = some (.lst [.bl r.2.1, .ref p]) ∧ H p = some (.lst us) ∧ Paired (LwN t H) us r.2.2 ∧ us.length ≤ 100 := by
  obtain ⟨kv, hkv, hr⟩ := pair_back pk hi
  obtain ⟨_, q, p, us, eq, nq, hq, np, hp, pus, lus⟩ := hr
  obtain ⟨p2, hps, q2, bb, eq2, hq2⟩ := pair_get' pw hkv
  rw [eq] at eq2
  obtain rfl := V.ref.inj eq2
  rw [hq] at hq2
  injection hq2 with hq2
  injection hq2 with hq2
  injection hq2 with _ hq2
  injection hq2 with hq2 _
  obtain rfl := V.ref.inj hq2
  exact ⟨q, p, us, kv, hkv, eq, hps, nq, np, hq, hp, pus, lus⟩
theorem val_at {t : Addr} {H : Hp} : ∀ {kvs : List (Key × V)} {rl : List Rl} {i : Nat} {r : Rl} {kv : Key × V}, Paired (RdN t H) kvs rl → (rl.map (·.1)).Nodup → rl[i]? = some r → kvs[i]? = some kv → valV kvs (.inr r.1) = some kv.2
  | _, _, _, _, _, .nil, _, e, _ => by simp at e
  | kv0 :: kvs, q0 :: rl, 0, r, kv, .cons h t, _, e, e2 => by
    simp at e e2; subst e; subst e2
    rw [valV_pos h.1]
  | kv0 :: kvs, q0 :: rl, i + 1, r, kv, .cons h t, nd, e, e2 => by
    have e : rl[i]? = some r := by simpa using e
    have nd := List.nodup_cons.mp (by simpa using nd : (q0.1 :: rl.map (·.1)).Nodup)
    have ne : q0.1 ≠ r.1 := fun h => nd.1 (h ▸ List.mem_map.mpr ⟨r, List.mem_of_getElem? e, rfl⟩)
    rw [valV_neg (by rw [h.1]; exact fun z => ne (by injection z))]
    exact val_at t nd.2 e (by simpa using e2)
theorem map_setM {P : List Rl} {i : Nat} {r : Rl} {b : Bool} {ks : List Wv} (h : P[i]? = some r) : (P.set i (r.1, b, ks)).map (·.1) = P.map (·.1) := by
  rw [List.map_set]
  exact set_at (by rw [List.getElem?_map, h]; rfl)
theorem loos_wide {P Q : List Rl} (h : OkR P) (m : Q ∈ loosR P) : Q.length = P.length := by
  have e := congrArg List.length (loos_ok h m).2
  rwa [List.length_map, List.length_map] at e
theorem rd_two {t u : Addr} {k : Nat} {H H' : Hp} {kv : Key × V} {r : Rl} (h : RdN u H kv r) (ht : H t = some (.lst [.int k])) (b : ∀ a xs, a ≠ t → a ≠ u → H a = some (.lst xs) → H' a = some (.lst xs)) : RdV H' kv r := by
  obtain ⟨e, q, p, us, eq, nq, hq, np, hp, pk, l⟩ := h
  have nl : ∀ {a : Addr} {xs : List V}, H a = some (.lst xs) → (∀ k, xs ≠ [V.int k]) → a ≠ t := fun h n z => by rw [z, ht] at h; exact n _ (HO.lst.inj (Option.some.inj h)).symm
  refine ⟨e, q, p, us, eq, b _ _ (nl hq fun k z => by cases z) nq hq, b _ _ (nl hp fun k z => ?_) np hp, L2.Paired.mapP pk fun _ _ ⟨q, e, n, f, j⟩ => ⟨q, e, b _ _ (nl f fun k z => by cases z) n f, j⟩, l⟩
  obtain ⟨_, _, _, e, _⟩ := pair_get' pk (i := 0) (x := V.int k) (by rw [z]; rfl)
  cases e
section
variable {Cp Cw Cs : Addr} {B H H' : Hp} {t d R G x p pm pa pb F u : Addr} {rs : List Row} {P : List Rl} {es : List (List Rl × Addr × Addr)} {L : List (List Rl)}
theorem E60.dues (E : E60 Cp Cw Cs B H t d R G x p pm pa pb F u rs P es L) (l : ∀ rl ∈ L, rl.length ≤ 100) : ∃ ds, H u = some (.lst ds) ∧ Paired (fun v rl => ∃ g kvs, v = .ref g ∧ H g = some (.dK kvs) ∧ Paired (RdV H) kvs rl ∧ rl.length ≤ 100 ∧ g ∉ absE es) ds L := by
  obtain ⟨ds, h, pd⟩ := E.du
  refine ⟨ds, h, pair_memG pd fun v rl m hd => ?_⟩
  obtain ⟨g, kvs, e, f, pk⟩ := hd
  refine ⟨g, kvs, e, E.s _ _ f, L2.Paired.mapP pk fun _ _ h => h.same E.s, l rl m, fun mg => ?_⟩
  rw [E.nX g (List.mem_append.mpr (.inr mg))] at f
  cases f
theorem E60.rules (E : E60 Cp Cw Cs B H t d R G x p pm pa pb F u rs P es L) : ∃ kv, H G = some (.dK kv) ∧ Paired (RdV H) kv P ∧ G ≠ pa ∧ G ≠ pb := by
  obtain ⟨kv, h, pk⟩ := E.g
  exact ⟨kv, E.s _ _ h, L2.Paired.mapP pk fun _ _ h => h.same E.s, ne_of_none h (E.nX pa (by simp)), ne_of_none h (E.nX pb (by simp))⟩
end
end My

namespace My
open PySem L2
section
variable {w : World} {K : PySem.W.Frag} {mg : Str → Option Value} {base : Heap}
set_option maxHeartbeats 32000000 in
set_option pp.maxSteps 500 in
theorem ok_law (T : Txt K mg) : FnOk PP w K mg base CX0 24 T.a_law T.fd_law ["_law_script"] (spLaw K) := by
  refine T.F_law.ok sc_law (fun vs H Q E h => ?_) (fun cdv A outer s H vs Q E hr h => ?_)
  · obtain ⟨a, ns, rfl, _⟩ := h; rfl
  · obtain ⟨a0, ns0, rfl, hS, hlen, qq⟩ := h
    refine ⟨_, (pss_cons (ps_set (i := 1) sc_law.nd rfl (.inl rfl) (pe_call (ok__law_draws T) (hr.mono (by omega)) (by rfl) T.g__law_draws T.F__law_draws.kp T.b__law_draws .nil pass0 (pa_cons (pv 0) pa_nil)))
      (pss_cons (ps_set (i := 2) sc_law.nd rfl (.inl rfl) (pe_lst (pa_cons (pe_int) pa_nil)))
      (pss_cons (ps_set (i := 3) sc_law.nd rfl (.inl rfl) (pe_call (ok__law_rows T) (hr.mono (by omega)) (by rfl) T.g__law_rows T.F__law_rows.kp T.b__law_rows .nil pass0 (pa_cons (pv 1) (pa_cons (pv 2) (pa_cons (pe_bl) pa_nil)))))
      (pss_cons (ps_set (i := 4) sc_law.nd rfl (.inl rfl) (pe_call (ok__law_rules T) (hr.mono (by omega)) (by rfl) T.g__law_rules T.F__law_rules.kp T.b__law_rules .nil pass0 (pa_cons (pv 1) (pa_cons (pv 2) (pa_cons (pv 3) pa_nil)))))
      (C8.pss_cut (ps_if (pt_cmpR op_eq (pe_call (ok__law_take T) (hr.mono (by omega)) (by rfl) T.g__law_take T.F__law_take.kp T.b__law_take .nil pass0 (pa_cons (pv 1) (pa_cons (pv 2) (pa_cons (pe_int) pa_nil)))) (pe_int) (nomark _)) (pss_cons (ps_set (i := 5) sc_law.nd rfl (.inl rfl) (pe_dget (hu_of hr) (pv 4) (pe_ix ix_list (pe_ix ix_list (pv 3) (pe_call (ok__law_take T) (hr.mono (by omega)) (by rfl) T.g__law_take T.F__law_take.kp T.b__law_take .nil pass0 (pa_cons (pv 1) (pa_cons (pv 2) (pa_cons (pe_callB call_len_seq (by rfl) T.n_len (by decide +kernel) (pa_cons (pv 3) pa_nil)) pa_nil)))) (fun _ _ => rfl)) (pe_int) (fun _ _ => rfl)) (fun _ _ => rfl)))
      (pss_one (ps_for PassesOwn.never rfl (pi_range1 (by rfl) T.n_range (pa_cons (pe_int) pa_nil)) (pg_name (i := 6) sc_law.nd rfl (.inl rfl)) (pss_one (ps_expr (pe_bm PySem.F.plainAttrs_list PySem.F.slot_list_append PySem.F.type_list_append mt_append (pe_ix ix_list (pv 5) (pe_int) (fun _ _ => rfl)) (pa_cons (pe_call (ok__law_way T) (hr.mono (by omega)) (by rfl) T.g__law_way T.F__law_way.kp T.b__law_way .nil pass0 (pa_cons (pv 1) (pa_cons (pv 2) pa_nil))) pa_nil))))))) pss_nil)
      (pss_cons (ps_set (i := 7) sc_law.nd rfl (.inl rfl) (pe_call (ok__law_shape T) (hr.mono (by omega)) (by rfl) T.g__law_shape T.F__law_shape.kp T.b__law_shape .nil pass0 (pa_cons (pv 3) pa_nil)))
      (pss_cons (ps_set (i := 8) sc_law.nd rfl (.inl rfl) (pe_call (ok__law_policy T) (hr.mono (by omega)) (by rfl) T.g__law_policy T.F__law_policy.kp T.b__law_policy .nil pass0 (pa_cons (pv 7) (pa_cons (pv 4) pa_nil))))
      (pss_cons (ps_set (i := 9) sc_law.nd rfl (.inl rfl) (pe_call (ok__law_looser_rules T) (hr.mono (by omega)) (by rfl) T.g__law_looser_rules T.F__law_looser_rules.kp T.b__law_looser_rules .nil pass0 (pa_cons (pv 4) pa_nil)))
      (pss_cons (ps_set (i := 10) sc_law.nd rfl (.inl rfl) (pe_listG (E := fun _ _ _ => False) (pgen_call (ok_loosenings T) (hr.mono (by omega)) (by rfl) T.g_loosenings T.F_loosenings.kp T.b_loosenings .nil (pa_cons (pv 8) pa_nil)) nopass nostop (hr.mono (by omega)) (by rfl) T.n_list rfl))
      (pss_cons (ps_if (PW.pt (pw_or (pt_not (pt_val (pe_call (ok__law_good T) (hr.mono (by omega)) (by rfl) T.g__law_good T.F__law_good.kp T.b__law_good .nil pass0 (pa_cons (pv 10) (pa_cons (pv 7) (pa_cons (pv 9) pa_nil)))))) (pw_or1 (pt_not (pt_val (pe_call (ok__law_reads T) (hr.mono (by omega)) (by rfl) T.g__law_reads T.F__law_reads.kp T.b__law_reads .nil pass0 (pa_cons (pv 8) (pa_cons (pv 4) pa_nil)))))))) (pss_one (ps_ret (pe_bl))) pss_nil)
      (pss_cons (ps_if (pt_cmpR op_eq (pe_callB call_len_seq (by rfl) T.n_len (by decide +kernel) (pa_cons (pv 10) pa_nil)) (pe_int) (nomark _)) (pss_one (ps_ret (pe_bl))) pss_nil)
      (pss_cons (ps_set (i := 11) sc_law.nd rfl (.inl rfl) (pe_call (ok__law_take T) (hr.mono (by omega)) (by rfl) T.g__law_take T.F__law_take.kp T.b__law_take .nil pass0 (pa_cons (pv 1) (pa_cons (pv 2) (pa_cons (pe_callB call_len_seq (by rfl) T.n_len (by decide +kernel) (pa_cons (pv 10) pa_nil)) pa_nil)))))
      (pss_cons (ps_set (i := 12) sc_law.nd rfl (.inl rfl) (pe_ix ix_list (pe_ix ix_list (pv 3) (pe_call (ok__law_take T) (hr.mono (by omega)) (by rfl) T.g__law_take T.F__law_take.kp T.b__law_take .nil pass0 (pa_cons (pv 1) (pa_cons (pv 2) (pa_cons (pe_callB call_len_seq (by rfl) T.n_len (by decide +kernel) (pa_cons (pv 3) pa_nil)) pa_nil)))) (fun _ _ => rfl)) (pe_int) (fun _ _ => rfl)))
      (pss_cons (ps_asg (pe_tup (pa_cons (pe_bl) (pa_cons (pe_tup (pa_cons (pe_make T.mk_Way (ok_Way_init T) (hr.mono (by omega)) (by rfl) T.g_Way T.kb_Way_init_4.choose_spec.2 T.kb_Way_init_4.choose_spec.1 pass0 (pa_cons (pe_str) (pa_cons (pe_str) (pa_cons (pe_str) pa_nil)))) pa_nil)) pa_nil))) (pg_sub (pe_ix ix_list (pv 10) (pv 11) (fun _ _ => rfl)) (pv 12) (set_own T.m_Policy_setitem T.nq_Policy (ok_Policy_setitem T) (hr.mono (by omega)) T.b_Policy_setitem pass0)))
      (pss_cons (ps_asg (pe_call (ok__law_with T) (hr.mono (by omega)) (by rfl) T.g__law_with T.F__law_with.kp T.b__law_with .nil pass0 (pa_cons (pe_ix ix_list (pv 9) (pv 11) (fun _ _ => rfl)) (pa_cons (pv 12) (pa_cons (pe_bl) (pa_cons (pe_lst (pa_cons (pe_lst (pa_cons (pe_int) (pa_cons (pe_int) (pa_cons (pe_int) (pa_cons (pe_bl) pa_nil))))) pa_nil)) pa_nil))))) (pg_sub (pv 9) (pv 11) set_list))
      (pss_cons (ps_if (PW.pt (pw_or (pt_not (pt_val (pe_call (ok__law_good T) (hr.mono (by omega)) (by rfl) T.g__law_good T.F__law_good.kp T.b__law_good .nil pass0 (pa_cons (pv 10) (pa_cons (pv 7) (pa_cons (pv 9) pa_nil)))))) (pw_or1 (pt_not (pt_val (pe_call (ok__law_reads T) (hr.mono (by omega)) (by rfl) T.g__law_reads T.F__law_reads.kp T.b__law_reads .nil pass0 (pa_cons (pv 8) (pa_cons (pv 4) pa_nil)))))))) (pss_one (ps_ret (pe_bl))) pss_nil)
      (pss_cons (ps_set (i := 13) sc_law.nd rfl (.inl rfl) (pe_ix ix_list (pe_call (ok__law_looser_rules T) (hr.mono (by omega)) (by rfl) T.g__law_looser_rules T.F__law_looser_rules.kp T.b__law_looser_rules .nil pass0 (pa_cons (pv 4) pa_nil)) (pv 11) (fun _ _ => rfl)))
      (pss_cons (ps_expr (pe_call (ok__law_set T) (hr.mono (by omega)) (by rfl) T.g__law_set T.F__law_set.kp T.b__law_set .nil pass0 (pa_cons (pv 8) (pa_cons (pv 13) pa_nil))))
      (pss_one (ps_ret (pe_and (pe_call (ok__law_good T) (hr.mono (by omega)) (by rfl) T.g__law_good T.F__law_good.kp T.b__law_good .nil pass0 (pa_cons (pe_listG (E := fun _ _ _ => False) (pgen_call (ok_loosenings T) (hr.mono (by omega)) (by rfl) T.g_loosenings T.F_loosenings.kp T.b_loosenings .nil (pa_cons (pv 8) pa_nil)) nopass nostop (hr.mono (by omega)) (by rfl) T.n_list rfl) (pa_cons (pv 7) (pa_cons (pe_call (ok__law_looser_rules T) (hr.mono (by omega)) (by rfl) T.g__law_looser_rules T.F__law_looser_rules.kp T.b__law_looser_rules .nil pass0 (pa_cons (pv 13) pa_nil)) pa_nil)))) (pe_one (pe_call (ok__law_reads T) (hr.mono (by omega)) (by rfl) T.g__law_reads T.F__law_reads.kp T.b__law_reads .nil pass0 (pa_cons (pv 8) (pa_cons (pv 13) pa_nil))))))))))))))))))))))))), ?_⟩
    have big : 100000 < sizeLine := by decide
    refine ⟨_, rfl, a0, ns0, rfl, hS, hlen, fun d zs H1 s1 nd hd => ?_⟩
    refine ⟨by show 1 ≤ sizeLine; decide, fun t hat => ?_⟩
    have D0 : Dr K (upd H1 t (.lst [.int 0])) d t := ⟨⟨zs, same_new hat _ _ hd⟩, ⟨0, upd_same⟩, ne_of_none hd hat⟩
    revert D0
    generalize upd H1 t (.lst [.int 0]) = H2
    intro D0
    -- the rows
    refine ⟨_, rfl, _, rfl, d, t, false, rfl, D0, fun ms prs ws R H6 pok m3 l1 l3 nms0 oms D6 b6 nR hR rR => ?_⟩
    have g := good_named pok (by omega : ms.length ≤ 6) (Nat.le_refl _) nms0 oms
    have lrs : (prs.map (nameR ms)).length = ms.length := by rw [List.length_map]; exact pok.1
    generalize prs.map (nameR ms) = rs at g lrs rR
    have lws := pair_len' rR
    have nRt : R ≠ t := D0.na nR
    have ndm : (mks rs).Nodup := g.nd
    have rR6 : RowsN (fun a => a ≠ t) true H6 ws rs := rowsN_sub rR fun a f => D0.na f
    have wo : wordsOk rs := g.g.words
    -- the rules
    refine ⟨_, rfl, _, rfl, _, rfl, d, t, R, ws, rs, rfl, D6, hR, nRt, rR6, by omega, ndm, fun P1 kv ps G H7 pw ndp frp e1 w1 D7 b7 nG hG pG => ?_⟩
    have nGt : G ≠ t := D6.na nG
    have lP1 : P1.length = rs.length := by rw [← List.length_map (f := fun r : Rl => r.1), e1]; unfold mks; rw [List.length_map]
    -- three ways more
    refine ⟨fun σ H' => ∃ (P : List Rl) (x5 x6 : Option V), σ = st60 a0 d t R G x5 x6 none none none none none none none ∧ Dr K H' d t ∧ But t H6 H' ∧ H' G = some (.dK kv) ∧ Paired (RdN t H') kv P ∧ P.map (·.1) = mks rs ∧ (∀ r ∈ P, r.2.2.length ≤ 6), ?_, ?_⟩
    · refine ⟨_, rfl, _, rfl, d, t, 3, rfl, D7, by decide, fun z0 H8 z00 z01 D8 b8 => ⟨rfl, _, rfl, iteD (fun c => ?_) (fun c => ?_)⟩⟩
      rotate_left
      · exact ⟨P1, _, _, rfl, D8, b7.trans b8, b8 _ _ nGt hG, L2.Paired.mapP pG fun _ _ h => h.keep (.but b8), e1, fun r hr => Nat.le_trans (w1 r hr) (by decide)⟩
      have b68 := b7.trans b8
      refine ⟨_, rfl, _, rfl, _, rfl, _, rfl, _, rfl, R, _, rfl, .inl (SqL.of (b68 _ _ nRt hR)), d, t, _, rfl, D8, by omega, fun rr H9 r0 r1 D9 b9 => ?_⟩
      have b69 := b68.trans b9
      obtain ⟨jm, rfl⟩ := Int.eq_ofNat_of_zero_le r0
      obtain ⟨rw0, hrw⟩ : ∃ rw0, rs[jm]? = some rw0 := ⟨_, List.getElem?_eq_getElem (by omega)⟩
      obtain ⟨v, hv, pr, ppr, rfl, npr, _, hpr, _⟩ := pair_back rR6 hrw
      have hpr : H6 pr = some (.lst (rowL rw0 ppr)) := hpr
      refine ⟨_, _, _, _, rfl, rfl, SqL.of (b69 _ _ nRt hR), atI_nat hv, _, _, _, _, rfl, rfl, SqL.of (b69 _ _ npr hpr), atI_nat (j := 0) rfl, ?_⟩
      have mk : rw0.mark ∈ mks rs := List.mem_map.mpr ⟨rw0, List.mem_of_getElem? hrw, rfl⟩
      revert mk
      generalize rw0.mark = mz
      intro mk
      have pG9 : Paired (RdN t H9) kv P1 := L2.Paired.mapP pG fun _ _ h => h.keep (.but (b8.trans b9))
      have pw9 : Paired (PwV H9) kv ps := L2.Paired.mapP pw fun _ _ h => h.keep D7.pl (.but (b8.trans b9))
      have hG9 := (b8.trans b9) _ _ nGt hG
      have nd1 : (P1.map (·.1)).Nodup := by rw [e1]; exact ndm
      obtain ⟨i1, ra1, hi1, er1, _⟩ := find_rl (by rw [e1]; exact mk : mz ∈ P1.map (·.1)) nd1
      obtain ⟨q0, p0, us0, kvx, hkx, eqx, hps, nq0, np0, hq0, hp0, pus0, lus0⟩ := rd_at pG9 pw9 hi1
      have ek1 := val_at pG9 nd1 hi1 hkx
      have dg1 := DGet.k (k := .inr mz) hG9
      rw [← er1, ek1, eqx, er1] at dg1
      have li1 := (List.getElem?_eq_some_iff.mp hi1).1
      have fp0 : H6 p0 = none := frp p0 (List.mem_of_getElem? hps)
      refine ⟨G, _, rfl, dg1, ?_⟩
      refine ⟨3, rfl, by decide, by decide, for_range (lo := 0) (n := 3) (fun j σ H' => ∃ (x6 : Option V) (ks : List Wv), σ = st60 a0 d t R G (some (.ref q0)) x6 none none none none none none none ∧ Dr K H' d t ∧ But t H6 H' ∧ H' G = some (.dK kv) ∧ Paired (RdN t H') kv (P1.set i1 (ra1.1, ra1.2.1, ra1.2.2 ++ ks)) ∧ Paired (PwV H') kv ps ∧ ks.length = j) ⟨_, [], rfl, D9, b69, hG9, by rw [List.append_nil, set_at hi1]; exact pG9, pw9, rfl⟩ ?_ ?_⟩
      rotate_left
      · rintro σ H' ⟨x6, ks, rfl, D', b', hG', pk', _, lk⟩
        refine ⟨_, _, _, rfl, D', b', hG', pk', by rw [map_setM hi1, e1], fun r hr => ?_⟩
        rcases List.mem_or_eq_of_mem_set hr with hr | rfl
        · exact Nat.le_trans (w1 r hr) (by decide)
        · have := w1 ra1 (List.mem_of_getElem? hi1)
          show (ra1.2.2 ++ ks).length ≤ 6
          rw [List.length_append]; omega
      rintro j σ Ha hj ⟨x6, ks, rfl, Da, ba, hGa, pka, pwa, lk⟩
      rw [Int.zero_add]
      have hia : (P1.set i1 (ra1.1, ra1.2.1, ra1.2.2 ++ ks))[i1]? = some (ra1.1, ra1.2.1, ra1.2.2 ++ ks) := List.getElem?_set_self li1
      obtain ⟨q1, p1, us1, kvy, hky, eqy, hps1, nq1, np1, hq1, hp1, pus1, lus1⟩ := rd_at pka pwa hia
      rw [hkx] at hky
      obtain rfl := Option.some.inj hky
      rw [eqx] at eqy
      obtain rfl := V.ref.inj eqy
      rw [hps] at hps1
      obtain rfl := Option.some.inj hps1
      have lus := pair_len' pus1
      have w1r := w1 ra1 (List.mem_of_getElem? hi1)
      have lapp : (ra1.2.2 ++ ks).length = ra1.2.2.length + ks.length := List.length_append
      refine ⟨_, rfl, _, _, _, _, rfl, rfl, SqL.of hq1, atI_nat (j := 1) rfl, .inl ⟨rfl, _, SqL.of hp1⟩, _, rfl, _, rfl, d, t, rfl, Da, fun wq wa wb wc we Hb adw Db bb nwq hwq => ?_⟩
      have hpb := bb _ _ np1 hp1
      have pkb : Paired (RdN t Hb) kv (P1.set i1 (ra1.1, ra1.2.1, ra1.2.2 ++ ks)) := L2.Paired.mapP pka fun _ _ h => h.keep (.but bb)
      have pwb : Paired (PwV Hb) kv ps := L2.Paired.mapP pwa fun _ _ h => h.keep Da.pl (.but bb)
      have b6b := ba.trans bb
      have nwt : wq ≠ t := Da.na nwq
      obtain ⟨pkc, pwc⟩ := rdn_app (k := (wa, wb, wc, we)) pkb pwb ndp hia hps hpb hwq nwt adw (by simp only at lus; omega)
      rw [List.set_set] at pkc
      have hGb := bb _ _ nGt hGa
      have b6c : But t H6 (upd Hb p0 (.lst (us1 ++ [.ref wq]))) := fun c o n h => by rw [upd_ne (ne_of_none h fp0)]; exact b6b c o n h
      refine ⟨_, _, _, rfl, rfl, hpb, by simp only at lus; omega, _, ks ++ [(wa, wb, wc, we)], rfl, Db.other But.upd ?_ np1.symm, b6c, by rw [upd_ne (fun z => by rw [z, hpb] at hGb; cases hGb)]; exact hGb, ?_, pwc, by rw [List.length_append, lk]; rfl⟩
      · obtain ⟨_, hdd⟩ := D6.ds
        exact ne_of_none hdd fp0
      · simpa only [List.append_assoc] using pkc
    clear hG pG w1 e1 frp ndp pw D7 b7 lP1 P1
    rintro σ H8 ⟨P, x5, x6, rfl, D8, b8, hG8, pG8, e8, w8⟩
    have pG8v : Paired (RdV H8) kv P := L2.Paired.mapP pG8 fun _ _ h => h.v
    have ndP : (P.map (·.1)).Nodup := by rw [e8]; exact ndm
    have lP : P.length = rs.length := by rw [← List.length_map (f := fun r : Rl => r.1), e8]; unfold mks; rw [List.length_map]
    have okP : OkR P := fun r hr => ⟨rdn_adj pG8 r hr, Nat.le_trans (w8 r hr) (by decide)⟩
    have hR8 := b8 _ _ nRt hR
    have rR8 := rowsN_le rR6 fun a o f e => b8 a o f e
    -- the shape, the policy, the dues, the looser ones
    refine ⟨_, rfl, R, ws, rs, rfl, hR8, rowsN_sub rR8 (fun _ _ => trivial), by omega, by omega, g, fun x H9 s9 nx Sx => ?_⟩
    refine ⟨_, rfl, _, rfl, x, G, rs, kv, P, rfl, Sx.sh, ndm, by omega, s9 _ _ hG8, L2.Paired.mapP pG8v fun _ _ h => h.same s9, e8, fun p pm pa pb Ha sa np npm npa npb Pp => ?_⟩
    have s8a := s9.trans sa
    refine ⟨_, rfl, G, kv, P, rfl, s8a _ _ hG8, L2.Paired.mapP pG8v fun _ _ h => h.same s8a, ndP, by omega, (fun r hr => by have := w8 r hr; omega), fun u us Hb sb nu hu pu => ?_⟩
    have s8b := s8a.trans sb
    refine ⟨_, rfl, p, x, pm, pa, pb, P, rs, rfl, Pp.same sb, Sx.sh.same (sa.trans sb), e8, by omega, okP, fun ys es Hc sc oc F nF => ?_⟩
    -- what holds from here
    have sd := same_new (o := .lst ys) nF
    have hF : (upd Hc F (.lst ys)) F = some (.lst ys) := upd_same
    revert sd hF
    generalize upd Hc F (.lst ys) = Hd
    intro sd hF
    have scd := sc.trans sd
    have sbd := sb.trans scd
    have s8d := s8a.trans sbd
    have od := oc.same sd
    obtain ⟨kt, ht8⟩ := D8.pl
    obtain ⟨zd, hd8⟩ := D8.ds
    have ntb : ∀ a ∈ absE es, Hb a = none ∧ ∃ o, Hd a = some o := od.fr
    obtain ⟨⟨dp, hp⟩, hpm, ⟨lsp, hpa, hpb, _⟩, nep, _⟩ := id Pp
    have fu : ∀ {a : Addr} {o : HO}, H9 a = some o → a ∉ [t, pa, pb, u] ++ absE es ∨ a = t := fun {a o} h => by
      by_cases e : a = t
      · exact .inr e
      refine .inl fun m => ?_
      rcases List.mem_append.mp m with m | m
      · simp only [List.mem_cons, List.not_mem_nil, or_false] at m
        rcases m with rfl | rfl | rfl | rfl
        · exact e rfl
        · rw [npa] at h; cases h
        · rw [npb] at h; cases h
        · have := sa.free nu; rw [this] at h; cases h
      · have := (sa.trans sb).free (ntb a m).1; rw [this] at h; cases h
    have kX : ∀ {a : Addr} {o : HO}, a ∉ [t, pa, pb, u] ++ absE es → Hd a = some o → wipeX ([t, pa, pb, u] ++ absE es) Hd a = some o := fun n h => by rw [wipe_off n]; exact h
    have k8 : ∀ {a : Addr} {o : HO}, a ≠ t → H8 a = some o → wipeX ([t, pa, pb, u] ++ absE es) Hd a = some o := fun n h => kX ((fu (s9 _ _ h)).resolve_right n) (s8d _ _ h)
    have k9 : ∀ {a : Addr} {o : HO}, a ≠ t → H9 a = some o → wipeX ([t, pa, pb, u] ++ absE es) Hd a = some o := fun n h => kX ((fu h).resolve_right n) ((sa.trans sbd) _ _ h)
    have nuX : ∀ {a : Addr} {o : HO}, a ∈ absE es → Hb a = some o → False := fun m h => by rw [(ntb _ m).1] at h; cases h
    have E : E60 T.c_Policy T.c_Way T.c_Shape (wipeX ([t, pa, pb, u] ++ absE es) Hd) Hd t d R G x p pm pa pb F u rs P es (loosR P) := by
      refine ⟨wipe_same, fun a m => wipe_in m, ⟨zd, k8 D8.ne hd8⟩, ⟨ws, k8 nRt hR8, L2.Paired.mapP rR8 fun _ _ ⟨q, qq, e, f, g', h1, h2⟩ => ⟨q, qq, e, trivial, trivial, k8 f h1, k8 g' h2⟩⟩, ⟨kv, k8 nGt hG8, ?_⟩, ?_, ⟨kt, s8d _ _ ht8⟩, (ne_of_none (s8a _ _ ht8) nu), Pp.same sbd, ⟨ys, kX ?_ hF, od.pr⟩, ⟨us, scd _ _ hu, ?_⟩, od.nd, ?_, ?_⟩
      · exact L2.Paired.mapP pG8 fun _ _ h => (h.keep (fun a xs n e => k8 n e)).v
      · obtain ⟨dx, l, m, vs, f1, f2, h1, h2, h3, h4⟩ := Sx
        have nt : ∀ {a : Addr}, H8 a = none → a ≠ t := fun h => (ne_of_none ht8 h).symm
        exact ⟨dx, l, m, vs, k9 (nt nx) h1, k9 (nt f1) h2, rowsT_keep h3 (fun a xs e => k9 (fun z => by rw [z, s9 _ _ ht8] at e; cases e) e), k9 (nt f2) h4⟩
      · intro m
        rcases List.mem_append.mp m with m | m
        · simp only [List.mem_cons, List.not_mem_nil, or_false] at m
          rcases m with rfl | rfl | rfl | rfl
          · rw [(s8b.trans sc) _ _ ht8] at nF; cases nF
          · rw [(sb.trans sc) _ _ hpa] at nF; cases nF
          · rw [(sb.trans sc) _ _ hpb] at nF; cases nF
          · rw [sc _ _ hu] at nF; cases nF
        · obtain ⟨o, ho⟩ := (oc.fr F m).2
          rw [ho] at nF; cases nF
      · refine pair_memG pu fun v rl m h => ?_
        obtain ⟨gg, kvs, e, ngu, hg, pk⟩ := h
        have lrl := loos_wide okP m
        have ngp := pol_dict (Pp.same sb) hg (L2.Paired.mapP pk fun _ _ h => h.v) (fun z => by rw [z] at lrl; simp only [List.length_nil] at lrl; omega)
        have htb := s8b _ _ ht8
        refine ⟨gg, kvs, e, kX (fun m => ?_) (scd _ _ hg), L2.Paired.mapP pk fun _ _ h => rd_two h htb fun a xs n1 n2 ha => kX (fun m => ?_) (scd _ _ ha)⟩
        · rcases List.mem_append.mp m with m | m
          · simp only [List.mem_cons, List.not_mem_nil, or_false] at m
            rcases m with rfl | rfl | rfl | rfl
            · rw [htb] at hg; cases hg
            · exact ngp.1 rfl
            · exact ngp.2 rfl
            · exact ngu rfl
          · exact nuX m hg
        · rcases List.mem_append.mp m with m | m
          · simp only [List.mem_cons, List.not_mem_nil, or_false] at m
            rcases m with rfl | rfl | rfl | rfl
            · exact n1 rfl
            · rw [sb _ _ hpa] at ha; cases ha
            · rw [sb _ _ hpb] at ha; cases ha
            · exact n2 rfl
          · exact nuX m ha
      · exact fun m => nuX m (sb _ _ hpa)
      · exact fun m => nuX m (sb _ _ hpb)
    have eL : es.map (·.1) = loosR P := od.eq
    clear nuX k9 k8 kX fu ntb nep hpb hpa hpm hp hd8 ht8 od s8d sbd scd hF sd oc nF sc pu hu nu sb s8b s8a Pp npa npb npm np sa Sx nx s9 rR8 hR8 pG8 hG8 b8 D8
    revert E
    generalize wipeX ([t, pa, pb, u] ++ absE es) Hd = B
    intro E
    have lL : ∀ rl ∈ loosR P, rl.length ≤ 100 := fun rl m => by rw [loos_wide okP m]; omega
    have lLL : (loosR P).length ≤ 20000 := by
      have := loos_len (P := P) (n := P.length) fun r h => (okP r h).2
      rw [List.take_length] at this
      unfold loosR
      omega
    obtain ⟨us', hus, pus⟩ := E.dues lL
    obtain ⟨ys', hys0, pys⟩ := E.fo
    have hys := E.s _ _ hys0
    refine ⟨_, rfl, _, rfl, _, rfl, F, x, u, ys', us', es, rs, loosR P, rfl, hys, hus, E.sh.same E.s, wo, pys, pus, eL, lLL, fun He se => ⟨_, rfl, ?_⟩⟩
    have E1 := E.same se
    obtain ⟨kvG, hGe, pGe, nGp⟩ := E1.rules
    refine ⟨_, rfl, _, rfl, p, x, pm, pa, pb, G, kvG, P, rfl, E1.pp, hGe, pGe, nGp, by omega, fun Hf sf => ⟨_, rfl, iteNo rfl ?_⟩⟩
    have E2 := E1.same sf
    have lys := pair_len' pys
    have les := congrArg List.length eL
    rw [List.length_map] at les
    refine ⟨_, rfl, F, _, rfl, .inl (SqL.of (E2.s _ _ hys0)), rfl, _, rfl, iteD (fun c => qq _) (fun c => ?_)⟩
    have c0 : 0 < ys'.length := Nat.pos_of_ne_zero fun z => c (by rw [z]; rfl)
    refine ⟨_, rfl, _, rfl, _, rfl, F, _, rfl, .inl (SqL.of (E2.s _ _ hys0)), d, t, _, rfl, E2.dr, by omega, fun n H3 n0 n1 D3 b3 => ?_⟩
    obtain ⟨n, rfl⟩ := Int.eq_ofNat_of_zero_le n0
    have E3 := E2.draw b3 D3
    obtain ⟨wsB, hRB, rRB⟩ := E3.rw
    have lwsB := pair_len' rRB
    refine ⟨_, rfl, _, rfl, _, rfl, _, rfl, R, _, rfl, .inl (SqL.of (E3.s _ _ hRB)), d, t, _, rfl, E3.dr, by omega, fun rr H4 r0 r1 D4 b4 => ?_⟩
    have E4 := E3.draw b4 D4
    obtain ⟨jm, rfl⟩ := Int.eq_ofNat_of_zero_le r0
    obtain ⟨rw0, hrw⟩ : ∃ rw0, rs[jm]? = some rw0 := ⟨_, List.getElem?_eq_getElem (by omega)⟩
    obtain ⟨v, hv, pr, ppr, rfl, _, _, hpr, _⟩ := pair_back rRB hrw
    have hpr : B pr = some (.lst (rowL rw0 ppr)) := hpr
    refine ⟨_, _, _, _, rfl, rfl, SqL.of (E4.s _ _ hRB), atI_nat hv, _, _, _, _, rfl, rfl, SqL.of (E4.s _ _ hpr), atI_nat (j := 0) rfl, ?_⟩
    have mk : rw0.mark ∈ mks rs := List.mem_map.mpr ⟨rw0, List.mem_of_getElem? hrw, rfl⟩
    revert mk
    generalize rw0.mark = mz
    intro mk
    have hn : n < ys'.length := by omega
    obtain ⟨e, he, y, m, hy0, _⟩ : ∃ e, es[n]? = some e ∧ ∃ y m, ys'[n]? = some (.ref y) ∧ Pol T.c_Policy T.c_Way He y x m e.2.1 e.2.2 e.1 := by
      obtain ⟨e, he, y, m, ey, Py⟩ := pair_get' pys (List.getElem?_eq_getElem hn)
      exact ⟨e, he, y, m, by rw [List.getElem?_eq_getElem hn, ey], Py.same se⟩
    have hQ : (loosR P)[n]? = some e.1 := by rw [← eL, List.getElem?_map, he]; rfl
    have mQ := List.mem_of_getElem? hQ
    obtain ⟨okQ, eQ⟩ := loos_ok okP mQ
    have lQ := loos_wide okP mQ
    -- another rule for one of them
    refine make_w fun Wa Hw sw nw hWa => ?_
    refine ⟨rfl, by show 1 ≤ sizeLine; decide, fun w1 nw1 => ⟨by show 2 ≤ sizeLine; decide, fun w2 nw2 => ?_⟩⟩
    have sw1 := same_new (o := .tup [.ref Wa]) nw1
    have sw2 := same_new (o := .tup [.bl false, .ref w1]) nw2
    have hw1 := sw2 _ _ (upd_same (H := Hw) (a := w1) (o := .tup [.ref Wa]))
    have hw2 : (upd (upd Hw w1 (.tup [.ref Wa])) w2 (.tup [.bl false, .ref w1])) w2 = some (.tup [.bl false, .ref w1]) := upd_same
    have hWa2 := Wy.same hWa (sw1.trans sw2)
    have E5 := E4.same (sw.trans (sw1.trans sw2))
    revert hw1 hw2 hWa2 E5
    generalize upd (upd Hw w1 (.tup [.ref Wa])) w2 (.tup [.bl false, .ref w1]) = H5
    intro hw1 hw2 hWa2 E5
    obtain ⟨ys5, hy50, py5⟩ := id E5.fo
    rw [hys0] at hy50
    obtain rfl := HO.lst.inj (Option.some.inj hy50)
    obtain ⟨e5, he5, y5, m5, ey5, Py5⟩ := pair_get' py5 hy0
    rw [he] at he5
    obtain rfl := Option.some.inj he5
    obtain rfl := V.ref.inj ey5
    obtain ⟨dy, hy⟩ := Py5.obj
    refine ⟨_, rfl, _, rfl, _, _, _, _, rfl, rfl, SqL.of (E5.s _ _ hys0), atI_nat hy0, _, rfl, y, dy, _, rfl, hy, y, x, m5, e.2.1, e.2.2, w2, w1, e.1, mz, false, [(3, 1, 3, false)], rfl, Py5, by omega, ?_, hw2, ⟨[.ref Wa], hw1, .cons ⟨Wa, rfl, hWa2⟩ .nil⟩, fun H6' l6 k6 P6 => ?_⟩
    · rw [eQ, e8]; exact mk
    have E6 := E5.setE hys0 he hy0 l6 k6 P6
    clear E5 py5 hy l6 k6 P6 Py5 hWa2 hw1 hw2 nw1 nw2 sw sw1 sw2 E4 E3 E2 E1
    -- another due one
    obtain ⟨kt, ht6⟩ := E6.pl
    obtain ⟨ds, hds, pds⟩ := id E6.du
    have lds := pair_len' pds
    have hnds : n < ds.length := by rw [lds, ← eL, List.length_map, ← lys]; exact hn
    obtain ⟨vg, hvg⟩ : ∃ v, ds[n]? = some v := ⟨_, List.getElem?_eq_getElem hnds⟩
    obtain ⟨rl0, hrl0, gg, kvg, rfl, hgg, pgg⟩ := pair_get' pds hvg
    rw [hQ] at hrl0
    obtain rfl := Option.some.inj hrl0
    refine ⟨_, rfl, _, rfl, _, _, _, _, rfl, rfl, SqL.of hds, atI_nat hvg, _, rfl, ?_⟩
    refine ⟨by show 4 ≤ sizeLine; decide, fun w1 nw1 => ⟨by show 1 ≤ sizeLine; decide, fun w2 nw2 => ?_⟩⟩
    have sw1 := same_new (o := LwO 3 1 3 false) nw1
    have sw2 := same_new (o := .lst [.ref w1]) nw2
    have hw1 := sw2 _ _ (upd_same (H := H6') (a := w1) (o := LwO 3 1 3 false))
    have hw2 : (upd (upd H6' w1 (LwO 3 1 3 false)) w2 (.lst [.ref w1])) w2 = some (.lst [.ref w1]) := upd_same
    have nw1t : w1 ≠ t := (ne_of_none ht6 nw1).symm
    have nw2t : w2 ≠ t := (ne_of_none (sw1 _ _ ht6) nw2).symm
    have E7 := E6.same (sw1.trans sw2)
    have ht7 := (sw1.trans sw2) _ _ ht6
    revert hw1 hw2 E7 ht7
    generalize upd (upd H6' w1 (LwO 3 1 3 false)) w2 (.lst [.ref w1]) = H7
    intro hw1 hw2 E7 ht7
    have pgt : Paired (RdN t H7) kvg e.1 := L2.Paired.mapP pgg fun _ _ h => rdv_off (h.same E7.s) ht7
    have ndQ : (e.1.map (·.1)).Nodup := by rw [eQ]; exact ndP
    refine ⟨t, gg, w2, mz, false, kvg, e.1, [.ref w1], [(3, 1, 3, false)], rfl, ⟨_, ht7⟩, nw2t, E7.s _ _ hgg, pgt, ndQ, by rw [eQ, e8]; exact mk, by omega, hw2, .cons ⟨w1, rfl, nw1t, hw1, ⟨by decide, by decide, by decide⟩⟩ .nil, by simp, fun g' kv' H8' s8' ng' hg' pg' => ?_⟩
    have E8 := E7.same s8'
    obtain ⟨ds8, hds8, pds8⟩ := id E8.du
    have l8 := pair_len' pds8
    have lLe : (loosR P).length = ys'.length := by rw [← eL, List.length_map, ← lys]
    refine ⟨_, rfl, _, rfl, u, ds8, _, n, rfl, rfl, hds8, by unfold ixN; rw [if_pos (by omega), if_pos (by omega)]; rfl, ?_⟩
    obtain ⟨B', sB, E9⟩ := E8.setU (n := n) hds8 (by omega) hg' (L2.Paired.mapP pg' fun _ _ h => h.v) (fun m => by
      obtain ⟨_, _, ⟨lsq, hqa, hqb, _⟩, _, _⟩ := id E7.pp
      rcases List.mem_append.mp m with m | m
      · simp only [List.mem_cons, List.not_mem_nil, or_false] at m
        rcases m with rfl | rfl
        · rw [hqa] at ng'; cases ng'
        · rw [hqb] at ng'; cases ng'
      · obtain ⟨e9, he9, hc9⟩ := mem_abs m
        obtain ⟨_, hf7, pf7⟩ := E7.fo
        obtain ⟨i9, hi9⟩ := List.getElem?_of_mem he9
        obtain ⟨_, _, _, _, _, P9⟩ := pair_back pf7 hi9
        obtain ⟨_, _, ⟨ls2, ha2, hb2, _⟩, _, _⟩ := id P9
        rcases hc9 with rfl | rfl
        · rw [ha2] at ng'; cases ng'
        · rw [hb2] at ng'; cases ng')
    clear E8 E7 E6 pds pds8 hds hds8 pgt hgg pgg hw1 hw2 sw1 sw2 nw1 nw2 ng' hg' pg' s8'
    revert E9
    generalize upd H8' u (.lst (ds8.set n (.ref g'))) = Hk
    intro E9
    have lL9 : ∀ rl ∈ (loosR P).set n (setR e.1 (mz, false, [(3, 1, 3, false)])), rl.length ≤ 100 := fun rl m => by
      rcases List.mem_or_eq_of_mem_set m with m | rfl
      · exact lL rl m
      · unfold setR; rw [List.length_map]; omega
    obtain ⟨us9, hus9, pus9⟩ := E9.dues lL9
    obtain ⟨ys9, hys9, pys9⟩ := E9.fo
    refine ⟨_, rfl, _, rfl, _, rfl, F, x, u, ys9, us9, _, rs, _, rfl, E9.s _ _ hys9, hus9, E9.sh.same E9.s, wo, pys9, pus9, by rw [List.map_set, eL], by rw [List.length_set]; exact lLL, fun Hl sl => ⟨_, rfl, ?_⟩⟩
    have Ea := E9.same sl
    obtain ⟨kva, hGa, pGa, nGa⟩ := Ea.rules
    refine ⟨_, rfl, _, rfl, p, x, pm, pa, pb, G, kva, P, rfl, Ea.pp, hGa, pGa, nGa, by omega, fun Hm sm => ⟨_, rfl, iteNo rfl ?_⟩⟩
    have Eb := Ea.same sm
    obtain ⟨kvb, hGb, pGb, nGb⟩ := Eb.rules
    -- one of the looser rules
    refine ⟨_, rfl, G, kvb, P, rfl, hGb, pGb, ndP, by omega, (fun r hr => by have := w8 r hr; omega), fun u2 us2 Hn sn nu2 hu2 pu2 => ?_⟩
    have lu2 := pair_len' pu2
    obtain ⟨vl, hvl⟩ : ∃ v, us2[n]? = some v := ⟨_, List.getElem?_eq_getElem (by omega)⟩
    obtain ⟨rl2, hrl2, gl, kvl, rfl, _, hgl, pgl⟩ := pair_get' pu2 hvl
    rw [hQ] at hrl2
    obtain rfl := Option.some.inj hrl2
    refine ⟨_, rfl, _, _, _, _, rfl, rfl, SqL.of hu2, atI_nat hvl, ?_⟩
    have Ec := Eb.same sn
    have ngl := pol_dict Ec.pp hgl (L2.Paired.mapP pgl fun _ _ h => h.v) (fun z => by rw [z] at lQ; simp only [List.length_nil] at lQ; omega)
    refine ⟨_, rfl, _, rfl, p, x, pm, pa, pb, gl, kvl, e.1, P, rfl, Ec.pp, hgl, L2.Paired.mapP pgl fun _ _ h => h.v, eQ, ngl, by omega, fun Ho lo ko Po => ?_⟩
    -- the looser ones of the looser one
    obtain ⟨_, _, ⟨lsq, hqa, hqb, _⟩, _, _⟩ := id Ec.pp
    have sBo : Same _ Ho := fun a o h => lo a o (fun m => by
      simp only [List.mem_cons, List.not_mem_nil, or_false] at m
      rcases m with rfl | rfl
      · rw [Ec.nX a (by simp)] at h; cases h
      · rw [Ec.nX a (by simp)] at h; cases h) (Ec.s a o h)
    have hglo : Ho gl = some (.dK kvl) := lo _ _ (fun m => by
      simp only [List.mem_cons, List.not_mem_nil, or_false] at m
      exact m.elim ngl.1 ngl.2) hgl
    have pglo : Paired (RdN u2 Ho) kvl e.1 := L2.Paired.mapP pgl fun _ _ h => h.keep fun a xs n h => lo _ _ (fun m => by
      simp only [List.mem_cons, List.not_mem_nil, or_false] at m
      rcases m with rfl | rfl
      · rw [hqa] at h; cases h
      · rw [hqb] at h; cases h) h
    have She := Ec.sh.same sBo
    refine ⟨_, rfl, p, x, pm, pa, pb, e.1, rs, rfl, Po, She, by rw [eQ, e8], by omega, okQ, fun ys2 es2 Hp sp op F2 nF2 => ?_⟩
    have sF := same_new (o := .lst ys2) nF2
    have hF2 : (upd Hp F2 (.lst ys2)) F2 = some (.lst ys2) := upd_same
    revert sF hF2
    generalize upd Hp F2 (.lst ys2) = Hq
    intro sF hF2
    have soq := sp.trans sF
    refine ⟨_, rfl, _, rfl, gl, kvl, e.1, rfl, soq _ _ hglo, L2.Paired.mapP pglo fun _ _ h => h.v.same soq, by rw [eQ]; exact ndP, by omega, (fun r hr => (okQ r hr).2), fun u3 us3 Hr sr nu3 hu3 pu3 => ?_⟩
    have sor := soq.trans sr
    have opr := (op.same sF).same sr
    refine ⟨F2, x, u3, ys2, us3, es2, rs, loosR e.1, rfl, sr _ _ hF2, hu3, She.same sor, wo, opr.pr, pair_memG pu3 fun v rl m h => ?_, opr.eq, ?_, fun Hs ss => ⟨_, rfl, iteT ⟨_, rfl, _, rfl, p, x, pm, pa, pb, gl, kvl, e.1, rfl, Po.same (sor.trans ss), (sor.trans ss) _ _ hglo, L2.Paired.mapP pglo fun _ _ h => h.v.same (sor.trans ss), ngl, by omega, fun H' _ => qq H'⟩⟩⟩
    · obtain ⟨gg, kvs, ev, _, hg, pk⟩ := h
      have lrl := loos_wide okQ m
      have pkv : Paired (RdV Hr) kvs rl := L2.Paired.mapP pk fun _ _ h => h.v
      refine ⟨gg, kvs, ev, hg, pkv, by omega, fun mg => ?_⟩
      obtain ⟨e2, he2, hc⟩ := mem_abs mg
      obtain ⟨i2, hi2⟩ := List.getElem?_of_mem he2
      obtain ⟨_, _, _, _, _, P2⟩ := pair_back opr.pr hi2
      have ng := pol_dict P2 hg pkv (fun z => by rw [z] at lrl; simp only [List.length_nil] at lrl; omega)
      exact hc.elim ng.1 ng.2
    · have := loos_len (P := e.1) (n := e.1.length) fun r h => (okQ r h).2
      rw [List.take_length] at this
      unfold loosR
      omega
end
end My

namespace My
open PySem L2
theorem all_mk {w : World} {K : PySem.W.Frag} {h : Heap} {mg : Str → Option Value} {fa : Addr} (X : K.In h) (G : h.Ns mainGlobals mg) (hfa : mg "law" = some (.ref fa))
    {c_Way : Addr}
    {c_Policy : Addr}
    {c_Shape : Addr}
    {f_rank : Addr} {od_rank an_rank : Option Addr} {sl_rank : Array (Option Value)} {oc_rank kV_rank dc_rank pm_rank cd_rank ct_rank : Value}
    {f_Way_init : Addr} {od_Way_init an_Way_init : Option Addr} {sl_Way_init : Array (Option Value)} {oc_Way_init dc_Way_init pm_Way_init cd_Way_init ct_Way_init : Value}
    {dt_Way_init : Addr} {odt_Way_init : Option Addr} {cdt_Way_init : Value} {ndt_Way_init : Nat} {sdt_Way_init : Array (Option Value)} {tt_Way_init_0 : Tok} {tt_Way_init_1 : Tok} {tt_Way_init_2 : Tok}
    {kd_Way_init : Addr} 
    {f_Way_lowered : Addr} {od_Way_lowered an_Way_lowered : Option Addr} {sl_Way_lowered : Array (Option Value)} {oc_Way_lowered kV_Way_lowered dc_Way_lowered pm_Way_lowered cd_Way_lowered ct_Way_lowered : Value}
    {f_Way_eq : Addr} {od_Way_eq an_Way_eq : Option Addr} {sl_Way_eq : Array (Option Value)} {oc_Way_eq kV_Way_eq dc_Way_eq pm_Way_eq cd_Way_eq ct_Way_eq : Value}
    {f_changed : Addr} {od_changed an_changed : Option Addr} {sl_changed : Array (Option Value)} {oc_changed kV_changed dc_changed pm_changed cd_changed ct_changed : Value}
    {f_with_way : Addr} {od_with_way an_with_way : Option Addr} {sl_with_way : Array (Option Value)} {oc_with_way kV_with_way dc_with_way pm_with_way cd_with_way ct_with_way : Value}
    {f_loosenings : Addr} {od_loosenings an_loosenings : Option Addr} {sl_loosenings : Array (Option Value)} {oc_loosenings kV_loosenings dc_loosenings pm_loosenings cd_loosenings ct_loosenings : Value}
    {f_Policy_init : Addr} {od_Policy_init an_Policy_init : Option Addr} {sl_Policy_init : Array (Option Value)} {oc_Policy_init dc_Policy_init pm_Policy_init cd_Policy_init ct_Policy_init : Value}
    {kV_Policy_init : Value}
    {dt_Policy_init : Addr} {odt_Policy_init : Option Addr} {cdt_Policy_init : Value} {ndt_Policy_init : Nat} {sdt_Policy_init : Array (Option Value)} {ed_Policy_init_0 : Addr}
    {oe_Policy_init_0 : Option Addr} {ne_Policy_init_0 : Nat} {se_Policy_init_0 : Array (Option Value)}
    {f_Policy_iter : Addr} {od_Policy_iter an_Policy_iter : Option Addr} {sl_Policy_iter : Array (Option Value)} {oc_Policy_iter kV_Policy_iter dc_Policy_iter pm_Policy_iter cd_Policy_iter ct_Policy_iter : Value}
    {f_Policy_len : Addr} {od_Policy_len an_Policy_len : Option Addr} {sl_Policy_len : Array (Option Value)} {oc_Policy_len kV_Policy_len dc_Policy_len pm_Policy_len cd_Policy_len ct_Policy_len : Value}
    {f_Policy_getitem : Addr} {od_Policy_getitem an_Policy_getitem : Option Addr} {sl_Policy_getitem : Array (Option Value)} {oc_Policy_getitem kV_Policy_getitem dc_Policy_getitem pm_Policy_getitem cd_Policy_getitem ct_Policy_getitem : Value}
    {f_Policy_setitem : Addr} {od_Policy_setitem an_Policy_setitem : Option Addr} {sl_Policy_setitem : Array (Option Value)} {oc_Policy_setitem kV_Policy_setitem dc_Policy_setitem pm_Policy_setitem cd_Policy_setitem ct_Policy_setitem : Value}
    {f_Policy_copy : Addr} {od_Policy_copy an_Policy_copy : Option Addr} {sl_Policy_copy : Array (Option Value)} {oc_Policy_copy kV_Policy_copy dc_Policy_copy pm_Policy_copy cd_Policy_copy ct_Policy_copy : Value}
    {f_is_mark : Addr} {od_is_mark an_is_mark : Option Addr} {sl_is_mark : Array (Option Value)} {oc_is_mark kV_is_mark dc_is_mark pm_is_mark cd_is_mark ct_is_mark : Value}
    {f_sound_row : Addr} {od_sound_row an_sound_row : Option Addr} {sl_sound_row : Array (Option Value)} {oc_sound_row kV_sound_row dc_sound_row pm_sound_row cd_sound_row ct_sound_row : Value}
    {f_barren : Addr} {od_barren an_barren : Option Addr} {sl_barren : Array (Option Value)} {oc_barren kV_barren dc_barren pm_barren cd_barren ct_barren : Value}
    {f_Shape_init : Addr} {od_Shape_init an_Shape_init : Option Addr} {sl_Shape_init : Array (Option Value)} {oc_Shape_init kV_Shape_init dc_Shape_init pm_Shape_init cd_Shape_init ct_Shape_init : Value}
    {f_Shape_iter : Addr} {od_Shape_iter an_Shape_iter : Option Addr} {sl_Shape_iter : Array (Option Value)} {oc_Shape_iter kV_Shape_iter dc_Shape_iter pm_Shape_iter cd_Shape_iter ct_Shape_iter : Value}
    {f_Shape_len : Addr} {od_Shape_len an_Shape_len : Option Addr} {sl_Shape_len : Array (Option Value)} {oc_Shape_len kV_Shape_len dc_Shape_len pm_Shape_len cd_Shape_len ct_Shape_len : Value}
    {f_Shape_eq : Addr} {od_Shape_eq an_Shape_eq : Option Addr} {sl_Shape_eq : Array (Option Value)} {oc_Shape_eq kV_Shape_eq dc_Shape_eq pm_Shape_eq cd_Shape_eq ct_Shape_eq : Value}
    {f__law_draws : Addr} {od__law_draws an__law_draws : Option Addr} {sl__law_draws : Array (Option Value)} {oc__law_draws kV__law_draws dc__law_draws pm__law_draws cd__law_draws ct__law_draws : Value}
    {f__law_take : Addr} {od__law_take an__law_take : Option Addr} {sl__law_take : Array (Option Value)} {oc__law_take kV__law_take dc__law_take pm__law_take cd__law_take ct__law_take : Value}
    {f__law_same : Addr} {od__law_same an__law_same : Option Addr} {sl__law_same : Array (Option Value)} {oc__law_same kV__law_same dc__law_same pm__law_same cd__law_same ct__law_same : Value}
    {f__law_marks : Addr} {od__law_marks an__law_marks : Option Addr} {sl__law_marks : Array (Option Value)} {oc__law_marks kV__law_marks dc__law_marks pm__law_marks cd__law_marks ct__law_marks : Value}
    {f__law_rows : Addr} {od__law_rows an__law_rows : Option Addr} {sl__law_rows : Array (Option Value)} {oc__law_rows kV__law_rows dc__law_rows pm__law_rows cd__law_rows ct__law_rows : Value}
    {f__law_way : Addr} {od__law_way an__law_way : Option Addr} {sl__law_way : Array (Option Value)} {oc__law_way kV__law_way dc__law_way pm__law_way cd__law_way ct__law_way : Value}
    {f__law_rules : Addr} {od__law_rules an__law_rules : Option Addr} {sl__law_rules : Array (Option Value)} {oc__law_rules kV__law_rules dc__law_rules pm__law_rules cd__law_rules ct__law_rules : Value}
    {f__law_shape : Addr} {od__law_shape an__law_shape : Option Addr} {sl__law_shape : Array (Option Value)} {oc__law_shape kV__law_shape dc__law_shape pm__law_shape cd__law_shape ct__law_shape : Value}
    {f__law_way_made : Addr} {od__law_way_made an__law_way_made : Option Addr} {sl__law_way_made : Array (Option Value)} {oc__law_way_made kV__law_way_made dc__law_way_made pm__law_way_made cd__law_way_made ct__law_way_made : Value}
    {f__law_policy : Addr} {od__law_policy an__law_policy : Option Addr} {sl__law_policy : Array (Option Value)} {oc__law_policy kV__law_policy dc__law_policy pm__law_policy cd__law_policy ct__law_policy : Value}
    {f__law_reads : Addr} {od__law_reads an__law_reads : Option Addr} {sl__law_reads : Array (Option Value)} {oc__law_reads kV__law_reads dc__law_reads pm__law_reads cd__law_reads ct__law_reads : Value}
    {f__law_lowered : Addr} {od__law_lowered an__law_lowered : Option Addr} {sl__law_lowered : Array (Option Value)} {oc__law_lowered kV__law_lowered dc__law_lowered pm__law_lowered cd__law_lowered ct__law_lowered : Value}
    {f__law_with : Addr} {od__law_with an__law_with : Option Addr} {sl__law_with : Array (Option Value)} {oc__law_with kV__law_with dc__law_with pm__law_with cd__law_with ct__law_with : Value}
    {f__law_looser_rules : Addr} {od__law_looser_rules an__law_looser_rules : Option Addr} {sl__law_looser_rules : Array (Option Value)} {oc__law_looser_rules kV__law_looser_rules dc__law_looser_rules pm__law_looser_rules cd__law_looser_rules ct__law_looser_rules : Value}
    {f__law_set : Addr} {od__law_set an__law_set : Option Addr} {sl__law_set : Array (Option Value)} {oc__law_set kV__law_set dc__law_set pm__law_set cd__law_set ct__law_set : Value}
    {f__law_good : Addr} {od__law_good an__law_good : Option Addr} {sl__law_good : Array (Option Value)} {oc__law_good kV__law_good dc__law_good pm__law_good cd__law_good ct__law_good : Value}
    {f_law : Addr} {od_law an_law : Option Addr} {sl_law : Array (Option Value)} {oc_law kV_law dc_law pm_law cd_law ct_law : Value}
    {tq_UNLIMITED : Tok}
    {q_LEVELS : Addr} {oq_LEVELS : Option Addr} {nq_LEVELS : Nat} {slq_LEVELS : Array (Option Value)} {t_LEVELS_0 : Tok} {t_LEVELS_1 : Tok} {t_LEVELS_2 : Tok} {t_LEVELS_3 : Tok}
    {tq_LETTERS : Tok}
    {q_MODES : Addr} {oq_MODES : Option Addr} {nq_MODES : Nat} {slq_MODES : Array (Option Value)} {t_MODES_0 : Tok} {t_MODES_1 : Tok}
    {q_Way_PARTS : Addr} {oq_Way_PARTS : Option Addr} {nq_Way_PARTS : Nat} {slq_Way_PARTS : Array (Option Value)} {t_Way_PARTS_0 : Tok} {t_Way_PARTS_1 : Tok} {t_Way_PARTS_2 : Tok} {t_Way_PARTS_3 : Tok}
    {ti_Shape_MARKS : Tok}
    {ti_Shape_PARENTS : Tok}
    {c_BadShape : Addr}
    {c_UnknownMark : Addr}
    {c_TooLarge : Addr}
    {c_BadLevel : Addr}
    {nm_BadShape q_BadShape : Str} {N_BadShape : Addr} {bs_BadShape : List Value} {sn_BadShape : List Str} {sub_BadShape : List Value} {ab_BadShape : Bool} {col_BadShape : Option Bool} {dd_BadShape : Option Addr} {m0_BadShape m1_BadShape m2_BadShape m3_BadShape m5_BadShape : Option Value}
    {f_BadShape cda_BadShape cc_BadShape : Addr} {od_BadShape an_BadShape cld_BadShape cdd_BadShape : Option Addr} {osl_BadShape csl_BadShape ccs_BadShape : Array (Option Value)} {oc_BadShape kV_BadShape dc_BadShape pm_BadShape ct_BadShape cl_BadShape ccl_BadShape : Value} {vs_BadShape : Array Value} {file_BadShape : Str} {tf_BadShape : Tok}
    {nm_UnknownMark q_UnknownMark : Str} {N_UnknownMark : Addr} {bs_UnknownMark : List Value} {sn_UnknownMark : List Str} {sub_UnknownMark : List Value} {ab_UnknownMark : Bool} {col_UnknownMark : Option Bool} {dd_UnknownMark : Option Addr} {m0_UnknownMark m1_UnknownMark m2_UnknownMark m3_UnknownMark m5_UnknownMark : Option Value}
    {f_UnknownMark cda_UnknownMark cc_UnknownMark : Addr} {od_UnknownMark an_UnknownMark cld_UnknownMark cdd_UnknownMark : Option Addr} {osl_UnknownMark csl_UnknownMark ccs_UnknownMark : Array (Option Value)} {oc_UnknownMark kV_UnknownMark dc_UnknownMark pm_UnknownMark ct_UnknownMark cl_UnknownMark ccl_UnknownMark : Value} {vs_UnknownMark : Array Value} {file_UnknownMark : Str} {tf_UnknownMark : Tok}
    {nm_TooLarge q_TooLarge : Str} {N_TooLarge : Addr} {bs_TooLarge : List Value} {sn_TooLarge : List Str} {sub_TooLarge : List Value} {ab_TooLarge : Bool} {col_TooLarge : Option Bool} {dd_TooLarge : Option Addr} {m0_TooLarge m1_TooLarge m2_TooLarge m3_TooLarge m5_TooLarge : Option Value}
    {f_TooLarge cda_TooLarge cc_TooLarge : Addr} {od_TooLarge an_TooLarge cld_TooLarge cdd_TooLarge : Option Addr} {osl_TooLarge csl_TooLarge ccs_TooLarge : Array (Option Value)} {oc_TooLarge kV_TooLarge dc_TooLarge pm_TooLarge ct_TooLarge cl_TooLarge ccl_TooLarge : Value} {vs_TooLarge : Array Value} {file_TooLarge : Str} {tf_TooLarge : Tok}
    {nm_BadLevel q_BadLevel : Str} {N_BadLevel : Addr} {bs_BadLevel : List Value} {sn_BadLevel : List Str} {sub_BadLevel : List Value} {ab_BadLevel : Bool} {col_BadLevel : Option Bool} {dd_BadLevel : Option Addr} {m0_BadLevel m1_BadLevel m2_BadLevel m3_BadLevel m5_BadLevel : Option Value}
    {f_BadLevel cda_BadLevel cc_BadLevel : Addr} {od_BadLevel an_BadLevel cld_BadLevel cdd_BadLevel : Option Addr} {osl_BadLevel csl_BadLevel ccs_BadLevel : Array (Option Value)} {oc_BadLevel kV_BadLevel dc_BadLevel pm_BadLevel ct_BadLevel cl_BadLevel ccl_BadLevel : Value} {vs_BadLevel : Array Value} {file_BadLevel : Str} {tf_BadLevel : Tok}
    (gc_Way : PySem.W.nsIn K mainGlobals "Way" = some (some (.ref c_Way)))
    (gc_Policy : PySem.W.nsIn K mainGlobals "Policy" = some (some (.ref c_Policy)))
    (gc_Shape : PySem.W.nsIn K mainGlobals "Shape" = some (some (.ref c_Shape)))
    (a_rank : PySem.W.nsIn K mainGlobals "rank" = some (some (.ref f_rank)))
    (l_rank : K.lookup f_rank = some ⟨oc_rank, od_rank, .func (PySem.W.fnOf "rank" "rank" (defArgs S_rank) (defBody S_rank) (defScope S_rank) .none kV_rank dc_rank pm_rank an_rank cd_rank ct_rank), sl_rank⟩)
    (c_rank : PySem.W.codeIn K cd_rank "rank" = true)
    (k_rank : PySem.W.keepIn K (.ref f_rank) = true)
    (a_Way_init : PySem.W.findIn K (.ref c_Way) "__init__" = some (some (.ref f_Way_init)))
    (l_Way_init : K.lookup f_Way_init = some ⟨oc_Way_init, od_Way_init, .func (PySem.W.fnOf "__init__" "Way.__init__" (defArgs S_Way_init) (defBody S_Way_init) (defScope S_Way_init) (.ref dt_Way_init) (.ref kd_Way_init) dc_Way_init pm_Way_init an_Way_init cd_Way_init ct_Way_init), sl_Way_init⟩)
    (c_Way_init : PySem.W.codeIn K cd_Way_init "Way.__init__" = true)
    (k_Way_init : PySem.W.keepIn K (.ref f_Way_init) = true)
    (lt_Way_init : K.lookup dt_Way_init = some ⟨cdt_Way_init, odt_Way_init, .seq #[.str "none" tt_Way_init_0, .str "none" tt_Way_init_1, .str "none" tt_Way_init_2] ndt_Way_init, sdt_Way_init⟩)
    (nk_Way_init_early : PySem.W.nsIn K kd_Way_init "early" = some (some (.bool false)))
    (a_Way_lowered : PySem.W.findIn K (.ref c_Way) "lowered" = some (some (.ref f_Way_lowered)))
    (l_Way_lowered : K.lookup f_Way_lowered = some ⟨oc_Way_lowered, od_Way_lowered, .func (PySem.W.fnOf "lowered" "Way.lowered" (defArgs S_Way_lowered) (defBody S_Way_lowered) (defScope S_Way_lowered) .none kV_Way_lowered dc_Way_lowered pm_Way_lowered an_Way_lowered cd_Way_lowered ct_Way_lowered), sl_Way_lowered⟩)
    (c_Way_lowered : PySem.W.codeIn K cd_Way_lowered "Way.lowered" = true)
    (k_Way_lowered : PySem.W.keepIn K (.ref f_Way_lowered) = true)
    (a_Way_eq : PySem.W.findIn K (.ref c_Way) "__eq__" = some (some (.ref f_Way_eq)))
    (l_Way_eq : K.lookup f_Way_eq = some ⟨oc_Way_eq, od_Way_eq, .func (PySem.W.fnOf "__eq__" "Way.__eq__" (defArgs S_Way_eq) (defBody S_Way_eq) (defScope S_Way_eq) .none kV_Way_eq dc_Way_eq pm_Way_eq an_Way_eq cd_Way_eq ct_Way_eq), sl_Way_eq⟩)
    (c_Way_eq : PySem.W.codeIn K cd_Way_eq "Way.__eq__" = true)
    (k_Way_eq : PySem.W.keepIn K (.ref f_Way_eq) = true)
    (a_changed : PySem.W.nsIn K mainGlobals "changed" = some (some (.ref f_changed)))
    (l_changed : K.lookup f_changed = some ⟨oc_changed, od_changed, .func (PySem.W.fnOf "changed" "changed" (defArgs S_changed) (defBody S_changed) (defScope S_changed) .none kV_changed dc_changed pm_changed an_changed cd_changed ct_changed), sl_changed⟩)
    (c_changed : PySem.W.codeIn K cd_changed "changed" = true)
    (k_changed : PySem.W.keepIn K (.ref f_changed) = true)
    (a_with_way : PySem.W.nsIn K mainGlobals "with_way" = some (some (.ref f_with_way)))
    (l_with_way : K.lookup f_with_way = some ⟨oc_with_way, od_with_way, .func (PySem.W.fnOf "with_way" "with_way" (defArgs S_with_way) (defBody S_with_way) (defScope S_with_way) .none kV_with_way dc_with_way pm_with_way an_with_way cd_with_way ct_with_way), sl_with_way⟩)
    (c_with_way : PySem.W.codeIn K cd_with_way "with_way" = true)
    (k_with_way : PySem.W.keepIn K (.ref f_with_way) = true)
    (a_loosenings : PySem.W.nsIn K mainGlobals "loosenings" = some (some (.ref f_loosenings)))
    (l_loosenings : K.lookup f_loosenings = some ⟨oc_loosenings, od_loosenings, .func (PySem.W.fnOf "loosenings" "loosenings" (defArgs S_loosenings) (defBody S_loosenings) (defScope S_loosenings) .none kV_loosenings dc_loosenings pm_loosenings an_loosenings cd_loosenings ct_loosenings), sl_loosenings⟩)
    (c_loosenings : PySem.W.codeIn K cd_loosenings "loosenings" = true)
    (k_loosenings : PySem.W.keepIn K (.ref f_loosenings) = true)
    (a_Policy_init : PySem.W.findIn K (.ref c_Policy) "__init__" = some (some (.ref f_Policy_init)))
    (l_Policy_init : K.lookup f_Policy_init = some ⟨oc_Policy_init, od_Policy_init, .func (PySem.W.fnOf "__init__" "Policy.__init__" (defArgs S_Policy_init) (defBody S_Policy_init) (defScope S_Policy_init) (.ref dt_Policy_init) kV_Policy_init dc_Policy_init pm_Policy_init an_Policy_init cd_Policy_init ct_Policy_init), sl_Policy_init⟩)
    (c_Policy_init : PySem.W.codeIn K cd_Policy_init "Policy.__init__" = true)
    (k_Policy_init : PySem.W.keepIn K (.ref f_Policy_init) = true)
    (lt_Policy_init : K.lookup dt_Policy_init = some ⟨cdt_Policy_init, odt_Policy_init, .seq #[.ref ed_Policy_init_0] ndt_Policy_init, sdt_Policy_init⟩)
    (le_Policy_init_0 : K.lookup ed_Policy_init_0 = some ⟨.type "tuple", oe_Policy_init_0, .seq #[] ne_Policy_init_0, se_Policy_init_0⟩)
    (a_Policy_iter : PySem.W.findIn K (.ref c_Policy) "__iter__" = some (some (.ref f_Policy_iter)))
    (l_Policy_iter : K.lookup f_Policy_iter = some ⟨oc_Policy_iter, od_Policy_iter, .func (PySem.W.fnOf "__iter__" "Policy.__iter__" (defArgs S_Policy_iter) (defBody S_Policy_iter) (defScope S_Policy_iter) .none kV_Policy_iter dc_Policy_iter pm_Policy_iter an_Policy_iter cd_Policy_iter ct_Policy_iter), sl_Policy_iter⟩)
    (c_Policy_iter : PySem.W.codeIn K cd_Policy_iter "Policy.__iter__" = true)
    (k_Policy_iter : PySem.W.keepIn K (.ref f_Policy_iter) = true)
    (a_Policy_len : PySem.W.findIn K (.ref c_Policy) "__len__" = some (some (.ref f_Policy_len)))
    (l_Policy_len : K.lookup f_Policy_len = some ⟨oc_Policy_len, od_Policy_len, .func (PySem.W.fnOf "__len__" "Policy.__len__" (defArgs S_Policy_len) (defBody S_Policy_len) (defScope S_Policy_len) .none kV_Policy_len dc_Policy_len pm_Policy_len an_Policy_len cd_Policy_len ct_Policy_len), sl_Policy_len⟩)
    (c_Policy_len : PySem.W.codeIn K cd_Policy_len "Policy.__len__" = true)
    (k_Policy_len : PySem.W.keepIn K (.ref f_Policy_len) = true)
    (a_Policy_getitem : PySem.W.findIn K (.ref c_Policy) "__getitem__" = some (some (.ref f_Policy_getitem)))
    (l_Policy_getitem : K.lookup f_Policy_getitem = some ⟨oc_Policy_getitem, od_Policy_getitem, .func (PySem.W.fnOf "__getitem__" "Policy.__getitem__" (defArgs S_Policy_getitem) (defBody S_Policy_getitem) (defScope S_Policy_getitem) .none kV_Policy_getitem dc_Policy_getitem pm_Policy_getitem an_Policy_getitem cd_Policy_getitem ct_Policy_getitem), sl_Policy_getitem⟩)
    (c_Policy_getitem : PySem.W.codeIn K cd_Policy_getitem "Policy.__getitem__" = true)
    (k_Policy_getitem : PySem.W.keepIn K (.ref f_Policy_getitem) = true)
    (a_Policy_setitem : PySem.W.findIn K (.ref c_Policy) "__setitem__" = some (some (.ref f_Policy_setitem)))
    (l_Policy_setitem : K.lookup f_Policy_setitem = some ⟨oc_Policy_setitem, od_Policy_setitem, .func (PySem.W.fnOf "__setitem__" "Policy.__setitem__" (defArgs S_Policy_setitem) (defBody S_Policy_setitem) (defScope S_Policy_setitem) .none kV_Policy_setitem dc_Policy_setitem pm_Policy_setitem an_Policy_setitem cd_Policy_setitem ct_Policy_setitem), sl_Policy_setitem⟩)
    (c_Policy_setitem : PySem.W.codeIn K cd_Policy_setitem "Policy.__setitem__" = true)
    (k_Policy_setitem : PySem.W.keepIn K (.ref f_Policy_setitem) = true)
    (a_Policy_copy : PySem.W.findIn K (.ref c_Policy) "copy" = some (some (.ref f_Policy_copy)))
    (l_Policy_copy : K.lookup f_Policy_copy = some ⟨oc_Policy_copy, od_Policy_copy, .func (PySem.W.fnOf "copy" "Policy.copy" (defArgs S_Policy_copy) (defBody S_Policy_copy) (defScope S_Policy_copy) .none kV_Policy_copy dc_Policy_copy pm_Policy_copy an_Policy_copy cd_Policy_copy ct_Policy_copy), sl_Policy_copy⟩)
    (c_Policy_copy : PySem.W.codeIn K cd_Policy_copy "Policy.copy" = true)
    (k_Policy_copy : PySem.W.keepIn K (.ref f_Policy_copy) = true)
    (a_is_mark : PySem.W.nsIn K mainGlobals "is_mark" = some (some (.ref f_is_mark)))
    (l_is_mark : K.lookup f_is_mark = some ⟨oc_is_mark, od_is_mark, .func (PySem.W.fnOf "is_mark" "is_mark" (defArgs S_is_mark) (defBody S_is_mark) (defScope S_is_mark) .none kV_is_mark dc_is_mark pm_is_mark an_is_mark cd_is_mark ct_is_mark), sl_is_mark⟩)
    (c_is_mark : PySem.W.codeIn K cd_is_mark "is_mark" = true)
    (k_is_mark : PySem.W.keepIn K (.ref f_is_mark) = true)
    (a_sound_row : PySem.W.nsIn K mainGlobals "sound_row" = some (some (.ref f_sound_row)))
    (l_sound_row : K.lookup f_sound_row = some ⟨oc_sound_row, od_sound_row, .func (PySem.W.fnOf "sound_row" "sound_row" (defArgs S_sound_row) (defBody S_sound_row) (defScope S_sound_row) .none kV_sound_row dc_sound_row pm_sound_row an_sound_row cd_sound_row ct_sound_row), sl_sound_row⟩)
    (c_sound_row : PySem.W.codeIn K cd_sound_row "sound_row" = true)
    (k_sound_row : PySem.W.keepIn K (.ref f_sound_row) = true)
    (a_barren : PySem.W.nsIn K mainGlobals "barren" = some (some (.ref f_barren)))
    (l_barren : K.lookup f_barren = some ⟨oc_barren, od_barren, .func (PySem.W.fnOf "barren" "barren" (defArgs S_barren) (defBody S_barren) (defScope S_barren) .none kV_barren dc_barren pm_barren an_barren cd_barren ct_barren), sl_barren⟩)
    (c_barren : PySem.W.codeIn K cd_barren "barren" = true)
    (k_barren : PySem.W.keepIn K (.ref f_barren) = true)
    (a_Shape_init : PySem.W.findIn K (.ref c_Shape) "__init__" = some (some (.ref f_Shape_init)))
    (l_Shape_init : K.lookup f_Shape_init = some ⟨oc_Shape_init, od_Shape_init, .func (PySem.W.fnOf "__init__" "Shape.__init__" (defArgs S_Shape_init) (defBody S_Shape_init) (defScope S_Shape_init) .none kV_Shape_init dc_Shape_init pm_Shape_init an_Shape_init cd_Shape_init ct_Shape_init), sl_Shape_init⟩)
    (c_Shape_init : PySem.W.codeIn K cd_Shape_init "Shape.__init__" = true)
    (k_Shape_init : PySem.W.keepIn K (.ref f_Shape_init) = true)
    (a_Shape_iter : PySem.W.findIn K (.ref c_Shape) "__iter__" = some (some (.ref f_Shape_iter)))
    (l_Shape_iter : K.lookup f_Shape_iter = some ⟨oc_Shape_iter, od_Shape_iter, .func (PySem.W.fnOf "__iter__" "Shape.__iter__" (defArgs S_Shape_iter) (defBody S_Shape_iter) (defScope S_Shape_iter) .none kV_Shape_iter dc_Shape_iter pm_Shape_iter an_Shape_iter cd_Shape_iter ct_Shape_iter), sl_Shape_iter⟩)
    (c_Shape_iter : PySem.W.codeIn K cd_Shape_iter "Shape.__iter__" = true)
    (k_Shape_iter : PySem.W.keepIn K (.ref f_Shape_iter) = true)
    (a_Shape_len : PySem.W.findIn K (.ref c_Shape) "__len__" = some (some (.ref f_Shape_len)))
    (l_Shape_len : K.lookup f_Shape_len = some ⟨oc_Shape_len, od_Shape_len, .func (PySem.W.fnOf "__len__" "Shape.__len__" (defArgs S_Shape_len) (defBody S_Shape_len) (defScope S_Shape_len) .none kV_Shape_len dc_Shape_len pm_Shape_len an_Shape_len cd_Shape_len ct_Shape_len), sl_Shape_len⟩)
    (c_Shape_len : PySem.W.codeIn K cd_Shape_len "Shape.__len__" = true)
    (k_Shape_len : PySem.W.keepIn K (.ref f_Shape_len) = true)
    (a_Shape_eq : PySem.W.findIn K (.ref c_Shape) "__eq__" = some (some (.ref f_Shape_eq)))
    (l_Shape_eq : K.lookup f_Shape_eq = some ⟨oc_Shape_eq, od_Shape_eq, .func (PySem.W.fnOf "__eq__" "Shape.__eq__" (defArgs S_Shape_eq) (defBody S_Shape_eq) (defScope S_Shape_eq) .none kV_Shape_eq dc_Shape_eq pm_Shape_eq an_Shape_eq cd_Shape_eq ct_Shape_eq), sl_Shape_eq⟩)
    (c_Shape_eq : PySem.W.codeIn K cd_Shape_eq "Shape.__eq__" = true)
    (k_Shape_eq : PySem.W.keepIn K (.ref f_Shape_eq) = true)
    (a__law_draws : PySem.W.nsIn K mainGlobals "_law_draws" = some (some (.ref f__law_draws)))
    (l__law_draws : K.lookup f__law_draws = some ⟨oc__law_draws, od__law_draws, .func (PySem.W.fnOf "_law_draws" "_law_draws" (defArgs S__law_draws) (defBody S__law_draws) (defScope S__law_draws) .none kV__law_draws dc__law_draws pm__law_draws an__law_draws cd__law_draws ct__law_draws), sl__law_draws⟩)
    (c__law_draws : PySem.W.codeIn K cd__law_draws "_law_draws" = true)
    (k__law_draws : PySem.W.keepIn K (.ref f__law_draws) = true)
    (a__law_take : PySem.W.nsIn K mainGlobals "_law_take" = some (some (.ref f__law_take)))
    (l__law_take : K.lookup f__law_take = some ⟨oc__law_take, od__law_take, .func (PySem.W.fnOf "_law_take" "_law_take" (defArgs S__law_take) (defBody S__law_take) (defScope S__law_take) .none kV__law_take dc__law_take pm__law_take an__law_take cd__law_take ct__law_take), sl__law_take⟩)
    (c__law_take : PySem.W.codeIn K cd__law_take "_law_take" = true)
    (k__law_take : PySem.W.keepIn K (.ref f__law_take) = true)
    (a__law_same : PySem.W.nsIn K mainGlobals "_law_same" = some (some (.ref f__law_same)))
    (l__law_same : K.lookup f__law_same = some ⟨oc__law_same, od__law_same, .func (PySem.W.fnOf "_law_same" "_law_same" (defArgs S__law_same) (defBody S__law_same) (defScope S__law_same) .none kV__law_same dc__law_same pm__law_same an__law_same cd__law_same ct__law_same), sl__law_same⟩)
    (c__law_same : PySem.W.codeIn K cd__law_same "_law_same" = true)
    (k__law_same : PySem.W.keepIn K (.ref f__law_same) = true)
    (a__law_marks : PySem.W.nsIn K mainGlobals "_law_marks" = some (some (.ref f__law_marks)))
    (l__law_marks : K.lookup f__law_marks = some ⟨oc__law_marks, od__law_marks, .func (PySem.W.fnOf "_law_marks" "_law_marks" (defArgs S__law_marks) (defBody S__law_marks) (defScope S__law_marks) .none kV__law_marks dc__law_marks pm__law_marks an__law_marks cd__law_marks ct__law_marks), sl__law_marks⟩)
    (c__law_marks : PySem.W.codeIn K cd__law_marks "_law_marks" = true)
    (k__law_marks : PySem.W.keepIn K (.ref f__law_marks) = true)
    (a__law_rows : PySem.W.nsIn K mainGlobals "_law_rows" = some (some (.ref f__law_rows)))
    (l__law_rows : K.lookup f__law_rows = some ⟨oc__law_rows, od__law_rows, .func (PySem.W.fnOf "_law_rows" "_law_rows" (defArgs S__law_rows) (defBody S__law_rows) (defScope S__law_rows) .none kV__law_rows dc__law_rows pm__law_rows an__law_rows cd__law_rows ct__law_rows), sl__law_rows⟩)
    (c__law_rows : PySem.W.codeIn K cd__law_rows "_law_rows" = true)
    (k__law_rows : PySem.W.keepIn K (.ref f__law_rows) = true)
    (a__law_way : PySem.W.nsIn K mainGlobals "_law_way" = some (some (.ref f__law_way)))
    (l__law_way : K.lookup f__law_way = some ⟨oc__law_way, od__law_way, .func (PySem.W.fnOf "_law_way" "_law_way" (defArgs S__law_way) (defBody S__law_way) (defScope S__law_way) .none kV__law_way dc__law_way pm__law_way an__law_way cd__law_way ct__law_way), sl__law_way⟩)
    (c__law_way : PySem.W.codeIn K cd__law_way "_law_way" = true)
    (k__law_way : PySem.W.keepIn K (.ref f__law_way) = true)
    (a__law_rules : PySem.W.nsIn K mainGlobals "_law_rules" = some (some (.ref f__law_rules)))
    (l__law_rules : K.lookup f__law_rules = some ⟨oc__law_rules, od__law_rules, .func (PySem.W.fnOf "_law_rules" "_law_rules" (defArgs S__law_rules) (defBody S__law_rules) (defScope S__law_rules) .none kV__law_rules dc__law_rules pm__law_rules an__law_rules cd__law_rules ct__law_rules), sl__law_rules⟩)
    (c__law_rules : PySem.W.codeIn K cd__law_rules "_law_rules" = true)
    (k__law_rules : PySem.W.keepIn K (.ref f__law_rules) = true)
    (a__law_shape : PySem.W.nsIn K mainGlobals "_law_shape" = some (some (.ref f__law_shape)))
    (l__law_shape : K.lookup f__law_shape = some ⟨oc__law_shape, od__law_shape, .func (PySem.W.fnOf "_law_shape" "_law_shape" (defArgs S__law_shape) (defBody S__law_shape) (defScope S__law_shape) .none kV__law_shape dc__law_shape pm__law_shape an__law_shape cd__law_shape ct__law_shape), sl__law_shape⟩)
    (c__law_shape : PySem.W.codeIn K cd__law_shape "_law_shape" = true)
    (k__law_shape : PySem.W.keepIn K (.ref f__law_shape) = true)
    (a__law_way_made : PySem.W.nsIn K mainGlobals "_law_way_made" = some (some (.ref f__law_way_made)))
    (l__law_way_made : K.lookup f__law_way_made = some ⟨oc__law_way_made, od__law_way_made, .func (PySem.W.fnOf "_law_way_made" "_law_way_made" (defArgs S__law_way_made) (defBody S__law_way_made) (defScope S__law_way_made) .none kV__law_way_made dc__law_way_made pm__law_way_made an__law_way_made cd__law_way_made ct__law_way_made), sl__law_way_made⟩)
    (c__law_way_made : PySem.W.codeIn K cd__law_way_made "_law_way_made" = true)
    (k__law_way_made : PySem.W.keepIn K (.ref f__law_way_made) = true)
    (a__law_policy : PySem.W.nsIn K mainGlobals "_law_policy" = some (some (.ref f__law_policy)))
    (l__law_policy : K.lookup f__law_policy = some ⟨oc__law_policy, od__law_policy, .func (PySem.W.fnOf "_law_policy" "_law_policy" (defArgs S__law_policy) (defBody S__law_policy) (defScope S__law_policy) .none kV__law_policy dc__law_policy pm__law_policy an__law_policy cd__law_policy ct__law_policy), sl__law_policy⟩)
    (c__law_policy : PySem.W.codeIn K cd__law_policy "_law_policy" = true)
    (k__law_policy : PySem.W.keepIn K (.ref f__law_policy) = true)
    (a__law_reads : PySem.W.nsIn K mainGlobals "_law_reads" = some (some (.ref f__law_reads)))
    (l__law_reads : K.lookup f__law_reads = some ⟨oc__law_reads, od__law_reads, .func (PySem.W.fnOf "_law_reads" "_law_reads" (defArgs S__law_reads) (defBody S__law_reads) (defScope S__law_reads) .none kV__law_reads dc__law_reads pm__law_reads an__law_reads cd__law_reads ct__law_reads), sl__law_reads⟩)
    (c__law_reads : PySem.W.codeIn K cd__law_reads "_law_reads" = true)
    (k__law_reads : PySem.W.keepIn K (.ref f__law_reads) = true)
    (a__law_lowered : PySem.W.nsIn K mainGlobals "_law_lowered" = some (some (.ref f__law_lowered)))
    (l__law_lowered : K.lookup f__law_lowered = some ⟨oc__law_lowered, od__law_lowered, .func (PySem.W.fnOf "_law_lowered" "_law_lowered" (defArgs S__law_lowered) (defBody S__law_lowered) (defScope S__law_lowered) .none kV__law_lowered dc__law_lowered pm__law_lowered an__law_lowered cd__law_lowered ct__law_lowered), sl__law_lowered⟩)
    (c__law_lowered : PySem.W.codeIn K cd__law_lowered "_law_lowered" = true)
    (k__law_lowered : PySem.W.keepIn K (.ref f__law_lowered) = true)
    (a__law_with : PySem.W.nsIn K mainGlobals "_law_with" = some (some (.ref f__law_with)))
    (l__law_with : K.lookup f__law_with = some ⟨oc__law_with, od__law_with, .func (PySem.W.fnOf "_law_with" "_law_with" (defArgs S__law_with) (defBody S__law_with) (defScope S__law_with) .none kV__law_with dc__law_with pm__law_with an__law_with cd__law_with ct__law_with), sl__law_with⟩)
    (c__law_with : PySem.W.codeIn K cd__law_with "_law_with" = true)
    (k__law_with : PySem.W.keepIn K (.ref f__law_with) = true)
    (a__law_looser_rules : PySem.W.nsIn K mainGlobals "_law_looser_rules" = some (some (.ref f__law_looser_rules)))
    (l__law_looser_rules : K.lookup f__law_looser_rules = some ⟨oc__law_looser_rules, od__law_looser_rules, .func (PySem.W.fnOf "_law_looser_rules" "_law_looser_rules" (defArgs S__law_looser_rules) (defBody S__law_looser_rules) (defScope S__law_looser_rules) .none kV__law_looser_rules dc__law_looser_rules pm__law_looser_rules an__law_looser_rules cd__law_looser_rules ct__law_looser_rules), sl__law_looser_rules⟩)
    (c__law_looser_rules : PySem.W.codeIn K cd__law_looser_rules "_law_looser_rules" = true)
    (k__law_looser_rules : PySem.W.keepIn K (.ref f__law_looser_rules) = true)
    (a__law_set : PySem.W.nsIn K mainGlobals "_law_set" = some (some (.ref f__law_set)))
    (l__law_set : K.lookup f__law_set = some ⟨oc__law_set, od__law_set, .func (PySem.W.fnOf "_law_set" "_law_set" (defArgs S__law_set) (defBody S__law_set) (defScope S__law_set) .none kV__law_set dc__law_set pm__law_set an__law_set cd__law_set ct__law_set), sl__law_set⟩)
    (c__law_set : PySem.W.codeIn K cd__law_set "_law_set" = true)
    (k__law_set : PySem.W.keepIn K (.ref f__law_set) = true)
    (a__law_good : PySem.W.nsIn K mainGlobals "_law_good" = some (some (.ref f__law_good)))
    (l__law_good : K.lookup f__law_good = some ⟨oc__law_good, od__law_good, .func (PySem.W.fnOf "_law_good" "_law_good" (defArgs S__law_good) (defBody S__law_good) (defScope S__law_good) .none kV__law_good dc__law_good pm__law_good an__law_good cd__law_good ct__law_good), sl__law_good⟩)
    (c__law_good : PySem.W.codeIn K cd__law_good "_law_good" = true)
    (k__law_good : PySem.W.keepIn K (.ref f__law_good) = true)
    (a_law : PySem.W.nsIn K mainGlobals "law" = some (some (.ref f_law)))
    (l_law : K.lookup f_law = some ⟨oc_law, od_law, .func (PySem.W.fnOf "law" "law" (defArgs S_law) (defBody S_law) (defScope S_law) .none kV_law dc_law pm_law an_law cd_law ct_law), sl_law⟩)
    (c_law : PySem.W.codeIn K cd_law "law" = true)
    (k_law : PySem.W.keepIn K (.ref f_law) = true)
    (z_any : PySem.W.nsIn K mainGlobals "any" = some none)
    (z_bool : PySem.W.nsIn K mainGlobals "bool" = some none)
    (z_enumerate : PySem.W.nsIn K mainGlobals "enumerate" = some none)
    (z_int : PySem.W.nsIn K mainGlobals "int" = some none)
    (z_isinstance : PySem.W.nsIn K mainGlobals "isinstance" = some none)
    (z_iter : PySem.W.nsIn K mainGlobals "iter" = some none)
    (z_len : PySem.W.nsIn K mainGlobals "len" = some none)
    (z_list : PySem.W.nsIn K mainGlobals "list" = some none)
    (z_range : PySem.W.nsIn K mainGlobals "range" = some none)
    (z_str : PySem.W.nsIn K mainGlobals "str" = some none)
    (z_tuple : PySem.W.nsIn K mainGlobals "tuple" = some none)
    (aq_UNLIMITED : PySem.W.nsIn K mainGlobals "UNLIMITED" = some (some (.int 9 tq_UNLIMITED)))
    (aq_LEVELS : PySem.W.nsIn K mainGlobals "LEVELS" = some (some (.ref q_LEVELS)))
    (lq_LEVELS : K.lookup q_LEVELS = some ⟨.type "tuple", oq_LEVELS, .seq #[.str "none" t_LEVELS_0, .str "one" t_LEVELS_1, .str "most" t_LEVELS_2, .str "all" t_LEVELS_3] nq_LEVELS, slq_LEVELS⟩)
    (aq_LETTERS : PySem.W.nsIn K mainGlobals "LETTERS" = some (some (.str "abcdefghijklmnopqrstuvwxyz" tq_LETTERS)))
    (aq_MODES : PySem.W.nsIn K mainGlobals "MODES" = some (some (.ref q_MODES)))
    (lq_MODES : K.lookup q_MODES = some ⟨.type "tuple", oq_MODES, .seq #[.str "own" t_MODES_0, .str "share" t_MODES_1] nq_MODES, slq_MODES⟩)
    (pg_Way : PySem.W.plainGet K c_Way Str.empty = true)
    (hd_Way : PySem.W.hasDictIn K c_Way = true)
    (po_Way : PySem.W.plainOver K c_Way = true)
    (sa_Way : PySem.W.findIn K (.ref c_Way) "__setattr__" = some (some (.builtin "object.__setattr__")))
    (kc_Way : PySem.W.keepIn K (.ref c_Way) = true)
    (i_Way_init : PySem.W.isFn K (.ref f_Way_init) = true)
    (mk_Way : PySem.W.makesIn K c_Way = true)
    (i_Way_lowered : PySem.W.isFn K (.ref f_Way_lowered) = true)
    (i_Way_eq : PySem.W.isFn K (.ref f_Way_eq) = true)
    (hca_Way : PySem.W.findIn K (.ref c_Way) "__class__" = some (some (.builtin "object.__class__")))
    (hcn_Way : PySem.W.specialIn K (.builtin "object.__class__") "__get__" = some (some (.builtin "getset_descriptor.__get__")))
    (hct_Way : PySem.W.takesIn K (.builtin "object.__class__") = some true)
    (hcm_Way : PySem.W.mroIn K c_Way (.type "object") = some true)
    (rdc_Way : PySem.W.readsIn K c_Way (.type "type") = true)
    (gac_Way : PySem.W.specialIn K (.ref c_Way) "__getattribute__" = some (some (.builtin "type.__getattribute__")))
    (fcl_Way_PARTS : PySem.W.findCls K (.ref c_Way) (.type "type") "PARTS" = some (.val (.ref q_Way_PARTS)))
    (lq_Way_PARTS : K.lookup q_Way_PARTS = some ⟨.type "tuple", oq_Way_PARTS, .seq #[.str "owned" t_Way_PARTS_0, .str "held" t_Way_PARTS_1, .str "seen" t_Way_PARTS_2, .str "early" t_Way_PARTS_3] nq_Way_PARTS, slq_Way_PARTS⟩)
    (no_Way_held : PySem.W.findIn K (.ref c_Way) "held" = some none)
    (no_Way_owned : PySem.W.findIn K (.ref c_Way) "owned" = some none)
    (no_Way_seen : PySem.W.findIn K (.ref c_Way) "seen" = some none)
    (no_Way_early : PySem.W.findIn K (.ref c_Way) "early" = some none)
    (pg_Policy : PySem.W.plainGet K c_Policy Str.empty = true)
    (hd_Policy : PySem.W.hasDictIn K c_Policy = true)
    (po_Policy : PySem.W.plainOver K c_Policy = true)
    (sa_Policy : PySem.W.findIn K (.ref c_Policy) "__setattr__" = some (some (.builtin "object.__setattr__")))
    (kc_Policy : PySem.W.keepIn K (.ref c_Policy) = true)
    (i_Policy_init : PySem.W.isFn K (.ref f_Policy_init) = true)
    (mk_Policy : PySem.W.makesIn K c_Policy = true)
    (i_Policy_iter : PySem.W.isFn K (.ref f_Policy_iter) = true)
    (i_Policy_len : PySem.W.isFn K (.ref f_Policy_len) = true)
    (fi_Policy_getitem : PySem.W.fnIn K f_Policy_getitem = true)
    (i_Policy_getitem : PySem.W.isFn K (.ref f_Policy_getitem) = true)
    (nq_Policy : PySem.W.noSeq K c_Policy = true)
    (i_Policy_setitem : PySem.W.isFn K (.ref f_Policy_setitem) = true)
    (i_Policy_copy : PySem.W.isFn K (.ref f_Policy_copy) = true)
    (hca_Policy : PySem.W.findIn K (.ref c_Policy) "__class__" = some (some (.builtin "object.__class__")))
    (hcn_Policy : PySem.W.specialIn K (.builtin "object.__class__") "__get__" = some (some (.builtin "getset_descriptor.__get__")))
    (hct_Policy : PySem.W.takesIn K (.builtin "object.__class__") = some true)
    (hcm_Policy : PySem.W.mroIn K c_Policy (.type "object") = some true)
    (no_Policy_shape : PySem.W.findIn K (.ref c_Policy) "shape" = some none)
    (no_Policy__marks : PySem.W.findIn K (.ref c_Policy) "_marks" = some none)
    (no_Policy__starts : PySem.W.findIn K (.ref c_Policy) "_starts" = some none)
    (no_Policy__ways : PySem.W.findIn K (.ref c_Policy) "_ways" = some none)
    (pg_Shape : PySem.W.plainGet K c_Shape Str.empty = true)
    (hd_Shape : PySem.W.hasDictIn K c_Shape = true)
    (po_Shape : PySem.W.plainOver K c_Shape = true)
    (sa_Shape : PySem.W.findIn K (.ref c_Shape) "__setattr__" = some (some (.builtin "object.__setattr__")))
    (kc_Shape : PySem.W.keepIn K (.ref c_Shape) = true)
    (i_Shape_init : PySem.W.isFn K (.ref f_Shape_init) = true)
    (mk_Shape : PySem.W.makesIn K c_Shape = true)
    (i_Shape_iter : PySem.W.isFn K (.ref f_Shape_iter) = true)
    (i_Shape_len : PySem.W.isFn K (.ref f_Shape_len) = true)
    (i_Shape_eq : PySem.W.isFn K (.ref f_Shape_eq) = true)
    (hca_Shape : PySem.W.findIn K (.ref c_Shape) "__class__" = some (some (.builtin "object.__class__")))
    (hcn_Shape : PySem.W.specialIn K (.builtin "object.__class__") "__get__" = some (some (.builtin "getset_descriptor.__get__")))
    (hct_Shape : PySem.W.takesIn K (.builtin "object.__class__") = some true)
    (hcm_Shape : PySem.W.mroIn K c_Shape (.type "object") = some true)
    (rdc_Shape : PySem.W.readsIn K c_Shape (.type "type") = true)
    (gac_Shape : PySem.W.specialIn K (.ref c_Shape) "__getattribute__" = some (some (.builtin "type.__getattribute__")))
    (fcl_Shape_MARKS : PySem.W.findCls K (.ref c_Shape) (.type "type") "MARKS" = some (.val (.int 6 ti_Shape_MARKS)))
    (fcl_Shape_PARENTS : PySem.W.findCls K (.ref c_Shape) (.type "type") "PARENTS" = some (.val (.int 4 ti_Shape_PARENTS)))
    (no_Shape__listed : PySem.W.findIn K (.ref c_Shape) "_listed" = some none)
    (no_Shape__marks : PySem.W.findIn K (.ref c_Shape) "_marks" = some none)
    (gc_BadShape : PySem.W.nsIn K mainGlobals "BadShape" = some (some (.ref c_BadShape)))
    (gc_UnknownMark : PySem.W.nsIn K mainGlobals "UnknownMark" = some (some (.ref c_UnknownMark)))
    (gc_TooLarge : PySem.W.nsIn K mainGlobals "TooLarge" = some (some (.ref c_TooLarge)))
    (gc_BadLevel : PySem.W.nsIn K mainGlobals "BadLevel" = some (some (.ref c_BadLevel)))
    (xz_super : PySem.W.nsIn K mainGlobals "super" = some none)
    (x_opq : PySem.W.nsIn K cStatics "thirdparty.any" = some none)
    (x_hn : PySem.W.specialIn K (.builtin "object.__class__") "__get__" = some (some (.builtin "getset_descriptor.__get__")))
    (x_ht : PySem.W.takesIn K (.builtin "object.__class__") = some true)
    (xl_BadShape : K.lookup c_BadShape = some (excClassObj nm_BadShape q_BadShape c_BadShape N_BadShape bs_BadShape [.ref c_WebError, .type "ValueError", .type "Exception", .type "BaseException", .type "object"] true sn_BadShape sub_BadShape ab_BadShape col_BadShape dd_BadShape m0_BadShape m1_BadShape m2_BadShape m3_BadShape m5_BadShape "ValueError.__new__"))
    (xsa_BadShape : PySem.W.findIn K (.ref c_BadShape) "__setattr__" = some (some (.builtin "object.__setattr__")))
    (xga_BadShape : PySem.W.findIn K (.ref c_BadShape) "__getattribute__" = some (some (.builtin "BaseException.__getattribute__")))
    (xgg_BadShape : PySem.W.findIn K (.ref c_BadShape) "__getattr__" = some none)
    (xno_BadShape : PySem.W.findIn K (.ref c_BadShape) "mark" = some none)
    (xk_BadShape : PySem.W.keepIn K (.ref c_BadShape) = true)
    (xb_BadShape : PySem.W.subIn K (.ref c_BadShape) (.type "BaseException") = some true)
    (xt_BadShape : PySem.W.typeIn K (.ref c_BadShape) = some (.type "type"))
    (xd_BadShape : PySem.W.hasDictIn K c_BadShape = true)
    (xi_BadShape : PySem.W.findIn K (.ref c_BadShape) "__init__" = some (some (.ref f_BadShape)))
    (xf_BadShape : PySem.W.typeIn K (.ref f_BadShape) = some (.type "function"))
    (xfl_BadShape : K.lookup f_BadShape = some ⟨oc_BadShape, od_BadShape, .func (PySem.W.ksFn "__init__" "BadShape.__init__" (defArgs S_BadShape_init) (defBody S_BadShape_init) (defScope S_BadShape_init) .none kV_BadShape dc_BadShape pm_BadShape an_BadShape (.ref cda_BadShape) ct_BadShape cc_BadShape), osl_BadShape⟩)
    (xci_BadShape : PySem.W.codeIn K (.ref cda_BadShape) "BadShape.__init__" = true)
    (xcc_BadShape : K.lookup cc_BadShape = some ⟨cl_BadShape, cld_BadShape, .cell (some (.ref c_BadShape)), csl_BadShape⟩)
    (xcd_BadShape : K.lookup cda_BadShape = some ⟨ccl_BadShape, cdd_BadShape, .fields vs_BadShape, ccs_BadShape⟩)
    (xvs_BadShape : vs_BadShape[2]? = some (.str file_BadShape tf_BadShape))
    (xfi_BadShape : ((PP.main.file : Str) == file_BadShape) = true)
    (xnx_BadShape : PySem.W.ks_superIn K c_BadShape c_BadShape "__init__" = some (some (.builtin "ValueError.__init__")))
    (xsl_BadShape : PySem.W.mroIn K c_BadShape (.ref c_BadShape) = some true)
    (xsu_BadShape : PySem.W.subIn K (.ref c_BadShape) (.type "ValueError") = some true)
    (xha_BadShape : PySem.W.findIn K (.ref c_BadShape) "__class__" = some (some (.builtin "object.__class__")))
    (xhm_BadShape : PySem.W.mroIn K c_BadShape (.type "object") = some true)
    (xl_UnknownMark : K.lookup c_UnknownMark = some (excClassObj nm_UnknownMark q_UnknownMark c_UnknownMark N_UnknownMark bs_UnknownMark [.ref c_WebError, .type "ValueError", .type "Exception", .type "BaseException", .type "object"] true sn_UnknownMark sub_UnknownMark ab_UnknownMark col_UnknownMark dd_UnknownMark m0_UnknownMark m1_UnknownMark m2_UnknownMark m3_UnknownMark m5_UnknownMark "ValueError.__new__"))
    (xsa_UnknownMark : PySem.W.findIn K (.ref c_UnknownMark) "__setattr__" = some (some (.builtin "object.__setattr__")))
    (xga_UnknownMark : PySem.W.findIn K (.ref c_UnknownMark) "__getattribute__" = some (some (.builtin "BaseException.__getattribute__")))
    (xgg_UnknownMark : PySem.W.findIn K (.ref c_UnknownMark) "__getattr__" = some none)
    (xno_UnknownMark : PySem.W.findIn K (.ref c_UnknownMark) "mark" = some none)
    (xk_UnknownMark : PySem.W.keepIn K (.ref c_UnknownMark) = true)
    (xb_UnknownMark : PySem.W.subIn K (.ref c_UnknownMark) (.type "BaseException") = some true)
    (xt_UnknownMark : PySem.W.typeIn K (.ref c_UnknownMark) = some (.type "type"))
    (xd_UnknownMark : PySem.W.hasDictIn K c_UnknownMark = true)
    (xi_UnknownMark : PySem.W.findIn K (.ref c_UnknownMark) "__init__" = some (some (.ref f_UnknownMark)))
    (xf_UnknownMark : PySem.W.typeIn K (.ref f_UnknownMark) = some (.type "function"))
    (xfl_UnknownMark : K.lookup f_UnknownMark = some ⟨oc_UnknownMark, od_UnknownMark, .func (PySem.W.ksFn "__init__" "UnknownMark.__init__" (defArgs S_UnknownMark_init) (defBody S_UnknownMark_init) (defScope S_UnknownMark_init) .none kV_UnknownMark dc_UnknownMark pm_UnknownMark an_UnknownMark (.ref cda_UnknownMark) ct_UnknownMark cc_UnknownMark), osl_UnknownMark⟩)
    (xci_UnknownMark : PySem.W.codeIn K (.ref cda_UnknownMark) "UnknownMark.__init__" = true)
    (xcc_UnknownMark : K.lookup cc_UnknownMark = some ⟨cl_UnknownMark, cld_UnknownMark, .cell (some (.ref c_UnknownMark)), csl_UnknownMark⟩)
    (xcd_UnknownMark : K.lookup cda_UnknownMark = some ⟨ccl_UnknownMark, cdd_UnknownMark, .fields vs_UnknownMark, ccs_UnknownMark⟩)
    (xvs_UnknownMark : vs_UnknownMark[2]? = some (.str file_UnknownMark tf_UnknownMark))
    (xfi_UnknownMark : ((PP.main.file : Str) == file_UnknownMark) = true)
    (xnx_UnknownMark : PySem.W.ks_superIn K c_UnknownMark c_UnknownMark "__init__" = some (some (.builtin "ValueError.__init__")))
    (xsl_UnknownMark : PySem.W.mroIn K c_UnknownMark (.ref c_UnknownMark) = some true)
    (xsu_UnknownMark : PySem.W.subIn K (.ref c_UnknownMark) (.type "ValueError") = some true)
    (xha_UnknownMark : PySem.W.findIn K (.ref c_UnknownMark) "__class__" = some (some (.builtin "object.__class__")))
    (xhm_UnknownMark : PySem.W.mroIn K c_UnknownMark (.type "object") = some true)
    (xl_TooLarge : K.lookup c_TooLarge = some (excClassObj nm_TooLarge q_TooLarge c_TooLarge N_TooLarge bs_TooLarge [.ref c_WebError, .type "ValueError", .type "Exception", .type "BaseException", .type "object"] true sn_TooLarge sub_TooLarge ab_TooLarge col_TooLarge dd_TooLarge m0_TooLarge m1_TooLarge m2_TooLarge m3_TooLarge m5_TooLarge "ValueError.__new__"))
    (xsa_TooLarge : PySem.W.findIn K (.ref c_TooLarge) "__setattr__" = some (some (.builtin "object.__setattr__")))
    (xga_TooLarge : PySem.W.findIn K (.ref c_TooLarge) "__getattribute__" = some (some (.builtin "BaseException.__getattribute__")))
    (xgg_TooLarge : PySem.W.findIn K (.ref c_TooLarge) "__getattr__" = some none)
    (xno_TooLarge : PySem.W.findIn K (.ref c_TooLarge) "most" = some none)
    (xk_TooLarge : PySem.W.keepIn K (.ref c_TooLarge) = true)
    (xb_TooLarge : PySem.W.subIn K (.ref c_TooLarge) (.type "BaseException") = some true)
    (xt_TooLarge : PySem.W.typeIn K (.ref c_TooLarge) = some (.type "type"))
    (xd_TooLarge : PySem.W.hasDictIn K c_TooLarge = true)
    (xi_TooLarge : PySem.W.findIn K (.ref c_TooLarge) "__init__" = some (some (.ref f_TooLarge)))
    (xf_TooLarge : PySem.W.typeIn K (.ref f_TooLarge) = some (.type "function"))
    (xfl_TooLarge : K.lookup f_TooLarge = some ⟨oc_TooLarge, od_TooLarge, .func (PySem.W.ksFn "__init__" "TooLarge.__init__" (defArgs S_TooLarge_init) (defBody S_TooLarge_init) (defScope S_TooLarge_init) .none kV_TooLarge dc_TooLarge pm_TooLarge an_TooLarge (.ref cda_TooLarge) ct_TooLarge cc_TooLarge), osl_TooLarge⟩)
    (xci_TooLarge : PySem.W.codeIn K (.ref cda_TooLarge) "TooLarge.__init__" = true)
    (xcc_TooLarge : K.lookup cc_TooLarge = some ⟨cl_TooLarge, cld_TooLarge, .cell (some (.ref c_TooLarge)), csl_TooLarge⟩)
    (xcd_TooLarge : K.lookup cda_TooLarge = some ⟨ccl_TooLarge, cdd_TooLarge, .fields vs_TooLarge, ccs_TooLarge⟩)
    (xvs_TooLarge : vs_TooLarge[2]? = some (.str file_TooLarge tf_TooLarge))
    (xfi_TooLarge : ((PP.main.file : Str) == file_TooLarge) = true)
    (xnx_TooLarge : PySem.W.ks_superIn K c_TooLarge c_TooLarge "__init__" = some (some (.builtin "ValueError.__init__")))
    (xsl_TooLarge : PySem.W.mroIn K c_TooLarge (.ref c_TooLarge) = some true)
    (xsu_TooLarge : PySem.W.subIn K (.ref c_TooLarge) (.type "ValueError") = some true)
    (xha_TooLarge : PySem.W.findIn K (.ref c_TooLarge) "__class__" = some (some (.builtin "object.__class__")))
    (xhm_TooLarge : PySem.W.mroIn K c_TooLarge (.type "object") = some true)
    (xl_BadLevel : K.lookup c_BadLevel = some (excClassObj nm_BadLevel q_BadLevel c_BadLevel N_BadLevel bs_BadLevel [.ref c_WebError, .type "ValueError", .type "Exception", .type "BaseException", .type "object"] true sn_BadLevel sub_BadLevel ab_BadLevel col_BadLevel dd_BadLevel m0_BadLevel m1_BadLevel m2_BadLevel m3_BadLevel m5_BadLevel "ValueError.__new__"))
    (xsa_BadLevel : PySem.W.findIn K (.ref c_BadLevel) "__setattr__" = some (some (.builtin "object.__setattr__")))
    (xga_BadLevel : PySem.W.findIn K (.ref c_BadLevel) "__getattribute__" = some (some (.builtin "BaseException.__getattribute__")))
    (xgg_BadLevel : PySem.W.findIn K (.ref c_BadLevel) "__getattr__" = some none)
    (xno_BadLevel : PySem.W.findIn K (.ref c_BadLevel) "level" = some none)
    (xk_BadLevel : PySem.W.keepIn K (.ref c_BadLevel) = true)
    (xb_BadLevel : PySem.W.subIn K (.ref c_BadLevel) (.type "BaseException") = some true)
    (xt_BadLevel : PySem.W.typeIn K (.ref c_BadLevel) = some (.type "type"))
    (xd_BadLevel : PySem.W.hasDictIn K c_BadLevel = true)
    (xi_BadLevel : PySem.W.findIn K (.ref c_BadLevel) "__init__" = some (some (.ref f_BadLevel)))
    (xf_BadLevel : PySem.W.typeIn K (.ref f_BadLevel) = some (.type "function"))
    (xfl_BadLevel : K.lookup f_BadLevel = some ⟨oc_BadLevel, od_BadLevel, .func (PySem.W.ksFn "__init__" "BadLevel.__init__" (defArgs S_BadLevel_init) (defBody S_BadLevel_init) (defScope S_BadLevel_init) .none kV_BadLevel dc_BadLevel pm_BadLevel an_BadLevel (.ref cda_BadLevel) ct_BadLevel cc_BadLevel), osl_BadLevel⟩)
    (xci_BadLevel : PySem.W.codeIn K (.ref cda_BadLevel) "BadLevel.__init__" = true)
    (xcc_BadLevel : K.lookup cc_BadLevel = some ⟨cl_BadLevel, cld_BadLevel, .cell (some (.ref c_BadLevel)), csl_BadLevel⟩)
    (xcd_BadLevel : K.lookup cda_BadLevel = some ⟨ccl_BadLevel, cdd_BadLevel, .fields vs_BadLevel, ccs_BadLevel⟩)
    (xvs_BadLevel : vs_BadLevel[2]? = some (.str file_BadLevel tf_BadLevel))
    (xfi_BadLevel : ((PP.main.file : Str) == file_BadLevel) = true)
    (xnx_BadLevel : PySem.W.ks_superIn K c_BadLevel c_BadLevel "__init__" = some (some (.builtin "ValueError.__init__")))
    (xsl_BadLevel : PySem.W.mroIn K c_BadLevel (.ref c_BadLevel) = some true)
    (xsu_BadLevel : PySem.W.subIn K (.ref c_BadLevel) (.type "ValueError") = some true)
    (xha_BadLevel : PySem.W.findIn K (.ref c_BadLevel) "__class__" = some (some (.builtin "object.__class__")))
    (xhm_BadLevel : PySem.W.mroIn K c_BadLevel (.type "object") = some true)
    : ∃ fd : FuncData, (∀ (s : Shared) (v : Value), BindsTo s fd ⟨[v], []⟩ [("_law_script", v)]) ∧ ∀ base : Heap, K.In base → base.Ns mainGlobals mg → FnOk PP w K mg base CX0 24 fa fd ["_law_script"] (spLaw K) := by
  have e := hfa.symm.trans (PySem.W.mg_of X G a_law)
  cases e
  have FD_Way_init : FunD K "__init__" "Way.__init__" (defArgs S_Way_init) (defBody S_Way_init) (defScope S_Way_init) [.str "none", .str "none", .str "none"] [("early", .bl false)] f_Way_init (PySem.W.fnOf "__init__" "Way.__init__" (defArgs S_Way_init) (defBody S_Way_init) (defScope S_Way_init) (.ref dt_Way_init) (.ref kd_Way_init) dc_Way_init pm_Way_init an_Way_init cd_Way_init ct_Way_init) := ⟨⟨_, _, _, _, _, _, _, _, _, _, rfl, l_Way_init, c_Way_init, .inr ⟨by simp, dt_Way_init, _, [.str "none" tt_Way_init_0, .str "none" tt_Way_init_1, .str "none" tt_Way_init_2], _, rfl, lt_Way_init, rfl, (.cons ⟨_, rfl⟩ (.cons ⟨_, rfl⟩ (.cons ⟨_, rfl⟩ .nil)))⟩, .inr ⟨kd_Way_init, rfl, fun q hq => by
      simp only [List.mem_cons, List.not_mem_nil, or_false] at hq
      rcases hq with rfl
      · exact ⟨_, nk_Way_init_early, rfl⟩⟩⟩, k_Way_init⟩
  have FD_Policy_init : FunD K "__init__" "Policy.__init__" (defArgs S_Policy_init) (defBody S_Policy_init) (defScope S_Policy_init) [.ref ed_Policy_init_0] [] f_Policy_init (PySem.W.fnOf "__init__" "Policy.__init__" (defArgs S_Policy_init) (defBody S_Policy_init) (defScope S_Policy_init) (.ref dt_Policy_init) kV_Policy_init dc_Policy_init pm_Policy_init an_Policy_init cd_Policy_init ct_Policy_init) := ⟨⟨_, _, _, _, _, _, _, _, _, _, rfl, l_Policy_init, c_Policy_init, .inr ⟨by simp, dt_Policy_init, _, [.ref ed_Policy_init_0], _, rfl, lt_Policy_init, rfl, (.cons rfl .nil)⟩, .inl rfl⟩, k_Policy_init⟩
  have Hkb_Way_init_4_early : KBn K (PySem.W.fnOf "__init__" "Way.__init__" (defArgs S_Way_init) (defBody S_Way_init) (defScope S_Way_init) (.ref dt_Way_init) (.ref kd_Way_init) dc_Way_init pm_Way_init an_Way_init cd_Way_init ct_Way_init) ["self", "held", "owned", "seen", "early"] 4 ["early"] (fun us ws => us ++ ws) (fun vs zs => vs ++ zs) := by
    obtain ⟨its, mv, h⟩ := FunD.kbinds (ps := ["self", "held", "owned", "seen", "early"]) FD_Way_init 4 ["early"] [] (fun us its mv ws => us ++ ws) (by simp) (by simp) (by simp) (fun r1 r2 r3 r4 => r1.append r4) (fun T D doc pm an cdv ct us its mv ws l1 l2 l3 l4 => match us, ws, mv, its, l1, l4, l3, l2 with | [_, _, _, _], [_], [], [_, _, _], _, _, _, _ => ⟨_, rfl, rfl⟩)
    exact h
  have Hkb_Way_init_4 : ∃ ds, Vals [.bl false] ds ∧ Binds K (PySem.W.fnOf "__init__" "Way.__init__" (defArgs S_Way_init) (defBody S_Way_init) (defScope S_Way_init) (.ref dt_Way_init) (.ref kd_Way_init) dc_Way_init pm_Way_init an_Way_init cd_Way_init ct_Way_init) ["self", "held", "owned", "seen", "early"] ds := FunD.binds (ps := ["self", "held", "owned", "seen", "early"]) FD_Way_init 4 3 (by simp) (by rfl) (fun T D doc pm an cdv ct us its ks l1 l2 l3 => match us, its, ks, l1, l2, l3 with | [_, _, _, _], [_, _, _], [_], _, _, _ => ⟨_, rfl, _, _, _, _, _, _, rfl, rfl, rfl⟩) (by simp)
  have Hkb_Policy_init_2 : ∃ ds, Vals [.ref ed_Policy_init_0] ds ∧ Binds K (PySem.W.fnOf "__init__" "Policy.__init__" (defArgs S_Policy_init) (defBody S_Policy_init) (defScope S_Policy_init) (.ref dt_Policy_init) kV_Policy_init dc_Policy_init pm_Policy_init an_Policy_init cd_Policy_init ct_Policy_init) ["self", "shape", "rows"] ds := FunD.binds1 (ps := ["self", "shape", "rows"]) FD_Policy_init 2 0 (by simp) (by rfl) (fun T kV doc pm an cdv ct us its l1 l2 => match us, its, l1, l2 with | [_, _], [_], _, _ => ⟨_, rfl, rfl⟩)
  have Hkb_Policy_init_3 : ∃ ds, Vals [] ds ∧ Binds K (PySem.W.fnOf "__init__" "Policy.__init__" (defArgs S_Policy_init) (defBody S_Policy_init) (defScope S_Policy_init) (.ref dt_Policy_init) kV_Policy_init dc_Policy_init pm_Policy_init an_Policy_init cd_Policy_init ct_Policy_init) ["self", "shape", "rows"] ds := FunD.binds1 (ps := ["self", "shape", "rows"]) FD_Policy_init 3 1 (by simp) (by rfl) (fun T kV doc pm an cdv ct us its l1 l2 => match us, its, l1, l2 with | [_, _, _], [_], _, _ => ⟨_, rfl, rfl⟩)
  have XT_BadShape : PySem.WX.ExcTxt PP K mg "BadShape" "mark" c_BadShape := { gC := PySem.W.mg_of X G gc_BadShape, cls := ⟨nm_BadShape, q_BadShape, N_BadShape, bs_BadShape, _, sn_BadShape, sub_BadShape, ab_BadShape, col_BadShape, dd_BadShape, m0_BadShape, m1_BadShape, m2_BadShape, m3_BadShape, m5_BadShape, xl_BadShape, rfl⟩, sa := xsa_BadShape, ga := xga_BadShape, gg := xgg_BadShape, noN := xno_BadShape, kC := xk_BadShape, exC := xb_BadShape, tyC := xt_BadShape, hdC := xd_BadShape, D := c_BadShape, clsD := ⟨_, _, xl_BadShape, rfl⟩, fI := f_BadShape, qual := "BadShape.__init__", tx := _, S := S_BadShape_init, oc := oc_BadShape, od := od_BadShape, kV := kV_BadShape, doc := dc_BadShape, pm := pm_BadShape, an := an_BadShape, cda := cda_BadShape, ct := ct_BadShape, osl := osl_BadShape, cc := cc_BadShape, cl := cl_BadShape, cld := cld_BadShape, csl := csl_BadShape, ccl := ccl_BadShape, cdd := cdd_BadShape, vs := vs_BadShape, ccs := ccs_BadShape, file := file_BadShape, tf := tf_BadShape, q1 := _, q2 := _, q3 := _, q4 := _, q5 := _, q6 := _, q7 := _, q8 := _, q9 := _, q10 := _, j := _, pl := _, iC := xi_BadShape, tI := xf_BadShape, lI := xfl_BadShape, cI := xci_BadShape, lcc := xcc_BadShape, lcd := xcd_BadShape, hvs := xvs_BadShape, hfile := xfi_BadShape, hpar := ⟨_, rfl, rfl⟩, hbody := rfl, hbind := fun _ _ => rfl, hev := fun _ _ => rfl, hk := rfl, hco := rfl, hgen := rfl, hks := rfl, hkc := rfl, hself := rfl, hfl := rfl, hcell := by decide +kernel, nf := by decide +kernel, top := by decide +kernel, sup := PySem.W.mg_none_of X G xz_super, opq := x_opq, nxt := xnx_BadShape, slf := xsl_BadShape, sub := xsu_BadShape }
  have XT_UnknownMark : PySem.WX.ExcTxt PP K mg "UnknownMark" "mark" c_UnknownMark := { gC := PySem.W.mg_of X G gc_UnknownMark, cls := ⟨nm_UnknownMark, q_UnknownMark, N_UnknownMark, bs_UnknownMark, _, sn_UnknownMark, sub_UnknownMark, ab_UnknownMark, col_UnknownMark, dd_UnknownMark, m0_UnknownMark, m1_UnknownMark, m2_UnknownMark, m3_UnknownMark, m5_UnknownMark, xl_UnknownMark, rfl⟩, sa := xsa_UnknownMark, ga := xga_UnknownMark, gg := xgg_UnknownMark, noN := xno_UnknownMark, kC := xk_UnknownMark, exC := xb_UnknownMark, tyC := xt_UnknownMark, hdC := xd_UnknownMark, D := c_UnknownMark, clsD := ⟨_, _, xl_UnknownMark, rfl⟩, fI := f_UnknownMark, qual := "UnknownMark.__init__", tx := _, S := S_UnknownMark_init, oc := oc_UnknownMark, od := od_UnknownMark, kV := kV_UnknownMark, doc := dc_UnknownMark, pm := pm_UnknownMark, an := an_UnknownMark, cda := cda_UnknownMark, ct := ct_UnknownMark, osl := osl_UnknownMark, cc := cc_UnknownMark, cl := cl_UnknownMark, cld := cld_UnknownMark, csl := csl_UnknownMark, ccl := ccl_UnknownMark, cdd := cdd_UnknownMark, vs := vs_UnknownMark, ccs := ccs_UnknownMark, file := file_UnknownMark, tf := tf_UnknownMark, q1 := _, q2 := _, q3 := _, q4 := _, q5 := _, q6 := _, q7 := _, q8 := _, q9 := _, q10 := _, j := _, pl := _, iC := xi_UnknownMark, tI := xf_UnknownMark, lI := xfl_UnknownMark, cI := xci_UnknownMark, lcc := xcc_UnknownMark, lcd := xcd_UnknownMark, hvs := xvs_UnknownMark, hfile := xfi_UnknownMark, hpar := ⟨_, rfl, rfl⟩, hbody := rfl, hbind := fun _ _ => rfl, hev := fun _ _ => rfl, hk := rfl, hco := rfl, hgen := rfl, hks := rfl, hkc := rfl, hself := rfl, hfl := rfl, hcell := by decide +kernel, nf := by decide +kernel, top := by decide +kernel, sup := PySem.W.mg_none_of X G xz_super, opq := x_opq, nxt := xnx_UnknownMark, slf := xsl_UnknownMark, sub := xsu_UnknownMark }
  have XT_TooLarge : PySem.WX.ExcTxt PP K mg "TooLarge" "most" c_TooLarge := { gC := PySem.W.mg_of X G gc_TooLarge, cls := ⟨nm_TooLarge, q_TooLarge, N_TooLarge, bs_TooLarge, _, sn_TooLarge, sub_TooLarge, ab_TooLarge, col_TooLarge, dd_TooLarge, m0_TooLarge, m1_TooLarge, m2_TooLarge, m3_TooLarge, m5_TooLarge, xl_TooLarge, rfl⟩, sa := xsa_TooLarge, ga := xga_TooLarge, gg := xgg_TooLarge, noN := xno_TooLarge, kC := xk_TooLarge, exC := xb_TooLarge, tyC := xt_TooLarge, hdC := xd_TooLarge, D := c_TooLarge, clsD := ⟨_, _, xl_TooLarge, rfl⟩, fI := f_TooLarge, qual := "TooLarge.__init__", tx := _, S := S_TooLarge_init, oc := oc_TooLarge, od := od_TooLarge, kV := kV_TooLarge, doc := dc_TooLarge, pm := pm_TooLarge, an := an_TooLarge, cda := cda_TooLarge, ct := ct_TooLarge, osl := osl_TooLarge, cc := cc_TooLarge, cl := cl_TooLarge, cld := cld_TooLarge, csl := csl_TooLarge, ccl := ccl_TooLarge, cdd := cdd_TooLarge, vs := vs_TooLarge, ccs := ccs_TooLarge, file := file_TooLarge, tf := tf_TooLarge, q1 := _, q2 := _, q3 := _, q4 := _, q5 := _, q6 := _, q7 := _, q8 := _, q9 := _, q10 := _, j := _, pl := _, iC := xi_TooLarge, tI := xf_TooLarge, lI := xfl_TooLarge, cI := xci_TooLarge, lcc := xcc_TooLarge, lcd := xcd_TooLarge, hvs := xvs_TooLarge, hfile := xfi_TooLarge, hpar := ⟨_, rfl, rfl⟩, hbody := rfl, hbind := fun _ _ => rfl, hev := fun _ _ => rfl, hk := rfl, hco := rfl, hgen := rfl, hks := rfl, hkc := rfl, hself := rfl, hfl := rfl, hcell := by decide +kernel, nf := by decide +kernel, top := by decide +kernel, sup := PySem.W.mg_none_of X G xz_super, opq := x_opq, nxt := xnx_TooLarge, slf := xsl_TooLarge, sub := xsu_TooLarge }
  have XT_BadLevel : PySem.WX.ExcTxt PP K mg "BadLevel" "level" c_BadLevel := { gC := PySem.W.mg_of X G gc_BadLevel, cls := ⟨nm_BadLevel, q_BadLevel, N_BadLevel, bs_BadLevel, _, sn_BadLevel, sub_BadLevel, ab_BadLevel, col_BadLevel, dd_BadLevel, m0_BadLevel, m1_BadLevel, m2_BadLevel, m3_BadLevel, m5_BadLevel, xl_BadLevel, rfl⟩, sa := xsa_BadLevel, ga := xga_BadLevel, gg := xgg_BadLevel, noN := xno_BadLevel, kC := xk_BadLevel, exC := xb_BadLevel, tyC := xt_BadLevel, hdC := xd_BadLevel, D := c_BadLevel, clsD := ⟨_, _, xl_BadLevel, rfl⟩, fI := f_BadLevel, qual := "BadLevel.__init__", tx := _, S := S_BadLevel_init, oc := oc_BadLevel, od := od_BadLevel, kV := kV_BadLevel, doc := dc_BadLevel, pm := pm_BadLevel, an := an_BadLevel, cda := cda_BadLevel, ct := ct_BadLevel, osl := osl_BadLevel, cc := cc_BadLevel, cl := cl_BadLevel, cld := cld_BadLevel, csl := csl_BadLevel, ccl := ccl_BadLevel, cdd := cdd_BadLevel, vs := vs_BadLevel, ccs := ccs_BadLevel, file := file_BadLevel, tf := tf_BadLevel, q1 := _, q2 := _, q3 := _, q4 := _, q5 := _, q6 := _, q7 := _, q8 := _, q9 := _, q10 := _, j := _, pl := _, iC := xi_BadLevel, tI := xf_BadLevel, lI := xfl_BadLevel, cI := xci_BadLevel, lcc := xcc_BadLevel, lcd := xcd_BadLevel, hvs := xvs_BadLevel, hfile := xfi_BadLevel, hpar := ⟨_, rfl, rfl⟩, hbody := rfl, hbind := fun _ _ => rfl, hev := fun _ _ => rfl, hk := rfl, hco := rfl, hgen := rfl, hks := rfl, hkc := rfl, hself := rfl, hfl := rfl, hcell := by decide +kernel, nf := by decide +kernel, top := by decide +kernel, sup := PySem.W.mg_none_of X G xz_super, opq := x_opq, nxt := xnx_BadLevel, slf := xsl_BadLevel, sub := xsu_BadLevel }
  let T : Txt K mg := {
    a_rank := f_rank,
    fd_rank := _,
    F_rank := fun_mk (st := S_rank) l_rank c_rank k_rank,
    b_rank := (fun_mk (st := S_rank) l_rank c_rank k_rank).binds (ps := ["level"]) fun _ _ _ _ _ _ us hl => match us, hl with | [_], _ => rfl,
    g_rank := PySem.W.mg_of X G a_rank,
    a_Way_init := f_Way_init,
    fd_Way_init := _,
    F_Way_init := FD_Way_init,
    a_Way_lowered := f_Way_lowered,
    fd_Way_lowered := _,
    F_Way_lowered := fun_mk (st := S_Way_lowered) l_Way_lowered c_Way_lowered k_Way_lowered,
    b_Way_lowered := (fun_mk (st := S_Way_lowered) l_Way_lowered c_Way_lowered k_Way_lowered).binds (ps := ["self", "part"]) fun _ _ _ _ _ _ us hl => match us, hl with | [_, _], _ => rfl,
    a_Way_eq := f_Way_eq,
    fd_Way_eq := _,
    F_Way_eq := fun_mk (st := S_Way_eq) l_Way_eq c_Way_eq k_Way_eq,
    b_Way_eq := (fun_mk (st := S_Way_eq) l_Way_eq c_Way_eq k_Way_eq).binds (ps := ["self", "other"]) fun _ _ _ _ _ _ us hl => match us, hl with | [_, _], _ => rfl,
    a_changed := f_changed,
    fd_changed := _,
    F_changed := fun_mk (st := S_changed) l_changed c_changed k_changed,
    b_changed := (fun_mk (st := S_changed) l_changed c_changed k_changed).binds (ps := ["policy", "mark", "start", "ways"]) fun _ _ _ _ _ _ us hl => match us, hl with | [_, _, _, _], _ => rfl,
    g_changed := PySem.W.mg_of X G a_changed,
    a_with_way := f_with_way,
    fd_with_way := _,
    F_with_way := fun_mk (st := S_with_way) l_with_way c_with_way k_with_way,
    b_with_way := (fun_mk (st := S_with_way) l_with_way c_with_way k_with_way).binds (ps := ["policy", "mark", "index", "way"]) fun _ _ _ _ _ _ us hl => match us, hl with | [_, _, _, _], _ => rfl,
    g_with_way := PySem.W.mg_of X G a_with_way,
    a_loosenings := f_loosenings,
    fd_loosenings := _,
    F_loosenings := fun_mk (st := S_loosenings) l_loosenings c_loosenings k_loosenings,
    b_loosenings := (fun_mk (st := S_loosenings) l_loosenings c_loosenings k_loosenings).binds (ps := ["policy"]) fun _ _ _ _ _ _ us hl => match us, hl with | [_], _ => rfl,
    g_loosenings := PySem.W.mg_of X G a_loosenings,
    a_Policy_init := f_Policy_init,
    fd_Policy_init := _,
    F_Policy_init := FD_Policy_init,
    ed_Policy_init_0 := ed_Policy_init_0,
    qe_Policy_init_0 := fun H => .inr ⟨_, _, _, le_Policy_init_0, rfl, rfl, by show 0 ≤ sizeLine; decide, .nil⟩,
    a_Policy_iter := f_Policy_iter,
    fd_Policy_iter := _,
    F_Policy_iter := fun_mk (st := S_Policy_iter) l_Policy_iter c_Policy_iter k_Policy_iter,
    b_Policy_iter := (fun_mk (st := S_Policy_iter) l_Policy_iter c_Policy_iter k_Policy_iter).binds (ps := ["self"]) fun _ _ _ _ _ _ us hl => match us, hl with | [_], _ => rfl,
    a_Policy_len := f_Policy_len,
    fd_Policy_len := _,
    F_Policy_len := fun_mk (st := S_Policy_len) l_Policy_len c_Policy_len k_Policy_len,
    b_Policy_len := (fun_mk (st := S_Policy_len) l_Policy_len c_Policy_len k_Policy_len).binds (ps := ["self"]) fun _ _ _ _ _ _ us hl => match us, hl with | [_], _ => rfl,
    a_Policy_getitem := f_Policy_getitem,
    fd_Policy_getitem := _,
    F_Policy_getitem := fun_mk (st := S_Policy_getitem) l_Policy_getitem c_Policy_getitem k_Policy_getitem,
    b_Policy_getitem := (fun_mk (st := S_Policy_getitem) l_Policy_getitem c_Policy_getitem k_Policy_getitem).binds (ps := ["self", "mark"]) fun _ _ _ _ _ _ us hl => match us, hl with | [_, _], _ => rfl,
    a_Policy_setitem := f_Policy_setitem,
    fd_Policy_setitem := _,
    F_Policy_setitem := fun_mk (st := S_Policy_setitem) l_Policy_setitem c_Policy_setitem k_Policy_setitem,
    b_Policy_setitem := (fun_mk (st := S_Policy_setitem) l_Policy_setitem c_Policy_setitem k_Policy_setitem).binds (ps := ["self", "mark", "rule"]) fun _ _ _ _ _ _ us hl => match us, hl with | [_, _, _], _ => rfl,
    a_Policy_copy := f_Policy_copy,
    fd_Policy_copy := _,
    F_Policy_copy := fun_mk (st := S_Policy_copy) l_Policy_copy c_Policy_copy k_Policy_copy,
    b_Policy_copy := (fun_mk (st := S_Policy_copy) l_Policy_copy c_Policy_copy k_Policy_copy).binds (ps := ["self"]) fun _ _ _ _ _ _ us hl => match us, hl with | [_], _ => rfl,
    a_is_mark := f_is_mark,
    fd_is_mark := _,
    F_is_mark := fun_mk (st := S_is_mark) l_is_mark c_is_mark k_is_mark,
    b_is_mark := (fun_mk (st := S_is_mark) l_is_mark c_is_mark k_is_mark).binds (ps := ["text"]) fun _ _ _ _ _ _ us hl => match us, hl with | [_], _ => rfl,
    g_is_mark := PySem.W.mg_of X G a_is_mark,
    a_sound_row := f_sound_row,
    fd_sound_row := _,
    F_sound_row := fun_mk (st := S_sound_row) l_sound_row c_sound_row k_sound_row,
    b_sound_row := (fun_mk (st := S_sound_row) l_sound_row c_sound_row k_sound_row).binds (ps := ["row", "before"]) fun _ _ _ _ _ _ us hl => match us, hl with | [_, _], _ => rfl,
    g_sound_row := PySem.W.mg_of X G a_sound_row,
    a_barren := f_barren,
    fd_barren := _,
    F_barren := fun_mk (st := S_barren) l_barren c_barren k_barren,
    b_barren := (fun_mk (st := S_barren) l_barren c_barren k_barren).binds (ps := ["rows"]) fun _ _ _ _ _ _ us hl => match us, hl with | [_], _ => rfl,
    g_barren := PySem.W.mg_of X G a_barren,
    a_Shape_init := f_Shape_init,
    fd_Shape_init := _,
    F_Shape_init := fun_mk (st := S_Shape_init) l_Shape_init c_Shape_init k_Shape_init,
    bs_Shape_init := StX.bind_star1 (B := fun us => bindArgs (PySem.W.fnOf "__init__" "Shape.__init__" (defArgs S_Shape_init) (defBody S_Shape_init) (defScope S_Shape_init) .none kV_Shape_init dc_Shape_init pm_Shape_init an_Shape_init cd_Shape_init ct_Shape_init) ⟨us, []⟩) (fun a => rfl) (fun a r rs => rfl),
    a_Shape_iter := f_Shape_iter,
    fd_Shape_iter := _,
    F_Shape_iter := fun_mk (st := S_Shape_iter) l_Shape_iter c_Shape_iter k_Shape_iter,
    b_Shape_iter := (fun_mk (st := S_Shape_iter) l_Shape_iter c_Shape_iter k_Shape_iter).binds (ps := ["self"]) fun _ _ _ _ _ _ us hl => match us, hl with | [_], _ => rfl,
    a_Shape_len := f_Shape_len,
    fd_Shape_len := _,
    F_Shape_len := fun_mk (st := S_Shape_len) l_Shape_len c_Shape_len k_Shape_len,
    b_Shape_len := (fun_mk (st := S_Shape_len) l_Shape_len c_Shape_len k_Shape_len).binds (ps := ["self"]) fun _ _ _ _ _ _ us hl => match us, hl with | [_], _ => rfl,
    a_Shape_eq := f_Shape_eq,
    fd_Shape_eq := _,
    F_Shape_eq := fun_mk (st := S_Shape_eq) l_Shape_eq c_Shape_eq k_Shape_eq,
    b_Shape_eq := (fun_mk (st := S_Shape_eq) l_Shape_eq c_Shape_eq k_Shape_eq).binds (ps := ["self", "other"]) fun _ _ _ _ _ _ us hl => match us, hl with | [_, _], _ => rfl,
    a__law_draws := f__law_draws,
    fd__law_draws := _,
    F__law_draws := fun_mk (st := S__law_draws) l__law_draws c__law_draws k__law_draws,
    b__law_draws := (fun_mk (st := S__law_draws) l__law_draws c__law_draws k__law_draws).binds (ps := ["_law_script"]) fun _ _ _ _ _ _ us hl => match us, hl with | [_], _ => rfl,
    g__law_draws := PySem.W.mg_of X G a__law_draws,
    a__law_take := f__law_take,
    fd__law_take := _,
    F__law_take := fun_mk (st := S__law_take) l__law_take c__law_take k__law_take,
    b__law_take := (fun_mk (st := S__law_take) l__law_take c__law_take k__law_take).binds (ps := ["_law_draws_here", "_law_at", "_law_size"]) fun _ _ _ _ _ _ us hl => match us, hl with | [_, _, _], _ => rfl,
    g__law_take := PySem.W.mg_of X G a__law_take,
    a__law_same := f__law_same,
    fd__law_same := _,
    F__law_same := fun_mk (st := S__law_same) l__law_same c__law_same k__law_same,
    b__law_same := (fun_mk (st := S__law_same) l__law_same c__law_same k__law_same).binds (ps := ["_law_actual", "_law_expected"]) fun _ _ _ _ _ _ us hl => match us, hl with | [_, _], _ => rfl,
    g__law_same := PySem.W.mg_of X G a__law_same,
    a__law_marks := f__law_marks,
    fd__law_marks := _,
    F__law_marks := fun_mk (st := S__law_marks) l__law_marks c__law_marks k__law_marks,
    b__law_marks := (fun_mk (st := S__law_marks) l__law_marks c__law_marks k__law_marks).binds (ps := ["_law_draws_here", "_law_at", "_law_count"]) fun _ _ _ _ _ _ us hl => match us, hl with | [_, _, _], _ => rfl,
    g__law_marks := PySem.W.mg_of X G a__law_marks,
    a__law_rows := f__law_rows,
    fd__law_rows := _,
    F__law_rows := fun_mk (st := S__law_rows) l__law_rows c__law_rows k__law_rows,
    b__law_rows := (fun_mk (st := S__law_rows) l__law_rows c__law_rows k__law_rows).binds (ps := ["_law_draws_here", "_law_at", "_law_exclusive"]) fun _ _ _ _ _ _ us hl => match us, hl with | [_, _, _], _ => rfl,
    g__law_rows := PySem.W.mg_of X G a__law_rows,
    a__law_way := f__law_way,
    fd__law_way := _,
    F__law_way := fun_mk (st := S__law_way) l__law_way c__law_way k__law_way,
    b__law_way := (fun_mk (st := S__law_way) l__law_way c__law_way k__law_way).binds (ps := ["_law_draws_here", "_law_at"]) fun _ _ _ _ _ _ us hl => match us, hl with | [_, _], _ => rfl,
    g__law_way := PySem.W.mg_of X G a__law_way,
    a__law_rules := f__law_rules,
    fd__law_rules := _,
    F__law_rules := fun_mk (st := S__law_rules) l__law_rules c__law_rules k__law_rules,
    b__law_rules := (fun_mk (st := S__law_rules) l__law_rules c__law_rules k__law_rules).binds (ps := ["_law_draws_here", "_law_at", "_law_rows_here"]) fun _ _ _ _ _ _ us hl => match us, hl with | [_, _, _], _ => rfl,
    g__law_rules := PySem.W.mg_of X G a__law_rules,
    a__law_shape := f__law_shape,
    fd__law_shape := _,
    F__law_shape := fun_mk (st := S__law_shape) l__law_shape c__law_shape k__law_shape,
    b__law_shape := (fun_mk (st := S__law_shape) l__law_shape c__law_shape k__law_shape).binds (ps := ["_law_rows_here"]) fun _ _ _ _ _ _ us hl => match us, hl with | [_], _ => rfl,
    g__law_shape := PySem.W.mg_of X G a__law_shape,
    a__law_way_made := f__law_way_made,
    fd__law_way_made := _,
    F__law_way_made := fun_mk (st := S__law_way_made) l__law_way_made c__law_way_made k__law_way_made,
    b__law_way_made := (fun_mk (st := S__law_way_made) l__law_way_made c__law_way_made k__law_way_made).binds (ps := ["_law_way_here"]) fun _ _ _ _ _ _ us hl => match us, hl with | [_], _ => rfl,
    g__law_way_made := PySem.W.mg_of X G a__law_way_made,
    a__law_policy := f__law_policy,
    fd__law_policy := _,
    F__law_policy := fun_mk (st := S__law_policy) l__law_policy c__law_policy k__law_policy,
    b__law_policy := (fun_mk (st := S__law_policy) l__law_policy c__law_policy k__law_policy).binds (ps := ["_law_shape_here", "_law_rules_here"]) fun _ _ _ _ _ _ us hl => match us, hl with | [_, _], _ => rfl,
    g__law_policy := PySem.W.mg_of X G a__law_policy,
    a__law_reads := f__law_reads,
    fd__law_reads := _,
    F__law_reads := fun_mk (st := S__law_reads) l__law_reads c__law_reads k__law_reads,
    b__law_reads := (fun_mk (st := S__law_reads) l__law_reads c__law_reads k__law_reads).binds (ps := ["_law_policy_here", "_law_rules_here"]) fun _ _ _ _ _ _ us hl => match us, hl with | [_, _], _ => rfl,
    g__law_reads := PySem.W.mg_of X G a__law_reads,
    a__law_lowered := f__law_lowered,
    fd__law_lowered := _,
    F__law_lowered := fun_mk (st := S__law_lowered) l__law_lowered c__law_lowered k__law_lowered,
    b__law_lowered := (fun_mk (st := S__law_lowered) l__law_lowered c__law_lowered k__law_lowered).binds (ps := ["_law_way_here"]) fun _ _ _ _ _ _ us hl => match us, hl with | [_], _ => rfl,
    g__law_lowered := PySem.W.mg_of X G a__law_lowered,
    a__law_with := f__law_with,
    fd__law_with := _,
    F__law_with := fun_mk (st := S__law_with) l__law_with c__law_with k__law_with,
    b__law_with := (fun_mk (st := S__law_with) l__law_with c__law_with k__law_with).binds (ps := ["_law_rules_here", "_law_mark", "_law_begin", "_law_ways"]) fun _ _ _ _ _ _ us hl => match us, hl with | [_, _, _, _], _ => rfl,
    g__law_with := PySem.W.mg_of X G a__law_with,
    a__law_looser_rules := f__law_looser_rules,
    fd__law_looser_rules := _,
    F__law_looser_rules := fun_mk (st := S__law_looser_rules) l__law_looser_rules c__law_looser_rules k__law_looser_rules,
    b__law_looser_rules := (fun_mk (st := S__law_looser_rules) l__law_looser_rules c__law_looser_rules k__law_looser_rules).binds (ps := ["_law_rules_here"]) fun _ _ _ _ _ _ us hl => match us, hl with | [_], _ => rfl,
    g__law_looser_rules := PySem.W.mg_of X G a__law_looser_rules,
    a__law_set := f__law_set,
    fd__law_set := _,
    F__law_set := fun_mk (st := S__law_set) l__law_set c__law_set k__law_set,
    b__law_set := (fun_mk (st := S__law_set) l__law_set c__law_set k__law_set).binds (ps := ["_law_policy_here", "_law_rules_here"]) fun _ _ _ _ _ _ us hl => match us, hl with | [_, _], _ => rfl,
    g__law_set := PySem.W.mg_of X G a__law_set,
    a__law_good := f__law_good,
    fd__law_good := _,
    F__law_good := fun_mk (st := S__law_good) l__law_good c__law_good k__law_good,
    b__law_good := (fun_mk (st := S__law_good) l__law_good c__law_good k__law_good).binds (ps := ["_law_found", "_law_shape_here", "_law_due"]) fun _ _ _ _ _ _ us hl => match us, hl with | [_, _, _], _ => rfl,
    g__law_good := PySem.W.mg_of X G a__law_good,
    a_law := fa,
    fd_law := _,
    F_law := fun_mk (st := S_law) l_law c_law k_law,
    b_law := (fun_mk (st := S_law) l_law c_law k_law).binds (ps := ["_law_script"]) fun _ _ _ _ _ _ us hl => match us, hl with | [_], _ => rfl,
    g_law := PySem.W.mg_of X G a_law,
    n_any := PySem.W.mg_none_of X G z_any,
    n_bool := PySem.W.mg_none_of X G z_bool,
    n_enumerate := PySem.W.mg_none_of X G z_enumerate,
    n_int := PySem.W.mg_none_of X G z_int,
    n_isinstance := PySem.W.mg_none_of X G z_isinstance,
    n_iter := PySem.W.mg_none_of X G z_iter,
    n_len := PySem.W.mg_none_of X G z_len,
    n_list := PySem.W.mg_none_of X G z_list,
    n_range := PySem.W.mg_none_of X G z_range,
    n_str := PySem.W.mg_none_of X G z_str,
    n_tuple := PySem.W.mg_none_of X G z_tuple,
    tk_UNLIMITED := tq_UNLIMITED,
    g_UNLIMITED := PySem.W.mg_of X G aq_UNLIMITED,
    k_LEVELS := q_LEVELS,
    g_LEVELS := PySem.W.mg_of X G aq_LEVELS,
    q_LEVELS := fun H => .inr ⟨_, _, _, lq_LEVELS, rfl, rfl, by show 4 ≤ sizeLine; decide, (.cons ⟨_, rfl⟩ (.cons ⟨_, rfl⟩ (.cons ⟨_, rfl⟩ (.cons ⟨_, rfl⟩ .nil))))⟩,
    tk_LETTERS := tq_LETTERS,
    g_LETTERS := PySem.W.mg_of X G aq_LETTERS,
    k_MODES := q_MODES,
    g_MODES := PySem.W.mg_of X G aq_MODES,
    q_MODES := fun H => .inr ⟨_, _, _, lq_MODES, rfl, rfl, by show 2 ≤ sizeLine; decide, (.cons ⟨_, rfl⟩ (.cons ⟨_, rfl⟩ .nil))⟩,
    c_Way := c_Way,
    g_Way := PySem.W.mg_of X G gc_Way,
    cl_Way := ⟨pg_Way, hd_Way, po_Way, sa_Way⟩,
    mk_Way := ⟨mk_Way, a_Way_init, i_Way_init, kc_Way⟩,
    m_Way_lowered := ⟨a_Way_lowered, i_Way_lowered, k_Way_lowered⟩,
    m_Way_eq := ⟨a_Way_eq, i_Way_eq, k_Way_eq⟩,
    ti_Way := fun _ _ _ _ h => .ins h ⟨pg_Way, hd_Way, po_Way, sa_Way⟩ hca_Way hcn_Way hct_Way hcm_Way,
    kk_Way := if_pos (beq_self_eq_true _),
    k_Way_PARTS := q_Way_PARTS,
    cr_Way := ⟨rdc_Way, gac_Way⟩,
    cv_Way_PARTS := ⟨fcl_Way_PARTS, rfl⟩,
    q_Way_PARTS := fun H => .inr ⟨_, _, _, lq_Way_PARTS, rfl, rfl, by show 4 ≤ sizeLine; decide, (.cons ⟨_, rfl⟩ (.cons ⟨_, rfl⟩ (.cons ⟨_, rfl⟩ (.cons ⟨_, rfl⟩ .nil))))⟩,
    no_Way_held := no_Way_held,
    no_Way_owned := no_Way_owned,
    no_Way_seen := no_Way_seen,
    no_Way_early := no_Way_early,
    c_Policy := c_Policy,
    g_Policy := PySem.W.mg_of X G gc_Policy,
    cl_Policy := ⟨pg_Policy, hd_Policy, po_Policy, sa_Policy⟩,
    mk_Policy := ⟨mk_Policy, a_Policy_init, i_Policy_init, kc_Policy⟩,
    m_Policy_iter := ⟨a_Policy_iter, i_Policy_iter, k_Policy_iter⟩,
    m_Policy_len := ⟨a_Policy_len, i_Policy_len, k_Policy_len⟩,
    fi_Policy_getitem := fi_Policy_getitem,
    m_Policy_getitem := ⟨a_Policy_getitem, i_Policy_getitem, k_Policy_getitem⟩,
    nq_Policy := nq_Policy,
    m_Policy_setitem := ⟨a_Policy_setitem, i_Policy_setitem, k_Policy_setitem⟩,
    m_Policy_copy := ⟨a_Policy_copy, i_Policy_copy, k_Policy_copy⟩,
    ti_Policy := fun _ _ _ _ h => .ins h ⟨pg_Policy, hd_Policy, po_Policy, sa_Policy⟩ hca_Policy hcn_Policy hct_Policy hcm_Policy,
    kk_Policy := if_pos (beq_self_eq_true _),
    no_Policy_shape := no_Policy_shape,
    no_Policy__marks := no_Policy__marks,
    no_Policy__starts := no_Policy__starts,
    no_Policy__ways := no_Policy__ways,
    c_Shape := c_Shape,
    g_Shape := PySem.W.mg_of X G gc_Shape,
    cl_Shape := ⟨pg_Shape, hd_Shape, po_Shape, sa_Shape⟩,
    mk_Shape := ⟨mk_Shape, a_Shape_init, i_Shape_init, kc_Shape⟩,
    m_Shape_iter := ⟨a_Shape_iter, i_Shape_iter, k_Shape_iter⟩,
    m_Shape_len := ⟨a_Shape_len, i_Shape_len, k_Shape_len⟩,
    m_Shape_eq := ⟨a_Shape_eq, i_Shape_eq, k_Shape_eq⟩,
    ti_Shape := fun _ _ _ _ h => .ins h ⟨pg_Shape, hd_Shape, po_Shape, sa_Shape⟩ hca_Shape hcn_Shape hct_Shape hcm_Shape,
    kk_Shape := if_pos (beq_self_eq_true _),
    cr_Shape := ⟨rdc_Shape, gac_Shape⟩,
    tk_Shape_MARKS := ti_Shape_MARKS,
    cv_Shape_MARKS := ⟨fcl_Shape_MARKS, ⟨_, rfl⟩⟩,
    tk_Shape_PARENTS := ti_Shape_PARENTS,
    cv_Shape_PARENTS := ⟨fcl_Shape_PARENTS, ⟨_, rfl⟩⟩,
    no_Shape__listed := no_Shape__listed,
    no_Shape__marks := no_Shape__marks,
    kb_Way_init_4_early := Hkb_Way_init_4_early,
    kb_Way_init_4 := Hkb_Way_init_4,
    kb_Policy_init_2 := Hkb_Policy_init_2,
    kb_Policy_init_3 := Hkb_Policy_init_3,
    c_BadShape := c_BadShape,
    g_BadShape := PySem.W.mg_of X G gc_BadShape,
    c_UnknownMark := c_UnknownMark,
    g_UnknownMark := PySem.W.mg_of X G gc_UnknownMark,
    c_TooLarge := c_TooLarge,
    g_TooLarge := PySem.W.mg_of X G gc_TooLarge,
    c_BadLevel := c_BadLevel,
    g_BadLevel := PySem.W.mg_of X G gc_BadLevel,
    x_BadShape := XT_BadShape,
    xc_BadShape := ⟨xga_BadShape, xgg_BadShape, xb_BadShape, xd_BadShape, xha_BadShape, x_hn, x_ht, xhm_BadShape⟩,
    xn_BadShape := xno_BadShape,
    x_UnknownMark := XT_UnknownMark,
    xc_UnknownMark := ⟨xga_UnknownMark, xgg_UnknownMark, xb_UnknownMark, xd_UnknownMark, xha_UnknownMark, x_hn, x_ht, xhm_UnknownMark⟩,
    xn_UnknownMark := xno_UnknownMark,
    x_TooLarge := XT_TooLarge,
    xc_TooLarge := ⟨xga_TooLarge, xgg_TooLarge, xb_TooLarge, xd_TooLarge, xha_TooLarge, x_hn, x_ht, xhm_TooLarge⟩,
    xn_TooLarge := xno_TooLarge,
    x_BadLevel := XT_BadLevel,
    xc_BadLevel := ⟨xga_BadLevel, xgg_BadLevel, xb_BadLevel, xd_BadLevel, xha_BadLevel, x_hn, x_ht, xhm_BadLevel⟩,
    xn_BadLevel := xno_BadLevel }
  exact ⟨T.fd_law, fun s v => .of_eq rfl, fun base _ _ => ok_law T⟩
end My
open PySem PySem.W PyProof.Rows in
set_option maxRecDepth 100000 in
set_option maxHeartbeats 0 in
theorem PySem.Challenge.cw_weblocks_k60_loosenings_in_order_holds : PySem.Challenge.rw_weblocks_k60_loosenings_in_order.Holds := by
  have fill : ∀ R : _ → _ → Prop, R PySem.Challenge.rw_weblocks_k60_loosenings_in_order My.kK → R PySem.Challenge.rw_weblocks_k60_loosenings_in_order My.kK := by
    dsimp only [My.kK, My.HM.K]
    k_fill
    exact fun _ h => h
  clear fill
  refine My.hSmall ?_
  refine L2.walk_of (l := PySem.Challenge.rw_weblocks_k60_loosenings_in_order) (n := 63) (k := 24) (x := "_law_script") (CX := fun _ => L2.CX0) (sp := fun w => My.spLaw _) rfl (by decide) (by kernel_rfl) ⟨rfl, by decide, by decide⟩ (fun w h Y => PySem.W.kIn_of Y) ?F (fun _ _ a ns hl _ hS => ⟨a, ns, rfl, hS, hl, fun _ => rfl⟩) (fun _ _ _ _ _ h => h)
  case F =>
    intro w mg fa h KX G hmg
    have en : My.hD.name = ("law" : PySem.Str) := by kernel_rfl
    rw [en] at hmg
    dsimp only [My.kK, My.HM.K] at KX ⊢
    refine' My.all_mk KX G hmg ?gc_Way ?gc_Policy ?gc_Shape ?a_rank ?l_rank ?c_rank ?k_rank ?a_Way_init ?l_Way_init ?c_Way_init ?k_Way_init ?lt_Way_init ?nk_Way_init_early ?a_Way_lowered ?l_Way_lowered ?c_Way_lowered ?k_Way_lowered ?a_Way_eq ?l_Way_eq ?c_Way_eq ?k_Way_eq ?a_changed ?l_changed ?c_changed ?k_changed ?a_with_way ?l_with_way ?c_with_way ?k_with_way ?a_loosenings ?l_loosenings ?c_loosenings ?k_loosenings ?a_Policy_init ?l_Policy_init ?c_Policy_init ?k_Policy_init ?lt_Policy_init ?le_Policy_init_0 ?a_Policy_iter ?l_Policy_iter ?c_Policy_iter ?k_Policy_iter ?a_Policy_len ?l_Policy_len ?c_Policy_len ?k_Policy_len ?a_Policy_getitem ?l_Policy_getitem ?c_Policy_getitem ?k_Policy_getitem ?a_Policy_setitem ?l_Policy_setitem ?c_Policy_setitem ?k_Policy_setitem ?a_Policy_copy ?l_Policy_copy ?c_Policy_copy ?k_Policy_copy ?a_is_mark ?l_is_mark ?c_is_mark ?k_is_mark ?a_sound_row ?l_sound_row ?c_sound_row ?k_sound_row ?a_barren ?l_barren ?c_barren ?k_barren ?a_Shape_init ?l_Shape_init ?c_Shape_init ?k_Shape_init ?a_Shape_iter ?l_Shape_iter ?c_Shape_iter ?k_Shape_iter ?a_Shape_len ?l_Shape_len ?c_Shape_len ?k_Shape_len ?a_Shape_eq ?l_Shape_eq ?c_Shape_eq ?k_Shape_eq ?a__law_draws ?l__law_draws ?c__law_draws ?k__law_draws ?a__law_take ?l__law_take ?c__law_take ?k__law_take ?a__law_same ?l__law_same ?c__law_same ?k__law_same ?a__law_marks ?l__law_marks ?c__law_marks ?k__law_marks ?a__law_rows ?l__law_rows ?c__law_rows ?k__law_rows ?a__law_way ?l__law_way ?c__law_way ?k__law_way ?a__law_rules ?l__law_rules ?c__law_rules ?k__law_rules ?a__law_shape ?l__law_shape ?c__law_shape ?k__law_shape ?a__law_way_made ?l__law_way_made ?c__law_way_made ?k__law_way_made ?a__law_policy ?l__law_policy ?c__law_policy ?k__law_policy ?a__law_reads ?l__law_reads ?c__law_reads ?k__law_reads ?a__law_lowered ?l__law_lowered ?c__law_lowered ?k__law_lowered ?a__law_with ?l__law_with ?c__law_with ?k__law_with ?a__law_looser_rules ?l__law_looser_rules ?c__law_looser_rules ?k__law_looser_rules ?a__law_set ?l__law_set ?c__law_set ?k__law_set ?a__law_good ?l__law_good ?c__law_good ?k__law_good ?a_law ?l_law ?c_law ?k_law ?z_any ?z_bool ?z_enumerate ?z_int ?z_isinstance ?z_iter ?z_len ?z_list ?z_range ?z_str ?z_tuple ?aq_UNLIMITED ?aq_LEVELS ?lq_LEVELS ?aq_LETTERS ?aq_MODES ?lq_MODES ?pg_Way ?hd_Way ?po_Way ?sa_Way ?kc_Way ?i_Way_init ?mk_Way ?i_Way_lowered ?i_Way_eq ?hca_Way ?hcn_Way ?hct_Way ?hcm_Way ?rdc_Way ?gac_Way ?fcl_Way_PARTS ?lq_Way_PARTS ?no_Way_held ?no_Way_owned ?no_Way_seen ?no_Way_early ?pg_Policy ?hd_Policy ?po_Policy ?sa_Policy ?kc_Policy ?i_Policy_init ?mk_Policy ?i_Policy_iter ?i_Policy_len ?fi_Policy_getitem ?i_Policy_getitem ?nq_Policy ?i_Policy_setitem ?i_Policy_copy ?hca_Policy ?hcn_Policy ?hct_Policy ?hcm_Policy ?no_Policy_shape ?no_Policy__marks ?no_Policy__starts ?no_Policy__ways ?pg_Shape ?hd_Shape ?po_Shape ?sa_Shape ?kc_Shape ?i_Shape_init ?mk_Shape ?i_Shape_iter ?i_Shape_len ?i_Shape_eq ?hca_Shape ?hcn_Shape ?hct_Shape ?hcm_Shape ?rdc_Shape ?gac_Shape ?fcl_Shape_MARKS ?fcl_Shape_PARENTS ?no_Shape__listed ?no_Shape__marks ?gc_BadShape ?gc_UnknownMark ?gc_TooLarge ?gc_BadLevel ?xz_super ?x_opq ?x_hn ?x_ht ?xl_BadShape ?xsa_BadShape ?xga_BadShape ?xgg_BadShape ?xno_BadShape ?xk_BadShape ?xb_BadShape ?xt_BadShape ?xd_BadShape ?xi_BadShape ?xf_BadShape ?xfl_BadShape ?xci_BadShape ?xcc_BadShape ?xcd_BadShape ?xvs_BadShape ?xfi_BadShape ?xnx_BadShape ?xsl_BadShape ?xsu_BadShape ?xha_BadShape ?xhm_BadShape ?xl_UnknownMark ?xsa_UnknownMark ?xga_UnknownMark ?xgg_UnknownMark ?xno_UnknownMark ?xk_UnknownMark ?xb_UnknownMark ?xt_UnknownMark ?xd_UnknownMark ?xi_UnknownMark ?xf_UnknownMark ?xfl_UnknownMark ?xci_UnknownMark ?xcc_UnknownMark ?xcd_UnknownMark ?xvs_UnknownMark ?xfi_UnknownMark ?xnx_UnknownMark ?xsl_UnknownMark ?xsu_UnknownMark ?xha_UnknownMark ?xhm_UnknownMark ?xl_TooLarge ?xsa_TooLarge ?xga_TooLarge ?xgg_TooLarge ?xno_TooLarge ?xk_TooLarge ?xb_TooLarge ?xt_TooLarge ?xd_TooLarge ?xi_TooLarge ?xf_TooLarge ?xfl_TooLarge ?xci_TooLarge ?xcc_TooLarge ?xcd_TooLarge ?xvs_TooLarge ?xfi_TooLarge ?xnx_TooLarge ?xsl_TooLarge ?xsu_TooLarge ?xha_TooLarge ?xhm_TooLarge ?xl_BadLevel ?xsa_BadLevel ?xga_BadLevel ?xgg_BadLevel ?xno_BadLevel ?xk_BadLevel ?xb_BadLevel ?xt_BadLevel ?xd_BadLevel ?xi_BadLevel ?xf_BadLevel ?xfl_BadLevel ?xci_BadLevel ?xcc_BadLevel ?xcd_BadLevel ?xvs_BadLevel ?xfi_BadLevel ?xnx_BadLevel ?xsl_BadLevel ?xsu_BadLevel ?xha_BadLevel ?xhm_BadLevel
    (case gc_Way => k_is)
    (case gc_Policy => k_is)
    (case gc_Shape => k_is)
    (case a_rank => k_is)
    (case l_rank => k_is)
    (case c_rank => k_is)
    (case k_rank => k_is)
    (case a_Way_init => k_is)
    (case l_Way_init => k_is)
    (case c_Way_init => k_is)
    (case k_Way_init => k_is)
    (case lt_Way_init => k_is)
    (case nk_Way_init_early => k_is)
    (case a_Way_lowered => k_is)
    (case l_Way_lowered => k_is)
    (case c_Way_lowered => k_is)
    (case k_Way_lowered => k_is)
    (case a_Way_eq => k_is)
    (case l_Way_eq => k_is)
    (case c_Way_eq => k_is)
    (case k_Way_eq => k_is)
    (case a_changed => k_is)
    (case l_changed => k_is)
    (case c_changed => k_is)
    (case k_changed => k_is)
    (case a_with_way => k_is)
    (case l_with_way => k_is)
    (case c_with_way => k_is)
    (case k_with_way => k_is)
    (case a_loosenings => k_is)
    (case l_loosenings => k_is)
    (case c_loosenings => k_is)
    (case k_loosenings => k_is)
    (case a_Policy_init => k_is)
    (case l_Policy_init => k_is)
    (case c_Policy_init => k_is)
    (case k_Policy_init => k_is)
    (case lt_Policy_init => k_is)
    (case le_Policy_init_0 => k_is)
    (case a_Policy_iter => k_is)
    (case l_Policy_iter => k_is)
    (case c_Policy_iter => k_is)
    (case k_Policy_iter => k_is)
    (case a_Policy_len => k_is)
    (case l_Policy_len => k_is)
    (case c_Policy_len => k_is)
    (case k_Policy_len => k_is)
    (case a_Policy_getitem => k_is)
    (case l_Policy_getitem => k_is)
    (case c_Policy_getitem => k_is)
    (case k_Policy_getitem => k_is)
    (case a_Policy_setitem => k_is)
    (case l_Policy_setitem => k_is)
    (case c_Policy_setitem => k_is)
    (case k_Policy_setitem => k_is)
    (case a_Policy_copy => k_is)
    (case l_Policy_copy => k_is)
    (case c_Policy_copy => k_is)
    (case k_Policy_copy => k_is)
    (case a_is_mark => k_is)
    (case l_is_mark => k_is)
    (case c_is_mark => k_is)
    (case k_is_mark => k_is)
    (case a_sound_row => k_is)
    (case l_sound_row => k_is)
    (case c_sound_row => k_is)
    (case k_sound_row => k_is)
    (case a_barren => k_is)
    (case l_barren => k_is)
    (case c_barren => k_is)
    (case k_barren => k_is)
    (case a_Shape_init => k_is)
    (case l_Shape_init => k_is)
    (case c_Shape_init => k_is)
    (case k_Shape_init => k_is)
    (case a_Shape_iter => k_is)
    (case l_Shape_iter => k_is)
    (case c_Shape_iter => k_is)
    (case k_Shape_iter => k_is)
    (case a_Shape_len => k_is)
    (case l_Shape_len => k_is)
    (case c_Shape_len => k_is)
    (case k_Shape_len => k_is)
    (case a_Shape_eq => k_is)
    (case l_Shape_eq => k_is)
    (case c_Shape_eq => k_is)
    (case k_Shape_eq => k_is)
    (case a__law_draws => k_is)
    (case l__law_draws => k_is)
    (case c__law_draws => k_is)
    (case k__law_draws => k_is)
    (case a__law_take => k_is)
    (case l__law_take => k_is)
    (case c__law_take => k_is)
    (case k__law_take => k_is)
    (case a__law_same => k_is)
    (case l__law_same => k_is)
    (case c__law_same => k_is)
    (case k__law_same => k_is)
    (case a__law_marks => k_is)
    (case l__law_marks => k_is)
    (case c__law_marks => k_is)
    (case k__law_marks => k_is)
    (case a__law_rows => k_is)
    (case l__law_rows => k_is)
    (case c__law_rows => k_is)
    (case k__law_rows => k_is)
    (case a__law_way => k_is)
    (case l__law_way => k_is)
    (case c__law_way => k_is)
    (case k__law_way => k_is)
    (case a__law_rules => k_is)
    (case l__law_rules => k_is)
    (case c__law_rules => k_is)
    (case k__law_rules => k_is)
    (case a__law_shape => k_is)
    (case l__law_shape => k_is)
    (case c__law_shape => k_is)
    (case k__law_shape => k_is)
    (case a__law_way_made => k_is)
    (case l__law_way_made => k_is)
    (case c__law_way_made => k_is)
    (case k__law_way_made => k_is)
    (case a__law_policy => k_is)
    (case l__law_policy => k_is)
    (case c__law_policy => k_is)
    (case k__law_policy => k_is)
    (case a__law_reads => k_is)
    (case l__law_reads => k_is)
    (case c__law_reads => k_is)
    (case k__law_reads => k_is)
    (case a__law_lowered => k_is)
    (case l__law_lowered => k_is)
    (case c__law_lowered => k_is)
    (case k__law_lowered => k_is)
    (case a__law_with => k_is)
    (case l__law_with => k_is)
    (case c__law_with => k_is)
    (case k__law_with => k_is)
    (case a__law_looser_rules => k_is)
    (case l__law_looser_rules => k_is)
    (case c__law_looser_rules => k_is)
    (case k__law_looser_rules => k_is)
    (case a__law_set => k_is)
    (case l__law_set => k_is)
    (case c__law_set => k_is)
    (case k__law_set => k_is)
    (case a__law_good => k_is)
    (case l__law_good => k_is)
    (case c__law_good => k_is)
    (case k__law_good => k_is)
    (case a_law => k_is)
    (case l_law => k_is)
    (case c_law => k_is)
    (case k_law => k_is)
    (case z_any => k_is)
    (case z_bool => k_is)
    (case z_enumerate => k_is)
    (case z_int => k_is)
    (case z_isinstance => k_is)
    (case z_iter => k_is)
    (case z_len => k_is)
    (case z_list => k_is)
    (case z_range => k_is)
    (case z_str => k_is)
    (case z_tuple => k_is)
    (case aq_UNLIMITED => k_is)
    (case aq_LEVELS => k_is)
    (case lq_LEVELS => k_is)
    (case aq_LETTERS => k_is)
    (case aq_MODES => k_is)
    (case lq_MODES => k_is)
    (case pg_Way => k_is)
    (case hd_Way => k_is)
    (case po_Way => k_is)
    (case sa_Way => k_is)
    (case kc_Way => k_is)
    (case i_Way_init => k_is)
    (case mk_Way => k_is)
    (case i_Way_lowered => k_is)
    (case i_Way_eq => k_is)
    (case hca_Way => k_is)
    (case hcn_Way => k_is)
    (case hct_Way => k_is)
    (case hcm_Way => k_is)
    (case rdc_Way => k_is)
    (case gac_Way => k_is)
    (case fcl_Way_PARTS => k_is)
    (case lq_Way_PARTS => k_is)
    (case no_Way_held => k_is)
    (case no_Way_owned => k_is)
    (case no_Way_seen => k_is)
    (case no_Way_early => k_is)
    (case pg_Policy => k_is)
    (case hd_Policy => k_is)
    (case po_Policy => k_is)
    (case sa_Policy => k_is)
    (case kc_Policy => k_is)
    (case i_Policy_init => k_is)
    (case mk_Policy => k_is)
    (case i_Policy_iter => k_is)
    (case i_Policy_len => k_is)
    (case fi_Policy_getitem => k_is)
    (case i_Policy_getitem => k_is)
    (case nq_Policy => k_is)
    (case i_Policy_setitem => k_is)
    (case i_Policy_copy => k_is)
    (case hca_Policy => k_is)
    (case hcn_Policy => k_is)
    (case hct_Policy => k_is)
    (case hcm_Policy => k_is)
    (case no_Policy_shape => k_is)
    (case no_Policy__marks => k_is)
    (case no_Policy__starts => k_is)
    (case no_Policy__ways => k_is)
    (case pg_Shape => k_is)
    (case hd_Shape => k_is)
    (case po_Shape => k_is)
    (case sa_Shape => k_is)
    (case kc_Shape => k_is)
    (case i_Shape_init => k_is)
    (case mk_Shape => k_is)
    (case i_Shape_iter => k_is)
    (case i_Shape_len => k_is)
    (case i_Shape_eq => k_is)
    (case hca_Shape => k_is)
    (case hcn_Shape => k_is)
    (case hct_Shape => k_is)
    (case hcm_Shape => k_is)
    (case rdc_Shape => k_is)
    (case gac_Shape => k_is)
    (case fcl_Shape_MARKS => k_is)
    (case fcl_Shape_PARENTS => k_is)
    (case no_Shape__listed => k_is)
    (case no_Shape__marks => k_is)
    (case gc_BadShape => k_is)
    (case gc_UnknownMark => k_is)
    (case gc_TooLarge => k_is)
    (case gc_BadLevel => k_is)
    (case xz_super => k_is)
    (case x_opq => k_is)
    (case x_hn => k_is)
    (case x_ht => k_is)
    (case xl_BadShape => k_is)
    (case xsa_BadShape => k_is)
    (case xga_BadShape => k_is)
    (case xgg_BadShape => k_is)
    (case xno_BadShape => k_is)
    (case xk_BadShape => k_is)
    (case xb_BadShape => k_is)
    (case xt_BadShape => k_is)
    (case xd_BadShape => k_is)
    (case xi_BadShape => k_is)
    (case xf_BadShape => k_is)
    (case xfl_BadShape => k_is)
    (case xci_BadShape => k_is)
    (case xcc_BadShape => k_is)
    (case xcd_BadShape => k_is)
    (case xvs_BadShape => rfl)
    (case xfi_BadShape => first | rfl | decide +kernel)
    (case xnx_BadShape => ks_is)
    (case xsl_BadShape => k_is)
    (case xsu_BadShape => k_is)
    (case xha_BadShape => k_is)
    (case xhm_BadShape => k_is)
    (case xl_UnknownMark => k_is)
    (case xsa_UnknownMark => k_is)
    (case xga_UnknownMark => k_is)
    (case xgg_UnknownMark => k_is)
    (case xno_UnknownMark => k_is)
    (case xk_UnknownMark => k_is)
    (case xb_UnknownMark => k_is)
    (case xt_UnknownMark => k_is)
    (case xd_UnknownMark => k_is)
    (case xi_UnknownMark => k_is)
    (case xf_UnknownMark => k_is)
    (case xfl_UnknownMark => k_is)
    (case xci_UnknownMark => k_is)
    (case xcc_UnknownMark => k_is)
    (case xcd_UnknownMark => k_is)
    (case xvs_UnknownMark => rfl)
    (case xfi_UnknownMark => first | rfl | decide +kernel)
    (case xnx_UnknownMark => ks_is)
    (case xsl_UnknownMark => k_is)
    (case xsu_UnknownMark => k_is)
    (case xha_UnknownMark => k_is)
    (case xhm_UnknownMark => k_is)
    (case xl_TooLarge => k_is)
    (case xsa_TooLarge => k_is)
    (case xga_TooLarge => k_is)
    (case xgg_TooLarge => k_is)
    (case xno_TooLarge => k_is)
    (case xk_TooLarge => k_is)
    (case xb_TooLarge => k_is)
    (case xt_TooLarge => k_is)
    (case xd_TooLarge => k_is)
    (case xi_TooLarge => k_is)
    (case xf_TooLarge => k_is)
    (case xfl_TooLarge => k_is)
    (case xci_TooLarge => k_is)
    (case xcc_TooLarge => k_is)
    (case xcd_TooLarge => k_is)
    (case xvs_TooLarge => rfl)
    (case xfi_TooLarge => first | rfl | decide +kernel)
    (case xnx_TooLarge => ks_is)
    (case xsl_TooLarge => k_is)
    (case xsu_TooLarge => k_is)
    (case xha_TooLarge => k_is)
    (case xhm_TooLarge => k_is)
    (case xl_BadLevel => k_is)
    (case xsa_BadLevel => k_is)
    (case xga_BadLevel => k_is)
    (case xgg_BadLevel => k_is)
    (case xno_BadLevel => k_is)
    (case xk_BadLevel => k_is)
    (case xb_BadLevel => k_is)
    (case xt_BadLevel => k_is)
    (case xd_BadLevel => k_is)
    (case xi_BadLevel => k_is)
    (case xf_BadLevel => k_is)
    (case xfl_BadLevel => k_is)
    (case xci_BadLevel => k_is)
    (case xcc_BadLevel => k_is)
    (case xcd_BadLevel => k_is)
    (case xvs_BadLevel => rfl)
    (case xfi_BadLevel => first | rfl | decide +kernel)
    (case xnx_BadLevel => ks_is)
    (case xsl_BadLevel => k_is)
    (case xsu_BadLevel => k_is)
    (case xha_BadLevel => k_is)
    (case xhm_BadLevel => k_is)
#print axioms PySem.Challenge.cw_weblocks_k60_loosenings_in_order_holds
