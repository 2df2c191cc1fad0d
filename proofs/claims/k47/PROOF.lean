import PyProof.Rows.All
import Wide.All
import OpenK.AllK
import Wide.FinOn
import HandS.ForMost
import KE.GoesMore
import HandS.Codes
import HandS.IsInst
import HandS.Defaults
import HandS.MakeKw
import HandS.MakeKwOnly
import HandS.SlotsOwn
import HandS.ForExc
import HandS.ExcIs
import HandS.ExcField
import HandS.CallSlots
import KE.KExcIs
import KE.KExcSuper
import KE.KExcMake
import KE.RegKSuper
import HandS.ClsMeth
import KE.KCallOwn
import HandS.IterVal
import KE.KOwnIter
import HandS.Star
import KE.KOpsOwn
import HandS.Property
import KE.KStar
import HandS.Text
import HandS.StrMore
import HandS.Steps
import HandS.TryOnly
import HandS.Exc
import HandS.ExcOwn
import HandS.Comp
import HandS.OwnIter
import PyProof.StrLawsChain
import PyProof.Rows.StrItems
import HandS.Iter
import HandS.HotCalls
import HandS.WordsDict
import HandS.Conv
import HandS.More
import KE.OsRunLaw
import HandS.Walk
import HandS.Head0
import HandS.Head1
import HandS.Head2
import HandS.Style
import HandS.DictTup
import HandS.DictComp
import HandS.Dict
import HandS.Deep
import HandS.GenCall
import HandS.GenYield
import HandS.GenList
import HandS.GenOver
import HandS.TryMany
import PySem.Challenge.RW_weblocks_k47_faults_in_order
set_option Elab.async false
set_option linter.all false
set_option maxRecDepth 100000
set_option maxHeartbeats 4000000
namespace My
open PySem PySem.W
theorem HM.key {A : World → OsState → Prop} {B C : Prop} (hA : (∀ w os, A w os) ∧ B) (main : C) : C := main
abbrev HM.K {α β δ : Type} {B C : Prop} {o : World → OsState → Option δ} {f1 : World → δ → α} {f2 : World → δ → β} {g : δ → Addr → Option Obj} {as : List Addr} {b1 : World → α} {b2 : World → β} {Kf : Params → Frag} (_ : (∀ w os, (o w os).map (fun s => (f1 w s, f2 w s, as.map (g s))) = some (b1 w, b2 w, (Kf w.params).map fun x => some x.2)) ∧ B → C) : Params → Frag := Kf
abbrev HM.as {α β δ : Type} {B C : Prop} {o : World → OsState → Option δ} {f1 : World → δ → α} {f2 : World → δ → β} {g : δ → Addr → Option Obj} {as : List Addr} {b1 : World → α} {b2 : World → β} {Kf : Params → Frag} (_ : (∀ w os, (o w os).map (fun s => (f1 w s, f2 w s, as.map (g s))) = some (b1 w, b2 w, (Kf w.params).map fun x => some x.2)) ∧ B → C) : List Addr := as
section
local macro_rules | `(tactic| k_head) => do
  let h := Lean.mkIdent `hA
  let m := Lean.mkIdent `main
  `(tactic| (rename_i said; revert said; apply HM.key; (case' $m:ident => (intro said; k_headL)); (case' hc => exact (?$h).2)))
local macro_rules | `(tactic| kernel_rfl%$tk) => do
  match tk.getHeadInfo with
  | .none => Lean.Macro.throwUnsupported
  | _ =>
    let k : Lean.TSyntax `tactic := ⟨Lean.Syntax.node .none `tacticKernel_rfl #[.atom .none "kernel_rfl"]⟩
    let h := Lean.mkIdent `hA
    `(tactic| first | (rename_i sd w os; have e := (?$h); exact And.left e w os) | $k:tactic)
set_option maxHeartbeats 0 in
open_top hd for PySem.Challenge.rw_weblocks_k47_faults_in_order
end
set_option maxHeartbeats 0
noncomputable section
abbrev kK : Params → Frag := HM.K My.hd
abbrev kAs : List Addr := HM.as My.hd
theorem kEq : ∀ P, kAs = (kK P).map (·.1) := fun _ => by kernel_rfl
abbrev hR : OpenRow := OpenLaw.row PySem.Challenge.rw_weblocks_k47_faults_in_order
abbrev hQ : Program := view hR.prog [81]
def hN0 : List PySem.Str := ["_wall", "UNLIMITED", "kinds", "supply", "fits", "first_rung", "ladder", "reached", "reaches", "meeting_at", "meeting", "neighbours", "ahead_of", "same_start", "faults_at", "faults", "is_safe", "WebError", "BadLevel", "BadShape", "UnknownMark", "OtherShape", "TooLarge", "BadText", "LEVELS", "rank", "needed", "higher", "lesser", "Way"]
def hN1 : List PySem.Str := ["way_of", "trimmed", "same_shape", "met", "either", "all_counts", "possible", "permitted", "gap_at", "gap", "included", "Policy", "LETTERS", "MODES", "is_mark", "sound_row", "barren", "Shape", "_law_draws", "_law_take", "_law_same", "_law_marks", "_law_rows", "_law_way", "_law_rules", "_law_number", "_law_shape", "_law_way_made", "_law_policy", "_law_loose"]
def hN2 : List PySem.Str := ["_law_wider", "_law_kinds", "_law_supply", "_law_fits", "_law_reached", "_law_meeting", "_law_links", "_law_joined", "_law_table", "_law_same_fault", "_law_faults_at", "_law_faults"]
def hN : List PySem.Str := hN0 ++ hN1 ++ hN2
abbrev hH : Hook := kHook kK kAs kEq
abbrev hOb (s : SharedT) : List (Option Obj) := kAs.map (HandSHeadRun.getT s)
theorem hObE (s : SharedT) : hOb s = hH.obs s.abs := List.map_congr_left fun a _ => HandSHeadRun.getT_eq s a
theorem hRun (w : World) : HandSHeadRun.RunEq hR hQ hH hOb 40000 hN w := by
  intro os
  kernel_rfl
abbrev hD : DefRec := HandSHeadRun.topDef hR.prog 81
theorem hSmall (call : WalkO hQ hN (XL hQ []) hH.says hR.toRowW hD [] fun f vs => PySem.call f vs) : (PySem.Challenge.rw_weblocks_k47_faults_in_order).Holds := by
  w_on; o_law
  refine HandSHeadRun.head_any (r := hR) (q := hQ) (H := hH) (ob := hOb) (M := 40000) (loose := hN) (d := hD) (kwd := []) hObE
    (by kernel_rfl) (fun s => by kernel_rfl) hRun (by kernel_rfl) (by kernel_rfl) (by kernel_rfl) (by rfl)
    (by first | assumption | decide +kernel) (by decide +kernel) ⟨rfl, rfl, rfl, rfl, rfl, by decide +kernel⟩ ?hw ?hc
  case hw => w_witness2
  case hc => exact call
end
end My
local macro_rules | `(tactic| walk_at "sd") => `(tactic| first | assumption | omega | decide | rfl | (refine And.intro ?_ ?_ <;> walk_at "sd") | (show _ < PySem.sizeLine; exact Nat.lt_of_le_of_lt (by omega : _ ≤ 100000) (by decide)) | (show _ ≤ PySem.sizeLine; exact Nat.le_trans (by omega : _ ≤ 100000) (by decide)))
local macro_rules | `(tactic| walk_at "hl") => `(tactic| first | assumption | exact L2.upd_same | (refine (L2.upd_ne ?_).trans ?_; (walk_at "ne"); (walk_at "hl")))
local macro_rules | `(tactic| walk_at "ne") => `(tactic| first | assumption | (apply Ne.symm; assumption) | (refine L2.ne_of_none ?_ (by assumption); walk_at "hl") | (apply Ne.symm; refine L2.ne_of_none ?_ (by assumption); walk_at "hl") | (refine L2.ne_of (o := L2.HO.lst _) (u := L2.HO.tup _) ?_ ?_ (by intro z; cases z) <;> walk_at "hl"))
local macro_rules | `(tactic| walk_at "sq") => `(tactic| first | assumption | exact .inl (.inl (by walk_at "hl")) | exact .inl (.inl (.inl (by walk_at "hl"))) | exact .inr (.inl (.inl (by walk_at "hl"))) | exact .inl (by assumption) | exact .inr (by assumption))
local macro_rules | `(tactic| walk_at "at") => `(tactic| first | assumption | exact rfl | exact L2.atI_nat (j := 0) rfl | exact L2.atI_nat (j := 1) rfl | exact L2.atI_nat (j := 2) rfl | exact L2.atI_nat (j := 3) rfl | exact L2.atI_nat rfl | exact L2.atI_nat (by assumption))
local macro_rules | `(tactic| walk_at "r1") => `(tactic| first
  | (refine ⟨_, rfl, ?_⟩)
  | (refine ⟨_, _, rfl, rfl, ?_⟩)
  | (refine ⟨_, _, _, _, rfl, rfl, (by walk_at "sq"), (by walk_at "at"), ?_⟩)
  | (refine ⟨_, _, rfl, (by walk_at "sq"), ?_⟩)
  | (refine ⟨.inl ⟨rfl, _, L2.SqL.of (by walk_at "hl")⟩, ?_⟩)
  | (refine ⟨_, _, _, rfl, rfl, (by walk_at "hl"), (by walk_at "sd"), ?_⟩)
  | (refine ⟨_, _, _, _, rfl, rfl, (by walk_at "hl"), rfl, ?_⟩)
  | (refine And.intro (by walk_at "sd") ?_)
  | (refine .inl ⟨_, rfl, ?_⟩))
local macro_rules | `(tactic| walk_at "rd") => `(tactic| repeat walk_at "r1")
/-! ### enumerate over a tuple -/
namespace PySem
open AutoSeq1 (wpAny_loadPart')
set_option maxHeartbeats 1000000 in
theorem meets_enumerate_newT (l : Addr) (items : Array Value) :
    Meets (Builtin.«enumerate.__new__» ⟨[.type "enumerate", .ref l], []⟩) (fun _ R s => s.heap.IsTuple l items ∧
      R (.ok (.ret (.ref (s.heap.push { cls := .type "tuple_iterator", data := .fields #[.ref l, .int 0 0] }).objs.size)))
        { s with heap := (s.heap.push { cls := .type "tuple_iterator", data := .fields #[.ref l, .int 0 0] }).push { cls := .type "enumerate", data := .fields #[.none, .bool false, .ref s.heap.objs.size, rawInt 0, .none, .none] } }) :=
  .of_wp fun prog w A R s h => by
    obtain ⟨hp, g, d, tk, os⟩ := s; obtain ⟨hL, h⟩ := h
    have hsub := sub_enumerate
    wp_walk using wpAny_pyIter_tuple hL
    refine wpAny_stack_any fun st => wpAny_pure ?_
    split
    · rename_i c _ _ _ _ _
      cases (c == Value.type "enumerate")
      · wp_walk using wpAny_pyIter_tuple hL
        exact ⟨_, rfl, h⟩
      · wp_walk using wpAny_pyIter_tuple hL
        exact ⟨_, rfl, h⟩
    · wp_walk using wpAny_pyIter_tuple hL
      exact ⟨_, rfl, h⟩
section
variable {prog : Program} {w : World} {A : Around} {E : Value → Shared → Prop} {s : Shared}
theorem call_enumerate_tup {l : Addr} {items : Array Value} {Q : Value → Shared → Prop} (hL : s.heap.IsTuple l items)
    (h : ∀ h', IsEnum h' (s.heap.objs.size + 1) s.heap.objs.size 0 .none → h'.IsTupleIter s.heap.objs.size l 0 → h'.objs.size = s.heap.objs.size + 2 →
      (∀ b o, s.heap.get? b = some o → h'.get? b = some o) → Q (.ref (s.heap.objs.size + 1)) { s with heap := h' }) :
    wpAny (model prog w) A (call (.type "enumerate") [.ref l]) Q E s := by
  refine callType_new F.called_enumerate (by decide) (F.typeCall_enumerate_1 _) (F.newCall_enumerate_1 _) (fun obj => F.args_object_init_2 obj _) F.entry_enumerate_new
    (meets_enumerate_newT l items) ⟨hL, ?_⟩
  have hz : (s.heap.push { cls := .type "tuple_iterator", data := .fields #[.ref l, .int 0 0] }).objs.size = s.heap.objs.size + 1 := Heap.size_push ..
  show _ ∧ _
  rw [hz]
  have he : IsEnum ((s.heap.push { cls := .type "tuple_iterator", data := .fields #[.ref l, .int 0 0] }).push
      { cls := .type "enumerate", data := .fields #[.none, .bool false, .ref s.heap.objs.size, rawInt 0, .none, .none] }) (s.heap.objs.size + 1) s.heap.objs.size 0 .none := by
    have := Heap.get?_push_size (s.heap.push { cls := .type "tuple_iterator", data := .fields #[.ref l, .int 0 0] })
      (o := { cls := .type "enumerate", data := .fields #[.none, .bool false, .ref s.heap.objs.size, rawInt 0, .none, .none] }) rfl
    rw [hz] at this; exact this
  refine ⟨⟨_, he, rfl⟩, h _ he ⟨_, Heap.get?_push_of_some _ (Heap.get?_push_size _ rfl), rfl, rfl⟩ (by rw [Heap.size_push, hz]) fun b o x => Heap.get?_push_of_some _ (Heap.get?_push_of_some _ x)⟩
/-- next of an enumerate whose tuple is at its end -/
theorem wpAny_pyNext_enum_endU {e it l : Addr} {i : Nat} {items : Array Value} {old : Value} {Q : Option Value → Shared → Prop} (hh : A.handled = none) (he : IsEnum s.heap e it i old)
    (hit : s.heap.IsTupleIter it l i) (hl : s.heap.IsTuple l items) (hx : items[i]? = none) (hQ : ∀ h', Heap.ExtBut it s.heap h' → Q none { s with heap := h' }) : wpAny (model prog w) A (pyNext (.ref e)) Q E s := by
  have hT : s.TypeIs (.ref e) "enumerate" := ⟨_, he, rfl⟩
  unfold pyNext
  refine wpAny_bind (wpAny_attempt (wpAny_callSpecial?_slot (name := Str.ofString "__next__") hT F.slot_enumerate_next (wpAny_call_entry F.slot_enumerate_next hT F.entry_enumerate_next ?_ (F.args_enumerate_next_1 _))))
  show wpAny _ _ (field (.ref e) 2 >>= _) _ _ _
  refine wpAny_bind (wpAny_field he rfl (x := .ref it) rfl (wpAny_bind (wpAny_nextOf_tuple_end hh hit hl hx fun h' x he' ⟨o, ho, hc⟩ => ?_)))
  exact wpAny_bind (wpAny_isInstance (T := "StopIteration") (b := true) ⟨o, ho, hc⟩ isSubtype_stop (wpAny_pure (hQ _ he')))
end
end PySem
namespace L2
open PySem PySem.Spec PyProof.Rows
/-- the tuple at a, each item in a new pair -/
def ItuE (K : PySem.W.Frag) (a : Addr) : It :=
  ⟨fun i H => ∃ (xs : List V) (x : V), SqT K H a xs ∧ xs[i]? = some x, fun i H v H' => ∃ T x, v = .ref T ∧ H T = none ∧ H' = upd H T (.tup [.int (i : Nat), x]) ∧ ∀ xs, SqT K H a xs → xs[i]? = some x, fun i H => ∃ xs : List V, SqT K H a xs ∧ xs.length ≤ i⟩
theorem turn_enumT {P : Program} {w : World} {K : PySem.W.Frag} {elts : List Expr} {kk : Nat} {tpos : Pos} (a e it : Addr) :
    Turn P w K (.Tuple elts kk tpos) (ItuE K a) [e, it] e (fun i h => (∃ old, IsEnum h e it ((i : Nat) : Int) old) ∧ h.IsTupleIter it a i ∧ e ≠ it ∧ a ≠ it ∧ a ≠ e) where
  mem := by simp
  obj := fun i h st b hb => by
    obtain ⟨⟨old, he⟩, ⟨o, ho, hc, hd⟩, _⟩ := st
    have e' : b = e ∨ b = it := by simpa using hb
    rcases e' with z | z
    · rw [z]; exact ⟨_, he, fun v q => nomatch q⟩
    · rw [z]; exact ⟨o, ho, fun v q => by rw [hd] at q; cases q⟩
  keep := fun i h h' st k => let ⟨⟨old, he⟩, hi, hne⟩ := st; ⟨⟨old, k e (by simp) _ he⟩, hi.at fun o q => k it (by simp) o q, hne⟩
  item := by
    intro X hP hw hK hc i pins s σ H E I hf st hg
    subst hP hw hK
    obtain ⟨⟨old, he⟩, hit, hne, hai, hae⟩ := st
    obtain ⟨xs, x, hq, hx⟩ := hg
    obtain ⟨its, rv, p, hz⟩ := I.tuple hq
    obtain ⟨u, hu, ru⟩ := rv.get hx
    have hel : e < s.heap.objs.size := Heap.lt_size he
    have hil : it < s.heap.objs.size := by obtain ⟨_, q, _⟩ := hit; exact Heap.lt_size q
    have hlen : i < its.toArray.size := by
      have := (List.getElem?_eq_some_iff.mp hu).1
      simpa using this
    have hT0 : s.heap.IsTuple a its.toArray := p
    refine wpAny_pyNext_enum_itemD (Draws.tuple (prog := X.prog) (w := X.w) (A := X.A.in1) (show X.A.in1.handled = none from I.ok.hd hc) it a hai its.toArray) he ⟨hit, hT0⟩ hlen hne (by simp [hne, Ne.symm hae]) fun y h' tk hy ho hst' hT hsz hk => ?_
    have ey : y = u := by
      have q : its[i]? = some y := by simpa using hy
      exact Option.some.inj (q.symm.trans hu)
    subst ey
    obtain ⟨hit', _⟩ := hst'
    refine ⟨_, rfl, wpAny_letOwnedTupleGo_enum (s := { s with heap := h', toks := tk + 1 }) ho fun h'' he' sb => ?_⟩
    have hT2 : h''.get? s.heap.objs.size = some { cls := .type "tuple", data := .seq #[.int i tk, y] } := (sb.2 _ (Nat.ne_of_gt hel)).trans hT
    have new : ObjOk X.prog X.w (upd H s.heap.objs.size (.tup [.int (i : Nat), x])) h'' s.heap.objs.size (.tup [.int (i : Nat), x]) :=
      ⟨by show 2 ≤ sizeLine; decide, [.int i tk, y], .cons ⟨_, rfl⟩ (.cons ru .nil), ⟨_, hT2, rfl, _, rfl⟩⟩
    have I1 : Inv X pins σ (upd H s.heap.objs.size (.tup [.int (i : Nat), x])) { s with heap := h'', toks := tk + 1 } :=
      I.turnedNew (ch := [e, it]) (fun b ob hb q => (sb.2 b (fun z => hb (by simp [z]))).trans (hk b ob (fun z => hb (by simp [z])) (fun z => hb (by simp [z])) q)) hf (Nat.le_refl _) new
    refine ⟨.ref s.heap.objs.size, _, I1, rfl, ⟨_, x, rfl, I.hok.fresh (Nat.le_refl _), rfl, fun ys hy => by rw [I.tuple_inj hy hq]; exact hx⟩, ⟨⟨y, ?_⟩, hit'.at fun o q => (sb.2 it (Ne.symm hne)).trans q, hne, hai, hae⟩, fun b hb => ?_⟩
    · have e1 : ((i + 1 : Nat) : Int) = (i : Int) + 1 := by omega
      rw [e1]; exact he'
    · have hb' : b < s.heap.objs.size := by
        have e' : b = e ∨ b = it := by simpa using hb
        rcases e' with z | z
        · rw [z]; exact hel
        · rw [z]; exact hil
      rw [upd_ne (Nat.ne_of_lt hb')]
      exact (hf b hb).1
  done := by
    intro X hP hw hK hc i pins s σ H E I hf st hg
    subst hP hw hK
    obtain ⟨⟨old, he⟩, hit, hne, hai, hae⟩ := st
    obtain ⟨xs, hq, hx⟩ := hg
    obtain ⟨its, rv, p, hz⟩ := I.tuple hq
    obtain ⟨f0, f1, f2, f3, f4, f5⟩ := hf it (by simp)
    have hl := rv.length
    have hT0 : s.heap.IsTuple a its.toArray := p
    exact wpAny_pyNext_enum_endU (I.ok.hd hc) he hit hT0 (by simp; omega) fun h' eb => ⟨rfl, I.turned (t' := s.toks) (fun b o hb q => eb b o hb q) f0 f1 f3 f4 f5⟩
  self := fun A i s Q E st h => let ⟨⟨_, he⟩, _⟩ := st; wpAny_pyIter_enum he h
def iEnumT (K : PySem.W.Frag) (ta : TA) : TI := fun σ H R => ta σ H fun vs H1 => ∃ a xs, vs = [.ref a] ∧ SqT K H1 a xs ∧ R (ItuE K a) H1
theorem pi_enumT {X : Cx} {e : Expr} {ta : TA} {p pos tpos : Pos} {elts : List Expr} {kk : Nat} (hg : Gl X "enumerate") (hm : X.mg "enumerate" = none) (ha : PA X [e] ta) (hs : starEach [e] X.env = [(false, eval e X.env)] := by rfl) :
    PI X (.Tuple elts kk tpos) (.Call (.Name "enumerate" p) [e] [] pos) (iEnumT X.K ta) := by
  refine ⟨fun pins s σ H R I h => ?_⟩
  refine Call_ (ld_blt I hg hm boot_enumerate (PyProof.Rows.callWith_type1 (thn (ha.run pos pins s σ H _ I h) fun us s1 ⟨vs, H1, I1, r1, q1⟩ => ?_) hs rfl))
  obtain ⟨a, xs, ex, hq, q⟩ := q1
  subst ex
  cases r1 with
  | cons r rr =>
    cases rr
    cases r
    obtain ⟨its, rv, p', hz⟩ := I1.tuple hq
    have hT0 : s1.heap.IsTuple a its.toArray := p'
    have hal : a < s1.heap.objs.size := by obtain ⟨_, q, _⟩ := hT0; exact Heap.lt_size q
    refine call_enumerate_tup hT0 fun h' he hit hsz hk => wpAny_pyIter_enum he ?_
    have I2 : Inv X pins σ H1 { s1 with heap := h' } := I1.kept (t' := s1.toks) hk
    refine ⟨s1.heap.objs.size + 1, [s1.heap.objs.size + 1, s1.heap.objs.size], _, _, H1, rfl, I2, turn_enumT a (s1.heap.objs.size + 1) s1.heap.objs.size, ⟨⟨.none, he⟩, hit, Nat.succ_ne_self _, Nat.ne_of_lt hal, Nat.ne_of_lt (Nat.lt_succ_of_lt hal)⟩, fun b hb => ?_, q⟩
    have e' : b = s1.heap.objs.size + 1 ∨ b = s1.heap.objs.size := by simpa using hb
    have hle : s1.heap.objs.size ≤ b := by
      rcases e' with z | z
      · rw [z]; exact Nat.le_add_right _ _
      · rw [z]; exact Nat.le_refl _
    exact I1.fpOk hle (I1.hok.fresh hle)
end L2
namespace L2
open PySem PySem.Spec PyProof.Rows
theorem for_enumT {K : PySem.W.Frag} {a : Addr} {xs : List V} {g : TG} {tb : TS} {D : Ends} {σ : St} {H : Hp} (Pv : Nat → St → Hp → Prop) (h0 : Pv 0 σ H) (hl : ∀ i σ H, i ≤ xs.length → Pv i σ H → SqT K H a xs)
    (hs : ∀ i x σ H T, xs[i]? = some x → Pv i σ H → H T = none → g (.ref T) σ (upd H T (.tup [.int (i : Nat), x])) fun σ2 H2 => tb { D with nx := Pv (i + 1), ct := Pv (i + 1), bk := D.nx } σ2 H2)
    (hd : ∀ σ H, Pv xs.length σ H → D.nx σ H) :
    ∃ W : Nat → Nat → St → Hp → Prop, (∃ m, W 0 m σ H) ∧ ∀ i m σ H, W i m σ H →
      ((ItuE K a).stop i H ∧ D.nx σ H) ∨ ((ItuE K a).go i H ∧ ∃ N : St → Hp → Prop, (∀ σ' H', N σ' H' → ∃ m', m' < m ∧ W (i + 1) m' σ' H') ∧ ∀ x H', (ItuE K a).yld i H x H' → g x σ H' fun σ2 H2 => tb { D with nx := N, ct := N, bk := D.nx } σ2 H2) := by
  refine ⟨fun i m σ H => m = xs.length - i ∧ i ≤ xs.length ∧ Pv i σ H, ⟨xs.length, by simp, Nat.zero_le _, h0⟩, fun i m σ H hW => ?_⟩
  obtain ⟨em, hi, p⟩ := hW
  have q := hl i σ H hi p
  by_cases hlt : i < xs.length
  · refine .inr ⟨⟨xs, xs[i], q, List.getElem?_eq_getElem hlt⟩, Pv (i + 1), fun σ' H' p' => ⟨xs.length - (i + 1), by omega, rfl, hlt, p'⟩, fun x H' y => ?_⟩
    obtain ⟨T, x', ev, nT, eH, hx⟩ := y
    subst ev eH
    exact hs i x' σ H T (hx xs q) p nT
  · have ei : i = xs.length := by omega
    subst ei
    exact .inl ⟨⟨xs, q, Nat.le_refl _⟩, hd σ H p⟩
end L2

namespace L2
open PySem PySem.Spec PyProof.Rows
/-! ### o.m(e, .., k = v, ..) -/
def tMethN (C : Addr) (m : Str) (n j : Nat) (sp : Sp) (gV : List V → List V → List V) (E : XK) (ta : TE) (t tk : TA) : TE := fun σ H Q => ta σ H fun x H1 => ∃ a dx fs, x = .ref a ∧ H1 a = some (.ins C dx fs) ∧ fs.lookup m = none ∧
  t σ H1 fun vs H2 => tk σ H2 fun zs H3 => vs.length + 1 = n ∧ zs.length = j ∧ sp (gV (x :: vs) zs) H3 Q E
section
variable {X : Cx} {CX : CXT} {k n : Nat} {f C : Addr} {fd : FuncData} {ps ks : List Str} {sp : Sp} {E : XK} {m : Str} {pos apos : Pos} {e o : Expr} {es : List Expr} {kws : List Keyword} {ta : TE} {t tk : TA} {g : List Value → List Value → List Value} {gV : List V → List V → List V}
theorem pe_methN {pl : Sem Bool} (he : PE X o ta) (c : Cls X.K C) (hm : Meth X.K C m f) (F : FnOk X.prog X.w X.K X.mg X.base CX k f fd ps sp) (hr : Room k X.A) (hb : KBn X.K fd ps n ks g gV) (hx : Passes CX X E) (ha : PA X (e :: es) t) (hkw : PK X kws tk)
    (hall : (backToKw pos (keywordEach kws X.env)).all (·.1.isSome) = true := by rfl) (hks : (backToKw pos (keywordEach kws X.env)).filterMap (·.1) = ks := by rfl)
    (hst : starEach (e :: es) X.env = (false, eval e X.env) :: starEach es X.env := by rfl)
    (hpl : ((backTo pos (starEach (e :: es) X.env)).any (·.1) || (backToKw pos (keywordEach kws X.env)).any (·.1.isNone)) = false := by rfl)
    (ht : eval (.Call (.Attribute o m apos) (e :: es) kws pos) X.env = (do
      let ov ← eval o X.env
      standAt apos.atName
      let (f, first) ← holding [ov] (getMethod ov m pl)
      callWith pos f first (backTo pos (starEach (e :: es) X.env)) (backToKw pos (keywordEach kws X.env))) := by rfl) :
    PE X (.Call (.Attribute o m apos) (e :: es) kws pos) (tMethN C m n ks.length sp gV E ta t tk) := by
  refine ⟨fun pins s σ H Q I h => PySem.W.methodCall_KW (pl := pl) (thn (he.run pins s σ H _ I h) fun u s1 ⟨x, H1, I1, rx, a, dx, fs, ex, ea, l, q⟩ => ?_) ht⟩
  subst ex
  obtain rfl : u = Value.ref a := rx
  refine getmeth_ok I1 ea c hm l ?_
  refine PySem.W.callWith_KW (first := [.ref a]) (h₀ := X.base) I.ok.mod.kin hm.kp hall (thn (ha.run pos pins s1 σ H1 _ I1 q) fun us s2 ⟨vs, H2, I2, r, q2⟩ => ?_) hpl hst
  refine thn (hkw.run pos pins s2 σ H2 _ I2 q2) fun ws s3 ⟨zs, H3, I3, rz, l1, l2, q3⟩ => ⟨I3.kIn, ?_⟩
  rw [hks]
  exact run_fnN (us := .ref a :: us) (vs := .ref a :: vs) F hr hb hx I3 (.cons rfl r) rz l1 l2 q3
end
section
variable {P : Program} {w : World} {K : PySem.W.Frag} {mg : Str → Option Value} {base : Heap} {x qual : Str} {params : Arguments} {body : List Stmt} {scope : Scope} {dvs : List V} {kws : List (Str × V)} {f : Addr} {fd : FuncData}
/-- a def with defaults that lets nothing out -/
theorem FunD.ok0 {N ps : List Str} {k : Nat} {sp : Sp} (F : FunD K x qual params body scope dvs kws f fd) (S : FnScope N ps scope) (len : ∀ vs H Q E, sp vs H Q E → vs.length = ps.length)
    (hb : ∀ (cdv : Value) (A : Around) (outer : List Env) (s : Shared) (H : Hp) (vs : List V) (Q : VK) (E : XK), Room k (A.deeper (envOfC qual scope s.heap.objs.size f cdv)) → sp vs H Q E →
      ∃ t, PSs (cxOf CX0 P w K mg base N qual scope f cdv A outer s H E).nox body t ∧ t { nx := fun _ H' => Q .non H', rt := Q } (start N vs) H) : FnOk P w K mg base CX0 (k + 1) f fd ps sp :=
  F.ok S len fun cdv A outer s H vs Q E hr h => (hb cdv A outer s H vs Q E hr h).elim fun t ⟨h1, h2⟩ => ⟨t, h1.nox, h2⟩
end
end L2

namespace L2
open PySem PySem.Spec PyProof.Rows
/-! ### x op y by an own def of the class of both -/
def rOwnI (C : Addr) (sp : Sp) (E : XK) : R2 := fun x y H Q => ∃ a dx fs b dy gs, x = .ref a ∧ y = .ref b ∧ H a = some (.ins C dx fs) ∧ H b = some (.ins C dy gs) ∧ sp [x, y] H Q E
section
variable {X : Cx} {CX : CXT} {n : Nat} {C g : Addr} {fd : FuncData} {ps : List Str} {sp : Sp} {E : XK}
theorem op_cmpI {op : CmpOp} (hop : ∀ a b, compareOp op a b = richCompare op a b) (hs : PySem.W.findIn X.K (.ref C) (cmpInfo op).2.1 = some (some (.ref g))) (hf : PySem.W.isFn X.K (.ref g) = true)
    (F : FnOk X.prog X.w X.K X.mg X.base CX n g fd ps sp) (hr : Room n X.A) (hb : Binds X.K fd ps []) (hx : Passes CX X E) : OpR X (compareOp op) (rOwnI C sp E) := by
  intro pins s σ H x y v u Q I rx ry h
  obtain ⟨a, dx, fs, b, dy, gs, rfl, rfl, ha, hb', q⟩ := h
  cases rx
  cases ry
  obtain ⟨mA, J, _⟩ := ins_get I.hok ha
  obtain ⟨mB, J', _⟩ := ins_get I.hok hb'
  obtain ⟨od, J, _⟩ := J.look
  obtain ⟨od', J', _⟩ := J'.look
  obtain ⟨m, hF⟩ := I.fr
  rw [hop]
  refine PySem.W.cmp_K (op := op) (tb := .ref C) hr.units0 hF I.ok.mod.kin J J'.type (by simp [PySem.W.notFirst]) hs hf ?_
  refine wpAny_mono (run_fn (us := [.ref a, .ref b]) (vs := [.ref a, .ref b]) (dvs := []) F hr hb .nil hx I (.cons rfl (.cons rfl .nil)) q) (fun w s' z => ?_) fun _ _ x => x
  obtain ⟨z', H', I', rz, qz⟩ := z
  exact SlX.cmpback rz ⟨z', H', I', rz, qz⟩
theorem op_binI {op : Operator} (hc : PySem.W.selfFirst X.K C = true) (hs : PySem.W.findIn X.K (.ref C) (PySem.dunder op.info.2) = some (some (.ref g))) (hf : PySem.W.isFn X.K (.ref g) = true)
    (F : FnOk X.prog X.w X.K X.mg X.base CX n g fd ps sp) (hr : Room n X.A) (hb : Binds X.K fd ps []) (hx : Passes CX X E) : OpR X (binaryOp op) (rOwnI C sp E) := by
  intro pins s σ H x y v u Q I rx ry h
  obtain ⟨a, dx, fs, b, dy, gs, rfl, rfl, ha, hb', q⟩ := h
  cases rx
  cases ry
  obtain ⟨mA, J, _⟩ := ins_get I.hok ha
  obtain ⟨mB, J', _⟩ := ins_get I.hok hb'
  obtain ⟨od, J, _⟩ := J.look
  obtain ⟨od', J', _⟩ := J'.look
  obtain ⟨m, hF⟩ := I.fr
  refine PySem.W.binop_K (op := op) hF I.ok.mod.kin J J'.type hc hs hf ?_
  refine wpAny_mono (run_fn (us := [.ref a, .ref b]) (vs := [.ref a, .ref b]) (dvs := []) F hr hb .nil hx I (.cons rfl (.cons rfl .nil)) q) (fun w s' z => ?_) fun _ _ x => x
  obtain ⟨z', H', I', rz, qz⟩ := z
  exact SlX.cmpback rz ⟨z', H', I', rz, qz⟩
end
end L2

/-! ### errors whose __init__ says super().__init__(text) and stores one field -/
namespace PySem
namespace WX
open PySem.W PySem.Calls PyProof.Rows PySem.HandSPX
def iB (fl tx : Str) (q1 q2 q3 q4 q5 q6 q7 q8 q9 q10 : Pos) (j : Nat) : List Stmt :=
  [.Expr (.Call (.Attribute (.Call (.Name "super" q1) [] [] q2) "__init__" q3) [.Constant (.str tx) j q4] [] q5) q6, .Assign [.Attribute (.Name "self" q7) fl q8] (.Name fl q9) q10]
/-- what the top has written of the class cn, at C, and of its __init__, at fI -/
structure ExcTxt (P : Program) (K : Frag) (mg : Str → Option Value) (cn fl : Str) (C : Addr) where
  gC : mg cn = some (.ref C)
  cls : ∃ nm q N bs bm sn sub ab col dd k0 k1 k2 k3 k5, K.lookup C = some (excClassObj nm q C N bs bm true sn sub ab col dd k0 k1 k2 k3 k5 "ValueError.__new__") ∧ refsVE bm = true
  sa : findIn K (.ref C) "__setattr__" = some (some (.builtin "object.__setattr__"))
  ga : findIn K (.ref C) "__getattribute__" = some (some (.builtin "BaseException.__getattribute__"))
  gg : findIn K (.ref C) "__getattr__" = some none
  noN : findIn K (.ref C) fl = some none
  kC : keepIn K (.ref C) = true
  exC : subIn K (.ref C) (.type "BaseException") = some true
  tyC : typeIn K (.ref C) = some (.type "type")
  hdC : hasDictIn K C = true
  D : Addr
  clsD : ∃ oD cdD, K.lookup D = some oD ∧ oD.data = .cls cdD
  fI : Addr
  qual : Str
  tx : Str
  S : Stmt
  oc : Value
  od : Option Addr
  kV : Value
  doc : Value
  pm : Value
  an : Option Addr
  cda : Addr
  ct : Value
  osl : Array (Option Value)
  cc : Addr
  cl : Value
  cld : Option Addr
  csl : Array (Option Value)
  ccl : Value
  cdd : Option Addr
  vs : Array Value
  ccs : Array (Option Value)
  file : Str
  tf : Tok
  q1 : Pos
  q2 : Pos
  q3 : Pos
  q4 : Pos
  q5 : Pos
  q6 : Pos
  q7 : Pos
  q8 : Pos
  q9 : Pos
  q10 : Pos
  j : Nat
  pl : Sem Bool
  iC : findIn K (.ref C) "__init__" = some (some (.ref fI))
  tI : typeIn K (.ref fI) = some (.type "function")
  lI : K.lookup fI = some ⟨oc, od, .func (ksFn "__init__" qual (L2.defArgs S) (L2.defBody S) (L2.defScope S) .none kV doc pm an (.ref cda) ct cc), osl⟩
  cI : codeIn K (.ref cda) qual = true
  lcc : K.lookup cc = some ⟨cl, cld, .cell (some (.ref D)), csl⟩
  lcd : K.lookup cda = some ⟨ccl, cdd, .fields vs, ccs⟩
  hvs : vs[2]? = some (.str file tf)
  hfile : ((P.main.file : Str) == file) = true
  hpar : ∃ ar : Arg, ((L2.defArgs S).posonlyargs ++ (L2.defArgs S).args).head? = some ar ∧ ar.arg = "self"
  hbody : L2.defBody S = iB fl tx q1 q2 q3 q4 q5 q6 q7 q8 q9 q10 j
  hbind : ∀ x v : Value, bindArgs (ksFn "__init__" qual (L2.defArgs S) (L2.defBody S) (L2.defScope S) .none kV doc pm an (.ref cda) ct cc) ⟨[x, v], []⟩ = pure [(("self" : Str), x), (fl, v)]
  hev : ∀ L f : Addr, eval (.Call (.Attribute (.Call (.Name "super" q1) [] [] q2) "__init__" q3) [.Constant (.str tx) j q4] [] q5) (ksEnv qual (L2.defScope S) L f (.ref cda) cc) = (do
      let ov ← attributeBase (.Call (.Name "super" q1) [] [] q2) "__init__" (ksEnv qual (L2.defScope S) L f (.ref cda) cc) (eval (.Call (.Name "super" q1) [] [] q2) (ksEnv qual (L2.defScope S) L f (.ref cda) cc))
      standAt q3.atName
      let (g, first) ← holding [ov] (getMethod ov "__init__" pl)
      callWith q5 g first (backTo q5 (starEach [.Constant (.str tx) j q4] (ksEnv qual (L2.defScope S) L f (.ref cda) cc))) [])
  hk : (L2.defScope S).kind = .function
  hco : (L2.defScope S).isCoroutine = false
  hgen : (L2.defScope S).isGenerator = false
  hks : (L2.defScope S).names.lookup ("super" : Str) = some .globalImplicit
  hkc : (L2.defScope S).names.lookup ("__class__" : Str) = some .free
  hself : (L2.defScope S).names.lookup ("self" : Str) = some .local
  hfl : (L2.defScope S).names.lookup fl = some .local
  hcell : ∀ y ∈ (L2.defScope S).names, y.2 ≠ .cell
  nf : ("self" : Str) ≠ fl ∧ (fl == ("__debug__" : Str)) = false
  top : (P.main.scope.names.lookup ("super" : Str)).isSome = false
  sup : mg "super" = none
  opq : nsIn K cStatics "thirdparty.any" = some none
  nxt : ks_superIn K C D "__init__" = some (some (.builtin "ValueError.__init__"))
  slf : mroIn K C (.ref D) = some true
  sub : subIn K (.ref C) (.type "ValueError") = some true
section
variable {P : Program} {w : World} {A : Around} {E : Value → Shared → Prop} {R : Result → Shared → Prop} {s : Shared} {K : Frag} {mg : Str → Option Value} {cn fl : Str} {C : Addr}
/-- the method-wrapper of ValueError.__init__ called -/
theorem call_mw {h : Heap} {g : Array GenState} {d : Drawn} {t : Nat} {os : OsState} {nm q : Str} {N : Addr} {bs bm : List Value} {hdct : Bool} {sn : List Str} {sub : List Value} {ab : Bool} {col : Option Bool} {dd : Option Addr} {k0 k1 k2 k3 k5 : Option Value} {u e t0 : Addr} {rest : List Value} {Q : Value → Shared → Prop}
    (hC : h.get? C = some (excClassObj nm q C N bs bm hdct sn sub ab col dd k0 k1 k2 k3 k5 "ValueError.__new__")) (he : h.get? e = some (excO C t0)) (hu : h.get? u = some (kxs_mw "ValueError.__init__" e)) (hrest : rest.length ≤ sizeLine)
    (hq : ∀ h' t1, (∀ b o, b ≠ e → h.get? b = some o → h'.get? b = some o) → h'.get? e = some (excO C t1) → Q .none ⟨h', g, d, t, os⟩) :
    wpAny (model P w) A (call (.ref u) rest) Q E ⟨h, g, d, t, os⟩ := by
  refine wpAny_call (codeAny_of_tree ?_)
  show wpAny _ A.in1 (callAny (.ref u) ⟨rest, []⟩) _ _ _
  simp only [callAny]
  refine wpAny_bind (wpAny_load hu ?_)
  simp only [kxs_mw, show (Value.type "method-wrapper" == Value.type "method" || Value.type "method-wrapper" == Value.type "builtin_function_or_method" || Value.type "method-wrapper" == Value.type "method-wrapper") = true by decide, if_true]
  refine KFB.if_so (by decide) (wpAny_bind (check_bound_init PySem.F.excBase_ValueError.toExcCallFacts hC he rfl (wpAny_bind (wpAny_pure (wpAny_pure ?_)))))
  refine ⟨plainId_quiet PySem.F.excBase_ValueError.init.plain _, codeAny_builtin PySem.F.excBase_ValueError.initEntry ?_⟩
  exact exc_init_tree (cls := .ref C) (t0 := t0) (dv := none) (c2 := .none) (c3 := .none) (b4 := .bool false) he hrest fun h' k e' _ => hq h' _ k e'
/-- what __init__ leaves of a fresh exception at x -/
structure InitEnd (h h' : Heap) (x C dx : Addr) (fl : Str) (v : Value) : Prop where
  keep : ∀ b o, b ≠ x → h.get? b = some o → h'.get? b = some o
  obj : ∃ t1 : Addr, h'.get? x = some { cls := .ref C, dict := some dx, data := .fields #[.ref t1, .none, .none, .none, .bool false, .none] }
  dbig : h.objs.size ≤ dx
  dne : dx ≠ x
  ns : h'.Ns1 dx (fun y => if y = fl then some v else none)
theorem x_init (T : ExcTxt P K mg cn fl C) {x t0 : Addr} {v : Value} (X : K.In s.heap) (hlim : s.heap.NoLimit) (hG : s.heap.Ns mainGlobals mg) (hB : ∃ mb, s.heap.Ns builtinsNs mb ∧ ∀ y : Str, y ≠ "__name__" → mb y = bootBuiltins y)
    (hx : s.heap.get? x = some (excO C t0)) (hnx : K.lookup x = none) (hroom : A.depth < recursionLimit)
    (hq : ∀ h' tk dx, InitEnd s.heap h' x C dx fl v → R (.ok (.ret .none)) { s with heap := h', toks := tk }) :
    codeAny (model P w) A (.call (.ref T.fI) ⟨[.ref x, v], []⟩) R s := by
  obtain ⟨nm, q, N, bs, bm, sn, sub, ab, col, dd, k0, k1, k2, k3, k5, hC, hbm⟩ := T.cls
  obtain ⟨oD, cdD, hD, hDd⟩ := T.clsD
  have hcl : clsIn K C = some { name := nm, bases := bs, mro := .ref C :: bm, ns := N, qualname := q, hasDict := true, slotNames := sn, subclasses := sub, abstract := ab, collection := col, hasDel := false } := by unfold clsIn; rw [hC] <;> rfl
  have hxC : x ≠ C := fun z => by
    have e1 := X _ _ hC
    rw [← z, hx] at e1
    have e2 := congrArg (fun o : Option Obj => o.map (·.data)) e1
    simp [excO, excClassObj] at e2
  have ho := T.lI
  refine ks_codeAny_call_defAt (fd := ksFn "__init__" T.qual (L2.defArgs T.S) (L2.defBody T.S) (L2.defScope T.S) .none T.kV T.doc T.pm T.an (.ref T.cda) T.ct T.cc) (body := L2.defBody T.S) (binds := [("self", .ref x), (fl, v)])
    hroom (X _ _ ho) rfl hlim (codeRec_of X T.cI) rfl (BindsTo.of_eq (T.hbind _ _)) T.hcell ?hloc (fun h₁ hns hk₁ => ?_) T.hco T.hgen T.hk
  case hloc =>
    intro y hy
    simp only [List.mem_cons, List.not_mem_nil, or_false] at hy
    rcases hy with rfl | rfl
    · exact T.hself
    · exact T.hfl
  have X₁ : K.In h₁ := X.keeps hk₁
  have hx₁ := hk₁ _ _ hx
  have ms : (fun y : Str => ([("self", Value.ref x), (fl, v)] : List (Str × Value)).reverse.lookup y) "self" = some (.ref x) := by
    have z : (("self" : Str) == fl) = false := by simpa using T.nf.1
    simp [List.lookup, z]
  have mf : (fun y : Str => ([("self", Value.ref x), (fl, v)] : List (Str × Value)).reverse.lookup y) fl = some v := by simp [List.lookup]
  show wpAt _ (A.deeper (ksEnv T.qual (L2.defScope T.S) s.heap.objs.size T.fI (.ref T.cda) T.cc)) (.func (L2.defBody T.S) (ksEnv T.qual (L2.defScope T.S) s.heap.objs.size T.fI (.ref T.cda) T.cc)) (execs (L2.defBody T.S) (ksEnv T.qual (L2.defScope T.S) s.heap.objs.size T.fI (.ref T.cda) T.cc)) _ _ _
  rw [T.hbody]
  refine ks_wpAt_execs_cons (ks_wpAt_Expr_any (ks_wpAt_MethodCall ?_ (T.hev _ _)) (by unfold interactive; show ((L2.defScope T.S).kind == .module && _) = false; rw [T.hk]; rfl))
  obtain ⟨ar, hp, har⟩ := T.hpar
  obtain ⟨mb, hB1, hB2⟩ := hB
  refine ks_wpAt_super_base T.hks T.hkc (by decide +kernel) rfl (hk₁ _ _ (X _ _ ho)) rfl hp rfl (hk₁ _ _ (X _ _ T.lcd)) rfl T.hvs T.hfile T.top ?_
  refine ks_loadName_global T.hk T.hks (loadGlobal_builtin (hG.keeps hk₁) T.sup (hB1.keeps hk₁) ((hB2 _ (by decide +kernel)).trans PyProof.Rows.Boot.«super») ⟨rfl, ?_⟩)
  refine wpAny_loadName_free T.hk T.hkc rfl ⟨_, X₁ _ _ T.lcc, rfl⟩ ?_
  rw [har]
  refine wpAny_loadName_local T.hk T.hself hns ms ?_
  refine ks_wpAny_isType_cls (X₁ _ _ hD) hDd ⟨rfl, ?_⟩
  refine ks_wpAny_call_super (X₁ _ _ hD) hDd hx₁ rfl (fun c e => by cases e) (looks_mroIn X₁ T.slf) (fun h₂ e₂ k₂ => ?_)
  have X₂ : K.In h₂ := X₁.keeps k₂
  have hx₂ := k₂ _ _ hx₁
  have I₂ : InstAt h₂ x (excO C t0) C none := ⟨hx₂, rfl, rfl, trivial⟩
  have hnxt : alongIn K "__init__" (((Value.ref C :: bm).dropWhile (· != .ref T.D)).drop 1) = some (some (.builtin "ValueError.__init__")) := by
    have z := T.nxt
    unfold ks_superIn at z
    rw [hcl] at z
    exact z
  refine kxs_getMethod kxs_ValueError e₂ (looks_opaque X₂ T.opq) (l₀ := Value.ref C :: bm) (fun A Q E s k q => wpAny_bind ((looks_clsIn X₂ hcl) A _ E s k (wpAny_pure q))) rfl X₂ hnxt (I₂.type.andThen (looks_subIn X₂ T.sub)) hxC (by decide +kernel) ?_
  have k₃ : ∀ b o, h₂.get? b = some o → (h₂.push (kxs_mw "ValueError.__init__" x)).get? b = some o := fun b o e => Heap.get?_push_of_some _ e
  refine kxs_callWith (i := "ValueError.__init__") (x := x) rfl (evalArgs_plain (spliced_more (wpAny_Constant_str (spliced_none ?_))))
  refine ⟨Heap.get?_push_at rfl rfl, ?_⟩
  refine call_mw (k₃ _ _ (X₂ _ _ hC)) (k₃ _ _ hx₂) (Heap.get?_push_at rfl rfl) (by show 1 ≤ sizeLine; decide) fun h₄ t1 k₄ hx₄ => ?_
  have k14 : ∀ b o, b ≠ x → h₁.get? b = some o → h₄.get? b = some o := fun b o hb e => k₄ b o hb (k₃ _ _ (k₂ _ _ e))
  have hxL : s.heap.objs.size ≠ x := Nat.ne_of_gt (Heap.lt_size hx)
  have hns₄ : h₄.Ns s.heap.objs.size (fun y : Str => ([("self", Value.ref x), (fl, v)] : List (Str × Value)).reverse.lookup y) := by
    obtain ⟨oL, es, ep, hL, r⟩ := hns
    exact ⟨oL, es, ep, k14 _ _ hxL hL, r⟩
  have X₄ : K.In h₄ := fun b o e => k14 b o (fun z => by rw [z, hnx] at e; cases e) (X₁ _ _ e)
  refine ks_wpAt_execs_cons (ks_wpAt_Assign_Attr (wpAt_of_wpAny (wpAny_Name (wpAny_loadName_local T.hk T.hfl hns₄ mf ?_) T.nf.2)))
  refine wpAny_Name (wpAny_loadName_local T.hk T.hself hns₄ ms ?_)
  refine set_plain X₄ (ox := excO C t1) (od := none) ⟨hx₄, rfl, rfl, trivial⟩ T.sa ?_
  refine exc_osa X₄ hx₄ hcl (show refsVE (.ref C :: bm) = true from hbm) rfl T.noN (fun h₅ tk₅ dx k₅ dn dne hx₅ hn₅ => ?_)
  exact wpAt_of_wpAny (wpAny_execs_nil (hq h₅ tk₅ dx ⟨fun b o hb e => k₅ b o hb (k14 b o hb (hk₁ b o e)), ⟨t1, hx₅⟩, Nat.le_trans (Nat.le_of_lt hns₄.lt) dn, dne, hn₅⟩))
/-- a made error -/
structure OwnMade (h h' : Heap) (e C d : Addr) (fl : Str) (v : Value) : Prop where
  keep : ∀ b o, h.get? b = some o → h'.get? b = some o
  new : h.objs.size ≤ e
  obj : ∃ oe vs, h'.get? e = some oe ∧ oe.cls = .ref C ∧ oe.dict = some d ∧ oe.data = .fields vs ∧ vs[1]? = some .none
  dbig : h.objs.size ≤ d
  dne : d ≠ e
  ns : h'.Ns1 d (fun y => if y = fl then some v else none)
theorem x_made (T : ExcTxt P K mg cn fl C) {v : Value} (X : K.In s.heap) (hlim : s.heap.NoLimit) (hG : s.heap.Ns mainGlobals mg) (hB : ∃ mb, s.heap.Ns builtinsNs mb ∧ ∀ y : Str, y ≠ "__name__" → mb y = bootBuiltins y) (hroom : A.depth + 1 < recursionLimit)
    (hq : ∀ h' tk e d, OwnMade s.heap h' e C d fl v → R (.ok (.ret (.ref e))) { s with heap := h', toks := tk }) :
    codeAny (model P w) A (.call (.ref C) ⟨[v], []⟩) R s := by
  obtain ⟨nm, q, N, bs, bm, sn, sub, ab, col, dd, k0, k1, k2, k3, k5, hC, hbm⟩ := T.cls
  obtain ⟨hp, g, dr, tk, os⟩ := s
  have k : ∀ b o, hp.get? b = some o → ((hp.push (kdv_tup [v])).push (excO C hp.objs.size)).get? b = some o := fun b o e => Heap.get?_push_of_some _ (Heap.get?_push_of_some _ e)
  have hget : ((hp.push (kdv_tup [v])).push (excO C hp.objs.size)).get? (hp.objs.size + 1) = some (excO C hp.objs.size) := by heap_get
  have hnx : K.lookup (hp.objs.size + 1) = none := by
    cases e : K.lookup (hp.objs.size + 1) with
    | none => rfl
    | some o => exact absurd (Nat.lt_of_succ_lt (Heap.lt_size (show hp.get? (hp.objs.size + 1) = some o from X _ _ e))) (Nat.lt_irrefl _)
  obtain ⟨mb, hB1, hB2⟩ := hB
  refine call_own PySem.F.excBase_ValueError (fun X => refsVE_contains X bm hbm) (X _ _ hC) (looks_findIn X T.iC) (fun self => bind_fn X self T.tI) (by show 1 ≤ sizeLine; decide) ?_
  refine x_init (s := ⟨(hp.push (kdv_tup [v])).push (excO C hp.objs.size), g, dr, tk, os⟩) T (X.keeps k) (hlim.keeps k) (hG.keeps k) ⟨mb, hB1.keeps k, hB2⟩ hget hnx (show A.depth + 1 < recursionLimit from hroom) fun h' tk' dx ⟨k', ⟨t1, hx⟩, dn, dne, hns⟩ => ?_
  have old : ∀ b o, hp.get? b = some o → h'.get? b = some o := fun b o e => k' b o (Nat.ne_of_lt (Nat.lt_succ_of_lt (Heap.lt_size e))) (k b o e)
  have z : hp.objs.size + 1 + 1 ≤ dx := by
    first
      | (simpa only [Heap.size_push] using dn)
      | exact dn
      | (have q := dn; rw [Heap.size_push, Heap.size_push] at q; exact q)
  exact ⟨rfl, hq h' tk' (hp.objs.size + 1) dx ⟨old, Nat.le_succ _, ⟨_, _, hx, rfl, rfl, rfl, rfl⟩, Nat.le_trans (Nat.le_trans (Nat.le_succ _) (Nat.le_succ _)) z, dne, hns⟩⟩
end
end WX
end PySem
namespace L2
open PySem PySem.Spec PyProof.Rows
theorem relO_x {v : V} {v' : Value} (fl : Str) (r : RelV v v') (f : Str) : RelO (List.lookup f [(fl, v)]) (if f = fl then some v' else none) := by
  by_cases hw : f = fl
  · subst hw
    rw [if_pos rfl, show List.lookup f [(f, v)] = some v by simp [List.lookup]]
    exact r
  · rw [if_neg hw, show List.lookup f [(fl, v)] = none by simp [List.lookup, show (f == fl) = false by simpa using hw]]
    trivial
section
variable {X : Cx} {C : Addr} {cn fl : Str}
/-- cn(e) -/
def tMkX (C : Addr) (fl : Str) (ta : TA) : St → Hp → XK → Prop := fun σ H Q => ta σ H fun vs H1 => ∃ v, vs = [v] ∧ ∀ d, H1 d = none → Q (.ref C) (some d) (upd H1 d (.xd [(fl, v)]))
theorem pmk_x {a : Expr} {ta : TA} {p pos : Pos} {k : Nat} (T : PySem.WX.ExcTxt X.prog X.K X.mg cn fl C) (hr : Room k X.A) (ha : PA X [a] ta) (hg : Gl X cn := by rfl) (hdb : (cn == ("__debug__" : Str)) = false := by decide)
    (he : starEach (a :: []) X.env = (false, eval a X.env) :: starEach [] X.env := by rfl) (hpl : (backTo pos (starEach [] X.env)).any (·.1) = false := by rfl) :
    PMk X (.Call (.Name cn p) [a] [] pos) (tMkX C fl ta) := by
  intro pins s σ H Q I h
  refine wpAny_Call_Name_kw (ld_glob I hg T.gC ?_ hdb)
  refine PySem.W.callWith_K (h₀ := X.base) I.ok.mod.kin T.kC (thn (ha.run pos pins s σ H _ I h) fun us s1 hh => ?_) he hpl
  obtain ⟨vs, H1, I1, r1, v, ev, q1⟩ := hh
  subst ev
  refine ⟨I1.kIn, ?_⟩
  cases r1 with
  | cons rv rn =>
    rename_i v' us'
    cases rn
    show wpAny _ _ (call (.ref C) [v']) _ _ _
    have hlim := I1.nolimit
    have hG := I1.mod.glob.keeps I1.bk
    obtain ⟨mb, hB1, hB2⟩ := I1.mod.blt
    have hB1' := hB1.keeps I1.bk
    obtain ⟨hp, g, dr, tk, os⟩ := s1
    refine wpAny_call (PySem.WX.x_made T I1.kIn hlim hG ⟨mb, hB1', hB2⟩ (by have := hr.dp; omega) fun h' tk' e d M => ?_)
    show MkP X pins σ Q (.ref e) ⟨h', g, dr, tk', os⟩
    obtain ⟨oe, fv, hoe, hc, hd, hdat, h1⟩ := M.obj
    obtain ⟨G', g1, g2⟩ := restrict h' fun b => decide (b ≠ e)
    have gk : ∀ b, b ≠ e → G'.get? b = h'.get? b := fun b hb => g1 b (decide_eq_true hb)
    have ge : G'.get? e = none := g2 e (by simp)
    have old : ∀ b o, hp.get? b = some o → G'.get? b = some o := fun b o q => (gk b (Nat.ne_of_lt (Nat.lt_of_lt_of_le (Heap.lt_size q) M.new))).trans (M.keep b o q)
    have ob : ObjOk X.prog X.w (upd H1 d (.xd [(fl, v)])) G' d (.xd [(fl, v)]) := ⟨_, M.ns.at (fun o q => (gk d M.dne).trans q), fun f => relO_x fl rv f⟩
    have J : Inv X pins σ (upd H1 d (.xd [(fl, v)])) ⟨G', g, dr, tk', os⟩ := I1.laid (t' := tk') old M.dbig ob
    refine ⟨e, oe, fv, ⟨G', g, dr, tk', os⟩, _, .ref C, some d, rfl, J, fun b o q => ?_, ge, hoe, ⟨hc, hd⟩, hdat, h1, ?_, rfl, I1.bare, raises_own T.exC T.tyC, q1 d (I1.hok.fresh M.dbig)⟩
    · by_cases hb : b = e
      · have q' : G'.get? b = some o := q
        rw [hb, ge] at q'; cases q'
      · exact (gk b hb).symm.trans q
    · rw [upd_ne (Ne.symm M.dne)]
      exact I1.hok.fresh M.new
/-- raise cn(e) -/
def tRaiseX (C : Addr) (fl : Str) (W : WX) (ta : TA) : TS := fun _ σ H => tMkX C fl ta σ H fun cls d H' => W cls d σ H'
theorem ps_raiseX {a : Expr} {ta : TA} {W : WX} {p pos pos2 : Pos} {k : Nat} (hc : X.calm = true) (T : PySem.WX.ExcTxt X.prog X.K X.mg cn fl C) (hr : Room k X.A) (tk : Takes X W) (ha : PA X [a] ta) (hg : Gl X cn := by rfl) (hdb : (cn == ("__debug__" : Str)) = false := by decide)
    (he : starEach (a :: []) X.env = (false, eval a X.env) :: starEach [] X.env := by rfl) (hpl : (backTo pos (starEach [] X.env)).any (·.1) = false := by rfl) :
    PS X (.Raise (some (.Call (.Name cn p) [a] [] pos)) none pos2) (tRaiseX C fl W ta) := ps_raise hc tk (pmk_x T hr ha hg hdb he hpl)
end
end L2

namespace L2
open PySem PySem.Spec PyProof.Rows
/-! ### in an except suite: isinstance(e, c) and e.f, e an own error with a dict -/
structure XC (K : PySem.W.Frag) (D : Addr) : Prop where
  ga : PySem.W.findIn K (.ref D) "__getattribute__" = some (some (.builtin "BaseException.__getattribute__"))
  gg : PySem.W.findIn K (.ref D) "__getattr__" = some none
  hs : PySem.W.subIn K (.ref D) (.type "BaseException") = some true
  hd : PySem.W.hasDictIn K D = true
  ha : PySem.W.findIn K (.ref D) "__class__" = some (some (.builtin "object.__class__"))
  hn : PySem.W.specialIn K (.builtin "object.__class__") "__get__" = some (some (.builtin "getset_descriptor.__get__"))
  ht : PySem.W.takesIn K (.builtin "object.__class__") = some true
  hm : PySem.W.mroIn K D (.type "object") = some true
def rIsX (K : PySem.W.Frag) (a : Addr) (cls : Value) (d : Option Addr) : List V → Hp → VK → Prop := fun xs H Q => ∃ (D dd : Addr) (fs : List (Str × V)) (c : V) (cv : Value) (b : Bool), cls = .ref D ∧ d = some dd ∧ H dd = some (.xd fs) ∧ XC K D ∧ xs = [.ref a, c] ∧ ClsV c cv ∧ PySem.W.kitOne K (.ref D) cv = some b ∧ Q (.bl b) H
theorem call_isX {X : Cx} {a : Addr} {oe : Obj} {cls : Value} {d : Option Addr} {pn : List (Addr × Obj)} (hz : Zc cls d oe) (hf : ∃ vs, oe.data = .fields vs) : CallR (X.suite a ((a, oe) :: pn)) (.builtin "isinstance") (rIsX X.K a cls d) := by
  intro pins s σ H xs us Q I r h
  obtain ⟨D, dd, fs, c, cv, b, rfl, rfl, hdd, C, rfl, hcv, e, q⟩ := h
  cases r with
  | cons rx rr =>
    cases rr with
    | cons rt rr =>
      cases rr
      cases rx
      have ec := hcv.eq rt
      subst ec
      obtain ⟨hget, _⟩ := I.pin (a, oe) (List.mem_append.mpr (.inl List.mem_cons_self))
      obtain ⟨vs, hv⟩ := hf
      have hx : ObjOk X.prog X.w H s.heap dd (.xd fs) := I.hok dd _ hdd
      obtain ⟨mA, hns, hr⟩ := hx
      obtain ⟨od, ho, hl⟩ := lookIn_ns hns
      have J : PySem.W.InstAt s.heap a oe D (some od) := ⟨hget, hz.1, by unfold PySem.W.notCls; rw [hv] <;> rfl, by rw [hz.2]; exact ho⟩
      obtain ⟨cd, hc, _⟩ := PySem.W.any_some C.hd
      exact PySem.W.kia_one (PySem.W.kitx_exc (by rw [hc]; rfl) C.ga C.gg C.hs C.ha C.hn C.ht C.hm) I.kIn J e (fun z => nomatch z) fun tk => ⟨.bl b, H, I.kept (t' := tk) fun _ _ z => z, rfl, q⟩
/-- e.f: the reading names the class -/
def tXfX (K : PySem.W.Frag) (a : Addr) (cls : Value) (d : Option Addr) (f : Str) (te : TE) : TE := fun σ H Q => te σ H fun x H1 => x = .ref a ∧ ∃ (C dd : Addr) (fs : List (Str × V)) (v : V), cls = .ref C ∧ XC K C ∧ PySem.W.findIn K (.ref C) f = some none ∧ d = some dd ∧ H1 dd = some (.xd fs) ∧ fs.lookup f = some v ∧ Q v H1
theorem pe_xfX {X : Cx} {a : Addr} {oe : Obj} {cls : Value} {d : Option Addr} {pn : List (Addr × Obj)} {e : Expr} {te : TE} {pos : Pos} {n : Str}
    (hz : Zc cls d oe) (hf : ∃ vs, oe.data = .fields vs) (he : PE (X.suite a ((a, oe) :: pn)) e te) (hb : attributeBase e n X.env (eval e X.env) = eval e X.env := by rfl) :
    PE (X.suite a ((a, oe) :: pn)) (.Attribute e n pos) (tXfX X.K a cls d n te) := by
  refine ⟨fun pins s σ H Q I h => ?_⟩
  refine attr_of hb (thn (he.run pins s σ H _ I h) fun u s1 hh => ?_)
  obtain ⟨x, H1, I1, rx, ex, C, dd, fs, v, ec, T, hno, ed, ea, l, q⟩ := hh
  subst ex
  obtain rfl : u = Value.ref a := rx
  subst ec
  subst ed
  obtain ⟨ha, _⟩ := I1.pin (a, oe) (List.mem_append_left _ List.mem_cons_self)
  obtain ⟨vs, hd⟩ := hf
  have hx : ObjOk X.prog X.w H1 s1.heap dd (.xd fs) := I1.hok dd _ ea
  obtain ⟨mA, hns, hr⟩ := hx
  obtain ⟨od, ho, hl⟩ := lookIn_ns hns
  obtain ⟨u, hu, ru⟩ := RelO.some_of (v := v) (o := mA n) (by rw [← l]; exact hr n)
  have J : PySem.W.InstAt s1.heap a oe C (some od) := ⟨ha, hz.1, by unfold PySem.W.notCls; rw [hd] <;> rfl, by rw [hz.2]; exact ho⟩
  exact HandSPX.exc_get I1.kIn J T.ga T.gg T.hs (PySem.W.findObj_own T.hd hno rfl (by rw [hl, hu])) (handed_of ru) ⟨v, H1, I1.tok _, ru, q⟩
/-! ### calls in a try's body: the way out sees the slots -/
def tMethW (C : Addr) (m : Str) (sp : Sp) (dvs : List V) (E : St → XK) (ta : TE) (t : TA) : TE := fun σ H Q => tMeth C m sp dvs (E σ) ta t σ H Q
section
variable {X : Cx} {CX : CXT} {k : Nat} {f C : Addr} {fd : FuncData} {ps : List Str} {sp : Sp} {dvs : List V} {ds : List Value} {E : St → XK} {x m : Str} {p pos apos : Pos} {e o : Expr} {es : List Expr} {ta : TE} {t : TA}
theorem pe_methW {pl : Sem Bool} (he : PE X o ta) (c : Cls X.K C) (hm : Meth X.K C m f) (F : FnOk X.prog X.w X.K X.mg X.base CX k f fd ps sp) (hr : Room k X.A) (hb : Binds X.K fd ps ds) (hd : Vals dvs ds) (hx : ∀ σ, PassesAt CX X σ (E σ)) (ha : PA X (e :: es) t)
    (hst : starEach (e :: es) X.env = (false, eval e X.env) :: starEach es X.env := by rfl) (hpl : (backTo pos (starEach es X.env)).any (·.1) = false := by rfl)
    (ht : eval (.Call (.Attribute o m apos) (e :: es) [] pos) X.env = (do
      let ov ← eval o X.env
      standAt apos.atName
      let (f, first) ← holding [ov] (getMethod ov m pl)
      callWith pos f first (backTo pos (starEach (e :: es) X.env)) (backToKw pos (keywordEach [] X.env))) := by rfl) :
    PE X (.Call (.Attribute o m apos) (e :: es) [] pos) (tMethW C m sp dvs E ta t) := by
  refine ⟨fun pins s σ H Q I h => ?_⟩
  refine PySem.W.methodCall_KW (pl := pl) (thn (he.run pins s σ H _ I h) fun u s1 ⟨x, H1, I1, rx, a, dx, fs, ex, ea, l, q⟩ => ?_) ht
  subst ex
  obtain rfl : u = Value.ref a := rx
  refine getmeth_ok I1 ea c hm l ?_
  refine PySem.W.callWith_K (first := [.ref a]) (h₀ := X.base) I.ok.mod.kin hm.kp (thn (ha.run pos pins s1 σ H1 _ I1 q) fun us s2 ⟨vs, H2, I2, r, q2⟩ => ⟨I2.kIn, ?_⟩) hst hpl
  exact run_fnSD (us := .ref a :: us) (vs := .ref a :: vs) F hr hb hd (hx σ) I2 (.cons rfl r) q2
end
end L2

namespace L2
open PySem PySem.Spec PyProof.Rows
/-- a def that raises nothing where nothing may be raised -/
theorem FnOk.calm {P : Program} {w : World} {K : PySem.W.Frag} {mg : Str → Option Value} {base : Heap} {k : Nat} {f : Addr} {fd : FuncData} {ps : List Str} {sp : Sp} (F : FnOk P w K mg base (L2.CX P w) k f fd ps sp) :
    FnOk P w K mg base CX0 k f fd ps (fun vs H Q _ => sp vs H Q fun _ _ _ => False) :=
  ⟨fun vs H Q _ h => F.len vs H Q _ h, fun A outer s H args us vs Q _ hr he hb hv hs => codeAny_mono (F.run A outer s H args us vs Q _ hr he hb hv hs) fun r s' hq => by
    cases r with
    | error e =>
      obtain ⟨_, _, _, _, _, _, _, _, _, _, _, _, h⟩ := hq
      exact h.elim
    | ok fl =>
      cases fl with
      | ret u => exact hq
      | next => exact hq
      | brk => exact hq
      | cont => exact hq⟩
/-- the way out of a def as its own caller's -/
theorem passX {X : Cx} {E : XK} (tk : Takes X (fun cls d _ H => E cls d H)) : Passes (L2.CX X.prog X.w) X E := passes_call tk fun _ _ _ _ h => h
end L2

namespace L2
open PySem
def gSeq (K : PySem.W.Frag) (n : Nat) (t : TGs) : TG := fun v σ H Q => gTup K n t v σ H Q ∨ gLst K n t v σ H Q
theorem pg_seq {X : Cx} {es : List Expr} {k : Nat} {t : TGs} {n : Nat} {pos : Pos} (hc : X.calm = true) (h : PGs X es t)
    (hn : (assignEach es X.env).length = n := by rfl) (hst : (assignEach es X.env).findIdx? (·.1) = none := by rfl) : PG X (.Tuple es k pos) (gSeq X.K n t) :=
  ⟨fun pins s σ H v u Q I r hw => hw.elim (fun w => (pg_tup hc h hn hst).run pins s σ H v u Q I r w) (fun w => (pg_lst hc h hn hst).run pins s σ H v u Q I r w)⟩
end L2
namespace L2
open PySem
theorem gSeq_of {K : PySem.W.Frag} {n : Nat} {t : TGs} {p : Addr} {xs : List V} {σ : L2.St} {H : Hp} {Q : L2.St → Hp → Prop} (h : H p = some (.tup xs) ∨ H p = some (.lst xs)) (hn : xs.length = n) (q : t xs σ H Q) : gSeq K n t (.ref p) σ H Q := by
  rcases h with h | h
  · exact .inl ⟨p, xs, rfl, SqT.of h, hn, q⟩
  · exact .inr ⟨p, xs, rfl, SqL.of h, hn, q⟩
end L2

namespace L2
open PySem PySem.Spec PyProof.Rows L2H
/-! ### a def that is handed the exception of the except suite it is called from: p, its place and its object, is known -/
structure FnE (P : Program) (w : World) (K : PySem.W.Frag) (mg : Str → Option Value) (base : Heap) (CX : CXT) (k : Nat) (f : Addr) (fd : FuncData) (ps : List Str) (sp : Sp) (p : Addr × Obj) : Prop where
  len : ∀ vs H Q E, sp vs H Q E → vs.length = ps.length
  run : ∀ (A : Around) (outer : List Env) (s : Shared) (H : Hp) (args : Args) (us : List Value) (vs : List V) (Q : VK) (E : XK), RoomH k A → PinOk outer H s p → Env0 P w K mg base A outer s H → BindsTo s fd args (ps.zip us) → Vals vs us → sp vs H Q E →
    codeAny (model P w) A (.call (.ref f) args) (CR CX outer P w H s Q E) s
section
variable {P : Program} {w : World} {K : PySem.W.Frag} {mg : Str → Option Value} {base : Heap} {k : Nat} {f : Addr} {fd : FuncData} {x qual : Str} {st : Stmt} {N ps : List Str} {sp : Sp} {p : Addr × Obj}
theorem Fun.okE (F : Fun K x qual st f fd) (S : FnScope N ps (defScope st)) (len : ∀ vs H Q E, sp vs H Q E → vs.length = ps.length)
    (body : ∀ (cdv : Value) (A : Around) (outer : List Env) (s : Shared) (H : Hp) (vs : List V) (Q : VK) (E : XK), RoomH k (A.deeper (envOfC qual (defScope st) s.heap.objs.size f cdv)) → sp vs H Q E →
      ∃ t, PSs (cxH CX0 P w K mg base N qual (defScope st) f cdv A outer s H E p) (defBody st) t ∧ t { nx := fun _ H' => Q .non H', rt := Q } (start N vs) H) : FnE P w K mg base CX0 (k + 1) f fd ps sp p := by
  obtain ⟨oc, od, kV, doc, pm, an, cdv, ct, osl, rfl, lk, hcd⟩ := F.ex
  refine ⟨len, fun A outer s H args us vs Q E hr hpin e0 hb r hsp => ?_⟩
  have inK : K.In s.heap := e0.mod.kin.keeps fun b o e => (e0.bs b o e).1
  have lim : s.heap.NoLimit := e0.mod.nolimit.keeps fun b o e => (e0.bs b o e).1
  have kinds : ∀ y ∈ ps.zip us, (defScope st).names.lookup y.1 = some .local ∨ ((defScope st).names.lookup y.1 = some .cell ∧ ((cellsFrom (s.heap.objs.size + 1) (defScope st).names []).lookup y.1).isSome = true) := fun ⟨n, v⟩ hy =>
    (S.par n (List.of_mem_zip hy).1).elim .inl fun q => .inr ⟨q, PySem.W.cellsFrom_some _ _ _ (.inl q)⟩
  refine codeAny_call_function hr.depth (inK _ _ lk) rfl S.co S.gen rfl (PySem.W.codeRec_of inK hcd) (hb _ _ _ _ (wpAny_newFunctionEnv_cells S.kind kinds fun env he s1 y => ?_))
  subst he
  obtain ⟨t, ht, hq⟩ := body cdv A outer s H vs Q E (hr.deeper _) hsp
  refine ⟨lim.keeps y.toInCall.keep, codeAny_func (wpAny_mono (ht.run [] s1 (start N vs) H _ (inv_startH S hpin e0 (len _ _ _ _ hsp) r y) hq) (fun fl s' hs => ?_) fun e s' hs => hs)⟩
  match fl, hs with
  | .ret u, ⟨v, σ', H', J, rv, q⟩ => exact ⟨v, H', J.os, J.bare, J.base, J.hok, rv, q⟩
  | .next, ⟨σ', H', J, q⟩ => exact ⟨V.non, H', J.os, J.bare, J.base, J.hok, rfl, q⟩
  | .brk, ⟨_, _, _, q⟩ => exact False.elim q
  | .cont, ⟨_, _, _, q⟩ => exact False.elim q
end
section
variable {X : Cx} {CX : CXT} {k : Nat} {f : Addr} {fd : FuncData} {ps : List Str} {sp : Sp} {E : XK} {p : Addr × Obj} {x : Str} {q pos : Pos} {e : Expr} {es : List Expr} {t : TA}
theorem pe_callE (F : FnE X.prog X.w X.K X.mg X.base CX k f fd ps sp p) (hr : RoomH k X.A) (hp : p ∈ X.pn) (hg : Gl X x) (hm : X.mg x = some (.ref f)) (hk : PySem.W.keepIn X.K (.ref f) = true) (hb : Binds X.K fd ps []) (hx : Passes CX X E)
    (ha : PA X (e :: es) t) (hdb : (x == ("__debug__" : Str)) = false := by decide) (he : starEach (e :: es) X.env = (false, eval e X.env) :: starEach es X.env := by rfl) (hpl : (backTo pos (starEach es X.env)).any (·.1) = false := by rfl) :
    PE X (.Call (.Name x q) (e :: es) [] pos) (tCall sp [] E t) := by
  refine ⟨fun pins s σ H Q I h => ?_⟩
  refine wpAny_Call_Name_kw (ld_glob I hg hm ?_ hdb)
  refine PySem.W.callWith_K (h₀ := X.base) I.ok.mod.kin hk (thn (ha.run pos pins s σ H _ I h) fun us s1 ⟨vs, H1, I1, r, q⟩ => ⟨I1.kIn, ?_⟩) he hpl
  have q : sp vs H1 Q E := by simpa using q
  have hl : us.length = ps.length := by rw [← r.length]; exact F.len _ _ _ _ q
  have b := hb s1 us I1.kIn (by rw [List.append_nil]; exact hl)
  rw [List.append_nil] at b
  have P1 := I1.pin p (List.mem_append_left _ hp)
  have hpin : PinOk X.stack H1 s1 p := ⟨P1.1, P1.2.1, fun hm => (List.mem_cons.mp (I1.stkSub p.1 hm)).elim P1.2.2.1 P1.2.2.2.1, P1.2.2.2.2⟩
  refine wpAny_call (codeAny_mono (F.run X.A X.stack s1 H1 ⟨us, []⟩ us vs Q E hr hpin I1.env0 b r q) fun r s' hq => ?_)
  match r, hq with
  | .error e, hq => exact hx pins σ H1 s1 e s' I1 hq
  | .ok (.ret u), hq => exact I1.after hq
/-- isinstance(e, c), e the pinned exception -/
theorem call_isP {a : Addr} {oe : Obj} {cls : Value} {d : Option Addr} (hp : (a, oe) ∈ X.pn) (hz : Zc cls d oe) (hf : ∃ vs, oe.data = .fields vs) : CallR X (.builtin "isinstance") (rIsX X.K a cls d) := by
  intro pins s σ H xs us Q I r h
  obtain ⟨D, dd, fs, c, cv, b, rfl, rfl, hdd, C, rfl, hcv, e, q⟩ := h
  cases r with
  | cons rx rr =>
    cases rr with
    | cons rt rr =>
      cases rr
      cases rx
      have ec := hcv.eq rt
      subst ec
      obtain ⟨hget, _⟩ := I.pin (a, oe) (List.mem_append_left _ hp)
      obtain ⟨vs, hv⟩ := hf
      have hx : ObjOk X.prog X.w H s.heap dd (.xd fs) := I.hok dd _ hdd
      obtain ⟨mA, hns, hr⟩ := hx
      obtain ⟨od, ho, hl⟩ := lookIn_ns hns
      have J : PySem.W.InstAt s.heap a oe D (some od) := ⟨hget, hz.1, by unfold PySem.W.notCls; rw [hv] <;> rfl, by rw [hz.2]; exact ho⟩
      obtain ⟨cd, hc, _⟩ := PySem.W.any_some C.hd
      exact PySem.W.kia_one (PySem.W.kitx_exc (by rw [hc]; rfl) C.ga C.gg C.hs C.ha C.hn C.ht C.hm) I.kIn J e (fun z => nomatch z) fun tk => ⟨.bl b, H, I.kept (t' := tk) fun _ _ z => z, rfl, q⟩
/-- e.f, e the pinned exception -/
theorem pe_xfP {a : Addr} {oe : Obj} {cls : Value} {d : Option Addr} {ex : Expr} {te : TE} {n : Str} {apos : Pos} (hp : (a, oe) ∈ X.pn) (hz : Zc cls d oe) (hf : ∃ vs, oe.data = .fields vs) (he : PE X ex te) (hb : attributeBase ex n X.env (eval ex X.env) = eval ex X.env := by rfl) :
    PE X (.Attribute ex n apos) (tXfX X.K a cls d n te) := by
  refine ⟨fun pins s σ H Q I h => ?_⟩
  refine attr_of hb (thn (he.run pins s σ H _ I h) fun u s1 hh => ?_)
  obtain ⟨x, H1, I1, rx, ex, C, dd, fs, v, ec, T, hno, ed, ea, l, q⟩ := hh
  subst ex
  obtain rfl : u = Value.ref a := rx
  subst ec
  subst ed
  obtain ⟨ha, _⟩ := I1.pin (a, oe) (List.mem_append_left _ hp)
  obtain ⟨vs, hd⟩ := hf
  have hx : ObjOk X.prog X.w H1 s1.heap dd (.xd fs) := I1.hok dd _ ea
  obtain ⟨mA, hns, hr⟩ := hx
  obtain ⟨od, ho, hl⟩ := lookIn_ns hns
  obtain ⟨u, hu, ru⟩ := RelO.some_of (v := v) (o := mA n) (by rw [← l]; exact hr n)
  have J : PySem.W.InstAt s1.heap a oe C (some od) := ⟨ha, hz.1, by unfold PySem.W.notCls; rw [hd] <;> rfl, by rw [hz.2]; exact ho⟩
  exact HandSPX.exc_get I1.kIn J T.ga T.gg T.hs (PySem.W.findObj_own T.hd hno rfl (by rw [hl, hu])) (handed_of ru) ⟨v, H1, I1.tok _, ru, q⟩
end
end L2
namespace L2
/-- a built-in's method, the fragment named (for suites and a try's body, whose context names what the reading may not) -/
theorem pe_bmK {X : Cx} {K : PySem.W.Frag} {ex : PySem.Expr} {T : String} {r : V → List V → Hp → VK → Prop} {to : TE} {t : TA} (hK : X.K = K) (h : PE X ex (tBM X.K T r to t)) : PE X ex (tBM K T r to t) := hK ▸ h
end L2
namespace L2
open PySem
theorem room_suite {k j : Nat} {A A' : Around} (hr : Room k A) (h : j ≤ k) (e1 : A'.depth = A.depth) (e2 : A'.units = A.units) : L2H.RoomH j A' := ⟨by have := hr.dp; rw [e1]; omega, by have := hr.un; rw [e2]; omega⟩
end L2

namespace L2
open PySem PySem.Spec PyProof.Rows
/-! ### own objects where a built-in asks them: o[k], x in o, len(o), str(o), for x in o, C.m(..) of a staticmethod -/
section
variable {X : Cx} {CX : CXT} {k : Nat} {f C a dx : Addr} {fs : List (Str × V)} {fd : FuncData} {ps : List Str} {sp : Sp} {E : XK} {pins : List (Addr × Obj)} {σ : St} {H : Hp} {s : Shared} {Q : VK} {us : List Value} {vs : List V}
/-- a def's call from within a built-in -/
theorem run_sub {A1 : Around} (hf : A1.frames = some X.stack) (F : FnOk X.prog X.w X.K X.mg X.base CX k f fd ps sp) (hr : Room k A1) (hb : Binds X.K fd ps []) (hx : Passes CX X E) (I : Inv X pins σ H s) (r : Vals vs us) (h : sp vs H Q E) :
    wpAny (model X.prog X.w) A1 (call (.ref f) us) (EP X pins σ Q) X.xe s := by
  have hl : (us ++ []).length = ps.length := by rw [List.append_nil, ← r.length]; exact F.len _ _ _ _ h
  have e := I.env0
  have bt := hb s us I.kIn hl
  rw [List.append_nil] at bt
  refine wpAny_call (codeAny_mono (F.run A1 X.stack s H ⟨us, []⟩ us vs Q E hr ⟨hf, e.mod, e.bs, e.bsz, e.funs, e.frf, e.hok, e.bare⟩ bt r h) fun r s' hq => ?_)
  match r, hq with
  | .error e, hq => exact hx pins σ H s e s' I hq
  | .ok (.ret u), hq => exact I.after hq
theorem stack_of (I : Inv X pins σ H s) : X.A.frames = some X.stack := I.env0.frames
theorem inst_of (I : Inv X pins σ H s) (h : H a = some (.ins C dx fs)) : ∃ ox od, PySem.W.InstAt s.heap a ox C (some od) := by
  obtain ⟨mA, J, _⟩ := ins_get I.hok h
  obtain ⟨od, J, _⟩ := J.look
  exact ⟨_, od, J⟩
/-- o[k] by the class's own def -/
def rGetI (C : Addr) (sp : Sp) (E : XK) : R2 := fun x y H Q => ∃ a dx fs, x = .ref a ∧ H a = some (.ins C dx fs) ∧ sp [x, y] H Q E
theorem pe_getI {ea eb : Expr} {ta tb : TE} {pos : Pos} (m : Meth X.K C "__getitem__" f) (hfi : PySem.W.fnIn X.K f = true) (F : FnOk X.prog X.w X.K X.mg X.base CX k f fd ps sp) (hr : Room (k + 1) X.A) (hb : Binds X.K fd ps []) (hx : Passes CX X E)
    (ha : PE X ea ta) (hbe : PE X eb tb) (hsl : ∀ (x : Addr) (i : Value), subscripted eb true (.ref x) i = runValue (.builtin "lifetime.subscript" ⟨[.ref x, i], []⟩) := by intro _ _; with_unfolding_all rfl) : PE X (.Subscript ea eb pos) (tOp (rGetI C sp E) ta tb) := by
  refine ⟨fun pins s σ H Q I h => ?_⟩
  refine Subscript_ (binT ha hbe I h fun v u s2 x y H2 I2 rx ry q => ?_)
  obtain ⟨a, dx, fs, rfl, ho, q⟩ := q
  cases rx
  obtain ⟨ox, od, J⟩ := inst_of I2 ho
  obtain ⟨mf, hF⟩ := I2.fr
  exact PySem.W.sub_K hF I2.ok.mod.kin J m.at_ hfi m.fn (run_sub (A1 := X.A.in1) (us := [.ref a, u]) (vs := [.ref a, y]) (stack_of I2) F hr.in1 hb hx I2 (.cons rfl (.cons ry .nil)) q) (hsl a u)
/-- x in o, x not in o -/
def rInI (C : Addr) (sp : Sp) (E : XK) (neg : Bool) : R2 := fun x y H Q => ∃ a dx fs, y = .ref a ∧ H a = some (.ins C dx fs) ∧ sp [y, x] H (fun v H' => ∃ b : Bool, v = .bl b ∧ Q (.bl (if neg then !b else b)) H') E
theorem truth_bl {A : Around} {E' : Value → Shared → Prop} {b : Bool} {s : Shared} {Qb : Bool → Shared → Prop} (h : Qb b s) : wpAny (model X.prog X.w) A (truthy (.bool b)) Qb E' s := by
  unfold truthy
  exact wpAny_pure h
theorem op_inI (m : Meth X.K C "__contains__" f) (F : FnOk X.prog X.w X.K X.mg X.base CX k f fd ps sp) (hr : Room k X.A) (hb : Binds X.K fd ps []) (hx : Passes CX X E) : OpR X (compareOp .In) (rInI C sp E false) := by
  intro pins s σ H x y v u Q I rx ry h
  obtain ⟨a, dx, fs, rfl, ho, q⟩ := h
  cases ry
  obtain ⟨ox, od, J⟩ := inst_of I ho
  obtain ⟨mf, hF⟩ := I.fr
  refine PySem.W.in_K hF I.ok.mod.kin J m.at_ m.fn (thn (run_sub (us := [.ref a, v]) (vs := [.ref a, x]) (stack_of I) F hr hb hx I (.cons rfl (.cons rx .nil)) q) fun r s' z => ?_)
  obtain ⟨z1, H1, I1, r1, b, rfl, q1⟩ := z
  cases r1
  exact truth_bl ⟨.bl b, H1, I1, rfl, q1⟩
theorem op_ninI (m : Meth X.K C "__contains__" f) (F : FnOk X.prog X.w X.K X.mg X.base CX k f fd ps sp) (hr : Room k X.A) (hb : Binds X.K fd ps []) (hx : Passes CX X E) : OpR X (compareOp .NotIn) (rInI C sp E true) := by
  intro pins s σ H x y v u Q I rx ry h
  obtain ⟨a, dx, fs, rfl, ho, q⟩ := h
  cases ry
  obtain ⟨ox, od, J⟩ := inst_of I ho
  obtain ⟨mf, hF⟩ := I.fr
  refine PySem.W.notIn_K hF I.ok.mod.kin J m.at_ m.fn (thn (run_sub (us := [.ref a, v]) (vs := [.ref a, x]) (stack_of I) F hr hb hx I (.cons rfl (.cons rx .nil)) q) fun r s' z => ?_)
  obtain ⟨z1, H1, I1, r1, b, rfl, q1⟩ := z
  cases r1
  exact truth_bl ⟨.bl (!b), H1, I1, rfl, q1⟩
/-- len(o) -/
def rLenI (C : Addr) (sp : Sp) (E : XK) : List V → Hp → VK → Prop := fun xs H Q => ∃ a dx fs, xs = [.ref a] ∧ H a = some (.ins C dx fs) ∧ sp [.ref a] H (fun v H' => ∃ n : Int, v = .int n ∧ 0 ≤ n ∧ n < 2 ^ 63 ∧ Q (.int n) H') E
theorem call_lenI (m : Meth X.K C "__len__" f) (F : FnOk X.prog X.w X.K X.mg X.base CX k f fd ps sp) (hr : Room (k + 1) X.A) (hb : Binds X.K fd ps []) (hx : Passes CX X E) : CallR X (.builtin "len") (rLenI C sp E) := by
  intro pins s σ H xs us Q I r h
  obtain ⟨a, dx, fs, rfl, ho, q⟩ := h
  obtain ⟨u, rfl, ru⟩ := vals1 r
  cases ru
  obtain ⟨ox, od, J⟩ := inst_of I ho
  obtain ⟨mf, hF⟩ := I.fr
  refine PySem.W.len_K hF I.ok.mod.kin J m.at_ m.fn (thn (run_sub (A1 := X.A.in1) (us := [.ref a]) (vs := [.ref a]) (stack_of I) F hr.in1 hb hx I (.cons rfl .nil) q) fun r s' z => ?_)
  obtain ⟨z1, H1, I1, r1, n, rfl, h0, h1, q1⟩ := z
  obtain ⟨t, rfl⟩ := r1
  exact ⟨⟨h0, h1⟩, .int n, H1, I1.tok _, ⟨_, rfl⟩, q1⟩
/-- str(o) -/
def rStrI (C : Addr) (sp : Sp) (E : XK) : List V → Hp → VK → Prop := fun xs H Q => ∃ a dx fs, xs = [.ref a] ∧ H a = some (.ins C dx fs) ∧ sp [.ref a] H (fun v H' => ∃ z : Str, v = .str z ∧ Q (.str z) H') E
theorem call_strI (m : Meth X.K C "__str__" f) (F : FnOk X.prog X.w X.K X.mg X.base CX k f fd ps sp) (hr : Room (k + 2) X.A) (hb : Binds X.K fd ps []) (hx : Passes CX X E) : CallR X (.type "str") (rStrI C sp E) := by
  intro pins s σ H xs us Q I r h
  obtain ⟨a, dx, fs, rfl, ho, q⟩ := h
  obtain ⟨u, rfl, ru⟩ := vals1 r
  cases ru
  obtain ⟨ox, od, J⟩ := inst_of I ho
  have hr2 : Room k X.A.in1.in1 := hr.in1.in1
  refine PySem.W.kso_call hr2.units0 I.kIn J m.at_ m.fn (thn (run_sub (A1 := X.A.in1.in1) (us := [.ref a]) (vs := [.ref a]) (stack_of I) F hr2 hb hx I (.cons rfl .nil) q) fun r s' z => ?_)
  obtain ⟨z1, H1, I1, r1, y, rfl, q1⟩ := z
  obtain ⟨t, rfl⟩ := r1
  exact ⟨.str y, H1, I1, ⟨_, rfl⟩, q1⟩
end
/-! ### a staticmethod through its class -/
structure SMet (K : PySem.W.Frag) (C : Addr) (mc : Value) (m : Str) (p g : Addr) : Prop where
  at_ : PySem.W.findCls K (.ref C) mc m = some (.get (.builtin "staticmethod.__get__") (.ref p) .none (.ref C))
  rc : ∃ rest, PySem.W.recIn K p "staticmethod" = some (.ref g :: rest)
  kp : PySem.W.keepIn K (.ref g) = true
def tSMeth (C : Addr) (sp : Sp) (E : XK) (ta : TE) (t : TA) : TE := fun σ H Q => ta σ H fun x H1 => x = .ref C ∧ t σ H1 fun vs H2 => sp vs H2 Q E
section
variable {X : Cx} {CX : CXT} {k : Nat} {C p g : Addr} {mc : Value} {fd : FuncData} {ps : List Str} {sp : Sp} {E : XK} {o e : Expr} {es : List Expr} {m : Str} {pos apos : Pos} {ta : TE} {t : TA} {pl : Sem Bool}
theorem getsm_ok {pins : List (Addr × Obj)} {σ : St} {H : Hp} {s : Shared} {A : Around} {E' : Value → Shared → Prop} {Q : Value × List Value → Shared → Prop} (I : Inv X pins σ H s) (r : ClX.CRead X.K C mc) (c : SMet X.K C mc m p g)
    (h : ∀ s', Inv X pins σ H s' → Q (.ref g, []) s') : wpAny (model X.prog X.w) A (getMethod (.ref C) m pl) Q E' s := by
  obtain ⟨rest, hp⟩ := c.rc
  refine PySem.W.method_cls I.kIn r.ga (PySem.W.cls_bind I.kIn r.rd c.at_ (wpAny_call ?_))
  exact PySem.W.sm_get (s := { s with toks := s.toks + 1 }) I.kIn hp (PySem.W.handed_on rfl (h _ (I.tok _)))
theorem pe_smeth (he : PE X o ta) (r : ClX.CRead X.K C mc) (c : SMet X.K C mc m p g) (F : FnOk X.prog X.w X.K X.mg X.base CX k g fd ps sp) (hr : Room k X.A) (hb : Binds X.K fd ps []) (hx : Passes CX X E) (ha : PA X (e :: es) t)
    (hst : starEach (e :: es) X.env = (false, eval e X.env) :: starEach es X.env := by rfl) (hpl : (backTo pos (starEach es X.env)).any (·.1) = false := by rfl)
    (ht : eval (.Call (.Attribute o m apos) (e :: es) [] pos) X.env = (do
      let ov ← eval o X.env
      standAt apos.atName
      let (f, first) ← holding [ov] (getMethod ov m pl)
      callWith pos f first (backTo pos (starEach (e :: es) X.env)) (backToKw pos (keywordEach [] X.env))) := by rfl) :
    PE X (.Call (.Attribute o m apos) (e :: es) [] pos) (tSMeth C sp E ta t) := by
  refine ⟨fun pins s σ H Q I h => PySem.W.methodCall_KW (pl := pl) (thn (he.run pins s σ H _ I h) fun u s1 ⟨x, H1, I1, rx, ex, q⟩ => ?_) ht⟩
  subst ex
  obtain rfl : u = Value.ref C := rx
  refine getsm_ok I1 r c fun s2 I2 => ?_
  refine PySem.W.callWith_K (first := []) (h₀ := X.base) I.ok.mod.kin c.kp (thn (ha.run pos pins s2 σ H1 _ I2 q) fun us s3 ⟨vs, H2, I3, rv, q2⟩ => ⟨I3.kIn, ?_⟩) hst hpl
  exact run_sub (us := us) (vs := vs) (stack_of I3) F hr hb hx I3 rv q2
/-- the same in a try's body: the way out sees the slots -/
def tSMethW (C : Addr) (sp : Sp) (E : St → XK) (ta : TE) (t : TA) : TE := fun σ H Q => tSMeth C sp (E σ) ta t σ H Q
theorem pe_smethW {E : St → XK} (he : PE X o ta) (r : ClX.CRead X.K C mc) (c : SMet X.K C mc m p g) (F : FnOk X.prog X.w X.K X.mg X.base CX k g fd ps sp) (hr : Room k X.A) (hb : Binds X.K fd ps []) (hx : ∀ σ, PassesAt CX X σ (E σ)) (ha : PA X (e :: es) t)
    (hst : starEach (e :: es) X.env = (false, eval e X.env) :: starEach es X.env := by rfl) (hpl : (backTo pos (starEach es X.env)).any (·.1) = false := by rfl)
    (ht : eval (.Call (.Attribute o m apos) (e :: es) [] pos) X.env = (do
      let ov ← eval o X.env
      standAt apos.atName
      let (f, first) ← holding [ov] (getMethod ov m pl)
      callWith pos f first (backTo pos (starEach (e :: es) X.env)) (backToKw pos (keywordEach [] X.env))) := by rfl) :
    PE X (.Call (.Attribute o m apos) (e :: es) [] pos) (tSMethW C sp E ta t) := by
  refine ⟨fun pins s σ H Q I h => PySem.W.methodCall_KW (pl := pl) (thn (he.run pins s σ H _ I h) fun u s1 ⟨x, H1, I1, rx, ex, q⟩ => ?_) ht⟩
  subst ex
  obtain rfl : u = Value.ref C := rx
  refine getsm_ok I1 r c fun s2 I2 => ?_
  refine PySem.W.callWith_K (first := []) (h₀ := X.base) I.ok.mod.kin c.kp (thn (ha.run pos pins s2 σ H1 _ I2 q) fun us s3 ⟨vs, H2, I3, rv, q2⟩ => ⟨I3.kIn, ?_⟩) hst hpl
  exact run_fnSD (us := us) (vs := vs) F hr hb .nil (hx σ) I3 rv (by rw [List.append_nil]; exact q2)
end
end L2

namespace L2
open PySem PySem.Spec PyProof.Rows
/-! ### for x in o, o's __iter__ gives iter(o.f), f a list -/
section
variable {P : Program} {w : World} {K : PySem.W.Frag} {mg : Str → Option Value} {base : Heap} {x qual : Str} {st : Stmt} {f : Addr} {fd : FuncData} {N ps : List Str} {k : Nat}
/-- one call of a def, told from its state -/
theorem fn_here {A : Around} {outer : List Env} {s : Shared} {H : Hp} {us : List Value} {vs : List V} {Q : VK} {E : XK} (F : Fun K x qual st f fd) (S : FnScope N ps (defScope st)) (hb : Binds K fd ps []) (hr : Room (k + 1) A) (e0 : Env0 P w K mg base A outer s H)
    (r : Vals vs us) (hl : vs.length = ps.length)
    (body : ∀ cdv, Room k (A.deeper (envOfC qual (defScope st) s.heap.objs.size f cdv)) → ∃ t, PSs (cxOf CX0 P w K mg base N qual (defScope st) f cdv A outer s H E).nox (defBody st) t ∧ t { nx := fun _ H' => Q .non H', rt := Q } (start N vs) H) :
    codeAny (model P w) A (.call (.ref f) ⟨us, []⟩) (CR CX0 outer P w H s Q E) s := by
  obtain ⟨oc, od, kV, doc, pm, an, cdv, ct, osl, rfl, lk, hcd⟩ := F.ex
  have KX : K.In s.heap := PySem.W.Frag.In.keeps e0.mod.kin (fun b o q => (e0.bs b o q).1)
  have NL : s.heap.NoLimit := Heap.NoLimit.keeps e0.mod.nolimit (fun b o q => (e0.bs b o q).1)
  have lu : (us ++ []).length = ps.length := by rw [List.append_nil, ← r.length, hl]
  have bt := hb s us KX lu
  rw [List.append_nil] at bt
  obtain ⟨t, ht, hq⟩ := body cdv (hr.deeper _)
  refine codeAny_call_function hr.depth (KX _ _ lk) rfl S.co S.gen rfl (PySem.W.codeRec_of KX hcd) (bt _ _ _ _ (wpAny_newFunctionEnv_cells S.kind ?_ ?_))
  · intro y hy
    have m := (List.of_mem_zip (a := y.1) (b := y.2) hy).1
    exact (S.par y.1 m).elim .inl fun z => .inr ⟨z, PySem.W.cellsFrom_some _ _ _ (.inl z)⟩
  · intro env he s1 ic
    subst he
    have I : Inv (cxOf CX0 P w K mg base N qual (defScope st) f cdv A outer s H E) [] (start N vs) H s1 := inv_start S hr.hd e0 hl r ic
    refine ⟨NL.keeps ic.toInCall.keep, codeAny_func (wpAny_mono (ht.nox.run [] s1 (start N vs) H _ I hq) (fun fl s' z => ?_) fun _ _ z => z)⟩
    match fl, z with
    | .ret u, ⟨v, _, H', J, rv, q⟩ => exact ⟨v, H', J.os, J.bare, J.base, J.hok, rv, q⟩
    | .next, ⟨_, H', J, q⟩ => exact ⟨V.non, H', J.os, J.bare, J.base, J.hok, rfl, q⟩
    | .brk, ⟨_, _, _, q⟩ => exact q.elim
    | .cont, ⟨_, _, _, q⟩ => exact q.elim
/-- what such an __iter__ promises: a new iterator of the list, younger than the call -/
def IterOk (P : Program) (w : World) (K : PySem.W.Frag) (mg : Str → Option Value) (base : Heap) (k : Nat) (g C : Addr) (fl : Str) : Prop :=
  ∀ (A : Around) (outer : List Env) (s : Shared) (H : Hp) (a dx l : Addr) (fs : List (Str × V)) (xs : List V) (Q : VK) (E : XK), Room k A → Env0 P w K mg base A outer s H → H a = some (.ins C dx fs) → fs.lookup fl = some (.ref l) → SqL K H l xs →
    (∀ it, H it = none → s.heap.objs.size ≤ it → Q (.ref it) (upd H it (ItO l it 0))) → codeAny (model P w) A (.call (.ref g) ⟨[.ref a], []⟩) (CR CX0 outer P w H s Q E) s
end
def iOwn (K : PySem.W.Frag) (C : Addr) (f : Str) (tl : TE) : TI := fun σ H R => tl σ H fun x H1 => ∃ (a dx l : Addr) (fs : List (Str × V)) (xs : List V), x = .ref a ∧ H1 a = some (.ins C dx fs) ∧ fs.lookup f = some (.ref l) ∧ SqL K H1 l xs ∧ R (Itl K l) H1
section
variable {X : Cx} {tg o : Expr} {tl : TE} {k : Nat} {g C : Addr} {fl : Str}
theorem pi_own (m : Meth X.K C "__iter__" g) (F : IterOk X.prog X.w X.K X.mg X.base k g C fl) (hr : Room k X.A) (ho : PE X o tl) : PI X tg o (iOwn X.K C fl tl) := by
  refine ⟨fun pins s σ H R I h => thn (ho.run pins s σ H _ I h) fun v s1 ⟨x, H1, I1, r1, a, dx, l, fs, xs, ex, ha, hf, hq, q⟩ => ?_⟩
  subst ex
  cases r1
  obtain ⟨ox, od, J⟩ := inst_of I1 ha
  obtain ⟨mf, hF⟩ := I1.fr
  refine PySem.W.owit_iter hF I1.ok.mod.kin J m.at_ m.fn (wpAny_call (codeAny_mono (F X.A X.stack s1 H1 a dx l fs xs (fun v H2 => ∃ it, v = .ref it ∧ H1 it = none ∧ s1.heap.objs.size ≤ it ∧ H2 = upd H1 it (ItO l it 0)) E0 hr I1.env0 ha hf hq fun it n1 n2 => ⟨it, rfl, n1, n2, rfl⟩) fun r s' z => ?_))
  match r, z with
  | .error _, z => exact z.elim
  | .ok (.ret u), z =>
    obtain ⟨v2, H2, I2, r2, it, rfl, n1, n2, rfl⟩ := I1.after z
    cases r2
    have eo := itO_get I2 upd_same
    have hT : s'.TypeIs (.ref it) "list_iterator" := ⟨_, eo, rfl⟩
    have I3 := ItX.inv_drop I2 (a := it) (by rw [upd_same]; rfl)
    rw [ItX.dropH_upd n1] at I3
    refine wpAny_specialOf (name := Str.ofString "__next__") hT slot_listiter_next.lookup ?_
    refine ⟨it, [it], _, _, H1, rfl, I3, turn_list l it, ⟨_, eo, rfl, rfl⟩, fun b hb => ?_, q⟩
    obtain rfl : b = it := by simpa using hb
    exact I1.fpOk n2 n1
end
end L2

namespace L2
open PySem PySem.Spec PyProof.Rows
/-! ### defs with *rest, instances made by C(), C(*a), C(*a, *b) -/
/-- what a def with ps and *pv binds -/
def StarB (fd : FuncData) (ps : List Str) (pv : Str) : Prop := ∀ us rest : List Value, us.length = ps.length → bindArgs fd ⟨us ++ rest, []⟩ = (newTuple rest >>= fun t => pure (ps.zip us ++ [(pv, t)]))
/-- its promise: from that of its body, the rest as a new tuple -/
def spStar (n : Nat) (sp : Sp) : Sp := fun vs H Q E => ∃ ws rest, vs = ws ++ rest ∧ ws.length = n ∧ rest.length ≤ sizeLine ∧ ∀ p, H p = none → sp (ws ++ [V.ref p]) (upd H p (.tup rest)) Q E
section
variable {P : Program} {w : World} {K : PySem.W.Frag} {mg : Str → Option Value} {base : Heap} {x qual : Str} {st : Stmt} {f : Addr} {fd : FuncData} {N ps : List Str} {pv : Str} {k : Nat} {sp : Sp}
theorem Fun.starX (F : Fun K x qual st f fd) (S : FnScope N (ps ++ [pv]) (defScope st)) (hb : StarB fd ps pv)
    (body : ∀ (cdv : Value) (A : Around) (outer : List Env) (s : Shared) (H : Hp) (vs : List V) (Q : VK) (E : XK), Room k (A.deeper (envOfC qual (defScope st) s.heap.objs.size f cdv)) → sp vs H Q E →
      ∃ t, PSs (cxOf (L2.CX P w) P w K mg base N qual (defScope st) f cdv A outer s H E) (defBody st) t ∧ t { nx := fun _ H' => Q .non H', rt := Q } (start N vs) H) : FnR P w K mg base (L2.CX P w) (k + 1) f (spStar ps.length sp) := by
  obtain ⟨oc, od, kV, doc, pm, an, cdv, ct, osl, rfl, lk, hcd⟩ := F.ex
  exact StX.fn_star lk hcd S StX.cxUp hb fun A outer s H vs Q E hr h => body cdv A outer s H vs Q E hr h
theorem FnR.calm (F : FnR P w K mg base (L2.CX P w) k f sp) : FnR P w K mg base CX0 k f (fun vs H Q _ => sp vs H Q fun _ _ _ => False) := fun A outer s H us vs Q _ hr e0 r h =>
  codeAny_mono (F A outer s H us vs Q _ hr e0 r h) fun r s' hq => by
    match r, hq with
    | .error _, ⟨_, _, _, _, _, _, _, _, _, _, _, _, z⟩ => exact z.elim
    | .ok (.ret _), hq => exact hq
end
/-- two starred arguments -/
theorem evalArgs_two {M : Model} {A : Around} {E : Value → Shared → Prop} {s : Shared} {f : Value} {a b : Bool × Sem Value} {rest : List (Bool × Sem Value)} {Q : Args → Shared → Prop} (h : wpAny M A (spliced (a :: b :: rest)) (fun vs s' => Q ⟨vs, []⟩ s') E s) : wpAny M A (evalArgs f true (a :: b :: rest) []) Q E s := by
  obtain ⟨a1, a2⟩ := a
  unfold evalArgs
  cases a1
  · show wpAny M A (spliced ((false, a2) :: b :: rest) >>= _) Q E s
    exact wpAny_bind (wpAny_mono h (fun vs s' q => wpAny_holding (wpAny_bind (wpAny_pure (wpAny_bind (wpAny_pure (wpAny_pure q)))))) fun _ _ z => z)
  · show wpAny M A (spliced ((true, a2) :: b :: rest) >>= _) Q E s
    exact wpAny_bind (wpAny_mono h (fun vs s' q => wpAny_holding (wpAny_bind (wpAny_pure (wpAny_bind (wpAny_pure (wpAny_pure q)))))) fun _ _ z => z)
section
variable {X : Cx} {CX : CXT} {k : Nat} {f C : Addr} {sp : Sp} {E : XK} {x : Str} {e e1 e2 : Expr} {es : List Expr} {te : TE} {t : TA} {p q1 q2 pos : Pos}
theorem pe_makeR0 (M : Mk X.K C f) (F : FnR X.prog X.w X.K X.mg X.base CX k f sp) (hr : Room (k + 1) X.A) (hg : Gl X x) (hm : X.mg x = some (.ref C)) (hx : Passes CX X E) (hdb : (x == ("__debug__" : Str)) = false := by decide) :
    PE X (.Call (.Name x p) [] [] pos) (StX.tMakeR C sp E tNil) := by
  refine ⟨fun pins s σ H Q I h => wpAny_Call_Name_kw (ld_glob I hg hm ?_ hdb)⟩
  exact PySem.W.callWith_K0 I.kIn M.kp (StX.run_makeR (us := []) (vs := []) M F hr hx I .nil h)
/-- C(*e): the reading -/
def tMakeS (K : PySem.W.Frag) (C : Addr) (sp : Sp) (E : XK) (te : TE) : TE := fun σ H Q => te σ H fun y H1 => ∃ a xs, y = V.ref a ∧ (SqT K H1 a xs ∨ SqL K H1 a xs) ∧ ∀ x dx, H1 x = none → H1 dx = none → dx ≠ x → sp (V.ref x :: xs) (upd (upd H1 dx (.own x)) x (.ins C dx [])) (fun v H2 => v = .non ∧ Q (.ref x) H2) E
theorem pe_makeS1 (M : Mk X.K C f) (F : FnR X.prog X.w X.K X.mg X.base CX k f sp) (hr : Room (k + 1) X.A) (hg : Gl X x) (hm : X.mg x = some (.ref C)) (hx : Passes CX X E) (he : PE X e te) (hdb : (x == ("__debug__" : Str)) = false := by decide)
    (hst : starEach [.Starred e q1] X.env = [(true, eval e X.env)] := by rfl) : PE X (.Call (.Name x p) [.Starred e q1] [] pos) (tMakeS X.K C sp E te) := by
  refine ⟨fun pins s σ H Q I h => wpAny_Call_Name_kw (ld_glob I hg hm (PySem.W.callWith_S (h₀ := X.base) I.ok.mod.kin M.kp (thn (he.run pins s σ H _ I h) fun v s1 ⟨y, H1, I1, ry, a, xs, ey, hxs, q⟩ => ?_) hst) hdb)⟩
  subst ey
  cases ry
  exact StX.star_any I1 hxs fun us s2 I2 rv => ⟨I2.kIn, StX.run_makeR (us := us) (vs := xs) M F hr hx I2 rv q⟩
/-- C(*a, *b) -/
theorem pe_makeS2 (M : Mk X.K C f) (F : FnR X.prog X.w X.K X.mg X.base CX k f sp) (hr : Room (k + 1) X.A) (hg : Gl X x) (hm : X.mg x = some (.ref C)) (hx : Passes CX X E) (ha : PA X [.Starred e1 q1, .Starred e2 q2] t) (hdb : (x == ("__debug__" : Str)) = false := by decide)
    (hst : starEach [.Starred e1 q1, .Starred e2 q2] X.env = [(true, eval e1 X.env), (true, eval e2 X.env)] := by rfl) : PE X (.Call (.Name x p) [.Starred e1 q1, .Starred e2 q2] [] pos) (StX.tMakeR C sp E t) := by
  refine ⟨fun pins s σ H Q I h => wpAny_Call_Name_kw (ld_glob I hg hm ?_ hdb)⟩
  have z := thn (ha.run pos pins s σ H _ I h) (Q' := fun us s1 => X.K.In s1.heap ∧ wpAny (model X.prog X.w) X.A (call (.ref C) ([] ++ us)) (EP X pins σ Q) X.xe s1) fun us s1 ⟨vs, H1, I1, r, q⟩ => ⟨I1.kIn, StX.run_makeR (us := us) (vs := vs) M F hr hx I1 r q⟩
  show wpAny _ _ (callWith pos (.ref C) [] (backTo pos (starEach [.Starred e1 q1, .Starred e2 q2] X.env)) []) _ _ _
  rw [hst] at z ⊢
  exact PySem.W.ks_call rfl (PySem.W.keeps_K M.kp) (evalArgs_two z)
end
/-! ### o + y by the class's own def, y an instance of the class, a list or a tuple -/
def Opd (K : PySem.W.Frag) (C : Addr) (H : Hp) (y : V) : Prop := (∃ b dy gs, y = .ref b ∧ H b = some (.ins C dy gs)) ∨ ∃ b xs, y = .ref b ∧ (SqL K H b xs ∨ SqT K H b xs)
def rOpI (K : PySem.W.Frag) (C : Addr) (sp : Sp) (E : XK) : R2 := fun x y H Q => ∃ a dx fs, x = .ref a ∧ H a = some (.ins C dx fs) ∧ Opd K C H y ∧ sp [x, y] H Q E
/-- what the top must have: the two defs, and of lists and tuples -/
structure OpF (K : PySem.W.Frag) (C : Addr) (nm : String) (g : Addr) : Prop where
  first : PySem.W.selfFirst K C = true
  at_ : PySem.W.findIn K (.ref C) (PySem.dunder nm) = some (some (.ref g))
  fn : PySem.W.isFn K (.ref g) = true
  rev : ∃ rc, PySem.W.findIn K (.ref C) (PySem.dunderR nm) = some rc ∧ (rc = none ∨ ∃ h : Addr, rc = some (.ref h))
  lst : ∃ fo ro, PySem.W.findIn K (.type "list") (PySem.dunder nm) = some fo ∧ PySem.W.findIn K (.type "list") (PySem.dunderR nm) = some ro ∧ PySem.W.subIn K (.type "list") (.ref C) = some false
  tup : ∃ fo ro, PySem.W.findIn K (.type "tuple") (PySem.dunder nm) = some fo ∧ PySem.W.findIn K (.type "tuple") (PySem.dunderR nm) = some ro ∧ PySem.W.subIn K (.type "tuple") (.ref C) = some false
section
variable {prog : Program} {w : World} {A : Around} {E : Value → Shared → Prop} {s : Shared} {K : PySem.W.Frag} {x C L f : Addr} {h₀ : Heap} {m : Str → Option Value} {ox : Obj} {od : Option Obj} {T : String}
/-- the library's row for an operand of a built-in type, told of what a look at its type gives -/
theorem binL {op : Operator} {b : Value} {fo ro rc : Option Value} {Q : Value → Shared → Prop} (F : Fr h₀ L s.heap m) (X₀ : K.In h₀) (I : PySem.W.InstAt s.heap x ox C od) (hb : PySem.W.Looks (model prog w) s.heap (typeOf b) (.type T)) (hc : PySem.W.selfFirst K C = true)
    (hs : PySem.W.findIn K (.ref C) (PySem.dunder op.info.2) = some (some (.ref f))) (hf : PySem.W.isFn K (.ref f) = true) (hr : PySem.W.findIn K (.ref C) (dunderR op.info.2) = some rc) (hp : rc = none ∨ ∃ g : Addr, rc = some (.ref g))
    (h1 : PySem.W.findIn K (.type T) (PySem.dunder op.info.2) = some fo) (h2 : PySem.W.findIn K (.type T) (dunderR op.info.2) = some ro) (hsub : PySem.W.subIn K (.type T) (.ref C) = some false)
    (h : wpAny (model prog w) A (call (.ref f) [.ref x, b]) (PySem.W.CmpBack Q) E s) : wpAny (model prog w) A (binaryOp op (.ref x) b) Q E s := by
  have X := X₀.keeps F.keep
  obtain ⟨cd, rest, hcd, hm⟩ := PySem.W.ksp_first hc
  rcases hi : op.info with ⟨sym, nm'⟩
  rw [hi] at hs hr h1 h2; dsimp only at hs hr h1 h2
  have one := PySem.W.ksp_try X I hs hf h
  obtain ⟨hh, gg, dd, tt, os⟩ := s
  have La := I.type (M := model prog w)
  have Lc := PySem.W.fills_K (M := model prog w) X hcd hm hs
  have Ld := PySem.W.ksp_fillsT (M := model prog w) X h1 h2
  have Le : PySem.W.Looks (model prog w) hh (isSubtype (.type T) (.ref C)) false := PySem.W.looks_subIn X hsub
  have Lf := PySem.W.ksp_inPy (M := model prog w) X hs hr hp
  have Lg : PySem.W.Looks (model prog w) hh (numberSlotInPython (.type T) nm') false := PySem.W.Looks.of_pure rfl
  have Lh : PySem.W.Looks (model prog w) hh (typeLookup (.type T) (dunderR nm')) ro := PySem.W.looks_findIn X h2
  revert Ld
  generalize ((fo.isSome && !isSeqSlot fo) || (ro.isSome && !isSeqSlot ro)) = right
  intro Ld
  have hne : (Value.ref C == Value.type T) = false := Bool.eq_false_iff.mpr fun q => by cases beq_iff_eq.mp q
  simp only [binaryOp, hi]
  refine wpAny_holding (wpAny_bind ?_)
  unfold binaryOp1
  refine wpAny_bind (La.at (wpAny_bind (hb.at (wpAny_bind (Lc.at ?_)))))
  simp only [hne, Bool.false_eq_true, if_false]
  cases right <;> (ksp_lk; refine wpAny_mono one (fun r s' hr' => ?_) (fun _ _ e => e); obtain ⟨v, rfl, hq⟩ := hr'; ksp_lk; exact hq)
end
section
variable {X : Cx} {CX : CXT} {n : Nat} {C g : Addr} {fd : FuncData} {ps : List Str} {sp : Sp} {E : XK}
theorem op_binO {op : Operator} (T : OpF X.K C op.info.2 g) (F : FnOk X.prog X.w X.K X.mg X.base CX n g fd ps sp) (hr : Room n X.A) (hb : Binds X.K fd ps []) (hx : Passes CX X E) : OpR X (binaryOp op) (rOpI X.K C sp E) := by
  intro pins s σ H x y v u Q I rx ry h
  obtain ⟨a, dx, fs, rfl, ho, hy, q⟩ := h
  cases rx
  obtain ⟨ox, od, J⟩ := inst_of I ho
  obtain ⟨mf, hF⟩ := I.fr
  have go := thn (run_sub (us := [.ref a, u]) (vs := [.ref a, y]) (stack_of I) F hr hb hx I (.cons rfl (.cons ry .nil)) q) (Q' := PySem.W.CmpBack (EP X pins σ Q)) fun w s' ⟨z', H', I', rz, qz⟩ => SlX.cmpback rz ⟨z', H', I', rz, qz⟩
  rcases hy with ⟨b, dy, gs, rfl, hb'⟩ | ⟨b, xs, rfl, hq⟩
  · cases ry
    obtain ⟨oy, od', J'⟩ := inst_of I hb'
    exact PySem.W.binop_K (op := op) hF I.ok.mod.kin J J'.type T.first T.at_ T.fn go
  · cases ry
    obtain ⟨rc, r1, r2⟩ := T.rev
    rcases hq with hq | hq
    · obtain ⟨fo, ro, t1, t2, t3⟩ := T.lst
      obtain ⟨its, rv, pl, hz⟩ := I.list hq
      obtain ⟨o, ho, hc, _⟩ := pl.isList
      exact binL hF I.ok.mod.kin J (fun A Q E s k z => wpAny_typeOf_ref (k _ _ ho) (by rw [hc]; exact z)) T.first T.at_ T.fn r1 r2 t1 t2 t3 go
    · obtain ⟨fo, ro, t1, t2, t3⟩ := T.tup
      obtain ⟨its, rv, ⟨o, ho, hc, _⟩, hz⟩ := I.tuple hq
      exact binL hF I.ok.mod.kin J (fun A Q E s k z => wpAny_typeOf_ref (k _ _ ho) (by rw [hc]; exact z)) T.first T.at_ T.fn r1 r2 t1 t2 t3 go
end
end L2

namespace L2
open PySem PySem.Spec PyProof.Rows
/-! ### o[k] by the class's own def, in a try's body -/
section
variable {X : Cx} {CX : CXT} {k : Nat} {f C a dx : Addr} {fs : List (Str × V)} {fd : FuncData} {ps : List Str} {sp : Sp} {pins : List (Addr × Obj)} {σ : St} {H : Hp} {s : Shared} {Q : VK} {us : List Value} {vs : List V}
theorem run_subW {E : XK} {A1 : Around} (hf : A1.frames = some X.stack) (F : FnOk X.prog X.w X.K X.mg X.base CX k f fd ps sp) (hr : Room k A1) (hb : Binds X.K fd ps []) (hx : PassesAt CX X σ E) (I : Inv X pins σ H s) (r : Vals vs us) (h : sp vs H Q E) :
    wpAny (model X.prog X.w) A1 (call (.ref f) us) (EP X pins σ Q) X.xe s := by
  have hl : (us ++ []).length = ps.length := by rw [List.append_nil, ← r.length]; exact F.len _ _ _ _ h
  have e := I.env0
  have bt := hb s us I.kIn hl
  rw [List.append_nil] at bt
  refine wpAny_call (codeAny_mono (F.run A1 X.stack s H ⟨us, []⟩ us vs Q E hr ⟨hf, e.mod, e.bs, e.bsz, e.funs, e.frf, e.hok, e.bare⟩ bt r h) fun r s' hq => ?_)
  match r, hq with
  | .error e, hq => exact hx pins H s e s' I hq
  | .ok (.ret u), hq => exact I.after hq
def tGetIW (C : Addr) (sp : Sp) (E : St → XK) (ta tb : TE) : TE := fun σ H Q => tOp (rGetI C sp (E σ)) ta tb σ H Q
theorem pe_getIW {E : St → XK} {ea eb : Expr} {ta tb : TE} {pos : Pos} (m : Meth X.K C "__getitem__" f) (hfi : PySem.W.fnIn X.K f = true) (F : FnOk X.prog X.w X.K X.mg X.base CX k f fd ps sp) (hr : Room (k + 1) X.A) (hb : Binds X.K fd ps []) (hx : ∀ σ, PassesAt CX X σ (E σ))
    (ha : PE X ea ta) (hbe : PE X eb tb) (hsl : ∀ (x : Addr) (i : Value), subscripted eb true (.ref x) i = runValue (.builtin "lifetime.subscript" ⟨[.ref x, i], []⟩) := by intro _ _; with_unfolding_all rfl) : PE X (.Subscript ea eb pos) (tGetIW C sp E ta tb) := by
  refine ⟨fun pins s σ H Q I h => ?_⟩
  refine Subscript_ (binT ha hbe I h fun v u s2 x y H2 I2 rx ry q => ?_)
  obtain ⟨a, dx, fs, rfl, ho, q⟩ := q
  cases rx
  obtain ⟨ox, od, J⟩ := inst_of I2 ho
  obtain ⟨mf, hF⟩ := I2.fr
  exact PySem.W.sub_K hF I2.ok.mod.kin J m.at_ hfi m.fn (run_subW (A1 := X.A.in1) (us := [.ref a, u]) (vs := [.ref a, y]) (stack_of I2) F hr.in1 hb (hx σ) I2 (.cons rfl (.cons ry .nil)) q) (hsl a u)
end
end L2
namespace L2
open PySem PySem.Spec PyProof.Rows
/-! ### a try within a loop: its reading by a name -/
def tTryAs (K : PySem.W.Frag) (c : Value) (i : Nat) (tb : WX → TS) (ts : Addr → Value → Option Addr → TS) (Wout : WX) : TS := fun D σ H => tb (wAs K c i ts Wout D) D σ H
section
variable {X : Cx} {x n : Str} {c : Value} {i : Nat} {body suite : List Stmt} {b₀ : Stmt} {np pos pos' : Pos} {tb : WX → TS} {ts : Addr → Value → Option Addr → TS} {Wout : WX}
theorem ps_tryL (hs : X.stack = X.env :: X.outer) (hf : X.env.frame = some X.env.locals) (hN : X.N.Nodup) (hi : X.N[i]? = some n) (hln : X.env.kindOf n = some .local) (hc : Names X x c) (tk : Takes X Wout)
    (hb : ∀ (W : WX) (pn : List (Addr × Obj)) (xe : Value → Shared → Prop), Takes (X.tr pn xe) W → PassesOwn (model X.prog X.w) X.A X.env xe → PSs (X.tr pn xe) body (tb W))
    (hsu : ∀ (a : Addr) (oe : Obj) (cls : Value) (d : Option Addr) (pn : List (Addr × Obj)), Zc cls d oe → (∃ vs, oe.data = .fields vs) → PSs (X.suite a ((a, oe) :: pn)) (b₀ :: suite) (ts a cls d)) :
    PS X (.Try body [.ExceptHandler (some (.Name x np)) (some n) (b₀ :: suite) pos'] [] [] pos) (tTryAs X.K c i tb ts Wout) := ps_try_as hs hf hN hi hln hc tk hb hsu
end
end L2

namespace L2
open PySem PySem.Spec PyProof.Rows
section
variable {prog : Program} {w : World} {A : Around} {E : Value → Shared → Prop} {s : Shared} {K : PySem.W.Frag} {x C L f f0 : Addr} {h₀ : Heap} {m : Str → Option Value} {ox : Obj} {od : Option Obj} {T : String}
/-- a + o, a of a built-in type that fills no number slot: o's own reflected def -/
theorem binR {op : Operator} {a : Value} {fo ro : Option Value} {Q : Value → Shared → Prop} (F : Fr h₀ L s.heap m) (X₀ : K.In h₀) (I : PySem.W.InstAt s.heap x ox C od) (ha : PySem.W.Looks (model prog w) s.heap (typeOf a) (.type T)) (hc : PySem.W.selfFirst K C = true)
    (hs : PySem.W.findIn K (.ref C) (PySem.dunder op.info.2) = some (some (.ref f0))) (hr : PySem.W.findIn K (.ref C) (dunderR op.info.2) = some (some (.ref f))) (hf : PySem.W.isFn K (.ref f) = true)
    (h1 : PySem.W.findIn K (.type T) (PySem.dunder op.info.2) = some fo) (h2 : PySem.W.findIn K (.type T) (dunderR op.info.2) = some ro) (hl : ((fo.isSome && !isSeqSlot fo) || (ro.isSome && !isSeqSlot ro)) = false)
    (h : wpAny (model prog w) A (call (.ref f) [.ref x, a]) (PySem.W.CmpBack Q) E s) : wpAny (model prog w) A (binaryOp op a (.ref x)) Q E s := by
  have X := X₀.keeps F.keep
  obtain ⟨cd, rest, hcd, hm⟩ := PySem.W.ksp_first hc
  rcases hi : op.info with ⟨sym, nm'⟩
  rw [hi] at hs hr h1 h2; dsimp only at hs hr h1 h2
  have one := PySem.W.ksp_try X I hr hf h
  obtain ⟨hh, gg, dd, tt, os⟩ := s
  have La := I.type (M := model prog w)
  have Lc := PySem.W.fills_K (M := model prog w) X hcd hm hs
  have Ld := PySem.W.ksp_fillsT (M := model prog w) X h1 h2
  rw [hl] at Ld
  have hne : (Value.type T == Value.ref C) = false := Bool.eq_false_iff.mpr fun q => by cases beq_iff_eq.mp q
  simp only [binaryOp, hi]
  refine wpAny_holding (wpAny_bind ?_)
  unfold binaryOp1
  refine wpAny_bind (ha.at (wpAny_bind (La.at (wpAny_bind (Ld.at ?_)))))
  simp only [hne, Bool.false_eq_true, if_false]
  ksp_lk
  refine wpAny_mono one (fun r s' hr' => ?_) (fun _ _ e => e)
  obtain ⟨v, rfl, hq⟩ := hr'
  ksp_lk
  exact hq
end
/-- what list and tuple look like to + -/
structure SeqAdd (K : PySem.W.Frag) : Prop where
  la : PySem.W.findIn K (.type "list") "__add__" = some (some (.builtin "list.__add__"))
  lr : PySem.W.findIn K (.type "list") "__radd__" = some none
  ta : PySem.W.findIn K (.type "tuple") "__add__" = some (some (.builtin "tuple.__add__"))
  tr : PySem.W.findIn K (.type "tuple") "__radd__" = some none
def rOpR (K : PySem.W.Frag) (C : Addr) (sp : Sp) (E : XK) : R2 := fun x y H Q => ∃ b dy gs p xs, y = .ref b ∧ H b = some (.ins C dy gs) ∧ x = .ref p ∧ (SqL K H p xs ∨ SqT K H p xs) ∧ sp [y, x] H Q E
def ipOwn (C : Addr) (sp : Sp) (E : XK) : TIp := fun x y H Q => ∃ a dx fs, x = .ref a ∧ H a = some (.ins C dx fs) ∧ sp [x, y] H Q E
section
variable {X : Cx} {CX : CXT} {n : Nat} {C g g0 : Addr} {fd : FuncData} {ps : List Str} {sp : Sp} {E : XK}
theorem op_radd (S : SeqAdd X.K) (hc : PySem.W.selfFirst X.K C = true) (m0 : Meth X.K C "__add__" g0) (m : Meth X.K C "__radd__" g) (F : FnOk X.prog X.w X.K X.mg X.base CX n g fd ps sp) (hr : Room n X.A) (hb : Binds X.K fd ps []) (hx : Passes CX X E) : OpR X (binaryOp .Add) (rOpR X.K C sp E) := by
  intro pins s σ H x y v u Q I rx ry h
  obtain ⟨b, dy, gs, p, xs, rfl, ho, rfl, hq, q⟩ := h
  cases ry
  cases rx
  obtain ⟨ox, od, J⟩ := inst_of I ho
  obtain ⟨mf, hF⟩ := I.fr
  have go := thn (run_sub (us := [.ref b, .ref p]) (vs := [.ref b, .ref p]) (stack_of I) F hr hb hx I (.cons rfl (.cons rfl .nil)) q) (Q' := PySem.W.CmpBack (EP X pins σ Q)) fun w s' ⟨z', H', I', rz, qz⟩ => SlX.cmpback rz ⟨z', H', I', rz, qz⟩
  rcases hq with hq | hq
  · obtain ⟨its, rv, pl, hz⟩ := I.list hq
    obtain ⟨o, ho, hc', _⟩ := pl.isList
    exact binR (op := .Add) hF I.ok.mod.kin J (fun A Q E s k z => wpAny_typeOf_ref (k _ _ ho) (by rw [hc']; exact z)) hc m0.at_ m.at_ m.fn S.la S.lr (by decide +kernel) go
  · obtain ⟨its, rv, ⟨o, ho, hc', _⟩, hz⟩ := I.tuple hq
    exact binR (op := .Add) hF I.ok.mod.kin J (fun A Q E s k z => wpAny_typeOf_ref (k _ _ ho) (by rw [hc']; exact z)) hc m0.at_ m.at_ m.fn S.ta S.tr (by decide +kernel) go
theorem ip_own (hc : PySem.W.selfFirst X.K C = true) (m : Meth X.K C "__iadd__" g) (F : FnOk X.prog X.w X.K X.mg X.base CX n g fd ps sp) (hr : Room n X.A) (hb : Binds X.K fd ps []) (hx : Passes CX X E) : PIp X .Add (ipOwn C sp E) := by
  intro pins s σ H x y v u Q I rx ry h
  obtain ⟨a, dx, fs, rfl, ho, q⟩ := h
  cases rx
  obtain ⟨ox, od, J⟩ := inst_of I ho
  obtain ⟨mf, hF⟩ := I.fr
  have go := thn (run_sub (us := [.ref a, u]) (vs := [.ref a, y]) (stack_of I) F hr hb hx I (.cons rfl (.cons ry .nil)) q) (Q' := PySem.W.CmpBack (EP X pins σ Q)) fun w s' ⟨z', H', I', rz, qz⟩ => SlX.cmpback rz ⟨z', H', I', rz, qz⟩
  exact PySem.W.ksp_inplace (op := .Add) hF I.ok.mod.kin J hc m.at_ m.fn go
end
end L2

namespace L2
open PySem PySem.Spec PyProof.Rows
/-! ### C(..) in a try -/
section
variable {X : Cx} {CX : CXT} {k : Nat} {f C : Addr} {fd : FuncData} {ps : List Str} {sp : Sp} {dvs : List V} {ds : List Value} {x : Str} {p pos : Pos} {e : Expr} {es : List Expr} {t : TA}
theorem run_makeW {E : XK} {pins : List (Addr × Obj)} {σ : St} {H : Hp} {s : Shared} {Q : VK} {us : List Value} {vs : List V} (M : Mk X.K C f) (F : FnOk X.prog X.w X.K X.mg X.base CX k f fd ps sp) (hr : Room (k + 1) X.A) (hb : Binds X.K fd ps ds) (hd : Vals dvs ds)
    (hx : PassesAt CX X σ E) (I : Inv X pins σ H s) (r : Vals vs us)
    (h : ∀ x dx, H x = none → H dx = none → dx ≠ x → sp (.ref x :: (vs ++ dvs)) (upd (upd H dx (.own x)) x (.ins C dx [])) (fun v H2 => v = .non ∧ Q (.ref x) H2) E) :
    wpAny (model X.prog X.w) X.A (call (.ref C) us) (EP X pins σ Q) X.xe s := by
  have hq := h (s.heap.objs.size + 1) s.heap.objs.size (I.hok.fresh (Nat.le_succ _)) (I.hok.fresh (Nat.le_refl _)) (Nat.ne_of_lt (Nat.lt_succ_self _))
  have I2 := Inv.made (C := C) I
  have r2 : Vals (V.ref (s.heap.objs.size + 1) :: (vs ++ dvs)) (Value.ref (s.heap.objs.size + 1) :: (us ++ ds)) := .cons rfl (r.append hd)
  have hl : (Value.ref (s.heap.objs.size + 1) :: us ++ ds).length = ps.length := by
    have e := r2.length
    rw [F.len _ _ _ _ hq] at e
    exact e.symm
  refine wpAny_call (make_map (f := f) I.kIn M.makes M.init (beq_iff_eq.mp M.fn) (codeAny_mono (F.run _ X.stack _ _ ⟨Value.ref (s.heap.objs.size + 1) :: us, []⟩ (Value.ref (s.heap.objs.size + 1) :: (us ++ ds)) _ _ E (hr.make C us [])
    (I2.env0.make C us []) (hb _ (Value.ref (s.heap.objs.size + 1) :: us) I2.kIn hl) r2 hq) fun r s' hq' => ?_))
  cases r with
  | error e => exact hx pins _ _ e s' I2 hq'
  | ok fl =>
    cases fl with
    | ret u =>
      obtain ⟨v, H', I3, rv, ev, q3⟩ := I2.after hq'
      subst ev
      exact ⟨rv, ⟨V.ref (s.heap.objs.size + 1), H', I3, rfl, q3⟩⟩
    | next => exact False.elim hq'
    | brk => exact False.elim hq'
    | cont => exact False.elim hq'
def tMakeW (C : Addr) (sp : Sp) (dvs : List V) (E : St → XK) (t : TA) : TE := fun σ H Q => tMake C sp dvs (E σ) t σ H Q
theorem pe_makeW {E : St → XK} (M : Mk X.K C f) (F : FnOk X.prog X.w X.K X.mg X.base CX k f fd ps sp) (hr : Room (k + 1) X.A) (hg : Gl X x) (hm : X.mg x = some (.ref C)) (hb : Binds X.K fd ps ds) (hd : Vals dvs ds) (hx : ∀ σ, PassesAt CX X σ (E σ))
    (ha : PA X (e :: es) t) (hdb : (x == ("__debug__" : Str)) = false := by decide) (he : starEach (e :: es) X.env = (false, eval e X.env) :: starEach es X.env := by rfl) (hpl : (backTo pos (starEach es X.env)).any (·.1) = false := by rfl) :
    PE X (.Call (.Name x p) (e :: es) [] pos) (tMakeW C sp dvs E t) := by
  refine ⟨fun pins s σ H Q I h => ?_⟩
  refine wpAny_Call_Name_kw (ld_glob I hg hm ?_ hdb)
  refine PySem.W.callWith_K (h₀ := X.base) I.ok.mod.kin M.kp (thn (ha.run pos pins s σ H _ I h) fun us s1 ⟨vs, H1, I1, r, q⟩ => ⟨I1.kIn, ?_⟩) he hpl
  exact run_makeW M F hr hb hd (hx σ) I1 r q
end
end L2

namespace PySem
namespace HandSPX
open PySem PySem.Spec
/-- it leaves the def, its flight whatever it is -/
theorem leaves_anyZ {M : Model} {A : Around} {E : Value → Shared → Prop} {s : Shared} {Z : Obj → Prop} {base : Heap} {env : Env} {outer : List Env} {L e : Addr} {fl : Value} {Q : Unit → Shared → Prop} (hZ : Steady Z)
    (hfr : A.frames = some (env :: outer)) (hf : env.frame = some L) (hkb : base.StaysIn s.heap) (hen : base.get? e = none) (hl : s.heap.FunFrames base (env :: outer)) (ht : TracedZ s.heap base e Z fl)
    (hQ : ∀ h', FlyingZ base outer e Z h' → s.heap.UpToSlots h' → Q () { s with heap := h' }) : wpAny M A (leaving env (.ref e)) Q E s := by
  by_cases hfl : fl = rawInt L
  · subst hfl
    exact leaves_heldZ hf ⟨hkb, hen, hl, ht⟩ hQ
  obtain ⟨oe, vs, T, oT, ts, he, hz, hd, h1, hnT, hTe, hT, hdT, h3⟩ := ht
  unfold leaving noteFrame
  simp only [hf]
  refine wpAny_bind (wpAny_bind (wpAny_field he hd h1 ?_))
  rw [if_pos (show (Value.ref T != Value.none) = true from by simp)]
  refine wpAny_bind (wpAny_field hT hdT h3 ?_)
  rw [if_neg (show ¬ ((fl == rawInt L) = true) from by simp [hfl])]
  refine wpAny_bind (wpAny_setField hT hdT (Array.getElem?_eq_some_iff.mp h3).1 ?_)
  have other : ∀ b, b ≠ T → (s.heap.update T (Obj.mapFields (·.setIfInBounds 3 Value.none))).get? b = s.heap.get? b := fun b hb => Heap.get?_update_other _ _ (Ne.symm hb)
  have noRecord : ∀ b o, s.heap.get? b = some o → (∀ vs, o.data ≠ .fields vs) → b ≠ T := fun b o hb hnf q => by
    rw [q, hT] at hb; injection hb with hb; subst hb; exact hnf ts hdT
  refine wpAny_newEntryZ hZ hfr (hl.of_keeps fun b o hb hnf => ⟨o, (other b (noRecord b o hb hnf)).trans hb, rfl⟩) hf ((other e (Ne.symm hTe)).trans he)
    (fun b o hbo => (other b fun q => by rw [q, hnT] at hbo; cases hbo).trans (hkb b o hbo)) hen hd (Array.getElem?_eq_some_iff.mp h1).1 hz fun h' hL => ?_
  obtain ⟨x1, ⟨_, _, x2⟩, x3, x4⟩ := hL
  exact hQ h' ⟨x1, hen, x2, x3⟩ fun b o hb hnf => x4 b o ((other b (noRecord b o hb hnf)).trans hb) hnf
end HandSPX
end PySem
namespace L2
open PySem PySem.Spec PyProof.Rows
theorem noteFrame_as {e1 e2 : Env} (h : e1.frame = e2.frame) (x : Value) : noteFrame x e1 = noteFrame x e2 := by
  unfold noteFrame PySem.frameOf
  rw [h]
section
variable {X : Cx} {pins : List (Addr × Obj)} {σ : St} {H : Hp} {sI s s' : Shared} {B : Heap} {E : XK}
theorem leaveAny (hs : X.stack = X.env :: X.outer) (hf : X.env.frame = some X.env.locals) (hex : X.ex = []) {E₁ : Value → Shared → Prop} {a : Addr} {cls : Value} {d : Option Addr} {fl : Value}
    (I : Inv X pins σ H sI) (nb : ∀ b o, sI.heap.get? b = some o → b ∉ frs X.stack → B.get? b = some o) (up : sI.heap.UpToSlots s'.heap) (hB : B.StaysIn s'.heap) (hn : B.get? a = none) (hl : s'.heap.FunFrames B X.stack) (ht : HandSPX.TracedZ s'.heap B a (Zc cls d) fl)
    (na : H a = none) (os : s'.os = sI.os) (ag : AllBare s'.gens) (hE : E cls d H) :
    wpAny (model X.prog X.w) X.A (leaving X.env (.ref a)) (fun _ s'' => CX X.prog X.w X.outer X.H_0 X.s_0 E (.ref a) s'') E₁ s' := by
  have hfr : X.A.frames = some (X.env :: X.outer) := by rw [I.ok.frames, hs]
  have nst : ∀ b o, X.s_0.heap.get? b = some o → b ∉ X.fs → b ∉ frs X.stack := fun b o e hb hm => by
    rcases List.mem_cons.mp (I.stkSub b hm) with z | z
    · have h1 := Heap.lt_size e
      have h2 := I.ok.above
      rw [z] at h1
      exact absurd (Nat.lt_of_lt_of_le h1 h2) (Nat.lt_irrefl _)
    · exact hb z
  have hex' : ∀ b, b ∉ X.ex := fun b hb => by rw [hex] at hb; cases hb
  have hokB := I.inGround nb
  rw [hs] at hl
  refine HandSPX.leaves_anyZ Zc.steady hfr hf hB hn hl ht fun h' fl up' => ?_
  refine ⟨a, B, H, cls, d, rfl, fl, hokB, ⟨fun b o e n hb => nb b o (I.base.keep b o e n hb (hex' b)) (nst b o e hb), fun b o e hb => ?_, fun b o e n => I.base.free b o e n (hex' b), fun b o e hb => ?_, I.base.tups, I.base.frzs, I.base.tbls⟩,
    na, os.trans I.os, ag, hE⟩
  · obtain ⟨_, o₀, e₀, hnf⟩ := I.ok.funs.mem hb
    rw [e] at e₀; cases e₀
    obtain ⟨sl, e1⟩ := I.base.slot b o e (I.ok.frf b hb) hb (hex' b)
    obtain ⟨sl2, e2⟩ := up b _ e1 hnf
    obtain ⟨sl3, e3⟩ := up' b _ e2 hnf
    exact ⟨sl3, e3⟩
  · obtain ⟨o', e1⟩ := I.base.there b o e (hex' b)
    exact ⟨o', nb b o' e1 (nst b o e hb)⟩
/-- a call's exception, its parts -/
theorem of_callF (I : Inv X pins σ H s) {u : Value} (c : CX X.prog X.w X.stack H s E u s') : ∃ (a : Addr) (B : Heap) (sI : Shared) (H' : Hp) (cls : Value) (d : Option Addr), u = .ref a ∧ Inv X pins σ H' sI ∧ (∀ b o, sI.heap.get? b = some o → b ∉ frs X.stack → B.get? b = some o) ∧ sI.heap.UpToSlots s'.heap ∧
    HandSPX.FlyingZ B X.stack a (Zc cls d) s'.heap ∧ H' a = none ∧ s'.os = sI.os ∧ AllBare s'.gens ∧ E cls d H' := by
  obtain ⟨a, B, H', cls, d, rfl, fl, hok, ub, na, os, ag, hE⟩ := c
  obtain ⟨G, g1, g2⟩ := restrict s'.heap fun b => (B.get? b).isSome || decide (b ∈ frs X.stack)
  have st : B.StaysIn s'.heap := fl.1
  have gB : ∀ b o, B.get? b = some o → G.get? b = some o := fun b o e => by
    rw [g1 b (by simp [e])]
    exact st b o e
  have gF : ∀ b, b ∈ frs X.stack → G.get? b = s'.heap.get? b := fun b hb => g1 b (by simp [hb])
  have og : ∀ b o, G.get? b = some o → s'.heap.get? b = some o ∧ ((B.get? b).isSome = true ∨ b ∈ frs X.stack) := fun b o e => by
    cases q : ((B.get? b).isSome || decide (b ∈ frs X.stack)) with
    | false => rw [g2 b q] at e; cases e
    | true =>
      rw [g1 b q] at e
      exact ⟨e, by simpa [Bool.or_eq_true] using q⟩
  refine ⟨a, B, { s with heap := G, gens := s'.gens, drawn := s'.drawn, toks := s'.toks }, H', cls, d, rfl, ?_, fun b o e hb => ?_, Heap.UpToSlots.of_keeps fun b o e => (og b o e).1, fl, na, os, ag, hE⟩
  · refine I.call (ch := []) ⟨fun b o e n hb _ => gB b o (ub.keep b o e n hb), fun b o e n hb _ => ?_, fun b o e n _ => ub.free b o e n, fun b o e _ => ?_, ub.tups, ub.frzs, ub.tbls⟩ (hok.kept gB) ag (fun _ z => nomatch z)
    · obtain ⟨sl, q⟩ := ub.slot b o e hb
      exact ⟨sl, by rw [gF b hb]; exact q⟩
    · by_cases hb : b ∈ frs X.stack
      · obtain ⟨sl, q⟩ := ub.slot b o e hb
        exact ⟨_, by rw [gF b hb]; exact q⟩
      · obtain ⟨o', q⟩ := ub.there b o e hb
        exact ⟨o', gB b o' q⟩
  · obtain ⟨e', h⟩ := og b o e
    rcases h with h | h
    · obtain ⟨o', q⟩ := Option.isSome_iff_exists.mp h
      have z := st b o' q
      rw [e'] at z; cases z
      exact q
    · exact absurd h hb
theorem funFrames_hide {B h h' : Heap} {C : Addr} (k : ∀ b, b ≠ C → h'.get? b = h.get? b) : ∀ {l : List Env}, h.FunFrames B l → C ∉ frs l → h'.FunFrames (PySem.W.hideAll B [C]) l
  | [], _, _ => trivial
  | env :: l, hh, hC => by
    obtain ⟨hk, ⟨L, o, hf, hn, ho, hd⟩, hr⟩ := hh
    have m : L ∈ frs (env :: l) := List.mem_filterMap.mpr ⟨env, List.mem_cons_self, hf⟩
    have nL : L ≠ C := fun e => hC (e ▸ m)
    refine ⟨hk, ⟨L, o, hf, ?_, (k L nL).trans ho, hd⟩, funFrames_hide k hr fun z => hC ?_⟩
    · cases q : (PySem.W.hideAll B [C]).get? L with
      | none => rfl
      | some u => rw [PySem.W.of_hideAll _ q] at hn; cases hn
    · obtain ⟨e, he, q⟩ := List.mem_filterMap.mp z
      exact List.mem_filterMap.mpr ⟨e, List.mem_cons_of_mem _ he, q⟩
theorem Inv.reXe (I : Inv X pins σ H s) (xb : Value → Shared → Prop) : Inv { X with xe := xb } pins σ H s :=
  ⟨⟨I.ok.mod, I.ok.kind, I.ok.glob, I.ok.blt, I.ok.above, I.ok.inj, I.ok.has, I.ok.cab, I.ok.hd, I.ok.frames, I.ok.stk, I.ok.exf, I.ok.bs, I.ok.bsz, I.ok.noex, I.ok.exfs, I.ok.funs, I.ok.frf⟩, I.os, I.bare, I.base, I.loc, I.cell, I.free, I.freeC, I.pin, I.hok, I.len⟩
end
end L2

namespace L2
open PySem PySem.Spec PyProof.Rows
section
variable {X : Cx} {E : XK}
/-- what a call in the block lets out goes out of the comprehension and out of the def -/
theorem blk_passes {pins : List (Addr × Obj)} {σ : St} {H3 : Hp} {s3 : Shared} {scope : Scope} {ce : Env} {fp : List Addr} {use : Option (Value → Sem Unit)} {Qf : Value → Shared → Prop} {acc : Value} {E₁ : Value → Shared → Prop}
    (hs : X.stack = X.env :: X.outer) (hf : X.env.frame = some X.env.locals) (hex : X.ex = [])
    (hx : X.xe = fun e s' => wpAny (model X.prog X.w) X.A (leaving X.env e) (fun _ s'' => CX X.prog X.w X.outer X.H_0 X.s_0 E e s'') E₁ s')
    (I3 : Inv X pins σ H3 s3) (f3 : ∀ b ∈ fp, FpOk X pins H3 b ∧ b < s3.heap.objs.size) (cL : ce.locals = s3.heap.objs.size) (cF : ce.frame = X.env.frame) :
    Passes (CX X.prog X.w) { X.blk s3 H3 scope ce fp with xe := notedBy (model X.prog X.w) X.A ce fun e s' => compPost (model X.prog X.w) X.A X.xe use Qf acc s3.heap.objs.size (.error e) s' } E := by
  intro pinsB σB H s e s' I c
  obtain ⟨a, B, sI, H', cls, d, rfl, Ib, nb, up, fl, na, os, ag, hE⟩ := of_callF I c
  have nb : ∀ b o, sI.heap.get? b = some o → b ∉ frs X.stack → B.get? b = some o := nb
  have fl : HandSPX.FlyingZ B X.stack a (Zc cls d) s'.heap := fl
  generalize hC : s3.heap.objs.size = C at cL
  have hfr : X.A.frames = some (X.env :: X.outer) := by rw [I3.ok.frames, hs]
  show wpAny (model X.prog X.w) X.A (noteFrame (.ref a) ce) (fun _ s'' => compPost (model X.prog X.w) X.A X.xe use Qf acc C (.error (.ref a)) s'') _ s'
  rw [noteFrame_as cF]
  rw [hs] at fl
  refine HandSPX.looks_onZ Zc.steady hfr hf fl fun h1 held up1 => ?_
  have I1 : Inv _ pinsB σB H' { s' with heap := h1 } := Ib.landed (s' := { s' with heap := h1 }) nb held.1 (Heap.UpToSlots.trans up up1) os ag
  obtain ⟨m, hn, _⟩ := I1.loc
  have hn : h1.Ns ce.locals m := hn
  rw [cL] at hn
  have nC : H' C = none := by
    have z : H' ce.locals = none := Ib.free
    rw [cL] at z; exact z
  have IX : Inv X pins σ H' sI := I3.call' (ch := fp) Ib.os Ib.base Ib.hok Ib.bare fun b hb => ⟨(f3 b hb).1.2.2.2.1, (f3 b hb).1.2.1, (f3 b hb).1.2.2.2.2.1, (f3 b hb).1.2.2.2.2.2⟩
  obtain ⟨f0, f1, f2, f3', f4, f5⟩ := I3.fpOk (b := C) (Nat.le_of_eq hC) nC
  have I2 : Inv X pins σ H' { sI with heap := PySem.W.hideAll sI.heap [C], toks := sI.toks } := IX.turned (it := C) (fun b o hb e => PySem.W.hideAll_get _ e (by simpa using hb)) f0 f1 f3' f4 f5
  have nhide : ∀ {h : Heap} {b : Addr} {o : Obj}, (PySem.W.hideAll h [C]).get? b = some o → b ≠ C := fun {h b o} e z => by
    rw [PySem.W.hideAll_none (b := b) [C] (by simp [z])] at e; cases e
  have hCs : C ∉ frs X.stack := fun z => by
    rcases List.mem_cons.mp (I3.stkSub C z) with e | e
    · exact f1 e
    · exact f2 e
  have fin : ∃ m, h1.Ns C m ∧ ∀ h', Heap.SameBut C h1 h' → ∀ cenv : Env, cenv.locals = C → wpAny (model X.prog X.w) X.A (PySem.passOn "comprehension.variables-let-go" (.ref a) cenv : Sem Value) (fun _ _ => False) X.xe { s' with heap := h' } := by
    refine ⟨m, hn, fun h' sb cenv _ => ?_⟩
    obtain ⟨kB, hen, hl, oe, vs, T, oT, ts, he, hz, hd, e1, hnT, hTe, hT, hdT, e3⟩ := held
    obtain ⟨oC, es, ep, gC, dC, _⟩ := hn
    have naC : a ≠ C := fun z => by rw [z, gC] at he; cases he; rw [dC] at hd; cases hd
    have nTC : T ≠ C := fun z => by rw [z, gC] at hT; cases hT; rw [dC] at hdT; cases hdT
    have he' : h'.get? a = some oe := (sb.2 a naC).trans he
    have hT' : h'.get? T = some oT := (sb.2 T nTC).trans hT
    have hnB : ∀ b, B.get? b = none → (PySem.W.hideAll B [C]).get? b = none := fun b e => by
      cases q : (PySem.W.hideAll B [C]).get? b with
      | none => rfl
      | some u => rw [PySem.W.of_hideAll _ q] at e; cases e
    have kB' : (PySem.W.hideAll B [C]).StaysIn h' := fun b o e => (sb.2 b (nhide e)).trans (kB b o (PySem.W.of_hideAll _ e))
    have hl' : h'.FunFrames (PySem.W.hideAll B [C]) (X.env :: X.outer) := funFrames_hide sb.2 hl (by rw [← hs]; exact hCs)
    have ht' : HandSPX.TracedZ h' (PySem.W.hideAll B [C]) a (Zc cls d) (rawInt X.env.locals) := ⟨oe, vs, T, oT, ts, he', hz, hd, e1, hnB T hnT, hTe, hT', hdT, e3⟩
    unfold PySem.passOn
    refine wpAny_bind (wpAny_field he' hd e1 ?_)
    rw [if_neg (show ¬ ((Value.ref T == Value.none) = true) from by simp)]
    refine wpAny_bind (HandSPX.setFlight_anyZ kB' hl' ht' fun h2 k1 k2 k3 k4 => wpAny_throw ?_)
    rw [hx]
    refine leaveAny hs hf hex I2 (fun b o e hb => ?_) (fun b o e hnf => ?_) k1 (hnB a hen) (by rw [hs]; exact k2) k3 na os ag hE
    · exact PySem.W.hideAll_get _ (nb b o (PySem.W.of_hideAll _ e) hb) (by simpa using nhide e)
    · have nb' := nhide e
      obtain ⟨sl1, q1⟩ := up b o (PySem.W.of_hideAll _ e) hnf
      obtain ⟨sl2, q2⟩ := up1 b _ q1 hnf
      obtain ⟨sl3, q3⟩ := k4 b _ ((sb.2 b nb').trans q2) hnf
      exact ⟨sl3, q3⟩
  cases use <;> exact fin
theorem lc_coreX {pins : List (Addr × Obj)} {s : Shared} {σ : St} {H : Hp} {Q : VK} {elt tg iter : Expr} {ifs : List Expr} {scope : Scope} {own : List (Str × Nat)} {pos pos' : Pos} {wi : TI} {g : TG} {tt : TT} {te : TE} {use : Option (Value → Sem Unit)} {Qf : Value → Shared → Prop} {E₁ : Value → Shared → Prop}
    (hst : X.stack = X.env :: X.outer) (hfm : X.env.frame = some X.env.locals) (hex : X.ex = [])
    (hx : X.xe = fun e s' => wpAny (model X.prog X.w) X.A (leaving X.env e) (fun _ s'' => CX X.prog X.w X.outer X.H_0 X.s_0 E e s'') E₁ s')
    (hc : X.calm = true) (hN : X.N.Nodup) (I : Inv X pins σ H s) (hi : PI X tg iter wi) (ok : BlkOk X.N X.env.scope scope own)
    (hg : ∀ (s : Shared) (H : Hp) (C : Addr) (cl : List (Str × Addr)) (fp : List Addr) (xb : Value → Shared → Prop), PG { X.blk s H scope (compEnvC scope cl C X.env) fp with xe := xb } tg g) (ht : ∀ (s : Shared) (H : Hp) (C : Addr) (cl : List (Str × Addr)) (fp : List Addr) (xb : Value → Shared → Prop), PTs { X.blk s H scope (compEnvC scope cl C X.env) fp with xe := xb } ifs tt)
    (he : ∀ (s : Shared) (H : Hp) (C : Addr) (cl : List (Str × Addr)) (fp : List Addr) (xb : Value → Shared → Prop), Passes (CX X.prog X.w) { X.blk s H scope (compEnvC scope cl C X.env) fp with xe := xb } E → PE { X.blk s H scope (compEnvC scope cl C X.env) fp with xe := xb } elt te) (hs : ∀ x, foldedSetIterable iter X.env x = pure x)
    (h : tLc wi g tt te (own.map (·.2)) σ H Q)
    (hRR : ∀ D C s' m H', Inv X pins σ H' s' → Q (.ref D) H' → s'.heap.Ns C m → FpOk X pins H' C → compPost (model X.prog X.w) X.A X.xe use Qf (.ref D) C (.ok .next) s') :
    wpAny (model X.prog X.w) X.A (comprehension (.ListComp elt [⟨tg, iter, ifs, 0⟩] scope pos) scope X.env pos' (newList []) false (eval iter X.env) use) Qf X.xe s := by
  have hfree : ∀ y ∈ scope.names, y.2 = .free → ∃ c, X.env.cells.lookup y.1 = some c := fun y hy e => by
    rcases ok.free y hy e with k | k
    · exact I.ok.has _ (.inl k)
    · exact I.ok.has _ (.inr k)
  refine wpAny_comprehension_free (use := use) rfl hs (closure_ok hfree) ok.kind (fun y hy e => by rw [ok.uniq y hy, e])
    (thn (hi.run pins s σ H _ I h) fun xv s1 hxv => thn hxv fun itv s2 h2 => ?_)
  obtain ⟨it, fp, tn, J, H2, e, I2, T, st2, f2, q⟩ := h2
  subst e
  refine wpAny_newObj_type (newEnv_comp ?_) (by show 0 ≤ sizeLine; decide)
  generalize hD : s2.heap.objs.size = D
  have hDn : H2 D = none := I2.hok.fresh (Nat.le_of_eq hD)
  obtain ⟨W, ⟨m0, w0⟩, turn⟩ := q D hDn
  -- the new list
  generalize hs3 : ({ s2 with heap := s2.heap.push { cls := .type "list", data := .seq ([] : List Value).toArray } } : Shared) = s3
  have I3 : Inv X pins σ (upd H2 D (.lst [])) s3 := by
    rw [← hs3]
    refine I2.laid (t' := s2.toks) (fun b o e => Heap.get?_push_of_some _ e) (Nat.le_of_eq hD) ⟨Nat.zero_le _, [], 0, .nil, ?_⟩
    rw [← hD]
    exact Heap.get?_push_size _ rfl
  have h3 : s3.heap = s2.heap.push { cls := .type "list", data := .seq ([] : List Value).toArray } := by rw [← hs3]
  have sz : ∀ b ∈ fp, b < s2.heap.objs.size := fun b hb => by
    obtain ⟨o, e, _⟩ := T.obj _ _ st2 b hb
    exact Heap.lt_size e
  have f3 : ∀ b ∈ fp, FpOk X pins (upd H2 D (.lst [])) b ∧ b < s3.heap.objs.size := fun b hb => by
    have hlt := sz b hb
    refine ⟨⟨?_, (f2 b hb).2⟩, by rw [h3, Heap.size_push]; exact Nat.lt_succ_of_lt hlt⟩
    rw [upd_ne (by rw [← hD]; exact Nat.ne_of_lt hlt)]
    exact (f2 b hb).1
  have st3 : tn 0 s3.heap := T.keep _ _ _ st2 fun b _ o e => by rw [h3]; exact Heap.get?_push_of_some _ e
  have I4 := block_start I3 ok hN f3
  have pg := hg s3 (upd H2 D (.lst [])) s3.heap.objs.size (cellsFrom (s3.heap.objs.size + 1) scope.names (cloFrom X.env.cells scope.names [])) fp
  have pt := ht s3 (upd H2 D (.lst [])) s3.heap.objs.size (cellsFrom (s3.heap.objs.size + 1) scope.names (cloFrom X.env.cells scope.names [])) fp
  have pe := he s3 (upd H2 D (.lst [])) s3.heap.objs.size (cellsFrom (s3.heap.objs.size + 1) scope.names (cloFrom X.env.cells scope.names [])) fp
  show codeAny _ _ (.compStart (.ListComp elt [⟨tg, iter, ifs, 0⟩] scope pos) 0 (.ref it) (.ref D) (compEnvC scope (cellsFrom (s3.heap.objs.size + 1) scope.names (cloFrom X.env.cells scope.names [])) s3.heap.objs.size X.env)) (compPost (model X.prog X.w) X.A X.xe use Qf (.ref D) s3.heap.objs.size) { s3 with heap := pushCells (s3.heap.push { cls := .type "dict", data := .dict #[] }) scope.names }
  have nfp : ∀ b ∈ fp, (upd H2 D (.lst [])) b = none := fun b hb => (f3 b hb).1.1
  have cF : (compEnvC scope (cellsFrom (s3.heap.objs.size + 1) scope.names (cloFrom X.env.cells scope.names [])) s3.heap.objs.size X.env).frame = X.env.frame := rfl
  generalize hce : compEnvC scope (cellsFrom (s3.heap.objs.size + 1) scope.names (cloFrom X.env.cells scope.names [])) s3.heap.objs.size X.env = ce at I4 pg pt pe cF ⊢
  have cL : ce.locals = s3.heap.objs.size := by subst hce; rfl
  generalize hH3 : upd H2 D (.lst []) = H3 at I3 I4 pg pt pe w0 nfp f3
  have ps := blk_passes (use := use) (Qf := Qf) (acc := .ref D) (scope := scope) (fp := fp) hst hfm hex hx I3 f3 cL cF
  replace pg := pg (notedBy (model X.prog X.w) X.A ce fun e s' => compPost (model X.prog X.w) X.A X.xe use Qf (.ref D) s3.heap.objs.size (.error e) s')
  replace pt := pt (notedBy (model X.prog X.w) X.A ce fun e s' => compPost (model X.prog X.w) X.A X.xe use Qf (.ref D) s3.heap.objs.size (.error e) s')
  replace pe := pe _ ps
  replace I4 := I4.reXe (notedBy (model X.prog X.w) X.A ce fun e s' => compPost (model X.prog X.w) X.A X.xe use Qf (.ref D) s3.heap.objs.size (.error e) s')
  generalize hXB : ({ X.blk s3 H3 scope ce fp with xe := notedBy (model X.prog X.w) X.A ce fun e s' => compPost (model X.prog X.w) X.A X.xe use Qf (.ref D) s3.heap.objs.size (.error e) s' } : Cx) = XB at pg pt pe I4
  have eP : XB.prog = X.prog := by subst hXB; rfl
  have eW : XB.w = X.w := by subst hXB; rfl
  have eK : XB.K = X.K := by subst hXB; rfl
  have eC : XB.calm = true := by subst hXB; exact hc
  have eE : XB.env = ce := by subst hXB; rfl
  have eA : XB.A = X.A := by subst hXB; rfl
  have eX : XB.xe = notedBy (model X.prog X.w) X.A ce fun e s' => compPost (model X.prog X.w) X.A X.xe use Qf (.ref D) s3.heap.objs.size (.error e) s' := by subst hXB; rfl
  generalize hs4 : ({ s3 with heap := pushCells (s3.heap.push { cls := .type "dict", data := .dict #[] }) scope.names } : Shared) = s4 at I4 ⊢
  have st4 : tn 0 s4.heap := T.keep _ _ _ st3 fun b _ o e => by rw [← hs4]; exact pushCells_keeps _ _ _ _ (Heap.get?_push_of_some _ e)
  have stat : ∀ {σ' : St} {H' : Hp} {s' : Shared}, Inv XB [] σ' H' s' → (∀ b ∈ fp, H' b = none) → ∀ b ∈ fp, FpOk XB [] H' b := fun {σ' H' s'} I' hn b hb => by
    subst hXB
    exact ⟨hn b hb, (I'.ok.exf b hb).1, I'.ok.exfs b hb, .inl hb, fun x c e => (I'.ok.exf b hb).2 x c e, fun p hp => absurd (show p ∈ ([] : List (Addr × Obj)) ++ [] from hp) (by simp)⟩
  have loop : codeAny (model X.prog X.w) X.A (.compLoop (.ListComp elt [⟨tg, iter, ifs, 0⟩] scope pos) 0 (.ref it) (.ref D) ce) (compPost (model X.prog X.w) X.A X.xe use Qf (.ref D) s3.heap.objs.size) s4 := by
    refine compLoop_any (fun n s' => ∃ i H', Inv XB [] (wipe σ (own.map (·.2))) H' s' ∧ tn i s'.heap ∧ (∀ b ∈ fp, H' b = none) ∧ W i n H') ?_ m0 ⟨0, H3, I4, st4, nfp, w0⟩
    rintro n s5 ⟨i, H5, I5, st5, n5, w5⟩
    rcases turn i n H5 w5 with ⟨stop, qq⟩ | ⟨go, Nx, hNx, step⟩
    · have td := T.done XB eP eW eK eC i [] s5 _ H5 (fun _ _ => False) I5 (stat I5 n5) st5 stop
      rw [eA] at td
      refine thnF td fun r s6 ⟨hr, I6⟩ => ?_
      subst hr
      have I6' : Inv { X.blk s3 H3 scope ce fp with xe := notedBy (model X.prog X.w) X.A ce fun e s' => compPost (model X.prog X.w) X.A X.xe use Qf (.ref D) s3.heap.objs.size (.error e) s' } [] (wipe σ (own.map (·.2))) H5 s6 := by rw [hXB]; exact I6
      -- back in the def's context
      have I7 : Inv X pins σ H5 s6 := I3.call' (ch := fp) I6'.os I6'.base I6'.hok I6'.bare fun b hb => ⟨(f3 b hb).1.2.2.2.1, (f3 b hb).1.2.1, (f3 b hb).1.2.2.2.2.1, (f3 b hb).1.2.2.2.2.2⟩
      have nC : H5 s3.heap.objs.size = none := by
        have z : H5 ce.locals = none := I6'.free
        rw [cL] at z
        exact z
      obtain ⟨m, hn, _⟩ := I6'.loc
      have hn : s6.heap.Ns ce.locals m := hn
      rw [cL] at hn
      exact hRR D s3.heap.objs.size s6 m H5 I7 qq hn (I3.fpOk (Nat.le_refl _) nC)
    · have ti := T.item XB eP eW eK eC i [] s5 _ H5 (fun _ _ => False) I5 (stat I5 n5) st5 go
      rw [eA] at ti
      refine thnF ti fun r s6 ⟨u, hr, h6⟩ => ?_
      subst hr
      refine thnF h6 fun _ s7 ⟨x, H7, I7, r7, y7, st7, n7⟩ => ?_
      have I7' := I7.pinned (stat I7 n7) (T.obj _ _ st7)
      have pg' := pg.run _ s7 _ H7 x u _ I7' r7 (step x H7 y7)
      rw [eP, eW, eA, eE, eX] at pg'
      refine thn pg' fun _ s8 ⟨σ8, H8, I8, hw8, q8⟩ => ?_
      have pt' := pt.run _ s8 σ8 H8 _ I8 q8
      rw [eP, eW, eA, eE, eX] at pt'
      refine thn pt' fun b s9 ⟨H9, I9, q9⟩ => ?_
      -- the turn's end
      have fin : ∀ {s' : Shared} {H' : Hp}, Inv XB ([] ++ pinsAt fp s7.heap) σ8 H' s' → Nx H' → ∃ m, m < n ∧ ∃ i H', Inv XB [] (wipe σ (own.map (·.2))) H' s' ∧ tn i s'.heap ∧ (∀ b ∈ fp, H' b = none) ∧ W i m H' := fun {s' H'} I' nx => by
        obtain ⟨m', hm, w'⟩ := hNx H' nx
        have pin' : ∀ b ∈ fp, ∀ o, s7.heap.get? b = some o → s'.heap.get? b = some o ∧ H' b = none := fun b hb o e =>
          let z := I'.pin (b, o) (List.mem_append_right _ (List.mem_append_right _ (mem_pinsAt hb e)))
          ⟨z.1, z.2.1⟩
        have hl : (wipe σ (own.map (·.2))).length = σ8.length := by rw [← hw8, wipe_length]
        refine ⟨m', hm, i + 1, H', (I'.unpinned (pins := [])).weak hl (fun j v e => ?_), T.keep _ _ _ st7 fun b hb o e => (pin' b hb o e).1, fun b hb => ?_, w'⟩
        · rw [← hw8] at e
          exact (wipe_some e).1
        · obtain ⟨o, e, _⟩ := T.obj _ _ st7 b hb
          exact (pin' b hb o e).2
      cases b with
      | false =>
        simp only [Bool.false_eq_true, if_false] at q9 ⊢
        exact fin I9 q9
      | true =>
        simp only [if_true] at q9 ⊢
        have pe' := pe.run _ s9 σ8 H9 _ I9 q9
        rw [eP, eW, eA, eE, eX] at pe'
        refine thn pe' fun z s10 ⟨yv, H10, I10, r10, acc, hD10, hz10, nx⟩ => ?_
        have ap : wpAny (model XB.prog XB.w) XB.A (call (.builtin "list.append") [.ref D, z]) (fun _ s' => ∃ m, m < n ∧ ∃ i H', Inv XB [] (wipe σ (own.map (·.2))) H' s' ∧ tn i s'.heap ∧ (∀ b ∈ fp, H' b = none) ∧ W i m H')
            (notedBy (model X.prog X.w) X.A ce fun e s' => compPost (model X.prog X.w) X.A X.xe use Qf (.ref D) s3.heap.objs.size (.error e) s') s10 := app_ok (X := XB) I10 hD10 hz10 r10 fun s11 I11 => fin I11 nx
        rw [eP, eW, eA] at ap
        exact ap
  exact codeAny_compStart_list loop (T.self X.A 0 _ _ _ st4 loop)
/-- [f(x) for x in ..], f(x) may raise what the def may raise -/
theorem pe_lcX {elt tg iter : Expr} {ifs : List Expr} {scope : Scope} {own : List (Str × Nat)} {pos : Pos} {wi : TI} {g : TG} {tt : TT} {te : TE} {E₁ : Value → Shared → Prop}
    (hst : X.stack = X.env :: X.outer) (hfm : X.env.frame = some X.env.locals) (hex : X.ex = [])
    (hx : X.xe = fun e s' => wpAny (model X.prog X.w) X.A (leaving X.env e) (fun _ s'' => CX X.prog X.w X.outer X.H_0 X.s_0 E e s'') E₁ s')
    (hc : X.calm = true) (hN : X.N.Nodup) (hi : PI X tg iter wi) (ok : BlkOk X.N X.env.scope scope own)
    (hg : ∀ (s : Shared) (H : Hp) (C : Addr) (cl : List (Str × Addr)) (fp : List Addr) (xb : Value → Shared → Prop), PG { X.blk s H scope (compEnvC scope cl C X.env) fp with xe := xb } tg g) (ht : ∀ (s : Shared) (H : Hp) (C : Addr) (cl : List (Str × Addr)) (fp : List Addr) (xb : Value → Shared → Prop), PTs { X.blk s H scope (compEnvC scope cl C X.env) fp with xe := xb } ifs tt)
    (he : ∀ (s : Shared) (H : Hp) (C : Addr) (cl : List (Str × Addr)) (fp : List Addr) (xb : Value → Shared → Prop), Passes (CX X.prog X.w) { X.blk s H scope (compEnvC scope cl C X.env) fp with xe := xb } E → PE { X.blk s H scope (compEnvC scope cl C X.env) fp with xe := xb } elt te)
    (hs : ∀ x, foldedSetIterable iter X.env x = pure x := by intro _; rfl) : PE X (.ListComp elt [⟨tg, iter, ifs, 0⟩] scope pos) (tLc wi g tt te (own.map (·.2))) := by
  refine ⟨fun pins s σ H Q I h => ?_⟩
  rw [eval_ListComp]
  refine lc_coreX hst hfm hex hx hc hN I hi ok hg ht he hs h fun D C s' m H' I' q hn f => ⟨m, hn, fun h'' sb => ?_⟩
  obtain ⟨f0, f1, f2, f3, f4, f5⟩ := f
  exact ⟨.ref D, H', I'.turned (t' := s'.toks) (fun b o hb e => (sb.2 b hb).trans e) f0 f1 f3 f4 f5, rfl, q⟩
end
end L2

namespace L2
open PySem PySem.Spec PyProof.Rows
/-! ### list(o), o's __iter__ gives iter(o.f), f a list, and __len__ is a def -/
section
variable {X : Cx} {pins : List (Addr × Obj)} {σ : St}
theorem listI_loop {A1 : Around} {q it l : Addr} {xs : List V} {H0 : Hp} {Rs : Result → Shared → Prop} (hh : A1.in1.handled = none) (hz : xs.length ≤ sizeLine) (nq : H0 q = none) (nit : H0 it = none) (nqi : q ≠ it) (nl : l ≠ q) (hl : SqL X.K H0 l xs)
    (hf : ∀ H', H' it = none → FpOk X pins H' it) (hdone : ∀ s, Inv X pins σ (upd H0 q (.lst xs)) s → Rs (.ok (.ret .none)) s) :
    ∀ (m i : Nat) (s : Shared), xs.length - i = m → i ≤ xs.length → Inv X pins σ (upd H0 q (.lst (xs.take i))) s → s.heap.IsListIter it l i → codeAny (model X.prog X.w) A1 (.builtin "list.extend.loop" ⟨[.ref q, .ref it, .none], []⟩) Rs s := by
  have nitq : ∀ o, (upd H0 q o) it = none := fun o => by rw [upd_ne nqi.symm]; exact nit
  have hlq : ∀ o, SqL X.K (upd H0 q o) l xs := fun o => by
    rcases hl with (h | ⟨o', h⟩) | h
    · exact .inl (.inl (by rw [upd_ne nl]; exact h))
    · exact .inl (.inr ⟨o', by rw [upd_ne nl]; exact h⟩)
    · exact .inr h
  intro m
  induction m with
  | zero =>
    intro i s hm hi I st
    have e : i = xs.length := by omega
    subst e
    obtain ⟨its, rv, pl, _⟩ := I.list (hlq _)
    refine codeAny_builtin PySem.F.entry_extend_loop ?_
    rw [Around.under_plainId PySem.F.plain_extend_loop _]
    show wpAny _ A1.in1 (pyNext (.ref it) >>= _) _ _ s
    obtain ⟨f0, f1, f2, f3, f4, f5⟩ := hf _ (nitq (.lst xs))
    refine wpAny_bind (wpAny_pyNext_list_end hh st pl.isList (by have := rv.length; simp; omega) fun h' he' => wpAny_pure (hdone _ ?_))
    rw [List.take_length] at I
    exact I.turned (it := it) (t' := s.toks) (fun b o hb e => he' b o hb e) (nitq _) f1 f3 f4 f5
  | succ m ih =>
    intro i s hm hi I st
    have hlt : i < xs.length := by omega
    obtain ⟨its, rv, pl, _⟩ := I.list (hlq _)
    have hx : xs[i]? = some xs[i] := List.getElem?_eq_getElem hlt
    obtain ⟨u, hu, ri⟩ := rv.get hx
    refine codeAny_builtin PySem.F.entry_extend_loop ?_
    rw [Around.under_plainId PySem.F.plain_extend_loop _]
    show wpAny _ A1.in1 (pyNext (.ref it) >>= _) _ _ s
    obtain ⟨f0, f1, f2, f3, f4, f5⟩ := hf _ (nitq (.lst (xs.take i)))
    refine wpAny_bind (wpAny_pyNext_list_item st pl.isList (x := u) (by simpa using hu) fun h' hit' hs' => ?_)
    have I' := I.turned (it := it) (h' := h') (t' := s.toks) (fun b o hb e => hs'.extBut b o hb e) (nitq _) f1 f3 f4 f5
    show wpAny _ A1.in1 (updateSeq q (·.push u) >>= _) _ _ _
    obtain ⟨z, its2, k, r2, hl2, e⟩ := I'.lstM upd_same
    refine wpAny_bind (wpAny_updateSeq e rfl (wpAny_pure ⟨plainId_quiet PySem.F.plain_extend_loop _, ?_⟩) (by rw [List.size_toArray]; rw [List.length_take] at hl2; omega) (by show (its2.toArray.push u).size ≤ sizeLine + 1; rw [Array.size_push, List.size_toArray]; rw [List.length_take] at hl2; omega))
    refine ih (i + 1) _ (by omega) hlt ?_ (hit'.at fun o e => (Heap.get?_update_other _ _ nqi).trans e)
    have I2 := I'.lset (f := (·.push u)) (its' := its2 ++ [u]) (t' := s.toks) upd_same e (by simp) (r2.append (.cons ri .nil)) (by rw [List.length_append, List.length_take]; show _ + 1 ≤ _; omega)
    rw [upd_upd] at I2
    rw [List.take_add_one, hx]
    exact I2
variable {CI CL : CXT} {k : Nat} {g fL C : Addr} {fl : Str} {fdL : FuncData} {psL : List Str} {spL : Sp} {EL : XK}
def rListI (K : PySem.W.Frag) (C : Addr) (fl : Str) (spL : Sp) (EL : XK) : List V → Hp → VK → Prop := fun vs H Q => ∃ (a dx l : Addr) (fs : List (Str × V)) (xs : List V), vs = [.ref a] ∧ H a = some (.ins C dx fs) ∧ fs.lookup fl = some (.ref l) ∧ SqL K H l xs ∧ xs.length ≤ 1000 ∧
  (∀ q, H q = none → spL [.ref a] (upd H q (.lst [])) (fun v H' => (∃ n : Nat, v = .int (n : Int) ∧ n ≤ 1000) ∧ H' = upd H q (.lst [])) EL) ∧ ∀ q, H q = none → Q (.ref q) (upd H q (.lst xs))
theorem call_listI (m : Meth X.K C "__iter__" g) (FI : IterOk X.prog X.w X.K X.mg X.base k g C fl) (ml : Meth X.K C "__len__" fL) (FL : FnOk X.prog X.w X.K X.mg X.base CX0 k fL fdL psL spL) (bL : Binds X.K fdL psL []) (hc : X.calm = true) (hr : Room (k + 4) X.A) :
    CallR X (.type "list") (rListI X.K C fl spL E0) := by
  intro pins s σ H vs us Q I rv h
  obtain ⟨a, dx, l, fs, xs, rfl, ha, hfl, hl, hz, hsp, hq⟩ := h
  obtain ⟨u, rfl, ru⟩ := rv.one
  cases ru
  have sb : Sub X (k + 2) X.A.in1.in1 := (Sub.in1 (Sub.in1 (⟨hr, rfl⟩ : Sub X (k + 4) X.A)))
  refine callType_codes (Q₁ := fun obj s₁ => obj = .ref s.heap.objs.size ∧ s₁ = { s with heap := s.heap.push { cls := .type "list", data := .seq #[] } }) PySem.F.called_list (PySem.F.typeCall_list_1 _) PySem.F.entry_list_init
    (code_list_new _ ⟨rfl, rfl⟩) fun obj s₁ h₁ => ?_
  obtain ⟨rfl, rfl⟩ := h₁
  have hS : (s.heap.push { cls := .type "list", data := .seq #[] }).get? s.heap.objs.size = some { cls := .type "list", data := .seq #[] } := Heap.get?_push_size _ rfl
  refine ⟨⟨_, hS, rfl⟩, PySem.F.args_list_init_2 _ _, ?_⟩
  have fr : H s.heap.objs.size = none := I.hok.fresh (Nat.le_refl _)
  have I1 : Inv X pins σ (upd H s.heap.objs.size (.lst [])) { s with heap := s.heap.push { cls := .type "list", data := .seq #[] } } := I.lnew (its := []) (t' := s.toks) .nil (Nat.zero_le _)
  show wpAny _ _ (do let old ← Builtin.List.listItems (.ref s.heap.objs.size); Builtin.List.listUpdate (.ref s.heap.objs.size) (fun _ => #[]); letGo old.toList.reverse; Builtin.List.listExtendWith (.ref s.heap.objs.size) (.ref a) .none) _ _ _
  refine wpAny_bind ?_
  unfold Builtin.List.listItems
  refine wpAny_bind (wpAny_seqItems hS rfl (wpAny_pure ?_))
  show wpAny _ _ (updateSeq s.heap.objs.size (fun _ => #[]) >>= fun _ => letGo (#[] : Array Value).toList.reverse >>= fun _ => Builtin.List.listExtendWith (.ref s.heap.objs.size) (.ref a) .none) _ _ _
  refine wpAny_bind (wpAny_updateSeq hS rfl ?_)
  have I2 := I1.lset (f := fun _ => #[]) (its := []) (its' := []) (ys := []) (t' := s.toks) upd_same hS rfl .nil (Nat.zero_le _)
  rw [upd_upd] at I2
  refine wpAny_bind (wpAny_letGo ?_)
  have nlq : l ≠ s.heap.objs.size := fun z => by
    obtain ⟨its, rv, pl, _⟩ := I.list hl
    obtain ⟨o, ho, _⟩ := pl.isList
    have := Heap.lt_size ho
    rw [z] at this
    exact absurd this (Nat.lt_irrefl _)
  have hQ := hq _ fr
  have hL := hsp _ fr
  revert I2 fr nlq hQ hL
  generalize s.heap.objs.size = q
  generalize ({ s with heap := _, toks := _ } : Shared) = s2
  intro fr I2 nlq hQ hL
  have naq : a ≠ q := ne_of_none ha fr
  have ha2 : (upd H q (.lst [])) a = some (.ins C dx fs) := by rw [upd_ne naq]; exact ha
  obtain ⟨ox, od, J⟩ := inst_of I2 ha2
  obtain ⟨mf, hF⟩ := I2.fr
  unfold Builtin.List.listExtendWith
  refine wpAny_bind (J.type.here ?_)
  have h1 : Builtin.List.listSameRef (.ref q) (.ref a) = false := by simp [Builtin.List.listSameRef, naq.symm]
  have h2 : (Value.ref C == Value.type "list") = false := rfl
  have h3 : (Value.ref C == Value.type "tuple") = false := rfl
  simp only [h1, h2, h3, Bool.or_false, Bool.false_eq_true, if_false]
  have e0 : Env0 X.prog X.w X.K X.mg X.base X.A.in1.in1 X.stack s2 (upd H q (.lst [])) := by
    have e := I2.env0
    exact ⟨by rw [sb.fr]; exact e.frames, e.mod, e.bs, e.bsz, e.funs, e.frf, e.hok, e.bare⟩
  have hl2 : SqL X.K (upd H q (.lst [])) l xs := by
    rcases hl with (h | ⟨o', h⟩) | h
    · exact .inl (.inl (by rw [upd_ne nlq]; exact h))
    · exact .inl (.inr ⟨o', by rw [upd_ne nlq]; exact h⟩)
    · exact .inr h
  refine wpAny_bind (PySem.W.owit_iter hF I2.ok.mod.kin J m.at_ m.fn (wpAny_call (codeAny_mono (FI X.A.in1.in1 X.stack s2 (upd H q (.lst [])) a dx l fs xs (fun v H2 => ∃ it, v = .ref it ∧ (upd H q (.lst [])) it = none ∧ s2.heap.objs.size ≤ it ∧ H2 = upd (upd H q (.lst [])) it (ItO l it 0)) E0 (sb.room.mono (by omega)) e0 ha2 hfl hl2 fun it n1 n2 => ⟨it, rfl, n1, n2, rfl⟩) fun r s' z => ?_)))
  match r, z with
  | .error _, z => exact z.elim
  | .ok (.ret u), z =>
    obtain ⟨v2, H2, I3, r2, it, rfl, n1, n2, rfl⟩ := I2.after z
    cases r2
    have eo := itO_get I3 upd_same
    have hT : s'.TypeIs (.ref it) "list_iterator" := ⟨_, eo, rfl⟩
    have I4 := ItX.inv_drop I3 (a := it) (by rw [upd_same]; rfl)
    rw [ItX.dropH_upd n1] at I4
    refine wpAny_specialOf (name := Str.ofString "__next__") hT slot_listiter_next.lookup ?_
    obtain ⟨ox4, od4, J4⟩ := inst_of I4 ha2
    show wpAny (model X.prog X.w) X.A.in1.in1 (do
            let room ← holding [Value.ref it] (Builtin.List.listLengthHint (Value.ref a))
            _) _ _ s'
    refine wpAny_bind (wpAny_holding ?_)
    unfold Builtin.List.listLengthHint
    refine wpAny_bind (wpAny_bind (J4.type.here ((PySem.W.looks_findIn I4.kIn ml.at_).here ?_)))
    refine PySem.W.KFB.if_not rfl ?_
    refine wpAny_ite_split (fun _ => ?_) (fun hab => absurd rfl hab)
    refine wpAny_bind (wpAny_rule ?_)
    obtain ⟨mf4, hF4⟩ := I4.fr
    have fpI : FpOk X pins (upd H q (.lst [])) it := I2.fpOk n2 n1
    have oI : ∀ b ∈ [it], ∃ o, s'.heap.get? b = some o ∧ ∀ v, o.data ≠ .cell v := fun b hb => by
      obtain rfl : b = it := by simpa using hb
      exact ⟨_, eo, fun v z => nomatch z⟩
    have I4n : Inv X.nox (pins ++ pinsAt [it] s'.heap) σ (upd H q (.lst [])) s' := (I4.pinned (fp := [it]) (fun b hb => by rw [List.mem_singleton.mp hb]; exact fpI) oI).wish _
    have lenq : wpAny (model X.prog X.w) X.A.in1.in1 (call (.builtin "len") [.ref a]) (fun nv s6 => ∃ (n : Nat) (t : Tok), nv = .int (n : Int) t ∧ n ≤ 1000 ∧ Inv X pins σ (upd H q (.lst [])) s6 ∧ s6.heap.IsListIter it l 0) (fun _ _ => False) s' := by
      refine PySem.W.len_K hF4 I4.ok.mod.kin J4 ml.at_ ml.fn (thn (run_sub (X := X.nox) (A1 := X.A.in1.in1.in1) (us := [.ref a]) (vs := [.ref a]) (stack_of I4) FL ((sb.room.mono (by omega)).in1 (k := k)) bL pass0 I4n (.cons rfl .nil) hL) fun r s5 z => ?_)
      obtain ⟨z1, H1, I5, r1, ⟨n, rfl, hn⟩, rfl⟩ := z
      obtain ⟨t, rfl⟩ := r1
      have g5 := (I5.pin (it, _) (List.mem_append_right _ (List.mem_append_right _ (mem_pinsAt (List.mem_singleton.mpr rfl) eo)))).1
      exact ⟨⟨by omega, by omega⟩, n, _, rfl, hn, (I5.unwish.unpinned (pins := pins)).tok _, ⟨_, g5, rfl, rfl⟩⟩
    refine wpAny_bind (wpAny_attempt (thnF lenq fun nv s6 h6 => ?_))
    obtain ⟨n, t, rfl, hn, I6, st6⟩ := h6
    have hbig : Builtin.List.listTooLong ((n : Int)).toNat = false := by
      unfold Builtin.List.listTooLong
      rw [Int.toNat_natCast]
      have : 1000 < sizeLine := by decide
      exact decide_eq_false (by omega)
    refine wpAny_bind (wpAny_pure ?_)
    refine PySem.W.KFB.if_not hbig (wpAny_pure ?_)
    have big : 1000 < sizeLine := by decide
    have nqi : q ≠ it := fun z => by
      rw [← z, upd_same] at n1; cases n1
    have nitH : H it = none := by rw [upd_ne nqi.symm] at n1; exact n1
    have loop : ∀ s7, Inv X pins σ (upd H q (.lst [])) s7 → s7.heap.IsListIter it l 0 → codeAny (model X.prog X.w) X.A.in1 (.builtin "list.extend.loop" ⟨[.ref q, .ref it, .none], []⟩) (wants (fun r s₂ => r = .none ∧ EP X pins σ Q (.ref q) s₂) X.xe) s7 := fun s7 I7 st7 =>
      listI_loop (A1 := X.A.in1) (H0 := H) (by exact I7.ok.hd hc) (by omega) fr nitH nqi nlq hl (fun H' nH => ⟨nH, fpI.2⟩) (fun s8 I8 => ⟨rfl, .ref q, _, I8, rfl, hQ⟩) xs.length 0 s7 (by omega) (Nat.zero_le _) (by rw [List.take_zero]; exact I7) st7
    refine wpAny_ite_split (fun _ => ?_) (fun _ => wpAny_pure ⟨plainId_quiet PySem.F.plain_extend_loop _, loop s6 I6 st6⟩)
    refine wpAny_bind (wpAny_rule ?_)
    refine wpAny_bind ?_
    obtain ⟨z3, its3, k3, r3, hl3, e3⟩ := I6.lstM upd_same
    cases r3
    show wpAny _ _ (updateSeq q (·.push .none) >>= fun _ => updateSeq q (·.pop)) _ _ _
    refine wpAny_bind (wpAny_updateSeq e3 rfl ?_)
    have I7 := I6.lset (f := (·.push Value.none)) (its' := [Value.none]) (ys := [.non]) (t' := s6.toks) upd_same e3 (by simp) (.cons rfl .nil) (by rw [List.length_singleton, sizeLine_eq]; decide)
    obtain ⟨z4, its4, k4, r4, hl4, e4⟩ := I7.lstM upd_same
    obtain ⟨u4, rfl, ru4⟩ := r4.one
    refine wpAny_updateSeq e4 rfl ?_ (by show 1 ≤ sizeLine; rw [sizeLine_eq]; decide) (by show 0 ≤ sizeLine + 1; exact Nat.zero_le _)
    have I8 := I7.lset (f := (·.pop)) (its := [u4]) (its' := []) (ys := []) (t' := s6.toks) upd_same e4 (by rfl) .nil (Nat.zero_le _)
    rw [upd_upd, upd_upd] at I8
    refine wpAny_pure ⟨plainId_quiet PySem.F.plain_extend_loop _, loop _ I8 (st6.at fun o e => ?_)⟩
    exact (Heap.get?_update_other _ _ nqi).trans ((Heap.get?_update_other _ _ nqi).trans e)
end
end L2

namespace L2
open PySem PySem.Spec PyProof.Rows
section
variable {X : Cx} {a b c d : Expr} {ta tb tc td : TE} {pos : Pos}
/-- a op b op' c op'' d -/
def tChain3 (r r' r'' : R2) (ta tb tc td : TE) : TE := fun σ H Q => ta σ H fun x H1 => tb σ H1 fun y H2 => r x y H2 fun z H3 => ∃ k, z = .bl k ∧
  (if k = true then tc σ H3 fun v H4 => r' y v H4 fun z' H5 => ∃ k', z' = .bl k' ∧ (if k' = true then td σ H5 fun u H6 => r'' v u H6 Q else Q (.bl false) H5) else Q (.bl false) H3)
theorem pe_chain3 {op op' op'' : CmpOp} {r r' r'' : R2} (ho : OpR X (compareOp op) r) (ho' : OpR X (compareOp op') r') (ho'' : OpR X (compareOp op'') r'') (ha : PE X a ta) (hb : PE X b tb) (hc : PE X c tc) (hd : PE X d td)
    (hm : lastMarks [op, op', op''] [b, c, d] = false := by with_unfolding_all rfl) : PE X (.Compare a [op, op', op''] [b, c, d] pos) (tChain3 r r' r'' ta tb tc td) := by
  refine ⟨fun pins s σ H Q I h => ?_⟩
  refine Compare_chain (thn (ha.run pins s σ H _ I h) fun v s1 ⟨x, H1, I1, r1, q1⟩ => chain_link (thn (hb.run pins s1 σ H1 _ I1 q1) fun u s2 ⟨y, H2, I2, r2, q2⟩ =>
    thn (ho pins s2 σ H2 x y v u _ I2 r1 r2 q2) fun d s3 ⟨z, H3, I3, r3, k, e, q3⟩ => ?_)) hm
  subst e
  cases r3
  refine wpAny_truthy_bool ?_
  cases k with
  | false => exact ite_ff ⟨.bl false, H3, I3, rfl, q3⟩
  | true =>
    refine ite_tt (chain_link (thn (hc.run pins s3 σ H3 _ I3 q3) fun w' s4 ⟨z', H4, I4, r4, q4⟩ => thn (ho' pins s4 σ H4 y z' u w' _ I4 r2 r4 q4) fun d5 s5 ⟨z5, H5, I5, r5, k', e5, q5⟩ => ?_))
    subst e5
    cases r5
    refine wpAny_truthy_bool ?_
    cases k' with
    | false => exact ite_ff ⟨.bl false, H5, I5, rfl, q5⟩
    | true => exact ite_tt (chain_last (thn (hd.run pins s5 σ H5 _ I5 q5) fun w6 s6 ⟨z6, H6, I6, r6, q6⟩ => ho'' pins s6 σ H6 z' z6 w' w6 Q I6 r4 r6 q6))
end
end L2
namespace L2
open PySem PySem.Spec PyProof.Rows
def rInKd (neg : Bool) : R2 := fun x y H Q => ∃ a o, y = .ref a ∧ DGet H a x o ∧ Q (.bl (if neg then !o.isSome else o.isSome)) H
theorem op_inKd {X : Cx} (hu : X.A.units + 1 < cLine) : OpR X (compareOp .In) (rInKd false) := by
  intro pins s σ H x y v u Q I rx ry h
  obtain ⟨a, o, rfl, g, q⟩ := h
  cases ry
  exact d_in hu I g rx fun s3 I3 => ⟨.bl o.isSome, H, I3, rfl, q⟩
theorem op_ninKd {X : Cx} (hu : X.A.units + 1 < cLine) : OpR X (compareOp .NotIn) (rInKd true) := by
  intro pins s σ H x y v u Q I rx ry h
  obtain ⟨a, o, rfl, g, q⟩ := h
  cases ry
  exact d_notIn hu I g rx fun s3 I3 => ⟨.bl (!o.isSome), H, I3, rfl, q⟩
end L2

namespace L2
open PySem
theorem for_str {z : Str} {g : TG} {tb : TS} {D : Ends} {σ : L2.St} {H : Hp} (Pv : Nat → L2.St → Hp → Prop) (h0 : Pv 0 σ H)
    (hs : ∀ i c σ H, (TL.tl z)[i]? = some c → Pv i σ H → g (.str ⟨#[c]⟩) σ H fun σ2 H2 => tb { D with nx := Pv (i + 1), ct := Pv (i + 1), bk := D.nx } σ2 H2) (hd : ∀ σ H, Pv z.length σ H → D.nx σ H) :
    ∃ W : Nat → Nat → L2.St → Hp → Prop, (∃ m, W 0 m σ H) ∧ ∀ i m σ H, W i m σ H →
      ((Its z).stop i H ∧ D.nx σ H) ∨ ((Its z).go i H ∧ ∃ N : L2.St → Hp → Prop, (∀ σ' H', N σ' H' → ∃ m', m' < m ∧ W (i + 1) m' σ' H') ∧ ∀ x H', (Its z).yld i H x H' → g x σ H' fun σ2 H2 => tb { D with nx := N, ct := N, bk := D.nx } σ2 H2) := by
  refine ⟨fun i m σ H => m = z.length - i ∧ i ≤ z.length ∧ Pv i σ H, ⟨z.length, by simp, Nat.zero_le _, h0⟩, ?_⟩
  rintro i m σ H ⟨rfl, hi, p⟩
  by_cases hlt : i < z.length
  · refine .inr ⟨hlt, Pv (i + 1), fun σ' H' p' => ⟨z.length - (i + 1), by omega, rfl, hlt, p'⟩, fun x H' y => ?_⟩
    obtain ⟨e, c, hc, ex⟩ := y
    subst e ex
    exact hs i c σ _ (by show z.cps.toList[i]? = some c; rw [Array.getElem?_toList]; exact hc) p
  · have e : i = z.length := by omega
    subst e
    exact .inl ⟨Nat.le_refl _, hd σ H p⟩
end L2
namespace L2
open PySem
theorem pg_tupK {X : Cx} {K : PySem.W.Frag} {es : List Expr} {k : Nat} {t : TGs} {n : Nat} {pos : Pos} (hK : X.K = K) (hc : X.calm = true) (h : PGs X es t)
    (hn : (assignEach es X.env).length = n := by rfl) (hst : (assignEach es X.env).findIdx? (·.1) = none := by rfl) : PG X (.Tuple es k pos) (gTup K n t) := hK ▸ pg_tup hc h hn hst
end L2

namespace L2
open PySem PySem.Spec PyProof.Rows
theorem anyK {X : Cx} {K : PySem.W.Frag} (h : X.K = K) (hc : X.calm = true) : CallR X (.builtin "any") (rAny K) := h ▸ cr_any hc
end L2
namespace L2
open PySem
theorem lenK {X : Cx} {K : PySem.W.Frag} (h : X.K = K) : CallR X (.builtin "len") (fun xs H Q => ∃ p ys, xs = [V.ref p] ∧ (SqL K H p ys ∨ SqT K H p ys) ∧ Q (.int ((ys.length : Nat) : Int)) H) := h ▸ call_len_seq
theorem pi_listK {X : Cx} {K : PySem.W.Frag} {tg l : Expr} {tl : TE} (h : X.K = K) (hl : PE X l tl) : PI X tg l (iList K tl) := h ▸ pi_list hl
theorem pi_tupleK {X : Cx} {K : PySem.W.Frag} {tg l : Expr} {tl : TE} (h : X.K = K) (hl : PE X l tl) : PI X tg l (iTup K tl) := h ▸ pi_tup hl
def rListOf (K : PySem.W.Frag) : List V → Hp → VK → Prop := fun xs H Q => ∃ p ys, xs = [V.ref p] ∧ (SqL K H p ys ∨ SqT K H p ys) ∧ ∀ l, H l = none → Q (.ref l) (upd H l (.lst ys))
def rTupOf (K : PySem.W.Frag) : List V → Hp → VK → Prop := fun xs H Q => ∃ p ys, xs = [V.ref p] ∧ ((SqL K H p ys ∧ ∀ l, H l = none → Q (.ref l) (upd H l (.tup ys))) ∨ (SqT K H p ys ∧ Q (.ref p) H))
theorem listK {X : Cx} {K : PySem.W.Frag} (h : X.K = K) : CallR X (.type "list") (rListOf K) := h ▸ call_list_of
theorem tupleK {X : Cx} {K : PySem.W.Frag} (h : X.K = K) : CallR X (.type "tuple") (rTupOf K) := h ▸ call_tuple_of
end L2

namespace L2
open PySem PySem.Spec PyProof.Rows
theorem eqDK {X : Cx} {K : PySem.W.Frag} (h : X.K = K) (hu : X.A.units + 64 < cLine) : OpR X (compareOp .Eq) (rEqD K) := h ▸ op_eqD hu
theorem neDK {X : Cx} {K : PySem.W.Frag} (h : X.K = K) (hu : X.A.units + 64 < cLine) : OpR X (compareOp .NotEq) (rNeD K) := h ▸ op_neD hu
end L2

namespace L2
open PySem PySem.Spec PyProof.Rows
theorem FnOk.toR {P : Program} {w : World} {K : PySem.W.Frag} {mg : Str → Option Value} {base : Heap} {CX : CXT} {k : Nat} {f : Addr} {sp : Sp} {fd : FuncData} {ps : List Str} (F : FnOk P w K mg base CX k f fd ps sp) (hb : Binds K fd ps []) : FnR P w K mg base CX k f sp := (F.raw hb .nil).imp fun vs H Q E h => by rw [List.append_nil]; exact h
/-! ### o[k] = v by the class's own def; c(..), c a local name for a class -/
section
variable {X : Cx} {CX : CXT} {k : Nat} {f C : Addr} {fd : FuncData} {ps : List Str} {sp : Sp} {dvs : List V} {ds : List Value} {E : XK} {p pos : Pos} {e : Expr} {es : List Expr} {t : TA} {x : Str} {ta : TE}
def rSetI (C : Addr) (sp : Sp) (E : XK) : V → V → V → Hp → (Hp → Prop) → Prop := fun o i v H Q => ∃ a dx fs, o = .ref a ∧ H a = some (.ins C dx fs) ∧ sp [o, i, v] H (fun _ H' => Q H') E
theorem set_own (m : Meth X.K C "__setitem__" f) (hq : PySem.W.noSeq X.K C = true) (F : FnOk X.prog X.w X.K X.mg X.base CX k f fd ps sp) (hr : Room k X.A) (hb : Binds X.K fd ps []) (hx : Passes CX X E) : PSet X (rSetI C sp E) := by
  intro pins s σ H o i v ov iv u Q I ro ri rv h
  obtain ⟨a, dx, fs, rfl, ho, q⟩ := h
  cases ro
  obtain ⟨ox, od, J⟩ := inst_of I ho
  obtain ⟨mf, hF⟩ := I.fr
  exact PySem.W.ksp_setItem hF I.ok.mod.kin J hq m.at_ m.fn (thn (run_sub (us := [.ref a, iv, u]) (vs := [.ref a, i, v]) (stack_of I) F hr hb hx I (.cons rfl (.cons ri (.cons rv .nil))) q) fun w s' ⟨z', H', I', rz, qz⟩ => ⟨H', I', qz⟩)
def tMakeV (C : Addr) (sp : Sp) (dvs : List V) (E : XK) (ta : TE) (t : TA) : TE := fun σ H Q => ta σ H fun y H1 => y = .ref C ∧ tMake C sp dvs E t σ H1 Q
theorem pe_makeV (hn : PE X (.Name x p) ta) (M : Mk X.K C f) (F : FnOk X.prog X.w X.K X.mg X.base CX k f fd ps sp) (hr : Room (k + 1) X.A) (hb : Binds X.K fd ps ds) (hd : Vals dvs ds) (hx : Passes CX X E)
    (ha : PA X (e :: es) t) (he : starEach (e :: es) X.env = (false, eval e X.env) :: starEach es X.env := by rfl) (hpl : (backTo pos (starEach es X.env)).any (·.1) = false := by rfl) :
    PE X (.Call (.Name x p) (e :: es) [] pos) (tMakeV C sp dvs E ta t) := by
  refine ⟨fun pins s σ H Q I h => ?_⟩
  refine wpAny_Call_Name_kw (thn (hn.run pins s σ H _ I h) fun u s1 ⟨y, H1, I1, ry, ey, q⟩ => ?_)
  subst ey
  obtain rfl : u = Value.ref C := ry
  refine PySem.W.callWith_K (h₀ := X.base) I1.ok.mod.kin M.kp (thn (ha.run pos pins s1 σ H1 _ I1 q) fun us s2 ⟨vs, H2, I2, r, q⟩ => ⟨I2.kIn, ?_⟩) he hpl
  exact run_make M F hr hb hd hx I2 r q
end
end L2

namespace L2
open PySem PySem.Spec PyProof.Rows
/-! ### generator defs by their text; list(g) within a try -/
section
variable {P : Program} {w : World} {K : PySem.W.Frag} {mg : Str → Option Value} {base : Heap}
theorem Fun.gen {x qual : Str} {st : Stmt} {f : Addr} {fd : FuncData} {N ps : List Str} {k : Nat} {sp : SpG} (F : Fun K x qual st f fd) (S : GScope N ps (defScope st)) (len : ∀ vs H Q E, sp vs H Q E → vs.length = ps.length)
    (body : ∀ (cdv : Value) (A : Around) (outer : List Env) (s : Shared) (H : Hp) (vs : List V) (Q : List V → Hp → Prop) (E : XK) (pn : List (Addr × Obj)), Room k (A.deeper (envOfC qual (defScope st) s.heap.objs.size f cdv)) → sp vs H Q E →
      ∃ t, GSs (gcxOf P w K mg base N qual (defScope st) f cdv A outer s H E pn) (defBody st) t ∧ t { nx := fun ys _ H' => Q ys H', rt := fun ys v H' => v = .non ∧ Q ys H' } [] (start N vs) H) : GFn P w K mg base (k + 1) f fd ps sp := by
  obtain ⟨oc, od, kV, doc, pm, an, cdv, ct, osl, rfl, lk, hcd⟩ := F.ex
  exact gfn_of lk hcd S len fun A outer s H vs Q E pn hr h => body cdv A outer s H vs Q E pn hr h
end
def tGNever : TGn := fun _ _ _ _ => False
theorem gss_never {X : Cx} {sts : List Stmt} : GSs X sts tGNever := ⟨fun _ _ _ _ _ _ _ _ _ _ _ _ _ _ _ _ _ _ _ _ _ h => h.elim⟩
section
variable {X : Cx} {k : Nat} {p pos : Pos}
theorem kin_cx {pins : List (Addr × Obj)} {σ : St} {H : Hp} {s s' : Shared} {E : XK} {e : Value} (I : Inv X pins σ H s) (c : L2.CX X.prog X.w X.stack H s E e s') : X.K.In s'.heap := by
  obtain ⟨a, B, _, _, _, _, fly, _, u, _⟩ := c
  refine I.ok.mod.kin.keeps fun b o q => fly.1 b o ?_
  obtain ⟨q1, q2⟩ := I.bs b o q
  refine u.keep b o q1 q2 fun m => ?_
  have lt := Nat.lt_of_lt_of_le (Nat.lt_of_lt_of_le (Heap.lt_size q) I.ok.bsz) I.ok.above
  cases List.mem_cons.mp (I.stkSub b m) with
  | inl z => exact Nat.lt_irrefl _ (z ▸ lt)
  | inr z => exact I.ok.nofr q z
/-- no StopIteration among them -/
def NSE (K : PySem.W.Frag) (E : XK) : XK := fun c d H => E c d H ∧ PySem.W.subIn K c (.type "StopIteration") = some false
theorem cx_imp {P : Program} {w : World} {outer : List Env} {H : Hp} {s s' : Shared} {E E' : XK} {e : Value} (h : ∀ c d H, E c d H → E' c d H) (x : L2.CX P w outer H s E e s') : L2.CX P w outer H s E' e s' := by
  obtain ⟨a, B, H', c, d, x1, x2, x3, x4, x5, x6, x7, x8⟩ := x
  exact ⟨a, B, H', c, d, x1, x2, x3, x4, x5, x6, x7, h _ _ _ x8⟩
theorem cx_gen {P : Program} {w : World} {outer : List Env} {H : Hp} {s s' : Shared} {E : XK} {e : Value} {g : Nat} (x : L2.CX P w outer H s E e s') : L2.CX P w outer H s E e (s'.setGen g .finished) := by
  obtain ⟨a, B, H', c, d, x1, x2, x3, x4, x5, x6, x7, x8⟩ := x
  exact ⟨a, B, H', c, d, x1, x2, x3, x4, x5, x6, allBare_setGen x7 rfl, x8⟩
def tListGW (tg : St → TGen) : TE := fun σ H Q => tg σ σ H fun out H2 => ∀ p, H2 p = none → Q (.ref p) (upd H2 p (.lst out))
theorem pe_listGW {e : Expr} {tg : St → TGen} {E : St → XK} {nm : Str} (h : ∀ σ, PGen X k e (tg σ) (NSE X.K (E σ))) (hx : ∀ σ, PassesAt (L2.CX X.prog X.w) X σ (E σ)) (hr : Room (k + 3) X.A) (hg : Gl X nm) (hmg : X.mg nm = none) (hv : bootBuiltins nm = some (.type "list")) (hnm : nm ≠ "__name__" := by decide) (hdb : (nm == ("__debug__" : Str)) = false := by decide)
    (he : starEach [e] X.env = (false, eval e X.env) :: starEach [] X.env := by rfl) : PE X (.Call (.Name nm p) [e] [] pos) (tListGW tg) := by
  refine ⟨fun pins s σ H Q I hq => wpAny_Call_Name_kw (ld_blt I hg hmg hv ?_ hnm hdb)⟩
  refine PyProof.Rows.callWith_type1 ?_ he rfl
  rw [he]
  show wpAny _ _ (spliced ((false, eval e X.env) :: backTo pos (starEach [] X.env))) _ _ s
  refine Calls.spliced_cons (thn ((h σ).run pins s σ H _ I hq) fun u s1 ⟨H1, sc, ex, I1, hex, made⟩ => Calls.spliced_nil ?_)
  have old : sc.heap.objs.size ≤ s1.heap.objs.size := by
    obtain ⟨a, _, _, _, l1, l2, _⟩ := made
    exact Nat.le_of_lt (Nat.lt_of_le_of_lt l1 l2)
  refine call_list_new hr I1.ok.frames made (fun S s' acc c H' ys l q1 q2 q3 q4 q5 q6 q7 q8 q9 => ?_) fun x s' g hc => ?_
  · exact ⟨.ref S, upd H' S (.lst ys), I1.drained (Nat.le_trans old l) q3 q1 q2 hex q4 q5 q6 q7 q8, rfl, q9 S q8⟩
  · exact ⟨notStop_of (fun _ _ _ z => z.2) (kin_cx I1 hc) hc, hx σ pins H1 sc x _ I1 (cx_gen (cx_imp (fun _ _ _ z => z.1) hc))⟩
/-- list(o.m(e, ..)) of a generator method, in a try's body -/
def tListGM (K : PySem.W.Frag) (C : Addr) (m : Str) (sp : SpG) (dvs : List V) (E : St → XK) (ta : TE) (t : TA) : TE := fun σ H Q => tMethG C m sp dvs (NSE K (E σ)) ta t σ H fun out H2 => ∀ p, H2 p = none → Q (.ref p) (upd H2 p (.lst out))
theorem pe_listGM {f C : Addr} {fd : FuncData} {ps : List Str} {sp : SpG} {dvs : List V} {ds : List Value} {m nm : Str} {pos' apos : Pos} {o e : Expr} {es : List Expr} {ta : TE} {t : TA} {E : St → XK} {pl : Sem Bool} {K : PySem.W.Frag} (hK : X.K = K)
    (he : PE X o ta) (c : Cls X.K C) (hm : Meth X.K C m f) (F : GFn X.prog X.w X.K X.mg X.base k f fd ps sp) (hrg : Room k X.A) (hb : Binds X.K fd ps ds) (hd : Vals dvs ds) (ha : PA X (e :: es) t) (hx : ∀ σ, PassesAt (L2.CX X.prog X.w) X σ (E σ)) (hr : Room (k + 3) X.A)
    (hg : Gl X nm) (hmg : X.mg nm = none) (hv : bootBuiltins nm = some (.type "list")) (hnm : nm ≠ "__name__" := by decide) (hdb : (nm == ("__debug__" : Str)) = false := by decide)
    (hst : starEach (e :: es) X.env = (false, eval e X.env) :: starEach es X.env := by rfl) (hpl : (backTo pos' (starEach es X.env)).any (·.1) = false := by rfl)
    (ht : eval (.Call (.Attribute o m apos) (e :: es) [] pos') X.env = (do
      let ov ← eval o X.env
      standAt apos.atName
      let (f, first) ← holding [ov] (getMethod ov m pl)
      callWith pos' f first (backTo pos' (starEach (e :: es) X.env)) (backToKw pos' (keywordEach [] X.env))) := by rfl)
    (hel : starEach [Expr.Call (.Attribute o m apos) (e :: es) [] pos'] X.env = (false, eval (.Call (.Attribute o m apos) (e :: es) [] pos') X.env) :: starEach [] X.env := by rfl) :
    PE X (.Call (.Name nm p) [.Call (.Attribute o m apos) (e :: es) [] pos'] [] pos) (tListGM K C m sp dvs E ta t) := hK ▸
  pe_listGW (tg := fun σ => tMethG C m sp dvs (NSE X.K (E σ)) ta t) (fun σ => pgen_meth (pl := pl) he c hm F hrg hb hd ha hst hpl ht) hx hr hg hmg hv hnm hdb hel
end
end L2
namespace L2
open PySem
theorem nopass {X : Cx} : Passes (L2.CX X.prog X.w) X (fun _ _ _ => False) := fun _ _ _ _ _ _ _ x => by
  obtain ⟨a, B, H', c, d, x1, x2, x3, x4, x5, x6, x7, x8⟩ := x
  exact x8.elim
theorem nostop {K : PySem.W.Frag} : NoStop K (fun _ _ _ => False) := fun _ _ _ h => h.elim
end L2

namespace L2
open PySem PySem.Spec PyProof.Rows GenW
/-! ### if and for in a generator's body -/
section
variable {X : Cx}
def tGIf (c : TT) (t u : TGn) : TGn := fun D ys σ H => c σ H fun b H1 => if b = true then t D ys σ H1 else u D ys σ H1
theorem gs_if {test : Expr} {a b : List Stmt} {pos : Pos} {tc : TT} {t u : TGn} (hc : PT X test tc) (ha : GSs X a t) (hb : GSs X b u) : GS X (.If test a b pos) (tGIf tc t u) := by
  refine ⟨fun A S ip R n ys s₀ c fs K J gd lv s σ H D g hn k hI ht => ?_⟩
  obtain ⟨acc, cc, r, I⟩ := hI
  rw [exec_If]
  show Seg _ _ _ _ _ _ _ (.at pos fun _ => ((isTrue test X.env (eval test X.env) >>= fun d => if d = true then execs a X.env else execs b X.env).wrap K J gd lv)) _ _
  refine seg_at (seg_bind_wrap ?_)
  rw [g.over]
  refine wpAny_mono (hc.run _ s σ H _ I ht) (fun d s1 ⟨H1, I1, q⟩ => ?_) fun x s1 hx => k.exc n s₀ x s1 hx
  cases d with
  | true => exact ha.run A S ip R n ys s₀ c fs K J gd lv s1 σ H1 D g hn k ⟨acc, cc, r, I1⟩ q
  | false => exact hb.run A S ip R n ys s₀ c fs K J gd lv s1 σ H1 D g hn k ⟨acc, cc, r, I1⟩ q
/-- for in a generator: the word of the loop speaks of what is out, too -/
def tGFor (wi : TI) (g : TG) (tb : TGn) : TGn := fun D ys σ H => wi σ H fun J H1 => ∃ W : Nat → Nat → List V → St → Hp → Prop, (∃ m, W 0 m ys σ H1) ∧ ∀ i m ys σ H, W i m ys σ H →
  (J.stop i H ∧ D.nx ys σ H) ∨ (J.go i H ∧ ∃ N : List V → St → Hp → Prop, (∀ ys' σ' H', N ys' σ' H' → ∃ m', m' < m ∧ W (i + 1) m' ys' σ' H') ∧ ∀ x H', J.yld i H x H' → g x σ H' fun σ2 H2 => tb { D with nx := N, ct := N, bk := D.nx } ys σ2 H2)
theorem wpAny_bindK {α β : Type} {M : Model} {A : Around} {m : Sem α} {f : α → Sem β} {Q : β → Shared → Prop} {E : Value → Shared → Prop} {s : Shared} (h : wpAny M A m (fun a s' => wpAny M A (f a) Q E s') E s) : wpAny M A (m >>= f) Q E s := wpAny_bind h
theorem gs_for {tg iter : Expr} {body : List Stmt} {pos : Pos} {wi : TI} {g : TG} {tb : TGn} (hp : PassesOwn (model X.prog X.w) X.A X.env X.xe) (hc : X.calm = true) (hi : PI X tg iter wi) (hg : PG X tg g) (hb : GSs X body tb)
    (hs : ∀ x, foldedSetIterable iter X.env x = pure x := by intro _; rfl) : GS X (.For tg iter body [] pos) (tGFor wi g tb) := by
  refine ⟨fun A S ip R n ys s₀ c fs K J gd lv s σ H D gc hn k hI ht => ?_⟩
  obtain ⟨acc, cc, r, I⟩ := hI
  rw [exec_For]
  show Seg _ _ _ _ _ _ _ (.at pos fun _ => ((eval iter X.env >>= fun v => foldedSetIterable iter X.env v >>= fun x => (standAt iter.pos >>= fun _ => (holding [x] (pyIter x) >>= fun it => runOwn (.forLoop tg it body [] X.env) X.env))).wrap K J gd lv)) _ _
  refine seg_at (seg_bind_wrap ?_)
  rw [gc.over]
  refine wpAny_mono (hi.run _ s σ H _ I ht) (fun v s1 h1 => ?_) fun x s1 hx => k.exc n s₀ x s1 hx
  rw [hs v]
  show Seg _ _ _ _ _ _ _ (.at iter.pos fun _ => ((holding [v] (pyIter v) >>= fun it => runOwn (.forLoop tg it body [] X.env) X.env).wrap K J gd lv)) _ _
  refine seg_at (seg_bind_wrap (wpAny_holding ?_))
  rw [gc.over]
  refine wpAny_mono h1 (fun itv s2 h2 => ?_) fun x s1 hx => k.exc n s₀ x s1 hx
  obtain ⟨it, fp, tn, Jt, H2, rfl, I2, T, st2, f2, W, ⟨m0, w0⟩, turn⟩ := h2
  refine seg_call fun p => ?_
  have gl := fun (kk : Result → Sem PySem.Fin) => gc_loop (k := kk) (c' := .forLoop tg (.ref it) body [] X.env) (l := lv []) (kp := []) (p := p) gc rfl rfl
  have notS : ∀ b ∈ fp, S ≠ b := fun b hb => (f2 b hb).2.2.2.2.2 (S, lstObj acc cc) (List.mem_append_right _ List.mem_cons_self)
  have stat : ∀ {H' : Hp} {acc' : Array Value} {cc' : Nat}, (∀ b ∈ fp, H' b = none) → ∀ b ∈ fp, FpOk X ((S, lstObj acc' cc') :: ip) H' b := fun hn b hb => by
    obtain ⟨_, y2, y3, y4, y5, y6⟩ := f2 b hb
    refine ⟨hn b hb, y2, y3, y4, y5, fun q hq => ?_⟩
    rcases List.mem_append.mp hq with hq | hq
    · exact y6 q (List.mem_append_left _ hq)
    · rcases List.mem_cons.mp hq with rfl | hq
      · exact notS b hb
      · exact y6 q (List.mem_append_right _ (List.mem_cons_of_mem _ hq))
  have ee : ∀ (n : Nat) (s₀ : Shared) (x : Value) (s' : Shared), X.xe x s' → Seg (model X.prog X.w) A R (GY X S) n s₀ (.forLoop tg (.ref it) body [] X.env)
      (Sem.bind (do noteFrame x X.env; theTreesLotGoes x : Sem Unit) fun _ => Sem.raise x)
      (.ret (fun r => ((match r with | .ok f => (.pure f : Sem Flow) | .error e => .raise e).onRaise (cameBack X.env)).wrap K J gd lv) none (gd false) (lv []) c p [] :: fs) s' := fun n s₀ x s' hx => by
    rw [show (Sem.bind (do noteFrame x X.env; theTreesLotGoes x : Sem Unit) fun _ => (Sem.raise x : Sem PySem.Fin)) = (do noteFrame x X.env; theTreesLotGoes x : Sem Unit).wrap (fun _ => .raise x) .raise id id from Sem.bind_eq_wrap' ..]
    refine seg_wrap ?_
    rw [(gl _).over]
    refine wpAny_bind (wpAny_mono (hp x s' hx) (fun _ s3 h3 => wpAny_theTreesLotGoes ?_) fun y s3 h3 => ?_)
    · exact seg_leaf (.error x) (seg_cameBack gc k h3)
    · exact seg_leaf (.error y) (seg_cameBack gc k h3)
  have loop : ∀ (m i n : Nat) (ys : List V) (s₀ s : Shared) (σ : St) (H : Hp) (acc : Array Value) (cc : Nat), n + ys.length = sizeLine → W i m ys σ H → Vals ys acc.toList → Inv X ((S, lstObj acc cc) :: ip) σ H s → tn i s.heap → (∀ b ∈ fp, H b = none) →
      Seg (model X.prog X.w) A R (GY X S) n s₀ (.forLoop tg (.ref it) body [] X.env) ((model X.prog X.w).den (.forLoop tg (.ref it) body [] X.env))
        (.ret (fun r => ((match r with | .ok f => (.pure f : Sem Flow) | .error e => .raise e).onRaise (cameBack X.env)).wrap K J gd lv) none (gd false) (lv []) c p [] :: fs) s := by
    intro m
    induction m using Nat.strongRecOn with
    | ind m ih =>
      intro i n ys s₀ s σ H acc cc hn w r I st fr
      show Seg _ A R _ n s₀ _ ((forTurn tg (.ref it) body [] X.env).onRaise (fun x => do noteFrame x X.env; theTreesLotGoes x)) _ s
      unfold forTurn
      rw [Sem.onRaise_eq_wrap]
      show Seg _ _ _ _ _ _ _ (.at tg.pos fun _ => Sem.wrap _ _ _ _ _) _ _
      refine seg_at ?_
      rcases turn i m ys σ H w with ⟨stop, qn⟩ | ⟨go, N, hN, step⟩
      · refine seg_bind_wrap ?_
        rw [(gl _).over]
        refine wpAny_pure ?_
        refine seg_bind_wrap ?_
        rw [(gl _).over]
        refine wpAny_onRaise (wpAny_mono (T.done X rfl rfl rfl hc i _ s σ H X.xe I (stat fr) st stop) (fun a s1 ⟨ha, I1⟩ => ?_) fun x s1 hx => wpAny_standAt ?_)
        · subst ha
          refine seg_again rfl ?_
          exact seg_leaf (.ok .next) (k.ok n ys s₀ s1 .next hn ⟨σ, H, ⟨acc, cc, r, I1⟩, qn⟩)
        · have := ee n s₀ x s1 hx
          exact this
      · refine seg_bind_wrap ?_
        rw [(gl _).over]
        refine wpAny_pure ?_
        refine seg_bind_wrap ?_
        rw [(gl _).over]
        refine wpAny_onRaise (wpAny_mono (T.item X rfl rfl rfl hc i _ s σ H X.xe I (stat fr) st go) (fun a s1 ⟨u, ha, h1⟩ => ?_) fun x s1 hx => wpAny_standAt ?_)
        · subst ha
          refine seg_bind_wrap ?_
          rw [(gl _).over]
          refine wpAny_mono h1 (fun _ s3 ⟨x, H3, I3, r3, y3, st3, fr3⟩ => ?_) fun x s3 hx => ee n s₀ x s3 hx
          have I3' := I3.pinned (stat fr3) (T.obj _ _ st3)
          refine seg_bind_wrap ?_
          rw [(gl _).over]
          refine wpAny_mono (hg.run _ s3 σ H3 x u _ I3' r3 (step x H3 y3)) (fun _ s4 ⟨σ4, H4, I4, q4⟩ => ?_) fun x s4 hx => ee n s₀ x s4 hx
          have gp : GC X S (ip ++ pinsAt fp s3.heap) A (.forLoop tg (.ref it) body [] X.env) (.ret (fun r => ((match r with | .ok f => (.pure f : Sem Flow) | .error e => .raise e).onRaise (cameBack X.env)).wrap K J gd lv) none (gd false) (lv []) c p [] :: fs) id :=
            { gl _ with ip := fun q hq => (List.mem_append.mp hq).elim (gc.ip q) fun z => Ne.symm (notS q.1 (of_pinsAt z).1) }
          rw [Sem.bind_eq_wrap', Sem.wrap_wrap]
          refine hb.run A S (ip ++ pinsAt fp s3.heap) R n ys s₀ _ _ _ _ id id s4 σ4 H4 { D with nx := N, ct := N, bk := D.nx } gp hn ⟨fun n' ys' s₀' s5 f hn' hs' => ?_, fun n' s₀' x s5 hx => ee n' s₀' x s5 hx⟩ ⟨acc, cc, r, I4⟩ q4
          have again : ∀ {σ5 : L2.St} {H5 : Hp}, GI X S (ip ++ pinsAt fp s3.heap) ys' σ5 H5 s5 → N ys' σ5 H5 → Seg (model X.prog X.w) A R (GY X S) n' s₀' (.forLoop tg (.ref it) body [] X.env) ((model X.prog X.w).den (.forLoop tg (.ref it) body [] X.env)) (.ret (fun r => ((match r with | .ok f => (.pure f : Sem Flow) | .error e => .raise e).onRaise (cameBack X.env)).wrap K J gd lv) none (gd false) (lv []) c p [] :: fs) s5 := fun {σ5 H5} ⟨acc5, cc5, r5, I5⟩ n5 => by
            obtain ⟨m', hm, w5⟩ := hN ys' σ5 H5 n5
            have I5' : Inv X (((S, lstObj acc5 cc5) :: ip) ++ pinsAt fp s3.heap) σ5 H5 s5 := I5
            refine ih m' hm (i + 1) n' ys' s₀' s5 σ5 H5 acc5 cc5 hn' w5 r5 I5'.unpinned (T.keep _ _ _ st3 fun b hb o e => (I5'.pin (b, o) (List.mem_append_right _ (List.mem_append_right _ (mem_pinsAt hb e)))).1) fun b hb => ?_
            obtain ⟨o, e, _⟩ := T.obj _ _ st3 b hb
            exact (I5'.pin (b, o) (List.mem_append_right _ (List.mem_append_right _ (mem_pinsAt hb e)))).2.1
          have un : ∀ {σ5 : L2.St} {H5 : Hp}, GI X S (ip ++ pinsAt fp s3.heap) ys' σ5 H5 s5 → GI X S ip ys' σ5 H5 s5 := fun {σ5 H5} ⟨acc5, cc5, r5, I5⟩ => ⟨acc5, cc5, r5, (show Inv X (((S, lstObj acc5 cc5) :: ip) ++ pinsAt fp s3.heap) σ5 H5 s5 from I5).unpinned⟩
          cases f with
          | next => obtain ⟨σ5, H5, I5, n5⟩ := hs'; exact seg_again rfl (again I5 n5)
          | cont => obtain ⟨σ5, H5, I5, n5⟩ := hs'; exact seg_again rfl (again I5 n5)
          | brk => obtain ⟨σ5, H5, I5, n5⟩ := hs'; exact seg_leaf (.ok .next) (k.ok n' ys' s₀' s5 .next hn' ⟨σ5, H5, un I5, n5⟩)
          | ret v => obtain ⟨v5, σ5, H5, I5, rv5, n5⟩ := hs'; exact seg_leaf (.ok (.ret v)) (k.ok n' ys' s₀' s5 (.ret v) hn' ⟨v5, σ5, H5, un I5, rv5, n5⟩)
        · have := ee n s₀ x s1 hx
          exact this
  exact loop m0 0 n ys s₀ s2 σ H2 acc cc hn w0 r I2 st2 fun b hb => (f2 b hb).1
end
end L2

namespace L2
open PySem PySem.Spec PyProof.Rows GenW
/-! ### a generator up to its first item: «for x in g(..)» whose body leaves the loop at once -/
abbrev TF := VK → Ends → St → Hp → Prop
/-- the first item: its value, the heap -/
def FY (X : Cx) (yl : VK) : Protocol := fun _ _ v s _ => ∃ x ip σ H, RelV x v ∧ Inv X ip σ H s ∧ yl x H
abbrev FSeg (X : Cx) (A : Around) (R : GenEnd) (yl : VK) (s₀ : Shared) (c : Code) (t : Sem PySem.Fin) (fs : List Frame) (s : Shared) : Prop := Seg (model X.prog X.w) A R (FY X yl) 1 s₀ c t fs s
structure FC (X : Cx) (A : Around) (c : Code) (fs : List Frame) (gd : Bool → Bool) : Prop where
  ov : A.over c fs = X.A
  sp : splitAtGen fs = none
  gu : fs.any Frame.guarded = false
  g0 : gd false = false
structure FK (X : Cx) (ip : List (Addr × Obj)) (A : Around) (R : GenEnd) (yl : VK) (c : Code) (fs : List Frame) (K : Flow → Sem PySem.Fin) (J : Value → Sem PySem.Fin) (D : Ends) : Prop where
  on : ∀ (s₀ s : Shared) (f : Flow), SP X ip D f s → FSeg X A R yl s₀ c (K f) fs s
  ex : ∀ (s₀ : Shared) (e : Value) (s : Shared), X.xe e s → FSeg X A R yl s₀ c (J e) fs s
structure GF (X : Cx) (st : Stmt) (t : TF) : Prop where
  go : ∀ {A : Around} {ip : List (Addr × Obj)} {R : GenEnd} {c : Code} {fs : List Frame} {K : Flow → Sem PySem.Fin} {J : Value → Sem PySem.Fin} {gd : Bool → Bool} {lv : List Value → List Value} {s₀ s : Shared} {σ : St} {H : Hp} {yl : VK} {D : Ends},
    FC X A c fs gd → FK X ip A R yl c fs K J D → Inv X ip σ H s → t yl D σ H → FSeg X A R yl s₀ c ((exec st X.env).wrap K J gd lv) fs s
structure GFs (X : Cx) (sts : List Stmt) (t : TF) : Prop where
  go : ∀ {A : Around} {ip : List (Addr × Obj)} {R : GenEnd} {c : Code} {fs : List Frame} {K : Flow → Sem PySem.Fin} {J : Value → Sem PySem.Fin} {gd : Bool → Bool} {lv : List Value → List Value} {s₀ s : Shared} {σ : St} {H : Hp} {yl : VK} {D : Ends},
    FC X A c fs gd → FK X ip A R yl c fs K J D → Inv X ip σ H s → t yl D σ H → FSeg X A R yl s₀ c ((execs sts X.env).wrap K J gd lv) fs s
section
variable {X : Cx}
def tFP (t : TS) : TF := fun _ D σ H => t D σ H
theorem gf_ps {st : Stmt} {t : TS} (p : PS X st t) : GF X st (tFP t) where
  go := fun g k I q => by
    refine seg_wrap ?_
    rw [g.ov]
    exact wpAny_mono (p.run _ _ _ _ _ I q) (fun f s' z => k.on _ s' f z) fun e s' z => k.ex _ e s' z
def tF0 : TF := fun _ D σ H => D.nx σ H
theorem gfs_nil : GFs X [] tF0 where
  go := fun g k I q => seg_execs_nil (k.on _ _ .next ⟨_, _, I, q⟩)
def tFC (t u : TF) : TF := fun yl D σ H => t yl { D with nx := fun σ' H' => u yl D σ' H' } σ H
theorem gfs_cons {st : Stmt} {sts : List Stmt} {t u : TF} (a : GF X st t) (b : GFs X sts u) : GFs X (st :: sts) (tFC t u) where
  go := fun {A ip R c fs K J gd lv s₀ s σ H yl D} g k I q => by
    refine seg_execs_cons (a.go (D := { D with nx := fun σ' H' => u yl D σ' H' }) g ⟨fun s1 s2 f z => ?_, k.ex⟩ I q)
    cases f with
    | next =>
      obtain ⟨σ', H', I', z⟩ := z
      exact b.go g k I' z
    | brk => exact k.on s1 s2 .brk z
    | cont => exact k.on s1 s2 .cont z
    | ret u => exact k.on s1 s2 (.ret u) z
def tFY (te : TE) : TF := fun yl _ σ H => te σ H yl
theorem gf_yield {e : Expr} {yp pos : Pos} {te : TE} (he : PE X e te) (hco : X.env.scope.isCoroutine = false := by rfl) (hi : interactive X.env = false := by rfl) : GF X (.Expr (.Yield (some e) yp) pos) (tFY te) where
  go := fun {A ip R c fs K J gd lv s₀ s σ H yl D} g k I q => by
    refine seg_Expr_Yield (n := 0) g.sp g.g0 g.gu ?_ hco hi
    rw [g.ov]
    refine wpAny_mono (he.run _ s σ H _ I q) (fun v s' ⟨x, H1, I1, rv, z⟩ => ?_) fun e s' z => k.ex _ e s' z
    exact fun _ _ => ⟨x, ip, σ, H1, rv, I1, z⟩
def tFIf (c : TT) (t u : TF) : TF := fun yl D σ H => c σ H fun b H1 => if b = true then t yl D σ H1 else u yl D σ H1
theorem gf_if {test : Expr} {a b : List Stmt} {pos : Pos} {tc : TT} {t u : TF} (hc : PT X test tc) (ha : GFs X a t) (hb : GFs X b u) : GF X (.If test a b pos) (tFIf tc t u) where
  go := fun {A ip R c fs K J gd lv s₀ s σ H yl D} g k I q => by
    rw [exec_If]
    refine seg_at (k := fun _ => (isTrue test X.env (eval test X.env) >>= fun d => if d = true then execs a X.env else execs b X.env).wrap K J gd lv) (seg_bind_wrap ?_)
    rw [g.ov]
    refine wpAny_mono (hc.run _ s σ H _ I q) (fun d s1 ⟨H1, I1, z⟩ => ?_) fun e s1 z => k.ex _ e s1 z
    cases d with
    | true => exact ha.go g k I1 z
    | false => exact hb.go g k I1 z
/-! the loop -/
theorem fc_loop {A : Around} {c c' : Code} {fs : List Frame} {gd : Bool → Bool} {k : Result → Sem PySem.Fin} {l kp : List Value} {p : Pos} (g : FC X A c fs gd) (hw : c'.weight = 0) (hu : c'.cUnits = 0) : FC X A c' (.ret k none (gd false) l c p kp :: fs) id :=
  ⟨(over_loop hw hu).trans g.ov, (show (splitAtGen fs).map _ = none by rw [g.sp]; rfl), (show (gd false || fs.any Frame.guarded) = false by rw [g.g0, g.gu]; rfl), rfl⟩
theorem fseg_back {ip : List (Addr × Obj)} {A : Around} {R : GenEnd} {yl : VK} {c : Code} {fs : List Frame} {K : Flow → Sem PySem.Fin} {J : Value → Sem PySem.Fin} {gd : Bool → Bool} {lv : List Value → List Value} {D : Ends} {s₀ s : Shared} {e : Value}
    (g : FC X A c fs gd) (k : FK X ip A R yl c fs K J D) (h : cameBackBy (model X.prog X.w) X.A X.env X.xe e s) : FSeg X A R yl s₀ c (((Sem.raise e : Sem Flow).onRaise (cameBack X.env)).wrap K J gd lv) fs s := by
  refine (show FSeg X A R yl s₀ c (((cameBack X.env e).bind fun _ => (Sem.raise e : Sem Flow)).wrap K J gd lv) fs s from ?_)
  rw [Sem.bind_eq_wrap, Sem.wrap_wrap]
  refine seg_wrap ?_
  rw [g.ov]
  exact wpAny_mono h (fun _ s' z => k.ex _ e s' z) fun e' s' z => k.ex _ e' s' z
abbrev loopBack (X : Cx) (K : Flow → Sem PySem.Fin) (J : Value → Sem PySem.Fin) (gd : Bool → Bool) (lv : List Value → List Value) : Result → Sem PySem.Fin := fun r => ((match r with | .ok f => (.pure f : Sem Flow) | .error e => .raise e).onRaise (cameBack X.env)).wrap K J gd lv
def tFFor (wi : TI) (g : TG) (tb : TF) : TF := fun yl D σ H => wi σ H fun J H1 => ∃ W : Nat → Nat → St → Hp → Prop, (∃ m, W 0 m σ H1) ∧ ∀ i m σ H, W i m σ H →
  (J.stop i H ∧ D.nx σ H) ∨ (J.go i H ∧ ∃ N : St → Hp → Prop, (∀ σ' H', N σ' H' → ∃ m', m' < m ∧ W (i + 1) m' σ' H') ∧ ∀ x H', J.yld i H x H' → g x σ H' fun σ2 H2 => tb yl { D with nx := N, ct := N, bk := D.nx } σ2 H2)
theorem gf_for {tg iter : Expr} {body : List Stmt} {pos : Pos} {wi : TI} {g : TG} {tb : TF} (hp : PassesOwn (model X.prog X.w) X.A X.env X.xe) (hc : X.calm = true) (hi : PI X tg iter wi) (hg : PG X tg g) (hb : GFs X body tb)
    (hs : ∀ x, foldedSetIterable iter X.env x = pure x := by intro _; rfl) : GF X (.For tg iter body [] pos) (tFFor wi g tb) where
  go := fun {A ip R c fs K J gd lv s₀ s σ H yl D} gc k I q => by
    rw [exec_For]
    refine seg_at (k := fun _ => ((eval iter X.env >>= fun v => foldedSetIterable iter X.env v >>= fun x => (standAt iter.pos >>= fun _ => (holding [x] (pyIter x) >>= fun it => runOwn (.forLoop tg it body [] X.env) X.env))).wrap K J gd lv)) (seg_bind_wrap ?_)
    rw [gc.ov]
    refine wpAny_mono (hi.run _ s σ H _ I q) (fun v s1 h1 => ?_) fun e s1 z => k.ex _ e s1 z
    rw [hs v]
    refine seg_at (k := fun _ => ((holding [v] (pyIter v) >>= fun it => runOwn (.forLoop tg it body [] X.env) X.env).wrap K J gd lv)) (seg_bind_wrap (wpAny_holding ?_))
    rw [gc.ov]
    refine wpAny_mono h1 (fun itv s2 h2 => ?_) fun e s1 z => k.ex _ e s1 z
    obtain ⟨it, fp, tn, Jt, H2, rfl, I2, T, st2, f2, W, ⟨m0, w0⟩, turn⟩ := h2
    refine seg_call fun p => ?_
    have gl := fc_loop (k := loopBack X K J gd lv) (c' := .forLoop tg (.ref it) body [] X.env) (l := lv []) (kp := []) (p := p) gc rfl rfl
    have stat : ∀ {H' : Hp}, (∀ b ∈ fp, H' b = none) → ∀ b ∈ fp, FpOk X ip H' b := fun z b hb => ⟨z b hb, (f2 b hb).2⟩
    have bad : ∀ (s₀ : Shared) (x : Value) (s' : Shared), X.xe x s' → FSeg X A R yl s₀ (.forLoop tg (.ref it) body [] X.env) (Sem.bind (do noteFrame x X.env; theTreesLotGoes x : Sem Unit) fun _ => Sem.raise x) (.ret (loopBack X K J gd lv) none (gd false) (lv []) c p [] :: fs) s' := fun s₀ x s' hx => by
      rw [show (Sem.bind (do noteFrame x X.env; theTreesLotGoes x : Sem Unit) fun _ => (Sem.raise x : Sem PySem.Fin)) = (do noteFrame x X.env; theTreesLotGoes x : Sem Unit).wrap (fun _ => .raise x) .raise id id from Sem.bind_eq_wrap' ..]
      refine seg_wrap ?_
      rw [gl.ov]
      exact wpAny_bind (wpAny_mono (hp x s' hx) (fun _ s3 z => wpAny_theTreesLotGoes (seg_leaf (.error x) (fseg_back gc k z))) fun y s3 z => seg_leaf (.error y) (fseg_back gc k z))
    have loop : ∀ (m i : Nat) (s₀ s : Shared) (σ : St) (H : Hp), W i m σ H → Inv X ip σ H s → tn i s.heap → (∀ b ∈ fp, H b = none) →
        FSeg X A R yl s₀ (.forLoop tg (.ref it) body [] X.env) ((model X.prog X.w).den (.forLoop tg (.ref it) body [] X.env)) (.ret (loopBack X K J gd lv) none (gd false) (lv []) c p [] :: fs) s := by
      intro m
      induction m using Nat.strongRecOn with
      | ind m ih =>
        intro i s₀ s σ H w I st fr
        show Seg _ A R _ 1 s₀ _ ((forTurn tg (.ref it) body [] X.env).onRaise (fun x => do noteFrame x X.env; theTreesLotGoes x)) _ s
        unfold forTurn
        rw [Sem.onRaise_eq_wrap]
        show Seg _ _ _ _ _ _ _ (.at tg.pos fun _ => Sem.wrap _ _ _ _ _) _ _
        refine seg_at ?_
        rcases turn i m σ H w with ⟨stop, qn⟩ | ⟨go, N, hN, step⟩
        · refine seg_bind_wrap ?_
          rw [gl.ov]
          refine wpAny_pure (seg_bind_wrap ?_)
          rw [gl.ov]
          refine wpAny_onRaise (wpAny_mono (T.done X rfl rfl rfl hc i _ s σ H X.xe I (stat fr) st stop) (fun a s1 ⟨ha, I1⟩ => ?_) fun x s1 hx => wpAny_standAt ?_)
          · subst ha
            exact seg_again rfl (seg_leaf (.ok .next) (k.on s₀ s1 .next ⟨σ, H, I1, qn⟩))
          · have := bad s₀ x s1 hx
            exact this
        · refine seg_bind_wrap ?_
          rw [gl.ov]
          refine wpAny_pure (seg_bind_wrap ?_)
          rw [gl.ov]
          refine wpAny_onRaise (wpAny_mono (T.item X rfl rfl rfl hc i _ s σ H X.xe I (stat fr) st go) (fun a s1 ⟨u, ha, h1⟩ => ?_) fun x s1 hx => wpAny_standAt ?_)
          · subst ha
            refine seg_bind_wrap ?_
            rw [gl.ov]
            refine wpAny_mono h1 (fun _ s3 ⟨x, H3, I3, r3, y3, st3, fr3⟩ => ?_) fun x s3 hx => bad s₀ x s3 hx
            have I3' := I3.pinned (stat fr3) (T.obj _ _ st3)
            refine seg_bind_wrap ?_
            rw [gl.ov]
            refine wpAny_mono (hg.run _ s3 σ H3 x u _ I3' r3 (step x H3 y3)) (fun _ s4 ⟨σ4, H4, I4, q4⟩ => ?_) fun x s4 hx => bad s₀ x s4 hx
            rw [Sem.bind_eq_wrap', Sem.wrap_wrap]
            refine hb.go (ip := ip ++ pinsAt fp s3.heap) (D := { D with nx := N, ct := N, bk := D.nx }) (gd := id) (lv := id) gl ⟨fun s₀' s5 f hs' => ?_, fun s₀' x s5 hx => bad s₀' x s5 hx⟩ I4 q4
            have again : ∀ {σ5 : L2.St} {H5 : Hp}, Inv X (ip ++ pinsAt fp s3.heap) σ5 H5 s5 → N σ5 H5 → FSeg X A R yl s₀' (.forLoop tg (.ref it) body [] X.env) ((model X.prog X.w).den (.forLoop tg (.ref it) body [] X.env)) (.ret (loopBack X K J gd lv) none (gd false) (lv []) c p [] :: fs) s5 := fun {σ5 H5} I5 n5 => by
              obtain ⟨m', hm, w5⟩ := hN σ5 H5 n5
              have at5 : ∀ b ∈ fp, ∀ o, s3.heap.get? b = some o → s5.heap.get? b = some o ∧ H5 b = none := fun b hb o e => by
                have z := I5.pin (b, o) (List.mem_append_right _ (List.mem_append_right _ (mem_pinsAt hb e)))
                exact ⟨z.1, z.2.1⟩
              refine ih m' hm (i + 1) s₀' s5 σ5 H5 w5 I5.unpinned (T.keep _ _ _ st3 fun b hb o e => (at5 b hb o e).1) fun b hb => ?_
              obtain ⟨o, e, _⟩ := T.obj _ _ st3 b hb
              exact (at5 b hb o e).2
            cases f with
            | next => obtain ⟨σ5, H5, I5, n5⟩ := hs'; exact seg_again rfl (again I5 n5)
            | cont => obtain ⟨σ5, H5, I5, n5⟩ := hs'; exact seg_again rfl (again I5 n5)
            | brk => obtain ⟨σ5, H5, I5, n5⟩ := hs'; exact seg_leaf (.ok .next) (k.on s₀' s5 .next ⟨σ5, H5, I5.unpinned, n5⟩)
            | ret v => obtain ⟨v5, σ5, H5, I5, rv5, n5⟩ := hs'; exact seg_leaf (.ok (.ret v)) (k.on s₀' s5 (.ret v) ⟨v5, σ5, H5, I5.unpinned, rv5, n5⟩)
          · have := bad s₀ x s1 hx
            exact this
    exact loop m0 0 _ s2 σ H2 w0 I2 st2 fun b hb => (f2 b hb).1
end
end L2

namespace L2
open PySem PySem.Spec PyProof.Rows GenW
/-! ### a call of a generator def, and the loop that leaves at its first item -/
abbrev SpF := List V → Hp → VK → (Hp → Prop) → Prop
/-- seen from the call -/
structure FLike (P : Program) (w : World) (outer : List Env) (H : Hp) (s : Shared) (H' : Hp) (s1 : Shared) : Prop where
  os : s1.os = s.os
  bare : AllBare s1.gens
  un : Un (frs outer) [] H H' s.heap s1.heap
  hok : HOk P w H' s1.heap
def FEnd (P : Program) (w : World) (outer : List Env) (H : Hp) (s : Shared) (En : Hp → Prop) : GenEnd := fun _ _ r s1 => (r = .ok (.ret .none) ∨ r = .ok .next) ∧ ∃ H', FLike P w outer H s H' s1 ∧ En H'
def FItem (P : Program) (w : World) (outer : List Env) (H : Hp) (s : Shared) (Yl : VK) : Protocol := fun _ _ v s1 _ => ∃ x H', RelV x v ∧ FLike P w outer H s H' s1 ∧ Yl x H'
structure FMade (P : Program) (w : World) (k : Nat) (outer : List Env) (H : Hp) (s : Shared) (Yl : VK) (En : Hp → Prop) (a : Addr) (g : Nat) (c : Code) (s' : Shared) : Prop where
  gen : s'.heap.IsGen a g
  fr : s'.gens[g]? = some (.fresh c)
  os : s'.os = s.os
  bare : AllBare s'.gens
  lim : s'.heap.NoLimit
  wake : ∀ {A : Around} {s2 : Shared}, Room k A → A.frames = some outer → (∀ b o, s'.heap.get? b = some o → s2.heap.get? b = some o) → s2.os = s.os → AllBare s2.gens →
      Seg (model P w) A (FEnd P w outer H s En) (FItem P w outer H s Yl) 1 s2 c ((model P w).den c) [] s2
structure GFnF (P : Program) (w : World) (K : PySem.W.Frag) (mg : Str → Option Value) (base : Heap) (k : Nat) (f : Addr) (fd : FuncData) (ps : List Str) (sp : SpF) : Prop where
  len : ∀ vs H Yl En, sp vs H Yl En → vs.length = ps.length
  run : ∀ {A : Around} {outer : List Env} {s : Shared} {H : Hp} {args : Args} {us : List Value} {vs : List V} {Yl : VK} {En : Hp → Prop}, Room k A → Env0 P w K mg base A outer s H → BindsTo s fd args (ps.zip us) → Vals vs us → sp vs H Yl En →
    codeAny (model P w) A (.call (.ref f) args) (fun r s' => match r with | .ok (.ret u) => ∃ a g c, u = .ref a ∧ FMade P w k outer H s Yl En a g c s' | _ => False) s
section
variable {P : Program} {w : World} {K : PySem.W.Frag} {mg : Str → Option Value} {base : Heap}
theorem no_E0 {outer : List Env} {H : Hp} {s s' : Shared} {e : Value} (c : L2.CX P w outer H s E0 e s') : False := by
  obtain ⟨_, _, _, _, _, _, _, _, _, _, _, _, z⟩ := c
  exact z
theorem Fun.genF {x qual : Str} {st : Stmt} {f : Addr} {fd : FuncData} {N ps : List Str} {k : Nat} {sp : SpF} (F : Fun K x qual st f fd) (S : GScope N ps (defScope st)) (len : ∀ vs H Yl En, sp vs H Yl En → vs.length = ps.length)
    (body : ∀ (cdv : Value) (A : Around) (outer : List Env) (s : Shared) (H : Hp) (vs : List V) (Yl : VK) (En : Hp → Prop), Room k (A.deeper (envOfC qual (defScope st) s.heap.objs.size f cdv)) → sp vs H Yl En →
      ∃ t, GFs (gcxOf P w K mg base N qual (defScope st) f cdv A outer s H E0 []) (defBody st) t ∧ t Yl { nx := fun _ H' => En H', rt := fun v H' => v = .non ∧ En H' } (start N vs) H) :
    GFnF P w K mg base (k + 1) f fd ps sp := by
  obtain ⟨oc, od, kV, doc, pm, an, cdv, ct, osl, rfl, lk, hcd⟩ := F.ex
  refine ⟨len, fun {A outer s H args us vs Yl En} hr e0 hb r hsp => ?_⟩
  have kk : ∀ b o, base.get? b = some o → s.heap.get? b = some o := fun b o e => (e0.bs b o e).1
  have kin : K.In s.heap := e0.mod.kin.keeps kk
  have slots : ∀ y ∈ ps.zip us, (defScope st).names.lookup y.1 = some .local ∨ ((defScope st).names.lookup y.1 = some .cell ∧ ((cellsFrom (s.heap.objs.size + 1) (defScope st).names []).lookup y.1).isSome = true) := fun ⟨n, v⟩ hy =>
    (S.par n (List.of_mem_zip hy).1).imp id fun q => ⟨q, PySem.W.cellsFrom_some _ _ _ (.inl q)⟩
  refine codeAny_call_generator hr.depth (kin _ _ lk) rfl S.co S.gen rfl (PySem.W.codeRec_of kin hcd) (hb _ _ _ _ (wpAny_newFunctionEnv_cells S.kind slots fun env he s1 x => ?_))
  subst he
  have keep1 := x.toInCall.keep
  have lim1 : s1.heap.NoLimit := (e0.mod.nolimit.keeps kk).keeps keep1
  refine ⟨lim1, ?_⟩
  obtain ⟨h1, tk, es1, hk1⟩ := x.done
  have os1 : s1.os = s.os := by rw [es1]
  have bare1 : AllBare s1.gens := by rw [es1]; exact e0.bare
  have made : ∀ (go : Obj) (nm qn : Value) (tk2 : Nat), go.cls = .type "generator" → go.data = .fields #[.int s1.gens.size 0, nm, qn] → go.slots = #[] → (∀ h : Heap, (h.push go).get? h.objs.size = some go) →
      FMade P w (k + 1) outer H s Yl En s1.heap.objs.size s1.gens.size (.func (defBody st) (envOfC qual (defScope st) s.heap.objs.size f cdv)) { s1 with gens := s1.gens.push (.fresh (.func (defBody st) (envOfC qual (defScope st) s.heap.objs.size f cdv))), toks := tk2, heap := s1.heap.push go } := by
    intro go nm qn tk2 c1 c2 c3 pushed
    refine ⟨⟨go, nm, qn, pushed _, c1, c2, c3⟩, Array.getElem?_push_size .., os1, AllBare.push bare1 rfl, lim1.keeps fun b o e => Heap.get?_push_of_some _ e, fun {Aw s2} room frames keep2 os2 bare2 => ?_⟩
    have e1 : Env0 P w K mg base Aw outer s H := ⟨frames, e0.mod, e0.bs, e0.bsz, e0.funs, e0.frf, e0.hok, e0.bare⟩
    obtain ⟨t, ht, hq⟩ := body cdv Aw outer s H vs Yl En (room.deeper _) hsp
    have I1 : Inv (gcxOf P w K mg base N qual (defScope st) f cdv Aw outer s H E0 []) [] (start N vs) H s1 := inv_startG S room.hd e1 (len _ _ _ _ hsp) r x
    have keep12 : ∀ b o, s1.heap.get? b = some o → s2.heap.get? b = some o := fun b o e => keep2 b o (Heap.get?_push_of_some _ e)
    have I2 := I1.call' (s' := s2) (ch := []) (os2.trans os1.symm) (Un.kept keep12) (I1.hok.kept keep12) bare2 fun b z => nomatch z
    have like : ∀ {ip : List (Addr × Obj)} {σ : L2.St} {H' : Hp} {s' : Shared}, Inv (gcxOf P w K mg base N qual (defScope st) f cdv Aw outer s H E0 []) ip σ H' s' → FLike P w outer H s H' s' := fun I => ⟨I.os, I.bare, I.base, I.hok⟩
    refine seg_func (seg_imp (R := fun _ _ r s' => match r with
      | .ok (.ret u) => ∃ v σ H', Inv (gcxOf P w K mg base N qual (defScope st) f cdv Aw outer s H E0 []) [] σ H' s' ∧ RelV v u ∧ v = .non ∧ En H'
      | _ => False) (Y := FY (gcxOf P w K mg base N qual (defScope st) f cdv Aw outer s H E0 []) Yl) (fun n s₀ r s' z => ?_) (fun n s₀ v s' _ _ _ ⟨x, ip, σ, H', rv, I, z⟩ => ⟨x, H', rv, like I, z⟩) 1 ?_)
    · cases r with
      | error e => exact z.elim
      | ok fl =>
        cases fl with
        | next => exact z.elim
        | brk => exact z.elim
        | cont => exact z.elim
        | ret u =>
          obtain ⟨v, σ, H', I, rv, rfl, q⟩ := z
          obtain rfl : u = Value.none := rv
          exact ⟨.inl rfl, H', like I, q⟩
    · refine ht.go (gd := id) (lv := id) ⟨over_func, rfl, rfl, rfl⟩ ⟨fun s₀ s' fl z => ?_, fun s₀ e s' z => ?_⟩ I2 hq
      · cases fl with
        | next => obtain ⟨σ', H', I, q⟩ := z; exact seg_end (.ok (.ret .none)) ⟨.non, σ', H', I, rfl, rfl, q⟩
        | brk => obtain ⟨_, _, _, q⟩ := z; exact q.elim
        | cont => obtain ⟨_, _, _, q⟩ := z; exact q.elim
        | ret u => obtain ⟨v, σ', H', I, rv, q⟩ := z; exact seg_end (.ok (.ret u)) ⟨v, σ', H', I, rv, q⟩
      · refine seg_wrap ?_
        rw [over_func]
        exact wpAny_mono (show wpAny (model P w) (Aw.deeper (envOfC qual (defScope st) s.heap.objs.size f cdv)) (leaving (envOfC qual (defScope st) s.heap.objs.size f cdv) e) (fun _ s'' => L2.CX P w outer H s E0 e s'' ∧ ∀ p ∈ ([] : List (Addr × Obj)), s''.heap.get? p.1 = some p.2) (fun _ _ => False) s' from z) (fun _ s'' q => (no_E0 q.1).elim) fun _ s'' q => q.elim
  exact ⟨_, _, _, rfl, made _ _ _ _ rfl rfl rfl fun h => Heap.get?_push_size _ rfl⟩
end
section
variable {X : Cx} {k : Nat}
abbrev TGenF := L2.St → Hp → VK → (Hp → Prop) → Prop
structure PGenF (X : Cx) (k : Nat) (e : Expr) (tg : TGenF) : Prop where
  run : ∀ {pins : List (Addr × Obj)} {s : Shared} {σ : L2.St} {H : Hp} {Yl : VK} {En : Hp → Prop}, Inv X pins σ H s → tg σ H Yl En → wpAny (model X.prog X.w) X.A (eval e X.env)
    (fun u s' => ∃ H1 sc a g c, Inv X pins σ H1 sc ∧ u = .ref a ∧ FMade X.prog X.w k X.stack H1 sc Yl En a g c s') X.xe s
def tCallF (sp : SpF) (t : TA) : TGenF := fun σ H Yl En => t σ H fun vs H1 => sp vs H1 Yl En
theorem pgenF_call {f : Addr} {fd : FuncData} {ps : List Str} {sp : SpF} {x : Str} {p pos : Pos} {t : TA} {e : Expr} {es : List Expr} (F : GFnF X.prog X.w X.K X.mg X.base k f fd ps sp) (hr : Room k X.A) (hg : Gl X x) (hm : X.mg x = some (.ref f)) (hk : PySem.W.keepIn X.K (.ref f) = true) (hb : Binds X.K fd ps [])
    (ha : PA X (e :: es) t) (hdb : (x == ("__debug__" : Str)) = false := by decide) (he : starEach (e :: es) X.env = (false, eval e X.env) :: starEach es X.env := by rfl) (hpl : (backTo pos (starEach es X.env)).any (·.1) = false := by rfl) :
    PGenF X k (.Call (.Name x p) (e :: es) [] pos) (tCallF sp t) where
  run := fun {pins s σ H Yl En} I h => by
    refine wpAny_Call_Name_kw (ld_glob I hg hm (PySem.W.callWith_K (h₀ := X.base) I.ok.mod.kin hk (thn (ha.run pos pins s σ H _ I h) fun us s1 ⟨vs, H1, I1, r, q⟩ => ⟨I1.kIn, ?_⟩) he hpl) hdb)
    have hl : us.length = ps.length := r.length.symm.trans (F.len _ _ _ _ q)
    have bd := hb s1 us I1.kIn (by rw [List.append_nil]; exact hl)
    rw [List.append_nil] at bd
    refine wpAny_call (codeAny_mono (F.run hr I1.env0 bd r q) fun r s' z => ?_)
    cases r with
    | error e => exact z.elim
    | ok fl =>
      cases fl with
      | ret u => obtain ⟨a, g, c, rfl, m⟩ := z; exact ⟨H1, s1, a, g, c, I1, rfl, m⟩
      | next => exact z.elim
      | brk => exact z.elim
      | cont => exact z.elim
theorem seg_orF {M : Model} {A : Around} {R : GenEnd} {P : Program} {w : World} {outer : List Env} {H : Hp} {s s₀ s' : Shared} {Yl : VK} {n : Nat} {c : Code} {t : Sem PySem.Fin} {fs : List Frame} (h : Seg M A R (FItem P w outer H s Yl) n s₀ c t fs s') :
    Seg M A (fun n s₀ r s => R n s₀ r s ∨ ∃ e, r = .error e ∧ False) (FItem P w outer H s Yl) n s₀ c t fs s' := seg_imp (Y := FItem P w outer H s Yl) (Y' := FItem P w outer H s Yl) (fun _ _ _ _ z => .inl z) (fun _ _ _ _ _ _ _ z => z) n h
def tForF (tg : TGenF) (g : TG) (tb : TS) : TS := fun D σ H => tg σ H (fun x H' => g x σ H' fun σ2 H2 => tb { D with nx := fun _ _ => False, ct := fun _ _ => False, bk := D.nx } σ2 H2) fun H' => D.nx σ H'
theorem ps_forF {x : Str} {p : Pos} {iter : Expr} {body : List Stmt} {pos : Pos} {tg : TGenF} {g : TG} {tb : TS} (hp : PassesOwn (model X.prog X.w) X.A X.env X.xe) (hc : X.calm = true) (hi : PGenF X k iter tg) (hr : Room (k + 1) X.A) (hg : PG X (.Name x p) g) (hb : PSs X body tb)
    (hs : ∀ x, foldedSetIterable iter X.env x = pure x := by intro _; rfl) : PS X (.For (.Name x p) iter body [] pos) (tForF tg g tb) := by
  refine ⟨fun pins s σ H D I h => wpAny_For (thn (hi.run I h) fun v s1 ⟨H1, sc, a, gi, c, I1, ev, m⟩ => ?_) hs⟩
  subst ev
  refine wpAny_pyIter_gen m.gen (codeAny_forLoop_any (fun n s' => n = 0 ∧ s' = s1) ?_ 0 ⟨rfl, rfl⟩)
  rintro n s3 ⟨rfl, rfl⟩
  have back : ∀ {H' : Hp} {s' s'' : Shared}, FLike X.prog X.w X.stack H1 sc H' s' → s''.os = s'.os → AllBare s''.gens → (∀ b o, s'.heap.get? b = some o → s''.heap.get? b = some o) → Inv X pins σ H' s'' := fun {H' s' s''} f o bs kp =>
    I1.call' (s' := s'') (ch := []) (o.trans f.os) (f.un.trans (Un.kept kp)) (f.hok.kept kp) bs fun b z => nomatch z
  have d1 : X.A.depth < recursionLimit := by have := hr.dp; omega
  have room1 : Room k X.A.in1 := ⟨hr.hd, by have := hr.dp; show X.A.depth + 3 * k + 5 < _; omega, by have := hr.un; show X.A.units + 1 + 16 * k + 200 < _; omega⟩
  refine wpAny_passesOwn hp (next_genG (n := 1) (Y := FItem X.prog X.w X.stack H1 sc fun x H' => g x σ H' fun σ2 H2 => tb { D with nx := fun _ _ => False, ct := fun _ _ => False, bk := D.nx } σ2 H2) (F := fun _ _ s' => ∃ H', FLike X.prog X.w X.stack H1 sc H' s' ∧ D.nx σ H') (Er := fun _ _ => False) (I1.ok.hd hc) m.lim d1 m.gen m.fr ⟨rfl, ?_⟩ (fun v s4 gs' b z => ?_) (fun s4 z h' kp => ?_) fun e s4 z => z.elim)
  · exact seg_orF (m.wake (s2 := s3.setGen gi .running) room1 I1.ok.frames (fun b o e => e) m.os (allBare_setGen m.bare rfl))
  · obtain ⟨y, H', rv, f, q⟩ := z
    have I5 := back f (s'' := s4.setGen gi gs') rfl (allBare_setGen f.bare b) (fun b o e => e)
    refine wpAny_passesOwn hp (show wpAny _ _ (letOwnedTupleGo (.Name x p) (.ref a) v) _ _ _ from ?_)
    unfold letOwnedTupleGo
    refine wpAny_pure (wpAny_passesOwn hp (thn (hg.run _ _ σ H' y v _ I5 rv q) fun _ s6 ⟨σ6, H6, I6, q6⟩ => wpAny_passesOwn hp (thn (hb.run _ s6 σ6 H6 _ I6 q6) fun fl s7 q7 => ?_)))
    cases fl with
    | next => obtain ⟨_, _, _, z⟩ := q7; exact z.elim
    | cont => obtain ⟨_, _, _, z⟩ := q7; exact z.elim
    | brk => obtain ⟨σ7, H7, I7, z⟩ := q7; exact ⟨σ7, H7, I7, z⟩
    | ret v => exact q7
  · obtain ⟨H', f, q⟩ := z
    exact wpAny_execs_nil ⟨σ, H', back f (s'' := { s4.setGen gi .finished with heap := h' }) rfl (allBare_setGen f.bare rfl) kp, q⟩
end
end L2

namespace L2
open PySem PySem.Spec PyProof.Rows GenW
/-! ### a dict that is locked while a generator walks it -/
section
variable {X : Cx} {st : Stmt}
def tGLock (t : TGn) : TGn := fun D ys σ H => ∃ d u, H d = some u ∧ Mut (some u) ∧ ∀ od, t { nx := fun ys' σ' H' => H' d = some (.frz od u) ∧ D.nx ys' σ' (upd H' d u), rt := fun ys' v H' => H' d = some (.frz od u) ∧ D.rt ys' v (upd H' d u), bk := fun ys' σ' H' => H' d = some (.frz od u) ∧ D.bk ys' σ' (upd H' d u), ct := fun ys' σ' H' => H' d = some (.frz od u) ∧ D.ct ys' σ' (upd H' d u) } ys σ (upd H d (.frz od u))
theorem gs_lock {t : TGn} (h : GS X st t) : GS X st (tGLock t) := by
  refine ⟨fun A S ip R n ys s₀ c fs K J gd lv s σ H D g hn k hI ht => ?_⟩
  obtain ⟨d, u, hd, mu, hw⟩ := ht
  obtain ⟨acc, cc, r, I⟩ := hI
  obtain ⟨od, I1⟩ := I.lock hd mu
  have nf := I.nofrz hd mu
  refine h.run A S ip R n ys s₀ c fs K J gd lv s σ _ _ g hn ⟨fun n' ys' s₀' s' f hn' hs => ?_, k.exc⟩ ⟨acc, cc, r, I1⟩ (hw od)
  cases f with
  | next => obtain ⟨σ', H', ⟨a1, c1, r1, I2⟩, e, q⟩ := hs; exact k.ok n' ys' s₀' s' .next hn' ⟨σ', _, ⟨a1, c1, r1, I2.unlock e nf⟩, q⟩
  | brk => obtain ⟨σ', H', ⟨a1, c1, r1, I2⟩, e, q⟩ := hs; exact k.ok n' ys' s₀' s' .brk hn' ⟨σ', _, ⟨a1, c1, r1, I2.unlock e nf⟩, q⟩
  | cont => obtain ⟨σ', H', ⟨a1, c1, r1, I2⟩, e, q⟩ := hs; exact k.ok n' ys' s₀' s' .cont hn' ⟨σ', _, ⟨a1, c1, r1, I2.unlock e nf⟩, q⟩
  | ret v => obtain ⟨x, σ', H', ⟨a1, c1, r1, I2⟩, rv, e, q⟩ := hs; exact k.ok n' ys' s₀' s' (.ret v) hn' ⟨x, σ', _, ⟨a1, c1, r1, I2.unlock e nf⟩, rv, q⟩
def tFLock (t : TF) : TF := fun yl D σ H => ∃ d u, H d = some u ∧ Mut (some u) ∧ ∀ od, t yl { nx := fun σ' H' => H' d = some (.frz od u) ∧ D.nx σ' (upd H' d u), rt := fun v H' => H' d = some (.frz od u) ∧ D.rt v (upd H' d u), bk := fun σ' H' => H' d = some (.frz od u) ∧ D.bk σ' (upd H' d u), ct := fun σ' H' => H' d = some (.frz od u) ∧ D.ct σ' (upd H' d u) } σ (upd H d (.frz od u))
theorem gf_lock {t : TF} (h : GF X st t) : GF X st (tFLock t) where
  go := fun {A ip R c fs K J gd lv s₀ s σ H yl D} g k I q => by
    obtain ⟨d, u, hd, mu, hw⟩ := q
    obtain ⟨od, I1⟩ := I.lock hd mu
    have nf := I.nofrz hd mu
    refine h.go g ⟨fun s1 s2 f z => ?_, k.ex⟩ I1 (hw od)
    cases f with
    | next => obtain ⟨σ', H', I2, e, q⟩ := z; exact k.on s1 s2 .next ⟨σ', _, I2.unlock e nf, q⟩
    | brk => obtain ⟨σ', H', I2, e, q⟩ := z; exact k.on s1 s2 .brk ⟨σ', _, I2.unlock e nf, q⟩
    | cont => obtain ⟨σ', H', I2, e, q⟩ := z; exact k.on s1 s2 .cont ⟨σ', _, I2.unlock e nf, q⟩
    | ret v => obtain ⟨x, σ', H', I2, rv, e, q⟩ := z; exact k.on s1 s2 (.ret v) ⟨x, σ', _, I2.unlock e nf, rv, q⟩
end
end L2

namespace L2
open PySem PySem.Spec PyProof.Rows
section
variable {X : Cx} {pins : List (Addr × Obj)} {σ : St} {H : Hp} {s : Shared} {E : Value → Shared → Prop}
/-- an entry under a tuple -/
theorem d_dictSetT {D b : Addr} {kvs : List (List Key × V)} {k : List Key} {v : V} {r : Value} {Q : Unit → Shared → Prop}
    (hu : (tupleKind (mixKind X.prog X.w)).room X.A) (I : Inv X pins σ H s) (e : H D = some (.dT kvs)) (l : kvs.length < sizeLine) (eb : H b = some (.tup (k.map kV))) (rv : RelV v r)
    (h : ∀ s', Inv X pins σ (upd H D (.dT (putK kvs k v))) s' → Q () s') : wpAny (model X.prog X.w) X.A (dictSet D (.ref b) r) Q E s := by
  obtain ⟨z, hd, xs, rel, dd⟩ := dt_of I.hok e
  have hz : xs.length ≤ sizeLine := by rw [← Paired.length rel]; exact z
  have hl : (putK kvs k v).length ≤ sizeLine := by have := length_putK kvs k v; omega
  refine wpAny_dictSet_heap hu (key_of I.hok eb) dd (fun h' dd' hs => h _ ?_) hz
  obtain ⟨q, es, ep, hq, h2, h3, h4, _, h6⟩ := dd'
  refine d_write I (by rw [e]; trivial) hs ⟨q, hq⟩ ⟨hl, hd, storedH xs k b r, KT.keeps (KT.put rel k eb rv) fun c ys ec => ?_, q, es, ep, hq, h2, h3, h4, h6⟩
  rw [upd_ne (ne_of ec e fun z => nomatch z)]; exact ec
end
def tDcT (wi : TI) (g : TG) (tt : TT) (tk tv : TE) (vs : List Nat) : TE := fun σ H Q => wi σ H fun J H1 => ∀ D, H1 D = none → ∃ W : Nat → Nat → Hp → Prop, (∃ m, W 0 m (upd H1 D (.dT []))) ∧ ∀ i m H, W i m H →
  (J.stop i H ∧ Q (.ref D) H) ∨ (J.go i H ∧ ∃ Nx : Hp → Prop, (∀ H', Nx H' → ∃ m', m' < m ∧ W (i + 1) m' H') ∧ ∀ x H', J.yld i H x H' → g x (wipe σ vs) H' fun σ2 H2 => wipe σ2 vs = wipe σ vs ∧ tt σ2 H2 fun b H3 => if b = true then tk σ2 H3 fun y H4 => tv σ2 H4 fun z H5 => ∃ (kvs : List (List Key × V)) (k : List Key) (b : Addr), y = .ref b ∧ H5 b = some (.tup (k.map kV)) ∧ H5 D = some (.dT kvs) ∧ kvs.length < sizeLine ∧ Nx (upd H5 D (.dT (putK kvs k z))) else Nx H3)
section
variable {X : Cx}
theorem dcT_core {pins : List (Addr × Obj)} {s : Shared} {σ : St} {H : Hp} {Q : VK} {kx vx tg iter : Expr} {ifs : List Expr} {scope : Scope} {own : List (Str × Nat)} {pos pos' : Pos} {wi : TI} {g : TG} {tt : TT} {tk tv : TE} {use : Option (Value → Sem Unit)} {Qf : Value → Shared → Prop}
    (hc : X.calm = true) (hu : (tupleKind (mixKind X.prog X.w)).room X.A) (hN : X.N.Nodup) (I : Inv X pins σ H s) (hi : PI X tg iter wi) (ok : BlkOk X.N X.env.scope scope own)
    (hg : ∀ (s : Shared) (H : Hp) (C : Addr) (cl : List (Str × Addr)) (fp : List Addr), PG (X.blk s H scope (compEnvC scope cl C X.env) fp) tg g) (ht : ∀ (s : Shared) (H : Hp) (C : Addr) (cl : List (Str × Addr)) (fp : List Addr), PTs (X.blk s H scope (compEnvC scope cl C X.env) fp) ifs tt)
    (hk : ∀ (s : Shared) (H : Hp) (C : Addr) (cl : List (Str × Addr)) (fp : List Addr), PE (X.blk s H scope (compEnvC scope cl C X.env) fp) kx tk)
    (he : ∀ (s : Shared) (H : Hp) (C : Addr) (cl : List (Str × Addr)) (fp : List Addr), PE (X.blk s H scope (compEnvC scope cl C X.env) fp) vx tv) (hs : ∀ x, foldedSetIterable iter X.env x = pure x)
    (h : tDcT wi g tt tk tv (own.map (·.2)) σ H Q)
    (hRR : ∀ D C s' m H', Inv X pins σ H' s' → Q (.ref D) H' → s'.heap.Ns C m → FpOk X pins H' C → compPost (model X.prog X.w) X.A X.xe use Qf (.ref D) C (.ok .next) s') :
    wpAny (model X.prog X.w) X.A (comprehension (.DictComp kx vx [⟨tg, iter, ifs, 0⟩] scope pos) scope X.env pos' newDict false (eval iter X.env) use) Qf X.xe s := by
  have hfree : ∀ y ∈ scope.names, y.2 = .free → ∃ c, X.env.cells.lookup y.1 = some c := fun y hy e => by
    rcases ok.free y hy e with k | k
    · exact I.ok.has _ (.inl k)
    · exact I.ok.has _ (.inr k)
  refine wpAny_comprehension_free (use := use) rfl hs (closure_ok hfree) ok.kind (fun y hy e => by rw [ok.uniq y hy, e])
    (thn (hi.run pins s σ H _ I h) fun xv s1 hxv => thn hxv fun itv s2 h2 => ?_)
  obtain ⟨it, fp, tn, J, H2, e, I2, T, st2, f2, q⟩ := h2
  subst e
  refine wpAny_newObj_type (newEnv_comp ?_)
  generalize hD : s2.heap.objs.size = D
  have hDn : H2 D = none := I2.hok.fresh (Nat.le_of_eq hD)
  obtain ⟨W, ⟨m0, w0⟩, turn⟩ := q D hDn
  generalize hs3 : ({ s2 with heap := s2.heap.push { cls := .type "dict", data := .dict #[] } } : Shared) = s3
  have I3 : Inv X pins σ (upd H2 D (.dT [])) s3 := by
    rw [← hs3, ← hD]
    exact I2.laid (t' := s2.toks) (fun b o e => Heap.get?_push_of_some _ e) (Nat.le_refl _) (dt_empty s2.heap (Inv.big I2))
  have h3 : s3.heap = s2.heap.push { cls := .type "dict", data := .dict #[] } := by rw [← hs3]
  have sz : ∀ b ∈ fp, b < s2.heap.objs.size := fun b hb => by
    obtain ⟨o, e, _⟩ := T.obj _ _ st2 b hb
    exact Heap.lt_size e
  have f3 : ∀ b ∈ fp, FpOk X pins (upd H2 D (.dT [])) b ∧ b < s3.heap.objs.size := fun b hb => by
    have hlt := sz b hb
    refine ⟨⟨?_, (f2 b hb).2⟩, by rw [h3, Heap.size_push]; exact Nat.lt_succ_of_lt hlt⟩
    rw [upd_ne (by rw [← hD]; exact Nat.ne_of_lt hlt)]
    exact (f2 b hb).1
  have st3 : tn 0 s3.heap := T.keep _ _ _ st2 fun b _ o e => by rw [h3]; exact Heap.get?_push_of_some _ e
  have I4 := block_start I3 ok hN f3
  have pg := hg s3 (upd H2 D (.dT [])) s3.heap.objs.size (cellsFrom (s3.heap.objs.size + 1) scope.names (cloFrom X.env.cells scope.names [])) fp
  have pt := ht s3 (upd H2 D (.dT [])) s3.heap.objs.size (cellsFrom (s3.heap.objs.size + 1) scope.names (cloFrom X.env.cells scope.names [])) fp
  have pk := hk s3 (upd H2 D (.dT [])) s3.heap.objs.size (cellsFrom (s3.heap.objs.size + 1) scope.names (cloFrom X.env.cells scope.names [])) fp
  have pe := he s3 (upd H2 D (.dT [])) s3.heap.objs.size (cellsFrom (s3.heap.objs.size + 1) scope.names (cloFrom X.env.cells scope.names [])) fp
  show codeAny _ _ (.compStart (.DictComp kx vx [⟨tg, iter, ifs, 0⟩] scope pos) 0 (.ref it) (.ref D) (compEnvC scope (cellsFrom (s3.heap.objs.size + 1) scope.names (cloFrom X.env.cells scope.names [])) s3.heap.objs.size X.env)) (compPost (model X.prog X.w) X.A X.xe use Qf (.ref D) s3.heap.objs.size) { s3 with heap := pushCells (s3.heap.push { cls := .type "dict", data := .dict #[] }) scope.names }
  have nfp : ∀ b ∈ fp, (upd H2 D (.dT [])) b = none := fun b hb => (f3 b hb).1.1
  generalize hce : compEnvC scope (cellsFrom (s3.heap.objs.size + 1) scope.names (cloFrom X.env.cells scope.names [])) s3.heap.objs.size X.env = ce at I4 pg pt pk pe ⊢
  have cL : ce.locals = s3.heap.objs.size := by subst hce; rfl
  generalize hH3 : upd H2 D (.dT []) = H3 at I3 I4 pg pt pk pe w0 nfp f3
  generalize hXB : X.blk s3 H3 scope ce fp = XB at pg pt pk pe I4
  have eP : XB.prog = X.prog := by subst hXB; rfl
  have eW : XB.w = X.w := by subst hXB; rfl
  have eK : XB.K = X.K := by subst hXB; rfl
  have eC : XB.calm = true := by subst hXB; exact hc
  have eE : XB.env = ce := by subst hXB; rfl
  have eA : XB.A = X.A := by subst hXB; rfl
  have eX : XB.xe = fun _ _ => False := by subst hXB; rfl
  have huB : (tupleKind (mixKind XB.prog XB.w)).room XB.A := by rw [eA]; subst hXB; exact hu
  generalize hs4 : ({ s3 with heap := pushCells (s3.heap.push { cls := .type "dict", data := .dict #[] }) scope.names } : Shared) = s4 at I4 ⊢
  have st4 : tn 0 s4.heap := T.keep _ _ _ st3 fun b _ o e => by rw [← hs4]; exact pushCells_keeps _ _ _ _ (Heap.get?_push_of_some _ e)
  have stat : ∀ {σ' : St} {H' : Hp} {s' : Shared}, Inv XB [] σ' H' s' → (∀ b ∈ fp, H' b = none) → ∀ b ∈ fp, FpOk XB [] H' b := fun {σ' H' s'} I' hn b hb => by
    subst hXB
    exact ⟨hn b hb, (I'.ok.exf b hb).1, I'.ok.exfs b hb, .inl hb, fun x c e => (I'.ok.exf b hb).2 x c e, fun p hp => absurd (show p ∈ ([] : List (Addr × Obj)) ++ [] from hp) (by simp)⟩
  have loop : codeAny (model X.prog X.w) X.A (.compLoop (.DictComp kx vx [⟨tg, iter, ifs, 0⟩] scope pos) 0 (.ref it) (.ref D) ce) (compPost (model X.prog X.w) X.A X.xe use Qf (.ref D) s3.heap.objs.size) s4 := by
    refine compLoop_anyD (fun n s' => ∃ i H', Inv XB [] (wipe σ (own.map (·.2))) H' s' ∧ tn i s'.heap ∧ (∀ b ∈ fp, H' b = none) ∧ W i n H') ?_ m0 ⟨0, H3, I4, st4, nfp, w0⟩
    rintro n s5 ⟨i, H5, I5, st5, n5, w5⟩
    rcases turn i n H5 w5 with ⟨stop, qq⟩ | ⟨go, Nx, hNx, step⟩
    · have td := T.done XB eP eW eK eC i [] s5 _ H5 (fun _ _ => False) I5 (stat I5 n5) st5 stop
      rw [eA] at td
      refine thnF td fun r s6 ⟨hr, I6⟩ => ?_
      subst hr
      have I6' : Inv (X.blk s3 H3 scope ce fp) [] (wipe σ (own.map (·.2))) H5 s6 := by rw [hXB]; exact I6
      have I7 : Inv X pins σ H5 s6 := I3.call' (ch := fp) I6'.os I6'.base I6'.hok I6'.bare fun b hb => ⟨(f3 b hb).1.2.2.2.1, (f3 b hb).1.2.1, (f3 b hb).1.2.2.2.2.1, (f3 b hb).1.2.2.2.2.2⟩
      have nC : H5 s3.heap.objs.size = none := by
        have z : H5 ce.locals = none := I6'.free
        rw [cL] at z
        exact z
      obtain ⟨m, hn, _⟩ := I6'.loc
      have hn : s6.heap.Ns ce.locals m := hn
      rw [cL] at hn
      exact hRR D s3.heap.objs.size s6 m H5 I7 qq hn (I3.fpOk (Nat.le_refl _) nC)
    · have ti := T.item XB eP eW eK eC i [] s5 _ H5 (fun _ _ => False) I5 (stat I5 n5) st5 go
      rw [eA] at ti
      refine thnF ti fun r s6 ⟨u, hr, h6⟩ => ?_
      subst hr
      refine thnF h6 fun _ s7 ⟨x, H7, I7, r7, y7, st7, n7⟩ => ?_
      have I7' := I7.pinned (stat I7 n7) (T.obj _ _ st7)
      have pg' := pg.run _ s7 _ H7 x u _ I7' r7 (step x H7 y7)
      rw [eP, eW, eA, eE, eX] at pg'
      refine thnF pg' fun _ s8 ⟨σ8, H8, I8, hw8, q8⟩ => ?_
      have pt' := pt.run _ s8 σ8 H8 _ I8 q8
      rw [eP, eW, eA, eE, eX] at pt'
      refine thnF pt' fun b s9 ⟨H9, I9, q9⟩ => ?_
      have fin : ∀ {s' : Shared} {H' : Hp}, Inv XB ([] ++ pinsAt fp s7.heap) σ8 H' s' → Nx H' → ∃ m, m < n ∧ ∃ i H', Inv XB [] (wipe σ (own.map (·.2))) H' s' ∧ tn i s'.heap ∧ (∀ b ∈ fp, H' b = none) ∧ W i m H' := fun {s' H'} I' nx => by
        obtain ⟨m', hm, w'⟩ := hNx H' nx
        have pin' : ∀ b ∈ fp, ∀ o, s7.heap.get? b = some o → s'.heap.get? b = some o ∧ H' b = none := fun b hb o e =>
          let z := I'.pin (b, o) (List.mem_append_right _ (List.mem_append_right _ (mem_pinsAt hb e)))
          ⟨z.1, z.2.1⟩
        have hl : (wipe σ (own.map (·.2))).length = σ8.length := by rw [← hw8, wipe_length]
        refine ⟨m', hm, i + 1, H', (I'.unpinned (pins := [])).weak hl (fun j v e => ?_), T.keep _ _ _ st7 fun b hb o e => (pin' b hb o e).1, fun b hb => ?_, w'⟩
        · rw [← hw8] at e
          exact (wipe_some e).1
        · obtain ⟨o, e, _⟩ := T.obj _ _ st7 b hb
          exact (pin' b hb o e).2
      cases b with
      | false =>
        simp only [Bool.false_eq_true, if_false] at q9 ⊢
        exact fin I9 q9
      | true =>
        simp only [if_true] at q9 ⊢
        have pk' := pk.run _ s9 σ8 H9 _ I9 q9
        rw [eP, eW, eA, eE, eX] at pk'
        refine thnF pk' fun kz s10 ⟨yk, H10, I10, r10, q10⟩ => ?_
        have pe' := pe.run _ s10 σ8 H10 _ I10 q10
        rw [eP, eW, eA, eE, eX] at pe'
        refine thnF pe' fun z s11 ⟨yv, H11, I11, r11, kvs, k, b, ek, hb, hD11, hz11, nx⟩ => ?_
        subst ek
        cases r10
        have ap : wpAny (model XB.prog XB.w) XB.A (dictSet D (.ref b) z) (fun _ s' => ∃ m, m < n ∧ ∃ i H', Inv XB [] (wipe σ (own.map (·.2))) H' s' ∧ tn i s'.heap ∧ (∀ b ∈ fp, H' b = none) ∧ W i m H')
            (notedBy (model X.prog X.w) X.A ce fun e s' => compPost (model X.prog X.w) X.A X.xe use Qf (.ref D) s3.heap.objs.size (.error e) s') s11 := d_dictSetT huB I11 hD11 hz11 hb r11 fun s12 I12 => fin I12 nx
        rw [eP, eW, eA] at ap
        exact ap
  exact codeAny_compStart_dict loop (T.self X.A 0 _ _ _ st4 loop)
/-- {k: v for ..}, the keys are tuples -/
theorem pe_dcT {kx vx tg iter : Expr} {ifs : List Expr} {scope : Scope} {own : List (Str × Nat)} {pos : Pos} {wi : TI} {g : TG} {tt : TT} {tk tv : TE}
    (hc : X.calm = true) (hu : (tupleKind (mixKind X.prog X.w)).room X.A) (hN : X.N.Nodup) (hi : PI X tg iter wi) (ok : BlkOk X.N X.env.scope scope own)
    (hg : ∀ (s : Shared) (H : Hp) (C : Addr) (cl : List (Str × Addr)) (fp : List Addr), PG (X.blk s H scope (compEnvC scope cl C X.env) fp) tg g) (ht : ∀ (s : Shared) (H : Hp) (C : Addr) (cl : List (Str × Addr)) (fp : List Addr), PTs (X.blk s H scope (compEnvC scope cl C X.env) fp) ifs tt)
    (hk : ∀ (s : Shared) (H : Hp) (C : Addr) (cl : List (Str × Addr)) (fp : List Addr), PE (X.blk s H scope (compEnvC scope cl C X.env) fp) kx tk)
    (he : ∀ (s : Shared) (H : Hp) (C : Addr) (cl : List (Str × Addr)) (fp : List Addr), PE (X.blk s H scope (compEnvC scope cl C X.env) fp) vx tv)
    (hs : ∀ x, foldedSetIterable iter X.env x = pure x := by intro _; rfl) : PE X (.DictComp kx vx [⟨tg, iter, ifs, 0⟩] scope pos) (tDcT wi g tt tk tv (own.map (·.2))) := by
  refine ⟨fun pins s σ H Q I h => ?_⟩
  rw [arm_eval_DictComp]
  refine dcT_core hc hu hN I hi ok hg ht hk he hs h fun D C s' m H' I' q hn f => ⟨m, hn, fun h'' sb => ?_⟩
  obtain ⟨f0, f1, f2, f3, f4, f5⟩ := f
  exact ⟨.ref D, H', I'.turned (t' := s'.toks) (fun b o hb e => (sb.2 b hb).trans e) f0 f1 f3 f4 f5, rfl, q⟩
theorem room_tup {A : Around} {P : Program} {w : World} (h : A.units + 1 < cLine) : (tupleKind (mixKind P w)).room A := by
  show A.units < cLine
  omega
end
end L2

namespace L2
open PySem
theorem hu65' {k : Nat} {A : Around} (r : Room k A) : A.units + 65 < cLine := by have := r.un; omega
theorem inDK {X : Cx} {K : PySem.W.Frag} (h : X.K = K) (hu : X.A.units + 65 < cLine) : OpR X (compareOp .In) (rInD K) := h ▸ op_inD hu
theorem ninDK {X : Cx} {K : PySem.W.Frag} (h : X.K = K) (hu : X.A.units + 65 < cLine) : OpR X (compareOp .NotIn) (rNotInD K) := h ▸ op_notInD hu
end L2

namespace My
open PySem L2
abbrev PP : Program := PySem.Challenge.pw_weblocks_k47_faults_in_order
def topS (i : Nat) : Stmt := PySem.Challenge.pw_weblocks_k47_faults_in_order.main.body.getD i (.Pass ⟨0, 0, 0, 0⟩)
abbrev S_kinds : Stmt := topS 3
abbrev S_supply : Stmt := topS 4
abbrev S_fits : Stmt := topS 5
abbrev S_first_rung : Stmt := topS 6
abbrev S_ladder : Stmt := topS 7
abbrev S_reached : Stmt := topS 8
abbrev S_reaches : Stmt := topS 10
abbrev S_meeting_at : Stmt := topS 11
abbrev S_meeting : Stmt := topS 12
abbrev S_neighbours : Stmt := topS 13
abbrev S_ahead_of : Stmt := topS 14
abbrev S_same_start : Stmt := topS 15
abbrev S_faults_at : Stmt := topS 16
abbrev S_faults : Stmt := topS 17
abbrev S_is_safe : Stmt := topS 18
abbrev S_rank : Stmt := topS 29
abbrev S_needed : Stmt := topS 30
abbrev S_Way_init : Stmt := inClass (topS 34) 1
abbrev S_Way_needs : Stmt := inClass (topS 34) 2
abbrev S_Policy_init : Stmt := inClass (topS 48) 0
abbrev S_Policy_getitem : Stmt := inClass (topS 48) 3
abbrev S_Policy_setitem : Stmt := inClass (topS 48) 4
abbrev S_Policy_starts_at : Stmt := inClass (topS 48) 6
abbrev S_Policy_ways_of : Stmt := inClass (topS 48) 7
abbrev S_Policy_starts : Stmt := inClass (topS 48) 8
abbrev S_is_mark : Stmt := topS 52
abbrev S_sound_row : Stmt := topS 53
abbrev S_barren : Stmt := topS 54
abbrev S_Shape_init : Stmt := inClass (topS 55) 2
abbrev S_Shape_getitem : Stmt := inClass (topS 55) 3
abbrev S_Shape_iter : Stmt := inClass (topS 55) 4
abbrev S_Shape_len : Stmt := inClass (topS 55) 5
abbrev S_Shape_modes_of : Stmt := inClass (topS 55) 10
abbrev S__law_draws : Stmt := topS 57
abbrev S__law_take : Stmt := topS 58
abbrev S__law_same : Stmt := topS 59
abbrev S__law_marks : Stmt := topS 60
abbrev S__law_rows : Stmt := topS 61
abbrev S__law_way : Stmt := topS 62
abbrev S__law_rules : Stmt := topS 63
abbrev S__law_number : Stmt := topS 64
abbrev S__law_shape : Stmt := topS 65
abbrev S__law_way_made : Stmt := topS 66
abbrev S__law_policy : Stmt := topS 67
abbrev S__law_loose : Stmt := topS 68
abbrev S__law_wider : Stmt := topS 69
abbrev S__law_kinds : Stmt := topS 70
abbrev S__law_supply : Stmt := topS 71
abbrev S__law_fits : Stmt := topS 72
abbrev S__law_reached : Stmt := topS 73
abbrev S__law_meeting : Stmt := topS 74
abbrev S__law_links : Stmt := topS 75
abbrev S__law_joined : Stmt := topS 76
abbrev S__law_table : Stmt := topS 77
abbrev S__law_same_fault : Stmt := topS 78
abbrev S__law_faults_at : Stmt := topS 79
abbrev S__law_faults : Stmt := topS 80
abbrev S_law : Stmt := topS 81
abbrev S_BadShape_init : Stmt := inClass (topS 22) 0
abbrev S_UnknownMark_init : Stmt := inClass (topS 23) 0
abbrev S_TooLarge_init : Stmt := inClass (topS 25) 0
theorem sc_kinds : FnScope ["policy", "found", "mark", "mode"] ["policy"] (defScope S_kinds) := ⟨rfl, rfl, rfl, by decide +kernel, rfl, by decide +kernel, by decide +kernel⟩
theorem sc_supply : FnScope ["shape", "mark", "kind", "reached", "seen", "owned", "shared", "parent"] ["shape", "mark", "kind", "reached"] (defScope S_supply) := ⟨rfl, rfl, rfl, by decide +kernel, rfl, by decide +kernel, by decide +kernel⟩
theorem sc_fits : FnScope ["shape", "way", "mark", "parents", "kind", "reached", "_", "owned", "seen", "seen_supply", "own_supply"] ["shape", "way", "mark", "parents", "kind", "reached"] (defScope S_fits) := ⟨rfl, rfl, rfl, by decide +kernel, rfl, by decide +kernel, by decide +kernel⟩
theorem sc_first_rung : FnScope ["policy", "mark", "kind", "names", "row", "index", "way", "parents"] ["policy", "mark", "kind", "names"] (defScope S_first_rung) := ⟨rfl, rfl, rfl, by decide +kernel, rfl, by decide +kernel, by decide +kernel⟩
theorem sc_ladder : FnScope ["policy", "kind", "rungs", "names", "grown", "mark", "rung"] ["policy", "kind"] (defScope S_ladder) := ⟨rfl, rfl, rfl, by decide +kernel, rfl, by decide +kernel, by decide +kernel⟩
theorem sc_reached : FnScope ["policy", "kind", "names", "rung", "mark"] ["policy", "kind"] (defScope S_reached) := ⟨rfl, rfl, rfl, by decide +kernel, rfl, by decide +kernel, by decide +kernel⟩
theorem sc_reaches : FnScope ["policy", "kind"] ["policy"] (defScope S_reaches) := ⟨rfl, rfl, rfl, by decide +kernel, rfl, by decide +kernel, by decide +kernel⟩
theorem sc_meeting_at : FnScope ["policy", "mark", "parents", "kind", "other", "table", "ways", "index", "way", "seen", "other_index", "further"] ["policy", "mark", "parents", "kind", "other", "table"] (defScope S_meeting_at) := ⟨rfl, rfl, rfl, by decide +kernel, rfl, by decide +kernel, by decide +kernel⟩
theorem sc_meeting : FnScope ["policy", "kind", "other", "table", "mark", "row", "parents", "pair"] ["policy", "kind", "other", "table"] (defScope S_meeting) := ⟨rfl, rfl, rfl, by decide +kernel, rfl, by decide +kernel, by decide +kernel⟩
theorem sc_neighbours : FnScope ["policy", "table", "found", "kind", "other"] ["policy", "table"] (defScope S_neighbours) := ⟨rfl, rfl, rfl, by decide +kernel, rfl, by decide +kernel, by decide +kernel⟩
theorem sc_ahead_of : FnScope ["kind", "near", "came", "queue", "place", "other"] ["kind", "near"] (defScope S_ahead_of) := ⟨rfl, rfl, rfl, by decide +kernel, rfl, by decide +kernel, by decide +kernel⟩
theorem sc_same_start : FnScope ["shape", "place", "way", "other", "names", "mark", "parents", "_", "kind", "held", "owned", "other_owned", "other_seen", "kept", "near"] ["shape", "place", "way", "other", "names"] (defScope S_same_start) := ⟨rfl, rfl, rfl, by decide +kernel, rfl, by decide +kernel, by decide +kernel⟩
theorem sc_faults_at : FnScope ["policy", "table", "came", "place", "mark", "parents", "index", "kind", "ways", "way", "found", "other_index", "other", "other_kind"] ["policy", "table", "came", "place"] (defScope S_faults_at) := ⟨rfl, rfl, rfl, by decide +kernel, rfl, by decide +kernel, by decide +kernel⟩
theorem sc_faults : GScope ["policy", "table", "near", "mark", "row", "parents", "index", "way", "kind", "fault"] ["policy"] (defScope S_faults) := ⟨rfl, rfl, rfl, by decide +kernel, rfl, by decide +kernel, by decide +kernel⟩
theorem sc_is_safe : FnScope ["policy", "_"] ["policy"] (defScope S_is_safe) := ⟨rfl, rfl, rfl, by decide +kernel, rfl, by decide +kernel, by decide +kernel⟩
theorem sc_rank : FnScope ["level", "place", "word"] ["level"] (defScope S_rank) := ⟨rfl, rfl, rfl, by decide +kernel, rfl, by decide +kernel, by decide +kernel⟩
theorem sc_needed : FnScope ["level", "parents", "place"] ["level", "parents"] (defScope S_needed) := ⟨rfl, rfl, rfl, by decide +kernel, rfl, by decide +kernel, by decide +kernel⟩
theorem sc_Way_init : FnScope ["self", "held", "owned", "seen", "early", "by_held", "by_owned", "by_seen"] ["self", "held", "owned", "seen", "early"] (defScope S_Way_init) := ⟨rfl, rfl, rfl, by decide +kernel, rfl, by decide +kernel, by decide +kernel⟩
theorem sc_Way_needs : FnScope ["self", "parents"] ["self", "parents"] (defScope S_Way_needs) := ⟨rfl, rfl, rfl, by decide +kernel, rfl, by decide +kernel, by decide +kernel⟩
theorem sc_Policy_init : FnScope ["self", "shape", "rows", "starts", "table", "mark", "start", "ways"] ["self", "shape", "rows"] (defScope S_Policy_init) := ⟨rfl, rfl, rfl, by decide +kernel, rfl, by decide +kernel, by decide +kernel⟩
theorem sc_Policy_getitem : FnScope ["self", "mark"] ["self", "mark"] (defScope S_Policy_getitem) := ⟨rfl, rfl, rfl, by decide +kernel, rfl, by decide +kernel, by decide +kernel⟩
theorem sc_Policy_setitem : FnScope ["self", "mark", "rule", "start", "ways"] ["self", "mark", "rule"] (defScope S_Policy_setitem) := ⟨rfl, rfl, rfl, by decide +kernel, rfl, by decide +kernel, by decide +kernel⟩
theorem sc_Policy_starts_at : FnScope ["self", "mark"] ["self", "mark"] (defScope S_Policy_starts_at) := ⟨rfl, rfl, rfl, by decide +kernel, rfl, by decide +kernel, by decide +kernel⟩
theorem sc_Policy_ways_of : FnScope ["self", "mark"] ["self", "mark"] (defScope S_Policy_ways_of) := ⟨rfl, rfl, rfl, by decide +kernel, rfl, by decide +kernel, by decide +kernel⟩
theorem sc_Policy_starts : FnScope ["self", "mark"] ["self"] (defScope S_Policy_starts) := ⟨rfl, rfl, rfl, by decide +kernel, rfl, by decide +kernel, by decide +kernel⟩
theorem sc_is_mark : FnScope ["text", "sign"] ["text"] (defScope S_is_mark) := ⟨rfl, rfl, rfl, by decide +kernel, rfl, by decide +kernel, by decide +kernel⟩
theorem sc_sound_row : FnScope ["row", "before", "mark", "parents", "least", "most", "shared", "good", "place", "parent"] ["row", "before"] (defScope S_sound_row) := ⟨rfl, rfl, rfl, by decide +kernel, rfl, by decide +kernel, by decide +kernel⟩
theorem sc_barren : FnScope ["rows", "known", "grown", "mark", "parents", "least", "_", "parent", "row"] ["rows"] (defScope S_barren) := ⟨rfl, rfl, rfl, by decide +kernel, rfl, by decide +kernel, by decide +kernel⟩
theorem sc_Shape_init : FnScope ["self", "rows", "listed", "marks", "row", "parent", "lost"] ["self", "rows"] (defScope S_Shape_init) := ⟨rfl, rfl, rfl, by decide +kernel, rfl, by decide +kernel, by decide +kernel⟩
theorem sc_Shape_getitem : FnScope ["self", "mark", "row"] ["self", "mark"] (defScope S_Shape_getitem) := ⟨rfl, rfl, rfl, by decide +kernel, rfl, by decide +kernel, by decide +kernel⟩
theorem sc_Shape_iter : FnScope ["self"] ["self"] (defScope S_Shape_iter) := ⟨rfl, rfl, rfl, by decide +kernel, rfl, by decide +kernel, by decide +kernel⟩
theorem sc_Shape_len : FnScope ["self"] ["self"] (defScope S_Shape_len) := ⟨rfl, rfl, rfl, by decide +kernel, rfl, by decide +kernel, by decide +kernel⟩
theorem sc_Shape_modes_of : FnScope ["self", "mark"] ["self", "mark"] (defScope S_Shape_modes_of) := ⟨rfl, rfl, rfl, by decide +kernel, rfl, by decide +kernel, by decide +kernel⟩
theorem sc__law_draws : FnScope ["_law_script", "_law_draws_here", "_law_cell", "_law_rest", "_law_k", "_law_mixed"] ["_law_script"] (defScope S__law_draws) := ⟨rfl, rfl, rfl, by decide +kernel, rfl, by decide +kernel, by decide +kernel⟩
theorem sc__law_take : FnScope ["_law_draws_here", "_law_at", "_law_size"] ["_law_draws_here", "_law_at", "_law_size"] (defScope S__law_take) := ⟨rfl, rfl, rfl, by decide +kernel, rfl, by decide +kernel, by decide +kernel⟩
theorem sc__law_same : FnScope ["_law_actual", "_law_expected", "_law_k"] ["_law_actual", "_law_expected"] (defScope S__law_same) := ⟨rfl, rfl, rfl, by decide +kernel, rfl, by decide +kernel, by decide +kernel⟩
theorem sc__law_marks : FnScope ["_law_draws_here", "_law_at", "_law_count", "_law_letters", "_law_shift", "_law_front", "_law_marks_here", "_law_k", "_law_size", "_law_first", "_law_rest", "_law_j", "_law_sign"] ["_law_draws_here", "_law_at", "_law_count"] (defScope S__law_marks) := ⟨rfl, rfl, rfl, by decide +kernel, rfl, by decide +kernel, by decide +kernel⟩
theorem sc__law_rows : FnScope ["_law_draws_here", "_law_at", "_law_exclusive", "_law_marks_here", "_law_rows_here", "_law_k", "_law_mask", "_law_parents", "_law_j", "_law_most", "_law_least", "_law_mark", "_law_shared"] ["_law_draws_here", "_law_at", "_law_exclusive"] (defScope S__law_rows) := ⟨rfl, rfl, rfl, by decide +kernel, rfl, by decide +kernel, by decide +kernel⟩
theorem sc__law_way : FnScope ["_law_draws_here", "_law_at", "_law_menu", "_law_choice", "_law_owned", "_law_held", "_law_seen"] ["_law_draws_here", "_law_at"] (defScope S__law_way) := ⟨rfl, rfl, rfl, by decide +kernel, rfl, by decide +kernel, by decide +kernel⟩
theorem sc__law_rules : FnScope ["_law_draws_here", "_law_at", "_law_rows_here", "_law_rules_here", "_law_row", "_law_start", "_law_count", "_law_ways", "_law_k"] ["_law_draws_here", "_law_at", "_law_rows_here"] (defScope S__law_rules) := ⟨rfl, rfl, rfl, by decide +kernel, rfl, by decide +kernel, by decide +kernel⟩
theorem sc__law_number : FnScope ["_law_rank", "_law_parents"] ["_law_rank", "_law_parents"] (defScope S__law_number) := ⟨rfl, rfl, rfl, by decide +kernel, rfl, by decide +kernel, by decide +kernel⟩
theorem sc__law_shape : FnScope ["_law_rows_here", "_law_made", "_law_row"] ["_law_rows_here"] (defScope S__law_shape) := ⟨rfl, rfl, rfl, by decide +kernel, rfl, by decide +kernel, by decide +kernel⟩
theorem sc__law_way_made : FnScope ["_law_way_here", "_law_words"] ["_law_way_here"] (defScope S__law_way_made) := ⟨rfl, rfl, rfl, by decide +kernel, rfl, by decide +kernel, by decide +kernel⟩
theorem sc__law_policy : FnScope ["_law_shape_here", "_law_rules_here", "_law_policy_here", "_law_mark", "_law_way_here"] ["_law_shape_here", "_law_rules_here"] (defScope S__law_policy) := ⟨rfl, rfl, rfl, by decide +kernel, rfl, by decide +kernel, by decide +kernel⟩
theorem sc__law_loose : FnScope ["_law_draws_here", "_law_at", "_law_rules_here", "_law_kind", "_law_other", "_law_mark", "_law_ways", "_law_way_here"] ["_law_draws_here", "_law_at", "_law_rules_here"] (defScope S__law_loose) := ⟨rfl, rfl, rfl, by decide +kernel, rfl, by decide +kernel, by decide +kernel⟩
theorem sc__law_wider : FnScope ["_law_draws_here", "_law_at", "_law_rows_here", "_law_wide", "_law_row"] ["_law_draws_here", "_law_at", "_law_rows_here"] (defScope S__law_wider) := ⟨rfl, rfl, rfl, by decide +kernel, rfl, by decide +kernel, by decide +kernel⟩
theorem sc__law_kinds : FnScope ["_law_rows_here", "_law_rules_here", "_law_starts", "_law_row"] ["_law_rows_here", "_law_rules_here"] (defScope S__law_kinds) := ⟨rfl, rfl, rfl, by decide +kernel, rfl, by decide +kernel, by decide +kernel⟩
theorem sc__law_supply : FnScope ["_law_rows_here", "_law_row", "_law_kind", "_law_names", "_law_near", "_law_one", "_law_amounts"] ["_law_rows_here", "_law_row", "_law_kind", "_law_names"] (defScope S__law_supply) := ⟨rfl, rfl, rfl, by decide +kernel, rfl, by decide +kernel, by decide +kernel⟩
theorem sc__law_fits : FnScope ["_law_rows_here", "_law_row", "_law_way_here", "_law_count", "_law_kind", "_law_names", "_law_amounts", "_law_seen"] ["_law_rows_here", "_law_row", "_law_way_here", "_law_count", "_law_kind", "_law_names"] (defScope S__law_fits) := ⟨rfl, rfl, rfl, by decide +kernel, rfl, by decide +kernel, by decide +kernel⟩
theorem sc__law_reached : FnScope ["_law_rows_here", "_law_rules_here", "_law_kind", "_law_names", "_law_k", "_law_row", "_law_way_here", "_law_count"] ["_law_rows_here", "_law_rules_here", "_law_kind"] (defScope S__law_reached) := ⟨rfl, rfl, rfl, by decide +kernel, rfl, by decide +kernel, by decide +kernel⟩
theorem sc__law_meeting : FnScope ["_law_rows_here", "_law_rules_here", "_law_one", "_law_two", "_law_table_here", "_law_row", "_law_count", "_law_ways", "_law_first", "_law_way_here", "_law_second", "_law_other"] ["_law_rows_here", "_law_rules_here", "_law_one", "_law_two", "_law_table_here"] (defScope S__law_meeting) := ⟨rfl, rfl, rfl, by decide +kernel, rfl, by decide +kernel, by decide +kernel⟩
theorem sc__law_links : FnScope ["_law_rows_here", "_law_rules_here", "_law_kinds_due", "_law_table_here", "_law_links_here", "_law_one", "_law_two"] ["_law_rows_here", "_law_rules_here", "_law_kinds_due", "_law_table_here"] (defScope S__law_links) := ⟨rfl, rfl, rfl, by decide +kernel, rfl, by decide +kernel, by decide +kernel⟩
theorem sc__law_joined : FnScope ["_law_kinds_due", "_law_links_here", "_law_kind", "_law_found", "_law_other", "_law_k", "_law_x"] ["_law_kinds_due", "_law_links_here", "_law_kind"] (defScope S__law_joined) := ⟨rfl, rfl, rfl, by decide +kernel, rfl, by decide +kernel, by decide +kernel⟩
theorem sc__law_table : FnScope ["_law_rows_here", "_law_rules_here", "_law_table_here", "_law_kind"] ["_law_rows_here", "_law_rules_here"] (defScope S__law_table) := ⟨rfl, rfl, rfl, by decide +kernel, rfl, by decide +kernel, by decide +kernel⟩
theorem sc__law_same_fault : FnScope ["_law_rows_here", "_law_row", "_law_way_here", "_law_other", "_law_count", "_law_kind", "_law_names", "_law_amounts", "_law_held", "_law_kept"] ["_law_rows_here", "_law_row", "_law_way_here", "_law_other", "_law_count", "_law_kind", "_law_names"] (defScope S__law_same_fault) := ⟨rfl, rfl, rfl, by decide +kernel, rfl, by decide +kernel, by decide +kernel⟩
theorem sc__law_faults_at : FnScope ["_law_rows_here", "_law_rules_here", "_law_row", "_law_count", "_law_index", "_law_kind", "_law_table_here", "_law_links_here", "_law_mark", "_law_ways", "_law_way_here", "_law_found", "_law_k", "_law_other", "_law_seen"] ["_law_rows_here", "_law_rules_here", "_law_row", "_law_count", "_law_index", "_law_kind", "_law_table_here", "_law_links_here"] (defScope S__law_faults_at) := ⟨rfl, rfl, rfl, by decide +kernel, rfl, by decide +kernel, by decide +kernel⟩
theorem sc__law_faults : FnScope ["_law_rows_here", "_law_rules_here", "_law_table_here", "_law_kinds_due", "_law_links_here", "_law_found", "_law_row", "_law_ways", "_law_count", "_law_index", "_law_kind"] ["_law_rows_here", "_law_rules_here"] (defScope S__law_faults) := ⟨rfl, rfl, rfl, by decide +kernel, rfl, by decide +kernel, by decide +kernel⟩
theorem sc_law : FnScope ["_law_script", "_law_draws_here", "_law_at", "_law_rows_here", "_law_rules_here", "_law_policy_here", "_law_due", "_law_mark", "_law_hasty", "_law_way_here"] ["_law_script"] (defScope S_law) := ⟨rfl, rfl, rfl, by decide +kernel, rfl, by decide +kernel, by decide +kernel⟩
structure Txt (K : PySem.W.Frag) (mg : Str → Option Value) where
  a_kinds : Addr
  fd_kinds : FuncData
  F_kinds : Fun K "kinds" "kinds" S_kinds a_kinds fd_kinds
  b_kinds : Binds K fd_kinds ["policy"] []
  g_kinds : mg "kinds" = some (.ref a_kinds)
  a_supply : Addr
  fd_supply : FuncData
  F_supply : Fun K "supply" "supply" S_supply a_supply fd_supply
  b_supply : Binds K fd_supply ["shape", "mark", "kind", "reached"] []
  g_supply : mg "supply" = some (.ref a_supply)
  a_fits : Addr
  fd_fits : FuncData
  F_fits : Fun K "fits" "fits" S_fits a_fits fd_fits
  b_fits : Binds K fd_fits ["shape", "way", "mark", "parents", "kind", "reached"] []
  g_fits : mg "fits" = some (.ref a_fits)
  a_first_rung : Addr
  fd_first_rung : FuncData
  F_first_rung : Fun K "first_rung" "first_rung" S_first_rung a_first_rung fd_first_rung
  b_first_rung : Binds K fd_first_rung ["policy", "mark", "kind", "names"] []
  g_first_rung : mg "first_rung" = some (.ref a_first_rung)
  a_ladder : Addr
  fd_ladder : FuncData
  F_ladder : Fun K "ladder" "ladder" S_ladder a_ladder fd_ladder
  b_ladder : Binds K fd_ladder ["policy", "kind"] []
  g_ladder : mg "ladder" = some (.ref a_ladder)
  a_reached : Addr
  fd_reached : FuncData
  F_reached : Fun K "reached" "reached" S_reached a_reached fd_reached
  b_reached : Binds K fd_reached ["policy", "kind"] []
  g_reached : mg "reached" = some (.ref a_reached)
  a_reaches : Addr
  fd_reaches : FuncData
  F_reaches : Fun K "reaches" "reaches" S_reaches a_reaches fd_reaches
  b_reaches : Binds K fd_reaches ["policy"] []
  g_reaches : mg "reaches" = some (.ref a_reaches)
  a_meeting_at : Addr
  fd_meeting_at : FuncData
  F_meeting_at : Fun K "meeting_at" "meeting_at" S_meeting_at a_meeting_at fd_meeting_at
  b_meeting_at : Binds K fd_meeting_at ["policy", "mark", "parents", "kind", "other", "table"] []
  g_meeting_at : mg "meeting_at" = some (.ref a_meeting_at)
  a_meeting : Addr
  fd_meeting : FuncData
  F_meeting : Fun K "meeting" "meeting" S_meeting a_meeting fd_meeting
  b_meeting : Binds K fd_meeting ["policy", "kind", "other", "table"] []
  g_meeting : mg "meeting" = some (.ref a_meeting)
  a_neighbours : Addr
  fd_neighbours : FuncData
  F_neighbours : Fun K "neighbours" "neighbours" S_neighbours a_neighbours fd_neighbours
  b_neighbours : Binds K fd_neighbours ["policy", "table"] []
  g_neighbours : mg "neighbours" = some (.ref a_neighbours)
  a_ahead_of : Addr
  fd_ahead_of : FuncData
  F_ahead_of : Fun K "ahead_of" "ahead_of" S_ahead_of a_ahead_of fd_ahead_of
  b_ahead_of : Binds K fd_ahead_of ["kind", "near"] []
  g_ahead_of : mg "ahead_of" = some (.ref a_ahead_of)
  a_same_start : Addr
  fd_same_start : FuncData
  F_same_start : Fun K "same_start" "same_start" S_same_start a_same_start fd_same_start
  b_same_start : Binds K fd_same_start ["shape", "place", "way", "other", "names"] []
  g_same_start : mg "same_start" = some (.ref a_same_start)
  a_faults_at : Addr
  fd_faults_at : FuncData
  F_faults_at : Fun K "faults_at" "faults_at" S_faults_at a_faults_at fd_faults_at
  b_faults_at : Binds K fd_faults_at ["policy", "table", "came", "place"] []
  g_faults_at : mg "faults_at" = some (.ref a_faults_at)
  a_faults : Addr
  fd_faults : FuncData
  F_faults : Fun K "faults" "faults" S_faults a_faults fd_faults
  b_faults : Binds K fd_faults ["policy"] []
  g_faults : mg "faults" = some (.ref a_faults)
  a_is_safe : Addr
  fd_is_safe : FuncData
  F_is_safe : Fun K "is_safe" "is_safe" S_is_safe a_is_safe fd_is_safe
  b_is_safe : Binds K fd_is_safe ["policy"] []
  g_is_safe : mg "is_safe" = some (.ref a_is_safe)
  a_rank : Addr
  fd_rank : FuncData
  F_rank : Fun K "rank" "rank" S_rank a_rank fd_rank
  b_rank : Binds K fd_rank ["level"] []
  g_rank : mg "rank" = some (.ref a_rank)
  a_needed : Addr
  fd_needed : FuncData
  F_needed : Fun K "needed" "needed" S_needed a_needed fd_needed
  b_needed : Binds K fd_needed ["level", "parents"] []
  g_needed : mg "needed" = some (.ref a_needed)
  a_Way_init : Addr
  fd_Way_init : FuncData
  F_Way_init : FunD K "__init__" "Way.__init__" (defArgs S_Way_init) (defBody S_Way_init) (defScope S_Way_init) [.str "none", .str "none", .str "none"] [("early", .bl false)] a_Way_init fd_Way_init
  a_Way_needs : Addr
  fd_Way_needs : FuncData
  F_Way_needs : Fun K "needs" "Way.needs" S_Way_needs a_Way_needs fd_Way_needs
  b_Way_needs : Binds K fd_Way_needs ["self", "parents"] []
  a_Policy_init : Addr
  fd_Policy_init : FuncData
  ed_Policy_init_0 : Addr
  qe_Policy_init_0 : ∀ H : Hp, SqT K H ed_Policy_init_0 []
  F_Policy_init : FunD K "__init__" "Policy.__init__" (defArgs S_Policy_init) (defBody S_Policy_init) (defScope S_Policy_init) [.ref ed_Policy_init_0] [] a_Policy_init fd_Policy_init
  a_Policy_getitem : Addr
  fd_Policy_getitem : FuncData
  F_Policy_getitem : Fun K "__getitem__" "Policy.__getitem__" S_Policy_getitem a_Policy_getitem fd_Policy_getitem
  b_Policy_getitem : Binds K fd_Policy_getitem ["self", "mark"] []
  a_Policy_setitem : Addr
  fd_Policy_setitem : FuncData
  F_Policy_setitem : Fun K "__setitem__" "Policy.__setitem__" S_Policy_setitem a_Policy_setitem fd_Policy_setitem
  b_Policy_setitem : Binds K fd_Policy_setitem ["self", "mark", "rule"] []
  a_Policy_starts_at : Addr
  fd_Policy_starts_at : FuncData
  F_Policy_starts_at : Fun K "starts_at" "Policy.starts_at" S_Policy_starts_at a_Policy_starts_at fd_Policy_starts_at
  b_Policy_starts_at : Binds K fd_Policy_starts_at ["self", "mark"] []
  a_Policy_ways_of : Addr
  fd_Policy_ways_of : FuncData
  F_Policy_ways_of : Fun K "ways_of" "Policy.ways_of" S_Policy_ways_of a_Policy_ways_of fd_Policy_ways_of
  b_Policy_ways_of : Binds K fd_Policy_ways_of ["self", "mark"] []
  a_Policy_starts : Addr
  fd_Policy_starts : FuncData
  F_Policy_starts : Fun K "starts" "Policy.starts" S_Policy_starts a_Policy_starts fd_Policy_starts
  b_Policy_starts : Binds K fd_Policy_starts ["self"] []
  a_is_mark : Addr
  fd_is_mark : FuncData
  F_is_mark : Fun K "is_mark" "is_mark" S_is_mark a_is_mark fd_is_mark
  b_is_mark : Binds K fd_is_mark ["text"] []
  g_is_mark : mg "is_mark" = some (.ref a_is_mark)
  a_sound_row : Addr
  fd_sound_row : FuncData
  F_sound_row : Fun K "sound_row" "sound_row" S_sound_row a_sound_row fd_sound_row
  b_sound_row : Binds K fd_sound_row ["row", "before"] []
  g_sound_row : mg "sound_row" = some (.ref a_sound_row)
  a_barren : Addr
  fd_barren : FuncData
  F_barren : Fun K "barren" "barren" S_barren a_barren fd_barren
  b_barren : Binds K fd_barren ["rows"] []
  g_barren : mg "barren" = some (.ref a_barren)
  a_Shape_init : Addr
  fd_Shape_init : FuncData
  F_Shape_init : Fun K "__init__" "Shape.__init__" S_Shape_init a_Shape_init fd_Shape_init
  bs_Shape_init : StarB fd_Shape_init ["self"] "rows"
  a_Shape_getitem : Addr
  fd_Shape_getitem : FuncData
  F_Shape_getitem : Fun K "__getitem__" "Shape.__getitem__" S_Shape_getitem a_Shape_getitem fd_Shape_getitem
  b_Shape_getitem : Binds K fd_Shape_getitem ["self", "mark"] []
  a_Shape_iter : Addr
  fd_Shape_iter : FuncData
  F_Shape_iter : Fun K "__iter__" "Shape.__iter__" S_Shape_iter a_Shape_iter fd_Shape_iter
  b_Shape_iter : Binds K fd_Shape_iter ["self"] []
  a_Shape_len : Addr
  fd_Shape_len : FuncData
  F_Shape_len : Fun K "__len__" "Shape.__len__" S_Shape_len a_Shape_len fd_Shape_len
  b_Shape_len : Binds K fd_Shape_len ["self"] []
  a_Shape_modes_of : Addr
  fd_Shape_modes_of : FuncData
  F_Shape_modes_of : Fun K "modes_of" "Shape.modes_of" S_Shape_modes_of a_Shape_modes_of fd_Shape_modes_of
  b_Shape_modes_of : Binds K fd_Shape_modes_of ["self", "mark"] []
  a__law_draws : Addr
  fd__law_draws : FuncData
  F__law_draws : Fun K "_law_draws" "_law_draws" S__law_draws a__law_draws fd__law_draws
  b__law_draws : Binds K fd__law_draws ["_law_script"] []
  g__law_draws : mg "_law_draws" = some (.ref a__law_draws)
  a__law_take : Addr
  fd__law_take : FuncData
  F__law_take : Fun K "_law_take" "_law_take" S__law_take a__law_take fd__law_take
  b__law_take : Binds K fd__law_take ["_law_draws_here", "_law_at", "_law_size"] []
  g__law_take : mg "_law_take" = some (.ref a__law_take)
  a__law_same : Addr
  fd__law_same : FuncData
  F__law_same : Fun K "_law_same" "_law_same" S__law_same a__law_same fd__law_same
  b__law_same : Binds K fd__law_same ["_law_actual", "_law_expected"] []
  g__law_same : mg "_law_same" = some (.ref a__law_same)
  a__law_marks : Addr
  fd__law_marks : FuncData
  F__law_marks : Fun K "_law_marks" "_law_marks" S__law_marks a__law_marks fd__law_marks
  b__law_marks : Binds K fd__law_marks ["_law_draws_here", "_law_at", "_law_count"] []
  g__law_marks : mg "_law_marks" = some (.ref a__law_marks)
  a__law_rows : Addr
  fd__law_rows : FuncData
  F__law_rows : Fun K "_law_rows" "_law_rows" S__law_rows a__law_rows fd__law_rows
  b__law_rows : Binds K fd__law_rows ["_law_draws_here", "_law_at", "_law_exclusive"] []
  g__law_rows : mg "_law_rows" = some (.ref a__law_rows)
  a__law_way : Addr
  fd__law_way : FuncData
  F__law_way : Fun K "_law_way" "_law_way" S__law_way a__law_way fd__law_way
  b__law_way : Binds K fd__law_way ["_law_draws_here", "_law_at"] []
  g__law_way : mg "_law_way" = some (.ref a__law_way)
  a__law_rules : Addr
  fd__law_rules : FuncData
  F__law_rules : Fun K "_law_rules" "_law_rules" S__law_rules a__law_rules fd__law_rules
  b__law_rules : Binds K fd__law_rules ["_law_draws_here", "_law_at", "_law_rows_here"] []
  g__law_rules : mg "_law_rules" = some (.ref a__law_rules)
  a__law_number : Addr
  fd__law_number : FuncData
  F__law_number : Fun K "_law_number" "_law_number" S__law_number a__law_number fd__law_number
  b__law_number : Binds K fd__law_number ["_law_rank", "_law_parents"] []
  g__law_number : mg "_law_number" = some (.ref a__law_number)
  a__law_shape : Addr
  fd__law_shape : FuncData
  F__law_shape : Fun K "_law_shape" "_law_shape" S__law_shape a__law_shape fd__law_shape
  b__law_shape : Binds K fd__law_shape ["_law_rows_here"] []
  g__law_shape : mg "_law_shape" = some (.ref a__law_shape)
  a__law_way_made : Addr
  fd__law_way_made : FuncData
  F__law_way_made : Fun K "_law_way_made" "_law_way_made" S__law_way_made a__law_way_made fd__law_way_made
  b__law_way_made : Binds K fd__law_way_made ["_law_way_here"] []
  g__law_way_made : mg "_law_way_made" = some (.ref a__law_way_made)
  a__law_policy : Addr
  fd__law_policy : FuncData
  F__law_policy : Fun K "_law_policy" "_law_policy" S__law_policy a__law_policy fd__law_policy
  b__law_policy : Binds K fd__law_policy ["_law_shape_here", "_law_rules_here"] []
  g__law_policy : mg "_law_policy" = some (.ref a__law_policy)
  a__law_loose : Addr
  fd__law_loose : FuncData
  F__law_loose : Fun K "_law_loose" "_law_loose" S__law_loose a__law_loose fd__law_loose
  b__law_loose : Binds K fd__law_loose ["_law_draws_here", "_law_at", "_law_rules_here"] []
  g__law_loose : mg "_law_loose" = some (.ref a__law_loose)
  a__law_wider : Addr
  fd__law_wider : FuncData
  F__law_wider : Fun K "_law_wider" "_law_wider" S__law_wider a__law_wider fd__law_wider
  b__law_wider : Binds K fd__law_wider ["_law_draws_here", "_law_at", "_law_rows_here"] []
  g__law_wider : mg "_law_wider" = some (.ref a__law_wider)
  a__law_kinds : Addr
  fd__law_kinds : FuncData
  F__law_kinds : Fun K "_law_kinds" "_law_kinds" S__law_kinds a__law_kinds fd__law_kinds
  b__law_kinds : Binds K fd__law_kinds ["_law_rows_here", "_law_rules_here"] []
  g__law_kinds : mg "_law_kinds" = some (.ref a__law_kinds)
  a__law_supply : Addr
  fd__law_supply : FuncData
  F__law_supply : Fun K "_law_supply" "_law_supply" S__law_supply a__law_supply fd__law_supply
  b__law_supply : Binds K fd__law_supply ["_law_rows_here", "_law_row", "_law_kind", "_law_names"] []
  g__law_supply : mg "_law_supply" = some (.ref a__law_supply)
  a__law_fits : Addr
  fd__law_fits : FuncData
  F__law_fits : Fun K "_law_fits" "_law_fits" S__law_fits a__law_fits fd__law_fits
  b__law_fits : Binds K fd__law_fits ["_law_rows_here", "_law_row", "_law_way_here", "_law_count", "_law_kind", "_law_names"] []
  g__law_fits : mg "_law_fits" = some (.ref a__law_fits)
  a__law_reached : Addr
  fd__law_reached : FuncData
  F__law_reached : Fun K "_law_reached" "_law_reached" S__law_reached a__law_reached fd__law_reached
  b__law_reached : Binds K fd__law_reached ["_law_rows_here", "_law_rules_here", "_law_kind"] []
  g__law_reached : mg "_law_reached" = some (.ref a__law_reached)
  a__law_meeting : Addr
  fd__law_meeting : FuncData
  F__law_meeting : Fun K "_law_meeting" "_law_meeting" S__law_meeting a__law_meeting fd__law_meeting
  b__law_meeting : Binds K fd__law_meeting ["_law_rows_here", "_law_rules_here", "_law_one", "_law_two", "_law_table_here"] []
  g__law_meeting : mg "_law_meeting" = some (.ref a__law_meeting)
  a__law_links : Addr
  fd__law_links : FuncData
  F__law_links : Fun K "_law_links" "_law_links" S__law_links a__law_links fd__law_links
  b__law_links : Binds K fd__law_links ["_law_rows_here", "_law_rules_here", "_law_kinds_due", "_law_table_here"] []
  g__law_links : mg "_law_links" = some (.ref a__law_links)
  a__law_joined : Addr
  fd__law_joined : FuncData
  F__law_joined : Fun K "_law_joined" "_law_joined" S__law_joined a__law_joined fd__law_joined
  b__law_joined : Binds K fd__law_joined ["_law_kinds_due", "_law_links_here", "_law_kind"] []
  g__law_joined : mg "_law_joined" = some (.ref a__law_joined)
  a__law_table : Addr
  fd__law_table : FuncData
  F__law_table : Fun K "_law_table" "_law_table" S__law_table a__law_table fd__law_table
  b__law_table : Binds K fd__law_table ["_law_rows_here", "_law_rules_here"] []
  g__law_table : mg "_law_table" = some (.ref a__law_table)
  a__law_same_fault : Addr
  fd__law_same_fault : FuncData
  F__law_same_fault : Fun K "_law_same_fault" "_law_same_fault" S__law_same_fault a__law_same_fault fd__law_same_fault
  b__law_same_fault : Binds K fd__law_same_fault ["_law_rows_here", "_law_row", "_law_way_here", "_law_other", "_law_count", "_law_kind", "_law_names"] []
  g__law_same_fault : mg "_law_same_fault" = some (.ref a__law_same_fault)
  a__law_faults_at : Addr
  fd__law_faults_at : FuncData
  F__law_faults_at : Fun K "_law_faults_at" "_law_faults_at" S__law_faults_at a__law_faults_at fd__law_faults_at
  b__law_faults_at : Binds K fd__law_faults_at ["_law_rows_here", "_law_rules_here", "_law_row", "_law_count", "_law_index", "_law_kind", "_law_table_here", "_law_links_here"] []
  g__law_faults_at : mg "_law_faults_at" = some (.ref a__law_faults_at)
  a__law_faults : Addr
  fd__law_faults : FuncData
  F__law_faults : Fun K "_law_faults" "_law_faults" S__law_faults a__law_faults fd__law_faults
  b__law_faults : Binds K fd__law_faults ["_law_rows_here", "_law_rules_here"] []
  g__law_faults : mg "_law_faults" = some (.ref a__law_faults)
  a_law : Addr
  fd_law : FuncData
  F_law : Fun K "law" "law" S_law a_law fd_law
  b_law : Binds K fd_law ["_law_script"] []
  g_law : mg "law" = some (.ref a_law)
  n_any : mg "any" = none
  n_bool : mg "bool" = none
  n_enumerate : mg "enumerate" = none
  n_int : mg "int" = none
  n_isinstance : mg "isinstance" = none
  n_iter : mg "iter" = none
  n_len : mg "len" = none
  n_list : mg "list" = none
  n_max : mg "max" = none
  n_property : mg "property" = none
  n_range : mg "range" = none
  n_str : mg "str" = none
  n_tuple : mg "tuple" = none
  tk_UNLIMITED : Tok
  g_UNLIMITED : mg "UNLIMITED" = some (.int 9 tk_UNLIMITED)
  k_LEVELS : Addr
  g_LEVELS : mg "LEVELS" = some (.ref k_LEVELS)
  q_LEVELS : ∀ H : Hp, SqT K H k_LEVELS [.str "none", .str "one", .str "most", .str "all"]
  tk_LETTERS : Tok
  g_LETTERS : mg "LETTERS" = some (.str "abcdefghijklmnopqrstuvwxyz" tk_LETTERS)
  k_MODES : Addr
  g_MODES : mg "MODES" = some (.ref k_MODES)
  q_MODES : ∀ H : Hp, SqT K H k_MODES [.str "own", .str "share"]
  sq_add : SeqAdd K
  c_Way : Addr
  g_Way : mg "Way" = some (.ref c_Way)
  cl_Way : Cls K c_Way
  mk_Way : Mk K c_Way a_Way_init
  m_Way_needs : Meth K c_Way "needs" a_Way_needs
  ti_Way : ∀ (H : Hp) (a dx : Addr) (fs : List (Str × V)), H a = some (.ins c_Way dx fs) → TyOf K H (.ref a) (.ref c_Way)
  kk_Way : PySem.W.kitOne K (.ref c_Way) (.ref c_Way) = some true
  no_Way_held : NoAttr K c_Way "held"
  no_Way_owned : NoAttr K c_Way "owned"
  no_Way_seen : NoAttr K c_Way "seen"
  no_Way_early : NoAttr K c_Way "early"
  c_Policy : Addr
  g_Policy : mg "Policy" = some (.ref c_Policy)
  cl_Policy : Cls K c_Policy
  mk_Policy : Mk K c_Policy a_Policy_init
  m_Policy_getitem : Meth K c_Policy "__getitem__" a_Policy_getitem
  m_Policy_setitem : Meth K c_Policy "__setitem__" a_Policy_setitem
  m_Policy_starts_at : Meth K c_Policy "starts_at" a_Policy_starts_at
  m_Policy_ways_of : Meth K c_Policy "ways_of" a_Policy_ways_of
  p_Policy_starts : Addr
  pr_Policy_starts : PropOf K c_Policy "starts" p_Policy_starts a_Policy_starts
  fi_Policy_getitem : PySem.W.fnIn K a_Policy_getitem = true
  nq_Policy : PySem.W.noSeq K c_Policy = true
  ti_Policy : ∀ (H : Hp) (a dx : Addr) (fs : List (Str × V)), H a = some (.ins c_Policy dx fs) → TyOf K H (.ref a) (.ref c_Policy)
  kk_Policy : PySem.W.kitOne K (.ref c_Policy) (.ref c_Policy) = some true
  no_Policy_shape : NoAttr K c_Policy "shape"
  no_Policy__marks : NoAttr K c_Policy "_marks"
  no_Policy__starts : NoAttr K c_Policy "_starts"
  no_Policy__ways : NoAttr K c_Policy "_ways"
  c_Shape : Addr
  g_Shape : mg "Shape" = some (.ref c_Shape)
  cl_Shape : Cls K c_Shape
  mk_Shape : Mk K c_Shape a_Shape_init
  m_Shape_getitem : Meth K c_Shape "__getitem__" a_Shape_getitem
  m_Shape_iter : Meth K c_Shape "__iter__" a_Shape_iter
  m_Shape_len : Meth K c_Shape "__len__" a_Shape_len
  m_Shape_modes_of : Meth K c_Shape "modes_of" a_Shape_modes_of
  fi_Shape_getitem : PySem.W.fnIn K a_Shape_getitem = true
  ti_Shape : ∀ (H : Hp) (a dx : Addr) (fs : List (Str × V)), H a = some (.ins c_Shape dx fs) → TyOf K H (.ref a) (.ref c_Shape)
  kk_Shape : PySem.W.kitOne K (.ref c_Shape) (.ref c_Shape) = some true
  cr_Shape : ClX.CRead K c_Shape (.type "type")
  tk_Shape_MARKS : Tok
  cv_Shape_MARKS : ClX.CVal K c_Shape (.type "type") "MARKS" (.int 6) (.int 6 tk_Shape_MARKS)
  tk_Shape_PARENTS : Tok
  cv_Shape_PARENTS : ClX.CVal K c_Shape (.type "type") "PARENTS" (.int 4) (.int 4 tk_Shape_PARENTS)
  no_Shape__listed : NoAttr K c_Shape "_listed"
  no_Shape__marks : NoAttr K c_Shape "_marks"
  kb_Way_init_4_early : KBn K fd_Way_init ["self", "held", "owned", "seen", "early"] 4 ["early"] (fun us ws => us ++ ws) (fun vs zs => vs ++ zs)
  kb_Policy_init_2 : ∃ ds, Vals [.ref ed_Policy_init_0] ds ∧ Binds K fd_Policy_init ["self", "shape", "rows"] ds
  c_BadShape : Addr
  g_BadShape : mg "BadShape" = some (.ref c_BadShape)
  c_UnknownMark : Addr
  g_UnknownMark : mg "UnknownMark" = some (.ref c_UnknownMark)
  c_TooLarge : Addr
  g_TooLarge : mg "TooLarge" = some (.ref c_TooLarge)
  x_BadShape : PySem.WX.ExcTxt PP K mg "BadShape" "mark" c_BadShape
  xc_BadShape : XC K c_BadShape
  xn_BadShape : PySem.W.findIn K (.ref c_BadShape) "mark" = some none
  x_UnknownMark : PySem.WX.ExcTxt PP K mg "UnknownMark" "mark" c_UnknownMark
  xc_UnknownMark : XC K c_UnknownMark
  xn_UnknownMark : PySem.W.findIn K (.ref c_UnknownMark) "mark" = some none
  x_TooLarge : PySem.WX.ExcTxt PP K mg "TooLarge" "most" c_TooLarge
  xc_TooLarge : XC K c_TooLarge
  xn_TooLarge : PySem.W.findIn K (.ref c_TooLarge) "most" = some none
end My
namespace My
open PySem L2
/-! ### heaps: all but a as it was -/
def But (a : Addr) (H H' : Hp) : Prop := ∀ b o, b ≠ a → H b = some o → H' b = some o
theorem But.refl (a : Addr) (H : Hp) : But a H H := fun _ _ _ h => h
theorem But.trans {a : Addr} {H H1 H2 : Hp} (x : But a H H1) (y : But a H1 H2) : But a H H2 := fun b o n h => y b o n (x b o n h)
theorem But.of_same {a : Addr} {H H' : Hp} (s : Same H H') : But a H H' := fun b o _ h => s b o h
theorem But.upd {a : Addr} {H : Hp} {o : HO} : But a H (upd H a o) := fun b u n h => by rw [upd_ne n]; exact h
theorem same_new {H : Hp} {p : Addr} {o : HO} (h : H p = none) : Same H (upd H p o) := fun b x e => by
  rw [upd_ne (ne_of_none e h)]; exact e
theorem But.new {a p : Addr} {H : Hp} {o : HO} (h : H p = none) : But a H (L2.upd H p o) := But.of_same (same_new h)
/-- an object that H does not know may change -/
theorem same_mut {H H' : Hp} {p : Addr} {o : HO} (e : Same H H') (h : H p = none) : Same H (upd H' p o) := fun a u ha => by
  rw [upd_ne (ne_of_none ha h)]; exact e a u ha
theorem But.mut {a p : Addr} {H H' : Hp} {o : HO} (e : But a H H') (h : H p = none) : But a H (L2.upd H' p o) := fun b u n hb => by
  rw [upd_ne (ne_of_none hb h)]; exact e b u n hb
theorem But.free {a p : Addr} {H H' : Hp} (e : But a H H') (n : p ≠ a) (h : H' p = none) : H p = none := by
  cases q : H p with
  | none => rfl
  | some o => rw [e p o n q] at h; cases h
theorem But.sqL {K : PySem.W.Frag} {a d : Addr} {H H' : Hp} {xs : List V} (e : But a H H') (n : d ≠ a) (h : SqL K H d xs) : SqL K H' d xs := by
  rcases h with (h | ⟨o, h⟩) | h
  · exact .inl (.inl (e _ _ n h))
  · exact .inl (.inr ⟨o, e _ _ n h⟩)
  · exact .inr h
theorem But.sqT {K : PySem.W.Frag} {a d : Addr} {H H' : Hp} {xs : List V} (e : But a H H') (n : d ≠ a) (h : SqT K H d xs) : SqT K H' d xs := by
  rcases h with (h | ⟨o, h⟩) | h
  · exact .inl (.inl (e _ _ n h))
  · exact .inl (.inr ⟨o, e _ _ n h⟩)
  · exact .inr h
theorem same_sqT {K : PySem.W.Frag} {d : Addr} {H H' : Hp} {xs : List V} (e : Same H H') (h : SqT K H d xs) : SqT K H' d xs := by
  rcases h with (h | ⟨o, h⟩) | h
  · exact .inl (.inl (e _ _ h))
  · exact .inl (.inr ⟨o, e _ _ h⟩)
  · exact .inr h
theorem same_make {H H5 : Hp} {x dx C : Addr} (nx : H x = none) (nd : H dx = none) (b : But x (L2.upd (L2.upd H dx (.own x)) x (.ins C dx [])) H5) : Same H H5 := fun y o h =>
  b y o (ne_of_none h nx) (by rw [upd_ne (ne_of_none h nx), upd_ne (ne_of_none h nd)]; exact h)
/-! ### tests -/
theorem iteD {c A B : Prop} [Decidable c] (h1 : c → A) (h2 : ¬ c → B) : if decide c = true then A else B := by
  by_cases h : c
  · rw [decide_eq_true h]; exact iteT (h1 h)
  · rw [decide_eq_false h]; exact iteF (h2 h)
theorem iteN {c A B : Prop} [Decidable c] (h1 : ¬ c → A) (h2 : c → B) : if (!decide c) = true then A else B := by
  by_cases h : c
  · rw [decide_eq_true h]; exact iteF (h2 h)
  · rw [decide_eq_false h]; exact iteT (h1 h)
theorem iteB {b : Bool} {A B : Prop} (h1 : b = true → A) (h2 : b = false → B) : if b = true then A else B := by
  cases b with
  | true => exact iteT (h1 rfl)
  | false => exact iteF (h2 rfl)
theorem iteYes {b : Bool} {A B : Prop} (h : b = true) (h1 : A) : if b = true then A else B := by rw [h]; exact iteT h1
theorem iteNo {b : Bool} {A B : Prop} (h : b = false) (h1 : B) : if b = true then A else B := by rw [h]; exact iteF h1
/-! ### lists -/
theorem ints_app (zs : List Int) (z : Int) : (zs.map V.int) ++ [V.int z] = (zs ++ [z]).map V.int := by rw [List.map_append]; rfl
theorem at_ok {xs : List V} {i : Int} (h0 : 0 ≤ i) (h1 : i < xs.length) : ∃ v, atI xs i = some v ∧ v ∈ xs := by
  obtain ⟨j, rfl⟩ := Int.eq_ofNat_of_zero_le h0
  have hj : j < xs.length := by omega
  exact ⟨xs[j], atI_nat (List.getElem?_eq_getElem hj), List.getElem_mem hj⟩
theorem get_int {ns : List Int} {i : Nat} {y : V} (h : (ns.map V.int)[i]? = some y) : ∃ z, ns[i]? = some z ∧ y = .int z := by
  rw [List.getElem?_map] at h
  cases e : ns[i]? with
  | none => rw [e] at h; cases h
  | some z => rw [e] at h; exact ⟨z, rfl, (Option.some.inj h).symm⟩
end My
namespace L2
open PySem
/-! ### rules whose reading names K itself (in a comprehension's block) -/
theorem ixLK {X : Cx} {K : PySem.W.Frag} (h : X.K = K) : IxR X (rIxL K) := h ▸ ix_list
theorem ixTK {X : Cx} {K : PySem.W.Frag} (h : X.K = K) : IxR X (rIxT K) := h ▸ ix_tup
theorem inK {X : Cx} {K : PySem.W.Frag} (h : X.K = K) : OpR X (compareOp .In) (rIn K false) := h ▸ op_in_seq
theorem ninK {X : Cx} {K : PySem.W.Frag} (h : X.K = K) : OpR X (compareOp .NotIn) (rIn K true) := h ▸ op_notIn_seq
theorem pe_fldK {X : Cx} {K : PySem.W.Frag} {e : Expr} {f : Str} {pos : Pos} {ta : TE} (h : X.K = K) (he : PE X e ta) (hb : attributeBase e f X.env (eval e X.env) = eval e X.env) : PE X (.Attribute e f pos) (tFld K ta f) := h ▸ pe_fld he hb
end L2

namespace My
open PySem L2
/-- the draws at d, the place at a -/
structure Dr (K : PySem.W.Frag) (H : Hp) (d a : Addr) : Prop where
  ds : ∃ ns : List Int, H d = some (.lst (ns.map V.int))
  pl : ∃ k : Nat, H a = some (.lst [.int k])
  ne : d ≠ a
theorem Dr.but {K : PySem.W.Frag} {H H' : Hp} {d a : Addr} (x : Dr K H d a) (e : But a H H') (pl : ∃ k : Nat, H' a = some (.lst [.int k])) : Dr K H' d a :=
  ⟨x.ds.elim fun ns h => ⟨ns, e _ _ x.ne h⟩, pl, x.ne⟩
theorem Dr.same {K : PySem.W.Frag} {H H' : Hp} {d a : Addr} (x : Dr K H d a) (e : Same H H') : Dr K H' d a :=
  x.but (But.of_same e) (x.pl.elim fun k h => ⟨k, e _ _ h⟩)
/-- another object is changed -/
theorem Dr.other {K : PySem.W.Frag} {H H' : Hp} {d a p : Addr} (x : Dr K H d a) (e : But p H H') (n1 : d ≠ p) (n2 : a ≠ p) : Dr K H' d a :=
  ⟨x.ds.elim fun ns h => ⟨ns, e _ _ n1 h⟩, x.pl.elim fun k h => ⟨k, e _ _ n2 h⟩, x.ne⟩
theorem Dr.nd {K : PySem.W.Frag} {H : Hp} {d a p : Addr} (x : Dr K H d a) (h : H p = none) : d ≠ p := ne_of_none x.ds.choose_spec h
theorem Dr.na {K : PySem.W.Frag} {H : Hp} {d a p : Addr} (x : Dr K H d a) (h : H p = none) : p ≠ a := (ne_of_none x.pl.choose_spec h).symm
def spTake (K : PySem.W.Frag) : Sp := fun vs H Q _ => ∃ (d a : Addr) (size : Int), vs = [.ref d, .ref a, .int size] ∧ Dr K H d a ∧ 0 < size ∧
  ∀ (r : Int) (H' : Hp), 0 ≤ r → r < size → Dr K H' d a → But a H H' → Q (.int r) H'
section
variable {P : Program} {w : World} {K : PySem.W.Frag} {mg : Str → Option Value} {base : Heap}
theorem ok__law_take (T : Txt K mg) : FnOk P w K mg base CX0 1 T.a__law_take T.fd__law_take ["_law_draws_here", "_law_at", "_law_size"] (spTake K) := by
  refine T.F__law_take.ok sc__law_take (fun vs H Q E h => ?_) (fun cdv A outer s H vs Q E hr h => ?_)
  · obtain ⟨d, a, size, rfl, _⟩ := h; rfl
  · obtain ⟨d, a, size, rfl, D, hs, q⟩ := h
    obtain ⟨ns, hd0⟩ := D.ds
    have hd : SqL K H d (ns.map V.int) := SqL.of hd0
    obtain ⟨k, hk⟩ := D.pl
    have hb : But a H (upd H a (.lst [.int (k + 1 : Nat)])) := But.upd
    have D' : Dr K (upd H a (.lst [.int (k + 1 : Nat)])) d a := D.but hb ⟨_, upd_same⟩
    have hd' := hb.sqL D.ne hd
    refine ⟨_, (pss_cons (ps_asg (pe_op op_add (pe_ix ix_list (pv 1) (pe_int) (fun _ _ => rfl)) (pe_int)) (pg_sub (pv 1) (pe_int) set_list))
      (pss_cons (ps_if (pt_cmpR op_gt (pe_ix ix_list (pv 1) (pe_int) (fun _ _ => rfl)) (pe_callB call_len_seq (by rfl) T.n_len (by decide +kernel) (pa_cons (pv 0) pa_nil)) (nomark _)) (pss_one (ps_ret (pe_int))) pss_nil)
      (pss_one (ps_ret (pe_op op_mod (pe_callTy call_int1 (by rfl) T.n_int (by decide +kernel) (pa_cons (pe_ix ix_list (pv 0) (pe_op op_sub (pe_ix ix_list (pv 1) (pe_int) (fun _ _ => rfl)) (pe_int)) (fun _ _ => rfl)) pa_nil)) (pv 2)))))), ?_⟩
    walk_at "rd"

    refine iteD (fun c => ?_) (fun c => ?_)
    · exact q 0 _ (Int.le_refl _) hs D' hb
    · rw [List.length_map] at c
      have hl : k < ns.length := by omega
      refine ⟨_, rfl, _, rfl, _, _, _, _, rfl, rfl, SqL.of upd_same, atI_nat (j := 0) rfl, _, _, rfl, rfl, _, _, _, _, rfl, rfl, hd', at_of (j := k) (by omega) (by rw [List.getElem?_map, List.getElem?_eq_getElem hl]; rfl), ?_⟩
      walk_at "rd"
      exact q _ _ (Int.emod_nonneg _ (by omega)) (Int.emod_lt_of_pos _ hs) D' hb
end
end My

namespace My
open PySem L2
def spDraws (K : PySem.W.Frag) : Sp := fun vs H Q _ => ∃ (a : Addr) (ns : List Int), vs = [.ref a] ∧ SqL K H a (ns.map V.int) ∧ ns.length ≤ 63 ∧
  ∀ (p : Addr) (zs : List Int) (H' : Hp), Same H H' → H p = none → H' p = some (.lst (zs.map V.int)) → Q (.ref p) H'
section
variable {P : Program} {w : World} {K : PySem.W.Frag} {mg : Str → Option Value} {base : Heap}
theorem ok__law_draws (T : Txt K mg) : FnOk P w K mg base CX0 1 T.a__law_draws T.fd__law_draws ["_law_script"] (spDraws K) := by
  refine T.F__law_draws.ok sc__law_draws (fun vs H Q E h => ?_) (fun cdv A outer s H vs Q E hr h => ?_)
  · obtain ⟨a, ns, rfl, _⟩ := h; rfl
  · obtain ⟨a, ns, rfl, hS, hlen, q⟩ := h
    refine ⟨_, (pss_cons (ps_set (i := 1) sc__law_draws.nd rfl (.inl rfl) (pe_lst pa_nil))
      (pss_cons (ps_for PassesOwn.never rfl (pi_list (pv 0)) (pg_name (i := 2) sc__law_draws.nd rfl (.inl rfl)) (pss_one (ps_if (pt_cmpR op_ge (pv 2) (pe_op op_pow (pe_int) (pe_int)) (nomark _)) (pss_cons (ps_set (i := 3) sc__law_draws.nd rfl (.inl rfl) (pe_callTy call_int1 (by rfl) T.n_int (by decide +kernel) (pa_cons (pv 2) pa_nil)))
      (pss_one (ps_for PassesOwn.never rfl (pi_range1 (by rfl) T.n_range (pa_cons (pe_int) pa_nil)) (pg_name (i := 4) sc__law_draws.nd rfl (.inl rfl)) (pss_one (ps_if (pt_cmpR op_gt (pv 3) (pe_int) (nomark _)) (pss_cons (ps_expr (pe_bm PySem.F.plainAttrs_list PySem.F.slot_list_append PySem.F.type_list_append mt_append (pv 1) (pa_cons (pe_op op_mod (pe_callTy call_int1 (by rfl) T.n_int (by decide +kernel) (pa_cons (pv 3) pa_nil)) (pe_int)) pa_nil)))
      (pss_one (ps_set (i := 3) sc__law_draws.nd rfl (.inl rfl) (pe_op op_fdiv (pv 3) (pe_int))))) pss_nil))))) (pss_cons (ps_set (i := 5) sc__law_draws.nd rfl (.inl rfl) (pe_op op_mod (pe_callTy call_int1 (by rfl) T.n_int (by decide +kernel) (pa_cons (pe_op op_add (pe_op op_mul (pv 2) (pe_int)) (pe_int)) pa_nil)) (pe_int)))
      (pss_cons (ps_expr (pe_bm PySem.F.plainAttrs_list PySem.F.slot_list_append PySem.F.type_list_append mt_append (pv 1) (pa_cons (pv 5) pa_nil)))
      (pss_one (ps_expr (pe_bm PySem.F.plainAttrs_list PySem.F.slot_list_append PySem.F.type_list_append mt_append (pv 1) (pa_cons (pe_op op_mod (pe_callTy call_int1 (by rfl) T.n_int (by decide +kernel) (pa_cons (pe_op op_add (pe_op op_add (pe_op op_mul (pv 5) (pv 5)) (pe_op op_mul (pe_int) (pv 5))) (pe_op op_mul (pe_int) (pe_callB call_len_seq (by rfl) T.n_len (by decide +kernel) (pa_cons (pv 1) pa_nil)))) pa_nil)) (pe_int)) pa_nil)))))))))
      (pss_one (ps_ret (pv 1))))), ?_⟩
    refine ⟨Nat.zero_le _, fun p hp => ?_⟩
    have s0 : Same H (upd H p (.lst [])) := same_new hp
    refine ⟨_, rfl, a, rfl, ⟨_, s0.seq hS⟩, for_list (K := K) (a := a) (xs := ns.map V.int) (fun i σ H' => ∃ (zs : List Int) (x2 x3 x4 x5 : Option V), σ = [some (.ref a), some (.ref p), x2, x3, x4, x5] ∧ Same H H' ∧ H' p = some (.lst (zs.map V.int)) ∧ zs.length ≤ 60 * i)
      ⟨[], _, _, _, _, rfl, s0, upd_same, Nat.zero_le _⟩ (fun i σ H' _ ⟨_, _, _, _, _, _, s1, _⟩ => s1.seq hS) ?_ ?_⟩
    · rintro i y σ H1 hi ⟨zs, x2, x3, x4, x5, rfl, s1, h1, hz⟩
      have hi63 : i < ns.length := by
        have z := (List.getElem?_eq_some_iff.mp hi).1
        rw [List.length_map] at z
        exact z
      obtain ⟨c, hc, rfl⟩ := get_int hi
      refine ⟨_, rfl, _, _, rfl, rfl, ⟨by decide, by decide, by decide⟩, ?_⟩
      walk_at "rd"
      refine iteD (fun c1 => ?_) (fun c1 => ?_)
      · refine ⟨_, rfl, .inl ⟨_, rfl, ?_⟩⟩
        refine ⟨60, rfl, by decide, by decide, for_range (lo := 0) (n := 60) (fun j σ H' => ∃ (zs : List Int) (r : Int) (x4 : Option V), σ = [some (.ref a), some (.ref p), some (.int c), some (.int r), x4, x5] ∧ Same H H' ∧ H' p = some (.lst (zs.map V.int)) ∧ zs.length ≤ 60 * i + j)
          ⟨zs, c, x4, rfl, s1, h1, hz⟩ ?_ ?_⟩
        · rintro j σ H2 hj ⟨zs, r, x4, rfl, s2, h2, hz2⟩
          walk_at "rd"
          refine iteD (fun c2 => ?_) (fun c2 => ?_)
          · refine ⟨_, rfl, .inl ⟨rfl, _, SqL.of h2⟩, _, rfl, .inl ⟨_, rfl, _, _, rfl, rfl, (by show (0 : Int) < 1000; decide), _, _, _, rfl, rfl, h2, by rw [List.length_map]; exact Nat.lt_of_le_of_lt (by omega : _ ≤ 100000) (by decide), ?_⟩⟩
            refine ⟨_, rfl, _, _, rfl, rfl, ⟨by decide, by decide⟩, ?_⟩
            exact ⟨zs ++ [r % 1000], _, _, rfl, same_mut s2 hp, by rw [upd_same, ints_app], by rw [List.length_append, List.length_singleton]; omega⟩
          · exact ⟨zs, r, _, rfl, s2, h2, by omega⟩
        · rintro σ H2 ⟨zs, r, x4, rfl, s2, h2, hz2⟩
          exact ⟨zs, _, _, _, _, rfl, s2, h2, by omega⟩
      · refine ⟨_, rfl, _, _, rfl, rfl, .inr ⟨by decide, by decide⟩, _, _, rfl, rfl, .inl ⟨_, rfl, _, _, rfl, rfl, (by show (0 : Int) < 9973; decide), ?_⟩⟩
        have hm0 : 0 ≤ (c * 48271 + 12345) % 9973 := Int.emod_nonneg _ (by decide)
        have hm1 : (c * 48271 + 12345) % 9973 < 9973 := Int.emod_lt_of_pos _ (by decide)
        refine ⟨_, rfl, .inl ⟨rfl, _, SqL.of h1⟩, _, rfl, _, _, _, rfl, rfl, h1, by rw [List.length_map]; exact Nat.lt_of_le_of_lt (by omega : _ ≤ 100000) (by decide), ?_⟩
        refine ⟨_, rfl, .inl ⟨rfl, _, SqL.of upd_same⟩, _, rfl, _, rfl, _, _, rfl, rfl, .inl ⟨by omega, by omega⟩, _, rfl, _, _, rfl, rfl, .inl ⟨by decide, by decide⟩, _, _, rfl, rfl, _, rfl, _, _, rfl, .inl (SqL.of upd_same), _, _, rfl, rfl, .inl ⟨by decide, by decide⟩, _, _, rfl, rfl, .inl ⟨_, rfl, _, _, rfl, rfl, (by show (0 : Int) < 9949; decide), ?_⟩⟩
        refine ⟨_, _, _, rfl, rfl, upd_same, by rw [List.length_append, List.length_map]; exact Nat.lt_of_le_of_lt (by simp; omega : _ ≤ 100000) (by decide), ?_⟩
        rw [ints_app, ints_app, upd_upd]
        exact ⟨_, _, _, _, _, rfl, same_mut s1 hp, upd_same, by simp; omega⟩
    · rintro σ H1 ⟨zs, x2, x3, x4, x5, rfl, s1, h1, hz⟩
      exact ⟨_, rfl, q p zs H1 s1 hp h1⟩
end
end My

namespace My
open PySem L2
/-! ### plain data -/
inductive Sc : V → PyData → Prop
  | non : Sc .non .none
  | bl (b : Bool) : Sc (.bl b) (.bool b)
  | int (i : Int) : Sc (.int i) (.int i)
  | str (z : Str) : Sc (.str z) (.str z)
/-- a list that stays where x alone is changed; a tuple likewise -/
def SL (K : PySem.W.Frag) (x : Addr) (H : Hp) (a : Addr) (xs : List V) : Prop := (a ≠ x ∧ SqL K H a xs) ∨ ∀ H', SqL K H' a xs
def SU (K : PySem.W.Frag) (x : Addr) (H : Hp) (a : Addr) (xs : List V) : Prop := (a ≠ x ∧ SqT K H a xs) ∨ ∀ H', SqT K H' a xs
section
variable {K : PySem.W.Frag} {x : Addr} {H H' : Hp} {a : Addr} {xs : List V}
theorem SL.sq (h : SL K x H a xs) : SqL K H a xs := by
  rcases h with h | h
  · exact h.2
  · exact h H
theorem SU.sq (h : SU K x H a xs) : SqT K H a xs := by
  rcases h with h | h
  · exact h.2
  · exact h H
theorem SL.but (h : SL K x H a xs) (e : But x H H') : SL K x H' a xs := by
  rcases h with ⟨n, h⟩ | h
  · exact .inl ⟨n, e.sqL n h⟩
  · exact .inr h
theorem SU.but (h : SU K x H a xs) (e : But x H H') : SU K x H' a xs := by
  rcases h with ⟨n, h⟩ | h
  · exact .inl ⟨n, e.sqT n h⟩
  · exact .inr h
theorem tyL (h : SqL K H a xs) : TyX K H (.ref a) (.type "list") := by
  rcases h with (h | ⟨o, h⟩) | ⟨o, its, n, h, c, _⟩
  · exact .base (.lst h)
  · exact .base (.frz h)
  · exact .kList h c
theorem tyT (h : SqT K H a xs) : TyX K H (.ref a) (.type "tuple") := by
  rcases h with (h | ⟨o, h⟩) | ⟨o, its, n, h, c, _⟩
  · exact .base (.tup h)
  · exact .fTuple h
  · exact .kTuple h c
end
/-- data of depth n at most -/
def Dn (K : PySem.W.Frag) (x : Addr) (H : Hp) : Nat → V → PyData → Prop
  | 0, v, d => Sc v d
  | n + 1, v, d => Sc v d ∨ (∃ a xs ds, v = .ref a ∧ d = .list ds ∧ SL K x H a xs ∧ xs.length ≤ 100000 ∧ Paired (Dn K x H n) xs ds) ∨ ∃ a xs ds, v = .ref a ∧ d = .tuple ds ∧ SU K x H a xs ∧ xs.length ≤ 100000 ∧ Paired (Dn K x H n) xs ds
theorem Dn.sc {K : PySem.W.Frag} {x : Addr} {H : Hp} {v : V} {d : PyData} (h : Sc v d) : ∀ n, Dn K x H n v d
  | 0 => h
  | _ + 1 => .inl h
theorem Dn.but {K : PySem.W.Frag} {x : Addr} {H H' : Hp} (e : But x H H') : ∀ {n : Nat} {v : V} {d : PyData}, Dn K x H n v d → Dn K x H' n v d
  | 0, _, _, h => h
  | n + 1, v, d, h => by
    rcases h with h | ⟨a, xs, ds, rfl, rfl, h, hz, p⟩ | ⟨a, xs, ds, rfl, rfl, h, hz, p⟩
    · exact .inl h
    · exact .inr (.inl ⟨a, xs, ds, rfl, rfl, h.but e, hz, L2.Paired.mapP p fun _ _ z => Dn.but e z⟩)
    · exact .inr (.inr ⟨a, xs, ds, rfl, rfl, h.but e, hz, L2.Paired.mapP p fun _ _ z => Dn.but e z⟩)
theorem Dn.lst {K : PySem.W.Frag} {x : Addr} {H : Hp} {n : Nat} {a : Addr} {xs : List V} {ds : List PyData} (ne : a ≠ x) (h : SqL K H a xs) (p : Paired (Dn K x H n) xs ds) (hz : xs.length ≤ 100000 := by simp) : Dn K x H (n + 1) (.ref a) (.list ds) :=
  .inr (.inl ⟨a, xs, ds, rfl, rfl, .inl ⟨ne, h⟩, hz, p⟩)
theorem Dn.tup {K : PySem.W.Frag} {x : Addr} {H : Hp} {n : Nat} {a : Addr} {xs : List V} {ds : List PyData} (ne : a ≠ x) (h : SqT K H a xs) (p : Paired (Dn K x H n) xs ds) (hz : xs.length ≤ 100000 := by simp) : Dn K x H (n + 1) (.ref a) (.tuple ds) :=
  .inr (.inr ⟨a, xs, ds, rfl, rfl, .inl ⟨ne, h⟩, hz, p⟩)
theorem Dn.int {K : PySem.W.Frag} {x : Addr} {H : Hp} (i : Int) {n : Nat} : Dn K x H n (.int i) (.int i) := Dn.sc (.int i) n
theorem Dn.str {K : PySem.W.Frag} {x : Addr} {H : Hp} (i : Str) {n : Nat} : Dn K x H n (.str i) (.str i) := Dn.sc (.str i) n
theorem Dn.bl {K : PySem.W.Frag} {x : Addr} {H : Hp} (i : Bool) {n : Nat} : Dn K x H n (.bl i) (.bool i) := Dn.sc (.bl i) n
theorem Dn.non {K : PySem.W.Frag} {x : Addr} {H : Hp} {n : Nat} : Dn K x H n .non .none := Dn.sc .non n
theorem Dn.up {K : PySem.W.Frag} {x : Addr} {H : Hp} : ∀ {n : Nat} {v : V} {d : PyData}, Dn K x H n v d → Dn K x H (n + 1) v d
  | 0, _, _, h => .inl h
  | n + 1, v, d, h => by
    rcases h with h | ⟨a, xs, ds, rfl, rfl, h, hz, p⟩ | ⟨a, xs, ds, rfl, rfl, h, hz, p⟩
    · exact .inl h
    · exact .inr (.inl ⟨a, xs, ds, rfl, rfl, h, hz, L2.Paired.mapP p fun _ _ z => Dn.up z⟩)
    · exact .inr (.inr ⟨a, xs, ds, rfl, rfl, h, hz, L2.Paired.mapP p fun _ _ z => Dn.up z⟩)
theorem pair_get {α β : Type} {F : α → β → Prop} : ∀ {l : List α} {m : List β} {i : Nat} {x : α}, Paired F l m → l[i]? = some x → ∃ y, m[i]? = some y ∧ F x y
  | _, _, _, _, .nil, e => by simp at e
  | _, _, 0, _, .cons r _, e => by simp at e; subst e; exact ⟨_, rfl, r⟩
  | _, _, i + 1, x, .cons _ t, e => by
    obtain ⟨y, h1, h2⟩ := pair_get (i := i) (x := x) t (by simpa using e)
    exact ⟨y, by simpa using h1, h2⟩
theorem pair_len {α β : Type} {F : α → β → Prop} : ∀ {l : List α} {m : List β}, Paired F l m → l.length = m.length
  | _, _, .nil => rfl
  | _, _, .cons _ t => by rw [List.length_cons, List.length_cons, pair_len t]
noncomputable def sameD (d e : PyData) : Bool := @decide (d = e) (Classical.propDecidable _)
theorem same_yes {d e : PyData} (h : d = e) : sameD d e = true := by unfold sameD; exact @decide_eq_true _ (Classical.propDecidable _) h
theorem same_no {d e : PyData} (h : d ≠ e) : sameD d e = false := by unfold sameD; exact @decide_eq_false _ (Classical.propDecidable _) h
theorem same_iff {d e : PyData} : sameD d e = true ↔ d = e := by
  constructor
  · intro h
    by_cases q : d = e
    · exact q
    · rw [same_no q] at h; cases h
  · exact same_yes
theorem same_of {p : Prop} [Decidable p] {d e : PyData} (h : d = e ↔ p) : sameD d e = decide p := by
  by_cases q : p
  · rw [decide_eq_true q, same_yes (h.mpr q)]
  · rw [decide_eq_false q, same_no (fun z => q (h.mp z))]
def spSame (K : PySem.W.Frag) (n : Nat) : Sp := fun vs H Q _ => ∃ (x : Addr) (v1 v2 : V) (d1 d2 : PyData), vs = [v1, v2] ∧ Dn K x H n v1 d1 ∧ Dn K x H n v2 d2 ∧ Q (.bl (sameD d1 d2)) H
end My
local macro_rules | `(tactic| walk_at "ty") => `(tactic| first | exact .base (.int _) | exact .base (.bl _) | exact .base .non | exact .base (.str _) | exact My.tyL (by assumption) | exact My.tyT (by assumption))
local macro_rules | `(tactic| walk_at "is") => `(tactic| first | refine ⟨_, _, _, _, true, rfl, L2.ClsV.ty _, (by walk_at "ty"), L2.kit_ty (by decide +kernel), ?_⟩ | refine ⟨_, _, _, _, false, rfl, L2.ClsV.ty _, (by walk_at "ty"), L2.kit_ty (by decide +kernel), ?_⟩)
local macro_rules | `(tactic| walk_at "ri") => `(tactic| repeat (first | walk_at "is" | refine ⟨_, rfl, ?_⟩ | refine ⟨rfl, ?_⟩))
namespace My
open PySem L2
theorem same_bl (a b : Bool) : sameD (.bool a) (.bool b) = decide (V.bl a = V.bl b) := same_of ⟨fun h => by cases h; rfl, fun h => by cases h; rfl⟩
theorem same_int (a b : Int) : sameD (.int a) (.int b) = decide (V.int a = V.int b) := same_of ⟨fun h => by cases h; rfl, fun h => by cases h; rfl⟩
theorem same_str (a b : Str) : sameD (.str a) (.str b) = decide (V.str a = V.str b) := same_of ⟨fun h => by cases h; rfl, fun h => by cases h; rfl⟩
theorem same_non : sameD .none .none = true := same_yes rfl
theorem same_lst (a b : List PyData) : sameD (.list a) (.list b) = true ↔ a = b := same_iff.trans ⟨fun h => by cases h; rfl, fun h => by cases h; rfl⟩
theorem same_tup (a b : List PyData) : sameD (.tuple a) (.tuple b) = true ↔ a = b := same_iff.trans ⟨fun h => by cases h; rfl, fun h => by cases h; rfl⟩
section
variable {P : Program} {w : World} {K : PySem.W.Frag} {mg : Str → Option Value} {base : Heap}
set_option maxHeartbeats 8000000 in
theorem ok__law_same (T : Txt K mg) : ∀ n, FnOk P w K mg base CX0 (n + 1) T.a__law_same T.fd__law_same ["_law_actual", "_law_expected"] (spSame K n)
  | 0 => by
    refine T.F__law_same.ok sc__law_same (fun vs H Q E h => ?_) (fun cdv A outer s H vs Q E hr h => ?_)
    · obtain ⟨x, v1, v2, d1, d2, rfl, _⟩ := h; rfl
    · obtain ⟨x, v1, v2, d1, d2, rfl, h1, h2, q⟩ := h
      refine ⟨_, (pss_cons (ps_if (PW.pt (pw_or (pt_val (pe_callB call_isi (by rfl) T.n_isinstance (by decide +kernel) (pa_cons (pv 0) (pa_cons (pe_bltn (v := .ty "bool") (by rfl) T.n_bool (by decide +kernel) rfl) pa_nil)))) (pw_or1 (pt_val (pe_callB call_isi (by rfl) T.n_isinstance (by decide +kernel) (pa_cons (pv 1) (pa_cons (pe_bltn (v := .ty "bool") (by rfl) T.n_bool (by decide +kernel) rfl) pa_nil))))))) (pss_one (ps_ret (pe_and (pe_callB call_isi (by rfl) T.n_isinstance (by decide +kernel) (pa_cons (pv 0) (pa_cons (pe_bltn (v := .ty "bool") (by rfl) T.n_bool (by decide +kernel) rfl) pa_nil))) (pe_and (pe_callB call_isi (by rfl) T.n_isinstance (by decide +kernel) (pa_cons (pv 1) (pa_cons (pe_bltn (v := .ty "bool") (by rfl) T.n_bool (by decide +kernel) rfl) pa_nil))) (pe_one (pe_cmpR op_eq (pv 0) (pv 1) (nomark _))))))) pss_nil)
      (pss_cons (ps_if (PW.pt (pw_or (pt_cmpR op_isN (pv 0) (pe_non) (nomark _)) (pw_or1 (pt_cmpR op_isN (pv 1) (pe_non) (nomark _))))) (pss_one (ps_ret (pe_and (pe_cmpR op_isN (pv 0) (pe_non) (nomark _)) (pe_one (pe_cmpR op_isN (pv 1) (pe_non) (nomark _)))))) pss_nil)
      (pss_cons (ps_if (pt_val (pe_callB call_isi (by rfl) T.n_isinstance (by decide +kernel) (pa_cons (pv 1) (pa_cons (pe_bltn (v := .ty "int") (by rfl) T.n_int (by decide +kernel) rfl) pa_nil)))) (pss_one (ps_ret (pe_and (pe_callB call_isi (by rfl) T.n_isinstance (by decide +kernel) (pa_cons (pv 0) (pa_cons (pe_bltn (v := .ty "int") (by rfl) T.n_int (by decide +kernel) rfl) pa_nil))) (pe_one (pe_cmpR op_eq (pv 0) (pv 1) (nomark _)))))) pss_nil)
      (pss_cons (ps_if (pt_val (pe_callB call_isi (by rfl) T.n_isinstance (by decide +kernel) (pa_cons (pv 1) (pa_cons (pe_bltn (v := .ty "str") (by rfl) T.n_str (by decide +kernel) rfl) pa_nil)))) (pss_one (ps_ret (pe_and (pe_callB call_isi (by rfl) T.n_isinstance (by decide +kernel) (pa_cons (pv 0) (pa_cons (pe_bltn (v := .ty "str") (by rfl) T.n_str (by decide +kernel) rfl) pa_nil))) (pe_one (pe_cmpR op_eq (pv 0) (pv 1) (nomark _)))))) pss_nil)
      (pss_cons (ps_if (PW.pt (pw_and (pt_val (pe_callB call_isi (by rfl) T.n_isinstance (by decide +kernel) (pa_cons (pv 1) (pa_cons (pe_bltn (v := .ty "tuple") (by rfl) T.n_tuple (by decide +kernel) rfl) pa_nil)))) (pw_and1 (pt_not (pt_val (pe_callB call_isi (by rfl) T.n_isinstance (by decide +kernel) (pa_cons (pv 0) (pa_cons (pe_bltn (v := .ty "tuple") (by rfl) T.n_tuple (by decide +kernel) rfl) pa_nil)))))))) (pss_one (ps_ret (pe_bl))) pss_nil)
      (pss_cons (ps_if (PW.pt (pw_and (pt_val (pe_callB call_isi (by rfl) T.n_isinstance (by decide +kernel) (pa_cons (pv 1) (pa_cons (pe_bltn (v := .ty "list") (by rfl) T.n_list (by decide +kernel) rfl) pa_nil)))) (pw_and1 (pt_not (pt_val (pe_callB call_isi (by rfl) T.n_isinstance (by decide +kernel) (pa_cons (pv 0) (pa_cons (pe_bltn (v := .ty "list") (by rfl) T.n_list (by decide +kernel) rfl) pa_nil)))))))) (pss_one (ps_ret (pe_bl))) pss_nil)
      (pss_cons (ps_if (pt_cmpR op_ne (pe_callB call_len_seq (by rfl) T.n_len (by decide +kernel) (pa_cons (pv 0) pa_nil)) (pe_callB call_len_seq (by rfl) T.n_len (by decide +kernel) (pa_cons (pv 1) pa_nil)) (nomark _)) (pss_one (ps_ret (pe_bl))) pss_nil)
      (pss_cons ps_never
      (pss_one (ps_ret (pe_bl))))))))))), ?_⟩
      cases h1 <;> cases h2
      all_goals walk_at "ri"
      all_goals first | (rw [same_no (by intro z; cases z)] at q; exact q) | (rw [same_bl] at q; exact q) | (rw [same_int] at q; exact q) | (rw [same_str] at q; exact q) | (rw [same_non] at q; exact q)
  | n + 1 => by
    refine T.F__law_same.ok sc__law_same (fun vs H Q E h => ?_) (fun cdv A outer s H vs Q E hr h => ?_)
    · obtain ⟨x, v1, v2, d1, d2, rfl, _⟩ := h; rfl
    · obtain ⟨x, v1, v2, d1, d2, rfl, h1, h2, q⟩ := h
      refine ⟨_, (pss_cons (ps_if (PW.pt (pw_or (pt_val (pe_callB call_isi (by rfl) T.n_isinstance (by decide +kernel) (pa_cons (pv 0) (pa_cons (pe_bltn (v := .ty "bool") (by rfl) T.n_bool (by decide +kernel) rfl) pa_nil)))) (pw_or1 (pt_val (pe_callB call_isi (by rfl) T.n_isinstance (by decide +kernel) (pa_cons (pv 1) (pa_cons (pe_bltn (v := .ty "bool") (by rfl) T.n_bool (by decide +kernel) rfl) pa_nil))))))) (pss_one (ps_ret (pe_and (pe_callB call_isi (by rfl) T.n_isinstance (by decide +kernel) (pa_cons (pv 0) (pa_cons (pe_bltn (v := .ty "bool") (by rfl) T.n_bool (by decide +kernel) rfl) pa_nil))) (pe_and (pe_callB call_isi (by rfl) T.n_isinstance (by decide +kernel) (pa_cons (pv 1) (pa_cons (pe_bltn (v := .ty "bool") (by rfl) T.n_bool (by decide +kernel) rfl) pa_nil))) (pe_one (pe_cmpR op_eq (pv 0) (pv 1) (nomark _))))))) pss_nil)
      (pss_cons (ps_if (PW.pt (pw_or (pt_cmpR op_isN (pv 0) (pe_non) (nomark _)) (pw_or1 (pt_cmpR op_isN (pv 1) (pe_non) (nomark _))))) (pss_one (ps_ret (pe_and (pe_cmpR op_isN (pv 0) (pe_non) (nomark _)) (pe_one (pe_cmpR op_isN (pv 1) (pe_non) (nomark _)))))) pss_nil)
      (pss_cons (ps_if (pt_val (pe_callB call_isi (by rfl) T.n_isinstance (by decide +kernel) (pa_cons (pv 1) (pa_cons (pe_bltn (v := .ty "int") (by rfl) T.n_int (by decide +kernel) rfl) pa_nil)))) (pss_one (ps_ret (pe_and (pe_callB call_isi (by rfl) T.n_isinstance (by decide +kernel) (pa_cons (pv 0) (pa_cons (pe_bltn (v := .ty "int") (by rfl) T.n_int (by decide +kernel) rfl) pa_nil))) (pe_one (pe_cmpR op_eq (pv 0) (pv 1) (nomark _)))))) pss_nil)
      (pss_cons (ps_if (pt_val (pe_callB call_isi (by rfl) T.n_isinstance (by decide +kernel) (pa_cons (pv 1) (pa_cons (pe_bltn (v := .ty "str") (by rfl) T.n_str (by decide +kernel) rfl) pa_nil)))) (pss_one (ps_ret (pe_and (pe_callB call_isi (by rfl) T.n_isinstance (by decide +kernel) (pa_cons (pv 0) (pa_cons (pe_bltn (v := .ty "str") (by rfl) T.n_str (by decide +kernel) rfl) pa_nil))) (pe_one (pe_cmpR op_eq (pv 0) (pv 1) (nomark _)))))) pss_nil)
      (pss_cons (ps_if (PW.pt (pw_and (pt_val (pe_callB call_isi (by rfl) T.n_isinstance (by decide +kernel) (pa_cons (pv 1) (pa_cons (pe_bltn (v := .ty "tuple") (by rfl) T.n_tuple (by decide +kernel) rfl) pa_nil)))) (pw_and1 (pt_not (pt_val (pe_callB call_isi (by rfl) T.n_isinstance (by decide +kernel) (pa_cons (pv 0) (pa_cons (pe_bltn (v := .ty "tuple") (by rfl) T.n_tuple (by decide +kernel) rfl) pa_nil)))))))) (pss_one (ps_ret (pe_bl))) pss_nil)
      (pss_cons (ps_if (PW.pt (pw_and (pt_val (pe_callB call_isi (by rfl) T.n_isinstance (by decide +kernel) (pa_cons (pv 1) (pa_cons (pe_bltn (v := .ty "list") (by rfl) T.n_list (by decide +kernel) rfl) pa_nil)))) (pw_and1 (pt_not (pt_val (pe_callB call_isi (by rfl) T.n_isinstance (by decide +kernel) (pa_cons (pv 0) (pa_cons (pe_bltn (v := .ty "list") (by rfl) T.n_list (by decide +kernel) rfl) pa_nil)))))))) (pss_one (ps_ret (pe_bl))) pss_nil)
      (pss_cons (ps_if (pt_cmpR op_ne (pe_callB call_len_seq (by rfl) T.n_len (by decide +kernel) (pa_cons (pv 0) pa_nil)) (pe_callB call_len_seq (by rfl) T.n_len (by decide +kernel) (pa_cons (pv 1) pa_nil)) (nomark _)) (pss_one (ps_ret (pe_bl))) pss_nil)
      (pss_cons (ps_for PassesOwn.never rfl (pi_range1 (by rfl) T.n_range (pa_cons (pe_callB call_len_seq (by rfl) T.n_len (by decide +kernel) (pa_cons (pv 1) pa_nil)) pa_nil)) (pg_name (i := 2) sc__law_same.nd rfl (.inl rfl)) (pss_one (ps_if (pt_not (pt_val (pe_call (ok__law_same T n) (hr.mono (by omega)) (by rfl) T.g__law_same T.F__law_same.kp T.b__law_same .nil pass0 (pa_cons (pe_ix ix_seq (pv 0) (pv 2) (fun _ _ => rfl)) (pa_cons (pe_ix ix_seq (pv 1) (pv 2) (fun _ _ => rfl)) pa_nil))))) (pss_one (ps_ret (pe_bl))) pss_nil)))
      (pss_one (ps_ret (pe_bl))))))))))), ?_⟩
      rcases h1 with h1 | ⟨a1, xs1, ds1, rfl, rfl, h1, z1, p1⟩ | ⟨a1, xs1, ds1, rfl, rfl, h1, z1, p1⟩ <;> rcases h2 with h2 | ⟨a2, xs2, ds2, rfl, rfl, h2, z2, p2⟩ | ⟨a2, xs2, ds2, rfl, rfl, h2, z2, p2⟩
      · cases h1 <;> cases h2
        all_goals walk_at "ri"
        all_goals first | (rw [same_no (by intro z; cases z)] at q; exact q) | (rw [same_bl] at q; exact q) | (rw [same_int] at q; exact q) | (rw [same_str] at q; exact q) | (rw [same_non] at q; exact q)
      · have t2 := h2.sq
        cases h1
        all_goals (walk_at "ri"; rw [same_no (by intro z; cases z)] at q; exact q)
      · have t2 := h2.sq
        cases h1
        all_goals (walk_at "ri"; rw [same_no (by intro z; cases z)] at q; exact q)
      · have t1 := h1.sq
        cases h2
        all_goals (walk_at "ri"; rw [same_no (by intro z; cases z)] at q; exact q)
      · have t1 := h1.sq
        have t2 := h2.sq
        walk_at "ri"
        refine ⟨_, _, rfl, .inl t1, _, rfl, _, _, rfl, .inl t2, rfl, _, rfl, ?_⟩
        have l1 := pair_len p1
        have l2 := pair_len p2
        refine iteN (fun c => ?_) (fun c => ?_)
        · rw [same_no (by intro z; cases z; exact c (by rw [l1, l2]))] at q; exact q
        have c' : xs1.length = xs2.length := by have := V.int.inj c; omega
        refine ⟨_, rfl, _, _, rfl, .inl t2, _, rfl, by omega, by omega, for_range (lo := 0) (n := _) (fun j σ H' => ∃ x2, σ = [some (.ref a1), some (.ref a2), x2] ∧ H' = H ∧ ds1.take j = ds2.take j) ⟨_, rfl, rfl, rfl⟩ ?_ ?_⟩
        · rintro j σ H1 hj ⟨x2, rfl, rfl, et⟩
          have j2 : j < xs2.length := by omega
          have j1 : j < xs1.length := by omega
          obtain ⟨e1, g1, r1⟩ := pair_get p1 (List.getElem?_eq_getElem j1)
          obtain ⟨e2, g2, r2⟩ := pair_get p2 (List.getElem?_eq_getElem j2)
          refine ⟨_, rfl, _, rfl, .inl ⟨_, _, _, _, rfl, rfl, t1, at_of (j := j) (by omega) (List.getElem?_eq_getElem j1), ?_⟩⟩
          refine ⟨_, rfl, _, rfl, .inl ⟨_, _, _, _, rfl, rfl, t2, at_of (j := j) (by omega) (List.getElem?_eq_getElem j2), ?_⟩⟩
          refine ⟨x, _, _, e1, e2, rfl, r1, r2, _, rfl, ?_⟩
          refine iteB (fun b => ?_) (fun b => ?_)
          · have ne : e1 ≠ e2 := fun h => by rw [same_yes h] at b; cases b
            rw [same_no (by intro z; cases z; rw [g1] at g2; exact ne (Option.some.inj g2))] at q; exact q
          · have ee : e1 = e2 := by
              apply same_iff.mp
              cases h : sameD e1 e2 with
              | true => rfl
              | false => rw [h] at b; cases b
            subst ee
            exact ⟨_, rfl, rfl, by rw [List.take_add_one, List.take_add_one, et, g1, g2]⟩
        · rintro σ H1 ⟨x2, rfl, rfl, et⟩
          have ed : ds1 = ds2 := by
            rw [List.take_of_length_le (by omega), List.take_of_length_le (by omega)] at et
            exact et
          subst ed
          rw [same_yes rfl] at q; exact q
      · have t1 := h1.sq
        have t2 := h2.sq
        walk_at "ri"
        rw [same_no (by intro z; cases z)] at q; exact q
      · have t1 := h1.sq
        cases h2
        all_goals (walk_at "ri"; rw [same_no (by intro z; cases z)] at q; exact q)
      · have t1 := h1.sq
        have t2 := h2.sq
        walk_at "ri"
        rw [same_no (by intro z; cases z)] at q; exact q
      · have t1 := h1.sq
        have t2 := h2.sq
        walk_at "ri"
        refine ⟨_, _, rfl, .inr t1, _, rfl, _, _, rfl, .inr t2, rfl, _, rfl, ?_⟩
        have l1 := pair_len p1
        have l2 := pair_len p2
        refine iteN (fun c => ?_) (fun c => ?_)
        · rw [same_no (by intro z; cases z; exact c (by rw [l1, l2]))] at q; exact q
        have c' : xs1.length = xs2.length := by have := V.int.inj c; omega
        refine ⟨_, rfl, _, _, rfl, .inr t2, _, rfl, by omega, by omega, for_range (lo := 0) (n := _) (fun j σ H' => ∃ x2, σ = [some (.ref a1), some (.ref a2), x2] ∧ H' = H ∧ ds1.take j = ds2.take j) ⟨_, rfl, rfl, rfl⟩ ?_ ?_⟩
        · rintro j σ H1 hj ⟨x2, rfl, rfl, et⟩
          have j2 : j < xs2.length := by omega
          have j1 : j < xs1.length := by omega
          obtain ⟨e1, g1, r1⟩ := pair_get p1 (List.getElem?_eq_getElem j1)
          obtain ⟨e2, g2, r2⟩ := pair_get p2 (List.getElem?_eq_getElem j2)
          refine ⟨_, rfl, _, rfl, .inr (.inl ⟨_, _, _, _, rfl, rfl, t1, at_of (j := j) (by omega) (List.getElem?_eq_getElem j1), ?_⟩)⟩
          refine ⟨_, rfl, _, rfl, .inr (.inl ⟨_, _, _, _, rfl, rfl, t2, at_of (j := j) (by omega) (List.getElem?_eq_getElem j2), ?_⟩)⟩
          refine ⟨x, _, _, e1, e2, rfl, r1, r2, _, rfl, ?_⟩
          refine iteB (fun b => ?_) (fun b => ?_)
          · have ne : e1 ≠ e2 := fun h => by rw [same_yes h] at b; cases b
            rw [same_no (by intro z; cases z; rw [g1] at g2; exact ne (Option.some.inj g2))] at q; exact q
          · have ee : e1 = e2 := by
              apply same_iff.mp
              cases h : sameD e1 e2 with
              | true => rfl
              | false => rw [h] at b; cases b
            subst ee
            exact ⟨_, rfl, rfl, by rw [List.take_add_one, List.take_add_one, et, g1, g2]⟩
        · rintro σ H1 ⟨x2, rfl, rfl, et⟩
          have ed : ds1 = ds2 := by
            rw [List.take_of_length_le (by omega), List.take_of_length_le (by omega)] at et
            exact et
          subst ed
          rw [same_yes rfl] at q; exact q
end
theorem nsame {d : PyData} : (!sameD d d) = false := by rw [same_yes rfl]; rfl
end My

namespace My
open PySem L2
/-! ### lists of ints: in, flat; slices -/
theorem flat_ints (ns : List Int) : (ns.map V.int).all flatV = true := by
  rw [List.all_eq_true]
  intro v h
  obtain ⟨n, _, rfl⟩ := List.mem_map.mp h
  rfl
theorem in_ints (n : Int) (ns : List Int) : inV (.int n) (ns.map V.int) = decide (n ∈ ns) := by
  unfold inV
  rw [List.any_map, Bool.eq_iff_iff, List.any_eq_true, decide_eq_true_iff]
  constructor
  · rintro ⟨m, h, e⟩
    have e : (m == n) = true := e
    rw [← beq_iff_eq.mp e]; exact h
  · intro h
    exact ⟨n, h, by show (n == n) = true; simp⟩
theorem cut_to (xs : List V) (n : Nat) : cutV xs none (some (n : Int)) = xs.take n := by
  unfold cutV HT.sIx
  simp only [List.drop_zero, Nat.sub_zero]
  have h0 : ¬ (n : Int) < 0 := by omega
  simp only [h0, if_false]
  by_cases h : n ≤ xs.length
  · congr 1
    omega
  · rw [List.take_of_length_le (by omega), List.take_of_length_le (by omega)]
theorem cut_from (xs : List V) (n : Nat) : cutV xs (some (n : Int)) none = xs.drop n := by
  unfold cutV HT.sIx
  have h0 : ¬ (n : Int) < 0 := by omega
  simp only [h0, if_false]
  by_cases h : n ≤ xs.length
  · rw [List.take_of_length_le (by rw [List.length_drop]; omega)]
    congr 1
    omega
  · rw [List.drop_eq_nil_of_le (by omega), List.drop_eq_nil_of_le (by omega), List.take_nil]
end My

namespace My
open PySem L2
/-! ### shapes: rows -/
structure Row where
  mark : Str
  pars : List Str
  least : Int
  most : Int
  sh : Bool
  deriving DecidableEq
def isMk (t : Str) : Bool := decide (1 ≤ t.length ∧ t.length ≤ 8) && (TL.tl t).all fun c => decide (97 ≤ c ∧ c ≤ 122)
def spMark : Sp := fun vs H Q _ => ∃ (z : Str), vs = [.str z] ∧ z.length ≤ 90000 ∧ Q (.bl (isMk z)) H
theorem letter_mem {c : Nat} : c ∈ ("abcdefghijklmnopqrstuvwxyz" : Str).cps.toList ↔ 97 ≤ c ∧ c ≤ 122 := by
  rw [show ("abcdefghijklmnopqrstuvwxyz" : Str).cps.toList = [97, 98, 99, 100, 101, 102, 103, 104, 105, 106, 107, 108, 109, 110, 111, 112, 113, 114, 115, 116, 117, 118, 119, 120, 121, 122] by decide +kernel]
  simp only [List.mem_cons, List.not_mem_nil, or_false]
  omega
section
variable {w : World} {K : PySem.W.Frag} {mg : Str → Option Value} {base : Heap}
theorem ok_is_mark (T : Txt K mg) : FnOk PP w K mg base CX0 1 T.a_is_mark T.fd_is_mark ["text"] spMark := by
  refine T.F_is_mark.ok sc_is_mark (fun vs H Q E h => ?_) (fun cdv A outer s H vs Q E hr h => ?_)
  · obtain ⟨z, rfl, _⟩ := h; rfl
  · obtain ⟨z, rfl, hz, q⟩ := h
    refine ⟨_, (pss_cons (ps_if (pt_not (pt_chain op_le op_le (pe_int) (pe_callB call_len_str (by rfl) T.n_len (by decide +kernel) (pa_cons (pv 0) pa_nil)) (pe_int))) (pss_one (ps_ret (pe_bl))) pss_nil)
      (pss_cons (ps_for PassesOwn.never rfl (pi_str (pv 0)) (pg_name (i := 1) sc_is_mark.nd rfl (.inl rfl)) (pss_one (ps_if (pt_cmpR op_notInS (pv 1) (pe_glob (v := .str "abcdefghijklmnopqrstuvwxyz") (by rfl) T.g_LETTERS ⟨_, rfl⟩) (by with_unfolding_all rfl)) (pss_one (ps_ret (pe_bl))) pss_nil)))
      (pss_one (ps_ret (pe_bl))))), ?_⟩
    have big : 90000 < sizeLine := by decide
    by_cases k1 : 1 ≤ z.length
    case neg =>
      rw [show isMk z = false by unfold isMk; rw [decide_eq_false (by omega)]; rfl] at q
      exact ⟨_, rfl, z, rfl, by omega, _, _, rfl, rfl, _, rfl, iteNo (decide_eq_false (by omega)) ⟨_, rfl, iteYes rfl q⟩⟩
    refine ⟨_, rfl, z, rfl, by omega, _, _, rfl, rfl, _, rfl, iteYes (decide_eq_true (by omega)) ⟨_, _, rfl, rfl, _, rfl, ?_⟩⟩
    by_cases k9 : z.length ≤ 8
    case neg =>
      rw [show isMk z = false by unfold isMk; rw [decide_eq_false (by omega)]; rfl] at q
      exact iteYes (by rw [decide_eq_false (by omega)]; rfl) q
    refine iteNo (by rw [decide_eq_true (by omega)]; rfl) ?_
    refine ⟨_, rfl, z, rfl, for_str (z := z) (fun i σ H' => ∃ x1, H' = H ∧ σ = [some (.str z), x1] ∧ ∀ j, j < i → ∀ c, (TL.tl z)[j]? = some c → 97 ≤ c ∧ c ≤ 122) ⟨_, rfl, rfl, fun j hj => absurd hj (Nat.not_lt_zero _)⟩ ?_ ?_⟩
    · rintro i c σ H' hc ⟨x1, rfl, rfl, hp⟩
      refine ⟨_, rfl, c, _, rfl, rfl, _, rfl, iteN (fun h => ?_) (fun h => ?_)⟩
      · rw [show isMk z = false by
          unfold isMk
          rw [List.all_eq_false.mpr ⟨c, List.mem_of_getElem? hc, by simpa using fun a => Nat.lt_of_not_le fun b => h (letter_mem.mpr ⟨a, b⟩)⟩, Bool.and_false]] at q
        exact q
      · refine ⟨_, rfl, rfl, fun j hj c' hc' => ?_⟩
        by_cases e : j = i
        · subst e
          rw [hc] at hc'
          exact Option.some.inj hc' ▸ letter_mem.mp h
        · exact hp j (by omega) c' hc'
    · rintro σ H' ⟨x1, rfl, rfl, hp⟩
      rw [show isMk z = true by
        unfold isMk
        rw [decide_eq_true ⟨k1, k9⟩, Bool.true_and, List.all_eq_true]
        intro c hc
        obtain ⟨j, hj, e⟩ := List.getElem_of_mem hc
        exact decide_eq_true (hp j (by rw [TL.len_tl]; exact hj) c (by rw [List.getElem?_eq_getElem hj, e]))] at q
      exact q
end
end My

namespace My
open PySem L2
def rowL (r : Row) (pp : Addr) : List V := [.str r.mark, .ref pp, .int r.least, .int r.most, .bl r.sh]
/-- a row as it is handed over: lists or tuples -/
def RowV (H : Hp) (v : V) (r : Row) : Prop := ∃ p pp, v = .ref p ∧ (H p = some (.tup (rowL r pp)) ∨ H p = some (.lst (rowL r pp))) ∧ (H pp = some (.tup (r.pars.map V.str)) ∨ H pp = some (.lst (r.pars.map V.str)))
/-- a row as it is kept -/
def RowT (H : Hp) (v : V) (r : Row) : Prop := ∃ p pp, v = .ref p ∧ H p = some (.tup (rowL r pp)) ∧ H pp = some (.tup (r.pars.map V.str))
def small (r : Row) : Prop := r.mark.length ≤ 1000 ∧ r.pars.length ≤ 100
def sizeB (r : Row) : Bool := decide (0 ≤ r.least) && (decide (r.least ≤ r.most) && decide (r.most ≤ 4))
def fineB (r : Row) (bs : List Str) : Bool := (isMk r.mark && (!decide (r.mark ∈ bs) && sizeB r)) && (decide (0 < r.most) == decide (0 < r.pars.length)) && decide r.pars.Nodup
def spRow (X : Addr) : Sp := fun vs H Q E => ∃ (v : V) (b : Addr) (r : Row) (bs : List Str), vs = [v, .ref b] ∧ RowV H v r ∧ H b = some (.lst (bs.map V.str)) ∧ small r ∧
  (fineB r bs = true → ∀ p pp H', Same H H' → H p = none → H' p = some (.tup (rowL r pp)) → H' pp = some (.tup (r.pars.map V.str)) → Q (.ref p) H') ∧
  (fineB r bs = false → ∀ H' d, Same H H' → H d = none → H' d = some (.xd [("mark", .str r.mark)]) → E (.ref X) (some d) H')
theorem flat_strs (ns : List Str) : (ns.map V.str).all flatV = true := by
  rw [List.all_eq_true]
  intro v h
  obtain ⟨n, _, rfl⟩ := List.mem_map.mp h
  rfl
theorem in_strs (n : Str) (ns : List Str) : inV (.str n) (ns.map V.str) = decide (n ∈ ns) := by
  unfold inV
  rw [List.any_map, Bool.eq_iff_iff, List.any_eq_true, decide_eq_true_iff]
  constructor
  · rintro ⟨m, h, e⟩
    have e : (m == n) = true := e
    rw [← beq_iff_eq.mp e]; exact h
  · intro h
    exact ⟨n, h, by show (n == n) = true; simp⟩
theorem nodup_take_succ {xs : List Str} {i : Nat} {y : Str} (h : xs[i]? = some y) : (xs.take (i + 1)).Nodup ↔ (xs.take i).Nodup ∧ y ∉ xs.take i := by
  rw [List.take_succ, h, Option.toList_some, List.nodup_append]
  constructor
  · rintro ⟨a, _, b⟩
    exact ⟨a, fun m => b y m y (List.mem_singleton.mpr rfl) rfl⟩
  · rintro ⟨a, b⟩
    refine ⟨a, List.nodup_cons.mpr ⟨List.not_mem_nil, List.nodup_nil⟩, fun x hx z hz e => b ?_⟩
    rw [List.mem_singleton.mp hz] at e
    exact e ▸ hx
section
variable {w : World} {K : PySem.W.Frag} {mg : Str → Option Value} {base : Heap}
theorem ok_sound_row (T : Txt K mg) : FnOk PP w K mg base (L2.CX PP w) 3 T.a_sound_row T.fd_sound_row ["row", "before"] (spRow T.c_BadShape) := by
  refine T.F_sound_row.okX sc_sound_row (fun vs H Q E h => ?_) (fun cdv A outer s H vs Q E hr h => ?_)
  · obtain ⟨v, b, r, bs, rfl, _⟩ := h; rfl
  · obtain ⟨v, b, r, bs, rfl, ⟨p, pp, rfl, hp, hpp⟩, hb, hz, q, qb⟩ := h
    refine ⟨_, (pss_cons (ps_asg (pv 0) (pg_seq rfl (pgs_cons (pg_name (i := 2) sc_sound_row.nd rfl (.inl rfl)) (pgs_cons (pg_name (i := 3) sc_sound_row.nd rfl (.inl rfl)) (pgs_cons (pg_name (i := 4) sc_sound_row.nd rfl (.inl rfl)) (pgs_cons (pg_name (i := 5) sc_sound_row.nd rfl (.inl rfl)) (pgs_cons (pg_name (i := 6) sc_sound_row.nd rfl (.inl rfl)) pgs_nil)))))))
      (C8.pss_cut (ps_set (i := 3) sc_sound_row.nd rfl (.inl rfl) (pe_callTy call_tuple_of (by rfl) T.n_tuple (by decide +kernel) (pa_cons (pv 3) pa_nil)))
      (C8.pss_cut (ps_set (i := 7) sc_sound_row.nd rfl (.inl rfl) (pe_and (pe_call (ok_is_mark T) (hr.mono (by omega)) (by rfl) T.g_is_mark T.F_is_mark.kp T.b_is_mark .nil pass0 (pa_cons (pv 2) pa_nil)) (pe_and (pe_cmpR op_notIn_seq (pv 2) (pv 1) (by with_unfolding_all rfl)) (pe_one (pe_chain3 op_le op_le op_le (pe_int) (pv 4) (pv 5) (ClX.pe_cval (pe_glob (v := .ref T.c_Shape) (by rfl) T.g_Shape rfl)))))))
      (C8.pss_cut (ps_if (PW.pt (pw_and (pt_val (pv 7)) (pw_and1 (pt_cmpR op_ne (pe_cmpR op_gt (pv 5) (pe_int) (nomark _)) (pe_cmpR op_gt (pe_callB call_len_seq (by rfl) T.n_len (by decide +kernel) (pa_cons (pv 3) pa_nil)) (pe_int) (nomark _)) (nomark _))))) (pss_one (ps_set (i := 7) sc_sound_row.nd rfl (.inl rfl) (pe_bl))) pss_nil)
      (pss_cons (ps_for (passes_of rfl) rfl (pi_enumT (by rfl) T.n_enumerate (pa_cons (pv 3) pa_nil)) (pg_tup rfl (pgs_cons (pg_name (i := 8) sc_sound_row.nd rfl (.inl rfl)) (pgs_cons (pg_name (i := 9) sc_sound_row.nd rfl (.inl rfl)) pgs_nil))) (pss_one (ps_if (pt_cmpR op_in_seq (pv 9) (pe_slice sl_tup (pv 3) po_none (po_some (pv 8))) (by with_unfolding_all rfl)) (pss_one (ps_set (i := 7) sc_sound_row.nd rfl (.inl rfl) (pe_bl))) pss_nil)))
      (pss_cons (ps_if (pt_not (pt_val (pv 7))) (pss_one (ps_raiseX rfl T.x_BadShape hr (takes_of rfl rfl rfl rfl) (pa_cons (pv 2) pa_nil))) pss_nil)
      (pss_one (ps_ret (pe_tup (pa_cons (pv 2) (pa_cons (pv 3) (pa_cons (pv 4) (pa_cons (pv 5) (pa_cons (pv 6) pa_nil)))))))))))))), ?_⟩
    have big : 90000 < sizeLine := by decide
    refine ⟨_, rfl, gSeq_of hp rfl ⟨_, _, rfl, _, _, rfl, _, _, rfl, _, _, rfl, _, _, rfl, rfl, ?_⟩⟩
    have lm := hz.1
    have lp := hz.2
    -- parents = tuple(parents)
    refine ⟨fun σ' H' => ∃ pq, σ' = [some (.ref p), some (.ref b), some (.str r.mark), some (.ref pq), some (.int r.least), some (.int r.most), some (.bl r.sh), none, none, none] ∧ Same H H' ∧ H' pq = some (.tup (r.pars.map V.str)), ?_, ?_⟩
    · rcases hpp with hpp | hpp
      · exact ⟨_, rfl, pp, _, rfl, .inr ⟨SqT.of hpp, pp, rfl, fun _ _ h => h, hpp⟩⟩
      · exact ⟨_, rfl, pp, _, rfl, .inl ⟨SqL.of hpp, fun l hl => ⟨l, rfl, same_new hl, upd_same⟩⟩⟩
    rintro σ' H1 ⟨pq, rfl, s1, hq⟩
    -- good
    refine ⟨fun σ' H' => H' = H1 ∧ σ' = [some (.ref p), some (.ref b), some (.str r.mark), some (.ref pq), some (.int r.least), some (.int r.most), some (.bl r.sh), some (.bl (isMk r.mark && (!decide (r.mark ∈ bs) && sizeB r))), none, none], ?_, ?_⟩
    · refine ⟨_, rfl, r.mark, rfl, by omega, ?_⟩
      refine ⟨_, rfl, ?_⟩
      cases isMk r.mark with
      | false => exact iteF ⟨rfl, rfl⟩
      | true =>
        refine iteT ⟨_, rfl, _, rfl, _, _, rfl, .inl (SqL.of (s1 _ _ hb)), rfl, flat_strs bs, ?_⟩
        rw [in_strs]
        refine ⟨_, rfl, ?_⟩
        by_cases hm : r.mark ∈ bs
        · refine iteNo (by simp [hm]) ⟨rfl, ?_⟩
          rw [show (true && (!decide (r.mark ∈ bs) && sizeB r)) = false by simp [hm]]
          rfl
        · refine iteYes (by simp [hm]) ⟨_, rfl, _, _, rfl, rfl, _, rfl, iteD (fun c1 => ?_) (fun c1 => ?_)⟩
          · refine ⟨_, rfl, _, _, rfl, rfl, _, rfl, iteD (fun c2 => ?_) (fun c2 => ?_)⟩
            · refine ⟨_, _, _, _, rfl, T.cr_Shape, T.cv_Shape_PARENTS, _, _, rfl, rfl, rfl, ?_⟩
              rw [show (true && (!decide (r.mark ∈ bs) && sizeB r)) = decide (r.most ≤ 4) by simp [hm, sizeB, c1, c2]]
              rfl
            · refine ⟨rfl, ?_⟩
              rw [show (true && (!decide (r.mark ∈ bs) && sizeB r)) = false by simp [hm, sizeB, c2]]
              rfl
          · refine ⟨rfl, ?_⟩
            rw [show (true && (!decide (r.mark ∈ bs) && sizeB r)) = false by simp [hm, sizeB, c1]]
            rfl
    rintro σ' H' ⟨rfl, rfl⟩
    generalize hg0 : (isMk r.mark && (!decide (r.mark ∈ bs) && sizeB r)) = g0
    -- parents and the greatest number
    refine ⟨fun σ' H1 => H1 = H' ∧ σ' = [some (.ref p), some (.ref b), some (.str r.mark), some (.ref pq), some (.int r.least), some (.int r.most), some (.bl r.sh), some (.bl (g0 && (decide (0 < r.most) == decide (0 < r.pars.length)))), none, none], ?_, ?_⟩
    · refine ⟨_, rfl, _, rfl, ?_⟩
      cases g0 with
      | false => exact iteF ⟨rfl, rfl⟩
      | true =>
        refine iteT ⟨_, rfl, _, _, rfl, rfl, _, rfl, pq, _, rfl, .inr (SqT.of hq), _, _, rfl, rfl, rfl, _, rfl, ?_⟩
        rw [List.length_map]
        have hz : decide ((0 : Int) < ((r.pars.length : Nat) : Int)) = decide (0 < r.pars.length) := decide_eq_decide.mpr (by omega)
        refine iteN (fun e => ?_) (fun e => ?_)
        · refine ⟨rfl, ?_⟩
          have e : decide (0 < r.most) ≠ decide (0 < r.pars.length) := fun z => e (congrArg V.bl (z.trans hz.symm))
          rw [show (true && (decide (0 < r.most) == decide (0 < r.pars.length))) = false by simpa using e]
          rfl
        · refine ⟨rfl, ?_⟩
          have e : decide (0 < r.most) = decide (0 < r.pars.length) := (V.bl.inj e).trans hz
          rw [e]; simp
    rintro σ' H1 ⟨rfl, rfl⟩
    generalize hg1 : (g0 && (decide (0 < r.most) == decide (0 < r.pars.length))) = g1
    refine ⟨_, rfl, pq, _, rfl, SqT.of hq, for_enumT (K := K) (a := pq) (xs := r.pars.map V.str) (fun i σ' H2 => ∃ x8 x9, Same H1 H2 ∧ σ' = [some (.ref p), some (.ref b), some (.str r.mark), some (.ref pq), some (.int r.least), some (.int r.most), some (.bl r.sh), some (.bl (g1 && decide (r.pars.take i).Nodup)), x8, x9])
      ⟨_, _, fun _ _ h => h, by rw [List.take_zero, decide_eq_true List.nodup_nil, Bool.and_true]⟩ (fun i σ' H2 _ ⟨_, _, s2, _⟩ => SqT.of (s2 _ _ hq)) ?_ ?_⟩
    · rintro i v σ' H2 Tt hv ⟨x8, x9, s2, rfl⟩ hTt
      obtain ⟨y, hy, rfl⟩ : ∃ y, r.pars[i]? = some y ∧ v = .str y := by
        rw [List.getElem?_map] at hv
        cases e : r.pars[i]? with
        | none => rw [e] at hv; cases hv
        | some y => rw [e] at hv; exact ⟨y, rfl, (Option.some.inj hv).symm⟩
      have s3 := s2.trans (same_new (o := .tup [.int (i : Nat), .str y]) hTt)
      have hi : i < r.pars.length := (List.getElem?_eq_some_iff.mp hy).1
      have hpq : (L2.upd H2 Tt (.tup [.int (i : Nat), .str y])) pq = some (.tup (r.pars.map V.str)) := s3 _ _ hq
      refine ⟨Tt, _, rfl, .inl (.inl upd_same), rfl, _, _, rfl, _, _, rfl, rfl, ?_⟩
      refine ⟨_, rfl, _, rfl, _, rfl, _, rfl, pq, _, rfl, SqT.of hpq, ?_, fun c hc => ?_⟩
      · rw [HT.sIx_nat, List.length_map, Nat.min_eq_left (Nat.le_of_lt hi)]
        exact fun h => absurd h.2 (by omega)
      · have ct : cutV (r.pars.map V.str) none (some ((i : Nat) : Int)) = (r.pars.take i).map V.str := by rw [cut_to, List.map_take]
        refine ⟨_, _, rfl, .inr (SqT.of upd_same), rfl, by rw [ct]; exact flat_strs _, ?_⟩
        rw [ct, in_strs]
        refine ⟨_, rfl, iteD (fun k => ?_) (fun k => ?_)⟩
        · refine ⟨some (.int (i : Nat)), some (.str y), s3.trans (same_new hc), ?_⟩
          rw [decide_eq_false (p := (r.pars.take (i + 1)).Nodup) (fun n => ((nodup_take_succ hy).mp n).2 k), Bool.and_false]
          rfl
        · refine ⟨some (.int (i : Nat)), some (.str y), s3.trans (same_new hc), ?_⟩
          rw [show decide (r.pars.take (i + 1)).Nodup = decide (r.pars.take i).Nodup from decide_eq_decide.mpr ⟨fun n => ((nodup_take_succ hy).mp n).1, fun n => (nodup_take_succ hy).mpr ⟨n, k⟩⟩]
          rfl
    rintro σ' H2 ⟨x8, x9, s2, rfl⟩
    rw [List.length_map, List.take_length]
    have ef : fineB r bs = (g1 && decide r.pars.Nodup) := by unfold fineB; rw [hg0, hg1]
    have t2 := s1.trans s2
    refine ⟨_, rfl, _, rfl, ?_⟩
    rw [← ef]
    cases hf : fineB r bs with
    | false =>
      refine iteYes rfl ⟨_, rfl, _, rfl, fun d hd => ?_⟩
      exact qb hf _ d (t2.trans (same_new hd)) (t2.free hd) upd_same
    | true =>
      refine iteNo rfl ⟨_, rfl, _, rfl, _, rfl, _, rfl, _, rfl, by show 5 ≤ sizeLine; decide, fun z hz' => ?_⟩
      exact q hf z pq _ (t2.trans (same_new hz')) (t2.free hz') upd_same (same_new hz' _ _ (s2 _ _ hq))
end
end My

namespace My
open PySem L2
/-! ### marks that webs can contain -/
inductive Fert (rs : List Row) : Str → Prop
  | base {r : Row} : r ∈ rs → r.least = 0 → Fert rs r.mark
  | step {r : Row} {p : Str} : r ∈ rs → p ∈ r.pars → Fert rs p → Fert rs r.mark
abbrev RowsT (H : Hp) (vs : List V) (rs : List Row) : Prop := Paired (RowT H) vs rs
theorem RowT.same {H H' : Hp} {v : V} {r : Row} (h : RowT H v r) (s : Same H H') : RowT H' v r := let ⟨p, pp, e, a, b⟩ := h; ⟨p, pp, e, s _ _ a, s _ _ b⟩
theorem rowsT_same {H H' : Hp} {vs : List V} {rs : List Row} (h : RowsT H vs rs) (s : Same H H') : RowsT H' vs rs := L2.Paired.mapP h fun _ _ x => x.same s
theorem pair_get' {α β : Type} {F : α → β → Prop} : ∀ {l : List α} {m : List β} {i : Nat} {x : α}, Paired F l m → l[i]? = some x → ∃ y, m[i]? = some y ∧ F x y
  | _, _, _, _, .nil, e => by simp at e
  | _, _, 0, _, .cons r _, e => by simp at e; subst e; exact ⟨_, rfl, r⟩
  | _, _, i + 1, x, .cons _ t, e => by
    obtain ⟨y, h1, h2⟩ := pair_get' (i := i) (x := x) t (by simpa using e)
    exact ⟨y, by simpa using h1, h2⟩
theorem pair_len' {α β : Type} {F : α → β → Prop} : ∀ {l : List α} {m : List β}, Paired F l m → l.length = m.length
  | _, _, .nil => rfl
  | _, _, .cons _ t => by rw [List.length_cons, List.length_cons, pair_len' t]
/-- the first mark that no web can contain -/
inductive Lost (rs : List Row) : V → Prop
  | no : (∀ r ∈ rs, Fert rs r.mark) → Lost rs .non
  | yes {i : Nat} {r : Row} : rs[i]? = some r → (∀ q ∈ rs.take i, Fert rs q.mark) → ¬ Fert rs r.mark → Lost rs (.str r.mark)
def spBarren (K : PySem.W.Frag) : Sp := fun vs H Q _ => ∃ (a : Addr) (us : List V) (rs : List Row), vs = [.ref a] ∧ H a = some (.lst us) ∧ RowsT H us rs ∧ rs.length ≤ 100 ∧ (∀ r ∈ rs, small r) ∧
  ∀ v H', Same H H' → Lost rs v → Q v H'
def knB (kvs : List (Key × V)) (m : Str) : Bool := (valV kvs (.inr m)).isSome
theorem knB_put {kvs : List (Key × V)} {m n : Str} {v : V} : knB (putK kvs (.inr m) v) n = (decide (n = m) || knB kvs n) := by
  unfold knB
  rw [valV_put]
  by_cases e : n = m
  · subst e; simp
  · rw [if_neg (fun c => e (Sum.inr.inj c))]; simp [e]
def ripeB (kvs : List (Key × V)) (r : Row) : Bool := decide (r.least = 0) || r.pars.any (knB kvs)
/-- rows whose marks are not known -/
def restOf (kvs : List (Key × V)) (rs : List Row) : Nat := (rs.filter fun r => !knB kvs r.mark).length
theorem flt_lt {α : Type} {f g : α → Bool} {x : α} : ∀ {l : List α}, (∀ y ∈ l, f y = true → g y = true) → x ∈ l → f x = false → g x = true → (l.filter f).length < (l.filter g).length
  | [], _, h, _, _ => by cases h
  | a :: l, i, h, hf, hg => by
    have le : ∀ {l : List α}, (∀ y ∈ l, f y = true → g y = true) → (l.filter f).length ≤ (l.filter g).length := by
      intro l
      induction l with
      | nil => intro _; exact Nat.le_refl _
      | cons a l ih =>
        intro i
        have ih := ih fun y hy => i y (List.mem_cons_of_mem _ hy)
        have ia := i a (List.mem_cons_self ..)
        simp only [List.filter_cons]
        cases e : f a with
        | false => cases g a <;> simp <;> omega
        | true => rw [ia e]; simp; exact ih
    have il := fun y hy => i y (List.mem_cons_of_mem _ hy)
    simp only [List.filter_cons]
    rcases List.mem_cons.mp h with rfl | h
    · rw [hf, hg]
      simp only [Bool.false_eq_true, if_false, if_true, List.length_cons]
      exact Nat.lt_succ_of_le (le il)
    · have := flt_lt il h hf hg
      have ia := i a (List.mem_cons_self ..)
      cases e : f a with
      | false => cases g a <;> simp <;> omega
      | true => rw [ia e]; simp; exact this
theorem rest_put {kvs : List (Key × V)} {rs : List Row} {r : Row} {v : V} (h : r ∈ rs) (n : knB kvs r.mark = false) : restOf (putK kvs (.inr r.mark) v) rs < restOf kvs rs := by
  refine flt_lt (x := r) (fun y _ e => ?_) h ?_ ?_
  · rw [knB_put] at e
    cases k : knB kvs y.mark with
    | false => rfl
    | true => rw [k, Bool.or_true] at e; cases e
  · rw [knB_put]; simp
  · rw [n]; rfl
section
variable {K : PySem.W.Frag}
theorem any_kn {x0 x2 x3 x5 x6 x7 x8 : Option V} {d pp : Addr} {ps : List Str} {kvs : List (Key × V)} {H : Hp} {Q : VK} (hd : H d = some (.dK kvs)) (hp : H pp = some (.tup (ps.map V.str))) (hz : ps.length ≤ 1000) (q : ∀ H', Same H H' → Q (.bl (ps.any (knB kvs))) H') :
    tCB (rAny K) (tCons (tLc (iTup K (tVar 4)) (gName 7) tYes (tOp (rInKd false) (tVar 7) (tVar 1)) [7]) tNil) [x0, some (.ref d), x2, x3, some (.ref pp), x5, x6, x7, x8] H Q := by
  have big : 1000 < sizeLine := by decide
  refine ⟨_, rfl, pp, rfl, ⟨_, SqT.of hp⟩, fun D hD => lc_tup (K := K) (a := pp) (xs := ps.map V.str) (fun i H' => Same H H' ∧ H' D = some (.lst ((ps.take i).map fun y => V.bl (knB kvs y)))) ⟨same_new hD, upd_same⟩ (fun i H' _ h => SqT.of (h.1 _ _ hp)) ?_ ?_⟩
  · rintro i v H1 hv ⟨s1, hD1⟩
    rw [List.getElem?_map] at hv
    cases e : ps[i]? with
    | none => rw [e] at hv; cases hv
    | some y1 =>
      rw [e] at hv
      obtain rfl : V.str y1 = v := Option.some.inj hv
      refine ⟨rfl, ?_⟩
      unfold tYes
      refine iteT ⟨_, rfl, _, rfl, d, _, rfl, DGet.k (k := .inr y1) (s1 _ _ hd), _, hD1, ?_, same_mut s1 hD, ?_⟩
      · rw [List.length_map, List.length_take]; omega
      · rw [upd_same, List.take_succ, e]
        simp [knB]
  · rintro H1 ⟨s1, hD1⟩
    rw [List.length_map, List.take_length] at hD1
    refine ⟨D, ps.map fun y => knB kvs y, rfl, SqL.of (by rw [hD1, List.map_map]; rfl), ?_⟩
    rw [List.any_map]
    exact q H1 s1
end
theorem fert_known {rs : List Row} {kvs : List (Key × V)} (cl : ∀ r ∈ rs, knB kvs r.mark = false → ripeB kvs r = false) {m : Str} (h : Fert rs m) : knB kvs m = true := by
  induction h with
  | @base r hr e =>
    cases k : knB kvs r.mark with
    | true => rfl
    | false =>
      have := cl r hr k
      unfold ripeB at this
      rw [decide_eq_true e, Bool.true_or] at this; cases this
  | @step r p hr hp _ ih =>
    cases k : knB kvs r.mark with
    | true => rfl
    | false =>
      have := cl r hr k
      unfold ripeB at this
      rw [List.any_eq_true.mpr ⟨p, hp, ih⟩, Bool.or_true] at this; cases this
theorem ripe_fert {rs : List Row} {kvs : List (Key × V)} (so : ∀ m, knB kvs m = true → Fert rs m) {r : Row} (hr : r ∈ rs) (h : ripeB kvs r = true) : Fert rs r.mark := by
  unfold ripeB at h
  rw [Bool.or_eq_true, decide_eq_true_iff, List.any_eq_true] at h
  rcases h with h | ⟨p, hp, k⟩
  · exact .base hr h
  · exact .step hr hp (so p k)
section
variable {w : World} {K : PySem.W.Frag} {mg : Str → Option Value} {base : Heap}
theorem ok_barren (T : Txt K mg) : FnOk PP w K mg base CX0 2 T.a_barren T.fd_barren ["rows"] (spBarren K) := by
  refine T.F_barren.ok sc_barren (fun vs H Q E h => ?_) (fun cdv A outer s H vs Q E hr h => ?_)
  · obtain ⟨a, us, rs, rfl, _⟩ := h; rfl
  · obtain ⟨a, us, rs, rfl, ha, hR, hz, hsm, q⟩ := h
    refine ⟨_, (pss_cons (ps_set (i := 1) sc_barren.nd rfl (.inr rfl) (pe_dnewK))
      (pss_cons (ps_set (i := 2) sc_barren.nd rfl (.inl rfl) (pe_bl))
      (pss_cons (ps_while PassesOwn.never (pt_val (pv 2)) (pss_cons (ps_set (i := 2) sc_barren.nd rfl (.inl rfl) (pe_bl))
      (pss_one (ps_for PassesOwn.never rfl (pi_list (pv 0)) (pg_tup rfl (pgs_cons (pg_name (i := 3) sc_barren.nd rfl (.inl rfl)) (pgs_cons (pg_name (i := 4) sc_barren.nd rfl (.inl rfl)) (pgs_cons (pg_name (i := 5) sc_barren.nd rfl (.inl rfl)) (pgs_cons (pg_name (i := 6) sc_barren.nd rfl (.inl rfl)) (pgs_cons (pg_name (i := 6) sc_barren.nd rfl (.inl rfl)) pgs_nil)))))) (pss_one (ps_if (PW.pt (pw_and (pt_cmpR (op_ninKd (hu_of hr)) (pv 3) (pv 1) (by with_unfolding_all rfl)) (pw_and1 (PW.pt (pw_or (pt_cmpR op_eq (pv 5) (pe_int) (nomark _)) (pw_or1 (pt_val (pe_callB (anyK (K := K) rfl rfl) (by rfl) T.n_any (by decide +kernel) (pa_cons (pe_lc (own := [("parent", 7)]) (g := (gName 7)) (by rfl) sc_barren.nd (pi_tup (pv 4)) (blkOk_by (own := [("parent", 7)]) (N := ["rows", "known", "grown", "mark", "parents", "least", "_", "parent", "row"]) (sc := defScope S_barren) (by decide +kernel)) (fun _ _ _ _ _ => (pg_name (i := 7) sc_barren.nd rfl (by first | exact .inl rfl | exact .inr rfl))) (fun _ _ _ _ _ => pts_nil) (fun _ _ _ _ _ => (pe_cmpR (op_inKd (hu_of hr)) (pv 7) (pv 1) (by with_unfolding_all rfl)))) pa_nil))))))))) (pss_cons (ps_dput (hu_of hr) (pv 1) (pv 3) (pe_bl) rfl)
      (pss_one (ps_set (i := 2) sc_barren.nd rfl (.inl rfl) (pe_bl)))) pss_nil))))))
      (pss_cons (ps_for PassesOwn.never rfl (pi_list (pv 0)) (pg_name (i := 8) sc_barren.nd rfl (.inl rfl)) (pss_one (ps_if (pt_cmpR (op_ninKd (hu_of hr)) (pe_ix ix_tup (pv 8) (pe_int) (fun _ _ => rfl)) (pv 1) (by with_unfolding_all rfl)) (pss_one (ps_ret (pe_ix ix_tup (pv 8) (pe_int) (fun _ _ => rfl)))) pss_nil)))
      (pss_one (ps_ret (pe_non))))))), ?_⟩
    have big : 1000 < sizeLine := by decide
    refine fun d hd => ?_
    have s1 := same_new (o := .dK []) hd
    refine ⟨fun m σ H' => ∃ (kvs : List (Key × V)) (g : Bool) (x3 x4 x5 x6 x7 x8 : Option V), σ = [some (.ref a), some (.ref d), some (.bl g), x3, x4, x5, x6, x7, x8] ∧ Same H H' ∧ H' d = some (.dK kvs) ∧ m = 2 * restOf kvs rs + (if g then 1 else 0) ∧ kvs.length + restOf kvs rs ≤ rs.length ∧
      (∀ m, knB kvs m = true → Fert rs m) ∧ (g = false → ∀ r ∈ rs, knB kvs r.mark = false → ripeB kvs r = false), ⟨_, [], true, _, _, _, _, _, _, rfl, s1, upd_same, rfl, ?_, (fun m h => by cases h), (fun h => by cases h)⟩, ?_⟩
    · rw [List.length_nil, Nat.zero_add]; exact List.length_filter_le _ _
    rintro m σ H2 ⟨kvs, g, x3, x4, x5, x6, x7, x8, rfl, s2, hd2, rfl, lk, so, cl⟩
    refine ⟨_, rfl, _, rfl, ?_⟩
    cases g with
    | true =>
      refine iteT ⟨_, fun σ' H' h => h, ?_⟩
      refine ⟨_, rfl, a, rfl, ⟨_, SqL.of (s2 _ _ ha)⟩, for_list (K := K) (a := a) (xs := us) (fun i σ H' => ∃ (kv : List (Key × V)) (g : Bool) (x3 x4 x5 x6 x7 x8 : Option V), σ = [some (.ref a), some (.ref d), some (.bl g), x3, x4, x5, x6, x7, x8] ∧ Same H H' ∧ H' d = some (.dK kv) ∧ kv.length + restOf kv rs ≤ rs.length ∧
        (∀ m, knB kv m = true → Fert rs m) ∧ (g = true → restOf kv rs < restOf kvs rs) ∧ (g = false → kv = kvs ∧ ∀ r ∈ rs.take i, knB kv r.mark = false → ripeB kv r = false))
        ⟨kvs, false, _, _, _, _, _, _, rfl, s2, hd2, lk, so, (fun h => by cases h), fun _ => ⟨rfl, fun r h => by rw [List.take_zero] at h; cases h⟩⟩ (fun i σ H' _ ⟨_, _, _, _, _, _, _, _, _, s, _⟩ => SqL.of (s _ _ ha)) ?_ ?_⟩
      · rintro i v σ H3 hv ⟨kv, g, y3, y4, y5, y6, y7, y8, rfl, s3, hd3, lk3, so3, up, dn⟩
        obtain ⟨r, hr, p, pp, rfl, hp, hpp⟩ := pair_get' hR hv
        have mr : r ∈ rs := List.mem_of_getElem? hr
        have hp3 := s3 _ _ hp
        have hpp3 := s3 _ _ hpp
        refine ⟨p, _, rfl, SqT.of hp3, rfl, _, _, rfl, _, _, rfl, _, _, rfl, _, _, rfl, _, _, rfl, rfl, ?_⟩
        have stay : (knB kv r.mark = false → ripeB kv r = false) → ∀ H4, Same H3 H4 → ∀ y7, ∃ (kv' : List (Key × V)) (g' : Bool) (x3 x4 x5 x6 x7 x8 : Option V), ([some (.ref a), some (.ref d), some (.bl g), some (.str r.mark), some (.ref pp), some (.int r.least), some (.bl r.sh), y7, y8] : L2.St) = [some (.ref a), some (.ref d), some (.bl g'), x3, x4, x5, x6, x7, x8] ∧ Same H H4 ∧ H4 d = some (.dK kv') ∧ kv'.length + restOf kv' rs ≤ rs.length ∧
            (∀ m, knB kv' m = true → Fert rs m) ∧ (g' = true → restOf kv' rs < restOf kvs rs) ∧ (g' = false → kv' = kvs ∧ ∀ r ∈ rs.take (i + 1), knB kv' r.mark = false → ripeB kv' r = false) := fun no H4 s4 y7 => by
          refine ⟨kv, g, _, _, _, _, _, _, rfl, s3.trans s4, s4 _ _ hd3, lk3, so3, up, fun e => ⟨(dn e).1, fun q hq => ?_⟩⟩
          rw [List.take_succ, hr] at hq
          rcases List.mem_append.mp hq with hq | hq
          · exact (dn e).2 q hq
          · rw [List.mem_singleton.mp hq]; exact no
        have go : knB kv r.mark = false → ripeB kv r = true → ∀ H4, Same H3 H4 → ∀ y7, ∃ (kv' : List (Key × V)) (g' : Bool) (x3 x4 x5 x6 x7 x8 : Option V), ([some (.ref a), some (.ref d), some (.bl true), some (.str r.mark), some (.ref pp), some (.int r.least), some (.bl r.sh), y7, y8] : L2.St) = [some (.ref a), some (.ref d), some (.bl g'), x3, x4, x5, x6, x7, x8] ∧ Same H (upd H4 d (.dK (putK kv (.inr r.mark) (.bl true)))) ∧ (upd H4 d (.dK (putK kv (.inr r.mark) (.bl true)))) d = some (.dK kv') ∧ kv'.length + restOf kv' rs ≤ rs.length ∧
            (∀ m, knB kv' m = true → Fert rs m) ∧ (g' = true → restOf kv' rs < restOf kvs rs) ∧ (g' = false → kv' = kvs ∧ ∀ r ∈ rs.take (i + 1), knB kv' r.mark = false → ripeB kv' r = false) := fun nk rp H4 s4 y7 => by
          have lt := rest_put (v := .bl true) mr nk
          refine ⟨putK kv (.inr r.mark) (.bl true), true, _, _, _, _, _, _, rfl, same_mut (s3.trans s4) hd, upd_same, ?_, fun m hm => ?_, fun _ => ?_, fun e => by cases e⟩
          · have := length_putK kv (.inr r.mark) (.bl true); omega
          · rw [knB_put, Bool.or_eq_true, decide_eq_true_iff] at hm
            rcases hm with rfl | hm
            · exact ripe_fert so3 mr rp
            · exact so3 m hm
          · cases g with
            | true => have := up rfl; omega
            | false => have e := (dn rfl).1; subst e; exact lt
        have lz : kv.length < sizeLine := by omega
        refine ⟨_, rfl, _, rfl, d, _, rfl, DGet.k (k := .inr r.mark) hd3, _, rfl, ?_⟩
        cases nk : knB kv r.mark with
        | true => exact iteNo (by show (!knB kv r.mark) = false; rw [nk]; rfl) (stay (fun z => by rw [nk] at z; cases z) H3 (fun _ _ h => h) y7)
        | false =>
          refine iteYes (by show (!knB kv r.mark) = true; rw [nk]; rfl) ⟨_, rfl, rfl, _, rfl, ?_⟩
          refine iteD (fun c => ?_) (fun c => ?_)
          · have c : r.least = 0 := V.int.inj c
            refine iteT ?_
            refine ⟨_, rfl, _, rfl, d, _, rfl, DPut.k (k := .inr r.mark) hd3 lz, ?_⟩
            exact go nk (by unfold ripeB; rw [decide_eq_true c, Bool.true_or]) H3 (fun _ _ h => h) y7
          · have c : r.least ≠ 0 := fun z => c (by rw [z])
            refine any_kn hd3 hpp3 (by have := (hsm r mr).2; omega) fun H4 s4 => ⟨_, rfl, ?_⟩
            cases ra : r.pars.any (knB kv) with
            | true =>
              refine iteT ?_
              refine ⟨_, rfl, _, rfl, d, _, rfl, DPut.k (k := .inr r.mark) (s4 _ _ hd3) lz, ?_⟩
              exact go nk (by unfold ripeB; rw [ra, Bool.or_true]) H4 s4 y7
            | false => exact iteF (stay (fun _ => by unfold ripeB; rw [ra, decide_eq_false c]; rfl) H4 s4 y7)
      · rintro σ H3 ⟨kv, g, y3, y4, y5, y6, y7, y8, rfl, s3, hd3, lk3, so3, up, dn⟩
        rw [pair_len' hR, List.take_length] at dn
        refine ⟨_, ?_, kv, g, _, _, _, _, _, _, rfl, s3, hd3, rfl, lk3, so3, fun e => (dn e).2⟩
        cases g with
        | true => have := up rfl; simp; omega
        | false => rw [(dn rfl).1]; simp
    | false =>
      refine iteF ?_
      have cl := cl rfl
      refine ⟨_, rfl, a, rfl, ⟨_, SqL.of (s2 _ _ ha)⟩, for_list (K := K) (a := a) (xs := us) (fun i σ H' => ∃ x8, σ = [some (.ref a), some (.ref d), some (.bl false), x3, x4, x5, x6, x7, x8] ∧ H' = H2 ∧ ∀ r ∈ rs.take i, Fert rs r.mark) ⟨_, rfl, rfl, fun r h => by rw [List.take_zero] at h; cases h⟩ (fun i σ H' _ ⟨_, _, e, _⟩ => SqL.of (by rw [e]; exact s2 _ _ ha)) ?_ ?_⟩
      · rintro i v σ H3 hv ⟨y8, rfl, rfl, hf⟩
        obtain ⟨r, hr, p, pp, rfl, hp, hpp⟩ := pair_get' hR hv
        have hp3 := s2 _ _ hp
        refine ⟨_, rfl, _, _, _, _, rfl, rfl, SqT.of hp3, atI_nat (j := 0) rfl, _, rfl, d, _, rfl, DGet.k (k := .inr r.mark) hd2, _, rfl, ?_⟩
        cases nk : knB kvs r.mark with
        | true =>
          refine iteNo (by show (!knB kvs r.mark) = false; rw [nk]; rfl) ⟨_, rfl, rfl, fun q hq => ?_⟩
          rw [List.take_succ, hr] at hq
          rcases List.mem_append.mp hq with hq | hq
          · exact hf q hq
          · rw [List.mem_singleton.mp hq]; exact so _ nk
        | false =>
          refine iteYes (by show (!knB kvs r.mark) = true; rw [nk]; rfl) ⟨_, rfl, _, _, _, _, rfl, rfl, SqT.of hp3, atI_nat (j := 0) rfl, ?_⟩
          exact q _ _ s2 (.yes hr hf fun f => by have := fert_known cl f; rw [nk] at this; cases this)
      · rintro σ H3 ⟨y8, rfl, rfl, hf⟩
        rw [pair_len' hR, List.take_length] at hf
        exact q _ _ s2 (.no hf)
end
end My

namespace My
open PySem L2
/-! ### a new shape -/
def mksV (rs : List Row) : List V := rs.map fun r => .str r.mark
def mks (rs : List Row) : List Str := rs.map Row.mark
theorem mksV_eq (rs : List Row) : mksV rs = (mks rs).map V.str := by unfold mksV mks; rw [List.map_map]; rfl
def rowFine (rs : List Row) (i : Nat) : Prop := ∀ r, rs[i]? = some r → fineB r (mks (rs.take i)) = true
inductive SErr where
  | large
  | bad (m : Str)
  | unk (m : Str)
def parsOk (rs : List Row) (r : Row) : Prop := ∀ p ∈ r.pars, p ∈ mks rs
inductive Due (rs : List Row) : SErr → Prop
  | large : 6 < rs.length → Due rs .large
  | row {i : Nat} {r : Row} : rs.length ≤ 6 → rs[i]? = some r → (∀ j, j < i → rowFine rs j) → fineB r (mks (rs.take i)) = false → Due rs (.bad r.mark)
  | par {i k : Nat} {r : Row} {p : Str} : rs.length ≤ 6 → (∀ j, rowFine rs j) → rs[i]? = some r → r.pars[k]? = some p → (∀ q ∈ rs.take i, parsOk rs q) → (∀ q ∈ r.pars.take k, q ∈ mks rs) → p ∉ mks rs → Due rs (.unk p)
  | lost {i : Nat} {r : Row} : rs.length ≤ 6 → (∀ j, rowFine rs j) → (∀ q ∈ rs, parsOk rs q) → rs[i]? = some r → (∀ q ∈ rs.take i, Fert rs q.mark) → ¬ Fert rs r.mark → Due rs (.bad r.mark)
structure Good (rs : List Row) : Prop where
  len : rs.length ≤ 6
  fine : ∀ j, rowFine rs j
  pars : ∀ q ∈ rs, parsOk rs q
  fert : ∀ q ∈ rs, Fert rs q.mark
/-- what the error e is: its class and what it holds -/
def ErrIs (TL BS UM : Addr) : SErr → Addr → V → Str → Prop
  | .large, c, v, f => c = TL ∧ v = .int 6 ∧ f = "most"
  | .bad m, c, v, f => c = BS ∧ v = .str m ∧ f = "mark"
  | .unk m, c, v, f => c = UM ∧ v = .str m ∧ f = "mark"
/-- a shape at x -/
def ShO (C : Addr) (H : Hp) (x : Addr) (rs : List Row) : Prop := ∃ dx l m vs, H x = some (.ins C dx [("_listed", .ref l), ("_marks", .ref m)]) ∧ H l = some (.lst vs) ∧ RowsT H vs rs ∧ H m = some (.lst (mksV rs))
theorem ShO.same {C : Addr} {H H' : Hp} {x : Addr} {rs : List Row} (h : ShO C H x rs) (s : Same H H') : ShO C H' x rs := by
  obtain ⟨dx, l, m, vs, a, b, c, d⟩ := h
  exact ⟨dx, l, m, vs, s _ _ a, s _ _ b, rowsT_same c s, s _ _ d⟩
/-- a shape whose lists stand at addresses of F -/
def ShN (F : Addr → Prop) (C : Addr) (H : Hp) (x : Addr) (rs : List Row) : Prop := ∃ dx l m vs, F l ∧ F m ∧ H x = some (.ins C dx [("_listed", .ref l), ("_marks", .ref m)]) ∧ H l = some (.lst vs) ∧ RowsT H vs rs ∧ H m = some (.lst (mksV rs))
theorem ShN.sh {F : Addr → Prop} {C : Addr} {H : Hp} {x : Addr} {rs : List Row} (h : ShN F C H x rs) : ShO C H x rs := let ⟨dx, l, m, vs, _, _, e⟩ := h; ⟨dx, l, m, vs, e⟩
theorem ShN.sub {F G : Addr → Prop} {C : Addr} {H : Hp} {x : Addr} {rs : List Row} (h : ShN F C H x rs) (i : ∀ a, F a → G a) : ShN G C H x rs := let ⟨dx, l, m, vs, a, b, e⟩ := h; ⟨dx, l, m, vs, i _ a, i _ b, e⟩
theorem RowV.same {H H' : Hp} {v : V} {r : Row} (h : RowV H v r) (s : Same H H') : RowV H' v r := by
  obtain ⟨p, pp, e, a, b⟩ := h
  exact ⟨p, pp, e, a.imp (s _ _) (s _ _), b.imp (s _ _) (s _ _)⟩
theorem rowsV_same {H H' : Hp} {vs : List V} {rs : List Row} (h : Paired (RowV H) vs rs) (s : Same H H') : Paired (RowV H') vs rs := L2.Paired.mapP h fun _ _ x => x.same s
theorem RowT.keep {H H' : Hp} {v : V} {r : Row} (h : RowT H v r) (s : ∀ a xs, H a = some (.tup xs) → H' a = some (.tup xs)) : RowT H' v r := let ⟨p, pp, e, a, b⟩ := h; ⟨p, pp, e, s _ _ a, s _ _ b⟩
theorem rowsT_keep {H H' : Hp} {vs : List V} {rs : List Row} (h : RowsT H vs rs) (s : ∀ a xs, H a = some (.tup xs) → H' a = some (.tup xs)) : RowsT H' vs rs := L2.Paired.mapP h fun _ _ x => x.keep s
theorem keep_lst {H : Hp} {l : Addr} {vs ws : List V} (h : H l = some (.lst vs)) : ∀ a xs, H a = some (.tup xs) → (upd H l (.lst ws)) a = some (.tup xs) := fun a xs e => by rw [upd_ne (fun z => by rw [z, h] at e; cases e)]; exact e
theorem rowL_seq {K : PySem.W.Frag} {H : Hp} {p pp : Addr} {r : Row} {i : Int} {v : V} {Q : VK} (h : H p = some (.tup (rowL r pp)) ∨ H p = some (.lst (rowL r pp))) (e : atI (rowL r pp) i = some v) (q : Q v H) : rIx K (.ref p) (.int i) H Q := by
  rcases h with h | h
  · exact .inr (.inl ⟨_, _, _, _, rfl, rfl, SqT.of h, e, q⟩)
  · exact .inl ⟨_, _, _, _, rfl, rfl, SqL.of h, e, q⟩
theorem pair_app' {α β : Type} {F : α → β → Prop} : ∀ {l l' : List α} {m m' : List β}, Paired F l m → Paired F l' m' → Paired F (l ++ l') (m ++ m')
  | _, _, _, _, .nil, q => q
  | _, _, _, _, .cons r t, q => .cons r (pair_app' t q)
def spShInit (C TL BS UM : Addr) : Sp := fun vs H Q E => ∃ (x dx p : Addr) (us : List V) (rs : List Row), vs = [.ref x, .ref p] ∧ H x = some (.ins C dx []) ∧ H p = some (.tup us) ∧ Paired (RowV H) us rs ∧ us.length ≤ 100 ∧ (∀ r ∈ rs, small r) ∧
  (Good rs → ∀ H', But x H H' → ShN (fun a => H a = none) C H' x rs → Q .non H') ∧
  (∀ e c v f, Due rs e → ErrIs TL BS UM e c v f → ∀ H' d, Same H H' → H d = none → H' d = some (.xd [(f, v)]) → E (.ref c) (some d) H')
theorem make_sh {C TL BS UM : Addr} {H : Hp} {us : List V} {rs : List Row} {Q : VK} {E : XK} (hs : Paired (RowV H) us rs) (hl : us.length ≤ 100) (hsm : ∀ r ∈ rs, small r) (q : Good rs → ∀ x H', Same H H' → H x = none → ShN (fun a => H a = none) C H' x rs → Q (.ref x) H')
    (qe : ∀ e c v f, Due rs e → ErrIs TL BS UM e c v f → ∀ H' d, Same H H' → H d = none → H' d = some (.xd [(f, v)]) → E (.ref c) (some d) H') :
    ∀ x dx, H x = none → H dx = none → dx ≠ x → spStar 1 (spShInit C TL BS UM) (.ref x :: us) (upd (upd H dx (.own x)) x (.ins C dx [])) (fun v H2 => v = .non ∧ Q (.ref x) H2) E := fun x dx nx nd _ => by
  have s1 : Same H (upd (upd H dx (.own x)) x (.ins C dx [])) := fun y o h => by rw [upd_ne (ne_of_none h nx), upd_ne (ne_of_none h nd)]; exact h
  refine ⟨[.ref x], us, rfl, rfl, Nat.le_trans hl (by decide), fun p np => ?_⟩
  have s2 := s1.trans (same_new (o := .tup us) np)
  refine ⟨x, dx, p, us, rs, rfl, same_new np _ _ upd_same, upd_same, rowsV_same hs s2, hl, hsm, fun g H' b sh => ⟨rfl, q g x H' (fun y o h => b y o (ne_of_none h nx) (s2 _ _ h)) nx (sh.sub fun a h => s2.free h)⟩, fun e c v f du er H' d s' nd' hd => qe e c v f du er H' d (s2.trans s') (s2.free nd') hd⟩
section
variable {w : World} {K : PySem.W.Frag} {mg : Str → Option Value} {base : Heap}
theorem ok_Shape_init (T : Txt K mg) : FnR PP w K mg base (L2.CX PP w) 5 T.a_Shape_init (spStar 1 (spShInit T.c_Shape T.c_TooLarge T.c_BadShape T.c_UnknownMark)) := by
  refine Fun.starX (k := 4) (ps := ["self"]) T.F_Shape_init sc_Shape_init T.bs_Shape_init fun cdv A outer s H vs Q E hr h => ?_
  obtain ⟨x, dx, p, us, rs, rfl, hx, hp, hs, hl, hsm, q, qe⟩ := h
  refine ⟨_, (pss_cons (ps_if (pt_cmpR op_gt (pe_callB call_len_seq (by rfl) T.n_len (by decide +kernel) (pa_cons (pv 1) pa_nil)) (ClX.pe_cval (pe_glob (v := .ref T.c_Shape) (by rfl) T.g_Shape rfl)) (nomark _)) (pss_one (ps_raiseX rfl T.x_TooLarge hr (takes_of rfl rfl rfl rfl) (pa_cons (ClX.pe_cval (pe_glob (v := .ref T.c_Shape) (by rfl) T.g_Shape rfl)) pa_nil))) pss_nil)
      (pss_cons (ps_set (i := 2) sc_Shape_init.nd rfl (.inl rfl) (pe_lst pa_nil))
      (pss_cons (ps_set (i := 3) sc_Shape_init.nd rfl (.inl rfl) (pe_lst pa_nil))
      (pss_cons (ps_for (passes_of rfl) rfl (pi_tup (pv 1)) (pg_name (i := 4) sc_Shape_init.nd rfl (.inl rfl)) (pss_cons (ps_expr (pe_bm PySem.F.plainAttrs_list PySem.F.slot_list_append PySem.F.type_list_append mt_append (pv 2) (pa_cons (pe_call (ok_sound_row T) (hr.mono (by omega)) (by rfl) T.g_sound_row T.F_sound_row.kp T.b_sound_row .nil (passes_call (takes_of rfl rfl rfl rfl) (fun _ _ _ _ h => h)) (pa_cons (pv 4) (pa_cons (pv 3) pa_nil))) pa_nil)))
      (pss_one (ps_expr (pe_bm PySem.F.plainAttrs_list PySem.F.slot_list_append PySem.F.type_list_append mt_append (pv 3) (pa_cons (pe_ix ix_seq (pv 4) (pe_int) (fun _ _ => rfl)) pa_nil))))))
      (pss_cons (ps_for (passes_of rfl) rfl (pi_list (pv 2)) (pg_name (i := 4) sc_Shape_init.nd rfl (.inl rfl)) (pss_one (ps_for (passes_of rfl) rfl (pi_tup (pe_ix ix_seq (pv 4) (pe_int) (fun _ _ => rfl))) (pg_name (i := 5) sc_Shape_init.nd rfl (.inl rfl)) (pss_one (ps_if (pt_cmpR op_notIn_seq (pv 5) (pv 3) (by with_unfolding_all rfl)) (pss_one (ps_raiseX rfl T.x_UnknownMark hr (takes_of rfl rfl rfl rfl) (pa_cons (pv 5) pa_nil))) pss_nil)))))
      (pss_cons (ps_set (i := 6) sc_Shape_init.nd rfl (.inl rfl) (pe_call (ok_barren T) (hr.mono (by omega)) (by rfl) T.g_barren T.F_barren.kp T.b_barren .nil pass0 (pa_cons (pv 2) pa_nil)))
      (pss_cons (ps_if (pt_cmpR op_notN (pv 6) (pe_non) (nomark _)) (pss_one (ps_raiseX rfl T.x_BadShape hr (takes_of rfl rfl rfl rfl) (pa_cons (pv 6) pa_nil))) pss_nil)
      (pss_cons (ps_fld (pv 0) (pv 2) rfl)
      (pss_one (ps_fld (pv 0) (pv 3) rfl)))))))))), ?_⟩
  have big : 1000 < sizeLine := by decide
  have lr := pair_len' hs
  refine ⟨_, rfl, p, us, rfl, .inr (SqT.of hp), _, _, _, _, rfl, T.cr_Shape, T.cv_Shape_MARKS, _, _, rfl, rfl, _, rfl, iteD (fun c => ?_) (fun c => ?_)⟩
  · refine ⟨_, _, _, _, rfl, T.cr_Shape, T.cv_Shape_MARKS, _, rfl, fun d hd => ?_⟩
    exact qe .large _ _ _ (.large (by omega)) ⟨rfl, rfl, rfl⟩ _ d (same_new hd) hd upd_same
  have l6 : rs.length ≤ 6 := by omega
  refine ⟨Nat.zero_le _, fun l hl0 => ⟨Nat.zero_le _, fun m hm0' => ?_⟩⟩
  have s0 := same_new (o := .lst []) hl0
  have hm0 : H m = none := s0.free hm0'
  have nlm : l ≠ m := fun z => by rw [← z, upd_same] at hm0'; cases hm0'
  have s1 := s0.trans (same_new (o := .lst []) hm0')
  refine ⟨_, rfl, p, rfl, ⟨_, SqT.of (s1 _ _ hp)⟩, for_tup (K := K) (a := p) (xs := us) (fun i σ H' => ∃ (x4 x5 : Option V) (vs' : List V), σ = [some (.ref x), some (.ref p), some (.ref l), some (.ref m), x4, x5, none] ∧ Same H H' ∧ H' l = some (.lst vs') ∧ H' m = some (.lst (mksV (rs.take i))) ∧ RowsT H' vs' (rs.take i) ∧ ∀ j, j < i → rowFine rs j)
    ⟨_, _, [], rfl, s1, by rw [upd_ne nlm]; exact upd_same, upd_same, .nil, fun j h => absurd h (Nat.not_lt_zero _)⟩ (fun i σ H' _ ⟨_, _, _, _, s, _⟩ => SqT.of (s _ _ hp)) ?_ ?_⟩
  · rintro i v σ H1 hv ⟨x4, x5, vs', rfl, s1, hl1, hm1, rt, fi⟩
    obtain ⟨r, hr, hV⟩ := pair_get' hs hv
    have mr : r ∈ rs := List.mem_of_getElem? hr
    have hi := (List.getElem?_eq_some_iff.mp hr).1
    obtain ⟨p0, pp0, rfl, hp0, hpp0⟩ := id (hV.same s1)
    have lv : vs'.length = i := by rw [pair_len' rt, List.length_take]; omega
    refine ⟨_, rfl, .inl ⟨rfl, _, SqL.of hl1⟩, _, rfl, _, rfl, _, _, r, mks (rs.take i), rfl, hV.same s1, by rw [hm1, mksV_eq], hsm r mr, fun gd pq pp H2 s2 npq hpq hpp => ?_, fun bd H2 d s2 nd hd => ?_⟩
    · have hl2 := s2 _ _ hl1
      refine ⟨_, _, _, rfl, rfl, hl2, by omega, ?_⟩
      have npl : pq ≠ l := (ne_of_none hl1 npq).symm
      have t2 := s1.trans s2
      have s3 : Same H (upd H2 l (.lst (vs' ++ [.ref pq]))) := same_mut t2 hl0
      have k3 := keep_lst (ws := vs' ++ [.ref pq]) hl2
      have hm3 : (upd H2 l (.lst (vs' ++ [.ref pq]))) m = some (.lst (mksV (rs.take i))) := by rw [upd_ne nlm.symm]; exact s2 _ _ hm1
      have k4 := keep_lst (ws := mksV (rs.take i) ++ [.str r.mark]) hm3
      refine ⟨_, rfl, .inl ⟨rfl, _, SqL.of hm3⟩, _, rfl, rowL_seq (hp0.imp (fun h => k3 _ _ (s2 _ _ h)) (fun h => ?_)) rfl ?_⟩
      · have n0 : p0 ≠ l := fun z => by
          obtain ⟨w0, _, e0, h0, _⟩ := hV
          obtain rfl : p0 = w0 := V.ref.inj e0
          rcases h0 with h0 | h0
          · rw [z, hl0] at h0; cases h0
          · rw [z, hl0] at h0; cases h0
        rw [upd_ne n0]; exact s2 _ _ h
      · refine ⟨_, _, _, rfl, rfl, hm3, by unfold mksV; rw [List.length_map, List.length_take]; omega, ?_⟩
        refine ⟨_, _, vs' ++ [.ref pq], rfl, same_mut s3 hm0, by rw [upd_ne nlm]; exact upd_same, ?_, ?_, fun j hj => ?_⟩
        · rw [upd_same, List.take_succ, hr]; unfold mksV; rw [List.map_append]; rfl
        · rw [List.take_succ, hr]
          exact pair_app' (rowsT_keep rt fun a xs e => k4 _ _ (k3 _ _ (s2 _ _ e))) (.cons ⟨pq, pp, rfl, k4 _ _ (k3 _ _ hpq), k4 _ _ (k3 _ _ hpp)⟩ .nil)
        · by_cases e : j = i
          · subst e
            intro r' hr'
            rw [hr] at hr'
            exact Option.some.inj hr' ▸ gd
          · exact fi j (by omega)
    · exact qe _ _ _ _ (.row l6 hr fi bd) ⟨rfl, rfl, rfl⟩ H2 d (s1.trans s2) (s1.free nd) hd
  rintro σ H1 ⟨x4, x5, vs', rfl, s1, hl1, hm1, rt, fi⟩
  rw [lr, List.take_length] at hm1 rt
  have fi : ∀ j, rowFine rs j := fun j => by
    by_cases c : j < rs.length
    · exact fi j (by omega)
    · intro r hr
      rw [List.getElem?_eq_none (by omega)] at hr; cases hr
  refine ⟨_, rfl, l, rfl, ⟨_, SqL.of hl1⟩, for_list (K := K) (a := l) (xs := vs') (fun i σ H' => ∃ (x4 x5 : Option V), σ = [some (.ref x), some (.ref p), some (.ref l), some (.ref m), x4, x5, none] ∧ H' = H1 ∧ ∀ q ∈ rs.take i, parsOk rs q)
    ⟨_, _, rfl, rfl, fun q h => by rw [List.take_zero] at h; cases h⟩ (fun i σ H' _ ⟨_, _, _, e, _⟩ => SqL.of (by rw [e]; exact hl1)) ?_ ?_⟩
  · rintro i v σ H2 hv ⟨x4, x5, rfl, rfl, po⟩
    obtain ⟨r, hr, p0, pp0, rfl, hp0, hpp0⟩ := pair_get' rt hv
    refine ⟨_, rfl, rowL_seq (.inl hp0) rfl ⟨pp0, rfl, ⟨_, SqT.of hpp0⟩, for_tup (K := K) (a := pp0) (xs := r.pars.map V.str) (fun k σ H' => ∃ (x5 : Option V), σ = [some (.ref x), some (.ref p), some (.ref l), some (.ref m), some (.ref p0), x5, none] ∧ H' = H2 ∧ ∀ q ∈ r.pars.take k, q ∈ mks rs)
      ⟨_, rfl, rfl, fun q h => by rw [List.take_zero] at h; cases h⟩ (fun i σ H' _ ⟨_, _, e, _⟩ => SqT.of (by rw [e]; exact hpp0)) ?_ ?_⟩⟩
    · rintro k v σ H3 hk ⟨x5, rfl, rfl, pk⟩
      obtain ⟨y, hy, rfl⟩ : ∃ y, r.pars[k]? = some y ∧ v = .str y := by
        rw [List.getElem?_map] at hk
        cases e : r.pars[k]? with
        | none => rw [e] at hk; cases hk
        | some y => rw [e] at hk; exact ⟨y, rfl, (Option.some.inj hk).symm⟩
      refine ⟨_, rfl, _, rfl, _, _, rfl, .inl (SqL.of hm1), rfl, by rw [mksV_eq]; exact flat_strs _, ?_⟩
      rw [mksV_eq, in_strs]
      refine ⟨_, rfl, iteN (fun c => ?_) (fun c => ?_)⟩
      · refine ⟨_, rfl, _, rfl, fun d hd => ?_⟩
        exact qe (.unk y) _ _ _ (.par l6 fi hr hy po pk c) ⟨rfl, rfl, rfl⟩ _ d (s1.trans (same_new hd)) (s1.free hd) upd_same
      · refine ⟨_, rfl, rfl, fun q hq => ?_⟩
        rw [List.take_succ, hy] at hq
        rcases List.mem_append.mp hq with hq | hq
        · exact pk q hq
        · rw [List.mem_singleton.mp hq]; exact c
    · rintro σ H3 ⟨x5, rfl, rfl, pk⟩
      rw [List.length_map, List.take_length] at pk
      refine ⟨_, _, rfl, rfl, fun q hq => ?_⟩
      rw [List.take_succ, hr] at hq
      rcases List.mem_append.mp hq with hq | hq
      · exact po q hq
      · rw [List.mem_singleton.mp hq]; exact pk
  rintro σ H2 ⟨x4, x5, rfl, rfl, po⟩
  rw [pair_len' rt, List.take_length] at po
  refine ⟨_, rfl, l, vs', rs, rfl, hl1, rt, by omega, hsm, fun v H3 s3 lo => ?_⟩
  have t3 := s1.trans s3
  cases lo with
  | @yes i r hr hf nf =>
    refine ⟨_, rfl, rfl, _, rfl, iteYes rfl ⟨_, rfl, _, rfl, fun d hd => ?_⟩⟩
    exact qe _ _ _ _ (.lost l6 fi po hr hf nf) ⟨rfl, rfl, rfl⟩ _ d (t3.trans (same_new hd)) (t3.free hd) upd_same
  | no hf =>
    refine ⟨_, rfl, rfl, _, rfl, iteNo rfl ?_⟩
    have hx3 := t3 _ _ hx
    refine ⟨_, rfl, _, rfl, x, _, dx, _, rfl, hx3, T.cl_Shape, T.no_Shape__listed, by show 0 < 1000; decide, ?_⟩
    refine ⟨_, rfl, _, rfl, x, _, dx, _, rfl, upd_same, T.cl_Shape, T.no_Shape__marks, by show 1 < 1000; decide, ?_⟩
    have nx : ∀ {a : Addr} {ws : List V}, H3 a = some (.lst ws) → a ≠ x := fun h z => by rw [z, hx3] at h; cases h
    have hl3 := s3 _ _ hl1
    have hm3 := s3 _ _ hm1
    refine q ⟨l6, fi, po, hf⟩ _ (fun y o n h => by rw [upd_ne n, upd_ne n]; exact t3 _ _ h) ⟨dx, l, m, vs', hl0, hm0, upd_same, ?_, ?_, ?_⟩
    · rw [upd_ne (nx hl3), upd_ne (nx hl3)]; exact hl3
    · refine rowsT_keep (rowsT_same rt s3) fun a xs e => ?_
      have n : a ≠ x := fun z => by rw [z, hx3] at e; cases e
      rw [upd_ne n, upd_ne n]; exact e
    · rw [upd_ne (nx hm3), upd_ne (nx hm3)]; exact hm3
end
end My

namespace My
open PySem L2
/-! ### what shapes answer -/
def rowD (r : Row) : PyData := .tuple [.str r.mark, .tuple (r.pars.map .str), .int r.least, .int r.most, .bool r.sh]
theorem eqv_strs : ∀ a b : List Str, PyData.eqvAll (a.map .str) (b.map .str) = decide (a = b)
  | [], [] => by simp [PyData.eqvAll]
  | [], _ :: _ => by simp [PyData.eqvAll]
  | _ :: _, [] => by simp [PyData.eqvAll]
  | x :: a, y :: b => by
    simp only [List.map_cons, PyData.eqvAll, PyData.eqv, eqv_strs a b]
    rw [Bool.eq_iff_iff, Bool.and_eq_true, beq_iff_eq, decide_eq_true_iff, decide_eq_true_iff]
    simp
theorem eqv_row (a b : Row) : PyData.eqv (rowD a) (rowD b) = decide (a = b) := by
  unfold rowD
  simp only [PyData.eqv, PyData.eqvAll, eqv_strs, Bool.and_true]
  rw [Bool.eq_iff_iff]
  simp only [Bool.and_eq_true, beq_iff_eq, decide_eq_true_iff]
  cases a; cases b
  simp
theorem eqv_rows : ∀ a b : List Row, PyData.eqvAll (a.map rowD) (b.map rowD) = decide (a = b)
  | [], [] => by simp [PyData.eqvAll]
  | [], _ :: _ => by simp [PyData.eqvAll]
  | _ :: _, [] => by simp [PyData.eqvAll]
  | x :: a, y :: b => by
    simp only [List.map_cons, PyData.eqvAll, eqv_row, eqv_rows a b]
    rw [Bool.eq_iff_iff, Bool.and_eq_true, decide_eq_true_iff, decide_eq_true_iff, decide_eq_true_iff]
    simp
theorem strOk_mk {z : Str} (h : isMk z = true) : PyData.strOk z = true := by
  unfold isMk at h
  rw [Bool.and_eq_true, List.all_eq_true] at h
  unfold PyData.strOk
  rw [← Array.all_toList, List.all_eq_true]
  intro c hc
  have := of_decide_eq_true (h.2 c hc)
  exact decide_eq_true (by omega)
theorem canLay_strs : ∀ {l : List Str}, (∀ z ∈ l, PyData.strOk z = true) → PyData.canLayAll0 (l.map .str) = true
  | [], _ => rfl
  | z :: l, h => by rw [List.map_cons, PyData.canLayAll0, PyData.canLay0, h z (by simp), canLay_strs fun y hy => h y (by simp [hy])]; rfl
theorem depth_strs : ∀ l : List Str, PyData.depthAll (l.map .str) = 0
  | [] => rfl
  | z :: l => by rw [List.map_cons, PyData.depthAll, depth_strs l]; rfl
/-- rows whose words are marks -/
def wordsOk (rs : List Row) : Prop := ∀ r ∈ rs, PyData.strOk r.mark = true ∧ ∀ p ∈ r.pars, PyData.strOk p = true
theorem Good.words {rs : List Row} (h : Good rs) : wordsOk rs := by
  have mk : ∀ r ∈ rs, isMk r.mark = true := fun r hr => by
    obtain ⟨j, hj⟩ := List.mem_iff_getElem?.mp hr
    have := h.fine j r hj
    unfold fineB at this
    simp only [Bool.and_eq_true] at this
    exact this.1.1.1
  intro r hr
  refine ⟨strOk_mk (mk r hr), fun p hp => ?_⟩
  obtain ⟨q, hq, rfl⟩ := List.mem_map.mp (h.pars r hr p hp)
  exact strOk_mk (mk q hq)
theorem row_lay {r : Row} (h : PyData.strOk r.mark = true ∧ ∀ p ∈ r.pars, PyData.strOk p = true) : PyData.canLay0 (rowD r) = true := by
  unfold rowD
  simp [PyData.canLay0, PyData.canLayAll0, h.1, canLay_strs h.2]
theorem rows_shaped {rs : List Row} (h : wordsOk rs) : SeqAt.shaped (.list (rs.map rowD)) = true := by
  have h1 : ∀ l : List Row, wordsOk l → PyData.canLayAll0 (l.map rowD) = true := fun l => by
    induction l with
    | nil => intro _; rfl
    | cons a r ih => intro q; rw [List.map_cons, PyData.canLayAll0, row_lay (q a (by simp)), ih fun s hs => q s (by simp [hs])]; rfl
  have h2 : ∀ l : List Row, PyData.depthAll (l.map rowD) ≤ 4 := fun l => by
    induction l with
    | nil => exact Nat.zero_le _
    | cons a r ih =>
      rw [List.map_cons, PyData.depthAll]
      have : PyData.depth (rowD a) ≤ 4 := by unfold rowD; simp [PyData.depth, PyData.depthAll, depth_strs]
      omega
  unfold SeqAt.shaped
  rw [PyData.canLay0, h1 rs h, PyData.depth, Bool.true_and, decide_eq_true_iff]
  have := h2 rs
  omega
theorem strsDp {K : PySem.W.Frag} {H : Hp} : ∀ l : List Str, DpAll K H (l.map V.str) (l.map .str)
  | [] => .nil
  | z :: l => .cons (.str _) (strsDp l)
theorem rowDp {K : PySem.W.Frag} {H : Hp} {v : V} {r : Row} (h : RowT H v r) : Dp K H v (rowD r) := by
  obtain ⟨p, pp, rfl, hp, hpp⟩ := h
  exact .tup (SqT.of hp) (.cons (.str _) (.cons (.tup (SqT.of hpp) (strsDp _)) (.cons (.int _) (.cons (.int _) (.cons (.bl _) .nil)))))
theorem rowsDp {K : PySem.W.Frag} {H : Hp} : ∀ {vs : List V} {rs : List Row}, RowsT H vs rs → DpAll K H vs (rs.map rowD)
  | _, _, .nil => .nil
  | _, _, .cons h t => .cons (rowDp h) (rowsDp t)
def findR (rs : List Row) (z : Str) : Option Row := rs.find? fun r => decide (r.mark = z)
theorem findR_at {rs : List Row} {z : Str} {i : Nat} {r : Row} (h : rs[i]? = some r) (e : r.mark = z) (n : ∀ q ∈ rs.take i, q.mark ≠ z) : findR rs z = some r := by
  unfold findR
  have e1 : rs = rs.take i ++ r :: rs.drop (i + 1) := by
    obtain ⟨h1, h2⟩ := List.getElem?_eq_some_iff.mp h
    rw [← h2, ← List.drop_eq_getElem_cons h1, List.take_append_drop]
  rw [e1, List.find?_append, List.find?_eq_none.mpr (by intro q hq; simpa using n q hq)]
  simp [List.find?_cons, e]
theorem findR_no {rs : List Row} {z : Str} (n : ∀ q ∈ rs, q.mark ≠ z) : findR rs z = none := List.find?_eq_none.mpr (by intro q hq; simpa using n q hq)
theorem findR_mem {rs : List Row} {z : Str} {r : Row} (h : findR rs z = some r) : r ∈ rs ∧ r.mark = z := ⟨List.mem_of_find?_eq_some h, by simpa using List.find?_some h⟩
/-- an error of the class X with the word z -/
abbrev ErrS (X : Addr) (f : Str) (v : V) (H : Hp) (E : XK) : Prop := ∀ H' d, Same H H' → H d = none → H' d = some (.xd [(f, v)]) → E (.ref X) (some d) H'
def spShGet (C X : Addr) : Sp := fun vs H Q E => ∃ (x : Addr) (z : Str) (rs : List Row), vs = [.ref x, .str z] ∧ ShO C H x rs ∧
  (∀ r p pp, findR rs z = some r → H p = some (.tup (rowL r pp)) → H pp = some (.tup (r.pars.map V.str)) → Q (.ref p) H) ∧ (findR rs z = none → ErrS X "mark" (.str z) H E)
def spShLen (C : Addr) : Sp := fun vs H Q _ => ∃ (x : Addr) (rs : List Row), vs = [.ref x] ∧ ShO C H x rs ∧ Q (.int rs.length) H
def spShHas (C : Addr) : Sp := fun vs H Q _ => ∃ (x : Addr) (z : Str) (rs : List Row), vs = [.ref x, .str z] ∧ ShO C H x rs ∧ Q (.bl (decide (z ∈ mks rs))) H
def spShEq (C : Addr) : Sp := fun vs H Q _ => ∃ (x y : Addr) (rs ts : List Row), vs = [.ref x, .ref y] ∧ ShO C H x rs ∧ ShO C H y ts ∧ wordsOk rs ∧ wordsOk ts ∧ Q (.bl (decide (rs = ts))) H
def spShMarks (C : Addr) : Sp := fun vs H Q _ => ∃ (x : Addr) (rs : List Row), vs = [.ref x] ∧ ShO C H x rs ∧ ∀ t H', Same H H' → H t = none → H' t = some (.tup (mksV rs)) → Q (.ref t) H'
def spShExc (C : Addr) : Sp := fun vs H Q _ => ∃ (x : Addr) (rs : List Row), vs = [.ref x] ∧ ShO C H x rs ∧ Q (.bl (!rs.any (·.sh))) H
def widthOf (rs : List Row) : Int := rs.foldl (fun (a : Int) (r : Row) => if a < r.most then r.most else a) 1
def spShWidth (C : Addr) : Sp := fun vs H Q _ => ∃ (x : Addr) (rs : List Row), vs = [.ref x] ∧ ShO C H x rs ∧ Q (.int (widthOf rs)) H
def modesV (sh : Bool) : List V := if sh then [.str "own", .str "share"] else [.str "own"]
/-- a tuple that was made, or a constant -/
def TupC (K : PySem.W.Frag) (H : Hp) (t : Addr) (xs : List V) : Prop := H t = some (.tup xs) ∨ ∀ H', SqT K H' t xs
theorem TupC.sq {K : PySem.W.Frag} {H : Hp} {t : Addr} {xs : List V} (h : TupC K H t xs) : SqT K H t xs := h.elim SqT.of fun h => h H
theorem TupC.same {K : PySem.W.Frag} {H H' : Hp} {t : Addr} {xs : List V} (h : TupC K H t xs) (s : Same H H') : TupC K H' t xs := h.imp (s _ _) id
def spShModes (K : PySem.W.Frag) (C X : Addr) : Sp := fun vs H Q E => ∃ (x : Addr) (z : Str) (rs : List Row), vs = [.ref x, .str z] ∧ ShO C H x rs ∧
  (∀ r t H', findR rs z = some r → Same H H' → TupC K H' t (modesV r.sh) → Q (.ref t) H') ∧ (findR rs z = none → ErrS X "mark" (.str z) H E)
theorem sh_look1 (l m : Addr) : List.lookup ("_listed" : Str) [(("_listed" : Str), V.ref l), ("_marks", V.ref m)] = some (V.ref l) := rfl
theorem sh_look2 (l m : Addr) : List.lookup ("_marks" : Str) [(("_listed" : Str), V.ref l), ("_marks", V.ref m)] = some (V.ref m) := rfl
section
variable {w : World} {K : PySem.W.Frag} {mg : Str → Option Value} {base : Heap}
theorem ok_Shape_iter (T : Txt K mg) : IterOk PP w K mg base 1 T.a_Shape_iter T.c_Shape "_marks" := fun A outer s H a dx l fs xs Q E hr e0 ha hf hq q => by
  refine fn_here T.F_Shape_iter sc_Shape_iter T.b_Shape_iter hr e0 (vs := [.ref a]) (.cons rfl .nil) rfl fun cdv hr => ⟨_, (pss_one (ps_ret (pe_callB ItX.call_iterN (by rfl) T.n_iter (by decide +kernel) (pa_cons (pe_fld (pv 0) rfl) pa_nil)))), ?_⟩
  exact ⟨_, rfl, a, _, dx, _, _, rfl, ha, T.cl_Shape, T.no_Shape__marks, hf, l, xs, rfl, hq, fun it n1 n2 => q it n1 n2⟩
theorem ok_Shape_len (T : Txt K mg) : FnOk PP w K mg base CX0 1 T.a_Shape_len T.fd_Shape_len ["self"] (spShLen T.c_Shape) := by
  refine T.F_Shape_len.ok sc_Shape_len (fun vs H Q E h => ?_) (fun cdv A outer s H vs Q E hr h => ?_)
  · obtain ⟨x, rs, rfl, _⟩ := h; rfl
  · obtain ⟨x, rs, rfl, ⟨dx, l, m, us, hx, hl, hs, hm⟩, q⟩ := h
    refine ⟨_, (pss_one (ps_ret (pe_callB call_len_seq (by rfl) T.n_len (by decide +kernel) (pa_cons (pe_fld (pv 0) rfl) pa_nil)))), ?_⟩
    refine ⟨_, rfl, x, _, dx, _, _, rfl, hx, T.cl_Shape, T.no_Shape__marks, sh_look2 l m, m, _, rfl, .inl (SqL.of hm), ?_⟩
    unfold mksV
    rw [List.length_map]
    exact q
theorem ok_Shape_getitem (T : Txt K mg) : FnOk PP w K mg base (L2.CX PP w) 2 T.a_Shape_getitem T.fd_Shape_getitem ["self", "mark"] (spShGet T.c_Shape T.c_UnknownMark) := by
  refine T.F_Shape_getitem.okX sc_Shape_getitem (fun vs H Q E h => ?_) (fun cdv A outer s H vs Q E hr h => ?_)
  · obtain ⟨x, z, rs, rfl, _⟩ := h; rfl
  · obtain ⟨x, z, rs, rfl, ⟨dx, l, m, us, hx, hl, hs, hm⟩, q, qx⟩ := h
    refine ⟨_, (pss_cons (ps_for (passes_of rfl) rfl (pi_list (pe_fld (pv 0) rfl)) (pg_name (i := 2) sc_Shape_getitem.nd rfl (.inl rfl)) (pss_one (ps_if (pt_cmpR op_eq (pe_ix ix_tup (pv 2) (pe_int) (fun _ _ => rfl)) (pv 1) (nomark _)) (pss_one (ps_ret (pv 2))) pss_nil)))
      (pss_one (ps_raiseX rfl T.x_UnknownMark hr (takes_of rfl rfl rfl rfl) (pa_cons (pv 1) pa_nil)))), ?_⟩
    refine ⟨_, rfl, x, _, dx, _, _, rfl, hx, T.cl_Shape, T.no_Shape__listed, sh_look1 l m, l, rfl, ⟨_, SqL.of hl⟩, for_list (K := K) (a := l) (xs := us) (fun i σ H' => ∃ x2, σ = [some (.ref x), some (.str z), x2] ∧ H' = H ∧ ∀ q ∈ rs.take i, q.mark ≠ z) ⟨_, rfl, rfl, fun q h => by rw [List.take_zero] at h; cases h⟩ (fun i σ H' _ ⟨_, _, e, _⟩ => e ▸ SqL.of hl) ?_ ?_⟩
    · rintro i v σ H2 hv ⟨x1, rfl, rfl, nb⟩
      obtain ⟨r, hr, p, pp, rfl, hp, hpp⟩ := pair_get' hs hv
      refine ⟨_, rfl, _, _, _, _, rfl, rfl, SqT.of hp, atI_nat (j := 0) rfl, _, rfl, rfl, _, rfl, iteD (fun c => ?_) (fun c => ?_)⟩
      · exact ⟨_, rfl, q r p pp (findR_at hr (V.str.inj c) nb) hp hpp⟩
      · refine ⟨_, rfl, rfl, fun t ht => ?_⟩
        rw [List.take_succ, hr] at ht
        rcases List.mem_append.mp ht with ht | ht
        · exact nb t ht
        · rw [List.mem_singleton.mp ht]; exact fun e => c (by rw [e])
    · rintro σ H2 ⟨x1, rfl, rfl, nb⟩
      rw [pair_len' hs, List.take_length] at nb
      exact ⟨_, rfl, _, rfl, fun d hd => qx (findR_no nb) _ d (same_new hd) hd upd_same⟩
theorem ok_Shape_modes_of (T : Txt K mg) : FnOk PP w K mg base (L2.CX PP w) 4 T.a_Shape_modes_of T.fd_Shape_modes_of ["self", "mark"] (spShModes K T.c_Shape T.c_UnknownMark) := by
  refine T.F_Shape_modes_of.okX sc_Shape_modes_of (fun vs H Q E h => ?_) (fun cdv A outer s H vs Q E hr h => ?_)
  · obtain ⟨x, z, rs, rfl, _⟩ := h; rfl
  · obtain ⟨x, z, rs, rfl, hS, q, qx⟩ := h
    obtain ⟨dx, l, m, us, hx, _⟩ := id hS
    refine ⟨_, (pss_cons (ps_if (pt_val (pe_ix ix_tup (pe_getI T.m_Shape_getitem T.fi_Shape_getitem (ok_Shape_getitem T) (hr.mono (by omega)) T.b_Shape_getitem (passes_call (takes_of rfl rfl rfl rfl) (fun _ _ _ _ h => h)) (pv 0) (pv 1)) (pe_int) (fun _ _ => rfl))) (pss_one (ps_ret (pe_glob (v := .ref T.k_MODES) (by rfl) T.g_MODES rfl))) pss_nil)
      (pss_one (ps_ret (pe_slice sl_tup (pe_glob (v := .ref T.k_MODES) (by rfl) T.g_MODES rfl) po_none (po_some (pe_int)))))), ?_⟩
    refine ⟨_, rfl, _, rfl, x, _, _, rfl, hx, x, z, rs, rfl, hS, fun r p pp hf hp hpp => ?_, qx⟩
    refine ⟨_, _, _, _, rfl, rfl, SqT.of hp, atI_nat (j := 4) rfl, _, rfl, ?_⟩
    cases e : r.sh with
    | true =>
      refine iteT (q r _ H hf (fun _ _ h => h) ?_)
      rw [e]
      exact .inr T.q_MODES
    | false =>
      refine iteF ⟨_, rfl, T.k_MODES, _, rfl, T.q_MODES _, by decide, fun c hc => q r _ _ hf (same_new hc) ?_⟩
      rw [e]
      exact .inl upd_same
end
end My

namespace My
open PySem L2
/-! ### drawn marks -/
def spLMarks (K : PySem.W.Frag) : Sp := fun vs H Q _ => ∃ (d t : Addr) (n : Nat), vs = [.ref d, .ref t, .int n] ∧ Dr K H d t ∧ n ≤ 26 ∧
  ∀ (ms : List Str) p H', ms.length = n → ms.Nodup → (∀ m ∈ ms, isMk m = true) → Dr K H' d t → But t H H' → H p = none → H' p = some (.lst (ms.map V.str)) → Q (.ref p) H'
theorem joinL_nil : ∀ ls : List (List Nat), TL.joinL [] ls = ls.flatten
  | [] => rfl
  | [p] => by simp [TL.joinL]
  | p :: q :: r => by
    have := joinL_nil (q :: r)
    rw [TL.joinL, this]; simp
theorem letters_tl : ("abcdefghijklmnopqrstuvwxyz" : Str).cps.toList = (List.range 26).map (97 + ·) := by decide +kernel
theorem letter_at {i : Int} (h0 : 0 ≤ i) (h1 : i < 26) : atI ("abcdefghijklmnopqrstuvwxyz" : Str).cps.toList i = some (97 + i.toNat) := by
  obtain ⟨j, rfl⟩ := Int.eq_ofNat_of_zero_le h0
  refine atI_nat ?_
  rw [letters_tl, List.getElem?_map, List.getElem?_range (by omega)]
  rfl
def letS (i : Int) : Str := ⟨#[97 + i.toNat]⟩
theorem tl_letS (i : Int) : TL.tl (letS i) = [97 + i.toNat] := rfl
def restS (f : Int) (z : Nat) : Str := Txt.join "" ((List.range z).map fun j => letS ((f + 3 * (j : Nat)) % 26))
theorem tl_restS (f : Int) (z : Nat) : TL.tl (restS f z) = (List.range z).map fun j => 97 + ((f + 3 * (j : Nat)) % 26).toNat := by
  unfold restS
  rw [TL.join_eq, TL.tl_join, show TL.tl ("" : Str) = [] by decide +kernel, joinL_nil, List.map_map, ← List.flatMap_def]
  induction z with
  | zero => rfl
  | succ z ih => rw [List.range_succ, List.flatMap_append, ih, List.map_append]; rfl
theorem isMk_of {m : Str} (h1 : 1 ≤ (TL.tl m).length) (h8 : (TL.tl m).length ≤ 8) (ha : ∀ c ∈ TL.tl m, 97 ≤ c ∧ c ≤ 122) : isMk m = true := by
  unfold isMk
  rw [TL.len_tl, decide_eq_true ⟨h1, h8⟩, Bool.true_and, List.all_eq_true]
  exact fun c hc => decide_eq_true (ha c hc)
theorem let_ok (i : Int) : 97 ≤ 97 + (i % 26).toNat ∧ 97 + (i % 26).toNat ≤ 122 := by
  have := Int.emod_lt_of_pos i (show (0 : Int) < 26 by decide)
  have := Int.emod_nonneg i (show (26 : Int) ≠ 0 by decide)
  omega
theorem rest_ok {f : Int} {z c : Nat} (h : c ∈ TL.tl (restS f z)) : 97 ≤ c ∧ c ≤ 122 := by
  rw [tl_restS] at h
  obtain ⟨j, _, rfl⟩ := List.mem_map.mp h
  exact let_ok _
theorem rest_len (f : Int) (z : Nat) : (TL.tl (restS f z)).length = z := by rw [tl_restS, List.length_map, List.length_range]
theorem sum_let (f : Int) (z : Nat) : (((List.range z).map fun j => letS ((f + 3 * ((j : Nat) : Int)) % 26)).map (·.length)).sum = z := by
  induction z with
  | zero => rfl
  | succ z ih =>
    rw [List.range_succ, List.map_append, List.map_append, List.sum_append, ih]
    rfl
def sgn (sh : Int) (j : Nat) : Nat := 97 + ((sh + 5 * (j : Nat)) % 26).toNat
def keyOf (front : Bool) (m : Str) : Option Nat := if front then (TL.tl m).head? else (TL.tl m).getLast?
theorem key_nodup {front : Bool} {sh : Int} {ms : List Str} (hz : ms.length ≤ 26) (h : ∀ j m, ms[j]? = some m → keyOf front m = some (sgn sh j)) : ms.Nodup := by
  refine List.pairwise_iff_getElem.mpr fun i j hi hj hij e => ?_
  have e1 := h i _ (List.getElem?_eq_getElem hi)
  have e2 := h j _ (List.getElem?_eq_getElem hj)
  rw [e, e2] at e1
  have e1 := Option.some.inj e1
  unfold sgn at e1
  omega
section
variable {P : Program} {w : World} {K : PySem.W.Frag} {mg : Str → Option Value} {base : Heap}
theorem ok__law_marks (T : Txt K mg) : FnOk P w K mg base CX0 2 T.a__law_marks T.fd__law_marks ["_law_draws_here", "_law_at", "_law_count"] (spLMarks K) := by
  refine T.F__law_marks.ok sc__law_marks (fun vs H Q E h => ?_) (fun cdv A outer s H vs Q E hr h => ?_)
  · obtain ⟨d, t, n, rfl, _⟩ := h; rfl
  · obtain ⟨d, t, n, rfl, D0, hn, q⟩ := h
    refine ⟨_, (pss_cons (ps_set (i := 3) sc__law_marks.nd rfl (.inr rfl) (pe_str))
      (pss_cons (ps_set (i := 4) sc__law_marks.nd rfl (.inl rfl) (pe_call (ok__law_take T) (hr.mono (by omega)) (by rfl) T.g__law_take T.F__law_take.kp T.b__law_take .nil pass0 (pa_cons (pv 0) (pa_cons (pv 1) (pa_cons (pe_int) pa_nil)))))
      (pss_cons (ps_set (i := 5) sc__law_marks.nd rfl (.inl rfl) (pe_cmpR op_eq (pe_call (ok__law_take T) (hr.mono (by omega)) (by rfl) T.g__law_take T.F__law_take.kp T.b__law_take .nil pass0 (pa_cons (pv 0) (pa_cons (pv 1) (pa_cons (pe_int) pa_nil)))) (pe_int) (nomark _)))
      (pss_cons (ps_set (i := 6) sc__law_marks.nd rfl (.inl rfl) (pe_lst pa_nil))
      (pss_cons (ps_for PassesOwn.never rfl (pi_range1 (by rfl) T.n_range (pa_cons (pv 2) pa_nil)) (pg_name (i := 7) sc__law_marks.nd rfl (.inl rfl)) (pss_cons (ps_set (i := 8) sc__law_marks.nd rfl (.inl rfl) (pe_ix ix_list (pe_lst (pa_cons (pe_int) (pa_cons (pe_int) (pa_cons (pe_int) (pa_cons (pe_int) (pa_cons (pe_int) pa_nil)))))) (pe_call (ok__law_take T) (hr.mono (by omega)) (by rfl) T.g__law_take T.F__law_take.kp T.b__law_take .nil pass0 (pa_cons (pv 0) (pa_cons (pv 1) (pa_cons (pe_int) pa_nil)))) (fun _ _ => rfl)))
      (pss_cons (ps_set (i := 9) sc__law_marks.nd rfl (.inr rfl) (pe_call (ok__law_take T) (hr.mono (by omega)) (by rfl) T.g__law_take T.F__law_take.kp T.b__law_take .nil pass0 (pa_cons (pv 0) (pa_cons (pv 1) (pa_cons (pe_int) pa_nil)))))
      (pss_cons (ps_set (i := 10) sc__law_marks.nd rfl (.inl rfl) (pe_join (pe_str) (pe_lc (own := [("_law_j", 11)]) (g := (gName 11)) (by rfl) sc__law_marks.nd (pi_range1 (by rfl) T.n_range (pa_cons (pv 8) pa_nil)) (blkOk_by (own := [("_law_j", 11)]) (N := ["_law_draws_here", "_law_at", "_law_count", "_law_letters", "_law_shift", "_law_front", "_law_marks_here", "_law_k", "_law_size", "_law_first", "_law_rest", "_law_j", "_law_sign"]) (sc := defScope S__law_marks) (by decide +kernel)) (fun _ _ _ _ _ => (pg_name (i := 11) sc__law_marks.nd rfl (by first | exact .inl rfl | exact .inr rfl))) (fun _ _ _ _ _ => pts_nil) (fun _ _ _ _ _ => (pe_ix ix_str (pv 3) (pe_op op_mod (pe_op op_add (pv 9) (pe_op op_mul (pe_int) (pv 11))) (pe_int)) (fun _ _ => rfl))))))
      (pss_cons (ps_set (i := 12) sc__law_marks.nd rfl (.inl rfl) (pe_ix ix_str (pv 3) (pe_op op_mod (pe_op op_add (pv 4) (pe_op op_mul (pe_int) (pv 7))) (pe_int)) (fun _ _ => rfl)))
      (pss_one (ps_if (pt_val (pv 5)) (pss_one (ps_expr (pe_bm PySem.F.plainAttrs_list PySem.F.slot_list_append PySem.F.type_list_append mt_append (pv 6) (pa_cons (pe_op op_add_str (pv 12) (pv 10)) pa_nil)))) (pss_one (ps_expr (pe_bm PySem.F.plainAttrs_list PySem.F.slot_list_append PySem.F.type_list_append mt_append (pv 6) (pa_cons (pe_op op_add_str (pv 10) (pv 12)) pa_nil)))))))))))
      (pss_one (ps_ret (pv 6)))))))), ?_⟩
    have big : 100000 < sizeLine := by decide
    refine ⟨_, rfl, _, rfl, d, t, 26, rfl, D0, by decide, fun sh H1 h0 h1 D1 b1 => ?_⟩
    refine ⟨_, rfl, _, rfl, d, t, 2, rfl, D1, by decide, fun fr H2 _ _ D2 b2 => ⟨rfl, ?_⟩⟩
    generalize decide (V.int fr = V.int 1) = front
    refine ⟨Nat.zero_le _, fun l hl => ?_⟩
    have nlt : l ≠ t := D2.na hl
    have b2 := b1.trans b2
    have hl0 : H l = none := b2.free nlt hl
    have s3 := same_new (o := .lst []) hl
    refine ⟨_, rfl, _, rfl, by omega, by omega, for_range (lo := 0) (n := n) (fun k σ H' => ∃ (ms : List Str) (x7 x8 x9 x10 x11 x12 : Option V), σ = [some (.ref d), some (.ref t), some (.int n), some (.str "abcdefghijklmnopqrstuvwxyz"), some (.int sh), some (.bl front), some (.ref l), x7, x8, x9, x10, x11, x12] ∧ Dr K H' d t ∧ But t H H' ∧ H' l = some (.lst (ms.map V.str)) ∧ ms.length = k ∧
        ∀ j m, ms[j]? = some m → isMk m = true ∧ keyOf front m = some (sgn sh j))
      ⟨[], _, _, _, _, _, _, rfl, D2.same s3, b2.trans (But.of_same s3), upd_same, rfl, fun j m h => by simp at h⟩ ?_ ?_⟩
    · rintro k σ H3 hk ⟨ms, x7, x8, x9, x10, x11, x12, rfl, D3, b3, hl3, lk, hms⟩
      rw [Int.zero_add]
      refine ⟨by show 5 ≤ sizeLine; decide, fun m hm => ?_⟩
      have nmt : m ≠ t := D3.na hm
      have s4 := same_new (o := .lst [.int 0, .int 1, .int 2, .int 4, .int 7]) hm
      refine ⟨_, rfl, _, rfl, d, t, 5, rfl, D3.same s4, by decide, fun r H4 r0 r1 D4 b4 => ?_⟩
      obtain ⟨v, hv, mv⟩ := at_ok (xs := [.int 0, .int 1, .int 2, .int 4, .int 7]) r0 r1
      obtain ⟨z, rfl, hz⟩ : ∃ z : Nat, v = .int z ∧ z ≤ 7 := by
        simp only [List.mem_cons, List.not_mem_nil, or_false] at mv
        rcases mv with rfl | rfl | rfl | rfl | rfl
        · exact ⟨0, rfl, by decide⟩
        · exact ⟨1, rfl, by decide⟩
        · exact ⟨2, rfl, by decide⟩
        · exact ⟨4, rfl, by decide⟩
        · exact ⟨7, rfl, by decide⟩
      refine ⟨_, _, _, _, rfl, rfl, SqL.of (b4 _ _ nmt upd_same), hv, ?_⟩
      refine ⟨_, rfl, _, rfl, d, t, 26, rfl, D4, by decide, fun f H5 f0 f1 D5 b5 => ?_⟩
      have t5 : But t H H5 := ((b3.trans (But.of_same s4)).trans b4).trans b5
      have hl5 := b5 _ _ nlt (b4 _ _ nlt (s4 _ _ hl3))
      refine ⟨⟨_, rfl⟩, _, rfl, _, rfl, by omega, by omega, fun D hD => lc_range (lo := 0) (n := z) (fun i H' => Same H5 H' ∧ H' D = some (.lst (((List.range i).map fun j => letS ((f + 3 * (j : Nat)) % 26)).map V.str))) ⟨same_new hD, upd_same⟩ ?_ ?_⟩
      · rintro i H6 hi ⟨s6, h6⟩
        rw [Int.zero_add]
        refine ⟨rfl, ?_⟩
        unfold tYes
        refine iteT ⟨_, rfl, _, rfl, _, rfl, _, _, rfl, rfl, .inl ⟨by decide, by decide⟩, _, _, rfl, rfl, _, _, rfl, rfl, (show (0 : Int) < 26 by decide), _, _, _, rfl, rfl, by decide +kernel, letter_at (Int.emod_nonneg _ (by decide)) (Int.emod_lt_of_pos _ (by decide)), ?_⟩
        refine ⟨_, h6, by simp; omega, same_mut s6 hD, ?_⟩
        rw [upd_same, List.range_succ, List.map_append, List.map_append]; rfl
      · rintro H6 ⟨s6, h6⟩
        refine ⟨_, D, _, rfl, rfl, .inl (SqL.of h6), ?_, ?_⟩
        · rw [sum_let, List.length_map, List.length_range, show ("" : Str).length = 0 by decide +kernel]; omega
        show (fun _ => _) _
        refine ⟨_, rfl, _, rfl, _, rfl, _, _, rfl, rfl, .inl ⟨by decide, by decide⟩, _, _, rfl, rfl, _, _, rfl, rfl, (show (0 : Int) < 26 by decide), _, _, _, rfl, rfl, by decide +kernel, letter_at (Int.emod_nonneg _ (by decide)) (Int.emod_lt_of_pos _ (by decide)), ?_⟩
        have hl6 := s6 _ _ hl5
        have t6 := t5.trans (But.of_same s6)
        have D6 := D5.same s6
        have rl := rest_len f z
        have keep : ∀ m : Str, (isMk m = true ∧ keyOf front m = some (sgn sh k)) → ∀ j m', (ms ++ [m])[j]? = some m' → isMk m' = true ∧ keyOf front m' = some (sgn sh j) := fun m hm j m' h => by
          by_cases c : j < ms.length
          · rw [List.getElem?_append_left c] at h; exact hms j m' h
          · rw [List.getElem?_append_right (by omega)] at h
            obtain ⟨h1, h2⟩ := List.getElem?_eq_some_iff.mp h
            have h1 : j - ms.length < 1 := h1
            obtain rfl : j = k := by omega
            have e0 : j - ms.length = 0 := by omega
            rw [e0] at h
            exact Option.some.inj h ▸ hm
        refine ⟨_, rfl, _, rfl, ?_⟩
        cases front with
        | true =>
          refine iteT ⟨_, rfl, .inl ⟨rfl, _, SqL.of hl6⟩, _, rfl, _, rfl, _, _, rfl, rfl, ?_, _, _, _, rfl, rfl, hl6, by rw [List.length_map]; omega, ?_⟩
          · rw [TL.len_tl, TL.len_tl]; show 1 + _ ≤ _; rw [show TL.tl (Txt.join "" ((List.range z).map fun j => letS ((f + 3 * ((j : Nat) : Int)) % 26))) = TL.tl (restS f z) from rfl, rl]; omega
          · refine ⟨ms ++ [letS ((sh + 5 * (k : Nat)) % 26) ++ restS f z], _, _, _, _, _, _, rfl, D6.other But.upd (D0.nd hl0) nlt.symm, t6.mut hl0, by rw [upd_same, List.map_append]; rfl, by rw [List.length_append, lk]; rfl, keep _ ⟨isMk_of ?_ ?_ ?_, ?_⟩⟩
            · rw [TL.tl_append, List.length_append]; show 1 ≤ 1 + _; omega
            · rw [TL.tl_append, List.length_append, rl]; show 1 + _ ≤ _; omega
            · intro c hc
              rw [TL.tl_append] at hc
              rcases List.mem_append.mp hc with hc | hc
              · rw [List.mem_singleton.mp hc]; exact let_ok _
              · exact rest_ok hc
            · unfold keyOf; rw [TL.tl_append]; rfl
        | false =>
          refine iteF ⟨_, rfl, .inl ⟨rfl, _, SqL.of hl6⟩, _, rfl, _, rfl, _, _, rfl, rfl, ?_, _, _, _, rfl, rfl, hl6, by rw [List.length_map]; omega, ?_⟩
          · rw [TL.len_tl, TL.len_tl]; show _ + 1 ≤ _; rw [show TL.tl (Txt.join "" ((List.range z).map fun j => letS ((f + 3 * ((j : Nat) : Int)) % 26))) = TL.tl (restS f z) from rfl, rl]; omega
          · refine ⟨ms ++ [restS f z ++ letS ((sh + 5 * (k : Nat)) % 26)], _, _, _, _, _, _, rfl, D6.other But.upd (D0.nd hl0) nlt.symm, t6.mut hl0, by rw [upd_same, List.map_append]; rfl, by rw [List.length_append, lk]; rfl, keep _ ⟨isMk_of ?_ ?_ ?_, ?_⟩⟩
            · rw [TL.tl_append, List.length_append]; show 1 ≤ _ + 1; omega
            · rw [TL.tl_append, List.length_append, rl]; show _ + 1 ≤ _; omega
            · intro c hc
              rw [TL.tl_append] at hc
              rcases List.mem_append.mp hc with hc | hc
              · exact rest_ok hc
              · rw [List.mem_singleton.mp hc]; exact let_ok _
            · unfold keyOf; rw [TL.tl_append]; exact List.getLast?_concat
    · rintro σ H3 ⟨ms, x7, x8, x9, x10, x11, x12, rfl, D3, b3, hl3, lk, hms⟩
      refine ⟨_, rfl, q ms l H3 lk (key_nodup (by omega) fun j m h => (hms j m h).2) (fun m hm => ?_) D3 b3 hl0 hl3⟩
      obtain ⟨j, hj⟩ := List.mem_iff_getElem?.mp hm
      exact (hms j m hj).1
end
end My

namespace My
open PySem L2
/-! ### all but what A holds stays -/
def Le (A : List Addr) (H H' : Hp) : Prop := ∀ b o, b ∉ A → H b = some o → H' b = some o
theorem Le.refl (A : List Addr) (H : Hp) : Le A H H := fun _ _ _ h => h
theorem Le.trans {A : List Addr} {H H1 H2 : Hp} (x : Le A H H1) (y : Le A H1 H2) : Le A H H2 := fun b o n h => y b o n (x b o n h)
theorem Le.same {A : List Addr} {H H' : Hp} (s : Same H H') : Le A H H' := fun b o _ h => s b o h
theorem Le.but {A : List Addr} {t : Addr} {H H' : Hp} (m : t ∈ A) (b : But t H H') : Le A H H' := fun a o n h => b a o (fun z => n (z ▸ m)) h
theorem Le.upd {A : List Addr} {H : Hp} {p : Addr} {o : HO} (m : p ∈ A) : Le A H (upd H p o) := fun a u n e => by rw [upd_ne (show a ≠ p from fun q => n (by rw [q]; exact m))]; exact e
theorem Le.put {A : List Addr} {H H' : Hp} {p : Addr} {o : HO} (x : Le A H H') (h : H p = none) : Le A H (L2.upd H' p o) := fun a u n e => by rw [upd_ne (ne_of_none e h)]; exact x a u n e
/-- the addresses of A are taken -/
def Al (A : List Addr) (H : Hp) : Prop := ∀ a ∈ A, ∃ o, H a = some o
theorem Al.nin {A : List Addr} {H : Hp} (h : Al A H) {p : Addr} (n : H p = none) : p ∉ A := fun m => by obtain ⟨o, e⟩ := h p m; rw [n] at e; cases e
theorem Al.same {A : List Addr} {H H' : Hp} (h : Al A H) (s : Same H H') : Al A H' := fun a m => (h a m).elim fun o e => ⟨o, s _ _ e⟩
/-! ### drawn rows of a shape -/
structure PRow where
  idx : Int
  pars : List Int
  least : Int
  most : Int
  sh : Bool
def prL (r : PRow) (pp : Addr) : List V := [.int r.idx, .ref pp, .int r.least, .int r.most, .bl r.sh]
def PrV (A : List Addr) (H : Hp) (v : V) (r : PRow) : Prop := ∃ p pp, v = .ref p ∧ p ∉ A ∧ pp ∉ A ∧ H p = some (.lst (prL r pp)) ∧ H pp = some (.lst (r.pars.map V.int))
theorem PrV.le {A : List Addr} {H H' : Hp} {v : V} {r : PRow} (h : PrV A H v r) (l : Le A H H') : PrV A H' v r := let ⟨p, pp, e, a, b, c, d⟩ := h; ⟨p, pp, e, a, b, l _ _ a c, l _ _ b d⟩
theorem PrV.sub {A B : List Addr} {H : Hp} {v : V} {r : PRow} (h : PrV A H v r) (s : ∀ a ∈ B, a ∈ A) : PrV B H v r := let ⟨p, pp, e, a, b, c, d⟩ := h; ⟨p, pp, e, fun m => a (s _ m), fun m => b (s _ m), c, d⟩
def listOk (n : Nat) (js : List Int) : Prop := js.Nodup ∧ ∀ j ∈ js, 0 ≤ j ∧ j < n
structure PrOk (n k : Nat) (r : PRow) : Prop where
  idx : r.idx = k
  pars : listOk n r.pars
  l0 : 0 ≤ r.least
  lm : r.least ≤ r.most
  m4 : r.most ≤ 4
  pm : 0 < r.most ↔ r.pars ≠ []
  low : r.least ≠ 0 → ∃ j ∈ r.pars, j < (k : Int)
def PlanOk (n : Nat) (prs : List PRow) : Prop := prs.length = n ∧ ∀ k r, prs[k]? = some r → PrOk n k r
def spLPlan (K : PySem.W.Frag) : Sp := fun vs H Q _ => ∃ (d t : Addr) (n : Nat), vs = [.ref d, .ref t, .int n] ∧ Dr K H d t ∧ n ≤ 26 ∧
  ∀ (prs : List PRow) us p H', PlanOk n prs → Dr K H' d t → But t H H' → H p = none → H' p = some (.lst us) → Paired (PrV [t] H') us prs → Q (.ref p) H'
theorem lst_len {n : Nat} {js : List Int} (h : listOk n js) : js.length ≤ n := by
  have nd : (js.map Int.toNat).Nodup := by
    refine List.pairwise_map.mpr (List.Pairwise.imp_of_mem (fun {a b} ha hb ne e => ne ?_) h.1)
    have := h.2 a ha; have := h.2 b hb; omega
  have sub : ∀ x ∈ js.map Int.toNat, x ∈ List.range n := fun x hx => by
    obtain ⟨j, hj, rfl⟩ := List.mem_map.mp hx
    have := h.2 j hj
    exact List.mem_range.mpr (by omega)
  have := List.Nodup.length_le_of_subset nd sub
  rwa [List.length_map, List.length_range] at this
section
variable {P : Program} {w : World} {K : PySem.W.Frag} {mg : Str → Option Value} {base : Heap}
end
end My

namespace My
open PySem L2
/-! ### rows of a shape with names, as lists or tuples, at addresses of F -/
def seqO (b : Bool) (xs : List V) : HO := if b then .lst xs else .tup xs
def RowN (F : Addr → Prop) (b : Bool) (H : Hp) (v : V) (r : Row) : Prop := ∃ p pp, v = .ref p ∧ F p ∧ F pp ∧ H p = some (seqO b (rowL r pp)) ∧ H pp = some (seqO b (r.pars.map V.str))
abbrev RowsN (F : Addr → Prop) (b : Bool) (H : Hp) (vs : List V) (rs : List Row) : Prop := Paired (RowN F b H) vs rs
theorem RowN.le {F : Addr → Prop} {b : Bool} {H H' : Hp} {v : V} {r : Row} (h : RowN F b H v r) (l : ∀ a o, F a → H a = some o → H' a = some o) : RowN F b H' v r := let ⟨p, pp, e, f, g, x, y⟩ := h; ⟨p, pp, e, f, g, l _ _ f x, l _ _ g y⟩
theorem RowN.sub {F G : Addr → Prop} {b : Bool} {H : Hp} {v : V} {r : Row} (h : RowN F b H v r) (l : ∀ a, F a → G a) : RowN G b H v r := let ⟨p, pp, e, f, g, x, y⟩ := h; ⟨p, pp, e, l _ f, l _ g, x, y⟩
theorem rowsN_le {F : Addr → Prop} {b : Bool} {H H' : Hp} {vs : List V} {rs : List Row} (h : RowsN F b H vs rs) (l : ∀ a o, F a → H a = some o → H' a = some o) : RowsN F b H' vs rs := L2.Paired.mapP h fun _ _ x => x.le l
theorem rowsN_same {F : Addr → Prop} {b : Bool} {H H' : Hp} {vs : List V} {rs : List Row} (h : RowsN F b H vs rs) (s : Same H H') : RowsN F b H' vs rs := rowsN_le h fun a o _ e => s a o e
theorem rowsN_sub {F G : Addr → Prop} {b : Bool} {H : Hp} {vs : List V} {rs : List Row} (h : RowsN F b H vs rs) (l : ∀ a, F a → G a) : RowsN G b H vs rs := L2.Paired.mapP h fun _ _ x => x.sub l
theorem RowN.toV {F : Addr → Prop} {b : Bool} {H : Hp} {v : V} {r : Row} (h : RowN F b H v r) : RowV H v r := by
  obtain ⟨p, pp, e, _, _, x, y⟩ := h
  cases b with
  | true => exact ⟨p, pp, e, .inr x, .inr y⟩
  | false => exact ⟨p, pp, e, .inl x, .inl y⟩
theorem rowsN_toV {F : Addr → Prop} {b : Bool} {H : Hp} {vs : List V} {rs : List Row} (h : RowsN F b H vs rs) : Paired (RowV H) vs rs := L2.Paired.mapP h fun _ _ x => x.toV
abbrev New (H0 : Hp) : Addr → Prop := fun a => H0 a = none
def nm (ms : List Str) (i : Int) : Str := ms.getD i.toNat ""
def nameR (ms : List Str) (r : PRow) : Row := ⟨nm ms r.idx, r.pars.map (nm ms), r.least, r.most, r.sh⟩
def spLNamed (K : PySem.W.Frag) : Sp := fun vs H Q _ => ∃ (a b : Addr) (us : List V) (prs : List PRow) (n : Nat) (ms : List Str), vs = [.ref a, .ref b] ∧ H a = some (.lst us) ∧ Paired (PrV [] H) us prs ∧ PlanOk n prs ∧ n ≤ ms.length ∧ n ≤ 26 ∧ H b = some (.lst (ms.map V.str)) ∧
  ∀ p ws H', Same H H' → H p = none → H' p = some (.lst ws) → RowsN (New H) true H' ws (prs.map (nameR ms)) → Q (.ref p) H'
def spLHanded (K : PySem.W.Frag) : Sp := fun vs H Q _ => ∃ (a : Addr) (b : Bool) (us : List V) (rs : List Row), vs = [.ref a, .bl b] ∧ H a = some (.lst us) ∧ RowsN (fun _ => True) true H us rs ∧ us.length ≤ 100 ∧
  ∀ p ws H', Same H H' → H p = none → H' p = some (.lst ws) → RowsN (fun a => H a = none ∧ a ≠ p) b H' ws rs → Q (.ref p) H'
def spLWidth (K : PySem.W.Frag) : Sp := fun vs H Q _ => ∃ (a : Addr) (us : List V) (rs : List Row), vs = [.ref a] ∧ H a = some (.lst us) ∧ RowsN (fun _ => True) true H us rs ∧ Q (.int (widthOf rs)) H
theorem nm_at {ms : List Str} {i : Int} (h0 : 0 ≤ i) (h1 : i < ms.length) : atI (ms.map V.str) i = some (.str (nm ms i)) := by
  obtain ⟨j, rfl⟩ := Int.eq_ofNat_of_zero_le h0
  refine atI_nat ?_
  have hj : j < ms.length := by omega
  unfold nm
  rw [List.getElem?_map, List.getElem?_eq_getElem hj, List.getD_eq_getElem?_getD, Int.toNat_natCast, List.getElem?_eq_getElem hj]
  rfl
theorem named_in {K : PySem.W.Frag} {x0 x3 : Option V} {b p pp : Addr} {xs : List V} {js : List Int} {ms : List Str} {H : Hp} {Q : VK} (hb : H b = some (.lst (ms.map V.str))) (hp : H p = some (.lst xs)) (hx : atI xs 1 = some (.ref pp)) (hpp : H pp = some (.lst (js.map V.int))) (hz : js.length ≤ 1000) (hj : ∀ j ∈ js, 0 ≤ j ∧ j < ms.length)
    (q : ∀ D H', Same H H' → H D = none → H' D = some (.lst ((js.map (nm ms)).map V.str)) → Q (.ref D) H') :
    tLc (iList K (tOp (rIxL K) (tVar 2) (tC (.int 1)))) (gName 3) tYes (tOp (rIxL K) (tVar 1) (tVar 3)) [3] [x0, some (.ref b), some (.ref p), x3] H Q := by
  have big : 100000 < sizeLine := by decide
  refine ⟨_, rfl, _, _, _, _, rfl, rfl, SqL.of hp, hx, pp, rfl, ⟨_, SqL.of hpp⟩, fun E hE => lc_list (K := K) (a := pp) (xs := js.map V.int) (fun i H' => Same H H' ∧ H' E = some (.lst (((js.take i).map (nm ms)).map V.str))) ⟨same_new hE, upd_same⟩ (fun i H' _ h => SqL.of (h.1 _ _ hpp)) ?_ ?_⟩
  · rintro i v H2 hv ⟨s2, h2⟩
    obtain ⟨z, hz', rfl⟩ := get_int hv
    have zok := hj z (List.mem_of_getElem? hz')
    refine ⟨rfl, ?_⟩
    unfold tYes
    refine iteT ⟨_, rfl, _, rfl, _, _, _, _, rfl, rfl, SqL.of (s2 _ _ hb), nm_at zok.1 zok.2, _, h2, ?_, same_mut s2 hE, ?_⟩
    · rw [List.length_map, List.length_map, List.length_take]; omega
    · rw [upd_same, List.take_succ, hz', List.map_append, List.map_append]; rfl
  · rintro H2 ⟨s2, h2⟩
    rw [List.length_map, List.take_length] at h2
    exact q E H2 s2 hE h2
section
variable {P : Program} {w : World} {K : PySem.W.Frag} {mg : Str → Option Value} {base : Heap}
end
end My

namespace My
open PySem L2
/-! ### good shapes, changed -/
def rowOk (r : Row) : Prop := isMk r.mark = true ∧ sizeB r = true ∧ (decide (0 < r.most) == decide (0 < r.pars.length)) = true ∧ r.pars.Nodup
theorem fineB_iff {r : Row} {bs : List Str} : fineB r bs = true ↔ rowOk r ∧ r.mark ∉ bs := by
  unfold fineB rowOk
  simp only [Bool.and_eq_true, Bool.not_eq_true', decide_eq_false_iff_not, decide_eq_true_iff]
  constructor
  · rintro ⟨⟨⟨a, b, c⟩, d⟩, e⟩; exact ⟨⟨a, c, d, e⟩, b⟩
  · rintro ⟨⟨a, c, d, e⟩, b⟩; exact ⟨⟨⟨a, b, c⟩, d⟩, e⟩
theorem nodup_take {l : List Str} : l.Nodup ↔ ∀ (j : Nat) (x : Str), l[j]? = some x → x ∉ l.take j := by
  constructor
  · intro h j x hx m
    obtain ⟨i, hi, e⟩ := List.getElem_of_mem m
    rw [List.length_take] at hi
    rw [List.getElem_take] at e
    obtain ⟨hj, e2⟩ := List.getElem?_eq_some_iff.mp hx
    exact List.pairwise_iff_getElem.mp h i j (by omega) hj (by omega) (e.trans e2.symm)
  · intro h
    refine List.pairwise_iff_getElem.mpr fun i j hi hj hij e => h j _ (List.getElem?_eq_getElem hj) ?_
    rw [← e]
    exact List.mem_iff_getElem.mpr ⟨i, by rw [List.length_take]; omega, by rw [List.getElem_take]⟩
structure GoodC (rs : List Row) : Prop where
  len : rs.length ≤ 6
  nd : (mks rs).Nodup
  row : ∀ r ∈ rs, rowOk r
  pars : ∀ q ∈ rs, parsOk rs q
  fert : ∀ q ∈ rs, Fert rs q.mark
theorem mks_take (rs : List Row) (j : Nat) : mks (rs.take j) = (mks rs).take j := List.map_take ..
theorem Good.c {rs : List Row} (g : Good rs) : GoodC rs := by
  refine ⟨g.len, nodup_take.mpr fun j x hx m => ?_, fun r hr => ?_, g.pars, g.fert⟩
  · unfold mks at hx
    rw [List.getElem?_map] at hx
    cases e : rs[j]? with
    | none => rw [e] at hx; cases hx
    | some r =>
      rw [e] at hx
      have e2 := (fineB_iff.mp (g.fine j r e)).2
      rw [mks_take, show r.mark = x from Option.some.inj hx] at e2
      exact e2 m
  · obtain ⟨j, hj⟩ := List.mem_iff_getElem?.mp hr
    exact (fineB_iff.mp (g.fine j r hj)).1
theorem GoodC.g {rs : List Row} (g : GoodC rs) : Good rs := by
  refine ⟨g.len, fun j r hr => fineB_iff.mpr ⟨g.row r (List.mem_of_getElem? hr), ?_⟩, g.pars, g.fert⟩
  rw [mks_take]
  refine nodup_take.mp g.nd j _ ?_
  unfold mks
  rw [List.getElem?_map, hr]; rfl
theorem Fert.mono {rs ts : List Row} (h : ∀ r ∈ rs, ∃ q ∈ ts, q.mark = r.mark ∧ q.least = r.least ∧ q.pars = r.pars) {m : Str} (f : Fert rs m) : Fert ts m := by
  induction f with
  | @base r hr e =>
    obtain ⟨q, hq, a, b, _⟩ := h r hr
    exact a ▸ .base hq (b.trans e)
  | @step r p hr hp _ ih =>
    obtain ⟨q, hq, a, _, c⟩ := h r hr
    exact a ▸ .step hq (c ▸ hp) ih
theorem GoodC.alike {rs ts : List Row} (g : GoodC rs) (hl : ts.length ≤ 6) (nd : (mks ts).Nodup) (a : ∀ q ∈ ts, rowOk q ∧ ∃ r ∈ rs, q.mark = r.mark ∧ q.pars = r.pars) (b : ∀ r ∈ rs, ∃ q ∈ ts, q.mark = r.mark ∧ q.least = r.least ∧ q.pars = r.pars) : GoodC ts := by
  refine ⟨hl, nd, fun q hq => (a q hq).1, fun q hq p hp => ?_, fun q hq => ?_⟩
  · obtain ⟨r, hr, _, e⟩ := (a q hq).2
    obtain ⟨r2, hr2, e2⟩ := List.mem_map.mp (g.pars r hr p (e ▸ hp))
    obtain ⟨q2, hq2, e3, _⟩ := b r2 hr2
    exact List.mem_map.mpr ⟨q2, hq2, e3.trans e2⟩
  · obtain ⟨r, hr, e, _⟩ := (a q hq).2
    rw [e]
    exact (g.fert r hr).mono b
theorem set_marks {rs : List Row} {i : Nat} {r q : Row} (h : rs[i]? = some r) (e : q.mark = r.mark) : mks (rs.set i q) = mks rs := by
  unfold mks
  rw [List.map_set, e]
  refine List.ext_getElem? fun j => ?_
  rw [List.getElem?_set]
  split
  · rename_i c; subst c
    rw [List.getElem?_map, h]
    have := (List.getElem?_eq_some_iff.mp h).1
    simp [this]
  · rfl
theorem GoodC.put {rs : List Row} (g : GoodC rs) {i : Nat} {r q : Row} (h : rs[i]? = some r) (e : q.mark = r.mark) (el : q.least = r.least) (ep : q.pars = r.pars) (ok : rowOk q) : GoodC (rs.set i q) := by
  have hi := (List.getElem?_eq_some_iff.mp h).1
  have mq : q ∈ rs.set i q := List.mem_iff_getElem?.mpr ⟨i, by rw [List.getElem?_set]; simp [hi]⟩
  refine g.alike (by rw [List.length_set]; exact g.len) (by rw [set_marks h e]; exact g.nd) (fun x hx => ?_) (fun x hx => ?_)
  · rcases List.mem_or_eq_of_mem_set hx with hx | hx
    · exact ⟨g.row x hx, x, hx, rfl, rfl⟩
    · subst hx; exact ⟨ok, r, List.mem_of_getElem? h, e, ep⟩
  · obtain ⟨j, hj⟩ := List.mem_iff_getElem?.mp hx
    by_cases c : i = j
    · subst c
      rw [h] at hj
      obtain rfl := Option.some.inj hj
      exact ⟨q, mq, e, el, ep⟩
    · exact ⟨x, List.mem_iff_getElem?.mpr ⟨j, by rw [List.getElem?_set, if_neg c]; exact hj⟩, rfl, rfl, rfl⟩
theorem GoodC.swap {rs : List Row} (g : GoodC rs) {i : Nat} {r q : Row} (h : rs[i]? = some r) (h0 : rs[0]? = some q) : GoodC ((rs.set i q).set 0 r) := by
  obtain ⟨hi, ei⟩ := List.getElem?_eq_some_iff.mp h
  obtain ⟨hz, ez⟩ := List.getElem?_eq_some_iff.mp h0
  have sub : ∀ x, x ∈ (rs.set i q).set 0 r → x ∈ rs := fun x hx => by
    rcases List.mem_or_eq_of_mem_set hx with hx | hx
    · rcases List.mem_or_eq_of_mem_set hx with hx | hx
      · exact hx
      · subst hx; exact List.mem_of_getElem? h0
    · subst hx; exact List.mem_of_getElem? h
  have sup : ∀ x, x ∈ rs → x ∈ (rs.set i q).set 0 r := fun x hx => by
    obtain ⟨j, hj⟩ := List.mem_iff_getElem?.mp hx
    by_cases c : j = i
    · subst c
      rw [h] at hj
      obtain rfl := Option.some.inj hj
      exact List.mem_iff_getElem?.mpr ⟨0, by rw [List.getElem?_set]; simp [hz]⟩
    by_cases c0 : j = 0
    · subst c0
      rw [h0] at hj
      obtain rfl := Option.some.inj hj
      refine List.mem_iff_getElem?.mpr ⟨i, ?_⟩
      rw [List.getElem?_set, if_neg (fun z => c z), List.getElem?_set]
      simp [hi]
    · exact List.mem_iff_getElem?.mpr ⟨j, by rw [List.getElem?_set, if_neg (fun z => c0 z.symm), List.getElem?_set, if_neg (fun z => c z.symm)]; exact hj⟩
  refine g.alike (by rw [List.length_set, List.length_set]; exact g.len) ?_ (fun x hx => ⟨g.row x (sub x hx), x, sub x hx, rfl, rfl⟩) (fun x hx => ⟨x, sup x hx, rfl, rfl, rfl⟩)
  have inj : ∀ a b (ha : a < rs.length) (hb : b < rs.length), rs[a].mark = rs[b].mark → a = b := fun a b ha hb e => by
    have n := List.pairwise_iff_getElem.mp g.nd
    unfold mks at n
    rcases Nat.lt_trichotomy a b with c | c | c
    · exact absurd (by rw [List.getElem_map, List.getElem_map]; exact e) (n a b (by rw [List.length_map]; exact ha) (by rw [List.length_map]; exact hb) c)
    · exact c
    · exact absurd (by rw [List.getElem_map, List.getElem_map]; exact e.symm) (n b a (by rw [List.length_map]; exact hb) (by rw [List.length_map]; exact ha) c)
  refine List.pairwise_iff_getElem.mpr fun a b ha hb hab e => ?_
  unfold mks at ha hb e
  rw [List.length_map, List.length_set, List.length_set] at ha hb
  rw [List.getElem_map, List.getElem_map] at e
  simp only [List.getElem_set] at e
  subst ei ez
  have i0 := inj
  split at e <;> split at e <;> (try split at e) <;> (try split at e) <;> first | omega | (have := inj _ _ _ _ e; omega)
theorem GoodC.add {rs : List Row} (g : GoodC rs) {z : Str} (hl : rs.length < 6) (hz : isMk z = true) (nz : z ∉ mks rs) : GoodC (rs ++ [⟨z, [], 0, 0, false⟩]) := by
  have em : mks (rs ++ [⟨z, [], 0, 0, false⟩]) = mks rs ++ [z] := by unfold mks; rw [List.map_append]; rfl
  refine ⟨by rw [List.length_append]; simp; omega, ?_, fun r hr => ?_, fun r hr p hp => ?_, fun r hr => ?_⟩
  · rw [em, List.nodup_append]
    exact ⟨g.nd, by simp, fun a ha b hb e => nz (by rw [List.mem_singleton] at hb; rw [← hb, ← e]; exact ha)⟩
  · rcases List.mem_append.mp hr with hr | hr
    · exact g.row r hr
    · rw [List.mem_singleton.mp hr]; exact ⟨hz, rfl, rfl, List.nodup_nil⟩
  · rcases List.mem_append.mp hr with hr | hr
    · rw [em]; exact List.mem_append_left _ (g.pars r hr p hp)
    · rw [List.mem_singleton.mp hr] at hp; cases hp
  · rcases List.mem_append.mp hr with hr | hr
    · exact (g.fert r hr).mono fun q hq => ⟨q, List.mem_append_left _ hq, rfl, rfl, rfl⟩
    · rw [List.mem_singleton.mp hr]
      exact Fert.base (r := ⟨z, [], 0, 0, false⟩) (List.mem_append_right _ (List.mem_singleton.mpr rfl)) rfl
def renS (o z m : Str) : Str := if m = o then z else m
def renR (o z : Str) (r : Row) : Row := ⟨renS o z r.mark, r.pars.map (renS o z), r.least, r.most, r.sh⟩
theorem renS_inj {o z : Str} {l : List Str} (nz : z ∉ l) {a b : Str} (ha : a ∈ l) (hb : b ∈ l) (e : renS o z a = renS o z b) : a = b := by
  unfold renS at e
  by_cases c : a = o <;> by_cases d : b = o
  · rw [c, d]
  · rw [if_pos c, if_neg d] at e; rw [← e] at hb; exact absurd hb nz
  · rw [if_neg c, if_pos d] at e; rw [e] at ha; exact absurd ha nz
  · rw [if_neg c, if_neg d] at e; exact e
theorem nodup_ren {o z : Str} {l m : List Str} (nz : z ∉ m) (s : ∀ a ∈ l, a ∈ m) (h : l.Nodup) : (l.map (renS o z)).Nodup :=
  List.pairwise_map.mpr (List.Pairwise.imp_of_mem (fun {a b} ha hb ne e => ne (renS_inj nz (s a ha) (s b hb) e)) h)
theorem GoodC.ren {rs : List Row} (g : GoodC rs) {o z : Str} (hz : isMk z = true) (nz : z ∉ mks rs) : GoodC (rs.map (renR o z)) := by
  have em : mks (rs.map (renR o z)) = (mks rs).map (renS o z) := by unfold mks; rw [List.map_map, List.map_map]; rfl
  refine ⟨by rw [List.length_map]; exact g.len, by rw [em]; exact nodup_ren nz (fun _ h => h) g.nd, fun q hq => ?_, fun q hq p hp => ?_, fun q hq => ?_⟩
  · obtain ⟨r, hr, rfl⟩ := List.mem_map.mp hq
    obtain ⟨a, b, c, d⟩ := g.row r hr
    refine ⟨?_, b, ?_, nodup_ren nz (g.pars r hr) d⟩
    · show isMk (renS o z r.mark) = true
      unfold renS; split
      · exact hz
      · exact a
    · show (decide (0 < r.most) == decide (0 < (r.pars.map (renS o z)).length)) = true
      rw [List.length_map]; exact c
  · obtain ⟨r, hr, rfl⟩ := List.mem_map.mp hq
    obtain ⟨y, hy, rfl⟩ := List.mem_map.mp hp
    rw [em]
    exact List.mem_map.mpr ⟨y, g.pars r hr y hy, rfl⟩
  · obtain ⟨r, hr, rfl⟩ := List.mem_map.mp hq
    have k : ∀ {m}, Fert rs m → Fert (rs.map (renR o z)) (renS o z m) := fun f => by
      induction f with
      | @base r hr e => exact Fert.base (r := renR o z r) (List.mem_map.mpr ⟨r, hr, rfl⟩) e
      | @step r p hr hp _ ih => exact Fert.step (r := renR o z r) (List.mem_map.mpr ⟨r, hr, rfl⟩) (List.mem_map.mpr ⟨p, hp, rfl⟩) ih
    exact k (g.fert r hr)
/-- drawn rows with drawn marks -/
theorem good_named {n : Nat} {prs : List PRow} {ms : List Str} (ok : PlanOk n prs) (h6 : n ≤ 6) (hn : n ≤ ms.length) (nd : ms.Nodup) (hm : ∀ m ∈ ms, isMk m = true) : GoodC (prs.map (nameR ms)) := by
  have nmi : ∀ {i : Int}, 0 ≤ i → i < n → nm ms i ∈ ms := fun {i} h0 h1 => by
    unfold nm
    rw [List.getD_eq_getElem?_getD, List.getElem?_eq_getElem (by omega)]
    exact List.getElem_mem _
  have inj : ∀ {i j : Int}, 0 ≤ i → i < n → 0 ≤ j → j < n → nm ms i = nm ms j → i = j := fun {i j} a b c d e => by
    unfold nm at e
    rw [List.getD_eq_getElem?_getD, List.getD_eq_getElem?_getD, List.getElem?_eq_getElem (by omega), List.getElem?_eq_getElem (by omega)] at e
    have e : ms[i.toNat]'(by omega) = ms[j.toNat]'(by omega) := e
    have p := List.pairwise_iff_getElem.mp nd
    rcases Nat.lt_trichotomy i.toNat j.toNat with q | q | q
    · exact absurd e (p _ _ (by omega) (by omega) q)
    · omega
    · exact absurd e.symm (p _ _ (by omega) (by omega) q)
  have at_ : ∀ {k : Nat} {r : PRow}, prs[k]? = some r → k < n := fun h => by have := (List.getElem?_eq_some_iff.mp h).1; have := ok.1; omega
  have row : ∀ {j : Int}, 0 ≤ j → j < n → ∃ r, prs[j.toNat]? = some r ∧ (nameR ms r).mark = nm ms j := fun {j} a b => by
    have hj : j.toNat < prs.length := by rw [ok.1]; omega
    refine ⟨prs[j.toNat], List.getElem?_eq_getElem hj, ?_⟩
    have := (ok.2 _ _ (List.getElem?_eq_getElem hj)).idx
    show nm ms (prs[j.toNat]).idx = _
    rw [this, show ((j.toNat : Nat) : Int) = j by omega]
  refine ⟨by rw [List.length_map, ok.1]; exact h6, ?_, fun q hq => ?_, fun q hq p hp => ?_, fun q hq => ?_⟩
  · refine List.pairwise_iff_getElem.mpr fun a b ha hb hab e => ?_
    unfold mks at ha hb e
    rw [List.length_map, List.length_map] at ha hb
    simp only [List.getElem_map] at e
    have ia := (ok.2 a _ (List.getElem?_eq_getElem ha)).idx
    have ib := (ok.2 b _ (List.getElem?_eq_getElem hb)).idx
    have ka := at_ (List.getElem?_eq_getElem ha)
    have kb := at_ (List.getElem?_eq_getElem hb)
    have e : nm ms prs[a].idx = nm ms prs[b].idx := e
    have := inj (by omega) (by omega) (by omega) (by omega) e
    omega
  · obtain ⟨r, hr, rfl⟩ := List.mem_map.mp hq
    obtain ⟨k, hk⟩ := List.mem_iff_getElem?.mp hr
    have o := ok.2 k r hk
    have kn := at_ hk
    refine ⟨hm _ (nmi (by rw [o.idx]; omega) (by rw [o.idx]; omega)), ?_, ?_, ?_⟩
    · show (decide (0 ≤ r.least) && (decide (r.least ≤ r.most) && decide (r.most ≤ 4))) = true
      rw [decide_eq_true o.l0, decide_eq_true o.lm, decide_eq_true o.m4]; rfl
    · show (decide (0 < r.most) == decide (0 < (r.pars.map (nm ms)).length)) = true
      rw [List.length_map, beq_iff_eq]
      refine decide_eq_decide.mpr (o.pm.trans ?_)
      rw [List.length_pos_iff]
    · exact List.pairwise_map.mpr (List.Pairwise.imp_of_mem (fun {a b} ha hb ne e => ne (inj (o.pars.2 a ha).1 (o.pars.2 a ha).2 (o.pars.2 b hb).1 (o.pars.2 b hb).2 e)) o.pars.1)
  · obtain ⟨r, hr, rfl⟩ := List.mem_map.mp hq
    obtain ⟨k, hk⟩ := List.mem_iff_getElem?.mp hr
    obtain ⟨j, hj, rfl⟩ := List.mem_map.mp hp
    have o := (ok.2 k r hk).pars.2 j hj
    obtain ⟨r2, h2, e2⟩ := row o.1 o.2
    exact List.mem_map.mpr ⟨nameR ms r2, List.mem_map.mpr ⟨r2, List.mem_of_getElem? h2, rfl⟩, e2⟩
  · obtain ⟨r, hr, rfl⟩ := List.mem_map.mp hq
    obtain ⟨k, hk⟩ := List.mem_iff_getElem?.mp hr
    have all : ∀ (k : Nat) (r : PRow), prs[k]? = some r → Fert (prs.map (nameR ms)) (nameR ms r).mark := by
      intro k
      induction k using Nat.strongRecOn with
      | ind k ih =>
        intro r hk
        have o := ok.2 k r hk
        have mr : nameR ms r ∈ prs.map (nameR ms) := List.mem_map.mpr ⟨r, List.mem_of_getElem? hk, rfl⟩
        by_cases c : r.least = 0
        · exact Fert.base (r := nameR ms r) mr c
        · obtain ⟨j, hj, lt⟩ := o.low c
          have oj := o.pars.2 j hj
          obtain ⟨r2, h2, e2⟩ := row oj.1 oj.2
          have f := ih j.toNat (by omega) r2 h2
          rw [e2] at f
          exact Fert.step (r := nameR ms r) mr (List.mem_map.mpr ⟨j, hj, rfl⟩) f
    exact all k r hk
end My

namespace My
open PySem L2
theorem due_good {rs : List Row} (g : Good rs) {e : SErr} (h : Due rs e) : False := by
  cases h with
  | large h => have := g.len; omega
  | row _ hr _ hb => rw [g.fine _ _ hr] at hb; cases hb
  | par _ _ hr hp _ _ n => exact n (g.pars _ (List.mem_of_getElem? hr) _ (List.mem_of_getElem? hp))
  | lost _ _ _ hr _ n => exact n (g.fert _ (List.mem_of_getElem? hr))
end My

namespace My
open PySem L2
theorem dn_strs {K : PySem.W.Frag} {x : Addr} {H : Hp} {n : Nat} : ∀ l : List Str, Paired (Dn K x H n) (l.map V.str) (l.map .str)
  | [] => .nil
  | z :: l => .cons (Dn.str z) (dn_strs l)
theorem dn_strL {K : PySem.W.Frag} {x a : Addr} {H : Hp} {n : Nat} {l : List Str} (h : H a = some (.lst (l.map V.str))) (ne : a ≠ x) (hz : l.length ≤ 100000) : Dn K x H (n + 1) (.ref a) (.list (l.map .str)) := Dn.lst ne (SqL.of h) (dn_strs l) (by rw [List.length_map]; exact hz)
theorem dn_strT {K : PySem.W.Frag} {x a : Addr} {H : Hp} {n : Nat} {l : List Str} (h : H a = some (.tup (l.map V.str))) (ne : a ≠ x) (hz : l.length ≤ 100000) : Dn K x H (n + 1) (.ref a) (.tuple (l.map .str)) := Dn.tup ne (SqT.of h) (dn_strs l) (by rw [List.length_map]; exact hz)
theorem dn_row {K : PySem.W.Frag} {x : Addr} {H : Hp} {n : Nat} {r : Row} {p pp : Addr} (hp : H p = some (.tup (rowL r pp))) (hpp : H pp = some (.tup (r.pars.map V.str))) (n1 : p ≠ x) (n2 : pp ≠ x) (hz : r.pars.length ≤ 1000) : Dn K x H (n + 2) (.ref p) (rowD r) :=
  Dn.tup n1 (SqT.of hp) (.cons (Dn.str _) (.cons (dn_strT hpp n2 (by omega)) (.cons (Dn.int _) (.cons (Dn.int _) (.cons (Dn.bl _) .nil))))) (by simp [rowL])
theorem rowsN_leA {F : Addr → Prop} {b : Bool} {H H' : Hp} {vs : List V} {rs : List Row} {A : List Addr} (h : RowsN F b H vs rs) (l : Le A H H') (n : ∀ a, F a → a ∉ A) : RowsN F b H' vs rs := rowsN_le h fun a o f e => l a o (n a f) e
/-- the rows' own addresses are taken -/
theorem rowsN_al {F : Addr → Prop} {b : Bool} {H : Hp} {vs : List V} {rs : List Row} (h : RowsN F b H vs rs) : RowsN (fun a => F a ∧ ∃ o, H a = some o) b H vs rs := L2.Paired.mapP h fun _ _ ⟨p, pp, e, f, g, x, y⟩ => ⟨p, pp, e, ⟨f, _, x⟩, ⟨g, _, y⟩, x, y⟩
def rowDb (b : Bool) (r : Row) : PyData := if b then .list [.str r.mark, .list (r.pars.map .str), .int r.least, .int r.most, .bool r.sh] else rowD r
theorem dn_rowN {K : PySem.W.Frag} {F : Addr → Prop} {x : Addr} {b : Bool} {H : Hp} {n : Nat} {v : V} {r : Row} (h : RowN F b H v r) (nx : ∀ a, F a → a ≠ x) (hz : r.pars.length ≤ 1000) : Dn K x H (n + 2) v (rowDb b r) := by
  obtain ⟨p, pp, rfl, f, g, hp, hpp⟩ := h
  cases b with
  | true =>
    have hp : H p = some (.lst (rowL r pp)) := hp
    have hpp : H pp = some (.lst (r.pars.map V.str)) := hpp
    exact Dn.lst (nx p f) (SqL.of hp) (.cons (Dn.str _) (.cons (dn_strL hpp (nx pp g) (by omega)) (.cons (Dn.int _) (.cons (Dn.int _) (.cons (Dn.bl _) .nil))))) (by simp [rowL])
  | false => exact dn_row hp hpp (nx p f) (nx pp g) hz
theorem dn_rowsN {K : PySem.W.Frag} {F : Addr → Prop} {x a : Addr} {b : Bool} {H : Hp} {vs : List V} {rs : List Row} (h : RowsN F b H vs rs) (ha : H a = some (.lst vs)) (na : a ≠ x) (nx : ∀ a, F a → a ≠ x) (hz : ∀ r ∈ rs, r.pars.length ≤ 1000) (hl : rs.length ≤ 1000) : Dn K x H 3 (.ref a) (.list (rs.map (rowDb b))) := by
  refine Dn.lst na (SqL.of ha) ?_ (by rw [pair_len' h]; omega)
  revert hz
  clear ha hl
  induction h with
  | nil => intro _; exact .nil
  | cons r t ih => intro hz; exact .cons (dn_rowN r nx (hz _ (by simp))) (ih fun q hq => hz q (by simp [hq]))
theorem GoodC.bnd {rs : List Row} (g : GoodC rs) : ∀ r ∈ rs, r.mark.length ≤ 8 ∧ r.pars.length ≤ 6 := fun r hr => by
  obtain ⟨a, _, _, d⟩ := g.row r hr
  unfold isMk at a
  rw [Bool.and_eq_true, decide_eq_true_iff] at a
  have := List.Nodup.length_le_of_subset d (g.pars r hr)
  unfold mks at this
  rw [List.length_map] at this
  have := g.len
  exact ⟨by omega, by omega⟩
end My

namespace L2
open PySem
theorem sl_listK {X : Cx} {K : PySem.W.Frag} (h : X.K = K) : SlR X (rSlL K) := h ▸ sl_list
end L2

namespace My
open PySem L2
/-! ### the rows that _law_rows draws -/
theorem int_at {js : List Int} {i : Int} (h0 : 0 ≤ i) (h1 : i < (js.length : Int)) : ∃ z, atI (js.map V.int) i = some (.int z) ∧ z ∈ js := by
  obtain ⟨v, hv, mv⟩ := at_ok (xs := js.map V.int) h0 (by rw [List.length_map]; exact h1)
  obtain ⟨z, hz, rfl⟩ := List.mem_map.mp mv
  exact ⟨z, hv, hz⟩
def spLRows (K : PySem.W.Frag) : Sp := fun vs H Q _ => ∃ (d t : Addr) (ex : Bool), vs = [.ref d, .ref t, .bl ex] ∧ Dr K H d t ∧
  ∀ (ms : List Str) (prs : List PRow) ws p H', PlanOk ms.length prs → (∀ r ∈ prs, r.most ≤ 3) → 1 ≤ ms.length → ms.length ≤ 3 → ms.Nodup → (∀ m ∈ ms, isMk m = true) → Dr K H' d t → But t H H' → H p = none → H' p = some (.lst ws) → RowsN (New H) true H' ws (prs.map (nameR ms)) → Q (.ref p) H'
theorem nm_take {ms : List Str} (nd : ms.Nodup) {j : Int} {k : Nat} (h0 : 0 ≤ j) (h1 : j < ms.length) (h : nm ms j ∈ ms.take k) : j < (k : Int) := by
  obtain ⟨n, rfl⟩ := Int.eq_ofNat_of_zero_le h0
  have hn : n < ms.length := by omega
  obtain ⟨i, hi, e⟩ := List.getElem_of_mem h
  rw [List.length_take] at hi
  rw [List.getElem_take] at e
  have e2 : nm ms (n : Int) = ms[n] := by unfold nm; rw [List.getD_eq_getElem?_getD, Int.toNat_natCast, List.getElem?_eq_getElem hn]; rfl
  rw [e2] at e
  have := (List.getElem_inj nd).mp e
  omega
theorem nm_mem {ms : List Str} {j : Int} (h0 : 0 ≤ j) (h1 : j < ms.length) : nm ms j ∈ ms := by
  obtain ⟨n, rfl⟩ := Int.eq_ofNat_of_zero_le h0
  have hn : n < ms.length := by omega
  unfold nm; rw [List.getD_eq_getElem?_getD, Int.toNat_natCast, List.getElem?_eq_getElem hn]; exact List.getElem_mem hn
section
variable {P : Program} {w : World} {K : PySem.W.Frag} {mg : Str → Option Value} {base : Heap}
set_option maxHeartbeats 16000000 in
theorem ok__law_rows (T : Txt K mg) : FnOk P w K mg base CX0 4 T.a__law_rows T.fd__law_rows ["_law_draws_here", "_law_at", "_law_exclusive"] (spLRows K) := by
  refine T.F__law_rows.ok sc__law_rows (fun vs H Q E h => ?_) (fun cdv A outer s H vs Q E hr h => ?_)
  · obtain ⟨d, t, ex, rfl, _⟩ := h; rfl
  · obtain ⟨d, t, ex, rfl, D0, q⟩ := h
    refine ⟨_, (pss_cons (ps_set (i := 3) sc__law_rows.nd rfl (.inr rfl) (pe_call (ok__law_marks T) (hr.mono (by omega)) (by rfl) T.g__law_marks T.F__law_marks.kp T.b__law_marks .nil pass0 (pa_cons (pv 0) (pa_cons (pv 1) (pa_cons (pe_ix ix_list (pe_lst (pa_cons (pe_int) (pa_cons (pe_int) (pa_cons (pe_int) pa_nil)))) (pe_call (ok__law_take T) (hr.mono (by omega)) (by rfl) T.g__law_take T.F__law_take.kp T.b__law_take .nil pass0 (pa_cons (pv 0) (pa_cons (pv 1) (pa_cons (pe_int) pa_nil)))) (fun _ _ => rfl)) pa_nil)))))
      (pss_cons (ps_set (i := 4) sc__law_rows.nd rfl (.inl rfl) (pe_lst pa_nil))
      (pss_cons (ps_for PassesOwn.never rfl (pi_range1 (by rfl) T.n_range (pa_cons (pe_callB call_len_seq (by rfl) T.n_len (by decide +kernel) (pa_cons (pv 3) pa_nil)) pa_nil)) (pg_name (i := 5) sc__law_rows.nd rfl (.inr rfl)) (pss_cons (ps_set (i := 6) sc__law_rows.nd rfl (.inr rfl) (pe_ix ix_list (pe_lst (pa_cons (pe_int) (pa_cons (pe_int) (pa_cons (pe_int) (pa_cons (pe_int) (pa_cons (pe_int) (pa_cons (pe_int) (pa_cons (pe_int) (pa_cons (pe_int) (pa_cons (pe_int) pa_nil)))))))))) (pe_call (ok__law_take T) (hr.mono (by omega)) (by rfl) T.g__law_take T.F__law_take.kp T.b__law_take .nil pass0 (pa_cons (pv 0) (pa_cons (pv 1) (pa_cons (pe_int) pa_nil)))) (fun _ _ => rfl)))
      (pss_cons (ps_setLc (i := 7) (own := [("_law_j", 8)]) (g := (gName 8)) (by rfl) sc__law_rows.nd rfl rfl (sw_true rfl rfl rfl (by decide +kernel)) (pi_range1 (by rfl) T.n_range (pa_cons (pe_callB call_len_seq (by rfl) T.n_len (by decide +kernel) (pa_cons (pv 3) pa_nil)) pa_nil)) (blkOk_by (own := [("_law_j", 8)]) (N := ["_law_draws_here", "_law_at", "_law_exclusive", "_law_marks_here", "_law_rows_here", "_law_k", "_law_mask", "_law_parents", "_law_j", "_law_most", "_law_least", "_law_mark", "_law_shared"]) (sc := defScope S__law_rows) (by decide +kernel)) (fun _ _ _ _ _ => (pg_name (i := 8) sc__law_rows.nd rfl (by first | exact .inl rfl | exact .inr rfl))) (fun _ _ _ _ _ => (pts_one (pt_cmpR op_eq (pe_op op_mod (pe_op op_fdiv (pv 6) (pe_ix (ixLK (K := K) rfl) (pe_lst (pa_cons (pe_int) (pa_cons (pe_int) (pa_cons (pe_int) pa_nil)))) (pv 8) (fun _ _ => rfl))) (pe_int)) (pe_int) (nomark _)))) (fun _ _ _ _ _ => (pe_ix (ixLK (K := K) rfl) (pv 3) (pv 8) (fun _ _ => rfl))))
      (pss_cons (ps_set (i := 9) sc__law_rows.nd rfl (.inl rfl) (pe_int))
      (pss_cons (ps_set (i := 10) sc__law_rows.nd rfl (.inl rfl) (pe_int))
      (C8.pss_cut (ps_if (pt_cmpR op_gt (pe_callB call_len_seq (by rfl) T.n_len (by decide +kernel) (pa_cons (pv 7) pa_nil)) (pe_int) (nomark _)) (pss_one (ps_set (i := 9) sc__law_rows.nd rfl (.inl rfl) (pe_ix ix_list (pe_lst (pa_cons (pe_int) (pa_cons (pe_int) (pa_cons (pe_int) (pa_cons (pe_int) pa_nil))))) (pe_call (ok__law_take T) (hr.mono (by omega)) (by rfl) T.g__law_take T.F__law_take.kp T.b__law_take .nil pass0 (pa_cons (pv 0) (pa_cons (pv 1) (pa_cons (pe_int) pa_nil)))) (fun _ _ => rfl)))) pss_nil)
      (C8.pss_cut (ps_if (pt_cmpR op_gt (pe_callB call_len_seq (by rfl) T.n_len (by decide +kernel) (pa_cons (pe_lc (own := [("_law_mark", 11)]) (g := (gName 11)) (by rfl) sc__law_rows.nd (pi_list (pv 7)) (blkOk_by (own := [("_law_mark", 11)]) (N := ["_law_draws_here", "_law_at", "_law_exclusive", "_law_marks_here", "_law_rows_here", "_law_k", "_law_mask", "_law_parents", "_law_j", "_law_most", "_law_least", "_law_mark", "_law_shared"]) (sc := defScope S__law_rows) (by decide +kernel)) (fun _ _ _ _ _ => (pg_name (i := 11) sc__law_rows.nd rfl (by first | exact .inl rfl | exact .inr rfl))) (fun _ _ _ _ _ => (pts_one (pt_cmpR (inK (K := K) rfl) (pv 11) (pe_slice (sl_listK (K := K) rfl) (pv 3) po_none (po_some (pv 5))) (by with_unfolding_all rfl)))) (fun _ _ _ _ _ => (pv 11))) pa_nil)) (pe_int) (nomark _)) (pss_one (ps_set (i := 10) sc__law_rows.nd rfl (.inl rfl) (pe_ix ix_list (pe_lst (pa_cons (pe_int) (pa_cons (pe_int) (pa_cons (pe_int) (pa_cons (pe_int) pa_nil))))) (pe_call (ok__law_take T) (hr.mono (by omega)) (by rfl) T.g__law_take T.F__law_take.kp T.b__law_take .nil pass0 (pa_cons (pv 0) (pa_cons (pv 1) (pa_cons (pe_int) pa_nil)))) (fun _ _ => rfl)))) pss_nil)
      (C8.pss_cut (ps_if (pt_cmpR op_gt (pv 10) (pv 9) (nomark _)) (pss_one (ps_set (i := 10) sc__law_rows.nd rfl (.inl rfl) (pv 9))) pss_nil)
      (C8.pss_cut (ps_set (i := 12) sc__law_rows.nd rfl (.inl rfl) (pe_and (pe_cmpR op_eq (pe_call (ok__law_take T) (hr.mono (by omega)) (by rfl) T.g__law_take T.F__law_take.kp T.b__law_take .nil pass0 (pa_cons (pv 0) (pa_cons (pv 1) (pa_cons (pe_int) pa_nil)))) (pe_int) (nomark _)) (pe_one (pe_not (pv 2)))))
      (pss_one (ps_expr (pe_bm PySem.F.plainAttrs_list PySem.F.slot_list_append PySem.F.type_list_append mt_append (pv 4) (pa_cons (pe_lst (pa_cons (pe_ix ix_list (pv 3) (pv 5) (fun _ _ => rfl)) (pa_cons (pv 7) (pa_cons (pv 10) (pa_cons (pv 9) (pa_cons (pv 12) pa_nil)))))) pa_nil)))))))))))))
      (pss_one (ps_ret (pv 4)))))), ?_⟩
    have big : 100000 < sizeLine := by decide
    refine ⟨_, rfl, _, rfl, by show 3 ≤ sizeLine; decide, fun u0 nu0 => ?_⟩
    have s0 := same_new (o := .lst [.int 2, .int 1, .int 3]) nu0
    refine ⟨_, rfl, _, rfl, d, t, 3, rfl, D0.same s0, by decide, fun r Ha r0 r1 Da ba => ?_⟩
    obtain ⟨z, hz, mz⟩ := int_at (js := [2, 1, 3]) r0 r1
    obtain ⟨n, rfl, n1, n3⟩ : ∃ n : Nat, z = n ∧ 1 ≤ n ∧ n ≤ 3 := by
      simp only [List.mem_cons, List.not_mem_nil, or_false] at mz
      exact ⟨z.toNat, by omega, by omega, by omega⟩
    refine ⟨_, _, _, _, rfl, rfl, SqL.of (ba _ _ (D0.na nu0) upd_same), hz, ?_⟩
    refine ⟨d, t, n, rfl, Da, by omega, fun ms mk Hb lms nms oms Db bb nmk hmk => ?_⟩
    have tb : But t H Hb := ((But.of_same s0).trans ba).trans bb
    have nmt : mk ≠ t := Da.na nmk
    refine ⟨Nat.zero_le _, fun l hl0 => ?_⟩
    have nlt : l ≠ t := Db.na hl0
    have ndl : d ≠ l := Db.nd hl0
    have nml : mk ≠ l := ne_of_none hmk hl0
    have nl0 : H l = none := tb.free nlt hl0
    have s1 := same_new (o := .lst []) hl0
    refine ⟨_, rfl, mk, _, rfl, .inl (SqL.of (s1 _ _ hmk)), ms.length, by rw [List.length_map], by omega, by omega, for_range (lo := 0) (n := ms.length) (fun k σ H' => ∃ (prs : List PRow) (us : List V) (x5 x6 x7 x9 x10 x12 : Option V), σ = [some (.ref d), some (.ref t), some (.bl ex), some (.ref mk), some (.ref l), x5, x6, x7, none, x9, x10, none, x12] ∧ Dr K H' d t ∧ But t H H' ∧ H' mk = some (.lst (ms.map V.str)) ∧ H' l = some (.lst us) ∧ RowsN (fun a => H a = none ∧ a ≠ l) true H' us (prs.map (nameR ms)) ∧ prs.length = k ∧ ∀ j r, prs[j]? = some r → PrOk ms.length j r ∧ r.most ≤ 3)
      ⟨[], [], _, _, _, _, _, _, rfl, Db.same s1, tb.trans (But.of_same s1), s1 _ _ hmk, upd_same, .nil, rfl, fun j r h => by simp at h⟩ ?_ ?_⟩
    rotate_left
    · rintro σ H2 ⟨prs, us, x5, x6, x7, x9, x10, x12, rfl, D2, b2, hmk2, hl2, pv, lk, ok⟩
      exact ⟨_, rfl, q ms prs us l H2 ⟨lk, fun j r h => (ok j r h).1⟩ (fun r hr => (by obtain ⟨j, hj⟩ := List.mem_iff_getElem?.mp hr; exact (ok j r hj).2)) (by omega) (by omega) nms oms D2 b2 nl0 hl2 (rowsN_sub pv fun a f => f.1)⟩
    rintro k σ H2 hk ⟨prs, us, x5, x6, x7, x9, x10, x12, rfl, D2, b2, hmk2, hl2, pv, lk, ok⟩
    rw [Int.zero_add]
    have up : ∀ {H3 : Hp}, But t H2 H3 → But t H H3 ∧ H3 mk = some (.lst (ms.map V.str)) ∧ H3 l = some (.lst us) ∧ RowsN (fun a => H a = none ∧ a ≠ l) true H3 us (prs.map (nameR ms)) := fun b3 => ⟨b2.trans b3, b3 _ _ nmt hmk2, b3 _ _ nlt hl2, rowsN_le pv fun a o f e => b3 _ _ (D0.na f.1) e⟩
    -- the mask
    refine ⟨by show 9 ≤ sizeLine; decide, fun u1 nu1 => ?_⟩
    have s2 := same_new (o := .lst [.int 7, .int 1, .int 2, .int 3, .int 5, .int 6, .int 7, .int 4, .int 0]) nu1
    refine ⟨_, rfl, _, rfl, d, t, 9, rfl, D2.same s2, by decide, fun r H3 r0 r1 D3 b3 => ?_⟩
    obtain ⟨mask, hmask, _⟩ := int_at (js := [7, 1, 2, 3, 5, 6, 7, 4, 0]) r0 r1
    refine ⟨_, _, _, _, rfl, rfl, SqL.of (b3 _ _ (D2.na nu1) upd_same), hmask, ?_⟩
    have b3 := (But.of_same (a := t) s2).trans b3
    obtain ⟨_, hmk3, _, _⟩ := up b3
    -- the parents
    refine ⟨_, rfl, mk, _, rfl, .inl (SqL.of hmk3), _, rfl, by omega, by rw [List.length_map]; omega, fun D hD => ?_⟩
    rw [List.length_map]
    refine lc_range (lo := 0) (n := ms.length) (fun i H' => ∃ js : List Int, Same H3 H' ∧ H' D = some (.lst ((js.map (nm ms)).map V.str)) ∧ listOk i js) ⟨[], same_new hD, upd_same, List.nodup_nil, fun j h => by cases h⟩ ?_ ?_
    · rintro i H4 hi ⟨js, s4, h4, lo⟩
      rw [Int.zero_add]
      obtain ⟨z, hz, z0, z4⟩ : ∃ z : Int, atI [V.int 1, .int 2, .int 4] ((i : Nat) : Int) = some (.int z) ∧ 0 < z ∧ z ≤ 4 := by
        match i, (show i < 3 by omega) with
        | 0, _ => exact ⟨1, rfl, by decide, by decide⟩
        | 1, _ => exact ⟨2, rfl, by decide, by decide⟩
        | 2, _ => exact ⟨4, rfl, by decide, by decide⟩
      refine ⟨rfl, _, rfl, by show 3 ≤ sizeLine; decide, fun u nu => ?_⟩
      have s5 := s4.trans (same_new (o := .lst [.int 1, .int 2, .int 4]) nu)
      have h5 := same_new (o := .lst [.int 1, .int 2, .int 4]) nu _ _ h4
      have hu : (upd H4 u (.lst [.int 1, .int 2, .int 4])) u = some (.lst [.int 1, .int 2, .int 4]) := upd_same
      revert s5 h5 hu
      generalize upd H4 u (.lst [.int 1, .int 2, .int 4]) = H5
      intro s5 h5 hu
      refine ⟨_, rfl, _, _, _, _, rfl, rfl, SqL.of hu, hz, _, _, rfl, rfl, ⟨z0, by omega⟩, _, _, rfl, rfl, (show (0 : Int) < 2 by decide), rfl, _, rfl, iteD (fun c => ?_) (fun c => ?_)⟩
      · have nd : js.length ≤ i := lst_len lo
        refine ⟨_, rfl, _, rfl, _, _, _, _, rfl, rfl, SqL.of (s5 _ _ hmk3), nm_at (by omega) (by omega), _, h5, by rw [List.length_map, List.length_map]; omega, js ++ [(i : Int)], same_mut s5 hD, by rw [upd_same, List.map_append, List.map_append]; rfl, ?_, ?_⟩
        · rw [List.nodup_append]
          exact ⟨lo.1, by simp, fun a ha b hb e => by rw [List.mem_singleton] at hb; have := lo.2 a ha; omega⟩
        · intro j hj
          rcases List.mem_append.mp hj with hj | hj
          · have := lo.2 j hj; omega
          · rw [List.mem_singleton.mp hj]; omega
      · exact ⟨js, s5, h5, lo.1, fun j hj => by have := lo.2 j hj; omega⟩
    rintro H4 ⟨js, s4, hD4, lo⟩
    have D4 := D3.same s4
    have b4 : But t H2 H4 := b3.trans (But.of_same s4)
    have nDt : D ≠ t := D3.na hD
    obtain ⟨_, _, hl3, _⟩ := up b3
    have nDl : D ≠ l := (ne_of_none hl3 hD).symm
    have nD0 : H D = none := (b2.trans b3).free nDt hD
    have lj := lst_len lo
    have ljs : ((js.map (nm ms)).map V.str).length = js.length := by rw [List.length_map, List.length_map]
    -- most
    refine ⟨fun σ' H' => ∃ (m : Int), σ' = [some (.ref d), some (.ref t), some (.bl ex), some (.ref mk), some (.ref l), some (.int k), some (.int mask), some (.ref D), none, some (.int m), some (.int 0), none, x12] ∧ Dr K H' d t ∧ But t H2 H' ∧ H' D = some (.lst ((js.map (nm ms)).map V.str)) ∧ 0 ≤ m ∧ m ≤ 3 ∧ (0 < m ↔ js ≠ []), ?_, ?_⟩
    · refine ⟨_, rfl, D, _, rfl, .inl (SqL.of hD4), _, _, rfl, rfl, _, rfl, iteD (fun c => ?_) (fun c => ?_)⟩
      · rw [ljs] at c
        refine ⟨by show 4 ≤ sizeLine; decide, fun u nu => ?_⟩
        have s5 := same_new (o := .lst [.int 1, .int 2, .int 3, .int 1]) nu
        refine ⟨_, rfl, _, rfl, d, t, 4, rfl, D4.same s5, by decide, fun r H5 r0 r1 D5 b5 => ?_⟩
        obtain ⟨m, hm, mm⟩ := int_at (js := [1, 2, 3, 1]) r0 r1
        simp only [List.mem_cons, List.not_mem_nil, or_false] at mm
        refine ⟨_, _, _, _, rfl, rfl, SqL.of (b5 _ _ (D4.na nu) upd_same), hm, ?_⟩
        refine ⟨m, rfl, D5, (b4.trans (But.of_same s5)).trans b5, b5 _ _ nDt (s5 _ _ hD4), by omega, by omega, fun _ z => ?_, fun _ => by omega⟩
        rw [z] at c; simp at c
      · rw [ljs] at c
        have e : js = [] := by
          cases js with
          | nil => rfl
          | cons a r => exact absurd (by simp) c
        exact ⟨0, rfl, D4, b4, hD4, Int.le_refl _, by decide, fun z => absurd z (by decide), fun z => absurd e z⟩
    rintro σ' H5 ⟨m, rfl, D5, b5, hD5, m0, m4, mj⟩
    obtain ⟨_, hmk5, _, _⟩ := up b5
    -- least
    refine ⟨fun σ' H' => ∃ (m2 : Int), σ' = [some (.ref d), some (.ref t), some (.bl ex), some (.ref mk), some (.ref l), some (.int k), some (.int mask), some (.ref D), none, some (.int m), some (.int m2), none, x12] ∧ Dr K H' d t ∧ But t H2 H' ∧ H' D = some (.lst ((js.map (nm ms)).map V.str)) ∧ 0 ≤ m2 ∧ (m2 ≠ 0 → ∃ j ∈ js, j < (k : Int)), ?_, ?_⟩
    · refine ⟨_, rfl, D, rfl, ⟨_, SqL.of hD5⟩, fun D' hD' => lc_list (K := K) (a := D) (xs := (js.map (nm ms)).map V.str) (fun i H' => ∃ fs, Same H5 H' ∧ H' D' = some (.lst fs) ∧ fs.length ≤ i ∧ (fs ≠ [] → ∃ j ∈ js, j < (k : Int))) ⟨[], same_new hD', upd_same, Nat.le_refl _, fun h => absurd rfl h⟩ (fun i H' _ ⟨_, s, _⟩ => SqL.of (s _ _ hD5)) ?_ ?_⟩
      · rintro i v H6 hv ⟨fs, s6, h6, lf, pf⟩
        rw [List.getElem?_map, List.getElem?_map] at hv
        obtain ⟨j, hj⟩ : ∃ j, js[i]? = some j := by
          cases e : js[i]? with
          | none => rw [e] at hv; cases hv
          | some j => exact ⟨j, rfl⟩
        rw [hj] at hv
        obtain rfl := Option.some.inj hv
        have mjs := List.mem_of_getElem? hj
        have oj := lo.2 j mjs
        have hi := (List.getElem?_eq_some_iff.mp hj).1
        refine ⟨rfl, _, rfl, _, rfl, _, rfl, _, rfl, mk, _, rfl, SqL.of (s6 _ _ hmk5), fun c hc => ?_⟩
        have ct : cutV (ms.map V.str) none (some ((k : Nat) : Int)) = (ms.take k).map V.str := by rw [cut_to, List.map_take]
        have s7 := s6.trans (same_new (o := .lst (cutV (ms.map V.str) none (some ((k : Nat) : Int)))) hc)
        refine ⟨_, _, rfl, .inl (SqL.of upd_same), rfl, by rw [ct]; exact flat_strs _, ?_⟩
        rw [show (if false = true then !inV (V.str (nm ms j)) (cutV (ms.map V.str) none (some ((k : Nat) : Int))) else inV (V.str (nm ms j)) (cutV (ms.map V.str) none (some ((k : Nat) : Int)))) = decide (nm ms j ∈ ms.take k) by rw [if_neg Bool.false_ne_true, ct, in_strs]]
        refine ⟨_, rfl, iteD (fun m => ?_) (fun m => ?_)⟩
        · exact ⟨_, rfl, _, (same_new hc _ _ h6), by omega, fs ++ [.str (nm ms j)], same_mut s7 hD', upd_same, by rw [List.length_append]; simp; omega, fun _ => ⟨j, mjs, nm_take nms oj.1 oj.2 m⟩⟩
        · exact ⟨fs, s7, same_new hc _ _ h6, by omega, pf⟩
      · rintro H6 ⟨fs, s6, h6, lf, pf⟩
        refine ⟨D', _, rfl, .inl (SqL.of h6), _, _, rfl, rfl, _, rfl, iteD (fun c => ?_) (fun c => ?_)⟩
        · have ex2 := pf fun z => by rw [z] at c; simp at c
          have D6 := D5.same s6
          refine ⟨by show 4 ≤ sizeLine; decide, fun u hu => ?_⟩
          have s7 := same_new (o := .lst [.int 0, .int 0, .int 1, .int 2]) hu
          refine ⟨_, rfl, _, rfl, d, t, 4, rfl, D6.same s7, by decide, fun r H8 r0 r1 D8 b8 => ?_⟩
          obtain ⟨m2, hm2, mm2⟩ := int_at (js := [0, 0, 1, 2]) r0 r1
          simp only [List.mem_cons, List.not_mem_nil, or_false] at mm2
          refine ⟨_, _, _, _, rfl, rfl, SqL.of (b8 _ _ (D6.na hu) upd_same), hm2, ?_⟩
          exact ⟨m2, rfl, D8, ((b5.trans (But.of_same s6)).trans (But.of_same s7)).trans b8, b8 _ _ nDt (s7 _ _ (s6 _ _ hD5)), by omega, fun _ => ex2⟩
        · exact ⟨0, rfl, D5.same s6, b5.trans (But.of_same s6), s6 _ _ hD5, Int.le_refl _, fun z => absurd rfl z⟩
    rintro σ' H6 ⟨m2, rfl, D6, b6, hD6, z0, zl⟩
    refine ⟨fun σ' H' => ∃ (m3 : Int), H' = H6 ∧ σ' = [some (.ref d), some (.ref t), some (.bl ex), some (.ref mk), some (.ref l), some (.int k), some (.int mask), some (.ref D), none, some (.int m), some (.int m3), none, x12] ∧ 0 ≤ m3 ∧ m3 ≤ m ∧ (m3 ≠ 0 → ∃ j ∈ js, j < (k : Int)), ?_, ?_⟩
    · refine ⟨_, rfl, _, rfl, _, _, rfl, rfl, _, rfl, iteD (fun c => ?_) (fun c => ?_)⟩
      · exact ⟨_, rfl, m, rfl, rfl, m0, Int.le_refl _, fun _ => zl (by omega)⟩
      · exact ⟨m2, rfl, rfl, z0, by omega, zl⟩
    rintro σ' H7 ⟨m3, rfl, rfl, z0, z1, zl⟩
    refine ⟨fun σ' H' => ∃ (sh : Bool), σ' = [some (.ref d), some (.ref t), some (.bl ex), some (.ref mk), some (.ref l), some (.int k), some (.int mask), some (.ref D), none, some (.int m), some (.int m3), none, some (.bl sh)] ∧ Dr K H' d t ∧ But t H2 H' ∧ H' D = some (.lst ((js.map (nm ms)).map V.str)), ?_, ?_⟩
    · refine ⟨_, rfl, _, rfl, d, t, 3, rfl, D6, by decide, fun r H8 _ _ D8 b8 => ⟨rfl, _, rfl, ?_⟩⟩
      have e8 := b8 _ _ nDt hD6
      exact iteD (fun _ => ⟨_, rfl, _, rfl, _, rfl, D8, b6.trans b8, e8⟩) (fun _ => ⟨_, rfl, D8, b6.trans b8, e8⟩)
    rintro σ' H8 ⟨sh, rfl, D8, b8, hD8⟩
    obtain ⟨b8', hmk8, hl8, pv8⟩ := up b8
    refine ⟨_, rfl, .inl ⟨rfl, _, SqL.of hl8⟩, _, rfl, _, rfl, _, _, _, _, rfl, rfl, SqL.of hmk8, nm_at (by omega) (by omega), _, rfl, _, rfl, _, rfl, _, rfl, by show 5 ≤ sizeLine; decide, fun u hu => ?_⟩
    have s9 := same_new (o := .lst [.str (nm ms (k : Nat)), .ref D, .int m3, .int m, .bl sh]) hu
    have nul : l ≠ u := ne_of_none hl8 hu
    have nut := D8.na hu
    have nu0' : H u = none := b8'.free nut hu
    have lus : us.length = k := by rw [pair_len' pv, List.length_map, lk]
    refine ⟨_, _, _, rfl, rfl, s9 _ _ hl8, by omega, ?_⟩
    refine ⟨prs ++ [⟨k, js, m3, m, sh⟩], us ++ [.ref u], _, _, _, _, _, _, rfl, (D8.same s9).other But.upd ndl nlt.symm, (b8'.trans (But.of_same s9)).mut nl0, by rw [upd_ne nml]; exact s9 _ _ hmk8, upd_same, ?_, by rw [List.length_append, lk]; rfl, ?_⟩
    · rw [List.map_append]
      refine pair_app' (rowsN_le pv8 fun a o f e => by rw [upd_ne f.2]; exact s9 _ _ e) (.cons ⟨u, D, rfl, ⟨nu0', nul.symm⟩, ⟨nD0, nDl⟩, ?_, ?_⟩ .nil)
      · rw [upd_ne nul.symm]; exact upd_same
      · rw [upd_ne nDl]; exact s9 _ _ hD8
    · intro j r h
      rw [List.getElem?_append] at h
      split at h
      · exact ok j r h
      · rename_i c
        rw [lk] at h c
        obtain rfl : j = k := by
          have := (List.getElem?_eq_some_iff.mp h).1
          simp at this; omega
        simp at h
        subst h
        exact ⟨⟨rfl, lo, z0, z1, by show m ≤ 4; omega, mj, zl⟩, m4⟩
end
end My

namespace My
open PySem L2
/-! ### the levels -/
def lev : List Str := ["none", "one", "most", "all"]
def levV : List V := [.str "none", .str "one", .str "most", .str "all"]
theorem levV_eq : levV = lev.map V.str := rfl
theorem lev_nd : lev.Nodup := by decide +kernel
theorem lev_inj {i j : Nat} {z : Str} (h : lev[i]? = some z) (h' : lev[j]? = some z) : i = j := nd_ix lev_nd h h'
theorem lev_lt {i : Nat} {z : Str} (h : lev[i]? = some z) : i < 4 := (List.getElem?_eq_some_iff.mp h).1
/-- what level i asks of n parents -/
def need (i : Nat) (n : Int) : Int := if i = 0 then 0 else if i = 1 then 1 else if i = 2 then n / 2 + 1 else if n > 1 then n else 1
/-- the place of a word, or -1 -/
def placeOf (z : Str) : Int := if z = "none" then 0 else if z = "one" then 1 else if z = "most" then 2 else if z = "all" then 3 else -1
theorem place_lev {i : Nat} {z : Str} (h : lev[i]? = some z) : placeOf z = i := by
  have hi := lev_lt h
  rcases (by omega : i = 0 ∨ i = 1 ∨ i = 2 ∨ i = 3) with rfl | rfl | rfl | rfl
  all_goals (obtain rfl : _ = z := Option.some.inj h; decide +kernel)
theorem lev_at {i : Nat} (h : i < 4) : ∃ z, lev[i]? = some z := ⟨lev[i]'h, List.getElem?_eq_getElem h⟩
def permB (a b c : Nat) (e : Bool) (h o s n : Int) (l : Bool) : Bool := !(e && l) && (decide (need a n ≤ h) && (decide (need b n ≤ o) && decide (need c n ≤ s)))
end My

namespace My
open PySem L2
/-- rank of a level -/
def spRank : Sp := fun vs H Q _ => ∃ (z : Str) (i : Nat), vs = [.str z] ∧ lev[i]? = some z ∧ ∀ H', Same H H' → Q (.int i) H'
section
variable {P : Program} {w : World} {K : PySem.W.Frag} {mg : Str → Option Value} {base : Heap}
theorem ok_rank (T : Txt K mg) : FnOk P w K mg base CX0 1 T.a_rank T.fd_rank ["level"] spRank := by
  refine T.F_rank.ok sc_rank (fun vs H Q E h => ?_) (fun cdv A outer s H vs Q E hr h => ?_)
  · obtain ⟨z, i, rfl, _⟩ := h; rfl
  · obtain ⟨z, i, rfl, hi, q⟩ := h
    refine ⟨_, (pss_cons (ps_for PassesOwn.never rfl (pi_enumT (by rfl) T.n_enumerate (pa_cons (pe_glob (v := .ref T.k_LEVELS) (by rfl) T.g_LEVELS rfl) pa_nil)) (pg_tup rfl (pgs_cons (pg_name (i := 1) sc_rank.nd rfl (.inl rfl)) (pgs_cons (pg_name (i := 2) sc_rank.nd rfl (.inl rfl)) pgs_nil))) (pss_one (ps_if (pt_cmpR op_eq (pv 2) (pv 0) (nomark _)) (pss_one (ps_ret (pv 1))) pss_nil)))
      (pss_one (ps_never))), ?_⟩
    refine ⟨T.k_LEVELS, levV, rfl, T.q_LEVELS _, for_enumT (K := K) (a := T.k_LEVELS) (xs := levV) (fun j σ H' => ∃ x1 x2, σ = [some (.str z), x1, x2] ∧ Same H H' ∧ ∀ l, l < j → l ≠ i) ⟨_, _, rfl, Same.refl H, fun l h => absurd h (Nat.not_lt_zero _)⟩ (fun _ _ H' _ _ => T.q_LEVELS H') ?_ ?_⟩
    · rintro j x σ H1 t hx ⟨x1, x2, rfl, s1, ne⟩ ht
      rw [levV_eq, List.getElem?_map] at hx
      cases e : lev[j]? with
      | none => rw [e] at hx; cases hx
      | some y =>
        rw [e] at hx
        obtain rfl : V.str y = x := Option.some.inj hx
        have s2 : Same H1 (upd H1 t (.tup [.int j, .str y])) := same_new ht
        refine ⟨t, _, rfl, .inl (.inl upd_same), rfl, _, _, rfl, _, _, rfl, rfl, ?_⟩
        refine ⟨_, rfl, _, rfl, rfl, _, rfl, ?_⟩
        refine iteD (fun c => ?_) (fun c => ?_)
        · have ey : y = z := V.str.inj c
          subst ey
          obtain rfl := lev_inj e hi
          exact ⟨_, rfl, q _ (s1.trans s2)⟩
        · refine ⟨_, _, rfl, s1.trans s2, fun l hl => ?_⟩
          rcases Nat.lt_succ_iff_lt_or_eq.mp hl with h | h
          · exact ne l h
          · subst h
            exact fun h => c (by rw [← h, e] at hi; rw [Option.some.inj hi])
    · rintro σ H1 ⟨x1, x2, rfl, s1, ne⟩
      exact ne i (lev_lt hi) rfl
end
end My

namespace My
open PySem L2
def spNeeded : Sp := fun vs H Q _ => ∃ (z : Str) (i : Nat) (n : Int), vs = [.str z, .int n] ∧ lev[i]? = some z ∧ ∀ H', Same H H' → Q (.int (need i n)) H'
section
variable {P : Program} {w : World} {K : PySem.W.Frag} {mg : Str → Option Value} {base : Heap}
theorem ok_needed (T : Txt K mg) : FnOk P w K mg base CX0 2 T.a_needed T.fd_needed ["level", "parents"] spNeeded := by
  refine T.F_needed.ok sc_needed (fun vs H Q E h => ?_) (fun cdv A outer s H vs Q E hr h => ?_)
  · obtain ⟨z, i, n, rfl, _⟩ := h; rfl
  · obtain ⟨z, i, n, rfl, hi, q⟩ := h
    refine ⟨_, (pss_cons (ps_set (i := 2) sc_needed.nd rfl (.inl rfl) (pe_call (ok_rank T) (hr.mono (by omega)) (by rfl) T.g_rank T.F_rank.kp T.b_rank .nil pass0 (pa_cons (pv 0) pa_nil)))
      (pss_cons (ps_if (pt_cmpR op_eq (pv 2) (pe_int) (nomark _)) (pss_one (ps_ret (pe_int))) pss_nil)
      (pss_cons (ps_if (pt_cmpR op_eq (pv 2) (pe_int) (nomark _)) (pss_one (ps_ret (pe_int))) pss_nil)
      (pss_cons (ps_if (pt_cmpR op_eq (pv 2) (pe_int) (nomark _)) (pss_one (ps_ret (pe_op op_add (pe_op op_fdiv (pv 1) (pe_int)) (pe_int)))) pss_nil)
      (pss_one (ps_ret (pe_callB (call_max2 rfl) (by rfl) T.n_max (by decide +kernel) (pa_cons (pe_int) (pa_cons (pv 1) pa_nil))))))))), ?_⟩
    refine ⟨_, rfl, z, i, rfl, hi, fun H1 s1 => ?_⟩
    have q1 := q H1 s1
    unfold need at q1
    walk_at "rd"
    refine iteD (fun c => ?_) (fun c => ?_)
    · rw [if_pos (by have := V.int.inj c; omega)] at q1; exact q1
    rw [if_neg (by intro h; exact c (by rw [h]; rfl))] at q1
    walk_at "rd"
    refine iteD (fun c => ?_) (fun c => ?_)
    · rw [if_pos (by have := V.int.inj c; omega)] at q1; exact q1
    rw [if_neg (by intro h; exact c (by rw [h]; rfl))] at q1
    walk_at "rd"
    refine iteD (fun c => ?_) (fun c => ?_)
    · rw [if_pos (by have := V.int.inj c; omega)] at q1
      walk_at "rd"
      exact q1
    rw [if_neg (by intro h; exact c (by rw [h]; rfl))] at q1
    exact ⟨_, rfl, _, _, rfl, q1⟩
end
end My

namespace My
open PySem L2
/-! ### ways -/
def levn (i : Nat) : Str := lev.getD i ""
theorem levn_get {i : Nat} (h : i < 4) : lev[i]? = some (levn i) := by
  unfold levn
  rw [List.getD_eq_getElem?_getD, List.getElem?_eq_getElem (by exact h)]
  rfl
theorem levV_at {i : Nat} (h : i < 4) : levV[i]? = some (.str (levn i)) := by rw [levV_eq, List.getElem?_map, levn_get h]; rfl
theorem levn_inj {i j : Nat} (hi : i < 4) (hj : j < 4) (h : levn i = levn j) : i = j := lev_inj (levn_get hi) (h ▸ levn_get hj)
def wayF (a b c : Nat) (e : Bool) : List (Str × V) := [("held", .str (levn a)), ("owned", .str (levn b)), ("seen", .str (levn c)), ("early", .bl e)]
theorem putF_len (f : Str) (v : V) : ∀ fs : List (Str × V), (putF f v fs).length ≤ fs.length + 1
  | [] => Nat.le_refl _
  | (g, x) :: r => by
    simp only [putF]
    split
    · exact Nat.le_succ _
    · rw [List.length_cons, List.length_cons]
      exact Nat.succ_le_succ (putF_len f v r)
theorem wayF_put (a b c : Nat) (e : Bool) : putF "early" (.bl e) (putF "seen" (.str (levn c)) (putF "owned" (.str (levn b)) (putF "held" (.str (levn a)) []))) = wayF a b c e := by
  simp only [putF]
  rw [if_neg (by decide +kernel : ¬ ("held" : Str) = "owned")]
  simp only [putF]
  rw [if_neg (by decide +kernel : ¬ ("held" : Str) = "seen"), if_neg (by decide +kernel : ¬ ("owned" : Str) = "seen")]
  simp only [putF]
  rw [if_neg (by decide +kernel : ¬ ("held" : Str) = "early"), if_neg (by decide +kernel : ¬ ("owned" : Str) = "early"), if_neg (by decide +kernel : ¬ ("seen" : Str) = "early")]
  rfl
theorem wayF_held (a b c : Nat) (e : Bool) : (wayF a b c e).lookup ("held" : Str) = some (.str (levn a)) := by rw [← wayF_put, lookup_putF, if_neg (by decide +kernel), lookup_putF, if_neg (by decide +kernel), lookup_putF, if_neg (by decide +kernel), lookup_putF, if_pos rfl]
theorem wayF_owned (a b c : Nat) (e : Bool) : (wayF a b c e).lookup ("owned" : Str) = some (.str (levn b)) := by rw [← wayF_put, lookup_putF, if_neg (by decide +kernel), lookup_putF, if_neg (by decide +kernel), lookup_putF, if_pos rfl]
theorem wayF_seen (a b c : Nat) (e : Bool) : (wayF a b c e).lookup ("seen" : Str) = some (.str (levn c)) := by rw [← wayF_put, lookup_putF, if_neg (by decide +kernel), lookup_putF, if_pos rfl]
theorem wayF_early (a b c : Nat) (e : Bool) : (wayF a b c e).lookup ("early" : Str) = some (.bl e) := by rw [← wayF_put, lookup_putF, if_pos rfl]
theorem wayF_no (a b c : Nat) (e : Bool) {m : Str} (h1 : ¬ m = "early") (h2 : ¬ m = "seen") (h3 : ¬ m = "owned") (h4 : ¬ m = "held") : (wayF a b c e).lookup m = none := by
  rw [← wayF_put, lookup_putF, if_neg h1, lookup_putF, if_neg h2, lookup_putF, if_neg h3, lookup_putF, if_neg h4]; rfl
/-- a way of the class at C stands at x -/
def Wy (C : Addr) (H : Hp) (x : Addr) (a b c : Nat) (e : Bool) : Prop := ∃ dx, H x = some (.ins C dx (wayF a b c e))
theorem Wy.same {C : Addr} {H H' : Hp} {x : Addr} {a b c : Nat} {e : Bool} (h : Wy C H x a b c e) (s : Same H H') : Wy C H' x a b c e := h.elim fun dx h => ⟨dx, s _ _ h⟩
theorem Wy.but {C : Addr} {H H' : Hp} {x y : Addr} {a b c : Nat} {e : Bool} (h : Wy C H x a b c e) (s : But y H H') (n : x ≠ y) : Wy C H' x a b c e := h.elim fun dx h => ⟨dx, s _ _ n h⟩
def spWayInit (C : Addr) : Sp := fun vs H Q _ => ∃ (x dx : Addr) (a b c : Nat) (e : Bool), vs = [.ref x, .str (levn a), .str (levn b), .str (levn c), .bl e] ∧ a < 4 ∧ b < 4 ∧ c < 4 ∧ H x = some (.ins C dx []) ∧
  ∀ H', But x H H' → H' x = some (.ins C dx (wayF (max a b) b (max c (max a b)) e)) → Q .non H'
section
variable {P : Program} {w : World} {K : PySem.W.Frag} {mg : Str → Option Value} {base : Heap}
theorem ok_Way_init (T : Txt K mg) : FnOk P w K mg base CX0 2 T.a_Way_init T.fd_Way_init ["self", "held", "owned", "seen", "early"] (spWayInit T.c_Way) := by
  refine T.F_Way_init.ok0 sc_Way_init (fun vs H Q E h => ?_) (fun cdv A outer s H vs Q E hr h => ?_)
  · obtain ⟨x, dx, a, b, c, e, rfl, _⟩ := h; rfl
  · obtain ⟨x, dx, a, b, c, e, rfl, ha, hb, hc, hx, q⟩ := h
    refine ⟨_, (pss_cons (ps_set (i := 5) sc_Way_init.nd rfl (.inl rfl) (pe_call (ok_rank T) (hr.mono (by omega)) (by rfl) T.g_rank T.F_rank.kp T.b_rank .nil pass0 (pa_cons (pv 1) pa_nil)))
      (pss_cons (ps_set (i := 6) sc_Way_init.nd rfl (.inl rfl) (pe_call (ok_rank T) (hr.mono (by omega)) (by rfl) T.g_rank T.F_rank.kp T.b_rank .nil pass0 (pa_cons (pv 2) pa_nil)))
      (pss_cons (ps_set (i := 7) sc_Way_init.nd rfl (.inl rfl) (pe_call (ok_rank T) (hr.mono (by omega)) (by rfl) T.g_rank T.F_rank.kp T.b_rank .nil pass0 (pa_cons (pv 3) pa_nil)))
      (C8.pss_cut (ps_if (pt_cmpR op_lt (pv 5) (pv 6) (nomark _)) (pss_one (ps_set (i := 5) sc_Way_init.nd rfl (.inl rfl) (pv 6))) pss_nil)
      (C8.pss_cut (ps_if (pt_cmpR op_lt (pv 7) (pv 5) (nomark _)) (pss_one (ps_set (i := 7) sc_Way_init.nd rfl (.inl rfl) (pv 5))) pss_nil)
      (pss_cons (ps_fld (pv 0) (pe_ix ix_tup (pe_glob (v := .ref T.k_LEVELS) (by rfl) T.g_LEVELS rfl) (pv 5) (fun _ _ => rfl)) rfl)
      (pss_cons (ps_fld (pv 0) (pe_ix ix_tup (pe_glob (v := .ref T.k_LEVELS) (by rfl) T.g_LEVELS rfl) (pv 6) (fun _ _ => rfl)) rfl)
      (pss_cons (ps_fld (pv 0) (pe_ix ix_tup (pe_glob (v := .ref T.k_LEVELS) (by rfl) T.g_LEVELS rfl) (pv 7) (fun _ _ => rfl)) rfl)
      (pss_one (ps_fld (pv 0) (pv 4) rfl)))))))))), ?_⟩
    refine ⟨_, rfl, _, a, rfl, levn_get ha, fun H1 s1 => ?_⟩
    refine ⟨_, rfl, _, b, rfl, levn_get hb, fun H2 s2 => ?_⟩
    refine ⟨_, rfl, _, c, rfl, levn_get hc, fun H3 s3 => ?_⟩
    have sx : Same H H3 := (s1.trans s2).trans s3
    have hx3 := sx _ _ hx
    -- by_held
    refine ⟨fun σ' H' => H' = H3 ∧ σ' = [some (.ref x), some (.str (levn a)), some (.str (levn b)), some (.str (levn c)), some (.bl e), some (.int (max a b : Nat)), some (.int b), some (.int c)], ?_, ?_⟩
    · walk_at "rd"
      refine iteD (fun k => ?_) (fun k => ?_)
      · exact ⟨_, rfl, rfl, by rw [Nat.max_eq_right (by omega)]; try rfl⟩
      · exact ⟨rfl, by rw [Nat.max_eq_left (by omega)]; try rfl⟩
    rintro σ' H' ⟨rfl, rfl⟩
    refine ⟨fun σ' H'' => H'' = H' ∧ σ' = [some (.ref x), some (.str (levn a)), some (.str (levn b)), some (.str (levn c)), some (.bl e), some (.int (max a b : Nat)), some (.int b), some (.int (max c (max a b) : Nat))], ?_, ?_⟩
    · walk_at "rd"
      refine iteD (fun k => ?_) (fun k => ?_)
      · exact ⟨_, rfl, rfl, by rw [Nat.max_eq_right (by omega : c ≤ max a b)]; try rfl⟩
      · exact ⟨rfl, by rw [Nat.max_eq_left (by omega : max a b ≤ c)]; try rfl⟩
    rintro σ' H'' ⟨rfl, rfl⟩
    refine ⟨_, rfl, _, _, _, _, rfl, rfl, T.q_LEVELS _, at_of (j := max a b) rfl (levV_at (by omega)), _, rfl, x, T.c_Way, dx, _, rfl, hx3, T.cl_Way, T.no_Way_held, by show 0 < 1000; decide, ?_⟩
    refine ⟨_, rfl, _, _, _, _, rfl, rfl, T.q_LEVELS _, at_of (j := b) rfl (levV_at hb), _, rfl, x, T.c_Way, dx, _, rfl, upd_same, T.cl_Way, T.no_Way_owned, by show 1 < 1000; decide, ?_⟩
    refine ⟨_, rfl, _, _, _, _, rfl, rfl, T.q_LEVELS _, at_of (j := max c (max a b)) rfl (levV_at (by omega)), _, rfl, x, T.c_Way, dx, _, rfl, upd_same, T.cl_Way, T.no_Way_seen, ?_, ?_⟩
    · exact Nat.lt_of_le_of_lt (putF_len _ _ _) (by show 2 < 1000; decide)
    refine ⟨_, rfl, _, rfl, x, T.c_Way, dx, _, rfl, upd_same, T.cl_Way, T.no_Way_early, ?_, ?_⟩
    · exact Nat.lt_of_le_of_lt (putF_len _ _ _) (Nat.lt_of_le_of_lt (Nat.succ_le_succ (putF_len _ _ _)) (by show 3 < 1000; decide))
    rw [upd_upd, upd_upd, upd_upd, wayF_put]
    exact q _ (fun y o n h => by rw [upd_ne n]; exact sx _ _ h) upd_same
end
end My

namespace My
open PySem L2
def spNeeds (C : Addr) : Sp := fun vs H Q _ => ∃ (x : Addr) (a b c : Nat) (e : Bool) (n : Int), vs = [.ref x, .int n] ∧ a < 4 ∧ b < 4 ∧ c < 4 ∧ Wy C H x a b c e ∧
  ∀ (p : Addr) H', Same H H' → H p = none → H' p = some (.tup [.int (need a n), .int (need b n), .int (need c n)]) → Q (.ref p) H'
section
variable {P : Program} {w : World} {K : PySem.W.Frag} {mg : Str → Option Value} {base : Heap}
theorem ok_Way_needs (T : Txt K mg) : FnOk P w K mg base CX0 3 T.a_Way_needs T.fd_Way_needs ["self", "parents"] (spNeeds T.c_Way) := by
  refine T.F_Way_needs.ok sc_Way_needs (fun vs H Q E h => ?_) (fun cdv A outer s H vs Q E hr h => ?_)
  · obtain ⟨x, a, b, c, e, n, rfl, _⟩ := h; rfl
  · obtain ⟨x, a, b, c, e, n, rfl, ha, hb, hc, ⟨dx, hx⟩, q⟩ := h
    refine ⟨_, (pss_one (ps_ret (pe_tup (pa_cons (pe_call (ok_needed T) (hr.mono (by omega)) (by rfl) T.g_needed T.F_needed.kp T.b_needed .nil pass0 (pa_cons (pe_fld (pv 0) rfl) (pa_cons (pv 1) pa_nil))) (pa_cons (pe_call (ok_needed T) (hr.mono (by omega)) (by rfl) T.g_needed T.F_needed.kp T.b_needed .nil pass0 (pa_cons (pe_fld (pv 0) rfl) (pa_cons (pv 1) pa_nil))) (pa_cons (pe_call (ok_needed T) (hr.mono (by omega)) (by rfl) T.g_needed T.F_needed.kp T.b_needed .nil pass0 (pa_cons (pe_fld (pv 0) rfl) (pa_cons (pv 1) pa_nil))) pa_nil)))))), ?_⟩
    refine ⟨_, rfl, x, T.c_Way, dx, _, _, rfl, hx, T.cl_Way, T.no_Way_held, wayF_held _ _ _ _, _, rfl, _, a, n, rfl, levn_get ha, fun H1 s1 => ?_⟩
    refine ⟨_, rfl, x, T.c_Way, dx, _, _, rfl, s1 _ _ hx, T.cl_Way, T.no_Way_owned, wayF_owned _ _ _ _, _, rfl, _, b, n, rfl, levn_get hb, fun H2 s2 => ?_⟩
    refine ⟨_, rfl, x, T.c_Way, dx, _, _, rfl, s2 _ _ (s1 _ _ hx), T.cl_Way, T.no_Way_seen, wayF_seen _ _ _ _, _, rfl, _, c, n, rfl, levn_get hc, fun H3 s3 => ?_⟩
    refine ⟨by show 3 ≤ sizeLine; decide, fun p hp => ?_⟩
    have s4 := (s1.trans s2).trans s3
    exact q p _ (s4.trans (same_new hp)) (s4.free hp) upd_same
end
end My

namespace My
open PySem L2
/-! ### the law's own ways: ranks and a flag in a list -/
abbrev LwO (a b c : Nat) (e : Bool) : HO := .lst [.int a, .int b, .int c, .bl e]
def Adj (a b c : Nat) : Prop := b ≤ a ∧ a ≤ c ∧ c < 4
def spLWay (K : PySem.W.Frag) : Sp := fun vs H Q _ => ∃ (d t : Addr), vs = [.ref d, .ref t] ∧ Dr K H d t ∧ ∀ (p : Addr) (a b c : Nat) (e : Bool) H', Adj a b c → Dr K H' d t → But t H H' → H p = none → H' p = some (LwO a b c e) → Q (.ref p) H'
def spMade (K : PySem.W.Frag) (C : Addr) : Sp := fun vs H Q _ => ∃ (p : Addr) (a b c : Nat) (e : Bool), vs = [.ref p] ∧ Adj a b c ∧ SqL K H p [.int a, .int b, .int c, .bl e] ∧ ∀ x H', Same H H' → H x = none → Wy C H' x a b c e → Q (.ref x) H'
def spAdj (K : PySem.W.Frag) : Sp := fun vs H Q _ => ∃ (p : Addr) (a b c : Nat) (e : Bool), vs = [.ref p] ∧ a < 4 ∧ b < 4 ∧ c < 4 ∧ SqL K H p [.int a, .int b, .int c, .bl e] ∧ ∀ r, H r = none → Q (.ref r) (upd H r (LwO (max a b) b (max c (max a b)) e))
def spFields (C : Addr) : Sp := fun vs H Q _ => ∃ (x : Addr) (a b c : Nat) (e : Bool), vs = [.ref x] ∧ Wy C H x a b c e ∧ ∀ r, H r = none → Q (.ref r) (upd H r (.lst [.str (levn a), .str (levn b), .str (levn c), .bl e]))
def spWords (K : PySem.W.Frag) : Sp := fun vs H Q _ => ∃ (p : Addr) (a b c : Nat) (e : Bool), vs = [.ref p] ∧ a < 4 ∧ b < 4 ∧ c < 4 ∧ SqL K H p [.int a, .int b, .int c, .bl e] ∧ ∀ r H', Same H H' → H r = none → H' r = some (.lst [.str (levn a), .str (levn b), .str (levn c), .bl e]) → Q (.ref r) H'
def spSecond (K : PySem.W.Frag) : Sp := fun vs H Q _ => ∃ (d t f : Addr) (a b c : Nat) (e : Bool), vs = [.ref d, .ref t, .ref f] ∧ Dr K H d t ∧ Adj a b c ∧ f ≠ t ∧ H f = some (LwO a b c e) ∧ ∀ (p : Addr) (a b c : Nat) (e : Bool) H', Adj a b c → Dr K H' d t → But t H H' → H p = none → H' p = some (LwO a b c e) → Q (.ref p) H'
section
variable {P : Program} {w : World} {K : PySem.W.Frag} {mg : Str → Option Value} {base : Heap}
theorem ok__law_way (T : Txt K mg) : FnOk P w K mg base CX0 2 T.a__law_way T.fd__law_way ["_law_draws_here", "_law_at"] (spLWay K) := by
  refine T.F__law_way.ok sc__law_way (fun vs H Q E h => ?_) (fun cdv A outer s H vs Q E hr h => ?_)
  · obtain ⟨d, t, rfl, _⟩ := h; rfl
  · obtain ⟨d, t, rfl, D, q⟩ := h
    refine ⟨_, (pss_cons (ps_set (i := 2) sc__law_way.nd rfl (.inl rfl) (pe_lst (pa_cons (pe_lst (pa_cons (pe_int) (pa_cons (pe_int) (pa_cons (pe_int) (pa_cons (pe_bl) pa_nil))))) (pa_cons (pe_lst (pa_cons (pe_int) (pa_cons (pe_int) (pa_cons (pe_int) (pa_cons (pe_bl) pa_nil))))) (pa_cons (pe_lst (pa_cons (pe_int) (pa_cons (pe_int) (pa_cons (pe_int) (pa_cons (pe_bl) pa_nil))))) (pa_cons (pe_lst (pa_cons (pe_int) (pa_cons (pe_int) (pa_cons (pe_int) (pa_cons (pe_bl) pa_nil))))) (pa_cons (pe_lst (pa_cons (pe_int) (pa_cons (pe_int) (pa_cons (pe_int) (pa_cons (pe_bl) pa_nil))))) pa_nil)))))))
      (pss_cons (ps_set (i := 3) sc__law_way.nd rfl (.inl rfl) (pe_call (ok__law_take T) (hr.mono (by omega)) (by rfl) T.g__law_take T.F__law_take.kp T.b__law_take .nil pass0 (pa_cons (pv 0) (pa_cons (pv 1) (pa_cons (pe_int) pa_nil)))))
      (pss_cons (ps_if (pt_cmpR op_lt (pv 3) (pe_int) (nomark _)) (pss_one (ps_ret (pe_ix ix_list (pv 2) (pv 3) (fun _ _ => rfl)))) pss_nil)
      (pss_cons (ps_set (i := 4) sc__law_way.nd rfl (.inl rfl) (pe_call (ok__law_take T) (hr.mono (by omega)) (by rfl) T.g__law_take T.F__law_take.kp T.b__law_take .nil pass0 (pa_cons (pv 0) (pa_cons (pv 1) (pa_cons (pe_int) pa_nil)))))
      (pss_cons (ps_set (i := 5) sc__law_way.nd rfl (.inl rfl) (pe_op op_add (pv 4) (pe_call (ok__law_take T) (hr.mono (by omega)) (by rfl) T.g__law_take T.F__law_take.kp T.b__law_take .nil pass0 (pa_cons (pv 0) (pa_cons (pv 1) (pa_cons (pe_op op_sub (pe_int) (pv 4)) pa_nil))))))
      (pss_cons (ps_set (i := 6) sc__law_way.nd rfl (.inl rfl) (pe_op op_add (pv 5) (pe_call (ok__law_take T) (hr.mono (by omega)) (by rfl) T.g__law_take T.F__law_take.kp T.b__law_take .nil pass0 (pa_cons (pv 0) (pa_cons (pv 1) (pa_cons (pe_op op_sub (pe_int) (pv 5)) pa_nil))))))
      (pss_one (ps_ret (pe_lst (pa_cons (pv 5) (pa_cons (pv 4) (pa_cons (pv 6) (pa_cons (pe_cmpR op_eq (pe_call (ok__law_take T) (hr.mono (by omega)) (by rfl) T.g__law_take T.F__law_take.kp T.b__law_take .nil pass0 (pa_cons (pv 0) (pa_cons (pv 1) (pa_cons (pe_int) pa_nil)))) (pe_int) (nomark _)) pa_nil))))))))))))), ?_⟩
    refine ⟨by show 4 ≤ sizeLine; decide, fun p1 n1 => ⟨by show 4 ≤ sizeLine; decide, fun p2 n2 => ⟨by show 4 ≤ sizeLine; decide, fun p3 n3 => ⟨by show 4 ≤ sizeLine; decide, fun p4 n4 => ⟨by show 4 ≤ sizeLine; decide, fun p5 n5 => ⟨by show 5 ≤ sizeLine; decide, fun pm nm => ?_⟩⟩⟩⟩⟩⟩
    have s1 := same_new (o := LwO 1 1 1 false) n1
    have s2 := same_new (o := LwO 2 2 2 false) n2
    have s3 := same_new (o := LwO 1 1 3 false) n3
    have s4 := same_new (o := LwO 0 0 0 true) n4
    have s5 := same_new (o := LwO 1 0 1 false) n5
    have s6 := same_new (o := .lst [.ref p1, .ref p2, .ref p3, .ref p4, .ref p5]) nm
    have g1 := s6 _ _ (s5 _ _ (s4 _ _ (s3 _ _ (s2 _ _ (upd_same (H := H) (a := p1) (o := LwO 1 1 1 false))))))
    have g2 := s6 _ _ (s5 _ _ (s4 _ _ (s3 _ _ (upd_same (H := upd H p1 (LwO 1 1 1 false)) (a := p2) (o := LwO 2 2 2 false)))))
    have g3 := s6 _ _ (s5 _ _ (s4 _ _ (upd_same (H := upd (upd H p1 (LwO 1 1 1 false)) p2 (LwO 2 2 2 false)) (a := p3) (o := LwO 1 1 3 false))))
    have g4 := s6 _ _ (s5 _ _ (upd_same (H := upd (upd (upd H p1 (LwO 1 1 1 false)) p2 (LwO 2 2 2 false)) p3 (LwO 1 1 3 false)) (a := p4) (o := LwO 0 0 0 true)))
    have g5 := s6 _ _ (upd_same (H := upd (upd (upd (upd H p1 (LwO 1 1 1 false)) p2 (LwO 2 2 2 false)) p3 (LwO 1 1 3 false)) p4 (LwO 0 0 0 true)) (a := p5) (o := LwO 1 0 1 false))
    have gm := upd_same (H := upd (upd (upd (upd (upd H p1 (LwO 1 1 1 false)) p2 (LwO 2 2 2 false)) p3 (LwO 1 1 3 false)) p4 (LwO 0 0 0 true)) p5 (LwO 1 0 1 false)) (a := pm) (o := .lst [.ref p1, .ref p2, .ref p3, .ref p4, .ref p5])
    have sA : Same H _ := ((((s1.trans s2).trans s3).trans s4).trans s5).trans s6
    have f2 := s1.free n2
    have f3 := (s1.trans s2).free n3
    have f4 := ((s1.trans s2).trans s3).free n4
    have f5 := (((s1.trans s2).trans s3).trans s4).free n5
    have D1 := D.same sA
    have nmt : pm ≠ t := D.na ((((((s1.trans s2).trans s3).trans s4).trans s5)).free nm)
    revert g1 g2 g3 g4 g5 gm sA D1
    generalize upd (upd (upd (upd (upd (upd H p1 (LwO 1 1 1 false)) p2 (LwO 2 2 2 false)) p3 (LwO 1 1 3 false)) p4 (LwO 0 0 0 true)) p5 (LwO 1 0 1 false)) pm (.lst [.ref p1, .ref p2, .ref p3, .ref p4, .ref p5]) = H1
    intro g1 g2 g3 g4 g5 gm sA D1
    refine ⟨_, rfl, _, rfl, d, t, 9, rfl, D1, by decide, fun r H2 h0 h1 D2 b2 => ?_⟩
    have bA : But t H H2 := (But.of_same sA).trans b2
    refine ⟨_, rfl, _, _, rfl, rfl, _, rfl, iteD (fun k => ?_) (fun k => ?_)⟩
    · obtain ⟨v, hv, mv⟩ := at_ok (xs := [V.ref p1, .ref p2, .ref p3, .ref p4, .ref p5]) h0 (by simpa using k)
      refine ⟨_, rfl, _, rfl, _, _, _, _, rfl, rfl, SqL.of (b2 _ _ nmt gm), hv, ?_⟩
      simp only [List.mem_cons, List.not_mem_nil, or_false] at mv
      rcases mv with rfl | rfl | rfl | rfl | rfl
      · exact q p1 1 1 1 false H2 ⟨by decide, by decide, by decide⟩ D2 bA n1 (b2 _ _ (D.na n1) g1)
      · exact q p2 2 2 2 false H2 ⟨by decide, by decide, by decide⟩ D2 bA f2 (b2 _ _ (D.na f2) g2)
      · exact q p3 1 1 3 false H2 ⟨by decide, by decide, by decide⟩ D2 bA f3 (b2 _ _ (D.na f3) g3)
      · exact q p4 0 0 0 true H2 ⟨by decide, by decide, by decide⟩ D2 bA f4 (b2 _ _ (D.na f4) g4)
      · exact q p5 1 0 1 false H2 ⟨by decide, by decide, by decide⟩ D2 bA f5 (b2 _ _ (D.na f5) g5)
    · refine ⟨_, rfl, _, rfl, d, t, 4, rfl, D2, by decide, fun r1 H3 h10 h11 D3 b3 => ?_⟩
      obtain ⟨i1, rfl⟩ := Int.eq_ofNat_of_zero_le h10
      refine ⟨_, rfl, _, rfl, _, rfl, _, rfl, _, _, rfl, rfl, d, t, _, rfl, D3, by omega, fun r2 H4 h20 h21 D4 b4 => ⟨_, _, rfl, rfl, ?_⟩⟩
      obtain ⟨i2, rfl⟩ := Int.eq_ofNat_of_zero_le h20
      refine ⟨_, rfl, _, rfl, _, rfl, _, rfl, _, _, rfl, rfl, d, t, _, rfl, D4, by omega, fun r3 H5 h30 h31 D5 b5 => ⟨_, _, rfl, rfl, ?_⟩⟩
      obtain ⟨i3, rfl⟩ := Int.eq_ofNat_of_zero_le h30
      refine ⟨_, rfl, _, rfl, _, rfl, _, rfl, _, rfl, d, t, 2, rfl, D5, by decide, fun r4 H6 _ _ D6 b6 => ⟨rfl, by show 4 ≤ sizeLine; decide, fun p hp => ?_⟩⟩
      have bB := (((bA.trans b3).trans b4).trans b5).trans b6
      have e1 : ((i1 : Int) + (i2 : Int)) = ((i1 + i2 : Nat) : Int) := by omega
      have e2 : ((i1 : Int) + (i2 : Int) + (i3 : Int)) = ((i1 + i2 + i3 : Nat) : Int) := by omega
      refine q p (i1 + i2) i1 (i1 + i2 + i3) (decide (V.int r4 = V.int 1)) _ ⟨by omega, by omega, by omega⟩ (D6.same (same_new hp)) (bB.trans (But.new hp)) (bB.free (D6.na hp) hp) ?_
      rw [upd_same]
      show some (HO.lst [.int ((i1 : Int) + (i2 : Int)), .int (i1 : Int), .int ((i1 : Int) + (i2 : Int) + (i3 : Int)), _]) = _
      rw [e2, e1]
theorem ok__law_way_made (T : Txt K mg) : FnOk P w K mg base CX0 4 T.a__law_way_made T.fd__law_way_made ["_law_way_here"] (spMade K T.c_Way) := by
  refine T.F__law_way_made.ok sc__law_way_made (fun vs H Q E h => ?_) (fun cdv A outer s H vs Q E hr h => ?_)
  · obtain ⟨p, a, b, c, e, rfl, _⟩ := h; rfl
  · obtain ⟨p, a, b, c, e, rfl, ⟨ab, ac, c4⟩, hp, q⟩ := h
    refine ⟨_, (pss_cons (ps_set (i := 1) sc__law_way_made.nd rfl (.inl rfl) (pe_lst (pa_cons (pe_str) (pa_cons (pe_str) (pa_cons (pe_str) (pa_cons (pe_str) pa_nil))))))
      (pss_one (ps_ret (pe_makeN T.mk_Way (ok_Way_init T) (hr.mono (by omega)) (by rfl) T.g_Way T.kb_Way_init_4_early pass0 (pa_cons (pe_ix ix_list (pv 1) (pe_ix ix_list (pv 0) (pe_int) (fun _ _ => rfl)) (fun _ _ => rfl)) (pa_cons (pe_ix ix_list (pv 1) (pe_ix ix_list (pv 0) (pe_int) (fun _ _ => rfl)) (fun _ _ => rfl)) (pa_cons (pe_ix ix_list (pv 1) (pe_ix ix_list (pv 0) (pe_int) (fun _ _ => rfl)) (fun _ _ => rfl)) pa_nil))) (pk_cons (pe_ix ix_list (pv 0) (pe_int) (fun _ _ => rfl)) pk_nil))))), ?_⟩
    refine ⟨by show 4 ≤ sizeLine; decide, fun pw hw => ?_⟩
    have s1 := same_new (o := .lst levV) hw
    have W1 : (upd H pw (.lst levV)) pw = some (.lst levV) := upd_same
    have hp1 := s1.seq hp
    refine ⟨_, rfl, _, rfl, _, _, _, _, rfl, rfl, hp1, at_of (j := 0) rfl rfl, _, _, _, _, rfl, rfl, SqL.of W1, at_of (j := a) rfl (levV_at (by omega)), ?_⟩
    refine ⟨_, rfl, _, rfl, _, _, _, _, rfl, rfl, hp1, at_of (j := 1) rfl rfl, _, _, _, _, rfl, rfl, SqL.of W1, at_of (j := b) rfl (levV_at (by omega)), ?_⟩
    refine ⟨_, rfl, _, rfl, _, _, _, _, rfl, rfl, hp1, at_of (j := 2) rfl rfl, _, _, _, _, rfl, rfl, SqL.of W1, at_of (j := c) rfl (levV_at (by omega)), ?_⟩
    refine ⟨_, rfl, _, _, _, _, rfl, rfl, hp1, at_of (j := 3) rfl rfl, rfl, rfl, fun x dx nx ndx ne => ⟨x, dx, a, b, c, e, rfl, by omega, by omega, by omega, upd_same, fun H8 b8 hx8 => ⟨rfl, ?_⟩⟩⟩
    rw [Nat.max_eq_left ab, Nat.max_eq_left ac] at hx8
    exact q x H8 (s1.trans (same_make nx ndx b8)) (s1.free nx) ⟨dx, hx8⟩
end
end My

namespace My
open PySem L2
/-! ### policies: their rules, where they stand -/
abbrev Wv := Nat × Nat × Nat × Bool
abbrev Rl := Str × Bool × List Wv
abbrev Lr := Str × Bool × Addr
def WyV (Cw : Addr) (H : Hp) (v : V) (k : Wv) : Prop := ∃ x, v = .ref x ∧ Wy Cw H x k.1 k.2.1 k.2.2.1 k.2.2.2
def WysT (Cw : Addr) (H : Hp) (p : Addr) (ks : List Wv) : Prop := ∃ vs, H p = some (.tup vs) ∧ Paired (WyV Cw H) vs ks
/-- tuples and ways stay -/
def Kw (Cw : Addr) (H H' : Hp) : Prop := ∀ a o, H a = some o → ((∃ xs, o = .tup xs) ∨ ∃ dx x1 x2 x3 e, o = .ins Cw dx (wayF x1 x2 x3 e)) → H' a = some o
theorem Kw.same {Cw : Addr} {H H' : Hp} (s : Same H H') : Kw Cw H H' := fun a o h _ => s a o h
theorem Kw.trans {Cw : Addr} {H H1 H2 : Hp} (x : Kw Cw H H1) (y : Kw Cw H1 H2) : Kw Cw H H2 := fun a o h t => y a o (x a o h t) t
theorem Kw.upd {Cw : Addr} {H : Hp} {a : Addr} {o o' : HO} (h : H a = some o) (n : ¬ ((∃ xs, o = .tup xs) ∨ ∃ dx x1 x2 x3 e, o = .ins Cw dx (wayF x1 x2 x3 e))) : Kw Cw H (upd H a o') := fun b u hb t => by
  by_cases e : b = a
  · rw [e, h] at hb; cases hb; exact absurd t n
  · rw [upd_ne e]; exact hb
theorem Kw.updD {Cw : Addr} {H : Hp} {a : Addr} {kvs : List (Key × V)} {o' : HO} (h : H a = some (.dK kvs)) : Kw Cw H (L2.upd H a o') := .upd h fun t => by rcases t with ⟨_, e⟩ | ⟨_, _, _, _, _, e⟩ <;> cases e
theorem WyV.keep {Cw : Addr} {H H' : Hp} {v : V} {k : Wv} (h : WyV Cw H v k) (s : Kw Cw H H') : WyV Cw H' v k := let ⟨x, e, dx, hx⟩ := h; ⟨x, e, dx, s _ _ hx (.inr ⟨_, _, _, _, _, rfl⟩)⟩
theorem WysT.keep {Cw : Addr} {H H' : Hp} {p : Addr} {ks : List Wv} (h : WysT Cw H p ks) (s : Kw Cw H H') : WysT Cw H' p ks := let ⟨vs, e, f⟩ := h; ⟨vs, s _ _ e (.inl ⟨_, rfl⟩), L2.Paired.mapP f fun _ _ x => x.keep s⟩
def RlL (Cw : Addr) (H : Hp) (q : Lr) (r : Rl) : Prop := q.1 = r.1 ∧ q.2.1 = r.2.1 ∧ WysT Cw H q.2.2 r.2.2
theorem rlL_keep {Cw : Addr} {H H' : Hp} {ls : List Lr} {rl : List Rl} (h : Paired (RlL Cw H) ls rl) (s : Kw Cw H H') : Paired (RlL Cw H') ls rl := L2.Paired.mapP h fun _ _ ⟨a, b, c⟩ => ⟨a, b, c.keep s⟩
def stK (ls : List Lr) : List (Key × V) := ls.map fun q => (.inr q.1, .bl q.2.1)
def wyK (ls : List Lr) : List (Key × V) := ls.map fun q => (.inr q.1, .ref q.2.2)
def setR (rl : List Rl) (r : Rl) : List Rl := rl.map fun q => if q.1 = r.1 then r else q
def lookR (rl : List Rl) (z : Str) : Option Rl := rl.find? fun r => decide (r.1 = z)
structure Pol (C Cw : Addr) (H : Hp) (y x m a b : Addr) (rl : List Rl) : Prop where
  obj : ∃ dy, H y = some (.ins C dy [("shape", .ref x), ("_marks", .ref m), ("_starts", .ref a), ("_ways", .ref b)])
  mar : H m = some (.lst (rl.map fun r => .str r.1))
  tb : ∃ ls : List Lr, H a = some (.dK (stK ls)) ∧ H b = some (.dK (wyK ls)) ∧ Paired (RlL Cw H) ls rl
  ne : a ≠ b
  nd : (rl.map (·.1)).Nodup
theorem valV_f {f : Lr → V} (z : Str) : ∀ ls : List Lr, valV (ls.map fun q => ((.inr q.1 : Key), f q)) (.inr z) = (ls.find? fun q => decide (q.1 = z)).map f
  | [] => rfl
  | q :: ls => by
    rw [List.map_cons, List.find?_cons]
    by_cases h : q.1 = z
    · rw [valV_pos (by rw [h]), decide_eq_true h]; rfl
    · rw [valV_neg (fun e => h (by injection e)), decide_eq_false h, valV_f z ls]
theorem find_pair {Cw : Addr} {H : Hp} {z : Str} : ∀ {ls : List Lr} {rl : List Rl}, Paired (RlL Cw H) ls rl → (∃ r q, lookR rl z = some r ∧ (ls.find? fun q => decide (q.1 = z)) = some q ∧ RlL Cw H q r) ∨ (lookR rl z = none ∧ (ls.find? fun q => decide (q.1 = z)) = none)
  | _, _, .nil => .inr ⟨rfl, rfl⟩
  | q :: ls, r :: rl, .cons h t => by
    unfold lookR
    rw [List.find?_cons, List.find?_cons]
    by_cases e : r.1 = z
    · exact .inl ⟨r, q, by rw [decide_eq_true e], by rw [decide_eq_true (h.1.trans e)], h⟩
    · rw [decide_eq_false e, decide_eq_false (fun e' => e (h.1.symm.trans e'))]
      exact find_pair t
theorem valV_st {z : Str} {ls : List Lr} : valV (stK ls) (.inr z) = (ls.find? fun q => decide (q.1 = z)).map fun q => V.bl q.2.1 := valV_f z ls
theorem valV_wy {z : Str} {ls : List Lr} : valV (wyK ls) (.inr z) = (ls.find? fun q => decide (q.1 = z)).map fun q => V.ref q.2.2 := valV_f z ls
theorem find_none {ls : List Lr} {z : Str} (h : z ∉ ls.map (·.1)) : (ls.find? fun q => decide (q.1 = z)) = none := List.find?_eq_none.mpr fun q hq e => h (List.mem_map.mpr ⟨q, hq, of_decide_eq_true e⟩)
theorem find_some {ls : List Lr} {z : Str} (h : z ∈ ls.map (·.1)) : ∃ q, (ls.find? fun q => decide (q.1 = z)) = some q := by
  cases e : ls.find? fun q => decide (q.1 = z) with
  | some q => exact ⟨q, rfl⟩
  | none =>
    obtain ⟨q, hq, e2⟩ := List.mem_map.mp h
    exact absurd (decide_eq_true e2) (by simpa using List.find?_eq_none.mp e q hq)
theorem putK_old {kvs : List (Key × V)} {k : Key} {v : V} (h : (valV kvs k).isSome = true) : putK kvs k v = kvs.map fun kv => if kv.1 = k then (kv.1, v) else kv := by
  unfold putK
  rw [valV_any, h, if_pos rfl]
def setL (ls : List Lr) (z : Str) (st : Bool) (p : Addr) : List Lr := ls.map fun q => if q.1 = z then (q.1, st, p) else q
theorem put_st' {ls : List Lr} {z : Str} {st : Bool} {p : Addr} (h : z ∈ ls.map (·.1)) : putK (stK ls) (.inr z) (.bl st) = stK (setL ls z st p) := by
  obtain ⟨q, hq⟩ := find_some h
  rw [putK_old (by rw [valV_st, hq]; rfl)]
  unfold stK setL
  rw [List.map_map, List.map_map]
  refine List.map_congr_left fun q _ => ?_
  by_cases e : q.1 = z
  · simp [e]
  · simp [e]
theorem put_wy' {ls : List Lr} {z : Str} {st : Bool} {p : Addr} (h : z ∈ ls.map (·.1)) : putK (wyK ls) (.inr z) (.ref p) = wyK (setL ls z st p) := by
  obtain ⟨q, hq⟩ := find_some h
  rw [putK_old (by rw [valV_wy, hq]; rfl)]
  unfold wyK setL
  rw [List.map_map, List.map_map]
  refine List.map_congr_left fun q _ => ?_
  by_cases e : q.1 = z
  · simp [e]
  · simp [e]
theorem setL_pair {Cw : Addr} {H : Hp} {r : Rl} {p : Addr} (w : WysT Cw H p r.2.2) : ∀ {ls : List Lr} {rl : List Rl}, Paired (RlL Cw H) ls rl → Paired (RlL Cw H) (setL ls r.1 r.2.1 p) (setR rl r)
  | _, _, .nil => .nil
  | q :: ls, r' :: rl, .cons h t => by
    refine .cons ?_ (setL_pair w t)
    show RlL Cw H (if q.1 = r.1 then (q.1, r.2.1, p) else q) (if r'.1 = r.1 then r else r')
    by_cases e : r'.1 = r.1
    · rw [if_pos e, if_pos (h.1.trans e)]; exact ⟨h.1.trans e, rfl, w⟩
    · rw [if_neg e, if_neg (fun e' => e (h.1.symm.trans e'))]; exact h
theorem pair_fst {Cw : Addr} {H : Hp} : ∀ {ls : List Lr} {rl : List Rl}, Paired (RlL Cw H) ls rl → ls.map (·.1) = rl.map (·.1)
  | _, _, .nil => rfl
  | q :: ls, r :: rl, .cons h t => by rw [List.map_cons, List.map_cons, h.1, pair_fst t]
theorem setR_fst (rl : List Rl) (r : Rl) : (setR rl r).map (·.1) = rl.map (·.1) := by
  unfold setR
  rw [List.map_map]
  refine List.map_congr_left fun q _ => ?_
  by_cases e : q.1 = r.1
  · simp [e]
  · simp [e]
theorem setRs_fst : ∀ (rs rl : List Rl), (rs.foldl setR rl).map (·.1) = rl.map (·.1)
  | [], _ => rfl
  | r :: rs, rl => by rw [List.foldl_cons, setRs_fst rs, setR_fst]
/-- the rows that are passed in -/
def RwV (Cw : Addr) (H : Hp) (v : V) (r : Rl) : Prop := ∃ p t, v = .ref p ∧ H p = some (.tup [.str r.1, .bl r.2.1, .ref t]) ∧ WysT Cw H t r.2.2
theorem RwV.keep {Cw : Addr} {H H' : Hp} {v : V} {r : Rl} (h : RwV Cw H v r) (s : Kw Cw H H') : RwV Cw H' v r := let ⟨p, t, e, a, b⟩ := h; ⟨p, t, e, s _ _ a (.inl ⟨_, rfl⟩), b.keep s⟩
def emptyR (rs : List Row) : List Rl := (mks rs).map fun z => (z, false, [])
theorem polF1 (x m a b : Addr) : List.lookup ("shape" : Str) [(("shape" : Str), V.ref x), ("_marks", V.ref m), ("_starts", V.ref a), ("_ways", V.ref b)] = some (V.ref x) := rfl
theorem polF2 (x m a b : Addr) : List.lookup ("_marks" : Str) [(("shape" : Str), V.ref x), ("_marks", V.ref m), ("_starts", V.ref a), ("_ways", V.ref b)] = some (V.ref m) := rfl
theorem polF3 (x m a b : Addr) : List.lookup ("_starts" : Str) [(("shape" : Str), V.ref x), ("_marks", V.ref m), ("_starts", V.ref a), ("_ways", V.ref b)] = some (V.ref a) := rfl
theorem polF4 (x m a b : Addr) : List.lookup ("_ways" : Str) [(("shape" : Str), V.ref x), ("_marks", V.ref m), ("_starts", V.ref a), ("_ways", V.ref b)] = some (V.ref b) := rfl
end My

namespace My
open PySem L2
def spPInit0 (K : PySem.W.Frag) (C Cw Cs : Addr) : Sp := fun vs H Q _ => ∃ (y dy x q : Addr) (rs : List Row), vs = [.ref y, .ref x, .ref q] ∧ H y = some (.ins C dy []) ∧ ShO Cs H x rs ∧ (mks rs).Nodup ∧ rs.length ≤ 100 ∧ (∀ H', SqT K H' q []) ∧
  ∀ m a b H', But y H H' → H m = none → H a = none → H b = none → Pol C Cw H' y x m a b (emptyR rs) → Q .non H'
section
variable {w : World} {K : PySem.W.Frag} {mg : Str → Option Value} {base : Heap}
set_option maxHeartbeats 16000000 in
set_option pp.maxSteps 600 in
theorem ok_Policy_init (T : Txt K mg) : FnOk PP w K mg base CX0 8 T.a_Policy_init T.fd_Policy_init ["self", "shape", "rows"] (spPInit0 K T.c_Policy T.c_Way T.c_Shape) := by
  refine T.F_Policy_init.ok0 sc_Policy_init (fun vs H Q E h => ?_) (fun cdv A outer s H vs Q E hr h => ?_)
  · obtain ⟨y, dy, x, q, rs, rfl, _⟩ := h; rfl
  · obtain ⟨y, dy, x, q, rs, rfl, hy, hS, nd, lr, hq, qq⟩ := h
    refine ⟨_, (pss_cons (ps_set (i := 3) sc_Policy_init.nd rfl (.inl rfl) (pe_dnewK))
      (pss_cons (ps_set (i := 4) sc_Policy_init.nd rfl (.inl rfl) (pe_dnewK))
      (pss_cons (ps_for PassesOwn.never rfl (pi_own T.m_Shape_iter (ok_Shape_iter T) (hr.mono (by omega)) (pv 1)) (pg_name (i := 5) sc_Policy_init.nd rfl (.inl rfl)) (pss_cons (ps_dput (hu_of hr) (pv 3) (pv 5) (pe_bl) rfl)
      (pss_one (ps_dput (hu_of hr) (pv 4) (pv 5) (pe_tup pa_nil) rfl))))
      (pss_cons (ps_for PassesOwn.never rfl (pi_tup (pv 2)) (pg_tup rfl (pgs_cons (pg_name (i := 5) sc_Policy_init.nd rfl (.inl rfl)) (pgs_cons (pg_name (i := 6) sc_Policy_init.nd rfl (.inl rfl)) (pgs_cons (pg_name (i := 7) sc_Policy_init.nd rfl (.inl rfl)) pgs_nil)))) (pss_cons (ps_if (pt_cmpR (op_ninKd (hu_of hr)) (pv 5) (pv 3) (by with_unfolding_all rfl)) (pss_one (ps_never)) pss_nil)
      (pss_cons (ps_dput (hu_of hr) (pv 3) (pv 5) (pv 6) rfl)
      (pss_one (ps_dput (hu_of hr) (pv 4) (pv 5) (pe_callTy call_tuple_of (by rfl) T.n_tuple (by decide +kernel) (pa_cons (pv 7) pa_nil)) rfl)))))
      (pss_cons (ps_fld (pv 0) (pv 1) rfl)
      (pss_cons (ps_fld (pv 0) (pe_callTy (call_listI T.m_Shape_iter (ok_Shape_iter T) T.m_Shape_len (ok_Shape_len T) T.b_Shape_len rfl (hr.mono (by omega))) (by rfl) T.n_list (by decide +kernel) (pa_cons (pv 1) pa_nil)) rfl)
      (pss_cons (ps_fld (pv 0) (pv 3) rfl)
      (pss_one (ps_fld (pv 0) (pv 4) rfl))))))))), ?_⟩
    have big : 100000 < sizeLine := by decide
    obtain ⟨dx, l, mm, vs0, hx, hl, hrs, hmm⟩ := hS
    have lmk : (mks rs).length = rs.length := by unfold mks; rw [List.length_map]
    refine fun a ha => fun b hb => ?_
    have sa := same_new (o := .dK []) ha
    have sb := same_new (o := .dK []) hb
    have nab : a ≠ b := fun e => by rw [← e, upd_same] at hb; cases hb
    have hb0 := sa.free hb
    have e1 : (upd (upd H a (.dK [])) b (.dK [])) a = some (.dK (stK [])) := by rw [upd_ne nab, upd_same]; rfl
    have e2 : (upd (upd H a (.dK [])) b (.dK [])) b = some (.dK (wyK [])) := upd_same
    have sab := sa.trans sb
    revert e1 e2 sab
    generalize upd (upd H a (.dK [])) b (.dK []) = H2
    intro e1 e2 sab
    refine ⟨_, rfl, x, dx, mm, _, mksV rs, rfl, sab _ _ hx, sh_look2 l mm, SqL.of (sab _ _ hmm), for_list (K := K) (a := mm) (xs := mksV rs) (fun i σ H' => ∃ (x5 : Option V) (ls : List Lr), σ = [some (.ref y), some (.ref x), some (.ref q), some (.ref a), some (.ref b), x5, none, none] ∧ Same H H' ∧ H' a = some (.dK (stK ls)) ∧ H' b = some (.dK (wyK ls)) ∧ Paired (RlL T.c_Way H') ls (((mks rs).take i).map fun z => (z, false, []))) ⟨_, [], rfl, sab, e1, e2, by rw [List.take_zero]; exact .nil⟩ (fun i σ H' _ ⟨_, _, _, s, _⟩ => SqL.of (s _ _ hmm)) ?_ ?_⟩
    · rintro i v σ H3 hv ⟨x5, ls, rfl, s3, h3a, h3b, pr⟩
      obtain ⟨z, hz, rfl⟩ : ∃ z, (mks rs)[i]? = some z ∧ v = .str z := by
        unfold mksV at hv
        rw [List.getElem?_map] at hv
        cases e : rs[i]? with
        | none => rw [e] at hv; cases hv
        | some r => rw [e] at hv; exact ⟨r.mark, by unfold mks; rw [List.getElem?_map, e]; rfl, (Option.some.inj hv).symm⟩
      have hi := (List.getElem?_eq_some_iff.mp hz).1
      have lls : ls.length = i := by rw [pair_len' pr, List.length_map, List.length_take]; omega
      have fs := pair_fst pr
      rw [List.map_map] at fs
      have fs : ls.map (·.1) = (mks rs).take i := by rw [fs]; exact List.map_id _
      have nz : z ∉ ls.map (·.1) := by rw [fs]; exact fun h => (nodup_take.mp nd) i z hz h
      refine ⟨_, rfl, _, rfl, a, _, rfl, DPut.k (k := .inr z) h3a (by unfold stK; rw [List.length_map]; omega), ?_⟩
      have k3 : Kw T.c_Way H3 (upd H3 a (.dK (putK (stK ls) (.inr z) (.bl false)))) := .updD h3a
      have s4 := same_mut (o := .dK (putK (stK ls) (.inr z) (.bl false))) s3 ha
      have h4a : (upd H3 a (.dK (putK (stK ls) (.inr z) (.bl false)))) a = some (.dK (stK ls ++ [(.inr z, .bl false)])) := by rw [upd_same, L2.putK_new _ (by rw [valV_st, find_none nz]; rfl)]
      have h4b : (upd H3 a (.dK (putK (stK ls) (.inr z) (.bl false)))) b = some (.dK (wyK ls)) := by rw [upd_ne nab.symm]; exact h3b
      revert k3 s4 h4a h4b
      generalize upd H3 a (.dK (putK (stK ls) (.inr z) (.bl false))) = H4
      intro k3 s4 h4a h4b
      refine ⟨Nat.zero_le _, fun p np => ?_⟩
      have k4 : Kw T.c_Way H4 (upd H4 p (.tup [])) := .same (same_new np)
      have s5 := s4.trans (same_new (o := .tup []) np)
      have h5p : (upd H4 p (.tup [])) p = some (.tup []) := upd_same
      have h5a := same_new (o := .tup []) np _ _ h4a
      have h5b := same_new (o := .tup []) np _ _ h4b
      revert k4 s5 h5p h5a h5b
      generalize upd H4 p (.tup []) = H5
      intro k4 s5 h5p h5a h5b
      refine ⟨_, rfl, _, rfl, b, _, rfl, DPut.k (k := .inr z) h5b (by unfold wyK; rw [List.length_map]; omega), ?_⟩
      have k5 : Kw T.c_Way H5 (upd H5 b (.dK (putK (wyK ls) (.inr z) (.ref p)))) := .updD h5b
      refine ⟨_, ls ++ [(z, false, p)], rfl, same_mut s5 hb0, ?_, ?_, ?_⟩
      · rw [upd_ne nab, h5a]; unfold stK; rw [List.map_append]; rfl
      · rw [upd_same, L2.putK_new _ (by rw [valV_wy, find_none nz]; rfl)]; unfold wyK; rw [List.map_append]; rfl
      · rw [List.take_succ, hz, Option.toList_some, List.map_append]
        exact pair_app' (rlL_keep pr ((k3.trans k4).trans k5)) (.cons ⟨rfl, rfl, [], k5 _ _ h5p (.inl ⟨_, rfl⟩), .nil⟩ .nil)
    rintro σ H3 ⟨x5, ls0, rfl, s3, h3a, h3b, pr0⟩
    rw [show (mksV rs).length = (mks rs).length by unfold mksV; rw [List.length_map, lmk], List.take_length] at pr0
    refine ⟨_, rfl, q, rfl, ⟨_, hq _⟩, for_tup (K := K) (a := q) (xs := []) (fun i σ H' => ∃ (x5 x6 x7 : Option V), σ = [some (.ref y), some (.ref x), some (.ref q), some (.ref a), some (.ref b), x5, x6, x7] ∧ H' = H3) ⟨_, _, _, rfl, rfl⟩ (fun i σ H' _ _ => hq _) (fun i v σ H' hv _ => by simp at hv) ?_⟩
    rintro σ H4 ⟨x5', x6, x7, rfl, rfl⟩
    have s4 := s3
    have h4a := h3a
    have h4b := h3b
    have pr : Paired (RlL T.c_Way H4) ls0 (emptyR rs) := pr0
    obtain ⟨ls, els⟩ : ∃ ls, ls = ls0 := ⟨_, rfl⟩
    rw [← els] at h4a h4b pr
    have lmr : (emptyR rs).map (·.1) = mks rs := by
      unfold emptyR
      rw [List.map_map]; exact List.map_id _
    have nxy : x ≠ y := fun e => by
      rw [e, hy] at hx
      have hx := Option.some.inj hx
      injection hx with _ _ z
      exact nomatch z
    have nly : l ≠ y := fun e => by rw [e, hy] at hl; cases hl
    have nmy : mm ≠ y := fun e => by rw [e, hy] at hmm; cases hmm
    have nay : a ≠ y := fun e => by rw [e, hy] at ha; cases ha
    have nby : b ≠ y := fun e => by rw [e, hy] at hb0; cases hb0
    refine ⟨_, rfl, _, rfl, y, _, dy, _, rfl, s4 _ _ hy, T.cl_Policy, T.no_Policy_shape, by show 0 < 1000; decide, ?_⟩
    have k5 : Kw T.c_Way H4 (upd H4 y (.ins T.c_Policy dy (putF "shape" (.ref x) []))) := .upd (s4 _ _ hy) fun t => by
      rcases t with ⟨_, e⟩ | ⟨_, _, _, _, _, e⟩
      · cases e
      · injection e with _ _ e; exact nomatch e
    have b5 : But y H (upd H4 y (.ins T.c_Policy dy (putF "shape" (.ref x) []))) := fun c o n e => by rw [upd_ne n]; exact s4 _ _ e
    have h5y : (upd H4 y (.ins T.c_Policy dy (putF "shape" (.ref x) []))) y = some (.ins T.c_Policy dy [("shape", .ref x)]) := upd_same
    have h5a : (upd H4 y (.ins T.c_Policy dy (putF "shape" (.ref x) []))) a = some (.dK (stK ls)) := by rw [upd_ne nay]; exact h4a
    have h5b : (upd H4 y (.ins T.c_Policy dy (putF "shape" (.ref x) []))) b = some (.dK (wyK ls)) := by rw [upd_ne nby]; exact h4b
    revert k5 b5 h5y h5a h5b
    generalize upd H4 y (.ins T.c_Policy dy (putF "shape" (.ref x) [])) = H5
    intro k5 b5 h5y h5a h5b
    have sh5 : ShO T.c_Shape H5 x rs := ⟨dx, l, mm, vs0, b5 _ _ nxy hx, b5 _ _ nly hl, rowsT_keep hrs (fun c xs e => b5 _ _ (fun z => by rw [z, hy] at e; cases e) e), b5 _ _ nmy hmm⟩
    refine ⟨_, rfl, x, dx, mm, _, mksV rs, rfl, b5 _ _ nxy hx, sh_look2 l mm, SqL.of (b5 _ _ nmy hmm), by unfold mksV; rw [List.length_map]; omega, fun c nc => ⟨x, rs, rfl, sh5.same (same_new nc), ⟨_, rfl, by omega⟩, rfl⟩, fun m nm => ?_⟩
    have nmy' : m ≠ y := fun e => by rw [e, h5y] at nm; cases nm
    have nma : m ≠ a := fun e => by rw [e, h5a] at nm; cases nm
    have nmb : m ≠ b := fun e => by rw [e, h5b] at nm; cases nm
    refine ⟨_, rfl, y, _, dy, _, rfl, same_new nm _ _ h5y, T.cl_Policy, T.no_Policy__marks, by show 1 < 1000; decide, ?_⟩
    refine ⟨_, rfl, _, rfl, y, _, dy, _, rfl, upd_same, T.cl_Policy, T.no_Policy__starts, by show 2 < 1000; decide, ?_⟩
    refine ⟨_, rfl, _, rfl, y, _, dy, _, rfl, upd_same, T.cl_Policy, T.no_Policy__ways, by show 3 < 1000; decide, ?_⟩
    have nm0 : H m = none := b5.free nmy' nm
    have at' : ∀ {c : Addr} {o1 o2 o3 o4 : HO}, c ≠ y → (upd (upd (upd (upd H5 m o1) y o2) y o3) y o4) c = (upd H5 m o1) c := fun n => by rw [upd_ne n, upd_ne n, upd_ne n]
    refine qq m a b _ (fun c o n e => ?_) nm0 ha hb0 ⟨⟨dy, upd_same⟩, ?_, ⟨ls, ?_, ?_, rlL_keep pr (k5.trans fun c o e t => ?_)⟩, nab, by rw [lmr]; exact nd⟩
    · rw [at' n, upd_ne (fun z => by rw [z, nm0] at e; cases e)]; exact b5 _ _ n e
    · rw [at' nmy', upd_same]
      unfold mksV
      rw [show (List.map (fun r => V.str r.1) (emptyR rs)) = ((emptyR rs).map (·.1)).map V.str by rw [List.map_map]; rfl, lmr]
      unfold mks
      rw [List.map_map]; rfl
    · rw [at' nay, upd_ne nma.symm]; exact h5a
    · rw [at' nby, upd_ne nmb.symm]; exact h5b
    · have ncy : c ≠ y := fun z => by
        rw [z, h5y] at e; cases e
        rcases t with ⟨_, e⟩ | ⟨_, _, _, _, _, e⟩
        · cases e
        · injection e with _ _ e; exact nomatch e
      rw [at' ncy]; exact same_new nm _ _ e
end
end My

namespace My
open PySem L2
theorem find_at : ∀ {ls : List Lr} {i : Nat} {q : Lr}, (ls.map (·.1)).Nodup → ls[i]? = some q → (ls.find? fun p => decide (p.1 = q.1)) = some q
  | [], _, _, _, e => by simp at e
  | q0 :: ls, 0, q, _, e => by
    simp at e
    rw [List.find?_cons, decide_eq_true (by rw [e])]
    exact congrArg some e
  | q0 :: ls, i + 1, q, nd, e => by
    have e : ls[i]? = some q := by simpa using e
    have nd := List.nodup_cons.mp (by simpa using nd : (q0.1 :: ls.map (·.1)).Nodup)
    have ne : q0.1 ≠ q.1 := fun h => nd.1 (h ▸ List.mem_map.mpr ⟨q, List.mem_of_getElem? e, rfl⟩)
    rw [List.find?_cons, decide_eq_false ne]
    exact find_at nd.2 e
theorem dget_st {H : Hp} {a : Addr} {ls : List Lr} {z : Str} {q : Lr} (h : H a = some (.dK (stK ls))) (e : (ls.find? fun p => decide (p.1 = z)) = some q) : DGet H a (.str z) (some (.bl q.2.1)) := by
  have d := DGet.k (k := .inr z) h
  rw [valV_st, e] at d; exact d
theorem dget_wy {H : Hp} {a : Addr} {ls : List Lr} {z : Str} {q : Lr} (h : H a = some (.dK (wyK ls))) (e : (ls.find? fun p => decide (p.1 = z)) = some q) : DGet H a (.str z) (some (.ref q.2.2)) := by
  have d := DGet.k (k := .inr z) h
  rw [valV_wy, e] at d; exact d
theorem Pol.same {C Cw : Addr} {H H' : Hp} {y x m a b : Addr} {rl : List Rl} (P : Pol C Cw H y x m a b rl) (s : Same H H') : Pol C Cw H' y x m a b rl := by
  obtain ⟨⟨dy, hy⟩, hm, ⟨ls, ha, hb, pr⟩, ne, nd⟩ := P
  exact ⟨⟨dy, s _ _ hy⟩, s _ _ hm, ⟨ls, s _ _ ha, s _ _ hb, rlL_keep pr (.same s)⟩, ne, nd⟩
theorem Pol.le {C Cw : Addr} {A : List Addr} {H H' : Hp} {y x m a b : Addr} {rl : List Rl} (P : Pol C Cw H y x m a b rl) (s : Le A H H') (k : Kw Cw H H') (n : ∀ c ∈ [y, m, a, b], c ∉ A) : Pol C Cw H' y x m a b rl := by
  obtain ⟨⟨dy, hy⟩, hm, ⟨ls, ha, hb, pr⟩, ne, nd⟩ := P
  exact ⟨⟨dy, s _ _ (n y (by simp)) hy⟩, s _ _ (n m (by simp)) hm, ⟨ls, s _ _ (n a (by simp)) ha, s _ _ (n b (by simp)) hb, rlL_keep pr k⟩, ne, nd⟩
theorem fold_setR (f : Str → Rl) (hf : ∀ z, (f z).1 = z) : ∀ (ms : List Str) (rl : List Rl), (ms.map f).foldl setR rl = rl.map fun q => if q.1 ∈ ms then f q.1 else q
  | [], rl => by simp
  | z :: ms, rl => by
    rw [List.map_cons, List.foldl_cons, fold_setR f hf ms]
    unfold setR
    rw [List.map_map]
    refine List.map_congr_left fun q _ => ?_
    show (if (if q.1 = (f z).1 then f z else q).1 ∈ ms then f (if q.1 = (f z).1 then f z else q).1 else (if q.1 = (f z).1 then f z else q)) = _
    rw [hf]
    by_cases e : q.1 = z
    · rw [if_pos e, hf, e, if_pos (List.mem_cons_self)]
      split <;> rfl
    · rw [if_neg e]
      by_cases m : q.1 ∈ ms
      · rw [if_pos m, if_pos (List.mem_cons_of_mem _ m)]
      · rw [if_neg m, if_neg (fun h => (List.mem_cons.mp h).elim e m)]
theorem fold_all (f : Str → Rl) (hf : ∀ z, (f z).1 = z) (rs : List Row) : ((mks rs).map f).foldl setR (emptyR rs) = (mks rs).map f := by
  rw [fold_setR f hf]
  unfold emptyR
  rw [List.map_map]
  refine List.map_congr_left fun z hz => ?_
  show (if z ∈ mks rs then f z else (z, false, [])) = f z
  rw [if_pos hz]
theorem free_make {H : Hp} {y dy c : Addr} {o o' : HO} (ny : H y = none) (ndy : H dy = none) (ne : dy ≠ y) (h : (upd (upd H dy o) y o') c = none) : H c = none := by
  have n1 : c ≠ y := fun e => by rw [e, upd_same] at h; cases h
  rw [upd_ne n1] at h
  exact (same_new ndy).free h
end My

namespace My
open PySem L2
def spPGet (C Cw : Addr) : Sp := fun vs H Q _ => ∃ (y x m a b : Addr) (rl : List Rl) (z : Str) (r : Rl), vs = [.ref y, .str z] ∧ Pol C Cw H y x m a b rl ∧ lookR rl z = some r ∧
  ∀ u t H', Same H H' → H u = none → H' u = some (.tup [.bl r.2.1, .ref t]) → WysT Cw H' t r.2.2 → Q (.ref u) H'
section
variable {w : World} {K : PySem.W.Frag} {mg : Str → Option Value} {base : Heap}
set_option pp.maxSteps 600 in
theorem ok_Policy_getitem (T : Txt K mg) : FnOk PP w K mg base CX0 1 T.a_Policy_getitem T.fd_Policy_getitem ["self", "mark"] (spPGet T.c_Policy T.c_Way) := by
  refine T.F_Policy_getitem.ok sc_Policy_getitem (fun vs H Q E h => ?_) (fun cdv A outer s H vs Q E hr h => ?_)
  · obtain ⟨y, x, m, a, b, rl, z, r, rfl, _⟩ := h; rfl
  · obtain ⟨y, x, m, a, b, rl, z, r, rfl, ⟨⟨dy, hy⟩, hm, ⟨ls, ha, hb, pr⟩, ne, nd⟩, hz, q⟩ := h
    refine ⟨_, (pss_cons (ps_if (pt_cmpR (op_ninKd (hu_of hr)) (pv 1) (pe_fld (pv 0) rfl) (by with_unfolding_all rfl)) (pss_one (ps_never)) pss_nil)
      (pss_one (ps_ret (pe_tup (pa_cons (pe_dget (hu_of hr) (pe_fld (pv 0) rfl) (pv 1) (fun _ _ => rfl)) (pa_cons (pe_dget (hu_of hr) (pe_fld (pv 0) rfl) (pv 1) (fun _ _ => rfl)) pa_nil)))))), ?_⟩
    obtain ⟨q0, hq0, rl0⟩ : ∃ q0, (ls.find? fun p => decide (p.1 = z)) = some q0 ∧ RlL T.c_Way H q0 r := by
      rcases find_pair (z := z) pr with ⟨r', q', e1, e2, e3⟩ | ⟨e1, _⟩
      · rw [hz] at e1; cases e1; exact ⟨q', e2, e3⟩
      · rw [hz] at e1; cases e1
    refine ⟨_, rfl, _, rfl, y, _, dy, _, _, rfl, hy, T.cl_Policy, T.no_Policy__starts, polF3 x m a b, a, _, rfl, dget_st ha hq0, _, rfl, iteNo rfl ?_⟩
    refine ⟨_, rfl, y, _, dy, _, _, rfl, hy, T.cl_Policy, T.no_Policy__starts, polF3 x m a b, _, rfl, a, _, rfl, dget_st ha hq0, ?_⟩
    refine ⟨_, rfl, y, _, dy, _, _, rfl, hy, T.cl_Policy, T.no_Policy__ways, polF4 x m a b, _, rfl, b, _, rfl, dget_wy hb hq0, ?_⟩
    refine ⟨by show 2 ≤ sizeLine; decide, fun u nu => ?_⟩
    exact q u q0.2.2 _ (same_new nu) nu (by rw [upd_same, rl0.2.1]) (rl0.2.2.keep (.same (same_new nu)))
end
end My

namespace My
open PySem L2
def spPSet (C Cw : Addr) : Sp := fun vs H Q _ => ∃ (y x m a b u t : Addr) (rl : List Rl) (z : Str) (st : Bool) (ws : List Wv), vs = [.ref y, .str z, .ref u] ∧ Pol C Cw H y x m a b rl ∧ rl.length ≤ 1000 ∧ z ∈ rl.map (·.1) ∧ H u = some (.tup [.bl st, .ref t]) ∧ WysT Cw H t ws ∧
  ∀ H', Le [a, b] H H' → Kw Cw H H' → Pol C Cw H' y x m a b (setR rl (z, st, ws)) → Q .non H'
section
variable {w : World} {K : PySem.W.Frag} {mg : Str → Option Value} {base : Heap}
set_option pp.maxSteps 600 in
theorem ok_Policy_setitem (T : Txt K mg) : FnOk PP w K mg base CX0 1 T.a_Policy_setitem T.fd_Policy_setitem ["self", "mark", "rule"] (spPSet T.c_Policy T.c_Way) := by
  refine T.F_Policy_setitem.ok sc_Policy_setitem (fun vs H Q E h => ?_) (fun cdv A outer s H vs Q E hr h => ?_)
  · obtain ⟨y, x, m, a, b, u, t, rl, z, st, ws, rfl, _⟩ := h; rfl
  · obtain ⟨y, x, m, a, b, u, t, rl, z, st, ws, rfl, ⟨⟨dy, hy⟩, hm, ⟨ls, ha, hb, pr⟩, ne, nd⟩, lrl, hz, hu, ht, q⟩ := h
    refine ⟨_, (pss_cons (ps_if (pt_cmpR (op_ninKd (hu_of hr)) (pv 1) (pe_fld (pv 0) rfl) (by with_unfolding_all rfl)) (pss_one (ps_never)) pss_nil)
      (pss_cons (ps_asg (pv 2) (pg_tup rfl (pgs_cons (pg_name (i := 3) sc_Policy_setitem.nd rfl (.inl rfl)) (pgs_cons (pg_name (i := 4) sc_Policy_setitem.nd rfl (.inl rfl)) pgs_nil))))
      (pss_cons (ps_dput (hu_of hr) (pe_fld (pv 0) rfl) (pv 1) (pv 3) rfl)
      (pss_one (ps_dput (hu_of hr) (pe_fld (pv 0) rfl) (pv 1) (pe_callTy call_tuple_of (by rfl) T.n_tuple (by decide +kernel) (pa_cons (pv 4) pa_nil)) rfl))))), ?_⟩
    have big : 100000 < sizeLine := by decide
    have lls := pair_len' pr
    have mz : z ∈ ls.map (·.1) := by rw [pair_fst pr]; exact hz
    obtain ⟨q0, hq0⟩ := find_some mz
    obtain ⟨ts, hts, htw⟩ := ht
    refine ⟨_, rfl, _, rfl, y, _, dy, _, _, rfl, hy, T.cl_Policy, T.no_Policy__starts, polF3 x m a b, a, _, rfl, dget_st ha hq0, _, rfl, iteNo rfl ?_⟩
    refine ⟨_, rfl, u, _, rfl, SqT.of hu, rfl, _, _, rfl, _, _, rfl, rfl, ?_⟩
    have nay : y ≠ a := fun e => by rw [e, ha] at hy; cases hy
    have nby : y ≠ b := fun e => by rw [e, hb] at hy; cases hy
    have nma : m ≠ a := fun e => by rw [e, ha] at hm; cases hm
    have nmb : m ≠ b := fun e => by rw [e, hb] at hm; cases hm
    refine ⟨_, rfl, _, rfl, y, _, dy, _, _, rfl, hy, T.cl_Policy, T.no_Policy__starts, polF3 x m a b, _, rfl, a, _, rfl, DPut.k (k := .inr z) ha (by unfold stK; rw [List.length_map]; omega), ?_⟩
    rw [put_st' (p := t) mz]
    have k1 : Kw T.c_Way H (upd H a (.dK (stK (setL ls z st t)))) := .updD ha
    have h1b : (upd H a (.dK (stK (setL ls z st t)))) b = some (.dK (wyK ls)) := by rw [upd_ne ne.symm]; exact hb
    have h1y : (upd H a (.dK (stK (setL ls z st t)))) y = some (.ins T.c_Policy dy [("shape", .ref x), ("_marks", .ref m), ("_starts", .ref a), ("_ways", .ref b)]) := by rw [upd_ne nay]; exact hy
    refine ⟨_, rfl, t, _, rfl, .inr ⟨SqT.of (k1 _ _ hts (.inl ⟨_, rfl⟩)), ?_⟩⟩
    refine ⟨_, rfl, y, _, dy, _, _, rfl, h1y, T.cl_Policy, T.no_Policy__ways, polF4 x m a b, _, rfl, b, _, rfl, DPut.k (k := .inr z) h1b (by unfold wyK; rw [List.length_map]; omega), ?_⟩
    rw [put_wy' (st := st) mz]
    have k2 : Kw T.c_Way (upd H a (.dK (stK (setL ls z st t)))) (upd (upd H a (.dK (stK (setL ls z st t)))) b (.dK (wyK (setL ls z st t)))) := .updD h1b
    refine q _ (fun c o n e => ?_) (k1.trans k2) ⟨⟨dy, by rw [upd_ne nby]; exact h1y⟩, ?_, ⟨setL ls z st t, by rw [upd_ne ne, upd_same], upd_same, ?_⟩, ne, by rw [setR_fst]; exact nd⟩
    · simp only [List.mem_cons, List.not_mem_nil, or_false, not_or] at n
      rw [upd_ne n.2, upd_ne n.1]; exact e
    · rw [upd_ne nmb, upd_ne nma, hm]
      have e := congrArg (List.map V.str) (setR_fst rl (z, st, ws))
      rw [List.map_map, List.map_map] at e
      exact congrArg (fun l => some (HO.lst l)) e.symm
    · exact rlL_keep (setL_pair (r := (z, st, ws)) ⟨ts, hts, htw⟩ pr) (k1.trans k2)
end
end My

namespace My
open PySem L2
def spPStarts (C Cw : Addr) : Sp := fun vs H Q _ => ∃ (y x m a b : Addr) (rl : List Rl), vs = [.ref y] ∧ Pol C Cw H y x m a b rl ∧ rl.length ≤ 1000 ∧
  ∀ u H', Same H H' → H u = none → H' u = some (.tup ((rl.filter (·.2.1)).map fun r => .str r.1)) → Q (.ref u) H'
section
variable {w : World} {K : PySem.W.Frag} {mg : Str → Option Value} {base : Heap}
set_option pp.maxSteps 600 in
theorem ok_Policy_starts (T : Txt K mg) : FnOk PP w K mg base CX0 1 T.a_Policy_starts T.fd_Policy_starts ["self"] (spPStarts T.c_Policy T.c_Way) := by
  refine T.F_Policy_starts.ok sc_Policy_starts (fun vs H Q E h => ?_) (fun cdv A outer s H vs Q E hr h => ?_)
  · obtain ⟨y, x, m, a, b, rl, rfl, _⟩ := h; rfl
  · obtain ⟨y, x, m, a, b, rl, rfl, ⟨⟨dy, hy⟩, hm, ⟨ls, ha, hb, pr⟩, ne, nd⟩, lrl, q⟩ := h
    refine ⟨_, (pss_one (ps_ret (pe_callTy call_tuple_of (by rfl) T.n_tuple (by decide +kernel) (pa_cons (pe_lc (own := [("mark", 1)]) (g := (gName 1)) (by rfl) sc_Policy_starts.nd (pi_list (pe_fld (pv 0) rfl)) (blkOk_by (own := [("mark", 1)]) (N := ["self", "mark"]) (sc := defScope S_Policy_starts) (by decide +kernel)) (fun _ _ _ _ _ => (pg_name (i := 1) sc_Policy_starts.nd rfl (by first | exact .inl rfl | exact .inr rfl))) (fun _ _ _ _ _ => (pts_one (pt_val (pe_dget (hu_of hr) (pe_fldK (K := K) rfl (pv 0) rfl) (pv 1) (fun _ _ => rfl))))) (fun _ _ _ _ _ => (pv 1))) pa_nil)))), ?_⟩
    have big : 100000 < sizeLine := by decide
    have lls := pair_len' pr
    refine ⟨_, rfl, y, _, dy, _, _, rfl, hy, T.cl_Policy, T.no_Policy__marks, polF2 x m a b, m, rfl, ⟨_, SqL.of hm⟩, fun D hD => lc_list (K := K) (a := m) (xs := rl.map fun r => .str r.1) (fun i H' => Same H H' ∧ H' D = some (.lst (((rl.take i).filter (·.2.1)).map fun r => .str r.1))) ⟨same_new hD, upd_same⟩ (fun i H' _ h => SqL.of (h.1 _ _ hm)) ?_ ?_⟩
    · rintro i v H1 hv ⟨s1, h1⟩
      obtain ⟨r, hr, rfl⟩ : ∃ r, rl[i]? = some r ∧ v = .str r.1 := by
        rw [List.getElem?_map] at hv
        cases e : rl[i]? with
        | none => rw [e] at hv; cases hv
        | some r => rw [e] at hv; exact ⟨r, rfl, (Option.some.inj hv).symm⟩
      have hi := (List.getElem?_eq_some_iff.mp hr).1
      obtain ⟨q0, e0, r1⟩ : ∃ q0, ls[i]? = some q0 ∧ RlL T.c_Way H q0 r := by
        have hi' : i < ls.length := by omega
        obtain ⟨r', e1, e2⟩ := pair_get' pr (List.getElem?_eq_getElem hi')
        rw [hr] at e1; cases e1
        exact ⟨_, List.getElem?_eq_getElem hi', e2⟩
      have f0 := find_at (by rw [pair_fst pr]; exact nd) e0
      rw [r1.1] at f0
      have ht : (((rl.take (i + 1)).filter (·.2.1)).map fun r => V.str r.1) = (((rl.take i).filter (·.2.1)).map fun r => V.str r.1) ++ (if r.2.1 then [V.str r.1] else []) := by
        rw [List.take_add_one, hr, Option.toList_some, List.filter_append, List.map_append]
        congr 1
        cases e : r.2.1 <;> simp [e]
      rw [ht]
      refine ⟨rfl, _, rfl, y, _, dy, _, _, rfl, s1 _ _ hy, T.cl_Policy, T.no_Policy__starts, polF3 x m a b, _, rfl, a, _, rfl, dget_st (s1 _ _ ha) f0, _, rfl, ?_⟩
      rw [r1.2.1]
      have lf : (((rl.take i).filter (·.2.1)).map fun r => V.str r.1).length < sizeLine := by
        rw [List.length_map]
        have := List.length_filter_le (fun r : Rl => r.2.1) (rl.take i)
        rw [List.length_take] at this
        omega
      cases c : r.2.1 with
      | true => exact iteT ⟨_, rfl, _, h1, lf, same_mut s1 hD, upd_same⟩
      | false => exact iteNo rfl ⟨s1, by rw [h1]; simp⟩
    rintro H1 ⟨s1, h1⟩
    rw [List.length_map, List.take_length] at h1
    refine ⟨D, _, rfl, .inl ⟨SqL.of h1, fun u nu => ?_⟩⟩
    exact q u _ (s1.trans (same_new nu)) (s1.free nu) upd_same
end
end My

namespace My
open PySem L2
/-- the law's ways in a list -/
def LwV (H : Hp) (v : V) (k : Wv) : Prop := ∃ q, v = .ref q ∧ H q = some (LwO k.1 k.2.1 k.2.2.1 k.2.2.2) ∧ Adj k.1 k.2.1 k.2.2.1
theorem LwV.same {H H' : Hp} {v : V} {k : Wv} (h : LwV H v k) (s : Same H H') : LwV H' v k := let ⟨q, e, f, g⟩ := h; ⟨q, e, s _ _ f, g⟩
/-- the law's own rules in a dict -/
def RdV (H : Hp) (kv : Key × V) (r : Rl) : Prop := kv.1 = .inr r.1 ∧ ∃ q p us, kv.2 = .ref q ∧ H q = some (.lst [.bl r.2.1, .ref p]) ∧ H p = some (.lst us) ∧ Paired (LwV H) us r.2.2 ∧ us.length ≤ 100
theorem RdV.same {H H' : Hp} {kv : Key × V} {r : Rl} (h : RdV H kv r) (s : Same H H') : RdV H' kv r := let ⟨a, q, p, us, e, f, g, k, l⟩ := h; ⟨a, q, p, us, e, s _ _ f, s _ _ g, L2.Paired.mapP k fun _ _ x => x.same s, l⟩
theorem look_at : ∀ {rl : List Rl} {i : Nat} {r : Rl}, (rl.map (·.1)).Nodup → rl[i]? = some r → lookR rl r.1 = some r
  | [], _, _, _, e => by simp at e
  | q0 :: rl, 0, r, _, e => by
    simp at e
    unfold lookR
    rw [List.find?_cons, decide_eq_true (by rw [e])]
    exact congrArg some e
  | q0 :: rl, i + 1, r, nd, e => by
    have e : rl[i]? = some r := by simpa using e
    have nd := List.nodup_cons.mp (by simpa using nd : (q0.1 :: rl.map (·.1)).Nodup)
    have ne : q0.1 ≠ r.1 := fun h => nd.1 (h ▸ List.mem_map.mpr ⟨r, List.mem_of_getElem? e, rfl⟩)
    unfold lookR
    rw [List.find?_cons, decide_eq_false ne]
    exact look_at nd.2 e
theorem val_rd {H : Hp} : ∀ {kvs : List (Key × V)} {rl : List Rl} {i : Nat} {r : Rl}, Paired (RdV H) kvs rl → (rl.map (·.1)).Nodup → rl[i]? = some r → ∃ kv, valV kvs (.inr r.1) = some kv.2 ∧ RdV H kv r
  | _, _, _, _, .nil, _, e => by simp at e
  | kv :: kvs, q0 :: rl, 0, r, .cons h t, _, e => by
    simp at e; subst e
    exact ⟨kv, by rw [valV_pos h.1], h⟩
  | kv :: kvs, q0 :: rl, i + 1, r, .cons h t, nd, e => by
    have e : rl[i]? = some r := by simpa using e
    have nd := List.nodup_cons.mp (by simpa using nd : (q0.1 :: rl.map (·.1)).Nodup)
    have ne : q0.1 ≠ r.1 := fun h => nd.1 (h ▸ List.mem_map.mpr ⟨r, List.mem_of_getElem? e, rfl⟩)
    rw [valV_neg (by rw [h.1]; exact fun z => ne (by injection z))]
    exact val_rd t nd.2 e
end My

namespace My
open PySem L2
def LkS (t : Addr) (H H' : Hp) : Prop := ∀ a xs, a ≠ t → H a = some (.lst xs) → H' a = some (.lst xs)
theorem LkS.same {t : Addr} {H H' : Hp} (s : Same H H') : LkS t H H' := fun a xs _ e => s _ _ e
theorem LkS.but {t : Addr} {H H' : Hp} (b : But t H H') : LkS t H H' := fun a xs n e => b _ _ n e
theorem LkS.trans {t : Addr} {H H1 H2 : Hp} (x : LkS t H H1) (y : LkS t H1 H2) : LkS t H H2 := fun a xs n e => y a xs n (x a xs n e)
theorem LkS.updD {t g : Addr} {H : Hp} {kvs : List (Key × V)} {o : HO} (h : H g = some (.dK kvs)) : LkS t H (L2.upd H g o) := fun a xs _ e => by rw [upd_ne (fun z => by rw [z, h] at e; cases e)]; exact e
def LwN (t : Addr) (H : Hp) (v : V) (k : Wv) : Prop := ∃ q, v = .ref q ∧ q ≠ t ∧ H q = some (LwO k.1 k.2.1 k.2.2.1 k.2.2.2) ∧ Adj k.1 k.2.1 k.2.2.1
theorem LwN.keep {t : Addr} {H H' : Hp} {v : V} {k : Wv} (h : LwN t H v k) (b : LkS t H H') : LwN t H' v k := let ⟨q, e, n, f, g⟩ := h; ⟨q, e, n, b _ _ n f, g⟩
def RdN (t : Addr) (H : Hp) (kv : Key × V) (r : Rl) : Prop := kv.1 = .inr r.1 ∧ ∃ q p us, kv.2 = .ref q ∧ q ≠ t ∧ H q = some (.lst [.bl r.2.1, .ref p]) ∧ p ≠ t ∧ H p = some (.lst us) ∧ Paired (LwN t H) us r.2.2 ∧ us.length ≤ 100
theorem RdN.keep {t : Addr} {H H' : Hp} {kv : Key × V} {r : Rl} (h : RdN t H kv r) (b : LkS t H H') : RdN t H' kv r := let ⟨a, q, p, us, e, n, f, n2, g, k, l⟩ := h; ⟨a, q, p, us, e, n, b _ _ n f, n2, b _ _ n2 g, L2.Paired.mapP k fun _ _ x => x.keep b, l⟩
theorem rd_none {t : Addr} {H : Hp} {z : Str} : ∀ {kvs : List (Key × V)} {rl : List Rl}, Paired (RdN t H) kvs rl → z ∉ rl.map (·.1) → valV kvs (.inr z) = none
  | _, _, .nil, _ => rfl
  | kv :: kvs, r :: rl, .cons h p, n => by
    rw [List.map_cons, List.mem_cons, not_or] at n
    rw [valV_neg (by rw [h.1]; exact fun e => n.1 (by injection e with e; exact e.symm))]
    exact rd_none p n.2
theorem val_rdn {t : Addr} {H : Hp} : ∀ {kvs : List (Key × V)} {rl : List Rl} {i : Nat} {r : Rl}, Paired (RdN t H) kvs rl → (rl.map (·.1)).Nodup → rl[i]? = some r → ∃ kv, valV kvs (.inr r.1) = some kv.2 ∧ RdN t H kv r
  | _, _, _, _, .nil, _, e => by simp at e
  | kv :: kvs, q0 :: rl, 0, r, .cons h t, _, e => by
    simp at e; subst e
    exact ⟨kv, by rw [valV_pos h.1], h⟩
  | kv :: kvs, q0 :: rl, i + 1, r, .cons h t, nd, e => by
    have e : rl[i]? = some r := by simpa using e
    have nd := List.nodup_cons.mp (by simpa using nd : (q0.1 :: rl.map (·.1)).Nodup)
    have ne : q0.1 ≠ r.1 := fun h => nd.1 (h ▸ List.mem_map.mpr ⟨r, List.mem_of_getElem? e, rfl⟩)
    rw [valV_neg (by rw [h.1]; exact fun z => ne (by injection z))]
    exact val_rdn t nd.2 e
end My

namespace My
open PySem L2
theorem putK_new {kvs : List (Key × V)} {k : Key} {v : V} (h : valV kvs k = none) : putK kvs k v = kvs ++ [(k, v)] := by
  unfold putK
  rw [if_neg]
  rw [valV_any, h]; simp
theorem pair_back {α β : Type} {F : α → β → Prop} : ∀ {l : List α} {m : List β} {i : Nat} {y : β}, Paired F l m → m[i]? = some y → ∃ x, l[i]? = some x ∧ F x y
  | _, _, _, _, .nil, e => by simp at e
  | _, _, 0, _, .cons r _, e => by simp at e; subst e; exact ⟨_, rfl, r⟩
  | _, _, i + 1, y, .cons _ t, e => by
    obtain ⟨x, h1, h2⟩ := pair_back (i := i) (y := y) t (by simpa using e)
    exact ⟨x, by simpa using h1, h2⟩
theorem find_rl {rl : List Rl} {z : Str} (h : z ∈ rl.map (·.1)) (nd : (rl.map (·.1)).Nodup) : ∃ (i : Nat) (r : Rl), rl[i]? = some r ∧ r.1 = z ∧ rl.find? (fun r => decide (r.1 = z)) = some r := by
  obtain ⟨r, hr, e⟩ := List.mem_map.mp h
  obtain ⟨i, hi⟩ := List.getElem?_of_mem hr
  refine ⟨i, r, hi, e, ?_⟩
  cases f : rl.find? (fun r => decide (r.1 = z)) with
  | none => exact absurd (decide_eq_true e) (List.find?_eq_none.mp f r hr)
  | some q =>
    have e2 : q.1 = z := by simpa using List.find?_some f
    obtain ⟨k, hk⟩ := List.getElem?_of_mem (List.mem_of_find?_eq_some f)
    have h1 : (rl.map (·.1))[i]? = some z := by rw [List.getElem?_map, hi, ← e]; rfl
    have h2 : (rl.map (·.1))[k]? = some z := by rw [List.getElem?_map, hk, ← e2]; rfl
    have : i = k := by
      have li := (List.getElem?_eq_some_iff.mp h1).1
      exact (List.getElem?_inj li nd).mp (h1.trans h2.symm)
    subst this
    rw [hi] at hk; cases hk; rfl
end My

namespace My
open PySem L2
/-! ### the rules that _law_rules draws -/
def spLRules (K : PySem.W.Frag) : Sp := fun vs H Q _ => ∃ (d t R : Addr) (ws : List V) (rs : List Row), vs = [.ref d, .ref t, .ref R] ∧ Dr K H d t ∧ H R = some (.lst ws) ∧ R ≠ t ∧ RowsN (fun a => a ≠ t) true H ws rs ∧ rs.length ≤ 100 ∧ (mks rs).Nodup ∧
  ∀ (rl : List Rl) kvs g H', rl.map (·.1) = mks rs → (∀ r ∈ rl, r.2.2.length ≤ 3) → Dr K H' d t → But t H H' → H g = none → H' g = some (.dK kvs) → Paired (RdN t H') kvs rl → Q (.ref g) H'
section
variable {P : Program} {w : World} {K : PySem.W.Frag} {mg : Str → Option Value} {base : Heap}
set_option maxHeartbeats 16000000 in
set_option pp.maxSteps 600 in
theorem ok__law_rules (T : Txt K mg) : FnOk P w K mg base CX0 4 T.a__law_rules T.fd__law_rules ["_law_draws_here", "_law_at", "_law_rows_here"] (spLRules K) := by
  refine T.F__law_rules.ok sc__law_rules (fun vs H Q E h => ?_) (fun cdv A outer s H vs Q E hr h => ?_)
  · obtain ⟨d, t, R, ws, rs, rfl, _⟩ := h; rfl
  · obtain ⟨d, t, R, ws, rs, rfl, D0, hR, nR, rR, lr, nd, q⟩ := h
    refine ⟨_, (pss_cons (ps_set (i := 3) sc__law_rules.nd rfl (.inl rfl) (pe_dnewK))
      (pss_cons (ps_for PassesOwn.never rfl (pi_list (pv 2)) (pg_name (i := 4) sc__law_rules.nd rfl (.inl rfl)) (pss_cons (ps_set (i := 5) sc__law_rules.nd rfl (.inl rfl) (pe_cmpR op_ne (pe_call (ok__law_take T) (hr.mono (by omega)) (by rfl) T.g__law_take T.F__law_take.kp T.b__law_take .nil pass0 (pa_cons (pv 0) (pa_cons (pv 1) (pa_cons (pe_int) pa_nil)))) (pe_int) (nomark _)))
      (pss_cons (ps_set (i := 6) sc__law_rules.nd rfl (.inl rfl) (pe_ix ix_list (pe_lst (pa_cons (pe_int) (pa_cons (pe_int) (pa_cons (pe_int) (pa_cons (pe_int) (pa_cons (pe_int) pa_nil)))))) (pe_call (ok__law_take T) (hr.mono (by omega)) (by rfl) T.g__law_take T.F__law_take.kp T.b__law_take .nil pass0 (pa_cons (pv 0) (pa_cons (pv 1) (pa_cons (pe_int) pa_nil)))) (fun _ _ => rfl)))
      (pss_cons (ps_set (i := 7) sc__law_rules.nd rfl (.inl rfl) (pe_lst pa_nil))
      (pss_cons (ps_for PassesOwn.never rfl (pi_range1 (by rfl) T.n_range (pa_cons (pv 6) pa_nil)) (pg_name (i := 8) sc__law_rules.nd rfl (.inl rfl)) (pss_one (ps_expr (pe_bm PySem.F.plainAttrs_list PySem.F.slot_list_append PySem.F.type_list_append mt_append (pv 7) (pa_cons (pe_call (ok__law_way T) (hr.mono (by omega)) (by rfl) T.g__law_way T.F__law_way.kp T.b__law_way .nil pass0 (pa_cons (pv 0) (pa_cons (pv 1) pa_nil))) pa_nil)))))
      (pss_one (ps_dput (hu_of hr) (pv 3) (pe_ix ix_list (pv 4) (pe_int) (fun _ _ => rfl)) (pe_lst (pa_cons (pv 5) (pa_cons (pv 7) pa_nil))) rfl)))))))
      (pss_one (ps_ret (pv 3))))), ?_⟩
    have big : 100000 < sizeLine := by decide
    have lw := pair_len' rR
    refine fun g ng => ?_
    have s1 := same_new (o := .dK []) ng
    have ngt : g ≠ t := D0.na ng
    refine ⟨_, rfl, R, rfl, ⟨_, SqL.of (s1 _ _ hR)⟩, for_list (K := K) (a := R) (xs := ws) (fun i σ H' => ∃ (x5 x6 x7 x8 x9 : Option V) (kvs : List (Key × V)) (rl : List Rl), σ = [some (.ref d), some (.ref t), some (.ref R), some (.ref g), x5, x6, x7, x8, x9] ∧ Dr K H' d t ∧ But t H H' ∧ H' g = some (.dK kvs) ∧ Paired (RdN t H') kvs rl ∧ rl.map (·.1) = (mks rs).take i ∧ ∀ r ∈ rl, r.2.2.length ≤ 3)
      ⟨_, _, _, _, _, [], [], rfl, D0.same s1, But.of_same s1, upd_same, .nil, by rw [List.take_zero]; rfl, fun _ h => nomatch h⟩ (fun i σ H' _ ⟨_, _, _, _, _, _, _, _, _, b, _⟩ => SqL.of (b _ _ nR hR)) ?_ ?_⟩
    rotate_left
    · rintro σ H' ⟨x5, x6, x7, x8, x9, kvs, rl, rfl, D', b', hg, pk, ef, lw3⟩
      rw [lw, show rs.length = (mks rs).length by unfold mks; rw [List.length_map], List.take_length] at ef
      exact ⟨_, rfl, q rl kvs g H' ef lw3 D' b' ng hg pk⟩
    rintro i v σ H2 hv ⟨x5, x6, x7, x8, x9, kvs, rl, rfl, D2, b2, hg2, pk, ef, lw3⟩
    obtain ⟨r, hr, p, pp, rfl, npt, _, hp, _⟩ := pair_get' rR hv
    have hp : H p = some (.lst (rowL r pp)) := hp
    have hi := (List.getElem?_eq_some_iff.mp hr).1
    have hz : (mks rs)[i]? = some r.mark := by unfold mks; rw [List.getElem?_map, hr]; rfl
    have lkv : kvs.length = i := by
      have e := congrArg List.length ef
      rw [List.length_map, List.length_take] at e
      rw [pair_len' pk]
      unfold mks at e
      rw [List.length_map] at e
      omega
    refine ⟨_, rfl, _, rfl, d, t, 4, rfl, D2, by decide, fun z H3 _ _ D3 b3 => ⟨rfl, ?_⟩⟩
    refine ⟨by show 5 ≤ sizeLine; decide, fun m nm => ?_⟩
    have s4 := same_new (o := .lst [.int 1, .int 1, .int 2, .int 1, .int 0]) nm
    refine ⟨_, rfl, _, rfl, d, t, 5, rfl, D3.same s4, by decide, fun z5 H5 r0 r1 D5 b5 => ?_⟩
    obtain ⟨v, hv5, mv⟩ := at_ok (xs := [.int 1, .int 1, .int 2, .int 1, .int 0]) r0 r1
    obtain ⟨n2, rfl, hn2⟩ : ∃ n : Nat, v = .int n ∧ n ≤ 3 := by
      simp only [List.mem_cons, List.not_mem_nil, or_false] at mv
      rcases mv with rfl | rfl | rfl | rfl | rfl
      · exact ⟨1, rfl, by decide⟩
      · exact ⟨1, rfl, by decide⟩
      · exact ⟨2, rfl, by decide⟩
      · exact ⟨1, rfl, by decide⟩
      · exact ⟨0, rfl, by decide⟩
    have b25 := (b3.trans (But.of_same s4)).trans b5
    refine ⟨_, _, _, _, rfl, rfl, SqL.of (b5 _ _ (D3.na nm) upd_same), hv5, ?_⟩
    refine ⟨Nat.zero_le _, fun W hW => ?_⟩
    have nWt : W ≠ t := D5.na hW
    have D6 := D5.same (same_new (o := .lst []) hW)
    have b26 := b25.trans (But.of_same (same_new (o := .lst []) hW))
    have h6W : (upd H5 W (.lst [])) W = some (.lst []) := upd_same
    have nW2 : H2 W = none := b25.free nWt hW
    have ndW : d ≠ W := D5.nd hW
    revert D6 b26 h6W
    generalize upd H5 W (.lst []) = H6
    intro D6 b26 h6W
    generalize decide (V.int z = V.int 3) = dz
    refine ⟨_, rfl, _, rfl, by omega, by omega, for_range (lo := 0) (n := n2) (fun j σ H' => ∃ (x9 : Option V) (us : List V) (ks : List Wv), σ = [some (.ref d), some (.ref t), some (.ref R), some (.ref g), some (.ref p), some (.bl (!dz)), some (.int n2), some (.ref W), x9] ∧ Dr K H' d t ∧ But t H2 H' ∧ H' W = some (.lst us) ∧ us.length = j ∧ Paired (fun v k => LwN t H' v k ∧ ∀ q, v = .ref q → q ≠ W) us ks)
      ⟨_, [], [], rfl, D6, b26, h6W, rfl, .nil⟩ ?_ ?_⟩
    · rintro j σ H9 hj ⟨x9, us, ks, rfl, D9, b9, h9, l9, p9⟩
      refine ⟨_, rfl, .inl ⟨rfl, _, SqL.of h9⟩, _, rfl, _, rfl, d, t, rfl, D9, fun p a b c e HA adj DA bA np hp => ?_⟩
      have npW : p ≠ W := (ne_of_none h9 np).symm
      have hWA := bA _ _ nWt h9
      refine ⟨_, _, _, rfl, rfl, hWA, by omega, ?_⟩
      refine ⟨_, us ++ [.ref p], ks ++ [(a, b, c, e)], rfl, ⟨DA.ds.elim fun zs e => ⟨zs, by rw [upd_ne ndW]; exact e⟩, DA.pl.elim fun k e => ⟨k, by rw [upd_ne nWt.symm]; exact e⟩, DA.ne⟩, (b9.trans bA).mut nW2, upd_same, by rw [List.length_append, l9]; rfl, ?_⟩
      refine pair_app' (L2.Paired.mapP p9 fun v k ⟨⟨q, e1, e2, e3, e4⟩, e5⟩ => ⟨⟨q, e1, e2, by rw [upd_ne (e5 q e1)]; exact bA _ _ e2 e3, e4⟩, e5⟩) (.cons ⟨⟨p, rfl, D9.na np, by rw [upd_ne npW]; exact hp, adj⟩, fun q e => by cases e; exact npW⟩ .nil)
    rintro σ H9 ⟨x9', us, ks, rfl, D9, b9, h9W, l9, p9⟩
    have p9 : Paired (LwN t H9) us ks := L2.Paired.mapP p9 fun _ _ h => h.1
    have hp9 := b9 _ _ npt (b2 _ _ npt hp)
    have hg9 := b9 _ _ ngt hg2
    refine ⟨_, rfl, _, rfl, by show 2 ≤ sizeLine; decide, fun u nu => ?_⟩
    have sA := same_new (o := .lst [.bl (!dz), .ref W]) nu
    have hgA := sA _ _ hg9
    have nW9 := sA _ _ h9W
    have hAu : (upd H9 u (.lst [.bl (!dz), .ref W])) u = some (.lst [.bl (!dz), .ref W]) := upd_same
    have DA := D9.same sA
    have bA := (b2.trans b9).trans (But.of_same sA)
    have nut : u ≠ t := D9.na nu
    have pA : Paired (RdN t (upd H9 u (.lst [.bl (!dz), .ref W]))) kvs rl := L2.Paired.mapP pk fun _ _ h => (h.keep (.but b9)).keep (.same sA)
    have wA : Paired (LwN t (upd H9 u (.lst [.bl (!dz), .ref W]))) us ks := L2.Paired.mapP p9 fun _ _ h => h.keep (.same sA)
    have hpA := sA _ _ hp9
    revert hgA nW9 hAu DA bA pA wA hpA
    generalize upd H9 u (.lst [.bl (!dz), .ref W]) = HA
    intro hgA hWA hAu DA bA pA wA hpA
    refine ⟨_, rfl, _, rfl, _, _, _, _, rfl, rfl, SqL.of hpA, atI_nat (j := 0) rfl, g, _, rfl, DPut.k (k := .inr r.mark) hgA (by omega), ?_⟩
    have nz : r.mark ∉ rl.map (·.1) := by rw [ef]; exact fun h => (nodup_take.mp nd) i _ hz h
    rw [putK_new (rd_none pA nz)]
    have lk : LkS t HA (upd HA g (.dK (kvs ++ [(.inr r.mark, .ref u)]))) := .updD hgA
    have ng' : ∀ {a : Addr} {xs : List V}, HA a = some (.lst xs) → a ≠ g := fun h e => by rw [e, hgA] at h; cases h
    have ndg : d ≠ g := DA.ds.elim fun _ h => ng' h
    have ntg : t ≠ g := ngt.symm
    refine ⟨_, _, _, _, _, _, rl ++ [(r.mark, !dz, ks)], rfl, DA.other But.upd ndg ntg, bA.mut ng, upd_same, ?_, ?_, ?_⟩
    · refine pair_app' (L2.Paired.mapP pA fun _ _ h => h.keep lk) (.cons ⟨rfl, u, W, us, rfl, nut, lk _ _ nut hAu, nWt, lk _ _ nWt hWA, L2.Paired.mapP wA fun _ _ h => h.keep lk, by omega⟩ .nil)
    · rw [List.map_append, ef, List.take_succ, hz]; rfl
    · intro x hx
      rcases List.mem_append.mp hx with hx | hx
      · exact lw3 x hx
      · rw [List.mem_singleton.mp hx]
        show ks.length ≤ 3
        have := pair_len' p9
        omega
end
end My

namespace My
open PySem L2
def spNumber : Sp := fun vs H Q _ => ∃ (i : Nat) (n : Int), vs = [.int i, .int n] ∧ i < 4 ∧ 0 ≤ n ∧ Q (.int (need i n)) H
section
variable {P : Program} {w : World} {K : PySem.W.Frag} {mg : Str → Option Value} {base : Heap}
theorem ok__law_number (T : Txt K mg) : FnOk P w K mg base CX0 1 T.a__law_number T.fd__law_number ["_law_rank", "_law_parents"] spNumber := by
  refine T.F__law_number.ok sc__law_number (fun vs H Q E h => ?_) (fun cdv A outer s H vs Q E hr h => ?_)
  · obtain ⟨i, n, rfl, _⟩ := h; rfl
  · obtain ⟨i, n, rfl, hi, hn, q⟩ := h
    refine ⟨_, (pss_cons (ps_if (pt_cmpR op_eq (pv 0) (pe_int) (nomark _)) (pss_one (ps_ret (pe_op op_add (pe_op op_fdiv (pv 1) (pe_int)) (pe_int)))) pss_nil)
      (pss_cons (ps_if (PW.pt (pw_and (pt_cmpR op_eq (pv 0) (pe_int) (nomark _)) (pw_and1 (pt_cmpR op_gt (pv 1) (pe_int) (nomark _))))) (pss_one (ps_ret (pv 1))) pss_nil)
      (pss_cons (ps_if (pt_cmpR op_eq (pv 0) (pe_int) (nomark _)) (pss_one (ps_ret (pe_int))) pss_nil)
      (pss_one (ps_ret (pe_int)))))), ?_⟩
    rcases (by omega : i = 0 ∨ i = 1 ∨ i = 2 ∨ i = 3) with rfl | rfl | rfl | rfl
    · refine ⟨_, rfl, rfl, _, rfl, iteD (fun c => absurd c (by decide)) (fun _ => ?_)⟩
      refine ⟨_, rfl, rfl, _, rfl, iteD (fun c => absurd c (by decide)) (fun _ => ?_)⟩
      refine ⟨_, rfl, rfl, _, rfl, iteD (fun _ => q) (fun c => absurd rfl c)⟩
    · refine ⟨_, rfl, rfl, _, rfl, iteD (fun c => absurd c (by decide)) (fun _ => ?_)⟩
      refine ⟨_, rfl, rfl, _, rfl, iteD (fun c => absurd c (by decide)) (fun _ => ?_)⟩
      refine ⟨_, rfl, rfl, _, rfl, iteD (fun c => absurd c (by decide)) (fun _ => q)⟩
    · refine ⟨_, rfl, rfl, _, rfl, iteD (fun _ => ?_) (fun c => absurd rfl c)⟩
      walk_at "rd"
      exact q
    · refine ⟨_, rfl, rfl, _, rfl, iteD (fun c => absurd c (by decide)) (fun _ => ?_)⟩
      refine ⟨_, rfl, rfl, _, rfl, iteD (fun _ => ?_) (fun c => absurd rfl c)⟩
      refine ⟨_, rfl, _, _, rfl, rfl, _, rfl, iteD (fun c => ?_) (fun c => ?_)⟩
      · refine ⟨_, rfl, ?_⟩
        have e : need 3 n = n := by unfold need; simp; omega
        rw [e] at q
        exact q
      · refine ⟨_, rfl, rfl, _, rfl, iteD (fun c => absurd c (by decide)) (fun _ => ?_)⟩
        have e : need 3 n = 1 := by unfold need; simp; omega
        rw [e] at q
        exact q
end
end My

namespace My
open PySem L2
def spLShape (C : Addr) : Sp := fun vs H Q _ => ∃ (a : Addr) (us : List V) (rs : List Row), vs = [.ref a] ∧ H a = some (.lst us) ∧ RowsN (fun _ => True) true H us rs ∧ 1 ≤ us.length ∧ us.length ≤ 3 ∧ GoodC rs ∧
  ∀ x H', Same H H' → H x = none → ShN (fun a => H a = none) C H' x rs → Q (.ref x) H'
section
variable {w : World} {K : PySem.W.Frag} {mg : Str → Option Value} {base : Heap}
theorem ok__law_shape (T : Txt K mg) : FnOk PP w K mg base CX0 7 T.a__law_shape T.fd__law_shape ["_law_rows_here"] (spLShape T.c_Shape) := by
  refine T.F__law_shape.ok sc__law_shape (fun vs H Q E h => ?_) (fun cdv A outer s H vs Q E hr h => ?_)
  · obtain ⟨a, us, rs, rfl, _⟩ := h; rfl
  · obtain ⟨a, us, rs, rfl, ha, hR, l1, l3, g, q⟩ := h
    refine ⟨_, (pss_cons (ps_setLc (i := 1) (own := [("_law_row", 2)]) (g := (gName 2)) (by rfl) sc__law_shape.nd rfl rfl (sw_true rfl rfl rfl (by decide +kernel)) (pi_list (pv 0)) (blkOk_by (own := [("_law_row", 2)]) (N := ["_law_rows_here", "_law_made", "_law_row"]) (sc := defScope S__law_shape) (by decide +kernel)) (fun _ _ _ _ _ => (pg_name (i := 2) sc__law_shape.nd rfl (by first | exact .inl rfl | exact .inr rfl))) (fun _ _ _ _ _ => pts_nil) (fun _ _ _ _ _ => (pe_tup (pa_cons (pe_ix (ixLK (K := K) rfl) (pv 2) (pe_int) (fun _ _ => rfl)) (pa_cons (pe_callTy (tupleK (K := K) rfl) (by rfl) T.n_tuple (by decide +kernel) (pa_cons (pe_ix (ixLK (K := K) rfl) (pv 2) (pe_int) (fun _ _ => rfl)) pa_nil)) (pa_cons (pe_ix (ixLK (K := K) rfl) (pv 2) (pe_int) (fun _ _ => rfl)) (pa_cons (pe_ix (ixLK (K := K) rfl) (pv 2) (pe_int) (fun _ _ => rfl)) (pa_cons (pe_ix (ixLK (K := K) rfl) (pv 2) (pe_int) (fun _ _ => rfl)) pa_nil))))))))
      (pss_cons (ps_if (pt_cmpR op_eq (pe_callB call_len_seq (by rfl) T.n_len (by decide +kernel) (pa_cons (pv 1) pa_nil)) (pe_int) (nomark _)) (pss_one (ps_ret (StX.pe_makeR T.mk_Shape ((ok_Shape_init T).calm) (hr.mono (by omega)) (by rfl) T.g_Shape pass0 (pa_cons (pe_ix ix_list (pv 1) (pe_int) (fun _ _ => rfl)) pa_nil)))) pss_nil)
      (pss_cons (ps_if (pt_cmpR op_eq (pe_callB call_len_seq (by rfl) T.n_len (by decide +kernel) (pa_cons (pv 1) pa_nil)) (pe_int) (nomark _)) (pss_one (ps_ret (StX.pe_makeR T.mk_Shape ((ok_Shape_init T).calm) (hr.mono (by omega)) (by rfl) T.g_Shape pass0 (pa_cons (pe_ix ix_list (pv 1) (pe_int) (fun _ _ => rfl)) (pa_cons (pe_ix ix_list (pv 1) (pe_int) (fun _ _ => rfl)) pa_nil))))) pss_nil)
      (pss_one (ps_ret (StX.pe_makeR T.mk_Shape ((ok_Shape_init T).calm) (hr.mono (by omega)) (by rfl) T.g_Shape pass0 (pa_cons (pe_ix ix_list (pv 1) (pe_int) (fun _ _ => rfl)) (pa_cons (pe_ix ix_list (pv 1) (pe_int) (fun _ _ => rfl)) (pa_cons (pe_ix ix_list (pv 1) (pe_int) (fun _ _ => rfl)) pa_nil))))))))), ?_⟩
    have big : 100000 < sizeLine := by decide
    have lu := pair_len' hR
    refine ⟨_, rfl, a, rfl, ⟨_, SqL.of ha⟩, fun D hD => lc_list (K := K) (a := a) (xs := us) (fun i H' => ∃ ws, Same H H' ∧ H' D = some (.lst ws) ∧ RowsN (fun x => H x = none ∧ x ≠ D) false H' ws (rs.take i)) ⟨[], same_new hD, upd_same, .nil⟩ (fun i H' _ ⟨_, s, _⟩ => SqL.of (s _ _ ha)) ?_ ?_⟩
    · rintro i v H1 hv ⟨ws, s1, h1, rw1⟩
      obtain ⟨r, hr, p, pp, rfl, _, _, hp, hpp⟩ := pair_get' hR hv
      have hi := (List.getElem?_eq_some_iff.mp hr).1
      have hp : H p = some (.lst (rowL r pp)) := hp
      have hpp : H pp = some (.lst (r.pars.map V.str)) := hpp
      have hp1 := s1 _ _ hp
      have hpp1 := s1 _ _ hpp
      refine ⟨rfl, ?_⟩
      unfold tYes
      refine iteT ⟨_, rfl, _, _, _, _, rfl, rfl, SqL.of hp1, atI_nat (j := 0) rfl, ?_⟩
      refine ⟨_, rfl, _, _, _, _, rfl, rfl, SqL.of hp1, atI_nat (j := 1) rfl, pp, _, rfl, .inl ⟨SqL.of hpp1, fun E hE => ?_⟩⟩
      have s2 := same_new (o := .tup (r.pars.map V.str)) hE
      have hp2 := s2 _ _ hp1
      refine ⟨_, rfl, _, _, _, _, rfl, rfl, SqL.of hp2, atI_nat (j := 2) rfl, _, rfl, _, _, _, _, rfl, rfl, SqL.of hp2, atI_nat (j := 3) rfl, _, rfl, _, _, _, _, rfl, rfl, SqL.of hp2, atI_nat (j := 4) rfl, by show 5 ≤ sizeLine; decide, fun u hu => ?_⟩
      have s3 := s2.trans (same_new (o := .tup [.str r.mark, .ref E, .int r.least, .int r.most, .bl r.sh]) hu)
      have nuD : u ≠ D := (ne_of_none (s2 _ _ h1) hu).symm
      have nED : E ≠ D := (ne_of_none h1 hE).symm
      have lw : ws.length = i := by rw [pair_len' rw1, List.length_take]; omega
      have huE : E ≠ u := ne_of_none upd_same hu
      refine ⟨_, s3 _ _ h1, by omega, ws ++ [.ref u], same_mut (s1.trans s3) hD, upd_same, ?_⟩
      rw [List.take_succ, hr]
      refine pair_app' (rowsN_le rw1 fun x o f e => by rw [upd_ne f.2]; exact s3 _ _ e) (.cons ⟨u, E, rfl, ⟨(s1.trans s2).free hu, nuD⟩, ⟨s1.free hE, nED⟩, by rw [upd_ne nuD]; exact upd_same, by rw [upd_ne nED, upd_ne huE]; exact upd_same⟩ .nil)
    rintro H1 ⟨ws, s1, h1, rw1⟩
    rw [lu, List.take_length] at rw1
    have lw := pair_len' rw1
    have sm : ∀ r ∈ rs, small r := fun r hr => by have := g.bnd r hr; exact ⟨by omega, by omega⟩
    have fin : ∀ x H', Same H1 H' → H1 x = none → ShN (fun a => H1 a = none) T.c_Shape H' x rs → Q (.ref x) H' := fun x H' s n S => q x H' (s1.trans s) (s1.free n) (S.sub fun a f => s1.free f)
    have lw1 : 1 ≤ ws.length := by omega
    have lw3 : ws.length ≤ 3 := by omega
    clear lu l1 l3 lw
    rcases ws with _ | ⟨v0, ws⟩
    · simp at lw1
    rcases ws with _ | ⟨v1, ws⟩
    · refine ⟨_, rfl, D, _, rfl, .inl (SqL.of h1), rfl, _, rfl, iteYes (decide_eq_true rfl) ?_⟩
      exact ⟨_, rfl, _, _, _, _, rfl, rfl, SqL.of h1, atI_nat (j := 0) rfl, make_sh (rowsN_toV rw1) (by simp) sm (fun _ => fin) (fun e c v f du => (due_good g.g du).elim)⟩
    rcases ws with _ | ⟨v2, ws⟩
    · refine ⟨_, rfl, D, _, rfl, .inl (SqL.of h1), rfl, _, rfl, iteNo (decide_eq_false fun z => by simp at z) ⟨_, rfl, D, _, rfl, .inl (SqL.of h1), rfl, _, rfl, iteYes (decide_eq_true rfl) ?_⟩⟩
      exact ⟨_, rfl, _, _, _, _, rfl, rfl, SqL.of h1, atI_nat (j := 0) rfl, _, rfl, _, _, _, _, rfl, rfl, SqL.of h1, atI_nat (j := 1) rfl, make_sh (rowsN_toV rw1) (by simp) sm (fun _ => fin) (fun e c v f du => (due_good g.g du).elim)⟩
    obtain rfl : ws = [] := by cases ws with | nil => rfl | cons => simp at lw3
    refine ⟨_, rfl, D, _, rfl, .inl (SqL.of h1), rfl, _, rfl, iteNo (decide_eq_false fun z => by simp at z) ⟨_, rfl, D, _, rfl, .inl (SqL.of h1), rfl, _, rfl, iteNo (decide_eq_false fun z => by simp at z) ?_⟩⟩
    exact ⟨_, rfl, _, _, _, _, rfl, rfl, SqL.of h1, atI_nat (j := 0) rfl, _, rfl, _, _, _, _, rfl, rfl, SqL.of h1, atI_nat (j := 1) rfl, _, rfl, _, _, _, _, rfl, rfl, SqL.of h1, atI_nat (j := 2) rfl, make_sh (rowsN_toV rw1) (by simp) sm (fun _ => fin) (fun e c v f du => (due_good g.g du).elim)⟩
end
end My

namespace My
open PySem L2
/-! ### rows with one parent more -/
def WdR (H0 : Hp) (t : Addr) (H : Hp) (p : Addr) (r : Row) : Prop := H0 p = none ∧ ∃ pp, pp ≠ t ∧ H0 pp = some (.lst (r.pars.map V.str)) ∧ H p = some (.lst (rowL r pp))
def Wd (q r : Row) : Prop := q = r ∨ (0 < r.most ∧ q = { r with most := r.most + 1 })
theorem Wd.refl (r : Row) : Wd r r := .inl rfl
theorem wd_refl : ∀ rs : List Row, Paired Wd rs rs
  | [] => .nil
  | r :: rs => .cons (.refl r) (wd_refl rs)
theorem WdR.keep {H0 H H' : Hp} {t p : Addr} {r : Row} (h : WdR H0 t H p r) (e : ∀ o, H p = some o → H' p = some o) : WdR H0 t H' p r := let ⟨a, pp, b, c, d⟩ := h; ⟨a, pp, b, c, e _ d⟩
theorem pair_set {α β : Type} {F : α → β → Prop} {x : β} : ∀ {l : List α} {m : List β} {i : Nat}, Paired F l m → (∀ y, l[i]? = some y → F y x) → Paired F l (m.set i x)
  | _, _, _, .nil, _ => .nil
  | _ :: _, _ :: _, 0, .cons h t, g => .cons (g _ rfl) t
  | _ :: _, _ :: _, i + 1, .cons h t, g => .cons h (pair_set t fun y e => g y (by simpa using e))
theorem pair_set' {α β : Type} {F : α → β → Prop} {x : α} : ∀ {l : List α} {m : List β} {i : Nat}, Paired F l m → (∀ y, m[i]? = some y → F x y) → Paired F (l.set i x) m
  | _, _, _, .nil, _ => .nil
  | _ :: _, _ :: _, 0, .cons h t, g => .cons (g _ rfl) t
  | _ :: _, _ :: _, i + 1, .cons h t, g => .cons h (pair_set' t fun y e => g y (by simpa using e))
theorem wd_keep {H0 H H' : Hp} {t : Addr} : ∀ {ps : List Addr} {qs : List Row}, Paired (WdR H0 t H) ps qs → (∀ p ∈ ps, ∀ o, H p = some o → H' p = some o) → Paired (WdR H0 t H') ps qs
  | _, _, .nil, _ => .nil
  | a :: _, _ :: _, .cons h t, g => .cons (h.keep (g a (by simp))) (wd_keep t fun p hp => g p (by simp [hp]))
theorem wd_rows {H0 H : Hp} {t : Addr} (na : ∀ a, H0 a = none → a ≠ t) (b : But t H0 H) : ∀ {ps : List Addr} {qs : List Row}, Paired (WdR H0 t H) ps qs → RowsN (fun a => a ≠ t) true H (ps.map V.ref) qs
  | _, _, .nil => .nil
  | a :: _, _ :: _, .cons ⟨x, pp, y, z, u⟩ t => .cons ⟨a, pp, rfl, na a x, y, u, b _ _ y z⟩ (wd_rows na b t)
theorem wd_upd {H0 H : Hp} {t p pp : Addr} {r' : Row} : ∀ {ps : List Addr} {qs : List Row} {i : Nat}, Paired (WdR H0 t H) ps qs → ps.Nodup → ps[i]? = some p → H0 p = none → pp ≠ t → H0 pp = some (.lst (r'.pars.map V.str)) → Paired (WdR H0 t (upd H p (.lst (rowL r' pp)))) ps (qs.set i r') := by
  intro ps qs i h nd e n0 npp hpp
  have all : ∀ {ps : List Addr} {qs : List Row}, Paired (WdR H0 t H) ps qs → p ∉ ps → Paired (WdR H0 t (upd H p (.lst (rowL r' pp)))) ps qs := fun h => by
    induction h with
    | nil => intro _; exact .nil
    | @cons a b as bs h t ih =>
      intro n
      rw [List.mem_cons, not_or] at n
      exact .cons (h.keep fun o e => by rw [upd_ne (fun z => n.1 z.symm)]; exact e) (ih n.2)
  induction h generalizing i with
  | nil => exact .nil
  | @cons a b as bs h t ih =>
    have nd := List.nodup_cons.mp nd
    cases i with
    | zero =>
      obtain rfl : a = p := by simpa using e
      exact .cons ⟨n0, pp, npp, hpp, upd_same⟩ (all t nd.1)
    | succ i =>
      have e : as[i]? = some p := by simpa using e
      have na : a ≠ p := fun z => nd.1 (z ▸ List.mem_of_getElem? e)
      exact .cons (h.keep fun o e => by rw [upd_ne na]; exact e) (ih nd.2 e)
theorem wd_good {qs rs : List Row} (g : GoodC rs) (m3 : ∀ r ∈ rs, r.most ≤ 3) (h : Paired Wd qs rs) : GoodC qs := by
  have em : mks qs = mks rs := by
    clear g m3
    induction h with
    | nil => rfl
    | @cons q r qs rs h t ih =>
      show q.mark :: mks qs = r.mark :: mks rs
      rw [ih]
      rcases h with rfl | ⟨_, rfl⟩ <;> rfl
  have alk : ∀ {q r : Row}, Wd q r → q.mark = r.mark ∧ q.least = r.least ∧ q.pars = r.pars := fun h => by rcases h with rfl | ⟨_, rfl⟩ <;> exact ⟨rfl, rfl, rfl⟩
  refine g.alike (by rw [pair_len' h]; exact g.len) (by rw [em]; exact g.nd) (fun q hq => ?_) (fun r hr => ?_)
  · obtain ⟨i, hi⟩ := List.mem_iff_getElem?.mp hq
    obtain ⟨r, hr, w⟩ := pair_get' h hi
    have mr := List.mem_of_getElem? hr
    refine ⟨?_, r, mr, (alk w).1, (alk w).2.2⟩
    have m := m3 r mr
    obtain ⟨a, b, c, d⟩ := g.row r mr
    rcases w with rfl | ⟨p, rfl⟩
    · exact ⟨a, b, c, d⟩
    · refine ⟨a, ?_, ?_, d⟩
      · unfold sizeB at b ⊢
        simp only [Bool.and_eq_true, decide_eq_true_iff] at b ⊢
        omega
      · rw [beq_iff_eq] at c ⊢
        rw [← c, decide_eq_true p, decide_eq_true_iff]
        show 0 < r.most + 1
        omega
  · obtain ⟨i, hi⟩ := List.mem_iff_getElem?.mp hr
    have l := pair_len' h
    have hl := (List.getElem?_eq_some_iff.mp hi).1
    obtain ⟨r', hr', w⟩ := pair_get' h (List.getElem?_eq_getElem (by omega : i < qs.length))
    rw [hi] at hr'
    obtain rfl := Option.some.inj hr'
    exact ⟨qs[i], List.getElem_mem _, alk w⟩
def spLWider (K : PySem.W.Frag) : Sp := fun vs H Q _ => ∃ (d t R : Addr) (ws : List V) (rs : List Row), vs = [.ref d, .ref t, .ref R] ∧ Dr K H d t ∧ H R = some (.lst ws) ∧ R ≠ t ∧ RowsN (fun a => a ≠ t) true H ws rs ∧ rs.length ≤ 100 ∧
  ∀ (qs : List Row) us p H', Paired Wd qs rs → Dr K H' d t → But t H H' → H p = none → H' p = some (.lst us) → RowsN (fun a => a ≠ t) true H' us qs → Q (.ref p) H'
section
variable {P : Program} {w : World} {K : PySem.W.Frag} {mg : Str → Option Value} {base : Heap}
set_option maxHeartbeats 16000000 in
set_option pp.maxSteps 600 in
theorem ok__law_wider (T : Txt K mg) : FnOk P w K mg base CX0 2 T.a__law_wider T.fd__law_wider ["_law_draws_here", "_law_at", "_law_rows_here"] (spLWider K) := by
  refine T.F__law_wider.ok sc__law_wider (fun vs H Q E h => ?_) (fun cdv A outer s H vs Q E hr h => ?_)
  · obtain ⟨d, t, R, ws, rs, rfl, _⟩ := h; rfl
  · obtain ⟨d, t, R, ws, rs, rfl, D0, hR, nR, rR, lr, q⟩ := h
    refine ⟨_, (pss_cons (ps_setLc (i := 3) (own := [("_law_row", 4)]) (g := (gName 4)) (by rfl) sc__law_wider.nd rfl rfl (sw_true rfl rfl rfl (by decide +kernel)) (pi_list (pv 2)) (blkOk_by (own := [("_law_row", 4)]) (N := ["_law_draws_here", "_law_at", "_law_rows_here", "_law_wide", "_law_row"]) (sc := defScope S__law_wider) (by decide +kernel)) (fun _ _ _ _ _ => (pg_name (i := 4) sc__law_wider.nd rfl (by first | exact .inl rfl | exact .inr rfl))) (fun _ _ _ _ _ => pts_nil) (fun _ _ _ _ _ => (pe_callTy (listK (K := K) rfl) (by rfl) T.n_list (by decide +kernel) (pa_cons (pv 4) pa_nil))))
      (pss_cons (ps_for PassesOwn.never rfl (pi_list (pv 3)) (pg_name (i := 4) sc__law_wider.nd rfl (.inl rfl)) (pss_one (ps_if (PW.pt (pw_and (pt_cmpR op_gt (pe_ix ix_list (pv 4) (pe_int) (fun _ _ => rfl)) (pe_int) (nomark _)) (pw_and1 (pt_cmpR op_eq (pe_call (ok__law_take T) (hr.mono (by omega)) (by rfl) T.g__law_take T.F__law_take.kp T.b__law_take .nil pass0 (pa_cons (pv 0) (pa_cons (pv 1) (pa_cons (pe_int) pa_nil)))) (pe_int) (nomark _))))) (pss_one (ps_asg (pe_op op_add (pe_ix ix_list (pv 4) (pe_int) (fun _ _ => rfl)) (pe_int)) (pg_sub (pv 4) (pe_int) set_list))) pss_nil)))
      (pss_one (ps_ret (pv 3))))), ?_⟩
    have big : 100000 < sizeLine := by decide
    have lw := pair_len' rR
    refine ⟨_, rfl, R, rfl, ⟨_, SqL.of hR⟩, fun D hD => lc_list (K := K) (a := R) (xs := ws) (fun i H' => ∃ ps : List Addr, Same H H' ∧ H' D = some (.lst (ps.map V.ref)) ∧ ps.Nodup ∧ (∀ p ∈ ps, (∃ o, H' p = some o) ∧ p ≠ D) ∧ Paired (WdR H t H') ps (rs.take i)) ⟨[], same_new hD, upd_same, List.nodup_nil, (fun _ h => nomatch h), .nil⟩ (fun i H' _ ⟨_, s, _⟩ => SqL.of (s _ _ hR)) ?_ ?_⟩
    · rintro i v H1 hv ⟨ps, s1, h1, nd, al, pr⟩
      obtain ⟨r, hr, p, pp, rfl, _, npp, hp, hpp⟩ := pair_get' rR hv
      have hp : H p = some (.lst (rowL r pp)) := hp
      have hpp : H pp = some (.lst (r.pars.map V.str)) := hpp
      have hi := (List.getElem?_eq_some_iff.mp hr).1
      have lps : ps.length = i := by rw [pair_len' pr, List.length_take]; omega
      refine ⟨rfl, ?_⟩
      unfold tYes
      refine iteT ⟨_, rfl, p, _, rfl, .inl (SqL.of (s1 _ _ hp)), fun u nu => ?_⟩
      have nuD : u ≠ D := (ne_of_none h1 nu).symm
      have s2 := same_new (o := .lst (rowL r pp)) nu
      refine ⟨_, s2 _ _ h1, by rw [List.length_map]; omega, ps ++ [u], same_mut (s1.trans s2) hD, by rw [upd_same, List.map_append]; rfl, ?_, ?_, ?_⟩
      · refine List.nodup_append.mpr ⟨nd, by simp, fun a ha b hb e => ?_⟩
        rw [List.mem_singleton] at hb
        obtain ⟨⟨o, ho⟩, _⟩ := al a ha
        rw [e, hb, nu] at ho; cases ho
      · intro a ha
        rcases List.mem_append.mp ha with ha | ha
        · obtain ⟨⟨o, ho⟩, n⟩ := al a ha
          exact ⟨⟨o, by rw [upd_ne n]; exact s2 _ _ ho⟩, n⟩
        · rw [List.mem_singleton.mp ha]
          exact ⟨⟨_, by rw [upd_ne nuD]; exact upd_same⟩, nuD⟩
      · rw [List.take_succ, hr, Option.toList_some]
        have n1 : ∀ a ∈ ps, a ≠ D := fun a ha => (al a ha).2
        have pr' : Paired (WdR H t (upd (upd H1 u (.lst (rowL r pp))) D (.lst (ps.map V.ref ++ [.ref u])))) ps (rs.take i) := wd_keep pr fun a ha o e => by rw [upd_ne (n1 a ha)]; exact s2 _ _ e
        refine pair_app' pr' (.cons ⟨s1.free nu, pp, npp, hpp, ?_⟩ .nil)
        rw [upd_ne nuD]; exact upd_same
    rintro H1 ⟨ps, s1, h1, nd, al, pr⟩
    rw [lw, List.take_length] at pr
    have lps := pair_len' pr
    have nDt : D ≠ t := D0.na hD
    have f0 : ∀ p ∈ ps, H p = none := fun p hp => by
      obtain ⟨i, hi⟩ := List.mem_iff_getElem?.mp hp
      obtain ⟨_, _, w⟩ := pair_get' pr hi
      exact w.1
    have nDp : ∀ p ∈ ps, p ≠ D := fun p hp => (al p hp).2
    refine ⟨_, rfl, D, rfl, ⟨_, SqL.of h1⟩, for_list (K := K) (a := D) (xs := ps.map V.ref) (fun i σ H' => ∃ (x5 : Option V) (qs : List Row), σ = [some (.ref d), some (.ref t), some (.ref R), some (.ref D), x5] ∧ Dr K H' d t ∧ But t H H' ∧ H' D = some (.lst (ps.map V.ref)) ∧ Paired (WdR H t H') ps qs ∧ Paired Wd qs rs ∧ qs.drop i = rs.drop i) ⟨_, rs, rfl, D0.same s1, But.of_same s1, h1, pr, wd_refl rs, rfl⟩ (fun i σ H' _ ⟨_, _, _, _, _, h, _⟩ => SqL.of h) ?_ ?_⟩
    · rintro i v σ H2 hv ⟨x5, qs, rfl, D2, b2, h2, pr2, wd2, dr2⟩
      rw [List.getElem?_map] at hv
      obtain ⟨p, hp⟩ : ∃ p, ps[i]? = some p := by
        cases e : ps[i]? with
        | none => rw [e] at hv; cases hv
        | some p => exact ⟨p, rfl⟩
      rw [hp] at hv
      obtain rfl := Option.some.inj hv
      obtain ⟨r, hr, n0, pp, npp, hpp, hrow⟩ := pair_get' pr2 hp
      have hi := (List.getElem?_eq_some_iff.mp hr).1
      have er : rs[i]? = some r := by
        have e := congrArg (fun l : List Row => l[0]?) dr2
        simpa [hr] using e.symm
      have npt : p ≠ t := D0.na n0
      have nx : ∀ {H3 : Hp}, But t H2 H3 → H3 D = some (.lst (ps.map V.ref)) ∧ Paired (WdR H t H3) ps qs := fun b3 => ⟨b3 _ _ nDt h2, L2.Paired.mapP pr2 fun a _ ⟨x, pp, y, z, u⟩ => ⟨x, pp, y, z, b3 _ _ (D0.na x) u⟩⟩
      have dr3 : qs.drop (i + 1) = rs.drop (i + 1) := by
        have e := congrArg (List.drop 1) dr2
        simpa [List.drop_drop, Nat.add_comm] using e
      refine ⟨_, rfl, _, _, _, _, rfl, rfl, SqL.of hrow, atI_nat (j := 3) rfl, _, _, rfl, rfl, _, rfl, iteD (fun c => ?_) (fun c => ?_)⟩
      · refine ⟨_, rfl, _, rfl, d, t, 4, rfl, D2, by decide, fun z H3 _ _ D3 b3 => ⟨rfl, _, rfl, iteD (fun c3 => ?_) (fun c3 => ?_)⟩⟩
        · obtain ⟨h3, pr3⟩ := nx b3
          have hrow3 := b3 _ _ npt hrow
          refine ⟨_, rfl, _, _, _, _, rfl, rfl, SqL.of hrow3, atI_nat (j := 3) rfl, _, _, rfl, rfl, _, rfl, _, _, _, 3, rfl, rfl, hrow3, rfl, ?_⟩
          have npD : D ≠ p := (nDp p (List.mem_of_getElem? hp)).symm
          refine ⟨_, qs.set i { r with most := r.most + 1 }, rfl, D3.other But.upd (D0.nd n0) npt.symm, (b2.trans b3).mut n0, by rw [upd_ne npD]; exact h3, wd_upd (r' := { r with most := r.most + 1 }) pr3 nd hp n0 npp hpp, ?_, ?_⟩
          · refine pair_set' wd2 fun y hy => ?_
            rw [er] at hy
            obtain rfl := Option.some.inj hy
            exact .inr ⟨by simpa using c, rfl⟩
          · rw [List.drop_set_of_lt (by omega)]; exact dr3
        · obtain ⟨h3, pr3⟩ := nx b3
          exact ⟨_, qs, rfl, D3, b2.trans b3, h3, pr3, wd2, dr3⟩
      · exact ⟨_, qs, rfl, D2, b2, h2, pr2, wd2, dr3⟩
    · rintro σ H2 ⟨x5, qs, rfl, D2, b2, h2, pr2, wd2, _⟩
      refine ⟨_, rfl, q qs _ D H2 wd2 D2 b2 hD h2 ?_⟩
      exact wd_rows (fun _ e => D0.na e) b2 pr2
end
end My

namespace My
open PySem L2
/-! ### the policy of a shape and rules -/
theorem fold_self {rl : List Rl} {rs : List Row} (nd : (mks rs).Nodup) (ef : rl.map (·.1) = mks rs) : rl.foldl setR (emptyR rs) = rl := by
  have nd' : (rl.map (·.1)).Nodup := by rw [ef]; exact nd
  have hf : ∀ z, ((fun z => (lookR rl z).getD (z, false, [])) z).1 = z := fun z => by
    show ((lookR rl z).getD (z, false, [])).1 = z
    cases e : lookR rl z with
    | none => rfl
    | some r => exact of_decide_eq_true (List.find?_some (p := fun r : Rl => decide (r.1 = z)) e)
  have e : (mks rs).map (fun z => (lookR rl z).getD (z, false, [])) = rl := by
    rw [← ef, List.map_map]
    refine List.ext_getElem? fun i => ?_
    rw [List.getElem?_map]
    cases h : rl[i]? with
    | none => rfl
    | some r =>
      show some ((lookR rl r.1).getD (r.1, false, [])) = some r
      rw [look_at nd' h]; rfl
  have f := fold_all _ hf rs
  rw [e] at f
  exact f
def spLPolicy (C Cw Cs : Addr) : Sp := fun vs H Q _ => ∃ (x g : Addr) (rs : List Row) (kvs : List (Key × V)) (rl : List Rl), vs = [.ref x, .ref g] ∧ ShO Cs H x rs ∧ (mks rs).Nodup ∧ rs.length ≤ 100 ∧ H g = some (.dK kvs) ∧ Paired (RdV H) kvs rl ∧ rl.map (·.1) = mks rs ∧
  ∀ y m a b H', Same H H' → H y = none → H m = none → H a = none → H b = none → Pol C Cw H' y x m a b rl → Q (.ref y) H'
section
variable {w : World} {K : PySem.W.Frag} {mg : Str → Option Value} {base : Heap}
set_option maxHeartbeats 16000000 in
set_option pp.maxSteps 600 in
theorem ok__law_policy (T : Txt K mg) : FnOk PP w K mg base CX0 10 T.a__law_policy T.fd__law_policy ["_law_shape_here", "_law_rules_here"] (spLPolicy T.c_Policy T.c_Way T.c_Shape) := by
  refine T.F__law_policy.ok sc__law_policy (fun vs H Q E h => ?_) (fun cdv A outer s H vs Q E hr h => ?_)
  · obtain ⟨x, g, rs, kvs, rl, rfl, _⟩ := h; rfl
  · obtain ⟨x, g, rs, kvs, rl, rfl, hS, nd, lr, hg, pk, ef, q⟩ := h
    refine ⟨_, (pss_cons (ps_set (i := 2) sc__law_policy.nd rfl (.inl rfl) (pe_make T.mk_Policy (ok_Policy_init T) (hr.mono (by omega)) (by rfl) T.g_Policy T.kb_Policy_init_2.choose_spec.2 T.kb_Policy_init_2.choose_spec.1 pass0 (pa_cons (pv 0) pa_nil)))
      (pss_cons (ps_lock (ps_for PassesOwn.never rfl (pi_keys (pv 1)) (pg_name (i := 3) sc__law_policy.nd rfl (.inl rfl)) (pss_one (ps_asg (pe_tup (pa_cons (pe_ix ix_list (pe_dget (hu_of hr) (pv 1) (pv 3) (fun _ _ => rfl)) (pe_int) (fun _ _ => rfl)) (pa_cons (pe_callTy call_tuple_of (by rfl) T.n_tuple (by decide +kernel) (pa_cons (pe_lc (own := [("_law_way_here", 4)]) (g := (gName 4)) (by rfl) sc__law_policy.nd (pi_list (pe_ix ix_list (pe_dget (hu_of hr) (pv 1) (pv 3) (fun _ _ => rfl)) (pe_int) (fun _ _ => rfl))) (blkOk_by (own := [("_law_way_here", 4)]) (N := ["_law_shape_here", "_law_rules_here", "_law_policy_here", "_law_mark", "_law_way_here"]) (sc := defScope S__law_policy) (by decide +kernel)) (fun _ _ _ _ _ => (pg_name (i := 4) sc__law_policy.nd rfl (by first | exact .inl rfl | exact .inr rfl))) (fun _ _ _ _ _ => pts_nil) (fun _ _ _ _ _ => (pe_call (ok__law_way_made T) (hr.mono (by omega)) (by rfl) T.g__law_way_made T.F__law_way_made.kp T.b__law_way_made .nil pass0 (pa_cons (pv 4) pa_nil)))) pa_nil)) pa_nil))) (pg_sub (pv 2) (pv 3) (set_own T.m_Policy_setitem T.nq_Policy (ok_Policy_setitem T) (hr.mono (by omega)) T.b_Policy_setitem pass0))))))
      (pss_one (ps_ret (pv 2))))), ?_⟩
    have big : 100000 < sizeLine := by decide
    have lmk : (mks rs).length = rs.length := by unfold mks; rw [List.length_map]
    have lrl : rl.length = rs.length := by
      have e := congrArg List.length ef
      rw [List.length_map, lmk] at e; exact e
    have lkv := pair_len' pk
    have ndl : (rl.map (·.1)).Nodup := by rw [ef]; exact nd
    refine ⟨_, rfl, fun y dy ny ndy ne => ⟨y, dy, x, _, rs, rfl, upd_same, hS.same (same_make ny ndy (But.refl _ _)), nd, lr, T.qe_Policy_init_0, fun m a b H2 b2 nm na nb P2 => ⟨rfl, ?_⟩⟩⟩
    have s2 := same_make ny ndy b2
    have fm : H m = none := free_make ny ndy ne nm
    have fa : H a = none := free_make ny ndy ne na
    have fb : H b = none := free_make ny ndy ne nb
    clear b2 nm na nb ne ndy
    refine ⟨g, _, s2 _ _ hg, trivial, fun od => ?_⟩
    have nyg : y ≠ g := (ne_of_none hg ny).symm
    have nmg : m ≠ g := (ne_of_none hg fm).symm
    have nag : a ≠ g := (ne_of_none hg fa).symm
    have nbg : b ≠ g := (ne_of_none hg fb).symm
    have pup : ∀ {o : HO} {H3 : Hp} {rl : List Rl}, (∀ kv, H3 g ≠ some (.tup kv)) → (∀ c d f, H3 g ≠ some (.ins c d f)) → Pol T.c_Policy T.c_Way H3 y x m a b rl → Pol T.c_Policy T.c_Way (upd H3 g o) y x m a b rl := fun {o H3 rl} nt ni P => P.le (A := [g]) (fun c o n e => by rw [upd_ne (by simpa using n)]; exact e) (fun c o' e t => by
      rw [upd_ne (fun z => by
        rw [z] at e
        rcases t with ⟨_, t⟩ | ⟨_, _, _, _, _, t⟩
        · exact nt _ (t ▸ e)
        · exact ni _ _ _ (t ▸ e))]; exact e) (fun c hc => by
      simp only [List.mem_cons, List.not_mem_nil, or_false] at hc ⊢
      rcases hc with rfl | rfl | rfl | rfl
      · exact nyg
      · exact nmg
      · exact nag
      · exact nbg)
    have hg2 := s2 _ _ hg
    refine ⟨_, rfl, g, od, rfl, .inl ⟨kvs, upd_same, for_it walk_keys (fun i σ H' => ∃ x3 : Option V, σ = [some (.ref x), some (.ref g), some (.ref y), x3, none] ∧ But g H H' ∧ H' g = some (.frz od (.dK kvs)) ∧ Pol T.c_Policy T.c_Way H' y x m a b ((rl.take i).foldl setR (emptyR rs))) ⟨_, rfl, fun c o n e => by rw [upd_ne n]; exact s2 _ _ e, upd_same, pup (fun _ e => by rw [hg2] at e; cases e) (fun _ _ _ e => by rw [hg2] at e; cases e) P2⟩ (fun i σ H' _ ⟨_, _, _, h, _⟩ => h) ?_ ?_⟩⟩
    · rintro i v σ H3 H4 hi ⟨x3, rfl, b3, f3, P3⟩ ⟨rfl, k, v', ek, rfl⟩
      obtain ⟨r, hr, ek1, _⟩ := pair_get' pk ek
      have ek1 : k = .inr r.1 := ek1
      subst ek1
      obtain ⟨kv, ev, _, q0, p0, us, eq0, hq0, hp0, pw, lus⟩ := val_rd pk ndl hr
      have dg : ∀ {H5 : Hp}, Same H4 H5 → DGet H5 g (.str r.1) (some (.ref q0)) := fun s => .inl ⟨kvs, .inr r.1, .inr ⟨od, s _ _ f3⟩, rfl, by rw [ev, eq0]⟩
      have hq3 := b3 _ _ (fun z => by rw [z, hg] at hq0; cases hq0) hq0
      have hp3 := b3 _ _ (fun z => by rw [z, hg] at hp0; cases hp0) hp0
      refine ⟨_, rfl, _, rfl, g, _, rfl, dg (Same.refl _), _, _, _, _, rfl, rfl, SqL.of hq3, atI_nat (j := 0) rfl, ?_⟩
      refine ⟨_, rfl, _, rfl, g, _, rfl, dg (Same.refl _), _, _, _, _, rfl, rfl, SqL.of hq3, atI_nat (j := 1) rfl, p0, rfl, ⟨_, SqL.of hp3⟩, fun D hD => lc_list (K := K) (a := p0) (xs := us) (fun i H' => ∃ vs, Same H4 H' ∧ H' D = some (.lst vs) ∧ Paired (WyV T.c_Way H') vs (r.2.2.take i)) ⟨[], same_new hD, upd_same, .nil⟩ (fun i H' _ ⟨_, s, _⟩ => SqL.of (s _ _ hp3)) ?_ ?_⟩
      · rintro i v H5 hv ⟨vs, s5, h5, pr⟩
        obtain ⟨k, hk, q1, rfl, hq1, aj⟩ := pair_get' pw hv
        have hi := (List.getElem?_eq_some_iff.mp hv).1
        have hq3 := b3 _ _ (fun z => by rw [z, hg] at hq1; cases hq1) hq1
        refine ⟨rfl, ?_⟩
        unfold tYes
        refine iteT ⟨_, rfl, q1, k.1, k.2.1, k.2.2.1, k.2.2.2, rfl, aj, SqL.of (s5 _ _ hq3), fun z H6 s6 nz wz => ?_⟩
        have h6 := s6 _ _ h5
        have kk : Kw T.c_Way H6 (upd H6 D (.lst (vs ++ [.ref z]))) := .upd h6 fun t => by rcases t with ⟨_, e⟩ | ⟨_, _, _, _, _, e⟩ <;> cases e
        refine ⟨vs, h6, by rw [pair_len' pr, List.length_take]; omega, vs ++ [.ref z], same_mut (s5.trans s6) hD, upd_same, ?_⟩
        rw [List.take_succ, hk]
        exact pair_app' (L2.Paired.mapP pr fun _ _ h => (h.keep (.same s6)).keep kk) (.cons (WyV.keep ⟨z, rfl, wz⟩ kk) .nil)
      rintro H5 ⟨vs, s5, h5, pr⟩
      rw [pair_len' pw, List.take_length] at pr
      refine ⟨D, _, rfl, .inl ⟨SqL.of h5, fun u nu => ⟨by show 2 ≤ sizeLine; decide, fun u2 nu2 => ?_⟩⟩⟩
      have s6 := same_new (o := .tup vs) nu
      have s7 := same_new (o := .tup [.bl r.2.1, .ref u]) nu2
      have w7 : WysT T.c_Way (upd (upd H5 u (.tup vs)) u2 (.tup [.bl r.2.1, .ref u])) u r.2.2 := ⟨vs, s7 _ _ upd_same, L2.Paired.mapP pr fun _ _ h => h.keep (.same (s6.trans s7))⟩
      have hu2 : (upd (upd H5 u (.tup vs)) u2 (.tup [.bl r.2.1, .ref u])) u2 = some (.tup [.bl r.2.1, .ref u]) := upd_same
      have s47 := s5.trans (s6.trans s7)
      revert w7 hu2 s47
      generalize upd (upd H5 u (.tup vs)) u2 (.tup [.bl r.2.1, .ref u]) = H7
      intro w7 hu2 s47
      have P7 := P3.same s47
      obtain ⟨dy7, hy7⟩ := P7.obj
      have lf : ((rl.take i).foldl setR (emptyR rs)).map (·.1) = mks rs := by
        rw [setRs_fst]; unfold emptyR; rw [List.map_map]; exact List.map_id _
      have ll : ((rl.take i).foldl setR (emptyR rs)).length = rs.length := by
        have e := congrArg List.length lf
        rw [List.length_map, lmk] at e; exact e
      have mz : r.1 ∈ ((rl.take i).foldl setR (emptyR rs)).map (·.1) := by
        rw [lf, ← ef]; exact List.mem_map.mpr ⟨r, List.mem_of_getElem? hr, rfl⟩
      have f7 := s47 _ _ f3
      refine ⟨_, rfl, _, rfl, y, dy7, _, rfl, hy7, y, x, m, a, b, u2, u, _, r.1, r.2.1, r.2.2, rfl, P7, by omega, mz, hu2, w7, fun H8 le8 kw8 P8 => ?_⟩
      have le7 : ∀ c o, c ≠ g → H c = some o → H8 c = some o := fun c o n e => le8 _ _ (by
        simp only [List.mem_cons, List.not_mem_nil, or_false, not_or]
        exact ⟨ne_of_none e fa, ne_of_none e fb⟩) (s47 _ _ (b3 _ _ n e))
      refine ⟨_, rfl, le7, le8 _ _ (by
        simp only [List.mem_cons, List.not_mem_nil, or_false, not_or]
        exact ⟨nag.symm, nbg.symm⟩) f7, ?_⟩
      rw [List.take_succ, hr, Option.toList_some, List.foldl_append]
      exact P8
    rintro σ H3 ⟨x3, rfl, b3, f3, P3⟩
    rw [lkv, List.take_length, fold_self nd ef] at P3
    refine ⟨f3, _, rfl, ?_⟩
    refine q y m a b _ (fun c o e => ?_) ny fm fa fb (pup (fun _ e => by rw [f3] at e; cases e) (fun _ _ _ e => by rw [f3] at e; cases e) P3)
    by_cases n : c = g
    · rw [n, upd_same, ← hg, ← n, e]
    · rw [upd_ne n]; exact b3 c o n e
end
end My

namespace My
open PySem L2
/-! ### kinds, supplies, what fits -/
abbrev Kd := Str × Str
def KdV (H : Hp) (v : V) (k : Kd) : Prop := ∃ p, v = .ref p ∧ H p = some (.tup [.str k.1, .str k.2])
theorem KdV.same {H H' : Hp} {v : V} {k : Kd} (h : KdV H v k) (s : Same H H') : KdV H' v k := let ⟨p, e, f⟩ := h; ⟨p, e, s _ _ f⟩
def kds (z : Str) (sh : Bool) : List Kd := if sh then [(z, "own"), (z, "share")] else [(z, "own")]
def shB (rs : List Row) (z : Str) : Bool := ((findR rs z).map (·.sh)).getD false
def kindsOf (rs : List Row) (rl : List Rl) : List Kd := rl.flatMap fun q => if q.2.1 then kds q.1 (shB rs q.1) else []
theorem flat_filter {α β : Type} (p : α → Bool) (f : α → List β) : ∀ l : List α, (l.filter p).flatMap f = l.flatMap fun a => if p a then f a else []
  | [] => rfl
  | a :: l => by
    cases e : p a with
    | true => rw [List.filter_cons_of_pos e, List.flatMap_cons, List.flatMap_cons, flat_filter p f l, e]; rfl
    | false => rw [List.filter_cons_of_neg (by rw [e]; exact Bool.false_ne_true), List.flatMap_cons, flat_filter p f l, e]; rfl
theorem findR_nd : ∀ {rs : List Row} {i : Nat} {r : Row}, (mks rs).Nodup → rs[i]? = some r → findR rs r.mark = some r
  | [], _, _, _, e => by simp at e
  | q :: rs, 0, r, _, e => by
    obtain rfl : q = r := by simpa using e
    unfold findR
    rw [List.find?_cons, decide_eq_true rfl]
  | q :: rs, i + 1, r, nd, e => by
    have e : rs[i]? = some r := by simpa using e
    have nd := List.nodup_cons.mp (show (q.mark :: mks rs).Nodup from nd)
    have ne : q.mark ≠ r.mark := fun h => nd.1 (h ▸ List.mem_map.mpr ⟨r, List.mem_of_getElem? e, rfl⟩)
    unfold findR
    rw [List.find?_cons, decide_eq_false ne]
    exact findR_nd nd.2 e
theorem findR_in {rs : List Row} {z : Str} (h : z ∈ mks rs) : ∃ r, findR rs z = some r := by
  cases e : findR rs z with
  | some r => exact ⟨r, rfl⟩
  | none =>
    obtain ⟨r, hr, e2⟩ := List.mem_map.mp h
    exact absurd (decide_eq_true e2) (by simpa using List.find?_eq_none.mp e r hr)
theorem shB_at {rs : List Row} {z : Str} {r : Row} (h : findR rs z = some r) : shB rs z = r.sh := by unfold shB; rw [h]; rfl
/-- what is supplied -/
def nearB (ps ns : List Str) : Bool := ps.any fun p => decide (p ∈ ns)
def nshB (rs : List Row) (ps ns : List Str) : Bool := ps.any fun p => decide (p ∈ ns) && shB rs p
def supS (ps ns : List Str) (k : Kd) : Int := if nearB ps ns then 9 else if k.1 ∈ ps then 1 else 0
def supO (ps ns : List Str) (k : Kd) : Int := if nearB ps ns then 9 else if k.1 ∈ ps ∧ k.2 = "own" then 1 else 0
def supH (rs : List Row) (ps ns : List Str) (k : Kd) : Int := if nshB rs ps ns then 9 else if k.1 ∈ ps ∧ k.2 = "share" then 1 else 0
def okKd (k : Kd) : Prop := k.2 = "own" ∨ k.2 = "share"
def fitB (r : Row) (ns : List Str) (k : Kd) (w : Wv) (n : Int) : Bool := decide (need w.2.2.1 n ≤ n) && (decide (need w.2.2.1 n ≤ supS r.pars ns k) && decide (need w.2.1 n ≤ supO r.pars ns k))
theorem kds_modes (z : Str) (sh : Bool) : modesV sh = (kds z sh).map fun k => .str k.2 := by cases sh <;> rfl
theorem kds_fst {z : Str} {sh : Bool} {k : Kd} (h : k ∈ kds z sh) : k.1 = z := by
  unfold kds at h
  cases sh with
  | true =>
    simp at h
    rcases h with rfl | rfl <;> rfl
  | false =>
    simp at h
    rw [h]
theorem kds_len (z : Str) (sh : Bool) : (kds z sh).length ≤ 2 := by cases sh <;> simp [kds]
theorem KdV.but {u : Addr} {H H' : Hp} {v : V} {k : Kd} {xs : List V} (hu : H u = some (.lst xs)) (h : KdV H v k) (b : But u H H') : KdV H' v k := let ⟨p, e, f⟩ := h; ⟨p, e, b _ _ (fun z => by rw [z, hu] at f; cases f) f⟩
theorem same_butK {u : Addr} {H H2 H' : Hp} (s : Same H H2) (n : H u = none) (b : But u H2 H') : Same H H' := fun c o e => b _ _ (ne_of_none e n) (s _ _ e)
theorem flat_lenK {α : Type} {f : α → List Kd} (hf : ∀ a, (f a).length ≤ 2) : ∀ l : List α, (l.flatMap f).length ≤ 2 * l.length
  | [] => Nat.zero_le _
  | a :: l => by
    rw [List.flatMap_cons, List.length_append, List.length_cons]
    have := flat_lenK hf l
    have := hf a
    omega
theorem inShare (sh : Bool) : inV (V.str "share") (modesV sh) = sh := by cases sh <;> rfl
def spKinds (C Cw Cs : Addr) : Sp := fun vs H Q _ => ∃ (y x m a b : Addr) (rl : List Rl) (rs : List Row), vs = [.ref y] ∧ Pol C Cw H y x m a b rl ∧ ShO Cs H x rs ∧ rl.length ≤ 1000 ∧ (∀ q ∈ rl, q.1 ∈ mks rs) ∧
  ∀ u ws H', Same H H' → H u = none → H' u = some (.lst ws) → Paired (KdV H') ws (kindsOf rs rl) → Q (.ref u) H'
def spSupply (K : PySem.W.Frag) (Cs : Addr) : Sp := fun vs H Q _ => ∃ (x kk n : Addr) (z : Str) (rs : List Row) (r : Row) (k : Kd) (ns : List Str), vs = [.ref x, .str z, .ref kk, .ref n] ∧ ShO Cs H x rs ∧ findR rs z = some r ∧ (∀ p ∈ r.pars, p ∈ mks rs) ∧ r.pars.length ≤ 1000 ∧ H kk = some (.tup [.str k.1, .str k.2]) ∧ (SqL K H n (ns.map V.str) ∨ SqT K H n (ns.map V.str)) ∧ okKd k ∧
  ∀ u H', Same H H' → H u = none → H' u = some (.tup [.int (supS r.pars ns k), .int (supO r.pars ns k), .int (supH rs r.pars ns k)]) → Q (.ref u) H'
def spFits (K : PySem.W.Frag) (Cw Cs : Addr) : Sp := fun vs H Q _ => ∃ (x w kk n : Addr) (z : Str) (c : Int) (rs : List Row) (r : Row) (wv : Wv) (k : Kd) (ns : List Str), vs = [.ref x, .ref w, .str z, .int c, .ref kk, .ref n] ∧ ShO Cs H x rs ∧ findR rs z = some r ∧ (∀ p ∈ r.pars, p ∈ mks rs) ∧ r.pars.length ≤ 1000 ∧ Wy Cw H w wv.1 wv.2.1 wv.2.2.1 wv.2.2.2 ∧ wv.1 < 4 ∧ wv.2.1 < 4 ∧ wv.2.2.1 < 4 ∧ H kk = some (.tup [.str k.1, .str k.2]) ∧ (SqL K H n (ns.map V.str) ∨ SqT K H n (ns.map V.str)) ∧ okKd k ∧
  ∀ H', Same H H' → Q (.bl (fitB r ns k wv c)) H'
theorem any_take {α : Type} {l : List α} {f : α → Bool} {i : Nat} {x : α} (h : l[i]? = some x) : (l.take (i + 1)).any f = ((l.take i).any f || f x) := by
  rw [List.take_succ, h, List.any_append]; simp
section
variable {w : World} {K : PySem.W.Frag} {mg : Str → Option Value} {base : Heap}
set_option maxHeartbeats 16000000 in
set_option pp.maxSteps 600 in
theorem ok_kinds (T : Txt K mg) : FnOk PP w K mg base CX0 8 T.a_kinds T.fd_kinds ["policy"] (spKinds T.c_Policy T.c_Way T.c_Shape) := by
  refine T.F_kinds.ok sc_kinds (fun vs H Q E h => ?_) (fun cdv A outer s H vs Q E hr h => ?_)
  · obtain ⟨y, x, m, a, b, rl, rs, rfl, _⟩ := h; rfl
  · obtain ⟨y, x, m, a, b, rl, rs, rfl, P, hS, lr, sub, q⟩ := h
    refine ⟨_, (pss_cons (ps_set (i := 1) sc_kinds.nd rfl (.inl rfl) (pe_lst pa_nil))
      (pss_cons (ps_for PassesOwn.never rfl (pi_tup (pe_prop (pv 0) T.cl_Policy T.pr_Policy_starts (ok_Policy_starts T) (hr.mono (by omega)) T.b_Policy_starts .nil pass0 rfl)) (pg_name (i := 2) sc_kinds.nd rfl (.inl rfl)) (pss_one (ps_for PassesOwn.never rfl (pi_tup (pe_meth (pe_fld (pv 0) rfl) T.cl_Shape T.m_Shape_modes_of ((ok_Shape_modes_of T).calm) (hr.mono (by omega)) T.b_Shape_modes_of .nil pass0 (pa_cons (pv 2) pa_nil))) (pg_name (i := 3) sc_kinds.nd rfl (.inl rfl)) (pss_one (ps_expr (pe_bm PySem.F.plainAttrs_list PySem.F.slot_list_append PySem.F.type_list_append mt_append (pv 1) (pa_cons (pe_tup (pa_cons (pv 2) (pa_cons (pv 3) pa_nil))) pa_nil)))))))
      (pss_one (ps_ret (pv 1))))), ?_⟩
    have big : 100000 < sizeLine := by decide
    obtain ⟨dy, hy⟩ := P.obj
    obtain ⟨dx, sl, sm, us, hx, _⟩ := id hS
    refine ⟨Nat.zero_le _, fun u nu => ?_⟩
    have s1 := same_new (o := .lst []) nu
    have hu1 : (upd H u (.lst [])) u = some (.lst []) := upd_same
    revert s1 hu1
    generalize upd H u (.lst []) = H1
    intro s1 hu1
    refine ⟨_, rfl, y, dy, _, rfl, s1 _ _ hy, y, x, m, a, b, rl, rfl, P.same s1, lr, fun p H2 s2 np hp => ?_⟩
    have s02 := s1.trans s2
    have hu2 := s2 _ _ hu1
    have npu : p ≠ u := (ne_of_none hu1 np).symm
    obtain ⟨f, ef⟩ : ∃ f : Rl → List Kd, f = fun q => kds q.1 (shB rs q.1) := ⟨_, rfl⟩
    have lf : ∀ q, (f q).length ≤ 2 := fun q => by rw [ef]; exact kds_len _ _
    have lfl := List.length_filter_le (fun r : Rl => r.2.1) rl
    refine ⟨p, rfl, ⟨_, SqT.of hp⟩, for_tup (K := K) (a := p) (xs := (rl.filter (·.2.1)).map fun r => .str r.1) (fun i σ H' => ∃ (x2 x3 : Option V) (ws : List V), σ = [some (.ref y), some (.ref u), x2, x3] ∧ But u H2 H' ∧ H' u = some (.lst ws) ∧ Paired (KdV H') ws (((rl.filter (·.2.1)).take i).flatMap f)) ⟨_, _, [], rfl, But.refl _ _, hu2, .nil⟩ (fun i σ H' _ ⟨_, _, _, _, b, _⟩ => SqT.of (b _ _ npu hp)) ?_ ?_⟩
    · rintro i v σ H3 hv ⟨x2, x3, ws, rfl, b3, hu3, pr⟩
      rw [List.getElem?_map] at hv
      obtain ⟨q0, hq0⟩ : ∃ q0, (rl.filter (·.2.1))[i]? = some q0 := by
        cases e : (rl.filter (·.2.1))[i]? with
        | none => rw [e] at hv; cases hv
        | some q0 => exact ⟨q0, rfl⟩
      rw [hq0] at hv
      obtain rfl := Option.some.inj hv
      have hi := (List.getElem?_eq_some_iff.mp hq0).1
      obtain ⟨r, fr⟩ := findR_in (sub q0 (List.mem_filter.mp (List.mem_of_getElem? hq0)).1)
      have s3 := same_butK s02 nu b3
      refine ⟨_, rfl, y, _, dy, _, _, rfl, s3 _ _ hy, T.cl_Policy, T.no_Policy_shape, polF1 x m a b, x, dx, _, rfl, s3 _ _ hx, rfl, _, rfl, x, q0.1, rs, rfl, hS.same s3, fun r' t H4 fr' s4 tc => ?_, fun e => by rw [fr] at e; cases e⟩
      rw [fr] at fr'
      obtain rfl := Option.some.inj fr'
      rw [kds_modes q0.1] at tc
      have hu4 := s4 _ _ hu3
      have fq : f q0 = kds q0.1 r.sh := by rw [ef]; show kds q0.1 (shB rs q0.1) = _; rw [shB_at fr]
      have lw3 : ws.length ≤ 2 * i := by
        have := flat_lenK lf ((rl.filter (·.2.1)).take i)
        rw [pair_len' pr]
        rw [List.length_take] at this
        omega
      refine ⟨t, rfl, ⟨_, tc.sq⟩, for_tup (K := K) (a := t) (xs := (kds q0.1 r.sh).map fun k => .str k.2) (fun j σ H' => ∃ (x3 : Option V) (ws' : List V), σ = [some (.ref y), some (.ref u), some (.str q0.1), x3] ∧ But u H4 H' ∧ H' u = some (.lst ws') ∧ Paired (KdV H') ws' (((rl.filter (·.2.1)).take i).flatMap f ++ (f q0).take j)) ⟨_, ws, rfl, But.refl _ _, hu4, by rw [List.take_zero, List.append_nil]; exact L2.Paired.mapP pr fun _ _ h => h.same s4⟩ (fun j σ H' _ ⟨_, _, _, b, _⟩ => ?_) ?_ ?_⟩
      · rcases tc with tc | tc
        · exact SqT.of (b _ _ (fun z => by rw [z, hu4] at tc; cases tc) tc)
        · exact tc _
      · rintro j v σ H5 hv ⟨x3, ws', rfl, b5, hu5, pr5⟩
        rw [List.getElem?_map] at hv
        obtain ⟨k, hk⟩ : ∃ k, (kds q0.1 r.sh)[j]? = some k := by
          cases e : (kds q0.1 r.sh)[j]? with
          | none => rw [e] at hv; cases hv
          | some k => exact ⟨k, rfl⟩
        rw [hk] at hv
        obtain rfl := Option.some.inj hv
        have ek := kds_fst (List.mem_of_getElem? hk)
        have l5 : ws'.length ≤ 2 * i + 2 := by
          have := flat_lenK lf ((rl.filter (·.2.1)).take i)
          rw [pair_len' pr5, List.length_append]
          rw [List.length_take] at this
          have h2 := lf q0
          rw [List.length_take]
          omega
        refine ⟨_, rfl, .inl ⟨rfl, _, SqL.of hu5⟩, _, rfl, _, rfl, by show 2 ≤ sizeLine; decide, fun e ne => ?_⟩
        have s6 := same_new (o := .tup [.str q0.1, .str k.2]) ne
        have neu : e ≠ u := (ne_of_none hu5 ne).symm
        refine ⟨_, _, _, rfl, rfl, s6 _ _ hu5, by omega, ?_⟩
        have b6 : But u H5 (upd (upd H5 e (.tup [.str q0.1, .str k.2])) u (.lst (ws' ++ [.ref e]))) := fun c o n h => by rw [upd_ne n]; exact s6 _ _ h
        refine ⟨_, ws' ++ [.ref e], rfl, b5.trans b6, upd_same, ?_⟩
        rw [List.take_succ, fq, hk, ← List.append_assoc, ← fq]
        refine pair_app' (L2.Paired.mapP pr5 fun _ _ h => h.but hu5 b6) (.cons ⟨e, rfl, ?_⟩ .nil)
        rw [upd_ne neu, ek]; exact upd_same
      · rintro σ H5 ⟨x3, ws', rfl, b5, hu5, pr5⟩
        rw [List.length_map, ← fq, List.take_length] at pr5
        refine ⟨_, _, ws', rfl, (b3.trans (But.of_same s4)).trans b5, hu5, ?_⟩
        rw [List.take_succ, hq0, Option.toList_some, List.flatMap_append, List.flatMap_cons, List.flatMap_nil, List.append_nil]
        exact pr5
    · rintro σ H3 ⟨x2, x3, ws, rfl, b3, hu3, pr⟩
      rw [List.length_map, List.take_length, ef, flat_filter] at pr
      exact ⟨_, rfl, q u ws H3 (same_butK s02 nu b3) nu hu3 pr⟩
set_option maxHeartbeats 16000000 in
set_option pp.maxSteps 600 in
theorem ok_supply (T : Txt K mg) : FnOk PP w K mg base CX0 8 T.a_supply T.fd_supply ["shape", "mark", "kind", "reached"] (spSupply K T.c_Shape) := by
  refine T.F_supply.ok sc_supply (fun vs H Q E h => ?_) (fun cdv A outer s H vs Q E hr h => ?_)
  · obtain ⟨x, kk, n, z, rs, r, k, ns, rfl, _⟩ := h; rfl
  · obtain ⟨x, kk, n, z, rs, r, k, ns, rfl, hS, fr, sub, lp, hk, hn, ok, q⟩ := h
    refine ⟨_, (pss_cons (ps_set (i := 4) sc_supply.nd rfl (.inl rfl) (pe_int))
      (pss_cons (ps_set (i := 5) sc_supply.nd rfl (.inl rfl) (pe_int))
      (pss_cons (ps_set (i := 6) sc_supply.nd rfl (.inl rfl) (pe_int))
      (pss_cons (ps_for PassesOwn.never rfl (pi_tup (pe_ix ix_tup (pe_getI T.m_Shape_getitem T.fi_Shape_getitem ((ok_Shape_getitem T).calm) (hr.mono (by omega)) T.b_Shape_getitem pass0 (pv 0) (pv 1)) (pe_int) (fun _ _ => rfl))) (pg_name (i := 7) sc_supply.nd rfl (.inl rfl)) (pss_one (ps_if (pt_cmpR op_in_seq (pv 7) (pv 3) (by with_unfolding_all rfl)) (pss_cons (ps_set (i := 4) sc_supply.nd rfl (.inl rfl) (pe_glob (v := .int 9) (by rfl) T.g_UNLIMITED ⟨_, rfl⟩))
      (pss_cons (ps_set (i := 5) sc_supply.nd rfl (.inl rfl) (pe_glob (v := .int 9) (by rfl) T.g_UNLIMITED ⟨_, rfl⟩))
      (pss_one (ps_if (pt_cmpR op_in_seq (pe_str) (pe_meth (pv 0) T.cl_Shape T.m_Shape_modes_of ((ok_Shape_modes_of T).calm) (hr.mono (by omega)) T.b_Shape_modes_of .nil pass0 (pa_cons (pv 7) pa_nil)) (by with_unfolding_all rfl)) (pss_one (ps_set (i := 6) sc_supply.nd rfl (.inl rfl) (pe_glob (v := .int 9) (by rfl) T.g_UNLIMITED ⟨_, rfl⟩))) pss_nil)))) pss_nil)))
      (pss_cons (ps_if (pt_cmpR op_in_seq (pe_ix ix_tup (pv 2) (pe_int) (fun _ _ => rfl)) (pe_ix ix_tup (pe_getI T.m_Shape_getitem T.fi_Shape_getitem ((ok_Shape_getitem T).calm) (hr.mono (by omega)) T.b_Shape_getitem pass0 (pv 0) (pv 1)) (pe_int) (fun _ _ => rfl)) (by with_unfolding_all rfl)) (pss_cons (ps_if (pt_cmpR op_eq (pv 4) (pe_int) (nomark _)) (pss_one (ps_set (i := 4) sc_supply.nd rfl (.inl rfl) (pe_int))) pss_nil)
      (pss_cons (ps_if (PW.pt (pw_and (pt_cmpR op_eq (pe_ix ix_tup (pv 2) (pe_int) (fun _ _ => rfl)) (pe_str) (nomark _)) (pw_and1 (pt_cmpR op_eq (pv 5) (pe_int) (nomark _))))) (pss_one (ps_set (i := 5) sc_supply.nd rfl (.inl rfl) (pe_int))) pss_nil)
      (pss_one (ps_if (PW.pt (pw_and (pt_cmpR op_eq (pe_ix ix_tup (pv 2) (pe_int) (fun _ _ => rfl)) (pe_str) (nomark _)) (pw_and1 (pt_cmpR op_eq (pv 6) (pe_int) (nomark _))))) (pss_one (ps_set (i := 6) sc_supply.nd rfl (.inl rfl) (pe_int))) pss_nil)))) pss_nil)
      (pss_one (ps_ret (pe_tup (pa_cons (pv 4) (pa_cons (pv 5) (pa_cons (pv 6) pa_nil))))))))))), ?_⟩
    obtain ⟨dx, sl, sm, us, hx, _⟩ := id hS
    have hnS : ∀ {H' : Hp}, Same H H' → (SqL K H' n (ns.map V.str) ∨ SqT K H' n (ns.map V.str)) := fun s => hn.imp s.seq (same_sqT s)
    refine ⟨_, rfl, _, rfl, x, _, _, rfl, hx, x, z, rs, rfl, hS, fun r' p pp hf hp hpp => ?_, fun e => by rw [fr] at e; cases e⟩
    rw [fr] at hf
    obtain rfl := Option.some.inj hf
    refine ⟨_, _, _, _, rfl, rfl, SqT.of hp, atI_nat (j := 1) rfl, pp, rfl, ⟨_, SqT.of hpp⟩, for_tup (K := K) (a := pp) (xs := r.pars.map V.str) (fun i σ H' => ∃ x7 : Option V, σ = [some (.ref x), some (.str z), some (.ref kk), some (.ref n), some (.int (if nearB (r.pars.take i) ns then 9 else 0)), some (.int (if nearB (r.pars.take i) ns then 9 else 0)), some (.int (if nshB rs (r.pars.take i) ns then 9 else 0)), x7] ∧ Same H H') ⟨_, rfl, Same.refl _⟩ (fun i σ H' _ ⟨_, _, s⟩ => SqT.of (s _ _ hpp)) ?_ ?_⟩
    · rintro i v σ H3 hv ⟨x7, rfl, s3⟩
      rw [List.getElem?_map] at hv
      obtain ⟨pr, hpr⟩ : ∃ pr, r.pars[i]? = some pr := by
        cases e : r.pars[i]? with
        | none => rw [e] at hv; cases hv
        | some pr => exact ⟨pr, rfl⟩
      rw [hpr] at hv
      obtain rfl := Option.some.inj hv
      have e1 : nearB (r.pars.take (i + 1)) ns = (nearB (r.pars.take i) ns || decide (pr ∈ ns)) := any_take hpr
      have e2 : nshB rs (r.pars.take (i + 1)) ns = (nshB rs (r.pars.take i) ns || (decide (pr ∈ ns) && shB rs pr)) := any_take hpr
      refine ⟨_, rfl, _, rfl, n, _, rfl, hnS s3, rfl, flat_strs _, ?_⟩
      rw [show (if false = true then !inV (V.str pr) (ns.map V.str) else inV (V.str pr) (ns.map V.str)) = decide (pr ∈ ns) by rw [if_neg Bool.false_ne_true, in_strs]]
      refine ⟨_, rfl, iteD (fun c => ?_) (fun c => ?_)⟩
      · obtain ⟨r2, fr2⟩ := findR_in (sub pr (List.mem_of_getElem? hpr))
        refine ⟨_, rfl, x, dx, _, rfl, s3 _ _ hx, rfl, _, rfl, x, pr, rs, rfl, hS.same s3, fun r' t H4 fr' s4 tc => ?_, fun e => by rw [fr2] at e; cases e⟩
        rw [fr2] at fr'
        obtain rfl := Option.some.inj fr'
        refine ⟨t, _, rfl, .inr tc.sq, rfl, by cases r2.sh <;> trivial, ?_⟩
        rw [show (if false = true then !inV (V.str "share") (modesV r2.sh) else inV (V.str "share") (modesV r2.sh)) = r2.sh by rw [if_neg Bool.false_ne_true, inShare]]
        rw [e1, e2, decide_eq_true c, shB_at fr2]
        refine ⟨_, rfl, ?_⟩
        cases r2.sh with
        | true =>
          refine iteYes rfl ⟨some (.str pr), ?_, s3.trans s4⟩
          rw [Bool.or_true, Bool.true_and, Bool.or_true]; rfl
        | false =>
          refine iteNo rfl ⟨some (.str pr), ?_, s3.trans s4⟩
          rw [Bool.or_true, Bool.true_and, Bool.or_false]; rfl
      · rw [e1, e2, decide_eq_false c, Bool.or_false, Bool.false_and, Bool.or_false]
        exact ⟨_, rfl, s3⟩
    rintro σ H3 ⟨x7, rfl, s3⟩
    rw [List.length_map, List.take_length]
    refine ⟨_, rfl, _, _, _, _, rfl, rfl, SqT.of (s3 _ _ hk), atI_nat (j := 0) rfl, _, rfl, _, rfl, x, _, _, rfl, s3 _ _ hx, x, z, rs, rfl, hS.same s3, fun r' p pp hf hp hpp => ?_, fun e => by rw [fr] at e; cases e⟩
    rw [fr] at hf
    obtain rfl := Option.some.inj hf
    refine ⟨_, _, _, _, rfl, rfl, SqT.of hp, atI_nat (j := 1) rfl, pp, _, rfl, .inr (SqT.of hpp), rfl, flat_strs _, ?_⟩
    rw [show (if false = true then !inV (V.str k.1) (r.pars.map V.str) else inV (V.str k.1) (r.pars.map V.str)) = decide (k.1 ∈ r.pars) by rw [if_neg Bool.false_ne_true, in_strs]]
    have hk3 := s3 _ _ hk
    unfold supS supO supH at q
    generalize nearB r.pars ns = bn at *
    generalize nshB rs r.pars ns = bh at *
    obtain ⟨k1, k2⟩ := k
    have ok : k2 = "own" ∨ k2 = "share" := ok
    have n1 : ¬ (Str.ofString "own" = Str.ofString "share") := by decide +kernel
    have n2 : ¬ (Str.ofString "share" = Str.ofString "own") := by decide +kernel
    refine ⟨_, rfl, iteD (fun c => ?_) (fun c => ?_)⟩
    · have c : k1 ∈ r.pars := c
      rcases ok with rfl | rfl <;> cases bn <;> cases bh
      all_goals
        refine ⟨_, rfl, rfl, _, rfl, ?_⟩
        first | refine iteYes (decide_eq_true rfl) ?_ | refine iteNo (decide_eq_false (by decide)) ?_
        refine ⟨_, rfl, _, _, _, _, rfl, rfl, SqT.of hk3, atI_nat (j := 1) rfl, rfl, _, rfl, ?_⟩
        first | refine iteYes (decide_eq_true rfl) ⟨_, rfl, rfl, _, rfl, ?_⟩ | skip
        first | refine iteYes (decide_eq_true rfl) ?_ | refine iteNo (decide_eq_false (fun h => n1 (V.str.inj h))) ?_ | refine iteNo (decide_eq_false (fun h => n2 (V.str.inj h))) ?_ | refine iteNo (decide_eq_false (by decide +kernel)) ?_
        refine ⟨_, rfl, _, _, _, _, rfl, rfl, SqT.of hk3, atI_nat (j := 1) rfl, rfl, _, rfl, ?_⟩
        first | refine iteYes (decide_eq_true rfl) ⟨_, rfl, rfl, _, rfl, ?_⟩ | skip
        first | refine iteYes (decide_eq_true rfl) ?_ | refine iteNo (decide_eq_false (fun h => n1 (V.str.inj h))) ?_ | refine iteNo (decide_eq_false (fun h => n2 (V.str.inj h))) ?_ | refine iteNo (decide_eq_false (by decide +kernel)) ?_
        refine ⟨_, rfl, _, rfl, _, rfl, by show 3 ≤ sizeLine; decide, fun u nu => ?_⟩
        exact q u _ (s3.trans (same_new nu)) (s3.free nu) (by rw [upd_same]; simp [c, n1, n2])
    · have c : k1 ∉ r.pars := c
      refine ⟨_, rfl, _, rfl, _, rfl, by show 3 ≤ sizeLine; decide, fun u nu => ?_⟩
      refine q u _ (s3.trans (same_new nu)) (s3.free nu) ?_
      rw [upd_same]; simp [c]
set_option maxHeartbeats 16000000 in
set_option pp.maxSteps 600 in
theorem ok_fits (T : Txt K mg) : FnOk PP w K mg base CX0 10 T.a_fits T.fd_fits ["shape", "way", "mark", "parents", "kind", "reached"] (spFits K T.c_Way T.c_Shape) := by
  refine T.F_fits.ok sc_fits (fun vs H Q E h => ?_) (fun cdv A outer s H vs Q E hr h => ?_)
  · obtain ⟨x, w, kk, n, z, c, rs, r, wv, k, ns, rfl, _⟩ := h; rfl
  · obtain ⟨x, w, kk, n, z, c, rs, r, wv, k, ns, rfl, hS, fr, sub, lp, hw, w1, w2, w3, hk, hn, ok, q⟩ := h
    refine ⟨_, (pss_cons (ps_asg (pe_meth (pv 1) T.cl_Way T.m_Way_needs (ok_Way_needs T) (hr.mono (by omega)) T.b_Way_needs .nil pass0 (pa_cons (pv 3) pa_nil)) (pg_tup rfl (pgs_cons (pg_name (i := 6) sc_fits.nd rfl (.inl rfl)) (pgs_cons (pg_name (i := 7) sc_fits.nd rfl (.inl rfl)) (pgs_cons (pg_name (i := 8) sc_fits.nd rfl (.inl rfl)) pgs_nil)))))
      (pss_cons (ps_asg (pe_call (ok_supply T) (hr.mono (by omega)) (by rfl) T.g_supply T.F_supply.kp T.b_supply .nil pass0 (pa_cons (pv 0) (pa_cons (pv 2) (pa_cons (pv 4) (pa_cons (pv 5) pa_nil))))) (pg_tup rfl (pgs_cons (pg_name (i := 9) sc_fits.nd rfl (.inl rfl)) (pgs_cons (pg_name (i := 10) sc_fits.nd rfl (.inl rfl)) (pgs_cons (pg_name (i := 6) sc_fits.nd rfl (.inl rfl)) pgs_nil)))))
      (pss_one (ps_ret (pe_and (pe_cmpR op_le (pv 8) (pv 3) (nomark _)) (pe_and (pe_cmpR op_le (pv 8) (pv 9) (nomark _)) (pe_one (pe_cmpR op_le (pv 7) (pv 10) (nomark _))))))))), ?_⟩
    obtain ⟨dx, sl, sm, us, hx, _⟩ := id hS
    obtain ⟨dw, hw0⟩ := id hw
    refine ⟨_, rfl, w, dw, _, rfl, hw0, wayF_no _ _ _ _ (by decide +kernel) (by decide +kernel) (by decide +kernel) (by decide +kernel), _, rfl, w, wv.1, wv.2.1, wv.2.2.1, wv.2.2.2, c, rfl, w1, w2, w3, hw, fun p H1 s1 np hp => ?_⟩
    refine ⟨p, _, rfl, SqT.of hp, rfl, _, _, rfl, _, _, rfl, _, _, rfl, rfl, ?_⟩
    refine ⟨_, rfl, _, rfl, _, rfl, _, rfl, x, kk, n, z, rs, r, k, ns, rfl, hS.same s1, fr, sub, lp, s1 _ _ hk, hn.imp s1.seq (same_sqT s1), ok, fun p2 H2 s2 np2 hp2 => ?_⟩
    refine ⟨p2, _, rfl, SqT.of hp2, rfl, _, _, rfl, _, _, rfl, _, _, rfl, rfl, ?_⟩
    have q2 := q H2 (s1.trans s2)
    unfold fitB at q2
    refine ⟨_, rfl, _, rfl, _, _, rfl, rfl, _, rfl, iteD (fun c1 => ?_) (fun c1 => ?_)⟩
    · rw [decide_eq_true c1] at q2
      refine ⟨_, rfl, _, rfl, _, _, rfl, rfl, _, rfl, iteD (fun c2 => ?_) (fun c2 => ?_)⟩
      · rw [decide_eq_true c2] at q2
        exact ⟨_, rfl, _, rfl, _, _, rfl, rfl, q2⟩
      · rw [decide_eq_false c2] at q2
        exact q2
    · rw [decide_eq_false c1] at q2
      exact q2
end
end My

namespace My
open PySem L2
def RowL (H : Hp) (p : Addr) (r : Row) : Prop := ∃ pp, H p = some (.lst (rowL r pp)) ∧ H pp = some (.lst (r.pars.map V.str))
theorem RowL.same {H H' : Hp} {p : Addr} {r : Row} (h : RowL H p r) (s : Same H H') : RowL H' p r := let ⟨pp, a, b⟩ := h; ⟨pp, s _ _ a, s _ _ b⟩
def spLKinds (Cs : Addr) : Sp := fun vs H Q _ => ∃ (R g : Addr) (ws : List V) (rs : List Row) (kvs : List (Key × V)) (rl : List Rl), vs = [.ref R, .ref g] ∧ H R = some (.lst ws) ∧ RowsN (fun _ => True) true H ws rs ∧ (mks rs).Nodup ∧ rs.length ≤ 100 ∧ H g = some (.dK kvs) ∧ Paired (RdV H) kvs rl ∧ rl.map (·.1) = mks rs ∧
  ∀ u us H', Same H H' → H u = none → H' u = some (.lst us) → Paired (KdV H') us (kindsOf rs rl) → Q (.ref u) H'
def spLSupply : Sp := fun vs H Q _ => ∃ (R p kk n : Addr) (ws : List V) (rs : List Row) (r : Row) (k : Kd) (ns : List Str), vs = [.ref R, .ref p, .ref kk, .ref n] ∧ H R = some (.lst ws) ∧ RowsN (fun _ => True) true H ws rs ∧ (mks rs).Nodup ∧ rs.length ≤ 100 ∧ RowL H p r ∧ (∀ z ∈ r.pars, z ∈ mks rs) ∧ H kk = some (.tup [.str k.1, .str k.2]) ∧ H n = some (.lst (ns.map V.str)) ∧ okKd k ∧
  ∀ u H', Same H H' → H u = none → H' u = some (.lst [.int (supS r.pars ns k), .int (supO r.pars ns k), .int (supH rs r.pars ns k)]) → Q (.ref u) H'
def spLFits : Sp := fun vs H Q _ => ∃ (R p wq kk n : Addr) (c : Int) (ws : List V) (rs : List Row) (r : Row) (wv : Wv) (k : Kd) (ns : List Str), vs = [.ref R, .ref p, .ref wq, .int c, .ref kk, .ref n] ∧ H R = some (.lst ws) ∧ RowsN (fun _ => True) true H ws rs ∧ (mks rs).Nodup ∧ rs.length ≤ 100 ∧ RowL H p r ∧ (∀ z ∈ r.pars, z ∈ mks rs) ∧ H wq = some (LwO wv.1 wv.2.1 wv.2.2.1 wv.2.2.2) ∧ wv.2.1 < 4 ∧ wv.2.2.1 < 4 ∧ 0 ≤ c ∧ H kk = some (.tup [.str k.1, .str k.2]) ∧ H n = some (.lst (ns.map V.str)) ∧ okKd k ∧
  ∀ H', Same H H' → Q (.bl (fitB r ns k wv c)) H'
def spLSupplied (Cs : Addr) : Sp := fun vs H Q _ => ∃ (x R kk n wq : Addr) (ws : List V) (rs : List Row) (wv : Wv) (k : Kd) (ns : List Str), vs = [.ref x, .ref R, .ref kk, .ref n, .ref wq] ∧ ShO Cs H x rs ∧ H R = some (.lst ws) ∧ RowsN (fun _ => True) true H ws rs ∧ GoodC rs ∧ H kk = some (.tup [.str k.1, .str k.2]) ∧ H n = some (.lst (ns.map V.str)) ∧ ns.length ≤ 1000 ∧ okKd k ∧ H wq = some (LwO wv.1 wv.2.1 wv.2.2.1 wv.2.2.2) ∧ Adj wv.1 wv.2.1 wv.2.2.1 ∧
  ∀ H', Same H H' → Q (.bl true) H'
theorem near_iff {rs : List Row} {ps ns : List Str} (sub : ∀ z ∈ ps, z ∈ mks rs) : decide (0 < ((rs.filter fun q => decide (q.mark ∈ ps) && decide (q.mark ∈ ns)).length : Int)) = nearB ps ns := by
  rw [Bool.eq_iff_iff, decide_eq_true_iff]
  unfold nearB
  rw [List.any_eq_true]
  constructor
  · intro h
    obtain ⟨q, hq⟩ := List.exists_mem_of_length_pos (show 0 < (rs.filter fun q => decide (q.mark ∈ ps) && decide (q.mark ∈ ns)).length by omega)
    obtain ⟨_, h2⟩ := List.mem_filter.mp hq
    rw [Bool.and_eq_true, decide_eq_true_iff, decide_eq_true_iff] at h2
    exact ⟨q.mark, h2.1, decide_eq_true h2.2⟩
  · rintro ⟨z, hz, hn⟩
    obtain ⟨q, hq, rfl⟩ := List.mem_map.mp (sub z hz)
    have : q ∈ rs.filter fun q => decide (q.mark ∈ ps) && decide (q.mark ∈ ns) := List.mem_filter.mpr ⟨hq, by rw [decide_eq_true hz, hn]; rfl⟩
    have := List.length_pos_of_mem this
    omega
theorem nsh_iff {rs : List Row} {ps ns : List Str} (nd : (mks rs).Nodup) (sub : ∀ z ∈ ps, z ∈ mks rs) : decide (0 < (((rs.filter fun q => decide (q.mark ∈ ps) && decide (q.mark ∈ ns)).filter (·.sh)).length : Int)) = nshB rs ps ns := by
  have sh : ∀ q ∈ rs, shB rs q.mark = q.sh := fun q hq => by
    obtain ⟨i, hi⟩ := List.mem_iff_getElem?.mp hq
    exact shB_at (findR_nd nd hi)
  rw [Bool.eq_iff_iff, decide_eq_true_iff]
  unfold nshB
  rw [List.any_eq_true]
  constructor
  · intro h
    obtain ⟨q, hq⟩ := List.exists_mem_of_length_pos (show 0 < ((rs.filter fun q => decide (q.mark ∈ ps) && decide (q.mark ∈ ns)).filter (·.sh)).length by omega)
    obtain ⟨h1, h3⟩ := List.mem_filter.mp hq
    obtain ⟨h1, h2⟩ := List.mem_filter.mp h1
    rw [Bool.and_eq_true, decide_eq_true_iff] at h2
    exact ⟨q.mark, h2.1, by rw [h2.2, sh q h1, h3]; rfl⟩
  · rintro ⟨z, hz, hn⟩
    obtain ⟨q, hq, rfl⟩ := List.mem_map.mp (sub z hz)
    rw [Bool.and_eq_true, sh q hq] at hn
    have : q ∈ (rs.filter fun q => decide (q.mark ∈ ps) && decide (q.mark ∈ ns)).filter (·.sh) := List.mem_filter.mpr ⟨List.mem_filter.mpr ⟨hq, by rw [decide_eq_true hz, hn.1]; rfl⟩, hn.2⟩
    have := List.length_pos_of_mem this
    omega
theorem nsh_near {rs : List Row} {ps ns : List Str} (h : nearB ps ns = false) : nshB rs ps ns = false := by
  unfold nearB at h
  unfold nshB
  rw [List.any_eq_false] at h ⊢
  intro p hp
  have := h p hp
  simp only [decide_eq_true_eq] at this
  rw [decide_eq_false this]; simp
theorem dn_i3 {K : PySem.W.Frag} {x a : Addr} {H : Hp} {i j k : Int} (h : H a = some (.tup [.int i, .int j, .int k])) (ne : a ≠ x) : Dn K x H 1 (.ref a) (.tuple [.int i, .int j, .int k]) := Dn.tup ne (SqT.of h) (.cons (Dn.int _) (.cons (Dn.int _) (.cons (Dn.int _) .nil))) (by simp)
section
variable {w : World} {K : PySem.W.Frag} {mg : Str → Option Value} {base : Heap}
set_option maxHeartbeats 16000000 in
set_option pp.maxSteps 600 in
theorem ok__law_kinds (T : Txt K mg) : FnOk PP w K mg base CX0 1 T.a__law_kinds T.fd__law_kinds ["_law_rows_here", "_law_rules_here"] (spLKinds T.c_Shape) := by
  refine T.F__law_kinds.ok sc__law_kinds (fun vs H Q E h => ?_) (fun cdv A outer s H vs Q E hr h => ?_)
  · obtain ⟨R, g, ws, rs, kvs, rl, rfl, _⟩ := h; rfl
  · obtain ⟨R, g, ws, rs, kvs, rl, rfl, hR, rR, nd, lr, hg, pk, ef, q⟩ := h
    refine ⟨_, (pss_cons (ps_set (i := 2) sc__law_kinds.nd rfl (.inl rfl) (pe_lst pa_nil))
      (pss_cons (ps_for PassesOwn.never rfl (pi_list (pv 0)) (pg_name (i := 3) sc__law_kinds.nd rfl (.inl rfl)) (pss_one (ps_if (pt_val (pe_ix ix_list (pe_dget (hu_of hr) (pv 1) (pe_ix ix_list (pv 3) (pe_int) (fun _ _ => rfl)) (fun _ _ => rfl)) (pe_int) (fun _ _ => rfl))) (pss_cons (ps_expr (pe_bm PySem.F.plainAttrs_list PySem.F.slot_list_append PySem.F.type_list_append mt_append (pv 2) (pa_cons (pe_tup (pa_cons (pe_ix ix_list (pv 3) (pe_int) (fun _ _ => rfl)) (pa_cons (pe_str) pa_nil))) pa_nil)))
      (pss_one (ps_if (pt_val (pe_ix ix_list (pv 3) (pe_int) (fun _ _ => rfl))) (pss_one (ps_expr (pe_bm PySem.F.plainAttrs_list PySem.F.slot_list_append PySem.F.type_list_append mt_append (pv 2) (pa_cons (pe_tup (pa_cons (pe_ix ix_list (pv 3) (pe_int) (fun _ _ => rfl)) (pa_cons (pe_str) pa_nil))) pa_nil)))) pss_nil))) pss_nil)))
      (pss_one (ps_ret (pv 2))))), ?_⟩
    have big : 100000 < sizeLine := by decide
    have lw := pair_len' rR
    have lrl : rl.length = rs.length := by
      have e := congrArg List.length ef
      unfold mks at e
      rw [List.length_map, List.length_map] at e; exact e
    have ndl : (rl.map (·.1)).Nodup := by rw [ef]; exact nd
    refine ⟨Nat.zero_le _, fun u nu => ?_⟩
    have s1 := same_new (o := .lst []) nu
    have hu1 : (upd H u (.lst [])) u = some (.lst []) := upd_same
    revert s1 hu1
    generalize upd H u (.lst []) = H1
    intro s1 hu1
    obtain ⟨f, ff⟩ : ∃ f : Rl → List Kd, f = fun q => if q.2.1 then kds q.1 (shB rs q.1) else [] := ⟨_, rfl⟩
    have lf : ∀ q, (f q).length ≤ 2 := fun q => by
      rw [ff]; dsimp only
      split
      · exact kds_len _ _
      · simp
    refine ⟨_, rfl, R, rfl, ⟨_, SqL.of (s1 _ _ hR)⟩, for_list (K := K) (a := R) (xs := ws) (fun i σ H' => ∃ (x3 : Option V) (us : List V), σ = [some (.ref R), some (.ref g), some (.ref u), x3] ∧ But u H1 H' ∧ H' u = some (.lst us) ∧ Paired (KdV H') us ((rl.take i).flatMap f)) ⟨_, [], rfl, But.refl _ _, hu1, by rw [List.take_zero]; exact .nil⟩ (fun i σ H' _ ⟨_, _, _, b, _⟩ => SqL.of (same_butK s1 nu b _ _ hR)) ?_ ?_⟩
    · rintro i v σ H3 hv ⟨x3, us, rfl, b3, hu3, pr⟩
      obtain ⟨r, hr, p, pp, rfl, _, _, hp, _⟩ := pair_get' rR hv
      have hp : H p = some (.lst (rowL r pp)) := hp
      have hi := (List.getElem?_eq_some_iff.mp hr).1
      obtain ⟨q0, hq0⟩ : ∃ q0, rl[i]? = some q0 := ⟨_, List.getElem?_eq_getElem (by omega)⟩
      have em : q0.1 = r.mark := by
        have e := congrArg (fun l : List Str => l[i]?) ef
        unfold mks at e
        simp only [List.getElem?_map, hq0, hr] at e
        exact Option.some.inj e
      have s3 := same_butK s1 nu b3
      obtain ⟨kv, ev, _, q1, p1, us1, eq1, hq1, _⟩ := val_rd pk ndl hq0
      have dg := DGet.k (k := .inr q0.1) (s3 _ _ hg)
      rw [ev, eq1, em] at dg
      have fq : f q0 = if q0.2.1 then kds r.mark r.sh else [] := by rw [ff]; show (if q0.2.1 then kds q0.1 (shB rs q0.1) else []) = _; rw [em, shB_at (findR_nd nd hr)]
      have et : (rl.take (i + 1)).flatMap f = (rl.take i).flatMap f ++ f q0 := by rw [List.take_succ, hq0, Option.toList_some, List.flatMap_append, List.flatMap_cons, List.flatMap_nil, List.append_nil]
      have l3 : us.length ≤ 2 * i := by
        have := flat_lenK lf (rl.take i)
        rw [pair_len' pr]
        rw [List.length_take] at this
        omega
      rw [et, fq]
      refine ⟨_, rfl, _, rfl, _, _, _, _, rfl, rfl, SqL.of (s3 _ _ hp), atI_nat (j := 0) rfl, g, _, rfl, dg, _, _, _, _, rfl, rfl, SqL.of (s3 _ _ hq1), atI_nat (j := 0) rfl, _, rfl, ?_⟩
      cases hst : q0.2.1 with
      | false => exact iteNo rfl ⟨_, us, rfl, b3, hu3, by rw [if_neg Bool.false_ne_true, List.append_nil]; exact pr⟩
      | true =>
        refine iteYes rfl ⟨_, rfl, .inl ⟨rfl, _, SqL.of hu3⟩, _, rfl, _, _, _, _, rfl, rfl, SqL.of (s3 _ _ hp), atI_nat (j := 0) rfl, by show 2 ≤ sizeLine; decide, fun e ne => ?_⟩
        have s6 := same_new (o := .tup [.str r.mark, .str "own"]) ne
        have neu : e ≠ u := (ne_of_none hu3 ne).symm
        refine ⟨_, _, _, rfl, rfl, s6 _ _ hu3, by omega, ?_⟩
        have b6 : But u H3 (upd (upd H3 e (.tup [.str r.mark, .str "own"])) u (.lst (us ++ [.ref e]))) := fun c o n h => by rw [upd_ne n]; exact s6 _ _ h
        have hu6 : (upd (upd H3 e (.tup [.str r.mark, .str "own"])) u (.lst (us ++ [.ref e]))) u = some (.lst (us ++ [.ref e])) := upd_same
        have p6 : Paired (KdV (upd (upd H3 e (.tup [.str r.mark, .str "own"])) u (.lst (us ++ [.ref e])))) (us ++ [.ref e]) ((rl.take i).flatMap f ++ [((r.mark, "own") : Kd)]) := by
          refine pair_app' (L2.Paired.mapP pr fun _ _ h => h.but hu3 b6) (.cons ⟨e, rfl, ?_⟩ .nil)
          rw [upd_ne neu]; exact upd_same
        revert b6 hu6 p6
        generalize upd (upd H3 e (.tup [.str r.mark, .str "own"])) u (.lst (us ++ [.ref e])) = H6
        intro b6 hu6 p6
        have s36 := same_butK s1 nu (b3.trans b6)
        refine ⟨_, rfl, _, _, _, _, rfl, rfl, SqL.of (s36 _ _ hp), atI_nat (j := 4) rfl, _, rfl, ?_⟩
        cases hsh : r.sh with
        | false => exact iteNo rfl ⟨_, _, rfl, b3.trans b6, hu6, by rw [if_pos rfl]; exact p6⟩
        | true =>
          refine iteYes rfl ⟨_, rfl, .inl ⟨rfl, _, SqL.of hu6⟩, _, rfl, _, _, _, _, rfl, rfl, SqL.of (s36 _ _ hp), atI_nat (j := 0) rfl, by show 2 ≤ sizeLine; decide, fun e2 ne2 => ?_⟩
          have s7 := same_new (o := .tup [.str r.mark, .str "share"]) ne2
          have neu2 : e2 ≠ u := (ne_of_none hu6 ne2).symm
          refine ⟨_, _, _, rfl, rfl, s7 _ _ hu6, by rw [List.length_append]; simp; omega, ?_⟩
          have b7 : But u H6 (upd (upd H6 e2 (.tup [.str r.mark, .str "share"])) u (.lst (us ++ [.ref e] ++ [.ref e2]))) := fun c o n h => by rw [upd_ne n]; exact s7 _ _ h
          refine ⟨_, _, rfl, (b3.trans b6).trans b7, upd_same, ?_⟩
          rw [if_pos rfl, show kds r.mark true = [((r.mark, "own") : Kd)] ++ [((r.mark, "share") : Kd)] from rfl, ← List.append_assoc]
          refine pair_app' (L2.Paired.mapP p6 fun _ _ h => h.but hu6 b7) (.cons ⟨e2, rfl, ?_⟩ .nil)
          rw [upd_ne neu2]; exact upd_same
    · rintro σ H3 ⟨x3, us, rfl, b3, hu3, pr⟩
      rw [lw, ← lrl, List.take_length, ff] at pr
      exact ⟨_, rfl, q u us H3 (same_butK s1 nu b3) nu hu3 pr⟩
set_option maxHeartbeats 16000000 in
set_option pp.maxSteps 600 in
theorem ok__law_supply (T : Txt K mg) : FnOk PP w K mg base CX0 1 T.a__law_supply T.fd__law_supply ["_law_rows_here", "_law_row", "_law_kind", "_law_names"] spLSupply := by
  refine T.F__law_supply.ok sc__law_supply (fun vs H Q E h => ?_) (fun cdv A outer s H vs Q E hr h => ?_)
  · obtain ⟨R, p, kk, n, ws, rs, r, k, ns, rfl, _⟩ := h; rfl
  · obtain ⟨R, p, kk, n, ws, rs, r, k, ns, rfl, hR, rR, nd, lr, ⟨pp, hp, hpp⟩, sub, hk, hn, ok, q⟩ := h
    refine ⟨_, (pss_cons (ps_setLc (i := 4) (own := [("_law_one", 5)]) (g := (gName 5)) (by rfl) sc__law_supply.nd rfl rfl (sw_true rfl rfl rfl (by decide +kernel)) (pi_list (pv 0)) (blkOk_by (own := [("_law_one", 5)]) (N := ["_law_rows_here", "_law_row", "_law_kind", "_law_names", "_law_near", "_law_one", "_law_amounts"]) (sc := defScope S__law_supply) (by decide +kernel)) (fun _ _ _ _ _ => (pg_name (i := 5) sc__law_supply.nd rfl (by first | exact .inl rfl | exact .inr rfl))) (fun _ _ _ _ _ => (pts_one (PW.pt (pw_and (pt_cmpR (inK (K := K) rfl) (pe_ix (ixLK (K := K) rfl) (pv 5) (pe_int) (fun _ _ => rfl)) (pe_ix (ixLK (K := K) rfl) (pv 1) (pe_int) (fun _ _ => rfl)) (by with_unfolding_all rfl)) (pw_and1 (pt_cmpR (inK (K := K) rfl) (pe_ix (ixLK (K := K) rfl) (pv 5) (pe_int) (fun _ _ => rfl)) (pv 3) (by with_unfolding_all rfl))))))) (fun _ _ _ _ _ => (pv 5)))
      (pss_cons (ps_set (i := 6) sc__law_supply.nd rfl (.inl rfl) (pe_lst (pa_cons (pe_int) (pa_cons (pe_int) (pa_cons (pe_int) pa_nil)))))
      (C8.pss_cut (ps_if (PW.pt (pw_and (pt_cmpR op_in_seq (pe_ix ix_tup (pv 2) (pe_int) (fun _ _ => rfl)) (pe_ix ix_list (pv 1) (pe_int) (fun _ _ => rfl)) (by with_unfolding_all rfl)) (pw_and1 (pt_cmpR op_eq (pe_ix ix_tup (pv 2) (pe_int) (fun _ _ => rfl)) (pe_str) (nomark _))))) (pss_one (ps_set (i := 6) sc__law_supply.nd rfl (.inl rfl) (pe_lst (pa_cons (pe_int) (pa_cons (pe_int) (pa_cons (pe_int) pa_nil)))))) pss_nil)
      (C8.pss_cut (ps_if (PW.pt (pw_and (pt_cmpR op_in_seq (pe_ix ix_tup (pv 2) (pe_int) (fun _ _ => rfl)) (pe_ix ix_list (pv 1) (pe_int) (fun _ _ => rfl)) (by with_unfolding_all rfl)) (pw_and1 (pt_cmpR op_eq (pe_ix ix_tup (pv 2) (pe_int) (fun _ _ => rfl)) (pe_str) (nomark _))))) (pss_one (ps_set (i := 6) sc__law_supply.nd rfl (.inl rfl) (pe_lst (pa_cons (pe_int) (pa_cons (pe_int) (pa_cons (pe_int) pa_nil)))))) pss_nil)
      (C8.pss_cut (ps_if (pt_cmpR op_gt (pe_callB call_len_seq (by rfl) T.n_len (by decide +kernel) (pa_cons (pv 4) pa_nil)) (pe_int) (nomark _)) (pss_one (ps_set (i := 6) sc__law_supply.nd rfl (.inl rfl) (pe_lst (pa_cons (pe_int) (pa_cons (pe_int) (pa_cons (pe_ix ix_list (pv 6) (pe_int) (fun _ _ => rfl)) pa_nil)))))) pss_nil)
      (C8.pss_cut (ps_if (pt_cmpR op_gt (pe_callB call_len_seq (by rfl) T.n_len (by decide +kernel) (pa_cons (pe_lc (own := [("_law_one", 5)]) (g := (gName 5)) (by rfl) sc__law_supply.nd (pi_list (pv 4)) (blkOk_by (own := [("_law_one", 5)]) (N := ["_law_rows_here", "_law_row", "_law_kind", "_law_names", "_law_near", "_law_one", "_law_amounts"]) (sc := defScope S__law_supply) (by decide +kernel)) (fun _ _ _ _ _ => (pg_name (i := 5) sc__law_supply.nd rfl (by first | exact .inl rfl | exact .inr rfl))) (fun _ _ _ _ _ => (pts_one (pt_val (pe_ix (ixLK (K := K) rfl) (pv 5) (pe_int) (fun _ _ => rfl))))) (fun _ _ _ _ _ => (pv 5))) pa_nil)) (pe_int) (nomark _)) (pss_one (ps_set (i := 6) sc__law_supply.nd rfl (.inl rfl) (pe_lst (pa_cons (pe_int) (pa_cons (pe_int) (pa_cons (pe_int) pa_nil)))))) pss_nil)
      (pss_one (ps_ret (pv 6))))))))), ?_⟩
    have big : 100000 < sizeLine := by decide
    have lw := pair_len' rR
    obtain ⟨fl, efl⟩ : ∃ fl : Row → Bool, fl = fun q => decide (q.mark ∈ r.pars) && decide (q.mark ∈ ns) := ⟨_, rfl⟩
    refine ⟨_, rfl, R, rfl, ⟨_, SqL.of hR⟩, fun D hD => lc_list (K := K) (a := R) (xs := ws) (fun i H' => ∃ us, Same H H' ∧ H' D = some (.lst us) ∧ RowsN (fun a => a ≠ D) true H' us ((rs.take i).filter fl)) ⟨[], same_new hD, upd_same, by rw [List.take_zero]; exact .nil⟩ (fun i H' _ ⟨_, s, _⟩ => SqL.of (s _ _ hR)) ?_ ?_⟩
    · rintro i v H1 hv ⟨us, s1, h1, pr⟩
      obtain ⟨r2, hr2, p2, pp2, rfl, _, _, hp2, hpp2⟩ := pair_get' rR hv
      have hp2 : H p2 = some (.lst (rowL r2 pp2)) := hp2
      have hpp2 : H pp2 = some (.lst (r2.pars.map V.str)) := hpp2
      have hi := (List.getElem?_eq_some_iff.mp hr2).1
      have et : (rs.take (i + 1)).filter fl = (rs.take i).filter fl ++ (if fl r2 then [r2] else []) := by
        rw [List.take_succ, hr2, Option.toList_some, List.filter_append]
        congr 1
        cases e : fl r2 <;> simp [e]
      have lu : us.length ≤ i := by
        rw [pair_len' pr]
        have := List.length_filter_le fl (rs.take i)
        rw [List.length_take] at this
        omega
      have fr : fl r2 = (decide (r2.mark ∈ r.pars) && decide (r2.mark ∈ ns)) := by rw [efl]
      rw [et, fr]
      refine ⟨rfl, _, rfl, _, _, _, _, rfl, rfl, SqL.of (s1 _ _ hp2), atI_nat (j := 0) rfl, _, rfl, _, _, _, _, rfl, rfl, SqL.of (s1 _ _ hp), atI_nat (j := 1) rfl, pp, _, rfl, .inl (SqL.of (s1 _ _ hpp)), rfl, flat_strs _, ?_⟩
      rw [show (if false = true then !inV (V.str r2.mark) (r.pars.map V.str) else inV (V.str r2.mark) (r.pars.map V.str)) = decide (r2.mark ∈ r.pars) by rw [if_neg Bool.false_ne_true, in_strs]]
      refine ⟨_, rfl, iteD (fun c => ?_) (fun c => ?_)⟩
      · refine ⟨_, rfl, _, _, _, _, rfl, rfl, SqL.of (s1 _ _ hp2), atI_nat (j := 0) rfl, _, rfl, n, _, rfl, .inl (SqL.of (s1 _ _ hn)), rfl, flat_strs _, ?_⟩
        rw [show (if false = true then !inV (V.str r2.mark) (ns.map V.str) else inV (V.str r2.mark) (ns.map V.str)) = decide (r2.mark ∈ ns) by rw [if_neg Bool.false_ne_true, in_strs]]
        refine ⟨_, rfl, iteD (fun c2 => ?_) (fun c2 => ?_)⟩
        · refine ⟨_, rfl, us, h1, by omega, us ++ [.ref p2], same_mut s1 hD, upd_same, ?_⟩
          rw [decide_eq_true c, decide_eq_true c2]
          have n2 : p2 ≠ D := ne_of_none hp2 hD
          have n3 : pp2 ≠ D := ne_of_none hpp2 hD
          refine pair_app' (rowsN_le pr fun a o f e => by rw [upd_ne f]; exact e) (.cons ⟨p2, pp2, rfl, n2, n3, ?_, ?_⟩ .nil)
          · rw [upd_ne n2]; exact s1 _ _ hp2
          · rw [upd_ne n3]; exact s1 _ _ hpp2
        · exact ⟨us, s1, h1, by rw [decide_eq_true c, decide_eq_false c2]; simpa using pr⟩
      · exact ⟨us, s1, h1, by rw [decide_eq_false c]; simpa using pr⟩
    rintro H1 ⟨us, s1, h1, pr⟩
    rw [lw, List.take_length] at pr
    have lus := pair_len' pr
    have eN := near_iff (ns := ns) sub
    have eS := nsh_iff (ns := ns) nd sub
    rw [← efl] at eN eS
    rw [← lus] at eN
    have lu1 : us.length ≤ 100 := by
      rw [lus]
      have := List.length_filter_le fl rs
      omega
    have n1 : ¬ (Str.ofString "own" = Str.ofString "share") := by decide +kernel
    have n2 : ¬ (Str.ofString "share" = Str.ofString "own") := by decide +kernel
    obtain ⟨k1, k2⟩ := k
    have ok : k2 = "own" ∨ k2 = "share" := ok
    refine ⟨by show 3 ≤ sizeLine; decide, fun A nA => ?_⟩
    have s2 := s1.trans (same_new (o := .lst [.int 0, .int 0, .int 0]) nA)
    have hA2 : (upd H1 A (.lst [.int 0, .int 0, .int 0])) A = some (.lst [.int 0, .int 0, .int 0]) := upd_same
    have h2D := same_new (o := .lst [.int 0, .int 0, .int 0]) nA _ _ h1
    have pr2 := rowsN_same pr (same_new (o := .lst [.int 0, .int 0, .int 0]) nA)
    have nA0 := s1.free nA
    revert s2 hA2 h2D pr2
    generalize upd H1 A (.lst [.int 0, .int 0, .int 0]) = H2
    intro s2 hA2 h2D pr2
    -- own
    refine ⟨fun σ' H' => ∃ A, H A = none ∧ σ' = [some (.ref R), some (.ref p), some (.ref kk), some (.ref n), some (.ref D), none, some (.ref A)] ∧ Same H2 H' ∧ H' A = some (.lst [.int (if k1 ∈ r.pars ∧ k2 = "own" then 1 else 0), .int (if k1 ∈ r.pars ∧ k2 = "own" then 1 else 0), .int 0]), ?_, ?_⟩
    · refine ⟨_, rfl, _, _, _, _, rfl, rfl, SqT.of (s2 _ _ hk), atI_nat (j := 0) rfl, _, rfl, _, _, _, _, rfl, rfl, SqL.of (s2 _ _ hp), atI_nat (j := 1) rfl, pp, _, rfl, .inl (SqL.of (s2 _ _ hpp)), rfl, flat_strs _, ?_⟩
      rw [show (if false = true then !inV (V.str k1) (r.pars.map V.str) else inV (V.str k1) (r.pars.map V.str)) = decide (k1 ∈ r.pars) by rw [if_neg Bool.false_ne_true, in_strs]]
      refine ⟨_, rfl, iteD (fun c => ?_) (fun c => ?_)⟩
      · refine ⟨_, rfl, _, _, _, _, rfl, rfl, SqT.of (s2 _ _ hk), atI_nat (j := 1) rfl, rfl, _, rfl, iteD (fun c2 => ?_) (fun c2 => ?_)⟩
        · have c2 := V.str.inj c2
          refine ⟨by show 3 ≤ sizeLine; decide, fun B nB => ⟨B, s2.free nB, rfl, same_new nB, ?_⟩⟩
          rw [upd_same, if_pos ⟨c, c2⟩]
        · refine ⟨A, nA0, rfl, Same.refl _, ?_⟩
          rw [if_neg (fun h => c2 (by rw [h.2]))]; exact hA2
      · refine ⟨A, nA0, rfl, Same.refl _, ?_⟩
        rw [if_neg (fun h => c h.1)]; exact hA2
    rintro σ H3 ⟨A, nA0, rfl, s23, hA3⟩
    have s3 := s2.trans s23
    -- share
    refine ⟨fun σ' H' => ∃ A, H A = none ∧ σ' = [some (.ref R), some (.ref p), some (.ref kk), some (.ref n), some (.ref D), none, some (.ref A)] ∧ Same H2 H' ∧ H' A = some (.lst [.int (if k1 ∈ r.pars then 1 else 0), .int (if k1 ∈ r.pars ∧ k2 = "own" then 1 else 0), .int (if k1 ∈ r.pars ∧ k2 = "share" then 1 else 0)]), ?_, ?_⟩
    · refine ⟨_, rfl, _, _, _, _, rfl, rfl, SqT.of (s3 _ _ hk), atI_nat (j := 0) rfl, _, rfl, _, _, _, _, rfl, rfl, SqL.of (s3 _ _ hp), atI_nat (j := 1) rfl, pp, _, rfl, .inl (SqL.of (s3 _ _ hpp)), rfl, flat_strs _, ?_⟩
      rw [show (if false = true then !inV (V.str k1) (r.pars.map V.str) else inV (V.str k1) (r.pars.map V.str)) = decide (k1 ∈ r.pars) by rw [if_neg Bool.false_ne_true, in_strs]]
      refine ⟨_, rfl, iteD (fun c => ?_) (fun c => ?_)⟩
      · refine ⟨_, rfl, _, _, _, _, rfl, rfl, SqT.of (s3 _ _ hk), atI_nat (j := 1) rfl, rfl, _, rfl, iteD (fun c2 => ?_) (fun c2 => ?_)⟩
        · have c2 := V.str.inj c2
          have c2 : k2 = "share" := c2
          refine ⟨by show 3 ≤ sizeLine; decide, fun B nB => ⟨B, s3.free nB, rfl, s23.trans (same_new nB), ?_⟩⟩
          rw [upd_same, c2]; simp [c, n2]
        · have c2 : ¬ k2 = "share" := fun e => c2 (by rw [e])
          have e2 := ok.resolve_right c2
          refine ⟨A, nA0, rfl, s23, ?_⟩
          rw [hA3, e2]; simp [c, n1]
      · refine ⟨A, nA0, rfl, s23, ?_⟩
        rw [hA3]; simp [c]
    rintro σ H4 ⟨A, nA0, rfl, s24, hA4⟩
    have h4D := s24 _ _ h2D
    -- near
    refine ⟨fun σ' H' => ∃ A, H A = none ∧ σ' = [some (.ref R), some (.ref p), some (.ref kk), some (.ref n), some (.ref D), none, some (.ref A)] ∧ Same H2 H' ∧ H' A = some (.lst [.int (supS r.pars ns (k1, k2)), .int (supO r.pars ns (k1, k2)), .int (if k1 ∈ r.pars ∧ k2 = "share" then 1 else 0)]), ?_, ?_⟩
    · unfold supS supO
      refine ⟨_, rfl, D, _, rfl, .inl (SqL.of h4D), _, _, rfl, rfl, _, rfl, ?_⟩
      rw [eN]
      cases e : nearB r.pars ns with
      | true =>
        refine iteYes rfl ⟨_, rfl, _, _, _, _, rfl, rfl, SqL.of hA4, atI_nat (j := 2) rfl, by show 3 ≤ sizeLine; decide, fun B nB => ⟨B, (s2.trans s24).free nB, rfl, s24.trans (same_new nB), ?_⟩⟩
        rw [upd_same]; rfl
      | false => exact iteNo rfl ⟨A, nA0, rfl, s24, hA4⟩
    rintro σ H5 ⟨A, nA0, rfl, s25, hA5⟩
    have h5D := s25 _ _ h2D
    have pr5 := rowsN_same pr2 s25
    -- shared
    refine ⟨fun σ' H' => ∃ A, H A = none ∧ σ' = [some (.ref R), some (.ref p), some (.ref kk), some (.ref n), some (.ref D), none, some (.ref A)] ∧ Same H2 H' ∧ H' A = some (.lst [.int (supS r.pars ns (k1, k2)), .int (supO r.pars ns (k1, k2)), .int (supH rs r.pars ns (k1, k2))]), ?_, ?_⟩
    · refine ⟨_, rfl, D, rfl, ⟨_, SqL.of h5D⟩, fun F hF => lc_list (K := K) (a := D) (xs := us) (fun i H' => ∃ fs, Same H5 H' ∧ H' F = some (.lst fs) ∧ fs.length = (((rs.filter fl).take i).filter (·.sh)).length) ⟨[], same_new hF, upd_same, by rw [List.take_zero]; rfl⟩ (fun i H' _ ⟨_, s, _⟩ => SqL.of (s _ _ h5D)) ?_ ?_⟩
      · rintro i v H6 hv ⟨fs, s6, h6, l6⟩
        obtain ⟨r2, hr2, p2, pp2, rfl, _, _, hp2, _⟩ := pair_get' pr5 hv
        have hp2 : H5 p2 = some (.lst (rowL r2 pp2)) := hp2
        have hi := (List.getElem?_eq_some_iff.mp hr2).1
        have lf : fs.length ≤ i := by
          have := List.length_filter_le (fun r : Row => r.sh) ((rs.filter fl).take i)
          rw [List.length_take] at this
          omega
        have et : (((rs.filter fl).take (i + 1)).filter (·.sh)).length = (((rs.filter fl).take i).filter (·.sh)).length + (if r2.sh then 1 else 0) := by
          rw [List.take_succ, hr2, Option.toList_some, List.filter_append, List.length_append]
          congr 1
          cases e : r2.sh <;> simp [e]
        refine ⟨rfl, _, rfl, _, _, _, _, rfl, rfl, SqL.of (s6 _ _ hp2), atI_nat (j := 4) rfl, _, rfl, ?_⟩
        rw [et]
        cases hsh : r2.sh with
        | true => exact iteT ⟨_, rfl, fs, h6, by omega, fs ++ [.ref p2], same_mut s6 hF, upd_same, by rw [List.length_append, l6]; rfl⟩
        | false => exact iteNo rfl ⟨fs, s6, h6, l6⟩
      rintro H6 ⟨fs, s6, h6, l6⟩
      rw [lus, List.take_length] at l6
      rw [← l6] at eS
      refine ⟨F, _, rfl, .inl (SqL.of h6), _, _, rfl, rfl, _, rfl, ?_⟩
      rw [eS]
      cases e : nshB rs r.pars ns with
      | true =>
        have e2 : nearB r.pars ns = true := by
          cases e2 : nearB r.pars ns with
          | true => rfl
          | false => rw [nsh_near e2] at e; cases e
        refine iteYes rfl ⟨by show 3 ≤ sizeLine; decide, fun B nB => ⟨B, ((s2.trans s25).trans s6).free nB, rfl, (s25.trans s6).trans (same_new nB), ?_⟩⟩
        rw [upd_same]
        unfold supS supO supH
        rw [e, e2]; rfl
      | false =>
        refine iteNo rfl ⟨A, nA0, rfl, s25.trans s6, ?_⟩
        rw [s6 _ _ hA5]
        unfold supH
        rw [e]; rfl
    rintro σ H7 ⟨A, nA0, rfl, s27, hA7⟩
    exact ⟨_, rfl, q A H7 (s2.trans s27) nA0 hA7⟩
set_option maxHeartbeats 16000000 in
set_option pp.maxSteps 600 in
theorem ok__law_fits (T : Txt K mg) : FnOk PP w K mg base CX0 2 T.a__law_fits T.fd__law_fits ["_law_rows_here", "_law_row", "_law_way_here", "_law_count", "_law_kind", "_law_names"] spLFits := by
  refine T.F__law_fits.ok sc__law_fits (fun vs H Q E h => ?_) (fun cdv A outer s H vs Q E hr h => ?_)
  · obtain ⟨R, p, wq, kk, n, c, ws, rs, r, wv, k, ns, rfl, _⟩ := h; rfl
  · obtain ⟨R, p, wq, kk, n, c, ws, rs, r, wv, k, ns, rfl, hR, rR, nd, lr, rp, sub, hw, w2, w3, c0, hk, hn, ok, q⟩ := h
    refine ⟨_, (pss_cons (ps_set (i := 6) sc__law_fits.nd rfl (.inl rfl) (pe_call (ok__law_supply T) (hr.mono (by omega)) (by rfl) T.g__law_supply T.F__law_supply.kp T.b__law_supply .nil pass0 (pa_cons (pv 0) (pa_cons (pv 1) (pa_cons (pv 4) (pa_cons (pv 5) pa_nil))))))
      (pss_cons (ps_set (i := 7) sc__law_fits.nd rfl (.inl rfl) (pe_call (ok__law_number T) (hr.mono (by omega)) (by rfl) T.g__law_number T.F__law_number.kp T.b__law_number .nil pass0 (pa_cons (pe_ix ix_list (pv 2) (pe_int) (fun _ _ => rfl)) (pa_cons (pv 3) pa_nil))))
      (pss_one (ps_ret (pe_and (pe_cmpR op_le (pv 7) (pv 3) (nomark _)) (pe_and (pe_cmpR op_le (pv 7) (pe_ix ix_list (pv 6) (pe_int) (fun _ _ => rfl)) (nomark _)) (pe_one (pe_cmpR op_le (pe_call (ok__law_number T) (hr.mono (by omega)) (by rfl) T.g__law_number T.F__law_number.kp T.b__law_number .nil pass0 (pa_cons (pe_ix ix_list (pv 2) (pe_int) (fun _ _ => rfl)) (pa_cons (pv 3) pa_nil))) (pe_ix ix_list (pv 6) (pe_int) (fun _ _ => rfl)) (nomark _))))))))), ?_⟩
    refine ⟨_, rfl, _, rfl, _, rfl, _, rfl, R, p, kk, n, ws, rs, r, k, ns, rfl, hR, rR, nd, lr, rp, sub, hk, hn, ok, fun u H1 s1 nu hu => ?_⟩
    have hw1 : H1 wq = some (.lst [.int (wv.1 : Nat), .int (wv.2.1 : Nat), .int (wv.2.2.1 : Nat), .bl wv.2.2.2]) := s1 _ _ hw
    have q1 := q H1 s1
    unfold fitB at q1
    refine ⟨_, rfl, _, _, _, _, rfl, rfl, SqL.of hw1, atI_nat (j := 2) rfl, _, rfl, wv.2.2.1, c, rfl, w3, c0, ?_⟩
    refine ⟨_, rfl, _, rfl, _, _, rfl, rfl, _, rfl, iteD (fun c1 => ?_) (fun c1 => ?_)⟩
    · rw [decide_eq_true c1] at q1
      refine ⟨_, rfl, _, rfl, _, _, _, _, rfl, rfl, SqL.of hu, atI_nat (j := 0) rfl, _, _, rfl, rfl, _, rfl, iteD (fun c2 => ?_) (fun c2 => ?_)⟩
      · rw [decide_eq_true c2] at q1
        exact ⟨_, rfl, _, _, _, _, rfl, rfl, SqL.of hw1, atI_nat (j := 1) rfl, _, rfl, wv.2.1, c, rfl, w2, c0, _, rfl, _, _, _, _, rfl, rfl, SqL.of hu, atI_nat (j := 1) rfl, _, _, rfl, rfl, q1⟩
      · rw [decide_eq_false c2] at q1
        exact q1
    · rw [decide_eq_false c1] at q1
      exact q1
end
end My

namespace My
open PySem L2
def spPAt (C Cw : Addr) : Sp := fun vs H Q _ => ∃ (y x m a b : Addr) (rl : List Rl) (z : Str) (r : Rl), vs = [.ref y, .str z] ∧ Pol C Cw H y x m a b rl ∧ lookR rl z = some r ∧ ∀ H', Same H H' → Q (.bl r.2.1) H'
def spPWays (C Cw : Addr) : Sp := fun vs H Q _ => ∃ (y x m a b : Addr) (rl : List Rl) (z : Str) (r : Rl), vs = [.ref y, .str z] ∧ Pol C Cw H y x m a b rl ∧ lookR rl z = some r ∧ ∀ t H', Same H H' → WysT Cw H' t r.2.2 → Q (.ref t) H'
section
variable {w : World} {K : PySem.W.Frag} {mg : Str → Option Value} {base : Heap}
theorem ok_Policy_starts_at (T : Txt K mg) : FnOk PP w K mg base CX0 3 T.a_Policy_starts_at T.fd_Policy_starts_at ["self", "mark"] (spPAt T.c_Policy T.c_Way) := by
  refine T.F_Policy_starts_at.ok sc_Policy_starts_at (fun vs H Q E h => ?_) (fun cdv A outer s H vs Q E hr h => ?_)
  · obtain ⟨y, x, m, a, b, rl, z, r, rfl, _⟩ := h; rfl
  · obtain ⟨y, x, m, a, b, rl, z, r, rfl, P, hz, q⟩ := h
    refine ⟨_, (pss_one (ps_ret (pe_ix ix_tup (pe_getI T.m_Policy_getitem T.fi_Policy_getitem (ok_Policy_getitem T) (hr.mono (by omega)) T.b_Policy_getitem pass0 (pv 0) (pv 1)) (pe_int) (fun _ _ => rfl)))), ?_⟩
    obtain ⟨dy, hy⟩ := P.obj
    exact ⟨_, rfl, _, rfl, y, dy, _, rfl, hy, y, x, m, a, b, rl, z, r, rfl, P, hz, fun u t H' s nu hu ht => ⟨_, _, _, _, rfl, rfl, SqT.of hu, atI_nat (j := 0) rfl, q H' s⟩⟩
theorem ok_Policy_ways_of (T : Txt K mg) : FnOk PP w K mg base CX0 3 T.a_Policy_ways_of T.fd_Policy_ways_of ["self", "mark"] (spPWays T.c_Policy T.c_Way) := by
  refine T.F_Policy_ways_of.ok sc_Policy_ways_of (fun vs H Q E h => ?_) (fun cdv A outer s H vs Q E hr h => ?_)
  · obtain ⟨y, x, m, a, b, rl, z, r, rfl, _⟩ := h; rfl
  · obtain ⟨y, x, m, a, b, rl, z, r, rfl, P, hz, q⟩ := h
    refine ⟨_, (pss_one (ps_ret (pe_ix ix_tup (pe_getI T.m_Policy_getitem T.fi_Policy_getitem (ok_Policy_getitem T) (hr.mono (by omega)) T.b_Policy_getitem pass0 (pv 0) (pv 1)) (pe_int) (fun _ _ => rfl)))), ?_⟩
    obtain ⟨dy, hy⟩ := P.obj
    exact ⟨_, rfl, _, rfl, y, dy, _, rfl, hy, y, x, m, a, b, rl, z, r, rfl, P, hz, fun u t H' s nu hu ht => ⟨_, _, _, _, rfl, rfl, SqT.of hu, atI_nat (j := 1) rfl, q t H' s ht⟩⟩
end
end My

namespace My
open PySem L2
/-! ### what a kind reaches: rounds -/
def rungW (r : Row) (ns : List Str) (k : Kd) (w : Wv) : Bool := (List.range (r.most - r.least + 1).toNat).any fun j => fitB r ns k w (r.least + ((j : Nat) : Int))
def rungB (r : Row) (ws : List Wv) (ns : List Str) (k : Kd) : Bool := ws.any (rungW r ns k)
def waysL (P : List Rl) (z : Str) : List Wv := ((lookR P z).map (·.2.2)).getD []
def stepL (P : List Rl) (k : Kd) (ns : List Str) (r : Row) : List Str := if r.mark ∈ ns then ns else if rungB r (waysL P r.mark) ns k then ns ++ [r.mark] else ns
def roundL (rs : List Row) (P : List Rl) (k : Kd) (ns : List Str) : List Str := rs.foldl (stepL P k) ns
def roundsL (rs : List Row) (P : List Rl) (k : Kd) : Nat → List Str
  | 0 => []
  | n + 1 => roundL rs P k (roundsL rs P k n)
def namesL (rs : List Row) (P : List Rl) (k : Kd) : List Str := roundsL rs P k rs.length
def reachL (rs : List Row) (P : List Rl) (k : Kd) : List Str := (mks rs).filter fun z => decide (z ∈ namesL rs P k)
section
variable {rs : List Row} {P : List Rl} {k : Kd}
theorem stepL_le (ns : List Str) (r : Row) : ns.length ≤ (stepL P k ns r).length := by
  unfold stepL; split
  · exact Nat.le_refl _
  · split
    · rw [List.length_append]; exact Nat.le_add_right _ _
    · exact Nat.le_refl _
theorem stepL_eq {ns : List Str} {r : Row} (h : (stepL P k ns r).length = ns.length) : stepL P k ns r = ns := by
  unfold stepL at h ⊢; split
  · rfl
  · rename_i c; rw [if_neg c] at h; split
    · rename_i c2; rw [if_pos c2, List.length_append] at h; simp at h
    · rfl
theorem foldL_le : ∀ (l : List Row) (ns : List Str), ns.length ≤ (l.foldl (stepL P k) ns).length
  | [], _ => Nat.le_refl _
  | r :: l, ns => Nat.le_trans (stepL_le ns r) (foldL_le l _)
theorem foldL_eq : ∀ (l : List Row) (ns : List Str), (l.foldl (stepL P k) ns).length = ns.length → l.foldl (stepL P k) ns = ns ∧ ∀ r ∈ l, stepL P k ns r = ns
  | [], _, _ => ⟨rfl, fun _ h => nomatch h⟩
  | r :: l, ns, h => by
    have h1 := stepL_le (P := P) (k := k) ns r
    have h2 := foldL_le (P := P) (k := k) l (stepL P k ns r)
    have h : (l.foldl (stepL P k) (stepL P k ns r)).length = ns.length := h
    have e := stepL_eq (P := P) (k := k) (ns := ns) (r := r) (by omega)
    rw [e] at h
    obtain ⟨a, b⟩ := foldL_eq l ns h
    refine ⟨by rw [List.foldl_cons, e, a], fun q hq => ?_⟩
    rcases List.mem_cons.mp hq with rfl | hq
    · exact e
    · exact b q hq
theorem stepL_sub {ns : List Str} {r : Row} {z : Str} (h : z ∈ stepL P k ns r) : z ∈ ns ∨ z = r.mark := by
  unfold stepL at h; split at h
  · exact .inl h
  · split at h
    · rcases List.mem_append.mp h with h | h
      · exact .inl h
      · exact .inr (List.mem_singleton.mp h)
    · exact .inl h
theorem stepL_nd {ns : List Str} {r : Row} (h : ns.Nodup) : (stepL P k ns r).Nodup := by
  unfold stepL; split
  · exact h
  · rename_i c; split
    · refine List.nodup_append.mpr ⟨h, by simp, fun a ha b hb e => ?_⟩
      rw [List.mem_singleton.mp hb] at e
      exact c (e ▸ ha)
    · exact h
theorem foldL_ok {ms : List Str} : ∀ (l : List Row) (ns : List Str), (∀ r ∈ l, r.mark ∈ ms) → ns.Nodup → (∀ z ∈ ns, z ∈ ms) → (l.foldl (stepL P k) ns).Nodup ∧ ∀ z ∈ l.foldl (stepL P k) ns, z ∈ ms
  | [], _, _, nd, s => ⟨nd, s⟩
  | r :: l, ns, hm, nd, s => foldL_ok l _ (fun q hq => hm q (List.mem_cons_of_mem _ hq)) (stepL_nd nd) fun z hz => (stepL_sub hz).elim (s z) fun e => e ▸ hm r List.mem_cons_self
theorem roundsL_ok (n : Nat) : (roundsL rs P k n).Nodup ∧ ∀ z ∈ roundsL rs P k n, z ∈ mks rs := by
  induction n with
  | zero => exact ⟨List.nodup_nil, fun _ h => nomatch h⟩
  | succ n ih => exact foldL_ok rs _ (fun r hr => List.mem_map.mpr ⟨r, hr, rfl⟩) ih.1 ih.2
theorem nd_len {l m : List Str} (nd : l.Nodup) (s : ∀ z ∈ l, z ∈ m) : l.length ≤ m.length := List.Nodup.length_le_of_subset nd fun x hx => s x hx
theorem roundsL_len (n : Nat) : (roundsL rs P k n).length ≤ rs.length := by
  have h := nd_len (roundsL_ok (rs := rs) (P := P) (k := k) n).1 (roundsL_ok n).2
  unfold mks at h
  rwa [List.length_map] at h
/-- where a round adds nothing, none does -/
theorem rounds_stay {m : Nat} (h : roundL rs P k (roundsL rs P k m) = roundsL rs P k m) : ∀ d, roundsL rs P k (m + d) = roundsL rs P k m
  | 0 => rfl
  | d + 1 => by
    show roundL rs P k (roundsL rs P k (m + d)) = _
    rw [rounds_stay h d, h]
theorem rounds_grow : ∀ n : Nat, (∃ m, m ≤ n ∧ roundL rs P k (roundsL rs P k m) = roundsL rs P k m) ∨ n + 1 ≤ (roundsL rs P k (n + 1)).length
  | 0 => by
    by_cases h : (roundL rs P k (roundsL rs P k 0)).length = (roundsL rs P k 0).length
    · exact .inl ⟨0, Nat.le_refl _, (foldL_eq rs _ h).1⟩
    · have := foldL_le (P := P) (k := k) rs (roundsL rs P k 0)
      refine .inr ?_
      show 1 ≤ (roundL rs P k (roundsL rs P k 0)).length
      have h : (roundL rs P k (roundsL rs P k 0)).length ≠ 0 := h
      omega
  | n + 1 => by
    rcases rounds_grow n with ⟨m, hm, e⟩ | l
    · exact .inl ⟨m, by omega, e⟩
    by_cases h : (roundL rs P k (roundsL rs P k (n + 1))).length = (roundsL rs P k (n + 1)).length
    · exact .inl ⟨n + 1, Nat.le_refl _, (foldL_eq rs _ h).1⟩
    · have := foldL_le (P := P) (k := k) rs (roundsL rs P k (n + 1))
      refine .inr ?_
      show n + 1 + 1 ≤ (roundL rs P k (roundsL rs P k (n + 1))).length
      unfold roundL at h ⊢
      omega
theorem names_fix : roundL rs P k (namesL rs P k) = namesL rs P k := by
  rcases rounds_grow (rs := rs) (P := P) (k := k) rs.length with ⟨m, hm, e⟩ | l
  · obtain ⟨d, hd⟩ := Nat.le.dest hm
    have := rounds_stay e d
    unfold namesL
    rw [← hd, this, e]
  · have := roundsL_len (rs := rs) (P := P) (k := k) (rs.length + 1)
    omega
theorem names_any {m : Nat} (h : (roundL rs P k (roundsL rs P k m)).length = (roundsL rs P k m).length) : roundsL rs P k m = namesL rs P k := by
  have e := (foldL_eq rs _ h).1
  rcases Nat.le_total m rs.length with c | c
  · obtain ⟨d, hd⟩ := Nat.le.dest c
    unfold namesL
    rw [← hd, rounds_stay e d]
  · obtain ⟨d, hd⟩ := Nat.le.dest c
    rw [← hd, rounds_stay names_fix d]; rfl
/-- a row that fits is among them -/
theorem names_closed {r : Row} (hr : r ∈ rs) (h : rungB r (waysL P r.mark) (namesL rs P k) k = true) : r.mark ∈ namesL rs P k := by
  have e := (foldL_eq (P := P) (k := k) rs (namesL rs P k) (by rw [show rs.foldl (stepL P k) (namesL rs P k) = namesL rs P k from names_fix])).2 r hr
  by_cases c : r.mark ∈ namesL rs P k
  · exact c
  · unfold stepL at e
    rw [if_neg c, if_pos h] at e
    have := congrArg List.length e
    rw [List.length_append] at this
    simp at this
end
end My

namespace My
open PySem L2
def LtW (k : Wv) : Prop := k.1 < 4 ∧ k.2.1 < 4 ∧ k.2.2.1 < 4
def OkW (P : List Rl) : Prop := ∀ r ∈ P, (∀ k ∈ r.2.2, LtW k) ∧ r.2.2.length ≤ 1000
theorem good_sizes {rs : List Row} (g : GoodC rs) {r : Row} (h : r ∈ rs) : 0 ≤ r.least ∧ r.least ≤ r.most ∧ r.most ≤ 4 := by
  have b := (g.row r h).2.1
  unfold sizeB at b
  simp only [Bool.and_eq_true, decide_eq_true_iff] at b
  exact ⟨b.1, b.2.1, b.2.2⟩
theorem any_take' {α : Type} {l : List α} {f : α → Bool} {i : Nat} {x : α} (h : l[i]? = some x) (e : (l.take i).any f = false) (e2 : f x = false) : (l.take (i + 1)).any f = false := by
  rw [List.take_succ, h, List.any_append, e]; simp [e2]
theorem any_rng {f : Nat → Bool} {j : Nat} (e : (List.range j).any f = false) (e2 : f j = false) : (List.range (j + 1)).any f = false := by
  rw [List.range_succ, List.any_append, e]; simp [e2]
theorem any_at {α : Type} {l : List α} {f : α → Bool} {i : Nat} {x : α} (h : l[i]? = some x) (e : f x = true) : l.any f = true := List.any_eq_true.mpr ⟨x, List.mem_of_getElem? h, e⟩
def spFirst (K : PySem.W.Frag) (Cp Cw Cs : Addr) : Sp := fun vs H Q _ => ∃ (p x m a b kk n : Addr) (z : Str) (P : List Rl) (rs : List Row) (r : Row) (q : Rl) (k : Kd) (ns : List Str), vs = [.ref p, .str z, .ref kk, .ref n] ∧ Pol Cp Cw H p x m a b P ∧ ShO Cs H x rs ∧ findR rs z = some r ∧ GoodC rs ∧ r ∈ rs ∧ lookR P z = some q ∧ (∀ k ∈ q.2.2, LtW k) ∧ H kk = some (.tup [.str k.1, .str k.2]) ∧ SqL K H n (ns.map V.str) ∧ okKd k ∧
  (rungB r q.2.2 ns k = false → ∀ H', Same H H' → Q .non H') ∧ (rungB r q.2.2 ns k = true → ∀ u i c H', Same H H' → H u = none → H' u = some (.tup [.str z, .int i, .int c]) → Q (.ref u) H')
section
variable {w : World} {K : PySem.W.Frag} {mg : Str → Option Value} {base : Heap}
set_option maxHeartbeats 16000000 in
set_option pp.maxSteps 700 in
theorem ok_first_rung (T : Txt K mg) : FnOk PP w K mg base CX0 14 T.a_first_rung T.fd_first_rung ["policy", "mark", "kind", "names"] (spFirst K T.c_Policy T.c_Way T.c_Shape) := by
  refine T.F_first_rung.ok sc_first_rung (fun vs H Q E h => ?_) (fun cdv A outer s H vs Q E hr h => ?_)
  · obtain ⟨p, x, m, a, b, kk, n, z, P, rs, r, q, k, ns, rfl, _⟩ := h; rfl
  · obtain ⟨p, x, m, a, b, kk, n, z, P, rs, r, q, k, ns, rfl, hP, S, fr, g, mr, lz, okw, hk, hn, kd, qn, qy⟩ := h
    refine ⟨_, (pss_cons (ps_set (i := 4) sc_first_rung.nd rfl (.inl rfl) (pe_getI T.m_Shape_getitem T.fi_Shape_getitem ((ok_Shape_getitem T).calm) (hr.mono (by omega)) T.b_Shape_getitem pass0 (pe_fld (pv 0) rfl) (pv 1)))
      (pss_cons (ps_for PassesOwn.never rfl (pi_enumT (by rfl) T.n_enumerate (pa_cons (pe_meth (pv 0) T.cl_Policy T.m_Policy_ways_of (ok_Policy_ways_of T) (hr.mono (by omega)) T.b_Policy_ways_of .nil pass0 (pa_cons (pv 1) pa_nil)) pa_nil)) (pg_tup rfl (pgs_cons (pg_name (i := 5) sc_first_rung.nd rfl (.inl rfl)) (pgs_cons (pg_name (i := 6) sc_first_rung.nd rfl (.inl rfl)) pgs_nil))) (pss_one (ps_for PassesOwn.never rfl (pi_range2 (by rfl) T.n_range (pa_cons (pe_ix ix_tup (pv 4) (pe_int) (fun _ _ => rfl)) (pa_cons (pe_op op_add (pe_ix ix_tup (pv 4) (pe_int) (fun _ _ => rfl)) (pe_int)) pa_nil))) (pg_name (i := 7) sc_first_rung.nd rfl (.inl rfl)) (pss_one (ps_if (pt_val (pe_call (ok_fits T) (hr.mono (by omega)) (by rfl) T.g_fits T.F_fits.kp T.b_fits .nil pass0 (pa_cons (pe_fld (pv 0) rfl) (pa_cons (pv 6) (pa_cons (pv 1) (pa_cons (pv 7) (pa_cons (pv 2) (pa_cons (pv 3) pa_nil)))))))) (pss_one (ps_ret (pe_tup (pa_cons (pv 1) (pa_cons (pv 5) (pa_cons (pv 7) pa_nil)))))) pss_nil)))))
      (pss_one (ps_ret (pe_non))))), ?_⟩
    have big : 100000 < sizeLine := by decide
    obtain ⟨z0, z1, z2⟩ := good_sizes g mr
    obtain ⟨dp, hp⟩ := hP.obj
    obtain ⟨dx, sl, sm, us, hx, _⟩ := id S
    have sub := g.pars r mr
    have lp : r.pars.length ≤ 1000 := by have := (g.bnd r mr).2; omega
    refine ⟨_, rfl, p, _, dp, _, _, rfl, hp, T.cl_Policy, T.no_Policy_shape, polF1 x m a b, _, rfl, x, dx, _, rfl, hx, x, z, rs, rfl, S, fun r' row pp fr' hrow hpp => ?_, fun e => by rw [fr] at e; cases e⟩
    rw [fr] at fr'
    obtain rfl := Option.some.inj fr'
    refine ⟨_, rfl, p, dp, _, rfl, hp, rfl, _, rfl, p, x, m, a, b, P, z, q, rfl, hP, lz, fun t H1 s1 ⟨vs, ht, pw⟩ => ?_⟩
    have lvs := pair_len' pw
    have t1 : ∀ {H' : Hp}, Same H1 H' → Same H H' := fun s => s1.trans s
    have hrow1 : ∀ {H' : Hp}, Same H1 H' → SqT K H' row (rowL r pp) := fun s => SqT.of (s _ _ (s1 _ _ hrow))
    refine ⟨t, vs, rfl, SqT.of ht, for_enumT (K := K) (a := t) (xs := vs) (fun i σ H' => ∃ (x5 x6 x7 : Option V), σ = [some (.ref p), some (.str z), some (.ref kk), some (.ref n), some (.ref row), x5, x6, x7] ∧ Same H1 H' ∧ (q.2.2.take i).any (rungW r ns k) = false) ⟨_, _, _, rfl, Same.refl _, rfl⟩ (fun i σ H' _ ⟨_, _, _, _, s, _⟩ => SqT.of (s _ _ ht)) ?_ ?_⟩
    rotate_left
    · rintro σ H2 ⟨x5, x6, x7, rfl, s2, e⟩
      rw [lvs, List.take_length] at e
      exact qn e H2 (t1 s2)
    rintro i v σ H2 TT hv ⟨x5, x6, x7, rfl, s2, e⟩ nT
    obtain ⟨wv, hwv, wy, rfl, wk⟩ := pair_get' pw hv
    have sT := same_new (o := .tup [.int (i : Nat), .ref wy]) nT
    refine ⟨TT, _, rfl, .inl (.inl upd_same), rfl, _, _, rfl, _, _, rfl, rfl, ?_⟩
    have s3 := s2.trans sT
    revert s3
    generalize upd H2 TT (.tup [.int (i : Nat), .ref wy]) = H3
    intro s3
    obtain ⟨l1, l2, l3⟩ := okw wv (List.mem_of_getElem? hwv)
    refine ⟨_, rfl, _, _, _, _, rfl, rfl, hrow1 s3, atI_nat (j := 2) rfl, _, rfl, _, _, _, _, rfl, rfl, hrow1 s3, atI_nat (j := 3) rfl, _, _, rfl, rfl, r.least, r.most + 1, rfl, ⟨by omega, by omega, by omega, by omega⟩, for_range (lo := r.least) (n := (r.most + 1 - r.least).toNat) (fun j σ H' => ∃ (x7 : Option V), σ = [some (.ref p), some (.str z), some (.ref kk), some (.ref n), some (.ref row), some (.int (i : Nat)), some (.ref wy), x7] ∧ Same H3 H' ∧ (List.range j).any (fun j => fitB r ns k wv (r.least + ((j : Nat) : Int))) = false) ⟨_, rfl, Same.refl _, rfl⟩ ?_ ?_⟩
    rotate_left
    · rintro σ H4 ⟨x7, rfl, s4, e4⟩
      refine ⟨_, _, _, rfl, s3.trans s4, any_take' hwv e ?_⟩
      unfold rungW
      rw [show (r.most - r.least + 1).toNat = (r.most + 1 - r.least).toNat by omega]
      exact e4
    rintro j σ H4 hj ⟨x7, rfl, s4, e4⟩
    have s34 := s3.trans s4
    refine ⟨_, rfl, p, _, dp, _, _, rfl, (t1 s34) _ _ hp, T.cl_Policy, T.no_Policy_shape, polF1 x m a b, _, rfl, _, rfl, _, rfl, _, rfl, _, rfl, x, wy, kk, n, z, _, rs, r, wv, k, ns, rfl, S.same (t1 s34), fr, sub, lp, Wy.same wk s34, l1, l2, l3, (t1 s34) _ _ hk, .inl ((t1 s34).seq hn), kd, fun H5 s5 => ⟨_, rfl, ?_⟩⟩
    cases ef : fitB r ns k wv (r.least + (j : Int)) with
    | false => exact iteNo rfl ⟨_, rfl, s4.trans s5, any_rng e4 ef⟩
    | true =>
      have ey : rungB r q.2.2 ns k = true := any_at hwv (by
        unfold rungW
        exact List.any_eq_true.mpr ⟨j, List.mem_range.mpr (by omega), ef⟩)
      refine iteYes rfl ⟨_, rfl, _, rfl, _, rfl, by show 3 ≤ sizeLine; decide, fun u nu => ?_⟩
      have s6 := same_new (o := .tup [.str z, .int (i : Nat), .int (r.least + (j : Int))]) nu
      exact qy ey u _ _ _ ((t1 (s34.trans s5)).trans s6) ((t1 (s34.trans s5)).free nu) upd_same
end
end My

namespace My
open PySem L2
def RungV (H : Hp) (v : V) (z : Str) : Prop := ∃ a i c, v = .ref a ∧ H a = some (.tup [.str z, .int i, .int c])
theorem RungV.same {H H' : Hp} {v : V} {z : Str} (h : RungV H v z) (s : Same H H') : RungV H' v z := let ⟨a, i, c, e, f⟩ := h; ⟨a, i, c, e, s _ _ f⟩
theorem RungV.upd {H : Hp} {A : Addr} {xs : List V} {o : HO} {v : V} {z : Str} (h : RungV H v z) (hA : H A = some (.lst xs)) : RungV (upd H A o) v z := let ⟨a, i, c, e, f⟩ := h; ⟨a, i, c, e, by rw [upd_ne (fun z => by rw [z, hA] at f; cases f)]; exact f⟩
theorem fold_take {α β : Type} {f : β → α → β} {l : List α} {i : Nat} {x : α} (b : β) (h : l[i]? = some x) : (l.take (i + 1)).foldl f b = f ((l.take i).foldl f b) x := by
  rw [List.take_add_one, h, Option.toList_some, List.foldl_append]; rfl
def lenAt (H : Hp) (B : Addr) : Nat := match H B with
  | some (.lst xs) => xs.length
  | _ => 0
theorem lenAt_of {H : Hp} {B : Addr} {xs : List V} (h : H B = some (.lst xs)) : lenAt H B = xs.length := by unfold lenAt; rw [h]
theorem look_mark {P : List Rl} {rs : List Row} {r : Row} (nd : (P.map (·.1)).Nodup) (e : P.map (·.1) = mks rs) (h : r ∈ rs) : ∃ q, lookR P r.mark = some q ∧ q ∈ P ∧ q.1 = r.mark := by
  have m : r.mark ∈ P.map (·.1) := by rw [e]; exact List.mem_map.mpr ⟨r, h, rfl⟩
  obtain ⟨q, hq, eq⟩ := List.mem_map.mp m
  obtain ⟨i, hi⟩ := List.mem_iff_getElem?.mp hq
  exact ⟨q, eq ▸ look_at nd hi, hq, eq⟩
def spLadder (K : PySem.W.Frag) (Cp Cw Cs : Addr) : Sp := fun vs H Q _ => ∃ (p x m a b kk : Addr) (P : List Rl) (rs : List Row) (k : Kd), vs = [.ref p, .ref kk] ∧ Pol Cp Cw H p x m a b P ∧ ShO Cs H x rs ∧ GoodC rs ∧ P.map (·.1) = mks rs ∧ OkW P ∧ H kk = some (.tup [.str k.1, .str k.2]) ∧ okKd k ∧
  ∀ u us H', Same H H' → H u = none → H' u = some (.lst us) → Paired (RungV H') us (namesL rs P k) → Q (.ref u) H'
section
variable {w : World} {K : PySem.W.Frag} {mg : Str → Option Value} {base : Heap}
set_option maxHeartbeats 16000000 in
set_option pp.maxSteps 700 in
theorem ok_ladder (T : Txt K mg) : FnOk PP w K mg base CX0 16 T.a_ladder T.fd_ladder ["policy", "kind"] (spLadder K T.c_Policy T.c_Way T.c_Shape) := by
  refine T.F_ladder.ok sc_ladder (fun vs H Q E h => ?_) (fun cdv A outer s H vs Q E hr h => ?_)
  · obtain ⟨p, x, m, a, b, kk, P, rs, k, rfl, _⟩ := h; rfl
  · obtain ⟨p, x, m, a, b, kk, P, rs, k, rfl, hP, S, g, eP, okP, hk, kd, qq⟩ := h
    refine ⟨_, (pss_cons (ps_set (i := 2) sc_ladder.nd rfl (.inl rfl) (pe_lst pa_nil))
      (pss_cons (ps_set (i := 3) sc_ladder.nd rfl (.inl rfl) (pe_lst pa_nil))
      (pss_cons (ps_set (i := 4) sc_ladder.nd rfl (.inl rfl) (pe_bl))
      (pss_cons (ps_while PassesOwn.never (pt_val (pv 4)) (pss_cons (ps_set (i := 4) sc_ladder.nd rfl (.inl rfl) (pe_bl))
      (pss_one (ps_for PassesOwn.never rfl (pi_own T.m_Shape_iter (ok_Shape_iter T) (hr.mono (by omega)) (pe_fld (pv 0) rfl)) (pg_name (i := 5) sc_ladder.nd rfl (.inl rfl)) (pss_one (ps_if (pt_cmpR op_notIn_seq (pv 5) (pv 3) (by with_unfolding_all rfl)) (pss_cons (ps_set (i := 6) sc_ladder.nd rfl (.inl rfl) (pe_call (ok_first_rung T) (hr.mono (by omega)) (by rfl) T.g_first_rung T.F_first_rung.kp T.b_first_rung .nil pass0 (pa_cons (pv 0) (pa_cons (pv 5) (pa_cons (pv 1) (pa_cons (pv 3) pa_nil))))))
      (pss_one (ps_if (pt_cmpR op_notN (pv 6) (pe_non) (nomark _)) (pss_cons (ps_expr (pe_bm PySem.F.plainAttrs_list PySem.F.slot_list_append PySem.F.type_list_append mt_append (pv 2) (pa_cons (pv 6) pa_nil)))
      (pss_cons (ps_expr (pe_bm PySem.F.plainAttrs_list PySem.F.slot_list_append PySem.F.type_list_append mt_append (pv 3) (pa_cons (pv 5) pa_nil)))
      (pss_one (ps_set (i := 4) sc_ladder.nd rfl (.inl rfl) (pe_bl))))) pss_nil))) pss_nil))))))
      (pss_one (ps_ret (pv 2))))))), ?_⟩
    have big : 100000 < sizeLine := by decide
    obtain ⟨dp, hp⟩ := hP.obj
    obtain ⟨dx, sl, sm, us0, hx, hsl, hrT, hsm⟩ := id S
    refine ⟨Nat.zero_le _, fun A nA => ⟨Nat.zero_le _, fun B nB => ?_⟩⟩
    have sA := same_new (o := .lst []) nA
    have sB := same_new (o := .lst []) nB
    have hA1 := sB _ _ (upd_same (H := H) (a := A) (o := .lst []))
    have hB1 : (upd (upd H A (.lst [])) B (.lst [])) B = some (.lst []) := upd_same
    have nAB : A ≠ B := fun z => by rw [← z, upd_same] at nB; cases nB
    have nB0 := sA.free nB
    have s1 := sA.trans sB
    revert hA1 hB1 s1
    generalize upd (upd H A (.lst [])) B (.lst []) = H1
    intro hA1 hB1 s1
    refine while_by (fun σ H' => ∃ (gr : Bool) (x5 x6 : Option V) (us : List V) (n : Nat), σ = [some (.ref p), some (.ref kk), some (.ref A), some (.ref B), some (.bl gr), x5, x6] ∧ Same H H' ∧ H' A = some (.lst us) ∧ H' B = some (.lst ((roundsL rs P k n).map V.str)) ∧ Paired (RungV H') us (roundsL rs P k n) ∧ (gr = false → (roundL rs P k (roundsL rs P k n)).length = (roundsL rs P k n).length)) (fun σ H' => 2 * (rs.length - lenAt H' B) + (if σ[4]? = some (some (.bl true)) then 1 else 0)) ⟨true, none, none, [], 0, rfl, s1, hA1, hB1, .nil, fun e => by cases e⟩ ?_ (fun σ H Q Q' h ⟨v, e, b, eb, q⟩ => ⟨v, e, b, eb, h _ _ q⟩)
    rintro σ H2 ⟨gr, x5, x6, us, n, rfl, s2, hA2, hB2, pr2, gf⟩
    refine ⟨_, rfl, gr, rfl, ?_⟩
    cases gr with
    | false =>
      refine iteNo rfl ⟨_, rfl, qq A us H2 s2 nA hA2 ?_⟩
      rw [← names_any (gf rfl)]; exact pr2
    | true =>
      refine iteYes rfl ?_
      have ln0 := roundsL_len (rs := rs) (P := P) (k := k) n
      obtain ⟨ok1, ok2⟩ := roundsL_ok (rs := rs) (P := P) (k := k) n
      refine ⟨_, rfl, p, _, dp, _, _, rfl, s2 _ _ hp, T.cl_Policy, T.no_Policy_shape, polF1 x m a b, x, dx, sm, _, _, rfl, s2 _ _ hx, sh_look2 _ _, SqL.of (s2 _ _ hsm), for_list (K := K) (a := sm) (xs := mksV rs) (fun i σ H' => ∃ (x5 x6 : Option V) (us' : List V) (ns' : List Str), σ = [some (.ref p), some (.ref kk), some (.ref A), some (.ref B), some (.bl (decide ((roundsL rs P k n).length < ns'.length))), x5, x6] ∧ Same H H' ∧ H' A = some (.lst us') ∧ H' B = some (.lst (ns'.map V.str)) ∧ Paired (RungV H') us' ns' ∧ ns' = (rs.take i).foldl (stepL P k) (roundsL rs P k n)) ⟨_, _, us, roundsL rs P k n, by rw [decide_eq_false (Nat.lt_irrefl _)]; rfl, s2, hA2, hB2, pr2, rfl⟩ (fun i σ H' _ ⟨_, _, _, _, _, s, _⟩ => SqL.of (s _ _ hsm)) ?_ ?_⟩
      rotate_left
      · rintro σ H3 ⟨x5, x6, us', ns', rfl, s3, hA3, hB3, pr3, e3⟩
        rw [show (mksV rs).length = rs.length by unfold mksV; rw [List.length_map], List.take_length] at e3
        have e3' : ns' = roundsL rs P k (n + 1) := e3
        subst e3'
        have le := foldL_le (P := P) (k := k) rs (roundsL rs P k n)
        have le : (roundsL rs P k n).length ≤ (roundsL rs P k (n + 1)).length := le
        refine ⟨⟨_, _, _, us', n + 1, rfl, s3, hA3, hB3, pr3, fun ef => ?_⟩, ?_⟩
        · have ef := of_decide_eq_false ef
          have e4 : roundsL rs P k (n + 1) = roundsL rs P k n := (foldL_eq (P := P) (k := k) rs (roundsL rs P k n) (by
            show (roundsL rs P k (n + 1)).length = _
            omega)).1
          rw [e4]
          show (roundsL rs P k (n + 1)).length = _
          rw [e4]
        · have l3 := roundsL_len (rs := rs) (P := P) (k := k) (n + 1)
          rw [lenAt_of hB3, lenAt_of hB2, List.length_map, List.length_map]
          show 2 * (rs.length - (roundsL rs P k (n + 1)).length) + (if some (some (V.bl (decide ((roundsL rs P k n).length < (roundsL rs P k (n + 1)).length)))) = some (some (V.bl true)) then 1 else 0) < 2 * (rs.length - (roundsL rs P k n).length) + (if some (some (V.bl true)) = some (some (V.bl true)) then 1 else 0)
          rw [if_pos (c := some (some (V.bl true)) = some (some (V.bl true))) rfl]
          by_cases c : (roundsL rs P k n).length < (roundsL rs P k (n + 1)).length
          · rw [decide_eq_true c, if_pos rfl]; omega
          · rw [decide_eq_false c, if_neg (fun e => by cases e)]; omega
      rintro i v σ H3 hv ⟨x5, x6, us', ns', rfl, s3, hA3, hB3, pr3, e3⟩
      obtain ⟨r, hr, rfl⟩ : ∃ r, rs[i]? = some r ∧ v = .str r.mark := by
        unfold mksV at hv
        rw [List.getElem?_map] at hv
        cases e : rs[i]? with
        | none => rw [e] at hv; cases hv
        | some r => rw [e] at hv; exact ⟨r, rfl, (Option.some.inj hv).symm⟩
      have mr := List.mem_of_getElem? hr
      obtain ⟨q, lz, mq, eq⟩ := look_mark hP.nd eP mr
      have fr := findR_nd g.nd hr
      have en : ns' = (rs.take i).foldl (stepL P k) (roundsL rs P k n) := e3
      obtain ⟨okn1, okn2⟩ := foldL_ok (P := P) (k := k) (ms := mks rs) (rs.take i) (roundsL rs P k n) (fun r hr => List.mem_map.mpr ⟨r, List.mem_of_mem_take hr, rfl⟩) ok1 ok2
      rw [← en] at okn1 okn2
      have ln := nd_len okn1 okn2
      have ln : ns'.length ≤ 6 := by
        have := g.len
        unfold mks at ln
        rw [List.length_map] at ln; omega
      have lus := pair_len' pr3
      have est : stepL P k ns' r = (rs.take (i + 1)).foldl (stepL P k) (roundsL rs P k n) := by rw [fold_take _ hr, ← en]
      have ew : waysL P r.mark = q.2.2 := by unfold waysL; rw [lz]; rfl
      refine ⟨_, rfl, _, rfl, B, _, rfl, .inl (SqL.of hB3), rfl, flat_strs _, ?_⟩
      rw [show (if true = true then !inV (V.str r.mark) (ns'.map V.str) else inV (V.str r.mark) (ns'.map V.str)) = !decide (r.mark ∈ ns') by rw [if_pos rfl, in_strs]]
      refine ⟨_, rfl, iteB (fun c => ?_) (fun c => ?_)⟩
      rotate_left
      · have c : r.mark ∈ ns' := by simpa using c
        have e : stepL P k ns' r = ns' := by unfold stepL; rw [if_pos c]
        exact ⟨_, _, us', ns', rfl, s3, hA3, hB3, pr3, by rw [← est, e]⟩
      have c : r.mark ∉ ns' := by simpa using c
      refine ⟨_, rfl, _, rfl, _, rfl, _, rfl, p, x, m, a, b, kk, B, r.mark, P, rs, r, q, k, ns', rfl, hP.same s3, S.same s3, fr, g, mr, lz, (okP q mq).1, s3 _ _ hk, SqL.of hB3, kd, fun ef H4 s4 => ?_, fun ef u j c2 H4 s4 nu hu => ?_⟩
      · refine ⟨_, rfl, rfl, _, rfl, iteB (fun c => by simp at c) (fun _ => ?_)⟩
        have e : stepL P k ns' r = ns' := by unfold stepL; rw [if_neg c, ew, if_neg (by rw [ef]; exact Bool.false_ne_true)]
        exact ⟨_, _, us', ns', rfl, s3.trans s4, s4 _ _ hA3, s4 _ _ hB3, L2.Paired.mapP pr3 fun _ _ h => h.same s4, by rw [← est, e]⟩
      · refine ⟨_, rfl, rfl, _, rfl, iteB (fun _ => ?_) (fun c => by simp at c)⟩
        have e : stepL P k ns' r = ns' ++ [r.mark] := by unfold stepL; rw [if_neg c, ew, if_pos ef]
        have hA4 := s4 _ _ hA3
        have hB4 := s4 _ _ hB3
        refine ⟨_, rfl, .inl ⟨rfl, _, SqL.of hA4⟩, _, rfl, _, _, _, rfl, rfl, hA4, by omega, ?_⟩
        have hB5 : (upd H4 A (.lst (us' ++ [.ref u]))) B = some (.lst (ns'.map V.str)) := by rw [upd_ne nAB.symm]; exact hB4
        refine ⟨_, rfl, .inl ⟨rfl, _, SqL.of hB5⟩, _, rfl, _, _, _, rfl, rfl, hB5, by rw [List.length_map]; omega, ?_⟩
        have lt : (roundsL rs P k n).length < (ns' ++ [r.mark]).length := by
          have := foldL_le (P := P) (k := k) (rs.take i) (roundsL rs P k n)
          rw [← en] at this
          rw [List.length_append]; simp; omega
        refine ⟨_, _, us' ++ [.ref u], ns' ++ [r.mark], by rw [decide_eq_true lt]; rfl, same_mut (same_mut (s3.trans s4) nA) nB0, by rw [upd_ne nAB]; exact upd_same, by rw [upd_same, List.map_append]; rfl, ?_, by rw [← est, e]⟩
        refine pair_app' (L2.Paired.mapP pr3 fun _ _ h => ((h.same s4).upd hA4).upd hB5) (.cons ⟨u, j, c2, rfl, ?_⟩ .nil)
        rw [upd_ne (fun z => by rw [z, hB4] at hu; cases hu), upd_ne (fun z => by rw [z, hA4] at hu; cases hu)]
        exact hu
end
end My

namespace My
open PySem L2
theorem yes_i {σ : St} {H : Hp} {Q : Bool → Hp → Prop} (h : Q true H) : tYes σ H Q := h
end My

namespace My
open PySem L2
def spReached (K : PySem.W.Frag) (Cp Cw Cs : Addr) : Sp := fun vs H Q _ => ∃ (p x m a b kk : Addr) (P : List Rl) (rs : List Row) (k : Kd), vs = [.ref p, .ref kk] ∧ Pol Cp Cw H p x m a b P ∧ ShO Cs H x rs ∧ GoodC rs ∧ P.map (·.1) = mks rs ∧ OkW P ∧ H kk = some (.tup [.str k.1, .str k.2]) ∧ okKd k ∧
  ∀ u H', Same H H' → H u = none → H' u = some (.tup ((reachL rs P k).map V.str)) → Q (.ref u) H'
theorem filter_take {α : Type} {f : α → Bool} {l : List α} {i : Nat} {x : α} (h : l[i]? = some x) : (l.take (i + 1)).filter f = (l.take i).filter f ++ (if f x = true then [x] else []) := by
  rw [List.take_add_one, h, Option.toList_some, List.filter_append]
  congr 1
  cases e : f x <;> simp [e]
section
variable {w : World} {K : PySem.W.Frag} {mg : Str → Option Value} {base : Heap}
set_option maxHeartbeats 16000000 in
set_option pp.maxSteps 700 in
theorem ok_reached (T : Txt K mg) : FnOk PP w K mg base CX0 18 T.a_reached T.fd_reached ["policy", "kind"] (spReached K T.c_Policy T.c_Way T.c_Shape) := by
  refine T.F_reached.ok sc_reached (fun vs H Q E h => ?_) (fun cdv A outer s H vs Q E hr h => ?_)
  · obtain ⟨p, x, m, a, b, kk, P, rs, k, rfl, _⟩ := h; rfl
  · obtain ⟨p, x, m, a, b, kk, P, rs, k, rfl, hP, S, g, eP, okP, hk, kd, qq⟩ := h
    refine ⟨_, (pss_cons (ps_set (i := 2) sc_reached.nd rfl (.inr rfl) (pe_lc (own := [("rung", 3)]) (g := (gName 3)) (by rfl) sc_reached.nd (pi_list (pe_call (ok_ladder T) (hr.mono (by omega)) (by rfl) T.g_ladder T.F_ladder.kp T.b_ladder .nil pass0 (pa_cons (pv 0) (pa_cons (pv 1) pa_nil)))) (blkOk_by (own := [("rung", 3)]) (N := ["policy", "kind", "names", "rung", "mark"]) (sc := defScope S_reached) (by decide +kernel)) (fun _ _ _ _ _ => (pg_name (i := 3) sc_reached.nd rfl (by first | exact .inl rfl | exact .inr rfl))) (fun _ _ _ _ _ => pts_nil) (fun _ _ _ _ _ => (pe_ix (ixTK (K := K) rfl) (pv 3) (pe_int) (fun _ _ => rfl)))))
      (pss_one (ps_ret (pe_callTy call_tuple_of (by rfl) T.n_tuple (by decide +kernel) (pa_cons (pe_lc (own := [("mark", 4)]) (g := (gName 4)) (by rfl) sc_reached.nd (pi_own T.m_Shape_iter (ok_Shape_iter T) (hr.mono (by omega)) (pe_fld (pv 0) rfl)) (blkOk_by (own := [("mark", 4)]) (N := ["policy", "kind", "names", "rung", "mark"]) (sc := defScope S_reached) (by decide +kernel)) (fun _ _ _ _ _ => (pg_name (i := 4) sc_reached.nd rfl (by first | exact .inl rfl | exact .inr rfl))) (fun _ _ _ _ _ => (pts_one (pt_cmpR (inK (K := K) rfl) (pv 4) (pv 2) (by with_unfolding_all rfl)))) (fun _ _ _ _ _ => (pv 4))) pa_nil))))), ?_⟩
    have big : 100000 < sizeLine := by decide
    obtain ⟨dp, hp⟩ := hP.obj
    obtain ⟨dx, sl, sm, us0, hx, hsl, hrT, hsm⟩ := id S
    have ln : (namesL rs P k).length ≤ 6 := by
      have := roundsL_len (rs := rs) (P := P) (k := k) rs.length
      have := g.len
      unfold namesL; omega
    refine ⟨_, rfl, _, rfl, p, x, m, a, b, kk, P, rs, k, rfl, hP, S, g, eP, okP, hk, kd, fun u us H1 s1 nu hu pr => ⟨u, rfl, ⟨_, SqL.of hu⟩, fun D hD => lc_list (K := K) (a := u) (xs := us) (fun i H' => Same H1 H' ∧ H' D = some (.lst (((namesL rs P k).take i).map V.str))) ⟨same_new hD, upd_same⟩ (fun i H' _ h => SqL.of (h.1 _ _ hu)) ?_ ?_⟩⟩
    · rintro i v H2 hv ⟨s2, h2⟩
      obtain ⟨z, hz, a0, i0, c0, rfl, hq⟩ := pair_get' pr hv
      refine ⟨rfl, ?_⟩
      refine yes_i ?_
      refine iteT ⟨_, rfl, _, _, _, _, rfl, rfl, SqT.of (s2 _ _ hq), atI_nat (j := 0) rfl, _, h2, ?_, same_mut s2 hD, ?_⟩
      · rw [List.length_map, List.length_take]; omega
      · rw [upd_same, List.take_add_one, hz, Option.toList_some, List.map_append]; rfl
    rintro H2 ⟨s2, h2⟩
    rw [pair_len' pr, List.take_length] at h2
    have s12 := s1.trans s2
    have lm := g.len
    refine ⟨_, rfl, p, _, dp, _, _, rfl, s12 _ _ hp, T.cl_Policy, T.no_Policy_shape, polF1 x m a b, x, dx, sm, _, mksV rs, rfl, s12 _ _ hx, sh_look2 _ _, SqL.of (s12 _ _ hsm), fun G hG => lc_list (K := K) (a := sm) (xs := mksV rs) (fun i H' => Same H2 H' ∧ H' G = some (.lst ((((mks rs).take i).filter fun z => decide (z ∈ namesL rs P k)).map V.str))) ⟨same_new hG, upd_same⟩ (fun i H' _ h => SqL.of (h.1 _ _ (s12 _ _ hsm))) ?_ ?_⟩
    · rintro i v H3 hv ⟨s3, h3⟩
      obtain ⟨r, hr, rfl⟩ : ∃ r, rs[i]? = some r ∧ v = .str r.mark := by
        unfold mksV at hv
        rw [List.getElem?_map] at hv
        cases e : rs[i]? with
        | none => rw [e] at hv; cases hv
        | some r => rw [e] at hv; exact ⟨r, rfl, (Option.some.inj hv).symm⟩
      have hm : (mks rs)[i]? = some r.mark := by unfold mks; rw [List.getElem?_map, hr]; rfl
      have hi := (List.getElem?_eq_some_iff.mp hr).1
      refine ⟨rfl, _, rfl, _, rfl, D, _, rfl, .inl (SqL.of (s3 _ _ h2)), rfl, flat_strs _, ?_⟩
      rw [show (if false = true then !inV (V.str r.mark) ((namesL rs P k).map V.str) else inV (V.str r.mark) ((namesL rs P k).map V.str)) = decide (r.mark ∈ namesL rs P k) by rw [if_neg Bool.false_ne_true, in_strs]]
      rw [filter_take hm]
      refine ⟨_, rfl, iteD (fun c => ?_) (fun c => ?_)⟩
      · refine ⟨_, rfl, _, h3, ?_, same_mut s3 hG, ?_⟩
        · rw [List.length_map]
          have := List.length_filter_le (fun z => decide (z ∈ namesL rs P k)) ((mks rs).take i)
          rw [List.length_take] at this
          omega
        · rw [upd_same, if_pos (decide_eq_true c), List.map_append]; rfl
      · exact ⟨s3, by rw [if_neg (by rw [decide_eq_false c]; exact Bool.false_ne_true), List.append_nil]; exact h3⟩
    rintro H3 ⟨s3, h3⟩
    rw [show (mksV rs).length = (mks rs).length by unfold mksV mks; rw [List.length_map, List.length_map], List.take_length] at h3
    have s03 := s12.trans s3
    exact ⟨G, _, rfl, .inl ⟨SqL.of h3, fun l nl => qq l _ (s03.trans (same_new nl)) (s03.free nl) upd_same⟩⟩
end
end My

namespace My
open PySem L2
def spLReached : Sp := fun vs H Q _ => ∃ (R gd kk : Addr) (ws : List V) (rs : List Row) (kvs : List (Key × V)) (P : List Rl) (k : Kd), vs = [.ref R, .ref gd, .ref kk] ∧ H R = some (.lst ws) ∧ RowsN (fun _ => True) true H ws rs ∧ GoodC rs ∧ H gd = some (.dK kvs) ∧ Paired (RdV H) kvs P ∧ P.map (·.1) = mks rs ∧ OkW P ∧ H kk = some (.tup [.str k.1, .str k.2]) ∧ okKd k ∧
  ∀ u H', Same H H' → H u = none → H' u = some (.lst ((reachL rs P k).map V.str)) → Q (.ref u) H'
def pickL (c : Bool) (ns : List Str) (z : Str) : List Str := if z ∈ ns then ns else if c = true then ns ++ [z] else ns
theorem pick_len (c : Bool) (ns : List Str) (z : Str) : (pickL c ns z).length ≤ ns.length + 1 := by
  unfold pickL; split
  · omega
  · split
    · rw [List.length_append]; simp
    · omega
theorem pick_in {c : Bool} {ns : List Str} {z : Str} (h : z ∈ pickL c ns z) {c' : Bool} (e : c = true → c' = true) : pickL c' ns z = pickL c ns z := by
  unfold pickL at h ⊢
  by_cases m : z ∈ ns
  · rw [if_pos m, if_pos m]
  · rw [if_neg m] at h
    cases c with
    | true => rw [if_neg m, if_neg m, e rfl]
    | false => rw [if_neg Bool.false_ne_true] at h; exact absurd h m
theorem pick_out {c : Bool} {ns : List Str} {z : Str} (h : z ∉ pickL c ns z) : z ∉ ns ∧ c = false ∧ pickL c ns z = ns := by
  unfold pickL at h ⊢
  by_cases m : z ∈ ns
  · rw [if_pos m] at h; exact absurd m h
  · rw [if_neg m] at h
    cases c with
    | true => rw [if_pos rfl] at h; exact absurd (List.mem_append.mpr (.inr (List.mem_singleton.mpr rfl))) h
    | false => exact ⟨m, rfl, by rw [if_neg m, if_neg Bool.false_ne_true]⟩
theorem pick_step {P : List Rl} {k : Kd} {ns : List Str} {r : Row} : pickL (rungB r (waysL P r.mark) ns k) ns r.mark = stepL P k ns r := rfl
theorem any_takeO {α : Type} {l : List α} {f : α → Bool} {i : Nat} {x : α} (h : l[i]? = some x) : (l.take (i + 1)).any f = ((l.take i).any f || f x) := by
  rw [List.take_succ, h, List.any_append]; simp
theorem any_rngO (f : Nat → Bool) (j : Nat) : (List.range (j + 1)).any f = ((List.range j).any f || f j) := by
  rw [List.range_succ, List.any_append]; simp
section
variable {w : World} {K : PySem.W.Frag} {mg : Str → Option Value} {base : Heap}
set_option maxHeartbeats 16000000 in
set_option pp.maxSteps 700 in
theorem ok__law_reached (T : Txt K mg) : FnOk PP w K mg base CX0 4 T.a__law_reached T.fd__law_reached ["_law_rows_here", "_law_rules_here", "_law_kind"] spLReached := by
  refine T.F__law_reached.ok sc__law_reached (fun vs H Q E h => ?_) (fun cdv A outer s H vs Q E hr h => ?_)
  · obtain ⟨R, gd, kk, ws, rs, kvs, P, k, rfl, _⟩ := h; rfl
  · obtain ⟨R, gd, kk, ws, rs, kvs, P, k, rfl, hR, rR, g, hg, pk, eP, okP, hk, kd, q⟩ := h
    refine ⟨_, (pss_cons (ps_set (i := 3) sc__law_reached.nd rfl (.inr rfl) (pe_lst pa_nil))
      (pss_cons (ps_for PassesOwn.never rfl (pi_range1 (by rfl) T.n_range (pa_cons (pe_callB call_len_seq (by rfl) T.n_len (by decide +kernel) (pa_cons (pv 0) pa_nil)) pa_nil)) (pg_name (i := 4) sc__law_reached.nd rfl (.inl rfl)) (pss_one (ps_for PassesOwn.never rfl (pi_list (pv 0)) (pg_name (i := 5) sc__law_reached.nd rfl (.inl rfl)) (pss_one (ps_for PassesOwn.never rfl (pi_list (pe_ix ix_list (pe_dget (hu_of hr) (pv 1) (pe_ix ix_list (pv 5) (pe_int) (fun _ _ => rfl)) (fun _ _ => rfl)) (pe_int) (fun _ _ => rfl))) (pg_name (i := 6) sc__law_reached.nd rfl (.inl rfl)) (pss_one (ps_for PassesOwn.never rfl (pi_range2 (by rfl) T.n_range (pa_cons (pe_ix ix_list (pv 5) (pe_int) (fun _ _ => rfl)) (pa_cons (pe_op op_add (pe_ix ix_list (pv 5) (pe_int) (fun _ _ => rfl)) (pe_int)) pa_nil))) (pg_name (i := 7) sc__law_reached.nd rfl (.inl rfl)) (pss_one (ps_if (PW.pt (pw_and (pt_cmpR op_notIn_seq (pe_ix ix_list (pv 5) (pe_int) (fun _ _ => rfl)) (pv 3) (by with_unfolding_all rfl)) (pw_and1 (pt_val (pe_call (ok__law_fits T) (hr.mono (by omega)) (by rfl) T.g__law_fits T.F__law_fits.kp T.b__law_fits .nil pass0 (pa_cons (pv 0) (pa_cons (pv 5) (pa_cons (pv 6) (pa_cons (pv 7) (pa_cons (pv 2) (pa_cons (pv 3) pa_nil))))))))))) (pss_one (ps_expr (pe_bm PySem.F.plainAttrs_list PySem.F.slot_list_append PySem.F.type_list_append mt_append (pv 3) (pa_cons (pe_ix ix_list (pv 5) (pe_int) (fun _ _ => rfl)) pa_nil)))) pss_nil)))))))))
      (pss_one (ps_ret (pe_lc (own := [("_law_row", 5)]) (g := (gName 5)) (by rfl) sc__law_reached.nd (pi_list (pv 0)) (blkOk_by (own := [("_law_row", 5)]) (N := ["_law_rows_here", "_law_rules_here", "_law_kind", "_law_names", "_law_k", "_law_row", "_law_way_here", "_law_count"]) (sc := defScope S__law_reached) (by decide +kernel)) (fun _ _ _ _ _ => (pg_name (i := 5) sc__law_reached.nd rfl (by first | exact .inl rfl | exact .inr rfl))) (fun _ _ _ _ _ => (pts_one (pt_cmpR (inK (K := K) rfl) (pe_ix (ixLK (K := K) rfl) (pv 5) (pe_int) (fun _ _ => rfl)) (pv 3) (by with_unfolding_all rfl)))) (fun _ _ _ _ _ => (pe_ix (ixLK (K := K) rfl) (pv 5) (pe_int) (fun _ _ => rfl)))))))), ?_⟩
    have big : 100000 < sizeLine := by decide
    have lw := pair_len' rR
    have l6 := g.len
    have ndP : (P.map (·.1)).Nodup := by rw [eP]; exact g.nd
    refine ⟨Nat.zero_le _, fun L nL => ?_⟩
    have s1 := same_new (o := .lst []) nL
    have hL1 : (upd H L (.lst [])) L = some (.lst []) := upd_same
    revert hL1 s1
    generalize upd H L (.lst []) = H1
    intro s1 hL1
    refine ⟨_, rfl, R, _, rfl, .inl (SqL.of (s1 _ _ hR)), _, rfl, by omega, by omega, for_range (lo := 0) (n := ws.length) (fun n σ H' => ∃ (x4 x5 x6 x7 : Option V), σ = [some (.ref R), some (.ref gd), some (.ref kk), some (.ref L), x4, x5, x6, x7] ∧ Same H H' ∧ H' L = some (.lst ((roundsL rs P k n).map V.str))) ⟨_, _, _, _, rfl, s1, hL1⟩ ?_ ?_⟩
    · rintro n σ H2 hn ⟨x4, x5, x6, x7, rfl, s2, hL2⟩
      obtain ⟨ok1, ok2⟩ := roundsL_ok (rs := rs) (P := P) (k := k) n
      refine ⟨_, rfl, R, rfl, ⟨_, SqL.of (s2 _ _ hR)⟩, for_list (K := K) (a := R) (xs := ws) (fun i σ H' => ∃ (x4 x5 x6 x7 : Option V), σ = [some (.ref R), some (.ref gd), some (.ref kk), some (.ref L), x4, x5, x6, x7] ∧ Same H H' ∧ H' L = some (.lst (((rs.take i).foldl (stepL P k) (roundsL rs P k n)).map V.str))) ⟨_, _, _, _, rfl, s2, hL2⟩ (fun i σ H' _ ⟨_, _, _, _, _, s, _⟩ => SqL.of (s _ _ hR)) ?_ ?_⟩
      rotate_left
      · rintro σ H3 ⟨x4, x5, x6, x7, rfl, s3, hL3⟩
        rw [lw, List.take_length] at hL3
        exact ⟨_, _, _, _, rfl, s3, hL3⟩
      rintro i v σ H3 hv ⟨x4, x5, x6, x7, rfl, s3, hL3⟩
      obtain ⟨r, hr, rp, pp, rfl, _, _, hrp, hpp⟩ := pair_get' rR hv
      have hrp : H rp = some (.lst (rowL r pp)) := hrp
      have hpp : H pp = some (.lst (r.pars.map V.str)) := hpp
      have mr := List.mem_of_getElem? hr
      obtain ⟨z0, z1, z2⟩ := good_sizes g mr
      obtain ⟨q1, lz, mq, eq⟩ := look_mark ndP eP mr
      have ew : waysL P r.mark = q1.2.2 := by unfold waysL; rw [lz]; rfl
      obtain ⟨iq, hiq⟩ := List.mem_iff_getElem?.mp mq
      obtain ⟨kv, ev, _, q0, p0, us0, eq0, hq0, hp0, pus, lus⟩ := val_rd pk ndP hiq
      have okw := (okP q1 mq).1
      obtain ⟨okn1, okn2⟩ := foldL_ok (P := P) (k := k) (ms := mks rs) (rs.take i) (roundsL rs P k n) (fun r hr => List.mem_map.mpr ⟨r, List.mem_of_mem_take hr, rfl⟩) ok1 ok2
      have ln := nd_len okn1 okn2
      have est : stepL P k ((rs.take i).foldl (stepL P k) (roundsL rs P k n)) r = (rs.take (i + 1)).foldl (stepL P k) (roundsL rs P k n) := by rw [fold_take _ hr]
      revert hL3 ln est
      generalize (rs.take i).foldl (stepL P k) (roundsL rs P k n) = ns
      intro hL3 ln est
      have ln : ns.length ≤ 6 := by unfold mks at ln; rw [List.length_map] at ln; omega
      rw [← est, ← pick_step, ew]
      have dg := DGet.k (k := .inr r.mark) (s3 _ _ hg)
      rw [← eq, ev, eq0, eq] at dg
      refine ⟨_, rfl, _, rfl, _, _, _, _, rfl, rfl, SqL.of (s3 _ _ hrp), atI_nat (j := 0) rfl, gd, _, rfl, dg, _, _, _, _, rfl, rfl, SqL.of (s3 _ _ hq0), atI_nat (j := 1) rfl, p0, rfl, ⟨_, SqL.of (s3 _ _ hp0)⟩, for_list (K := K) (a := p0) (xs := us0) (fun i σ H' => ∃ (x6 x7 : Option V), σ = [some (.ref R), some (.ref gd), some (.ref kk), some (.ref L), x4, some (.ref rp), x6, x7] ∧ Same H H' ∧ H' L = some (.lst ((pickL ((q1.2.2.take i).any (rungW r ns k)) ns r.mark).map V.str))) ⟨_, _, rfl, s3, ?_⟩ (fun i σ H' _ ⟨_, _, _, s, _⟩ => SqL.of (s _ _ hp0)) ?_ ?_⟩
      · rw [hL3]
        unfold pickL
        simp
      rotate_left
      · rintro σ H4 ⟨x6, x7, rfl, s4, hL4⟩
        rw [pair_len' pus, List.take_length] at hL4
        exact ⟨_, _, _, _, rfl, s4, hL4⟩
      rintro j v σ H4 hv ⟨x6, x7, rfl, s4, hL4⟩
      obtain ⟨wv, hwv, wq, rfl, hwq, _⟩ := pair_get' pus hv
      obtain ⟨l1, l2, l3⟩ := okw wv (List.mem_of_getElem? hwv)
      rw [any_takeO hwv]
      generalize hc0 : (q1.2.2.take j).any (rungW r ns k) = c0 at hL4
      refine ⟨_, rfl, _, _, _, _, rfl, rfl, SqL.of (s4 _ _ hrp), atI_nat (j := 2) rfl, _, rfl, _, _, _, _, rfl, rfl, SqL.of (s4 _ _ hrp), atI_nat (j := 3) rfl, _, _, rfl, rfl, r.least, r.most + 1, rfl, ⟨by omega, by omega, by omega, by omega⟩, for_range (lo := r.least) (n := (r.most + 1 - r.least).toNat) (fun m σ H' => ∃ (x7 : Option V), σ = [some (.ref R), some (.ref gd), some (.ref kk), some (.ref L), x4, some (.ref rp), some (.ref wq), x7] ∧ Same H H' ∧ H' L = some (.lst ((pickL (c0 || (List.range m).any (fun j => fitB r ns k wv (r.least + ((j : Nat) : Int)))) ns r.mark).map V.str))) ⟨_, rfl, s4, by simpa using hL4⟩ ?_ ?_⟩
      rotate_left
      · rintro σ H5 ⟨x7, rfl, s5, hL5⟩
        refine ⟨_, _, rfl, s5, ?_⟩
        unfold rungW
        rw [show (r.most - r.least + 1).toNat = (r.most + 1 - r.least).toNat by omega]
        exact hL5
      rintro m σ H5 hm ⟨x7, rfl, s5, hL5⟩
      rw [any_rngO]
      generalize hc1 : (List.range m).any (fun j => fitB r ns k wv (r.least + ((j : Nat) : Int))) = c1 at hL5
      have lp := pick_len (c0 || c1) ns r.mark
      refine ⟨_, rfl, _, _, _, _, rfl, rfl, SqL.of (s5 _ _ hrp), atI_nat (j := 0) rfl, _, rfl, L, _, rfl, .inl (SqL.of hL5), rfl, flat_strs _, ?_⟩
      rw [show (if true = true then !inV (V.str r.mark) ((pickL (c0 || c1) ns r.mark).map V.str) else inV (V.str r.mark) ((pickL (c0 || c1) ns r.mark).map V.str)) = !decide (r.mark ∈ pickL (c0 || c1) ns r.mark) by rw [if_pos rfl, in_strs]]
      refine ⟨_, rfl, iteB (fun c => ?_) (fun c => ?_)⟩
      rotate_left
      · have c : r.mark ∈ pickL (c0 || c1) ns r.mark := by simpa using c
        refine iteNo rfl ⟨_, rfl, s5, ?_⟩
        rw [pick_in c (c' := c0 || (c1 || fitB r ns k wv (r.least + ((m : Nat) : Int)))) (fun e => by rw [← Bool.or_assoc, e]; rfl)]
        exact hL5
      have c : r.mark ∉ pickL (c0 || c1) ns r.mark := by simpa using c
      obtain ⟨nm, ce, pe⟩ := pick_out c
      rw [Bool.or_eq_false_iff] at ce
      rw [pe] at hL5
      rw [ce.1, ce.2, Bool.false_or, Bool.false_or]
      refine ⟨_, rfl, _, rfl, _, rfl, _, rfl, _, rfl, _, rfl, R, rp, wq, kk, L, _, ws, rs, r, wv, k, ns, rfl, s5 _ _ hR, rowsN_same rR s5, g.nd, by omega, ⟨pp, s5 _ _ hrp, s5 _ _ hpp⟩, g.pars r mr, s5 _ _ hwq, l2, l3, by omega, s5 _ _ hk, hL5, kd, fun H6 s6 => ⟨_, rfl, ?_⟩⟩
      have hL6 := s6 _ _ hL5
      have s56 := s5.trans s6
      cases ef : fitB r ns k wv (r.least + (m : Int)) with
      | false =>
        refine iteNo rfl ⟨_, rfl, s56, ?_⟩
        unfold pickL
        rw [if_neg nm, if_neg Bool.false_ne_true]; exact hL6
      | true =>
        refine iteYes rfl ⟨_, rfl, .inl ⟨rfl, _, SqL.of hL6⟩, _, rfl, _, _, _, _, rfl, rfl, SqL.of (s56 _ _ hrp), atI_nat (j := 0) rfl, _, _, _, rfl, rfl, hL6, by rw [List.length_map]; omega, _, rfl, same_mut s56 nL, ?_⟩
        unfold pickL
        rw [if_neg nm, if_pos rfl, upd_same, List.map_append]; rfl
    rintro σ H2 ⟨x4, x5, x6, x7, rfl, s2, hL2⟩
    rw [lw] at hL2
    have hL2 : H2 L = some (.lst ((namesL rs P k).map V.str)) := hL2
    refine ⟨_, rfl, R, rfl, ⟨_, SqL.of (s2 _ _ hR)⟩, fun G hG => lc_list (K := K) (a := R) (xs := ws) (fun i H' => Same H2 H' ∧ H' G = some (.lst ((((mks rs).take i).filter fun z => decide (z ∈ namesL rs P k)).map V.str))) ⟨same_new hG, upd_same⟩ (fun i H' _ h => SqL.of (h.1 _ _ (s2 _ _ hR))) ?_ ?_⟩
    · rintro i v H3 hv ⟨s3, h3⟩
      obtain ⟨r, hr, rp, pp, rfl, _, _, hrp, hpp⟩ := pair_get' rR hv
      have hrp : H rp = some (.lst (rowL r pp)) := hrp
      have s23 := s2.trans s3
      have hm : (mks rs)[i]? = some r.mark := by unfold mks; rw [List.getElem?_map, hr]; rfl
      have hi := (List.getElem?_eq_some_iff.mp hr).1
      refine ⟨rfl, _, rfl, _, _, _, _, rfl, rfl, SqL.of (s23 _ _ hrp), atI_nat (j := 0) rfl, _, rfl, L, _, rfl, .inl (SqL.of (s3 _ _ hL2)), rfl, flat_strs _, ?_⟩
      rw [show (if false = true then !inV (V.str r.mark) ((namesL rs P k).map V.str) else inV (V.str r.mark) ((namesL rs P k).map V.str)) = decide (r.mark ∈ namesL rs P k) by rw [if_neg Bool.false_ne_true, in_strs]]
      rw [filter_take hm]
      refine ⟨_, rfl, iteD (fun c => ?_) (fun c => ?_)⟩
      · refine ⟨_, rfl, _, _, _, _, rfl, rfl, SqL.of (s23 _ _ hrp), atI_nat (j := 0) rfl, _, h3, ?_, same_mut s3 hG, ?_⟩
        · rw [List.length_map]
          have := List.length_filter_le (fun z => decide (z ∈ namesL rs P k)) ((mks rs).take i)
          rw [List.length_take] at this
          omega
        · rw [upd_same, if_pos (decide_eq_true c), List.map_append]; rfl
      · exact ⟨s3, by rw [if_neg (by rw [decide_eq_false c]; exact Bool.false_ne_true), List.append_nil]; exact h3⟩
    rintro H3 ⟨s3, h3⟩
    rw [show ws.length = (mks rs).length by unfold mks; rw [List.length_map, lw], List.take_length] at h3
    exact q G H3 (s2.trans s3) (s2.free hG) h3
end
end My

namespace L2
open PySem
theorem dcT_list {K : PySem.W.Frag} {a : Addr} {xs : List V} {g : TG} {tt : TT} {tk tv : TE} {vs : List Nat} {σ : St} {H1 : Hp} {D : Addr} {Qd : Hp → Prop} (Pv : Nat → Hp → Prop) (h0 : Pv 0 (upd H1 D (.dT []))) (hl : ∀ i H, i ≤ xs.length → Pv i H → SqL K H a xs)
    (hs : ∀ i x H, xs[i]? = some x → Pv i H → g x (wipe σ vs) H fun σ2 H2 => wipe σ2 vs = wipe σ vs ∧ tt σ2 H2 fun b H3 => if b = true then tk σ2 H3 fun y H4 => tv σ2 H4 fun z H5 => ∃ (kvs : List (List Key × V)) (k : List Key) (b : Addr), y = .ref b ∧ H5 b = some (.tup (k.map kV)) ∧ H5 D = some (.dT kvs) ∧ kvs.length < sizeLine ∧ Pv (i + 1) (upd H5 D (.dT (putK kvs k z))) else Pv (i + 1) H3)
    (hd : ∀ H, Pv xs.length H → Qd H) :
    ∃ W : Nat → Nat → Hp → Prop, (∃ m, W 0 m (upd H1 D (.dT []))) ∧ ∀ i m H, W i m H →
      ((Itl K a).stop i H ∧ Qd H) ∨ ((Itl K a).go i H ∧ ∃ Nx : Hp → Prop, (∀ H', Nx H' → ∃ m', m' < m ∧ W (i + 1) m' H') ∧ ∀ x H', (Itl K a).yld i H x H' → g x (wipe σ vs) H' fun σ2 H2 => wipe σ2 vs = wipe σ vs ∧ tt σ2 H2 fun b H3 => if b = true then tk σ2 H3 fun y H4 => tv σ2 H4 fun z H5 => ∃ (kvs : List (List Key × V)) (k : List Key) (b : Addr), y = .ref b ∧ H5 b = some (.tup (k.map kV)) ∧ H5 D = some (.dT kvs) ∧ kvs.length < sizeLine ∧ Nx (upd H5 D (.dT (putK kvs k z))) else Nx H3) := by
  refine ⟨fun i m H => m = xs.length - i ∧ i ≤ xs.length ∧ Pv i H, ⟨xs.length, by simp, Nat.zero_le _, h0⟩, fun i m H hW => ?_⟩
  obtain ⟨em, hi, p⟩ := hW
  have q := hl i H hi p
  by_cases hlt : i < xs.length
  · refine .inr ⟨⟨xs, xs[i], q, List.getElem?_eq_getElem hlt⟩, Pv (i + 1), fun H' p' => ⟨xs.length - (i + 1), by omega, rfl, hlt, p'⟩, fun x H' y => ?_⟩
    obtain ⟨rfl, hx⟩ := y
    exact hs i x H' (hx xs q) p
  · have ei : i = xs.length := by omega
    subst ei
    exact .inl ⟨⟨xs, q, Nat.le_refl _⟩, hd H p⟩
theorem lc_keysT {d : Addr} {o : Obj} {kvs : List (List Key × V)} {g : TG} {tt : TT} {te : TE} {vs : List Nat} {σ : St} {H1 : Hp} {D : Addr} {Qd : Hp → Prop} (Pv : Nat → Hp → Prop) (h0 : Pv 0 (upd H1 D (.lst []))) (hl : ∀ i H, i ≤ kvs.length → Pv i H → H d = some (.frz o (.dT kvs)))
    (hs : ∀ i k v q H, kvs[i]? = some (k, v) → H q = some (.tup (k.map kV)) → Pv i H → g (.ref q) (wipe σ vs) H fun σ2 H2 => wipe σ2 vs = wipe σ vs ∧ tt σ2 H2 fun b H3 => if b = true then te σ2 H3 fun y H4 => ∃ acc, H4 D = some (.lst acc) ∧ acc.length < sizeLine ∧ Pv (i + 1) (upd H4 D (.lst (acc ++ [y]))) else Pv (i + 1) H3)
    (hd : ∀ H, Pv kvs.length H → Qd H) :
    ∃ W : Nat → Nat → Hp → Prop, (∃ m, W 0 m (upd H1 D (.lst []))) ∧ ∀ i m H, W i m H →
      ((Itkt d o kvs).stop i H ∧ Qd H) ∨ ((Itkt d o kvs).go i H ∧ ∃ Nx : Hp → Prop, (∀ H', Nx H' → ∃ m', m' < m ∧ W (i + 1) m' H') ∧ ∀ x H', (Itkt d o kvs).yld i H x H' → g x (wipe σ vs) H' fun σ2 H2 => wipe σ2 vs = wipe σ vs ∧ tt σ2 H2 fun b H3 => if b = true then te σ2 H3 fun y H4 => ∃ acc, H4 D = some (.lst acc) ∧ acc.length < sizeLine ∧ Nx (upd H4 D (.lst (acc ++ [y]))) else Nx H3) := by
  refine ⟨fun i m H => m = kvs.length - i ∧ i ≤ kvs.length ∧ Pv i H, ⟨kvs.length, by simp, Nat.zero_le _, h0⟩, fun i m H hW => ?_⟩
  obtain ⟨em, hi, p⟩ := hW
  have q := hl i H hi p
  by_cases hlt : i < kvs.length
  · refine .inr ⟨⟨q, hlt⟩, Pv (i + 1), fun H' p' => ⟨kvs.length - (i + 1), by omega, rfl, hlt, p'⟩, fun x H' y => ?_⟩
    obtain ⟨rfl, k, v, q, hk, rfl, hq⟩ := y
    exact hs i k v q H' hk hq p
  · have ei : i = kvs.length := by omega
    subst ei
    exact .inl ⟨⟨q, Nat.le_refl _⟩, hd H p⟩
end L2

namespace My
open PySem L2
/-! ### links between kinds -/
def metAt (r : Row) (ws : List Wv) (n : Int) (ns1 ns2 : List Str) (k1 k2 : Kd) : Bool := ws.any fun w => fitB r ns1 k1 w n && ws.any fun w2 => fitB r ns2 k2 w2 n && decide (need w.2.2.1 n + need w2.2.2.1 n ≤ n)
def metRow (r : Row) (ws : List Wv) (ns1 ns2 : List Str) (k1 k2 : Kd) : Bool := (List.range (r.most + 1 - r.least).toNat).any fun j => metAt r ws (r.least + ((j : Nat) : Int)) ns1 ns2 k1 k2
def linkB (rs : List Row) (P : List Rl) (k1 k2 : Kd) : Bool := rs.any fun r => metRow r (waysL P r.mark) (reachL rs P k1) (reachL rs P k2) k1 k2
theorem metAt_symm {r : Row} {ws : List Wv} {n : Int} {ns1 ns2 : List Str} {k1 k2 : Kd} (h : metAt r ws n ns1 ns2 k1 k2 = true) : metAt r ws n ns2 ns1 k2 k1 = true := by
  unfold metAt at h ⊢
  obtain ⟨w, hw, h⟩ := List.any_eq_true.mp h
  obtain ⟨h1, h2⟩ := Bool.and_eq_true_iff.mp h
  obtain ⟨w2, hw2, h3⟩ := List.any_eq_true.mp h2
  obtain ⟨h3, h4⟩ := Bool.and_eq_true_iff.mp h3
  refine List.any_eq_true.mpr ⟨w2, hw2, Bool.and_eq_true_iff.mpr ⟨h3, List.any_eq_true.mpr ⟨w, hw, Bool.and_eq_true_iff.mpr ⟨h1, ?_⟩⟩⟩⟩
  rw [decide_eq_true_iff] at h4 ⊢
  omega
theorem linkB_symm1 {rs : List Row} {P : List Rl} {k1 k2 : Kd} (h : linkB rs P k1 k2 = true) : linkB rs P k2 k1 = true := by
  unfold linkB metRow at h ⊢
  obtain ⟨r, hr, h⟩ := List.any_eq_true.mp h
  obtain ⟨j, hj, h⟩ := List.any_eq_true.mp h
  exact List.any_eq_true.mpr ⟨r, hr, List.any_eq_true.mpr ⟨j, hj, metAt_symm h⟩⟩
theorem linkB_symm (rs : List Row) (P : List Rl) (k1 k2 : Kd) : linkB rs P k1 k2 = linkB rs P k2 k1 := by
  rw [Bool.eq_iff_iff]
  exact ⟨linkB_symm1, linkB_symm1⟩
/-! ### rounds over a list -/
section
variable {α : Type} [DecidableEq α] (c : List α → α → Bool)
def stepG (ns : List α) (x : α) : List α := if x ∈ ns then ns else if c ns x = true then ns ++ [x] else ns
def roundsG (L ini : List α) : Nat → List α
  | 0 => ini
  | n + 1 => L.foldl (stepG c) (roundsG L ini n)
variable {c}
theorem stepG_le (ns : List α) (x : α) : ns.length ≤ (stepG c ns x).length := by
  unfold stepG; split
  · exact Nat.le_refl _
  · split
    · rw [List.length_append]; exact Nat.le_add_right _ _
    · exact Nat.le_refl _
theorem stepG_eq {ns : List α} {x : α} (h : (stepG c ns x).length = ns.length) : stepG c ns x = ns := by
  unfold stepG at h ⊢; split
  · rfl
  · rename_i q; rw [if_neg q] at h; split
    · rename_i q2; rw [if_pos q2, List.length_append] at h; simp at h
    · rfl
theorem foldG_le : ∀ (l ns : List α), ns.length ≤ (l.foldl (stepG c) ns).length
  | [], _ => Nat.le_refl _
  | r :: l, ns => Nat.le_trans (stepG_le ns r) (foldG_le l _)
theorem foldG_eq : ∀ (l ns : List α), (l.foldl (stepG c) ns).length = ns.length → l.foldl (stepG c) ns = ns ∧ ∀ r ∈ l, stepG c ns r = ns
  | [], _, _ => ⟨rfl, fun _ h => nomatch h⟩
  | r :: l, ns, h => by
    have h1 := stepG_le (c := c) ns r
    have h2 := foldG_le (c := c) l (stepG c ns r)
    have h : (l.foldl (stepG c) (stepG c ns r)).length = ns.length := h
    have e := stepG_eq (c := c) (ns := ns) (x := r) (by omega)
    rw [e] at h
    obtain ⟨a, b⟩ := foldG_eq l ns h
    refine ⟨by rw [List.foldl_cons, e, a], fun q hq => ?_⟩
    rcases List.mem_cons.mp hq with rfl | hq
    · exact e
    · exact b q hq
theorem stepG_sub {ns : List α} {x z : α} (h : z ∈ stepG c ns x) : z ∈ ns ∨ (z = x ∧ c ns x = true) := by
  unfold stepG at h; split at h
  · exact .inl h
  · split at h
    · rename_i q
      rcases List.mem_append.mp h with h | h
      · exact .inl h
      · exact .inr ⟨List.mem_singleton.mp h, q⟩
    · exact .inl h
theorem stepG_nd {ns : List α} {x : α} (h : ns.Nodup) : (stepG c ns x).Nodup := by
  unfold stepG; split
  · exact h
  · rename_i q; split
    · refine List.nodup_append.mpr ⟨h, by simp, fun a ha b hb e => ?_⟩
      rw [List.mem_singleton.mp hb] at e
      exact q (e ▸ ha)
    · exact h
/-- a property of all that is in: kept, when what fits has it -/
theorem foldG_all {P : α → Prop} {L : List α} (hc : ∀ ns x, (∀ z ∈ ns, P z) → x ∈ L → c ns x = true → P x) : ∀ (l ns : List α), (∀ x ∈ l, x ∈ L) → ns.Nodup → (∀ z ∈ ns, P z) → (l.foldl (stepG c) ns).Nodup ∧ ∀ z ∈ l.foldl (stepG c) ns, P z
  | [], _, _, nd, s => ⟨nd, s⟩
  | r :: l, ns, hm, nd, s => foldG_all hc l _ (fun q hq => hm q (List.mem_cons_of_mem _ hq)) (stepG_nd nd) fun z hz => (stepG_sub hz).elim (s z) fun ⟨e, q⟩ => e ▸ hc ns r s (hm r List.mem_cons_self) q
theorem roundsG_all {P : α → Prop} {L ini : List α} (hc : ∀ ns x, (∀ z ∈ ns, P z) → x ∈ L → c ns x = true → P x) (nd : ini.Nodup) (s : ∀ z ∈ ini, P z) : ∀ n, (roundsG c L ini n).Nodup ∧ ∀ z ∈ roundsG c L ini n, P z
  | 0 => ⟨nd, s⟩
  | n + 1 => foldG_all hc L _ (fun _ h => h) (roundsG_all hc nd s n).1 (roundsG_all hc nd s n).2
theorem roundsG_stay {L ini : List α} {m : Nat} (h : L.foldl (stepG c) (roundsG c L ini m) = roundsG c L ini m) : ∀ d, roundsG c L ini (m + d) = roundsG c L ini m
  | 0 => rfl
  | d + 1 => by
    show L.foldl (stepG c) (roundsG c L ini (m + d)) = _
    rw [roundsG_stay h d, h]
theorem roundsG_grow {L ini : List α} : ∀ n : Nat, (∃ m, m ≤ n ∧ L.foldl (stepG c) (roundsG c L ini m) = roundsG c L ini m) ∨ n + 1 ≤ (roundsG c L ini (n + 1)).length
  | 0 => by
    by_cases h : (L.foldl (stepG c) (roundsG c L ini 0)).length = (roundsG c L ini 0).length
    · exact .inl ⟨0, Nat.le_refl _, (foldG_eq L _ h).1⟩
    · have := foldG_le (c := c) L (roundsG c L ini 0)
      refine .inr ?_
      show 1 ≤ (L.foldl (stepG c) (roundsG c L ini 0)).length
      omega
  | n + 1 => by
    rcases roundsG_grow (L := L) (ini := ini) n with ⟨m, hm, e⟩ | l
    · exact .inl ⟨m, by omega, e⟩
    by_cases h : (L.foldl (stepG c) (roundsG c L ini (n + 1))).length = (roundsG c L ini (n + 1)).length
    · exact .inl ⟨n + 1, Nat.le_refl _, (foldG_eq L _ h).1⟩
    · have := foldG_le (c := c) L (roundsG c L ini (n + 1))
      refine .inr ?_
      show n + 1 + 1 ≤ (L.foldl (stepG c) (roundsG c L ini (n + 1))).length
      omega
theorem roundsG_len {L ini : List α} (nd : ini.Nodup) (s : ∀ z ∈ ini, z ∈ L) (n : Nat) : (roundsG c L ini n).length ≤ L.length := by
  obtain ⟨a, b⟩ := roundsG_all (c := c) (P := fun z => z ∈ L) (L := L) (fun _ _ _ h _ => h) nd s n
  exact List.Nodup.length_le_of_subset a fun x hx => b x hx
/-- after as many rounds as there are items nothing more comes in -/
theorem roundsG_fix {L ini : List α} (nd : ini.Nodup) (s : ∀ z ∈ ini, z ∈ L) : ∀ r ∈ L, stepG c (roundsG c L ini L.length) r = roundsG c L ini L.length := by
  have e : L.foldl (stepG c) (roundsG c L ini L.length) = roundsG c L ini L.length := by
    rcases roundsG_grow (c := c) (L := L) (ini := ini) L.length with ⟨m, hm, e⟩ | l
    · obtain ⟨d, hd⟩ := Nat.le.dest hm
      have := roundsG_stay e d
      rw [← hd, this, e]
    · have := roundsG_len (c := c) nd s (L.length + 1)
      omega
  exact (foldG_eq (c := c) L _ (by rw [e])).2
end
/-! ### the kinds joined with a kind -/
inductive Tc (R : Kd → Kd → Bool) (ks : List Kd) (k : Kd) : Kd → Prop
  | one {b : Kd} : b ∈ ks → R k b = true → Tc R ks k b
  | step {a b : Kd} : Tc R ks k a → b ∈ ks → R a b = true → Tc R ks k b
theorem Tc.mem {R : Kd → Kd → Bool} {ks : List Kd} {k b : Kd} (h : Tc R ks k b) : b ∈ ks := by cases h <;> assumption
def joinC (R : Kd → Kd → Bool) (fs : List Kd) (b : Kd) : Bool := fs.any fun x => R x b
def joinL (R : Kd → Kd → Bool) (ks : List Kd) (k : Kd) : List Kd := roundsG (joinC R) ks (ks.filter fun b => R k b) ks.length
theorem joinL_iff {R : Kd → Kd → Bool} {ks : List Kd} {k b : Kd} (nd : ks.Nodup) : b ∈ joinL R ks k ↔ Tc R ks k b := by
  have nd0 : (ks.filter fun b => R k b).Nodup := nd.sublist (List.filter_sublist ..)
  have ini : ∀ z ∈ ks.filter (fun b => R k b), Tc R ks k z := fun z hz => .one (List.mem_filter.mp hz).1 (List.mem_filter.mp hz).2
  have all := roundsG_all (c := joinC R) (P := Tc R ks k) (L := ks) (fun ns x hs hx hc => by
    unfold joinC at hc
    obtain ⟨y, hy, e⟩ := List.any_eq_true.mp hc
    exact .step (hs y hy) hx e) nd0 ini ks.length
  refine ⟨fun h => all.2 b h, fun h => ?_⟩
  have fix := roundsG_fix (c := joinC R) (L := ks) nd0 (fun z hz => (List.mem_filter.mp hz).1)
  have up : ∀ n, ∀ z ∈ ks.filter (fun b => R k b), z ∈ roundsG (joinC R) ks (ks.filter fun b => R k b) n := fun n => by
    induction n with
    | zero => exact fun z h => h
    | succ n ih =>
      have go : ∀ (l ns : List Kd), ∀ z ∈ ns, z ∈ l.foldl (stepG (joinC R)) ns := fun l => by
        induction l with
        | nil => exact fun _ _ h => h
        | cons a l ihl =>
          intro ns z h
          refine ihl _ z ?_
          unfold stepG
          split
          · exact h
          · split
            · exact List.mem_append.mpr (.inl h)
            · exact h
      exact fun z h => go ks _ z (ih z h)
  induction h with
  | one hb e => exact up _ _ (List.mem_filter.mpr ⟨hb, e⟩)
  | @step a b _ hb e ih =>
    have f := fix b hb
    show b ∈ roundsG (joinC R) ks (ks.filter fun b => R k b) ks.length
    by_cases m : b ∈ roundsG (joinC R) ks (ks.filter fun b => R k b) ks.length
    · exact m
    · unfold stepG at f
      have cc : joinC R (roundsG (joinC R) ks (ks.filter fun b => R k b) ks.length) b = true := List.any_eq_true.mpr ⟨a, ih, e⟩
      rw [if_neg m, if_pos cc] at f
      have := congrArg List.length f
      rw [List.length_append] at this
      simp at this
end My

namespace My
open PySem L2
theorem nd_take {α : Type} {l : List α} {i : Nat} {x : α} (nd : l.Nodup) (h : l[i]? = some x) : x ∉ l.take i := by
  intro m
  obtain ⟨j, hj⟩ := List.mem_iff_getElem?.mp m
  rw [List.getElem?_take] at hj
  split at hj
  · have := (List.getElem?_inj (List.getElem?_eq_some_iff.mp h).1 nd).mp (h.trans hj.symm)
    omega
  · cases hj
def kdK (k : Kd) : List Key := [.inr k.1, .inr k.2]
theorem kdK_inj {a b : Kd} (h : kdK a = kdK b) : a = b := by
  unfold kdK at h
  injection h with h1 h2
  injection h2 with h2 _
  injection h1 with h1
  injection h2 with h2
  exact Prod.ext h1 h2
theorem kdK_vals (k : Kd) : (kdK k).map kV = [.str k.1, .str k.2] := rfl
def TabV (mk : List V → HO) (rs : List Row) (P : List Rl) (H : Hp) (kv : List Key × V) (k : Kd) : Prop := kv.1 = kdK k ∧ ∃ u, kv.2 = .ref u ∧ H u = some (mk ((reachL rs P k).map V.str))
theorem TabV.same {mk : List V → HO} {rs : List Row} {P : List Rl} {H H' : Hp} {kv : List Key × V} {k : Kd} (h : TabV mk rs P H kv k) (s : Same H H') : TabV mk rs P H' kv k := let ⟨a, u, b, c⟩ := h; ⟨a, u, b, s _ _ c⟩
theorem key_val {F : List Key × V → Kd → Prop} (hF : ∀ kv k, F kv k → kv.1 = kdK k) : ∀ {kvs : List (List Key × V)} {ks : List Kd} {k : Kd}, Paired F kvs ks → k ∈ ks → ∃ kv, valV kvs (kdK k) = some kv.2 ∧ F kv k
  | _, _, _, .nil, h => nomatch h
  | kv :: kvs, q :: ks, k, .cons h t, m => by
    by_cases e : q = k
    · subst e
      exact ⟨kv, valV_pos (hF _ _ h), h⟩
    · have m : k ∈ ks := by
        rcases List.mem_cons.mp m with z | m
        · exact absurd z.symm e
        · exact m
      obtain ⟨kv', a, b⟩ := key_val hF t m
      exact ⟨kv', by rw [valV_neg (by rw [hF _ _ h]; exact fun z => e (kdK_inj z))]; exact a, b⟩
theorem key_none {F : List Key × V → Kd → Prop} (hF : ∀ kv k, F kv k → kv.1 = kdK k) : ∀ {kvs : List (List Key × V)} {ks : List Kd} {k : Kd}, Paired F kvs ks → k ∉ ks → valV kvs (kdK k) = none
  | _, _, _, .nil, _ => rfl
  | kv :: kvs, q :: ks, k, .cons h t, m => by
    rw [List.mem_cons, not_or] at m
    rw [valV_neg (by rw [hF _ _ h]; exact fun z => m.1 (kdK_inj z).symm)]
    exact key_none hF t m.2
theorem kds_nd (z : Str) (sh : Bool) : (kds z sh).Nodup := by
  unfold kds
  split
  · refine List.nodup_cons.mpr ⟨fun h => ?_, by simp⟩
    have e := List.mem_singleton.mp h
    injection e with _ e
    exact absurd e (by decide +kernel)
  · simp
theorem kinds_nd {rs : List Row} : ∀ {P : List Rl}, (P.map (·.1)).Nodup → (kindsOf rs P).Nodup
  | [], _ => List.nodup_nil
  | q :: P, nd => by
    have nd := List.nodup_cons.mp (show (q.1 :: P.map (·.1)).Nodup from nd)
    show ((if q.2.1 then kds q.1 (shB rs q.1) else []) ++ kindsOf rs P).Nodup
    have h1 : ∀ k ∈ (if q.2.1 then kds q.1 (shB rs q.1) else []), k.1 = q.1 := fun k hk => by
      split at hk
      · exact kds_fst hk
      · cases hk
    refine List.nodup_append.mpr ⟨?_, kinds_nd nd.2, fun a ha b hb e => ?_⟩
    · split
      · exact kds_nd _ _
      · exact List.nodup_nil
    · unfold kindsOf at hb
      obtain ⟨q2, hq2, hb⟩ := List.mem_flatMap.mp hb
      have hb : b.1 = q2.1 := by
        split at hb
        · exact kds_fst hb
        · cases hb
      exact nd.1 (List.mem_map.mpr ⟨q2, hq2, by rw [← hb, ← e, h1 a ha]⟩)
theorem kinds_len (rs : List Row) (P : List Rl) : (kindsOf rs P).length ≤ 2 * P.length := by
  unfold kindsOf
  exact flat_lenK (fun q => by split <;> first | exact kds_len _ _ | simp) P
theorem kinds_ok {rs : List Row} {P : List Rl} {k : Kd} (h : k ∈ kindsOf rs P) : okKd k := by
  unfold kindsOf at h
  obtain ⟨q, _, hk⟩ := List.mem_flatMap.mp h
  split at hk
  · unfold kds at hk
    split at hk
    · simp only [List.mem_cons, List.not_mem_nil, or_false] at hk
      rcases hk with rfl | rfl
      · exact .inl rfl
      · exact .inr rfl
    · simp only [List.mem_cons, List.not_mem_nil, or_false] at hk
      rw [hk]; exact .inl rfl
  · cases hk
end My

namespace My
open PySem L2
def spReaches (Cp Cw Cs : Addr) : Sp := fun vs H Q _ => ∃ (p x m a b : Addr) (P : List Rl) (rs : List Row), vs = [.ref p] ∧ Pol Cp Cw H p x m a b P ∧ ShO Cs H x rs ∧ GoodC rs ∧ P.map (·.1) = mks rs ∧ OkW P ∧
  ∀ gd kvs H', Same H H' → H gd = none → H' gd = some (.dT kvs) → Paired (TabV .tup rs P H') kvs (kindsOf rs P) → Q (.ref gd) H'
theorem rd_same {H H' : Hp} {a : Addr} {o : HO} (h : Rd H a o) (s : Same H H') : Rd H' a o := h.imp (s _ _) fun ⟨od, e⟩ => ⟨od, s _ _ e⟩
theorem tab_get {mk : List V → HO} {rs : List Row} {P : List Rl} {H : Hp} {tb a : Addr} {kvs : List (List Key × V)} {ks : List Kd} {k : Kd} (hr : Rd H tb (.dT kvs)) (pk : Paired (TabV mk rs P H) kvs ks) (m : k ∈ ks) (ha : H a = some (.tup [.str k.1, .str k.2])) : ∃ u, DGet H tb (.ref a) (some (.ref u)) ∧ H u = some (mk ((reachL rs P k).map V.str)) := by
  obtain ⟨kv, ev, _, u, eu, hu⟩ := key_val (fun _ _ h => h.1) pk m
  exact ⟨u, .inr ⟨kvs, kdK k, a, hr, rfl, ha, by rw [ev, eu]⟩, hu⟩
section
variable {w : World} {K : PySem.W.Frag} {mg : Str → Option Value} {base : Heap}
set_option maxHeartbeats 16000000 in
set_option pp.maxSteps 700 in
theorem ok_reaches (T : Txt K mg) : FnOk PP w K mg base CX0 20 T.a_reaches T.fd_reaches ["policy"] (spReaches T.c_Policy T.c_Way T.c_Shape) := by
  refine T.F_reaches.ok sc_reaches (fun vs H Q E h => ?_) (fun cdv A outer s H vs Q E hr h => ?_)
  · obtain ⟨p, x, m, a, b, P, rs, rfl, _⟩ := h; rfl
  · obtain ⟨p, x, m, a, b, P, rs, rfl, hP, S, g, eP, okP, qq⟩ := h
    refine ⟨_, (pss_one (ps_ret (pe_dcT (own := [("kind", 1)]) (g := (gName 1)) (by rfl) (room_tup (hu_of hr)) sc_reaches.nd (pi_list (pe_call (ok_kinds T) (hr.mono (by omega)) (by rfl) T.g_kinds T.F_kinds.kp T.b_kinds .nil pass0 (pa_cons (pv 0) pa_nil))) (blkOk_by (own := [("kind", 1)]) (N := ["policy", "kind"]) (sc := defScope S_reaches) (by decide +kernel)) (fun _ _ _ _ _ => (pg_name (i := 1) sc_reaches.nd rfl (by first | exact .inl rfl | exact .inr rfl))) (fun _ _ _ _ _ => pts_nil) (fun _ _ _ _ _ => (pv 1)) (fun _ _ _ _ _ => (pe_call (ok_reached T) (hr.mono (by omega)) (by rfl) T.g_reached T.F_reached.kp T.b_reached .nil pass0 (pa_cons (pv 0) (pa_cons (pv 1) pa_nil))))))), ?_⟩
    have big : 100000 < sizeLine := by decide
    have l6 := g.len
    have lP : P.length = rs.length := by rw [← List.length_map (f := fun r : Rl => r.1), eP]; unfold mks; rw [List.length_map]
    have lks := kinds_len rs P
    have nd := kinds_nd (rs := rs) hP.nd
    refine ⟨_, rfl, p, x, m, a, b, P, rs, rfl, hP, S, by omega, (fun q hq => by rw [← eP]; exact List.mem_map.mpr ⟨q, hq, rfl⟩), fun u us H1 s1 nu hu pu => ⟨u, rfl, ⟨_, SqL.of hu⟩, fun D hD => dcT_list (K := K) (a := u) (xs := us) (fun i H' => ∃ kvs, Same H1 H' ∧ H' D = some (.dT kvs) ∧ Paired (TabV .tup rs P H') kvs ((kindsOf rs P).take i)) ⟨[], same_new hD, upd_same, .nil⟩ (fun i H' _ ⟨_, s, _⟩ => SqL.of (s _ _ hu)) ?_ ?_⟩⟩
    · rintro i v H2 hv ⟨kvs, s2, h2, pr⟩
      obtain ⟨k, hk, kk, rfl, hkk⟩ := pair_get' pu hv
      have hi := (List.getElem?_eq_some_iff.mp hk).1
      have kd := kinds_ok (List.mem_of_getElem? hk)
      have s12 := s1.trans s2
      have lkv := pair_len' pr
      rw [List.length_take] at lkv
      have nk : k ∉ (kindsOf rs P).take i := nd_take nd hk
      refine ⟨rfl, yes_i (iteT ⟨_, rfl, _, rfl, _, rfl, p, x, m, a, b, kk, P, rs, k, rfl, hP.same s12, S.same s12, g, eP, okP, s2 _ _ hkk, kd, fun wt H3 s3 nw hw => ⟨kvs, kdK k, kk, rfl, s3 _ _ (s2 _ _ hkk), s3 _ _ h2, by omega, kvs ++ [(kdK k, .ref wt)], same_mut (s2.trans s3) hD, ?_, ?_⟩⟩)⟩
      · rw [upd_same, L2.putK_new _ (key_none (fun _ _ h => h.1) pr nk)]
      · rw [List.take_add_one, hk, Option.toList_some]
        have h23 := s3 _ _ h2
        have tk : ∀ {kv : List Key × V} {k : Kd}, TabV .tup rs P H3 kv k → TabV .tup rs P (upd H3 D (.dT (putK kvs (kdK k) (.ref wt)))) kv k := fun ⟨e, u, eu, hu⟩ => ⟨e, u, eu, by rw [upd_ne (fun z => by rw [z, h23] at hu; cases hu)]; exact hu⟩
        refine pair_app' (L2.Paired.mapP pr fun kv k' h => ?_) (.cons ⟨rfl, wt, rfl, ?_⟩ .nil)
        · obtain ⟨e, u, eu, hu⟩ := h.same s3
          exact ⟨e, u, eu, by rw [upd_ne (fun z => by rw [z, h23] at hu; cases hu)]; exact hu⟩
        · rw [upd_ne (fun z => by rw [z, h23] at hw; cases hw)]; exact hw
    rintro H2 ⟨kvs, s2, h2, pr⟩
    rw [pair_len' pu, List.take_length] at pr
    exact qq D kvs H2 (s1.trans s2) (s1.free hD) h2 pr
end
/-! ### two programs that meet -/
def spMetAt (Cp Cw Cs : Addr) : Sp := fun vs H Q _ => ∃ (p x m a b a1 a2 tb : Addr) (z : Str) (n : Int) (P : List Rl) (rs : List Row) (r : Row) (q : Rl) (k1 k2 : Kd) (kvs : List (List Key × V)) (ks : List Kd), vs = [.ref p, .str z, .int n, .ref a1, .ref a2, .ref tb] ∧ Pol Cp Cw H p x m a b P ∧ ShO Cs H x rs ∧ findR rs z = some r ∧ GoodC rs ∧ r ∈ rs ∧ lookR P z = some q ∧ (∀ k ∈ q.2.2, LtW k) ∧ H a1 = some (.tup [.str k1.1, .str k1.2]) ∧ H a2 = some (.tup [.str k2.1, .str k2.2]) ∧ okKd k1 ∧ okKd k2 ∧ Rd H tb (.dT kvs) ∧ Paired (TabV .tup rs P H) kvs ks ∧ k1 ∈ ks ∧ k2 ∈ ks ∧
  (metAt r q.2.2 n (reachL rs P k1) (reachL rs P k2) k1 k2 = false → ∀ H', Same H H' → Q .non H') ∧ (metAt r q.2.2 n (reachL rs P k1) (reachL rs P k2) k1 k2 = true → ∀ u (i j : Int) H', Same H H' → H u = none → H' u = some (.tup [.int i, .int j]) → Q (.ref u) H')
section
variable {w : World} {K : PySem.W.Frag} {mg : Str → Option Value} {base : Heap}
set_option maxHeartbeats 16000000 in
set_option pp.maxSteps 700 in
theorem ok_meeting_at (T : Txt K mg) : FnOk PP w K mg base CX0 20 T.a_meeting_at T.fd_meeting_at ["policy", "mark", "parents", "kind", "other", "table"] (spMetAt T.c_Policy T.c_Way T.c_Shape) := by
  refine T.F_meeting_at.ok sc_meeting_at (fun vs H Q E h => ?_) (fun cdv A outer s H vs Q E hr h => ?_)
  · obtain ⟨p, x, m, a, b, a1, a2, tb, z, n, P, rs, r, q, k1, k2, kvs, ks, rfl, _⟩ := h; rfl
  · obtain ⟨p, x, m, a, b, a1, a2, tb, z, n, P, rs, r, q, k1, k2, kvs, ks, rfl, hP, S, fr, g, mr, lz, okw, h1, h2, kd1, kd2, hr0, pk, m1, m2, qn, qy⟩ := h
    refine ⟨_, (pss_cons (ps_set (i := 6) sc_meeting_at.nd rfl (.inl rfl) (pe_meth (pv 0) T.cl_Policy T.m_Policy_ways_of (ok_Policy_ways_of T) (hr.mono (by omega)) T.b_Policy_ways_of .nil pass0 (pa_cons (pv 1) pa_nil)))
      (pss_cons (ps_for PassesOwn.never rfl (pi_enumT (by rfl) T.n_enumerate (pa_cons (pv 6) pa_nil)) (pg_tup rfl (pgs_cons (pg_name (i := 7) sc_meeting_at.nd rfl (.inl rfl)) (pgs_cons (pg_name (i := 8) sc_meeting_at.nd rfl (.inl rfl)) pgs_nil))) (pss_one (ps_if (pt_val (pe_call (ok_fits T) (hr.mono (by omega)) (by rfl) T.g_fits T.F_fits.kp T.b_fits .nil pass0 (pa_cons (pe_fld (pv 0) rfl) (pa_cons (pv 8) (pa_cons (pv 1) (pa_cons (pv 2) (pa_cons (pv 3) (pa_cons (pe_dget (hu_of hr) (pv 5) (pv 3) (fun _ _ => rfl)) pa_nil)))))))) (pss_cons (ps_set (i := 9) sc_meeting_at.nd rfl (.inl rfl) (pe_ix ix_tup (pe_meth (pv 8) T.cl_Way T.m_Way_needs (ok_Way_needs T) (hr.mono (by omega)) T.b_Way_needs .nil pass0 (pa_cons (pv 2) pa_nil)) (pe_int) (fun _ _ => rfl)))
      (pss_one (ps_for PassesOwn.never rfl (pi_enumT (by rfl) T.n_enumerate (pa_cons (pv 6) pa_nil)) (pg_tup rfl (pgs_cons (pg_name (i := 10) sc_meeting_at.nd rfl (.inl rfl)) (pgs_cons (pg_name (i := 11) sc_meeting_at.nd rfl (.inl rfl)) pgs_nil))) (pss_one (ps_if (PW.pt (pw_and (pt_val (pe_call (ok_fits T) (hr.mono (by omega)) (by rfl) T.g_fits T.F_fits.kp T.b_fits .nil pass0 (pa_cons (pe_fld (pv 0) rfl) (pa_cons (pv 11) (pa_cons (pv 1) (pa_cons (pv 2) (pa_cons (pv 4) (pa_cons (pe_dget (hu_of hr) (pv 5) (pv 4) (fun _ _ => rfl)) pa_nil)))))))) (pw_and1 (pt_cmpR op_le (pe_op op_add (pv 9) (pe_ix ix_tup (pe_meth (pv 11) T.cl_Way T.m_Way_needs (ok_Way_needs T) (hr.mono (by omega)) T.b_Way_needs .nil pass0 (pa_cons (pv 2) pa_nil)) (pe_int) (fun _ _ => rfl))) (pv 2) (nomark _))))) (pss_one (ps_ret (pe_tup (pa_cons (pv 7) (pa_cons (pv 10) pa_nil))))) pss_nil))))) pss_nil)))
      (pss_one (ps_ret (pe_non))))), ?_⟩
    have big : 100000 < sizeLine := by decide
    obtain ⟨dp, hp⟩ := hP.obj
    have sub := g.pars r mr
    have lp : r.pars.length ≤ 1000 := by have := (g.bnd r mr).2; omega
    refine ⟨_, rfl, p, dp, _, rfl, hp, rfl, _, rfl, p, x, m, a, b, P, z, q, rfl, hP, lz, fun t H1 s1 ⟨vs, ht, pw⟩ => ?_⟩
    have lvs := pair_len' pw
    have t1 : ∀ {H' : Hp}, Same H1 H' → Same H H' := fun s => s1.trans s
    have dg1 : ∀ {H' : Hp}, Same H1 H' → ∃ u, DGet H' tb (.ref a1) (some (.ref u)) ∧ H' u = some (.tup ((reachL rs P k1).map V.str)) := fun s => tab_get (rd_same hr0 (t1 s)) (L2.Paired.mapP pk fun _ _ h => h.same (t1 s)) m1 ((t1 s) _ _ h1)
    have dg2 : ∀ {H' : Hp}, Same H1 H' → ∃ u, DGet H' tb (.ref a2) (some (.ref u)) ∧ H' u = some (.tup ((reachL rs P k2).map V.str)) := fun s => tab_get (rd_same hr0 (t1 s)) (L2.Paired.mapP pk fun _ _ h => h.same (t1 s)) m2 ((t1 s) _ _ h2)
    obtain ⟨f, ef⟩ : ∃ f : Wv → Bool, f = fun w => fitB r (reachL rs P k1) k1 w n && q.2.2.any fun w2 => fitB r (reachL rs P k2) k2 w2 n && decide (need w.2.2.1 n + need w2.2.2.1 n ≤ n) := ⟨_, rfl⟩
    have em : metAt r q.2.2 n (reachL rs P k1) (reachL rs P k2) k1 k2 = q.2.2.any f := by rw [ef]; rfl
    rw [em] at qn qy
    refine ⟨_, rfl, t, vs, rfl, SqT.of ht, for_enumT (K := K) (a := t) (xs := vs) (fun i σ H' => ∃ (x7 x8 x9 x10 x11 : Option V), σ = [some (.ref p), some (.str z), some (.int n), some (.ref a1), some (.ref a2), some (.ref tb), some (.ref t), x7, x8, x9, x10, x11] ∧ Same H1 H' ∧ (q.2.2.take i).any f = false) ⟨_, _, _, _, _, rfl, Same.refl _, rfl⟩ (fun i σ H' _ ⟨_, _, _, _, _, _, s, _⟩ => SqT.of (s _ _ ht)) ?_ ?_⟩
    rotate_left
    · rintro σ H2 ⟨x7, x8, x9, x10, x11, rfl, s2, e⟩
      rw [lvs, List.take_length] at e
      exact qn e H2 (t1 s2)
    rintro i v σ H2 TT hv ⟨x7, x8, x9, x10, x11, rfl, s2, e⟩ nT
    obtain ⟨wv, hwv, wy, rfl, wk⟩ := pair_get' pw hv
    have sT := same_new (o := .tup [.int (i : Nat), .ref wy]) nT
    refine ⟨TT, _, rfl, .inl (.inl upd_same), rfl, _, _, rfl, _, _, rfl, rfl, ?_⟩
    have s3 := s2.trans sT
    revert s3
    generalize upd H2 TT (.tup [.int (i : Nat), .ref wy]) = H3
    intro s3
    obtain ⟨l1, l2, l3⟩ := okw wv (List.mem_of_getElem? hwv)
    obtain ⟨u1, d1, hu1⟩ := dg1 s3
    refine ⟨_, rfl, p, _, dp, _, _, rfl, (t1 s3) _ _ hp, T.cl_Policy, T.no_Policy_shape, polF1 x m a b, _, rfl, _, rfl, _, rfl, _, rfl, _, rfl, _, rfl, tb, _, rfl, d1, x, wy, a1, u1, z, n, rs, r, wv, k1, _, rfl, S.same (t1 s3), fr, sub, lp, Wy.same wk s3, l1, l2, l3, (t1 s3) _ _ h1, .inr (SqT.of hu1), kd1, fun H4 s4 => ⟨_, rfl, ?_⟩⟩
    have s34 := s3.trans s4
    cases ef1 : fitB r (reachL rs P k1) k1 wv n with
    | false => exact iteNo rfl ⟨_, _, _, _, _, rfl, s34, any_take' hwv e (by rw [ef]; dsimp only; rw [ef1]; rfl)⟩
    | true =>
      refine iteYes rfl ?_
      obtain ⟨dw, hw0⟩ := id wk
      refine ⟨_, rfl, wy, dw, _, rfl, s34 _ _ hw0, wayF_no _ _ _ _ (by decide +kernel) (by decide +kernel) (by decide +kernel) (by decide +kernel), _, rfl, wy, wv.1, wv.2.1, wv.2.2.1, wv.2.2.2, n, rfl, l1, l2, l3, Wy.same wk s34, fun nt H5 s5 nnt hnt => ?_⟩
      refine ⟨_, _, _, _, rfl, rfl, SqT.of hnt, atI_nat (j := 2) rfl, ?_⟩
      have s35 := s34.trans s5
      obtain ⟨f2, ef2⟩ : ∃ f2 : Wv → Bool, f2 = fun w2 => fitB r (reachL rs P k2) k2 w2 n && decide (need wv.2.2.1 n + need w2.2.2.1 n ≤ n) := ⟨_, rfl⟩
      have eff : f wv = q.2.2.any f2 := by rw [ef, ef2]; dsimp only; rw [ef1]; rfl
      refine ⟨_, rfl, t, vs, rfl, SqT.of (s35 _ _ ht), for_enumT (K := K) (a := t) (xs := vs) (fun j σ H' => ∃ (x10 x11 : Option V), σ = [some (.ref p), some (.str z), some (.int n), some (.ref a1), some (.ref a2), some (.ref tb), some (.ref t), some (.int (i : Nat)), some (.ref wy), some (.int (need wv.2.2.1 n)), x10, x11] ∧ Same H5 H' ∧ (q.2.2.take j).any f2 = false) ⟨_, _, rfl, Same.refl _, rfl⟩ (fun j σ H' _ ⟨_, _, _, s, _⟩ => SqT.of ((s35.trans s) _ _ ht)) ?_ ?_⟩
      rotate_left
      · rintro σ H6 ⟨x10, x11, rfl, s6, e6⟩
        rw [lvs, List.take_length] at e6
        exact ⟨_, _, _, _, _, rfl, s35.trans s6, any_take' hwv e (by rw [eff]; exact e6)⟩
      rintro j v σ H6 T2 hv2 ⟨x10, x11, rfl, s6, e6⟩ nT2
      obtain ⟨wv2, hwv2, wy2, rfl, wk2⟩ := pair_get' pw hv2
      have sT2 := same_new (o := .tup [.int (j : Nat), .ref wy2]) nT2
      refine ⟨T2, _, rfl, .inl (.inl upd_same), rfl, _, _, rfl, _, _, rfl, rfl, ?_⟩
      have s57 := s6.trans sT2
      have s7 := s35.trans s57
      revert s7 s57
      generalize upd H6 T2 (.tup [.int (j : Nat), .ref wy2]) = H7
      intro s57 s7
      obtain ⟨l1', l2', l3'⟩ := okw wv2 (List.mem_of_getElem? hwv2)
      obtain ⟨u2, d2, hu2⟩ := dg2 s7
      refine ⟨_, rfl, p, _, dp, _, _, rfl, (t1 s7) _ _ hp, T.cl_Policy, T.no_Policy_shape, polF1 x m a b, _, rfl, _, rfl, _, rfl, _, rfl, _, rfl, _, rfl, tb, _, rfl, d2, x, wy2, a2, u2, z, n, rs, r, wv2, k2, _, rfl, S.same (t1 s7), fr, sub, lp, Wy.same wk2 s7, l1', l2', l3', (t1 s7) _ _ h2, .inr (SqT.of hu2), kd2, fun H8 s8 => ⟨_, rfl, ?_⟩⟩
      have s78 := s7.trans s8
      cases ef3 : fitB r (reachL rs P k2) k2 wv2 n with
      | false => exact iteNo rfl (iteNo rfl ⟨_, _, rfl, s57.trans s8, any_take' hwv2 e6 (by rw [ef2]; dsimp only; rw [ef3]; rfl)⟩)
      | true =>
        refine iteYes rfl ?_
        obtain ⟨dw2, hw2⟩ := id wk2
        refine ⟨_, rfl, _, rfl, wy2, dw2, _, rfl, s78 _ _ hw2, wayF_no _ _ _ _ (by decide +kernel) (by decide +kernel) (by decide +kernel) (by decide +kernel), _, rfl, wy2, wv2.1, wv2.2.1, wv2.2.2.1, wv2.2.2.2, n, rfl, l1', l2', l3', Wy.same wk2 s78, fun nt2 H9 s9 nnt2 hnt2 => ?_⟩
        have s79 := s78.trans s9
        refine ⟨_, _, _, _, rfl, rfl, SqT.of hnt2, atI_nat (j := 2) rfl, _, _, rfl, rfl, _, rfl, _, _, rfl, rfl, _, rfl, iteD (fun c => ?_) (fun c => ?_)⟩
        · have ey : q.2.2.any f = true := any_at hwv (by rw [eff]; exact any_at hwv2 (by rw [ef2]; dsimp only; rw [ef3, decide_eq_true c]; rfl))
          refine ⟨_, rfl, _, rfl, by show 2 ≤ sizeLine; decide, fun u nu => ?_⟩
          exact qy ey u _ _ _ ((t1 s79).trans (same_new nu)) ((t1 s79).free nu) upd_same
        · exact ⟨_, _, rfl, (s57.trans s8).trans s9, any_take' hwv2 e6 (by rw [ef2]; dsimp only; rw [ef3, decide_eq_false c]; rfl)⟩
end
end My

namespace My
open PySem L2
def spMet (Cp Cw Cs : Addr) : Sp := fun vs H Q _ => ∃ (p x m a b a1 a2 tb : Addr) (P : List Rl) (rs : List Row) (k1 k2 : Kd) (kvs : List (List Key × V)) (ks : List Kd), vs = [.ref p, .ref a1, .ref a2, .ref tb] ∧ Pol Cp Cw H p x m a b P ∧ ShO Cs H x rs ∧ GoodC rs ∧ P.map (·.1) = mks rs ∧ OkW P ∧ H a1 = some (.tup [.str k1.1, .str k1.2]) ∧ H a2 = some (.tup [.str k2.1, .str k2.2]) ∧ okKd k1 ∧ okKd k2 ∧ Rd H tb (.dT kvs) ∧ Paired (TabV .tup rs P H) kvs ks ∧ k1 ∈ ks ∧ k2 ∈ ks ∧
  (linkB rs P k1 k2 = false → ∀ H', Same H H' → Q .non H') ∧ (linkB rs P k1 k2 = true → ∀ u H', Same H H' → Q (.ref u) H')
def spLinked (Cp Cw Cs : Addr) : Sp := fun vs H Q _ => ∃ (p x m a b a1 a2 : Addr) (P : List Rl) (rs : List Row) (k1 k2 : Kd), vs = [.ref p, .ref a1, .ref a2] ∧ Pol Cp Cw H p x m a b P ∧ ShO Cs H x rs ∧ GoodC rs ∧ P.map (·.1) = mks rs ∧ OkW P ∧ H a1 = some (.tup [.str k1.1, .str k1.2]) ∧ H a2 = some (.tup [.str k2.1, .str k2.2]) ∧ k1 ∈ kindsOf rs P ∧ k2 ∈ kindsOf rs P ∧ ∀ H', Same H H' → Q (.bl (linkB rs P k1 k2)) H'
section
variable {w : World} {K : PySem.W.Frag} {mg : Str → Option Value} {base : Heap}
set_option maxHeartbeats 16000000 in
set_option pp.maxSteps 700 in
theorem ok_meeting (T : Txt K mg) : FnOk PP w K mg base CX0 22 T.a_meeting T.fd_meeting ["policy", "kind", "other", "table"] (spMet T.c_Policy T.c_Way T.c_Shape) := by
  refine T.F_meeting.ok sc_meeting (fun vs H Q E h => ?_) (fun cdv A outer s H vs Q E hr h => ?_)
  · obtain ⟨p, x, m, a, b, a1, a2, tb, P, rs, k1, k2, kvs, ks, rfl, _⟩ := h; rfl
  · obtain ⟨p, x, m, a, b, a1, a2, tb, P, rs, k1, k2, kvs, ks, rfl, hP, S, g, eP, okP, h1, h2, kd1, kd2, hr0, pk, m1, m2, qn, qy⟩ := h
    refine ⟨_, (pss_cons (ps_for PassesOwn.never rfl (pi_own T.m_Shape_iter (ok_Shape_iter T) (hr.mono (by omega)) (pe_fld (pv 0) rfl)) (pg_name (i := 4) sc_meeting.nd rfl (.inl rfl)) (pss_cons (ps_set (i := 5) sc_meeting.nd rfl (.inl rfl) (pe_getI T.m_Shape_getitem T.fi_Shape_getitem ((ok_Shape_getitem T).calm) (hr.mono (by omega)) T.b_Shape_getitem pass0 (pe_fld (pv 0) rfl) (pv 4)))
      (pss_one (ps_for PassesOwn.never rfl (pi_range2 (by rfl) T.n_range (pa_cons (pe_ix ix_tup (pv 5) (pe_int) (fun _ _ => rfl)) (pa_cons (pe_op op_add (pe_ix ix_tup (pv 5) (pe_int) (fun _ _ => rfl)) (pe_int)) pa_nil))) (pg_name (i := 6) sc_meeting.nd rfl (.inl rfl)) (pss_cons (ps_set (i := 7) sc_meeting.nd rfl (.inl rfl) (pe_call (ok_meeting_at T) (hr.mono (by omega)) (by rfl) T.g_meeting_at T.F_meeting_at.kp T.b_meeting_at .nil pass0 (pa_cons (pv 0) (pa_cons (pv 4) (pa_cons (pv 6) (pa_cons (pv 1) (pa_cons (pv 2) (pa_cons (pv 3) pa_nil))))))))
      (pss_one (ps_if (pt_cmpR op_notN (pv 7) (pe_non) (nomark _)) (pss_one (ps_ret (pe_op op_catT (pe_tup (pa_cons (pv 4) (pa_cons (pv 6) pa_nil))) (pv 7)))) pss_nil)))))))
      (pss_one (ps_ret (pe_non)))), ?_⟩
    have big : 100000 < sizeLine := by decide
    obtain ⟨dp, hp⟩ := hP.obj
    obtain ⟨dx, sl, sm, us0, hx, hsl, hrT, hsm⟩ := id S
    have t1 : ∀ {H' : Hp}, Same H H' → Paired (TabV .tup rs P H') kvs ks := fun s => L2.Paired.mapP pk fun _ _ h => h.same s
    obtain ⟨f, ef⟩ : ∃ f : Row → Bool, f = fun r => metRow r (waysL P r.mark) (reachL rs P k1) (reachL rs P k2) k1 k2 := ⟨_, rfl⟩
    have em : linkB rs P k1 k2 = rs.any f := by rw [ef]; rfl
    rw [em] at qn qy
    refine ⟨_, rfl, p, _, dp, _, _, rfl, hp, T.cl_Policy, T.no_Policy_shape, polF1 x m a b, x, dx, sm, _, _, rfl, hx, sh_look2 _ _, SqL.of hsm, for_list (K := K) (a := sm) (xs := mksV rs) (fun i σ H' => ∃ (x4 x5 x6 x7 : Option V), σ = [some (.ref p), some (.ref a1), some (.ref a2), some (.ref tb), x4, x5, x6, x7] ∧ Same H H' ∧ (rs.take i).any f = false) ⟨_, _, _, _, rfl, Same.refl _, rfl⟩ (fun i σ H' _ ⟨_, _, _, _, _, s, _⟩ => SqL.of (s _ _ hsm)) ?_ ?_⟩
    rotate_left
    · rintro σ H2 ⟨x4, x5, x6, x7, rfl, s2, e⟩
      rw [show (mksV rs).length = rs.length by unfold mksV; rw [List.length_map], List.take_length] at e
      exact qn e H2 s2
    rintro i v σ H2 hv ⟨x4, x5, x6, x7, rfl, s2, e⟩
    obtain ⟨r, hr, rfl⟩ : ∃ r, rs[i]? = some r ∧ v = .str r.mark := by
      unfold mksV at hv
      rw [List.getElem?_map] at hv
      cases e : rs[i]? with
      | none => rw [e] at hv; cases hv
      | some r => rw [e] at hv; exact ⟨r, rfl, (Option.some.inj hv).symm⟩
    have mr := List.mem_of_getElem? hr
    obtain ⟨q, lz, mq, eq⟩ := look_mark hP.nd eP mr
    have fr := findR_nd g.nd hr
    have ew : waysL P r.mark = q.2.2 := by unfold waysL; rw [lz]; rfl
    obtain ⟨z0, z1, z2⟩ := good_sizes g mr
    refine ⟨_, rfl, p, _, dp, _, _, rfl, s2 _ _ hp, T.cl_Policy, T.no_Policy_shape, polF1 x m a b, _, rfl, x, dx, _, rfl, s2 _ _ hx, x, r.mark, rs, rfl, S.same s2, fun r' row pp fr' hrow hpp => ?_, fun e => by rw [fr] at e; cases e⟩
    rw [fr] at fr'
    obtain rfl := Option.some.inj fr'
    have efr : f r = (List.range (r.most + 1 - r.least).toNat).any fun j => metAt r q.2.2 (r.least + ((j : Nat) : Int)) (reachL rs P k1) (reachL rs P k2) k1 k2 := by rw [ef]; dsimp only; rw [ew]; rfl
    refine ⟨_, rfl, _, _, _, _, rfl, rfl, SqT.of hrow, atI_nat (j := 2) rfl, _, rfl, _, _, _, _, rfl, rfl, SqT.of hrow, atI_nat (j := 3) rfl, _, _, rfl, rfl, r.least, r.most + 1, rfl, ⟨by omega, by omega, by omega, by omega⟩, for_range (lo := r.least) (n := (r.most + 1 - r.least).toNat) (fun j σ H' => ∃ (x6 x7 : Option V), σ = [some (.ref p), some (.ref a1), some (.ref a2), some (.ref tb), some (.str r.mark), some (.ref row), x6, x7] ∧ Same H2 H' ∧ (List.range j).any (fun j => metAt r q.2.2 (r.least + ((j : Nat) : Int)) (reachL rs P k1) (reachL rs P k2) k1 k2) = false) ⟨_, _, rfl, Same.refl _, rfl⟩ ?_ ?_⟩
    rotate_left
    · rintro σ H3 ⟨x6, x7, rfl, s3, e3⟩
      exact ⟨_, _, _, _, rfl, s2.trans s3, any_take' hr e (by rw [efr]; exact e3)⟩
    rintro j σ H3 hj ⟨x6, x7, rfl, s3, e3⟩
    have s23 := s2.trans s3
    refine ⟨_, rfl, _, rfl, _, rfl, _, rfl, _, rfl, _, rfl, p, x, m, a, b, a1, a2, tb, r.mark, _, P, rs, r, q, k1, k2, kvs, ks, rfl, hP.same s23, S.same s23, fr, g, mr, lz, (okP q mq).1, s23 _ _ h1, s23 _ _ h2, kd1, kd2, rd_same hr0 s23, t1 s23, m1, m2, fun en H4 s4 => ?_, fun ey u i1 j1 H4 s4 nu hu => ?_⟩
    · exact ⟨_, rfl, rfl, _, rfl, iteB (fun c => by simp at c) (fun _ => ⟨_, _, rfl, s3.trans s4, any_rng e3 en⟩)⟩
    · refine ⟨_, rfl, rfl, _, rfl, iteB (fun _ => ?_) (fun c => by simp at c)⟩
      have et : rs.any f = true := any_at hr (by rw [efr]; exact List.any_eq_true.mpr ⟨j, List.mem_range.mpr hj, ey⟩)
      refine ⟨_, rfl, _, rfl, by show 2 ≤ sizeLine; decide, fun c1 nc1 => ?_⟩
      have s5 := same_new (o := .tup [.str r.mark, .int (r.least + (j : Int))]) nc1
      refine ⟨_, rfl, c1, u, _, _, rfl, rfl, SqT.of upd_same, SqT.of (s5 _ _ hu), by simp, by show 4 ≤ sizeLine; decide, (fun e => by cases e), fun _ c2 nc2 => ?_⟩
      exact qy et c2 _ (((s23.trans s4).trans s5).trans (same_new nc2))
end
end My

namespace My
open PySem L2
/-! ### kinds as data -/
def kdD (k : Kd) : PyData := .tuple [.str k.1, .str k.2]
def prD (p : Kd × Kd) : PyData := .tuple [kdD p.1, kdD p.2]
def okS (k : Kd) : Prop := PyData.strOk k.1 = true ∧ okKd k
theorem okS_lay {k : Kd} (h : okS k) : PyData.canLay0 (kdD k) = true := by
  have h2 : PyData.strOk k.2 = true := by rcases h.2 with e | e <;> (rw [e]; decide +kernel)
  unfold kdD
  simp [PyData.canLay0, PyData.canLayAll0, h.1, h2]
theorem prD_lay {p : Kd × Kd} (h : okS p.1) (h2 : okS p.2) : PyData.canLay0 (prD p) = true := by
  unfold prD
  simp [PyData.canLay0, PyData.canLayAll0, okS_lay h, okS_lay h2]
theorem kdD_depth (k : Kd) : PyData.depth (kdD k) = 1 := by unfold kdD; simp [PyData.depth, PyData.depthAll]
theorem prD_depth (p : Kd × Kd) : PyData.depth (prD p) = 2 := by unfold prD; simp [PyData.depth, PyData.depthAll, kdD_depth]
theorem shaped_of {d : PyData} (h : PyData.canLay0 d = true) (l : PyData.depth d ≤ 64) : SeqAt.shaped d = true := by
  unfold SeqAt.shaped
  rw [h, Bool.true_and, decide_eq_true_iff]; exact l
theorem list_shaped {α : Type} {D : α → PyData} {n : Nat} (hn : n ≤ 60) {l : List α} (h : ∀ x ∈ l, PyData.canLay0 (D x) = true) (hd : ∀ x, PyData.depth (D x) ≤ n) : SeqAt.shaped (.list (l.map D)) = true := by
  have h1 : ∀ l : List α, (∀ x ∈ l, PyData.canLay0 (D x) = true) → PyData.canLayAll0 (l.map D) = true := fun l => by
    induction l with
    | nil => intro _; rfl
    | cons a r ih => intro q; rw [List.map_cons, PyData.canLayAll0, q a (by simp), ih fun s hs => q s (by simp [hs])]; rfl
  have h2 : ∀ l : List α, PyData.depthAll (l.map D) ≤ n := fun l => by
    induction l with
    | nil => exact Nat.zero_le _
    | cons a r ih =>
      rw [List.map_cons, PyData.depthAll]
      have := hd a
      omega
  unfold SeqAt.shaped
  rw [PyData.canLay0, h1 l h, PyData.depth, Bool.true_and, decide_eq_true_iff]
  have := h2 l
  omega
theorem eqv_kd (a b : Kd) : PyData.eqv (kdD a) (kdD b) = decide (a = b) := by
  unfold kdD
  have e := eqv_strs [a.1, a.2] [b.1, b.2]
  show PyData.eqvAll ([a.1, a.2].map .str) ([b.1, b.2].map .str) = _
  rw [e, decide_eq_decide]
  constructor
  · intro h
    injection h with h1 h2
    injection h2 with h2 _
    exact Prod.ext h1 h2
  · rintro rfl; rfl
theorem eqv_pr (a b : Kd × Kd) : PyData.eqv (prD a) (prD b) = decide (a = b) := by
  unfold prD
  simp only [PyData.eqv, PyData.eqvAll, Bool.and_true]
  rw [eqv_kd, eqv_kd, Bool.eq_iff_iff, Bool.and_eq_true, decide_eq_true_iff, decide_eq_true_iff, decide_eq_true_iff]
  exact ⟨fun ⟨h1, h2⟩ => Prod.ext h1 h2, fun h => by rw [h]; exact ⟨rfl, rfl⟩⟩
theorem any_mem {α : Type} [DecidableEq α] {D : α → PyData} (he : ∀ a b, PyData.eqv (D a) (D b) = decide (a = b)) (l : List α) (x : α) : ((l.map D).any fun z => PyData.eqv z (D x)) = decide (x ∈ l) := by
  rw [Bool.eq_iff_iff, List.any_eq_true, decide_eq_true_iff]
  constructor
  · rintro ⟨z, hz, e⟩
    obtain ⟨y, hy, rfl⟩ := List.mem_map.mp hz
    rw [he, decide_eq_true_iff] at e
    exact e ▸ hy
  · intro h
    exact ⟨D x, List.mem_map.mpr ⟨x, h, rfl⟩, by rw [he]; exact decide_eq_true rfl⟩
theorem kdDp {K : PySem.W.Frag} {H : Hp} {a : Addr} {k : Kd} (h : H a = some (.tup [.str k.1, .str k.2])) : Dp K H (.ref a) (kdD k) := .tup (SqT.of h) (.cons (.str _) (.cons (.str _) .nil))
theorem kdsDp {K : PySem.W.Frag} {H : Hp} : ∀ {vs : List V} {ks : List Kd}, Paired (KdV H) vs ks → DpAll K H vs (ks.map kdD)
  | _, _, .nil => .nil
  | _, _, .cons ⟨_, e, h⟩ t => by
    subst e
    exact .cons (kdDp h) (kdsDp t)
theorem kinds_word {rs : List Row} {P : List Rl} (w : wordsOk rs) (e : P.map (·.1) = mks rs) {k : Kd} (h : k ∈ kindsOf rs P) : okS k := by
  refine ⟨?_, kinds_ok h⟩
  unfold kindsOf at h
  obtain ⟨q, hq, hk⟩ := List.mem_flatMap.mp h
  have e1 : k.1 = q.1 := by
    split at hk
    · exact kds_fst hk
    · cases hk
  have m : q.1 ∈ mks rs := by rw [← e]; exact List.mem_map.mpr ⟨q, hq, rfl⟩
  obtain ⟨r, hr, er⟩ := List.mem_map.mp m
  rw [e1, ← er]
  exact (w r hr).1
/-! ### neighbours -/
def NearV (R : Kd → Kd → Bool) (ks : List Kd) (H : Hp) (kv : List Key × V) (k : Kd) : Prop := kv.1 = kdK k ∧ ∃ u vs, kv.2 = .ref u ∧ H u = some (.lst vs) ∧ Paired (KdV H) vs (ks.filter (R k))
theorem NearV.same {R : Kd → Kd → Bool} {ks : List Kd} {H H' : Hp} {kv : List Key × V} {k : Kd} (h : NearV R ks H kv k) (s : Same H H') : NearV R ks H' kv k := let ⟨a, u, vs, b, c, d⟩ := h; ⟨a, u, vs, b, s _ _ c, L2.Paired.mapP d fun _ _ h => h.same s⟩
/-- all but dicts under tuples stays -/
def NdT (H H' : Hp) : Prop := ∀ a o, (∀ k, o ≠ .dT k) → H a = some o → H' a = some o
theorem NdT.but {H H' : Hp} {a : Addr} {k1 : List (List Key × V)} (h1 : H a = some (.dT k1)) (l : But a H H') : NdT H H' := fun c o n h => l _ _ (fun m => by
  rw [m, h1] at h; exact n _ (Option.some.inj h).symm) h
theorem NdT.same {H H' : Hp} (s : Same H H') : NdT H H' := fun _ _ _ h => s _ _ h
theorem NdT.trans {H H1 H2 : Hp} (x : NdT H H1) (y : NdT H1 H2) : NdT H H2 := fun a o n h => y a o n (x a o n h)
theorem ShO.ndT {Cs : Addr} {H H' : Hp} {x : Addr} {rs : List Row} (S : ShO Cs H x rs) (k : NdT H H') : ShO Cs H' x rs := by
  obtain ⟨dx, l, m, vs, hx, hl, hr, hm⟩ := S
  exact ⟨dx, l, m, vs, k _ _ (fun _ h => nomatch h) hx, k _ _ (fun _ h => nomatch h) hl, rowsT_keep hr (fun a xs e => k _ _ (fun _ h => nomatch h) e), k _ _ (fun _ h => nomatch h) hm⟩
theorem Pol.ndT {Cp Cw : Addr} {H H' : Hp} {y x m a b : Addr} {rl : List Rl} (P : Pol Cp Cw H y x m a b rl) (k : NdT H H') : Pol Cp Cw H' y x m a b rl := by
  obtain ⟨⟨dy, hy⟩, hm, ⟨ls, ha, hb, pr⟩, ne, nd⟩ := P
  exact ⟨⟨dy, k _ _ (fun _ h => nomatch h) hy⟩, k _ _ (fun _ h => nomatch h) hm, ⟨ls, k _ _ (fun _ h => nomatch h) ha, k _ _ (fun _ h => nomatch h) hb, rlL_keep pr fun c o h t => k c o (fun kk z => by rcases t with ⟨_, e⟩ | ⟨_, _, _, _, _, e⟩ <;> (rw [e] at z; cases z)) h⟩, ne, nd⟩
def spNear (Cp Cw Cs : Addr) : Sp := fun vs H Q _ => ∃ (p x m a b tb : Addr) (P : List Rl) (rs : List Row) (kvs : List (List Key × V)), vs = [.ref p, .ref tb] ∧ Pol Cp Cw H p x m a b P ∧ ShO Cs H x rs ∧ GoodC rs ∧ P.map (·.1) = mks rs ∧ OkW P ∧ H tb = some (.dT kvs) ∧ Paired (TabV .tup rs P H) kvs (kindsOf rs P) ∧
  ∀ nb nkv H', Same H H' → H nb = none → H' nb = some (.dT nkv) → Paired (NearV (linkB rs P) (kindsOf rs P) H') nkv (kindsOf rs P) → Q (.ref nb) H'
section
variable {w : World} {K : PySem.W.Frag} {mg : Str → Option Value} {base : Heap}
set_option maxHeartbeats 16000000 in
set_option pp.maxSteps 700 in
theorem ok_neighbours (T : Txt K mg) : FnOk PP w K mg base CX0 24 T.a_neighbours T.fd_neighbours ["policy", "table"] (spNear T.c_Policy T.c_Way T.c_Shape) := by
  refine T.F_neighbours.ok sc_neighbours (fun vs H Q E h => ?_) (fun cdv A outer s H vs Q E hr h => ?_)
  · obtain ⟨p, x, m, a, b, tb, P, rs, kvs, rfl, _⟩ := h; rfl
  · obtain ⟨p, x, m, a, b, tb, P, rs, kvs, rfl, hP, S, g, eP, okP, htb, pk, q⟩ := h
    refine ⟨_, (pss_cons (ps_set (i := 2) sc_neighbours.nd rfl (.inl rfl) (pe_dnewT))
      (pss_cons (ps_lock (ps_for PassesOwn.never rfl (pi_keys (pv 1)) (pg_name (i := 3) sc_neighbours.nd rfl (.inr rfl)) (pss_one (ps_dput (hu_of hr) (pv 2) (pv 3) (pe_lc (own := [("other", 4)]) (g := (gName 4)) (by rfl) sc_neighbours.nd (pi_keys (pv 1)) (blkOk_by (own := [("other", 4)]) (N := ["policy", "table", "found", "kind", "other"]) (sc := defScope S_neighbours) (by decide +kernel)) (fun _ _ _ _ _ => (pg_name (i := 4) sc_neighbours.nd rfl (by first | exact .inl rfl | exact .inr rfl))) (fun _ _ _ _ _ => (pts_one (pt_cmpR op_notN (pe_call (ok_meeting T) (hr.mono (by omega)) (by rfl) T.g_meeting T.F_meeting.kp T.b_meeting .nil pass0 (pa_cons (pv 0) (pa_cons (pv 3) (pa_cons (pv 4) (pa_cons (pv 1) pa_nil))))) (pe_non) (nomark _)))) (fun _ _ _ _ _ => (pv 4))) rfl))))
      (pss_one (ps_ret (pv 2))))), ?_⟩
    have big : 100000 < sizeLine := by decide
    have lkv := pair_len' pk
    have lP : P.length = rs.length := by rw [← List.length_map (f := fun r : Rl => r.1), eP]; unfold mks; rw [List.length_map]
    have l6 := g.len
    have lks := kinds_len rs P
    have ndk := kinds_nd (rs := rs) hP.nd
    refine fun nb nnb => ?_
    have s1 := same_new (o := .dT []) nnb
    have ht1 := s1 _ _ htb
    have ntn : tb ≠ nb := ne_of_none htb nnb
    refine ⟨tb, _, ht1, trivial, fun od => ?_⟩
    have b2 : ∀ c o, c ≠ tb → H c = some o → (upd (upd H nb (.dT [])) tb (.frz od (.dT kvs))) c = some o := fun c o n h => by rw [upd_ne n]; exact s1 _ _ h
    have f2 : (upd (upd H nb (.dT [])) tb (.frz od (.dT kvs))) tb = some (.frz od (.dT kvs)) := upd_same
    have hn2 : (upd (upd H nb (.dT [])) tb (.frz od (.dT kvs))) nb = some (.dT []) := by rw [upd_ne ntn.symm]; exact upd_same
    revert b2 f2 hn2
    generalize upd (upd H nb (.dT [])) tb (.frz od (.dT kvs)) = H2
    intro b2 f2 hn2
    refine ⟨_, rfl, tb, od, rfl, .inr ⟨kvs, f2, for_it walk_keysT (fun i σ H' => ∃ (x3 x4 : Option V) (nkv : List (List Key × V)), σ = [some (.ref p), some (.ref tb), some (.ref nb), x3, x4] ∧ (∀ c o, c ≠ tb → H c = some o → H' c = some o) ∧ H' tb = some (.frz od (.dT kvs)) ∧ H' nb = some (.dT nkv) ∧ Paired (NearV (linkB rs P) (kindsOf rs P) H') nkv ((kindsOf rs P).take i)) ⟨_, _, [], rfl, b2, f2, hn2, .nil⟩ (fun i σ H' _ ⟨_, _, _, _, _, h, _⟩ => h) ?_ ?_⟩⟩
    rotate_left
    · rintro σ H3 ⟨x3, x4, nkv, rfl, b3, f3, hn3, p3⟩
      rw [lkv, List.take_length] at p3
      refine ⟨f3, _, rfl, q nb nkv _ (fun c o h => ?_) nnb (by rw [upd_ne ntn.symm]; exact hn3) (L2.Paired.mapP p3 fun kv k ⟨e, u, vs, eu, hu, pv⟩ => ⟨e, u, vs, eu, by rw [upd_ne (fun z => by rw [z, f3] at hu; cases hu)]; exact hu, L2.Paired.mapP pv fun _ _ ⟨y, ey, hy⟩ => ⟨y, ey, by rw [upd_ne (fun z => by rw [z, f3] at hy; cases hy)]; exact hy⟩⟩)⟩
      by_cases e : c = tb
      · rw [e, upd_same, ← htb, ← e, h]
      · rw [upd_ne e]; exact b3 c o e h
    rintro i v σ H3 H4 hi ⟨x3, x4, nkv, rfl, b3, f3, hn3, p3⟩ ⟨rfl, k0, v', qa, ek, rfl, hqa⟩
    obtain ⟨k, hk, ek1, _⟩ := pair_get' pk ek
    have ek1 : k0 = kdK k := ek1
    subst ek1
    have hqa : H4 qa = some (.tup [.str k.1, .str k.2]) := hqa
    have mk := List.mem_of_getElem? hk
    have nt4 : NdT H H4 := fun c o n h => b3 c o (fun z => by rw [z, htb] at h; exact n _ (Option.some.inj h).symm) h
    have pk4 : Paired (TabV .tup rs P H4) kvs (kindsOf rs P) := L2.Paired.mapP pk fun _ _ ⟨e, u, eu, hu⟩ => ⟨e, u, eu, nt4 _ _ (fun _ h => nomatch h) hu⟩
    have P4 := hP.ndT nt4
    have S4 := S.ndT nt4
    refine ⟨_, rfl, tb, od, rfl, .inr ⟨kvs, f3, fun L nL => lc_keysT (d := tb) (o := od) (kvs := kvs) (fun j H' => ∃ vs, Same H4 H' ∧ H' L = some (.lst vs) ∧ Paired (KdV H') vs (((kindsOf rs P).take j).filter (linkB rs P k))) ⟨[], same_new nL, upd_same, by rw [List.take_zero]; exact .nil⟩ (fun j H' _ ⟨_, s, _⟩ => s _ _ f3) ?_ ?_⟩⟩
    · rintro j k2' v2 q2 H5 e2 hq2 ⟨vs, s5, hL5, pr5⟩
      obtain ⟨k2, hk2, ek2, _⟩ := pair_get' pk e2
      have ek2 : k2' = kdK k2 := ek2
      subst ek2
      have hq2 : H5 q2 = some (.tup [.str k2.1, .str k2.2]) := hq2
      have mk2 := List.mem_of_getElem? hk2
      have lvs := pair_len' pr5
      have lf := List.length_filter_le (linkB rs P k) ((kindsOf rs P).take j)
      rw [List.length_take] at lf
      rw [filter_take hk2]
      refine ⟨rfl, _, rfl, _, rfl, _, rfl, _, rfl, p, x, m, a, b, qa, q2, tb, P, rs, k, k2, kvs, _, rfl, P4.same s5, S4.same s5, g, eP, okP, s5 _ _ hqa, hq2, kinds_ok mk, kinds_ok mk2, .inr ⟨od, s5 _ _ f3⟩, L2.Paired.mapP pk4 fun _ _ h => h.same s5, mk, mk2, fun en H6 s6 => ?_, fun ey u H6 s6 => ?_⟩
      · refine ⟨rfl, _, rfl, iteB (fun c => by simp at c) (fun _ => ⟨vs, s5.trans s6, s6 _ _ hL5, ?_⟩)⟩
        rw [if_neg (by rw [en]; exact Bool.false_ne_true), List.append_nil]
        exact L2.Paired.mapP pr5 fun _ _ h => h.same s6
      · refine ⟨rfl, _, rfl, iteB (fun _ => ?_) (fun c => by simp at c)⟩
        have hL6 := s6 _ _ hL5
        have hq6 := s6 _ _ hq2
        refine ⟨_, rfl, vs, hL6, by omega, vs ++ [.ref q2], same_mut (s5.trans s6) nL, upd_same, ?_⟩
        rw [if_pos ey]
        refine pair_app' (L2.Paired.mapP pr5 fun _ _ h => ?_) (.cons ⟨q2, rfl, by rw [upd_ne (fun z => by rw [z, hL6] at hq6; cases hq6)]; exact hq6⟩ .nil)
        obtain ⟨y, ey, hy⟩ := h.same s6
        exact ⟨y, ey, by rw [upd_ne (fun z => by rw [z, hL6] at hy; cases hy)]; exact hy⟩
    rintro H5 ⟨vs, s5, hL5, pr5⟩
    rw [lkv, List.take_length] at pr5
    have hn5 := s5 _ _ hn3
    have f5 := s5 _ _ f3
    have lnk := pair_len' p3
    rw [List.length_take] at lnk
    have nk : k ∉ (kindsOf rs P).take i := nd_take ndk hk
    refine ⟨_, rfl, _, rfl, nb, _, rfl, .inr ⟨nkv, kdK k, qa, hn5, rfl, s5 _ _ hqa, by omega, rfl⟩, ?_⟩
    have bu : But nb H5 (upd H5 nb (.dT (putK nkv (kdK k) (.ref L)))) := But.upd
    have kd5 : ∀ {v : V} {k : Kd}, KdV H5 v k → KdV (upd H5 nb (.dT (putK nkv (kdK k) (.ref L)))) v k := fun ⟨y, ey, hy⟩ => ⟨y, ey, by rw [upd_ne (fun z => by rw [z, hn5] at hy; cases hy)]; exact hy⟩
    refine ⟨_, _, nkv ++ [(kdK k, .ref L)], rfl, fun c o n h => bu _ _ (ne_of_none h nnb) (s5 _ _ (b3 c o n h)), bu _ _ ntn f5, by rw [upd_same, L2.putK_new _ (key_none (fun _ _ h => h.1) p3 nk)], ?_⟩
    rw [List.take_add_one, hk, Option.toList_some]
    refine pair_app' (L2.Paired.mapP p3 fun kv k' h => ?_) (.cons ⟨rfl, L, vs, rfl, bu _ _ (fun z => by rw [z, hn5] at hL5; cases hL5) hL5, L2.Paired.mapP pr5 fun _ _ ⟨y, ey, hy⟩ => ⟨y, ey, bu _ _ (fun z => by rw [z, hn5] at hy; cases hy) hy⟩⟩ .nil)
    obtain ⟨e, u, vs', eu, hu, pv⟩ := h.same s5
    exact ⟨e, u, vs', eu, bu _ _ (fun z => by rw [z, hn5] at hu; cases hu) hu, L2.Paired.mapP pv fun _ _ ⟨y, ey, hy⟩ => ⟨y, ey, bu _ _ (fun z => by rw [z, hn5] at hy; cases hy) hy⟩⟩
end
end My

namespace My
open PySem L2
/-! ### what lies ahead of a kind -/
structure Bfs (R : Kd → Kd → Bool) (ks : List Kd) (k : Kd) (cs qs : List Kd) : Prop where
  nd : qs.Nodup
  q1 : ∀ z ∈ qs, z = k ∨ z ∈ cs
  q2 : ∀ z ∈ cs, z ≠ k → z ∈ qs
  q3 : k ∈ qs
  tc : ∀ z ∈ cs, Tc R ks k z
theorem Bfs.qlen {R : Kd → Kd → Bool} {ks : List Kd} {k : Kd} {cs qs : List Kd} (h : Bfs R ks k cs qs) (m : k ∈ ks) : qs.length ≤ ks.length := List.Nodup.length_le_of_subset h.nd fun z hz => by
  rcases h.q1 z hz with rfl | h1
  · exact m
  · exact (h.tc z h1).mem
theorem Bfs.add {R : Kd → Kd → Bool} {ks : List Kd} {k : Kd} {cs qs : List Kd} {b : Kd} (h : Bfs R ks k cs qs) (n : b ∉ cs) (t : Tc R ks k b) (nk : b ≠ k) : Bfs R ks k (cs ++ [b]) (qs ++ [b]) := by
  have nq : b ∉ qs := fun m => (h.q1 b m).elim nk n
  refine ⟨List.nodup_append.mpr ⟨h.nd, by simp, fun x hx y hy e => ?_⟩, fun z hz => ?_, fun z hz zk => ?_, List.mem_append.mpr (.inl h.q3), fun z hz => ?_⟩
  · rw [List.mem_singleton.mp hy] at e; exact nq (e ▸ hx)
  · rcases List.mem_append.mp hz with hz | hz
    · exact (h.q1 z hz).imp id fun x => List.mem_append.mpr (.inl x)
    · exact .inr (List.mem_append.mpr (.inr hz))
  · rcases List.mem_append.mp hz with hz | hz
    · exact List.mem_append.mpr (.inl (h.q2 z hz zk))
    · exact List.mem_append.mpr (.inr hz)
  · rcases List.mem_append.mp hz with hz | hz
    · exact h.tc z hz
    · rw [List.mem_singleton.mp hz]; exact t
theorem Bfs.addK {R : Kd → Kd → Bool} {ks : List Kd} {k : Kd} {cs qs : List Kd} (h : Bfs R ks k cs qs) (t : Tc R ks k k) : Bfs R ks k (cs ++ [k]) qs := by
  refine ⟨h.nd, fun z hz => (h.q1 z hz).imp id fun x => List.mem_append.mpr (.inl x), fun z hz zk => ?_, h.q3, fun z hz => ?_⟩
  · rcases List.mem_append.mp hz with hz | hz
    · exact h.q2 z hz zk
    · exact absurd (List.mem_singleton.mp hz) zk
  · rcases List.mem_append.mp hz with hz | hz
    · exact h.tc z hz
    · rw [List.mem_singleton.mp hz]; exact t
theorem Bfs.tcq {R : Kd → Kd → Bool} {ks : List Kd} {k : Kd} {cs qs : List Kd} (h : Bfs R ks k cs qs) {q b : Kd} (m : q ∈ qs) (mb : b ∈ ks) (r : R q b = true) : Tc R ks k b := by
  rcases h.q1 q m with rfl | hc
  · exact .one mb r
  · exact .step (h.tc q hc) mb r
theorem bfs_end {R : Kd → Kd → Bool} {ks : List Kd} {k : Kd} {cs qs : List Kd} (h : Bfs R ks k cs qs) (cl : ∀ q ∈ qs, ∀ b ∈ ks, R q b = true → b ∈ cs) (b : Kd) : b ∈ cs ↔ Tc R ks k b := by
  refine ⟨h.tc b, fun t => ?_⟩
  induction t with
  | one mb r => exact cl k h.q3 _ mb r
  | @step a b _ mb r ih =>
    by_cases e : a = k
    · exact cl k h.q3 _ mb (e ▸ r)
    · exact cl a (h.q2 a ih e) _ mb r
theorem keys_in {cs : List Kd} {ckv : List (List Key × V)} (e : ckv.map (·.1) = cs.map kdK) (b : Kd) : (valV ckv (kdK b)).isSome = decide (b ∈ cs) := by
  rw [Bool.eq_iff_iff, decide_eq_true_iff, ← valV_any, List.any_eq_true]
  constructor
  · rintro ⟨kv, hkv, h⟩
    have m : kv.1 ∈ ckv.map (·.1) := List.mem_map.mpr ⟨kv, hkv, rfl⟩
    rw [e] at m
    obtain ⟨c, hc, ec⟩ := List.mem_map.mp m
    have := of_decide_eq_true h
    rw [this] at ec
    exact kdK_inj ec ▸ hc
  · intro h
    have m : kdK b ∈ ckv.map (·.1) := by rw [e]; exact List.mem_map.mpr ⟨b, h, rfl⟩
    obtain ⟨kv, hkv, ek⟩ := List.mem_map.mp m
    exact ⟨kv, hkv, decide_eq_true ek⟩
def plOf (σ : St) : Nat := match σ[4]? with
  | some (some (V.int i)) => i.toNat
  | _ => 0
def spAhead (R : Kd → Kd → Bool) : Sp := fun vs H Q _ => ∃ (a nb : Addr) (k : Kd) (ks : List Kd) (nkv : List (List Key × V)), vs = [.ref a, .ref nb] ∧ H a = some (.tup [.str k.1, .str k.2]) ∧ H nb = some (.dT nkv) ∧ Paired (NearV R ks H) nkv ks ∧ k ∈ ks ∧ (∀ z ∈ ks, okS z) ∧ ks.length ≤ 1000 ∧
  ∀ c ckv H', Same H H' → H c = none → H' c = some (.dT ckv) → (∀ b, (valV ckv (kdK b)).isSome = true ↔ Tc R ks k b) → Q (.ref c) H'
section
variable {w : World} {K : PySem.W.Frag} {mg : Str → Option Value} {base : Heap}
set_option maxHeartbeats 16000000 in
set_option pp.maxSteps 700 in
theorem ok_ahead_of (T : Txt K mg) (R : Kd → Kd → Bool) : FnOk PP w K mg base CX0 1 T.a_ahead_of T.fd_ahead_of ["kind", "near"] (spAhead R) := by
  refine T.F_ahead_of.ok sc_ahead_of (fun vs H Q E h => ?_) (fun cdv A outer s H vs Q E hr h => ?_)
  · obtain ⟨a, nb, k, ks, nkv, rfl, _⟩ := h; rfl
  · obtain ⟨a, nb, k, ks, nkv, rfl, ha, hnb, pn, mk, okk, lks, q⟩ := h
    refine ⟨_, (pss_cons (ps_set (i := 2) sc_ahead_of.nd rfl (.inl rfl) (pe_dnewT))
      (pss_cons (ps_set (i := 3) sc_ahead_of.nd rfl (.inl rfl) (pe_lst (pa_cons (pv 0) pa_nil)))
      (pss_cons (ps_set (i := 4) sc_ahead_of.nd rfl (.inl rfl) (pe_int))
      (pss_cons (ps_while PassesOwn.never (pt_cmpR op_lt (pv 4) (pe_callB call_len_seq (by rfl) T.n_len (by decide +kernel) (pa_cons (pv 3) pa_nil)) (nomark _)) (pss_cons (ps_for PassesOwn.never rfl (pi_list (pe_dget (hu_of hr) (pv 1) (pe_ix ix_list (pv 3) (pv 4) (fun _ _ => rfl)) (fun _ _ => rfl))) (pg_name (i := 5) sc_ahead_of.nd rfl (.inl rfl)) (pss_one (ps_if (pt_cmpR (op_ninKd (hu_of hr)) (pv 5) (pv 2) (by with_unfolding_all rfl)) (pss_cons (ps_dput (hu_of hr) (pv 2) (pv 5) (pe_ix ix_list (pv 3) (pv 4) (fun _ _ => rfl)) rfl)
      (pss_one (ps_if (pt_cmpR (op_neD hr.units) (pv 5) (pv 0) (nomark _)) (pss_one (ps_expr (pe_bm PySem.F.plainAttrs_list PySem.F.slot_list_append PySem.F.type_list_append mt_append (pv 3) (pa_cons (pv 5) pa_nil)))) pss_nil))) pss_nil)))
      (pss_one (ps_aug (i := 4) sc_ahead_of.nd rfl (.inl rfl) (pe_int) ip_add))))
      (pss_one (ps_ret (pv 2))))))), ?_⟩
    have big : 100000 < sizeLine := by decide
    refine fun C nC => ⟨_, rfl, by show 1 ≤ sizeLine; decide, fun U nU => ?_⟩
    have sC := same_new (o := .dT []) nC
    have sU := same_new (o := .lst [.ref a]) nU
    have hC1 := sU _ _ (upd_same (H := H) (a := C) (o := .dT []))
    have hU1 : (upd (upd H C (.dT [])) U (.lst [.ref a])) U = some (.lst [.ref a]) := upd_same
    have nCU : C ≠ U := fun z => by rw [← z, upd_same] at nU; cases nU
    have nU0 := sC.free nU
    have s1 := sC.trans sU
    revert hC1 hU1 s1
    generalize upd (upd H C (.dT [])) U (.lst [.ref a]) = H1
    intro hC1 hU1 s1
    refine while_by (fun σ H' => ∃ (pl : Nat) (x5 : Option V) (cs qs : List Kd) (ckv : List (List Key × V)) (qv : List V), σ = [some (.ref a), some (.ref nb), some (.ref C), some (.ref U), some (.int ((pl : Nat) : Int)), x5] ∧ Same H H' ∧ H' C = some (.dT ckv) ∧ ckv.map (·.1) = cs.map kdK ∧ H' U = some (.lst qv) ∧ Paired (KdV H') qv qs ∧ Bfs R ks k cs qs ∧ cs.Nodup ∧ pl ≤ qs.length ∧ ∀ i, i < pl → ∀ z, qs[i]? = some z → ∀ b ∈ ks, R z b = true → b ∈ cs) (fun σ H' => ks.length + 1 - plOf σ) ⟨0, none, [], [k], [], [.ref a], rfl, s1, hC1, rfl, hU1, .cons ⟨a, rfl, s1 _ _ ha⟩ .nil, ⟨by simp, (fun z hz => .inl (List.mem_singleton.mp hz)), (fun _ h => nomatch h), by simp, (fun _ h => nomatch h)⟩, .nil, Nat.zero_le _, fun i h => absurd h (Nat.not_lt_zero _)⟩ ?_ (fun σ H Q Q' h ⟨v1, e1, v2, e2, p, ys, e3, sq, i, j, ei, ej, b, eb, q⟩ => ⟨v1, e1, v2, e2, p, ys, e3, sq, i, j, ei, ej, b, eb, h _ _ q⟩)
    rintro σ H2 ⟨pl, x5, cs, qs, ckv, qv, rfl, s2, hC2, ec, hU2, pq, bf, ndc, lpl, cl⟩
    have lq := pair_len' pq
    have lqk := bf.qlen mk
    refine ⟨_, rfl, _, rfl, U, _, rfl, .inl (SqL.of hU2), _, _, rfl, rfl, _, rfl, iteD (fun c => ?_) (fun c => ?_)⟩
    rotate_left
    · have epl : pl = qs.length := by omega
      refine ⟨_, rfl, q C ckv H2 s2 nC hC2 fun b => ?_⟩
      rw [keys_in ec, decide_eq_true_iff]
      refine bfs_end bf (fun z hz b mb r => ?_) b
      obtain ⟨i, hi⟩ := List.mem_iff_getElem?.mp hz
      have := (List.getElem?_eq_some_iff.mp hi).1
      exact cl i (by omega) z hi b mb r
    have hpl : pl < qs.length := by omega
    obtain ⟨z, hz⟩ : ∃ z, qs[pl]? = some z := ⟨_, List.getElem?_eq_getElem hpl⟩
    obtain ⟨v, hv, za, rfl, hza⟩ := pair_back pq hz
    have mzq := List.mem_of_getElem? hz
    have mzk : z ∈ ks := by
      rcases bf.q1 z mzq with rfl | h
      · exact mk
      · exact (bf.tc z h).mem
    obtain ⟨kv, ev, _, L, lv, eL, hL, pl2⟩ := key_val (fun _ _ h => h.1) pn mzk
    have dg : DGet H2 nb (.ref za) (some (.ref L)) := .inr ⟨nkv, kdK z, za, .inl (s2 _ _ hnb), rfl, hza, by rw [ev, eL]⟩
    have lf := List.length_filter_le (R z) ks
    refine ⟨_, rfl, _, rfl, _, rfl, _, _, _, _, rfl, rfl, SqL.of hU2, atI_nat hv, nb, _, rfl, dg, L, rfl, ⟨_, SqL.of (s2 _ _ hL)⟩, for_list (K := K) (a := L) (xs := lv) (fun j σ H' => ∃ (x5 : Option V) (cs' qs' : List Kd) (ckv' : List (List Key × V)) (qv' : List V), σ = [some (.ref a), some (.ref nb), some (.ref C), some (.ref U), some (.int ((pl : Nat) : Int)), x5] ∧ Same H H' ∧ H' C = some (.dT ckv') ∧ ckv'.map (·.1) = cs'.map kdK ∧ H' U = some (.lst qv') ∧ Paired (KdV H') qv' qs' ∧ Bfs R ks k cs' qs' ∧ cs'.Nodup ∧ (∀ i, i ≤ pl → qs'[i]? = qs[i]?) ∧ (∀ b ∈ cs, b ∈ cs') ∧ ∀ b ∈ (ks.filter (R z)).take j, b ∈ cs') ⟨_, cs, qs, ckv, qv, rfl, s2, hC2, ec, hU2, pq, bf, ndc, fun _ _ => rfl, fun _ h => h, fun _ h => by rw [List.take_zero] at h; cases h⟩ (fun j σ H' _ ⟨_, _, _, _, _, _, s, _⟩ => SqL.of (s _ _ hL)) ?_ ?_⟩
    rotate_left
    · rintro σ H3 ⟨x5, cs', qs', ckv', qv', rfl, s3, hC3, ec3, hU3, pq3, bf3, nd3, same, up, nb3⟩
      rw [pair_len' pl2, List.take_length] at nb3
      have lq3 := bf3.qlen mk
      have hz3 : qs'[pl]? = some z := by rw [same pl (Nat.le_refl _)]; exact hz
      have hlt := (List.getElem?_eq_some_iff.mp hz3).1
      refine ⟨_, rfl, pl, 1, rfl, rfl, ⟨pl + 1, _, cs', qs', ckv', qv', rfl, s3, hC3, ec3, hU3, pq3, bf3, nd3, by omega, fun i hi y hy b mb r => ?_⟩, ?_⟩
      · by_cases e : i = pl
        · subst e
          rw [hz3] at hy
          obtain rfl := Option.some.inj hy
          exact nb3 b (List.mem_filter.mpr ⟨mb, r⟩)
        · rw [same i (by omega)] at hy
          exact up b (cl i (by omega) y hy b mb r)
      · show ks.length + 1 - ((((pl : Nat) : Int) + 1).toNat) < ks.length + 1 - (((pl : Nat) : Int).toNat)
        omega
    rintro j v σ H3 hv3 ⟨x5, cs', qs', ckv', qv', rfl, s3, hC3, ec3, hU3, pq3, bf3, nd3, same, up, nb3⟩
    obtain ⟨b, hb, ba, rfl, hba⟩ := pair_get' pl2 hv3
    have mbf := List.mem_of_getElem? hb
    obtain ⟨mb, rb⟩ := List.mem_filter.mp mbf
    have hba3 := s3 _ _ hba
    have hz3 : qs'[pl]? = some z := by rw [same pl (Nat.le_refl _)]; exact hz
    obtain ⟨v3, hv3', za3, rfl, hza3⟩ := pair_back pq3 hz3
    have tcb := bf3.tcq (List.mem_of_getElem? hz3) mb rb
    have dgb : DGet H3 C (.ref ba) (valV ckv' (kdK b)) := .inr ⟨ckv', kdK b, ba, .inl hC3, rfl, hba3, rfl⟩
    have nbA : ∀ {cs2 : List Kd}, (∀ y ∈ cs', y ∈ cs2) → b ∈ cs2 → ∀ y ∈ (ks.filter (R z)).take (j + 1), y ∈ cs2 := fun u hb2 y hy => by
      rw [List.take_add_one, hb, Option.toList_some] at hy
      rcases List.mem_append.mp hy with hy | hy
      · exact u y (nb3 y hy)
      · rw [List.mem_singleton.mp hy]; exact hb2
    refine ⟨_, rfl, _, rfl, C, _, rfl, dgb, ?_⟩
    rw [if_pos rfl, keys_in ec3]
    refine ⟨_, rfl, iteB (fun c => ?_) (fun c => ?_)⟩
    rotate_left
    · have c : b ∈ cs' := by simpa using c
      exact ⟨_, cs', qs', ckv', qv', rfl, s3, hC3, ec3, hU3, pq3, bf3, nd3, same, up, nbA (fun _ h => h) c⟩
    have c : b ∉ cs' := by simpa using c
    have lcs : cs'.length ≤ ks.length := List.Nodup.length_le_of_subset nd3 fun y hy => (bf3.tc y hy).mem
    have lck : ckv'.length = cs'.length := by
      have := congrArg List.length ec3
      rwa [List.length_map, List.length_map] at this
    have ek : putK ckv' (kdK b) (.ref za3) = ckv' ++ [(kdK b, .ref za3)] := L2.putK_new _ (by
      have h := keys_in ec3 b
      rw [decide_eq_false c] at h
      cases e : valV ckv' (kdK b) with
      | none => rfl
      | some y => rw [e] at h; cases h)
    refine ⟨_, rfl, _, rfl, _, _, _, _, rfl, rfl, SqL.of hU3, atI_nat hv3', _, rfl, _, rfl, C, _, rfl, .inr ⟨ckv', kdK b, ba, hC3, rfl, hba3, by omega, rfl⟩, ?_⟩
    rw [ek]
    have bu : But C H3 (upd H3 C (.dT (ckv' ++ [(kdK b, .ref za3)]))) := But.upd
    have hC4 : (upd H3 C (.dT (ckv' ++ [(kdK b, .ref za3)]))) C = some (.dT (ckv' ++ [(kdK b, .ref za3)])) := upd_same
    have s4 : Same H (upd H3 C (.dT (ckv' ++ [(kdK b, .ref za3)]))) := same_mut s3 nC
    have hU4 := bu _ _ nCU.symm hU3
    have nx : ∀ {x : Addr} {xs : List V}, H3 x = some (.tup xs) → x ≠ C := fun h z => by rw [z, hC3] at h; cases h
    have hba4 := bu _ _ (nx hba3) hba3
    have pq4 : Paired (KdV (upd H3 C (.dT (ckv' ++ [(kdK b, .ref za3)])))) qv' qs' := L2.Paired.mapP pq3 fun _ _ ⟨y, ey, hy⟩ => ⟨y, ey, bu _ _ (nx hy) hy⟩
    have ec4 : (ckv' ++ [(kdK b, V.ref za3)]).map (·.1) = (cs' ++ [b]).map kdK := by rw [List.map_append, List.map_append, ec3]; rfl
    have nd4 : (cs' ++ [b]).Nodup := List.nodup_append.mpr ⟨nd3, by simp, fun x hx y hy e => by rw [List.mem_singleton.mp hy] at e; exact c (e ▸ hx)⟩
    revert hC4 s4 hU4 hba4 pq4
    generalize upd H3 C (.dT (ckv' ++ [(kdK b, .ref za3)])) = H4
    intro hC4 s4 hU4 hba4 pq4
    have up4 : ∀ y ∈ cs, y ∈ cs' ++ [b] := fun y hy => List.mem_append.mpr (.inl (up y hy))
    have nb4 := nbA (cs2 := cs' ++ [b]) (fun y hy => List.mem_append.mpr (.inl hy)) (List.mem_append.mpr (.inr (List.mem_singleton.mpr rfl)))
    refine ⟨_, rfl, _, rfl, kdD b, kdD k, kdDp hba4, kdDp (s4 _ _ ha), shaped_of (okS_lay (okk b mb)) (by rw [kdD_depth]; decide), shaped_of (okS_lay (okk k mk)) (by rw [kdD_depth]; decide), ?_⟩
    rw [eqv_kd]
    refine ⟨_, rfl, iteB (fun cc => ?_) (fun cc => ?_)⟩
    · have cc : b ≠ k := by simpa using cc
      have lqv := pair_len' pq4
      have lq3 := bf3.qlen mk
      refine ⟨_, rfl, .inl ⟨rfl, _, SqL.of hU4⟩, _, rfl, _, _, _, rfl, rfl, hU4, by omega, ?_⟩
      have bU : But U H4 (upd H4 U (.lst (qv' ++ [.ref ba]))) := But.upd
      have nxU : ∀ {x : Addr} {xs : List V}, H4 x = some (.tup xs) → x ≠ U := fun h z => by rw [z, hU4] at h; cases h
      refine ⟨_, cs' ++ [b], qs' ++ [b], _, qv' ++ [.ref ba], rfl, same_mut s4 nU0, bU _ _ nCU hC4, ec4, upd_same, ?_, bf3.add c tcb cc, nd4, fun i hi => ?_, up4, nb4⟩
      · exact pair_app' (L2.Paired.mapP pq4 fun _ _ ⟨y, ey, hy⟩ => ⟨y, ey, bU _ _ (nxU hy) hy⟩) (.cons ⟨ba, rfl, bU _ _ (nxU hba4) hba4⟩ .nil)
      · have hlt := (List.getElem?_eq_some_iff.mp hz3).1
        rw [List.getElem?_append_left (by omega)]
        exact same i hi
    · have cc : b = k := by simpa using cc
      exact ⟨_, cs' ++ [b], qs', _, qv', rfl, s4, hC4, ec4, hU4, pq4, by rw [cc]; exact bf3.addK (cc ▸ tcb), nd4, same, up4, nb4⟩
end
end My

namespace My
open PySem L2
/-! ### joined -/
def jnL (rs : List Row) (P : List Rl) (k : Kd) : List Kd := (kindsOf rs P).filter fun b => decide (b ∈ joinL (linkB rs P) (kindsOf rs P) k)
def spJoined (Cp Cw Cs : Addr) : Sp := fun vs H Q _ => ∃ (p x m a b ka : Addr) (P : List Rl) (rs : List Row) (k : Kd), vs = [.ref p, .ref ka] ∧ Pol Cp Cw H p x m a b P ∧ ShO Cs H x rs ∧ GoodC rs ∧ P.map (·.1) = mks rs ∧ OkW P ∧ wordsOk rs ∧ H ka = some (.tup [.str k.1, .str k.2]) ∧ k ∈ kindsOf rs P ∧
  ∀ l us H', Same H H' → H l = none → H' l = some (.tup us) → Paired (KdV H') us (jnL rs P k) → Q (.ref l) H'
section
variable {w : World} {K : PySem.W.Frag} {mg : Str → Option Value} {base : Heap}
end
end My

namespace My
open PySem L2
def spLTable : Sp := fun vs H Q _ => ∃ (R gd : Addr) (ws : List V) (rs : List Row) (kvs : List (Key × V)) (P : List Rl), vs = [.ref R, .ref gd] ∧ H R = some (.lst ws) ∧ RowsN (fun _ => True) true H ws rs ∧ GoodC rs ∧ H gd = some (.dK kvs) ∧ Paired (RdV H) kvs P ∧ P.map (·.1) = mks rs ∧ OkW P ∧
  ∀ u tv H', Same H H' → H u = none → H' u = some (.dT tv) → Paired (TabV .lst rs P H') tv (kindsOf rs P) → Q (.ref u) H'
def spLMeeting : Sp := fun vs H Q _ => ∃ (R gd a1 a2 tb : Addr) (ws : List V) (rs : List Row) (kvs : List (Key × V)) (P : List Rl) (k1 k2 : Kd) (tv : List (List Key × V)) (ks : List Kd), vs = [.ref R, .ref gd, .ref a1, .ref a2, .ref tb] ∧ H R = some (.lst ws) ∧ RowsN (fun _ => True) true H ws rs ∧ GoodC rs ∧ H gd = some (.dK kvs) ∧ Paired (RdV H) kvs P ∧ P.map (·.1) = mks rs ∧ OkW P ∧ H a1 = some (.tup [.str k1.1, .str k1.2]) ∧ H a2 = some (.tup [.str k2.1, .str k2.2]) ∧ okKd k1 ∧ okKd k2 ∧ Rd H tb (.dT tv) ∧ Paired (TabV .lst rs P H) tv ks ∧ k1 ∈ ks ∧ k2 ∈ ks ∧
  ∀ H', Same H H' → Q (.bl (linkB rs P k1 k2)) H'
theorem metAt_eq (r : Row) (ws : List Wv) (n : Int) (ns1 ns2 : List Str) (k1 k2 : Kd) : metAt r ws n ns1 ns2 k1 k2 = (ws.filter fun w => fitB r ns1 k1 w n).any fun w => (ws.filter fun w2 => fitB r ns2 k2 w2 n).any fun w2 => decide (need w.2.2.1 n + need w2.2.2.1 n ≤ n) := by
  unfold metAt
  rw [List.any_filter]
  congr 1
  funext w
  rw [List.any_filter]
section
variable {w : World} {K : PySem.W.Frag} {mg : Str → Option Value} {base : Heap}
set_option maxHeartbeats 16000000 in
set_option pp.maxSteps 700 in
theorem ok__law_table (T : Txt K mg) : FnOk PP w K mg base CX0 6 T.a__law_table T.fd__law_table ["_law_rows_here", "_law_rules_here"] spLTable := by
  refine T.F__law_table.ok sc__law_table (fun vs H Q E h => ?_) (fun cdv A outer s H vs Q E hr h => ?_)
  · obtain ⟨R, gd, ws, rs, kvs, P, rfl, _⟩ := h; rfl
  · obtain ⟨R, gd, ws, rs, kvs, P, rfl, hR, rR, g, hg, pk, eP, okP, q⟩ := h
    refine ⟨_, (pss_cons (ps_set (i := 2) sc__law_table.nd rfl (.inl rfl) (pe_dnewT))
      (pss_cons (ps_for PassesOwn.never rfl (pi_list (pe_call (ok__law_kinds T) (hr.mono (by omega)) (by rfl) T.g__law_kinds T.F__law_kinds.kp T.b__law_kinds .nil pass0 (pa_cons (pv 0) (pa_cons (pv 1) pa_nil)))) (pg_name (i := 3) sc__law_table.nd rfl (.inl rfl)) (pss_one (ps_dput (hu_of hr) (pv 2) (pv 3) (pe_call (ok__law_reached T) (hr.mono (by omega)) (by rfl) T.g__law_reached T.F__law_reached.kp T.b__law_reached .nil pass0 (pa_cons (pv 0) (pa_cons (pv 1) (pa_cons (pv 3) pa_nil)))) rfl)))
      (pss_one (ps_ret (pv 2))))), ?_⟩
    have big : 100000 < sizeLine := by decide
    have l6 := g.len
    have ndP : (P.map (·.1)).Nodup := by rw [eP]; exact g.nd
    have lP : P.length = rs.length := by rw [← List.length_map (f := fun r : Rl => r.1), eP]; unfold mks; rw [List.length_map]
    have lks := kinds_len rs P
    have ndk := kinds_nd (rs := rs) ndP
    refine fun o no => ?_
    have s1 := same_new (o := .dT []) no
    have ho1 : (upd H o (.dT [])) o = some (.dT []) := upd_same
    revert ho1 s1
    generalize upd H o (.dT []) = H1
    intro s1 ho1
    refine ⟨_, rfl, _, rfl, R, gd, ws, rs, kvs, P, rfl, s1 _ _ hR, rowsN_same rR s1, g.nd, by omega, s1 _ _ hg, L2.Paired.mapP pk fun _ _ h => h.same s1, eP, fun u us H2 s2 nu hu pu => ⟨u, rfl, ⟨_, SqL.of hu⟩, for_list (K := K) (a := u) (xs := us) (fun i σ H' => ∃ (x3 : Option V) (tv : List (List Key × V)), σ = [some (.ref R), some (.ref gd), some (.ref o), x3] ∧ Same H H' ∧ (∀ c y, c ≠ o → H2 c = some y → H' c = some y) ∧ H' o = some (.dT tv) ∧ Paired (TabV .lst rs P H') tv ((kindsOf rs P).take i)) ⟨_, [], rfl, s1.trans s2, fun _ _ _ h => h, s2 _ _ ho1, .nil⟩ (fun i σ H' _ ⟨_, _, _, _, b, _⟩ => SqL.of (b _ _ (fun z => by rw [z, s2 _ _ ho1] at hu; cases hu) hu)) ?_ ?_⟩⟩
    rotate_left
    · rintro σ H3 ⟨x3, tv, rfl, s3, b3, ho3, p3⟩
      rw [pair_len' pu, List.take_length] at p3
      exact ⟨_, rfl, q o tv H3 s3 no ho3 p3⟩
    rintro i v σ H3 hv ⟨x3, tv, rfl, s3, b3, ho3, p3⟩
    obtain ⟨k, hk, ka, rfl, hka⟩ := pair_get' pu hv
    have hka3 := b3 _ _ (fun z => by rw [z, s2 _ _ ho1] at hka; cases hka) hka
    have kd := kinds_ok (List.mem_of_getElem? hk)
    have ltv := pair_len' p3
    rw [List.length_take] at ltv
    have nk : k ∉ (kindsOf rs P).take i := nd_take ndk hk
    refine ⟨_, rfl, _, rfl, _, rfl, R, gd, ka, ws, rs, kvs, P, k, rfl, s3 _ _ hR, rowsN_same rR s3, g, s3 _ _ hg, L2.Paired.mapP pk fun _ _ h => h.same s3, eP, okP, hka3, kd, fun L H4 s4 nL hL => ⟨_, rfl, _, rfl, o, _, rfl, .inr ⟨tv, kdK k, ka, s4 _ _ ho3, rfl, s4 _ _ hka3, by omega, rfl⟩, ?_⟩⟩
    have ho4 := s4 _ _ ho3
    have bu : But o H4 (upd H4 o (.dT (putK tv (kdK k) (.ref L)))) := But.upd
    refine ⟨_, tv ++ [(kdK k, .ref L)], rfl, same_mut (s3.trans s4) no, fun c y n h => bu _ _ n (s4 _ _ (b3 c y n h)), by rw [upd_same, L2.putK_new _ (key_none (fun _ _ h => h.1) p3 nk)], ?_⟩
    rw [List.take_add_one, hk, Option.toList_some]
    refine pair_app' (L2.Paired.mapP p3 fun kv k' h => ?_) (.cons ⟨rfl, L, rfl, bu _ _ (fun z => by rw [z, ho4] at hL; cases hL) hL⟩ .nil)
    obtain ⟨e, u', eu, hu'⟩ := h.same s4
    exact ⟨e, u', eu, bu _ _ (fun z => by rw [z, ho4] at hu'; cases hu') hu'⟩
set_option maxHeartbeats 16000000 in
set_option pp.maxSteps 700 in
theorem ok__law_meeting (T : Txt K mg) : FnOk PP w K mg base CX0 6 T.a__law_meeting T.fd__law_meeting ["_law_rows_here", "_law_rules_here", "_law_one", "_law_two", "_law_table_here"] spLMeeting := by
  refine T.F__law_meeting.ok sc__law_meeting (fun vs H Q E h => ?_) (fun cdv A outer s H vs Q E hr h => ?_)
  · obtain ⟨R, gd, a1, a2, tb, ws, rs, kvs, P, k1, k2, tv, ks, rfl, _⟩ := h; rfl
  · obtain ⟨R, gd, a1, a2, tb, ws, rs, kvs, P, k1, k2, tv, ks, rfl, hR, rR, g, hg, pk, eP, okP, h1, h2, kd1, kd2, hr0, pt, m1, m2, qq⟩ := h
    refine ⟨_, (pss_cons (ps_for PassesOwn.never rfl (pi_list (pv 0)) (pg_name (i := 5) sc__law_meeting.nd rfl (.inr rfl)) (pss_one (ps_for PassesOwn.never rfl (pi_range2 (by rfl) T.n_range (pa_cons (pe_ix ix_list (pv 5) (pe_int) (fun _ _ => rfl)) (pa_cons (pe_op op_add (pe_ix ix_list (pv 5) (pe_int) (fun _ _ => rfl)) (pe_int)) pa_nil))) (pg_name (i := 6) sc__law_meeting.nd rfl (.inr rfl)) (pss_cons (ps_set (i := 7) sc__law_meeting.nd rfl (.inl rfl) (pe_ix ix_list (pe_dget (hu_of hr) (pv 1) (pe_ix ix_list (pv 5) (pe_int) (fun _ _ => rfl)) (fun _ _ => rfl)) (pe_int) (fun _ _ => rfl)))
      (pss_cons (ps_setLc (i := 8) (own := [("_law_way_here", 9)]) (g := (gName 9)) (by rfl) sc__law_meeting.nd rfl rfl (sw_true rfl rfl rfl (by decide +kernel)) (pi_list (pv 7)) (blkOk_by (own := [("_law_way_here", 9)]) (N := ["_law_rows_here", "_law_rules_here", "_law_one", "_law_two", "_law_table_here", "_law_row", "_law_count", "_law_ways", "_law_first", "_law_way_here", "_law_second", "_law_other"]) (sc := defScope S__law_meeting) (by decide +kernel)) (fun _ _ _ _ _ => (pg_name (i := 9) sc__law_meeting.nd rfl (by first | exact .inl rfl | exact .inr rfl))) (fun _ _ _ _ _ => (pts_one (pt_val (pe_call (ok__law_fits T) (hr.mono (by omega)) (by rfl) T.g__law_fits T.F__law_fits.kp T.b__law_fits .nil pass0 (pa_cons (pv 0) (pa_cons (pv 5) (pa_cons (pv 9) (pa_cons (pv 6) (pa_cons (pv 2) (pa_cons (pe_dget (hu_of hr) (pv 4) (pv 2) (fun _ _ => rfl)) pa_nil)))))))))) (fun _ _ _ _ _ => (pv 9)))
      (pss_cons (ps_setLc (i := 10) (own := [("_law_way_here", 9)]) (g := (gName 9)) (by rfl) sc__law_meeting.nd rfl rfl (sw_true rfl rfl rfl (by decide +kernel)) (pi_list (pv 7)) (blkOk_by (own := [("_law_way_here", 9)]) (N := ["_law_rows_here", "_law_rules_here", "_law_one", "_law_two", "_law_table_here", "_law_row", "_law_count", "_law_ways", "_law_first", "_law_way_here", "_law_second", "_law_other"]) (sc := defScope S__law_meeting) (by decide +kernel)) (fun _ _ _ _ _ => (pg_name (i := 9) sc__law_meeting.nd rfl (by first | exact .inl rfl | exact .inr rfl))) (fun _ _ _ _ _ => (pts_one (pt_val (pe_call (ok__law_fits T) (hr.mono (by omega)) (by rfl) T.g__law_fits T.F__law_fits.kp T.b__law_fits .nil pass0 (pa_cons (pv 0) (pa_cons (pv 5) (pa_cons (pv 9) (pa_cons (pv 6) (pa_cons (pv 3) (pa_cons (pe_dget (hu_of hr) (pv 4) (pv 3) (fun _ _ => rfl)) pa_nil)))))))))) (fun _ _ _ _ _ => (pv 9)))
      (pss_one (ps_for PassesOwn.never rfl (pi_list (pv 8)) (pg_name (i := 9) sc__law_meeting.nd rfl (.inl rfl)) (pss_one (ps_for PassesOwn.never rfl (pi_list (pv 10)) (pg_name (i := 11) sc__law_meeting.nd rfl (.inl rfl)) (pss_one (ps_if (pt_cmpR op_le (pe_op op_add (pe_call (ok__law_number T) (hr.mono (by omega)) (by rfl) T.g__law_number T.F__law_number.kp T.b__law_number .nil pass0 (pa_cons (pe_ix ix_list (pv 9) (pe_int) (fun _ _ => rfl)) (pa_cons (pv 6) pa_nil))) (pe_call (ok__law_number T) (hr.mono (by omega)) (by rfl) T.g__law_number T.F__law_number.kp T.b__law_number .nil pass0 (pa_cons (pe_ix ix_list (pv 11) (pe_int) (fun _ _ => rfl)) (pa_cons (pv 6) pa_nil)))) (pv 6) (nomark _)) (pss_one (ps_ret (pe_bl))) pss_nil))))))))))))
      (pss_one (ps_ret (pe_bl)))), ?_⟩
    have big : 100000 < sizeLine := by decide
    have lw := pair_len' rR
    have l6 := g.len
    have ndP : (P.map (·.1)).Nodup := by rw [eP]; exact g.nd
    have t1 : ∀ {H' : Hp}, Same H H' → ∃ u, DGet H' tb (.ref a1) (some (.ref u)) ∧ H' u = some (.lst ((reachL rs P k1).map V.str)) := fun s => tab_get (rd_same hr0 s) (L2.Paired.mapP pt fun _ _ h => h.same s) m1 (s _ _ h1)
    have t2 : ∀ {H' : Hp}, Same H H' → ∃ u, DGet H' tb (.ref a2) (some (.ref u)) ∧ H' u = some (.lst ((reachL rs P k2).map V.str)) := fun s => tab_get (rd_same hr0 s) (L2.Paired.mapP pt fun _ _ h => h.same s) m2 (s _ _ h2)
    obtain ⟨f, ef⟩ : ∃ f : Row → Bool, f = fun r => metRow r (waysL P r.mark) (reachL rs P k1) (reachL rs P k2) k1 k2 := ⟨_, rfl⟩
    have em : linkB rs P k1 k2 = rs.any f := by rw [ef]; rfl
    rw [em] at qq
    refine ⟨_, rfl, R, rfl, ⟨_, SqL.of hR⟩, for_list (K := K) (a := R) (xs := ws) (fun i σ H' => ∃ (x5 x6 x7 x8 x9 x10 x11 : Option V), σ = [some (.ref R), some (.ref gd), some (.ref a1), some (.ref a2), some (.ref tb), x5, x6, x7, x8, x9, x10, x11] ∧ Same H H' ∧ (rs.take i).any f = false) ⟨_, _, _, _, _, _, _, rfl, Same.refl _, rfl⟩ (fun i σ H' _ ⟨_, _, _, _, _, _, _, _, s, _⟩ => SqL.of (s _ _ hR)) ?_ ?_⟩
    rotate_left
    · rintro σ H2 ⟨_, _, _, _, _, _, _, rfl, s2, e⟩
      rw [lw, List.take_length] at e
      have := qq H2 s2
      rw [e] at this
      exact this
    rintro i v σ H2 hv ⟨x5, x6, x7, x8, x9, x10, x11, rfl, s2, e⟩
    obtain ⟨r, hr, rp, pp, rfl, _, _, hrp, hpp⟩ := pair_get' rR hv
    have hrp : H rp = some (.lst (rowL r pp)) := hrp
    have hpp : H pp = some (.lst (r.pars.map V.str)) := hpp
    have mr := List.mem_of_getElem? hr
    obtain ⟨z0, z1, z2⟩ := good_sizes g mr
    obtain ⟨q, lz, mq, eq⟩ := look_mark ndP eP mr
    have ew : waysL P r.mark = q.2.2 := by unfold waysL; rw [lz]; rfl
    obtain ⟨iq, hiq⟩ := List.mem_iff_getElem?.mp mq
    obtain ⟨kv, ev, _, q0, p0, us0, eq0, hq0, hp0, pus, lus⟩ := val_rd pk ndP hiq
    have okw := (okP q mq).1
    have l00 := pair_len' pus
    have efr : f r = (List.range (r.most + 1 - r.least).toNat).any fun j => metAt r q.2.2 (r.least + ((j : Nat) : Int)) (reachL rs P k1) (reachL rs P k2) k1 k2 := by rw [ef]; dsimp only; rw [ew]; rfl
    refine ⟨_, rfl, _, _, _, _, rfl, rfl, SqL.of (s2 _ _ hrp), atI_nat (j := 2) rfl, _, rfl, _, _, _, _, rfl, rfl, SqL.of (s2 _ _ hrp), atI_nat (j := 3) rfl, _, _, rfl, rfl, r.least, r.most + 1, rfl, ⟨by omega, by omega, by omega, by omega⟩, for_range (lo := r.least) (n := (r.most + 1 - r.least).toNat) (fun j σ H' => ∃ (x6 x7 x8 x9 x10 x11 : Option V), σ = [some (.ref R), some (.ref gd), some (.ref a1), some (.ref a2), some (.ref tb), some (.ref rp), x6, x7, x8, x9, x10, x11] ∧ Same H H' ∧ (List.range j).any (fun j => metAt r q.2.2 (r.least + ((j : Nat) : Int)) (reachL rs P k1) (reachL rs P k2) k1 k2) = false) ⟨_, _, _, _, _, _, rfl, s2, rfl⟩ ?_ ?_⟩
    rotate_left
    · rintro σ H3 ⟨_, _, _, _, _, _, rfl, s3, e3⟩
      exact ⟨_, _, _, _, _, _, _, rfl, s3, any_take' hr e (by rw [efr]; exact e3)⟩
    rintro j σ H3 hj ⟨x6, x7, x8, x9, x10, x11, rfl, s3, e3⟩
    have done : ∀ H', Same H H' → metAt r q.2.2 (r.least + ((j : Nat) : Int)) (reachL rs P k1) (reachL rs P k2) k1 k2 = true → Q (.bl true) H' := fun H' s ey => by
      have et : rs.any f = true := any_at hr (by rw [efr]; exact List.any_eq_true.mpr ⟨j, List.mem_range.mpr hj, ey⟩)
      have := qq H' s
      rwa [et] at this
    have c0 : 0 ≤ r.least + ((j : Nat) : Int) := by omega
    have next : metAt r q.2.2 (r.least + ((j : Nat) : Int)) (reachL rs P k1) (reachL rs P k2) k1 k2 = false → (List.range (j + 1)).any (fun j => metAt r q.2.2 (r.least + ((j : Nat) : Int)) (reachL rs P k1) (reachL rs P k2) k1 k2) = false := any_rng e3
    rw [metAt_eq] at done next
    revert done next c0
    generalize r.least + ((j : Nat) : Int) = n
    intro done c0 next
    have dg := DGet.k (k := .inr r.mark) (s3 _ _ hg)
    rw [← eq, ev, eq0, eq] at dg
    -- the two lists
    have LC : ∀ (k : Kd) (ak : Addr) (kd : okKd k) (hk : H ak = some (.tup [.str k.1, .str k.2])) (f : Wv → Bool), True := fun _ _ _ _ _ => trivial
    refine ⟨_, rfl, _, rfl, _, _, _, _, rfl, rfl, SqL.of (s3 _ _ hrp), atI_nat (j := 0) rfl, gd, _, rfl, dg, _, _, _, _, rfl, rfl, SqL.of (s3 _ _ hq0), atI_nat (j := 1) rfl, ?_⟩
    refine ⟨_, rfl, p0, rfl, ⟨_, SqL.of (s3 _ _ hp0)⟩, fun F hF => lc_list (K := K) (a := p0) (xs := us0) (fun m H' => ∃ us, Same H3 H' ∧ H' F = some (.lst us) ∧ Paired (LwV H) us ((q.2.2.take m).filter fun w => fitB r (reachL rs P k1) k1 w n)) ⟨[], same_new hF, upd_same, .nil⟩ (fun m H' _ ⟨_, s, _⟩ => SqL.of (s _ _ (s3 _ _ hp0))) ?_ ?_⟩
    · rintro m v H4 hv4 ⟨us, s4, hF4, p4⟩
      obtain ⟨wv, hwv, wq, rfl, hwq, adw⟩ := pair_get' pus hv4
      have s34 := s3.trans s4
      obtain ⟨u1, d1, hu1⟩ := t1 s34
      obtain ⟨l1, l2, l3⟩ := okw wv (List.mem_of_getElem? hwv)
      have lf := List.length_filter_le (fun w => fitB r (reachL rs P k1) k1 w n) (q.2.2.take m)
      rw [List.length_take] at lf
      have lus4 := pair_len' p4
      rw [filter_take hwv]
      refine ⟨rfl, _, rfl, _, rfl, _, rfl, _, rfl, _, rfl, _, rfl, _, rfl, tb, _, rfl, d1, R, rp, wq, a1, u1, n, ws, rs, r, wv, k1, _, rfl, s34 _ _ hR, rowsN_same rR s34, g.nd, by omega, ⟨pp, s34 _ _ hrp, s34 _ _ hpp⟩, g.pars r mr, s34 _ _ hwq, l2, l3, c0, s34 _ _ h1, hu1, kd1, fun H5 s5 => ⟨_, rfl, ?_⟩⟩
      cases ef1 : fitB r (reachL rs P k1) k1 wv n with
      | false => exact iteNo rfl ⟨us, s4.trans s5, s5 _ _ hF4, by simpa using p4⟩
      | true => exact iteYes rfl ⟨_, rfl, us, s5 _ _ hF4, by omega, us ++ [.ref wq], same_mut (s4.trans s5) hF, upd_same, pair_app' p4 (.cons ⟨wq, rfl, hwq, adw⟩ .nil)⟩
    rintro H4 ⟨us1, s4, hF4, pu1⟩
    rw [l00, List.take_length] at pu1
    have s34 := s3.trans s4
    refine ⟨_, rfl, p0, rfl, ⟨_, SqL.of (s34 _ _ hp0)⟩, fun G hG => lc_list (K := K) (a := p0) (xs := us0) (fun m H' => ∃ us, Same H4 H' ∧ H' G = some (.lst us) ∧ Paired (LwV H) us ((q.2.2.take m).filter fun w => fitB r (reachL rs P k2) k2 w n)) ⟨[], same_new hG, upd_same, .nil⟩ (fun m H' _ ⟨_, s, _⟩ => SqL.of (s _ _ (s34 _ _ hp0))) ?_ ?_⟩
    · rintro m v H5 hv5 ⟨us, s5, hG5, p5⟩
      obtain ⟨wv, hwv, wq, rfl, hwq, adw⟩ := pair_get' pus hv5
      have s35 := s34.trans s5
      obtain ⟨u2, d2, hu2⟩ := t2 s35
      obtain ⟨l1, l2, l3⟩ := okw wv (List.mem_of_getElem? hwv)
      have lf := List.length_filter_le (fun w => fitB r (reachL rs P k2) k2 w n) (q.2.2.take m)
      rw [List.length_take] at lf
      have lus5 := pair_len' p5
      rw [filter_take hwv]
      refine ⟨rfl, _, rfl, _, rfl, _, rfl, _, rfl, _, rfl, _, rfl, _, rfl, tb, _, rfl, d2, R, rp, wq, a2, u2, n, ws, rs, r, wv, k2, _, rfl, s35 _ _ hR, rowsN_same rR s35, g.nd, by omega, ⟨pp, s35 _ _ hrp, s35 _ _ hpp⟩, g.pars r mr, s35 _ _ hwq, l2, l3, c0, s35 _ _ h2, hu2, kd2, fun H6 s6 => ⟨_, rfl, ?_⟩⟩
      cases ef1 : fitB r (reachL rs P k2) k2 wv n with
      | false => exact iteNo rfl ⟨us, s5.trans s6, s6 _ _ hG5, by simpa using p5⟩
      | true => exact iteYes rfl ⟨_, rfl, us, s6 _ _ hG5, by omega, us ++ [.ref wq], same_mut (s5.trans s6) hG, upd_same, pair_app' p5 (.cons ⟨wq, rfl, hwq, adw⟩ .nil)⟩
    rintro H5 ⟨us2, s5, hG5, pu2⟩
    rw [l00, List.take_length] at pu2
    have hF5 := s5 _ _ hF4
    have s35 := s34.trans s5
    clear s4 s34 e3 LC
    have okA : ∀ wv ∈ q.2.2.filter (fun w => fitB r (reachL rs P k1) k1 w n), wv.2.2.1 < 4 := fun wv h => (okw wv (List.mem_filter.mp h).1).2.2
    have okB : ∀ wv ∈ q.2.2.filter (fun w => fitB r (reachL rs P k2) k2 w n), wv.2.2.1 < 4 := fun wv h => (okw wv (List.mem_filter.mp h).1).2.2
    revert pu1 pu2 done next okA okB
    generalize q.2.2.filter (fun w => fitB r (reachL rs P k1) k1 w n) = wl1
    generalize q.2.2.filter (fun w => fitB r (reachL rs P k2) k2 w n) = wl2
    intro done next pu1 pu2 okA okB
    have lu1 := pair_len' pu1
    have lu2 := pair_len' pu2
    refine ⟨_, rfl, F, rfl, ⟨_, SqL.of hF5⟩, for_list (K := K) (a := F) (xs := us1) (fun m σ H' => ∃ (x9 x11 : Option V), σ = [some (.ref R), some (.ref gd), some (.ref a1), some (.ref a2), some (.ref tb), some (.ref rp), some (.int n), some (.ref p0), some (.ref F), x9, some (.ref G), x11] ∧ Same H5 H' ∧ (wl1.take m).any (fun w => wl2.any fun w2 => decide (need w.2.2.1 n + need w2.2.2.1 n ≤ n)) = false) ⟨_, _, rfl, Same.refl _, rfl⟩ (fun m σ H' _ ⟨_, _, _, s, _⟩ => SqL.of (s _ _ hF5)) ?_ ?_⟩
    rotate_left
    · rintro σ H6 ⟨x9, x11, rfl, s6, e6⟩
      rw [lu1, List.take_length] at e6
      exact ⟨_, _, _, _, _, _, rfl, s35.trans s6, next e6⟩
    rintro m v σ H6 hv6 ⟨x9, x11, rfl, s6, e6⟩
    obtain ⟨wv, hwv, wq, rfl, hwq, adw⟩ := pair_get' pu1 hv6
    have o1 := okA wv (List.mem_of_getElem? hwv)
    refine ⟨_, rfl, G, rfl, ⟨_, SqL.of (s6 _ _ hG5)⟩, for_list (K := K) (a := G) (xs := us2) (fun m2 σ H' => ∃ (x11 : Option V), σ = [some (.ref R), some (.ref gd), some (.ref a1), some (.ref a2), some (.ref tb), some (.ref rp), some (.int n), some (.ref p0), some (.ref F), some (.ref wq), some (.ref G), x11] ∧ Same H5 H' ∧ (wl2.take m2).any (fun w2 => decide (need wv.2.2.1 n + need w2.2.2.1 n ≤ n)) = false) ⟨_, rfl, s6, rfl⟩ (fun m2 σ H' _ ⟨_, _, s, _⟩ => SqL.of (s _ _ hG5)) ?_ ?_⟩
    rotate_left
    · rintro σ H7 ⟨x11, rfl, s7, e7⟩
      rw [lu2, List.take_length] at e7
      exact ⟨_, _, rfl, s7, any_take' hwv e6 e7⟩
    rintro m2 v σ H7 hv7 ⟨x11, rfl, s7, e7⟩
    obtain ⟨wv2, hwv2, wq2, rfl, hwq2, adw2⟩ := pair_get' pu2 hv7
    have o2 := okB wv2 (List.mem_of_getElem? hwv2)
    have s57 := s35.trans s7
    have g1 : H7 wq = some (.lst [.int (wv.1 : Nat), .int (wv.2.1 : Nat), .int (wv.2.2.1 : Nat), .bl wv.2.2.2]) := s57 _ _ hwq
    have g2 : H7 wq2 = some (.lst [.int (wv2.1 : Nat), .int (wv2.2.1 : Nat), .int (wv2.2.2.1 : Nat), .bl wv2.2.2.2]) := s57 _ _ hwq2
    refine ⟨_, rfl, _, _, _, _, rfl, rfl, SqL.of g1, atI_nat (j := 2) rfl, _, rfl, wv.2.2.1, n, rfl, o1, c0, ?_⟩
    refine ⟨_, rfl, _, _, _, _, rfl, rfl, SqL.of g2, atI_nat (j := 2) rfl, _, rfl, wv2.2.2.1, n, rfl, o2, c0, ?_⟩
    refine ⟨_, _, rfl, rfl, _, rfl, _, _, rfl, rfl, _, rfl, iteD (fun c => ?_) (fun c => ?_)⟩
    · exact done H7 s57 (any_at hwv (any_at hwv2 (decide_eq_true c)))
    · exact ⟨_, rfl, s7, any_take' hwv2 e7 (decide_eq_false c)⟩
end
end My

namespace My
open PySem L2
def LinkV (H : Hp) (v : V) (p : Kd × Kd) : Prop := ∃ a b c, v = .ref a ∧ H a = some (.tup [.ref b, .ref c]) ∧ H b = some (.tup [.str p.1.1, .str p.1.2]) ∧ H c = some (.tup [.str p.2.1, .str p.2.2])
theorem LinkV.same {H H' : Hp} {v : V} {p : Kd × Kd} (h : LinkV H v p) (s : Same H H') : LinkV H' v p := let ⟨a, b, c, e, f, g, i⟩ := h; ⟨a, b, c, e, s _ _ f, s _ _ g, s _ _ i⟩
theorem LinkV.lst {H : Hp} {A : Addr} {xs : List V} {o : HO} {v : V} {p : Kd × Kd} (h : LinkV H v p) (hA : H A = some (.lst xs)) : LinkV (upd H A o) v p := by
  obtain ⟨a, b, c, e, f, g, i⟩ := h
  have n : ∀ {x : Addr} {ys : List V}, H x = some (.tup ys) → upd H A o x = some (.tup ys) := fun {x ys} h => by rw [upd_ne (fun z => by rw [z, hA] at h; cases h)]; exact h
  exact ⟨a, b, c, e, n f, n g, n i⟩
def linksL (R : Kd → Kd → Bool) (as ks : List Kd) : List (Kd × Kd) := as.flatMap fun a => (ks.filter (R a)).map fun b => (a, b)
theorem linksL_mem {R : Kd → Kd → Bool} {ks : List Kd} {a b : Kd} (ha : a ∈ ks) (hb : b ∈ ks) : (a, b) ∈ linksL R ks ks ↔ R a b = true := by
  unfold linksL
  rw [List.mem_flatMap]
  constructor
  · rintro ⟨x, _, h⟩
    obtain ⟨y, hy, e⟩ := List.mem_map.mp h
    injection e with e1 e2
    subst e1 e2
    exact (List.mem_filter.mp hy).2
  · intro h
    exact ⟨a, ha, List.mem_map.mpr ⟨b, List.mem_filter.mpr ⟨hb, h⟩, rfl⟩⟩
theorem linksL_in {R : Kd → Kd → Bool} {as ks : List Kd} {p : Kd × Kd} (h : p ∈ linksL R as ks) : p.1 ∈ as ∧ p.2 ∈ ks := by
  unfold linksL at h
  obtain ⟨x, hx, h⟩ := List.mem_flatMap.mp h
  obtain ⟨y, hy, e⟩ := List.mem_map.mp h
  subst e
  exact ⟨hx, (List.mem_filter.mp hy).1⟩
theorem dec_any {p : Prop} (i : Decidable p) {b : Bool} (h : p ↔ b = true) : @decide p i = b := by
  cases i with
  | isTrue q => exact (h.mp q).symm
  | isFalse q => cases b with
    | true => exact absurd (h.mpr rfl) q
    | false => rfl
theorem prsDp {K : PySem.W.Frag} {H : Hp} : ∀ {vs : List V} {ps : List (Kd × Kd)}, Paired (LinkV H) vs ps → DpAll K H vs (ps.map prD)
  | _, _, .nil => .nil
  | _, _, .cons ⟨a, b, c, e, ha, hb, hc⟩ t => by
    subst e
    exact .cons (.tup (SqT.of ha) (.cons (kdDp hb) (.cons (kdDp hc) .nil))) (prsDp t)
theorem some_len {α : Type} (l : List α) (f : α → Bool) : decide (0 < ((l.filter f).length : Int)) = l.any f := by
  rw [Bool.eq_iff_iff, decide_eq_true_iff]
  constructor
  · intro h
    have h : 0 < (l.filter f).length := by omega
    obtain ⟨a, ha⟩ := List.exists_mem_of_length_pos h
    exact List.any_eq_true.mpr ⟨a, (List.mem_filter.mp ha).1, (List.mem_filter.mp ha).2⟩
  · intro h
    obtain ⟨a, ha, e⟩ := List.any_eq_true.mp h
    have := List.length_pos_of_mem (List.mem_filter.mpr ⟨ha, e⟩)
    omega
def spLLinks : Sp := fun vs H Q _ => ∃ (R gd ka tb : Addr) (ws us : List V) (rs : List Row) (kvs : List (Key × V)) (P : List Rl) (tv : List (List Key × V)) (ks : List Kd), vs = [.ref R, .ref gd, .ref ka, .ref tb] ∧ H R = some (.lst ws) ∧ RowsN (fun _ => True) true H ws rs ∧ GoodC rs ∧ H gd = some (.dK kvs) ∧ Paired (RdV H) kvs P ∧ P.map (·.1) = mks rs ∧ OkW P ∧ H ka = some (.lst us) ∧ Paired (KdV H) us ks ∧ (∀ k ∈ ks, okKd k) ∧ ks.length ≤ 50 ∧ H tb = some (.dT tv) ∧ Paired (TabV .lst rs P H) tv ks ∧
  ∀ u lv H', Same H H' → H u = none → H' u = some (.lst lv) → Paired (LinkV H') lv (linksL (linkB rs P) ks ks) → Q (.ref u) H'
def spLJoined : Sp := fun vs H Q _ => ∃ (ka la kk : Addr) (us lv : List V) (R : Kd → Kd → Bool) (ks : List Kd) (k : Kd), vs = [.ref ka, .ref la, .ref kk] ∧ H ka = some (.lst us) ∧ Paired (KdV H) us ks ∧ H la = some (.lst lv) ∧ Paired (LinkV H) lv (linksL R ks ks) ∧ H kk = some (.tup [.str k.1, .str k.2]) ∧ k ∈ ks ∧ ks.Nodup ∧ (∀ z ∈ ks, okS z) ∧ ks.length ≤ 50 ∧
  ∀ u us' H', Same H H' → H u = none → H' u = some (.lst us') → Paired (KdV H') us' (ks.filter fun b => decide (b ∈ joinL R ks k)) → Q (.ref u) H'
section
variable {w : World} {K : PySem.W.Frag} {mg : Str → Option Value} {base : Heap}
set_option maxHeartbeats 16000000 in
set_option pp.maxSteps 700 in
theorem ok__law_links (T : Txt K mg) : FnOk PP w K mg base CX0 8 T.a__law_links T.fd__law_links ["_law_rows_here", "_law_rules_here", "_law_kinds_due", "_law_table_here"] spLLinks := by
  refine T.F__law_links.ok sc__law_links (fun vs H Q E h => ?_) (fun cdv A outer s H vs Q E hr h => ?_)
  · obtain ⟨R, gd, ka, tb, ws, us, rs, kvs, P, tv, ks, rfl, _⟩ := h; rfl
  · obtain ⟨R, gd, ka, tb, ws, us, rs, kvs, P, tv, ks, rfl, hR, rR, g, hg, pk, eP, okP, hka, pu, okk, lks, htb, pt, q⟩ := h
    refine ⟨_, (pss_cons (ps_set (i := 4) sc__law_links.nd rfl (.inl rfl) (pe_lst pa_nil))
      (pss_cons (ps_for PassesOwn.never rfl (pi_list (pv 2)) (pg_name (i := 5) sc__law_links.nd rfl (.inl rfl)) (pss_one (ps_for PassesOwn.never rfl (pi_list (pv 2)) (pg_name (i := 6) sc__law_links.nd rfl (.inl rfl)) (pss_one (ps_if (pt_val (pe_call (ok__law_meeting T) (hr.mono (by omega)) (by rfl) T.g__law_meeting T.F__law_meeting.kp T.b__law_meeting .nil pass0 (pa_cons (pv 0) (pa_cons (pv 1) (pa_cons (pv 5) (pa_cons (pv 6) (pa_cons (pv 3) pa_nil))))))) (pss_one (ps_expr (pe_bm PySem.F.plainAttrs_list PySem.F.slot_list_append PySem.F.type_list_append mt_append (pv 4) (pa_cons (pe_tup (pa_cons (pv 5) (pa_cons (pv 6) pa_nil))) pa_nil)))) pss_nil)))))
      (pss_one (ps_ret (pv 4))))), ?_⟩
    have big : 100000 < sizeLine := by decide
    have lus := pair_len' pu
    refine ⟨Nat.zero_le _, fun L nL => ?_⟩
    have s1 := same_new (o := .lst []) nL
    have hL1 : (upd H L (.lst [])) L = some (.lst []) := upd_same
    revert hL1 s1
    generalize upd H L (.lst []) = H1
    intro s1 hL1
    refine ⟨_, rfl, ka, rfl, ⟨_, SqL.of (s1 _ _ hka)⟩, for_list (K := K) (a := ka) (xs := us) (fun i σ H' => ∃ (x5 x6 : Option V) (lv : List V), σ = [some (.ref R), some (.ref gd), some (.ref ka), some (.ref tb), some (.ref L), x5, x6] ∧ Same H H' ∧ H' L = some (.lst lv) ∧ Paired (LinkV H') lv (linksL (linkB rs P) (ks.take i) ks) ∧ lv.length ≤ 50 * i) ⟨_, _, [], rfl, s1, hL1, .nil, Nat.le_refl _⟩ (fun i σ H' _ ⟨_, _, _, _, s, _⟩ => SqL.of (s _ _ hka)) ?_ ?_⟩
    rotate_left
    · rintro σ H2 ⟨x5, x6, lv, rfl, s2, hL2, p2, _⟩
      rw [lus, List.take_length] at p2
      exact ⟨_, rfl, q L lv H2 s2 nL hL2 p2⟩
    rintro i v σ H2 hv ⟨x5, x6, lv, rfl, s2, hL2, p2, l2⟩
    obtain ⟨k1, hk1, b1, rfl, hb1⟩ := pair_get' pu hv
    have mk1 := List.mem_of_getElem? hk1
    have hi := (List.getElem?_eq_some_iff.mp hk1).1
    refine ⟨_, rfl, ka, rfl, ⟨_, SqL.of (s2 _ _ hka)⟩, for_list (K := K) (a := ka) (xs := us) (fun j σ H' => ∃ (x6 : Option V) (lv : List V), σ = [some (.ref R), some (.ref gd), some (.ref ka), some (.ref tb), some (.ref L), some (.ref b1), x6] ∧ Same H H' ∧ H' L = some (.lst lv) ∧ Paired (LinkV H') lv (linksL (linkB rs P) (ks.take i) ks ++ ((ks.take j).filter (linkB rs P k1)).map fun b => (k1, b)) ∧ lv.length ≤ 50 * i + j) ⟨_, lv, rfl, s2, hL2, by rw [List.take_zero, List.filter_nil, List.map_nil, List.append_nil]; exact p2, by omega⟩ (fun j σ H' _ ⟨_, _, _, s, _⟩ => SqL.of (s _ _ hka)) ?_ ?_⟩
    rotate_left
    · rintro σ H3 ⟨x6, lv, rfl, s3, hL3, p3, l3⟩
      rw [lus, List.take_length] at p3
      refine ⟨_, _, lv, rfl, s3, hL3, ?_, by omega⟩
      rw [List.take_add_one, hk1, Option.toList_some]
      unfold linksL at p3 ⊢
      rw [List.flatMap_append, List.flatMap_singleton]
      exact p3
    rintro j v σ H3 hv3 ⟨x6, lv, rfl, s3, hL3, p3, l3⟩
    obtain ⟨k2, hk2, b2, rfl, hb2⟩ := pair_get' pu hv3
    have mk2 := List.mem_of_getElem? hk2
    have hj := (List.getElem?_eq_some_iff.mp hk2).1
    rw [filter_take hk2]
    refine ⟨_, rfl, _, rfl, _, rfl, _, rfl, _, rfl, R, gd, b1, b2, tb, ws, rs, kvs, P, k1, k2, tv, ks, rfl, s3 _ _ hR, rowsN_same rR s3, g, s3 _ _ hg, L2.Paired.mapP pk fun _ _ h => h.same s3, eP, okP, s3 _ _ hb1, s3 _ _ hb2, okk k1 mk1, okk k2 mk2, .inl (s3 _ _ htb), L2.Paired.mapP pt fun _ _ h => h.same s3, mk1, mk2, fun H4 s4 => ⟨_, rfl, ?_⟩⟩
    have hL4 := s4 _ _ hL3
    have s34 := s3.trans s4
    have p4 := L2.Paired.mapP p3 fun _ _ h => LinkV.same h s4
    cases el : linkB rs P k1 k2 with
    | false => exact iteNo rfl ⟨_, lv, rfl, s34, hL4, by simpa using p4, by omega⟩
    | true =>
      refine iteYes rfl ⟨_, rfl, .inl ⟨rfl, _, SqL.of hL4⟩, _, rfl, _, rfl, by show 2 ≤ sizeLine; decide, fun c nc => ?_⟩
      have s5 := same_new (o := .tup [.ref b1, .ref b2]) nc
      have hL5 := s5 _ _ hL4
      refine ⟨_, _, _, rfl, rfl, hL5, by omega, ?_⟩
      refine ⟨_, lv ++ [.ref c], rfl, same_mut (s34.trans s5) nL, upd_same, ?_, by rw [List.length_append]; simp; omega⟩
      rw [if_pos rfl, List.map_append, ← List.append_assoc]
      refine pair_app' (L2.Paired.mapP p4 fun _ _ h => (LinkV.same h s5).lst hL5) (.cons (LinkV.lst ⟨c, b1, b2, rfl, upd_same, s5 _ _ (s34 _ _ hb1), s5 _ _ (s34 _ _ hb2)⟩ hL5) .nil)
set_option maxHeartbeats 16000000 in
set_option pp.maxSteps 700 in
theorem ok__law_joined (T : Txt K mg) : FnOk PP w K mg base CX0 8 T.a__law_joined T.fd__law_joined ["_law_kinds_due", "_law_links_here", "_law_kind"] spLJoined := by
  refine T.F__law_joined.ok sc__law_joined (fun vs H Q E h => ?_) (fun cdv A outer s H vs Q E hr h => ?_)
  · obtain ⟨ka, la, kk, us, lv, R, ks, k, rfl, _⟩ := h; rfl
  · obtain ⟨ka, la, kk, us, lv, R, ks, k, rfl, hka, pu, hla, pl, hkk, mk, nd, okk, lks, q⟩ := h
    refine ⟨_, (pss_cons (ps_set (i := 3) sc__law_joined.nd rfl (.inr rfl) (pe_lc (own := [("_law_other", 4)]) (g := (gName 4)) (by rfl) sc__law_joined.nd (pi_list (pv 0)) (blkOk_by (own := [("_law_other", 4)]) (N := ["_law_kinds_due", "_law_links_here", "_law_kind", "_law_found", "_law_other", "_law_k", "_law_x"]) (sc := defScope S__law_joined) (by decide +kernel)) (fun _ _ _ _ _ => (pg_name (i := 4) sc__law_joined.nd rfl (by first | exact .inl rfl | exact .inr rfl))) (fun _ _ _ _ _ => (pts_one (pt_cmpR (inDK (K := K) rfl (hu65' hr)) (pe_tup (pa_cons (pv 2) (pa_cons (pv 4) pa_nil))) (pv 1) (by with_unfolding_all rfl)))) (fun _ _ _ _ _ => (pv 4))))
      (pss_cons (ps_for PassesOwn.never rfl (pi_range1 (by rfl) T.n_range (pa_cons (pe_callB call_len_seq (by rfl) T.n_len (by decide +kernel) (pa_cons (pv 0) pa_nil)) pa_nil)) (pg_name (i := 5) sc__law_joined.nd rfl (.inl rfl)) (pss_one (ps_for PassesOwn.never rfl (pi_list (pv 0)) (pg_name (i := 4) sc__law_joined.nd rfl (.inr rfl)) (pss_one (ps_if (PW.pt (pw_and (pt_cmpR (ninDK (K := K) rfl (hu65' hr)) (pv 4) (pv 3) (by with_unfolding_all rfl)) (pw_and1 (pt_cmpR op_gt (pe_callB call_len_seq (by rfl) T.n_len (by decide +kernel) (pa_cons (pe_lc (own := [("_law_x", 6)]) (g := (gName 6)) (by rfl) sc__law_joined.nd (pi_list (pv 3)) (blkOk_by (own := [("_law_x", 6)]) (N := ["_law_kinds_due", "_law_links_here", "_law_kind", "_law_found", "_law_other", "_law_k", "_law_x"]) (sc := defScope S__law_joined) (by decide +kernel)) (fun _ _ _ _ _ => (pg_name (i := 6) sc__law_joined.nd rfl (by first | exact .inl rfl | exact .inr rfl))) (fun _ _ _ _ _ => (pts_one (pt_cmpR (inDK (K := K) rfl (hu65' hr)) (pe_tup (pa_cons (pv 6) (pa_cons (pv 4) pa_nil))) (pv 1) (by with_unfolding_all rfl)))) (fun _ _ _ _ _ => (pv 6))) pa_nil)) (pe_int) (nomark _))))) (pss_one (ps_expr (pe_bm PySem.F.plainAttrs_list PySem.F.slot_list_append PySem.F.type_list_append mt_append (pv 3) (pa_cons (pv 4) pa_nil)))) pss_nil)))))
      (pss_one (ps_ret (pe_lc (own := [("_law_other", 4)]) (g := (gName 4)) (by rfl) sc__law_joined.nd (pi_list (pv 0)) (blkOk_by (own := [("_law_other", 4)]) (N := ["_law_kinds_due", "_law_links_here", "_law_kind", "_law_found", "_law_other", "_law_k", "_law_x"]) (sc := defScope S__law_joined) (by decide +kernel)) (fun _ _ _ _ _ => (pg_name (i := 4) sc__law_joined.nd rfl (by first | exact .inl rfl | exact .inr rfl))) (fun _ _ _ _ _ => (pts_one (pt_cmpR (inDK (K := K) rfl (hu65' hr)) (pv 4) (pv 3) (by with_unfolding_all rfl)))) (fun _ _ _ _ _ => (pv 4))))))), ?_⟩
    have big : 100000 < sizeLine := by decide
    have lus := pair_len' pu
    have shL : SeqAt.shaped (.list ((linksL R ks ks).map prD)) = true := list_shaped (n := 2) (by decide) (fun p hp => prD_lay (okk _ (linksL_in hp).1) (okk _ (linksL_in hp).2)) (fun p => by rw [prD_depth]; exact Nat.le_refl _)
    have shP : ∀ {a b : Kd}, a ∈ ks → b ∈ ks → SeqAt.shaped (prD (a, b)) = true := fun ha hb => shaped_of (prD_lay (okk _ ha) (okk _ hb)) (by rw [prD_depth]; decide)
    have dpL : ∀ {H' : Hp}, Same H H' → Dp K H' (.ref la) (.list ((linksL R ks ks).map prD)) := fun s => .lst (SqL.of (s _ _ hla)) (prsDp (L2.Paired.mapP pl fun _ _ h => h.same s))
    have inL : ∀ {a b : Kd}, a ∈ ks → b ∈ ks → (((linksL R ks ks).map prD).any fun z => PyData.eqv z (prD (a, b))) = R a b := fun {a b} ha hb => by
      rw [any_mem eqv_pr]
      exact dec_any _ (linksL_mem ha hb)
    refine ⟨_, rfl, ka, rfl, ⟨_, SqL.of hka⟩, fun F nF => lc_list (K := K) (a := ka) (xs := us) (fun i H' => ∃ fv, Same H H' ∧ H' F = some (.lst fv) ∧ Paired (KdV H) fv ((ks.take i).filter (R k))) ⟨[], same_new nF, upd_same, .nil⟩ (fun i H' _ ⟨_, s, _⟩ => SqL.of (s _ _ hka)) ?_ ?_⟩
    · rintro i v H1 hv ⟨fv, s1, hF1, p1⟩
      obtain ⟨b, hb, ba, rfl, hba⟩ := pair_get' pu hv
      have mb := List.mem_of_getElem? hb
      have lf := List.length_filter_le (R k) (ks.take i)
      rw [List.length_take] at lf
      have lfv := pair_len' p1
      rw [filter_take hb]
      refine ⟨rfl, _, rfl, _, rfl, by show 2 ≤ sizeLine; decide, fun c nc => ?_⟩
      have s2 := same_new (o := .tup [.ref kk, .ref ba]) nc
      have s12 := s1.trans s2
      have hF2 := s2 _ _ hF1
      refine ⟨_, rfl, prD (k, b), (linksL R ks ks).map prD, .tup (SqT.of upd_same) (.cons (kdDp (s12 _ _ hkk)) (.cons (kdDp (s12 _ _ hba)) .nil)), dpL s12, shP mk mb, shL, ?_⟩
      rw [inL mk mb]
      refine ⟨_, rfl, ?_⟩
      cases e : R k b with
      | false => exact iteNo rfl ⟨fv, s12, hF2, by simpa using p1⟩
      | true => exact iteYes rfl ⟨_, rfl, fv, hF2, by omega, fv ++ [.ref ba], same_mut s12 nF, upd_same, pair_app' p1 (.cons ⟨ba, rfl, hba⟩ .nil)⟩
    rintro H1 ⟨fv, s1, hF1, p1⟩
    rw [lus, List.take_length] at p1
    have ndI : (ks.filter (R k)).Nodup := nd.sublist (List.filter_sublist ..)
    have subI : ∀ z ∈ ks.filter (R k), z ∈ ks := fun z hz => (List.mem_filter.mp hz).1
    have rall := roundsG_all (c := joinC R) (P := fun z => z ∈ ks) (L := ks) (fun _ _ _ h _ => h) ndI subI
    refine ⟨_, rfl, ka, _, rfl, .inl (SqL.of (s1 _ _ hka)), _, rfl, by omega, by omega, for_range (lo := 0) (n := us.length) (fun n σ H' => ∃ (x4 x5 x6 : Option V) (fv : List V), σ = [some (.ref ka), some (.ref la), some (.ref kk), some (.ref F), x4, x5, x6] ∧ Same H H' ∧ H' F = some (.lst fv) ∧ Paired (KdV H) fv (roundsG (joinC R) ks (ks.filter (R k)) n)) ⟨_, _, _, fv, rfl, s1, hF1, p1⟩ ?_ ?_⟩
    · rintro n σ H2 hn ⟨x4, x5, x6, fv, rfl, s2, hF2, p2⟩
      obtain ⟨a1, a2⟩ := rall n
      refine ⟨_, rfl, ka, rfl, ⟨_, SqL.of (s2 _ _ hka)⟩, for_list (K := K) (a := ka) (xs := us) (fun i σ H' => ∃ (x4 x5 x6 : Option V) (fv : List V), σ = [some (.ref ka), some (.ref la), some (.ref kk), some (.ref F), x4, x5, x6] ∧ Same H H' ∧ H' F = some (.lst fv) ∧ Paired (KdV H) fv ((ks.take i).foldl (stepG (joinC R)) (roundsG (joinC R) ks (ks.filter (R k)) n))) ⟨_, _, _, fv, rfl, s2, hF2, p2⟩ (fun i σ H' _ ⟨_, _, _, _, _, s, _⟩ => SqL.of (s _ _ hka)) ?_ ?_⟩
      rotate_left
      · rintro σ H3 ⟨x4, x5, x6, fv, rfl, s3, hF3, p3⟩
        rw [lus, List.take_length] at p3
        exact ⟨_, _, _, fv, rfl, s3, hF3, p3⟩
      rintro i v σ H3 hv ⟨x4, x5, x6, fv, rfl, s3, hF3, p3⟩
      obtain ⟨b, hb, ba, rfl, hba⟩ := pair_get' pu hv
      have mb := List.mem_of_getElem? hb
      obtain ⟨f1, f2⟩ := foldG_all (c := joinC R) (P := fun z => z ∈ ks) (L := ks) (fun _ _ _ h _ => h) (ks.take i) _ (fun x hx => List.mem_of_mem_take hx) a1 a2
      rw [fold_take _ hb]
      revert p3 f1 f2
      generalize (ks.take i).foldl (stepG (joinC R)) (roundsG (joinC R) ks (ks.filter (R k)) n) = ns
      intro p3 f1 f2
      have ln : ns.length ≤ ks.length := List.Nodup.length_le_of_subset f1 fun x hx => f2 x hx
      have lfv := pair_len' p3
      have p3s := L2.Paired.mapP p3 fun _ _ h => KdV.same h s3
      refine ⟨_, rfl, _, rfl, kdD b, ns.map kdD, kdDp (s3 _ _ hba), .lst (SqL.of hF3) (kdsDp p3s), shaped_of (okS_lay (okk b mb)) (by rw [kdD_depth]; decide), list_shaped (n := 1) (by decide) (fun z hz => okS_lay (okk z (f2 z hz))) (fun z => by rw [kdD_depth]; exact Nat.le_refl _), ?_⟩
      rw [any_mem eqv_kd]
      refine ⟨_, rfl, iteB (fun c => ?_) (fun c => ?_)⟩
      rotate_left
      · have c : b ∈ ns := by simpa using c
        refine iteNo rfl ⟨_, _, _, fv, rfl, s3, hF3, ?_⟩
        unfold stepG
        rw [if_pos c]; exact p3
      have c : b ∉ ns := by simpa using c
      refine ⟨_, rfl, F, rfl, ⟨_, SqL.of hF3⟩, fun G nG => lc_list (K := K) (a := F) (xs := fv) (fun j H' => ∃ gv, Same H3 H' ∧ H' G = some (.lst gv) ∧ Paired (KdV H) gv ((ns.take j).filter fun x => R x b)) ⟨[], same_new nG, upd_same, .nil⟩ (fun j H' _ ⟨_, s, _⟩ => SqL.of (s _ _ hF3)) ?_ ?_⟩
      · rintro j v H4 hv4 ⟨gv, s4, hG4, p4⟩
        obtain ⟨x, hx, xa, rfl, hxa⟩ := pair_get' p3 hv4
        have mx := f2 x (List.mem_of_getElem? hx)
        have lf := List.length_filter_le (fun x => R x b) (ns.take j)
        rw [List.length_take] at lf
        have lgv := pair_len' p4
        rw [filter_take hx]
        have s34 := s3.trans s4
        refine ⟨rfl, _, rfl, _, rfl, by show 2 ≤ sizeLine; decide, fun c nc => ?_⟩
        have s5 := same_new (o := .tup [.ref xa, .ref ba]) nc
        have s35 := s34.trans s5
        have hG5 := s5 _ _ hG4
        refine ⟨_, rfl, prD (x, b), (linksL R ks ks).map prD, .tup (SqT.of upd_same) (.cons (kdDp (s35 _ _ hxa)) (.cons (kdDp (s35 _ _ hba)) .nil)), dpL s35, shP mx mb, shL, ?_⟩
        rw [inL mx mb]
        refine ⟨_, rfl, ?_⟩
        cases e : R x b with
        | false => exact iteNo rfl ⟨gv, s4.trans s5, hG5, by simpa using p4⟩
        | true => exact iteYes rfl ⟨_, rfl, gv, hG5, by omega, gv ++ [.ref xa], same_mut (s4.trans s5) nG, upd_same, pair_app' p4 (.cons ⟨xa, rfl, hxa⟩ .nil)⟩
      rintro H4 ⟨gv, s4, hG4, p4⟩
      rw [lfv, List.take_length] at p4
      have s34 := s3.trans s4
      have hF4 := s4 _ _ hF3
      have es : decide ((0 : Int) < ((gv.length : Nat) : Int)) = ns.any fun x => R x b := by rw [pair_len' p4, some_len]
      refine ⟨G, _, rfl, .inl (SqL.of hG4), _, _, rfl, rfl, ?_⟩
      refine ⟨ns.any fun x => R x b, congrArg V.bl es, ?_⟩
      cases e : ns.any fun x => R x b with
      | false =>
        refine iteNo rfl ⟨_, _, _, fv, rfl, s34, hF4, ?_⟩
        unfold stepG joinC
        rw [if_neg c, if_neg (by rw [e]; exact Bool.false_ne_true)]; exact p3
      | true =>
        refine iteYes rfl ⟨_, rfl, .inl ⟨rfl, _, SqL.of hF4⟩, _, rfl, _, _, _, rfl, rfl, hF4, by omega, _, _, _, fv ++ [.ref ba], rfl, same_mut s34 nF, upd_same, ?_⟩
        unfold stepG joinC
        rw [if_neg c, if_pos e]
        exact pair_app' p3 (.cons ⟨ba, rfl, hba⟩ .nil)
    rintro σ H2 ⟨x4, x5, x6, fv, rfl, s2, hF2, p2⟩
    rw [lus] at p2
    obtain ⟨a1, a2⟩ := rall ks.length
    have p2 : Paired (KdV H) fv (joinL R ks k) := p2
    have a2 : ∀ z ∈ joinL R ks k, z ∈ ks := a2
    have p2s : ∀ {H' : Hp}, Same H H' → Paired (KdV H') fv (joinL R ks k) := fun s => L2.Paired.mapP p2 fun _ _ h => KdV.same h s
    refine ⟨_, rfl, ka, rfl, ⟨_, SqL.of (s2 _ _ hka)⟩, fun G nG => lc_list (K := K) (a := ka) (xs := us) (fun i H' => ∃ gv, Same H2 H' ∧ H' G = some (.lst gv) ∧ Paired (KdV H) gv ((ks.take i).filter fun b => decide (b ∈ joinL R ks k))) ⟨[], same_new nG, upd_same, .nil⟩ (fun i H' _ ⟨_, s, _⟩ => SqL.of (s _ _ (s2 _ _ hka))) ?_ ?_⟩
    · rintro i v H3 hv ⟨gv, s3, hG3, p3⟩
      obtain ⟨b, hb, ba, rfl, hba⟩ := pair_get' pu hv
      have mb := List.mem_of_getElem? hb
      have lf := List.length_filter_le (fun b => decide (b ∈ joinL R ks k)) (ks.take i)
      rw [List.length_take] at lf
      have lgv := pair_len' p3
      have s23 := s2.trans s3
      rw [filter_take hb]
      refine ⟨rfl, _, rfl, _, rfl, kdD b, (joinL R ks k).map kdD, kdDp (s23 _ _ hba), .lst (SqL.of (s3 _ _ hF2)) (kdsDp (p2s s23)), shaped_of (okS_lay (okk b mb)) (by rw [kdD_depth]; decide), list_shaped (n := 1) (by decide) (fun z hz => okS_lay (okk z (a2 z hz))) (fun z => by rw [kdD_depth]; exact Nat.le_refl _), ?_⟩
      rw [any_mem eqv_kd]
      refine ⟨_, rfl, iteB (fun e => ?_) (fun e => ?_)⟩
      · have e : (decide (b ∈ joinL R ks k)) = true := by simpa using e
        refine ⟨_, rfl, gv, hG3, by omega, gv ++ [.ref ba], same_mut s3 nG, upd_same, ?_⟩
        rw [if_pos e]
        exact pair_app' p3 (.cons ⟨ba, rfl, hba⟩ .nil)
      · have e : (decide (b ∈ joinL R ks k)) = false := by simpa using e
        refine ⟨gv, s3, hG3, ?_⟩
        rw [if_neg (by rw [e]; exact Bool.false_ne_true), List.append_nil]; exact p3
    rintro H3 ⟨gv, s3, hG3, p3⟩
    rw [lus, List.take_length] at p3
    exact q G gv H3 (s2.trans s3) (s2.free nG) hG3 (L2.Paired.mapP p3 fun _ _ h => KdV.same h (s2.trans s3))
end
end My

namespace My
open PySem L2
def AdW (k : Wv) : Prop := Adj k.1 k.2.1 k.2.2.1
def trW (kd : Int) (k : Wv) : Wv := if kd = 1 then (k.1, k.2.1, k.2.2.1, false) else if kd = 2 then (1, 0, max 1 k.2.2.1, false) else k
theorem trW_adj {kd : Int} {k : Wv} (h : AdW k) : AdW (trW kd k) := by
  obtain ⟨a, b, c⟩ := h
  unfold trW
  by_cases c1 : kd = 1
  · rw [if_pos c1]; exact ⟨a, b, c⟩
  · rw [if_neg c1]
    by_cases c2 : kd = 2
    · rw [if_pos c2]; unfold AdW Adj; simp only; omega
    · rw [if_neg c2]; exact ⟨a, b, c⟩
def WyC (H : Hp) (q : Addr) (k : Wv) : Prop := H q = some (LwO k.1 k.2.1 k.2.2.1 k.2.2.2) ∧ AdW k
theorem wyc_set {H : Hp} {q : Addr} {k' : Wv} (ad : AdW k') : ∀ {ps : List Addr} {ls : List Wv} {j : Nat}, Paired (WyC H) ps ls → ps.Nodup → ps[j]? = some q → Paired (WyC (upd H q (LwO k'.1 k'.2.1 k'.2.2.1 k'.2.2.2))) ps (ls.set j k')
  | _, _, _, .nil, _, h => by simp at h
  | p :: ps, l :: ls, 0, .cons h t, nd, e => by
    simp at e; subst e
    have nd := List.nodup_cons.mp nd
    refine .cons ⟨upd_same, ad⟩ ?_
    have go : ∀ {ps : List Addr} {ls : List Wv}, Paired (WyC H) ps ls → p ∉ ps → Paired (WyC (upd H p (LwO k'.1 k'.2.1 k'.2.2.1 k'.2.2.2))) ps ls := fun h => by
      induction h with
      | nil => intro _; exact .nil
      | @cons a b as bs h t ih =>
        intro n
        rw [List.mem_cons, not_or] at n
        exact .cons ⟨by rw [upd_ne (fun z => n.1 z.symm)]; exact h.1, h.2⟩ (ih n.2)
    exact go t nd.1
  | p :: ps, l :: ls, j + 1, .cons h t, nd, e => by
    have nd := List.nodup_cons.mp nd
    have e : ps[j]? = some q := by simpa using e
    refine .cons ⟨by rw [upd_ne (fun z : p = q => nd.1 (by rw [z]; exact List.mem_of_getElem? e))]; exact h.1, h.2⟩ ?_
    exact wyc_set ad t nd.2 e
theorem set_mid {α : Type} {f : α → α} {ks : List α} {j : Nat} {k : α} (h : ks[j]? = some k) : ((ks.take j).map f ++ ks.drop j).set j (f k) = (ks.take (j + 1)).map f ++ ks.drop (j + 1) := by
  have hj := (List.getElem?_eq_some_iff.mp h).1
  have lt : ((ks.take j).map f).length = j := by rw [List.length_map, List.length_take]; omega
  rw [List.set_append_right _ _ (by omega), lt, Nat.sub_self, List.drop_eq_getElem_cons hj, List.set_cons_zero, List.take_add_one, h, Option.toList_some, List.map_append, List.append_assoc]
  rfl
theorem mid_at {α : Type} {f : α → α} {ks : List α} {j : Nat} {k : α} (h : ks[j]? = some k) : ((ks.take j).map f ++ ks.drop j)[j]? = some k := by
  have hj := (List.getElem?_eq_some_iff.mp h).1
  have lt : ((ks.take j).map f).length = j := by rw [List.length_map, List.length_take]; omega
  rw [List.getElem?_append_right (by omega), lt, Nat.sub_self, List.getElem?_drop]
  simpa using h
theorem upd_upd' {H : Hp} {a : Addr} {o o' : HO} : upd (upd H a o) a o' = upd H a o' := by
  funext c
  by_cases e : c = a
  · subst e; rw [upd_same, upd_same]
  · rw [upd_ne e, upd_ne e, upd_ne e]
theorem upd_self {H : Hp} {a : Addr} {o : HO} (h : H a = some o) : upd H a o = H := by
  funext c
  by_cases e : c = a
  · subst e; rw [upd_same, h]
  · rw [upd_ne e]
theorem pair_memL {α β : Type} {F G : α → β → Prop} : ∀ {l : List α} {m : List β}, Paired F l m → (∀ a b, a ∈ l → F a b → G a b) → Paired G l m
  | _, _, .nil, _ => .nil
  | _, _, .cons h t, g => .cons (g _ _ List.mem_cons_self h) (pair_memL t fun a b ha => g a b (List.mem_cons_of_mem _ ha))
theorem wyc_lwn {t : Addr} {H H' : Hp} : ∀ {ps : List Addr} {ks : List Wv}, Paired (WyC H) ps ks → (∀ p (k : Wv), p ∈ ps → H p = some (LwO k.1 k.2.1 k.2.2.1 k.2.2.2) → p ≠ t ∧ H' p = some (LwO k.1 k.2.1 k.2.2.1 k.2.2.2)) → Paired (LwN t H') (ps.map V.ref) ks
  | _, _, .nil, _ => .nil
  | p :: ps, k :: ks, .cons h t, g => .cons ⟨p, rfl, (g p k List.mem_cons_self h.1).1, (g p k List.mem_cons_self h.1).2, h.2⟩ (wyc_lwn t fun a b ha => g a b (List.mem_cons_of_mem _ ha))
theorem max_int (c : Nat) : (V.int (if ((c : Nat) : Int) > 1 then ((c : Nat) : Int) else 1)) = V.int ((max 1 c : Nat) : Int) := by
  congr 1
  split <;> omega
def spLLoose (K : PySem.W.Frag) : Sp := fun vs H Q _ => ∃ (d t gd : Addr) (kvs : List (Key × V)) (P : List Rl) (B : Nat), vs = [.ref d, .ref t, .ref gd] ∧ Dr K H d t ∧ H gd = some (.dK kvs) ∧ Paired (RdN t H) kvs P ∧ (P.map (·.1)).Nodup ∧ P.length ≤ 100 ∧ B ≤ 80 ∧ (∀ r ∈ P, r.2.2.length ≤ B) ∧
  ∀ (P' : List Rl) kv' o H', P'.map (·.1) = P.map (·.1) → (∀ r ∈ P', r.2.2.length ≤ B + 1) → Dr K H' d t → But t H H' → H o = none → H' o = some (.dK kv') → Paired (RdN t H') kv' P' → Q (.ref o) H'
section
variable {P : Program} {w : World} {K : PySem.W.Frag} {mg : Str → Option Value} {base : Heap}
set_option maxHeartbeats 32000000 in
set_option pp.maxSteps 900 in
theorem ok__law_loose (T : Txt K mg) : FnOk P w K mg base CX0 4 T.a__law_loose T.fd__law_loose ["_law_draws_here", "_law_at", "_law_rules_here"] (spLLoose K) := by
  refine T.F__law_loose.ok sc__law_loose (fun vs H Q E h => ?_) (fun cdv A outer s H vs Q E hr h => ?_)
  · obtain ⟨d, t, gd, kvs, P, B, rfl, _⟩ := h; rfl
  · obtain ⟨d, t, gd, kvs, P, B, rfl, D0, hg, pk, nd, lP, lB, lw, q⟩ := h
    refine ⟨_, (pss_cons (ps_set (i := 3) sc__law_loose.nd rfl (.inl rfl) (pe_call (ok__law_take T) (hr.mono (by omega)) (by rfl) T.g__law_take T.F__law_take.kp T.b__law_take .nil pass0 (pa_cons (pv 0) (pa_cons (pv 1) (pa_cons (pe_int) pa_nil)))))
      (pss_cons (ps_set (i := 4) sc__law_loose.nd rfl (.inl rfl) (pe_dnewK))
      (pss_cons (ps_lock (ps_for PassesOwn.never rfl (pi_keys (pv 2)) (pg_name (i := 5) sc__law_loose.nd rfl (.inl rfl)) (pss_cons (ps_setLc (i := 6) (own := [("_law_way_here", 7)]) (g := (gName 7)) (by rfl) sc__law_loose.nd rfl rfl (sw_true rfl rfl rfl (by decide +kernel)) (pi_list (pe_ix ix_list (pe_dget (hu_of hr) (pv 2) (pv 5) (fun _ _ => rfl)) (pe_int) (fun _ _ => rfl))) (blkOk_by (own := [("_law_way_here", 7)]) (N := ["_law_draws_here", "_law_at", "_law_rules_here", "_law_kind", "_law_other", "_law_mark", "_law_ways", "_law_way_here"]) (sc := defScope S__law_loose) (by decide +kernel)) (fun _ _ _ _ _ => (pg_name (i := 7) sc__law_loose.nd rfl (by first | exact .inl rfl | exact .inr rfl))) (fun _ _ _ _ _ => pts_nil) (fun _ _ _ _ _ => (pe_callTy (listK (K := K) rfl) (by rfl) T.n_list (by decide +kernel) (pa_cons (pv 7) pa_nil))))
      (C8.pss_cut (ps_if (pt_cmpR op_eq (pv 3) (pe_int) (nomark _)) (pss_one (ps_expr (pe_bm PySem.F.plainAttrs_list PySem.F.slot_list_append PySem.F.type_list_append mt_append (pv 6) (pa_cons (pe_call (ok__law_way T) (hr.mono (by omega)) (by rfl) T.g__law_way T.F__law_way.kp T.b__law_way .nil pass0 (pa_cons (pv 0) (pa_cons (pv 1) pa_nil))) pa_nil)))) pss_nil)
      (pss_cons (ps_for PassesOwn.never rfl (pi_list (pv 6)) (pg_name (i := 7) sc__law_loose.nd rfl (.inl rfl)) (pss_cons (ps_if (pt_cmpR op_eq (pv 3) (pe_int) (nomark _)) (pss_one (ps_asg (pe_bl) (pg_sub (pv 7) (pe_int) set_list))) pss_nil)
      (pss_one (ps_if (pt_cmpR op_eq (pv 3) (pe_int) (nomark _)) (pss_cons (ps_asg (pe_int) (pg_sub (pv 7) (pe_int) set_list))
      (pss_cons (ps_asg (pe_int) (pg_sub (pv 7) (pe_int) set_list))
      (pss_cons (ps_asg (pe_callB (call_max2 rfl) (by rfl) T.n_max (by decide +kernel) (pa_cons (pe_int) (pa_cons (pe_callTy call_int1 (by rfl) T.n_int (by decide +kernel) (pa_cons (pe_ix ix_list (pv 7) (pe_int) (fun _ _ => rfl)) pa_nil)) pa_nil))) (pg_sub (pv 7) (pe_int) set_list))
      (pss_one (ps_asg (pe_bl) (pg_sub (pv 7) (pe_int) set_list)))))) pss_nil))))
      (pss_one (ps_dput (hu_of hr) (pv 4) (pv 5) (pe_lst (pa_cons (pe_ix ix_list (pe_dget (hu_of hr) (pv 2) (pv 5) (fun _ _ => rfl)) (pe_int) (fun _ _ => rfl)) (pa_cons (pv 6) pa_nil))) rfl)))))))
      (pss_one (ps_ret (pv 4)))))), ?_⟩
    have big : 100000 < sizeLine := by decide
    have lkv := pair_len' pk
    refine ⟨_, rfl, _, rfl, d, t, 4, rfl, D0, by decide, fun kd H1 k0 k4 D1 b1 => ?_⟩
    have ngt : gd ≠ t := fun z => by obtain ⟨k, e⟩ := D0.pl; rw [z, e] at hg; cases hg
    have hg1 := b1 _ _ ngt hg
    have pk1 : Paired (RdN t H1) kvs P := L2.Paired.mapP pk fun _ _ h => h.keep (.but b1)
    refine fun o no => ?_
    have s2 := same_new (o := .dK []) no
    have no0 : H o = none := b1.free (D1.na no) no
    have nog : gd ≠ o := ne_of_none hg1 no
    have not' : o ≠ t := D1.na no
    have hg2 := s2 _ _ hg1
    refine ⟨gd, _, hg2, trivial, fun od => ?_⟩
    have f2 : (upd (upd H1 o (.dK [])) gd (.frz od (.dK kvs))) gd = some (.frz od (.dK kvs)) := upd_same
    have ho2 : (upd (upd H1 o (.dK [])) gd (.frz od (.dK kvs))) o = some (.dK []) := by rw [upd_ne nog.symm]; exact upd_same
    have b2 : ∀ a x, a ≠ gd → a ≠ t → H a = some x → (upd (upd H1 o (.dK [])) gd (.frz od (.dK kvs))) a = some x := fun a x n1 n2 h => by rw [upd_ne n1]; exact s2 _ _ (b1 _ _ n2 h)
    have D2 : Dr K (upd (upd H1 o (.dK [])) gd (.frz od (.dK kvs))) d t := (D1.same s2).other But.upd (fun z => by obtain ⟨ns, e⟩ := D1.ds; rw [z, hg1] at e; cases e) ngt.symm
    revert f2 ho2 b2 D2
    generalize upd (upd H1 o (.dK [])) gd (.frz od (.dK kvs)) = H2
    intro f2 ho2 b2 D2
    refine ⟨_, rfl, gd, od, rfl, .inl ⟨kvs, f2, for_it walk_keys (fun i σ H' => ∃ (x5 x6 x7 : Option V) (kv' : List (Key × V)) (P' : List Rl), σ = [some (.ref d), some (.ref t), some (.ref gd), some (.int kd), some (.ref o), x5, x6, x7] ∧ Dr K H' d t ∧ (∀ a x, a ≠ gd → a ≠ t → H a = some x → H' a = some x) ∧ H' gd = some (.frz od (.dK kvs)) ∧ H' o = some (.dK kv') ∧ Paired (RdN t H') kv' P' ∧ P'.map (·.1) = (P.map (·.1)).take i ∧ ∀ r ∈ P', r.2.2.length ≤ B + 1) ⟨_, _, _, [], [], rfl, D2, b2, f2, ho2, .nil, by simp, fun _ h => nomatch h⟩ (fun i σ H' _ ⟨_, _, _, _, _, _, _, _, h, _⟩ => h) ?_ ?_⟩⟩
    rotate_left
    · rintro σ H3 ⟨x5, x6, x7, kv', P', rfl, D3, b3, f3, ho3, p3, e3, l3⟩
      rw [lkv, ← List.length_map (f := fun r : Rl => r.1), List.take_length] at e3
      refine ⟨f3, ?_⟩
      have lkU : LkS t H3 (upd H3 gd (.dK kvs)) := fun a xs n e => by rw [upd_ne (fun z => by rw [z, f3] at e; cases e)]; exact e
      refine ⟨_, rfl, q P' kv' o _ e3 l3 (D3.other But.upd (fun z => by obtain ⟨ns, e⟩ := D3.ds; rw [z, f3] at e; cases e) ngt.symm) (fun a x n h => ?_) no0 (by rw [upd_ne nog.symm]; exact ho3) (L2.Paired.mapP p3 fun _ _ h => h.keep lkU)⟩
      by_cases e : a = gd
      · rw [e, upd_same, ← hg, ← e, h]
      · rw [upd_ne e]; exact b3 a x e n h
    rintro i v σ H3 H4 hi ⟨x5, x6, x7, kv', P', rfl, D3, b3, f3, ho3, p3, e3, l3⟩ ⟨rfl, kk, v', ek, rfl⟩
    have pk3 : Paired (RdN t H4) kvs P := L2.Paired.mapP pk fun _ _ h => h.keep fun a xs n e => b3 a _ (fun z => by rw [z, hg] at e; cases e) n e
    obtain ⟨r, hr, ek1, _⟩ := pair_get' pk3 ek
    have ek1 : kk = .inr r.1 := ek1
    subst ek1
    have hir := (List.getElem?_eq_some_iff.mp hr).1
    obtain ⟨kv, ev, _, q0, p0, us0, eq0, nq0, hq0, np0, hp0, pw0, l0⟩ := val_rdn pk3 nd hr
    have lr := lw r (List.mem_of_getElem? hr)
    have l00 := pair_len' pw0
    have dgF : ∀ {H' : Hp}, H' gd = some (.frz od (.dK kvs)) → DGet H' gd (.str r.1) (some (.ref q0)) := fun h => .inl ⟨kvs, .inr r.1, .inr ⟨od, h⟩, rfl, by rw [ev, eq0]⟩
    -- the copies
    refine ⟨_, rfl, _, rfl, gd, _, rfl, dgF f3, _, _, _, _, rfl, rfl, SqL.of hq0, atI_nat (j := 1) rfl, p0, rfl, ⟨_, SqL.of hp0⟩, fun W hW => lc_list (K := K) (a := p0) (xs := us0) (fun i H' => ∃ ps : List Addr, Same H4 H' ∧ H' W = some (.lst (ps.map V.ref)) ∧ ps.Nodup ∧ (∀ p ∈ ps, H4 p = none ∧ p ≠ W ∧ ∃ x, H' p = some x) ∧ Paired (WyC H') ps (r.2.2.take i)) ⟨[], same_new hW, upd_same, List.nodup_nil, (fun _ h => nomatch h), .nil⟩ (fun i H' _ ⟨_, s, _⟩ => SqL.of (s _ _ hp0)) ?_ ?_⟩
    · rintro i v H5 hv ⟨ps, s5, h5, ndp, al, pr⟩
      obtain ⟨wv, hwv, wq, rfl, nwt, hwq, adw⟩ := pair_get' pw0 hv
      have hi := (List.getElem?_eq_some_iff.mp hwv).1
      have lps : ps.length = i := by rw [pair_len' pr, List.length_take]; omega
      refine ⟨rfl, ?_⟩
      unfold tYes
      refine iteT ⟨_, rfl, wq, _, rfl, .inl (SqL.of (s5 _ _ hwq)), fun u nu => ?_⟩
      have nuW : u ≠ W := (ne_of_none h5 nu).symm
      have s6 := same_new (o := LwO wv.1 wv.2.1 wv.2.2.1 wv.2.2.2) nu
      refine ⟨_, s6 _ _ h5, by rw [List.length_map]; omega, ps ++ [u], same_mut (s5.trans s6) hW, by rw [upd_same, List.map_append]; rfl, ?_, ?_, ?_⟩
      · refine List.nodup_append.mpr ⟨ndp, by simp, fun a ha b hb e => ?_⟩
        rw [List.mem_singleton] at hb
        obtain ⟨_, _, x, hx⟩ := al a ha
        rw [e, hb, nu] at hx; cases hx
      · intro a ha
        rcases List.mem_append.mp ha with ha | ha
        · obtain ⟨n1, n2, x, hx⟩ := al a ha
          exact ⟨n1, n2, x, by rw [upd_ne n2]; exact s6 _ _ hx⟩
        · rw [List.mem_singleton.mp ha]
          exact ⟨s5.free nu, nuW, _, by rw [upd_ne nuW]; exact upd_same⟩
      · rw [List.take_add_one, hwv, Option.toList_some]
        have n1 : ∀ a ∈ ps, a ≠ W := fun a ha => (al a ha).2.1
        refine pair_app' (pair_memL pr fun a k ha h => ⟨by rw [upd_ne (n1 a ha)]; exact s6 _ _ h.1, h.2⟩) (.cons ⟨by rw [upd_ne nuW]; exact upd_same, adw⟩ .nil)
    rintro H5 ⟨ps0, s5, h5W, ndp0, al0, pr0⟩
    rw [l00, List.take_length] at pr0
    have nWt : W ≠ t := D3.na hW
    have D5 := D3.same s5
    have b45 : But t H4 H5 := But.of_same s5
    -- one more
    refine ⟨fun σ' H' => ∃ (ps : List Addr) (ks : List Wv), σ' = [some (.ref d), some (.ref t), some (.ref gd), some (.int kd), some (.ref o), some (.str r.1), some (.ref W), x7] ∧ Dr K H' d t ∧ But t H4 H' ∧ H' W = some (.lst (ps.map V.ref)) ∧ ps.Nodup ∧ (∀ p ∈ ps, H4 p = none ∧ p ≠ W) ∧ Paired (WyC H') ps ks ∧ ks.length ≤ B + 1, ?_, ?_⟩
    · refine ⟨_, rfl, rfl, _, rfl, iteD (fun c => ?_) (fun c => ?_)⟩
      rotate_left
      · exact ⟨ps0, r.2.2, rfl, D5, b45, h5W, ndp0, fun p hp => ⟨(al0 p hp).1, (al0 p hp).2.1⟩, pr0, by omega⟩
      refine ⟨_, rfl, .inl ⟨rfl, _, SqL.of h5W⟩, _, rfl, _, rfl, d, t, rfl, D5, fun wq wa wb wc we H6 adw D6 b6 nwq hwq => ?_⟩
      have h6W := b6 _ _ nWt h5W
      have lps := pair_len' pr0
      have nwt : wq ≠ t := D5.na nwq
      have nwW : wq ≠ W := (ne_of_none h5W nwq).symm
      refine ⟨_, _, _, rfl, rfl, h6W, by rw [List.length_map]; omega, ps0 ++ [wq], r.2.2 ++ [(wa, wb, wc, we)], rfl, D6.other But.upd (fun z => by obtain ⟨ns, e⟩ := D5.ds; obtain ⟨ns', e'⟩ := D3.ds; rw [z, hW] at e'; cases e') nWt.symm, (b45.trans b6).mut hW, by rw [upd_same, List.map_append]; rfl, ?_, fun p hp => ?_, ?_, by rw [List.length_append]; simp; omega⟩
      · refine List.nodup_append.mpr ⟨ndp0, by simp, fun a ha b hb e => ?_⟩
        rw [List.mem_singleton] at hb
        obtain ⟨_, _, x, hx⟩ := al0 a ha
        rw [e, hb, nwq] at hx; cases hx
      · rcases List.mem_append.mp hp with hp | hp
        · exact ⟨(al0 p hp).1, (al0 p hp).2.1⟩
        · rw [List.mem_singleton.mp hp]; exact ⟨s5.free nwq, nwW⟩
      · refine pair_app' (pair_memL pr0 fun a k ha h => ⟨?_, h.2⟩) (.cons ⟨by rw [upd_ne nwW]; exact hwq, adw⟩ .nil)
        rw [upd_ne (al0 a ha).2.1]
        exact b6 _ _ (fun z => by obtain ⟨k, e⟩ := D5.pl; have h1 := h.1; rw [z, e] at h1; cases h1) h.1
    clear D5 b45 h5W pr0 al0 ndp0 s5 ps0 H5
    rintro _ H5 ⟨ps, ks, rfl, D5, b5, h5W, ndp, al, pr, lks⟩
    have lps := pair_len' pr
    -- loosened
    refine ⟨_, rfl, W, rfl, ⟨_, SqL.of h5W⟩, for_list (K := K) (a := W) (xs := ps.map V.ref) (fun j σ H' => ∃ (x7 : Option V), σ = [some (.ref d), some (.ref t), some (.ref gd), some (.int kd), some (.ref o), some (.str r.1), some (.ref W), x7] ∧ Dr K H' d t ∧ But t H4 H' ∧ H' W = some (.lst (ps.map V.ref)) ∧ Paired (WyC H') ps ((ks.take j).map (trW kd) ++ ks.drop j)) ⟨_, rfl, D5, b5, h5W, by simpa using pr⟩ (fun j σ H' _ ⟨_, _, _, _, h, _⟩ => SqL.of h) ?_ ?_⟩
    rotate_left
    · rintro σ H6 ⟨x7, rfl, D6, b6, h6W, pr6⟩
      rw [List.length_map, lps, List.take_length, List.drop_length, List.append_nil] at pr6
      have hg6 := b6 _ _ ngt f3
      refine ⟨_, rfl, _, rfl, gd, _, rfl, dgF hg6, _, _, _, _, rfl, rfl, SqL.of (b6 _ _ nq0 hq0), atI_nat (j := 0) rfl, _, rfl, by show 2 ≤ sizeLine; decide, fun u nu => ?_⟩
      have s7 := same_new (o := .lst [.bl r.2.1, .ref W]) nu
      have ho6 := b6 _ _ not' ho3
      have lkv' := pair_len' p3
      have lP' := congrArg List.length e3
      rw [List.length_map, List.length_take, List.length_map] at lP'
      have nut : u ≠ t := D6.na nu
      refine ⟨_, rfl, _, rfl, o, _, rfl, DPut.k (k := .inr r.1) (s7 _ _ ho6) (by omega), ?_⟩
      have nz : r.1 ∉ P'.map (·.1) := by
        rw [e3]
        exact (nodup_take.mp nd) i _ (by rw [List.getElem?_map, hr]; rfl)
      rw [L2.putK_new _ (rd_none p3 nz)]
      have lk := LkS.updD (t := t) (o := .dK (kv' ++ [(.inr r.1, .ref u)])) (s7 _ _ ho6)
      have ngo : gd ≠ o := nog
      have lk47 : LkS t H4 (upd (upd H6 u (.lst [.bl r.2.1, .ref W])) o (.dK (kv' ++ [(.inr r.1, .ref u)]))) := fun a xs n e => lk a xs n (s7 _ _ (b6 _ _ n e))
      refine ⟨_, _, _, kv' ++ [(.inr r.1, .ref u)], P' ++ [(r.1, r.2.1, ks.map (trW kd))], rfl, (D6.same s7).other But.upd (fun z => by obtain ⟨ns, e⟩ := D6.ds; rw [z, ho6] at e; cases e) not'.symm, (fun a x n1 n2 h => by rw [upd_ne (ne_of_none h no0)]; exact s7 _ _ (b6 _ _ n2 (b3 a x n1 n2 h))), by rw [upd_ne nog]; exact s7 _ _ hg6, upd_same, ?_, ?_, fun x hx => ?_⟩
      · refine pair_app' (L2.Paired.mapP p3 fun _ _ h => h.keep lk47) (.cons ⟨rfl, u, W, ps.map V.ref, rfl, nut, lk _ _ nut upd_same, nWt, lk _ _ nWt (s7 _ _ h6W), ?_, by rw [List.length_map]; omega⟩ .nil)
        refine wyc_lwn pr6 fun p k hp hk => ?_
        have npt : p ≠ t := D3.na (al p hp).1
        exact ⟨npt, lk _ _ npt (s7 _ _ hk)⟩
      · rw [List.map_append, e3, List.take_add_one]
        congr 1
        rw [List.getElem?_map, hr]; rfl
      · rcases List.mem_append.mp hx with hx | hx
        · exact l3 x hx
        · rw [List.mem_singleton.mp hx]
          show (ks.map (trW kd)).length ≤ B + 1
          rw [List.length_map]; exact lks
    rintro j v σ H6 hv ⟨x7, rfl, D6, b6, h6W, pr6⟩
    rw [List.getElem?_map] at hv
    obtain ⟨wq, hwq⟩ : ∃ wq, ps[j]? = some wq := by
      cases e : ps[j]? with
      | none => rw [e] at hv; cases hv
      | some wq => exact ⟨wq, rfl⟩
    rw [hwq] at hv
    obtain rfl := Option.some.inj hv
    obtain ⟨k, hk, hwk, adk⟩ := pair_get' pr6 hwq
    have hjk : j < ks.length := by have := (List.getElem?_eq_some_iff.mp hwq).1; omega
    have hkj : ks[j]? = some k := by
      have e := mid_at (f := trW kd) (List.getElem?_eq_getElem hjk)
      rw [hk] at e
      rw [List.getElem?_eq_getElem hjk]; exact e.symm
    obtain ⟨nw4, nwW⟩ := al wq (List.mem_of_getElem? hwq)
    have nwt : wq ≠ t := D3.na nw4
    have fin : ∀ (x7 : Option V), ∃ (x7' : Option V), [some (V.ref d), some (.ref t), some (.ref gd), some (.int kd), some (.ref o), some (.str r.1), some (.ref W), x7] = [some (V.ref d), some (.ref t), some (.ref gd), some (.int kd), some (.ref o), some (.str r.1), some (.ref W), x7'] ∧ Dr K (upd H6 wq (LwO (trW kd k).1 (trW kd k).2.1 (trW kd k).2.2.1 (trW kd k).2.2.2)) d t ∧ But t H4 (upd H6 wq (LwO (trW kd k).1 (trW kd k).2.1 (trW kd k).2.2.1 (trW kd k).2.2.2)) ∧ (upd H6 wq (LwO (trW kd k).1 (trW kd k).2.1 (trW kd k).2.2.1 (trW kd k).2.2.2)) W = some (.lst (ps.map V.ref)) ∧ Paired (WyC (upd H6 wq (LwO (trW kd k).1 (trW kd k).2.1 (trW kd k).2.2.1 (trW kd k).2.2.2))) ps ((ks.take (j + 1)).map (trW kd) ++ ks.drop (j + 1)) := fun x7 => by
      refine ⟨x7, rfl, D6.other But.upd (fun z => ?_) nwt.symm, b6.mut nw4, by rw [upd_ne nwW.symm]; exact h6W, ?_⟩
      · obtain ⟨ns, e⟩ := D3.ds
        rw [z, nw4] at e; cases e
      · rw [← set_mid (f := trW kd) hkj]
        exact wyc_set (trW_adj adk) pr6 ndp hwq
    by_cases c1 : kd = 1
    · subst c1
      refine ⟨_, rfl, rfl, _, rfl, iteYes (decide_eq_true rfl) ?_⟩
      refine ⟨_, rfl, wq, _, 3, 3, rfl, rfl, hwk, rfl, ?_⟩
      exact ⟨_, rfl, rfl, _, rfl, iteNo (by decide) (fin _)⟩
    refine ⟨_, rfl, rfl, _, rfl, iteNo (decide_eq_false fun z => c1 (V.int.inj z)) ?_⟩
    by_cases c2 : kd = 2
    · subst c2
      refine ⟨_, rfl, rfl, _, rfl, iteYes (decide_eq_true rfl) ?_⟩
      refine ⟨_, rfl, wq, _, 1, 1, rfl, rfl, hwk, rfl, ?_⟩
      refine ⟨_, rfl, wq, _, 0, 0, rfl, rfl, upd_same, rfl, ?_⟩
      refine ⟨_, rfl, _, _, _, _, rfl, rfl, SqL.of upd_same, atI_nat (j := 2) rfl, .inl ⟨_, rfl, _, _, rfl, ?_⟩⟩
      refine ⟨_, rfl, wq, _, 2, 2, rfl, rfl, upd_same, rfl, ?_⟩
      refine ⟨_, rfl, wq, _, 3, 3, rfl, rfl, upd_same, rfl, ?_⟩
      rw [upd_upd', upd_upd', upd_upd', max_int]
      exact fin (some (V.ref wq))
    · refine ⟨_, rfl, rfl, _, rfl, iteNo (decide_eq_false fun z => c2 (V.int.inj z)) ?_⟩
      have e := fin (some (V.ref wq))
      rw [show trW kd k = k by unfold trW; rw [if_neg c1, if_neg c2], upd_self hwk] at e
      exact e
end
end My

namespace My
open PySem L2
/-! ### the faults of a policy -/
abbrev Ft := Str × Str × Int × Int × Int × Kd × Kd
def FtV (H : Hp) (v : V) (f : Ft) : Prop := ∃ p a b, v = .ref p ∧ H p = some (.tup [.str f.1, .str f.2.1, .int f.2.2.1, .int f.2.2.2.1, .int f.2.2.2.2.1, .ref a, .ref b]) ∧ H a = some (.tup [.str f.2.2.2.2.2.1.1, .str f.2.2.2.2.2.1.2]) ∧ H b = some (.tup [.str f.2.2.2.2.2.2.1, .str f.2.2.2.2.2.2.2])
def TpK (H H' : Hp) : Prop := ∀ a xs, H a = some (.tup xs) → H' a = some (.tup xs)
theorem TpK.same {H H' : Hp} (s : Same H H') : TpK H H' := fun a xs h => s _ _ h
theorem TpK.lst {H : Hp} {a : Addr} {xs ys : List V} (h : H a = some (.lst xs)) : TpK H (upd H a (.lst ys)) := fun b zs k => by rw [upd_ne (fun z => by rw [z, h] at k; cases k)]; exact k
theorem FtV.keep {H H' : Hp} {v : V} {f : Ft} (h : FtV H v f) (k : TpK H H') : FtV H' v f := let ⟨p, a, b, e, x, y, z⟩ := h; ⟨p, a, b, e, k _ _ x, k _ _ y, k _ _ z⟩
def keptN (rs : List Row) (r : Row) (w : Wv) (n : Int) (k : Kd) (ns : List Str) : Int := if need w.1 n - supH rs r.pars ns k < need w.2.1 n then need w.2.1 n else need w.1 n - supH rs r.pars ns k
def sameB (rs : List Row) (r : Row) (w o : Wv) (n : Int) (k : Kd) (ns : List Str) : Bool := (decide (supS r.pars ns k = 9) || decide (keptN rs r w n k ns = 0)) && (decide (keptN rs r w n k ns + need o.2.2.1 n ≤ n) && decide (need w.1 n + need o.2.1 n ≤ n))
def wAt (ws : List Wv) (j : Nat) : Wv := ws.getD j (0, 0, 0, false)
theorem wAt_of {ws : List Wv} {j : Nat} {w : Wv} (h : ws[j]? = some w) : wAt ws j = w := by unfold wAt; rw [List.getD_eq_getElem?_getD, h]; rfl
def apB (rs : List Row) (P : List Rl) (r : Row) (w o : Wv) (n : Int) (k2 : Kd) : Bool := fitB r (reachL rs P k2) k2 o n && decide (need w.2.2.1 n + need o.2.2.1 n ≤ n)
def apJ (rs : List Row) (P : List Rl) (r : Row) (ws : List Wv) (n : Int) (i : Nat) (k : Kd) (j : Nat) : List Ft := ((kindsOf rs P).filter (apB rs P r (wAt ws i) (wAt ws j) n)).map fun k2 => ("apart", r.mark, n, (i : Int), (j : Int), k, k2)
def saJ (rs : List Row) (P : List Rl) (r : Row) (ws : List Wv) (n : Int) (i : Nat) (k : Kd) (j : Nat) : List Ft := if fitB r (reachL rs P k) k (wAt ws j) n && sameB rs r (wAt ws i) (wAt ws j) n k (reachL rs P k) then [("same", r.mark, n, (i : Int), (j : Int), k, k)] else []
def beL (rs : List Row) (P : List Rl) (r : Row) (st : Bool) (n : Int) (i : Nat) (k : Kd) : List Ft := if st && decide ((r.mark, ("own" : Str)) ∈ joinL (linkB rs P) (kindsOf rs P) k) then [("begun", r.mark, n, (i : Int), -1, k, (r.mark, "own"))] else []
def ftAt (rs : List Row) (P : List Rl) (r : Row) (q : Rl) (n : Int) (i : Nat) (k : Kd) : List Ft := (List.range q.2.2.length).flatMap (apJ rs P r q.2.2 n i k) ++ ((List.range q.2.2.length).flatMap (saJ rs P r q.2.2 n i k) ++ beL rs P r q.2.1 n i k)
def rlOf (P : List Rl) (z : Str) : Rl := (lookR P z).getD (z, false, [])
def ftK (rs : List Row) (P : List Rl) (r : Row) (q : Rl) (n : Int) (i : Nat) (k : Kd) : List Ft := if fitB r (reachL rs P k) k (wAt q.2.2 i) n then ftAt rs P r q n i k else []
def ftI (rs : List Row) (P : List Rl) (r : Row) (q : Rl) (n : Int) (i : Nat) : List Ft := if (wAt q.2.2 i).2.2.2 then [] else (kindsOf rs P).flatMap (ftK rs P r q n i)
def ftN (rs : List Row) (P : List Rl) (r : Row) (q : Rl) (n : Int) : List Ft := (List.range q.2.2.length).flatMap (ftI rs P r q n)
def ftR (rs : List Row) (P : List Rl) (r : Row) : List Ft := (List.range (r.most + 1 - r.least).toNat).flatMap fun c => ftN rs P r (rlOf P r.mark) (r.least + ((c : Nat) : Int))
def faultsL (rs : List Row) (P : List Rl) : List Ft := rs.flatMap (ftR rs P)
theorem rng_flat {α : Type} (f : Nat → List α) (j : Nat) : (List.range (j + 1)).flatMap f = (List.range j).flatMap f ++ f j := by
  rw [List.range_succ, List.flatMap_append, List.flatMap_cons, List.flatMap_nil, List.append_nil]
theorem take_flat {α β : Type} {l : List α} {i : Nat} {x : α} (f : α → List β) (h : l[i]? = some x) : (l.take (i + 1)).flatMap f = (l.take i).flatMap f ++ f x := by
  rw [List.take_add_one, h, Option.toList_some, List.flatMap_append, List.flatMap_cons, List.flatMap_nil, List.append_nil]
theorem flat_le {α β : Type} {f : α → List β} (c : Nat) : ∀ {l : List α}, (∀ x ∈ l, (f x).length ≤ c) → (l.flatMap f).length ≤ l.length * c
  | [], _ => Nat.zero_le _
  | a :: l, h => by
    have := flat_le (f := f) c (l := l) fun x hx => h x (List.mem_cons_of_mem _ hx)
    have ha := h a List.mem_cons_self
    rw [List.flatMap_cons, List.length_append, List.length_cons, Nat.succ_mul]
    omega
/-- how many there can be -/
structure Few (rs : List Row) (P : List Rl) : Prop where
  ks : (kindsOf rs P).length ≤ 12
  ws : ∀ q ∈ P, q.2.2.length ≤ 8
section
variable {rs : List Row} {P : List Rl} {r : Row} {q : Rl} {n : Int} {i : Nat} {k : Kd}
theorem apJ_le (F : Few rs P) (ws : List Wv) (j : Nat) : (apJ rs P r ws n i k j).length ≤ 12 := by
  unfold apJ; rw [List.length_map]; exact Nat.le_trans (List.length_filter_le _ _) F.ks
theorem saJ_le (ws : List Wv) (j : Nat) : (saJ rs P r ws n i k j).length ≤ 1 := by unfold saJ; split <;> simp
theorem beL_le (st : Bool) : (beL rs P r st n i k).length ≤ 1 := by unfold beL; split <;> simp
theorem aps_le (F : Few rs P) (ws : List Wv) {m : Nat} (h : m ≤ 8) : ((List.range m).flatMap (apJ rs P r ws n i k)).length ≤ 96 := by
  have := flat_le (f := apJ rs P r ws n i k) 12 (l := List.range m) fun j _ => apJ_le F ws j
  rw [List.length_range] at this
  omega
theorem sas_le (ws : List Wv) {m : Nat} (h : m ≤ 8) : ((List.range m).flatMap (saJ rs P r ws n i k)).length ≤ 8 := by
  have := flat_le (f := saJ rs P r ws n i k) 1 (l := List.range m) fun j _ => saJ_le ws j
  rw [List.length_range] at this
  omega
theorem ftAt_le (F : Few rs P) (hq : q.2.2.length ≤ 8) : (ftAt rs P r q n i k).length ≤ 105 := by
  unfold ftAt
  rw [List.length_append, List.length_append]
  have a := aps_le (r := r) (n := n) (i := i) (k := k) F q.2.2 hq
  have b := sas_le (rs := rs) (P := P) (r := r) (n := n) (i := i) (k := k) q.2.2 hq
  have c := beL_le (rs := rs) (P := P) (r := r) (n := n) (i := i) (k := k) q.2.1
  omega
theorem ftK_le (F : Few rs P) (hq : q.2.2.length ≤ 8) : (ftK rs P r q n i k).length ≤ 105 := by
  unfold ftK
  split
  · exact ftAt_le F hq
  · simp
theorem ks_le (F : Few rs P) (hq : q.2.2.length ≤ 8) (m : Nat) : (((kindsOf rs P).take m).flatMap (ftK rs P r q n i)).length ≤ 1260 := by
  have := flat_le (f := ftK rs P r q n i) 105 (l := (kindsOf rs P).take m) fun k _ => ftK_le F hq
  have l := F.ks
  rw [List.length_take] at this
  have := Nat.mul_le_mul_right 105 (show min m (kindsOf rs P).length ≤ 12 by omega)
  omega
theorem ftI_le (F : Few rs P) (hq : q.2.2.length ≤ 8) : (ftI rs P r q n i).length ≤ 1260 := by
  unfold ftI
  split
  · simp
  · have := ks_le (r := r) (n := n) (i := i) F hq (kindsOf rs P).length
    rwa [List.take_length] at this
theorem is_le (F : Few rs P) (hq : q.2.2.length ≤ 8) {m : Nat} (h : m ≤ 8) : ((List.range m).flatMap (ftI rs P r q n)).length ≤ 10080 := by
  have := flat_le (f := ftI rs P r q n) 1260 (l := List.range m) fun j _ => ftI_le F hq
  rw [List.length_range] at this
  omega
theorem ns_le (F : Few rs P) (hq : q.2.2.length ≤ 8) (lo : Int) {m : Nat} (h : m ≤ 5) : ((List.range m).flatMap fun c => ftN rs P r q (lo + ((c : Nat) : Int))).length ≤ 50400 := by
  have := flat_le (f := fun c => ftN rs P r q (lo + ((c : Nat) : Int))) 10080 (l := List.range m) fun j _ => is_le F hq hq
  rw [List.length_range] at this
  omega
theorem ftR_le (F : Few rs P) (hq : (rlOf P r.mark).2.2.length ≤ 8) (h0 : 0 ≤ r.least) (h1 : r.most ≤ 4) : (ftR rs P r).length ≤ 50400 := ns_le F hq r.least (by omega)
theorem rl_le (F : Few rs P) (z : Str) : (rlOf P z).2.2.length ≤ 8 := by
  unfold rlOf
  cases h : lookR P z with
  | none => simp
  | some q => exact F.ws q (List.mem_of_find?_eq_some h)
theorem rs_le (F : Few rs P) (g : GoodC rs) (l6 : rs.length ≤ 6) (m : Nat) : ((rs.take m).flatMap (ftR rs P)).length ≤ 302400 := by
  have := flat_le (f := ftR rs P) 50400 (l := rs.take m) fun r hr => by
    obtain ⟨a, b, c⟩ := good_sizes g (List.mem_of_mem_take hr)
    exact ftR_le F (rl_le F _) a c
  rw [List.length_take] at this
  have := Nat.mul_le_mul_right 50400 (show min m rs.length ≤ 6 by omega)
  omega
end
end My

namespace My
open PySem L2
def spSameSt (K : PySem.W.Frag) (Cw Cs : Addr) : Sp := fun vs H Q _ => ∃ (x pl w o nn kk : Addr) (z : Str) (n i : Int) (rs : List Row) (r : Row) (wv ov : Wv) (k : Kd) (ns : List Str), vs = [.ref x, .ref pl, .ref w, .ref o, .ref nn] ∧ ShO Cs H x rs ∧ H pl = some (.tup [.str z, .int n, .int i, .ref kk]) ∧ findR rs z = some r ∧ (∀ p ∈ r.pars, p ∈ mks rs) ∧ r.pars.length ≤ 1000 ∧ Wy Cw H w wv.1 wv.2.1 wv.2.2.1 wv.2.2.2 ∧ LtW wv ∧ Wy Cw H o ov.1 ov.2.1 ov.2.2.1 ov.2.2.2 ∧ LtW ov ∧ H kk = some (.tup [.str k.1, .str k.2]) ∧ (SqL K H nn (ns.map V.str) ∨ SqT K H nn (ns.map V.str)) ∧ okKd k ∧
  ∀ H', Same H H' → Q (.bl (sameB rs r wv ov n k ns)) H'
section
variable {w : World} {K : PySem.W.Frag} {mg : Str → Option Value} {base : Heap}
theorem sq_same {H H' : Hp} {a : Addr} {xs : List V} (h : SqL K H a xs ∨ SqT K H a xs) (s : Same H H') : SqL K H' a xs ∨ SqT K H' a xs :=
  h.elim (fun h => .inl (s.seq h)) fun h => .inr ((But.of_same (a := a + 1) s).sqT (Nat.ne_of_lt (Nat.lt_succ_self a)) h)
set_option maxHeartbeats 16000000 in
set_option pp.maxSteps 700 in
theorem ok_same_start (T : Txt K mg) : FnOk PP w K mg base CX0 14 T.a_same_start T.fd_same_start ["shape", "place", "way", "other", "names"] (spSameSt K T.c_Way T.c_Shape) := by
  refine T.F_same_start.ok sc_same_start (fun vs H Q E h => ?_) (fun cdv A outer s H vs Q E hr h => ?_)
  · obtain ⟨x, pl, wy, oy, nn, kk, z, n, i, rs, r, wv, ov, k, ns, rfl, _⟩ := h; rfl
  · obtain ⟨x, pl, wy, oy, nn, kk, z, n, i, rs, r, wv, ov, k, ns, rfl, S, hpl, fr, sub, lp, wk, lw, ok, lo, hkk, hnn, kd, q⟩ := h
    refine ⟨_, (pss_cons (ps_asg (pv 1) (pg_tup rfl (pgs_cons (pg_name (i := 5) sc_same_start.nd rfl (.inl rfl)) (pgs_cons (pg_name (i := 6) sc_same_start.nd rfl (.inl rfl)) (pgs_cons (pg_name (i := 7) sc_same_start.nd rfl (.inl rfl)) (pgs_cons (pg_name (i := 8) sc_same_start.nd rfl (.inl rfl)) pgs_nil))))))
      (pss_cons (ps_asg (pe_meth (pv 2) T.cl_Way T.m_Way_needs (ok_Way_needs T) (hr.mono (by omega)) T.b_Way_needs .nil pass0 (pa_cons (pv 6) pa_nil)) (pg_tup rfl (pgs_cons (pg_name (i := 9) sc_same_start.nd rfl (.inl rfl)) (pgs_cons (pg_name (i := 10) sc_same_start.nd rfl (.inl rfl)) (pgs_cons (pg_name (i := 7) sc_same_start.nd rfl (.inl rfl)) pgs_nil)))))
      (pss_cons (ps_asg (pe_meth (pv 3) T.cl_Way T.m_Way_needs (ok_Way_needs T) (hr.mono (by omega)) T.b_Way_needs .nil pass0 (pa_cons (pv 6) pa_nil)) (pg_tup rfl (pgs_cons (pg_name (i := 7) sc_same_start.nd rfl (.inl rfl)) (pgs_cons (pg_name (i := 11) sc_same_start.nd rfl (.inl rfl)) (pgs_cons (pg_name (i := 12) sc_same_start.nd rfl (.inl rfl)) pgs_nil)))))
      (pss_cons (ps_set (i := 13) sc_same_start.nd rfl (.inl rfl) (pe_op op_sub (pv 9) (pe_ix ix_tup (pe_call (ok_supply T) (hr.mono (by omega)) (by rfl) T.g_supply T.F_supply.kp T.b_supply .nil pass0 (pa_cons (pv 0) (pa_cons (pv 5) (pa_cons (pv 8) (pa_cons (pv 4) pa_nil))))) (pe_int) (fun _ _ => rfl))))
      (C8.pss_cut (ps_if (pt_cmpR op_lt (pv 13) (pv 10) (nomark _)) (pss_one (ps_set (i := 13) sc_same_start.nd rfl (.inl rfl) (pv 10))) pss_nil)
      (pss_cons (ps_set (i := 14) sc_same_start.nd rfl (.inl rfl) (pe_cmpR op_eq (pe_ix ix_tup (pe_call (ok_supply T) (hr.mono (by omega)) (by rfl) T.g_supply T.F_supply.kp T.b_supply .nil pass0 (pa_cons (pv 0) (pa_cons (pv 5) (pa_cons (pv 8) (pa_cons (pv 4) pa_nil))))) (pe_int) (fun _ _ => rfl)) (pe_glob (v := .int 9) (by rfl) T.g_UNLIMITED ⟨_, rfl⟩) (nomark _)))
      (pss_one (ps_ret (pe_and (pe_or (pv 14) (pe_one (pe_cmpR op_eq (pv 13) (pe_int) (nomark _)))) (pe_and (pe_cmpR op_le (pe_op op_add (pv 13) (pv 12)) (pv 6) (nomark _)) (pe_one (pe_cmpR op_le (pe_op op_add (pv 9) (pv 11)) (pv 6) (nomark _))))))))))))), ?_⟩
    obtain ⟨l1, l2, l3⟩ := lw
    obtain ⟨m1, m2, m3⟩ := lo
    obtain ⟨dw, hw⟩ := id wk
    obtain ⟨dO, ho⟩ := id ok
    refine ⟨_, rfl, pl, _, rfl, .inl (.inl hpl), rfl, _, _, rfl, _, _, rfl, _, _, rfl, _, _, rfl, rfl, ?_⟩
    refine ⟨_, rfl, wy, dw, _, rfl, hw, wayF_no _ _ _ _ (by decide +kernel) (by decide +kernel) (by decide +kernel) (by decide +kernel), _, rfl, wy, wv.1, wv.2.1, wv.2.2.1, wv.2.2.2, n, rfl, l1, l2, l3, wk, fun n1 H1 s1 nn1 hn1 => ?_⟩
    refine ⟨n1, _, rfl, .inl (.inl hn1), rfl, _, _, rfl, _, _, rfl, _, _, rfl, rfl, ?_⟩
    refine ⟨_, rfl, oy, dO, _, rfl, s1 _ _ ho, wayF_no _ _ _ _ (by decide +kernel) (by decide +kernel) (by decide +kernel) (by decide +kernel), _, rfl, oy, ov.1, ov.2.1, ov.2.2.1, ov.2.2.2, n, rfl, m1, m2, m3, Wy.same ok s1, fun n2 H2 s2 nn2 hn2 => ?_⟩
    refine ⟨n2, _, rfl, .inl (.inl hn2), rfl, _, _, rfl, _, _, rfl, _, _, rfl, rfl, ?_⟩
    have t2 := s1.trans s2
    refine ⟨_, rfl, _, rfl, _, rfl, _, rfl, _, rfl, x, kk, nn, z, rs, r, k, ns, rfl, S.same t2, fr, sub, lp, t2 _ _ hkk, sq_same hnn t2, kd, fun u H3 s3 nu hu => ?_⟩
    have t3 := t2.trans s3
    refine ⟨_, _, _, _, rfl, rfl, SqT.of hu, atI_nat (j := 2) rfl, _, _, rfl, rfl, ?_⟩
    refine ⟨fun σ' H' => σ' = [some (.ref x), some (.ref pl), some (.ref wy), some (.ref oy), some (.ref nn), some (.str z), some (.int n), some (.int (need ov.1 n)), some (.ref kk), some (.int (need wv.1 n)), some (.int (need wv.2.1 n)), some (.int (need ov.2.1 n)), some (.int (need ov.2.2.1 n)), some (.int (keptN rs r wv n k ns)), none] ∧ H' = H3, ?_, ?_⟩
    · refine ⟨_, rfl, _, rfl, _, _, rfl, rfl, _, rfl, iteD (fun c => ?_) (fun c => ?_)⟩
      · refine ⟨_, rfl, ?_, rfl⟩
        unfold keptN; rw [if_pos c]; rfl
      · refine ⟨?_, rfl⟩
        unfold keptN; rw [if_neg c]; rfl
    rintro σ H' ⟨rfl, rfl⟩
    refine ⟨_, rfl, _, rfl, _, rfl, _, rfl, x, kk, nn, z, rs, r, k, ns, rfl, S.same t3, fr, sub, lp, t3 _ _ hkk, sq_same hnn t3, kd, fun u2 H4 s4 nu2 hu2 => ?_⟩
    refine ⟨_, _, _, _, rfl, rfl, SqT.of hu2, atI_nat (j := 0) rfl, rfl, ?_⟩
    have e9 : ∀ a b : Int, decide (V.int a = V.int b) = decide (a = b) := fun a b => decide_eq_decide.mpr ⟨fun h => V.int.inj h, fun h => by rw [h]⟩
    rw [e9]
    have fin := q H4 (t3.trans s4)
    unfold sameB at fin
    generalize decide (supS r.pars ns k = 9) = B9 at fin ⊢
    have rest : (B9 || decide (keptN rs r wv n k ns = 0)) = true → (tAndV (tOp (rI0 fun i j => V.bl (decide (i ≤ j))) (tOp (rI0 fun i j => V.int (i + j)) (tVar 13) (tVar 12)) (tVar 6)) (tOp (rI0 fun i j => V.bl (decide (i ≤ j))) (tOp (rI0 fun i j => V.int (i + j)) (tVar 9) (tVar 11)) (tVar 6))) [some (.ref x), some (.ref pl), some (.ref wy), some (.ref oy), some (.ref nn), some (.str z), some (.int n), some (.int (need ov.1 n)), some (.ref kk), some (.int (need wv.1 n)), some (.int (need wv.2.1 n)), some (.int (need ov.2.1 n)), some (.int (need ov.2.2.1 n)), some (.int (keptN rs r wv n k ns)), some (.bl B9)] H4 Q := fun hb => by
      rw [hb, Bool.true_and] at fin
      refine ⟨_, rfl, _, rfl, _, _, rfl, rfl, _, rfl, _, _, rfl, rfl, _, rfl, ?_⟩
      by_cases c : keptN rs r wv n k ns + need ov.2.2.1 n ≤ n
      · rw [decide_eq_true c, Bool.true_and] at fin
        refine iteYes (decide_eq_true c) ⟨_, rfl, _, rfl, _, _, rfl, rfl, _, rfl, _, _, rfl, rfl, fin⟩
      · rw [decide_eq_false c, Bool.false_and] at fin
        refine iteNo (decide_eq_false c) ?_
        exact fin
    cases B9 with
    | true => exact ⟨_, rfl, _, rfl, iteYes rfl ⟨_, rfl, iteYes rfl (rest rfl)⟩⟩
    | false =>
      refine ⟨_, rfl, _, rfl, iteNo rfl ⟨_, rfl, rfl, _, rfl, ?_⟩⟩
      by_cases c : keptN rs r wv n k ns = 0
      · exact iteYes (by rw [e9]; exact decide_eq_true c) (rest (by rw [decide_eq_true c]; rfl))
      · rw [Bool.false_or, decide_eq_false c, Bool.false_and] at fin
        refine iteNo (by rw [e9]; exact decide_eq_false c) ?_
        exact fin
end
end My

namespace My
open PySem L2
/-- behind the call the table is locked -/
structure FtIn (Cp Cw Cs : Addr) (H : Hp) (p x m a b tb : Addr) (od : Obj) (P : List Rl) (rs : List Row) (kvs : List (List Key × V)) : Prop where
  pol : Pol Cp Cw H p x m a b P
  sh : ShO Cs H x rs
  tb : H tb = some (.frz od (.dT kvs))
  tv : Paired (TabV .tup rs P H) kvs (kindsOf rs P)
theorem FtIn.same {Cp Cw Cs : Addr} {H H' : Hp} {p x m a b tb : Addr} {od : Obj} {P : List Rl} {rs : List Row} {kvs : List (List Key × V)} (h : FtIn Cp Cw Cs H p x m a b tb od P rs kvs) (s : Same H H') : FtIn Cp Cw Cs H' p x m a b tb od P rs kvs :=
  ⟨h.pol.same s, h.sh.same s, s _ _ h.tb, L2.Paired.mapP h.tv fun _ _ z => z.same s⟩
theorem FtIn.get {Cp Cw Cs : Addr} {H : Hp} {p x m a b tb q : Addr} {od : Obj} {P : List Rl} {rs : List Row} {kvs : List (List Key × V)} {k : Kd} (h : FtIn Cp Cw Cs H p x m a b tb od P rs kvs) (mk : k ∈ kindsOf rs P) (hq : H q = some (.tup [.str k.1, .str k.2])) : ∃ u, DGet H tb (.ref q) (some (.ref u)) ∧ H u = some (.tup ((reachL rs P k).map V.str)) := tab_get (.inr ⟨od, h.tb⟩) h.tv mk hq
def spFaultsAt (Cp Cw Cs : Addr) : Sp := fun vs H Q _ => ∃ (p x m a b tb c pl kk : Addr) (od : Obj) (P : List Rl) (rs : List Row) (kvs ckv : List (List Key × V)) (r : Row) (q : Rl) (n : Int) (i : Nat) (k : Kd), vs = [.ref p, .ref tb, .ref c, .ref pl] ∧ FtIn Cp Cw Cs H p x m a b tb od P rs kvs ∧ GoodC rs ∧ P.map (·.1) = mks rs ∧ OkW P ∧ Few rs P ∧ H c = some (.dT ckv) ∧ (∀ b, (valV ckv (kdK b)).isSome = true ↔ Tc (linkB rs P) (kindsOf rs P) k b) ∧ H pl = some (.tup [.str r.mark, .int n, .int (i : Nat), .ref kk]) ∧ H kk = some (.tup [.str k.1, .str k.2]) ∧ k ∈ kindsOf rs P ∧ r ∈ rs ∧ findR rs r.mark = some r ∧ lookR P r.mark = some q ∧ q ∈ P ∧ i < q.2.2.length ∧
  ∀ u us H', Same H H' → H u = none → H' u = some (.lst us) → Paired (FtV H') us (ftAt rs P r q n i k) → Q (.ref u) H'
theorem flt_app {H : Hp} {f0 : Addr} {fs : List V} {fl : List Ft} {tt : Addr} {ft : Ft} (p : Paired (FtV H) fs fl) (h : H f0 = some (.lst fs)) (hf : FtV H (.ref tt) ft) : Paired (FtV (upd H f0 (.lst (fs ++ [.ref tt])))) (fs ++ [.ref tt]) (fl ++ [ft]) :=
  pair_app' (L2.Paired.mapP p fun _ _ z => z.keep (.lst h)) (.cons (hf.keep (.lst h)) .nil)
section
variable {w : World} {K : PySem.W.Frag} {mg : Str → Option Value} {base : Heap}
set_option maxHeartbeats 32000000 in
set_option pp.maxSteps 700 in
theorem ok_faults_at (T : Txt K mg) : FnOk PP w K mg base CX0 20 T.a_faults_at T.fd_faults_at ["policy", "table", "came", "place"] (spFaultsAt T.c_Policy T.c_Way T.c_Shape) := by
  refine T.F_faults_at.ok sc_faults_at (fun vs H Q E h => ?_) (fun cdv A outer s H vs Q E hr h => ?_)
  · obtain ⟨p, x, m, a, b, tb, c, pl, kk, od, P, rs, kvs, ckv, r, q, n, i, k, rfl, _⟩ := h; rfl
  · obtain ⟨p, x, m, a, b, tb, c, pl, kk, od, P, rs, kvs, ckv, r, q, n, i, k, rfl, FI, g, eP, okP, F, hc, iff, hpl, hkk, mk, mr, fr, lz, mq, li, qq⟩ := h
    refine ⟨_, (pss_cons (ps_asg (pv 3) (pg_tup rfl (pgs_cons (pg_name (i := 4) sc_faults_at.nd rfl (.inl rfl)) (pgs_cons (pg_name (i := 5) sc_faults_at.nd rfl (.inl rfl)) (pgs_cons (pg_name (i := 6) sc_faults_at.nd rfl (.inl rfl)) (pgs_cons (pg_name (i := 7) sc_faults_at.nd rfl (.inl rfl)) pgs_nil))))))
      (pss_cons (ps_set (i := 8) sc_faults_at.nd rfl (.inl rfl) (pe_meth (pv 0) T.cl_Policy T.m_Policy_ways_of (ok_Policy_ways_of T) (hr.mono (by omega)) T.b_Policy_ways_of .nil pass0 (pa_cons (pv 4) pa_nil)))
      (pss_cons (ps_set (i := 9) sc_faults_at.nd rfl (.inl rfl) (pe_ix ix_tup (pv 8) (pv 6) (fun _ _ => rfl)))
      (pss_cons (ps_set (i := 10) sc_faults_at.nd rfl (.inl rfl) (pe_lst pa_nil))
      (pss_cons (ps_for PassesOwn.never rfl (pi_enumT (by rfl) T.n_enumerate (pa_cons (pv 8) pa_nil)) (pg_tup rfl (pgs_cons (pg_name (i := 11) sc_faults_at.nd rfl (.inl rfl)) (pgs_cons (pg_name (i := 12) sc_faults_at.nd rfl (.inl rfl)) pgs_nil))) (pss_one (ps_for PassesOwn.never rfl (pi_keys (pv 1)) (pg_name (i := 13) sc_faults_at.nd rfl (.inl rfl)) (pss_one (ps_if (PW.pt (pw_and (pt_val (pe_call (ok_fits T) (hr.mono (by omega)) (by rfl) T.g_fits T.F_fits.kp T.b_fits .nil pass0 (pa_cons (pe_fld (pv 0) rfl) (pa_cons (pv 12) (pa_cons (pv 4) (pa_cons (pv 5) (pa_cons (pv 13) (pa_cons (pe_dget (hu_of hr) (pv 1) (pv 13) (fun _ _ => rfl)) pa_nil)))))))) (pw_and1 (pt_cmpR op_le (pe_op op_add (pe_ix ix_tup (pe_meth (pv 9) T.cl_Way T.m_Way_needs (ok_Way_needs T) (hr.mono (by omega)) T.b_Way_needs .nil pass0 (pa_cons (pv 5) pa_nil)) (pe_int) (fun _ _ => rfl)) (pe_ix ix_tup (pe_meth (pv 12) T.cl_Way T.m_Way_needs (ok_Way_needs T) (hr.mono (by omega)) T.b_Way_needs .nil pass0 (pa_cons (pv 5) pa_nil)) (pe_int) (fun _ _ => rfl))) (pv 5) (nomark _))))) (pss_one (ps_expr (pe_bm PySem.F.plainAttrs_list PySem.F.slot_list_append PySem.F.type_list_append mt_append (pv 10) (pa_cons (pe_tup (pa_cons (pe_str) (pa_cons (pv 4) (pa_cons (pv 5) (pa_cons (pv 6) (pa_cons (pv 11) (pa_cons (pv 7) (pa_cons (pv 13) pa_nil)))))))) pa_nil)))) pss_nil)))))
      (pss_cons (ps_for PassesOwn.never rfl (pi_enumT (by rfl) T.n_enumerate (pa_cons (pv 8) pa_nil)) (pg_tup rfl (pgs_cons (pg_name (i := 11) sc_faults_at.nd rfl (.inl rfl)) (pgs_cons (pg_name (i := 12) sc_faults_at.nd rfl (.inl rfl)) pgs_nil))) (pss_one (ps_if (PW.pt (pw_and (pt_val (pe_call (ok_fits T) (hr.mono (by omega)) (by rfl) T.g_fits T.F_fits.kp T.b_fits .nil pass0 (pa_cons (pe_fld (pv 0) rfl) (pa_cons (pv 12) (pa_cons (pv 4) (pa_cons (pv 5) (pa_cons (pv 7) (pa_cons (pe_dget (hu_of hr) (pv 1) (pv 7) (fun _ _ => rfl)) pa_nil)))))))) (pw_and1 (pt_val (pe_call (ok_same_start T) (hr.mono (by omega)) (by rfl) T.g_same_start T.F_same_start.kp T.b_same_start .nil pass0 (pa_cons (pe_fld (pv 0) rfl) (pa_cons (pv 3) (pa_cons (pv 9) (pa_cons (pv 12) (pa_cons (pe_dget (hu_of hr) (pv 1) (pv 7) (fun _ _ => rfl)) pa_nil)))))))))) (pss_one (ps_expr (pe_bm PySem.F.plainAttrs_list PySem.F.slot_list_append PySem.F.type_list_append mt_append (pv 10) (pa_cons (pe_tup (pa_cons (pe_str) (pa_cons (pv 4) (pa_cons (pv 5) (pa_cons (pv 6) (pa_cons (pv 11) (pa_cons (pv 7) (pa_cons (pv 7) pa_nil)))))))) pa_nil)))) pss_nil)))
      (pss_cons (ps_if (PW.pt (pw_and (pt_val (pe_meth (pv 0) T.cl_Policy T.m_Policy_starts_at (ok_Policy_starts_at T) (hr.mono (by omega)) T.b_Policy_starts_at .nil pass0 (pa_cons (pv 4) pa_nil))) (pw_and1 (pt_cmpR (op_inKd (hu_of hr)) (pe_tup (pa_cons (pv 4) (pa_cons (pe_str) pa_nil))) (pv 2) (by with_unfolding_all rfl))))) (pss_one (ps_expr (pe_bm PySem.F.plainAttrs_list PySem.F.slot_list_append PySem.F.type_list_append mt_append (pv 10) (pa_cons (pe_tup (pa_cons (pe_str) (pa_cons (pv 4) (pa_cons (pv 5) (pa_cons (pv 6) (pa_cons (pe_un un_neg (pe_int)) (pa_cons (pv 7) (pa_cons (pe_tup (pa_cons (pv 4) (pa_cons (pe_str) pa_nil))) pa_nil)))))))) pa_nil)))) pss_nil)
      (pss_one (ps_ret (pv 10)))))))))), ?_⟩
    have big : 100000 < sizeLine := by decide
    have sub := g.pars r mr
    have lp : r.pars.length ≤ 1000 := by have := (g.bnd r mr).2; omega
    have okw := (okP q mq).1
    have l8 := F.ws q mq
    have kd := kinds_ok mk
    have ndk := kinds_nd (rs := rs) FI.pol.nd
    have lkv := pair_len' FI.tv
    obtain ⟨dp, hp⟩ := FI.pol.obj
    refine ⟨_, rfl, pl, _, rfl, .inl (.inl hpl), rfl, _, _, rfl, _, _, rfl, _, _, rfl, _, _, rfl, rfl, ?_⟩
    refine ⟨_, rfl, p, dp, _, rfl, hp, rfl, _, rfl, p, x, m, a, b, P, r.mark, q, rfl, FI.pol, lz, fun t H1 s1 ⟨vs, ht, pw⟩ => ?_⟩
    have lvs := pair_len' pw
    obtain ⟨v0, hv0⟩ : ∃ v0, vs[i]? = some v0 := ⟨_, List.getElem?_eq_getElem (by omega)⟩
    obtain ⟨wv, hwv, wy, rfl, wk⟩ := pair_get' pw hv0
    have ewv : wAt q.2.2 i = wv := wAt_of hwv
    obtain ⟨l1, l2, l3⟩ := okw wv (List.mem_of_getElem? hwv)
    obtain ⟨dw, hw⟩ := id wk
    refine ⟨_, rfl, _, rfl, _, _, _, _, rfl, rfl, SqT.of ht, atI_nat hv0, ?_⟩
    refine ⟨Nat.zero_le _, fun f0 nf0 => ?_⟩
    have sf := same_new (o := .lst ([] : List V)) nf0
    have hf0 := upd_same (H := H1) (a := f0) (o := .lst ([] : List V))
    revert sf hf0
    generalize upd H1 f0 (.lst []) = H2
    intro sf hf0
    -- apart
    refine ⟨_, rfl, t, vs, rfl, SqT.of (sf _ _ ht), for_enumT (K := K) (a := t) (xs := vs) (fun j σ H' => ∃ (x11 x12 x13 : Option V) (fs : List V), σ = [some (.ref p), some (.ref tb), some (.ref c), some (.ref pl), some (.str r.mark), some (.int n), some (.int (i : Nat)), some (.ref kk), some (.ref t), some (.ref wy), some (.ref f0), x11, x12, x13] ∧ Same H1 H' ∧ H' f0 = some (.lst fs) ∧ Paired (FtV H') fs ((List.range j).flatMap (apJ rs P r q.2.2 n i k))) ⟨_, _, _, [], rfl, sf, hf0, .nil⟩ (fun j σ H' _ ⟨_, _, _, _, _, s, _⟩ => SqT.of (s _ _ ht)) ?_ ?_⟩
    · rintro j v σ H3 TT hv ⟨x11, x12, x13, fs, rfl, s3, hf3, p3⟩ nT
      obtain ⟨ov, hov, oy, rfl, ok⟩ := pair_get' pw hv
      have eov : wAt q.2.2 j = ov := wAt_of hov
      have lj := (List.getElem?_eq_some_iff.mp hov).1
      obtain ⟨m1, m2, m3⟩ := okw ov (List.mem_of_getElem? hov)
      obtain ⟨dO, ho⟩ := id ok
      have sT := same_new (o := .tup [.int (j : Nat), .ref oy]) nT
      refine ⟨TT, _, rfl, .inl (.inl upd_same), rfl, _, _, rfl, _, _, rfl, rfl, ?_⟩
      have hf4 := sT _ _ hf3
      have s4 := s3.trans sT
      have p4 := L2.Paired.mapP p3 fun _ _ z => z.keep (.same sT)
      revert s4 hf4 p4
      generalize upd H3 TT (.tup [.int (j : Nat), .ref oy]) = H4
      intro hf4 s4 p4
      clear sT p3 hf3 s3 nT
      refine ⟨_, rfl, tb, od, rfl, .inr ⟨kvs, s4 _ _ (s1 _ _ FI.tb), for_it walk_keysT (fun l σ H' => ∃ (x13 : Option V) (fs : List V), σ = [some (.ref p), some (.ref tb), some (.ref c), some (.ref pl), some (.str r.mark), some (.int n), some (.int (i : Nat)), some (.ref kk), some (.ref t), some (.ref wy), some (.ref f0), some (.int (j : Nat)), some (.ref oy), x13] ∧ Same H1 H' ∧ H' f0 = some (.lst fs) ∧ Paired (FtV H') fs ((List.range j).flatMap (apJ rs P r q.2.2 n i k) ++ ((((kindsOf rs P).take l).filter (apB rs P r wv ov n)).map fun k2 => (("apart", r.mark, n, ((i : Nat) : Int), ((j : Nat) : Int), k, k2) : Ft)))) ⟨_, fs, rfl, s4, hf4, by rw [List.take_zero]; simpa using p4⟩ (fun l σ H' _ ⟨_, _, _, s, _⟩ => s _ _ (s1 _ _ FI.tb)) ?_ ?_⟩⟩
      · rintro l v σ H5 H6 hl ⟨x13, fs, rfl, s5, hf5, p5⟩ ⟨rfl, k0, v', qa, ek, rfl, hqa⟩
        obtain ⟨k2, hk2, ek1, _⟩ := pair_get' FI.tv ek
        have ek1 : k0 = kdK k2 := ek1
        subst ek1
        have hqa : H6 qa = some (.tup [.str k2.1, .str k2.2]) := hqa
        have mk2 := List.mem_of_getElem? hk2
        have t6 := s1.trans s5
        have FI6 := FI.same t6
        obtain ⟨u1, d1, hu1⟩ := FI6.get mk2 hqa
        rw [filter_take hk2, List.map_append, ← List.append_assoc]
        have bl := pair_len' p5
        rw [List.length_append, List.length_map] at bl
        have b1 := aps_le (r := r) (n := n) (i := i) (k := k) F q.2.2 (show j ≤ 8 by omega)
        have b2 := List.length_filter_le (apB rs P r wv ov n) ((kindsOf rs P).take l)
        have b3 := F.ks
        rw [List.length_take] at b2
        refine ⟨_, rfl, p, _, dp, _, _, rfl, t6 _ _ hp, T.cl_Policy, T.no_Policy_shape, polF1 x m a b, _, rfl, _, rfl, _, rfl, _, rfl, _, rfl, _, rfl, tb, _, rfl, d1, x, oy, qa, u1, r.mark, n, rs, r, ov, k2, _, rfl, FI6.sh, fr, sub, lp, Wy.same ok s5, m1, m2, m3, hqa, .inr (SqT.of hu1), kinds_ok mk2, fun H7 s7 => ⟨_, rfl, ?_⟩⟩
        have s57 := s5.trans s7
        have p7 := L2.Paired.mapP p5 fun _ _ z => z.keep (.same s7)
        cases ef : fitB r (reachL rs P k2) k2 ov n with
        | false =>
          refine iteNo rfl (iteNo rfl ⟨_, fs, rfl, s57, s7 _ _ hf5, ?_⟩)
          rw [if_neg (by unfold apB; rw [ef]; simp), List.map_nil, List.append_nil]
          exact p7
        | true =>
          refine iteYes rfl ?_
          refine ⟨_, rfl, wy, dw, _, rfl, s57 _ _ hw, wayF_no _ _ _ _ (by decide +kernel) (by decide +kernel) (by decide +kernel) (by decide +kernel), _, rfl, wy, wv.1, wv.2.1, wv.2.2.1, wv.2.2.2, n, rfl, l1, l2, l3, Wy.same wk s57, fun nt1 H8 s8 nn1 hn1 => ?_⟩
          refine ⟨_, _, _, _, rfl, rfl, SqT.of hn1, atI_nat (j := 2) rfl, ?_⟩
          have s58 := s57.trans s8
          refine ⟨_, rfl, oy, dO, _, rfl, s58 _ _ ho, wayF_no _ _ _ _ (by decide +kernel) (by decide +kernel) (by decide +kernel) (by decide +kernel), _, rfl, oy, ov.1, ov.2.1, ov.2.2.1, ov.2.2.2, n, rfl, m1, m2, m3, Wy.same ok s58, fun nt2 H9 s9 nn2 hn2 => ?_⟩
          have s59 := s58.trans s9
          have s79 := s8.trans s9
          have p9 := L2.Paired.mapP p7 fun _ _ z => z.keep (.same s79)
          have hf9 := s79 _ _ (s7 _ _ hf5)
          refine ⟨_, _, _, _, rfl, rfl, SqT.of hn2, atI_nat (j := 2) rfl, _, _, rfl, rfl, _, rfl, _, _, rfl, rfl, _, rfl, iteD (fun cc => ?_) (fun cc => ?_)⟩
          · refine ⟨_, rfl, .inl ⟨rfl, _, SqL.of hf9⟩, _, rfl, _, rfl, _, rfl, _, rfl, _, rfl, _, rfl, by show 7 ≤ sizeLine; decide, fun tt ntt => ?_⟩
            have st := same_new (o := .tup [.str "apart", .str r.mark, .int n, .int (i : Nat), .int (j : Nat), .ref kk, .ref qa]) ntt
            refine ⟨_, _, _, rfl, rfl, st _ _ hf9, by omega, ?_⟩
            have hfa := st _ _ hf9
            refine ⟨_, fs ++ [.ref tt], rfl, same_mut (s59.trans st) nf0, upd_same, ?_⟩
            rw [if_pos (by unfold apB; rw [ef, decide_eq_true cc]; rfl)]
            exact flt_app (L2.Paired.mapP p9 fun _ _ z => z.keep (.same st)) hfa ⟨tt, kk, qa, rfl, upd_same, st _ _ (s59 _ _ (s1 _ _ hkk)), st _ _ (s79 _ _ (s7 _ _ hqa))⟩
          · refine ⟨_, fs, rfl, s59, hf9, ?_⟩
            rw [if_neg (by unfold apB; rw [ef, decide_eq_false cc]; simp), List.map_nil, List.append_nil]
            exact p9
      · rintro σ H5 ⟨x13, fs, rfl, s5, hf5, p5⟩
        rw [lkv, List.take_length] at p5
        refine ⟨_, _, _, fs, rfl, s5, hf5, ?_⟩
        rw [rng_flat]
        have : apJ rs P r q.2.2 n i k j = ((kindsOf rs P).filter (apB rs P r wv ov n)).map fun k2 => (("apart", r.mark, n, ((i : Nat) : Int), ((j : Nat) : Int), k, k2) : Ft) := by unfold apJ; rw [ewv, eov]
        rw [this]; exact p5
    rintro σ H3 ⟨x11, x12, x13, fs, rfl, s3, hf3, p3⟩
    rw [lvs] at p3
    clear hf0 sf
    -- the same start
    refine ⟨_, rfl, t, vs, rfl, SqT.of (s3 _ _ ht), for_enumT (K := K) (a := t) (xs := vs) (fun j σ H' => ∃ (x11 x12 x13 : Option V) (fs : List V), σ = [some (.ref p), some (.ref tb), some (.ref c), some (.ref pl), some (.str r.mark), some (.int n), some (.int (i : Nat)), some (.ref kk), some (.ref t), some (.ref wy), some (.ref f0), x11, x12, x13] ∧ Same H1 H' ∧ H' f0 = some (.lst fs) ∧ Paired (FtV H') fs ((List.range q.2.2.length).flatMap (apJ rs P r q.2.2 n i k) ++ (List.range j).flatMap (saJ rs P r q.2.2 n i k))) ⟨_, _, _, fs, rfl, s3, hf3, by simpa using p3⟩ (fun j σ H' _ ⟨_, _, _, _, _, s, _⟩ => SqT.of (s _ _ ht)) ?_ ?_⟩
    · rintro j v σ H4 TT hv ⟨x11, x12, x13, fs, rfl, s4, hf4, p4⟩ nT
      obtain ⟨ov, hov, oy, rfl, ok⟩ := pair_get' pw hv
      have eov : wAt q.2.2 j = ov := wAt_of hov
      have lj := (List.getElem?_eq_some_iff.mp hov).1
      have lo := okw ov (List.mem_of_getElem? hov)
      obtain ⟨m1, m2, m3⟩ := id lo
      have sT := same_new (o := .tup [.int (j : Nat), .ref oy]) nT
      refine ⟨TT, _, rfl, .inl (.inl upd_same), rfl, _, _, rfl, _, _, rfl, rfl, ?_⟩
      have hf5 := sT _ _ hf4
      have s5 := s4.trans sT
      have p5 := L2.Paired.mapP p4 fun _ _ z => z.keep (.same sT)
      revert s5 hf5 p5
      generalize upd H4 TT (.tup [.int (j : Nat), .ref oy]) = H5
      intro hf5 s5 p5
      clear sT p4 hf4 s4 nT
      have t5 := s1.trans s5
      have FI5 := FI.same t5
      obtain ⟨u1, d1, hu1⟩ := FI5.get mk (t5 _ _ hkk)
      have bl := pair_len' p5
      rw [List.length_append] at bl
      have b1 := aps_le (r := r) (n := n) (i := i) (k := k) F q.2.2 l8
      have b2 := sas_le (rs := rs) (P := P) (r := r) (n := n) (i := i) (k := k) q.2.2 (show j ≤ 8 by omega)
      rw [rng_flat, ← List.append_assoc]
      refine ⟨_, rfl, p, _, dp, _, _, rfl, t5 _ _ hp, T.cl_Policy, T.no_Policy_shape, polF1 x m a b, _, rfl, _, rfl, _, rfl, _, rfl, _, rfl, _, rfl, tb, _, rfl, d1, x, oy, kk, u1, r.mark, n, rs, r, ov, k, _, rfl, FI5.sh, fr, sub, lp, Wy.same ok s5, m1, m2, m3, t5 _ _ hkk, .inr (SqT.of hu1), kd, fun H6 s6 => ⟨_, rfl, ?_⟩⟩
      have s56 := s5.trans s6
      have p6 := L2.Paired.mapP p5 fun _ _ z => z.keep (.same s6)
      have esa : saJ rs P r q.2.2 n i k j = if fitB r (reachL rs P k) k ov n && sameB rs r wv ov n k (reachL rs P k) then [(("same", r.mark, n, ((i : Nat) : Int), ((j : Nat) : Int), k, k) : Ft)] else [] := by unfold saJ; rw [ewv, eov]
      rw [esa]
      cases ef : fitB r (reachL rs P k) k ov n with
      | false =>
        refine iteNo rfl (iteNo rfl ⟨_, _, _, fs, rfl, s56, s6 _ _ hf5, ?_⟩)
        rw [if_neg (by simp), List.append_nil]
        exact p6
      | true =>
        refine iteYes rfl ?_
        have t6 := s1.trans s56
        have FI6 := FI.same t6
        obtain ⟨u2, d2, hu2⟩ := FI6.get mk (t6 _ _ hkk)
        refine ⟨_, rfl, p, _, dp, _, _, rfl, t6 _ _ hp, T.cl_Policy, T.no_Policy_shape, polF1 x m a b, _, rfl, _, rfl, _, rfl, _, rfl, _, rfl, tb, _, rfl, d2, x, pl, wy, oy, u2, kk, r.mark, n, ((i : Nat) : Int), rs, r, wv, ov, k, _, rfl, FI6.sh, t6 _ _ hpl, fr, sub, lp, Wy.same wk s56, ⟨l1, l2, l3⟩, Wy.same ok s56, lo, t6 _ _ hkk, .inr (SqT.of hu2), kd, fun H7 s7 => ⟨_, rfl, ?_⟩⟩
        have s57 := s56.trans s7
        have p7 := L2.Paired.mapP p6 fun _ _ z => z.keep (.same s7)
        have hf7 := s7 _ _ (s6 _ _ hf5)
        cases es : sameB rs r wv ov n k (reachL rs P k) with
        | false =>
          refine iteNo rfl ⟨_, _, _, fs, rfl, s57, hf7, ?_⟩
          rw [if_neg (by simp), List.append_nil]
          exact p7
        | true =>
          refine iteYes rfl ⟨_, rfl, .inl ⟨rfl, _, SqL.of hf7⟩, _, rfl, _, rfl, _, rfl, _, rfl, _, rfl, _, rfl, by show 7 ≤ sizeLine; decide, fun tt ntt => ?_⟩
          have st := same_new (o := .tup [.str "same", .str r.mark, .int n, .int (i : Nat), .int (j : Nat), .ref kk, .ref kk]) ntt
          have hfa := st _ _ hf7
          have hka := st _ _ (s57 _ _ (s1 _ _ hkk))
          refine ⟨_, _, _, rfl, rfl, hfa, by omega, ?_⟩
          refine ⟨_, _, _, fs ++ [.ref tt], rfl, same_mut (s57.trans st) nf0, upd_same, ?_⟩
          rw [show (true && true) = true from rfl, if_pos (rfl : (true = true))]
          exact flt_app (L2.Paired.mapP p7 fun _ _ z => z.keep (.same st)) hfa ⟨tt, kk, kk, rfl, upd_same, hka, hka⟩
    rintro σ H4 ⟨x11, x12, x13, fs, rfl, s4, hf4, p4⟩
    rw [lvs] at p4
    have t4 := s1.trans s4
    have FI4 := FI.same t4
    have bl := pair_len' p4
    rw [List.length_append] at bl
    have b1 := aps_le (r := r) (n := n) (i := i) (k := k) F q.2.2 l8
    have b2 := sas_le (rs := rs) (P := P) (r := r) (n := n) (i := i) (k := k) q.2.2 l8
    have hcm : ∀ y, (valV ckv (kdK y)).isSome = decide (y ∈ joinL (linkB rs P) (kindsOf rs P) k) := fun y => by
      rw [Bool.eq_iff_iff, decide_eq_true_iff, joinL_iff ndk]; exact iff y
    unfold ftAt at qq
    -- begun
    refine ⟨_, rfl, p, dp, _, rfl, t4 _ _ hp, rfl, _, rfl, p, x, m, a, b, P, r.mark, q, rfl, FI4.pol, lz, fun H5 s5 => ⟨_, rfl, ?_⟩⟩
    have s45 := s4.trans s5
    have p5 := L2.Paired.mapP p4 fun _ _ z => z.keep (.same s5)
    have hf5 := s5 _ _ hf4
    have nff : ∀ {H' : Hp}, Same H1 H' → ∀ us, H' f0 = some (.lst us) → Paired (FtV H') us ((List.range q.2.2.length).flatMap (apJ rs P r q.2.2 n i k) ++ (List.range q.2.2.length).flatMap (saJ rs P r q.2.2 n i k) ++ beL rs P r q.2.1 n i k) → Q (.ref f0) H' := fun s us hu pu => qq f0 us _ (s1.trans s) (s1.free nf0) hu (by rw [← List.append_assoc]; exact pu)
    cases est : q.2.1 with
    | false =>
      refine iteNo rfl (iteNo rfl ⟨_, rfl, nff s45 fs hf5 ?_⟩)
      unfold beL; rw [est, if_neg (by simp), List.append_nil]
      exact p5
    | true =>
      refine iteYes rfl ?_
      refine ⟨_, rfl, by show 2 ≤ sizeLine; decide, fun kt nkt => ?_⟩
      have sk := same_new (o := .tup [.str r.mark, .str "own"]) nkt
      have hkt := upd_same (H := H5) (a := kt) (o := .tup [.str r.mark, .str "own"])
      revert sk hkt
      generalize upd H5 kt (.tup [.str r.mark, .str "own"]) = H6
      intro sk hkt
      have s46 := s45.trans sk
      have hf6 := sk _ _ hf5
      have p6 := L2.Paired.mapP p5 fun _ _ z => z.keep (.same sk)
      refine ⟨_, rfl, c, _, rfl, .inr ⟨ckv, kdK (r.mark, "own"), kt, .inl (s46 _ _ (s1 _ _ hc)), rfl, hkt, rfl⟩, ?_⟩
      rw [if_neg Bool.false_ne_true, hcm (r.mark, "own")]
      by_cases mj : ((r.mark, ("own" : Str)) : Kd) ∈ joinL (linkB rs P) (kindsOf rs P) k
      · refine ⟨_, rfl, iteYes (decide_eq_true mj) ⟨_, rfl, .inl ⟨rfl, _, SqL.of hf6⟩, _, rfl, _, rfl, _, rfl, ?_⟩⟩
        refine ⟨_, rfl, _, rfl, _, rfl, by show 2 ≤ sizeLine; decide, fun k2 nk2 => ?_⟩
        have sk2 := same_new (o := .tup [.str r.mark, .str "own"]) nk2
        have hk2 := upd_same (H := H6) (a := k2) (o := .tup [.str r.mark, .str "own"])
        revert sk2 hk2
        generalize upd H6 k2 (.tup [.str r.mark, .str "own"]) = H7
        intro sk2 hk2
        have s47 := s46.trans sk2
        have hf7 := sk2 _ _ hf6
        have p7 := L2.Paired.mapP p6 fun _ _ z => z.keep (.same sk2)
        refine ⟨by show 7 ≤ sizeLine; decide, fun tt ntt => ?_⟩
        have st := same_new (o := .tup [.str "begun", .str r.mark, .int n, .int (i : Nat), .int (-1), .ref kk, .ref k2]) ntt
        have hfa := st _ _ hf7
        have hka := st _ _ (s47 _ _ (s1 _ _ hkk))
        refine ⟨_, _, _, rfl, rfl, hfa, by omega, ?_⟩
        refine ⟨_, rfl, nff (same_mut (s47.trans st) nf0) _ upd_same ?_⟩
        unfold beL
        rw [est, decide_eq_true mj, if_pos (by rfl)]
        exact flt_app (L2.Paired.mapP p7 fun _ _ z => z.keep (.same st)) hfa ⟨tt, kk, k2, rfl, upd_same, hka, st _ _ hk2⟩
      · refine ⟨_, rfl, iteNo (decide_eq_false mj) ⟨_, rfl, nff s46 fs hf6 ?_⟩⟩
        unfold beL; rw [est, decide_eq_false mj, if_neg (by simp), List.append_nil]
        exact p6
end
end My

namespace L2
open PySem PySem.Spec PyProof.Rows GenW
theorem gfor_it {J : It} {n : Nat} {G : Hp → Prop} {Y : Nat → Hp → V → Hp → Prop} (w : Walk J n G Y) {g : TG} {tb : TGn} {D : GEnds} {ys : List V} {σ : St} {H : Hp} (Pv : Nat → List V → St → Hp → Prop) (h0 : Pv 0 ys σ H) (hG : ∀ i ys σ H, i ≤ n → Pv i ys σ H → G H)
    (hs : ∀ i x ys σ H H', i < n → Pv i ys σ H → Y i H x H' → g x σ H' fun σ2 H2 => tb { D with nx := Pv (i + 1), ct := Pv (i + 1), bk := D.nx } ys σ2 H2) (hd : ∀ ys σ H, Pv n ys σ H → D.nx ys σ H) :
    ∃ W : Nat → Nat → List V → St → Hp → Prop, (∃ m, W 0 m ys σ H) ∧ ∀ i m ys σ H, W i m ys σ H →
      (J.stop i H ∧ D.nx ys σ H) ∨ (J.go i H ∧ ∃ N : List V → St → Hp → Prop, (∀ ys' σ' H', N ys' σ' H' → ∃ m', m' < m ∧ W (i + 1) m' ys' σ' H') ∧ ∀ x H', J.yld i H x H' → g x σ H' fun σ2 H2 => tb { D with nx := N, ct := N, bk := D.nx } ys σ2 H2) := by
  refine ⟨fun i m ys σ H => m = n - i ∧ i ≤ n ∧ Pv i ys σ H, ⟨n, by simp, Nat.zero_le _, h0⟩, fun i m ys σ H hW => ?_⟩
  obtain ⟨em, hi, p⟩ := hW
  have q := hG i ys σ H hi p
  by_cases lt : i < n
  · exact .inr ⟨w.goes i H lt q, Pv (i + 1), fun ys' σ' H' p' => ⟨n - (i + 1), by omega, rfl, lt, p'⟩, fun x H' y => hs i x ys σ H H' lt p (w.yields i H x H' lt q y)⟩
  · have e : i = n := by omega
    subst e
    exact .inl ⟨w.stops H q, hd ys σ H p⟩
theorem walk_enumT {K : PySem.W.Frag} {a : Addr} {xs : List V} : Walk (ItuE K a) xs.length (fun H => SqT K H a xs) (fun i H v H' => ∃ T x, v = .ref T ∧ H T = none ∧ H' = upd H T (.tup [.int (i : Nat), x]) ∧ xs[i]? = some x) := by
  refine ⟨fun i _ hi q => ⟨xs, xs[i], q, List.getElem?_eq_getElem hi⟩, fun _ q => ⟨xs, q, Nat.le_refl _⟩, fun i H v H' _ q y => ?_⟩
  obtain ⟨T, x', ev, nT, eH, hx⟩ := y
  exact ⟨T, x', ev, nT, eH, hx xs q⟩
end L2

namespace My
open PySem L2
def spFaults (Cp Cw Cs : Addr) : SpG := fun vs H Q _ => ∃ (p x m a b : Addr) (P : List Rl) (rs : List Row), vs = [.ref p] ∧ Pol Cp Cw H p x m a b P ∧ ShO Cs H x rs ∧ GoodC rs ∧ wordsOk rs ∧ P.map (·.1) = mks rs ∧ OkW P ∧ Few rs P ∧ ∀ us H', Same H H' → Paired (FtV H') us (faultsL rs P) → Q us H'
def spFaultsF (Cp Cw Cs : Addr) : SpF := fun vs H Yl En => ∃ (p x m a b : Addr) (P : List Rl) (rs : List Row), vs = [.ref p] ∧ Pol Cp Cw H p x m a b P ∧ ShO Cs H x rs ∧ GoodC rs ∧ wordsOk rs ∧ P.map (·.1) = mks rs ∧ OkW P ∧ Few rs P ∧ (faultsL rs P ≠ [] → ∀ v H', Same H H' → Yl v H') ∧ (faultsL rs P = [] → ∀ H', Same H H' → En H')
theorem faults_nil {rs : List Row} {P : List Rl} {r : Row} {q : Rl} {k : Kd} {c i : Nat} (h : faultsL rs P = []) (mr : r ∈ rs) (lz : lookR P r.mark = some q) (hc : c < (r.most + 1 - r.least).toNat) (hi : i < q.2.2.length) (e : (wAt q.2.2 i).2.2.2 = false) (mk : k ∈ kindsOf rs P) (ef : fitB r (reachL rs P k) k (wAt q.2.2 i) (r.least + ((c : Nat) : Int)) = true) : ftAt rs P r q (r.least + ((c : Nat) : Int)) i k = [] := by
  have h1 := List.flatMap_eq_nil_iff.mp h r mr
  have h2 := List.flatMap_eq_nil_iff.mp h1 c (List.mem_range.mpr hc)
  have er : rlOf P r.mark = q := by unfold rlOf; rw [lz]; rfl
  rw [er] at h2
  have h3 := List.flatMap_eq_nil_iff.mp h2 i (List.mem_range.mpr hi)
  unfold ftI at h3
  rw [e, if_neg (by simp)] at h3
  have h4 := List.flatMap_eq_nil_iff.mp h3 k mk
  unfold ftK at h4
  rwa [if_pos ef] at h4
theorem pair_nil {α β : Type} {F : α → β → Prop} {l : List α} {m : List β} (h : Paired F l m) (e : m = []) : l = [] := by
  subst e; cases h; rfl
section
variable {w : World} {K : PySem.W.Frag} {mg : Str → Option Value} {base : Heap}
set_option maxHeartbeats 32000000 in
set_option pp.maxSteps 700 in
theorem okF_faults (T : Txt K mg) : GFnF PP w K mg base 30 T.a_faults T.fd_faults ["policy"] (spFaultsF T.c_Policy T.c_Way T.c_Shape) := by
  refine T.F_faults.genF sc_faults (fun vs H Yl En h => ?_) (fun cdv A outer s H vs Yl En hr h => ?_)
  · obtain ⟨p, x, m, a, b, P, rs, rfl, _⟩ := h; rfl
  · obtain ⟨p, x, m, a, b, P, rs, rfl, hP, S, g, wo, eP, okP, F, q1, q2⟩ := h
    refine ⟨_, (gfs_cons (gf_ps (ps_set (i := 1) sc_faults.nd rfl (.inl rfl) (pe_call (ok_reaches T) (hr.mono (by omega)) (by rfl) T.g_reaches T.F_reaches.kp T.b_reaches .nil pass0 (pa_cons (pv 0) pa_nil))))
      (gfs_cons (gf_ps (ps_set (i := 2) sc_faults.nd rfl (.inl rfl) (pe_call (ok_neighbours T) (hr.mono (by omega)) (by rfl) T.g_neighbours T.F_neighbours.kp T.b_neighbours .nil pass0 (pa_cons (pv 0) (pa_cons (pv 1) pa_nil)))))
      (gfs_cons (gf_for (passes_of rfl) rfl (pi_own T.m_Shape_iter (ok_Shape_iter T) (hr.mono (by omega)) (pe_fld (pv 0) rfl)) (pg_name (i := 3) sc_faults.nd rfl (.inl rfl)) (gfs_cons (gf_ps (ps_set (i := 4) sc_faults.nd rfl (.inl rfl) (pe_getI T.m_Shape_getitem T.fi_Shape_getitem ((ok_Shape_getitem T).calm) (hr.mono (by omega)) T.b_Shape_getitem pass0 (pe_fld (pv 0) rfl) (pv 3))))
      (gfs_cons (gf_for (passes_of rfl) rfl (pi_range2 (by rfl) T.n_range (pa_cons (pe_ix ix_tup (pv 4) (pe_int) (fun _ _ => rfl)) (pa_cons (pe_op op_add (pe_ix ix_tup (pv 4) (pe_int) (fun _ _ => rfl)) (pe_int)) pa_nil))) (pg_name (i := 5) sc_faults.nd rfl (.inl rfl)) (gfs_cons (gf_for (passes_of rfl) rfl (pi_enumT (by rfl) T.n_enumerate (pa_cons (pe_meth (pv 0) T.cl_Policy T.m_Policy_ways_of (ok_Policy_ways_of T) (hr.mono (by omega)) T.b_Policy_ways_of .nil pass0 (pa_cons (pv 3) pa_nil)) pa_nil)) (pg_tup rfl (pgs_cons (pg_name (i := 6) sc_faults.nd rfl (.inl rfl)) (pgs_cons (pg_name (i := 7) sc_faults.nd rfl (.inl rfl)) pgs_nil))) (gfs_cons (gf_if (pt_not (pt_val (pe_fld (pv 7) rfl))) (gfs_cons (gf_lock (gf_for (passes_of rfl) rfl (pi_keys (pv 1)) (pg_name (i := 8) sc_faults.nd rfl (.inl rfl)) (gfs_cons (gf_if (pt_val (pe_call (ok_fits T) (hr.mono (by omega)) (by rfl) T.g_fits T.F_fits.kp T.b_fits .nil pass0 (pa_cons (pe_fld (pv 0) rfl) (pa_cons (pv 7) (pa_cons (pv 3) (pa_cons (pv 5) (pa_cons (pv 8) (pa_cons (pe_dget (hu_of hr) (pv 1) (pv 8) (fun _ _ => rfl)) pa_nil)))))))) (gfs_cons (gf_for (passes_of rfl) rfl (pi_list (pe_call (ok_faults_at T) (hr.mono (by omega)) (by rfl) T.g_faults_at T.F_faults_at.kp T.b_faults_at .nil pass0 (pa_cons (pv 0) (pa_cons (pv 1) (pa_cons (pe_call (ok_ahead_of T (linkB rs P)) (hr.mono (by omega)) (by rfl) T.g_ahead_of T.F_ahead_of.kp T.b_ahead_of .nil pass0 (pa_cons (pv 8) (pa_cons (pv 2) pa_nil))) (pa_cons (pe_tup (pa_cons (pv 3) (pa_cons (pv 5) (pa_cons (pv 6) (pa_cons (pv 8) pa_nil))))) pa_nil)))))) (pg_name (i := 9) sc_faults.nd rfl (.inl rfl)) (gfs_cons (gf_yield (pv 9))
      gfs_nil))
      gfs_nil) gfs_nil)
      gfs_nil)))
      gfs_nil) gfs_nil)
      gfs_nil))
      gfs_nil))
      gfs_nil)))
      gfs_nil))), ?_⟩
    have big : 1000000 < sizeLine := by decide
    obtain ⟨dp, hp⟩ := hP.obj
    obtain ⟨dx, sl, sm, us0, hx, hsl, hrT, hsm⟩ := id S
    have ndk := kinds_nd (rs := rs) hP.nd
    have l6 := g.len
    have lks := F.ks
    refine ⟨_, rfl, p, x, m, a, b, P, rs, rfl, hP, S, g, eP, okP, fun gd kvs H1 s1 ngd hgd pk => ?_⟩
    have lkv := pair_len' pk
    refine ⟨_, rfl, _, rfl, p, x, m, a, b, gd, P, rs, kvs, rfl, hP.same s1, S.same s1, g, eP, okP, hgd, pk, fun nb nkv H2 s2 nnb hnb pn => ?_⟩
    have s12 := s1.trans s2
    have hgd2 := s2 _ _ hgd
    have pk2 := L2.Paired.mapP pk fun _ _ h => h.same s2
    have nbg : nb ≠ gd := fun z => by rw [z, hgd] at nnb; cases nnb
    refine ⟨_, rfl, p, _, dp, _, _, rfl, s12 _ _ hp, T.cl_Policy, T.no_Policy_shape, polF1 x m a b, x, dx, sm, _, _, rfl, s12 _ _ hx, sh_look2 _ _, SqL.of (s12 _ _ hsm), for_it (walk_list (K := K) (a := sm) (xs := mksV rs)) (fun i σ H' => ∃ (x3 x4 x5 x6 x7 x8 x9 : Option V), σ = [some (.ref p), some (.ref gd), some (.ref nb), x3, x4, x5, x6, x7, x8, x9] ∧ Same H2 H' ∧ (rs.take i).flatMap (ftR rs P) = []) ⟨_, _, _, _, _, _, _, rfl, Same.refl _, rfl⟩ (fun i σ H' _ ⟨_, _, _, _, _, _, _, _, s, _⟩ => SqL.of (s _ _ (s12 _ _ hsm))) ?_ ?_⟩
    rotate_left
    · rintro σ H3 ⟨x3, x4, x5, x6, x7, x8, x9, rfl, s3, e3⟩
      rw [show (mksV rs).length = rs.length by unfold mksV; rw [List.length_map], List.take_length] at e3
      exact q2 e3 H3 (s12.trans s3)
    rintro i v σ Hz H3 hi ⟨x3, x4, x5, x6, x7, x8, x9, rfl, s3, e3⟩ ⟨rfl, hv⟩
    obtain ⟨r, hr1, rfl⟩ : ∃ r, rs[i]? = some r ∧ v = .str r.mark := by
      unfold mksV at hv
      rw [List.getElem?_map] at hv
      cases e : rs[i]? with
      | none => rw [e] at hv; cases hv
      | some r => rw [e] at hv; exact ⟨r, rfl, (Option.some.inj hv).symm⟩
    have mr := List.mem_of_getElem? hr1
    obtain ⟨q, lz, mq, eq⟩ := look_mark hP.nd eP mr
    have er : rlOf P r.mark = q := by unfold rlOf; rw [lz]; rfl
    have fr := findR_nd g.nd hr1
    obtain ⟨z0, z1, z2⟩ := good_sizes g mr
    have sub := g.pars r mr
    have lp : r.pars.length ≤ 1000 := by have := (g.bnd r mr).2; omega
    have okw := (okP q mq).1
    have l8 := F.ws q mq
    have t3 := s12.trans s3
    refine ⟨_, rfl, p, _, dp, _, _, rfl, t3 _ _ hp, T.cl_Policy, T.no_Policy_shape, polF1 x m a b, _, rfl, x, dx, _, rfl, t3 _ _ hx, x, r.mark, rs, rfl, S.same t3, fun r' row pp fr' hrow hpp => ?_, fun e => by rw [fr] at e; cases e⟩
    rw [fr] at fr'
    obtain rfl := Option.some.inj fr'
    have eR : ftR rs P r = (List.range (r.most + 1 - r.least).toNat).flatMap fun c => ftN rs P r q (r.least + ((c : Nat) : Int)) := by unfold ftR; rw [er]
    refine ⟨_, rfl, _, _, _, _, rfl, rfl, SqT.of hrow, atI_nat (j := 2) rfl, _, rfl, _, _, _, _, rfl, rfl, SqT.of hrow, atI_nat (j := 3) rfl, _, _, rfl, rfl, r.least, r.most + 1, rfl, ⟨by omega, by omega, by omega, by omega⟩, for_it walk_range (fun c σ H' => ∃ (x5 x6 x7 x8 x9 : Option V), σ = [some (.ref p), some (.ref gd), some (.ref nb), some (.str r.mark), some (.ref row), x5, x6, x7, x8, x9] ∧ Same H2 H' ∧ (List.range c).flatMap (fun c => ftN rs P r q (r.least + ((c : Nat) : Int))) = []) ⟨_, _, _, _, _, rfl, s3, rfl⟩ (fun _ _ _ _ _ => trivial) ?_ ?_⟩
    rotate_left
    · rintro σ H4 ⟨x5, x6, x7, x8, x9, rfl, s4, e4⟩
      exact ⟨_, _, _, _, _, _, _, rfl, s4, by rw [take_flat _ hr1, e3, eR, e4]; rfl⟩
    rintro c v σ Hz H4 hc ⟨x5, x6, x7, x8, x9, rfl, s4, e4⟩ ⟨rfl, rfl⟩
    obtain ⟨n, en⟩ : ∃ n : Int, n = r.least + ((c : Nat) : Int) := ⟨_, rfl⟩
    show gName 5 (.int (r.least + ((c : Nat) : Int))) _ _ _
    rw [← en]
    have t4 := s12.trans s4
    refine ⟨_, rfl, p, dp, _, rfl, t4 _ _ hp, rfl, _, rfl, p, x, m, a, b, P, r.mark, q, rfl, hP.same t4, lz, fun t H5 s5 ⟨vs, ht, pw⟩ => ⟨t, vs, rfl, SqT.of ht, for_enumT (K := K) (a := t) (xs := vs) (fun j σ H' => ∃ (x6 x7 x8 x9 : Option V), σ = [some (.ref p), some (.ref gd), some (.ref nb), some (.str r.mark), some (.ref row), some (.int n), x6, x7, x8, x9] ∧ Same H5 H' ∧ (List.range j).flatMap (ftI rs P r q n) = []) ⟨_, _, _, _, rfl, Same.refl _, rfl⟩ (fun j σ H' _ ⟨_, _, _, _, _, s, _⟩ => SqT.of (s _ _ ht)) ?_ ?_⟩⟩
    rotate_left
    · rintro σ H6 ⟨x6, x7, x8, x9, rfl, s6, e6⟩
      rw [pair_len' pw] at e6
      exact ⟨_, _, _, _, _, rfl, (s4.trans s5).trans s6, by rw [rng_flat, e4, ← en]; exact e6⟩
    rintro j v σ H6 TT hv ⟨x6, x7, x8, x9, rfl, s6, e6⟩ nT
    have lvs := pair_len' pw
    obtain ⟨wv, hwv, wy, rfl, wk⟩ := pair_get' pw hv
    have ewv : wAt q.2.2 j = wv := wAt_of hwv
    have lj := (List.getElem?_eq_some_iff.mp hwv).1
    obtain ⟨l1, l2, l3⟩ := okw wv (List.mem_of_getElem? hwv)
    obtain ⟨dw, hw⟩ := id wk
    have sT := same_new (o := .tup [.int (j : Nat), .ref wy]) nT
    refine ⟨TT, _, rfl, .inl (.inl upd_same), rfl, _, _, rfl, _, _, rfl, rfl, ?_⟩
    have s7 := s6.trans sT
    revert s7
    generalize upd H6 TT (.tup [.int (j : Nat), .ref wy]) = H7
    intro s7
    have u7 := (s4.trans s5).trans s7
    have t7 := s12.trans u7
    have hgd7 := u7 _ _ hgd2
    rw [rng_flat]
    have eI : ftI rs P r q n j = if wv.2.2.2 then [] else (kindsOf rs P).flatMap (ftK rs P r q n j) := by unfold ftI; rw [ewv]
    rw [eI]
    refine ⟨_, rfl, wy, _, dw, _, _, rfl, s7 _ _ hw, T.cl_Way, T.no_Way_early, rfl, _, rfl, ?_⟩
    cases ee : wv.2.2.2 with
    | true => exact iteNo rfl ⟨_, _, _, _, rfl, s7, by rw [e6]; rfl⟩
    | false =>
    refine iteYes rfl ?_
    rw [if_neg (by simp), e6, List.nil_append]
    -- the kinds: the table is locked
    refine ⟨gd, _, hgd7, trivial, fun od => ?_⟩
    have f8 : (upd H7 gd (.frz od (.dT kvs))) gd = some (.frz od (.dT kvs)) := upd_same
    have b8 : ∀ c o, c ≠ gd → H7 c = some o → (upd H7 gd (.frz od (.dT kvs))) c = some o := fun c o n h => by rw [upd_ne n]; exact h
    have t8 : Same H (upd H7 gd (.frz od (.dT kvs))) := same_mut t7 ngd
    have p8 := L2.Paired.mapP pk2 fun kv k (h : TabV .tup rs P H2 kv k) => (show TabV .tup rs P (upd H7 gd (.frz od (.dT kvs))) kv k from let ⟨e, u, eu, hu⟩ := h; ⟨e, u, eu, b8 _ _ (fun z => by rw [z, hgd2] at hu; cases hu) (u7 _ _ hu)⟩)
    have n8 := L2.Paired.mapP pn fun kv k (h : NearV (linkB rs P) (kindsOf rs P) H2 kv k) => (show NearV (linkB rs P) (kindsOf rs P) (upd H7 gd (.frz od (.dT kvs))) kv k from let ⟨e, u, vs, eu, hu, pv⟩ := h; ⟨e, u, vs, eu, b8 _ _ (fun z => by rw [z, hgd2] at hu; cases hu) (u7 _ _ hu), L2.Paired.mapP pv fun _ _ ⟨y, ey, hy⟩ => ⟨y, ey, b8 _ _ (fun z => by rw [z, hgd2] at hy; cases hy) (u7 _ _ hy)⟩⟩)
    have hnb8 := b8 _ _ nbg (u7 _ _ hnb)
    have w8 : Wy T.c_Way (upd H7 gd (.frz od (.dT kvs))) wy wv.1 wv.2.1 wv.2.2.1 wv.2.2.2 := ⟨dw, b8 _ _ (fun z => by rw [z] at hw; have := s7 _ _ hw; rw [hgd7] at this; cases this) (s7 _ _ hw)⟩
    have unl : ∀ {H' : Hp}, Same (upd H7 gd (.frz od (.dT kvs))) H' → Same H5 (upd H' gd (.dT kvs)) := fun {H'} s c o h => by
      by_cases e : c = gd
      · rw [e, upd_same]
        rw [e, (s4.trans s5) _ _ hgd2] at h
        exact h
      · rw [upd_ne e]; exact s _ _ (b8 _ _ e (s7 _ _ h))
    revert f8 b8 t8 p8 n8 hnb8 w8 unl
    generalize upd H7 gd (.frz od (.dT kvs)) = H8
    intro f8 b8 t8 p8 n8 hnb8 w8 unl
    refine ⟨_, rfl, gd, od, rfl, .inr ⟨kvs, f8, for_it walk_keysT (fun l σ H' => ∃ (x8 x9 : Option V), σ = [some (.ref p), some (.ref gd), some (.ref nb), some (.str r.mark), some (.ref row), some (.int n), some (.int (j : Nat)), some (.ref wy), x8, x9] ∧ Same H8 H' ∧ ((kindsOf rs P).take l).flatMap (ftK rs P r q n j) = []) ⟨_, _, rfl, Same.refl _, rfl⟩ (fun l σ H' _ ⟨_, _, _, s, _⟩ => s _ _ f8) ?_ ?_⟩⟩
    rotate_left
    · rintro σ H9 ⟨x8, x9, rfl, s9, e9⟩
      rw [lkv, List.take_length] at e9
      exact ⟨s9 _ _ f8, _, _, _, _, rfl, unl s9, e9⟩
    rintro l v σ H9 Ha hl ⟨x8, x9, rfl, s9, e9⟩ ⟨rfl, k0, v', qa, ek, rfl, hqa⟩
    obtain ⟨k, hk, ek1, _⟩ := pair_get' pk ek
    have ek1 : k0 = kdK k := ek1
    subst ek1
    have hqa : Ha qa = some (.tup [.str k.1, .str k.2]) := hqa
    have mk := List.mem_of_getElem? hk
    have t9 := t8.trans s9
    have FI : FtIn T.c_Policy T.c_Way T.c_Shape Ha p x m a b gd od P rs kvs := ⟨hP.same t9, S.same t9, s9 _ _ f8, L2.Paired.mapP p8 fun _ _ h => h.same s9⟩
    obtain ⟨u1, d1, hu1⟩ := FI.get mk hqa
    rw [take_flat _ hk, e9, List.nil_append]
    refine ⟨_, rfl, p, _, dp, _, _, rfl, t9 _ _ hp, T.cl_Policy, T.no_Policy_shape, polF1 x m a b, _, rfl, _, rfl, _, rfl, _, rfl, _, rfl, _, rfl, gd, _, rfl, d1, x, wy, qa, u1, r.mark, n, rs, r, wv, k, _, rfl, FI.sh, fr, sub, lp, Wy.same w8 s9, l1, l2, l3, hqa, .inr (SqT.of hu1), kinds_ok mk, fun Hb sb => ⟨_, rfl, ?_⟩⟩
    have eK : ftK rs P r q n j k = if fitB r (reachL rs P k) k wv n then ftAt rs P r q n j k else [] := by unfold ftK; rw [ewv]
    rw [eK]
    have s9b := s9.trans sb
    cases ef : fitB r (reachL rs P k) k wv n with
    | false => exact iteNo rfl ⟨_, _, rfl, s9b, rfl⟩
    | true =>
    refine iteYes rfl ?_
    rw [if_pos rfl]
    refine ⟨_, rfl, _, rfl, _, rfl, _, rfl, qa, nb, k, kindsOf rs P, nkv, rfl, sb _ _ hqa, s9b _ _ hnb8, L2.Paired.mapP n8 fun _ _ h => NearV.same h s9b, mk, (fun z hz => kinds_word wo eP hz), by omega, fun ca ckv Hc sc nca hca iff => ?_⟩
    refine ⟨_, rfl, _, rfl, _, rfl, _, rfl, by show 4 ≤ sizeLine; decide, fun pl npl => ?_⟩
    have sp := same_new (o := .tup [.str r.mark, .int n, .int (j : Nat), .ref qa]) npl
    have hpl := upd_same (H := Hc) (a := pl) (o := .tup [.str r.mark, .int n, .int (j : Nat), .ref qa])
    revert sp hpl
    generalize upd Hc pl (.tup [.str r.mark, .int n, .int (j : Nat), .ref qa]) = Hd
    intro sp hpl
    have sbd := (sb.trans sc).trans sp
    have s8d := s9.trans sbd
    have t8d := t8.trans s8d
    refine ⟨p, x, m, a, b, gd, ca, pl, qa, od, P, rs, kvs, ckv, r, q, n, j, k, rfl, FI.same sbd, g, eP, okP, F, sp _ _ hca, iff, hpl, sbd _ _ hqa, mk, mr, fr, lz, mq, lj, fun u us He se nu hu pu => ?_⟩
    have lus := pair_len' pu
    refine ⟨u, rfl, ⟨_, SqL.of hu⟩, for_it (walk_list (K := K) (a := u) (xs := us)) (fun l σ H' => l = 0 ∧ H' = He ∧ σ = [some (.ref p), some (.ref gd), some (.ref nb), some (.str r.mark), some (.ref row), some (.int n), some (.int (j : Nat)), some (.ref wy), some (.ref qa), x9] ∧ True) ⟨rfl, rfl, rfl, trivial⟩ (fun l σ H' _ ⟨_, h, _⟩ => h ▸ SqL.of hu) ?_ ?_⟩
    · rintro l v σ Hz H' hl ⟨rfl, rfl, rfl, _⟩ ⟨rfl, hv⟩
      have ne : faultsL rs P ≠ [] := fun z => by
        have := pair_nil pu (by rw [en]; exact faults_nil z mr lz hc lj (by rw [ewv]; exact ee) mk (by rw [ewv, ← en]; exact ef))
        rw [this] at hl; exact absurd hl (Nat.not_lt_zero _)
      exact ⟨_, rfl, q1 ne _ _ (t8d.trans se)⟩
    · rintro σ H' ⟨l0, rfl, rfl, _⟩
      exact ⟨_, _, rfl, s8d.trans se, List.eq_nil_of_length_eq_zero (by omega)⟩
end
end My

namespace My
open PySem L2
section
variable {w : World} {K : PySem.W.Frag} {mg : Str → Option Value} {base : Heap}
set_option maxHeartbeats 32000000 in
set_option pp.maxSteps 700 in
theorem ok_faults (T : Txt K mg) : GFn PP w K mg base 30 T.a_faults T.fd_faults ["policy"] (spFaults T.c_Policy T.c_Way T.c_Shape) := by
  refine T.F_faults.gen sc_faults (fun vs H Q E h => ?_) (fun cdv A outer s H vs Q E pn hr h => ?_)
  · obtain ⟨p, x, m, a, b, P, rs, rfl, _⟩ := h; rfl
  · obtain ⟨p, x, m, a, b, P, rs, rfl, hP, S, g, wo, eP, okP, F, qq⟩ := h
    refine ⟨_, (gss_cons (gs_ps (ps_set (i := 1) sc_faults.nd rfl (.inl rfl) (pe_call (ok_reaches T) (hr.mono (by omega)) (by rfl) T.g_reaches T.F_reaches.kp T.b_reaches .nil pass0 (pa_cons (pv 0) pa_nil))))
      (gss_cons (gs_ps (ps_set (i := 2) sc_faults.nd rfl (.inl rfl) (pe_call (ok_neighbours T) (hr.mono (by omega)) (by rfl) T.g_neighbours T.F_neighbours.kp T.b_neighbours .nil pass0 (pa_cons (pv 0) (pa_cons (pv 1) pa_nil)))))
      (gss_cons (gs_for (passes_of rfl) rfl (pi_own T.m_Shape_iter (ok_Shape_iter T) (hr.mono (by omega)) (pe_fld (pv 0) rfl)) (pg_name (i := 3) sc_faults.nd rfl (.inl rfl)) (gss_cons (gs_ps (ps_set (i := 4) sc_faults.nd rfl (.inl rfl) (pe_getI T.m_Shape_getitem T.fi_Shape_getitem ((ok_Shape_getitem T).calm) (hr.mono (by omega)) T.b_Shape_getitem pass0 (pe_fld (pv 0) rfl) (pv 3))))
      (gss_cons (gs_for (passes_of rfl) rfl (pi_range2 (by rfl) T.n_range (pa_cons (pe_ix ix_tup (pv 4) (pe_int) (fun _ _ => rfl)) (pa_cons (pe_op op_add (pe_ix ix_tup (pv 4) (pe_int) (fun _ _ => rfl)) (pe_int)) pa_nil))) (pg_name (i := 5) sc_faults.nd rfl (.inl rfl)) (gss_cons (gs_for (passes_of rfl) rfl (pi_enumT (by rfl) T.n_enumerate (pa_cons (pe_meth (pv 0) T.cl_Policy T.m_Policy_ways_of (ok_Policy_ways_of T) (hr.mono (by omega)) T.b_Policy_ways_of .nil pass0 (pa_cons (pv 3) pa_nil)) pa_nil)) (pg_tup rfl (pgs_cons (pg_name (i := 6) sc_faults.nd rfl (.inl rfl)) (pgs_cons (pg_name (i := 7) sc_faults.nd rfl (.inl rfl)) pgs_nil))) (gss_cons (gs_if (pt_not (pt_val (pe_fld (pv 7) rfl))) (gss_cons (gs_lock (gs_for (passes_of rfl) rfl (pi_keys (pv 1)) (pg_name (i := 8) sc_faults.nd rfl (.inl rfl)) (gss_cons (gs_if (pt_val (pe_call (ok_fits T) (hr.mono (by omega)) (by rfl) T.g_fits T.F_fits.kp T.b_fits .nil pass0 (pa_cons (pe_fld (pv 0) rfl) (pa_cons (pv 7) (pa_cons (pv 3) (pa_cons (pv 5) (pa_cons (pv 8) (pa_cons (pe_dget (hu_of hr) (pv 1) (pv 8) (fun _ _ => rfl)) pa_nil)))))))) (gss_cons (gs_for (passes_of rfl) rfl (pi_list (pe_call (ok_faults_at T) (hr.mono (by omega)) (by rfl) T.g_faults_at T.F_faults_at.kp T.b_faults_at .nil pass0 (pa_cons (pv 0) (pa_cons (pv 1) (pa_cons (pe_call (ok_ahead_of T (linkB rs P)) (hr.mono (by omega)) (by rfl) T.g_ahead_of T.F_ahead_of.kp T.b_ahead_of .nil pass0 (pa_cons (pv 8) (pa_cons (pv 2) pa_nil))) (pa_cons (pe_tup (pa_cons (pv 3) (pa_cons (pv 5) (pa_cons (pv 6) (pa_cons (pv 8) pa_nil))))) pa_nil)))))) (pg_name (i := 9) sc_faults.nd rfl (.inl rfl)) (gss_cons (gs_yield (pv 9))
      gss_nil))
      gss_nil) gss_nil)
      gss_nil)))
      gss_nil) gss_nil)
      gss_nil))
      gss_nil))
      gss_nil)))
      gss_nil))), ?_⟩
    have big : 1000000 < sizeLine := by decide
    obtain ⟨dp, hp⟩ := hP.obj
    obtain ⟨dx, sl, sm, us0, hx, hsl, hrT, hsm⟩ := id S
    have ndk := kinds_nd (rs := rs) hP.nd
    have l6 := g.len
    have lks := F.ks
    refine ⟨_, rfl, p, x, m, a, b, P, rs, rfl, hP, S, g, eP, okP, fun gd kvs H1 s1 ngd hgd pk => ?_⟩
    have lkv := pair_len' pk
    refine ⟨_, rfl, _, rfl, p, x, m, a, b, gd, P, rs, kvs, rfl, hP.same s1, S.same s1, g, eP, okP, hgd, pk, fun nb nkv H2 s2 nnb hnb pn => ?_⟩
    have s12 := s1.trans s2
    have hgd2 := s2 _ _ hgd
    have pk2 := L2.Paired.mapP pk fun _ _ h => h.same s2
    have nbg : nb ≠ gd := fun z => by rw [z, hgd] at nnb; cases nnb
    refine ⟨_, rfl, p, _, dp, _, _, rfl, s12 _ _ hp, T.cl_Policy, T.no_Policy_shape, polF1 x m a b, x, dx, sm, _, _, rfl, s12 _ _ hx, sh_look2 _ _, SqL.of (s12 _ _ hsm), gfor_it (walk_list (K := K) (a := sm) (xs := mksV rs)) (fun i ys σ H' => ∃ (x3 x4 x5 x6 x7 x8 x9 : Option V), σ = [some (.ref p), some (.ref gd), some (.ref nb), x3, x4, x5, x6, x7, x8, x9] ∧ Same H2 H' ∧ Paired (FtV H') ys ((rs.take i).flatMap (ftR rs P))) ⟨_, _, _, _, _, _, _, rfl, Same.refl _, .nil⟩ (fun i ys σ H' _ ⟨_, _, _, _, _, _, _, _, s, _⟩ => SqL.of (s _ _ (s12 _ _ hsm))) ?_ ?_⟩
    rotate_left
    · rintro ys σ H3 ⟨x3, x4, x5, x6, x7, x8, x9, rfl, s3, e3⟩
      rw [show (mksV rs).length = rs.length by unfold mksV; rw [List.length_map], List.take_length] at e3
      exact qq ys H3 (s12.trans s3) e3
    rintro i v ys0 σ Hz H3 hi ⟨x3, x4, x5, x6, x7, x8, x9, rfl, s3, e3⟩ ⟨rfl, hv⟩
    obtain ⟨r, hr1, rfl⟩ : ∃ r, rs[i]? = some r ∧ v = .str r.mark := by
      unfold mksV at hv
      rw [List.getElem?_map] at hv
      cases e : rs[i]? with
      | none => rw [e] at hv; cases hv
      | some r => rw [e] at hv; exact ⟨r, rfl, (Option.some.inj hv).symm⟩
    have mr := List.mem_of_getElem? hr1
    obtain ⟨q, lz, mq, eq⟩ := look_mark hP.nd eP mr
    have er : rlOf P r.mark = q := by unfold rlOf; rw [lz]; rfl
    have fr := findR_nd g.nd hr1
    obtain ⟨z0, z1, z2⟩ := good_sizes g mr
    have sub := g.pars r mr
    have lp : r.pars.length ≤ 1000 := by have := (g.bnd r mr).2; omega
    have okw := (okP q mq).1
    have l8 := F.ws q mq
    have t3 := s12.trans s3
    refine ⟨_, rfl, p, _, dp, _, _, rfl, t3 _ _ hp, T.cl_Policy, T.no_Policy_shape, polF1 x m a b, _, rfl, x, dx, _, rfl, t3 _ _ hx, x, r.mark, rs, rfl, S.same t3, fun r' row pp fr' hrow hpp => ?_, fun e => by rw [fr] at e; cases e⟩
    rw [fr] at fr'
    obtain rfl := Option.some.inj fr'
    have eR : ftR rs P r = (List.range (r.most + 1 - r.least).toNat).flatMap fun c => ftN rs P r q (r.least + ((c : Nat) : Int)) := by unfold ftR; rw [er]
    refine ⟨_, rfl, _, _, _, _, rfl, rfl, SqT.of hrow, atI_nat (j := 2) rfl, _, rfl, _, _, _, _, rfl, rfl, SqT.of hrow, atI_nat (j := 3) rfl, _, _, rfl, rfl, r.least, r.most + 1, rfl, ⟨by omega, by omega, by omega, by omega⟩, gfor_it walk_range (fun c ys σ H' => ∃ (x5 x6 x7 x8 x9 : Option V), σ = [some (.ref p), some (.ref gd), some (.ref nb), some (.str r.mark), some (.ref row), x5, x6, x7, x8, x9] ∧ Same H2 H' ∧ Paired (FtV H') ys ((rs.take i).flatMap (ftR rs P) ++ (List.range c).flatMap (fun c => ftN rs P r q (r.least + ((c : Nat) : Int))))) ⟨_, _, _, _, _, rfl, s3, by simpa using e3⟩ (fun _ _ _ _ _ _ => trivial) ?_ ?_⟩
    rotate_left
    · rintro ys σ H4 ⟨x5, x6, x7, x8, x9, rfl, s4, e4⟩
      exact ⟨_, _, _, _, _, _, _, rfl, s4, by rw [take_flat _ hr1, eR]; exact e4⟩
    rintro c v ys1 σ Hz H4 hc ⟨x5, x6, x7, x8, x9, rfl, s4, e4⟩ ⟨rfl, rfl⟩
    obtain ⟨n, en⟩ : ∃ n : Int, n = r.least + ((c : Nat) : Int) := ⟨_, rfl⟩
    show gName 5 (.int (r.least + ((c : Nat) : Int))) _ _ _
    rw [← en]
    have t4 := s12.trans s4
    refine ⟨_, rfl, p, dp, _, rfl, t4 _ _ hp, rfl, _, rfl, p, x, m, a, b, P, r.mark, q, rfl, hP.same t4, lz, fun t H5 s5 ⟨vs, ht, pw⟩ => ⟨t, vs, rfl, SqT.of ht, gfor_it (walk_enumT (K := K) (a := t) (xs := vs)) (fun j ys σ H' => ∃ (x6 x7 x8 x9 : Option V), σ = [some (.ref p), some (.ref gd), some (.ref nb), some (.str r.mark), some (.ref row), some (.int n), x6, x7, x8, x9] ∧ Same H5 H' ∧ Paired (FtV H') ys (((rs.take i).flatMap (ftR rs P) ++ (List.range c).flatMap (fun c => ftN rs P r q (r.least + ((c : Nat) : Int)))) ++ (List.range j).flatMap (ftI rs P r q n))) ⟨_, _, _, _, rfl, Same.refl _, by rw [List.range_zero, List.flatMap_nil, List.append_nil]; exact L2.Paired.mapP e4 fun _ _ z => z.keep (.same s5)⟩ (fun j ys σ H' _ ⟨_, _, _, _, _, s, _⟩ => SqT.of (s _ _ ht)) ?_ ?_⟩⟩
    rotate_left
    · rintro ys σ H6 ⟨x6, x7, x8, x9, rfl, s6, e6⟩
      rw [pair_len' pw] at e6
      exact ⟨_, _, _, _, _, rfl, (s4.trans s5).trans s6, by rw [rng_flat, ← List.append_assoc, ← en]; exact e6⟩
    rintro j v0 ys2 σ H6 _ hj ⟨x6, x7, x8, x9, rfl, s6, e6⟩ ⟨TT, v, rfl, nT, rfl, hv⟩
    have lvs := pair_len' pw
    obtain ⟨wv, hwv, wy, rfl, wk⟩ := pair_get' pw hv
    have ewv : wAt q.2.2 j = wv := wAt_of hwv
    have lj := (List.getElem?_eq_some_iff.mp hwv).1
    obtain ⟨l1, l2, l3⟩ := okw wv (List.mem_of_getElem? hwv)
    obtain ⟨dw, hw⟩ := id wk
    have sT := same_new (o := .tup [.int (j : Nat), .ref wy]) nT
    refine ⟨TT, _, rfl, .inl (.inl upd_same), rfl, _, _, rfl, _, _, rfl, rfl, ?_⟩
    have s7 := s6.trans sT
    have e7 := L2.Paired.mapP e6 fun _ _ z => z.keep (.same sT)
    revert s7 e7
    generalize upd H6 TT (.tup [.int (j : Nat), .ref wy]) = H7
    intro s7 e7
    have u7 := (s4.trans s5).trans s7
    have t7 := s12.trans u7
    have hgd7 := u7 _ _ hgd2
    rw [rng_flat]
    have eI : ftI rs P r q n j = if wv.2.2.2 then [] else (kindsOf rs P).flatMap (ftK rs P r q n j) := by unfold ftI; rw [ewv]
    rw [eI]
    refine ⟨_, rfl, wy, _, dw, _, _, rfl, s7 _ _ hw, T.cl_Way, T.no_Way_early, rfl, _, rfl, ?_⟩
    cases ee : wv.2.2.2 with
    | true => exact iteNo rfl ⟨_, _, _, _, rfl, s7, by simpa using e7⟩
    | false =>
    refine iteYes rfl ?_
    rw [if_neg (by simp), ← List.append_assoc]
    -- the kinds: the table is locked
    refine ⟨gd, _, hgd7, trivial, fun od => ?_⟩
    have f8 : (upd H7 gd (.frz od (.dT kvs))) gd = some (.frz od (.dT kvs)) := upd_same
    have b8 : ∀ c o, c ≠ gd → H7 c = some o → (upd H7 gd (.frz od (.dT kvs))) c = some o := fun c o n h => by rw [upd_ne n]; exact h
    have t8 : Same H (upd H7 gd (.frz od (.dT kvs))) := same_mut t7 ngd
    have p8 := L2.Paired.mapP pk2 fun kv k (h : TabV .tup rs P H2 kv k) => (show TabV .tup rs P (upd H7 gd (.frz od (.dT kvs))) kv k from let ⟨e, u, eu, hu⟩ := h; ⟨e, u, eu, b8 _ _ (fun z => by rw [z, hgd2] at hu; cases hu) (u7 _ _ hu)⟩)
    have n8 := L2.Paired.mapP pn fun kv k (h : NearV (linkB rs P) (kindsOf rs P) H2 kv k) => (show NearV (linkB rs P) (kindsOf rs P) (upd H7 gd (.frz od (.dT kvs))) kv k from let ⟨e, u, vs, eu, hu, pv⟩ := h; ⟨e, u, vs, eu, b8 _ _ (fun z => by rw [z, hgd2] at hu; cases hu) (u7 _ _ hu), L2.Paired.mapP pv fun _ _ ⟨y, ey, hy⟩ => ⟨y, ey, b8 _ _ (fun z => by rw [z, hgd2] at hy; cases hy) (u7 _ _ hy)⟩⟩)
    have hnb8 := b8 _ _ nbg (u7 _ _ hnb)
    have w8 : Wy T.c_Way (upd H7 gd (.frz od (.dT kvs))) wy wv.1 wv.2.1 wv.2.2.1 wv.2.2.2 := ⟨dw, b8 _ _ (fun z => by rw [z] at hw; have := s7 _ _ hw; rw [hgd7] at this; cases this) (s7 _ _ hw)⟩
    have e8 := L2.Paired.mapP e7 fun v f (h : FtV H7 v f) => (show FtV (upd H7 gd (.frz od (.dT kvs))) v f from h.keep fun c xs h => b8 _ _ (fun z => by rw [z, hgd7] at h; cases h) h)
    have unl : ∀ {H' : Hp}, Same (upd H7 gd (.frz od (.dT kvs))) H' → Same H5 (upd H' gd (.dT kvs)) := fun {H'} s c o h => by
      by_cases e : c = gd
      · rw [e, upd_same]
        rw [e, (s4.trans s5) _ _ hgd2] at h
        exact h
      · rw [upd_ne e]; exact s _ _ (b8 _ _ e (s7 _ _ h))
    revert f8 b8 t8 p8 n8 hnb8 w8 unl e8
    generalize upd H7 gd (.frz od (.dT kvs)) = H8
    intro f8 b8 t8 p8 n8 hnb8 w8 e8 unl
    refine ⟨_, rfl, gd, od, rfl, .inr ⟨kvs, f8, gfor_it walk_keysT (fun l ys σ H' => ∃ (x8 x9 : Option V), σ = [some (.ref p), some (.ref gd), some (.ref nb), some (.str r.mark), some (.ref row), some (.int n), some (.int (j : Nat)), some (.ref wy), x8, x9] ∧ Same H8 H' ∧ Paired (FtV H') ys ((((rs.take i).flatMap (ftR rs P) ++ (List.range c).flatMap (fun c => ftN rs P r q (r.least + ((c : Nat) : Int)))) ++ (List.range j).flatMap (ftI rs P r q n)) ++ ((kindsOf rs P).take l).flatMap (ftK rs P r q n j))) ⟨_, _, rfl, Same.refl _, by rw [List.take_zero, List.flatMap_nil, List.append_nil]; exact e8⟩ (fun l ys σ H' _ ⟨_, _, _, s, _⟩ => s _ _ f8) ?_ ?_⟩⟩
    rotate_left
    · rintro ys σ H9 ⟨x8, x9, rfl, s9, e9⟩
      rw [lkv, List.take_length] at e9
      refine ⟨s9 _ _ f8, _, _, _, _, rfl, unl s9, L2.Paired.mapP e9 fun v f h => h.keep fun c xs h => ?_⟩
      rw [upd_ne (fun z => by rw [z, s9 _ _ f8] at h; cases h)]; exact h
    rintro l v ys3 σ H9 Ha hl ⟨x8, x9, rfl, s9, e9⟩ ⟨rfl, k0, v', qa, ek, rfl, hqa⟩
    obtain ⟨k, hk, ek1, _⟩ := pair_get' pk ek
    have ek1 : k0 = kdK k := ek1
    subst ek1
    have hqa : Ha qa = some (.tup [.str k.1, .str k.2]) := hqa
    have mk := List.mem_of_getElem? hk
    have t9 := t8.trans s9
    have FI : FtIn T.c_Policy T.c_Way T.c_Shape Ha p x m a b gd od P rs kvs := ⟨hP.same t9, S.same t9, s9 _ _ f8, L2.Paired.mapP p8 fun _ _ h => h.same s9⟩
    obtain ⟨u1, d1, hu1⟩ := FI.get mk hqa
    rw [take_flat _ hk, ← List.append_assoc]
    refine ⟨_, rfl, p, _, dp, _, _, rfl, t9 _ _ hp, T.cl_Policy, T.no_Policy_shape, polF1 x m a b, _, rfl, _, rfl, _, rfl, _, rfl, _, rfl, _, rfl, gd, _, rfl, d1, x, wy, qa, u1, r.mark, n, rs, r, wv, k, _, rfl, FI.sh, fr, sub, lp, Wy.same w8 s9, l1, l2, l3, hqa, .inr (SqT.of hu1), kinds_ok mk, fun Hb sb => ⟨_, rfl, ?_⟩⟩
    have eK : ftK rs P r q n j k = if fitB r (reachL rs P k) k wv n then ftAt rs P r q n j k else [] := by unfold ftK; rw [ewv]
    rw [eK]
    have s9b := s9.trans sb
    cases ef : fitB r (reachL rs P k) k wv n with
    | false => exact iteNo rfl ⟨_, _, rfl, s9b, by rw [if_neg (by simp), List.append_nil]; exact L2.Paired.mapP e9 fun _ _ z => z.keep (.same sb)⟩
    | true =>
    refine iteYes rfl ?_
    rw [if_pos rfl]
    refine ⟨_, rfl, _, rfl, _, rfl, _, rfl, qa, nb, k, kindsOf rs P, nkv, rfl, sb _ _ hqa, s9b _ _ hnb8, L2.Paired.mapP n8 fun _ _ h => NearV.same h s9b, mk, (fun z hz => kinds_word wo eP hz), by omega, fun ca ckv Hc sc nca hca iff => ?_⟩
    refine ⟨_, rfl, _, rfl, _, rfl, _, rfl, by show 4 ≤ sizeLine; decide, fun pl npl => ?_⟩
    have sp := same_new (o := .tup [.str r.mark, .int n, .int (j : Nat), .ref qa]) npl
    have hpl := upd_same (H := Hc) (a := pl) (o := .tup [.str r.mark, .int n, .int (j : Nat), .ref qa])
    revert sp hpl
    generalize upd Hc pl (.tup [.str r.mark, .int n, .int (j : Nat), .ref qa]) = Hd
    intro sp hpl
    have sbd := (sb.trans sc).trans sp
    have s8d := s9.trans sbd
    have t8d := t8.trans s8d
    refine ⟨p, x, m, a, b, gd, ca, pl, qa, od, P, rs, kvs, ckv, r, q, n, j, k, rfl, FI.same sbd, g, eP, okP, F, sp _ _ hca, iff, hpl, sbd _ _ hqa, mk, mr, fr, lz, mq, lj, fun u us He se nu hu pu => ?_⟩
    have lus := pair_len' pu
    have l1 := rs_le F g l6 i
    have l2 := ns_le (r := r) F l8 r.least (show c ≤ 5 by omega)
    have l3 := is_le (r := r) (n := n) F l8 (show j ≤ 8 by omega)
    have l4 := ks_le (r := r) (n := n) (i := j) F l8 l
    have l5 := ftAt_le (r := r) (n := n) (i := j) (k := k) F l8
    refine ⟨u, rfl, ⟨_, SqL.of hu⟩, gfor_it (walk_list (K := K) (a := u) (xs := us)) (fun z ys σ H' => ∃ x9 : Option V, σ = [some (.ref p), some (.ref gd), some (.ref nb), some (.str r.mark), some (.ref row), some (.int n), some (.int (j : Nat)), some (.ref wy), some (.ref qa), x9] ∧ H' = He ∧ Paired (FtV H') ys (((((rs.take i).flatMap (ftR rs P) ++ (List.range c).flatMap (fun c => ftN rs P r q (r.least + ((c : Nat) : Int)))) ++ (List.range j).flatMap (ftI rs P r q n)) ++ ((kindsOf rs P).take l).flatMap (ftK rs P r q n j)) ++ (ftAt rs P r q n j k).take z)) ⟨_, rfl, rfl, by rw [List.take_zero, List.append_nil]; exact L2.Paired.mapP e9 fun _ _ z => z.keep (.same (sbd.trans se))⟩ (fun z ys σ H' _ ⟨_, _, h, _⟩ => h ▸ SqL.of hu) ?_ ?_⟩
    · rintro z v ys4 σ Hz H' hz ⟨x9, rfl, rfl, e10⟩ ⟨rfl, hv⟩
      obtain ⟨f, hf, fv⟩ := pair_get' pu hv
      have ly := pair_len' e10
      rw [List.length_append, List.length_append, List.length_append, List.length_append, List.length_take] at ly
      refine ⟨by omega, _, rfl, _, rfl, rfl, ?_⟩
      rw [List.take_add_one, hf, Option.toList_some, ← List.append_assoc]
      exact pair_app' e10 (.cons fv .nil)
    · rintro ys σ H' ⟨x9, rfl, rfl, e10⟩
      rw [lus, List.take_length] at e10
      exact ⟨_, _, rfl, s8d.trans se, e10⟩
end
end My

namespace My
open PySem L2
def spIsSafe (Cp Cw Cs : Addr) : Sp := fun vs H Q _ => ∃ (p x m a b : Addr) (P : List Rl) (rs : List Row), vs = [.ref p] ∧ Pol Cp Cw H p x m a b P ∧ ShO Cs H x rs ∧ GoodC rs ∧ wordsOk rs ∧ P.map (·.1) = mks rs ∧ OkW P ∧ Few rs P ∧ ∀ H', Same H H' → Q (.bl (decide (faultsL rs P = []))) H'
section
variable {w : World} {K : PySem.W.Frag} {mg : Str → Option Value} {base : Heap}
theorem ok_is_safe (T : Txt K mg) : FnOk PP w K mg base CX0 33 T.a_is_safe T.fd_is_safe ["policy"] (spIsSafe T.c_Policy T.c_Way T.c_Shape) := by
  refine T.F_is_safe.ok sc_is_safe (fun vs H Q E h => ?_) (fun cdv A outer s H vs Q E hr h => ?_)
  · obtain ⟨p, x, m, a, b, P, rs, rfl, _⟩ := h; rfl
  · obtain ⟨p, x, m, a, b, P, rs, rfl, hP, S, g, wo, eP, okP, F, q⟩ := h
    refine ⟨_, (pss_cons (ps_forF PassesOwn.never rfl (pgenF_call (okF_faults T) (hr.mono (by omega)) (by rfl) T.g_faults T.F_faults.kp T.b_faults (pa_cons (pv 0) pa_nil)) (hr.mono (by omega)) (pg_name (i := 1) sc_is_safe.nd rfl (.inl rfl)) (pss_one (ps_ret (pe_bl))))
      (pss_one (ps_ret (pe_bl)))), ?_⟩
    refine ⟨_, rfl, p, x, m, a, b, P, rs, rfl, hP, S, g, wo, eP, okP, F, fun ne v H1 s1 => ?_, fun e H1 s1 => ?_⟩
    · have z := q H1 s1
      rw [decide_eq_false ne] at z
      exact z
    · have z := q H1 s1
      rw [decide_eq_true e] at z
      exact z
end
end My

namespace My
open PySem L2
def spLSameFt : Sp := fun vs H Q _ => ∃ (R p wq oq kk n : Addr) (c : Int) (ws : List V) (rs : List Row) (r : Row) (wv ov : Wv) (k : Kd) (ns : List Str), vs = [.ref R, .ref p, .ref wq, .ref oq, .int c, .ref kk, .ref n] ∧ H R = some (.lst ws) ∧ RowsN (fun _ => True) true H ws rs ∧ (mks rs).Nodup ∧ rs.length ≤ 100 ∧ RowL H p r ∧ (∀ z ∈ r.pars, z ∈ mks rs) ∧ H wq = some (LwO wv.1 wv.2.1 wv.2.2.1 wv.2.2.2) ∧ LtW wv ∧ H oq = some (LwO ov.1 ov.2.1 ov.2.2.1 ov.2.2.2) ∧ LtW ov ∧ 0 ≤ c ∧ H kk = some (.tup [.str k.1, .str k.2]) ∧ H n = some (.lst (ns.map V.str)) ∧ okKd k ∧
  ∀ H', Same H H' → Q (.bl (fitB r ns k ov c && sameB rs r wv ov c k ns)) H'
section
variable {w : World} {K : PySem.W.Frag} {mg : Str → Option Value} {base : Heap}
set_option maxHeartbeats 16000000 in
set_option pp.maxSteps 700 in
theorem ok__law_same_fault (T : Txt K mg) : FnOk PP w K mg base CX0 6 T.a__law_same_fault T.fd__law_same_fault ["_law_rows_here", "_law_row", "_law_way_here", "_law_other", "_law_count", "_law_kind", "_law_names"] spLSameFt := by
  refine T.F__law_same_fault.ok sc__law_same_fault (fun vs H Q E h => ?_) (fun cdv A outer s H vs Q E hr h => ?_)
  · obtain ⟨R, p, wq, oq, kk, n, c, ws, rs, r, wv, ov, k, ns, rfl, _⟩ := h; rfl
  · obtain ⟨R, p, wq, oq, kk, n, c, ws, rs, r, wv, ov, k, ns, rfl, hR, rR, nd, lr, hp, sub, hw, lw, ho, lo, c0, hkk, hn, kd, q⟩ := h
    refine ⟨_, (pss_cons (ps_if (pt_not (pt_val (pe_call (ok__law_fits T) (hr.mono (by omega)) (by rfl) T.g__law_fits T.F__law_fits.kp T.b__law_fits .nil pass0 (pa_cons (pv 0) (pa_cons (pv 1) (pa_cons (pv 3) (pa_cons (pv 4) (pa_cons (pv 5) (pa_cons (pv 6) pa_nil))))))))) (pss_one (ps_ret (pe_bl))) pss_nil)
      (pss_cons (ps_set (i := 7) sc__law_same_fault.nd rfl (.inl rfl) (pe_call (ok__law_supply T) (hr.mono (by omega)) (by rfl) T.g__law_supply T.F__law_supply.kp T.b__law_supply .nil pass0 (pa_cons (pv 0) (pa_cons (pv 1) (pa_cons (pv 5) (pa_cons (pv 6) pa_nil))))))
      (pss_cons (ps_set (i := 8) sc__law_same_fault.nd rfl (.inl rfl) (pe_call (ok__law_number T) (hr.mono (by omega)) (by rfl) T.g__law_number T.F__law_number.kp T.b__law_number .nil pass0 (pa_cons (pe_ix ix_list (pv 2) (pe_int) (fun _ _ => rfl)) (pa_cons (pv 4) pa_nil))))
      (pss_cons (ps_set (i := 9) sc__law_same_fault.nd rfl (.inl rfl) (pe_callB (call_max2 rfl) (by rfl) T.n_max (by decide +kernel) (pa_cons (pe_callTy call_int1 (by rfl) T.n_int (by decide +kernel) (pa_cons (pe_call (ok__law_number T) (hr.mono (by omega)) (by rfl) T.g__law_number T.F__law_number.kp T.b__law_number .nil pass0 (pa_cons (pe_ix ix_list (pv 2) (pe_int) (fun _ _ => rfl)) (pa_cons (pv 4) pa_nil))) pa_nil)) (pa_cons (pe_callTy call_int1 (by rfl) T.n_int (by decide +kernel) (pa_cons (pe_op op_sub (pv 8) (pe_ix ix_list (pv 7) (pe_int) (fun _ _ => rfl))) pa_nil)) pa_nil))))
      (pss_cons (ps_if (PW.pt (pw_and (pt_cmpR op_ne (pe_ix ix_list (pv 7) (pe_int) (fun _ _ => rfl)) (pe_int) (nomark _)) (pw_and1 (pt_cmpR op_ne (pv 9) (pe_int) (nomark _))))) (pss_one (ps_ret (pe_bl))) pss_nil)
      (pss_one (ps_ret (pe_and (pe_cmpR op_le (pe_op op_add (pv 9) (pe_call (ok__law_number T) (hr.mono (by omega)) (by rfl) T.g__law_number T.F__law_number.kp T.b__law_number .nil pass0 (pa_cons (pe_ix ix_list (pv 3) (pe_int) (fun _ _ => rfl)) (pa_cons (pv 4) pa_nil)))) (pv 4) (nomark _)) (pe_one (pe_cmpR op_le (pe_op op_add (pv 8) (pe_call (ok__law_number T) (hr.mono (by omega)) (by rfl) T.g__law_number T.F__law_number.kp T.b__law_number .nil pass0 (pa_cons (pe_ix ix_list (pv 3) (pe_int) (fun _ _ => rfl)) (pa_cons (pv 4) pa_nil)))) (pv 4) (nomark _))))))))))), ?_⟩
    obtain ⟨l1, l2, l3⟩ := lw
    obtain ⟨m1, m2, m3⟩ := lo
    refine ⟨_, rfl, _, rfl, _, rfl, _, rfl, _, rfl, _, rfl, R, p, oq, kk, n, c, ws, rs, r, ov, k, ns, rfl, hR, rR, nd, lr, hp, sub, ho, m2, m3, c0, hkk, hn, kd, fun H1 s1 => ⟨_, rfl, ?_⟩⟩
    cases ef : fitB r ns k ov c with
    | false =>
      rw [ef] at q
      exact iteYes rfl (q H1 s1)
    | true =>
    rw [ef, Bool.true_and] at q
    refine iteNo rfl ?_
    have rR1 := rowsN_same rR s1
    obtain ⟨pp, hp1, hp2⟩ := hp
    refine ⟨_, rfl, _, rfl, _, rfl, _, rfl, R, p, kk, n, ws, rs, r, k, ns, rfl, s1 _ _ hR, rR1, nd, lr, ⟨pp, s1 _ _ hp1, s1 _ _ hp2⟩, sub, s1 _ _ hkk, s1 _ _ hn, kd, fun u H2 s2 nu hu => ?_⟩
    have t2 := s1.trans s2
    have hw2 := t2 _ _ hw
    have ho2 := t2 _ _ ho
    have fin := q H2 t2
    unfold sameB at fin
    refine ⟨_, rfl, _, _, _, _, rfl, rfl, SqL.of hw2, atI_nat (j := 0) rfl, _, rfl, wv.1, c, rfl, l1, c0, ?_⟩
    refine ⟨_, rfl, _, _, _, _, rfl, rfl, SqL.of hw2, atI_nat (j := 1) rfl, _, rfl, wv.2.1, c, rfl, l2, c0, .inl ⟨_, rfl, _, rfl, _, rfl, _, _, _, _, rfl, rfl, SqL.of hu, atI_nat (j := 2) rfl, _, _, rfl, rfl, .inl ⟨_, rfl, _, _, rfl, ?_⟩⟩⟩
    have ek : (if need wv.1 c - supH rs r.pars ns k > need wv.2.1 c then need wv.1 c - supH rs r.pars ns k else need wv.2.1 c) = keptN rs r wv c k ns := by
      unfold keptN
      by_cases h : need wv.1 c - supH rs r.pars ns k < need wv.2.1 c
      · rw [if_pos h, if_neg (by omega)]
      · rw [if_neg h]
        by_cases h2 : need wv.1 c - supH rs r.pars ns k > need wv.2.1 c
        · rw [if_pos h2]
        · rw [if_neg h2]; omega
    rw [ek]
    have rest : (decide (supS r.pars ns k = 9) || decide (keptN rs r wv c k ns = 0)) = true → (tAndV (tOp (rI0 fun i j => V.bl (decide (i ≤ j))) (tOp (rI0 fun i j => V.int (i + j)) (tVar 9) (tCall spNumber [] E0 (tCons (tOp (rIxL K) (tVar 3) (tC (.int 2))) (tCons (tVar 4) tNil)))) (tVar 4)) (tOp (rI0 fun i j => V.bl (decide (i ≤ j))) (tOp (rI0 fun i j => V.int (i + j)) (tVar 8) (tCall spNumber [] E0 (tCons (tOp (rIxL K) (tVar 3) (tC (.int 1))) (tCons (tVar 4) tNil)))) (tVar 4))) [some (.ref R), some (.ref p), some (.ref wq), some (.ref oq), some (.int c), some (.ref kk), some (.ref n), some (.ref u), some (.int (need wv.1 c)), some (.int (keptN rs r wv c k ns))] H2 Q := fun hb => by
      rw [hb, Bool.true_and] at fin
      refine ⟨_, rfl, _, rfl, _, _, _, _, rfl, rfl, SqL.of ho2, atI_nat (j := 2) rfl, _, rfl, ov.2.2.1, c, rfl, m3, c0, _, _, rfl, rfl, _, rfl, _, _, rfl, rfl, _, rfl, ?_⟩
      by_cases h : keptN rs r wv c k ns + need ov.2.2.1 c ≤ c
      · rw [decide_eq_true h, Bool.true_and] at fin
        exact iteYes (decide_eq_true h) ⟨_, rfl, _, rfl, _, _, _, _, rfl, rfl, SqL.of ho2, atI_nat (j := 1) rfl, _, rfl, ov.2.1, c, rfl, m2, c0, _, _, rfl, rfl, _, rfl, _, _, rfl, rfl, fin⟩
      · rw [decide_eq_false h, Bool.false_and] at fin
        exact iteNo (decide_eq_false h) fin
    refine ⟨_, rfl, _, _, _, _, rfl, rfl, SqL.of hu, atI_nat (j := 0) rfl, rfl, _, rfl, iteN (fun ne => ?_) (fun e => ?_)⟩
    · have ne : ¬ supS r.pars ns k = 9 := fun z => ne (by rw [z])
      rw [decide_eq_false ne, Bool.false_or] at fin rest
      refine ⟨_, rfl, rfl, _, rfl, iteN (fun n2 => ?_) (fun e2 => ?_)⟩
      · have n2 : ¬ keptN rs r wv c k ns = 0 := fun z => n2 (by rw [z])
        rw [decide_eq_false n2, Bool.false_and] at fin
        exact fin
      · exact rest (decide_eq_true (V.int.inj e2))
    · have e := V.int.inj e
      refine iteNo rfl (rest ?_)
      rw [decide_eq_true e]; rfl
end
end My

namespace My
open PySem L2
structure LtIn (H : Hp) (R gd rp pp tb : Addr) (ws : List V) (kvs : List (Key × V)) (tv : List (List Key × V)) (P : List Rl) (rs : List Row) (r : Row) : Prop where
  hR : H R = some (.lst ws)
  rR : RowsN (fun _ => True) true H ws rs
  hg : H gd = some (.dK kvs)
  pk : Paired (RdV H) kvs P
  h1 : H rp = some (.lst (rowL r pp))
  h2 : H pp = some (.lst (r.pars.map V.str))
  ht : H tb = some (.dT tv)
  tv : Paired (TabV .lst rs P H) tv (kindsOf rs P)
theorem LtIn.same {H H' : Hp} {R gd rp pp tb : Addr} {ws : List V} {kvs : List (Key × V)} {tv : List (List Key × V)} {P : List Rl} {rs : List Row} {r : Row} (h : LtIn H R gd rp pp tb ws kvs tv P rs r) (s : Same H H') : LtIn H' R gd rp pp tb ws kvs tv P rs r :=
  ⟨s _ _ h.hR, rowsN_same h.rR s, s _ _ h.hg, L2.Paired.mapP h.pk fun _ _ z => z.same s, s _ _ h.h1, s _ _ h.h2, s _ _ h.ht, L2.Paired.mapP h.tv fun _ _ z => z.same s⟩
theorem LtIn.get {H : Hp} {R gd rp pp tb qa : Addr} {ws : List V} {kvs : List (Key × V)} {tv : List (List Key × V)} {P : List Rl} {rs : List Row} {r : Row} {k : Kd} (h : LtIn H R gd rp pp tb ws kvs tv P rs r) (mk : k ∈ kindsOf rs P) (hq : H qa = some (.tup [.str k.1, .str k.2])) : ∃ u, DGet H tb (.ref qa) (some (.ref u)) ∧ H u = some (.lst ((reachL rs P k).map V.str)) := tab_get (.inl h.ht) h.tv mk hq
def spLFaultsAt : Sp := fun vs H Q _ => ∃ (R gd rp pp kk tb la : Addr) (ws lv : List V) (kvs : List (Key × V)) (tv : List (List Key × V)) (P : List Rl) (rs : List Row) (r : Row) (q : Rl) (n : Int) (i : Nat) (k : Kd), vs = [.ref R, .ref gd, .ref rp, .int n, .int (i : Nat), .ref kk, .ref tb, .ref la] ∧ LtIn H R gd rp pp tb ws kvs tv P rs r ∧ GoodC rs ∧ wordsOk rs ∧ P.map (·.1) = mks rs ∧ OkW P ∧ Few rs P ∧ H la = some (.lst lv) ∧ Paired (LinkV H) lv (linksL (linkB rs P) (kindsOf rs P) (kindsOf rs P)) ∧ H kk = some (.tup [.str k.1, .str k.2]) ∧ k ∈ kindsOf rs P ∧ r ∈ rs ∧ lookR P r.mark = some q ∧ q ∈ P ∧ q.1 = r.mark ∧ i < q.2.2.length ∧ 0 ≤ n ∧
  ∀ u us H', Same H H' → H u = none → H' u = some (.lst us) → Paired (FtV H') us (ftAt rs P r q n i k) → Q (.ref u) H'
section
variable {w : World} {K : PySem.W.Frag} {mg : Str → Option Value} {base : Heap}
set_option maxHeartbeats 32000000 in
set_option pp.maxSteps 700 in
theorem ok__law_faults_at (T : Txt K mg) : FnOk PP w K mg base CX0 10 T.a__law_faults_at T.fd__law_faults_at ["_law_rows_here", "_law_rules_here", "_law_row", "_law_count", "_law_index", "_law_kind", "_law_table_here", "_law_links_here"] spLFaultsAt := by
  refine T.F__law_faults_at.ok sc__law_faults_at (fun vs H Q E h => ?_) (fun cdv A outer s H vs Q E hr h => ?_)
  · obtain ⟨R, gd, rp, pp, kk, tb, la, ws, lv, kvs, tv, P, rs, r, q, n, i, k, rfl, _⟩ := h; rfl
  · obtain ⟨R, gd, rp, pp, kk, tb, la, ws, lv, kvs, tv, P, rs, r, q, n, i, k, rfl, L, g, wo, eP, okP, F, hla, plv, hkk, mk, mr, lz, mq, eq, li, n0, qq⟩ := h
    refine ⟨_, (pss_cons (ps_set (i := 8) sc__law_faults_at.nd rfl (.inl rfl) (pe_ix ix_list (pv 2) (pe_int) (fun _ _ => rfl)))
      (pss_cons (ps_set (i := 9) sc__law_faults_at.nd rfl (.inl rfl) (pe_ix ix_list (pe_dget (hu_of hr) (pv 1) (pv 8) (fun _ _ => rfl)) (pe_int) (fun _ _ => rfl)))
      (pss_cons (ps_set (i := 10) sc__law_faults_at.nd rfl (.inl rfl) (pe_ix ix_list (pv 9) (pv 4) (fun _ _ => rfl)))
      (pss_cons (ps_set (i := 11) sc__law_faults_at.nd rfl (.inl rfl) (pe_lst pa_nil))
      (pss_cons (ps_for PassesOwn.never rfl (pi_range1 (by rfl) T.n_range (pa_cons (pe_callB call_len_seq (by rfl) T.n_len (by decide +kernel) (pa_cons (pv 9) pa_nil)) pa_nil)) (pg_name (i := 12) sc__law_faults_at.nd rfl (.inl rfl)) (pss_one (ps_for PassesOwn.never rfl (pi_list (pe_call (ok__law_kinds T) (hr.mono (by omega)) (by rfl) T.g__law_kinds T.F__law_kinds.kp T.b__law_kinds .nil pass0 (pa_cons (pv 0) (pa_cons (pv 1) pa_nil)))) (pg_name (i := 13) sc__law_faults_at.nd rfl (.inl rfl)) (pss_cons (ps_set (i := 14) sc__law_faults_at.nd rfl (.inl rfl) (pe_op op_add (pe_call (ok__law_number T) (hr.mono (by omega)) (by rfl) T.g__law_number T.F__law_number.kp T.b__law_number .nil pass0 (pa_cons (pe_ix ix_list (pv 10) (pe_int) (fun _ _ => rfl)) (pa_cons (pv 3) pa_nil))) (pe_call (ok__law_number T) (hr.mono (by omega)) (by rfl) T.g__law_number T.F__law_number.kp T.b__law_number .nil pass0 (pa_cons (pe_ix ix_list (pe_ix ix_list (pv 9) (pv 12) (fun _ _ => rfl)) (pe_int) (fun _ _ => rfl)) (pa_cons (pv 3) pa_nil)))))
      (pss_one (ps_if (PW.pt (pw_and (pt_cmpR op_le (pv 14) (pv 3) (nomark _)) (pw_and1 (pt_val (pe_call (ok__law_fits T) (hr.mono (by omega)) (by rfl) T.g__law_fits T.F__law_fits.kp T.b__law_fits .nil pass0 (pa_cons (pv 0) (pa_cons (pv 2) (pa_cons (pe_ix ix_list (pv 9) (pv 12) (fun _ _ => rfl)) (pa_cons (pv 3) (pa_cons (pv 13) (pa_cons (pe_dget (hu_of hr) (pv 6) (pv 13) (fun _ _ => rfl)) pa_nil))))))))))) (pss_one (ps_expr (pe_bm PySem.F.plainAttrs_list PySem.F.slot_list_append PySem.F.type_list_append mt_append (pv 11) (pa_cons (pe_tup (pa_cons (pe_str) (pa_cons (pv 8) (pa_cons (pv 3) (pa_cons (pv 4) (pa_cons (pv 12) (pa_cons (pv 5) (pa_cons (pv 13) pa_nil)))))))) pa_nil)))) pss_nil))))))
      (pss_cons (ps_for PassesOwn.never rfl (pi_range1 (by rfl) T.n_range (pa_cons (pe_callB call_len_seq (by rfl) T.n_len (by decide +kernel) (pa_cons (pv 9) pa_nil)) pa_nil)) (pg_name (i := 12) sc__law_faults_at.nd rfl (.inl rfl)) (pss_one (ps_if (pt_val (pe_call (ok__law_same_fault T) (hr.mono (by omega)) (by rfl) T.g__law_same_fault T.F__law_same_fault.kp T.b__law_same_fault .nil pass0 (pa_cons (pv 0) (pa_cons (pv 2) (pa_cons (pv 10) (pa_cons (pe_ix ix_list (pv 9) (pv 12) (fun _ _ => rfl)) (pa_cons (pv 3) (pa_cons (pv 5) (pa_cons (pe_dget (hu_of hr) (pv 6) (pv 5) (fun _ _ => rfl)) pa_nil))))))))) (pss_one (ps_expr (pe_bm PySem.F.plainAttrs_list PySem.F.slot_list_append PySem.F.type_list_append mt_append (pv 11) (pa_cons (pe_tup (pa_cons (pe_str) (pa_cons (pv 8) (pa_cons (pv 3) (pa_cons (pv 4) (pa_cons (pv 12) (pa_cons (pv 5) (pa_cons (pv 5) pa_nil)))))))) pa_nil)))) pss_nil)))
      (pss_cons (ps_if (PW.pt (pw_and (pt_val (pe_ix ix_list (pe_dget (hu_of hr) (pv 1) (pv 8) (fun _ _ => rfl)) (pe_int) (fun _ _ => rfl))) (pw_and1 (pt_cmpR (inDK (K := K) rfl (hu65' hr)) (pe_tup (pa_cons (pv 8) (pa_cons (pe_str) pa_nil))) (pe_call (ok__law_joined T) (hr.mono (by omega)) (by rfl) T.g__law_joined T.F__law_joined.kp T.b__law_joined .nil pass0 (pa_cons (pe_call (ok__law_kinds T) (hr.mono (by omega)) (by rfl) T.g__law_kinds T.F__law_kinds.kp T.b__law_kinds .nil pass0 (pa_cons (pv 0) (pa_cons (pv 1) pa_nil))) (pa_cons (pv 7) (pa_cons (pv 5) pa_nil)))) (by with_unfolding_all rfl))))) (pss_one (ps_expr (pe_bm PySem.F.plainAttrs_list PySem.F.slot_list_append PySem.F.type_list_append mt_append (pv 11) (pa_cons (pe_tup (pa_cons (pe_str) (pa_cons (pv 8) (pa_cons (pv 3) (pa_cons (pv 4) (pa_cons (pe_un un_neg (pe_int)) (pa_cons (pv 5) (pa_cons (pe_tup (pa_cons (pv 8) (pa_cons (pe_str) pa_nil))) pa_nil)))))))) pa_nil)))) pss_nil)
      (pss_one (ps_ret (pv 11)))))))))), ?_⟩
    have big : 100000 < sizeLine := by decide
    have sub := g.pars r mr
    have okw := (okP q mq).1
    have l8 := F.ws q mq
    have l6 := g.len
    have kd := kinds_ok mk
    have ndP : (P.map (·.1)).Nodup := by rw [eP]; exact g.nd
    have ndk := kinds_nd (rs := rs) ndP
    have lks := F.ks
    obtain ⟨iq, hiq⟩ := List.mem_iff_getElem?.mp mq
    obtain ⟨kv, ev, _, q0, p0, us0, eq0, hq0, hp0, pus, lus⟩ := val_rd L.pk ndP hiq
    have l00 := pair_len' pus
    have dg : ∀ {H' : Hp}, H' gd = some (.dK kvs) → DGet H' gd (.str r.mark) (some (.ref q0)) := fun {H'} h => by
      have := DGet.k (k := .inr r.mark) h
      rw [← eq, ev, eq0, eq] at this
      exact this
    obtain ⟨v0, hv0⟩ : ∃ v0, us0[i]? = some v0 := ⟨_, List.getElem?_eq_getElem (by omega)⟩
    obtain ⟨wv, hwv, wq, rfl, hwq, adw⟩ := pair_get' pus hv0
    have ewv : wAt q.2.2 i = wv := wAt_of hwv
    have lw := okw wv (List.mem_of_getElem? hwv)
    obtain ⟨l1, l2, l3⟩ := id lw
    refine ⟨_, rfl, _, _, _, _, rfl, rfl, SqL.of L.h1, atI_nat (j := 0) rfl, ?_⟩
    refine ⟨_, rfl, _, rfl, gd, _, rfl, dg L.hg, _, _, _, _, rfl, rfl, SqL.of hq0, atI_nat (j := 1) rfl, ?_⟩
    refine ⟨_, rfl, _, rfl, _, _, _, _, rfl, rfl, SqL.of hp0, atI_nat hv0, ?_⟩
    refine ⟨Nat.zero_le _, fun f0 nf0 => ?_⟩
    have sf := same_new (o := .lst ([] : List V)) nf0
    -- apart
    refine ⟨_, rfl, p0, _, rfl, .inl (SqL.of (sf _ _ hp0)), _, rfl, by omega, by omega, for_it (walk_range (lo := 0) (n := us0.length)) (fun j σ H' => ∃ (x12 x13 x14 : Option V) (fs : List V), σ = [some (.ref R), some (.ref gd), some (.ref rp), some (.int n), some (.int (i : Nat)), some (.ref kk), some (.ref tb), some (.ref la), some (.str r.mark), some (.ref p0), some (.ref wq), some (.ref f0), x12, x13, x14] ∧ Same H H' ∧ H' f0 = some (.lst fs) ∧ Paired (FtV H') fs ((List.range j).flatMap (apJ rs P r q.2.2 n i k))) ⟨_, _, _, [], rfl, sf, upd_same, .nil⟩ (fun _ _ _ _ _ => trivial) ?_ ?_⟩
    · rintro j v σ Hz H3 hj ⟨x12, x13, x14, fs, rfl, s3, hf3, p3⟩ ⟨rfl, rfl⟩
      show gName 12 (.int (0 + ((j : Nat) : Int))) _ _ _
      rw [Int.zero_add]
      obtain ⟨vj, hvj⟩ : ∃ vj, us0[j]? = some vj := ⟨_, List.getElem?_eq_getElem hj⟩
      obtain ⟨ov, hov, oq, rfl, hoq, ado⟩ := pair_get' pus hvj
      have eov : wAt q.2.2 j = ov := wAt_of hov
      obtain ⟨m1, m2, m3⟩ := okw ov (List.mem_of_getElem? hov)
      have L3 := L.same s3
      refine ⟨_, rfl, _, rfl, R, gd, ws, rs, kvs, P, rfl, L3.hR, L3.rR, g.nd, by omega, L3.hg, L3.pk, eP, fun ku kus H4 s4 nku hku pku => ?_⟩
      have lku := pair_len' pku
      have s34 := s3.trans s4
      refine ⟨ku, rfl, ⟨_, SqL.of hku⟩, for_it (walk_list (K := K) (a := ku) (xs := kus)) (fun l σ H' => ∃ (x13 x14 : Option V) (fs : List V), σ = [some (.ref R), some (.ref gd), some (.ref rp), some (.int n), some (.int (i : Nat)), some (.ref kk), some (.ref tb), some (.ref la), some (.str r.mark), some (.ref p0), some (.ref wq), some (.ref f0), some (.int (j : Nat)), x13, x14] ∧ Same H H' ∧ H' ku = some (.lst kus) ∧ TpK H4 H' ∧ H' f0 = some (.lst fs) ∧ Paired (FtV H') fs ((List.range j).flatMap (apJ rs P r q.2.2 n i k) ++ ((((kindsOf rs P).take l).filter (apB rs P r wv ov n)).map fun k2 => (("apart", r.mark, n, ((i : Nat) : Int), ((j : Nat) : Int), k, k2) : Ft)))) ⟨_, _, fs, rfl, s34, hku, fun _ _ h => h, s4 _ _ hf3, by rw [List.take_zero]; simpa using L2.Paired.mapP p3 fun _ _ z => z.keep (.same s4)⟩ (fun l σ H' _ ⟨_, _, _, _, _, s, _⟩ => SqL.of s) ?_ ?_⟩
      · rintro l v σ Hz H5 hl ⟨x13, x14, fs, rfl, s5, hku5, tk5, hf5, p5⟩ ⟨rfl, hv⟩
        obtain ⟨k2, hk2, qa, rfl, hqa⟩ := pair_get' pku hv
        have hqa := tk5 _ _ hqa
        have mk2 := List.mem_of_getElem? hk2
        have L5 := L.same s5
        have hwq5 := s5 _ _ hwq
        have hoq5 := s5 _ _ hoq
        have hp5 := s5 _ _ hp0
        obtain ⟨u1, d1, hu1⟩ := L5.get mk2 hqa
        rw [filter_take hk2, List.map_append, ← List.append_assoc]
        have bl := pair_len' p5
        rw [List.length_append, List.length_map] at bl
        have b1 := aps_le (r := r) (n := n) (i := i) (k := k) F q.2.2 (show j ≤ 8 by omega)
        have b2 := List.length_filter_le (apB rs P r wv ov n) ((kindsOf rs P).take l)
        rw [List.length_take] at b2
        refine ⟨_, rfl, _, _, _, _, rfl, rfl, SqL.of hwq5, atI_nat (j := 2) rfl, _, rfl, wv.2.2.1, n, rfl, l3, n0, _, rfl, _, rfl, _, _, _, _, rfl, rfl, SqL.of hp5, atI_nat hvj, _, _, _, _, rfl, rfl, SqL.of hoq5, atI_nat (j := 2) rfl, _, rfl, ov.2.2.1, n, rfl, m3, n0, _, _, rfl, rfl, ?_⟩
        refine ⟨_, rfl, _, rfl, _, _, rfl, rfl, _, rfl, iteD (fun c1 => ?_) (fun c1 => ?_)⟩
        rotate_left
        · refine iteNo rfl ⟨_, _, fs, rfl, s5, hku5, tk5, hf5, ?_⟩
          rw [if_neg (by unfold apB; rw [decide_eq_false c1, Bool.and_false]; simp), List.map_nil, List.append_nil]
          exact p5
        refine ⟨_, rfl, _, rfl, _, rfl, _, rfl, _, _, _, _, rfl, rfl, SqL.of hp5, atI_nat hvj, _, rfl, _, rfl, _, rfl, _, rfl, tb, _, rfl, d1, R, rp, oq, qa, u1, n, ws, rs, r, ov, k2, _, rfl, L5.hR, L5.rR, g.nd, by omega, ⟨pp, L5.h1, L5.h2⟩, sub, hoq5, m2, m3, n0, hqa, hu1, kinds_ok mk2, fun H6 s6 => ⟨_, rfl, ?_⟩⟩
        have s56 := s5.trans s6
        have p6 := L2.Paired.mapP p5 fun _ _ z => z.keep (.same s6)
        have hf6 := s6 _ _ hf5
        have tk6 : TpK H4 H6 := fun c xs h => s6 _ _ (tk5 _ _ h)
        cases ef : fitB r (reachL rs P k2) k2 ov n with
        | false =>
          refine iteNo rfl ⟨_, _, fs, rfl, s56, s6 _ _ hku5, tk6, hf6, ?_⟩
          rw [if_neg (by unfold apB; rw [ef]; simp), List.map_nil, List.append_nil]
          exact p6
        | true =>
          refine iteYes rfl ⟨_, rfl, .inl ⟨rfl, _, SqL.of hf6⟩, _, rfl, _, rfl, _, rfl, _, rfl, _, rfl, _, rfl, by show 7 ≤ sizeLine; decide, fun tt ntt => ?_⟩
          have st := same_new (o := .tup [.str "apart", .str r.mark, .int n, .int (i : Nat), .int (j : Nat), .ref kk, .ref qa]) ntt
          have hfa := st _ _ hf6
          have hka := st _ _ (s56 _ _ hkk)
          have hqb := st _ _ (s6 _ _ hqa)
          refine ⟨_, _, _, rfl, rfl, hfa, by omega, ?_⟩
          refine ⟨_, _, fs ++ [.ref tt], rfl, same_mut (s56.trans st) nf0, ?_, fun c xs h => ?_, upd_same, ?_⟩
          · rw [upd_ne (fun z => by rw [z, s4 _ _ hf3] at hku; rw [z] at nku; rw [hf3] at nku; cases nku)]
            exact st _ _ (s6 _ _ hku5)
          · exact (TpK.lst hfa) _ _ (st _ _ (tk6 _ _ h))
          · rw [if_pos (by unfold apB; rw [ef, decide_eq_true c1]; rfl)]
            exact flt_app (L2.Paired.mapP p6 fun _ _ z => z.keep (.same st)) hfa ⟨tt, kk, qa, rfl, upd_same, hka, hqb⟩
      · rintro σ H5 ⟨x13, x14, fs, rfl, s5, _, _, hf5, p5⟩
        rw [lku, List.take_length] at p5
        refine ⟨_, _, _, fs, rfl, s5, hf5, ?_⟩
        rw [rng_flat]
        have : apJ rs P r q.2.2 n i k j = ((kindsOf rs P).filter (apB rs P r wv ov n)).map fun k2 => (("apart", r.mark, n, ((i : Nat) : Int), ((j : Nat) : Int), k, k2) : Ft) := by unfold apJ; rw [ewv, eov]
        rw [this]; exact p5
    rintro σ H3 ⟨x12, x13, x14, fs, rfl, s3, hf3, p3⟩
    rw [l00] at p3
    clear sf
    -- the same start
    refine ⟨_, rfl, p0, _, rfl, .inl (SqL.of (s3 _ _ hp0)), _, rfl, by omega, by omega, for_it (walk_range (lo := 0) (n := us0.length)) (fun j σ H' => ∃ (x12 x13 x14 : Option V) (fs : List V), σ = [some (.ref R), some (.ref gd), some (.ref rp), some (.int n), some (.int (i : Nat)), some (.ref kk), some (.ref tb), some (.ref la), some (.str r.mark), some (.ref p0), some (.ref wq), some (.ref f0), x12, x13, x14] ∧ Same H H' ∧ H' f0 = some (.lst fs) ∧ Paired (FtV H') fs ((List.range q.2.2.length).flatMap (apJ rs P r q.2.2 n i k) ++ (List.range j).flatMap (saJ rs P r q.2.2 n i k))) ⟨_, _, _, fs, rfl, s3, hf3, by simpa using p3⟩ (fun _ _ _ _ _ => trivial) ?_ ?_⟩
    · rintro j v σ Hz H4 hj ⟨x12, x13, x14, fs, rfl, s4, hf4, p4⟩ ⟨rfl, rfl⟩
      show gName 12 (.int (0 + ((j : Nat) : Int))) _ _ _
      rw [Int.zero_add]
      obtain ⟨vj, hvj⟩ : ∃ vj, us0[j]? = some vj := ⟨_, List.getElem?_eq_getElem hj⟩
      obtain ⟨ov, hov, oq, rfl, hoq, ado⟩ := pair_get' pus hvj
      have eov : wAt q.2.2 j = ov := wAt_of hov
      have lo := okw ov (List.mem_of_getElem? hov)
      have L4 := L.same s4
      have hoq4 := s4 _ _ hoq
      have hwq4 := s4 _ _ hwq
      obtain ⟨u1, d1, hu1⟩ := L4.get mk (s4 _ _ hkk)
      have bl := pair_len' p4
      rw [List.length_append] at bl
      have b1 := aps_le (r := r) (n := n) (i := i) (k := k) F q.2.2 l8
      have b2 := sas_le (rs := rs) (P := P) (r := r) (n := n) (i := i) (k := k) q.2.2 (show j ≤ 8 by omega)
      rw [rng_flat, ← List.append_assoc]
      have esa : saJ rs P r q.2.2 n i k j = if fitB r (reachL rs P k) k ov n && sameB rs r wv ov n k (reachL rs P k) then [(("same", r.mark, n, ((i : Nat) : Int), ((j : Nat) : Int), k, k) : Ft)] else [] := by unfold saJ; rw [ewv, eov]
      rw [esa]
      refine ⟨_, rfl, _, rfl, _, rfl, _, rfl, _, rfl, _, _, _, _, rfl, rfl, SqL.of (s4 _ _ hp0), atI_nat hvj, _, rfl, _, rfl, _, rfl, _, rfl, tb, _, rfl, d1, R, rp, wq, oq, kk, u1, n, ws, rs, r, wv, ov, k, _, rfl, L4.hR, L4.rR, g.nd, by omega, ⟨pp, L4.h1, L4.h2⟩, sub, hwq4, lw, hoq4, lo, n0, s4 _ _ hkk, hu1, kd, fun H5 s5 => ⟨_, rfl, ?_⟩⟩
      have s45 := s4.trans s5
      have p5 := L2.Paired.mapP p4 fun _ _ z => z.keep (.same s5)
      have hf5 := s5 _ _ hf4
      cases es : (fitB r (reachL rs P k) k ov n && sameB rs r wv ov n k (reachL rs P k)) with
      | false =>
        refine iteNo rfl ⟨_, _, _, fs, rfl, s45, hf5, ?_⟩
        rw [if_neg (by simp), List.append_nil]
        exact p5
      | true =>
        refine iteYes rfl ⟨_, rfl, .inl ⟨rfl, _, SqL.of hf5⟩, _, rfl, _, rfl, _, rfl, _, rfl, _, rfl, _, rfl, by show 7 ≤ sizeLine; decide, fun tt ntt => ?_⟩
        have st := same_new (o := .tup [.str "same", .str r.mark, .int n, .int (i : Nat), .int (j : Nat), .ref kk, .ref kk]) ntt
        have hfa := st _ _ hf5
        have hka := st _ _ (s45 _ _ hkk)
        refine ⟨_, _, _, rfl, rfl, hfa, by omega, ?_⟩
        refine ⟨_, _, _, fs ++ [.ref tt], rfl, same_mut (s45.trans st) nf0, upd_same, ?_⟩
        rw [if_pos rfl]
        exact flt_app (L2.Paired.mapP p5 fun _ _ z => z.keep (.same st)) hfa ⟨tt, kk, kk, rfl, upd_same, hka, hka⟩
    rintro σ H4 ⟨x12, x13, x14, fs, rfl, s4, hf4, p4⟩
    rw [l00] at p4
    have L4 := L.same s4
    have bl := pair_len' p4
    rw [List.length_append] at bl
    have b1 := aps_le (r := r) (n := n) (i := i) (k := k) F q.2.2 l8
    have b2 := sas_le (rs := rs) (P := P) (r := r) (n := n) (i := i) (k := k) q.2.2 l8
    unfold ftAt at qq
    have nff : ∀ {H' : Hp}, Same H H' → ∀ us, H' f0 = some (.lst us) → Paired (FtV H') us ((List.range q.2.2.length).flatMap (apJ rs P r q.2.2 n i k) ++ (List.range q.2.2.length).flatMap (saJ rs P r q.2.2 n i k) ++ beL rs P r q.2.1 n i k) → Q (.ref f0) H' := fun s us hu pu => qq f0 us _ s nf0 hu (by rw [← List.append_assoc]; exact pu)
    -- begun
    refine ⟨_, rfl, _, rfl, gd, _, rfl, dg L4.hg, _, _, _, _, rfl, rfl, SqL.of (s4 _ _ hq0), atI_nat (j := 0) rfl, _, rfl, ?_⟩
    cases est : q.2.1 with
    | false =>
      refine iteNo rfl (iteNo rfl ⟨_, rfl, nff s4 fs hf4 ?_⟩)
      unfold beL; rw [est, if_neg (by simp), List.append_nil]
      exact p4
    | true =>
      refine iteYes rfl ?_
      refine ⟨_, rfl, by show 2 ≤ sizeLine; decide, fun kt nkt => ?_⟩
      have sk := same_new (o := .tup [.str r.mark, .str "own"]) nkt
      have hkt := upd_same (H := H4) (a := kt) (o := .tup [.str r.mark, .str "own"])
      revert sk hkt
      generalize upd H4 kt (.tup [.str r.mark, .str "own"]) = H5
      intro sk hkt
      have s45 := s4.trans sk
      have L5 := L.same s45
      refine ⟨_, rfl, _, rfl, R, gd, ws, rs, kvs, P, rfl, L5.hR, L5.rR, g.nd, by omega, L5.hg, L5.pk, eP, fun ku kus H6 s6 nku hku pku => ?_⟩
      have s46 := s45.trans s6
      refine ⟨_, rfl, _, rfl, ku, la, kk, kus, lv, linkB rs P, kindsOf rs P, k, rfl, hku, pku, s46 _ _ hla, L2.Paired.mapP plv fun _ _ h => LinkV.same h s46, s46 _ _ hkk, mk, ndk, (fun z hz => kinds_word wo eP hz), by omega, fun u us' H7 s7 nu hu pu => ?_⟩
      have s47 := s46.trans s7
      have hkt7 := s7 _ _ (s6 _ _ hkt)
      have okm : okS ((r.mark, ("own" : Str)) : Kd) := ⟨strOk_mk (g.row r mr).1, .inl rfl⟩
      refine ⟨kdD (r.mark, "own"), ((kindsOf rs P).filter fun b => decide (b ∈ joinL (linkB rs P) (kindsOf rs P) k)).map kdD, kdDp hkt7, .lst (SqL.of hu) (kdsDp pu), shaped_of (okS_lay okm) (by rw [kdD_depth]; decide), list_shaped (n := 1) (by decide) (fun z hz => okS_lay (kinds_word wo eP (List.mem_filter.mp hz).1)) (fun z => by rw [kdD_depth]; exact Nat.le_refl _), ?_⟩
      rw [any_mem eqv_kd]
      have p7 := L2.Paired.mapP p4 fun _ _ z => z.keep (.same ((sk.trans s6).trans s7))
      have hf7 := s7 _ _ (s6 _ _ (sk _ _ hf4))
      have s07 := s47
      have mjf : (((r.mark, ("own" : Str)) : Kd) ∈ (kindsOf rs P).filter fun b => decide (b ∈ joinL (linkB rs P) (kindsOf rs P) k)) ↔ ((r.mark, ("own" : Str)) : Kd) ∈ joinL (linkB rs P) (kindsOf rs P) k := by
        rw [List.mem_filter, decide_eq_true_iff]
        exact ⟨fun h => h.2, fun h => ⟨(((joinL_iff ndk).mp h).mem), h⟩⟩
      by_cases mj : ((r.mark, ("own" : Str)) : Kd) ∈ joinL (linkB rs P) (kindsOf rs P) k
      · refine ⟨_, rfl, iteYes (by simp only [mjf.mpr mj, decide_true]) ⟨_, rfl, .inl ⟨rfl, _, SqL.of hf7⟩, _, rfl, _, rfl, _, rfl, _, rfl, _, rfl, _, rfl, by show 2 ≤ sizeLine; decide, fun k2 nk2 => ?_⟩⟩
        have sk2 := same_new (o := .tup [.str r.mark, .str "own"]) nk2
        have hk2 := upd_same (H := H7) (a := k2) (o := .tup [.str r.mark, .str "own"])
        revert sk2 hk2
        generalize upd H7 k2 (.tup [.str r.mark, .str "own"]) = H8
        intro sk2 hk2
        have s48 := s07.trans sk2
        have hf8 := sk2 _ _ hf7
        have p8 := L2.Paired.mapP p7 fun _ _ z => z.keep (.same sk2)
        refine ⟨by show 7 ≤ sizeLine; decide, fun tt ntt => ?_⟩
        have st := same_new (o := .tup [.str "begun", .str r.mark, .int n, .int (i : Nat), .int (-1), .ref kk, .ref k2]) ntt
        have hfa := st _ _ hf8
        have hka := st _ _ (s48 _ _ hkk)
        refine ⟨_, _, _, rfl, rfl, hfa, by omega, ?_⟩
        refine ⟨_, rfl, nff (same_mut (s48.trans st) nf0) _ upd_same ?_⟩
        unfold beL
        rw [est, decide_eq_true mj, if_pos (by rfl)]
        exact flt_app (L2.Paired.mapP p8 fun _ _ z => z.keep (.same st)) hfa ⟨tt, kk, k2, rfl, upd_same, hka, st _ _ hk2⟩
      · refine ⟨_, rfl, iteNo (by rw [decide_eq_false_iff_not]; exact fun h => mj (mjf.mp h)) ⟨_, rfl, nff s07 fs hf7 ?_⟩⟩
        unfold beL; rw [est, decide_eq_false mj, if_neg (by simp), List.append_nil]
        exact p7
end
end My

namespace My
open PySem L2
def spLFaults : Sp := fun vs H Q _ => ∃ (R gd : Addr) (ws : List V) (kvs : List (Key × V)) (P : List Rl) (rs : List Row), vs = [.ref R, .ref gd] ∧ H R = some (.lst ws) ∧ RowsN (fun _ => True) true H ws rs ∧ GoodC rs ∧ wordsOk rs ∧ H gd = some (.dK kvs) ∧ Paired (RdV H) kvs P ∧ P.map (·.1) = mks rs ∧ OkW P ∧ Few rs P ∧
  ∀ u us H', Same H H' → H u = none → H' u = some (.lst us) → Paired (FtV H') us (faultsL rs P) → Q (.ref u) H'
def ftL (rs : List Row) (P : List Rl) (r : Row) (q : Rl) (n : Int) (i l : Nat) : List Ft := if (wAt q.2.2 i).2.2.2 then [] else ((kindsOf rs P).take l).flatMap (ftK rs P r q n i)
section
variable {w : World} {K : PySem.W.Frag} {mg : Str → Option Value} {base : Heap}
set_option maxHeartbeats 32000000 in
set_option pp.maxSteps 700 in
theorem ok__law_faults (T : Txt K mg) : FnOk PP w K mg base CX0 14 T.a__law_faults T.fd__law_faults ["_law_rows_here", "_law_rules_here"] spLFaults := by
  refine T.F__law_faults.ok sc__law_faults (fun vs H Q E h => ?_) (fun cdv A outer s H vs Q E hr h => ?_)
  · obtain ⟨R, gd, ws, kvs, P, rs, rfl, _⟩ := h; rfl
  · obtain ⟨R, gd, ws, kvs, P, rs, rfl, hR, rR, g, wo, hg, pk, eP, okP, F, qq⟩ := h
    refine ⟨_, (pss_cons (ps_set (i := 2) sc__law_faults.nd rfl (.inl rfl) (pe_call (ok__law_table T) (hr.mono (by omega)) (by rfl) T.g__law_table T.F__law_table.kp T.b__law_table .nil pass0 (pa_cons (pv 0) (pa_cons (pv 1) pa_nil))))
      (pss_cons (ps_set (i := 3) sc__law_faults.nd rfl (.inl rfl) (pe_call (ok__law_kinds T) (hr.mono (by omega)) (by rfl) T.g__law_kinds T.F__law_kinds.kp T.b__law_kinds .nil pass0 (pa_cons (pv 0) (pa_cons (pv 1) pa_nil))))
      (pss_cons (ps_set (i := 4) sc__law_faults.nd rfl (.inl rfl) (pe_call (ok__law_links T) (hr.mono (by omega)) (by rfl) T.g__law_links T.F__law_links.kp T.b__law_links .nil pass0 (pa_cons (pv 0) (pa_cons (pv 1) (pa_cons (pv 3) (pa_cons (pv 2) pa_nil))))))
      (pss_cons (ps_set (i := 5) sc__law_faults.nd rfl (.inl rfl) (pe_lst pa_nil))
      (pss_cons (ps_for PassesOwn.never rfl (pi_list (pv 0)) (pg_name (i := 6) sc__law_faults.nd rfl (.inl rfl)) (pss_cons (ps_set (i := 7) sc__law_faults.nd rfl (.inl rfl) (pe_ix ix_list (pe_dget (hu_of hr) (pv 1) (pe_ix ix_list (pv 6) (pe_int) (fun _ _ => rfl)) (fun _ _ => rfl)) (pe_int) (fun _ _ => rfl)))
      (pss_one (ps_for PassesOwn.never rfl (pi_range2 (by rfl) T.n_range (pa_cons (pe_ix ix_list (pv 6) (pe_int) (fun _ _ => rfl)) (pa_cons (pe_op op_add (pe_ix ix_list (pv 6) (pe_int) (fun _ _ => rfl)) (pe_int)) pa_nil))) (pg_name (i := 8) sc__law_faults.nd rfl (.inl rfl)) (pss_one (ps_for PassesOwn.never rfl (pi_range1 (by rfl) T.n_range (pa_cons (pe_callB call_len_seq (by rfl) T.n_len (by decide +kernel) (pa_cons (pv 7) pa_nil)) pa_nil)) (pg_name (i := 9) sc__law_faults.nd rfl (.inl rfl)) (pss_one (ps_for PassesOwn.never rfl (pi_list (pv 3)) (pg_name (i := 10) sc__law_faults.nd rfl (.inl rfl)) (pss_one (ps_if (PW.pt (pw_and (pt_not (pt_val (pe_ix ix_list (pe_ix ix_list (pv 7) (pv 9) (fun _ _ => rfl)) (pe_int) (fun _ _ => rfl)))) (pw_and1 (pt_val (pe_call (ok__law_fits T) (hr.mono (by omega)) (by rfl) T.g__law_fits T.F__law_fits.kp T.b__law_fits .nil pass0 (pa_cons (pv 0) (pa_cons (pv 6) (pa_cons (pe_ix ix_list (pv 7) (pv 9) (fun _ _ => rfl)) (pa_cons (pv 8) (pa_cons (pv 10) (pa_cons (pe_dget (hu_of hr) (pv 2) (pv 10) (fun _ _ => rfl)) pa_nil))))))))))) (pss_one (ps_set (i := 5) sc__law_faults.nd rfl (.inl rfl) (pe_op op_cat (pv 5) (pe_call (ok__law_faults_at T) (hr.mono (by omega)) (by rfl) T.g__law_faults_at T.F__law_faults_at.kp T.b__law_faults_at .nil pass0 (pa_cons (pv 0) (pa_cons (pv 1) (pa_cons (pv 6) (pa_cons (pv 8) (pa_cons (pv 9) (pa_cons (pv 10) (pa_cons (pv 2) (pa_cons (pv 4) pa_nil)))))))))))) pss_nil))))))))))
      (pss_one (ps_ret (pv 5)))))))), ?_⟩
    have big : 1000000 < sizeLine := by decide
    have lw := pair_len' rR
    have l6 := g.len
    have ndP : (P.map (·.1)).Nodup := by rw [eP]; exact g.nd
    have lks := F.ks
    have rd : ∀ {H' : Hp}, Same H H' → Paired (RdV H') kvs P := fun s => L2.Paired.mapP pk fun _ _ z => z.same s
    refine ⟨_, rfl, _, rfl, R, gd, ws, rs, kvs, P, rfl, hR, rR, g, hg, pk, eP, okP, fun tb tv H1 s1 ntb htb ptv => ?_⟩
    refine ⟨_, rfl, _, rfl, R, gd, ws, rs, kvs, P, rfl, s1 _ _ hR, rowsN_same rR s1, g.nd, by omega, s1 _ _ hg, rd s1, eP, fun ka kus H2 s2 nka hka pka => ?_⟩
    have t2 := s1.trans s2
    have lka := pair_len' pka
    have ptv2 := L2.Paired.mapP ptv fun _ _ z => z.same s2
    refine ⟨_, rfl, _, rfl, _, rfl, _, rfl, R, gd, ka, tb, ws, kus, rs, kvs, P, tv, kindsOf rs P, rfl, t2 _ _ hR, rowsN_same rR t2, g, t2 _ _ hg, rd t2, eP, okP, hka, pka, (fun k h => kinds_ok h), by omega, s2 _ _ htb, ptv2, fun la lv H3 s3 nla hla plv => ?_⟩
    have t3 := t2.trans s3
    have htb3 := s3 _ _ (s2 _ _ htb)
    have ptv3 := L2.Paired.mapP ptv2 fun _ _ z => z.same s3
    have hka3 := s3 _ _ hka
    have pka3 := L2.Paired.mapP pka fun _ _ z => KdV.same z s3
    have hR3 := t3 _ _ hR
    have hg3 := t3 _ _ hg
    have rR3 := rowsN_same rR t3
    have pk3 := rd t3
    clear ptv2 ptv htb pka hka rd s3 s2 s1 nla nka ntb t2
    refine ⟨Nat.zero_le _, fun f0 nf0 => ?_⟩
    have sf := same_new (o := .lst ([] : List V)) nf0
    -- the rows
    refine ⟨_, rfl, R, rfl, ⟨_, SqL.of (sf _ _ hR3)⟩, for_it (walk_list (K := K) (a := R) (xs := ws)) (fun i σ H' => ∃ (x6 x7 x8 x9 x10 : Option V) (fa : Addr) (fs : List V), σ = [some (.ref R), some (.ref gd), some (.ref tb), some (.ref ka), some (.ref la), some (.ref fa), x6, x7, x8, x9, x10] ∧ Same H3 H' ∧ H3 fa = none ∧ H' fa = some (.lst fs) ∧ Paired (FtV H') fs ((rs.take i).flatMap (ftR rs P))) ⟨_, _, _, _, _, f0, [], rfl, sf, nf0, upd_same, .nil⟩ (fun i σ H' _ ⟨_, _, _, _, _, _, _, _, s, _⟩ => SqL.of (s _ _ hR3)) ?_ ?_⟩
    rotate_left
    · rintro σ H4 ⟨x6, x7, x8, x9, x10, fa, fs, rfl, s4, nfa, hfa, p4⟩
      rw [lw, List.take_length] at p4
      exact ⟨_, rfl, qq fa fs H4 (t3.trans s4) (t3.free nfa) hfa p4⟩
    rintro i v σ Hz H4 hi ⟨x6, x7, x8, x9, x10, fa, fs, rfl, s4, nfa, hfa, p4⟩ ⟨rfl, hv⟩
    obtain ⟨r, hr1, rp, pp, rfl, _, _, hrp3, hpp3⟩ := pair_get' rR3 hv
    have hrp3 : H3 rp = some (.lst (rowL r pp)) := hrp3
    have hpp3 : H3 pp = some (.lst (r.pars.map V.str)) := hpp3
    have mr := List.mem_of_getElem? hr1
    obtain ⟨z0, z1, z2⟩ := good_sizes g mr
    obtain ⟨q, lz, mq, eq⟩ := look_mark ndP eP mr
    have er : rlOf P r.mark = q := by unfold rlOf; rw [lz]; rfl
    obtain ⟨iq, hiq⟩ := List.mem_iff_getElem?.mp mq
    obtain ⟨kv, ev, _, q0, p0, us0, eq0, hq0, hp0, pus, lus⟩ := val_rd pk3 ndP hiq
    have okw := (okP q mq).1
    have l00 := pair_len' pus
    have l8 := F.ws q mq
    have dg := DGet.k (k := .inr r.mark) (s4 _ _ hg3)
    rw [← eq, ev, eq0, eq] at dg
    have LL : ∀ {H' : Hp}, Same H3 H' → LtIn H' R gd rp pp tb ws kvs tv P rs r := fun s => LtIn.same ⟨hR3, rR3, hg3, pk3, hrp3, hpp3, htb3, ptv3⟩ s
    have eR : ftR rs P r = (List.range (r.most + 1 - r.least).toNat).flatMap fun c => ftN rs P r q (r.least + ((c : Nat) : Int)) := by unfold ftR; rw [er]
    refine ⟨_, rfl, _, rfl, _, _, _, _, rfl, rfl, SqL.of (s4 _ _ hrp3), atI_nat (j := 0) rfl, gd, _, rfl, dg, _, _, _, _, rfl, rfl, SqL.of (s4 _ _ hq0), atI_nat (j := 1) rfl, ?_⟩
    -- the numbers
    refine ⟨_, rfl, _, _, _, _, rfl, rfl, SqL.of (s4 _ _ hrp3), atI_nat (j := 2) rfl, _, rfl, _, _, _, _, rfl, rfl, SqL.of (s4 _ _ hrp3), atI_nat (j := 3) rfl, _, _, rfl, rfl, r.least, r.most + 1, rfl, ⟨by omega, by omega, by omega, by omega⟩, for_it walk_range (fun c σ H' => ∃ (x8 x9 x10 : Option V) (fa : Addr) (fs : List V), σ = [some (.ref R), some (.ref gd), some (.ref tb), some (.ref ka), some (.ref la), some (.ref fa), some (.ref rp), some (.ref p0), x8, x9, x10] ∧ Same H3 H' ∧ H3 fa = none ∧ H' fa = some (.lst fs) ∧ Paired (FtV H') fs ((rs.take i).flatMap (ftR rs P) ++ (List.range c).flatMap (fun c => ftN rs P r q (r.least + ((c : Nat) : Int))))) ⟨_, _, _, fa, fs, rfl, s4, nfa, hfa, by simpa using p4⟩ (fun _ _ _ _ _ => trivial) ?_ ?_⟩
    rotate_left
    · rintro σ H5 ⟨x8, x9, x10, fa, fs, rfl, s5, nfa, hfa, p5⟩
      exact ⟨_, _, _, _, _, fa, fs, rfl, s5, nfa, hfa, by rw [take_flat _ hr1, eR]; exact p5⟩
    clear dg p4 hfa nfa fs fa s4
    rintro c v σ Hz H5 hc ⟨x8, x9, x10, fa, fs, rfl, s5, nfa, hfa, p5⟩ ⟨rfl, rfl⟩
    obtain ⟨n, en⟩ : ∃ n : Int, n = r.least + ((c : Nat) : Int) := ⟨_, rfl⟩
    show gName 8 (.int (r.least + ((c : Nat) : Int))) _ _ _
    rw [← en]
    have n0 : 0 ≤ n := by omega
    -- the ways
    refine ⟨_, rfl, p0, _, rfl, .inl (SqL.of (s5 _ _ hp0)), _, rfl, by omega, by omega, for_it (walk_range (lo := 0) (n := us0.length)) (fun j σ H' => ∃ (x9 x10 : Option V) (fa : Addr) (fs : List V), σ = [some (.ref R), some (.ref gd), some (.ref tb), some (.ref ka), some (.ref la), some (.ref fa), some (.ref rp), some (.ref p0), some (.int n), x9, x10] ∧ Same H3 H' ∧ H3 fa = none ∧ H' fa = some (.lst fs) ∧ Paired (FtV H') fs (((rs.take i).flatMap (ftR rs P) ++ (List.range c).flatMap (fun c => ftN rs P r q (r.least + ((c : Nat) : Int)))) ++ (List.range j).flatMap (ftI rs P r q n))) ⟨_, _, fa, fs, rfl, s5, nfa, hfa, by simpa using p5⟩ (fun _ _ _ _ _ => trivial) ?_ ?_⟩
    rotate_left
    · rintro σ H6 ⟨x9, x10, fa, fs, rfl, s6, nfa, hfa, p6⟩
      rw [l00] at p6
      exact ⟨_, _, _, fa, fs, rfl, s6, nfa, hfa, by rw [rng_flat, ← List.append_assoc, ← en]; exact p6⟩
    clear p5 hfa nfa fs fa s5
    rintro j v σ Hz H6 hj ⟨x9, x10, fa, fs, rfl, s6, nfa, hfa, p6⟩ ⟨rfl, rfl⟩
    show gName 9 (.int (0 + ((j : Nat) : Int))) _ _ _
    rw [Int.zero_add]
    obtain ⟨vj, hvj⟩ : ∃ vj, us0[j]? = some vj := ⟨_, List.getElem?_eq_getElem hj⟩
    obtain ⟨wv, hwv, wq, rfl, hwq, adw⟩ := pair_get' pus hvj
    have ewv : wAt q.2.2 j = wv := wAt_of hwv
    have lj := (List.getElem?_eq_some_iff.mp hwv).1
    obtain ⟨l1, l2, l3⟩ := okw wv (List.mem_of_getElem? hwv)
    -- the kinds
    refine ⟨_, rfl, ka, rfl, ⟨_, SqL.of (s6 _ _ hka3)⟩, for_it (walk_list (K := K) (a := ka) (xs := kus)) (fun l σ H' => ∃ (x10 : Option V) (fa : Addr) (fs : List V), σ = [some (.ref R), some (.ref gd), some (.ref tb), some (.ref ka), some (.ref la), some (.ref fa), some (.ref rp), some (.ref p0), some (.int n), some (.int (j : Nat)), x10] ∧ Same H3 H' ∧ H3 fa = none ∧ H' fa = some (.lst fs) ∧ Paired (FtV H') fs ((((rs.take i).flatMap (ftR rs P) ++ (List.range c).flatMap (fun c => ftN rs P r q (r.least + ((c : Nat) : Int)))) ++ (List.range j).flatMap (ftI rs P r q n)) ++ ftL rs P r q n j l)) ⟨_, fa, fs, rfl, s6, nfa, hfa, by unfold ftL; simpa using p6⟩ (fun l σ H' _ ⟨_, _, _, _, s, _⟩ => SqL.of (s _ _ hka3)) ?_ ?_⟩
    rotate_left
    · rintro σ H7 ⟨x10, fa, fs, rfl, s7, nfa, hfa, p7⟩
      refine ⟨_, _, fa, fs, rfl, s7, nfa, hfa, ?_⟩
      rw [rng_flat, ← List.append_assoc]
      have : ftI rs P r q n j = ftL rs P r q n j kus.length := by unfold ftI ftL; rw [lka, List.take_length]
      rw [this]; exact p7
    clear p6 hfa nfa fs fa s6
    rintro l v σ Hz H7 hl ⟨x10, fa, fs, rfl, s7, nfa, hfa, p7⟩ ⟨rfl, hv⟩
    obtain ⟨k, hk, qa, rfl, hqa3⟩ := pair_get' pka3 hv
    have mk := List.mem_of_getElem? hk
    have L7 := LL s7
    have hqa := s7 _ _ hqa3
    have hwq7 := s7 _ _ hwq
    have hp7 := s7 _ _ hp0
    refine ⟨_, rfl, _, rfl, _, _, _, _, rfl, rfl, SqL.of hp7, atI_nat hvj, _, _, _, _, rfl, rfl, SqL.of hwq7, atI_nat (j := 3) rfl, _, rfl, ?_⟩
    cases ee : wv.2.2.2 with
    | true =>
      refine iteNo rfl (iteNo rfl ⟨_, fa, fs, rfl, s7, nfa, hfa, ?_⟩)
      unfold ftL at p7 ⊢
      rw [ewv, ee] at p7 ⊢
      exact p7
    | false =>
    refine iteYes rfl ?_
    have el : ∀ l, ftL rs P r q n j l = ((kindsOf rs P).take l).flatMap (ftK rs P r q n j) := fun l => by unfold ftL; rw [ewv, ee, if_neg (by simp)]
    rw [el] at p7
    rw [el, take_flat _ hk, ← List.append_assoc]
    have eK : ftK rs P r q n j k = if fitB r (reachL rs P k) k wv n then ftAt rs P r q n j k else [] := by unfold ftK; rw [ewv]
    rw [eK]
    obtain ⟨u1, d1, hu1⟩ := L7.get mk hqa
    refine ⟨_, rfl, _, rfl, _, rfl, _, rfl, _, _, _, _, rfl, rfl, SqL.of hp7, atI_nat hvj, _, rfl, _, rfl, _, rfl, _, rfl, tb, _, rfl, d1, R, rp, wq, qa, u1, n, ws, rs, r, wv, k, _, rfl, L7.hR, L7.rR, g.nd, by omega, ⟨pp, L7.h1, L7.h2⟩, g.pars r mr, hwq7, l2, l3, n0, hqa, hu1, kinds_ok mk, fun H8 s8 => ⟨_, rfl, ?_⟩⟩
    have s78 := s7.trans s8
    cases ef : fitB r (reachL rs P k) k wv n with
    | false =>
      refine iteNo rfl ⟨_, fa, fs, rfl, s78, nfa, s8 _ _ hfa, ?_⟩
      rw [if_neg (by simp), List.append_nil]
      exact L2.Paired.mapP p7 fun _ _ z => z.keep (.same s8)
    | true =>
    refine iteYes rfl ?_
    rw [if_pos rfl]
    refine ⟨_, rfl, _, rfl, _, rfl, _, rfl, _, rfl, _, rfl, _, rfl, _, rfl, _, rfl, R, gd, rp, pp, qa, tb, la, ws, lv, kvs, tv, P, rs, r, q, n, j, k, rfl, LL s78, g, wo, eP, okP, F, s78 _ _ hla, L2.Paired.mapP plv fun _ _ z => LinkV.same z s78, s8 _ _ hqa, mk, mr, lz, mq, eq, lj, n0, fun u us H9 s9 nu hu pu => ?_⟩
    have s89 := s8.trans s9
    have m1 := rs_le F g l6 i
    have m2 := ns_le (r := r) F l8 r.least (show c ≤ 5 by omega)
    have m3 := is_le (r := r) (n := n) F l8 (show j ≤ 8 by omega)
    have m4 := ks_le (r := r) (n := n) (i := j) F l8 l
    have m5 := ftAt_le (r := r) (n := n) (i := j) (k := k) F l8
    have b1 := pair_len' p7
    have b2 := pair_len' pu
    rw [List.length_append, List.length_append, List.length_append] at b1
    refine ⟨fa, u, fs, us, rfl, rfl, s89 _ _ hfa, hu, by omega, fun pn npn => ?_⟩
    have sp := same_new (o := .lst (fs ++ us)) npn
    refine ⟨_, pn, fs ++ us, rfl, (s7.trans s89).trans sp, (s7.trans s89).free npn, upd_same, ?_⟩
    exact pair_app' (L2.Paired.mapP p7 fun _ _ z => z.keep (.same (s89.trans sp))) (L2.Paired.mapP pu fun _ _ z => z.keep (.same sp))
end
end My

namespace My
open PySem L2
def LK (H H' : Hp) : Prop := ∀ a xs, H a = some (.lst xs) → H' a = some (.lst xs)
theorem LK.same {H H' : Hp} (s : Same H H') : LK H H' := fun a _ h => s a _ h
theorem LK.updD {H : Hp} {g : Addr} {kvs : List (Key × V)} {o : HO} (h : H g = some (.dK kvs)) : LK H (upd H g o) := fun a xs e => by rw [upd_ne (fun z => by rw [z, h] at e; cases e)]; exact e
theorem rdn_put {t : Addr} {B : Hp} {kvs : List (Key × V)} {rl : List Rl} {r : Rl} {q : Addr} (h : Paired (RdN t B) kvs rl) (m : r.1 ∈ rl.map (·.1)) (n : RdN t B (.inr r.1, .ref q) r) : Paired (RdN t B) (putK kvs (.inr r.1) (.ref q)) (setR rl r) := by
  have go : ∀ {kvs : List (Key × V)} {rl : List Rl}, Paired (RdN t B) kvs rl → Paired (RdN t B) (kvs.map fun kv => if kv.1 = .inr r.1 then (kv.1, .ref q) else kv) (setR rl r) := fun h => by
    induction h with
    | nil => exact .nil
    | @cons kv r0 kvs rl a b ih =>
      refine .cons ?_ ih
      have ek : kv.1 = .inr r0.1 := a.1
      show RdN t B (if kv.1 = .inr r.1 then (kv.1, .ref q) else kv) (if r0.1 = r.1 then r else r0)
      by_cases e : r0.1 = r.1
      · rw [if_pos e, if_pos (by rw [ek, e]), ek, e]; exact n
      · rw [if_neg e, if_neg (fun z => e (by rw [ek] at z; injection z))]; exact a
  rw [putK_old]
  · exact go h
  · obtain ⟨r0, hr0, e0⟩ := List.mem_map.mp m
    rw [← valV_any, List.any_eq_true]
    obtain ⟨i, hi⟩ := List.getElem?_of_mem hr0
    obtain ⟨kv, hkv, a⟩ := pair_back h hi
    exact ⟨kv, List.mem_of_getElem? hkv, decide_eq_true (by rw [a.1, e0])⟩
theorem RdN.v {t : Addr} {H : Hp} {kv : Key × V} {r : Rl} (h : RdN t H kv r) : RdV H kv r := let ⟨a, q, p, us, e, _, f, _, g, k, b⟩ := h; ⟨a, q, p, us, e, f, g, _root_.L2.Paired.mapP k fun _ _ ⟨q, e, _, f, j⟩ => ⟨q, e, f, j⟩, b⟩
theorem rdv_off {t : Addr} {k : Nat} {H : Hp} {kv : Key × V} {r : Rl} (h : RdV H kv r) (ht : H t = some (.lst [.int k])) : RdN t H kv r := by
  obtain ⟨a, q, p, us, e, f, g, kk, l⟩ := h
  have nl : ∀ {a : Addr} {xs : List V}, H a = some (.lst xs) → (∀ k, xs ≠ [V.int k]) → a ≠ t := fun h n z => by rw [z, ht] at h; exact n _ (HO.lst.inj (Option.some.inj h)).symm
  refine ⟨a, q, p, us, e, nl f (fun k z => by cases z), f, nl g (fun k z => ?_), g, L2.Paired.mapP kk fun _ _ ⟨q, e, f, j⟩ => ⟨q, e, nl f (fun k z => by cases z), f, j⟩, l⟩
  obtain ⟨_, _, _, e, _⟩ := pair_get' kk (i := 0) (x := V.int k) (by rw [z]; rfl)
  cases e
theorem Pol.off {Cp Cw : Addr} {H H' : Hp} {y x m a b t : Addr} {rl : List Rl} {xs : List V} (P : Pol Cp Cw H y x m a b rl) (ht : H t = some (.lst xs)) (n : ∀ l : List Str, xs ≠ l.map V.str) (bu : But t H H') : Pol Cp Cw H' y x m a b rl := by
  obtain ⟨⟨dy, hy⟩, hm, ⟨ls, ha, hb, _⟩, _, _⟩ := id P
  refine P.le (A := [t]) (.but (by simp) bu) (fun c o h tt => bu _ _ (fun z => ?_) h) fun c hc h => ?_
  · rw [z, ht] at h
    obtain rfl := Option.some.inj h
    rcases tt with ⟨_, e⟩ | ⟨_, _, _, _, _, e⟩ <;> cases e
  · obtain rfl := List.mem_singleton.mp h
    simp only [List.mem_cons, List.not_mem_nil, or_false] at hc
    rcases hc with rfl | rfl | rfl | rfl
    · rw [ht] at hy; cases hy
    · rw [ht] at hm
      refine n (rl.map (·.1)) ?_
      rw [List.map_map]
      exact HO.lst.inj (Option.some.inj hm)
    · rw [ht] at ha; cases ha
    · rw [ht] at hb; cases hb
theorem int_strs {k : Int} : ∀ l : List Str, [V.int k] ≠ l.map V.str := fun l e => by cases l <;> cases e
theorem ref_strs {a : Addr} {r : List V} : ∀ l : List Str, V.ref a :: r ≠ l.map V.str := fun l e => by cases l <;> cases e
theorem ShO.off {Cs : Addr} {H H' : Hp} {x t : Addr} {k : Int} {rs : List Row} (S : ShO Cs H x rs) (ht : H t = some (.lst [.int k])) (b : But t H H') : ShO Cs H' x rs := by
  obtain ⟨dx, l, m, vs, hx, hl, hr, hm⟩ := S
  refine ⟨dx, l, m, vs, b _ _ (fun z => by rw [z, ht] at hx; cases hx) hx, b _ _ (fun z => ?_) hl, rowsT_keep hr (fun a xs e => b _ _ (fun z => by rw [z, ht] at e; cases e) e), b _ _ (fun z => ?_) hm⟩
  · rw [z, ht] at hl
    have e := HO.lst.inj (Option.some.inj hl)
    subst e
    obtain ⟨_, _, q, _, e, _⟩ := pair_get' hr (i := 0) (x := V.int k) rfl
    cases e
  · rw [z, ht] at hm
    have e := HO.lst.inj (Option.some.inj hm)
    exact int_strs (rs.map (·.mark)) (by rw [e]; unfold mksV; rw [List.map_map]; rfl)
/-- all but dicts stays -/
def NdK (H H' : Hp) : Prop := ∀ a o, (∀ k, o ≠ .dK k) → H a = some o → H' a = some o
theorem NdK.le {H H' : Hp} {a b : Addr} {k1 k2 : List (Key × V)} (h1 : H a = some (.dK k1)) (h2 : H b = some (.dK k2)) (l : Le [a, b] H H') : NdK H H' := fun c o n h => l _ _ (fun m => by
  simp only [List.mem_cons, List.not_mem_nil, or_false] at m
  rcases m with rfl | rfl
  · rw [h1] at h; exact n _ (Option.some.inj h).symm
  · rw [h2] at h; exact n _ (Option.some.inj h).symm) h
theorem NdK.but {H H' : Hp} {a : Addr} {k1 : List (Key × V)} (h1 : H a = some (.dK k1)) (l : But a H H') : NdK H H' := fun c o n h => l _ _ (fun m => by
  rw [m, h1] at h; exact n _ (Option.some.inj h).symm) h
theorem NdK.same {H H' : Hp} (s : Same H H') : NdK H H' := fun _ _ _ h => s _ _ h
theorem NdK.trans {H H1 H2 : Hp} (x : NdK H H1) (y : NdK H1 H2) : NdK H H2 := fun a o n h => y a o n (x a o n h)
theorem ShO.nd {Cs : Addr} {H H' : Hp} {x : Addr} {rs : List Row} (S : ShO Cs H x rs) (k : NdK H H') : ShO Cs H' x rs := by
  obtain ⟨dx, l, m, vs, hx, hl, hr, hm⟩ := S
  exact ⟨dx, l, m, vs, k _ _ (fun _ h => nomatch h) hx, k _ _ (fun _ h => nomatch h) hl, rowsT_keep hr (fun a xs e => k _ _ (fun _ h => nomatch h) e), k _ _ (fun _ h => nomatch h) hm⟩
theorem rowsN_nd {F : Addr → Prop} {b : Bool} {H H' : Hp} {vs : List V} {rs : List Row} (h : RowsN F b H vs rs) (k : NdK H H') : RowsN F b H' vs rs := L2.Paired.mapP h fun _ _ ⟨q, qq, e, f1, f2, h1, h2⟩ => ⟨q, qq, e, f1, f2, k _ _ (fun _ z => by unfold seqO at z; split at z <;> cases z) h1, k _ _ (fun _ z => by unfold seqO at z; split at z <;> cases z) h2⟩
theorem Pol.offD {Cp Cw : Addr} {H H' : Hp} {y x m a b t : Addr} {rl : List Rl} {kvs : List (Key × V)} (P : Pol Cp Cw H y x m a b rl) (ht : H t = some (.dK kvs)) (n1 : t ≠ a) (n2 : t ≠ b) (bu : But t H H') : Pol Cp Cw H' y x m a b rl := by
  obtain ⟨⟨dy, hy⟩, hm, _, _, _⟩ := id P
  refine P.le (A := [t]) (.but (by simp) bu) (fun c o h tt => bu _ _ (fun z => ?_) h) fun c hc h => ?_
  · rw [z, ht] at h
    obtain rfl := Option.some.inj h
    rcases tt with ⟨_, e⟩ | ⟨_, _, _, _, _, e⟩ <;> cases e
  · obtain rfl := List.mem_singleton.mp h
    simp only [List.mem_cons, List.not_mem_nil, or_false] at hc
    rcases hc with rfl | rfl | rfl | rfl
    · rw [ht] at hy; cases hy
    · rw [ht] at hm; cases hm
    · exact n1 rfl
    · exact n2 rfl
theorem pair_takeP {α β : Type} {F : α → β → Prop} : ∀ {l : List α} {m : List β} (n : Nat), Paired F l m → Paired F (l.take n) (m.take n)
  | _, _, 0, _ => by simp only [List.take_zero]; exact .nil
  | _, _, n + 1, .nil => .nil
  | _, _, n + 1, .cons h t => .cons h (pair_takeP n t)
end My

namespace My
open PySem L2
def hsR (r : Rl) : Rl := (r.1, r.2.1, r.2.2.map fun k => (k.1, k.2.1, k.2.2.1, true))
theorem hs_fst (P : List Rl) : (P.map hsR).map (·.1) = P.map (·.1) := by rw [List.map_map]; rfl
theorem setR_mid {L R : List Rl} {q r : Rl} (nd : ((L ++ q :: R).map (·.1)).Nodup) (e : r.1 = q.1) : setR (L ++ q :: R) r = L ++ r :: R := by
  rw [List.map_append, List.map_cons] at nd
  obtain ⟨n1, n2, n3⟩ := List.nodup_append.mp nd
  obtain ⟨n4, n5⟩ := List.nodup_cons.mp n2
  have same : ∀ M : List Rl, (∀ x ∈ M, x.1 ≠ r.1) → M.map (fun x => if x.1 = r.1 then r else x) = M := fun M h => by
    induction M with
    | nil => rfl
    | cons a M ih => rw [List.map_cons, if_neg (h a List.mem_cons_self), ih fun x hx => h x (List.mem_cons_of_mem _ hx)]
  unfold setR
  rw [List.map_append, List.map_cons, if_pos e.symm, same L fun x hx z => n3 _ (List.mem_map.mpr ⟨x, hx, rfl⟩) q.1 List.mem_cons_self (z.trans e), same R fun x hx z => n4 (by rw [← e, ← z]; exact List.mem_map.mpr ⟨x, hx, rfl⟩)]
/-- one rule after the other is put -/
theorem set_step {A B : List Rl} {i : Nat} {a b : Rl} (l : A.map (·.1) = B.map (·.1)) (nd : (A.map (·.1)).Nodup) (ha : A[i]? = some a) (hb : B[i]? = some b) : setR (B.take i ++ A.drop i) b = B.take (i + 1) ++ A.drop (i + 1) ∧ b.1 = a.1 ∧ (B.take i ++ A.drop i).map (·.1) = A.map (·.1) := by
  have e1 : b.1 = a.1 := by
    have := congrArg (fun l : List Str => l[i]?) l
    simp only [List.getElem?_map, ha, hb] at this
    exact (Option.some.inj this).symm
  have e2 : (B.take i ++ A.drop i).map (·.1) = A.map (·.1) := by
    rw [List.map_append, List.map_take, ← l, ← List.map_take, ← List.map_append, List.take_append_drop]
  obtain ⟨li, ea⟩ := List.getElem?_eq_some_iff.mp ha
  have e3 : A.drop i = a :: A.drop (i + 1) := by rw [← ea]; exact List.drop_eq_getElem_cons li
  refine ⟨?_, e1, e2⟩
  rw [e3] at e2 ⊢
  rw [setR_mid (by rw [e2]; exact nd) e1, List.take_add_one, hb, Option.toList_some, List.append_assoc]
  rfl
theorem hs_early {P : List Rl} {z : Str} : ∀ w ∈ (rlOf (P.map hsR) z).2.2, w.2.2.2 = true := by
  intro w hw
  unfold rlOf at hw
  cases h : lookR (P.map hsR) z with
  | none => rw [h] at hw; exact nomatch hw
  | some q =>
    rw [h] at hw
    have hw : w ∈ q.2.2 := hw
    obtain ⟨r, _, rfl⟩ := List.mem_map.mp (List.mem_of_find?_eq_some h)
    obtain ⟨k, _, rfl⟩ := List.mem_map.mp hw
    rfl
theorem hasty_none (rs : List Row) (P : List Rl) : faultsL rs (P.map hsR) = [] := by
  refine List.flatMap_eq_nil_iff.mpr fun r _ => List.flatMap_eq_nil_iff.mpr fun c _ => List.flatMap_eq_nil_iff.mpr fun i hi => ?_
  unfold ftI
  have li := List.mem_range.mp hi
  have e : wAt (rlOf (P.map hsR) r.mark).2.2 i ∈ (rlOf (P.map hsR) r.mark).2.2 := by
    rw [wAt_of (List.getElem?_eq_getElem li)]; exact List.getElem_mem li
  rw [hs_early _ e, if_pos rfl]
theorem hs_few {rs : List Row} {P : List Rl} (F : Few rs P) : Few rs (P.map hsR) where
  ks := by
    have : kindsOf rs (P.map hsR) = kindsOf rs P := by unfold kindsOf; rw [List.flatMap_map]; rfl
    rw [this]; exact F.ks
  ws q hq := by
    obtain ⟨r, hr, rfl⟩ := List.mem_map.mp hq
    show (r.2.2.map _).length ≤ 8
    rw [List.length_map]; exact F.ws r hr
theorem hs_okw {P : List Rl} (h : OkW P) : OkW (P.map hsR) := fun q hq => by
  obtain ⟨r, hr, rfl⟩ := List.mem_map.mp hq
  obtain ⟨a, b⟩ := h r hr
  refine ⟨fun k hk => ?_, by show (r.2.2.map _).length ≤ 1000; rw [List.length_map]; exact b⟩
  obtain ⟨k0, hk0, rfl⟩ := List.mem_map.mp hk
  exact a k0 hk0
theorem faults_few {rs : List Row} {P : List Rl} (g : GoodC rs) (l3 : rs.length ≤ 3) (k6 : (kindsOf rs P).length ≤ 6) (w4 : ∀ q ∈ P, q.2.2.length ≤ 4) : (faultsL rs P).length ≤ 100000 := by
  have at4 : ∀ {r : Row} {q : Rl} {n : Int} {i : Nat} {k : Kd}, q.2.2.length ≤ 4 → (ftK rs P r q n i k).length ≤ 29 := fun {r q n i k} h => by
    unfold ftK
    split
    · unfold ftAt
      rw [List.length_append, List.length_append]
      have a := flat_le (f := apJ rs P r q.2.2 n i k) 6 (l := List.range q.2.2.length) fun j _ => by unfold apJ; rw [List.length_map]; exact Nat.le_trans (List.length_filter_le _ _) k6
      have b := flat_le (f := saJ rs P r q.2.2 n i k) 1 (l := List.range q.2.2.length) fun j _ => saJ_le _ j
      have c := beL_le (rs := rs) (P := P) (r := r) (n := n) (i := i) (k := k) q.2.1
      rw [List.length_range] at a b
      omega
    · simp
  have i4 : ∀ {r : Row} {q : Rl} {n : Int} {i : Nat}, q.2.2.length ≤ 4 → (ftI rs P r q n i).length ≤ 174 := fun {r q n i} h => by
    unfold ftI
    split
    · simp
    · have a := flat_le (f := ftK rs P r q n i) 29 (l := kindsOf rs P) fun k _ => at4 h
      have := Nat.mul_le_mul_right 29 k6
      omega
  have n4 : ∀ {r : Row} {q : Rl} {n : Int}, q.2.2.length ≤ 4 → (ftN rs P r q n).length ≤ 696 := fun {r q n} h => by
    have a := flat_le (f := ftI rs P r q n) 174 (l := List.range q.2.2.length) fun i _ => i4 h
    rw [List.length_range] at a
    unfold ftN
    omega
  have rl4 : ∀ z, (rlOf P z).2.2.length ≤ 4 := fun z => by
    unfold rlOf
    cases h : lookR P z with
    | none => simp
    | some q => exact w4 q (List.mem_of_find?_eq_some h)
  have r4 : ∀ r ∈ rs, (ftR rs P r).length ≤ 3480 := fun r hr => by
    obtain ⟨z0, z1, z2⟩ := good_sizes g hr
    have a := flat_le (f := fun c => ftN rs P r (rlOf P r.mark) (r.least + ((c : Nat) : Int))) 696 (l := List.range (r.most + 1 - r.least).toNat) fun c _ => n4 (rl4 _)
    rw [List.length_range] at a
    have := Nat.mul_le_mul_right 696 (show (r.most + 1 - r.least).toNat ≤ 5 by omega)
    unfold ftR
    omega
  have a := flat_le (f := ftR rs P) 3480 (l := rs) r4
  have := Nat.mul_le_mul_right 3480 l3
  unfold faultsL
  omega
def ftD (f : Ft) : PyData := .tuple [.str f.1, .str f.2.1, .int f.2.2.1, .int f.2.2.2.1, .int f.2.2.2.2.1, kdD f.2.2.2.2.2.1, kdD f.2.2.2.2.2.2]
theorem fts_dn {K : PySem.W.Frag} {x : Addr} {H : Hp} (nx : ∀ xs, H x ≠ some (.tup xs)) : ∀ {vs : List V} {fl : List Ft}, Paired (FtV H) vs fl → Paired (Dn K x H 2) vs (fl.map ftD)
  | _, _, .nil => .nil
  | v :: vs, f :: fl, .cons ⟨p, a, b, e, h1, h2, h3⟩ t => by
    have ne : ∀ {c : Addr} {xs : List V}, H c = some (.tup xs) → c ≠ x := fun h z => nx _ (z ▸ h)
    rw [e]
    exact .cons (Dn.tup (ne h1) (SqT.of h1) (.cons (Dn.str _) (.cons (Dn.str _) (.cons (Dn.int _) (.cons (Dn.int _) (.cons (Dn.int _) (.cons (Dn.tup (ne h2) (SqT.of h2) (.cons (Dn.str _) (.cons (Dn.str _) .nil))) (.cons (Dn.tup (ne h3) (SqT.of h3) (.cons (Dn.str _) (.cons (Dn.str _) .nil))) .nil))))))) (by simp)) (fts_dn nx t)
end My

namespace My
open PySem L2
def spLaw (K : PySem.W.Frag) : Sp := fun vs H Q _ => ∃ (a : Addr) (ns : List Int), vs = [.ref a] ∧ SqL K H a (ns.map V.int) ∧ ns.length ≤ 63 ∧ ∀ H', Q (.bl true) H'
theorem Dr.ndk {K : PySem.W.Frag} {H H' : Hp} {d t : Addr} (x : Dr K H d t) (n : NdK H H') : Dr K H' d t := ⟨x.ds.elim fun ns h => ⟨ns, n _ _ (fun _ h => nomatch h) h⟩, x.pl.elim fun k h => ⟨k, n _ _ (fun _ h => nomatch h) h⟩, x.ne⟩
def NdF (H H' : Hp) : Prop := ∀ a o, (∀ od u, o ≠ .frz od u) → H a = some o → H' a = some o
theorem NdF.but {H H' : Hp} {a : Addr} {od : Obj} {u : HO} (h1 : H a = some (.frz od u)) (l : But a H H') : NdF H H' := fun c o n h => l _ _ (fun m => by
  rw [m, h1] at h; exact n _ _ (Option.some.inj h).symm) h
theorem Pol.ndF {Cp Cw : Addr} {H H' : Hp} {y x m a b : Addr} {rl : List Rl} (P : Pol Cp Cw H y x m a b rl) (k : NdF H H') : Pol Cp Cw H' y x m a b rl := by
  obtain ⟨⟨dy, hy⟩, hm, ⟨ls, ha, hb, pr⟩, ne, nd⟩ := P
  exact ⟨⟨dy, k _ _ (fun _ _ h => nomatch h) hy⟩, k _ _ (fun _ _ h => nomatch h) hm, ⟨ls, k _ _ (fun _ _ h => nomatch h) ha, k _ _ (fun _ _ h => nomatch h) hb, rlL_keep pr fun c o h t => k c o (fun _ _ z => by rcases t with ⟨_, e⟩ | ⟨_, _, _, _, _, e⟩ <;> (rw [e] at z; cases z)) h⟩, ne, nd⟩
theorem NdK.dn {H H' : Hp} (n : NdK H H') : TpK H H' := fun a xs h => n _ _ (fun _ z => nomatch z) h
theorem adw_lt {k : Wv} (h : Adj k.1 k.2.1 k.2.2.1) : LtW k := by
  obtain ⟨a, b, c⟩ := h
  exact ⟨by omega, by omega, by omega⟩
theorem rdn_okw {t : Addr} {H : Hp} : ∀ {kvs : List (Key × V)} {P : List Rl}, Paired (RdN t H) kvs P → OkW P
  | _, _, .nil => fun _ h => nomatch h
  | _, _, .cons h tl => fun r hr => by
    rcases List.mem_cons.mp hr with rfl | hr
    · obtain ⟨_, _, _, us, _, _, _, _, _, pk, l⟩ := h
      refine ⟨fun k hk => ?_, by rw [← pair_len' pk]; omega⟩
      obtain ⟨i, hi⟩ := List.getElem?_of_mem hk
      obtain ⟨v, _, _, _, _, _, a⟩ := pair_back pk hi
      exact adw_lt a
    · exact rdn_okw tl r hr
section
variable {w : World} {K : PySem.W.Frag} {mg : Str → Option Value} {base : Heap}
set_option maxHeartbeats 32000000 in
set_option pp.maxSteps 500 in
theorem ok_law (T : Txt K mg) : FnOk PP w K mg base CX0 40 T.a_law T.fd_law ["_law_script"] (spLaw K) := by
  refine T.F_law.ok sc_law (fun vs H Q E h => ?_) (fun cdv A outer s H vs Q E hr h => ?_)
  · obtain ⟨a, ns, rfl, _⟩ := h; rfl
  · obtain ⟨a0, ns0, rfl, hS, hlen, qq⟩ := h
    refine ⟨_, (pss_cons (ps_set (i := 1) sc_law.nd rfl (.inl rfl) (pe_call (ok__law_draws T) (hr.mono (by omega)) (by rfl) T.g__law_draws T.F__law_draws.kp T.b__law_draws .nil pass0 (pa_cons (pv 0) pa_nil)))
      (pss_cons (ps_set (i := 2) sc_law.nd rfl (.inl rfl) (pe_lst (pa_cons (pe_int) pa_nil)))
      (pss_cons (ps_set (i := 3) sc_law.nd rfl (.inl rfl) (pe_call (ok__law_wider T) (hr.mono (by omega)) (by rfl) T.g__law_wider T.F__law_wider.kp T.b__law_wider .nil pass0 (pa_cons (pv 1) (pa_cons (pv 2) (pa_cons (pe_call (ok__law_rows T) (hr.mono (by omega)) (by rfl) T.g__law_rows T.F__law_rows.kp T.b__law_rows .nil pass0 (pa_cons (pv 1) (pa_cons (pv 2) (pa_cons (pe_bl) pa_nil)))) pa_nil)))))
      (pss_cons (ps_set (i := 4) sc_law.nd rfl (.inl rfl) (pe_call (ok__law_loose T) (hr.mono (by omega)) (by rfl) T.g__law_loose T.F__law_loose.kp T.b__law_loose .nil pass0 (pa_cons (pv 1) (pa_cons (pv 2) (pa_cons (pe_call (ok__law_rules T) (hr.mono (by omega)) (by rfl) T.g__law_rules T.F__law_rules.kp T.b__law_rules .nil pass0 (pa_cons (pv 1) (pa_cons (pv 2) (pa_cons (pv 3) pa_nil)))) pa_nil)))))
      (pss_cons (ps_set (i := 5) sc_law.nd rfl (.inl rfl) (pe_call (ok__law_policy T) (hr.mono (by omega)) (by rfl) T.g__law_policy T.F__law_policy.kp T.b__law_policy .nil pass0 (pa_cons (pe_call (ok__law_shape T) (hr.mono (by omega)) (by rfl) T.g__law_shape T.F__law_shape.kp T.b__law_shape .nil pass0 (pa_cons (pv 3) pa_nil)) (pa_cons (pv 4) pa_nil))))
      (pss_cons (ps_set (i := 6) sc_law.nd rfl (.inl rfl) (pe_call (ok__law_faults T) (hr.mono (by omega)) (by rfl) T.g__law_faults T.F__law_faults.kp T.b__law_faults .nil pass0 (pa_cons (pv 3) (pa_cons (pv 4) pa_nil))))
      (pss_cons (ps_if (PW.pt (pw_or (pt_not (pt_val (pe_call (ok__law_same T 3) (hr.mono (by omega)) (by rfl) T.g__law_same T.F__law_same.kp T.b__law_same .nil pass0 (pa_cons (pe_listG (E := fun _ _ _ => False) (pgen_call (ok_faults T) (hr.mono (by omega)) (by rfl) T.g_faults T.F_faults.kp T.b_faults .nil (pa_cons (pv 5) pa_nil)) nopass nostop (hr.mono (by omega)) (by rfl) T.n_list rfl) (pa_cons (pv 6) pa_nil))))) (pw_or1 (pt_not (pt_val (pe_call (ok__law_same T 3) (hr.mono (by omega)) (by rfl) T.g__law_same T.F__law_same.kp T.b__law_same .nil pass0 (pa_cons (pe_call (ok_is_safe T) (hr.mono (by omega)) (by rfl) T.g_is_safe T.F_is_safe.kp T.b_is_safe .nil pass0 (pa_cons (pv 5) pa_nil)) (pa_cons (pe_cmpR op_eq (pe_callB call_len_seq (by rfl) T.n_len (by decide +kernel) (pa_cons (pv 6) pa_nil)) (pe_int) (nomark _)) pa_nil)))))))) (pss_one (ps_ret (pe_bl))) pss_nil)
      (pss_cons (ps_lock (ps_for PassesOwn.never rfl (pi_keys (pv 4)) (pg_name (i := 7) sc_law.nd rfl (.inl rfl)) (pss_cons (ps_setLc (i := 8) (own := [("_law_way_here", 9)]) (g := (gName 9)) (by rfl) sc_law.nd rfl rfl (sw_true rfl rfl rfl (by decide +kernel)) (pi_list (pe_ix ix_list (pe_dget (hu_of hr) (pv 4) (pv 7) (fun _ _ => rfl)) (pe_int) (fun _ _ => rfl))) (blkOk_by (own := [("_law_way_here", 9)]) (N := ["_law_script", "_law_draws_here", "_law_at", "_law_rows_here", "_law_rules_here", "_law_policy_here", "_law_due", "_law_mark", "_law_hasty", "_law_way_here"]) (sc := defScope S_law) (by decide +kernel)) (fun _ _ _ _ _ => (pg_name (i := 9) sc_law.nd rfl (by first | exact .inl rfl | exact .inr rfl))) (fun _ _ _ _ _ => pts_nil) (fun _ _ _ _ _ => (pe_call (ok__law_way_made T) (hr.mono (by omega)) (by rfl) T.g__law_way_made T.F__law_way_made.kp T.b__law_way_made .nil pass0 (pa_cons (pe_op op_cat (pe_slice (sl_listK (K := K) rfl) (pv 9) po_none (po_some (pe_int))) (pe_lst (pa_cons (pe_bl) pa_nil))) pa_nil))))
      (pss_one (ps_asg (pe_tup (pa_cons (pe_ix ix_list (pe_dget (hu_of hr) (pv 4) (pv 7) (fun _ _ => rfl)) (pe_int) (fun _ _ => rfl)) (pa_cons (pe_callTy call_tuple_of (by rfl) T.n_tuple (by decide +kernel) (pa_cons (pv 8) pa_nil)) pa_nil))) (pg_sub (pv 5) (pv 7) (set_own T.m_Policy_setitem T.nq_Policy (ok_Policy_setitem T) (hr.mono (by omega)) T.b_Policy_setitem pass0)))))))
      (pss_cons (ps_if (PW.pt (pw_or (pt_not (pt_val (pe_call (ok__law_same T 3) (hr.mono (by omega)) (by rfl) T.g__law_same T.F__law_same.kp T.b__law_same .nil pass0 (pa_cons (pe_listG (E := fun _ _ _ => False) (pgen_call (ok_faults T) (hr.mono (by omega)) (by rfl) T.g_faults T.F_faults.kp T.b_faults .nil (pa_cons (pv 5) pa_nil)) nopass nostop (hr.mono (by omega)) (by rfl) T.n_list rfl) (pa_cons (pe_lst pa_nil) pa_nil))))) (pw_or1 (pt_not (pt_val (pe_call (ok__law_same T 3) (hr.mono (by omega)) (by rfl) T.g__law_same T.F__law_same.kp T.b__law_same .nil pass0 (pa_cons (pe_call (ok_is_safe T) (hr.mono (by omega)) (by rfl) T.g_is_safe T.F_is_safe.kp T.b_is_safe .nil pass0 (pa_cons (pv 5) pa_nil)) (pa_cons (pe_bl) pa_nil)))))))) (pss_one (ps_ret (pe_bl))) pss_nil)
      (pss_cons (ps_lock (ps_for PassesOwn.never rfl (pi_keys (pv 4)) (pg_name (i := 7) sc_law.nd rfl (.inl rfl)) (pss_one (ps_asg (pe_tup (pa_cons (pe_ix ix_list (pe_dget (hu_of hr) (pv 4) (pv 7) (fun _ _ => rfl)) (pe_int) (fun _ _ => rfl)) (pa_cons (pe_callTy call_tuple_of (by rfl) T.n_tuple (by decide +kernel) (pa_cons (pe_lc (own := [("_law_way_here", 9)]) (g := (gName 9)) (by rfl) sc_law.nd (pi_list (pe_ix ix_list (pe_dget (hu_of hr) (pv 4) (pv 7) (fun _ _ => rfl)) (pe_int) (fun _ _ => rfl))) (blkOk_by (own := [("_law_way_here", 9)]) (N := ["_law_script", "_law_draws_here", "_law_at", "_law_rows_here", "_law_rules_here", "_law_policy_here", "_law_due", "_law_mark", "_law_hasty", "_law_way_here"]) (sc := defScope S_law) (by decide +kernel)) (fun _ _ _ _ _ => (pg_name (i := 9) sc_law.nd rfl (by first | exact .inl rfl | exact .inr rfl))) (fun _ _ _ _ _ => pts_nil) (fun _ _ _ _ _ => (pe_call (ok__law_way_made T) (hr.mono (by omega)) (by rfl) T.g__law_way_made T.F__law_way_made.kp T.b__law_way_made .nil pass0 (pa_cons (pv 9) pa_nil)))) pa_nil)) pa_nil))) (pg_sub (pv 5) (pv 7) (set_own T.m_Policy_setitem T.nq_Policy (ok_Policy_setitem T) (hr.mono (by omega)) T.b_Policy_setitem pass0))))))
      (pss_one (ps_ret (pe_and (pe_call (ok__law_same T 3) (hr.mono (by omega)) (by rfl) T.g__law_same T.F__law_same.kp T.b__law_same .nil pass0 (pa_cons (pe_listG (E := fun _ _ _ => False) (pgen_call (ok_faults T) (hr.mono (by omega)) (by rfl) T.g_faults T.F_faults.kp T.b_faults .nil (pa_cons (pv 5) pa_nil)) nopass nostop (hr.mono (by omega)) (by rfl) T.n_list rfl) (pa_cons (pv 6) pa_nil))) (pe_one (pe_call (ok__law_same T 3) (hr.mono (by omega)) (by rfl) T.g__law_same T.F__law_same.kp T.b__law_same .nil pass0 (pa_cons (pe_call (ok_is_safe T) (hr.mono (by omega)) (by rfl) T.g_is_safe T.F_is_safe.kp T.b_is_safe .nil pass0 (pa_cons (pv 5) pa_nil)) (pa_cons (pe_cmpR op_eq (pe_callB call_len_seq (by rfl) T.n_len (by decide +kernel) (pa_cons (pv 6) pa_nil)) (pe_int) (nomark _)) pa_nil))))))))))))))))), ?_⟩
    have big : 100000 < sizeLine := by decide
    refine ⟨_, rfl, a0, ns0, rfl, hS, hlen, fun d zs H1 s1 nd hd => ?_⟩
    refine ⟨by show 1 ≤ sizeLine; decide, fun t hat => ?_⟩
    have D0 : Dr K (upd H1 t (.lst [.int 0])) d t := ⟨⟨zs, same_new hat _ _ hd⟩, ⟨0, upd_same⟩, ne_of_none hd hat⟩
    revert D0
    generalize upd H1 t (.lst [.int 0]) = H2
    intro D0
    -- the rows
    refine ⟨_, rfl, _, rfl, _, rfl, _, rfl, d, t, false, rfl, D0, fun ms prs ws0 R0 H5 pok m3 l1 l3 nms0 oms D5 b5 nR0 hR0 rR0 => ?_⟩
    have g0 := good_named pok (by omega : ms.length ≤ 6) (Nat.le_refl _) nms0 oms
    have m3' : ∀ r ∈ prs.map (nameR ms), r.most ≤ 3 := fun r hr => by
      obtain ⟨p, hp, rfl⟩ := List.mem_map.mp hr
      exact m3 p hp
    have lrs : (prs.map (nameR ms)).length = ms.length := by rw [List.length_map]; exact pok.1
    generalize prs.map (nameR ms) = rs0 at g0 m3' lrs rR0
    refine ⟨d, t, R0, ws0, rs0, rfl, D5, hR0, D0.na nR0, rowsN_sub rR0 fun a f => D0.na f, by omega, fun rs ws R H6 wd D6 b6 nR hR6 rR6 => ?_⟩
    have nRt : R ≠ t := D5.na nR
    have lq := pair_len' wd
    have g := wd_good g0 m3' wd
    have wo : wordsOk rs := g.g.words
    have lws := pair_len' rR6
    have l6 := g.len
    have ndm : (mks rs).Nodup := g.nd
    -- the rules
    refine ⟨_, rfl, _, rfl, _, rfl, _, rfl, _, rfl, d, t, R, ws, rs, rfl, D6, hR6, nRt, rR6, by omega, ndm, fun P0 kv0 G0 H7 e0 w0 D7 b7 nG0 hG0 pG0 => ?_⟩
    have lP0 : P0.length = rs.length := by rw [← List.length_map (f := fun r : Rl => r.1), e0]; unfold mks; rw [List.length_map]
    refine ⟨d, t, G0, kv0, P0, 3, rfl, D7, hG0, pG0, by rw [e0]; exact ndm, by omega, by decide, w0, fun P kv G H8 e1 w1 D8 b8 nG hG pG => ?_⟩
    have nGt : G ≠ t := D7.na nG
    have eP : P.map (·.1) = mks rs := by rw [e1, e0]
    have b68 := b7.trans b8
    have hR8 := b68 _ _ nRt hR6
    have rR8 := rowsN_le rR6 fun a o f e => b68 a o f e
    clear pG0 hG0 nG0 D7 b7 b8 b68 rR6 hR6 D6 w0 e0 lP0 e1 nG
    have okP : OkW P := rdn_okw pG
    have lP : P.length = rs.length := by rw [← List.length_map (f := fun r : Rl => r.1), eP]; unfold mks; rw [List.length_map]
    have ndP : (P.map (·.1)).Nodup := by rw [eP]; exact ndm
    -- the policy
    refine ⟨_, rfl, R, ws, rs, rfl, hR8, rowsN_sub rR8 (fun _ _ => trivial), by omega, by omega, g, fun x Hb sb nx Sx => ?_⟩
    refine ⟨_, rfl, x, G, rs, kv, P, rfl, Sx.sh, ndm, by omega, sb _ _ hG, L2.Paired.mapP pG fun _ _ h => h.v.same sb, eP, fun p m pa pb Hc sc np nm npa npb Pp => ?_⟩
    have sac := sb.trans sc
    have S := Sx.sh.same sc
    have hRc := sac _ _ hR8
    have rRc := rowsN_same rR8 sac
    have hGc := sac _ _ hG
    have pGc : Paired (RdN t Hc) kv P := L2.Paired.mapP pG fun _ _ h => h.keep (.same sac)
    have Dc := D8.same sac
    have nGpa : G ≠ pa := ne_of_none (sb _ _ hG) npa
    have nGpb : G ≠ pb := ne_of_none (sb _ _ hG) npb
    clear Sx nx np nm npa npb sac sb sc hR8 rR8 hG pG D8
    have F : Few rs P := ⟨by have := kinds_len rs P; omega, fun q hq => by have := w1 q hq; omega⟩
    have few := faults_few g (by omega) (by have := kinds_len rs P; omega) (fun q hq => w1 q hq)
    -- what is due
    refine ⟨_, rfl, _, rfl, R, G, ws, kv, P, rs, rfl, hRc, rowsN_sub rRc (fun _ _ => trivial), g, wo, hGc, L2.Paired.mapP pGc fun _ _ h => h.v, eP, okP, F, fun u us Hd sd nu hu pu => ?_⟩
    have lus := pair_len' pu
    have Pd := Pp.same sd
    have Sd := S.same sd
    have hGd := sd _ _ hGc
    have pGd : Paired (RdN t Hd) kv P := L2.Paired.mapP pGc fun _ _ h => h.keep (.same sd)
    have eb : decide (V.int ((us.length : Nat) : Int) = V.int 0) = decide (faultsL rs P = []) := by
      rw [lus, Bool.eq_iff_iff, decide_eq_true_iff, decide_eq_true_iff]
      constructor
      · intro h
        have h := V.int.inj h
        exact List.length_eq_zero_iff.mp (by omega)
      · intro h; rw [h]; rfl
    clear Pp S hRc rRc hGc pGc Dc sd
    refine ⟨_, rfl, p, x, m, pa, pb, P, rs, rfl, Pd, Sd, g, wo, eP, okP, F, fun ys He se py q1 nq1 => ?_⟩
    have lys := pair_len' py
    have sq := same_new (o := .lst ys) nq1
    have hq1 := upd_same (H := He) (a := q1) (o := .lst ys)
    revert sq hq1
    generalize upd He q1 (.lst ys) = Hf
    intro sq hq1
    have sdf := se.trans sq
    obtain ⟨dp, hp⟩ := (Pd.same sdf).obj
    have nx : ∀ xs, Hf p ≠ some (.tup xs) := fun xs z => by rw [z] at hp; cases hp
    refine ⟨_, rfl, p, _, _, .list ((faultsL rs P).map ftD), .list ((faultsL rs P).map ftD), rfl, Dn.lst (fun z => by rw [z, hp] at hq1; cases hq1) (SqL.of hq1) (fts_dn nx (L2.Paired.mapP py fun _ _ h => h.keep (.same sq))) (by omega), Dn.lst (fun z => by have := sdf _ _ hu; rw [z, hp] at this; cases this) (SqL.of (sdf _ _ hu)) (fts_dn nx (L2.Paired.mapP pu fun _ _ h => h.keep (.same sdf))) (by omega), _, rfl, iteNo nsame ?_⟩
    refine ⟨_, rfl, p, x, m, pa, pb, P, rs, rfl, Pd.same sdf, Sd.same sdf, g, wo, eP, okP, F, fun Hg sg => ?_⟩
    have sdg := sdf.trans sg
    refine ⟨_, rfl, u, _, rfl, .inl (SqL.of (sdg _ _ hu)), rfl, ?_⟩
    rw [eb]
    refine ⟨p, _, _, .bool (decide (faultsL rs P = [])), .bool (decide (faultsL rs P = [])), rfl, Dn.bl _, Dn.bl _, _, rfl, iteNo nsame ?_⟩
    have Pg := Pd.same sdg
    have Sg := Sd.same sdg
    have hGg := sdg _ _ hGd
    have hug := sdg _ _ hu
    have pug : Paired (FtV Hg) us (faultsL rs P) := L2.Paired.mapP pu fun _ _ h => h.keep (.same sdg)
    have pGg : Paired (RdN t Hg) kv P := L2.Paired.mapP pGd fun _ _ h => h.keep (.same sdg)
    have lkv := pair_len' pGg
    clear Pd Sd hGd pGd hu pu hq1 py sg sq se nx hp sdf sdg nq1
    -- loop 1
    refine ⟨G, _, hGg, trivial, fun od => ?_⟩
    have bu1 : But G Hg (upd Hg G (.frz od (.dK kv))) := But.upd
    have f1 : (upd Hg G (.frz od (.dK kv))) G = some (.frz od (.dK kv)) := upd_same
    have Q1 := Pg.offD hGg nGpa nGpb bu1
    have T1 := Sg.nd (NdK.but hGg bu1)
    have pk1 : Paired (RdN t (upd Hg G (.frz od (.dK kv)))) kv P := L2.Paired.mapP pGg fun _ _ h => h.keep fun a xs _ e => bu1 _ _ (fun z => by rw [z, hGg] at e; cases e) e
    have hu1 := bu1 _ _ (fun z => by rw [z, hGg] at hug; cases hug) hug
    have pu1 : Paired (FtV (upd Hg G (.frz od (.dK kv)))) us (faultsL rs P) := L2.Paired.mapP pug fun _ _ h => h.keep fun a xs e => bu1 _ _ (fun z => by rw [z, hGg] at e; cases e) e
    revert f1 Q1 T1 pk1 hu1 pu1
    generalize upd Hg G (.frz od (.dK kv)) = J1
    intro f1 Q1 T1 pk1 hu1 pu1
    clear hGg Pg Sg pGg hug pug
    refine ⟨_, rfl, G, od, rfl, .inl ⟨kv, f1, for_it walk_keys (fun i σ H' => ∃ (x7 x8 x9 : Option V), σ = [some (.ref a0), some (.ref d), some (.ref t), some (.ref R), some (.ref G), some (.ref p), some (.ref u), x7, x8, x9] ∧ NdK J1 H' ∧ Pol T.c_Policy T.c_Way H' p x m pa pb ((P.map hsR).take i ++ (P).drop i)) ⟨_, _, _, rfl, fun _ _ _ h => h, by rw [List.take_zero, List.drop_zero, List.nil_append]; exact Q1⟩ (fun i σ H' _ ⟨_, _, _, _, s, _⟩ => s _ _ (fun _ h => nomatch h) f1) ?_ ?_⟩⟩
    · rintro i v σ Hz Ha hi ⟨x7, x8, x9, rfl, na, Pa⟩ ⟨rfl, k0, v0, ek, rfl⟩
      have kL : ∀ {a : Addr} {xs : List V}, J1 a = some (.lst xs) → Ha a = some (.lst xs) := fun h => na _ _ (fun _ h => nomatch h) h
      have fa := na _ _ (fun _ h => by cases h) f1
      have pka : Paired (RdN t Ha) kv P := L2.Paired.mapP pk1 fun _ _ h => h.keep fun a xs _ e => kL e
      obtain ⟨r, hr1, hk1, _⟩ := pair_get' pka ek
      have hk1 : k0 = .inr r.1 := hk1
      subst hk1
      obtain ⟨kv1, ev, _, q0, p0, us0, eq0, nq0, hq0, np0, hp0, pw0, l0⟩ := val_rdn pka ndP hr1
      have dg : ∀ {H' : Hp}, H' G = some (.frz od (.dK kv)) → DGet H' G (.str r.1) (some (.ref q0)) := fun {H'} h => by
        have : DGet H' G (kV (.inr r.1)) (valV kv (.inr r.1)) := .inl ⟨kv, .inr r.1, .inr ⟨od, h⟩, rfl, rfl⟩
        rw [ev, eq0] at this
        exact this
      have mk : r.1 ∈ P.map (·.1) := List.mem_map.mpr ⟨r, List.mem_of_getElem? hr1, rfl⟩
      refine ⟨_, rfl, _, rfl, G, _, rfl, dg fa, _, _, _, _, rfl, rfl, SqL.of hq0, atI_nat (j := 1) rfl, p0, rfl, ⟨_, SqL.of hp0⟩, fun D hD => lc_list (K := K) (a := p0) (xs := us0) (fun j H' => ∃ vs, Same Ha H' ∧ H' D = some (.lst vs) ∧ Paired (WyV T.c_Way H') vs ((r.2.2.map fun k => ((k.1, k.2.1, k.2.2.1, true) : Wv)).take j)) ⟨[], same_new hD, upd_same, by rw [List.take_zero]; exact .nil⟩ (fun j H' _ ⟨_, s, _⟩ => SqL.of (s _ _ hp0)) ?_ ?_⟩
      · rintro j v H5 hv ⟨vs, s5, h5, pr⟩
        obtain ⟨k, hk, wq, rfl, _, hwq, aj⟩ := pair_get' pw0 hv
        have hi := (List.getElem?_eq_some_iff.mp hv).1
        have lvs := pair_len' pr
        rw [List.length_take, List.length_map] at lvs
        refine ⟨rfl, ?_⟩
        refine yes_i ?_
        refine iteT ⟨_, rfl, _, rfl, wq, _, rfl, SqL.of (s5 _ _ hwq), fun sl nsl => ?_⟩
        rw [show (3 : Int) = ((3 : Nat) : Int) from rfl, cut_to]
        have ss := same_new (o := .lst ([V.int k.1, .int k.2.1, .int k.2.2.1, .bl k.2.2.2].take 3)) nsl
        have hsl := upd_same (H := H5) (a := sl) (o := .lst ([V.int k.1, .int k.2.1, .int k.2.2.1, .bl k.2.2.2].take 3))
        revert ss hsl
        generalize upd H5 sl (.lst ([V.int k.1, .int k.2.1, .int k.2.2.1, .bl k.2.2.2].take 3)) = H6
        intro ss hsl
        refine ⟨by show 1 ≤ sizeLine; decide, fun tl ntl => ?_⟩
        have st := same_new (o := .lst [V.bl true]) ntl
        refine ⟨sl, tl, _, _, rfl, rfl, st _ _ hsl, upd_same, by show 3 + 1 ≤ sizeLine; decide, fun wn nwn => ?_⟩
        have sw := same_new (o := .lst ([V.int k.1, .int k.2.1, .int k.2.2.1, .bl k.2.2.2].take 3 ++ [V.bl true])) nwn
        have s5w := s5.trans ((ss.trans st).trans sw)
        refine ⟨wn, k.1, k.2.1, k.2.2.1, true, rfl, aj, SqL.of upd_same, fun z H7 s7 nz wz => ?_⟩
        have s57 := ((ss.trans st).trans sw).trans s7
        have h7 := s57 _ _ h5
        have kk : Kw T.c_Way H7 (upd H7 D (.lst (vs ++ [.ref z]))) := .upd h7 fun t => by rcases t with ⟨_, e⟩ | ⟨_, _, _, _, _, e⟩ <;> cases e
        refine ⟨vs, h7, by omega, vs ++ [.ref z], same_mut (s5.trans s57) hD, upd_same, ?_⟩
        rw [List.take_add_one, List.getElem?_map, hk]
        exact pair_app' (L2.Paired.mapP pr fun _ _ h => (h.keep (.same s57)).keep kk) (.cons (WyV.keep ⟨z, rfl, wz⟩ kk) .nil)
      rintro H5 ⟨vs, s5', h5, pr⟩
      rw [List.take_of_length_le (by rw [pair_len' pw0]; rw [List.length_map]; exact Nat.le_refl _)] at pr
      refine ⟨_, rfl, _, rfl, G, _, rfl, dg (s5' _ _ fa), _, _, _, _, rfl, rfl, SqL.of (s5' _ _ hq0), atI_nat (j := 0) rfl, _, rfl, D, _, rfl, .inl ⟨SqL.of h5, fun u1 nu1 => ⟨by show 2 ≤ sizeLine; decide, fun u2 nu2 => ?_⟩⟩⟩
      have s6 := same_new (o := .tup vs) nu1
      have s7 := same_new (o := .tup [.bl r.2.1, .ref u1]) nu2
      have w7 : WysT T.c_Way (upd (upd H5 u1 (.tup vs)) u2 (.tup [.bl r.2.1, .ref u1])) u1 (r.2.2.map fun k => ((k.1, k.2.1, k.2.2.1, true) : Wv)) := ⟨vs, s7 _ _ upd_same, L2.Paired.mapP pr fun _ _ h => h.keep (.same (s6.trans s7))⟩
      have hu2 : (upd (upd H5 u1 (.tup vs)) u2 (.tup [.bl r.2.1, .ref u1])) u2 = some (.tup [.bl r.2.1, .ref u1]) := upd_same
      have s57 := s5'.trans (s6.trans s7)
      revert w7 hu2 s57
      generalize upd (upd H5 u1 (.tup vs)) u2 (.tup [.bl r.2.1, .ref u1]) = H7
      intro w7 hu2 s57
      have P7 := Pa.same s57
      obtain ⟨dy7, hy7⟩ := P7.obj
      obtain ⟨st1, st2, st3⟩ := set_step (A := P) (B := P.map hsR) (i := i) (a := r) (b := hsR r) (hs_fst P).symm ndP hr1 (by rw [List.getElem?_map, hr1]; rfl)
      have lmix : ((P.map hsR).take i ++ (P).drop i).length ≤ 1000 := by
        have := congrArg List.length st3
        rw [List.length_map, List.length_map] at this
        omega
      refine ⟨_, rfl, _, rfl, p, dy7, _, rfl, hy7, p, x, m, pa, pb, u2, u1, _, r.1, r.2.1, r.2.2.map fun k => ((k.1, k.2.1, k.2.2.1, true) : Wv), rfl, P7, lmix, by rw [st3]; exact mk, hu2, w7, fun H8 le8 kw8 P8 => ?_⟩
      obtain ⟨_, _, ⟨lsp, hpa, hpb, _⟩, _, _⟩ := id P7
      refine ⟨_, _, _, rfl, na.trans ((NdK.same s57).trans (.le hpa hpb le8)), ?_⟩
      rw [show ((r.1, r.2.1, r.2.2.map fun k => ((k.1, k.2.1, k.2.2.1, true) : Wv)) : Rl) = hsR r from rfl, st1] at P8
      exact P8
    rintro σ Ha ⟨x7, x8, x9, rfl, na, Pa⟩
    have fa := na _ _ (fun _ h => by cases h) f1
    rw [List.take_of_length_le (by rw [List.length_map]; rw [lkv]; exact Nat.le_refl _), List.drop_eq_nil_of_le (by rw [lkv]; exact Nat.le_refl _), List.append_nil] at Pa
    have bz : But G Ha (upd Ha G (.dK kv)) := But.upd
    have hGz1 : (upd Ha G (.dK kv)) G = some (.dK kv) := upd_same
    have Pz1 := Pa.ndF (NdF.but fa bz)
    have nf : ∀ c o, (∀ k, o ≠ .dK k) → (∀ q k, o ≠ .frz q k) → J1 c = some o → (upd Ha G (.dK kv)) c = some o := fun c o n1 n2 h => bz _ _ (fun z => by rw [z, f1] at h; exact n2 _ _ (Option.some.inj h).symm) (na _ _ n1 h)
    have Sz1 : ShO T.c_Shape (upd Ha G (.dK kv)) x rs := by
      obtain ⟨dx, l, m, vs, hx, hl, hr, hm⟩ := T1
      exact ⟨dx, l, m, vs, nf _ _ (fun _ h => nomatch h) (fun _ _ h => nomatch h) hx, nf _ _ (fun _ h => nomatch h) (fun _ _ h => nomatch h) hl, rowsT_keep hr (fun a xs e => nf _ _ (fun _ h => nomatch h) (fun _ _ h => nomatch h) e), nf _ _ (fun _ h => nomatch h) (fun _ _ h => nomatch h) hm⟩
    have huz1 := nf _ _ (fun _ h => by cases h) (fun _ _ h => by cases h) hu1
    have puz1 : Paired (FtV (upd Ha G (.dK kv))) us (faultsL rs P) := L2.Paired.mapP pu1 fun _ _ h => h.keep fun a xs e => nf _ _ (fun _ h => nomatch h) (fun _ _ h => nomatch h) e
    have pGz1 : Paired (RdN t (upd Ha G (.dK kv))) kv P := L2.Paired.mapP pk1 fun _ _ h => h.keep fun a xs _ e => nf _ _ (fun _ h => nomatch h) (fun _ _ h => nomatch h) e
    refine ⟨fa, ?_⟩
    revert hGz1 Pz1 Sz1 huz1 puz1 pGz1
    clear nf bz Pa fa na f1 Q1 T1 pk1 hu1 pu1 bu1
    generalize upd Ha G (.dK kv) = Hz1
    intro hGz1 Pz1 Sz1 huz1 puz1 pGz1
    -- no fault
    have okH := hs_okw okP
    have FH := hs_few F
    have eH : (P.map hsR).map (·.1) = mks rs := by rw [hs_fst]; exact eP
    have nf0 := hasty_none rs P
    refine ⟨_, rfl, p, x, m, pa, pb, P.map hsR, rs, rfl, Pz1, Sz1, g, wo, eH, okH, FH, fun ys He se py q1 nq1 => ?_⟩
    have ys0 : ys = [] := pair_nil py nf0
    subst ys0
    have sq := same_new (o := .lst ([] : List V)) nq1
    have hq1 := upd_same (H := He) (a := q1) (o := .lst ([] : List V))
    revert sq hq1
    generalize upd He q1 (.lst ([] : List V)) = Hf
    intro sq hq1
    refine ⟨Nat.zero_le _, fun q2 nq2 => ?_⟩
    have sq2 := same_new (o := .lst ([] : List V)) nq2
    have hq2 := upd_same (H := Hf) (a := q2) (o := .lst ([] : List V))
    have hq1' := sq2 _ _ hq1
    revert sq2 hq2 hq1'
    generalize upd Hf q2 (.lst ([] : List V)) = Hg2
    intro sq2 hq2 hq1'
    have sdf := (se.trans sq).trans sq2
    obtain ⟨dp, hp⟩ := (Pz1.same sdf).obj
    refine ⟨p, _, _, .list [], .list [], rfl, Dn.lst (fun z => by rw [z, hp] at hq1'; cases hq1') (SqL.of hq1') .nil (by simp), Dn.lst (fun z => by rw [z, hp] at hq2; cases hq2) (SqL.of hq2) .nil (by simp), _, rfl, iteNo nsame ?_⟩
    refine ⟨_, rfl, p, x, m, pa, pb, P.map hsR, rs, rfl, Pz1.same sdf, Sz1.same sdf, g, wo, eH, okH, FH, fun Hh sh => ?_⟩
    rw [decide_eq_true nf0]
    refine ⟨p, _, _, .bool true, .bool true, rfl, Dn.bl _, Dn.bl _, _, rfl, iteNo nsame ?_⟩
    have sdh := sdf.trans sh
    have Ph := Pz1.same sdh
    have Sh := Sz1.same sdh
    have hGh := sdh _ _ hGz1
    have huh := sdh _ _ huz1
    have puh : Paired (FtV Hh) us (faultsL rs P) := L2.Paired.mapP puz1 fun _ _ h => h.keep (.same sdh)
    have pGh : Paired (RdN t Hh) kv P := L2.Paired.mapP pGz1 fun _ _ h => h.keep (.same sdh)
    clear Pz1 Sz1 hGz1 huz1 puz1 pGz1 hp hq1' hq2 sq2 hq1 sq se py nq1 nq2 sdf sdh sh
    -- loop 2
    refine ⟨G, _, hGh, trivial, fun od => ?_⟩
    have bu2 : But G Hh (upd Hh G (.frz od (.dK kv))) := But.upd
    have f2 : (upd Hh G (.frz od (.dK kv))) G = some (.frz od (.dK kv)) := upd_same
    have Q2 := Ph.offD hGh nGpa nGpb bu2
    have T2 := Sh.nd (NdK.but hGh bu2)
    have pk2 : Paired (RdN t (upd Hh G (.frz od (.dK kv)))) kv P := L2.Paired.mapP pGh fun _ _ h => h.keep fun a xs _ e => bu2 _ _ (fun z => by rw [z, hGh] at e; cases e) e
    have hu2 := bu2 _ _ (fun z => by rw [z, hGh] at huh; cases huh) huh
    have pu2 : Paired (FtV (upd Hh G (.frz od (.dK kv)))) us (faultsL rs P) := L2.Paired.mapP puh fun _ _ h => h.keep fun a xs e => bu2 _ _ (fun z => by rw [z, hGh] at e; cases e) e
    revert f2 Q2 T2 pk2 hu2 pu2
    generalize upd Hh G (.frz od (.dK kv)) = J2
    intro f2 Q2 T2 pk2 hu2 pu2
    clear hGh Ph Sh pGh huh puh
    refine ⟨_, rfl, G, od, rfl, .inl ⟨kv, f2, for_it walk_keys (fun i σ H' => ∃ (x7 x8 x9 : Option V), σ = [some (.ref a0), some (.ref d), some (.ref t), some (.ref R), some (.ref G), some (.ref p), some (.ref u), x7, x8, x9] ∧ NdK J2 H' ∧ Pol T.c_Policy T.c_Way H' p x m pa pb ((P).take i ++ (P.map hsR).drop i)) ⟨_, _, _, rfl, fun _ _ _ h => h, by rw [List.take_zero, List.drop_zero, List.nil_append]; exact Q2⟩ (fun i σ H' _ ⟨_, _, _, _, s, _⟩ => s _ _ (fun _ h => nomatch h) f2) ?_ ?_⟩⟩
    · rintro i v σ Hz Ha hi ⟨x7, x8, x9, rfl, na, Pa⟩ ⟨rfl, k0, v0, ek, rfl⟩
      have kL : ∀ {a : Addr} {xs : List V}, J2 a = some (.lst xs) → Ha a = some (.lst xs) := fun h => na _ _ (fun _ h => nomatch h) h
      have fa := na _ _ (fun _ h => by cases h) f2
      have pka : Paired (RdN t Ha) kv P := L2.Paired.mapP pk2 fun _ _ h => h.keep fun a xs _ e => kL e
      obtain ⟨r, hr1, hk1, _⟩ := pair_get' pka ek
      have hk1 : k0 = .inr r.1 := hk1
      subst hk1
      obtain ⟨kv1, ev, _, q0, p0, us0, eq0, nq0, hq0, np0, hp0, pw0, l0⟩ := val_rdn pka ndP hr1
      have dg : ∀ {H' : Hp}, H' G = some (.frz od (.dK kv)) → DGet H' G (.str r.1) (some (.ref q0)) := fun {H'} h => by
        have : DGet H' G (kV (.inr r.1)) (valV kv (.inr r.1)) := .inl ⟨kv, .inr r.1, .inr ⟨od, h⟩, rfl, rfl⟩
        rw [ev, eq0] at this
        exact this
      have mk : r.1 ∈ P.map (·.1) := List.mem_map.mpr ⟨r, List.mem_of_getElem? hr1, rfl⟩
      refine ⟨_, rfl, _, rfl, G, _, rfl, dg fa, _, _, _, _, rfl, rfl, SqL.of hq0, atI_nat (j := 0) rfl, _, rfl, _, rfl, G, _, rfl, dg fa, _, _, _, _, rfl, rfl, SqL.of hq0, atI_nat (j := 1) rfl, p0, rfl, ⟨_, SqL.of hp0⟩, fun D hD => lc_list (K := K) (a := p0) (xs := us0) (fun j H' => ∃ vs, Same Ha H' ∧ H' D = some (.lst vs) ∧ Paired (WyV T.c_Way H') vs ((r.2.2).take j)) ⟨[], same_new hD, upd_same, by rw [List.take_zero]; exact .nil⟩ (fun j H' _ ⟨_, s, _⟩ => SqL.of (s _ _ hp0)) ?_ ?_⟩
      · rintro j v H5 hv ⟨vs, s5, h5, pr⟩
        obtain ⟨k, hk, wq, rfl, _, hwq, aj⟩ := pair_get' pw0 hv
        have hi := (List.getElem?_eq_some_iff.mp hv).1
        have lvs := pair_len' pr
        rw [List.length_take] at lvs
        refine ⟨rfl, ?_⟩
        refine yes_i ?_
        refine iteT ⟨_, rfl, wq, k.1, k.2.1, k.2.2.1, k.2.2.2, rfl, aj, SqL.of (s5 _ _ hwq), fun z H7 s7 nz wz => ?_⟩
        have s57 := s7
        have h7 := s57 _ _ h5
        have kk : Kw T.c_Way H7 (upd H7 D (.lst (vs ++ [.ref z]))) := .upd h7 fun t => by rcases t with ⟨_, e⟩ | ⟨_, _, _, _, _, e⟩ <;> cases e
        refine ⟨vs, h7, by omega, vs ++ [.ref z], same_mut (s5.trans s57) hD, upd_same, ?_⟩
        rw [List.take_add_one, hk]
        exact pair_app' (L2.Paired.mapP pr fun _ _ h => (h.keep (.same s57)).keep kk) (.cons (WyV.keep ⟨z, rfl, wz⟩ kk) .nil)
      rintro H5 ⟨vs, s5', h5, pr⟩
      rw [List.take_of_length_le (by rw [pair_len' pw0]; exact Nat.le_refl _)] at pr
      refine ⟨D, _, rfl, .inl ⟨SqL.of h5, fun u1 nu1 => ⟨by show 2 ≤ sizeLine; decide, fun u2 nu2 => ?_⟩⟩⟩
      have s6 := same_new (o := .tup vs) nu1
      have s7 := same_new (o := .tup [.bl r.2.1, .ref u1]) nu2
      have w7 : WysT T.c_Way (upd (upd H5 u1 (.tup vs)) u2 (.tup [.bl r.2.1, .ref u1])) u1 (r.2.2) := ⟨vs, s7 _ _ upd_same, L2.Paired.mapP pr fun _ _ h => h.keep (.same (s6.trans s7))⟩
      have hu2 : (upd (upd H5 u1 (.tup vs)) u2 (.tup [.bl r.2.1, .ref u1])) u2 = some (.tup [.bl r.2.1, .ref u1]) := upd_same
      have s57 := s5'.trans (s6.trans s7)
      revert w7 hu2 s57
      generalize upd (upd H5 u1 (.tup vs)) u2 (.tup [.bl r.2.1, .ref u1]) = H7
      intro w7 hu2 s57
      have P7 := Pa.same s57
      obtain ⟨dy7, hy7⟩ := P7.obj
      obtain ⟨st1, st2, st3⟩ := set_step (A := P.map hsR) (B := P) (i := i) (a := hsR r) (b := r) (hs_fst P) (by rw [hs_fst]; exact ndP) (by rw [List.getElem?_map, hr1]; rfl) hr1
      rw [hs_fst] at st3
      have lmix : ((P).take i ++ (P.map hsR).drop i).length ≤ 1000 := by
        have := congrArg List.length st3
        rw [List.length_map, List.length_map] at this
        omega
      refine ⟨_, rfl, _, rfl, p, dy7, _, rfl, hy7, p, x, m, pa, pb, u2, u1, _, r.1, r.2.1, r.2.2, rfl, P7, lmix, by rw [st3]; exact mk, hu2, w7, fun H8 le8 kw8 P8 => ?_⟩
      obtain ⟨_, _, ⟨lsp, hpa, hpb, _⟩, _, _⟩ := id P7
      refine ⟨_, _, _, rfl, na.trans ((NdK.same s57).trans (.le hpa hpb le8)), ?_⟩
      rw [show ((r.1, r.2.1, r.2.2) : Rl) = r from rfl, st1] at P8
      exact P8
    rintro σ Ha ⟨x7, x8, x9, rfl, na, Pa⟩
    have fa := na _ _ (fun _ h => by cases h) f2
    rw [List.take_of_length_le (by rw [lkv]; exact Nat.le_refl _), List.drop_eq_nil_of_le (by rw [List.length_map]; rw [lkv]; exact Nat.le_refl _), List.append_nil] at Pa
    have bz : But G Ha (upd Ha G (.dK kv)) := But.upd
    have hGz2 : (upd Ha G (.dK kv)) G = some (.dK kv) := upd_same
    have Pz2 := Pa.ndF (NdF.but fa bz)
    have nf : ∀ c o, (∀ k, o ≠ .dK k) → (∀ q k, o ≠ .frz q k) → J2 c = some o → (upd Ha G (.dK kv)) c = some o := fun c o n1 n2 h => bz _ _ (fun z => by rw [z, f2] at h; exact n2 _ _ (Option.some.inj h).symm) (na _ _ n1 h)
    have Sz2 : ShO T.c_Shape (upd Ha G (.dK kv)) x rs := by
      obtain ⟨dx, l, m, vs, hx, hl, hr, hm⟩ := T2
      exact ⟨dx, l, m, vs, nf _ _ (fun _ h => nomatch h) (fun _ _ h => nomatch h) hx, nf _ _ (fun _ h => nomatch h) (fun _ _ h => nomatch h) hl, rowsT_keep hr (fun a xs e => nf _ _ (fun _ h => nomatch h) (fun _ _ h => nomatch h) e), nf _ _ (fun _ h => nomatch h) (fun _ _ h => nomatch h) hm⟩
    have huz2 := nf _ _ (fun _ h => by cases h) (fun _ _ h => by cases h) hu2
    have puz2 : Paired (FtV (upd Ha G (.dK kv))) us (faultsL rs P) := L2.Paired.mapP pu2 fun _ _ h => h.keep fun a xs e => nf _ _ (fun _ h => nomatch h) (fun _ _ h => nomatch h) e
    have pGz2 : Paired (RdN t (upd Ha G (.dK kv))) kv P := L2.Paired.mapP pk2 fun _ _ h => h.keep fun a xs _ e => nf _ _ (fun _ h => nomatch h) (fun _ _ h => nomatch h) e
    refine ⟨fa, ?_⟩
    revert hGz2 Pz2 Sz2 huz2 puz2 pGz2
    clear nf bz Pa fa na f2 Q2 T2 pk2 hu2 pu2 bu2
    generalize upd Ha G (.dK kv) = Hz2
    intro hGz2 Pz2 Sz2 huz2 puz2 pGz2
    -- as it was
    refine ⟨_, rfl, p, x, m, pa, pb, P, rs, rfl, Pz2, Sz2, g, wo, eP, okP, F, fun ys He se py q1 nq1 => ?_⟩
    have lys := pair_len' py
    have sq := same_new (o := .lst ys) nq1
    have hq1 := upd_same (H := He) (a := q1) (o := .lst ys)
    revert sq hq1
    generalize upd He q1 (.lst ys) = Hf
    intro sq hq1
    have sdf := se.trans sq
    obtain ⟨dp, hp⟩ := (Pz2.same sdf).obj
    have nx : ∀ xs, Hf p ≠ some (.tup xs) := fun xs z => by rw [z] at hp; cases hp
    refine ⟨_, rfl, p, _, _, .list ((faultsL rs P).map ftD), .list ((faultsL rs P).map ftD), rfl, Dn.lst (fun z => by rw [z, hp] at hq1; cases hq1) (SqL.of hq1) (fts_dn nx (L2.Paired.mapP py fun _ _ h => h.keep (.same sq))) (by omega), Dn.lst (fun z => by have := sdf _ _ huz2; rw [z, hp] at this; cases this) (SqL.of (sdf _ _ huz2)) (fts_dn nx (L2.Paired.mapP puz2 fun _ _ h => h.keep (.same sdf))) (by omega), _, rfl, iteYes (same_yes rfl) ?_⟩
    refine ⟨_, rfl, p, x, m, pa, pb, P, rs, rfl, Pz2.same sdf, Sz2.same sdf, g, wo, eP, okP, F, fun Hg sg => ?_⟩
    refine ⟨_, rfl, u, _, rfl, .inl (SqL.of (sg _ _ (sdf _ _ huz2))), rfl, ?_⟩
    rw [eb]
    refine ⟨p, _, _, .bool (decide (faultsL rs P = [])), .bool (decide (faultsL rs P = [])), rfl, Dn.bl _, Dn.bl _, ?_⟩
    rw [same_yes rfl]
    exact qq Hg
end
end My

namespace My
open PySem L2
theorem all_mk {w : World} {K : PySem.W.Frag} {h : Heap} {mg : Str → Option Value} {fa : Addr} (X : K.In h) (G : h.Ns mainGlobals mg) (hfa : mg "law" = some (.ref fa))
    {c_Way : Addr}
    {c_Policy : Addr}
    {c_Shape : Addr}
    {f_kinds : Addr} {od_kinds an_kinds : Option Addr} {sl_kinds : Array (Option Value)} {oc_kinds kV_kinds dc_kinds pm_kinds cd_kinds ct_kinds : Value}
    {f_supply : Addr} {od_supply an_supply : Option Addr} {sl_supply : Array (Option Value)} {oc_supply kV_supply dc_supply pm_supply cd_supply ct_supply : Value}
    {f_fits : Addr} {od_fits an_fits : Option Addr} {sl_fits : Array (Option Value)} {oc_fits kV_fits dc_fits pm_fits cd_fits ct_fits : Value}
    {f_first_rung : Addr} {od_first_rung an_first_rung : Option Addr} {sl_first_rung : Array (Option Value)} {oc_first_rung kV_first_rung dc_first_rung pm_first_rung cd_first_rung ct_first_rung : Value}
    {f_ladder : Addr} {od_ladder an_ladder : Option Addr} {sl_ladder : Array (Option Value)} {oc_ladder kV_ladder dc_ladder pm_ladder cd_ladder ct_ladder : Value}
    {f_reached : Addr} {od_reached an_reached : Option Addr} {sl_reached : Array (Option Value)} {oc_reached kV_reached dc_reached pm_reached cd_reached ct_reached : Value}
    {f_reaches : Addr} {od_reaches an_reaches : Option Addr} {sl_reaches : Array (Option Value)} {oc_reaches kV_reaches dc_reaches pm_reaches cd_reaches ct_reaches : Value}
    {f_meeting_at : Addr} {od_meeting_at an_meeting_at : Option Addr} {sl_meeting_at : Array (Option Value)} {oc_meeting_at kV_meeting_at dc_meeting_at pm_meeting_at cd_meeting_at ct_meeting_at : Value}
    {f_meeting : Addr} {od_meeting an_meeting : Option Addr} {sl_meeting : Array (Option Value)} {oc_meeting kV_meeting dc_meeting pm_meeting cd_meeting ct_meeting : Value}
    {f_neighbours : Addr} {od_neighbours an_neighbours : Option Addr} {sl_neighbours : Array (Option Value)} {oc_neighbours kV_neighbours dc_neighbours pm_neighbours cd_neighbours ct_neighbours : Value}
    {f_ahead_of : Addr} {od_ahead_of an_ahead_of : Option Addr} {sl_ahead_of : Array (Option Value)} {oc_ahead_of kV_ahead_of dc_ahead_of pm_ahead_of cd_ahead_of ct_ahead_of : Value}
    {f_same_start : Addr} {od_same_start an_same_start : Option Addr} {sl_same_start : Array (Option Value)} {oc_same_start kV_same_start dc_same_start pm_same_start cd_same_start ct_same_start : Value}
    {f_faults_at : Addr} {od_faults_at an_faults_at : Option Addr} {sl_faults_at : Array (Option Value)} {oc_faults_at kV_faults_at dc_faults_at pm_faults_at cd_faults_at ct_faults_at : Value}
    {f_faults : Addr} {od_faults an_faults : Option Addr} {sl_faults : Array (Option Value)} {oc_faults kV_faults dc_faults pm_faults cd_faults ct_faults : Value}
    {f_is_safe : Addr} {od_is_safe an_is_safe : Option Addr} {sl_is_safe : Array (Option Value)} {oc_is_safe kV_is_safe dc_is_safe pm_is_safe cd_is_safe ct_is_safe : Value}
    {f_rank : Addr} {od_rank an_rank : Option Addr} {sl_rank : Array (Option Value)} {oc_rank kV_rank dc_rank pm_rank cd_rank ct_rank : Value}
    {f_needed : Addr} {od_needed an_needed : Option Addr} {sl_needed : Array (Option Value)} {oc_needed kV_needed dc_needed pm_needed cd_needed ct_needed : Value}
    {f_Way_init : Addr} {od_Way_init an_Way_init : Option Addr} {sl_Way_init : Array (Option Value)} {oc_Way_init dc_Way_init pm_Way_init cd_Way_init ct_Way_init : Value}
    {dt_Way_init : Addr} {odt_Way_init : Option Addr} {cdt_Way_init : Value} {ndt_Way_init : Nat} {sdt_Way_init : Array (Option Value)} {tt_Way_init_0 : Tok} {tt_Way_init_1 : Tok} {tt_Way_init_2 : Tok}
    {kd_Way_init : Addr} 
    {f_Way_needs : Addr} {od_Way_needs an_Way_needs : Option Addr} {sl_Way_needs : Array (Option Value)} {oc_Way_needs kV_Way_needs dc_Way_needs pm_Way_needs cd_Way_needs ct_Way_needs : Value}
    {f_Policy_init : Addr} {od_Policy_init an_Policy_init : Option Addr} {sl_Policy_init : Array (Option Value)} {oc_Policy_init dc_Policy_init pm_Policy_init cd_Policy_init ct_Policy_init : Value}
    {kV_Policy_init : Value}
    {dt_Policy_init : Addr} {odt_Policy_init : Option Addr} {cdt_Policy_init : Value} {ndt_Policy_init : Nat} {sdt_Policy_init : Array (Option Value)} {ed_Policy_init_0 : Addr}
    {oe_Policy_init_0 : Option Addr} {ne_Policy_init_0 : Nat} {se_Policy_init_0 : Array (Option Value)}
    {f_Policy_getitem : Addr} {od_Policy_getitem an_Policy_getitem : Option Addr} {sl_Policy_getitem : Array (Option Value)} {oc_Policy_getitem kV_Policy_getitem dc_Policy_getitem pm_Policy_getitem cd_Policy_getitem ct_Policy_getitem : Value}
    {f_Policy_setitem : Addr} {od_Policy_setitem an_Policy_setitem : Option Addr} {sl_Policy_setitem : Array (Option Value)} {oc_Policy_setitem kV_Policy_setitem dc_Policy_setitem pm_Policy_setitem cd_Policy_setitem ct_Policy_setitem : Value}
    {f_Policy_starts_at : Addr} {od_Policy_starts_at an_Policy_starts_at : Option Addr} {sl_Policy_starts_at : Array (Option Value)} {oc_Policy_starts_at kV_Policy_starts_at dc_Policy_starts_at pm_Policy_starts_at cd_Policy_starts_at ct_Policy_starts_at : Value}
    {f_Policy_ways_of : Addr} {od_Policy_ways_of an_Policy_ways_of : Option Addr} {sl_Policy_ways_of : Array (Option Value)} {oc_Policy_ways_of kV_Policy_ways_of dc_Policy_ways_of pm_Policy_ways_of cd_Policy_ways_of ct_Policy_ways_of : Value}
    {f_Policy_starts : Addr} {od_Policy_starts an_Policy_starts : Option Addr} {sl_Policy_starts : Array (Option Value)} {oc_Policy_starts kV_Policy_starts dc_Policy_starts pm_Policy_starts cd_Policy_starts ct_Policy_starts : Value}
    {p_Policy_starts : Addr} {rs_Policy_starts : List Value}
    {f_is_mark : Addr} {od_is_mark an_is_mark : Option Addr} {sl_is_mark : Array (Option Value)} {oc_is_mark kV_is_mark dc_is_mark pm_is_mark cd_is_mark ct_is_mark : Value}
    {f_sound_row : Addr} {od_sound_row an_sound_row : Option Addr} {sl_sound_row : Array (Option Value)} {oc_sound_row kV_sound_row dc_sound_row pm_sound_row cd_sound_row ct_sound_row : Value}
    {f_barren : Addr} {od_barren an_barren : Option Addr} {sl_barren : Array (Option Value)} {oc_barren kV_barren dc_barren pm_barren cd_barren ct_barren : Value}
    {f_Shape_init : Addr} {od_Shape_init an_Shape_init : Option Addr} {sl_Shape_init : Array (Option Value)} {oc_Shape_init kV_Shape_init dc_Shape_init pm_Shape_init cd_Shape_init ct_Shape_init : Value}
    {f_Shape_getitem : Addr} {od_Shape_getitem an_Shape_getitem : Option Addr} {sl_Shape_getitem : Array (Option Value)} {oc_Shape_getitem kV_Shape_getitem dc_Shape_getitem pm_Shape_getitem cd_Shape_getitem ct_Shape_getitem : Value}
    {f_Shape_iter : Addr} {od_Shape_iter an_Shape_iter : Option Addr} {sl_Shape_iter : Array (Option Value)} {oc_Shape_iter kV_Shape_iter dc_Shape_iter pm_Shape_iter cd_Shape_iter ct_Shape_iter : Value}
    {f_Shape_len : Addr} {od_Shape_len an_Shape_len : Option Addr} {sl_Shape_len : Array (Option Value)} {oc_Shape_len kV_Shape_len dc_Shape_len pm_Shape_len cd_Shape_len ct_Shape_len : Value}
    {f_Shape_modes_of : Addr} {od_Shape_modes_of an_Shape_modes_of : Option Addr} {sl_Shape_modes_of : Array (Option Value)} {oc_Shape_modes_of kV_Shape_modes_of dc_Shape_modes_of pm_Shape_modes_of cd_Shape_modes_of ct_Shape_modes_of : Value}
    {f__law_draws : Addr} {od__law_draws an__law_draws : Option Addr} {sl__law_draws : Array (Option Value)} {oc__law_draws kV__law_draws dc__law_draws pm__law_draws cd__law_draws ct__law_draws : Value}
    {f__law_take : Addr} {od__law_take an__law_take : Option Addr} {sl__law_take : Array (Option Value)} {oc__law_take kV__law_take dc__law_take pm__law_take cd__law_take ct__law_take : Value}
    {f__law_same : Addr} {od__law_same an__law_same : Option Addr} {sl__law_same : Array (Option Value)} {oc__law_same kV__law_same dc__law_same pm__law_same cd__law_same ct__law_same : Value}
    {f__law_marks : Addr} {od__law_marks an__law_marks : Option Addr} {sl__law_marks : Array (Option Value)} {oc__law_marks kV__law_marks dc__law_marks pm__law_marks cd__law_marks ct__law_marks : Value}
    {f__law_rows : Addr} {od__law_rows an__law_rows : Option Addr} {sl__law_rows : Array (Option Value)} {oc__law_rows kV__law_rows dc__law_rows pm__law_rows cd__law_rows ct__law_rows : Value}
    {f__law_way : Addr} {od__law_way an__law_way : Option Addr} {sl__law_way : Array (Option Value)} {oc__law_way kV__law_way dc__law_way pm__law_way cd__law_way ct__law_way : Value}
    {f__law_rules : Addr} {od__law_rules an__law_rules : Option Addr} {sl__law_rules : Array (Option Value)} {oc__law_rules kV__law_rules dc__law_rules pm__law_rules cd__law_rules ct__law_rules : Value}
    {f__law_number : Addr} {od__law_number an__law_number : Option Addr} {sl__law_number : Array (Option Value)} {oc__law_number kV__law_number dc__law_number pm__law_number cd__law_number ct__law_number : Value}
    {f__law_shape : Addr} {od__law_shape an__law_shape : Option Addr} {sl__law_shape : Array (Option Value)} {oc__law_shape kV__law_shape dc__law_shape pm__law_shape cd__law_shape ct__law_shape : Value}
    {f__law_way_made : Addr} {od__law_way_made an__law_way_made : Option Addr} {sl__law_way_made : Array (Option Value)} {oc__law_way_made kV__law_way_made dc__law_way_made pm__law_way_made cd__law_way_made ct__law_way_made : Value}
    {f__law_policy : Addr} {od__law_policy an__law_policy : Option Addr} {sl__law_policy : Array (Option Value)} {oc__law_policy kV__law_policy dc__law_policy pm__law_policy cd__law_policy ct__law_policy : Value}
    {f__law_loose : Addr} {od__law_loose an__law_loose : Option Addr} {sl__law_loose : Array (Option Value)} {oc__law_loose kV__law_loose dc__law_loose pm__law_loose cd__law_loose ct__law_loose : Value}
    {f__law_wider : Addr} {od__law_wider an__law_wider : Option Addr} {sl__law_wider : Array (Option Value)} {oc__law_wider kV__law_wider dc__law_wider pm__law_wider cd__law_wider ct__law_wider : Value}
    {f__law_kinds : Addr} {od__law_kinds an__law_kinds : Option Addr} {sl__law_kinds : Array (Option Value)} {oc__law_kinds kV__law_kinds dc__law_kinds pm__law_kinds cd__law_kinds ct__law_kinds : Value}
    {f__law_supply : Addr} {od__law_supply an__law_supply : Option Addr} {sl__law_supply : Array (Option Value)} {oc__law_supply kV__law_supply dc__law_supply pm__law_supply cd__law_supply ct__law_supply : Value}
    {f__law_fits : Addr} {od__law_fits an__law_fits : Option Addr} {sl__law_fits : Array (Option Value)} {oc__law_fits kV__law_fits dc__law_fits pm__law_fits cd__law_fits ct__law_fits : Value}
    {f__law_reached : Addr} {od__law_reached an__law_reached : Option Addr} {sl__law_reached : Array (Option Value)} {oc__law_reached kV__law_reached dc__law_reached pm__law_reached cd__law_reached ct__law_reached : Value}
    {f__law_meeting : Addr} {od__law_meeting an__law_meeting : Option Addr} {sl__law_meeting : Array (Option Value)} {oc__law_meeting kV__law_meeting dc__law_meeting pm__law_meeting cd__law_meeting ct__law_meeting : Value}
    {f__law_links : Addr} {od__law_links an__law_links : Option Addr} {sl__law_links : Array (Option Value)} {oc__law_links kV__law_links dc__law_links pm__law_links cd__law_links ct__law_links : Value}
    {f__law_joined : Addr} {od__law_joined an__law_joined : Option Addr} {sl__law_joined : Array (Option Value)} {oc__law_joined kV__law_joined dc__law_joined pm__law_joined cd__law_joined ct__law_joined : Value}
    {f__law_table : Addr} {od__law_table an__law_table : Option Addr} {sl__law_table : Array (Option Value)} {oc__law_table kV__law_table dc__law_table pm__law_table cd__law_table ct__law_table : Value}
    {f__law_same_fault : Addr} {od__law_same_fault an__law_same_fault : Option Addr} {sl__law_same_fault : Array (Option Value)} {oc__law_same_fault kV__law_same_fault dc__law_same_fault pm__law_same_fault cd__law_same_fault ct__law_same_fault : Value}
    {f__law_faults_at : Addr} {od__law_faults_at an__law_faults_at : Option Addr} {sl__law_faults_at : Array (Option Value)} {oc__law_faults_at kV__law_faults_at dc__law_faults_at pm__law_faults_at cd__law_faults_at ct__law_faults_at : Value}
    {f__law_faults : Addr} {od__law_faults an__law_faults : Option Addr} {sl__law_faults : Array (Option Value)} {oc__law_faults kV__law_faults dc__law_faults pm__law_faults cd__law_faults ct__law_faults : Value}
    {f_law : Addr} {od_law an_law : Option Addr} {sl_law : Array (Option Value)} {oc_law kV_law dc_law pm_law cd_law ct_law : Value}
    {tq_UNLIMITED : Tok}
    {q_LEVELS : Addr} {oq_LEVELS : Option Addr} {nq_LEVELS : Nat} {slq_LEVELS : Array (Option Value)} {t_LEVELS_0 : Tok} {t_LEVELS_1 : Tok} {t_LEVELS_2 : Tok} {t_LEVELS_3 : Tok}
    {tq_LETTERS : Tok}
    {q_MODES : Addr} {oq_MODES : Option Addr} {nq_MODES : Nat} {slq_MODES : Array (Option Value)} {t_MODES_0 : Tok} {t_MODES_1 : Tok}
    {ti_Shape_MARKS : Tok}
    {ti_Shape_PARENTS : Tok}
    {c_BadShape : Addr}
    {c_UnknownMark : Addr}
    {c_TooLarge : Addr}
    {nm_BadShape q_BadShape : Str} {N_BadShape : Addr} {bs_BadShape : List Value} {sn_BadShape : List Str} {sub_BadShape : List Value} {ab_BadShape : Bool} {col_BadShape : Option Bool} {dd_BadShape : Option Addr} {m0_BadShape m1_BadShape m2_BadShape m3_BadShape m5_BadShape : Option Value}
    {f_BadShape cda_BadShape cc_BadShape : Addr} {od_BadShape an_BadShape cld_BadShape cdd_BadShape : Option Addr} {osl_BadShape csl_BadShape ccs_BadShape : Array (Option Value)} {oc_BadShape kV_BadShape dc_BadShape pm_BadShape ct_BadShape cl_BadShape ccl_BadShape : Value} {vs_BadShape : Array Value} {file_BadShape : Str} {tf_BadShape : Tok}
    {nm_UnknownMark q_UnknownMark : Str} {N_UnknownMark : Addr} {bs_UnknownMark : List Value} {sn_UnknownMark : List Str} {sub_UnknownMark : List Value} {ab_UnknownMark : Bool} {col_UnknownMark : Option Bool} {dd_UnknownMark : Option Addr} {m0_UnknownMark m1_UnknownMark m2_UnknownMark m3_UnknownMark m5_UnknownMark : Option Value}
    {f_UnknownMark cda_UnknownMark cc_UnknownMark : Addr} {od_UnknownMark an_UnknownMark cld_UnknownMark cdd_UnknownMark : Option Addr} {osl_UnknownMark csl_UnknownMark ccs_UnknownMark : Array (Option Value)} {oc_UnknownMark kV_UnknownMark dc_UnknownMark pm_UnknownMark ct_UnknownMark cl_UnknownMark ccl_UnknownMark : Value} {vs_UnknownMark : Array Value} {file_UnknownMark : Str} {tf_UnknownMark : Tok}
    {nm_TooLarge q_TooLarge : Str} {N_TooLarge : Addr} {bs_TooLarge : List Value} {sn_TooLarge : List Str} {sub_TooLarge : List Value} {ab_TooLarge : Bool} {col_TooLarge : Option Bool} {dd_TooLarge : Option Addr} {m0_TooLarge m1_TooLarge m2_TooLarge m3_TooLarge m5_TooLarge : Option Value}
    {f_TooLarge cda_TooLarge cc_TooLarge : Addr} {od_TooLarge an_TooLarge cld_TooLarge cdd_TooLarge : Option Addr} {osl_TooLarge csl_TooLarge ccs_TooLarge : Array (Option Value)} {oc_TooLarge kV_TooLarge dc_TooLarge pm_TooLarge ct_TooLarge cl_TooLarge ccl_TooLarge : Value} {vs_TooLarge : Array Value} {file_TooLarge : Str} {tf_TooLarge : Tok}
    (gc_Way : PySem.W.nsIn K mainGlobals "Way" = some (some (.ref c_Way)))
    (gc_Policy : PySem.W.nsIn K mainGlobals "Policy" = some (some (.ref c_Policy)))
    (gc_Shape : PySem.W.nsIn K mainGlobals "Shape" = some (some (.ref c_Shape)))
    (a_kinds : PySem.W.nsIn K mainGlobals "kinds" = some (some (.ref f_kinds)))
    (l_kinds : K.lookup f_kinds = some ⟨oc_kinds, od_kinds, .func (PySem.W.fnOf "kinds" "kinds" (defArgs S_kinds) (defBody S_kinds) (defScope S_kinds) .none kV_kinds dc_kinds pm_kinds an_kinds cd_kinds ct_kinds), sl_kinds⟩)
    (c_kinds : PySem.W.codeIn K cd_kinds "kinds" = true)
    (k_kinds : PySem.W.keepIn K (.ref f_kinds) = true)
    (a_supply : PySem.W.nsIn K mainGlobals "supply" = some (some (.ref f_supply)))
    (l_supply : K.lookup f_supply = some ⟨oc_supply, od_supply, .func (PySem.W.fnOf "supply" "supply" (defArgs S_supply) (defBody S_supply) (defScope S_supply) .none kV_supply dc_supply pm_supply an_supply cd_supply ct_supply), sl_supply⟩)
    (c_supply : PySem.W.codeIn K cd_supply "supply" = true)
    (k_supply : PySem.W.keepIn K (.ref f_supply) = true)
    (a_fits : PySem.W.nsIn K mainGlobals "fits" = some (some (.ref f_fits)))
    (l_fits : K.lookup f_fits = some ⟨oc_fits, od_fits, .func (PySem.W.fnOf "fits" "fits" (defArgs S_fits) (defBody S_fits) (defScope S_fits) .none kV_fits dc_fits pm_fits an_fits cd_fits ct_fits), sl_fits⟩)
    (c_fits : PySem.W.codeIn K cd_fits "fits" = true)
    (k_fits : PySem.W.keepIn K (.ref f_fits) = true)
    (a_first_rung : PySem.W.nsIn K mainGlobals "first_rung" = some (some (.ref f_first_rung)))
    (l_first_rung : K.lookup f_first_rung = some ⟨oc_first_rung, od_first_rung, .func (PySem.W.fnOf "first_rung" "first_rung" (defArgs S_first_rung) (defBody S_first_rung) (defScope S_first_rung) .none kV_first_rung dc_first_rung pm_first_rung an_first_rung cd_first_rung ct_first_rung), sl_first_rung⟩)
    (c_first_rung : PySem.W.codeIn K cd_first_rung "first_rung" = true)
    (k_first_rung : PySem.W.keepIn K (.ref f_first_rung) = true)
    (a_ladder : PySem.W.nsIn K mainGlobals "ladder" = some (some (.ref f_ladder)))
    (l_ladder : K.lookup f_ladder = some ⟨oc_ladder, od_ladder, .func (PySem.W.fnOf "ladder" "ladder" (defArgs S_ladder) (defBody S_ladder) (defScope S_ladder) .none kV_ladder dc_ladder pm_ladder an_ladder cd_ladder ct_ladder), sl_ladder⟩)
    (c_ladder : PySem.W.codeIn K cd_ladder "ladder" = true)
    (k_ladder : PySem.W.keepIn K (.ref f_ladder) = true)
    (a_reached : PySem.W.nsIn K mainGlobals "reached" = some (some (.ref f_reached)))
    (l_reached : K.lookup f_reached = some ⟨oc_reached, od_reached, .func (PySem.W.fnOf "reached" "reached" (defArgs S_reached) (defBody S_reached) (defScope S_reached) .none kV_reached dc_reached pm_reached an_reached cd_reached ct_reached), sl_reached⟩)
    (c_reached : PySem.W.codeIn K cd_reached "reached" = true)
    (k_reached : PySem.W.keepIn K (.ref f_reached) = true)
    (a_reaches : PySem.W.nsIn K mainGlobals "reaches" = some (some (.ref f_reaches)))
    (l_reaches : K.lookup f_reaches = some ⟨oc_reaches, od_reaches, .func (PySem.W.fnOf "reaches" "reaches" (defArgs S_reaches) (defBody S_reaches) (defScope S_reaches) .none kV_reaches dc_reaches pm_reaches an_reaches cd_reaches ct_reaches), sl_reaches⟩)
    (c_reaches : PySem.W.codeIn K cd_reaches "reaches" = true)
    (k_reaches : PySem.W.keepIn K (.ref f_reaches) = true)
    (a_meeting_at : PySem.W.nsIn K mainGlobals "meeting_at" = some (some (.ref f_meeting_at)))
    (l_meeting_at : K.lookup f_meeting_at = some ⟨oc_meeting_at, od_meeting_at, .func (PySem.W.fnOf "meeting_at" "meeting_at" (defArgs S_meeting_at) (defBody S_meeting_at) (defScope S_meeting_at) .none kV_meeting_at dc_meeting_at pm_meeting_at an_meeting_at cd_meeting_at ct_meeting_at), sl_meeting_at⟩)
    (c_meeting_at : PySem.W.codeIn K cd_meeting_at "meeting_at" = true)
    (k_meeting_at : PySem.W.keepIn K (.ref f_meeting_at) = true)
    (a_meeting : PySem.W.nsIn K mainGlobals "meeting" = some (some (.ref f_meeting)))
    (l_meeting : K.lookup f_meeting = some ⟨oc_meeting, od_meeting, .func (PySem.W.fnOf "meeting" "meeting" (defArgs S_meeting) (defBody S_meeting) (defScope S_meeting) .none kV_meeting dc_meeting pm_meeting an_meeting cd_meeting ct_meeting), sl_meeting⟩)
    (c_meeting : PySem.W.codeIn K cd_meeting "meeting" = true)
    (k_meeting : PySem.W.keepIn K (.ref f_meeting) = true)
    (a_neighbours : PySem.W.nsIn K mainGlobals "neighbours" = some (some (.ref f_neighbours)))
    (l_neighbours : K.lookup f_neighbours = some ⟨oc_neighbours, od_neighbours, .func (PySem.W.fnOf "neighbours" "neighbours" (defArgs S_neighbours) (defBody S_neighbours) (defScope S_neighbours) .none kV_neighbours dc_neighbours pm_neighbours an_neighbours cd_neighbours ct_neighbours), sl_neighbours⟩)
    (c_neighbours : PySem.W.codeIn K cd_neighbours "neighbours" = true)
    (k_neighbours : PySem.W.keepIn K (.ref f_neighbours) = true)
    (a_ahead_of : PySem.W.nsIn K mainGlobals "ahead_of" = some (some (.ref f_ahead_of)))
    (l_ahead_of : K.lookup f_ahead_of = some ⟨oc_ahead_of, od_ahead_of, .func (PySem.W.fnOf "ahead_of" "ahead_of" (defArgs S_ahead_of) (defBody S_ahead_of) (defScope S_ahead_of) .none kV_ahead_of dc_ahead_of pm_ahead_of an_ahead_of cd_ahead_of ct_ahead_of), sl_ahead_of⟩)
    (c_ahead_of : PySem.W.codeIn K cd_ahead_of "ahead_of" = true)
    (k_ahead_of : PySem.W.keepIn K (.ref f_ahead_of) = true)
    (a_same_start : PySem.W.nsIn K mainGlobals "same_start" = some (some (.ref f_same_start)))
    (l_same_start : K.lookup f_same_start = some ⟨oc_same_start, od_same_start, .func (PySem.W.fnOf "same_start" "same_start" (defArgs S_same_start) (defBody S_same_start) (defScope S_same_start) .none kV_same_start dc_same_start pm_same_start an_same_start cd_same_start ct_same_start), sl_same_start⟩)
    (c_same_start : PySem.W.codeIn K cd_same_start "same_start" = true)
    (k_same_start : PySem.W.keepIn K (.ref f_same_start) = true)
    (a_faults_at : PySem.W.nsIn K mainGlobals "faults_at" = some (some (.ref f_faults_at)))
    (l_faults_at : K.lookup f_faults_at = some ⟨oc_faults_at, od_faults_at, .func (PySem.W.fnOf "faults_at" "faults_at" (defArgs S_faults_at) (defBody S_faults_at) (defScope S_faults_at) .none kV_faults_at dc_faults_at pm_faults_at an_faults_at cd_faults_at ct_faults_at), sl_faults_at⟩)
    (c_faults_at : PySem.W.codeIn K cd_faults_at "faults_at" = true)
    (k_faults_at : PySem.W.keepIn K (.ref f_faults_at) = true)
    (a_faults : PySem.W.nsIn K mainGlobals "faults" = some (some (.ref f_faults)))
    (l_faults : K.lookup f_faults = some ⟨oc_faults, od_faults, .func (PySem.W.fnOf "faults" "faults" (defArgs S_faults) (defBody S_faults) (defScope S_faults) .none kV_faults dc_faults pm_faults an_faults cd_faults ct_faults), sl_faults⟩)
    (c_faults : PySem.W.codeIn K cd_faults "faults" = true)
    (k_faults : PySem.W.keepIn K (.ref f_faults) = true)
    (a_is_safe : PySem.W.nsIn K mainGlobals "is_safe" = some (some (.ref f_is_safe)))
    (l_is_safe : K.lookup f_is_safe = some ⟨oc_is_safe, od_is_safe, .func (PySem.W.fnOf "is_safe" "is_safe" (defArgs S_is_safe) (defBody S_is_safe) (defScope S_is_safe) .none kV_is_safe dc_is_safe pm_is_safe an_is_safe cd_is_safe ct_is_safe), sl_is_safe⟩)
    (c_is_safe : PySem.W.codeIn K cd_is_safe "is_safe" = true)
    (k_is_safe : PySem.W.keepIn K (.ref f_is_safe) = true)
    (a_rank : PySem.W.nsIn K mainGlobals "rank" = some (some (.ref f_rank)))
    (l_rank : K.lookup f_rank = some ⟨oc_rank, od_rank, .func (PySem.W.fnOf "rank" "rank" (defArgs S_rank) (defBody S_rank) (defScope S_rank) .none kV_rank dc_rank pm_rank an_rank cd_rank ct_rank), sl_rank⟩)
    (c_rank : PySem.W.codeIn K cd_rank "rank" = true)
    (k_rank : PySem.W.keepIn K (.ref f_rank) = true)
    (a_needed : PySem.W.nsIn K mainGlobals "needed" = some (some (.ref f_needed)))
    (l_needed : K.lookup f_needed = some ⟨oc_needed, od_needed, .func (PySem.W.fnOf "needed" "needed" (defArgs S_needed) (defBody S_needed) (defScope S_needed) .none kV_needed dc_needed pm_needed an_needed cd_needed ct_needed), sl_needed⟩)
    (c_needed : PySem.W.codeIn K cd_needed "needed" = true)
    (k_needed : PySem.W.keepIn K (.ref f_needed) = true)
    (a_Way_init : PySem.W.findIn K (.ref c_Way) "__init__" = some (some (.ref f_Way_init)))
    (l_Way_init : K.lookup f_Way_init = some ⟨oc_Way_init, od_Way_init, .func (PySem.W.fnOf "__init__" "Way.__init__" (defArgs S_Way_init) (defBody S_Way_init) (defScope S_Way_init) (.ref dt_Way_init) (.ref kd_Way_init) dc_Way_init pm_Way_init an_Way_init cd_Way_init ct_Way_init), sl_Way_init⟩)
    (c_Way_init : PySem.W.codeIn K cd_Way_init "Way.__init__" = true)
    (k_Way_init : PySem.W.keepIn K (.ref f_Way_init) = true)
    (lt_Way_init : K.lookup dt_Way_init = some ⟨cdt_Way_init, odt_Way_init, .seq #[.str "none" tt_Way_init_0, .str "none" tt_Way_init_1, .str "none" tt_Way_init_2] ndt_Way_init, sdt_Way_init⟩)
    (nk_Way_init_early : PySem.W.nsIn K kd_Way_init "early" = some (some (.bool false)))
    (a_Way_needs : PySem.W.findIn K (.ref c_Way) "needs" = some (some (.ref f_Way_needs)))
    (l_Way_needs : K.lookup f_Way_needs = some ⟨oc_Way_needs, od_Way_needs, .func (PySem.W.fnOf "needs" "Way.needs" (defArgs S_Way_needs) (defBody S_Way_needs) (defScope S_Way_needs) .none kV_Way_needs dc_Way_needs pm_Way_needs an_Way_needs cd_Way_needs ct_Way_needs), sl_Way_needs⟩)
    (c_Way_needs : PySem.W.codeIn K cd_Way_needs "Way.needs" = true)
    (k_Way_needs : PySem.W.keepIn K (.ref f_Way_needs) = true)
    (a_Policy_init : PySem.W.findIn K (.ref c_Policy) "__init__" = some (some (.ref f_Policy_init)))
    (l_Policy_init : K.lookup f_Policy_init = some ⟨oc_Policy_init, od_Policy_init, .func (PySem.W.fnOf "__init__" "Policy.__init__" (defArgs S_Policy_init) (defBody S_Policy_init) (defScope S_Policy_init) (.ref dt_Policy_init) kV_Policy_init dc_Policy_init pm_Policy_init an_Policy_init cd_Policy_init ct_Policy_init), sl_Policy_init⟩)
    (c_Policy_init : PySem.W.codeIn K cd_Policy_init "Policy.__init__" = true)
    (k_Policy_init : PySem.W.keepIn K (.ref f_Policy_init) = true)
    (lt_Policy_init : K.lookup dt_Policy_init = some ⟨cdt_Policy_init, odt_Policy_init, .seq #[.ref ed_Policy_init_0] ndt_Policy_init, sdt_Policy_init⟩)
    (le_Policy_init_0 : K.lookup ed_Policy_init_0 = some ⟨.type "tuple", oe_Policy_init_0, .seq #[] ne_Policy_init_0, se_Policy_init_0⟩)
    (a_Policy_getitem : PySem.W.findIn K (.ref c_Policy) "__getitem__" = some (some (.ref f_Policy_getitem)))
    (l_Policy_getitem : K.lookup f_Policy_getitem = some ⟨oc_Policy_getitem, od_Policy_getitem, .func (PySem.W.fnOf "__getitem__" "Policy.__getitem__" (defArgs S_Policy_getitem) (defBody S_Policy_getitem) (defScope S_Policy_getitem) .none kV_Policy_getitem dc_Policy_getitem pm_Policy_getitem an_Policy_getitem cd_Policy_getitem ct_Policy_getitem), sl_Policy_getitem⟩)
    (c_Policy_getitem : PySem.W.codeIn K cd_Policy_getitem "Policy.__getitem__" = true)
    (k_Policy_getitem : PySem.W.keepIn K (.ref f_Policy_getitem) = true)
    (a_Policy_setitem : PySem.W.findIn K (.ref c_Policy) "__setitem__" = some (some (.ref f_Policy_setitem)))
    (l_Policy_setitem : K.lookup f_Policy_setitem = some ⟨oc_Policy_setitem, od_Policy_setitem, .func (PySem.W.fnOf "__setitem__" "Policy.__setitem__" (defArgs S_Policy_setitem) (defBody S_Policy_setitem) (defScope S_Policy_setitem) .none kV_Policy_setitem dc_Policy_setitem pm_Policy_setitem an_Policy_setitem cd_Policy_setitem ct_Policy_setitem), sl_Policy_setitem⟩)
    (c_Policy_setitem : PySem.W.codeIn K cd_Policy_setitem "Policy.__setitem__" = true)
    (k_Policy_setitem : PySem.W.keepIn K (.ref f_Policy_setitem) = true)
    (a_Policy_starts_at : PySem.W.findIn K (.ref c_Policy) "starts_at" = some (some (.ref f_Policy_starts_at)))
    (l_Policy_starts_at : K.lookup f_Policy_starts_at = some ⟨oc_Policy_starts_at, od_Policy_starts_at, .func (PySem.W.fnOf "starts_at" "Policy.starts_at" (defArgs S_Policy_starts_at) (defBody S_Policy_starts_at) (defScope S_Policy_starts_at) .none kV_Policy_starts_at dc_Policy_starts_at pm_Policy_starts_at an_Policy_starts_at cd_Policy_starts_at ct_Policy_starts_at), sl_Policy_starts_at⟩)
    (c_Policy_starts_at : PySem.W.codeIn K cd_Policy_starts_at "Policy.starts_at" = true)
    (k_Policy_starts_at : PySem.W.keepIn K (.ref f_Policy_starts_at) = true)
    (a_Policy_ways_of : PySem.W.findIn K (.ref c_Policy) "ways_of" = some (some (.ref f_Policy_ways_of)))
    (l_Policy_ways_of : K.lookup f_Policy_ways_of = some ⟨oc_Policy_ways_of, od_Policy_ways_of, .func (PySem.W.fnOf "ways_of" "Policy.ways_of" (defArgs S_Policy_ways_of) (defBody S_Policy_ways_of) (defScope S_Policy_ways_of) .none kV_Policy_ways_of dc_Policy_ways_of pm_Policy_ways_of an_Policy_ways_of cd_Policy_ways_of ct_Policy_ways_of), sl_Policy_ways_of⟩)
    (c_Policy_ways_of : PySem.W.codeIn K cd_Policy_ways_of "Policy.ways_of" = true)
    (k_Policy_ways_of : PySem.W.keepIn K (.ref f_Policy_ways_of) = true)
    (pa_Policy_starts : PySem.W.findIn K (.ref c_Policy) "starts" = some (some (.ref p_Policy_starts)))
    (pr_Policy_starts : PySem.W.recIn K p_Policy_starts "property" = some (.ref f_Policy_starts :: rs_Policy_starts))
    (pg_Policy_starts : PySem.W.specialIn K (.ref p_Policy_starts) "__get__" = some (some (.builtin "property.__get__")))
    (pt_Policy_starts : PySem.W.takesIn K (.ref p_Policy_starts) = some true)
    (l_Policy_starts : K.lookup f_Policy_starts = some ⟨oc_Policy_starts, od_Policy_starts, .func (PySem.W.fnOf "starts" "Policy.starts" (defArgs S_Policy_starts) (defBody S_Policy_starts) (defScope S_Policy_starts) .none kV_Policy_starts dc_Policy_starts pm_Policy_starts an_Policy_starts cd_Policy_starts ct_Policy_starts), sl_Policy_starts⟩)
    (c_Policy_starts : PySem.W.codeIn K cd_Policy_starts "Policy.starts" = true)
    (k_Policy_starts : PySem.W.keepIn K (.ref f_Policy_starts) = true)
    (a_is_mark : PySem.W.nsIn K mainGlobals "is_mark" = some (some (.ref f_is_mark)))
    (l_is_mark : K.lookup f_is_mark = some ⟨oc_is_mark, od_is_mark, .func (PySem.W.fnOf "is_mark" "is_mark" (defArgs S_is_mark) (defBody S_is_mark) (defScope S_is_mark) .none kV_is_mark dc_is_mark pm_is_mark an_is_mark cd_is_mark ct_is_mark), sl_is_mark⟩)
    (c_is_mark : PySem.W.codeIn K cd_is_mark "is_mark" = true)
    (k_is_mark : PySem.W.keepIn K (.ref f_is_mark) = true)
    (a_sound_row : PySem.W.nsIn K mainGlobals "sound_row" = some (some (.ref f_sound_row)))
    (l_sound_row : K.lookup f_sound_row = some ⟨oc_sound_row, od_sound_row, .func (PySem.W.fnOf "sound_row" "sound_row" (defArgs S_sound_row) (defBody S_sound_row) (defScope S_sound_row) .none kV_sound_row dc_sound_row pm_sound_row an_sound_row cd_sound_row ct_sound_row), sl_sound_row⟩)
    (c_sound_row : PySem.W.codeIn K cd_sound_row "sound_row" = true)
    (k_sound_row : PySem.W.keepIn K (.ref f_sound_row) = true)
    (a_barren : PySem.W.nsIn K mainGlobals "barren" = some (some (.ref f_barren)))
    (l_barren : K.lookup f_barren = some ⟨oc_barren, od_barren, .func (PySem.W.fnOf "barren" "barren" (defArgs S_barren) (defBody S_barren) (defScope S_barren) .none kV_barren dc_barren pm_barren an_barren cd_barren ct_barren), sl_barren⟩)
    (c_barren : PySem.W.codeIn K cd_barren "barren" = true)
    (k_barren : PySem.W.keepIn K (.ref f_barren) = true)
    (a_Shape_init : PySem.W.findIn K (.ref c_Shape) "__init__" = some (some (.ref f_Shape_init)))
    (l_Shape_init : K.lookup f_Shape_init = some ⟨oc_Shape_init, od_Shape_init, .func (PySem.W.fnOf "__init__" "Shape.__init__" (defArgs S_Shape_init) (defBody S_Shape_init) (defScope S_Shape_init) .none kV_Shape_init dc_Shape_init pm_Shape_init an_Shape_init cd_Shape_init ct_Shape_init), sl_Shape_init⟩)
    (c_Shape_init : PySem.W.codeIn K cd_Shape_init "Shape.__init__" = true)
    (k_Shape_init : PySem.W.keepIn K (.ref f_Shape_init) = true)
    (a_Shape_getitem : PySem.W.findIn K (.ref c_Shape) "__getitem__" = some (some (.ref f_Shape_getitem)))
    (l_Shape_getitem : K.lookup f_Shape_getitem = some ⟨oc_Shape_getitem, od_Shape_getitem, .func (PySem.W.fnOf "__getitem__" "Shape.__getitem__" (defArgs S_Shape_getitem) (defBody S_Shape_getitem) (defScope S_Shape_getitem) .none kV_Shape_getitem dc_Shape_getitem pm_Shape_getitem an_Shape_getitem cd_Shape_getitem ct_Shape_getitem), sl_Shape_getitem⟩)
    (c_Shape_getitem : PySem.W.codeIn K cd_Shape_getitem "Shape.__getitem__" = true)
    (k_Shape_getitem : PySem.W.keepIn K (.ref f_Shape_getitem) = true)
    (a_Shape_iter : PySem.W.findIn K (.ref c_Shape) "__iter__" = some (some (.ref f_Shape_iter)))
    (l_Shape_iter : K.lookup f_Shape_iter = some ⟨oc_Shape_iter, od_Shape_iter, .func (PySem.W.fnOf "__iter__" "Shape.__iter__" (defArgs S_Shape_iter) (defBody S_Shape_iter) (defScope S_Shape_iter) .none kV_Shape_iter dc_Shape_iter pm_Shape_iter an_Shape_iter cd_Shape_iter ct_Shape_iter), sl_Shape_iter⟩)
    (c_Shape_iter : PySem.W.codeIn K cd_Shape_iter "Shape.__iter__" = true)
    (k_Shape_iter : PySem.W.keepIn K (.ref f_Shape_iter) = true)
    (a_Shape_len : PySem.W.findIn K (.ref c_Shape) "__len__" = some (some (.ref f_Shape_len)))
    (l_Shape_len : K.lookup f_Shape_len = some ⟨oc_Shape_len, od_Shape_len, .func (PySem.W.fnOf "__len__" "Shape.__len__" (defArgs S_Shape_len) (defBody S_Shape_len) (defScope S_Shape_len) .none kV_Shape_len dc_Shape_len pm_Shape_len an_Shape_len cd_Shape_len ct_Shape_len), sl_Shape_len⟩)
    (c_Shape_len : PySem.W.codeIn K cd_Shape_len "Shape.__len__" = true)
    (k_Shape_len : PySem.W.keepIn K (.ref f_Shape_len) = true)
    (a_Shape_modes_of : PySem.W.findIn K (.ref c_Shape) "modes_of" = some (some (.ref f_Shape_modes_of)))
    (l_Shape_modes_of : K.lookup f_Shape_modes_of = some ⟨oc_Shape_modes_of, od_Shape_modes_of, .func (PySem.W.fnOf "modes_of" "Shape.modes_of" (defArgs S_Shape_modes_of) (defBody S_Shape_modes_of) (defScope S_Shape_modes_of) .none kV_Shape_modes_of dc_Shape_modes_of pm_Shape_modes_of an_Shape_modes_of cd_Shape_modes_of ct_Shape_modes_of), sl_Shape_modes_of⟩)
    (c_Shape_modes_of : PySem.W.codeIn K cd_Shape_modes_of "Shape.modes_of" = true)
    (k_Shape_modes_of : PySem.W.keepIn K (.ref f_Shape_modes_of) = true)
    (a__law_draws : PySem.W.nsIn K mainGlobals "_law_draws" = some (some (.ref f__law_draws)))
    (l__law_draws : K.lookup f__law_draws = some ⟨oc__law_draws, od__law_draws, .func (PySem.W.fnOf "_law_draws" "_law_draws" (defArgs S__law_draws) (defBody S__law_draws) (defScope S__law_draws) .none kV__law_draws dc__law_draws pm__law_draws an__law_draws cd__law_draws ct__law_draws), sl__law_draws⟩)
    (c__law_draws : PySem.W.codeIn K cd__law_draws "_law_draws" = true)
    (k__law_draws : PySem.W.keepIn K (.ref f__law_draws) = true)
    (a__law_take : PySem.W.nsIn K mainGlobals "_law_take" = some (some (.ref f__law_take)))
    (l__law_take : K.lookup f__law_take = some ⟨oc__law_take, od__law_take, .func (PySem.W.fnOf "_law_take" "_law_take" (defArgs S__law_take) (defBody S__law_take) (defScope S__law_take) .none kV__law_take dc__law_take pm__law_take an__law_take cd__law_take ct__law_take), sl__law_take⟩)
    (c__law_take : PySem.W.codeIn K cd__law_take "_law_take" = true)
    (k__law_take : PySem.W.keepIn K (.ref f__law_take) = true)
    (a__law_same : PySem.W.nsIn K mainGlobals "_law_same" = some (some (.ref f__law_same)))
    (l__law_same : K.lookup f__law_same = some ⟨oc__law_same, od__law_same, .func (PySem.W.fnOf "_law_same" "_law_same" (defArgs S__law_same) (defBody S__law_same) (defScope S__law_same) .none kV__law_same dc__law_same pm__law_same an__law_same cd__law_same ct__law_same), sl__law_same⟩)
    (c__law_same : PySem.W.codeIn K cd__law_same "_law_same" = true)
    (k__law_same : PySem.W.keepIn K (.ref f__law_same) = true)
    (a__law_marks : PySem.W.nsIn K mainGlobals "_law_marks" = some (some (.ref f__law_marks)))
    (l__law_marks : K.lookup f__law_marks = some ⟨oc__law_marks, od__law_marks, .func (PySem.W.fnOf "_law_marks" "_law_marks" (defArgs S__law_marks) (defBody S__law_marks) (defScope S__law_marks) .none kV__law_marks dc__law_marks pm__law_marks an__law_marks cd__law_marks ct__law_marks), sl__law_marks⟩)
    (c__law_marks : PySem.W.codeIn K cd__law_marks "_law_marks" = true)
    (k__law_marks : PySem.W.keepIn K (.ref f__law_marks) = true)
    (a__law_rows : PySem.W.nsIn K mainGlobals "_law_rows" = some (some (.ref f__law_rows)))
    (l__law_rows : K.lookup f__law_rows = some ⟨oc__law_rows, od__law_rows, .func (PySem.W.fnOf "_law_rows" "_law_rows" (defArgs S__law_rows) (defBody S__law_rows) (defScope S__law_rows) .none kV__law_rows dc__law_rows pm__law_rows an__law_rows cd__law_rows ct__law_rows), sl__law_rows⟩)
    (c__law_rows : PySem.W.codeIn K cd__law_rows "_law_rows" = true)
    (k__law_rows : PySem.W.keepIn K (.ref f__law_rows) = true)
    (a__law_way : PySem.W.nsIn K mainGlobals "_law_way" = some (some (.ref f__law_way)))
    (l__law_way : K.lookup f__law_way = some ⟨oc__law_way, od__law_way, .func (PySem.W.fnOf "_law_way" "_law_way" (defArgs S__law_way) (defBody S__law_way) (defScope S__law_way) .none kV__law_way dc__law_way pm__law_way an__law_way cd__law_way ct__law_way), sl__law_way⟩)
    (c__law_way : PySem.W.codeIn K cd__law_way "_law_way" = true)
    (k__law_way : PySem.W.keepIn K (.ref f__law_way) = true)
    (a__law_rules : PySem.W.nsIn K mainGlobals "_law_rules" = some (some (.ref f__law_rules)))
    (l__law_rules : K.lookup f__law_rules = some ⟨oc__law_rules, od__law_rules, .func (PySem.W.fnOf "_law_rules" "_law_rules" (defArgs S__law_rules) (defBody S__law_rules) (defScope S__law_rules) .none kV__law_rules dc__law_rules pm__law_rules an__law_rules cd__law_rules ct__law_rules), sl__law_rules⟩)
    (c__law_rules : PySem.W.codeIn K cd__law_rules "_law_rules" = true)
    (k__law_rules : PySem.W.keepIn K (.ref f__law_rules) = true)
    (a__law_number : PySem.W.nsIn K mainGlobals "_law_number" = some (some (.ref f__law_number)))
    (l__law_number : K.lookup f__law_number = some ⟨oc__law_number, od__law_number, .func (PySem.W.fnOf "_law_number" "_law_number" (defArgs S__law_number) (defBody S__law_number) (defScope S__law_number) .none kV__law_number dc__law_number pm__law_number an__law_number cd__law_number ct__law_number), sl__law_number⟩)
    (c__law_number : PySem.W.codeIn K cd__law_number "_law_number" = true)
    (k__law_number : PySem.W.keepIn K (.ref f__law_number) = true)
    (a__law_shape : PySem.W.nsIn K mainGlobals "_law_shape" = some (some (.ref f__law_shape)))
    (l__law_shape : K.lookup f__law_shape = some ⟨oc__law_shape, od__law_shape, .func (PySem.W.fnOf "_law_shape" "_law_shape" (defArgs S__law_shape) (defBody S__law_shape) (defScope S__law_shape) .none kV__law_shape dc__law_shape pm__law_shape an__law_shape cd__law_shape ct__law_shape), sl__law_shape⟩)
    (c__law_shape : PySem.W.codeIn K cd__law_shape "_law_shape" = true)
    (k__law_shape : PySem.W.keepIn K (.ref f__law_shape) = true)
    (a__law_way_made : PySem.W.nsIn K mainGlobals "_law_way_made" = some (some (.ref f__law_way_made)))
    (l__law_way_made : K.lookup f__law_way_made = some ⟨oc__law_way_made, od__law_way_made, .func (PySem.W.fnOf "_law_way_made" "_law_way_made" (defArgs S__law_way_made) (defBody S__law_way_made) (defScope S__law_way_made) .none kV__law_way_made dc__law_way_made pm__law_way_made an__law_way_made cd__law_way_made ct__law_way_made), sl__law_way_made⟩)
    (c__law_way_made : PySem.W.codeIn K cd__law_way_made "_law_way_made" = true)
    (k__law_way_made : PySem.W.keepIn K (.ref f__law_way_made) = true)
    (a__law_policy : PySem.W.nsIn K mainGlobals "_law_policy" = some (some (.ref f__law_policy)))
    (l__law_policy : K.lookup f__law_policy = some ⟨oc__law_policy, od__law_policy, .func (PySem.W.fnOf "_law_policy" "_law_policy" (defArgs S__law_policy) (defBody S__law_policy) (defScope S__law_policy) .none kV__law_policy dc__law_policy pm__law_policy an__law_policy cd__law_policy ct__law_policy), sl__law_policy⟩)
    (c__law_policy : PySem.W.codeIn K cd__law_policy "_law_policy" = true)
    (k__law_policy : PySem.W.keepIn K (.ref f__law_policy) = true)
    (a__law_loose : PySem.W.nsIn K mainGlobals "_law_loose" = some (some (.ref f__law_loose)))
    (l__law_loose : K.lookup f__law_loose = some ⟨oc__law_loose, od__law_loose, .func (PySem.W.fnOf "_law_loose" "_law_loose" (defArgs S__law_loose) (defBody S__law_loose) (defScope S__law_loose) .none kV__law_loose dc__law_loose pm__law_loose an__law_loose cd__law_loose ct__law_loose), sl__law_loose⟩)
    (c__law_loose : PySem.W.codeIn K cd__law_loose "_law_loose" = true)
    (k__law_loose : PySem.W.keepIn K (.ref f__law_loose) = true)
    (a__law_wider : PySem.W.nsIn K mainGlobals "_law_wider" = some (some (.ref f__law_wider)))
    (l__law_wider : K.lookup f__law_wider = some ⟨oc__law_wider, od__law_wider, .func (PySem.W.fnOf "_law_wider" "_law_wider" (defArgs S__law_wider) (defBody S__law_wider) (defScope S__law_wider) .none kV__law_wider dc__law_wider pm__law_wider an__law_wider cd__law_wider ct__law_wider), sl__law_wider⟩)
    (c__law_wider : PySem.W.codeIn K cd__law_wider "_law_wider" = true)
    (k__law_wider : PySem.W.keepIn K (.ref f__law_wider) = true)
    (a__law_kinds : PySem.W.nsIn K mainGlobals "_law_kinds" = some (some (.ref f__law_kinds)))
    (l__law_kinds : K.lookup f__law_kinds = some ⟨oc__law_kinds, od__law_kinds, .func (PySem.W.fnOf "_law_kinds" "_law_kinds" (defArgs S__law_kinds) (defBody S__law_kinds) (defScope S__law_kinds) .none kV__law_kinds dc__law_kinds pm__law_kinds an__law_kinds cd__law_kinds ct__law_kinds), sl__law_kinds⟩)
    (c__law_kinds : PySem.W.codeIn K cd__law_kinds "_law_kinds" = true)
    (k__law_kinds : PySem.W.keepIn K (.ref f__law_kinds) = true)
    (a__law_supply : PySem.W.nsIn K mainGlobals "_law_supply" = some (some (.ref f__law_supply)))
    (l__law_supply : K.lookup f__law_supply = some ⟨oc__law_supply, od__law_supply, .func (PySem.W.fnOf "_law_supply" "_law_supply" (defArgs S__law_supply) (defBody S__law_supply) (defScope S__law_supply) .none kV__law_supply dc__law_supply pm__law_supply an__law_supply cd__law_supply ct__law_supply), sl__law_supply⟩)
    (c__law_supply : PySem.W.codeIn K cd__law_supply "_law_supply" = true)
    (k__law_supply : PySem.W.keepIn K (.ref f__law_supply) = true)
    (a__law_fits : PySem.W.nsIn K mainGlobals "_law_fits" = some (some (.ref f__law_fits)))
    (l__law_fits : K.lookup f__law_fits = some ⟨oc__law_fits, od__law_fits, .func (PySem.W.fnOf "_law_fits" "_law_fits" (defArgs S__law_fits) (defBody S__law_fits) (defScope S__law_fits) .none kV__law_fits dc__law_fits pm__law_fits an__law_fits cd__law_fits ct__law_fits), sl__law_fits⟩)
    (c__law_fits : PySem.W.codeIn K cd__law_fits "_law_fits" = true)
    (k__law_fits : PySem.W.keepIn K (.ref f__law_fits) = true)
    (a__law_reached : PySem.W.nsIn K mainGlobals "_law_reached" = some (some (.ref f__law_reached)))
    (l__law_reached : K.lookup f__law_reached = some ⟨oc__law_reached, od__law_reached, .func (PySem.W.fnOf "_law_reached" "_law_reached" (defArgs S__law_reached) (defBody S__law_reached) (defScope S__law_reached) .none kV__law_reached dc__law_reached pm__law_reached an__law_reached cd__law_reached ct__law_reached), sl__law_reached⟩)
    (c__law_reached : PySem.W.codeIn K cd__law_reached "_law_reached" = true)
    (k__law_reached : PySem.W.keepIn K (.ref f__law_reached) = true)
    (a__law_meeting : PySem.W.nsIn K mainGlobals "_law_meeting" = some (some (.ref f__law_meeting)))
    (l__law_meeting : K.lookup f__law_meeting = some ⟨oc__law_meeting, od__law_meeting, .func (PySem.W.fnOf "_law_meeting" "_law_meeting" (defArgs S__law_meeting) (defBody S__law_meeting) (defScope S__law_meeting) .none kV__law_meeting dc__law_meeting pm__law_meeting an__law_meeting cd__law_meeting ct__law_meeting), sl__law_meeting⟩)
    (c__law_meeting : PySem.W.codeIn K cd__law_meeting "_law_meeting" = true)
    (k__law_meeting : PySem.W.keepIn K (.ref f__law_meeting) = true)
    (a__law_links : PySem.W.nsIn K mainGlobals "_law_links" = some (some (.ref f__law_links)))
    (l__law_links : K.lookup f__law_links = some ⟨oc__law_links, od__law_links, .func (PySem.W.fnOf "_law_links" "_law_links" (defArgs S__law_links) (defBody S__law_links) (defScope S__law_links) .none kV__law_links dc__law_links pm__law_links an__law_links cd__law_links ct__law_links), sl__law_links⟩)
    (c__law_links : PySem.W.codeIn K cd__law_links "_law_links" = true)
    (k__law_links : PySem.W.keepIn K (.ref f__law_links) = true)
    (a__law_joined : PySem.W.nsIn K mainGlobals "_law_joined" = some (some (.ref f__law_joined)))
    (l__law_joined : K.lookup f__law_joined = some ⟨oc__law_joined, od__law_joined, .func (PySem.W.fnOf "_law_joined" "_law_joined" (defArgs S__law_joined) (defBody S__law_joined) (defScope S__law_joined) .none kV__law_joined dc__law_joined pm__law_joined an__law_joined cd__law_joined ct__law_joined), sl__law_joined⟩)
    (c__law_joined : PySem.W.codeIn K cd__law_joined "_law_joined" = true)
    (k__law_joined : PySem.W.keepIn K (.ref f__law_joined) = true)
    (a__law_table : PySem.W.nsIn K mainGlobals "_law_table" = some (some (.ref f__law_table)))
    (l__law_table : K.lookup f__law_table = some ⟨oc__law_table, od__law_table, .func (PySem.W.fnOf "_law_table" "_law_table" (defArgs S__law_table) (defBody S__law_table) (defScope S__law_table) .none kV__law_table dc__law_table pm__law_table an__law_table cd__law_table ct__law_table), sl__law_table⟩)
    (c__law_table : PySem.W.codeIn K cd__law_table "_law_table" = true)
    (k__law_table : PySem.W.keepIn K (.ref f__law_table) = true)
    (a__law_same_fault : PySem.W.nsIn K mainGlobals "_law_same_fault" = some (some (.ref f__law_same_fault)))
    (l__law_same_fault : K.lookup f__law_same_fault = some ⟨oc__law_same_fault, od__law_same_fault, .func (PySem.W.fnOf "_law_same_fault" "_law_same_fault" (defArgs S__law_same_fault) (defBody S__law_same_fault) (defScope S__law_same_fault) .none kV__law_same_fault dc__law_same_fault pm__law_same_fault an__law_same_fault cd__law_same_fault ct__law_same_fault), sl__law_same_fault⟩)
    (c__law_same_fault : PySem.W.codeIn K cd__law_same_fault "_law_same_fault" = true)
    (k__law_same_fault : PySem.W.keepIn K (.ref f__law_same_fault) = true)
    (a__law_faults_at : PySem.W.nsIn K mainGlobals "_law_faults_at" = some (some (.ref f__law_faults_at)))
    (l__law_faults_at : K.lookup f__law_faults_at = some ⟨oc__law_faults_at, od__law_faults_at, .func (PySem.W.fnOf "_law_faults_at" "_law_faults_at" (defArgs S__law_faults_at) (defBody S__law_faults_at) (defScope S__law_faults_at) .none kV__law_faults_at dc__law_faults_at pm__law_faults_at an__law_faults_at cd__law_faults_at ct__law_faults_at), sl__law_faults_at⟩)
    (c__law_faults_at : PySem.W.codeIn K cd__law_faults_at "_law_faults_at" = true)
    (k__law_faults_at : PySem.W.keepIn K (.ref f__law_faults_at) = true)
    (a__law_faults : PySem.W.nsIn K mainGlobals "_law_faults" = some (some (.ref f__law_faults)))
    (l__law_faults : K.lookup f__law_faults = some ⟨oc__law_faults, od__law_faults, .func (PySem.W.fnOf "_law_faults" "_law_faults" (defArgs S__law_faults) (defBody S__law_faults) (defScope S__law_faults) .none kV__law_faults dc__law_faults pm__law_faults an__law_faults cd__law_faults ct__law_faults), sl__law_faults⟩)
    (c__law_faults : PySem.W.codeIn K cd__law_faults "_law_faults" = true)
    (k__law_faults : PySem.W.keepIn K (.ref f__law_faults) = true)
    (a_law : PySem.W.nsIn K mainGlobals "law" = some (some (.ref f_law)))
    (l_law : K.lookup f_law = some ⟨oc_law, od_law, .func (PySem.W.fnOf "law" "law" (defArgs S_law) (defBody S_law) (defScope S_law) .none kV_law dc_law pm_law an_law cd_law ct_law), sl_law⟩)
    (c_law : PySem.W.codeIn K cd_law "law" = true)
    (k_law : PySem.W.keepIn K (.ref f_law) = true)
    (z_any : PySem.W.nsIn K mainGlobals "any" = some none)
    (z_bool : PySem.W.nsIn K mainGlobals "bool" = some none)
    (z_enumerate : PySem.W.nsIn K mainGlobals "enumerate" = some none)
    (z_int : PySem.W.nsIn K mainGlobals "int" = some none)
    (z_isinstance : PySem.W.nsIn K mainGlobals "isinstance" = some none)
    (z_iter : PySem.W.nsIn K mainGlobals "iter" = some none)
    (z_len : PySem.W.nsIn K mainGlobals "len" = some none)
    (z_list : PySem.W.nsIn K mainGlobals "list" = some none)
    (z_max : PySem.W.nsIn K mainGlobals "max" = some none)
    (z_property : PySem.W.nsIn K mainGlobals "property" = some none)
    (z_range : PySem.W.nsIn K mainGlobals "range" = some none)
    (z_str : PySem.W.nsIn K mainGlobals "str" = some none)
    (z_tuple : PySem.W.nsIn K mainGlobals "tuple" = some none)
    (aq_UNLIMITED : PySem.W.nsIn K mainGlobals "UNLIMITED" = some (some (.int 9 tq_UNLIMITED)))
    (aq_LEVELS : PySem.W.nsIn K mainGlobals "LEVELS" = some (some (.ref q_LEVELS)))
    (lq_LEVELS : K.lookup q_LEVELS = some ⟨.type "tuple", oq_LEVELS, .seq #[.str "none" t_LEVELS_0, .str "one" t_LEVELS_1, .str "most" t_LEVELS_2, .str "all" t_LEVELS_3] nq_LEVELS, slq_LEVELS⟩)
    (aq_LETTERS : PySem.W.nsIn K mainGlobals "LETTERS" = some (some (.str "abcdefghijklmnopqrstuvwxyz" tq_LETTERS)))
    (aq_MODES : PySem.W.nsIn K mainGlobals "MODES" = some (some (.ref q_MODES)))
    (lq_MODES : K.lookup q_MODES = some ⟨.type "tuple", oq_MODES, .seq #[.str "own" t_MODES_0, .str "share" t_MODES_1] nq_MODES, slq_MODES⟩)
    (xla : PySem.W.findIn K (.type "list") "__add__" = some (some (.builtin "list.__add__")))
    (xlr : PySem.W.findIn K (.type "list") "__radd__" = some none)
    (xta : PySem.W.findIn K (.type "tuple") "__add__" = some (some (.builtin "tuple.__add__")))
    (xtr : PySem.W.findIn K (.type "tuple") "__radd__" = some none)
    (pg_Way : PySem.W.plainGet K c_Way Str.empty = true)
    (hd_Way : PySem.W.hasDictIn K c_Way = true)
    (po_Way : PySem.W.plainOver K c_Way = true)
    (sa_Way : PySem.W.findIn K (.ref c_Way) "__setattr__" = some (some (.builtin "object.__setattr__")))
    (kc_Way : PySem.W.keepIn K (.ref c_Way) = true)
    (i_Way_init : PySem.W.isFn K (.ref f_Way_init) = true)
    (mk_Way : PySem.W.makesIn K c_Way = true)
    (i_Way_needs : PySem.W.isFn K (.ref f_Way_needs) = true)
    (hca_Way : PySem.W.findIn K (.ref c_Way) "__class__" = some (some (.builtin "object.__class__")))
    (hcn_Way : PySem.W.specialIn K (.builtin "object.__class__") "__get__" = some (some (.builtin "getset_descriptor.__get__")))
    (hct_Way : PySem.W.takesIn K (.builtin "object.__class__") = some true)
    (hcm_Way : PySem.W.mroIn K c_Way (.type "object") = some true)
    (no_Way_held : PySem.W.findIn K (.ref c_Way) "held" = some none)
    (no_Way_owned : PySem.W.findIn K (.ref c_Way) "owned" = some none)
    (no_Way_seen : PySem.W.findIn K (.ref c_Way) "seen" = some none)
    (no_Way_early : PySem.W.findIn K (.ref c_Way) "early" = some none)
    (pg_Policy : PySem.W.plainGet K c_Policy Str.empty = true)
    (hd_Policy : PySem.W.hasDictIn K c_Policy = true)
    (po_Policy : PySem.W.plainOver K c_Policy = true)
    (sa_Policy : PySem.W.findIn K (.ref c_Policy) "__setattr__" = some (some (.builtin "object.__setattr__")))
    (kc_Policy : PySem.W.keepIn K (.ref c_Policy) = true)
    (i_Policy_init : PySem.W.isFn K (.ref f_Policy_init) = true)
    (mk_Policy : PySem.W.makesIn K c_Policy = true)
    (fi_Policy_getitem : PySem.W.fnIn K f_Policy_getitem = true)
    (i_Policy_getitem : PySem.W.isFn K (.ref f_Policy_getitem) = true)
    (nq_Policy : PySem.W.noSeq K c_Policy = true)
    (i_Policy_setitem : PySem.W.isFn K (.ref f_Policy_setitem) = true)
    (i_Policy_starts_at : PySem.W.isFn K (.ref f_Policy_starts_at) = true)
    (i_Policy_ways_of : PySem.W.isFn K (.ref f_Policy_ways_of) = true)
    (hca_Policy : PySem.W.findIn K (.ref c_Policy) "__class__" = some (some (.builtin "object.__class__")))
    (hcn_Policy : PySem.W.specialIn K (.builtin "object.__class__") "__get__" = some (some (.builtin "getset_descriptor.__get__")))
    (hct_Policy : PySem.W.takesIn K (.builtin "object.__class__") = some true)
    (hcm_Policy : PySem.W.mroIn K c_Policy (.type "object") = some true)
    (no_Policy_shape : PySem.W.findIn K (.ref c_Policy) "shape" = some none)
    (no_Policy__marks : PySem.W.findIn K (.ref c_Policy) "_marks" = some none)
    (no_Policy__starts : PySem.W.findIn K (.ref c_Policy) "_starts" = some none)
    (no_Policy__ways : PySem.W.findIn K (.ref c_Policy) "_ways" = some none)
    (pg_Shape : PySem.W.plainGet K c_Shape Str.empty = true)
    (hd_Shape : PySem.W.hasDictIn K c_Shape = true)
    (po_Shape : PySem.W.plainOver K c_Shape = true)
    (sa_Shape : PySem.W.findIn K (.ref c_Shape) "__setattr__" = some (some (.builtin "object.__setattr__")))
    (kc_Shape : PySem.W.keepIn K (.ref c_Shape) = true)
    (i_Shape_init : PySem.W.isFn K (.ref f_Shape_init) = true)
    (mk_Shape : PySem.W.makesIn K c_Shape = true)
    (fi_Shape_getitem : PySem.W.fnIn K f_Shape_getitem = true)
    (i_Shape_getitem : PySem.W.isFn K (.ref f_Shape_getitem) = true)
    (i_Shape_iter : PySem.W.isFn K (.ref f_Shape_iter) = true)
    (i_Shape_len : PySem.W.isFn K (.ref f_Shape_len) = true)
    (i_Shape_modes_of : PySem.W.isFn K (.ref f_Shape_modes_of) = true)
    (hca_Shape : PySem.W.findIn K (.ref c_Shape) "__class__" = some (some (.builtin "object.__class__")))
    (hcn_Shape : PySem.W.specialIn K (.builtin "object.__class__") "__get__" = some (some (.builtin "getset_descriptor.__get__")))
    (hct_Shape : PySem.W.takesIn K (.builtin "object.__class__") = some true)
    (hcm_Shape : PySem.W.mroIn K c_Shape (.type "object") = some true)
    (rdc_Shape : PySem.W.readsIn K c_Shape (.type "type") = true)
    (gac_Shape : PySem.W.specialIn K (.ref c_Shape) "__getattribute__" = some (some (.builtin "type.__getattribute__")))
    (fcl_Shape_MARKS : PySem.W.findCls K (.ref c_Shape) (.type "type") "MARKS" = some (.val (.int 6 ti_Shape_MARKS)))
    (fcl_Shape_PARENTS : PySem.W.findCls K (.ref c_Shape) (.type "type") "PARENTS" = some (.val (.int 4 ti_Shape_PARENTS)))
    (no_Shape__listed : PySem.W.findIn K (.ref c_Shape) "_listed" = some none)
    (no_Shape__marks : PySem.W.findIn K (.ref c_Shape) "_marks" = some none)
    (gc_BadShape : PySem.W.nsIn K mainGlobals "BadShape" = some (some (.ref c_BadShape)))
    (gc_UnknownMark : PySem.W.nsIn K mainGlobals "UnknownMark" = some (some (.ref c_UnknownMark)))
    (gc_TooLarge : PySem.W.nsIn K mainGlobals "TooLarge" = some (some (.ref c_TooLarge)))
    (xz_super : PySem.W.nsIn K mainGlobals "super" = some none)
    (x_opq : PySem.W.nsIn K cStatics "thirdparty.any" = some none)
    (x_hn : PySem.W.specialIn K (.builtin "object.__class__") "__get__" = some (some (.builtin "getset_descriptor.__get__")))
    (x_ht : PySem.W.takesIn K (.builtin "object.__class__") = some true)
    (xl_BadShape : K.lookup c_BadShape = some (excClassObj nm_BadShape q_BadShape c_BadShape N_BadShape bs_BadShape [.ref c_WebError, .type "ValueError", .type "Exception", .type "BaseException", .type "object"] true sn_BadShape sub_BadShape ab_BadShape col_BadShape dd_BadShape m0_BadShape m1_BadShape m2_BadShape m3_BadShape m5_BadShape "ValueError.__new__"))
    (xsa_BadShape : PySem.W.findIn K (.ref c_BadShape) "__setattr__" = some (some (.builtin "object.__setattr__")))
    (xga_BadShape : PySem.W.findIn K (.ref c_BadShape) "__getattribute__" = some (some (.builtin "BaseException.__getattribute__")))
    (xgg_BadShape : PySem.W.findIn K (.ref c_BadShape) "__getattr__" = some none)
    (xno_BadShape : PySem.W.findIn K (.ref c_BadShape) "mark" = some none)
    (xk_BadShape : PySem.W.keepIn K (.ref c_BadShape) = true)
    (xb_BadShape : PySem.W.subIn K (.ref c_BadShape) (.type "BaseException") = some true)
    (xt_BadShape : PySem.W.typeIn K (.ref c_BadShape) = some (.type "type"))
    (xd_BadShape : PySem.W.hasDictIn K c_BadShape = true)
    (xi_BadShape : PySem.W.findIn K (.ref c_BadShape) "__init__" = some (some (.ref f_BadShape)))
    (xf_BadShape : PySem.W.typeIn K (.ref f_BadShape) = some (.type "function"))
    (xfl_BadShape : K.lookup f_BadShape = some ⟨oc_BadShape, od_BadShape, .func (PySem.W.ksFn "__init__" "BadShape.__init__" (defArgs S_BadShape_init) (defBody S_BadShape_init) (defScope S_BadShape_init) .none kV_BadShape dc_BadShape pm_BadShape an_BadShape (.ref cda_BadShape) ct_BadShape cc_BadShape), osl_BadShape⟩)
    (xci_BadShape : PySem.W.codeIn K (.ref cda_BadShape) "BadShape.__init__" = true)
    (xcc_BadShape : K.lookup cc_BadShape = some ⟨cl_BadShape, cld_BadShape, .cell (some (.ref c_BadShape)), csl_BadShape⟩)
    (xcd_BadShape : K.lookup cda_BadShape = some ⟨ccl_BadShape, cdd_BadShape, .fields vs_BadShape, ccs_BadShape⟩)
    (xvs_BadShape : vs_BadShape[2]? = some (.str file_BadShape tf_BadShape))
    (xfi_BadShape : ((PP.main.file : Str) == file_BadShape) = true)
    (xnx_BadShape : PySem.W.ks_superIn K c_BadShape c_BadShape "__init__" = some (some (.builtin "ValueError.__init__")))
    (xsl_BadShape : PySem.W.mroIn K c_BadShape (.ref c_BadShape) = some true)
    (xsu_BadShape : PySem.W.subIn K (.ref c_BadShape) (.type "ValueError") = some true)
    (xha_BadShape : PySem.W.findIn K (.ref c_BadShape) "__class__" = some (some (.builtin "object.__class__")))
    (xhm_BadShape : PySem.W.mroIn K c_BadShape (.type "object") = some true)
    (xl_UnknownMark : K.lookup c_UnknownMark = some (excClassObj nm_UnknownMark q_UnknownMark c_UnknownMark N_UnknownMark bs_UnknownMark [.ref c_WebError, .type "ValueError", .type "Exception", .type "BaseException", .type "object"] true sn_UnknownMark sub_UnknownMark ab_UnknownMark col_UnknownMark dd_UnknownMark m0_UnknownMark m1_UnknownMark m2_UnknownMark m3_UnknownMark m5_UnknownMark "ValueError.__new__"))
    (xsa_UnknownMark : PySem.W.findIn K (.ref c_UnknownMark) "__setattr__" = some (some (.builtin "object.__setattr__")))
    (xga_UnknownMark : PySem.W.findIn K (.ref c_UnknownMark) "__getattribute__" = some (some (.builtin "BaseException.__getattribute__")))
    (xgg_UnknownMark : PySem.W.findIn K (.ref c_UnknownMark) "__getattr__" = some none)
    (xno_UnknownMark : PySem.W.findIn K (.ref c_UnknownMark) "mark" = some none)
    (xk_UnknownMark : PySem.W.keepIn K (.ref c_UnknownMark) = true)
    (xb_UnknownMark : PySem.W.subIn K (.ref c_UnknownMark) (.type "BaseException") = some true)
    (xt_UnknownMark : PySem.W.typeIn K (.ref c_UnknownMark) = some (.type "type"))
    (xd_UnknownMark : PySem.W.hasDictIn K c_UnknownMark = true)
    (xi_UnknownMark : PySem.W.findIn K (.ref c_UnknownMark) "__init__" = some (some (.ref f_UnknownMark)))
    (xf_UnknownMark : PySem.W.typeIn K (.ref f_UnknownMark) = some (.type "function"))
    (xfl_UnknownMark : K.lookup f_UnknownMark = some ⟨oc_UnknownMark, od_UnknownMark, .func (PySem.W.ksFn "__init__" "UnknownMark.__init__" (defArgs S_UnknownMark_init) (defBody S_UnknownMark_init) (defScope S_UnknownMark_init) .none kV_UnknownMark dc_UnknownMark pm_UnknownMark an_UnknownMark (.ref cda_UnknownMark) ct_UnknownMark cc_UnknownMark), osl_UnknownMark⟩)
    (xci_UnknownMark : PySem.W.codeIn K (.ref cda_UnknownMark) "UnknownMark.__init__" = true)
    (xcc_UnknownMark : K.lookup cc_UnknownMark = some ⟨cl_UnknownMark, cld_UnknownMark, .cell (some (.ref c_UnknownMark)), csl_UnknownMark⟩)
    (xcd_UnknownMark : K.lookup cda_UnknownMark = some ⟨ccl_UnknownMark, cdd_UnknownMark, .fields vs_UnknownMark, ccs_UnknownMark⟩)
    (xvs_UnknownMark : vs_UnknownMark[2]? = some (.str file_UnknownMark tf_UnknownMark))
    (xfi_UnknownMark : ((PP.main.file : Str) == file_UnknownMark) = true)
    (xnx_UnknownMark : PySem.W.ks_superIn K c_UnknownMark c_UnknownMark "__init__" = some (some (.builtin "ValueError.__init__")))
    (xsl_UnknownMark : PySem.W.mroIn K c_UnknownMark (.ref c_UnknownMark) = some true)
    (xsu_UnknownMark : PySem.W.subIn K (.ref c_UnknownMark) (.type "ValueError") = some true)
    (xha_UnknownMark : PySem.W.findIn K (.ref c_UnknownMark) "__class__" = some (some (.builtin "object.__class__")))
    (xhm_UnknownMark : PySem.W.mroIn K c_UnknownMark (.type "object") = some true)
    (xl_TooLarge : K.lookup c_TooLarge = some (excClassObj nm_TooLarge q_TooLarge c_TooLarge N_TooLarge bs_TooLarge [.ref c_WebError, .type "ValueError", .type "Exception", .type "BaseException", .type "object"] true sn_TooLarge sub_TooLarge ab_TooLarge col_TooLarge dd_TooLarge m0_TooLarge m1_TooLarge m2_TooLarge m3_TooLarge m5_TooLarge "ValueError.__new__"))
    (xsa_TooLarge : PySem.W.findIn K (.ref c_TooLarge) "__setattr__" = some (some (.builtin "object.__setattr__")))
    (xga_TooLarge : PySem.W.findIn K (.ref c_TooLarge) "__getattribute__" = some (some (.builtin "BaseException.__getattribute__")))
    (xgg_TooLarge : PySem.W.findIn K (.ref c_TooLarge) "__getattr__" = some none)
    (xno_TooLarge : PySem.W.findIn K (.ref c_TooLarge) "most" = some none)
    (xk_TooLarge : PySem.W.keepIn K (.ref c_TooLarge) = true)
    (xb_TooLarge : PySem.W.subIn K (.ref c_TooLarge) (.type "BaseException") = some true)
    (xt_TooLarge : PySem.W.typeIn K (.ref c_TooLarge) = some (.type "type"))
    (xd_TooLarge : PySem.W.hasDictIn K c_TooLarge = true)
    (xi_TooLarge : PySem.W.findIn K (.ref c_TooLarge) "__init__" = some (some (.ref f_TooLarge)))
    (xf_TooLarge : PySem.W.typeIn K (.ref f_TooLarge) = some (.type "function"))
    (xfl_TooLarge : K.lookup f_TooLarge = some ⟨oc_TooLarge, od_TooLarge, .func (PySem.W.ksFn "__init__" "TooLarge.__init__" (defArgs S_TooLarge_init) (defBody S_TooLarge_init) (defScope S_TooLarge_init) .none kV_TooLarge dc_TooLarge pm_TooLarge an_TooLarge (.ref cda_TooLarge) ct_TooLarge cc_TooLarge), osl_TooLarge⟩)
    (xci_TooLarge : PySem.W.codeIn K (.ref cda_TooLarge) "TooLarge.__init__" = true)
    (xcc_TooLarge : K.lookup cc_TooLarge = some ⟨cl_TooLarge, cld_TooLarge, .cell (some (.ref c_TooLarge)), csl_TooLarge⟩)
    (xcd_TooLarge : K.lookup cda_TooLarge = some ⟨ccl_TooLarge, cdd_TooLarge, .fields vs_TooLarge, ccs_TooLarge⟩)
    (xvs_TooLarge : vs_TooLarge[2]? = some (.str file_TooLarge tf_TooLarge))
    (xfi_TooLarge : ((PP.main.file : Str) == file_TooLarge) = true)
    (xnx_TooLarge : PySem.W.ks_superIn K c_TooLarge c_TooLarge "__init__" = some (some (.builtin "ValueError.__init__")))
    (xsl_TooLarge : PySem.W.mroIn K c_TooLarge (.ref c_TooLarge) = some true)
    (xsu_TooLarge : PySem.W.subIn K (.ref c_TooLarge) (.type "ValueError") = some true)
    (xha_TooLarge : PySem.W.findIn K (.ref c_TooLarge) "__class__" = some (some (.builtin "object.__class__")))
    (xhm_TooLarge : PySem.W.mroIn K c_TooLarge (.type "object") = some true)
    : ∃ fd : FuncData, (∀ (s : Shared) (v : Value), BindsTo s fd ⟨[v], []⟩ [("_law_script", v)]) ∧ ∀ base : Heap, K.In base → base.Ns mainGlobals mg → FnOk PP w K mg base CX0 40 fa fd ["_law_script"] (spLaw K) := by
  have e := hfa.symm.trans (PySem.W.mg_of X G a_law)
  cases e
  have FD_Way_init : FunD K "__init__" "Way.__init__" (defArgs S_Way_init) (defBody S_Way_init) (defScope S_Way_init) [.str "none", .str "none", .str "none"] [("early", .bl false)] f_Way_init (PySem.W.fnOf "__init__" "Way.__init__" (defArgs S_Way_init) (defBody S_Way_init) (defScope S_Way_init) (.ref dt_Way_init) (.ref kd_Way_init) dc_Way_init pm_Way_init an_Way_init cd_Way_init ct_Way_init) := ⟨⟨_, _, _, _, _, _, _, _, _, _, rfl, l_Way_init, c_Way_init, .inr ⟨by simp, dt_Way_init, _, [.str "none" tt_Way_init_0, .str "none" tt_Way_init_1, .str "none" tt_Way_init_2], _, rfl, lt_Way_init, rfl, (.cons ⟨_, rfl⟩ (.cons ⟨_, rfl⟩ (.cons ⟨_, rfl⟩ .nil)))⟩, .inr ⟨kd_Way_init, rfl, fun q hq => by
      simp only [List.mem_cons, List.not_mem_nil, or_false] at hq
      rcases hq with rfl
      · exact ⟨_, nk_Way_init_early, rfl⟩⟩⟩, k_Way_init⟩
  have FD_Policy_init : FunD K "__init__" "Policy.__init__" (defArgs S_Policy_init) (defBody S_Policy_init) (defScope S_Policy_init) [.ref ed_Policy_init_0] [] f_Policy_init (PySem.W.fnOf "__init__" "Policy.__init__" (defArgs S_Policy_init) (defBody S_Policy_init) (defScope S_Policy_init) (.ref dt_Policy_init) kV_Policy_init dc_Policy_init pm_Policy_init an_Policy_init cd_Policy_init ct_Policy_init) := ⟨⟨_, _, _, _, _, _, _, _, _, _, rfl, l_Policy_init, c_Policy_init, .inr ⟨by simp, dt_Policy_init, _, [.ref ed_Policy_init_0], _, rfl, lt_Policy_init, rfl, (.cons rfl .nil)⟩, .inl rfl⟩, k_Policy_init⟩
  have Hkb_Way_init_4_early : KBn K (PySem.W.fnOf "__init__" "Way.__init__" (defArgs S_Way_init) (defBody S_Way_init) (defScope S_Way_init) (.ref dt_Way_init) (.ref kd_Way_init) dc_Way_init pm_Way_init an_Way_init cd_Way_init ct_Way_init) ["self", "held", "owned", "seen", "early"] 4 ["early"] (fun us ws => us ++ ws) (fun vs zs => vs ++ zs) := by
    obtain ⟨its, mv, h⟩ := FunD.kbinds (ps := ["self", "held", "owned", "seen", "early"]) FD_Way_init 4 ["early"] [] (fun us its mv ws => us ++ ws) (by simp) (by simp) (by simp) (fun r1 r2 r3 r4 => r1.append r4) (fun T D doc pm an cdv ct us its mv ws l1 l2 l3 l4 => match us, ws, mv, its, l1, l4, l3, l2 with | [_, _, _, _], [_], [], [_, _, _], _, _, _, _ => ⟨_, rfl, rfl⟩)
    exact h
  have Hkb_Policy_init_2 : ∃ ds, Vals [.ref ed_Policy_init_0] ds ∧ Binds K (PySem.W.fnOf "__init__" "Policy.__init__" (defArgs S_Policy_init) (defBody S_Policy_init) (defScope S_Policy_init) (.ref dt_Policy_init) kV_Policy_init dc_Policy_init pm_Policy_init an_Policy_init cd_Policy_init ct_Policy_init) ["self", "shape", "rows"] ds := FunD.binds1 (ps := ["self", "shape", "rows"]) FD_Policy_init 2 0 (by simp) (by rfl) (fun T kV doc pm an cdv ct us its l1 l2 => match us, its, l1, l2 with | [_, _], [_], _, _ => ⟨_, rfl, rfl⟩)
  have XT_BadShape : PySem.WX.ExcTxt PP K mg "BadShape" "mark" c_BadShape := { gC := PySem.W.mg_of X G gc_BadShape, cls := ⟨nm_BadShape, q_BadShape, N_BadShape, bs_BadShape, _, sn_BadShape, sub_BadShape, ab_BadShape, col_BadShape, dd_BadShape, m0_BadShape, m1_BadShape, m2_BadShape, m3_BadShape, m5_BadShape, xl_BadShape, rfl⟩, sa := xsa_BadShape, ga := xga_BadShape, gg := xgg_BadShape, noN := xno_BadShape, kC := xk_BadShape, exC := xb_BadShape, tyC := xt_BadShape, hdC := xd_BadShape, D := c_BadShape, clsD := ⟨_, _, xl_BadShape, rfl⟩, fI := f_BadShape, qual := "BadShape.__init__", tx := _, S := S_BadShape_init, oc := oc_BadShape, od := od_BadShape, kV := kV_BadShape, doc := dc_BadShape, pm := pm_BadShape, an := an_BadShape, cda := cda_BadShape, ct := ct_BadShape, osl := osl_BadShape, cc := cc_BadShape, cl := cl_BadShape, cld := cld_BadShape, csl := csl_BadShape, ccl := ccl_BadShape, cdd := cdd_BadShape, vs := vs_BadShape, ccs := ccs_BadShape, file := file_BadShape, tf := tf_BadShape, q1 := _, q2 := _, q3 := _, q4 := _, q5 := _, q6 := _, q7 := _, q8 := _, q9 := _, q10 := _, j := _, pl := _, iC := xi_BadShape, tI := xf_BadShape, lI := xfl_BadShape, cI := xci_BadShape, lcc := xcc_BadShape, lcd := xcd_BadShape, hvs := xvs_BadShape, hfile := xfi_BadShape, hpar := ⟨_, rfl, rfl⟩, hbody := rfl, hbind := fun _ _ => rfl, hev := fun _ _ => rfl, hk := rfl, hco := rfl, hgen := rfl, hks := rfl, hkc := rfl, hself := rfl, hfl := rfl, hcell := by decide +kernel, nf := by decide +kernel, top := by decide +kernel, sup := PySem.W.mg_none_of X G xz_super, opq := x_opq, nxt := xnx_BadShape, slf := xsl_BadShape, sub := xsu_BadShape }
  have XT_UnknownMark : PySem.WX.ExcTxt PP K mg "UnknownMark" "mark" c_UnknownMark := { gC := PySem.W.mg_of X G gc_UnknownMark, cls := ⟨nm_UnknownMark, q_UnknownMark, N_UnknownMark, bs_UnknownMark, _, sn_UnknownMark, sub_UnknownMark, ab_UnknownMark, col_UnknownMark, dd_UnknownMark, m0_UnknownMark, m1_UnknownMark, m2_UnknownMark, m3_UnknownMark, m5_UnknownMark, xl_UnknownMark, rfl⟩, sa := xsa_UnknownMark, ga := xga_UnknownMark, gg := xgg_UnknownMark, noN := xno_UnknownMark, kC := xk_UnknownMark, exC := xb_UnknownMark, tyC := xt_UnknownMark, hdC := xd_UnknownMark, D := c_UnknownMark, clsD := ⟨_, _, xl_UnknownMark, rfl⟩, fI := f_UnknownMark, qual := "UnknownMark.__init__", tx := _, S := S_UnknownMark_init, oc := oc_UnknownMark, od := od_UnknownMark, kV := kV_UnknownMark, doc := dc_UnknownMark, pm := pm_UnknownMark, an := an_UnknownMark, cda := cda_UnknownMark, ct := ct_UnknownMark, osl := osl_UnknownMark, cc := cc_UnknownMark, cl := cl_UnknownMark, cld := cld_UnknownMark, csl := csl_UnknownMark, ccl := ccl_UnknownMark, cdd := cdd_UnknownMark, vs := vs_UnknownMark, ccs := ccs_UnknownMark, file := file_UnknownMark, tf := tf_UnknownMark, q1 := _, q2 := _, q3 := _, q4 := _, q5 := _, q6 := _, q7 := _, q8 := _, q9 := _, q10 := _, j := _, pl := _, iC := xi_UnknownMark, tI := xf_UnknownMark, lI := xfl_UnknownMark, cI := xci_UnknownMark, lcc := xcc_UnknownMark, lcd := xcd_UnknownMark, hvs := xvs_UnknownMark, hfile := xfi_UnknownMark, hpar := ⟨_, rfl, rfl⟩, hbody := rfl, hbind := fun _ _ => rfl, hev := fun _ _ => rfl, hk := rfl, hco := rfl, hgen := rfl, hks := rfl, hkc := rfl, hself := rfl, hfl := rfl, hcell := by decide +kernel, nf := by decide +kernel, top := by decide +kernel, sup := PySem.W.mg_none_of X G xz_super, opq := x_opq, nxt := xnx_UnknownMark, slf := xsl_UnknownMark, sub := xsu_UnknownMark }
  have XT_TooLarge : PySem.WX.ExcTxt PP K mg "TooLarge" "most" c_TooLarge := { gC := PySem.W.mg_of X G gc_TooLarge, cls := ⟨nm_TooLarge, q_TooLarge, N_TooLarge, bs_TooLarge, _, sn_TooLarge, sub_TooLarge, ab_TooLarge, col_TooLarge, dd_TooLarge, m0_TooLarge, m1_TooLarge, m2_TooLarge, m3_TooLarge, m5_TooLarge, xl_TooLarge, rfl⟩, sa := xsa_TooLarge, ga := xga_TooLarge, gg := xgg_TooLarge, noN := xno_TooLarge, kC := xk_TooLarge, exC := xb_TooLarge, tyC := xt_TooLarge, hdC := xd_TooLarge, D := c_TooLarge, clsD := ⟨_, _, xl_TooLarge, rfl⟩, fI := f_TooLarge, qual := "TooLarge.__init__", tx := _, S := S_TooLarge_init, oc := oc_TooLarge, od := od_TooLarge, kV := kV_TooLarge, doc := dc_TooLarge, pm := pm_TooLarge, an := an_TooLarge, cda := cda_TooLarge, ct := ct_TooLarge, osl := osl_TooLarge, cc := cc_TooLarge, cl := cl_TooLarge, cld := cld_TooLarge, csl := csl_TooLarge, ccl := ccl_TooLarge, cdd := cdd_TooLarge, vs := vs_TooLarge, ccs := ccs_TooLarge, file := file_TooLarge, tf := tf_TooLarge, q1 := _, q2 := _, q3 := _, q4 := _, q5 := _, q6 := _, q7 := _, q8 := _, q9 := _, q10 := _, j := _, pl := _, iC := xi_TooLarge, tI := xf_TooLarge, lI := xfl_TooLarge, cI := xci_TooLarge, lcc := xcc_TooLarge, lcd := xcd_TooLarge, hvs := xvs_TooLarge, hfile := xfi_TooLarge, hpar := ⟨_, rfl, rfl⟩, hbody := rfl, hbind := fun _ _ => rfl, hev := fun _ _ => rfl, hk := rfl, hco := rfl, hgen := rfl, hks := rfl, hkc := rfl, hself := rfl, hfl := rfl, hcell := by decide +kernel, nf := by decide +kernel, top := by decide +kernel, sup := PySem.W.mg_none_of X G xz_super, opq := x_opq, nxt := xnx_TooLarge, slf := xsl_TooLarge, sub := xsu_TooLarge }
  let T : Txt K mg := {
    a_kinds := f_kinds,
    fd_kinds := _,
    F_kinds := fun_mk (st := S_kinds) l_kinds c_kinds k_kinds,
    b_kinds := (fun_mk (st := S_kinds) l_kinds c_kinds k_kinds).binds (ps := ["policy"]) fun _ _ _ _ _ _ us hl => match us, hl with | [_], _ => rfl,
    g_kinds := PySem.W.mg_of X G a_kinds,
    a_supply := f_supply,
    fd_supply := _,
    F_supply := fun_mk (st := S_supply) l_supply c_supply k_supply,
    b_supply := (fun_mk (st := S_supply) l_supply c_supply k_supply).binds (ps := ["shape", "mark", "kind", "reached"]) fun _ _ _ _ _ _ us hl => match us, hl with | [_, _, _, _], _ => rfl,
    g_supply := PySem.W.mg_of X G a_supply,
    a_fits := f_fits,
    fd_fits := _,
    F_fits := fun_mk (st := S_fits) l_fits c_fits k_fits,
    b_fits := (fun_mk (st := S_fits) l_fits c_fits k_fits).binds (ps := ["shape", "way", "mark", "parents", "kind", "reached"]) fun _ _ _ _ _ _ us hl => match us, hl with | [_, _, _, _, _, _], _ => rfl,
    g_fits := PySem.W.mg_of X G a_fits,
    a_first_rung := f_first_rung,
    fd_first_rung := _,
    F_first_rung := fun_mk (st := S_first_rung) l_first_rung c_first_rung k_first_rung,
    b_first_rung := (fun_mk (st := S_first_rung) l_first_rung c_first_rung k_first_rung).binds (ps := ["policy", "mark", "kind", "names"]) fun _ _ _ _ _ _ us hl => match us, hl with | [_, _, _, _], _ => rfl,
    g_first_rung := PySem.W.mg_of X G a_first_rung,
    a_ladder := f_ladder,
    fd_ladder := _,
    F_ladder := fun_mk (st := S_ladder) l_ladder c_ladder k_ladder,
    b_ladder := (fun_mk (st := S_ladder) l_ladder c_ladder k_ladder).binds (ps := ["policy", "kind"]) fun _ _ _ _ _ _ us hl => match us, hl with | [_, _], _ => rfl,
    g_ladder := PySem.W.mg_of X G a_ladder,
    a_reached := f_reached,
    fd_reached := _,
    F_reached := fun_mk (st := S_reached) l_reached c_reached k_reached,
    b_reached := (fun_mk (st := S_reached) l_reached c_reached k_reached).binds (ps := ["policy", "kind"]) fun _ _ _ _ _ _ us hl => match us, hl with | [_, _], _ => rfl,
    g_reached := PySem.W.mg_of X G a_reached,
    a_reaches := f_reaches,
    fd_reaches := _,
    F_reaches := fun_mk (st := S_reaches) l_reaches c_reaches k_reaches,
    b_reaches := (fun_mk (st := S_reaches) l_reaches c_reaches k_reaches).binds (ps := ["policy"]) fun _ _ _ _ _ _ us hl => match us, hl with | [_], _ => rfl,
    g_reaches := PySem.W.mg_of X G a_reaches,
    a_meeting_at := f_meeting_at,
    fd_meeting_at := _,
    F_meeting_at := fun_mk (st := S_meeting_at) l_meeting_at c_meeting_at k_meeting_at,
    b_meeting_at := (fun_mk (st := S_meeting_at) l_meeting_at c_meeting_at k_meeting_at).binds (ps := ["policy", "mark", "parents", "kind", "other", "table"]) fun _ _ _ _ _ _ us hl => match us, hl with | [_, _, _, _, _, _], _ => rfl,
    g_meeting_at := PySem.W.mg_of X G a_meeting_at,
    a_meeting := f_meeting,
    fd_meeting := _,
    F_meeting := fun_mk (st := S_meeting) l_meeting c_meeting k_meeting,
    b_meeting := (fun_mk (st := S_meeting) l_meeting c_meeting k_meeting).binds (ps := ["policy", "kind", "other", "table"]) fun _ _ _ _ _ _ us hl => match us, hl with | [_, _, _, _], _ => rfl,
    g_meeting := PySem.W.mg_of X G a_meeting,
    a_neighbours := f_neighbours,
    fd_neighbours := _,
    F_neighbours := fun_mk (st := S_neighbours) l_neighbours c_neighbours k_neighbours,
    b_neighbours := (fun_mk (st := S_neighbours) l_neighbours c_neighbours k_neighbours).binds (ps := ["policy", "table"]) fun _ _ _ _ _ _ us hl => match us, hl with | [_, _], _ => rfl,
    g_neighbours := PySem.W.mg_of X G a_neighbours,
    a_ahead_of := f_ahead_of,
    fd_ahead_of := _,
    F_ahead_of := fun_mk (st := S_ahead_of) l_ahead_of c_ahead_of k_ahead_of,
    b_ahead_of := (fun_mk (st := S_ahead_of) l_ahead_of c_ahead_of k_ahead_of).binds (ps := ["kind", "near"]) fun _ _ _ _ _ _ us hl => match us, hl with | [_, _], _ => rfl,
    g_ahead_of := PySem.W.mg_of X G a_ahead_of,
    a_same_start := f_same_start,
    fd_same_start := _,
    F_same_start := fun_mk (st := S_same_start) l_same_start c_same_start k_same_start,
    b_same_start := (fun_mk (st := S_same_start) l_same_start c_same_start k_same_start).binds (ps := ["shape", "place", "way", "other", "names"]) fun _ _ _ _ _ _ us hl => match us, hl with | [_, _, _, _, _], _ => rfl,
    g_same_start := PySem.W.mg_of X G a_same_start,
    a_faults_at := f_faults_at,
    fd_faults_at := _,
    F_faults_at := fun_mk (st := S_faults_at) l_faults_at c_faults_at k_faults_at,
    b_faults_at := (fun_mk (st := S_faults_at) l_faults_at c_faults_at k_faults_at).binds (ps := ["policy", "table", "came", "place"]) fun _ _ _ _ _ _ us hl => match us, hl with | [_, _, _, _], _ => rfl,
    g_faults_at := PySem.W.mg_of X G a_faults_at,
    a_faults := f_faults,
    fd_faults := _,
    F_faults := fun_mk (st := S_faults) l_faults c_faults k_faults,
    b_faults := (fun_mk (st := S_faults) l_faults c_faults k_faults).binds (ps := ["policy"]) fun _ _ _ _ _ _ us hl => match us, hl with | [_], _ => rfl,
    g_faults := PySem.W.mg_of X G a_faults,
    a_is_safe := f_is_safe,
    fd_is_safe := _,
    F_is_safe := fun_mk (st := S_is_safe) l_is_safe c_is_safe k_is_safe,
    b_is_safe := (fun_mk (st := S_is_safe) l_is_safe c_is_safe k_is_safe).binds (ps := ["policy"]) fun _ _ _ _ _ _ us hl => match us, hl with | [_], _ => rfl,
    g_is_safe := PySem.W.mg_of X G a_is_safe,
    a_rank := f_rank,
    fd_rank := _,
    F_rank := fun_mk (st := S_rank) l_rank c_rank k_rank,
    b_rank := (fun_mk (st := S_rank) l_rank c_rank k_rank).binds (ps := ["level"]) fun _ _ _ _ _ _ us hl => match us, hl with | [_], _ => rfl,
    g_rank := PySem.W.mg_of X G a_rank,
    a_needed := f_needed,
    fd_needed := _,
    F_needed := fun_mk (st := S_needed) l_needed c_needed k_needed,
    b_needed := (fun_mk (st := S_needed) l_needed c_needed k_needed).binds (ps := ["level", "parents"]) fun _ _ _ _ _ _ us hl => match us, hl with | [_, _], _ => rfl,
    g_needed := PySem.W.mg_of X G a_needed,
    a_Way_init := f_Way_init,
    fd_Way_init := _,
    F_Way_init := FD_Way_init,
    a_Way_needs := f_Way_needs,
    fd_Way_needs := _,
    F_Way_needs := fun_mk (st := S_Way_needs) l_Way_needs c_Way_needs k_Way_needs,
    b_Way_needs := (fun_mk (st := S_Way_needs) l_Way_needs c_Way_needs k_Way_needs).binds (ps := ["self", "parents"]) fun _ _ _ _ _ _ us hl => match us, hl with | [_, _], _ => rfl,
    a_Policy_init := f_Policy_init,
    fd_Policy_init := _,
    F_Policy_init := FD_Policy_init,
    ed_Policy_init_0 := ed_Policy_init_0,
    qe_Policy_init_0 := fun H => .inr ⟨_, _, _, le_Policy_init_0, rfl, rfl, by show 0 ≤ sizeLine; decide, .nil⟩,
    a_Policy_getitem := f_Policy_getitem,
    fd_Policy_getitem := _,
    F_Policy_getitem := fun_mk (st := S_Policy_getitem) l_Policy_getitem c_Policy_getitem k_Policy_getitem,
    b_Policy_getitem := (fun_mk (st := S_Policy_getitem) l_Policy_getitem c_Policy_getitem k_Policy_getitem).binds (ps := ["self", "mark"]) fun _ _ _ _ _ _ us hl => match us, hl with | [_, _], _ => rfl,
    a_Policy_setitem := f_Policy_setitem,
    fd_Policy_setitem := _,
    F_Policy_setitem := fun_mk (st := S_Policy_setitem) l_Policy_setitem c_Policy_setitem k_Policy_setitem,
    b_Policy_setitem := (fun_mk (st := S_Policy_setitem) l_Policy_setitem c_Policy_setitem k_Policy_setitem).binds (ps := ["self", "mark", "rule"]) fun _ _ _ _ _ _ us hl => match us, hl with | [_, _, _], _ => rfl,
    a_Policy_starts_at := f_Policy_starts_at,
    fd_Policy_starts_at := _,
    F_Policy_starts_at := fun_mk (st := S_Policy_starts_at) l_Policy_starts_at c_Policy_starts_at k_Policy_starts_at,
    b_Policy_starts_at := (fun_mk (st := S_Policy_starts_at) l_Policy_starts_at c_Policy_starts_at k_Policy_starts_at).binds (ps := ["self", "mark"]) fun _ _ _ _ _ _ us hl => match us, hl with | [_, _], _ => rfl,
    a_Policy_ways_of := f_Policy_ways_of,
    fd_Policy_ways_of := _,
    F_Policy_ways_of := fun_mk (st := S_Policy_ways_of) l_Policy_ways_of c_Policy_ways_of k_Policy_ways_of,
    b_Policy_ways_of := (fun_mk (st := S_Policy_ways_of) l_Policy_ways_of c_Policy_ways_of k_Policy_ways_of).binds (ps := ["self", "mark"]) fun _ _ _ _ _ _ us hl => match us, hl with | [_, _], _ => rfl,
    a_Policy_starts := f_Policy_starts,
    fd_Policy_starts := _,
    F_Policy_starts := fun_mk (st := S_Policy_starts) l_Policy_starts c_Policy_starts k_Policy_starts,
    b_Policy_starts := (fun_mk (st := S_Policy_starts) l_Policy_starts c_Policy_starts k_Policy_starts).binds (ps := ["self"]) fun _ _ _ _ _ _ us hl => match us, hl with | [_], _ => rfl,
    a_is_mark := f_is_mark,
    fd_is_mark := _,
    F_is_mark := fun_mk (st := S_is_mark) l_is_mark c_is_mark k_is_mark,
    b_is_mark := (fun_mk (st := S_is_mark) l_is_mark c_is_mark k_is_mark).binds (ps := ["text"]) fun _ _ _ _ _ _ us hl => match us, hl with | [_], _ => rfl,
    g_is_mark := PySem.W.mg_of X G a_is_mark,
    a_sound_row := f_sound_row,
    fd_sound_row := _,
    F_sound_row := fun_mk (st := S_sound_row) l_sound_row c_sound_row k_sound_row,
    b_sound_row := (fun_mk (st := S_sound_row) l_sound_row c_sound_row k_sound_row).binds (ps := ["row", "before"]) fun _ _ _ _ _ _ us hl => match us, hl with | [_, _], _ => rfl,
    g_sound_row := PySem.W.mg_of X G a_sound_row,
    a_barren := f_barren,
    fd_barren := _,
    F_barren := fun_mk (st := S_barren) l_barren c_barren k_barren,
    b_barren := (fun_mk (st := S_barren) l_barren c_barren k_barren).binds (ps := ["rows"]) fun _ _ _ _ _ _ us hl => match us, hl with | [_], _ => rfl,
    g_barren := PySem.W.mg_of X G a_barren,
    a_Shape_init := f_Shape_init,
    fd_Shape_init := _,
    F_Shape_init := fun_mk (st := S_Shape_init) l_Shape_init c_Shape_init k_Shape_init,
    bs_Shape_init := StX.bind_star1 (B := fun us => bindArgs (PySem.W.fnOf "__init__" "Shape.__init__" (defArgs S_Shape_init) (defBody S_Shape_init) (defScope S_Shape_init) .none kV_Shape_init dc_Shape_init pm_Shape_init an_Shape_init cd_Shape_init ct_Shape_init) ⟨us, []⟩) (fun a => rfl) (fun a r rs => rfl),
    a_Shape_getitem := f_Shape_getitem,
    fd_Shape_getitem := _,
    F_Shape_getitem := fun_mk (st := S_Shape_getitem) l_Shape_getitem c_Shape_getitem k_Shape_getitem,
    b_Shape_getitem := (fun_mk (st := S_Shape_getitem) l_Shape_getitem c_Shape_getitem k_Shape_getitem).binds (ps := ["self", "mark"]) fun _ _ _ _ _ _ us hl => match us, hl with | [_, _], _ => rfl,
    a_Shape_iter := f_Shape_iter,
    fd_Shape_iter := _,
    F_Shape_iter := fun_mk (st := S_Shape_iter) l_Shape_iter c_Shape_iter k_Shape_iter,
    b_Shape_iter := (fun_mk (st := S_Shape_iter) l_Shape_iter c_Shape_iter k_Shape_iter).binds (ps := ["self"]) fun _ _ _ _ _ _ us hl => match us, hl with | [_], _ => rfl,
    a_Shape_len := f_Shape_len,
    fd_Shape_len := _,
    F_Shape_len := fun_mk (st := S_Shape_len) l_Shape_len c_Shape_len k_Shape_len,
    b_Shape_len := (fun_mk (st := S_Shape_len) l_Shape_len c_Shape_len k_Shape_len).binds (ps := ["self"]) fun _ _ _ _ _ _ us hl => match us, hl with | [_], _ => rfl,
    a_Shape_modes_of := f_Shape_modes_of,
    fd_Shape_modes_of := _,
    F_Shape_modes_of := fun_mk (st := S_Shape_modes_of) l_Shape_modes_of c_Shape_modes_of k_Shape_modes_of,
    b_Shape_modes_of := (fun_mk (st := S_Shape_modes_of) l_Shape_modes_of c_Shape_modes_of k_Shape_modes_of).binds (ps := ["self", "mark"]) fun _ _ _ _ _ _ us hl => match us, hl with | [_, _], _ => rfl,
    a__law_draws := f__law_draws,
    fd__law_draws := _,
    F__law_draws := fun_mk (st := S__law_draws) l__law_draws c__law_draws k__law_draws,
    b__law_draws := (fun_mk (st := S__law_draws) l__law_draws c__law_draws k__law_draws).binds (ps := ["_law_script"]) fun _ _ _ _ _ _ us hl => match us, hl with | [_], _ => rfl,
    g__law_draws := PySem.W.mg_of X G a__law_draws,
    a__law_take := f__law_take,
    fd__law_take := _,
    F__law_take := fun_mk (st := S__law_take) l__law_take c__law_take k__law_take,
    b__law_take := (fun_mk (st := S__law_take) l__law_take c__law_take k__law_take).binds (ps := ["_law_draws_here", "_law_at", "_law_size"]) fun _ _ _ _ _ _ us hl => match us, hl with | [_, _, _], _ => rfl,
    g__law_take := PySem.W.mg_of X G a__law_take,
    a__law_same := f__law_same,
    fd__law_same := _,
    F__law_same := fun_mk (st := S__law_same) l__law_same c__law_same k__law_same,
    b__law_same := (fun_mk (st := S__law_same) l__law_same c__law_same k__law_same).binds (ps := ["_law_actual", "_law_expected"]) fun _ _ _ _ _ _ us hl => match us, hl with | [_, _], _ => rfl,
    g__law_same := PySem.W.mg_of X G a__law_same,
    a__law_marks := f__law_marks,
    fd__law_marks := _,
    F__law_marks := fun_mk (st := S__law_marks) l__law_marks c__law_marks k__law_marks,
    b__law_marks := (fun_mk (st := S__law_marks) l__law_marks c__law_marks k__law_marks).binds (ps := ["_law_draws_here", "_law_at", "_law_count"]) fun _ _ _ _ _ _ us hl => match us, hl with | [_, _, _], _ => rfl,
    g__law_marks := PySem.W.mg_of X G a__law_marks,
    a__law_rows := f__law_rows,
    fd__law_rows := _,
    F__law_rows := fun_mk (st := S__law_rows) l__law_rows c__law_rows k__law_rows,
    b__law_rows := (fun_mk (st := S__law_rows) l__law_rows c__law_rows k__law_rows).binds (ps := ["_law_draws_here", "_law_at", "_law_exclusive"]) fun _ _ _ _ _ _ us hl => match us, hl with | [_, _, _], _ => rfl,
    g__law_rows := PySem.W.mg_of X G a__law_rows,
    a__law_way := f__law_way,
    fd__law_way := _,
    F__law_way := fun_mk (st := S__law_way) l__law_way c__law_way k__law_way,
    b__law_way := (fun_mk (st := S__law_way) l__law_way c__law_way k__law_way).binds (ps := ["_law_draws_here", "_law_at"]) fun _ _ _ _ _ _ us hl => match us, hl with | [_, _], _ => rfl,
    g__law_way := PySem.W.mg_of X G a__law_way,
    a__law_rules := f__law_rules,
    fd__law_rules := _,
    F__law_rules := fun_mk (st := S__law_rules) l__law_rules c__law_rules k__law_rules,
    b__law_rules := (fun_mk (st := S__law_rules) l__law_rules c__law_rules k__law_rules).binds (ps := ["_law_draws_here", "_law_at", "_law_rows_here"]) fun _ _ _ _ _ _ us hl => match us, hl with | [_, _, _], _ => rfl,
    g__law_rules := PySem.W.mg_of X G a__law_rules,
    a__law_number := f__law_number,
    fd__law_number := _,
    F__law_number := fun_mk (st := S__law_number) l__law_number c__law_number k__law_number,
    b__law_number := (fun_mk (st := S__law_number) l__law_number c__law_number k__law_number).binds (ps := ["_law_rank", "_law_parents"]) fun _ _ _ _ _ _ us hl => match us, hl with | [_, _], _ => rfl,
    g__law_number := PySem.W.mg_of X G a__law_number,
    a__law_shape := f__law_shape,
    fd__law_shape := _,
    F__law_shape := fun_mk (st := S__law_shape) l__law_shape c__law_shape k__law_shape,
    b__law_shape := (fun_mk (st := S__law_shape) l__law_shape c__law_shape k__law_shape).binds (ps := ["_law_rows_here"]) fun _ _ _ _ _ _ us hl => match us, hl with | [_], _ => rfl,
    g__law_shape := PySem.W.mg_of X G a__law_shape,
    a__law_way_made := f__law_way_made,
    fd__law_way_made := _,
    F__law_way_made := fun_mk (st := S__law_way_made) l__law_way_made c__law_way_made k__law_way_made,
    b__law_way_made := (fun_mk (st := S__law_way_made) l__law_way_made c__law_way_made k__law_way_made).binds (ps := ["_law_way_here"]) fun _ _ _ _ _ _ us hl => match us, hl with | [_], _ => rfl,
    g__law_way_made := PySem.W.mg_of X G a__law_way_made,
    a__law_policy := f__law_policy,
    fd__law_policy := _,
    F__law_policy := fun_mk (st := S__law_policy) l__law_policy c__law_policy k__law_policy,
    b__law_policy := (fun_mk (st := S__law_policy) l__law_policy c__law_policy k__law_policy).binds (ps := ["_law_shape_here", "_law_rules_here"]) fun _ _ _ _ _ _ us hl => match us, hl with | [_, _], _ => rfl,
    g__law_policy := PySem.W.mg_of X G a__law_policy,
    a__law_loose := f__law_loose,
    fd__law_loose := _,
    F__law_loose := fun_mk (st := S__law_loose) l__law_loose c__law_loose k__law_loose,
    b__law_loose := (fun_mk (st := S__law_loose) l__law_loose c__law_loose k__law_loose).binds (ps := ["_law_draws_here", "_law_at", "_law_rules_here"]) fun _ _ _ _ _ _ us hl => match us, hl with | [_, _, _], _ => rfl,
    g__law_loose := PySem.W.mg_of X G a__law_loose,
    a__law_wider := f__law_wider,
    fd__law_wider := _,
    F__law_wider := fun_mk (st := S__law_wider) l__law_wider c__law_wider k__law_wider,
    b__law_wider := (fun_mk (st := S__law_wider) l__law_wider c__law_wider k__law_wider).binds (ps := ["_law_draws_here", "_law_at", "_law_rows_here"]) fun _ _ _ _ _ _ us hl => match us, hl with | [_, _, _], _ => rfl,
    g__law_wider := PySem.W.mg_of X G a__law_wider,
    a__law_kinds := f__law_kinds,
    fd__law_kinds := _,
    F__law_kinds := fun_mk (st := S__law_kinds) l__law_kinds c__law_kinds k__law_kinds,
    b__law_kinds := (fun_mk (st := S__law_kinds) l__law_kinds c__law_kinds k__law_kinds).binds (ps := ["_law_rows_here", "_law_rules_here"]) fun _ _ _ _ _ _ us hl => match us, hl with | [_, _], _ => rfl,
    g__law_kinds := PySem.W.mg_of X G a__law_kinds,
    a__law_supply := f__law_supply,
    fd__law_supply := _,
    F__law_supply := fun_mk (st := S__law_supply) l__law_supply c__law_supply k__law_supply,
    b__law_supply := (fun_mk (st := S__law_supply) l__law_supply c__law_supply k__law_supply).binds (ps := ["_law_rows_here", "_law_row", "_law_kind", "_law_names"]) fun _ _ _ _ _ _ us hl => match us, hl with | [_, _, _, _], _ => rfl,
    g__law_supply := PySem.W.mg_of X G a__law_supply,
    a__law_fits := f__law_fits,
    fd__law_fits := _,
    F__law_fits := fun_mk (st := S__law_fits) l__law_fits c__law_fits k__law_fits,
    b__law_fits := (fun_mk (st := S__law_fits) l__law_fits c__law_fits k__law_fits).binds (ps := ["_law_rows_here", "_law_row", "_law_way_here", "_law_count", "_law_kind", "_law_names"]) fun _ _ _ _ _ _ us hl => match us, hl with | [_, _, _, _, _, _], _ => rfl,
    g__law_fits := PySem.W.mg_of X G a__law_fits,
    a__law_reached := f__law_reached,
    fd__law_reached := _,
    F__law_reached := fun_mk (st := S__law_reached) l__law_reached c__law_reached k__law_reached,
    b__law_reached := (fun_mk (st := S__law_reached) l__law_reached c__law_reached k__law_reached).binds (ps := ["_law_rows_here", "_law_rules_here", "_law_kind"]) fun _ _ _ _ _ _ us hl => match us, hl with | [_, _, _], _ => rfl,
    g__law_reached := PySem.W.mg_of X G a__law_reached,
    a__law_meeting := f__law_meeting,
    fd__law_meeting := _,
    F__law_meeting := fun_mk (st := S__law_meeting) l__law_meeting c__law_meeting k__law_meeting,
    b__law_meeting := (fun_mk (st := S__law_meeting) l__law_meeting c__law_meeting k__law_meeting).binds (ps := ["_law_rows_here", "_law_rules_here", "_law_one", "_law_two", "_law_table_here"]) fun _ _ _ _ _ _ us hl => match us, hl with | [_, _, _, _, _], _ => rfl,
    g__law_meeting := PySem.W.mg_of X G a__law_meeting,
    a__law_links := f__law_links,
    fd__law_links := _,
    F__law_links := fun_mk (st := S__law_links) l__law_links c__law_links k__law_links,
    b__law_links := (fun_mk (st := S__law_links) l__law_links c__law_links k__law_links).binds (ps := ["_law_rows_here", "_law_rules_here", "_law_kinds_due", "_law_table_here"]) fun _ _ _ _ _ _ us hl => match us, hl with | [_, _, _, _], _ => rfl,
    g__law_links := PySem.W.mg_of X G a__law_links,
    a__law_joined := f__law_joined,
    fd__law_joined := _,
    F__law_joined := fun_mk (st := S__law_joined) l__law_joined c__law_joined k__law_joined,
    b__law_joined := (fun_mk (st := S__law_joined) l__law_joined c__law_joined k__law_joined).binds (ps := ["_law_kinds_due", "_law_links_here", "_law_kind"]) fun _ _ _ _ _ _ us hl => match us, hl with | [_, _, _], _ => rfl,
    g__law_joined := PySem.W.mg_of X G a__law_joined,
    a__law_table := f__law_table,
    fd__law_table := _,
    F__law_table := fun_mk (st := S__law_table) l__law_table c__law_table k__law_table,
    b__law_table := (fun_mk (st := S__law_table) l__law_table c__law_table k__law_table).binds (ps := ["_law_rows_here", "_law_rules_here"]) fun _ _ _ _ _ _ us hl => match us, hl with | [_, _], _ => rfl,
    g__law_table := PySem.W.mg_of X G a__law_table,
    a__law_same_fault := f__law_same_fault,
    fd__law_same_fault := _,
    F__law_same_fault := fun_mk (st := S__law_same_fault) l__law_same_fault c__law_same_fault k__law_same_fault,
    b__law_same_fault := (fun_mk (st := S__law_same_fault) l__law_same_fault c__law_same_fault k__law_same_fault).binds (ps := ["_law_rows_here", "_law_row", "_law_way_here", "_law_other", "_law_count", "_law_kind", "_law_names"]) fun _ _ _ _ _ _ us hl => match us, hl with | [_, _, _, _, _, _, _], _ => rfl,
    g__law_same_fault := PySem.W.mg_of X G a__law_same_fault,
    a__law_faults_at := f__law_faults_at,
    fd__law_faults_at := _,
    F__law_faults_at := fun_mk (st := S__law_faults_at) l__law_faults_at c__law_faults_at k__law_faults_at,
    b__law_faults_at := (fun_mk (st := S__law_faults_at) l__law_faults_at c__law_faults_at k__law_faults_at).binds (ps := ["_law_rows_here", "_law_rules_here", "_law_row", "_law_count", "_law_index", "_law_kind", "_law_table_here", "_law_links_here"]) fun _ _ _ _ _ _ us hl => match us, hl with | [_, _, _, _, _, _, _, _], _ => rfl,
    g__law_faults_at := PySem.W.mg_of X G a__law_faults_at,
    a__law_faults := f__law_faults,
    fd__law_faults := _,
    F__law_faults := fun_mk (st := S__law_faults) l__law_faults c__law_faults k__law_faults,
    b__law_faults := (fun_mk (st := S__law_faults) l__law_faults c__law_faults k__law_faults).binds (ps := ["_law_rows_here", "_law_rules_here"]) fun _ _ _ _ _ _ us hl => match us, hl with | [_, _], _ => rfl,
    g__law_faults := PySem.W.mg_of X G a__law_faults,
    a_law := fa,
    fd_law := _,
    F_law := fun_mk (st := S_law) l_law c_law k_law,
    b_law := (fun_mk (st := S_law) l_law c_law k_law).binds (ps := ["_law_script"]) fun _ _ _ _ _ _ us hl => match us, hl with | [_], _ => rfl,
    g_law := PySem.W.mg_of X G a_law,
    n_any := PySem.W.mg_none_of X G z_any,
    n_bool := PySem.W.mg_none_of X G z_bool,
    n_enumerate := PySem.W.mg_none_of X G z_enumerate,
    n_int := PySem.W.mg_none_of X G z_int,
    n_isinstance := PySem.W.mg_none_of X G z_isinstance,
    n_iter := PySem.W.mg_none_of X G z_iter,
    n_len := PySem.W.mg_none_of X G z_len,
    n_list := PySem.W.mg_none_of X G z_list,
    n_max := PySem.W.mg_none_of X G z_max,
    n_property := PySem.W.mg_none_of X G z_property,
    n_range := PySem.W.mg_none_of X G z_range,
    n_str := PySem.W.mg_none_of X G z_str,
    n_tuple := PySem.W.mg_none_of X G z_tuple,
    tk_UNLIMITED := tq_UNLIMITED,
    g_UNLIMITED := PySem.W.mg_of X G aq_UNLIMITED,
    k_LEVELS := q_LEVELS,
    g_LEVELS := PySem.W.mg_of X G aq_LEVELS,
    q_LEVELS := fun H => .inr ⟨_, _, _, lq_LEVELS, rfl, rfl, by show 4 ≤ sizeLine; decide, (.cons ⟨_, rfl⟩ (.cons ⟨_, rfl⟩ (.cons ⟨_, rfl⟩ (.cons ⟨_, rfl⟩ .nil))))⟩,
    tk_LETTERS := tq_LETTERS,
    g_LETTERS := PySem.W.mg_of X G aq_LETTERS,
    k_MODES := q_MODES,
    g_MODES := PySem.W.mg_of X G aq_MODES,
    q_MODES := fun H => .inr ⟨_, _, _, lq_MODES, rfl, rfl, by show 2 ≤ sizeLine; decide, (.cons ⟨_, rfl⟩ (.cons ⟨_, rfl⟩ .nil))⟩,
    sq_add := ⟨xla, xlr, xta, xtr⟩,
    c_Way := c_Way,
    g_Way := PySem.W.mg_of X G gc_Way,
    cl_Way := ⟨pg_Way, hd_Way, po_Way, sa_Way⟩,
    mk_Way := ⟨mk_Way, a_Way_init, i_Way_init, kc_Way⟩,
    m_Way_needs := ⟨a_Way_needs, i_Way_needs, k_Way_needs⟩,
    ti_Way := fun _ _ _ _ h => .ins h ⟨pg_Way, hd_Way, po_Way, sa_Way⟩ hca_Way hcn_Way hct_Way hcm_Way,
    kk_Way := if_pos (beq_self_eq_true _),
    no_Way_held := no_Way_held,
    no_Way_owned := no_Way_owned,
    no_Way_seen := no_Way_seen,
    no_Way_early := no_Way_early,
    c_Policy := c_Policy,
    g_Policy := PySem.W.mg_of X G gc_Policy,
    cl_Policy := ⟨pg_Policy, hd_Policy, po_Policy, sa_Policy⟩,
    mk_Policy := ⟨mk_Policy, a_Policy_init, i_Policy_init, kc_Policy⟩,
    fi_Policy_getitem := fi_Policy_getitem,
    m_Policy_getitem := ⟨a_Policy_getitem, i_Policy_getitem, k_Policy_getitem⟩,
    nq_Policy := nq_Policy,
    m_Policy_setitem := ⟨a_Policy_setitem, i_Policy_setitem, k_Policy_setitem⟩,
    m_Policy_starts_at := ⟨a_Policy_starts_at, i_Policy_starts_at, k_Policy_starts_at⟩,
    m_Policy_ways_of := ⟨a_Policy_ways_of, i_Policy_ways_of, k_Policy_ways_of⟩,
    p_Policy_starts := p_Policy_starts,
    pr_Policy_starts := ⟨pa_Policy_starts, pg_Policy_starts, pt_Policy_starts, ⟨_, pr_Policy_starts⟩⟩,
    ti_Policy := fun _ _ _ _ h => .ins h ⟨pg_Policy, hd_Policy, po_Policy, sa_Policy⟩ hca_Policy hcn_Policy hct_Policy hcm_Policy,
    kk_Policy := if_pos (beq_self_eq_true _),
    no_Policy_shape := no_Policy_shape,
    no_Policy__marks := no_Policy__marks,
    no_Policy__starts := no_Policy__starts,
    no_Policy__ways := no_Policy__ways,
    c_Shape := c_Shape,
    g_Shape := PySem.W.mg_of X G gc_Shape,
    cl_Shape := ⟨pg_Shape, hd_Shape, po_Shape, sa_Shape⟩,
    mk_Shape := ⟨mk_Shape, a_Shape_init, i_Shape_init, kc_Shape⟩,
    fi_Shape_getitem := fi_Shape_getitem,
    m_Shape_getitem := ⟨a_Shape_getitem, i_Shape_getitem, k_Shape_getitem⟩,
    m_Shape_iter := ⟨a_Shape_iter, i_Shape_iter, k_Shape_iter⟩,
    m_Shape_len := ⟨a_Shape_len, i_Shape_len, k_Shape_len⟩,
    m_Shape_modes_of := ⟨a_Shape_modes_of, i_Shape_modes_of, k_Shape_modes_of⟩,
    ti_Shape := fun _ _ _ _ h => .ins h ⟨pg_Shape, hd_Shape, po_Shape, sa_Shape⟩ hca_Shape hcn_Shape hct_Shape hcm_Shape,
    kk_Shape := if_pos (beq_self_eq_true _),
    cr_Shape := ⟨rdc_Shape, gac_Shape⟩,
    tk_Shape_MARKS := ti_Shape_MARKS,
    cv_Shape_MARKS := ⟨fcl_Shape_MARKS, ⟨_, rfl⟩⟩,
    tk_Shape_PARENTS := ti_Shape_PARENTS,
    cv_Shape_PARENTS := ⟨fcl_Shape_PARENTS, ⟨_, rfl⟩⟩,
    no_Shape__listed := no_Shape__listed,
    no_Shape__marks := no_Shape__marks,
    kb_Way_init_4_early := Hkb_Way_init_4_early,
    kb_Policy_init_2 := Hkb_Policy_init_2,
    c_BadShape := c_BadShape,
    g_BadShape := PySem.W.mg_of X G gc_BadShape,
    c_UnknownMark := c_UnknownMark,
    g_UnknownMark := PySem.W.mg_of X G gc_UnknownMark,
    c_TooLarge := c_TooLarge,
    g_TooLarge := PySem.W.mg_of X G gc_TooLarge,
    x_BadShape := XT_BadShape,
    xc_BadShape := ⟨xga_BadShape, xgg_BadShape, xb_BadShape, xd_BadShape, xha_BadShape, x_hn, x_ht, xhm_BadShape⟩,
    xn_BadShape := xno_BadShape,
    x_UnknownMark := XT_UnknownMark,
    xc_UnknownMark := ⟨xga_UnknownMark, xgg_UnknownMark, xb_UnknownMark, xd_UnknownMark, xha_UnknownMark, x_hn, x_ht, xhm_UnknownMark⟩,
    xn_UnknownMark := xno_UnknownMark,
    x_TooLarge := XT_TooLarge,
    xc_TooLarge := ⟨xga_TooLarge, xgg_TooLarge, xb_TooLarge, xd_TooLarge, xha_TooLarge, x_hn, x_ht, xhm_TooLarge⟩,
    xn_TooLarge := xno_TooLarge }
  exact ⟨T.fd_law, fun s v => .of_eq rfl, fun base _ _ => ok_law T⟩
end My
open PySem PySem.W PyProof.Rows in
set_option maxRecDepth 100000 in
set_option maxHeartbeats 0 in
theorem PySem.Challenge.cw_weblocks_k47_faults_in_order_holds : PySem.Challenge.rw_weblocks_k47_faults_in_order.Holds := by
  have fill : ∀ R : _ → _ → Prop, R PySem.Challenge.rw_weblocks_k47_faults_in_order My.kK → R PySem.Challenge.rw_weblocks_k47_faults_in_order My.kK := by
    dsimp only [My.kK, My.HM.K]
    k_fill
    exact fun _ h => h
  clear fill
  refine My.hSmall ?_
  refine L2.walk_of (l := PySem.Challenge.rw_weblocks_k47_faults_in_order) (n := 63) (k := 40) (x := "_law_script") (CX := fun _ => L2.CX0) (sp := fun w => My.spLaw _) rfl (by decide) (by kernel_rfl) ⟨rfl, by decide, by decide⟩ (fun w h Y => PySem.W.kIn_of Y) ?F (fun _ _ a ns hl _ hS => ⟨a, ns, rfl, hS, hl, fun _ => rfl⟩) (fun _ _ _ _ _ h => h)
  case F =>
    intro w mg fa h KX G hmg
    have en : My.hD.name = ("law" : PySem.Str) := by kernel_rfl
    rw [en] at hmg
    dsimp only [My.kK, My.HM.K] at KX ⊢
    refine' My.all_mk KX G hmg ?gc_Way ?gc_Policy ?gc_Shape ?a_kinds ?l_kinds ?c_kinds ?k_kinds ?a_supply ?l_supply ?c_supply ?k_supply ?a_fits ?l_fits ?c_fits ?k_fits ?a_first_rung ?l_first_rung ?c_first_rung ?k_first_rung ?a_ladder ?l_ladder ?c_ladder ?k_ladder ?a_reached ?l_reached ?c_reached ?k_reached ?a_reaches ?l_reaches ?c_reaches ?k_reaches ?a_meeting_at ?l_meeting_at ?c_meeting_at ?k_meeting_at ?a_meeting ?l_meeting ?c_meeting ?k_meeting ?a_neighbours ?l_neighbours ?c_neighbours ?k_neighbours ?a_ahead_of ?l_ahead_of ?c_ahead_of ?k_ahead_of ?a_same_start ?l_same_start ?c_same_start ?k_same_start ?a_faults_at ?l_faults_at ?c_faults_at ?k_faults_at ?a_faults ?l_faults ?c_faults ?k_faults ?a_is_safe ?l_is_safe ?c_is_safe ?k_is_safe ?a_rank ?l_rank ?c_rank ?k_rank ?a_needed ?l_needed ?c_needed ?k_needed ?a_Way_init ?l_Way_init ?c_Way_init ?k_Way_init ?lt_Way_init ?nk_Way_init_early ?a_Way_needs ?l_Way_needs ?c_Way_needs ?k_Way_needs ?a_Policy_init ?l_Policy_init ?c_Policy_init ?k_Policy_init ?lt_Policy_init ?le_Policy_init_0 ?a_Policy_getitem ?l_Policy_getitem ?c_Policy_getitem ?k_Policy_getitem ?a_Policy_setitem ?l_Policy_setitem ?c_Policy_setitem ?k_Policy_setitem ?a_Policy_starts_at ?l_Policy_starts_at ?c_Policy_starts_at ?k_Policy_starts_at ?a_Policy_ways_of ?l_Policy_ways_of ?c_Policy_ways_of ?k_Policy_ways_of ?pa_Policy_starts ?pr_Policy_starts ?pg_Policy_starts ?pt_Policy_starts ?l_Policy_starts ?c_Policy_starts ?k_Policy_starts ?a_is_mark ?l_is_mark ?c_is_mark ?k_is_mark ?a_sound_row ?l_sound_row ?c_sound_row ?k_sound_row ?a_barren ?l_barren ?c_barren ?k_barren ?a_Shape_init ?l_Shape_init ?c_Shape_init ?k_Shape_init ?a_Shape_getitem ?l_Shape_getitem ?c_Shape_getitem ?k_Shape_getitem ?a_Shape_iter ?l_Shape_iter ?c_Shape_iter ?k_Shape_iter ?a_Shape_len ?l_Shape_len ?c_Shape_len ?k_Shape_len ?a_Shape_modes_of ?l_Shape_modes_of ?c_Shape_modes_of ?k_Shape_modes_of ?a__law_draws ?l__law_draws ?c__law_draws ?k__law_draws ?a__law_take ?l__law_take ?c__law_take ?k__law_take ?a__law_same ?l__law_same ?c__law_same ?k__law_same ?a__law_marks ?l__law_marks ?c__law_marks ?k__law_marks ?a__law_rows ?l__law_rows ?c__law_rows ?k__law_rows ?a__law_way ?l__law_way ?c__law_way ?k__law_way ?a__law_rules ?l__law_rules ?c__law_rules ?k__law_rules ?a__law_number ?l__law_number ?c__law_number ?k__law_number ?a__law_shape ?l__law_shape ?c__law_shape ?k__law_shape ?a__law_way_made ?l__law_way_made ?c__law_way_made ?k__law_way_made ?a__law_policy ?l__law_policy ?c__law_policy ?k__law_policy ?a__law_loose ?l__law_loose ?c__law_loose ?k__law_loose ?a__law_wider ?l__law_wider ?c__law_wider ?k__law_wider ?a__law_kinds ?l__law_kinds ?c__law_kinds ?k__law_kinds ?a__law_supply ?l__law_supply ?c__law_supply ?k__law_supply ?a__law_fits ?l__law_fits ?c__law_fits ?k__law_fits ?a__law_reached ?l__law_reached ?c__law_reached ?k__law_reached ?a__law_meeting ?l__law_meeting ?c__law_meeting ?k__law_meeting ?a__law_links ?l__law_links ?c__law_links ?k__law_links ?a__law_joined ?l__law_joined ?c__law_joined ?k__law_joined ?a__law_table ?l__law_table ?c__law_table ?k__law_table ?a__law_same_fault ?l__law_same_fault ?c__law_same_fault ?k__law_same_fault ?a__law_faults_at ?l__law_faults_at ?c__law_faults_at ?k__law_faults_at ?a__law_faults ?l__law_faults ?c__law_faults ?k__law_faults ?a_law ?l_law ?c_law ?k_law ?z_any ?z_bool ?z_enumerate ?z_int ?z_isinstance ?z_iter ?z_len ?z_list ?z_max ?z_property ?z_range ?z_str ?z_tuple ?aq_UNLIMITED ?aq_LEVELS ?lq_LEVELS ?aq_LETTERS ?aq_MODES ?lq_MODES ?xla ?xlr ?xta ?xtr ?pg_Way ?hd_Way ?po_Way ?sa_Way ?kc_Way ?i_Way_init ?mk_Way ?i_Way_needs ?hca_Way ?hcn_Way ?hct_Way ?hcm_Way ?no_Way_held ?no_Way_owned ?no_Way_seen ?no_Way_early ?pg_Policy ?hd_Policy ?po_Policy ?sa_Policy ?kc_Policy ?i_Policy_init ?mk_Policy ?fi_Policy_getitem ?i_Policy_getitem ?nq_Policy ?i_Policy_setitem ?i_Policy_starts_at ?i_Policy_ways_of ?hca_Policy ?hcn_Policy ?hct_Policy ?hcm_Policy ?no_Policy_shape ?no_Policy__marks ?no_Policy__starts ?no_Policy__ways ?pg_Shape ?hd_Shape ?po_Shape ?sa_Shape ?kc_Shape ?i_Shape_init ?mk_Shape ?fi_Shape_getitem ?i_Shape_getitem ?i_Shape_iter ?i_Shape_len ?i_Shape_modes_of ?hca_Shape ?hcn_Shape ?hct_Shape ?hcm_Shape ?rdc_Shape ?gac_Shape ?fcl_Shape_MARKS ?fcl_Shape_PARENTS ?no_Shape__listed ?no_Shape__marks ?gc_BadShape ?gc_UnknownMark ?gc_TooLarge ?xz_super ?x_opq ?x_hn ?x_ht ?xl_BadShape ?xsa_BadShape ?xga_BadShape ?xgg_BadShape ?xno_BadShape ?xk_BadShape ?xb_BadShape ?xt_BadShape ?xd_BadShape ?xi_BadShape ?xf_BadShape ?xfl_BadShape ?xci_BadShape ?xcc_BadShape ?xcd_BadShape ?xvs_BadShape ?xfi_BadShape ?xnx_BadShape ?xsl_BadShape ?xsu_BadShape ?xha_BadShape ?xhm_BadShape ?xl_UnknownMark ?xsa_UnknownMark ?xga_UnknownMark ?xgg_UnknownMark ?xno_UnknownMark ?xk_UnknownMark ?xb_UnknownMark ?xt_UnknownMark ?xd_UnknownMark ?xi_UnknownMark ?xf_UnknownMark ?xfl_UnknownMark ?xci_UnknownMark ?xcc_UnknownMark ?xcd_UnknownMark ?xvs_UnknownMark ?xfi_UnknownMark ?xnx_UnknownMark ?xsl_UnknownMark ?xsu_UnknownMark ?xha_UnknownMark ?xhm_UnknownMark ?xl_TooLarge ?xsa_TooLarge ?xga_TooLarge ?xgg_TooLarge ?xno_TooLarge ?xk_TooLarge ?xb_TooLarge ?xt_TooLarge ?xd_TooLarge ?xi_TooLarge ?xf_TooLarge ?xfl_TooLarge ?xci_TooLarge ?xcc_TooLarge ?xcd_TooLarge ?xvs_TooLarge ?xfi_TooLarge ?xnx_TooLarge ?xsl_TooLarge ?xsu_TooLarge ?xha_TooLarge ?xhm_TooLarge
    (case gc_Way => k_is)
    (case gc_Policy => k_is)
    (case gc_Shape => k_is)
    (case a_kinds => k_is)
    (case l_kinds => k_is)
    (case c_kinds => k_is)
    (case k_kinds => k_is)
    (case a_supply => k_is)
    (case l_supply => k_is)
    (case c_supply => k_is)
    (case k_supply => k_is)
    (case a_fits => k_is)
    (case l_fits => k_is)
    (case c_fits => k_is)
    (case k_fits => k_is)
    (case a_first_rung => k_is)
    (case l_first_rung => k_is)
    (case c_first_rung => k_is)
    (case k_first_rung => k_is)
    (case a_ladder => k_is)
    (case l_ladder => k_is)
    (case c_ladder => k_is)
    (case k_ladder => k_is)
    (case a_reached => k_is)
    (case l_reached => k_is)
    (case c_reached => k_is)
    (case k_reached => k_is)
    (case a_reaches => k_is)
    (case l_reaches => k_is)
    (case c_reaches => k_is)
    (case k_reaches => k_is)
    (case a_meeting_at => k_is)
    (case l_meeting_at => k_is)
    (case c_meeting_at => k_is)
    (case k_meeting_at => k_is)
    (case a_meeting => k_is)
    (case l_meeting => k_is)
    (case c_meeting => k_is)
    (case k_meeting => k_is)
    (case a_neighbours => k_is)
    (case l_neighbours => k_is)
    (case c_neighbours => k_is)
    (case k_neighbours => k_is)
    (case a_ahead_of => k_is)
    (case l_ahead_of => k_is)
    (case c_ahead_of => k_is)
    (case k_ahead_of => k_is)
    (case a_same_start => k_is)
    (case l_same_start => k_is)
    (case c_same_start => k_is)
    (case k_same_start => k_is)
    (case a_faults_at => k_is)
    (case l_faults_at => k_is)
    (case c_faults_at => k_is)
    (case k_faults_at => k_is)
    (case a_faults => k_is)
    (case l_faults => k_is)
    (case c_faults => k_is)
    (case k_faults => k_is)
    (case a_is_safe => k_is)
    (case l_is_safe => k_is)
    (case c_is_safe => k_is)
    (case k_is_safe => k_is)
    (case a_rank => k_is)
    (case l_rank => k_is)
    (case c_rank => k_is)
    (case k_rank => k_is)
    (case a_needed => k_is)
    (case l_needed => k_is)
    (case c_needed => k_is)
    (case k_needed => k_is)
    (case a_Way_init => k_is)
    (case l_Way_init => k_is)
    (case c_Way_init => k_is)
    (case k_Way_init => k_is)
    (case lt_Way_init => k_is)
    (case nk_Way_init_early => k_is)
    (case a_Way_needs => k_is)
    (case l_Way_needs => k_is)
    (case c_Way_needs => k_is)
    (case k_Way_needs => k_is)
    (case a_Policy_init => k_is)
    (case l_Policy_init => k_is)
    (case c_Policy_init => k_is)
    (case k_Policy_init => k_is)
    (case lt_Policy_init => k_is)
    (case le_Policy_init_0 => k_is)
    (case a_Policy_getitem => k_is)
    (case l_Policy_getitem => k_is)
    (case c_Policy_getitem => k_is)
    (case k_Policy_getitem => k_is)
    (case a_Policy_setitem => k_is)
    (case l_Policy_setitem => k_is)
    (case c_Policy_setitem => k_is)
    (case k_Policy_setitem => k_is)
    (case a_Policy_starts_at => k_is)
    (case l_Policy_starts_at => k_is)
    (case c_Policy_starts_at => k_is)
    (case k_Policy_starts_at => k_is)
    (case a_Policy_ways_of => k_is)
    (case l_Policy_ways_of => k_is)
    (case c_Policy_ways_of => k_is)
    (case k_Policy_ways_of => k_is)
    (case pa_Policy_starts => k_is)
    (case pr_Policy_starts => k_is)
    (case pg_Policy_starts => k_is)
    (case pt_Policy_starts => k_is)
    (case l_Policy_starts => k_is)
    (case c_Policy_starts => k_is)
    (case k_Policy_starts => k_is)
    (case a_is_mark => k_is)
    (case l_is_mark => k_is)
    (case c_is_mark => k_is)
    (case k_is_mark => k_is)
    (case a_sound_row => k_is)
    (case l_sound_row => k_is)
    (case c_sound_row => k_is)
    (case k_sound_row => k_is)
    (case a_barren => k_is)
    (case l_barren => k_is)
    (case c_barren => k_is)
    (case k_barren => k_is)
    (case a_Shape_init => k_is)
    (case l_Shape_init => k_is)
    (case c_Shape_init => k_is)
    (case k_Shape_init => k_is)
    (case a_Shape_getitem => k_is)
    (case l_Shape_getitem => k_is)
    (case c_Shape_getitem => k_is)
    (case k_Shape_getitem => k_is)
    (case a_Shape_iter => k_is)
    (case l_Shape_iter => k_is)
    (case c_Shape_iter => k_is)
    (case k_Shape_iter => k_is)
    (case a_Shape_len => k_is)
    (case l_Shape_len => k_is)
    (case c_Shape_len => k_is)
    (case k_Shape_len => k_is)
    (case a_Shape_modes_of => k_is)
    (case l_Shape_modes_of => k_is)
    (case c_Shape_modes_of => k_is)
    (case k_Shape_modes_of => k_is)
    (case a__law_draws => k_is)
    (case l__law_draws => k_is)
    (case c__law_draws => k_is)
    (case k__law_draws => k_is)
    (case a__law_take => k_is)
    (case l__law_take => k_is)
    (case c__law_take => k_is)
    (case k__law_take => k_is)
    (case a__law_same => k_is)
    (case l__law_same => k_is)
    (case c__law_same => k_is)
    (case k__law_same => k_is)
    (case a__law_marks => k_is)
    (case l__law_marks => k_is)
    (case c__law_marks => k_is)
    (case k__law_marks => k_is)
    (case a__law_rows => k_is)
    (case l__law_rows => k_is)
    (case c__law_rows => k_is)
    (case k__law_rows => k_is)
    (case a__law_way => k_is)
    (case l__law_way => k_is)
    (case c__law_way => k_is)
    (case k__law_way => k_is)
    (case a__law_rules => k_is)
    (case l__law_rules => k_is)
    (case c__law_rules => k_is)
    (case k__law_rules => k_is)
    (case a__law_number => k_is)
    (case l__law_number => k_is)
    (case c__law_number => k_is)
    (case k__law_number => k_is)
    (case a__law_shape => k_is)
    (case l__law_shape => k_is)
    (case c__law_shape => k_is)
    (case k__law_shape => k_is)
    (case a__law_way_made => k_is)
    (case l__law_way_made => k_is)
    (case c__law_way_made => k_is)
    (case k__law_way_made => k_is)
    (case a__law_policy => k_is)
    (case l__law_policy => k_is)
    (case c__law_policy => k_is)
    (case k__law_policy => k_is)
    (case a__law_loose => k_is)
    (case l__law_loose => k_is)
    (case c__law_loose => k_is)
    (case k__law_loose => k_is)
    (case a__law_wider => k_is)
    (case l__law_wider => k_is)
    (case c__law_wider => k_is)
    (case k__law_wider => k_is)
    (case a__law_kinds => k_is)
    (case l__law_kinds => k_is)
    (case c__law_kinds => k_is)
    (case k__law_kinds => k_is)
    (case a__law_supply => k_is)
    (case l__law_supply => k_is)
    (case c__law_supply => k_is)
    (case k__law_supply => k_is)
    (case a__law_fits => k_is)
    (case l__law_fits => k_is)
    (case c__law_fits => k_is)
    (case k__law_fits => k_is)
    (case a__law_reached => k_is)
    (case l__law_reached => k_is)
    (case c__law_reached => k_is)
    (case k__law_reached => k_is)
    (case a__law_meeting => k_is)
    (case l__law_meeting => k_is)
    (case c__law_meeting => k_is)
    (case k__law_meeting => k_is)
    (case a__law_links => k_is)
    (case l__law_links => k_is)
    (case c__law_links => k_is)
    (case k__law_links => k_is)
    (case a__law_joined => k_is)
    (case l__law_joined => k_is)
    (case c__law_joined => k_is)
    (case k__law_joined => k_is)
    (case a__law_table => k_is)
    (case l__law_table => k_is)
    (case c__law_table => k_is)
    (case k__law_table => k_is)
    (case a__law_same_fault => k_is)
    (case l__law_same_fault => k_is)
    (case c__law_same_fault => k_is)
    (case k__law_same_fault => k_is)
    (case a__law_faults_at => k_is)
    (case l__law_faults_at => k_is)
    (case c__law_faults_at => k_is)
    (case k__law_faults_at => k_is)
    (case a__law_faults => k_is)
    (case l__law_faults => k_is)
    (case c__law_faults => k_is)
    (case k__law_faults => k_is)
    (case a_law => k_is)
    (case l_law => k_is)
    (case c_law => k_is)
    (case k_law => k_is)
    (case z_any => k_is)
    (case z_bool => k_is)
    (case z_enumerate => k_is)
    (case z_int => k_is)
    (case z_isinstance => k_is)
    (case z_iter => k_is)
    (case z_len => k_is)
    (case z_list => k_is)
    (case z_max => k_is)
    (case z_property => k_is)
    (case z_range => k_is)
    (case z_str => k_is)
    (case z_tuple => k_is)
    (case aq_UNLIMITED => k_is)
    (case aq_LEVELS => k_is)
    (case lq_LEVELS => k_is)
    (case aq_LETTERS => k_is)
    (case aq_MODES => k_is)
    (case lq_MODES => k_is)
    (case xla => k_is)
    (case xlr => k_is)
    (case xta => k_is)
    (case xtr => k_is)
    (case pg_Way => k_is)
    (case hd_Way => k_is)
    (case po_Way => k_is)
    (case sa_Way => k_is)
    (case kc_Way => k_is)
    (case i_Way_init => k_is)
    (case mk_Way => k_is)
    (case i_Way_needs => k_is)
    (case hca_Way => k_is)
    (case hcn_Way => k_is)
    (case hct_Way => k_is)
    (case hcm_Way => k_is)
    (case no_Way_held => k_is)
    (case no_Way_owned => k_is)
    (case no_Way_seen => k_is)
    (case no_Way_early => k_is)
    (case pg_Policy => k_is)
    (case hd_Policy => k_is)
    (case po_Policy => k_is)
    (case sa_Policy => k_is)
    (case kc_Policy => k_is)
    (case i_Policy_init => k_is)
    (case mk_Policy => k_is)
    (case fi_Policy_getitem => k_is)
    (case i_Policy_getitem => k_is)
    (case nq_Policy => k_is)
    (case i_Policy_setitem => k_is)
    (case i_Policy_starts_at => k_is)
    (case i_Policy_ways_of => k_is)
    (case hca_Policy => k_is)
    (case hcn_Policy => k_is)
    (case hct_Policy => k_is)
    (case hcm_Policy => k_is)
    (case no_Policy_shape => k_is)
    (case no_Policy__marks => k_is)
    (case no_Policy__starts => k_is)
    (case no_Policy__ways => k_is)
    (case pg_Shape => k_is)
    (case hd_Shape => k_is)
    (case po_Shape => k_is)
    (case sa_Shape => k_is)
    (case kc_Shape => k_is)
    (case i_Shape_init => k_is)
    (case mk_Shape => k_is)
    (case fi_Shape_getitem => k_is)
    (case i_Shape_getitem => k_is)
    (case i_Shape_iter => k_is)
    (case i_Shape_len => k_is)
    (case i_Shape_modes_of => k_is)
    (case hca_Shape => k_is)
    (case hcn_Shape => k_is)
    (case hct_Shape => k_is)
    (case hcm_Shape => k_is)
    (case rdc_Shape => k_is)
    (case gac_Shape => k_is)
    (case fcl_Shape_MARKS => k_is)
    (case fcl_Shape_PARENTS => k_is)
    (case no_Shape__listed => k_is)
    (case no_Shape__marks => k_is)
    (case gc_BadShape => k_is)
    (case gc_UnknownMark => k_is)
    (case gc_TooLarge => k_is)
    (case xz_super => k_is)
    (case x_opq => k_is)
    (case x_hn => k_is)
    (case x_ht => k_is)
    (case xl_BadShape => k_is)
    (case xsa_BadShape => k_is)
    (case xga_BadShape => k_is)
    (case xgg_BadShape => k_is)
    (case xno_BadShape => k_is)
    (case xk_BadShape => k_is)
    (case xb_BadShape => k_is)
    (case xt_BadShape => k_is)
    (case xd_BadShape => k_is)
    (case xi_BadShape => k_is)
    (case xf_BadShape => k_is)
    (case xfl_BadShape => k_is)
    (case xci_BadShape => k_is)
    (case xcc_BadShape => k_is)
    (case xcd_BadShape => k_is)
    (case xvs_BadShape => rfl)
    (case xfi_BadShape => first | rfl | decide +kernel)
    (case xnx_BadShape => ks_is)
    (case xsl_BadShape => k_is)
    (case xsu_BadShape => k_is)
    (case xha_BadShape => k_is)
    (case xhm_BadShape => k_is)
    (case xl_UnknownMark => k_is)
    (case xsa_UnknownMark => k_is)
    (case xga_UnknownMark => k_is)
    (case xgg_UnknownMark => k_is)
    (case xno_UnknownMark => k_is)
    (case xk_UnknownMark => k_is)
    (case xb_UnknownMark => k_is)
    (case xt_UnknownMark => k_is)
    (case xd_UnknownMark => k_is)
    (case xi_UnknownMark => k_is)
    (case xf_UnknownMark => k_is)
    (case xfl_UnknownMark => k_is)
    (case xci_UnknownMark => k_is)
    (case xcc_UnknownMark => k_is)
    (case xcd_UnknownMark => k_is)
    (case xvs_UnknownMark => rfl)
    (case xfi_UnknownMark => first | rfl | decide +kernel)
    (case xnx_UnknownMark => ks_is)
    (case xsl_UnknownMark => k_is)
    (case xsu_UnknownMark => k_is)
    (case xha_UnknownMark => k_is)
    (case xhm_UnknownMark => k_is)
    (case xl_TooLarge => k_is)
    (case xsa_TooLarge => k_is)
    (case xga_TooLarge => k_is)
    (case xgg_TooLarge => k_is)
    (case xno_TooLarge => k_is)
    (case xk_TooLarge => k_is)
    (case xb_TooLarge => k_is)
    (case xt_TooLarge => k_is)
    (case xd_TooLarge => k_is)
    (case xi_TooLarge => k_is)
    (case xf_TooLarge => k_is)
    (case xfl_TooLarge => k_is)
    (case xci_TooLarge => k_is)
    (case xcc_TooLarge => k_is)
    (case xcd_TooLarge => k_is)
    (case xvs_TooLarge => rfl)
    (case xfi_TooLarge => first | rfl | decide +kernel)
    (case xnx_TooLarge => ks_is)
    (case xsl_TooLarge => k_is)
    (case xsu_TooLarge => k_is)
    (case xha_TooLarge => k_is)
    (case xhm_TooLarge => k_is)
#print axioms PySem.Challenge.cw_weblocks_k47_faults_in_order_holds
