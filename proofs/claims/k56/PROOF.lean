import PyProof.Rows.All
import Wide.All
import OpenK.AllK
import Wide.FinOn
import HandS.ForMost
import KE.GoesMore
import HandS.Codes
import HandS.IsInst
import HandS.Defaults
import HandS.MakeKw
import HandS.MakeKwOnly
import HandS.SlotsOwn
import HandS.ForExc
import HandS.ExcIs
import HandS.ExcField
import HandS.CallSlots
import KE.KExcIs
import KE.KExcSuper
import KE.KExcMake
import KE.RegKSuper
import HandS.ClsMeth
import KE.KCallOwn
import HandS.IterVal
import KE.KOwnIter
import HandS.Star
import KE.KOpsOwn
import HandS.Property
import KE.KStar
import HandS.Text
import HandS.StrMore
import HandS.Steps
import HandS.TryOnly
import HandS.Exc
import HandS.ExcOwn
import HandS.Comp
import HandS.OwnIter
import PyProof.StrLawsChain
import PyProof.Rows.StrItems
import HandS.Iter
import HandS.Deep
import HandS.DictTup
import HandS.Remove
import HandS.DeepEq
import KE.DataFind
import HandS.Rev
import HandS.ForDict
import HandS.WordsExc
import HandS.Style
import HandS.GenCall
import HandS.GenYield
import HandS.GenList
import HandS.GenOver
import HandS.MethStar
import HandS.Text
import HandS.StrMore
import HandS.Steps
import HandS.TryOnly
import HandS.Exc
import HandS.ExcOwn
import HandS.Comp
import HandS.OwnIter
import HandS.HotCalls
import HandS.WordsDict
import HandS.Conv
import HandS.More
import KE.OsRunLaw
import HandS.Walk
import PySem.Challenge.RW_weblocks_k56_waits_for_one_another
set_option Elab.async false
set_option linter.all false
set_option maxRecDepth 100000
set_option maxHeartbeats 4000000
namespace My
open PySem PySem.W
theorem HM.key {A : World → OsState → Prop} {B C : Prop} (hA : (∀ w os, A w os) ∧ B) (main : C) : C := main
theorem HM.join {δ β γ : Type} {o : Option δ} {f : δ → β} {g : δ → γ} {b : β} {c : γ} (h1 : o.map f = some b) (h2 : o.map g = some c) : o.map (fun s => (f s, g s)) = some (b, c) := by
  cases o with
  | none => cases h1
  | some s => exact congrArg some (Prod.ext (Option.some.inj h1) (Option.some.inj h2))
theorem HM.l {δ β γ : Type} {o : Option δ} {f : δ → β} {g : δ → γ} {b : β} {c : γ} (h : o.map (fun s => (f s, g s)) = some (b, c)) : o.map f = some b := by
  cases o with
  | none => cases h
  | some s => exact congrArg some (congrArg Prod.fst (Option.some.inj h))
theorem HM.r {δ β γ : Type} {o : Option δ} {f : δ → β} {g : δ → γ} {b : β} {c : γ} (h : o.map (fun s => (f s, g s)) = some (b, c)) : o.map g = some c := by
  cases o with
  | none => cases h
  | some s => exact congrArg some (congrArg Prod.snd (Option.some.inj h))
theorem HM.part {δ β γ : Type} {o : Option δ} {f : δ → β × γ} {b : β × γ} (h1 : o.map (fun s => @Prod.rec _ _ (fun _ => β) (fun a _ => a) (f s)) = some (@Prod.rec _ _ (fun _ => β) (fun a _ => a) b)) (h2 : o.map (fun s => @Prod.rec _ _ (fun _ => γ) (fun _ r => r) (f s)) = some (@Prod.rec _ _ (fun _ => γ) (fun _ r => r) b)) : o.map f = some b := by
  cases o with
  | none => cases h1
  | some s => exact congrArg some (Prod.ext (Option.some.inj h1) (Option.some.inj h2))
abbrev HM.o {α β γ δ : Type} {B C : Prop} {o : World → OsState → Option δ} {f1 : World → δ → α} {f2 : World → δ → β} {f3 : World → δ → γ} {b1 : World → α} {b2 : World → β} {b3 : World → γ} (_ : (∀ w os, (o w os).map (fun s => (f1 w s, f2 w s, f3 w s)) = some (b1 w, b2 w, b3 w)) ∧ B → C) : World → OsState → Option δ := o
abbrev HM.f1 {α β γ δ : Type} {B C : Prop} {o : World → OsState → Option δ} {f1 : World → δ → α} {f2 : World → δ → β} {f3 : World → δ → γ} {b1 : World → α} {b2 : World → β} {b3 : World → γ} (_ : (∀ w os, (o w os).map (fun s => (f1 w s, f2 w s, f3 w s)) = some (b1 w, b2 w, b3 w)) ∧ B → C) : World → δ → α := f1
abbrev HM.f2 {α β γ δ : Type} {B C : Prop} {o : World → OsState → Option δ} {f1 : World → δ → α} {f2 : World → δ → β} {f3 : World → δ → γ} {b1 : World → α} {b2 : World → β} {b3 : World → γ} (_ : (∀ w os, (o w os).map (fun s => (f1 w s, f2 w s, f3 w s)) = some (b1 w, b2 w, b3 w)) ∧ B → C) : World → δ → β := f2
abbrev HM.f3 {α β γ δ : Type} {B C : Prop} {o : World → OsState → Option δ} {f1 : World → δ → α} {f2 : World → δ → β} {f3 : World → δ → γ} {b1 : World → α} {b2 : World → β} {b3 : World → γ} (_ : (∀ w os, (o w os).map (fun s => (f1 w s, f2 w s, f3 w s)) = some (b1 w, b2 w, b3 w)) ∧ B → C) : World → δ → γ := f3
abbrev HM.b1 {α β γ δ : Type} {B C : Prop} {o : World → OsState → Option δ} {f1 : World → δ → α} {f2 : World → δ → β} {f3 : World → δ → γ} {b1 : World → α} {b2 : World → β} {b3 : World → γ} (_ : (∀ w os, (o w os).map (fun s => (f1 w s, f2 w s, f3 w s)) = some (b1 w, b2 w, b3 w)) ∧ B → C) : World → α := b1
abbrev HM.b2 {α β γ δ : Type} {B C : Prop} {o : World → OsState → Option δ} {f1 : World → δ → α} {f2 : World → δ → β} {f3 : World → δ → γ} {b1 : World → α} {b2 : World → β} {b3 : World → γ} (_ : (∀ w os, (o w os).map (fun s => (f1 w s, f2 w s, f3 w s)) = some (b1 w, b2 w, b3 w)) ∧ B → C) : World → β := b2
abbrev HM.b3 {α β γ δ : Type} {B C : Prop} {o : World → OsState → Option δ} {f1 : World → δ → α} {f2 : World → δ → β} {f3 : World → δ → γ} {b1 : World → α} {b2 : World → β} {b3 : World → γ} (_ : (∀ w os, (o w os).map (fun s => (f1 w s, f2 w s, f3 w s)) = some (b1 w, b2 w, b3 w)) ∧ B → C) : World → γ := b3
section
local macro_rules | `(tactic| k_head) => do
  let h := Lean.mkIdent `hA
  let m := Lean.mkIdent `main
  `(tactic| (rename_i said; revert said; apply HM.key; (case' $m:ident => (intro said; k_headL)); (case' hc => exact (?$h).2)))
local macro_rules | `(tactic| kernel_rfl%$tk) => do
  match tk.getHeadInfo with
  | .none => Lean.Macro.throwUnsupported
  | _ =>
    let k : Lean.TSyntax `tactic := ⟨Lean.Syntax.node .none `tacticKernel_rfl #[.atom .none "kernel_rfl"]⟩
    let h := Lean.mkIdent `hA
    `(tactic| first | (rename_i sd w os; have e := (?$h); exact And.left e w os) | $k:tactic)
set_option maxHeartbeats 0 in
open_top hd for PySem.Challenge.rw_weblocks_k56_waits_for_one_another
end
set_option maxHeartbeats 0
theorem hd_run0 (w : World) (os : OsState) : (HM.o My.hd w os).map (fun s => (HM.f1 My.hd w s, ((@Prod.rec _ _ (fun _ => _) (fun a _ => a) (@Prod.rec _ _ (fun _ => _) (fun _ r => r) (HM.f2 My.hd w s))), ((@Prod.rec _ _ (fun _ => _) (fun a _ => a) (@Prod.rec _ _ (fun _ => _) (fun _ r => r) (@Prod.rec _ _ (fun _ => _) (fun _ r => r) (@Prod.rec _ _ (fun _ => _) (fun _ r => r) (@Prod.rec _ _ (fun _ => _) (fun _ r => r) (HM.f2 My.hd w s)))))), ((@Prod.rec _ _ (fun _ => _) (fun a _ => a) (@Prod.rec _ _ (fun _ => _) (fun _ r => r) (@Prod.rec _ _ (fun _ => _) (fun _ r => r) (@Prod.rec _ _ (fun _ => _) (fun _ r => r) (@Prod.rec _ _ (fun _ => _) (fun _ r => r) (@Prod.rec _ _ (fun _ => _) (fun _ r => r) (@Prod.rec _ _ (fun _ => _) (fun _ r => r) (HM.f2 My.hd w s)))))))), (@Prod.rec _ _ (fun _ => _) (fun _ r => r) (@Prod.rec _ _ (fun _ => _) (fun _ r => r) (@Prod.rec _ _ (fun _ => _) (fun _ r => r) (@Prod.rec _ _ (fun _ => _) (fun _ r => r) (@Prod.rec _ _ (fun _ => _) (fun _ r => r) (@Prod.rec _ _ (fun _ => _) (fun _ r => r) (@Prod.rec _ _ (fun _ => _) (fun _ r => r) (@Prod.rec _ _ (fun _ => _) (fun _ r => r) (HM.f2 My.hd w s)))))))))))))) = some ((HM.b1 My.hd w, ((@Prod.rec _ _ (fun _ => _) (fun a _ => a) (@Prod.rec _ _ (fun _ => _) (fun _ r => r) (HM.b2 My.hd w))), ((@Prod.rec _ _ (fun _ => _) (fun a _ => a) (@Prod.rec _ _ (fun _ => _) (fun _ r => r) (@Prod.rec _ _ (fun _ => _) (fun _ r => r) (@Prod.rec _ _ (fun _ => _) (fun _ r => r) (@Prod.rec _ _ (fun _ => _) (fun _ r => r) (HM.b2 My.hd w)))))), ((@Prod.rec _ _ (fun _ => _) (fun a _ => a) (@Prod.rec _ _ (fun _ => _) (fun _ r => r) (@Prod.rec _ _ (fun _ => _) (fun _ r => r) (@Prod.rec _ _ (fun _ => _) (fun _ r => r) (@Prod.rec _ _ (fun _ => _) (fun _ r => r) (@Prod.rec _ _ (fun _ => _) (fun _ r => r) (@Prod.rec _ _ (fun _ => _) (fun _ r => r) (HM.b2 My.hd w)))))))), (@Prod.rec _ _ (fun _ => _) (fun _ r => r) (@Prod.rec _ _ (fun _ => _) (fun _ r => r) (@Prod.rec _ _ (fun _ => _) (fun _ r => r) (@Prod.rec _ _ (fun _ => _) (fun _ r => r) (@Prod.rec _ _ (fun _ => _) (fun _ r => r) (@Prod.rec _ _ (fun _ => _) (fun _ r => r) (@Prod.rec _ _ (fun _ => _) (fun _ r => r) (@Prod.rec _ _ (fun _ => _) (fun _ r => r) (HM.b2 My.hd w)))))))))))))) := by kernel_rfl
theorem hd_run1 (w : World) (os : OsState) : (HM.o My.hd w os).map (fun s => (@Prod.rec _ _ (fun _ => _) (fun a _ => a) (HM.f2 My.hd w s))) = some ((@Prod.rec _ _ (fun _ => _) (fun a _ => a) (HM.b2 My.hd w))) := by kernel_rfl
theorem hd_run2 (w : World) (os : OsState) : (HM.o My.hd w os).map (fun s => (@Prod.rec _ _ (fun _ => _) (fun a _ => a) (@Prod.rec _ _ (fun _ => _) (fun _ r => r) (@Prod.rec _ _ (fun _ => _) (fun _ r => r) (@Prod.rec _ _ (fun _ => _) (fun _ r => r) (HM.f2 My.hd w s)))))) = some ((@Prod.rec _ _ (fun _ => _) (fun a _ => a) (@Prod.rec _ _ (fun _ => _) (fun _ r => r) (@Prod.rec _ _ (fun _ => _) (fun _ r => r) (@Prod.rec _ _ (fun _ => _) (fun _ r => r) (HM.b2 My.hd w)))))) := by kernel_rfl
theorem hd_run3 (w : World) (os : OsState) : (HM.o My.hd w os).map (fun s => ((@Prod.rec _ _ (fun _ => _) (fun a _ => a) (@Prod.rec _ _ (fun _ => _) (fun _ r => r) (@Prod.rec _ _ (fun _ => _) (fun _ r => r) (@Prod.rec _ _ (fun _ => _) (fun _ r => r) (@Prod.rec _ _ (fun _ => _) (fun _ r => r) (@Prod.rec _ _ (fun _ => _) (fun _ r => r) (HM.f2 My.hd w s))))))), HM.f3 My.hd w s)) = some (((@Prod.rec _ _ (fun _ => _) (fun a _ => a) (@Prod.rec _ _ (fun _ => _) (fun _ r => r) (@Prod.rec _ _ (fun _ => _) (fun _ r => r) (@Prod.rec _ _ (fun _ => _) (fun _ r => r) (@Prod.rec _ _ (fun _ => _) (fun _ r => r) (@Prod.rec _ _ (fun _ => _) (fun _ r => r) (HM.b2 My.hd w))))))), HM.b3 My.hd w)) := by kernel_rfl
theorem hd_run4 (w : World) (os : OsState) : (HM.o My.hd w os).map (fun s => ((@Prod.rec _ _ (fun _ => _) (fun a _ => a) (@Prod.rec _ _ (fun _ => _) (fun _ r => r) (@Prod.rec _ _ (fun _ => _) (fun _ r => r) (HM.f2 My.hd w s)))), (@Prod.rec _ _ (fun _ => _) (fun a _ => a) (@Prod.rec _ _ (fun _ => _) (fun _ r => r) (@Prod.rec _ _ (fun _ => _) (fun _ r => r) (@Prod.rec _ _ (fun _ => _) (fun _ r => r) (@Prod.rec _ _ (fun _ => _) (fun _ r => r) (@Prod.rec _ _ (fun _ => _) (fun _ r => r) (@Prod.rec _ _ (fun _ => _) (fun _ r => r) (@Prod.rec _ _ (fun _ => _) (fun _ r => r) (HM.f2 My.hd w s))))))))))) = some (((@Prod.rec _ _ (fun _ => _) (fun a _ => a) (@Prod.rec _ _ (fun _ => _) (fun _ r => r) (@Prod.rec _ _ (fun _ => _) (fun _ r => r) (HM.b2 My.hd w)))), (@Prod.rec _ _ (fun _ => _) (fun a _ => a) (@Prod.rec _ _ (fun _ => _) (fun _ r => r) (@Prod.rec _ _ (fun _ => _) (fun _ r => r) (@Prod.rec _ _ (fun _ => _) (fun _ r => r) (@Prod.rec _ _ (fun _ => _) (fun _ r => r) (@Prod.rec _ _ (fun _ => _) (fun _ r => r) (@Prod.rec _ _ (fun _ => _) (fun _ r => r) (@Prod.rec _ _ (fun _ => _) (fun _ r => r) (HM.b2 My.hd w))))))))))) := by kernel_rfl
theorem hd_two (w : World) (os : OsState) : (HM.o My.hd w os).map (HM.f2 My.hd w) = some (HM.b2 My.hd w) := (HM.part (hd_run1 w os) (HM.part (HM.l (HM.r (hd_run0 w os))) (HM.part (HM.l (hd_run4 w os)) (HM.part (hd_run2 w os) (HM.part (HM.l (HM.r (HM.r (hd_run0 w os)))) (HM.part (HM.l (hd_run3 w os)) (HM.part (HM.l (HM.r (HM.r (HM.r (hd_run0 w os))))) (HM.part (HM.r (hd_run4 w os)) (HM.r (HM.r (HM.r (HM.r (hd_run0 w os)))))))))))))
theorem hd_runs (w : World) (os : OsState) : (HM.o My.hd w os).map (fun s => (HM.f1 My.hd w s, HM.f2 My.hd w s, HM.f3 My.hd w s)) = some (HM.b1 My.hd w, HM.b2 My.hd w, HM.b3 My.hd w) := HM.join (HM.l (hd_run0 w os)) (HM.join (hd_two w os) (HM.r (hd_run3 w os)))
end My
local macro_rules | `(tactic| walk_at "sd") => `(tactic| first | assumption | omega | decide | rfl | (refine And.intro ?_ ?_ <;> walk_at "sd") | (show _ < PySem.sizeLine; exact Nat.lt_of_le_of_lt (by omega : _ ≤ 100000) (by decide)) | (show _ ≤ PySem.sizeLine; exact Nat.le_trans (by omega : _ ≤ 100000) (by decide)))
local macro_rules | `(tactic| walk_at "hl") => `(tactic| first | assumption | exact L2.upd_same | (refine (L2.upd_ne ?_).trans ?_; (walk_at "ne"); (walk_at "hl")))
local macro_rules | `(tactic| walk_at "ne") => `(tactic| first | assumption | (apply Ne.symm; assumption) | (refine L2.ne_of_none ?_ (by assumption); walk_at "hl") | (apply Ne.symm; refine L2.ne_of_none ?_ (by assumption); walk_at "hl") | (refine L2.ne_of (o := L2.HO.lst _) (u := L2.HO.tup _) ?_ ?_ (by intro z; cases z) <;> walk_at "hl"))
local macro_rules | `(tactic| walk_at "sq") => `(tactic| first | assumption | exact .inl (.inl (by walk_at "hl")) | exact .inl (.inl (.inl (by walk_at "hl"))) | exact .inr (.inl (.inl (by walk_at "hl"))) | exact .inl (by assumption) | exact .inr (by assumption))
local macro_rules | `(tactic| walk_at "at") => `(tactic| first | assumption | exact rfl | exact L2.atI_nat (j := 0) rfl | exact L2.atI_nat (j := 1) rfl | exact L2.atI_nat (j := 2) rfl | exact L2.atI_nat (j := 3) rfl | exact L2.atI_nat rfl | exact L2.atI_nat (by assumption))
local macro_rules | `(tactic| walk_at "r1") => `(tactic| first
  | (refine ⟨_, rfl, ?_⟩)
  | (refine ⟨_, _, rfl, rfl, ?_⟩)
  | (refine ⟨_, _, _, _, rfl, rfl, (by walk_at "sq"), (by walk_at "at"), ?_⟩)
  | (refine ⟨_, _, rfl, (by walk_at "sq"), ?_⟩)
  | (refine ⟨.inl ⟨rfl, _, L2.SqL.of (by walk_at "hl")⟩, ?_⟩)
  | (refine ⟨_, _, _, rfl, rfl, (by walk_at "hl"), (by walk_at "sd"), ?_⟩)
  | (refine ⟨_, _, _, _, rfl, rfl, (by walk_at "hl"), rfl, ?_⟩)
  | (refine And.intro (by walk_at "sd") ?_)
  | (refine .inl ⟨_, rfl, ?_⟩))
local macro_rules | `(tactic| walk_at "rd") => `(tactic| repeat walk_at "r1")
/-! ### enumerate over a tuple -/
namespace PySem
open AutoSeq1 (wpAny_loadPart')
set_option maxHeartbeats 1000000 in
theorem meets_enumerate_newT (l : Addr) (items : Array Value) :
    Meets (Builtin.«enumerate.__new__» ⟨[.type "enumerate", .ref l], []⟩) (fun _ R s => s.heap.IsTuple l items ∧
      R (.ok (.ret (.ref (s.heap.push { cls := .type "tuple_iterator", data := .fields #[.ref l, .int 0 0] }).objs.size)))
        { s with heap := (s.heap.push { cls := .type "tuple_iterator", data := .fields #[.ref l, .int 0 0] }).push { cls := .type "enumerate", data := .fields #[.none, .bool false, .ref s.heap.objs.size, rawInt 0, .none, .none] } }) :=
  .of_wp fun prog w A R s h => by
    obtain ⟨hp, g, d, tk, os⟩ := s; obtain ⟨hL, h⟩ := h
    have hsub := sub_enumerate
    wp_walk using wpAny_pyIter_tuple hL
    refine wpAny_stack_any fun st => wpAny_pure ?_
    split
    · rename_i c _ _ _ _ _
      cases (c == Value.type "enumerate")
      · wp_walk using wpAny_pyIter_tuple hL
        exact ⟨_, rfl, h⟩
      · wp_walk using wpAny_pyIter_tuple hL
        exact ⟨_, rfl, h⟩
    · wp_walk using wpAny_pyIter_tuple hL
      exact ⟨_, rfl, h⟩
section
variable {prog : Program} {w : World} {A : Around} {E : Value → Shared → Prop} {s : Shared}
theorem call_enumerate_tup {l : Addr} {items : Array Value} {Q : Value → Shared → Prop} (hL : s.heap.IsTuple l items)
    (h : ∀ h', IsEnum h' (s.heap.objs.size + 1) s.heap.objs.size 0 .none → h'.IsTupleIter s.heap.objs.size l 0 → h'.objs.size = s.heap.objs.size + 2 →
      (∀ b o, s.heap.get? b = some o → h'.get? b = some o) → Q (.ref (s.heap.objs.size + 1)) { s with heap := h' }) :
    wpAny (model prog w) A (call (.type "enumerate") [.ref l]) Q E s := by
  refine callType_new F.called_enumerate (by decide) (F.typeCall_enumerate_1 _) (F.newCall_enumerate_1 _) (fun obj => F.args_object_init_2 obj _) F.entry_enumerate_new
    (meets_enumerate_newT l items) ⟨hL, ?_⟩
  have hz : (s.heap.push { cls := .type "tuple_iterator", data := .fields #[.ref l, .int 0 0] }).objs.size = s.heap.objs.size + 1 := Heap.size_push ..
  show _ ∧ _
  rw [hz]
  have he : IsEnum ((s.heap.push { cls := .type "tuple_iterator", data := .fields #[.ref l, .int 0 0] }).push
      { cls := .type "enumerate", data := .fields #[.none, .bool false, .ref s.heap.objs.size, rawInt 0, .none, .none] }) (s.heap.objs.size + 1) s.heap.objs.size 0 .none := by
    have := Heap.get?_push_size (s.heap.push { cls := .type "tuple_iterator", data := .fields #[.ref l, .int 0 0] })
      (o := { cls := .type "enumerate", data := .fields #[.none, .bool false, .ref s.heap.objs.size, rawInt 0, .none, .none] }) rfl
    rw [hz] at this; exact this
  refine ⟨⟨_, he, rfl⟩, h _ he ⟨_, Heap.get?_push_of_some _ (Heap.get?_push_size _ rfl), rfl, rfl⟩ (by rw [Heap.size_push, hz]) fun b o x => Heap.get?_push_of_some _ (Heap.get?_push_of_some _ x)⟩
/-- next of an enumerate whose tuple is at its end -/
theorem wpAny_pyNext_enum_endU {e it l : Addr} {i : Nat} {items : Array Value} {old : Value} {Q : Option Value → Shared → Prop} (hh : A.handled = none) (he : IsEnum s.heap e it i old)
    (hit : s.heap.IsTupleIter it l i) (hl : s.heap.IsTuple l items) (hx : items[i]? = none) (hQ : ∀ h', Heap.ExtBut it s.heap h' → Q none { s with heap := h' }) : wpAny (model prog w) A (pyNext (.ref e)) Q E s := by
  have hT : s.TypeIs (.ref e) "enumerate" := ⟨_, he, rfl⟩
  unfold pyNext
  refine wpAny_bind (wpAny_attempt (wpAny_callSpecial?_slot (name := Str.ofString "__next__") hT F.slot_enumerate_next (wpAny_call_entry F.slot_enumerate_next hT F.entry_enumerate_next ?_ (F.args_enumerate_next_1 _))))
  show wpAny _ _ (field (.ref e) 2 >>= _) _ _ _
  refine wpAny_bind (wpAny_field he rfl (x := .ref it) rfl (wpAny_bind (wpAny_nextOf_tuple_end hh hit hl hx fun h' x he' ⟨o, ho, hc⟩ => ?_)))
  exact wpAny_bind (wpAny_isInstance (T := "StopIteration") (b := true) ⟨o, ho, hc⟩ isSubtype_stop (wpAny_pure (hQ _ he')))
end
end PySem
namespace L2
open PySem PySem.Spec PyProof.Rows
/-- the tuple at a, each item in a new pair -/
def ItuE (K : PySem.W.Frag) (a : Addr) : It :=
  ⟨fun i H => ∃ (xs : List V) (x : V), SqT K H a xs ∧ xs[i]? = some x, fun i H v H' => ∃ T x, v = .ref T ∧ H T = none ∧ H' = upd H T (.tup [.int (i : Nat), x]) ∧ ∀ xs, SqT K H a xs → xs[i]? = some x, fun i H => ∃ xs : List V, SqT K H a xs ∧ xs.length ≤ i⟩
theorem turn_enumT {P : Program} {w : World} {K : PySem.W.Frag} {elts : List Expr} {kk : Nat} {tpos : Pos} (a e it : Addr) :
    Turn P w K (.Tuple elts kk tpos) (ItuE K a) [e, it] e (fun i h => (∃ old, IsEnum h e it ((i : Nat) : Int) old) ∧ h.IsTupleIter it a i ∧ e ≠ it ∧ a ≠ it ∧ a ≠ e) where
  mem := by simp
  obj := fun i h st b hb => by
    obtain ⟨⟨old, he⟩, ⟨o, ho, hc, hd⟩, _⟩ := st
    have e' : b = e ∨ b = it := by simpa using hb
    rcases e' with z | z
    · rw [z]; exact ⟨_, he, fun v q => nomatch q⟩
    · rw [z]; exact ⟨o, ho, fun v q => by rw [hd] at q; cases q⟩
  keep := fun i h h' st k => let ⟨⟨old, he⟩, hi, hne⟩ := st; ⟨⟨old, k e (by simp) _ he⟩, hi.at fun o q => k it (by simp) o q, hne⟩
  item := by
    intro X hP hw hK hc i pins s σ H E I hf st hg
    subst hP hw hK
    obtain ⟨⟨old, he⟩, hit, hne, hai, hae⟩ := st
    obtain ⟨xs, x, hq, hx⟩ := hg
    obtain ⟨its, rv, p, hz⟩ := I.tuple hq
    obtain ⟨u, hu, ru⟩ := rv.get hx
    have hel : e < s.heap.objs.size := Heap.lt_size he
    have hil : it < s.heap.objs.size := by obtain ⟨_, q, _⟩ := hit; exact Heap.lt_size q
    have hlen : i < its.toArray.size := by
      have := (List.getElem?_eq_some_iff.mp hu).1
      simpa using this
    have hT0 : s.heap.IsTuple a its.toArray := p
    refine wpAny_pyNext_enum_itemD (Draws.tuple (prog := X.prog) (w := X.w) (A := X.A.in1) (show X.A.in1.handled = none from I.ok.hd hc) it a hai its.toArray) he ⟨hit, hT0⟩ hlen hne (by simp [hne, Ne.symm hae]) fun y h' tk hy ho hst' hT hsz hk => ?_
    have ey : y = u := by
      have q : its[i]? = some y := by simpa using hy
      exact Option.some.inj (q.symm.trans hu)
    subst ey
    obtain ⟨hit', _⟩ := hst'
    refine ⟨_, rfl, wpAny_letOwnedTupleGo_enum (s := { s with heap := h', toks := tk + 1 }) ho fun h'' he' sb => ?_⟩
    have hT2 : h''.get? s.heap.objs.size = some { cls := .type "tuple", data := .seq #[.int i tk, y] } := (sb.2 _ (Nat.ne_of_gt hel)).trans hT
    have new : ObjOk X.prog X.w (upd H s.heap.objs.size (.tup [.int (i : Nat), x])) h'' s.heap.objs.size (.tup [.int (i : Nat), x]) :=
      ⟨by show 2 ≤ sizeLine; decide, [.int i tk, y], .cons ⟨_, rfl⟩ (.cons ru .nil), ⟨_, hT2, rfl, _, rfl⟩⟩
    have I1 : Inv X pins σ (upd H s.heap.objs.size (.tup [.int (i : Nat), x])) { s with heap := h'', toks := tk + 1 } :=
      I.turnedNew (ch := [e, it]) (fun b ob hb q => (sb.2 b (fun z => hb (by simp [z]))).trans (hk b ob (fun z => hb (by simp [z])) (fun z => hb (by simp [z])) q)) hf (Nat.le_refl _) new
    refine ⟨.ref s.heap.objs.size, _, I1, rfl, ⟨_, x, rfl, I.hok.fresh (Nat.le_refl _), rfl, fun ys hy => by rw [I.tuple_inj hy hq]; exact hx⟩, ⟨⟨y, ?_⟩, hit'.at fun o q => (sb.2 it (Ne.symm hne)).trans q, hne, hai, hae⟩, fun b hb => ?_⟩
    · have e1 : ((i + 1 : Nat) : Int) = (i : Int) + 1 := by omega
      rw [e1]; exact he'
    · have hb' : b < s.heap.objs.size := by
        have e' : b = e ∨ b = it := by simpa using hb
        rcases e' with z | z
        · rw [z]; exact hel
        · rw [z]; exact hil
      rw [upd_ne (Nat.ne_of_lt hb')]
      exact (hf b hb).1
  done := by
    intro X hP hw hK hc i pins s σ H E I hf st hg
    subst hP hw hK
    obtain ⟨⟨old, he⟩, hit, hne, hai, hae⟩ := st
    obtain ⟨xs, hq, hx⟩ := hg
    obtain ⟨its, rv, p, hz⟩ := I.tuple hq
    obtain ⟨f0, f1, f2, f3, f4, f5⟩ := hf it (by simp)
    have hl := rv.length
    have hT0 : s.heap.IsTuple a its.toArray := p
    exact wpAny_pyNext_enum_endU (I.ok.hd hc) he hit hT0 (by simp; omega) fun h' eb => ⟨rfl, I.turned (t' := s.toks) (fun b o hb q => eb b o hb q) f0 f1 f3 f4 f5⟩
  self := fun A i s Q E st h => let ⟨⟨_, he⟩, _⟩ := st; wpAny_pyIter_enum he h
def iEnumT (K : PySem.W.Frag) (ta : TA) : TI := fun σ H R => ta σ H fun vs H1 => ∃ a xs, vs = [.ref a] ∧ SqT K H1 a xs ∧ R (ItuE K a) H1
theorem pi_enumT {X : Cx} {e : Expr} {ta : TA} {p pos tpos : Pos} {elts : List Expr} {kk : Nat} (hg : Gl X "enumerate") (hm : X.mg "enumerate" = none) (ha : PA X [e] ta) (hs : starEach [e] X.env = [(false, eval e X.env)] := by rfl) :
    PI X (.Tuple elts kk tpos) (.Call (.Name "enumerate" p) [e] [] pos) (iEnumT X.K ta) := by
  refine ⟨fun pins s σ H R I h => ?_⟩
  refine Call_ (ld_blt I hg hm boot_enumerate (PyProof.Rows.callWith_type1 (thn (ha.run pos pins s σ H _ I h) fun us s1 ⟨vs, H1, I1, r1, q1⟩ => ?_) hs rfl))
  obtain ⟨a, xs, ex, hq, q⟩ := q1
  subst ex
  cases r1 with
  | cons r rr =>
    cases rr
    cases r
    obtain ⟨its, rv, p', hz⟩ := I1.tuple hq
    have hT0 : s1.heap.IsTuple a its.toArray := p'
    have hal : a < s1.heap.objs.size := by obtain ⟨_, q, _⟩ := hT0; exact Heap.lt_size q
    refine call_enumerate_tup hT0 fun h' he hit hsz hk => wpAny_pyIter_enum he ?_
    have I2 : Inv X pins σ H1 { s1 with heap := h' } := I1.kept (t' := s1.toks) hk
    refine ⟨s1.heap.objs.size + 1, [s1.heap.objs.size + 1, s1.heap.objs.size], _, _, H1, rfl, I2, turn_enumT a (s1.heap.objs.size + 1) s1.heap.objs.size, ⟨⟨.none, he⟩, hit, Nat.succ_ne_self _, Nat.ne_of_lt hal, Nat.ne_of_lt (Nat.lt_succ_of_lt hal)⟩, fun b hb => ?_, q⟩
    have e' : b = s1.heap.objs.size + 1 ∨ b = s1.heap.objs.size := by simpa using hb
    have hle : s1.heap.objs.size ≤ b := by
      rcases e' with z | z
      · rw [z]; exact Nat.le_add_right _ _
      · rw [z]; exact Nat.le_refl _
    exact I1.fpOk hle (I1.hok.fresh hle)
end L2
namespace L2
open PySem PySem.Spec PyProof.Rows
theorem for_enumT {K : PySem.W.Frag} {a : Addr} {xs : List V} {g : TG} {tb : TS} {D : Ends} {σ : St} {H : Hp} (Pv : Nat → St → Hp → Prop) (h0 : Pv 0 σ H) (hl : ∀ i σ H, i ≤ xs.length → Pv i σ H → SqT K H a xs)
    (hs : ∀ i x σ H T, xs[i]? = some x → Pv i σ H → H T = none → g (.ref T) σ (upd H T (.tup [.int (i : Nat), x])) fun σ2 H2 => tb { D with nx := Pv (i + 1), ct := Pv (i + 1), bk := D.nx } σ2 H2)
    (hd : ∀ σ H, Pv xs.length σ H → D.nx σ H) :
    ∃ W : Nat → Nat → St → Hp → Prop, (∃ m, W 0 m σ H) ∧ ∀ i m σ H, W i m σ H →
      ((ItuE K a).stop i H ∧ D.nx σ H) ∨ ((ItuE K a).go i H ∧ ∃ N : St → Hp → Prop, (∀ σ' H', N σ' H' → ∃ m', m' < m ∧ W (i + 1) m' σ' H') ∧ ∀ x H', (ItuE K a).yld i H x H' → g x σ H' fun σ2 H2 => tb { D with nx := N, ct := N, bk := D.nx } σ2 H2) := by
  refine ⟨fun i m σ H => m = xs.length - i ∧ i ≤ xs.length ∧ Pv i σ H, ⟨xs.length, by simp, Nat.zero_le _, h0⟩, fun i m σ H hW => ?_⟩
  obtain ⟨em, hi, p⟩ := hW
  have q := hl i σ H hi p
  by_cases hlt : i < xs.length
  · refine .inr ⟨⟨xs, xs[i], q, List.getElem?_eq_getElem hlt⟩, Pv (i + 1), fun σ' H' p' => ⟨xs.length - (i + 1), by omega, rfl, hlt, p'⟩, fun x H' y => ?_⟩
    obtain ⟨T, x', ev, nT, eH, hx⟩ := y
    subst ev eH
    exact hs i x' σ H T (hx xs q) p nT
  · have ei : i = xs.length := by omega
    subst ei
    exact .inl ⟨⟨xs, q, Nat.le_refl _⟩, hd σ H p⟩
end L2

namespace L2
open PySem PySem.Spec PyProof.Rows
/-! ### o.m(e, .., k = v, ..) -/
def tMethN (C : Addr) (m : Str) (n j : Nat) (sp : Sp) (gV : List V → List V → List V) (E : XK) (ta : TE) (t tk : TA) : TE := fun σ H Q => ta σ H fun x H1 => ∃ a dx fs, x = .ref a ∧ H1 a = some (.ins C dx fs) ∧ fs.lookup m = none ∧
  t σ H1 fun vs H2 => tk σ H2 fun zs H3 => vs.length + 1 = n ∧ zs.length = j ∧ sp (gV (x :: vs) zs) H3 Q E
section
variable {X : Cx} {CX : CXT} {k n : Nat} {f C : Addr} {fd : FuncData} {ps ks : List Str} {sp : Sp} {E : XK} {m : Str} {pos apos : Pos} {e o : Expr} {es : List Expr} {kws : List Keyword} {ta : TE} {t tk : TA} {g : List Value → List Value → List Value} {gV : List V → List V → List V}
theorem pe_methN {pl : Sem Bool} (he : PE X o ta) (c : Cls X.K C) (hm : Meth X.K C m f) (F : FnOk X.prog X.w X.K X.mg X.base CX k f fd ps sp) (hr : Room k X.A) (hb : KBn X.K fd ps n ks g gV) (hx : Passes CX X E) (ha : PA X (e :: es) t) (hkw : PK X kws tk)
    (hall : (backToKw pos (keywordEach kws X.env)).all (·.1.isSome) = true := by rfl) (hks : (backToKw pos (keywordEach kws X.env)).filterMap (·.1) = ks := by rfl)
    (hst : starEach (e :: es) X.env = (false, eval e X.env) :: starEach es X.env := by rfl)
    (hpl : ((backTo pos (starEach (e :: es) X.env)).any (·.1) || (backToKw pos (keywordEach kws X.env)).any (·.1.isNone)) = false := by rfl)
    (ht : eval (.Call (.Attribute o m apos) (e :: es) kws pos) X.env = (do
      let ov ← eval o X.env
      standAt apos.atName
      let (f, first) ← holding [ov] (getMethod ov m pl)
      callWith pos f first (backTo pos (starEach (e :: es) X.env)) (backToKw pos (keywordEach kws X.env))) := by rfl) :
    PE X (.Call (.Attribute o m apos) (e :: es) kws pos) (tMethN C m n ks.length sp gV E ta t tk) := by
  refine ⟨fun pins s σ H Q I h => PySem.W.methodCall_KW (pl := pl) (thn (he.run pins s σ H _ I h) fun u s1 ⟨x, H1, I1, rx, a, dx, fs, ex, ea, l, q⟩ => ?_) ht⟩
  subst ex
  obtain rfl : u = Value.ref a := rx
  refine getmeth_ok I1 ea c hm l ?_
  refine PySem.W.callWith_KW (first := [.ref a]) (h₀ := X.base) I.ok.mod.kin hm.kp hall (thn (ha.run pos pins s1 σ H1 _ I1 q) fun us s2 ⟨vs, H2, I2, r, q2⟩ => ?_) hpl hst
  refine thn (hkw.run pos pins s2 σ H2 _ I2 q2) fun ws s3 ⟨zs, H3, I3, rz, l1, l2, q3⟩ => ⟨I3.kIn, ?_⟩
  rw [hks]
  exact run_fnN (us := .ref a :: us) (vs := .ref a :: vs) F hr hb hx I3 (.cons rfl r) rz l1 l2 q3
end
section
variable {P : Program} {w : World} {K : PySem.W.Frag} {mg : Str → Option Value} {base : Heap} {x qual : Str} {params : Arguments} {body : List Stmt} {scope : Scope} {dvs : List V} {kws : List (Str × V)} {f : Addr} {fd : FuncData}
/-- a def with defaults that lets nothing out -/
theorem FunD.ok0 {N ps : List Str} {k : Nat} {sp : Sp} (F : FunD K x qual params body scope dvs kws f fd) (S : FnScope N ps scope) (len : ∀ vs H Q E, sp vs H Q E → vs.length = ps.length)
    (hb : ∀ (cdv : Value) (A : Around) (outer : List Env) (s : Shared) (H : Hp) (vs : List V) (Q : VK) (E : XK), Room k (A.deeper (envOfC qual scope s.heap.objs.size f cdv)) → sp vs H Q E →
      ∃ t, PSs (cxOf CX0 P w K mg base N qual scope f cdv A outer s H E).nox body t ∧ t { nx := fun _ H' => Q .non H', rt := Q } (start N vs) H) : FnOk P w K mg base CX0 (k + 1) f fd ps sp :=
  F.ok S len fun cdv A outer s H vs Q E hr h => (hb cdv A outer s H vs Q E hr h).elim fun t ⟨h1, h2⟩ => ⟨t, h1.nox, h2⟩
end
end L2

namespace L2
open PySem PySem.Spec PyProof.Rows
/-! ### x op y by an own def of the class of both -/
def rOwnI (C : Addr) (sp : Sp) (E : XK) : R2 := fun x y H Q => ∃ a dx fs b dy gs, x = .ref a ∧ y = .ref b ∧ H a = some (.ins C dx fs) ∧ H b = some (.ins C dy gs) ∧ sp [x, y] H Q E
section
variable {X : Cx} {CX : CXT} {n : Nat} {C g : Addr} {fd : FuncData} {ps : List Str} {sp : Sp} {E : XK}
theorem op_cmpI {op : CmpOp} (hop : ∀ a b, compareOp op a b = richCompare op a b) (hs : PySem.W.findIn X.K (.ref C) (cmpInfo op).2.1 = some (some (.ref g))) (hf : PySem.W.isFn X.K (.ref g) = true)
    (F : FnOk X.prog X.w X.K X.mg X.base CX n g fd ps sp) (hr : Room n X.A) (hb : Binds X.K fd ps []) (hx : Passes CX X E) : OpR X (compareOp op) (rOwnI C sp E) := by
  intro pins s σ H x y v u Q I rx ry h
  obtain ⟨a, dx, fs, b, dy, gs, rfl, rfl, ha, hb', q⟩ := h
  cases rx
  cases ry
  obtain ⟨mA, J, _⟩ := ins_get I.hok ha
  obtain ⟨mB, J', _⟩ := ins_get I.hok hb'
  obtain ⟨od, J, _⟩ := J.look
  obtain ⟨od', J', _⟩ := J'.look
  obtain ⟨m, hF⟩ := I.fr
  rw [hop]
  refine PySem.W.cmp_K (op := op) (tb := .ref C) hr.units0 hF I.ok.mod.kin J J'.type (by simp [PySem.W.notFirst]) hs hf ?_
  refine wpAny_mono (run_fn (us := [.ref a, .ref b]) (vs := [.ref a, .ref b]) (dvs := []) F hr hb .nil hx I (.cons rfl (.cons rfl .nil)) q) (fun w s' z => ?_) fun _ _ x => x
  obtain ⟨z', H', I', rz, qz⟩ := z
  exact SlX.cmpback rz ⟨z', H', I', rz, qz⟩
theorem op_binI {op : Operator} (hc : PySem.W.selfFirst X.K C = true) (hs : PySem.W.findIn X.K (.ref C) (PySem.dunder op.info.2) = some (some (.ref g))) (hf : PySem.W.isFn X.K (.ref g) = true)
    (F : FnOk X.prog X.w X.K X.mg X.base CX n g fd ps sp) (hr : Room n X.A) (hb : Binds X.K fd ps []) (hx : Passes CX X E) : OpR X (binaryOp op) (rOwnI C sp E) := by
  intro pins s σ H x y v u Q I rx ry h
  obtain ⟨a, dx, fs, b, dy, gs, rfl, rfl, ha, hb', q⟩ := h
  cases rx
  cases ry
  obtain ⟨mA, J, _⟩ := ins_get I.hok ha
  obtain ⟨mB, J', _⟩ := ins_get I.hok hb'
  obtain ⟨od, J, _⟩ := J.look
  obtain ⟨od', J', _⟩ := J'.look
  obtain ⟨m, hF⟩ := I.fr
  refine PySem.W.binop_K (op := op) hF I.ok.mod.kin J J'.type hc hs hf ?_
  refine wpAny_mono (run_fn (us := [.ref a, .ref b]) (vs := [.ref a, .ref b]) (dvs := []) F hr hb .nil hx I (.cons rfl (.cons rfl .nil)) q) (fun w s' z => ?_) fun _ _ x => x
  obtain ⟨z', H', I', rz, qz⟩ := z
  exact SlX.cmpback rz ⟨z', H', I', rz, qz⟩
end
end L2

/-! ### errors whose __init__ says super().__init__(text) and stores one field -/
namespace PySem
namespace WX
open PySem.W PySem.Calls PyProof.Rows PySem.HandSPX
def iB (fl tx : Str) (q1 q2 q3 q4 q5 q6 q7 q8 q9 q10 : Pos) (j : Nat) : List Stmt :=
  [.Expr (.Call (.Attribute (.Call (.Name "super" q1) [] [] q2) "__init__" q3) [.Constant (.str tx) j q4] [] q5) q6, .Assign [.Attribute (.Name "self" q7) fl q8] (.Name fl q9) q10]
/-- what the top has written of the class cn, at C, and of its __init__, at fI -/
structure ExcTxt (P : Program) (K : Frag) (mg : Str → Option Value) (cn fl : Str) (C : Addr) where
  gC : mg cn = some (.ref C)
  cls : ∃ nm q N bs bm sn sub ab col dd k0 k1 k2 k3 k5, K.lookup C = some (excClassObj nm q C N bs bm true sn sub ab col dd k0 k1 k2 k3 k5 "ValueError.__new__") ∧ refsVE bm = true
  sa : findIn K (.ref C) "__setattr__" = some (some (.builtin "object.__setattr__"))
  ga : findIn K (.ref C) "__getattribute__" = some (some (.builtin "BaseException.__getattribute__"))
  gg : findIn K (.ref C) "__getattr__" = some none
  noN : findIn K (.ref C) fl = some none
  kC : keepIn K (.ref C) = true
  exC : subIn K (.ref C) (.type "BaseException") = some true
  tyC : typeIn K (.ref C) = some (.type "type")
  hdC : hasDictIn K C = true
  D : Addr
  clsD : ∃ oD cdD, K.lookup D = some oD ∧ oD.data = .cls cdD
  fI : Addr
  qual : Str
  tx : Str
  S : Stmt
  oc : Value
  od : Option Addr
  kV : Value
  doc : Value
  pm : Value
  an : Option Addr
  cda : Addr
  ct : Value
  osl : Array (Option Value)
  cc : Addr
  cl : Value
  cld : Option Addr
  csl : Array (Option Value)
  ccl : Value
  cdd : Option Addr
  vs : Array Value
  ccs : Array (Option Value)
  file : Str
  tf : Tok
  q1 : Pos
  q2 : Pos
  q3 : Pos
  q4 : Pos
  q5 : Pos
  q6 : Pos
  q7 : Pos
  q8 : Pos
  q9 : Pos
  q10 : Pos
  j : Nat
  pl : Sem Bool
  iC : findIn K (.ref C) "__init__" = some (some (.ref fI))
  tI : typeIn K (.ref fI) = some (.type "function")
  lI : K.lookup fI = some ⟨oc, od, .func (ksFn "__init__" qual (L2.defArgs S) (L2.defBody S) (L2.defScope S) .none kV doc pm an (.ref cda) ct cc), osl⟩
  cI : codeIn K (.ref cda) qual = true
  lcc : K.lookup cc = some ⟨cl, cld, .cell (some (.ref D)), csl⟩
  lcd : K.lookup cda = some ⟨ccl, cdd, .fields vs, ccs⟩
  hvs : vs[2]? = some (.str file tf)
  hfile : ((P.main.file : Str) == file) = true
  hpar : ∃ ar : Arg, ((L2.defArgs S).posonlyargs ++ (L2.defArgs S).args).head? = some ar ∧ ar.arg = "self"
  hbody : L2.defBody S = iB fl tx q1 q2 q3 q4 q5 q6 q7 q8 q9 q10 j
  hbind : ∀ x v : Value, bindArgs (ksFn "__init__" qual (L2.defArgs S) (L2.defBody S) (L2.defScope S) .none kV doc pm an (.ref cda) ct cc) ⟨[x, v], []⟩ = pure [(("self" : Str), x), (fl, v)]
  hev : ∀ L f : Addr, eval (.Call (.Attribute (.Call (.Name "super" q1) [] [] q2) "__init__" q3) [.Constant (.str tx) j q4] [] q5) (ksEnv qual (L2.defScope S) L f (.ref cda) cc) = (do
      let ov ← attributeBase (.Call (.Name "super" q1) [] [] q2) "__init__" (ksEnv qual (L2.defScope S) L f (.ref cda) cc) (eval (.Call (.Name "super" q1) [] [] q2) (ksEnv qual (L2.defScope S) L f (.ref cda) cc))
      standAt q3.atName
      let (g, first) ← holding [ov] (getMethod ov "__init__" pl)
      callWith q5 g first (backTo q5 (starEach [.Constant (.str tx) j q4] (ksEnv qual (L2.defScope S) L f (.ref cda) cc))) [])
  hk : (L2.defScope S).kind = .function
  hco : (L2.defScope S).isCoroutine = false
  hgen : (L2.defScope S).isGenerator = false
  hks : (L2.defScope S).names.lookup ("super" : Str) = some .globalImplicit
  hkc : (L2.defScope S).names.lookup ("__class__" : Str) = some .free
  hself : (L2.defScope S).names.lookup ("self" : Str) = some .local
  hfl : (L2.defScope S).names.lookup fl = some .local
  hcell : ∀ y ∈ (L2.defScope S).names, y.2 ≠ .cell
  nf : ("self" : Str) ≠ fl ∧ (fl == ("__debug__" : Str)) = false
  top : (P.main.scope.names.lookup ("super" : Str)).isSome = false
  sup : mg "super" = none
  opq : nsIn K cStatics "thirdparty.any" = some none
  nxt : ks_superIn K C D "__init__" = some (some (.builtin "ValueError.__init__"))
  slf : mroIn K C (.ref D) = some true
  sub : subIn K (.ref C) (.type "ValueError") = some true
section
variable {P : Program} {w : World} {A : Around} {E : Value → Shared → Prop} {R : Result → Shared → Prop} {s : Shared} {K : Frag} {mg : Str → Option Value} {cn fl : Str} {C : Addr}
/-- the method-wrapper of ValueError.__init__ called -/
theorem call_mw {h : Heap} {g : Array GenState} {d : Drawn} {t : Nat} {os : OsState} {nm q : Str} {N : Addr} {bs bm : List Value} {hdct : Bool} {sn : List Str} {sub : List Value} {ab : Bool} {col : Option Bool} {dd : Option Addr} {k0 k1 k2 k3 k5 : Option Value} {u e t0 : Addr} {rest : List Value} {Q : Value → Shared → Prop}
    (hC : h.get? C = some (excClassObj nm q C N bs bm hdct sn sub ab col dd k0 k1 k2 k3 k5 "ValueError.__new__")) (he : h.get? e = some (excO C t0)) (hu : h.get? u = some (kxs_mw "ValueError.__init__" e)) (hrest : rest.length ≤ sizeLine)
    (hq : ∀ h' t1, (∀ b o, b ≠ e → h.get? b = some o → h'.get? b = some o) → h'.get? e = some (excO C t1) → Q .none ⟨h', g, d, t, os⟩) :
    wpAny (model P w) A (call (.ref u) rest) Q E ⟨h, g, d, t, os⟩ := by
  refine wpAny_call (codeAny_of_tree ?_)
  show wpAny _ A.in1 (callAny (.ref u) ⟨rest, []⟩) _ _ _
  simp only [callAny]
  refine wpAny_bind (wpAny_load hu ?_)
  simp only [kxs_mw, show (Value.type "method-wrapper" == Value.type "method" || Value.type "method-wrapper" == Value.type "builtin_function_or_method" || Value.type "method-wrapper" == Value.type "method-wrapper") = true by decide, if_true]
  refine KFB.if_so (by decide) (wpAny_bind (check_bound_init PySem.F.excBase_ValueError.toExcCallFacts hC he rfl (wpAny_bind (wpAny_pure (wpAny_pure ?_)))))
  refine ⟨plainId_quiet PySem.F.excBase_ValueError.init.plain _, codeAny_builtin PySem.F.excBase_ValueError.initEntry ?_⟩
  exact exc_init_tree (cls := .ref C) (t0 := t0) (dv := none) (c2 := .none) (c3 := .none) (b4 := .bool false) he hrest fun h' k e' _ => hq h' _ k e'
/-- what __init__ leaves of a fresh exception at x -/
structure InitEnd (h h' : Heap) (x C dx : Addr) (fl : Str) (v : Value) : Prop where
  keep : ∀ b o, b ≠ x → h.get? b = some o → h'.get? b = some o
  obj : ∃ t1 : Addr, h'.get? x = some { cls := .ref C, dict := some dx, data := .fields #[.ref t1, .none, .none, .none, .bool false, .none] }
  dbig : h.objs.size ≤ dx
  dne : dx ≠ x
  ns : h'.Ns1 dx (fun y => if y = fl then some v else none)
theorem x_init (T : ExcTxt P K mg cn fl C) {x t0 : Addr} {v : Value} (X : K.In s.heap) (hlim : s.heap.NoLimit) (hG : s.heap.Ns mainGlobals mg) (hB : ∃ mb, s.heap.Ns builtinsNs mb ∧ ∀ y : Str, y ≠ "__name__" → mb y = bootBuiltins y)
    (hx : s.heap.get? x = some (excO C t0)) (hnx : K.lookup x = none) (hroom : A.depth < recursionLimit)
    (hq : ∀ h' tk dx, InitEnd s.heap h' x C dx fl v → R (.ok (.ret .none)) { s with heap := h', toks := tk }) :
    codeAny (model P w) A (.call (.ref T.fI) ⟨[.ref x, v], []⟩) R s := by
  obtain ⟨nm, q, N, bs, bm, sn, sub, ab, col, dd, k0, k1, k2, k3, k5, hC, hbm⟩ := T.cls
  obtain ⟨oD, cdD, hD, hDd⟩ := T.clsD
  have hcl : clsIn K C = some { name := nm, bases := bs, mro := .ref C :: bm, ns := N, qualname := q, hasDict := true, slotNames := sn, subclasses := sub, abstract := ab, collection := col, hasDel := false } := by unfold clsIn; rw [hC] <;> rfl
  have hxC : x ≠ C := fun z => by
    have e1 := X _ _ hC
    rw [← z, hx] at e1
    have e2 := congrArg (fun o : Option Obj => o.map (·.data)) e1
    simp [excO, excClassObj] at e2
  have ho := T.lI
  refine ks_codeAny_call_defAt (fd := ksFn "__init__" T.qual (L2.defArgs T.S) (L2.defBody T.S) (L2.defScope T.S) .none T.kV T.doc T.pm T.an (.ref T.cda) T.ct T.cc) (body := L2.defBody T.S) (binds := [("self", .ref x), (fl, v)])
    hroom (X _ _ ho) rfl hlim (codeRec_of X T.cI) rfl (BindsTo.of_eq (T.hbind _ _)) T.hcell ?hloc (fun h₁ hns hk₁ => ?_) T.hco T.hgen T.hk
  case hloc =>
    intro y hy
    simp only [List.mem_cons, List.not_mem_nil, or_false] at hy
    rcases hy with rfl | rfl
    · exact T.hself
    · exact T.hfl
  have X₁ : K.In h₁ := X.keeps hk₁
  have hx₁ := hk₁ _ _ hx
  have ms : (fun y : Str => ([("self", Value.ref x), (fl, v)] : List (Str × Value)).reverse.lookup y) "self" = some (.ref x) := by
    have z : (("self" : Str) == fl) = false := by simpa using T.nf.1
    simp [List.lookup, z]
  have mf : (fun y : Str => ([("self", Value.ref x), (fl, v)] : List (Str × Value)).reverse.lookup y) fl = some v := by simp [List.lookup]
  show wpAt _ (A.deeper (ksEnv T.qual (L2.defScope T.S) s.heap.objs.size T.fI (.ref T.cda) T.cc)) (.func (L2.defBody T.S) (ksEnv T.qual (L2.defScope T.S) s.heap.objs.size T.fI (.ref T.cda) T.cc)) (execs (L2.defBody T.S) (ksEnv T.qual (L2.defScope T.S) s.heap.objs.size T.fI (.ref T.cda) T.cc)) _ _ _
  rw [T.hbody]
  refine ks_wpAt_execs_cons (ks_wpAt_Expr_any (ks_wpAt_MethodCall ?_ (T.hev _ _)) (by unfold interactive; show ((L2.defScope T.S).kind == .module && _) = false; rw [T.hk]; rfl))
  obtain ⟨ar, hp, har⟩ := T.hpar
  obtain ⟨mb, hB1, hB2⟩ := hB
  refine ks_wpAt_super_base T.hks T.hkc (by decide +kernel) rfl (hk₁ _ _ (X _ _ ho)) rfl hp rfl (hk₁ _ _ (X _ _ T.lcd)) rfl T.hvs T.hfile T.top ?_
  refine ks_loadName_global T.hk T.hks (loadGlobal_builtin (hG.keeps hk₁) T.sup (hB1.keeps hk₁) ((hB2 _ (by decide +kernel)).trans PyProof.Rows.Boot.«super») ⟨rfl, ?_⟩)
  refine wpAny_loadName_free T.hk T.hkc rfl ⟨_, X₁ _ _ T.lcc, rfl⟩ ?_
  rw [har]
  refine wpAny_loadName_local T.hk T.hself hns ms ?_
  refine ks_wpAny_isType_cls (X₁ _ _ hD) hDd ⟨rfl, ?_⟩
  refine ks_wpAny_call_super (X₁ _ _ hD) hDd hx₁ rfl (fun c e => by cases e) (looks_mroIn X₁ T.slf) (fun h₂ e₂ k₂ => ?_)
  have X₂ : K.In h₂ := X₁.keeps k₂
  have hx₂ := k₂ _ _ hx₁
  have I₂ : InstAt h₂ x (excO C t0) C none := ⟨hx₂, rfl, rfl, trivial⟩
  have hnxt : alongIn K "__init__" (((Value.ref C :: bm).dropWhile (· != .ref T.D)).drop 1) = some (some (.builtin "ValueError.__init__")) := by
    have z := T.nxt
    unfold ks_superIn at z
    rw [hcl] at z
    exact z
  refine kxs_getMethod kxs_ValueError e₂ (looks_opaque X₂ T.opq) (l₀ := Value.ref C :: bm) (fun A Q E s k q => wpAny_bind ((looks_clsIn X₂ hcl) A _ E s k (wpAny_pure q))) rfl X₂ hnxt (I₂.type.andThen (looks_subIn X₂ T.sub)) hxC (by decide +kernel) ?_
  have k₃ : ∀ b o, h₂.get? b = some o → (h₂.push (kxs_mw "ValueError.__init__" x)).get? b = some o := fun b o e => Heap.get?_push_of_some _ e
  refine kxs_callWith (i := "ValueError.__init__") (x := x) rfl (evalArgs_plain (spliced_more (wpAny_Constant_str (spliced_none ?_))))
  refine ⟨Heap.get?_push_at rfl rfl, ?_⟩
  refine call_mw (k₃ _ _ (X₂ _ _ hC)) (k₃ _ _ hx₂) (Heap.get?_push_at rfl rfl) (by show 1 ≤ sizeLine; decide) fun h₄ t1 k₄ hx₄ => ?_
  have k14 : ∀ b o, b ≠ x → h₁.get? b = some o → h₄.get? b = some o := fun b o hb e => k₄ b o hb (k₃ _ _ (k₂ _ _ e))
  have hxL : s.heap.objs.size ≠ x := Nat.ne_of_gt (Heap.lt_size hx)
  have hns₄ : h₄.Ns s.heap.objs.size (fun y : Str => ([("self", Value.ref x), (fl, v)] : List (Str × Value)).reverse.lookup y) := by
    obtain ⟨oL, es, ep, hL, r⟩ := hns
    exact ⟨oL, es, ep, k14 _ _ hxL hL, r⟩
  have X₄ : K.In h₄ := fun b o e => k14 b o (fun z => by rw [z, hnx] at e; cases e) (X₁ _ _ e)
  refine ks_wpAt_execs_cons (ks_wpAt_Assign_Attr (wpAt_of_wpAny (wpAny_Name (wpAny_loadName_local T.hk T.hfl hns₄ mf ?_) T.nf.2)))
  refine wpAny_Name (wpAny_loadName_local T.hk T.hself hns₄ ms ?_)
  refine set_plain X₄ (ox := excO C t1) (od := none) ⟨hx₄, rfl, rfl, trivial⟩ T.sa ?_
  refine exc_osa X₄ hx₄ hcl (show refsVE (.ref C :: bm) = true from hbm) rfl T.noN (fun h₅ tk₅ dx k₅ dn dne hx₅ hn₅ => ?_)
  exact wpAt_of_wpAny (wpAny_execs_nil (hq h₅ tk₅ dx ⟨fun b o hb e => k₅ b o hb (k14 b o hb (hk₁ b o e)), ⟨t1, hx₅⟩, Nat.le_trans (Nat.le_of_lt hns₄.lt) dn, dne, hn₅⟩))
/-- a made error -/
structure OwnMade (h h' : Heap) (e C d : Addr) (fl : Str) (v : Value) : Prop where
  keep : ∀ b o, h.get? b = some o → h'.get? b = some o
  new : h.objs.size ≤ e
  obj : ∃ oe vs, h'.get? e = some oe ∧ oe.cls = .ref C ∧ oe.dict = some d ∧ oe.data = .fields vs ∧ vs[1]? = some .none
  dbig : h.objs.size ≤ d
  dne : d ≠ e
  ns : h'.Ns1 d (fun y => if y = fl then some v else none)
theorem x_made (T : ExcTxt P K mg cn fl C) {v : Value} (X : K.In s.heap) (hlim : s.heap.NoLimit) (hG : s.heap.Ns mainGlobals mg) (hB : ∃ mb, s.heap.Ns builtinsNs mb ∧ ∀ y : Str, y ≠ "__name__" → mb y = bootBuiltins y) (hroom : A.depth + 1 < recursionLimit)
    (hq : ∀ h' tk e d, OwnMade s.heap h' e C d fl v → R (.ok (.ret (.ref e))) { s with heap := h', toks := tk }) :
    codeAny (model P w) A (.call (.ref C) ⟨[v], []⟩) R s := by
  obtain ⟨nm, q, N, bs, bm, sn, sub, ab, col, dd, k0, k1, k2, k3, k5, hC, hbm⟩ := T.cls
  obtain ⟨hp, g, dr, tk, os⟩ := s
  have k : ∀ b o, hp.get? b = some o → ((hp.push (kdv_tup [v])).push (excO C hp.objs.size)).get? b = some o := fun b o e => Heap.get?_push_of_some _ (Heap.get?_push_of_some _ e)
  have hget : ((hp.push (kdv_tup [v])).push (excO C hp.objs.size)).get? (hp.objs.size + 1) = some (excO C hp.objs.size) := by heap_get
  have hnx : K.lookup (hp.objs.size + 1) = none := by
    cases e : K.lookup (hp.objs.size + 1) with
    | none => rfl
    | some o => exact absurd (Nat.lt_of_succ_lt (Heap.lt_size (show hp.get? (hp.objs.size + 1) = some o from X _ _ e))) (Nat.lt_irrefl _)
  obtain ⟨mb, hB1, hB2⟩ := hB
  refine call_own PySem.F.excBase_ValueError (fun X => refsVE_contains X bm hbm) (X _ _ hC) (looks_findIn X T.iC) (fun self => bind_fn X self T.tI) (by show 1 ≤ sizeLine; decide) ?_
  refine x_init (s := ⟨(hp.push (kdv_tup [v])).push (excO C hp.objs.size), g, dr, tk, os⟩) T (X.keeps k) (hlim.keeps k) (hG.keeps k) ⟨mb, hB1.keeps k, hB2⟩ hget hnx (show A.depth + 1 < recursionLimit from hroom) fun h' tk' dx ⟨k', ⟨t1, hx⟩, dn, dne, hns⟩ => ?_
  have old : ∀ b o, hp.get? b = some o → h'.get? b = some o := fun b o e => k' b o (Nat.ne_of_lt (Nat.lt_succ_of_lt (Heap.lt_size e))) (k b o e)
  have z : hp.objs.size + 1 + 1 ≤ dx := by
    first
      | (simpa only [Heap.size_push] using dn)
      | exact dn
      | (have q := dn; rw [Heap.size_push, Heap.size_push] at q; exact q)
  exact ⟨rfl, hq h' tk' (hp.objs.size + 1) dx ⟨old, Nat.le_succ _, ⟨_, _, hx, rfl, rfl, rfl, rfl⟩, Nat.le_trans (Nat.le_trans (Nat.le_succ _) (Nat.le_succ _)) z, dne, hns⟩⟩
end
end WX
end PySem
namespace L2
open PySem PySem.Spec PyProof.Rows
theorem relO_x {v : V} {v' : Value} (fl : Str) (r : RelV v v') (f : Str) : RelO (List.lookup f [(fl, v)]) (if f = fl then some v' else none) := by
  by_cases hw : f = fl
  · subst hw
    rw [if_pos rfl, show List.lookup f [(f, v)] = some v by simp [List.lookup]]
    exact r
  · rw [if_neg hw, show List.lookup f [(fl, v)] = none by simp [List.lookup, show (f == fl) = false by simpa using hw]]
    trivial
section
variable {X : Cx} {C : Addr} {cn fl : Str}
/-- cn(e) -/
def tMkX (C : Addr) (fl : Str) (ta : TA) : St → Hp → XK → Prop := fun σ H Q => ta σ H fun vs H1 => ∃ v, vs = [v] ∧ ∀ d, H1 d = none → Q (.ref C) (some d) (upd H1 d (.xd [(fl, v)]))
theorem pmk_x {a : Expr} {ta : TA} {p pos : Pos} {k : Nat} (T : PySem.WX.ExcTxt X.prog X.K X.mg cn fl C) (hr : Room k X.A) (ha : PA X [a] ta) (hg : Gl X cn := by rfl) (hdb : (cn == ("__debug__" : Str)) = false := by decide)
    (he : starEach (a :: []) X.env = (false, eval a X.env) :: starEach [] X.env := by rfl) (hpl : (backTo pos (starEach [] X.env)).any (·.1) = false := by rfl) :
    PMk X (.Call (.Name cn p) [a] [] pos) (tMkX C fl ta) := by
  intro pins s σ H Q I h
  refine wpAny_Call_Name_kw (ld_glob I hg T.gC ?_ hdb)
  refine PySem.W.callWith_K (h₀ := X.base) I.ok.mod.kin T.kC (thn (ha.run pos pins s σ H _ I h) fun us s1 hh => ?_) he hpl
  obtain ⟨vs, H1, I1, r1, v, ev, q1⟩ := hh
  subst ev
  refine ⟨I1.kIn, ?_⟩
  cases r1 with
  | cons rv rn =>
    rename_i v' us'
    cases rn
    show wpAny _ _ (call (.ref C) [v']) _ _ _
    have hlim := I1.nolimit
    have hG := I1.mod.glob.keeps I1.bk
    obtain ⟨mb, hB1, hB2⟩ := I1.mod.blt
    have hB1' := hB1.keeps I1.bk
    obtain ⟨hp, g, dr, tk, os⟩ := s1
    refine wpAny_call (PySem.WX.x_made T I1.kIn hlim hG ⟨mb, hB1', hB2⟩ (by have := hr.dp; omega) fun h' tk' e d M => ?_)
    show MkP X pins σ Q (.ref e) ⟨h', g, dr, tk', os⟩
    obtain ⟨oe, fv, hoe, hc, hd, hdat, h1⟩ := M.obj
    obtain ⟨G', g1, g2⟩ := restrict h' fun b => decide (b ≠ e)
    have gk : ∀ b, b ≠ e → G'.get? b = h'.get? b := fun b hb => g1 b (decide_eq_true hb)
    have ge : G'.get? e = none := g2 e (by simp)
    have old : ∀ b o, hp.get? b = some o → G'.get? b = some o := fun b o q => (gk b (Nat.ne_of_lt (Nat.lt_of_lt_of_le (Heap.lt_size q) M.new))).trans (M.keep b o q)
    have ob : ObjOk X.prog X.w (upd H1 d (.xd [(fl, v)])) G' d (.xd [(fl, v)]) := ⟨_, M.ns.at (fun o q => (gk d M.dne).trans q), fun f => relO_x fl rv f⟩
    have J : Inv X pins σ (upd H1 d (.xd [(fl, v)])) ⟨G', g, dr, tk', os⟩ := I1.laid (t' := tk') old M.dbig ob
    refine ⟨e, oe, fv, ⟨G', g, dr, tk', os⟩, _, .ref C, some d, rfl, J, fun b o q => ?_, ge, hoe, ⟨hc, hd⟩, hdat, h1, ?_, rfl, I1.bare, raises_own T.exC T.tyC, q1 d (I1.hok.fresh M.dbig)⟩
    · by_cases hb : b = e
      · have q' : G'.get? b = some o := q
        rw [hb, ge] at q'; cases q'
      · exact (gk b hb).symm.trans q
    · rw [upd_ne (Ne.symm M.dne)]
      exact I1.hok.fresh M.new
/-- raise cn(e) -/
def tRaiseX (C : Addr) (fl : Str) (W : WX) (ta : TA) : TS := fun _ σ H => tMkX C fl ta σ H fun cls d H' => W cls d σ H'
theorem ps_raiseX {a : Expr} {ta : TA} {W : WX} {p pos pos2 : Pos} {k : Nat} (hc : X.calm = true) (T : PySem.WX.ExcTxt X.prog X.K X.mg cn fl C) (hr : Room k X.A) (tk : Takes X W) (ha : PA X [a] ta) (hg : Gl X cn := by rfl) (hdb : (cn == ("__debug__" : Str)) = false := by decide)
    (he : starEach (a :: []) X.env = (false, eval a X.env) :: starEach [] X.env := by rfl) (hpl : (backTo pos (starEach [] X.env)).any (·.1) = false := by rfl) :
    PS X (.Raise (some (.Call (.Name cn p) [a] [] pos)) none pos2) (tRaiseX C fl W ta) := ps_raise hc tk (pmk_x T hr ha hg hdb he hpl)
end
end L2

namespace L2
open PySem PySem.Spec PyProof.Rows
/-! ### in an except suite: isinstance(e, c) and e.f, e an own error with a dict -/
structure XC (K : PySem.W.Frag) (D : Addr) : Prop where
  ga : PySem.W.findIn K (.ref D) "__getattribute__" = some (some (.builtin "BaseException.__getattribute__"))
  gg : PySem.W.findIn K (.ref D) "__getattr__" = some none
  hs : PySem.W.subIn K (.ref D) (.type "BaseException") = some true
  hd : PySem.W.hasDictIn K D = true
  ha : PySem.W.findIn K (.ref D) "__class__" = some (some (.builtin "object.__class__"))
  hn : PySem.W.specialIn K (.builtin "object.__class__") "__get__" = some (some (.builtin "getset_descriptor.__get__"))
  ht : PySem.W.takesIn K (.builtin "object.__class__") = some true
  hm : PySem.W.mroIn K D (.type "object") = some true
def rIsX (K : PySem.W.Frag) (a : Addr) (cls : Value) (d : Option Addr) : List V → Hp → VK → Prop := fun xs H Q => ∃ (D dd : Addr) (fs : List (Str × V)) (c : V) (cv : Value) (b : Bool), cls = .ref D ∧ d = some dd ∧ H dd = some (.xd fs) ∧ XC K D ∧ xs = [.ref a, c] ∧ ClsV c cv ∧ PySem.W.kitOne K (.ref D) cv = some b ∧ Q (.bl b) H
theorem call_isX {X : Cx} {a : Addr} {oe : Obj} {cls : Value} {d : Option Addr} {pn : List (Addr × Obj)} (hz : Zc cls d oe) (hf : ∃ vs, oe.data = .fields vs) : CallR (X.suite a ((a, oe) :: pn)) (.builtin "isinstance") (rIsX X.K a cls d) := by
  intro pins s σ H xs us Q I r h
  obtain ⟨D, dd, fs, c, cv, b, rfl, rfl, hdd, C, rfl, hcv, e, q⟩ := h
  cases r with
  | cons rx rr =>
    cases rr with
    | cons rt rr =>
      cases rr
      cases rx
      have ec := hcv.eq rt
      subst ec
      obtain ⟨hget, _⟩ := I.pin (a, oe) (List.mem_append.mpr (.inl List.mem_cons_self))
      obtain ⟨vs, hv⟩ := hf
      have hx : ObjOk X.prog X.w H s.heap dd (.xd fs) := I.hok dd _ hdd
      obtain ⟨mA, hns, hr⟩ := hx
      obtain ⟨od, ho, hl⟩ := lookIn_ns hns
      have J : PySem.W.InstAt s.heap a oe D (some od) := ⟨hget, hz.1, by unfold PySem.W.notCls; rw [hv] <;> rfl, by rw [hz.2]; exact ho⟩
      obtain ⟨cd, hc, _⟩ := PySem.W.any_some C.hd
      exact PySem.W.kia_one (PySem.W.kitx_exc (by rw [hc]; rfl) C.ga C.gg C.hs C.ha C.hn C.ht C.hm) I.kIn J e (fun z => nomatch z) fun tk => ⟨.bl b, H, I.kept (t' := tk) fun _ _ z => z, rfl, q⟩
/-- e.f: the reading names the class -/
def tXfX (K : PySem.W.Frag) (a : Addr) (cls : Value) (d : Option Addr) (f : Str) (te : TE) : TE := fun σ H Q => te σ H fun x H1 => x = .ref a ∧ ∃ (C dd : Addr) (fs : List (Str × V)) (v : V), cls = .ref C ∧ XC K C ∧ PySem.W.findIn K (.ref C) f = some none ∧ d = some dd ∧ H1 dd = some (.xd fs) ∧ fs.lookup f = some v ∧ Q v H1
theorem pe_xfX {X : Cx} {a : Addr} {oe : Obj} {cls : Value} {d : Option Addr} {pn : List (Addr × Obj)} {e : Expr} {te : TE} {pos : Pos} {n : Str}
    (hz : Zc cls d oe) (hf : ∃ vs, oe.data = .fields vs) (he : PE (X.suite a ((a, oe) :: pn)) e te) (hb : attributeBase e n X.env (eval e X.env) = eval e X.env := by rfl) :
    PE (X.suite a ((a, oe) :: pn)) (.Attribute e n pos) (tXfX X.K a cls d n te) := by
  refine ⟨fun pins s σ H Q I h => ?_⟩
  refine attr_of hb (thn (he.run pins s σ H _ I h) fun u s1 hh => ?_)
  obtain ⟨x, H1, I1, rx, ex, C, dd, fs, v, ec, T, hno, ed, ea, l, q⟩ := hh
  subst ex
  obtain rfl : u = Value.ref a := rx
  subst ec
  subst ed
  obtain ⟨ha, _⟩ := I1.pin (a, oe) (List.mem_append_left _ List.mem_cons_self)
  obtain ⟨vs, hd⟩ := hf
  have hx : ObjOk X.prog X.w H1 s1.heap dd (.xd fs) := I1.hok dd _ ea
  obtain ⟨mA, hns, hr⟩ := hx
  obtain ⟨od, ho, hl⟩ := lookIn_ns hns
  obtain ⟨u, hu, ru⟩ := RelO.some_of (v := v) (o := mA n) (by rw [← l]; exact hr n)
  have J : PySem.W.InstAt s1.heap a oe C (some od) := ⟨ha, hz.1, by unfold PySem.W.notCls; rw [hd] <;> rfl, by rw [hz.2]; exact ho⟩
  exact HandSPX.exc_get I1.kIn J T.ga T.gg T.hs (PySem.W.findObj_own T.hd hno rfl (by rw [hl, hu])) (handed_of ru) ⟨v, H1, I1.tok _, ru, q⟩
/-! ### calls in a try's body: the way out sees the slots -/
def tMethW (C : Addr) (m : Str) (sp : Sp) (dvs : List V) (E : St → XK) (ta : TE) (t : TA) : TE := fun σ H Q => tMeth C m sp dvs (E σ) ta t σ H Q
section
variable {X : Cx} {CX : CXT} {k : Nat} {f C : Addr} {fd : FuncData} {ps : List Str} {sp : Sp} {dvs : List V} {ds : List Value} {E : St → XK} {x m : Str} {p pos apos : Pos} {e o : Expr} {es : List Expr} {ta : TE} {t : TA}
theorem pe_methW {pl : Sem Bool} (he : PE X o ta) (c : Cls X.K C) (hm : Meth X.K C m f) (F : FnOk X.prog X.w X.K X.mg X.base CX k f fd ps sp) (hr : Room k X.A) (hb : Binds X.K fd ps ds) (hd : Vals dvs ds) (hx : ∀ σ, PassesAt CX X σ (E σ)) (ha : PA X (e :: es) t)
    (hst : starEach (e :: es) X.env = (false, eval e X.env) :: starEach es X.env := by rfl) (hpl : (backTo pos (starEach es X.env)).any (·.1) = false := by rfl)
    (ht : eval (.Call (.Attribute o m apos) (e :: es) [] pos) X.env = (do
      let ov ← eval o X.env
      standAt apos.atName
      let (f, first) ← holding [ov] (getMethod ov m pl)
      callWith pos f first (backTo pos (starEach (e :: es) X.env)) (backToKw pos (keywordEach [] X.env))) := by rfl) :
    PE X (.Call (.Attribute o m apos) (e :: es) [] pos) (tMethW C m sp dvs E ta t) := by
  refine ⟨fun pins s σ H Q I h => ?_⟩
  refine PySem.W.methodCall_KW (pl := pl) (thn (he.run pins s σ H _ I h) fun u s1 ⟨x, H1, I1, rx, a, dx, fs, ex, ea, l, q⟩ => ?_) ht
  subst ex
  obtain rfl : u = Value.ref a := rx
  refine getmeth_ok I1 ea c hm l ?_
  refine PySem.W.callWith_K (first := [.ref a]) (h₀ := X.base) I.ok.mod.kin hm.kp (thn (ha.run pos pins s1 σ H1 _ I1 q) fun us s2 ⟨vs, H2, I2, r, q2⟩ => ⟨I2.kIn, ?_⟩) hst hpl
  exact run_fnSD (us := .ref a :: us) (vs := .ref a :: vs) F hr hb hd (hx σ) I2 (.cons rfl r) q2
end
end L2

namespace L2
open PySem PySem.Spec PyProof.Rows
/-- a def that raises nothing where nothing may be raised -/
theorem FnOk.calm {P : Program} {w : World} {K : PySem.W.Frag} {mg : Str → Option Value} {base : Heap} {k : Nat} {f : Addr} {fd : FuncData} {ps : List Str} {sp : Sp} (F : FnOk P w K mg base (L2.CX P w) k f fd ps sp) :
    FnOk P w K mg base CX0 k f fd ps (fun vs H Q _ => sp vs H Q fun _ _ _ => False) :=
  ⟨fun vs H Q _ h => F.len vs H Q _ h, fun A outer s H args us vs Q _ hr he hb hv hs => codeAny_mono (F.run A outer s H args us vs Q _ hr he hb hv hs) fun r s' hq => by
    cases r with
    | error e =>
      obtain ⟨_, _, _, _, _, _, _, _, _, _, _, _, h⟩ := hq
      exact h.elim
    | ok fl =>
      cases fl with
      | ret u => exact hq
      | next => exact hq
      | brk => exact hq
      | cont => exact hq⟩
/-- the way out of a def as its own caller's -/
theorem passX {X : Cx} {E : XK} (tk : Takes X (fun cls d _ H => E cls d H)) : Passes (L2.CX X.prog X.w) X E := passes_call tk fun _ _ _ _ h => h
end L2

namespace L2
open PySem
def gSeq (K : PySem.W.Frag) (n : Nat) (t : TGs) : TG := fun v σ H Q => gTup K n t v σ H Q ∨ gLst K n t v σ H Q
theorem pg_seq {X : Cx} {es : List Expr} {k : Nat} {t : TGs} {n : Nat} {pos : Pos} (hc : X.calm = true) (h : PGs X es t)
    (hn : (assignEach es X.env).length = n := by rfl) (hst : (assignEach es X.env).findIdx? (·.1) = none := by rfl) : PG X (.Tuple es k pos) (gSeq X.K n t) :=
  ⟨fun pins s σ H v u Q I r hw => hw.elim (fun w => (pg_tup hc h hn hst).run pins s σ H v u Q I r w) (fun w => (pg_lst hc h hn hst).run pins s σ H v u Q I r w)⟩
end L2
namespace L2
open PySem
theorem gSeq_of {K : PySem.W.Frag} {n : Nat} {t : TGs} {p : Addr} {xs : List V} {σ : L2.St} {H : Hp} {Q : L2.St → Hp → Prop} (h : H p = some (.tup xs) ∨ H p = some (.lst xs)) (hn : xs.length = n) (q : t xs σ H Q) : gSeq K n t (.ref p) σ H Q := by
  rcases h with h | h
  · exact .inl ⟨p, xs, rfl, SqT.of h, hn, q⟩
  · exact .inr ⟨p, xs, rfl, SqL.of h, hn, q⟩
end L2

namespace L2
open PySem PySem.Spec PyProof.Rows L2H
/-! ### a def that is handed the exception of the except suite it is called from: p, its place and its object, is known -/
structure FnE (P : Program) (w : World) (K : PySem.W.Frag) (mg : Str → Option Value) (base : Heap) (CX : CXT) (k : Nat) (f : Addr) (fd : FuncData) (ps : List Str) (sp : Sp) (p : Addr × Obj) : Prop where
  len : ∀ vs H Q E, sp vs H Q E → vs.length = ps.length
  run : ∀ (A : Around) (outer : List Env) (s : Shared) (H : Hp) (args : Args) (us : List Value) (vs : List V) (Q : VK) (E : XK), RoomH k A → PinOk outer H s p → Env0 P w K mg base A outer s H → BindsTo s fd args (ps.zip us) → Vals vs us → sp vs H Q E →
    codeAny (model P w) A (.call (.ref f) args) (CR CX outer P w H s Q E) s
section
variable {P : Program} {w : World} {K : PySem.W.Frag} {mg : Str → Option Value} {base : Heap} {k : Nat} {f : Addr} {fd : FuncData} {x qual : Str} {st : Stmt} {N ps : List Str} {sp : Sp} {p : Addr × Obj}
theorem Fun.okE (F : Fun K x qual st f fd) (S : FnScope N ps (defScope st)) (len : ∀ vs H Q E, sp vs H Q E → vs.length = ps.length)
    (body : ∀ (cdv : Value) (A : Around) (outer : List Env) (s : Shared) (H : Hp) (vs : List V) (Q : VK) (E : XK), RoomH k (A.deeper (envOfC qual (defScope st) s.heap.objs.size f cdv)) → sp vs H Q E →
      ∃ t, PSs (cxH CX0 P w K mg base N qual (defScope st) f cdv A outer s H E p) (defBody st) t ∧ t { nx := fun _ H' => Q .non H', rt := Q } (start N vs) H) : FnE P w K mg base CX0 (k + 1) f fd ps sp p := by
  obtain ⟨oc, od, kV, doc, pm, an, cdv, ct, osl, rfl, lk, hcd⟩ := F.ex
  refine ⟨len, fun A outer s H args us vs Q E hr hpin e0 hb r hsp => ?_⟩
  have inK : K.In s.heap := e0.mod.kin.keeps fun b o e => (e0.bs b o e).1
  have lim : s.heap.NoLimit := e0.mod.nolimit.keeps fun b o e => (e0.bs b o e).1
  have kinds : ∀ y ∈ ps.zip us, (defScope st).names.lookup y.1 = some .local ∨ ((defScope st).names.lookup y.1 = some .cell ∧ ((cellsFrom (s.heap.objs.size + 1) (defScope st).names []).lookup y.1).isSome = true) := fun ⟨n, v⟩ hy =>
    (S.par n (List.of_mem_zip hy).1).elim .inl fun q => .inr ⟨q, PySem.W.cellsFrom_some _ _ _ (.inl q)⟩
  refine codeAny_call_function hr.depth (inK _ _ lk) rfl S.co S.gen rfl (PySem.W.codeRec_of inK hcd) (hb _ _ _ _ (wpAny_newFunctionEnv_cells S.kind kinds fun env he s1 y => ?_))
  subst he
  obtain ⟨t, ht, hq⟩ := body cdv A outer s H vs Q E (hr.deeper _) hsp
  refine ⟨lim.keeps y.toInCall.keep, codeAny_func (wpAny_mono (ht.run [] s1 (start N vs) H _ (inv_startH S hpin e0 (len _ _ _ _ hsp) r y) hq) (fun fl s' hs => ?_) fun e s' hs => hs)⟩
  match fl, hs with
  | .ret u, ⟨v, σ', H', J, rv, q⟩ => exact ⟨v, H', J.os, J.bare, J.base, J.hok, rv, q⟩
  | .next, ⟨σ', H', J, q⟩ => exact ⟨V.non, H', J.os, J.bare, J.base, J.hok, rfl, q⟩
  | .brk, ⟨_, _, _, q⟩ => exact False.elim q
  | .cont, ⟨_, _, _, q⟩ => exact False.elim q
end
section
variable {X : Cx} {CX : CXT} {k : Nat} {f : Addr} {fd : FuncData} {ps : List Str} {sp : Sp} {E : XK} {p : Addr × Obj} {x : Str} {q pos : Pos} {e : Expr} {es : List Expr} {t : TA}
theorem pe_callE (F : FnE X.prog X.w X.K X.mg X.base CX k f fd ps sp p) (hr : RoomH k X.A) (hp : p ∈ X.pn) (hg : Gl X x) (hm : X.mg x = some (.ref f)) (hk : PySem.W.keepIn X.K (.ref f) = true) (hb : Binds X.K fd ps []) (hx : Passes CX X E)
    (ha : PA X (e :: es) t) (hdb : (x == ("__debug__" : Str)) = false := by decide) (he : starEach (e :: es) X.env = (false, eval e X.env) :: starEach es X.env := by rfl) (hpl : (backTo pos (starEach es X.env)).any (·.1) = false := by rfl) :
    PE X (.Call (.Name x q) (e :: es) [] pos) (tCall sp [] E t) := by
  refine ⟨fun pins s σ H Q I h => ?_⟩
  refine wpAny_Call_Name_kw (ld_glob I hg hm ?_ hdb)
  refine PySem.W.callWith_K (h₀ := X.base) I.ok.mod.kin hk (thn (ha.run pos pins s σ H _ I h) fun us s1 ⟨vs, H1, I1, r, q⟩ => ⟨I1.kIn, ?_⟩) he hpl
  have q : sp vs H1 Q E := by simpa using q
  have hl : us.length = ps.length := by rw [← r.length]; exact F.len _ _ _ _ q
  have b := hb s1 us I1.kIn (by rw [List.append_nil]; exact hl)
  rw [List.append_nil] at b
  have P1 := I1.pin p (List.mem_append_left _ hp)
  have hpin : PinOk X.stack H1 s1 p := ⟨P1.1, P1.2.1, fun hm => (List.mem_cons.mp (I1.stkSub p.1 hm)).elim P1.2.2.1 P1.2.2.2.1, P1.2.2.2.2⟩
  refine wpAny_call (codeAny_mono (F.run X.A X.stack s1 H1 ⟨us, []⟩ us vs Q E hr hpin I1.env0 b r q) fun r s' hq => ?_)
  match r, hq with
  | .error e, hq => exact hx pins σ H1 s1 e s' I1 hq
  | .ok (.ret u), hq => exact I1.after hq
/-- isinstance(e, c), e the pinned exception -/
theorem call_isP {a : Addr} {oe : Obj} {cls : Value} {d : Option Addr} (hp : (a, oe) ∈ X.pn) (hz : Zc cls d oe) (hf : ∃ vs, oe.data = .fields vs) : CallR X (.builtin "isinstance") (rIsX X.K a cls d) := by
  intro pins s σ H xs us Q I r h
  obtain ⟨D, dd, fs, c, cv, b, rfl, rfl, hdd, C, rfl, hcv, e, q⟩ := h
  cases r with
  | cons rx rr =>
    cases rr with
    | cons rt rr =>
      cases rr
      cases rx
      have ec := hcv.eq rt
      subst ec
      obtain ⟨hget, _⟩ := I.pin (a, oe) (List.mem_append_left _ hp)
      obtain ⟨vs, hv⟩ := hf
      have hx : ObjOk X.prog X.w H s.heap dd (.xd fs) := I.hok dd _ hdd
      obtain ⟨mA, hns, hr⟩ := hx
      obtain ⟨od, ho, hl⟩ := lookIn_ns hns
      have J : PySem.W.InstAt s.heap a oe D (some od) := ⟨hget, hz.1, by unfold PySem.W.notCls; rw [hv] <;> rfl, by rw [hz.2]; exact ho⟩
      obtain ⟨cd, hc, _⟩ := PySem.W.any_some C.hd
      exact PySem.W.kia_one (PySem.W.kitx_exc (by rw [hc]; rfl) C.ga C.gg C.hs C.ha C.hn C.ht C.hm) I.kIn J e (fun z => nomatch z) fun tk => ⟨.bl b, H, I.kept (t' := tk) fun _ _ z => z, rfl, q⟩
/-- e.f, e the pinned exception -/
theorem pe_xfP {a : Addr} {oe : Obj} {cls : Value} {d : Option Addr} {ex : Expr} {te : TE} {n : Str} {apos : Pos} (hp : (a, oe) ∈ X.pn) (hz : Zc cls d oe) (hf : ∃ vs, oe.data = .fields vs) (he : PE X ex te) (hb : attributeBase ex n X.env (eval ex X.env) = eval ex X.env := by rfl) :
    PE X (.Attribute ex n apos) (tXfX X.K a cls d n te) := by
  refine ⟨fun pins s σ H Q I h => ?_⟩
  refine attr_of hb (thn (he.run pins s σ H _ I h) fun u s1 hh => ?_)
  obtain ⟨x, H1, I1, rx, ex, C, dd, fs, v, ec, T, hno, ed, ea, l, q⟩ := hh
  subst ex
  obtain rfl : u = Value.ref a := rx
  subst ec
  subst ed
  obtain ⟨ha, _⟩ := I1.pin (a, oe) (List.mem_append_left _ hp)
  obtain ⟨vs, hd⟩ := hf
  have hx : ObjOk X.prog X.w H1 s1.heap dd (.xd fs) := I1.hok dd _ ea
  obtain ⟨mA, hns, hr⟩ := hx
  obtain ⟨od, ho, hl⟩ := lookIn_ns hns
  obtain ⟨u, hu, ru⟩ := RelO.some_of (v := v) (o := mA n) (by rw [← l]; exact hr n)
  have J : PySem.W.InstAt s1.heap a oe C (some od) := ⟨ha, hz.1, by unfold PySem.W.notCls; rw [hd] <;> rfl, by rw [hz.2]; exact ho⟩
  exact HandSPX.exc_get I1.kIn J T.ga T.gg T.hs (PySem.W.findObj_own T.hd hno rfl (by rw [hl, hu])) (handed_of ru) ⟨v, H1, I1.tok _, ru, q⟩
end
end L2
namespace L2
/-- a built-in's method, the fragment named (for suites and a try's body, whose context names what the reading may not) -/
theorem pe_bmK {X : Cx} {K : PySem.W.Frag} {ex : PySem.Expr} {T : String} {r : V → List V → Hp → VK → Prop} {to : TE} {t : TA} (hK : X.K = K) (h : PE X ex (tBM X.K T r to t)) : PE X ex (tBM K T r to t) := hK ▸ h
end L2
namespace L2
open PySem
theorem room_suite {k j : Nat} {A A' : Around} (hr : Room k A) (h : j ≤ k) (e1 : A'.depth = A.depth) (e2 : A'.units = A.units) : L2H.RoomH j A' := ⟨by have := hr.dp; rw [e1]; omega, by have := hr.un; rw [e2]; omega⟩
end L2

namespace L2
open PySem PySem.Spec PyProof.Rows
/-! ### own objects where a built-in asks them: o[k], x in o, len(o), str(o), for x in o, C.m(..) of a staticmethod -/
section
variable {X : Cx} {CX : CXT} {k : Nat} {f C a dx : Addr} {fs : List (Str × V)} {fd : FuncData} {ps : List Str} {sp : Sp} {E : XK} {pins : List (Addr × Obj)} {σ : St} {H : Hp} {s : Shared} {Q : VK} {us : List Value} {vs : List V}
/-- a def's call from within a built-in -/
theorem run_sub {A1 : Around} (hf : A1.frames = some X.stack) (F : FnOk X.prog X.w X.K X.mg X.base CX k f fd ps sp) (hr : Room k A1) (hb : Binds X.K fd ps []) (hx : Passes CX X E) (I : Inv X pins σ H s) (r : Vals vs us) (h : sp vs H Q E) :
    wpAny (model X.prog X.w) A1 (call (.ref f) us) (EP X pins σ Q) X.xe s := by
  have hl : (us ++ []).length = ps.length := by rw [List.append_nil, ← r.length]; exact F.len _ _ _ _ h
  have e := I.env0
  have bt := hb s us I.kIn hl
  rw [List.append_nil] at bt
  refine wpAny_call (codeAny_mono (F.run A1 X.stack s H ⟨us, []⟩ us vs Q E hr ⟨hf, e.mod, e.bs, e.bsz, e.funs, e.frf, e.hok, e.bare⟩ bt r h) fun r s' hq => ?_)
  match r, hq with
  | .error e, hq => exact hx pins σ H s e s' I hq
  | .ok (.ret u), hq => exact I.after hq
theorem stack_of (I : Inv X pins σ H s) : X.A.frames = some X.stack := I.env0.frames
theorem inst_of (I : Inv X pins σ H s) (h : H a = some (.ins C dx fs)) : ∃ ox od, PySem.W.InstAt s.heap a ox C (some od) := by
  obtain ⟨mA, J, _⟩ := ins_get I.hok h
  obtain ⟨od, J, _⟩ := J.look
  exact ⟨_, od, J⟩
/-- o[k] by the class's own def -/
def rGetI (C : Addr) (sp : Sp) (E : XK) : R2 := fun x y H Q => ∃ a dx fs, x = .ref a ∧ H a = some (.ins C dx fs) ∧ sp [x, y] H Q E
theorem pe_getI {ea eb : Expr} {ta tb : TE} {pos : Pos} (m : Meth X.K C "__getitem__" f) (hfi : PySem.W.fnIn X.K f = true) (F : FnOk X.prog X.w X.K X.mg X.base CX k f fd ps sp) (hr : Room (k + 1) X.A) (hb : Binds X.K fd ps []) (hx : Passes CX X E)
    (ha : PE X ea ta) (hbe : PE X eb tb) (hsl : ∀ (x : Addr) (i : Value), subscripted eb true (.ref x) i = runValue (.builtin "lifetime.subscript" ⟨[.ref x, i], []⟩) := by intro _ _; with_unfolding_all rfl) : PE X (.Subscript ea eb pos) (tOp (rGetI C sp E) ta tb) := by
  refine ⟨fun pins s σ H Q I h => ?_⟩
  refine Subscript_ (binT ha hbe I h fun v u s2 x y H2 I2 rx ry q => ?_)
  obtain ⟨a, dx, fs, rfl, ho, q⟩ := q
  cases rx
  obtain ⟨ox, od, J⟩ := inst_of I2 ho
  obtain ⟨mf, hF⟩ := I2.fr
  exact PySem.W.sub_K hF I2.ok.mod.kin J m.at_ hfi m.fn (run_sub (A1 := X.A.in1) (us := [.ref a, u]) (vs := [.ref a, y]) (stack_of I2) F hr.in1 hb hx I2 (.cons rfl (.cons ry .nil)) q) (hsl a u)
/-- x in o, x not in o -/
def rInI (C : Addr) (sp : Sp) (E : XK) (neg : Bool) : R2 := fun x y H Q => ∃ a dx fs, y = .ref a ∧ H a = some (.ins C dx fs) ∧ sp [y, x] H (fun v H' => ∃ b : Bool, v = .bl b ∧ Q (.bl (if neg then !b else b)) H') E
theorem truth_bl {A : Around} {E' : Value → Shared → Prop} {b : Bool} {s : Shared} {Qb : Bool → Shared → Prop} (h : Qb b s) : wpAny (model X.prog X.w) A (truthy (.bool b)) Qb E' s := by
  unfold truthy
  exact wpAny_pure h
theorem op_inI (m : Meth X.K C "__contains__" f) (F : FnOk X.prog X.w X.K X.mg X.base CX k f fd ps sp) (hr : Room k X.A) (hb : Binds X.K fd ps []) (hx : Passes CX X E) : OpR X (compareOp .In) (rInI C sp E false) := by
  intro pins s σ H x y v u Q I rx ry h
  obtain ⟨a, dx, fs, rfl, ho, q⟩ := h
  cases ry
  obtain ⟨ox, od, J⟩ := inst_of I ho
  obtain ⟨mf, hF⟩ := I.fr
  refine PySem.W.in_K hF I.ok.mod.kin J m.at_ m.fn (thn (run_sub (us := [.ref a, v]) (vs := [.ref a, x]) (stack_of I) F hr hb hx I (.cons rfl (.cons rx .nil)) q) fun r s' z => ?_)
  obtain ⟨z1, H1, I1, r1, b, rfl, q1⟩ := z
  cases r1
  exact truth_bl ⟨.bl b, H1, I1, rfl, q1⟩
theorem op_ninI (m : Meth X.K C "__contains__" f) (F : FnOk X.prog X.w X.K X.mg X.base CX k f fd ps sp) (hr : Room k X.A) (hb : Binds X.K fd ps []) (hx : Passes CX X E) : OpR X (compareOp .NotIn) (rInI C sp E true) := by
  intro pins s σ H x y v u Q I rx ry h
  obtain ⟨a, dx, fs, rfl, ho, q⟩ := h
  cases ry
  obtain ⟨ox, od, J⟩ := inst_of I ho
  obtain ⟨mf, hF⟩ := I.fr
  refine PySem.W.notIn_K hF I.ok.mod.kin J m.at_ m.fn (thn (run_sub (us := [.ref a, v]) (vs := [.ref a, x]) (stack_of I) F hr hb hx I (.cons rfl (.cons rx .nil)) q) fun r s' z => ?_)
  obtain ⟨z1, H1, I1, r1, b, rfl, q1⟩ := z
  cases r1
  exact truth_bl ⟨.bl (!b), H1, I1, rfl, q1⟩
/-- len(o) -/
def rLenI (C : Addr) (sp : Sp) (E : XK) : List V → Hp → VK → Prop := fun xs H Q => ∃ a dx fs, xs = [.ref a] ∧ H a = some (.ins C dx fs) ∧ sp [.ref a] H (fun v H' => ∃ n : Int, v = .int n ∧ 0 ≤ n ∧ n < 2 ^ 63 ∧ Q (.int n) H') E
theorem call_lenI (m : Meth X.K C "__len__" f) (F : FnOk X.prog X.w X.K X.mg X.base CX k f fd ps sp) (hr : Room (k + 1) X.A) (hb : Binds X.K fd ps []) (hx : Passes CX X E) : CallR X (.builtin "len") (rLenI C sp E) := by
  intro pins s σ H xs us Q I r h
  obtain ⟨a, dx, fs, rfl, ho, q⟩ := h
  obtain ⟨u, rfl, ru⟩ := vals1 r
  cases ru
  obtain ⟨ox, od, J⟩ := inst_of I ho
  obtain ⟨mf, hF⟩ := I.fr
  refine PySem.W.len_K hF I.ok.mod.kin J m.at_ m.fn (thn (run_sub (A1 := X.A.in1) (us := [.ref a]) (vs := [.ref a]) (stack_of I) F hr.in1 hb hx I (.cons rfl .nil) q) fun r s' z => ?_)
  obtain ⟨z1, H1, I1, r1, n, rfl, h0, h1, q1⟩ := z
  obtain ⟨t, rfl⟩ := r1
  exact ⟨⟨h0, h1⟩, .int n, H1, I1.tok _, ⟨_, rfl⟩, q1⟩
/-- str(o) -/
def rStrI (C : Addr) (sp : Sp) (E : XK) : List V → Hp → VK → Prop := fun xs H Q => ∃ a dx fs, xs = [.ref a] ∧ H a = some (.ins C dx fs) ∧ sp [.ref a] H (fun v H' => ∃ z : Str, v = .str z ∧ Q (.str z) H') E
theorem call_strI (m : Meth X.K C "__str__" f) (F : FnOk X.prog X.w X.K X.mg X.base CX k f fd ps sp) (hr : Room (k + 2) X.A) (hb : Binds X.K fd ps []) (hx : Passes CX X E) : CallR X (.type "str") (rStrI C sp E) := by
  intro pins s σ H xs us Q I r h
  obtain ⟨a, dx, fs, rfl, ho, q⟩ := h
  obtain ⟨u, rfl, ru⟩ := vals1 r
  cases ru
  obtain ⟨ox, od, J⟩ := inst_of I ho
  have hr2 : Room k X.A.in1.in1 := hr.in1.in1
  refine PySem.W.kso_call hr2.units0 I.kIn J m.at_ m.fn (thn (run_sub (A1 := X.A.in1.in1) (us := [.ref a]) (vs := [.ref a]) (stack_of I) F hr2 hb hx I (.cons rfl .nil) q) fun r s' z => ?_)
  obtain ⟨z1, H1, I1, r1, y, rfl, q1⟩ := z
  obtain ⟨t, rfl⟩ := r1
  exact ⟨.str y, H1, I1, ⟨_, rfl⟩, q1⟩
end
/-! ### a staticmethod through its class -/
structure SMet (K : PySem.W.Frag) (C : Addr) (mc : Value) (m : Str) (p g : Addr) : Prop where
  at_ : PySem.W.findCls K (.ref C) mc m = some (.get (.builtin "staticmethod.__get__") (.ref p) .none (.ref C))
  rc : ∃ rest, PySem.W.recIn K p "staticmethod" = some (.ref g :: rest)
  kp : PySem.W.keepIn K (.ref g) = true
def tSMeth (C : Addr) (sp : Sp) (E : XK) (ta : TE) (t : TA) : TE := fun σ H Q => ta σ H fun x H1 => x = .ref C ∧ t σ H1 fun vs H2 => sp vs H2 Q E
section
variable {X : Cx} {CX : CXT} {k : Nat} {C p g : Addr} {mc : Value} {fd : FuncData} {ps : List Str} {sp : Sp} {E : XK} {o e : Expr} {es : List Expr} {m : Str} {pos apos : Pos} {ta : TE} {t : TA} {pl : Sem Bool}
theorem getsm_ok {pins : List (Addr × Obj)} {σ : St} {H : Hp} {s : Shared} {A : Around} {E' : Value → Shared → Prop} {Q : Value × List Value → Shared → Prop} (I : Inv X pins σ H s) (r : ClX.CRead X.K C mc) (c : SMet X.K C mc m p g)
    (h : ∀ s', Inv X pins σ H s' → Q (.ref g, []) s') : wpAny (model X.prog X.w) A (getMethod (.ref C) m pl) Q E' s := by
  obtain ⟨rest, hp⟩ := c.rc
  refine PySem.W.method_cls I.kIn r.ga (PySem.W.cls_bind I.kIn r.rd c.at_ (wpAny_call ?_))
  exact PySem.W.sm_get (s := { s with toks := s.toks + 1 }) I.kIn hp (PySem.W.handed_on rfl (h _ (I.tok _)))
theorem pe_smeth (he : PE X o ta) (r : ClX.CRead X.K C mc) (c : SMet X.K C mc m p g) (F : FnOk X.prog X.w X.K X.mg X.base CX k g fd ps sp) (hr : Room k X.A) (hb : Binds X.K fd ps []) (hx : Passes CX X E) (ha : PA X (e :: es) t)
    (hst : starEach (e :: es) X.env = (false, eval e X.env) :: starEach es X.env := by rfl) (hpl : (backTo pos (starEach es X.env)).any (·.1) = false := by rfl)
    (ht : eval (.Call (.Attribute o m apos) (e :: es) [] pos) X.env = (do
      let ov ← eval o X.env
      standAt apos.atName
      let (f, first) ← holding [ov] (getMethod ov m pl)
      callWith pos f first (backTo pos (starEach (e :: es) X.env)) (backToKw pos (keywordEach [] X.env))) := by rfl) :
    PE X (.Call (.Attribute o m apos) (e :: es) [] pos) (tSMeth C sp E ta t) := by
  refine ⟨fun pins s σ H Q I h => PySem.W.methodCall_KW (pl := pl) (thn (he.run pins s σ H _ I h) fun u s1 ⟨x, H1, I1, rx, ex, q⟩ => ?_) ht⟩
  subst ex
  obtain rfl : u = Value.ref C := rx
  refine getsm_ok I1 r c fun s2 I2 => ?_
  refine PySem.W.callWith_K (first := []) (h₀ := X.base) I.ok.mod.kin c.kp (thn (ha.run pos pins s2 σ H1 _ I2 q) fun us s3 ⟨vs, H2, I3, rv, q2⟩ => ⟨I3.kIn, ?_⟩) hst hpl
  exact run_sub (us := us) (vs := vs) (stack_of I3) F hr hb hx I3 rv q2
/-- the same in a try's body: the way out sees the slots -/
def tSMethW (C : Addr) (sp : Sp) (E : St → XK) (ta : TE) (t : TA) : TE := fun σ H Q => tSMeth C sp (E σ) ta t σ H Q
theorem pe_smethW {E : St → XK} (he : PE X o ta) (r : ClX.CRead X.K C mc) (c : SMet X.K C mc m p g) (F : FnOk X.prog X.w X.K X.mg X.base CX k g fd ps sp) (hr : Room k X.A) (hb : Binds X.K fd ps []) (hx : ∀ σ, PassesAt CX X σ (E σ)) (ha : PA X (e :: es) t)
    (hst : starEach (e :: es) X.env = (false, eval e X.env) :: starEach es X.env := by rfl) (hpl : (backTo pos (starEach es X.env)).any (·.1) = false := by rfl)
    (ht : eval (.Call (.Attribute o m apos) (e :: es) [] pos) X.env = (do
      let ov ← eval o X.env
      standAt apos.atName
      let (f, first) ← holding [ov] (getMethod ov m pl)
      callWith pos f first (backTo pos (starEach (e :: es) X.env)) (backToKw pos (keywordEach [] X.env))) := by rfl) :
    PE X (.Call (.Attribute o m apos) (e :: es) [] pos) (tSMethW C sp E ta t) := by
  refine ⟨fun pins s σ H Q I h => PySem.W.methodCall_KW (pl := pl) (thn (he.run pins s σ H _ I h) fun u s1 ⟨x, H1, I1, rx, ex, q⟩ => ?_) ht⟩
  subst ex
  obtain rfl : u = Value.ref C := rx
  refine getsm_ok I1 r c fun s2 I2 => ?_
  refine PySem.W.callWith_K (first := []) (h₀ := X.base) I.ok.mod.kin c.kp (thn (ha.run pos pins s2 σ H1 _ I2 q) fun us s3 ⟨vs, H2, I3, rv, q2⟩ => ⟨I3.kIn, ?_⟩) hst hpl
  exact run_fnSD (us := us) (vs := vs) F hr hb .nil (hx σ) I3 rv (by rw [List.append_nil]; exact q2)
end
end L2

namespace L2
open PySem PySem.Spec PyProof.Rows
/-! ### for x in o, o's __iter__ gives iter(o.f), f a list -/
section
variable {P : Program} {w : World} {K : PySem.W.Frag} {mg : Str → Option Value} {base : Heap} {x qual : Str} {st : Stmt} {f : Addr} {fd : FuncData} {N ps : List Str} {k : Nat}
/-- one call of a def, told from its state -/
theorem fn_here {A : Around} {outer : List Env} {s : Shared} {H : Hp} {us : List Value} {vs : List V} {Q : VK} {E : XK} (F : Fun K x qual st f fd) (S : FnScope N ps (defScope st)) (hb : Binds K fd ps []) (hr : Room (k + 1) A) (e0 : Env0 P w K mg base A outer s H)
    (r : Vals vs us) (hl : vs.length = ps.length)
    (body : ∀ cdv, Room k (A.deeper (envOfC qual (defScope st) s.heap.objs.size f cdv)) → ∃ t, PSs (cxOf CX0 P w K mg base N qual (defScope st) f cdv A outer s H E).nox (defBody st) t ∧ t { nx := fun _ H' => Q .non H', rt := Q } (start N vs) H) :
    codeAny (model P w) A (.call (.ref f) ⟨us, []⟩) (CR CX0 outer P w H s Q E) s := by
  obtain ⟨oc, od, kV, doc, pm, an, cdv, ct, osl, rfl, lk, hcd⟩ := F.ex
  have KX : K.In s.heap := PySem.W.Frag.In.keeps e0.mod.kin (fun b o q => (e0.bs b o q).1)
  have NL : s.heap.NoLimit := Heap.NoLimit.keeps e0.mod.nolimit (fun b o q => (e0.bs b o q).1)
  have lu : (us ++ []).length = ps.length := by rw [List.append_nil, ← r.length, hl]
  have bt := hb s us KX lu
  rw [List.append_nil] at bt
  obtain ⟨t, ht, hq⟩ := body cdv (hr.deeper _)
  refine codeAny_call_function hr.depth (KX _ _ lk) rfl S.co S.gen rfl (PySem.W.codeRec_of KX hcd) (bt _ _ _ _ (wpAny_newFunctionEnv_cells S.kind ?_ ?_))
  · intro y hy
    have m := (List.of_mem_zip (a := y.1) (b := y.2) hy).1
    exact (S.par y.1 m).elim .inl fun z => .inr ⟨z, PySem.W.cellsFrom_some _ _ _ (.inl z)⟩
  · intro env he s1 ic
    subst he
    have I : Inv (cxOf CX0 P w K mg base N qual (defScope st) f cdv A outer s H E) [] (start N vs) H s1 := inv_start S hr.hd e0 hl r ic
    refine ⟨NL.keeps ic.toInCall.keep, codeAny_func (wpAny_mono (ht.nox.run [] s1 (start N vs) H _ I hq) (fun fl s' z => ?_) fun _ _ z => z)⟩
    match fl, z with
    | .ret u, ⟨v, _, H', J, rv, q⟩ => exact ⟨v, H', J.os, J.bare, J.base, J.hok, rv, q⟩
    | .next, ⟨_, H', J, q⟩ => exact ⟨V.non, H', J.os, J.bare, J.base, J.hok, rfl, q⟩
    | .brk, ⟨_, _, _, q⟩ => exact q.elim
    | .cont, ⟨_, _, _, q⟩ => exact q.elim
/-- what such an __iter__ promises: a new iterator of the list, younger than the call -/
def IterOk (P : Program) (w : World) (K : PySem.W.Frag) (mg : Str → Option Value) (base : Heap) (k : Nat) (g C : Addr) (fl : Str) : Prop :=
  ∀ (A : Around) (outer : List Env) (s : Shared) (H : Hp) (a dx l : Addr) (fs : List (Str × V)) (xs : List V) (Q : VK) (E : XK), Room k A → Env0 P w K mg base A outer s H → H a = some (.ins C dx fs) → fs.lookup fl = some (.ref l) → SqL K H l xs →
    (∀ it, H it = none → s.heap.objs.size ≤ it → Q (.ref it) (upd H it (ItO l it 0))) → codeAny (model P w) A (.call (.ref g) ⟨[.ref a], []⟩) (CR CX0 outer P w H s Q E) s
end
def iOwn (K : PySem.W.Frag) (C : Addr) (f : Str) (tl : TE) : TI := fun σ H R => tl σ H fun x H1 => ∃ (a dx l : Addr) (fs : List (Str × V)) (xs : List V), x = .ref a ∧ H1 a = some (.ins C dx fs) ∧ fs.lookup f = some (.ref l) ∧ SqL K H1 l xs ∧ R (Itl K l) H1
section
variable {X : Cx} {tg o : Expr} {tl : TE} {k : Nat} {g C : Addr} {fl : Str}
theorem pi_own (m : Meth X.K C "__iter__" g) (F : IterOk X.prog X.w X.K X.mg X.base k g C fl) (hr : Room k X.A) (ho : PE X o tl) : PI X tg o (iOwn X.K C fl tl) := by
  refine ⟨fun pins s σ H R I h => thn (ho.run pins s σ H _ I h) fun v s1 ⟨x, H1, I1, r1, a, dx, l, fs, xs, ex, ha, hf, hq, q⟩ => ?_⟩
  subst ex
  cases r1
  obtain ⟨ox, od, J⟩ := inst_of I1 ha
  obtain ⟨mf, hF⟩ := I1.fr
  refine PySem.W.owit_iter hF I1.ok.mod.kin J m.at_ m.fn (wpAny_call (codeAny_mono (F X.A X.stack s1 H1 a dx l fs xs (fun v H2 => ∃ it, v = .ref it ∧ H1 it = none ∧ s1.heap.objs.size ≤ it ∧ H2 = upd H1 it (ItO l it 0)) E0 hr I1.env0 ha hf hq fun it n1 n2 => ⟨it, rfl, n1, n2, rfl⟩) fun r s' z => ?_))
  match r, z with
  | .error _, z => exact z.elim
  | .ok (.ret u), z =>
    obtain ⟨v2, H2, I2, r2, it, rfl, n1, n2, rfl⟩ := I1.after z
    cases r2
    have eo := itO_get I2 upd_same
    have hT : s'.TypeIs (.ref it) "list_iterator" := ⟨_, eo, rfl⟩
    have I3 := ItX.inv_drop I2 (a := it) (by rw [upd_same]; rfl)
    rw [ItX.dropH_upd n1] at I3
    refine wpAny_specialOf (name := Str.ofString "__next__") hT slot_listiter_next.lookup ?_
    refine ⟨it, [it], _, _, H1, rfl, I3, turn_list l it, ⟨_, eo, rfl, rfl⟩, fun b hb => ?_, q⟩
    obtain rfl : b = it := by simpa using hb
    exact I1.fpOk n2 n1
end
end L2

namespace L2
open PySem PySem.Spec PyProof.Rows
/-! ### defs with *rest, instances made by C(), C(*a), C(*a, *b) -/
/-- what a def with ps and *pv binds -/
def StarB (fd : FuncData) (ps : List Str) (pv : Str) : Prop := ∀ us rest : List Value, us.length = ps.length → bindArgs fd ⟨us ++ rest, []⟩ = (newTuple rest >>= fun t => pure (ps.zip us ++ [(pv, t)]))
/-- its promise: from that of its body, the rest as a new tuple -/
def spStar (n : Nat) (sp : Sp) : Sp := fun vs H Q E => ∃ ws rest, vs = ws ++ rest ∧ ws.length = n ∧ rest.length ≤ sizeLine ∧ ∀ p, H p = none → sp (ws ++ [V.ref p]) (upd H p (.tup rest)) Q E
section
variable {P : Program} {w : World} {K : PySem.W.Frag} {mg : Str → Option Value} {base : Heap} {x qual : Str} {st : Stmt} {f : Addr} {fd : FuncData} {N ps : List Str} {pv : Str} {k : Nat} {sp : Sp}
theorem Fun.starX (F : Fun K x qual st f fd) (S : FnScope N (ps ++ [pv]) (defScope st)) (hb : StarB fd ps pv)
    (body : ∀ (cdv : Value) (A : Around) (outer : List Env) (s : Shared) (H : Hp) (vs : List V) (Q : VK) (E : XK), Room k (A.deeper (envOfC qual (defScope st) s.heap.objs.size f cdv)) → sp vs H Q E →
      ∃ t, PSs (cxOf (L2.CX P w) P w K mg base N qual (defScope st) f cdv A outer s H E) (defBody st) t ∧ t { nx := fun _ H' => Q .non H', rt := Q } (start N vs) H) : FnR P w K mg base (L2.CX P w) (k + 1) f (spStar ps.length sp) := by
  obtain ⟨oc, od, kV, doc, pm, an, cdv, ct, osl, rfl, lk, hcd⟩ := F.ex
  exact StX.fn_star lk hcd S StX.cxUp hb fun A outer s H vs Q E hr h => body cdv A outer s H vs Q E hr h
theorem FnR.calm (F : FnR P w K mg base (L2.CX P w) k f sp) : FnR P w K mg base CX0 k f (fun vs H Q _ => sp vs H Q fun _ _ _ => False) := fun A outer s H us vs Q _ hr e0 r h =>
  codeAny_mono (F A outer s H us vs Q _ hr e0 r h) fun r s' hq => by
    match r, hq with
    | .error _, ⟨_, _, _, _, _, _, _, _, _, _, _, _, z⟩ => exact z.elim
    | .ok (.ret _), hq => exact hq
end
/-- two starred arguments -/
theorem evalArgs_two {M : Model} {A : Around} {E : Value → Shared → Prop} {s : Shared} {f : Value} {a b : Bool × Sem Value} {rest : List (Bool × Sem Value)} {Q : Args → Shared → Prop} (h : wpAny M A (spliced (a :: b :: rest)) (fun vs s' => Q ⟨vs, []⟩ s') E s) : wpAny M A (evalArgs f true (a :: b :: rest) []) Q E s := by
  obtain ⟨a1, a2⟩ := a
  unfold evalArgs
  cases a1
  · show wpAny M A (spliced ((false, a2) :: b :: rest) >>= _) Q E s
    exact wpAny_bind (wpAny_mono h (fun vs s' q => wpAny_holding (wpAny_bind (wpAny_pure (wpAny_bind (wpAny_pure (wpAny_pure q)))))) fun _ _ z => z)
  · show wpAny M A (spliced ((true, a2) :: b :: rest) >>= _) Q E s
    exact wpAny_bind (wpAny_mono h (fun vs s' q => wpAny_holding (wpAny_bind (wpAny_pure (wpAny_bind (wpAny_pure (wpAny_pure q)))))) fun _ _ z => z)
section
variable {X : Cx} {CX : CXT} {k : Nat} {f C : Addr} {sp : Sp} {E : XK} {x : Str} {e e1 e2 : Expr} {es : List Expr} {te : TE} {t : TA} {p q1 q2 pos : Pos}
theorem pe_makeR0 (M : Mk X.K C f) (F : FnR X.prog X.w X.K X.mg X.base CX k f sp) (hr : Room (k + 1) X.A) (hg : Gl X x) (hm : X.mg x = some (.ref C)) (hx : Passes CX X E) (hdb : (x == ("__debug__" : Str)) = false := by decide) :
    PE X (.Call (.Name x p) [] [] pos) (StX.tMakeR C sp E tNil) := by
  refine ⟨fun pins s σ H Q I h => wpAny_Call_Name_kw (ld_glob I hg hm ?_ hdb)⟩
  exact PySem.W.callWith_K0 I.kIn M.kp (StX.run_makeR (us := []) (vs := []) M F hr hx I .nil h)
/-- C(*e): the reading -/
def tMakeS (K : PySem.W.Frag) (C : Addr) (sp : Sp) (E : XK) (te : TE) : TE := fun σ H Q => te σ H fun y H1 => ∃ a xs, y = V.ref a ∧ (SqT K H1 a xs ∨ SqL K H1 a xs) ∧ ∀ x dx, H1 x = none → H1 dx = none → dx ≠ x → sp (V.ref x :: xs) (upd (upd H1 dx (.own x)) x (.ins C dx [])) (fun v H2 => v = .non ∧ Q (.ref x) H2) E
theorem pe_makeS1 (M : Mk X.K C f) (F : FnR X.prog X.w X.K X.mg X.base CX k f sp) (hr : Room (k + 1) X.A) (hg : Gl X x) (hm : X.mg x = some (.ref C)) (hx : Passes CX X E) (he : PE X e te) (hdb : (x == ("__debug__" : Str)) = false := by decide)
    (hst : starEach [.Starred e q1] X.env = [(true, eval e X.env)] := by rfl) : PE X (.Call (.Name x p) [.Starred e q1] [] pos) (tMakeS X.K C sp E te) := by
  refine ⟨fun pins s σ H Q I h => wpAny_Call_Name_kw (ld_glob I hg hm (PySem.W.callWith_S (h₀ := X.base) I.ok.mod.kin M.kp (thn (he.run pins s σ H _ I h) fun v s1 ⟨y, H1, I1, ry, a, xs, ey, hxs, q⟩ => ?_) hst) hdb)⟩
  subst ey
  cases ry
  exact StX.star_any I1 hxs fun us s2 I2 rv => ⟨I2.kIn, StX.run_makeR (us := us) (vs := xs) M F hr hx I2 rv q⟩
/-- C(*a, *b) -/
theorem pe_makeS2 (M : Mk X.K C f) (F : FnR X.prog X.w X.K X.mg X.base CX k f sp) (hr : Room (k + 1) X.A) (hg : Gl X x) (hm : X.mg x = some (.ref C)) (hx : Passes CX X E) (ha : PA X [.Starred e1 q1, .Starred e2 q2] t) (hdb : (x == ("__debug__" : Str)) = false := by decide)
    (hst : starEach [.Starred e1 q1, .Starred e2 q2] X.env = [(true, eval e1 X.env), (true, eval e2 X.env)] := by rfl) : PE X (.Call (.Name x p) [.Starred e1 q1, .Starred e2 q2] [] pos) (StX.tMakeR C sp E t) := by
  refine ⟨fun pins s σ H Q I h => wpAny_Call_Name_kw (ld_glob I hg hm ?_ hdb)⟩
  have z := thn (ha.run pos pins s σ H _ I h) (Q' := fun us s1 => X.K.In s1.heap ∧ wpAny (model X.prog X.w) X.A (call (.ref C) ([] ++ us)) (EP X pins σ Q) X.xe s1) fun us s1 ⟨vs, H1, I1, r, q⟩ => ⟨I1.kIn, StX.run_makeR (us := us) (vs := vs) M F hr hx I1 r q⟩
  show wpAny _ _ (callWith pos (.ref C) [] (backTo pos (starEach [.Starred e1 q1, .Starred e2 q2] X.env)) []) _ _ _
  rw [hst] at z ⊢
  exact PySem.W.ks_call rfl (PySem.W.keeps_K M.kp) (evalArgs_two z)
end
/-! ### o + y by the class's own def, y an instance of the class, a list or a tuple -/
def Opd (K : PySem.W.Frag) (C : Addr) (H : Hp) (y : V) : Prop := (∃ b dy gs, y = .ref b ∧ H b = some (.ins C dy gs)) ∨ ∃ b xs, y = .ref b ∧ (SqL K H b xs ∨ SqT K H b xs)
def rOpI (K : PySem.W.Frag) (C : Addr) (sp : Sp) (E : XK) : R2 := fun x y H Q => ∃ a dx fs, x = .ref a ∧ H a = some (.ins C dx fs) ∧ Opd K C H y ∧ sp [x, y] H Q E
/-- what the top must have: the two defs, and of lists and tuples -/
structure OpF (K : PySem.W.Frag) (C : Addr) (nm : String) (g : Addr) : Prop where
  first : PySem.W.selfFirst K C = true
  at_ : PySem.W.findIn K (.ref C) (PySem.dunder nm) = some (some (.ref g))
  fn : PySem.W.isFn K (.ref g) = true
  rev : ∃ rc, PySem.W.findIn K (.ref C) (PySem.dunderR nm) = some rc ∧ (rc = none ∨ ∃ h : Addr, rc = some (.ref h))
  lst : ∃ fo ro, PySem.W.findIn K (.type "list") (PySem.dunder nm) = some fo ∧ PySem.W.findIn K (.type "list") (PySem.dunderR nm) = some ro ∧ PySem.W.subIn K (.type "list") (.ref C) = some false
  tup : ∃ fo ro, PySem.W.findIn K (.type "tuple") (PySem.dunder nm) = some fo ∧ PySem.W.findIn K (.type "tuple") (PySem.dunderR nm) = some ro ∧ PySem.W.subIn K (.type "tuple") (.ref C) = some false
section
variable {prog : Program} {w : World} {A : Around} {E : Value → Shared → Prop} {s : Shared} {K : PySem.W.Frag} {x C L f : Addr} {h₀ : Heap} {m : Str → Option Value} {ox : Obj} {od : Option Obj} {T : String}
/-- the library's row for an operand of a built-in type, told of what a look at its type gives -/
theorem binL {op : Operator} {b : Value} {fo ro rc : Option Value} {Q : Value → Shared → Prop} (F : Fr h₀ L s.heap m) (X₀ : K.In h₀) (I : PySem.W.InstAt s.heap x ox C od) (hb : PySem.W.Looks (model prog w) s.heap (typeOf b) (.type T)) (hc : PySem.W.selfFirst K C = true)
    (hs : PySem.W.findIn K (.ref C) (PySem.dunder op.info.2) = some (some (.ref f))) (hf : PySem.W.isFn K (.ref f) = true) (hr : PySem.W.findIn K (.ref C) (dunderR op.info.2) = some rc) (hp : rc = none ∨ ∃ g : Addr, rc = some (.ref g))
    (h1 : PySem.W.findIn K (.type T) (PySem.dunder op.info.2) = some fo) (h2 : PySem.W.findIn K (.type T) (dunderR op.info.2) = some ro) (hsub : PySem.W.subIn K (.type T) (.ref C) = some false)
    (h : wpAny (model prog w) A (call (.ref f) [.ref x, b]) (PySem.W.CmpBack Q) E s) : wpAny (model prog w) A (binaryOp op (.ref x) b) Q E s := by
  have X := X₀.keeps F.keep
  obtain ⟨cd, rest, hcd, hm⟩ := PySem.W.ksp_first hc
  rcases hi : op.info with ⟨sym, nm'⟩
  rw [hi] at hs hr h1 h2; dsimp only at hs hr h1 h2
  have one := PySem.W.ksp_try X I hs hf h
  obtain ⟨hh, gg, dd, tt, os⟩ := s
  have La := I.type (M := model prog w)
  have Lc := PySem.W.fills_K (M := model prog w) X hcd hm hs
  have Ld := PySem.W.ksp_fillsT (M := model prog w) X h1 h2
  have Le : PySem.W.Looks (model prog w) hh (isSubtype (.type T) (.ref C)) false := PySem.W.looks_subIn X hsub
  have Lf := PySem.W.ksp_inPy (M := model prog w) X hs hr hp
  have Lg : PySem.W.Looks (model prog w) hh (numberSlotInPython (.type T) nm') false := PySem.W.Looks.of_pure rfl
  have Lh : PySem.W.Looks (model prog w) hh (typeLookup (.type T) (dunderR nm')) ro := PySem.W.looks_findIn X h2
  revert Ld
  generalize ((fo.isSome && !isSeqSlot fo) || (ro.isSome && !isSeqSlot ro)) = right
  intro Ld
  have hne : (Value.ref C == Value.type T) = false := Bool.eq_false_iff.mpr fun q => by cases beq_iff_eq.mp q
  simp only [binaryOp, hi]
  refine wpAny_holding (wpAny_bind ?_)
  unfold binaryOp1
  refine wpAny_bind (La.at (wpAny_bind (hb.at (wpAny_bind (Lc.at ?_)))))
  simp only [hne, Bool.false_eq_true, if_false]
  cases right <;> (ksp_lk; refine wpAny_mono one (fun r s' hr' => ?_) (fun _ _ e => e); obtain ⟨v, rfl, hq⟩ := hr'; ksp_lk; exact hq)
end
section
variable {X : Cx} {CX : CXT} {n : Nat} {C g : Addr} {fd : FuncData} {ps : List Str} {sp : Sp} {E : XK}
theorem op_binO {op : Operator} (T : OpF X.K C op.info.2 g) (F : FnOk X.prog X.w X.K X.mg X.base CX n g fd ps sp) (hr : Room n X.A) (hb : Binds X.K fd ps []) (hx : Passes CX X E) : OpR X (binaryOp op) (rOpI X.K C sp E) := by
  intro pins s σ H x y v u Q I rx ry h
  obtain ⟨a, dx, fs, rfl, ho, hy, q⟩ := h
  cases rx
  obtain ⟨ox, od, J⟩ := inst_of I ho
  obtain ⟨mf, hF⟩ := I.fr
  have go := thn (run_sub (us := [.ref a, u]) (vs := [.ref a, y]) (stack_of I) F hr hb hx I (.cons rfl (.cons ry .nil)) q) (Q' := PySem.W.CmpBack (EP X pins σ Q)) fun w s' ⟨z', H', I', rz, qz⟩ => SlX.cmpback rz ⟨z', H', I', rz, qz⟩
  rcases hy with ⟨b, dy, gs, rfl, hb'⟩ | ⟨b, xs, rfl, hq⟩
  · cases ry
    obtain ⟨oy, od', J'⟩ := inst_of I hb'
    exact PySem.W.binop_K (op := op) hF I.ok.mod.kin J J'.type T.first T.at_ T.fn go
  · cases ry
    obtain ⟨rc, r1, r2⟩ := T.rev
    rcases hq with hq | hq
    · obtain ⟨fo, ro, t1, t2, t3⟩ := T.lst
      obtain ⟨its, rv, pl, hz⟩ := I.list hq
      obtain ⟨o, ho, hc, _⟩ := pl.isList
      exact binL hF I.ok.mod.kin J (fun A Q E s k z => wpAny_typeOf_ref (k _ _ ho) (by rw [hc]; exact z)) T.first T.at_ T.fn r1 r2 t1 t2 t3 go
    · obtain ⟨fo, ro, t1, t2, t3⟩ := T.tup
      obtain ⟨its, rv, ⟨o, ho, hc, _⟩, hz⟩ := I.tuple hq
      exact binL hF I.ok.mod.kin J (fun A Q E s k z => wpAny_typeOf_ref (k _ _ ho) (by rw [hc]; exact z)) T.first T.at_ T.fn r1 r2 t1 t2 t3 go
end
end L2

namespace L2
open PySem PySem.Spec PyProof.Rows
/-! ### o[k] by the class's own def, in a try's body -/
section
variable {X : Cx} {CX : CXT} {k : Nat} {f C a dx : Addr} {fs : List (Str × V)} {fd : FuncData} {ps : List Str} {sp : Sp} {pins : List (Addr × Obj)} {σ : St} {H : Hp} {s : Shared} {Q : VK} {us : List Value} {vs : List V}
theorem run_subW {E : XK} {A1 : Around} (hf : A1.frames = some X.stack) (F : FnOk X.prog X.w X.K X.mg X.base CX k f fd ps sp) (hr : Room k A1) (hb : Binds X.K fd ps []) (hx : PassesAt CX X σ E) (I : Inv X pins σ H s) (r : Vals vs us) (h : sp vs H Q E) :
    wpAny (model X.prog X.w) A1 (call (.ref f) us) (EP X pins σ Q) X.xe s := by
  have hl : (us ++ []).length = ps.length := by rw [List.append_nil, ← r.length]; exact F.len _ _ _ _ h
  have e := I.env0
  have bt := hb s us I.kIn hl
  rw [List.append_nil] at bt
  refine wpAny_call (codeAny_mono (F.run A1 X.stack s H ⟨us, []⟩ us vs Q E hr ⟨hf, e.mod, e.bs, e.bsz, e.funs, e.frf, e.hok, e.bare⟩ bt r h) fun r s' hq => ?_)
  match r, hq with
  | .error e, hq => exact hx pins H s e s' I hq
  | .ok (.ret u), hq => exact I.after hq
def tGetIW (C : Addr) (sp : Sp) (E : St → XK) (ta tb : TE) : TE := fun σ H Q => tOp (rGetI C sp (E σ)) ta tb σ H Q
theorem pe_getIW {E : St → XK} {ea eb : Expr} {ta tb : TE} {pos : Pos} (m : Meth X.K C "__getitem__" f) (hfi : PySem.W.fnIn X.K f = true) (F : FnOk X.prog X.w X.K X.mg X.base CX k f fd ps sp) (hr : Room (k + 1) X.A) (hb : Binds X.K fd ps []) (hx : ∀ σ, PassesAt CX X σ (E σ))
    (ha : PE X ea ta) (hbe : PE X eb tb) (hsl : ∀ (x : Addr) (i : Value), subscripted eb true (.ref x) i = runValue (.builtin "lifetime.subscript" ⟨[.ref x, i], []⟩) := by intro _ _; with_unfolding_all rfl) : PE X (.Subscript ea eb pos) (tGetIW C sp E ta tb) := by
  refine ⟨fun pins s σ H Q I h => ?_⟩
  refine Subscript_ (binT ha hbe I h fun v u s2 x y H2 I2 rx ry q => ?_)
  obtain ⟨a, dx, fs, rfl, ho, q⟩ := q
  cases rx
  obtain ⟨ox, od, J⟩ := inst_of I2 ho
  obtain ⟨mf, hF⟩ := I2.fr
  exact PySem.W.sub_K hF I2.ok.mod.kin J m.at_ hfi m.fn (run_subW (A1 := X.A.in1) (us := [.ref a, u]) (vs := [.ref a, y]) (stack_of I2) F hr.in1 hb (hx σ) I2 (.cons rfl (.cons ry .nil)) q) (hsl a u)
end
end L2
namespace L2
open PySem PySem.Spec PyProof.Rows
/-! ### a try within a loop: its reading by a name -/
def tTryAs (K : PySem.W.Frag) (c : Value) (i : Nat) (tb : WX → TS) (ts : Addr → Value → Option Addr → TS) (Wout : WX) : TS := fun D σ H => tb (wAs K c i ts Wout D) D σ H
section
variable {X : Cx} {x n : Str} {c : Value} {i : Nat} {body suite : List Stmt} {b₀ : Stmt} {np pos pos' : Pos} {tb : WX → TS} {ts : Addr → Value → Option Addr → TS} {Wout : WX}
theorem ps_tryL (hs : X.stack = X.env :: X.outer) (hf : X.env.frame = some X.env.locals) (hN : X.N.Nodup) (hi : X.N[i]? = some n) (hln : X.env.kindOf n = some .local) (hc : Names X x c) (tk : Takes X Wout)
    (hb : ∀ (W : WX) (pn : List (Addr × Obj)) (xe : Value → Shared → Prop), Takes (X.tr pn xe) W → PassesOwn (model X.prog X.w) X.A X.env xe → PSs (X.tr pn xe) body (tb W))
    (hsu : ∀ (a : Addr) (oe : Obj) (cls : Value) (d : Option Addr) (pn : List (Addr × Obj)), Zc cls d oe → (∃ vs, oe.data = .fields vs) → PSs (X.suite a ((a, oe) :: pn)) (b₀ :: suite) (ts a cls d)) :
    PS X (.Try body [.ExceptHandler (some (.Name x np)) (some n) (b₀ :: suite) pos'] [] [] pos) (tTryAs X.K c i tb ts Wout) := ps_try_as hs hf hN hi hln hc tk hb hsu
end
end L2

namespace L2
open PySem PySem.Spec PyProof.Rows
section
variable {prog : Program} {w : World} {A : Around} {E : Value → Shared → Prop} {s : Shared} {K : PySem.W.Frag} {x C L f f0 : Addr} {h₀ : Heap} {m : Str → Option Value} {ox : Obj} {od : Option Obj} {T : String}
/-- a + o, a of a built-in type that fills no number slot: o's own reflected def -/
theorem binR {op : Operator} {a : Value} {fo ro : Option Value} {Q : Value → Shared → Prop} (F : Fr h₀ L s.heap m) (X₀ : K.In h₀) (I : PySem.W.InstAt s.heap x ox C od) (ha : PySem.W.Looks (model prog w) s.heap (typeOf a) (.type T)) (hc : PySem.W.selfFirst K C = true)
    (hs : PySem.W.findIn K (.ref C) (PySem.dunder op.info.2) = some (some (.ref f0))) (hr : PySem.W.findIn K (.ref C) (dunderR op.info.2) = some (some (.ref f))) (hf : PySem.W.isFn K (.ref f) = true)
    (h1 : PySem.W.findIn K (.type T) (PySem.dunder op.info.2) = some fo) (h2 : PySem.W.findIn K (.type T) (dunderR op.info.2) = some ro) (hl : ((fo.isSome && !isSeqSlot fo) || (ro.isSome && !isSeqSlot ro)) = false)
    (h : wpAny (model prog w) A (call (.ref f) [.ref x, a]) (PySem.W.CmpBack Q) E s) : wpAny (model prog w) A (binaryOp op a (.ref x)) Q E s := by
  have X := X₀.keeps F.keep
  obtain ⟨cd, rest, hcd, hm⟩ := PySem.W.ksp_first hc
  rcases hi : op.info with ⟨sym, nm'⟩
  rw [hi] at hs hr h1 h2; dsimp only at hs hr h1 h2
  have one := PySem.W.ksp_try X I hr hf h
  obtain ⟨hh, gg, dd, tt, os⟩ := s
  have La := I.type (M := model prog w)
  have Lc := PySem.W.fills_K (M := model prog w) X hcd hm hs
  have Ld := PySem.W.ksp_fillsT (M := model prog w) X h1 h2
  rw [hl] at Ld
  have hne : (Value.type T == Value.ref C) = false := Bool.eq_false_iff.mpr fun q => by cases beq_iff_eq.mp q
  simp only [binaryOp, hi]
  refine wpAny_holding (wpAny_bind ?_)
  unfold binaryOp1
  refine wpAny_bind (ha.at (wpAny_bind (La.at (wpAny_bind (Ld.at ?_)))))
  simp only [hne, Bool.false_eq_true, if_false]
  ksp_lk
  refine wpAny_mono one (fun r s' hr' => ?_) (fun _ _ e => e)
  obtain ⟨v, rfl, hq⟩ := hr'
  ksp_lk
  exact hq
end
/-- what list and tuple look like to + -/
structure SeqAdd (K : PySem.W.Frag) : Prop where
  la : PySem.W.findIn K (.type "list") "__add__" = some (some (.builtin "list.__add__"))
  lr : PySem.W.findIn K (.type "list") "__radd__" = some none
  ta : PySem.W.findIn K (.type "tuple") "__add__" = some (some (.builtin "tuple.__add__"))
  tr : PySem.W.findIn K (.type "tuple") "__radd__" = some none
def rOpR (K : PySem.W.Frag) (C : Addr) (sp : Sp) (E : XK) : R2 := fun x y H Q => ∃ b dy gs p xs, y = .ref b ∧ H b = some (.ins C dy gs) ∧ x = .ref p ∧ (SqL K H p xs ∨ SqT K H p xs) ∧ sp [y, x] H Q E
def ipOwn (C : Addr) (sp : Sp) (E : XK) : TIp := fun x y H Q => ∃ a dx fs, x = .ref a ∧ H a = some (.ins C dx fs) ∧ sp [x, y] H Q E
section
variable {X : Cx} {CX : CXT} {n : Nat} {C g g0 : Addr} {fd : FuncData} {ps : List Str} {sp : Sp} {E : XK}
theorem op_radd (S : SeqAdd X.K) (hc : PySem.W.selfFirst X.K C = true) (m0 : Meth X.K C "__add__" g0) (m : Meth X.K C "__radd__" g) (F : FnOk X.prog X.w X.K X.mg X.base CX n g fd ps sp) (hr : Room n X.A) (hb : Binds X.K fd ps []) (hx : Passes CX X E) : OpR X (binaryOp .Add) (rOpR X.K C sp E) := by
  intro pins s σ H x y v u Q I rx ry h
  obtain ⟨b, dy, gs, p, xs, rfl, ho, rfl, hq, q⟩ := h
  cases ry
  cases rx
  obtain ⟨ox, od, J⟩ := inst_of I ho
  obtain ⟨mf, hF⟩ := I.fr
  have go := thn (run_sub (us := [.ref b, .ref p]) (vs := [.ref b, .ref p]) (stack_of I) F hr hb hx I (.cons rfl (.cons rfl .nil)) q) (Q' := PySem.W.CmpBack (EP X pins σ Q)) fun w s' ⟨z', H', I', rz, qz⟩ => SlX.cmpback rz ⟨z', H', I', rz, qz⟩
  rcases hq with hq | hq
  · obtain ⟨its, rv, pl, hz⟩ := I.list hq
    obtain ⟨o, ho, hc', _⟩ := pl.isList
    exact binR (op := .Add) hF I.ok.mod.kin J (fun A Q E s k z => wpAny_typeOf_ref (k _ _ ho) (by rw [hc']; exact z)) hc m0.at_ m.at_ m.fn S.la S.lr (by decide +kernel) go
  · obtain ⟨its, rv, ⟨o, ho, hc', _⟩, hz⟩ := I.tuple hq
    exact binR (op := .Add) hF I.ok.mod.kin J (fun A Q E s k z => wpAny_typeOf_ref (k _ _ ho) (by rw [hc']; exact z)) hc m0.at_ m.at_ m.fn S.ta S.tr (by decide +kernel) go
theorem ip_own (hc : PySem.W.selfFirst X.K C = true) (m : Meth X.K C "__iadd__" g) (F : FnOk X.prog X.w X.K X.mg X.base CX n g fd ps sp) (hr : Room n X.A) (hb : Binds X.K fd ps []) (hx : Passes CX X E) : PIp X .Add (ipOwn C sp E) := by
  intro pins s σ H x y v u Q I rx ry h
  obtain ⟨a, dx, fs, rfl, ho, q⟩ := h
  cases rx
  obtain ⟨ox, od, J⟩ := inst_of I ho
  obtain ⟨mf, hF⟩ := I.fr
  have go := thn (run_sub (us := [.ref a, u]) (vs := [.ref a, y]) (stack_of I) F hr hb hx I (.cons rfl (.cons ry .nil)) q) (Q' := PySem.W.CmpBack (EP X pins σ Q)) fun w s' ⟨z', H', I', rz, qz⟩ => SlX.cmpback rz ⟨z', H', I', rz, qz⟩
  exact PySem.W.ksp_inplace (op := .Add) hF I.ok.mod.kin J hc m.at_ m.fn go
end
end L2

namespace PySem
namespace HandSPX
open PySem PySem.Spec
/-- it leaves the def, its flight whatever it is -/
theorem leaves_anyZ {M : Model} {A : Around} {E : Value → Shared → Prop} {s : Shared} {Z : Obj → Prop} {base : Heap} {env : Env} {outer : List Env} {L e : Addr} {fl : Value} {Q : Unit → Shared → Prop} (hZ : Steady Z)
    (hfr : A.frames = some (env :: outer)) (hf : env.frame = some L) (hkb : base.StaysIn s.heap) (hen : base.get? e = none) (hl : s.heap.FunFrames base (env :: outer)) (ht : TracedZ s.heap base e Z fl)
    (hQ : ∀ h', FlyingZ base outer e Z h' → s.heap.UpToSlots h' → Q () { s with heap := h' }) : wpAny M A (leaving env (.ref e)) Q E s := by
  by_cases hfl : fl = rawInt L
  · subst hfl
    exact leaves_heldZ hf ⟨hkb, hen, hl, ht⟩ hQ
  obtain ⟨oe, vs, T, oT, ts, he, hz, hd, h1, hnT, hTe, hT, hdT, h3⟩ := ht
  unfold leaving noteFrame
  simp only [hf]
  refine wpAny_bind (wpAny_bind (wpAny_field he hd h1 ?_))
  rw [if_pos (show (Value.ref T != Value.none) = true from by simp)]
  refine wpAny_bind (wpAny_field hT hdT h3 ?_)
  rw [if_neg (show ¬ ((fl == rawInt L) = true) from by simp [hfl])]
  refine wpAny_bind (wpAny_setField hT hdT (Array.getElem?_eq_some_iff.mp h3).1 ?_)
  have other : ∀ b, b ≠ T → (s.heap.update T (Obj.mapFields (·.setIfInBounds 3 Value.none))).get? b = s.heap.get? b := fun b hb => Heap.get?_update_other _ _ (Ne.symm hb)
  have noRecord : ∀ b o, s.heap.get? b = some o → (∀ vs, o.data ≠ .fields vs) → b ≠ T := fun b o hb hnf q => by
    rw [q, hT] at hb; injection hb with hb; subst hb; exact hnf ts hdT
  refine wpAny_newEntryZ hZ hfr (hl.of_keeps fun b o hb hnf => ⟨o, (other b (noRecord b o hb hnf)).trans hb, rfl⟩) hf ((other e (Ne.symm hTe)).trans he)
    (fun b o hbo => (other b fun q => by rw [q, hnT] at hbo; cases hbo).trans (hkb b o hbo)) hen hd (Array.getElem?_eq_some_iff.mp h1).1 hz fun h' hL => ?_
  obtain ⟨x1, ⟨_, _, x2⟩, x3, x4⟩ := hL
  exact hQ h' ⟨x1, hen, x2, x3⟩ fun b o hb hnf => x4 b o ((other b (noRecord b o hb hnf)).trans hb) hnf
end HandSPX
end PySem
namespace L2
open PySem PySem.Spec PyProof.Rows
theorem noteFrame_as {e1 e2 : Env} (h : e1.frame = e2.frame) (x : Value) : noteFrame x e1 = noteFrame x e2 := by
  unfold noteFrame PySem.frameOf
  rw [h]
section
variable {X : Cx} {pins : List (Addr × Obj)} {σ : St} {H : Hp} {sI s s' : Shared} {B : Heap} {E : XK}
theorem leaveAny (hs : X.stack = X.env :: X.outer) (hf : X.env.frame = some X.env.locals) (hex : X.ex = []) {E₁ : Value → Shared → Prop} {a : Addr} {cls : Value} {d : Option Addr} {fl : Value}
    (I : Inv X pins σ H sI) (nb : ∀ b o, sI.heap.get? b = some o → b ∉ frs X.stack → B.get? b = some o) (up : sI.heap.UpToSlots s'.heap) (hB : B.StaysIn s'.heap) (hn : B.get? a = none) (hl : s'.heap.FunFrames B X.stack) (ht : HandSPX.TracedZ s'.heap B a (Zc cls d) fl)
    (na : H a = none) (os : s'.os = sI.os) (ag : AllBare s'.gens) (hE : E cls d H) :
    wpAny (model X.prog X.w) X.A (leaving X.env (.ref a)) (fun _ s'' => CX X.prog X.w X.outer X.H_0 X.s_0 E (.ref a) s'') E₁ s' := by
  have hfr : X.A.frames = some (X.env :: X.outer) := by rw [I.ok.frames, hs]
  have nst : ∀ b o, X.s_0.heap.get? b = some o → b ∉ X.fs → b ∉ frs X.stack := fun b o e hb hm => by
    rcases List.mem_cons.mp (I.stkSub b hm) with z | z
    · have h1 := Heap.lt_size e
      have h2 := I.ok.above
      rw [z] at h1
      exact absurd (Nat.lt_of_lt_of_le h1 h2) (Nat.lt_irrefl _)
    · exact hb z
  have hex' : ∀ b, b ∉ X.ex := fun b hb => by rw [hex] at hb; cases hb
  have hokB := I.inGround nb
  rw [hs] at hl
  refine HandSPX.leaves_anyZ Zc.steady hfr hf hB hn hl ht fun h' fl up' => ?_
  refine ⟨a, B, H, cls, d, rfl, fl, hokB, ⟨fun b o e n hb => nb b o (I.base.keep b o e n hb (hex' b)) (nst b o e hb), fun b o e hb => ?_, fun b o e n => I.base.free b o e n (hex' b), fun b o e hb => ?_, I.base.tups, I.base.frzs, I.base.tbls⟩,
    na, os.trans I.os, ag, hE⟩
  · obtain ⟨_, o₀, e₀, hnf⟩ := I.ok.funs.mem hb
    rw [e] at e₀; cases e₀
    obtain ⟨sl, e1⟩ := I.base.slot b o e (I.ok.frf b hb) hb (hex' b)
    obtain ⟨sl2, e2⟩ := up b _ e1 hnf
    obtain ⟨sl3, e3⟩ := up' b _ e2 hnf
    exact ⟨sl3, e3⟩
  · obtain ⟨o', e1⟩ := I.base.there b o e (hex' b)
    exact ⟨o', nb b o' e1 (nst b o e hb)⟩
/-- a call's exception, its parts -/
theorem of_callF (I : Inv X pins σ H s) {u : Value} (c : CX X.prog X.w X.stack H s E u s') : ∃ (a : Addr) (B : Heap) (sI : Shared) (H' : Hp) (cls : Value) (d : Option Addr), u = .ref a ∧ Inv X pins σ H' sI ∧ (∀ b o, sI.heap.get? b = some o → b ∉ frs X.stack → B.get? b = some o) ∧ sI.heap.UpToSlots s'.heap ∧
    HandSPX.FlyingZ B X.stack a (Zc cls d) s'.heap ∧ H' a = none ∧ s'.os = sI.os ∧ AllBare s'.gens ∧ E cls d H' := by
  obtain ⟨a, B, H', cls, d, rfl, fl, hok, ub, na, os, ag, hE⟩ := c
  obtain ⟨G, g1, g2⟩ := restrict s'.heap fun b => (B.get? b).isSome || decide (b ∈ frs X.stack)
  have st : B.StaysIn s'.heap := fl.1
  have gB : ∀ b o, B.get? b = some o → G.get? b = some o := fun b o e => by
    rw [g1 b (by simp [e])]
    exact st b o e
  have gF : ∀ b, b ∈ frs X.stack → G.get? b = s'.heap.get? b := fun b hb => g1 b (by simp [hb])
  have og : ∀ b o, G.get? b = some o → s'.heap.get? b = some o ∧ ((B.get? b).isSome = true ∨ b ∈ frs X.stack) := fun b o e => by
    cases q : ((B.get? b).isSome || decide (b ∈ frs X.stack)) with
    | false => rw [g2 b q] at e; cases e
    | true =>
      rw [g1 b q] at e
      exact ⟨e, by simpa [Bool.or_eq_true] using q⟩
  refine ⟨a, B, { s with heap := G, gens := s'.gens, drawn := s'.drawn, toks := s'.toks }, H', cls, d, rfl, ?_, fun b o e hb => ?_, Heap.UpToSlots.of_keeps fun b o e => (og b o e).1, fl, na, os, ag, hE⟩
  · refine I.call (ch := []) ⟨fun b o e n hb _ => gB b o (ub.keep b o e n hb), fun b o e n hb _ => ?_, fun b o e n _ => ub.free b o e n, fun b o e _ => ?_, ub.tups, ub.frzs, ub.tbls⟩ (hok.kept gB) ag (fun _ z => nomatch z)
    · obtain ⟨sl, q⟩ := ub.slot b o e hb
      exact ⟨sl, by rw [gF b hb]; exact q⟩
    · by_cases hb : b ∈ frs X.stack
      · obtain ⟨sl, q⟩ := ub.slot b o e hb
        exact ⟨_, by rw [gF b hb]; exact q⟩
      · obtain ⟨o', q⟩ := ub.there b o e hb
        exact ⟨o', gB b o' q⟩
  · obtain ⟨e', h⟩ := og b o e
    rcases h with h | h
    · obtain ⟨o', q⟩ := Option.isSome_iff_exists.mp h
      have z := st b o' q
      rw [e'] at z; cases z
      exact q
    · exact absurd h hb
theorem funFrames_hide {B h h' : Heap} {C : Addr} (k : ∀ b, b ≠ C → h'.get? b = h.get? b) : ∀ {l : List Env}, h.FunFrames B l → C ∉ frs l → h'.FunFrames (PySem.W.hideAll B [C]) l
  | [], _, _ => trivial
  | env :: l, hh, hC => by
    obtain ⟨hk, ⟨L, o, hf, hn, ho, hd⟩, hr⟩ := hh
    have m : L ∈ frs (env :: l) := List.mem_filterMap.mpr ⟨env, List.mem_cons_self, hf⟩
    have nL : L ≠ C := fun e => hC (e ▸ m)
    refine ⟨hk, ⟨L, o, hf, ?_, (k L nL).trans ho, hd⟩, funFrames_hide k hr fun z => hC ?_⟩
    · cases q : (PySem.W.hideAll B [C]).get? L with
      | none => rfl
      | some u => rw [PySem.W.of_hideAll _ q] at hn; cases hn
    · obtain ⟨e, he, q⟩ := List.mem_filterMap.mp z
      exact List.mem_filterMap.mpr ⟨e, List.mem_cons_of_mem _ he, q⟩
theorem Inv.reXe (I : Inv X pins σ H s) (xb : Value → Shared → Prop) : Inv { X with xe := xb } pins σ H s :=
  ⟨⟨I.ok.mod, I.ok.kind, I.ok.glob, I.ok.blt, I.ok.above, I.ok.inj, I.ok.has, I.ok.cab, I.ok.hd, I.ok.frames, I.ok.stk, I.ok.exf, I.ok.bs, I.ok.bsz, I.ok.noex, I.ok.exfs, I.ok.funs, I.ok.frf⟩, I.os, I.bare, I.base, I.loc, I.cell, I.free, I.freeC, I.pin, I.hok, I.len⟩
end
end L2

namespace L2
open PySem PySem.Spec PyProof.Rows
section
variable {X : Cx} {E : XK}
/-- what a call in the block lets out goes out of the comprehension and out of the def -/
theorem blk_passes {pins : List (Addr × Obj)} {σ : St} {H3 : Hp} {s3 : Shared} {scope : Scope} {ce : Env} {fp : List Addr} {use : Option (Value → Sem Unit)} {Qf : Value → Shared → Prop} {acc : Value} {E₁ : Value → Shared → Prop}
    (hs : X.stack = X.env :: X.outer) (hf : X.env.frame = some X.env.locals) (hex : X.ex = [])
    (hx : X.xe = fun e s' => wpAny (model X.prog X.w) X.A (leaving X.env e) (fun _ s'' => CX X.prog X.w X.outer X.H_0 X.s_0 E e s'') E₁ s')
    (I3 : Inv X pins σ H3 s3) (f3 : ∀ b ∈ fp, FpOk X pins H3 b ∧ b < s3.heap.objs.size) (cL : ce.locals = s3.heap.objs.size) (cF : ce.frame = X.env.frame) :
    Passes (CX X.prog X.w) { X.blk s3 H3 scope ce fp with xe := notedBy (model X.prog X.w) X.A ce fun e s' => compPost (model X.prog X.w) X.A X.xe use Qf acc s3.heap.objs.size (.error e) s' } E := by
  intro pinsB σB H s e s' I c
  obtain ⟨a, B, sI, H', cls, d, rfl, Ib, nb, up, fl, na, os, ag, hE⟩ := of_callF I c
  have nb : ∀ b o, sI.heap.get? b = some o → b ∉ frs X.stack → B.get? b = some o := nb
  have fl : HandSPX.FlyingZ B X.stack a (Zc cls d) s'.heap := fl
  generalize hC : s3.heap.objs.size = C at cL
  have hfr : X.A.frames = some (X.env :: X.outer) := by rw [I3.ok.frames, hs]
  show wpAny (model X.prog X.w) X.A (noteFrame (.ref a) ce) (fun _ s'' => compPost (model X.prog X.w) X.A X.xe use Qf acc C (.error (.ref a)) s'') _ s'
  rw [noteFrame_as cF]
  rw [hs] at fl
  refine HandSPX.looks_onZ Zc.steady hfr hf fl fun h1 held up1 => ?_
  have I1 : Inv _ pinsB σB H' { s' with heap := h1 } := Ib.landed (s' := { s' with heap := h1 }) nb held.1 (Heap.UpToSlots.trans up up1) os ag
  obtain ⟨m, hn, _⟩ := I1.loc
  have hn : h1.Ns ce.locals m := hn
  rw [cL] at hn
  have nC : H' C = none := by
    have z : H' ce.locals = none := Ib.free
    rw [cL] at z; exact z
  have IX : Inv X pins σ H' sI := I3.call' (ch := fp) Ib.os Ib.base Ib.hok Ib.bare fun b hb => ⟨(f3 b hb).1.2.2.2.1, (f3 b hb).1.2.1, (f3 b hb).1.2.2.2.2.1, (f3 b hb).1.2.2.2.2.2⟩
  obtain ⟨f0, f1, f2, f3', f4, f5⟩ := I3.fpOk (b := C) (Nat.le_of_eq hC) nC
  have I2 : Inv X pins σ H' { sI with heap := PySem.W.hideAll sI.heap [C], toks := sI.toks } := IX.turned (it := C) (fun b o hb e => PySem.W.hideAll_get _ e (by simpa using hb)) f0 f1 f3' f4 f5
  have nhide : ∀ {h : Heap} {b : Addr} {o : Obj}, (PySem.W.hideAll h [C]).get? b = some o → b ≠ C := fun {h b o} e z => by
    rw [PySem.W.hideAll_none (b := b) [C] (by simp [z])] at e; cases e
  have hCs : C ∉ frs X.stack := fun z => by
    rcases List.mem_cons.mp (I3.stkSub C z) with e | e
    · exact f1 e
    · exact f2 e
  have fin : ∃ m, h1.Ns C m ∧ ∀ h', Heap.SameBut C h1 h' → ∀ cenv : Env, cenv.locals = C → wpAny (model X.prog X.w) X.A (PySem.passOn "comprehension.variables-let-go" (.ref a) cenv : Sem Value) (fun _ _ => False) X.xe { s' with heap := h' } := by
    refine ⟨m, hn, fun h' sb cenv _ => ?_⟩
    obtain ⟨kB, hen, hl, oe, vs, T, oT, ts, he, hz, hd, e1, hnT, hTe, hT, hdT, e3⟩ := held
    obtain ⟨oC, es, ep, gC, dC, _⟩ := hn
    have naC : a ≠ C := fun z => by rw [z, gC] at he; cases he; rw [dC] at hd; cases hd
    have nTC : T ≠ C := fun z => by rw [z, gC] at hT; cases hT; rw [dC] at hdT; cases hdT
    have he' : h'.get? a = some oe := (sb.2 a naC).trans he
    have hT' : h'.get? T = some oT := (sb.2 T nTC).trans hT
    have hnB : ∀ b, B.get? b = none → (PySem.W.hideAll B [C]).get? b = none := fun b e => by
      cases q : (PySem.W.hideAll B [C]).get? b with
      | none => rfl
      | some u => rw [PySem.W.of_hideAll _ q] at e; cases e
    have kB' : (PySem.W.hideAll B [C]).StaysIn h' := fun b o e => (sb.2 b (nhide e)).trans (kB b o (PySem.W.of_hideAll _ e))
    have hl' : h'.FunFrames (PySem.W.hideAll B [C]) (X.env :: X.outer) := funFrames_hide sb.2 hl (by rw [← hs]; exact hCs)
    have ht' : HandSPX.TracedZ h' (PySem.W.hideAll B [C]) a (Zc cls d) (rawInt X.env.locals) := ⟨oe, vs, T, oT, ts, he', hz, hd, e1, hnB T hnT, hTe, hT', hdT, e3⟩
    unfold PySem.passOn
    refine wpAny_bind (wpAny_field he' hd e1 ?_)
    rw [if_neg (show ¬ ((Value.ref T == Value.none) = true) from by simp)]
    refine wpAny_bind (HandSPX.setFlight_anyZ kB' hl' ht' fun h2 k1 k2 k3 k4 => wpAny_throw ?_)
    rw [hx]
    refine leaveAny hs hf hex I2 (fun b o e hb => ?_) (fun b o e hnf => ?_) k1 (hnB a hen) (by rw [hs]; exact k2) k3 na os ag hE
    · exact PySem.W.hideAll_get _ (nb b o (PySem.W.of_hideAll _ e) hb) (by simpa using nhide e)
    · have nb' := nhide e
      obtain ⟨sl1, q1⟩ := up b o (PySem.W.of_hideAll _ e) hnf
      obtain ⟨sl2, q2⟩ := up1 b _ q1 hnf
      obtain ⟨sl3, q3⟩ := k4 b _ ((sb.2 b nb').trans q2) hnf
      exact ⟨sl3, q3⟩
  cases use <;> exact fin
theorem lc_coreX {pins : List (Addr × Obj)} {s : Shared} {σ : St} {H : Hp} {Q : VK} {elt tg iter : Expr} {ifs : List Expr} {scope : Scope} {own : List (Str × Nat)} {pos pos' : Pos} {wi : TI} {g : TG} {tt : TT} {te : TE} {use : Option (Value → Sem Unit)} {Qf : Value → Shared → Prop} {E₁ : Value → Shared → Prop}
    (hst : X.stack = X.env :: X.outer) (hfm : X.env.frame = some X.env.locals) (hex : X.ex = [])
    (hx : X.xe = fun e s' => wpAny (model X.prog X.w) X.A (leaving X.env e) (fun _ s'' => CX X.prog X.w X.outer X.H_0 X.s_0 E e s'') E₁ s')
    (hc : X.calm = true) (hN : X.N.Nodup) (I : Inv X pins σ H s) (hi : PI X tg iter wi) (ok : BlkOk X.N X.env.scope scope own)
    (hg : ∀ (s : Shared) (H : Hp) (C : Addr) (cl : List (Str × Addr)) (fp : List Addr) (xb : Value → Shared → Prop), PG { X.blk s H scope (compEnvC scope cl C X.env) fp with xe := xb } tg g) (ht : ∀ (s : Shared) (H : Hp) (C : Addr) (cl : List (Str × Addr)) (fp : List Addr) (xb : Value → Shared → Prop), PTs { X.blk s H scope (compEnvC scope cl C X.env) fp with xe := xb } ifs tt)
    (he : ∀ (s : Shared) (H : Hp) (C : Addr) (cl : List (Str × Addr)) (fp : List Addr) (xb : Value → Shared → Prop), Passes (CX X.prog X.w) { X.blk s H scope (compEnvC scope cl C X.env) fp with xe := xb } E → PE { X.blk s H scope (compEnvC scope cl C X.env) fp with xe := xb } elt te) (hs : ∀ x, foldedSetIterable iter X.env x = pure x)
    (h : tLc wi g tt te (own.map (·.2)) σ H Q)
    (hRR : ∀ D C s' m H', Inv X pins σ H' s' → Q (.ref D) H' → s'.heap.Ns C m → FpOk X pins H' C → compPost (model X.prog X.w) X.A X.xe use Qf (.ref D) C (.ok .next) s') :
    wpAny (model X.prog X.w) X.A (comprehension (.ListComp elt [⟨tg, iter, ifs, 0⟩] scope pos) scope X.env pos' (newList []) false (eval iter X.env) use) Qf X.xe s := by
  have hfree : ∀ y ∈ scope.names, y.2 = .free → ∃ c, X.env.cells.lookup y.1 = some c := fun y hy e => by
    rcases ok.free y hy e with k | k
    · exact I.ok.has _ (.inl k)
    · exact I.ok.has _ (.inr k)
  refine wpAny_comprehension_free (use := use) rfl hs (closure_ok hfree) ok.kind (fun y hy e => by rw [ok.uniq y hy, e])
    (thn (hi.run pins s σ H _ I h) fun xv s1 hxv => thn hxv fun itv s2 h2 => ?_)
  obtain ⟨it, fp, tn, J, H2, e, I2, T, st2, f2, q⟩ := h2
  subst e
  refine wpAny_newObj_type (newEnv_comp ?_) (by show 0 ≤ sizeLine; decide)
  generalize hD : s2.heap.objs.size = D
  have hDn : H2 D = none := I2.hok.fresh (Nat.le_of_eq hD)
  obtain ⟨W, ⟨m0, w0⟩, turn⟩ := q D hDn
  -- the new list
  generalize hs3 : ({ s2 with heap := s2.heap.push { cls := .type "list", data := .seq ([] : List Value).toArray } } : Shared) = s3
  have I3 : Inv X pins σ (upd H2 D (.lst [])) s3 := by
    rw [← hs3]
    refine I2.laid (t' := s2.toks) (fun b o e => Heap.get?_push_of_some _ e) (Nat.le_of_eq hD) ⟨Nat.zero_le _, [], 0, .nil, ?_⟩
    rw [← hD]
    exact Heap.get?_push_size _ rfl
  have h3 : s3.heap = s2.heap.push { cls := .type "list", data := .seq ([] : List Value).toArray } := by rw [← hs3]
  have sz : ∀ b ∈ fp, b < s2.heap.objs.size := fun b hb => by
    obtain ⟨o, e, _⟩ := T.obj _ _ st2 b hb
    exact Heap.lt_size e
  have f3 : ∀ b ∈ fp, FpOk X pins (upd H2 D (.lst [])) b ∧ b < s3.heap.objs.size := fun b hb => by
    have hlt := sz b hb
    refine ⟨⟨?_, (f2 b hb).2⟩, by rw [h3, Heap.size_push]; exact Nat.lt_succ_of_lt hlt⟩
    rw [upd_ne (by rw [← hD]; exact Nat.ne_of_lt hlt)]
    exact (f2 b hb).1
  have st3 : tn 0 s3.heap := T.keep _ _ _ st2 fun b _ o e => by rw [h3]; exact Heap.get?_push_of_some _ e
  have I4 := block_start I3 ok hN f3
  have pg := hg s3 (upd H2 D (.lst [])) s3.heap.objs.size (cellsFrom (s3.heap.objs.size + 1) scope.names (cloFrom X.env.cells scope.names [])) fp
  have pt := ht s3 (upd H2 D (.lst [])) s3.heap.objs.size (cellsFrom (s3.heap.objs.size + 1) scope.names (cloFrom X.env.cells scope.names [])) fp
  have pe := he s3 (upd H2 D (.lst [])) s3.heap.objs.size (cellsFrom (s3.heap.objs.size + 1) scope.names (cloFrom X.env.cells scope.names [])) fp
  show codeAny _ _ (.compStart (.ListComp elt [⟨tg, iter, ifs, 0⟩] scope pos) 0 (.ref it) (.ref D) (compEnvC scope (cellsFrom (s3.heap.objs.size + 1) scope.names (cloFrom X.env.cells scope.names [])) s3.heap.objs.size X.env)) (compPost (model X.prog X.w) X.A X.xe use Qf (.ref D) s3.heap.objs.size) { s3 with heap := pushCells (s3.heap.push { cls := .type "dict", data := .dict #[] }) scope.names }
  have nfp : ∀ b ∈ fp, (upd H2 D (.lst [])) b = none := fun b hb => (f3 b hb).1.1
  have cF : (compEnvC scope (cellsFrom (s3.heap.objs.size + 1) scope.names (cloFrom X.env.cells scope.names [])) s3.heap.objs.size X.env).frame = X.env.frame := rfl
  generalize hce : compEnvC scope (cellsFrom (s3.heap.objs.size + 1) scope.names (cloFrom X.env.cells scope.names [])) s3.heap.objs.size X.env = ce at I4 pg pt pe cF ⊢
  have cL : ce.locals = s3.heap.objs.size := by subst hce; rfl
  generalize hH3 : upd H2 D (.lst []) = H3 at I3 I4 pg pt pe w0 nfp f3
  have ps := blk_passes (use := use) (Qf := Qf) (acc := .ref D) (scope := scope) (fp := fp) hst hfm hex hx I3 f3 cL cF
  replace pg := pg (notedBy (model X.prog X.w) X.A ce fun e s' => compPost (model X.prog X.w) X.A X.xe use Qf (.ref D) s3.heap.objs.size (.error e) s')
  replace pt := pt (notedBy (model X.prog X.w) X.A ce fun e s' => compPost (model X.prog X.w) X.A X.xe use Qf (.ref D) s3.heap.objs.size (.error e) s')
  replace pe := pe _ ps
  replace I4 := I4.reXe (notedBy (model X.prog X.w) X.A ce fun e s' => compPost (model X.prog X.w) X.A X.xe use Qf (.ref D) s3.heap.objs.size (.error e) s')
  generalize hXB : ({ X.blk s3 H3 scope ce fp with xe := notedBy (model X.prog X.w) X.A ce fun e s' => compPost (model X.prog X.w) X.A X.xe use Qf (.ref D) s3.heap.objs.size (.error e) s' } : Cx) = XB at pg pt pe I4
  have eP : XB.prog = X.prog := by subst hXB; rfl
  have eW : XB.w = X.w := by subst hXB; rfl
  have eK : XB.K = X.K := by subst hXB; rfl
  have eC : XB.calm = true := by subst hXB; exact hc
  have eE : XB.env = ce := by subst hXB; rfl
  have eA : XB.A = X.A := by subst hXB; rfl
  have eX : XB.xe = notedBy (model X.prog X.w) X.A ce fun e s' => compPost (model X.prog X.w) X.A X.xe use Qf (.ref D) s3.heap.objs.size (.error e) s' := by subst hXB; rfl
  generalize hs4 : ({ s3 with heap := pushCells (s3.heap.push { cls := .type "dict", data := .dict #[] }) scope.names } : Shared) = s4 at I4 ⊢
  have st4 : tn 0 s4.heap := T.keep _ _ _ st3 fun b _ o e => by rw [← hs4]; exact pushCells_keeps _ _ _ _ (Heap.get?_push_of_some _ e)
  have stat : ∀ {σ' : St} {H' : Hp} {s' : Shared}, Inv XB [] σ' H' s' → (∀ b ∈ fp, H' b = none) → ∀ b ∈ fp, FpOk XB [] H' b := fun {σ' H' s'} I' hn b hb => by
    subst hXB
    exact ⟨hn b hb, (I'.ok.exf b hb).1, I'.ok.exfs b hb, .inl hb, fun x c e => (I'.ok.exf b hb).2 x c e, fun p hp => absurd (show p ∈ ([] : List (Addr × Obj)) ++ [] from hp) (by simp)⟩
  have loop : codeAny (model X.prog X.w) X.A (.compLoop (.ListComp elt [⟨tg, iter, ifs, 0⟩] scope pos) 0 (.ref it) (.ref D) ce) (compPost (model X.prog X.w) X.A X.xe use Qf (.ref D) s3.heap.objs.size) s4 := by
    refine compLoop_any (fun n s' => ∃ i H', Inv XB [] (wipe σ (own.map (·.2))) H' s' ∧ tn i s'.heap ∧ (∀ b ∈ fp, H' b = none) ∧ W i n H') ?_ m0 ⟨0, H3, I4, st4, nfp, w0⟩
    rintro n s5 ⟨i, H5, I5, st5, n5, w5⟩
    rcases turn i n H5 w5 with ⟨stop, qq⟩ | ⟨go, Nx, hNx, step⟩
    · have td := T.done XB eP eW eK eC i [] s5 _ H5 (fun _ _ => False) I5 (stat I5 n5) st5 stop
      rw [eA] at td
      refine thnF td fun r s6 ⟨hr, I6⟩ => ?_
      subst hr
      have I6' : Inv { X.blk s3 H3 scope ce fp with xe := notedBy (model X.prog X.w) X.A ce fun e s' => compPost (model X.prog X.w) X.A X.xe use Qf (.ref D) s3.heap.objs.size (.error e) s' } [] (wipe σ (own.map (·.2))) H5 s6 := by rw [hXB]; exact I6
      -- back in the def's context
      have I7 : Inv X pins σ H5 s6 := I3.call' (ch := fp) I6'.os I6'.base I6'.hok I6'.bare fun b hb => ⟨(f3 b hb).1.2.2.2.1, (f3 b hb).1.2.1, (f3 b hb).1.2.2.2.2.1, (f3 b hb).1.2.2.2.2.2⟩
      have nC : H5 s3.heap.objs.size = none := by
        have z : H5 ce.locals = none := I6'.free
        rw [cL] at z
        exact z
      obtain ⟨m, hn, _⟩ := I6'.loc
      have hn : s6.heap.Ns ce.locals m := hn
      rw [cL] at hn
      exact hRR D s3.heap.objs.size s6 m H5 I7 qq hn (I3.fpOk (Nat.le_refl _) nC)
    · have ti := T.item XB eP eW eK eC i [] s5 _ H5 (fun _ _ => False) I5 (stat I5 n5) st5 go
      rw [eA] at ti
      refine thnF ti fun r s6 ⟨u, hr, h6⟩ => ?_
      subst hr
      refine thnF h6 fun _ s7 ⟨x, H7, I7, r7, y7, st7, n7⟩ => ?_
      have I7' := I7.pinned (stat I7 n7) (T.obj _ _ st7)
      have pg' := pg.run _ s7 _ H7 x u _ I7' r7 (step x H7 y7)
      rw [eP, eW, eA, eE, eX] at pg'
      refine thn pg' fun _ s8 ⟨σ8, H8, I8, hw8, q8⟩ => ?_
      have pt' := pt.run _ s8 σ8 H8 _ I8 q8
      rw [eP, eW, eA, eE, eX] at pt'
      refine thn pt' fun b s9 ⟨H9, I9, q9⟩ => ?_
      -- the turn's end
      have fin : ∀ {s' : Shared} {H' : Hp}, Inv XB ([] ++ pinsAt fp s7.heap) σ8 H' s' → Nx H' → ∃ m, m < n ∧ ∃ i H', Inv XB [] (wipe σ (own.map (·.2))) H' s' ∧ tn i s'.heap ∧ (∀ b ∈ fp, H' b = none) ∧ W i m H' := fun {s' H'} I' nx => by
        obtain ⟨m', hm, w'⟩ := hNx H' nx
        have pin' : ∀ b ∈ fp, ∀ o, s7.heap.get? b = some o → s'.heap.get? b = some o ∧ H' b = none := fun b hb o e =>
          let z := I'.pin (b, o) (List.mem_append_right _ (List.mem_append_right _ (mem_pinsAt hb e)))
          ⟨z.1, z.2.1⟩
        have hl : (wipe σ (own.map (·.2))).length = σ8.length := by rw [← hw8, wipe_length]
        refine ⟨m', hm, i + 1, H', (I'.unpinned (pins := [])).weak hl (fun j v e => ?_), T.keep _ _ _ st7 fun b hb o e => (pin' b hb o e).1, fun b hb => ?_, w'⟩
        · rw [← hw8] at e
          exact (wipe_some e).1
        · obtain ⟨o, e, _⟩ := T.obj _ _ st7 b hb
          exact (pin' b hb o e).2
      cases b with
      | false =>
        simp only [Bool.false_eq_true, if_false] at q9 ⊢
        exact fin I9 q9
      | true =>
        simp only [if_true] at q9 ⊢
        have pe' := pe.run _ s9 σ8 H9 _ I9 q9
        rw [eP, eW, eA, eE, eX] at pe'
        refine thn pe' fun z s10 ⟨yv, H10, I10, r10, acc, hD10, hz10, nx⟩ => ?_
        have ap : wpAny (model XB.prog XB.w) XB.A (call (.builtin "list.append") [.ref D, z]) (fun _ s' => ∃ m, m < n ∧ ∃ i H', Inv XB [] (wipe σ (own.map (·.2))) H' s' ∧ tn i s'.heap ∧ (∀ b ∈ fp, H' b = none) ∧ W i m H')
            (notedBy (model X.prog X.w) X.A ce fun e s' => compPost (model X.prog X.w) X.A X.xe use Qf (.ref D) s3.heap.objs.size (.error e) s') s10 := app_ok (X := XB) I10 hD10 hz10 r10 fun s11 I11 => fin I11 nx
        rw [eP, eW, eA] at ap
        exact ap
  exact codeAny_compStart_list loop (T.self X.A 0 _ _ _ st4 loop)
/-- [f(x) for x in ..], f(x) may raise what the def may raise -/
theorem pe_lcX {elt tg iter : Expr} {ifs : List Expr} {scope : Scope} {own : List (Str × Nat)} {pos : Pos} {wi : TI} {g : TG} {tt : TT} {te : TE} {E₁ : Value → Shared → Prop}
    (hst : X.stack = X.env :: X.outer) (hfm : X.env.frame = some X.env.locals) (hex : X.ex = [])
    (hx : X.xe = fun e s' => wpAny (model X.prog X.w) X.A (leaving X.env e) (fun _ s'' => CX X.prog X.w X.outer X.H_0 X.s_0 E e s'') E₁ s')
    (hc : X.calm = true) (hN : X.N.Nodup) (hi : PI X tg iter wi) (ok : BlkOk X.N X.env.scope scope own)
    (hg : ∀ (s : Shared) (H : Hp) (C : Addr) (cl : List (Str × Addr)) (fp : List Addr) (xb : Value → Shared → Prop), PG { X.blk s H scope (compEnvC scope cl C X.env) fp with xe := xb } tg g) (ht : ∀ (s : Shared) (H : Hp) (C : Addr) (cl : List (Str × Addr)) (fp : List Addr) (xb : Value → Shared → Prop), PTs { X.blk s H scope (compEnvC scope cl C X.env) fp with xe := xb } ifs tt)
    (he : ∀ (s : Shared) (H : Hp) (C : Addr) (cl : List (Str × Addr)) (fp : List Addr) (xb : Value → Shared → Prop), Passes (CX X.prog X.w) { X.blk s H scope (compEnvC scope cl C X.env) fp with xe := xb } E → PE { X.blk s H scope (compEnvC scope cl C X.env) fp with xe := xb } elt te)
    (hs : ∀ x, foldedSetIterable iter X.env x = pure x := by intro _; rfl) : PE X (.ListComp elt [⟨tg, iter, ifs, 0⟩] scope pos) (tLc wi g tt te (own.map (·.2))) := by
  refine ⟨fun pins s σ H Q I h => ?_⟩
  rw [eval_ListComp]
  refine lc_coreX hst hfm hex hx hc hN I hi ok hg ht he hs h fun D C s' m H' I' q hn f => ⟨m, hn, fun h'' sb => ?_⟩
  obtain ⟨f0, f1, f2, f3, f4, f5⟩ := f
  exact ⟨.ref D, H', I'.turned (t' := s'.toks) (fun b o hb e => (sb.2 b hb).trans e) f0 f1 f3 f4 f5, rfl, q⟩
end
end L2

namespace L2
open PySem PySem.Spec PyProof.Rows
/-! ### list(o), o's __iter__ gives iter(o.f), f a list, and __len__ is a def -/
section
variable {X : Cx} {pins : List (Addr × Obj)} {σ : St}
theorem listI_loop {A1 : Around} {q it l : Addr} {xs : List V} {H0 : Hp} {Rs : Result → Shared → Prop} (hh : A1.in1.handled = none) (hz : xs.length ≤ sizeLine) (nq : H0 q = none) (nit : H0 it = none) (nqi : q ≠ it) (nl : l ≠ q) (hl : SqL X.K H0 l xs)
    (hf : ∀ H', H' it = none → FpOk X pins H' it) (hdone : ∀ s, Inv X pins σ (upd H0 q (.lst xs)) s → Rs (.ok (.ret .none)) s) :
    ∀ (m i : Nat) (s : Shared), xs.length - i = m → i ≤ xs.length → Inv X pins σ (upd H0 q (.lst (xs.take i))) s → s.heap.IsListIter it l i → codeAny (model X.prog X.w) A1 (.builtin "list.extend.loop" ⟨[.ref q, .ref it, .none], []⟩) Rs s := by
  have nitq : ∀ o, (upd H0 q o) it = none := fun o => by rw [upd_ne nqi.symm]; exact nit
  have hlq : ∀ o, SqL X.K (upd H0 q o) l xs := fun o => by
    rcases hl with (h | ⟨o', h⟩) | h
    · exact .inl (.inl (by rw [upd_ne nl]; exact h))
    · exact .inl (.inr ⟨o', by rw [upd_ne nl]; exact h⟩)
    · exact .inr h
  intro m
  induction m with
  | zero =>
    intro i s hm hi I st
    have e : i = xs.length := by omega
    subst e
    obtain ⟨its, rv, pl, _⟩ := I.list (hlq _)
    refine codeAny_builtin PySem.F.entry_extend_loop ?_
    rw [Around.under_plainId PySem.F.plain_extend_loop _]
    show wpAny _ A1.in1 (pyNext (.ref it) >>= _) _ _ s
    obtain ⟨f0, f1, f2, f3, f4, f5⟩ := hf _ (nitq (.lst xs))
    refine wpAny_bind (wpAny_pyNext_list_end hh st pl.isList (by have := rv.length; simp; omega) fun h' he' => wpAny_pure (hdone _ ?_))
    rw [List.take_length] at I
    exact I.turned (it := it) (t' := s.toks) (fun b o hb e => he' b o hb e) (nitq _) f1 f3 f4 f5
  | succ m ih =>
    intro i s hm hi I st
    have hlt : i < xs.length := by omega
    obtain ⟨its, rv, pl, _⟩ := I.list (hlq _)
    have hx : xs[i]? = some xs[i] := List.getElem?_eq_getElem hlt
    obtain ⟨u, hu, ri⟩ := rv.get hx
    refine codeAny_builtin PySem.F.entry_extend_loop ?_
    rw [Around.under_plainId PySem.F.plain_extend_loop _]
    show wpAny _ A1.in1 (pyNext (.ref it) >>= _) _ _ s
    obtain ⟨f0, f1, f2, f3, f4, f5⟩ := hf _ (nitq (.lst (xs.take i)))
    refine wpAny_bind (wpAny_pyNext_list_item st pl.isList (x := u) (by simpa using hu) fun h' hit' hs' => ?_)
    have I' := I.turned (it := it) (h' := h') (t' := s.toks) (fun b o hb e => hs'.extBut b o hb e) (nitq _) f1 f3 f4 f5
    show wpAny _ A1.in1 (updateSeq q (·.push u) >>= _) _ _ _
    obtain ⟨z, its2, k, r2, hl2, e⟩ := I'.lstM upd_same
    refine wpAny_bind (wpAny_updateSeq e rfl (wpAny_pure ⟨plainId_quiet PySem.F.plain_extend_loop _, ?_⟩) (by rw [List.size_toArray]; rw [List.length_take] at hl2; omega) (by show (its2.toArray.push u).size ≤ sizeLine + 1; rw [Array.size_push, List.size_toArray]; rw [List.length_take] at hl2; omega))
    refine ih (i + 1) _ (by omega) hlt ?_ (hit'.at fun o e => (Heap.get?_update_other _ _ nqi).trans e)
    have I2 := I'.lset (f := (·.push u)) (its' := its2 ++ [u]) (t' := s.toks) upd_same e (by simp) (r2.append (.cons ri .nil)) (by rw [List.length_append, List.length_take]; show _ + 1 ≤ _; omega)
    rw [upd_upd] at I2
    rw [List.take_add_one, hx]
    exact I2
variable {CI CL : CXT} {k : Nat} {g fL C : Addr} {fl : Str} {fdL : FuncData} {psL : List Str} {spL : Sp} {EL : XK}
def rListI (K : PySem.W.Frag) (C : Addr) (fl : Str) (spL : Sp) (EL : XK) : List V → Hp → VK → Prop := fun vs H Q => ∃ (a dx l : Addr) (fs : List (Str × V)) (xs : List V), vs = [.ref a] ∧ H a = some (.ins C dx fs) ∧ fs.lookup fl = some (.ref l) ∧ SqL K H l xs ∧ xs.length ≤ 1000 ∧
  (∀ q, H q = none → spL [.ref a] (upd H q (.lst [])) (fun v H' => (∃ n : Nat, v = .int (n : Int) ∧ n ≤ 1000) ∧ H' = upd H q (.lst [])) EL) ∧ ∀ q, H q = none → Q (.ref q) (upd H q (.lst xs))
theorem call_listI (m : Meth X.K C "__iter__" g) (FI : IterOk X.prog X.w X.K X.mg X.base k g C fl) (ml : Meth X.K C "__len__" fL) (FL : FnOk X.prog X.w X.K X.mg X.base CX0 k fL fdL psL spL) (bL : Binds X.K fdL psL []) (hc : X.calm = true) (hr : Room (k + 4) X.A) :
    CallR X (.type "list") (rListI X.K C fl spL E0) := by
  intro pins s σ H vs us Q I rv h
  obtain ⟨a, dx, l, fs, xs, rfl, ha, hfl, hl, hz, hsp, hq⟩ := h
  obtain ⟨u, rfl, ru⟩ := rv.one
  cases ru
  have sb : Sub X (k + 2) X.A.in1.in1 := (Sub.in1 (Sub.in1 (⟨hr, rfl⟩ : Sub X (k + 4) X.A)))
  refine callType_codes (Q₁ := fun obj s₁ => obj = .ref s.heap.objs.size ∧ s₁ = { s with heap := s.heap.push { cls := .type "list", data := .seq #[] } }) PySem.F.called_list (PySem.F.typeCall_list_1 _) PySem.F.entry_list_init
    (code_list_new _ ⟨rfl, rfl⟩) fun obj s₁ h₁ => ?_
  obtain ⟨rfl, rfl⟩ := h₁
  have hS : (s.heap.push { cls := .type "list", data := .seq #[] }).get? s.heap.objs.size = some { cls := .type "list", data := .seq #[] } := Heap.get?_push_size _ rfl
  refine ⟨⟨_, hS, rfl⟩, PySem.F.args_list_init_2 _ _, ?_⟩
  have fr : H s.heap.objs.size = none := I.hok.fresh (Nat.le_refl _)
  have I1 : Inv X pins σ (upd H s.heap.objs.size (.lst [])) { s with heap := s.heap.push { cls := .type "list", data := .seq #[] } } := I.lnew (its := []) (t' := s.toks) .nil (Nat.zero_le _)
  show wpAny _ _ (do let old ← Builtin.List.listItems (.ref s.heap.objs.size); Builtin.List.listUpdate (.ref s.heap.objs.size) (fun _ => #[]); letGo old.toList.reverse; Builtin.List.listExtendWith (.ref s.heap.objs.size) (.ref a) .none) _ _ _
  refine wpAny_bind ?_
  unfold Builtin.List.listItems
  refine wpAny_bind (wpAny_seqItems hS rfl (wpAny_pure ?_))
  show wpAny _ _ (updateSeq s.heap.objs.size (fun _ => #[]) >>= fun _ => letGo (#[] : Array Value).toList.reverse >>= fun _ => Builtin.List.listExtendWith (.ref s.heap.objs.size) (.ref a) .none) _ _ _
  refine wpAny_bind (wpAny_updateSeq hS rfl ?_)
  have I2 := I1.lset (f := fun _ => #[]) (its := []) (its' := []) (ys := []) (t' := s.toks) upd_same hS rfl .nil (Nat.zero_le _)
  rw [upd_upd] at I2
  refine wpAny_bind (wpAny_letGo ?_)
  have nlq : l ≠ s.heap.objs.size := fun z => by
    obtain ⟨its, rv, pl, _⟩ := I.list hl
    obtain ⟨o, ho, _⟩ := pl.isList
    have := Heap.lt_size ho
    rw [z] at this
    exact absurd this (Nat.lt_irrefl _)
  have hQ := hq _ fr
  have hL := hsp _ fr
  revert I2 fr nlq hQ hL
  generalize s.heap.objs.size = q
  generalize ({ s with heap := _, toks := _ } : Shared) = s2
  intro fr I2 nlq hQ hL
  have naq : a ≠ q := ne_of_none ha fr
  have ha2 : (upd H q (.lst [])) a = some (.ins C dx fs) := by rw [upd_ne naq]; exact ha
  obtain ⟨ox, od, J⟩ := inst_of I2 ha2
  obtain ⟨mf, hF⟩ := I2.fr
  unfold Builtin.List.listExtendWith
  refine wpAny_bind (J.type.here ?_)
  have h1 : Builtin.List.listSameRef (.ref q) (.ref a) = false := by simp [Builtin.List.listSameRef, naq.symm]
  have h2 : (Value.ref C == Value.type "list") = false := rfl
  have h3 : (Value.ref C == Value.type "tuple") = false := rfl
  simp only [h1, h2, h3, Bool.or_false, Bool.false_eq_true, if_false]
  have e0 : Env0 X.prog X.w X.K X.mg X.base X.A.in1.in1 X.stack s2 (upd H q (.lst [])) := by
    have e := I2.env0
    exact ⟨by rw [sb.fr]; exact e.frames, e.mod, e.bs, e.bsz, e.funs, e.frf, e.hok, e.bare⟩
  have hl2 : SqL X.K (upd H q (.lst [])) l xs := by
    rcases hl with (h | ⟨o', h⟩) | h
    · exact .inl (.inl (by rw [upd_ne nlq]; exact h))
    · exact .inl (.inr ⟨o', by rw [upd_ne nlq]; exact h⟩)
    · exact .inr h
  refine wpAny_bind (PySem.W.owit_iter hF I2.ok.mod.kin J m.at_ m.fn (wpAny_call (codeAny_mono (FI X.A.in1.in1 X.stack s2 (upd H q (.lst [])) a dx l fs xs (fun v H2 => ∃ it, v = .ref it ∧ (upd H q (.lst [])) it = none ∧ s2.heap.objs.size ≤ it ∧ H2 = upd (upd H q (.lst [])) it (ItO l it 0)) E0 (sb.room.mono (by omega)) e0 ha2 hfl hl2 fun it n1 n2 => ⟨it, rfl, n1, n2, rfl⟩) fun r s' z => ?_)))
  match r, z with
  | .error _, z => exact z.elim
  | .ok (.ret u), z =>
    obtain ⟨v2, H2, I3, r2, it, rfl, n1, n2, rfl⟩ := I2.after z
    cases r2
    have eo := itO_get I3 upd_same
    have hT : s'.TypeIs (.ref it) "list_iterator" := ⟨_, eo, rfl⟩
    have I4 := ItX.inv_drop I3 (a := it) (by rw [upd_same]; rfl)
    rw [ItX.dropH_upd n1] at I4
    refine wpAny_specialOf (name := Str.ofString "__next__") hT slot_listiter_next.lookup ?_
    obtain ⟨ox4, od4, J4⟩ := inst_of I4 ha2
    show wpAny (model X.prog X.w) X.A.in1.in1 (do
            let room ← holding [Value.ref it] (Builtin.List.listLengthHint (Value.ref a))
            _) _ _ s'
    refine wpAny_bind (wpAny_holding ?_)
    unfold Builtin.List.listLengthHint
    refine wpAny_bind (wpAny_bind (J4.type.here ((PySem.W.looks_findIn I4.kIn ml.at_).here ?_)))
    refine PySem.W.KFB.if_not rfl ?_
    refine wpAny_ite_split (fun _ => ?_) (fun hab => absurd rfl hab)
    refine wpAny_bind (wpAny_rule ?_)
    obtain ⟨mf4, hF4⟩ := I4.fr
    have fpI : FpOk X pins (upd H q (.lst [])) it := I2.fpOk n2 n1
    have oI : ∀ b ∈ [it], ∃ o, s'.heap.get? b = some o ∧ ∀ v, o.data ≠ .cell v := fun b hb => by
      obtain rfl : b = it := by simpa using hb
      exact ⟨_, eo, fun v z => nomatch z⟩
    have I4n : Inv X.nox (pins ++ pinsAt [it] s'.heap) σ (upd H q (.lst [])) s' := (I4.pinned (fp := [it]) (fun b hb => by rw [List.mem_singleton.mp hb]; exact fpI) oI).wish _
    have lenq : wpAny (model X.prog X.w) X.A.in1.in1 (call (.builtin "len") [.ref a]) (fun nv s6 => ∃ (n : Nat) (t : Tok), nv = .int (n : Int) t ∧ n ≤ 1000 ∧ Inv X pins σ (upd H q (.lst [])) s6 ∧ s6.heap.IsListIter it l 0) (fun _ _ => False) s' := by
      refine PySem.W.len_K hF4 I4.ok.mod.kin J4 ml.at_ ml.fn (thn (run_sub (X := X.nox) (A1 := X.A.in1.in1.in1) (us := [.ref a]) (vs := [.ref a]) (stack_of I4) FL ((sb.room.mono (by omega)).in1 (k := k)) bL pass0 I4n (.cons rfl .nil) hL) fun r s5 z => ?_)
      obtain ⟨z1, H1, I5, r1, ⟨n, rfl, hn⟩, rfl⟩ := z
      obtain ⟨t, rfl⟩ := r1
      have g5 := (I5.pin (it, _) (List.mem_append_right _ (List.mem_append_right _ (mem_pinsAt (List.mem_singleton.mpr rfl) eo)))).1
      exact ⟨⟨by omega, by omega⟩, n, _, rfl, hn, (I5.unwish.unpinned (pins := pins)).tok _, ⟨_, g5, rfl, rfl⟩⟩
    refine wpAny_bind (wpAny_attempt (thnF lenq fun nv s6 h6 => ?_))
    obtain ⟨n, t, rfl, hn, I6, st6⟩ := h6
    have hbig : Builtin.List.listTooLong ((n : Int)).toNat = false := by
      unfold Builtin.List.listTooLong
      rw [Int.toNat_natCast]
      have : 1000 < sizeLine := by decide
      exact decide_eq_false (by omega)
    refine wpAny_bind (wpAny_pure ?_)
    refine PySem.W.KFB.if_not hbig (wpAny_pure ?_)
    have big : 1000 < sizeLine := by decide
    have nqi : q ≠ it := fun z => by
      rw [← z, upd_same] at n1; cases n1
    have nitH : H it = none := by rw [upd_ne nqi.symm] at n1; exact n1
    have loop : ∀ s7, Inv X pins σ (upd H q (.lst [])) s7 → s7.heap.IsListIter it l 0 → codeAny (model X.prog X.w) X.A.in1 (.builtin "list.extend.loop" ⟨[.ref q, .ref it, .none], []⟩) (wants (fun r s₂ => r = .none ∧ EP X pins σ Q (.ref q) s₂) X.xe) s7 := fun s7 I7 st7 =>
      listI_loop (A1 := X.A.in1) (H0 := H) (by exact I7.ok.hd hc) (by omega) fr nitH nqi nlq hl (fun H' nH => ⟨nH, fpI.2⟩) (fun s8 I8 => ⟨rfl, .ref q, _, I8, rfl, hQ⟩) xs.length 0 s7 (by omega) (Nat.zero_le _) (by rw [List.take_zero]; exact I7) st7
    refine wpAny_ite_split (fun _ => ?_) (fun _ => wpAny_pure ⟨plainId_quiet PySem.F.plain_extend_loop _, loop s6 I6 st6⟩)
    refine wpAny_bind (wpAny_rule ?_)
    refine wpAny_bind ?_
    obtain ⟨z3, its3, k3, r3, hl3, e3⟩ := I6.lstM upd_same
    cases r3
    show wpAny _ _ (updateSeq q (·.push .none) >>= fun _ => updateSeq q (·.pop)) _ _ _
    refine wpAny_bind (wpAny_updateSeq e3 rfl ?_)
    have I7 := I6.lset (f := (·.push Value.none)) (its' := [Value.none]) (ys := [.non]) (t' := s6.toks) upd_same e3 (by simp) (.cons rfl .nil) (by rw [List.length_singleton, sizeLine_eq]; decide)
    obtain ⟨z4, its4, k4, r4, hl4, e4⟩ := I7.lstM upd_same
    obtain ⟨u4, rfl, ru4⟩ := r4.one
    refine wpAny_updateSeq e4 rfl ?_ (by show 1 ≤ sizeLine; rw [sizeLine_eq]; decide) (by show 0 ≤ sizeLine + 1; exact Nat.zero_le _)
    have I8 := I7.lset (f := (·.pop)) (its := [u4]) (its' := []) (ys := []) (t' := s6.toks) upd_same e4 (by rfl) .nil (Nat.zero_le _)
    rw [upd_upd, upd_upd] at I8
    refine wpAny_pure ⟨plainId_quiet PySem.F.plain_extend_loop _, loop _ I8 (st6.at fun o e => ?_)⟩
    exact (Heap.get?_update_other _ _ nqi).trans ((Heap.get?_update_other _ _ nqi).trans e)
end
end L2

namespace L2
open PySem PySem.Spec PyProof.Rows
section
variable {X : Cx} {a b c d : Expr} {ta tb tc td : TE} {pos : Pos}
/-- a op b op' c op'' d -/
def tChain3 (r r' r'' : R2) (ta tb tc td : TE) : TE := fun σ H Q => ta σ H fun x H1 => tb σ H1 fun y H2 => r x y H2 fun z H3 => ∃ k, z = .bl k ∧
  (if k = true then tc σ H3 fun v H4 => r' y v H4 fun z' H5 => ∃ k', z' = .bl k' ∧ (if k' = true then td σ H5 fun u H6 => r'' v u H6 Q else Q (.bl false) H5) else Q (.bl false) H3)
theorem pe_chain3 {op op' op'' : CmpOp} {r r' r'' : R2} (ho : OpR X (compareOp op) r) (ho' : OpR X (compareOp op') r') (ho'' : OpR X (compareOp op'') r'') (ha : PE X a ta) (hb : PE X b tb) (hc : PE X c tc) (hd : PE X d td)
    (hm : lastMarks [op, op', op''] [b, c, d] = false := by with_unfolding_all rfl) : PE X (.Compare a [op, op', op''] [b, c, d] pos) (tChain3 r r' r'' ta tb tc td) := by
  refine ⟨fun pins s σ H Q I h => ?_⟩
  refine Compare_chain (thn (ha.run pins s σ H _ I h) fun v s1 ⟨x, H1, I1, r1, q1⟩ => chain_link (thn (hb.run pins s1 σ H1 _ I1 q1) fun u s2 ⟨y, H2, I2, r2, q2⟩ =>
    thn (ho pins s2 σ H2 x y v u _ I2 r1 r2 q2) fun d s3 ⟨z, H3, I3, r3, k, e, q3⟩ => ?_)) hm
  subst e
  cases r3
  refine wpAny_truthy_bool ?_
  cases k with
  | false => exact ite_ff ⟨.bl false, H3, I3, rfl, q3⟩
  | true =>
    refine ite_tt (chain_link (thn (hc.run pins s3 σ H3 _ I3 q3) fun w' s4 ⟨z', H4, I4, r4, q4⟩ => thn (ho' pins s4 σ H4 y z' u w' _ I4 r2 r4 q4) fun d5 s5 ⟨z5, H5, I5, r5, k', e5, q5⟩ => ?_))
    subst e5
    cases r5
    refine wpAny_truthy_bool ?_
    cases k' with
    | false => exact ite_ff ⟨.bl false, H5, I5, rfl, q5⟩
    | true => exact ite_tt (chain_last (thn (hd.run pins s5 σ H5 _ I5 q5) fun w6 s6 ⟨z6, H6, I6, r6, q6⟩ => ho'' pins s6 σ H6 z' z6 w' w6 Q I6 r4 r6 q6))
end
end L2
namespace L2
open PySem PySem.Spec PyProof.Rows
def rInKd (neg : Bool) : R2 := fun x y H Q => ∃ a o, y = .ref a ∧ DGet H a x o ∧ Q (.bl (if neg then !o.isSome else o.isSome)) H
theorem op_inKd {X : Cx} (hu : X.A.units + 1 < cLine) : OpR X (compareOp .In) (rInKd false) := by
  intro pins s σ H x y v u Q I rx ry h
  obtain ⟨a, o, rfl, g, q⟩ := h
  cases ry
  exact d_in hu I g rx fun s3 I3 => ⟨.bl o.isSome, H, I3, rfl, q⟩
theorem op_ninKd {X : Cx} (hu : X.A.units + 1 < cLine) : OpR X (compareOp .NotIn) (rInKd true) := by
  intro pins s σ H x y v u Q I rx ry h
  obtain ⟨a, o, rfl, g, q⟩ := h
  cases ry
  exact d_notIn hu I g rx fun s3 I3 => ⟨.bl (!o.isSome), H, I3, rfl, q⟩
end L2

namespace L2
open PySem
theorem for_str {z : Str} {g : TG} {tb : TS} {D : Ends} {σ : L2.St} {H : Hp} (Pv : Nat → L2.St → Hp → Prop) (h0 : Pv 0 σ H)
    (hs : ∀ i c σ H, (TL.tl z)[i]? = some c → Pv i σ H → g (.str ⟨#[c]⟩) σ H fun σ2 H2 => tb { D with nx := Pv (i + 1), ct := Pv (i + 1), bk := D.nx } σ2 H2) (hd : ∀ σ H, Pv z.length σ H → D.nx σ H) :
    ∃ W : Nat → Nat → L2.St → Hp → Prop, (∃ m, W 0 m σ H) ∧ ∀ i m σ H, W i m σ H →
      ((Its z).stop i H ∧ D.nx σ H) ∨ ((Its z).go i H ∧ ∃ N : L2.St → Hp → Prop, (∀ σ' H', N σ' H' → ∃ m', m' < m ∧ W (i + 1) m' σ' H') ∧ ∀ x H', (Its z).yld i H x H' → g x σ H' fun σ2 H2 => tb { D with nx := N, ct := N, bk := D.nx } σ2 H2) := by
  refine ⟨fun i m σ H => m = z.length - i ∧ i ≤ z.length ∧ Pv i σ H, ⟨z.length, by simp, Nat.zero_le _, h0⟩, ?_⟩
  rintro i m σ H ⟨rfl, hi, p⟩
  by_cases hlt : i < z.length
  · refine .inr ⟨hlt, Pv (i + 1), fun σ' H' p' => ⟨z.length - (i + 1), by omega, rfl, hlt, p'⟩, fun x H' y => ?_⟩
    obtain ⟨e, c, hc, ex⟩ := y
    subst e ex
    exact hs i c σ _ (by show z.cps.toList[i]? = some c; rw [Array.getElem?_toList]; exact hc) p
  · have e : i = z.length := by omega
    subst e
    exact .inl ⟨Nat.le_refl _, hd σ H p⟩
end L2
namespace L2
open PySem
theorem pg_tupK {X : Cx} {K : PySem.W.Frag} {es : List Expr} {k : Nat} {t : TGs} {n : Nat} {pos : Pos} (hK : X.K = K) (hc : X.calm = true) (h : PGs X es t)
    (hn : (assignEach es X.env).length = n := by rfl) (hst : (assignEach es X.env).findIdx? (·.1) = none := by rfl) : PG X (.Tuple es k pos) (gTup K n t) := hK ▸ pg_tup hc h hn hst
end L2

namespace L2
open PySem PySem.Spec PyProof.Rows
theorem anyK {X : Cx} {K : PySem.W.Frag} (h : X.K = K) (hc : X.calm = true) : CallR X (.builtin "any") (rAny K) := h ▸ cr_any hc
end L2
namespace L2
open PySem
theorem lenK {X : Cx} {K : PySem.W.Frag} (h : X.K = K) : CallR X (.builtin "len") (fun xs H Q => ∃ p ys, xs = [V.ref p] ∧ (SqL K H p ys ∨ SqT K H p ys) ∧ Q (.int ((ys.length : Nat) : Int)) H) := h ▸ call_len_seq
theorem pi_listK {X : Cx} {K : PySem.W.Frag} {tg l : Expr} {tl : TE} (h : X.K = K) (hl : PE X l tl) : PI X tg l (iList K tl) := h ▸ pi_list hl
theorem pi_tupleK {X : Cx} {K : PySem.W.Frag} {tg l : Expr} {tl : TE} (h : X.K = K) (hl : PE X l tl) : PI X tg l (iTup K tl) := h ▸ pi_tup hl
def rListOf (K : PySem.W.Frag) : List V → Hp → VK → Prop := fun xs H Q => ∃ p ys, xs = [V.ref p] ∧ (SqL K H p ys ∨ SqT K H p ys) ∧ ∀ l, H l = none → Q (.ref l) (upd H l (.lst ys))
def rTupOf (K : PySem.W.Frag) : List V → Hp → VK → Prop := fun xs H Q => ∃ p ys, xs = [V.ref p] ∧ ((SqL K H p ys ∧ ∀ l, H l = none → Q (.ref l) (upd H l (.tup ys))) ∨ (SqT K H p ys ∧ Q (.ref p) H))
theorem listK {X : Cx} {K : PySem.W.Frag} (h : X.K = K) : CallR X (.type "list") (rListOf K) := h ▸ call_list_of
theorem tupleK {X : Cx} {K : PySem.W.Frag} (h : X.K = K) : CallR X (.type "tuple") (rTupOf K) := h ▸ call_tuple_of
end L2

namespace L2
open PySem PySem.Spec PyProof.Rows
theorem eqDK {X : Cx} {K : PySem.W.Frag} (h : X.K = K) (hu : X.A.units + 64 < cLine) : OpR X (compareOp .Eq) (rEqD K) := h ▸ op_eqD hu
theorem neDK {X : Cx} {K : PySem.W.Frag} (h : X.K = K) (hu : X.A.units + 64 < cLine) : OpR X (compareOp .NotEq) (rNeD K) := h ▸ op_neD hu
end L2

namespace L2
open PySem PySem.Spec PyProof.Rows
/-! ### edges: pairs of ints, in a list, a tuple or as the keys of a dict -/
def edD (e : Int × Int) : PyData := .tuple [.int e.1, .int e.2]
theorem edD_lay (e : Int × Int) : (edD e).canLay0 = true := by simp [edD, PyData.canLay0, PyData.canLayAll0]
theorem edD_depth (e : Int × Int) : (edD e).depth = 1 := by simp [edD, PyData.depth, PyData.depthAll]
theorem edDs_lay : ∀ es : List (Int × Int), PyData.canLayAll0 (es.map edD) = true
  | [] => rfl
  | e :: r => by simp [PyData.canLayAll0, edD_lay, edDs_lay r]
theorem edDs_depth : ∀ es : List (Int × Int), PyData.depthAll (es.map edD) ≤ 1
  | [] => Nat.zero_le _
  | e :: r => by
    have := edDs_depth r
    simp only [List.map_cons, PyData.depthAll, edD_depth]
    omega
theorem edD_eqv (e f : Int × Int) : PyData.eqv (edD e) (edD f) = decide (e = f) := by
  obtain ⟨a, b⟩ := e
  obtain ⟨c, d⟩ := f
  simp only [edD, PyData.eqv, PyData.eqvAll]
  by_cases h1 : a = c <;> by_cases h2 : b = d <;> simp [h1, h2]
def EdV (H : Hp) (v : V) (e : Int × Int) : Prop := ∃ p, v = .ref p ∧ H p = some (.tup [.int e.1, .int e.2])
def keyE (e : Int × Int) : List Key := [.inl e.1, .inl e.2]
def Edg (K : PySem.W.Frag) (H : Hp) (y : V) (es : List (Int × Int)) : Prop :=
  (∃ a vs, y = .ref a ∧ (SqL K H a vs ∨ SqT K H a vs) ∧ Paired (EdV H) vs es) ∨ ∃ a kvs, y = .ref a ∧ H a = some (.dT kvs) ∧ kvs.map (·.1) = es.map keyE
def rInE (K : PySem.W.Frag) (neg : Bool) : R2 := fun x y H Q => ∃ (e : Int × Int) (es : List (Int × Int)), EdV H x e ∧ Edg K H y es ∧ Q (.bl (if neg then !decide (e ∈ es) else decide (e ∈ es))) H
theorem edD_shaped (e : Int × Int) : SeqAt.shaped (edD e) = true := by
  have h := edD_depth e
  show ((edD e).canLay0 && decide ((edD e).depth ≤ 64)) = true
  rw [Bool.and_eq_true]
  exact ⟨edD_lay e, decide_eq_true (by omega)⟩
theorem any_edD (e : Int × Int) : ∀ es : List (Int × Int), ((es.map edD).any fun z => PyData.eqv z (edD e)) = decide (e ∈ es)
  | [] => by simp
  | f :: r => by
    rw [List.map_cons, List.any_cons, any_edD e r, edD_eqv]
    by_cases h : f = e
    · subst h; simp
    · have h' : ¬ e = f := fun z => h z.symm
      simp [h, h']
theorem EdV.dp {K : PySem.W.Frag} {H : Hp} {v : V} {e : Int × Int} (h : EdV H v e) : Dp K H v (edD e) := by
  obtain ⟨p, rfl, hp⟩ := h
  exact .tup (.inl (.inl hp)) (.cons (.int _) (.cons (.int _) .nil))
theorem EdV.dps {K : PySem.W.Frag} {H : Hp} : ∀ {vs : List V} {es : List (Int × Int)}, Paired (EdV H) vs es → DpAll K H vs (es.map edD)
  | _, _, .nil => .nil
  | _, _, .cons a b => .cons a.dp (EdV.dps b)
theorem keyE_inj {e f : Int × Int} (h : keyE e = keyE f) : e = f := by
  unfold keyE at h
  simp only [List.cons.injEq, Sum.inl.injEq, and_true] at h
  exact Prod.ext h.1 h.2
theorem val_keyE {kvs : List (List Key × V)} {es : List (Int × Int)} (h : kvs.map (·.1) = es.map keyE) (e : Int × Int) : (valV kvs (keyE e)).isSome = decide (e ∈ es) := by
  unfold valV
  rw [Option.isSome_map, Bool.eq_iff_iff, List.find?_isSome, decide_eq_true_iff]
  constructor
  · rintro ⟨kv, hk, e1⟩
    have e1 : kv.1 = keyE e := of_decide_eq_true e1
    have m : kv.1 ∈ kvs.map (·.1) := List.mem_map_of_mem hk
    rw [h, e1] at m
    obtain ⟨f, hf, ef⟩ := List.mem_map.mp m
    rw [← keyE_inj ef]; exact hf
  · intro he
    have m : keyE e ∈ kvs.map (·.1) := by rw [h]; exact List.mem_map_of_mem he
    obtain ⟨kv, hk, ek⟩ := List.mem_map.mp m
    exact ⟨kv, hk, decide_eq_true ek⟩
theorem room_ed {X : Cx} (hu : X.A.units + 65 < cLine) (e : Int × Int) (es : List (Int × Int)) : X.A.units + 1 + min (PyData.depthAll (es.map edD)) (edD e).depth < cLine := by
  rw [edD_depth]; have := Nat.min_le_right (PyData.depthAll (es.map edD)) 1; omega
theorem op_inE {X : Cx} (hu : X.A.units + 65 < cLine) : OpR X (compareOp .In) (rInE X.K false) := by
  intro pins s σ H x y v u Q I rx ry h
  obtain ⟨e, es, he, hy, q⟩ := h
  have q : Q (.bl (decide (e ∈ es))) H := q
  rcases hy with ⟨a, vs, rfl, sq, pr⟩ | ⟨a, kvs, rfl, ha, hk⟩
  · obtain ⟨as, r1⟩ := Dp.reads I (edD e) x v he.dp rx
    rw [← any_edD] at q
    rcases sq with sq | sq
    · obtain ⟨bs, r2⟩ := Dp.reads I (.list (es.map edD)) (.ref a) u (.lst sq (EdV.dps pr)) ry
      exact SeqAt.in_list_reads r2 r1 (edDs_lay es) (edD_lay e) (room_ed hu e es) ⟨.bl _, H, I, rfl, q⟩
    · obtain ⟨bs, r2⟩ := Dp.reads I (.tuple (es.map edD)) (.ref a) u (.tup sq (EdV.dps pr)) ry
      exact SeqAt.in_tuple_reads r2 r1 (edDs_lay es) (edD_lay e) (room_ed hu e es) ⟨.bl _, H, I, rfl, q⟩
  · obtain ⟨p, rfl, hp⟩ := he
    obtain rfl : u = Value.ref a := ry
    rw [← val_keyE hk] at q
    exact d_in (by omega) I (.inr ⟨kvs, keyE e, p, .inl ha, rfl, hp, rfl⟩) rx fun s3 I3 => ⟨.bl _, H, I3, rfl, q⟩
theorem op_ninE {X : Cx} (hu : X.A.units + 65 < cLine) : OpR X (compareOp .NotIn) (rInE X.K true) := by
  intro pins s σ H x y v u Q I rx ry h
  obtain ⟨e, es, he, hy, q⟩ := h
  have q : Q (.bl (!decide (e ∈ es))) H := q
  rcases hy with ⟨a, vs, rfl, sq, pr⟩ | ⟨a, kvs, rfl, ha, hk⟩
  · obtain ⟨as, r1⟩ := Dp.reads I (edD e) x v he.dp rx
    rw [← any_edD] at q
    rcases sq with sq | sq
    · obtain ⟨bs, r2⟩ := Dp.reads I (.list (es.map edD)) (.ref a) u (.lst sq (EdV.dps pr)) ry
      exact SeqAt.notIn_list_reads r2 r1 (edDs_lay es) (edD_lay e) (room_ed hu e es) ⟨.bl _, H, I, rfl, q⟩
    · obtain ⟨bs, r2⟩ := Dp.reads I (.tuple (es.map edD)) (.ref a) u (.tup sq (EdV.dps pr)) ry
      exact SeqAt.notIn_tuple_reads r2 r1 (edDs_lay es) (edD_lay e) (room_ed hu e es) ⟨.bl _, H, I, rfl, q⟩
  · obtain ⟨p, rfl, hp⟩ := he
    obtain rfl : u = Value.ref a := ry
    rw [← val_keyE hk] at q
    exact d_notIn (by omega) I (.inr ⟨kvs, keyE e, p, .inl ha, rfl, hp, rfl⟩) rx fun s3 I3 => ⟨.bl _, H, I3, rfl, q⟩
end L2
namespace L2
open PySem
theorem hu65 {k : Nat} {A : Around} (r : Room k A) : A.units + 65 < cLine := by have := r.un; omega
theorem inEK {X : Cx} {K : PySem.W.Frag} (h : X.K = K) (hu : X.A.units + 65 < cLine) : OpR X (compareOp .In) (rInE K false) := h ▸ op_inE hu
theorem ninEK {X : Cx} {K : PySem.W.Frag} (h : X.K = K) (hu : X.A.units + 65 < cLine) : OpR X (compareOp .NotIn) (rInE K true) := h ▸ op_ninE hu
end L2
namespace L2
open PySem
end L2

namespace L2
open PySem PySem.Spec PyProof.Rows
theorem edDs_plain (es : List (Int × Int)) : PyData.plainAll (es.map edD) = true := by
  induction es with
  | nil => rfl
  | cons e r ih =>
    show (PyData.plain (edD e) && PyData.plainAll (r.map edD)) = true
    rw [ih, Bool.and_true]; rfl
theorem place_ed {e : Int × Int} : ∀ {es : List (Int × Int)} {j : Nat}, es[j]? = some e → (∀ m, m < j → es[m]? ≠ some e) → SeqAt.dataPlace (es.map edD) (edD e) = some j
  | [], j, h, _ => by simp at h
  | f :: r, 0, h, _ => by
    have h : f = e := Option.some.inj h
    unfold SeqAt.dataPlace
    rw [List.map_cons, List.findIdx?_cons, edD_eqv, h]
    simp
  | f :: r, j + 1, h, hn => by
    have hne : f ≠ e := fun z => hn 0 (Nat.succ_pos _) (by rw [z]; rfl)
    have ih := place_ed (es := r) (j := j) h (fun m hm => hn (m + 1) (Nat.succ_lt_succ hm))
    unfold SeqAt.dataPlace at ih ⊢
    rw [List.map_cons, List.findIdx?_cons, edD_eqv, ih]
    simp [hne]
/-- o.remove(e): lists of pairs, the pair being there -/
def tRemE (K : PySem.W.Frag) (to te : TE) : TE := fun σ H Q => to σ H fun x H1 => tyV K "list" x H1 ∧ te σ H1 fun y H2 => ∃ (l : Addr) (vs : List V) (es : List (Int × Int)) (e : Int × Int) (j : Nat), x = .ref l ∧ H2 l = some (.lst vs) ∧ Paired (EdV H2) vs es ∧ EdV H2 y e ∧
  es[j]? = some e ∧ (∀ m, m < j → es[m]? ≠ some e) ∧ Q .non (upd H2 l (.lst (vs.eraseIdx j)))
section
variable {X : Cx} {o e : Expr} {to te : TE} {apos cpos : Pos}
theorem pe_remE (hu : X.A.units + 65 < cLine) (ho : PE X o to) (he : PE X e te) (hbase : attributeBase o "remove" X.env (eval o X.env) = eval o X.env := by rfl)
    (hfew : ((backTo cpos (starEach [e] X.env)).all (fun x => !x.1) && (backToKw cpos (keywordEach [] X.env)).all (fun x => x.1.isSome)
      && decide (([e] : List Expr).length + ([] : List Keyword).length + (if ([] : List Keyword).isEmpty then 0 else 1) < 30)) = true := by rfl)
    (hline : (apos.endLine == cpos.line) = true := by rfl) (hs : starEach [e] X.env = (false, eval e X.env) :: starEach [] X.env := by rfl) (hplain : (backTo cpos (starEach [] X.env)).any (·.1) = false := by rfl) :
    PE X (.Call (.Attribute o "remove" apos) [e] [] cpos) (tRemE X.K to te) := by
  refine ⟨fun pins s σ H Q I h => ?_⟩
  refine wpAny_Call_method_late hbase hfew hline rfl (thn (ho.run pins s σ H _ I h) fun v s1 ⟨x, H1, I1, r1, ty, q1⟩ => ?_)
  obtain ⟨h1, h2⟩ := tyV_is I1 r1 ty
  refine ⟨"list", _, PySem.F.plainAttrs_list, PySem.F.slot_list_remove, PySem.F.type_list_remove, h1, h2, ?_⟩
  rw [hs]
  refine Calls.callWith_builtin (by show (false || (backTo cpos (starEach [] X.env)).any (·.1)) = false; rw [hplain] <;> rfl) (Calls.evalArgs_plain ?_)
  show wpAny _ _ (spliced ((false, eval e X.env) :: backTo cpos (starEach [] X.env))) _ _ s1
  refine Calls.spliced_cons (thn (he.run pins s1 σ H1 _ I1 q1) fun u s2 ⟨y, H2, I2, ry, q2⟩ => ?_)
  refine Calls.spliced_nil ?_
  obtain ⟨l, vs, es, p, j, ex, hH, pr, hy, hj, hn, q⟩ := q2
  subst ex
  cases (show v = Value.ref l from r1)
  obtain ⟨z, its, n, r, hl, e0⟩ := I2.lstM hH
  obtain ⟨as, rs⟩ := Dp.readsAll I2 (es.map edD) vs its (EdV.dps pr) r
  obtain ⟨bs, rx⟩ := Dp.reads I2 (edD p) y u hy.dp ry
  have hsz : its.toArray.size ≤ sizeLine := by rw [List.size_toArray, ← hl]; exact z
  refine SeqAt.remove_list_data (vs := its.toArray) (j := j) ⟨_, e0, rfl, _, rfl⟩ rs rx (edDs_plain es) rfl (room_ed hu p es) (place_ed hj hn) hsz ?_
  refine ⟨.non, _, I2.lset (its' := its.eraseIdx j) hH e0 ?_ (r.eraseIdx j) ?_, rfl, q⟩
  · show its.toArray.eraseIdxIfInBounds j = (its.eraseIdx j).toArray
    rw [List.eraseIdxIfInBounds_toArray]
  · have := List.length_eraseIdx_le vs j
    omega
end
end L2

namespace L2
open PySem PySem.Spec PyProof.Rows
/-! ### for x in s, s a list or a tuple -/
def iSq (K : PySem.W.Frag) (tl : TE) : TI := fun σ H R => tl σ H fun x H1 => ∃ a, x = .ref a ∧ (((∃ xs, SqL K H1 a xs) ∧ R (Itl K a) H1) ∨ ((∃ xs, SqT K H1 a xs) ∧ R (Itt K a) H1))
theorem pi_sq {X : Cx} {tg l : Expr} {tl : TE} (hl : PE X l tl) : PI X tg l (iSq X.K tl) := by
  refine ⟨fun pins s σ H R I h => ?_⟩
  refine thn (hl.run pins s σ H _ I h) fun v s1 ⟨x, H1, I1, r1, q1⟩ => ?_
  obtain ⟨a, e, q1⟩ := q1
  subst e
  cases r1
  rcases q1 with ⟨⟨xs, hq⟩, q⟩ | ⟨⟨xs, hq⟩, q⟩
  · obtain ⟨its, rv, p, hz⟩ := I1.list hq
    refine wpAny_pyIter_list p.isList ?_
    refine ⟨s1.heap.objs.size, [s1.heap.objs.size], _, _, H1, rfl, I1.kept (t' := s1.toks) fun b o e => Heap.get?_push_of_some _ e, turn_list a _, ⟨_, Heap.get?_push_size _ rfl, rfl, rfl⟩, fun b hb => ?_, q⟩
    have e : b = s1.heap.objs.size := by simpa using hb
    subst e
    exact I1.fpOk (Nat.le_refl _) (I1.hok.fresh (Nat.le_refl _))
  · obtain ⟨its, rv, p, hz⟩ := I1.tuple hq
    refine wpAny_pyIter_tuple (show s1.heap.IsTuple a its.toArray from p) ?_
    refine ⟨s1.heap.objs.size, [s1.heap.objs.size], _, _, H1, rfl, I1.kept (t' := s1.toks) fun b o e => Heap.get?_push_of_some _ e, turn_tuple a _, ⟨_, Heap.get?_push_size _ rfl, rfl, rfl⟩, fun b hb => ?_, q⟩
    have e : b = s1.heap.objs.size := by simpa using hb
    subst e
    exact I1.fpOk (Nat.le_refl _) (I1.hok.fresh (Nat.le_refl _))
theorem pi_sqK {X : Cx} {K : PySem.W.Frag} {tg l : Expr} {tl : TE} (h : X.K = K) (hl : PE X l tl) : PI X tg l (iSq K tl) := h ▸ pi_sq hl
theorem minK {X : Cx} {K : PySem.W.Frag} (h : X.K = K) (hc : X.calm = true) : CallR X (.builtin "min") (rMin K) := h ▸ cr_min hc
/-- the walk of a list or a tuple, one proof for both -/
def SqS (K : PySem.W.Frag) (H : Hp) (a : Addr) (xs : List V) : Prop := SqL K H a xs ∨ SqT K H a xs
theorem for_sq {K : PySem.W.Frag} {a : Addr} {xs : List V} {g : TG} {tb : TS} {D : Ends} {σ : L2.St} {H0 H : Hp} (hS : SqS K H0 a xs) (Pv : Nat → L2.St → Hp → Prop) (h0 : Pv 0 σ H)
    (hl : ∀ i σ H', i ≤ xs.length → Pv i σ H' → (SqL K H0 a xs → SqL K H' a xs) ∧ (SqT K H0 a xs → SqT K H' a xs))
    (hs : ∀ i x σ H, xs[i]? = some x → Pv i σ H → g x σ H fun σ2 H2 => tb { D with nx := Pv (i + 1), ct := Pv (i + 1), bk := D.nx } σ2 H2) (hd : ∀ σ H, Pv xs.length σ H → D.nx σ H) :
    ((∃ ys, SqL K H a ys) ∧ ∃ W : Nat → Nat → L2.St → Hp → Prop, (∃ m, W 0 m σ H) ∧ ∀ i m σ H, W i m σ H →
      ((Itl K a).stop i H ∧ D.nx σ H) ∨ ((Itl K a).go i H ∧ ∃ N : L2.St → Hp → Prop, (∀ σ' H', N σ' H' → ∃ m', m' < m ∧ W (i + 1) m' σ' H') ∧ ∀ x H', (Itl K a).yld i H x H' → g x σ H' fun σ2 H2 => tb { D with nx := N, ct := N, bk := D.nx } σ2 H2)) ∨
    ((∃ ys, SqT K H a ys) ∧ ∃ W : Nat → Nat → L2.St → Hp → Prop, (∃ m, W 0 m σ H) ∧ ∀ i m σ H, W i m σ H →
      ((Itt K a).stop i H ∧ D.nx σ H) ∨ ((Itt K a).go i H ∧ ∃ N : L2.St → Hp → Prop, (∀ σ' H', N σ' H' → ∃ m', m' < m ∧ W (i + 1) m' σ' H') ∧ ∀ x H', (Itt K a).yld i H x H' → g x σ H' fun σ2 H2 => tb { D with nx := N, ct := N, bk := D.nx } σ2 H2)) := by
  rcases hS with hS | hS
  · exact .inl ⟨⟨_, (hl 0 σ H (Nat.zero_le _) h0).1 hS⟩, for_list Pv h0 (fun i σ H' hi p => (hl i σ H' hi p).1 hS) hs hd⟩
  · exact .inr ⟨⟨_, (hl 0 σ H (Nat.zero_le _) h0).2 hS⟩, for_tup Pv h0 (fun i σ H' hi p => (hl i σ H' hi p).2 hS) hs hd⟩
theorem lc_sq {K : PySem.W.Frag} {a : Addr} {xs : List V} {g : TG} {tt : TT} {te : TE} {vs : List Nat} {σ : L2.St} {H0 H1 : Hp} {Q : Addr → Hp → Prop} (hS : SqS K H0 a xs) (h1 : (SqL K H0 a xs → SqL K H1 a xs) ∧ (SqT K H0 a xs → SqT K H1 a xs)) (Pv : Addr → Nat → Hp → Prop) (h0 : ∀ D, H1 D = none → Pv D 0 (upd H1 D (.lst [])))
    (hl : ∀ D i H', H1 D = none → i ≤ xs.length → Pv D i H' → (SqL K H0 a xs → SqL K H' a xs) ∧ (SqT K H0 a xs → SqT K H' a xs))
    (hs : ∀ D, H1 D = none → ∀ i x H, xs[i]? = some x → Pv D i H → g x (wipe σ vs) H fun σ2 H2 => wipe σ2 vs = wipe σ vs ∧ tt σ2 H2 fun b H3 =>
      if b = true then te σ2 H3 fun y H4 => ∃ acc, H4 D = some (.lst acc) ∧ acc.length < sizeLine ∧ Pv D (i + 1) (upd H4 D (.lst (acc ++ [y]))) else Pv D (i + 1) H3) (hd : ∀ D, H1 D = none → ∀ H, Pv D xs.length H → Q D H) :
    ((∃ ys, SqL K H1 a ys) ∧ ∀ D, H1 D = none → ∃ W : Nat → Nat → Hp → Prop, (∃ m, W 0 m (upd H1 D (.lst []))) ∧ ∀ i m H, W i m H →
      ((Itl K a).stop i H ∧ Q D H) ∨ ((Itl K a).go i H ∧ ∃ Nx : Hp → Prop, (∀ H', Nx H' → ∃ m', m' < m ∧ W (i + 1) m' H') ∧ ∀ x H', (Itl K a).yld i H x H' → g x (wipe σ vs) H' fun σ2 H2 => wipe σ2 vs = wipe σ vs ∧ tt σ2 H2 fun b H3 =>
        if b = true then te σ2 H3 fun y H4 => ∃ acc, H4 D = some (.lst acc) ∧ acc.length < sizeLine ∧ Nx (upd H4 D (.lst (acc ++ [y]))) else Nx H3)) ∨
    ((∃ ys, SqT K H1 a ys) ∧ ∀ D, H1 D = none → ∃ W : Nat → Nat → Hp → Prop, (∃ m, W 0 m (upd H1 D (.lst []))) ∧ ∀ i m H, W i m H →
      ((Itt K a).stop i H ∧ Q D H) ∨ ((Itt K a).go i H ∧ ∃ Nx : Hp → Prop, (∀ H', Nx H' → ∃ m', m' < m ∧ W (i + 1) m' H') ∧ ∀ x H', (Itt K a).yld i H x H' → g x (wipe σ vs) H' fun σ2 H2 => wipe σ2 vs = wipe σ vs ∧ tt σ2 H2 fun b H3 =>
        if b = true then te σ2 H3 fun y H4 => ∃ acc, H4 D = some (.lst acc) ∧ acc.length < sizeLine ∧ Nx (upd H4 D (.lst (acc ++ [y]))) else Nx H3)) := by
  rcases hS with hS | hS
  · exact .inl ⟨⟨_, h1.1 hS⟩, fun D hD => lc_list (K := K) (a := a) (Pv D) (h0 D hD) (fun i H' hi p => (hl D i H' hD hi p).1 hS) (fun i x H => hs D hD i x H) (hd D hD)⟩
  · exact .inr ⟨⟨_, h1.2 hS⟩, fun D hD => lc_tup (K := K) (a := a) (Pv D) (h0 D hD) (fun i H' hi p => (hl D i H' hD hi p).2 hS) (fun i x H => hs D hD i x H) (hd D hD)⟩
end L2

namespace My
open PySem L2
abbrev PP : Program := PySem.Challenge.pw_weblocks_k56_waits_for_one_another
def topS (i : Nat) : Stmt := PySem.Challenge.pw_weblocks_k56_waits_for_one_another.main.body.getD i (.Pass ⟨0, 0, 0, 0⟩)
abbrev S_Standing_init : Stmt := inClass (topS 23) 0
abbrev S_Standing_check : Stmt := inClass (topS 23) 1
abbrev S_Standing_take : Stmt := inClass (topS 23) 2
abbrev S_Standing_held_mode : Stmt := inClass (topS 23) 7
abbrev S_Standing_copy : Stmt := inClass (topS 23) 12
abbrev S_distances : Stmt := topS 25
abbrev S_ring_from : Stmt := topS 26
abbrev S_shortest_ring : Stmt := topS 27
abbrev S_Weaving_init : Stmt := inClass (topS 30) 0
abbrev S_Weaving_add : Stmt := inClass (topS 30) 1
abbrev S_Weaving_iter : Stmt := inClass (topS 30) 3
abbrev S_Weaving_len : Stmt := inClass (topS 30) 4
abbrev S_Weavingascending : Stmt := inClass (topS 30) 6
abbrev S_Weaving_standing_of : Stmt := inClass (topS 30) 7
abbrev S_Weaving_holders : Stmt := inClass (topS 30) 9
abbrev S_suitable : Stmt := topS 32
abbrev S_Web_init : Stmt := inClass (topS 33) 1
abbrev S_Web_put : Stmt := inClass (topS 33) 2
abbrev S_Web_getitem : Stmt := inClass (topS 33) 3
abbrev S_Web_contains : Stmt := inClass (topS 33) 6
abbrev S_Web_mark_of : Stmt := inClass (topS 33) 8
abbrev S_waits : Stmt := topS 35
abbrev S_is_mark : Stmt := topS 39
abbrev S_sound_row : Stmt := topS 40
abbrev S_barren : Stmt := topS 41
abbrev S_Shape_init : Stmt := inClass (topS 42) 2
abbrev S_Shape_getitem : Stmt := inClass (topS 42) 3
abbrev S_Shape_modes_of : Stmt := inClass (topS 42) 10
abbrev S__law_draws : Stmt := topS 44
abbrev S__law_take : Stmt := topS 45
abbrev S__law_same : Stmt := topS 46
abbrev S__law_marks : Stmt := topS 47
abbrev S__law_rows : Stmt := topS 48
abbrev S__law_things : Stmt := topS 49
abbrev S__law_do : Stmt := topS 50
abbrev S__law_shared : Stmt := topS 51
abbrev S__law_free : Stmt := topS 52
abbrev S__law_shape : Stmt := topS 53
abbrev S__law_put : Stmt := topS 54
abbrev S__law_web : Stmt := topS 55
abbrev S__law_ring : Stmt := topS 56
abbrev S__law_names : Stmt := topS 57
abbrev S__law_choices : Stmt := topS 58
abbrev S__law_begun : Stmt := topS 59
abbrev S__law_wants : Stmt := topS 60
abbrev S__law_due : Stmt := topS 61
abbrev S__law_asked : Stmt := topS 62
abbrev S_law : Stmt := topS 63
abbrev S_BadShape_init : Stmt := inClass (topS 3) 0
abbrev S_UnknownMark_init : Stmt := inClass (topS 4) 0
abbrev S_TooLarge_init : Stmt := inClass (topS 8) 0
abbrev S_BadParents_init : Stmt := inClass (topS 5) 0
abbrev S_NoThing_init : Stmt := inClass (topS 6) 0
abbrev S_BadStep_init : Stmt := inClass (topS 7) 0
abbrev S_Refused_init : Stmt := inClass (topS 11) 0
theorem sc_Standing_init : FnScope ["self", "web"] ["self", "web"] (defScope S_Standing_init) := ⟨rfl, rfl, rfl, by decide +kernel, rfl, by decide +kernel, by decide +kernel⟩
theorem sc_Standing_check : FnScope ["self", "step", "deed", "thing"] ["self", "step"] (defScope S_Standing_check) := ⟨rfl, rfl, rfl, by decide +kernel, rfl, by decide +kernel, by decide +kernel⟩
theorem sc_Standing_take : FnScope ["self", "step", "deed", "thing"] ["self", "step"] (defScope S_Standing_take) := ⟨rfl, rfl, rfl, by decide +kernel, rfl, by decide +kernel, by decide +kernel⟩
theorem sc_Standing_held_mode : FnScope ["self", "thing"] ["self", "thing"] (defScope S_Standing_held_mode) := ⟨rfl, rfl, rfl, by decide +kernel, rfl, by decide +kernel, by decide +kernel⟩
theorem sc_Standing_copy : FnScope ["self", "twin", "thing", "mode"] ["self"] (defScope S_Standing_copy) := ⟨rfl, rfl, rfl, by decide +kernel, rfl, by decide +kernel, by decide +kernel⟩
theorem sc_distances : FnScope ["goal", "nodes", "edges", "found", "layer", "steps", "further", "node", "other"] ["goal", "nodes", "edges"] (defScope S_distances) := ⟨rfl, rfl, rfl, by decide +kernel, rfl, by decide +kernel, by decide +kernel⟩
theorem sc_ring_from : FnScope ["first", "nodes", "edges", "found", "lengths", "node", "left", "length", "ring"] ["first", "nodes", "edges"] (defScope S_ring_from) := ⟨rfl, rfl, rfl, by decide +kernel, rfl, by decide +kernel, by decide +kernel⟩
theorem sc_shortest_ring : FnScope ["nodes", "edges", "best", "first", "ring"] ["nodes", "edges"] (defScope S_shortest_ring) := ⟨rfl, rfl, rfl, by decide +kernel, rfl, by decide +kernel, by decide +kernel⟩
theorem sc_Weaving_init : FnScope ["self", "web"] ["self", "web"] (defScope S_Weaving_init) := ⟨rfl, rfl, rfl, by decide +kernel, rfl, by decide +kernel, by decide +kernel⟩
theorem sc_Weaving_add : FnScope ["self", "name", "step", "deed", "thing", "standing", "holder", "mode", "lockers", "other"] ["self", "name", "step"] (defScope S_Weaving_add) := ⟨rfl, rfl, rfl, by decide +kernel, rfl, by decide +kernel, by decide +kernel⟩
theorem sc_Weaving_iter : FnScope ["self"] ["self"] (defScope S_Weaving_iter) := ⟨rfl, rfl, rfl, by decide +kernel, rfl, by decide +kernel, by decide +kernel⟩
theorem sc_Weaving_len : FnScope ["self"] ["self"] (defScope S_Weaving_len) := ⟨rfl, rfl, rfl, by decide +kernel, rfl, by decide +kernel, by decide +kernel⟩
theorem sc_Weavingascending : FnScope ["self", "name"] ["self"] (defScope S_Weavingascending) := ⟨rfl, rfl, rfl, by decide +kernel, rfl, by decide +kernel, by decide +kernel⟩
theorem sc_Weaving_standing_of : FnScope ["self", "name"] ["self", "name"] (defScope S_Weaving_standing_of) := ⟨rfl, rfl, rfl, by decide +kernel, rfl, by decide +kernel, by decide +kernel⟩
theorem sc_Weaving_holders : FnScope ["self", "thing", "found", "name", "mode"] ["self", "thing"] (defScope S_Weaving_holders) := ⟨rfl, rfl, rfl, by decide +kernel, rfl, by decide +kernel, by decide +kernel⟩
theorem sc_suitable : FnScope ["web", "row", "parents", "place", "parent"] ["web", "row", "parents"] (defScope S_suitable) := ⟨rfl, rfl, rfl, by decide +kernel, rfl, by decide +kernel, by decide +kernel⟩
theorem sc_Web_init : FnScope ["self", "shape"] ["self", "shape"] (defScope S_Web_init) := ⟨rfl, rfl, rfl, by decide +kernel, rfl, by decide +kernel, by decide +kernel⟩
theorem sc_Web_put : FnScope ["self", "mark", "parents", "row", "parent", "number"] ["self", "mark", "parents"] (defScope S_Web_put) := ⟨rfl, rfl, rfl, by decide +kernel, rfl, by decide +kernel, by decide +kernel⟩
theorem sc_Web_getitem : FnScope ["self", "thing"] ["self", "thing"] (defScope S_Web_getitem) := ⟨rfl, rfl, rfl, by decide +kernel, rfl, by decide +kernel, by decide +kernel⟩
theorem sc_Web_contains : FnScope ["self", "thing"] ["self", "thing"] (defScope S_Web_contains) := ⟨rfl, rfl, rfl, by decide +kernel, rfl, by decide +kernel, by decide +kernel⟩
theorem sc_Web_mark_of : FnScope ["self", "thing"] ["self", "thing"] (defScope S_Web_mark_of) := ⟨rfl, rfl, rfl, by decide +kernel, rfl, by decide +kernel, by decide +kernel⟩
theorem sc_waits : FnScope ["weaving", "wants", "names", "edges", "name", "step", "holder", "mode"] ["weaving", "wants"] (defScope S_waits) := ⟨rfl, rfl, rfl, by decide +kernel, rfl, by decide +kernel, by decide +kernel⟩
theorem sc_is_mark : FnScope ["text", "sign"] ["text"] (defScope S_is_mark) := ⟨rfl, rfl, rfl, by decide +kernel, rfl, by decide +kernel, by decide +kernel⟩
theorem sc_sound_row : FnScope ["row", "before", "mark", "parents", "least", "most", "shared", "good", "place", "parent"] ["row", "before"] (defScope S_sound_row) := ⟨rfl, rfl, rfl, by decide +kernel, rfl, by decide +kernel, by decide +kernel⟩
theorem sc_barren : FnScope ["rows", "known", "grown", "mark", "parents", "least", "_", "parent", "row"] ["rows"] (defScope S_barren) := ⟨rfl, rfl, rfl, by decide +kernel, rfl, by decide +kernel, by decide +kernel⟩
theorem sc_Shape_init : FnScope ["self", "rows", "listed", "marks", "row", "parent", "lost"] ["self", "rows"] (defScope S_Shape_init) := ⟨rfl, rfl, rfl, by decide +kernel, rfl, by decide +kernel, by decide +kernel⟩
theorem sc_Shape_getitem : FnScope ["self", "mark", "row"] ["self", "mark"] (defScope S_Shape_getitem) := ⟨rfl, rfl, rfl, by decide +kernel, rfl, by decide +kernel, by decide +kernel⟩
theorem sc_Shape_modes_of : FnScope ["self", "mark"] ["self", "mark"] (defScope S_Shape_modes_of) := ⟨rfl, rfl, rfl, by decide +kernel, rfl, by decide +kernel, by decide +kernel⟩
theorem sc__law_draws : FnScope ["_law_script", "_law_draws_here", "_law_cell", "_law_rest", "_law_k", "_law_mixed"] ["_law_script"] (defScope S__law_draws) := ⟨rfl, rfl, rfl, by decide +kernel, rfl, by decide +kernel, by decide +kernel⟩
theorem sc__law_take : FnScope ["_law_draws_here", "_law_at", "_law_size"] ["_law_draws_here", "_law_at", "_law_size"] (defScope S__law_take) := ⟨rfl, rfl, rfl, by decide +kernel, rfl, by decide +kernel, by decide +kernel⟩
theorem sc__law_same : FnScope ["_law_actual", "_law_expected", "_law_k"] ["_law_actual", "_law_expected"] (defScope S__law_same) := ⟨rfl, rfl, rfl, by decide +kernel, rfl, by decide +kernel, by decide +kernel⟩
theorem sc__law_marks : FnScope ["_law_draws_here", "_law_at", "_law_count", "_law_letters", "_law_shift", "_law_front", "_law_marks_here", "_law_k", "_law_size", "_law_first", "_law_rest", "_law_j", "_law_sign"] ["_law_draws_here", "_law_at", "_law_count"] (defScope S__law_marks) := ⟨rfl, rfl, rfl, by decide +kernel, rfl, by decide +kernel, by decide +kernel⟩
theorem sc__law_rows : FnScope ["_law_draws_here", "_law_at", "_law_exclusive", "_law_marks_here", "_law_rows_here", "_law_k", "_law_mask", "_law_parents", "_law_j", "_law_most", "_law_least", "_law_mark", "_law_shared_here"] ["_law_draws_here", "_law_at", "_law_exclusive"] (defScope S__law_rows) := ⟨rfl, rfl, rfl, by decide +kernel, rfl, by decide +kernel, by decide +kernel⟩
theorem sc__law_things : FnScope ["_law_draws_here", "_law_at", "_law_rows_here", "_law_count", "_law_things_here", "_law_k", "_law_row", "_law_able", "_law_j", "_law_most", "_law_size", "_law_chosen", "_law_pick"] ["_law_draws_here", "_law_at", "_law_rows_here", "_law_count"] (defScope S__law_things) := ⟨rfl, rfl, rfl, by decide +kernel, rfl, by decide +kernel, by decide +kernel⟩
theorem sc__law_do : FnScope ["_law_state", "_law_step"] ["_law_state", "_law_step"] (defScope S__law_do) := ⟨rfl, rfl, rfl, by decide +kernel, rfl, by decide +kernel, by decide +kernel⟩
theorem sc__law_shared : FnScope ["_law_rows_here", "_law_mark", "_law_row"] ["_law_rows_here", "_law_mark"] (defScope S__law_shared) := ⟨rfl, rfl, rfl, by decide +kernel, rfl, by decide +kernel, by decide +kernel⟩
theorem sc__law_free : FnScope ["_law_states", "_law_name", "_law_step", "_law_other"] ["_law_states", "_law_name", "_law_step"] (defScope S__law_free) := ⟨rfl, rfl, rfl, by decide +kernel, rfl, by decide +kernel, by decide +kernel⟩
theorem sc__law_shape : FnScope ["_law_rows_here", "_law_made", "_law_row"] ["_law_rows_here"] (defScope S__law_shape) := ⟨rfl, rfl, rfl, by decide +kernel, rfl, by decide +kernel, by decide +kernel⟩
theorem sc__law_put : FnScope ["_law_web_here", "_law_mark", "_law_parents"] ["_law_web_here", "_law_mark", "_law_parents"] (defScope S__law_put) := ⟨rfl, rfl, rfl, by decide +kernel, rfl, by decide +kernel, by decide +kernel⟩
theorem sc__law_web : FnScope ["_law_shape_here", "_law_things_here", "_law_web_here", "_law_thing"] ["_law_shape_here", "_law_things_here"] (defScope S__law_web) := ⟨rfl, rfl, rfl, by decide +kernel, rfl, by decide +kernel, by decide +kernel⟩
theorem sc__law_ring : FnScope ["_law_nodes", "_law_edges", "_law_size", "_law_paths", "_law_node", "_law_k", "_law_longer", "_law_path"] ["_law_nodes", "_law_edges"] (defScope S__law_ring) := ⟨rfl, rfl, rfl, by decide +kernel, rfl, by decide +kernel, by decide +kernel⟩
theorem sc__law_names : FnScope ["_law_draws_here", "_law_at", "_law_left", "_law_names_here", "_law_k", "_law_pick"] ["_law_draws_here", "_law_at"] (defScope S__law_names) := ⟨rfl, rfl, rfl, by decide +kernel, rfl, by decide +kernel, by decide +kernel⟩
theorem sc__law_choices : FnScope ["_law_rows_here", "_law_things_here", "_law_states", "_law_plain", "_law_choices_here", "_law_place", "_law_thing", "_law_mode", "_law_steps", "_law_step"] ["_law_rows_here", "_law_things_here", "_law_states", "_law_plain"] (defScope S__law_choices) := ⟨rfl, rfl, rfl, by decide +kernel, rfl, by decide +kernel, by decide +kernel⟩
theorem sc__law_begun : FnScope ["_law_draws_here", "_law_at", "_law_rows_here", "_law_things_here", "_law_states", "_law_events", "_law_place", "_law_thing", "_law_step"] ["_law_draws_here", "_law_at", "_law_rows_here", "_law_things_here", "_law_states"] (defScope S__law_begun) := ⟨rfl, rfl, rfl, by decide +kernel, rfl, by decide +kernel, by decide +kernel⟩
theorem sc__law_wants : FnScope ["_law_draws_here", "_law_at", "_law_rows_here", "_law_things_here", "_law_names_here", "_law_wants_here", "_law_k", "_law_place", "_law_thing", "_law_deed"] ["_law_draws_here", "_law_at", "_law_rows_here", "_law_things_here", "_law_names_here"] (defScope S__law_wants) := ⟨rfl, rfl, rfl, by decide +kernel, rfl, by decide +kernel, by decide +kernel⟩
theorem sc__law_due : FnScope ["_law_states", "_law_names_here", "_law_wants_here", "_law_nodes", "_law_edges", "_law_want", "_law_place", "_law_mode", "_law_both", "_law_node"] ["_law_states", "_law_names_here", "_law_wants_here"] (defScope S__law_due) := ⟨rfl, rfl, rfl, by decide +kernel, rfl, by decide +kernel, by decide +kernel⟩
theorem sc__law_asked : FnScope ["_law_weaving", "_law_states", "_law_names_here", "_law_wants_here", "_law_passed", "_law_want"] ["_law_weaving", "_law_states", "_law_names_here", "_law_wants_here"] (defScope S__law_asked) := ⟨rfl, rfl, rfl, by decide +kernel, rfl, by decide +kernel, by decide +kernel⟩
theorem sc_law : FnScope ["_law_script", "_law_draws_here", "_law_at", "_law_rows_here", "_law_things_here", "_law_names_here", "_law_weaving", "_law_states", "_law_name", "_law_thing", "_law_events", "_law_plain", "_law_k", "_law_choices_here", "_law_event", "_law_wants_here", "_law_held", "_law_outside", "e"] ["_law_script"] (defScope S_law) := ⟨rfl, rfl, rfl, by decide +kernel, rfl, by decide +kernel, by decide +kernel⟩
structure Txt (K : PySem.W.Frag) (mg : Str → Option Value) where
  a_Standing_init : Addr
  fd_Standing_init : FuncData
  F_Standing_init : Fun K "__init__" "Standing.__init__" S_Standing_init a_Standing_init fd_Standing_init
  b_Standing_init : Binds K fd_Standing_init ["self", "web"] []
  a_Standing_check : Addr
  fd_Standing_check : FuncData
  F_Standing_check : Fun K "check" "Standing.check" S_Standing_check a_Standing_check fd_Standing_check
  b_Standing_check : Binds K fd_Standing_check ["self", "step"] []
  a_Standing_take : Addr
  fd_Standing_take : FuncData
  F_Standing_take : Fun K "take" "Standing.take" S_Standing_take a_Standing_take fd_Standing_take
  b_Standing_take : Binds K fd_Standing_take ["self", "step"] []
  a_Standing_held_mode : Addr
  fd_Standing_held_mode : FuncData
  F_Standing_held_mode : Fun K "held_mode" "Standing.held_mode" S_Standing_held_mode a_Standing_held_mode fd_Standing_held_mode
  b_Standing_held_mode : Binds K fd_Standing_held_mode ["self", "thing"] []
  a_Standing_copy : Addr
  fd_Standing_copy : FuncData
  F_Standing_copy : Fun K "copy" "Standing.copy" S_Standing_copy a_Standing_copy fd_Standing_copy
  b_Standing_copy : Binds K fd_Standing_copy ["self"] []
  a_distances : Addr
  fd_distances : FuncData
  F_distances : Fun K "distances" "distances" S_distances a_distances fd_distances
  b_distances : Binds K fd_distances ["goal", "nodes", "edges"] []
  g_distances : mg "distances" = some (.ref a_distances)
  a_ring_from : Addr
  fd_ring_from : FuncData
  F_ring_from : Fun K "ring_from" "ring_from" S_ring_from a_ring_from fd_ring_from
  b_ring_from : Binds K fd_ring_from ["first", "nodes", "edges"] []
  g_ring_from : mg "ring_from" = some (.ref a_ring_from)
  a_shortest_ring : Addr
  fd_shortest_ring : FuncData
  F_shortest_ring : Fun K "shortest_ring" "shortest_ring" S_shortest_ring a_shortest_ring fd_shortest_ring
  b_shortest_ring : Binds K fd_shortest_ring ["nodes", "edges"] []
  g_shortest_ring : mg "shortest_ring" = some (.ref a_shortest_ring)
  a_Weaving_init : Addr
  fd_Weaving_init : FuncData
  F_Weaving_init : Fun K "__init__" "Weaving.__init__" S_Weaving_init a_Weaving_init fd_Weaving_init
  b_Weaving_init : Binds K fd_Weaving_init ["self", "web"] []
  a_Weaving_add : Addr
  fd_Weaving_add : FuncData
  F_Weaving_add : Fun K "add" "Weaving.add" S_Weaving_add a_Weaving_add fd_Weaving_add
  b_Weaving_add : Binds K fd_Weaving_add ["self", "name", "step"] []
  a_Weaving_iter : Addr
  fd_Weaving_iter : FuncData
  F_Weaving_iter : Fun K "__iter__" "Weaving.__iter__" S_Weaving_iter a_Weaving_iter fd_Weaving_iter
  b_Weaving_iter : Binds K fd_Weaving_iter ["self"] []
  a_Weaving_len : Addr
  fd_Weaving_len : FuncData
  F_Weaving_len : Fun K "__len__" "Weaving.__len__" S_Weaving_len a_Weaving_len fd_Weaving_len
  b_Weaving_len : Binds K fd_Weaving_len ["self"] []
  a_Weavingascending : Addr
  fd_Weavingascending : FuncData
  F_Weavingascending : Fun K "_ascending" "Weaving._ascending" S_Weavingascending a_Weavingascending fd_Weavingascending
  b_Weavingascending : Binds K fd_Weavingascending ["self"] []
  a_Weaving_standing_of : Addr
  fd_Weaving_standing_of : FuncData
  F_Weaving_standing_of : Fun K "standing_of" "Weaving.standing_of" S_Weaving_standing_of a_Weaving_standing_of fd_Weaving_standing_of
  b_Weaving_standing_of : Binds K fd_Weaving_standing_of ["self", "name"] []
  a_Weaving_holders : Addr
  fd_Weaving_holders : FuncData
  F_Weaving_holders : Fun K "holders" "Weaving.holders" S_Weaving_holders a_Weaving_holders fd_Weaving_holders
  b_Weaving_holders : Binds K fd_Weaving_holders ["self", "thing"] []
  a_suitable : Addr
  fd_suitable : FuncData
  F_suitable : Fun K "suitable" "suitable" S_suitable a_suitable fd_suitable
  b_suitable : Binds K fd_suitable ["web", "row", "parents"] []
  g_suitable : mg "suitable" = some (.ref a_suitable)
  a_Web_init : Addr
  fd_Web_init : FuncData
  F_Web_init : Fun K "__init__" "Web.__init__" S_Web_init a_Web_init fd_Web_init
  b_Web_init : Binds K fd_Web_init ["self", "shape"] []
  a_Web_put : Addr
  fd_Web_put : FuncData
  F_Web_put : Fun K "put" "Web.put" S_Web_put a_Web_put fd_Web_put
  bs_Web_put : StarB fd_Web_put ["self", "mark"] "parents"
  a_Web_getitem : Addr
  fd_Web_getitem : FuncData
  F_Web_getitem : Fun K "__getitem__" "Web.__getitem__" S_Web_getitem a_Web_getitem fd_Web_getitem
  b_Web_getitem : Binds K fd_Web_getitem ["self", "thing"] []
  a_Web_contains : Addr
  fd_Web_contains : FuncData
  F_Web_contains : Fun K "__contains__" "Web.__contains__" S_Web_contains a_Web_contains fd_Web_contains
  b_Web_contains : Binds K fd_Web_contains ["self", "thing"] []
  a_Web_mark_of : Addr
  fd_Web_mark_of : FuncData
  F_Web_mark_of : Fun K "mark_of" "Web.mark_of" S_Web_mark_of a_Web_mark_of fd_Web_mark_of
  b_Web_mark_of : Binds K fd_Web_mark_of ["self", "thing"] []
  a_waits : Addr
  fd_waits : FuncData
  F_waits : Fun K "waits" "waits" S_waits a_waits fd_waits
  b_waits : Binds K fd_waits ["weaving", "wants"] []
  g_waits : mg "waits" = some (.ref a_waits)
  a_is_mark : Addr
  fd_is_mark : FuncData
  F_is_mark : Fun K "is_mark" "is_mark" S_is_mark a_is_mark fd_is_mark
  b_is_mark : Binds K fd_is_mark ["text"] []
  g_is_mark : mg "is_mark" = some (.ref a_is_mark)
  a_sound_row : Addr
  fd_sound_row : FuncData
  F_sound_row : Fun K "sound_row" "sound_row" S_sound_row a_sound_row fd_sound_row
  b_sound_row : Binds K fd_sound_row ["row", "before"] []
  g_sound_row : mg "sound_row" = some (.ref a_sound_row)
  a_barren : Addr
  fd_barren : FuncData
  F_barren : Fun K "barren" "barren" S_barren a_barren fd_barren
  b_barren : Binds K fd_barren ["rows"] []
  g_barren : mg "barren" = some (.ref a_barren)
  a_Shape_init : Addr
  fd_Shape_init : FuncData
  F_Shape_init : Fun K "__init__" "Shape.__init__" S_Shape_init a_Shape_init fd_Shape_init
  bs_Shape_init : StarB fd_Shape_init ["self"] "rows"
  a_Shape_getitem : Addr
  fd_Shape_getitem : FuncData
  F_Shape_getitem : Fun K "__getitem__" "Shape.__getitem__" S_Shape_getitem a_Shape_getitem fd_Shape_getitem
  b_Shape_getitem : Binds K fd_Shape_getitem ["self", "mark"] []
  a_Shape_modes_of : Addr
  fd_Shape_modes_of : FuncData
  F_Shape_modes_of : Fun K "modes_of" "Shape.modes_of" S_Shape_modes_of a_Shape_modes_of fd_Shape_modes_of
  b_Shape_modes_of : Binds K fd_Shape_modes_of ["self", "mark"] []
  a__law_draws : Addr
  fd__law_draws : FuncData
  F__law_draws : Fun K "_law_draws" "_law_draws" S__law_draws a__law_draws fd__law_draws
  b__law_draws : Binds K fd__law_draws ["_law_script"] []
  g__law_draws : mg "_law_draws" = some (.ref a__law_draws)
  a__law_take : Addr
  fd__law_take : FuncData
  F__law_take : Fun K "_law_take" "_law_take" S__law_take a__law_take fd__law_take
  b__law_take : Binds K fd__law_take ["_law_draws_here", "_law_at", "_law_size"] []
  g__law_take : mg "_law_take" = some (.ref a__law_take)
  a__law_same : Addr
  fd__law_same : FuncData
  F__law_same : Fun K "_law_same" "_law_same" S__law_same a__law_same fd__law_same
  b__law_same : Binds K fd__law_same ["_law_actual", "_law_expected"] []
  g__law_same : mg "_law_same" = some (.ref a__law_same)
  a__law_marks : Addr
  fd__law_marks : FuncData
  F__law_marks : Fun K "_law_marks" "_law_marks" S__law_marks a__law_marks fd__law_marks
  b__law_marks : Binds K fd__law_marks ["_law_draws_here", "_law_at", "_law_count"] []
  g__law_marks : mg "_law_marks" = some (.ref a__law_marks)
  a__law_rows : Addr
  fd__law_rows : FuncData
  F__law_rows : Fun K "_law_rows" "_law_rows" S__law_rows a__law_rows fd__law_rows
  b__law_rows : Binds K fd__law_rows ["_law_draws_here", "_law_at", "_law_exclusive"] []
  g__law_rows : mg "_law_rows" = some (.ref a__law_rows)
  a__law_things : Addr
  fd__law_things : FuncData
  F__law_things : Fun K "_law_things" "_law_things" S__law_things a__law_things fd__law_things
  b__law_things : Binds K fd__law_things ["_law_draws_here", "_law_at", "_law_rows_here", "_law_count"] []
  g__law_things : mg "_law_things" = some (.ref a__law_things)
  a__law_do : Addr
  fd__law_do : FuncData
  F__law_do : Fun K "_law_do" "_law_do" S__law_do a__law_do fd__law_do
  b__law_do : Binds K fd__law_do ["_law_state", "_law_step"] []
  g__law_do : mg "_law_do" = some (.ref a__law_do)
  a__law_shared : Addr
  fd__law_shared : FuncData
  F__law_shared : Fun K "_law_shared" "_law_shared" S__law_shared a__law_shared fd__law_shared
  b__law_shared : Binds K fd__law_shared ["_law_rows_here", "_law_mark"] []
  g__law_shared : mg "_law_shared" = some (.ref a__law_shared)
  a__law_free : Addr
  fd__law_free : FuncData
  F__law_free : Fun K "_law_free" "_law_free" S__law_free a__law_free fd__law_free
  b__law_free : Binds K fd__law_free ["_law_states", "_law_name", "_law_step"] []
  g__law_free : mg "_law_free" = some (.ref a__law_free)
  a__law_shape : Addr
  fd__law_shape : FuncData
  F__law_shape : Fun K "_law_shape" "_law_shape" S__law_shape a__law_shape fd__law_shape
  b__law_shape : Binds K fd__law_shape ["_law_rows_here"] []
  g__law_shape : mg "_law_shape" = some (.ref a__law_shape)
  a__law_put : Addr
  fd__law_put : FuncData
  F__law_put : Fun K "_law_put" "_law_put" S__law_put a__law_put fd__law_put
  b__law_put : Binds K fd__law_put ["_law_web_here", "_law_mark", "_law_parents"] []
  g__law_put : mg "_law_put" = some (.ref a__law_put)
  a__law_web : Addr
  fd__law_web : FuncData
  F__law_web : Fun K "_law_web" "_law_web" S__law_web a__law_web fd__law_web
  b__law_web : Binds K fd__law_web ["_law_shape_here", "_law_things_here"] []
  g__law_web : mg "_law_web" = some (.ref a__law_web)
  a__law_ring : Addr
  fd__law_ring : FuncData
  F__law_ring : Fun K "_law_ring" "_law_ring" S__law_ring a__law_ring fd__law_ring
  b__law_ring : Binds K fd__law_ring ["_law_nodes", "_law_edges"] []
  g__law_ring : mg "_law_ring" = some (.ref a__law_ring)
  a__law_names : Addr
  fd__law_names : FuncData
  F__law_names : Fun K "_law_names" "_law_names" S__law_names a__law_names fd__law_names
  b__law_names : Binds K fd__law_names ["_law_draws_here", "_law_at"] []
  g__law_names : mg "_law_names" = some (.ref a__law_names)
  a__law_choices : Addr
  fd__law_choices : FuncData
  F__law_choices : Fun K "_law_choices" "_law_choices" S__law_choices a__law_choices fd__law_choices
  b__law_choices : Binds K fd__law_choices ["_law_rows_here", "_law_things_here", "_law_states", "_law_plain"] []
  g__law_choices : mg "_law_choices" = some (.ref a__law_choices)
  a__law_begun : Addr
  fd__law_begun : FuncData
  F__law_begun : Fun K "_law_begun" "_law_begun" S__law_begun a__law_begun fd__law_begun
  b__law_begun : Binds K fd__law_begun ["_law_draws_here", "_law_at", "_law_rows_here", "_law_things_here", "_law_states"] []
  g__law_begun : mg "_law_begun" = some (.ref a__law_begun)
  a__law_wants : Addr
  fd__law_wants : FuncData
  F__law_wants : Fun K "_law_wants" "_law_wants" S__law_wants a__law_wants fd__law_wants
  b__law_wants : Binds K fd__law_wants ["_law_draws_here", "_law_at", "_law_rows_here", "_law_things_here", "_law_names_here"] []
  g__law_wants : mg "_law_wants" = some (.ref a__law_wants)
  a__law_due : Addr
  fd__law_due : FuncData
  F__law_due : Fun K "_law_due" "_law_due" S__law_due a__law_due fd__law_due
  b__law_due : Binds K fd__law_due ["_law_states", "_law_names_here", "_law_wants_here"] []
  g__law_due : mg "_law_due" = some (.ref a__law_due)
  a__law_asked : Addr
  fd__law_asked : FuncData
  F__law_asked : Fun K "_law_asked" "_law_asked" S__law_asked a__law_asked fd__law_asked
  b__law_asked : Binds K fd__law_asked ["_law_weaving", "_law_states", "_law_names_here", "_law_wants_here"] []
  g__law_asked : mg "_law_asked" = some (.ref a__law_asked)
  a_law : Addr
  fd_law : FuncData
  F_law : Fun K "law" "law" S_law a_law fd_law
  b_law : Binds K fd_law ["_law_script"] []
  g_law : mg "law" = some (.ref a_law)
  n_any : mg "any" = none
  n_bool : mg "bool" = none
  n_enumerate : mg "enumerate" = none
  n_int : mg "int" = none
  n_isinstance : mg "isinstance" = none
  n_iter : mg "iter" = none
  n_len : mg "len" = none
  n_list : mg "list" = none
  n_min : mg "min" = none
  n_range : mg "range" = none
  n_sorted : mg "sorted" = none
  n_str : mg "str" = none
  n_tuple : mg "tuple" = none
  k_DEEDS : Addr
  g_DEEDS : mg "DEEDS" = some (.ref k_DEEDS)
  q_DEEDS : ∀ H : Hp, SqT K H k_DEEDS [.str "own", .str "share", .str "drop"]
  tk_DIGITS : Tok
  g_DIGITS : mg "DIGITS" = some (.str "0123456789" tk_DIGITS)
  tk_LETTERS : Tok
  g_LETTERS : mg "LETTERS" = some (.str "abcdefghijklmnopqrstuvwxyz" tk_LETTERS)
  k_MODES : Addr
  g_MODES : mg "MODES" = some (.ref k_MODES)
  q_MODES : ∀ H : Hp, SqT K H k_MODES [.str "own", .str "share"]
  c_Standing : Addr
  g_Standing : mg "Standing" = some (.ref c_Standing)
  cl_Standing : Cls K c_Standing
  mk_Standing : Mk K c_Standing a_Standing_init
  m_Standing_check : Meth K c_Standing "check" a_Standing_check
  m_Standing_take : Meth K c_Standing "take" a_Standing_take
  m_Standing_held_mode : Meth K c_Standing "held_mode" a_Standing_held_mode
  m_Standing_copy : Meth K c_Standing "copy" a_Standing_copy
  ti_Standing : ∀ (H : Hp) (a dx : Addr) (fs : List (Str × V)), H a = some (.ins c_Standing dx fs) → TyOf K H (.ref a) (.ref c_Standing)
  kk_Standing : PySem.W.kitOne K (.ref c_Standing) (.ref c_Standing) = some true
  no_Standing_web : NoAttr K c_Standing "web"
  no_Standing__modes : NoAttr K c_Standing "_modes"
  no_Standing__holds : NoAttr K c_Standing "_holds"
  no_Standing__loose : NoAttr K c_Standing "_loose"
  c_Weaving : Addr
  g_Weaving : mg "Weaving" = some (.ref c_Weaving)
  cl_Weaving : Cls K c_Weaving
  mk_Weaving : Mk K c_Weaving a_Weaving_init
  m_Weaving_add : Meth K c_Weaving "add" a_Weaving_add
  m_Weaving_iter : Meth K c_Weaving "__iter__" a_Weaving_iter
  m_Weaving_len : Meth K c_Weaving "__len__" a_Weaving_len
  m_Weavingascending : Meth K c_Weaving "_ascending" a_Weavingascending
  m_Weaving_standing_of : Meth K c_Weaving "standing_of" a_Weaving_standing_of
  m_Weaving_holders : Meth K c_Weaving "holders" a_Weaving_holders
  no_Weaving_web : NoAttr K c_Weaving "web"
  no_Weaving__events : NoAttr K c_Weaving "_events"
  no_Weaving__standings : NoAttr K c_Weaving "_standings"
  no_Weaving__lockers : NoAttr K c_Weaving "_lockers"
  no_Weaving__edges : NoAttr K c_Weaving "_edges"
  c_Web : Addr
  g_Web : mg "Web" = some (.ref c_Web)
  cl_Web : Cls K c_Web
  mk_Web : Mk K c_Web a_Web_init
  m_Web_put : Meth K c_Web "put" a_Web_put
  m_Web_getitem : Meth K c_Web "__getitem__" a_Web_getitem
  m_Web_contains : Meth K c_Web "__contains__" a_Web_contains
  m_Web_mark_of : Meth K c_Web "mark_of" a_Web_mark_of
  fi_Web_getitem : PySem.W.fnIn K a_Web_getitem = true
  ti_Web : ∀ (H : Hp) (a dx : Addr) (fs : List (Str × V)), H a = some (.ins c_Web dx fs) → TyOf K H (.ref a) (.ref c_Web)
  kk_Web : PySem.W.kitOne K (.ref c_Web) (.ref c_Web) = some true
  cr_Web : ClX.CRead K c_Web (.type "type")
  tk_Web_MOST : Tok
  cv_Web_MOST : ClX.CVal K c_Web (.type "type") "MOST" (.int 1000) (.int 1000 tk_Web_MOST)
  no_Web_shape : NoAttr K c_Web "shape"
  no_Web__rows : NoAttr K c_Web "_rows"
  no_Web__numbers : NoAttr K c_Web "_numbers"
  c_Shape : Addr
  g_Shape : mg "Shape" = some (.ref c_Shape)
  cl_Shape : Cls K c_Shape
  mk_Shape : Mk K c_Shape a_Shape_init
  m_Shape_getitem : Meth K c_Shape "__getitem__" a_Shape_getitem
  m_Shape_modes_of : Meth K c_Shape "modes_of" a_Shape_modes_of
  fi_Shape_getitem : PySem.W.fnIn K a_Shape_getitem = true
  ti_Shape : ∀ (H : Hp) (a dx : Addr) (fs : List (Str × V)), H a = some (.ins c_Shape dx fs) → TyOf K H (.ref a) (.ref c_Shape)
  kk_Shape : PySem.W.kitOne K (.ref c_Shape) (.ref c_Shape) = some true
  cr_Shape : ClX.CRead K c_Shape (.type "type")
  tk_Shape_MARKS : Tok
  cv_Shape_MARKS : ClX.CVal K c_Shape (.type "type") "MARKS" (.int 6) (.int 6 tk_Shape_MARKS)
  tk_Shape_PARENTS : Tok
  cv_Shape_PARENTS : ClX.CVal K c_Shape (.type "type") "PARENTS" (.int 4) (.int 4 tk_Shape_PARENTS)
  no_Shape__listed : NoAttr K c_Shape "_listed"
  no_Shape__marks : NoAttr K c_Shape "_marks"
  c_BadShape : Addr
  g_BadShape : mg "BadShape" = some (.ref c_BadShape)
  c_UnknownMark : Addr
  g_UnknownMark : mg "UnknownMark" = some (.ref c_UnknownMark)
  c_TooLarge : Addr
  g_TooLarge : mg "TooLarge" = some (.ref c_TooLarge)
  c_BadParents : Addr
  g_BadParents : mg "BadParents" = some (.ref c_BadParents)
  c_NoThing : Addr
  g_NoThing : mg "NoThing" = some (.ref c_NoThing)
  c_BadStep : Addr
  g_BadStep : mg "BadStep" = some (.ref c_BadStep)
  c_Refused : Addr
  g_Refused : mg "Refused" = some (.ref c_Refused)
  c_LockedBefore : Addr
  g_LockedBefore : mg "LockedBefore" = some (.ref c_LockedBefore)
  c_WrongMode : Addr
  g_WrongMode : mg "WrongMode" = some (.ref c_WrongMode)
  c_NotHeld : Addr
  g_NotHeld : mg "NotHeld" = some (.ref c_NotHeld)
  c_WebError : Addr
  g_WebError : mg "WebError" = some (.ref c_WebError)
  x_BadShape : PySem.WX.ExcTxt PP K mg "BadShape" "mark" c_BadShape
  xc_BadShape : XC K c_BadShape
  xn_BadShape : PySem.W.findIn K (.ref c_BadShape) "mark" = some none
  em_BadShape_NoThing : PySem.W.exmOne K (.ref c_BadShape) (.ref c_NoThing) = some false
  x_UnknownMark : PySem.WX.ExcTxt PP K mg "UnknownMark" "mark" c_UnknownMark
  xc_UnknownMark : XC K c_UnknownMark
  xn_UnknownMark : PySem.W.findIn K (.ref c_UnknownMark) "mark" = some none
  em_UnknownMark_NoThing : PySem.W.exmOne K (.ref c_UnknownMark) (.ref c_NoThing) = some false
  x_TooLarge : PySem.WX.ExcTxt PP K mg "TooLarge" "most" c_TooLarge
  xc_TooLarge : XC K c_TooLarge
  xn_TooLarge : PySem.W.findIn K (.ref c_TooLarge) "most" = some none
  em_TooLarge_NoThing : PySem.W.exmOne K (.ref c_TooLarge) (.ref c_NoThing) = some false
  x_BadParents : PySem.WX.ExcTxt PP K mg "BadParents" "mark" c_BadParents
  xc_BadParents : XC K c_BadParents
  xn_BadParents : PySem.W.findIn K (.ref c_BadParents) "mark" = some none
  em_BadParents_NoThing : PySem.W.exmOne K (.ref c_BadParents) (.ref c_NoThing) = some false
  x_NoThing : PySem.WX.ExcTxt PP K mg "NoThing" "thing" c_NoThing
  xc_NoThing : XC K c_NoThing
  xn_NoThing : PySem.W.findIn K (.ref c_NoThing) "thing" = some none
  em_NoThing_NoThing : PySem.W.exmOne K (.ref c_NoThing) (.ref c_NoThing) = some true
  x_BadStep : PySem.WX.ExcTxt PP K mg "BadStep" "step" c_BadStep
  xc_BadStep : XC K c_BadStep
  xn_BadStep : PySem.W.findIn K (.ref c_BadStep) "step" = some none
  em_BadStep_NoThing : PySem.W.exmOne K (.ref c_BadStep) (.ref c_NoThing) = some false
  x_Refused : PySem.WX.ExcTxt PP K mg "Refused" "step" c_Refused
  xc_Refused : XC K c_Refused
  xn_Refused : PySem.W.findIn K (.ref c_Refused) "step" = some none
  em_Refused_NoThing : PySem.W.exmOne K (.ref c_Refused) (.ref c_NoThing) = some false
  x_LockedBefore : PySem.WX.ExcTxt PP K mg "LockedBefore" "step" c_LockedBefore
  xc_LockedBefore : XC K c_LockedBefore
  xn_LockedBefore : PySem.W.findIn K (.ref c_LockedBefore) "step" = some none
  em_LockedBefore_NoThing : PySem.W.exmOne K (.ref c_LockedBefore) (.ref c_NoThing) = some false
  x_WrongMode : PySem.WX.ExcTxt PP K mg "WrongMode" "step" c_WrongMode
  xc_WrongMode : XC K c_WrongMode
  xn_WrongMode : PySem.W.findIn K (.ref c_WrongMode) "step" = some none
  em_WrongMode_NoThing : PySem.W.exmOne K (.ref c_WrongMode) (.ref c_NoThing) = some false
  x_NotHeld : PySem.WX.ExcTxt PP K mg "NotHeld" "step" c_NotHeld
  xc_NotHeld : XC K c_NotHeld
  xn_NotHeld : PySem.W.findIn K (.ref c_NotHeld) "step" = some none
  em_NotHeld_NoThing : PySem.W.exmOne K (.ref c_NotHeld) (.ref c_NoThing) = some false
end My
namespace My
open PySem L2
/-! ### heaps: all but a as it was -/
def But (a : Addr) (H H' : Hp) : Prop := ∀ b o, b ≠ a → H b = some o → H' b = some o
theorem But.refl (a : Addr) (H : Hp) : But a H H := fun _ _ _ h => h
theorem But.trans {a : Addr} {H H1 H2 : Hp} (x : But a H H1) (y : But a H1 H2) : But a H H2 := fun b o n h => y b o n (x b o n h)
theorem But.of_same {a : Addr} {H H' : Hp} (s : Same H H') : But a H H' := fun b o _ h => s b o h
theorem But.upd {a : Addr} {H : Hp} {o : HO} : But a H (upd H a o) := fun b u n h => by rw [upd_ne n]; exact h
theorem same_new {H : Hp} {p : Addr} {o : HO} (h : H p = none) : Same H (upd H p o) := fun b x e => by
  rw [upd_ne (ne_of_none e h)]; exact e
theorem But.new {a p : Addr} {H : Hp} {o : HO} (h : H p = none) : But a H (L2.upd H p o) := But.of_same (same_new h)
/-- an object that H does not know may change -/
theorem same_mut {H H' : Hp} {p : Addr} {o : HO} (e : Same H H') (h : H p = none) : Same H (upd H' p o) := fun a u ha => by
  rw [upd_ne (ne_of_none ha h)]; exact e a u ha
theorem But.mut {a p : Addr} {H H' : Hp} {o : HO} (e : But a H H') (h : H p = none) : But a H (L2.upd H' p o) := fun b u n hb => by
  rw [upd_ne (ne_of_none hb h)]; exact e b u n hb
theorem But.free {a p : Addr} {H H' : Hp} (e : But a H H') (n : p ≠ a) (h : H' p = none) : H p = none := by
  cases q : H p with
  | none => rfl
  | some o => rw [e p o n q] at h; cases h
theorem But.sqL {K : PySem.W.Frag} {a d : Addr} {H H' : Hp} {xs : List V} (e : But a H H') (n : d ≠ a) (h : SqL K H d xs) : SqL K H' d xs := by
  rcases h with (h | ⟨o, h⟩) | h
  · exact .inl (.inl (e _ _ n h))
  · exact .inl (.inr ⟨o, e _ _ n h⟩)
  · exact .inr h
theorem But.sqT {K : PySem.W.Frag} {a d : Addr} {H H' : Hp} {xs : List V} (e : But a H H') (n : d ≠ a) (h : SqT K H d xs) : SqT K H' d xs := by
  rcases h with (h | ⟨o, h⟩) | h
  · exact .inl (.inl (e _ _ n h))
  · exact .inl (.inr ⟨o, e _ _ n h⟩)
  · exact .inr h
theorem same_sqT {K : PySem.W.Frag} {d : Addr} {H H' : Hp} {xs : List V} (e : Same H H') (h : SqT K H d xs) : SqT K H' d xs := by
  rcases h with (h | ⟨o, h⟩) | h
  · exact .inl (.inl (e _ _ h))
  · exact .inl (.inr ⟨o, e _ _ h⟩)
  · exact .inr h
theorem same_make {H H5 : Hp} {x dx C : Addr} (nx : H x = none) (nd : H dx = none) (b : But x (L2.upd (L2.upd H dx (.own x)) x (.ins C dx [])) H5) : Same H H5 := fun y o h =>
  b y o (ne_of_none h nx) (by rw [upd_ne (ne_of_none h nx), upd_ne (ne_of_none h nd)]; exact h)
/-! ### tests -/
theorem iteD {c A B : Prop} [Decidable c] (h1 : c → A) (h2 : ¬ c → B) : if decide c = true then A else B := by
  by_cases h : c
  · rw [decide_eq_true h]; exact iteT (h1 h)
  · rw [decide_eq_false h]; exact iteF (h2 h)
theorem iteN {c A B : Prop} [Decidable c] (h1 : ¬ c → A) (h2 : c → B) : if (!decide c) = true then A else B := by
  by_cases h : c
  · rw [decide_eq_true h]; exact iteF (h2 h)
  · rw [decide_eq_false h]; exact iteT (h1 h)
theorem iteB {b : Bool} {A B : Prop} (h1 : b = true → A) (h2 : b = false → B) : if b = true then A else B := by
  cases b with
  | true => exact iteT (h1 rfl)
  | false => exact iteF (h2 rfl)
theorem iteYes {b : Bool} {A B : Prop} (h : b = true) (h1 : A) : if b = true then A else B := by rw [h]; exact iteT h1
theorem iteNo {b : Bool} {A B : Prop} (h : b = false) (h1 : B) : if b = true then A else B := by rw [h]; exact iteF h1
/-! ### lists -/
theorem ints_app (zs : List Int) (z : Int) : (zs.map V.int) ++ [V.int z] = (zs ++ [z]).map V.int := by rw [List.map_append]; rfl
theorem at_ok {xs : List V} {i : Int} (h0 : 0 ≤ i) (h1 : i < xs.length) : ∃ v, atI xs i = some v ∧ v ∈ xs := by
  obtain ⟨j, rfl⟩ := Int.eq_ofNat_of_zero_le h0
  have hj : j < xs.length := by omega
  exact ⟨xs[j], atI_nat (List.getElem?_eq_getElem hj), List.getElem_mem hj⟩
theorem get_int {ns : List Int} {i : Nat} {y : V} (h : (ns.map V.int)[i]? = some y) : ∃ z, ns[i]? = some z ∧ y = .int z := by
  rw [List.getElem?_map] at h
  cases e : ns[i]? with
  | none => rw [e] at h; cases h
  | some z => rw [e] at h; exact ⟨z, rfl, (Option.some.inj h).symm⟩
end My
namespace L2
open PySem
/-! ### rules whose reading names K itself (in a comprehension's block) -/
theorem ixLK {X : Cx} {K : PySem.W.Frag} (h : X.K = K) : IxR X (rIxL K) := h ▸ ix_list
theorem ixTK {X : Cx} {K : PySem.W.Frag} (h : X.K = K) : IxR X (rIxT K) := h ▸ ix_tup
theorem inK {X : Cx} {K : PySem.W.Frag} (h : X.K = K) : OpR X (compareOp .In) (rIn K false) := h ▸ op_in_seq
theorem ninK {X : Cx} {K : PySem.W.Frag} (h : X.K = K) : OpR X (compareOp .NotIn) (rIn K true) := h ▸ op_notIn_seq
theorem pe_fldK {X : Cx} {K : PySem.W.Frag} {e : Expr} {f : Str} {pos : Pos} {ta : TE} (h : X.K = K) (he : PE X e ta) (hb : attributeBase e f X.env (eval e X.env) = eval e X.env) : PE X (.Attribute e f pos) (tFld K ta f) := h ▸ pe_fld he hb
end L2

namespace My
open PySem L2
/-- the draws at d, the place at a -/
structure Dr (K : PySem.W.Frag) (H : Hp) (d a : Addr) : Prop where
  ds : ∃ ns : List Int, H d = some (.lst (ns.map V.int))
  pl : ∃ k : Nat, H a = some (.lst [.int k])
  ne : d ≠ a
theorem Dr.but {K : PySem.W.Frag} {H H' : Hp} {d a : Addr} (x : Dr K H d a) (e : But a H H') (pl : ∃ k : Nat, H' a = some (.lst [.int k])) : Dr K H' d a :=
  ⟨x.ds.elim fun ns h => ⟨ns, e _ _ x.ne h⟩, pl, x.ne⟩
theorem Dr.same {K : PySem.W.Frag} {H H' : Hp} {d a : Addr} (x : Dr K H d a) (e : Same H H') : Dr K H' d a :=
  x.but (But.of_same e) (x.pl.elim fun k h => ⟨k, e _ _ h⟩)
/-- another object is changed -/
theorem Dr.other {K : PySem.W.Frag} {H H' : Hp} {d a p : Addr} (x : Dr K H d a) (e : But p H H') (n1 : d ≠ p) (n2 : a ≠ p) : Dr K H' d a :=
  ⟨x.ds.elim fun ns h => ⟨ns, e _ _ n1 h⟩, x.pl.elim fun k h => ⟨k, e _ _ n2 h⟩, x.ne⟩
theorem Dr.nd {K : PySem.W.Frag} {H : Hp} {d a p : Addr} (x : Dr K H d a) (h : H p = none) : d ≠ p := ne_of_none x.ds.choose_spec h
theorem Dr.na {K : PySem.W.Frag} {H : Hp} {d a p : Addr} (x : Dr K H d a) (h : H p = none) : p ≠ a := (ne_of_none x.pl.choose_spec h).symm
def spTake (K : PySem.W.Frag) : Sp := fun vs H Q _ => ∃ (d a : Addr) (size : Int), vs = [.ref d, .ref a, .int size] ∧ Dr K H d a ∧ 0 < size ∧
  ∀ (r : Int) (H' : Hp), 0 ≤ r → r < size → Dr K H' d a → But a H H' → Q (.int r) H'
section
variable {P : Program} {w : World} {K : PySem.W.Frag} {mg : Str → Option Value} {base : Heap}
theorem ok__law_take (T : Txt K mg) : FnOk P w K mg base CX0 1 T.a__law_take T.fd__law_take ["_law_draws_here", "_law_at", "_law_size"] (spTake K) := by
  refine T.F__law_take.ok sc__law_take (fun vs H Q E h => ?_) (fun cdv A outer s H vs Q E hr h => ?_)
  · obtain ⟨d, a, size, rfl, _⟩ := h; rfl
  · obtain ⟨d, a, size, rfl, D, hs, q⟩ := h
    obtain ⟨ns, hd0⟩ := D.ds
    have hd : SqL K H d (ns.map V.int) := SqL.of hd0
    obtain ⟨k, hk⟩ := D.pl
    have hb : But a H (upd H a (.lst [.int (k + 1 : Nat)])) := But.upd
    have D' : Dr K (upd H a (.lst [.int (k + 1 : Nat)])) d a := D.but hb ⟨_, upd_same⟩
    have hd' := hb.sqL D.ne hd
    refine ⟨_, (pss_cons (ps_asg (pe_op op_add (pe_ix ix_list (pv 1) (pe_int) (fun _ _ => rfl)) (pe_int)) (pg_sub (pv 1) (pe_int) set_list))
      (pss_cons (ps_if (pt_cmpR op_gt (pe_ix ix_list (pv 1) (pe_int) (fun _ _ => rfl)) (pe_callB call_len_seq (by rfl) T.n_len (by decide +kernel) (pa_cons (pv 0) pa_nil)) (nomark _)) (pss_one (ps_ret (pe_int))) pss_nil)
      (pss_one (ps_ret (pe_op op_mod (pe_callTy call_int1 (by rfl) T.n_int (by decide +kernel) (pa_cons (pe_ix ix_list (pv 0) (pe_op op_sub (pe_ix ix_list (pv 1) (pe_int) (fun _ _ => rfl)) (pe_int)) (fun _ _ => rfl)) pa_nil)) (pv 2)))))), ?_⟩
    walk_at "rd"

    refine iteD (fun c => ?_) (fun c => ?_)
    · exact q 0 _ (Int.le_refl _) hs D' hb
    · rw [List.length_map] at c
      have hl : k < ns.length := by omega
      refine ⟨_, rfl, _, rfl, _, _, _, _, rfl, rfl, SqL.of upd_same, atI_nat (j := 0) rfl, _, _, rfl, rfl, _, _, _, _, rfl, rfl, hd', at_of (j := k) (by omega) (by rw [List.getElem?_map, List.getElem?_eq_getElem hl]; rfl), ?_⟩
      walk_at "rd"
      exact q _ _ (Int.emod_nonneg _ (by omega)) (Int.emod_lt_of_pos _ hs) D' hb
end
end My

namespace My
open PySem L2
def spDraws (K : PySem.W.Frag) : Sp := fun vs H Q _ => ∃ (a : Addr) (ns : List Int), vs = [.ref a] ∧ SqL K H a (ns.map V.int) ∧ ns.length ≤ 63 ∧
  ∀ (p : Addr) (zs : List Int) (H' : Hp), Same H H' → H p = none → H' p = some (.lst (zs.map V.int)) → Q (.ref p) H'
section
variable {P : Program} {w : World} {K : PySem.W.Frag} {mg : Str → Option Value} {base : Heap}
theorem ok__law_draws (T : Txt K mg) : FnOk P w K mg base CX0 1 T.a__law_draws T.fd__law_draws ["_law_script"] (spDraws K) := by
  refine T.F__law_draws.ok sc__law_draws (fun vs H Q E h => ?_) (fun cdv A outer s H vs Q E hr h => ?_)
  · obtain ⟨a, ns, rfl, _⟩ := h; rfl
  · obtain ⟨a, ns, rfl, hS, hlen, q⟩ := h
    refine ⟨_, (pss_cons (ps_set (i := 1) sc__law_draws.nd rfl (.inl rfl) (pe_lst pa_nil))
      (pss_cons (ps_for PassesOwn.never rfl (pi_list (pv 0)) (pg_name (i := 2) sc__law_draws.nd rfl (.inl rfl)) (pss_one (ps_if (pt_cmpR op_ge (pv 2) (pe_op op_pow (pe_int) (pe_int)) (nomark _)) (pss_cons (ps_set (i := 3) sc__law_draws.nd rfl (.inl rfl) (pe_callTy call_int1 (by rfl) T.n_int (by decide +kernel) (pa_cons (pv 2) pa_nil)))
      (pss_one (ps_for PassesOwn.never rfl (pi_range1 (by rfl) T.n_range (pa_cons (pe_int) pa_nil)) (pg_name (i := 4) sc__law_draws.nd rfl (.inl rfl)) (pss_one (ps_if (pt_cmpR op_gt (pv 3) (pe_int) (nomark _)) (pss_cons (ps_expr (pe_bm PySem.F.plainAttrs_list PySem.F.slot_list_append PySem.F.type_list_append mt_append (pv 1) (pa_cons (pe_op op_mod (pe_callTy call_int1 (by rfl) T.n_int (by decide +kernel) (pa_cons (pv 3) pa_nil)) (pe_int)) pa_nil)))
      (pss_one (ps_set (i := 3) sc__law_draws.nd rfl (.inl rfl) (pe_op op_fdiv (pv 3) (pe_int))))) pss_nil))))) (pss_cons (ps_set (i := 5) sc__law_draws.nd rfl (.inl rfl) (pe_op op_mod (pe_callTy call_int1 (by rfl) T.n_int (by decide +kernel) (pa_cons (pe_op op_add (pe_op op_mul (pv 2) (pe_int)) (pe_int)) pa_nil)) (pe_int)))
      (pss_cons (ps_expr (pe_bm PySem.F.plainAttrs_list PySem.F.slot_list_append PySem.F.type_list_append mt_append (pv 1) (pa_cons (pv 5) pa_nil)))
      (pss_one (ps_expr (pe_bm PySem.F.plainAttrs_list PySem.F.slot_list_append PySem.F.type_list_append mt_append (pv 1) (pa_cons (pe_op op_mod (pe_callTy call_int1 (by rfl) T.n_int (by decide +kernel) (pa_cons (pe_op op_add (pe_op op_add (pe_op op_mul (pv 5) (pv 5)) (pe_op op_mul (pe_int) (pv 5))) (pe_op op_mul (pe_int) (pe_callB call_len_seq (by rfl) T.n_len (by decide +kernel) (pa_cons (pv 1) pa_nil)))) pa_nil)) (pe_int)) pa_nil)))))))))
      (pss_one (ps_ret (pv 1))))), ?_⟩
    refine ⟨Nat.zero_le _, fun p hp => ?_⟩
    have s0 : Same H (upd H p (.lst [])) := same_new hp
    refine ⟨_, rfl, a, rfl, ⟨_, s0.seq hS⟩, for_list (K := K) (a := a) (xs := ns.map V.int) (fun i σ H' => ∃ (zs : List Int) (x2 x3 x4 x5 : Option V), σ = [some (.ref a), some (.ref p), x2, x3, x4, x5] ∧ Same H H' ∧ H' p = some (.lst (zs.map V.int)) ∧ zs.length ≤ 60 * i)
      ⟨[], _, _, _, _, rfl, s0, upd_same, Nat.zero_le _⟩ (fun i σ H' _ ⟨_, _, _, _, _, _, s1, _⟩ => s1.seq hS) ?_ ?_⟩
    · rintro i y σ H1 hi ⟨zs, x2, x3, x4, x5, rfl, s1, h1, hz⟩
      have hi63 : i < ns.length := by
        have z := (List.getElem?_eq_some_iff.mp hi).1
        rw [List.length_map] at z
        exact z
      obtain ⟨c, hc, rfl⟩ := get_int hi
      refine ⟨_, rfl, _, _, rfl, rfl, ⟨by decide, by decide, by decide⟩, ?_⟩
      walk_at "rd"
      refine iteD (fun c1 => ?_) (fun c1 => ?_)
      · refine ⟨_, rfl, .inl ⟨_, rfl, ?_⟩⟩
        refine ⟨60, rfl, by decide, by decide, for_range (lo := 0) (n := 60) (fun j σ H' => ∃ (zs : List Int) (r : Int) (x4 : Option V), σ = [some (.ref a), some (.ref p), some (.int c), some (.int r), x4, x5] ∧ Same H H' ∧ H' p = some (.lst (zs.map V.int)) ∧ zs.length ≤ 60 * i + j)
          ⟨zs, c, x4, rfl, s1, h1, hz⟩ ?_ ?_⟩
        · rintro j σ H2 hj ⟨zs, r, x4, rfl, s2, h2, hz2⟩
          walk_at "rd"
          refine iteD (fun c2 => ?_) (fun c2 => ?_)
          · refine ⟨_, rfl, .inl ⟨rfl, _, SqL.of h2⟩, _, rfl, .inl ⟨_, rfl, _, _, rfl, rfl, (by show (0 : Int) < 1000; decide), _, _, _, rfl, rfl, h2, by rw [List.length_map]; exact Nat.lt_of_le_of_lt (by omega : _ ≤ 100000) (by decide), ?_⟩⟩
            refine ⟨_, rfl, _, _, rfl, rfl, ⟨by decide, by decide⟩, ?_⟩
            exact ⟨zs ++ [r % 1000], _, _, rfl, same_mut s2 hp, by rw [upd_same, ints_app], by rw [List.length_append, List.length_singleton]; omega⟩
          · exact ⟨zs, r, _, rfl, s2, h2, by omega⟩
        · rintro σ H2 ⟨zs, r, x4, rfl, s2, h2, hz2⟩
          exact ⟨zs, _, _, _, _, rfl, s2, h2, by omega⟩
      · refine ⟨_, rfl, _, _, rfl, rfl, .inr ⟨by decide, by decide⟩, _, _, rfl, rfl, .inl ⟨_, rfl, _, _, rfl, rfl, (by show (0 : Int) < 9973; decide), ?_⟩⟩
        have hm0 : 0 ≤ (c * 48271 + 12345) % 9973 := Int.emod_nonneg _ (by decide)
        have hm1 : (c * 48271 + 12345) % 9973 < 9973 := Int.emod_lt_of_pos _ (by decide)
        refine ⟨_, rfl, .inl ⟨rfl, _, SqL.of h1⟩, _, rfl, _, _, _, rfl, rfl, h1, by rw [List.length_map]; exact Nat.lt_of_le_of_lt (by omega : _ ≤ 100000) (by decide), ?_⟩
        refine ⟨_, rfl, .inl ⟨rfl, _, SqL.of upd_same⟩, _, rfl, _, rfl, _, _, rfl, rfl, .inl ⟨by omega, by omega⟩, _, rfl, _, _, rfl, rfl, .inl ⟨by decide, by decide⟩, _, _, rfl, rfl, _, rfl, _, _, rfl, .inl (SqL.of upd_same), _, _, rfl, rfl, .inl ⟨by decide, by decide⟩, _, _, rfl, rfl, .inl ⟨_, rfl, _, _, rfl, rfl, (by show (0 : Int) < 9949; decide), ?_⟩⟩
        refine ⟨_, _, _, rfl, rfl, upd_same, by rw [List.length_append, List.length_map]; exact Nat.lt_of_le_of_lt (by simp; omega : _ ≤ 100000) (by decide), ?_⟩
        rw [ints_app, ints_app, upd_upd]
        exact ⟨_, _, _, _, _, rfl, same_mut s1 hp, upd_same, by simp; omega⟩
    · rintro σ H1 ⟨zs, x2, x3, x4, x5, rfl, s1, h1, hz⟩
      exact ⟨_, rfl, q p zs H1 s1 hp h1⟩
end
end My

namespace My
open PySem L2
/-! ### plain data -/
inductive Sc : V → PyData → Prop
  | non : Sc .non .none
  | bl (b : Bool) : Sc (.bl b) (.bool b)
  | int (i : Int) : Sc (.int i) (.int i)
  | str (z : Str) : Sc (.str z) (.str z)
/-- a list that stays where x alone is changed; a tuple likewise -/
def SL (K : PySem.W.Frag) (x : Addr) (H : Hp) (a : Addr) (xs : List V) : Prop := (a ≠ x ∧ SqL K H a xs) ∨ ∀ H', SqL K H' a xs
def SU (K : PySem.W.Frag) (x : Addr) (H : Hp) (a : Addr) (xs : List V) : Prop := (a ≠ x ∧ SqT K H a xs) ∨ ∀ H', SqT K H' a xs
section
variable {K : PySem.W.Frag} {x : Addr} {H H' : Hp} {a : Addr} {xs : List V}
theorem SL.sq (h : SL K x H a xs) : SqL K H a xs := by
  rcases h with h | h
  · exact h.2
  · exact h H
theorem SU.sq (h : SU K x H a xs) : SqT K H a xs := by
  rcases h with h | h
  · exact h.2
  · exact h H
theorem SL.but (h : SL K x H a xs) (e : But x H H') : SL K x H' a xs := by
  rcases h with ⟨n, h⟩ | h
  · exact .inl ⟨n, e.sqL n h⟩
  · exact .inr h
theorem SU.but (h : SU K x H a xs) (e : But x H H') : SU K x H' a xs := by
  rcases h with ⟨n, h⟩ | h
  · exact .inl ⟨n, e.sqT n h⟩
  · exact .inr h
theorem tyL (h : SqL K H a xs) : TyX K H (.ref a) (.type "list") := by
  rcases h with (h | ⟨o, h⟩) | ⟨o, its, n, h, c, _⟩
  · exact .base (.lst h)
  · exact .base (.frz h)
  · exact .kList h c
theorem tyT (h : SqT K H a xs) : TyX K H (.ref a) (.type "tuple") := by
  rcases h with (h | ⟨o, h⟩) | ⟨o, its, n, h, c, _⟩
  · exact .base (.tup h)
  · exact .fTuple h
  · exact .kTuple h c
end
/-- data of depth n at most -/
def Dn (K : PySem.W.Frag) (x : Addr) (H : Hp) : Nat → V → PyData → Prop
  | 0, v, d => Sc v d
  | n + 1, v, d => Sc v d ∨ (∃ a xs ds, v = .ref a ∧ d = .list ds ∧ SL K x H a xs ∧ xs.length ≤ 100000 ∧ Paired (Dn K x H n) xs ds) ∨ ∃ a xs ds, v = .ref a ∧ d = .tuple ds ∧ SU K x H a xs ∧ xs.length ≤ 100000 ∧ Paired (Dn K x H n) xs ds
theorem Dn.sc {K : PySem.W.Frag} {x : Addr} {H : Hp} {v : V} {d : PyData} (h : Sc v d) : ∀ n, Dn K x H n v d
  | 0 => h
  | _ + 1 => .inl h
theorem Dn.but {K : PySem.W.Frag} {x : Addr} {H H' : Hp} (e : But x H H') : ∀ {n : Nat} {v : V} {d : PyData}, Dn K x H n v d → Dn K x H' n v d
  | 0, _, _, h => h
  | n + 1, v, d, h => by
    rcases h with h | ⟨a, xs, ds, rfl, rfl, h, hz, p⟩ | ⟨a, xs, ds, rfl, rfl, h, hz, p⟩
    · exact .inl h
    · exact .inr (.inl ⟨a, xs, ds, rfl, rfl, h.but e, hz, L2.Paired.mapP p fun _ _ z => Dn.but e z⟩)
    · exact .inr (.inr ⟨a, xs, ds, rfl, rfl, h.but e, hz, L2.Paired.mapP p fun _ _ z => Dn.but e z⟩)
theorem Dn.lst {K : PySem.W.Frag} {x : Addr} {H : Hp} {n : Nat} {a : Addr} {xs : List V} {ds : List PyData} (ne : a ≠ x) (h : SqL K H a xs) (p : Paired (Dn K x H n) xs ds) (hz : xs.length ≤ 100000 := by simp) : Dn K x H (n + 1) (.ref a) (.list ds) :=
  .inr (.inl ⟨a, xs, ds, rfl, rfl, .inl ⟨ne, h⟩, hz, p⟩)
theorem Dn.tup {K : PySem.W.Frag} {x : Addr} {H : Hp} {n : Nat} {a : Addr} {xs : List V} {ds : List PyData} (ne : a ≠ x) (h : SqT K H a xs) (p : Paired (Dn K x H n) xs ds) (hz : xs.length ≤ 100000 := by simp) : Dn K x H (n + 1) (.ref a) (.tuple ds) :=
  .inr (.inr ⟨a, xs, ds, rfl, rfl, .inl ⟨ne, h⟩, hz, p⟩)
theorem Dn.int {K : PySem.W.Frag} {x : Addr} {H : Hp} (i : Int) {n : Nat} : Dn K x H n (.int i) (.int i) := Dn.sc (.int i) n
theorem Dn.str {K : PySem.W.Frag} {x : Addr} {H : Hp} (i : Str) {n : Nat} : Dn K x H n (.str i) (.str i) := Dn.sc (.str i) n
theorem Dn.bl {K : PySem.W.Frag} {x : Addr} {H : Hp} (i : Bool) {n : Nat} : Dn K x H n (.bl i) (.bool i) := Dn.sc (.bl i) n
theorem Dn.non {K : PySem.W.Frag} {x : Addr} {H : Hp} {n : Nat} : Dn K x H n .non .none := Dn.sc .non n
theorem Dn.up {K : PySem.W.Frag} {x : Addr} {H : Hp} : ∀ {n : Nat} {v : V} {d : PyData}, Dn K x H n v d → Dn K x H (n + 1) v d
  | 0, _, _, h => .inl h
  | n + 1, v, d, h => by
    rcases h with h | ⟨a, xs, ds, rfl, rfl, h, hz, p⟩ | ⟨a, xs, ds, rfl, rfl, h, hz, p⟩
    · exact .inl h
    · exact .inr (.inl ⟨a, xs, ds, rfl, rfl, h, hz, L2.Paired.mapP p fun _ _ z => Dn.up z⟩)
    · exact .inr (.inr ⟨a, xs, ds, rfl, rfl, h, hz, L2.Paired.mapP p fun _ _ z => Dn.up z⟩)
theorem pair_get {α β : Type} {F : α → β → Prop} : ∀ {l : List α} {m : List β} {i : Nat} {x : α}, Paired F l m → l[i]? = some x → ∃ y, m[i]? = some y ∧ F x y
  | _, _, _, _, .nil, e => by simp at e
  | _, _, 0, _, .cons r _, e => by simp at e; subst e; exact ⟨_, rfl, r⟩
  | _, _, i + 1, x, .cons _ t, e => by
    obtain ⟨y, h1, h2⟩ := pair_get (i := i) (x := x) t (by simpa using e)
    exact ⟨y, by simpa using h1, h2⟩
theorem pair_len {α β : Type} {F : α → β → Prop} : ∀ {l : List α} {m : List β}, Paired F l m → l.length = m.length
  | _, _, .nil => rfl
  | _, _, .cons _ t => by rw [List.length_cons, List.length_cons, pair_len t]
noncomputable def sameD (d e : PyData) : Bool := @decide (d = e) (Classical.propDecidable _)
theorem same_yes {d e : PyData} (h : d = e) : sameD d e = true := by unfold sameD; exact @decide_eq_true _ (Classical.propDecidable _) h
theorem same_no {d e : PyData} (h : d ≠ e) : sameD d e = false := by unfold sameD; exact @decide_eq_false _ (Classical.propDecidable _) h
theorem same_iff {d e : PyData} : sameD d e = true ↔ d = e := by
  constructor
  · intro h
    by_cases q : d = e
    · exact q
    · rw [same_no q] at h; cases h
  · exact same_yes
theorem same_of {p : Prop} [Decidable p] {d e : PyData} (h : d = e ↔ p) : sameD d e = decide p := by
  by_cases q : p
  · rw [decide_eq_true q, same_yes (h.mpr q)]
  · rw [decide_eq_false q, same_no (fun z => q (h.mp z))]
def spSame (K : PySem.W.Frag) (n : Nat) : Sp := fun vs H Q _ => ∃ (x : Addr) (v1 v2 : V) (d1 d2 : PyData), vs = [v1, v2] ∧ Dn K x H n v1 d1 ∧ Dn K x H n v2 d2 ∧ Q (.bl (sameD d1 d2)) H
end My
local macro_rules | `(tactic| walk_at "ty") => `(tactic| first | exact .base (.int _) | exact .base (.bl _) | exact .base .non | exact .base (.str _) | exact My.tyL (by assumption) | exact My.tyT (by assumption))
local macro_rules | `(tactic| walk_at "is") => `(tactic| first | refine ⟨_, _, _, _, true, rfl, L2.ClsV.ty _, (by walk_at "ty"), L2.kit_ty (by decide +kernel), ?_⟩ | refine ⟨_, _, _, _, false, rfl, L2.ClsV.ty _, (by walk_at "ty"), L2.kit_ty (by decide +kernel), ?_⟩)
local macro_rules | `(tactic| walk_at "ri") => `(tactic| repeat (first | walk_at "is" | refine ⟨_, rfl, ?_⟩ | refine ⟨rfl, ?_⟩))
namespace My
open PySem L2
theorem same_bl (a b : Bool) : sameD (.bool a) (.bool b) = decide (V.bl a = V.bl b) := same_of ⟨fun h => by cases h; rfl, fun h => by cases h; rfl⟩
theorem same_int (a b : Int) : sameD (.int a) (.int b) = decide (V.int a = V.int b) := same_of ⟨fun h => by cases h; rfl, fun h => by cases h; rfl⟩
theorem same_str (a b : Str) : sameD (.str a) (.str b) = decide (V.str a = V.str b) := same_of ⟨fun h => by cases h; rfl, fun h => by cases h; rfl⟩
theorem same_non : sameD .none .none = true := same_yes rfl
theorem same_lst (a b : List PyData) : sameD (.list a) (.list b) = true ↔ a = b := same_iff.trans ⟨fun h => by cases h; rfl, fun h => by cases h; rfl⟩
theorem same_tup (a b : List PyData) : sameD (.tuple a) (.tuple b) = true ↔ a = b := same_iff.trans ⟨fun h => by cases h; rfl, fun h => by cases h; rfl⟩
section
variable {P : Program} {w : World} {K : PySem.W.Frag} {mg : Str → Option Value} {base : Heap}
set_option maxHeartbeats 8000000 in
theorem ok__law_same (T : Txt K mg) : ∀ n, FnOk P w K mg base CX0 (n + 1) T.a__law_same T.fd__law_same ["_law_actual", "_law_expected"] (spSame K n)
  | 0 => by
    refine T.F__law_same.ok sc__law_same (fun vs H Q E h => ?_) (fun cdv A outer s H vs Q E hr h => ?_)
    · obtain ⟨x, v1, v2, d1, d2, rfl, _⟩ := h; rfl
    · obtain ⟨x, v1, v2, d1, d2, rfl, h1, h2, q⟩ := h
      refine ⟨_, (pss_cons (ps_if (PW.pt (pw_or (pt_val (pe_callB call_isi (by rfl) T.n_isinstance (by decide +kernel) (pa_cons (pv 0) (pa_cons (pe_bltn (v := .ty "bool") (by rfl) T.n_bool (by decide +kernel) rfl) pa_nil)))) (pw_or1 (pt_val (pe_callB call_isi (by rfl) T.n_isinstance (by decide +kernel) (pa_cons (pv 1) (pa_cons (pe_bltn (v := .ty "bool") (by rfl) T.n_bool (by decide +kernel) rfl) pa_nil))))))) (pss_one (ps_ret (pe_and (pe_callB call_isi (by rfl) T.n_isinstance (by decide +kernel) (pa_cons (pv 0) (pa_cons (pe_bltn (v := .ty "bool") (by rfl) T.n_bool (by decide +kernel) rfl) pa_nil))) (pe_and (pe_callB call_isi (by rfl) T.n_isinstance (by decide +kernel) (pa_cons (pv 1) (pa_cons (pe_bltn (v := .ty "bool") (by rfl) T.n_bool (by decide +kernel) rfl) pa_nil))) (pe_one (pe_cmpR op_eq (pv 0) (pv 1) (nomark _))))))) pss_nil)
      (pss_cons (ps_if (PW.pt (pw_or (pt_cmpR op_isN (pv 0) (pe_non) (nomark _)) (pw_or1 (pt_cmpR op_isN (pv 1) (pe_non) (nomark _))))) (pss_one (ps_ret (pe_and (pe_cmpR op_isN (pv 0) (pe_non) (nomark _)) (pe_one (pe_cmpR op_isN (pv 1) (pe_non) (nomark _)))))) pss_nil)
      (pss_cons (ps_if (pt_val (pe_callB call_isi (by rfl) T.n_isinstance (by decide +kernel) (pa_cons (pv 1) (pa_cons (pe_bltn (v := .ty "int") (by rfl) T.n_int (by decide +kernel) rfl) pa_nil)))) (pss_one (ps_ret (pe_and (pe_callB call_isi (by rfl) T.n_isinstance (by decide +kernel) (pa_cons (pv 0) (pa_cons (pe_bltn (v := .ty "int") (by rfl) T.n_int (by decide +kernel) rfl) pa_nil))) (pe_one (pe_cmpR op_eq (pv 0) (pv 1) (nomark _)))))) pss_nil)
      (pss_cons (ps_if (pt_val (pe_callB call_isi (by rfl) T.n_isinstance (by decide +kernel) (pa_cons (pv 1) (pa_cons (pe_bltn (v := .ty "str") (by rfl) T.n_str (by decide +kernel) rfl) pa_nil)))) (pss_one (ps_ret (pe_and (pe_callB call_isi (by rfl) T.n_isinstance (by decide +kernel) (pa_cons (pv 0) (pa_cons (pe_bltn (v := .ty "str") (by rfl) T.n_str (by decide +kernel) rfl) pa_nil))) (pe_one (pe_cmpR op_eq (pv 0) (pv 1) (nomark _)))))) pss_nil)
      (pss_cons (ps_if (PW.pt (pw_and (pt_val (pe_callB call_isi (by rfl) T.n_isinstance (by decide +kernel) (pa_cons (pv 1) (pa_cons (pe_bltn (v := .ty "tuple") (by rfl) T.n_tuple (by decide +kernel) rfl) pa_nil)))) (pw_and1 (pt_not (pt_val (pe_callB call_isi (by rfl) T.n_isinstance (by decide +kernel) (pa_cons (pv 0) (pa_cons (pe_bltn (v := .ty "tuple") (by rfl) T.n_tuple (by decide +kernel) rfl) pa_nil)))))))) (pss_one (ps_ret (pe_bl))) pss_nil)
      (pss_cons (ps_if (PW.pt (pw_and (pt_val (pe_callB call_isi (by rfl) T.n_isinstance (by decide +kernel) (pa_cons (pv 1) (pa_cons (pe_bltn (v := .ty "list") (by rfl) T.n_list (by decide +kernel) rfl) pa_nil)))) (pw_and1 (pt_not (pt_val (pe_callB call_isi (by rfl) T.n_isinstance (by decide +kernel) (pa_cons (pv 0) (pa_cons (pe_bltn (v := .ty "list") (by rfl) T.n_list (by decide +kernel) rfl) pa_nil)))))))) (pss_one (ps_ret (pe_bl))) pss_nil)
      (pss_cons (ps_if (pt_cmpR op_ne (pe_callB call_len_seq (by rfl) T.n_len (by decide +kernel) (pa_cons (pv 0) pa_nil)) (pe_callB call_len_seq (by rfl) T.n_len (by decide +kernel) (pa_cons (pv 1) pa_nil)) (nomark _)) (pss_one (ps_ret (pe_bl))) pss_nil)
      (pss_cons ps_never
      (pss_one (ps_ret (pe_bl))))))))))), ?_⟩
      cases h1 <;> cases h2
      all_goals walk_at "ri"
      all_goals first | (rw [same_no (by intro z; cases z)] at q; exact q) | (rw [same_bl] at q; exact q) | (rw [same_int] at q; exact q) | (rw [same_str] at q; exact q) | (rw [same_non] at q; exact q)
  | n + 1 => by
    refine T.F__law_same.ok sc__law_same (fun vs H Q E h => ?_) (fun cdv A outer s H vs Q E hr h => ?_)
    · obtain ⟨x, v1, v2, d1, d2, rfl, _⟩ := h; rfl
    · obtain ⟨x, v1, v2, d1, d2, rfl, h1, h2, q⟩ := h
      refine ⟨_, (pss_cons (ps_if (PW.pt (pw_or (pt_val (pe_callB call_isi (by rfl) T.n_isinstance (by decide +kernel) (pa_cons (pv 0) (pa_cons (pe_bltn (v := .ty "bool") (by rfl) T.n_bool (by decide +kernel) rfl) pa_nil)))) (pw_or1 (pt_val (pe_callB call_isi (by rfl) T.n_isinstance (by decide +kernel) (pa_cons (pv 1) (pa_cons (pe_bltn (v := .ty "bool") (by rfl) T.n_bool (by decide +kernel) rfl) pa_nil))))))) (pss_one (ps_ret (pe_and (pe_callB call_isi (by rfl) T.n_isinstance (by decide +kernel) (pa_cons (pv 0) (pa_cons (pe_bltn (v := .ty "bool") (by rfl) T.n_bool (by decide +kernel) rfl) pa_nil))) (pe_and (pe_callB call_isi (by rfl) T.n_isinstance (by decide +kernel) (pa_cons (pv 1) (pa_cons (pe_bltn (v := .ty "bool") (by rfl) T.n_bool (by decide +kernel) rfl) pa_nil))) (pe_one (pe_cmpR op_eq (pv 0) (pv 1) (nomark _))))))) pss_nil)
      (pss_cons (ps_if (PW.pt (pw_or (pt_cmpR op_isN (pv 0) (pe_non) (nomark _)) (pw_or1 (pt_cmpR op_isN (pv 1) (pe_non) (nomark _))))) (pss_one (ps_ret (pe_and (pe_cmpR op_isN (pv 0) (pe_non) (nomark _)) (pe_one (pe_cmpR op_isN (pv 1) (pe_non) (nomark _)))))) pss_nil)
      (pss_cons (ps_if (pt_val (pe_callB call_isi (by rfl) T.n_isinstance (by decide +kernel) (pa_cons (pv 1) (pa_cons (pe_bltn (v := .ty "int") (by rfl) T.n_int (by decide +kernel) rfl) pa_nil)))) (pss_one (ps_ret (pe_and (pe_callB call_isi (by rfl) T.n_isinstance (by decide +kernel) (pa_cons (pv 0) (pa_cons (pe_bltn (v := .ty "int") (by rfl) T.n_int (by decide +kernel) rfl) pa_nil))) (pe_one (pe_cmpR op_eq (pv 0) (pv 1) (nomark _)))))) pss_nil)
      (pss_cons (ps_if (pt_val (pe_callB call_isi (by rfl) T.n_isinstance (by decide +kernel) (pa_cons (pv 1) (pa_cons (pe_bltn (v := .ty "str") (by rfl) T.n_str (by decide +kernel) rfl) pa_nil)))) (pss_one (ps_ret (pe_and (pe_callB call_isi (by rfl) T.n_isinstance (by decide +kernel) (pa_cons (pv 0) (pa_cons (pe_bltn (v := .ty "str") (by rfl) T.n_str (by decide +kernel) rfl) pa_nil))) (pe_one (pe_cmpR op_eq (pv 0) (pv 1) (nomark _)))))) pss_nil)
      (pss_cons (ps_if (PW.pt (pw_and (pt_val (pe_callB call_isi (by rfl) T.n_isinstance (by decide +kernel) (pa_cons (pv 1) (pa_cons (pe_bltn (v := .ty "tuple") (by rfl) T.n_tuple (by decide +kernel) rfl) pa_nil)))) (pw_and1 (pt_not (pt_val (pe_callB call_isi (by rfl) T.n_isinstance (by decide +kernel) (pa_cons (pv 0) (pa_cons (pe_bltn (v := .ty "tuple") (by rfl) T.n_tuple (by decide +kernel) rfl) pa_nil)))))))) (pss_one (ps_ret (pe_bl))) pss_nil)
      (pss_cons (ps_if (PW.pt (pw_and (pt_val (pe_callB call_isi (by rfl) T.n_isinstance (by decide +kernel) (pa_cons (pv 1) (pa_cons (pe_bltn (v := .ty "list") (by rfl) T.n_list (by decide +kernel) rfl) pa_nil)))) (pw_and1 (pt_not (pt_val (pe_callB call_isi (by rfl) T.n_isinstance (by decide +kernel) (pa_cons (pv 0) (pa_cons (pe_bltn (v := .ty "list") (by rfl) T.n_list (by decide +kernel) rfl) pa_nil)))))))) (pss_one (ps_ret (pe_bl))) pss_nil)
      (pss_cons (ps_if (pt_cmpR op_ne (pe_callB call_len_seq (by rfl) T.n_len (by decide +kernel) (pa_cons (pv 0) pa_nil)) (pe_callB call_len_seq (by rfl) T.n_len (by decide +kernel) (pa_cons (pv 1) pa_nil)) (nomark _)) (pss_one (ps_ret (pe_bl))) pss_nil)
      (pss_cons (ps_for PassesOwn.never rfl (pi_range1 (by rfl) T.n_range (pa_cons (pe_callB call_len_seq (by rfl) T.n_len (by decide +kernel) (pa_cons (pv 1) pa_nil)) pa_nil)) (pg_name (i := 2) sc__law_same.nd rfl (.inl rfl)) (pss_one (ps_if (pt_not (pt_val (pe_call (ok__law_same T n) (hr.mono (by omega)) (by rfl) T.g__law_same T.F__law_same.kp T.b__law_same .nil pass0 (pa_cons (pe_ix ix_seq (pv 0) (pv 2) (fun _ _ => rfl)) (pa_cons (pe_ix ix_seq (pv 1) (pv 2) (fun _ _ => rfl)) pa_nil))))) (pss_one (ps_ret (pe_bl))) pss_nil)))
      (pss_one (ps_ret (pe_bl))))))))))), ?_⟩
      rcases h1 with h1 | ⟨a1, xs1, ds1, rfl, rfl, h1, z1, p1⟩ | ⟨a1, xs1, ds1, rfl, rfl, h1, z1, p1⟩ <;> rcases h2 with h2 | ⟨a2, xs2, ds2, rfl, rfl, h2, z2, p2⟩ | ⟨a2, xs2, ds2, rfl, rfl, h2, z2, p2⟩
      · cases h1 <;> cases h2
        all_goals walk_at "ri"
        all_goals first | (rw [same_no (by intro z; cases z)] at q; exact q) | (rw [same_bl] at q; exact q) | (rw [same_int] at q; exact q) | (rw [same_str] at q; exact q) | (rw [same_non] at q; exact q)
      · have t2 := h2.sq
        cases h1
        all_goals (walk_at "ri"; rw [same_no (by intro z; cases z)] at q; exact q)
      · have t2 := h2.sq
        cases h1
        all_goals (walk_at "ri"; rw [same_no (by intro z; cases z)] at q; exact q)
      · have t1 := h1.sq
        cases h2
        all_goals (walk_at "ri"; rw [same_no (by intro z; cases z)] at q; exact q)
      · have t1 := h1.sq
        have t2 := h2.sq
        walk_at "ri"
        refine ⟨_, _, rfl, .inl t1, _, rfl, _, _, rfl, .inl t2, rfl, _, rfl, ?_⟩
        have l1 := pair_len p1
        have l2 := pair_len p2
        refine iteN (fun c => ?_) (fun c => ?_)
        · rw [same_no (by intro z; cases z; exact c (by rw [l1, l2]))] at q; exact q
        have c' : xs1.length = xs2.length := by have := V.int.inj c; omega
        refine ⟨_, rfl, _, _, rfl, .inl t2, _, rfl, by omega, by omega, for_range (lo := 0) (n := _) (fun j σ H' => ∃ x2, σ = [some (.ref a1), some (.ref a2), x2] ∧ H' = H ∧ ds1.take j = ds2.take j) ⟨_, rfl, rfl, rfl⟩ ?_ ?_⟩
        · rintro j σ H1 hj ⟨x2, rfl, rfl, et⟩
          have j2 : j < xs2.length := by omega
          have j1 : j < xs1.length := by omega
          obtain ⟨e1, g1, r1⟩ := pair_get p1 (List.getElem?_eq_getElem j1)
          obtain ⟨e2, g2, r2⟩ := pair_get p2 (List.getElem?_eq_getElem j2)
          refine ⟨_, rfl, _, rfl, .inl ⟨_, _, _, _, rfl, rfl, t1, at_of (j := j) (by omega) (List.getElem?_eq_getElem j1), ?_⟩⟩
          refine ⟨_, rfl, _, rfl, .inl ⟨_, _, _, _, rfl, rfl, t2, at_of (j := j) (by omega) (List.getElem?_eq_getElem j2), ?_⟩⟩
          refine ⟨x, _, _, e1, e2, rfl, r1, r2, _, rfl, ?_⟩
          refine iteB (fun b => ?_) (fun b => ?_)
          · have ne : e1 ≠ e2 := fun h => by rw [same_yes h] at b; cases b
            rw [same_no (by intro z; cases z; rw [g1] at g2; exact ne (Option.some.inj g2))] at q; exact q
          · have ee : e1 = e2 := by
              apply same_iff.mp
              cases h : sameD e1 e2 with
              | true => rfl
              | false => rw [h] at b; cases b
            subst ee
            exact ⟨_, rfl, rfl, by rw [List.take_add_one, List.take_add_one, et, g1, g2]⟩
        · rintro σ H1 ⟨x2, rfl, rfl, et⟩
          have ed : ds1 = ds2 := by
            rw [List.take_of_length_le (by omega), List.take_of_length_le (by omega)] at et
            exact et
          subst ed
          rw [same_yes rfl] at q; exact q
      · have t1 := h1.sq
        have t2 := h2.sq
        walk_at "ri"
        rw [same_no (by intro z; cases z)] at q; exact q
      · have t1 := h1.sq
        cases h2
        all_goals (walk_at "ri"; rw [same_no (by intro z; cases z)] at q; exact q)
      · have t1 := h1.sq
        have t2 := h2.sq
        walk_at "ri"
        rw [same_no (by intro z; cases z)] at q; exact q
      · have t1 := h1.sq
        have t2 := h2.sq
        walk_at "ri"
        refine ⟨_, _, rfl, .inr t1, _, rfl, _, _, rfl, .inr t2, rfl, _, rfl, ?_⟩
        have l1 := pair_len p1
        have l2 := pair_len p2
        refine iteN (fun c => ?_) (fun c => ?_)
        · rw [same_no (by intro z; cases z; exact c (by rw [l1, l2]))] at q; exact q
        have c' : xs1.length = xs2.length := by have := V.int.inj c; omega
        refine ⟨_, rfl, _, _, rfl, .inr t2, _, rfl, by omega, by omega, for_range (lo := 0) (n := _) (fun j σ H' => ∃ x2, σ = [some (.ref a1), some (.ref a2), x2] ∧ H' = H ∧ ds1.take j = ds2.take j) ⟨_, rfl, rfl, rfl⟩ ?_ ?_⟩
        · rintro j σ H1 hj ⟨x2, rfl, rfl, et⟩
          have j2 : j < xs2.length := by omega
          have j1 : j < xs1.length := by omega
          obtain ⟨e1, g1, r1⟩ := pair_get p1 (List.getElem?_eq_getElem j1)
          obtain ⟨e2, g2, r2⟩ := pair_get p2 (List.getElem?_eq_getElem j2)
          refine ⟨_, rfl, _, rfl, .inr (.inl ⟨_, _, _, _, rfl, rfl, t1, at_of (j := j) (by omega) (List.getElem?_eq_getElem j1), ?_⟩)⟩
          refine ⟨_, rfl, _, rfl, .inr (.inl ⟨_, _, _, _, rfl, rfl, t2, at_of (j := j) (by omega) (List.getElem?_eq_getElem j2), ?_⟩)⟩
          refine ⟨x, _, _, e1, e2, rfl, r1, r2, _, rfl, ?_⟩
          refine iteB (fun b => ?_) (fun b => ?_)
          · have ne : e1 ≠ e2 := fun h => by rw [same_yes h] at b; cases b
            rw [same_no (by intro z; cases z; rw [g1] at g2; exact ne (Option.some.inj g2))] at q; exact q
          · have ee : e1 = e2 := by
              apply same_iff.mp
              cases h : sameD e1 e2 with
              | true => rfl
              | false => rw [h] at b; cases b
            subst ee
            exact ⟨_, rfl, rfl, by rw [List.take_add_one, List.take_add_one, et, g1, g2]⟩
        · rintro σ H1 ⟨x2, rfl, rfl, et⟩
          have ed : ds1 = ds2 := by
            rw [List.take_of_length_le (by omega), List.take_of_length_le (by omega)] at et
            exact et
          subst ed
          rw [same_yes rfl] at q; exact q
end
theorem nsame {d : PyData} : (!sameD d d) = false := by rw [same_yes rfl]; rfl
end My

namespace My
open PySem L2
/-! ### lists of ints: in, flat; slices -/
theorem flat_ints (ns : List Int) : (ns.map V.int).all flatV = true := by
  rw [List.all_eq_true]
  intro v h
  obtain ⟨n, _, rfl⟩ := List.mem_map.mp h
  rfl
theorem in_ints (n : Int) (ns : List Int) : inV (.int n) (ns.map V.int) = decide (n ∈ ns) := by
  unfold inV
  rw [List.any_map, Bool.eq_iff_iff, List.any_eq_true, decide_eq_true_iff]
  constructor
  · rintro ⟨m, h, e⟩
    have e : (m == n) = true := e
    rw [← beq_iff_eq.mp e]; exact h
  · intro h
    exact ⟨n, h, by show (n == n) = true; simp⟩
theorem cut_to (xs : List V) (n : Nat) : cutV xs none (some (n : Int)) = xs.take n := by
  unfold cutV HT.sIx
  simp only [List.drop_zero, Nat.sub_zero]
  have h0 : ¬ (n : Int) < 0 := by omega
  simp only [h0, if_false]
  by_cases h : n ≤ xs.length
  · congr 1
    omega
  · rw [List.take_of_length_le (by omega), List.take_of_length_le (by omega)]
theorem cut_from (xs : List V) (n : Nat) : cutV xs (some (n : Int)) none = xs.drop n := by
  unfold cutV HT.sIx
  have h0 : ¬ (n : Int) < 0 := by omega
  simp only [h0, if_false]
  by_cases h : n ≤ xs.length
  · rw [List.take_of_length_le (by rw [List.length_drop]; omega)]
    congr 1
    omega
  · rw [List.drop_eq_nil_of_le (by omega), List.drop_eq_nil_of_le (by omega), List.take_nil]
end My

namespace My
open PySem L2
/-! ### shapes: rows -/
structure Row where
  mark : Str
  pars : List Str
  least : Int
  most : Int
  sh : Bool
  deriving DecidableEq
def isMk (t : Str) : Bool := decide (1 ≤ t.length ∧ t.length ≤ 8) && (TL.tl t).all fun c => decide (97 ≤ c ∧ c ≤ 122)
def spMark : Sp := fun vs H Q _ => ∃ (z : Str), vs = [.str z] ∧ z.length ≤ 90000 ∧ Q (.bl (isMk z)) H
theorem letter_mem {c : Nat} : c ∈ ("abcdefghijklmnopqrstuvwxyz" : Str).cps.toList ↔ 97 ≤ c ∧ c ≤ 122 := by
  rw [show ("abcdefghijklmnopqrstuvwxyz" : Str).cps.toList = [97, 98, 99, 100, 101, 102, 103, 104, 105, 106, 107, 108, 109, 110, 111, 112, 113, 114, 115, 116, 117, 118, 119, 120, 121, 122] by decide +kernel]
  simp only [List.mem_cons, List.not_mem_nil, or_false]
  omega
section
variable {w : World} {K : PySem.W.Frag} {mg : Str → Option Value} {base : Heap}
theorem ok_is_mark (T : Txt K mg) : FnOk PP w K mg base CX0 1 T.a_is_mark T.fd_is_mark ["text"] spMark := by
  refine T.F_is_mark.ok sc_is_mark (fun vs H Q E h => ?_) (fun cdv A outer s H vs Q E hr h => ?_)
  · obtain ⟨z, rfl, _⟩ := h; rfl
  · obtain ⟨z, rfl, hz, q⟩ := h
    refine ⟨_, (pss_cons (ps_if (pt_not (pt_chain op_le op_le (pe_int) (pe_callB call_len_str (by rfl) T.n_len (by decide +kernel) (pa_cons (pv 0) pa_nil)) (pe_int))) (pss_one (ps_ret (pe_bl))) pss_nil)
      (pss_cons (ps_for PassesOwn.never rfl (pi_str (pv 0)) (pg_name (i := 1) sc_is_mark.nd rfl (.inl rfl)) (pss_one (ps_if (pt_cmpR op_notInS (pv 1) (pe_glob (v := .str "abcdefghijklmnopqrstuvwxyz") (by rfl) T.g_LETTERS ⟨_, rfl⟩) (by with_unfolding_all rfl)) (pss_one (ps_ret (pe_bl))) pss_nil)))
      (pss_one (ps_ret (pe_bl))))), ?_⟩
    have big : 90000 < sizeLine := by decide
    by_cases k1 : 1 ≤ z.length
    case neg =>
      rw [show isMk z = false by unfold isMk; rw [decide_eq_false (by omega)]; rfl] at q
      exact ⟨_, rfl, z, rfl, by omega, _, _, rfl, rfl, _, rfl, iteNo (decide_eq_false (by omega)) ⟨_, rfl, iteYes rfl q⟩⟩
    refine ⟨_, rfl, z, rfl, by omega, _, _, rfl, rfl, _, rfl, iteYes (decide_eq_true (by omega)) ⟨_, _, rfl, rfl, _, rfl, ?_⟩⟩
    by_cases k9 : z.length ≤ 8
    case neg =>
      rw [show isMk z = false by unfold isMk; rw [decide_eq_false (by omega)]; rfl] at q
      exact iteYes (by rw [decide_eq_false (by omega)]; rfl) q
    refine iteNo (by rw [decide_eq_true (by omega)]; rfl) ?_
    refine ⟨_, rfl, z, rfl, for_str (z := z) (fun i σ H' => ∃ x1, H' = H ∧ σ = [some (.str z), x1] ∧ ∀ j, j < i → ∀ c, (TL.tl z)[j]? = some c → 97 ≤ c ∧ c ≤ 122) ⟨_, rfl, rfl, fun j hj => absurd hj (Nat.not_lt_zero _)⟩ ?_ ?_⟩
    · rintro i c σ H' hc ⟨x1, rfl, rfl, hp⟩
      refine ⟨_, rfl, c, _, rfl, rfl, _, rfl, iteN (fun h => ?_) (fun h => ?_)⟩
      · rw [show isMk z = false by
          unfold isMk
          rw [List.all_eq_false.mpr ⟨c, List.mem_of_getElem? hc, by simpa using fun a => Nat.lt_of_not_le fun b => h (letter_mem.mpr ⟨a, b⟩)⟩, Bool.and_false]] at q
        exact q
      · refine ⟨_, rfl, rfl, fun j hj c' hc' => ?_⟩
        by_cases e : j = i
        · subst e
          rw [hc] at hc'
          exact Option.some.inj hc' ▸ letter_mem.mp h
        · exact hp j (by omega) c' hc'
    · rintro σ H' ⟨x1, rfl, rfl, hp⟩
      rw [show isMk z = true by
        unfold isMk
        rw [decide_eq_true ⟨k1, k9⟩, Bool.true_and, List.all_eq_true]
        intro c hc
        obtain ⟨j, hj, e⟩ := List.getElem_of_mem hc
        exact decide_eq_true (hp j (by rw [TL.len_tl]; exact hj) c (by rw [List.getElem?_eq_getElem hj, e]))] at q
      exact q
end
end My

namespace My
open PySem L2
def rowL (r : Row) (pp : Addr) : List V := [.str r.mark, .ref pp, .int r.least, .int r.most, .bl r.sh]
/-- a row as it is handed over: lists or tuples -/
def RowV (H : Hp) (v : V) (r : Row) : Prop := ∃ p pp, v = .ref p ∧ (H p = some (.tup (rowL r pp)) ∨ H p = some (.lst (rowL r pp))) ∧ (H pp = some (.tup (r.pars.map V.str)) ∨ H pp = some (.lst (r.pars.map V.str)))
/-- a row as it is kept -/
def RowT (H : Hp) (v : V) (r : Row) : Prop := ∃ p pp, v = .ref p ∧ H p = some (.tup (rowL r pp)) ∧ H pp = some (.tup (r.pars.map V.str))
def small (r : Row) : Prop := r.mark.length ≤ 1000 ∧ r.pars.length ≤ 100
def sizeB (r : Row) : Bool := decide (0 ≤ r.least) && (decide (r.least ≤ r.most) && decide (r.most ≤ 4))
def fineB (r : Row) (bs : List Str) : Bool := (isMk r.mark && (!decide (r.mark ∈ bs) && sizeB r)) && (decide (0 < r.most) == decide (0 < r.pars.length)) && decide r.pars.Nodup
def spRow (X : Addr) : Sp := fun vs H Q E => ∃ (v : V) (b : Addr) (r : Row) (bs : List Str), vs = [v, .ref b] ∧ RowV H v r ∧ H b = some (.lst (bs.map V.str)) ∧ small r ∧
  (fineB r bs = true → ∀ p pp H', Same H H' → H p = none → H' p = some (.tup (rowL r pp)) → H' pp = some (.tup (r.pars.map V.str)) → Q (.ref p) H') ∧
  (fineB r bs = false → ∀ H' d, Same H H' → H d = none → H' d = some (.xd [("mark", .str r.mark)]) → E (.ref X) (some d) H')
theorem flat_strs (ns : List Str) : (ns.map V.str).all flatV = true := by
  rw [List.all_eq_true]
  intro v h
  obtain ⟨n, _, rfl⟩ := List.mem_map.mp h
  rfl
theorem in_strs (n : Str) (ns : List Str) : inV (.str n) (ns.map V.str) = decide (n ∈ ns) := by
  unfold inV
  rw [List.any_map, Bool.eq_iff_iff, List.any_eq_true, decide_eq_true_iff]
  constructor
  · rintro ⟨m, h, e⟩
    have e : (m == n) = true := e
    rw [← beq_iff_eq.mp e]; exact h
  · intro h
    exact ⟨n, h, by show (n == n) = true; simp⟩
theorem nodup_take_succ {xs : List Str} {i : Nat} {y : Str} (h : xs[i]? = some y) : (xs.take (i + 1)).Nodup ↔ (xs.take i).Nodup ∧ y ∉ xs.take i := by
  rw [List.take_succ, h, Option.toList_some, List.nodup_append]
  constructor
  · rintro ⟨a, _, b⟩
    exact ⟨a, fun m => b y m y (List.mem_singleton.mpr rfl) rfl⟩
  · rintro ⟨a, b⟩
    refine ⟨a, List.nodup_cons.mpr ⟨List.not_mem_nil, List.nodup_nil⟩, fun x hx z hz e => b ?_⟩
    rw [List.mem_singleton.mp hz] at e
    exact e ▸ hx
section
variable {w : World} {K : PySem.W.Frag} {mg : Str → Option Value} {base : Heap}
theorem ok_sound_row (T : Txt K mg) : FnOk PP w K mg base (L2.CX PP w) 3 T.a_sound_row T.fd_sound_row ["row", "before"] (spRow T.c_BadShape) := by
  refine T.F_sound_row.okX sc_sound_row (fun vs H Q E h => ?_) (fun cdv A outer s H vs Q E hr h => ?_)
  · obtain ⟨v, b, r, bs, rfl, _⟩ := h; rfl
  · obtain ⟨v, b, r, bs, rfl, ⟨p, pp, rfl, hp, hpp⟩, hb, hz, q, qb⟩ := h
    refine ⟨_, (pss_cons (ps_asg (pv 0) (pg_seq rfl (pgs_cons (pg_name (i := 2) sc_sound_row.nd rfl (.inl rfl)) (pgs_cons (pg_name (i := 3) sc_sound_row.nd rfl (.inl rfl)) (pgs_cons (pg_name (i := 4) sc_sound_row.nd rfl (.inl rfl)) (pgs_cons (pg_name (i := 5) sc_sound_row.nd rfl (.inl rfl)) (pgs_cons (pg_name (i := 6) sc_sound_row.nd rfl (.inl rfl)) pgs_nil)))))))
      (C8.pss_cut (ps_set (i := 3) sc_sound_row.nd rfl (.inl rfl) (pe_callTy call_tuple_of (by rfl) T.n_tuple (by decide +kernel) (pa_cons (pv 3) pa_nil)))
      (C8.pss_cut (ps_set (i := 7) sc_sound_row.nd rfl (.inl rfl) (pe_and (pe_call (ok_is_mark T) (hr.mono (by omega)) (by rfl) T.g_is_mark T.F_is_mark.kp T.b_is_mark .nil pass0 (pa_cons (pv 2) pa_nil)) (pe_and (pe_cmpR op_notIn_seq (pv 2) (pv 1) (by with_unfolding_all rfl)) (pe_one (pe_chain3 op_le op_le op_le (pe_int) (pv 4) (pv 5) (ClX.pe_cval (pe_glob (v := .ref T.c_Shape) (by rfl) T.g_Shape rfl)))))))
      (C8.pss_cut (ps_if (PW.pt (pw_and (pt_val (pv 7)) (pw_and1 (pt_cmpR op_ne (pe_cmpR op_gt (pv 5) (pe_int) (nomark _)) (pe_cmpR op_gt (pe_callB call_len_seq (by rfl) T.n_len (by decide +kernel) (pa_cons (pv 3) pa_nil)) (pe_int) (nomark _)) (nomark _))))) (pss_one (ps_set (i := 7) sc_sound_row.nd rfl (.inl rfl) (pe_bl))) pss_nil)
      (pss_cons (ps_for (passes_of rfl) rfl (pi_enumT (by rfl) T.n_enumerate (pa_cons (pv 3) pa_nil)) (pg_tup rfl (pgs_cons (pg_name (i := 8) sc_sound_row.nd rfl (.inl rfl)) (pgs_cons (pg_name (i := 9) sc_sound_row.nd rfl (.inl rfl)) pgs_nil))) (pss_one (ps_if (pt_cmpR op_in_seq (pv 9) (pe_slice sl_tup (pv 3) po_none (po_some (pv 8))) (by with_unfolding_all rfl)) (pss_one (ps_set (i := 7) sc_sound_row.nd rfl (.inl rfl) (pe_bl))) pss_nil)))
      (pss_cons (ps_if (pt_not (pt_val (pv 7))) (pss_one (ps_raiseX rfl T.x_BadShape hr (takes_of rfl rfl rfl rfl) (pa_cons (pv 2) pa_nil))) pss_nil)
      (pss_one (ps_ret (pe_tup (pa_cons (pv 2) (pa_cons (pv 3) (pa_cons (pv 4) (pa_cons (pv 5) (pa_cons (pv 6) pa_nil)))))))))))))), ?_⟩
    have big : 90000 < sizeLine := by decide
    refine ⟨_, rfl, gSeq_of hp rfl ⟨_, _, rfl, _, _, rfl, _, _, rfl, _, _, rfl, _, _, rfl, rfl, ?_⟩⟩
    have lm := hz.1
    have lp := hz.2
    -- parents = tuple(parents)
    refine ⟨fun σ' H' => ∃ pq, σ' = [some (.ref p), some (.ref b), some (.str r.mark), some (.ref pq), some (.int r.least), some (.int r.most), some (.bl r.sh), none, none, none] ∧ Same H H' ∧ H' pq = some (.tup (r.pars.map V.str)), ?_, ?_⟩
    · rcases hpp with hpp | hpp
      · exact ⟨_, rfl, pp, _, rfl, .inr ⟨SqT.of hpp, pp, rfl, fun _ _ h => h, hpp⟩⟩
      · exact ⟨_, rfl, pp, _, rfl, .inl ⟨SqL.of hpp, fun l hl => ⟨l, rfl, same_new hl, upd_same⟩⟩⟩
    rintro σ' H1 ⟨pq, rfl, s1, hq⟩
    -- good
    refine ⟨fun σ' H' => H' = H1 ∧ σ' = [some (.ref p), some (.ref b), some (.str r.mark), some (.ref pq), some (.int r.least), some (.int r.most), some (.bl r.sh), some (.bl (isMk r.mark && (!decide (r.mark ∈ bs) && sizeB r))), none, none], ?_, ?_⟩
    · refine ⟨_, rfl, r.mark, rfl, by omega, ?_⟩
      refine ⟨_, rfl, ?_⟩
      cases isMk r.mark with
      | false => exact iteF ⟨rfl, rfl⟩
      | true =>
        refine iteT ⟨_, rfl, _, rfl, _, _, rfl, .inl (SqL.of (s1 _ _ hb)), rfl, flat_strs bs, ?_⟩
        rw [in_strs]
        refine ⟨_, rfl, ?_⟩
        by_cases hm : r.mark ∈ bs
        · refine iteNo (by simp [hm]) ⟨rfl, ?_⟩
          rw [show (true && (!decide (r.mark ∈ bs) && sizeB r)) = false by simp [hm]]
          rfl
        · refine iteYes (by simp [hm]) ⟨_, rfl, _, _, rfl, rfl, _, rfl, iteD (fun c1 => ?_) (fun c1 => ?_)⟩
          · refine ⟨_, rfl, _, _, rfl, rfl, _, rfl, iteD (fun c2 => ?_) (fun c2 => ?_)⟩
            · refine ⟨_, _, _, _, rfl, T.cr_Shape, T.cv_Shape_PARENTS, _, _, rfl, rfl, rfl, ?_⟩
              rw [show (true && (!decide (r.mark ∈ bs) && sizeB r)) = decide (r.most ≤ 4) by simp [hm, sizeB, c1, c2]]
              rfl
            · refine ⟨rfl, ?_⟩
              rw [show (true && (!decide (r.mark ∈ bs) && sizeB r)) = false by simp [hm, sizeB, c2]]
              rfl
          · refine ⟨rfl, ?_⟩
            rw [show (true && (!decide (r.mark ∈ bs) && sizeB r)) = false by simp [hm, sizeB, c1]]
            rfl
    rintro σ' H' ⟨rfl, rfl⟩
    generalize hg0 : (isMk r.mark && (!decide (r.mark ∈ bs) && sizeB r)) = g0
    -- parents and the greatest number
    refine ⟨fun σ' H1 => H1 = H' ∧ σ' = [some (.ref p), some (.ref b), some (.str r.mark), some (.ref pq), some (.int r.least), some (.int r.most), some (.bl r.sh), some (.bl (g0 && (decide (0 < r.most) == decide (0 < r.pars.length)))), none, none], ?_, ?_⟩
    · refine ⟨_, rfl, _, rfl, ?_⟩
      cases g0 with
      | false => exact iteF ⟨rfl, rfl⟩
      | true =>
        refine iteT ⟨_, rfl, _, _, rfl, rfl, _, rfl, pq, _, rfl, .inr (SqT.of hq), _, _, rfl, rfl, rfl, _, rfl, ?_⟩
        rw [List.length_map]
        have hz : decide ((0 : Int) < ((r.pars.length : Nat) : Int)) = decide (0 < r.pars.length) := decide_eq_decide.mpr (by omega)
        refine iteN (fun e => ?_) (fun e => ?_)
        · refine ⟨rfl, ?_⟩
          have e : decide (0 < r.most) ≠ decide (0 < r.pars.length) := fun z => e (congrArg V.bl (z.trans hz.symm))
          rw [show (true && (decide (0 < r.most) == decide (0 < r.pars.length))) = false by simpa using e]
          rfl
        · refine ⟨rfl, ?_⟩
          have e : decide (0 < r.most) = decide (0 < r.pars.length) := (V.bl.inj e).trans hz
          rw [e]; simp
    rintro σ' H1 ⟨rfl, rfl⟩
    generalize hg1 : (g0 && (decide (0 < r.most) == decide (0 < r.pars.length))) = g1
    refine ⟨_, rfl, pq, _, rfl, SqT.of hq, for_enumT (K := K) (a := pq) (xs := r.pars.map V.str) (fun i σ' H2 => ∃ x8 x9, Same H1 H2 ∧ σ' = [some (.ref p), some (.ref b), some (.str r.mark), some (.ref pq), some (.int r.least), some (.int r.most), some (.bl r.sh), some (.bl (g1 && decide (r.pars.take i).Nodup)), x8, x9])
      ⟨_, _, fun _ _ h => h, by rw [List.take_zero, decide_eq_true List.nodup_nil, Bool.and_true]⟩ (fun i σ' H2 _ ⟨_, _, s2, _⟩ => SqT.of (s2 _ _ hq)) ?_ ?_⟩
    · rintro i v σ' H2 Tt hv ⟨x8, x9, s2, rfl⟩ hTt
      obtain ⟨y, hy, rfl⟩ : ∃ y, r.pars[i]? = some y ∧ v = .str y := by
        rw [List.getElem?_map] at hv
        cases e : r.pars[i]? with
        | none => rw [e] at hv; cases hv
        | some y => rw [e] at hv; exact ⟨y, rfl, (Option.some.inj hv).symm⟩
      have s3 := s2.trans (same_new (o := .tup [.int (i : Nat), .str y]) hTt)
      have hi : i < r.pars.length := (List.getElem?_eq_some_iff.mp hy).1
      have hpq : (L2.upd H2 Tt (.tup [.int (i : Nat), .str y])) pq = some (.tup (r.pars.map V.str)) := s3 _ _ hq
      refine ⟨Tt, _, rfl, .inl (.inl upd_same), rfl, _, _, rfl, _, _, rfl, rfl, ?_⟩
      refine ⟨_, rfl, _, rfl, _, rfl, _, rfl, pq, _, rfl, SqT.of hpq, ?_, fun c hc => ?_⟩
      · rw [HT.sIx_nat, List.length_map, Nat.min_eq_left (Nat.le_of_lt hi)]
        exact fun h => absurd h.2 (by omega)
      · have ct : cutV (r.pars.map V.str) none (some ((i : Nat) : Int)) = (r.pars.take i).map V.str := by rw [cut_to, List.map_take]
        refine ⟨_, _, rfl, .inr (SqT.of upd_same), rfl, by rw [ct]; exact flat_strs _, ?_⟩
        rw [ct, in_strs]
        refine ⟨_, rfl, iteD (fun k => ?_) (fun k => ?_)⟩
        · refine ⟨some (.int (i : Nat)), some (.str y), s3.trans (same_new hc), ?_⟩
          rw [decide_eq_false (p := (r.pars.take (i + 1)).Nodup) (fun n => ((nodup_take_succ hy).mp n).2 k), Bool.and_false]
          rfl
        · refine ⟨some (.int (i : Nat)), some (.str y), s3.trans (same_new hc), ?_⟩
          rw [show decide (r.pars.take (i + 1)).Nodup = decide (r.pars.take i).Nodup from decide_eq_decide.mpr ⟨fun n => ((nodup_take_succ hy).mp n).1, fun n => (nodup_take_succ hy).mpr ⟨n, k⟩⟩]
          rfl
    rintro σ' H2 ⟨x8, x9, s2, rfl⟩
    rw [List.length_map, List.take_length]
    have ef : fineB r bs = (g1 && decide r.pars.Nodup) := by unfold fineB; rw [hg0, hg1]
    have t2 := s1.trans s2
    refine ⟨_, rfl, _, rfl, ?_⟩
    rw [← ef]
    cases hf : fineB r bs with
    | false =>
      refine iteYes rfl ⟨_, rfl, _, rfl, fun d hd => ?_⟩
      exact qb hf _ d (t2.trans (same_new hd)) (t2.free hd) upd_same
    | true =>
      refine iteNo rfl ⟨_, rfl, _, rfl, _, rfl, _, rfl, _, rfl, by show 5 ≤ sizeLine; decide, fun z hz' => ?_⟩
      exact q hf z pq _ (t2.trans (same_new hz')) (t2.free hz') upd_same (same_new hz' _ _ (s2 _ _ hq))
end
end My

namespace My
open PySem L2
/-! ### marks that webs can contain -/
inductive Fert (rs : List Row) : Str → Prop
  | base {r : Row} : r ∈ rs → r.least = 0 → Fert rs r.mark
  | step {r : Row} {p : Str} : r ∈ rs → p ∈ r.pars → Fert rs p → Fert rs r.mark
abbrev RowsT (H : Hp) (vs : List V) (rs : List Row) : Prop := Paired (RowT H) vs rs
theorem RowT.same {H H' : Hp} {v : V} {r : Row} (h : RowT H v r) (s : Same H H') : RowT H' v r := let ⟨p, pp, e, a, b⟩ := h; ⟨p, pp, e, s _ _ a, s _ _ b⟩
theorem rowsT_same {H H' : Hp} {vs : List V} {rs : List Row} (h : RowsT H vs rs) (s : Same H H') : RowsT H' vs rs := L2.Paired.mapP h fun _ _ x => x.same s
theorem pair_get' {α β : Type} {F : α → β → Prop} : ∀ {l : List α} {m : List β} {i : Nat} {x : α}, Paired F l m → l[i]? = some x → ∃ y, m[i]? = some y ∧ F x y
  | _, _, _, _, .nil, e => by simp at e
  | _, _, 0, _, .cons r _, e => by simp at e; subst e; exact ⟨_, rfl, r⟩
  | _, _, i + 1, x, .cons _ t, e => by
    obtain ⟨y, h1, h2⟩ := pair_get' (i := i) (x := x) t (by simpa using e)
    exact ⟨y, by simpa using h1, h2⟩
theorem pair_len' {α β : Type} {F : α → β → Prop} : ∀ {l : List α} {m : List β}, Paired F l m → l.length = m.length
  | _, _, .nil => rfl
  | _, _, .cons _ t => by rw [List.length_cons, List.length_cons, pair_len' t]
/-- the first mark that no web can contain -/
inductive Lost (rs : List Row) : V → Prop
  | no : (∀ r ∈ rs, Fert rs r.mark) → Lost rs .non
  | yes {i : Nat} {r : Row} : rs[i]? = some r → (∀ q ∈ rs.take i, Fert rs q.mark) → ¬ Fert rs r.mark → Lost rs (.str r.mark)
def spBarren (K : PySem.W.Frag) : Sp := fun vs H Q _ => ∃ (a : Addr) (us : List V) (rs : List Row), vs = [.ref a] ∧ H a = some (.lst us) ∧ RowsT H us rs ∧ rs.length ≤ 100 ∧ (∀ r ∈ rs, small r) ∧
  ∀ v H', Same H H' → Lost rs v → Q v H'
def knB (kvs : List (Key × V)) (m : Str) : Bool := (valV kvs (.inr m)).isSome
theorem knB_put {kvs : List (Key × V)} {m n : Str} {v : V} : knB (putK kvs (.inr m) v) n = (decide (n = m) || knB kvs n) := by
  unfold knB
  rw [valV_put]
  by_cases e : n = m
  · subst e; simp
  · rw [if_neg (fun c => e (Sum.inr.inj c))]; simp [e]
def ripeB (kvs : List (Key × V)) (r : Row) : Bool := decide (r.least = 0) || r.pars.any (knB kvs)
/-- rows whose marks are not known -/
def restOf (kvs : List (Key × V)) (rs : List Row) : Nat := (rs.filter fun r => !knB kvs r.mark).length
theorem flt_lt {α : Type} {f g : α → Bool} {x : α} : ∀ {l : List α}, (∀ y ∈ l, f y = true → g y = true) → x ∈ l → f x = false → g x = true → (l.filter f).length < (l.filter g).length
  | [], _, h, _, _ => by cases h
  | a :: l, i, h, hf, hg => by
    have le : ∀ {l : List α}, (∀ y ∈ l, f y = true → g y = true) → (l.filter f).length ≤ (l.filter g).length := by
      intro l
      induction l with
      | nil => intro _; exact Nat.le_refl _
      | cons a l ih =>
        intro i
        have ih := ih fun y hy => i y (List.mem_cons_of_mem _ hy)
        have ia := i a (List.mem_cons_self ..)
        simp only [List.filter_cons]
        cases e : f a with
        | false => cases g a <;> simp <;> omega
        | true => rw [ia e]; simp; exact ih
    have il := fun y hy => i y (List.mem_cons_of_mem _ hy)
    simp only [List.filter_cons]
    rcases List.mem_cons.mp h with rfl | h
    · rw [hf, hg]
      simp only [Bool.false_eq_true, if_false, if_true, List.length_cons]
      exact Nat.lt_succ_of_le (le il)
    · have := flt_lt il h hf hg
      have ia := i a (List.mem_cons_self ..)
      cases e : f a with
      | false => cases g a <;> simp <;> omega
      | true => rw [ia e]; simp; exact this
theorem rest_put {kvs : List (Key × V)} {rs : List Row} {r : Row} {v : V} (h : r ∈ rs) (n : knB kvs r.mark = false) : restOf (putK kvs (.inr r.mark) v) rs < restOf kvs rs := by
  refine flt_lt (x := r) (fun y _ e => ?_) h ?_ ?_
  · rw [knB_put] at e
    cases k : knB kvs y.mark with
    | false => rfl
    | true => rw [k, Bool.or_true] at e; cases e
  · rw [knB_put]; simp
  · rw [n]; rfl
section
variable {K : PySem.W.Frag}
theorem any_kn {x0 x2 x3 x5 x6 x7 x8 : Option V} {d pp : Addr} {ps : List Str} {kvs : List (Key × V)} {H : Hp} {Q : VK} (hd : H d = some (.dK kvs)) (hp : H pp = some (.tup (ps.map V.str))) (hz : ps.length ≤ 1000) (q : ∀ H', Same H H' → Q (.bl (ps.any (knB kvs))) H') :
    tCB (rAny K) (tCons (tLc (iTup K (tVar 4)) (gName 7) tYes (tOp (rInKd false) (tVar 7) (tVar 1)) [7]) tNil) [x0, some (.ref d), x2, x3, some (.ref pp), x5, x6, x7, x8] H Q := by
  have big : 1000 < sizeLine := by decide
  refine ⟨_, rfl, pp, rfl, ⟨_, SqT.of hp⟩, fun D hD => lc_tup (K := K) (a := pp) (xs := ps.map V.str) (fun i H' => Same H H' ∧ H' D = some (.lst ((ps.take i).map fun y => V.bl (knB kvs y)))) ⟨same_new hD, upd_same⟩ (fun i H' _ h => SqT.of (h.1 _ _ hp)) ?_ ?_⟩
  · rintro i v H1 hv ⟨s1, hD1⟩
    rw [List.getElem?_map] at hv
    cases e : ps[i]? with
    | none => rw [e] at hv; cases hv
    | some y1 =>
      rw [e] at hv
      obtain rfl : V.str y1 = v := Option.some.inj hv
      refine ⟨rfl, ?_⟩
      unfold tYes
      refine iteT ⟨_, rfl, _, rfl, d, _, rfl, DGet.k (k := .inr y1) (s1 _ _ hd), _, hD1, ?_, same_mut s1 hD, ?_⟩
      · rw [List.length_map, List.length_take]; omega
      · rw [upd_same, List.take_succ, e]
        simp [knB]
  · rintro H1 ⟨s1, hD1⟩
    rw [List.length_map, List.take_length] at hD1
    refine ⟨D, ps.map fun y => knB kvs y, rfl, SqL.of (by rw [hD1, List.map_map]; rfl), ?_⟩
    rw [List.any_map]
    exact q H1 s1
end
theorem fert_known {rs : List Row} {kvs : List (Key × V)} (cl : ∀ r ∈ rs, knB kvs r.mark = false → ripeB kvs r = false) {m : Str} (h : Fert rs m) : knB kvs m = true := by
  induction h with
  | @base r hr e =>
    cases k : knB kvs r.mark with
    | true => rfl
    | false =>
      have := cl r hr k
      unfold ripeB at this
      rw [decide_eq_true e, Bool.true_or] at this; cases this
  | @step r p hr hp _ ih =>
    cases k : knB kvs r.mark with
    | true => rfl
    | false =>
      have := cl r hr k
      unfold ripeB at this
      rw [List.any_eq_true.mpr ⟨p, hp, ih⟩, Bool.or_true] at this; cases this
theorem ripe_fert {rs : List Row} {kvs : List (Key × V)} (so : ∀ m, knB kvs m = true → Fert rs m) {r : Row} (hr : r ∈ rs) (h : ripeB kvs r = true) : Fert rs r.mark := by
  unfold ripeB at h
  rw [Bool.or_eq_true, decide_eq_true_iff, List.any_eq_true] at h
  rcases h with h | ⟨p, hp, k⟩
  · exact .base hr h
  · exact .step hr hp (so p k)
section
variable {w : World} {K : PySem.W.Frag} {mg : Str → Option Value} {base : Heap}
theorem ok_barren (T : Txt K mg) : FnOk PP w K mg base CX0 2 T.a_barren T.fd_barren ["rows"] (spBarren K) := by
  refine T.F_barren.ok sc_barren (fun vs H Q E h => ?_) (fun cdv A outer s H vs Q E hr h => ?_)
  · obtain ⟨a, us, rs, rfl, _⟩ := h; rfl
  · obtain ⟨a, us, rs, rfl, ha, hR, hz, hsm, q⟩ := h
    refine ⟨_, (pss_cons (ps_set (i := 1) sc_barren.nd rfl (.inr rfl) (pe_dnewK))
      (pss_cons (ps_set (i := 2) sc_barren.nd rfl (.inl rfl) (pe_bl))
      (pss_cons (ps_while PassesOwn.never (pt_val (pv 2)) (pss_cons (ps_set (i := 2) sc_barren.nd rfl (.inl rfl) (pe_bl))
      (pss_one (ps_for PassesOwn.never rfl (pi_list (pv 0)) (pg_tup rfl (pgs_cons (pg_name (i := 3) sc_barren.nd rfl (.inl rfl)) (pgs_cons (pg_name (i := 4) sc_barren.nd rfl (.inl rfl)) (pgs_cons (pg_name (i := 5) sc_barren.nd rfl (.inl rfl)) (pgs_cons (pg_name (i := 6) sc_barren.nd rfl (.inl rfl)) (pgs_cons (pg_name (i := 6) sc_barren.nd rfl (.inl rfl)) pgs_nil)))))) (pss_one (ps_if (PW.pt (pw_and (pt_cmpR (op_ninKd (hu_of hr)) (pv 3) (pv 1) (by with_unfolding_all rfl)) (pw_and1 (PW.pt (pw_or (pt_cmpR op_eq (pv 5) (pe_int) (nomark _)) (pw_or1 (pt_val (pe_callB (anyK (K := K) rfl rfl) (by rfl) T.n_any (by decide +kernel) (pa_cons (pe_lc (own := [("parent", 7)]) (g := (gName 7)) (by rfl) sc_barren.nd (pi_tup (pv 4)) (blkOk_by (own := [("parent", 7)]) (N := ["rows", "known", "grown", "mark", "parents", "least", "_", "parent", "row"]) (sc := defScope S_barren) (by decide +kernel)) (fun _ _ _ _ _ => (pg_name (i := 7) sc_barren.nd rfl (by first | exact .inl rfl | exact .inr rfl))) (fun _ _ _ _ _ => pts_nil) (fun _ _ _ _ _ => (pe_cmpR (op_inKd (hu_of hr)) (pv 7) (pv 1) (by with_unfolding_all rfl)))) pa_nil))))))))) (pss_cons (ps_dput (hu_of hr) (pv 1) (pv 3) (pe_bl) rfl)
      (pss_one (ps_set (i := 2) sc_barren.nd rfl (.inl rfl) (pe_bl)))) pss_nil))))))
      (pss_cons (ps_for PassesOwn.never rfl (pi_list (pv 0)) (pg_name (i := 8) sc_barren.nd rfl (.inl rfl)) (pss_one (ps_if (pt_cmpR (op_ninKd (hu_of hr)) (pe_ix ix_tup (pv 8) (pe_int) (fun _ _ => rfl)) (pv 1) (by with_unfolding_all rfl)) (pss_one (ps_ret (pe_ix ix_tup (pv 8) (pe_int) (fun _ _ => rfl)))) pss_nil)))
      (pss_one (ps_ret (pe_non))))))), ?_⟩
    have big : 1000 < sizeLine := by decide
    refine fun d hd => ?_
    have s1 := same_new (o := .dK []) hd
    refine ⟨fun m σ H' => ∃ (kvs : List (Key × V)) (g : Bool) (x3 x4 x5 x6 x7 x8 : Option V), σ = [some (.ref a), some (.ref d), some (.bl g), x3, x4, x5, x6, x7, x8] ∧ Same H H' ∧ H' d = some (.dK kvs) ∧ m = 2 * restOf kvs rs + (if g then 1 else 0) ∧ kvs.length + restOf kvs rs ≤ rs.length ∧
      (∀ m, knB kvs m = true → Fert rs m) ∧ (g = false → ∀ r ∈ rs, knB kvs r.mark = false → ripeB kvs r = false), ⟨_, [], true, _, _, _, _, _, _, rfl, s1, upd_same, rfl, ?_, (fun m h => by cases h), (fun h => by cases h)⟩, ?_⟩
    · rw [List.length_nil, Nat.zero_add]; exact List.length_filter_le _ _
    rintro m σ H2 ⟨kvs, g, x3, x4, x5, x6, x7, x8, rfl, s2, hd2, rfl, lk, so, cl⟩
    refine ⟨_, rfl, _, rfl, ?_⟩
    cases g with
    | true =>
      refine iteT ⟨_, fun σ' H' h => h, ?_⟩
      refine ⟨_, rfl, a, rfl, ⟨_, SqL.of (s2 _ _ ha)⟩, for_list (K := K) (a := a) (xs := us) (fun i σ H' => ∃ (kv : List (Key × V)) (g : Bool) (x3 x4 x5 x6 x7 x8 : Option V), σ = [some (.ref a), some (.ref d), some (.bl g), x3, x4, x5, x6, x7, x8] ∧ Same H H' ∧ H' d = some (.dK kv) ∧ kv.length + restOf kv rs ≤ rs.length ∧
        (∀ m, knB kv m = true → Fert rs m) ∧ (g = true → restOf kv rs < restOf kvs rs) ∧ (g = false → kv = kvs ∧ ∀ r ∈ rs.take i, knB kv r.mark = false → ripeB kv r = false))
        ⟨kvs, false, _, _, _, _, _, _, rfl, s2, hd2, lk, so, (fun h => by cases h), fun _ => ⟨rfl, fun r h => by rw [List.take_zero] at h; cases h⟩⟩ (fun i σ H' _ ⟨_, _, _, _, _, _, _, _, _, s, _⟩ => SqL.of (s _ _ ha)) ?_ ?_⟩
      · rintro i v σ H3 hv ⟨kv, g, y3, y4, y5, y6, y7, y8, rfl, s3, hd3, lk3, so3, up, dn⟩
        obtain ⟨r, hr, p, pp, rfl, hp, hpp⟩ := pair_get' hR hv
        have mr : r ∈ rs := List.mem_of_getElem? hr
        have hp3 := s3 _ _ hp
        have hpp3 := s3 _ _ hpp
        refine ⟨p, _, rfl, SqT.of hp3, rfl, _, _, rfl, _, _, rfl, _, _, rfl, _, _, rfl, _, _, rfl, rfl, ?_⟩
        have stay : (knB kv r.mark = false → ripeB kv r = false) → ∀ H4, Same H3 H4 → ∀ y7, ∃ (kv' : List (Key × V)) (g' : Bool) (x3 x4 x5 x6 x7 x8 : Option V), ([some (.ref a), some (.ref d), some (.bl g), some (.str r.mark), some (.ref pp), some (.int r.least), some (.bl r.sh), y7, y8] : L2.St) = [some (.ref a), some (.ref d), some (.bl g'), x3, x4, x5, x6, x7, x8] ∧ Same H H4 ∧ H4 d = some (.dK kv') ∧ kv'.length + restOf kv' rs ≤ rs.length ∧
            (∀ m, knB kv' m = true → Fert rs m) ∧ (g' = true → restOf kv' rs < restOf kvs rs) ∧ (g' = false → kv' = kvs ∧ ∀ r ∈ rs.take (i + 1), knB kv' r.mark = false → ripeB kv' r = false) := fun no H4 s4 y7 => by
          refine ⟨kv, g, _, _, _, _, _, _, rfl, s3.trans s4, s4 _ _ hd3, lk3, so3, up, fun e => ⟨(dn e).1, fun q hq => ?_⟩⟩
          rw [List.take_succ, hr] at hq
          rcases List.mem_append.mp hq with hq | hq
          · exact (dn e).2 q hq
          · rw [List.mem_singleton.mp hq]; exact no
        have go : knB kv r.mark = false → ripeB kv r = true → ∀ H4, Same H3 H4 → ∀ y7, ∃ (kv' : List (Key × V)) (g' : Bool) (x3 x4 x5 x6 x7 x8 : Option V), ([some (.ref a), some (.ref d), some (.bl true), some (.str r.mark), some (.ref pp), some (.int r.least), some (.bl r.sh), y7, y8] : L2.St) = [some (.ref a), some (.ref d), some (.bl g'), x3, x4, x5, x6, x7, x8] ∧ Same H (upd H4 d (.dK (putK kv (.inr r.mark) (.bl true)))) ∧ (upd H4 d (.dK (putK kv (.inr r.mark) (.bl true)))) d = some (.dK kv') ∧ kv'.length + restOf kv' rs ≤ rs.length ∧
            (∀ m, knB kv' m = true → Fert rs m) ∧ (g' = true → restOf kv' rs < restOf kvs rs) ∧ (g' = false → kv' = kvs ∧ ∀ r ∈ rs.take (i + 1), knB kv' r.mark = false → ripeB kv' r = false) := fun nk rp H4 s4 y7 => by
          have lt := rest_put (v := .bl true) mr nk
          refine ⟨putK kv (.inr r.mark) (.bl true), true, _, _, _, _, _, _, rfl, same_mut (s3.trans s4) hd, upd_same, ?_, fun m hm => ?_, fun _ => ?_, fun e => by cases e⟩
          · have := length_putK kv (.inr r.mark) (.bl true); omega
          · rw [knB_put, Bool.or_eq_true, decide_eq_true_iff] at hm
            rcases hm with rfl | hm
            · exact ripe_fert so3 mr rp
            · exact so3 m hm
          · cases g with
            | true => have := up rfl; omega
            | false => have e := (dn rfl).1; subst e; exact lt
        have lz : kv.length < sizeLine := by omega
        refine ⟨_, rfl, _, rfl, d, _, rfl, DGet.k (k := .inr r.mark) hd3, _, rfl, ?_⟩
        cases nk : knB kv r.mark with
        | true => exact iteNo (by show (!knB kv r.mark) = false; rw [nk]; rfl) (stay (fun z => by rw [nk] at z; cases z) H3 (fun _ _ h => h) y7)
        | false =>
          refine iteYes (by show (!knB kv r.mark) = true; rw [nk]; rfl) ⟨_, rfl, rfl, _, rfl, ?_⟩
          refine iteD (fun c => ?_) (fun c => ?_)
          · have c : r.least = 0 := V.int.inj c
            refine iteT ?_
            refine ⟨_, rfl, _, rfl, d, _, rfl, DPut.k (k := .inr r.mark) hd3 lz, ?_⟩
            exact go nk (by unfold ripeB; rw [decide_eq_true c, Bool.true_or]) H3 (fun _ _ h => h) y7
          · have c : r.least ≠ 0 := fun z => c (by rw [z])
            refine any_kn hd3 hpp3 (by have := (hsm r mr).2; omega) fun H4 s4 => ⟨_, rfl, ?_⟩
            cases ra : r.pars.any (knB kv) with
            | true =>
              refine iteT ?_
              refine ⟨_, rfl, _, rfl, d, _, rfl, DPut.k (k := .inr r.mark) (s4 _ _ hd3) lz, ?_⟩
              exact go nk (by unfold ripeB; rw [ra, Bool.or_true]) H4 s4 y7
            | false => exact iteF (stay (fun _ => by unfold ripeB; rw [ra, decide_eq_false c]; rfl) H4 s4 y7)
      · rintro σ H3 ⟨kv, g, y3, y4, y5, y6, y7, y8, rfl, s3, hd3, lk3, so3, up, dn⟩
        rw [pair_len' hR, List.take_length] at dn
        refine ⟨_, ?_, kv, g, _, _, _, _, _, _, rfl, s3, hd3, rfl, lk3, so3, fun e => (dn e).2⟩
        cases g with
        | true => have := up rfl; simp; omega
        | false => rw [(dn rfl).1]; simp
    | false =>
      refine iteF ?_
      have cl := cl rfl
      refine ⟨_, rfl, a, rfl, ⟨_, SqL.of (s2 _ _ ha)⟩, for_list (K := K) (a := a) (xs := us) (fun i σ H' => ∃ x8, σ = [some (.ref a), some (.ref d), some (.bl false), x3, x4, x5, x6, x7, x8] ∧ H' = H2 ∧ ∀ r ∈ rs.take i, Fert rs r.mark) ⟨_, rfl, rfl, fun r h => by rw [List.take_zero] at h; cases h⟩ (fun i σ H' _ ⟨_, _, e, _⟩ => SqL.of (by rw [e]; exact s2 _ _ ha)) ?_ ?_⟩
      · rintro i v σ H3 hv ⟨y8, rfl, rfl, hf⟩
        obtain ⟨r, hr, p, pp, rfl, hp, hpp⟩ := pair_get' hR hv
        have hp3 := s2 _ _ hp
        refine ⟨_, rfl, _, _, _, _, rfl, rfl, SqT.of hp3, atI_nat (j := 0) rfl, _, rfl, d, _, rfl, DGet.k (k := .inr r.mark) hd2, _, rfl, ?_⟩
        cases nk : knB kvs r.mark with
        | true =>
          refine iteNo (by show (!knB kvs r.mark) = false; rw [nk]; rfl) ⟨_, rfl, rfl, fun q hq => ?_⟩
          rw [List.take_succ, hr] at hq
          rcases List.mem_append.mp hq with hq | hq
          · exact hf q hq
          · rw [List.mem_singleton.mp hq]; exact so _ nk
        | false =>
          refine iteYes (by show (!knB kvs r.mark) = true; rw [nk]; rfl) ⟨_, rfl, _, _, _, _, rfl, rfl, SqT.of hp3, atI_nat (j := 0) rfl, ?_⟩
          exact q _ _ s2 (.yes hr hf fun f => by have := fert_known cl f; rw [nk] at this; cases this)
      · rintro σ H3 ⟨y8, rfl, rfl, hf⟩
        rw [pair_len' hR, List.take_length] at hf
        exact q _ _ s2 (.no hf)
end
end My

namespace My
open PySem L2
/-! ### a new shape -/
def mksV (rs : List Row) : List V := rs.map fun r => .str r.mark
def mks (rs : List Row) : List Str := rs.map Row.mark
theorem mksV_eq (rs : List Row) : mksV rs = (mks rs).map V.str := by unfold mksV mks; rw [List.map_map]; rfl
def rowFine (rs : List Row) (i : Nat) : Prop := ∀ r, rs[i]? = some r → fineB r (mks (rs.take i)) = true
inductive SErr where
  | large
  | bad (m : Str)
  | unk (m : Str)
def parsOk (rs : List Row) (r : Row) : Prop := ∀ p ∈ r.pars, p ∈ mks rs
inductive Due (rs : List Row) : SErr → Prop
  | large : 6 < rs.length → Due rs .large
  | row {i : Nat} {r : Row} : rs.length ≤ 6 → rs[i]? = some r → (∀ j, j < i → rowFine rs j) → fineB r (mks (rs.take i)) = false → Due rs (.bad r.mark)
  | par {i k : Nat} {r : Row} {p : Str} : rs.length ≤ 6 → (∀ j, rowFine rs j) → rs[i]? = some r → r.pars[k]? = some p → (∀ q ∈ rs.take i, parsOk rs q) → (∀ q ∈ r.pars.take k, q ∈ mks rs) → p ∉ mks rs → Due rs (.unk p)
  | lost {i : Nat} {r : Row} : rs.length ≤ 6 → (∀ j, rowFine rs j) → (∀ q ∈ rs, parsOk rs q) → rs[i]? = some r → (∀ q ∈ rs.take i, Fert rs q.mark) → ¬ Fert rs r.mark → Due rs (.bad r.mark)
structure Good (rs : List Row) : Prop where
  len : rs.length ≤ 6
  fine : ∀ j, rowFine rs j
  pars : ∀ q ∈ rs, parsOk rs q
  fert : ∀ q ∈ rs, Fert rs q.mark
/-- what the error e is: its class and what it holds -/
def ErrIs (TL BS UM : Addr) : SErr → Addr → V → Str → Prop
  | .large, c, v, f => c = TL ∧ v = .int 6 ∧ f = "most"
  | .bad m, c, v, f => c = BS ∧ v = .str m ∧ f = "mark"
  | .unk m, c, v, f => c = UM ∧ v = .str m ∧ f = "mark"
/-- a shape at x -/
def ShO (C : Addr) (H : Hp) (x : Addr) (rs : List Row) : Prop := ∃ dx l m vs, H x = some (.ins C dx [("_listed", .ref l), ("_marks", .ref m)]) ∧ H l = some (.lst vs) ∧ RowsT H vs rs ∧ H m = some (.lst (mksV rs))
theorem ShO.same {C : Addr} {H H' : Hp} {x : Addr} {rs : List Row} (h : ShO C H x rs) (s : Same H H') : ShO C H' x rs := by
  obtain ⟨dx, l, m, vs, a, b, c, d⟩ := h
  exact ⟨dx, l, m, vs, s _ _ a, s _ _ b, rowsT_same c s, s _ _ d⟩
/-- a shape whose lists stand at addresses of F -/
def ShN (F : Addr → Prop) (C : Addr) (H : Hp) (x : Addr) (rs : List Row) : Prop := ∃ dx l m vs, F l ∧ F m ∧ H x = some (.ins C dx [("_listed", .ref l), ("_marks", .ref m)]) ∧ H l = some (.lst vs) ∧ RowsT H vs rs ∧ H m = some (.lst (mksV rs))
theorem ShN.sh {F : Addr → Prop} {C : Addr} {H : Hp} {x : Addr} {rs : List Row} (h : ShN F C H x rs) : ShO C H x rs := let ⟨dx, l, m, vs, _, _, e⟩ := h; ⟨dx, l, m, vs, e⟩
theorem ShN.sub {F G : Addr → Prop} {C : Addr} {H : Hp} {x : Addr} {rs : List Row} (h : ShN F C H x rs) (i : ∀ a, F a → G a) : ShN G C H x rs := let ⟨dx, l, m, vs, a, b, e⟩ := h; ⟨dx, l, m, vs, i _ a, i _ b, e⟩
theorem RowV.same {H H' : Hp} {v : V} {r : Row} (h : RowV H v r) (s : Same H H') : RowV H' v r := by
  obtain ⟨p, pp, e, a, b⟩ := h
  exact ⟨p, pp, e, a.imp (s _ _) (s _ _), b.imp (s _ _) (s _ _)⟩
theorem rowsV_same {H H' : Hp} {vs : List V} {rs : List Row} (h : Paired (RowV H) vs rs) (s : Same H H') : Paired (RowV H') vs rs := L2.Paired.mapP h fun _ _ x => x.same s
theorem RowT.keep {H H' : Hp} {v : V} {r : Row} (h : RowT H v r) (s : ∀ a xs, H a = some (.tup xs) → H' a = some (.tup xs)) : RowT H' v r := let ⟨p, pp, e, a, b⟩ := h; ⟨p, pp, e, s _ _ a, s _ _ b⟩
theorem rowsT_keep {H H' : Hp} {vs : List V} {rs : List Row} (h : RowsT H vs rs) (s : ∀ a xs, H a = some (.tup xs) → H' a = some (.tup xs)) : RowsT H' vs rs := L2.Paired.mapP h fun _ _ x => x.keep s
theorem keep_lst {H : Hp} {l : Addr} {vs ws : List V} (h : H l = some (.lst vs)) : ∀ a xs, H a = some (.tup xs) → (upd H l (.lst ws)) a = some (.tup xs) := fun a xs e => by rw [upd_ne (fun z => by rw [z, h] at e; cases e)]; exact e
theorem rowL_seq {K : PySem.W.Frag} {H : Hp} {p pp : Addr} {r : Row} {i : Int} {v : V} {Q : VK} (h : H p = some (.tup (rowL r pp)) ∨ H p = some (.lst (rowL r pp))) (e : atI (rowL r pp) i = some v) (q : Q v H) : rIx K (.ref p) (.int i) H Q := by
  rcases h with h | h
  · exact .inr (.inl ⟨_, _, _, _, rfl, rfl, SqT.of h, e, q⟩)
  · exact .inl ⟨_, _, _, _, rfl, rfl, SqL.of h, e, q⟩
theorem pair_app' {α β : Type} {F : α → β → Prop} : ∀ {l l' : List α} {m m' : List β}, Paired F l m → Paired F l' m' → Paired F (l ++ l') (m ++ m')
  | _, _, _, _, .nil, q => q
  | _, _, _, _, .cons r t, q => .cons r (pair_app' t q)
def spShInit (C TL BS UM : Addr) : Sp := fun vs H Q E => ∃ (x dx p : Addr) (us : List V) (rs : List Row), vs = [.ref x, .ref p] ∧ H x = some (.ins C dx []) ∧ H p = some (.tup us) ∧ Paired (RowV H) us rs ∧ us.length ≤ 100 ∧ (∀ r ∈ rs, small r) ∧
  (Good rs → ∀ H', But x H H' → ShN (fun a => H a = none) C H' x rs → Q .non H') ∧
  (∀ e c v f, Due rs e → ErrIs TL BS UM e c v f → ∀ H' d, Same H H' → H d = none → H' d = some (.xd [(f, v)]) → E (.ref c) (some d) H')
theorem make_sh {C TL BS UM : Addr} {H : Hp} {us : List V} {rs : List Row} {Q : VK} {E : XK} (hs : Paired (RowV H) us rs) (hl : us.length ≤ 100) (hsm : ∀ r ∈ rs, small r) (q : Good rs → ∀ x H', Same H H' → H x = none → ShN (fun a => H a = none) C H' x rs → Q (.ref x) H')
    (qe : ∀ e c v f, Due rs e → ErrIs TL BS UM e c v f → ∀ H' d, Same H H' → H d = none → H' d = some (.xd [(f, v)]) → E (.ref c) (some d) H') :
    ∀ x dx, H x = none → H dx = none → dx ≠ x → spStar 1 (spShInit C TL BS UM) (.ref x :: us) (upd (upd H dx (.own x)) x (.ins C dx [])) (fun v H2 => v = .non ∧ Q (.ref x) H2) E := fun x dx nx nd _ => by
  have s1 : Same H (upd (upd H dx (.own x)) x (.ins C dx [])) := fun y o h => by rw [upd_ne (ne_of_none h nx), upd_ne (ne_of_none h nd)]; exact h
  refine ⟨[.ref x], us, rfl, rfl, Nat.le_trans hl (by decide), fun p np => ?_⟩
  have s2 := s1.trans (same_new (o := .tup us) np)
  refine ⟨x, dx, p, us, rs, rfl, same_new np _ _ upd_same, upd_same, rowsV_same hs s2, hl, hsm, fun g H' b sh => ⟨rfl, q g x H' (fun y o h => b y o (ne_of_none h nx) (s2 _ _ h)) nx (sh.sub fun a h => s2.free h)⟩, fun e c v f du er H' d s' nd' hd => qe e c v f du er H' d (s2.trans s') (s2.free nd') hd⟩
section
variable {w : World} {K : PySem.W.Frag} {mg : Str → Option Value} {base : Heap}
theorem ok_Shape_init (T : Txt K mg) : FnR PP w K mg base (L2.CX PP w) 5 T.a_Shape_init (spStar 1 (spShInit T.c_Shape T.c_TooLarge T.c_BadShape T.c_UnknownMark)) := by
  refine Fun.starX (k := 4) (ps := ["self"]) T.F_Shape_init sc_Shape_init T.bs_Shape_init fun cdv A outer s H vs Q E hr h => ?_
  obtain ⟨x, dx, p, us, rs, rfl, hx, hp, hs, hl, hsm, q, qe⟩ := h
  refine ⟨_, (pss_cons (ps_if (pt_cmpR op_gt (pe_callB call_len_seq (by rfl) T.n_len (by decide +kernel) (pa_cons (pv 1) pa_nil)) (ClX.pe_cval (pe_glob (v := .ref T.c_Shape) (by rfl) T.g_Shape rfl)) (nomark _)) (pss_one (ps_raiseX rfl T.x_TooLarge hr (takes_of rfl rfl rfl rfl) (pa_cons (ClX.pe_cval (pe_glob (v := .ref T.c_Shape) (by rfl) T.g_Shape rfl)) pa_nil))) pss_nil)
      (pss_cons (ps_set (i := 2) sc_Shape_init.nd rfl (.inl rfl) (pe_lst pa_nil))
      (pss_cons (ps_set (i := 3) sc_Shape_init.nd rfl (.inl rfl) (pe_lst pa_nil))
      (pss_cons (ps_for (passes_of rfl) rfl (pi_tup (pv 1)) (pg_name (i := 4) sc_Shape_init.nd rfl (.inl rfl)) (pss_cons (ps_expr (pe_bm PySem.F.plainAttrs_list PySem.F.slot_list_append PySem.F.type_list_append mt_append (pv 2) (pa_cons (pe_call (ok_sound_row T) (hr.mono (by omega)) (by rfl) T.g_sound_row T.F_sound_row.kp T.b_sound_row .nil (passes_call (takes_of rfl rfl rfl rfl) (fun _ _ _ _ h => h)) (pa_cons (pv 4) (pa_cons (pv 3) pa_nil))) pa_nil)))
      (pss_one (ps_expr (pe_bm PySem.F.plainAttrs_list PySem.F.slot_list_append PySem.F.type_list_append mt_append (pv 3) (pa_cons (pe_ix ix_seq (pv 4) (pe_int) (fun _ _ => rfl)) pa_nil))))))
      (pss_cons (ps_for (passes_of rfl) rfl (pi_list (pv 2)) (pg_name (i := 4) sc_Shape_init.nd rfl (.inl rfl)) (pss_one (ps_for (passes_of rfl) rfl (pi_tup (pe_ix ix_seq (pv 4) (pe_int) (fun _ _ => rfl))) (pg_name (i := 5) sc_Shape_init.nd rfl (.inl rfl)) (pss_one (ps_if (pt_cmpR op_notIn_seq (pv 5) (pv 3) (by with_unfolding_all rfl)) (pss_one (ps_raiseX rfl T.x_UnknownMark hr (takes_of rfl rfl rfl rfl) (pa_cons (pv 5) pa_nil))) pss_nil)))))
      (pss_cons (ps_set (i := 6) sc_Shape_init.nd rfl (.inl rfl) (pe_call (ok_barren T) (hr.mono (by omega)) (by rfl) T.g_barren T.F_barren.kp T.b_barren .nil pass0 (pa_cons (pv 2) pa_nil)))
      (pss_cons (ps_if (pt_cmpR op_notN (pv 6) (pe_non) (nomark _)) (pss_one (ps_raiseX rfl T.x_BadShape hr (takes_of rfl rfl rfl rfl) (pa_cons (pv 6) pa_nil))) pss_nil)
      (pss_cons (ps_fld (pv 0) (pv 2) rfl)
      (pss_one (ps_fld (pv 0) (pv 3) rfl)))))))))), ?_⟩
  have big : 1000 < sizeLine := by decide
  have lr := pair_len' hs
  refine ⟨_, rfl, p, us, rfl, .inr (SqT.of hp), _, _, _, _, rfl, T.cr_Shape, T.cv_Shape_MARKS, _, _, rfl, rfl, _, rfl, iteD (fun c => ?_) (fun c => ?_)⟩
  · refine ⟨_, _, _, _, rfl, T.cr_Shape, T.cv_Shape_MARKS, _, rfl, fun d hd => ?_⟩
    exact qe .large _ _ _ (.large (by omega)) ⟨rfl, rfl, rfl⟩ _ d (same_new hd) hd upd_same
  have l6 : rs.length ≤ 6 := by omega
  refine ⟨Nat.zero_le _, fun l hl0 => ⟨Nat.zero_le _, fun m hm0' => ?_⟩⟩
  have s0 := same_new (o := .lst []) hl0
  have hm0 : H m = none := s0.free hm0'
  have nlm : l ≠ m := fun z => by rw [← z, upd_same] at hm0'; cases hm0'
  have s1 := s0.trans (same_new (o := .lst []) hm0')
  refine ⟨_, rfl, p, rfl, ⟨_, SqT.of (s1 _ _ hp)⟩, for_tup (K := K) (a := p) (xs := us) (fun i σ H' => ∃ (x4 x5 : Option V) (vs' : List V), σ = [some (.ref x), some (.ref p), some (.ref l), some (.ref m), x4, x5, none] ∧ Same H H' ∧ H' l = some (.lst vs') ∧ H' m = some (.lst (mksV (rs.take i))) ∧ RowsT H' vs' (rs.take i) ∧ ∀ j, j < i → rowFine rs j)
    ⟨_, _, [], rfl, s1, by rw [upd_ne nlm]; exact upd_same, upd_same, .nil, fun j h => absurd h (Nat.not_lt_zero _)⟩ (fun i σ H' _ ⟨_, _, _, _, s, _⟩ => SqT.of (s _ _ hp)) ?_ ?_⟩
  · rintro i v σ H1 hv ⟨x4, x5, vs', rfl, s1, hl1, hm1, rt, fi⟩
    obtain ⟨r, hr, hV⟩ := pair_get' hs hv
    have mr : r ∈ rs := List.mem_of_getElem? hr
    have hi := (List.getElem?_eq_some_iff.mp hr).1
    obtain ⟨p0, pp0, rfl, hp0, hpp0⟩ := id (hV.same s1)
    have lv : vs'.length = i := by rw [pair_len' rt, List.length_take]; omega
    refine ⟨_, rfl, .inl ⟨rfl, _, SqL.of hl1⟩, _, rfl, _, rfl, _, _, r, mks (rs.take i), rfl, hV.same s1, by rw [hm1, mksV_eq], hsm r mr, fun gd pq pp H2 s2 npq hpq hpp => ?_, fun bd H2 d s2 nd hd => ?_⟩
    · have hl2 := s2 _ _ hl1
      refine ⟨_, _, _, rfl, rfl, hl2, by omega, ?_⟩
      have npl : pq ≠ l := (ne_of_none hl1 npq).symm
      have t2 := s1.trans s2
      have s3 : Same H (upd H2 l (.lst (vs' ++ [.ref pq]))) := same_mut t2 hl0
      have k3 := keep_lst (ws := vs' ++ [.ref pq]) hl2
      have hm3 : (upd H2 l (.lst (vs' ++ [.ref pq]))) m = some (.lst (mksV (rs.take i))) := by rw [upd_ne nlm.symm]; exact s2 _ _ hm1
      have k4 := keep_lst (ws := mksV (rs.take i) ++ [.str r.mark]) hm3
      refine ⟨_, rfl, .inl ⟨rfl, _, SqL.of hm3⟩, _, rfl, rowL_seq (hp0.imp (fun h => k3 _ _ (s2 _ _ h)) (fun h => ?_)) rfl ?_⟩
      · have n0 : p0 ≠ l := fun z => by
          obtain ⟨w0, _, e0, h0, _⟩ := hV
          obtain rfl : p0 = w0 := V.ref.inj e0
          rcases h0 with h0 | h0
          · rw [z, hl0] at h0; cases h0
          · rw [z, hl0] at h0; cases h0
        rw [upd_ne n0]; exact s2 _ _ h
      · refine ⟨_, _, _, rfl, rfl, hm3, by unfold mksV; rw [List.length_map, List.length_take]; omega, ?_⟩
        refine ⟨_, _, vs' ++ [.ref pq], rfl, same_mut s3 hm0, by rw [upd_ne nlm]; exact upd_same, ?_, ?_, fun j hj => ?_⟩
        · rw [upd_same, List.take_succ, hr]; unfold mksV; rw [List.map_append]; rfl
        · rw [List.take_succ, hr]
          exact pair_app' (rowsT_keep rt fun a xs e => k4 _ _ (k3 _ _ (s2 _ _ e))) (.cons ⟨pq, pp, rfl, k4 _ _ (k3 _ _ hpq), k4 _ _ (k3 _ _ hpp)⟩ .nil)
        · by_cases e : j = i
          · subst e
            intro r' hr'
            rw [hr] at hr'
            exact Option.some.inj hr' ▸ gd
          · exact fi j (by omega)
    · exact qe _ _ _ _ (.row l6 hr fi bd) ⟨rfl, rfl, rfl⟩ H2 d (s1.trans s2) (s1.free nd) hd
  rintro σ H1 ⟨x4, x5, vs', rfl, s1, hl1, hm1, rt, fi⟩
  rw [lr, List.take_length] at hm1 rt
  have fi : ∀ j, rowFine rs j := fun j => by
    by_cases c : j < rs.length
    · exact fi j (by omega)
    · intro r hr
      rw [List.getElem?_eq_none (by omega)] at hr; cases hr
  refine ⟨_, rfl, l, rfl, ⟨_, SqL.of hl1⟩, for_list (K := K) (a := l) (xs := vs') (fun i σ H' => ∃ (x4 x5 : Option V), σ = [some (.ref x), some (.ref p), some (.ref l), some (.ref m), x4, x5, none] ∧ H' = H1 ∧ ∀ q ∈ rs.take i, parsOk rs q)
    ⟨_, _, rfl, rfl, fun q h => by rw [List.take_zero] at h; cases h⟩ (fun i σ H' _ ⟨_, _, _, e, _⟩ => SqL.of (by rw [e]; exact hl1)) ?_ ?_⟩
  · rintro i v σ H2 hv ⟨x4, x5, rfl, rfl, po⟩
    obtain ⟨r, hr, p0, pp0, rfl, hp0, hpp0⟩ := pair_get' rt hv
    refine ⟨_, rfl, rowL_seq (.inl hp0) rfl ⟨pp0, rfl, ⟨_, SqT.of hpp0⟩, for_tup (K := K) (a := pp0) (xs := r.pars.map V.str) (fun k σ H' => ∃ (x5 : Option V), σ = [some (.ref x), some (.ref p), some (.ref l), some (.ref m), some (.ref p0), x5, none] ∧ H' = H2 ∧ ∀ q ∈ r.pars.take k, q ∈ mks rs)
      ⟨_, rfl, rfl, fun q h => by rw [List.take_zero] at h; cases h⟩ (fun i σ H' _ ⟨_, _, e, _⟩ => SqT.of (by rw [e]; exact hpp0)) ?_ ?_⟩⟩
    · rintro k v σ H3 hk ⟨x5, rfl, rfl, pk⟩
      obtain ⟨y, hy, rfl⟩ : ∃ y, r.pars[k]? = some y ∧ v = .str y := by
        rw [List.getElem?_map] at hk
        cases e : r.pars[k]? with
        | none => rw [e] at hk; cases hk
        | some y => rw [e] at hk; exact ⟨y, rfl, (Option.some.inj hk).symm⟩
      refine ⟨_, rfl, _, rfl, _, _, rfl, .inl (SqL.of hm1), rfl, by rw [mksV_eq]; exact flat_strs _, ?_⟩
      rw [mksV_eq, in_strs]
      refine ⟨_, rfl, iteN (fun c => ?_) (fun c => ?_)⟩
      · refine ⟨_, rfl, _, rfl, fun d hd => ?_⟩
        exact qe (.unk y) _ _ _ (.par l6 fi hr hy po pk c) ⟨rfl, rfl, rfl⟩ _ d (s1.trans (same_new hd)) (s1.free hd) upd_same
      · refine ⟨_, rfl, rfl, fun q hq => ?_⟩
        rw [List.take_succ, hy] at hq
        rcases List.mem_append.mp hq with hq | hq
        · exact pk q hq
        · rw [List.mem_singleton.mp hq]; exact c
    · rintro σ H3 ⟨x5, rfl, rfl, pk⟩
      rw [List.length_map, List.take_length] at pk
      refine ⟨_, _, rfl, rfl, fun q hq => ?_⟩
      rw [List.take_succ, hr] at hq
      rcases List.mem_append.mp hq with hq | hq
      · exact po q hq
      · rw [List.mem_singleton.mp hq]; exact pk
  rintro σ H2 ⟨x4, x5, rfl, rfl, po⟩
  rw [pair_len' rt, List.take_length] at po
  refine ⟨_, rfl, l, vs', rs, rfl, hl1, rt, by omega, hsm, fun v H3 s3 lo => ?_⟩
  have t3 := s1.trans s3
  cases lo with
  | @yes i r hr hf nf =>
    refine ⟨_, rfl, rfl, _, rfl, iteYes rfl ⟨_, rfl, _, rfl, fun d hd => ?_⟩⟩
    exact qe _ _ _ _ (.lost l6 fi po hr hf nf) ⟨rfl, rfl, rfl⟩ _ d (t3.trans (same_new hd)) (t3.free hd) upd_same
  | no hf =>
    refine ⟨_, rfl, rfl, _, rfl, iteNo rfl ?_⟩
    have hx3 := t3 _ _ hx
    refine ⟨_, rfl, _, rfl, x, _, dx, _, rfl, hx3, T.cl_Shape, T.no_Shape__listed, by show 0 < 1000; decide, ?_⟩
    refine ⟨_, rfl, _, rfl, x, _, dx, _, rfl, upd_same, T.cl_Shape, T.no_Shape__marks, by show 1 < 1000; decide, ?_⟩
    have nx : ∀ {a : Addr} {ws : List V}, H3 a = some (.lst ws) → a ≠ x := fun h z => by rw [z, hx3] at h; cases h
    have hl3 := s3 _ _ hl1
    have hm3 := s3 _ _ hm1
    refine q ⟨l6, fi, po, hf⟩ _ (fun y o n h => by rw [upd_ne n, upd_ne n]; exact t3 _ _ h) ⟨dx, l, m, vs', hl0, hm0, upd_same, ?_, ?_, ?_⟩
    · rw [upd_ne (nx hl3), upd_ne (nx hl3)]; exact hl3
    · refine rowsT_keep (rowsT_same rt s3) fun a xs e => ?_
      have n : a ≠ x := fun z => by rw [z, hx3] at e; cases e
      rw [upd_ne n, upd_ne n]; exact e
    · rw [upd_ne (nx hm3), upd_ne (nx hm3)]; exact hm3
end
end My

namespace My
open PySem L2
/-! ### what shapes answer -/
def rowD (r : Row) : PyData := .tuple [.str r.mark, .tuple (r.pars.map .str), .int r.least, .int r.most, .bool r.sh]
theorem eqv_strs : ∀ a b : List Str, PyData.eqvAll (a.map .str) (b.map .str) = decide (a = b)
  | [], [] => by simp [PyData.eqvAll]
  | [], _ :: _ => by simp [PyData.eqvAll]
  | _ :: _, [] => by simp [PyData.eqvAll]
  | x :: a, y :: b => by
    simp only [List.map_cons, PyData.eqvAll, PyData.eqv, eqv_strs a b]
    rw [Bool.eq_iff_iff, Bool.and_eq_true, beq_iff_eq, decide_eq_true_iff, decide_eq_true_iff]
    simp
theorem eqv_row (a b : Row) : PyData.eqv (rowD a) (rowD b) = decide (a = b) := by
  unfold rowD
  simp only [PyData.eqv, PyData.eqvAll, eqv_strs, Bool.and_true]
  rw [Bool.eq_iff_iff]
  simp only [Bool.and_eq_true, beq_iff_eq, decide_eq_true_iff]
  cases a; cases b
  simp
theorem eqv_rows : ∀ a b : List Row, PyData.eqvAll (a.map rowD) (b.map rowD) = decide (a = b)
  | [], [] => by simp [PyData.eqvAll]
  | [], _ :: _ => by simp [PyData.eqvAll]
  | _ :: _, [] => by simp [PyData.eqvAll]
  | x :: a, y :: b => by
    simp only [List.map_cons, PyData.eqvAll, eqv_row, eqv_rows a b]
    rw [Bool.eq_iff_iff, Bool.and_eq_true, decide_eq_true_iff, decide_eq_true_iff, decide_eq_true_iff]
    simp
theorem strOk_mk {z : Str} (h : isMk z = true) : PyData.strOk z = true := by
  unfold isMk at h
  rw [Bool.and_eq_true, List.all_eq_true] at h
  unfold PyData.strOk
  rw [← Array.all_toList, List.all_eq_true]
  intro c hc
  have := of_decide_eq_true (h.2 c hc)
  exact decide_eq_true (by omega)
theorem canLay_strs : ∀ {l : List Str}, (∀ z ∈ l, PyData.strOk z = true) → PyData.canLayAll0 (l.map .str) = true
  | [], _ => rfl
  | z :: l, h => by rw [List.map_cons, PyData.canLayAll0, PyData.canLay0, h z (by simp), canLay_strs fun y hy => h y (by simp [hy])]; rfl
theorem depth_strs : ∀ l : List Str, PyData.depthAll (l.map .str) = 0
  | [] => rfl
  | z :: l => by rw [List.map_cons, PyData.depthAll, depth_strs l]; rfl
/-- rows whose words are marks -/
def wordsOk (rs : List Row) : Prop := ∀ r ∈ rs, PyData.strOk r.mark = true ∧ ∀ p ∈ r.pars, PyData.strOk p = true
theorem Good.words {rs : List Row} (h : Good rs) : wordsOk rs := by
  have mk : ∀ r ∈ rs, isMk r.mark = true := fun r hr => by
    obtain ⟨j, hj⟩ := List.mem_iff_getElem?.mp hr
    have := h.fine j r hj
    unfold fineB at this
    simp only [Bool.and_eq_true] at this
    exact this.1.1.1
  intro r hr
  refine ⟨strOk_mk (mk r hr), fun p hp => ?_⟩
  obtain ⟨q, hq, rfl⟩ := List.mem_map.mp (h.pars r hr p hp)
  exact strOk_mk (mk q hq)
theorem row_lay {r : Row} (h : PyData.strOk r.mark = true ∧ ∀ p ∈ r.pars, PyData.strOk p = true) : PyData.canLay0 (rowD r) = true := by
  unfold rowD
  simp [PyData.canLay0, PyData.canLayAll0, h.1, canLay_strs h.2]
theorem rows_shaped {rs : List Row} (h : wordsOk rs) : SeqAt.shaped (.list (rs.map rowD)) = true := by
  have h1 : ∀ l : List Row, wordsOk l → PyData.canLayAll0 (l.map rowD) = true := fun l => by
    induction l with
    | nil => intro _; rfl
    | cons a r ih => intro q; rw [List.map_cons, PyData.canLayAll0, row_lay (q a (by simp)), ih fun s hs => q s (by simp [hs])]; rfl
  have h2 : ∀ l : List Row, PyData.depthAll (l.map rowD) ≤ 4 := fun l => by
    induction l with
    | nil => exact Nat.zero_le _
    | cons a r ih =>
      rw [List.map_cons, PyData.depthAll]
      have : PyData.depth (rowD a) ≤ 4 := by unfold rowD; simp [PyData.depth, PyData.depthAll, depth_strs]
      omega
  unfold SeqAt.shaped
  rw [PyData.canLay0, h1 rs h, PyData.depth, Bool.true_and, decide_eq_true_iff]
  have := h2 rs
  omega
theorem strsDp {K : PySem.W.Frag} {H : Hp} : ∀ l : List Str, DpAll K H (l.map V.str) (l.map .str)
  | [] => .nil
  | z :: l => .cons (.str _) (strsDp l)
theorem rowDp {K : PySem.W.Frag} {H : Hp} {v : V} {r : Row} (h : RowT H v r) : Dp K H v (rowD r) := by
  obtain ⟨p, pp, rfl, hp, hpp⟩ := h
  exact .tup (SqT.of hp) (.cons (.str _) (.cons (.tup (SqT.of hpp) (strsDp _)) (.cons (.int _) (.cons (.int _) (.cons (.bl _) .nil)))))
theorem rowsDp {K : PySem.W.Frag} {H : Hp} : ∀ {vs : List V} {rs : List Row}, RowsT H vs rs → DpAll K H vs (rs.map rowD)
  | _, _, .nil => .nil
  | _, _, .cons h t => .cons (rowDp h) (rowsDp t)
def findR (rs : List Row) (z : Str) : Option Row := rs.find? fun r => decide (r.mark = z)
theorem findR_at {rs : List Row} {z : Str} {i : Nat} {r : Row} (h : rs[i]? = some r) (e : r.mark = z) (n : ∀ q ∈ rs.take i, q.mark ≠ z) : findR rs z = some r := by
  unfold findR
  have e1 : rs = rs.take i ++ r :: rs.drop (i + 1) := by
    obtain ⟨h1, h2⟩ := List.getElem?_eq_some_iff.mp h
    rw [← h2, ← List.drop_eq_getElem_cons h1, List.take_append_drop]
  rw [e1, List.find?_append, List.find?_eq_none.mpr (by intro q hq; simpa using n q hq)]
  simp [List.find?_cons, e]
theorem findR_no {rs : List Row} {z : Str} (n : ∀ q ∈ rs, q.mark ≠ z) : findR rs z = none := List.find?_eq_none.mpr (by intro q hq; simpa using n q hq)
theorem findR_mem {rs : List Row} {z : Str} {r : Row} (h : findR rs z = some r) : r ∈ rs ∧ r.mark = z := ⟨List.mem_of_find?_eq_some h, by simpa using List.find?_some h⟩
/-- an error of the class X with the word z -/
abbrev ErrS (X : Addr) (f : Str) (v : V) (H : Hp) (E : XK) : Prop := ∀ H' d, Same H H' → H d = none → H' d = some (.xd [(f, v)]) → E (.ref X) (some d) H'
def spShGet (C X : Addr) : Sp := fun vs H Q E => ∃ (x : Addr) (z : Str) (rs : List Row), vs = [.ref x, .str z] ∧ ShO C H x rs ∧
  (∀ r p pp, findR rs z = some r → H p = some (.tup (rowL r pp)) → H pp = some (.tup (r.pars.map V.str)) → Q (.ref p) H) ∧ (findR rs z = none → ErrS X "mark" (.str z) H E)
def spShLen (C : Addr) : Sp := fun vs H Q _ => ∃ (x : Addr) (rs : List Row), vs = [.ref x] ∧ ShO C H x rs ∧ Q (.int rs.length) H
def spShHas (C : Addr) : Sp := fun vs H Q _ => ∃ (x : Addr) (z : Str) (rs : List Row), vs = [.ref x, .str z] ∧ ShO C H x rs ∧ Q (.bl (decide (z ∈ mks rs))) H
def spShEq (C : Addr) : Sp := fun vs H Q _ => ∃ (x y : Addr) (rs ts : List Row), vs = [.ref x, .ref y] ∧ ShO C H x rs ∧ ShO C H y ts ∧ wordsOk rs ∧ wordsOk ts ∧ Q (.bl (decide (rs = ts))) H
def spShMarks (C : Addr) : Sp := fun vs H Q _ => ∃ (x : Addr) (rs : List Row), vs = [.ref x] ∧ ShO C H x rs ∧ ∀ t H', Same H H' → H t = none → H' t = some (.tup (mksV rs)) → Q (.ref t) H'
def spShExc (C : Addr) : Sp := fun vs H Q _ => ∃ (x : Addr) (rs : List Row), vs = [.ref x] ∧ ShO C H x rs ∧ Q (.bl (!rs.any (·.sh))) H
def widthOf (rs : List Row) : Int := rs.foldl (fun (a : Int) (r : Row) => if a < r.most then r.most else a) 1
def spShWidth (C : Addr) : Sp := fun vs H Q _ => ∃ (x : Addr) (rs : List Row), vs = [.ref x] ∧ ShO C H x rs ∧ Q (.int (widthOf rs)) H
def modesV (sh : Bool) : List V := if sh then [.str "own", .str "share"] else [.str "own"]
/-- a tuple that was made, or a constant -/
def TupC (K : PySem.W.Frag) (H : Hp) (t : Addr) (xs : List V) : Prop := H t = some (.tup xs) ∨ ∀ H', SqT K H' t xs
theorem TupC.sq {K : PySem.W.Frag} {H : Hp} {t : Addr} {xs : List V} (h : TupC K H t xs) : SqT K H t xs := h.elim SqT.of fun h => h H
theorem TupC.same {K : PySem.W.Frag} {H H' : Hp} {t : Addr} {xs : List V} (h : TupC K H t xs) (s : Same H H') : TupC K H' t xs := h.imp (s _ _) id
def spShModes (K : PySem.W.Frag) (C X : Addr) : Sp := fun vs H Q E => ∃ (x : Addr) (z : Str) (rs : List Row), vs = [.ref x, .str z] ∧ ShO C H x rs ∧
  (∀ r t H', findR rs z = some r → Same H H' → TupC K H' t (modesV r.sh) → Q (.ref t) H') ∧ (findR rs z = none → ErrS X "mark" (.str z) H E)
theorem sh_look1 (l m : Addr) : List.lookup ("_listed" : Str) [(("_listed" : Str), V.ref l), ("_marks", V.ref m)] = some (V.ref l) := rfl
theorem sh_look2 (l m : Addr) : List.lookup ("_marks" : Str) [(("_listed" : Str), V.ref l), ("_marks", V.ref m)] = some (V.ref m) := rfl
section
variable {w : World} {K : PySem.W.Frag} {mg : Str → Option Value} {base : Heap}
theorem ok_Shape_getitem (T : Txt K mg) : FnOk PP w K mg base (L2.CX PP w) 2 T.a_Shape_getitem T.fd_Shape_getitem ["self", "mark"] (spShGet T.c_Shape T.c_UnknownMark) := by
  refine T.F_Shape_getitem.okX sc_Shape_getitem (fun vs H Q E h => ?_) (fun cdv A outer s H vs Q E hr h => ?_)
  · obtain ⟨x, z, rs, rfl, _⟩ := h; rfl
  · obtain ⟨x, z, rs, rfl, ⟨dx, l, m, us, hx, hl, hs, hm⟩, q, qx⟩ := h
    refine ⟨_, (pss_cons (ps_for (passes_of rfl) rfl (pi_list (pe_fld (pv 0) rfl)) (pg_name (i := 2) sc_Shape_getitem.nd rfl (.inl rfl)) (pss_one (ps_if (pt_cmpR op_eq (pe_ix ix_tup (pv 2) (pe_int) (fun _ _ => rfl)) (pv 1) (nomark _)) (pss_one (ps_ret (pv 2))) pss_nil)))
      (pss_one (ps_raiseX rfl T.x_UnknownMark hr (takes_of rfl rfl rfl rfl) (pa_cons (pv 1) pa_nil)))), ?_⟩
    refine ⟨_, rfl, x, _, dx, _, _, rfl, hx, T.cl_Shape, T.no_Shape__listed, sh_look1 l m, l, rfl, ⟨_, SqL.of hl⟩, for_list (K := K) (a := l) (xs := us) (fun i σ H' => ∃ x2, σ = [some (.ref x), some (.str z), x2] ∧ H' = H ∧ ∀ q ∈ rs.take i, q.mark ≠ z) ⟨_, rfl, rfl, fun q h => by rw [List.take_zero] at h; cases h⟩ (fun i σ H' _ ⟨_, _, e, _⟩ => e ▸ SqL.of hl) ?_ ?_⟩
    · rintro i v σ H2 hv ⟨x1, rfl, rfl, nb⟩
      obtain ⟨r, hr, p, pp, rfl, hp, hpp⟩ := pair_get' hs hv
      refine ⟨_, rfl, _, _, _, _, rfl, rfl, SqT.of hp, atI_nat (j := 0) rfl, _, rfl, rfl, _, rfl, iteD (fun c => ?_) (fun c => ?_)⟩
      · exact ⟨_, rfl, q r p pp (findR_at hr (V.str.inj c) nb) hp hpp⟩
      · refine ⟨_, rfl, rfl, fun t ht => ?_⟩
        rw [List.take_succ, hr] at ht
        rcases List.mem_append.mp ht with ht | ht
        · exact nb t ht
        · rw [List.mem_singleton.mp ht]; exact fun e => c (by rw [e])
    · rintro σ H2 ⟨x1, rfl, rfl, nb⟩
      rw [pair_len' hs, List.take_length] at nb
      exact ⟨_, rfl, _, rfl, fun d hd => qx (findR_no nb) _ d (same_new hd) hd upd_same⟩
theorem ok_Shape_modes_of (T : Txt K mg) : FnOk PP w K mg base (L2.CX PP w) 4 T.a_Shape_modes_of T.fd_Shape_modes_of ["self", "mark"] (spShModes K T.c_Shape T.c_UnknownMark) := by
  refine T.F_Shape_modes_of.okX sc_Shape_modes_of (fun vs H Q E h => ?_) (fun cdv A outer s H vs Q E hr h => ?_)
  · obtain ⟨x, z, rs, rfl, _⟩ := h; rfl
  · obtain ⟨x, z, rs, rfl, hS, q, qx⟩ := h
    obtain ⟨dx, l, m, us, hx, _⟩ := id hS
    refine ⟨_, (pss_cons (ps_if (pt_val (pe_ix ix_tup (pe_getI T.m_Shape_getitem T.fi_Shape_getitem (ok_Shape_getitem T) (hr.mono (by omega)) T.b_Shape_getitem (passes_call (takes_of rfl rfl rfl rfl) (fun _ _ _ _ h => h)) (pv 0) (pv 1)) (pe_int) (fun _ _ => rfl))) (pss_one (ps_ret (pe_glob (v := .ref T.k_MODES) (by rfl) T.g_MODES rfl))) pss_nil)
      (pss_one (ps_ret (pe_slice sl_tup (pe_glob (v := .ref T.k_MODES) (by rfl) T.g_MODES rfl) po_none (po_some (pe_int)))))), ?_⟩
    refine ⟨_, rfl, _, rfl, x, _, _, rfl, hx, x, z, rs, rfl, hS, fun r p pp hf hp hpp => ?_, qx⟩
    refine ⟨_, _, _, _, rfl, rfl, SqT.of hp, atI_nat (j := 4) rfl, _, rfl, ?_⟩
    cases e : r.sh with
    | true =>
      refine iteT (q r _ H hf (fun _ _ h => h) ?_)
      rw [e]
      exact .inr T.q_MODES
    | false =>
      refine iteF ⟨_, rfl, T.k_MODES, _, rfl, T.q_MODES _, by decide, fun c hc => q r _ _ hf (same_new hc) ?_⟩
      rw [e]
      exact .inl upd_same
end
end My

namespace My
open PySem L2
/-! ### drawn marks -/
def spLMarks (K : PySem.W.Frag) : Sp := fun vs H Q _ => ∃ (d t : Addr) (n : Nat), vs = [.ref d, .ref t, .int n] ∧ Dr K H d t ∧ n ≤ 26 ∧
  ∀ (ms : List Str) p H', ms.length = n → ms.Nodup → (∀ m ∈ ms, isMk m = true) → Dr K H' d t → But t H H' → H p = none → H' p = some (.lst (ms.map V.str)) → Q (.ref p) H'
theorem joinL_nil : ∀ ls : List (List Nat), TL.joinL [] ls = ls.flatten
  | [] => rfl
  | [p] => by simp [TL.joinL]
  | p :: q :: r => by
    have := joinL_nil (q :: r)
    rw [TL.joinL, this]; simp
theorem letters_tl : ("abcdefghijklmnopqrstuvwxyz" : Str).cps.toList = (List.range 26).map (97 + ·) := by decide +kernel
theorem letter_at {i : Int} (h0 : 0 ≤ i) (h1 : i < 26) : atI ("abcdefghijklmnopqrstuvwxyz" : Str).cps.toList i = some (97 + i.toNat) := by
  obtain ⟨j, rfl⟩ := Int.eq_ofNat_of_zero_le h0
  refine atI_nat ?_
  rw [letters_tl, List.getElem?_map, List.getElem?_range (by omega)]
  rfl
def letS (i : Int) : Str := ⟨#[97 + i.toNat]⟩
theorem tl_letS (i : Int) : TL.tl (letS i) = [97 + i.toNat] := rfl
def restS (f : Int) (z : Nat) : Str := Txt.join "" ((List.range z).map fun j => letS ((f + 3 * (j : Nat)) % 26))
theorem tl_restS (f : Int) (z : Nat) : TL.tl (restS f z) = (List.range z).map fun j => 97 + ((f + 3 * (j : Nat)) % 26).toNat := by
  unfold restS
  rw [TL.join_eq, TL.tl_join, show TL.tl ("" : Str) = [] by decide +kernel, joinL_nil, List.map_map, ← List.flatMap_def]
  induction z with
  | zero => rfl
  | succ z ih => rw [List.range_succ, List.flatMap_append, ih, List.map_append]; rfl
theorem isMk_of {m : Str} (h1 : 1 ≤ (TL.tl m).length) (h8 : (TL.tl m).length ≤ 8) (ha : ∀ c ∈ TL.tl m, 97 ≤ c ∧ c ≤ 122) : isMk m = true := by
  unfold isMk
  rw [TL.len_tl, decide_eq_true ⟨h1, h8⟩, Bool.true_and, List.all_eq_true]
  exact fun c hc => decide_eq_true (ha c hc)
theorem let_ok (i : Int) : 97 ≤ 97 + (i % 26).toNat ∧ 97 + (i % 26).toNat ≤ 122 := by
  have := Int.emod_lt_of_pos i (show (0 : Int) < 26 by decide)
  have := Int.emod_nonneg i (show (26 : Int) ≠ 0 by decide)
  omega
theorem rest_ok {f : Int} {z c : Nat} (h : c ∈ TL.tl (restS f z)) : 97 ≤ c ∧ c ≤ 122 := by
  rw [tl_restS] at h
  obtain ⟨j, _, rfl⟩ := List.mem_map.mp h
  exact let_ok _
theorem rest_len (f : Int) (z : Nat) : (TL.tl (restS f z)).length = z := by rw [tl_restS, List.length_map, List.length_range]
theorem sum_let (f : Int) (z : Nat) : (((List.range z).map fun j => letS ((f + 3 * ((j : Nat) : Int)) % 26)).map (·.length)).sum = z := by
  induction z with
  | zero => rfl
  | succ z ih =>
    rw [List.range_succ, List.map_append, List.map_append, List.sum_append, ih]
    rfl
def sgn (sh : Int) (j : Nat) : Nat := 97 + ((sh + 5 * (j : Nat)) % 26).toNat
def keyOf (front : Bool) (m : Str) : Option Nat := if front then (TL.tl m).head? else (TL.tl m).getLast?
theorem key_nodup {front : Bool} {sh : Int} {ms : List Str} (hz : ms.length ≤ 26) (h : ∀ j m, ms[j]? = some m → keyOf front m = some (sgn sh j)) : ms.Nodup := by
  refine List.pairwise_iff_getElem.mpr fun i j hi hj hij e => ?_
  have e1 := h i _ (List.getElem?_eq_getElem hi)
  have e2 := h j _ (List.getElem?_eq_getElem hj)
  rw [e, e2] at e1
  have e1 := Option.some.inj e1
  unfold sgn at e1
  omega
section
variable {P : Program} {w : World} {K : PySem.W.Frag} {mg : Str → Option Value} {base : Heap}
theorem ok__law_marks (T : Txt K mg) : FnOk P w K mg base CX0 2 T.a__law_marks T.fd__law_marks ["_law_draws_here", "_law_at", "_law_count"] (spLMarks K) := by
  refine T.F__law_marks.ok sc__law_marks (fun vs H Q E h => ?_) (fun cdv A outer s H vs Q E hr h => ?_)
  · obtain ⟨d, t, n, rfl, _⟩ := h; rfl
  · obtain ⟨d, t, n, rfl, D0, hn, q⟩ := h
    refine ⟨_, (pss_cons (ps_set (i := 3) sc__law_marks.nd rfl (.inr rfl) (pe_str))
      (pss_cons (ps_set (i := 4) sc__law_marks.nd rfl (.inl rfl) (pe_call (ok__law_take T) (hr.mono (by omega)) (by rfl) T.g__law_take T.F__law_take.kp T.b__law_take .nil pass0 (pa_cons (pv 0) (pa_cons (pv 1) (pa_cons (pe_int) pa_nil)))))
      (pss_cons (ps_set (i := 5) sc__law_marks.nd rfl (.inl rfl) (pe_cmpR op_eq (pe_call (ok__law_take T) (hr.mono (by omega)) (by rfl) T.g__law_take T.F__law_take.kp T.b__law_take .nil pass0 (pa_cons (pv 0) (pa_cons (pv 1) (pa_cons (pe_int) pa_nil)))) (pe_int) (nomark _)))
      (pss_cons (ps_set (i := 6) sc__law_marks.nd rfl (.inl rfl) (pe_lst pa_nil))
      (pss_cons (ps_for PassesOwn.never rfl (pi_range1 (by rfl) T.n_range (pa_cons (pv 2) pa_nil)) (pg_name (i := 7) sc__law_marks.nd rfl (.inl rfl)) (pss_cons (ps_set (i := 8) sc__law_marks.nd rfl (.inl rfl) (pe_ix ix_list (pe_lst (pa_cons (pe_int) (pa_cons (pe_int) (pa_cons (pe_int) (pa_cons (pe_int) (pa_cons (pe_int) pa_nil)))))) (pe_call (ok__law_take T) (hr.mono (by omega)) (by rfl) T.g__law_take T.F__law_take.kp T.b__law_take .nil pass0 (pa_cons (pv 0) (pa_cons (pv 1) (pa_cons (pe_int) pa_nil)))) (fun _ _ => rfl)))
      (pss_cons (ps_set (i := 9) sc__law_marks.nd rfl (.inr rfl) (pe_call (ok__law_take T) (hr.mono (by omega)) (by rfl) T.g__law_take T.F__law_take.kp T.b__law_take .nil pass0 (pa_cons (pv 0) (pa_cons (pv 1) (pa_cons (pe_int) pa_nil)))))
      (pss_cons (ps_set (i := 10) sc__law_marks.nd rfl (.inl rfl) (pe_join (pe_str) (pe_lc (own := [("_law_j", 11)]) (g := (gName 11)) (by rfl) sc__law_marks.nd (pi_range1 (by rfl) T.n_range (pa_cons (pv 8) pa_nil)) (blkOk_by (own := [("_law_j", 11)]) (N := ["_law_draws_here", "_law_at", "_law_count", "_law_letters", "_law_shift", "_law_front", "_law_marks_here", "_law_k", "_law_size", "_law_first", "_law_rest", "_law_j", "_law_sign"]) (sc := defScope S__law_marks) (by decide +kernel)) (fun _ _ _ _ _ => (pg_name (i := 11) sc__law_marks.nd rfl (by first | exact .inl rfl | exact .inr rfl))) (fun _ _ _ _ _ => pts_nil) (fun _ _ _ _ _ => (pe_ix ix_str (pv 3) (pe_op op_mod (pe_op op_add (pv 9) (pe_op op_mul (pe_int) (pv 11))) (pe_int)) (fun _ _ => rfl))))))
      (pss_cons (ps_set (i := 12) sc__law_marks.nd rfl (.inl rfl) (pe_ix ix_str (pv 3) (pe_op op_mod (pe_op op_add (pv 4) (pe_op op_mul (pe_int) (pv 7))) (pe_int)) (fun _ _ => rfl)))
      (pss_one (ps_if (pt_val (pv 5)) (pss_one (ps_expr (pe_bm PySem.F.plainAttrs_list PySem.F.slot_list_append PySem.F.type_list_append mt_append (pv 6) (pa_cons (pe_op op_add_str (pv 12) (pv 10)) pa_nil)))) (pss_one (ps_expr (pe_bm PySem.F.plainAttrs_list PySem.F.slot_list_append PySem.F.type_list_append mt_append (pv 6) (pa_cons (pe_op op_add_str (pv 10) (pv 12)) pa_nil)))))))))))
      (pss_one (ps_ret (pv 6)))))))), ?_⟩
    have big : 100000 < sizeLine := by decide
    refine ⟨_, rfl, _, rfl, d, t, 26, rfl, D0, by decide, fun sh H1 h0 h1 D1 b1 => ?_⟩
    refine ⟨_, rfl, _, rfl, d, t, 2, rfl, D1, by decide, fun fr H2 _ _ D2 b2 => ⟨rfl, ?_⟩⟩
    generalize decide (V.int fr = V.int 1) = front
    refine ⟨Nat.zero_le _, fun l hl => ?_⟩
    have nlt : l ≠ t := D2.na hl
    have b2 := b1.trans b2
    have hl0 : H l = none := b2.free nlt hl
    have s3 := same_new (o := .lst []) hl
    refine ⟨_, rfl, _, rfl, by omega, by omega, for_range (lo := 0) (n := n) (fun k σ H' => ∃ (ms : List Str) (x7 x8 x9 x10 x11 x12 : Option V), σ = [some (.ref d), some (.ref t), some (.int n), some (.str "abcdefghijklmnopqrstuvwxyz"), some (.int sh), some (.bl front), some (.ref l), x7, x8, x9, x10, x11, x12] ∧ Dr K H' d t ∧ But t H H' ∧ H' l = some (.lst (ms.map V.str)) ∧ ms.length = k ∧
        ∀ j m, ms[j]? = some m → isMk m = true ∧ keyOf front m = some (sgn sh j))
      ⟨[], _, _, _, _, _, _, rfl, D2.same s3, b2.trans (But.of_same s3), upd_same, rfl, fun j m h => by simp at h⟩ ?_ ?_⟩
    · rintro k σ H3 hk ⟨ms, x7, x8, x9, x10, x11, x12, rfl, D3, b3, hl3, lk, hms⟩
      rw [Int.zero_add]
      refine ⟨by show 5 ≤ sizeLine; decide, fun m hm => ?_⟩
      have nmt : m ≠ t := D3.na hm
      have s4 := same_new (o := .lst [.int 0, .int 1, .int 2, .int 4, .int 7]) hm
      refine ⟨_, rfl, _, rfl, d, t, 5, rfl, D3.same s4, by decide, fun r H4 r0 r1 D4 b4 => ?_⟩
      obtain ⟨v, hv, mv⟩ := at_ok (xs := [.int 0, .int 1, .int 2, .int 4, .int 7]) r0 r1
      obtain ⟨z, rfl, hz⟩ : ∃ z : Nat, v = .int z ∧ z ≤ 7 := by
        simp only [List.mem_cons, List.not_mem_nil, or_false] at mv
        rcases mv with rfl | rfl | rfl | rfl | rfl
        · exact ⟨0, rfl, by decide⟩
        · exact ⟨1, rfl, by decide⟩
        · exact ⟨2, rfl, by decide⟩
        · exact ⟨4, rfl, by decide⟩
        · exact ⟨7, rfl, by decide⟩
      refine ⟨_, _, _, _, rfl, rfl, SqL.of (b4 _ _ nmt upd_same), hv, ?_⟩
      refine ⟨_, rfl, _, rfl, d, t, 26, rfl, D4, by decide, fun f H5 f0 f1 D5 b5 => ?_⟩
      have t5 : But t H H5 := ((b3.trans (But.of_same s4)).trans b4).trans b5
      have hl5 := b5 _ _ nlt (b4 _ _ nlt (s4 _ _ hl3))
      refine ⟨⟨_, rfl⟩, _, rfl, _, rfl, by omega, by omega, fun D hD => lc_range (lo := 0) (n := z) (fun i H' => Same H5 H' ∧ H' D = some (.lst (((List.range i).map fun j => letS ((f + 3 * (j : Nat)) % 26)).map V.str))) ⟨same_new hD, upd_same⟩ ?_ ?_⟩
      · rintro i H6 hi ⟨s6, h6⟩
        rw [Int.zero_add]
        refine ⟨rfl, ?_⟩
        unfold tYes
        refine iteT ⟨_, rfl, _, rfl, _, rfl, _, _, rfl, rfl, .inl ⟨by decide, by decide⟩, _, _, rfl, rfl, _, _, rfl, rfl, (show (0 : Int) < 26 by decide), _, _, _, rfl, rfl, by decide +kernel, letter_at (Int.emod_nonneg _ (by decide)) (Int.emod_lt_of_pos _ (by decide)), ?_⟩
        refine ⟨_, h6, by simp; omega, same_mut s6 hD, ?_⟩
        rw [upd_same, List.range_succ, List.map_append, List.map_append]; rfl
      · rintro H6 ⟨s6, h6⟩
        refine ⟨_, D, _, rfl, rfl, .inl (SqL.of h6), ?_, ?_⟩
        · rw [sum_let, List.length_map, List.length_range, show ("" : Str).length = 0 by decide +kernel]; omega
        show (fun _ => _) _
        refine ⟨_, rfl, _, rfl, _, rfl, _, _, rfl, rfl, .inl ⟨by decide, by decide⟩, _, _, rfl, rfl, _, _, rfl, rfl, (show (0 : Int) < 26 by decide), _, _, _, rfl, rfl, by decide +kernel, letter_at (Int.emod_nonneg _ (by decide)) (Int.emod_lt_of_pos _ (by decide)), ?_⟩
        have hl6 := s6 _ _ hl5
        have t6 := t5.trans (But.of_same s6)
        have D6 := D5.same s6
        have rl := rest_len f z
        have keep : ∀ m : Str, (isMk m = true ∧ keyOf front m = some (sgn sh k)) → ∀ j m', (ms ++ [m])[j]? = some m' → isMk m' = true ∧ keyOf front m' = some (sgn sh j) := fun m hm j m' h => by
          by_cases c : j < ms.length
          · rw [List.getElem?_append_left c] at h; exact hms j m' h
          · rw [List.getElem?_append_right (by omega)] at h
            obtain ⟨h1, h2⟩ := List.getElem?_eq_some_iff.mp h
            have h1 : j - ms.length < 1 := h1
            obtain rfl : j = k := by omega
            have e0 : j - ms.length = 0 := by omega
            rw [e0] at h
            exact Option.some.inj h ▸ hm
        refine ⟨_, rfl, _, rfl, ?_⟩
        cases front with
        | true =>
          refine iteT ⟨_, rfl, .inl ⟨rfl, _, SqL.of hl6⟩, _, rfl, _, rfl, _, _, rfl, rfl, ?_, _, _, _, rfl, rfl, hl6, by rw [List.length_map]; omega, ?_⟩
          · rw [TL.len_tl, TL.len_tl]; show 1 + _ ≤ _; rw [show TL.tl (Txt.join "" ((List.range z).map fun j => letS ((f + 3 * ((j : Nat) : Int)) % 26))) = TL.tl (restS f z) from rfl, rl]; omega
          · refine ⟨ms ++ [letS ((sh + 5 * (k : Nat)) % 26) ++ restS f z], _, _, _, _, _, _, rfl, D6.other But.upd (D0.nd hl0) nlt.symm, t6.mut hl0, by rw [upd_same, List.map_append]; rfl, by rw [List.length_append, lk]; rfl, keep _ ⟨isMk_of ?_ ?_ ?_, ?_⟩⟩
            · rw [TL.tl_append, List.length_append]; show 1 ≤ 1 + _; omega
            · rw [TL.tl_append, List.length_append, rl]; show 1 + _ ≤ _; omega
            · intro c hc
              rw [TL.tl_append] at hc
              rcases List.mem_append.mp hc with hc | hc
              · rw [List.mem_singleton.mp hc]; exact let_ok _
              · exact rest_ok hc
            · unfold keyOf; rw [TL.tl_append]; rfl
        | false =>
          refine iteF ⟨_, rfl, .inl ⟨rfl, _, SqL.of hl6⟩, _, rfl, _, rfl, _, _, rfl, rfl, ?_, _, _, _, rfl, rfl, hl6, by rw [List.length_map]; omega, ?_⟩
          · rw [TL.len_tl, TL.len_tl]; show _ + 1 ≤ _; rw [show TL.tl (Txt.join "" ((List.range z).map fun j => letS ((f + 3 * ((j : Nat) : Int)) % 26))) = TL.tl (restS f z) from rfl, rl]; omega
          · refine ⟨ms ++ [restS f z ++ letS ((sh + 5 * (k : Nat)) % 26)], _, _, _, _, _, _, rfl, D6.other But.upd (D0.nd hl0) nlt.symm, t6.mut hl0, by rw [upd_same, List.map_append]; rfl, by rw [List.length_append, lk]; rfl, keep _ ⟨isMk_of ?_ ?_ ?_, ?_⟩⟩
            · rw [TL.tl_append, List.length_append]; show 1 ≤ _ + 1; omega
            · rw [TL.tl_append, List.length_append, rl]; show _ + 1 ≤ _; omega
            · intro c hc
              rw [TL.tl_append] at hc
              rcases List.mem_append.mp hc with hc | hc
              · exact rest_ok hc
              · rw [List.mem_singleton.mp hc]; exact let_ok _
            · unfold keyOf; rw [TL.tl_append]; exact List.getLast?_concat
    · rintro σ H3 ⟨ms, x7, x8, x9, x10, x11, x12, rfl, D3, b3, hl3, lk, hms⟩
      refine ⟨_, rfl, q ms l H3 lk (key_nodup (by omega) fun j m h => (hms j m h).2) (fun m hm => ?_) D3 b3 hl0 hl3⟩
      obtain ⟨j, hj⟩ := List.mem_iff_getElem?.mp hm
      exact (hms j m hj).1
end
end My

namespace My
open PySem L2
/-! ### all but what A holds stays -/
def Le (A : List Addr) (H H' : Hp) : Prop := ∀ b o, b ∉ A → H b = some o → H' b = some o
theorem Le.refl (A : List Addr) (H : Hp) : Le A H H := fun _ _ _ h => h
theorem Le.trans {A : List Addr} {H H1 H2 : Hp} (x : Le A H H1) (y : Le A H1 H2) : Le A H H2 := fun b o n h => y b o n (x b o n h)
theorem Le.same {A : List Addr} {H H' : Hp} (s : Same H H') : Le A H H' := fun b o _ h => s b o h
theorem Le.but {A : List Addr} {t : Addr} {H H' : Hp} (m : t ∈ A) (b : But t H H') : Le A H H' := fun a o n h => b a o (fun z => n (z ▸ m)) h
theorem Le.upd {A : List Addr} {H : Hp} {p : Addr} {o : HO} (m : p ∈ A) : Le A H (upd H p o) := fun a u n e => by rw [upd_ne (show a ≠ p from fun q => n (by rw [q]; exact m))]; exact e
theorem Le.put {A : List Addr} {H H' : Hp} {p : Addr} {o : HO} (x : Le A H H') (h : H p = none) : Le A H (L2.upd H' p o) := fun a u n e => by rw [upd_ne (ne_of_none e h)]; exact x a u n e
/-- the addresses of A are taken -/
def Al (A : List Addr) (H : Hp) : Prop := ∀ a ∈ A, ∃ o, H a = some o
theorem Al.nin {A : List Addr} {H : Hp} (h : Al A H) {p : Addr} (n : H p = none) : p ∉ A := fun m => by obtain ⟨o, e⟩ := h p m; rw [n] at e; cases e
theorem Al.same {A : List Addr} {H H' : Hp} (h : Al A H) (s : Same H H') : Al A H' := fun a m => (h a m).elim fun o e => ⟨o, s _ _ e⟩
/-! ### drawn rows of a shape -/
structure PRow where
  idx : Int
  pars : List Int
  least : Int
  most : Int
  sh : Bool
def prL (r : PRow) (pp : Addr) : List V := [.int r.idx, .ref pp, .int r.least, .int r.most, .bl r.sh]
def PrV (A : List Addr) (H : Hp) (v : V) (r : PRow) : Prop := ∃ p pp, v = .ref p ∧ p ∉ A ∧ pp ∉ A ∧ H p = some (.lst (prL r pp)) ∧ H pp = some (.lst (r.pars.map V.int))
theorem PrV.le {A : List Addr} {H H' : Hp} {v : V} {r : PRow} (h : PrV A H v r) (l : Le A H H') : PrV A H' v r := let ⟨p, pp, e, a, b, c, d⟩ := h; ⟨p, pp, e, a, b, l _ _ a c, l _ _ b d⟩
theorem PrV.sub {A B : List Addr} {H : Hp} {v : V} {r : PRow} (h : PrV A H v r) (s : ∀ a ∈ B, a ∈ A) : PrV B H v r := let ⟨p, pp, e, a, b, c, d⟩ := h; ⟨p, pp, e, fun m => a (s _ m), fun m => b (s _ m), c, d⟩
def listOk (n : Nat) (js : List Int) : Prop := js.Nodup ∧ ∀ j ∈ js, 0 ≤ j ∧ j < n
structure PrOk (n k : Nat) (r : PRow) : Prop where
  idx : r.idx = k
  pars : listOk n r.pars
  l0 : 0 ≤ r.least
  lm : r.least ≤ r.most
  m4 : r.most ≤ 4
  pm : 0 < r.most ↔ r.pars ≠ []
  low : r.least ≠ 0 → ∃ j ∈ r.pars, j < (k : Int)
def PlanOk (n : Nat) (prs : List PRow) : Prop := prs.length = n ∧ ∀ k r, prs[k]? = some r → PrOk n k r
def spLPlan (K : PySem.W.Frag) : Sp := fun vs H Q _ => ∃ (d t : Addr) (n : Nat), vs = [.ref d, .ref t, .int n] ∧ Dr K H d t ∧ n ≤ 26 ∧
  ∀ (prs : List PRow) us p H', PlanOk n prs → Dr K H' d t → But t H H' → H p = none → H' p = some (.lst us) → Paired (PrV [t] H') us prs → Q (.ref p) H'
theorem lst_len {n : Nat} {js : List Int} (h : listOk n js) : js.length ≤ n := by
  have nd : (js.map Int.toNat).Nodup := by
    refine List.pairwise_map.mpr (List.Pairwise.imp_of_mem (fun {a b} ha hb ne e => ne ?_) h.1)
    have := h.2 a ha; have := h.2 b hb; omega
  have sub : ∀ x ∈ js.map Int.toNat, x ∈ List.range n := fun x hx => by
    obtain ⟨j, hj, rfl⟩ := List.mem_map.mp hx
    have := h.2 j hj
    exact List.mem_range.mpr (by omega)
  have := List.Nodup.length_le_of_subset nd sub
  rwa [List.length_map, List.length_range] at this
section
variable {P : Program} {w : World} {K : PySem.W.Frag} {mg : Str → Option Value} {base : Heap}
end
end My

namespace My
open PySem L2
/-! ### rows of a shape with names, as lists or tuples, at addresses of F -/
def seqO (b : Bool) (xs : List V) : HO := if b then .lst xs else .tup xs
def RowN (F : Addr → Prop) (b : Bool) (H : Hp) (v : V) (r : Row) : Prop := ∃ p pp, v = .ref p ∧ F p ∧ F pp ∧ H p = some (seqO b (rowL r pp)) ∧ H pp = some (seqO b (r.pars.map V.str))
abbrev RowsN (F : Addr → Prop) (b : Bool) (H : Hp) (vs : List V) (rs : List Row) : Prop := Paired (RowN F b H) vs rs
theorem RowN.le {F : Addr → Prop} {b : Bool} {H H' : Hp} {v : V} {r : Row} (h : RowN F b H v r) (l : ∀ a o, F a → H a = some o → H' a = some o) : RowN F b H' v r := let ⟨p, pp, e, f, g, x, y⟩ := h; ⟨p, pp, e, f, g, l _ _ f x, l _ _ g y⟩
theorem RowN.sub {F G : Addr → Prop} {b : Bool} {H : Hp} {v : V} {r : Row} (h : RowN F b H v r) (l : ∀ a, F a → G a) : RowN G b H v r := let ⟨p, pp, e, f, g, x, y⟩ := h; ⟨p, pp, e, l _ f, l _ g, x, y⟩
theorem rowsN_le {F : Addr → Prop} {b : Bool} {H H' : Hp} {vs : List V} {rs : List Row} (h : RowsN F b H vs rs) (l : ∀ a o, F a → H a = some o → H' a = some o) : RowsN F b H' vs rs := L2.Paired.mapP h fun _ _ x => x.le l
theorem rowsN_same {F : Addr → Prop} {b : Bool} {H H' : Hp} {vs : List V} {rs : List Row} (h : RowsN F b H vs rs) (s : Same H H') : RowsN F b H' vs rs := rowsN_le h fun a o _ e => s a o e
theorem rowsN_sub {F G : Addr → Prop} {b : Bool} {H : Hp} {vs : List V} {rs : List Row} (h : RowsN F b H vs rs) (l : ∀ a, F a → G a) : RowsN G b H vs rs := L2.Paired.mapP h fun _ _ x => x.sub l
theorem RowN.toV {F : Addr → Prop} {b : Bool} {H : Hp} {v : V} {r : Row} (h : RowN F b H v r) : RowV H v r := by
  obtain ⟨p, pp, e, _, _, x, y⟩ := h
  cases b with
  | true => exact ⟨p, pp, e, .inr x, .inr y⟩
  | false => exact ⟨p, pp, e, .inl x, .inl y⟩
theorem rowsN_toV {F : Addr → Prop} {b : Bool} {H : Hp} {vs : List V} {rs : List Row} (h : RowsN F b H vs rs) : Paired (RowV H) vs rs := L2.Paired.mapP h fun _ _ x => x.toV
abbrev New (H0 : Hp) : Addr → Prop := fun a => H0 a = none
def nm (ms : List Str) (i : Int) : Str := ms.getD i.toNat ""
def nameR (ms : List Str) (r : PRow) : Row := ⟨nm ms r.idx, r.pars.map (nm ms), r.least, r.most, r.sh⟩
def spLNamed (K : PySem.W.Frag) : Sp := fun vs H Q _ => ∃ (a b : Addr) (us : List V) (prs : List PRow) (n : Nat) (ms : List Str), vs = [.ref a, .ref b] ∧ H a = some (.lst us) ∧ Paired (PrV [] H) us prs ∧ PlanOk n prs ∧ n ≤ ms.length ∧ n ≤ 26 ∧ H b = some (.lst (ms.map V.str)) ∧
  ∀ p ws H', Same H H' → H p = none → H' p = some (.lst ws) → RowsN (New H) true H' ws (prs.map (nameR ms)) → Q (.ref p) H'
def spLHanded (K : PySem.W.Frag) : Sp := fun vs H Q _ => ∃ (a : Addr) (b : Bool) (us : List V) (rs : List Row), vs = [.ref a, .bl b] ∧ H a = some (.lst us) ∧ RowsN (fun _ => True) true H us rs ∧ us.length ≤ 100 ∧
  ∀ p ws H', Same H H' → H p = none → H' p = some (.lst ws) → RowsN (fun a => H a = none ∧ a ≠ p) b H' ws rs → Q (.ref p) H'
def spLWidth (K : PySem.W.Frag) : Sp := fun vs H Q _ => ∃ (a : Addr) (us : List V) (rs : List Row), vs = [.ref a] ∧ H a = some (.lst us) ∧ RowsN (fun _ => True) true H us rs ∧ Q (.int (widthOf rs)) H
theorem nm_at {ms : List Str} {i : Int} (h0 : 0 ≤ i) (h1 : i < ms.length) : atI (ms.map V.str) i = some (.str (nm ms i)) := by
  obtain ⟨j, rfl⟩ := Int.eq_ofNat_of_zero_le h0
  refine atI_nat ?_
  have hj : j < ms.length := by omega
  unfold nm
  rw [List.getElem?_map, List.getElem?_eq_getElem hj, List.getD_eq_getElem?_getD, Int.toNat_natCast, List.getElem?_eq_getElem hj]
  rfl
theorem named_in {K : PySem.W.Frag} {x0 x3 : Option V} {b p pp : Addr} {xs : List V} {js : List Int} {ms : List Str} {H : Hp} {Q : VK} (hb : H b = some (.lst (ms.map V.str))) (hp : H p = some (.lst xs)) (hx : atI xs 1 = some (.ref pp)) (hpp : H pp = some (.lst (js.map V.int))) (hz : js.length ≤ 1000) (hj : ∀ j ∈ js, 0 ≤ j ∧ j < ms.length)
    (q : ∀ D H', Same H H' → H D = none → H' D = some (.lst ((js.map (nm ms)).map V.str)) → Q (.ref D) H') :
    tLc (iList K (tOp (rIxL K) (tVar 2) (tC (.int 1)))) (gName 3) tYes (tOp (rIxL K) (tVar 1) (tVar 3)) [3] [x0, some (.ref b), some (.ref p), x3] H Q := by
  have big : 100000 < sizeLine := by decide
  refine ⟨_, rfl, _, _, _, _, rfl, rfl, SqL.of hp, hx, pp, rfl, ⟨_, SqL.of hpp⟩, fun E hE => lc_list (K := K) (a := pp) (xs := js.map V.int) (fun i H' => Same H H' ∧ H' E = some (.lst (((js.take i).map (nm ms)).map V.str))) ⟨same_new hE, upd_same⟩ (fun i H' _ h => SqL.of (h.1 _ _ hpp)) ?_ ?_⟩
  · rintro i v H2 hv ⟨s2, h2⟩
    obtain ⟨z, hz', rfl⟩ := get_int hv
    have zok := hj z (List.mem_of_getElem? hz')
    refine ⟨rfl, ?_⟩
    unfold tYes
    refine iteT ⟨_, rfl, _, rfl, _, _, _, _, rfl, rfl, SqL.of (s2 _ _ hb), nm_at zok.1 zok.2, _, h2, ?_, same_mut s2 hE, ?_⟩
    · rw [List.length_map, List.length_map, List.length_take]; omega
    · rw [upd_same, List.take_succ, hz', List.map_append, List.map_append]; rfl
  · rintro H2 ⟨s2, h2⟩
    rw [List.length_map, List.take_length] at h2
    exact q E H2 s2 hE h2
section
variable {P : Program} {w : World} {K : PySem.W.Frag} {mg : Str → Option Value} {base : Heap}
end
end My

namespace My
open PySem L2
/-! ### good shapes, changed -/
def rowOk (r : Row) : Prop := isMk r.mark = true ∧ sizeB r = true ∧ (decide (0 < r.most) == decide (0 < r.pars.length)) = true ∧ r.pars.Nodup
theorem fineB_iff {r : Row} {bs : List Str} : fineB r bs = true ↔ rowOk r ∧ r.mark ∉ bs := by
  unfold fineB rowOk
  simp only [Bool.and_eq_true, Bool.not_eq_true', decide_eq_false_iff_not, decide_eq_true_iff]
  constructor
  · rintro ⟨⟨⟨a, b, c⟩, d⟩, e⟩; exact ⟨⟨a, c, d, e⟩, b⟩
  · rintro ⟨⟨a, c, d, e⟩, b⟩; exact ⟨⟨⟨a, b, c⟩, d⟩, e⟩
theorem nodup_take {l : List Str} : l.Nodup ↔ ∀ (j : Nat) (x : Str), l[j]? = some x → x ∉ l.take j := by
  constructor
  · intro h j x hx m
    obtain ⟨i, hi, e⟩ := List.getElem_of_mem m
    rw [List.length_take] at hi
    rw [List.getElem_take] at e
    obtain ⟨hj, e2⟩ := List.getElem?_eq_some_iff.mp hx
    exact List.pairwise_iff_getElem.mp h i j (by omega) hj (by omega) (e.trans e2.symm)
  · intro h
    refine List.pairwise_iff_getElem.mpr fun i j hi hj hij e => h j _ (List.getElem?_eq_getElem hj) ?_
    rw [← e]
    exact List.mem_iff_getElem.mpr ⟨i, by rw [List.length_take]; omega, by rw [List.getElem_take]⟩
structure GoodC (rs : List Row) : Prop where
  len : rs.length ≤ 6
  nd : (mks rs).Nodup
  row : ∀ r ∈ rs, rowOk r
  pars : ∀ q ∈ rs, parsOk rs q
  fert : ∀ q ∈ rs, Fert rs q.mark
theorem mks_take (rs : List Row) (j : Nat) : mks (rs.take j) = (mks rs).take j := List.map_take ..
theorem Good.c {rs : List Row} (g : Good rs) : GoodC rs := by
  refine ⟨g.len, nodup_take.mpr fun j x hx m => ?_, fun r hr => ?_, g.pars, g.fert⟩
  · unfold mks at hx
    rw [List.getElem?_map] at hx
    cases e : rs[j]? with
    | none => rw [e] at hx; cases hx
    | some r =>
      rw [e] at hx
      have e2 := (fineB_iff.mp (g.fine j r e)).2
      rw [mks_take, show r.mark = x from Option.some.inj hx] at e2
      exact e2 m
  · obtain ⟨j, hj⟩ := List.mem_iff_getElem?.mp hr
    exact (fineB_iff.mp (g.fine j r hj)).1
theorem GoodC.g {rs : List Row} (g : GoodC rs) : Good rs := by
  refine ⟨g.len, fun j r hr => fineB_iff.mpr ⟨g.row r (List.mem_of_getElem? hr), ?_⟩, g.pars, g.fert⟩
  rw [mks_take]
  refine nodup_take.mp g.nd j _ ?_
  unfold mks
  rw [List.getElem?_map, hr]; rfl
theorem Fert.mono {rs ts : List Row} (h : ∀ r ∈ rs, ∃ q ∈ ts, q.mark = r.mark ∧ q.least = r.least ∧ q.pars = r.pars) {m : Str} (f : Fert rs m) : Fert ts m := by
  induction f with
  | @base r hr e =>
    obtain ⟨q, hq, a, b, _⟩ := h r hr
    exact a ▸ .base hq (b.trans e)
  | @step r p hr hp _ ih =>
    obtain ⟨q, hq, a, _, c⟩ := h r hr
    exact a ▸ .step hq (c ▸ hp) ih
theorem GoodC.alike {rs ts : List Row} (g : GoodC rs) (hl : ts.length ≤ 6) (nd : (mks ts).Nodup) (a : ∀ q ∈ ts, rowOk q ∧ ∃ r ∈ rs, q.mark = r.mark ∧ q.pars = r.pars) (b : ∀ r ∈ rs, ∃ q ∈ ts, q.mark = r.mark ∧ q.least = r.least ∧ q.pars = r.pars) : GoodC ts := by
  refine ⟨hl, nd, fun q hq => (a q hq).1, fun q hq p hp => ?_, fun q hq => ?_⟩
  · obtain ⟨r, hr, _, e⟩ := (a q hq).2
    obtain ⟨r2, hr2, e2⟩ := List.mem_map.mp (g.pars r hr p (e ▸ hp))
    obtain ⟨q2, hq2, e3, _⟩ := b r2 hr2
    exact List.mem_map.mpr ⟨q2, hq2, e3.trans e2⟩
  · obtain ⟨r, hr, e, _⟩ := (a q hq).2
    rw [e]
    exact (g.fert r hr).mono b
theorem set_marks {rs : List Row} {i : Nat} {r q : Row} (h : rs[i]? = some r) (e : q.mark = r.mark) : mks (rs.set i q) = mks rs := by
  unfold mks
  rw [List.map_set, e]
  refine List.ext_getElem? fun j => ?_
  rw [List.getElem?_set]
  split
  · rename_i c; subst c
    rw [List.getElem?_map, h]
    have := (List.getElem?_eq_some_iff.mp h).1
    simp [this]
  · rfl
theorem GoodC.put {rs : List Row} (g : GoodC rs) {i : Nat} {r q : Row} (h : rs[i]? = some r) (e : q.mark = r.mark) (el : q.least = r.least) (ep : q.pars = r.pars) (ok : rowOk q) : GoodC (rs.set i q) := by
  have hi := (List.getElem?_eq_some_iff.mp h).1
  have mq : q ∈ rs.set i q := List.mem_iff_getElem?.mpr ⟨i, by rw [List.getElem?_set]; simp [hi]⟩
  refine g.alike (by rw [List.length_set]; exact g.len) (by rw [set_marks h e]; exact g.nd) (fun x hx => ?_) (fun x hx => ?_)
  · rcases List.mem_or_eq_of_mem_set hx with hx | hx
    · exact ⟨g.row x hx, x, hx, rfl, rfl⟩
    · subst hx; exact ⟨ok, r, List.mem_of_getElem? h, e, ep⟩
  · obtain ⟨j, hj⟩ := List.mem_iff_getElem?.mp hx
    by_cases c : i = j
    · subst c
      rw [h] at hj
      obtain rfl := Option.some.inj hj
      exact ⟨q, mq, e, el, ep⟩
    · exact ⟨x, List.mem_iff_getElem?.mpr ⟨j, by rw [List.getElem?_set, if_neg c]; exact hj⟩, rfl, rfl, rfl⟩
theorem GoodC.swap {rs : List Row} (g : GoodC rs) {i : Nat} {r q : Row} (h : rs[i]? = some r) (h0 : rs[0]? = some q) : GoodC ((rs.set i q).set 0 r) := by
  obtain ⟨hi, ei⟩ := List.getElem?_eq_some_iff.mp h
  obtain ⟨hz, ez⟩ := List.getElem?_eq_some_iff.mp h0
  have sub : ∀ x, x ∈ (rs.set i q).set 0 r → x ∈ rs := fun x hx => by
    rcases List.mem_or_eq_of_mem_set hx with hx | hx
    · rcases List.mem_or_eq_of_mem_set hx with hx | hx
      · exact hx
      · subst hx; exact List.mem_of_getElem? h0
    · subst hx; exact List.mem_of_getElem? h
  have sup : ∀ x, x ∈ rs → x ∈ (rs.set i q).set 0 r := fun x hx => by
    obtain ⟨j, hj⟩ := List.mem_iff_getElem?.mp hx
    by_cases c : j = i
    · subst c
      rw [h] at hj
      obtain rfl := Option.some.inj hj
      exact List.mem_iff_getElem?.mpr ⟨0, by rw [List.getElem?_set]; simp [hz]⟩
    by_cases c0 : j = 0
    · subst c0
      rw [h0] at hj
      obtain rfl := Option.some.inj hj
      refine List.mem_iff_getElem?.mpr ⟨i, ?_⟩
      rw [List.getElem?_set, if_neg (fun z => c z), List.getElem?_set]
      simp [hi]
    · exact List.mem_iff_getElem?.mpr ⟨j, by rw [List.getElem?_set, if_neg (fun z => c0 z.symm), List.getElem?_set, if_neg (fun z => c z.symm)]; exact hj⟩
  refine g.alike (by rw [List.length_set, List.length_set]; exact g.len) ?_ (fun x hx => ⟨g.row x (sub x hx), x, sub x hx, rfl, rfl⟩) (fun x hx => ⟨x, sup x hx, rfl, rfl, rfl⟩)
  have inj : ∀ a b (ha : a < rs.length) (hb : b < rs.length), rs[a].mark = rs[b].mark → a = b := fun a b ha hb e => by
    have n := List.pairwise_iff_getElem.mp g.nd
    unfold mks at n
    rcases Nat.lt_trichotomy a b with c | c | c
    · exact absurd (by rw [List.getElem_map, List.getElem_map]; exact e) (n a b (by rw [List.length_map]; exact ha) (by rw [List.length_map]; exact hb) c)
    · exact c
    · exact absurd (by rw [List.getElem_map, List.getElem_map]; exact e.symm) (n b a (by rw [List.length_map]; exact hb) (by rw [List.length_map]; exact ha) c)
  refine List.pairwise_iff_getElem.mpr fun a b ha hb hab e => ?_
  unfold mks at ha hb e
  rw [List.length_map, List.length_set, List.length_set] at ha hb
  rw [List.getElem_map, List.getElem_map] at e
  simp only [List.getElem_set] at e
  subst ei ez
  have i0 := inj
  split at e <;> split at e <;> (try split at e) <;> (try split at e) <;> first | omega | (have := inj _ _ _ _ e; omega)
theorem GoodC.add {rs : List Row} (g : GoodC rs) {z : Str} (hl : rs.length < 6) (hz : isMk z = true) (nz : z ∉ mks rs) : GoodC (rs ++ [⟨z, [], 0, 0, false⟩]) := by
  have em : mks (rs ++ [⟨z, [], 0, 0, false⟩]) = mks rs ++ [z] := by unfold mks; rw [List.map_append]; rfl
  refine ⟨by rw [List.length_append]; simp; omega, ?_, fun r hr => ?_, fun r hr p hp => ?_, fun r hr => ?_⟩
  · rw [em, List.nodup_append]
    exact ⟨g.nd, by simp, fun a ha b hb e => nz (by rw [List.mem_singleton] at hb; rw [← hb, ← e]; exact ha)⟩
  · rcases List.mem_append.mp hr with hr | hr
    · exact g.row r hr
    · rw [List.mem_singleton.mp hr]; exact ⟨hz, rfl, rfl, List.nodup_nil⟩
  · rcases List.mem_append.mp hr with hr | hr
    · rw [em]; exact List.mem_append_left _ (g.pars r hr p hp)
    · rw [List.mem_singleton.mp hr] at hp; cases hp
  · rcases List.mem_append.mp hr with hr | hr
    · exact (g.fert r hr).mono fun q hq => ⟨q, List.mem_append_left _ hq, rfl, rfl, rfl⟩
    · rw [List.mem_singleton.mp hr]
      exact Fert.base (r := ⟨z, [], 0, 0, false⟩) (List.mem_append_right _ (List.mem_singleton.mpr rfl)) rfl
def renS (o z m : Str) : Str := if m = o then z else m
def renR (o z : Str) (r : Row) : Row := ⟨renS o z r.mark, r.pars.map (renS o z), r.least, r.most, r.sh⟩
theorem renS_inj {o z : Str} {l : List Str} (nz : z ∉ l) {a b : Str} (ha : a ∈ l) (hb : b ∈ l) (e : renS o z a = renS o z b) : a = b := by
  unfold renS at e
  by_cases c : a = o <;> by_cases d : b = o
  · rw [c, d]
  · rw [if_pos c, if_neg d] at e; rw [← e] at hb; exact absurd hb nz
  · rw [if_neg c, if_pos d] at e; rw [e] at ha; exact absurd ha nz
  · rw [if_neg c, if_neg d] at e; exact e
theorem nodup_ren {o z : Str} {l m : List Str} (nz : z ∉ m) (s : ∀ a ∈ l, a ∈ m) (h : l.Nodup) : (l.map (renS o z)).Nodup :=
  List.pairwise_map.mpr (List.Pairwise.imp_of_mem (fun {a b} ha hb ne e => ne (renS_inj nz (s a ha) (s b hb) e)) h)
theorem GoodC.ren {rs : List Row} (g : GoodC rs) {o z : Str} (hz : isMk z = true) (nz : z ∉ mks rs) : GoodC (rs.map (renR o z)) := by
  have em : mks (rs.map (renR o z)) = (mks rs).map (renS o z) := by unfold mks; rw [List.map_map, List.map_map]; rfl
  refine ⟨by rw [List.length_map]; exact g.len, by rw [em]; exact nodup_ren nz (fun _ h => h) g.nd, fun q hq => ?_, fun q hq p hp => ?_, fun q hq => ?_⟩
  · obtain ⟨r, hr, rfl⟩ := List.mem_map.mp hq
    obtain ⟨a, b, c, d⟩ := g.row r hr
    refine ⟨?_, b, ?_, nodup_ren nz (g.pars r hr) d⟩
    · show isMk (renS o z r.mark) = true
      unfold renS; split
      · exact hz
      · exact a
    · show (decide (0 < r.most) == decide (0 < (r.pars.map (renS o z)).length)) = true
      rw [List.length_map]; exact c
  · obtain ⟨r, hr, rfl⟩ := List.mem_map.mp hq
    obtain ⟨y, hy, rfl⟩ := List.mem_map.mp hp
    rw [em]
    exact List.mem_map.mpr ⟨y, g.pars r hr y hy, rfl⟩
  · obtain ⟨r, hr, rfl⟩ := List.mem_map.mp hq
    have k : ∀ {m}, Fert rs m → Fert (rs.map (renR o z)) (renS o z m) := fun f => by
      induction f with
      | @base r hr e => exact Fert.base (r := renR o z r) (List.mem_map.mpr ⟨r, hr, rfl⟩) e
      | @step r p hr hp _ ih => exact Fert.step (r := renR o z r) (List.mem_map.mpr ⟨r, hr, rfl⟩) (List.mem_map.mpr ⟨p, hp, rfl⟩) ih
    exact k (g.fert r hr)
/-- drawn rows with drawn marks -/
theorem good_named {n : Nat} {prs : List PRow} {ms : List Str} (ok : PlanOk n prs) (h6 : n ≤ 6) (hn : n ≤ ms.length) (nd : ms.Nodup) (hm : ∀ m ∈ ms, isMk m = true) : GoodC (prs.map (nameR ms)) := by
  have nmi : ∀ {i : Int}, 0 ≤ i → i < n → nm ms i ∈ ms := fun {i} h0 h1 => by
    unfold nm
    rw [List.getD_eq_getElem?_getD, List.getElem?_eq_getElem (by omega)]
    exact List.getElem_mem _
  have inj : ∀ {i j : Int}, 0 ≤ i → i < n → 0 ≤ j → j < n → nm ms i = nm ms j → i = j := fun {i j} a b c d e => by
    unfold nm at e
    rw [List.getD_eq_getElem?_getD, List.getD_eq_getElem?_getD, List.getElem?_eq_getElem (by omega), List.getElem?_eq_getElem (by omega)] at e
    have e : ms[i.toNat]'(by omega) = ms[j.toNat]'(by omega) := e
    have p := List.pairwise_iff_getElem.mp nd
    rcases Nat.lt_trichotomy i.toNat j.toNat with q | q | q
    · exact absurd e (p _ _ (by omega) (by omega) q)
    · omega
    · exact absurd e.symm (p _ _ (by omega) (by omega) q)
  have at_ : ∀ {k : Nat} {r : PRow}, prs[k]? = some r → k < n := fun h => by have := (List.getElem?_eq_some_iff.mp h).1; have := ok.1; omega
  have row : ∀ {j : Int}, 0 ≤ j → j < n → ∃ r, prs[j.toNat]? = some r ∧ (nameR ms r).mark = nm ms j := fun {j} a b => by
    have hj : j.toNat < prs.length := by rw [ok.1]; omega
    refine ⟨prs[j.toNat], List.getElem?_eq_getElem hj, ?_⟩
    have := (ok.2 _ _ (List.getElem?_eq_getElem hj)).idx
    show nm ms (prs[j.toNat]).idx = _
    rw [this, show ((j.toNat : Nat) : Int) = j by omega]
  refine ⟨by rw [List.length_map, ok.1]; exact h6, ?_, fun q hq => ?_, fun q hq p hp => ?_, fun q hq => ?_⟩
  · refine List.pairwise_iff_getElem.mpr fun a b ha hb hab e => ?_
    unfold mks at ha hb e
    rw [List.length_map, List.length_map] at ha hb
    simp only [List.getElem_map] at e
    have ia := (ok.2 a _ (List.getElem?_eq_getElem ha)).idx
    have ib := (ok.2 b _ (List.getElem?_eq_getElem hb)).idx
    have ka := at_ (List.getElem?_eq_getElem ha)
    have kb := at_ (List.getElem?_eq_getElem hb)
    have e : nm ms prs[a].idx = nm ms prs[b].idx := e
    have := inj (by omega) (by omega) (by omega) (by omega) e
    omega
  · obtain ⟨r, hr, rfl⟩ := List.mem_map.mp hq
    obtain ⟨k, hk⟩ := List.mem_iff_getElem?.mp hr
    have o := ok.2 k r hk
    have kn := at_ hk
    refine ⟨hm _ (nmi (by rw [o.idx]; omega) (by rw [o.idx]; omega)), ?_, ?_, ?_⟩
    · show (decide (0 ≤ r.least) && (decide (r.least ≤ r.most) && decide (r.most ≤ 4))) = true
      rw [decide_eq_true o.l0, decide_eq_true o.lm, decide_eq_true o.m4]; rfl
    · show (decide (0 < r.most) == decide (0 < (r.pars.map (nm ms)).length)) = true
      rw [List.length_map, beq_iff_eq]
      refine decide_eq_decide.mpr (o.pm.trans ?_)
      rw [List.length_pos_iff]
    · exact List.pairwise_map.mpr (List.Pairwise.imp_of_mem (fun {a b} ha hb ne e => ne (inj (o.pars.2 a ha).1 (o.pars.2 a ha).2 (o.pars.2 b hb).1 (o.pars.2 b hb).2 e)) o.pars.1)
  · obtain ⟨r, hr, rfl⟩ := List.mem_map.mp hq
    obtain ⟨k, hk⟩ := List.mem_iff_getElem?.mp hr
    obtain ⟨j, hj, rfl⟩ := List.mem_map.mp hp
    have o := (ok.2 k r hk).pars.2 j hj
    obtain ⟨r2, h2, e2⟩ := row o.1 o.2
    exact List.mem_map.mpr ⟨nameR ms r2, List.mem_map.mpr ⟨r2, List.mem_of_getElem? h2, rfl⟩, e2⟩
  · obtain ⟨r, hr, rfl⟩ := List.mem_map.mp hq
    obtain ⟨k, hk⟩ := List.mem_iff_getElem?.mp hr
    have all : ∀ (k : Nat) (r : PRow), prs[k]? = some r → Fert (prs.map (nameR ms)) (nameR ms r).mark := by
      intro k
      induction k using Nat.strongRecOn with
      | ind k ih =>
        intro r hk
        have o := ok.2 k r hk
        have mr : nameR ms r ∈ prs.map (nameR ms) := List.mem_map.mpr ⟨r, List.mem_of_getElem? hk, rfl⟩
        by_cases c : r.least = 0
        · exact Fert.base (r := nameR ms r) mr c
        · obtain ⟨j, hj, lt⟩ := o.low c
          have oj := o.pars.2 j hj
          obtain ⟨r2, h2, e2⟩ := row oj.1 oj.2
          have f := ih j.toNat (by omega) r2 h2
          rw [e2] at f
          exact Fert.step (r := nameR ms r) mr (List.mem_map.mpr ⟨j, hj, rfl⟩) f
    exact all k r hk
end My

namespace My
open PySem L2
theorem due_good {rs : List Row} (g : Good rs) {e : SErr} (h : Due rs e) : False := by
  cases h with
  | large h => have := g.len; omega
  | row _ hr _ hb => rw [g.fine _ _ hr] at hb; cases hb
  | par _ _ hr hp _ _ n => exact n (g.pars _ (List.mem_of_getElem? hr) _ (List.mem_of_getElem? hp))
  | lost _ _ _ hr _ n => exact n (g.fert _ (List.mem_of_getElem? hr))
end My

namespace My
open PySem L2
/-! ### webs -/
abbrev Th := Str × List Int
def ThV (H : Hp) (v : V) (th : Th) : Prop := ∃ p pp, v = .ref p ∧ H p = some (.tup [.str th.1, .ref pp]) ∧ H pp = some (.tup (th.2.map V.int))
abbrev ThsV (H : Hp) (vs : List V) (ts : List Th) : Prop := Paired (ThV H) vs ts
theorem ThV.keep {H H' : Hp} {v : V} {t : Th} (h : ThV H v t) (s : ∀ a xs, H a = some (.tup xs) → H' a = some (.tup xs)) : ThV H' v t := let ⟨p, pp, e, a, b⟩ := h; ⟨p, pp, e, s _ _ a, s _ _ b⟩
theorem thsV_keep {H H' : Hp} {vs : List V} {ts : List Th} (h : ThsV H vs ts) (s : ∀ a xs, H a = some (.tup xs) → H' a = some (.tup xs)) : ThsV H' vs ts := L2.Paired.mapP h fun _ _ x => x.keep s
theorem thsV_same {H H' : Hp} {vs : List V} {ts : List Th} (h : ThsV H vs ts) (s : Same H H') : ThsV H' vs ts := thsV_keep h fun a xs e => s _ _ e
def numsV (n : Nat) : List V := (List.range n).map fun i => V.int ((i : Nat) : Int)
/-- a web at y: its shape at x, its rows at l, its numbers at m -/
structure Wb (C : Addr) (H : Hp) (y x l m : Addr) (ts : List Th) : Prop where
  obj : ∃ dy, H y = some (.ins C dy [("shape", .ref x), ("_rows", .ref l), ("_numbers", .ref m)])
  rows : ∃ vs, H l = some (.lst vs) ∧ ThsV H vs ts
  nums : H m = some (.lst (numsV ts.length))
  ne : l ≠ m
theorem Wb.keep {C : Addr} {H H' : Hp} {y x l m : Addr} {ts : List Th} (h : Wb C H y x l m ts) (hy : ∀ o, H y = some o → H' y = some o) (hl : ∀ o, H l = some o → H' l = some o) (hm : ∀ o, H m = some o → H' m = some o) (s : ∀ a xs, H a = some (.tup xs) → H' a = some (.tup xs)) : Wb C H' y x l m ts := by
  obtain ⟨⟨dy, e⟩, ⟨vs, f, g⟩, n, ne⟩ := h
  exact ⟨⟨dy, hy _ e⟩, ⟨vs, hl _ f, thsV_keep g s⟩, hm _ n, ne⟩
theorem Wb.same {C : Addr} {H H' : Hp} {y x l m : Addr} {ts : List Th} (h : Wb C H y x l m ts) (s : Same H H') : Wb C H' y x l m ts := h.keep (fun _ e => s _ _ e) (fun _ e => s _ _ e) (fun _ e => s _ _ e) fun _ _ e => s _ _ e
theorem wb_look1 (x l m : Addr) : List.lookup ("shape" : Str) [(("shape" : Str), V.ref x), ("_rows", V.ref l), ("_numbers", V.ref m)] = some (V.ref x) := rfl
theorem wb_look2 (x l m : Addr) : List.lookup ("_rows" : Str) [(("shape" : Str), V.ref x), ("_rows", V.ref l), ("_numbers", V.ref m)] = some (V.ref l) := rfl
theorem wb_look3 (x l m : Addr) : List.lookup ("_numbers" : Str) [(("shape" : Str), V.ref x), ("_rows", V.ref l), ("_numbers", V.ref m)] = some (V.ref m) := rfl
def inW (ts : List Th) (p : Int) : Prop := 0 ≤ p ∧ p < (ts.length : Int)
instance (ts : List Th) (p : Int) : Decidable (inW ts p) := inferInstanceAs (Decidable (_ ∧ _))
def markW (ts : List Th) (p : Int) : Str := (ts.getD p.toNat ("", [])).1
def suitB (ts : List Th) (r : Row) (ps : List Int) : Bool := decide (r.least ≤ (ps.length : Int)) && decide ((ps.length : Int) ≤ r.most) && decide ps.Nodup && ps.all fun p => decide (markW ts p ∈ r.pars)
theorem inW_get {ts : List Th} {p : Int} (h : inW ts p) : ∃ t, ts[p.toNat]? = some t ∧ markW ts p = t.1 := by
  unfold inW at h
  have hp : p.toNat < ts.length := by omega
  refine ⟨ts[p.toNat], List.getElem?_eq_getElem hp, ?_⟩
  unfold markW
  rw [List.getD_eq_getElem?_getD, List.getElem?_eq_getElem hp]; rfl
end My

namespace My
open PySem L2
def spWInit (C : Addr) : Sp := fun vs H Q _ => ∃ (y dy x : Addr), vs = [.ref y, .ref x] ∧ H y = some (.ins C dy []) ∧ ∀ l m H', But y H H' → H l = none → H m = none → Wb C H' y x l m [] → Q .non H'
def spWHas (C : Addr) : Sp := fun vs H Q _ => ∃ (y x l m : Addr) (p : Int) (ts : List Th), vs = [.ref y, .int p] ∧ Wb C H y x l m ts ∧ Q (.bl (decide (inW ts p))) H
def spWLen (C : Addr) : Sp := fun vs H Q _ => ∃ (y x l m : Addr) (ts : List Th), vs = [.ref y] ∧ Wb C H y x l m ts ∧ Q (.int ts.length) H
def spWGet (C X : Addr) : Sp := fun vs H Q E => ∃ (y x l m : Addr) (p : Int) (ts : List Th), vs = [.ref y, .int p] ∧ Wb C H y x l m ts ∧
  (∀ q pp t, inW ts p → ts[p.toNat]? = some t → H q = some (.tup [.str t.1, .ref pp]) → H pp = some (.tup (t.2.map V.int)) → Q (.ref q) H) ∧ (¬ inW ts p → ErrS X "thing" (.int p) H E)
def spWMark (C X : Addr) : Sp := fun vs H Q E => ∃ (y x l m : Addr) (p : Int) (ts : List Th), vs = [.ref y, .int p] ∧ Wb C H y x l m ts ∧ (inW ts p → Q (.str (markW ts p)) H) ∧ (¬ inW ts p → ErrS X "thing" (.int p) H E)
theorem ths_at {H : Hp} {vs : List V} {ts : List Th} (h : ThsV H vs ts) {p : Int} (i : inW ts p) : ∃ q pp t, atI vs p = some (.ref q) ∧ ts[p.toNat]? = some t ∧ H q = some (.tup [.str t.1, .ref pp]) ∧ H pp = some (.tup (t.2.map V.int)) := by
  unfold inW at i
  have l := pair_len' h
  have hp : p.toNat < vs.length := by omega
  obtain ⟨t, ht, q, pp, e, a, b⟩ := pair_get' h (List.getElem?_eq_getElem hp)
  refine ⟨q, pp, t, at_of (j := p.toNat) (by omega) (by rw [List.getElem?_eq_getElem hp, e]), ht, a, b⟩
section
variable {w : World} {K : PySem.W.Frag} {mg : Str → Option Value} {base : Heap}
theorem ok_Web_init (T : Txt K mg) : FnOk PP w K mg base CX0 1 T.a_Web_init T.fd_Web_init ["self", "shape"] (spWInit T.c_Web) := by
  refine T.F_Web_init.ok sc_Web_init (fun vs H Q E h => ?_) (fun cdv A outer s H vs Q E hr h => ?_)
  · obtain ⟨y, dy, x, rfl, _⟩ := h; rfl
  · obtain ⟨y, dy, x, rfl, hy, q⟩ := h
    refine ⟨_, (pss_cons (ps_fld (pv 0) (pv 1) rfl)
      (pss_cons (ps_fld (pv 0) (pe_lst pa_nil) rfl)
      (pss_one (ps_fld (pv 0) (pe_lst pa_nil) rfl)))), ?_⟩
    refine ⟨_, rfl, _, rfl, y, _, dy, _, rfl, hy, T.cl_Web, T.no_Web_shape, by show 0 < 1000; decide, ?_⟩
    refine ⟨Nat.zero_le _, fun l hl => ⟨_, rfl, y, _, dy, _, rfl, same_new hl _ _ upd_same, T.cl_Web, T.no_Web__rows, by show 1 < 1000; decide, ?_⟩⟩
    have nly : l ≠ y := fun e => by rw [e, upd_same] at hl; cases hl
    have nl0 : H l = none := by rw [upd_ne nly] at hl; exact hl
    refine ⟨Nat.zero_le _, fun m hm => ⟨_, rfl, y, _, dy, _, rfl, same_new hm _ _ upd_same, T.cl_Web, T.no_Web__numbers, by show 2 < 1000; decide, ?_⟩⟩
    have nmy : m ≠ y := fun e => by rw [e, upd_same] at hm; cases hm
    have nml : m ≠ l := fun e => by rw [e, upd_ne nly, upd_same] at hm; cases hm
    have nm0 : H m = none := by rw [upd_ne nmy, upd_ne nml, upd_ne nmy] at hm; exact hm
    refine q l m _ (fun b o n h => ?_) nl0 nm0 ⟨⟨dy, upd_same⟩, ⟨[], ?_, .nil⟩, ?_, nml.symm⟩
    · rw [upd_ne n, upd_ne (ne_of_none h nm0), upd_ne n, upd_ne (ne_of_none h nl0), upd_ne n]; exact h
    · rw [upd_ne nly, upd_ne nml.symm, upd_ne nly, upd_same]
    · rw [upd_ne nmy, upd_same]; rfl
theorem ok_Web_contains (T : Txt K mg) : FnOk PP w K mg base CX0 1 T.a_Web_contains T.fd_Web_contains ["self", "thing"] (spWHas T.c_Web) := by
  refine T.F_Web_contains.ok sc_Web_contains (fun vs H Q E h => ?_) (fun cdv A outer s H vs Q E hr h => ?_)
  · obtain ⟨y, x, l, m, p, ts, rfl, _⟩ := h; rfl
  · obtain ⟨y, x, l, m, p, ts, rfl, hw, q⟩ := h
    obtain ⟨⟨dy, hy⟩, ⟨us, hl, hu⟩, hm, ne⟩ := id hw
    refine ⟨_, (pss_one (ps_ret (pe_chain op_le op_lt (pe_int) (pv 1) (pe_callB call_len_seq (by rfl) T.n_len (by decide +kernel) (pa_cons (pe_fld (pv 0) rfl) pa_nil))))), ?_⟩
    have lu := pair_len' hu
    refine ⟨_, rfl, _, _, rfl, rfl, _, rfl, iteD (fun c => ?_) (fun c => ?_)⟩
    · refine ⟨_, rfl, y, _, dy, _, _, rfl, hy, T.cl_Web, T.no_Web__rows, wb_look2 x l m, l, _, rfl, .inl (SqL.of hl), _, _, rfl, rfl, ?_⟩
      rw [lu]
      rw [show decide (inW ts p) = decide (p < (ts.length : Int)) from decide_eq_decide.mpr ⟨fun h => h.2, fun h => ⟨c, h⟩⟩] at q
      exact q
    · rw [decide_eq_false (fun h => c h.1)] at q
      exact q
theorem ok_Web_getitem (T : Txt K mg) : FnOk PP w K mg base (L2.CX PP w) 3 T.a_Web_getitem T.fd_Web_getitem ["self", "thing"] (spWGet T.c_Web T.c_NoThing) := by
  refine T.F_Web_getitem.okX sc_Web_getitem (fun vs H Q E h => ?_) (fun cdv A outer s H vs Q E hr h => ?_)
  · obtain ⟨y, x, l, m, p, ts, rfl, _⟩ := h; rfl
  · obtain ⟨y, x, l, m, p, ts, rfl, hw, q, qx⟩ := h
    obtain ⟨⟨dy, hy⟩, ⟨us, hl, hu⟩, hm, ne⟩ := id hw
    refine ⟨_, (pss_cons (ps_if (pt_cmpR (op_ninI T.m_Web_contains (ok_Web_contains T) (hr.mono (by omega)) T.b_Web_contains pass0) (pv 1) (pv 0) (by with_unfolding_all rfl)) (pss_one (ps_raiseX rfl T.x_NoThing hr (takes_of rfl rfl rfl rfl) (pa_cons (pv 1) pa_nil))) pss_nil)
      (pss_one (ps_ret (pe_ix ix_list (pe_fld (pv 0) rfl) (pv 1) (fun _ _ => rfl))))), ?_⟩
    refine ⟨_, rfl, _, rfl, y, dy, _, rfl, hy, y, x, l, m, p, ts, rfl, hw, _, rfl, _, rfl, ?_⟩
    by_cases c : inW ts p
    · refine iteNo (by show (!decide (inW ts p)) = false; rw [decide_eq_true c]; rfl) ?_
      obtain ⟨q', pp, t, h1, h2, h3, h4⟩ := ths_at hu c
      exact ⟨_, rfl, y, _, dy, _, _, rfl, hy, T.cl_Web, T.no_Web__rows, wb_look2 x l m, _, rfl, _, _, _, _, rfl, rfl, SqL.of hl, h1, q q' pp t c h2 h3 h4⟩
    · refine iteYes (by show (!decide (inW ts p)) = true; rw [decide_eq_false c]; rfl) ?_
      exact ⟨_, rfl, _, rfl, fun d hd => qx c _ d (same_new hd) hd upd_same⟩
theorem ok_Web_mark_of (T : Txt K mg) : FnOk PP w K mg base (L2.CX PP w) 5 T.a_Web_mark_of T.fd_Web_mark_of ["self", "thing"] (spWMark T.c_Web T.c_NoThing) := by
  refine T.F_Web_mark_of.okX sc_Web_mark_of (fun vs H Q E h => ?_) (fun cdv A outer s H vs Q E hr h => ?_)
  · obtain ⟨y, x, l, m, p, ts, rfl, _⟩ := h; rfl
  · obtain ⟨y, x, l, m, p, ts, rfl, hw, q, qx⟩ := h
    obtain ⟨dy, hy⟩ := hw.obj
    refine ⟨_, (pss_one (ps_ret (pe_ix ix_tup (pe_getI T.m_Web_getitem T.fi_Web_getitem (ok_Web_getitem T) (hr.mono (by omega)) T.b_Web_getitem (passes_call (takes_of rfl rfl rfl rfl) (fun _ _ _ _ h => h)) (pv 0) (pv 1)) (pe_int) (fun _ _ => rfl)))), ?_⟩
    refine ⟨_, rfl, _, rfl, y, dy, _, rfl, hy, y, x, l, m, p, ts, rfl, hw, fun q' pp t i h1 h2 h3 => ?_, qx⟩
    refine ⟨_, _, _, _, rfl, rfl, SqT.of h2, atI_nat (j := 0) rfl, ?_⟩
    obtain ⟨t', e1, e2⟩ := inW_get i
    rw [h1] at e1
    obtain rfl := Option.some.inj e1
    have := q i
    rw [e2] at this
    exact this
end
end My

namespace My
open PySem L2
inductive PErr where
  | unk (z : Str)
  | no (p : Int)
  | bad (z : Str)
  | large
inductive PDue (rs : List Row) (ts : List Th) (z : Str) (ps : List Int) : PErr → Prop
  | unk : findR rs z = none → PDue rs ts z ps (.unk z)
  | no {r : Row} {i : Nat} {p : Int} : findR rs z = some r → ps[i]? = some p → (∀ q ∈ ps.take i, inW ts q) → ¬ inW ts p → PDue rs ts z ps (.no p)
  | bad {r : Row} : findR rs z = some r → (∀ q ∈ ps, inW ts q) → suitB ts r ps = false → PDue rs ts z ps (.bad z)
  | large {r : Row} : findR rs z = some r → (∀ q ∈ ps, inW ts q) → suitB ts r ps = true → 1000 ≤ ts.length → PDue rs ts z ps .large
structure PGood (rs : List Row) (ts : List Th) (z : Str) (ps : List Int) : Prop where
  row : ∃ r, findR rs z = some r ∧ suitB ts r ps = true
  inw : ∀ q ∈ ps, inW ts q
  room : ts.length < 1000
def PErrIs (UM NT BP TL : Addr) : PErr → Addr → V → Str → Prop
  | .unk z, c, v, f => c = UM ∧ v = .str z ∧ f = "mark"
  | .no p, c, v, f => c = NT ∧ v = .int p ∧ f = "thing"
  | .bad z, c, v, f => c = BP ∧ v = .str z ∧ f = "mark"
  | .large, c, v, f => c = TL ∧ v = .int 1000 ∧ f = "most"
def spSuit (C : Addr) : Sp := fun vs H Q _ => ∃ (y x l m p pp q : Addr) (r : Row) (ps : List Int) (ts : List Th), vs = [.ref y, .ref p, .ref q] ∧ Wb C H y x l m ts ∧ H p = some (.tup (rowL r pp)) ∧ H pp = some (.tup (r.pars.map V.str)) ∧ H q = some (.tup (ps.map V.int)) ∧ (∀ i ∈ ps, inW ts i) ∧
  ∀ H', Same H H' → Q (.bl (suitB ts r ps)) H'
def spPut (C Cs UM NT BP TL : Addr) : Sp := fun vs H Q E => ∃ (y x l m q : Addr) (z : Str) (rs : List Row) (ps : List Int) (ts : List Th), vs = [.ref y, .str z, .ref q] ∧ Wb C H y x l m ts ∧ ShO Cs H x rs ∧ H q = some (.tup (ps.map V.int)) ∧ ts.length ≤ 1000 ∧
  (PGood rs ts z ps → ∀ H', Le [l, m] H H' → Wb C H' y x l m (ts ++ [(z, ps)]) → Q (.int ts.length) H') ∧
  (∀ e c v f, PDue rs ts z ps e → PErrIs UM NT BP TL e c v f → ∀ H' d, Same H H' → H d = none → H' d = some (.xd [(f, v)]) → E (.ref c) (some d) H')
theorem nodup_int {l : List Int} : l.Nodup ↔ ∀ (j : Nat) (x : Int), l[j]? = some x → x ∉ l.take j := by
  constructor
  · intro h j x hx m
    obtain ⟨i, hi, e⟩ := List.getElem_of_mem m
    rw [List.length_take] at hi
    rw [List.getElem_take] at e
    obtain ⟨hj, e2⟩ := List.getElem?_eq_some_iff.mp hx
    exact List.pairwise_iff_getElem.mp h i j (by omega) hj (by omega) (e.trans e2.symm)
  · intro h
    refine List.pairwise_iff_getElem.mpr fun i j hi hj hij e => h j _ (List.getElem?_eq_getElem hj) ?_
    rw [← e]
    exact List.mem_iff_getElem.mpr ⟨i, by rw [List.length_take]; omega, by rw [List.getElem_take]⟩
theorem nodup_int_succ {xs : List Int} {i : Nat} {y : Int} (h : xs[i]? = some y) (n : (xs.take i).Nodup) (m : y ∉ xs.take i) : (xs.take (i + 1)).Nodup := by
  rw [List.take_succ, h, Option.toList_some, List.nodup_append]
  exact ⟨n, List.nodup_cons.mpr ⟨List.not_mem_nil, List.nodup_nil⟩, fun a ha b hb e => m (by rw [List.mem_singleton] at hb; rw [← hb, ← e]; exact ha)⟩
theorem suit_iff {ts : List Th} {r : Row} {ps : List Int} : suitB ts r ps = true ↔ r.least ≤ (ps.length : Int) ∧ (ps.length : Int) ≤ r.most ∧ ps.Nodup ∧ ∀ p ∈ ps, markW ts p ∈ r.pars := by
  unfold suitB
  simp only [Bool.and_eq_true, decide_eq_true_iff, List.all_eq_true, and_assoc]
theorem nums_app (n : Nat) : numsV n ++ [.int ((n : Nat) : Int)] = numsV (n + 1) := by unfold numsV; rw [List.range_succ, List.map_append]; rfl
section
variable {w : World} {K : PySem.W.Frag} {mg : Str → Option Value} {base : Heap}
theorem ok_suitable (T : Txt K mg) : FnOk PP w K mg base CX0 6 T.a_suitable T.fd_suitable ["web", "row", "parents"] (spSuit T.c_Web) := by
  refine T.F_suitable.ok sc_suitable (fun vs H Q E h => ?_) (fun cdv A outer s H vs Q E hr h => ?_)
  · obtain ⟨y, x, l, m, p, pp, q, r, ps, ts, rfl, _⟩ := h; rfl
  · obtain ⟨y, x, l, m, p, pp, qa, r, ps, ts, rfl, hw, hp, hpp, hq, hin, q⟩ := h
    refine ⟨_, (pss_cons (ps_if (pt_not (pt_chain op_le op_le (pe_ix ix_tup (pv 1) (pe_int) (fun _ _ => rfl)) (pe_callB call_len_seq (by rfl) T.n_len (by decide +kernel) (pa_cons (pv 2) pa_nil)) (pe_ix ix_tup (pv 1) (pe_int) (fun _ _ => rfl)))) (pss_one (ps_ret (pe_bl))) pss_nil)
      (pss_cons (ps_for PassesOwn.never rfl (pi_enumT (by rfl) T.n_enumerate (pa_cons (pv 2) pa_nil)) (pg_tup rfl (pgs_cons (pg_name (i := 3) sc_suitable.nd rfl (.inl rfl)) (pgs_cons (pg_name (i := 4) sc_suitable.nd rfl (.inl rfl)) pgs_nil))) (pss_one (ps_if (PW.pt (pw_or (pt_cmpR op_in_seq (pv 4) (pe_slice sl_tup (pv 2) po_none (po_some (pv 3))) (by with_unfolding_all rfl)) (pw_or1 (pt_cmpR op_notIn_seq (pe_meth (pv 0) T.cl_Web T.m_Web_mark_of ((ok_Web_mark_of T).calm) (hr.mono (by omega)) T.b_Web_mark_of .nil pass0 (pa_cons (pv 4) pa_nil)) (pe_ix ix_tup (pv 1) (pe_int) (fun _ _ => rfl)) (by with_unfolding_all rfl))))) (pss_one (ps_ret (pe_bl))) pss_nil)))
      (pss_one (ps_ret (pe_bl))))), ?_⟩
    have no : ∀ {H'}, (suitB ts r ps = true → False) → Same H H' → Q (.bl false) H' := fun f s => by
      have := q _ s
      rwa [show suitB ts r ps = false from Bool.eq_false_iff.mpr f] at this
    have rf : ∀ H : Hp, Same H H := fun _ _ _ h => h
    obtain ⟨dy, hy⟩ := hw.obj
    refine ⟨_, rfl, _, _, _, _, rfl, rfl, SqT.of hp, atI_nat (j := 2) rfl, _, rfl, qa, _, rfl, .inr (SqT.of hq), _, _, rfl, rfl, _, rfl, ?_⟩
    rw [List.length_map]
    refine iteD (fun c1 => ?_) (fun c1 => ⟨_, rfl, iteYes rfl (no (fun h => c1 (suit_iff.mp h).1) (rf _))⟩)
    refine ⟨_, rfl, _, _, _, _, rfl, rfl, SqT.of hp, atI_nat (j := 3) rfl, _, _, rfl, rfl, _, rfl, iteN (fun c2 => no (fun h => c2 (suit_iff.mp h).2.1) (rf _)) (fun c2 => ?_)⟩
    refine ⟨_, rfl, qa, _, rfl, SqT.of hq, for_enumT (K := K) (a := qa) (xs := ps.map V.int) (fun i σ' H2 => ∃ x3 x4, Same H H2 ∧ σ' = [some (.ref y), some (.ref p), some (.ref qa), x3, x4] ∧ (ps.take i).Nodup ∧ ∀ j ∈ ps.take i, markW ts j ∈ r.pars)
      ⟨_, _, rf _, rfl, List.nodup_nil, fun j h => by rw [List.take_zero] at h; cases h⟩ (fun i σ' H2 _ ⟨_, _, s2, _⟩ => SqT.of (s2 _ _ hq)) ?_ ?_⟩
    · rintro i v σ' H2 Tt hv ⟨x3, x4, s2, rfl, nd, mk⟩ hTt
      obtain ⟨j, hj, rfl⟩ := get_int hv
      have s3 := s2.trans (same_new (o := .tup [.int (i : Nat), .int j]) hTt)
      have hi : i < ps.length := (List.getElem?_eq_some_iff.mp hj).1
      have mj := List.mem_of_getElem? hj
      refine ⟨Tt, _, rfl, .inl (.inl upd_same), rfl, _, _, rfl, _, _, rfl, rfl, ?_⟩
      refine ⟨_, rfl, _, rfl, _, rfl, _, rfl, qa, _, rfl, SqT.of (s3 _ _ hq), ?_, fun c hc => ?_⟩
      · rw [HT.sIx_nat, List.length_map, Nat.min_eq_left (Nat.le_of_lt hi)]
        exact fun h => absurd h.2 (by omega)
      · have s4 := s3.trans (same_new (o := .tup (cutV (ps.map V.int) none (some ((i : Nat) : Int)))) hc)
        have ct : cutV (ps.map V.int) none (some ((i : Nat) : Int)) = (ps.take i).map V.int := by rw [cut_to, List.map_take]
        refine ⟨_, _, rfl, .inr (SqT.of upd_same), rfl, by rw [ct]; exact flat_ints _, ?_⟩
        rw [show (if false = true then !inV (V.int j) (cutV (ps.map V.int) none (some ((i : Nat) : Int))) else inV (V.int j) (cutV (ps.map V.int) none (some ((i : Nat) : Int)))) = decide (j ∈ ps.take i) by rw [if_neg Bool.false_ne_true, ct, in_ints]]
        refine ⟨_, rfl, iteD (fun k => iteT (no (fun h => nodup_int.mp (suit_iff.mp h).2.2.1 i j hj k) s4)) (fun k => ?_)⟩
        refine ⟨_, rfl, y, dy, _, rfl, s4 _ _ hy, rfl, _, rfl, y, x, l, m, j, ts, rfl, hw.same s4, fun _ => ?_, fun n => absurd (hin j mj) n⟩
        refine ⟨_, rfl, _, _, _, _, rfl, rfl, SqT.of (s4 _ _ hp), atI_nat (j := 1) rfl, _, _, rfl, .inr (SqT.of (s4 _ _ hpp)), rfl, flat_strs _, ?_⟩
        rw [in_strs]
        refine ⟨_, rfl, iteN (fun k2 => no (fun h => k2 ((suit_iff.mp h).2.2.2 j mj)) s4) (fun k2 => ?_)⟩
        refine ⟨_, _, s4, rfl, nodup_int_succ hj nd k, fun j' h => ?_⟩
        rw [List.take_succ, hj] at h
        rcases List.mem_append.mp h with h | h
        · exact mk j' h
        · rw [List.mem_singleton.mp h]; exact k2
    rintro σ' H2 ⟨x3, x4, s2, rfl, nd, mk⟩
    rw [List.length_map, List.take_length] at nd mk
    have := q _ s2
    rw [suit_iff.mpr ⟨c1, c2, nd, mk⟩] at this
    exact this
set_option maxHeartbeats 16000000 in
theorem ok_Web_put (T : Txt K mg) : FnR PP w K mg base (L2.CX PP w) 8 T.a_Web_put (spStar 2 (spPut T.c_Web T.c_Shape T.c_UnknownMark T.c_NoThing T.c_BadParents T.c_TooLarge)) := by
  refine Fun.starX (k := 7) (ps := ["self", "mark"]) T.F_Web_put sc_Web_put T.bs_Web_put fun cdv A outer s H vs Q E hr h => ?_
  obtain ⟨y, x, l, m, qa, z, rs, ps, ts, rfl, hw, hS, hq, lts, q, qe⟩ := h
  refine ⟨_, (pss_cons (ps_set (i := 3) sc_Web_put.nd rfl (.inl rfl) (pe_getI T.m_Shape_getitem T.fi_Shape_getitem (ok_Shape_getitem T) (hr.mono (by omega)) T.b_Shape_getitem (passes_call (takes_of rfl rfl rfl rfl) (fun _ _ _ _ h => h)) (pe_fld (pv 0) rfl) (pv 1)))
      (pss_cons (ps_for (passes_of rfl) rfl (pi_tup (pv 2)) (pg_name (i := 4) sc_Web_put.nd rfl (.inl rfl)) (pss_one (ps_if (pt_cmpR (op_ninI T.m_Web_contains (ok_Web_contains T) (hr.mono (by omega)) T.b_Web_contains pass0) (pv 4) (pv 0) (by with_unfolding_all rfl)) (pss_one (ps_raiseX rfl T.x_NoThing hr (takes_of rfl rfl rfl rfl) (pa_cons (pv 4) pa_nil))) pss_nil)))
      (pss_cons (ps_if (pt_not (pt_val (pe_call (ok_suitable T) (hr.mono (by omega)) (by rfl) T.g_suitable T.F_suitable.kp T.b_suitable .nil pass0 (pa_cons (pv 0) (pa_cons (pv 3) (pa_cons (pv 2) pa_nil)))))) (pss_one (ps_raiseX rfl T.x_BadParents hr (takes_of rfl rfl rfl rfl) (pa_cons (pv 1) pa_nil))) pss_nil)
      (pss_cons (ps_if (pt_cmpR op_ge (pe_callB call_len_seq (by rfl) T.n_len (by decide +kernel) (pa_cons (pe_fld (pv 0) rfl) pa_nil)) (ClX.pe_cval (pe_glob (v := .ref T.c_Web) (by rfl) T.g_Web rfl)) (nomark _)) (pss_one (ps_raiseX rfl T.x_TooLarge hr (takes_of rfl rfl rfl rfl) (pa_cons (ClX.pe_cval (pe_glob (v := .ref T.c_Web) (by rfl) T.g_Web rfl)) pa_nil))) pss_nil)
      (pss_cons (ps_set (i := 5) sc_Web_put.nd rfl (.inl rfl) (pe_callB call_len_seq (by rfl) T.n_len (by decide +kernel) (pa_cons (pe_fld (pv 0) rfl) pa_nil)))
      (pss_cons (ps_expr (pe_bm PySem.F.plainAttrs_list PySem.F.slot_list_append PySem.F.type_list_append mt_append (pe_fld (pv 0) rfl) (pa_cons (pe_tup (pa_cons (pv 1) (pa_cons (pe_callTy call_tuple_of (by rfl) T.n_tuple (by decide +kernel) (pa_cons (pv 2) pa_nil)) pa_nil))) pa_nil)))
      (pss_cons (ps_expr (pe_bm PySem.F.plainAttrs_list PySem.F.slot_list_append PySem.F.type_list_append mt_append (pe_fld (pv 0) rfl) (pa_cons (pv 5) pa_nil)))
      (pss_one (ps_ret (pv 5)))))))))), ?_⟩
  have big : 100000 < sizeLine := by decide
  obtain ⟨⟨dy, hy⟩, ⟨us, hl, hu⟩, hm, nlm⟩ := id hw
  obtain ⟨dx, l1, m1, vs1, hx, _⟩ := id hS
  have lu := pair_len' hu
  have rf : ∀ H : Hp, Same H H := fun _ _ _ h => h
  refine ⟨_, rfl, y, _, dy, _, _, rfl, hy, T.cl_Web, T.no_Web_shape, wb_look1 x l m, _, rfl, x, dx, _, rfl, hx, x, z, rs, rfl, hS, fun r p pp hf hp hpp => ?_, fun no H' d s' nd hd => qe (.unk z) _ _ _ (.unk no) ⟨rfl, rfl, rfl⟩ H' d s' nd hd⟩
  refine ⟨_, rfl, qa, rfl, ⟨_, SqT.of hq⟩, for_tup (K := K) (a := qa) (xs := ps.map V.int) (fun i σ H' => ∃ x4, H' = H ∧ σ = [some (.ref y), some (.str z), some (.ref qa), some (.ref p), x4, none] ∧ ∀ j ∈ ps.take i, inW ts j) ⟨_, rfl, rfl, fun j h => by rw [List.take_zero] at h; cases h⟩ (fun i σ H' _ ⟨_, e, _⟩ => SqT.of (by rw [e]; exact hq)) ?_ ?_⟩
  · rintro i v σ H2 hv ⟨x4, rfl, rfl, hin⟩
    obtain ⟨j, hj, rfl⟩ := get_int hv
    refine ⟨_, rfl, _, rfl, y, dy, _, rfl, hy, y, x, l, m, j, ts, rfl, hw, _, rfl, _, rfl, ?_⟩
    by_cases c : inW ts j
    · refine iteNo (by show (!decide (inW ts j)) = false; rw [decide_eq_true c]; rfl) ⟨_, rfl, rfl, fun j' h => ?_⟩
      rw [List.take_succ, hj] at h
      rcases List.mem_append.mp h with h | h
      · exact hin j' h
      · rw [List.mem_singleton.mp h]; exact c
    · refine iteYes (by show (!decide (inW ts j)) = true; rw [decide_eq_false c]; rfl) ?_
      exact ⟨_, rfl, _, rfl, fun d hd => qe (.no j) _ _ _ (.no hf hj hin c) ⟨rfl, rfl, rfl⟩ _ d (same_new hd) hd upd_same⟩
  rintro σ H2 ⟨x4, rfl, rfl, hin⟩
  rw [List.length_map, List.take_length] at hin
  refine ⟨_, rfl, _, rfl, _, rfl, y, x, l, m, p, pp, qa, r, ps, ts, rfl, hw, hp, hpp, hq, hin, fun H3 s3 => ⟨_, rfl, ?_⟩⟩
  cases es : suitB ts r ps with
  | false => exact iteYes rfl ⟨_, rfl, _, rfl, fun d hd => qe (.bad z) _ _ _ (.bad hf hin es) ⟨rfl, rfl, rfl⟩ _ d (s3.trans (same_new hd)) (s3.free hd) upd_same⟩
  | true =>
    refine iteNo rfl ?_
    have hy3 := s3 _ _ hy
    have hl3 := s3 _ _ hl
    refine ⟨_, rfl, y, _, dy, _, _, rfl, hy3, T.cl_Web, T.no_Web__rows, wb_look2 x l m, l, _, rfl, .inl (SqL.of hl3), _, _, _, _, rfl, T.cr_Web, T.cv_Web_MOST, _, _, rfl, rfl, _, rfl, ?_⟩
    rw [lu]
    refine iteD (fun c => ?_) (fun c => ?_)
    · exact ⟨_, _, _, _, rfl, T.cr_Web, T.cv_Web_MOST, _, rfl, fun d hd => qe .large _ _ _ (.large hf hin es (by omega)) ⟨rfl, rfl, rfl⟩ _ d (s3.trans (same_new hd)) (s3.free hd) upd_same⟩
    · refine ⟨_, rfl, y, _, dy, _, _, rfl, hy3, T.cl_Web, T.no_Web__rows, wb_look2 x l m, l, _, rfl, .inl (SqL.of hl3), ?_⟩
      rw [lu]
      refine ⟨_, rfl, y, _, dy, _, _, rfl, hy3, T.cl_Web, T.no_Web__rows, wb_look2 x l m, .inl ⟨rfl, _, SqL.of hl3⟩, _, rfl, _, rfl, qa, _, rfl, .inr ⟨SqT.of (s3 _ _ hq), by show 2 ≤ sizeLine; decide, fun u nu => ?_⟩⟩
      have s4 := s3.trans (same_new (o := .tup [.str z, .ref qa]) nu)
      have hl4 := s4 _ _ hl
      refine ⟨_, _, _, rfl, rfl, hl4, by omega, ?_⟩
      have nly : y ≠ l := ne_of hy hl (by intro z; cases z)
      have nmy : y ≠ m := ne_of hy hm (by intro z; cases z)
      have hy5 : (upd (upd H3 u (.tup [.str z, .ref qa])) l (.lst (us ++ [.ref u]))) y = some (.ins T.c_Web dy [("shape", .ref x), ("_rows", .ref l), ("_numbers", .ref m)]) := by rw [upd_ne nly]; exact s4 _ _ hy
      have hm5 : (upd (upd H3 u (.tup [.str z, .ref qa])) l (.lst (us ++ [.ref u]))) m = some (.lst (numsV ts.length)) := by rw [upd_ne nlm.symm]; exact s4 _ _ hm
      refine ⟨_, rfl, y, _, dy, _, _, rfl, hy5, T.cl_Web, T.no_Web__numbers, wb_look3 x l m, .inl ⟨rfl, _, SqL.of hm5⟩, _, rfl, _, _, _, rfl, rfl, hm5, by unfold numsV; rw [List.length_map, List.length_range]; omega, ?_⟩
      refine ⟨_, rfl, q ⟨⟨r, hf, es⟩, hin, by omega⟩ _ ?_ ⟨⟨dy, by rw [upd_ne nmy]; exact hy5⟩, ⟨us ++ [.ref u], by rw [upd_ne nlm]; exact upd_same, ?_⟩, ?_, nlm⟩⟩
      · exact ((Le.same s4).trans (.upd (by simp))).trans (.upd (by simp))
      · have kp : ∀ a xs, H2 a = some (.tup xs) → (upd (upd (upd H3 u (.tup [.str z, .ref qa])) l (.lst (us ++ [.ref u]))) m (.lst (numsV ts.length ++ [.int ts.length]))) a = some (.tup xs) := fun a xs e => by
          rw [upd_ne (fun z => by rw [z, hm] at e; cases e), upd_ne (fun z => by rw [z, hl] at e; cases e)]; exact s4 _ _ e
        have nul : u ≠ l := ne_of upd_same hl4 (by intro z; cases z)
        have num : u ≠ m := ne_of upd_same (s4 _ _ hm) (by intro z; cases z)
        exact pair_app' (thsV_keep hu kp) (.cons ⟨u, qa, rfl, by rw [upd_ne num, upd_ne nul]; exact upd_same, kp _ _ hq⟩ .nil)
      · rw [upd_same, nums_app, List.length_append]; rfl
end
end My

namespace My
open PySem L2
theorem dn_strs {K : PySem.W.Frag} {x : Addr} {H : Hp} {n : Nat} : ∀ l : List Str, Paired (Dn K x H n) (l.map V.str) (l.map .str)
  | [] => .nil
  | z :: l => .cons (Dn.str z) (dn_strs l)
theorem dn_strL {K : PySem.W.Frag} {x a : Addr} {H : Hp} {n : Nat} {l : List Str} (h : H a = some (.lst (l.map V.str))) (ne : a ≠ x) (hz : l.length ≤ 100000) : Dn K x H (n + 1) (.ref a) (.list (l.map .str)) := Dn.lst ne (SqL.of h) (dn_strs l) (by rw [List.length_map]; exact hz)
theorem dn_strT {K : PySem.W.Frag} {x a : Addr} {H : Hp} {n : Nat} {l : List Str} (h : H a = some (.tup (l.map V.str))) (ne : a ≠ x) (hz : l.length ≤ 100000) : Dn K x H (n + 1) (.ref a) (.tuple (l.map .str)) := Dn.tup ne (SqT.of h) (dn_strs l) (by rw [List.length_map]; exact hz)
theorem dn_row {K : PySem.W.Frag} {x : Addr} {H : Hp} {n : Nat} {r : Row} {p pp : Addr} (hp : H p = some (.tup (rowL r pp))) (hpp : H pp = some (.tup (r.pars.map V.str))) (n1 : p ≠ x) (n2 : pp ≠ x) (hz : r.pars.length ≤ 1000) : Dn K x H (n + 2) (.ref p) (rowD r) :=
  Dn.tup n1 (SqT.of hp) (.cons (Dn.str _) (.cons (dn_strT hpp n2 (by omega)) (.cons (Dn.int _) (.cons (Dn.int _) (.cons (Dn.bl _) .nil))))) (by simp [rowL])
theorem rowsN_leA {F : Addr → Prop} {b : Bool} {H H' : Hp} {vs : List V} {rs : List Row} {A : List Addr} (h : RowsN F b H vs rs) (l : Le A H H') (n : ∀ a, F a → a ∉ A) : RowsN F b H' vs rs := rowsN_le h fun a o f e => l a o (n a f) e
/-- the rows' own addresses are taken -/
theorem rowsN_al {F : Addr → Prop} {b : Bool} {H : Hp} {vs : List V} {rs : List Row} (h : RowsN F b H vs rs) : RowsN (fun a => F a ∧ ∃ o, H a = some o) b H vs rs := L2.Paired.mapP h fun _ _ ⟨p, pp, e, f, g, x, y⟩ => ⟨p, pp, e, ⟨f, _, x⟩, ⟨g, _, y⟩, x, y⟩
def rowDb (b : Bool) (r : Row) : PyData := if b then .list [.str r.mark, .list (r.pars.map .str), .int r.least, .int r.most, .bool r.sh] else rowD r
theorem dn_rowN {K : PySem.W.Frag} {F : Addr → Prop} {x : Addr} {b : Bool} {H : Hp} {n : Nat} {v : V} {r : Row} (h : RowN F b H v r) (nx : ∀ a, F a → a ≠ x) (hz : r.pars.length ≤ 1000) : Dn K x H (n + 2) v (rowDb b r) := by
  obtain ⟨p, pp, rfl, f, g, hp, hpp⟩ := h
  cases b with
  | true =>
    have hp : H p = some (.lst (rowL r pp)) := hp
    have hpp : H pp = some (.lst (r.pars.map V.str)) := hpp
    exact Dn.lst (nx p f) (SqL.of hp) (.cons (Dn.str _) (.cons (dn_strL hpp (nx pp g) (by omega)) (.cons (Dn.int _) (.cons (Dn.int _) (.cons (Dn.bl _) .nil))))) (by simp [rowL])
  | false => exact dn_row hp hpp (nx p f) (nx pp g) hz
theorem dn_rowsN {K : PySem.W.Frag} {F : Addr → Prop} {x a : Addr} {b : Bool} {H : Hp} {vs : List V} {rs : List Row} (h : RowsN F b H vs rs) (ha : H a = some (.lst vs)) (na : a ≠ x) (nx : ∀ a, F a → a ≠ x) (hz : ∀ r ∈ rs, r.pars.length ≤ 1000) (hl : rs.length ≤ 1000) : Dn K x H 3 (.ref a) (.list (rs.map (rowDb b))) := by
  refine Dn.lst na (SqL.of ha) ?_ (by rw [pair_len' h]; omega)
  revert hz
  clear ha hl
  induction h with
  | nil => intro _; exact .nil
  | cons r t ih => intro hz; exact .cons (dn_rowN r nx (hz _ (by simp))) (ih fun q hq => hz q (by simp [hq]))
theorem GoodC.bnd {rs : List Row} (g : GoodC rs) : ∀ r ∈ rs, r.mark.length ≤ 8 ∧ r.pars.length ≤ 6 := fun r hr => by
  obtain ⟨a, _, _, d⟩ := g.row r hr
  unfold isMk at a
  rw [Bool.and_eq_true, decide_eq_true_iff] at a
  have := List.Nodup.length_le_of_subset d (g.pars r hr)
  unfold mks at this
  rw [List.length_map] at this
  have := g.len
  exact ⟨by omega, by omega⟩
end My

namespace L2
open PySem
theorem sl_listK {X : Cx} {K : PySem.W.Frag} (h : X.K = K) : SlR X (rSlL K) := h ▸ sl_list
end L2

namespace My
open PySem L2
/-! ### the rows that _law_rows draws -/
theorem int_at {js : List Int} {i : Int} (h0 : 0 ≤ i) (h1 : i < (js.length : Int)) : ∃ z, atI (js.map V.int) i = some (.int z) ∧ z ∈ js := by
  obtain ⟨v, hv, mv⟩ := at_ok (xs := js.map V.int) h0 (by rw [List.length_map]; exact h1)
  obtain ⟨z, hz, rfl⟩ := List.mem_map.mp mv
  exact ⟨z, hv, hz⟩
def spLRows (K : PySem.W.Frag) : Sp := fun vs H Q _ => ∃ (d t : Addr) (ex : Bool), vs = [.ref d, .ref t, .bl ex] ∧ Dr K H d t ∧
  ∀ (ms : List Str) (prs : List PRow) ws p H', PlanOk ms.length prs → (∀ r ∈ prs, r.most ≤ 3) → 1 ≤ ms.length → ms.length ≤ 3 → ms.Nodup → (∀ m ∈ ms, isMk m = true) → Dr K H' d t → But t H H' → H p = none → H' p = some (.lst ws) → RowsN (New H) true H' ws (prs.map (nameR ms)) → Q (.ref p) H'
theorem nm_take {ms : List Str} (nd : ms.Nodup) {j : Int} {k : Nat} (h0 : 0 ≤ j) (h1 : j < ms.length) (h : nm ms j ∈ ms.take k) : j < (k : Int) := by
  obtain ⟨n, rfl⟩ := Int.eq_ofNat_of_zero_le h0
  have hn : n < ms.length := by omega
  obtain ⟨i, hi, e⟩ := List.getElem_of_mem h
  rw [List.length_take] at hi
  rw [List.getElem_take] at e
  have e2 : nm ms (n : Int) = ms[n] := by unfold nm; rw [List.getD_eq_getElem?_getD, Int.toNat_natCast, List.getElem?_eq_getElem hn]; rfl
  rw [e2] at e
  have := (List.getElem_inj nd).mp e
  omega
theorem nm_mem {ms : List Str} {j : Int} (h0 : 0 ≤ j) (h1 : j < ms.length) : nm ms j ∈ ms := by
  obtain ⟨n, rfl⟩ := Int.eq_ofNat_of_zero_le h0
  have hn : n < ms.length := by omega
  unfold nm; rw [List.getD_eq_getElem?_getD, Int.toNat_natCast, List.getElem?_eq_getElem hn]; exact List.getElem_mem hn
section
variable {P : Program} {w : World} {K : PySem.W.Frag} {mg : Str → Option Value} {base : Heap}
set_option maxHeartbeats 16000000 in
theorem ok__law_rows (T : Txt K mg) : FnOk P w K mg base CX0 4 T.a__law_rows T.fd__law_rows ["_law_draws_here", "_law_at", "_law_exclusive"] (spLRows K) := by
  refine T.F__law_rows.ok sc__law_rows (fun vs H Q E h => ?_) (fun cdv A outer s H vs Q E hr h => ?_)
  · obtain ⟨d, t, ex, rfl, _⟩ := h; rfl
  · obtain ⟨d, t, ex, rfl, D0, q⟩ := h
    refine ⟨_, (pss_cons (ps_set (i := 3) sc__law_rows.nd rfl (.inr rfl) (pe_call (ok__law_marks T) (hr.mono (by omega)) (by rfl) T.g__law_marks T.F__law_marks.kp T.b__law_marks .nil pass0 (pa_cons (pv 0) (pa_cons (pv 1) (pa_cons (pe_ix ix_list (pe_lst (pa_cons (pe_int) (pa_cons (pe_int) (pa_cons (pe_int) pa_nil)))) (pe_call (ok__law_take T) (hr.mono (by omega)) (by rfl) T.g__law_take T.F__law_take.kp T.b__law_take .nil pass0 (pa_cons (pv 0) (pa_cons (pv 1) (pa_cons (pe_int) pa_nil)))) (fun _ _ => rfl)) pa_nil)))))
      (pss_cons (ps_set (i := 4) sc__law_rows.nd rfl (.inl rfl) (pe_lst pa_nil))
      (pss_cons (ps_for PassesOwn.never rfl (pi_range1 (by rfl) T.n_range (pa_cons (pe_callB call_len_seq (by rfl) T.n_len (by decide +kernel) (pa_cons (pv 3) pa_nil)) pa_nil)) (pg_name (i := 5) sc__law_rows.nd rfl (.inr rfl)) (pss_cons (ps_set (i := 6) sc__law_rows.nd rfl (.inr rfl) (pe_ix ix_list (pe_lst (pa_cons (pe_int) (pa_cons (pe_int) (pa_cons (pe_int) (pa_cons (pe_int) (pa_cons (pe_int) (pa_cons (pe_int) (pa_cons (pe_int) (pa_cons (pe_int) (pa_cons (pe_int) pa_nil)))))))))) (pe_call (ok__law_take T) (hr.mono (by omega)) (by rfl) T.g__law_take T.F__law_take.kp T.b__law_take .nil pass0 (pa_cons (pv 0) (pa_cons (pv 1) (pa_cons (pe_int) pa_nil)))) (fun _ _ => rfl)))
      (pss_cons (ps_setLc (i := 7) (own := [("_law_j", 8)]) (g := (gName 8)) (by rfl) sc__law_rows.nd rfl rfl (sw_true rfl rfl rfl (by decide +kernel)) (pi_range1 (by rfl) T.n_range (pa_cons (pe_callB call_len_seq (by rfl) T.n_len (by decide +kernel) (pa_cons (pv 3) pa_nil)) pa_nil)) (blkOk_by (own := [("_law_j", 8)]) (N := ["_law_draws_here", "_law_at", "_law_exclusive", "_law_marks_here", "_law_rows_here", "_law_k", "_law_mask", "_law_parents", "_law_j", "_law_most", "_law_least", "_law_mark", "_law_shared_here"]) (sc := defScope S__law_rows) (by decide +kernel)) (fun _ _ _ _ _ => (pg_name (i := 8) sc__law_rows.nd rfl (by first | exact .inl rfl | exact .inr rfl))) (fun _ _ _ _ _ => (pts_one (pt_cmpR op_eq (pe_op op_mod (pe_op op_fdiv (pv 6) (pe_ix (ixLK (K := K) rfl) (pe_lst (pa_cons (pe_int) (pa_cons (pe_int) (pa_cons (pe_int) pa_nil)))) (pv 8) (fun _ _ => rfl))) (pe_int)) (pe_int) (nomark _)))) (fun _ _ _ _ _ => (pe_ix (ixLK (K := K) rfl) (pv 3) (pv 8) (fun _ _ => rfl))))
      (pss_cons (ps_set (i := 9) sc__law_rows.nd rfl (.inl rfl) (pe_int))
      (pss_cons (ps_set (i := 10) sc__law_rows.nd rfl (.inl rfl) (pe_int))
      (C8.pss_cut (ps_if (pt_cmpR op_gt (pe_callB call_len_seq (by rfl) T.n_len (by decide +kernel) (pa_cons (pv 7) pa_nil)) (pe_int) (nomark _)) (pss_one (ps_set (i := 9) sc__law_rows.nd rfl (.inl rfl) (pe_ix ix_list (pe_lst (pa_cons (pe_int) (pa_cons (pe_int) (pa_cons (pe_int) (pa_cons (pe_int) pa_nil))))) (pe_call (ok__law_take T) (hr.mono (by omega)) (by rfl) T.g__law_take T.F__law_take.kp T.b__law_take .nil pass0 (pa_cons (pv 0) (pa_cons (pv 1) (pa_cons (pe_int) pa_nil)))) (fun _ _ => rfl)))) pss_nil)
      (C8.pss_cut (ps_if (pt_cmpR op_gt (pe_callB call_len_seq (by rfl) T.n_len (by decide +kernel) (pa_cons (pe_lc (own := [("_law_mark", 11)]) (g := (gName 11)) (by rfl) sc__law_rows.nd (pi_list (pv 7)) (blkOk_by (own := [("_law_mark", 11)]) (N := ["_law_draws_here", "_law_at", "_law_exclusive", "_law_marks_here", "_law_rows_here", "_law_k", "_law_mask", "_law_parents", "_law_j", "_law_most", "_law_least", "_law_mark", "_law_shared_here"]) (sc := defScope S__law_rows) (by decide +kernel)) (fun _ _ _ _ _ => (pg_name (i := 11) sc__law_rows.nd rfl (by first | exact .inl rfl | exact .inr rfl))) (fun _ _ _ _ _ => (pts_one (pt_cmpR (inK (K := K) rfl) (pv 11) (pe_slice (sl_listK (K := K) rfl) (pv 3) po_none (po_some (pv 5))) (by with_unfolding_all rfl)))) (fun _ _ _ _ _ => (pv 11))) pa_nil)) (pe_int) (nomark _)) (pss_one (ps_set (i := 10) sc__law_rows.nd rfl (.inl rfl) (pe_ix ix_list (pe_lst (pa_cons (pe_int) (pa_cons (pe_int) (pa_cons (pe_int) (pa_cons (pe_int) pa_nil))))) (pe_call (ok__law_take T) (hr.mono (by omega)) (by rfl) T.g__law_take T.F__law_take.kp T.b__law_take .nil pass0 (pa_cons (pv 0) (pa_cons (pv 1) (pa_cons (pe_int) pa_nil)))) (fun _ _ => rfl)))) pss_nil)
      (C8.pss_cut (ps_if (pt_cmpR op_gt (pv 10) (pv 9) (nomark _)) (pss_one (ps_set (i := 10) sc__law_rows.nd rfl (.inl rfl) (pv 9))) pss_nil)
      (C8.pss_cut (ps_set (i := 12) sc__law_rows.nd rfl (.inl rfl) (pe_and (pe_cmpR op_eq (pe_call (ok__law_take T) (hr.mono (by omega)) (by rfl) T.g__law_take T.F__law_take.kp T.b__law_take .nil pass0 (pa_cons (pv 0) (pa_cons (pv 1) (pa_cons (pe_int) pa_nil)))) (pe_int) (nomark _)) (pe_one (pe_not (pv 2)))))
      (pss_one (ps_expr (pe_bm PySem.F.plainAttrs_list PySem.F.slot_list_append PySem.F.type_list_append mt_append (pv 4) (pa_cons (pe_lst (pa_cons (pe_ix ix_list (pv 3) (pv 5) (fun _ _ => rfl)) (pa_cons (pv 7) (pa_cons (pv 10) (pa_cons (pv 9) (pa_cons (pv 12) pa_nil)))))) pa_nil)))))))))))))
      (pss_one (ps_ret (pv 4)))))), ?_⟩
    have big : 100000 < sizeLine := by decide
    refine ⟨_, rfl, _, rfl, by show 3 ≤ sizeLine; decide, fun u0 nu0 => ?_⟩
    have s0 := same_new (o := .lst [.int 2, .int 1, .int 3]) nu0
    refine ⟨_, rfl, _, rfl, d, t, 3, rfl, D0.same s0, by decide, fun r Ha r0 r1 Da ba => ?_⟩
    obtain ⟨z, hz, mz⟩ := int_at (js := [2, 1, 3]) r0 r1
    obtain ⟨n, rfl, n1, n3⟩ : ∃ n : Nat, z = n ∧ 1 ≤ n ∧ n ≤ 3 := by
      simp only [List.mem_cons, List.not_mem_nil, or_false] at mz
      exact ⟨z.toNat, by omega, by omega, by omega⟩
    refine ⟨_, _, _, _, rfl, rfl, SqL.of (ba _ _ (D0.na nu0) upd_same), hz, ?_⟩
    refine ⟨d, t, n, rfl, Da, by omega, fun ms mk Hb lms nms oms Db bb nmk hmk => ?_⟩
    have tb : But t H Hb := ((But.of_same s0).trans ba).trans bb
    have nmt : mk ≠ t := Da.na nmk
    refine ⟨Nat.zero_le _, fun l hl0 => ?_⟩
    have nlt : l ≠ t := Db.na hl0
    have ndl : d ≠ l := Db.nd hl0
    have nml : mk ≠ l := ne_of_none hmk hl0
    have nl0 : H l = none := tb.free nlt hl0
    have s1 := same_new (o := .lst []) hl0
    refine ⟨_, rfl, mk, _, rfl, .inl (SqL.of (s1 _ _ hmk)), ms.length, by rw [List.length_map], by omega, by omega, for_range (lo := 0) (n := ms.length) (fun k σ H' => ∃ (prs : List PRow) (us : List V) (x5 x6 x7 x9 x10 x12 : Option V), σ = [some (.ref d), some (.ref t), some (.bl ex), some (.ref mk), some (.ref l), x5, x6, x7, none, x9, x10, none, x12] ∧ Dr K H' d t ∧ But t H H' ∧ H' mk = some (.lst (ms.map V.str)) ∧ H' l = some (.lst us) ∧ RowsN (fun a => H a = none ∧ a ≠ l) true H' us (prs.map (nameR ms)) ∧ prs.length = k ∧ ∀ j r, prs[j]? = some r → PrOk ms.length j r ∧ r.most ≤ 3)
      ⟨[], [], _, _, _, _, _, _, rfl, Db.same s1, tb.trans (But.of_same s1), s1 _ _ hmk, upd_same, .nil, rfl, fun j r h => by simp at h⟩ ?_ ?_⟩
    rotate_left
    · rintro σ H2 ⟨prs, us, x5, x6, x7, x9, x10, x12, rfl, D2, b2, hmk2, hl2, pv, lk, ok⟩
      exact ⟨_, rfl, q ms prs us l H2 ⟨lk, fun j r h => (ok j r h).1⟩ (fun r hr => (by obtain ⟨j, hj⟩ := List.mem_iff_getElem?.mp hr; exact (ok j r hj).2)) (by omega) (by omega) nms oms D2 b2 nl0 hl2 (rowsN_sub pv fun a f => f.1)⟩
    rintro k σ H2 hk ⟨prs, us, x5, x6, x7, x9, x10, x12, rfl, D2, b2, hmk2, hl2, pv, lk, ok⟩
    rw [Int.zero_add]
    have up : ∀ {H3 : Hp}, But t H2 H3 → But t H H3 ∧ H3 mk = some (.lst (ms.map V.str)) ∧ H3 l = some (.lst us) ∧ RowsN (fun a => H a = none ∧ a ≠ l) true H3 us (prs.map (nameR ms)) := fun b3 => ⟨b2.trans b3, b3 _ _ nmt hmk2, b3 _ _ nlt hl2, rowsN_le pv fun a o f e => b3 _ _ (D0.na f.1) e⟩
    -- the mask
    refine ⟨by show 9 ≤ sizeLine; decide, fun u1 nu1 => ?_⟩
    have s2 := same_new (o := .lst [.int 7, .int 1, .int 2, .int 3, .int 5, .int 6, .int 7, .int 4, .int 0]) nu1
    refine ⟨_, rfl, _, rfl, d, t, 9, rfl, D2.same s2, by decide, fun r H3 r0 r1 D3 b3 => ?_⟩
    obtain ⟨mask, hmask, _⟩ := int_at (js := [7, 1, 2, 3, 5, 6, 7, 4, 0]) r0 r1
    refine ⟨_, _, _, _, rfl, rfl, SqL.of (b3 _ _ (D2.na nu1) upd_same), hmask, ?_⟩
    have b3 := (But.of_same (a := t) s2).trans b3
    obtain ⟨_, hmk3, _, _⟩ := up b3
    -- the parents
    refine ⟨_, rfl, mk, _, rfl, .inl (SqL.of hmk3), _, rfl, by omega, by rw [List.length_map]; omega, fun D hD => ?_⟩
    rw [List.length_map]
    refine lc_range (lo := 0) (n := ms.length) (fun i H' => ∃ js : List Int, Same H3 H' ∧ H' D = some (.lst ((js.map (nm ms)).map V.str)) ∧ listOk i js) ⟨[], same_new hD, upd_same, List.nodup_nil, fun j h => by cases h⟩ ?_ ?_
    · rintro i H4 hi ⟨js, s4, h4, lo⟩
      rw [Int.zero_add]
      obtain ⟨z, hz, z0, z4⟩ : ∃ z : Int, atI [V.int 1, .int 2, .int 4] ((i : Nat) : Int) = some (.int z) ∧ 0 < z ∧ z ≤ 4 := by
        match i, (show i < 3 by omega) with
        | 0, _ => exact ⟨1, rfl, by decide, by decide⟩
        | 1, _ => exact ⟨2, rfl, by decide, by decide⟩
        | 2, _ => exact ⟨4, rfl, by decide, by decide⟩
      refine ⟨rfl, _, rfl, by show 3 ≤ sizeLine; decide, fun u nu => ?_⟩
      have s5 := s4.trans (same_new (o := .lst [.int 1, .int 2, .int 4]) nu)
      have h5 := same_new (o := .lst [.int 1, .int 2, .int 4]) nu _ _ h4
      have hu : (upd H4 u (.lst [.int 1, .int 2, .int 4])) u = some (.lst [.int 1, .int 2, .int 4]) := upd_same
      revert s5 h5 hu
      generalize upd H4 u (.lst [.int 1, .int 2, .int 4]) = H5
      intro s5 h5 hu
      refine ⟨_, rfl, _, _, _, _, rfl, rfl, SqL.of hu, hz, _, _, rfl, rfl, ⟨z0, by omega⟩, _, _, rfl, rfl, (show (0 : Int) < 2 by decide), rfl, _, rfl, iteD (fun c => ?_) (fun c => ?_)⟩
      · have nd : js.length ≤ i := lst_len lo
        refine ⟨_, rfl, _, rfl, _, _, _, _, rfl, rfl, SqL.of (s5 _ _ hmk3), nm_at (by omega) (by omega), _, h5, by rw [List.length_map, List.length_map]; omega, js ++ [(i : Int)], same_mut s5 hD, by rw [upd_same, List.map_append, List.map_append]; rfl, ?_, ?_⟩
        · rw [List.nodup_append]
          exact ⟨lo.1, by simp, fun a ha b hb e => by rw [List.mem_singleton] at hb; have := lo.2 a ha; omega⟩
        · intro j hj
          rcases List.mem_append.mp hj with hj | hj
          · have := lo.2 j hj; omega
          · rw [List.mem_singleton.mp hj]; omega
      · exact ⟨js, s5, h5, lo.1, fun j hj => by have := lo.2 j hj; omega⟩
    rintro H4 ⟨js, s4, hD4, lo⟩
    have D4 := D3.same s4
    have b4 : But t H2 H4 := b3.trans (But.of_same s4)
    have nDt : D ≠ t := D3.na hD
    obtain ⟨_, _, hl3, _⟩ := up b3
    have nDl : D ≠ l := (ne_of_none hl3 hD).symm
    have nD0 : H D = none := (b2.trans b3).free nDt hD
    have lj := lst_len lo
    have ljs : ((js.map (nm ms)).map V.str).length = js.length := by rw [List.length_map, List.length_map]
    -- most
    refine ⟨fun σ' H' => ∃ (m : Int), σ' = [some (.ref d), some (.ref t), some (.bl ex), some (.ref mk), some (.ref l), some (.int k), some (.int mask), some (.ref D), none, some (.int m), some (.int 0), none, x12] ∧ Dr K H' d t ∧ But t H2 H' ∧ H' D = some (.lst ((js.map (nm ms)).map V.str)) ∧ 0 ≤ m ∧ m ≤ 3 ∧ (0 < m ↔ js ≠ []), ?_, ?_⟩
    · refine ⟨_, rfl, D, _, rfl, .inl (SqL.of hD4), _, _, rfl, rfl, _, rfl, iteD (fun c => ?_) (fun c => ?_)⟩
      · rw [ljs] at c
        refine ⟨by show 4 ≤ sizeLine; decide, fun u nu => ?_⟩
        have s5 := same_new (o := .lst [.int 1, .int 2, .int 3, .int 1]) nu
        refine ⟨_, rfl, _, rfl, d, t, 4, rfl, D4.same s5, by decide, fun r H5 r0 r1 D5 b5 => ?_⟩
        obtain ⟨m, hm, mm⟩ := int_at (js := [1, 2, 3, 1]) r0 r1
        simp only [List.mem_cons, List.not_mem_nil, or_false] at mm
        refine ⟨_, _, _, _, rfl, rfl, SqL.of (b5 _ _ (D4.na nu) upd_same), hm, ?_⟩
        refine ⟨m, rfl, D5, (b4.trans (But.of_same s5)).trans b5, b5 _ _ nDt (s5 _ _ hD4), by omega, by omega, fun _ z => ?_, fun _ => by omega⟩
        rw [z] at c; simp at c
      · rw [ljs] at c
        have e : js = [] := by
          cases js with
          | nil => rfl
          | cons a r => exact absurd (by simp) c
        exact ⟨0, rfl, D4, b4, hD4, Int.le_refl _, by decide, fun z => absurd z (by decide), fun z => absurd e z⟩
    rintro σ' H5 ⟨m, rfl, D5, b5, hD5, m0, m4, mj⟩
    obtain ⟨_, hmk5, _, _⟩ := up b5
    -- least
    refine ⟨fun σ' H' => ∃ (m2 : Int), σ' = [some (.ref d), some (.ref t), some (.bl ex), some (.ref mk), some (.ref l), some (.int k), some (.int mask), some (.ref D), none, some (.int m), some (.int m2), none, x12] ∧ Dr K H' d t ∧ But t H2 H' ∧ H' D = some (.lst ((js.map (nm ms)).map V.str)) ∧ 0 ≤ m2 ∧ (m2 ≠ 0 → ∃ j ∈ js, j < (k : Int)), ?_, ?_⟩
    · refine ⟨_, rfl, D, rfl, ⟨_, SqL.of hD5⟩, fun D' hD' => lc_list (K := K) (a := D) (xs := (js.map (nm ms)).map V.str) (fun i H' => ∃ fs, Same H5 H' ∧ H' D' = some (.lst fs) ∧ fs.length ≤ i ∧ (fs ≠ [] → ∃ j ∈ js, j < (k : Int))) ⟨[], same_new hD', upd_same, Nat.le_refl _, fun h => absurd rfl h⟩ (fun i H' _ ⟨_, s, _⟩ => SqL.of (s _ _ hD5)) ?_ ?_⟩
      · rintro i v H6 hv ⟨fs, s6, h6, lf, pf⟩
        rw [List.getElem?_map, List.getElem?_map] at hv
        obtain ⟨j, hj⟩ : ∃ j, js[i]? = some j := by
          cases e : js[i]? with
          | none => rw [e] at hv; cases hv
          | some j => exact ⟨j, rfl⟩
        rw [hj] at hv
        obtain rfl := Option.some.inj hv
        have mjs := List.mem_of_getElem? hj
        have oj := lo.2 j mjs
        have hi := (List.getElem?_eq_some_iff.mp hj).1
        refine ⟨rfl, _, rfl, _, rfl, _, rfl, _, rfl, mk, _, rfl, SqL.of (s6 _ _ hmk5), fun c hc => ?_⟩
        have ct : cutV (ms.map V.str) none (some ((k : Nat) : Int)) = (ms.take k).map V.str := by rw [cut_to, List.map_take]
        have s7 := s6.trans (same_new (o := .lst (cutV (ms.map V.str) none (some ((k : Nat) : Int)))) hc)
        refine ⟨_, _, rfl, .inl (SqL.of upd_same), rfl, by rw [ct]; exact flat_strs _, ?_⟩
        rw [show (if false = true then !inV (V.str (nm ms j)) (cutV (ms.map V.str) none (some ((k : Nat) : Int))) else inV (V.str (nm ms j)) (cutV (ms.map V.str) none (some ((k : Nat) : Int)))) = decide (nm ms j ∈ ms.take k) by rw [if_neg Bool.false_ne_true, ct, in_strs]]
        refine ⟨_, rfl, iteD (fun m => ?_) (fun m => ?_)⟩
        · exact ⟨_, rfl, _, (same_new hc _ _ h6), by omega, fs ++ [.str (nm ms j)], same_mut s7 hD', upd_same, by rw [List.length_append]; simp; omega, fun _ => ⟨j, mjs, nm_take nms oj.1 oj.2 m⟩⟩
        · exact ⟨fs, s7, same_new hc _ _ h6, by omega, pf⟩
      · rintro H6 ⟨fs, s6, h6, lf, pf⟩
        refine ⟨D', _, rfl, .inl (SqL.of h6), _, _, rfl, rfl, _, rfl, iteD (fun c => ?_) (fun c => ?_)⟩
        · have ex2 := pf fun z => by rw [z] at c; simp at c
          have D6 := D5.same s6
          refine ⟨by show 4 ≤ sizeLine; decide, fun u hu => ?_⟩
          have s7 := same_new (o := .lst [.int 0, .int 0, .int 1, .int 2]) hu
          refine ⟨_, rfl, _, rfl, d, t, 4, rfl, D6.same s7, by decide, fun r H8 r0 r1 D8 b8 => ?_⟩
          obtain ⟨m2, hm2, mm2⟩ := int_at (js := [0, 0, 1, 2]) r0 r1
          simp only [List.mem_cons, List.not_mem_nil, or_false] at mm2
          refine ⟨_, _, _, _, rfl, rfl, SqL.of (b8 _ _ (D6.na hu) upd_same), hm2, ?_⟩
          exact ⟨m2, rfl, D8, ((b5.trans (But.of_same s6)).trans (But.of_same s7)).trans b8, b8 _ _ nDt (s7 _ _ (s6 _ _ hD5)), by omega, fun _ => ex2⟩
        · exact ⟨0, rfl, D5.same s6, b5.trans (But.of_same s6), s6 _ _ hD5, Int.le_refl _, fun z => absurd rfl z⟩
    rintro σ' H6 ⟨m2, rfl, D6, b6, hD6, z0, zl⟩
    refine ⟨fun σ' H' => ∃ (m3 : Int), H' = H6 ∧ σ' = [some (.ref d), some (.ref t), some (.bl ex), some (.ref mk), some (.ref l), some (.int k), some (.int mask), some (.ref D), none, some (.int m), some (.int m3), none, x12] ∧ 0 ≤ m3 ∧ m3 ≤ m ∧ (m3 ≠ 0 → ∃ j ∈ js, j < (k : Int)), ?_, ?_⟩
    · refine ⟨_, rfl, _, rfl, _, _, rfl, rfl, _, rfl, iteD (fun c => ?_) (fun c => ?_)⟩
      · exact ⟨_, rfl, m, rfl, rfl, m0, Int.le_refl _, fun _ => zl (by omega)⟩
      · exact ⟨m2, rfl, rfl, z0, by omega, zl⟩
    rintro σ' H7 ⟨m3, rfl, rfl, z0, z1, zl⟩
    refine ⟨fun σ' H' => ∃ (sh : Bool), σ' = [some (.ref d), some (.ref t), some (.bl ex), some (.ref mk), some (.ref l), some (.int k), some (.int mask), some (.ref D), none, some (.int m), some (.int m3), none, some (.bl sh)] ∧ Dr K H' d t ∧ But t H2 H' ∧ H' D = some (.lst ((js.map (nm ms)).map V.str)), ?_, ?_⟩
    · refine ⟨_, rfl, _, rfl, d, t, 3, rfl, D6, by decide, fun r H8 _ _ D8 b8 => ⟨rfl, _, rfl, ?_⟩⟩
      have e8 := b8 _ _ nDt hD6
      exact iteD (fun _ => ⟨_, rfl, _, rfl, _, rfl, D8, b6.trans b8, e8⟩) (fun _ => ⟨_, rfl, D8, b6.trans b8, e8⟩)
    rintro σ' H8 ⟨sh, rfl, D8, b8, hD8⟩
    obtain ⟨b8', hmk8, hl8, pv8⟩ := up b8
    refine ⟨_, rfl, .inl ⟨rfl, _, SqL.of hl8⟩, _, rfl, _, rfl, _, _, _, _, rfl, rfl, SqL.of hmk8, nm_at (by omega) (by omega), _, rfl, _, rfl, _, rfl, _, rfl, by show 5 ≤ sizeLine; decide, fun u hu => ?_⟩
    have s9 := same_new (o := .lst [.str (nm ms (k : Nat)), .ref D, .int m3, .int m, .bl sh]) hu
    have nul : l ≠ u := ne_of_none hl8 hu
    have nut := D8.na hu
    have nu0' : H u = none := b8'.free nut hu
    have lus : us.length = k := by rw [pair_len' pv, List.length_map, lk]
    refine ⟨_, _, _, rfl, rfl, s9 _ _ hl8, by omega, ?_⟩
    refine ⟨prs ++ [⟨k, js, m3, m, sh⟩], us ++ [.ref u], _, _, _, _, _, _, rfl, (D8.same s9).other But.upd ndl nlt.symm, (b8'.trans (But.of_same s9)).mut nl0, by rw [upd_ne nml]; exact s9 _ _ hmk8, upd_same, ?_, by rw [List.length_append, lk]; rfl, ?_⟩
    · rw [List.map_append]
      refine pair_app' (rowsN_le pv8 fun a o f e => by rw [upd_ne f.2]; exact s9 _ _ e) (.cons ⟨u, D, rfl, ⟨nu0', nul.symm⟩, ⟨nD0, nDl⟩, ?_, ?_⟩ .nil)
      · rw [upd_ne nul.symm]; exact upd_same
      · rw [upd_ne nDl]; exact s9 _ _ hD8
    · intro j r h
      rw [List.getElem?_append] at h
      split at h
      · exact ok j r h
      · rename_i c
        rw [lk] at h c
        obtain rfl : j = k := by
          have := (List.getElem?_eq_some_iff.mp h).1
          simp at this; omega
        simp at h
        subst h
        exact ⟨⟨rfl, lo, z0, z1, by show m ≤ 4; omega, mj, zl⟩, m4⟩
end
end My

namespace My
open PySem L2
/-! ### things that fit: _law_next -/
def MtN (A : List Addr) (H : Hp) (v : V) (th : Th) : Prop := ∃ p pp, v = .ref p ∧ p ∉ A ∧ pp ∉ A ∧ H p = some (.lst [.str th.1, .ref pp]) ∧ H pp = some (.lst (th.2.map V.int))
abbrev MtsN (A : List Addr) (H : Hp) (vs : List V) (ts : List Th) : Prop := Paired (MtN A H) vs ts
theorem MtN.le {A : List Addr} {H H' : Hp} {v : V} {t : Th} (h : MtN A H v t) (l : Le A H H') : MtN A H' v t := let ⟨p, pp, e, a, b, x, y⟩ := h; ⟨p, pp, e, a, b, l _ _ a x, l _ _ b y⟩
theorem mtsN_le {A : List Addr} {H H' : Hp} {vs : List V} {ts : List Th} (h : MtsN A H vs ts) (l : Le A H H') : MtsN A H' vs ts := L2.Paired.mapP h fun _ _ x => x.le l
theorem mt_at {A : List Addr} {H : Hp} {us : List V} {ts : List Th} (h : MtsN A H us ts) {p : Int} (i : inW ts p) : ∃ q pp, atI us p = some (.ref q) ∧ q ∉ A ∧ pp ∉ A ∧ H q = some (.lst [.str (markW ts p), .ref pp]) := by
  obtain ⟨t, ht, em⟩ := inW_get i
  have l := pair_len' h
  have hp : p.toNat < us.length := by unfold inW at i; omega
  obtain ⟨t', ht', q, pp, e, a, b, x, _⟩ := pair_get' h (List.getElem?_eq_getElem hp)
  rw [ht] at ht'
  obtain rfl := Option.some.inj ht'
  refine ⟨q, pp, at_of (j := p.toNat) (by unfold inW at i; omega) (by rw [List.getElem?_eq_getElem hp, e]), a, b, by rw [em]; exact x⟩
theorem good_find {rs : List Row} (g : Good rs) {i : Nat} {r : Row} (h : rs[i]? = some r) : findR rs r.mark = some r := findR_at h rfl fun q hq e => (fineB_iff.mp (g.fine i r h)).2 (e ▸ List.mem_map.mpr ⟨q, hq, rfl⟩)
def ableN (ts : List Th) (r : Row) (i : Nat) : List Int := ((List.range i).map fun j => ((j : Nat) : Int)).filter fun j => decide (markW ts j ∈ r.pars)
theorem ableN_succ (ts : List Th) (r : Row) (i : Nat) : ableN ts r (i + 1) = ableN ts r i ++ if markW ts (i : Nat) ∈ r.pars then [((i : Nat) : Int)] else [] := by
  unfold ableN
  rw [List.range_succ, List.map_append, List.filter_append]
  congr 1
  simp [List.filter_cons]
theorem ableN_len (ts : List Th) (r : Row) (i : Nat) : (ableN ts r i).length ≤ i := by
  have := List.length_filter_le (fun j => decide (markW ts j ∈ r.pars)) ((List.range i).map fun j => ((j : Nat) : Int))
  rw [List.length_map, List.length_range] at this
  exact this
theorem ableN_mem {ts : List Th} {r : Row} {i : Nat} {j : Int} (h : j ∈ ableN ts r i) : 0 ≤ j ∧ j < i ∧ markW ts j ∈ r.pars := by
  obtain ⟨h1, h2⟩ := List.mem_filter.mp h
  obtain ⟨k, hk, rfl⟩ := List.mem_map.mp h1
  have := List.mem_range.mp hk
  exact ⟨by omega, by omega, of_decide_eq_true h2⟩
theorem ableN_nd (ts : List Th) (r : Row) (i : Nat) : (ableN ts r i).Nodup := by
  refine List.Pairwise.filter _ (List.pairwise_map.mpr (List.Pairwise.imp (fun {a b} h e => h (by omega)) List.nodup_range))
theorem able_n {K : PySem.W.Frag} {A : List Addr} {x0 x1 x2 x3 x5 x7 x8 x9 x10 x11 x12 : Option V} {M p pp : Addr} {us : List V} {ts : List Th} {r : Row} {H : Hp} {Q : VK} (hM : H M = some (.lst us)) (mM : MtsN A H us ts) (hp : H p = some (.lst (rowL r pp))) (hpp : H pp = some (.lst (r.pars.map V.str))) (lu : us.length ≤ 1000)
    (q : ∀ D H', Same H H' → H D = none → H' D = some (.lst ((ableN ts r ts.length).map V.int)) → Q (.ref D) H') :
    tLc (iRng1 (tCons (tCB (fun xs H Q => ∃ p ys, xs = [V.ref p] ∧ (SqL K H p ys ∨ SqT K H p ys) ∧ Q (.int ((ys.length : Nat) : Int)) H) (tCons (tVar 3) tNil)) tNil)) (gName 6) (tTest (tOp (rIn K false) (tOp (rIxL K) (tOp (rIxL K) (tVar 3) (tVar 6)) (tC (.int 0))) (tOp (rIxL K) (tVar 4) (tC (.int 1))))) (tVar 6) [6]
      [x0, x1, x2, some (.ref M), some (.ref p), x5, none, x7, x8, x9, x10] H Q := by
  have big : 100000 < sizeLine := by decide
  have lts := pair_len' mM
  refine ⟨_, rfl, M, _, rfl, .inl (SqL.of hM), _, rfl, by omega, by omega, fun D hD => lc_range (lo := 0) (n := us.length) (fun i H' => Same H H' ∧ H' D = some (.lst ((ableN ts r i).map V.int))) ⟨same_new hD, upd_same⟩ ?_ ?_⟩
  · rintro i H1 hi ⟨s1, h1⟩
    rw [Int.zero_add]
    obtain ⟨b, bp, ha, _, _, hb⟩ := mt_at mM (p := (i : Nat)) ⟨by omega, by omega⟩
    refine ⟨rfl, _, rfl, _, rfl, _, _, _, _, rfl, rfl, SqL.of (s1 _ _ hM), ha, _, _, _, _, rfl, rfl, SqL.of (s1 _ _ hb), atI_nat (j := 0) rfl, _, rfl, _, _, _, _, rfl, rfl, SqL.of (s1 _ _ hp), atI_nat (j := 1) rfl, _, _, rfl, .inl (SqL.of (s1 _ _ hpp)), rfl, flat_strs _, ?_⟩
    rw [in_strs]
    have ln := ableN_len ts r i
    refine ⟨_, rfl, iteD (fun c => ?_) (fun c => ⟨s1, by rw [ableN_succ, if_neg c, List.append_nil]; exact h1⟩)⟩
    exact ⟨_, rfl, _, h1, by rw [List.length_map]; omega, same_mut s1 hD, by rw [upd_same, ints_app, ableN_succ, if_pos c]⟩
  · rintro H1 ⟨s1, h1⟩
    rw [lts] at h1
    exact q D H1 s1 hD h1
theorem able_t {K : PySem.W.Frag} {A : List Addr} {x0 x1 x2 x3 x5 x7 x8 x9 x10 x11 x12 : Option V} {M p pp : Addr} {us : List V} {ts : List Th} {r : Row} {H : Hp} {Q : VK} (hM : H M = some (.lst us)) (mM : MtsN A H us ts) (hp : H p = some (.lst (rowL r pp))) (hpp : H pp = some (.lst (r.pars.map V.str))) (lu : us.length ≤ 1000)
    (q : ∀ D H', Same H H' → H D = none → H' D = some (.lst ((ableN ts r ts.length).map V.int)) → Q (.ref D) H') :
    tLc (iRng1 (tCons (tCB (fun xs H Q => ∃ p ys, xs = [V.ref p] ∧ (SqL K H p ys ∨ SqT K H p ys) ∧ Q (.int ((ys.length : Nat) : Int)) H) (tCons (tVar 4) tNil)) tNil)) (gName 8) (tTest (tOp (rIn K false) (tOp (rIxL K) (tOp (rIxL K) (tVar 4) (tVar 8)) (tC (.int 0))) (tOp (rIxL K) (tVar 6) (tC (.int 1))))) (tVar 8) [8]
      [x0, x1, x2, x3, some (.ref M), x5, some (.ref p), x7, x8, x9, x10, x11, x12] H Q := by
  have big : 100000 < sizeLine := by decide
  have lts := pair_len' mM
  refine ⟨_, rfl, M, _, rfl, .inl (SqL.of hM), _, rfl, by omega, by omega, fun D hD => lc_range (lo := 0) (n := us.length) (fun i H' => Same H H' ∧ H' D = some (.lst ((ableN ts r i).map V.int))) ⟨same_new hD, upd_same⟩ ?_ ?_⟩
  · rintro i H1 hi ⟨s1, h1⟩
    rw [Int.zero_add]
    obtain ⟨b, bp, ha, _, _, hb⟩ := mt_at mM (p := (i : Nat)) ⟨by omega, by omega⟩
    refine ⟨rfl, _, rfl, _, rfl, _, _, _, _, rfl, rfl, SqL.of (s1 _ _ hM), ha, _, _, _, _, rfl, rfl, SqL.of (s1 _ _ hb), atI_nat (j := 0) rfl, _, rfl, _, _, _, _, rfl, rfl, SqL.of (s1 _ _ hp), atI_nat (j := 1) rfl, _, _, rfl, .inl (SqL.of (s1 _ _ hpp)), rfl, flat_strs _, ?_⟩
    rw [in_strs]
    have ln := ableN_len ts r i
    refine ⟨_, rfl, iteD (fun c => ?_) (fun c => ⟨s1, by rw [ableN_succ, if_neg c, List.append_nil]; exact h1⟩)⟩
    exact ⟨_, rfl, _, h1, by rw [List.length_map]; omega, same_mut s1 hD, by rw [upd_same, ints_app, ableN_succ, if_pos c]⟩
  · rintro H1 ⟨s1, h1⟩
    rw [lts] at h1
    exact q D H1 s1 hD h1
def spLNext (K : PySem.W.Frag) : Sp := fun vs H Q _ => ∃ (d t R M : Addr) (rs : List Row) (ws us : List V) (ts : List Th), vs = [.ref d, .ref t, .ref R, .ref M] ∧ Dr K H d t ∧ H R = some (.lst ws) ∧ R ≠ t ∧ RowsN (fun a => a ≠ t) true H ws rs ∧ 1 ≤ ws.length ∧ GoodC rs ∧ (∀ r, rs[0]? = some r → r.least = 0) ∧ (∀ r ∈ rs, r.most ≤ 3) ∧ H M = some (.lst us) ∧ M ≠ t ∧ MtsN [t] H us ts ∧ us.length ≤ 990 ∧
  ∀ (z : Str) (ps : List Int) q pa H', PGood rs ts z ps → ps.length ≤ 3 → z.length ≤ 8 → Dr K H' d t → But t H H' → H q = none → H' q = some (.lst [.str z, .ref pa]) → H pa = none → H' pa = some (.lst (ps.map V.int)) → Q (.ref q) H'
theorem row_ne_ints {H : Hp} {p q : Addr} {r : Row} {c : Addr} {js : List Int} (hp : H p = some (.lst (rowL r c))) (hq : H q = some (.lst (js.map V.int))) : p ≠ q := fun e => by
  rw [e, hq] at hp
  have h := HO.lst.inj (Option.some.inj hp)
  match js, h with
  | _ :: _, h => simp [rowL] at h
theorem perm_pick {α : Type} {cs as l : List α} {i : Nat} {x : α} (h : (cs ++ as).Perm l) (hx : as[i]? = some x) : ((cs ++ [x]) ++ (as.take i ++ as.drop (i + 1))).Perm l := by
  obtain ⟨hi, e⟩ := List.getElem?_eq_some_iff.mp hx
  refine List.Perm.trans ?_ h
  rw [List.append_assoc]
  refine List.Perm.append_left cs ?_
  have e2 : as = as.take i ++ x :: as.drop (i + 1) := by rw [← e, ← List.drop_eq_getElem_cons hi, List.take_append_drop]
  have e3 := (List.perm_middle (a := x) (l₁ := as.take i) (l₂ := as.drop (i + 1))).symm
  rw [← e2] at e3
  exact e3
end My

namespace My
open PySem L2
/-! ### _law_things -/
def ThsOk (rs : List Row) (ts : List Th) : Prop := ∀ k th, ts[k]? = some th → PGood rs (ts.take k) th.1 th.2 ∧ th.2.length ≤ 3 ∧ th.1.length ≤ 8
def spLThings (K : PySem.W.Frag) : Sp := fun vs H Q _ => ∃ (d t R : Addr) (n : Nat) (rs : List Row) (ws : List V), vs = [.ref d, .ref t, .ref R, .int n] ∧ Dr K H d t ∧ H R = some (.lst ws) ∧ R ≠ t ∧ RowsN (fun a => a ≠ t) true H ws rs ∧ 1 ≤ ws.length ∧ GoodC rs ∧ (∀ r, rs[0]? = some r → r.least = 0) ∧ (∀ r ∈ rs, r.most ≤ 3) ∧ n ≤ 900 ∧
  ∀ us ts p H', ThsOk rs ts → ts.length = n → Dr K H' d t → But t H H' → H p = none → H' p = some (.lst us) → MtsN [t] H' us ts → Q (.ref p) H'
theorem ths_app {rs : List Row} {ts : List Th} {th : Th} (h : ThsOk rs ts) (g : PGood rs ts th.1 th.2) (l : th.2.length ≤ 3) (m : th.1.length ≤ 8) : ThsOk rs (ts ++ [th]) := fun k x hx => by
  by_cases c : k < ts.length
  · rw [List.getElem?_append_left c] at hx
    rw [List.take_append_of_le_length (by omega)]
    exact h k x hx
  · have hk : k < (ts ++ [th]).length := (List.getElem?_eq_some_iff.mp hx).1
    rw [List.length_append] at hk
    obtain rfl : k = ts.length := by simp at hk; omega
    rw [List.getElem?_append_right (Nat.le_refl _)] at hx
    simp at hx
    subst hx
    rw [List.take_append_of_le_length (Nat.le_refl _), List.take_length]
    exact ⟨g, l, m⟩
section
variable {P : Program} {w : World} {K : PySem.W.Frag} {mg : Str → Option Value} {base : Heap}
set_option maxHeartbeats 32000000 in
set_option pp.maxSteps 600 in
theorem ok__law_things (T : Txt K mg) : FnOk P w K mg base CX0 3 T.a__law_things T.fd__law_things ["_law_draws_here", "_law_at", "_law_rows_here", "_law_count"] (spLThings K) := by
  refine T.F__law_things.ok sc__law_things (fun vs H Q E h => ?_) (fun cdv A outer s H vs Q E hr h => ?_)
  · obtain ⟨d, t, R, n, rs, ws, rfl, _⟩ := h; rfl
  · obtain ⟨d, t, R, n, rs, ws, rfl, D0, hR, nRt, rR, l1, g, low, m3, hn, q⟩ := h
    refine ⟨_, (pss_cons (ps_set (i := 4) sc__law_things.nd rfl (.inr rfl) (pe_lst pa_nil))
      (pss_cons (ps_for PassesOwn.never rfl (pi_range1 (by rfl) T.n_range (pa_cons (pv 3) pa_nil)) (pg_name (i := 5) sc__law_things.nd rfl (.inl rfl)) (pss_cons (ps_set (i := 6) sc__law_things.nd rfl (.inr rfl) (pe_ix ix_list (pv 2) (pe_call (ok__law_take T) (hr.mono (by omega)) (by rfl) T.g__law_take T.F__law_take.kp T.b__law_take .nil pass0 (pa_cons (pv 0) (pa_cons (pv 1) (pa_cons (pe_callB call_len_seq (by rfl) T.n_len (by decide +kernel) (pa_cons (pv 2) pa_nil)) pa_nil)))) (fun _ _ => rfl)))
      (pss_cons (ps_setLc (i := 7) (own := [("_law_j", 8)]) (g := (gName 8)) (by rfl) sc__law_things.nd rfl rfl (sw_true rfl rfl rfl (by decide +kernel)) (pi_range1 (by rfl) T.n_range (pa_cons (pe_callB call_len_seq (by rfl) T.n_len (by decide +kernel) (pa_cons (pv 4) pa_nil)) pa_nil)) (blkOk_by (own := [("_law_j", 8)]) (N := ["_law_draws_here", "_law_at", "_law_rows_here", "_law_count", "_law_things_here", "_law_k", "_law_row", "_law_able", "_law_j", "_law_most", "_law_size", "_law_chosen", "_law_pick"]) (sc := defScope S__law_things) (by decide +kernel)) (fun _ _ _ _ _ => (pg_name (i := 8) sc__law_things.nd rfl (by first | exact .inl rfl | exact .inr rfl))) (fun _ _ _ _ _ => (pts_one (pt_cmpR (inK (K := K) rfl) (pe_ix (ixLK (K := K) rfl) (pe_ix (ixLK (K := K) rfl) (pv 4) (pv 8) (fun _ _ => rfl)) (pe_int) (fun _ _ => rfl)) (pe_ix (ixLK (K := K) rfl) (pv 6) (pe_int) (fun _ _ => rfl)) (by with_unfolding_all rfl)))) (fun _ _ _ _ _ => (pv 8)))
      (C8.pss_cut (ps_if (pt_cmpR op_lt (pe_callB call_len_seq (by rfl) T.n_len (by decide +kernel) (pa_cons (pv 7) pa_nil)) (pe_ix ix_list (pv 6) (pe_int) (fun _ _ => rfl)) (nomark _)) (pss_cons (ps_set (i := 6) sc__law_things.nd rfl (.inr rfl) (pe_ix ix_list (pv 2) (pe_int) (fun _ _ => rfl)))
      (pss_one (ps_setLc (i := 7) (own := [("_law_j", 8)]) (g := (gName 8)) (by rfl) sc__law_things.nd rfl rfl (sw_true rfl rfl rfl (by decide +kernel)) (pi_range1 (by rfl) T.n_range (pa_cons (pe_callB call_len_seq (by rfl) T.n_len (by decide +kernel) (pa_cons (pv 4) pa_nil)) pa_nil)) (blkOk_by (own := [("_law_j", 8)]) (N := ["_law_draws_here", "_law_at", "_law_rows_here", "_law_count", "_law_things_here", "_law_k", "_law_row", "_law_able", "_law_j", "_law_most", "_law_size", "_law_chosen", "_law_pick"]) (sc := defScope S__law_things) (by decide +kernel)) (fun _ _ _ _ _ => (pg_name (i := 8) sc__law_things.nd rfl (by first | exact .inl rfl | exact .inr rfl))) (fun _ _ _ _ _ => (pts_one (pt_cmpR (inK (K := K) rfl) (pe_ix (ixLK (K := K) rfl) (pe_ix (ixLK (K := K) rfl) (pv 4) (pv 8) (fun _ _ => rfl)) (pe_int) (fun _ _ => rfl)) (pe_ix (ixLK (K := K) rfl) (pv 6) (pe_int) (fun _ _ => rfl)) (by with_unfolding_all rfl)))) (fun _ _ _ _ _ => (pv 8))))) pss_nil)
      (pss_cons (ps_set (i := 9) sc__law_things.nd rfl (.inl rfl) (pe_ix ix_list (pv 6) (pe_int) (fun _ _ => rfl)))
      (C8.pss_cut (ps_if (pt_cmpR op_gt (pv 9) (pe_callB call_len_seq (by rfl) T.n_len (by decide +kernel) (pa_cons (pv 7) pa_nil)) (nomark _)) (pss_one (ps_set (i := 9) sc__law_things.nd rfl (.inl rfl) (pe_callB call_len_seq (by rfl) T.n_len (by decide +kernel) (pa_cons (pv 7) pa_nil)))) pss_nil)
      (pss_cons (ps_set (i := 10) sc__law_things.nd rfl (.inl rfl) (pe_op op_sub (pv 9) (pe_call (ok__law_take T) (hr.mono (by omega)) (by rfl) T.g__law_take T.F__law_take.kp T.b__law_take .nil pass0 (pa_cons (pv 0) (pa_cons (pv 1) (pa_cons (pe_op op_add (pe_op op_sub (pv 9) (pe_ix ix_list (pv 6) (pe_int) (fun _ _ => rfl))) (pe_int)) pa_nil))))))
      (pss_cons (ps_set (i := 11) sc__law_things.nd rfl (.inl rfl) (pe_lst pa_nil))
      (pss_cons (ps_for PassesOwn.never rfl (pi_range1 (by rfl) T.n_range (pa_cons (pv 10) pa_nil)) (pg_name (i := 8) sc__law_things.nd rfl (.inl rfl)) (pss_cons (ps_set (i := 12) sc__law_things.nd rfl (.inl rfl) (pe_op op_sub (pe_op op_sub (pe_callB call_len_seq (by rfl) T.n_len (by decide +kernel) (pa_cons (pv 7) pa_nil)) (pe_int)) (pe_call (ok__law_take T) (hr.mono (by omega)) (by rfl) T.g__law_take T.F__law_take.kp T.b__law_take .nil pass0 (pa_cons (pv 0) (pa_cons (pv 1) (pa_cons (pe_callB call_len_seq (by rfl) T.n_len (by decide +kernel) (pa_cons (pv 7) pa_nil)) pa_nil))))))
      (pss_cons (ps_expr (pe_bm PySem.F.plainAttrs_list PySem.F.slot_list_append PySem.F.type_list_append mt_append (pv 11) (pa_cons (pe_ix ix_list (pv 7) (pv 12) (fun _ _ => rfl)) pa_nil)))
      (pss_one (ps_set (i := 7) sc__law_things.nd rfl (.inl rfl) (pe_op op_cat (pe_slice sl_list (pv 7) po_none (po_some (pv 12))) (pe_slice sl_list (pv 7) (po_some (pe_op op_add (pv 12) (pe_int))) po_none)))))))
      (pss_one (ps_expr (pe_bm PySem.F.plainAttrs_list PySem.F.slot_list_append PySem.F.type_list_append mt_append (pv 4) (pa_cons (pe_lst (pa_cons (pe_ix ix_list (pv 6) (pe_int) (fun _ _ => rfl)) (pa_cons (pv 11) pa_nil))) pa_nil)))))))))))))
      (pss_one (ps_ret (pv 4))))), ?_⟩
    have big : 100000 < sizeLine := by decide
    have lws := pair_len' rR
    refine ⟨Nat.zero_le _, fun L hL => ?_⟩
    have nLt := D0.na hL
    have nRL : R ≠ L := ne_of_none hR hL
    have s0 := same_new (o := .lst []) hL
    refine ⟨_, rfl, n, rfl, by omega, by omega, for_range (lo := 0) (n := n) (fun k σ H' => ∃ (us : List V) (ts : List Th) (x5 x6 x7 x8 x9 x10 x11 x12 : Option V), σ = [some (.ref d), some (.ref t), some (.ref R), some (.int n), some (.ref L), x5, x6, x7, x8, x9, x10, x11, x12] ∧ Dr K H' d t ∧ But t H H' ∧ H' L = some (.lst us) ∧ MtsN [t, L] H' us ts ∧ ts.length = k ∧ ThsOk rs ts)
      ⟨[], [], _, _, _, _, _, _, _, _, rfl, D0.same s0, But.of_same s0, upd_same, .nil, rfl, fun k th h => by simp at h⟩ ?_ ?_⟩
    rotate_left
    · rintro σ H2 ⟨us, ts, x5, x6, x7, x8, x9, x10, x11, x12, rfl, D2, b2, hL2, mM2, lk, ok⟩
      exact ⟨_, rfl, q us ts L H2 ok lk D2 b2 hL hL2 (L2.Paired.mapP mM2 fun _ _ ⟨p, pp, e, a, b, x⟩ => ⟨p, pp, e, fun h => a (by simp at h; simp [h]), fun h => b (by simp at h; simp [h]), x⟩)⟩
    rintro k σ H2 hk ⟨us, ts, x5, x6, x7, x8, x9, x10, x11, x12, rfl, D2, b2, hL2, mM2, lk, ok⟩
    have lts := pair_len' mM2
    have hR2 := b2 _ _ nRt hR
    have rR2 : RowsN (fun a => a ≠ t ∧ a ≠ L) true H2 ws rs := rowsN_sub (rowsN_leA (rowsN_al rR) (.but (A := [t]) (by simp) b2) fun a f => by simpa using f.1) fun a f => ⟨f.1, f.2.elim fun o e => ne_of_none e hL⟩
    refine ⟨_, rfl, _, rfl, _, rfl, _, rfl, R, _, rfl, .inl (SqL.of hR2), d, t, _, rfl, D2, by omega, fun c H3 c0 c1 D3 b3 => ?_⟩
    have lM : Le [t, L] H2 H3 := .but (by simp) b3
    have hR3 := b3 _ _ nRt hR2
    have hL3 := b3 _ _ nLt hL2
    have rR3 := rowsN_leA rR2 (.but (A := [t]) (by simp) b3) (fun a f => by simpa using f.1)
    have mM3 := mtsN_le mM2 lM
    obtain ⟨v, hv, _⟩ := at_ok (xs := ws) c0 c1
    obtain ⟨j, rfl⟩ := Int.eq_ofNat_of_zero_le c0
    have hj : j < ws.length := by omega
    have hvj : ws[j]? = some v := by rw [← hv]; exact (atI_nat (List.getElem?_eq_getElem hj)).symm ▸ List.getElem?_eq_getElem hj
    obtain ⟨r, hr, p, pp, rfl, np, npp, hp, hpp⟩ := pair_get' rR3 hvj
    have hp : H3 p = some (.lst (rowL r pp)) := hp
    have hpp : H3 pp = some (.lst (r.pars.map V.str)) := hpp
    refine ⟨_, _, _, _, rfl, rfl, SqL.of hR3, hv, ?_⟩
    simp only [gName, tSeq, tAsg]
    refine able_t (K := K) hL3 mM3 hp hpp (by omega) fun D H4 s4 nD hD => ?_
    have D4 := D3.same s4
    have t4 := b3.trans (But.of_same s4)
    refine ⟨fun σ' H' => ∃ (p pp D : Addr) (r : Row), σ' = [some (.ref d), some (.ref t), some (.ref R), some (.int n), some (.ref L), some (.int (0 + (k : Nat))), some (.ref p), some (.ref D), x8, x9, x10, x11, x12] ∧ r ∈ rs ∧ Dr K H' d t ∧ But t H2 H' ∧ H' p = some (.lst (rowL r pp)) ∧ p ≠ t ∧ p ≠ L ∧ H' D = some (.lst ((ableN ts r ts.length).map V.int)) ∧ D ≠ t ∧ D ≠ L ∧ r.least ≤ ((ableN ts r ts.length).length : Int), ?_, ?_⟩
    · refine ⟨_, rfl, D, _, rfl, .inl (SqL.of hD), _, rfl, _, _, _, _, rfl, rfl, SqL.of (s4 _ _ hp), atI_nat (j := 2) rfl, _, _, rfl, rfl, _, rfl, iteD (fun c => ?_) (fun c => ?_)⟩
      · obtain ⟨v0, hv0⟩ : ∃ v, ws[0]? = some v := ⟨_, List.getElem?_eq_getElem (by omega)⟩
        obtain ⟨r0, hr0, p0, pp0, rfl, np0, npp0, hp0, hpp0⟩ := pair_get' rR3 hv0
        have hp0 : H3 p0 = some (.lst (rowL r0 pp0)) := hp0
        have hpp0 : H3 pp0 = some (.lst (r0.pars.map V.str)) := hpp0
        refine ⟨_, rfl, _, _, _, _, rfl, rfl, SqL.of (s4 _ _ hR3), atI_nat hv0, ?_⟩
        simp only [gName, tSeq, tAsg]
        refine able_t (K := K) (s4 _ _ hL3) (mtsN_le mM3 (Le.same s4)) (s4 _ _ hp0) (s4 _ _ hpp0) (by omega) fun D' H5 s5 nD' hD' => ?_
        exact ⟨p0, pp0, D', r0, rfl, List.mem_of_getElem? hr0, D4.same s5, t4.trans (But.of_same s5), s5 _ _ (s4 _ _ hp0), np0.1, np0.2, hD', D4.na nD', (ne_of_none (s4 _ _ hL3) nD').symm, by rw [low r0 hr0]; omega⟩
      · rw [List.length_map] at c
        exact ⟨p, pp, D, r, rfl, List.mem_of_getElem? hr, D4, t4, s4 _ _ hp, np.1, np.2, hD, D3.na nD, (ne_of_none hL3 nD).symm, by omega⟩
    rintro σ' H5 ⟨p, pp, D, r, rfl, mr, D5, b5, hp5, npt, npL, hD5, nDt, nDL, le⟩
    clear hD hp hpp rR3 mM3 hL3 hR3 s4 D4 t4 nD hr lM
    obtain ⟨i0, hi0⟩ := List.mem_iff_getElem?.mp mr
    have fnd := good_find g.g hi0
    obtain ⟨_, sz, _, _⟩ := g.row _ mr
    unfold sizeB at sz
    simp only [Bool.and_eq_true, decide_eq_true_iff] at sz
    have bd := (g.bnd _ mr).1
    have la := ableN_len ts r ts.length
    refine ⟨_, rfl, _, _, _, _, rfl, rfl, SqL.of hp5, atI_nat (j := 3) rfl, ?_⟩
    refine ⟨fun σ' H' => ∃ m : Int, H' = H5 ∧ σ' = [some (.ref d), some (.ref t), some (.ref R), some (.int n), some (.ref L), some (.int (0 + (k : Nat))), some (.ref p), some (.ref D), x8, some (.int m), x10, x11, x12] ∧ r.least ≤ m ∧ m ≤ r.most ∧ m ≤ ((ableN ts r ts.length).length : Int), ?_, ?_⟩
    · refine ⟨_, rfl, _, rfl, D, _, rfl, .inl (SqL.of hD5), _, _, rfl, rfl, _, rfl, ?_⟩
      rw [List.length_map]
      refine iteD (fun c => ?_) (fun c => ⟨r.most, rfl, rfl, sz.2.1, Int.le_refl _, by omega⟩)
      exact ⟨_, rfl, D, _, rfl, .inl (SqL.of hD5), ((ableN ts r ts.length).length : Int), rfl, by rw [List.length_map]; rfl, le, by omega, Int.le_refl _⟩
    rintro σ' H5' ⟨m, rfl, rfl, m0, m1, m2⟩
    refine ⟨_, rfl, _, rfl, _, rfl, _, rfl, _, rfl, _, _, _, _, rfl, rfl, SqL.of hp5, atI_nat (j := 2) rfl, _, _, rfl, rfl, _, _, rfl, rfl, d, t, _, rfl, D5, by omega, fun c H6 c0 c1 D6 b6 => ⟨_, _, rfl, rfl, ?_⟩⟩
    obtain ⟨e, en⟩ : ∃ e : Nat, m - c = (e : Int) := Int.eq_ofNat_of_zero_le (by omega)
    show gName 10 (V.int (m - c)) _ _ _
    rw [en]
    refine ⟨Nat.zero_le _, fun C hC => ?_⟩
    have t6 := b5.trans b6
    have nCt := D6.na hC
    have nC2 : H2 C = none := t6.free nCt hC
    have hL6 := t6 _ _ nLt hL2
    have nCL : C ≠ L := (ne_of_none hL6 hC).symm
    have s7 := same_new (o := .lst []) hC
    have hD6 := b6 _ _ nDt hD5
    refine ⟨_, rfl, e, rfl, by omega, by omega, for_range (lo := 0) (n := e) (fun k' σ H' => ∃ (ab : Addr) (as cs : List Int) (x8 x12 : Option V), σ = [some (.ref d), some (.ref t), some (.ref R), some (.int n), some (.ref L), some (.int (0 + (k : Nat))), some (.ref p), some (.ref ab), x8, some (.int m), some (.int e), some (.ref C), x12] ∧ Dr K H' d t ∧ But t H2 H' ∧ ab ≠ t ∧ ab ≠ C ∧ H' p = some (.lst (rowL r pp)) ∧ H' ab = some (.lst (as.map V.int)) ∧ H' C = some (.lst (cs.map V.int)) ∧ cs.length = k' ∧ (cs ++ as).Perm (ableN ts r ts.length))
      ⟨D, ableN ts r ts.length, [], _, _, rfl, D6.same s7, t6.trans (But.of_same s7), nDt, ne_of_none hD6 hC, s7 _ _ (b6 _ _ npt hp5), s7 _ _ hD6, upd_same, rfl, by rw [List.nil_append]⟩ ?_ ?_⟩
    · rintro k' σ H7 hk' ⟨ab, as, cs, x8, x12, rfl, D7, b7, nat7, nac, hp7, hab, hC7, lcs, pm⟩
      have lpm := pm.length_eq
      rw [List.length_append] at lpm
      refine ⟨_, rfl, ab, _, rfl, .inl (SqL.of hab), _, _, rfl, rfl, _, rfl, _, rfl, _, rfl, ab, _, rfl, .inl (SqL.of hab), d, t, _, rfl, D7, by rw [List.length_map]; omega, fun pk H8 p0 p1 D8 b8 => ⟨_, _, rfl, rfl, ?_⟩⟩
      rw [List.length_map] at p1 ⊢
      obtain ⟨i, ei⟩ : ∃ i : Nat, (as.length : Int) - 1 - pk = (i : Int) := Int.eq_ofNat_of_zero_le (by omega)
      show gName 12 (V.int ((as.length : Int) - 1 - pk)) _ _ _
      rw [ei]
      have hi : i < as.length := by omega
      have hx : as[i]? = some as[i] := List.getElem?_eq_getElem hi
      have hab8 := b8 _ _ nat7 hab
      have hC8 := b8 _ _ nCt hC7
      have hp8 := b8 _ _ npt hp7
      refine ⟨_, rfl, .inl ⟨rfl, _, SqL.of hC8⟩, _, rfl, _, rfl, _, _, _, _, rfl, rfl, SqL.of hab8, atI_nat (v := V.int as[i]) (by rw [List.getElem?_map, hx]; rfl), _, _, _, rfl, rfl, hC8, by rw [List.length_map]; omega, ?_⟩
      have D9 : Dr K (upd H8 C (.lst (cs.map V.int ++ [.int as[i]]))) d t := D8.other But.upd (D2.nd nC2) nCt.symm
      have b9 := (b7.trans b8).mut (o := .lst (cs.map V.int ++ [.int as[i]])) nC2
      have hab9 : (upd H8 C (.lst (cs.map V.int ++ [.int as[i]]))) ab = some (.lst (as.map V.int)) := by rw [upd_ne nac]; exact hab8
      have npC : p ≠ C := row_ne_ints hp8 hC8
      have hp9 : (upd H8 C (.lst (cs.map V.int ++ [.int as[i]]))) p = some (.lst (rowL r pp)) := by rw [upd_ne npC]; exact hp8
      have hC9 : (upd H8 C (.lst (cs.map V.int ++ [.int as[i]]))) C = some (.lst ((cs ++ [as[i]]).map V.int)) := by rw [upd_same, ints_app]
      revert D9 b9 hab9 hC9 hp9
      generalize upd H8 C (.lst (cs.map V.int ++ [.int as[i]])) = H9
      intro D9 b9 hab9 hp9 hC9
      refine ⟨_, rfl, _, rfl, _, rfl, ab, _, rfl, SqL.of hab9, fun c1 hc1 => ?_⟩
      rw [cut_to, ← List.map_take]
      have s10 := same_new (o := .lst ((as.take i).map V.int)) hc1
      refine ⟨_, rfl, _, rfl, _, _, rfl, rfl, _, rfl, ab, _, rfl, SqL.of (s10 _ _ hab9), fun c2 hc2 => ?_⟩
      rw [show ((i : Nat) : Int) + 1 = ((i + 1 : Nat) : Int) from rfl, cut_from, ← List.map_drop]
      have s11 := s10.trans (same_new (o := .lst ((as.drop (i + 1)).map V.int)) hc2)
      refine ⟨c1, c2, _, _, rfl, rfl, same_new hc2 _ _ upd_same, upd_same, by rw [List.length_map, List.length_map, List.length_take, List.length_drop]; omega, fun c3 hc3 => ?_⟩
      have s12 := s11.trans (same_new (o := .lst ((as.take i).map V.int ++ (as.drop (i + 1)).map V.int)) hc3)
      exact ⟨c3, as.take i ++ as.drop (i + 1), cs ++ [as[i]], _, _, rfl, D9.same s12, b9.trans (But.of_same s12), (D9.same s11).na hc3, (ne_of_none (s11 _ _ hC9) hc3).symm, s12 _ _ hp9, by rw [upd_same, List.map_append], s12 _ _ hC9, by rw [List.length_append, lcs]; rfl, perm_pick pm hx⟩
    · rintro σ H7 ⟨ab, as, cs, x8, x12, rfl, D7, b7, nat7, nac, hp7, hab, hC7, lcs, pm⟩
      have lpm := pm.length_eq
      rw [List.length_append] at lpm
      have hL7 := b7 _ _ nLt hL2
      have m3' := m3 _ mr
      refine ⟨_, rfl, .inl ⟨rfl, _, SqL.of hL7⟩, _, rfl, _, _, _, _, rfl, rfl, SqL.of hp7, atI_nat (j := 0) rfl, _, rfl, by show 2 ≤ sizeLine; decide, fun u nu => ?_⟩
      have s8 := same_new (o := .lst [.str r.mark, .ref C]) nu
      have hL8 := s8 _ _ hL7
      refine ⟨_, _, _, rfl, rfl, hL8, by omega, ?_⟩
      have nd := (List.nodup_append.mp (pm.nodup_iff.mpr (ableN_nd ts r ts.length))).1
      have mem : ∀ j ∈ cs, j ∈ ableN ts r ts.length := fun j hj => pm.mem_iff.mp (List.mem_append_left _ hj)
      have pg : PGood rs ts r.mark cs := ⟨⟨r, fnd, suit_iff.mpr ⟨by omega, by omega, nd, fun j hj => (ableN_mem (mem j hj)).2.2⟩⟩, fun j hj => ⟨(ableN_mem (mem j hj)).1, (ableN_mem (mem j hj)).2.1⟩, by omega⟩
      have lw : Le [t, L] H2 (upd (upd H7 u (.lst [.str r.mark, .ref C])) L (.lst (us ++ [.ref u]))) := ((Le.but (by simp) b7).trans (Le.same s8)).trans (.upd (by simp))
      have nuL : u ≠ L := (ne_of_none hL7 nu).symm
      have nut := D7.na nu
      exact ⟨us ++ [.ref u], ts ++ [(r.mark, cs)], _, _, _, _, _, _, _, _, rfl, (D7.same s8).other But.upd (D0.nd hL) nLt.symm, ((b2.trans b7).trans (But.of_same s8)).mut hL, upd_same, pair_app' (mtsN_le mM2 lw) (.cons ⟨u, C, rfl, by simp [nut, nuL], by simp [nCt, nCL], by rw [upd_ne nuL]; exact upd_same, by rw [upd_ne nCL]; exact s8 _ _ hC7⟩ .nil), by rw [List.length_append, lk]; rfl, ths_app ok pg (by show cs.length ≤ 3; omega) bd⟩
end
end My

namespace My
open PySem L2
def spLShape (C : Addr) : Sp := fun vs H Q _ => ∃ (a : Addr) (us : List V) (rs : List Row), vs = [.ref a] ∧ H a = some (.lst us) ∧ RowsN (fun _ => True) true H us rs ∧ 1 ≤ us.length ∧ us.length ≤ 3 ∧ GoodC rs ∧
  ∀ x H', Same H H' → H x = none → ShN (fun a => H a = none) C H' x rs → Q (.ref x) H'
section
variable {w : World} {K : PySem.W.Frag} {mg : Str → Option Value} {base : Heap}
theorem ok__law_shape (T : Txt K mg) : FnOk PP w K mg base CX0 7 T.a__law_shape T.fd__law_shape ["_law_rows_here"] (spLShape T.c_Shape) := by
  refine T.F__law_shape.ok sc__law_shape (fun vs H Q E h => ?_) (fun cdv A outer s H vs Q E hr h => ?_)
  · obtain ⟨a, us, rs, rfl, _⟩ := h; rfl
  · obtain ⟨a, us, rs, rfl, ha, hR, l1, l3, g, q⟩ := h
    refine ⟨_, (pss_cons (ps_setLc (i := 1) (own := [("_law_row", 2)]) (g := (gName 2)) (by rfl) sc__law_shape.nd rfl rfl (sw_true rfl rfl rfl (by decide +kernel)) (pi_list (pv 0)) (blkOk_by (own := [("_law_row", 2)]) (N := ["_law_rows_here", "_law_made", "_law_row"]) (sc := defScope S__law_shape) (by decide +kernel)) (fun _ _ _ _ _ => (pg_name (i := 2) sc__law_shape.nd rfl (by first | exact .inl rfl | exact .inr rfl))) (fun _ _ _ _ _ => pts_nil) (fun _ _ _ _ _ => (pe_tup (pa_cons (pe_ix (ixLK (K := K) rfl) (pv 2) (pe_int) (fun _ _ => rfl)) (pa_cons (pe_callTy (tupleK (K := K) rfl) (by rfl) T.n_tuple (by decide +kernel) (pa_cons (pe_ix (ixLK (K := K) rfl) (pv 2) (pe_int) (fun _ _ => rfl)) pa_nil)) (pa_cons (pe_ix (ixLK (K := K) rfl) (pv 2) (pe_int) (fun _ _ => rfl)) (pa_cons (pe_ix (ixLK (K := K) rfl) (pv 2) (pe_int) (fun _ _ => rfl)) (pa_cons (pe_ix (ixLK (K := K) rfl) (pv 2) (pe_int) (fun _ _ => rfl)) pa_nil))))))))
      (pss_cons (ps_if (pt_cmpR op_eq (pe_callB call_len_seq (by rfl) T.n_len (by decide +kernel) (pa_cons (pv 1) pa_nil)) (pe_int) (nomark _)) (pss_one (ps_ret (StX.pe_makeR T.mk_Shape ((ok_Shape_init T).calm) (hr.mono (by omega)) (by rfl) T.g_Shape pass0 (pa_cons (pe_ix ix_list (pv 1) (pe_int) (fun _ _ => rfl)) pa_nil)))) pss_nil)
      (pss_cons (ps_if (pt_cmpR op_eq (pe_callB call_len_seq (by rfl) T.n_len (by decide +kernel) (pa_cons (pv 1) pa_nil)) (pe_int) (nomark _)) (pss_one (ps_ret (StX.pe_makeR T.mk_Shape ((ok_Shape_init T).calm) (hr.mono (by omega)) (by rfl) T.g_Shape pass0 (pa_cons (pe_ix ix_list (pv 1) (pe_int) (fun _ _ => rfl)) (pa_cons (pe_ix ix_list (pv 1) (pe_int) (fun _ _ => rfl)) pa_nil))))) pss_nil)
      (pss_one (ps_ret (StX.pe_makeR T.mk_Shape ((ok_Shape_init T).calm) (hr.mono (by omega)) (by rfl) T.g_Shape pass0 (pa_cons (pe_ix ix_list (pv 1) (pe_int) (fun _ _ => rfl)) (pa_cons (pe_ix ix_list (pv 1) (pe_int) (fun _ _ => rfl)) (pa_cons (pe_ix ix_list (pv 1) (pe_int) (fun _ _ => rfl)) pa_nil))))))))), ?_⟩
    have big : 100000 < sizeLine := by decide
    have lu := pair_len' hR
    refine ⟨_, rfl, a, rfl, ⟨_, SqL.of ha⟩, fun D hD => lc_list (K := K) (a := a) (xs := us) (fun i H' => ∃ ws, Same H H' ∧ H' D = some (.lst ws) ∧ RowsN (fun x => H x = none ∧ x ≠ D) false H' ws (rs.take i)) ⟨[], same_new hD, upd_same, .nil⟩ (fun i H' _ ⟨_, s, _⟩ => SqL.of (s _ _ ha)) ?_ ?_⟩
    · rintro i v H1 hv ⟨ws, s1, h1, rw1⟩
      obtain ⟨r, hr, p, pp, rfl, _, _, hp, hpp⟩ := pair_get' hR hv
      have hi := (List.getElem?_eq_some_iff.mp hr).1
      have hp : H p = some (.lst (rowL r pp)) := hp
      have hpp : H pp = some (.lst (r.pars.map V.str)) := hpp
      have hp1 := s1 _ _ hp
      have hpp1 := s1 _ _ hpp
      refine ⟨rfl, ?_⟩
      unfold tYes
      refine iteT ⟨_, rfl, _, _, _, _, rfl, rfl, SqL.of hp1, atI_nat (j := 0) rfl, ?_⟩
      refine ⟨_, rfl, _, _, _, _, rfl, rfl, SqL.of hp1, atI_nat (j := 1) rfl, pp, _, rfl, .inl ⟨SqL.of hpp1, fun E hE => ?_⟩⟩
      have s2 := same_new (o := .tup (r.pars.map V.str)) hE
      have hp2 := s2 _ _ hp1
      refine ⟨_, rfl, _, _, _, _, rfl, rfl, SqL.of hp2, atI_nat (j := 2) rfl, _, rfl, _, _, _, _, rfl, rfl, SqL.of hp2, atI_nat (j := 3) rfl, _, rfl, _, _, _, _, rfl, rfl, SqL.of hp2, atI_nat (j := 4) rfl, by show 5 ≤ sizeLine; decide, fun u hu => ?_⟩
      have s3 := s2.trans (same_new (o := .tup [.str r.mark, .ref E, .int r.least, .int r.most, .bl r.sh]) hu)
      have nuD : u ≠ D := (ne_of_none (s2 _ _ h1) hu).symm
      have nED : E ≠ D := (ne_of_none h1 hE).symm
      have lw : ws.length = i := by rw [pair_len' rw1, List.length_take]; omega
      have huE : E ≠ u := ne_of_none upd_same hu
      refine ⟨_, s3 _ _ h1, by omega, ws ++ [.ref u], same_mut (s1.trans s3) hD, upd_same, ?_⟩
      rw [List.take_succ, hr]
      refine pair_app' (rowsN_le rw1 fun x o f e => by rw [upd_ne f.2]; exact s3 _ _ e) (.cons ⟨u, E, rfl, ⟨(s1.trans s2).free hu, nuD⟩, ⟨s1.free hE, nED⟩, by rw [upd_ne nuD]; exact upd_same, by rw [upd_ne nED, upd_ne huE]; exact upd_same⟩ .nil)
    rintro H1 ⟨ws, s1, h1, rw1⟩
    rw [lu, List.take_length] at rw1
    have lw := pair_len' rw1
    have sm : ∀ r ∈ rs, small r := fun r hr => by have := g.bnd r hr; exact ⟨by omega, by omega⟩
    have fin : ∀ x H', Same H1 H' → H1 x = none → ShN (fun a => H1 a = none) T.c_Shape H' x rs → Q (.ref x) H' := fun x H' s n S => q x H' (s1.trans s) (s1.free n) (S.sub fun a f => s1.free f)
    have lw1 : 1 ≤ ws.length := by omega
    have lw3 : ws.length ≤ 3 := by omega
    clear lu l1 l3 lw
    rcases ws with _ | ⟨v0, ws⟩
    · simp at lw1
    rcases ws with _ | ⟨v1, ws⟩
    · refine ⟨_, rfl, D, _, rfl, .inl (SqL.of h1), rfl, _, rfl, iteYes (decide_eq_true rfl) ?_⟩
      exact ⟨_, rfl, _, _, _, _, rfl, rfl, SqL.of h1, atI_nat (j := 0) rfl, make_sh (rowsN_toV rw1) (by simp) sm (fun _ => fin) (fun e c v f du => (due_good g.g du).elim)⟩
    rcases ws with _ | ⟨v2, ws⟩
    · refine ⟨_, rfl, D, _, rfl, .inl (SqL.of h1), rfl, _, rfl, iteNo (decide_eq_false fun z => by simp at z) ⟨_, rfl, D, _, rfl, .inl (SqL.of h1), rfl, _, rfl, iteYes (decide_eq_true rfl) ?_⟩⟩
      exact ⟨_, rfl, _, _, _, _, rfl, rfl, SqL.of h1, atI_nat (j := 0) rfl, _, rfl, _, _, _, _, rfl, rfl, SqL.of h1, atI_nat (j := 1) rfl, make_sh (rowsN_toV rw1) (by simp) sm (fun _ => fin) (fun e c v f du => (due_good g.g du).elim)⟩
    obtain rfl : ws = [] := by cases ws with | nil => rfl | cons => simp at lw3
    refine ⟨_, rfl, D, _, rfl, .inl (SqL.of h1), rfl, _, rfl, iteNo (decide_eq_false fun z => by simp at z) ⟨_, rfl, D, _, rfl, .inl (SqL.of h1), rfl, _, rfl, iteNo (decide_eq_false fun z => by simp at z) ?_⟩⟩
    exact ⟨_, rfl, _, _, _, _, rfl, rfl, SqL.of h1, atI_nat (j := 0) rfl, _, rfl, _, _, _, _, rfl, rfl, SqL.of h1, atI_nat (j := 1) rfl, _, rfl, _, _, _, _, rfl, rfl, SqL.of h1, atI_nat (j := 2) rfl, make_sh (rowsN_toV rw1) (by simp) sm (fun _ => fin) (fun e c v f du => (due_good g.g du).elim)⟩
end
end My

namespace My
open PySem L2
def spLPut (C Cs UM NT BP TL : Addr) : Sp := fun vs H Q E => ∃ (y x l m pa : Addr) (z : Str) (rs : List Row) (ps : List Int) (ts : List Th), vs = [.ref y, .str z, .ref pa] ∧ Wb C H y x l m ts ∧ ShO Cs H x rs ∧ H pa = some (.lst (ps.map V.int)) ∧ ps.length ≤ 3 ∧ ts.length ≤ 1000 ∧
  (PGood rs ts z ps → ∀ H', Le [l, m] H H' → Wb C H' y x l m (ts ++ [(z, ps)]) → Q (.int ts.length) H') ∧
  (∀ e c v f, PDue rs ts z ps e → PErrIs UM NT BP TL e c v f → ∀ H' d, Same H H' → H d = none → H' d = some (.xd [(f, v)]) → E (.ref c) (some d) H')
theorem put_st {C Cs UM NT BP TL : Addr} {H : Hp} {y x l m : Addr} {z : Str} {rs : List Row} {ps : List Int} {ts : List Th} {us : List V} {Q : VK} {E : XK} (eu : us = .ref y :: .str z :: ps.map V.int) (hw : Wb C H y x l m ts) (hS : ShO Cs H x rs) (hl : ps.length ≤ 100) (lt : ts.length ≤ 1000)
    (q : PGood rs ts z ps → ∀ H', Le [l, m] H H' → Wb C H' y x l m (ts ++ [(z, ps)]) → Q (.int ts.length) H')
    (qe : ∀ e c v f, PDue rs ts z ps e → PErrIs UM NT BP TL e c v f → ∀ H' d, Same H H' → H d = none → H' d = some (.xd [(f, v)]) → E (.ref c) (some d) H') :
    spStar 2 (spPut C Cs UM NT BP TL) us H Q E := by
  subst eu
  refine ⟨[.ref y, .str z], ps.map V.int, rfl, rfl, Nat.le_trans (by rw [List.length_map]; exact hl) (by decide : 100 ≤ sizeLine), fun p np => ?_⟩
  have s := same_new (o := .tup (ps.map V.int)) np
  exact ⟨y, x, l, m, p, z, rs, ps, ts, rfl, hw.same s, hS.same s, upd_same, lt, fun g H' l' w' => q g H' ((Le.same s).trans l') w', fun e c v f du er H' d s' nd hd => qe e c v f du er H' d (s.trans s') (s.free nd) hd⟩
theorem pgood_due {rs : List Row} {ts : List Th} {z : Str} {ps : List Int} {e : PErr} (g : PGood rs ts z ps) (h : PDue rs ts z ps e) : False := by
  obtain ⟨⟨r, hr, hs⟩, hi, room⟩ := g
  cases h with
  | unk h => rw [hr] at h; cases h
  | no _ hp _ n => exact n (hi _ (List.mem_of_getElem? hp))
  | bad h _ hs' => rw [hr] at h; obtain rfl := Option.some.inj h; rw [hs] at hs'; cases hs'
  | large _ _ _ l => omega
section
variable {w : World} {K : PySem.W.Frag} {mg : Str → Option Value} {base : Heap}
theorem ok__law_put (T : Txt K mg) : FnOk PP w K mg base (L2.CX PP w) 9 T.a__law_put T.fd__law_put ["_law_web_here", "_law_mark", "_law_parents"] (spLPut T.c_Web T.c_Shape T.c_UnknownMark T.c_NoThing T.c_BadParents T.c_TooLarge) := by
  refine T.F__law_put.okX sc__law_put (fun vs H Q E h => ?_) (fun cdv A outer s H vs Q E hr h => ?_)
  · obtain ⟨y, x, l, m, pa, z, rs, ps, ts, rfl, _⟩ := h; rfl
  · obtain ⟨y, x, l, m, pa, z, rs, ps, ts, rfl, hw, hS, hp, lp, lt, q, qe⟩ := h
    refine ⟨_, (pss_cons (ps_if (pt_cmpR op_eq (pe_callB call_len_seq (by rfl) T.n_len (by decide +kernel) (pa_cons (pv 2) pa_nil)) (pe_int) (nomark _)) (pss_one (ps_ret (pe_methR (pv 0) T.cl_Web T.m_Web_put (ok_Web_put T) (hr.mono (by omega)) (passes_call (takes_of rfl rfl rfl rfl) (fun _ _ _ _ h => h)) (pa_cons (pv 1) pa_nil)))) pss_nil)
      (pss_cons (ps_if (pt_cmpR op_eq (pe_callB call_len_seq (by rfl) T.n_len (by decide +kernel) (pa_cons (pv 2) pa_nil)) (pe_int) (nomark _)) (pss_one (ps_ret (pe_methR (pv 0) T.cl_Web T.m_Web_put (ok_Web_put T) (hr.mono (by omega)) (passes_call (takes_of rfl rfl rfl rfl) (fun _ _ _ _ h => h)) (pa_cons (pv 1) (pa_cons (pe_ix ix_list (pv 2) (pe_int) (fun _ _ => rfl)) pa_nil))))) pss_nil)
      (pss_cons (ps_if (pt_cmpR op_eq (pe_callB call_len_seq (by rfl) T.n_len (by decide +kernel) (pa_cons (pv 2) pa_nil)) (pe_int) (nomark _)) (pss_one (ps_ret (pe_methR (pv 0) T.cl_Web T.m_Web_put (ok_Web_put T) (hr.mono (by omega)) (passes_call (takes_of rfl rfl rfl rfl) (fun _ _ _ _ h => h)) (pa_cons (pv 1) (pa_cons (pe_ix ix_list (pv 2) (pe_int) (fun _ _ => rfl)) (pa_cons (pe_ix ix_list (pv 2) (pe_int) (fun _ _ => rfl)) pa_nil)))))) pss_nil)
      (pss_one (ps_ret (pe_methR (pv 0) T.cl_Web T.m_Web_put (ok_Web_put T) (hr.mono (by omega)) (passes_call (takes_of rfl rfl rfl rfl) (fun _ _ _ _ h => h)) (pa_cons (pv 1) (pa_cons (pe_ix ix_list (pv 2) (pe_int) (fun _ _ => rfl)) (pa_cons (pe_ix ix_list (pv 2) (pe_int) (fun _ _ => rfl)) (pa_cons (pe_ix ix_list (pv 2) (pe_int) (fun _ _ => rfl)) pa_nil)))))))))), ?_⟩
    obtain ⟨dy, hy⟩ := hw.obj
    rcases ps with _ | ⟨i0, ps⟩
    · exact ⟨_, rfl, pa, _, rfl, .inl (SqL.of hp), rfl, _, rfl, iteYes (decide_eq_true rfl) ⟨_, rfl, y, dy, _, rfl, hy, rfl, _, rfl, put_st (ps := []) rfl hw hS (by simp) lt q qe⟩⟩
    rcases ps with _ | ⟨i1, ps⟩
    · exact ⟨_, rfl, pa, _, rfl, .inl (SqL.of hp), rfl, _, rfl, iteNo (decide_eq_false fun z => by simp at z) ⟨_, rfl, pa, _, rfl, .inl (SqL.of hp), rfl, _, rfl, iteYes (decide_eq_true rfl) ⟨_, rfl, y, dy, _, rfl, hy, rfl, _, rfl, _, rfl, _, _, _, _, rfl, rfl, SqL.of hp, atI_nat (j := 0) rfl, put_st (ps := [i0]) rfl hw hS (by simp) lt q qe⟩⟩⟩
    rcases ps with _ | ⟨i2, ps⟩
    · exact ⟨_, rfl, pa, _, rfl, .inl (SqL.of hp), rfl, _, rfl, iteNo (decide_eq_false fun z => by simp at z) ⟨_, rfl, pa, _, rfl, .inl (SqL.of hp), rfl, _, rfl, iteNo (decide_eq_false fun z => by simp at z) ⟨_, rfl, pa, _, rfl, .inl (SqL.of hp), rfl, _, rfl, iteYes (decide_eq_true rfl) ⟨_, rfl, y, dy, _, rfl, hy, rfl, _, rfl, _, rfl, _, _, _, _, rfl, rfl, SqL.of hp, atI_nat (j := 0) rfl, _, rfl, _, _, _, _, rfl, rfl, SqL.of hp, atI_nat (j := 1) rfl, put_st (ps := [i0, i1]) rfl hw hS (by simp) lt q qe⟩⟩⟩⟩
    obtain rfl : ps = [] := by cases ps with | nil => rfl | cons => simp at lp
    exact ⟨_, rfl, pa, _, rfl, .inl (SqL.of hp), rfl, _, rfl, iteNo (decide_eq_false fun z => by simp at z) ⟨_, rfl, pa, _, rfl, .inl (SqL.of hp), rfl, _, rfl, iteNo (decide_eq_false fun z => by simp at z) ⟨_, rfl, pa, _, rfl, .inl (SqL.of hp), rfl, _, rfl, iteNo (decide_eq_false fun z => by simp at z) ⟨_, rfl, y, dy, _, rfl, hy, rfl, _, rfl, _, rfl, _, _, _, _, rfl, rfl, SqL.of hp, atI_nat (j := 0) rfl, _, rfl, _, _, _, _, rfl, rfl, SqL.of hp, atI_nat (j := 1) rfl, _, rfl, _, _, _, _, rfl, rfl, SqL.of hp, atI_nat (j := 2) rfl, put_st (ps := [i0, i1, i2]) rfl hw hS (by simp) lt q qe⟩⟩⟩⟩
end
end My

namespace My
open PySem L2
theorem make_wb {C : Addr} {H : Hp} {x : Addr} {R : Addr → VK} {E : XK} (q : ∀ y l m H', Same H H' → H y = none → H l = none → H m = none → Wb C H' y x l m [] → R y .non H') :
    ∀ y dy, H y = none → H dy = none → dy ≠ y → spWInit C (.ref y :: ([.ref x] ++ [])) (upd (upd H dy (.own y)) y (.ins C dy [])) (R y) E := fun y dy ny nd _ => by
  have s1 : Same H (upd (upd H dy (.own y)) y (.ins C dy [])) := fun a o h => by rw [upd_ne (ne_of_none h ny), upd_ne (ne_of_none h nd)]; exact h
  exact ⟨y, dy, x, rfl, upd_same, fun l m H' b nl nm w => q y l m H' (fun a o h => b a o (ne_of_none h ny) (s1 _ _ h)) ny (s1.free nl) (s1.free nm) w⟩
def spLWeb (C Cs : Addr) : Sp := fun vs H Q _ => ∃ (x p : Addr) (rs : List Row) (us : List V) (ts : List Th), vs = [.ref x, .ref p] ∧ ShO Cs H x rs ∧ H p = some (.lst us) ∧ MtsN [] H us ts ∧ ThsOk rs ts ∧ ts.length ≤ 900 ∧
  ∀ y l m H', Same H H' → H y = none → H l = none → H m = none → Wb C H' y x l m ts → Q (.ref y) H'
section
variable {w : World} {K : PySem.W.Frag} {mg : Str → Option Value} {base : Heap}
theorem ok__law_web (T : Txt K mg) : FnOk PP w K mg base CX0 10 T.a__law_web T.fd__law_web ["_law_shape_here", "_law_things_here"] (spLWeb T.c_Web T.c_Shape) := by
  refine T.F__law_web.ok sc__law_web (fun vs H Q E h => ?_) (fun cdv A outer s H vs Q E hr h => ?_)
  · obtain ⟨x, p, rs, us, ts, rfl, _⟩ := h; rfl
  · obtain ⟨x, p, rs, us, ts, rfl, hS, hp, mM, ok, lt, q⟩ := h
    refine ⟨_, (pss_cons (ps_set (i := 2) sc__law_web.nd rfl (.inl rfl) (pe_make T.mk_Web (ok_Web_init T) (hr.mono (by omega)) (by rfl) T.g_Web T.b_Web_init .nil pass0 (pa_cons (pv 0) pa_nil)))
      (pss_cons (ps_for PassesOwn.never rfl (pi_list (pv 1)) (pg_name (i := 3) sc__law_web.nd rfl (.inl rfl)) (pss_one (ps_expr (pe_call ((ok__law_put T).calm) (hr.mono (by omega)) (by rfl) T.g__law_put T.F__law_put.kp T.b__law_put .nil pass0 (pa_cons (pv 2) (pa_cons (pe_ix ix_list (pv 3) (pe_int) (fun _ _ => rfl)) (pa_cons (pe_ix ix_list (pv 3) (pe_int) (fun _ _ => rfl)) pa_nil)))))))
      (pss_one (ps_ret (pv 2))))), ?_⟩
    have big : 100000 < sizeLine := by decide
    have lts := pair_len' mM
    refine ⟨_, rfl, make_wb fun y l m H1 s1 ny nl nm w1 => ⟨rfl, ?_⟩⟩
    refine ⟨_, rfl, p, rfl, ⟨_, SqL.of (s1 _ _ hp)⟩, for_list (K := K) (a := p) (xs := us) (fun i σ H' => ∃ x3, σ = [some (.ref x), some (.ref p), some (.ref y), x3] ∧ Same H H' ∧ Wb T.c_Web H' y x l m (ts.take i)) ⟨_, rfl, s1, w1⟩ (fun i σ H' _ ⟨_, _, s, _⟩ => SqL.of (s _ _ hp)) ?_ ?_⟩
    · rintro i v σ H2 hv ⟨x3, rfl, s2, w2⟩
      obtain ⟨th, hth, b, bp, rfl, _, _, hb, hbp⟩ := pair_get' mM hv
      have hb : H b = some (.lst [.str th.1, .ref bp]) := hb
      have hbp : H bp = some (.lst (th.2.map V.int)) := hbp
      obtain ⟨g, l3, _⟩ := ok i th hth
      refine ⟨_, rfl, _, rfl, _, _, _, _, rfl, rfl, SqL.of (s2 _ _ hb), atI_nat (j := 0) rfl, _, rfl, _, _, _, _, rfl, rfl, SqL.of (s2 _ _ hb), atI_nat (j := 1) rfl, y, x, l, m, bp, th.1, rs, th.2, ts.take i, rfl, w2, hS.same s2, s2 _ _ hbp, l3, by rw [List.length_take]; omega, fun _ H3 le w3 => ?_, fun e c v f du => (pgood_due g du).elim⟩
      refine ⟨_, rfl, fun a o e => le a o (fun h => ?_) (s2 _ _ e), ?_⟩
      · simp only [List.mem_cons, List.not_mem_nil, or_false] at h
        rcases h with rfl | rfl
        · rw [nl] at e; cases e
        · rw [nm] at e; cases e
      · rw [List.take_succ, hth]; exact w3
    · rintro σ H2 ⟨x3, rfl, s2, w2⟩
      rw [lts, List.take_length] at w2
      exact ⟨_, rfl, q y l m H2 s2 ny nl nm w2⟩
end
end My

namespace L2
open PySem PySem.Spec PyProof.Rows
theorem for_enumL {K : PySem.W.Frag} {a : Addr} {xs : List V} {g : TG} {tb : TS} {D : Ends} {σ : St} {H : Hp} (Pv : Nat → St → Hp → Prop) (h0 : Pv 0 σ H) (hl : ∀ i σ H, i ≤ xs.length → Pv i σ H → SqL K H a xs)
    (hs : ∀ i x σ H T, xs[i]? = some x → Pv i σ H → H T = none → g (.ref T) σ (upd H T (.tup [.int (i : Nat), x])) fun σ2 H2 => tb { D with nx := Pv (i + 1), ct := Pv (i + 1), bk := D.nx } σ2 H2)
    (hd : ∀ σ H, Pv xs.length σ H → D.nx σ H) :
    ∃ W : Nat → Nat → St → Hp → Prop, (∃ m, W 0 m σ H) ∧ ∀ i m σ H, W i m σ H →
      ((Ite K a).stop i H ∧ D.nx σ H) ∨ ((Ite K a).go i H ∧ ∃ N : St → Hp → Prop, (∀ σ' H', N σ' H' → ∃ m', m' < m ∧ W (i + 1) m' σ' H') ∧ ∀ x H', (Ite K a).yld i H x H' → g x σ H' fun σ2 H2 => tb { D with nx := N, ct := N, bk := D.nx } σ2 H2) := by
  refine ⟨fun i m σ H => m = xs.length - i ∧ i ≤ xs.length ∧ Pv i σ H, ⟨xs.length, by simp, Nat.zero_le _, h0⟩, fun i m σ H hW => ?_⟩
  obtain ⟨em, hi, p⟩ := hW
  have q := hl i σ H hi p
  by_cases hlt : i < xs.length
  · refine .inr ⟨⟨xs, xs[i], q, List.getElem?_eq_getElem hlt⟩, Pv (i + 1), fun σ' H' p' => ⟨xs.length - (i + 1), by omega, rfl, hlt, p'⟩, fun x H' y => ?_⟩
    obtain ⟨T, x', ev, nT, eH, hx⟩ := y
    subst ev eH
    exact hs i x' σ H T (hx xs q) p nT
  · have ei : i = xs.length := by omega
    subst ei
    exact .inl ⟨⟨xs, q, Nat.le_refl _⟩, hd σ H p⟩
end L2

namespace My
open PySem L2
/-! ### webs as data -/
def thD (th : Th) : PyData := .tuple [.str th.1, .tuple (th.2.map .int)]
theorem eqv_ints : ∀ a b : List Int, PyData.eqvAll (a.map .int) (b.map .int) = decide (a = b)
  | [], [] => by simp [PyData.eqvAll]
  | [], _ :: _ => by simp [PyData.eqvAll]
  | _ :: _, [] => by simp [PyData.eqvAll]
  | x :: a, y :: b => by
    simp only [List.map_cons, PyData.eqvAll, PyData.eqv, eqv_ints a b]
    rw [Bool.eq_iff_iff, Bool.and_eq_true, beq_iff_eq, decide_eq_true_iff, decide_eq_true_iff]
    simp
theorem eqv_th (a b : Th) : PyData.eqv (thD a) (thD b) = decide (a = b) := by
  unfold thD
  simp only [PyData.eqv, PyData.eqvAll, eqv_ints, Bool.and_true]
  rw [Bool.eq_iff_iff]
  simp only [Bool.and_eq_true, beq_iff_eq, decide_eq_true_iff]
  cases a; cases b
  simp
theorem eqv_ths : ∀ a b : List Th, PyData.eqvAll (a.map thD) (b.map thD) = decide (a = b)
  | [], [] => by simp [PyData.eqvAll]
  | [], _ :: _ => by simp [PyData.eqvAll]
  | _ :: _, [] => by simp [PyData.eqvAll]
  | x :: a, y :: b => by
    simp only [List.map_cons, PyData.eqvAll, eqv_th, eqv_ths a b]
    rw [Bool.eq_iff_iff, Bool.and_eq_true, decide_eq_true_iff, decide_eq_true_iff, decide_eq_true_iff]
    simp
theorem canLay_ints : ∀ l : List Int, PyData.canLayAll0 (l.map .int) = true
  | [] => rfl
  | z :: l => by rw [List.map_cons, PyData.canLayAll0, PyData.canLay0, canLay_ints l]; rfl
theorem depth_ints : ∀ l : List Int, PyData.depthAll (l.map .int) = 0
  | [] => rfl
  | z :: l => by rw [List.map_cons, PyData.depthAll, depth_ints l]; rfl
def thsWords (ts : List Th) : Prop := ∀ t ∈ ts, PyData.strOk t.1 = true
theorem ths_shaped {ts : List Th} (h : thsWords ts) : SeqAt.shaped (.list (ts.map thD)) = true := by
  have h1 : ∀ l : List Th, thsWords l → PyData.canLayAll0 (l.map thD) = true := fun l => by
    induction l with
    | nil => intro _; rfl
    | cons a r ih =>
      intro q
      rw [List.map_cons, PyData.canLayAll0, ih fun s hs => q s (by simp [hs])]
      unfold thD
      simp [PyData.canLay0, PyData.canLayAll0, q a (by simp), canLay_ints]
  have h2 : ∀ l : List Th, PyData.depthAll (l.map thD) ≤ 4 := fun l => by
    induction l with
    | nil => exact Nat.zero_le _
    | cons a r ih =>
      rw [List.map_cons, PyData.depthAll]
      have : PyData.depth (thD a) ≤ 4 := by unfold thD; simp [PyData.depth, PyData.depthAll, depth_ints]
      omega
  unfold SeqAt.shaped
  rw [PyData.canLay0, h1 ts h, PyData.depth, Bool.true_and, decide_eq_true_iff]
  have := h2 ts
  omega
theorem intsDp {K : PySem.W.Frag} {H : Hp} : ∀ l : List Int, DpAll K H (l.map V.int) (l.map .int)
  | [] => .nil
  | z :: l => .cons (.int _) (intsDp l)
theorem thDp {K : PySem.W.Frag} {H : Hp} {v : V} {t : Th} (h : ThV H v t) : Dp K H v (thD t) := by
  obtain ⟨p, pp, rfl, hp, hpp⟩ := h
  exact .tup (SqT.of hp) (.cons (.str _) (.cons (.tup (SqT.of hpp) (intsDp _)) .nil))
theorem thsDp {K : PySem.W.Frag} {H : Hp} : ∀ {vs : List V} {ts : List Th}, ThsV H vs ts → DpAll K H vs (ts.map thD)
  | _, _, .nil => .nil
  | _, _, .cons h t => .cons (thDp h) (thsDp t)
def kidsN (ts : List Th) (p : Int) (i : Nat) : List Int := ((List.range i).filter fun j => decide (p ∈ (ts.getD j ("", [])).2)).map fun j => ((j : Nat) : Int)
theorem kidsN_succ (ts : List Th) (p : Int) (i : Nat) {t : Th} (h : ts[i]? = some t) : kidsN ts p (i + 1) = kidsN ts p i ++ if p ∈ t.2 then [((i : Nat) : Int)] else [] := by
  unfold kidsN
  rw [List.range_succ, List.filter_append, List.map_append]
  congr 1
  have e : ts.getD i ("", []) = t := by rw [List.getD_eq_getElem?_getD, h]; rfl
  simp only [List.filter_cons, e, List.filter_nil]
  by_cases c : p ∈ t.2
  · simp [c]
  · simp [c]
theorem kidsN_len (ts : List Th) (p : Int) (i : Nat) : (kidsN ts p i).length ≤ i := by
  unfold kidsN
  rw [List.length_map]
  have := List.length_filter_le (fun j => decide (p ∈ (ts.getD j ("", [])).2)) (List.range i)
  rw [List.length_range] at this
  exact this
end My

namespace My
open PySem L2
/-! ### webs: equality, copies, children, above (a number that is no thing) -/
def spWEq (C Cs : Addr) : Sp := fun vs H Q _ => ∃ (y x l m y2 x2 l2 m2 : Addr) (ts us : List Th) (rs rs2 : List Row), vs = [.ref y, .ref y2] ∧ Wb C H y x l m ts ∧ Wb C H y2 x2 l2 m2 us ∧ ShO Cs H x rs ∧ ShO Cs H x2 rs2 ∧ wordsOk rs ∧ wordsOk rs2 ∧ thsWords ts ∧ thsWords us ∧
  Q (.bl (decide (rs = rs2) && decide (ts = us))) H
def spWCopy (C Cs : Addr) : Sp := fun vs H Q _ => ∃ (y x l m : Addr) (ts : List Th) (rs : List Row), vs = [.ref y] ∧ Wb C H y x l m ts ∧ ShO Cs H x rs ∧ (∀ k th, ts[k]? = some th → PGood rs (ts.take k) th.1 th.2 ∧ th.2.length ≤ 3) ∧ ts.length ≤ 990 ∧
  ∀ y' l' m' H', Same H H' → H y' = none → H l' = none → H m' = none → Wb C H' y' x l' m' ts → Q (.ref y') H'
def spWKids (C X : Addr) : Sp := fun vs H Q E => ∃ (y x l m : Addr) (p : Int) (ts : List Th), vs = [.ref y, .int p] ∧ Wb C H y x l m ts ∧ ts.length ≤ 1000 ∧ (inW ts p → ∀ u H', Same H H' → H u = none → H' u = some (.tup ((kidsN ts p ts.length).map V.int)) → Q (.ref u) H') ∧ (¬ inW ts p → ErrS X "thing" (.int p) H E)
section
variable {w : World} {K : PySem.W.Frag} {mg : Str → Option Value} {base : Heap}
end
end My

namespace My
open PySem L2
/-! ### standings: what was locked, in this order; own or share; dropped since -/
abbrev Lk := Int × Bool × Bool
def wordL (o : Bool) : Str := if o then "own" else "share"
def kvL (k : Lk) : Key × V := (.inl k.1, .str (wordL k.2.1))
def msOf (tr : List Lk) : List (Key × V) := tr.map kvL
def hsOf (tr : List Lk) : List (Key × V) := (tr.filter fun k => !k.2.2).map kvL
def thsL (tr : List Lk) : List Int := tr.map (·.1)
def lkAt (tr : List Lk) (t : Int) : Option Lk := tr.find? fun k => decide (k.1 = t)
def dropT (tr : List Lk) (t : Int) : List Lk := tr.map fun k => if k.1 = t then (k.1, k.2.1, true) else k
def looseL (tr : List Lk) : Bool := tr.any (·.2.2)
theorem key_inl {a b : Int} : ((.inl a : Key) = .inl b) ↔ a = b := ⟨fun h => by injection h, fun h => by rw [h]⟩
theorem lkAt_cons (k : Lk) (tr : List Lk) (t : Int) : lkAt (k :: tr) t = if k.1 = t then some k else lkAt tr t := by
  unfold lkAt
  rw [List.find?_cons]
  by_cases c : k.1 = t
  · rw [decide_eq_true c, if_pos c]
  · rw [decide_eq_false c, if_neg c]
theorem lkAt_none {tr : List Lk} {t : Int} : lkAt tr t = none ↔ t ∉ thsL tr := by
  unfold lkAt thsL
  rw [List.find?_eq_none]
  constructor
  · rintro h m
    obtain ⟨k, hk, e⟩ := List.mem_map.mp m
    exact h k hk (decide_eq_true e)
  · intro h k hk e
    exact h (List.mem_map.mpr ⟨k, hk, of_decide_eq_true e⟩)
theorem valV_ms (t : Int) : ∀ tr : List Lk, valV (msOf tr) (.inl t) = (lkAt tr t).map fun k => V.str (wordL k.2.1)
  | [] => rfl
  | k :: tr => by
    rw [lkAt_cons]
    by_cases c : k.1 = t
    · rw [if_pos c]
      exact valV_pos (p := kvL k) (key_inl.mpr c)
    · rw [if_neg c, ← valV_ms t tr]
      exact valV_neg (p := kvL k) (fun h => c (key_inl.mp h))
def heldAt (tr : List Lk) (t : Int) : Option Lk := (lkAt tr t).filter fun k => !k.2.2
theorem valV_hs (t : Int) : ∀ tr : List Lk, (thsL tr).Nodup → valV (hsOf tr) (.inl t) = (heldAt tr t).map fun k => V.str (wordL k.2.1)
  | [], _ => rfl
  | k :: tr, nd => by
    have nd' := List.nodup_cons.mp nd
    have ih := valV_hs t tr nd'.2
    unfold heldAt at ih ⊢
    rw [lkAt_cons]
    by_cases c : k.1 = t
    · rw [if_pos c]
      cases d : k.2.2 with
      | false =>
        have e : hsOf (k :: tr) = kvL k :: hsOf tr := by unfold hsOf; rw [List.filter_cons, d]; rfl
        rw [e, valV_pos (p := kvL k) (key_inl.mpr c)]
        simp [Option.filter, d, kvL]
      | true =>
        have e : hsOf (k :: tr) = hsOf tr := by unfold hsOf; rw [List.filter_cons, d]; rfl
        have e2 : lkAt tr t = none := lkAt_none.mpr (fun m => nd'.1 (by show k.1 ∈ _; rw [c]; exact m))
        rw [e, ih, e2]
        simp [Option.filter, d]
    · rw [if_neg c, ← ih]
      cases d : k.2.2 with
      | false =>
        have e : hsOf (k :: tr) = kvL k :: hsOf tr := by unfold hsOf; rw [List.filter_cons, d]; rfl
        rw [e, valV_neg (p := kvL k) (fun h => c (key_inl.mp h))]
      | true =>
        have e : hsOf (k :: tr) = hsOf tr := by unfold hsOf; rw [List.filter_cons, d]; rfl
        rw [e]
theorem dropK_hs (t : Int) : ∀ tr : List Lk, dropK (hsOf tr) (.inl t) = hsOf (dropT tr t)
  | [] => rfl
  | k :: tr => by
    have ih := dropK_hs t tr
    unfold dropK at ih ⊢
    unfold dropT at ih ⊢
    rw [List.map_cons]
    by_cases c : k.1 = t
    · have e2 : hsOf ((if k.1 = t then (k.1, k.2.1, true) else k) :: tr.map fun k => if k.1 = t then (k.1, k.2.1, true) else k) = hsOf (tr.map fun k => if k.1 = t then (k.1, k.2.1, true) else k) := by rw [if_pos c]; rfl
      rw [e2, ← ih]
      cases d : k.2.2 with
      | false =>
        have e : hsOf (k :: tr) = kvL k :: hsOf tr := by unfold hsOf; rw [List.filter_cons, d]; rfl
        rw [e, List.filter_cons, if_neg]
        simp [kvL, c]
      | true =>
        have e : hsOf (k :: tr) = hsOf tr := by unfold hsOf; rw [List.filter_cons, d]; rfl
        rw [e]
    · rw [if_neg c]
      cases d : k.2.2 with
      | false =>
        have e : ∀ r : List Lk, hsOf (k :: r) = kvL k :: hsOf r := fun r => by unfold hsOf; rw [List.filter_cons, d]; rfl
        rw [e, e, List.filter_cons, if_pos, ih]
        simp [kvL, c]
      | true =>
        have e : ∀ r : List Lk, hsOf (k :: r) = hsOf r := fun r => by unfold hsOf; rw [List.filter_cons, d]; rfl
        rw [e, e, ih]
theorem putK_new {kvs : List (Key × V)} {k : Key} {v : V} (h : valV kvs k = none) : putK kvs k v = kvs ++ [(k, v)] := by
  unfold putK
  rw [if_neg]
  rw [valV_any, h]; simp
theorem hsOf_snoc (tr : List Lk) (k : Lk) (d : k.2.2 = false) : hsOf (tr ++ [k]) = hsOf tr ++ [kvL k] := by
  unfold hsOf; rw [List.filter_append, List.map_append]; simp [d]
theorem msOf_snoc (tr : List Lk) (k : Lk) : msOf (tr ++ [k]) = msOf tr ++ [kvL k] := by unfold msOf; rw [List.map_append]; rfl
theorem hsOf_len (tr : List Lk) : (hsOf tr).length ≤ tr.length := by unfold hsOf; rw [List.length_map]; exact List.length_filter_le _ _
theorem thsL_drop (tr : List Lk) (t : Int) : thsL (dropT tr t) = thsL tr := by
  unfold thsL dropT
  rw [List.map_map]
  refine List.map_congr_left fun k _ => ?_
  show (if k.1 = t then (k.1, k.2.1, true) else k).1 = k.1
  split <;> rfl
theorem loose_drop {tr : List Lk} {t : Int} (h : t ∈ thsL tr) : looseL (dropT tr t) = true := by
  unfold looseL dropT thsL at *
  obtain ⟨k, hk, e⟩ := List.mem_map.mp h
  rw [List.any_map, List.any_eq_true]
  exact ⟨k, hk, by simp [e]⟩
structure Sto (C : Addr) (H : Hp) (y w a b : Addr) (tr : List Lk) : Prop where
  obj : ∃ dx, H y = some (.ins C dx [("web", .ref w), ("_modes", .ref a), ("_holds", .ref b), ("_loose", .bl (looseL tr))])
  ms : H a = some (.dK (msOf tr))
  hs : H b = some (.dK (hsOf tr))
  ne : a ≠ b
theorem Sto.keep {C : Addr} {H H' : Hp} {y w a b : Addr} {tr : List Lk} (h : Sto C H y w a b tr) (hy : ∀ o, H y = some o → H' y = some o) (ha : ∀ o, H a = some o → H' a = some o) (hb : ∀ o, H b = some o → H' b = some o) : Sto C H' y w a b tr := by
  obtain ⟨⟨dx, e⟩, f, g, ne⟩ := h
  exact ⟨⟨dx, hy _ e⟩, ha _ f, hb _ g, ne⟩
theorem Sto.same {C : Addr} {H H' : Hp} {y w a b : Addr} {tr : List Lk} (h : Sto C H y w a b tr) (s : Same H H') : Sto C H' y w a b tr := h.keep (fun _ => s _ _) (fun _ => s _ _) (fun _ => s _ _)
theorem st_look1 (w a b : Addr) (lo : V) : List.lookup ("web" : Str) [(("web" : Str), V.ref w), ("_modes", V.ref a), ("_holds", V.ref b), ("_loose", lo)] = some (V.ref w) := rfl
theorem st_look2 (w a b : Addr) (lo : V) : List.lookup ("_modes" : Str) [(("web" : Str), V.ref w), ("_modes", V.ref a), ("_holds", V.ref b), ("_loose", lo)] = some (V.ref a) := rfl
theorem st_look3 (w a b : Addr) (lo : V) : List.lookup ("_holds" : Str) [(("web" : Str), V.ref w), ("_modes", V.ref a), ("_holds", V.ref b), ("_loose", lo)] = some (V.ref b) := rfl
theorem st_look4 (w a b : Addr) (lo : V) : List.lookup ("_loose" : Str) [(("web" : Str), V.ref w), ("_modes", V.ref a), ("_holds", V.ref b), ("_loose", lo)] = some lo := rfl
/-! ### which error is due -/
inductive SE where
  | bad | no | nh | lb | wm
def sharedW (rs : List Row) (ts : List Th) (t : Int) : Bool := ((findR rs (markW ts t)).map (·.sh)).getD false
def deedOk (z : Str) : Prop := z = "own" ∨ z = "share" ∨ z = "drop"
instance (z : Str) : Decidable (deedOk z) := inferInstanceAs (Decidable (_ ∨ _))
def dueS (ts : List Th) (rs : List Row) (tr : List Lk) (z : Str) (t : Int) : Option SE :=
  if ¬ deedOk z then some .bad
  else if ¬ inW ts t then some .no
  else if z = "drop" then (if (heldAt tr t).isSome then none else some .nh)
  else if (lkAt tr t).isSome then some .lb
  else if z = "share" ∧ sharedW rs ts t = false then some .wm
  else none
def errS (z : Str) (t : Int) (H' : Hp) (d : Addr) : SE → Prop
  | .no => H' d = some (.xd [("thing", .int t)])
  | _ => ∃ u, H' d = some (.xd [("step", .ref u)]) ∧ H' u = some (.tup [.str z, .int t])
def clsS (BS NT NH LB WM : Addr) : SE → Addr
  | .bad => BS | .no => NT | .nh => NH | .lb => LB | .wm => WM
theorem lkAt_mem {tr : List Lk} (nd : (thsL tr).Nodup) {k : Lk} (h : k ∈ tr) : lkAt tr k.1 = some k := by
  induction tr with
  | nil => cases h
  | cons a tr ih =>
    have nd' := List.nodup_cons.mp nd
    rw [lkAt_cons]
    rcases List.mem_cons.mp h with rfl | h
    · rw [if_pos rfl]
    · have : a.1 ≠ k.1 := fun e => nd'.1 (by show a.1 ∈ _; rw [e]; exact List.mem_map.mpr ⟨k, h, rfl⟩)
      rw [if_neg this]
      exact ih nd'.2 h
end My

namespace My
open PySem L2
def spStInit (C : Addr) : Sp := fun vs H Q _ => ∃ (y dy w : Addr), vs = [.ref y, .ref w] ∧ H y = some (.ins C dy []) ∧ ∀ a b H', But y H H' → H a = none → H b = none → Sto C H' y w a b [] → Q .non H'
/-- what a standing stands on -/
structure OnW (Cw Cs : Addr) (H : Hp) (w x l m : Addr) (ts : List Th) (rs : List Row) : Prop where
  web : Wb Cw H w x l m ts
  sh : ShO Cs H x rs
  kn : ∀ th ∈ ts, findR rs th.1 ≠ none
theorem OnW.same {Cw Cs : Addr} {H H' : Hp} {w x l m : Addr} {ts : List Th} {rs : List Row} (h : OnW Cw Cs H w x l m ts rs) (s : Same H H') : OnW Cw Cs H' w x l m ts rs := ⟨h.web.same s, h.sh.same s, h.kn⟩
def stepAt (H : Hp) (p : Addr) (z : Str) (t : Int) : Prop := H p = some (.lst [.str z, .int t]) ∨ H p = some (.tup [.str z, .int t])
theorem stepAt.same {H H' : Hp} {p : Addr} {z : Str} {t : Int} (h : stepAt H p z t) (s : Same H H') : stepAt H' p z t := h.imp (s _ _) (s _ _)
def spStCheck (C Cw Cs BS NT NH LB WM : Addr) : Sp := fun vs H Q E => ∃ (y w a b p x l m : Addr) (tr : List Lk) (ts : List Th) (rs : List Row) (z : Str) (t : Int), vs = [.ref y, .ref p] ∧ Sto C H y w a b tr ∧ (thsL tr).Nodup ∧ OnW Cw Cs H w x l m ts rs ∧ stepAt H p z t ∧
  (dueS ts rs tr z t = none → ∀ H', Same H H' → Q .non H') ∧ (∀ e, dueS ts rs tr z t = some e → ∀ H' d, Same H H' → H d = none → errS z t H' d e → E (.ref (clsS BS NT NH LB WM e)) (some d) H')
def actS (tr : List Lk) (z : Str) (t : Int) : List Lk := if z = "drop" then dropT tr t else tr ++ [(t, decide (z = "own"), false)]
def spStTake (C Cw Cs BS NT NH LB WM : Addr) : Sp := fun vs H Q E => ∃ (y w a b p x l m : Addr) (tr : List Lk) (ts : List Th) (rs : List Row) (z : Str) (t : Int), vs = [.ref y, .ref p] ∧ Sto C H y w a b tr ∧ (thsL tr).Nodup ∧ tr.length ≤ 1000 ∧ OnW Cw Cs H w x l m ts rs ∧ stepAt H p z t ∧
  (dueS ts rs tr z t = none → ∀ H', Le [y, a, b] H H' → Sto C H' y w a b (actS tr z t) → Q .non H') ∧ (∀ e, dueS ts rs tr z t = some e → ∀ H' d, Same H H' → H d = none → errS z t H' d e → E (.ref (clsS BS NT NH LB WM e)) (some d) H')
def spStBegun (C : Addr) : Sp := fun vs H Q _ => ∃ (y w a b : Addr) (tr : List Lk), vs = [.ref y] ∧ Sto C H y w a b tr ∧ Q (.bl (decide (0 < (tr.length : Int)))) H
def spStLoose (C : Addr) : Sp := fun vs H Q _ => ∃ (y w a b : Addr) (tr : List Lk), vs = [.ref y] ∧ Sto C H y w a b tr ∧ Q (.bl (looseL tr)) H
def holdL (tr : List Lk) : List Int := thsL (tr.filter fun k => !k.2.2)
def spStHolding (C : Addr) : Sp := fun vs H Q _ => ∃ (y w a b : Addr) (tr : List Lk), vs = [.ref y] ∧ Sto C H y w a b tr ∧ ∀ u H', Same H H' → H u = none → H' u = some (.tup ((holdL tr).map V.int)) → Q (.ref u) H'
def wordO (k : Option Lk) : Str := (k.map fun k => wordL k.2.1).getD ""
def spStHeld (C : Addr) : Sp := fun vs H Q _ => ∃ (y w a b : Addr) (tr : List Lk) (t : Int), vs = [.ref y, .int t] ∧ Sto C H y w a b tr ∧ (thsL tr).Nodup ∧ Q (.str (wordO (heldAt tr t))) H
def spStLocked (C : Addr) : Sp := fun vs H Q _ => ∃ (y w a b : Addr) (tr : List Lk) (t : Int), vs = [.ref y, .int t] ∧ Sto C H y w a b tr ∧ Q (.str (wordO (lkAt tr t))) H
theorem wordO_get (k : Option Lk) : ((k.map fun k => V.str (wordL k.2.1)).getD (.str "")) = .str (wordO k) := by cases k <;> rfl
section
variable {w : World} {K : PySem.W.Frag} {mg : Str → Option Value} {base : Heap}
theorem ok_Standing_init (T : Txt K mg) : FnOk PP w K mg base CX0 1 T.a_Standing_init T.fd_Standing_init ["self", "web"] (spStInit T.c_Standing) := by
  refine T.F_Standing_init.ok sc_Standing_init (fun vs H Q E h => ?_) (fun cdv A outer s H vs Q E hr h => ?_)
  · obtain ⟨y, dy, x, rfl, _⟩ := h; rfl
  · obtain ⟨y, dy, x, rfl, hy, q⟩ := h
    refine ⟨_, (pss_cons (ps_fld (pv 0) (pv 1) rfl)
      (pss_cons (ps_fld (pv 0) (pe_dnewK) rfl)
      (pss_cons (ps_fld (pv 0) (pe_dnewK) rfl)
      (pss_one (ps_fld (pv 0) (pe_bl) rfl))))), ?_⟩
    refine ⟨_, rfl, _, rfl, y, _, dy, _, rfl, hy, T.cl_Standing, T.no_Standing_web, by show 0 < 1000; decide, ?_⟩
    refine fun l hl => ⟨_, rfl, y, _, dy, _, rfl, same_new hl _ _ upd_same, T.cl_Standing, T.no_Standing__modes, by show 1 < 1000; decide, ?_⟩
    have nly : l ≠ y := fun e => by rw [e, upd_same] at hl; cases hl
    have nl0 : H l = none := by rw [upd_ne nly] at hl; exact hl
    refine fun m hm => ⟨_, rfl, y, _, dy, _, rfl, same_new hm _ _ upd_same, T.cl_Standing, T.no_Standing__holds, by show 2 < 1000; decide, ?_⟩
    have nmy : m ≠ y := fun e => by rw [e, upd_same] at hm; cases hm
    have nml : m ≠ l := fun e => by rw [e, upd_ne nly, upd_same] at hm; cases hm
    have nm0 : H m = none := by rw [upd_ne nmy, upd_ne nml, upd_ne nmy] at hm; exact hm
    refine ⟨_, rfl, y, _, dy, _, rfl, upd_same, T.cl_Standing, T.no_Standing__loose, by show 3 < 1000; decide, ?_⟩
    refine q l m _ (fun b o n h => ?_) nl0 nm0 ⟨⟨dy, upd_same⟩, ?_, ?_, nml.symm⟩
    · rw [upd_ne n, upd_ne n, upd_ne (ne_of_none h nm0), upd_ne n, upd_ne (ne_of_none h nl0), upd_ne n]; exact h
    · rw [upd_ne nly, upd_ne nly, upd_ne nml.symm, upd_ne nly, upd_same]; rfl
    · rw [upd_ne nmy, upd_ne nmy, upd_same]; rfl
theorem ok_Standing_held_mode (T : Txt K mg) : FnOk PP w K mg base CX0 1 T.a_Standing_held_mode T.fd_Standing_held_mode ["self", "thing"] (spStHeld T.c_Standing) := by
  refine T.F_Standing_held_mode.ok sc_Standing_held_mode (fun vs H Q E h => ?_) (fun cdv A outer s H vs Q E hr h => ?_)
  · obtain ⟨y, x, a, b, tr, t, rfl, _⟩ := h; rfl
  · obtain ⟨y, x, a, b, tr, t, rfl, S, nd, q⟩ := h
    obtain ⟨⟨dy, hy⟩, ha, hb, ne⟩ := id S
    refine ⟨_, (pss_one (ps_ret (pe_dget2 (hu_of hr) (pe_fld (pv 0) rfl) (pv 1) (pe_str) ⟨by rfl, by rfl, by rfl, by rfl⟩))), ?_⟩
    refine ⟨_, rfl, y, _, dy, _, _, rfl, hy, T.cl_Standing, T.no_Standing__holds, st_look3 x a b _, b, rfl, .inl ⟨_, .of hb⟩, _, rfl, _, DGet.k (k := .inl t) hb, ?_⟩
    rw [valV_hs t tr nd, wordO_get]
    exact q
end
end My

namespace My
open PySem L2
theorem due_bad {ts : List Th} {rs : List Row} {tr : List Lk} {z : Str} {t : Int} (h : ¬ deedOk z) : dueS ts rs tr z t = some .bad := by unfold dueS; rw [if_pos h]
theorem due_no {ts : List Th} {rs : List Row} {tr : List Lk} {z : Str} {t : Int} (h : deedOk z) (i : ¬ inW ts t) : dueS ts rs tr z t = some .no := by unfold dueS; rw [if_neg (fun k => k h), if_pos i]
theorem due_drop {ts : List Th} {rs : List Row} {tr : List Lk} {t : Int} (i : inW ts t) : dueS ts rs tr "drop" t = if (heldAt tr t).isSome then none else some .nh := by
  unfold dueS; rw [if_neg (fun k => k (.inr (.inr rfl))), if_neg (fun k => k i), if_pos rfl]
theorem due_lock {ts : List Th} {rs : List Row} {tr : List Lk} {z : Str} {t : Int} (h : deedOk z) (i : inW ts t) (n : z ≠ "drop") : dueS ts rs tr z t = if (lkAt tr t).isSome then some .lb else if z = "share" ∧ sharedW rs ts t = false then some .wm else none := by
  unfold dueS; rw [if_neg (fun k => k h), if_neg (fun k => k i), if_neg n]
theorem deed_mem {z : Str} : z ∈ (["own", "share", "drop"] : List Str) ↔ deedOk z := by
  unfold deedOk
  simp only [List.mem_cons, List.not_mem_nil, or_false]
theorem modes_mem {z : Str} {sh : Bool} (h : deedOk z) (n : z ≠ "drop") : inV (.str z) (modesV sh) = decide (¬ (z = "share" ∧ sh = false)) := by
  have e : modesV sh = (if sh then ["own", "share"] else ["own"] : List Str).map V.str := by cases sh <;> rfl
  rw [e, in_strs]
  refine decide_eq_decide.mpr ?_
  rcases h with rfl | rfl | rfl
  · cases sh <;> simp (decide := true)
  · cases sh <;> simp (decide := true)
  · exact absurd rfl n
theorem flat_modes (sh : Bool) : (modesV sh).all flatV = true := by
  have e : modesV sh = (if sh then ["own", "share"] else ["own"] : List Str).map V.str := by cases sh <;> rfl
  rw [e]; exact flat_strs _
section
variable {w : World} {K : PySem.W.Frag} {mg : Str → Option Value} {base : Heap}
set_option maxHeartbeats 16000000 in
set_option pp.maxSteps 600 in
theorem ok_Standing_check (T : Txt K mg) : FnOk PP w K mg base (L2.CX PP w) 7 T.a_Standing_check T.fd_Standing_check ["self", "step"] (spStCheck T.c_Standing T.c_Web T.c_Shape T.c_BadStep T.c_NoThing T.c_NotHeld T.c_LockedBefore T.c_WrongMode) := by
  refine T.F_Standing_check.okX sc_Standing_check (fun vs H Q E h => ?_) (fun cdv A outer s H vs Q E hr h => ?_)
  · obtain ⟨y, wb, a, b, p, x, l, m, tr, ts, rs, z, t, rfl, _⟩ := h; rfl
  · obtain ⟨y, wb, a, b, p, x, l, m, tr, ts, rs, z, t, rfl, S, nd, W, hp, q, qe⟩ := h
    refine ⟨_, (pss_cons (ps_asg (pv 1) (pg_seq rfl (pgs_cons (pg_name (i := 2) sc_Standing_check.nd rfl (.inl rfl)) (pgs_cons (pg_name (i := 3) sc_Standing_check.nd rfl (.inl rfl)) pgs_nil))))
      (pss_cons (ps_set (i := 1) sc_Standing_check.nd rfl (.inl rfl) (pe_tup (pa_cons (pv 2) (pa_cons (pv 3) pa_nil))))
      (pss_cons (ps_if (pt_cmpR op_notIn_seq (pv 2) (pe_glob (v := .ref T.k_DEEDS) (by rfl) T.g_DEEDS rfl) (by with_unfolding_all rfl)) (pss_one (ps_raiseX rfl T.x_BadStep hr (takes_of rfl rfl rfl rfl) (pa_cons (pv 1) pa_nil))) pss_nil)
      (pss_cons (ps_if (pt_cmpR (op_ninI T.m_Web_contains (ok_Web_contains T) (hr.mono (by omega)) T.b_Web_contains pass0) (pv 3) (pe_fld (pv 0) rfl) (by with_unfolding_all rfl)) (pss_one (ps_raiseX rfl T.x_NoThing hr (takes_of rfl rfl rfl rfl) (pa_cons (pv 3) pa_nil))) pss_nil)
      (pss_cons (ps_if (pt_cmpR op_eq (pv 2) (pe_str) (nomark _)) (pss_cons (ps_if (pt_cmpR (op_ninKd (hu_of hr)) (pv 3) (pe_fld (pv 0) rfl) (by with_unfolding_all rfl)) (pss_one (ps_raiseX rfl T.x_NotHeld hr (takes_of rfl rfl rfl rfl) (pa_cons (pv 1) pa_nil))) pss_nil)
      (pss_one ps_retN)) pss_nil)
      (pss_cons (ps_if (pt_cmpR (op_inKd (hu_of hr)) (pv 3) (pe_fld (pv 0) rfl) (by with_unfolding_all rfl)) (pss_one (ps_raiseX rfl T.x_LockedBefore hr (takes_of rfl rfl rfl rfl) (pa_cons (pv 1) pa_nil))) pss_nil)
      (pss_one (ps_if (pt_cmpR op_notIn_seq (pv 2) (pe_meth (pe_fld (pe_fld (pv 0) rfl) rfl) T.cl_Shape T.m_Shape_modes_of (ok_Shape_modes_of T) (hr.mono (by omega)) T.b_Shape_modes_of .nil (passes_call (takes_of rfl rfl rfl rfl) (fun _ _ _ _ h => h)) (pa_cons (pe_meth (pe_fld (pv 0) rfl) T.cl_Web T.m_Web_mark_of (ok_Web_mark_of T) (hr.mono (by omega)) T.b_Web_mark_of .nil (passes_call (takes_of rfl rfl rfl rfl) (fun _ _ _ _ h => h)) (pa_cons (pv 3) pa_nil)) pa_nil)) (by with_unfolding_all rfl)) (pss_one (ps_raiseX rfl T.x_WrongMode hr (takes_of rfl rfl rfl rfl) (pa_cons (pv 1) pa_nil))) pss_nil)))))))), ?_⟩
    have big : 100000 < sizeLine := by decide
    rcases hp with hp | hp
    · refine ⟨_, rfl, .inr ⟨p, _, rfl, SqL.of hp, rfl, _, _, rfl, _, _, rfl, rfl, ?_⟩⟩
      refine ⟨_, rfl, _, rfl, by show 2 ≤ sizeLine; decide, fun u nu => ?_⟩
      have s1 := same_new (o := .tup [.str z, .int t]) nu
      have hu : (upd H u (.tup [.str z, .int t])) u = some (.tup [.str z, .int t]) := upd_same
      revert s1 hu
      generalize upd H u (.tup [.str z, .int t]) = H1
      intro s1 hu
      have S1 := S.same s1
      have W1 := W.same s1
      obtain ⟨⟨dy, hy⟩, ha, hb, ne⟩ := id S1
      obtain ⟨dw, hw⟩ := W1.web.obj
      obtain ⟨dx, _, _, _, hx, _⟩ := id W1.sh
      have er : ∀ {H' d} (e : SE), e ≠ .no → dueS ts rs tr z t = some e → Same H1 H' → H1 d = none → H' d = some (.xd [("step", .ref u)]) → E (.ref (clsS T.c_BadStep T.c_NoThing T.c_NotHeld T.c_LockedBefore T.c_WrongMode e)) (some d) H' := fun {H' d} e ne du s n hd => by
        refine qe e du H' d (s1.trans s) (s1.free n) ?_
        cases e with
        | no => exact absurd rfl ne
        | bad => exact ⟨u, hd, s _ _ hu⟩
        | nh => exact ⟨u, hd, s _ _ hu⟩
        | lb => exact ⟨u, hd, s _ _ hu⟩
        | wm => exact ⟨u, hd, s _ _ hu⟩
      refine ⟨_, rfl, _, _, rfl, .inr (show SqT K _ T.k_DEEDS ((["own", "share", "drop"] : List Str).map V.str) from T.q_DEEDS _), rfl, flat_strs _, ?_⟩
      rw [in_strs]
      refine ⟨_, rfl, iteN (fun c => ?_) (fun c => ?_)⟩
      · exact ⟨_, rfl, _, rfl, fun d hd => er .bad (by intro h; cases h) (due_bad fun h => c (deed_mem.mpr h)) (same_new hd) hd upd_same⟩
      have ok := deed_mem.mp c
      refine ⟨_, rfl, _, rfl, y, _, dy, _, _, rfl, hy, T.cl_Standing, T.no_Standing_web, st_look1 wb a b _, wb, dw, _, rfl, hw, wb, x, l, m, t, ts, rfl, W1.web, _, rfl, _, rfl, ?_⟩
      by_cases i : inW ts t
      rotate_left
      · refine iteYes (by show (!decide (inW ts t)) = true; rw [decide_eq_false i]; rfl) ?_
        exact ⟨_, rfl, _, rfl, fun d hd => qe .no (due_no ok i) _ d (s1.trans (same_new hd)) (s1.free hd) upd_same⟩
      refine iteNo (by show (!decide (inW ts t)) = false; rw [decide_eq_true i]; rfl) ?_
      refine ⟨_, rfl, rfl, _, rfl, iteD (fun c2 => ?_) (fun c2 => ?_)⟩
      · obtain rfl : z = "drop" := V.str.inj c2
        refine ⟨_, rfl, _, rfl, y, _, dy, _, _, rfl, hy, T.cl_Standing, T.no_Standing__holds, st_look3 wb a b _, b, _, rfl, DGet.k (k := .inl t) hb, _, rfl, ?_⟩
        rw [valV_hs t tr nd]
        have du := due_drop (rs := rs) (tr := tr) i
        cases hh : heldAt tr t with
        | none =>
          rw [hh] at du
          exact iteYes rfl ⟨_, rfl, _, rfl, fun d hd => er .nh (by intro h; cases h) du (same_new hd) hd upd_same⟩
        | some k =>
          rw [hh] at du
          exact iteNo rfl (q du H1 s1)
      have nz : z ≠ "drop" := fun h => c2 (by rw [h])
      have du := due_lock (rs := rs) (tr := tr) ok i nz
      refine ⟨_, rfl, _, rfl, y, _, dy, _, _, rfl, hy, T.cl_Standing, T.no_Standing__modes, st_look2 wb a b _, a, _, rfl, DGet.k (k := .inl t) ha, _, rfl, ?_⟩
      rw [valV_ms t tr]
      cases hh : lkAt tr t with
      | some k =>
        rw [hh] at du
        exact iteYes rfl ⟨_, rfl, _, rfl, fun d hd => er .lb (by intro h; cases h) du (same_new hd) hd upd_same⟩
      | none =>
        rw [hh] at du
        refine iteNo rfl ?_
        refine ⟨_, rfl, _, rfl, y, _, dy, _, _, rfl, hy, T.cl_Standing, T.no_Standing_web, st_look1 wb a b _, wb, _, dw, _, _, rfl, hw, T.cl_Web, T.no_Web_shape, wb_look1 x l m, x, dx, _, rfl, hx, rfl, _, rfl, y, _, dy, _, _, rfl, hy, T.cl_Standing, T.no_Standing_web, st_look1 wb a b _, wb, dw, _, rfl, hw, rfl, _, rfl, wb, x, l, m, t, ts, rfl, W1.web, fun _ => ?_, fun n => absurd i n⟩
        have kn : findR rs (markW ts t) ≠ none := by
          obtain ⟨th, e1, e2⟩ := inW_get i
          rw [e2]; exact W.kn th (List.mem_of_getElem? e1)
        refine ⟨x, markW ts t, rs, rfl, W1.sh, fun r tt H2 hf s2 hT => ?_, fun no => absurd no kn⟩
        have es : sharedW rs ts t = r.sh := by unfold sharedW; rw [hf]; rfl
        rw [es] at du
        refine ⟨_, _, rfl, .inr hT.sq, rfl, flat_modes r.sh, ?_⟩
        rw [modes_mem ok nz]
        refine ⟨_, rfl, iteN (fun c3 => ?_) (fun c3 => ?_)⟩
        · have c3 := Classical.not_not.mp c3
          have du : dueS ts rs tr z t = some .wm := by rw [du]; exact if_pos c3
          exact ⟨_, rfl, _, rfl, fun d hd => er .wm (by intro h; cases h) du (s2.trans (same_new hd)) (s2.free hd) upd_same⟩
        · have du : dueS ts rs tr z t = none := by rw [du]; exact if_neg c3
          exact q du H2 (s1.trans s2)
    · refine ⟨_, rfl, .inl ⟨p, _, rfl, SqT.of hp, rfl, _, _, rfl, _, _, rfl, rfl, ?_⟩⟩
      refine ⟨_, rfl, _, rfl, by show 2 ≤ sizeLine; decide, fun u nu => ?_⟩
      have s1 := same_new (o := .tup [.str z, .int t]) nu
      have hu : (upd H u (.tup [.str z, .int t])) u = some (.tup [.str z, .int t]) := upd_same
      revert s1 hu
      generalize upd H u (.tup [.str z, .int t]) = H1
      intro s1 hu
      have S1 := S.same s1
      have W1 := W.same s1
      obtain ⟨⟨dy, hy⟩, ha, hb, ne⟩ := id S1
      obtain ⟨dw, hw⟩ := W1.web.obj
      obtain ⟨dx, _, _, _, hx, _⟩ := id W1.sh
      have er : ∀ {H' d} (e : SE), e ≠ .no → dueS ts rs tr z t = some e → Same H1 H' → H1 d = none → H' d = some (.xd [("step", .ref u)]) → E (.ref (clsS T.c_BadStep T.c_NoThing T.c_NotHeld T.c_LockedBefore T.c_WrongMode e)) (some d) H' := fun {H' d} e ne du s n hd => by
        refine qe e du H' d (s1.trans s) (s1.free n) ?_
        cases e with
        | no => exact absurd rfl ne
        | bad => exact ⟨u, hd, s _ _ hu⟩
        | nh => exact ⟨u, hd, s _ _ hu⟩
        | lb => exact ⟨u, hd, s _ _ hu⟩
        | wm => exact ⟨u, hd, s _ _ hu⟩
      refine ⟨_, rfl, _, _, rfl, .inr (show SqT K _ T.k_DEEDS ((["own", "share", "drop"] : List Str).map V.str) from T.q_DEEDS _), rfl, flat_strs _, ?_⟩
      rw [in_strs]
      refine ⟨_, rfl, iteN (fun c => ?_) (fun c => ?_)⟩
      · exact ⟨_, rfl, _, rfl, fun d hd => er .bad (by intro h; cases h) (due_bad fun h => c (deed_mem.mpr h)) (same_new hd) hd upd_same⟩
      have ok := deed_mem.mp c
      refine ⟨_, rfl, _, rfl, y, _, dy, _, _, rfl, hy, T.cl_Standing, T.no_Standing_web, st_look1 wb a b _, wb, dw, _, rfl, hw, wb, x, l, m, t, ts, rfl, W1.web, _, rfl, _, rfl, ?_⟩
      by_cases i : inW ts t
      rotate_left
      · refine iteYes (by show (!decide (inW ts t)) = true; rw [decide_eq_false i]; rfl) ?_
        exact ⟨_, rfl, _, rfl, fun d hd => qe .no (due_no ok i) _ d (s1.trans (same_new hd)) (s1.free hd) upd_same⟩
      refine iteNo (by show (!decide (inW ts t)) = false; rw [decide_eq_true i]; rfl) ?_
      refine ⟨_, rfl, rfl, _, rfl, iteD (fun c2 => ?_) (fun c2 => ?_)⟩
      · obtain rfl : z = "drop" := V.str.inj c2
        refine ⟨_, rfl, _, rfl, y, _, dy, _, _, rfl, hy, T.cl_Standing, T.no_Standing__holds, st_look3 wb a b _, b, _, rfl, DGet.k (k := .inl t) hb, _, rfl, ?_⟩
        rw [valV_hs t tr nd]
        have du := due_drop (rs := rs) (tr := tr) i
        cases hh : heldAt tr t with
        | none =>
          rw [hh] at du
          exact iteYes rfl ⟨_, rfl, _, rfl, fun d hd => er .nh (by intro h; cases h) du (same_new hd) hd upd_same⟩
        | some k =>
          rw [hh] at du
          exact iteNo rfl (q du H1 s1)
      have nz : z ≠ "drop" := fun h => c2 (by rw [h])
      have du := due_lock (rs := rs) (tr := tr) ok i nz
      refine ⟨_, rfl, _, rfl, y, _, dy, _, _, rfl, hy, T.cl_Standing, T.no_Standing__modes, st_look2 wb a b _, a, _, rfl, DGet.k (k := .inl t) ha, _, rfl, ?_⟩
      rw [valV_ms t tr]
      cases hh : lkAt tr t with
      | some k =>
        rw [hh] at du
        exact iteYes rfl ⟨_, rfl, _, rfl, fun d hd => er .lb (by intro h; cases h) du (same_new hd) hd upd_same⟩
      | none =>
        rw [hh] at du
        refine iteNo rfl ?_
        refine ⟨_, rfl, _, rfl, y, _, dy, _, _, rfl, hy, T.cl_Standing, T.no_Standing_web, st_look1 wb a b _, wb, _, dw, _, _, rfl, hw, T.cl_Web, T.no_Web_shape, wb_look1 x l m, x, dx, _, rfl, hx, rfl, _, rfl, y, _, dy, _, _, rfl, hy, T.cl_Standing, T.no_Standing_web, st_look1 wb a b _, wb, dw, _, rfl, hw, rfl, _, rfl, wb, x, l, m, t, ts, rfl, W1.web, fun _ => ?_, fun n => absurd i n⟩
        have kn : findR rs (markW ts t) ≠ none := by
          obtain ⟨th, e1, e2⟩ := inW_get i
          rw [e2]; exact W.kn th (List.mem_of_getElem? e1)
        refine ⟨x, markW ts t, rs, rfl, W1.sh, fun r tt H2 hf s2 hT => ?_, fun no => absurd no kn⟩
        have es : sharedW rs ts t = r.sh := by unfold sharedW; rw [hf]; rfl
        rw [es] at du
        refine ⟨_, _, rfl, .inr hT.sq, rfl, flat_modes r.sh, ?_⟩
        rw [modes_mem ok nz]
        refine ⟨_, rfl, iteN (fun c3 => ?_) (fun c3 => ?_)⟩
        · have c3 := Classical.not_not.mp c3
          have du : dueS ts rs tr z t = some .wm := by rw [du]; exact if_pos c3
          exact ⟨_, rfl, _, rfl, fun d hd => er .wm (by intro h; cases h) du (s2.trans (same_new hd)) (s2.free hd) upd_same⟩
        · have du : dueS ts rs tr z t = none := by rw [du]; exact if_neg c3
          exact q du H2 (s1.trans s2)
end
end My

namespace My
open PySem L2
theorem due_none {ts : List Th} {rs : List Row} {tr : List Lk} {z : Str} {t : Int} (h : dueS ts rs tr z t = none) : deedOk z ∧ inW ts t ∧ (z = "drop" → (heldAt tr t).isSome = true) ∧ (z ≠ "drop" → lkAt tr t = none) := by
  unfold dueS at h
  by_cases a : deedOk z
  · rw [if_neg (fun k => k a)] at h
    by_cases i : inW ts t
    · rw [if_neg (fun k => k i)] at h
      refine ⟨a, i, fun e => ?_, fun n => ?_⟩
      · rw [if_pos e] at h
        by_cases c : (heldAt tr t).isSome = true
        · exact c
        · rw [if_neg c] at h; cases h
      · rw [if_neg n] at h
        cases c : lkAt tr t with
        | none => rfl
        | some k => rw [c] at h; cases h
    · rw [if_pos i] at h; cases h
  · rw [if_pos a] at h; cases h
theorem word_own {z : Str} (h : deedOk z) (n : z ≠ "drop") : wordL (decide (z = "own")) = z := by
  rcases h with rfl | rfl | rfl
  · rfl
  · rfl
  · exact absurd rfl n
theorem loose_snoc (tr : List Lk) (k : Lk) (h : k.2.2 = false) : looseL (tr ++ [k]) = looseL tr := by unfold looseL; rw [List.any_append]; simp [h]
section
variable {w : World} {K : PySem.W.Frag} {mg : Str → Option Value} {base : Heap}
set_option maxHeartbeats 16000000 in
set_option pp.maxSteps 600 in
theorem ok_Standing_take (T : Txt K mg) : FnOk PP w K mg base (L2.CX PP w) 9 T.a_Standing_take T.fd_Standing_take ["self", "step"] (spStTake T.c_Standing T.c_Web T.c_Shape T.c_BadStep T.c_NoThing T.c_NotHeld T.c_LockedBefore T.c_WrongMode) := by
  refine T.F_Standing_take.okX sc_Standing_take (fun vs H Q E h => ?_) (fun cdv A outer s H vs Q E hr h => ?_)
  · obtain ⟨y, wb, a, b, p, x, l, m, tr, ts, rs, z, t, rfl, _⟩ := h; rfl
  · obtain ⟨y, wb, a, b, p, x, l, m, tr, ts, rs, z, t, rfl, S, nd, lt, W, hp, q, qe⟩ := h
    refine ⟨_, (pss_cons (ps_expr (pe_meth (pv 0) T.cl_Standing T.m_Standing_check (ok_Standing_check T) (hr.mono (by omega)) T.b_Standing_check .nil (passes_call (takes_of rfl rfl rfl rfl) (fun _ _ _ _ h => h)) (pa_cons (pv 1) pa_nil)))
      (pss_cons (ps_asg (pv 1) (pg_seq rfl (pgs_cons (pg_name (i := 2) sc_Standing_take.nd rfl (.inl rfl)) (pgs_cons (pg_name (i := 3) sc_Standing_take.nd rfl (.inl rfl)) pgs_nil))))
      (pss_one (ps_if (pt_cmpR op_eq (pv 2) (pe_str) (nomark _)) (pss_cons (ps_ddel (pe_fld (pv 0) rfl) (pv 3))
      (pss_one (ps_fld (pv 0) (pe_bl) rfl))) (pss_cons (ps_dput (hu_of hr) (pe_fld (pv 0) rfl) (pv 3) (pv 2) rfl)
      (pss_one (ps_dput (hu_of hr) (pe_fld (pv 0) rfl) (pv 3) (pv 2) rfl))))))), ?_⟩
    have big : 100000 < sizeLine := by decide
    obtain ⟨⟨dy, hy⟩, _⟩ := id S
    refine ⟨_, rfl, y, dy, _, rfl, hy, rfl, _, rfl, y, wb, a, b, p, x, l, m, tr, ts, rs, z, t, rfl, S, nd, W, hp, fun du H1 s1 => ?_, fun e du H' d s n h => qe e du H' d s n h⟩
    obtain ⟨ok, i, dd, dl⟩ := due_none du
    obtain ⟨⟨dy, hy⟩, ha, hb, ne⟩ := S.same s1
    have hp1 := hp.same s1
    have nay : a ≠ y := ne_of ha hy (by intro z; cases z)
    have nby : b ≠ y := ne_of hb hy (by intro z; cases z)
    rcases hp1 with hp1 | hp1
    · refine ⟨_, rfl, .inr ⟨p, _, rfl, SqL.of hp1, rfl, _, _, rfl, _, _, rfl, rfl, ?_⟩⟩
      refine ⟨_, rfl, rfl, _, rfl, iteD (fun c => ?_) (fun c => ?_)⟩
      · obtain rfl : z = "drop" := V.str.inj c
        have hs := dd rfl
        refine ⟨_, rfl, y, _, dy, _, _, rfl, hy, T.cl_Standing, T.no_Standing__holds, st_look3 wb a b _, _, rfl, b, _, .inl t, rfl, hb, rfl, ?_, ?_⟩
        · rw [valV_hs t tr nd, Option.isSome_map]; exact hs
        rw [dropK_hs]
        have hm : t ∈ thsL tr := by
          by_cases m : t ∈ thsL tr
          · exact m
          · unfold heldAt at hs; rw [lkAt_none.mpr m] at hs; cases hs
        refine ⟨_, rfl, y, _, dy, _, rfl, by rw [upd_ne nby.symm]; exact hy, T.cl_Standing, T.no_Standing__loose, by show 4 < 1000; decide, ?_⟩
        refine q du _ (((Le.same s1).trans (.upd (by simp))).trans (.upd (by simp))) ?_
        show Sto _ _ y wb a b (dropT tr t)
        refine ⟨⟨dy, ?_⟩, ?_, ?_, ne⟩
        · rw [upd_same, loose_drop hm]; rfl
        · rw [upd_ne nay, upd_ne ne, ha]
          congr 2
          unfold msOf dropT
          rw [List.map_map]
          refine List.map_congr_left fun k _ => ?_
          show kvL k = kvL (if k.1 = t then (k.1, k.2.1, true) else k)
          split <;> rfl
        · rw [upd_ne nby, upd_same]
      · have nz : z ≠ "drop" := fun h => c (by rw [h])
        have hl := dl nz
        have v1 : valV (msOf tr) (.inl t) = none := by rw [valV_ms, hl]; rfl
        have v2 : valV (hsOf tr) (.inl t) = none := by rw [valV_hs t tr nd]; unfold heldAt; rw [hl]; rfl
        have l1 : (msOf tr).length < sizeLine := by unfold msOf; rw [List.length_map]; omega
        have l2 : (hsOf tr).length < sizeLine := by have := hsOf_len tr; omega
        have ew := word_own ok nz
        refine ⟨_, rfl, _, rfl, y, _, dy, _, _, rfl, hy, T.cl_Standing, T.no_Standing__modes, st_look2 wb a b _, _, rfl, a, _, rfl, DPut.k (k := .inl t) ha l1, ?_⟩
        rw [putK_new v1]
        refine ⟨_, rfl, _, rfl, y, _, dy, _, _, rfl, by rw [upd_ne nay.symm]; exact hy, T.cl_Standing, T.no_Standing__holds, st_look3 wb a b _, _, rfl, b, _, rfl, DPut.k (k := .inl t) (by rw [upd_ne ne.symm]; exact hb) l2, ?_⟩
        rw [putK_new v2]
        refine q du _ (((Le.same s1).trans (.upd (by simp))).trans (.upd (by simp))) ?_
        have ea : actS tr z t = tr ++ [(t, decide (z = "own"), false)] := if_neg nz
        rw [ea]
        refine ⟨⟨dy, ?_⟩, ?_, ?_, ne⟩
        · rw [upd_ne nby.symm, upd_ne nay.symm, loose_snoc _ _ rfl]; exact hy
        · rw [upd_ne ne, upd_same, msOf_snoc]
          unfold kvL
          rw [ew]
        · rw [upd_same, hsOf_snoc _ _ rfl]
          unfold kvL
          rw [ew]
    · refine ⟨_, rfl, .inl ⟨p, _, rfl, SqT.of hp1, rfl, _, _, rfl, _, _, rfl, rfl, ?_⟩⟩
      refine ⟨_, rfl, rfl, _, rfl, iteD (fun c => ?_) (fun c => ?_)⟩
      · obtain rfl : z = "drop" := V.str.inj c
        have hs := dd rfl
        refine ⟨_, rfl, y, _, dy, _, _, rfl, hy, T.cl_Standing, T.no_Standing__holds, st_look3 wb a b _, _, rfl, b, _, .inl t, rfl, hb, rfl, ?_, ?_⟩
        · rw [valV_hs t tr nd, Option.isSome_map]; exact hs
        rw [dropK_hs]
        have hm : t ∈ thsL tr := by
          by_cases m : t ∈ thsL tr
          · exact m
          · unfold heldAt at hs; rw [lkAt_none.mpr m] at hs; cases hs
        refine ⟨_, rfl, y, _, dy, _, rfl, by rw [upd_ne nby.symm]; exact hy, T.cl_Standing, T.no_Standing__loose, by show 4 < 1000; decide, ?_⟩
        refine q du _ (((Le.same s1).trans (.upd (by simp))).trans (.upd (by simp))) ?_
        show Sto _ _ y wb a b (dropT tr t)
        refine ⟨⟨dy, ?_⟩, ?_, ?_, ne⟩
        · rw [upd_same, loose_drop hm]; rfl
        · rw [upd_ne nay, upd_ne ne, ha]
          congr 2
          unfold msOf dropT
          rw [List.map_map]
          refine List.map_congr_left fun k _ => ?_
          show kvL k = kvL (if k.1 = t then (k.1, k.2.1, true) else k)
          split <;> rfl
        · rw [upd_ne nby, upd_same]
      · have nz : z ≠ "drop" := fun h => c (by rw [h])
        have hl := dl nz
        have v1 : valV (msOf tr) (.inl t) = none := by rw [valV_ms, hl]; rfl
        have v2 : valV (hsOf tr) (.inl t) = none := by rw [valV_hs t tr nd]; unfold heldAt; rw [hl]; rfl
        have l1 : (msOf tr).length < sizeLine := by unfold msOf; rw [List.length_map]; omega
        have l2 : (hsOf tr).length < sizeLine := by have := hsOf_len tr; omega
        have ew := word_own ok nz
        refine ⟨_, rfl, _, rfl, y, _, dy, _, _, rfl, hy, T.cl_Standing, T.no_Standing__modes, st_look2 wb a b _, _, rfl, a, _, rfl, DPut.k (k := .inl t) ha l1, ?_⟩
        rw [putK_new v1]
        refine ⟨_, rfl, _, rfl, y, _, dy, _, _, rfl, by rw [upd_ne nay.symm]; exact hy, T.cl_Standing, T.no_Standing__holds, st_look3 wb a b _, _, rfl, b, _, rfl, DPut.k (k := .inl t) (by rw [upd_ne ne.symm]; exact hb) l2, ?_⟩
        rw [putK_new v2]
        refine q du _ (((Le.same s1).trans (.upd (by simp))).trans (.upd (by simp))) ?_
        have ea : actS tr z t = tr ++ [(t, decide (z = "own"), false)] := if_neg nz
        rw [ea]
        refine ⟨⟨dy, ?_⟩, ?_, ?_, ne⟩
        · rw [upd_ne nby.symm, upd_ne nay.symm, loose_snoc _ _ rfl]; exact hy
        · rw [upd_ne ne, upd_same, msOf_snoc]
          unfold kvL
          rw [ew]
        · rw [upd_same, hsOf_snoc _ _ rfl]
          unfold kvL
          rw [ew]
end
end My

namespace My
open PySem L2
/-! ### steps, programs -/
abbrev Stp := Str × Int
def StpAt (H : Hp) (v : V) (s : Stp) : Prop := ∃ t, v = .ref t ∧ H t = some (.tup [.str s.1, .int s.2])
abbrev Stps (H : Hp) (vs : List V) (ss : List Stp) : Prop := Paired (StpAt H) vs ss
/-- tuples stay -/
def TKeep (H H' : Hp) : Prop := ∀ t xs, H t = some (.tup xs) → H' t = some (.tup xs)
theorem TKeep.refl (H : Hp) : TKeep H H := fun _ _ h => h
theorem TKeep.trans {H H1 H2 : Hp} (a : TKeep H H1) (b : TKeep H1 H2) : TKeep H H2 := fun t xs h => b t xs (a t xs h)
theorem TKeep.same {H H' : Hp} (s : Same H H') : TKeep H H' := fun t xs h => s t _ h
theorem TKeep.but {x : Addr} {H H' : Hp} (b : But x H H') (n : ∀ xs, H x ≠ some (.tup xs)) : TKeep H H' := fun t xs h => b t _ (fun e => n xs (e ▸ h)) h
theorem Stps.keep {H H' : Hp} {vs : List V} {ss : List Stp} (h : Stps H vs ss) (k : TKeep H H') : Stps H' vs ss := L2.Paired.mapP h fun _ _ ⟨t, e, q⟩ => ⟨t, e, k t _ q⟩
theorem Stps.same {H H' : Hp} {vs : List V} {ss : List Stp} (h : Stps H vs ss) (s : Same H H') : Stps H' vs ss := h.keep (.same s)
theorem pair_app {α β : Type} {F : α → β → Prop} : ∀ {l l' : List α} {m m' : List β}, Paired F l m → Paired F l' m' → Paired F (l ++ l') (m ++ m')
  | _, _, _, _, .nil, q => q
  | _, _, _, _, .cons r t, q => .cons r (pair_app t q)
theorem pair_take {α β : Type} {F : α → β → Prop} : ∀ {l : List α} {m : List β} (n : Nat), Paired F l m → Paired F (l.take n) (m.take n)
  | _, _, 0, _ => .nil
  | _, _, _ + 1, .nil => .nil
  | _, _, n + 1, .cons r t => .cons r (pair_take n t)
theorem pair_drop {α β : Type} {F : α → β → Prop} : ∀ {l : List α} {m : List β} (n : Nat), Paired F l m → Paired F (l.drop n) (m.drop n)
  | _, _, 0, h => h
  | _, _, _ + 1, .nil => .nil
  | _, _, n + 1, .cons _ t => pair_drop n t
def goodS (s : Stp) : Prop := (s.1 = "own" ∨ s.1 = "share" ∨ s.1 = "drop") ∧ 0 ≤ s.2
def deedsV : List V := [.str "own", .str "share", .str "drop"]
theorem inDeeds {z : Str} (h : z = "own" ∨ z = "share" ∨ z = "drop") : inV (.str z) deedsV = true := by rcases h with rfl | rfl | rfl <;> decide +kernel
/-- a program of the class at C -/
def Pg (C : Addr) (H : Hp) (x : Addr) (ss : List Stp) : Prop := ∃ dx l vs, H x = some (.ins C dx [("_steps", .ref l)]) ∧ H l = some (.lst vs) ∧ Stps H vs ss ∧ vs.length ≤ 1000
theorem Pg.same {C : Addr} {H H' : Hp} {x : Addr} {ss : List Stp} (h : Pg C H x ss) (s : Same H H') : Pg C H' x ss := let ⟨dx, l, vs, a, b, c, d⟩ := h; ⟨dx, l, vs, s _ _ a, s _ _ b, c.same s, d⟩
theorem steps_look (l : Addr) : ([("_steps", V.ref l)] : List (Str × V)).lookup ("_steps" : Str) = some (.ref l) := by rfl
/-- the data of steps -/
def stpD (s : Stp) : PyData := .tuple [.str s.1, .int s.2]
theorem stpD_inj {a b : Stp} (h : stpD a = stpD b) : a = b := by
  unfold stpD at h
  simp only [PyData.tuple.injEq, List.cons.injEq, PyData.str.injEq, PyData.int.injEq, and_true] at h
  exact Prod.ext h.1 h.2
theorem stpsD_inj : ∀ {a b : List Stp}, a.map stpD = b.map stpD → a = b
  | [], [], _ => rfl
  | [], _ :: _, h => by simp at h
  | _ :: _, [], h => by simp at h
  | x :: a, y :: b, h => by
    simp only [List.map_cons, List.cons.injEq] at h
    rw [stpD_inj h.1, stpsD_inj h.2]
theorem stpsDn {K : PySem.W.Frag} {x : Addr} {H : Hp} {vs : List V} {ss : List Stp} (h : Stps H vs ss) (n : ∀ xs, H x ≠ some (.tup xs)) : Paired (Dn K x H 1) vs (ss.map stpD) := by
  induction h with
  | nil => exact .nil
  | cons r t ih =>
    obtain ⟨t, rfl, e⟩ := r
    exact .cons (Dn.tup (fun q => n _ (q ▸ e)) (SqT.of e) (.cons (.str _) (.cons (.int _) .nil))) ih
theorem stpsDL {K : PySem.W.Frag} {x l : Addr} {H : Hp} {vs : List V} {ss : List Stp} (hl : H l = some (.lst vs)) (h : Stps H vs ss) (nl : l ≠ x) (n : ∀ xs, H x ≠ some (.tup xs)) (hz : vs.length ≤ 100000) : Dn K x H 2 (.ref l) (.list (ss.map stpD)) :=
  Dn.lst nl (SqL.of hl) (stpsDn h n) hz
end My

namespace My
open PySem L2
def newL (tr : List Lk) : List Lk := tr.map fun k => (k.1, k.2.1, false)
def halfL (tr : List Lk) (i : Nat) : List Lk := tr.take i ++ newL (tr.drop i)
structure TakeOk (ts : List Th) (rs : List Row) (tr : List Lk) : Prop where
  nd : (thsL tr).Nodup
  inw : ∀ k ∈ tr, inW ts k.1
  sh : ∀ k ∈ tr, k.2.1 = false → sharedW rs ts k.1 = true
theorem thsL_new (tr : List Lk) : thsL (newL tr) = thsL tr := by unfold thsL newL; rw [List.map_map]; rfl
theorem newL_succ {tr : List Lk} {i : Nat} {k : Lk} (h : tr[i]? = some k) : newL (tr.take (i + 1)) = newL (tr.take i) ++ [(k.1, k.2.1, false)] := by
  unfold newL; rw [List.take_add_one, h, List.map_append]; rfl
theorem key_at {tr : List Lk} {i : Nat} {k : Lk} (nd : (thsL tr).Nodup) (h : tr[i]? = some k) : k.1 ∉ thsL (tr.take i) ∧ k.1 ∉ thsL (tr.drop (i + 1)) := by
  have hi := (List.getElem?_eq_some_iff.mp h).1
  have e : tr = tr.take i ++ k :: tr.drop (i + 1) := by
    have := (List.take_append_drop i tr).symm
    rw [List.drop_eq_getElem_cons hi, (List.getElem?_eq_some_iff.mp h).2] at this
    exact this
  have e2 : thsL tr = thsL (tr.take i) ++ k.1 :: thsL (tr.drop (i + 1)) := by
    conv => lhs; rw [e]
    unfold thsL; rw [List.map_append]; rfl
  rw [e2] at nd
  obtain ⟨_, n2, n3⟩ := List.nodup_append.mp nd
  exact ⟨fun m => n3 _ m _ (List.mem_cons_self ..) rfl, (List.nodup_cons.mp n2).1⟩
theorem word_deed (o : Bool) : deedOk (wordL o) ∧ wordL o ≠ "drop" ∧ decide (wordL o = "own") = o := by
  cases o
  · exact ⟨.inr (.inl rfl), by decide, by decide⟩
  · exact ⟨.inl rfl, by decide, by decide⟩
theorem due_lockN {ts : List Th} {rs : List Row} {tr : List Lk} {o : Bool} {t : Int} (i : inW ts t) (n : t ∉ thsL tr) (h : o = false → sharedW rs ts t = true) : dueS ts rs tr (wordL o) t = none := by
  obtain ⟨a, b, _⟩ := word_deed o
  rw [due_lock a i b, lkAt_none.mpr n, if_neg (by simp), if_neg]
  rintro ⟨z, f⟩
  cases o with
  | true => exact absurd z (by decide)
  | false => rw [h rfl] at f; cases f
theorem act_lock {tr : List Lk} {o : Bool} {t : Int} : actS tr (wordL o) t = tr ++ [(t, o, false)] := by
  obtain ⟨_, b, c⟩ := word_deed o
  unfold actS
  rw [if_neg b, c]
theorem half_zero (tr : List Lk) : halfL tr 0 = newL tr := by unfold halfL; rw [List.take_zero, List.drop_zero, List.nil_append]
theorem half_all (tr : List Lk) : halfL tr tr.length = tr := by unfold halfL newL; rw [List.take_length, List.drop_length]; simp
theorem thsL_half (tr : List Lk) (i : Nat) : thsL (halfL tr i) = thsL tr := by
  unfold halfL
  have : thsL (tr.take i ++ newL (tr.drop i)) = thsL (tr.take i) ++ thsL (newL (tr.drop i)) := by unfold thsL; rw [List.map_append]
  rw [this, thsL_new]
  unfold thsL
  rw [← List.map_append, List.take_append_drop]
theorem half_len (tr : List Lk) (i : Nat) : (halfL tr i).length = tr.length := by
  have := congrArg List.length (thsL_half tr i)
  unfold thsL at this
  rw [List.length_map, List.length_map] at this
  exact this
theorem half_at {tr : List Lk} {i : Nat} {k : Lk} (h : tr[i]? = some k) : halfL tr i = tr.take i ++ (k.1, k.2.1, false) :: newL (tr.drop (i + 1)) ∧ halfL tr (i + 1) = tr.take i ++ k :: newL (tr.drop (i + 1)) := by
  have hi := (List.getElem?_eq_some_iff.mp h).1
  constructor
  · unfold halfL
    rw [List.drop_eq_getElem_cons hi, (List.getElem?_eq_some_iff.mp h).2]
    rfl
  · unfold halfL
    rw [List.take_add_one, h]
    simp
theorem half_keep {tr : List Lk} {i : Nat} {k : Lk} (h : tr[i]? = some k) (d : k.2.2 = false) : halfL tr (i + 1) = halfL tr i := by
  obtain ⟨e1, e2⟩ := half_at h
  rw [e1, e2]
  obtain ⟨a, b, c⟩ := k
  have d : c = false := d
  rw [d]
theorem drop_id {l : List Lk} {t : Int} (n : t ∉ thsL l) : dropT l t = l := by
  unfold dropT
  conv => rhs; rw [← List.map_id l]
  refine List.map_congr_left fun k hk => ?_
  rw [if_neg (fun e => n (List.mem_map.mpr ⟨k, hk, e⟩))]; rfl
theorem half_drop {tr : List Lk} (nd : (thsL tr).Nodup) {i : Nat} {k : Lk} (h : tr[i]? = some k) (d : k.2.2 = true) : actS (halfL tr i) "drop" k.1 = halfL tr (i + 1) := by
  obtain ⟨e1, e2⟩ := half_at h
  obtain ⟨n1, n2⟩ := key_at nd h
  show dropT (halfL tr i) k.1 = _
  rw [e1, e2]
  have ap : ∀ l r : List Lk, dropT (l ++ r) k.1 = dropT l k.1 ++ dropT r k.1 := fun l r => by unfold dropT; rw [List.map_append]
  have n2' : k.1 ∉ thsL (newL (tr.drop (i + 1))) := by rw [thsL_new]; exact n2
  rw [ap, drop_id n1, show dropT ((k.1, k.2.1, false) :: newL (tr.drop (i + 1))) k.1 = (k.1, k.2.1, true) :: dropT (newL (tr.drop (i + 1))) k.1 by unfold dropT; rw [List.map_cons, if_pos rfl], drop_id n2']
  obtain ⟨a, b, c⟩ := k
  have d : c = true := d
  rw [d]
theorem half_due {ts : List Th} {rs : List Row} {tr : List Lk} (O : TakeOk ts rs tr) {i : Nat} {k : Lk} (h : tr[i]? = some k) : dueS ts rs (halfL tr i) "drop" k.1 = none := by
  rw [due_drop (O.inw k (List.mem_of_getElem? h))]
  obtain ⟨e1, _⟩ := half_at h
  have nd : (thsL (halfL tr i)).Nodup := by rw [thsL_half]; exact O.nd
  have m : ((k.1, k.2.1, false) : Lk) ∈ halfL tr i := by rw [e1]; simp
  have := lkAt_mem nd m
  have e : (heldAt (halfL tr i) k.1).isSome = true := by
    unfold heldAt
    rw [show lkAt (halfL tr i) k.1 = some (k.1, k.2.1, false) from this]
    rfl
  rw [if_pos e]
theorem held_flag {tr : List Lk} (nd : (thsL tr).Nodup) {k : Lk} (h : k ∈ tr) : (heldAt tr k.1).isSome = !k.2.2 := by
  unfold heldAt
  rw [lkAt_mem nd h]
  cases d : k.2.2 <;> simp [Option.filter, d]
theorem OnW.kp {Cw Cs : Addr} {H H' : Hp} {w x l m : Addr} {ts : List Th} {rs : List Row} (W : OnW Cw Cs H w x l m ts rs) (k : ∀ a o, H a = some o → (∀ xs, o ≠ .dK xs) → H' a = some o) : OnW Cw Cs H' w x l m ts rs := by
  obtain ⟨⟨⟨dw, hw⟩, ⟨vs, hl, hv⟩, hm, ne⟩, ⟨dx, l1, m1, us, hx, hl1, hr, hm1⟩, kn⟩ := W
  have tp : ∀ a xs, H a = some (.tup xs) → H' a = some (.tup xs) := fun a xs e => k _ _ e fun _ h => nomatch h
  have lp : ∀ a xs, H a = some (.lst xs) → H' a = some (.lst xs) := fun a xs e => k _ _ e fun _ h => nomatch h
  exact ⟨⟨⟨dw, k _ _ hw (fun _ h => nomatch h)⟩, ⟨vs, lp _ _ hl, thsV_keep hv tp⟩, lp _ _ hm, ne⟩, ⟨dx, l1, m1, us, k _ _ hx (fun _ h => nomatch h), lp _ _ hl1, rowsT_keep hr tp, lp _ _ hm1⟩, kn⟩
theorem make_st {C : Addr} {H : Hp} {x : Addr} {R : Addr → VK} {E : XK} (q : ∀ y a b H', Same H H' → H y = none → H a = none → H b = none → Sto C H' y x a b [] → R y .non H') :
    ∀ y dy, H y = none → H dy = none → dy ≠ y → spStInit C (.ref y :: ([.ref x] ++ [])) (upd (upd H dy (.own y)) y (.ins C dy [])) (R y) E := fun y dy ny nd _ => by
  have s1 : Same H (upd (upd H dy (.own y)) y (.ins C dy [])) := fun a o h => by rw [upd_ne (ne_of_none h ny), upd_ne (ne_of_none h nd)]; exact h
  exact ⟨y, dy, x, rfl, upd_same, fun a b H' bu na nb w => q y a b H' (fun c o h => bu c o (ne_of_none h ny) (s1 _ _ h)) ny (s1.free na) (s1.free nb) w⟩
def spStCopy (C Cw Cs : Addr) : Sp := fun vs H Q _ => ∃ (y w a b x l m : Addr) (tr : List Lk) (ts : List Th) (rs : List Row), vs = [.ref y] ∧ Sto C H y w a b tr ∧ TakeOk ts rs tr ∧ tr.length ≤ 900 ∧ OnW Cw Cs H w x l m ts rs ∧
  ∀ y' a' b' H', Same H H' → H y' = none → H a' = none → H b' = none → Sto C H' y' w a' b' tr → Q (.ref y') H'
section
variable {w : World} {K : PySem.W.Frag} {mg : Str → Option Value} {base : Heap}
set_option pp.maxSteps 600 in
theorem ok_Standing_copy (T : Txt K mg) : FnOk PP w K mg base CX0 10 T.a_Standing_copy T.fd_Standing_copy ["self"] (spStCopy T.c_Standing T.c_Web T.c_Shape) := by
  refine T.F_Standing_copy.ok sc_Standing_copy (fun vs H Q E h => ?_) (fun cdv A outer s H vs Q E hr h => ?_)
  · obtain ⟨y, wb, a, b, x, l, m, tr, ts, rs, rfl, _⟩ := h; rfl
  · obtain ⟨y, wb, a, b, x, l, m, tr, ts, rs, rfl, S, O, lt, W, q⟩ := h
    refine ⟨_, (pss_cons (ps_set (i := 1) sc_Standing_copy.nd rfl (.inl rfl) (pe_make T.mk_Standing (ok_Standing_init T) (hr.mono (by omega)) (by rfl) T.g_Standing T.b_Standing_init .nil pass0 (pa_cons (pe_fld (pv 0) rfl) pa_nil)))
      (pss_cons (ps_lock (ps_for PassesOwn.never rfl (pi_items (pe_fld (pv 0) rfl)) (pg_tup rfl (pgs_cons (pg_name (i := 2) sc_Standing_copy.nd rfl (.inl rfl)) (pgs_cons (pg_name (i := 3) sc_Standing_copy.nd rfl (.inl rfl)) pgs_nil))) (pss_one (ps_expr (pe_meth (pv 1) T.cl_Standing T.m_Standing_take ((ok_Standing_take T).calm) (hr.mono (by omega)) T.b_Standing_take .nil pass0 (pa_cons (pe_tup (pa_cons (pv 3) (pa_cons (pv 2) pa_nil))) pa_nil))))))
      (pss_cons (ps_lock (ps_for PassesOwn.never rfl (pi_keys (pe_fld (pv 0) rfl)) (pg_name (i := 2) sc_Standing_copy.nd rfl (.inl rfl)) (pss_one (ps_if (pt_cmpR (op_ninKd (hu_of hr)) (pv 2) (pe_fld (pv 0) rfl) (by with_unfolding_all rfl)) (pss_one (ps_expr (pe_meth (pv 1) T.cl_Standing T.m_Standing_take ((ok_Standing_take T).calm) (hr.mono (by omega)) T.b_Standing_take .nil pass0 (pa_cons (pe_tup (pa_cons (pe_str) (pa_cons (pv 2) pa_nil))) pa_nil)))) pss_nil))))
      (pss_one (ps_ret (pv 1)))))), ?_⟩
    obtain ⟨⟨dy, hy⟩, ha, hb, nab⟩ := id S
    refine ⟨_, rfl, y, _, dy, _, _, rfl, hy, T.cl_Standing, T.no_Standing_web, st_look1 wb a b _, make_st fun y1 a1 b1 H1 s1 ny na nb S1 => ⟨rfl, ?_⟩⟩
    have oldX : ∀ {c : Addr} {o : HO}, H c = some o → c ∉ [y1, a1, b1] := fun h m => by
      simp only [List.mem_cons, List.not_mem_nil, or_false] at m
      rcases m with rfl | rfl | rfl
      · rw [ny] at h; cases h
      · rw [na] at h; cases h
      · rw [nb] at h; cases h
    have lm : (msOf tr).length = tr.length := by unfold msOf; rw [List.length_map]
    have nay : a ∉ [y1, a1, b1] := oldX ha
    have nya : y1 ≠ a := fun e => nay (by rw [e]; simp)
    have na1 : a1 ≠ a := fun e => nay (by rw [e]; simp)
    have nb1 : b1 ≠ a := fun e => nay (by rw [e]; simp)
    have nyy : y ≠ a := ne_of hy ha (by intro z; cases z)
    have kpW : ∀ {H2 : Hp}, But a H H2 → OnW T.c_Web T.c_Shape H2 wb x l m ts rs := fun bu => W.kp fun c o h n => bu c o (fun e => by rw [e, ha] at h; exact n _ (Option.some.inj h).symm) h
    -- the locks
    refine ⟨a, _, s1 _ _ ha, trivial, fun od => ?_⟩
    refine ⟨_, rfl, y, _, dy, _, _, rfl, by rw [upd_ne nyy]; exact s1 _ _ hy, T.cl_Standing, T.no_Standing__modes, st_look2 wb a b _, a, od, _, rfl, upd_same, ?_⟩
    refine for_it walk_items (fun i σ H' => ∃ x2 x3, σ = [some (.ref y), some (.ref y1), x2, x3] ∧ But a H H' ∧ H' a = some (.frz od (.dK (msOf tr))) ∧ Sto T.c_Standing H' y1 wb a1 b1 (newL (tr.take i))) ⟨_, _, rfl, fun c o n h => by rw [upd_ne n]; exact s1 _ _ h, upd_same, S1.keep (fun o e => by rw [upd_ne nya]; exact e) (fun o e => by rw [upd_ne na1]; exact e) (fun o e => by rw [upd_ne nb1]; exact e)⟩ (fun i σ H' _ ⟨_, _, _, _, h, _⟩ => h) ?_ ?_
    · rintro i v σ H2 H3 hi ⟨x2, x3, rfl, bu, hf, S2⟩ ⟨P, c1, c2, rfl, nP, rfl, e1, e2⟩
      rw [lm] at hi
      obtain ⟨k, hk⟩ : ∃ k, tr[i]? = some k := ⟨_, List.getElem?_eq_getElem hi⟩
      have ek : (msOf tr)[i]? = some (kvL k) := by unfold msOf; rw [List.getElem?_map, hk]; rfl
      have e1 : ((msOf tr)[i]?).map (fun kv => kV kv.1) = some c1 := e1
      have e2 : ((msOf tr)[i]?).map Prod.snd = some c2 := e2
      rw [ek] at e1 e2
      obtain rfl := Option.some.inj e1
      obtain rfl := Option.some.inj e2
      have s3 := same_new (o := .tup [kV (kvL k).1, (kvL k).2]) nP
      have hP : (upd H2 P (.tup [kV (kvL k).1, (kvL k).2])) P = some (.tup [.int k.1, .str (wordL k.2.1)]) := upd_same
      have bu3 := bu.trans (But.of_same s3)
      have hf3 := s3 _ _ hf
      have S3 := S2.same s3
      revert s3 hP bu3 hf3 S3
      generalize upd H2 P (.tup [kV (kvL k).1, (kvL k).2]) = H3
      intro s3 hP bu3 hf3 S3
      obtain ⟨⟨dz, hz⟩, _⟩ := id S3
      have mk := List.mem_of_getElem? hk
      have n1 : k.1 ∉ thsL (newL (tr.take i)) := by rw [thsL_new]; exact (key_at O.nd hk).1
      have du : dueS ts rs (newL (tr.take i)) (wordL k.2.1) k.1 = none := due_lockN (O.inw k mk) n1 (O.sh k mk)
      have nd0 : (thsL (newL (tr.take i))).Nodup := by
        rw [thsL_new]
        have := O.nd
        unfold thsL at this ⊢
        rw [List.map_take]
        exact this.sublist (List.take_sublist _ _)
      refine ⟨P, _, rfl, SqT.of hP, rfl, _, _, rfl, _, _, rfl, rfl, _, rfl, y1, dz, _, rfl, hz, rfl, _, rfl, _, rfl, by show 2 ≤ sizeLine; decide, fun u hu => ?_⟩
      have s4 := same_new (o := .tup [.str (wordL k.2.1), .int k.1]) hu
      refine ⟨y1, wb, a1, b1, u, x, l, m, newL (tr.take i), ts, rs, wordL k.2.1, k.1, rfl, S3.same s4, nd0, by unfold newL; rw [List.length_map, List.length_take]; omega, kpW (bu3.trans (But.of_same s4)), .inr upd_same, fun _ H5 le5 S5 => ?_, fun e h => by rw [du] at h; cases h⟩
      rw [act_lock, ← newL_succ hk] at S5
      exact ⟨_, _, rfl, fun c o n h => le5 _ _ (oldX h) (s4 _ _ (bu3 _ _ n h)), le5 _ _ nay (s4 _ _ hf3), S5⟩
    rintro σ H2 ⟨x2, x3, rfl, bu, hf, S2⟩
    rw [lm, List.take_length] at S2
    refine ⟨hf, ?_⟩
    have bu2 : But a H (upd H2 a (.dK (msOf tr))) := fun c o n h => by rw [upd_ne n]; exact bu _ _ n h
    have S3 : Sto T.c_Standing (upd H2 a (.dK (msOf tr))) y1 wb a1 b1 (newL tr) := S2.keep (fun o e => by rw [upd_ne nya]; exact e) (fun o e => by rw [upd_ne na1]; exact e) (fun o e => by rw [upd_ne nb1]; exact e)
    have h3 : (upd H2 a (.dK (msOf tr))) a = some (.dK (msOf tr)) := upd_same
    revert bu2 S3 h3
    generalize upd H2 a (.dK (msOf tr)) = H3
    intro bu2 S3 h3
    -- the drops
    refine ⟨a, _, h3, trivial, fun od2 => ?_⟩
    refine ⟨_, rfl, y, _, dy, _, _, rfl, by rw [upd_ne nyy]; exact bu2 _ _ nyy hy, T.cl_Standing, T.no_Standing__modes, st_look2 wb a b _, a, od2, rfl, .inl ⟨_, upd_same, ?_⟩⟩
    refine for_it walk_keys (fun i σ H' => ∃ x2 x3, σ = [some (.ref y), some (.ref y1), x2, x3] ∧ But a H H' ∧ H' a = some (.frz od2 (.dK (msOf tr))) ∧ Sto T.c_Standing H' y1 wb a1 b1 (halfL tr i)) ⟨_, _, rfl, fun c o n h => by rw [upd_ne n]; exact bu2 _ _ n h, upd_same, by
      rw [half_zero]
      exact S3.keep (fun o e => by rw [upd_ne nya]; exact e) (fun o e => by rw [upd_ne na1]; exact e) (fun o e => by rw [upd_ne nb1]; exact e)⟩ (fun i σ H' _ ⟨_, _, _, _, h, _⟩ => h) ?_ ?_
    · rintro i v σ H4 H5 hi ⟨x2, x3, rfl, bu4, hf4, S4⟩ ⟨rfl, kk, vv, e1, rfl⟩
      rw [lm] at hi
      obtain ⟨k, hk⟩ : ∃ k, tr[i]? = some k := ⟨_, List.getElem?_eq_getElem hi⟩
      have ek : (msOf tr)[i]? = some (kvL k) := by unfold msOf; rw [List.getElem?_map, hk]; rfl
      rw [ek] at e1
      obtain ⟨rfl, rfl⟩ := Prod.mk.inj (Option.some.inj e1)
      have mk := List.mem_of_getElem? hk
      have g1 := DGet.k (k := .inl k.1) (bu4 _ _ nab.symm hb)
      rw [valV_hs k.1 tr O.nd] at g1
      refine ⟨_, rfl, _, rfl, y, _, dy, _, _, rfl, bu4 _ _ nyy hy, T.cl_Standing, T.no_Standing__holds, st_look3 wb a b _, b, _, rfl, g1, _, rfl, ?_⟩
      have hfl := held_flag O.nd mk
      obtain ⟨⟨dz, hz⟩, _⟩ := id S4
      cases hh : heldAt tr k.1 with
      | some k' =>
        rw [hh] at hfl
        have d : k.2.2 = false := by cases e : k.2.2 with
          | false => rfl
          | true => rw [e] at hfl; cases hfl
        refine iteNo rfl ⟨_, _, rfl, bu4, hf4, ?_⟩
        rw [half_keep hk d]; exact S4
      | none =>
        rw [hh] at hfl
        have d : k.2.2 = true := by cases e : k.2.2 with
          | true => rfl
          | false => rw [e] at hfl; cases hfl
        refine iteYes rfl ⟨_, rfl, y1, dz, _, rfl, hz, rfl, _, rfl, by show 2 ≤ sizeLine; decide, fun u hu => ?_⟩
        have s4 := same_new (o := .tup [.str "drop", .int k.1]) hu
        have du := half_due O hk
        refine ⟨y1, wb, a1, b1, u, x, l, m, halfL tr i, ts, rs, "drop", k.1, rfl, S4.same s4, by rw [thsL_half]; exact O.nd, by rw [half_len]; omega, kpW (bu4.trans (But.of_same s4)), .inr upd_same, fun _ H6 le6 S6 => ?_, fun e h => by rw [du] at h; cases h⟩
        rw [half_drop O.nd hk d] at S6
        exact ⟨_, _, rfl, fun c o n h => le6 _ _ (oldX h) (s4 _ _ (bu4 _ _ n h)), le6 _ _ nay (s4 _ _ hf4), S6⟩
    rintro σ H4 ⟨x2, x3, rfl, bu4, hf4, S4⟩
    rw [lm, half_all] at S4
    refine ⟨hf4, _, rfl, ?_⟩
    refine q y1 a1 b1 _ (fun c o h => ?_) ny na nb (S4.keep (fun o e => by rw [upd_ne nya]; exact e) (fun o e => by rw [upd_ne na1]; exact e) (fun o e => by rw [upd_ne nb1]; exact e))
    by_cases n : c = a
    · rw [n] at h ⊢; rw [upd_same, ← h, ha]
    · rw [upd_ne n]; exact bu4 _ _ n h
end
end My

namespace My
open PySem L2
/-! ### weavings -/
abbrev Ev := Int × Stp
abbrev Hm := Int × Str
def EvAt (H : Hp) (v : V) (e : Ev) : Prop := ∃ p q, v = .ref p ∧ H p = some (.tup [.int e.1, .ref q]) ∧ H q = some (.tup [.str e.2.1, .int e.2.2])
def HmAt (H : Hp) (v : V) (q : Hm) : Prop := ∃ p, v = .ref p ∧ H p = some (.tup [.int q.1, .str q.2])
theorem EvAt.keep {H H' : Hp} {v : V} {e : Ev} (h : EvAt H v e) (k : TKeep H H') : EvAt H' v e := let ⟨p, q, a, b, c⟩ := h; ⟨p, q, a, k _ _ b, k _ _ c⟩
theorem HmAt.keep {H H' : Hp} {v : V} {e : Hm} (h : HmAt H v e) (k : TKeep H H') : HmAt H' v e := let ⟨p, a, b⟩ := h; ⟨p, a, k _ _ b⟩
def stepsOf (ev : List Ev) (n : Int) : List Stp := (ev.filter fun e => decide (e.1 = n)).map (·.2)
def trOf (ev : List Ev) (n : Int) : List Lk := (stepsOf ev n).foldl (fun tr s => actS tr s.1 s.2) []
def addN (acc : List Int) (n : Int) : List Int := if n ∈ acc then acc else acc ++ [n]
def namesOf (ev : List Ev) : List Int := ev.foldl (fun acc e => addN acc e.1) []
abbrev LkT := List (Int × List Hm)
def getL (lk : LkT) (t : Int) : List Hm := ((lk.find? fun p => decide (p.1 = t)).map (·.2)).getD []
def putL (lk : LkT) (t : Int) (v : List Hm) : LkT := if (lk.any fun p => decide (p.1 = t)) = true then lk.map fun p => if p.1 = t then (p.1, v) else p else lk ++ [(t, v)]
def addE (eg : List (Int × Int)) (p : Int × Int) : List (Int × Int) := if p ∈ eg then eg else eg ++ [p]
abbrev WS := LkT × List (Int × Int)
def actW (s : WS) (e : Ev) : WS := if e.2.1 = "drop" then s else (putL s.1 e.2.2 (getL s.1 e.2.2 ++ [(e.1, e.2.1)]), ((getL s.1 e.2.2).filter fun o => decide (e.2.1 = ("own" : Str)) || decide (o.2 = ("own" : Str))).foldl (fun eg o => addE eg (o.1, e.1)) s.2)
def wsOf (ev : List Ev) : WS := ev.foldl actW ([], [])
theorem steps_snoc (ev : List Ev) (e : Ev) (n : Int) : stepsOf (ev ++ [e]) n = stepsOf ev n ++ if e.1 = n then [e.2] else [] := by
  unfold stepsOf
  rw [List.filter_append, List.map_append]
  congr 1
  by_cases c : e.1 = n <;> simp [c]
theorem tr_snoc (ev : List Ev) (e : Ev) (n : Int) : trOf (ev ++ [e]) n = if e.1 = n then actS (trOf ev n) e.2.1 e.2.2 else trOf ev n := by
  unfold trOf
  rw [steps_snoc, List.foldl_append]
  by_cases c : e.1 = n
  · rw [if_pos c, if_pos c]; rfl
  · rw [if_neg c, if_neg c]; rfl
theorem names_snoc (ev : List Ev) (e : Ev) : namesOf (ev ++ [e]) = addN (namesOf ev) e.1 := by unfold namesOf; rw [List.foldl_append]; rfl
theorem ws_snoc (ev : List Ev) (e : Ev) : wsOf (ev ++ [e]) = actW (wsOf ev) e := by unfold wsOf; rw [List.foldl_append]; rfl
theorem addN_mem {acc : List Int} {n m : Int} : m ∈ addN acc n ↔ m ∈ acc ∨ m = n := by
  unfold addN
  split
  · rename_i c
    exact ⟨.inl, fun h => h.elim id fun e => e ▸ c⟩
  · rw [List.mem_append, List.mem_singleton]
theorem names_nd : ∀ ev : List Ev, (namesOf ev).Nodup := fun ev => by
  have go : ∀ (l : List Ev) (acc : List Int), acc.Nodup → (l.foldl (fun acc e => addN acc e.1) acc).Nodup := fun l => by
    induction l with
    | nil => exact fun acc h => h
    | cons e l ih =>
      intro acc h
      refine ih _ ?_
      show (addN acc e.1).Nodup
      unfold addN
      split
      · exact h
      · rename_i c
        exact List.nodup_append.mpr ⟨h, by simp, fun a ha b hb e => c (by rw [List.mem_singleton.mp hb] at e; exact e ▸ ha)⟩
  exact go ev [] List.nodup_nil
theorem names_mem {n : Int} : ∀ {ev : List Ev}, n ∈ namesOf ev ↔ ∃ e ∈ ev, e.1 = n := fun {ev} => by
  have go : ∀ (l : List Ev) (acc : List Int), n ∈ l.foldl (fun acc e => addN acc e.1) acc ↔ n ∈ acc ∨ ∃ e ∈ l, e.1 = n := fun l => by
    induction l with
    | nil => intro acc; simp
    | cons e l ih =>
      intro acc
      rw [List.foldl_cons, ih, addN_mem]
      constructor
      · rintro ((h | h) | ⟨x, hx, h⟩)
        · exact .inl h
        · exact .inr ⟨e, by simp, h.symm⟩
        · exact .inr ⟨x, by simp [hx], h⟩
      · rintro (h | ⟨x, hx, h⟩)
        · exact .inl (.inl h)
        · rcases List.mem_cons.mp hx with rfl | hx
          · exact .inl (.inr h.symm)
          · exact .inr ⟨x, hx, h⟩
  have := go ev []
  simpa [namesOf] using this
theorem tr_none {ev : List Ev} {n : Int} (h : n ∉ namesOf ev) : trOf ev n = [] := by
  unfold trOf stepsOf
  rw [List.filter_eq_nil_iff.mpr (fun e he c => h (names_mem.mpr ⟨e, he, of_decide_eq_true c⟩))]
  rfl
def SdAt (Z : Addr → Prop) (Cst : Addr) (H : Hp) (w : Addr) (A : List Addr) (ev : List Ev) (kv : Key × V) (n : Int) : Prop := kv.1 = .inl n ∧ ∃ yn a b, kv.2 = .ref yn ∧ a ∉ A ∧ b ∉ A ∧ Z a ∧ Z b ∧ Sto Cst H yn w a b (trOf ev n)
def LkA (Z : Addr → Prop) (H : Hp) (A : List Addr) (kv : Key × V) (p : Int × List Hm) : Prop := kv.1 = .inl p.1 ∧ ∃ u vs, kv.2 = .ref u ∧ u ∉ A ∧ Z u ∧ H u = some (.lst vs) ∧ Paired (HmAt H) vs p.2
def wvF (w e s l g : Addr) : List (Str × V) := [("web", .ref w), ("_events", .ref e), ("_standings", .ref s), ("_lockers", .ref l), ("_edges", .ref g)]
def egK (eg : List (Int × Int)) : List (List Key × V) := eg.map fun p => ([.inl p.1, .inl p.2], .bl true)
structure WvO (Z : Addr → Prop) (C Cst : Addr) (H : Hp) (y w e s l g : Addr) (ev : List Ev) : Prop where
  obj : ∃ dy, H y = some (.ins C dy (wvF w e s l g))
  evs : ∃ vs, H e = some (.lst vs) ∧ Paired (EvAt H) vs ev
  sts : ∃ kvs, H s = some (.dK kvs) ∧ Paired (SdAt Z Cst H w [e, s, l, g] ev) kvs (namesOf ev)
  lks : ∃ kvs, H l = some (.dK kvs) ∧ Paired (LkA Z H [e, s, l, g]) kvs (wsOf ev).1
  egs : H g = some (.dT (egK (wsOf ev).2))
  ne : s ≠ l
  z : Z e ∧ Z s ∧ Z l ∧ Z g
theorem WvO.same {Z : Addr → Prop} {C Cst : Addr} {H H' : Hp} {y w e s l g : Addr} {ev : List Ev} (W : WvO Z C Cst H y w e s l g ev) (k : Same H H') : WvO Z C Cst H' y w e s l g ev := by
  obtain ⟨⟨dy, hy⟩, ⟨vs, he, pe⟩, ⟨ks, hs, ps⟩, ⟨kl, hl, pl⟩, hg, ne, z⟩ := W
  have tk := TKeep.same k
  exact ⟨⟨dy, k _ _ hy⟩, ⟨vs, k _ _ he, L2.Paired.mapP pe fun _ _ h => h.keep tk⟩, ⟨ks, k _ _ hs, L2.Paired.mapP ps fun _ _ ⟨a, yn, b, c, d, n1, n2, z1, z2, S⟩ => ⟨a, yn, b, c, d, n1, n2, z1, z2, S.same k⟩⟩,
    ⟨kl, k _ _ hl, L2.Paired.mapP pl fun _ _ ⟨a, u, vs, b, n, z, c, d⟩ => ⟨a, u, vs, b, n, z, k _ _ c, L2.Paired.mapP d fun _ _ h => h.keep tk⟩⟩, k _ _ hg, ne, z⟩
theorem wv_look1 (w e s l g : Addr) : List.lookup ("web" : Str) (wvF w e s l g) = some (V.ref w) := rfl
theorem wv_look2 (w e s l g : Addr) : List.lookup ("_events" : Str) (wvF w e s l g) = some (V.ref e) := rfl
theorem wv_look3 (w e s l g : Addr) : List.lookup ("_standings" : Str) (wvF w e s l g) = some (V.ref s) := rfl
theorem wv_look4 (w e s l g : Addr) : List.lookup ("_lockers" : Str) (wvF w e s l g) = some (V.ref l) := rfl
theorem wv_look5 (w e s l g : Addr) : List.lookup ("_edges" : Str) (wvF w e s l g) = some (V.ref g) := rfl
/-- what the dict of the standings holds at a name -/
theorem val_sd {Z : Addr → Prop} {Cst : Addr} {H : Hp} {w : Addr} {A : List Addr} {ev : List Ev} {n : Int} : ∀ {kvs : List (Key × V)} {ns : List Int}, Paired (SdAt Z Cst H w A ev) kvs ns → (n ∈ ns → ∃ yn a b, valV kvs (.inl n) = some (.ref yn) ∧ a ∉ A ∧ b ∉ A ∧ Sto Cst H yn w a b (trOf ev n)) ∧ (n ∉ ns → valV kvs (.inl n) = none)
  | _, _, .nil => ⟨(fun h => nomatch h), fun _ => rfl⟩
  | kv :: kvs, m :: ns, .cons ⟨e, yn, a, b, ev', na, nb, _, _, S⟩ t => by
    obtain ⟨i1, i2⟩ := val_sd (n := n) t
    by_cases c : m = n
    · subst c
      exact ⟨fun _ => ⟨yn, a, b, by rw [valV_pos e, ev'], na, nb, S⟩, fun h => absurd (List.mem_cons_self) h⟩
    · have ne : kv.1 ≠ .inl n := by rw [e]; exact fun h => c (by injection h)
      rw [valV_neg ne]
      exact ⟨fun h => i1 ((List.mem_cons.mp h).resolve_left fun e => c e.symm), fun h => i2 fun m => h (List.mem_cons_of_mem _ m)⟩
end My

namespace My
open PySem L2
def spWvInit (C Cst : Addr) : Sp := fun vs H Q _ => ∃ (y dy w : Addr), vs = [.ref y, .ref w] ∧ H y = some (.ins C dy []) ∧ ∀ e s l g H', But y H H' → H e = none → H s = none → H l = none → H g = none → WvO (fun a => H a = none) C Cst H' y w e s l g [] → Q .non H'
def spWvNames (C Cst : Addr) : Sp := fun vs H Q _ => ∃ (y w e s l g : Addr) (ev : List Ev) (Z : Addr → Prop), vs = [.ref y] ∧ WvO Z C Cst H y w e s l g ev ∧ ∀ u H', Same H H' → H u = none → H' u = some (.tup ((namesOf ev).map V.int)) → Q (.ref u) H'
def spWvAsc (C Cst : Addr) : Sp := fun vs H Q _ => ∃ (y w e s l g : Addr) (ev : List Ev) (Z : Addr → Prop), vs = [.ref y] ∧ WvO Z C Cst H y w e s l g ev ∧ (namesOf ev).length < 64 ∧ ∀ (ns : List Int) u H', ns.Perm (namesOf ev) → ns.Pairwise (· ≤ ·) → Same H H' → H u = none → H' u = some (.lst (ns.map V.int)) → Q (.ref u) H'
def spWvLen (C Cst : Addr) : Sp := fun vs H Q _ => ∃ (y w e s l g : Addr) (ev : List Ev) (Z : Addr → Prop), vs = [.ref y] ∧ WvO Z C Cst H y w e s l g ev ∧ Q (.int ev.length) H
theorem sd_keys {Z : Addr → Prop} {Cst : Addr} {H : Hp} {w : Addr} {A : List Addr} {ev : List Ev} : ∀ {kvs : List (Key × V)} {ns : List Int}, Paired (SdAt Z Cst H w A ev) kvs ns → (kvs.map fun kv => kV kv.1) = ns.map V.int
  | _, _, .nil => rfl
  | kv :: kvs, n :: ns, .cons h t => by rw [List.map_cons, List.map_cons, h.1, sd_keys t]; rfl
theorem nat_le_int {a b : Nat} (h : a ≤ b) : (a : Int) ≤ b := Int.ofNat_le.mpr h
section
variable {w : World} {K : PySem.W.Frag} {mg : Str → Option Value} {base : Heap}
set_option pp.maxSteps 600 in
theorem ok_Weaving_init (T : Txt K mg) : FnOk PP w K mg base CX0 1 T.a_Weaving_init T.fd_Weaving_init ["self", "web"] (spWvInit T.c_Weaving T.c_Standing) := by
  refine T.F_Weaving_init.ok sc_Weaving_init (fun vs H Q E h => ?_) (fun cdv A outer s H vs Q E hr h => ?_)
  · obtain ⟨y, dy, w, rfl, _⟩ := h; rfl
  · obtain ⟨y, dy, wb, rfl, hy, q⟩ := h
    refine ⟨_, (pss_cons (ps_fld (pv 0) (pv 1) rfl)
      (pss_cons (ps_fld (pv 0) (pe_lst pa_nil) rfl)
      (pss_cons (ps_fld (pv 0) (pe_dnewK) rfl)
      (pss_cons (ps_fld (pv 0) (pe_dnewK) rfl)
      (pss_one (ps_fld (pv 0) (pe_dnewT) rfl)))))), ?_⟩
    refine ⟨_, rfl, _, rfl, y, _, dy, _, rfl, hy, T.cl_Weaving, T.no_Weaving_web, by show 0 < 1000; decide, ?_⟩
    have b1 : But y H (upd H y (.ins T.c_Weaving dy (putF "web" (.ref wb) []))) := fun c o n e => by rw [upd_ne n]; exact e
    have h1 : (upd H y (.ins T.c_Weaving dy (putF "web" (.ref wb) []))) y = some (.ins T.c_Weaving dy [("web", .ref wb)]) := upd_same
    revert b1 h1
    generalize upd H y (.ins T.c_Weaving dy (putF "web" (.ref wb) [])) = H1
    intro b1 h1
    have ny : ∀ {c : Addr} {H' : Hp}, (∃ o, H' y = some o) → H' c = none → c ≠ y := fun ⟨o, e⟩ n z => by rw [z, e] at n; cases n
    refine ⟨Nat.zero_le _, fun ea na => ?_⟩
    have sa := same_new (o := .lst []) na
    have nay := ny ⟨_, h1⟩ na
    refine ⟨_, rfl, y, _, dy, _, rfl, sa _ _ h1, T.cl_Weaving, T.no_Weaving__events, by show 1 < 1000; decide, ?_⟩
    have b2 : But y H (upd (upd H1 ea (.lst [])) y (.ins T.c_Weaving dy (putF "_events" (.ref ea) [("web", .ref wb)]))) := fun c o n e => by rw [upd_ne n]; exact sa _ _ (b1 c o n e)
    have h2 : (upd (upd H1 ea (.lst [])) y (.ins T.c_Weaving dy (putF "_events" (.ref ea) [("web", .ref wb)]))) y = some (.ins T.c_Weaving dy [("web", .ref wb), ("_events", .ref ea)]) := upd_same
    have ha2 : (upd (upd H1 ea (.lst [])) y (.ins T.c_Weaving dy (putF "_events" (.ref ea) [("web", .ref wb)]))) ea = some (.lst []) := by rw [upd_ne nay]; exact upd_same
    revert b2 h2 ha2
    generalize upd (upd H1 ea (.lst [])) y (.ins T.c_Weaving dy (putF "_events" (.ref ea) [("web", .ref wb)])) = H2
    intro b2 h2 ha2
    refine fun sd ns => ?_
    have ss := same_new (o := .dK []) ns
    have nsy := ny ⟨_, h2⟩ ns
    refine ⟨_, rfl, y, _, dy, _, rfl, ss _ _ h2, T.cl_Weaving, T.no_Weaving__standings, by show 2 < 1000; decide, ?_⟩
    have b3 : But y H (upd (upd H2 sd (.dK [])) y (.ins T.c_Weaving dy (putF "_standings" (.ref sd) [("web", .ref wb), ("_events", .ref ea)]))) := fun c o n e => by rw [upd_ne n]; exact ss _ _ (b2 c o n e)
    have h3 : (upd (upd H2 sd (.dK [])) y (.ins T.c_Weaving dy (putF "_standings" (.ref sd) [("web", .ref wb), ("_events", .ref ea)]))) y = some (.ins T.c_Weaving dy [("web", .ref wb), ("_events", .ref ea), ("_standings", .ref sd)]) := upd_same
    have ha3 : (upd (upd H2 sd (.dK [])) y (.ins T.c_Weaving dy (putF "_standings" (.ref sd) [("web", .ref wb), ("_events", .ref ea)]))) ea = some (.lst []) := by rw [upd_ne nay]; exact ss _ _ ha2
    have hs3 : (upd (upd H2 sd (.dK [])) y (.ins T.c_Weaving dy (putF "_standings" (.ref sd) [("web", .ref wb), ("_events", .ref ea)]))) sd = some (.dK []) := by rw [upd_ne nsy]; exact upd_same
    revert b3 h3 ha3 hs3
    generalize upd (upd H2 sd (.dK [])) y (.ins T.c_Weaving dy (putF "_standings" (.ref sd) [("web", .ref wb), ("_events", .ref ea)])) = H3
    intro b3 h3 ha3 hs3
    refine fun ld nl => ?_
    have sl := same_new (o := .dK []) nl
    have nly := ny ⟨_, h3⟩ nl
    refine ⟨_, rfl, y, _, dy, _, rfl, sl _ _ h3, T.cl_Weaving, T.no_Weaving__lockers, by show 3 < 1000; decide, ?_⟩
    have b4 : But y H (upd (upd H3 ld (.dK [])) y (.ins T.c_Weaving dy (putF "_lockers" (.ref ld) [("web", .ref wb), ("_events", .ref ea), ("_standings", .ref sd)]))) := fun c o n e => by rw [upd_ne n]; exact sl _ _ (b3 c o n e)
    have h4 : (upd (upd H3 ld (.dK [])) y (.ins T.c_Weaving dy (putF "_lockers" (.ref ld) [("web", .ref wb), ("_events", .ref ea), ("_standings", .ref sd)]))) y = some (.ins T.c_Weaving dy [("web", .ref wb), ("_events", .ref ea), ("_standings", .ref sd), ("_lockers", .ref ld)]) := upd_same
    have ha4 : (upd (upd H3 ld (.dK [])) y (.ins T.c_Weaving dy (putF "_lockers" (.ref ld) [("web", .ref wb), ("_events", .ref ea), ("_standings", .ref sd)]))) ea = some (.lst []) := by rw [upd_ne nay]; exact sl _ _ ha3
    have hs4 : (upd (upd H3 ld (.dK [])) y (.ins T.c_Weaving dy (putF "_lockers" (.ref ld) [("web", .ref wb), ("_events", .ref ea), ("_standings", .ref sd)]))) sd = some (.dK []) := by rw [upd_ne nsy]; exact sl _ _ hs3
    have hl4 : (upd (upd H3 ld (.dK [])) y (.ins T.c_Weaving dy (putF "_lockers" (.ref ld) [("web", .ref wb), ("_events", .ref ea), ("_standings", .ref sd)]))) ld = some (.dK []) := by rw [upd_ne nly]; exact upd_same
    revert b4 h4 ha4 hs4 hl4
    generalize upd (upd H3 ld (.dK [])) y (.ins T.c_Weaving dy (putF "_lockers" (.ref ld) [("web", .ref wb), ("_events", .ref ea), ("_standings", .ref sd)])) = H4
    intro b4 h4 ha4 hs4 hl4
    refine fun gd ng => ?_
    have sg := same_new (o := .dT []) ng
    have ngy := ny ⟨_, h4⟩ ng
    refine ⟨_, rfl, y, _, dy, _, rfl, sg _ _ h4, T.cl_Weaving, T.no_Weaving__edges, by show 4 < 1000; decide, ?_⟩
    have f1 := b1.free nay na
    have f2 := b2.free nsy ns
    have f3 := b3.free nly nl
    have f4 := b4.free ngy ng
    have nsl : sd ≠ ld := ne_of_none hs3 nl
    refine q ea sd ld gd _ (fun c o n e => by rw [upd_ne n]; exact sg _ _ (b4 c o n e)) f1 f2 f3 f4 ⟨⟨dy, upd_same⟩, ⟨[], by rw [upd_ne nay]; exact sg _ _ ha4, .nil⟩, ⟨[], by rw [upd_ne nsy]; exact sg _ _ hs4, .nil⟩, ⟨[], by rw [upd_ne nly]; exact sg _ _ hl4, .nil⟩, by rw [upd_ne ngy]; exact upd_same, nsl, f1, f2, f3, f4⟩
theorem ok_Weaving_iter (T : Txt K mg) : IterOk PP w K mg base 1 T.a_Weaving_iter T.c_Weaving "_events" := fun A outer s H a dx l fs xs Q E hr e0 ha hf hq q => by
  refine fn_here T.F_Weaving_iter sc_Weaving_iter T.b_Weaving_iter hr e0 (vs := [.ref a]) (.cons rfl .nil) rfl fun cdv hr => ⟨_, (pss_one (ps_ret (pe_callB ItX.call_iterN (by rfl) T.n_iter (by decide +kernel) (pa_cons (pe_fld (pv 0) rfl) pa_nil)))), ?_⟩
  exact ⟨_, rfl, a, _, dx, _, _, rfl, ha, T.cl_Weaving, T.no_Weaving__events, hf, l, xs, rfl, hq, fun it n1 n2 => q it n1 n2⟩
set_option pp.maxSteps 600 in
theorem ok_Weaving_len (T : Txt K mg) : FnOk PP w K mg base CX0 1 T.a_Weaving_len T.fd_Weaving_len ["self"] (spWvLen T.c_Weaving T.c_Standing) := by
  refine T.F_Weaving_len.ok sc_Weaving_len (fun vs H Q E h => ?_) (fun cdv A outer s H vs Q E hr h => ?_)
  · obtain ⟨y, wb, e, sd, l, g, ev, Z, rfl, _⟩ := h; rfl
  · obtain ⟨y, wb, e, sd, l, g, ev, Z, rfl, W, q⟩ := h
    refine ⟨_, (pss_one (ps_ret (pe_callB call_len_seq (by rfl) T.n_len (by decide +kernel) (pa_cons (pe_fld (pv 0) rfl) pa_nil)))), ?_⟩
    obtain ⟨dy, hy⟩ := W.obj
    obtain ⟨vs, he, pe⟩ := W.evs
    rw [← pair_len' pe] at q
    exact ⟨_, rfl, y, _, dy, _, _, rfl, hy, T.cl_Weaving, T.no_Weaving__events, wv_look2 _ _ _ _ _, e, _, rfl, .inl (SqL.of he), q⟩
set_option pp.maxSteps 600 in
theorem ok_Weavingascending (T : Txt K mg) : FnOk PP w K mg base CX0 1 T.a_Weavingascending T.fd_Weavingascending ["self"] (spWvAsc T.c_Weaving T.c_Standing) := by
  refine T.F_Weavingascending.ok sc_Weavingascending (fun vs H Q E h => ?_) (fun cdv A outer s H vs Q E hr h => ?_)
  · obtain ⟨y, wb, e, sd, l, g, ev, Z, rfl, _⟩ := h; rfl
  · obtain ⟨y, wb, e, sd, l, g, ev, Z, rfl, W, ln, q⟩ := h
    refine ⟨_, (pss_one (ps_ret (pe_callB cr_sorted (by rfl) T.n_sorted (by decide +kernel) (pa_cons (pe_lock (pe_lc (own := [("name", 1)]) (g := (gName 1)) (by rfl) sc_Weavingascending.nd (pi_keys (pe_fld (pv 0) rfl)) (blkOk_by (own := [("name", 1)]) (N := ["self", "name"]) (sc := defScope S_Weavingascending) (by decide +kernel)) (fun _ _ _ _ _ => (pg_name (i := 1) sc_Weavingascending.nd rfl (by first | exact .inl rfl | exact .inr rfl))) (fun _ _ _ _ _ => pts_nil) (fun _ _ _ _ _ => (pe_callTy call_int1 (by rfl) T.n_int (by decide +kernel) (pa_cons (pv 1) pa_nil))))) pa_nil)))), ?_⟩
    obtain ⟨dy, hy⟩ := W.obj
    obtain ⟨kvs, hs, ps⟩ := W.sts
    have lk := pair_len' ps
    refine ⟨sd, _, hs, trivial, fun od => ?_⟩
    have nys : y ≠ sd := fun z => by rw [z, hs] at hy; cases hy
    refine ⟨_, rfl, y, _, dy, _, _, rfl, by rw [upd_ne nys]; exact hy, T.cl_Weaving, T.no_Weaving__standings, wv_look3 _ _ _ _ _, sd, od, rfl, .inl ⟨kvs, upd_same, fun D hD => lc_it walk_keys (fun i H' => But sd H H' ∧ H' sd = some (.frz od (.dK kvs)) ∧ H' D = some (.lst (((namesOf ev).take i).map V.int))) ?_ (fun i H' _ h => h.2.1) ?_ ?_⟩⟩
    · have nds : D ≠ sd := fun e => by rw [e, upd_same] at hD; cases hD
      exact ⟨fun c o n e => same_new hD _ _ (by rw [upd_ne n]; exact e), by rw [upd_ne nds.symm]; exact upd_same, upd_same⟩
    · rintro i v H1 H2 hi ⟨b1, f1, h1⟩ ⟨rfl, k, v', ek, rfl⟩
      obtain ⟨n, hn, ek1, _⟩ := pair_get' ps ek
      have ek1 : k = .inl n := ek1
      subst ek1
      refine ⟨rfl, ?_⟩
      unfold tYes
      have nds : sd ≠ D := fun e => by rw [← e, upd_same] at hD; cases hD
      refine iteT ⟨_, rfl, .inl ⟨n, rfl, _, h1, ?_, fun c o m e => ?_, ?_, ?_⟩⟩
      · rw [List.length_map, List.length_take]
        have : 64 < sizeLine := by decide
        omega
      · by_cases cD : c = D
        · subst cD; rw [upd_ne m] at hD; rw [hD] at e; cases e
        · rw [upd_ne cD]; exact b1 c o m e
      · rw [upd_ne nds]; exact f1
      · rw [upd_same, List.take_succ, hn, List.map_append]; rfl
    rintro H1 ⟨b1, f1, h1⟩
    rw [lk, List.take_length] at h1
    refine ⟨f1, ?_⟩
    have nds : D ≠ sd := fun e => by rw [e, upd_same] at hD; cases hD
    have s1 : Same H (upd H1 sd (.dK kvs)) := fun c o e => by
      by_cases n : c = sd
      · rw [n, upd_same, ← hs, ← n, e]
      · rw [upd_ne n]; exact b1 c o n e
    have hD1 : (upd H1 sd (.dK kvs)) D = some (.lst ((namesOf ev).map V.int)) := by rw [upd_ne nds]; exact h1
    refine ⟨D, namesOf ev, rfl, SqL.of hD1, ln, fun ns u pm so nu => ?_⟩
    exact q ns u _ pm so (s1.trans (same_new nu)) (s1.free nu) upd_same
end
end My

namespace My
open PySem L2
/-- every program's steps could be taken -/
def EvOk (ts : List Th) (rs : List Row) (ev : List Ev) : Prop := ∀ n, TakeOk ts rs (trOf ev n) ∧ (trOf ev n).length ≤ 900
def spWvStand (C Cst Cw Cs : Addr) : Sp := fun vs H Q _ => ∃ (y w e s l g x wl wm : Addr) (n : Int) (ev : List Ev) (ts : List Th) (rs : List Row) (Z : Addr → Prop), vs = [.ref y, .int n] ∧ WvO Z C Cst H y w e s l g ev ∧ EvOk ts rs ev ∧ OnW Cw Cs H w x wl wm ts rs ∧
  ∀ y' a' b' H', Same H H' → H y' = none → H a' = none → H b' = none → Sto Cst H' y' w a' b' (trOf ev n) → Q (.ref y') H'
def holdH (ev : List Ev) (t : Int) (n : Int) : List Hm := match heldAt (trOf ev n) t with
  | some k => [(n, wordL k.2.1)]
  | none => []
def spWvHold (C Cst Cw Cs NT : Addr) : Sp := fun vs H Q E => ∃ (y w e s l g x wl wm : Addr) (t : Int) (ev : List Ev) (ts : List Th) (rs : List Row) (Z : Addr → Prop), vs = [.ref y, .int t] ∧ WvO Z C Cst H y w e s l g ev ∧ EvOk ts rs ev ∧ OnW Cw Cs H w x wl wm ts rs ∧ (namesOf ev).length < 64 ∧ ts.length ≤ 1000 ∧
  (inW ts t → ∀ (ns : List Int) u us H', ns.Perm (namesOf ev) → ns.Pairwise (· ≤ ·) → Same H H' → H u = none → H' u = some (.tup us) → Paired (HmAt H') us (ns.flatMap (holdH ev t)) → Q (.ref u) H') ∧ (¬ inW ts t → ErrS NT "thing" (.int t) H E)
theorem same_but {u : Addr} {H H2 H' : Hp} (s : Same H H2) (n : H u = none) (b : But u H2 H') : Same H H' := fun c o e => b _ _ (ne_of_none e n) (s _ _ e)
section
variable {w : World} {K : PySem.W.Frag} {mg : Str → Option Value} {base : Heap}
set_option pp.maxSteps 600 in
theorem ok_Weaving_standing_of (T : Txt K mg) : FnOk PP w K mg base CX0 12 T.a_Weaving_standing_of T.fd_Weaving_standing_of ["self", "name"] (spWvStand T.c_Weaving T.c_Standing T.c_Web T.c_Shape) := by
  refine T.F_Weaving_standing_of.ok sc_Weaving_standing_of (fun vs H Q E h => ?_) (fun cdv A outer s H vs Q E hr h => ?_)
  · obtain ⟨y, wb, e, sd, l, g, x, wl, wm, n, ev, ts, rs, Z, rfl, _⟩ := h; rfl
  · obtain ⟨y, wb, e, sd, l, g, x, wl, wm, n, ev, ts, rs, Z, rfl, W, ok, O, q⟩ := h
    refine ⟨_, (pss_cons (ps_if (pt_cmpR (op_inKd (hu_of hr)) (pv 1) (pe_fld (pv 0) rfl) (by with_unfolding_all rfl)) (pss_one (ps_ret (pe_meth0 (pe_dget (hu_of hr) (pe_fld (pv 0) rfl) (pv 1) (fun _ _ => rfl)) T.cl_Standing T.m_Standing_copy (ok_Standing_copy T) (hr.mono (by omega)) T.b_Standing_copy .nil pass0))) pss_nil)
      (pss_one (ps_ret (pe_make T.mk_Standing (ok_Standing_init T) (hr.mono (by omega)) (by rfl) T.g_Standing T.b_Standing_init .nil pass0 (pa_cons (pe_fld (pv 0) rfl) pa_nil))))), ?_⟩
    obtain ⟨dy, hy⟩ := W.obj
    obtain ⟨kvs, hs, ps⟩ := W.sts
    refine ⟨_, rfl, _, rfl, y, _, dy, _, _, rfl, hy, T.cl_Weaving, T.no_Weaving__standings, wv_look3 _ _ _ _ _, sd, _, rfl, DGet.k (k := .inl n) hs, _, rfl, ?_⟩
    obtain ⟨i1, i2⟩ := val_sd (n := n) ps
    by_cases c : n ∈ namesOf ev
    · obtain ⟨yn, a, b, e1, _, _, S⟩ := i1 c
      obtain ⟨dn, hn⟩ := S.obj
      have dg := DGet.k (k := .inl n) hs
      rw [e1] at dg
      refine iteYes (by rw [e1]; rfl) ⟨_, rfl, y, _, dy, _, _, rfl, hy, T.cl_Weaving, T.no_Weaving__standings, wv_look3 _ _ _ _ _, _, rfl, sd, _, rfl, dg, yn, dn, _, rfl, hn, rfl, yn, wb, a, b, x, wl, wm, _, ts, rs, rfl, S, (ok n).1, (ok n).2, O, fun y' a' b' H' s ny na nb S' => q y' a' b' H' s ny na nb S'⟩
    · refine iteNo (by rw [i2 c]; rfl) ⟨_, rfl, y, _, dy, _, _, rfl, hy, T.cl_Weaving, T.no_Weaving_web, wv_look1 _ _ _ _ _, make_st fun y1 a1 b1 H1 s1 ny na nb S1 => ⟨rfl, q y1 a1 b1 H1 s1 ny na nb ?_⟩⟩
      rw [tr_none c]; exact S1
set_option pp.maxSteps 600 in
theorem ok_Weaving_holders (T : Txt K mg) : FnOk PP w K mg base (L2.CX PP w) 6 T.a_Weaving_holders T.fd_Weaving_holders ["self", "thing"] (spWvHold T.c_Weaving T.c_Standing T.c_Web T.c_Shape T.c_NoThing) := by
  refine T.F_Weaving_holders.okX sc_Weaving_holders (fun vs H Q E h => ?_) (fun cdv A outer s H vs Q E hr h => ?_)
  · obtain ⟨y, wb, e, sd, l, g, x, wl, wm, t, ev, ts, rs, Z, rfl, _⟩ := h; rfl
  · obtain ⟨y, wb, e, sd, l, g, x, wl, wm, t, ev, ts, rs, Z, rfl, W, ok, O, ln, lt, q, qe⟩ := h
    refine ⟨_, (pss_cons (ps_if (pt_cmpR (op_ninI T.m_Web_contains (ok_Web_contains T) (hr.mono (by omega)) T.b_Web_contains pass0) (pv 1) (pe_fld (pv 0) rfl) (by with_unfolding_all rfl)) (pss_one (ps_raiseX rfl T.x_NoThing hr (takes_of rfl rfl rfl rfl) (pa_cons (pv 1) pa_nil))) pss_nil)
      (pss_cons (ps_set (i := 2) sc_Weaving_holders.nd rfl (.inl rfl) (pe_lst pa_nil))
      (pss_cons (ps_for (passes_of rfl) rfl (pi_list (pe_meth0 (pv 0) T.cl_Weaving T.m_Weavingascending (ok_Weavingascending T) (hr.mono (by omega)) T.b_Weavingascending .nil pass0)) (pg_name (i := 3) sc_Weaving_holders.nd rfl (.inl rfl)) (pss_cons (ps_set (i := 4) sc_Weaving_holders.nd rfl (.inl rfl) (pe_meth (pe_dget (hu_of hr) (pe_fld (pv 0) rfl) (pv 3) (fun _ _ => rfl)) T.cl_Standing T.m_Standing_held_mode (ok_Standing_held_mode T) (hr.mono (by omega)) T.b_Standing_held_mode .nil pass0 (pa_cons (pv 1) pa_nil)))
      (pss_one (ps_if (pt_cmpR op_ne (pv 4) (pe_str) (nomark _)) (pss_one (ps_expr (pe_bm PySem.F.plainAttrs_list PySem.F.slot_list_append PySem.F.type_list_append mt_append (pv 2) (pa_cons (pe_tup (pa_cons (pv 3) (pa_cons (pv 4) pa_nil))) pa_nil)))) pss_nil))))
      (pss_one (ps_ret (pe_callTy call_tuple_of (by rfl) T.n_tuple (by decide +kernel) (pa_cons (pv 2) pa_nil))))))), ?_⟩
    obtain ⟨dy, hy⟩ := W.obj
    have big : 100000 < sizeLine := by decide
    obtain ⟨dw, hw0⟩ := O.web.obj
    refine ⟨_, rfl, _, rfl, y, _, dy, _, _, rfl, hy, T.cl_Weaving, T.no_Weaving_web, wv_look1 _ _ _ _ _, wb, dw, _, rfl, hw0, wb, x, wl, wm, t, ts, rfl, O.web, ⟨_, rfl, _, rfl, iteN (fun c => ?_) (fun c => ?_)⟩⟩
    · exact ⟨_, rfl, _, rfl, fun d hd => qe c _ d (same_new hd) hd upd_same⟩
    refine ⟨Nat.zero_le _, fun f nf => ?_⟩
    have s1 := same_new (o := .lst []) nf
    have h1f : (upd H f (.lst [])) f = some (.lst []) := upd_same
    revert s1 h1f
    generalize upd H f (.lst []) = H1
    intro s1 h1f
    refine ⟨_, rfl, y, dy, _, rfl, s1 _ _ hy, rfl, y, wb, e, sd, l, g, ev, Z, rfl, W.same s1, ln, fun ns u H2 pm so s2 nu hu => ?_⟩
    have s02 := s1.trans s2
    have h2f := s2 _ _ h1f
    have nuf : u ≠ f := (ne_of_none h1f nu).symm
    have lns : ns.length < 64 := by rw [pm.length_eq]; exact ln
    have lh : ∀ n, (holdH ev t n).length ≤ 1 := fun n => by unfold holdH; split <;> simp
    have lfm : ∀ m : List Int, (m.flatMap (holdH ev t)).length ≤ m.length := fun m => by
      induction m with
      | nil => exact Nat.zero_le _
      | cons a m ih =>
        rw [List.flatMap_cons, List.length_append, List.length_cons]
        have := lh a
        omega
    refine ⟨u, rfl, ⟨_, SqL.of hu⟩, for_list (K := K) (a := u) (xs := ns.map V.int) (fun i σ H' => ∃ (x3 x4 : Option V) (us : List V), σ = [some (.ref y), some (.int t), some (.ref f), x3, x4] ∧ But f H2 H' ∧ H' f = some (.lst us) ∧ Paired (HmAt H') us ((ns.take i).flatMap (holdH ev t))) ⟨_, _, [], rfl, But.refl _ _, h2f, by rw [List.take_zero]; exact .nil⟩ (fun i σ H' _ ⟨_, _, _, _, b, _⟩ => SqL.of (b _ _ nuf hu)) ?_ ?_⟩
    · rintro i v σ H3 hv ⟨x3, x4, us, rfl, b3, h3f, p3⟩
      rw [List.getElem?_map] at hv
      obtain ⟨n, hn⟩ : ∃ n, ns[i]? = some n := by
        cases e' : ns[i]? with
        | none => rw [e'] at hv; cases hv
        | some n => exact ⟨n, rfl⟩
      rw [hn] at hv
      obtain rfl := Option.some.inj hv
      have hi := (List.getElem?_eq_some_iff.mp hn).1
      have s3 : Same H H3 := same_but s02 nf b3
      have W3 := W.same s3
      obtain ⟨kvs, hs3, ps⟩ := W3.sts
      obtain ⟨yn, a, b, e1, _, _, S⟩ := (val_sd (n := n) ps).1 (pm.mem_iff.mp (List.mem_of_getElem? hn))
      obtain ⟨dn, hyn⟩ := S.obj
      have dg := DGet.k (k := .inl n) hs3
      rw [e1] at dg
      have et : (ns.take (i + 1)).flatMap (holdH ev t) = (ns.take i).flatMap (holdH ev t) ++ holdH ev t n := by
        rw [List.take_succ, hn, Option.toList_some, List.flatMap_append, List.flatMap_cons, List.flatMap_nil, List.append_nil]
      have lus : us.length ≤ i := by
        rw [pair_len' p3]
        have := lfm (ns.take i)
        rw [List.length_take] at this
        omega
      rw [et]
      refine ⟨_, rfl, y, _, dy, _, _, rfl, s3 _ _ hy, T.cl_Weaving, T.no_Weaving__standings, wv_look3 _ _ _ _ _, _, rfl, sd, _, rfl, dg, yn, dn, _, rfl, hyn, rfl, _, rfl, yn, wb, a, b, _, t, rfl, S, (ok n).1.nd, ?_⟩
      unfold holdH
      cases hk : heldAt (trOf ev n) t with
      | none =>
        refine ⟨_, rfl, rfl, _, rfl, iteN (fun c2 => absurd rfl c2) (fun _ => ⟨_, _, us, rfl, b3, h3f, by rw [List.append_nil]; exact p3⟩)⟩
      | some k =>
        have nw : wordL k.2.1 ≠ "" := by cases k.2.1 <;> decide +kernel
        refine ⟨_, rfl, rfl, _, rfl, iteN (fun _ => ?_) (fun c2 => absurd (V.str.inj c2) nw)⟩
        refine ⟨_, rfl, .inl ⟨rfl, _, SqL.of h3f⟩, _, rfl, _, rfl, by show 2 ≤ sizeLine; decide, fun q1 nq1 => ?_⟩
        have s6 := same_new (o := .tup [.int n, .str (wordL k.2.1)]) nq1
        have nqf : q1 ≠ f := (ne_of_none h3f nq1).symm
        refine ⟨_, _, _, rfl, rfl, s6 _ _ h3f, by omega, ?_⟩
        have b6 : But f H3 (upd (upd H3 q1 (.tup [.int n, .str (wordL k.2.1)])) f (.lst (us ++ [.ref q1]))) := fun c o n h => by rw [upd_ne n]; exact s6 _ _ h
        have tk : TKeep H3 (upd (upd H3 q1 (.tup [.int n, .str (wordL k.2.1)])) f (.lst (us ++ [.ref q1]))) := fun a xs h => b6 _ _ (fun z => by rw [z, h3f] at h; cases h) h
        refine ⟨_, _, us ++ [.ref q1], rfl, b3.trans b6, upd_same, ?_⟩
        refine pair_app' (L2.Paired.mapP p3 fun _ _ h => h.keep tk) (.cons ⟨q1, rfl, ?_⟩ .nil)
        rw [upd_ne nqf]; exact upd_same
    · rintro σ H3 ⟨x3, x4, us, rfl, b3, h3f, p3⟩
      rw [List.length_map, List.take_length] at p3
      refine ⟨_, rfl, f, _, rfl, .inl ⟨SqL.of h3f, fun r nr => ?_⟩⟩
      have s3 : Same H H3 := same_but s02 nf b3
      exact q c ns r us _ pm so (s3.trans (same_new nr)) (s3.free nr) upd_same (L2.Paired.mapP p3 fun _ _ h => h.keep (.same (same_new nr)))
end
end My

namespace My
open PySem L2
theorem putL_key (lk : LkT) (t : Int) (v : List Hm) : (putL lk t v).length ≤ lk.length + 1 := by
  unfold putL
  split
  · rw [List.length_map]; omega
  · rw [List.length_append]; simp
theorem find_map_self {lk : LkT} {t s : Int} {v : List Hm} : ((lk.map fun p => if p.1 = t then (p.1, v) else p).find? fun p => decide (p.1 = s)) = ((lk.find? fun p => decide (p.1 = s)).map fun p => if p.1 = t then (p.1, v) else p) := by
  induction lk with
  | nil => rfl
  | cons p lk ih =>
    rw [List.map_cons, List.find?_cons, List.find?_cons]
    have e : (if p.1 = t then (p.1, v) else p).1 = p.1 := by split <;> rfl
    rw [e]
    cases decide (p.1 = s) with
    | true => rfl
    | false => exact ih
theorem getL_put (lk : LkT) (t s : Int) (v : List Hm) : getL (putL lk t v) s = if s = t then v else getL lk s := by
  unfold getL putL
  split
  · rename_i h
    rw [find_map_self]
    cases e : lk.find? fun p => decide (p.1 = s) with
    | none =>
      by_cases c : s = t
      · subst c
        rw [List.any_eq_true] at h
        obtain ⟨p, hp, h⟩ := h
        exact absurd h (by simpa using List.find?_eq_none.mp e p hp)
      · rw [if_neg c]; rfl
    | some p =>
      have es : p.1 = s := of_decide_eq_true (List.find?_some (p := fun p : Int × List Hm => decide (p.1 = s)) e)
      show (if p.1 = t then (p.1, v) else p).2 = _
      by_cases c : s = t
      · rw [if_pos (es.trans c), if_pos c]
      · rw [if_neg (fun h => c (es.symm.trans h)), if_neg c]; rfl
  · rename_i h
    have nt : (lk.find? fun p => decide (p.1 = t)) = none := List.find?_eq_none.mpr fun p hp c => h (List.any_eq_true.mpr ⟨p, hp, c⟩)
    rw [List.find?_append]
    by_cases c : s = t
    · subst c
      rw [nt, if_pos rfl]; simp
    · rw [if_neg c]
      cases e : lk.find? fun p => decide (p.1 = s) with
      | some p => rfl
      | none => simp [Ne.symm c]
def wsOk (s : WS) (k : Nat) : Prop := (∀ t, (getL s.1 t).length ≤ k) ∧ s.1.length ≤ k ∧ s.2.length ≤ k * k
theorem addE_len (eg : List (Int × Int)) (p : Int × Int) : (addE eg p).length ≤ eg.length + 1 := by
  unfold addE
  split
  · omega
  · rw [List.length_append]; simp
theorem addEs_len {f : Hm → Int × Int} : ∀ (l : List Hm) (eg : List (Int × Int)), (l.foldl (fun eg o => addE eg (f o)) eg).length ≤ eg.length + l.length
  | [], eg => by simp
  | o :: l, eg => by
    rw [List.foldl_cons, List.length_cons]
    have := addEs_len (f := f) l (addE eg (f o))
    have := addE_len eg (f o)
    omega
theorem wsOk_act {s : WS} {k : Nat} (e : Ev) (h : wsOk s k) : wsOk (actW s e) (k + 1) := by
  obtain ⟨a, b, c⟩ := h
  have kk : (k + 1) * (k + 1) = k * k + 2 * k + 1 := by rw [Nat.add_mul, Nat.mul_add]; omega
  unfold actW
  split
  · exact ⟨fun t => by have := a t; omega, by omega, by omega⟩
  · refine ⟨fun t => ?_, ?_, ?_⟩
    · show (getL (putL _ _ _) t).length ≤ _
      rw [getL_put]
      split
      · rw [List.length_append]
        have := a e.2.2
        simp; omega
      · have := a t; omega
    · have := putL_key s.1 e.2.2 (getL s.1 e.2.2 ++ [(e.1, e.2.1)])
      show (putL _ _ _).length ≤ _
      omega
    · have h1 := addEs_len (f := fun o => (o.1, e.1)) ((getL s.1 e.2.2).filter fun o => decide (e.2.1 = ("own" : Str)) || decide (o.2 = ("own" : Str))) s.2
      have h2 := List.length_filter_le (fun o : Hm => decide (e.2.1 = ("own" : Str)) || decide (o.2 = ("own" : Str))) (getL s.1 e.2.2)
      have h3 := a e.2.2
      show (List.foldl _ s.2 _).length ≤ _
      omega
theorem ws_ok (ev : List Ev) : wsOk (wsOf ev) ev.length := by
  have go : ∀ (l : List Ev) (s : WS) (k : Nat), wsOk s k → wsOk (l.foldl actW s) (k + l.length) := fun l => by
    induction l with
    | nil => exact fun s k h => h
    | cons e l ih =>
      intro s k h
      have := ih _ _ (wsOk_act e h)
      rw [List.length_cons, show k + (l.length + 1) = k + 1 + l.length by omega]
      exact this
  have := go ev ([], []) 0 ⟨fun t => Nat.le_refl _, Nat.le_refl _, Nat.le_refl _⟩
  rwa [Nat.zero_add] at this
theorem any_eq_lk {Z : Addr → Prop} {H : Hp} {A : List Addr} {t : Int} : ∀ {kvs : List (Key × V)} {lk : LkT}, Paired (LkA Z H A) kvs lk → (kvs.any fun kv => decide (kv.1 = .inl t)) = lk.any fun p => decide (p.1 = t)
  | _, _, .nil => rfl
  | kv :: kvs, p :: lk, .cons h r => by
    rw [List.any_cons, List.any_cons, any_eq_lk r, h.1]
    congr 1
    exact decide_eq_decide.mpr ⟨fun e => by injection e, fun e => by rw [e]⟩
theorem lk_put {Z : Addr → Prop} {H : Hp} {A : List Addr} {t : Int} {u : Addr} {us : List V} {v : List Hm} {kvs : List (Key × V)} {lk : LkT} (h : Paired (LkA Z H A) kvs lk) (nA : u ∉ A) (zu : Z u) (hu : H u = some (.lst us)) (hv : Paired (HmAt H) us v) : Paired (LkA Z H A) (putK kvs (.inl t) (.ref u)) (putL lk t v) := by
  have one : LkA Z H A (.inl t, .ref u) (t, v) := ⟨rfl, u, us, rfl, nA, zu, hu, hv⟩
  unfold putK putL
  rw [any_eq_lk h]
  split
  · rename_i hh
    clear hv hu hh
    induction h with
    | nil => exact .nil
    | @cons kv p kvs lk h r ih =>
      refine .cons ?_ ih
      show LkA Z H A (if kv.1 = .inl t then (kv.1, .ref u) else kv) (if p.1 = t then (p.1, v) else p)
      by_cases c : p.1 = t
      · rw [if_pos c, if_pos (by rw [h.1, c]), h.1, c]; exact one
      · rw [if_neg c, if_neg (by rw [h.1]; exact fun e => c (by injection e))]; exact h
  · exact pair_app' h (.cons one .nil)
theorem val_lk {Z : Addr → Prop} {H : Hp} {A : List Addr} {t : Int} : ∀ {kvs : List (Key × V)} {lk : LkT}, Paired (LkA Z H A) kvs lk → (∃ u vs, valV kvs (.inl t) = some (.ref u) ∧ H u = some (.lst vs) ∧ Paired (HmAt H) vs (getL lk t)) ∨ (valV kvs (.inl t) = none ∧ getL lk t = [])
  | _, _, .nil => .inr ⟨rfl, rfl⟩
  | kv :: kvs, p :: lk, .cons ⟨e, u, vs, e2, _, _, hu, hp⟩ r => by
    unfold getL
    rw [List.find?_cons]
    by_cases c : p.1 = t
    · rw [decide_eq_true c]
      exact .inl ⟨u, vs, by rw [valV_pos (by rw [e, c]), e2], hu, hp⟩
    · rw [decide_eq_false c, valV_neg (by rw [e]; exact fun h => c (by injection h))]
      exact val_lk r
theorem any_eq_sd {Z : Addr → Prop} {Cst : Addr} {H : Hp} {w : Addr} {A : List Addr} {ev : List Ev} {n : Int} : ∀ {kvs : List (Key × V)} {ns : List Int}, Paired (SdAt Z Cst H w A ev) kvs ns → (kvs.any fun kv => decide (kv.1 = .inl n)) = decide (n ∈ ns)
  | _, _, .nil => rfl
  | kv :: kvs, m :: ns, .cons h r => by
    rw [List.any_cons, any_eq_sd r, h.1, Bool.eq_iff_iff, Bool.or_eq_true, decide_eq_true_iff, decide_eq_true_iff, decide_eq_true_iff, List.mem_cons]
    exact ⟨fun k => k.imp (fun e => by injection e with e; exact e.symm) id, fun k => k.imp (fun e => by rw [e]) id⟩
theorem sd_self {Z : Addr → Prop} {Cst : Addr} {H : Hp} {w : Addr} {A : List Addr} {ev : List Ev} {n : Int} {v : V} : ∀ {kvs : List (Key × V)} {ns : List Int}, Paired (SdAt Z Cst H w A ev) kvs ns → n ∉ ns → (kvs.map fun kv => if kv.1 = .inl n then (kv.1, v) else kv) = kvs
  | _, _, .nil, _ => rfl
  | kv :: kvs, m :: ns, .cons h r, nn => by
    rw [List.mem_cons, not_or] at nn
    rw [List.map_cons, if_neg (by rw [h.1]; exact fun e => nn.1 (by injection e with e; exact e.symm)), sd_self r nn.2]
theorem sd_put {Z Z' : Addr → Prop} {Cst : Addr} {H H' : Hp} {w : Addr} {A : List Addr} {ev ev' : List Ev} {n : Int} {yn a b : Addr} {kvs : List (Key × V)} {ns : List Int} (h : Paired (SdAt Z Cst H w A ev) kvs ns) (nd : ns.Nodup)
    (old : ∀ {kv : Key × V} {m : Int}, m ≠ n → SdAt Z Cst H w A ev kv m → SdAt Z' Cst H' w A ev' kv m) (new : SdAt Z' Cst H' w A ev' (.inl n, .ref yn) n) : Paired (SdAt Z' Cst H' w A ev') (putK kvs (.inl n) (.ref yn)) (addN ns n) := by
  have all : ∀ {kvs : List (Key × V)} {ns : List Int}, Paired (SdAt Z Cst H w A ev) kvs ns → n ∉ ns → Paired (SdAt Z' Cst H' w A ev') kvs ns := fun h => by
    induction h with
    | nil => intro _; exact .nil
    | @cons kv m kvs ns h r ih =>
      intro nn
      rw [List.mem_cons, not_or] at nn
      exact .cons (old (fun e => nn.1 e.symm) h) (ih nn.2)
  unfold putK addN
  rw [any_eq_sd h]
  by_cases c : n ∈ ns
  · rw [if_pos (decide_eq_true c), if_pos c]
    clear c
    induction h with
    | nil => exact .nil
    | @cons kv m kvs ns h r ih =>
      have nd := List.nodup_cons.mp nd
      show Paired _ ((if kv.1 = .inl n then (kv.1, V.ref yn) else kv) :: _) (m :: ns)
      by_cases e : m = n
      · subst e
        rw [if_pos h.1, h.1]
        refine .cons new ?_
        rw [sd_self r nd.1]
        exact all r nd.1
      · rw [if_neg (by rw [h.1]; exact fun k => e (by injection k))]
        exact .cons (old e h) (ih nd.2)
  · rw [if_neg (by rw [decide_eq_false c]; exact Bool.false_ne_true), if_neg c]
    exact pair_app' (all h c) (.cons new .nil)
theorem eg_put (eg : List (Int × Int)) (p : Int × Int) : putK (egK eg) [.inl p.1, .inl p.2] (.bl true) = egK (addE eg p) := by
  have any : ((egK eg).any fun kv => decide (kv.1 = [.inl p.1, .inl p.2])) = decide (p ∈ eg) := by
    unfold egK
    rw [List.any_map, Bool.eq_iff_iff, List.any_eq_true, decide_eq_true_iff]
    constructor
    · rintro ⟨q, hq, e⟩
      have e : ([.inl q.1, .inl q.2] : List Key) = [.inl p.1, .inl p.2] := of_decide_eq_true e
      injection e with e1 e2
      injection e2 with e2 _
      have : q = p := Prod.ext (by injection e1) (by injection e2)
      exact this ▸ hq
    · exact fun h => ⟨p, h, decide_eq_true rfl⟩
  unfold putK addE
  rw [any]
  by_cases c : p ∈ eg
  · rw [if_pos (decide_eq_true c), if_pos c]
    unfold egK
    rw [List.map_map]
    refine List.map_congr_left fun q _ => ?_
    show (if ([.inl q.1, .inl q.2] : List Key) = [.inl p.1, .inl p.2] then (([.inl q.1, .inl q.2] : List Key), V.bl true) else ([.inl q.1, .inl q.2], .bl true)) = _
    split <;> rfl
  · rw [if_neg (by rw [decide_eq_false c]; exact Bool.false_ne_true), if_neg c]
    unfold egK
    rw [List.map_append]; rfl
end My

namespace My
open PySem L2
def clashB (ev : List Ev) (n : Int) (z : Str) (t : Int) (m : Int) : Prop := m ≠ n ∧ ∃ q ∈ holdH ev t m, z = "own" ∨ q.2 = "own"
def spWvAdd (K : PySem.W.Frag) (C Cst Cw Cs : Addr) : Sp := fun vs H Q _ => ∃ (y w e s l g x wl wm p : Addr) (n : Int) (z : Str) (t : Int) (ev : List Ev) (ts : List Th) (rs : List Row) (Z : Addr → Prop), vs = [.ref y, .int n, .ref p] ∧ WvO Z C Cst H y w e s l g ev ∧ EvOk ts rs ev ∧ OnW Cw Cs H w x wl wm ts rs ∧ stepAt H p z t ∧
  (namesOf ev).length < 63 ∧ ev.length ≤ 300 ∧ ts.length ≤ 1000 ∧ dueS ts rs (trOf ev n) z t = none ∧ (z ≠ "drop" → ∀ m ∈ namesOf ev, ¬ clashB ev n z t m) ∧
  ∀ H', Le [e, s, l, g] H H' → WvO (fun a => Z a ∨ H a = none) C Cst H' y w e s l g (ev ++ [(n, (z, t))]) → Q .non H'
theorem OnW.kp2 {Cw Cs : Addr} {H H' : Hp} {w x l m : Addr} {ts : List Th} {rs : List Row} (W : OnW Cw Cs H w x l m ts rs) (k : ∀ a o, H a = some o → (∀ xs, o ≠ .dK xs) → (∀ xs, o ≠ .dT xs) → H' a = some o) : OnW Cw Cs H' w x l m ts rs := by
  obtain ⟨⟨⟨dw, hw⟩, ⟨vs, hl, hv⟩, hm, ne⟩, ⟨dx, l1, m1, us, hx, hl1, hr, hm1⟩, kn⟩ := W
  have tp : ∀ a xs, H a = some (.tup xs) → H' a = some (.tup xs) := fun a xs e => k _ _ e (fun _ h => nomatch h) (fun _ h => nomatch h)
  have lp : ∀ a xs, H a = some (.lst xs) → H' a = some (.lst xs) := fun a xs e => k _ _ e (fun _ h => nomatch h) (fun _ h => nomatch h)
  exact ⟨⟨⟨dw, k _ _ hw (fun _ h => nomatch h) (fun _ h => nomatch h)⟩, ⟨vs, lp _ _ hl, thsV_keep hv tp⟩, lp _ _ hm, ne⟩, ⟨dx, l1, m1, us, k _ _ hx (fun _ h => nomatch h) (fun _ h => nomatch h), lp _ _ hl1, rowsT_keep hr tp, lp _ _ hm1⟩, kn⟩
theorem hold_fst {ev : List Ev} {t m : Int} {q : Hm} (h : q ∈ holdH ev t m) : q.1 = m := by
  unfold holdH at h
  split at h
  · rw [List.mem_singleton.mp h]
  · cases h
section
variable {w : World} {K : PySem.W.Frag} {mg : Str → Option Value} {base : Heap}
set_option maxHeartbeats 32000000 in
set_option pp.maxSteps 900 in
theorem ok_Weaving_add (T : Txt K mg) : FnOk PP w K mg base CX0 14 T.a_Weaving_add T.fd_Weaving_add ["self", "name", "step"] (spWvAdd K T.c_Weaving T.c_Standing T.c_Web T.c_Shape) := by
  refine T.F_Weaving_add.ok sc_Weaving_add (fun vs H Q E h => ?_) (fun cdv A outer s H vs Q E hr h => ?_)
  · obtain ⟨y, wb, e, sd, l, g, x, wl, wm, p, n, z, t, ev, ts, rs, Z, rfl, _⟩ := h; rfl
  · obtain ⟨y, wb, e, sd, l, g, x, wl, wm, p, n, z, t, ev, ts, rs, Z, rfl, W, ok, O, hp, ln, lev, lts, due, ncl, q⟩ := h
    refine ⟨_, (pss_cons (ps_asg (pv 2) (pg_seq rfl (pgs_cons (pg_name (i := 3) sc_Weaving_add.nd rfl (.inl rfl)) (pgs_cons (pg_name (i := 4) sc_Weaving_add.nd rfl (.inl rfl)) pgs_nil))))
      (pss_cons (ps_set (i := 2) sc_Weaving_add.nd rfl (.inl rfl) (pe_tup (pa_cons (pv 3) (pa_cons (pv 4) pa_nil))))
      (pss_cons (ps_set (i := 5) sc_Weaving_add.nd rfl (.inl rfl) (pe_meth (pv 0) T.cl_Weaving T.m_Weaving_standing_of (ok_Weaving_standing_of T) (hr.mono (by omega)) T.b_Weaving_standing_of .nil pass0 (pa_cons (pv 1) pa_nil)))
      (pss_cons (ps_expr (pe_meth (pv 5) T.cl_Standing T.m_Standing_check ((ok_Standing_check T).calm) (hr.mono (by omega)) T.b_Standing_check .nil pass0 (pa_cons (pv 2) pa_nil)))
      (C8.pss_cut (ps_if (pt_cmpR op_ne (pv 3) (pe_str) (nomark _)) (pss_cons (ps_for PassesOwn.never rfl (pi_tup (pe_meth (pv 0) T.cl_Weaving T.m_Weaving_holders ((ok_Weaving_holders T).calm) (hr.mono (by omega)) T.b_Weaving_holders .nil pass0 (pa_cons (pv 4) pa_nil))) (pg_tup rfl (pgs_cons (pg_name (i := 6) sc_Weaving_add.nd rfl (.inl rfl)) (pgs_cons (pg_name (i := 7) sc_Weaving_add.nd rfl (.inl rfl)) pgs_nil))) (pss_one (ps_if (PW.pt (pw_and (pt_cmpR op_ne (pv 6) (pv 1) (nomark _)) (pw_and1 (pt_cmpR op_in_seq (pe_str) (pe_tup (pa_cons (pv 3) (pa_cons (pv 7) pa_nil))) (by with_unfolding_all rfl))))) (pss_one ps_never) pss_nil)))
      (pss_cons (ps_set (i := 8) sc_Weaving_add.nd rfl (.inl rfl) (pe_dget2 (hu_of hr) (pe_fld (pv 0) rfl) (pv 4) (pe_lst pa_nil) ⟨by rfl, by rfl, by rfl, by rfl⟩))
      (pss_cons (ps_for PassesOwn.never rfl (pi_list (pv 8)) (pg_tup rfl (pgs_cons (pg_name (i := 9) sc_Weaving_add.nd rfl (.inl rfl)) (pgs_cons (pg_name (i := 7) sc_Weaving_add.nd rfl (.inl rfl)) pgs_nil))) (pss_one (ps_if (pt_cmpR op_in_seq (pe_str) (pe_tup (pa_cons (pv 3) (pa_cons (pv 7) pa_nil))) (by with_unfolding_all rfl)) (pss_one (ps_dput (hu_of hr) (pe_fld (pv 0) rfl) (pe_tup (pa_cons (pv 9) (pa_cons (pv 1) pa_nil))) (pe_bl) rfl)) pss_nil)))
      (pss_one (ps_dput (hu_of hr) (pe_fld (pv 0) rfl) (pv 4) (pe_op op_cat (pv 8) (pe_lst (pa_cons (pe_tup (pa_cons (pv 1) (pa_cons (pv 3) pa_nil))) pa_nil))) rfl))))) pss_nil)
      (pss_cons (ps_expr (pe_meth (pv 5) T.cl_Standing T.m_Standing_take ((ok_Standing_take T).calm) (hr.mono (by omega)) T.b_Standing_take .nil pass0 (pa_cons (pv 2) pa_nil)))
      (pss_cons (ps_dput (hu_of hr) (pe_fld (pv 0) rfl) (pv 1) (pv 5) rfl)
      (pss_one (ps_expr (pe_bm PySem.F.plainAttrs_list PySem.F.slot_list_append PySem.F.type_list_append mt_append (pe_fld (pv 0) rfl) (pa_cons (pe_tup (pa_cons (pv 1) (pa_cons (pv 2) pa_nil))) pa_nil))))))))))), ?_⟩
    have big : 100000 < sizeLine := by decide
    obtain ⟨dy, hy⟩ := W.obj
    obtain ⟨wo1, wo2, wo3⟩ := ws_ok ev
    obtain ⟨dok, dinw, _, _⟩ := due_none due
    have lee : ev.length * ev.length ≤ 300 * 300 := Nat.mul_le_mul lev lev
    have eg0 : ∃ o, H e = some o := W.evs.elim fun _ h => ⟨_, h.1⟩
    have sg0 : ∃ o, H sd = some o := W.sts.elim fun _ h => ⟨_, h.1⟩
    have lg0 : ∃ o, H l = some o := W.lks.elim fun _ h => ⟨_, h.1⟩
    have gg0 : ∃ o, H g = some o := ⟨_, W.egs⟩
    -- the step
    have st0 : tAsg (tVar 2) (gSeq (cxOf CX0 PP w K mg base ["self", "name", "step", "deed", "thing", "standing", "holder", "mode", "lockers", "other"] "add" (defScope S_Weaving_add) T.a_Weaving_add cdv A outer s H E).nox.K 2 (gCons (gName 3) (gCons (gName 4) gNil))) = tAsg (tVar 2) (gSeq K 2 (gCons (gName 3) (gCons (gName 4) gNil))) := rfl
    clear st0
    refine ⟨_, rfl, ?_⟩
    have gs : ∀ {R : St → Hp → Prop} {σ : St}, R ((σ.set 3 (some (.str z))).set 4 (some (.int t))) H → gSeq K 2 (gCons (gName 3) (gCons (gName 4) gNil)) (.ref p) σ H R := fun r => by
      rcases hp with hp | hp
      · exact .inr ⟨p, _, rfl, SqL.of hp, rfl, _, _, rfl, _, _, rfl, rfl, r⟩
      · exact .inl ⟨p, _, rfl, SqT.of hp, rfl, _, _, rfl, _, _, rfl, rfl, r⟩
    refine gs ?_
    clear gs
    refine ⟨_, rfl, _, rfl, by show 2 ≤ sizeLine; decide, fun q0 nq0 => ?_⟩
    have s1 := same_new (o := .tup [.str z, .int t]) nq0
    have h1q : (upd H q0 (.tup [.str z, .int t])) q0 = some (.tup [.str z, .int t]) := upd_same
    revert s1 h1q
    generalize upd H q0 (.tup [.str z, .int t]) = H1
    intro s1 h1q
    -- the standing
    refine ⟨_, rfl, y, dy, _, rfl, s1 _ _ hy, rfl, _, rfl, y, wb, e, sd, l, g, x, wl, wm, n, ev, ts, rs, Z, rfl, W.same s1, ok, O.same s1, fun yn a b H2 s2 nyn na nb S2 => ?_⟩
    have s02 := s1.trans s2
    obtain ⟨dn, hyn2⟩ := S2.obj
    refine ⟨_, rfl, yn, dn, _, rfl, hyn2, rfl, _, rfl, yn, wb, a, b, q0, x, wl, wm, _, ts, rs, z, t, rfl, S2, (ok n).1.nd, O.same s02, .inr (s2 _ _ h1q), fun _ H3 s3 => ?_, fun e' he => by rw [due] at he; cases he⟩
    have s03 := s02.trans s3
    have W3 := W.same s03
    have S3 := S2.same s3
    have O3 := O.same s03
    have h3q := s3 _ _ (s2 _ _ h1q)
    have fyn := s1.free nyn
    have fa := s1.free na
    have fb := s1.free nb
    clear S2 hyn2 s3 s02 s2 nyn na nb h1q s1
    -- locks
    refine ⟨fun σ' H' => ∃ x6 x7 x8 x9 : Option V, σ' = [some (.ref y), some (.int n), some (.ref q0), some (.str z), some (.int t), some (.ref yn), x6, x7, x8, x9] ∧ Le [l, g] H3 H' ∧ (∃ kvs, H' l = some (.dK kvs) ∧ Paired (LkA (fun a => Z a ∨ H a = none) H' [e, sd, l, g]) kvs (actW (wsOf ev) (n, (z, t))).1) ∧ H' g = some (.dT (egK (actW (wsOf ev) (n, (z, t))).2)), ?_, ?_⟩
    · refine ⟨_, rfl, rfl, _, rfl, iteN (fun c => ?_) (fun c => ?_)⟩
      · have c0 : z ≠ "drop" := fun e' => c (by rw [e'])
        have y3 := s03 _ _ hy
        refine ⟨_, rfl, y, dy, _, rfl, y3, rfl, _, rfl, y, wb, e, sd, l, g, x, wl, wm, t, ev, ts, rs, Z, rfl, W3, ok, O3, by omega, lts, fun _ ns u us H4 pm so s4 nu hu pu => ?_, fun no => absurd dinw no⟩
        refine ⟨u, rfl, ⟨_, SqT.of hu⟩, for_tup (K := K) (a := u) (xs := us) (fun i σ H' => ∃ x6 x7 : Option V, σ = [some (.ref y), some (.int n), some (.ref q0), some (.str z), some (.int t), some (.ref yn), x6, x7, none, none] ∧ Same H4 H') ⟨_, _, rfl, Same.refl _⟩ (fun i σ H' _ ⟨_, _, _, s⟩ => SqT.of (s _ _ hu)) ?_ ?_⟩
        · rintro i v σ H5 hv ⟨x6, x7, rfl, s5⟩
          obtain ⟨hm, hhm, pq, rfl, hpq⟩ := pair_get' pu hv
          obtain ⟨m, hm1, hm2⟩ := List.mem_flatMap.mp (List.mem_of_getElem? hhm)
          have e1 := hold_fst hm2
          refine ⟨pq, _, rfl, SqT.of (s5 _ _ hpq), rfl, _, _, rfl, _, _, rfl, rfl, ?_⟩
          refine ⟨_, rfl, _, rfl, rfl, _, rfl, iteN (fun c1 => ?_) (fun c1 => ?_)⟩
          · refine ⟨_, rfl, _, rfl, by show 2 ≤ sizeLine; decide, fun u2 nu2 => ⟨u2, _, rfl, .inr (SqT.of upd_same), rfl, flat_strs [z, hm.2], _, rfl, iteNo ?_ ⟨_, _, rfl, s5.trans (same_new nu2)⟩⟩⟩
            rw [if_neg Bool.false_ne_true, show ([V.str z, V.str hm.2] : List V) = [z, hm.2].map V.str from rfl, in_strs]
            refine decide_eq_false fun mm => ?_
            simp only [List.mem_cons, List.not_mem_nil, or_false] at mm
            exact ncl c0 m (pm.mem_iff.mp hm1) ⟨fun e' => c1 (by rw [e1, e']), hm, hm2, mm.imp Eq.symm Eq.symm⟩
          · exact ⟨_, _, rfl, s5⟩
        rintro σ H5 ⟨x6, x7, rfl, s5⟩
        have s35 := s4.trans s5
        have W5 := W3.same s35
        obtain ⟨kl, hl5, pl⟩ := W5.lks
        have hg5 := W5.egs
        obtain ⟨LS, eLS⟩ : ∃ LS, LS = getL (wsOf ev).1 t := ⟨_, rfl⟩
        have lLS : LS.length ≤ ev.length := by rw [eLS]; exact wo1 t
        refine ⟨_, rfl, y, _, dy, _, _, rfl, s35 _ _ y3, T.cl_Weaving, T.no_Weaving__lockers, wv_look4 _ _ _ _ _, l, rfl, .inl ⟨_, .inl hl5⟩, _, rfl, Nat.zero_le _, fun u0 nu0 => ⟨_, DGet.k (k := .inl t) (same_new nu0 _ _ hl5), ?_⟩⟩
        have s6 := same_new (o := .lst []) nu0
        obtain ⟨uL, vs, euL, huL, pvs⟩ : ∃ uL vs, (valV kl (.inl t)).getD (.ref u0) = .ref uL ∧ (upd H5 u0 (.lst [])) uL = some (.lst vs) ∧ Paired (HmAt (upd H5 u0 (.lst []))) vs LS := by
          rcases val_lk (t := t) pl with ⟨u1, vs, h1, h2, h3⟩ | ⟨h1, h2⟩
          · exact ⟨u1, vs, by rw [h1]; rfl, s6 _ _ h2, by rw [eLS]; exact L2.Paired.mapP h3 fun _ _ h => h.keep (.same s6)⟩
          · exact ⟨u0, [], by rw [h1]; rfl, upd_same, by rw [eLS, h2]; exact .nil⟩
        rw [euL]
        have s36 := s35.trans s6
        have y6 := s36 _ _ y3
        have hl6 := s6 _ _ hl5
        have hg6 := s6 _ _ hg5
        have pl6 : Paired (LkA Z (upd H5 u0 (.lst [])) [e, sd, l, g]) kl (wsOf ev).1 := L2.Paired.mapP pl fun _ _ ⟨a, u, vs, b, n', zu, c, d⟩ => ⟨a, u, vs, b, n', zu, s6 _ _ c, L2.Paired.mapP d fun _ _ h => h.keep (.same s6)⟩
        revert huL pvs s36 y6 hl6 hg6 pl6
        generalize upd H5 u0 (.lst []) = H6
        intro huL pvs s36 y6 hl6 hg6 pl6
        clear s6 nu0 pl hl5 hg5 W5 s35 s5 pu hu nu s4 pm so
        have nyg : y ≠ g := fun z' => by rw [z', hg6] at y6; cases y6
        have nlg : l ≠ g := fun z' => by rw [z', hg6] at hl6; cases hl6
        have nuLg : uL ≠ g := fun z' => by rw [z', hg6] at huL; cases huL
        have lvs := pair_len' pvs
        obtain ⟨f, ef⟩ : ∃ f : Hm → Bool, f = fun o => decide (z = ("own" : Str)) || decide (o.2 = ("own" : Str)) := ⟨_, rfl⟩
        refine ⟨_, rfl, uL, rfl, ⟨_, SqL.of huL⟩, for_list (K := K) (a := uL) (xs := vs) (fun i σ H' => ∃ x6 x7 x9 : Option V, σ = [some (.ref y), some (.int n), some (.ref q0), some (.str z), some (.int t), some (.ref yn), x6, x7, some (.ref uL), x9] ∧ But g H6 H' ∧ H' g = some (.dT (egK (((LS.take i).filter f).foldl (fun eg o => addE eg (o.1, n)) (wsOf ev).2)))) ⟨_, _, _, rfl, But.refl _ _, by rw [List.take_zero]; exact hg6⟩ (fun i σ H' _ ⟨_, _, _, _, b, _⟩ => SqL.of (b _ _ nuLg huL)) ?_ ?_⟩
        · rintro i v σ H7 hv ⟨x6, x7, x9, rfl, b7, h7g⟩
          obtain ⟨o, ho, pq, rfl, hpq⟩ := pair_get' pvs hv
          have hi := (List.getElem?_eq_some_iff.mp ho).1
          have npq : pq ≠ g := fun z' => by rw [z', hg6] at hpq; cases hpq
          have et : (LS.take (i + 1)).filter f = (LS.take i).filter f ++ (if f o then [o] else []) := by
            rw [List.take_succ, ho, Option.toList_some, List.filter_append]
            congr 1
            cases e' : f o <;> simp [e']
          refine ⟨pq, _, rfl, SqT.of (b7 _ _ npq hpq), rfl, _, _, rfl, _, _, rfl, rfl, ?_⟩
          refine ⟨_, rfl, _, rfl, by show 2 ≤ sizeLine; decide, fun u2 nu2 => ⟨u2, _, rfl, .inr (SqT.of upd_same), rfl, flat_strs [z, o.2], ?_⟩⟩
          rw [show (if false = true then !inV (V.str "own") [V.str z, V.str o.2] else inV (V.str "own") [V.str z, V.str o.2]) = f o by
            rw [if_neg Bool.false_ne_true, show ([V.str z, V.str o.2] : List V) = [z, o.2].map V.str from rfl, in_strs, ef, Bool.eq_iff_iff, decide_eq_true_iff, Bool.or_eq_true, decide_eq_true_iff, decide_eq_true_iff]
            simp only [List.mem_cons, List.not_mem_nil, or_false]
            exact ⟨fun h => h.imp Eq.symm Eq.symm, fun h => h.imp Eq.symm Eq.symm⟩]
          have s8 := same_new (o := .tup [.str z, .str o.2]) nu2
          refine ⟨_, rfl, ?_⟩
          rw [et]
          cases hf : f o with
          | false => exact iteNo rfl ⟨_, _, _, rfl, b7.trans (But.of_same s8), by rw [if_neg Bool.false_ne_true, List.append_nil]; exact s8 _ _ h7g⟩
          | true =>
            refine iteYes rfl ⟨_, rfl, y, _, dy, _, _, rfl, s8 _ _ (b7 _ _ nyg y6), T.cl_Weaving, T.no_Weaving__edges, wv_look5 _ _ _ _ _, _, rfl, _, rfl, by show 2 ≤ sizeLine; decide, fun k nk => ?_⟩
            have s9 := same_new (o := .tup [.int o.1, .int n]) nk
            have lE : ((((LS.take i).filter f).foldl (fun eg o => addE eg (o.1, n)) (wsOf ev).2)).length ≤ 100000 := by
              have h1 := addEs_len (f := fun o => (o.1, n)) ((LS.take i).filter f) (wsOf ev).2
              have h2 := List.length_filter_le f (LS.take i)
              rw [List.length_take] at h2
              omega
            refine ⟨g, _, rfl, DPut.t (k := [.inl o.1, .inl n]) (s9 _ _ (s8 _ _ h7g)) upd_same (by unfold egK; rw [List.length_map]; omega), ?_⟩
            have ep := eg_put (((LS.take i).filter f).foldl (fun eg o => addE eg (o.1, n)) (wsOf ev).2) (o.1, n)
            refine ⟨_, _, _, rfl, fun c' o' n' h' => by rw [upd_ne n']; exact s9 _ _ (s8 _ _ (b7 _ _ n' h')), ?_⟩
            rw [upd_same, if_pos rfl, List.foldl_append]
            exact congrArg (fun k => some (HO.dT k)) ep
        rintro σ H7 ⟨x6, x7, x9, rfl, b7, h7g⟩
        rw [lvs, List.take_length] at h7g
        have h7L := b7 _ _ nuLg huL
        have h7l := b7 _ _ nlg hl6
        refine ⟨_, rfl, _, rfl, _, rfl, by show 2 ≤ sizeLine; decide, fun k1 nk1 => ⟨by show 1 ≤ sizeLine; decide, fun k2 nk2 => ?_⟩⟩
        have s8 := (same_new (o := .tup [.int n, .str z]) nk1).trans (same_new (o := .lst [.ref k1]) nk2)
        have h8k1 := same_new (o := .lst [.ref k1]) nk2 _ _ (upd_same (H := H7) (a := k1) (o := .tup [.int n, .str z]))
        have h8k2 : (upd (upd H7 k1 (.tup [.int n, .str z])) k2 (.lst [.ref k1])) k2 = some (.lst [.ref k1]) := upd_same
        revert s8 h8k1 h8k2
        generalize upd (upd H7 k1 (.tup [.int n, .str z])) k2 (.lst [.ref k1]) = H8
        intro s8 h8k1 h8k2
        refine ⟨uL, k2, _, _, rfl, rfl, s8 _ _ h7L, h8k2, by show vs.length + 1 ≤ sizeLine; omega, fun uN nuN => ?_⟩
        have s9 := same_new (o := .lst (vs ++ [.ref k1])) nuN
        have h9N : (upd H8 uN (.lst (vs ++ [.ref k1]))) uN = some (.lst (vs ++ [.ref k1])) := upd_same
        have s79 := s8.trans s9
        have h9k1 := s9 _ _ h8k1
        clear s9
        revert h9N s79 h9k1
        generalize upd H8 uN (.lst (vs ++ [.ref k1])) = H9
        intro h9N s79 h9k1
        have f7N := s8.free nuN
        have nNg : uN ≠ g := fun z' => by rw [z', h7g] at f7N; cases f7N
        have f6N := b7.free nNg f7N
        have f3N := s36.free f6N
        have f0N := s03.free f3N
        have h9l := s79 _ _ h7l
        refine ⟨_, rfl, y, _, dy, _, _, rfl, s79 _ _ (b7 _ _ nyg y6), T.cl_Weaving, T.no_Weaving__lockers, wv_look4 _ _ _ _ _, _, rfl, l, _, rfl, DPut.k (k := .inl t) h9l (by have := pair_len' pl6; omega), ?_⟩
        have nA : uN ∉ [e, sd, l, g] := by
          simp only [List.mem_cons, List.not_mem_nil, or_false, not_or]
          refine ⟨fun z' => ?_, fun z' => ?_, fun z' => ?_, nNg⟩
          · obtain ⟨o, h⟩ := eg0; rw [z', h] at f0N; cases f0N
          · obtain ⟨o, h⟩ := sg0; rw [z', h] at f0N; cases f0N
          · obtain ⟨o, h⟩ := lg0; rw [z', h] at f0N; cases f0N
        have le6 : ∀ c o, c ≠ g → c ≠ l → H6 c = some o → (upd H9 l (.dK (putK kl (.inl t) (.ref uN)))) c = some o := fun c o n1 n2 h => by rw [upd_ne n2]; exact s79 _ _ (b7 _ _ n1 h)
        have tk6 : TKeep H6 (upd H9 l (.dK (putK kl (.inl t) (.ref uN)))) := fun c xs h => le6 c _ (fun z' => by rw [z', hg6] at h; cases h) (fun z' => by rw [z', hl6] at h; cases h) h
        have tk9 : TKeep H9 (upd H9 l (.dK (putK kl (.inl t) (.ref uN)))) := fun c xs h => by rw [upd_ne (fun z' => by rw [z', h9l] at h; cases h)]; exact h
        have nNl : uN ≠ l := fun z' => nA (by simp [z'])
        have ew : actW (wsOf ev) (n, (z, t)) = (putL (wsOf ev).1 t (LS ++ [(n, z)]), (LS.filter f).foldl (fun eg o => addE eg (o.1, n)) (wsOf ev).2) := by
          unfold actW
          rw [if_neg c0, eLS, ef]
        rw [ew]
        refine ⟨_, _, _, _, rfl, fun c o n' h => ?_, ⟨_, upd_same, ?_⟩, ?_⟩
        · simp only [List.mem_cons, List.not_mem_nil, or_false, not_or] at n'
          exact le6 c o n'.2 n'.1 (s36 _ _ h)
        · refine lk_put (L2.Paired.mapP pl6 fun _ _ ⟨a, u, vs, b, n', zu, c, d⟩ => ⟨a, u, vs, b, n', .inl zu, ?_, L2.Paired.mapP d fun _ _ h => h.keep tk6⟩) nA (.inr f0N) (by rw [upd_ne nNl]; exact h9N) (pair_app' (L2.Paired.mapP pvs fun _ _ h => h.keep tk6) (.cons ⟨k1, rfl, tk9 _ _ h9k1⟩ .nil))
          simp only [List.mem_cons, List.not_mem_nil, or_false, not_or] at n'
          exact le6 _ _ n'.2.2.2 n'.2.2.1 c
        · rw [upd_ne nlg.symm]; exact s79 _ _ h7g
      · have c : z = "drop" := V.str.inj c
        have ew : actW (wsOf ev) (n, (z, t)) = wsOf ev := by unfold actW; rw [if_pos c]
        rw [ew]
        obtain ⟨kl, hl3, pl⟩ := W3.lks
        exact ⟨_, _, _, _, rfl, Le.refl _ _, ⟨kl, hl3, L2.Paired.mapP pl fun _ _ ⟨a, u, vs, b, n', zu, c, d⟩ => ⟨a, u, vs, b, n', .inl zu, c, d⟩⟩, W3.egs⟩
    rintro σ' H4 ⟨x6, x7, x8, x9, rfl, le34, ⟨kl, hl4, pl4⟩, hg4⟩
    have kq : ∀ c o, H3 c = some o → (∀ xs, o ≠ .dK xs) → (∀ xs, o ≠ .dT xs) → H4 c = some o := fun c o h n1 n2 => le34 c o (by
      obtain ⟨kl0, hl3, _⟩ := W3.lks
      have hg3 := W3.egs
      simp only [List.mem_cons, List.not_mem_nil, or_false, not_or]
      exact ⟨fun z' => n1 kl0 (by rw [z', hl3] at h; exact (Option.some.inj h).symm), fun z' => n2 _ (by rw [z', hg3] at h; exact (Option.some.inj h).symm)⟩) h
    have O4 : OnW T.c_Web T.c_Shape H4 wb x wl wm ts rs := O3.kp2 kq
    have fr : ∀ {c d : Addr}, H c = none → (∃ o, H d = some o) → c ≠ d := fun hc ⟨o, hd⟩ z' => by rw [z', hd] at hc; cases hc
    have frl : ∀ {c : Addr}, H c = none → c ∉ [l, g] := fun hc => by
      simp only [List.mem_cons, List.not_mem_nil, or_false, not_or]
      exact ⟨fr hc lg0, fr hc gg0⟩
    have frA : ∀ {c : Addr}, H c = none → c ∉ [e, sd, l, g] := fun hc => by
      simp only [List.mem_cons, List.not_mem_nil, or_false, not_or]
      exact ⟨fr hc eg0, fr hc sg0, fr hc lg0, fr hc gg0⟩
    have S4 : Sto T.c_Standing H4 yn wb a b (trOf ev n) := S3.keep (fun o => le34 _ _ (frl fyn)) (fun o => le34 _ _ (frl fa)) (fun o => le34 _ _ (frl fb))
    have h4q := kq _ _ h3q (fun _ h => nomatch h) (fun _ h => nomatch h)
    obtain ⟨dn4, hyn4⟩ := S4.obj
    have ha4 := S4.ms
    have hb4 := S4.hs
    refine ⟨_, rfl, yn, dn4, _, rfl, hyn4, rfl, _, rfl, yn, wb, a, b, q0, x, wl, wm, _, ts, rs, z, t, rfl, S4, (ok n).1.nd, by have := (ok n).2; omega, O4, .inr h4q, fun _ H5 le45 S5 => ?_, fun e' he => by rw [due] at he; cases he⟩
    have k45 : ∀ c o, c ≠ yn → c ≠ a → c ≠ b → H4 c = some o → H5 c = some o := fun c o n1 n2 n3 h => le45 c o (by simp only [List.mem_cons, List.not_mem_nil, or_false, not_or]; exact ⟨n1, n2, n3⟩) h
    have t45 : TKeep H4 H5 := fun c xs h => k45 c _ (fun z' => by rw [z', hyn4] at h; cases h) (fun z' => by rw [z', ha4] at h; cases h) (fun z' => by rw [z', hb4] at h; cases h) h
    have l45 : ∀ c xs, H4 c = some (.lst xs) → H5 c = some (.lst xs) := fun c xs h => k45 c _ (fun z' => by rw [z', hyn4] at h; cases h) (fun z' => by rw [z', ha4] at h; cases h) (fun z' => by rw [z', hb4] at h; cases h) h
    have k05 : ∀ c o, c ∉ [l, g] → H c = some o → H5 c = some o := fun c o nm h => k45 c o (fr fyn ⟨_, h⟩).symm (fr fa ⟨_, h⟩).symm (fr fb ⟨_, h⟩).symm (le34 c o nm (s03 _ _ h))
    obtain ⟨kvs, hs0, ps⟩ := W.sts
    obtain ⟨vs, he0, pe⟩ := W.evs
    obtain ⟨kl0, hl0, _⟩ := W.lks
    have hg0 := W.egs
    have nsg : sd ≠ g := fun z' => by rw [z', hg0] at hs0; cases hs0
    have nes : e ≠ sd := fun z' => by rw [z', hs0] at he0; cases he0
    have nel : e ≠ l := fun z' => by rw [z', hl0] at he0; cases he0
    have neg : e ≠ g := fun z' => by rw [z', hg0] at he0; cases he0
    have nlg : l ≠ g := fun z' => by rw [z', hg0] at hl0; cases hl0
    have hs5 := k05 _ _ (by simp only [List.mem_cons, List.not_mem_nil, or_false, not_or]; exact ⟨W.ne, nsg⟩) hs0
    have he5 := k05 _ _ (by simp only [List.mem_cons, List.not_mem_nil, or_false, not_or]; exact ⟨nel, neg⟩) he0
    have insA : ∀ {c C' d' fs}, H c = some (.ins C' d' fs) → c ∉ [e, sd, l, g] := fun {c C' d' fs} h => by
      simp only [List.mem_cons, List.not_mem_nil, or_false, not_or]
      exact ⟨fun z' => (by rw [z', he0] at h; cases h), fun z' => (by rw [z', hs0] at h; cases h), fun z' => (by rw [z', hl0] at h; cases h), fun z' => by rw [z', hg0] at h; cases h⟩
    have toL : ∀ {c : Addr}, c ∉ [e, sd, l, g] → c ∉ [l, g] := fun h m => h (by simp only [List.mem_cons, List.not_mem_nil, or_false] at m ⊢; exact m.elim (fun m => .inr (.inr (.inl m))) fun m => .inr (.inr (.inr m)))
    have y5 := k05 _ _ (toL (insA hy)) hy
    have hl5 := k45 _ _ (fr fyn lg0).symm (fr fa lg0).symm (fr fb lg0).symm hl4
    have hg5 := k45 _ _ (fr fyn gg0).symm (fr fa gg0).symm (fr fb gg0).symm hg4
    have h5q := t45 _ _ h4q
    have lks : kvs.length < 63 := by rw [pair_len' ps]; exact ln
    have lvs : vs.length ≤ 300 := by rw [pair_len' pe]; exact lev
    refine ⟨_, rfl, _, rfl, y, _, dy, _, _, rfl, y5, T.cl_Weaving, T.no_Weaving__standings, wv_look3 _ _ _ _ _, _, rfl, sd, _, rfl, DPut.k (k := .inl n) hs5 (by omega), ?_⟩
    have nys : y ≠ sd := fun z' => insA hy (by simp [z'])
    have y6 : (upd H5 sd (.dK (putK kvs (.inl n) (.ref yn)))) y = _ := (upd_ne nys).trans y5
    have he6 : (upd H5 sd (.dK (putK kvs (.inl n) (.ref yn)))) e = _ := (upd_ne nes).trans he5
    refine ⟨_, rfl, y, _, dy, _, _, rfl, y6, T.cl_Weaving, T.no_Weaving__events, wv_look2 _ _ _ _ _, .inl ⟨rfl, _, SqL.of he6⟩, _, rfl, _, rfl, by show 2 ≤ sizeLine; decide, fun u nu => ?_⟩
    have he7 := same_new (o := .tup [.int n, .ref q0]) nu _ _ he6
    refine ⟨_, _, _, rfl, rfl, he7, by omega, ?_⟩
    have k58 : ∀ c o, c ≠ sd → c ≠ e → H5 c = some o → (upd (upd (upd H5 sd (.dK (putK kvs (.inl n) (.ref yn)))) u (.tup [.int n, .ref q0])) e (.lst (vs ++ [.ref u]))) c = some o := fun c o n1 n2 h => by
      rw [upd_ne n2]
      exact same_new nu _ _ ((upd_ne n1).trans h)
    have nue : u ≠ e := fun z' => by rw [z', he6] at nu; cases nu
    have h8u : (upd (upd (upd H5 sd (.dK (putK kvs (.inl n) (.ref yn)))) u (.tup [.int n, .ref q0])) e (.lst (vs ++ [.ref u]))) u = some (.tup [.int n, .ref q0]) := by rw [upd_ne nue, upd_same]
    have h8e : (upd (upd (upd H5 sd (.dK (putK kvs (.inl n) (.ref yn)))) u (.tup [.int n, .ref q0])) e (.lst (vs ++ [.ref u]))) e = some (.lst (vs ++ [.ref u])) := upd_same
    have nus : sd ≠ u := fun z' => by rw [← z', upd_same] at nu; cases nu
    have h8s : (upd (upd (upd H5 sd (.dK (putK kvs (.inl n) (.ref yn)))) u (.tup [.int n, .ref q0])) e (.lst (vs ++ [.ref u]))) sd = some (.dK (putK kvs (.inl n) (.ref yn))) := by rw [upd_ne nes.symm, upd_ne nus, upd_same]
    revert k58 h8u h8e h8s
    generalize upd (upd (upd H5 sd (.dK (putK kvs (.inl n) (.ref yn)))) u (.tup [.int n, .ref q0])) e (.lst (vs ++ [.ref u])) = H8
    intro k58 h8u h8e h8s
    have t58 : TKeep H5 H8 := fun c xs h => k58 c _ (fun z' => by rw [z', hs5] at h; cases h) (fun z' => by rw [z', he5] at h; cases h) h
    have nA : ∀ {c : Addr}, c ∉ [e, sd, l, g] → c ≠ sd ∧ c ≠ e := fun h => ⟨fun z' => h (by simp [z']), fun z' => h (by simp [z'])⟩
    have k08 : ∀ c o, c ∉ [e, sd, l, g] → H c = some o → H8 c = some o := fun c o nm h => k58 c o (nA nm).1 (nA nm).2 (k05 c o (toL nm) h)
    have tk08 : TKeep H H8 := fun c xs h => k08 c _ (by
      simp only [List.mem_cons, List.not_mem_nil, or_false, not_or]
      exact ⟨fun z' => (by rw [z', he0] at h; cases h), fun z' => (by rw [z', hs0] at h; cases h), fun z' => (by rw [z', hl0] at h; cases h), fun z' => by rw [z', hg0] at h; cases h⟩) h
    refine q _ k08 ⟨⟨dy, k08 _ _ (insA hy) hy⟩, ⟨_, h8e, pair_app' (L2.Paired.mapP pe fun _ _ h => h.keep tk08) (.cons ⟨u, q0, rfl, h8u, t58 _ _ h5q⟩ .nil)⟩, ⟨_, h8s, ?_⟩, ⟨kl, k58 _ _ W.ne.symm nel.symm hl5, ?_⟩, ?_, W.ne, .inl W.z.1, .inl W.z.2.1, .inl W.z.2.2.1, .inl W.z.2.2.2⟩
    · rw [names_snoc]
      refine sd_put (a := a) (b := b) ps (names_nd ev) (fun {kv m} nm ⟨e1, ym, a', b', e2, na, nb, za, zb, S⟩ => ⟨e1, ym, a', b', e2, na, nb, .inl za, .inl zb, ?_⟩) ⟨rfl, yn, a, b, rfl, frA fa, frA fb, .inr fa, .inr fb, ?_⟩
      · rw [tr_snoc, if_neg (fun z' => nm z'.symm)]
        obtain ⟨dm, hm⟩ := S.obj
        exact S.keep (fun o => k08 _ _ (insA hm)) (fun o => k08 _ _ na) (fun o => k08 _ _ nb)
      · rw [tr_snoc, if_pos rfl]
        exact S5.keep (fun o => k58 _ _ (nA (frA fyn)).1 (nA (frA fyn)).2) (fun o => k58 _ _ (nA (frA fa)).1 (nA (frA fa)).2) (fun o => k58 _ _ (nA (frA fb)).1 (nA (frA fb)).2)
    · rw [ws_snoc]
      exact L2.Paired.mapP pl4 fun _ _ ⟨e1, u', us', e2, na, zu, hu', hp'⟩ => ⟨e1, u', us', e2, na, zu, k58 _ _ (nA na).1 (nA na).2 (l45 _ _ hu'), L2.Paired.mapP hp' fun _ _ h => h.keep (fun c xs h => t58 _ _ (t45 _ _ h))⟩
    · rw [ws_snoc]
      exact k58 _ _ nsg.symm neg.symm hg5
end
end My

namespace My
open PySem L2
/-! ### what a standing has may be taken anew -/
theorem thsL_act {tr : List Lk} {z : Str} {t : Int} : thsL (actS tr z t) = if z = "drop" then thsL tr else thsL tr ++ [t] := by
  unfold actS
  by_cases c : z = "drop"
  · rw [if_pos c, if_pos c, thsL_drop]
  · rw [if_neg c, if_neg c]; unfold thsL; rw [List.map_append]; rfl
theorem act_len (tr : List Lk) (z : Str) (t : Int) : (actS tr z t).length ≤ tr.length + 1 := by
  unfold actS
  split
  · unfold dropT; rw [List.length_map]; omega
  · rw [List.length_append]; simp
theorem act_nd {ts : List Th} {rs : List Row} {tr : List Lk} {z : Str} {t : Int} (h : dueS ts rs tr z t = none) (nd : (thsL tr).Nodup) : (thsL (actS tr z t)).Nodup := by
  obtain ⟨_, _, _, dl⟩ := due_none h
  rw [thsL_act]
  by_cases c : z = "drop"
  · rw [if_pos c]; exact nd
  · rw [if_neg c]
    have nm := lkAt_none.mp (dl c)
    refine List.nodup_append.mpr ⟨nd, by simp, fun a ha c hc e => ?_⟩
    rw [List.mem_singleton.mp hc] at e
    exact nm (e ▸ ha)
theorem due_share {ts : List Th} {rs : List Row} {tr : List Lk} {t : Int} (h : dueS ts rs tr "share" t = none) : sharedW rs ts t = true := by
  obtain ⟨ok, i, _, dl⟩ := due_none h
  rw [due_lock ok i (by decide), dl (by decide), if_neg (by simp)] at h
  by_cases c : sharedW rs ts t = true
  · exact c
  · rw [if_pos ⟨rfl, by simpa using c⟩] at h; cases h
theorem takeOk_act {ts : List Th} {rs : List Row} {tr : List Lk} {z : Str} {t : Int} (O : TakeOk ts rs tr) (h : dueS ts rs tr z t = none) : TakeOk ts rs (actS tr z t) := by
  obtain ⟨ok, i, _, dl⟩ := due_none h
  have key : ∀ k ∈ actS tr z t, inW ts k.1 ∧ (k.2.1 = false → sharedW rs ts k.1 = true) := fun k hk => by
    unfold actS at hk
    by_cases c : z = "drop"
    · rw [if_pos c] at hk
      unfold dropT at hk
      obtain ⟨j, hj, e⟩ := List.mem_map.mp hk
      have e1 : k.1 = j.1 := by rw [← e]; split <;> rfl
      have e2 : k.2.1 = j.2.1 := by rw [← e]; split <;> rfl
      rw [e1, e2]
      exact ⟨O.inw j hj, O.sh j hj⟩
    · rw [if_neg c] at hk
      rcases List.mem_append.mp hk with hk | hk
      · exact ⟨O.inw k hk, O.sh k hk⟩
      · rw [List.mem_singleton.mp hk]
        refine ⟨i, fun e => ?_⟩
        have e : ¬ z = "own" := of_decide_eq_false e
        rcases ok with h1 | h1 | h1
        · exact absurd h1 e
        · subst h1; exact due_share h
        · exact absurd h1 c
  exact ⟨act_nd h O.nd, fun k hk => (key k hk).1, fun k hk => (key k hk).2⟩
end My

namespace My
open PySem L2
theorem WvO.zmono {Z Z' : Addr → Prop} {C Cst : Addr} {H : Hp} {y w e s l g : Addr} {ev : List Ev} (W : WvO Z C Cst H y w e s l g ev) (m : ∀ a, Z a → Z' a) : WvO Z' C Cst H y w e s l g ev := by
  obtain ⟨ho, he, ⟨ks, hs, ps⟩, ⟨kl, hl, pl⟩, hg, ne, z1, z2, z3, z4⟩ := W
  exact ⟨ho, he, ⟨ks, hs, L2.Paired.mapP ps fun _ _ ⟨a, yn, b, c, d, n1, n2, z1, z2, S⟩ => ⟨a, yn, b, c, d, n1, n2, m _ z1, m _ z2, S⟩⟩, ⟨kl, hl, L2.Paired.mapP pl fun _ _ ⟨a, u, vs, b, n, z, c⟩ => ⟨a, u, vs, b, n, m _ z, c⟩⟩, hg, ne, m _ z1, m _ z2, m _ z3, m _ z4⟩
/-- the event can follow the events -/
def EvNext (ts : List Th) (rs : List Row) (ev : List Ev) (e : Ev) : Prop := dueS ts rs (trOf ev e.1) e.2.1 e.2.2 = none ∧ (e.2.1 ≠ "drop" → ∀ m ∈ namesOf ev, ¬ clashB ev e.1 e.2.1 e.2.2 m)
/-- the events could be added one by one -/
inductive EvDone (ts : List Th) (rs : List Row) : List Ev → Prop
  | nil : EvDone ts rs []
  | snoc {ev : List Ev} {e : Ev} : EvDone ts rs ev → EvNext ts rs ev e → EvDone ts rs (ev ++ [e])
theorem EvDone.inv {ts : List Th} {rs : List Row} {ev0 : List Ev} (h : EvDone ts rs ev0) : ∀ {ev : List Ev} {e : Ev}, ev0 = ev ++ [e] → EvDone ts rs ev ∧ EvNext ts rs ev e := by
  cases h with
  | nil => intro ev e h; exact absurd h (by simp)
  | snoc a b =>
    intro ev e h
    obtain ⟨rfl, h2⟩ := List.append_inj' h rfl
    obtain rfl := List.cons.inj h2 |>.1
    exact ⟨a, b⟩
theorem EvDone.take {ts : List Th} {rs : List Row} {ev : List Ev} (h : EvDone ts rs ev) (i : Nat) : EvDone ts rs (ev.take i) := by
  induction h with
  | nil => simpa using EvDone.nil
  | @snoc ev e a b ih =>
    by_cases c : i ≤ ev.length
    · rw [List.take_append_of_le_length c]; exact ih
    · rw [List.take_of_length_le (by simp; omega)]; exact .snoc a b
theorem EvDone.next {ts : List Th} {rs : List Row} {ev : List Ev} (h : EvDone ts rs ev) {i : Nat} {e : Ev} (he : ev[i]? = some e) : EvNext ts rs (ev.take i) e := by
  have h2 := h.take (i + 1)
  rw [List.take_add_one, he, Option.toList_some] at h2
  exact (h2.inv rfl).2
theorem trOf_len (ev : List Ev) (n : Int) : (trOf ev n).length ≤ ev.length := by
  have go : ∀ (l : List Stp) (tr : List Lk), (l.foldl (fun tr s => actS tr s.1 s.2) tr).length ≤ tr.length + l.length := fun l => by
    induction l with
    | nil => exact fun tr => Nat.le_refl _
    | cons s l ih =>
      intro tr
      have := ih (actS tr s.1 s.2)
      have := act_len tr s.1 s.2
      rw [List.foldl_cons, List.length_cons]; omega
  have h1 := go (stepsOf ev n) []
  have h2 : (stepsOf ev n).length ≤ ev.length := by unfold stepsOf; rw [List.length_map]; exact List.length_filter_le _ _
  unfold trOf
  simp at h1
  omega
theorem EvDone.tk {ts : List Th} {rs : List Row} {ev : List Ev} (h : EvDone ts rs ev) (n : Int) : TakeOk ts rs (trOf ev n) := by
  induction h with
  | nil => exact ⟨List.nodup_nil, (fun k h => nomatch h), fun k h => nomatch h⟩
  | @snoc ev e a b ih =>
    rw [tr_snoc]
    by_cases c : e.1 = n
    · rw [if_pos c]
      exact takeOk_act ih (c ▸ b.1)
    · rw [if_neg c]; exact ih
theorem EvDone.ok {ts : List Th} {rs : List Row} {ev : List Ev} (h : EvDone ts rs ev) (l : ev.length ≤ 300) : EvOk ts rs ev := fun n => ⟨h.tk n, by have := trOf_len ev n; omega⟩
theorem names_len (ev : List Ev) : ∀ i, (namesOf (ev.take i)).length ≤ (namesOf ev).length := fun i => by
  have h : ∀ (l : List Ev) (acc : List Int), acc.length ≤ (l.foldl (fun acc e => addN acc e.1) acc).length := fun l => by
    induction l with
    | nil => exact fun acc => Nat.le_refl _
    | cons e l ih =>
      intro acc
      have := ih (addN acc e.1)
      have : acc.length ≤ (addN acc e.1).length := by unfold addN; split <;> simp
      rw [List.foldl_cons]; omega
  have := h (ev.drop i) (namesOf (ev.take i))
  unfold namesOf at this ⊢
  rwa [← List.foldl_append, List.take_append_drop] at this
theorem make_wv {C Cst : Addr} {H : Hp} {w : Addr} {R : Addr → VK} {E : XK} (q : ∀ y e s l g H', Same H H' → H y = none → WvO (fun a => H a = none) C Cst H' y w e s l g [] → R y .non H') :
    ∀ y dy, H y = none → H dy = none → dy ≠ y → spWvInit C Cst (.ref y :: ([.ref w] ++ [])) (upd (upd H dy (.own y)) y (.ins C dy [])) (R y) E := fun y dy ny nd _ => by
  have s1 : Same H (upd (upd H dy (.own y)) y (.ins C dy [])) := fun a o h => by rw [upd_ne (ne_of_none h ny), upd_ne (ne_of_none h nd)]; exact h
  exact ⟨y, dy, w, rfl, upd_same, fun e sd l g H' bu _ _ _ _ W => q y e sd l g H' (fun c o h => bu c o (ne_of_none h ny) (s1 _ _ h)) ny (W.zmono fun a h => s1.free h)⟩
def spWvCopy (C Cst Cw Cs : Addr) : Sp := fun vs H Q _ => ∃ (y w e s l g x wl wm : Addr) (ev : List Ev) (ts : List Th) (rs : List Row) (Z : Addr → Prop), vs = [.ref y] ∧ WvO Z C Cst H y w e s l g ev ∧ EvDone ts rs ev ∧ OnW Cw Cs H w x wl wm ts rs ∧ (namesOf ev).length < 63 ∧ ev.length ≤ 300 ∧ ts.length ≤ 1000 ∧
  ∀ y' e' s' l' g' H', Same H H' → H y' = none → WvO (fun a => H a = none) C Cst H' y' w e' s' l' g' ev → Q (.ref y') H'
section
variable {w : World} {K : PySem.W.Frag} {mg : Str → Option Value} {base : Heap}
end
end My

namespace My
open PySem L2
/-! ### the law's state -/
def codeL (k : Option Lk) : Int := match k with
  | none => 0
  | some k => (if k.2.1 then 1 else 2) + (if k.2.2 then 2 else 0)
def stV (tr : List Lk) (n : Nat) : List V := (List.range n).map fun i => V.int (codeL (lkAt tr ((i : Nat) : Int)))
theorem stV_len (tr : List Lk) (n : Nat) : (stV tr n).length = n := by unfold stV; rw [List.length_map, List.length_range]
theorem stV_at {tr : List Lk} {n i : Nat} (h : i < n) : (stV tr n)[i]? = some (.int (codeL (lkAt tr ((i : Nat) : Int)))) := by
  unfold stV
  rw [List.getElem?_map, List.getElem?_range h]; rfl
theorem stV_set {tr tr' : List Lk} {n j : Nat} (hj : j < n) (h1 : ∀ i : Int, i ≠ (j : Nat) → lkAt tr' i = lkAt tr i) : (stV tr n).set j (.int (codeL (lkAt tr' ((j : Nat) : Int)))) = stV tr' n := by
  refine List.ext_getElem? fun i => ?_
  by_cases hi : i < n
  · by_cases c : j = i
    · subst c
      rw [List.getElem?_set, if_pos rfl, if_pos (by rw [stV_len]; exact hi), stV_at hi]
    · rw [List.getElem?_set, if_neg c, stV_at hi, stV_at hi, h1 _ (by omega)]
  · rw [List.getElem?_eq_none (by rw [List.length_set, stV_len]; omega), List.getElem?_eq_none (by rw [stV_len]; omega)]
theorem ixj {n j : Nat} (h : j < n) : ixN n ((j : Nat) : Int) = some j := by
  unfold ixN
  rw [if_pos (by omega), if_pos (by omega), Int.toNat_natCast]
theorem lkAt_snoc (tr : List Lk) (k : Lk) (i : Int) : lkAt (tr ++ [k]) i = (lkAt tr i).or (if k.1 = i then some k else none) := by
  unfold lkAt
  rw [List.find?_append]
  congr 1
  rw [List.find?_cons]
  by_cases c : k.1 = i
  · rw [decide_eq_true c, if_pos c]
  · rw [decide_eq_false c, if_neg c]; rfl
theorem lkAt_drop (t i : Int) : ∀ tr : List Lk, lkAt (dropT tr t) i = if i = t then (lkAt tr i).map (fun k => (k.1, k.2.1, true)) else lkAt tr i
  | [] => by unfold dropT lkAt; simp
  | k :: tr => by
    have ih := lkAt_drop t i tr
    have e : dropT (k :: tr) t = (if k.1 = t then (k.1, k.2.1, true) else k) :: dropT tr t := rfl
    rw [e, lkAt_cons, lkAt_cons, ih]
    have e1 : (if k.1 = t then ((k.1, k.2.1, true) : Lk) else k).1 = k.1 := by split <;> rfl
    rw [e1]
    by_cases c : k.1 = i
    · rw [if_pos c, if_pos c]
      by_cases d : i = t
      · rw [if_pos d, if_pos (c.trans d)]; rfl
      · rw [if_neg d, if_neg (fun h => d (c.symm.trans h))]
    · rw [if_neg c, if_neg c]
theorem lkAt_key {tr : List Lk} {t : Int} {k : Lk} (h : lkAt tr t = some k) : k.1 = t := by
  unfold lkAt at h
  simpa using List.find?_some h
theorem held_some {tr : List Lk} {t : Int} (h : (heldAt tr t).isSome = true) : ∃ o, lkAt tr t = some (t, o, false) := by
  unfold heldAt at h
  cases e : lkAt tr t with
  | none => rw [e] at h; cases h
  | some k =>
    rw [e] at h
    have ek := lkAt_key e
    obtain ⟨a, o, d⟩ := k
    cases d with
    | false => exact ⟨o, by rw [show a = t from ek]⟩
    | true => simp [Option.filter] at h
def spDo : Sp := fun vs H Q _ => ∃ (s p : Addr) (tr : List Lk) (n j : Nat) (z : Str), vs = [.ref s, .ref p] ∧ H s = some (.lst (stV tr n)) ∧ H p = some (.tup [.str z, .int ((j : Nat) : Int)]) ∧ n ≤ 1000 ∧ j < n ∧ deedOk z ∧ (z = "drop" → (heldAt tr ((j : Nat) : Int)).isSome = true) ∧ (z ≠ "drop" → lkAt tr ((j : Nat) : Int) = none) ∧
  Q .non (upd H s (.lst (stV (actS tr z ((j : Nat) : Int)) n)))
def spLShared : Sp := fun vs H Q _ => ∃ (R : Addr) (ws : List V) (rs : List Row) (z : Str), vs = [.ref R, .str z] ∧ H R = some (.lst ws) ∧ RowsN (fun _ => True) true H ws rs ∧ Q (.bl (((findR rs z).map (·.sh)).getD false)) H
section
variable {P : Program} {w : World} {K : PySem.W.Frag} {mg : Str → Option Value} {base : Heap}
theorem ok__law_do (T : Txt K mg) : FnOk P w K mg base CX0 1 T.a__law_do T.fd__law_do ["_law_state", "_law_step"] spDo := by
  refine T.F__law_do.ok sc__law_do (fun vs H Q E h => ?_) (fun cdv A outer s H vs Q E hr h => ?_)
  · obtain ⟨s, p, tr, n, j, z, rfl, _⟩ := h; rfl
  · obtain ⟨s, p, tr, n, j, z, rfl, hs, hp, hn, hj, ok, dd, dl, q⟩ := h
    refine ⟨_, (pss_one (ps_if (pt_cmpR op_eq (pe_ix ix_tup (pv 1) (pe_int) (fun _ _ => rfl)) (pe_str) (nomark _)) (pss_one (ps_asg (pe_int) (pg_sub (pv 0) (pe_ix ix_tup (pv 1) (pe_int) (fun _ _ => rfl)) set_list))) (pss_one (ps_if (pt_cmpR op_eq (pe_ix ix_tup (pv 1) (pe_int) (fun _ _ => rfl)) (pe_str) (nomark _)) (pss_one (ps_asg (pe_int) (pg_sub (pv 0) (pe_ix ix_tup (pv 1) (pe_int) (fun _ _ => rfl)) set_list))) (pss_one (ps_asg (pe_op op_add (pe_ix ix_list (pv 0) (pe_ix ix_tup (pv 1) (pe_int) (fun _ _ => rfl)) (fun _ _ => rfl)) (pe_int)) (pg_sub (pv 0) (pe_ix ix_tup (pv 1) (pe_int) (fun _ _ => rfl)) set_list))))))), ?_⟩
    have hl : j < (stV tr n).length := by rw [stV_len]; exact hj
    refine ⟨_, rfl, _, _, _, _, rfl, rfl, SqT.of hp, atI_nat (j := 0) rfl, rfl, _, rfl, iteD (fun c => ?_) (fun c => ?_)⟩
    · obtain rfl : z = "own" := V.str.inj c
      refine ⟨_, rfl, _, rfl, _, _, _, _, rfl, rfl, SqT.of hp, atI_nat (j := 1) rfl, s, _, _, j, rfl, rfl, hs, ixj hl, ?_⟩
      have e := stV_set (tr := tr) (tr' := actS tr "own" ((j : Nat) : Int)) hj (fun i ne => by
        show lkAt (tr ++ [(((j : Nat) : Int), true, false)]) i = _
        rw [lkAt_snoc, if_neg (fun h => ne h.symm), Option.or_none])
      have e2 : codeL (lkAt (actS tr "own" ((j : Nat) : Int)) ((j : Nat) : Int)) = 1 := by
        show codeL (lkAt (tr ++ [(((j : Nat) : Int), true, false)]) ((j : Nat) : Int)) = 1
        rw [lkAt_snoc, dl (by decide), if_pos rfl]; rfl
      rw [e2] at e
      rw [e]
      exact q
    refine ⟨_, rfl, _, _, _, _, rfl, rfl, SqT.of hp, atI_nat (j := 0) rfl, rfl, _, rfl, iteD (fun c2 => ?_) (fun c2 => ?_)⟩
    · obtain rfl : z = "share" := V.str.inj c2
      refine ⟨_, rfl, _, rfl, _, _, _, _, rfl, rfl, SqT.of hp, atI_nat (j := 1) rfl, s, _, _, j, rfl, rfl, hs, ixj hl, ?_⟩
      have e := stV_set (tr := tr) (tr' := actS tr "share" ((j : Nat) : Int)) hj (fun i ne => by
        show lkAt (tr ++ [(((j : Nat) : Int), false, false)]) i = _
        rw [lkAt_snoc, if_neg (fun h => ne h.symm), Option.or_none])
      have e2 : codeL (lkAt (actS tr "share" ((j : Nat) : Int)) ((j : Nat) : Int)) = 2 := by
        show codeL (lkAt (tr ++ [(((j : Nat) : Int), false, false)]) ((j : Nat) : Int)) = 2
        rw [lkAt_snoc, dl (by decide), if_pos rfl]; rfl
      rw [e2] at e
      rw [e]
      exact q
    have hz : z = "drop" := by
      rcases ok with h | h | h
      · exact absurd (by rw [h]) c
      · exact absurd (by rw [h]) c2
      · exact h
    subst hz
    obtain ⟨o, ho⟩ := held_some (dd rfl)
    refine ⟨_, rfl, _, rfl, _, _, _, _, rfl, rfl, SqT.of hp, atI_nat (j := 1) rfl, _, _, _, _, rfl, rfl, SqL.of hs, atI_nat (stV_at hj), _, _, rfl, rfl, ?_⟩
    refine ⟨_, rfl, _, rfl, _, _, _, _, rfl, rfl, SqT.of hp, atI_nat (j := 1) rfl, s, _, _, j, rfl, rfl, hs, ixj hl, ?_⟩
    have e := stV_set (tr := tr) (tr' := actS tr "drop" ((j : Nat) : Int)) hj (fun i ne => by
      show lkAt (dropT tr ((j : Nat) : Int)) i = _
      rw [lkAt_drop, if_neg ne])
    have e2 : codeL (lkAt (actS tr "drop" ((j : Nat) : Int)) ((j : Nat) : Int)) = codeL (lkAt tr ((j : Nat) : Int)) + 2 := by
      show codeL (lkAt (dropT tr ((j : Nat) : Int)) ((j : Nat) : Int)) = _
      rw [lkAt_drop, if_pos rfl, ho]
      cases o <;> rfl
    rw [e2] at e
    rw [e]
    exact q
theorem ok__law_shared (T : Txt K mg) : FnOk P w K mg base CX0 1 T.a__law_shared T.fd__law_shared ["_law_rows_here", "_law_mark"] spLShared := by
  refine T.F__law_shared.ok sc__law_shared (fun vs H Q E h => ?_) (fun cdv A outer s H vs Q E hr h => ?_)
  · obtain ⟨R, ws, rs, z, rfl, _⟩ := h; rfl
  · obtain ⟨R, ws, rs, z, rfl, hR, rR, q⟩ := h
    refine ⟨_, (pss_cons (ps_for PassesOwn.never rfl (pi_list (pv 0)) (pg_name (i := 2) sc__law_shared.nd rfl (.inl rfl)) (pss_one (ps_if (pt_cmpR op_eq (pe_ix ix_list (pv 2) (pe_int) (fun _ _ => rfl)) (pv 1) (nomark _)) (pss_one (ps_ret (pe_ix ix_list (pv 2) (pe_int) (fun _ _ => rfl)))) pss_nil)))
      (pss_one (ps_ret (pe_bl)))), ?_⟩
    have lw := pair_len' rR
    refine ⟨_, rfl, R, rfl, ⟨_, SqL.of hR⟩, for_list (K := K) (a := R) (xs := ws) (fun i σ H' => ∃ x2, H' = H ∧ σ = [some (.ref R), some (.str z), x2] ∧ ∀ r ∈ rs.take i, r.mark ≠ z) ⟨_, rfl, rfl, fun r h => by rw [List.take_zero] at h; cases h⟩ (fun i σ H' _ ⟨_, e, _⟩ => SqL.of (by rw [e]; exact hR)) ?_ ?_⟩
    · rintro i v σ H2 hv ⟨x2, rfl, rfl, no⟩
      obtain ⟨r, hr, p, pp, rfl, _, _, hp, _⟩ := pair_get' rR hv
      have hp : H2 p = some (.lst (rowL r pp)) := hp
      refine ⟨_, rfl, _, _, _, _, rfl, rfl, SqL.of hp, atI_nat (j := 0) rfl, _, rfl, rfl, _, rfl, iteD (fun c => ?_) (fun c => ?_)⟩
      · refine ⟨_, rfl, _, _, _, _, rfl, rfl, SqL.of hp, atI_nat (j := 4) rfl, ?_⟩
        rw [findR_at hr (V.str.inj c) no] at q
        exact q
      · refine ⟨_, rfl, rfl, fun r' h => ?_⟩
        rw [List.take_succ, hr] at h
        rcases List.mem_append.mp h with h | h
        · exact no r' h
        · rw [List.mem_singleton.mp h]; exact fun e => c (by rw [e])
    · rintro σ H2 ⟨x2, rfl, rfl, no⟩
      rw [lw, List.take_length] at no
      rw [findR_no no] at q
      exact q
end
end My

namespace My
open PySem L2
theorem code_held {tr : List Lk} {t : Int} : (codeL (lkAt tr t) = 1 ∨ codeL (lkAt tr t) = 2) ↔ (heldAt tr t).isSome = true := by
  unfold heldAt
  cases e : lkAt tr t with
  | none => simp [codeL]
  | some k =>
    obtain ⟨a, o, d⟩ := k
    cases o <;> cases d <;> simp [codeL, Option.filter]
theorem code_some {tr : List Lk} {t : Int} : 0 < codeL (lkAt tr t) ↔ (lkAt tr t).isSome = true := by
  cases e : lkAt tr t with
  | none => simp [codeL]
  | some k =>
    obtain ⟨a, o, d⟩ := k
    cases o <;> cases d <;> simp [codeL]
end My

namespace My
open PySem L2
/-- the law's states, one list a program -/
def StsL (n : Nat) (H : Hp) (as : List Addr) (f : Nat → List Lk) : Prop := ∀ j a, as[j]? = some a → H a = some (.lst (stV (f j) n))
theorem StsL.same {n : Nat} {H H' : Hp} {as : List Addr} {f : Nat → List Lk} (h : StsL n H as f) (s : Same H H') : StsL n H' as f := fun j a e => s _ _ (h j a e)
theorem code_one {tr : List Lk} {t : Int} : codeL (lkAt tr t) = 1 ↔ ∃ k, heldAt tr t = some k ∧ k.2.1 = true := by
  unfold heldAt
  cases e : lkAt tr t with
  | none => simp [codeL, Option.filter]
  | some k =>
    obtain ⟨a, o, d⟩ := k
    cases o <;> cases d <;> simp [codeL, Option.filter]
def freeB (z : Str) (t : Int) (tr : List Lk) : Prop := (z = "own" → heldAt tr t = none) ∧ (z = "share" → ∀ k, heldAt tr t = some k → k.2.1 = false)
def spLFree : Sp := fun vs H Q _ => ∃ (S q : Addr) (as : List Addr) (f : Nat → List Lk) (n t : Nat) (i : Int) (z : Str), vs = [.ref S, .int i, .ref q] ∧ H S = some (.lst (as.map V.ref)) ∧ StsL n H as f ∧ H q = some (.tup [.str z, .int ((t : Nat) : Int)]) ∧ t < n ∧ as.length ≤ 100 ∧
  ∀ b : Bool, (b = true → ∀ j, j < as.length → ((j : Nat) : Int) ≠ i → freeB z ((t : Nat) : Int) (f j)) → Q (.bl b) H
theorem get_ref {as : List Addr} {j : Nat} (h : j < as.length) : ∃ a, as[j]? = some a ∧ (as.map V.ref)[j]? = some (.ref a) := ⟨as[j], List.getElem?_eq_getElem h, by rw [List.getElem?_map, List.getElem?_eq_getElem h]; rfl⟩
section
variable {P : Program} {w : World} {K : PySem.W.Frag} {mg : Str → Option Value} {base : Heap}
set_option pp.maxSteps 600 in
theorem ok__law_free (T : Txt K mg) : FnOk P w K mg base CX0 1 T.a__law_free T.fd__law_free ["_law_states", "_law_name", "_law_step"] spLFree := by
  refine T.F__law_free.ok sc__law_free (fun vs H Q E h => ?_) (fun cdv A outer s H vs Q E hr h => ?_)
  · obtain ⟨S, q0, as, f, n, t, i, z, rfl, _⟩ := h; rfl
  · obtain ⟨S, q0, as, f, n, t, i, z, rfl, hS, hf, hq, ht, la, q⟩ := h
    refine ⟨_, (pss_cons (ps_for PassesOwn.never rfl (pi_range1 (by rfl) T.n_range (pa_cons (pe_callB call_len_seq (by rfl) T.n_len (by decide +kernel) (pa_cons (pv 0) pa_nil)) pa_nil)) (pg_name (i := 3) sc__law_free.nd rfl (.inl rfl)) (C8.pss_cut (ps_if (PW.pt (pw_and (pt_cmpR op_ne (pv 3) (pv 1) (nomark _)) (pw_and (pt_cmpR op_eq (pe_ix ix_tup (pv 2) (pe_int) (fun _ _ => rfl)) (pe_str) (nomark _)) (pw_and1 (PW.pt (pw_or (pt_cmpR op_eq (pe_ix ix_list (pe_ix ix_list (pv 0) (pv 3) (fun _ _ => rfl)) (pe_ix ix_tup (pv 2) (pe_int) (fun _ _ => rfl)) (fun _ _ => rfl)) (pe_int) (nomark _)) (pw_or1 (pt_cmpR op_eq (pe_ix ix_list (pe_ix ix_list (pv 0) (pv 3) (fun _ _ => rfl)) (pe_ix ix_tup (pv 2) (pe_int) (fun _ _ => rfl)) (fun _ _ => rfl)) (pe_int) (nomark _))))))))) (pss_one (ps_ret (pe_bl))) pss_nil)
      (pss_one (ps_if (PW.pt (pw_and (pt_cmpR op_ne (pv 3) (pv 1) (nomark _)) (pw_and (pt_cmpR op_eq (pe_ix ix_tup (pv 2) (pe_int) (fun _ _ => rfl)) (pe_str) (nomark _)) (pw_and1 (pt_cmpR op_eq (pe_ix ix_list (pe_ix ix_list (pv 0) (pv 3) (fun _ _ => rfl)) (pe_ix ix_tup (pv 2) (pe_int) (fun _ _ => rfl)) (fun _ _ => rfl)) (pe_int) (nomark _)))))) (pss_one (ps_ret (pe_bl))) pss_nil))))
      (pss_one (ps_ret (pe_bl)))), ?_⟩
    refine ⟨_, rfl, S, _, rfl, .inl (SqL.of hS), ?_⟩
    have big : 100000 < sizeLine := by decide
    rw [List.length_map]
    refine ⟨as.length, rfl, by omega, by omega, for_range (lo := 0) (n := as.length) (fun j σ H' => ∃ x3, H' = H ∧ σ = [some (.ref S), some (.int i), some (.ref q0), x3] ∧ ∀ k, k < j → ((k : Nat) : Int) ≠ i → freeB z ((t : Nat) : Int) (f k)) ⟨_, rfl, rfl, fun k hk => by omega⟩ ?_ ?_⟩
    · rintro j σ H' hj ⟨x3, rfl, rfl, hh⟩
      obtain ⟨a, ha, hv⟩ := get_ref hj
      have sa := hf j a ha
      have sv := atI_nat (stV_at (tr := f j) ht)
      have go : (((j : Nat) : Int) ≠ i → freeB z ((t : Nat) : Int) (f j)) → ∀ k, k < j + 1 → ((k : Nat) : Int) ≠ i → freeB z ((t : Nat) : Int) (f k) := fun h k hk ne => by
        rcases Nat.lt_or_ge k j with h' | h'
        · exact hh k h' ne
        · obtain rfl : k = j := by omega
          exact h ne
      rw [Int.zero_add]
      refine ⟨fun σ' H1 => H1 = H' ∧ σ' = [some (.ref S), some (.int i), some (.ref q0), some (.int ((j : Nat) : Int))] ∧ (((j : Nat) : Int) ≠ i → z = "own" → heldAt (f j) ((t : Nat) : Int) = none), ?_, ?_⟩
      · refine ⟨_, rfl, _, rfl, rfl, _, rfl, iteN (fun c => ?_) (fun c => ?_)⟩
        · refine ⟨_, rfl, _, _, _, _, rfl, rfl, SqT.of hq, atI_nat (j := 0) rfl, rfl, _, rfl, iteD (fun c2 => ?_) (fun c2 => ?_)⟩
          · refine ⟨_, rfl, _, rfl, _, _, _, _, rfl, rfl, SqL.of hS, atI_nat hv, _, rfl, _, _, _, _, rfl, rfl, SqT.of hq, atI_nat (j := 1) rfl, _, _, _, _, rfl, rfl, SqL.of sa, sv, rfl, _, rfl, iteD (fun c3 => ?_) (fun c3 => ?_)⟩
            · exact iteT (q false fun h => by cases h)
            refine ⟨_, rfl, _, rfl, _, _, _, _, rfl, rfl, SqL.of hS, atI_nat hv, _, rfl, _, _, _, _, rfl, rfl, SqT.of hq, atI_nat (j := 1) rfl, _, _, _, _, rfl, rfl, SqL.of sa, sv, rfl, _, rfl, iteD (fun c4 => ?_) (fun c4 => ?_)⟩
            · exact q false fun h => by cases h
            · refine ⟨rfl, rfl, fun _ _ => ?_⟩
              cases e : heldAt (f j) ((t : Nat) : Int) with
              | none => rfl
              | some k => exact absurd (code_held.mpr (by rw [e]; rfl)) (fun h => h.elim (fun h => c3 (by rw [h])) (fun h => c4 (by rw [h])))
          · exact ⟨rfl, rfl, fun _ e => absurd (by rw [e]) c2⟩
        · exact ⟨rfl, rfl, fun e => absurd (by rw [V.int.inj c]) e⟩
      rintro σ' H1 ⟨rfl, rfl, own⟩
      have fin : (((j : Nat) : Int) ≠ i → z = "share" → ∀ k, heldAt (f j) ((t : Nat) : Int) = some k → k.2.1 = false) → ∃ x3, H1 = H1 ∧ [some (V.ref S), some (V.int i), some (V.ref q0), some (V.int ((j : Nat) : Int))] = [some (V.ref S), some (V.int i), some (V.ref q0), x3] ∧ ∀ k, k < j + 1 → ((k : Nat) : Int) ≠ i → freeB z ((t : Nat) : Int) (f k) := fun h => ⟨_, rfl, rfl, go fun ne => ⟨own ne, h ne⟩⟩
      refine ⟨_, rfl, _, rfl, rfl, _, rfl, iteN (fun c => ?_) (fun c => ?_)⟩
      · refine ⟨_, rfl, _, _, _, _, rfl, rfl, SqT.of hq, atI_nat (j := 0) rfl, rfl, _, rfl, iteD (fun c2 => ?_) (fun c2 => ?_)⟩
        · refine ⟨_, rfl, _, rfl, _, _, _, _, rfl, rfl, SqL.of hS, atI_nat hv, _, rfl, _, _, _, _, rfl, rfl, SqT.of hq, atI_nat (j := 1) rfl, _, _, _, _, rfl, rfl, SqL.of sa, sv, rfl, _, rfl, iteD (fun c3 => ?_) (fun c3 => ?_)⟩
          · exact q false fun h => by cases h
          · refine fin fun _ _ k hk => ?_
            cases o : k.2.1 with
            | false => rfl
            | true => exact absurd (code_one.mpr ⟨k, hk, o⟩) (fun h => c3 (by rw [h]))
        · exact fin fun _ e => absurd (by rw [e]) c2
      · exact fin fun e => absurd (by rw [V.int.inj c]) e
    · rintro σ H' ⟨x3, rfl, rfl, hh⟩
      exact q true fun _ => hh
end
end My

namespace My
open PySem L2
theorem EdV.same {H H' : Hp} {v : V} {e : Int × Int} (h : EdV H v e) (s : Same H H') : EdV H' v e := let ⟨p, a, b⟩ := h; ⟨p, a, s _ _ b⟩
theorem edvs_same {H H' : Hp} (s : Same H H') : ∀ {vs : List V} {es : List (Int × Int)}, Paired (EdV H) vs es → Paired (EdV H') vs es
  | _, _, .nil => .nil
  | _, _, .cons a b => .cons (EdV.same a s) (edvs_same s b)
theorem edg_same {K : PySem.W.Frag} {H H' : Hp} {y : V} {es : List (Int × Int)} (s : Same H H') (h : Edg K H y es) : Edg K H' y es := by
  rcases h with ⟨a, vs, rfl, sq, pr⟩ | ⟨a, kvs, rfl, ha, hk⟩
  · refine .inl ⟨a, vs, rfl, ?_, edvs_same s pr⟩
    rcases sq with sq | sq
    · exact .inl (s.seq sq)
    · exact .inr ((But.of_same (a := a + 1) s).sqT (Nat.ne_of_lt (Nat.lt_succ_self a)) sq)
  · exact .inr ⟨a, kvs, rfl, s _ _ ha, hk⟩
def into (es : List (Int × Int)) (ls : List Int) (x : Int) : Bool := ls.any fun y => decide ((y, x) ∈ es)
def freeOf (es : List (Int × Int)) (ls : List Int) : List Int := ls.filter fun x => !into es ls x
/-- any([(y, x) in edges for y in left]), left at i2, edges at i1, x at i5, y at i6 -/
theorem any_in {K : PySem.W.Frag} {y : V} {x0 x3 x4 x6 : Option V} {l : Addr} {x : Int} {ls : List Int} {es : List (Int × Int)} {H : Hp} {Q : VK} (hl : H l = some (.lst (ls.map V.int))) (hz : ls.length ≤ 1000) (he : Edg K H y es)
    (q : ∀ H', Same H H' → Q (.bl (into es ls x)) H') :
    tCB (rAny K) (tCons (tLc (iList K (tVar 2)) (gName 6) tYes (tOp (rInE K false) (tTup (tCons (tVar 6) (tCons (tVar 5) tNil))) (tVar 1)) [6]) tNil) [x0, some y, some (.ref l), x3, x4, some (.int x), x6] H Q := by
  have big : 1000 < sizeLine := by decide
  refine ⟨_, rfl, l, rfl, ⟨_, SqL.of hl⟩, fun D hD => lc_list (K := K) (a := l) (xs := ls.map V.int) (fun i H' => Same H H' ∧ H' D = some (.lst ((ls.take i).map fun y => V.bl (decide ((y, x) ∈ es))))) ⟨same_new hD, upd_same⟩ (fun i H' _ h => SqL.of (h.1 _ _ hl)) ?_ ?_⟩
  · rintro i v H1 hv ⟨s1, hD1⟩
    rw [List.getElem?_map] at hv
    cases e : ls[i]? with
    | none => rw [e] at hv; cases hv
    | some y1 =>
      rw [e] at hv
      obtain rfl : V.int y1 = v := Option.some.inj hv
      refine ⟨rfl, ?_⟩
      unfold tYes
      refine iteT ⟨_, rfl, _, rfl, by show 2 ≤ sizeLine; decide, fun u hu => ⟨_, rfl, (y1, x), es, ⟨u, rfl, upd_same⟩, edg_same (s1.trans (same_new hu)) he, _, same_new hu _ _ hD1, ?_, ?_, ?_⟩⟩
      · rw [List.length_map, List.length_take]; omega
      · exact same_mut (s1.trans (same_new hu)) hD
      · rw [upd_same, List.take_succ, e]
        simp
  · rintro H1 ⟨s1, hD1⟩
    rw [List.length_map, List.take_length] at hD1
    refine ⟨D, ls.map fun y => decide ((y, x) ∈ es), rfl, SqL.of (by rw [hD1, List.map_map]; rfl), ?_⟩
    rw [List.any_map]
    exact q H1 s1
theorem filter_take_succ {α : Type} (f : α → Bool) {ls : List α} {i : Nat} {x : α} (h : ls[i]? = some x) : (ls.take (i + 1)).filter f = (ls.take i).filter f ++ if f x then [x] else [] := by
  rw [List.take_succ, h]
  simp [List.filter_append, List.filter_cons]
/-- [x for x in left if not any([(y, x) in edges for y in left])] -/
theorem free_lc {K : PySem.W.Frag} {y : V} {x0 x3 x4 x5 x6 : Option V} {l : Addr} {ls : List Int} {es : List (Int × Int)} {H : Hp} {Q : VK} (hl : H l = some (.lst (ls.map V.int))) (hz : ls.length ≤ 1000) (he : Edg K H y es)
    (q : ∀ D H', Same H H' → H D = none → H' D = some (.lst ((freeOf es ls).map V.int)) → Q (.ref D) H') :
    tLc (iList K (tVar 2)) (gName 5) (tNot (tB (tCB (rAny K) (tCons (tLc (iList K (tVar 2)) (gName 6) tYes (tOp (rInE K false) (tTup (tCons (tVar 6) (tCons (tVar 5) tNil))) (tVar 1)) [6]) tNil)))) (tVar 5) [5] [x0, some y, some (.ref l), x3, x4, x5, x6] H Q := by
  have big : 1000 < sizeLine := by decide
  refine ⟨_, rfl, l, rfl, ⟨_, SqL.of hl⟩, fun D hD => lc_list (K := K) (a := l) (xs := ls.map V.int) (fun i H' => Same H H' ∧ H' D = some (.lst (((ls.take i).filter fun x => !into es ls x).map V.int))) ⟨same_new hD, upd_same⟩ (fun i H' _ h => SqL.of (h.1 _ _ hl)) ?_ ?_⟩
  · rintro i v H1 hv ⟨s1, hD1⟩
    rw [List.getElem?_map] at hv
    cases e : ls[i]? with
    | none => rw [e] at hv; cases hv
    | some x1 =>
      rw [e] at hv
      obtain rfl : V.int x1 = v := Option.some.inj hv
      refine ⟨rfl, ?_⟩
      refine any_in (x0 := x0) (y := y) (x3 := x3) (x4 := x4) (x6 := x6) (l := l) (x := x1) (ls := ls) (es := es) (s1 _ _ hl) hz (edg_same s1 he) fun H2 s2 => ⟨_, rfl, ?_⟩
      have t2 := s1.trans s2
      cases k : into es ls x1 with
      | true =>
        refine iteF ⟨t2, ?_⟩
        rw [filter_take_succ _ e, k, s2 _ _ hD1]
        simp
      | false =>
        refine iteT ⟨_, rfl, _, s2 _ _ hD1, ?_, same_mut t2 hD, ?_⟩
        · rw [List.length_map]
          have := List.length_filter_le (fun x => !into es ls x) (ls.take i)
          rw [List.length_take] at this
          omega
        · rw [upd_same, filter_take_succ _ e, k]
          simp
  · rintro H1 ⟨s1, hD1⟩
    rw [List.length_map, List.take_length] at hD1
    exact q D H1 s1 hD hD1
end My

namespace My
open PySem L2
/-! ### walks and rings, plain -/
abbrev Eds := List (Int × Int)
/-- a walk of k edges from x to y -/
def Wl (es : Eds) : Nat → Int → Int → Prop
  | 0, x, y => x = y
  | k + 1, x, z => ∃ y, Wl es k x y ∧ (y, z) ∈ es
/-- a walk of k edges from x to g, no node below g -/
def Wr (ns : List Int) (es : Eds) (g : Int) : Nat → Int → Prop
  | 0, x => x = g
  | k + 1, x => x ∈ ns ∧ g ≤ x ∧ ∃ y, (x, y) ∈ es ∧ Wr ns es g k y
def Ds (ns : List Int) (es : Eds) (g : Int) (k : Nat) (x : Int) : Prop := Wr ns es g k x ∧ ∀ j, j < k → ¬ Wr ns es g j x
def IsFirst (ns : List Int) (p : Int → Prop) (y : Int) : Prop := ∃ i : Nat, ns[i]? = some y ∧ p y ∧ ∀ (j : Nat) (z : Int), j < i → ns[j]? = some z → ¬ p z
inductive Chain (ns : List Int) (p : Nat → Int → Int → Prop) : Nat → Int → List Int → Prop
  | nil (x : Int) : Chain ns p 0 x []
  | cons {k : Nat} {x y : Int} {r : List Int} : IsFirst ns (p (k + 1) x) y → Chain ns p k y r → Chain ns p (k + 1) x (y :: r)
theorem IsFirst.uniq {ns : List Int} {p : Int → Prop} {y z : Int} (h : IsFirst ns p y) (h' : IsFirst ns p z) : y = z := by
  obtain ⟨i, hi, py, ni⟩ := h
  obtain ⟨j, hj, pz, nj⟩ := h'
  rcases Nat.lt_trichotomy i j with l | l | l
  · exact absurd py (nj i y l hi)
  · subst l; rw [hi] at hj; exact Option.some.inj hj
  · exact absurd pz (ni j z l hj)
theorem IsFirst.congr {ns : List Int} {p q : Int → Prop} {y : Int} (h : IsFirst ns p y) (e : ∀ x, p x ↔ q x) : IsFirst ns q y := by
  obtain ⟨i, hi, py, ni⟩ := h
  exact ⟨i, hi, (e y).mp py, fun j z hj hz c => ni j z hj hz ((e z).mpr c)⟩
theorem Chain.len {ns : List Int} {p : Nat → Int → Int → Prop} {k : Nat} {x : Int} {r : List Int} (h : Chain ns p k x r) : r.length = k := by
  induction h with
  | nil => rfl
  | cons _ _ ih => rw [List.length_cons, ih]
theorem Wl.app {es : Eds} {i : Nat} {x y : Int} (h : Wl es i x y) : ∀ {j : Nat} {z : Int}, Wl es j y z → Wl es (i + j) x z
  | 0, z, h' => by obtain rfl : y = z := h'; exact h
  | j + 1, z, ⟨u, h1, h2⟩ => ⟨u, Wl.app h h1, h2⟩
theorem Wl.one {es : Eds} {x y : Int} (h : (x, y) ∈ es) : Wl es 1 x y := ⟨x, rfl, h⟩
theorem Wl.head {es : Eds} : ∀ {k : Nat} {x z : Int}, Wl es (k + 1) x z → ∃ y, (x, y) ∈ es ∧ Wl es k y z
  | 0, x, z, ⟨y, h1, h2⟩ => ⟨z, by obtain rfl : x = y := h1; exact h2, rfl⟩
  | k + 1, x, z, ⟨y, h1, h2⟩ => by
    obtain ⟨u, a, b⟩ := Wl.head h1
    exact ⟨u, a, ⟨y, b, h2⟩⟩
theorem Wr.wl {ns : List Int} {es : Eds} {g : Int} : ∀ {k : Nat} {x : Int}, Wr ns es g k x → Wl es k x g
  | 0, x, h => h
  | k + 1, x, ⟨_, _, y, h1, h2⟩ => by
    have := Wl.app (Wl.one h1) (Wr.wl h2)
    rwa [Nat.add_comm] at this
theorem Ds.uniq {ns : List Int} {es : Eds} {g : Int} {k j : Nat} {x : Int} (h : Ds ns es g k x) (h' : Ds ns es g j x) : k = j := by
  rcases Nat.lt_trichotomy k j with l | l | l
  · exact absurd h.1 (h'.2 k l)
  · exact l
  · exact absurd h'.1 (h.2 j l)
theorem Wr.ds {ns : List Int} {es : Eds} {g : Int} {x : Int} : ∀ {k : Nat}, Wr ns es g k x → ∃ j, j ≤ k ∧ Ds ns es g j x := by
  intro k
  induction k using Nat.strongRecOn with
  | _ k ih =>
    intro h
    by_cases c : ∃ j, j < k ∧ Wr ns es g j x
    · obtain ⟨j, hj, h'⟩ := c
      obtain ⟨i, hi, d⟩ := ih j hj h'
      exact ⟨i, by omega, d⟩
    · exact ⟨k, Nat.le_refl _, h, fun j hj h' => c ⟨j, hj, h'⟩⟩
/-- the next on a shortest way -/
theorem Ds.next {ns : List Int} {es : Eds} {g : Int} {k : Nat} {x : Int} (h : Ds ns es g (k + 1) x) : ∃ y, (x, y) ∈ es ∧ Ds ns es g k y := by
  obtain ⟨⟨hx, gx, y, e, w⟩, mn⟩ := h
  exact ⟨y, e, w, fun j hj w' => mn (j + 1) (by omega) ⟨hx, gx, y, e, w'⟩⟩
theorem Ds.of_next {ns : List Int} {es : Eds} {g : Int} {k : Nat} {x y : Int} (hx : x ∈ ns) (gx : g ≤ x) (e : (x, y) ∈ es) (h : Ds ns es g k y) (mn : ∀ j, j ≤ k → ¬ Wr ns es g j x) : Ds ns es g (k + 1) x :=
  ⟨⟨hx, gx, y, e, h.1⟩, fun j hj => mn j (by omega)⟩
theorem nodup_le : ∀ {l m : List Int}, l.Nodup → (∀ x ∈ l, x ∈ m) → l.length ≤ m.length
  | [], m, _, _ => Nat.zero_le _
  | x :: l, m, nd, h => by
    obtain ⟨nx, nd'⟩ := List.nodup_cons.mp nd
    have hm := h x List.mem_cons_self
    have := nodup_le (l := l) (m := m.erase x) nd' fun y hy => (List.mem_erase_of_ne (show y ≠ x from fun z => nx (by rw [← z]; exact hy))).mpr (h y (List.mem_cons_of_mem _ hy))
    rw [List.length_erase_of_mem hm] at this
    have : 0 < m.length := List.length_pos_of_mem hm
    rw [List.length_cons]; omega
theorem Ds.path {ns : List Int} {es : Eds} {g : Int} (hg : g ∈ ns) : ∀ {k : Nat} {x : Int}, Ds ns es g k x → ∃ l : List Int, l.length = k + 1 ∧ l.Nodup ∧ (∀ y ∈ l, y ∈ ns) ∧ ∀ y ∈ l, ∃ j, j ≤ k ∧ Ds ns es g j y
  | 0, x, h => ⟨[x], rfl, by simp, fun y hy => by rw [List.mem_singleton.mp hy, show x = g from h.1]; exact hg, fun y hy => ⟨0, Nat.le_refl _, by rw [List.mem_singleton.mp hy]; exact h⟩⟩
  | k + 1, x, h => by
    obtain ⟨y, e, d⟩ := h.next
    obtain ⟨l, h1, h2, h3, h4⟩ := Ds.path hg d
    refine ⟨x :: l, by rw [List.length_cons, h1], List.nodup_cons.mpr ⟨fun m => ?_, h2⟩, ?_, ?_⟩
    · obtain ⟨j, hj, dj⟩ := h4 x m
      have := dj.uniq h
      omega
    · intro z hz
      rcases List.mem_cons.mp hz with rfl | hz
      · exact h.1.1
      · exact h3 z hz
    · intro z hz
      rcases List.mem_cons.mp hz with rfl | hz
      · exact ⟨k + 1, Nat.le_refl _, h⟩
      · obtain ⟨j, hj, dj⟩ := h4 z hz
        exact ⟨j, by omega, dj⟩
theorem Ds.lt {ns : List Int} {es : Eds} {g : Int} (hg : g ∈ ns) {k : Nat} {x : Int} (h : Ds ns es g k x) : k < ns.length := by
  obtain ⟨l, h1, h2, h3, _⟩ := h.path hg
  have := nodup_le h2 h3
  omega
/-- what ring_from(g) gives -/
def Rf (ns : List Int) (es : Eds) (g : Int) (rs : List Int) : Prop :=
  (rs = [] ∧ ∀ y k, y ∈ ns → y ≠ g → (g, y) ∈ es → ¬ Ds ns es g k y) ∨
  ∃ (m : Nat) (r : List Int), rs = g :: r ∧ 0 < m ∧ (∃ y ∈ ns, (g, y) ∈ es ∧ Ds ns es g m y) ∧ (∀ y k, y ∈ ns → y ≠ g → (g, y) ∈ es → Ds ns es g k y → m ≤ k) ∧ Chain ns (fun k x y => Ds ns es g k y ∧ (x, y) ∈ es) m g r
/-- what the law gives -/
def Lr (ns : List Int) (es : Eds) (ls : List Int) : Prop :=
  (ls = [] ∧ ∀ L, 2 ≤ L → L ≤ ns.length → ∀ x ∈ ns, ¬ Wl es L x x) ∨
  ∃ (L : Nat) (x : Int) (r : List Int), ls = x :: r ∧ 2 ≤ L ∧ L ≤ ns.length ∧ IsFirst ns (fun x => Wl es L x x) x ∧ (∀ L', 2 ≤ L' → L' < L → ∀ x ∈ ns, ¬ Wl es L' x x) ∧ Chain ns (fun k u y => (u, y) ∈ es ∧ Wl es k y x) (L - 1) x r
def pick1 (b r : List Int) : List Int := if 0 < r.length ∧ (b.length = 0 ∨ r.length < b.length) then r else b
theorem pick_a {rss : List (List Int)} {n : Nat} : ∀ {b : List Int}, (b = [] ∨ n < b.length) → (∀ r ∈ rss, r = [] ∨ n < r.length) → (rss.foldl pick1 b = [] ∨ n < (rss.foldl pick1 b).length) := by
  induction rss with
  | nil => exact fun h _ => h
  | cons r rss ih =>
    intro b h h'
    rw [List.foldl_cons]
    refine ih ?_ fun r hr => h' r (List.mem_cons_of_mem _ hr)
    unfold pick1
    split
    · exact h' r List.mem_cons_self
    · exact h
theorem pick_b {rss : List (List Int)} {b : List Int} (hb : b ≠ []) (h : ∀ r ∈ rss, r = [] ∨ b.length ≤ r.length) : rss.foldl pick1 b = b := by
  induction rss with
  | nil => rfl
  | cons r rss ih =>
    rw [List.foldl_cons]
    have : pick1 b r = b := by
      unfold pick1
      refine if_neg fun c => ?_
      rcases h r List.mem_cons_self with e | e
      · rw [e] at c; exact absurd c.1 (by simp)
      · rcases c.2 with z | z
        · exact hb (List.length_eq_zero_iff.mp z)
        · omega
    rw [this]
    exact ih fun r hr => h r (List.mem_cons_of_mem _ hr)
theorem pick_nil {rss : List (List Int)} (h : ∀ r ∈ rss, r = []) : rss.foldl pick1 [] = [] := by
  induction rss with
  | nil => rfl
  | cons r rss ih =>
    rw [List.foldl_cons, h r List.mem_cons_self]
    exact ih fun r hr => h r (List.mem_cons_of_mem _ hr)
theorem pick_at {rss : List (List Int)} {i : Nat} {r : List Int} (hi : rss[i]? = some r) (hr : r ≠ []) (h1 : ∀ j s, j < i → rss[j]? = some s → s = [] ∨ r.length < s.length) (h2 : ∀ s ∈ rss, s = [] ∨ r.length ≤ s.length) : rss.foldl pick1 [] = r := by
  obtain ⟨hi', e⟩ := List.getElem?_eq_some_iff.mp hi
  have e2 : rss = rss.take i ++ r :: rss.drop (i + 1) := by rw [← e, ← List.drop_eq_getElem_cons hi', List.take_append_drop]
  rw [e2, List.foldl_append, List.foldl_cons]
  have ha := pick_a (rss := rss.take i) (n := r.length) (b := []) (.inl rfl) fun s hs => by
    obtain ⟨j, hj, ej⟩ := List.getElem_of_mem hs
    rw [List.length_take] at hj
    rw [List.getElem_take] at ej
    exact h1 j s (by omega) (by rw [List.getElem?_eq_getElem (by omega), ej])
  have : pick1 ((rss.take i).foldl pick1 []) r = r := by
    generalize (rss.take i).foldl pick1 [] = b0 at ha
    unfold pick1
    refine if_pos ⟨List.length_pos_iff.mpr hr, ?_⟩
    rcases ha with h | h
    · exact .inl (by rw [h]; rfl)
    · exact .inr h
  rw [this]
  exact pick_b hr fun s hs => h2 s (List.mem_of_mem_drop hs)
structure Gr (ns : List Int) (es : Eds) : Prop where
  up : ns.Pairwise (· < ·)
  ed : ∀ e ∈ es, e.1 ∈ ns ∧ e.2 ∈ ns ∧ e.1 ≠ e.2
theorem pair_at {α β : Type} {F : α → β → Prop} : ∀ {l : List α} {m : List β} {i : Nat} {x : α}, Paired F l m → l[i]? = some x → ∃ y, m[i]? = some y ∧ F x y
  | _, _, 0, _, .cons h r, e => ⟨_, rfl, by rw [← Option.some.inj e]; exact h⟩
  | _, _, i + 1, _, .cons h r, e => pair_at (i := i) r e
theorem pair_at2 {α β : Type} {F : α → β → Prop} : ∀ {l : List α} {m : List β} {i : Nat} {y : β}, Paired F l m → m[i]? = some y → ∃ x, l[i]? = some x ∧ F x y
  | _, _, 0, _, .cons h r, e => ⟨_, rfl, by rw [← Option.some.inj e]; exact h⟩
  | _, _, i + 1, _, .cons h r, e => pair_at2 (i := i) r e
/-- a ring of the program is a closed walk -/
theorem Rf.closed {ns : List Int} {es : Eds} {g : Int} {rs : List Int} (hg : g ∈ ns) (h : Rf ns es g rs) : rs = [] ∨ (2 ≤ rs.length ∧ rs.length ≤ ns.length ∧ Wl es rs.length g g) := by
  rcases h with ⟨e, _⟩ | ⟨m, r, e, hm, ⟨y, hy, ey, dy⟩, _, c⟩
  · exact .inl e
  · have := dy.lt hg
    have l : rs.length = m + 1 := by rw [e, List.length_cons, c.len]
    refine .inr ⟨by omega, by omega, ?_⟩
    rw [l, Nat.add_comm]
    exact Wl.app (Wl.one ey) dy.1.wl
theorem ring_eq {ns : List Int} {es : Eds} {rss : List (List Int)} {ls : List Int} (G : Gr ns es) (hp : Paired (Rf ns es) ns rss) (hl : Lr ns es ls) : rss.foldl pick1 [] = ls := by
  have shut : ∀ i s, rss[i]? = some s → ∃ g, ns[i]? = some g ∧ (s = [] ∨ (2 ≤ s.length ∧ s.length ≤ ns.length ∧ Wl es s.length g g)) := fun i s hi => by
    obtain ⟨g, hg, rf⟩ := pair_at2 hp hi
    exact ⟨g, hg, rf.closed (List.mem_of_getElem? hg)⟩
  rcases hl with ⟨rfl, no⟩ | ⟨L, x0, r, rfl, h2, hn, fs, mn, ch⟩
  · refine pick_nil fun s hs => ?_
    obtain ⟨i, hi, e⟩ := List.getElem_of_mem hs
    obtain ⟨g, hg, c⟩ := shut i s (by rw [List.getElem?_eq_getElem hi, e])
    rcases c with c | ⟨c1, c2, c3⟩
    · exact c
    · exact absurd c3 (no _ c1 c2 g (List.mem_of_getElem? hg))
  · obtain ⟨i0, hi0, w0, first⟩ := id fs
    have m0 : x0 ∈ ns := List.mem_of_getElem? hi0
    -- no closed walk is shorter
    have least : ∀ L' x, 1 ≤ L' → L' < L → ¬ Wl es L' x x := fun L' x h1 h3 w => by
      obtain ⟨k, rfl⟩ : ∃ k, L' = k + 1 := ⟨L' - 1, by omega⟩
      obtain ⟨y, e, _⟩ := Wl.head w
      have hx := (G.ed _ e).1
      by_cases c : k = 0
      · subst c
        obtain ⟨u, e1, e2⟩ := w
        obtain rfl : x = u := e1
        exact (G.ed _ e2).2.2 rfl
      · exact mn (k + 1) (by omega) h3 x hx w
    have above : ∀ y, y ∈ ns → Wl es L y y → x0 ≤ y := fun y hy w => by
      obtain ⟨j, hj, e⟩ := List.getElem_of_mem hy
      have hj' : ns[j]? = some y := by rw [List.getElem?_eq_getElem hj, e]
      have hji : ¬ j < i0 := fun c => first j y c hj' w
      obtain ⟨hi, e0⟩ := List.getElem?_eq_some_iff.mp hi0
      by_cases c : j = i0
      · subst c; rw [hi0] at hj'; exact Int.le_of_eq (Option.some.inj hj')
      · have := List.pairwise_iff_getElem.mp G.up i0 j hi hj (by omega)
        rw [e, e0] at this
        omega
    -- within a shortest closed walk at x0 all is above x0
    have back : ∀ k y, k ≤ L → Wl es k y x0 → Wl es (L - k) x0 y → Wr ns es x0 k y := by
      intro k
      induction k with
      | zero => intro y _ w _; exact w
      | succ k ih =>
        intro y hk w w'
        obtain ⟨z, e, w1⟩ := Wl.head w
        have hy := (G.ed _ e).1
        refine ⟨hy, above y hy ?_, z, e, ih z (by omega) w1 ?_⟩
        · have := Wl.app w w'
          rwa [show k + 1 + (L - (k + 1)) = L by omega] at this
        · have := Wl.app w' (Wl.one e)
          rwa [show L - (k + 1) + 1 = L - k by omega] at this
    have dist : ∀ k y, k < L → Wl es (L - k) x0 y → (Ds ns es x0 k y ↔ Wl es k y x0) := fun k y hk w => by
      refine ⟨fun d => d.1.wl, fun w' => ⟨back k y (by omega) w' w, fun j hj wr => ?_⟩⟩
      exact least (L - k + j) x0 (by omega) (by omega) (Wl.app w wr.wl)
    -- the chain
    have chain : ∀ k u s, k < L → Wl es (L - 1 - k) x0 u → Chain ns (fun k u y => (u, y) ∈ es ∧ Wl es k y x0) k u s → ∀ s', Chain ns (fun k x y => Ds ns es x0 k y ∧ (x, y) ∈ es) k u s' → s' = s := by
      intro k
      induction k with
      | zero => intro u s _ _ c s' c'; cases c; cases c'; rfl
      | succ k ih =>
        intro u s hk w c s' c'
        cases c with
        | @cons _ _ y r1 f1 c1 =>
          cases c' with
          | @cons _ _ y' r1' f1' c1' =>
            have f2 := f1'.congr (q := fun y => (u, y) ∈ es ∧ Wl es (k + 1) y x0) fun z => by
              constructor
              · rintro ⟨d, e⟩; exact ⟨e, d.1.wl⟩
              · rintro ⟨e, w1⟩
                refine ⟨(dist (k + 1) z hk ?_).mpr w1, e⟩
                have := Wl.app w (Wl.one e)
                rwa [show L - 1 - (k + 1) + 1 = L - (k + 1) by omega] at this
            obtain rfl := f1.uniq f2
            obtain ⟨_, _, ⟨e, _⟩, _⟩ := f1
            have := Wl.app w (Wl.one e)
            rw [show L - 1 - (k + 1) + 1 = L - 1 - k by omega] at this
            rw [ih y r1 (by omega) this c1 r1' c1']
    -- the program at x0
    obtain ⟨r0, hr0, rf⟩ := pair_at hp hi0
    have e0 : r0 = x0 :: r := by
      obtain ⟨y1, ey1, w1⟩ : ∃ y, (x0, y) ∈ es ∧ Wl es (L - 1) y x0 := by
        have : Wl es (L - 1 + 1) x0 x0 := by rwa [show L - 1 + 1 = L by omega]
        exact Wl.head this
      have d1 : Ds ns es x0 (L - 1) y1 := (dist (L - 1) y1 (by omega) (by rw [show L - (L - 1) = 1 by omega]; exact Wl.one ey1)).mpr w1
      have ny1 : y1 ≠ x0 := fun z => (G.ed _ ey1).2.2 z.symm
      have my1 := (G.ed _ ey1).2.1
      rcases rf with ⟨_, no⟩ | ⟨m, r', rfl, hm, ⟨y, hy, ey, dy⟩, least', c⟩
      · exact absurd d1 (no y1 _ my1 ny1 ey1)
      · have l1 := least' y1 _ my1 ny1 ey1 d1
        have l2 : ¬ (1 + m < L) := fun c => least (1 + m) x0 (by omega) c (Wl.app (Wl.one ey) dy.1.wl)
        obtain rfl : m = L - 1 := by omega
        rw [chain (L - 1) x0 r (by omega) (by rw [show L - 1 - (L - 1) = 0 by omega]; rfl) ch r' c]
    subst e0
    have lr : (x0 :: r).length = L := by rw [List.length_cons, ch.len]; omega
    refine pick_at hr0 (List.cons_ne_nil _ _) (fun j s hj hs => ?_) (fun s hs => ?_)
    · obtain ⟨g, hg, c⟩ := shut j s hs
      rcases c with c | ⟨c1, c2, c3⟩
      · exact .inl c
      · refine .inr ?_
        rw [lr]
        refine Nat.lt_of_le_of_ne (Nat.le_of_not_lt fun z => least _ _ (by omega) z c3) fun z => ?_
        exact first j g hj hg (by rw [z]; exact c3)
    · obtain ⟨i, hi, e⟩ := List.getElem_of_mem hs
      obtain ⟨g, hg, c⟩ := shut i s (by rw [List.getElem?_eq_getElem hi, e])
      rcases c with c | ⟨c1, c2, c3⟩
      · exact .inl c
      · refine .inr ?_
        rw [lr]
        exact Nat.le_of_not_lt fun z => least _ _ (by omega) z c3
end My

namespace My
open PySem L2
def Fd (ns : List Int) (es : Eds) (g : Int) (kvs : List (Key × V)) : Prop := ∀ x v, valV kvs (.inl x) = some v ↔ ∃ k : Nat, v = .int k ∧ Ds ns es g k x
def nearB (es : Eds) (ls : List Int) (x : Int) : Bool := ls.any fun y => decide ((x, y) ∈ es)
def spDist (K : PySem.W.Frag) : Sp := fun vs H Q _ => ∃ (g : Int) (a : Addr) (y : V) (ns : List Int) (es : Eds), vs = [.int g, .ref a, y] ∧ SqS K H a (ns.map V.int) ∧ ns.length ≤ 100 ∧ g ∈ ns ∧ Edg K H y es ∧
  ∀ f kvs H', Same H H' → H f = none → H' f = some (.dK kvs) → Fd ns es g kvs → Q (.ref f) H'
theorem sqS_same {K : PySem.W.Frag} {H H' : Hp} {a : Addr} {xs : List V} (s : Same H H') : (SqL K H a xs → SqL K H' a xs) ∧ (SqT K H a xs → SqT K H' a xs) :=
  ⟨fun h => s.seq h, fun h => (But.of_same (a := a + 1) s).sqT (Nat.ne_of_lt (Nat.lt_succ_self a)) h⟩
theorem SqS_same {K : PySem.W.Frag} {H H' : Hp} {a : Addr} {xs : List V} (h : SqS K H a xs) (s : Same H H') : SqS K H' a xs := h.elim (fun h => .inl ((sqS_same s).1 h)) (fun h => .inr ((sqS_same s).2 h))
/-- any([(x, y) in edges for y in layer]) -/
theorem any_out {K : PySem.W.Frag} {y : V} {x0 x1 x3 x5 x6 x8 : Option V} {l : Addr} {x : Int} {ls : List Int} {es : Eds} {H : Hp} {Q : VK} (hl : H l = some (.lst (ls.map V.int))) (hz : ls.length ≤ 1000) (he : Edg K H y es)
    (q : ∀ H', Same H H' → Q (.bl (nearB es ls x)) H') :
    tCB (rAny K) (tCons (tLc (iList K (tVar 4)) (gName 8) tYes (tOp (rInE K false) (tTup (tCons (tVar 7) (tCons (tVar 8) tNil))) (tVar 2)) [8]) tNil) [x0, x1, some y, x3, some (.ref l), x5, x6, some (.int x), x8] H Q := by
  have big : 1000 < sizeLine := by decide
  refine ⟨_, rfl, l, rfl, ⟨_, SqL.of hl⟩, fun D hD => lc_list (K := K) (a := l) (xs := ls.map V.int) (fun i H' => Same H H' ∧ H' D = some (.lst ((ls.take i).map fun y => V.bl (decide ((x, y) ∈ es))))) ⟨same_new hD, upd_same⟩ (fun i H' _ h => SqL.of (h.1 _ _ hl)) ?_ ?_⟩
  · rintro i v H1 hv ⟨s1, hD1⟩
    rw [List.getElem?_map] at hv
    cases e : ls[i]? with
    | none => rw [e] at hv; cases hv
    | some y1 =>
      rw [e] at hv
      obtain rfl : V.int y1 = v := Option.some.inj hv
      refine ⟨rfl, ?_⟩
      unfold tYes
      refine iteT ⟨_, rfl, _, rfl, by show 2 ≤ sizeLine; decide, fun u hu => ⟨_, rfl, (x, y1), es, ⟨u, rfl, upd_same⟩, edg_same (s1.trans (same_new hu)) he, _, same_new hu _ _ hD1, ?_, ?_, ?_⟩⟩
      · rw [List.length_map, List.length_take]; omega
      · exact same_mut (s1.trans (same_new hu)) hD
      · rw [upd_same, List.take_succ, e]
        simp
  · rintro H1 ⟨s1, hD1⟩
    rw [List.length_map, List.take_length] at hD1
    refine ⟨D, ls.map fun y => decide ((x, y) ∈ es), rfl, SqL.of (by rw [hD1, List.map_map]; rfl), ?_⟩
    rw [List.any_map]
    exact q H1 s1
def Fk (ns : List Int) (es : Eds) (g : Int) (s : Nat) (kvs : List (Key × V)) : Prop := ∀ x v, valV kvs (.inl x) = some v ↔ ∃ k : Nat, k ≤ s ∧ v = .int k ∧ Ds ns es g k x
def nextB (es : Eds) (g : Int) (kvs : List (Key × V)) (ls : List Int) (x : Int) : Bool := decide (g ≤ x) && (!(valV kvs (.inl x)).isSome && nearB es ls x)
theorem get_int' {ns : List Int} {i : Nat} {v : V} (h : (ns.map V.int)[i]? = some v) : ∃ x, ns[i]? = some x ∧ v = .int x := by
  rw [List.getElem?_map] at h
  cases e : ns[i]? with
  | none => rw [e] at h; cases h
  | some y => rw [e] at h; exact ⟨y, rfl, (Option.some.inj h).symm⟩
theorem Fk.none {ns : List Int} {es : Eds} {g : Int} {s : Nat} {kvs : List (Key × V)} (h : Fk ns es g s kvs) {x : Int} : (valV kvs (.inl x)).isSome = false ↔ ∀ k, k ≤ s → ¬ Ds ns es g k x := by
  constructor
  · intro e k hk d
    have := (h x (.int k)).mpr ⟨k, hk, rfl, d⟩
    rw [this] at e; cases e
  · intro no
    cases e : valV kvs (.inl x) with
    | none => rfl
    | some v =>
      obtain ⟨k, hk, _, d⟩ := (h x v).mp e
      exact absurd d (no k hk)
theorem next_iff {ns : List Int} {es : Eds} {g : Int} {s : Nat} {kvs : List (Key × V)} {ls : List Int} (h : Fk ns es g s kvs) (hl : ∀ x, x ∈ ls ↔ Ds ns es g s x) (x : Int) : x ∈ ns.filter (nextB es g kvs ls) ↔ Ds ns es g (s + 1) x := by
  rw [List.mem_filter]
  unfold nextB nearB
  rw [Bool.and_eq_true, Bool.and_eq_true, decide_eq_true_iff, Bool.not_eq_true', h.none, List.any_eq_true]
  constructor
  · rintro ⟨hx, gx, no, y, hy, e⟩
    refine Ds.of_next hx gx (of_decide_eq_true e) ((hl y).mp hy) fun j hj w => ?_
    obtain ⟨i, hi, d⟩ := w.ds
    exact no i (by omega) d
  · intro d
    obtain ⟨y, e, dy⟩ := d.next
    refine ⟨d.1.1, d.1.2.1, fun k hk dk => ?_, y, (hl y).mpr dy, decide_eq_true e⟩
    have := dk.uniq d
    omega
section
variable {P : Program} {w : World} {K : PySem.W.Frag} {mg : Str → Option Value} {base : Heap}
theorem ok_distances (T : Txt K mg) : FnOk P w K mg base CX0 2 T.a_distances T.fd_distances ["goal", "nodes", "edges"] (spDist K) := by
  refine T.F_distances.ok sc_distances (fun vs H Q E h => ?_) (fun cdv A outer s H vs Q E hr h => ?_)
  · obtain ⟨g, a, y, ns, es, rfl, _⟩ := h; rfl
  · obtain ⟨g, a, y, ns, es, rfl, hS, hz, hg, hE, q⟩ := h
    refine ⟨_, (pss_cons (ps_set (i := 3) sc_distances.nd rfl (.inl rfl) (pe_disp (pps_cons (pv 0) (pe_int) pps_nil) rfl rfl (by simp) (by decide)))
      (pss_cons (ps_set (i := 4) sc_distances.nd rfl (.inl rfl) (pe_lst (pa_cons (pv 0) pa_nil)))
      (pss_cons (ps_set (i := 5) sc_distances.nd rfl (.inl rfl) (pe_int))
      (pss_cons (ps_while PassesOwn.never (pt_cmpR op_gt (pe_callB call_len_seq (by rfl) T.n_len (by decide +kernel) (pa_cons (pv 4) pa_nil)) (pe_int) (nomark _)) (pss_cons (ps_aug (i := 5) sc_distances.nd rfl (.inl rfl) (pe_int) ip_add)
      (pss_cons (ps_set (i := 6) sc_distances.nd rfl (.inl rfl) (pe_lst pa_nil))
      (pss_cons (ps_for PassesOwn.never rfl (pi_sqK (K := K) rfl (pv 1)) (pg_name (i := 7) sc_distances.nd rfl (.inr rfl)) (pss_one (ps_if (PW.pt (pw_and (pt_cmpR op_ge (pv 7) (pv 0) (nomark _)) (pw_and (pt_cmpR (op_ninKd (hu_of hr)) (pv 7) (pv 3) (by with_unfolding_all rfl)) (pw_and1 (pt_val (pe_callB (anyK (K := K) rfl rfl) (by rfl) T.n_any (by decide +kernel) (pa_cons (pe_lc (own := [("other", 8)]) (g := (gName 8)) (by rfl) sc_distances.nd (pi_list (pv 4)) (blkOk_by (own := [("other", 8)]) (N := ["goal", "nodes", "edges", "found", "layer", "steps", "further", "node", "other"]) (sc := defScope S_distances) (by decide +kernel)) (fun _ _ _ _ _ => (pg_name (i := 8) sc_distances.nd rfl (by first | exact .inl rfl | exact .inr rfl))) (fun _ _ _ _ _ => pts_nil) (fun _ _ _ _ _ => (pe_cmpR (inEK (K := K) rfl (hu65 hr)) (pe_tup (pa_cons (pv 7) (pa_cons (pv 8) pa_nil))) (pv 2) (by with_unfolding_all rfl)))) pa_nil))))))) (pss_one (ps_expr (pe_bm PySem.F.plainAttrs_list PySem.F.slot_list_append PySem.F.type_list_append mt_append (pv 6) (pa_cons (pv 7) pa_nil)))) pss_nil)))
      (pss_cons (ps_for PassesOwn.never rfl (pi_list (pv 6)) (pg_name (i := 7) sc_distances.nd rfl (.inr rfl)) (pss_one (ps_dput (hu_of hr) (pv 3) (pv 7) (pv 5) rfl)))
      (pss_one (ps_set (i := 4) sc_distances.nd rfl (.inl rfl) (pv 6))))))))
      (pss_one (ps_ret (pv 3))))))), ?_⟩
    have big : 100000 < sizeLine := by decide
    refine fun f hf => ⟨_, rfl, upd_same, [(.inl g, .int 0)], rfl, by show 1 ≤ 15; decide, ?_⟩
    have sf : Same H (upd (upd H f (.dK [])) f (.dK (mergeK [] [(.inl g, .int 0)]))) := same_mut (same_new hf) hf
    have hf1 : (upd (upd H f (.dK [])) f (.dK (mergeK [] [(.inl g, .int 0)]))) f = some (.dK [(.inl g, .int 0)]) := upd_same
    revert sf hf1
    generalize upd (upd H f (.dK [])) f (.dK (mergeK [] [(.inl g, .int 0)])) = H1
    intro sf hf1
    refine ⟨_, rfl, by show 1 ≤ sizeLine; decide, fun la hla => ?_⟩
    have s1 := same_new (o := .lst [.int g]) hla
    refine ⟨fun m σ H' => ∃ (la : Addr) (ls : List Int) (kvs : List (Key × V)) (s : Nat) (x6 x7 x8 : Option V), σ = [some (.int g), some (.ref a), some y, some (.ref f), some (.ref la), some (.int (s : Nat)), x6, x7, x8] ∧ m = ns.length + 1 - s ∧ s ≤ ns.length ∧ Same H H' ∧ H' la = some (.lst (ls.map V.int)) ∧ H' f = some (.dK kvs) ∧
      Fk ns es g s kvs ∧ (∀ x, x ∈ ls ↔ Ds ns es g s x) ∧ ls.length ≤ 1 + ns.length ∧ kvs.length ≤ 1 + s * ns.length, ⟨_, la, [g], _, 0, _, _, _, rfl, rfl, Nat.zero_le _, sf.trans s1, upd_same, s1 _ _ hf1, ?_, ?_, ?_, ?_⟩, ?_⟩
    · intro x v
      by_cases c : x = g
      · subst c
        rw [valV_pos rfl]
        constructor
        · intro h; exact ⟨0, Nat.le_refl _, (Option.some.inj h).symm, rfl, fun j hj => absurd hj (Nat.not_lt_zero _)⟩
        · rintro ⟨k, hk, rfl, d⟩
          obtain rfl : k = 0 := by omega
          rfl
      · rw [valV_neg (fun z => c (Sum.inl.inj z).symm)]
        constructor
        · intro h; cases h
        · rintro ⟨k, hk, rfl, d⟩
          obtain rfl : k = 0 := by omega
          exact absurd d.1 c
    · intro x
      rw [List.mem_singleton]
      exact ⟨fun h => ⟨h, fun j hj => absurd hj (Nat.not_lt_zero _)⟩, fun h => h.1⟩
    · show 1 ≤ 1 + ns.length; omega
    · show 1 ≤ 1 + 0 * ns.length; omega
    rintro m σ H2 ⟨la, ls, kvs, s, x6, x7, x8, rfl, rfl, hs, t2, hla2, hf2, fk, hl, ll, lk⟩
    refine ⟨_, rfl, la, _, rfl, .inl (SqL.of hla2), _, _, rfl, rfl, _, rfl, iteD (fun c => ?_) (fun c => ?_)⟩
    · have hne : ls ≠ [] := fun z => by rw [z] at c; simp at c
      obtain ⟨x0, hx0⟩ := List.exists_mem_of_ne_nil ls hne
      have slt : s < ns.length := ((hl x0).mp hx0).lt hg
      refine ⟨_, fun σ' H' h => h, ?_⟩
      refine ⟨_, rfl, _, _, rfl, rfl, Nat.zero_le _, fun fu hfu => ?_⟩
      have s3 := same_new (o := .lst ([] : List V)) hfu
      have nfu : H fu = none := t2.free hfu
      have nff : f ≠ fu := ne_of_none hf2 hfu
      have nlf : la ≠ fu := ne_of_none hla2 hfu
      have t3 := t2.trans s3
      have hla3 := s3 _ _ hla2
      have hf3 := s3 _ _ hf2
      refine ⟨_, rfl, a, rfl, for_sq (K := K) (a := a) (xs := ns.map V.int) hS (fun i σ H' => ∃ x7 x8, σ = [some (.int g), some (.ref a), some y, some (.ref f), some (.ref la), some (.int ((s : Nat) + 1 : Int)), some (.ref fu), x7, x8] ∧ Same H2 H' ∧ H' fu = some (.lst (((ns.take i).filter (nextB es g kvs ls)).map V.int)))
        ⟨_, _, rfl, s3, upd_same⟩ (fun i σ H' _ ⟨_, _, _, s, _⟩ => sqS_same (t2.trans s)) ?_ ?_⟩
      · rintro i v σ H4 hv ⟨x7', x8', rfl, s4, hfu4⟩
        obtain ⟨x, hx, rfl⟩ := get_int' hv
        have t4 := t2.trans s4
        have stay : nextB es g kvs ls x = false → ∀ H5, Same H4 H5 → ∃ x7 x8, ([some (.int g), some (.ref a), some y, some (.ref f), some (.ref la), some (.int ((s : Nat) + 1 : Int)), some (.ref fu), some (.int x), x8'] : L2.St) = [some (.int g), some (.ref a), some y, some (.ref f), some (.ref la), some (.int ((s : Nat) + 1 : Int)), some (.ref fu), x7, x8] ∧ Same H2 H5 ∧ H5 fu = some (.lst (((ns.take (i + 1)).filter (nextB es g kvs ls)).map V.int)) := fun e H5 s5 => by
          refine ⟨_, _, rfl, s4.trans s5, ?_⟩
          rw [filter_take_succ _ hx, e, s5 _ _ hfu4]
          simp
        refine ⟨_, rfl, _, rfl, _, _, rfl, rfl, _, rfl, iteD (fun c1 => ?_) (fun c1 => stay (by unfold nextB; rw [decide_eq_false c1]; rfl) H4 fun _ _ h => h)⟩
        refine ⟨_, rfl, _, rfl, f, _, rfl, DGet.k (k := .inl x) (s4 _ _ hf2), _, rfl, ?_⟩
        cases c2 : (valV kvs (.inl x)).isSome with
        | true => exact iteF (stay (by unfold nextB; rw [c2, Bool.not_true, Bool.false_and, Bool.and_false]) H4 fun _ _ h => h)
        | false =>
          refine iteT (any_out (ls := ls) (es := es) (s4 _ _ hla2) (by omega) (edg_same t4 hE) fun H5 s5 => ⟨_, rfl, ?_⟩)
          cases c3 : nearB es ls x with
          | false => exact iteF (stay (by unfold nextB; rw [c3, Bool.and_false, Bool.and_false]) H5 s5)
          | true =>
            have e : nextB es g kvs ls x = true := by unfold nextB; rw [c2, c3, decide_eq_true c1]; rfl
            have hfu5 := s5 _ _ hfu4
            refine iteT ⟨_, rfl, .inl ⟨rfl, _, SqL.of hfu5⟩, _, rfl, _, _, _, rfl, rfl, hfu5, ?_, ?_⟩
            · have := List.length_filter_le (nextB es g kvs ls) (ns.take i)
              rw [List.length_take] at this
              rw [List.length_map]; omega
            · refine ⟨_, _, rfl, same_mut (s4.trans s5) hfu, ?_⟩
              rw [upd_same, filter_take_succ _ hx, e]
              simp
      · rintro σ H4 ⟨x7', x8', rfl, s4, hfu4⟩
        rw [List.length_map, List.take_length] at hfu4
        have t4 := t2.trans s4
        have nx := next_iff (ns := ns) fk hl
        have lf := List.length_filter_le (nextB es g kvs ls) ns
        revert hfu4 nx lf
        generalize ns.filter (nextB es g kvs ls) = fs
        intro hfu4 nx lf
        have hf4 := s4 _ _ hf2
        refine ⟨_, rfl, fu, rfl, ⟨_, SqL.of hfu4⟩, for_list (K := K) (a := fu) (xs := fs.map V.int) (fun i σ H' => ∃ x7 kvs', σ = [some (.int g), some (.ref a), some y, some (.ref f), some (.ref la), some (.int ((s : Nat) + 1 : Int)), some (.ref fu), x7, x8'] ∧ Same H H' ∧ H' fu = some (.lst (fs.map V.int)) ∧ H' f = some (.dK kvs') ∧ kvs'.length ≤ kvs.length + i ∧
            ∀ x, valV kvs' (.inl x) = if x ∈ fs.take i then some (.int ((s : Nat) + 1 : Int)) else valV kvs (.inl x))
          ⟨_, kvs, rfl, t4, hfu4, hf4, Nat.le_refl _, fun x => by simp⟩ (fun i σ H' _ ⟨_, _, _, _, h, _⟩ => SqL.of h) ?_ ?_⟩
        · rintro i v σ H5 hv ⟨x7'', kvs', rfl, t5, hfu5, hf5, l5, v5⟩
          obtain ⟨x, hx, rfl⟩ := get_int' hv
          have hi : i < fs.length := (List.getElem?_eq_some_iff.mp hx).1
          have sq : s * ns.length ≤ 100 * 100 := Nat.mul_le_mul (by omega) hz
          refine ⟨_, rfl, _, rfl, _, rfl, f, _, rfl, DPut.k (k := .inl x) hf5 (by omega), ?_⟩
          refine ⟨_, _, rfl, same_mut t5 hf, ?_, upd_same, ?_, fun z => ?_⟩
          · rw [upd_ne nff.symm]; exact hfu5
          · have := length_putK kvs' (.inl x) (V.int ((s : Nat) + 1 : Int)); omega
          · rw [valV_put, v5 z, List.take_add_one, hx]
            by_cases e : z = x
            · subst e; simp
            · have e2 : ¬ (Sum.inl z : Key) = Sum.inl x := fun c => e (Sum.inl.inj c)
              rw [if_neg e2]
              simp [e]
        · rintro σ H5 ⟨x7'', kvs', rfl, t5, hfu5, hf5, l5, v5⟩
          rw [List.length_map] at l5 v5
          rw [List.take_length] at v5
          refine ⟨_, rfl, ns.length + 1 - (s + 1), by omega, fu, fs, kvs', s + 1, _, _, _, rfl, rfl, by omega, t5, hfu5, hf5, fun x v => ?_, nx, by omega, ?_⟩
          · rw [v5 x]
            by_cases e : x ∈ fs
            · rw [if_pos e]
              have d := (nx x).mp e
              constructor
              · intro h; exact ⟨s + 1, Nat.le_refl _, (Option.some.inj h).symm, d⟩
              · rintro ⟨k, _, rfl, d'⟩
                rw [d'.uniq d]; rfl
            · rw [if_neg e, fk x v]
              constructor
              · rintro ⟨k, h1, h2, h3⟩; exact ⟨k, by omega, h2, h3⟩
              · rintro ⟨k, h1, h2, h3⟩
                refine ⟨k, Nat.le_of_not_lt fun c => e ((nx x).mpr ?_), h2, h3⟩
                rwa [show k = s + 1 by omega] at h3
          · rw [Nat.succ_mul]; omega
    · refine ⟨_, rfl, q f kvs H2 t2 hf hf2 fun x v => ?_⟩
      have e0 : ls = [] := by
        rcases ls with _ | ⟨x, r⟩
        · rfl
        · exact absurd (by simp) c
      subst e0
      have none : ∀ k x, s ≤ k → ¬ Ds ns es g k x := by
        intro k
        induction k with
        | zero => intro x h d; obtain rfl : s = 0 := by omega
                  exact absurd ((hl x).mpr d) List.not_mem_nil
        | succ k ih =>
          intro x h d
          by_cases e : s = k + 1
          · subst e; exact absurd ((hl x).mpr d) List.not_mem_nil
          · obtain ⟨y, _, dy⟩ := d.next
            exact ih y (by omega) dy
      rw [fk x v]
      constructor
      · rintro ⟨k, _, e, d⟩; exact ⟨k, e, d⟩
      · rintro ⟨k, e, d⟩
        exact ⟨k, Nat.le_of_not_lt fun h => none k x (by omega) d, e, d⟩
end
end My

namespace My
open PySem L2
def spRF (K : PySem.W.Frag) : Sp := fun vs H Q _ => ∃ (g : Int) (a : Addr) (y : V) (ns : List Int) (es : Eds), vs = [.int g, .ref a, y] ∧ SqS K H a (ns.map V.int) ∧ ns.length ≤ 100 ∧ g ∈ ns ∧ Edg K H y es ∧
  ∀ r rs H', Same H H' → H r = none → H' r = some (.tup (rs.map V.int)) → Rf ns es g rs → Q (.ref r) H'
def lenP (kvs : List (Key × V)) (g : Int) (es : Eds) (x : Int) : Bool := (valV kvs (.inl x)).isSome && (!decide (x = g) && decide ((g, x) ∈ es))
def dval (kvs : List (Key × V)) (x : Int) : Int := match valV kvs (.inl x) with
  | some (.int k) => k
  | _ => 0
theorem Fd.some {ns : List Int} {es : Eds} {g : Int} {kvs : List (Key × V)} (h : Fd ns es g kvs) {x : Int} (e : (valV kvs (.inl x)).isSome = true) : ∃ k : Nat, valV kvs (.inl x) = some (.int k) ∧ dval kvs x = k ∧ Ds ns es g k x := by
  cases e1 : valV kvs (.inl x) with
  | none => rw [e1] at e; cases e
  | some v =>
    obtain ⟨k, rfl, d⟩ := (h x v).mp e1
    exact ⟨k, rfl, by unfold dval; rw [e1], d⟩
theorem Fd.none {ns : List Int} {es : Eds} {g : Int} {kvs : List (Key × V)} (h : Fd ns es g kvs) {x : Int} (e : (valV kvs (.inl x)).isSome = false) (k : Nat) : ¬ Ds ns es g k x := fun d => by
  rw [(h x _).mpr ⟨k, rfl, d⟩] at e; cases e
section
variable {P : Program} {w : World} {K : PySem.W.Frag} {mg : Str → Option Value} {base : Heap}
theorem ok_ring_from (T : Txt K mg) : FnOk P w K mg base CX0 3 T.a_ring_from T.fd_ring_from ["first", "nodes", "edges"] (spRF K) := by
  refine T.F_ring_from.ok sc_ring_from (fun vs H Q E h => ?_) (fun cdv A outer s H vs Q E hr h => ?_)
  · obtain ⟨g, a, y, ns, es, rfl, _⟩ := h; rfl
  · obtain ⟨g, a, y, ns, es, rfl, hS, hz, hg, hE, q⟩ := h
    refine ⟨_, (pss_cons (ps_set (i := 3) sc_ring_from.nd rfl (.inr rfl) (pe_call (ok_distances T) (hr.mono (by omega)) (by rfl) T.g_distances T.F_distances.kp T.b_distances .nil pass0 (pa_cons (pv 0) (pa_cons (pv 1) (pa_cons (pv 2) pa_nil)))))
      (pss_cons (ps_setLc (i := 4) (own := [("node", 5)]) (g := (gName 5)) (by rfl) sc_ring_from.nd rfl rfl (sw_true rfl rfl rfl (by decide +kernel)) (pi_sqK (K := K) rfl (pv 1)) (blkOk_by (own := [("node", 5)]) (N := ["first", "nodes", "edges", "found", "lengths", "node", "left", "length", "ring"]) (sc := defScope S_ring_from) (by decide +kernel)) (fun _ _ _ _ _ => (pg_name (i := 5) sc_ring_from.nd rfl (by first | exact .inl rfl | exact .inr rfl))) (fun _ _ _ _ _ => (pts_one (PW.pt (pw_and (pt_cmpR (op_inKd (hu_of hr)) (pv 5) (pv 3) (by with_unfolding_all rfl)) (pw_and (pt_cmpR op_ne (pv 5) (pv 0) (nomark _)) (pw_and1 (pt_cmpR (inEK (K := K) rfl (hu65 hr)) (pe_tup (pa_cons (pv 0) (pa_cons (pv 5) pa_nil))) (pv 2) (by with_unfolding_all rfl)))))))) (fun _ _ _ _ _ => (pe_dget (hu_of hr) (pv 3) (pv 5) (fun _ _ => rfl))))
      (pss_cons (ps_if (pt_cmpR op_eq (pe_callB call_len_seq (by rfl) T.n_len (by decide +kernel) (pa_cons (pv 4) pa_nil)) (pe_int) (nomark _)) (pss_one (ps_ret (pe_tup pa_nil))) pss_nil)
      (pss_cons (ps_set (i := 6) sc_ring_from.nd rfl (.inl rfl) (pe_callB (minK (K := K) rfl rfl) (by rfl) T.n_min (by decide +kernel) (pa_cons (pe_lc (own := [("length", 7)]) (g := (gName 7)) (by rfl) sc_ring_from.nd (pi_list (pv 4)) (blkOk_by (own := [("length", 7)]) (N := ["first", "nodes", "edges", "found", "lengths", "node", "left", "length", "ring"]) (sc := defScope S_ring_from) (by decide +kernel)) (fun _ _ _ _ _ => (pg_name (i := 7) sc_ring_from.nd rfl (by first | exact .inl rfl | exact .inr rfl))) (fun _ _ _ _ _ => pts_nil) (fun _ _ _ _ _ => (pe_callTy call_int1 (by rfl) T.n_int (by decide +kernel) (pa_cons (pv 7) pa_nil)))) pa_nil)))
      (pss_cons (ps_set (i := 8) sc_ring_from.nd rfl (.inl rfl) (pe_lst (pa_cons (pv 0) pa_nil)))
      (pss_cons (ps_while PassesOwn.never (pt_cmpR op_gt (pv 6) (pe_int) (nomark _)) (pss_cons (ps_for PassesOwn.never rfl (pi_sqK (K := K) rfl (pv 1)) (pg_name (i := 5) sc_ring_from.nd rfl (.inl rfl)) (pss_one (ps_if (PW.pt (pw_and (pt_cmpR (op_inKd (hu_of hr)) (pv 5) (pv 3) (by with_unfolding_all rfl)) (pw_and (pt_cmpR op_eq (pe_dget (hu_of hr) (pv 3) (pv 5) (fun _ _ => rfl)) (pv 6) (nomark _)) (pw_and1 (pt_cmpR (inEK (K := K) rfl (hu65 hr)) (pe_tup (pa_cons (pe_ix ix_list (pv 8) (pe_un un_neg (pe_int)) (fun _ _ => rfl)) (pa_cons (pv 5) pa_nil))) (pv 2) (by with_unfolding_all rfl)))))) (pss_cons (ps_expr (pe_bm PySem.F.plainAttrs_list PySem.F.slot_list_append PySem.F.type_list_append mt_append (pv 8) (pa_cons (pv 5) pa_nil)))
      (pss_one ps_break)) pss_nil)))
      (pss_one (ps_aug (i := 6) sc_ring_from.nd rfl (.inl rfl) (pe_int) ip_sub))))
      (pss_one (ps_ret (pe_callTy call_tuple_of (by rfl) T.n_tuple (by decide +kernel) (pa_cons (pv 8) pa_nil)))))))))), ?_⟩
    have big : 100000 < sizeLine := by decide
    refine ⟨_, rfl, _, rfl, _, rfl, g, a, y, ns, es, rfl, hS, hz, hg, hE, fun f kvs H1 s1 nf hf fd => ?_⟩
    refine ⟨_, rfl, a, rfl, lc_sq (K := K) (a := a) (xs := ns.map V.int) (H0 := H) hS (sqS_same s1) (fun D i H' => Same H1 H' ∧ H' D = some (.lst ((((ns.take i).filter (lenP kvs g es)).map (dval kvs)).map V.int)))
      (fun D hD => ⟨same_new hD, upd_same⟩) (fun D i H' _ _ h => sqS_same (s1.trans h.1)) ?_ ?_⟩
    · rintro D hD i v H2 hv ⟨s2, h2⟩
      obtain ⟨x, hx, rfl⟩ := get_int' hv
      refine ⟨rfl, ?_⟩
      have hf2 := s2 _ _ hf
      have stay : lenP kvs g es x = false → ∀ H3, Same H2 H3 → Same H1 H3 ∧ H3 D = some (.lst ((((ns.take (i + 1)).filter (lenP kvs g es)).map (dval kvs)).map V.int)) := fun e H3 s3 => by
        refine ⟨s2.trans s3, ?_⟩
        rw [filter_take_succ _ hx, e, s3 _ _ h2]
        simp
      refine ⟨_, rfl, _, rfl, f, _, rfl, DGet.k (k := .inl x) hf2, _, rfl, ?_⟩
      cases c1 : (valV kvs (.inl x)).isSome with
      | false => exact iteF (iteF (stay (by unfold lenP; rw [c1]; rfl) H2 fun _ _ h => h))
      | true =>
        refine iteT ⟨_, rfl, _, rfl, rfl, _, rfl, iteN (fun c2 => ?_) (fun c2 => iteF (stay (by unfold lenP; rw [V.int.inj c2, decide_eq_true rfl, Bool.not_true, Bool.false_and, Bool.and_false]) H2 fun _ _ h => h))⟩
        have c2 : ¬ x = g := fun z => c2 (by rw [z])
        refine ⟨_, rfl, _, rfl, by show 2 ≤ sizeLine; decide, fun u hu => ⟨_, rfl, (g, x), es, ⟨u, rfl, upd_same⟩, edg_same ((s1.trans s2).trans (same_new hu)) hE, _, rfl, ?_⟩⟩
        have su := same_new (o := .tup [.int g, .int x]) hu
        by_cases c3 : (g, x) ∈ es
        · refine iteYes (by simp [c3]) ?_
          have e : lenP kvs g es x = true := by unfold lenP; rw [c1, decide_eq_false c2, decide_eq_true c3]; rfl
          obtain ⟨k, ek, dk, _⟩ := fd.some c1
          refine ⟨_, rfl, _, rfl, f, _, rfl, ek ▸ DGet.k (k := .inl x) (su _ _ hf2), _, su _ _ h2, ?_, same_mut (s2.trans su) hD, ?_⟩
          · have := List.length_filter_le (lenP kvs g es) (ns.take i)
            rw [List.length_take] at this
            rw [List.length_map, List.length_map]; omega
          · rw [upd_same, filter_take_succ _ hx, e, if_pos rfl, List.map_append, List.map_append, ← dk]; rfl
        · exact iteNo (by simp [c3]) (stay (by unfold lenP; rw [decide_eq_false c3, Bool.and_false, Bool.and_false]) _ su)
    · rintro D hD H2 ⟨s2, h2⟩
      rw [List.length_map, List.take_length] at h2
      have t2 := s1.trans s2
      have mlen : ∀ l, l ∈ (ns.filter (lenP kvs g es)).map (dval kvs) ↔ ∃ (x : Int) (k : Nat), l = k ∧ x ∈ ns ∧ x ≠ g ∧ (g, x) ∈ es ∧ Ds ns es g k x := fun l => by
        rw [List.mem_map]
        constructor
        · rintro ⟨x, hx, rfl⟩
          obtain ⟨hx, px⟩ := List.mem_filter.mp hx
          unfold lenP at px
          rw [Bool.and_eq_true, Bool.and_eq_true, Bool.not_eq_true', decide_eq_false_iff_not, decide_eq_true_iff] at px
          obtain ⟨k, _, e, d⟩ := fd.some px.1
          exact ⟨x, k, e, hx, px.2.1, px.2.2, d⟩
        · rintro ⟨x, k, rfl, hx, ng, e, d⟩
          have ev := (fd x _).mpr ⟨k, rfl, d⟩
          refine ⟨x, List.mem_filter.mpr ⟨hx, ?_⟩, by unfold dval; rw [ev]⟩
          unfold lenP
          rw [ev, decide_eq_false ng, decide_eq_true e]; rfl
      have ll : ((ns.filter (lenP kvs g es)).map (dval kvs)).length ≤ 100 := by
        rw [List.length_map]; have := List.length_filter_le (lenP kvs g es) ns; omega
      revert h2 mlen ll
      generalize (ns.filter (lenP kvs g es)).map (dval kvs) = lens
      intro h2 mlen ll
      have hf2 := s2 _ _ hf
      refine ⟨_, rfl, D, _, rfl, .inl (SqL.of h2), rfl, _, rfl, iteD (fun c2 => ?_) (fun c2 => ?_)⟩
      · have e0 : lens = [] := by
          have := V.int.inj c2
          rw [List.length_map] at this
          exact List.length_eq_zero_iff.mp (by omega)
        subst e0
        refine ⟨Nat.zero_le _, fun r hr => q r [] _ (t2.trans (same_new hr)) (t2.free hr) upd_same (.inl ⟨rfl, fun y k hy ng e d => ?_⟩)⟩
        exact absurd ((mlen k).mpr ⟨y, k, rfl, hy, ng, e, d⟩) List.not_mem_nil
      have ne0 : 0 < lens.length := by
        rcases lens with _ | ⟨_, _⟩
        · exact absurd rfl c2
        · exact Nat.succ_pos _
      refine ⟨_, rfl, D, rfl, ⟨_, SqL.of h2⟩, fun D2 hD2 => lc_list (K := K) (a := D) (xs := lens.map V.int) (fun i H' => Same H2 H' ∧ H' D2 = some (.lst ((lens.take i).map V.int))) ⟨same_new hD2, upd_same⟩ (fun i H' _ h => SqL.of (h.1 _ _ h2)) ?_ ?_⟩
      · rintro i v H3 hv ⟨s3, h3⟩
        obtain ⟨x, hx, rfl⟩ := get_int' hv
        refine ⟨rfl, ?_⟩
        unfold tYes
        refine iteT ⟨_, rfl, .inl ⟨_, rfl, _, h3, ?_, same_mut s3 hD2, ?_⟩⟩
        · rw [List.length_map, List.length_take]; omega
        · rw [upd_same, List.take_add_one, hx, List.map_append]; rfl
      rintro H3 ⟨s3, h3⟩
      rw [List.length_map, List.take_length] at h3
      refine ⟨D2, lens, rfl, SqL.of h3, ne0, fun mm mem least => ?_⟩
      obtain ⟨y0, m, rfl, hy0, ny0, ey0, dy0⟩ := (mlen mm).mp mem
      have mpos : 0 < m := Nat.pos_of_ne_zero fun z => ny0 (by rw [z] at dy0; exact dy0.1)
      have mlt := dy0.lt hg
      have t3 := t2.trans s3
      have hf3 := s3 _ _ hf2
      refine ⟨_, rfl, by show 1 ≤ sizeLine; decide, fun rg hrg => ?_⟩
      have s4 := same_new (o := .lst [.int g]) hrg
      have nrg : H rg = none := t3.free hrg
      have nfr : f ≠ rg := ne_of_none hf3 hrg
      refine ⟨fun mu σ H' => ∃ (j : Nat) (pre r1 : List Int) (u : Int) (x5 x7 : Option V), σ = [some (.int g), some (.ref a), some y, some (.ref f), some (.ref D), x5, some (.int (j : Nat)), x7, some (.ref rg)] ∧ mu = j ∧ Same H H' ∧ H' f = some (.dK kvs) ∧ H' rg = some (.lst ((pre ++ [u]).map V.int)) ∧ pre ++ [u] = g :: r1 ∧ r1.length + j = m ∧
          (0 < j → ∃ z, Ds ns es g j z ∧ (u, z) ∈ es) ∧ ∀ r2, Chain ns (fun k x y => Ds ns es g k y ∧ (x, y) ∈ es) j u r2 → Chain ns (fun k x y => Ds ns es g k y ∧ (x, y) ∈ es) m g (r1 ++ r2),
        ⟨_, m, [], [], g, _, _, rfl, rfl, t3.trans s4, s4 _ _ hf3, upd_same, rfl, by simp, fun _ => ⟨y0, dy0, ey0⟩, fun r2 h => h⟩, ?_⟩
      rintro j σ H5 ⟨j0, pre, r1, u, x5, x7, rfl, rfl, t5, hf5, hr5, er, lr, nxt, ch⟩
      have lpre : (pre ++ [u]).length = r1.length + 1 := by rw [er]; rfl
      refine ⟨_, rfl, _, _, rfl, rfl, _, rfl, iteD (fun c => ?_) (fun c => ?_)⟩
      · obtain ⟨j, rfl⟩ : ∃ i, j = i + 1 := ⟨j - 1, by omega⟩
        obtain ⟨z0, dz0, ez0⟩ := nxt (Nat.succ_pos _)
        have hlast : atI ((pre ++ [u]).map V.int) (-1) = some (.int u) := by rw [List.map_append]; exact atI_last _ _
        refine ⟨_, fun σ' H' h => h, ?_⟩
        refine ⟨_, rfl, a, rfl, for_sq (K := K) (a := a) (xs := ns.map V.int) (H0 := H) hS (fun i σ H' => ∃ x5, σ = [some (.int g), some (.ref a), some y, some (.ref f), some (.ref D), x5, some (.int ((j + 1 : Nat) : Int)), x7, some (.ref rg)] ∧ Same H5 H' ∧ ∀ (i' : Nat) (z : Int), i' < i → ns[i']? = some z → ¬ (Ds ns es g (j + 1) z ∧ (u, z) ∈ es))
          ⟨_, rfl, fun _ _ h => h, fun i' z h => absurd h (Nat.not_lt_zero _)⟩ (fun i σ H' _ ⟨_, _, s, _⟩ => sqS_same (t5.trans s)) ?_ ?_⟩
        · rintro i v σ H6 hv ⟨x5', rfl, s6, no⟩
          obtain ⟨x, hx, rfl⟩ := get_int' hv
          have hf6 := s6 _ _ hf5
          have hr6 := s6 _ _ hr5
          have stay : ¬ (Ds ns es g (j + 1) x ∧ (u, x) ∈ es) → ∀ H7, Same H6 H7 → ∃ x5, ([some (.int g), some (.ref a), some y, some (.ref f), some (.ref D), some (.int x), some (.int ((j + 1 : Nat) : Int)), x7, some (.ref rg)] : L2.St) = [some (.int g), some (.ref a), some y, some (.ref f), some (.ref D), x5, some (.int ((j + 1 : Nat) : Int)), x7, some (.ref rg)] ∧ Same H5 H7 ∧ ∀ (i' : Nat) (z : Int), i' < i + 1 → ns[i']? = some z → ¬ (Ds ns es g (j + 1) z ∧ (u, z) ∈ es) := fun e H7 s7 => by
            refine ⟨_, rfl, s6.trans s7, fun i' z hi' hz' => ?_⟩
            by_cases ei : i' = i
            · subst ei; rw [hx] at hz'; rw [← Option.some.inj hz']; exact e
            · exact no i' z (by omega) hz'
          refine ⟨_, rfl, _, rfl, f, _, rfl, DGet.k (k := .inl x) hf6, _, rfl, ?_⟩
          cases c1 : (valV kvs (.inl x)).isSome with
          | false => exact iteF (stay (fun h => fd.none c1 _ h.1) H6 fun _ _ h => h)
          | true =>
            obtain ⟨k, ek, dk, dd⟩ := fd.some c1
            refine iteT ⟨_, rfl, _, rfl, f, _, rfl, ek ▸ DGet.k (k := .inl x) hf6, _, rfl, rfl, _, rfl, iteD (fun c2 => ?_) (fun c2 => stay (fun h => c2 ?_) H6 fun _ _ h => h)⟩
            · have c2 : k = j + 1 := by have := V.int.inj c2; omega
              subst c2
              refine ⟨_, rfl, _, rfl, _, _, _, _, rfl, rfl, SqL.of hr6, hlast, _, rfl, by show 2 ≤ sizeLine; decide, fun t ht => ⟨_, rfl, (u, x), es, ⟨t, rfl, upd_same⟩, edg_same ((t5.trans s6).trans (same_new ht)) hE, _, rfl, ?_⟩⟩
              have st := same_new (o := .tup [.int u, .int x]) ht
              by_cases c3 : (u, x) ∈ es
              · refine iteYes (by simp [c3]) ?_
                have hr7 := st _ _ hr6
                refine ⟨_, rfl, .inl ⟨rfl, _, SqL.of hr7⟩, _, rfl, _, _, _, rfl, rfl, hr7, by rw [List.length_map, lpre]; omega, ?_⟩
                refine ⟨_, rfl, _, _, rfl, rfl, ?_⟩
                have first : IsFirst ns (fun y => Ds ns es g (j + 1) y ∧ (u, y) ∈ es) x := ⟨i, hx, ⟨dd, c3⟩, no⟩
                refine ⟨j, Nat.lt_succ_self _, j, pre ++ [u], r1 ++ [x], x, some (.int x), x7, ?_, rfl, same_mut ((t5.trans s6).trans st) nrg, ?_, ?_, ?_, ?_, fun hj => ?_, fun r2 h2 => ?_⟩
                · show ([some (.int g), some (.ref a), some y, some (.ref f), some (.ref D), some (.int x), some (.int (((j + 1 : Nat) : Int) - 1)), x7, some (.ref rg)] : L2.St) = _
                  rw [show (((j + 1 : Nat) : Int) - 1) = (j : Nat) by omega]
                · rw [upd_ne nfr]; exact st _ _ hf6
                · rw [upd_same, List.map_append (l₁ := pre ++ [u])]; rfl
                · rw [er]; rfl
                · rw [List.length_append]; show r1.length + 1 + j = m; omega
                · obtain ⟨i, rfl⟩ : ∃ i, j = i + 1 := ⟨j - 1, by omega⟩
                  obtain ⟨z, ez, dz⟩ := dd.next
                  exact ⟨z, dz, ez⟩
                · rw [List.append_assoc]
                  exact ch (x :: r2) (.cons first h2)
              · exact iteNo (by simp [c3]) (stay (fun h => c3 h.2) _ st)
            · rw [dd.uniq h.1]
        · rintro σ H6 ⟨x5', rfl, s6, no⟩
          exfalso
          obtain ⟨i, hi, e⟩ := List.getElem_of_mem dz0.1.1
          exact no i z0 (by rw [List.length_map]; exact hi) (by rw [List.getElem?_eq_getElem hi, e]) ⟨dz0, ez0⟩
      · obtain rfl : j = 0 := by omega
        refine ⟨_, rfl, rg, _, rfl, .inl ⟨SqL.of hr5, fun r hr => q r (g :: r1) _ (t5.trans (same_new hr)) (t5.free hr) (by rw [← er]; exact upd_same) (.inr ⟨m, r1, rfl, mpos, ⟨y0, hy0, ey0, dy0⟩, fun y' k h1 h2 h3 d => ?_, ?_⟩)⟩⟩
        · have := least (k : Int) ((mlen k).mpr ⟨y', k, rfl, h1, h2, h3, d⟩)
          omega
        · have := ch [] (.nil u)
          rwa [List.append_nil] at this
end
end My

namespace My
open PySem L2
def spSR (K : PySem.W.Frag) : Sp := fun vs H Q _ => ∃ (a : Addr) (y : V) (ns : List Int) (es : Eds), vs = [.ref a, y] ∧ SqS K H a (ns.map V.int) ∧ ns.length ≤ 100 ∧ Edg K H y es ∧
  ∀ r rss H', Same H H' → H r = none → H' r = some (.tup ((rss.foldl pick1 []).map V.int)) → Paired (Rf ns es) ns rss → Q (.ref r) H'
theorem pair_snoc {α β : Type} {F : α → β → Prop} {l : List α} {m : List β} {x : α} {y : β} (h : Paired F l m) (h2 : F x y) : Paired F (l ++ [x]) (m ++ [y]) := by
  induction h with
  | nil => exact .cons h2 .nil
  | cons h r ih => exact .cons h ih
section
variable {P : Program} {w : World} {K : PySem.W.Frag} {mg : Str → Option Value} {base : Heap}
theorem ok_shortest_ring (T : Txt K mg) : FnOk P w K mg base CX0 4 T.a_shortest_ring T.fd_shortest_ring ["nodes", "edges"] (spSR K) := by
  refine T.F_shortest_ring.ok sc_shortest_ring (fun vs H Q E h => ?_) (fun cdv A outer s H vs Q E hr h => ?_)
  · obtain ⟨a, y, ns, es, rfl, _⟩ := h; rfl
  · obtain ⟨a, y, ns, es, rfl, hS, hz, hE, q⟩ := h
    refine ⟨_, (pss_cons (ps_set (i := 2) sc_shortest_ring.nd rfl (.inl rfl) (pe_tup pa_nil))
      (pss_cons (ps_for PassesOwn.never rfl (pi_sqK (K := K) rfl (pv 0)) (pg_name (i := 3) sc_shortest_ring.nd rfl (.inl rfl)) (pss_cons (ps_set (i := 4) sc_shortest_ring.nd rfl (.inl rfl) (pe_call (ok_ring_from T) (hr.mono (by omega)) (by rfl) T.g_ring_from T.F_ring_from.kp T.b_ring_from .nil pass0 (pa_cons (pv 3) (pa_cons (pv 0) (pa_cons (pv 1) pa_nil)))))
      (pss_one (ps_if (PW.pt (pw_and (pt_cmpR op_gt (pe_callB call_len_seq (by rfl) T.n_len (by decide +kernel) (pa_cons (pv 4) pa_nil)) (pe_int) (nomark _)) (pw_and1 (PW.pt (pw_or (pt_cmpR op_eq (pe_callB call_len_seq (by rfl) T.n_len (by decide +kernel) (pa_cons (pv 2) pa_nil)) (pe_int) (nomark _)) (pw_or1 (pt_cmpR op_lt (pe_callB call_len_seq (by rfl) T.n_len (by decide +kernel) (pa_cons (pv 4) pa_nil)) (pe_callB call_len_seq (by rfl) T.n_len (by decide +kernel) (pa_cons (pv 2) pa_nil)) (nomark _)))))))) (pss_one (ps_set (i := 2) sc_shortest_ring.nd rfl (.inl rfl) (pv 4))) pss_nil))))
      (pss_one (ps_ret (pv 2))))), ?_⟩
    refine ⟨Nat.zero_le _, fun b0 hb0 => ?_⟩
    have s1 := same_new (o := .tup ([] : List V)) hb0
    refine ⟨_, rfl, a, rfl, for_sq (K := K) (a := a) (xs := ns.map V.int) (H0 := H) hS (fun i σ H' => ∃ b rss x3 x4, σ = [some (.ref a), some y, some (.ref b), x3, x4] ∧ Same H H' ∧ H b = none ∧ H' b = some (.tup ((rss.foldl pick1 []).map V.int)) ∧ Paired (Rf ns es) (ns.take i) rss)
      ⟨b0, [], _, _, rfl, s1, hb0, upd_same, .nil⟩ (fun i σ H' _ ⟨_, _, _, _, _, s, _⟩ => sqS_same s) ?_ ?_⟩
    · rintro i v σ H2 hv ⟨b, rss, x3, x4, rfl, t2, nb, hb, pr⟩
      obtain ⟨x, hx, rfl⟩ := get_int' hv
      refine ⟨_, rfl, _, rfl, _, rfl, x, a, y, ns, es, rfl, SqS_same hS t2, hz, List.mem_of_getElem? hx, edg_same t2 hE, fun r rs H3 s3 nr hr' rf => ?_⟩
      have t3 := t2.trans s3
      have pr' : Paired (Rf ns es) (ns.take (i + 1)) (rss ++ [rs]) := by rw [List.take_add_one, hx]; exact pair_snoc pr rf
      have hb3 := s3 _ _ hb
      have ef : (rss ++ [rs]).foldl pick1 [] = pick1 (rss.foldl pick1 []) rs := by rw [List.foldl_append]; rfl
      revert hb3 ef
      generalize rss.foldl pick1 [] = bs
      intro hb3 ef
      have keep : ¬ (0 < rs.length ∧ (bs.length = 0 ∨ rs.length < bs.length)) → ∃ b' rss x3 x4, ([some (.ref a), some y, some (.ref b), some (.int x), some (.ref r)] : L2.St) = [some (.ref a), some y, some (.ref b'), x3, x4] ∧ Same H H3 ∧ H b' = none ∧ H3 b' = some (.tup ((rss.foldl pick1 []).map V.int)) ∧ Paired (Rf ns es) (ns.take (i + 1)) rss := fun c =>
        ⟨b, _, _, _, rfl, t3, nb, by rw [ef]; unfold pick1; rw [if_neg c]; exact hb3, pr'⟩
      have take : (0 < rs.length ∧ (bs.length = 0 ∨ rs.length < bs.length)) → ∃ b rss x3 x4, ([some (.ref a), some y, some (.ref r), some (.int x), some (.ref r)] : L2.St) = [some (.ref a), some y, some (.ref b), x3, x4] ∧ Same H H3 ∧ H b = none ∧ H3 b = some (.tup ((rss.foldl pick1 []).map V.int)) ∧ Paired (Rf ns es) (ns.take (i + 1)) rss := fun c =>
        ⟨r, _, _, _, rfl, t3, t2.free nr, by rw [ef]; unfold pick1; rw [if_pos c]; exact hr', pr'⟩
      have l1 : (rs.map V.int).length = rs.length := List.length_map ..
      have l2 : (bs.map V.int).length = bs.length := List.length_map ..
      refine ⟨_, rfl, r, _, rfl, .inr (SqT.of hr'), _, _, rfl, rfl, _, rfl, iteD (fun c1 => ?_) (fun c1 => iteF (keep (fun h => c1 (by omega))))⟩
      refine ⟨_, rfl, b, _, rfl, .inr (SqT.of hb3), rfl, _, rfl, iteD (fun c2 => ?_) (fun c2 => ?_)⟩
      · have := V.int.inj c2
        exact iteT ⟨_, rfl, take ⟨by omega, .inl (by omega)⟩⟩
      · have c2 : bs.length ≠ 0 := fun z => c2 (by rw [l2, z]; rfl)
        refine ⟨_, rfl, r, _, rfl, .inr (SqT.of hr'), _, rfl, b, _, rfl, .inr (SqT.of hb3), _, _, rfl, rfl, _, rfl, iteD (fun c3 => ?_) (fun c3 => ?_)⟩
        · exact ⟨_, rfl, take ⟨by omega, .inr (by omega)⟩⟩
        · exact keep (fun h => by omega)
    · rintro σ H2 ⟨b, rss, x3, x4, rfl, t2, nb, hb, pr⟩
      rw [List.length_map, List.take_length] at pr
      exact ⟨_, rfl, q b rss H2 t2 nb hb pr⟩
end
end My

namespace My
open PySem L2
/-! ### rings by paths: all paths, the least first -/
def lastI (p : List Int) : Int := p.getLastD 0
def headI (p : List Int) : Int := p.headD 0
def extY (ns : List Int) (es : Eds) (p : List Int) : List Int := ns.filter fun y => decide (headI p < y ∧ y ∉ p ∧ (lastI p, y) ∈ es)
def pathsI (ns : List Int) (es : Eds) : Nat → List (List Int)
  | 0 => ns.map fun x => [x]
  | k + 1 => (pathsI ns es k).flatMap fun p => (extY ns es p).map fun y => p ++ [y]
def closeB (es : Eds) (p : List Int) : Bool := decide ((lastI p, headI p) ∈ es)
/-- the answer: the first ring of the first size that has one -/
def ringBy (ns : List Int) (es : Eds) : Nat → Nat → List Int
  | _, 0 => []
  | s, m + 1 => match (pathsI ns es (s - 1)).find? (closeB es) with
    | some p => p
    | none => ringBy ns es (s + 1) m
/-- a path: its nodes, consecutive by edges -/
inductive Pth (es : Eds) : List Int → Prop
  | one (x : Int) : Pth es [x]
  | snoc {p : List Int} {y : Int} : Pth es p → (lastI p, y) ∈ es → Pth es (p ++ [y])
theorem last_snoc (p : List Int) (y : Int) : lastI (p ++ [y]) = y := by unfold lastI; simp
theorem head_snoc {p : List Int} (h : p ≠ []) (y : Int) : headI (p ++ [y]) = headI p := by
  cases p with
  | nil => exact absurd rfl h
  | cons a p => rfl
theorem Pth.ne {es : Eds} {p : List Int} (h : Pth es p) : p ≠ [] := by cases h <;> simp
/-- from each node of a path a walk leads to its last node -/
theorem Pth.walk {es : Eds} {p : List Int} (h : Pth es p) : ∀ (i : Nat) (x : Int), p[i]? = some x → Wl es (p.length - 1 - i) x (lastI p) := by
  induction h with
  | one x =>
    intro i y hy
    cases i with
    | zero => obtain rfl : x = y := by simpa using hy
              exact rfl
    | succ i => simp at hy
  | @snoc p y a e ih =>
    intro i x hx
    have ne := a.ne
    have lp : 0 < p.length := List.length_pos_iff.mpr ne
    rw [last_snoc, List.length_append, List.length_singleton]
    by_cases c : i < p.length
    · rw [List.getElem?_append_left c] at hx
      have := ih i x hx
      rw [show p.length + 1 - 1 - i = (p.length - 1 - i) + 1 by omega]
      exact ⟨_, this, e⟩
    · have ei : i = p.length := by
        have := (List.getElem?_eq_some_iff.mp hx).1
        rw [List.length_append, List.length_singleton] at this
        omega
      subst ei
      obtain rfl : y = x := by simpa using hx
      rw [show p.length + 1 - 1 - p.length = 0 by omega]
      exact rfl
theorem head_at {p : List Int} (h : p ≠ []) : p[0]? = some (headI p) := by
  cases p with
  | nil => exact absurd rfl h
  | cons a p => rfl
structure PI0 (ns : List Int) (es : Eds) (k : Nat) (p : List Int) : Prop where
  pt : Pth es p
  ln : p.length = k + 1
theorem paths_ok {ns : List Int} {es : Eds} : ∀ {k : Nat} {p : List Int}, p ∈ pathsI ns es k → PI0 ns es k p
  | 0, p, h => by
    obtain ⟨x, _, rfl⟩ := List.mem_map.mp h
    exact ⟨.one x, rfl⟩
  | k + 1, p, h => by
    obtain ⟨q, hq, h2⟩ := List.mem_flatMap.mp h
    obtain ⟨y, hy, rfl⟩ := List.mem_map.mp h2
    have I := paths_ok hq
    obtain ⟨_, c⟩ := List.mem_filter.mp hy
    have c := of_decide_eq_true c
    exact ⟨.snoc I.pt c.2.2, by rw [List.length_append, I.ln]; rfl⟩
/-- the first item that p holds of -/
def FstP {α : Type} (l : List α) (P : α → Prop) (x : α) : Prop := ∃ i : Nat, l[i]? = some x ∧ P x ∧ ∀ (j : Nat) (z : α), j < i → l[j]? = some z → ¬ P z
theorem fst_exists {α : Type} {P : α → Prop} : ∀ {l : List α} {x : α}, x ∈ l → P x → ∃ y, FstP l P y
  | a :: l, x, h, px => by
    by_cases c : P a
    · exact ⟨a, 0, rfl, c, fun j z hj => absurd hj (Nat.not_lt_zero _)⟩
    · rcases List.mem_cons.mp h with rfl | h
      · exact absurd px c
      · obtain ⟨y, i, hi, py, no⟩ := fst_exists h px
        refine ⟨y, i + 1, hi, py, fun j z hj hz => ?_⟩
        cases j with
        | zero => obtain rfl : a = z := by simpa using hz
                  exact c
        | succ j => exact no j z (by omega) hz
theorem fst_mem {α : Type} {P : α → Prop} {l : List α} {x : α} (h : FstP l P x) : x ∈ l ∧ P x := ⟨List.mem_of_getElem? h.choose_spec.1, h.choose_spec.2.1⟩
theorem fst_map {α β : Type} {P : β → Prop} {l : List α} {f : α → β} {x : α} (h : FstP l (fun a => P (f a)) x) : FstP (l.map f) P (f x) := by
  obtain ⟨i, hi, px, no⟩ := h
  refine ⟨i, by rw [List.getElem?_map, hi]; rfl, px, fun j z hj hz => ?_⟩
  rw [List.getElem?_map] at hz
  cases e : l[j]? with
  | none => rw [e] at hz; cases hz
  | some a => rw [e] at hz; obtain rfl := Option.some.inj hz; exact no j a hj e
theorem fst_app_right {α : Type} {P : α → Prop} {l m : List α} {x : α} (no : ∀ a ∈ l, ¬ P a) (h : FstP m P x) : FstP (l ++ m) P x := by
  obtain ⟨i, hi, px, nj⟩ := h
  refine ⟨l.length + i, by rw [List.getElem?_append_right (by omega), Nat.add_sub_cancel_left]; exact hi, px, fun j z hj hz => ?_⟩
  by_cases c : j < l.length
  · rw [List.getElem?_append_left c] at hz
    exact no z (List.mem_of_getElem? hz)
  · rw [List.getElem?_append_right (by omega)] at hz
    exact nj (j - l.length) z (by omega) hz
theorem fst_app_left {α : Type} {P : α → Prop} {l m : List α} {x : α} (h : FstP l P x) : FstP (l ++ m) P x := by
  obtain ⟨i, hi, px, nj⟩ := h
  have li := (List.getElem?_eq_some_iff.mp hi).1
  refine ⟨i, by rw [List.getElem?_append_left li]; exact hi, px, fun j z hj hz => ?_⟩
  rw [List.getElem?_append_left (by omega)] at hz
  exact nj j z hj hz
theorem fst_split {α : Type} {P : α → Prop} {l : List α} {x : α} (h : FstP l P x) : ∃ a b, l = a ++ x :: b ∧ (∀ y ∈ a, ¬ P y) := by
  obtain ⟨i, hi, px, no⟩ := h
  have li := (List.getElem?_eq_some_iff.mp hi).1
  refine ⟨l.take i, l.drop (i + 1), ?_, fun y hy => ?_⟩
  · rw [← (List.getElem?_eq_some_iff.mp hi).2, ← List.drop_eq_getElem_cons li, List.take_append_drop]
  · obtain ⟨j, hj⟩ := List.getElem?_of_mem hy
    have lj := (List.getElem?_eq_some_iff.mp hj).1
    rw [List.length_take] at lj
    rw [List.getElem?_take_of_lt (by omega)] at hj
    exact no j y (by omega) hj
/-- of the extensions: the first one of the first item that has one -/
theorem fst_flat {α β : Type} {P : α → Prop} {Q : β → Prop} {l : List α} {f : α → List β} {x : α} {y : β} (hx : FstP l P x) (sub : ∀ a ∈ l, ∀ b ∈ f a, Q b → P a) (hy : FstP (f x) Q y) : FstP (l.flatMap f) Q y := by
  obtain ⟨a, b, rfl, no⟩ := fst_split hx
  rw [List.flatMap_append, List.flatMap_cons]
  refine fst_app_right (fun z hz q => ?_) (fst_app_left hy)
  obtain ⟨u, hu, hz⟩ := List.mem_flatMap.mp hz
  exact no u hu (sub u (List.mem_append_left _ hu) z hz q)
theorem fst_filter {α : Type} {c : α → Bool} {P Q : α → Prop} {l : List α} {x : α} (h : FstP l P x) (hc : ∀ a ∈ l, P a → c a = true ∧ Q a) (hq : ∀ a ∈ l, c a = true → Q a → P a) : FstP (l.filter c) Q x := by
  obtain ⟨a, b, rfl, no⟩ := fst_split h
  have px := (fst_mem h).2
  rw [List.filter_append, List.filter_cons]
  have cx := hc x (by simp) px
  rw [if_pos cx.1]
  refine fst_app_right (fun z hz q => ?_) ⟨0, rfl, cx.2, fun j z hj => absurd hj (Nat.not_lt_zero _)⟩
  obtain ⟨hz, cz⟩ := List.mem_filter.mp hz
  exact no z hz (hq z (by simp [hz]) cz q)
theorem fst_first {ns : List Int} {P : Int → Prop} {x : Int} (h : FstP ns P x) : IsFirst ns P x := h
theorem find_fst {α : Type} {c : α → Bool} {l : List α} {x : α} (h : FstP l (fun a => c a = true) x) : l.find? c = some x := by
  obtain ⟨a, b, rfl, no⟩ := fst_split h
  rw [List.find?_append, List.find?_eq_none.mpr (fun z hz => no z hz), List.find?_cons, (fst_mem h).2]; rfl
section
variable {ns : List Int} {es : Eds} (G : Gr ns es) {L : Nat} (hL : 2 ≤ L) (mn : ∀ L', 2 ≤ L' → L' < L → ∀ x ∈ ns, ¬ Wl es L' x x)
include G hL mn
theorem wl_in {k : Nat} {x y : Int} (h : Wl es k x y) (hx : x ∈ ns) : y ∈ ns := by
  cases k with
  | zero => exact (show x = y from h) ▸ hx
  | succ k => obtain ⟨z, _, e⟩ := h; exact (G.ed _ e).2.1
/-- no closed walk is shorter -/
theorem no_short {k : Nat} {x : Int} (hk : 1 ≤ k) (lt : k < L) (hx : x ∈ ns) : ¬ Wl es k x x := fun w => by
  rcases (by omega : k = 1 ∨ 2 ≤ k) with rfl | h
  · obtain ⟨z, e1, e2⟩ := w
    have e1 : x = z := e1
    exact (G.ed _ e2).2.2 e1.symm
  · exact mn k h lt x hx w
/-- a good beginning: from its last node the rest of a ring of L edges leads back to its first one -/
def GoodP (es : Eds) (L k : Nat) (p : List Int) : Prop := Wl es (L - k) (lastI p) (headI p)
/-- a good beginning goes on, by the first node that leads back -/
theorem good_next {x0 : Int} (h0 : x0 ∈ ns) (first : ∀ y ∈ ns, Wl es L y y → x0 ≤ y) {k : Nat} (hk : k + 1 < L) {p : List Int} (I : PI0 ns es k p) (hd : headI p = x0) (inn : ∀ y ∈ p, y ∈ ns) (g : GoodP es L k p) :
    ∃ y, FstP ns (fun y => (lastI p, y) ∈ es ∧ Wl es (L - (k + 1)) y x0) y ∧ FstP ((extY ns es p).map fun y => p ++ [y]) (GoodP es L (k + 1)) (p ++ [y]) := by
  have ne := I.pt.ne
  have hh := head_at ne
  obtain ⟨y, e, wy⟩ : ∃ y, (lastI p, y) ∈ es ∧ Wl es (L - (k + 1)) y x0 := by
    unfold GoodP at g
    rw [show L - k = (L - (k + 1)) + 1 by omega, hd] at g
    exact Wl.head g
  obtain ⟨y, fy⟩ := fst_exists (l := ns) (P := fun y => (lastI p, y) ∈ es ∧ Wl es (L - (k + 1)) y x0) (G.ed _ e).2.1 ⟨e, wy⟩
  have fine : ∀ a ∈ ns, ((lastI p, a) ∈ es ∧ Wl es (L - (k + 1)) a x0) → decide (headI p < a ∧ a ∉ p ∧ (lastI p, a) ∈ es) = true := fun a ha ⟨e, w⟩ => by
    have off : a ∉ p := fun m => by
      obtain ⟨i, hi⟩ := List.getElem?_of_mem m
      have li := (List.getElem?_eq_some_iff.mp hi).1
      have w2 : Wl es (p.length - 1 - i + 1) a a := ⟨_, I.pt.walk i a hi, e⟩
      refine no_short G hL mn (by omega) ?_ ha w2
      rw [I.ln] at li ⊢; omega
    have full : Wl es L a a := by
      have w1 : Wl es (k + 1) x0 a := by
        have := I.pt.walk 0 x0 (by rw [hh, hd])
        rw [I.ln] at this
        exact ⟨_, this, e⟩
      have := w.app w1
      rwa [show L - (k + 1) + (k + 1) = L by omega] at this
    have le := first a ha full
    have na : a ≠ x0 := fun z => off (by rw [z, ← hd]; exact List.mem_of_getElem? hh)
    rw [hd]
    exact decide_eq_true ⟨by omega, off, e⟩
  refine ⟨y, fy, fst_map (f := fun y => p ++ [y]) (fst_filter fy (fun a ha h => ⟨fine a ha h, ?_⟩) fun a ha c q => ?_)⟩
  · show Wl es (L - (k + 1)) (lastI (p ++ [a])) (headI (p ++ [a]))
    rw [last_snoc, head_snoc ne, hd]; exact h.2
  · have q : Wl es (L - (k + 1)) (lastI (p ++ [a])) (headI (p ++ [a])) := q
    rw [last_snoc, head_snoc ne, hd] at q
    exact ⟨(of_decide_eq_true c).2.2, q⟩
theorem good_back {k : Nat} (hk : k + 1 ≤ L) {p : List Int} (I : PI0 ns es k p) {b : List Int} (hb : b ∈ (extY ns es p).map fun y => p ++ [y]) (q : GoodP es L (k + 1) b) : GoodP es L k p := by
  obtain ⟨y, hy, rfl⟩ := List.mem_map.mp hb
  obtain ⟨_, c⟩ := List.mem_filter.mp hy
  have e := (of_decide_eq_true c).2.2
  have q : Wl es (L - (k + 1)) (lastI (p ++ [y])) (headI (p ++ [y])) := q
  rw [last_snoc, head_snoc I.pt.ne] at q
  show Wl es (L - k) (lastI p) (headI p)
  have := (Wl.one e).app q
  rwa [show 1 + (L - (k + 1)) = L - k by omega] at this
/-- the first good beginnings are one another's beginnings -/
theorem good_chain {x0 : Int} (fx : FstP ns (fun x => Wl es L x x) x0) : ∀ k, k + 1 ≤ L → ∃ p, FstP (pathsI ns es k) (GoodP es L k) p ∧ headI p = x0 ∧ (∀ y ∈ p, y ∈ ns) ∧
    ∃ r, p = x0 :: r ∧ ∀ (m : Nat) (t : List Int), Chain ns (fun j u y => (u, y) ∈ es ∧ Wl es j y x0) m (lastI p) t → m + 1 = L - k → Chain ns (fun j u y => (u, y) ∈ es ∧ Wl es j y x0) (k + m) x0 (r ++ t)
  | 0, _ => by
    refine ⟨[x0], fst_map (f := fun x => [x]) (P := GoodP es L 0) fx, rfl, fun y hy => ?_, [], rfl, fun m t c _ => ?_⟩
    · rw [List.mem_singleton.mp hy]; exact (fst_mem fx).1
    · rw [Nat.zero_add]; exact c
  | k + 1, hk => by
    obtain ⟨p, fp, hd, inn, r, er, ch⟩ := good_chain fx k (by omega)
    have up : ∀ y ∈ ns, Wl es L y y → x0 ≤ y := fun y hy w => by
      obtain ⟨i, hi, _, no⟩ := fx
      obtain ⟨j, hj⟩ := List.getElem?_of_mem hy
      rcases Nat.lt_or_ge j i with l | l
      · exact absurd w (no j y l hj)
      · obtain ⟨a1, a2⟩ := List.getElem?_eq_some_iff.mp hi
        obtain ⟨b1, b2⟩ := List.getElem?_eq_some_iff.mp hj
        rcases Nat.lt_or_eq_of_le l with l | rfl
        · have := List.pairwise_iff_getElem.mp G.up i j a1 b1 l
          omega
        · omega
    have I := paths_ok (fst_mem fp).1
    obtain ⟨y, fy, fe⟩ := good_next G hL mn (fst_mem fx).1 up (k := k) (by omega) I hd inn (fst_mem fp).2
    refine ⟨p ++ [y], fst_flat fp (fun a ha b hb q => good_back G hL mn (by omega) (paths_ok ha) hb q) fe, by rw [head_snoc I.pt.ne, hd], fun z hz => ?_, r ++ [y], by rw [er]; rfl, fun m t c hm => ?_⟩
    · rcases List.mem_append.mp hz with h | h
      · exact inn z h
      · rw [List.mem_singleton.mp h]; exact (fst_mem fy).1
    · rw [last_snoc] at c
      have := ch (m + 1) (y :: t) (.cons (fst_first (by rw [show m + 1 = L - (k + 1) by omega]; exact fy)) c) (by omega)
      rwa [List.append_assoc, show k + 1 + m = k + (m + 1) by omega]
theorem ring_size : (∃ x ∈ ns, Wl es L x x) → ∃ (x : Int) (r : List Int), (pathsI ns es (L - 1)).find? (closeB es) = some (x :: r) ∧ IsFirst ns (fun x => Wl es L x x) x ∧ Chain ns (fun k u y => (u, y) ∈ es ∧ Wl es k y x) (L - 1) x r := by
  rintro ⟨x, hx, w⟩
  obtain ⟨x0, fx⟩ := fst_exists (l := ns) (P := fun x => Wl es L x x) hx w
  obtain ⟨p, fp, hd, _, r, er, ch⟩ := good_chain G hL mn fx (L - 1) (by omega)
  have one : ∀ q, GoodP es L (L - 1) q ↔ closeB es q = true := fun q => by
    unfold GoodP closeB
    rw [show L - (L - 1) = 1 by omega, decide_eq_true_iff]
    exact ⟨fun ⟨z, e1, e2⟩ => by rw [show lastI q = z from e1]; exact e2, fun e => Wl.one e⟩
  refine ⟨x0, r, ?_, fst_first fx, ?_⟩
  · rw [← er]
    refine find_fst ?_
    obtain ⟨i, a, b, c⟩ := fp
    exact ⟨i, a, (one p).mp b, fun j z hj hz q => c j z hj hz ((one z).mpr q)⟩
  · have := ch 0 [] (.nil _) (by omega)
    rwa [List.append_nil, Nat.add_zero] at this
theorem ring_none (h : ¬ ∃ x ∈ ns, Wl es L x x) : (pathsI ns es (L - 1)).find? (closeB es) = none := by
  rw [List.find?_eq_none]
  intro p hp c
  have I := paths_ok hp
  have e := of_decide_eq_true c
  have w := I.pt.walk 0 (headI p) (head_at I.pt.ne)
  rw [I.ln] at w
  have w2 : Wl es L (headI p) (headI p) := by
    have : Wl es (L - 1 + 1 - 1 - 0 + 1) (headI p) (headI p) := ⟨_, w, e⟩
    rwa [show L - 1 + 1 - 1 - 0 + 1 = L by omega] at this
  exact h ⟨_, (G.ed _ e).2.1, w2⟩
end
/-- the least ring by paths is the law's least ring -/
theorem ringBy_Lr {ns : List Int} {es : Eds} (G : Gr ns es) : ∀ (m s : Nat), 2 ≤ s → s + m = ns.length + 1 → (∀ L', 2 ≤ L' → L' < s → ∀ x ∈ ns, ¬ Wl es L' x x) → Lr ns es (ringBy ns es s m)
  | 0, s, hs, e, mn => .inl ⟨rfl, fun L h1 h2 x hx => mn L h1 (by omega) x hx⟩
  | m + 1, s, hs, e, mn => by
    by_cases c : ∃ x ∈ ns, Wl es s x x
    · obtain ⟨x, r, hf, fs, ch⟩ := ring_size G hs mn c
      unfold ringBy
      rw [hf]
      exact .inr ⟨s, x, r, rfl, hs, by omega, fs, mn, ch⟩
    · unfold ringBy
      rw [ring_none G hs mn c]
      refine ringBy_Lr G m (s + 1) (by omega) (by omega) fun L' h1 h2 x hx w => ?_
      rcases Nat.lt_or_eq_of_le (Nat.le_of_lt_succ h2) with l | rfl
      · exact mn L' h1 l x hx w
      · exact c ⟨x, hx, w⟩
end My

namespace My
open PySem L2
/-! ### names anew; one thing more; holders in order -/
def ren (f : Int → Int) (ev : List Ev) : List Ev := ev.map fun e => (f e.1, e.2)
theorem ren_take (f : Int → Int) (ev : List Ev) (i : Nat) : (ren f ev).take i = ren f (ev.take i) := by unfold ren; rw [List.map_take]
theorem ren_len (f : Int → Int) (ev : List Ev) : (ren f ev).length = ev.length := by unfold ren; rw [List.length_map]
theorem ren_app (f : Int → Int) (ev : List Ev) (e : Ev) : ren f (ev ++ [e]) = ren f ev ++ [(f e.1, e.2)] := by unfold ren; rw [List.map_append]; rfl
theorem ren_steps {f : Int → Int} {S : Int → Prop} (inj : ∀ a b, S a → S b → f a = f b → a = b) {n : Int} (hn : S n) : ∀ {ev : List Ev}, (∀ e ∈ ev, S e.1) → stepsOf (ren f ev) (f n) = stepsOf ev n
  | [], _ => rfl
  | e :: ev, h => by
    have ih := ren_steps inj hn (ev := ev) fun x hx => h x (List.mem_cons_of_mem _ hx)
    unfold stepsOf ren at ih ⊢
    rw [List.map_cons, List.filter_cons, List.filter_cons]
    by_cases c : e.1 = n
    · rw [if_pos (decide_eq_true (by rw [c])), if_pos (decide_eq_true c), List.map_cons, List.map_cons, ih]
    · rw [if_neg (by rw [decide_eq_true_iff]; exact fun z => c (inj _ _ (h e List.mem_cons_self) hn z)), if_neg (by rw [decide_eq_true_iff]; exact c), ih]
theorem ren_tr {f : Int → Int} {S : Int → Prop} (inj : ∀ a b, S a → S b → f a = f b → a = b) {n : Int} (hn : S n) {ev : List Ev} (h : ∀ e ∈ ev, S e.1) : trOf (ren f ev) (f n) = trOf ev n := by
  unfold trOf; rw [ren_steps inj hn h]
theorem ren_done {f : Int → Int} {S : Int → Prop} (inj : ∀ a b, S a → S b → f a = f b → a = b) {ts : List Th} {rs : List Row} {ev : List Ev} (d : EvDone ts rs ev) : (∀ e ∈ ev, S e.1) → EvDone ts rs (ren f ev) := by
  induction d with
  | nil => intro _; exact .nil
  | @snoc ev e a b ih =>
    intro h
    have h1 : ∀ x ∈ ev, S x.1 := fun x hx => h x (List.mem_append_left _ hx)
    have he : S e.1 := h e (by simp)
    rw [ren_app]
    refine .snoc (ih h1) ⟨?_, fun nd m hm => ?_⟩
    · show dueS ts rs (trOf (ren f ev) (f e.1)) e.2.1 e.2.2 = none
      rw [ren_tr inj he h1]; exact b.1
    · obtain ⟨x, hx, rfl⟩ := names_mem.mp hm
      unfold ren at hx
      obtain ⟨y, hy, rfl⟩ := List.mem_map.mp hx
      rintro ⟨ne, q, hq, c⟩
      have hq : q ∈ holdH (ren f ev) e.2.2 (f y.1) := hq
      refine b.2 nd y.1 (names_mem.mpr ⟨y, hy, rfl⟩) ⟨fun z => ne (by show f y.1 = f e.1; rw [z]), ?_⟩
      unfold holdH at hq ⊢
      rw [ren_tr inj (h1 y hy) h1] at hq
      cases k : heldAt (trOf ev y.1) e.2.2 with
      | none => rw [k] at hq; cases hq
      | some k' =>
        rw [k] at hq
        obtain rfl := List.mem_singleton.mp hq
        exact ⟨_, List.mem_singleton.mpr rfl, c⟩
theorem sorted_eq : ∀ {l m : List Int}, l.Perm m → l.Pairwise (· ≤ ·) → m.Pairwise (· ≤ ·) → l = m
  | [], m, p, _, _ => p.nil_eq
  | a :: l, [], p, _, _ => absurd p.length_eq (by simp)
  | a :: l, b :: m, p, h1, h2 => by
    have g1 := List.pairwise_cons.mp h1
    have g2 := List.pairwise_cons.mp h2
    have ab : a ≤ b := by
      rcases List.mem_cons.mp (p.mem_iff.mpr List.mem_cons_self : b ∈ a :: l) with e | e
      · rw [e]; exact Int.le_refl _
      · exact g1.1 b e
    have ba : b ≤ a := by
      rcases List.mem_cons.mp (p.mem_iff.mp List.mem_cons_self : a ∈ b :: m) with e | e
      · rw [e]; exact Int.le_refl _
      · exact g2.1 a e
    obtain rfl : a = b := Int.le_antisymm ab ba
    rw [sorted_eq p.cons_inv g1.2 g2.2]
end My

namespace My
open PySem L2
/-! ### rings see the edges between their nodes alone -/
section
variable {ns : List Int} {es es' : Eds} (he : ∀ x y, y ∈ ns → ((x, y) ∈ es ↔ (x, y) ∈ es'))
include he
theorem wr_to {g : Int} (hg : g ∈ ns) : ∀ {k : Nat} {x : Int}, Wr ns es g k x ↔ Wr ns es' g k x
  | 0, x => Iff.rfl
  | k + 1, x => by
    have tgt : ∀ {E : Eds} {y : Int}, Wr ns E g k y → y ∈ ns := fun {E y} h => by
      cases k with
      | zero => rw [show y = g from h]; exact hg
      | succ k => exact h.1
    constructor
    · rintro ⟨a, b, y, e, w⟩
      exact ⟨a, b, y, (he x y (tgt w)).mp e, (wr_to hg).mp w⟩
    · rintro ⟨a, b, y, e, w⟩
      exact ⟨a, b, y, (he x y (tgt w)).mpr e, (wr_to hg).mpr w⟩
theorem ds_to {g : Int} (hg : g ∈ ns) {k : Nat} {x : Int} : Ds ns es g k x ↔ Ds ns es' g k x := by
  unfold Ds
  constructor
  · rintro ⟨a, b⟩; exact ⟨(wr_to he hg).mp a, fun j hj h => b j hj ((wr_to he hg).mpr h)⟩
  · rintro ⟨a, b⟩; exact ⟨(wr_to he hg).mpr a, fun j hj h => b j hj ((wr_to he hg).mp h)⟩
omit he in
theorem first_to {p q : Int → Prop} {y : Int} (h : IsFirst ns p y) (e : ∀ x ∈ ns, p x ↔ q x) : IsFirst ns q y := by
  obtain ⟨i, hi, py, ni⟩ := h
  exact ⟨i, hi, (e y (List.mem_of_getElem? hi)).mp py, fun j z hj hz c => ni j z hj hz ((e z (List.mem_of_getElem? hz)).mpr c)⟩
omit he in
theorem chain_to {p q : Nat → Int → Int → Prop} (e : ∀ k x y, y ∈ ns → (p k x y ↔ q k x y)) : ∀ {k : Nat} {x : Int} {r : List Int}, Chain ns p k x r → Chain ns q k x r
  | _, _, _, .nil x => .nil x
  | _, _, _, .cons h t => .cons (first_to h fun y hy => e _ _ y hy) (chain_to e t)
theorem rf_to {g : Int} (hg : g ∈ ns) {r : List Int} (h : Rf ns es g r) : Rf ns es' g r := by
  rcases h with ⟨rfl, no⟩ | ⟨m, r, rfl, m0, ⟨y, hy, e, d⟩, mn, ch⟩
  · exact .inl ⟨rfl, fun y k hy ne e d => no y k hy ne ((he g y hy).mpr e) ((ds_to he hg).mpr d)⟩
  · exact .inr ⟨m, r, rfl, m0, ⟨y, hy, (he g y hy).mp e, (ds_to he hg).mp d⟩, fun y k hy ne e d => mn y k hy ne ((he g y hy).mpr e) ((ds_to he hg).mpr d), chain_to (fun k x y hy => by rw [ds_to he hg, he x y hy]) ch⟩
theorem ext_to (p : List Int) : extY ns es p = extY ns es' p := by
  unfold extY
  exact List.filter_congr fun y hy => decide_eq_decide.mpr ⟨fun ⟨a, b, c⟩ => ⟨a, b, (he _ y hy).mp c⟩, fun ⟨a, b, c⟩ => ⟨a, b, (he _ y hy).mpr c⟩⟩
theorem paths_to : ∀ k, pathsI ns es k = pathsI ns es' k
  | 0 => rfl
  | k + 1 => by
    unfold pathsI
    rw [paths_to k]
    exact congrArg (fun f => List.flatMap f (pathsI ns es' k)) (funext fun p => by rw [ext_to he p])
omit he in
theorem head_in : ∀ {k : Nat} {p : List Int}, p ∈ pathsI ns es k → p ≠ [] ∧ headI p ∈ ns
  | 0, p, h => by
    obtain ⟨x, hx, rfl⟩ := List.mem_map.mp h
    exact ⟨by simp, hx⟩
  | k + 1, p, h => by
    obtain ⟨q, hq, h⟩ := List.mem_flatMap.mp h
    obtain ⟨y, _, rfl⟩ := List.mem_map.mp h
    obtain ⟨nq, hh⟩ := head_in hq
    exact ⟨by simp, by rw [head_snoc nq]; exact hh⟩
omit he in
theorem find_congr {α : Type} {f g : α → Bool} : ∀ {l : List α}, (∀ x ∈ l, f x = g x) → l.find? f = l.find? g
  | [], _ => rfl
  | a :: l, h => by
    rw [List.find?_cons, List.find?_cons, h a (by simp), find_congr fun x hx => h x (by simp [hx])]
theorem ring_to : ∀ s m, ringBy ns es s m = ringBy ns es' s m
  | _, 0 => rfl
  | s, m + 1 => by
    unfold ringBy
    rw [paths_to he, find_congr (g := closeB es') fun p hp => ?_, ring_to (s + 1) m]
    exact decide_eq_decide.mpr (he _ _ (head_in hp).2)
end
theorem paired_to {ns : List Int} {es es' : Eds} (he : ∀ x y, y ∈ ns → ((x, y) ∈ es ↔ (x, y) ∈ es')) {rss : List (List Int)} : ∀ {l : List Int}, (∀ g ∈ l, g ∈ ns) → Paired (Rf ns es) l rss → Paired (Rf ns es') l rss := fun {l} hl h => by
  induction h with
  | nil => exact .nil
  | cons a t ih => exact .cons (rf_to he (hl _ (by simp)) a) (ih fun g hg => hl g (by simp [hg]))
/-- the two rings are one: nodes alike, edges alike -/
theorem rings_one {ns : List Int} {es es' : Eds} {rss : List (List Int)} (up : ns.Pairwise (· < ·)) (ed : ∀ e ∈ es', e.1 ∈ ns ∧ e.1 ≠ e.2) (he : ∀ x y, (x, y) ∈ es ↔ (x, y) ∈ es') (h : Paired (Rf ns es) ns rss) : rss.foldl pick1 [] = ringBy ns es' 2 (ns.length - 1) := by
  have hf : ∀ x y, y ∈ ns → ((x, y) ∈ es' ↔ (x, y) ∈ es'.filter fun e => decide (e.2 ∈ ns)) := fun x y hy => by
    rw [List.mem_filter]; simp [hy]
  have G : Gr ns (es'.filter fun e => decide (e.2 ∈ ns)) := ⟨up, fun e he => by
    obtain ⟨a, b⟩ := List.mem_filter.mp he
    exact ⟨(ed e a).1, by simpa using b, (ed e a).2⟩⟩
  rw [ring_to hf]
  refine ring_eq G (paired_to (fun x y hy => (he x y).trans (hf x y hy)) (fun g hg => hg) h) ?_
  cases e : ns.length with
  | zero =>
    obtain rfl := List.eq_nil_of_length_eq_zero e
    exact .inl ⟨rfl, fun L _ h2 => by simp at h2; omega⟩
  | succ n => exact ringBy_Lr G _ 2 (Nat.le_refl _) (by omega) fun L' h1 h2 => by omega
end My

namespace My
open PySem L2
def wantEd (ev wn : List Ev) (a b : Int) : Prop := ∃ q ∈ wn, q.1 = a ∧ b ≠ a ∧ ∃ h ∈ holdH ev q.2.2 b, h.2 = "own" ∨ q.2.1 = "own"
def spWaits (K : PySem.W.Frag) (C Cst Cw Cs NT : Addr) : Sp := fun vs H Q E => ∃ (y p w e s l g x wl wm : Addr) (us : List V) (ev wn : List Ev) (ts : List Th) (rs : List Row) (Z : Addr → Prop), vs = [.ref y, .ref p] ∧ WvO Z C Cst H y w e s l g ev ∧ EvOk ts rs ev ∧ OnW Cw Cs H w x wl wm ts rs ∧ (namesOf ev).length < 64 ∧ ts.length ≤ 1000 ∧
  H p = some (.lst us) ∧ Paired (EvAt H) us wn ∧ wn.length ≤ 20 ∧
  ((∀ q ∈ wn, inW ts q.2.2) → ∀ (ns : List Int) (es : Eds) (rss : List (List Int)) r H', ns.Perm (namesOf wn) → ns.Pairwise (· ≤ ·) → (∀ a b, (a, b) ∈ es ↔ wantEd ev wn a b) → Paired (Rf ns es) ns rss → Same H H' → H r = none → H' r = some (.tup ((rss.foldl pick1 []).map V.int)) → Q (.ref r) H') ∧
  (∀ i q, wn[i]? = some q → ¬ inW ts q.2.2 → (∀ q' ∈ wn.take i, inW ts q'.2.2) → ErrS NT "thing" (.int q.2.2) H E)
theorem yes_i {σ : St} {H : Hp} {Q : Bool → Hp → Prop} (h : Q true H) : tYes σ H Q := h
theorem addE_mem {eg : List (Int × Int)} {p q : Int × Int} : q ∈ addE eg p ↔ q ∈ eg ∨ q = p := by
  unfold addE
  split
  · rename_i c
    exact ⟨.inl, fun h => h.elim id fun e => e ▸ c⟩
  · rw [List.mem_append, List.mem_singleton]
theorem names_le (ev : List Ev) : (namesOf ev).length ≤ ev.length := by
  have go : ∀ (l : List Ev) (acc : List Int), (l.foldl (fun acc e => addN acc e.1) acc).length ≤ acc.length + l.length := fun l => by
    induction l with
    | nil => intro acc; exact Nat.le_refl _
    | cons e l ih =>
      intro acc
      have h := ih (addN acc e.1)
      have : (addN acc e.1).length ≤ acc.length + 1 := by
        unfold addN
        split
        · omega
        · simp
      rw [List.foldl_cons, List.length_cons]; omega
  exact Nat.le_trans (go ev []) (by simp)
theorem names_take {ev : List Ev} {i : Nat} {e : Ev} (h : ev[i]? = some e) : namesOf (ev.take (i + 1)) = addN (namesOf (ev.take i)) e.1 := by
  rw [List.take_add_one, h, Option.toList_some, names_snoc]
theorem hold_len (ev : List Ev) (t n : Int) : (holdH ev t n).length ≤ 1 := by
  unfold holdH
  cases heldAt (trOf ev n) t <;> simp
theorem hold_in {ev : List Ev} {t n : Int} {h : Hm} (m : h ∈ holdH ev t n) : n ∈ namesOf ev := by
  by_cases c : n ∈ namesOf ev
  · exact c
  · unfold holdH at m
    rw [tr_none c] at m
    cases m
theorem want_take {ev wn : List Ev} {i : Nat} {q : Ev} (h : wn[i]? = some q) (a b : Int) : wantEd ev (wn.take (i + 1)) a b ↔ wantEd ev (wn.take i) a b ∨ (a = q.1 ∧ b ≠ a ∧ ∃ o ∈ holdH ev q.2.2 b, o.2 = "own" ∨ q.2.1 = "own") := by
  unfold wantEd
  rw [List.take_add_one, h, Option.toList_some]
  constructor
  · rintro ⟨r, hr, e, rest⟩
    rcases List.mem_append.mp hr with hr | hr
    · exact .inl ⟨r, hr, e, rest⟩
    · rw [List.mem_singleton.mp hr] at e rest
      exact .inr ⟨e.symm, rest⟩
  · rintro (⟨r, hr, rest⟩ | ⟨e, rest⟩)
    · exact ⟨r, List.mem_append_left _ hr, rest⟩
    · exact ⟨q, by simp, e.symm, rest⟩
theorem flat_one {α β : Type} {f : α → List β} (h : ∀ x, (f x).length ≤ 1) : ∀ l : List α, (l.flatMap f).length ≤ l.length
  | [] => Nat.le_refl _
  | x :: l => by
    rw [List.flatMap_cons, List.length_append, List.length_cons]
    have := h x
    have := flat_one h l
    omega
section
variable {w : World} {K : PySem.W.Frag} {mg : Str → Option Value} {base : Heap}
set_option maxHeartbeats 16000000 in
set_option pp.maxSteps 2900 in
theorem ok_waits (T : Txt K mg) : FnOk PP w K mg base (L2.CX PP w) 12 T.a_waits T.fd_waits ["weaving", "wants"] (spWaits K T.c_Weaving T.c_Standing T.c_Web T.c_Shape T.c_NoThing) := by
  refine T.F_waits.okX sc_waits (fun vs H Q E h => ?_) (fun cdv A outer s H vs Q E hr h => ?_)
  · obtain ⟨y, p, w, e, s, l, g, x, wl, wm, us, ev, wn, ts, rs, Z, rfl, _⟩ := h; rfl
  · obtain ⟨y, p, wa, e, sa, l, g, x, wl, wm, us, ev, wn, ts, rs, Z, rfl, W, ok, O, ln, lt, hp, pw, lw, q, qe⟩ := h
    refine ⟨_, (pss_cons (ps_set (i := 2) sc_waits.nd rfl (.inl rfl) (pe_lst pa_nil))
      (pss_cons (ps_set (i := 3) sc_waits.nd rfl (.inl rfl) (pe_dnewT))
      (pss_cons (ps_for (passes_of rfl) rfl (pi_list (pv 1)) (pg_tup rfl (pgs_cons (pg_name (i := 4) sc_waits.nd rfl (.inl rfl)) (pgs_cons (pg_name (i := 5) sc_waits.nd rfl (.inl rfl)) pgs_nil))) (C8.pss_cut (ps_if (pt_cmpR op_notIn_seq (pv 4) (pv 2) (by with_unfolding_all rfl)) (pss_one (ps_expr (pe_bm PySem.F.plainAttrs_list PySem.F.slot_list_append PySem.F.type_list_append mt_append (pv 2) (pa_cons (pv 4) pa_nil)))) pss_nil)
      (pss_one (ps_for (passes_of rfl) rfl (pi_tup (pe_meth (pv 0) T.cl_Weaving T.m_Weaving_holders (ok_Weaving_holders T) (hr.mono (by omega)) T.b_Weaving_holders .nil (passes_call (takes_of rfl rfl rfl rfl) (fun _ _ _ _ h => h)) (pa_cons (pe_ix ix_tup (pv 5) (pe_int) (fun _ _ => rfl)) pa_nil))) (pg_tup rfl (pgs_cons (pg_name (i := 6) sc_waits.nd rfl (.inl rfl)) (pgs_cons (pg_name (i := 7) sc_waits.nd rfl (.inl rfl)) pgs_nil))) (pss_one (ps_if (PW.pt (pw_and (pt_cmpR op_ne (pv 6) (pv 4) (nomark _)) (pw_and1 (pt_cmpR op_in_seq (pe_str) (pe_tup (pa_cons (pv 7) (pa_cons (pe_ix ix_tup (pv 5) (pe_int) (fun _ _ => rfl)) pa_nil))) (by with_unfolding_all rfl))))) (pss_one (ps_dput (hu_of hr) (pv 3) (pe_tup (pa_cons (pv 4) (pa_cons (pv 6) pa_nil))) (pe_bl) rfl)) pss_nil))))))
      (pss_one (ps_ret (pe_call (ok_shortest_ring T) (hr.mono (by omega)) (by rfl) T.g_shortest_ring T.F_shortest_ring.kp T.b_shortest_ring .nil pass0 (pa_cons (pe_callB cr_sorted (by rfl) T.n_sorted (by decide +kernel) (pa_cons (pe_lc (own := [("name", 4)]) (g := (gName 4)) (by rfl) sc_waits.nd (pi_list (pv 2)) (blkOk_by (own := [("name", 4)]) (N := ["weaving", "wants", "names", "edges", "name", "step", "holder", "mode"]) (sc := defScope S_waits) (by decide +kernel)) (fun _ _ _ _ _ => (pg_name (i := 4) sc_waits.nd rfl (by first | exact .inl rfl | exact .inr rfl))) (fun _ _ _ _ _ => pts_nil) (fun _ _ _ _ _ => (pe_callTy call_int1 (by rfl) T.n_int (by decide +kernel) (pa_cons (pv 4) pa_nil)))) pa_nil)) (pa_cons (pv 3) pa_nil)))))))), ?_⟩
    have big : 100000 < sizeLine := by decide
    refine ⟨Nat.zero_le _, fun N nN => ?_⟩
    have s1 := same_new (o := .lst []) nN
    have hN0 : (upd H N (.lst [])) N = some (.lst []) := upd_same
    refine fun Dd nD => ?_
    have s2 := s1.trans (same_new (o := .dT []) nD)
    have nDN : Dd ≠ N := fun e => by rw [e, hN0] at nD; cases nD
    have hN1 := same_new (o := .dT []) nD _ _ hN0
    have nD0 := s1.free nD
    refine ⟨_, rfl, p, rfl, ⟨_, SqL.of (s2 _ _ hp)⟩, for_list (K := K) (a := p) (xs := us) (fun i σ H' => ∃ (x4 x5 x6 x7 : Option V) (es : Eds), σ = [some (.ref y), some (.ref p), some (.ref N), some (.ref Dd), x4, x5, x6, x7] ∧ Same H H' ∧ H' N = some (.lst ((namesOf (wn.take i)).map V.int)) ∧ H' Dd = some (.dT (egK es)) ∧ (∀ a b, (a, b) ∈ es ↔ wantEd ev (wn.take i) a b) ∧ es.length ≤ i * 64 ∧ ∀ q ∈ wn.take i, inW ts q.2.2) ⟨_, _, _, _, [], rfl, s2, hN1, upd_same, (fun a b => ⟨(fun h => nomatch h), (fun ⟨q, h, _⟩ => nomatch h)⟩), Nat.zero_le _, (fun _ h => nomatch h)⟩ (fun i σ H' _ ⟨_, _, _, _, _, _, b, _⟩ => SqL.of (b _ _ hp)) ?_ ?_⟩
    · rintro i v σ H1 hv ⟨x4, x5, x6, x7, es, rfl, b1, h1N, h1D, hes, les, hin⟩
      obtain ⟨q0, hq0, pq, qa, rfl, hpq, hqa⟩ := pair_get' pw hv
      have hi := (List.getElem?_eq_some_iff.mp hq0).1
      have nl := names_le (wn.take i)
      rw [List.length_take] at nl
      refine ⟨pq, _, rfl, SqT.of (b1 _ _ hpq), rfl, _, _, rfl, _, _, rfl, rfl, ?_⟩
      refine ⟨fun σ' H' => σ' = [some (.ref y), some (.ref p), some (.ref N), some (.ref Dd), some (.int q0.1), some (.ref qa), x6, x7] ∧ Same H H' ∧ H' N = some (.lst ((namesOf (wn.take (i + 1))).map V.int)) ∧ H' Dd = some (.dT (egK es)), ?_, ?_⟩
      · refine ⟨_, rfl, _, rfl, N, _, rfl, .inl (SqL.of h1N), rfl, flat_ints _, _, rfl, iteB (fun c => ?_) (fun c => ?_)⟩
        · have c : q0.1 ∉ namesOf (wn.take i) := by simpa [in_ints] using c
          refine ⟨_, rfl, .inl ⟨rfl, _, SqL.of h1N⟩, _, rfl, _, _, _, rfl, rfl, h1N, by rw [List.length_map]; omega, rfl, same_mut b1 nN, ?_, by rw [upd_ne nDN]; exact h1D⟩
          rw [upd_same, names_take hq0]
          unfold addN
          rw [if_neg c, ints_app]
        · have c : q0.1 ∈ namesOf (wn.take i) := by simpa [in_ints] using c
          refine ⟨rfl, b1, ?_, h1D⟩
          rw [names_take hq0]
          unfold addN
          rw [if_pos c]; exact h1N
      rintro σ' H2 ⟨rfl, b2, h2N, h2D⟩
      have hq2 := b2 _ _ hqa
      obtain ⟨dy, hy⟩ := W.obj
      refine ⟨_, rfl, y, dy, _, rfl, b2 _ _ hy, rfl, _, rfl, _, _, _, _, rfl, rfl, SqT.of hq2, atI_nat (j := 1) rfl, y, wa, e, sa, l, g, x, wl, wm, q0.2.2, ev, ts, rs, Z, rfl, W.same b2, ok, O.same b2, ln, lt, fun inw ns u vs H3 pm so s3 nu hu pu => ?_, fun niw H' d s' nd hd => qe i q0 hq0 niw hin H' d (b2.trans s') (b2.free nd) hd⟩
      have lvs := pair_len' pu
      have lns : ns.length < 64 := by rw [pm.length_eq]; exact ln
      have lhs : (ns.flatMap (holdH ev q0.2.2)).length ≤ ns.length := flat_one (hold_len ev q0.2.2) ns
      have b3 := b2.trans s3
      have h3D := s3 _ _ h2D
      have nuD : u ≠ Dd := (ne_of_none h2D nu).symm
      have nuN : u ≠ N := (ne_of_none h2N nu).symm
      generalize eL : ns.flatMap (holdH ev q0.2.2) = LS at pu lvs lhs
      refine ⟨u, rfl, ⟨_, SqT.of hu⟩, for_tup (K := K) (a := u) (xs := vs) (fun k σ H' => ∃ (x6 x7 : Option V) (es2 : Eds), σ = [some (.ref y), some (.ref p), some (.ref N), some (.ref Dd), some (.int q0.1), some (.ref qa), x6, x7] ∧ But Dd H3 H' ∧ H' Dd = some (.dT (egK es2)) ∧ (∀ a b, (a, b) ∈ es2 ↔ (a, b) ∈ es ∨ (a = q0.1 ∧ b ≠ a ∧ ∃ o ∈ LS.take k, o.1 = b ∧ (o.2 = "own" ∨ q0.2.1 = "own"))) ∧ es2.length ≤ es.length + k) ⟨_, _, es, rfl, But.refl _ _, h3D, (fun a b => ⟨.inl, fun h => h.elim id (fun ⟨_, _, o, m, _⟩ => by rw [List.take_zero] at m; cases m)⟩), Nat.le_refl _⟩ (fun k σ H' _ ⟨_, _, _, _, b, _⟩ => SqT.of (b _ _ nuD hu)) ?_ ?_⟩
      · rintro k v σ H4 hv ⟨x6, x7, es2, rfl, b4, h4D, hes2, les2⟩
        obtain ⟨o, ho, po, rfl, hpo⟩ := pair_get' pu hv
        have hk := (List.getElem?_eq_some_iff.mp ho).1
        have npo : po ≠ Dd := fun e => by rw [e, h3D] at hpo; cases hpo
        have nqa : qa ≠ Dd := fun e => by rw [e, nD0] at hqa; cases hqa
        have h4q := b4 _ _ nqa (b3 _ _ hqa)
        have tk : LS.take (k + 1) = LS.take k ++ [o] := by rw [List.take_add_one, ho, Option.toList_some]
        have stay : (¬ (o.1 ≠ q0.1 ∧ (o.2 = "own" ∨ q0.2.1 = "own"))) → ∀ a b, (a, b) ∈ es2 ↔ (a, b) ∈ es ∨ (a = q0.1 ∧ b ≠ a ∧ ∃ o ∈ LS.take (k + 1), o.1 = b ∧ (o.2 = "own" ∨ q0.2.1 = "own")) := fun no a b => by
          rw [hes2 a b, tk]
          refine or_congr Iff.rfl ⟨fun ⟨e1, e2, o', m, r⟩ => ⟨e1, e2, o', List.mem_append_left _ m, r⟩, fun ⟨e1, e2, o', m, r⟩ => ?_⟩
          rcases List.mem_append.mp m with m | m
          · exact ⟨e1, e2, o', m, r⟩
          · rw [List.mem_singleton.mp m] at r
            exact absurd ⟨fun z => e2 (by rw [← r.1, e1, z]), r.2⟩ no
        refine ⟨po, _, rfl, SqT.of (b4 _ _ npo hpo), rfl, _, _, rfl, _, _, rfl, rfl, ?_⟩
        refine ⟨_, rfl, _, rfl, rfl, _, rfl, iteB (fun c => ?_) (fun c => iteNo rfl ⟨_, _, es2, rfl, b4, h4D, stay (fun z => z.1 (by simpa using c)), by omega⟩)⟩
        have c : o.1 ≠ q0.1 := by simpa using c
        refine ⟨_, rfl, _, rfl, _, _, _, _, rfl, rfl, SqT.of h4q, atI_nat (j := 0) rfl, by show 2 ≤ sizeLine; decide, fun u2 nu2 => ⟨u2, _, rfl, .inr (SqT.of upd_same), rfl, flat_strs [o.2, q0.2.1], _, rfl, iteB (fun c2 => ?_) (fun c2 => ?_)⟩⟩
        · have c2 : o.2 = "own" ∨ q0.2.1 = "own" := by
            rw [if_neg Bool.false_ne_true, show ([V.str o.2, V.str q0.2.1] : List V) = [o.2, q0.2.1].map V.str from rfl, in_strs, decide_eq_true_iff] at c2
            simp only [List.mem_cons, List.not_mem_nil, or_false] at c2
            exact c2.imp Eq.symm Eq.symm
          have s5 := same_new (o := .tup [.str o.2, .str q0.2.1]) nu2
          have h5D := s5 _ _ h4D
          refine ⟨_, rfl, _, rfl, _, rfl, by show 2 ≤ sizeLine; decide, fun kk nk => ?_⟩
          have s6 := same_new (o := .tup [.int q0.1, .int o.1]) nk
          have le2 : (egK es2).length ≤ 100000 := by
            unfold egK; rw [List.length_map]
            have : i * 64 ≤ 20 * 64 := Nat.mul_le_mul_right _ (by omega)
            omega
          refine ⟨Dd, _, rfl, DPut.t (k := [.inl q0.1, .inl o.1]) (s6 _ _ h5D) upd_same (by omega), ?_⟩
          have ep := eg_put es2 (q0.1, o.1)
          refine ⟨_, _, addE es2 (q0.1, o.1), rfl, fun c' o' n' h' => by rw [upd_ne n']; exact s6 _ _ (s5 _ _ (b4 _ _ n' h')), by rw [upd_same]; exact congrArg (fun k => some (HO.dT k)) ep, fun a b => ?_, by have := addE_len es2 (q0.1, o.1); omega⟩
          rw [addE_mem, hes2 a b, tk]
          constructor
          · rintro ((h | ⟨e1, e2, o', m, r⟩) | h)
            · exact .inl h
            · exact .inr ⟨e1, e2, o', List.mem_append_left _ m, r⟩
            · injection h with e1 e2
              exact .inr ⟨e1, by rw [e1, e2]; exact c, o, by simp, e2.symm, c2⟩
          · rintro (h | ⟨e1, e2, o', m, r⟩)
            · exact .inl (.inl h)
            · rcases List.mem_append.mp m with m | m
              · exact .inl (.inr ⟨e1, e2, o', m, r⟩)
              · rw [List.mem_singleton.mp m] at r
                exact .inr (Prod.ext e1 r.1.symm)
        · have c2 : ¬ (o.2 = "own" ∨ q0.2.1 = "own") := by
            rw [if_neg Bool.false_ne_true, show ([V.str o.2, V.str q0.2.1] : List V) = [o.2, q0.2.1].map V.str from rfl, in_strs, decide_eq_false_iff_not] at c2
            simp only [List.mem_cons, List.not_mem_nil, or_false] at c2
            exact fun h => c2 (h.imp Eq.symm Eq.symm)
          have s5 := same_new (o := .tup [.str o.2, .str q0.2.1]) nu2
          exact ⟨_, _, es2, rfl, b4.trans (But.of_same s5), s5 _ _ h4D, stay (fun z => c2 z.2), by omega⟩
      · rintro σ H4 ⟨x6, x7, es2, rfl, b4, h4D, hes2, les2⟩
        rw [lvs, List.take_length] at hes2
        refine ⟨_, _, _, _, es2, rfl, fun c o n => b4 _ _ (fun e => by rw [e, nD0] at n; cases n) (b3 _ _ n), b4 _ _ nDN.symm (s3 _ _ h2N), h4D, fun a b => ?_, by rw [Nat.succ_mul]; omega, fun q hq => ?_⟩
        · rw [hes2 a b, hes a b, want_take hq0, ← eL]
          refine or_congr Iff.rfl (and_congr Iff.rfl (and_congr Iff.rfl ⟨fun ⟨o, m, e, r⟩ => ?_, fun ⟨o, m, r⟩ => ⟨o, List.mem_flatMap.mpr ⟨b, pm.mem_iff.mpr (hold_in m), m⟩, hold_fst m, r⟩⟩))
          obtain ⟨n, _, m⟩ := List.mem_flatMap.mp m
          have := hold_fst m
          rw [e] at this
          exact ⟨o, by rw [this]; exact m, r⟩
        · rw [List.take_add_one, hq0, Option.toList_some] at hq
          rcases List.mem_append.mp hq with hq | hq
          · exact hin q hq
          · rw [List.mem_singleton.mp hq]; exact inw
    · rintro σ H1 ⟨x4, x5, x6, x7, es, rfl, b1, h1N, h1D, hes, les, hin⟩
      rw [pair_len' pw, List.take_length] at h1N hes hin
      have nl := names_le wn
      have len0 : ((namesOf wn).map V.int).length = (namesOf wn).length := List.length_map ..
      refine ⟨_, rfl, N, rfl, ⟨_, SqL.of h1N⟩, fun L nL => lc_list (K := K) (a := N) (xs := (namesOf wn).map V.int) (fun k H' => Same H1 H' ∧ H' L = some (.lst (((namesOf wn).take k).map V.int))) ⟨same_new nL, upd_same⟩ (fun k H' _ h => SqL.of (h.1 _ _ h1N)) ?_ ?_⟩
      · rintro k v H2 hv ⟨s2, h2⟩
        have hk := (List.getElem?_eq_some_iff.mp hv).1
        rw [len0] at hk
        have hv2 : v = .int (namesOf wn)[k] := by
          rw [List.getElem?_map, List.getElem?_eq_getElem hk] at hv
          exact (Option.some.inj hv).symm
        subst hv2
        refine ⟨rfl, yes_i (iteT ⟨_, rfl, .inl ⟨_, rfl, _, h2, by rw [List.length_map, List.length_take]; omega, same_mut s2 nL, ?_⟩⟩)⟩
        rw [upd_same, ints_app, List.take_add_one, List.getElem?_eq_getElem hk]; rfl
      · rintro H2 ⟨s2, h2⟩
        rw [len0, List.take_length] at h2
        refine ⟨L, namesOf wn, rfl, SqL.of h2, by omega, fun ns2 p2 pm so np2 => ?_⟩
        have s3 := same_new (o := .lst (ns2.map V.int)) np2
        have s13 := s2.trans s3
        refine ⟨_, rfl, p2, .ref Dd, ns2, es, rfl, .inl (SqL.of upd_same), by rw [pm.length_eq]; omega, .inr ⟨Dd, egK es, rfl, s13 _ _ h1D, by unfold egK; rw [List.map_map]; rfl⟩, fun r rss H4 s4 nr hr pr => ?_⟩
        exact q hin ns2 es rss r H4 pm so hes pr (b1.trans (s13.trans s4)) (b1.free (s13.free nr)) hr
end
end My

namespace My
open PySem L2
/-! ### the ring of the law, by all paths -/
def PthAt (L : Addr) (H : Hp) (v : V) (p : List Int) : Prop := ∃ a, v = .ref a ∧ a ≠ L ∧ H a = some (.lst (p.map V.int))
theorem PthAt.re {L L' : Addr} {H H' : Hp} {v : V} {p : List Int} (h : PthAt L H v p) (n : H L' = none) (s : Same H H') : PthAt L' H' v p := let ⟨a, e, _, f⟩ := h; ⟨a, e, ne_of_none f n, s _ _ f⟩
theorem PthAt.but {L : Addr} {H H' : Hp} {v : V} {p : List Int} (h : PthAt L H v p) (b : But L H H') : PthAt L H' v p := let ⟨a, e, n, f⟩ := h; ⟨a, e, n, b _ _ n f⟩
theorem pth_len {ns : List Int} {es : Eds} : ∀ {k : Nat} {p : List Int}, p ∈ pathsI ns es k → p.length = k + 1
  | 0, p, h => by
    obtain ⟨x, _, rfl⟩ := List.mem_map.mp h; rfl
  | k + 1, p, h => by
    obtain ⟨q, hq, h⟩ := List.mem_flatMap.mp h
    obtain ⟨y, _, rfl⟩ := List.mem_map.mp h
    rw [List.length_append, pth_len hq]; rfl
theorem flat_le {α β : Type} {f : α → List β} {c : Nat} (h : ∀ x, (f x).length ≤ c) : ∀ l : List α, (l.flatMap f).length ≤ l.length * c
  | [] => Nat.zero_le _
  | x :: l => by
    rw [List.flatMap_cons, List.length_append, List.length_cons, Nat.succ_mul]
    have := h x
    have := flat_le h l
    omega
theorem ext_len (l : List Int) (es : Eds) (p : List Int) : ((extY l es p).map fun y => p ++ [y]).length ≤ l.length := by
  rw [List.length_map]; exact List.length_filter_le _ _
theorem paths_len {ns : List Int} {es : Eds} (h : ns.length ≤ 5) : ∀ k, (pathsI ns es k).length ≤ 5 ^ (k + 1)
  | 0 => by unfold pathsI; rw [List.length_map]; exact h
  | k + 1 => by
    unfold pathsI
    refine Nat.le_trans (flat_le (c := 5) (fun p => Nat.le_trans (ext_len ns es p) h) _) ?_
    rw [Nat.pow_succ]
    exact Nat.mul_le_mul_right _ (paths_len h k)
theorem paths_small {ns : List Int} {es : Eds} (h : ns.length ≤ 5) {k : Nat} (hk : k ≤ 4) : (pathsI ns es k).length ≤ 3125 := Nat.le_trans (paths_len h k) (Nat.pow_le_pow_right (by decide) (by omega : k + 1 ≤ 5))
theorem last_at {p : List Int} {n : Nat} (h : p.length = n + 1) : (p.map V.int)[n]? = some (.int (lastI p)) := by
  rw [List.getElem?_map]
  have : p[n]? = some (lastI p) := by
    unfold lastI
    rw [List.getLastD_eq_getLast?, List.getLast?_eq_getElem?, h, Nat.add_sub_cancel]
    rw [List.getElem?_eq_getElem (by omega)]; rfl
  rw [this]; rfl
theorem first_at {p : List Int} {n : Nat} (h : p.length = n + 1) : (p.map V.int)[0]? = some (.int (headI p)) := by
  rw [List.getElem?_map]
  cases p with
  | nil => simp at h
  | cons a p => rfl
theorem ext_snoc {l : List Int} {es : Eds} {p : List Int} {i : Nat} {y : Int} (h : l[i]? = some y) : ((extY (l.take (i + 1)) es p).map fun y => p ++ [y]) = ((extY (l.take i) es p).map fun y => p ++ [y]) ++ if headI p < y ∧ y ∉ p ∧ (lastI p, y) ∈ es then [p ++ [y]] else [] := by
  unfold extY
  rw [List.take_add_one, h, Option.toList_some, List.filter_append, List.map_append]
  congr 1
  by_cases c : headI p < y ∧ y ∉ p ∧ (lastI p, y) ∈ es
  · rw [if_pos c, List.filter_cons, if_pos (decide_eq_true c)]; rfl
  · rw [if_neg c, List.filter_cons, if_neg (by simpa using c)]; rfl
def spLRing (K : PySem.W.Frag) : Sp := fun vs H Q _ => ∃ (a e : Addr) (ns : List Int) (us : List V) (es : Eds), vs = [.ref a, .ref e] ∧ H a = some (.lst (ns.map V.int)) ∧ ns.length ≤ 5 ∧ H e = some (.lst us) ∧ Paired (EdV H) us es ∧
  ∀ r H', Same H H' → H r = none → H' r = some (.tup ((ringBy ns es 2 (ns.length - 1)).map V.int)) → Q (.ref r) H'
section
variable {P : Program} {w : World} {K : PySem.W.Frag} {mg : Str → Option Value} {base : Heap}
set_option maxHeartbeats 16000000 in
set_option pp.maxSteps 900 in
theorem ok__law_ring (T : Txt K mg) : FnOk P w K mg base CX0 1 T.a__law_ring T.fd__law_ring ["_law_nodes", "_law_edges"] (spLRing K) := by
  refine T.F__law_ring.ok sc__law_ring (fun vs H Q E h => ?_) (fun cdv A outer s H vs Q E hr h => ?_)
  · obtain ⟨a, e, ns, us, es, rfl, _⟩ := h; rfl
  · obtain ⟨a, e, ns, us, es, rfl, ha, ln, hE, pE, q⟩ := h
    refine ⟨_, (pss_cons (ps_for PassesOwn.never rfl (pi_range2 (by rfl) T.n_range (pa_cons (pe_int) (pa_cons (pe_op op_add (pe_callB call_len_seq (by rfl) T.n_len (by decide +kernel) (pa_cons (pv 0) pa_nil)) (pe_int)) pa_nil))) (pg_name (i := 2) sc__law_ring.nd rfl (.inl rfl)) (pss_cons (ps_setLc (i := 3) (own := [("_law_node", 4)]) (g := (gName 4)) (by rfl) sc__law_ring.nd rfl rfl (sw_true rfl rfl rfl (by decide +kernel)) (pi_list (pv 0)) (blkOk_by (own := [("_law_node", 4)]) (N := ["_law_nodes", "_law_edges", "_law_size", "_law_paths", "_law_node", "_law_k", "_law_longer", "_law_path"]) (sc := defScope S__law_ring) (by decide +kernel)) (fun _ _ _ _ _ => (pg_name (i := 4) sc__law_ring.nd rfl (by first | exact .inl rfl | exact .inr rfl))) (fun _ _ _ _ _ => pts_nil) (fun _ _ _ _ _ => (pe_lst (pa_cons (pv 4) pa_nil))))
      (pss_cons (ps_for PassesOwn.never rfl (pi_range1 (by rfl) T.n_range (pa_cons (pe_op op_sub (pv 2) (pe_int)) pa_nil)) (pg_name (i := 5) sc__law_ring.nd rfl (.inl rfl)) (pss_cons (ps_set (i := 6) sc__law_ring.nd rfl (.inl rfl) (pe_lst pa_nil))
      (pss_cons (ps_for PassesOwn.never rfl (pi_list (pe_callTy call_list_of (by rfl) T.n_list (by decide +kernel) (pa_cons (pv 3) pa_nil))) (pg_name (i := 7) sc__law_ring.nd rfl (.inl rfl)) (pss_one (ps_for PassesOwn.never rfl (pi_list (pv 0)) (pg_name (i := 4) sc__law_ring.nd rfl (.inl rfl)) (pss_one (ps_if (PW.pt (pw_and (pt_cmpR op_gt (pv 4) (pe_ix ix_list (pv 7) (pe_int) (fun _ _ => rfl)) (nomark _)) (pw_and (pt_cmpR op_notIn_seq (pv 4) (pv 7) (by with_unfolding_all rfl)) (pw_and1 (pt_cmpR (inEK (K := K) rfl (hu65 hr)) (pe_tup (pa_cons (pe_ix ix_list (pv 7) (pe_op op_sub (pe_callB call_len_seq (by rfl) T.n_len (by decide +kernel) (pa_cons (pv 7) pa_nil)) (pe_int)) (fun _ _ => rfl)) (pa_cons (pv 4) pa_nil))) (pv 1) (by with_unfolding_all rfl)))))) (pss_one (ps_expr (pe_bm PySem.F.plainAttrs_list PySem.F.slot_list_append PySem.F.type_list_append mt_append (pv 6) (pa_cons (pe_op op_cat (pv 7) (pe_lst (pa_cons (pv 4) pa_nil))) pa_nil)))) pss_nil)))))
      (pss_one (ps_set (i := 3) sc__law_ring.nd rfl (.inl rfl) (pv 6))))))
      (pss_one (ps_for PassesOwn.never rfl (pi_list (pv 3)) (pg_name (i := 7) sc__law_ring.nd rfl (.inl rfl)) (pss_one (ps_if (pt_cmpR (inEK (K := K) rfl (hu65 hr)) (pe_tup (pa_cons (pe_ix ix_list (pv 7) (pe_op op_sub (pv 2) (pe_int)) (fun _ _ => rfl)) (pa_cons (pe_ix ix_list (pv 7) (pe_int) (fun _ _ => rfl)) pa_nil))) (pv 1) (by with_unfolding_all rfl)) (pss_one (ps_ret (pe_callTy call_tuple_of (by rfl) T.n_tuple (by decide +kernel) (pa_cons (pv 7) pa_nil)))) pss_nil)))))))
      (pss_one (ps_ret (pe_tup pa_nil)))), ?_⟩
    have big : 100000 < sizeLine := by decide
    have lv : (ns.map V.int).length = ns.length := List.length_map ..
    have edg : ∀ {H' : Hp}, Same H H' → Edg K H' (.ref e) es := fun s => .inl ⟨e, us, rfl, .inl (SqL.of (s _ _ hE)), L2.Paired.mapP pE fun _ _ ⟨p, e, f⟩ => ⟨p, e, s _ _ f⟩⟩
    refine ⟨_, rfl, a, _, rfl, .inl (SqL.of ha), _, _, rfl, rfl, _, _, rfl, ⟨by omega, by omega, by omega, by omega⟩, for_range (lo := 2) (n := ((((ns.map V.int).length : Nat) : Int) + 1 - 2).toNat) (fun i σ H' => ∃ (x2 x3 x4 x5 x6 x7 : Option V), σ = [some (.ref a), some (.ref e), x2, x3, x4, x5, x6, x7] ∧ Same H H' ∧ ringBy ns es 2 (ns.length - 1) = ringBy ns es (2 + i) (ns.length - 1 - i)) ⟨_, _, _, _, _, _, rfl, Same.refl _, rfl⟩ ?_ ?_⟩
    · rintro i σ H1 hi ⟨x2, x3, x4, x5, x6, x7, rfl, s1, er⟩
      have hi : i + 2 ≤ ns.length := by omega
      -- the first paths
      refine ⟨_, rfl, a, rfl, ⟨_, SqL.of (s1 _ _ ha)⟩, fun P0 nP => lc_list (K := K) (a := a) (xs := ns.map V.int) (fun k H' => ∃ vs, Same H1 H' ∧ H' P0 = some (.lst vs) ∧ Paired (PthAt P0 H') vs ((ns.take k).map fun x => [x])) ⟨[], same_new nP, upd_same, .nil⟩ (fun k H' _ ⟨_, h, _⟩ => SqL.of (h _ _ (s1 _ _ ha))) ?_ ?_⟩
      · rintro k v H2 hv ⟨vs, s2, h2, p2⟩
        have hk := (List.getElem?_eq_some_iff.mp hv).1
        rw [lv] at hk
        have hv2 : v = .int ns[k] := by
          rw [List.getElem?_map, List.getElem?_eq_getElem hk] at hv
          exact (Option.some.inj hv).symm
        subst hv2
        have lvs := pair_len' p2
        rw [List.length_map, List.length_take] at lvs
        refine ⟨rfl, yes_i (iteT ⟨_, rfl, by show 1 ≤ sizeLine; decide, fun c nc => ⟨vs, same_new nc _ _ h2, by omega, vs ++ [.ref c], same_mut (s2.trans (same_new nc)) nP, upd_same, ?_⟩⟩)⟩
        have ncP : c ≠ P0 := (ne_of_none h2 nc).symm
        rw [List.take_add_one, List.getElem?_eq_getElem hk, Option.toList_some, List.map_append]
        exact pair_app (L2.Paired.mapP p2 fun _ _ h => h.but ((But.of_same (same_new nc)).trans But.upd)) (.cons ⟨c, rfl, ncP, by rw [upd_ne ncP, upd_same]; rfl⟩ .nil)
      rintro H2 ⟨vs, s2, h2, p2⟩
      rw [lv, List.take_length] at p2
      -- the rounds
      refine ⟨_, rfl, _, _, rfl, rfl, _, rfl, by omega, by omega, for_range (lo := 0) (n := (2 + ((i : Nat) : Int) - 1).toNat) (fun k σ H' => ∃ (x4 x5 x6 x7 : Option V) (Pk : Addr) (vs : List V) (L0 : Addr), σ = [some (.ref a), some (.ref e), some (.int (2 + ((i : Nat) : Int))), some (.ref Pk), x4, x5, x6, x7] ∧ Same H H' ∧ H' Pk = some (.lst vs) ∧ Paired (PthAt L0 H') vs (pathsI ns es k)) ⟨_, _, _, _, P0, vs, P0, rfl, s1.trans s2, h2, p2⟩ ?_ ?_⟩
      · rintro k σ H3 hk ⟨x4, x5, x6, x7, Pk, vs, L0, rfl, s3, h3, p3⟩
        rw [Int.zero_add]
        have hk4 : k ≤ 3 := by omega
        have lps := paths_small (es := es) ln (k := k) (by omega)
        have lvs := pair_len' p3
        refine ⟨Nat.zero_le _, fun L nL => ?_⟩
        have sL := same_new (o := .lst []) nL
        have hL0 : (upd H3 L (.lst [])) L = some (.lst []) := upd_same
        refine ⟨_, rfl, Pk, vs, rfl, .inl (SqL.of (sL _ _ h3)), fun C nC => ?_⟩
        have sC := same_new (o := .lst vs) nC
        have s4 := sL.trans sC
        have hC : (upd (upd H3 L (.lst [])) C (.lst vs)) C = some (.lst vs) := upd_same
        have hL4 := sC _ _ hL0
        have nCL : C ≠ L := (ne_of_none hL0 nC).symm
        have p4 : Paired (PthAt L (upd (upd H3 L (.lst [])) C (.lst vs))) vs (pathsI ns es k) := L2.Paired.mapP p3 fun _ _ h => h.re nL s4
        revert s4 hC hL4 p4
        generalize upd (upd H3 L (.lst [])) C (.lst vs) = H4
        intro s4 hC hL4 p4
        have s34 := s3.trans s4
        have ha4 := s34 _ _ ha
        have naL : a ≠ L := ne_of_none (s3 _ _ ha) nL
        have neL : e ≠ L := ne_of_none (s3 _ _ hE) nL
        have offL : ∀ {c : Addr} {o : HO}, H c = some o → c ≠ L := fun h => ne_of_none (s3 _ _ h) nL
        have edgb : ∀ {H' : Hp}, But L H4 H' → Edg K H' (.ref e) es := fun b => .inl ⟨e, us, rfl, .inl (SqL.of (b _ _ neL (s34 _ _ hE))), L2.Paired.mapP pE fun _ _ ⟨p, e, f⟩ => ⟨p, e, b _ _ (offL f) (s34 _ _ f)⟩⟩
        refine ⟨C, rfl, ⟨_, SqL.of hC⟩, for_list (K := K) (a := C) (xs := vs) (fun j σ H' => ∃ (x4 x7 : Option V) (ls : List V), σ = [some (.ref a), some (.ref e), some (.int (2 + ((i : Nat) : Int))), some (.ref Pk), x4, some (.int ((k : Nat) : Int)), some (.ref L), x7] ∧ But L H4 H' ∧ H' L = some (.lst ls) ∧ Paired (PthAt L H') ls (((pathsI ns es k).take j).flatMap fun p => (extY ns es p).map fun y => p ++ [y]) ∧ ls.length ≤ j * 5) ⟨_, _, [], rfl, But.refl _ _, hL4, .nil, Nat.zero_le _⟩ (fun j σ H' _ ⟨_, _, _, _, b, _⟩ => SqL.of (b _ _ nCL hC)) ?_ ?_⟩
        · rintro j v σ H5 hv ⟨x4, x7, ls, rfl, b5, h5L, p5, l5⟩
          have hj := (List.getElem?_eq_some_iff.mp hv).1
          obtain ⟨p, hp, pa, rfl, npa, hpa⟩ := pair_get' p4 hv
          have lp := pth_len (List.mem_of_getElem? hp)
          have tk : (pathsI ns es k).take (j + 1) = (pathsI ns es k).take j ++ [p] := by rw [List.take_add_one, hp, Option.toList_some]
          generalize ePr : ((pathsI ns es k).take j).flatMap (fun p => (extY ns es p).map fun y => p ++ [y]) = pre at p5
          refine ⟨_, rfl, a, rfl, ⟨_, SqL.of (b5 _ _ naL ha4)⟩, for_list (K := K) (a := a) (xs := ns.map V.int) (fun m σ H' => ∃ (x4 : Option V) (ls : List V), σ = [some (.ref a), some (.ref e), some (.int (2 + ((i : Nat) : Int))), some (.ref Pk), x4, some (.int ((k : Nat) : Int)), some (.ref L), some (.ref pa)] ∧ But L H4 H' ∧ H' L = some (.lst ls) ∧ Paired (PthAt L H') ls (pre ++ (extY (ns.take m) es p).map fun y => p ++ [y]) ∧ ls.length ≤ j * 5 + m) ⟨_, ls, rfl, b5, h5L, by simpa [extY] using p5, by omega⟩ (fun m σ H' _ ⟨_, _, _, b, _⟩ => SqL.of (b _ _ naL ha4)) ?_ ?_⟩
          · rintro m v σ H6 hv ⟨x4, ls, rfl, b6, h6L, p6, l6⟩
            have hm := (List.getElem?_eq_some_iff.mp hv).1
            rw [lv] at hm
            obtain ⟨y, hy⟩ : ∃ y, ns[m]? = some y := ⟨_, List.getElem?_eq_getElem hm⟩
            have hv2 : v = .int y := by
              rw [List.getElem?_map, hy] at hv
              exact (Option.some.inj hv).symm
            subst hv2
            have h6p := b6 _ _ npa hpa
            have no : ¬ (headI p < y ∧ y ∉ p ∧ (lastI p, y) ∈ es) → ∀ {H7 : Hp}, But L H6 H7 → H7 L = some (.lst ls) → ∃ (x4' : Option V) (ls' : List V), [some (V.ref a), some (.ref e), some (.int (2 + ((i : Nat) : Int))), some (.ref Pk), some (.int y), some (.int ((k : Nat) : Int)), some (.ref L), some (.ref pa)] = [some (V.ref a), some (.ref e), some (.int (2 + ((i : Nat) : Int))), some (.ref Pk), x4', some (.int ((k : Nat) : Int)), some (.ref L), some (.ref pa)] ∧ But L H4 H7 ∧ H7 L = some (.lst ls') ∧ Paired (PthAt L H7) ls' (pre ++ (extY (ns.take (m + 1)) es p).map fun y => p ++ [y]) ∧ ls'.length ≤ j * 5 + (m + 1) := fun n H7 b7 h7 =>
              ⟨_, ls, rfl, b6.trans b7, h7, by rw [ext_snoc hy, if_neg n, List.append_nil]; exact L2.Paired.mapP p6 fun _ _ h => h.but b7, by omega⟩
            refine ⟨_, rfl, _, rfl, _, _, _, _, rfl, rfl, SqL.of h6p, atI_nat (first_at lp), _, _, rfl, rfl, _, rfl, iteD (fun c1 => ?_) (fun c1 => iteNo rfl (no (fun h => c1 h.1) (But.refl _ _) h6L))⟩
            refine ⟨_, rfl, _, rfl, pa, _, rfl, .inl (SqL.of h6p), rfl, flat_ints _, _, rfl, iteB (fun c2 => ?_) (fun c2 => iteNo rfl (no (fun h => by simp [in_ints] at c2; exact h.2.1 c2) (But.refl _ _) h6L))⟩
            have c2 : y ∉ p := by simpa [in_ints] using c2
            have hat : atI (p.map V.int) ((((p.map V.int).length : Nat) : Int) - 1) = some (.int (lastI p)) := by
              rw [show ((((p.map V.int).length : Nat) : Int) - 1) = ((k : Nat) : Int) by rw [List.length_map, lp]; omega]
              exact atI_nat (last_at lp)
            refine ⟨_, rfl, _, rfl, pa, _, rfl, .inl (SqL.of h6p), _, _, rfl, rfl, _, _, _, _, rfl, rfl, SqL.of h6p, hat, _, rfl, by show 2 ≤ sizeLine; decide, fun t nt => ?_⟩
            have s7 := same_new (o := .tup [.int (lastI p), .int y]) nt
            have b7 : But L H6 (upd H6 t (.tup [.int (lastI p), .int y])) := But.of_same s7
            refine ⟨_, rfl, (lastI p, y), es, ⟨t, rfl, upd_same⟩, edgb (b6.trans b7), _, rfl, iteB (fun c3 => ?_) (fun c3 => no (fun h => by simp at c3; exact c3 h.2.2) b7 (s7 _ _ h6L))⟩
            have c3 : (lastI p, y) ∈ es := by simpa using c3
            have h7L := s7 _ _ h6L
            revert s7 b7 h7L
            generalize upd H6 t (.tup [.int (lastI p), .int y]) = H7
            intro s7 b7 h7L
            refine ⟨_, rfl, .inl ⟨rfl, _, SqL.of h7L⟩, _, rfl, _, rfl, by show 1 ≤ sizeLine; decide, fun l1 n1 => ?_⟩
            have s8 := same_new (o := .lst [.int y]) n1
            refine ⟨pa, l1, _, _, rfl, rfl, s8 _ _ (s7 _ _ h6p), upd_same, by rw [List.length_map, lp]; show k + 1 + 1 ≤ sizeLine; omega, fun pn npn => ?_⟩
            have s9 := same_new (o := .lst (p.map V.int ++ [.int y])) npn
            have s79 := s8.trans s9
            have h9L := s79 _ _ h7L
            have npL : pn ≠ L := (ne_of_none (s8 _ _ h7L) npn).symm
            refine ⟨_, _, _, rfl, rfl, h9L, by omega, ?_⟩
            have b9 : But L H7 (upd (upd (upd H7 l1 (.lst [.int y])) pn (.lst (p.map V.int ++ [.int y]))) L (.lst (ls ++ [.ref pn]))) := (But.of_same s79).trans But.upd
            refine ⟨_, ls ++ [.ref pn], rfl, (b6.trans b7).trans b9, upd_same, ?_, by rw [List.length_append]; simp; omega⟩
            rw [ext_snoc hy, if_pos ⟨c1, c2, c3⟩, ← List.append_assoc]
            exact pair_app (L2.Paired.mapP p6 fun _ _ h => h.but (b7.trans b9)) (.cons ⟨pn, rfl, npL, by rw [upd_ne npL, upd_same, List.map_append]; rfl⟩ .nil)
          · rintro σ H6 ⟨x4, ls, rfl, b6, h6L, p6, l6⟩
            rw [lv, List.take_length] at p6
            refine ⟨_, _, ls, rfl, b6, h6L, ?_, by rw [lv] at l6; rw [Nat.succ_mul]; omega⟩
            rw [tk, List.flatMap_append, ePr]
            simpa using p6
        · rintro σ H5 ⟨x4, x7, ls, rfl, b5, h5L, p5, l5⟩
          rw [lvs, List.take_length] at p5
          exact ⟨_, rfl, _, _, _, _, L, ls, L, rfl, fun c o h => b5 _ _ (offL h) (s34 _ _ h), h5L, p5⟩
      rintro σ H3 ⟨x4, x5, x6, x7, Pk, vs, L0, rfl, s3, h3, p3⟩
      rw [show (2 + ((i : Nat) : Int) - 1).toNat = i + 1 by omega] at p3
      have lps := paths_small (es := es) ln (k := i + 1) (by omega)
      have lvs := pair_len' p3
      refine ⟨_, rfl, Pk, rfl, ⟨_, SqL.of h3⟩, for_list (K := K) (a := Pk) (xs := vs) (fun j σ H' => ∃ (x7 : Option V), σ = [some (.ref a), some (.ref e), some (.int (2 + ((i : Nat) : Int))), some (.ref Pk), x4, x5, x6, x7] ∧ Same H3 H' ∧ ((pathsI ns es (i + 1)).take j).find? (closeB es) = none) ⟨_, rfl, Same.refl _, rfl⟩ (fun j σ H' _ ⟨_, _, b, _⟩ => SqL.of (b _ _ h3)) ?_ ?_⟩
      · rintro j v σ H4 hv ⟨x7, rfl, s4, fn⟩
        obtain ⟨p, hp, pa, rfl, npa, hpa⟩ := pair_get' p3 hv
        have lp := pth_len (List.mem_of_getElem? hp)
        have h4p := s4 _ _ hpa
        have hat : atI (p.map V.int) (2 + ((i : Nat) : Int) - 1) = some (.int (lastI p)) := by
          rw [show (2 + ((i : Nat) : Int) - 1) = ((i + 1 : Nat) : Int) by omega]
          exact atI_nat (last_at lp)
        refine ⟨_, rfl, _, rfl, _, _, rfl, rfl, _, _, _, _, rfl, rfl, SqL.of h4p, hat, _, rfl, _, _, _, _, rfl, rfl, SqL.of h4p, atI_nat (first_at lp), by show 2 ≤ sizeLine; decide, fun t nt => ?_⟩
        have s5 := same_new (o := .tup [.int (lastI p), .int (headI p)]) nt
        refine ⟨_, rfl, (lastI p, headI p), es, ⟨t, rfl, upd_same⟩, edg ((s3.trans s4).trans s5), _, rfl, iteB (fun c => ?_) (fun c => ?_)⟩
        · have c : (lastI p, headI p) ∈ es := by simpa using c
          refine ⟨_, rfl, pa, _, rfl, .inl ⟨SqL.of (s5 _ _ h4p), fun u nu => ?_⟩⟩
          refine q u _ (((s3.trans s4).trans s5).trans (same_new nu)) (((s3.trans s4).trans s5).free nu) ?_
          have ef : (pathsI ns es (2 + i - 1)).find? (closeB es) = some p := by
            rw [show 2 + i - 1 = i + 1 by omega]
            have sp : pathsI ns es (i + 1) = (pathsI ns es (i + 1)).take j ++ p :: (pathsI ns es (i + 1)).drop (j + 1) := by
              obtain ⟨h1, h2⟩ := List.getElem?_eq_some_iff.mp hp
              rw [← h2, ← List.drop_eq_getElem_cons h1, List.take_append_drop]
            rw [sp, List.find?_append, fn, List.find?_cons, show closeB es p = true from decide_eq_true c]; rfl
          rw [upd_same, er]
          cases em : ns.length - 1 - i with
          | zero => omega
          | succ m => unfold ringBy; rw [ef]
        · have c : (lastI p, headI p) ∉ es := by simpa using c
          refine ⟨_, rfl, s4.trans s5, ?_⟩
          rw [List.take_add_one, hp, Option.toList_some, List.find?_append, fn, List.find?_cons, show closeB es p = false from decide_eq_false c]; rfl
      · rintro σ H4 ⟨x7, rfl, s4, fn⟩
        rw [lvs, List.take_length] at fn
        refine ⟨_, _, _, _, _, _, rfl, s3.trans s4, ?_⟩
        rw [er]
        cases em : ns.length - 1 - i with
        | zero => omega
        | succ m =>
          rw [show ns.length - 1 - (i + 1) = m by omega]
          show (match (pathsI ns es (2 + i - 1)).find? (closeB es) with | some p => p | none => ringBy ns es (2 + i + 1) m) = _
          rw [show 2 + i - 1 = i + 1 by omega, fn]; rfl
    · rintro σ H1 ⟨x2, x3, x4, x5, x6, x7, rfl, s1, er⟩
      refine ⟨Nat.zero_le _, fun u nu => q u _ (s1.trans (same_new nu)) (s1.free nu) ?_⟩
      rw [upd_same, er, show ns.length - 1 - (((((ns.map V.int).length : Nat) : Int) + 1 - 2).toNat) = 0 by omega]
      rfl
end
end My

namespace My
open PySem L2
def spLNames (K : PySem.W.Frag) : Sp := fun vs H Q _ => ∃ (d t : Addr), vs = [.ref d, .ref t] ∧ Dr K H d t ∧
  ∀ (Ns : List Int) u H', Ns.length = 4 → Ns.Nodup → Dr K H' d t → But t H H' → H u = none → H' u = some (.lst (Ns.map V.int)) → Q (.ref u) H'
theorem pick_nd {acc L : List Int} {i : Nat} {x : Int} (h : L[i]? = some x) (nd : (acc ++ L).Nodup) : ((acc ++ [x]) ++ (L.take i ++ L.drop (i + 1))).Nodup := by
  have sp : L = L.take i ++ x :: L.drop (i + 1) := by
    obtain ⟨h1, h2⟩ := List.getElem?_eq_some_iff.mp h
    rw [← h2, ← List.drop_eq_getElem_cons h1, List.take_append_drop]
  rw [sp] at nd
  refine List.Perm.nodup ?_ nd
  rw [List.append_assoc]
  exact List.Perm.append_left _ List.perm_middle
set_option maxHeartbeats 16000000 in
set_option pp.maxSteps 900 in
theorem ok__law_names {P : Program} {w : World} {K : PySem.W.Frag} {mg : Str → Option Value} {base : Heap} (T : Txt K mg) : FnOk P w K mg base CX0 3 T.a__law_names T.fd__law_names ["_law_draws_here", "_law_at"] (spLNames K) := by
  refine T.F__law_names.ok sc__law_names (fun vs H Q E h => ?_) (fun cdv A outer s H vs Q E hr h => ?_)
  · obtain ⟨d, t, rfl, _⟩ := h; rfl
  · obtain ⟨d, t, rfl, D0, q⟩ := h
    refine ⟨_, (pss_cons (ps_set (i := 2) sc__law_names.nd rfl (.inl rfl) (pe_lst (pa_cons (pe_int) (pa_cons (pe_int) (pa_cons (pe_int) (pa_cons (pe_int) pa_nil))))))
      (C8.pss_cut (ps_if (pt_cmpR op_eq (pe_call (ok__law_take T) (hr.mono (by omega)) (by rfl) T.g__law_take T.F__law_take.kp T.b__law_take .nil pass0 (pa_cons (pv 0) (pa_cons (pv 1) (pa_cons (pe_int) pa_nil)))) (pe_int) (nomark _)) (pss_one (ps_set (i := 2) sc__law_names.nd rfl (.inl rfl) (pe_lst (pa_cons (pe_int) (pa_cons (pe_int) (pa_cons (pe_int) (pa_cons (pe_int) pa_nil))))))) pss_nil)
      (pss_cons (ps_set (i := 3) sc__law_names.nd rfl (.inl rfl) (pe_lst pa_nil))
      (pss_cons (ps_for PassesOwn.never rfl (pi_range1 (by rfl) T.n_range (pa_cons (pe_int) pa_nil)) (pg_name (i := 4) sc__law_names.nd rfl (.inl rfl)) (pss_cons (ps_set (i := 5) sc__law_names.nd rfl (.inl rfl) (pe_call (ok__law_take T) (hr.mono (by omega)) (by rfl) T.g__law_take T.F__law_take.kp T.b__law_take .nil pass0 (pa_cons (pv 0) (pa_cons (pv 1) (pa_cons (pe_callB call_len_seq (by rfl) T.n_len (by decide +kernel) (pa_cons (pv 2) pa_nil)) pa_nil)))))
      (pss_cons (ps_expr (pe_bm PySem.F.plainAttrs_list PySem.F.slot_list_append PySem.F.type_list_append mt_append (pv 3) (pa_cons (pe_ix ix_list (pv 2) (pv 5) (fun _ _ => rfl)) pa_nil)))
      (pss_one (ps_set (i := 2) sc__law_names.nd rfl (.inl rfl) (pe_op op_cat (pe_slice sl_list (pv 2) po_none (po_some (pv 5))) (pe_slice sl_list (pv 2) (po_some (pe_op op_add (pv 5) (pe_int))) po_none)))))))
      (pss_one (ps_ret (pv 3))))))), ?_⟩
    have big : 100000 < sizeLine := by decide
    refine ⟨by show 4 ≤ sizeLine; decide, fun a1 na1 => ?_⟩
    have s1 := same_new (o := .lst (([0, 3, 7, 1000003] : List Int).map V.int)) na1
    have ha1 : (upd H a1 (.lst (([0, 3, 7, 1000003] : List Int).map V.int))) a1 = some (.lst (([0, 3, 7, 1000003] : List Int).map V.int)) := upd_same
    have D1 := D0.same s1
    have nt1 : a1 ≠ t := D0.na na1
    refine ⟨fun σ' H' => ∃ (L : List Int) (l : Addr), σ' = [some (.ref d), some (.ref t), some (.ref l), none, none, none] ∧ Dr K H' d t ∧ But t H H' ∧ l ≠ t ∧ H' l = some (.lst (L.map V.int)) ∧ L.length = 4 ∧ L.Nodup, ?_, ?_⟩
    · refine ⟨_, rfl, _, rfl, d, t, 2, rfl, D1, by decide, fun r H2 r0 r1 D2 b2 => ⟨rfl, _, rfl, iteD (fun c => ?_) (fun c => ?_)⟩⟩
      · refine ⟨by show 4 ≤ sizeLine; decide, fun a2 na2 => ⟨[12, 5, 10, 2], a2, rfl, D2.same (same_new na2), ((But.of_same s1).trans b2).trans (But.of_same (same_new na2)), D2.na na2, upd_same, rfl, by decide⟩⟩
      · exact ⟨[0, 3, 7, 1000003], a1, rfl, D2, (But.of_same s1).trans b2, nt1, b2 _ _ nt1 ha1, rfl, by decide⟩
    clear ha1 D1 s1 nt1 na1
    rintro σ H1 ⟨L0, l0, rfl, D1, b1, nlt, hl0, ll0, nd0⟩
    refine ⟨Nat.zero_le _, fun O nO => ?_⟩
    have s2 := same_new (o := .lst []) nO
    have nOt : O ≠ t := D1.na nO
    have nO0 : H O = none := by
      cases e : H O with
      | none => rfl
      | some o => rw [b1 _ _ nOt e] at nO; cases nO
    refine ⟨_, rfl, by omega, by omega, for_range (lo := 0) (n := (4 : Int).toNat) (fun k σ H' => ∃ (x4 x5 : Option V) (L acc : List Int) (l : Addr), σ = [some (.ref d), some (.ref t), some (.ref l), some (.ref O), x4, x5] ∧ Dr K H' d t ∧ But t H H' ∧ l ≠ t ∧ l ≠ O ∧ H' l = some (.lst (L.map V.int)) ∧ H' O = some (.lst (acc.map V.int)) ∧ acc.length = k ∧ L.length = 4 - k ∧ (acc ++ L).Nodup) ⟨_, _, L0, [], l0, rfl, D1.same s2, b1.trans (But.of_same s2), nlt, ne_of_none hl0 nO, s2 _ _ hl0, upd_same, rfl, ll0, nd0⟩ ?_ ?_⟩
    · rintro k σ H2 hk ⟨x4, x5, L, acc, l, rfl, D2, b2, nl, nlO, hl, hO, la, lL, nd⟩
      have hk : k < 4 := hk
      have len0 : (L.map V.int).length = L.length := List.length_map ..
      refine ⟨_, rfl, _, rfl, _, rfl, l, _, rfl, .inl (SqL.of hl), d, t, _, rfl, D2, by omega, fun r H3 r0 r1 D3 b3 => ?_⟩
      obtain ⟨i, rfl⟩ := Int.eq_ofNat_of_zero_le r0
      have hi : i < L.length := by omega
      have hx := List.getElem?_eq_getElem hi
      have hv : (L.map V.int)[i]? = some (.int L[i]) := by rw [List.getElem?_map, hx]; rfl
      have hl3 := b3 _ _ nl hl
      have hO3 := b3 _ _ nOt hO
      refine ⟨_, rfl, .inl ⟨rfl, _, SqL.of hO3⟩, _, rfl, _, rfl, _, _, _, _, rfl, rfl, SqL.of hl3, atI_nat hv, _, _, _, rfl, rfl, hO3, by rw [List.length_map]; omega, ?_⟩
      have b4 : But O H3 (upd H3 O (.lst (acc.map V.int ++ [.int L[i]]))) := But.upd
      have hO4 : (upd H3 O (.lst (acc.map V.int ++ [.int L[i]]))) O = some (.lst ((acc ++ [L[i]]).map V.int)) := by rw [upd_same, ints_app]
      have hl4 := b4 _ _ nlO hl3
      have D4 : Dr K (upd H3 O (.lst (acc.map V.int ++ [.int L[i]]))) d t := by
        obtain ⟨kt, ht⟩ := D3.pl
        obtain ⟨_, hd0⟩ := D0.ds
        exact ⟨D3.ds.elim fun ns h => ⟨ns, b4 _ _ (ne_of_none hd0 nO0) h⟩, ⟨kt, b4 _ _ nOt.symm ht⟩, D3.ne⟩
      have b04 : But t H (upd H3 O (.lst (acc.map V.int ++ [.int L[i]]))) := fun c o n h => b4 _ _ (ne_of_none h nO0) (b3 _ _ n (b2 _ _ n h))
      revert b4 hO4 hl4 D4 b04
      generalize upd H3 O (.lst (acc.map V.int ++ [.int L[i]])) = H4
      intro b4 hO4 hl4 D4 b04
      refine ⟨_, rfl, _, rfl, _, rfl, l, _, rfl, SqL.of hl4, fun c1 n1 => ?_⟩
      rw [cut_to]
      have s5 := same_new (o := .lst ((L.map V.int).take i)) n1
      have h5 : (upd H4 c1 (.lst ((L.map V.int).take i))) c1 = some (.lst ((L.map V.int).take i)) := upd_same
      revert s5 h5
      generalize upd H4 c1 (.lst ((L.map V.int).take i)) = H5
      intro s5 h5
      refine ⟨_, rfl, _, rfl, _, _, rfl, rfl, _, rfl, l, _, rfl, SqL.of (s5 _ _ hl4), fun c2 n2 => ?_⟩
      rw [show ((i : Nat) : Int) + 1 = ((i + 1 : Nat) : Int) by omega, cut_from]
      have s6 := same_new (o := .lst ((L.map V.int).drop (i + 1))) n2
      refine ⟨c1, c2, _, _, rfl, rfl, s6 _ _ h5, upd_same, by simp only [List.length_take, List.length_drop, List.length_map]; omega, fun p np => ?_⟩
      have s7 := same_new (o := .lst ((L.map V.int).take i ++ (L.map V.int).drop (i + 1))) np
      have s47 := (s5.trans s6).trans s7
      refine ⟨_, _, L.take i ++ L.drop (i + 1), acc ++ [L[i]], p, rfl, D4.same s47, b04.trans (But.of_same s47), (D4.same (s5.trans s6)).na np, (ne_of_none ((s5.trans s6) _ _ hO4) np).symm, by rw [upd_same, List.map_append, List.map_take, List.map_drop], s47 _ _ hO4, by rw [List.length_append, la]; rfl, by rw [List.length_append, List.length_take, List.length_drop]; omega, pick_nd hx nd⟩
    · rintro σ H2 ⟨x4, x5, L, acc, l, rfl, D2, b2, nl, nlO, hl, hO, la, lL, nd⟩
      exact ⟨_, rfl, q acc O H2 la (List.nodup_append.mp nd).1 D2 b2 nO0 hO⟩
def inTs (ts : List Th) (q : Ev) : Prop := inW ts q.2.2
def spLWants (K : PySem.W.Frag) : Sp := fun vs H Q _ => ∃ (d t R M N : Addr) (ws us : List V) (rs : List Row) (ts : List Th) (Ns : List Int), vs = [.ref d, .ref t, .ref R, .ref M, .ref N] ∧ Dr K H d t ∧ H R = some (.lst ws) ∧ R ≠ t ∧ RowsN (fun a => a ≠ t) true H ws rs ∧ H M = some (.lst us) ∧ M ≠ t ∧ MtsN [t] H us ts ∧ us.length ≤ 900 ∧ H N = some (.lst (Ns.map V.int)) ∧ N ≠ t ∧ Ns.length = 4 ∧
  ∀ wn us u H', Dr K H' d t → But t H H' → H u = none → H' u = some (.lst us) → Paired (EvAt H') us wn → (∀ q ∈ wn, inW ts q.2.2) → wn.length ≤ 5 → Q (.ref u) H'
set_option maxHeartbeats 16000000 in
set_option pp.maxSteps 900 in
theorem ok__law_wants {P : Program} {w : World} {K : PySem.W.Frag} {mg : Str → Option Value} {base : Heap} (T : Txt K mg) : FnOk P w K mg base CX0 6 T.a__law_wants T.fd__law_wants ["_law_draws_here", "_law_at", "_law_rows_here", "_law_things_here", "_law_names_here"] (spLWants K) := by
  refine T.F__law_wants.ok sc__law_wants (fun vs H Q E h => ?_) (fun cdv A outer s H vs Q E hr h => ?_)
  · obtain ⟨d, t, R, M, N, ws, us, rs, ts, Ns, rfl, _⟩ := h; rfl
  · obtain ⟨d, t, R, M, N, ws, us, rs, ts, Ns, rfl, D0, hR, nRt, rR, hM, nMt, mM, lus, hN, nNt, lN, q⟩ := h
    refine ⟨_, (pss_cons (ps_set (i := 5) sc__law_wants.nd rfl (.inl rfl) (pe_lst pa_nil))
      (pss_cons (ps_if (pt_cmpR op_gt (pe_callB call_len_seq (by rfl) T.n_len (by decide +kernel) (pa_cons (pv 3) pa_nil)) (pe_int) (nomark _)) (pss_one (ps_for PassesOwn.never rfl (pi_range1 (by rfl) T.n_range (pa_cons (pe_op op_sub (pe_int) (pe_call (ok__law_take T) (hr.mono (by omega)) (by rfl) T.g__law_take T.F__law_take.kp T.b__law_take .nil pass0 (pa_cons (pv 0) (pa_cons (pv 1) (pa_cons (pe_int) pa_nil))))) pa_nil)) (pg_name (i := 6) sc__law_wants.nd rfl (.inl rfl)) (pss_cons (ps_set (i := 7) sc__law_wants.nd rfl (.inl rfl) (pe_op op_mod (pe_callTy call_int1 (by rfl) T.n_int (by decide +kernel) (pa_cons (pe_op op_add (pv 6) (pe_call (ok__law_take T) (hr.mono (by omega)) (by rfl) T.g__law_take T.F__law_take.kp T.b__law_take .nil pass0 (pa_cons (pv 0) (pa_cons (pv 1) (pa_cons (pe_int) pa_nil))))) pa_nil)) (pe_int)))
      (pss_cons (ps_set (i := 8) sc__law_wants.nd rfl (.inl rfl) (pe_op op_mod (pe_callTy call_int1 (by rfl) T.n_int (by decide +kernel) (pa_cons (pe_op op_add (pe_op op_add (pv 6) (pe_int)) (pe_call (ok__law_take T) (hr.mono (by omega)) (by rfl) T.g__law_take T.F__law_take.kp T.b__law_take .nil pass0 (pa_cons (pv 0) (pa_cons (pv 1) (pa_cons (pe_callB call_len_seq (by rfl) T.n_len (by decide +kernel) (pa_cons (pv 3) pa_nil)) pa_nil))))) pa_nil)) (pe_callB call_len_seq (by rfl) T.n_len (by decide +kernel) (pa_cons (pv 3) pa_nil))))
      (pss_cons (ps_set (i := 9) sc__law_wants.nd rfl (.inl rfl) (pe_str))
      (C8.pss_cut (ps_if (PW.pt (pw_and (pt_val (pe_call (ok__law_shared T) (hr.mono (by omega)) (by rfl) T.g__law_shared T.F__law_shared.kp T.b__law_shared .nil pass0 (pa_cons (pv 2) (pa_cons (pe_ix ix_list (pe_ix ix_list (pv 3) (pv 8) (fun _ _ => rfl)) (pe_int) (fun _ _ => rfl)) pa_nil)))) (pw_and1 (pt_cmpR op_eq (pe_call (ok__law_take T) (hr.mono (by omega)) (by rfl) T.g__law_take T.F__law_take.kp T.b__law_take .nil pass0 (pa_cons (pv 0) (pa_cons (pv 1) (pa_cons (pe_int) pa_nil)))) (pe_int) (nomark _))))) (pss_one (ps_set (i := 9) sc__law_wants.nd rfl (.inl rfl) (pe_str))) pss_nil)
      (pss_one (ps_expr (pe_bm PySem.F.plainAttrs_list PySem.F.slot_list_append PySem.F.type_list_append mt_append (pv 5) (pa_cons (pe_tup (pa_cons (pe_ix ix_list (pe_op op_cat (pv 4) (pe_lst (pa_cons (pe_int) pa_nil))) (pv 7) (fun _ _ => rfl)) (pa_cons (pe_tup (pa_cons (pv 9) (pa_cons (pv 8) pa_nil))) pa_nil))) pa_nil)))))))))) pss_nil)
      (pss_one (ps_ret (pv 5))))), ?_⟩
    have big : 100000 < sizeLine := by decide
    have lts := pair_len' mM
    refine ⟨Nat.zero_le _, fun O nO => ?_⟩
    have s1 := same_new (o := .lst []) nO
    have nOt : O ≠ t := D0.na nO
    refine ⟨_, rfl, M, _, rfl, .inl (SqL.of (s1 _ _ hM)), _, _, rfl, rfl, _, rfl, iteD (fun c => ?_) (fun c => ?_)⟩
    rotate_left
    · exact ⟨_, rfl, q [] [] O _ (D0.same s1) (But.of_same s1) nO upd_same .nil (fun _ h => nomatch h) (by decide)⟩
    refine ⟨_, rfl, _, rfl, d, t, 6, rfl, D0.same s1, by decide, fun r H2 r0 r1 D2 b2 => ⟨_, _, rfl, rfl, _, rfl, by omega, by omega, for_range (lo := 0) (n := (5 - r).toNat) (fun k σ H' => ∃ (x6 x7 x8 x9 : Option V) (vs : List V) (wn : List Ev), σ = [some (.ref d), some (.ref t), some (.ref R), some (.ref M), some (.ref N), some (.ref O), x6, x7, x8, x9] ∧ Dr K H' d t ∧ But t H H' ∧ H' O = some (.lst vs) ∧ Paired (EvAt H') vs wn ∧ (∀ q ∈ wn, inW ts q.2.2) ∧ wn.length ≤ k) ⟨_, _, _, _, [], [], rfl, D2, (But.of_same s1).trans b2, b2 _ _ nOt upd_same, .nil, (fun _ h => nomatch h), Nat.zero_le _⟩ ?_ ?_⟩⟩
    rotate_left
    · rintro σ H3 ⟨x6, x7, x8, x9, vs, wn, rfl, D3, b3, hO, pw, iw, lw⟩
      exact ⟨_, rfl, q wn vs O H3 D3 b3 nO hO pw iw (by omega)⟩
    rintro k σ H3 hk ⟨x6, x7, x8, x9, vs, wn, rfl, D3, b3, hO, pw, iw, lw⟩
    rw [Int.zero_add]
    -- the place
    refine ⟨_, rfl, _, rfl, _, rfl, d, t, 5, rfl, D3, by decide, fun r4 H4 r40 r41 D4 b4 => ⟨_, _, rfl, rfl, .inl ⟨_, rfl, _, _, rfl, rfl, (by omega : (0 : Int) < 5), ?_⟩⟩⟩
    have b04 := b3.trans b4
    have cpos : (0 : Int) < ((us.length : Nat) : Int) := c
    refine ⟨_, rfl, _, _, rfl, rfl, _, rfl, _, rfl, _, rfl, M, _, rfl, .inl (SqL.of (b04 _ _ nMt hM)), d, t, _, rfl, D4, cpos, fun r5 H5 r50 r51 D5 b5 => ⟨_, _, rfl, rfl, .inl ⟨_, rfl, _, rfl, M, _, rfl, .inl (SqL.of (b5 _ _ nMt (b04 _ _ nMt hM))), _, _, rfl, rfl, cpos, ?_⟩⟩⟩
    have b05 := b04.trans b5
    have hO5 := b5 _ _ nOt (b4 _ _ nOt hO)
    have pw5 : Paired (EvAt H5) vs wn := L2.Paired.mapP pw fun _ _ x => x.keep fun a xs h => by
      have nat : a ≠ t := fun e => by obtain ⟨_, ht⟩ := D3.pl; rw [e, ht] at h; cases h
      exact b5 _ _ nat (b4 _ _ nat h)
    have j0 := Int.emod_nonneg (((k : Nat) : Int) + 1 + r5) (by omega : ((us.length : Nat) : Int) ≠ 0)
    have j1 := Int.emod_lt_of_pos (((k : Nat) : Int) + 1 + r5) cpos
    obtain ⟨jj, hjj⟩ : ∃ jj, (((k : Nat) : Int) + 1 + r5) % ((us.length : Nat) : Int) = jj := ⟨_, rfl⟩
    rw [hjj] at j0 j1
    have iwj : inW ts jj := ⟨j0, by rw [← lts]; exact j1⟩
    obtain ⟨pq, pp, hat, npq, _, hpq⟩ := mt_at mM iwj
    have npq : pq ≠ t := fun e => npq (by rw [e]; exact List.mem_singleton.mpr rfl)
    have p0 := Int.emod_nonneg (((k : Nat) : Int) + r4) (by omega : (5 : Int) ≠ 0)
    have p1 := Int.emod_lt_of_pos (((k : Nat) : Int) + r4) (by omega : (0 : Int) < 5)
    obtain ⟨pl, hpl⟩ : ∃ pl, (((k : Nat) : Int) + r4) % 5 = pl := ⟨_, rfl⟩
    rw [hpl] at p0 p1
    have hat' : atI us ((((k : Nat) : Int) + 1 + r5) % ((us.length : Nat) : Int)) = some (.ref pq) := by rw [hjj]; exact hat
    refine ⟨fun σ' H' => ∃ (z : Str), σ' = [some (.ref d), some (.ref t), some (.ref R), some (.ref M), some (.ref N), some (.ref O), some (.int ((k : Nat) : Int)), some (.int pl), some (.int jj), some (.str z)] ∧ Dr K H' d t ∧ But t H H' ∧ H' O = some (.lst vs) ∧ Paired (EvAt H') vs wn, ?_, ?_⟩
    · have rR5 := rowsN_sub (rowsN_le rR fun a o f e => b05 a o f e) (G := fun _ => True) fun _ _ => trivial
      refine ⟨_, rfl, _, rfl, _, rfl, _, _, _, _, rfl, rfl, SqL.of (b05 _ _ nMt hM), hat', _, _, _, _, rfl, rfl, SqL.of (b05 _ _ npq hpq), atI_nat (j := 0) rfl, R, ws, rs, _, rfl, b05 _ _ nRt hR, rR5, _, rfl, iteB (fun c2 => ?_) (fun c2 => iteNo rfl ⟨_, (by subst hpl hjj; rfl), D5, b05, hO5, pw5⟩)⟩
      refine ⟨_, rfl, _, rfl, d, t, 3, rfl, D5, by decide, fun r6 H6 r60 r61 D6 b6 => ⟨rfl, _, rfl, ?_⟩⟩
      have pw6 : Paired (EvAt H6) vs wn := L2.Paired.mapP pw5 fun _ _ x => x.keep fun a xs h => by
        have nat : a ≠ t := fun e => by obtain ⟨_, ht⟩ := D5.pl; rw [e, ht] at h; cases h
        exact b6 _ _ nat h
      exact iteD (fun c3 => ⟨_, (by subst hpl hjj; rfl), D6, b05.trans b6, b6 _ _ nOt hO5, pw6⟩) (fun c3 => ⟨_, (by subst hpl hjj; rfl), D6, b05.trans b6, b6 _ _ nOt hO5, pw6⟩)
    clear hat' hjj hpl pw5 hO5 b05 D5 b5 b04 D4 b4 pw hO b3 D3 hpq hat r50 r51 r40 r41
    rintro σ' H6 ⟨z, rfl, D6, b6, hO6, pw6⟩
    obtain ⟨pn, rfl⟩ := Int.eq_ofNat_of_zero_le p0
    have hN6 := b6 _ _ nNt hN
    have lpn : pn < (Ns ++ [6]).length := by rw [List.length_append, lN]; show pn < 5; omega
    have hx : ((Ns.map V.int) ++ [V.int 6])[pn]? = some (.int (Ns ++ [6])[pn]) := by
      rw [show (Ns.map V.int) ++ [V.int 6] = (Ns ++ [6]).map V.int by rw [List.map_append]; rfl, List.getElem?_map, List.getElem?_eq_getElem lpn]; rfl
    refine ⟨_, rfl, .inl ⟨rfl, _, SqL.of hO6⟩, _, rfl, by show 1 ≤ sizeLine; decide, fun l1 n1 => ?_⟩
    have s7 := same_new (o := .lst [.int 6]) n1
    refine ⟨N, l1, _, _, rfl, rfl, s7 _ _ hN6, upd_same, by rw [List.length_map, lN]; show 4 + 1 ≤ sizeLine; decide, fun l2 n2 => ?_⟩
    have s8 := same_new (o := .lst (Ns.map V.int ++ [.int 6])) n2
    refine ⟨_, rfl, _, _, _, _, rfl, rfl, SqL.of upd_same, atI_nat hx, ?_⟩
    have s68 := s7.trans s8
    revert s68
    generalize upd (upd H6 l1 (.lst [.int 6])) l2 (.lst (Ns.map V.int ++ [.int 6])) = H8
    intro s68
    refine ⟨_, rfl, _, rfl, by show 2 ≤ sizeLine; decide, fun q1 nq1 => ?_⟩
    have s9 := same_new (o := .tup [.str z, .int jj]) nq1
    refine ⟨by show 2 ≤ sizeLine; decide, fun q2 nq2 => ?_⟩
    have s10 := same_new (o := .tup [.int (Ns ++ [6])[pn], .ref q1]) nq2
    have s6t := (s68.trans s9).trans s10
    have hO10 := s6t _ _ hO6
    have lvs := pair_len' pw6
    refine ⟨_, _, _, rfl, rfl, hO10, by omega, ?_⟩
    have nq1O : q1 ≠ O := (ne_of_none (s68 _ _ hO6) nq1).symm
    have nq2O : q2 ≠ O := (ne_of_none ((s68.trans s9) _ _ hO6) nq2).symm
    have hq1 : (upd (upd H8 q1 (.tup [.str z, .int jj])) q2 (.tup [.int (Ns ++ [6])[pn], .ref q1])) q1 = some (.tup [.str z, .int jj]) := s10 _ _ upd_same
    have hq2 : (upd (upd H8 q1 (.tup [.str z, .int jj])) q2 (.tup [.int (Ns ++ [6])[pn], .ref q1])) q2 = some (.tup [.int (Ns ++ [6])[pn], .ref q1]) := upd_same
    revert s6t hO10 hq1 hq2
    generalize upd (upd H8 q1 (.tup [.str z, .int jj])) q2 (.tup [.int (Ns ++ [6])[pn], .ref q1]) = H10
    intro s6t hO10 hq1 hq2
    have D10 := D6.same s6t
    obtain ⟨kt, ht⟩ := D10.pl
    obtain ⟨_, hd0⟩ := D0.ds
    have keep : ∀ {c : Addr} {o : HO}, c ≠ O → H10 c = some o → (upd H10 O (.lst (vs ++ [.ref q2]))) c = some o := fun n h => by rw [upd_ne n]; exact h
    refine ⟨_, _, _, _, vs ++ [.ref q2], wn ++ [((Ns ++ [6])[pn], (z, jj))], rfl, ⟨D10.ds.elim fun ns h => ⟨ns, keep (ne_of_none hd0 nO) h⟩, ⟨kt, keep nOt.symm ht⟩, D10.ne⟩, fun c o n h => keep (ne_of_none h nO) (s6t _ _ (b6 _ _ n h)), upd_same, ?_, fun q hq => ?_, by rw [List.length_append]; simp; omega⟩
    · exact pair_app (L2.Paired.mapP pw6 fun _ _ x => x.keep fun a xs h => keep (fun e => by rw [e, hO6] at h; cases h) (s6t _ _ h)) (.cons ⟨q2, q1, rfl, keep nq2O hq2, keep nq1O hq1⟩ .nil)
    · rcases List.mem_append.mp hq with hq | hq
      · exact iw q hq
      · rw [List.mem_singleton.mp hq]; exact iwj
end My

namespace My
open PySem L2
/-! ### what a place may do next -/
theorem ne_od : ("own" : Str) ≠ "drop" := by decide
theorem ne_os : ("own" : Str) ≠ "share" := by decide
theorem ne_sd : ("share" : Str) ≠ "drop" := by decide
theorem ne_so : ("share" : Str) ≠ "own" := by decide
theorem ne_ds : ("drop" : Str) ≠ "share" := by decide
theorem no_clash {ev : List Ev} {N : Nat} {n : Int} {z : Str} {t : Int} (rg : ∀ e ∈ ev, 0 ≤ e.1 ∧ e.1 < (N : Int)) (ok : deedOk z) (nz : z ≠ "drop") (fr : ∀ j : Nat, j < N → ((j : Nat) : Int) ≠ n → freeB z t (trOf ev ((j : Nat) : Int))) : ∀ m ∈ namesOf ev, ¬ clashB ev n z t m := fun m hm ⟨ne, q, hq, c⟩ => by
  obtain ⟨e, he, rfl⟩ := names_mem.mp hm
  obtain ⟨h0, h1⟩ := rg e he
  obtain ⟨j, hj⟩ := Int.eq_ofNat_of_zero_le h0
  rw [hj] at ne hq
  obtain ⟨f1, f2⟩ := fr j (by omega) ne
  unfold holdH at hq
  rcases ok with rfl | rfl | rfl
  · rw [f1 rfl] at hq; cases hq
  · cases e2 : heldAt (trOf ev ((j : Nat) : Int)) t with
    | none => rw [e2] at hq; cases hq
    | some k =>
      rw [e2] at hq
      obtain rfl := List.mem_singleton.mp hq
      have := f2 rfl k e2
      rw [this] at c
      exact c.elim (fun h => absurd h ne_so) (fun h => absurd h ne_so)
  · exact nz rfl
theorem StsL.set {n : Nat} {H : Hp} {as : List Addr} {f g : Nat → List Lk} {i : Nat} {a : Addr} (h : StsL n H as f) (nd : as.Nodup) (ha : as[i]? = some a) (hi : ∀ j, j ≠ i → g j = f j) : StsL n (upd H a (.lst (stV (g i) n))) as g := fun j b hb => by
  by_cases c : j = i
  · subst c
    rw [ha] at hb
    obtain rfl := Option.some.inj hb
    exact upd_same
  · have : b ≠ a := fun e => c (by
      have lj := (List.getElem?_eq_some_iff.mp hb).1
      exact (List.getElem?_inj lj nd).mp (hb.trans (e ▸ ha.symm)))
    rw [upd_ne this, hi j c]
    exact h j b hb
def OkEv (ts : List Th) (rs : List Row) (f : Nat → List Lk) (N : Nat) (c : Ev) : Prop := ∃ i j : Nat, i < N ∧ c.1 = ((i : Nat) : Int) ∧ j < ts.length ∧ c.2.2 = ((j : Nat) : Int) ∧ deedOk c.2.1 ∧ dueS ts rs (f i) c.2.1 ((j : Nat) : Int) = none ∧ ∀ i' : Nat, i' < N → ((i' : Nat) : Int) ≠ ((i : Nat) : Int) → freeB c.2.1 ((j : Nat) : Int) (f i')
theorem code_none {tr : List Lk} {t : Int} (h : codeL (lkAt tr t) = 0) : lkAt tr t = none := by
  cases e : lkAt tr t with
  | none => rfl
  | some k =>
    rw [e] at h
    obtain ⟨a, o, d⟩ := k
    cases o <;> cases d <;> simp [codeL] at h
theorem code_in {tr : List Lk} {t : Int} (h0 : codeL (lkAt tr t) ≠ 0) (h3 : codeL (lkAt tr t) < 3) : (heldAt tr t).isSome = true := by
  refine code_held.mp ?_
  cases e : lkAt tr t with
  | none => rw [e] at h0; exact absurd rfl h0
  | some k =>
    rw [e] at h3
    obtain ⟨a, o, d⟩ := k
    cases o <;> cases d <;> simp [codeL] at h3 ⊢
theorem shared_at {rs : List Row} {ts : List Th} {t : Int} : (((findR rs (markW ts t)).map (·.sh)).getD false) = sharedW rs ts t := rfl
def spLChoices : Sp := fun vs H Q _ => ∃ (R M S : Addr) (ws us : List V) (as : List Addr) (f : Nat → List Lk) (rs : List Row) (ts : List Th) (pl : Bool), vs = [.ref R, .ref M, .ref S, .bl pl] ∧ H R = some (.lst ws) ∧ RowsN (fun _ => True) true H ws rs ∧ H M = some (.lst us) ∧ MtsN [] H us ts ∧ us.length ≤ 100 ∧ H S = some (.lst (as.map V.ref)) ∧ as.length ≤ 10 ∧ StsL ts.length H as f ∧
  ∀ u cs ch H', Same H H' → H u = none → H' u = some (.lst cs) → Paired (EvAt H') cs ch → (∀ c ∈ ch, OkEv ts rs f as.length c) → Q (.ref u) H'
section
variable {P : Program} {w : World} {K : PySem.W.Frag} {mg : Str → Option Value} {base : Heap}
set_option maxHeartbeats 32000000 in
set_option pp.maxSteps 900 in
theorem ok__law_choices (T : Txt K mg) : FnOk P w K mg base CX0 6 T.a__law_choices T.fd__law_choices ["_law_rows_here", "_law_things_here", "_law_states", "_law_plain"] spLChoices := by
  refine T.F__law_choices.ok sc__law_choices (fun vs H Q E h => ?_) (fun cdv A outer s H vs Q E hr h => ?_)
  · obtain ⟨R, M, S, ws, us, as, f, rs, ts, pl, rfl, _⟩ := h; rfl
  · obtain ⟨R, M, S, ws, us, as, f, rs, ts, pl, rfl, hR, rR, hM, mM, lus, hS, las, hst, q⟩ := h
    refine ⟨_, (pss_cons (ps_set (i := 4) sc__law_choices.nd rfl (.inl rfl) (pe_lst pa_nil))
      (pss_cons (ps_for PassesOwn.never rfl (pi_range1 (by rfl) T.n_range (pa_cons (pe_callB call_len_seq (by rfl) T.n_len (by decide +kernel) (pa_cons (pv 2) pa_nil)) pa_nil)) (pg_name (i := 5) sc__law_choices.nd rfl (.inl rfl)) (pss_one (ps_for PassesOwn.never rfl (pi_range1 (by rfl) T.n_range (pa_cons (pe_callB call_len_seq (by rfl) T.n_len (by decide +kernel) (pa_cons (pv 1) pa_nil)) pa_nil)) (pg_name (i := 6) sc__law_choices.nd rfl (.inl rfl)) (pss_cons (ps_set (i := 7) sc__law_choices.nd rfl (.inl rfl) (pe_ix ix_list (pe_ix ix_list (pv 2) (pv 5) (fun _ _ => rfl)) (pv 6) (fun _ _ => rfl)))
      (pss_cons (ps_set (i := 8) sc__law_choices.nd rfl (.inl rfl) (pe_lst pa_nil))
      (C8.pss_cut (ps_if (pt_cmpR op_eq (pv 7) (pe_int) (nomark _)) (pss_cons (ps_set (i := 8) sc__law_choices.nd rfl (.inl rfl) (pe_lst (pa_cons (pe_tup (pa_cons (pe_str) (pa_cons (pv 6) pa_nil))) pa_nil)))
      (pss_one (ps_if (pt_val (pe_call (ok__law_shared T) (hr.mono (by omega)) (by rfl) T.g__law_shared T.F__law_shared.kp T.b__law_shared .nil pass0 (pa_cons (pv 0) (pa_cons (pe_ix ix_list (pe_ix ix_list (pv 1) (pv 6) (fun _ _ => rfl)) (pe_int) (fun _ _ => rfl)) pa_nil)))) (pss_one (ps_expr (pe_bm PySem.F.plainAttrs_list PySem.F.slot_list_append PySem.F.type_list_append mt_append (pv 8) (pa_cons (pe_tup (pa_cons (pe_str) (pa_cons (pv 6) pa_nil))) pa_nil)))) pss_nil))) (pss_one (ps_if (PW.pt (pw_and (pt_cmpR op_lt (pv 7) (pe_int) (nomark _)) (pw_and1 (pt_not (pt_val (pv 3)))))) (pss_one (ps_set (i := 8) sc__law_choices.nd rfl (.inl rfl) (pe_lst (pa_cons (pe_tup (pa_cons (pe_str) (pa_cons (pv 6) pa_nil))) pa_nil)))) pss_nil)))
      (pss_one (ps_for PassesOwn.never rfl (pi_list (pv 8)) (pg_name (i := 9) sc__law_choices.nd rfl (.inl rfl)) (pss_one (ps_if (pt_val (pe_call (ok__law_free T) (hr.mono (by omega)) (by rfl) T.g__law_free T.F__law_free.kp T.b__law_free .nil pass0 (pa_cons (pv 2) (pa_cons (pv 5) (pa_cons (pv 9) pa_nil))))) (pss_one (ps_expr (pe_bm PySem.F.plainAttrs_list PySem.F.slot_list_append PySem.F.type_list_append mt_append (pv 4) (pa_cons (pe_tup (pa_cons (pv 5) (pa_cons (pv 9) pa_nil))) pa_nil)))) pss_nil))))))))))
      (pss_one (ps_ret (pv 4))))), ?_⟩
    have big : 100000 < sizeLine := by decide
    have lts := pair_len' mM
    have lam : (as.map V.ref).length = as.length := List.length_map ..
    refine ⟨Nat.zero_le _, fun O nO => ?_⟩
    have s1 := same_new (o := .lst []) nO
    refine ⟨_, rfl, S, _, rfl, .inl (SqL.of (s1 _ _ hS)), _, rfl, by omega, by omega, for_range (lo := 0) (n := (as.map V.ref).length) (fun i σ H' => ∃ (x5 x6 x7 x8 x9 : Option V) (cs : List V) (ch : List Ev), σ = [some (.ref R), some (.ref M), some (.ref S), some (.bl pl), some (.ref O), x5, x6, x7, x8, x9] ∧ Same H H' ∧ H' O = some (.lst cs) ∧ Paired (EvAt H') cs ch ∧ (∀ c ∈ ch, OkEv ts rs f as.length c) ∧ cs.length ≤ i * 1000) ⟨_, _, _, _, _, [], [], rfl, s1, upd_same, .nil, (fun _ h => nomatch h), Nat.zero_le _⟩ ?_ ?_⟩
    rotate_left
    · rintro σ H2 ⟨x5, x6, x7, x8, x9, cs, ch, rfl, s2, h2, p2, ok2, _⟩
      exact ⟨_, rfl, q O cs ch H2 s2 nO h2 p2 ok2⟩
    rintro i σ H2 hi ⟨x5, x6, x7, x8, x9, cs, ch, rfl, s2, h2, p2, ok2, l2⟩
    rw [Int.zero_add]
    rw [lam] at hi
    obtain ⟨a, hai, hav⟩ := get_ref (as := as) (j := i) hi
    refine ⟨_, rfl, M, _, rfl, .inl (SqL.of (s2 _ _ hM)), _, rfl, by omega, by omega, for_range (lo := 0) (n := us.length) (fun j σ H' => ∃ (x6 x7 x8 x9 : Option V) (cs : List V) (ch : List Ev), σ = [some (.ref R), some (.ref M), some (.ref S), some (.bl pl), some (.ref O), some (.int ((i : Nat) : Int)), x6, x7, x8, x9] ∧ Same H H' ∧ H' O = some (.lst cs) ∧ Paired (EvAt H') cs ch ∧ (∀ c ∈ ch, OkEv ts rs f as.length c) ∧ cs.length ≤ i * 1000 + j * 10) ⟨_, _, _, _, cs, ch, rfl, s2, h2, p2, ok2, by omega⟩ ?_ ?_⟩
    rotate_left
    · rintro σ H3 ⟨x6, x7, x8, x9, cs, ch, rfl, s3, h3, p3, ok3, l3⟩
      exact ⟨_, _, _, _, _, cs, ch, rfl, s3, h3, p3, ok3, by rw [Nat.succ_mul]; omega⟩
    rintro j σ H3 hj ⟨x6, x7, x8, x9, cs, ch, rfl, s3, h3, p3, ok3, l3⟩
    rw [Int.zero_add]
    have hjt : j < ts.length := by omega
    have iw : inW ts ((j : Nat) : Int) := ⟨by omega, by omega⟩
    obtain ⟨pq, pp, hat, _, _, hpq⟩ := mt_at mM iw
    refine ⟨_, rfl, _, rfl, _, _, _, _, rfl, rfl, SqL.of (s3 _ _ hS), atI_nat hav, _, rfl, _, _, _, _, rfl, rfl, SqL.of (s3 _ _ (hst i a hai)), atI_nat (stV_at hjt), ?_⟩
    refine ⟨Nat.zero_le _, fun L nL => ?_⟩
    have s4 := same_new (o := .lst []) nL
    have hL0 : (upd H3 L (.lst [])) L = some (.lst []) := upd_same
    have nLO : L ≠ O := (ne_of_none h3 nL).symm
    revert s4 hL0
    generalize upd H3 L (.lst []) = H4
    intro s4 hL0
    have s04 := s3.trans s4
    refine ⟨fun σ' H' => ∃ (L : Addr) (sl : List V) (ss : List Stp), σ' = [some (.ref R), some (.ref M), some (.ref S), some (.bl pl), some (.ref O), some (.int ((i : Nat) : Int)), some (.int ((j : Nat) : Int)), some (.int (codeL (lkAt (f i) ((j : Nat) : Int)))), some (.ref L), x9] ∧ Same H3 H' ∧ L ≠ O ∧ H' L = some (.lst sl) ∧ Stps H' sl ss ∧ (∀ s ∈ ss, s.2 = ((j : Nat) : Int) ∧ deedOk s.1 ∧ dueS ts rs (f i) s.1 ((j : Nat) : Int) = none) ∧ sl.length ≤ 2, ?_, ?_⟩
    · refine ⟨_, rfl, rfl, _, rfl, iteD (fun c => ?_) (fun c => ?_)⟩
      · have c := code_none (V.int.inj c)
        have own : dueS ts rs (f i) "own" ((j : Nat) : Int) = none := by
          rw [due_lock (.inl rfl) iw (by decide), c, if_neg (by simp), if_neg (fun h => absurd h.1 (by decide))]
        refine ⟨_, rfl, by show 2 ≤ sizeLine; decide, fun t1 nt1 => ⟨by show 1 ≤ sizeLine; decide, fun L1 nL1 => ?_⟩⟩
        have s5 := same_new (o := .tup [.str "own", .int ((j : Nat) : Int)]) nt1
        have s6 := same_new (o := .lst [.ref t1]) nL1
        have s46 := s5.trans s6
        have nL1O : L1 ≠ O := (ne_of_none (s5 _ _ (s4 _ _ h3)) nL1).symm
        have hL1 : (upd (upd H4 t1 (.tup [.str "own", .int ((j : Nat) : Int)])) L1 (.lst [.ref t1])) L1 = some (.lst [.ref t1]) := upd_same
        have ht1 : (upd (upd H4 t1 (.tup [.str "own", .int ((j : Nat) : Int)])) L1 (.lst [.ref t1])) t1 = some (.tup [.str "own", .int ((j : Nat) : Int)]) := s6 _ _ upd_same
        revert s46 hL1 ht1
        generalize upd (upd H4 t1 (.tup [.str "own", .int ((j : Nat) : Int)])) L1 (.lst [.ref t1]) = H6
        intro s46 hL1 ht1
        have s06 := s04.trans s46
        have stp1 : Stps H6 [.ref t1] [(("own" : Str), ((j : Nat) : Int))] := .cons ⟨t1, rfl, ht1⟩ .nil
        have ok1 : ∀ s ∈ [(("own" : Str), ((j : Nat) : Int))], s.2 = ((j : Nat) : Int) ∧ deedOk s.1 ∧ dueS ts rs (f i) s.1 ((j : Nat) : Int) = none := fun s h => by
          rw [List.mem_singleton.mp h]; exact ⟨rfl, .inl rfl, own⟩
        refine ⟨_, rfl, _, rfl, _, rfl, _, _, _, _, rfl, rfl, SqL.of (s06 _ _ hM), hat, _, _, _, _, rfl, rfl, SqL.of (s06 _ _ hpq), atI_nat (j := 0) rfl, R, ws, rs, _, rfl, s06 _ _ hR, rowsN_same rR s06, _, rfl, iteB (fun c2 => ?_) (fun c2 => ⟨L1, _, _, rfl, s4.trans s46, nL1O, hL1, stp1, ok1, by simp⟩)⟩
        have c2 : sharedW rs ts ((j : Nat) : Int) = true := c2
        have share : dueS ts rs (f i) "share" ((j : Nat) : Int) = none := by
          rw [due_lock (.inr (.inl rfl)) iw (by decide), c, if_neg (by simp), if_neg (fun h => by rw [c2] at h; cases h.2)]
        refine ⟨_, rfl, .inl ⟨rfl, _, SqL.of hL1⟩, _, rfl, by show 2 ≤ sizeLine; decide, fun t2 nt2 => ?_⟩
        have s7 := same_new (o := .tup [.str "share", .int ((j : Nat) : Int)]) nt2
        have nt2L : t2 ≠ L1 := (ne_of_none hL1 nt2).symm
        have nt1L : t1 ≠ L1 := fun e => by rw [e, hL1] at ht1; cases ht1
        refine ⟨_, _, _, rfl, rfl, s7 _ _ hL1, by show 1 < sizeLine; decide, ?_⟩
        refine ⟨L1, _, [(("own" : Str), ((j : Nat) : Int)), (("share" : Str), ((j : Nat) : Int))], rfl, ?_, nL1O, upd_same, .cons ⟨t1, rfl, by rw [upd_ne nt1L]; exact s7 _ _ ht1⟩ (.cons ⟨t2, rfl, by rw [upd_ne nt2L, upd_same]⟩ .nil), fun s h => ?_, by simp⟩
        · exact same_mut (s4.trans (s46.trans s7)) (s4.free (s5.free nL1))
        · simp only [List.mem_cons, List.not_mem_nil, or_false] at h
          rcases h with rfl | rfl
          · exact ⟨rfl, .inl rfl, own⟩
          · exact ⟨rfl, .inr (.inl rfl), share⟩
      · have stay : ∃ (L0 : Addr) (sl : List V) (ss : List Stp), [some (V.ref R), some (.ref M), some (.ref S), some (.bl pl), some (.ref O), some (.int ((i : Nat) : Int)), some (.int ((j : Nat) : Int)), some (.int (codeL (lkAt (f i) ((j : Nat) : Int)))), some (.ref L), x9] = [some (.ref R), some (.ref M), some (.ref S), some (.bl pl), some (.ref O), some (.int ((i : Nat) : Int)), some (.int ((j : Nat) : Int)), some (.int (codeL (lkAt (f i) ((j : Nat) : Int)))), some (.ref L0), x9] ∧ Same H3 H4 ∧ L0 ≠ O ∧ H4 L0 = some (.lst sl) ∧ Stps H4 sl ss ∧ (∀ s ∈ ss, s.2 = ((j : Nat) : Int) ∧ deedOk s.1 ∧ dueS ts rs (f i) s.1 ((j : Nat) : Int) = none) ∧ sl.length ≤ 2 := ⟨L, [], [], rfl, s4, nLO, hL0, .nil, (fun _ h => nomatch h), by decide⟩
        refine ⟨_, rfl, _, _, rfl, rfl, _, rfl, iteD (fun c2 => ?_) (fun c2 => iteNo rfl stay)⟩
        have c0 : codeL (lkAt (f i) ((j : Nat) : Int)) ≠ 0 := fun h => c (by rw [h])
        have drop : dueS ts rs (f i) "drop" ((j : Nat) : Int) = none := by
          rw [due_drop iw, if_pos (code_in c0 c2)]
        cases pl with
        | true => exact ⟨_, rfl, _, rfl, iteNo rfl stay⟩
        | false =>
          refine ⟨_, rfl, _, rfl, iteYes rfl ⟨_, rfl, by show 2 ≤ sizeLine; decide, fun t1 nt1 => ⟨by show 1 ≤ sizeLine; decide, fun L1 nL1 => ?_⟩⟩⟩
          have s5 := same_new (o := .tup [.str "drop", .int ((j : Nat) : Int)]) nt1
          have s6 := same_new (o := .lst [.ref t1]) nL1
          refine ⟨L1, _, [(("drop" : Str), ((j : Nat) : Int))], rfl, s4.trans (s5.trans s6), (ne_of_none (s5 _ _ (s4 _ _ h3)) nL1).symm, upd_same, .cons ⟨t1, rfl, s6 _ _ upd_same⟩ .nil, fun s h => ?_, by simp⟩
          rw [List.mem_singleton.mp h]; exact ⟨rfl, .inr (.inr rfl), drop⟩
    clear s04 s4 hL0 nLO nL L
    rintro σ' H5 ⟨L, sl, ss, rfl, s5, nLO, hL, pS, okS, lS⟩
    have s05 := s3.trans s5
    have h5O := s5 _ _ h3
    refine ⟨_, rfl, L, rfl, ⟨_, SqL.of hL⟩, for_list (K := K) (a := L) (xs := sl) (fun m σ H' => ∃ (x9 : Option V) (cs : List V) (ch : List Ev), σ = [some (.ref R), some (.ref M), some (.ref S), some (.bl pl), some (.ref O), some (.int ((i : Nat) : Int)), some (.int ((j : Nat) : Int)), some (.int (codeL (lkAt (f i) ((j : Nat) : Int)))), some (.ref L), x9] ∧ But O H5 H' ∧ H' O = some (.lst cs) ∧ Paired (EvAt H') cs ch ∧ (∀ c ∈ ch, OkEv ts rs f as.length c) ∧ cs.length ≤ i * 1000 + j * 10 + m) ⟨_, cs, ch, rfl, But.refl _ _, h5O, L2.Paired.mapP p3 fun _ _ x => x.keep (.same s5), ok3, by omega⟩ (fun m σ H' _ ⟨_, _, _, _, b, _⟩ => SqL.of (b _ _ nLO hL)) ?_ ?_⟩
    · rintro m v σ H6 hv ⟨x9, cs, ch, rfl, b6, h6, p6, ok6, l6⟩
      have hm := (List.getElem?_eq_some_iff.mp hv).1
      obtain ⟨st, hst5, qa, rfl, hqa⟩ := pair_get pS hv
      obtain ⟨e2, okd, du⟩ := okS st (List.mem_of_getElem? hst5)
      have nqO : qa ≠ O := fun e => by rw [e, h5O] at hqa; cases hqa
      have h6q := b6 _ _ nqO hqa
      have h6q' := h6q
      rw [e2] at h6q'
      have off : ∀ {c : Addr} {o : HO}, H c = some o → H6 c = some o := fun h => b6 _ _ (ne_of_none h nO) (s05 _ _ h)
      refine ⟨_, rfl, _, rfl, _, rfl, S, qa, as, f, ts.length, j, ((i : Nat) : Int), st.1, rfl, off hS, fun l b h => off (hst l b h), h6q', hjt, by omega, fun b hb => ⟨_, rfl, iteB (fun e => ?_) (fun e => ⟨_, cs, ch, rfl, b6, h6, p6, ok6, by omega⟩)⟩⟩
      refine ⟨_, rfl, .inl ⟨rfl, _, SqL.of h6⟩, _, rfl, _, rfl, by show 2 ≤ sizeLine; decide, fun pa npa => ?_⟩
      have npO : pa ≠ O := (ne_of_none h6 npa).symm
      have lim : i * 1000 ≤ 10 * 1000 := Nat.mul_le_mul_right _ (by omega)
      have b7 : But O H6 (upd (upd H6 pa (.tup [.int ((i : Nat) : Int), .ref qa])) O (.lst (cs ++ [.ref pa]))) := (But.of_same (same_new npa)).trans But.upd
      refine ⟨_, _, _, rfl, rfl, same_new npa _ _ h6, by omega, _, cs ++ [.ref pa], ch ++ [(((i : Nat) : Int), st)], rfl, b6.trans b7, upd_same, ?_, fun c hc => ?_, by rw [List.length_append]; simp; omega⟩
      · exact pair_app (L2.Paired.mapP p6 fun _ _ x => x.keep (.but b7 fun xs e => by rw [h6] at e; cases e)) (.cons ⟨pa, qa, rfl, by rw [upd_ne npO, upd_same], b7 _ _ nqO h6q⟩ .nil)
      · rcases List.mem_append.mp hc with hc | hc
        · exact ok6 c hc
        · rw [List.mem_singleton.mp hc]
          exact ⟨i, j, hi, rfl, hjt, e2, okd, du, hb e⟩
    · rintro σ H6 ⟨x9, cs, ch, rfl, b6, h6, p6, ok6, l6⟩
      exact ⟨_, _, _, _, cs, ch, rfl, fun c o h => b6 _ _ (ne_of_none h nO) (s05 _ _ h), h6, p6, ok6, by rw [Nat.succ_mul]; omega⟩
end
end My

namespace My
open PySem L2
def LeT (t : Addr) (as : List Addr) (H H' : Hp) : Prop := ∀ c o, c ≠ t → c ∉ as → H c = some o → H' c = some o
def spLBegun (K : PySem.W.Frag) : Sp := fun vs H Q _ => ∃ (d t R M S : Addr) (ws us : List V) (as : List Addr) (rs : List Row) (ts : List Th), vs = [.ref d, .ref t, .ref R, .ref M, .ref S] ∧ Dr K H d t ∧ H R = some (.lst ws) ∧ R ≠ t ∧ R ∉ as ∧ RowsN (fun a => a ≠ t ∧ a ∉ as) true H ws rs ∧ H M = some (.lst us) ∧ M ≠ t ∧ M ∉ as ∧ MtsN (t :: as) H us ts ∧ us.length ≤ 100 ∧ H S = some (.lst (as.map V.ref)) ∧ S ≠ t ∧ S ∉ as ∧ t ∉ as ∧ d ∉ as ∧ as.Nodup ∧ as.length = 4 ∧ StsL ts.length H as (fun _ => []) ∧
  ∀ pev us u H', Dr K H' d t → LeT t as H H' → H u = none → H' u = some (.lst us) → Paired (EvAt H') us pev → EvDone ts rs pev → (∀ e ∈ pev, 0 ≤ e.1 ∧ e.1 < (4 : Nat)) → pev.length ≤ 4 → StsL ts.length H' as (fun i => trOf pev ((i : Nat) : Int)) → Q (.ref u) H'
section
variable {P : Program} {w : World} {K : PySem.W.Frag} {mg : Str → Option Value} {base : Heap}
set_option maxHeartbeats 32000000 in
set_option pp.maxSteps 900 in
theorem ok__law_begun (T : Txt K mg) : FnOk P w K mg base CX0 6 T.a__law_begun T.fd__law_begun ["_law_draws_here", "_law_at", "_law_rows_here", "_law_things_here", "_law_states"] (spLBegun K) := by
  refine T.F__law_begun.ok sc__law_begun (fun vs H Q E h => ?_) (fun cdv A outer s H vs Q E hr h => ?_)
  · obtain ⟨d, t, R, M, S, ws, us, as, rs, ts, rfl, _⟩ := h; rfl
  · obtain ⟨d, t, R, M, S, ws, us, as, rs, ts, rfl, D0, hR, nRt, nRa, rR, hM, nMt, nMa, mM, lus, hS, nSt, nSa, nta, nda, nd, las, hst, q⟩ := h
    refine ⟨_, (pss_cons (ps_set (i := 5) sc__law_begun.nd rfl (.inl rfl) (pe_lst pa_nil))
      (pss_cons (ps_if (PW.pt (pw_and (pt_cmpR op_gt (pe_callB call_len_seq (by rfl) T.n_len (by decide +kernel) (pa_cons (pv 3) pa_nil)) (pe_int) (nomark _)) (pw_and1 (pt_cmpR op_ne (pe_call (ok__law_take T) (hr.mono (by omega)) (by rfl) T.g__law_take T.F__law_take.kp T.b__law_take .nil pass0 (pa_cons (pv 0) (pa_cons (pv 1) (pa_cons (pe_int) pa_nil)))) (pe_int) (nomark _))))) (pss_one (ps_for PassesOwn.never rfl (pi_range1 (by rfl) T.n_range (pa_cons (pe_int) pa_nil)) (pg_name (i := 6) sc__law_begun.nd rfl (.inl rfl)) (pss_cons (ps_set (i := 7) sc__law_begun.nd rfl (.inl rfl) (pe_op op_mod (pe_callTy call_int1 (by rfl) T.n_int (by decide +kernel) (pa_cons (pe_op op_add (pv 6) (pe_call (ok__law_take T) (hr.mono (by omega)) (by rfl) T.g__law_take T.F__law_take.kp T.b__law_take .nil pass0 (pa_cons (pv 0) (pa_cons (pv 1) (pa_cons (pe_callB call_len_seq (by rfl) T.n_len (by decide +kernel) (pa_cons (pv 3) pa_nil)) pa_nil))))) pa_nil)) (pe_callB call_len_seq (by rfl) T.n_len (by decide +kernel) (pa_cons (pv 3) pa_nil))))
      (pss_cons (ps_set (i := 8) sc__law_begun.nd rfl (.inl rfl) (pe_tup (pa_cons (pe_str) (pa_cons (pv 7) pa_nil))))
      (C8.pss_cut (ps_if (PW.pt (pw_and (pt_val (pe_call (ok__law_shared T) (hr.mono (by omega)) (by rfl) T.g__law_shared T.F__law_shared.kp T.b__law_shared .nil pass0 (pa_cons (pv 2) (pa_cons (pe_ix ix_list (pe_ix ix_list (pv 3) (pv 7) (fun _ _ => rfl)) (pe_int) (fun _ _ => rfl)) pa_nil)))) (pw_and1 (pt_cmpR op_eq (pe_call (ok__law_take T) (hr.mono (by omega)) (by rfl) T.g__law_take T.F__law_take.kp T.b__law_take .nil pass0 (pa_cons (pv 0) (pa_cons (pv 1) (pa_cons (pe_int) pa_nil)))) (pe_int) (nomark _))))) (pss_one (ps_set (i := 8) sc__law_begun.nd rfl (.inl rfl) (pe_tup (pa_cons (pe_str) (pa_cons (pv 7) pa_nil))))) pss_nil)
      (pss_one (ps_if (pt_val (pe_call (ok__law_free T) (hr.mono (by omega)) (by rfl) T.g__law_free T.F__law_free.kp T.b__law_free .nil pass0 (pa_cons (pv 4) (pa_cons (pv 6) (pa_cons (pv 8) pa_nil))))) (pss_cons (ps_expr (pe_call (ok__law_do T) (hr.mono (by omega)) (by rfl) T.g__law_do T.F__law_do.kp T.b__law_do .nil pass0 (pa_cons (pe_ix ix_list (pv 4) (pv 6) (fun _ _ => rfl)) (pa_cons (pv 8) pa_nil))))
      (pss_one (ps_expr (pe_bm PySem.F.plainAttrs_list PySem.F.slot_list_append PySem.F.type_list_append mt_append (pv 5) (pa_cons (pe_tup (pa_cons (pv 6) (pa_cons (pv 8) pa_nil))) pa_nil))))) pss_nil))))))) pss_nil)
      (pss_one (ps_ret (pv 5))))), ?_⟩
    have big : 100000 < sizeLine := by decide
    have lts := pair_len' mM
    refine ⟨Nat.zero_le _, fun O nO => ?_⟩
    have s1 := same_new (o := .lst []) nO
    have nOt : O ≠ t := D0.na nO
    have nOa : O ∉ as := fun m => by
      obtain ⟨i, hi⟩ := List.getElem?_of_mem m
      rw [hst i O hi] at nO; cases nO
    have done0 : ∀ {H2 : Hp}, Dr K H2 d t → But t H H2 → H2 O = some (.lst []) → Q (.ref O) H2 := fun {H2} D2 b2 h2 => q [] [] O H2 D2 (fun c o n _ h => b2 _ _ n h) nO h2 .nil .nil (fun _ h => nomatch h) (by decide) fun i a ha => b2 _ _ (fun e => nta (e ▸ List.mem_of_getElem? ha)) (hst i a ha)
    refine ⟨_, rfl, M, _, rfl, .inl (SqL.of (s1 _ _ hM)), _, _, rfl, rfl, _, rfl, iteD (fun c => ?_) (fun c => iteNo rfl ⟨_, rfl, done0 (D0.same s1) (But.of_same s1) upd_same⟩)⟩
    have cpos : (0 : Int) < ((us.length : Nat) : Int) := c
    refine ⟨_, rfl, _, rfl, d, t, 4, rfl, D0.same s1, by decide, fun r H2 r0 r1 D2 b2 => ⟨rfl, _, rfl, iteB (fun c2 => ?_) (fun c2 => ⟨_, rfl, done0 D2 ((But.of_same s1).trans b2) (b2 _ _ nOt upd_same)⟩)⟩⟩
    have b02 := (But.of_same s1).trans b2
    refine ⟨_, rfl, by omega, by omega, for_range (lo := 0) (n := (4 : Int).toNat) (fun k σ H' => ∃ (x6 x7 x8 : Option V) (vs : List V) (pev : List Ev), σ = [some (.ref d), some (.ref t), some (.ref R), some (.ref M), some (.ref S), some (.ref O), x6, x7, x8] ∧ Dr K H' d t ∧ LeT t as H H' ∧ H' O = some (.lst vs) ∧ Paired (EvAt H') vs pev ∧ EvDone ts rs pev ∧ (∀ e ∈ pev, 0 ≤ e.1 ∧ e.1 < (k : Int)) ∧ pev.length ≤ k ∧ StsL ts.length H' as (fun i => trOf pev ((i : Nat) : Int))) ⟨_, _, _, [], [], rfl, D2, fun c o n _ h => b02 _ _ n h, b2 _ _ nOt upd_same, .nil, .nil, (fun _ h => nomatch h), Nat.zero_le _, fun i a ha => b02 _ _ (fun e => nta (e ▸ List.mem_of_getElem? ha)) (hst i a ha)⟩ ?_ ?_⟩
    rotate_left
    · rintro σ H3 ⟨x6, x7, x8, vs, pev, rfl, D3, l3, hO, pE, dn, rg, le, st3⟩
      exact ⟨_, rfl, q pev vs O H3 D3 l3 nO hO pE dn (fun e h => ⟨(rg e h).1, (rg e h).2⟩) le st3⟩
    rintro k σ H3 hk ⟨x6, x7, x8, vs, pev, rfl, D3, l3, hO, pE, dn, rg, le, st3⟩
    rw [Int.zero_add]
    have hk : k < 4 := hk
    have offt : ∀ {c : Addr} {o : HO}, H c = some o → c ≠ t → c ∉ as → H3 c = some o := fun h n1 n2 => l3 _ _ n1 n2 h
    have tr0 : trOf pev ((k : Nat) : Int) = [] := tr_none fun m => by
      obtain ⟨e, he, ee⟩ := names_mem.mp m
      have := (rg e he).2
      omega
    refine ⟨_, rfl, _, rfl, _, rfl, _, rfl, M, _, rfl, .inl (SqL.of (offt hM nMt nMa)), d, t, _, rfl, D3, cpos, fun r5 H5 r50 r51 D5 b5 => ⟨_, _, rfl, rfl, .inl ⟨_, rfl, _, rfl, M, _, rfl, .inl (SqL.of (b5 _ _ nMt (offt hM nMt nMa))), _, _, rfl, rfl, cpos, ?_⟩⟩⟩
    have l5 : LeT t as H H5 := fun c o n1 n2 h => b5 _ _ n1 (l3 _ _ n1 n2 h)
    have hO5 := b5 _ _ nOt hO
    have pE5 : Paired (EvAt H5) vs pev := L2.Paired.mapP pE fun _ _ x => x.keep fun a xs h => by
      have nat : a ≠ t := fun e => by obtain ⟨_, ht⟩ := D3.pl; rw [e, ht] at h; cases h
      exact b5 _ _ nat h
    have st5 : StsL ts.length H5 as (fun i => trOf pev ((i : Nat) : Int)) := fun i a ha => b5 _ _ (fun e => nta (e ▸ List.mem_of_getElem? ha)) (st3 i a ha)
    have j0 := Int.emod_nonneg (((k : Nat) : Int) + r5) (by omega : ((us.length : Nat) : Int) ≠ 0)
    have j1 := Int.emod_lt_of_pos (((k : Nat) : Int) + r5) cpos
    obtain ⟨j, hj⟩ := Int.eq_ofNat_of_zero_le j0
    rw [hj] at j1
    have hjt : j < ts.length := by omega
    have iwj : inW ts ((j : Nat) : Int) := ⟨by omega, by omega⟩
    obtain ⟨pq, pp, hat, npq, _, hpq⟩ := mt_at mM iwj
    have npt : pq ≠ t := fun e => npq (by rw [e]; exact List.mem_cons_self)
    have npa : pq ∉ as := fun m => npq (List.mem_cons_of_mem _ m)
    have hat' : atI us ((((k : Nat) : Int) + r5) % ((us.length : Nat) : Int)) = some (.ref pq) := by rw [hj]; exact hat
    refine ⟨_, rfl, by show 2 ≤ sizeLine; decide, fun t1 nt1 => ?_⟩
    have own : dueS ts rs (trOf pev ((k : Nat) : Int)) "own" ((j : Nat) : Int) = none := by
      rw [tr0, due_lock (.inl rfl) iwj (by decide), if_neg (by simp [lkAt]), if_neg (fun h => absurd h.1 (by decide))]
    refine ⟨fun σ' H' => ∃ (z : Str) (p : Addr), σ' = [some (.ref d), some (.ref t), some (.ref R), some (.ref M), some (.ref S), some (.ref O), some (.int ((k : Nat) : Int)), some (.int ((j : Nat) : Int)), some (.ref p)] ∧ Dr K H' d t ∧ But t H5 H' ∧ H' p = some (.tup [.str z, .int ((j : Nat) : Int)]) ∧ (z = "own" ∨ z = "share") ∧ dueS ts rs (trOf pev ((k : Nat) : Int)) z ((j : Nat) : Int) = none, ?_, ?_⟩
    · have s6 := same_new (o := .tup [.str "own", .int ((((k : Nat) : Int) + r5) % ((us.length : Nat) : Int))]) nt1
      have ht1 : (upd H5 t1 (.tup [.str "own", .int ((((k : Nat) : Int) + r5) % ((us.length : Nat) : Int))])) t1 = some (.tup [.str "own", .int ((j : Nat) : Int)]) := by rw [upd_same, hj]
      have D6 := D5.same s6
      have nt1t : t1 ≠ t := D5.na nt1
      have rR6 : RowsN (fun _ => True) true (upd H5 t1 (.tup [.str "own", .int ((((k : Nat) : Int) + r5) % ((us.length : Nat) : Int))])) ws rs := rowsN_sub (rowsN_le rR fun a o f e => s6 _ _ (l5 a o f.1 f.2 e)) fun _ _ => trivial
      refine ⟨_, rfl, _, rfl, _, rfl, _, _, _, _, rfl, rfl, SqL.of (s6 _ _ (l5 _ _ nMt nMa hM)), hat', _, _, _, _, rfl, rfl, SqL.of (s6 _ _ (l5 _ _ npt npa hpq)), atI_nat (j := 0) rfl, R, ws, rs, _, rfl, s6 _ _ (l5 _ _ nRt nRa hR), rR6, _, rfl, iteB (fun c3 => ?_) (fun c3 => iteNo rfl ⟨"own", t1, (by rw [← hj]; rfl), D6, But.of_same s6, ht1, .inl rfl, own⟩)⟩
      have c3 : sharedW rs ts ((j : Nat) : Int) = true := c3
      have share : dueS ts rs (trOf pev ((k : Nat) : Int)) "share" ((j : Nat) : Int) = none := by
        rw [tr0, due_lock (.inr (.inl rfl)) iwj (by decide), if_neg (by simp [lkAt]), if_neg (fun h => by rw [c3] at h; cases h.2)]
      refine ⟨_, rfl, _, rfl, d, t, 3, rfl, D6, by decide, fun r6 H7 r60 r61 D7 b7 => ⟨rfl, _, rfl, iteD (fun c4 => ?_) (fun c4 => ⟨"own", t1, (by rw [← hj]; rfl), D7, (But.of_same s6).trans b7, b7 _ _ nt1t ht1, .inl rfl, own⟩)⟩⟩
      refine ⟨_, rfl, by show 2 ≤ sizeLine; decide, fun t2 nt2 => ?_⟩
      have s8 := same_new (o := .tup [.str "share", .int ((((k : Nat) : Int) + r5) % ((us.length : Nat) : Int))]) nt2
      exact ⟨"share", t2, (by rw [← hj]; rfl), D7.same s8, ((But.of_same s6).trans b7).trans (But.of_same s8), (by rw [← hj]; exact upd_same), .inr rfl, share⟩
    clear hat' own nt1 hpq
    rintro σ' H6 ⟨z, p, rfl, D6, b6, hp, zz, du⟩
    have l6 : LeT t as H H6 := fun c o n1 n2 h => b6 _ _ n1 (l5 _ _ n1 n2 h)
    have hO6 := b6 _ _ nOt hO5
    have hS6 := l6 _ _ nSt nSa hS
    have st6 : StsL ts.length H6 as (fun i => trOf pev ((i : Nat) : Int)) := fun i a ha => b6 _ _ (fun e => nta (e ▸ List.mem_of_getElem? ha)) (st5 i a ha)
    have pE6 : Paired (EvAt H6) vs pev := L2.Paired.mapP pE5 fun _ _ x => x.keep fun a xs h => by
      have nat : a ≠ t := fun e => by obtain ⟨_, ht⟩ := D5.pl; rw [e, ht] at h; cases h
      exact b6 _ _ nat h
    have okd : deedOk z := zz.elim .inl fun h => .inr (.inl h)
    have nz : z ≠ "drop" := fun h => by rcases zz with e | e <;> rw [e] at h <;> exact absurd h (by decide)
    refine ⟨_, rfl, _, rfl, _, rfl, S, p, as, (fun i => trOf pev ((i : Nat) : Int)), ts.length, j, ((k : Nat) : Int), z, rfl, hS6, st6, hp, hjt, by omega, fun b hb => ⟨_, rfl, iteB (fun e => ?_) (fun e => ⟨_, _, _, vs, pev, rfl, D6, l6, hO6, pE6, dn, fun e h => ⟨(rg e h).1, by have := (rg e h).2; omega⟩, by omega, st6⟩)⟩⟩
    have fre := hb e
    obtain ⟨a, hai, hav⟩ := get_ref (as := as) (j := k) (by omega)
    have ma := List.mem_of_getElem? hai
    have nat : a ≠ t := fun e => nta (e ▸ ma)
    have nOa' : O ≠ a := fun e => nOa (e ▸ ma)
    have npa' : p ≠ a := fun e => by
      have := st6 k a hai
      rw [← e, hp] at this; cases this
    obtain ⟨_, _, dd, dl⟩ := due_none du
    refine ⟨_, rfl, _, rfl, _, _, _, _, rfl, rfl, SqL.of hS6, atI_nat hav, _, rfl, a, p, trOf pev ((k : Nat) : Int), ts.length, j, z, rfl, st6 k a hai, hp, by omega, hjt, okd, dd, dl, ?_⟩
    have hO7 : (upd H6 a (.lst (stV (actS (trOf pev ((k : Nat) : Int)) z ((j : Nat) : Int)) ts.length))) O = some (.lst vs) := by rw [upd_ne nOa']; exact hO6
    refine ⟨_, rfl, .inl ⟨rfl, _, SqL.of hO7⟩, _, rfl, _, rfl, by show 2 ≤ sizeLine; decide, fun pa npa2 => ?_⟩
    have lvs := pair_len' pE6
    have s8 := same_new (o := .tup [.int ((k : Nat) : Int), .ref p]) npa2
    refine ⟨_, _, _, rfl, rfl, s8 _ _ hO7, by omega, ?_⟩
    have npO : pa ≠ O := (ne_of_none hO7 npa2).symm
    have npaa : pa ≠ a := fun e => by rw [e, upd_same] at npa2; cases npa2
    have keep : ∀ {c : Addr} {o : HO}, c ≠ a → c ≠ O → H6 c = some o → (upd (upd (upd H6 a (.lst (stV (actS (trOf pev ((k : Nat) : Int)) z ((j : Nat) : Int)) ts.length))) pa (.tup [.int ((k : Nat) : Int), .ref p])) O (.lst (vs ++ [.ref pa]))) c = some o := fun n1 n2 h => by
      rw [upd_ne n2]; exact s8 _ _ (by rw [upd_ne n1]; exact h)
    have hO9 : (upd (upd (upd H6 a (.lst (stV (actS (trOf pev ((k : Nat) : Int)) z ((j : Nat) : Int)) ts.length))) pa (.tup [.int ((k : Nat) : Int), .ref p])) O (.lst (vs ++ [.ref pa]))) O = some (.lst (vs ++ [.ref pa])) := upd_same
    have hpa9 : (upd (upd (upd H6 a (.lst (stV (actS (trOf pev ((k : Nat) : Int)) z ((j : Nat) : Int)) ts.length))) pa (.tup [.int ((k : Nat) : Int), .ref p])) O (.lst (vs ++ [.ref pa]))) pa = some (.tup [.int ((k : Nat) : Int), .ref p]) := by rw [upd_ne npO, upd_same]
    have ha9 : (upd (upd (upd H6 a (.lst (stV (actS (trOf pev ((k : Nat) : Int)) z ((j : Nat) : Int)) ts.length))) pa (.tup [.int ((k : Nat) : Int), .ref p])) O (.lst (vs ++ [.ref pa]))) a = some (.lst (stV (actS (trOf pev ((k : Nat) : Int)) z ((j : Nat) : Int)) ts.length)) := by rw [upd_ne nOa'.symm]; exact s8 _ _ upd_same
    revert keep hO9 hpa9 ha9
    generalize upd (upd (upd H6 a (.lst (stV (actS (trOf pev ((k : Nat) : Int)) z ((j : Nat) : Int)) ts.length))) pa (.tup [.int ((k : Nat) : Int), .ref p])) O (.lst (vs ++ [.ref pa])) = H9
    intro keep hO9 hpa9 ha9
    obtain ⟨kt, ht⟩ := D6.pl
    obtain ⟨_, hd0⟩ := D0.ds
    have tk : TKeep H6 H9 := fun c xs h => keep (fun e => by have := st6 k a hai; rw [← e, h] at this; cases this) (fun e => by rw [e, hO6] at h; cases h) h
    refine ⟨_, _, _, vs ++ [.ref pa], pev ++ [(((k : Nat) : Int), (z, ((j : Nat) : Int)))], rfl, ⟨D6.ds.elim fun ns h => ⟨ns, keep (fun e => nda (e ▸ ma)) (ne_of_none hd0 nO) h⟩, ⟨kt, keep nat.symm nOt.symm ht⟩, D6.ne⟩, fun c o n1 n2 h => keep (fun e => n2 (e ▸ ma)) (ne_of_none h nO) (l6 _ _ n1 n2 h), hO9, ?_, .snoc dn ⟨du, fun nd => no_clash (N := 4) (fun e h => ⟨(rg e h).1, by have := (rg e h).2; omega⟩) okd nd fun l hl ne => fre l (by omega) ne⟩, fun e he => ?_, by rw [List.length_append]; simp; omega, fun l b hlb => ?_⟩
    · exact pair_app (L2.Paired.mapP pE6 fun _ _ x => x.keep tk) (.cons ⟨pa, p, rfl, hpa9, tk _ _ hp⟩ .nil)
    · rcases List.mem_append.mp he with he | he
      · exact ⟨(rg e he).1, by have := (rg e he).2; omega⟩
      · rw [List.mem_singleton.mp he]; exact ⟨by show (0 : Int) ≤ _; omega, by show ((k : Nat) : Int) < _; omega⟩
    · by_cases c : l = k
      · subst c
        rw [hai] at hlb
        obtain rfl := Option.some.inj hlb
        show H9 a = some (.lst (stV (trOf (pev ++ [(((l : Nat) : Int), (z, ((j : Nat) : Int)))]) ((l : Nat) : Int)) ts.length))
        rw [tr_snoc, if_pos rfl]; exact ha9
      · have nb : b ≠ a := fun e => c (by
          have lj := (List.getElem?_eq_some_iff.mp hlb).1
          exact (List.getElem?_inj lj nd).mp (hlb.trans (e ▸ hai.symm)))
        show H9 b = some (.lst (stV (trOf (pev ++ [(((k : Nat) : Int), (z, ((j : Nat) : Int)))]) ((l : Nat) : Int)) ts.length))
        rw [tr_snoc, if_neg (by show ((k : Nat) : Int) ≠ _; omega)]
        exact keep nb (fun e => nOa (e ▸ List.mem_of_getElem? hlb)) (st6 l b hlb)
end
end My

namespace My
open PySem L2
theorem dn_ints {K : PySem.W.Frag} {x : Addr} {H : Hp} {n : Nat} : ∀ l : List Int, Paired (Dn K x H n) (l.map V.int) (l.map .int)
  | [] => .nil
  | z :: l => .cons (Dn.int z) (dn_ints l)
end My

namespace My
open PySem L2
/-! ### what the law asks: the same ring -/
theorem edv_keep {H H' : Hp} {v : V} {e : Int × Int} (h : EdV H v e) (k : TKeep H H') : EdV H' v e := let ⟨p, a, b⟩ := h; ⟨p, a, k _ _ b⟩
def dueEd (f : Nat → List Lk) (Ns : List Int) (wn : List Ev) (a b : Int) : Prop := ∃ q ∈ wn, q.1 = a ∧ ∃ i : Nat, Ns[i]? = some b ∧ b ≠ a ∧ (codeL (lkAt (f i) q.2.2) = 1 ∨ (codeL (lkAt (f i) q.2.2) = 2 ∧ q.2.1 = "own"))
theorem due_take {f : Nat → List Lk} {Ns : List Int} {wn : List Ev} {i : Nat} {q : Ev} (h : wn[i]? = some q) (a b : Int) : dueEd f Ns (wn.take (i + 1)) a b ↔ dueEd f Ns (wn.take i) a b ∨ (a = q.1 ∧ ∃ i : Nat, Ns[i]? = some b ∧ b ≠ a ∧ (codeL (lkAt (f i) q.2.2) = 1 ∨ (codeL (lkAt (f i) q.2.2) = 2 ∧ q.2.1 = "own"))) := by
  unfold dueEd
  rw [List.take_add_one, h, Option.toList_some]
  constructor
  · rintro ⟨r, hr, e, rest⟩
    rcases List.mem_append.mp hr with hr | hr
    · exact .inl ⟨r, hr, e, rest⟩
    · rw [List.mem_singleton.mp hr] at e rest
      exact .inr ⟨e.symm, rest⟩
  · rintro (⟨r, hr, rest⟩ | ⟨e, rest⟩)
    · exact ⟨r, List.mem_append_left _ hr, rest⟩
    · exact ⟨q, by simp, e.symm, rest⟩
theorem code_two {tr : List Lk} {t : Int} : codeL (lkAt tr t) = 2 ↔ ∃ k, heldAt tr t = some k ∧ k.2.1 = false := by
  unfold heldAt
  cases e : lkAt tr t with
  | none => simp [codeL, Option.filter]
  | some k =>
    obtain ⟨a, o, d⟩ := k
    cases o <;> cases d <;> simp [codeL, Option.filter]
theorem want_due {ev wn : List Ev} {f : Nat → List Lk} {Ns : List Int} (rel : ∀ (i : Nat) b, Ns[i]? = some b → f i = trOf ev b) (cov : ∀ n ∈ namesOf ev, n ∈ Ns) (a b : Int) : wantEd ev wn a b ↔ dueEd f Ns wn a b := by
  constructor
  · rintro ⟨q, hq, e, ne, o, ho, c⟩
    obtain ⟨i, hi⟩ := List.getElem?_of_mem (cov _ (hold_in ho))
    refine ⟨q, hq, e, i, hi, ne, ?_⟩
    rw [rel i b hi, code_one, code_two]
    unfold holdH at ho
    cases eh : heldAt (trOf ev b) q.2.2 with
    | none => rw [eh] at ho; cases ho
    | some k =>
      rw [eh] at ho
      obtain rfl := List.mem_singleton.mp ho
      cases ek : k.2.1 with
      | true => exact .inl ⟨k, rfl, ek⟩
      | false =>
        refine .inr ⟨⟨k, rfl, ek⟩, ?_⟩
        rcases c with c | c
        · rw [ek] at c
          have c : wordL false = "own" := c
          exact absurd c (by decide)
        · exact c
  · rintro ⟨q, hq, e, i, hi, ne, c⟩
    rw [rel i b hi, code_one, code_two] at c
    refine ⟨q, hq, e, ne, ?_⟩
    unfold holdH
    rcases c with ⟨k, eh, ek⟩ | ⟨⟨k, eh, ek⟩, c⟩
    · rw [eh]; exact ⟨_, List.mem_singleton.mpr rfl, .inl (by rw [ek]; rfl)⟩
    · rw [eh]; exact ⟨_, List.mem_singleton.mpr rfl, .inr c⟩
def spLDueR : Sp := fun vs H Q _ => ∃ (S N W : Addr) (us : List V) (as : List Addr) (f : Nat → List Lk) (n : Nat) (Ns : List Int) (wn : List Ev), vs = [.ref S, .ref N, .ref W] ∧ H S = some (.lst (as.map V.ref)) ∧ StsL n H as f ∧ as.length = 4 ∧ H N = some (.lst (Ns.map V.int)) ∧ Ns.length = 4 ∧ H W = some (.lst us) ∧ Paired (EvAt H) us wn ∧ wn.length ≤ 5 ∧ (∀ q ∈ wn, 0 ≤ q.2.2 ∧ q.2.2 < (n : Int)) ∧
  ∀ ns es r H', ns.Perm (namesOf wn) → ns.Pairwise (· ≤ ·) → (∀ a b, (a, b) ∈ es ↔ dueEd f Ns wn a b) → Same H H' → H r = none → H' r = some (.tup ((ringBy ns es 2 (ns.length - 1)).map V.int)) → Q (.ref r) H'
section
variable {w : World} {K : PySem.W.Frag} {mg : Str → Option Value} {base : Heap}
set_option maxHeartbeats 32000000 in
set_option pp.maxSteps 900 in
theorem ok__law_due {P : Program} (T : Txt K mg) : FnOk P w K mg base CX0 3 T.a__law_due T.fd__law_due ["_law_states", "_law_names_here", "_law_wants_here"] spLDueR := by
  refine T.F__law_due.ok sc__law_due (fun vs H Q E h => ?_) (fun cdv A outer s H vs Q E hr h => ?_)
  · obtain ⟨S, N, W, us, as, f, n, Ns, wn, rfl, _⟩ := h; rfl
  · obtain ⟨S, N, W, us, as, f, n, Ns, wn, rfl, hS, hst, las, hN, lN, hW, pw, lw, inw, q⟩ := h
    refine ⟨_, (pss_cons (ps_set (i := 3) sc__law_due.nd rfl (.inl rfl) (pe_lst pa_nil))
      (pss_cons (ps_set (i := 4) sc__law_due.nd rfl (.inl rfl) (pe_lst pa_nil))
      (pss_cons (ps_for PassesOwn.never rfl (pi_list (pv 2)) (pg_name (i := 5) sc__law_due.nd rfl (.inl rfl)) (C8.pss_cut (ps_if (pt_cmpR op_notIn_seq (pe_ix ix_tup (pv 5) (pe_int) (fun _ _ => rfl)) (pv 3) (by with_unfolding_all rfl)) (pss_one (ps_expr (pe_bm PySem.F.plainAttrs_list PySem.F.slot_list_append PySem.F.type_list_append mt_append (pv 3) (pa_cons (pe_ix ix_tup (pv 5) (pe_int) (fun _ _ => rfl)) pa_nil)))) pss_nil)
      (pss_one (ps_for PassesOwn.never rfl (pi_range1 (by rfl) T.n_range (pa_cons (pe_callB call_len_seq (by rfl) T.n_len (by decide +kernel) (pa_cons (pv 0) pa_nil)) pa_nil)) (pg_name (i := 6) sc__law_due.nd rfl (.inl rfl)) (pss_cons (ps_set (i := 7) sc__law_due.nd rfl (.inl rfl) (pe_ix ix_list (pe_ix ix_list (pv 0) (pv 6) (fun _ _ => rfl)) (pe_ix ix_tup (pe_ix ix_tup (pv 5) (pe_int) (fun _ _ => rfl)) (pe_int) (fun _ _ => rfl)) (fun _ _ => rfl)))
      (C8.pss_cut (ps_set (i := 8) sc__law_due.nd rfl (.inl rfl) (pe_or (pe_cmpR op_eq (pv 7) (pe_int) (nomark _)) (pe_one (pe_and (pe_cmpR op_eq (pv 7) (pe_int) (nomark _)) (pe_one (pe_cmpR op_eq (pe_ix ix_tup (pe_ix ix_tup (pv 5) (pe_int) (fun _ _ => rfl)) (pe_int) (fun _ _ => rfl)) (pe_str) (nomark _)))))))
      (pss_one (ps_if (PW.pt (pw_and (pt_val (pv 8)) (pw_and1 (pt_cmpR op_ne (pe_ix ix_list (pv 1) (pv 6) (fun _ _ => rfl)) (pe_ix ix_tup (pv 5) (pe_int) (fun _ _ => rfl)) (nomark _))))) (pss_one (ps_expr (pe_bm PySem.F.plainAttrs_list PySem.F.slot_list_append PySem.F.type_list_append mt_append (pv 4) (pa_cons (pe_tup (pa_cons (pe_ix ix_tup (pv 5) (pe_int) (fun _ _ => rfl)) (pa_cons (pe_ix ix_list (pv 1) (pv 6) (fun _ _ => rfl)) pa_nil))) pa_nil)))) pss_nil))))))))
      (pss_one (ps_ret (pe_call (ok__law_ring T) (hr.mono (by omega)) (by rfl) T.g__law_ring T.F__law_ring.kp T.b__law_ring .nil pass0 (pa_cons (pe_callB cr_sorted (by rfl) T.n_sorted (by decide +kernel) (pa_cons (pe_lc (own := [("_law_node", 9)]) (g := (gName 9)) (by rfl) sc__law_due.nd (pi_list (pv 3)) (blkOk_by (own := [("_law_node", 9)]) (N := ["_law_states", "_law_names_here", "_law_wants_here", "_law_nodes", "_law_edges", "_law_want", "_law_place", "_law_mode", "_law_both", "_law_node"]) (sc := defScope S__law_due) (by decide +kernel)) (fun _ _ _ _ _ => (pg_name (i := 9) sc__law_due.nd rfl (by first | exact .inl rfl | exact .inr rfl))) (fun _ _ _ _ _ => pts_nil) (fun _ _ _ _ _ => (pe_callTy call_int1 (by rfl) T.n_int (by decide +kernel) (pa_cons (pv 9) pa_nil)))) pa_nil)) (pa_cons (pv 4) pa_nil)))))))), ?_⟩
    have big : 100000 < sizeLine := by decide
    have lam : (as.map V.ref).length = as.length := List.length_map ..
    refine ⟨Nat.zero_le _, fun L nL => ⟨Nat.zero_le _, fun Ed nE => ?_⟩⟩
    have s1 := same_new (o := .lst []) nL
    have s2 := s1.trans (same_new (o := .lst []) nE)
    have hL0 : (upd H L (.lst [])) L = some (.lst []) := upd_same
    have nEL : Ed ≠ L := (ne_of_none hL0 nE).symm
    have hL1 := same_new (o := .lst []) nE _ _ hL0
    have nE0 := s1.free nE
    refine ⟨_, rfl, W, rfl, ⟨_, SqL.of (s2 _ _ hW)⟩, for_list (K := K) (a := W) (xs := us) (fun i σ H' => ∃ (x5 x6 x7 x8 : Option V) (vs : List V) (es : Eds), σ = [some (.ref S), some (.ref N), some (.ref W), some (.ref L), some (.ref Ed), x5, x6, x7, x8, none] ∧ Same H H' ∧ H' L = some (.lst ((namesOf (wn.take i)).map V.int)) ∧ H' Ed = some (.lst vs) ∧ Paired (EdV H') vs es ∧ (∀ a b, (a, b) ∈ es ↔ dueEd f Ns (wn.take i) a b) ∧ vs.length ≤ i * 4) ⟨_, _, _, _, [], [], rfl, s2, hL1, upd_same, .nil, (fun a b => ⟨(fun h => nomatch h), (fun ⟨q, h, _⟩ => nomatch h)⟩), Nat.zero_le _⟩ (fun i σ H' _ ⟨_, _, _, _, _, _, _, b, _⟩ => SqL.of (b _ _ hW)) ?_ ?_⟩
    · rintro i v σ H1 hv ⟨x5, x6, x7, x8, vs, es, rfl, b1, h1L, h1E, pE, hes, lvs⟩
      obtain ⟨q0, hq0, pq, qa, rfl, hpq, hqa⟩ := pair_get' pw hv
      have hi := (List.getElem?_eq_some_iff.mp hq0).1
      have nl := names_le (wn.take i)
      rw [List.length_take] at nl
      have h1p := b1 _ _ hpq
      refine ⟨fun σ' H' => σ' = [some (.ref S), some (.ref N), some (.ref W), some (.ref L), some (.ref Ed), some (.ref pq), x6, x7, x8, none] ∧ But L H1 H' ∧ Same H H' ∧ H' L = some (.lst ((namesOf (wn.take (i + 1))).map V.int)), ?_, ?_⟩
      · refine ⟨_, rfl, _, _, _, _, rfl, rfl, SqT.of h1p, atI_nat (j := 0) rfl, _, rfl, L, _, rfl, .inl (SqL.of h1L), rfl, flat_ints _, _, rfl, iteB (fun c => ?_) (fun c => ?_)⟩
        · have c : q0.1 ∉ namesOf (wn.take i) := by simpa [in_ints] using c
          refine ⟨_, rfl, .inl ⟨rfl, _, SqL.of h1L⟩, _, rfl, _, _, _, _, rfl, rfl, SqT.of h1p, atI_nat (j := 0) rfl, _, _, _, rfl, rfl, h1L, by rw [List.length_map]; omega, rfl, But.upd, same_mut b1 nL, ?_⟩
          rw [upd_same, names_take hq0]
          unfold addN
          rw [if_neg c, ints_app]
        · have c : q0.1 ∈ namesOf (wn.take i) := by simpa [in_ints] using c
          refine ⟨rfl, But.refl _ _, b1, ?_⟩
          rw [names_take hq0]
          unfold addN
          rw [if_pos c]; exact h1L
      rintro σ' H2 ⟨rfl, bL, b2, h2L⟩
      have h2E := bL _ _ nEL h1E
      have pE2 : Paired (EdV H2) vs es := L2.Paired.mapP pE fun _ _ x => edv_keep x (.but bL fun xs e => by rw [h1L] at e; cases e)
      have h2p := b2 _ _ hpq
      have h2q := b2 _ _ hqa
      obtain ⟨jt, ejt⟩ := Int.eq_ofNat_of_zero_le (inw q0 (List.mem_of_getElem? hq0)).1
      have hjn : jt < n := by have := (inw q0 (List.mem_of_getElem? hq0)).2; omega
      refine ⟨_, rfl, S, _, rfl, .inl (SqL.of (b2 _ _ hS)), _, rfl, by omega, by omega, for_range (lo := 0) (n := (as.map V.ref).length) (fun k σ H' => ∃ (x6 x7 x8 : Option V) (vs2 : List V) (es2 : Eds), σ = [some (.ref S), some (.ref N), some (.ref W), some (.ref L), some (.ref Ed), some (.ref pq), x6, x7, x8, none] ∧ But Ed H2 H' ∧ H' Ed = some (.lst vs2) ∧ Paired (EdV H') vs2 es2 ∧ (∀ a b, (a, b) ∈ es2 ↔ (a, b) ∈ es ∨ (a = q0.1 ∧ ∃ l : Nat, l < k ∧ Ns[l]? = some b ∧ b ≠ a ∧ (codeL (lkAt (f l) q0.2.2) = 1 ∨ (codeL (lkAt (f l) q0.2.2) = 2 ∧ q0.2.1 = "own")))) ∧ vs2.length ≤ vs.length + k) ⟨_, _, _, vs, es, rfl, But.refl _ _, h2E, pE2, (fun a b => ⟨.inl, fun h => h.elim id (fun ⟨_, l, hl, _⟩ => absurd hl (Nat.not_lt_zero _))⟩), Nat.le_refl _⟩ ?_ ?_⟩
      · rintro k σ H3 hk ⟨x6, x7, x8, vs2, es2, rfl, b3, h3E, p3, hes2, lv2⟩
        rw [Int.zero_add]
        rw [lam] at hk
        obtain ⟨a, hai, hav⟩ := get_ref (as := as) (j := k) hk
        have off : ∀ {c : Addr} {o : HO}, H c = some o → H3 c = some o := fun h => b3 _ _ (ne_of_none h nE0) (b2 _ _ h)
        have h3p := off hpq
        have h3q := off hqa
        obtain ⟨nk, hnk⟩ : ∃ nk, Ns[k]? = some nk := ⟨_, List.getElem?_eq_getElem (by omega)⟩
        have hnv : (Ns.map V.int)[k]? = some (.int nk) := by rw [List.getElem?_map, hnk]; rfl
        have hcode : atI (stV (f k) n) q0.2.2 = some (.int (codeL (lkAt (f k) q0.2.2))) := by
          rw [ejt]; exact atI_nat (stV_at hjn)
        refine ⟨_, rfl, _, rfl, _, _, _, _, rfl, rfl, SqL.of (off hS), atI_nat hav, _, rfl, _, _, _, _, rfl, rfl, SqT.of h3p, atI_nat (j := 1) rfl, _, _, _, _, rfl, rfl, SqT.of h3q, atI_nat (j := 1) rfl, _, _, _, _, rfl, rfl, SqL.of (off (hst k a hai)), hcode, ?_⟩
        refine ⟨fun σ' H' => ∃ bo : Bool, σ' = [some (.ref S), some (.ref N), some (.ref W), some (.ref L), some (.ref Ed), some (.ref pq), some (.int ((k : Nat) : Int)), some (.int (codeL (lkAt (f k) q0.2.2))), some (.bl bo), none] ∧ H3 = H' ∧ (bo = true ↔ (codeL (lkAt (f k) q0.2.2) = 1 ∨ (codeL (lkAt (f k) q0.2.2) = 2 ∧ q0.2.1 = "own"))), ?_, ?_⟩
        · refine ⟨_, rfl, rfl, _, rfl, iteD (fun c1 => ⟨true, rfl, rfl, fun _ => .inl (V.int.inj c1), fun _ => rfl⟩) (fun c1 => ?_)⟩
          have c1 : codeL (lkAt (f k) q0.2.2) ≠ 1 := fun h => c1 (by rw [h])
          refine ⟨_, rfl, rfl, _, rfl, iteD (fun c2 => ?_) (fun c2 => ⟨false, rfl, rfl, (fun h => nomatch h), fun h => h.elim (fun h => absurd h c1) fun h => absurd (by rw [h.1]) c2⟩)⟩
          have c2 := V.int.inj c2
          refine ⟨_, rfl, _, _, _, _, rfl, rfl, SqT.of h3p, atI_nat (j := 1) rfl, _, _, _, _, rfl, rfl, SqT.of h3q, atI_nat (j := 0) rfl, rfl, ⟨_, rfl, rfl, ?_⟩⟩
          rw [decide_eq_true_iff]
          exact ⟨fun h => .inr ⟨c2, V.str.inj h⟩, fun h => h.elim (fun h => absurd h c1) fun h => by rw [h.2]⟩
        rintro σ' H3' ⟨bo, rfl, rfl, hbo⟩
        have stay : (bo = false ∨ nk = q0.1) → ∃ (x6 x7 x8 : Option V) (vs2' : List V) (es2' : Eds), [some (V.ref S), some (.ref N), some (.ref W), some (.ref L), some (.ref Ed), some (.ref pq), some (.int ((k : Nat) : Int)), some (.int (codeL (lkAt (f k) q0.2.2))), some (.bl bo), none] = [some (.ref S), some (.ref N), some (.ref W), some (.ref L), some (.ref Ed), some (.ref pq), x6, x7, x8, none] ∧ But Ed H2 H3 ∧ H3 Ed = some (.lst vs2') ∧ Paired (EdV H3) vs2' es2' ∧ (∀ a b, (a, b) ∈ es2' ↔ (a, b) ∈ es ∨ (a = q0.1 ∧ ∃ l : Nat, l < k + 1 ∧ Ns[l]? = some b ∧ b ≠ a ∧ (codeL (lkAt (f l) q0.2.2) = 1 ∨ (codeL (lkAt (f l) q0.2.2) = 2 ∧ q0.2.1 = "own")))) ∧ vs2'.length ≤ vs.length + (k + 1) := fun no => ⟨_, _, _, vs2, es2, rfl, b3, h3E, p3, fun a b => by
          rw [hes2 a b]
          refine or_congr Iff.rfl (and_congr_right fun ea => ⟨fun ⟨l, hl, r⟩ => ⟨l, by omega, r⟩, fun ⟨l, hl, e, ne, r⟩ => ?_⟩)
          rcases Nat.lt_or_eq_of_le (Nat.le_of_lt_succ hl) with h | rfl
          · exact ⟨l, h, e, ne, r⟩
          · rw [hnk] at e
            obtain rfl := Option.some.inj e
            rcases no with no | no
            · rw [hbo.mpr r] at no; cases no
            · exact absurd (no.trans ea.symm) ne, by omega⟩
        refine ⟨_, rfl, _, rfl, iteB (fun c1 => ?_) (fun c1 => iteNo rfl (stay (.inl c1)))⟩
        refine ⟨_, rfl, _, rfl, _, _, _, _, rfl, rfl, SqL.of (off hN), atI_nat hnv, _, rfl, _, _, _, _, rfl, rfl, SqT.of h3p, atI_nat (j := 0) rfl, rfl, _, rfl, iteB (fun c2 => ?_) (fun c2 => stay (.inr (by simpa using c2)))⟩
        have c2 : nk ≠ q0.1 := by simpa using c2
        refine ⟨_, rfl, .inl ⟨rfl, _, SqL.of h3E⟩, _, rfl, _, _, _, _, rfl, rfl, SqT.of h3p, atI_nat (j := 0) rfl, _, rfl, _, rfl, _, _, _, _, rfl, rfl, SqL.of (off hN), atI_nat hnv, by show 2 ≤ sizeLine; decide, fun pe npe => ?_⟩
        have s4 := same_new (o := .tup [.int q0.1, .int nk]) npe
        have npE : pe ≠ Ed := (ne_of_none h3E npe).symm
        have b4 : But Ed H3 (upd (upd H3 pe (.tup [.int q0.1, .int nk])) Ed (.lst (vs2 ++ [.ref pe]))) := (But.of_same s4).trans But.upd
        refine ⟨_, _, _, rfl, rfl, s4 _ _ h3E, by omega, _, _, _, vs2 ++ [.ref pe], es2 ++ [(q0.1, nk)], rfl, b3.trans b4, upd_same, ?_, fun a b => ?_, by rw [List.length_append]; simp; omega⟩
        · exact pair_app (L2.Paired.mapP p3 fun _ _ x => edv_keep x (.but b4 fun xs e => by rw [h3E] at e; cases e)) (.cons ⟨pe, rfl, by rw [upd_ne npE, upd_same]⟩ .nil)
        · rw [List.mem_append, List.mem_singleton, hes2 a b]
          constructor
          · rintro ((h | ⟨ea, l, hl, r⟩) | h)
            · exact .inl h
            · exact .inr ⟨ea, l, by omega, r⟩
            · injection h with e1 e2
              exact .inr ⟨e1, k, by omega, by rw [hnk, e2], by rw [e1, e2]; exact c2, hbo.mp c1⟩
          · rintro (h | ⟨ea, l, hl, e, r⟩)
            · exact .inl (.inl h)
            · rcases Nat.lt_or_eq_of_le (Nat.le_of_lt_succ hl) with h | rfl
              · exact .inl (.inr ⟨ea, l, h, e, r⟩)
              · rw [hnk] at e
                exact .inr (Prod.ext ea (Option.some.inj e).symm)
      · rintro σ H3 ⟨x6, x7, x8, vs2, es2, rfl, b3, h3E, p3, hes2, lv2⟩
        refine ⟨_, _, _, _, vs2, es2, rfl, fun c o h => b3 _ _ (ne_of_none h nE0) (b2 _ _ h), b3 _ _ nEL.symm h2L, h3E, p3, fun a b => ?_, by rw [Nat.succ_mul]; omega⟩
        rw [hes2 a b, hes a b, due_take hq0]
        refine or_congr Iff.rfl (and_congr Iff.rfl ⟨fun ⟨l, _, r⟩ => ⟨l, r⟩, fun ⟨l, e, r⟩ => ⟨l, ?_, e, r⟩⟩)
        have := (List.getElem?_eq_some_iff.mp e).1
        omega
    · rintro σ H1 ⟨x5, x6, x7, x8, vs, es, rfl, b1, h1L, h1E, pE, hes, lvs⟩
      rw [pair_len' pw, List.take_length] at h1L hes
      have nl := names_le wn
      have len0 : ((namesOf wn).map V.int).length = (namesOf wn).length := List.length_map ..
      refine ⟨_, rfl, L, rfl, ⟨_, SqL.of h1L⟩, fun G nG => lc_list (K := K) (a := L) (xs := (namesOf wn).map V.int) (fun k H' => Same H1 H' ∧ H' G = some (.lst (((namesOf wn).take k).map V.int))) ⟨same_new nG, upd_same⟩ (fun k H' _ h => SqL.of (h.1 _ _ h1L)) ?_ ?_⟩
      · rintro k v H2 hv ⟨s2, h2⟩
        have hk := (List.getElem?_eq_some_iff.mp hv).1
        rw [len0] at hk
        have hv2 : v = .int (namesOf wn)[k] := by
          rw [List.getElem?_map, List.getElem?_eq_getElem hk] at hv
          exact (Option.some.inj hv).symm
        subst hv2
        refine ⟨rfl, yes_i (iteT ⟨_, rfl, .inl ⟨_, rfl, _, h2, by rw [List.length_map, List.length_take]; omega, same_mut s2 nG, ?_⟩⟩)⟩
        rw [upd_same, ints_app, List.take_add_one, List.getElem?_eq_getElem hk]; rfl
      · rintro H2 ⟨s2, h2⟩
        rw [len0, List.take_length] at h2
        refine ⟨G, namesOf wn, rfl, SqL.of h2, by omega, fun ns2 p2 pm so np2 => ?_⟩
        have s3 := same_new (o := .lst (ns2.map V.int)) np2
        have s13 := s2.trans s3
        refine ⟨_, rfl, p2, Ed, ns2, vs, es, rfl, upd_same, by rw [pm.length_eq]; omega, s13 _ _ h1E, L2.Paired.mapP pE fun _ _ x => edv_keep x (.same s13), fun r H4 s4 nr hr => ?_⟩
        exact q ns2 es r H4 pm so hes (b1.trans (s13.trans s4)) (b1.free (s13.free nr)) hr
theorem ring_len {ns : List Int} {es : Eds} : ∀ (s m : Nat), 1 ≤ s → (ringBy ns es s m).length ≤ s + m
  | _, 0, _ => Nat.zero_le _
  | s, m + 1, h => by
    unfold ringBy
    cases e : (pathsI ns es (s - 1)).find? (closeB es) with
    | some p =>
      have := pth_len (List.mem_of_find?_eq_some e)
      show p.length ≤ _
      omega
    | none =>
      have := ring_len (ns := ns) (es := es) (s + 1) m (by omega)
      show (ringBy ns es (s + 1) m).length ≤ _
      omega
def wantD (q : Ev) : PyData := .tuple [.int q.1, .tuple [.str q.2.1, .int q.2.2]]
theorem wants_dn {K : PySem.W.Frag} {y C dy W : Addr} {fs : List (Str × V)} {H : Hp} {us : List V} {wn : List Ev} (hy : H y = some (.ins C dy fs)) (hW : H W = some (.lst us)) (pw : Paired (EvAt H) us wn) (l : us.length ≤ 1000) : Dn K y H 3 (.ref W) (.list (wn.map wantD)) := by
  refine Dn.lst (fun e => by rw [e, hy] at hW; cases hW) (SqL.of hW) ?_ (by omega)
  clear hW l
  induction pw with
  | nil => exact .nil
  | cons a t ih =>
    obtain ⟨p, q, rfl, hp, hq⟩ := a
    exact .cons (Dn.tup (fun e => by rw [e, hy] at hp; cases hp) (SqT.of hp) (.cons (Dn.int _) (.cons (Dn.tup (fun e => by rw [e, hy] at hq; cases hq) (SqT.of hq) (.cons (Dn.str _) (.cons (Dn.int _) .nil)) (by simp)) .nil)) (by simp)) ih
def spLAsked (C Cst Cw Cs : Addr) : Sp := fun vs H Q _ => ∃ (y S N W w e s l g x wl wm : Addr) (us : List V) (as : List Addr) (f : Nat → List Lk) (Ns : List Int) (ev wn : List Ev) (ts : List Th) (rs : List Row) (Z : Addr → Prop), vs = [.ref y, .ref S, .ref N, .ref W] ∧ WvO Z C Cst H y w e s l g ev ∧ EvOk ts rs ev ∧ OnW Cw Cs H w x wl wm ts rs ∧ (namesOf ev).length < 64 ∧ ts.length ≤ 1000 ∧
  H S = some (.lst (as.map V.ref)) ∧ StsL ts.length H as f ∧ as.length = 4 ∧ H N = some (.lst (Ns.map V.int)) ∧ Ns.length = 4 ∧ H W = some (.lst us) ∧ Paired (EvAt H) us wn ∧ wn.length ≤ 5 ∧ (∀ q ∈ wn, inW ts q.2.2) ∧
  (∀ (i : Nat) b, Ns[i]? = some b → f i = trOf ev b) ∧ (∀ n ∈ namesOf ev, n ∈ Ns) ∧ ∀ H', Same H H' → Q (.bl true) H'
set_option maxHeartbeats 32000000 in
set_option pp.maxSteps 900 in
theorem ok__law_asked (T : Txt K mg) : FnOk PP w K mg base CX0 14 T.a__law_asked T.fd__law_asked ["_law_weaving", "_law_states", "_law_names_here", "_law_wants_here"] (spLAsked T.c_Weaving T.c_Standing T.c_Web T.c_Shape) := by
  refine T.F__law_asked.ok sc__law_asked (fun vs H Q E h => ?_) (fun cdv A outer s H vs Q E hr h => ?_)
  · obtain ⟨y, S, N, W, w, e, s, l, g, x, wl, wm, us, as, f, Ns, ev, wn, ts, rs, Z, rfl, _⟩ := h; rfl
  · obtain ⟨y, S, N, W, wa, e, sa, l, g, x, wl, wm, us, as, f, Ns, ev, wn, ts, rs, Z, rfl, Wv, ok, O, ln, lt, hS, hst, las, hN, lN, hW, pw, lw, inw, rel, cov, q⟩ := h
    refine ⟨_, (pss_cons (ps_setLc (i := 4) (own := [("_law_want", 5)]) (g := (gName 5)) (by rfl) sc__law_asked.nd rfl rfl (sw_true rfl rfl rfl (by decide +kernel)) (pi_list (pv 3)) (blkOk_by (own := [("_law_want", 5)]) (N := ["_law_weaving", "_law_states", "_law_names_here", "_law_wants_here", "_law_passed", "_law_want"]) (sc := defScope S__law_asked) (by decide +kernel)) (fun _ _ _ _ _ => (pg_name (i := 5) sc__law_asked.nd rfl (by first | exact .inl rfl | exact .inr rfl))) (fun _ _ _ _ _ => pts_nil) (fun _ _ _ _ _ => (pe_tup (pa_cons (pe_ix (ixTK (K := K) rfl) (pv 5) (pe_int) (fun _ _ => rfl)) (pa_cons (pe_tup (pa_cons (pe_ix (ixTK (K := K) rfl) (pe_ix (ixTK (K := K) rfl) (pv 5) (pe_int) (fun _ _ => rfl)) (pe_int) (fun _ _ => rfl)) (pa_cons (pe_ix (ixTK (K := K) rfl) (pe_ix (ixTK (K := K) rfl) (pv 5) (pe_int) (fun _ _ => rfl)) (pe_int) (fun _ _ => rfl)) pa_nil))) pa_nil)))))
      (pss_cons (ps_if (pt_not (pt_val (pe_call (ok__law_same T 3) (hr.mono (by omega)) (by rfl) T.g__law_same T.F__law_same.kp T.b__law_same .nil pass0 (pa_cons (pe_call ((ok_waits T).calm) (hr.mono (by omega)) (by rfl) T.g_waits T.F_waits.kp T.b_waits .nil pass0 (pa_cons (pv 0) (pa_cons (pv 4) pa_nil))) (pa_cons (pe_call (ok__law_due T) (hr.mono (by omega)) (by rfl) T.g__law_due T.F__law_due.kp T.b__law_due .nil pass0 (pa_cons (pv 1) (pa_cons (pv 2) (pa_cons (pv 3) pa_nil)))) pa_nil))))) (pss_one (ps_ret (pe_bl))) pss_nil)
      (pss_one (ps_ret (pe_call (ok__law_same T 3) (hr.mono (by omega)) (by rfl) T.g__law_same T.F__law_same.kp T.b__law_same .nil pass0 (pa_cons (pv 4) (pa_cons (pv 3) pa_nil))))))), ?_⟩
    have big : 100000 < sizeLine := by decide
    have lus := pair_len' pw
    obtain ⟨dy, hy⟩ := Wv.obj
    refine ⟨_, rfl, W, rfl, ⟨_, SqL.of hW⟩, fun G nG => lc_list (K := K) (a := W) (xs := us) (fun k H' => ∃ vs, Same H H' ∧ H' G = some (.lst vs) ∧ Paired (EvAt H') vs (wn.take k) ∧ vs.length ≤ k) ⟨[], same_new nG, upd_same, .nil, Nat.zero_le _⟩ (fun k H' _ ⟨_, h, _⟩ => SqL.of (h _ _ hW)) ?_ ?_⟩
    · rintro k v H1 hv ⟨vs, s1, h1, p1, l1⟩
      obtain ⟨q0, hq0, pq, qa, rfl, hpq, hqa⟩ := pair_get' pw hv
      have hk := (List.getElem?_eq_some_iff.mp hq0).1
      have h1p := s1 _ _ hpq
      have h1q := s1 _ _ hqa
      refine ⟨rfl, yes_i (iteT ?_)⟩
      refine ⟨_, rfl, _, _, _, _, rfl, rfl, SqT.of h1p, atI_nat (j := 0) rfl, _, rfl, _, _, _, _, rfl, rfl, SqT.of h1p, atI_nat (j := 1) rfl, _, _, _, _, rfl, rfl, SqT.of h1q, atI_nat (j := 0) rfl, _, rfl, _, _, _, _, rfl, rfl, SqT.of h1p, atI_nat (j := 1) rfl, _, _, _, _, rfl, rfl, SqT.of h1q, atI_nat (j := 1) rfl, by show 2 ≤ sizeLine; decide, fun t1 n1 => ⟨by show 2 ≤ sizeLine; decide, fun t2 n2 => ?_⟩⟩
      have s2 := same_new (o := .tup [.str q0.2.1, .int q0.2.2]) n1
      have s3 := same_new (o := .tup [.int q0.1, .ref t1]) n2
      have s23 := s2.trans s3
      have n1G : t1 ≠ G := (ne_of_none h1 n1).symm
      have n2G : t2 ≠ G := (ne_of_none (s2 _ _ h1) n2).symm
      refine ⟨vs, s23 _ _ h1, by omega, vs ++ [.ref t2], same_mut (s1.trans s23) nG, upd_same, ?_, by rw [List.length_append]; simp; omega⟩
      rw [List.take_add_one, hq0, Option.toList_some]
      exact pair_app (L2.Paired.mapP p1 fun _ _ x => x.keep fun a xs h => by rw [upd_ne (fun e => by rw [e, h1] at h; cases h)]; exact s23 _ _ h) (.cons ⟨t2, t1, rfl, by rw [upd_ne n2G, upd_same], by rw [upd_ne n1G]; exact s3 _ _ upd_same⟩ .nil)
    rintro H1 ⟨vs, s1, h1, p1, l1⟩
    rw [lus, List.take_length] at p1
    refine ⟨_, rfl, _, rfl, y, G, wa, e, sa, l, g, x, wl, wm, vs, ev, wn, ts, rs, Z, rfl, Wv.same s1, ok, O.same s1, ln, lt, h1, p1, by omega, fun iw ns es rss r H2 pm so hes pr s2 nr hr => ?_, fun i q hq niw _ => absurd (inw q (List.mem_of_getElem? hq)) niw⟩
    have s12 := s1.trans s2
    refine ⟨_, rfl, _, rfl, _, rfl, S, N, W, us, as, f, ts.length, Ns, wn, rfl, s12 _ _ hS, hst.same s12, las, s12 _ _ hN, lN, s12 _ _ hW, L2.Paired.mapP pw fun _ _ x => x.keep (.same s12), lw, fun q hq => inw q hq, fun ns2 es2 r2 H3 pm2 so2 hes2 s3 nr2 hr2 => ?_⟩
    obtain rfl : ns2 = ns := sorted_eq (pm2.trans pm.symm) so2 so
    have up : ns2.Pairwise (· < ·) := by
      have nd : ns2.Nodup := pm2.nodup_iff.mpr (names_nd wn)
      exact (List.Pairwise.and so2 nd).imp fun ⟨a, b⟩ => by omega
    have edg : ∀ e ∈ es2, e.1 ∈ ns2 ∧ e.1 ≠ e.2 := fun e he => by
      obtain ⟨q, hq, e1, i, hi, ne, _⟩ := (hes2 e.1 e.2).mp he
      exact ⟨pm2.mem_iff.mpr (names_mem.mpr ⟨q, hq, e1⟩), ne.symm⟩
    have one : rss.foldl pick1 [] = ringBy ns2 es2 2 (ns2.length - 1) := rings_one up edg (fun a b => (hes a b).trans ((want_due rel cov a b).trans (hes2 a b).symm)) pr
    rw [one] at hr
    have s13 := s12.trans s3
    have hy3 := s13 _ _ hy
    have hr3 := s3 _ _ hr
    have lr : (ringBy ns2 es2 2 (ns2.length - 1)).length ≤ 1000 := by
      have := ring_len (ns := ns2) (es := es2) 2 (ns2.length - 1) (by decide)
      have := pm2.length_eq
      have := names_le wn
      omega
    have ney : ∀ {c : Addr} {xs : List V}, H3 c = some (.tup xs) → c ≠ y := fun h e => by rw [e, hy3] at h; cases h
    refine ⟨y, _, _, .tuple ((ringBy ns2 es2 2 (ns2.length - 1)).map .int), .tuple ((ringBy ns2 es2 2 (ns2.length - 1)).map .int), rfl, (Dn.tup (ney hr3) (SqT.of hr3) (dn_ints _) (by rw [List.length_map]; omega)).up, (Dn.tup (ney hr2) (SqT.of hr2) (dn_ints _) (by rw [List.length_map]; omega)).up, _, rfl, iteNo nsame ?_⟩
    have s23 := s2.trans s3
    refine ⟨_, rfl, _, rfl, y, _, _, .list (wn.map wantD), .list (wn.map wantD), rfl, wants_dn hy3 (s23 _ _ h1) (L2.Paired.mapP p1 fun _ _ x => x.keep (.same s23)) (by omega), wants_dn hy3 (s13 _ _ hW) (L2.Paired.mapP pw fun _ _ x => x.keep (.same s13)) (by omega), ?_⟩
    rw [same_yes rfl]
    exact q H3 s13
end
end My

local macro_rules | `(tactic| walk_at "ty") => `(tactic| first | exact .base (.int _) | exact .base (.bl _) | exact .base .non | exact .base (.str _) | exact My.tyL (by assumption) | exact My.tyT (by assumption))
local macro_rules | `(tactic| walk_at "is") => `(tactic| first | refine ⟨_, _, _, _, true, rfl, L2.ClsV.ty _, (by walk_at "ty"), L2.kit_ty (by decide +kernel), ?_⟩ | refine ⟨_, _, _, _, false, rfl, L2.ClsV.ty _, (by walk_at "ty"), L2.kit_ty (by decide +kernel), ?_⟩)
local macro_rules | `(tactic| walk_at "ri") => `(tactic| repeat (first | walk_at "is" | refine ⟨_, rfl, ?_⟩ | refine ⟨rfl, ?_⟩))
namespace My
open PySem L2
section
variable {P : Program} {w : World} {K : PySem.W.Frag} {mg : Str → Option Value} {base : Heap}
set_option maxHeartbeats 8000000 in
/-- _law_same of flat data, called from an except suite -/
theorem okE__law_same (T : Txt K mg) (p : Addr × Obj) : FnE P w K mg base CX0 1 T.a__law_same T.fd__law_same ["_law_actual", "_law_expected"] (spSame K 0) p := by
  refine T.F__law_same.okE sc__law_same (fun vs H Q E h => ?_) (fun cdv A outer s H vs Q E hr h => ?_)
  · obtain ⟨x, v1, v2, d1, d2, rfl, _⟩ := h; rfl
  · obtain ⟨x, v1, v2, d1, d2, rfl, h1, h2, q⟩ := h
    refine ⟨_, (pss_cons (ps_if (PW.pt (pw_or (pt_val (pe_callB call_isi (by rfl) T.n_isinstance (by decide +kernel) (pa_cons (pv 0) (pa_cons (pe_bltn (v := .ty "bool") (by rfl) T.n_bool (by decide +kernel) rfl) pa_nil)))) (pw_or1 (pt_val (pe_callB call_isi (by rfl) T.n_isinstance (by decide +kernel) (pa_cons (pv 1) (pa_cons (pe_bltn (v := .ty "bool") (by rfl) T.n_bool (by decide +kernel) rfl) pa_nil))))))) (pss_one (ps_ret (pe_and (pe_callB call_isi (by rfl) T.n_isinstance (by decide +kernel) (pa_cons (pv 0) (pa_cons (pe_bltn (v := .ty "bool") (by rfl) T.n_bool (by decide +kernel) rfl) pa_nil))) (pe_and (pe_callB call_isi (by rfl) T.n_isinstance (by decide +kernel) (pa_cons (pv 1) (pa_cons (pe_bltn (v := .ty "bool") (by rfl) T.n_bool (by decide +kernel) rfl) pa_nil))) (pe_one (pe_cmpR op_eq (pv 0) (pv 1) (nomark _))))))) pss_nil)
      (pss_cons (ps_if (PW.pt (pw_or (pt_cmpR op_isN (pv 0) (pe_non) (nomark _)) (pw_or1 (pt_cmpR op_isN (pv 1) (pe_non) (nomark _))))) (pss_one (ps_ret (pe_and (pe_cmpR op_isN (pv 0) (pe_non) (nomark _)) (pe_one (pe_cmpR op_isN (pv 1) (pe_non) (nomark _)))))) pss_nil)
      (pss_cons (ps_if (pt_val (pe_callB call_isi (by rfl) T.n_isinstance (by decide +kernel) (pa_cons (pv 1) (pa_cons (pe_bltn (v := .ty "int") (by rfl) T.n_int (by decide +kernel) rfl) pa_nil)))) (pss_one (ps_ret (pe_and (pe_callB call_isi (by rfl) T.n_isinstance (by decide +kernel) (pa_cons (pv 0) (pa_cons (pe_bltn (v := .ty "int") (by rfl) T.n_int (by decide +kernel) rfl) pa_nil))) (pe_one (pe_cmpR op_eq (pv 0) (pv 1) (nomark _)))))) pss_nil)
      (pss_cons (ps_if (pt_val (pe_callB call_isi (by rfl) T.n_isinstance (by decide +kernel) (pa_cons (pv 1) (pa_cons (pe_bltn (v := .ty "str") (by rfl) T.n_str (by decide +kernel) rfl) pa_nil)))) (pss_one (ps_ret (pe_and (pe_callB call_isi (by rfl) T.n_isinstance (by decide +kernel) (pa_cons (pv 0) (pa_cons (pe_bltn (v := .ty "str") (by rfl) T.n_str (by decide +kernel) rfl) pa_nil))) (pe_one (pe_cmpR op_eq (pv 0) (pv 1) (nomark _)))))) pss_nil)
      (pss_cons (ps_if (PW.pt (pw_and (pt_val (pe_callB call_isi (by rfl) T.n_isinstance (by decide +kernel) (pa_cons (pv 1) (pa_cons (pe_bltn (v := .ty "tuple") (by rfl) T.n_tuple (by decide +kernel) rfl) pa_nil)))) (pw_and1 (pt_not (pt_val (pe_callB call_isi (by rfl) T.n_isinstance (by decide +kernel) (pa_cons (pv 0) (pa_cons (pe_bltn (v := .ty "tuple") (by rfl) T.n_tuple (by decide +kernel) rfl) pa_nil)))))))) (pss_one (ps_ret (pe_bl))) pss_nil)
      (pss_cons (ps_if (PW.pt (pw_and (pt_val (pe_callB call_isi (by rfl) T.n_isinstance (by decide +kernel) (pa_cons (pv 1) (pa_cons (pe_bltn (v := .ty "list") (by rfl) T.n_list (by decide +kernel) rfl) pa_nil)))) (pw_and1 (pt_not (pt_val (pe_callB call_isi (by rfl) T.n_isinstance (by decide +kernel) (pa_cons (pv 0) (pa_cons (pe_bltn (v := .ty "list") (by rfl) T.n_list (by decide +kernel) rfl) pa_nil)))))))) (pss_one (ps_ret (pe_bl))) pss_nil)
      (pss_cons (ps_if (pt_cmpR op_ne (pe_callB call_len_seq (by rfl) T.n_len (by decide +kernel) (pa_cons (pv 0) pa_nil)) (pe_callB call_len_seq (by rfl) T.n_len (by decide +kernel) (pa_cons (pv 1) pa_nil)) (nomark _)) (pss_one (ps_ret (pe_bl))) pss_nil)
      (pss_cons ps_never
      (pss_one (ps_ret (pe_bl))))))))))), ?_⟩
    cases h1 <;> cases h2
    all_goals walk_at "ri"
    all_goals first | (rw [same_no (by intro z; cases z)] at q; exact q) | (rw [same_bl] at q; exact q) | (rw [same_int] at q; exact q) | (rw [same_str] at q; exact q) | (rw [same_non] at q; exact q)
end
end My

namespace My
open PySem L2
def spLaw (K : PySem.W.Frag) : Sp := fun vs H Q _ => ∃ (a : Addr) (ns : List Int), vs = [.ref a] ∧ SqL K H a (ns.map V.int) ∧ ns.length ≤ 63 ∧ ∀ H', Q (.bl true) H'
theorem WvO.le {Z : Addr → Prop} {C Cst : Addr} {H H' : Hp} {y w e s l g : Addr} {ev : List Ev} {X : List Addr} (W : WvO Z C Cst H y w e s l g ev) (le : Le X H H') (nz : ∀ a ∈ X, ¬ Z a) (kd : ∀ a ∈ X, ∀ o, H a = some o → (∀ c d fs, o ≠ .ins c d fs) ∧ ∀ xs, o ≠ .tup xs) : WvO Z C Cst H' y w e s l g ev := by
  have kz : ∀ a o, Z a → H a = some o → H' a = some o := fun a o z h => le a o (fun m => nz a m z) h
  have ki : ∀ a c d fs, H a = some (.ins c d fs) → H' a = some (.ins c d fs) := fun a c d fs h => le a _ (fun m => (kd a m _ h).1 _ _ _ rfl) h
  have kt : TKeep H H' := fun a xs h => le a _ (fun m => (kd a m _ h).2 _ rfl) h
  obtain ⟨⟨dy, hy⟩, ⟨vs, he, pe⟩, ⟨ks, hs, ps⟩, ⟨kl, hl, pl⟩, hg, ne, z1, z2, z3, z4⟩ := W
  refine ⟨⟨dy, ki _ _ _ _ hy⟩, ⟨vs, kz _ _ z1 he, L2.Paired.mapP pe fun _ _ h => h.keep kt⟩, ⟨ks, kz _ _ z2 hs, L2.Paired.mapP ps fun _ _ ⟨a, yn, b, c, d, n1, n2, za, zb, S⟩ => ⟨a, yn, b, c, d, n1, n2, za, zb, S.keep (fun o h => ?_) (fun o h => kz _ _ za h) (fun o h => kz _ _ zb h)⟩⟩, ⟨kl, kz _ _ z3 hl, L2.Paired.mapP pl fun _ _ ⟨a, u, vs, b, n, z, c, d⟩ => ⟨a, u, vs, b, n, z, kz _ _ z c, L2.Paired.mapP d fun _ _ h => h.keep kt⟩⟩, kz _ _ z4 hg, ne, z1, z2, z3, z4⟩
  obtain ⟨dx, hx⟩ := S.obj
  rw [hx] at h
  obtain rfl := Option.some.inj h
  exact ki _ _ _ _ hx
theorem WvO.alloc {Z : Addr → Prop} {C Cst : Addr} {H : Hp} {y w e s l g : Addr} {ev : List Ev} (W : WvO Z C Cst H y w e s l g ev) : WvO (fun a => Z a ∧ ∃ o, H a = some o) C Cst H y w e s l g ev := by
  obtain ⟨ho, ⟨vs, he, pe⟩, ⟨ks, hs, ps⟩, ⟨kl, hl, pl⟩, hg, ne, z1, z2, z3, z4⟩ := W
  exact ⟨ho, ⟨vs, he, pe⟩, ⟨ks, hs, L2.Paired.mapP ps fun _ _ ⟨a, yn, b, c, d, n1, n2, za, zb, S⟩ => ⟨a, yn, b, c, d, n1, n2, ⟨za, _, S.ms⟩, ⟨zb, _, S.hs⟩, S⟩⟩, ⟨kl, hl, L2.Paired.mapP pl fun _ _ ⟨a, u, vs, b, n, z, c, d⟩ => ⟨a, u, vs, b, n, ⟨z, _, c⟩, c, d⟩⟩, hg, ne, ⟨z1, _, he⟩, ⟨z2, _, hs⟩, ⟨z3, _, hl⟩, z4, _, hg⟩
theorem WvO.kd {Z : Addr → Prop} {C Cst : Addr} {H : Hp} {y w e s l g : Addr} {ev : List Ev} (W : WvO Z C Cst H y w e s l g ev) : ∀ a ∈ [e, s, l, g], ∃ o, H a = some o ∧ (∀ c d fs, o ≠ .ins c d fs) ∧ ∀ xs, o ≠ .tup xs := by
  obtain ⟨_, ⟨vs, he, _⟩, ⟨ks, hs, _⟩, ⟨kl, hl, _⟩, hg, _⟩ := W
  intro a m
  simp only [List.mem_cons, List.not_mem_nil, or_false] at m
  rcases m with rfl | rfl | rfl | rfl
  · exact ⟨_, he, (fun _ _ _ h => nomatch h), fun _ h => nomatch h⟩
  · exact ⟨_, hs, (fun _ _ _ h => nomatch h), fun _ h => nomatch h⟩
  · exact ⟨_, hl, (fun _ _ _ h => nomatch h), fun _ h => nomatch h⟩
  · exact ⟨_, hg, (fun _ _ _ h => nomatch h), fun _ h => nomatch h⟩
theorem ths_kn {rs : List Row} {ts : List Th} (h : ThsOk rs ts) : ∀ th ∈ ts, findR rs th.1 ≠ none := fun t ht => by
  obtain ⟨k, hk⟩ := List.mem_iff_getElem?.mp ht
  obtain ⟨⟨⟨r, fr, _⟩, _, _⟩, _, _⟩ := h k t hk
  rw [fr]; exact fun h => nomatch h
theorem nms_inj {nms : List Int} (nd : nms.Nodup) : ∀ a b : Int, (0 ≤ a ∧ a < (nms.length : Int)) → (0 ≤ b ∧ b < (nms.length : Int)) → nms.getD a.toNat 0 = nms.getD b.toNat 0 → a = b := fun a b ha hb e => by
  have ea : nms[a.toNat]? = some (nms.getD a.toNat 0) := by rw [List.getD_eq_getElem?_getD, List.getElem?_eq_getElem (by omega)]; rfl
  have eb : nms[b.toNat]? = some (nms.getD b.toNat 0) := by rw [List.getD_eq_getElem?_getD, List.getElem?_eq_getElem (by omega)]; rfl
  rw [e] at ea
  have := (List.getElem?_inj (by omega) nd).mp (ea.trans eb.symm)
  omega
theorem names_at {nms : List Int} {n : Int} (h0 : 0 ≤ n) (h1 : n < (nms.length : Int)) : atI (nms.map V.int) n = some (.int (nms.getD n.toNat 0)) := by
  obtain ⟨j, rfl⟩ := Int.eq_ofNat_of_zero_le h0
  have hj : j < nms.length := by omega
  refine atI_nat (j := j) ?_
  rw [List.getElem?_map, List.getElem?_eq_getElem hj, List.getD_eq_getElem?_getD, Int.toNat_natCast, List.getElem?_eq_getElem hj]; rfl
theorem ren_get {f : Int → Int} {ev : List Ev} {i : Nat} {e : Ev} (h : ev[i]? = some e) : (ren f ev)[i]? = some (f e.1, e.2) := by
  unfold ren; rw [List.getElem?_map, h]; rfl
theorem mtsN_sub {A B : List Addr} {H : Hp} {us : List V} {u : List Th} (h : MtsN A H us u) (s : ∀ a ∈ B, a ∈ A) : MtsN B H us u := L2.Paired.mapP h fun _ _ ⟨p, pp, e, a, b, x⟩ => ⟨p, pp, e, fun h => a (s _ h), fun h => b (s _ h), x⟩
/-! ### what never changes: B -/
def wipeX (X : List Addr) (H : Hp) : Hp := fun a => if a ∈ X then none else H a
theorem wipe_in {X : List Addr} {H : Hp} {a : Addr} (h : a ∈ X) : wipeX X H a = none := if_pos h
theorem wipe_off {X : List Addr} {H : Hp} {a : Addr} (h : a ∉ X) : wipeX X H a = H a := if_neg h
theorem wipe_same {X : List Addr} {H : Hp} : Same (wipeX X H) H := fun a o h => by
  by_cases m : a ∈ X
  · rw [wipe_in m] at h; cases h
  · rw [wipe_off m] at h; exact h
structure B56 (Cw Cs : Addr) (B : Hp) (t O : Addr) (as Y : List Addr) (d R M N S w x wl wm : Addr) (rs : List Row) (ts : List Th) (Ns : List Int) : Prop where
  xt : B t = none
  xo : B O = none
  xa : ∀ a ∈ as, B a = none
  xy : ∀ a ∈ Y, B a = none
  ne : O ≠ t ∧ O ∉ as ∧ t ∉ as ∧ as.Nodup ∧ as.length = 4
  ds : ∃ ns : List Int, B d = some (.lst (ns.map V.int))
  rw : ∃ ws, B R = some (.lst ws) ∧ RowsN (fun _ => True) true B ws rs
  mm : ∃ us, B M = some (.lst us) ∧ MtsN [] B us ts
  nm : B N = some (.lst (Ns.map V.int))
  sl : B S = some (.lst (as.map V.ref))
  on : OnW Cw Cs B w x wl wm ts rs
structure E56 (C Cst : Addr) (B : Hp) (t O : Addr) (as : List Addr) (y w e s l g : Addr) (H : Hp) (n : Nat) (pe pev ev : List Ev) : Prop where
  sb : Same B H
  pl : ∃ k : Nat, H t = some (.lst [.int k])
  ol : ∃ us, H O = some (.lst us) ∧ Paired (EvAt H) us pe
  st : StsL n H as (fun i => trOf pev ((i : Nat) : Int))
  wv : WvO (fun a => a ∉ t :: O :: as) C Cst H y w e s l g ev
section
variable {Cw Cs C Cst : Addr} {B H H' : Hp} {t O : Addr} {as Y : List Addr} {d R M N S y w x wl wm e s l g : Addr} {rs : List Row} {ts : List Th} {Ns : List Int} {n : Nat} {pe pev ev : List Ev}
theorem E56.same (E : E56 C Cst B t O as y w e s l g H n pe pev ev) (k : Same H H') : E56 C Cst B t O as y w e s l g H' n pe pev ev :=
  ⟨E.sb.trans k, E.pl.imp fun _ h => k _ _ h, let ⟨us, a, b⟩ := E.ol; ⟨us, k _ _ a, L2.Paired.mapP b fun _ _ x => x.keep (.same k)⟩, E.st.same k, E.wv.same k⟩
theorem E56.kd (E : E56 C Cst B t O as y w e s l g H n pe pev ev) : ∀ a ∈ t :: O :: as, ∀ o, H a = some o → (∀ c d fs, o ≠ .ins c d fs) ∧ ∀ xs, o ≠ .tup xs := fun a m o h => by
  have no : ∀ {xs : List V}, H a = some (.lst xs) → (∀ c d fs, o ≠ .ins c d fs) ∧ ∀ xs, o ≠ .tup xs := fun h2 => by
    rw [h] at h2
    obtain rfl := Option.some.inj h2
    exact ⟨(fun _ _ _ h => nomatch h), fun _ h => nomatch h⟩
  rcases List.mem_cons.mp m with rfl | m
  · obtain ⟨_, h2⟩ := E.pl; exact no h2
  · rcases List.mem_cons.mp m with rfl | m
    · obtain ⟨_, h2, _⟩ := E.ol; exact no h2
    · obtain ⟨i, hi⟩ := List.getElem?_of_mem m
      exact no (E.st i a hi)
theorem E56.tk (E : E56 C Cst B t O as y w e s l g H n pe pev ev) (k : Le (t :: O :: as) H H') : TKeep H H' := fun a xs h => k _ _ (fun m => (E.kd a m _ h).2 _ rfl) h
theorem E56.wle (E : E56 C Cst B t O as y w e s l g H n pe pev ev) (k : Le (t :: O :: as) H H') : WvO (fun a => a ∉ t :: O :: as) C Cst H' y w e s l g ev := E.wv.le k (fun a m z => z m) E.kd
theorem B56.sle (F : B56 Cw Cs B t O as Y d R M N S w x wl wm rs ts Ns) (E : E56 C Cst B t O as y w e s l g H n pe pev ev) (k : Le (t :: O :: as) H H') : Same B H' := fun a o h => k _ _ (fun m => by
  rcases List.mem_cons.mp m with rfl | m
  · rw [F.xt] at h; cases h
  · rcases List.mem_cons.mp m with rfl | m
    · rw [F.xo] at h; cases h
    · rw [F.xa a m] at h; cases h) (E.sb _ _ h)
theorem B56.dr {K : PySem.W.Frag} (F : B56 Cw Cs B t O as Y d R M N S w x wl wm rs ts Ns) (E : E56 C Cst B t O as y w e s l g H n pe pev ev) : Dr K H d t := by
  obtain ⟨ns, h⟩ := F.ds
  exact ⟨⟨ns, E.sb _ _ h⟩, E.pl, ne_of_none h F.xt⟩
theorem B56.draw {K : PySem.W.Frag} (F : B56 Cw Cs B t O as Y d R M N S w x wl wm rs ts Ns) (E : E56 C Cst B t O as y w e s l g H n pe pev ev) (b : But t H H') (D : Dr K H' d t) : E56 C Cst B t O as y w e s l g H' n pe pev ev := by
  have k : Le (t :: O :: as) H H' := .but List.mem_cons_self b
  obtain ⟨us, a, p⟩ := E.ol
  exact ⟨F.sle E k, D.pl, ⟨us, b _ _ F.ne.1 a, L2.Paired.mapP p fun _ _ x => x.keep (E.tk k)⟩, fun i c h => b _ _ (fun z => F.ne.2.2.1 (z ▸ List.mem_of_getElem? h)) (E.st i c h), E.wle k⟩
theorem B56.act (F : B56 Cw Cs B t O as Y d R M N S w x wl wm rs ts Ns) (E : E56 C Cst B t O as y w e s l g H n pe pev ev) {i : Nat} {a : Addr} (hi : as[i]? = some a) {c : Ev} (hc : c.1 = ((i : Nat) : Int)) : E56 C Cst B t O as y w e s l g (upd H a (.lst (stV (actS (trOf pev ((i : Nat) : Int)) c.2.1 c.2.2) n))) n pe (pev ++ [c]) ev := by
  have ma := List.mem_of_getElem? hi
  have k : Le (t :: O :: as) H (upd H a (.lst (stV (actS (trOf pev ((i : Nat) : Int)) c.2.1 c.2.2) n))) := .upd (by simp [ma])
  obtain ⟨us, u, p⟩ := E.ol
  obtain ⟨n1, n2, n3, nd, _⟩ := F.ne
  have nta : t ≠ a := fun z => n3 (by rw [z]; exact ma)
  have nOa : O ≠ a := fun z => n2 (by rw [z]; exact ma)
  refine ⟨F.sle E k, E.pl.imp fun _ h => by rw [upd_ne nta]; exact h, ⟨us, by rw [upd_ne nOa]; exact u, L2.Paired.mapP p fun _ _ x => x.keep (E.tk k)⟩, ?_, E.wle k⟩
  have eI : trOf (pev ++ [c]) ((i : Nat) : Int) = actS (trOf pev ((i : Nat) : Int)) c.2.1 c.2.2 := by rw [tr_snoc, if_pos hc]
  have st := E.st.set (g := fun j => trOf (pev ++ [c]) ((j : Nat) : Int)) nd hi fun j hj => by
    show trOf (pev ++ [c]) _ = trOf pev _
    rw [tr_snoc, if_neg (by rw [hc]; omega)]
  rw [eI] at st
  exact st
theorem B56.app (F : B56 Cw Cs B t O as Y d R M N S w x wl wm rs ts Ns) (E : E56 C Cst B t O as y w e s l g H n pe pev ev) {us : List V} (hO : H O = some (.lst us)) (pO : Paired (EvAt H) us pe) {v : V} {c : Ev} (hv : EvAt H v c) : E56 C Cst B t O as y w e s l g (upd H O (.lst (us ++ [v]))) n (pe ++ [c]) pev ev := by
  have k : Le (t :: O :: as) H (upd H O (.lst (us ++ [v]))) := .upd (by simp)
  obtain ⟨n1, n2, n3, nd, _⟩ := F.ne
  exact ⟨F.sle E k, E.pl.imp fun _ h => by rw [upd_ne n1.symm]; exact h, ⟨_, upd_same, pair_app (L2.Paired.mapP pO fun _ _ x => x.keep (E.tk k)) (.cons (hv.keep (E.tk k)) .nil)⟩, fun i a h => by
    have na : a ≠ O := fun z => n2 (by rw [← z]; exact List.mem_of_getElem? h)
    rw [upd_ne na]; exact E.st i a h, E.wle k⟩
theorem B56.add (F : B56 Cw Cs B t O as [e, s, l, g] d R M N S w x wl wm rs ts Ns) (E : E56 C Cst B t O as y w e s l g H n pe pev ev) {ev' : List Ev} (k : Le [e, s, l, g] H H') (W : WvO (fun a => (a ∉ t :: O :: as) ∨ H a = none) C Cst H' y w e s l g ev') : E56 C Cst B t O as y w e s l g H' n pe pev ev' := by
  have al : ∀ a ∈ t :: O :: as, ∃ xs, H a = some (.lst xs) := fun a m => by
    rcases List.mem_cons.mp m with rfl | m
    · exact E.pl.elim fun _ h => ⟨_, h⟩
    · rcases List.mem_cons.mp m with rfl | m
      · exact E.ol.elim fun _ h => ⟨_, h.1⟩
      · obtain ⟨i, hi⟩ := List.getElem?_of_mem m
        exact ⟨_, E.st i a hi⟩
  have off : ∀ a ∈ t :: O :: as, a ∉ [e, s, l, g] := fun a m h => by
    obtain ⟨z1, z2, z3, z4⟩ := E.wv.z
    simp only [List.mem_cons, List.not_mem_nil, or_false] at h
    rcases h with rfl | rfl | rfl | rfl
    · exact z1 m
    · exact z2 m
    · exact z3 m
    · exact z4 m
  have tk : TKeep H H' := fun a xs h => k _ _ (fun m => by
    obtain ⟨o, h2, _, h3⟩ := E.wv.kd a m
    rw [h] at h2
    exact h3 _ (Option.some.inj h2).symm) h
  obtain ⟨us, u, p⟩ := E.ol
  refine ⟨fun a o h => k _ _ (fun m => by rw [F.xy a m] at h; cases h) (E.sb _ _ h), E.pl.imp fun _ h => k _ _ (off t List.mem_cons_self) h, ⟨us, k _ _ (off O (by simp)) u, L2.Paired.mapP p fun _ _ x => x.keep tk⟩, fun i a h => k _ _ (off a (by simp [List.mem_of_getElem? h])) (E.st i a h), W.zmono fun a h => h.elim id fun h m => by
    obtain ⟨xs, h2⟩ := al a m
    rw [h] at h2; cases h2⟩
theorem E56.off (E : E56 C Cst B t O as y w e s l g H n pe pev ev) : ∀ a ∈ t :: O :: as, a ∉ [e, s, l, g] := fun a m h => by
  obtain ⟨z1, z2, z3, z4⟩ := E.wv.z
  simp only [List.mem_cons, List.not_mem_nil, or_false] at h
  rcases h with rfl | rfl | rfl | rfl
  · exact z1 m
  · exact z2 m
  · exact z3 m
  · exact z4 m
theorem E56.tky (E : E56 C Cst B t O as y w e s l g H n pe pev ev) (k : Le [e, s, l, g] H H') : TKeep H H' := fun a xs h => k _ _ (fun m => by
  obtain ⟨o, h2, _, h3⟩ := E.wv.kd a m
  rw [h] at h2
  exact h3 _ (Option.some.inj h2).symm) h
end
abbrev st56 (a0 d t R M N y S O : Addr) (pl : Bool) (x12 x13 x14 x15 x16 x17 : Option V) : St := [some (.ref a0), some (.ref d), some (.ref t), some (.ref R), some (.ref M), some (.ref N), some (.ref y), some (.ref S), none, none, some (.ref O), some (.bl pl), x12, x13, x14, x15, x16, x17, none]
end My

namespace My
open PySem L2
section
variable {w : World} {K : PySem.W.Frag} {mg : Str → Option Value} {base : Heap}
set_option maxHeartbeats 32000000 in
set_option pp.maxSteps 700 in
theorem ok_law (T : Txt K mg) : FnOk PP w K mg base CX0 24 T.a_law T.fd_law ["_law_script"] (spLaw K) := by
  refine T.F_law.ok sc_law (fun vs H Q E h => ?_) (fun cdv A outer s H vs Q E hr h => ?_)
  · obtain ⟨a, ns, rfl, _⟩ := h; rfl
  · obtain ⟨a0, ns0, rfl, hS, hlen, qq⟩ := h
    refine ⟨_, (pss_cons (ps_set (i := 1) sc_law.nd rfl (.inl rfl) (pe_call (ok__law_draws T) (hr.mono (by omega)) (by rfl) T.g__law_draws T.F__law_draws.kp T.b__law_draws .nil pass0 (pa_cons (pv 0) pa_nil)))
      (pss_cons (ps_set (i := 2) sc_law.nd rfl (.inl rfl) (pe_lst (pa_cons (pe_int) pa_nil)))
      (pss_cons (ps_set (i := 3) sc_law.nd rfl (.inl rfl) (pe_call (ok__law_rows T) (hr.mono (by omega)) (by rfl) T.g__law_rows T.F__law_rows.kp T.b__law_rows .nil pass0 (pa_cons (pv 1) (pa_cons (pv 2) (pa_cons (pe_bl) pa_nil)))))
      (pss_cons (ps_set (i := 4) sc_law.nd rfl (.inr rfl) (pe_call (ok__law_things T) (hr.mono (by omega)) (by rfl) T.g__law_things T.F__law_things.kp T.b__law_things .nil pass0 (pa_cons (pv 1) (pa_cons (pv 2) (pa_cons (pv 3) (pa_cons (pe_ix ix_list (pe_lst (pa_cons (pe_int) (pa_cons (pe_int) (pa_cons (pe_int) (pa_cons (pe_int) (pa_cons (pe_int) (pa_cons (pe_int) (pa_cons (pe_int) pa_nil)))))))) (pe_call (ok__law_take T) (hr.mono (by omega)) (by rfl) T.g__law_take T.F__law_take.kp T.b__law_take .nil pass0 (pa_cons (pv 1) (pa_cons (pv 2) (pa_cons (pe_int) pa_nil)))) (fun _ _ => rfl)) pa_nil))))))
      (pss_cons (ps_set (i := 5) sc_law.nd rfl (.inl rfl) (pe_call (ok__law_names T) (hr.mono (by omega)) (by rfl) T.g__law_names T.F__law_names.kp T.b__law_names .nil pass0 (pa_cons (pv 1) (pa_cons (pv 2) pa_nil))))
      (pss_cons (ps_set (i := 6) sc_law.nd rfl (.inl rfl) (pe_make T.mk_Weaving (ok_Weaving_init T) (hr.mono (by omega)) (by rfl) T.g_Weaving T.b_Weaving_init .nil pass0 (pa_cons (pe_call (ok__law_web T) (hr.mono (by omega)) (by rfl) T.g__law_web T.F__law_web.kp T.b__law_web .nil pass0 (pa_cons (pe_call (ok__law_shape T) (hr.mono (by omega)) (by rfl) T.g__law_shape T.F__law_shape.kp T.b__law_shape .nil pass0 (pa_cons (pv 3) pa_nil)) (pa_cons (pv 4) pa_nil))) pa_nil)))
      (pss_cons (ps_set (i := 7) sc_law.nd rfl (.inr rfl) (pe_lc (own := [("_law_name", 8)]) (g := (gName 8)) (by rfl) sc_law.nd (pi_list (pv 5)) (blkOk_by (own := [("_law_name", 8)]) (N := ["_law_script", "_law_draws_here", "_law_at", "_law_rows_here", "_law_things_here", "_law_names_here", "_law_weaving", "_law_states", "_law_name", "_law_thing", "_law_events", "_law_plain", "_law_k", "_law_choices_here", "_law_event", "_law_wants_here", "_law_held", "_law_outside", "e"]) (sc := defScope S_law) (by decide +kernel)) (fun _ _ _ _ _ => (pg_name (i := 8) sc_law.nd rfl (by first | exact .inl rfl | exact .inr rfl))) (fun _ _ _ _ _ => pts_nil) (fun _ _ _ _ _ => (pe_lc (own := [("_law_thing", 9)]) (g := (gName 9)) (by rfl) sc_law.nd (pi_listK (K := K) rfl (pv 4)) (by refine blkOk_by (own := [("_law_thing", 9)]) (N := ["_law_script", "_law_draws_here", "_law_at", "_law_rows_here", "_law_things_here", "_law_names_here", "_law_weaving", "_law_states", "_law_name", "_law_thing", "_law_events", "_law_plain", "_law_k", "_law_choices_here", "_law_event", "_law_wants_here", "_law_held", "_law_outside", "e"]) ?_; change blkC _ (relS _ (defScope S_law)) _ _ = true; decide +kernel) (fun _ _ _ _ _ => (pg_name (i := 9) sc_law.nd rfl (by first | exact .inl rfl | exact .inr rfl))) (fun _ _ _ _ _ => pts_nil) (fun _ _ _ _ _ => (pe_int))))))
      (pss_cons (ps_set (i := 10) sc_law.nd rfl (.inl rfl) (pe_call (ok__law_begun T) (hr.mono (by omega)) (by rfl) T.g__law_begun T.F__law_begun.kp T.b__law_begun .nil pass0 (pa_cons (pv 1) (pa_cons (pv 2) (pa_cons (pv 3) (pa_cons (pv 4) (pa_cons (pv 7) pa_nil)))))))
      (pss_cons (ps_set (i := 11) sc_law.nd rfl (.inl rfl) (pe_cmpR op_ne (pe_call (ok__law_take T) (hr.mono (by omega)) (by rfl) T.g__law_take T.F__law_take.kp T.b__law_take .nil pass0 (pa_cons (pv 1) (pa_cons (pv 2) (pa_cons (pe_int) pa_nil)))) (pe_int) (nomark _)))
      (pss_cons (ps_for PassesOwn.never rfl (pi_range1 (by rfl) T.n_range (pa_cons (pe_call (ok__law_take T) (hr.mono (by omega)) (by rfl) T.g__law_take T.F__law_take.kp T.b__law_take .nil pass0 (pa_cons (pv 1) (pa_cons (pv 2) (pa_cons (pe_int) pa_nil)))) pa_nil)) (pg_name (i := 12) sc_law.nd rfl (.inl rfl)) (pss_cons (ps_set (i := 13) sc_law.nd rfl (.inl rfl) (pe_call (ok__law_choices T) (hr.mono (by omega)) (by rfl) T.g__law_choices T.F__law_choices.kp T.b__law_choices .nil pass0 (pa_cons (pv 3) (pa_cons (pv 4) (pa_cons (pv 7) (pa_cons (pv 11) pa_nil))))))
      (pss_one (ps_if (pt_cmpR op_gt (pe_callB call_len_seq (by rfl) T.n_len (by decide +kernel) (pa_cons (pv 13) pa_nil)) (pe_int) (nomark _)) (pss_cons (ps_set (i := 14) sc_law.nd rfl (.inl rfl) (pe_ix ix_list (pv 13) (pe_call (ok__law_take T) (hr.mono (by omega)) (by rfl) T.g__law_take T.F__law_take.kp T.b__law_take .nil pass0 (pa_cons (pv 1) (pa_cons (pv 2) (pa_cons (pe_callB call_len_seq (by rfl) T.n_len (by decide +kernel) (pa_cons (pv 13) pa_nil)) pa_nil)))) (fun _ _ => rfl)))
      (pss_cons (ps_expr (pe_call (ok__law_do T) (hr.mono (by omega)) (by rfl) T.g__law_do T.F__law_do.kp T.b__law_do .nil pass0 (pa_cons (pe_ix ix_list (pv 7) (pe_ix ix_tup (pv 14) (pe_int) (fun _ _ => rfl)) (fun _ _ => rfl)) (pa_cons (pe_ix ix_tup (pv 14) (pe_int) (fun _ _ => rfl)) pa_nil))))
      (pss_one (ps_expr (pe_bm PySem.F.plainAttrs_list PySem.F.slot_list_append PySem.F.type_list_append mt_append (pv 10) (pa_cons (pv 14) pa_nil)))))) pss_nil))))
      (pss_cons (ps_for PassesOwn.never rfl (pi_list (pv 10)) (pg_name (i := 14) sc_law.nd rfl (.inl rfl)) (pss_one (ps_expr (pe_meth (pv 6) T.cl_Weaving T.m_Weaving_add (ok_Weaving_add T) (hr.mono (by omega)) T.b_Weaving_add .nil pass0 (pa_cons (pe_ix ix_list (pv 5) (pe_ix ix_tup (pv 14) (pe_int) (fun _ _ => rfl)) (fun _ _ => rfl)) (pa_cons (pe_ix ix_tup (pv 14) (pe_int) (fun _ _ => rfl)) pa_nil))))))
      (pss_cons (ps_set (i := 15) sc_law.nd rfl (.inl rfl) (pe_call (ok__law_wants T) (hr.mono (by omega)) (by rfl) T.g__law_wants T.F__law_wants.kp T.b__law_wants .nil pass0 (pa_cons (pv 1) (pa_cons (pv 2) (pa_cons (pv 3) (pa_cons (pv 4) (pa_cons (pv 5) pa_nil)))))))
      (pss_cons (ps_if (pt_not (pt_val (pe_call (ok__law_asked T) (hr.mono (by omega)) (by rfl) T.g__law_asked T.F__law_asked.kp T.b__law_asked .nil pass0 (pa_cons (pv 6) (pa_cons (pv 7) (pa_cons (pv 5) (pa_cons (pv 15) pa_nil))))))) (pss_one (ps_ret (pe_bl))) pss_nil)
      (pss_cons (ps_setLc (i := 16) (own := [("_law_thing", 9)]) (g := (gName 9)) (by rfl) sc_law.nd rfl rfl (sw_true rfl rfl rfl (by decide +kernel)) (pi_range1 (by rfl) T.n_range (pa_cons (pe_callB call_len_seq (by rfl) T.n_len (by decide +kernel) (pa_cons (pv 4) pa_nil)) pa_nil)) (blkOk_by (own := [("_law_thing", 9)]) (N := ["_law_script", "_law_draws_here", "_law_at", "_law_rows_here", "_law_things_here", "_law_names_here", "_law_weaving", "_law_states", "_law_name", "_law_thing", "_law_events", "_law_plain", "_law_k", "_law_choices_here", "_law_event", "_law_wants_here", "_law_held", "_law_outside", "e"]) (sc := defScope S_law) (by decide +kernel)) (fun _ _ _ _ _ => (pg_name (i := 9) sc_law.nd rfl (by first | exact .inl rfl | exact .inr rfl))) (fun _ _ _ _ _ => (pts_one (PW.pt (pw_or (pt_cmpR op_eq (pe_ix (ixLK (K := K) rfl) (pe_ix (ixLK (K := K) rfl) (pv 7) (pe_int) (fun _ _ => rfl)) (pv 9) (fun _ _ => rfl)) (pe_int) (nomark _)) (pw_or1 (pt_cmpR op_eq (pe_ix (ixLK (K := K) rfl) (pe_ix (ixLK (K := K) rfl) (pv 7) (pe_int) (fun _ _ => rfl)) (pv 9) (fun _ _ => rfl)) (pe_int) (nomark _))))))) (fun _ _ _ _ _ => (pv 9)))
      (C8.pss_cut (ps_if (pt_cmpR op_gt (pe_callB call_len_seq (by rfl) T.n_len (by decide +kernel) (pa_cons (pv 16) pa_nil)) (pe_int) (nomark _)) (pss_cons (ps_expr (pe_call (ok__law_do T) (hr.mono (by omega)) (by rfl) T.g__law_do T.F__law_do.kp T.b__law_do .nil pass0 (pa_cons (pe_ix ix_list (pv 7) (pe_int) (fun _ _ => rfl)) (pa_cons (pe_tup (pa_cons (pe_str) (pa_cons (pe_ix ix_list (pv 16) (pe_int) (fun _ _ => rfl)) pa_nil))) pa_nil))))
      (pss_cons (ps_expr (pe_meth (pv 6) T.cl_Weaving T.m_Weaving_add (ok_Weaving_add T) (hr.mono (by omega)) T.b_Weaving_add .nil pass0 (pa_cons (pe_ix (ixLK (K := K) rfl) (pv 5) (pe_int) (fun _ _ => rfl)) (pa_cons (pe_tup (pa_cons (pe_str) (pa_cons (pe_ix ix_list (pv 16) (pe_int) (fun _ _ => rfl)) pa_nil))) pa_nil))))
      (pss_one (ps_if (pt_not (pt_val (pe_call (ok__law_asked T) (hr.mono (by omega)) (by rfl) T.g__law_asked T.F__law_asked.kp T.b__law_asked .nil pass0 (pa_cons (pv 6) (pa_cons (pv 7) (pa_cons (pv 5) (pa_cons (pv 15) pa_nil))))))) (pss_one (ps_ret (pe_bl))) pss_nil)))) pss_nil)
      (pss_cons (ps_set (i := 17) sc_law.nd rfl (.inl rfl) (pe_op op_add (pe_callB call_len_seq (by rfl) T.n_len (by decide +kernel) (pa_cons (pv 4) pa_nil)) (pe_call (ok__law_take T) (hr.mono (by omega)) (by rfl) T.g__law_take T.F__law_take.kp T.b__law_take .nil pass0 (pa_cons (pv 1) (pa_cons (pv 2) (pa_cons (pe_int) pa_nil))))))
      (pss_cons (ps_try_as (i := 18) rfl rfl sc_law.nd rfl rfl ⟨rfl, by decide, .inl T.g_NoThing⟩ takes0 (fun W pn xe tk po => (pss_one (ps_expr (pe_callS (ok_waits T) (hr.mono (by omega)) (by rfl) T.g_waits T.F_waits.kp T.b_waits (fun σ => passAt tk σ) (pa_cons (pv 6) (pa_cons (pe_op op_cat (pv 15) (pe_lst (pa_cons (pe_tup (pa_cons (pe_ix (ixLK (K := K) rfl) (pv 5) (pe_int) (fun _ _ => rfl)) (pa_cons (pe_tup (pa_cons (pe_str) (pa_cons (pv 17) pa_nil))) pa_nil))) pa_nil))) pa_nil)))))) (fun a oe cls d pn hz hf => (pss_one (ps_ret (pe_callE (E := E0) (okE__law_same T _) (room_suite hr (by omega) rfl rfl) List.mem_cons_self (by rfl) T.g__law_same T.F__law_same.kp T.b__law_same pass0 (pa_cons (pe_xfX hz hf (pv 18)) (pa_cons (pv 17) pa_nil)))))))
      (pss_one (ps_ret (pe_bl)))))))))))))))))))), ?_⟩
    have big : 100000 < sizeLine := by decide
    refine ⟨_, rfl, a0, ns0, rfl, hS, hlen, fun d zs H1 s1 nd hd => ?_⟩
    refine ⟨by show 1 ≤ sizeLine; decide, fun t hat => ?_⟩
    have D0 : Dr K (upd H1 t (.lst [.int 0])) d t := ⟨⟨zs, same_new hat _ _ hd⟩, ⟨0, upd_same⟩, ne_of_none hd hat⟩
    revert D0
    generalize upd H1 t (.lst [.int 0]) = H2
    intro D0
    -- the rows
    refine ⟨_, rfl, _, rfl, d, t, false, rfl, D0, fun ms prs ws R H6 pok m3 l1 l3 nms0 oms D6 b6 nR hR rR => ?_⟩
    have g := good_named pok (by omega : ms.length ≤ 6) (Nat.le_refl _) nms0 oms
    have low : ∀ r, (prs.map (nameR ms))[0]? = some r → r.least = 0 := fun r hr => by
      rw [List.getElem?_map] at hr
      cases e : prs[0]? with
      | none => rw [e] at hr; cases hr
      | some p =>
        rw [e] at hr
        obtain rfl := Option.some.inj hr
        have o := pok.2 0 p e
        show p.least = 0
        by_cases c : p.least = 0
        · exact c
        · obtain ⟨j, hj, lt⟩ := o.low c
          have := (o.pars.2 j hj).1
          omega
    have m3' : ∀ r ∈ prs.map (nameR ms), r.most ≤ 3 := fun r hr => by
      obtain ⟨p, hp, rfl⟩ := List.mem_map.mp hr
      exact m3 p hp
    have lrs : (prs.map (nameR ms)).length = ms.length := by rw [List.length_map]; exact pok.1
    generalize prs.map (nameR ms) = rs at g low m3' lrs rR
    have lws := pair_len' rR
    have nRt : R ≠ t := D0.na nR
    have ndm : (mks rs).Nodup := g.nd
    have rR6 : RowsN (fun a => a ≠ t) true H6 ws rs := rowsN_sub rR fun a f => D0.na f
    -- the things
    refine ⟨_, rfl, _, rfl, _, rfl, by show 7 ≤ sizeLine; decide, fun m hm => ?_⟩
    have s3 := same_new (o := .lst [.int 4, .int 5, .int 3, .int 6, .int 2, .int 0, .int 1]) hm
    have nmt : m ≠ t := D6.na hm
    refine ⟨_, rfl, _, rfl, d, t, 7, rfl, D6.same s3, by decide, fun r H8 r0 r1 D8 b8 => ?_⟩
    obtain ⟨v, hv, mv⟩ := at_ok (xs := [.int 4, .int 5, .int 3, .int 6, .int 2, .int 0, .int 1]) r0 r1
    obtain ⟨n, rfl, hn⟩ : ∃ n : Nat, v = .int n ∧ n ≤ 6 := by
      simp only [List.mem_cons, List.not_mem_nil, or_false] at mv
      rcases mv with rfl | rfl | rfl | rfl | rfl | rfl | rfl
      · exact ⟨4, rfl, by decide⟩
      · exact ⟨5, rfl, by decide⟩
      · exact ⟨3, rfl, by decide⟩
      · exact ⟨6, rfl, by decide⟩
      · exact ⟨2, rfl, by decide⟩
      · exact ⟨0, rfl, by decide⟩
      · exact ⟨1, rfl, by decide⟩
    have hR8 := b8 _ _ nRt (s3 _ _ hR)
    have rR8 : RowsN (fun a => a ≠ t) true H8 ws rs := rowsN_le (rowsN_same rR6 s3) fun a o f e => b8 a o f e
    refine ⟨_, _, _, _, rfl, rfl, SqL.of (b8 _ _ nmt upd_same), hv, ?_⟩
    refine ⟨d, t, R, n, rs, ws, rfl, D8, hR8, nRt, rR8, by omega, g, low, m3', by omega, fun us ts M H9 ok lts D9 b9 nM hM mM => ?_⟩
    have nMt : M ≠ t := D8.na nM
    have lus := pair_len' mM
    have hR9 := b9 _ _ nRt hR8
    have rR9 : RowsN (fun a => a ≠ t) true H9 ws rs := rowsN_le rR8 fun a o f e => b9 a o f e
    clear rR8 hR8 rR6 hR rR hv mv s3 hm nmt
    -- the names
    refine ⟨_, rfl, _, rfl, d, t, rfl, D9, fun Ns N Ha lN ndN Da ba nN hN => ?_⟩
    have nNt : N ≠ t := D9.na nN
    have hRa := ba _ _ nRt hR9
    have rRa : RowsN (fun a => a ≠ t) true Ha ws rs := rowsN_le rR9 fun a o f e => ba a o f e
    have hMa := ba _ _ nMt hM
    have mMa : MtsN [t] Ha us ts := mtsN_le mM (.but (by simp) ba)
    clear rR9 hR9 hM mM
    -- the shape, the web, the weaving
    refine ⟨_, rfl, R, ws, rs, rfl, hRa, rowsN_sub rRa (fun _ _ => trivial), by omega, by omega, g, fun x Hc sc nx Sx => ?_⟩
    refine ⟨_, rfl, x, M, rs, us, ts, rfl, Sx.sh, sc _ _ hMa, mtsN_sub (mtsN_le mMa (.same sc)) (by simp), ok, by omega, fun wa wl wm Hd sd nw nwl nwm W => ?_⟩
    refine make_wv fun y e s l g Hk sk ny Wk => ⟨rfl, ?_⟩
    have kn := ths_kn ok
    have Wz := Wk.alloc
    have sad := sc.trans sd
    have sak := sad.trans sk
    have Dk := Da.same sak
    obtain ⟨kt, htd⟩ := (Da.same sad).pl
    obtain ⟨zd, hdd⟩ := (Da.same sad).ds
    have on : OnW T.c_Web T.c_Shape Hd wa x wl wm ts rs := ⟨W, Sx.sh.same sd, kn⟩
    -- the states
    have hNk := sak _ _ hN
    have hMk := sak _ _ hMa
    refine ⟨_, rfl, N, rfl, ⟨_, SqL.of hNk⟩, fun S nS => lc_list (K := K) (a := N) (xs := Ns.map V.int) (fun i H' => ∃ as : List Addr, as.length = i ∧ Same Hk H' ∧ H' S = some (.lst (as.map V.ref)) ∧ (∀ a ∈ as, Hk a = none ∧ H' a = some (.lst (stV [] ts.length))) ∧ S ∉ as ∧ as.Nodup) ⟨[], rfl, same_new nS, upd_same, (fun _ h => nomatch h), (fun h => nomatch h), .nil⟩ (fun i H' _ ⟨_, _, h, _⟩ => SqL.of (h _ _ hNk)) ?_ ?_⟩
    · rintro i v H1 hv ⟨as, la, s1, h1S, ha, nSa, nda⟩
      have hi := (List.getElem?_eq_some_iff.mp hv).1
      rw [List.length_map, lN] at hi
      refine ⟨rfl, ?_⟩
      refine yes_i ?_
      refine iteT ⟨_, rfl, M, rfl, ⟨_, SqL.of (s1 _ _ hMk)⟩, fun D nD => lc_list (K := K) (a := M) (xs := us) (fun j H' => Same H1 H' ∧ H' D = some (.lst ((List.range j).map fun _ => V.int 0))) ⟨same_new nD, upd_same⟩ (fun j H' _ h => SqL.of (h.1 _ _ (s1 _ _ hMk))) ?_ ?_⟩
      · rintro j v H2 hv ⟨s2, h2⟩
        have hj := (List.getElem?_eq_some_iff.mp hv).1
        refine ⟨rfl, ?_⟩
        refine yes_i ?_
        exact iteT ⟨_, h2, by rw [List.length_map, List.length_range]; omega, same_mut s2 nD, by rw [upd_same, List.range_succ, List.map_append]; rfl⟩
      · rintro H2 ⟨s2, h2⟩
        rw [lus] at h2
        have h2 : H2 D = some (.lst (stV [] ts.length)) := h2
        have h2S := s2 _ _ h1S
        have nDS : D ≠ S := fun e => by rw [e, h1S] at nD; cases nD
        have nDa : D ∉ as := fun m => by rw [(ha D m).2] at nD; cases nD
        refine ⟨_, h2S, by rw [List.length_map]; omega, as ++ [D], by rw [List.length_append, la]; rfl, same_mut (s1.trans s2) nS, by rw [upd_same, List.map_append]; rfl, fun a m => ?_, fun m => (List.mem_append.mp m).elim nSa fun m => nDS (List.mem_singleton.mp m).symm, List.nodup_append.mpr ⟨nda, by simp, fun a m b mb e => nDa (by rw [List.mem_singleton.mp mb] at e; exact e ▸ m)⟩⟩
        rcases List.mem_append.mp m with m | m
        · rw [upd_ne (fun e => nSa (by rw [← e]; exact m))]
          exact ⟨(ha a m).1, s2 _ _ (ha a m).2⟩
        · obtain rfl := List.mem_singleton.mp m
          rw [upd_ne nDS]
          exact ⟨s1.free nD, h2⟩
    rintro Hs ⟨as, la, ss, hS, ha, nSa, nda⟩
    rw [List.length_map, lN] at la
    have Ds := Dk.same ss
    have skS := sak.trans ss
    have sdS := sk.trans ss
    have fa : ∀ {a : Addr} {o : HO}, Hk a = some o → a ∉ as := fun h m => by rw [(ha _ m).1] at h; cases h
    have htk := sk _ _ htd
    have nta : t ∉ as := fa htk
    have nSt : S ≠ t := Dk.na nS
    have hMs := skS _ _ hMa
    have hRs := skS _ _ hRa
    have fRa : ∀ a, a ≠ t → ∀ o, Ha a = some o → a ∉ as := fun a n o h => fa (sak _ _ h)
    have rRs : RowsN (fun a => a ≠ t ∧ a ∉ as) true Hs ws rs := L2.Paired.mapP rRa fun _ _ ⟨q, qq, e, f, g', h1, h2⟩ => ⟨q, qq, e, ⟨f, fa (sak _ _ h1)⟩, ⟨g', fa (sak _ _ h2)⟩, skS _ _ h1, skS _ _ h2⟩
    have mMs : MtsN (t :: as) Hs us ts := L2.Paired.mapP mMa fun _ _ ⟨p, pp, e, a, b, h1, h2⟩ => ⟨p, pp, e, fun m => (List.mem_cons.mp m).elim (fun z => a (by rw [z]; exact List.mem_singleton.mpr rfl)) (fa (sak _ _ h1)), fun m => (List.mem_cons.mp m).elim (fun z => b (by rw [z]; exact List.mem_singleton.mpr rfl)) (fa (sak _ _ h2)), skS _ _ h1, skS _ _ h2⟩
    -- the first events
    refine ⟨_, rfl, _, rfl, _, rfl, _, rfl, _, rfl, d, t, R, M, S, ws, us, as, rs, ts, rfl, Ds, hRs, nRt, fa (sak _ _ hRa), rRs, hMs, nMt, fa hMk, mMs, by omega, hS, nSt, nSa, nta, fa (sk _ _ hdd), nda, la, (fun i a h => (ha a (List.mem_of_getElem? h)).2), fun pev0 ev0 O Hb Db lb nO hO pO dn0 rg0 le0 st0 => ?_⟩
    have nOt : O ≠ t := Ds.na nO
    have nOa : O ∉ as := fun m => by rw [(ha O m).2] at nO; cases nO
    have yk : ∀ a ∈ [e, s, l, g], Hd a = none ∧ ∃ o, Hk a = some o := fun a m => by
      obtain ⟨z1, z2, z3, z4⟩ := Wz.z
      simp only [List.mem_cons, List.not_mem_nil, or_false] at m
      rcases m with rfl | rfl | rfl | rfl
      · exact z1
      · exact z2
      · exact z3
      · exact z4
    have Wb : WvO (fun a => a ∉ t :: O :: as) T.c_Weaving T.c_Standing Hb y wa e s l g [] := by
      refine ((Wz.same ss).le (X := t :: as) (fun a o n h => lb a o (fun z => n (by rw [z]; exact List.mem_cons_self)) (fun m => n (List.mem_cons_of_mem _ m)) h) (fun a m z => ?_) fun a m o h => ?_).zmono fun a ⟨z, o, h⟩ m => ?_
      · rcases List.mem_cons.mp m with rfl | m
        · rw [htd] at z; cases z.1
        · obtain ⟨_, o, h⟩ := z
          rw [(ha a m).1] at h; cases h
      · have no : ∀ {xs : List V}, Hs a = some (.lst xs) → (∀ c d fs, o ≠ .ins c d fs) ∧ ∀ xs, o ≠ .tup xs := fun h2 => by
          rw [h] at h2
          obtain rfl := Option.some.inj h2
          exact ⟨(fun _ _ _ h => nomatch h), fun _ h => nomatch h⟩
        rcases List.mem_cons.mp m with rfl | m
        · exact no (ss _ _ htk)
        · exact no (ha a m).2
      · rcases List.mem_cons.mp m with rfl | m
        · rw [htd] at z; cases z
        · rcases List.mem_cons.mp m with rfl | m
          · rw [ss _ _ h] at nO; cases nO
          · rw [(ha a m).1] at h; cases h
    obtain ⟨B, eB⟩ : ∃ B, B = wipeX ((t :: O :: as) ++ [e, s, l, g]) Hb := ⟨_, rfl⟩
    have sB : Same B Hb := by rw [eB]; exact wipe_same
    have kB : ∀ {a : Addr} {o : HO}, Hb a = some o → a ∉ t :: O :: as → a ∉ [e, s, l, g] → B a = some o := fun {a o} h h1 h2 => by
      rw [eB, wipe_off (fun m => (List.mem_append.mp m).elim h1 h2)]; exact h
    have xB : ∀ {a : Addr}, a ∈ (t :: O :: as) ++ [e, s, l, g] → B a = none := fun m => by rw [eB]; exact wipe_in m
    have kd : ∀ {a : Addr} {o : HO}, Hd a = some o → a ≠ t → B a = some o := fun {a o} h n => kB (lb _ _ n (fa (sk _ _ h)) (sdS _ _ h)) (by
      simp only [List.mem_cons, not_or]
      exact ⟨n, ne_of_none (sdS _ _ h) nO, fa (sk _ _ h)⟩) (fun m => by rw [(yk a m).1] at h; cases h)
    have tnt : ∀ {a : Addr} {xs : List V}, Hd a = some (.tup xs) → a ≠ t := fun h z => by rw [z, htd] at h; cases h
    have F : B56 T.c_Web T.c_Shape B t O as [e, s, l, g] d R M N S wa x wl wm rs ts Ns := by
      refine ⟨xB (by simp), xB (by simp), fun a m => xB (by simp [m]), fun a m => xB (List.mem_append_right _ m), ⟨nOt, nOa, nta, nda, la⟩, ⟨zd, kd hdd Da.ne⟩, ⟨ws, kd (sad _ _ hRa) nRt, L2.Paired.mapP rRa fun _ _ ⟨q, qq, e, f, g', h1, h2⟩ => ⟨q, qq, e, trivial, trivial, kd (sad _ _ h1) f, kd (sad _ _ h2) g'⟩⟩, ⟨us, kd (sad _ _ hMa) nMt, L2.Paired.mapP mMa fun _ _ ⟨p, pp, e, a, b, h1, h2⟩ => ⟨p, pp, e, (fun h => nomatch h), (fun h => nomatch h), kd (sad _ _ h1) (fun z => a (by rw [z]; exact List.mem_singleton.mpr rfl)), kd (sad _ _ h2) (fun z => b (by rw [z]; exact List.mem_singleton.mpr rfl))⟩⟩, kd (sad _ _ hN) nNt, kB (lb _ _ nSt nSa hS) (by simp only [List.mem_cons, not_or]; exact ⟨nSt, ne_of_none hS nO, nSa⟩) (fun m => by
        obtain ⟨_, o, h⟩ := yk S m
        rw [nS] at h; cases h), ⟨?_, ?_, kn⟩⟩
      · obtain ⟨⟨dw, hw⟩, _⟩ := id W
        exact W.keep (fun o h => kd h (fun z => by rw [z, htd] at hw; cases hw)) (fun o h => kd h ((Da.same sc).na nwl)) (fun o h => kd h ((Da.same sc).na nwm)) fun a xs h => kd h (tnt h)
      · obtain ⟨dx, xl, xm, vs, f1, f2, h1, h2, h3, h4⟩ := Sx
        exact ⟨dx, xl, xm, vs, kd (sd _ _ h1) (Da.na nx), kd (sd _ _ h2) (Da.na f1), rowsT_keep h3 (fun a xs e => kd (sd _ _ e) (tnt (sd _ _ e))), kd (sd _ _ h4) (Da.na f2)⟩
    have E0 : E56 T.c_Weaving T.c_Standing B t O as y wa e s l g Hb ts.length pev0 pev0 [] := ⟨sB, Db.pl, ⟨ev0, hO, pO⟩, st0, Wb⟩
    clear tnt kd xB kB sB Wb yk hO pO st0 nO lb Db mMs rRs fRa hRs hMs nSt htk fa sdS skS Ds ha nSa hS ss nS hNk hMk on hdd htd Dk sak sad Wz Wk sk ny W nw nwl nwm sd Sx nx sc hMa mMa hRa rRa ba nN hN Da nRt nMt nNt nM
    obtain ⟨wsB, hRB, rRB⟩ := F.rw
    obtain ⟨usB, hMB, mMB⟩ := F.mm
    obtain ⟨nOt, nOa, nta, nda, la⟩ := F.ne
    have lusB := pair_len' mMB
    have lam : (as.map V.ref).length = 4 := by rw [List.length_map]; exact la
    -- plain
    refine ⟨_, rfl, _, rfl, d, t, 3, rfl, F.dr E0, by decide, fun r2 He r20 r21 De be => ⟨rfl, ?_⟩⟩
    have E1 := F.draw E0 be De
    clear E0 be De
    generalize ePl : (!decide (V.int r2 = V.int 2)) = pl
    refine ⟨_, rfl, _, rfl, d, t, 11, rfl, F.dr E1, by decide, fun r3 Hf r30 r31 Df bf => ⟨_, rfl, by omega, by omega, for_range (lo := 0) (n := r3.toNat) (fun k σ H' => ∃ (x12 x13 x14 : Option V) (pev : List Ev), σ = st56 a0 d t R M N y S O pl x12 x13 x14 none none none ∧ E56 T.c_Weaving T.c_Standing B t O as y wa e s l g H' ts.length pev pev [] ∧ EvDone ts rs pev ∧ (∀ e ∈ pev, 0 ≤ e.1 ∧ e.1 < (4 : Nat)) ∧ pev.length ≤ 4 + k) ⟨_, _, _, pev0, (by rw [← ePl]; rfl), F.draw E1 bf Df, dn0, rg0, by omega⟩ ?_ ?_⟩⟩
    · rintro k σ Hg hk ⟨x12, x13, x14, pev, rfl, Eg, dn, rg, le⟩
      rw [Int.zero_add]
      refine ⟨_, rfl, _, rfl, _, rfl, _, rfl, R, M, S, wsB, usB, as, _, rs, ts, _, rfl, Eg.sb _ _ hRB, rowsN_same rRB Eg.sb, Eg.sb _ _ hMB, mtsN_le mMB (.same Eg.sb), by omega, Eg.sb _ _ F.sl, by omega, Eg.st, fun u cs ch Hh sh nu hu pc okc => ?_⟩
      have Eh := Eg.same sh
      refine ⟨_, rfl, u, _, rfl, .inl (SqL.of hu), _, _, rfl, rfl, _, rfl, iteD (fun c => ?_) (fun c => ⟨_, _, _, pev, rfl, Eh, dn, rg, by omega⟩)⟩
      refine ⟨_, rfl, _, rfl, _, rfl, _, rfl, u, _, rfl, .inl (SqL.of hu), d, t, _, rfl, F.dr Eh, c, fun r4 Hi r40 r41 Di bi => ?_⟩
      obtain ⟨ix, rfl⟩ := Int.eq_ofNat_of_zero_le r40
      have hix : ix < cs.length := by omega
      have hcv := List.getElem?_eq_getElem hix
      obtain ⟨c0, hc0, pa, qa, ev1, hpa, hqa⟩ := pair_get' pc hcv
      rw [ev1] at hcv
      obtain ⟨i, j, hi, e1, hj, e2, okd, du, fre⟩ := okc c0 (List.mem_of_getElem? hc0)
      have nut : u ≠ t := (F.dr (K := K) Eg).na nu
      obtain ⟨kh, hth⟩ := Eh.pl
      have hpa := bi _ _ (fun z => by rw [z, hth] at hpa; cases hpa) hpa
      have hqa := bi _ _ (fun z => by rw [z, hth] at hqa; cases hqa) hqa
      have Ei := F.draw Eh bi Di
      refine ⟨_, _, _, _, rfl, rfl, SqL.of (bi _ _ nut hu), atI_nat hcv, ?_⟩
      obtain ⟨a, hai, hav⟩ := get_ref (as := as) (j := i) hi
      have hat : atI (as.map V.ref) c0.1 = some (.ref a) := by rw [e1]; exact atI_nat hav
      obtain ⟨_, _, dd, dl⟩ := due_none du
      have hqa' := hqa
      rw [e2] at hqa'
      refine ⟨_, rfl, _, rfl, _, _, _, _, rfl, rfl, SqT.of hpa, atI_nat (j := 0) rfl, _, _, _, _, rfl, rfl, SqL.of (Ei.sb _ _ F.sl), hat, _, rfl, _, _, _, _, rfl, rfl, SqT.of hpa, atI_nat (j := 1) rfl, a, qa, trOf pev ((i : Nat) : Int), ts.length, j, c0.2.1, rfl, Ei.st i a hai, hqa', by omega, hj, okd, dd, dl, ?_⟩
      have Ej := F.act Ei hai (c := c0) e1
      rw [e2] at Ej
      have ha := Ei.st i a hai
      have npa : pa ≠ a := fun z => by rw [z, ha] at hpa; cases hpa
      have nqa : qa ≠ a := fun z => by rw [z, ha] at hqa; cases hqa
      obtain ⟨vs, hOj, pOj⟩ := Ej.ol
      have lvs := pair_len' pOj
      refine ⟨_, rfl, .inl ⟨rfl, _, SqL.of hOj⟩, _, rfl, _, _, _, rfl, rfl, hOj, by omega, ?_⟩
      refine ⟨_, _, _, pev ++ [c0], rfl, F.app Ej hOj pOj (c := c0) ⟨pa, qa, rfl, by rw [upd_ne npa]; exact hpa, by rw [upd_ne nqa]; exact hqa⟩, .snoc dn ⟨?_, fun nd => no_clash rg okd nd ?_⟩, fun x hx => ?_, by rw [List.length_append]; simp; omega⟩
      · rw [e1, e2]; exact du
      · rw [e1, e2]; exact fun l hl => fre l (by omega)
      · rcases List.mem_append.mp hx with hx | hx
        · exact rg x hx
        · rw [List.mem_singleton.mp hx, e1]; exact ⟨by omega, by omega⟩
    clear E1 Df bf dn0 rg0 le0 ePl
    rintro σ Hg ⟨x12, x13, x14, pev, rfl, Eg, dn, rg, le⟩
    have lpv : pev.length ≤ 14 := by omega
    obtain ⟨f, hf⟩ : ∃ f : Int → Int, f = fun i => Ns.getD i.toNat 0 := ⟨_, rfl⟩
    have inj : ∀ a b : Int, (0 ≤ a ∧ a < (Ns.length : Int)) → (0 ≤ b ∧ b < (Ns.length : Int)) → f a = f b → a = b := by rw [hf]; exact nms_inj ndN
    have dne : EvDone ts rs (ren f pev) := ren_done (S := fun i => 0 ≤ i ∧ i < (Ns.length : Int)) inj dn (fun e he => by rw [lN]; exact rg e he)
    have lev : (ren f pev).length ≤ 14 := by rw [ren_len]; exact lpv
    -- the events, put
    obtain ⟨vs, hOg, pOg⟩ := Eg.ol
    have lvs := pair_len' pOg
    refine ⟨_, rfl, O, rfl, ⟨_, SqL.of hOg⟩, for_list (K := K) (a := O) (xs := vs) (fun i σ H' => ∃ (x14 : Option V), σ = st56 a0 d t R M N y S O pl x12 x13 x14 none none none ∧ E56 T.c_Weaving T.c_Standing B t O as y wa e s l g H' ts.length pev pev ((ren f pev).take i) ∧ H' O = some (.lst vs) ∧ Paired (EvAt H') vs pev) ⟨_, rfl, by rw [List.take_zero]; exact Eg, hOg, pOg⟩ (fun i σ H' _ ⟨_, _, _, h, _⟩ => SqL.of h) ?_ ?_⟩
    · rintro i v σ Hm hv ⟨x14, rfl, Em, hOm, pOm⟩
      obtain ⟨e0, he, pa, qa, rfl, hpa, hqa⟩ := pair_get' pOm hv
      obtain ⟨g0, g4⟩ := rg e0 (List.mem_of_getElem? he)
      have he' := ren_get (f := f) he
      obtain ⟨dyw, hyw⟩ := Em.wv.obj
      have lt1 : ((ren f pev).take i).length ≤ 14 := by rw [List.length_take]; omega
      have nlt := names_le ((ren f pev).take i)
      have hNm : atI (Ns.map V.int) e0.1 = some (.int (f e0.1)) := by rw [hf]; exact names_at g0 (by omega)
      refine ⟨_, rfl, y, dyw, _, rfl, hyw, rfl, _, rfl, _, rfl, _, _, _, _, rfl, rfl, SqT.of hpa, atI_nat (j := 0) rfl, _, _, _, _, rfl, rfl, SqL.of (Em.sb _ _ F.nm), hNm, _, rfl, _, _, _, _, rfl, rfl, SqT.of hpa, atI_nat (j := 1) rfl, y, wa, e, s, l, g, x, wl, wm, qa, f e0.1, e0.2.1, e0.2.2, (ren f pev).take i, ts, rs, _, rfl, Em.wv, (dne.take i).ok (by omega), F.on.same Em.sb, .inr hqa, by omega, by omega, by omega, (dne.next he').1, (dne.next he').2, fun Hn le W => ?_⟩
      have En := F.add Em le W
      refine ⟨_, rfl, ?_, le _ _ (Em.off O (by simp)) hOm, L2.Paired.mapP pOm fun _ _ x => x.keep (Em.tky le)⟩
      rw [List.take_add_one, he', Option.toList_some]
      exact En
    clear Eg hOg pOg
    rintro σ H9 ⟨x14, rfl, E9, hO9, pO9⟩
    rw [List.take_of_length_le (by rw [ren_len]; omega)] at E9
    have f0 : ∀ (i : Nat) b, Ns[i]? = some b → f ((i : Nat) : Int) = b := fun i b h => by
      rw [hf]
      show Ns.getD (((i : Nat) : Int).toNat) 0 = b
      rw [Int.toNat_natCast, List.getD_eq_getElem?_getD, h]; rfl
    have relOf : ∀ {pv : List Ev}, (∀ e ∈ pv, 0 ≤ e.1 ∧ e.1 < (4 : Nat)) → ∀ (i : Nat) b, Ns[i]? = some b → trOf pv ((i : Nat) : Int) = trOf (ren f pv) b := fun {pv} rg i b h => by
      have hi := (List.getElem?_eq_some_iff.mp h).1
      rw [← f0 i b h]
      exact (ren_tr (S := fun i => 0 ≤ i ∧ i < (Ns.length : Int)) inj ⟨by omega, by omega⟩ (fun e he => by rw [lN]; exact rg e he)).symm
    have covOf : ∀ {pv : List Ev}, (∀ e ∈ pv, 0 ≤ e.1 ∧ e.1 < (4 : Nat)) → ∀ n ∈ namesOf (ren f pv), n ∈ Ns := fun {pv} rg n hn => by
      obtain ⟨e', he', rfl⟩ := names_mem.mp hn
      unfold ren at he'
      obtain ⟨e0, he0, rfl⟩ := List.mem_map.mp he'
      obtain ⟨g0, g4⟩ := rg e0 he0
      obtain ⟨j, hj⟩ := Int.eq_ofNat_of_zero_le g0
      have hjl : j < Ns.length := by omega
      show f e0.1 ∈ Ns
      rw [hj, f0 j _ (List.getElem?_eq_getElem hjl)]
      exact List.getElem_mem hjl
    -- the wants
    have rRt : ∀ {H' : Hp}, Same B H' → RowsN (fun a => a ≠ t) true H' wsB rs := fun s => rowsN_same (L2.Paired.mapP rRB fun _ _ ⟨q, qq, e, _, _, h1, h2⟩ => ⟨q, qq, e, ne_of_none h1 F.xt, ne_of_none h2 F.xt, h1, h2⟩) s
    have mMt : ∀ {H' : Hp}, Same B H' → MtsN [t] H' usB ts := fun s => mtsN_le (L2.Paired.mapP mMB fun _ _ ⟨p, pp, e, _, _, h1, h2⟩ => ⟨p, pp, e, by simpa using ne_of_none h1 F.xt, by simpa using ne_of_none h2 F.xt, h1, h2⟩) (.same s)
    refine ⟨_, rfl, _, rfl, _, rfl, _, rfl, _, rfl, d, t, R, M, N, wsB, usB, rs, ts, Ns, rfl, F.dr E9, E9.sb _ _ hRB, ne_of_none hRB F.xt, rRt E9.sb, E9.sb _ _ hMB, ne_of_none hMB F.xt, mMt E9.sb, by omega, E9.sb _ _ F.nm, ne_of_none F.nm F.xt, lN, fun wn wus W Hq Dq bq nW hW pW iw lw => ?_⟩
    have Eq := F.draw E9 bq Dq
    have nWa : ∀ a ∈ as, W ≠ a := fun a m => by
      obtain ⟨i, hi⟩ := List.getElem?_of_mem m
      exact (ne_of_none (E9.st i a hi) nW).symm
    have nWy : W ∉ [e, s, l, g] := fun m => by
      obtain ⟨o, h, _⟩ := E9.wv.kd W m
      rw [nW] at h; cases h
    have lwus := pair_len' pW
    have nWt : W ≠ t := (F.dr (K := K) E9).na nW
    clear E9 hO9 pO9 bq Dq nW
    have nml : (namesOf (ren f pev)).length ≤ 14 := Nat.le_trans (names_le _) lev
    -- the first question
    refine ⟨_, rfl, _, rfl, _, rfl, _, rfl, y, S, N, W, wa, e, s, l, g, x, wl, wm, wus, as, (fun i => trOf pev ((i : Nat) : Int)), Ns, ren f pev, wn, ts, rs, _, rfl, Eq.wv, dne.ok (by omega), F.on.same Eq.sb, by omega, by omega, Eq.sb _ _ F.sl, Eq.st, la, Eq.sb _ _ F.nm, lN, hW, pW, lw, iw, relOf rg, covOf rg, fun Hr sr => ⟨_, rfl, iteNo rfl ?_⟩⟩
    have Er := Eq.same sr
    have hWr := sr _ _ hW
    have pWr : Paired (EvAt Hr) wus wn := L2.Paired.mapP pW fun _ _ x => x.keep (.same sr)
    clear Eq hW pW sr
    -- what the first holds
    obtain ⟨a1, ha1, hav1⟩ := get_ref (as := as) (j := 0) (by omega)
    have ma1 := List.mem_of_getElem? ha1
    refine ⟨_, rfl, M, _, rfl, .inl (SqL.of (Er.sb _ _ hMB)), _, rfl, by omega, by omega, fun G nG => lc_range (lo := 0) (n := usB.length) (fun j H' => ∃ hs : List Nat, Same Hr H' ∧ H' G = some (.lst (hs.map fun h => V.int ((h : Nat) : Int))) ∧ (∀ h ∈ hs, h < ts.length ∧ (heldAt (trOf pev ((0 : Nat) : Int)) ((h : Nat) : Int)).isSome = true) ∧ hs.length ≤ j) ⟨[], same_new nG, upd_same, (fun _ h => nomatch h), Nat.zero_le _⟩ ?_ ?_⟩
    · rintro j H1 hj ⟨hs, s1, h1, ok1, l1⟩
      have hjt : j < ts.length := by omega
      have hSr := s1 _ _ (Er.sb _ _ F.sl)
      have hst1 := s1 _ _ (Er.st 0 a1 ha1)
      have put : (codeL (lkAt (trOf pev ((0 : Nat) : Int)) ((j : Nat) : Int)) = 1 ∨ codeL (lkAt (trOf pev ((0 : Nat) : Int)) ((j : Nat) : Int)) = 2) → ∃ acc, H1 G = some (.lst acc) ∧ acc.length < sizeLine ∧ ∃ hs : List Nat, Same Hr (upd H1 G (.lst (acc ++ [V.int (0 + ((j : Nat) : Int))]))) ∧ (upd H1 G (.lst (acc ++ [V.int (0 + ((j : Nat) : Int))]))) G = some (.lst (hs.map fun h => V.int ((h : Nat) : Int))) ∧ (∀ h ∈ hs, h < ts.length ∧ (heldAt (trOf pev ((0 : Nat) : Int)) ((h : Nat) : Int)).isSome = true) ∧ hs.length ≤ j + 1 := fun c => ⟨_, h1, by rw [List.length_map]; omega, hs ++ [j], same_mut s1 nG, by rw [upd_same, List.map_append, Int.zero_add]; rfl, fun h m => by
        rcases List.mem_append.mp m with m | m
        · exact ok1 h m
        · rw [List.mem_singleton.mp m]; exact ⟨hjt, code_held.mp c⟩, by rw [List.length_append]; simp; omega⟩
      have hcode : atI (stV (trOf pev ((0 : Nat) : Int)) ts.length) (0 + ((j : Nat) : Int)) = some (.int (codeL (lkAt (trOf pev ((0 : Nat) : Int)) ((j : Nat) : Int)))) := by rw [Int.zero_add]; exact atI_nat (stV_at hjt)
      refine ⟨rfl, ?_⟩
      refine ⟨_, rfl, _, _, _, _, rfl, rfl, SqL.of hSr, atI_nat (j := 0) hav1, _, rfl, _, _, _, _, rfl, rfl, SqL.of hst1, hcode, rfl, _, rfl, iteD (fun c => iteT ⟨_, rfl, put (.inl (V.int.inj c))⟩) (fun c => ?_)⟩
      refine ⟨_, rfl, _, _, _, _, rfl, rfl, SqL.of hSr, atI_nat (j := 0) hav1, _, rfl, _, _, _, _, rfl, rfl, SqL.of hst1, hcode, rfl, _, rfl, iteD (fun c2 => ⟨_, rfl, put (.inr (V.int.inj c2))⟩) (fun c2 => ⟨hs, s1, h1, ok1, by omega⟩)⟩
    rintro Hs ⟨hs, ss, hG, okh, lhs⟩
    have Es := Er.same ss
    have nGa : G ≠ a1 := (ne_of_none (Er.st 0 a1 ha1) nG).symm
    have hWs := ss _ _ hWr
    have pWs : Paired (EvAt Hs) wus wn := L2.Paired.mapP pWr fun _ _ x => x.keep (.same ss)
    clear Er hWr pWr ss
    have lhm : (hs.map fun h => V.int ((h : Nat) : Int)).length = hs.length := List.length_map ..
    have hN0 : (Ns.map V.int)[0]? = some (.int (f ((0 : Nat) : Int))) := by
      rw [List.getElem?_map, List.getElem?_eq_getElem (show 0 < Ns.length by omega), f0 0 _ (List.getElem?_eq_getElem (show 0 < Ns.length by omega))]; rfl
    refine ⟨fun σ' H' => ∃ pv : List Ev, σ' = st56 a0 d t R M N y S O pl x12 x13 x14 (some (.ref W)) (some (.ref G)) none ∧ E56 T.c_Weaving T.c_Standing B t O as y wa e s l g H' ts.length pev pv (ren f pv) ∧ EvDone ts rs (ren f pv) ∧ pv.length ≤ 15 ∧ H' W = some (.lst wus) ∧ Paired (EvAt H') wus wn, ?_, ?_⟩
    · refine ⟨_, rfl, G, _, rfl, .inl (SqL.of hG), _, _, rfl, rfl, _, rfl, iteD (fun c => ?_) (fun c => ⟨pev, rfl, Es, dne, by omega, hWs, pWs⟩)⟩
      have hpos : 0 < hs.length := by omega
      obtain ⟨h0, hh0⟩ : ∃ h0, hs[0]? = some h0 := ⟨_, List.getElem?_eq_getElem hpos⟩
      obtain ⟨h0t, h0h⟩ := okh h0 (List.mem_of_getElem? hh0)
      have hG0 : (hs.map fun h => V.int ((h : Nat) : Int))[0]? = some (.int ((h0 : Nat) : Int)) := by rw [List.getElem?_map, hh0]; rfl
      have iw0 : inW ts ((h0 : Nat) : Int) := ⟨by omega, by omega⟩
      have due : dueS ts rs (trOf pev ((0 : Nat) : Int)) "drop" ((h0 : Nat) : Int) = none := by rw [due_drop iw0, if_pos h0h]
      refine ⟨_, rfl, _, _, _, _, rfl, rfl, SqL.of (Es.sb _ _ F.sl), atI_nat (j := 0) hav1, _, rfl, _, _, _, _, rfl, rfl, SqL.of hG, atI_nat (j := 0) hG0, by show 2 ≤ sizeLine; decide, fun q nq => ?_⟩
      have s1 := same_new (o := .tup [.str "drop", .int ((h0 : Nat) : Int)]) nq
      have hq : (upd Hs q (.tup [.str "drop", .int ((h0 : Nat) : Int)])) q = some (.tup [.str "drop", .int ((h0 : Nat) : Int)]) := upd_same
      have Et := Es.same s1
      have hWt := s1 _ _ hWs
      have pWt : Paired (EvAt (upd Hs q (.tup [.str "drop", .int ((h0 : Nat) : Int)]))) wus wn := L2.Paired.mapP pWs fun _ _ x => x.keep (.same s1)
      have hGt := s1 _ _ hG
      revert s1 hq Et hWt pWt hGt
      generalize upd Hs q (.tup [.str "drop", .int ((h0 : Nat) : Int)]) = Ht
      intro s1 hq Et hWt pWt hGt
      refine ⟨a1, q, trOf pev ((0 : Nat) : Int), ts.length, h0, "drop", rfl, Et.st 0 a1 ha1, hq, by omega, h0t, .inr (.inr rfl), fun _ => h0h, fun n => absurd rfl n, ?_⟩
      have ha := Et.st 0 a1 ha1
      have Eu : E56 T.c_Weaving T.c_Standing B t O as y wa e s l g (upd Ht a1 (.lst (stV (actS (trOf pev ((0 : Nat) : Int)) "drop" ((h0 : Nat) : Int)) ts.length))) ts.length pev (pev ++ [(((0 : Nat) : Int), (("drop" : Str), ((h0 : Nat) : Int)))]) (ren f pev) := F.act Et ha1 (c := (((0 : Nat) : Int), (("drop" : Str), ((h0 : Nat) : Int)))) rfl
      have hGu : (upd Ht a1 (.lst (stV (actS (trOf pev ((0 : Nat) : Int)) "drop" ((h0 : Nat) : Int)) ts.length))) G = some (.lst (hs.map fun h => V.int ((h : Nat) : Int))) := by rw [upd_ne nGa]; exact hGt
      have hWu : (upd Ht a1 (.lst (stV (actS (trOf pev ((0 : Nat) : Int)) "drop" ((h0 : Nat) : Int)) ts.length))) W = some (.lst wus) := by rw [upd_ne (nWa a1 ma1)]; exact hWt
      have pWu : Paired (EvAt (upd Ht a1 (.lst (stV (actS (trOf pev ((0 : Nat) : Int)) "drop" ((h0 : Nat) : Int)) ts.length)))) wus wn := L2.Paired.mapP pWt fun _ _ x => x.keep (Et.tk (.upd (by simp [ma1])))
      revert Eu hGu hWu pWu
      generalize upd Ht a1 (.lst (stV (actS (trOf pev ((0 : Nat) : Int)) "drop" ((h0 : Nat) : Int)) ts.length)) = Hu
      intro Eu hGu hWu pWu
      clear Et hWt pWt hGt hq s1 nq ha Es hWs pWs hG
      obtain ⟨dyw, hyw⟩ := Eu.wv.obj
      refine ⟨_, rfl, y, dyw, _, rfl, hyw, rfl, _, rfl, _, _, _, _, rfl, rfl, SqL.of (Eu.sb _ _ F.nm), atI_nat (j := 0) hN0, _, rfl, _, _, _, _, rfl, rfl, SqL.of hGu, atI_nat (j := 0) hG0, by show 2 ≤ sizeLine; decide, fun q2 nq2 => ?_⟩
      have s2 := same_new (o := .tup [.str "drop", .int ((h0 : Nat) : Int)]) nq2
      have hq2 : (upd Hu q2 (.tup [.str "drop", .int ((h0 : Nat) : Int)])) q2 = some (.tup [.str "drop", .int ((h0 : Nat) : Int)]) := upd_same
      have Ev := Eu.same s2
      have hWv := s2 _ _ hWu
      have pWv : Paired (EvAt (upd Hu q2 (.tup [.str "drop", .int ((h0 : Nat) : Int)]))) wus wn := L2.Paired.mapP pWu fun _ _ x => x.keep (.same s2)
      revert s2 hq2 Ev hWv pWv
      generalize upd Hu q2 (.tup [.str "drop", .int ((h0 : Nat) : Int)]) = Hv
      intro s2 hq2 Ev hWv pWv
      clear Eu hWu pWu hGu hyw s2 nq2
      have due' : dueS ts rs (trOf (ren f pev) (f ((0 : Nat) : Int))) "drop" ((h0 : Nat) : Int) = none := by
        rw [f0 0 _ (List.getElem?_eq_getElem (show 0 < Ns.length by omega)), ← relOf rg 0 _ (List.getElem?_eq_getElem (show 0 < Ns.length by omega))]
        exact due
      refine ⟨y, wa, e, s, l, g, x, wl, wm, q2, f ((0 : Nat) : Int), "drop", ((h0 : Nat) : Int), ren f pev, ts, rs, _, rfl, Ev.wv, dne.ok (by omega), F.on.same Ev.sb, .inr hq2, by omega, by omega, by omega, due', fun n => absurd rfl n, fun Hx le W' => ?_⟩
      have Ex := F.add Ev le W'
      have hWx := le _ _ nWy hWv
      have pWx : Paired (EvAt Hx) wus wn := L2.Paired.mapP pWv fun _ _ x => x.keep (Ev.tky le)
      rw [show ren f pev ++ [(f ((0 : Nat) : Int), (("drop" : Str), ((h0 : Nat) : Int)))] = ren f (pev ++ [(((0 : Nat) : Int), (("drop" : Str), ((h0 : Nat) : Int)))]) by rw [ren_app]] at Ex
      clear Ev hWv pWv hq2 le W'
      have dn' : EvDone ts rs (pev ++ [(((0 : Nat) : Int), (("drop" : Str), ((h0 : Nat) : Int)))]) := .snoc dn ⟨due, fun nd => absurd rfl nd⟩
      have rg' : ∀ x ∈ pev ++ [(((0 : Nat) : Int), (("drop" : Str), ((h0 : Nat) : Int)))], 0 ≤ x.1 ∧ x.1 < (4 : Nat) := fun x hx => by
        rcases List.mem_append.mp hx with hx | hx
        · exact rg x hx
        · rw [List.mem_singleton.mp hx]; exact ⟨(by decide : (0 : Int) ≤ ((0 : Nat) : Int)), (by decide : ((0 : Nat) : Int) < ((4 : Nat) : Int))⟩
      have dne' := ren_done (S := fun i => 0 ≤ i ∧ i < (Ns.length : Int)) inj dn' (fun e he => by rw [lN]; exact rg' e he)
      have lpx : (pev ++ [(((0 : Nat) : Int), (("drop" : Str), ((h0 : Nat) : Int)))]).length ≤ 15 := by rw [List.length_append]; simp; omega
      generalize pev ++ [(((0 : Nat) : Int), (("drop" : Str), ((h0 : Nat) : Int)))] = pvx at Ex dn' rg' dne' lpx
      have lrx : (ren f pvx).length ≤ 15 := by rw [ren_len]; exact lpx
      have nmx : (namesOf (ren f pvx)).length ≤ 15 := Nat.le_trans (names_le _) lrx
      refine ⟨_, rfl, _, rfl, _, rfl, _, rfl, y, S, N, W, wa, e, s, l, g, x, wl, wm, wus, as, (fun i => trOf pvx ((i : Nat) : Int)), Ns, ren f pvx, wn, ts, rs, _, rfl, Ex.wv, dne'.ok (by omega), F.on.same Ex.sb, by omega, by omega, Ex.sb _ _ F.sl, Ex.st, la, Ex.sb _ _ F.nm, lN, hWx, pWx, lw, iw, relOf rg', covOf rg', fun Hy sy => ⟨_, rfl, iteNo rfl ⟨pvx, rfl, Ex.same sy, dne', lpx, sy _ _ hWx, L2.Paired.mapP pWx fun _ _ x => x.keep (.same sy)⟩⟩⟩
    clear Es hWs pWs hG okh lhs
    rintro σ' Hu ⟨pv, rfl, Eu, dnu, lpu, hWu, pWu⟩
    have lru : (ren f pv).length ≤ 15 := by rw [ren_len]; exact lpu
    have nmu : (namesOf (ren f pv)).length ≤ 15 := Nat.le_trans (names_le _) lru
    -- outside
    refine ⟨_, rfl, M, _, rfl, .inl (SqL.of (Eu.sb _ _ hMB)), _, rfl, _, rfl, d, t, 3, rfl, F.dr Eu, by decide, fun r6 Hv r60 r61 Dv bv => ⟨_, _, rfl, rfl, ?_⟩⟩
    have Ev := F.draw Eu bv Dv
    have hWv := bv _ _ nWt hWu
    have pWv : Paired (EvAt Hv) wus wn := L2.Paired.mapP pWu fun _ _ x => x.keep (Eu.tk (.but List.mem_cons_self bv))
    clear Eu hWu pWu bv Dv
    refine ⟨_, rfl, _, rfl, _, rfl, _, _, _, _, rfl, rfl, SqL.of (Ev.sb _ _ F.nm), atI_nat (j := 0) hN0, _, rfl, by show 2 ≤ sizeLine; decide, fun q1 n1 => ?_⟩
    have s1 := same_new (o := .tup [.str "own", .int (((usB.length : Nat) : Int) + r6)]) n1
    refine ⟨by show 2 ≤ sizeLine; decide, fun q2 n2 => ?_⟩
    have s2 := same_new (o := .tup [.int (f ((0 : Nat) : Int)), .ref q1]) n2
    refine ⟨by show 1 ≤ sizeLine; decide, fun l1 nl1 => ?_⟩
    have s3 := same_new (o := .lst [.ref q2]) nl1
    have s13 := (s1.trans s2).trans s3
    have hq1 : (upd (upd (upd Hv q1 (.tup [.str "own", .int (((usB.length : Nat) : Int) + r6)])) q2 (.tup [.int (f ((0 : Nat) : Int)), .ref q1])) l1 (.lst [.ref q2])) q1 = some (.tup [.str "own", .int (((usB.length : Nat) : Int) + r6)]) := s3 _ _ (s2 _ _ upd_same)
    have hq2 : (upd (upd (upd Hv q1 (.tup [.str "own", .int (((usB.length : Nat) : Int) + r6)])) q2 (.tup [.int (f ((0 : Nat) : Int)), .ref q1])) l1 (.lst [.ref q2])) q2 = some (.tup [.int (f ((0 : Nat) : Int)), .ref q1]) := s3 _ _ upd_same
    have hl1 : (upd (upd (upd Hv q1 (.tup [.str "own", .int (((usB.length : Nat) : Int) + r6)])) q2 (.tup [.int (f ((0 : Nat) : Int)), .ref q1])) l1 (.lst [.ref q2])) l1 = some (.lst [.ref q2]) := upd_same
    refine ⟨W, l1, _, _, rfl, rfl, s13 _ _ hWv, hl1, by show wus.length + 1 ≤ sizeLine; omega, fun l2 nl2 => ?_⟩
    have s4 := same_new (o := .lst (wus ++ [.ref q2])) nl2
    have s14 := s13.trans s4
    have Ew := Ev.same s14
    have pw : Paired (EvAt (upd (upd (upd (upd Hv q1 (.tup [.str "own", .int (((usB.length : Nat) : Int) + r6)])) q2 (.tup [.int (f ((0 : Nat) : Int)), .ref q1])) l1 (.lst [.ref q2])) l2 (.lst (wus ++ [.ref q2])))) (wus ++ [.ref q2]) (wn ++ [(f ((0 : Nat) : Int), (("own" : Str), ((usB.length : Nat) : Int) + r6))]) := pair_app (L2.Paired.mapP pWv fun _ _ x => x.keep (.same s14)) (.cons ⟨q2, q1, rfl, s4 _ _ hq2, s4 _ _ hq1⟩ .nil)
    have out : ¬ inW ts (((usB.length : Nat) : Int) + r6) := fun h => by have := h.2; omega
    refine ⟨y, l2, wa, e, s, l, g, x, wl, wm, wus ++ [.ref q2], ren f pv, wn ++ [(f ((0 : Nat) : Int), (("own" : Str), ((usB.length : Nat) : Int) + r6))], ts, rs, _, rfl, Ew.wv, dnu.ok (by omega), F.on.same Ew.sb, by omega, by omega, upd_same, pw, by rw [List.length_append]; simp; omega, fun all => absurd (all _ (List.mem_append_right _ (List.mem_singleton.mpr rfl))) out, fun i q hq niw prev => ?_⟩
    have eq : q = (f ((0 : Nat) : Int), (("own" : Str), ((usB.length : Nat) : Int) + r6)) := by
      rcases Nat.lt_or_ge i wn.length with c | c
      · rw [List.getElem?_append_left c] at hq
        exact absurd (iw q (List.mem_of_getElem? hq)) niw
      · have hl := (List.getElem?_eq_some_iff.mp hq).1
        rw [List.length_append] at hl
        obtain rfl : i = wn.length := by simp at hl; omega
        rw [List.getElem?_append_right (Nat.le_refl _), Nat.sub_self] at hq
        exact (Option.some.inj hq).symm
    subst eq
    intro H' dd s' nd hd
    refine ⟨true, T.em_NoThing_NoThing, fun _ a0 ha0 => ?_, fun z => nomatch z⟩
    refine ⟨_, rfl, rfl, _, dd, _, _, rfl, T.xc_NoThing, T.xn_NoThing, rfl, hd, rfl, _, rfl, y, _, _, .int (((usB.length : Nat) : Int) + r6), .int (((usB.length : Nat) : Int) + r6), rfl, .int _, .int _, ?_⟩
    rw [same_yes rfl]
    exact qq _
end
end My

namespace My
open PySem L2
theorem all_mk {w : World} {K : PySem.W.Frag} {h : Heap} {mg : Str → Option Value} {fa : Addr} (X : K.In h) (G : h.Ns mainGlobals mg) (hfa : mg "law" = some (.ref fa))
    {c_Standing : Addr}
    {c_Weaving : Addr}
    {c_Web : Addr}
    {c_Shape : Addr}
    {f_Standing_init : Addr} {od_Standing_init an_Standing_init : Option Addr} {sl_Standing_init : Array (Option Value)} {oc_Standing_init kV_Standing_init dc_Standing_init pm_Standing_init cd_Standing_init ct_Standing_init : Value}
    {f_Standing_check : Addr} {od_Standing_check an_Standing_check : Option Addr} {sl_Standing_check : Array (Option Value)} {oc_Standing_check kV_Standing_check dc_Standing_check pm_Standing_check cd_Standing_check ct_Standing_check : Value}
    {f_Standing_take : Addr} {od_Standing_take an_Standing_take : Option Addr} {sl_Standing_take : Array (Option Value)} {oc_Standing_take kV_Standing_take dc_Standing_take pm_Standing_take cd_Standing_take ct_Standing_take : Value}
    {f_Standing_held_mode : Addr} {od_Standing_held_mode an_Standing_held_mode : Option Addr} {sl_Standing_held_mode : Array (Option Value)} {oc_Standing_held_mode kV_Standing_held_mode dc_Standing_held_mode pm_Standing_held_mode cd_Standing_held_mode ct_Standing_held_mode : Value}
    {f_Standing_copy : Addr} {od_Standing_copy an_Standing_copy : Option Addr} {sl_Standing_copy : Array (Option Value)} {oc_Standing_copy kV_Standing_copy dc_Standing_copy pm_Standing_copy cd_Standing_copy ct_Standing_copy : Value}
    {f_distances : Addr} {od_distances an_distances : Option Addr} {sl_distances : Array (Option Value)} {oc_distances kV_distances dc_distances pm_distances cd_distances ct_distances : Value}
    {f_ring_from : Addr} {od_ring_from an_ring_from : Option Addr} {sl_ring_from : Array (Option Value)} {oc_ring_from kV_ring_from dc_ring_from pm_ring_from cd_ring_from ct_ring_from : Value}
    {f_shortest_ring : Addr} {od_shortest_ring an_shortest_ring : Option Addr} {sl_shortest_ring : Array (Option Value)} {oc_shortest_ring kV_shortest_ring dc_shortest_ring pm_shortest_ring cd_shortest_ring ct_shortest_ring : Value}
    {f_Weaving_init : Addr} {od_Weaving_init an_Weaving_init : Option Addr} {sl_Weaving_init : Array (Option Value)} {oc_Weaving_init kV_Weaving_init dc_Weaving_init pm_Weaving_init cd_Weaving_init ct_Weaving_init : Value}
    {f_Weaving_add : Addr} {od_Weaving_add an_Weaving_add : Option Addr} {sl_Weaving_add : Array (Option Value)} {oc_Weaving_add kV_Weaving_add dc_Weaving_add pm_Weaving_add cd_Weaving_add ct_Weaving_add : Value}
    {f_Weaving_iter : Addr} {od_Weaving_iter an_Weaving_iter : Option Addr} {sl_Weaving_iter : Array (Option Value)} {oc_Weaving_iter kV_Weaving_iter dc_Weaving_iter pm_Weaving_iter cd_Weaving_iter ct_Weaving_iter : Value}
    {f_Weaving_len : Addr} {od_Weaving_len an_Weaving_len : Option Addr} {sl_Weaving_len : Array (Option Value)} {oc_Weaving_len kV_Weaving_len dc_Weaving_len pm_Weaving_len cd_Weaving_len ct_Weaving_len : Value}
    {f_Weavingascending : Addr} {od_Weavingascending an_Weavingascending : Option Addr} {sl_Weavingascending : Array (Option Value)} {oc_Weavingascending kV_Weavingascending dc_Weavingascending pm_Weavingascending cd_Weavingascending ct_Weavingascending : Value}
    {f_Weaving_standing_of : Addr} {od_Weaving_standing_of an_Weaving_standing_of : Option Addr} {sl_Weaving_standing_of : Array (Option Value)} {oc_Weaving_standing_of kV_Weaving_standing_of dc_Weaving_standing_of pm_Weaving_standing_of cd_Weaving_standing_of ct_Weaving_standing_of : Value}
    {f_Weaving_holders : Addr} {od_Weaving_holders an_Weaving_holders : Option Addr} {sl_Weaving_holders : Array (Option Value)} {oc_Weaving_holders kV_Weaving_holders dc_Weaving_holders pm_Weaving_holders cd_Weaving_holders ct_Weaving_holders : Value}
    {f_suitable : Addr} {od_suitable an_suitable : Option Addr} {sl_suitable : Array (Option Value)} {oc_suitable kV_suitable dc_suitable pm_suitable cd_suitable ct_suitable : Value}
    {f_Web_init : Addr} {od_Web_init an_Web_init : Option Addr} {sl_Web_init : Array (Option Value)} {oc_Web_init kV_Web_init dc_Web_init pm_Web_init cd_Web_init ct_Web_init : Value}
    {f_Web_put : Addr} {od_Web_put an_Web_put : Option Addr} {sl_Web_put : Array (Option Value)} {oc_Web_put kV_Web_put dc_Web_put pm_Web_put cd_Web_put ct_Web_put : Value}
    {f_Web_getitem : Addr} {od_Web_getitem an_Web_getitem : Option Addr} {sl_Web_getitem : Array (Option Value)} {oc_Web_getitem kV_Web_getitem dc_Web_getitem pm_Web_getitem cd_Web_getitem ct_Web_getitem : Value}
    {f_Web_contains : Addr} {od_Web_contains an_Web_contains : Option Addr} {sl_Web_contains : Array (Option Value)} {oc_Web_contains kV_Web_contains dc_Web_contains pm_Web_contains cd_Web_contains ct_Web_contains : Value}
    {f_Web_mark_of : Addr} {od_Web_mark_of an_Web_mark_of : Option Addr} {sl_Web_mark_of : Array (Option Value)} {oc_Web_mark_of kV_Web_mark_of dc_Web_mark_of pm_Web_mark_of cd_Web_mark_of ct_Web_mark_of : Value}
    {f_waits : Addr} {od_waits an_waits : Option Addr} {sl_waits : Array (Option Value)} {oc_waits kV_waits dc_waits pm_waits cd_waits ct_waits : Value}
    {f_is_mark : Addr} {od_is_mark an_is_mark : Option Addr} {sl_is_mark : Array (Option Value)} {oc_is_mark kV_is_mark dc_is_mark pm_is_mark cd_is_mark ct_is_mark : Value}
    {f_sound_row : Addr} {od_sound_row an_sound_row : Option Addr} {sl_sound_row : Array (Option Value)} {oc_sound_row kV_sound_row dc_sound_row pm_sound_row cd_sound_row ct_sound_row : Value}
    {f_barren : Addr} {od_barren an_barren : Option Addr} {sl_barren : Array (Option Value)} {oc_barren kV_barren dc_barren pm_barren cd_barren ct_barren : Value}
    {f_Shape_init : Addr} {od_Shape_init an_Shape_init : Option Addr} {sl_Shape_init : Array (Option Value)} {oc_Shape_init kV_Shape_init dc_Shape_init pm_Shape_init cd_Shape_init ct_Shape_init : Value}
    {f_Shape_getitem : Addr} {od_Shape_getitem an_Shape_getitem : Option Addr} {sl_Shape_getitem : Array (Option Value)} {oc_Shape_getitem kV_Shape_getitem dc_Shape_getitem pm_Shape_getitem cd_Shape_getitem ct_Shape_getitem : Value}
    {f_Shape_modes_of : Addr} {od_Shape_modes_of an_Shape_modes_of : Option Addr} {sl_Shape_modes_of : Array (Option Value)} {oc_Shape_modes_of kV_Shape_modes_of dc_Shape_modes_of pm_Shape_modes_of cd_Shape_modes_of ct_Shape_modes_of : Value}
    {f__law_draws : Addr} {od__law_draws an__law_draws : Option Addr} {sl__law_draws : Array (Option Value)} {oc__law_draws kV__law_draws dc__law_draws pm__law_draws cd__law_draws ct__law_draws : Value}
    {f__law_take : Addr} {od__law_take an__law_take : Option Addr} {sl__law_take : Array (Option Value)} {oc__law_take kV__law_take dc__law_take pm__law_take cd__law_take ct__law_take : Value}
    {f__law_same : Addr} {od__law_same an__law_same : Option Addr} {sl__law_same : Array (Option Value)} {oc__law_same kV__law_same dc__law_same pm__law_same cd__law_same ct__law_same : Value}
    {f__law_marks : Addr} {od__law_marks an__law_marks : Option Addr} {sl__law_marks : Array (Option Value)} {oc__law_marks kV__law_marks dc__law_marks pm__law_marks cd__law_marks ct__law_marks : Value}
    {f__law_rows : Addr} {od__law_rows an__law_rows : Option Addr} {sl__law_rows : Array (Option Value)} {oc__law_rows kV__law_rows dc__law_rows pm__law_rows cd__law_rows ct__law_rows : Value}
    {f__law_things : Addr} {od__law_things an__law_things : Option Addr} {sl__law_things : Array (Option Value)} {oc__law_things kV__law_things dc__law_things pm__law_things cd__law_things ct__law_things : Value}
    {f__law_do : Addr} {od__law_do an__law_do : Option Addr} {sl__law_do : Array (Option Value)} {oc__law_do kV__law_do dc__law_do pm__law_do cd__law_do ct__law_do : Value}
    {f__law_shared : Addr} {od__law_shared an__law_shared : Option Addr} {sl__law_shared : Array (Option Value)} {oc__law_shared kV__law_shared dc__law_shared pm__law_shared cd__law_shared ct__law_shared : Value}
    {f__law_free : Addr} {od__law_free an__law_free : Option Addr} {sl__law_free : Array (Option Value)} {oc__law_free kV__law_free dc__law_free pm__law_free cd__law_free ct__law_free : Value}
    {f__law_shape : Addr} {od__law_shape an__law_shape : Option Addr} {sl__law_shape : Array (Option Value)} {oc__law_shape kV__law_shape dc__law_shape pm__law_shape cd__law_shape ct__law_shape : Value}
    {f__law_put : Addr} {od__law_put an__law_put : Option Addr} {sl__law_put : Array (Option Value)} {oc__law_put kV__law_put dc__law_put pm__law_put cd__law_put ct__law_put : Value}
    {f__law_web : Addr} {od__law_web an__law_web : Option Addr} {sl__law_web : Array (Option Value)} {oc__law_web kV__law_web dc__law_web pm__law_web cd__law_web ct__law_web : Value}
    {f__law_ring : Addr} {od__law_ring an__law_ring : Option Addr} {sl__law_ring : Array (Option Value)} {oc__law_ring kV__law_ring dc__law_ring pm__law_ring cd__law_ring ct__law_ring : Value}
    {f__law_names : Addr} {od__law_names an__law_names : Option Addr} {sl__law_names : Array (Option Value)} {oc__law_names kV__law_names dc__law_names pm__law_names cd__law_names ct__law_names : Value}
    {f__law_choices : Addr} {od__law_choices an__law_choices : Option Addr} {sl__law_choices : Array (Option Value)} {oc__law_choices kV__law_choices dc__law_choices pm__law_choices cd__law_choices ct__law_choices : Value}
    {f__law_begun : Addr} {od__law_begun an__law_begun : Option Addr} {sl__law_begun : Array (Option Value)} {oc__law_begun kV__law_begun dc__law_begun pm__law_begun cd__law_begun ct__law_begun : Value}
    {f__law_wants : Addr} {od__law_wants an__law_wants : Option Addr} {sl__law_wants : Array (Option Value)} {oc__law_wants kV__law_wants dc__law_wants pm__law_wants cd__law_wants ct__law_wants : Value}
    {f__law_due : Addr} {od__law_due an__law_due : Option Addr} {sl__law_due : Array (Option Value)} {oc__law_due kV__law_due dc__law_due pm__law_due cd__law_due ct__law_due : Value}
    {f__law_asked : Addr} {od__law_asked an__law_asked : Option Addr} {sl__law_asked : Array (Option Value)} {oc__law_asked kV__law_asked dc__law_asked pm__law_asked cd__law_asked ct__law_asked : Value}
    {f_law : Addr} {od_law an_law : Option Addr} {sl_law : Array (Option Value)} {oc_law kV_law dc_law pm_law cd_law ct_law : Value}
    {q_DEEDS : Addr} {oq_DEEDS : Option Addr} {nq_DEEDS : Nat} {slq_DEEDS : Array (Option Value)} {t_DEEDS_0 : Tok} {t_DEEDS_1 : Tok} {t_DEEDS_2 : Tok}
    {tq_DIGITS : Tok}
    {tq_LETTERS : Tok}
    {q_MODES : Addr} {oq_MODES : Option Addr} {nq_MODES : Nat} {slq_MODES : Array (Option Value)} {t_MODES_0 : Tok} {t_MODES_1 : Tok}
    {ti_Web_MOST : Tok}
    {ti_Shape_MARKS : Tok}
    {ti_Shape_PARENTS : Tok}
    {c_BadShape : Addr}
    {c_UnknownMark : Addr}
    {c_TooLarge : Addr}
    {c_BadParents : Addr}
    {c_NoThing : Addr}
    {c_BadStep : Addr}
    {c_Refused : Addr}
    {c_LockedBefore : Addr}
    {c_WrongMode : Addr}
    {c_NotHeld : Addr}
    {c_WebError : Addr}
    {nm_BadShape q_BadShape : Str} {N_BadShape : Addr} {bs_BadShape : List Value} {sn_BadShape : List Str} {sub_BadShape : List Value} {ab_BadShape : Bool} {col_BadShape : Option Bool} {dd_BadShape : Option Addr} {m0_BadShape m1_BadShape m2_BadShape m3_BadShape m5_BadShape : Option Value}
    {f_BadShape cda_BadShape cc_BadShape : Addr} {od_BadShape an_BadShape cld_BadShape cdd_BadShape : Option Addr} {osl_BadShape csl_BadShape ccs_BadShape : Array (Option Value)} {oc_BadShape kV_BadShape dc_BadShape pm_BadShape ct_BadShape cl_BadShape ccl_BadShape : Value} {vs_BadShape : Array Value} {file_BadShape : Str} {tf_BadShape : Tok}
    {nm_UnknownMark q_UnknownMark : Str} {N_UnknownMark : Addr} {bs_UnknownMark : List Value} {sn_UnknownMark : List Str} {sub_UnknownMark : List Value} {ab_UnknownMark : Bool} {col_UnknownMark : Option Bool} {dd_UnknownMark : Option Addr} {m0_UnknownMark m1_UnknownMark m2_UnknownMark m3_UnknownMark m5_UnknownMark : Option Value}
    {f_UnknownMark cda_UnknownMark cc_UnknownMark : Addr} {od_UnknownMark an_UnknownMark cld_UnknownMark cdd_UnknownMark : Option Addr} {osl_UnknownMark csl_UnknownMark ccs_UnknownMark : Array (Option Value)} {oc_UnknownMark kV_UnknownMark dc_UnknownMark pm_UnknownMark ct_UnknownMark cl_UnknownMark ccl_UnknownMark : Value} {vs_UnknownMark : Array Value} {file_UnknownMark : Str} {tf_UnknownMark : Tok}
    {nm_TooLarge q_TooLarge : Str} {N_TooLarge : Addr} {bs_TooLarge : List Value} {sn_TooLarge : List Str} {sub_TooLarge : List Value} {ab_TooLarge : Bool} {col_TooLarge : Option Bool} {dd_TooLarge : Option Addr} {m0_TooLarge m1_TooLarge m2_TooLarge m3_TooLarge m5_TooLarge : Option Value}
    {f_TooLarge cda_TooLarge cc_TooLarge : Addr} {od_TooLarge an_TooLarge cld_TooLarge cdd_TooLarge : Option Addr} {osl_TooLarge csl_TooLarge ccs_TooLarge : Array (Option Value)} {oc_TooLarge kV_TooLarge dc_TooLarge pm_TooLarge ct_TooLarge cl_TooLarge ccl_TooLarge : Value} {vs_TooLarge : Array Value} {file_TooLarge : Str} {tf_TooLarge : Tok}
    {nm_BadParents q_BadParents : Str} {N_BadParents : Addr} {bs_BadParents : List Value} {sn_BadParents : List Str} {sub_BadParents : List Value} {ab_BadParents : Bool} {col_BadParents : Option Bool} {dd_BadParents : Option Addr} {m0_BadParents m1_BadParents m2_BadParents m3_BadParents m5_BadParents : Option Value}
    {f_BadParents cda_BadParents cc_BadParents : Addr} {od_BadParents an_BadParents cld_BadParents cdd_BadParents : Option Addr} {osl_BadParents csl_BadParents ccs_BadParents : Array (Option Value)} {oc_BadParents kV_BadParents dc_BadParents pm_BadParents ct_BadParents cl_BadParents ccl_BadParents : Value} {vs_BadParents : Array Value} {file_BadParents : Str} {tf_BadParents : Tok}
    {nm_NoThing q_NoThing : Str} {N_NoThing : Addr} {bs_NoThing : List Value} {sn_NoThing : List Str} {sub_NoThing : List Value} {ab_NoThing : Bool} {col_NoThing : Option Bool} {dd_NoThing : Option Addr} {m0_NoThing m1_NoThing m2_NoThing m3_NoThing m5_NoThing : Option Value}
    {f_NoThing cda_NoThing cc_NoThing : Addr} {od_NoThing an_NoThing cld_NoThing cdd_NoThing : Option Addr} {osl_NoThing csl_NoThing ccs_NoThing : Array (Option Value)} {oc_NoThing kV_NoThing dc_NoThing pm_NoThing ct_NoThing cl_NoThing ccl_NoThing : Value} {vs_NoThing : Array Value} {file_NoThing : Str} {tf_NoThing : Tok}
    {nm_BadStep q_BadStep : Str} {N_BadStep : Addr} {bs_BadStep : List Value} {sn_BadStep : List Str} {sub_BadStep : List Value} {ab_BadStep : Bool} {col_BadStep : Option Bool} {dd_BadStep : Option Addr} {m0_BadStep m1_BadStep m2_BadStep m3_BadStep m5_BadStep : Option Value}
    {f_BadStep cda_BadStep cc_BadStep : Addr} {od_BadStep an_BadStep cld_BadStep cdd_BadStep : Option Addr} {osl_BadStep csl_BadStep ccs_BadStep : Array (Option Value)} {oc_BadStep kV_BadStep dc_BadStep pm_BadStep ct_BadStep cl_BadStep ccl_BadStep : Value} {vs_BadStep : Array Value} {file_BadStep : Str} {tf_BadStep : Tok}
    {nm_Refused q_Refused : Str} {N_Refused : Addr} {bs_Refused : List Value} {sn_Refused : List Str} {sub_Refused : List Value} {ab_Refused : Bool} {col_Refused : Option Bool} {dd_Refused : Option Addr} {m0_Refused m1_Refused m2_Refused m3_Refused m5_Refused : Option Value}
    {f_Refused cda_Refused cc_Refused : Addr} {od_Refused an_Refused cld_Refused cdd_Refused : Option Addr} {osl_Refused csl_Refused ccs_Refused : Array (Option Value)} {oc_Refused kV_Refused dc_Refused pm_Refused ct_Refused cl_Refused ccl_Refused : Value} {vs_Refused : Array Value} {file_Refused : Str} {tf_Refused : Tok}
    {nm_LockedBefore q_LockedBefore : Str} {N_LockedBefore : Addr} {bs_LockedBefore : List Value} {sn_LockedBefore : List Str} {sub_LockedBefore : List Value} {ab_LockedBefore : Bool} {col_LockedBefore : Option Bool} {dd_LockedBefore : Option Addr} {m0_LockedBefore m1_LockedBefore m2_LockedBefore m3_LockedBefore m5_LockedBefore : Option Value}
    {f_LockedBefore cda_LockedBefore cc_LockedBefore : Addr} {od_LockedBefore an_LockedBefore cld_LockedBefore cdd_LockedBefore : Option Addr} {osl_LockedBefore csl_LockedBefore ccs_LockedBefore : Array (Option Value)} {oc_LockedBefore kV_LockedBefore dc_LockedBefore pm_LockedBefore ct_LockedBefore cl_LockedBefore ccl_LockedBefore : Value} {vs_LockedBefore : Array Value} {file_LockedBefore : Str} {tf_LockedBefore : Tok}
    {nm_WrongMode q_WrongMode : Str} {N_WrongMode : Addr} {bs_WrongMode : List Value} {sn_WrongMode : List Str} {sub_WrongMode : List Value} {ab_WrongMode : Bool} {col_WrongMode : Option Bool} {dd_WrongMode : Option Addr} {m0_WrongMode m1_WrongMode m2_WrongMode m3_WrongMode m5_WrongMode : Option Value}
    {f_WrongMode cda_WrongMode cc_WrongMode : Addr} {od_WrongMode an_WrongMode cld_WrongMode cdd_WrongMode : Option Addr} {osl_WrongMode csl_WrongMode ccs_WrongMode : Array (Option Value)} {oc_WrongMode kV_WrongMode dc_WrongMode pm_WrongMode ct_WrongMode cl_WrongMode ccl_WrongMode : Value} {vs_WrongMode : Array Value} {file_WrongMode : Str} {tf_WrongMode : Tok}
    {nm_NotHeld q_NotHeld : Str} {N_NotHeld : Addr} {bs_NotHeld : List Value} {sn_NotHeld : List Str} {sub_NotHeld : List Value} {ab_NotHeld : Bool} {col_NotHeld : Option Bool} {dd_NotHeld : Option Addr} {m0_NotHeld m1_NotHeld m2_NotHeld m3_NotHeld m5_NotHeld : Option Value}
    {f_NotHeld cda_NotHeld cc_NotHeld : Addr} {od_NotHeld an_NotHeld cld_NotHeld cdd_NotHeld : Option Addr} {osl_NotHeld csl_NotHeld ccs_NotHeld : Array (Option Value)} {oc_NotHeld kV_NotHeld dc_NotHeld pm_NotHeld ct_NotHeld cl_NotHeld ccl_NotHeld : Value} {vs_NotHeld : Array Value} {file_NotHeld : Str} {tf_NotHeld : Tok}
    (gc_Standing : PySem.W.nsIn K mainGlobals "Standing" = some (some (.ref c_Standing)))
    (gc_Weaving : PySem.W.nsIn K mainGlobals "Weaving" = some (some (.ref c_Weaving)))
    (gc_Web : PySem.W.nsIn K mainGlobals "Web" = some (some (.ref c_Web)))
    (gc_Shape : PySem.W.nsIn K mainGlobals "Shape" = some (some (.ref c_Shape)))
    (a_Standing_init : PySem.W.findIn K (.ref c_Standing) "__init__" = some (some (.ref f_Standing_init)))
    (l_Standing_init : K.lookup f_Standing_init = some ⟨oc_Standing_init, od_Standing_init, .func (PySem.W.fnOf "__init__" "Standing.__init__" (defArgs S_Standing_init) (defBody S_Standing_init) (defScope S_Standing_init) .none kV_Standing_init dc_Standing_init pm_Standing_init an_Standing_init cd_Standing_init ct_Standing_init), sl_Standing_init⟩)
    (c_Standing_init : PySem.W.codeIn K cd_Standing_init "Standing.__init__" = true)
    (k_Standing_init : PySem.W.keepIn K (.ref f_Standing_init) = true)
    (a_Standing_check : PySem.W.findIn K (.ref c_Standing) "check" = some (some (.ref f_Standing_check)))
    (l_Standing_check : K.lookup f_Standing_check = some ⟨oc_Standing_check, od_Standing_check, .func (PySem.W.fnOf "check" "Standing.check" (defArgs S_Standing_check) (defBody S_Standing_check) (defScope S_Standing_check) .none kV_Standing_check dc_Standing_check pm_Standing_check an_Standing_check cd_Standing_check ct_Standing_check), sl_Standing_check⟩)
    (c_Standing_check : PySem.W.codeIn K cd_Standing_check "Standing.check" = true)
    (k_Standing_check : PySem.W.keepIn K (.ref f_Standing_check) = true)
    (a_Standing_take : PySem.W.findIn K (.ref c_Standing) "take" = some (some (.ref f_Standing_take)))
    (l_Standing_take : K.lookup f_Standing_take = some ⟨oc_Standing_take, od_Standing_take, .func (PySem.W.fnOf "take" "Standing.take" (defArgs S_Standing_take) (defBody S_Standing_take) (defScope S_Standing_take) .none kV_Standing_take dc_Standing_take pm_Standing_take an_Standing_take cd_Standing_take ct_Standing_take), sl_Standing_take⟩)
    (c_Standing_take : PySem.W.codeIn K cd_Standing_take "Standing.take" = true)
    (k_Standing_take : PySem.W.keepIn K (.ref f_Standing_take) = true)
    (a_Standing_held_mode : PySem.W.findIn K (.ref c_Standing) "held_mode" = some (some (.ref f_Standing_held_mode)))
    (l_Standing_held_mode : K.lookup f_Standing_held_mode = some ⟨oc_Standing_held_mode, od_Standing_held_mode, .func (PySem.W.fnOf "held_mode" "Standing.held_mode" (defArgs S_Standing_held_mode) (defBody S_Standing_held_mode) (defScope S_Standing_held_mode) .none kV_Standing_held_mode dc_Standing_held_mode pm_Standing_held_mode an_Standing_held_mode cd_Standing_held_mode ct_Standing_held_mode), sl_Standing_held_mode⟩)
    (c_Standing_held_mode : PySem.W.codeIn K cd_Standing_held_mode "Standing.held_mode" = true)
    (k_Standing_held_mode : PySem.W.keepIn K (.ref f_Standing_held_mode) = true)
    (a_Standing_copy : PySem.W.findIn K (.ref c_Standing) "copy" = some (some (.ref f_Standing_copy)))
    (l_Standing_copy : K.lookup f_Standing_copy = some ⟨oc_Standing_copy, od_Standing_copy, .func (PySem.W.fnOf "copy" "Standing.copy" (defArgs S_Standing_copy) (defBody S_Standing_copy) (defScope S_Standing_copy) .none kV_Standing_copy dc_Standing_copy pm_Standing_copy an_Standing_copy cd_Standing_copy ct_Standing_copy), sl_Standing_copy⟩)
    (c_Standing_copy : PySem.W.codeIn K cd_Standing_copy "Standing.copy" = true)
    (k_Standing_copy : PySem.W.keepIn K (.ref f_Standing_copy) = true)
    (a_distances : PySem.W.nsIn K mainGlobals "distances" = some (some (.ref f_distances)))
    (l_distances : K.lookup f_distances = some ⟨oc_distances, od_distances, .func (PySem.W.fnOf "distances" "distances" (defArgs S_distances) (defBody S_distances) (defScope S_distances) .none kV_distances dc_distances pm_distances an_distances cd_distances ct_distances), sl_distances⟩)
    (c_distances : PySem.W.codeIn K cd_distances "distances" = true)
    (k_distances : PySem.W.keepIn K (.ref f_distances) = true)
    (a_ring_from : PySem.W.nsIn K mainGlobals "ring_from" = some (some (.ref f_ring_from)))
    (l_ring_from : K.lookup f_ring_from = some ⟨oc_ring_from, od_ring_from, .func (PySem.W.fnOf "ring_from" "ring_from" (defArgs S_ring_from) (defBody S_ring_from) (defScope S_ring_from) .none kV_ring_from dc_ring_from pm_ring_from an_ring_from cd_ring_from ct_ring_from), sl_ring_from⟩)
    (c_ring_from : PySem.W.codeIn K cd_ring_from "ring_from" = true)
    (k_ring_from : PySem.W.keepIn K (.ref f_ring_from) = true)
    (a_shortest_ring : PySem.W.nsIn K mainGlobals "shortest_ring" = some (some (.ref f_shortest_ring)))
    (l_shortest_ring : K.lookup f_shortest_ring = some ⟨oc_shortest_ring, od_shortest_ring, .func (PySem.W.fnOf "shortest_ring" "shortest_ring" (defArgs S_shortest_ring) (defBody S_shortest_ring) (defScope S_shortest_ring) .none kV_shortest_ring dc_shortest_ring pm_shortest_ring an_shortest_ring cd_shortest_ring ct_shortest_ring), sl_shortest_ring⟩)
    (c_shortest_ring : PySem.W.codeIn K cd_shortest_ring "shortest_ring" = true)
    (k_shortest_ring : PySem.W.keepIn K (.ref f_shortest_ring) = true)
    (a_Weaving_init : PySem.W.findIn K (.ref c_Weaving) "__init__" = some (some (.ref f_Weaving_init)))
    (l_Weaving_init : K.lookup f_Weaving_init = some ⟨oc_Weaving_init, od_Weaving_init, .func (PySem.W.fnOf "__init__" "Weaving.__init__" (defArgs S_Weaving_init) (defBody S_Weaving_init) (defScope S_Weaving_init) .none kV_Weaving_init dc_Weaving_init pm_Weaving_init an_Weaving_init cd_Weaving_init ct_Weaving_init), sl_Weaving_init⟩)
    (c_Weaving_init : PySem.W.codeIn K cd_Weaving_init "Weaving.__init__" = true)
    (k_Weaving_init : PySem.W.keepIn K (.ref f_Weaving_init) = true)
    (a_Weaving_add : PySem.W.findIn K (.ref c_Weaving) "add" = some (some (.ref f_Weaving_add)))
    (l_Weaving_add : K.lookup f_Weaving_add = some ⟨oc_Weaving_add, od_Weaving_add, .func (PySem.W.fnOf "add" "Weaving.add" (defArgs S_Weaving_add) (defBody S_Weaving_add) (defScope S_Weaving_add) .none kV_Weaving_add dc_Weaving_add pm_Weaving_add an_Weaving_add cd_Weaving_add ct_Weaving_add), sl_Weaving_add⟩)
    (c_Weaving_add : PySem.W.codeIn K cd_Weaving_add "Weaving.add" = true)
    (k_Weaving_add : PySem.W.keepIn K (.ref f_Weaving_add) = true)
    (a_Weaving_iter : PySem.W.findIn K (.ref c_Weaving) "__iter__" = some (some (.ref f_Weaving_iter)))
    (l_Weaving_iter : K.lookup f_Weaving_iter = some ⟨oc_Weaving_iter, od_Weaving_iter, .func (PySem.W.fnOf "__iter__" "Weaving.__iter__" (defArgs S_Weaving_iter) (defBody S_Weaving_iter) (defScope S_Weaving_iter) .none kV_Weaving_iter dc_Weaving_iter pm_Weaving_iter an_Weaving_iter cd_Weaving_iter ct_Weaving_iter), sl_Weaving_iter⟩)
    (c_Weaving_iter : PySem.W.codeIn K cd_Weaving_iter "Weaving.__iter__" = true)
    (k_Weaving_iter : PySem.W.keepIn K (.ref f_Weaving_iter) = true)
    (a_Weaving_len : PySem.W.findIn K (.ref c_Weaving) "__len__" = some (some (.ref f_Weaving_len)))
    (l_Weaving_len : K.lookup f_Weaving_len = some ⟨oc_Weaving_len, od_Weaving_len, .func (PySem.W.fnOf "__len__" "Weaving.__len__" (defArgs S_Weaving_len) (defBody S_Weaving_len) (defScope S_Weaving_len) .none kV_Weaving_len dc_Weaving_len pm_Weaving_len an_Weaving_len cd_Weaving_len ct_Weaving_len), sl_Weaving_len⟩)
    (c_Weaving_len : PySem.W.codeIn K cd_Weaving_len "Weaving.__len__" = true)
    (k_Weaving_len : PySem.W.keepIn K (.ref f_Weaving_len) = true)
    (a_Weavingascending : PySem.W.findIn K (.ref c_Weaving) "_ascending" = some (some (.ref f_Weavingascending)))
    (l_Weavingascending : K.lookup f_Weavingascending = some ⟨oc_Weavingascending, od_Weavingascending, .func (PySem.W.fnOf "_ascending" "Weaving._ascending" (defArgs S_Weavingascending) (defBody S_Weavingascending) (defScope S_Weavingascending) .none kV_Weavingascending dc_Weavingascending pm_Weavingascending an_Weavingascending cd_Weavingascending ct_Weavingascending), sl_Weavingascending⟩)
    (c_Weavingascending : PySem.W.codeIn K cd_Weavingascending "Weaving._ascending" = true)
    (k_Weavingascending : PySem.W.keepIn K (.ref f_Weavingascending) = true)
    (a_Weaving_standing_of : PySem.W.findIn K (.ref c_Weaving) "standing_of" = some (some (.ref f_Weaving_standing_of)))
    (l_Weaving_standing_of : K.lookup f_Weaving_standing_of = some ⟨oc_Weaving_standing_of, od_Weaving_standing_of, .func (PySem.W.fnOf "standing_of" "Weaving.standing_of" (defArgs S_Weaving_standing_of) (defBody S_Weaving_standing_of) (defScope S_Weaving_standing_of) .none kV_Weaving_standing_of dc_Weaving_standing_of pm_Weaving_standing_of an_Weaving_standing_of cd_Weaving_standing_of ct_Weaving_standing_of), sl_Weaving_standing_of⟩)
    (c_Weaving_standing_of : PySem.W.codeIn K cd_Weaving_standing_of "Weaving.standing_of" = true)
    (k_Weaving_standing_of : PySem.W.keepIn K (.ref f_Weaving_standing_of) = true)
    (a_Weaving_holders : PySem.W.findIn K (.ref c_Weaving) "holders" = some (some (.ref f_Weaving_holders)))
    (l_Weaving_holders : K.lookup f_Weaving_holders = some ⟨oc_Weaving_holders, od_Weaving_holders, .func (PySem.W.fnOf "holders" "Weaving.holders" (defArgs S_Weaving_holders) (defBody S_Weaving_holders) (defScope S_Weaving_holders) .none kV_Weaving_holders dc_Weaving_holders pm_Weaving_holders an_Weaving_holders cd_Weaving_holders ct_Weaving_holders), sl_Weaving_holders⟩)
    (c_Weaving_holders : PySem.W.codeIn K cd_Weaving_holders "Weaving.holders" = true)
    (k_Weaving_holders : PySem.W.keepIn K (.ref f_Weaving_holders) = true)
    (a_suitable : PySem.W.nsIn K mainGlobals "suitable" = some (some (.ref f_suitable)))
    (l_suitable : K.lookup f_suitable = some ⟨oc_suitable, od_suitable, .func (PySem.W.fnOf "suitable" "suitable" (defArgs S_suitable) (defBody S_suitable) (defScope S_suitable) .none kV_suitable dc_suitable pm_suitable an_suitable cd_suitable ct_suitable), sl_suitable⟩)
    (c_suitable : PySem.W.codeIn K cd_suitable "suitable" = true)
    (k_suitable : PySem.W.keepIn K (.ref f_suitable) = true)
    (a_Web_init : PySem.W.findIn K (.ref c_Web) "__init__" = some (some (.ref f_Web_init)))
    (l_Web_init : K.lookup f_Web_init = some ⟨oc_Web_init, od_Web_init, .func (PySem.W.fnOf "__init__" "Web.__init__" (defArgs S_Web_init) (defBody S_Web_init) (defScope S_Web_init) .none kV_Web_init dc_Web_init pm_Web_init an_Web_init cd_Web_init ct_Web_init), sl_Web_init⟩)
    (c_Web_init : PySem.W.codeIn K cd_Web_init "Web.__init__" = true)
    (k_Web_init : PySem.W.keepIn K (.ref f_Web_init) = true)
    (a_Web_put : PySem.W.findIn K (.ref c_Web) "put" = some (some (.ref f_Web_put)))
    (l_Web_put : K.lookup f_Web_put = some ⟨oc_Web_put, od_Web_put, .func (PySem.W.fnOf "put" "Web.put" (defArgs S_Web_put) (defBody S_Web_put) (defScope S_Web_put) .none kV_Web_put dc_Web_put pm_Web_put an_Web_put cd_Web_put ct_Web_put), sl_Web_put⟩)
    (c_Web_put : PySem.W.codeIn K cd_Web_put "Web.put" = true)
    (k_Web_put : PySem.W.keepIn K (.ref f_Web_put) = true)
    (a_Web_getitem : PySem.W.findIn K (.ref c_Web) "__getitem__" = some (some (.ref f_Web_getitem)))
    (l_Web_getitem : K.lookup f_Web_getitem = some ⟨oc_Web_getitem, od_Web_getitem, .func (PySem.W.fnOf "__getitem__" "Web.__getitem__" (defArgs S_Web_getitem) (defBody S_Web_getitem) (defScope S_Web_getitem) .none kV_Web_getitem dc_Web_getitem pm_Web_getitem an_Web_getitem cd_Web_getitem ct_Web_getitem), sl_Web_getitem⟩)
    (c_Web_getitem : PySem.W.codeIn K cd_Web_getitem "Web.__getitem__" = true)
    (k_Web_getitem : PySem.W.keepIn K (.ref f_Web_getitem) = true)
    (a_Web_contains : PySem.W.findIn K (.ref c_Web) "__contains__" = some (some (.ref f_Web_contains)))
    (l_Web_contains : K.lookup f_Web_contains = some ⟨oc_Web_contains, od_Web_contains, .func (PySem.W.fnOf "__contains__" "Web.__contains__" (defArgs S_Web_contains) (defBody S_Web_contains) (defScope S_Web_contains) .none kV_Web_contains dc_Web_contains pm_Web_contains an_Web_contains cd_Web_contains ct_Web_contains), sl_Web_contains⟩)
    (c_Web_contains : PySem.W.codeIn K cd_Web_contains "Web.__contains__" = true)
    (k_Web_contains : PySem.W.keepIn K (.ref f_Web_contains) = true)
    (a_Web_mark_of : PySem.W.findIn K (.ref c_Web) "mark_of" = some (some (.ref f_Web_mark_of)))
    (l_Web_mark_of : K.lookup f_Web_mark_of = some ⟨oc_Web_mark_of, od_Web_mark_of, .func (PySem.W.fnOf "mark_of" "Web.mark_of" (defArgs S_Web_mark_of) (defBody S_Web_mark_of) (defScope S_Web_mark_of) .none kV_Web_mark_of dc_Web_mark_of pm_Web_mark_of an_Web_mark_of cd_Web_mark_of ct_Web_mark_of), sl_Web_mark_of⟩)
    (c_Web_mark_of : PySem.W.codeIn K cd_Web_mark_of "Web.mark_of" = true)
    (k_Web_mark_of : PySem.W.keepIn K (.ref f_Web_mark_of) = true)
    (a_waits : PySem.W.nsIn K mainGlobals "waits" = some (some (.ref f_waits)))
    (l_waits : K.lookup f_waits = some ⟨oc_waits, od_waits, .func (PySem.W.fnOf "waits" "waits" (defArgs S_waits) (defBody S_waits) (defScope S_waits) .none kV_waits dc_waits pm_waits an_waits cd_waits ct_waits), sl_waits⟩)
    (c_waits : PySem.W.codeIn K cd_waits "waits" = true)
    (k_waits : PySem.W.keepIn K (.ref f_waits) = true)
    (a_is_mark : PySem.W.nsIn K mainGlobals "is_mark" = some (some (.ref f_is_mark)))
    (l_is_mark : K.lookup f_is_mark = some ⟨oc_is_mark, od_is_mark, .func (PySem.W.fnOf "is_mark" "is_mark" (defArgs S_is_mark) (defBody S_is_mark) (defScope S_is_mark) .none kV_is_mark dc_is_mark pm_is_mark an_is_mark cd_is_mark ct_is_mark), sl_is_mark⟩)
    (c_is_mark : PySem.W.codeIn K cd_is_mark "is_mark" = true)
    (k_is_mark : PySem.W.keepIn K (.ref f_is_mark) = true)
    (a_sound_row : PySem.W.nsIn K mainGlobals "sound_row" = some (some (.ref f_sound_row)))
    (l_sound_row : K.lookup f_sound_row = some ⟨oc_sound_row, od_sound_row, .func (PySem.W.fnOf "sound_row" "sound_row" (defArgs S_sound_row) (defBody S_sound_row) (defScope S_sound_row) .none kV_sound_row dc_sound_row pm_sound_row an_sound_row cd_sound_row ct_sound_row), sl_sound_row⟩)
    (c_sound_row : PySem.W.codeIn K cd_sound_row "sound_row" = true)
    (k_sound_row : PySem.W.keepIn K (.ref f_sound_row) = true)
    (a_barren : PySem.W.nsIn K mainGlobals "barren" = some (some (.ref f_barren)))
    (l_barren : K.lookup f_barren = some ⟨oc_barren, od_barren, .func (PySem.W.fnOf "barren" "barren" (defArgs S_barren) (defBody S_barren) (defScope S_barren) .none kV_barren dc_barren pm_barren an_barren cd_barren ct_barren), sl_barren⟩)
    (c_barren : PySem.W.codeIn K cd_barren "barren" = true)
    (k_barren : PySem.W.keepIn K (.ref f_barren) = true)
    (a_Shape_init : PySem.W.findIn K (.ref c_Shape) "__init__" = some (some (.ref f_Shape_init)))
    (l_Shape_init : K.lookup f_Shape_init = some ⟨oc_Shape_init, od_Shape_init, .func (PySem.W.fnOf "__init__" "Shape.__init__" (defArgs S_Shape_init) (defBody S_Shape_init) (defScope S_Shape_init) .none kV_Shape_init dc_Shape_init pm_Shape_init an_Shape_init cd_Shape_init ct_Shape_init), sl_Shape_init⟩)
    (c_Shape_init : PySem.W.codeIn K cd_Shape_init "Shape.__init__" = true)
    (k_Shape_init : PySem.W.keepIn K (.ref f_Shape_init) = true)
    (a_Shape_getitem : PySem.W.findIn K (.ref c_Shape) "__getitem__" = some (some (.ref f_Shape_getitem)))
    (l_Shape_getitem : K.lookup f_Shape_getitem = some ⟨oc_Shape_getitem, od_Shape_getitem, .func (PySem.W.fnOf "__getitem__" "Shape.__getitem__" (defArgs S_Shape_getitem) (defBody S_Shape_getitem) (defScope S_Shape_getitem) .none kV_Shape_getitem dc_Shape_getitem pm_Shape_getitem an_Shape_getitem cd_Shape_getitem ct_Shape_getitem), sl_Shape_getitem⟩)
    (c_Shape_getitem : PySem.W.codeIn K cd_Shape_getitem "Shape.__getitem__" = true)
    (k_Shape_getitem : PySem.W.keepIn K (.ref f_Shape_getitem) = true)
    (a_Shape_modes_of : PySem.W.findIn K (.ref c_Shape) "modes_of" = some (some (.ref f_Shape_modes_of)))
    (l_Shape_modes_of : K.lookup f_Shape_modes_of = some ⟨oc_Shape_modes_of, od_Shape_modes_of, .func (PySem.W.fnOf "modes_of" "Shape.modes_of" (defArgs S_Shape_modes_of) (defBody S_Shape_modes_of) (defScope S_Shape_modes_of) .none kV_Shape_modes_of dc_Shape_modes_of pm_Shape_modes_of an_Shape_modes_of cd_Shape_modes_of ct_Shape_modes_of), sl_Shape_modes_of⟩)
    (c_Shape_modes_of : PySem.W.codeIn K cd_Shape_modes_of "Shape.modes_of" = true)
    (k_Shape_modes_of : PySem.W.keepIn K (.ref f_Shape_modes_of) = true)
    (a__law_draws : PySem.W.nsIn K mainGlobals "_law_draws" = some (some (.ref f__law_draws)))
    (l__law_draws : K.lookup f__law_draws = some ⟨oc__law_draws, od__law_draws, .func (PySem.W.fnOf "_law_draws" "_law_draws" (defArgs S__law_draws) (defBody S__law_draws) (defScope S__law_draws) .none kV__law_draws dc__law_draws pm__law_draws an__law_draws cd__law_draws ct__law_draws), sl__law_draws⟩)
    (c__law_draws : PySem.W.codeIn K cd__law_draws "_law_draws" = true)
    (k__law_draws : PySem.W.keepIn K (.ref f__law_draws) = true)
    (a__law_take : PySem.W.nsIn K mainGlobals "_law_take" = some (some (.ref f__law_take)))
    (l__law_take : K.lookup f__law_take = some ⟨oc__law_take, od__law_take, .func (PySem.W.fnOf "_law_take" "_law_take" (defArgs S__law_take) (defBody S__law_take) (defScope S__law_take) .none kV__law_take dc__law_take pm__law_take an__law_take cd__law_take ct__law_take), sl__law_take⟩)
    (c__law_take : PySem.W.codeIn K cd__law_take "_law_take" = true)
    (k__law_take : PySem.W.keepIn K (.ref f__law_take) = true)
    (a__law_same : PySem.W.nsIn K mainGlobals "_law_same" = some (some (.ref f__law_same)))
    (l__law_same : K.lookup f__law_same = some ⟨oc__law_same, od__law_same, .func (PySem.W.fnOf "_law_same" "_law_same" (defArgs S__law_same) (defBody S__law_same) (defScope S__law_same) .none kV__law_same dc__law_same pm__law_same an__law_same cd__law_same ct__law_same), sl__law_same⟩)
    (c__law_same : PySem.W.codeIn K cd__law_same "_law_same" = true)
    (k__law_same : PySem.W.keepIn K (.ref f__law_same) = true)
    (a__law_marks : PySem.W.nsIn K mainGlobals "_law_marks" = some (some (.ref f__law_marks)))
    (l__law_marks : K.lookup f__law_marks = some ⟨oc__law_marks, od__law_marks, .func (PySem.W.fnOf "_law_marks" "_law_marks" (defArgs S__law_marks) (defBody S__law_marks) (defScope S__law_marks) .none kV__law_marks dc__law_marks pm__law_marks an__law_marks cd__law_marks ct__law_marks), sl__law_marks⟩)
    (c__law_marks : PySem.W.codeIn K cd__law_marks "_law_marks" = true)
    (k__law_marks : PySem.W.keepIn K (.ref f__law_marks) = true)
    (a__law_rows : PySem.W.nsIn K mainGlobals "_law_rows" = some (some (.ref f__law_rows)))
    (l__law_rows : K.lookup f__law_rows = some ⟨oc__law_rows, od__law_rows, .func (PySem.W.fnOf "_law_rows" "_law_rows" (defArgs S__law_rows) (defBody S__law_rows) (defScope S__law_rows) .none kV__law_rows dc__law_rows pm__law_rows an__law_rows cd__law_rows ct__law_rows), sl__law_rows⟩)
    (c__law_rows : PySem.W.codeIn K cd__law_rows "_law_rows" = true)
    (k__law_rows : PySem.W.keepIn K (.ref f__law_rows) = true)
    (a__law_things : PySem.W.nsIn K mainGlobals "_law_things" = some (some (.ref f__law_things)))
    (l__law_things : K.lookup f__law_things = some ⟨oc__law_things, od__law_things, .func (PySem.W.fnOf "_law_things" "_law_things" (defArgs S__law_things) (defBody S__law_things) (defScope S__law_things) .none kV__law_things dc__law_things pm__law_things an__law_things cd__law_things ct__law_things), sl__law_things⟩)
    (c__law_things : PySem.W.codeIn K cd__law_things "_law_things" = true)
    (k__law_things : PySem.W.keepIn K (.ref f__law_things) = true)
    (a__law_do : PySem.W.nsIn K mainGlobals "_law_do" = some (some (.ref f__law_do)))
    (l__law_do : K.lookup f__law_do = some ⟨oc__law_do, od__law_do, .func (PySem.W.fnOf "_law_do" "_law_do" (defArgs S__law_do) (defBody S__law_do) (defScope S__law_do) .none kV__law_do dc__law_do pm__law_do an__law_do cd__law_do ct__law_do), sl__law_do⟩)
    (c__law_do : PySem.W.codeIn K cd__law_do "_law_do" = true)
    (k__law_do : PySem.W.keepIn K (.ref f__law_do) = true)
    (a__law_shared : PySem.W.nsIn K mainGlobals "_law_shared" = some (some (.ref f__law_shared)))
    (l__law_shared : K.lookup f__law_shared = some ⟨oc__law_shared, od__law_shared, .func (PySem.W.fnOf "_law_shared" "_law_shared" (defArgs S__law_shared) (defBody S__law_shared) (defScope S__law_shared) .none kV__law_shared dc__law_shared pm__law_shared an__law_shared cd__law_shared ct__law_shared), sl__law_shared⟩)
    (c__law_shared : PySem.W.codeIn K cd__law_shared "_law_shared" = true)
    (k__law_shared : PySem.W.keepIn K (.ref f__law_shared) = true)
    (a__law_free : PySem.W.nsIn K mainGlobals "_law_free" = some (some (.ref f__law_free)))
    (l__law_free : K.lookup f__law_free = some ⟨oc__law_free, od__law_free, .func (PySem.W.fnOf "_law_free" "_law_free" (defArgs S__law_free) (defBody S__law_free) (defScope S__law_free) .none kV__law_free dc__law_free pm__law_free an__law_free cd__law_free ct__law_free), sl__law_free⟩)
    (c__law_free : PySem.W.codeIn K cd__law_free "_law_free" = true)
    (k__law_free : PySem.W.keepIn K (.ref f__law_free) = true)
    (a__law_shape : PySem.W.nsIn K mainGlobals "_law_shape" = some (some (.ref f__law_shape)))
    (l__law_shape : K.lookup f__law_shape = some ⟨oc__law_shape, od__law_shape, .func (PySem.W.fnOf "_law_shape" "_law_shape" (defArgs S__law_shape) (defBody S__law_shape) (defScope S__law_shape) .none kV__law_shape dc__law_shape pm__law_shape an__law_shape cd__law_shape ct__law_shape), sl__law_shape⟩)
    (c__law_shape : PySem.W.codeIn K cd__law_shape "_law_shape" = true)
    (k__law_shape : PySem.W.keepIn K (.ref f__law_shape) = true)
    (a__law_put : PySem.W.nsIn K mainGlobals "_law_put" = some (some (.ref f__law_put)))
    (l__law_put : K.lookup f__law_put = some ⟨oc__law_put, od__law_put, .func (PySem.W.fnOf "_law_put" "_law_put" (defArgs S__law_put) (defBody S__law_put) (defScope S__law_put) .none kV__law_put dc__law_put pm__law_put an__law_put cd__law_put ct__law_put), sl__law_put⟩)
    (c__law_put : PySem.W.codeIn K cd__law_put "_law_put" = true)
    (k__law_put : PySem.W.keepIn K (.ref f__law_put) = true)
    (a__law_web : PySem.W.nsIn K mainGlobals "_law_web" = some (some (.ref f__law_web)))
    (l__law_web : K.lookup f__law_web = some ⟨oc__law_web, od__law_web, .func (PySem.W.fnOf "_law_web" "_law_web" (defArgs S__law_web) (defBody S__law_web) (defScope S__law_web) .none kV__law_web dc__law_web pm__law_web an__law_web cd__law_web ct__law_web), sl__law_web⟩)
    (c__law_web : PySem.W.codeIn K cd__law_web "_law_web" = true)
    (k__law_web : PySem.W.keepIn K (.ref f__law_web) = true)
    (a__law_ring : PySem.W.nsIn K mainGlobals "_law_ring" = some (some (.ref f__law_ring)))
    (l__law_ring : K.lookup f__law_ring = some ⟨oc__law_ring, od__law_ring, .func (PySem.W.fnOf "_law_ring" "_law_ring" (defArgs S__law_ring) (defBody S__law_ring) (defScope S__law_ring) .none kV__law_ring dc__law_ring pm__law_ring an__law_ring cd__law_ring ct__law_ring), sl__law_ring⟩)
    (c__law_ring : PySem.W.codeIn K cd__law_ring "_law_ring" = true)
    (k__law_ring : PySem.W.keepIn K (.ref f__law_ring) = true)
    (a__law_names : PySem.W.nsIn K mainGlobals "_law_names" = some (some (.ref f__law_names)))
    (l__law_names : K.lookup f__law_names = some ⟨oc__law_names, od__law_names, .func (PySem.W.fnOf "_law_names" "_law_names" (defArgs S__law_names) (defBody S__law_names) (defScope S__law_names) .none kV__law_names dc__law_names pm__law_names an__law_names cd__law_names ct__law_names), sl__law_names⟩)
    (c__law_names : PySem.W.codeIn K cd__law_names "_law_names" = true)
    (k__law_names : PySem.W.keepIn K (.ref f__law_names) = true)
    (a__law_choices : PySem.W.nsIn K mainGlobals "_law_choices" = some (some (.ref f__law_choices)))
    (l__law_choices : K.lookup f__law_choices = some ⟨oc__law_choices, od__law_choices, .func (PySem.W.fnOf "_law_choices" "_law_choices" (defArgs S__law_choices) (defBody S__law_choices) (defScope S__law_choices) .none kV__law_choices dc__law_choices pm__law_choices an__law_choices cd__law_choices ct__law_choices), sl__law_choices⟩)
    (c__law_choices : PySem.W.codeIn K cd__law_choices "_law_choices" = true)
    (k__law_choices : PySem.W.keepIn K (.ref f__law_choices) = true)
    (a__law_begun : PySem.W.nsIn K mainGlobals "_law_begun" = some (some (.ref f__law_begun)))
    (l__law_begun : K.lookup f__law_begun = some ⟨oc__law_begun, od__law_begun, .func (PySem.W.fnOf "_law_begun" "_law_begun" (defArgs S__law_begun) (defBody S__law_begun) (defScope S__law_begun) .none kV__law_begun dc__law_begun pm__law_begun an__law_begun cd__law_begun ct__law_begun), sl__law_begun⟩)
    (c__law_begun : PySem.W.codeIn K cd__law_begun "_law_begun" = true)
    (k__law_begun : PySem.W.keepIn K (.ref f__law_begun) = true)
    (a__law_wants : PySem.W.nsIn K mainGlobals "_law_wants" = some (some (.ref f__law_wants)))
    (l__law_wants : K.lookup f__law_wants = some ⟨oc__law_wants, od__law_wants, .func (PySem.W.fnOf "_law_wants" "_law_wants" (defArgs S__law_wants) (defBody S__law_wants) (defScope S__law_wants) .none kV__law_wants dc__law_wants pm__law_wants an__law_wants cd__law_wants ct__law_wants), sl__law_wants⟩)
    (c__law_wants : PySem.W.codeIn K cd__law_wants "_law_wants" = true)
    (k__law_wants : PySem.W.keepIn K (.ref f__law_wants) = true)
    (a__law_due : PySem.W.nsIn K mainGlobals "_law_due" = some (some (.ref f__law_due)))
    (l__law_due : K.lookup f__law_due = some ⟨oc__law_due, od__law_due, .func (PySem.W.fnOf "_law_due" "_law_due" (defArgs S__law_due) (defBody S__law_due) (defScope S__law_due) .none kV__law_due dc__law_due pm__law_due an__law_due cd__law_due ct__law_due), sl__law_due⟩)
    (c__law_due : PySem.W.codeIn K cd__law_due "_law_due" = true)
    (k__law_due : PySem.W.keepIn K (.ref f__law_due) = true)
    (a__law_asked : PySem.W.nsIn K mainGlobals "_law_asked" = some (some (.ref f__law_asked)))
    (l__law_asked : K.lookup f__law_asked = some ⟨oc__law_asked, od__law_asked, .func (PySem.W.fnOf "_law_asked" "_law_asked" (defArgs S__law_asked) (defBody S__law_asked) (defScope S__law_asked) .none kV__law_asked dc__law_asked pm__law_asked an__law_asked cd__law_asked ct__law_asked), sl__law_asked⟩)
    (c__law_asked : PySem.W.codeIn K cd__law_asked "_law_asked" = true)
    (k__law_asked : PySem.W.keepIn K (.ref f__law_asked) = true)
    (a_law : PySem.W.nsIn K mainGlobals "law" = some (some (.ref f_law)))
    (l_law : K.lookup f_law = some ⟨oc_law, od_law, .func (PySem.W.fnOf "law" "law" (defArgs S_law) (defBody S_law) (defScope S_law) .none kV_law dc_law pm_law an_law cd_law ct_law), sl_law⟩)
    (c_law : PySem.W.codeIn K cd_law "law" = true)
    (k_law : PySem.W.keepIn K (.ref f_law) = true)
    (z_any : PySem.W.nsIn K mainGlobals "any" = some none)
    (z_bool : PySem.W.nsIn K mainGlobals "bool" = some none)
    (z_enumerate : PySem.W.nsIn K mainGlobals "enumerate" = some none)
    (z_int : PySem.W.nsIn K mainGlobals "int" = some none)
    (z_isinstance : PySem.W.nsIn K mainGlobals "isinstance" = some none)
    (z_iter : PySem.W.nsIn K mainGlobals "iter" = some none)
    (z_len : PySem.W.nsIn K mainGlobals "len" = some none)
    (z_list : PySem.W.nsIn K mainGlobals "list" = some none)
    (z_min : PySem.W.nsIn K mainGlobals "min" = some none)
    (z_range : PySem.W.nsIn K mainGlobals "range" = some none)
    (z_sorted : PySem.W.nsIn K mainGlobals "sorted" = some none)
    (z_str : PySem.W.nsIn K mainGlobals "str" = some none)
    (z_tuple : PySem.W.nsIn K mainGlobals "tuple" = some none)
    (aq_DEEDS : PySem.W.nsIn K mainGlobals "DEEDS" = some (some (.ref q_DEEDS)))
    (lq_DEEDS : K.lookup q_DEEDS = some ⟨.type "tuple", oq_DEEDS, .seq #[.str "own" t_DEEDS_0, .str "share" t_DEEDS_1, .str "drop" t_DEEDS_2] nq_DEEDS, slq_DEEDS⟩)
    (aq_DIGITS : PySem.W.nsIn K mainGlobals "DIGITS" = some (some (.str "0123456789" tq_DIGITS)))
    (aq_LETTERS : PySem.W.nsIn K mainGlobals "LETTERS" = some (some (.str "abcdefghijklmnopqrstuvwxyz" tq_LETTERS)))
    (aq_MODES : PySem.W.nsIn K mainGlobals "MODES" = some (some (.ref q_MODES)))
    (lq_MODES : K.lookup q_MODES = some ⟨.type "tuple", oq_MODES, .seq #[.str "own" t_MODES_0, .str "share" t_MODES_1] nq_MODES, slq_MODES⟩)
    (pg_Standing : PySem.W.plainGet K c_Standing Str.empty = true)
    (hd_Standing : PySem.W.hasDictIn K c_Standing = true)
    (po_Standing : PySem.W.plainOver K c_Standing = true)
    (sa_Standing : PySem.W.findIn K (.ref c_Standing) "__setattr__" = some (some (.builtin "object.__setattr__")))
    (kc_Standing : PySem.W.keepIn K (.ref c_Standing) = true)
    (i_Standing_init : PySem.W.isFn K (.ref f_Standing_init) = true)
    (mk_Standing : PySem.W.makesIn K c_Standing = true)
    (i_Standing_check : PySem.W.isFn K (.ref f_Standing_check) = true)
    (i_Standing_take : PySem.W.isFn K (.ref f_Standing_take) = true)
    (i_Standing_held_mode : PySem.W.isFn K (.ref f_Standing_held_mode) = true)
    (i_Standing_copy : PySem.W.isFn K (.ref f_Standing_copy) = true)
    (hca_Standing : PySem.W.findIn K (.ref c_Standing) "__class__" = some (some (.builtin "object.__class__")))
    (hcn_Standing : PySem.W.specialIn K (.builtin "object.__class__") "__get__" = some (some (.builtin "getset_descriptor.__get__")))
    (hct_Standing : PySem.W.takesIn K (.builtin "object.__class__") = some true)
    (hcm_Standing : PySem.W.mroIn K c_Standing (.type "object") = some true)
    (no_Standing_web : PySem.W.findIn K (.ref c_Standing) "web" = some none)
    (no_Standing__modes : PySem.W.findIn K (.ref c_Standing) "_modes" = some none)
    (no_Standing__holds : PySem.W.findIn K (.ref c_Standing) "_holds" = some none)
    (no_Standing__loose : PySem.W.findIn K (.ref c_Standing) "_loose" = some none)
    (pg_Weaving : PySem.W.plainGet K c_Weaving Str.empty = true)
    (hd_Weaving : PySem.W.hasDictIn K c_Weaving = true)
    (po_Weaving : PySem.W.plainOver K c_Weaving = true)
    (sa_Weaving : PySem.W.findIn K (.ref c_Weaving) "__setattr__" = some (some (.builtin "object.__setattr__")))
    (kc_Weaving : PySem.W.keepIn K (.ref c_Weaving) = true)
    (i_Weaving_init : PySem.W.isFn K (.ref f_Weaving_init) = true)
    (mk_Weaving : PySem.W.makesIn K c_Weaving = true)
    (i_Weaving_add : PySem.W.isFn K (.ref f_Weaving_add) = true)
    (i_Weaving_iter : PySem.W.isFn K (.ref f_Weaving_iter) = true)
    (i_Weaving_len : PySem.W.isFn K (.ref f_Weaving_len) = true)
    (i_Weavingascending : PySem.W.isFn K (.ref f_Weavingascending) = true)
    (i_Weaving_standing_of : PySem.W.isFn K (.ref f_Weaving_standing_of) = true)
    (i_Weaving_holders : PySem.W.isFn K (.ref f_Weaving_holders) = true)
    (no_Weaving_web : PySem.W.findIn K (.ref c_Weaving) "web" = some none)
    (no_Weaving__events : PySem.W.findIn K (.ref c_Weaving) "_events" = some none)
    (no_Weaving__standings : PySem.W.findIn K (.ref c_Weaving) "_standings" = some none)
    (no_Weaving__lockers : PySem.W.findIn K (.ref c_Weaving) "_lockers" = some none)
    (no_Weaving__edges : PySem.W.findIn K (.ref c_Weaving) "_edges" = some none)
    (pg_Web : PySem.W.plainGet K c_Web Str.empty = true)
    (hd_Web : PySem.W.hasDictIn K c_Web = true)
    (po_Web : PySem.W.plainOver K c_Web = true)
    (sa_Web : PySem.W.findIn K (.ref c_Web) "__setattr__" = some (some (.builtin "object.__setattr__")))
    (kc_Web : PySem.W.keepIn K (.ref c_Web) = true)
    (i_Web_init : PySem.W.isFn K (.ref f_Web_init) = true)
    (mk_Web : PySem.W.makesIn K c_Web = true)
    (i_Web_put : PySem.W.isFn K (.ref f_Web_put) = true)
    (fi_Web_getitem : PySem.W.fnIn K f_Web_getitem = true)
    (i_Web_getitem : PySem.W.isFn K (.ref f_Web_getitem) = true)
    (i_Web_contains : PySem.W.isFn K (.ref f_Web_contains) = true)
    (i_Web_mark_of : PySem.W.isFn K (.ref f_Web_mark_of) = true)
    (hca_Web : PySem.W.findIn K (.ref c_Web) "__class__" = some (some (.builtin "object.__class__")))
    (hcn_Web : PySem.W.specialIn K (.builtin "object.__class__") "__get__" = some (some (.builtin "getset_descriptor.__get__")))
    (hct_Web : PySem.W.takesIn K (.builtin "object.__class__") = some true)
    (hcm_Web : PySem.W.mroIn K c_Web (.type "object") = some true)
    (rdc_Web : PySem.W.readsIn K c_Web (.type "type") = true)
    (gac_Web : PySem.W.specialIn K (.ref c_Web) "__getattribute__" = some (some (.builtin "type.__getattribute__")))
    (fcl_Web_MOST : PySem.W.findCls K (.ref c_Web) (.type "type") "MOST" = some (.val (.int 1000 ti_Web_MOST)))
    (no_Web_shape : PySem.W.findIn K (.ref c_Web) "shape" = some none)
    (no_Web__rows : PySem.W.findIn K (.ref c_Web) "_rows" = some none)
    (no_Web__numbers : PySem.W.findIn K (.ref c_Web) "_numbers" = some none)
    (pg_Shape : PySem.W.plainGet K c_Shape Str.empty = true)
    (hd_Shape : PySem.W.hasDictIn K c_Shape = true)
    (po_Shape : PySem.W.plainOver K c_Shape = true)
    (sa_Shape : PySem.W.findIn K (.ref c_Shape) "__setattr__" = some (some (.builtin "object.__setattr__")))
    (kc_Shape : PySem.W.keepIn K (.ref c_Shape) = true)
    (i_Shape_init : PySem.W.isFn K (.ref f_Shape_init) = true)
    (mk_Shape : PySem.W.makesIn K c_Shape = true)
    (fi_Shape_getitem : PySem.W.fnIn K f_Shape_getitem = true)
    (i_Shape_getitem : PySem.W.isFn K (.ref f_Shape_getitem) = true)
    (i_Shape_modes_of : PySem.W.isFn K (.ref f_Shape_modes_of) = true)
    (hca_Shape : PySem.W.findIn K (.ref c_Shape) "__class__" = some (some (.builtin "object.__class__")))
    (hcn_Shape : PySem.W.specialIn K (.builtin "object.__class__") "__get__" = some (some (.builtin "getset_descriptor.__get__")))
    (hct_Shape : PySem.W.takesIn K (.builtin "object.__class__") = some true)
    (hcm_Shape : PySem.W.mroIn K c_Shape (.type "object") = some true)
    (rdc_Shape : PySem.W.readsIn K c_Shape (.type "type") = true)
    (gac_Shape : PySem.W.specialIn K (.ref c_Shape) "__getattribute__" = some (some (.builtin "type.__getattribute__")))
    (fcl_Shape_MARKS : PySem.W.findCls K (.ref c_Shape) (.type "type") "MARKS" = some (.val (.int 6 ti_Shape_MARKS)))
    (fcl_Shape_PARENTS : PySem.W.findCls K (.ref c_Shape) (.type "type") "PARENTS" = some (.val (.int 4 ti_Shape_PARENTS)))
    (no_Shape__listed : PySem.W.findIn K (.ref c_Shape) "_listed" = some none)
    (no_Shape__marks : PySem.W.findIn K (.ref c_Shape) "_marks" = some none)
    (gc_BadShape : PySem.W.nsIn K mainGlobals "BadShape" = some (some (.ref c_BadShape)))
    (gc_UnknownMark : PySem.W.nsIn K mainGlobals "UnknownMark" = some (some (.ref c_UnknownMark)))
    (gc_TooLarge : PySem.W.nsIn K mainGlobals "TooLarge" = some (some (.ref c_TooLarge)))
    (gc_BadParents : PySem.W.nsIn K mainGlobals "BadParents" = some (some (.ref c_BadParents)))
    (gc_NoThing : PySem.W.nsIn K mainGlobals "NoThing" = some (some (.ref c_NoThing)))
    (gc_BadStep : PySem.W.nsIn K mainGlobals "BadStep" = some (some (.ref c_BadStep)))
    (gc_Refused : PySem.W.nsIn K mainGlobals "Refused" = some (some (.ref c_Refused)))
    (gc_LockedBefore : PySem.W.nsIn K mainGlobals "LockedBefore" = some (some (.ref c_LockedBefore)))
    (gc_WrongMode : PySem.W.nsIn K mainGlobals "WrongMode" = some (some (.ref c_WrongMode)))
    (gc_NotHeld : PySem.W.nsIn K mainGlobals "NotHeld" = some (some (.ref c_NotHeld)))
    (gc_WebError : PySem.W.nsIn K mainGlobals "WebError" = some (some (.ref c_WebError)))
    (wb_NoThing : PySem.W.subIn K (.ref c_NoThing) (.type "BaseException") = some true)
    (wd_NoThing : PySem.W.hasDictIn K c_NoThing = true)
    (wt_NoThing : PySem.W.typeIn K (.ref c_NoThing) = some (.type "type"))
    (xz_super : PySem.W.nsIn K mainGlobals "super" = some none)
    (x_opq : PySem.W.nsIn K cStatics "thirdparty.any" = some none)
    (x_hn : PySem.W.specialIn K (.builtin "object.__class__") "__get__" = some (some (.builtin "getset_descriptor.__get__")))
    (x_ht : PySem.W.takesIn K (.builtin "object.__class__") = some true)
    (xl_BadShape : K.lookup c_BadShape = some (excClassObj nm_BadShape q_BadShape c_BadShape N_BadShape bs_BadShape [.ref c_WebError, .type "ValueError", .type "Exception", .type "BaseException", .type "object"] true sn_BadShape sub_BadShape ab_BadShape col_BadShape dd_BadShape m0_BadShape m1_BadShape m2_BadShape m3_BadShape m5_BadShape "ValueError.__new__"))
    (xsa_BadShape : PySem.W.findIn K (.ref c_BadShape) "__setattr__" = some (some (.builtin "object.__setattr__")))
    (xga_BadShape : PySem.W.findIn K (.ref c_BadShape) "__getattribute__" = some (some (.builtin "BaseException.__getattribute__")))
    (xgg_BadShape : PySem.W.findIn K (.ref c_BadShape) "__getattr__" = some none)
    (xno_BadShape : PySem.W.findIn K (.ref c_BadShape) "mark" = some none)
    (xk_BadShape : PySem.W.keepIn K (.ref c_BadShape) = true)
    (xb_BadShape : PySem.W.subIn K (.ref c_BadShape) (.type "BaseException") = some true)
    (xt_BadShape : PySem.W.typeIn K (.ref c_BadShape) = some (.type "type"))
    (xd_BadShape : PySem.W.hasDictIn K c_BadShape = true)
    (xi_BadShape : PySem.W.findIn K (.ref c_BadShape) "__init__" = some (some (.ref f_BadShape)))
    (xf_BadShape : PySem.W.typeIn K (.ref f_BadShape) = some (.type "function"))
    (xfl_BadShape : K.lookup f_BadShape = some ⟨oc_BadShape, od_BadShape, .func (PySem.W.ksFn "__init__" "BadShape.__init__" (defArgs S_BadShape_init) (defBody S_BadShape_init) (defScope S_BadShape_init) .none kV_BadShape dc_BadShape pm_BadShape an_BadShape (.ref cda_BadShape) ct_BadShape cc_BadShape), osl_BadShape⟩)
    (xci_BadShape : PySem.W.codeIn K (.ref cda_BadShape) "BadShape.__init__" = true)
    (xcc_BadShape : K.lookup cc_BadShape = some ⟨cl_BadShape, cld_BadShape, .cell (some (.ref c_BadShape)), csl_BadShape⟩)
    (xcd_BadShape : K.lookup cda_BadShape = some ⟨ccl_BadShape, cdd_BadShape, .fields vs_BadShape, ccs_BadShape⟩)
    (xvs_BadShape : vs_BadShape[2]? = some (.str file_BadShape tf_BadShape))
    (xfi_BadShape : ((PP.main.file : Str) == file_BadShape) = true)
    (xnx_BadShape : PySem.W.ks_superIn K c_BadShape c_BadShape "__init__" = some (some (.builtin "ValueError.__init__")))
    (xsl_BadShape : PySem.W.mroIn K c_BadShape (.ref c_BadShape) = some true)
    (xsu_BadShape : PySem.W.subIn K (.ref c_BadShape) (.type "ValueError") = some true)
    (xha_BadShape : PySem.W.findIn K (.ref c_BadShape) "__class__" = some (some (.builtin "object.__class__")))
    (xhm_BadShape : PySem.W.mroIn K c_BadShape (.type "object") = some true)
    (ws_BadShape_NoThing : PySem.W.subIn K (.ref c_BadShape) (.ref c_NoThing) = some false)
    (xl_UnknownMark : K.lookup c_UnknownMark = some (excClassObj nm_UnknownMark q_UnknownMark c_UnknownMark N_UnknownMark bs_UnknownMark [.ref c_WebError, .type "ValueError", .type "Exception", .type "BaseException", .type "object"] true sn_UnknownMark sub_UnknownMark ab_UnknownMark col_UnknownMark dd_UnknownMark m0_UnknownMark m1_UnknownMark m2_UnknownMark m3_UnknownMark m5_UnknownMark "ValueError.__new__"))
    (xsa_UnknownMark : PySem.W.findIn K (.ref c_UnknownMark) "__setattr__" = some (some (.builtin "object.__setattr__")))
    (xga_UnknownMark : PySem.W.findIn K (.ref c_UnknownMark) "__getattribute__" = some (some (.builtin "BaseException.__getattribute__")))
    (xgg_UnknownMark : PySem.W.findIn K (.ref c_UnknownMark) "__getattr__" = some none)
    (xno_UnknownMark : PySem.W.findIn K (.ref c_UnknownMark) "mark" = some none)
    (xk_UnknownMark : PySem.W.keepIn K (.ref c_UnknownMark) = true)
    (xb_UnknownMark : PySem.W.subIn K (.ref c_UnknownMark) (.type "BaseException") = some true)
    (xt_UnknownMark : PySem.W.typeIn K (.ref c_UnknownMark) = some (.type "type"))
    (xd_UnknownMark : PySem.W.hasDictIn K c_UnknownMark = true)
    (xi_UnknownMark : PySem.W.findIn K (.ref c_UnknownMark) "__init__" = some (some (.ref f_UnknownMark)))
    (xf_UnknownMark : PySem.W.typeIn K (.ref f_UnknownMark) = some (.type "function"))
    (xfl_UnknownMark : K.lookup f_UnknownMark = some ⟨oc_UnknownMark, od_UnknownMark, .func (PySem.W.ksFn "__init__" "UnknownMark.__init__" (defArgs S_UnknownMark_init) (defBody S_UnknownMark_init) (defScope S_UnknownMark_init) .none kV_UnknownMark dc_UnknownMark pm_UnknownMark an_UnknownMark (.ref cda_UnknownMark) ct_UnknownMark cc_UnknownMark), osl_UnknownMark⟩)
    (xci_UnknownMark : PySem.W.codeIn K (.ref cda_UnknownMark) "UnknownMark.__init__" = true)
    (xcc_UnknownMark : K.lookup cc_UnknownMark = some ⟨cl_UnknownMark, cld_UnknownMark, .cell (some (.ref c_UnknownMark)), csl_UnknownMark⟩)
    (xcd_UnknownMark : K.lookup cda_UnknownMark = some ⟨ccl_UnknownMark, cdd_UnknownMark, .fields vs_UnknownMark, ccs_UnknownMark⟩)
    (xvs_UnknownMark : vs_UnknownMark[2]? = some (.str file_UnknownMark tf_UnknownMark))
    (xfi_UnknownMark : ((PP.main.file : Str) == file_UnknownMark) = true)
    (xnx_UnknownMark : PySem.W.ks_superIn K c_UnknownMark c_UnknownMark "__init__" = some (some (.builtin "ValueError.__init__")))
    (xsl_UnknownMark : PySem.W.mroIn K c_UnknownMark (.ref c_UnknownMark) = some true)
    (xsu_UnknownMark : PySem.W.subIn K (.ref c_UnknownMark) (.type "ValueError") = some true)
    (xha_UnknownMark : PySem.W.findIn K (.ref c_UnknownMark) "__class__" = some (some (.builtin "object.__class__")))
    (xhm_UnknownMark : PySem.W.mroIn K c_UnknownMark (.type "object") = some true)
    (ws_UnknownMark_NoThing : PySem.W.subIn K (.ref c_UnknownMark) (.ref c_NoThing) = some false)
    (xl_TooLarge : K.lookup c_TooLarge = some (excClassObj nm_TooLarge q_TooLarge c_TooLarge N_TooLarge bs_TooLarge [.ref c_WebError, .type "ValueError", .type "Exception", .type "BaseException", .type "object"] true sn_TooLarge sub_TooLarge ab_TooLarge col_TooLarge dd_TooLarge m0_TooLarge m1_TooLarge m2_TooLarge m3_TooLarge m5_TooLarge "ValueError.__new__"))
    (xsa_TooLarge : PySem.W.findIn K (.ref c_TooLarge) "__setattr__" = some (some (.builtin "object.__setattr__")))
    (xga_TooLarge : PySem.W.findIn K (.ref c_TooLarge) "__getattribute__" = some (some (.builtin "BaseException.__getattribute__")))
    (xgg_TooLarge : PySem.W.findIn K (.ref c_TooLarge) "__getattr__" = some none)
    (xno_TooLarge : PySem.W.findIn K (.ref c_TooLarge) "most" = some none)
    (xk_TooLarge : PySem.W.keepIn K (.ref c_TooLarge) = true)
    (xb_TooLarge : PySem.W.subIn K (.ref c_TooLarge) (.type "BaseException") = some true)
    (xt_TooLarge : PySem.W.typeIn K (.ref c_TooLarge) = some (.type "type"))
    (xd_TooLarge : PySem.W.hasDictIn K c_TooLarge = true)
    (xi_TooLarge : PySem.W.findIn K (.ref c_TooLarge) "__init__" = some (some (.ref f_TooLarge)))
    (xf_TooLarge : PySem.W.typeIn K (.ref f_TooLarge) = some (.type "function"))
    (xfl_TooLarge : K.lookup f_TooLarge = some ⟨oc_TooLarge, od_TooLarge, .func (PySem.W.ksFn "__init__" "TooLarge.__init__" (defArgs S_TooLarge_init) (defBody S_TooLarge_init) (defScope S_TooLarge_init) .none kV_TooLarge dc_TooLarge pm_TooLarge an_TooLarge (.ref cda_TooLarge) ct_TooLarge cc_TooLarge), osl_TooLarge⟩)
    (xci_TooLarge : PySem.W.codeIn K (.ref cda_TooLarge) "TooLarge.__init__" = true)
    (xcc_TooLarge : K.lookup cc_TooLarge = some ⟨cl_TooLarge, cld_TooLarge, .cell (some (.ref c_TooLarge)), csl_TooLarge⟩)
    (xcd_TooLarge : K.lookup cda_TooLarge = some ⟨ccl_TooLarge, cdd_TooLarge, .fields vs_TooLarge, ccs_TooLarge⟩)
    (xvs_TooLarge : vs_TooLarge[2]? = some (.str file_TooLarge tf_TooLarge))
    (xfi_TooLarge : ((PP.main.file : Str) == file_TooLarge) = true)
    (xnx_TooLarge : PySem.W.ks_superIn K c_TooLarge c_TooLarge "__init__" = some (some (.builtin "ValueError.__init__")))
    (xsl_TooLarge : PySem.W.mroIn K c_TooLarge (.ref c_TooLarge) = some true)
    (xsu_TooLarge : PySem.W.subIn K (.ref c_TooLarge) (.type "ValueError") = some true)
    (xha_TooLarge : PySem.W.findIn K (.ref c_TooLarge) "__class__" = some (some (.builtin "object.__class__")))
    (xhm_TooLarge : PySem.W.mroIn K c_TooLarge (.type "object") = some true)
    (ws_TooLarge_NoThing : PySem.W.subIn K (.ref c_TooLarge) (.ref c_NoThing) = some false)
    (xl_BadParents : K.lookup c_BadParents = some (excClassObj nm_BadParents q_BadParents c_BadParents N_BadParents bs_BadParents [.ref c_WebError, .type "ValueError", .type "Exception", .type "BaseException", .type "object"] true sn_BadParents sub_BadParents ab_BadParents col_BadParents dd_BadParents m0_BadParents m1_BadParents m2_BadParents m3_BadParents m5_BadParents "ValueError.__new__"))
    (xsa_BadParents : PySem.W.findIn K (.ref c_BadParents) "__setattr__" = some (some (.builtin "object.__setattr__")))
    (xga_BadParents : PySem.W.findIn K (.ref c_BadParents) "__getattribute__" = some (some (.builtin "BaseException.__getattribute__")))
    (xgg_BadParents : PySem.W.findIn K (.ref c_BadParents) "__getattr__" = some none)
    (xno_BadParents : PySem.W.findIn K (.ref c_BadParents) "mark" = some none)
    (xk_BadParents : PySem.W.keepIn K (.ref c_BadParents) = true)
    (xb_BadParents : PySem.W.subIn K (.ref c_BadParents) (.type "BaseException") = some true)
    (xt_BadParents : PySem.W.typeIn K (.ref c_BadParents) = some (.type "type"))
    (xd_BadParents : PySem.W.hasDictIn K c_BadParents = true)
    (xi_BadParents : PySem.W.findIn K (.ref c_BadParents) "__init__" = some (some (.ref f_BadParents)))
    (xf_BadParents : PySem.W.typeIn K (.ref f_BadParents) = some (.type "function"))
    (xfl_BadParents : K.lookup f_BadParents = some ⟨oc_BadParents, od_BadParents, .func (PySem.W.ksFn "__init__" "BadParents.__init__" (defArgs S_BadParents_init) (defBody S_BadParents_init) (defScope S_BadParents_init) .none kV_BadParents dc_BadParents pm_BadParents an_BadParents (.ref cda_BadParents) ct_BadParents cc_BadParents), osl_BadParents⟩)
    (xci_BadParents : PySem.W.codeIn K (.ref cda_BadParents) "BadParents.__init__" = true)
    (xcc_BadParents : K.lookup cc_BadParents = some ⟨cl_BadParents, cld_BadParents, .cell (some (.ref c_BadParents)), csl_BadParents⟩)
    (xcd_BadParents : K.lookup cda_BadParents = some ⟨ccl_BadParents, cdd_BadParents, .fields vs_BadParents, ccs_BadParents⟩)
    (xvs_BadParents : vs_BadParents[2]? = some (.str file_BadParents tf_BadParents))
    (xfi_BadParents : ((PP.main.file : Str) == file_BadParents) = true)
    (xnx_BadParents : PySem.W.ks_superIn K c_BadParents c_BadParents "__init__" = some (some (.builtin "ValueError.__init__")))
    (xsl_BadParents : PySem.W.mroIn K c_BadParents (.ref c_BadParents) = some true)
    (xsu_BadParents : PySem.W.subIn K (.ref c_BadParents) (.type "ValueError") = some true)
    (xha_BadParents : PySem.W.findIn K (.ref c_BadParents) "__class__" = some (some (.builtin "object.__class__")))
    (xhm_BadParents : PySem.W.mroIn K c_BadParents (.type "object") = some true)
    (ws_BadParents_NoThing : PySem.W.subIn K (.ref c_BadParents) (.ref c_NoThing) = some false)
    (xl_NoThing : K.lookup c_NoThing = some (excClassObj nm_NoThing q_NoThing c_NoThing N_NoThing bs_NoThing [.ref c_WebError, .type "ValueError", .type "Exception", .type "BaseException", .type "object"] true sn_NoThing sub_NoThing ab_NoThing col_NoThing dd_NoThing m0_NoThing m1_NoThing m2_NoThing m3_NoThing m5_NoThing "ValueError.__new__"))
    (xsa_NoThing : PySem.W.findIn K (.ref c_NoThing) "__setattr__" = some (some (.builtin "object.__setattr__")))
    (xga_NoThing : PySem.W.findIn K (.ref c_NoThing) "__getattribute__" = some (some (.builtin "BaseException.__getattribute__")))
    (xgg_NoThing : PySem.W.findIn K (.ref c_NoThing) "__getattr__" = some none)
    (xno_NoThing : PySem.W.findIn K (.ref c_NoThing) "thing" = some none)
    (xk_NoThing : PySem.W.keepIn K (.ref c_NoThing) = true)
    (xb_NoThing : PySem.W.subIn K (.ref c_NoThing) (.type "BaseException") = some true)
    (xt_NoThing : PySem.W.typeIn K (.ref c_NoThing) = some (.type "type"))
    (xd_NoThing : PySem.W.hasDictIn K c_NoThing = true)
    (xi_NoThing : PySem.W.findIn K (.ref c_NoThing) "__init__" = some (some (.ref f_NoThing)))
    (xf_NoThing : PySem.W.typeIn K (.ref f_NoThing) = some (.type "function"))
    (xfl_NoThing : K.lookup f_NoThing = some ⟨oc_NoThing, od_NoThing, .func (PySem.W.ksFn "__init__" "NoThing.__init__" (defArgs S_NoThing_init) (defBody S_NoThing_init) (defScope S_NoThing_init) .none kV_NoThing dc_NoThing pm_NoThing an_NoThing (.ref cda_NoThing) ct_NoThing cc_NoThing), osl_NoThing⟩)
    (xci_NoThing : PySem.W.codeIn K (.ref cda_NoThing) "NoThing.__init__" = true)
    (xcc_NoThing : K.lookup cc_NoThing = some ⟨cl_NoThing, cld_NoThing, .cell (some (.ref c_NoThing)), csl_NoThing⟩)
    (xcd_NoThing : K.lookup cda_NoThing = some ⟨ccl_NoThing, cdd_NoThing, .fields vs_NoThing, ccs_NoThing⟩)
    (xvs_NoThing : vs_NoThing[2]? = some (.str file_NoThing tf_NoThing))
    (xfi_NoThing : ((PP.main.file : Str) == file_NoThing) = true)
    (xnx_NoThing : PySem.W.ks_superIn K c_NoThing c_NoThing "__init__" = some (some (.builtin "ValueError.__init__")))
    (xsl_NoThing : PySem.W.mroIn K c_NoThing (.ref c_NoThing) = some true)
    (xsu_NoThing : PySem.W.subIn K (.ref c_NoThing) (.type "ValueError") = some true)
    (xha_NoThing : PySem.W.findIn K (.ref c_NoThing) "__class__" = some (some (.builtin "object.__class__")))
    (xhm_NoThing : PySem.W.mroIn K c_NoThing (.type "object") = some true)
    (ws_NoThing_NoThing : PySem.W.subIn K (.ref c_NoThing) (.ref c_NoThing) = some true)
    (xl_BadStep : K.lookup c_BadStep = some (excClassObj nm_BadStep q_BadStep c_BadStep N_BadStep bs_BadStep [.ref c_WebError, .type "ValueError", .type "Exception", .type "BaseException", .type "object"] true sn_BadStep sub_BadStep ab_BadStep col_BadStep dd_BadStep m0_BadStep m1_BadStep m2_BadStep m3_BadStep m5_BadStep "ValueError.__new__"))
    (xsa_BadStep : PySem.W.findIn K (.ref c_BadStep) "__setattr__" = some (some (.builtin "object.__setattr__")))
    (xga_BadStep : PySem.W.findIn K (.ref c_BadStep) "__getattribute__" = some (some (.builtin "BaseException.__getattribute__")))
    (xgg_BadStep : PySem.W.findIn K (.ref c_BadStep) "__getattr__" = some none)
    (xno_BadStep : PySem.W.findIn K (.ref c_BadStep) "step" = some none)
    (xk_BadStep : PySem.W.keepIn K (.ref c_BadStep) = true)
    (xb_BadStep : PySem.W.subIn K (.ref c_BadStep) (.type "BaseException") = some true)
    (xt_BadStep : PySem.W.typeIn K (.ref c_BadStep) = some (.type "type"))
    (xd_BadStep : PySem.W.hasDictIn K c_BadStep = true)
    (xi_BadStep : PySem.W.findIn K (.ref c_BadStep) "__init__" = some (some (.ref f_BadStep)))
    (xf_BadStep : PySem.W.typeIn K (.ref f_BadStep) = some (.type "function"))
    (xfl_BadStep : K.lookup f_BadStep = some ⟨oc_BadStep, od_BadStep, .func (PySem.W.ksFn "__init__" "BadStep.__init__" (defArgs S_BadStep_init) (defBody S_BadStep_init) (defScope S_BadStep_init) .none kV_BadStep dc_BadStep pm_BadStep an_BadStep (.ref cda_BadStep) ct_BadStep cc_BadStep), osl_BadStep⟩)
    (xci_BadStep : PySem.W.codeIn K (.ref cda_BadStep) "BadStep.__init__" = true)
    (xcc_BadStep : K.lookup cc_BadStep = some ⟨cl_BadStep, cld_BadStep, .cell (some (.ref c_BadStep)), csl_BadStep⟩)
    (xcd_BadStep : K.lookup cda_BadStep = some ⟨ccl_BadStep, cdd_BadStep, .fields vs_BadStep, ccs_BadStep⟩)
    (xvs_BadStep : vs_BadStep[2]? = some (.str file_BadStep tf_BadStep))
    (xfi_BadStep : ((PP.main.file : Str) == file_BadStep) = true)
    (xnx_BadStep : PySem.W.ks_superIn K c_BadStep c_BadStep "__init__" = some (some (.builtin "ValueError.__init__")))
    (xsl_BadStep : PySem.W.mroIn K c_BadStep (.ref c_BadStep) = some true)
    (xsu_BadStep : PySem.W.subIn K (.ref c_BadStep) (.type "ValueError") = some true)
    (xha_BadStep : PySem.W.findIn K (.ref c_BadStep) "__class__" = some (some (.builtin "object.__class__")))
    (xhm_BadStep : PySem.W.mroIn K c_BadStep (.type "object") = some true)
    (ws_BadStep_NoThing : PySem.W.subIn K (.ref c_BadStep) (.ref c_NoThing) = some false)
    (xl_Refused : K.lookup c_Refused = some (excClassObj nm_Refused q_Refused c_Refused N_Refused bs_Refused [.ref c_WebError, .type "ValueError", .type "Exception", .type "BaseException", .type "object"] true sn_Refused sub_Refused ab_Refused col_Refused dd_Refused m0_Refused m1_Refused m2_Refused m3_Refused m5_Refused "ValueError.__new__"))
    (xsa_Refused : PySem.W.findIn K (.ref c_Refused) "__setattr__" = some (some (.builtin "object.__setattr__")))
    (xga_Refused : PySem.W.findIn K (.ref c_Refused) "__getattribute__" = some (some (.builtin "BaseException.__getattribute__")))
    (xgg_Refused : PySem.W.findIn K (.ref c_Refused) "__getattr__" = some none)
    (xno_Refused : PySem.W.findIn K (.ref c_Refused) "step" = some none)
    (xk_Refused : PySem.W.keepIn K (.ref c_Refused) = true)
    (xb_Refused : PySem.W.subIn K (.ref c_Refused) (.type "BaseException") = some true)
    (xt_Refused : PySem.W.typeIn K (.ref c_Refused) = some (.type "type"))
    (xd_Refused : PySem.W.hasDictIn K c_Refused = true)
    (xi_Refused : PySem.W.findIn K (.ref c_Refused) "__init__" = some (some (.ref f_Refused)))
    (xf_Refused : PySem.W.typeIn K (.ref f_Refused) = some (.type "function"))
    (xfl_Refused : K.lookup f_Refused = some ⟨oc_Refused, od_Refused, .func (PySem.W.ksFn "__init__" "Refused.__init__" (defArgs S_Refused_init) (defBody S_Refused_init) (defScope S_Refused_init) .none kV_Refused dc_Refused pm_Refused an_Refused (.ref cda_Refused) ct_Refused cc_Refused), osl_Refused⟩)
    (xci_Refused : PySem.W.codeIn K (.ref cda_Refused) "Refused.__init__" = true)
    (xcc_Refused : K.lookup cc_Refused = some ⟨cl_Refused, cld_Refused, .cell (some (.ref c_Refused)), csl_Refused⟩)
    (xcd_Refused : K.lookup cda_Refused = some ⟨ccl_Refused, cdd_Refused, .fields vs_Refused, ccs_Refused⟩)
    (xvs_Refused : vs_Refused[2]? = some (.str file_Refused tf_Refused))
    (xfi_Refused : ((PP.main.file : Str) == file_Refused) = true)
    (xnx_Refused : PySem.W.ks_superIn K c_Refused c_Refused "__init__" = some (some (.builtin "ValueError.__init__")))
    (xsl_Refused : PySem.W.mroIn K c_Refused (.ref c_Refused) = some true)
    (xsu_Refused : PySem.W.subIn K (.ref c_Refused) (.type "ValueError") = some true)
    (xha_Refused : PySem.W.findIn K (.ref c_Refused) "__class__" = some (some (.builtin "object.__class__")))
    (xhm_Refused : PySem.W.mroIn K c_Refused (.type "object") = some true)
    (ws_Refused_NoThing : PySem.W.subIn K (.ref c_Refused) (.ref c_NoThing) = some false)
    (xl_LockedBefore : K.lookup c_LockedBefore = some (excClassObj nm_LockedBefore q_LockedBefore c_LockedBefore N_LockedBefore bs_LockedBefore [.ref c_Refused, .ref c_WebError, .type "ValueError", .type "Exception", .type "BaseException", .type "object"] true sn_LockedBefore sub_LockedBefore ab_LockedBefore col_LockedBefore dd_LockedBefore m0_LockedBefore m1_LockedBefore m2_LockedBefore m3_LockedBefore m5_LockedBefore "ValueError.__new__"))
    (xsa_LockedBefore : PySem.W.findIn K (.ref c_LockedBefore) "__setattr__" = some (some (.builtin "object.__setattr__")))
    (xga_LockedBefore : PySem.W.findIn K (.ref c_LockedBefore) "__getattribute__" = some (some (.builtin "BaseException.__getattribute__")))
    (xgg_LockedBefore : PySem.W.findIn K (.ref c_LockedBefore) "__getattr__" = some none)
    (xno_LockedBefore : PySem.W.findIn K (.ref c_LockedBefore) "step" = some none)
    (xk_LockedBefore : PySem.W.keepIn K (.ref c_LockedBefore) = true)
    (xb_LockedBefore : PySem.W.subIn K (.ref c_LockedBefore) (.type "BaseException") = some true)
    (xt_LockedBefore : PySem.W.typeIn K (.ref c_LockedBefore) = some (.type "type"))
    (xd_LockedBefore : PySem.W.hasDictIn K c_LockedBefore = true)
    (xi_LockedBefore : PySem.W.findIn K (.ref c_LockedBefore) "__init__" = some (some (.ref f_LockedBefore)))
    (xf_LockedBefore : PySem.W.typeIn K (.ref f_LockedBefore) = some (.type "function"))
    (xfl_LockedBefore : K.lookup f_LockedBefore = some ⟨oc_LockedBefore, od_LockedBefore, .func (PySem.W.ksFn "__init__" "Refused.__init__" (defArgs S_Refused_init) (defBody S_Refused_init) (defScope S_Refused_init) .none kV_LockedBefore dc_LockedBefore pm_LockedBefore an_LockedBefore (.ref cda_LockedBefore) ct_LockedBefore cc_LockedBefore), osl_LockedBefore⟩)
    (xci_LockedBefore : PySem.W.codeIn K (.ref cda_LockedBefore) "Refused.__init__" = true)
    (xcc_LockedBefore : K.lookup cc_LockedBefore = some ⟨cl_LockedBefore, cld_LockedBefore, .cell (some (.ref c_Refused)), csl_LockedBefore⟩)
    (xcd_LockedBefore : K.lookup cda_LockedBefore = some ⟨ccl_LockedBefore, cdd_LockedBefore, .fields vs_LockedBefore, ccs_LockedBefore⟩)
    (xvs_LockedBefore : vs_LockedBefore[2]? = some (.str file_LockedBefore tf_LockedBefore))
    (xfi_LockedBefore : ((PP.main.file : Str) == file_LockedBefore) = true)
    (xnx_LockedBefore : PySem.W.ks_superIn K c_LockedBefore c_Refused "__init__" = some (some (.builtin "ValueError.__init__")))
    (xsl_LockedBefore : PySem.W.mroIn K c_LockedBefore (.ref c_Refused) = some true)
    (xsu_LockedBefore : PySem.W.subIn K (.ref c_LockedBefore) (.type "ValueError") = some true)
    (xha_LockedBefore : PySem.W.findIn K (.ref c_LockedBefore) "__class__" = some (some (.builtin "object.__class__")))
    (xhm_LockedBefore : PySem.W.mroIn K c_LockedBefore (.type "object") = some true)
    (ws_LockedBefore_NoThing : PySem.W.subIn K (.ref c_LockedBefore) (.ref c_NoThing) = some false)
    (xl_WrongMode : K.lookup c_WrongMode = some (excClassObj nm_WrongMode q_WrongMode c_WrongMode N_WrongMode bs_WrongMode [.ref c_Refused, .ref c_WebError, .type "ValueError", .type "Exception", .type "BaseException", .type "object"] true sn_WrongMode sub_WrongMode ab_WrongMode col_WrongMode dd_WrongMode m0_WrongMode m1_WrongMode m2_WrongMode m3_WrongMode m5_WrongMode "ValueError.__new__"))
    (xsa_WrongMode : PySem.W.findIn K (.ref c_WrongMode) "__setattr__" = some (some (.builtin "object.__setattr__")))
    (xga_WrongMode : PySem.W.findIn K (.ref c_WrongMode) "__getattribute__" = some (some (.builtin "BaseException.__getattribute__")))
    (xgg_WrongMode : PySem.W.findIn K (.ref c_WrongMode) "__getattr__" = some none)
    (xno_WrongMode : PySem.W.findIn K (.ref c_WrongMode) "step" = some none)
    (xk_WrongMode : PySem.W.keepIn K (.ref c_WrongMode) = true)
    (xb_WrongMode : PySem.W.subIn K (.ref c_WrongMode) (.type "BaseException") = some true)
    (xt_WrongMode : PySem.W.typeIn K (.ref c_WrongMode) = some (.type "type"))
    (xd_WrongMode : PySem.W.hasDictIn K c_WrongMode = true)
    (xi_WrongMode : PySem.W.findIn K (.ref c_WrongMode) "__init__" = some (some (.ref f_WrongMode)))
    (xf_WrongMode : PySem.W.typeIn K (.ref f_WrongMode) = some (.type "function"))
    (xfl_WrongMode : K.lookup f_WrongMode = some ⟨oc_WrongMode, od_WrongMode, .func (PySem.W.ksFn "__init__" "Refused.__init__" (defArgs S_Refused_init) (defBody S_Refused_init) (defScope S_Refused_init) .none kV_WrongMode dc_WrongMode pm_WrongMode an_WrongMode (.ref cda_WrongMode) ct_WrongMode cc_WrongMode), osl_WrongMode⟩)
    (xci_WrongMode : PySem.W.codeIn K (.ref cda_WrongMode) "Refused.__init__" = true)
    (xcc_WrongMode : K.lookup cc_WrongMode = some ⟨cl_WrongMode, cld_WrongMode, .cell (some (.ref c_Refused)), csl_WrongMode⟩)
    (xcd_WrongMode : K.lookup cda_WrongMode = some ⟨ccl_WrongMode, cdd_WrongMode, .fields vs_WrongMode, ccs_WrongMode⟩)
    (xvs_WrongMode : vs_WrongMode[2]? = some (.str file_WrongMode tf_WrongMode))
    (xfi_WrongMode : ((PP.main.file : Str) == file_WrongMode) = true)
    (xnx_WrongMode : PySem.W.ks_superIn K c_WrongMode c_Refused "__init__" = some (some (.builtin "ValueError.__init__")))
    (xsl_WrongMode : PySem.W.mroIn K c_WrongMode (.ref c_Refused) = some true)
    (xsu_WrongMode : PySem.W.subIn K (.ref c_WrongMode) (.type "ValueError") = some true)
    (xha_WrongMode : PySem.W.findIn K (.ref c_WrongMode) "__class__" = some (some (.builtin "object.__class__")))
    (xhm_WrongMode : PySem.W.mroIn K c_WrongMode (.type "object") = some true)
    (ws_WrongMode_NoThing : PySem.W.subIn K (.ref c_WrongMode) (.ref c_NoThing) = some false)
    (xl_NotHeld : K.lookup c_NotHeld = some (excClassObj nm_NotHeld q_NotHeld c_NotHeld N_NotHeld bs_NotHeld [.ref c_Refused, .ref c_WebError, .type "ValueError", .type "Exception", .type "BaseException", .type "object"] true sn_NotHeld sub_NotHeld ab_NotHeld col_NotHeld dd_NotHeld m0_NotHeld m1_NotHeld m2_NotHeld m3_NotHeld m5_NotHeld "ValueError.__new__"))
    (xsa_NotHeld : PySem.W.findIn K (.ref c_NotHeld) "__setattr__" = some (some (.builtin "object.__setattr__")))
    (xga_NotHeld : PySem.W.findIn K (.ref c_NotHeld) "__getattribute__" = some (some (.builtin "BaseException.__getattribute__")))
    (xgg_NotHeld : PySem.W.findIn K (.ref c_NotHeld) "__getattr__" = some none)
    (xno_NotHeld : PySem.W.findIn K (.ref c_NotHeld) "step" = some none)
    (xk_NotHeld : PySem.W.keepIn K (.ref c_NotHeld) = true)
    (xb_NotHeld : PySem.W.subIn K (.ref c_NotHeld) (.type "BaseException") = some true)
    (xt_NotHeld : PySem.W.typeIn K (.ref c_NotHeld) = some (.type "type"))
    (xd_NotHeld : PySem.W.hasDictIn K c_NotHeld = true)
    (xi_NotHeld : PySem.W.findIn K (.ref c_NotHeld) "__init__" = some (some (.ref f_NotHeld)))
    (xf_NotHeld : PySem.W.typeIn K (.ref f_NotHeld) = some (.type "function"))
    (xfl_NotHeld : K.lookup f_NotHeld = some ⟨oc_NotHeld, od_NotHeld, .func (PySem.W.ksFn "__init__" "Refused.__init__" (defArgs S_Refused_init) (defBody S_Refused_init) (defScope S_Refused_init) .none kV_NotHeld dc_NotHeld pm_NotHeld an_NotHeld (.ref cda_NotHeld) ct_NotHeld cc_NotHeld), osl_NotHeld⟩)
    (xci_NotHeld : PySem.W.codeIn K (.ref cda_NotHeld) "Refused.__init__" = true)
    (xcc_NotHeld : K.lookup cc_NotHeld = some ⟨cl_NotHeld, cld_NotHeld, .cell (some (.ref c_Refused)), csl_NotHeld⟩)
    (xcd_NotHeld : K.lookup cda_NotHeld = some ⟨ccl_NotHeld, cdd_NotHeld, .fields vs_NotHeld, ccs_NotHeld⟩)
    (xvs_NotHeld : vs_NotHeld[2]? = some (.str file_NotHeld tf_NotHeld))
    (xfi_NotHeld : ((PP.main.file : Str) == file_NotHeld) = true)
    (xnx_NotHeld : PySem.W.ks_superIn K c_NotHeld c_Refused "__init__" = some (some (.builtin "ValueError.__init__")))
    (xsl_NotHeld : PySem.W.mroIn K c_NotHeld (.ref c_Refused) = some true)
    (xsu_NotHeld : PySem.W.subIn K (.ref c_NotHeld) (.type "ValueError") = some true)
    (xha_NotHeld : PySem.W.findIn K (.ref c_NotHeld) "__class__" = some (some (.builtin "object.__class__")))
    (xhm_NotHeld : PySem.W.mroIn K c_NotHeld (.type "object") = some true)
    (ws_NotHeld_NoThing : PySem.W.subIn K (.ref c_NotHeld) (.ref c_NoThing) = some false)
    : ∃ fd : FuncData, (∀ (s : Shared) (v : Value), BindsTo s fd ⟨[v], []⟩ [("_law_script", v)]) ∧ ∀ base : Heap, K.In base → base.Ns mainGlobals mg → FnOk PP w K mg base CX0 24 fa fd ["_law_script"] (spLaw K) := by
  have e := hfa.symm.trans (PySem.W.mg_of X G a_law)
  cases e
  have XT_BadShape : PySem.WX.ExcTxt PP K mg "BadShape" "mark" c_BadShape := { gC := PySem.W.mg_of X G gc_BadShape, cls := ⟨nm_BadShape, q_BadShape, N_BadShape, bs_BadShape, _, sn_BadShape, sub_BadShape, ab_BadShape, col_BadShape, dd_BadShape, m0_BadShape, m1_BadShape, m2_BadShape, m3_BadShape, m5_BadShape, xl_BadShape, rfl⟩, sa := xsa_BadShape, ga := xga_BadShape, gg := xgg_BadShape, noN := xno_BadShape, kC := xk_BadShape, exC := xb_BadShape, tyC := xt_BadShape, hdC := xd_BadShape, D := c_BadShape, clsD := ⟨_, _, xl_BadShape, rfl⟩, fI := f_BadShape, qual := "BadShape.__init__", tx := _, S := S_BadShape_init, oc := oc_BadShape, od := od_BadShape, kV := kV_BadShape, doc := dc_BadShape, pm := pm_BadShape, an := an_BadShape, cda := cda_BadShape, ct := ct_BadShape, osl := osl_BadShape, cc := cc_BadShape, cl := cl_BadShape, cld := cld_BadShape, csl := csl_BadShape, ccl := ccl_BadShape, cdd := cdd_BadShape, vs := vs_BadShape, ccs := ccs_BadShape, file := file_BadShape, tf := tf_BadShape, q1 := _, q2 := _, q3 := _, q4 := _, q5 := _, q6 := _, q7 := _, q8 := _, q9 := _, q10 := _, j := _, pl := _, iC := xi_BadShape, tI := xf_BadShape, lI := xfl_BadShape, cI := xci_BadShape, lcc := xcc_BadShape, lcd := xcd_BadShape, hvs := xvs_BadShape, hfile := xfi_BadShape, hpar := ⟨_, rfl, rfl⟩, hbody := rfl, hbind := fun _ _ => rfl, hev := fun _ _ => rfl, hk := rfl, hco := rfl, hgen := rfl, hks := rfl, hkc := rfl, hself := rfl, hfl := rfl, hcell := by decide +kernel, nf := by decide +kernel, top := by decide +kernel, sup := PySem.W.mg_none_of X G xz_super, opq := x_opq, nxt := xnx_BadShape, slf := xsl_BadShape, sub := xsu_BadShape }
  have XT_UnknownMark : PySem.WX.ExcTxt PP K mg "UnknownMark" "mark" c_UnknownMark := { gC := PySem.W.mg_of X G gc_UnknownMark, cls := ⟨nm_UnknownMark, q_UnknownMark, N_UnknownMark, bs_UnknownMark, _, sn_UnknownMark, sub_UnknownMark, ab_UnknownMark, col_UnknownMark, dd_UnknownMark, m0_UnknownMark, m1_UnknownMark, m2_UnknownMark, m3_UnknownMark, m5_UnknownMark, xl_UnknownMark, rfl⟩, sa := xsa_UnknownMark, ga := xga_UnknownMark, gg := xgg_UnknownMark, noN := xno_UnknownMark, kC := xk_UnknownMark, exC := xb_UnknownMark, tyC := xt_UnknownMark, hdC := xd_UnknownMark, D := c_UnknownMark, clsD := ⟨_, _, xl_UnknownMark, rfl⟩, fI := f_UnknownMark, qual := "UnknownMark.__init__", tx := _, S := S_UnknownMark_init, oc := oc_UnknownMark, od := od_UnknownMark, kV := kV_UnknownMark, doc := dc_UnknownMark, pm := pm_UnknownMark, an := an_UnknownMark, cda := cda_UnknownMark, ct := ct_UnknownMark, osl := osl_UnknownMark, cc := cc_UnknownMark, cl := cl_UnknownMark, cld := cld_UnknownMark, csl := csl_UnknownMark, ccl := ccl_UnknownMark, cdd := cdd_UnknownMark, vs := vs_UnknownMark, ccs := ccs_UnknownMark, file := file_UnknownMark, tf := tf_UnknownMark, q1 := _, q2 := _, q3 := _, q4 := _, q5 := _, q6 := _, q7 := _, q8 := _, q9 := _, q10 := _, j := _, pl := _, iC := xi_UnknownMark, tI := xf_UnknownMark, lI := xfl_UnknownMark, cI := xci_UnknownMark, lcc := xcc_UnknownMark, lcd := xcd_UnknownMark, hvs := xvs_UnknownMark, hfile := xfi_UnknownMark, hpar := ⟨_, rfl, rfl⟩, hbody := rfl, hbind := fun _ _ => rfl, hev := fun _ _ => rfl, hk := rfl, hco := rfl, hgen := rfl, hks := rfl, hkc := rfl, hself := rfl, hfl := rfl, hcell := by decide +kernel, nf := by decide +kernel, top := by decide +kernel, sup := PySem.W.mg_none_of X G xz_super, opq := x_opq, nxt := xnx_UnknownMark, slf := xsl_UnknownMark, sub := xsu_UnknownMark }
  have XT_TooLarge : PySem.WX.ExcTxt PP K mg "TooLarge" "most" c_TooLarge := { gC := PySem.W.mg_of X G gc_TooLarge, cls := ⟨nm_TooLarge, q_TooLarge, N_TooLarge, bs_TooLarge, _, sn_TooLarge, sub_TooLarge, ab_TooLarge, col_TooLarge, dd_TooLarge, m0_TooLarge, m1_TooLarge, m2_TooLarge, m3_TooLarge, m5_TooLarge, xl_TooLarge, rfl⟩, sa := xsa_TooLarge, ga := xga_TooLarge, gg := xgg_TooLarge, noN := xno_TooLarge, kC := xk_TooLarge, exC := xb_TooLarge, tyC := xt_TooLarge, hdC := xd_TooLarge, D := c_TooLarge, clsD := ⟨_, _, xl_TooLarge, rfl⟩, fI := f_TooLarge, qual := "TooLarge.__init__", tx := _, S := S_TooLarge_init, oc := oc_TooLarge, od := od_TooLarge, kV := kV_TooLarge, doc := dc_TooLarge, pm := pm_TooLarge, an := an_TooLarge, cda := cda_TooLarge, ct := ct_TooLarge, osl := osl_TooLarge, cc := cc_TooLarge, cl := cl_TooLarge, cld := cld_TooLarge, csl := csl_TooLarge, ccl := ccl_TooLarge, cdd := cdd_TooLarge, vs := vs_TooLarge, ccs := ccs_TooLarge, file := file_TooLarge, tf := tf_TooLarge, q1 := _, q2 := _, q3 := _, q4 := _, q5 := _, q6 := _, q7 := _, q8 := _, q9 := _, q10 := _, j := _, pl := _, iC := xi_TooLarge, tI := xf_TooLarge, lI := xfl_TooLarge, cI := xci_TooLarge, lcc := xcc_TooLarge, lcd := xcd_TooLarge, hvs := xvs_TooLarge, hfile := xfi_TooLarge, hpar := ⟨_, rfl, rfl⟩, hbody := rfl, hbind := fun _ _ => rfl, hev := fun _ _ => rfl, hk := rfl, hco := rfl, hgen := rfl, hks := rfl, hkc := rfl, hself := rfl, hfl := rfl, hcell := by decide +kernel, nf := by decide +kernel, top := by decide +kernel, sup := PySem.W.mg_none_of X G xz_super, opq := x_opq, nxt := xnx_TooLarge, slf := xsl_TooLarge, sub := xsu_TooLarge }
  have XT_BadParents : PySem.WX.ExcTxt PP K mg "BadParents" "mark" c_BadParents := { gC := PySem.W.mg_of X G gc_BadParents, cls := ⟨nm_BadParents, q_BadParents, N_BadParents, bs_BadParents, _, sn_BadParents, sub_BadParents, ab_BadParents, col_BadParents, dd_BadParents, m0_BadParents, m1_BadParents, m2_BadParents, m3_BadParents, m5_BadParents, xl_BadParents, rfl⟩, sa := xsa_BadParents, ga := xga_BadParents, gg := xgg_BadParents, noN := xno_BadParents, kC := xk_BadParents, exC := xb_BadParents, tyC := xt_BadParents, hdC := xd_BadParents, D := c_BadParents, clsD := ⟨_, _, xl_BadParents, rfl⟩, fI := f_BadParents, qual := "BadParents.__init__", tx := _, S := S_BadParents_init, oc := oc_BadParents, od := od_BadParents, kV := kV_BadParents, doc := dc_BadParents, pm := pm_BadParents, an := an_BadParents, cda := cda_BadParents, ct := ct_BadParents, osl := osl_BadParents, cc := cc_BadParents, cl := cl_BadParents, cld := cld_BadParents, csl := csl_BadParents, ccl := ccl_BadParents, cdd := cdd_BadParents, vs := vs_BadParents, ccs := ccs_BadParents, file := file_BadParents, tf := tf_BadParents, q1 := _, q2 := _, q3 := _, q4 := _, q5 := _, q6 := _, q7 := _, q8 := _, q9 := _, q10 := _, j := _, pl := _, iC := xi_BadParents, tI := xf_BadParents, lI := xfl_BadParents, cI := xci_BadParents, lcc := xcc_BadParents, lcd := xcd_BadParents, hvs := xvs_BadParents, hfile := xfi_BadParents, hpar := ⟨_, rfl, rfl⟩, hbody := rfl, hbind := fun _ _ => rfl, hev := fun _ _ => rfl, hk := rfl, hco := rfl, hgen := rfl, hks := rfl, hkc := rfl, hself := rfl, hfl := rfl, hcell := by decide +kernel, nf := by decide +kernel, top := by decide +kernel, sup := PySem.W.mg_none_of X G xz_super, opq := x_opq, nxt := xnx_BadParents, slf := xsl_BadParents, sub := xsu_BadParents }
  have XT_NoThing : PySem.WX.ExcTxt PP K mg "NoThing" "thing" c_NoThing := { gC := PySem.W.mg_of X G gc_NoThing, cls := ⟨nm_NoThing, q_NoThing, N_NoThing, bs_NoThing, _, sn_NoThing, sub_NoThing, ab_NoThing, col_NoThing, dd_NoThing, m0_NoThing, m1_NoThing, m2_NoThing, m3_NoThing, m5_NoThing, xl_NoThing, rfl⟩, sa := xsa_NoThing, ga := xga_NoThing, gg := xgg_NoThing, noN := xno_NoThing, kC := xk_NoThing, exC := xb_NoThing, tyC := xt_NoThing, hdC := xd_NoThing, D := c_NoThing, clsD := ⟨_, _, xl_NoThing, rfl⟩, fI := f_NoThing, qual := "NoThing.__init__", tx := _, S := S_NoThing_init, oc := oc_NoThing, od := od_NoThing, kV := kV_NoThing, doc := dc_NoThing, pm := pm_NoThing, an := an_NoThing, cda := cda_NoThing, ct := ct_NoThing, osl := osl_NoThing, cc := cc_NoThing, cl := cl_NoThing, cld := cld_NoThing, csl := csl_NoThing, ccl := ccl_NoThing, cdd := cdd_NoThing, vs := vs_NoThing, ccs := ccs_NoThing, file := file_NoThing, tf := tf_NoThing, q1 := _, q2 := _, q3 := _, q4 := _, q5 := _, q6 := _, q7 := _, q8 := _, q9 := _, q10 := _, j := _, pl := _, iC := xi_NoThing, tI := xf_NoThing, lI := xfl_NoThing, cI := xci_NoThing, lcc := xcc_NoThing, lcd := xcd_NoThing, hvs := xvs_NoThing, hfile := xfi_NoThing, hpar := ⟨_, rfl, rfl⟩, hbody := rfl, hbind := fun _ _ => rfl, hev := fun _ _ => rfl, hk := rfl, hco := rfl, hgen := rfl, hks := rfl, hkc := rfl, hself := rfl, hfl := rfl, hcell := by decide +kernel, nf := by decide +kernel, top := by decide +kernel, sup := PySem.W.mg_none_of X G xz_super, opq := x_opq, nxt := xnx_NoThing, slf := xsl_NoThing, sub := xsu_NoThing }
  have XT_BadStep : PySem.WX.ExcTxt PP K mg "BadStep" "step" c_BadStep := { gC := PySem.W.mg_of X G gc_BadStep, cls := ⟨nm_BadStep, q_BadStep, N_BadStep, bs_BadStep, _, sn_BadStep, sub_BadStep, ab_BadStep, col_BadStep, dd_BadStep, m0_BadStep, m1_BadStep, m2_BadStep, m3_BadStep, m5_BadStep, xl_BadStep, rfl⟩, sa := xsa_BadStep, ga := xga_BadStep, gg := xgg_BadStep, noN := xno_BadStep, kC := xk_BadStep, exC := xb_BadStep, tyC := xt_BadStep, hdC := xd_BadStep, D := c_BadStep, clsD := ⟨_, _, xl_BadStep, rfl⟩, fI := f_BadStep, qual := "BadStep.__init__", tx := _, S := S_BadStep_init, oc := oc_BadStep, od := od_BadStep, kV := kV_BadStep, doc := dc_BadStep, pm := pm_BadStep, an := an_BadStep, cda := cda_BadStep, ct := ct_BadStep, osl := osl_BadStep, cc := cc_BadStep, cl := cl_BadStep, cld := cld_BadStep, csl := csl_BadStep, ccl := ccl_BadStep, cdd := cdd_BadStep, vs := vs_BadStep, ccs := ccs_BadStep, file := file_BadStep, tf := tf_BadStep, q1 := _, q2 := _, q3 := _, q4 := _, q5 := _, q6 := _, q7 := _, q8 := _, q9 := _, q10 := _, j := _, pl := _, iC := xi_BadStep, tI := xf_BadStep, lI := xfl_BadStep, cI := xci_BadStep, lcc := xcc_BadStep, lcd := xcd_BadStep, hvs := xvs_BadStep, hfile := xfi_BadStep, hpar := ⟨_, rfl, rfl⟩, hbody := rfl, hbind := fun _ _ => rfl, hev := fun _ _ => rfl, hk := rfl, hco := rfl, hgen := rfl, hks := rfl, hkc := rfl, hself := rfl, hfl := rfl, hcell := by decide +kernel, nf := by decide +kernel, top := by decide +kernel, sup := PySem.W.mg_none_of X G xz_super, opq := x_opq, nxt := xnx_BadStep, slf := xsl_BadStep, sub := xsu_BadStep }
  have XT_Refused : PySem.WX.ExcTxt PP K mg "Refused" "step" c_Refused := { gC := PySem.W.mg_of X G gc_Refused, cls := ⟨nm_Refused, q_Refused, N_Refused, bs_Refused, _, sn_Refused, sub_Refused, ab_Refused, col_Refused, dd_Refused, m0_Refused, m1_Refused, m2_Refused, m3_Refused, m5_Refused, xl_Refused, rfl⟩, sa := xsa_Refused, ga := xga_Refused, gg := xgg_Refused, noN := xno_Refused, kC := xk_Refused, exC := xb_Refused, tyC := xt_Refused, hdC := xd_Refused, D := c_Refused, clsD := ⟨_, _, xl_Refused, rfl⟩, fI := f_Refused, qual := "Refused.__init__", tx := _, S := S_Refused_init, oc := oc_Refused, od := od_Refused, kV := kV_Refused, doc := dc_Refused, pm := pm_Refused, an := an_Refused, cda := cda_Refused, ct := ct_Refused, osl := osl_Refused, cc := cc_Refused, cl := cl_Refused, cld := cld_Refused, csl := csl_Refused, ccl := ccl_Refused, cdd := cdd_Refused, vs := vs_Refused, ccs := ccs_Refused, file := file_Refused, tf := tf_Refused, q1 := _, q2 := _, q3 := _, q4 := _, q5 := _, q6 := _, q7 := _, q8 := _, q9 := _, q10 := _, j := _, pl := _, iC := xi_Refused, tI := xf_Refused, lI := xfl_Refused, cI := xci_Refused, lcc := xcc_Refused, lcd := xcd_Refused, hvs := xvs_Refused, hfile := xfi_Refused, hpar := ⟨_, rfl, rfl⟩, hbody := rfl, hbind := fun _ _ => rfl, hev := fun _ _ => rfl, hk := rfl, hco := rfl, hgen := rfl, hks := rfl, hkc := rfl, hself := rfl, hfl := rfl, hcell := by decide +kernel, nf := by decide +kernel, top := by decide +kernel, sup := PySem.W.mg_none_of X G xz_super, opq := x_opq, nxt := xnx_Refused, slf := xsl_Refused, sub := xsu_Refused }
  have XT_LockedBefore : PySem.WX.ExcTxt PP K mg "LockedBefore" "step" c_LockedBefore := { gC := PySem.W.mg_of X G gc_LockedBefore, cls := ⟨nm_LockedBefore, q_LockedBefore, N_LockedBefore, bs_LockedBefore, _, sn_LockedBefore, sub_LockedBefore, ab_LockedBefore, col_LockedBefore, dd_LockedBefore, m0_LockedBefore, m1_LockedBefore, m2_LockedBefore, m3_LockedBefore, m5_LockedBefore, xl_LockedBefore, rfl⟩, sa := xsa_LockedBefore, ga := xga_LockedBefore, gg := xgg_LockedBefore, noN := xno_LockedBefore, kC := xk_LockedBefore, exC := xb_LockedBefore, tyC := xt_LockedBefore, hdC := xd_LockedBefore, D := c_Refused, clsD := ⟨_, _, xl_Refused, rfl⟩, fI := f_LockedBefore, qual := "Refused.__init__", tx := _, S := S_Refused_init, oc := oc_LockedBefore, od := od_LockedBefore, kV := kV_LockedBefore, doc := dc_LockedBefore, pm := pm_LockedBefore, an := an_LockedBefore, cda := cda_LockedBefore, ct := ct_LockedBefore, osl := osl_LockedBefore, cc := cc_LockedBefore, cl := cl_LockedBefore, cld := cld_LockedBefore, csl := csl_LockedBefore, ccl := ccl_LockedBefore, cdd := cdd_LockedBefore, vs := vs_LockedBefore, ccs := ccs_LockedBefore, file := file_LockedBefore, tf := tf_LockedBefore, q1 := _, q2 := _, q3 := _, q4 := _, q5 := _, q6 := _, q7 := _, q8 := _, q9 := _, q10 := _, j := _, pl := _, iC := xi_LockedBefore, tI := xf_LockedBefore, lI := xfl_LockedBefore, cI := xci_LockedBefore, lcc := xcc_LockedBefore, lcd := xcd_LockedBefore, hvs := xvs_LockedBefore, hfile := xfi_LockedBefore, hpar := ⟨_, rfl, rfl⟩, hbody := rfl, hbind := fun _ _ => rfl, hev := fun _ _ => rfl, hk := rfl, hco := rfl, hgen := rfl, hks := rfl, hkc := rfl, hself := rfl, hfl := rfl, hcell := by decide +kernel, nf := by decide +kernel, top := by decide +kernel, sup := PySem.W.mg_none_of X G xz_super, opq := x_opq, nxt := xnx_LockedBefore, slf := xsl_LockedBefore, sub := xsu_LockedBefore }
  have XT_WrongMode : PySem.WX.ExcTxt PP K mg "WrongMode" "step" c_WrongMode := { gC := PySem.W.mg_of X G gc_WrongMode, cls := ⟨nm_WrongMode, q_WrongMode, N_WrongMode, bs_WrongMode, _, sn_WrongMode, sub_WrongMode, ab_WrongMode, col_WrongMode, dd_WrongMode, m0_WrongMode, m1_WrongMode, m2_WrongMode, m3_WrongMode, m5_WrongMode, xl_WrongMode, rfl⟩, sa := xsa_WrongMode, ga := xga_WrongMode, gg := xgg_WrongMode, noN := xno_WrongMode, kC := xk_WrongMode, exC := xb_WrongMode, tyC := xt_WrongMode, hdC := xd_WrongMode, D := c_Refused, clsD := ⟨_, _, xl_Refused, rfl⟩, fI := f_WrongMode, qual := "Refused.__init__", tx := _, S := S_Refused_init, oc := oc_WrongMode, od := od_WrongMode, kV := kV_WrongMode, doc := dc_WrongMode, pm := pm_WrongMode, an := an_WrongMode, cda := cda_WrongMode, ct := ct_WrongMode, osl := osl_WrongMode, cc := cc_WrongMode, cl := cl_WrongMode, cld := cld_WrongMode, csl := csl_WrongMode, ccl := ccl_WrongMode, cdd := cdd_WrongMode, vs := vs_WrongMode, ccs := ccs_WrongMode, file := file_WrongMode, tf := tf_WrongMode, q1 := _, q2 := _, q3 := _, q4 := _, q5 := _, q6 := _, q7 := _, q8 := _, q9 := _, q10 := _, j := _, pl := _, iC := xi_WrongMode, tI := xf_WrongMode, lI := xfl_WrongMode, cI := xci_WrongMode, lcc := xcc_WrongMode, lcd := xcd_WrongMode, hvs := xvs_WrongMode, hfile := xfi_WrongMode, hpar := ⟨_, rfl, rfl⟩, hbody := rfl, hbind := fun _ _ => rfl, hev := fun _ _ => rfl, hk := rfl, hco := rfl, hgen := rfl, hks := rfl, hkc := rfl, hself := rfl, hfl := rfl, hcell := by decide +kernel, nf := by decide +kernel, top := by decide +kernel, sup := PySem.W.mg_none_of X G xz_super, opq := x_opq, nxt := xnx_WrongMode, slf := xsl_WrongMode, sub := xsu_WrongMode }
  have XT_NotHeld : PySem.WX.ExcTxt PP K mg "NotHeld" "step" c_NotHeld := { gC := PySem.W.mg_of X G gc_NotHeld, cls := ⟨nm_NotHeld, q_NotHeld, N_NotHeld, bs_NotHeld, _, sn_NotHeld, sub_NotHeld, ab_NotHeld, col_NotHeld, dd_NotHeld, m0_NotHeld, m1_NotHeld, m2_NotHeld, m3_NotHeld, m5_NotHeld, xl_NotHeld, rfl⟩, sa := xsa_NotHeld, ga := xga_NotHeld, gg := xgg_NotHeld, noN := xno_NotHeld, kC := xk_NotHeld, exC := xb_NotHeld, tyC := xt_NotHeld, hdC := xd_NotHeld, D := c_Refused, clsD := ⟨_, _, xl_Refused, rfl⟩, fI := f_NotHeld, qual := "Refused.__init__", tx := _, S := S_Refused_init, oc := oc_NotHeld, od := od_NotHeld, kV := kV_NotHeld, doc := dc_NotHeld, pm := pm_NotHeld, an := an_NotHeld, cda := cda_NotHeld, ct := ct_NotHeld, osl := osl_NotHeld, cc := cc_NotHeld, cl := cl_NotHeld, cld := cld_NotHeld, csl := csl_NotHeld, ccl := ccl_NotHeld, cdd := cdd_NotHeld, vs := vs_NotHeld, ccs := ccs_NotHeld, file := file_NotHeld, tf := tf_NotHeld, q1 := _, q2 := _, q3 := _, q4 := _, q5 := _, q6 := _, q7 := _, q8 := _, q9 := _, q10 := _, j := _, pl := _, iC := xi_NotHeld, tI := xf_NotHeld, lI := xfl_NotHeld, cI := xci_NotHeld, lcc := xcc_NotHeld, lcd := xcd_NotHeld, hvs := xvs_NotHeld, hfile := xfi_NotHeld, hpar := ⟨_, rfl, rfl⟩, hbody := rfl, hbind := fun _ _ => rfl, hev := fun _ _ => rfl, hk := rfl, hco := rfl, hgen := rfl, hks := rfl, hkc := rfl, hself := rfl, hfl := rfl, hcell := by decide +kernel, nf := by decide +kernel, top := by decide +kernel, sup := PySem.W.mg_none_of X G xz_super, opq := x_opq, nxt := xnx_NotHeld, slf := xsl_NotHeld, sub := xsu_NotHeld }
  let T : Txt K mg := {
    a_Standing_init := f_Standing_init,
    fd_Standing_init := _,
    F_Standing_init := fun_mk (st := S_Standing_init) l_Standing_init c_Standing_init k_Standing_init,
    b_Standing_init := (fun_mk (st := S_Standing_init) l_Standing_init c_Standing_init k_Standing_init).binds (ps := ["self", "web"]) fun _ _ _ _ _ _ us hl => match us, hl with | [_, _], _ => rfl,
    a_Standing_check := f_Standing_check,
    fd_Standing_check := _,
    F_Standing_check := fun_mk (st := S_Standing_check) l_Standing_check c_Standing_check k_Standing_check,
    b_Standing_check := (fun_mk (st := S_Standing_check) l_Standing_check c_Standing_check k_Standing_check).binds (ps := ["self", "step"]) fun _ _ _ _ _ _ us hl => match us, hl with | [_, _], _ => rfl,
    a_Standing_take := f_Standing_take,
    fd_Standing_take := _,
    F_Standing_take := fun_mk (st := S_Standing_take) l_Standing_take c_Standing_take k_Standing_take,
    b_Standing_take := (fun_mk (st := S_Standing_take) l_Standing_take c_Standing_take k_Standing_take).binds (ps := ["self", "step"]) fun _ _ _ _ _ _ us hl => match us, hl with | [_, _], _ => rfl,
    a_Standing_held_mode := f_Standing_held_mode,
    fd_Standing_held_mode := _,
    F_Standing_held_mode := fun_mk (st := S_Standing_held_mode) l_Standing_held_mode c_Standing_held_mode k_Standing_held_mode,
    b_Standing_held_mode := (fun_mk (st := S_Standing_held_mode) l_Standing_held_mode c_Standing_held_mode k_Standing_held_mode).binds (ps := ["self", "thing"]) fun _ _ _ _ _ _ us hl => match us, hl with | [_, _], _ => rfl,
    a_Standing_copy := f_Standing_copy,
    fd_Standing_copy := _,
    F_Standing_copy := fun_mk (st := S_Standing_copy) l_Standing_copy c_Standing_copy k_Standing_copy,
    b_Standing_copy := (fun_mk (st := S_Standing_copy) l_Standing_copy c_Standing_copy k_Standing_copy).binds (ps := ["self"]) fun _ _ _ _ _ _ us hl => match us, hl with | [_], _ => rfl,
    a_distances := f_distances,
    fd_distances := _,
    F_distances := fun_mk (st := S_distances) l_distances c_distances k_distances,
    b_distances := (fun_mk (st := S_distances) l_distances c_distances k_distances).binds (ps := ["goal", "nodes", "edges"]) fun _ _ _ _ _ _ us hl => match us, hl with | [_, _, _], _ => rfl,
    g_distances := PySem.W.mg_of X G a_distances,
    a_ring_from := f_ring_from,
    fd_ring_from := _,
    F_ring_from := fun_mk (st := S_ring_from) l_ring_from c_ring_from k_ring_from,
    b_ring_from := (fun_mk (st := S_ring_from) l_ring_from c_ring_from k_ring_from).binds (ps := ["first", "nodes", "edges"]) fun _ _ _ _ _ _ us hl => match us, hl with | [_, _, _], _ => rfl,
    g_ring_from := PySem.W.mg_of X G a_ring_from,
    a_shortest_ring := f_shortest_ring,
    fd_shortest_ring := _,
    F_shortest_ring := fun_mk (st := S_shortest_ring) l_shortest_ring c_shortest_ring k_shortest_ring,
    b_shortest_ring := (fun_mk (st := S_shortest_ring) l_shortest_ring c_shortest_ring k_shortest_ring).binds (ps := ["nodes", "edges"]) fun _ _ _ _ _ _ us hl => match us, hl with | [_, _], _ => rfl,
    g_shortest_ring := PySem.W.mg_of X G a_shortest_ring,
    a_Weaving_init := f_Weaving_init,
    fd_Weaving_init := _,
    F_Weaving_init := fun_mk (st := S_Weaving_init) l_Weaving_init c_Weaving_init k_Weaving_init,
    b_Weaving_init := (fun_mk (st := S_Weaving_init) l_Weaving_init c_Weaving_init k_Weaving_init).binds (ps := ["self", "web"]) fun _ _ _ _ _ _ us hl => match us, hl with | [_, _], _ => rfl,
    a_Weaving_add := f_Weaving_add,
    fd_Weaving_add := _,
    F_Weaving_add := fun_mk (st := S_Weaving_add) l_Weaving_add c_Weaving_add k_Weaving_add,
    b_Weaving_add := (fun_mk (st := S_Weaving_add) l_Weaving_add c_Weaving_add k_Weaving_add).binds (ps := ["self", "name", "step"]) fun _ _ _ _ _ _ us hl => match us, hl with | [_, _, _], _ => rfl,
    a_Weaving_iter := f_Weaving_iter,
    fd_Weaving_iter := _,
    F_Weaving_iter := fun_mk (st := S_Weaving_iter) l_Weaving_iter c_Weaving_iter k_Weaving_iter,
    b_Weaving_iter := (fun_mk (st := S_Weaving_iter) l_Weaving_iter c_Weaving_iter k_Weaving_iter).binds (ps := ["self"]) fun _ _ _ _ _ _ us hl => match us, hl with | [_], _ => rfl,
    a_Weaving_len := f_Weaving_len,
    fd_Weaving_len := _,
    F_Weaving_len := fun_mk (st := S_Weaving_len) l_Weaving_len c_Weaving_len k_Weaving_len,
    b_Weaving_len := (fun_mk (st := S_Weaving_len) l_Weaving_len c_Weaving_len k_Weaving_len).binds (ps := ["self"]) fun _ _ _ _ _ _ us hl => match us, hl with | [_], _ => rfl,
    a_Weavingascending := f_Weavingascending,
    fd_Weavingascending := _,
    F_Weavingascending := fun_mk (st := S_Weavingascending) l_Weavingascending c_Weavingascending k_Weavingascending,
    b_Weavingascending := (fun_mk (st := S_Weavingascending) l_Weavingascending c_Weavingascending k_Weavingascending).binds (ps := ["self"]) fun _ _ _ _ _ _ us hl => match us, hl with | [_], _ => rfl,
    a_Weaving_standing_of := f_Weaving_standing_of,
    fd_Weaving_standing_of := _,
    F_Weaving_standing_of := fun_mk (st := S_Weaving_standing_of) l_Weaving_standing_of c_Weaving_standing_of k_Weaving_standing_of,
    b_Weaving_standing_of := (fun_mk (st := S_Weaving_standing_of) l_Weaving_standing_of c_Weaving_standing_of k_Weaving_standing_of).binds (ps := ["self", "name"]) fun _ _ _ _ _ _ us hl => match us, hl with | [_, _], _ => rfl,
    a_Weaving_holders := f_Weaving_holders,
    fd_Weaving_holders := _,
    F_Weaving_holders := fun_mk (st := S_Weaving_holders) l_Weaving_holders c_Weaving_holders k_Weaving_holders,
    b_Weaving_holders := (fun_mk (st := S_Weaving_holders) l_Weaving_holders c_Weaving_holders k_Weaving_holders).binds (ps := ["self", "thing"]) fun _ _ _ _ _ _ us hl => match us, hl with | [_, _], _ => rfl,
    a_suitable := f_suitable,
    fd_suitable := _,
    F_suitable := fun_mk (st := S_suitable) l_suitable c_suitable k_suitable,
    b_suitable := (fun_mk (st := S_suitable) l_suitable c_suitable k_suitable).binds (ps := ["web", "row", "parents"]) fun _ _ _ _ _ _ us hl => match us, hl with | [_, _, _], _ => rfl,
    g_suitable := PySem.W.mg_of X G a_suitable,
    a_Web_init := f_Web_init,
    fd_Web_init := _,
    F_Web_init := fun_mk (st := S_Web_init) l_Web_init c_Web_init k_Web_init,
    b_Web_init := (fun_mk (st := S_Web_init) l_Web_init c_Web_init k_Web_init).binds (ps := ["self", "shape"]) fun _ _ _ _ _ _ us hl => match us, hl with | [_, _], _ => rfl,
    a_Web_put := f_Web_put,
    fd_Web_put := _,
    F_Web_put := fun_mk (st := S_Web_put) l_Web_put c_Web_put k_Web_put,
    bs_Web_put := StX.bind_star2 (B := fun us => bindArgs (PySem.W.fnOf "put" "Web.put" (defArgs S_Web_put) (defBody S_Web_put) (defScope S_Web_put) .none kV_Web_put dc_Web_put pm_Web_put an_Web_put cd_Web_put ct_Web_put) ⟨us, []⟩) (fun a b => rfl) (fun a b r rs => rfl),
    a_Web_getitem := f_Web_getitem,
    fd_Web_getitem := _,
    F_Web_getitem := fun_mk (st := S_Web_getitem) l_Web_getitem c_Web_getitem k_Web_getitem,
    b_Web_getitem := (fun_mk (st := S_Web_getitem) l_Web_getitem c_Web_getitem k_Web_getitem).binds (ps := ["self", "thing"]) fun _ _ _ _ _ _ us hl => match us, hl with | [_, _], _ => rfl,
    a_Web_contains := f_Web_contains,
    fd_Web_contains := _,
    F_Web_contains := fun_mk (st := S_Web_contains) l_Web_contains c_Web_contains k_Web_contains,
    b_Web_contains := (fun_mk (st := S_Web_contains) l_Web_contains c_Web_contains k_Web_contains).binds (ps := ["self", "thing"]) fun _ _ _ _ _ _ us hl => match us, hl with | [_, _], _ => rfl,
    a_Web_mark_of := f_Web_mark_of,
    fd_Web_mark_of := _,
    F_Web_mark_of := fun_mk (st := S_Web_mark_of) l_Web_mark_of c_Web_mark_of k_Web_mark_of,
    b_Web_mark_of := (fun_mk (st := S_Web_mark_of) l_Web_mark_of c_Web_mark_of k_Web_mark_of).binds (ps := ["self", "thing"]) fun _ _ _ _ _ _ us hl => match us, hl with | [_, _], _ => rfl,
    a_waits := f_waits,
    fd_waits := _,
    F_waits := fun_mk (st := S_waits) l_waits c_waits k_waits,
    b_waits := (fun_mk (st := S_waits) l_waits c_waits k_waits).binds (ps := ["weaving", "wants"]) fun _ _ _ _ _ _ us hl => match us, hl with | [_, _], _ => rfl,
    g_waits := PySem.W.mg_of X G a_waits,
    a_is_mark := f_is_mark,
    fd_is_mark := _,
    F_is_mark := fun_mk (st := S_is_mark) l_is_mark c_is_mark k_is_mark,
    b_is_mark := (fun_mk (st := S_is_mark) l_is_mark c_is_mark k_is_mark).binds (ps := ["text"]) fun _ _ _ _ _ _ us hl => match us, hl with | [_], _ => rfl,
    g_is_mark := PySem.W.mg_of X G a_is_mark,
    a_sound_row := f_sound_row,
    fd_sound_row := _,
    F_sound_row := fun_mk (st := S_sound_row) l_sound_row c_sound_row k_sound_row,
    b_sound_row := (fun_mk (st := S_sound_row) l_sound_row c_sound_row k_sound_row).binds (ps := ["row", "before"]) fun _ _ _ _ _ _ us hl => match us, hl with | [_, _], _ => rfl,
    g_sound_row := PySem.W.mg_of X G a_sound_row,
    a_barren := f_barren,
    fd_barren := _,
    F_barren := fun_mk (st := S_barren) l_barren c_barren k_barren,
    b_barren := (fun_mk (st := S_barren) l_barren c_barren k_barren).binds (ps := ["rows"]) fun _ _ _ _ _ _ us hl => match us, hl with | [_], _ => rfl,
    g_barren := PySem.W.mg_of X G a_barren,
    a_Shape_init := f_Shape_init,
    fd_Shape_init := _,
    F_Shape_init := fun_mk (st := S_Shape_init) l_Shape_init c_Shape_init k_Shape_init,
    bs_Shape_init := StX.bind_star1 (B := fun us => bindArgs (PySem.W.fnOf "__init__" "Shape.__init__" (defArgs S_Shape_init) (defBody S_Shape_init) (defScope S_Shape_init) .none kV_Shape_init dc_Shape_init pm_Shape_init an_Shape_init cd_Shape_init ct_Shape_init) ⟨us, []⟩) (fun a => rfl) (fun a r rs => rfl),
    a_Shape_getitem := f_Shape_getitem,
    fd_Shape_getitem := _,
    F_Shape_getitem := fun_mk (st := S_Shape_getitem) l_Shape_getitem c_Shape_getitem k_Shape_getitem,
    b_Shape_getitem := (fun_mk (st := S_Shape_getitem) l_Shape_getitem c_Shape_getitem k_Shape_getitem).binds (ps := ["self", "mark"]) fun _ _ _ _ _ _ us hl => match us, hl with | [_, _], _ => rfl,
    a_Shape_modes_of := f_Shape_modes_of,
    fd_Shape_modes_of := _,
    F_Shape_modes_of := fun_mk (st := S_Shape_modes_of) l_Shape_modes_of c_Shape_modes_of k_Shape_modes_of,
    b_Shape_modes_of := (fun_mk (st := S_Shape_modes_of) l_Shape_modes_of c_Shape_modes_of k_Shape_modes_of).binds (ps := ["self", "mark"]) fun _ _ _ _ _ _ us hl => match us, hl with | [_, _], _ => rfl,
    a__law_draws := f__law_draws,
    fd__law_draws := _,
    F__law_draws := fun_mk (st := S__law_draws) l__law_draws c__law_draws k__law_draws,
    b__law_draws := (fun_mk (st := S__law_draws) l__law_draws c__law_draws k__law_draws).binds (ps := ["_law_script"]) fun _ _ _ _ _ _ us hl => match us, hl with | [_], _ => rfl,
    g__law_draws := PySem.W.mg_of X G a__law_draws,
    a__law_take := f__law_take,
    fd__law_take := _,
    F__law_take := fun_mk (st := S__law_take) l__law_take c__law_take k__law_take,
    b__law_take := (fun_mk (st := S__law_take) l__law_take c__law_take k__law_take).binds (ps := ["_law_draws_here", "_law_at", "_law_size"]) fun _ _ _ _ _ _ us hl => match us, hl with | [_, _, _], _ => rfl,
    g__law_take := PySem.W.mg_of X G a__law_take,
    a__law_same := f__law_same,
    fd__law_same := _,
    F__law_same := fun_mk (st := S__law_same) l__law_same c__law_same k__law_same,
    b__law_same := (fun_mk (st := S__law_same) l__law_same c__law_same k__law_same).binds (ps := ["_law_actual", "_law_expected"]) fun _ _ _ _ _ _ us hl => match us, hl with | [_, _], _ => rfl,
    g__law_same := PySem.W.mg_of X G a__law_same,
    a__law_marks := f__law_marks,
    fd__law_marks := _,
    F__law_marks := fun_mk (st := S__law_marks) l__law_marks c__law_marks k__law_marks,
    b__law_marks := (fun_mk (st := S__law_marks) l__law_marks c__law_marks k__law_marks).binds (ps := ["_law_draws_here", "_law_at", "_law_count"]) fun _ _ _ _ _ _ us hl => match us, hl with | [_, _, _], _ => rfl,
    g__law_marks := PySem.W.mg_of X G a__law_marks,
    a__law_rows := f__law_rows,
    fd__law_rows := _,
    F__law_rows := fun_mk (st := S__law_rows) l__law_rows c__law_rows k__law_rows,
    b__law_rows := (fun_mk (st := S__law_rows) l__law_rows c__law_rows k__law_rows).binds (ps := ["_law_draws_here", "_law_at", "_law_exclusive"]) fun _ _ _ _ _ _ us hl => match us, hl with | [_, _, _], _ => rfl,
    g__law_rows := PySem.W.mg_of X G a__law_rows,
    a__law_things := f__law_things,
    fd__law_things := _,
    F__law_things := fun_mk (st := S__law_things) l__law_things c__law_things k__law_things,
    b__law_things := (fun_mk (st := S__law_things) l__law_things c__law_things k__law_things).binds (ps := ["_law_draws_here", "_law_at", "_law_rows_here", "_law_count"]) fun _ _ _ _ _ _ us hl => match us, hl with | [_, _, _, _], _ => rfl,
    g__law_things := PySem.W.mg_of X G a__law_things,
    a__law_do := f__law_do,
    fd__law_do := _,
    F__law_do := fun_mk (st := S__law_do) l__law_do c__law_do k__law_do,
    b__law_do := (fun_mk (st := S__law_do) l__law_do c__law_do k__law_do).binds (ps := ["_law_state", "_law_step"]) fun _ _ _ _ _ _ us hl => match us, hl with | [_, _], _ => rfl,
    g__law_do := PySem.W.mg_of X G a__law_do,
    a__law_shared := f__law_shared,
    fd__law_shared := _,
    F__law_shared := fun_mk (st := S__law_shared) l__law_shared c__law_shared k__law_shared,
    b__law_shared := (fun_mk (st := S__law_shared) l__law_shared c__law_shared k__law_shared).binds (ps := ["_law_rows_here", "_law_mark"]) fun _ _ _ _ _ _ us hl => match us, hl with | [_, _], _ => rfl,
    g__law_shared := PySem.W.mg_of X G a__law_shared,
    a__law_free := f__law_free,
    fd__law_free := _,
    F__law_free := fun_mk (st := S__law_free) l__law_free c__law_free k__law_free,
    b__law_free := (fun_mk (st := S__law_free) l__law_free c__law_free k__law_free).binds (ps := ["_law_states", "_law_name", "_law_step"]) fun _ _ _ _ _ _ us hl => match us, hl with | [_, _, _], _ => rfl,
    g__law_free := PySem.W.mg_of X G a__law_free,
    a__law_shape := f__law_shape,
    fd__law_shape := _,
    F__law_shape := fun_mk (st := S__law_shape) l__law_shape c__law_shape k__law_shape,
    b__law_shape := (fun_mk (st := S__law_shape) l__law_shape c__law_shape k__law_shape).binds (ps := ["_law_rows_here"]) fun _ _ _ _ _ _ us hl => match us, hl with | [_], _ => rfl,
    g__law_shape := PySem.W.mg_of X G a__law_shape,
    a__law_put := f__law_put,
    fd__law_put := _,
    F__law_put := fun_mk (st := S__law_put) l__law_put c__law_put k__law_put,
    b__law_put := (fun_mk (st := S__law_put) l__law_put c__law_put k__law_put).binds (ps := ["_law_web_here", "_law_mark", "_law_parents"]) fun _ _ _ _ _ _ us hl => match us, hl with | [_, _, _], _ => rfl,
    g__law_put := PySem.W.mg_of X G a__law_put,
    a__law_web := f__law_web,
    fd__law_web := _,
    F__law_web := fun_mk (st := S__law_web) l__law_web c__law_web k__law_web,
    b__law_web := (fun_mk (st := S__law_web) l__law_web c__law_web k__law_web).binds (ps := ["_law_shape_here", "_law_things_here"]) fun _ _ _ _ _ _ us hl => match us, hl with | [_, _], _ => rfl,
    g__law_web := PySem.W.mg_of X G a__law_web,
    a__law_ring := f__law_ring,
    fd__law_ring := _,
    F__law_ring := fun_mk (st := S__law_ring) l__law_ring c__law_ring k__law_ring,
    b__law_ring := (fun_mk (st := S__law_ring) l__law_ring c__law_ring k__law_ring).binds (ps := ["_law_nodes", "_law_edges"]) fun _ _ _ _ _ _ us hl => match us, hl with | [_, _], _ => rfl,
    g__law_ring := PySem.W.mg_of X G a__law_ring,
    a__law_names := f__law_names,
    fd__law_names := _,
    F__law_names := fun_mk (st := S__law_names) l__law_names c__law_names k__law_names,
    b__law_names := (fun_mk (st := S__law_names) l__law_names c__law_names k__law_names).binds (ps := ["_law_draws_here", "_law_at"]) fun _ _ _ _ _ _ us hl => match us, hl with | [_, _], _ => rfl,
    g__law_names := PySem.W.mg_of X G a__law_names,
    a__law_choices := f__law_choices,
    fd__law_choices := _,
    F__law_choices := fun_mk (st := S__law_choices) l__law_choices c__law_choices k__law_choices,
    b__law_choices := (fun_mk (st := S__law_choices) l__law_choices c__law_choices k__law_choices).binds (ps := ["_law_rows_here", "_law_things_here", "_law_states", "_law_plain"]) fun _ _ _ _ _ _ us hl => match us, hl with | [_, _, _, _], _ => rfl,
    g__law_choices := PySem.W.mg_of X G a__law_choices,
    a__law_begun := f__law_begun,
    fd__law_begun := _,
    F__law_begun := fun_mk (st := S__law_begun) l__law_begun c__law_begun k__law_begun,
    b__law_begun := (fun_mk (st := S__law_begun) l__law_begun c__law_begun k__law_begun).binds (ps := ["_law_draws_here", "_law_at", "_law_rows_here", "_law_things_here", "_law_states"]) fun _ _ _ _ _ _ us hl => match us, hl with | [_, _, _, _, _], _ => rfl,
    g__law_begun := PySem.W.mg_of X G a__law_begun,
    a__law_wants := f__law_wants,
    fd__law_wants := _,
    F__law_wants := fun_mk (st := S__law_wants) l__law_wants c__law_wants k__law_wants,
    b__law_wants := (fun_mk (st := S__law_wants) l__law_wants c__law_wants k__law_wants).binds (ps := ["_law_draws_here", "_law_at", "_law_rows_here", "_law_things_here", "_law_names_here"]) fun _ _ _ _ _ _ us hl => match us, hl with | [_, _, _, _, _], _ => rfl,
    g__law_wants := PySem.W.mg_of X G a__law_wants,
    a__law_due := f__law_due,
    fd__law_due := _,
    F__law_due := fun_mk (st := S__law_due) l__law_due c__law_due k__law_due,
    b__law_due := (fun_mk (st := S__law_due) l__law_due c__law_due k__law_due).binds (ps := ["_law_states", "_law_names_here", "_law_wants_here"]) fun _ _ _ _ _ _ us hl => match us, hl with | [_, _, _], _ => rfl,
    g__law_due := PySem.W.mg_of X G a__law_due,
    a__law_asked := f__law_asked,
    fd__law_asked := _,
    F__law_asked := fun_mk (st := S__law_asked) l__law_asked c__law_asked k__law_asked,
    b__law_asked := (fun_mk (st := S__law_asked) l__law_asked c__law_asked k__law_asked).binds (ps := ["_law_weaving", "_law_states", "_law_names_here", "_law_wants_here"]) fun _ _ _ _ _ _ us hl => match us, hl with | [_, _, _, _], _ => rfl,
    g__law_asked := PySem.W.mg_of X G a__law_asked,
    a_law := fa,
    fd_law := _,
    F_law := fun_mk (st := S_law) l_law c_law k_law,
    b_law := (fun_mk (st := S_law) l_law c_law k_law).binds (ps := ["_law_script"]) fun _ _ _ _ _ _ us hl => match us, hl with | [_], _ => rfl,
    g_law := PySem.W.mg_of X G a_law,
    n_any := PySem.W.mg_none_of X G z_any,
    n_bool := PySem.W.mg_none_of X G z_bool,
    n_enumerate := PySem.W.mg_none_of X G z_enumerate,
    n_int := PySem.W.mg_none_of X G z_int,
    n_isinstance := PySem.W.mg_none_of X G z_isinstance,
    n_iter := PySem.W.mg_none_of X G z_iter,
    n_len := PySem.W.mg_none_of X G z_len,
    n_list := PySem.W.mg_none_of X G z_list,
    n_min := PySem.W.mg_none_of X G z_min,
    n_range := PySem.W.mg_none_of X G z_range,
    n_sorted := PySem.W.mg_none_of X G z_sorted,
    n_str := PySem.W.mg_none_of X G z_str,
    n_tuple := PySem.W.mg_none_of X G z_tuple,
    k_DEEDS := q_DEEDS,
    g_DEEDS := PySem.W.mg_of X G aq_DEEDS,
    q_DEEDS := fun H => .inr ⟨_, _, _, lq_DEEDS, rfl, rfl, by show 3 ≤ sizeLine; decide, (.cons ⟨_, rfl⟩ (.cons ⟨_, rfl⟩ (.cons ⟨_, rfl⟩ .nil)))⟩,
    tk_DIGITS := tq_DIGITS,
    g_DIGITS := PySem.W.mg_of X G aq_DIGITS,
    tk_LETTERS := tq_LETTERS,
    g_LETTERS := PySem.W.mg_of X G aq_LETTERS,
    k_MODES := q_MODES,
    g_MODES := PySem.W.mg_of X G aq_MODES,
    q_MODES := fun H => .inr ⟨_, _, _, lq_MODES, rfl, rfl, by show 2 ≤ sizeLine; decide, (.cons ⟨_, rfl⟩ (.cons ⟨_, rfl⟩ .nil))⟩,
    c_Standing := c_Standing,
    g_Standing := PySem.W.mg_of X G gc_Standing,
    cl_Standing := ⟨pg_Standing, hd_Standing, po_Standing, sa_Standing⟩,
    mk_Standing := ⟨mk_Standing, a_Standing_init, i_Standing_init, kc_Standing⟩,
    m_Standing_check := ⟨a_Standing_check, i_Standing_check, k_Standing_check⟩,
    m_Standing_take := ⟨a_Standing_take, i_Standing_take, k_Standing_take⟩,
    m_Standing_held_mode := ⟨a_Standing_held_mode, i_Standing_held_mode, k_Standing_held_mode⟩,
    m_Standing_copy := ⟨a_Standing_copy, i_Standing_copy, k_Standing_copy⟩,
    ti_Standing := fun _ _ _ _ h => .ins h ⟨pg_Standing, hd_Standing, po_Standing, sa_Standing⟩ hca_Standing hcn_Standing hct_Standing hcm_Standing,
    kk_Standing := if_pos (beq_self_eq_true _),
    no_Standing_web := no_Standing_web,
    no_Standing__modes := no_Standing__modes,
    no_Standing__holds := no_Standing__holds,
    no_Standing__loose := no_Standing__loose,
    c_Weaving := c_Weaving,
    g_Weaving := PySem.W.mg_of X G gc_Weaving,
    cl_Weaving := ⟨pg_Weaving, hd_Weaving, po_Weaving, sa_Weaving⟩,
    mk_Weaving := ⟨mk_Weaving, a_Weaving_init, i_Weaving_init, kc_Weaving⟩,
    m_Weaving_add := ⟨a_Weaving_add, i_Weaving_add, k_Weaving_add⟩,
    m_Weaving_iter := ⟨a_Weaving_iter, i_Weaving_iter, k_Weaving_iter⟩,
    m_Weaving_len := ⟨a_Weaving_len, i_Weaving_len, k_Weaving_len⟩,
    m_Weavingascending := ⟨a_Weavingascending, i_Weavingascending, k_Weavingascending⟩,
    m_Weaving_standing_of := ⟨a_Weaving_standing_of, i_Weaving_standing_of, k_Weaving_standing_of⟩,
    m_Weaving_holders := ⟨a_Weaving_holders, i_Weaving_holders, k_Weaving_holders⟩,
    no_Weaving_web := no_Weaving_web,
    no_Weaving__events := no_Weaving__events,
    no_Weaving__standings := no_Weaving__standings,
    no_Weaving__lockers := no_Weaving__lockers,
    no_Weaving__edges := no_Weaving__edges,
    c_Web := c_Web,
    g_Web := PySem.W.mg_of X G gc_Web,
    cl_Web := ⟨pg_Web, hd_Web, po_Web, sa_Web⟩,
    mk_Web := ⟨mk_Web, a_Web_init, i_Web_init, kc_Web⟩,
    m_Web_put := ⟨a_Web_put, i_Web_put, k_Web_put⟩,
    fi_Web_getitem := fi_Web_getitem,
    m_Web_getitem := ⟨a_Web_getitem, i_Web_getitem, k_Web_getitem⟩,
    m_Web_contains := ⟨a_Web_contains, i_Web_contains, k_Web_contains⟩,
    m_Web_mark_of := ⟨a_Web_mark_of, i_Web_mark_of, k_Web_mark_of⟩,
    ti_Web := fun _ _ _ _ h => .ins h ⟨pg_Web, hd_Web, po_Web, sa_Web⟩ hca_Web hcn_Web hct_Web hcm_Web,
    kk_Web := if_pos (beq_self_eq_true _),
    cr_Web := ⟨rdc_Web, gac_Web⟩,
    tk_Web_MOST := ti_Web_MOST,
    cv_Web_MOST := ⟨fcl_Web_MOST, ⟨_, rfl⟩⟩,
    no_Web_shape := no_Web_shape,
    no_Web__rows := no_Web__rows,
    no_Web__numbers := no_Web__numbers,
    c_Shape := c_Shape,
    g_Shape := PySem.W.mg_of X G gc_Shape,
    cl_Shape := ⟨pg_Shape, hd_Shape, po_Shape, sa_Shape⟩,
    mk_Shape := ⟨mk_Shape, a_Shape_init, i_Shape_init, kc_Shape⟩,
    fi_Shape_getitem := fi_Shape_getitem,
    m_Shape_getitem := ⟨a_Shape_getitem, i_Shape_getitem, k_Shape_getitem⟩,
    m_Shape_modes_of := ⟨a_Shape_modes_of, i_Shape_modes_of, k_Shape_modes_of⟩,
    ti_Shape := fun _ _ _ _ h => .ins h ⟨pg_Shape, hd_Shape, po_Shape, sa_Shape⟩ hca_Shape hcn_Shape hct_Shape hcm_Shape,
    kk_Shape := if_pos (beq_self_eq_true _),
    cr_Shape := ⟨rdc_Shape, gac_Shape⟩,
    tk_Shape_MARKS := ti_Shape_MARKS,
    cv_Shape_MARKS := ⟨fcl_Shape_MARKS, ⟨_, rfl⟩⟩,
    tk_Shape_PARENTS := ti_Shape_PARENTS,
    cv_Shape_PARENTS := ⟨fcl_Shape_PARENTS, ⟨_, rfl⟩⟩,
    no_Shape__listed := no_Shape__listed,
    no_Shape__marks := no_Shape__marks,
    c_BadShape := c_BadShape,
    g_BadShape := PySem.W.mg_of X G gc_BadShape,
    c_UnknownMark := c_UnknownMark,
    g_UnknownMark := PySem.W.mg_of X G gc_UnknownMark,
    c_TooLarge := c_TooLarge,
    g_TooLarge := PySem.W.mg_of X G gc_TooLarge,
    c_BadParents := c_BadParents,
    g_BadParents := PySem.W.mg_of X G gc_BadParents,
    c_NoThing := c_NoThing,
    g_NoThing := PySem.W.mg_of X G gc_NoThing,
    c_BadStep := c_BadStep,
    g_BadStep := PySem.W.mg_of X G gc_BadStep,
    c_Refused := c_Refused,
    g_Refused := PySem.W.mg_of X G gc_Refused,
    c_LockedBefore := c_LockedBefore,
    g_LockedBefore := PySem.W.mg_of X G gc_LockedBefore,
    c_WrongMode := c_WrongMode,
    g_WrongMode := PySem.W.mg_of X G gc_WrongMode,
    c_NotHeld := c_NotHeld,
    g_NotHeld := PySem.W.mg_of X G gc_NotHeld,
    c_WebError := c_WebError,
    g_WebError := PySem.W.mg_of X G gc_WebError,
    em_BadShape_NoThing := PySem.W.exm_ref wb_NoThing wd_NoThing wt_NoThing ws_BadShape_NoThing,
    x_BadShape := XT_BadShape,
    xc_BadShape := ⟨xga_BadShape, xgg_BadShape, xb_BadShape, xd_BadShape, xha_BadShape, x_hn, x_ht, xhm_BadShape⟩,
    xn_BadShape := xno_BadShape,
    em_UnknownMark_NoThing := PySem.W.exm_ref wb_NoThing wd_NoThing wt_NoThing ws_UnknownMark_NoThing,
    x_UnknownMark := XT_UnknownMark,
    xc_UnknownMark := ⟨xga_UnknownMark, xgg_UnknownMark, xb_UnknownMark, xd_UnknownMark, xha_UnknownMark, x_hn, x_ht, xhm_UnknownMark⟩,
    xn_UnknownMark := xno_UnknownMark,
    em_TooLarge_NoThing := PySem.W.exm_ref wb_NoThing wd_NoThing wt_NoThing ws_TooLarge_NoThing,
    x_TooLarge := XT_TooLarge,
    xc_TooLarge := ⟨xga_TooLarge, xgg_TooLarge, xb_TooLarge, xd_TooLarge, xha_TooLarge, x_hn, x_ht, xhm_TooLarge⟩,
    xn_TooLarge := xno_TooLarge,
    em_BadParents_NoThing := PySem.W.exm_ref wb_NoThing wd_NoThing wt_NoThing ws_BadParents_NoThing,
    x_BadParents := XT_BadParents,
    xc_BadParents := ⟨xga_BadParents, xgg_BadParents, xb_BadParents, xd_BadParents, xha_BadParents, x_hn, x_ht, xhm_BadParents⟩,
    xn_BadParents := xno_BadParents,
    em_NoThing_NoThing := PySem.W.exm_ref wb_NoThing wd_NoThing wt_NoThing ws_NoThing_NoThing,
    x_NoThing := XT_NoThing,
    xc_NoThing := ⟨xga_NoThing, xgg_NoThing, xb_NoThing, xd_NoThing, xha_NoThing, x_hn, x_ht, xhm_NoThing⟩,
    xn_NoThing := xno_NoThing,
    em_BadStep_NoThing := PySem.W.exm_ref wb_NoThing wd_NoThing wt_NoThing ws_BadStep_NoThing,
    x_BadStep := XT_BadStep,
    xc_BadStep := ⟨xga_BadStep, xgg_BadStep, xb_BadStep, xd_BadStep, xha_BadStep, x_hn, x_ht, xhm_BadStep⟩,
    xn_BadStep := xno_BadStep,
    em_Refused_NoThing := PySem.W.exm_ref wb_NoThing wd_NoThing wt_NoThing ws_Refused_NoThing,
    x_Refused := XT_Refused,
    xc_Refused := ⟨xga_Refused, xgg_Refused, xb_Refused, xd_Refused, xha_Refused, x_hn, x_ht, xhm_Refused⟩,
    xn_Refused := xno_Refused,
    em_LockedBefore_NoThing := PySem.W.exm_ref wb_NoThing wd_NoThing wt_NoThing ws_LockedBefore_NoThing,
    x_LockedBefore := XT_LockedBefore,
    xc_LockedBefore := ⟨xga_LockedBefore, xgg_LockedBefore, xb_LockedBefore, xd_LockedBefore, xha_LockedBefore, x_hn, x_ht, xhm_LockedBefore⟩,
    xn_LockedBefore := xno_LockedBefore,
    em_WrongMode_NoThing := PySem.W.exm_ref wb_NoThing wd_NoThing wt_NoThing ws_WrongMode_NoThing,
    x_WrongMode := XT_WrongMode,
    xc_WrongMode := ⟨xga_WrongMode, xgg_WrongMode, xb_WrongMode, xd_WrongMode, xha_WrongMode, x_hn, x_ht, xhm_WrongMode⟩,
    xn_WrongMode := xno_WrongMode,
    em_NotHeld_NoThing := PySem.W.exm_ref wb_NoThing wd_NoThing wt_NoThing ws_NotHeld_NoThing,
    x_NotHeld := XT_NotHeld,
    xc_NotHeld := ⟨xga_NotHeld, xgg_NotHeld, xb_NotHeld, xd_NotHeld, xha_NotHeld, x_hn, x_ht, xhm_NotHeld⟩,
    xn_NotHeld := xno_NotHeld }
  exact ⟨T.fd_law, fun s v => .of_eq rfl, fun base _ _ => ok_law T⟩
end My
open PySem PySem.W PyProof.Rows in
set_option maxRecDepth 100000 in
set_option maxHeartbeats 0 in
theorem PySem.Challenge.cw_weblocks_k56_waits_for_one_another_holds : PySem.Challenge.rw_weblocks_k56_waits_for_one_another.Holds := by
  refine My.hd ⟨My.hd_runs, ?_⟩
  k_fill
  refine L2.walk_of (l := PySem.Challenge.rw_weblocks_k56_waits_for_one_another) (n := 63) (k := 24) (x := "_law_script") (CX := fun _ => L2.CX0) (sp := fun w => My.spLaw _) rfl (by decide) rfl ⟨rfl, by decide, by decide⟩ (fun w h Y => PySem.W.kIn_of Y) ?F (fun _ _ a ns hl _ hS => ⟨a, ns, rfl, hS, hl, fun _ => rfl⟩) (fun _ _ _ _ _ h => h)
  case F =>
    intro w mg fa h KX G hmg
    refine' My.all_mk KX G hmg ?gc_Standing ?gc_Weaving ?gc_Web ?gc_Shape ?a_Standing_init ?l_Standing_init ?c_Standing_init ?k_Standing_init ?a_Standing_check ?l_Standing_check ?c_Standing_check ?k_Standing_check ?a_Standing_take ?l_Standing_take ?c_Standing_take ?k_Standing_take ?a_Standing_held_mode ?l_Standing_held_mode ?c_Standing_held_mode ?k_Standing_held_mode ?a_Standing_copy ?l_Standing_copy ?c_Standing_copy ?k_Standing_copy ?a_distances ?l_distances ?c_distances ?k_distances ?a_ring_from ?l_ring_from ?c_ring_from ?k_ring_from ?a_shortest_ring ?l_shortest_ring ?c_shortest_ring ?k_shortest_ring ?a_Weaving_init ?l_Weaving_init ?c_Weaving_init ?k_Weaving_init ?a_Weaving_add ?l_Weaving_add ?c_Weaving_add ?k_Weaving_add ?a_Weaving_iter ?l_Weaving_iter ?c_Weaving_iter ?k_Weaving_iter ?a_Weaving_len ?l_Weaving_len ?c_Weaving_len ?k_Weaving_len ?a_Weavingascending ?l_Weavingascending ?c_Weavingascending ?k_Weavingascending ?a_Weaving_standing_of ?l_Weaving_standing_of ?c_Weaving_standing_of ?k_Weaving_standing_of ?a_Weaving_holders ?l_Weaving_holders ?c_Weaving_holders ?k_Weaving_holders ?a_suitable ?l_suitable ?c_suitable ?k_suitable ?a_Web_init ?l_Web_init ?c_Web_init ?k_Web_init ?a_Web_put ?l_Web_put ?c_Web_put ?k_Web_put ?a_Web_getitem ?l_Web_getitem ?c_Web_getitem ?k_Web_getitem ?a_Web_contains ?l_Web_contains ?c_Web_contains ?k_Web_contains ?a_Web_mark_of ?l_Web_mark_of ?c_Web_mark_of ?k_Web_mark_of ?a_waits ?l_waits ?c_waits ?k_waits ?a_is_mark ?l_is_mark ?c_is_mark ?k_is_mark ?a_sound_row ?l_sound_row ?c_sound_row ?k_sound_row ?a_barren ?l_barren ?c_barren ?k_barren ?a_Shape_init ?l_Shape_init ?c_Shape_init ?k_Shape_init ?a_Shape_getitem ?l_Shape_getitem ?c_Shape_getitem ?k_Shape_getitem ?a_Shape_modes_of ?l_Shape_modes_of ?c_Shape_modes_of ?k_Shape_modes_of ?a__law_draws ?l__law_draws ?c__law_draws ?k__law_draws ?a__law_take ?l__law_take ?c__law_take ?k__law_take ?a__law_same ?l__law_same ?c__law_same ?k__law_same ?a__law_marks ?l__law_marks ?c__law_marks ?k__law_marks ?a__law_rows ?l__law_rows ?c__law_rows ?k__law_rows ?a__law_things ?l__law_things ?c__law_things ?k__law_things ?a__law_do ?l__law_do ?c__law_do ?k__law_do ?a__law_shared ?l__law_shared ?c__law_shared ?k__law_shared ?a__law_free ?l__law_free ?c__law_free ?k__law_free ?a__law_shape ?l__law_shape ?c__law_shape ?k__law_shape ?a__law_put ?l__law_put ?c__law_put ?k__law_put ?a__law_web ?l__law_web ?c__law_web ?k__law_web ?a__law_ring ?l__law_ring ?c__law_ring ?k__law_ring ?a__law_names ?l__law_names ?c__law_names ?k__law_names ?a__law_choices ?l__law_choices ?c__law_choices ?k__law_choices ?a__law_begun ?l__law_begun ?c__law_begun ?k__law_begun ?a__law_wants ?l__law_wants ?c__law_wants ?k__law_wants ?a__law_due ?l__law_due ?c__law_due ?k__law_due ?a__law_asked ?l__law_asked ?c__law_asked ?k__law_asked ?a_law ?l_law ?c_law ?k_law ?z_any ?z_bool ?z_enumerate ?z_int ?z_isinstance ?z_iter ?z_len ?z_list ?z_min ?z_range ?z_sorted ?z_str ?z_tuple ?aq_DEEDS ?lq_DEEDS ?aq_DIGITS ?aq_LETTERS ?aq_MODES ?lq_MODES ?pg_Standing ?hd_Standing ?po_Standing ?sa_Standing ?kc_Standing ?i_Standing_init ?mk_Standing ?i_Standing_check ?i_Standing_take ?i_Standing_held_mode ?i_Standing_copy ?hca_Standing ?hcn_Standing ?hct_Standing ?hcm_Standing ?no_Standing_web ?no_Standing__modes ?no_Standing__holds ?no_Standing__loose ?pg_Weaving ?hd_Weaving ?po_Weaving ?sa_Weaving ?kc_Weaving ?i_Weaving_init ?mk_Weaving ?i_Weaving_add ?i_Weaving_iter ?i_Weaving_len ?i_Weavingascending ?i_Weaving_standing_of ?i_Weaving_holders ?no_Weaving_web ?no_Weaving__events ?no_Weaving__standings ?no_Weaving__lockers ?no_Weaving__edges ?pg_Web ?hd_Web ?po_Web ?sa_Web ?kc_Web ?i_Web_init ?mk_Web ?i_Web_put ?fi_Web_getitem ?i_Web_getitem ?i_Web_contains ?i_Web_mark_of ?hca_Web ?hcn_Web ?hct_Web ?hcm_Web ?rdc_Web ?gac_Web ?fcl_Web_MOST ?no_Web_shape ?no_Web__rows ?no_Web__numbers ?pg_Shape ?hd_Shape ?po_Shape ?sa_Shape ?kc_Shape ?i_Shape_init ?mk_Shape ?fi_Shape_getitem ?i_Shape_getitem ?i_Shape_modes_of ?hca_Shape ?hcn_Shape ?hct_Shape ?hcm_Shape ?rdc_Shape ?gac_Shape ?fcl_Shape_MARKS ?fcl_Shape_PARENTS ?no_Shape__listed ?no_Shape__marks ?gc_BadShape ?gc_UnknownMark ?gc_TooLarge ?gc_BadParents ?gc_NoThing ?gc_BadStep ?gc_Refused ?gc_LockedBefore ?gc_WrongMode ?gc_NotHeld ?gc_WebError ?wb_NoThing ?wd_NoThing ?wt_NoThing ?xz_super ?x_opq ?x_hn ?x_ht ?xl_BadShape ?xsa_BadShape ?xga_BadShape ?xgg_BadShape ?xno_BadShape ?xk_BadShape ?xb_BadShape ?xt_BadShape ?xd_BadShape ?xi_BadShape ?xf_BadShape ?xfl_BadShape ?xci_BadShape ?xcc_BadShape ?xcd_BadShape ?xvs_BadShape ?xfi_BadShape ?xnx_BadShape ?xsl_BadShape ?xsu_BadShape ?xha_BadShape ?xhm_BadShape ?ws_BadShape_NoThing ?xl_UnknownMark ?xsa_UnknownMark ?xga_UnknownMark ?xgg_UnknownMark ?xno_UnknownMark ?xk_UnknownMark ?xb_UnknownMark ?xt_UnknownMark ?xd_UnknownMark ?xi_UnknownMark ?xf_UnknownMark ?xfl_UnknownMark ?xci_UnknownMark ?xcc_UnknownMark ?xcd_UnknownMark ?xvs_UnknownMark ?xfi_UnknownMark ?xnx_UnknownMark ?xsl_UnknownMark ?xsu_UnknownMark ?xha_UnknownMark ?xhm_UnknownMark ?ws_UnknownMark_NoThing ?xl_TooLarge ?xsa_TooLarge ?xga_TooLarge ?xgg_TooLarge ?xno_TooLarge ?xk_TooLarge ?xb_TooLarge ?xt_TooLarge ?xd_TooLarge ?xi_TooLarge ?xf_TooLarge ?xfl_TooLarge ?xci_TooLarge ?xcc_TooLarge ?xcd_TooLarge ?xvs_TooLarge ?xfi_TooLarge ?xnx_TooLarge ?xsl_TooLarge ?xsu_TooLarge ?xha_TooLarge ?xhm_TooLarge ?ws_TooLarge_NoThing ?xl_BadParents ?xsa_BadParents ?xga_BadParents ?xgg_BadParents ?xno_BadParents ?xk_BadParents ?xb_BadParents ?xt_BadParents ?xd_BadParents ?xi_BadParents ?xf_BadParents ?xfl_BadParents ?xci_BadParents ?xcc_BadParents ?xcd_BadParents ?xvs_BadParents ?xfi_BadParents ?xnx_BadParents ?xsl_BadParents ?xsu_BadParents ?xha_BadParents ?xhm_BadParents ?ws_BadParents_NoThing ?xl_NoThing ?xsa_NoThing ?xga_NoThing ?xgg_NoThing ?xno_NoThing ?xk_NoThing ?xb_NoThing ?xt_NoThing ?xd_NoThing ?xi_NoThing ?xf_NoThing ?xfl_NoThing ?xci_NoThing ?xcc_NoThing ?xcd_NoThing ?xvs_NoThing ?xfi_NoThing ?xnx_NoThing ?xsl_NoThing ?xsu_NoThing ?xha_NoThing ?xhm_NoThing ?ws_NoThing_NoThing ?xl_BadStep ?xsa_BadStep ?xga_BadStep ?xgg_BadStep ?xno_BadStep ?xk_BadStep ?xb_BadStep ?xt_BadStep ?xd_BadStep ?xi_BadStep ?xf_BadStep ?xfl_BadStep ?xci_BadStep ?xcc_BadStep ?xcd_BadStep ?xvs_BadStep ?xfi_BadStep ?xnx_BadStep ?xsl_BadStep ?xsu_BadStep ?xha_BadStep ?xhm_BadStep ?ws_BadStep_NoThing ?xl_Refused ?xsa_Refused ?xga_Refused ?xgg_Refused ?xno_Refused ?xk_Refused ?xb_Refused ?xt_Refused ?xd_Refused ?xi_Refused ?xf_Refused ?xfl_Refused ?xci_Refused ?xcc_Refused ?xcd_Refused ?xvs_Refused ?xfi_Refused ?xnx_Refused ?xsl_Refused ?xsu_Refused ?xha_Refused ?xhm_Refused ?ws_Refused_NoThing ?xl_LockedBefore ?xsa_LockedBefore ?xga_LockedBefore ?xgg_LockedBefore ?xno_LockedBefore ?xk_LockedBefore ?xb_LockedBefore ?xt_LockedBefore ?xd_LockedBefore ?xi_LockedBefore ?xf_LockedBefore ?xfl_LockedBefore ?xci_LockedBefore ?xcc_LockedBefore ?xcd_LockedBefore ?xvs_LockedBefore ?xfi_LockedBefore ?xnx_LockedBefore ?xsl_LockedBefore ?xsu_LockedBefore ?xha_LockedBefore ?xhm_LockedBefore ?ws_LockedBefore_NoThing ?xl_WrongMode ?xsa_WrongMode ?xga_WrongMode ?xgg_WrongMode ?xno_WrongMode ?xk_WrongMode ?xb_WrongMode ?xt_WrongMode ?xd_WrongMode ?xi_WrongMode ?xf_WrongMode ?xfl_WrongMode ?xci_WrongMode ?xcc_WrongMode ?xcd_WrongMode ?xvs_WrongMode ?xfi_WrongMode ?xnx_WrongMode ?xsl_WrongMode ?xsu_WrongMode ?xha_WrongMode ?xhm_WrongMode ?ws_WrongMode_NoThing ?xl_NotHeld ?xsa_NotHeld ?xga_NotHeld ?xgg_NotHeld ?xno_NotHeld ?xk_NotHeld ?xb_NotHeld ?xt_NotHeld ?xd_NotHeld ?xi_NotHeld ?xf_NotHeld ?xfl_NotHeld ?xci_NotHeld ?xcc_NotHeld ?xcd_NotHeld ?xvs_NotHeld ?xfi_NotHeld ?xnx_NotHeld ?xsl_NotHeld ?xsu_NotHeld ?xha_NotHeld ?xhm_NotHeld ?ws_NotHeld_NoThing
    (case gc_Standing => k_is)
    (case gc_Weaving => k_is)
    (case gc_Web => k_is)
    (case gc_Shape => k_is)
    (case a_Standing_init => k_is)
    (case l_Standing_init => k_is)
    (case c_Standing_init => k_is)
    (case k_Standing_init => k_is)
    (case a_Standing_check => k_is)
    (case l_Standing_check => k_is)
    (case c_Standing_check => k_is)
    (case k_Standing_check => k_is)
    (case a_Standing_take => k_is)
    (case l_Standing_take => k_is)
    (case c_Standing_take => k_is)
    (case k_Standing_take => k_is)
    (case a_Standing_held_mode => k_is)
    (case l_Standing_held_mode => k_is)
    (case c_Standing_held_mode => k_is)
    (case k_Standing_held_mode => k_is)
    (case a_Standing_copy => k_is)
    (case l_Standing_copy => k_is)
    (case c_Standing_copy => k_is)
    (case k_Standing_copy => k_is)
    (case a_distances => k_is)
    (case l_distances => k_is)
    (case c_distances => k_is)
    (case k_distances => k_is)
    (case a_ring_from => k_is)
    (case l_ring_from => k_is)
    (case c_ring_from => k_is)
    (case k_ring_from => k_is)
    (case a_shortest_ring => k_is)
    (case l_shortest_ring => k_is)
    (case c_shortest_ring => k_is)
    (case k_shortest_ring => k_is)
    (case a_Weaving_init => k_is)
    (case l_Weaving_init => k_is)
    (case c_Weaving_init => k_is)
    (case k_Weaving_init => k_is)
    (case a_Weaving_add => k_is)
    (case l_Weaving_add => k_is)
    (case c_Weaving_add => k_is)
    (case k_Weaving_add => k_is)
    (case a_Weaving_iter => k_is)
    (case l_Weaving_iter => k_is)
    (case c_Weaving_iter => k_is)
    (case k_Weaving_iter => k_is)
    (case a_Weaving_len => k_is)
    (case l_Weaving_len => k_is)
    (case c_Weaving_len => k_is)
    (case k_Weaving_len => k_is)
    (case a_Weavingascending => k_is)
    (case l_Weavingascending => k_is)
    (case c_Weavingascending => k_is)
    (case k_Weavingascending => k_is)
    (case a_Weaving_standing_of => k_is)
    (case l_Weaving_standing_of => k_is)
    (case c_Weaving_standing_of => k_is)
    (case k_Weaving_standing_of => k_is)
    (case a_Weaving_holders => k_is)
    (case l_Weaving_holders => k_is)
    (case c_Weaving_holders => k_is)
    (case k_Weaving_holders => k_is)
    (case a_suitable => k_is)
    (case l_suitable => k_is)
    (case c_suitable => k_is)
    (case k_suitable => k_is)
    (case a_Web_init => k_is)
    (case l_Web_init => k_is)
    (case c_Web_init => k_is)
    (case k_Web_init => k_is)
    (case a_Web_put => k_is)
    (case l_Web_put => k_is)
    (case c_Web_put => k_is)
    (case k_Web_put => k_is)
    (case a_Web_getitem => k_is)
    (case l_Web_getitem => k_is)
    (case c_Web_getitem => k_is)
    (case k_Web_getitem => k_is)
    (case a_Web_contains => k_is)
    (case l_Web_contains => k_is)
    (case c_Web_contains => k_is)
    (case k_Web_contains => k_is)
    (case a_Web_mark_of => k_is)
    (case l_Web_mark_of => k_is)
    (case c_Web_mark_of => k_is)
    (case k_Web_mark_of => k_is)
    (case a_waits => k_is)
    (case l_waits => k_is)
    (case c_waits => k_is)
    (case k_waits => k_is)
    (case a_is_mark => k_is)
    (case l_is_mark => k_is)
    (case c_is_mark => k_is)
    (case k_is_mark => k_is)
    (case a_sound_row => k_is)
    (case l_sound_row => k_is)
    (case c_sound_row => k_is)
    (case k_sound_row => k_is)
    (case a_barren => k_is)
    (case l_barren => k_is)
    (case c_barren => k_is)
    (case k_barren => k_is)
    (case a_Shape_init => k_is)
    (case l_Shape_init => k_is)
    (case c_Shape_init => k_is)
    (case k_Shape_init => k_is)
    (case a_Shape_getitem => k_is)
    (case l_Shape_getitem => k_is)
    (case c_Shape_getitem => k_is)
    (case k_Shape_getitem => k_is)
    (case a_Shape_modes_of => k_is)
    (case l_Shape_modes_of => k_is)
    (case c_Shape_modes_of => k_is)
    (case k_Shape_modes_of => k_is)
    (case a__law_draws => k_is)
    (case l__law_draws => k_is)
    (case c__law_draws => k_is)
    (case k__law_draws => k_is)
    (case a__law_take => k_is)
    (case l__law_take => k_is)
    (case c__law_take => k_is)
    (case k__law_take => k_is)
    (case a__law_same => k_is)
    (case l__law_same => k_is)
    (case c__law_same => k_is)
    (case k__law_same => k_is)
    (case a__law_marks => k_is)
    (case l__law_marks => k_is)
    (case c__law_marks => k_is)
    (case k__law_marks => k_is)
    (case a__law_rows => k_is)
    (case l__law_rows => k_is)
    (case c__law_rows => k_is)
    (case k__law_rows => k_is)
    (case a__law_things => k_is)
    (case l__law_things => k_is)
    (case c__law_things => k_is)
    (case k__law_things => k_is)
    (case a__law_do => k_is)
    (case l__law_do => k_is)
    (case c__law_do => k_is)
    (case k__law_do => k_is)
    (case a__law_shared => k_is)
    (case l__law_shared => k_is)
    (case c__law_shared => k_is)
    (case k__law_shared => k_is)
    (case a__law_free => k_is)
    (case l__law_free => k_is)
    (case c__law_free => k_is)
    (case k__law_free => k_is)
    (case a__law_shape => k_is)
    (case l__law_shape => k_is)
    (case c__law_shape => k_is)
    (case k__law_shape => k_is)
    (case a__law_put => k_is)
    (case l__law_put => k_is)
    (case c__law_put => k_is)
    (case k__law_put => k_is)
    (case a__law_web => k_is)
    (case l__law_web => k_is)
    (case c__law_web => k_is)
    (case k__law_web => k_is)
    (case a__law_ring => k_is)
    (case l__law_ring => k_is)
    (case c__law_ring => k_is)
    (case k__law_ring => k_is)
    (case a__law_names => k_is)
    (case l__law_names => k_is)
    (case c__law_names => k_is)
    (case k__law_names => k_is)
    (case a__law_choices => k_is)
    (case l__law_choices => k_is)
    (case c__law_choices => k_is)
    (case k__law_choices => k_is)
    (case a__law_begun => k_is)
    (case l__law_begun => k_is)
    (case c__law_begun => k_is)
    (case k__law_begun => k_is)
    (case a__law_wants => k_is)
    (case l__law_wants => k_is)
    (case c__law_wants => k_is)
    (case k__law_wants => k_is)
    (case a__law_due => k_is)
    (case l__law_due => k_is)
    (case c__law_due => k_is)
    (case k__law_due => k_is)
    (case a__law_asked => k_is)
    (case l__law_asked => k_is)
    (case c__law_asked => k_is)
    (case k__law_asked => k_is)
    (case a_law => k_is)
    (case l_law => k_is)
    (case c_law => k_is)
    (case k_law => k_is)
    (case z_any => k_is)
    (case z_bool => k_is)
    (case z_enumerate => k_is)
    (case z_int => k_is)
    (case z_isinstance => k_is)
    (case z_iter => k_is)
    (case z_len => k_is)
    (case z_list => k_is)
    (case z_min => k_is)
    (case z_range => k_is)
    (case z_sorted => k_is)
    (case z_str => k_is)
    (case z_tuple => k_is)
    (case aq_DEEDS => k_is)
    (case lq_DEEDS => k_is)
    (case aq_DIGITS => k_is)
    (case aq_LETTERS => k_is)
    (case aq_MODES => k_is)
    (case lq_MODES => k_is)
    (case pg_Standing => k_is)
    (case hd_Standing => k_is)
    (case po_Standing => k_is)
    (case sa_Standing => k_is)
    (case kc_Standing => k_is)
    (case i_Standing_init => k_is)
    (case mk_Standing => k_is)
    (case i_Standing_check => k_is)
    (case i_Standing_take => k_is)
    (case i_Standing_held_mode => k_is)
    (case i_Standing_copy => k_is)
    (case hca_Standing => k_is)
    (case hcn_Standing => k_is)
    (case hct_Standing => k_is)
    (case hcm_Standing => k_is)
    (case no_Standing_web => k_is)
    (case no_Standing__modes => k_is)
    (case no_Standing__holds => k_is)
    (case no_Standing__loose => k_is)
    (case pg_Weaving => k_is)
    (case hd_Weaving => k_is)
    (case po_Weaving => k_is)
    (case sa_Weaving => k_is)
    (case kc_Weaving => k_is)
    (case i_Weaving_init => k_is)
    (case mk_Weaving => k_is)
    (case i_Weaving_add => k_is)
    (case i_Weaving_iter => k_is)
    (case i_Weaving_len => k_is)
    (case i_Weavingascending => k_is)
    (case i_Weaving_standing_of => k_is)
    (case i_Weaving_holders => k_is)
    (case no_Weaving_web => k_is)
    (case no_Weaving__events => k_is)
    (case no_Weaving__standings => k_is)
    (case no_Weaving__lockers => k_is)
    (case no_Weaving__edges => k_is)
    (case pg_Web => k_is)
    (case hd_Web => k_is)
    (case po_Web => k_is)
    (case sa_Web => k_is)
    (case kc_Web => k_is)
    (case i_Web_init => k_is)
    (case mk_Web => k_is)
    (case i_Web_put => k_is)
    (case fi_Web_getitem => k_is)
    (case i_Web_getitem => k_is)
    (case i_Web_contains => k_is)
    (case i_Web_mark_of => k_is)
    (case hca_Web => k_is)
    (case hcn_Web => k_is)
    (case hct_Web => k_is)
    (case hcm_Web => k_is)
    (case rdc_Web => k_is)
    (case gac_Web => k_is)
    (case fcl_Web_MOST => k_is)
    (case no_Web_shape => k_is)
    (case no_Web__rows => k_is)
    (case no_Web__numbers => k_is)
    (case pg_Shape => k_is)
    (case hd_Shape => k_is)
    (case po_Shape => k_is)
    (case sa_Shape => k_is)
    (case kc_Shape => k_is)
    (case i_Shape_init => k_is)
    (case mk_Shape => k_is)
    (case fi_Shape_getitem => k_is)
    (case i_Shape_getitem => k_is)
    (case i_Shape_modes_of => k_is)
    (case hca_Shape => k_is)
    (case hcn_Shape => k_is)
    (case hct_Shape => k_is)
    (case hcm_Shape => k_is)
    (case rdc_Shape => k_is)
    (case gac_Shape => k_is)
    (case fcl_Shape_MARKS => k_is)
    (case fcl_Shape_PARENTS => k_is)
    (case no_Shape__listed => k_is)
    (case no_Shape__marks => k_is)
    (case gc_BadShape => k_is)
    (case gc_UnknownMark => k_is)
    (case gc_TooLarge => k_is)
    (case gc_BadParents => k_is)
    (case gc_NoThing => k_is)
    (case gc_BadStep => k_is)
    (case gc_Refused => k_is)
    (case gc_LockedBefore => k_is)
    (case gc_WrongMode => k_is)
    (case gc_NotHeld => k_is)
    (case gc_WebError => k_is)
    (case wb_NoThing => k_is)
    (case wd_NoThing => k_is)
    (case wt_NoThing => k_is)
    (case xz_super => k_is)
    (case x_opq => k_is)
    (case x_hn => k_is)
    (case x_ht => k_is)
    (case xl_BadShape => k_is)
    (case xsa_BadShape => k_is)
    (case xga_BadShape => k_is)
    (case xgg_BadShape => k_is)
    (case xno_BadShape => k_is)
    (case xk_BadShape => k_is)
    (case xb_BadShape => k_is)
    (case xt_BadShape => k_is)
    (case xd_BadShape => k_is)
    (case xi_BadShape => k_is)
    (case xf_BadShape => k_is)
    (case xfl_BadShape => k_is)
    (case xci_BadShape => k_is)
    (case xcc_BadShape => k_is)
    (case xcd_BadShape => k_is)
    (case xvs_BadShape => rfl)
    (case xfi_BadShape => first | rfl | decide +kernel)
    (case xnx_BadShape => ks_is)
    (case xsl_BadShape => k_is)
    (case xsu_BadShape => k_is)
    (case xha_BadShape => k_is)
    (case xhm_BadShape => k_is)
    (case ws_BadShape_NoThing => k_is)
    (case xl_UnknownMark => k_is)
    (case xsa_UnknownMark => k_is)
    (case xga_UnknownMark => k_is)
    (case xgg_UnknownMark => k_is)
    (case xno_UnknownMark => k_is)
    (case xk_UnknownMark => k_is)
    (case xb_UnknownMark => k_is)
    (case xt_UnknownMark => k_is)
    (case xd_UnknownMark => k_is)
    (case xi_UnknownMark => k_is)
    (case xf_UnknownMark => k_is)
    (case xfl_UnknownMark => k_is)
    (case xci_UnknownMark => k_is)
    (case xcc_UnknownMark => k_is)
    (case xcd_UnknownMark => k_is)
    (case xvs_UnknownMark => rfl)
    (case xfi_UnknownMark => first | rfl | decide +kernel)
    (case xnx_UnknownMark => ks_is)
    (case xsl_UnknownMark => k_is)
    (case xsu_UnknownMark => k_is)
    (case xha_UnknownMark => k_is)
    (case xhm_UnknownMark => k_is)
    (case ws_UnknownMark_NoThing => k_is)
    (case xl_TooLarge => k_is)
    (case xsa_TooLarge => k_is)
    (case xga_TooLarge => k_is)
    (case xgg_TooLarge => k_is)
    (case xno_TooLarge => k_is)
    (case xk_TooLarge => k_is)
    (case xb_TooLarge => k_is)
    (case xt_TooLarge => k_is)
    (case xd_TooLarge => k_is)
    (case xi_TooLarge => k_is)
    (case xf_TooLarge => k_is)
    (case xfl_TooLarge => k_is)
    (case xci_TooLarge => k_is)
    (case xcc_TooLarge => k_is)
    (case xcd_TooLarge => k_is)
    (case xvs_TooLarge => rfl)
    (case xfi_TooLarge => first | rfl | decide +kernel)
    (case xnx_TooLarge => ks_is)
    (case xsl_TooLarge => k_is)
    (case xsu_TooLarge => k_is)
    (case xha_TooLarge => k_is)
    (case xhm_TooLarge => k_is)
    (case ws_TooLarge_NoThing => k_is)
    (case xl_BadParents => k_is)
    (case xsa_BadParents => k_is)
    (case xga_BadParents => k_is)
    (case xgg_BadParents => k_is)
    (case xno_BadParents => k_is)
    (case xk_BadParents => k_is)
    (case xb_BadParents => k_is)
    (case xt_BadParents => k_is)
    (case xd_BadParents => k_is)
    (case xi_BadParents => k_is)
    (case xf_BadParents => k_is)
    (case xfl_BadParents => k_is)
    (case xci_BadParents => k_is)
    (case xcc_BadParents => k_is)
    (case xcd_BadParents => k_is)
    (case xvs_BadParents => rfl)
    (case xfi_BadParents => first | rfl | decide +kernel)
    (case xnx_BadParents => ks_is)
    (case xsl_BadParents => k_is)
    (case xsu_BadParents => k_is)
    (case xha_BadParents => k_is)
    (case xhm_BadParents => k_is)
    (case ws_BadParents_NoThing => k_is)
    (case xl_NoThing => k_is)
    (case xsa_NoThing => k_is)
    (case xga_NoThing => k_is)
    (case xgg_NoThing => k_is)
    (case xno_NoThing => k_is)
    (case xk_NoThing => k_is)
    (case xb_NoThing => k_is)
    (case xt_NoThing => k_is)
    (case xd_NoThing => k_is)
    (case xi_NoThing => k_is)
    (case xf_NoThing => k_is)
    (case xfl_NoThing => k_is)
    (case xci_NoThing => k_is)
    (case xcc_NoThing => k_is)
    (case xcd_NoThing => k_is)
    (case xvs_NoThing => rfl)
    (case xfi_NoThing => first | rfl | decide +kernel)
    (case xnx_NoThing => ks_is)
    (case xsl_NoThing => k_is)
    (case xsu_NoThing => k_is)
    (case xha_NoThing => k_is)
    (case xhm_NoThing => k_is)
    (case ws_NoThing_NoThing => k_is)
    (case xl_BadStep => k_is)
    (case xsa_BadStep => k_is)
    (case xga_BadStep => k_is)
    (case xgg_BadStep => k_is)
    (case xno_BadStep => k_is)
    (case xk_BadStep => k_is)
    (case xb_BadStep => k_is)
    (case xt_BadStep => k_is)
    (case xd_BadStep => k_is)
    (case xi_BadStep => k_is)
    (case xf_BadStep => k_is)
    (case xfl_BadStep => k_is)
    (case xci_BadStep => k_is)
    (case xcc_BadStep => k_is)
    (case xcd_BadStep => k_is)
    (case xvs_BadStep => rfl)
    (case xfi_BadStep => first | rfl | decide +kernel)
    (case xnx_BadStep => ks_is)
    (case xsl_BadStep => k_is)
    (case xsu_BadStep => k_is)
    (case xha_BadStep => k_is)
    (case xhm_BadStep => k_is)
    (case ws_BadStep_NoThing => k_is)
    (case xl_Refused => k_is)
    (case xsa_Refused => k_is)
    (case xga_Refused => k_is)
    (case xgg_Refused => k_is)
    (case xno_Refused => k_is)
    (case xk_Refused => k_is)
    (case xb_Refused => k_is)
    (case xt_Refused => k_is)
    (case xd_Refused => k_is)
    (case xi_Refused => k_is)
    (case xf_Refused => k_is)
    (case xfl_Refused => k_is)
    (case xci_Refused => k_is)
    (case xcc_Refused => k_is)
    (case xcd_Refused => k_is)
    (case xvs_Refused => rfl)
    (case xfi_Refused => first | rfl | decide +kernel)
    (case xnx_Refused => ks_is)
    (case xsl_Refused => k_is)
    (case xsu_Refused => k_is)
    (case xha_Refused => k_is)
    (case xhm_Refused => k_is)
    (case ws_Refused_NoThing => k_is)
    (case xl_LockedBefore => k_is)
    (case xsa_LockedBefore => k_is)
    (case xga_LockedBefore => k_is)
    (case xgg_LockedBefore => k_is)
    (case xno_LockedBefore => k_is)
    (case xk_LockedBefore => k_is)
    (case xb_LockedBefore => k_is)
    (case xt_LockedBefore => k_is)
    (case xd_LockedBefore => k_is)
    (case xi_LockedBefore => k_is)
    (case xf_LockedBefore => k_is)
    (case xfl_LockedBefore => k_is)
    (case xci_LockedBefore => k_is)
    (case xcc_LockedBefore => k_is)
    (case xcd_LockedBefore => k_is)
    (case xvs_LockedBefore => rfl)
    (case xfi_LockedBefore => first | rfl | decide +kernel)
    (case xnx_LockedBefore => ks_is)
    (case xsl_LockedBefore => k_is)
    (case xsu_LockedBefore => k_is)
    (case xha_LockedBefore => k_is)
    (case xhm_LockedBefore => k_is)
    (case ws_LockedBefore_NoThing => k_is)
    (case xl_WrongMode => k_is)
    (case xsa_WrongMode => k_is)
    (case xga_WrongMode => k_is)
    (case xgg_WrongMode => k_is)
    (case xno_WrongMode => k_is)
    (case xk_WrongMode => k_is)
    (case xb_WrongMode => k_is)
    (case xt_WrongMode => k_is)
    (case xd_WrongMode => k_is)
    (case xi_WrongMode => k_is)
    (case xf_WrongMode => k_is)
    (case xfl_WrongMode => k_is)
    (case xci_WrongMode => k_is)
    (case xcc_WrongMode => k_is)
    (case xcd_WrongMode => k_is)
    (case xvs_WrongMode => rfl)
    (case xfi_WrongMode => first | rfl | decide +kernel)
    (case xnx_WrongMode => ks_is)
    (case xsl_WrongMode => k_is)
    (case xsu_WrongMode => k_is)
    (case xha_WrongMode => k_is)
    (case xhm_WrongMode => k_is)
    (case ws_WrongMode_NoThing => k_is)
    (case xl_NotHeld => k_is)
    (case xsa_NotHeld => k_is)
    (case xga_NotHeld => k_is)
    (case xgg_NotHeld => k_is)
    (case xno_NotHeld => k_is)
    (case xk_NotHeld => k_is)
    (case xb_NotHeld => k_is)
    (case xt_NotHeld => k_is)
    (case xd_NotHeld => k_is)
    (case xi_NotHeld => k_is)
    (case xf_NotHeld => k_is)
    (case xfl_NotHeld => k_is)
    (case xci_NotHeld => k_is)
    (case xcc_NotHeld => k_is)
    (case xcd_NotHeld => k_is)
    (case xvs_NotHeld => rfl)
    (case xfi_NotHeld => first | rfl | decide +kernel)
    (case xnx_NotHeld => ks_is)
    (case xsl_NotHeld => k_is)
    (case xsu_NotHeld => k_is)
    (case xha_NotHeld => k_is)
    (case xhm_NotHeld => k_is)
    (case ws_NotHeld_NoThing => k_is)
#print axioms PySem.Challenge.cw_weblocks_k56_waits_for_one_another_holds
