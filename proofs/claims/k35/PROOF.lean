import PyProof.Rows.All
import Wide.All
import OpenK.AllK
import Wide.FinOn
import HandS.ForMost
import KE.GoesMore
import HandS.Codes
import HandS.IsInst
import HandS.Defaults
import HandS.MakeKw
import HandS.MakeKwOnly
import HandS.SlotsOwn
import HandS.ForExc
import HandS.ExcIs
import HandS.ExcField
import HandS.CallSlots
import KE.KExcIs
import KE.KExcSuper
import KE.KExcMake
import KE.RegKSuper
import HandS.ClsMeth
import KE.KCallOwn
import HandS.IterVal
import KE.KOwnIter
import HandS.Star
import KE.KOpsOwn
import HandS.Property
import KE.KStar
import HandS.SlotsOwn
import HandS.ForExc
import HandS.ExcIs
import HandS.ExcField
import HandS.CallSlots
import KE.KExcIs
import KE.KExcSuper
import KE.KExcMake
import KE.RegKSuper
import HandS.ClsMeth
import KE.KCallOwn
import HandS.IterVal
import KE.KOwnIter
import HandS.Star
import KE.KOpsOwn
import HandS.Property
import KE.KStar
import HandS.Text
import HandS.StrMore
import HandS.Steps
import HandS.TryOnly
import HandS.Exc
import HandS.ExcOwn
import HandS.Comp
import HandS.OwnIter
import PyProof.StrLawsChain
import PyProof.Rows.StrItems
import HandS.Iter
import HandS.Text
import HandS.StrMore
import HandS.Steps
import HandS.TryOnly
import HandS.Exc
import HandS.ExcOwn
import HandS.Comp
import HandS.OwnIter
import HandS.HotCalls
import HandS.WordsDict
import HandS.Conv
import HandS.More
import KE.OsRunLaw
import HandS.Walk
import PySem.Challenge.RW_weblocks_k35_rows_conflicts_verdicts
set_option Elab.async false
set_option linter.all false
set_option maxRecDepth 100000
set_option maxHeartbeats 4000000
namespace My
local macro_rules | `(tactic| k_head) => `(tactic| k_headL)
set_option maxHeartbeats 0 in
open_top hd for PySem.Challenge.rw_weblocks_k35_rows_conflicts_verdicts
end My
local macro_rules | `(tactic| walk_at "sd") => `(tactic| first | assumption | omega | decide | rfl | (refine And.intro ?_ ?_ <;> walk_at "sd") | (show _ < PySem.sizeLine; exact Nat.lt_of_le_of_lt (by omega : _ ≤ 100000) (by decide)) | (show _ ≤ PySem.sizeLine; exact Nat.le_trans (by omega : _ ≤ 100000) (by decide)))
local macro_rules | `(tactic| walk_at "hl") => `(tactic| first | assumption | exact L2.upd_same | (refine (L2.upd_ne ?_).trans ?_; (walk_at "ne"); (walk_at "hl")))
local macro_rules | `(tactic| walk_at "ne") => `(tactic| first | assumption | (apply Ne.symm; assumption) | (refine L2.ne_of_none ?_ (by assumption); walk_at "hl") | (apply Ne.symm; refine L2.ne_of_none ?_ (by assumption); walk_at "hl") | (refine L2.ne_of (o := L2.HO.lst _) (u := L2.HO.tup _) ?_ ?_ (by intro z; cases z) <;> walk_at "hl"))
local macro_rules | `(tactic| walk_at "sq") => `(tactic| first | assumption | exact .inl (.inl (by walk_at "hl")) | exact .inl (.inl (.inl (by walk_at "hl"))) | exact .inr (.inl (.inl (by walk_at "hl"))) | exact .inl (by assumption) | exact .inr (by assumption))
local macro_rules | `(tactic| walk_at "at") => `(tactic| first | assumption | exact rfl | exact L2.atI_nat (j := 0) rfl | exact L2.atI_nat (j := 1) rfl | exact L2.atI_nat (j := 2) rfl | exact L2.atI_nat (j := 3) rfl | exact L2.atI_nat rfl | exact L2.atI_nat (by assumption))
local macro_rules | `(tactic| walk_at "r1") => `(tactic| first
  | (refine ⟨_, rfl, ?_⟩)
  | (refine ⟨_, _, rfl, rfl, ?_⟩)
  | (refine ⟨_, _, _, _, rfl, rfl, (by walk_at "sq"), (by walk_at "at"), ?_⟩)
  | (refine ⟨_, _, rfl, (by walk_at "sq"), ?_⟩)
  | (refine ⟨.inl ⟨rfl, _, L2.SqL.of (by walk_at "hl")⟩, ?_⟩)
  | (refine ⟨_, _, _, rfl, rfl, (by walk_at "hl"), (by walk_at "sd"), ?_⟩)
  | (refine ⟨_, _, _, _, rfl, rfl, (by walk_at "hl"), rfl, ?_⟩)
  | (refine And.intro (by walk_at "sd") ?_)
  | (refine .inl ⟨_, rfl, ?_⟩))
local macro_rules | `(tactic| walk_at "rd") => `(tactic| repeat walk_at "r1")
/-! ### enumerate over a tuple -/
namespace PySem
open AutoSeq1 (wpAny_loadPart')
set_option maxHeartbeats 1000000 in
theorem meets_enumerate_newT (l : Addr) (items : Array Value) :
    Meets (Builtin.«enumerate.__new__» ⟨[.type "enumerate", .ref l], []⟩) (fun _ R s => s.heap.IsTuple l items ∧
      R (.ok (.ret (.ref (s.heap.push { cls := .type "tuple_iterator", data := .fields #[.ref l, .int 0 0] }).objs.size)))
        { s with heap := (s.heap.push { cls := .type "tuple_iterator", data := .fields #[.ref l, .int 0 0] }).push { cls := .type "enumerate", data := .fields #[.none, .bool false, .ref s.heap.objs.size, rawInt 0, .none, .none] } }) :=
  .of_wp fun prog w A R s h => by
    obtain ⟨hp, g, d, tk, os⟩ := s; obtain ⟨hL, h⟩ := h
    have hsub := sub_enumerate
    wp_walk using wpAny_pyIter_tuple hL
    refine wpAny_stack_any fun st => wpAny_pure ?_
    split
    · rename_i c _ _ _ _ _
      cases (c == Value.type "enumerate")
      · wp_walk using wpAny_pyIter_tuple hL
        exact ⟨_, rfl, h⟩
      · wp_walk using wpAny_pyIter_tuple hL
        exact ⟨_, rfl, h⟩
    · wp_walk using wpAny_pyIter_tuple hL
      exact ⟨_, rfl, h⟩
section
variable {prog : Program} {w : World} {A : Around} {E : Value → Shared → Prop} {s : Shared}
theorem call_enumerate_tup {l : Addr} {items : Array Value} {Q : Value → Shared → Prop} (hL : s.heap.IsTuple l items)
    (h : ∀ h', IsEnum h' (s.heap.objs.size + 1) s.heap.objs.size 0 .none → h'.IsTupleIter s.heap.objs.size l 0 → h'.objs.size = s.heap.objs.size + 2 →
      (∀ b o, s.heap.get? b = some o → h'.get? b = some o) → Q (.ref (s.heap.objs.size + 1)) { s with heap := h' }) :
    wpAny (model prog w) A (call (.type "enumerate") [.ref l]) Q E s := by
  refine callType_new F.called_enumerate (by decide) (F.typeCall_enumerate_1 _) (F.newCall_enumerate_1 _) (fun obj => F.args_object_init_2 obj _) F.entry_enumerate_new
    (meets_enumerate_newT l items) ⟨hL, ?_⟩
  have hz : (s.heap.push { cls := .type "tuple_iterator", data := .fields #[.ref l, .int 0 0] }).objs.size = s.heap.objs.size + 1 := Heap.size_push ..
  show _ ∧ _
  rw [hz]
  have he : IsEnum ((s.heap.push { cls := .type "tuple_iterator", data := .fields #[.ref l, .int 0 0] }).push
      { cls := .type "enumerate", data := .fields #[.none, .bool false, .ref s.heap.objs.size, rawInt 0, .none, .none] }) (s.heap.objs.size + 1) s.heap.objs.size 0 .none := by
    have := Heap.get?_push_size (s.heap.push { cls := .type "tuple_iterator", data := .fields #[.ref l, .int 0 0] })
      (o := { cls := .type "enumerate", data := .fields #[.none, .bool false, .ref s.heap.objs.size, rawInt 0, .none, .none] }) rfl
    rw [hz] at this; exact this
  refine ⟨⟨_, he, rfl⟩, h _ he ⟨_, Heap.get?_push_of_some _ (Heap.get?_push_size _ rfl), rfl, rfl⟩ (by rw [Heap.size_push, hz]) fun b o x => Heap.get?_push_of_some _ (Heap.get?_push_of_some _ x)⟩
/-- next of an enumerate whose tuple is at its end -/
theorem wpAny_pyNext_enum_endU {e it l : Addr} {i : Nat} {items : Array Value} {old : Value} {Q : Option Value → Shared → Prop} (hh : A.handled = none) (he : IsEnum s.heap e it i old)
    (hit : s.heap.IsTupleIter it l i) (hl : s.heap.IsTuple l items) (hx : items[i]? = none) (hQ : ∀ h', Heap.ExtBut it s.heap h' → Q none { s with heap := h' }) : wpAny (model prog w) A (pyNext (.ref e)) Q E s := by
  have hT : s.TypeIs (.ref e) "enumerate" := ⟨_, he, rfl⟩
  unfold pyNext
  refine wpAny_bind (wpAny_attempt (wpAny_callSpecial?_slot (name := Str.ofString "__next__") hT F.slot_enumerate_next (wpAny_call_entry F.slot_enumerate_next hT F.entry_enumerate_next ?_ (F.args_enumerate_next_1 _))))
  show wpAny _ _ (field (.ref e) 2 >>= _) _ _ _
  refine wpAny_bind (wpAny_field he rfl (x := .ref it) rfl (wpAny_bind (wpAny_nextOf_tuple_end hh hit hl hx fun h' x he' ⟨o, ho, hc⟩ => ?_)))
  exact wpAny_bind (wpAny_isInstance (T := "StopIteration") (b := true) ⟨o, ho, hc⟩ isSubtype_stop (wpAny_pure (hQ _ he')))
end
end PySem
namespace L2
open PySem PySem.Spec PyProof.Rows
/-- the tuple at a, each item in a new pair -/
def ItuE (K : PySem.W.Frag) (a : Addr) : It :=
  ⟨fun i H => ∃ (xs : List V) (x : V), SqT K H a xs ∧ xs[i]? = some x, fun i H v H' => ∃ T x, v = .ref T ∧ H T = none ∧ H' = upd H T (.tup [.int (i : Nat), x]) ∧ ∀ xs, SqT K H a xs → xs[i]? = some x, fun i H => ∃ xs : List V, SqT K H a xs ∧ xs.length ≤ i⟩
theorem turn_enumT {P : Program} {w : World} {K : PySem.W.Frag} {elts : List Expr} {kk : Nat} {tpos : Pos} (a e it : Addr) :
    Turn P w K (.Tuple elts kk tpos) (ItuE K a) [e, it] e (fun i h => (∃ old, IsEnum h e it ((i : Nat) : Int) old) ∧ h.IsTupleIter it a i ∧ e ≠ it ∧ a ≠ it ∧ a ≠ e) where
  mem := by simp
  obj := fun i h st b hb => by
    obtain ⟨⟨old, he⟩, ⟨o, ho, hc, hd⟩, _⟩ := st
    have e' : b = e ∨ b = it := by simpa using hb
    rcases e' with z | z
    · rw [z]; exact ⟨_, he, fun v q => nomatch q⟩
    · rw [z]; exact ⟨o, ho, fun v q => by rw [hd] at q; cases q⟩
  keep := fun i h h' st k => let ⟨⟨old, he⟩, hi, hne⟩ := st; ⟨⟨old, k e (by simp) _ he⟩, hi.at fun o q => k it (by simp) o q, hne⟩
  item := by
    intro X hP hw hK hc i pins s σ H E I hf st hg
    subst hP hw hK
    obtain ⟨⟨old, he⟩, hit, hne, hai, hae⟩ := st
    obtain ⟨xs, x, hq, hx⟩ := hg
    obtain ⟨its, rv, p, hz⟩ := I.tuple hq
    obtain ⟨u, hu, ru⟩ := rv.get hx
    have hel : e < s.heap.objs.size := Heap.lt_size he
    have hil : it < s.heap.objs.size := by obtain ⟨_, q, _⟩ := hit; exact Heap.lt_size q
    have hlen : i < its.toArray.size := by
      have := (List.getElem?_eq_some_iff.mp hu).1
      simpa using this
    have hT0 : s.heap.IsTuple a its.toArray := p
    refine wpAny_pyNext_enum_itemD (Draws.tuple (prog := X.prog) (w := X.w) (A := X.A.in1) (show X.A.in1.handled = none from I.ok.hd hc) it a hai its.toArray) he ⟨hit, hT0⟩ hlen hne (by simp [hne, Ne.symm hae]) fun y h' tk hy ho hst' hT hsz hk => ?_
    have ey : y = u := by
      have q : its[i]? = some y := by simpa using hy
      exact Option.some.inj (q.symm.trans hu)
    subst ey
    obtain ⟨hit', _⟩ := hst'
    refine ⟨_, rfl, wpAny_letOwnedTupleGo_enum (s := { s with heap := h', toks := tk + 1 }) ho fun h'' he' sb => ?_⟩
    have hT2 : h''.get? s.heap.objs.size = some { cls := .type "tuple", data := .seq #[.int i tk, y] } := (sb.2 _ (Nat.ne_of_gt hel)).trans hT
    have new : ObjOk X.prog X.w (upd H s.heap.objs.size (.tup [.int (i : Nat), x])) h'' s.heap.objs.size (.tup [.int (i : Nat), x]) :=
      ⟨by show 2 ≤ sizeLine; decide, [.int i tk, y], .cons ⟨_, rfl⟩ (.cons ru .nil), ⟨_, hT2, rfl, _, rfl⟩⟩
    have I1 : Inv X pins σ (upd H s.heap.objs.size (.tup [.int (i : Nat), x])) { s with heap := h'', toks := tk + 1 } :=
      I.turnedNew (ch := [e, it]) (fun b ob hb q => (sb.2 b (fun z => hb (by simp [z]))).trans (hk b ob (fun z => hb (by simp [z])) (fun z => hb (by simp [z])) q)) hf (Nat.le_refl _) new
    refine ⟨.ref s.heap.objs.size, _, I1, rfl, ⟨_, x, rfl, I.hok.fresh (Nat.le_refl _), rfl, fun ys hy => by rw [I.tuple_inj hy hq]; exact hx⟩, ⟨⟨y, ?_⟩, hit'.at fun o q => (sb.2 it (Ne.symm hne)).trans q, hne, hai, hae⟩, fun b hb => ?_⟩
    · have e1 : ((i + 1 : Nat) : Int) = (i : Int) + 1 := by omega
      rw [e1]; exact he'
    · have hb' : b < s.heap.objs.size := by
        have e' : b = e ∨ b = it := by simpa using hb
        rcases e' with z | z
        · rw [z]; exact hel
        · rw [z]; exact hil
      rw [upd_ne (Nat.ne_of_lt hb')]
      exact (hf b hb).1
  done := by
    intro X hP hw hK hc i pins s σ H E I hf st hg
    subst hP hw hK
    obtain ⟨⟨old, he⟩, hit, hne, hai, hae⟩ := st
    obtain ⟨xs, hq, hx⟩ := hg
    obtain ⟨its, rv, p, hz⟩ := I.tuple hq
    obtain ⟨f0, f1, f2, f3, f4, f5⟩ := hf it (by simp)
    have hl := rv.length
    have hT0 : s.heap.IsTuple a its.toArray := p
    exact wpAny_pyNext_enum_endU (I.ok.hd hc) he hit hT0 (by simp; omega) fun h' eb => ⟨rfl, I.turned (t' := s.toks) (fun b o hb q => eb b o hb q) f0 f1 f3 f4 f5⟩
  self := fun A i s Q E st h => let ⟨⟨_, he⟩, _⟩ := st; wpAny_pyIter_enum he h
def iEnumT (K : PySem.W.Frag) (ta : TA) : TI := fun σ H R => ta σ H fun vs H1 => ∃ a xs, vs = [.ref a] ∧ SqT K H1 a xs ∧ R (ItuE K a) H1
theorem pi_enumT {X : Cx} {e : Expr} {ta : TA} {p pos tpos : Pos} {elts : List Expr} {kk : Nat} (hg : Gl X "enumerate") (hm : X.mg "enumerate" = none) (ha : PA X [e] ta) (hs : starEach [e] X.env = [(false, eval e X.env)] := by rfl) :
    PI X (.Tuple elts kk tpos) (.Call (.Name "enumerate" p) [e] [] pos) (iEnumT X.K ta) := by
  refine ⟨fun pins s σ H R I h => ?_⟩
  refine Call_ (ld_blt I hg hm boot_enumerate (PyProof.Rows.callWith_type1 (thn (ha.run pos pins s σ H _ I h) fun us s1 ⟨vs, H1, I1, r1, q1⟩ => ?_) hs rfl))
  obtain ⟨a, xs, ex, hq, q⟩ := q1
  subst ex
  cases r1 with
  | cons r rr =>
    cases rr
    cases r
    obtain ⟨its, rv, p', hz⟩ := I1.tuple hq
    have hT0 : s1.heap.IsTuple a its.toArray := p'
    have hal : a < s1.heap.objs.size := by obtain ⟨_, q, _⟩ := hT0; exact Heap.lt_size q
    refine call_enumerate_tup hT0 fun h' he hit hsz hk => wpAny_pyIter_enum he ?_
    have I2 : Inv X pins σ H1 { s1 with heap := h' } := I1.kept (t' := s1.toks) hk
    refine ⟨s1.heap.objs.size + 1, [s1.heap.objs.size + 1, s1.heap.objs.size], _, _, H1, rfl, I2, turn_enumT a (s1.heap.objs.size + 1) s1.heap.objs.size, ⟨⟨.none, he⟩, hit, Nat.succ_ne_self _, Nat.ne_of_lt hal, Nat.ne_of_lt (Nat.lt_succ_of_lt hal)⟩, fun b hb => ?_, q⟩
    have e' : b = s1.heap.objs.size + 1 ∨ b = s1.heap.objs.size := by simpa using hb
    have hle : s1.heap.objs.size ≤ b := by
      rcases e' with z | z
      · rw [z]; exact Nat.le_add_right _ _
      · rw [z]; exact Nat.le_refl _
    exact I1.fpOk hle (I1.hok.fresh hle)
end L2
namespace L2
open PySem PySem.Spec PyProof.Rows
theorem for_enumT {K : PySem.W.Frag} {a : Addr} {xs : List V} {g : TG} {tb : TS} {D : Ends} {σ : St} {H : Hp} (Pv : Nat → St → Hp → Prop) (h0 : Pv 0 σ H) (hl : ∀ i σ H, i ≤ xs.length → Pv i σ H → SqT K H a xs)
    (hs : ∀ i x σ H T, xs[i]? = some x → Pv i σ H → H T = none → g (.ref T) σ (upd H T (.tup [.int (i : Nat), x])) fun σ2 H2 => tb { D with nx := Pv (i + 1), ct := Pv (i + 1), bk := D.nx } σ2 H2)
    (hd : ∀ σ H, Pv xs.length σ H → D.nx σ H) :
    ∃ W : Nat → Nat → St → Hp → Prop, (∃ m, W 0 m σ H) ∧ ∀ i m σ H, W i m σ H →
      ((ItuE K a).stop i H ∧ D.nx σ H) ∨ ((ItuE K a).go i H ∧ ∃ N : St → Hp → Prop, (∀ σ' H', N σ' H' → ∃ m', m' < m ∧ W (i + 1) m' σ' H') ∧ ∀ x H', (ItuE K a).yld i H x H' → g x σ H' fun σ2 H2 => tb { D with nx := N, ct := N, bk := D.nx } σ2 H2) := by
  refine ⟨fun i m σ H => m = xs.length - i ∧ i ≤ xs.length ∧ Pv i σ H, ⟨xs.length, by simp, Nat.zero_le _, h0⟩, fun i m σ H hW => ?_⟩
  obtain ⟨em, hi, p⟩ := hW
  have q := hl i σ H hi p
  by_cases hlt : i < xs.length
  · refine .inr ⟨⟨xs, xs[i], q, List.getElem?_eq_getElem hlt⟩, Pv (i + 1), fun σ' H' p' => ⟨xs.length - (i + 1), by omega, rfl, hlt, p'⟩, fun x H' y => ?_⟩
    obtain ⟨T, x', ev, nT, eH, hx⟩ := y
    subst ev eH
    exact hs i x' σ H T (hx xs q) p nT
  · have ei : i = xs.length := by omega
    subst ei
    exact .inl ⟨⟨xs, q, Nat.le_refl _⟩, hd σ H p⟩
end L2

namespace L2
open PySem PySem.Spec PyProof.Rows
/-! ### o.m(e, .., k = v, ..) -/
def tMethN (C : Addr) (m : Str) (n j : Nat) (sp : Sp) (gV : List V → List V → List V) (E : XK) (ta : TE) (t tk : TA) : TE := fun σ H Q => ta σ H fun x H1 => ∃ a dx fs, x = .ref a ∧ H1 a = some (.ins C dx fs) ∧ fs.lookup m = none ∧
  t σ H1 fun vs H2 => tk σ H2 fun zs H3 => vs.length + 1 = n ∧ zs.length = j ∧ sp (gV (x :: vs) zs) H3 Q E
section
variable {X : Cx} {CX : CXT} {k n : Nat} {f C : Addr} {fd : FuncData} {ps ks : List Str} {sp : Sp} {E : XK} {m : Str} {pos apos : Pos} {e o : Expr} {es : List Expr} {kws : List Keyword} {ta : TE} {t tk : TA} {g : List Value → List Value → List Value} {gV : List V → List V → List V}
theorem pe_methN {pl : Sem Bool} (he : PE X o ta) (c : Cls X.K C) (hm : Meth X.K C m f) (F : FnOk X.prog X.w X.K X.mg X.base CX k f fd ps sp) (hr : Room k X.A) (hb : KBn X.K fd ps n ks g gV) (hx : Passes CX X E) (ha : PA X (e :: es) t) (hkw : PK X kws tk)
    (hall : (backToKw pos (keywordEach kws X.env)).all (·.1.isSome) = true := by rfl) (hks : (backToKw pos (keywordEach kws X.env)).filterMap (·.1) = ks := by rfl)
    (hst : starEach (e :: es) X.env = (false, eval e X.env) :: starEach es X.env := by rfl)
    (hpl : ((backTo pos (starEach (e :: es) X.env)).any (·.1) || (backToKw pos (keywordEach kws X.env)).any (·.1.isNone)) = false := by rfl)
    (ht : eval (.Call (.Attribute o m apos) (e :: es) kws pos) X.env = (do
      let ov ← eval o X.env
      standAt apos.atName
      let (f, first) ← holding [ov] (getMethod ov m pl)
      callWith pos f first (backTo pos (starEach (e :: es) X.env)) (backToKw pos (keywordEach kws X.env))) := by rfl) :
    PE X (.Call (.Attribute o m apos) (e :: es) kws pos) (tMethN C m n ks.length sp gV E ta t tk) := by
  refine ⟨fun pins s σ H Q I h => PySem.W.methodCall_KW (pl := pl) (thn (he.run pins s σ H _ I h) fun u s1 ⟨x, H1, I1, rx, a, dx, fs, ex, ea, l, q⟩ => ?_) ht⟩
  subst ex
  obtain rfl : u = Value.ref a := rx
  refine getmeth_ok I1 ea c hm l ?_
  refine PySem.W.callWith_KW (first := [.ref a]) (h₀ := X.base) I.ok.mod.kin hm.kp hall (thn (ha.run pos pins s1 σ H1 _ I1 q) fun us s2 ⟨vs, H2, I2, r, q2⟩ => ?_) hpl hst
  refine thn (hkw.run pos pins s2 σ H2 _ I2 q2) fun ws s3 ⟨zs, H3, I3, rz, l1, l2, q3⟩ => ⟨I3.kIn, ?_⟩
  rw [hks]
  exact run_fnN (us := .ref a :: us) (vs := .ref a :: vs) F hr hb hx I3 (.cons rfl r) rz l1 l2 q3
end
section
variable {P : Program} {w : World} {K : PySem.W.Frag} {mg : Str → Option Value} {base : Heap} {x qual : Str} {params : Arguments} {body : List Stmt} {scope : Scope} {dvs : List V} {kws : List (Str × V)} {f : Addr} {fd : FuncData}
/-- a def with defaults that lets nothing out -/
theorem FunD.ok0 {N ps : List Str} {k : Nat} {sp : Sp} (F : FunD K x qual params body scope dvs kws f fd) (S : FnScope N ps scope) (len : ∀ vs H Q E, sp vs H Q E → vs.length = ps.length)
    (hb : ∀ (cdv : Value) (A : Around) (outer : List Env) (s : Shared) (H : Hp) (vs : List V) (Q : VK) (E : XK), Room k (A.deeper (envOfC qual scope s.heap.objs.size f cdv)) → sp vs H Q E →
      ∃ t, PSs (cxOf CX0 P w K mg base N qual scope f cdv A outer s H E).nox body t ∧ t { nx := fun _ H' => Q .non H', rt := Q } (start N vs) H) : FnOk P w K mg base CX0 (k + 1) f fd ps sp :=
  F.ok S len fun cdv A outer s H vs Q E hr h => (hb cdv A outer s H vs Q E hr h).elim fun t ⟨h1, h2⟩ => ⟨t, h1.nox, h2⟩
end
end L2

namespace L2
open PySem PySem.Spec PyProof.Rows
/-! ### x op y by an own def of the class of both -/
def rOwnI (C : Addr) (sp : Sp) (E : XK) : R2 := fun x y H Q => ∃ a dx fs b dy gs, x = .ref a ∧ y = .ref b ∧ H a = some (.ins C dx fs) ∧ H b = some (.ins C dy gs) ∧ sp [x, y] H Q E
section
variable {X : Cx} {CX : CXT} {n : Nat} {C g : Addr} {fd : FuncData} {ps : List Str} {sp : Sp} {E : XK}
theorem op_cmpI {op : CmpOp} (hop : ∀ a b, compareOp op a b = richCompare op a b) (hs : PySem.W.findIn X.K (.ref C) (cmpInfo op).2.1 = some (some (.ref g))) (hf : PySem.W.isFn X.K (.ref g) = true)
    (F : FnOk X.prog X.w X.K X.mg X.base CX n g fd ps sp) (hr : Room n X.A) (hb : Binds X.K fd ps []) (hx : Passes CX X E) : OpR X (compareOp op) (rOwnI C sp E) := by
  intro pins s σ H x y v u Q I rx ry h
  obtain ⟨a, dx, fs, b, dy, gs, rfl, rfl, ha, hb', q⟩ := h
  cases rx
  cases ry
  obtain ⟨mA, J, _⟩ := ins_get I.hok ha
  obtain ⟨mB, J', _⟩ := ins_get I.hok hb'
  obtain ⟨od, J, _⟩ := J.look
  obtain ⟨od', J', _⟩ := J'.look
  obtain ⟨m, hF⟩ := I.fr
  rw [hop]
  refine PySem.W.cmp_K (op := op) (tb := .ref C) hr.units0 hF I.ok.mod.kin J J'.type (by simp [PySem.W.notFirst]) hs hf ?_
  refine wpAny_mono (run_fn (us := [.ref a, .ref b]) (vs := [.ref a, .ref b]) (dvs := []) F hr hb .nil hx I (.cons rfl (.cons rfl .nil)) q) (fun w s' z => ?_) fun _ _ x => x
  obtain ⟨z', H', I', rz, qz⟩ := z
  exact SlX.cmpback rz ⟨z', H', I', rz, qz⟩
theorem op_binI {op : Operator} (hc : PySem.W.selfFirst X.K C = true) (hs : PySem.W.findIn X.K (.ref C) (PySem.dunder op.info.2) = some (some (.ref g))) (hf : PySem.W.isFn X.K (.ref g) = true)
    (F : FnOk X.prog X.w X.K X.mg X.base CX n g fd ps sp) (hr : Room n X.A) (hb : Binds X.K fd ps []) (hx : Passes CX X E) : OpR X (binaryOp op) (rOwnI C sp E) := by
  intro pins s σ H x y v u Q I rx ry h
  obtain ⟨a, dx, fs, b, dy, gs, rfl, rfl, ha, hb', q⟩ := h
  cases rx
  cases ry
  obtain ⟨mA, J, _⟩ := ins_get I.hok ha
  obtain ⟨mB, J', _⟩ := ins_get I.hok hb'
  obtain ⟨od, J, _⟩ := J.look
  obtain ⟨od', J', _⟩ := J'.look
  obtain ⟨m, hF⟩ := I.fr
  refine PySem.W.binop_K (op := op) hF I.ok.mod.kin J J'.type hc hs hf ?_
  refine wpAny_mono (run_fn (us := [.ref a, .ref b]) (vs := [.ref a, .ref b]) (dvs := []) F hr hb .nil hx I (.cons rfl (.cons rfl .nil)) q) (fun w s' z => ?_) fun _ _ x => x
  obtain ⟨z', H', I', rz, qz⟩ := z
  exact SlX.cmpback rz ⟨z', H', I', rz, qz⟩
end
end L2

/-! ### errors whose __init__ says super().__init__(text) and stores one field -/
namespace PySem
namespace WX
open PySem.W PySem.Calls PyProof.Rows PySem.HandSPX
def iB (fl tx : Str) (q1 q2 q3 q4 q5 q6 q7 q8 q9 q10 : Pos) (j : Nat) : List Stmt :=
  [.Expr (.Call (.Attribute (.Call (.Name "super" q1) [] [] q2) "__init__" q3) [.Constant (.str tx) j q4] [] q5) q6, .Assign [.Attribute (.Name "self" q7) fl q8] (.Name fl q9) q10]
/-- what the top has written of the class cn, at C, and of its __init__, at fI -/
structure ExcTxt (P : Program) (K : Frag) (mg : Str → Option Value) (cn fl : Str) (C : Addr) where
  gC : mg cn = some (.ref C)
  cls : ∃ nm q N bs bm sn sub ab col dd k0 k1 k2 k3 k5, K.lookup C = some (excClassObj nm q C N bs bm true sn sub ab col dd k0 k1 k2 k3 k5 "ValueError.__new__") ∧ refsVE bm = true
  sa : findIn K (.ref C) "__setattr__" = some (some (.builtin "object.__setattr__"))
  ga : findIn K (.ref C) "__getattribute__" = some (some (.builtin "BaseException.__getattribute__"))
  gg : findIn K (.ref C) "__getattr__" = some none
  noN : findIn K (.ref C) fl = some none
  kC : keepIn K (.ref C) = true
  exC : subIn K (.ref C) (.type "BaseException") = some true
  tyC : typeIn K (.ref C) = some (.type "type")
  hdC : hasDictIn K C = true
  D : Addr
  clsD : ∃ oD cdD, K.lookup D = some oD ∧ oD.data = .cls cdD
  fI : Addr
  qual : Str
  tx : Str
  S : Stmt
  oc : Value
  od : Option Addr
  kV : Value
  doc : Value
  pm : Value
  an : Option Addr
  cda : Addr
  ct : Value
  osl : Array (Option Value)
  cc : Addr
  cl : Value
  cld : Option Addr
  csl : Array (Option Value)
  ccl : Value
  cdd : Option Addr
  vs : Array Value
  ccs : Array (Option Value)
  file : Str
  tf : Tok
  q1 : Pos
  q2 : Pos
  q3 : Pos
  q4 : Pos
  q5 : Pos
  q6 : Pos
  q7 : Pos
  q8 : Pos
  q9 : Pos
  q10 : Pos
  j : Nat
  pl : Sem Bool
  iC : findIn K (.ref C) "__init__" = some (some (.ref fI))
  tI : typeIn K (.ref fI) = some (.type "function")
  lI : K.lookup fI = some ⟨oc, od, .func (ksFn "__init__" qual (L2.defArgs S) (L2.defBody S) (L2.defScope S) .none kV doc pm an (.ref cda) ct cc), osl⟩
  cI : codeIn K (.ref cda) qual = true
  lcc : K.lookup cc = some ⟨cl, cld, .cell (some (.ref D)), csl⟩
  lcd : K.lookup cda = some ⟨ccl, cdd, .fields vs, ccs⟩
  hvs : vs[2]? = some (.str file tf)
  hfile : ((P.main.file : Str) == file) = true
  hpar : ∃ ar : Arg, ((L2.defArgs S).posonlyargs ++ (L2.defArgs S).args).head? = some ar ∧ ar.arg = "self"
  hbody : L2.defBody S = iB fl tx q1 q2 q3 q4 q5 q6 q7 q8 q9 q10 j
  hbind : ∀ x v : Value, bindArgs (ksFn "__init__" qual (L2.defArgs S) (L2.defBody S) (L2.defScope S) .none kV doc pm an (.ref cda) ct cc) ⟨[x, v], []⟩ = pure [(("self" : Str), x), (fl, v)]
  hev : ∀ L f : Addr, eval (.Call (.Attribute (.Call (.Name "super" q1) [] [] q2) "__init__" q3) [.Constant (.str tx) j q4] [] q5) (ksEnv qual (L2.defScope S) L f (.ref cda) cc) = (do
      let ov ← attributeBase (.Call (.Name "super" q1) [] [] q2) "__init__" (ksEnv qual (L2.defScope S) L f (.ref cda) cc) (eval (.Call (.Name "super" q1) [] [] q2) (ksEnv qual (L2.defScope S) L f (.ref cda) cc))
      standAt q3.atName
      let (g, first) ← holding [ov] (getMethod ov "__init__" pl)
      callWith q5 g first (backTo q5 (starEach [.Constant (.str tx) j q4] (ksEnv qual (L2.defScope S) L f (.ref cda) cc))) [])
  hk : (L2.defScope S).kind = .function
  hco : (L2.defScope S).isCoroutine = false
  hgen : (L2.defScope S).isGenerator = false
  hks : (L2.defScope S).names.lookup ("super" : Str) = some .globalImplicit
  hkc : (L2.defScope S).names.lookup ("__class__" : Str) = some .free
  hself : (L2.defScope S).names.lookup ("self" : Str) = some .local
  hfl : (L2.defScope S).names.lookup fl = some .local
  hcell : ∀ y ∈ (L2.defScope S).names, y.2 ≠ .cell
  nf : ("self" : Str) ≠ fl ∧ (fl == ("__debug__" : Str)) = false
  top : (P.main.scope.names.lookup ("super" : Str)).isSome = false
  sup : mg "super" = none
  opq : nsIn K cStatics "thirdparty.any" = some none
  nxt : ks_superIn K C D "__init__" = some (some (.builtin "ValueError.__init__"))
  slf : mroIn K C (.ref D) = some true
  sub : subIn K (.ref C) (.type "ValueError") = some true
section
variable {P : Program} {w : World} {A : Around} {E : Value → Shared → Prop} {R : Result → Shared → Prop} {s : Shared} {K : Frag} {mg : Str → Option Value} {cn fl : Str} {C : Addr}
/-- the method-wrapper of ValueError.__init__ called -/
theorem call_mw {h : Heap} {g : Array GenState} {d : Drawn} {t : Nat} {os : OsState} {nm q : Str} {N : Addr} {bs bm : List Value} {hdct : Bool} {sn : List Str} {sub : List Value} {ab : Bool} {col : Option Bool} {dd : Option Addr} {k0 k1 k2 k3 k5 : Option Value} {u e t0 : Addr} {rest : List Value} {Q : Value → Shared → Prop}
    (hC : h.get? C = some (excClassObj nm q C N bs bm hdct sn sub ab col dd k0 k1 k2 k3 k5 "ValueError.__new__")) (he : h.get? e = some (excO C t0)) (hu : h.get? u = some (kxs_mw "ValueError.__init__" e)) (hrest : rest.length ≤ sizeLine)
    (hq : ∀ h' t1, (∀ b o, b ≠ e → h.get? b = some o → h'.get? b = some o) → h'.get? e = some (excO C t1) → Q .none ⟨h', g, d, t, os⟩) :
    wpAny (model P w) A (call (.ref u) rest) Q E ⟨h, g, d, t, os⟩ := by
  refine wpAny_call (codeAny_of_tree ?_)
  show wpAny _ A.in1 (callAny (.ref u) ⟨rest, []⟩) _ _ _
  simp only [callAny]
  refine wpAny_bind (wpAny_load hu ?_)
  simp only [kxs_mw, show (Value.type "method-wrapper" == Value.type "method" || Value.type "method-wrapper" == Value.type "builtin_function_or_method" || Value.type "method-wrapper" == Value.type "method-wrapper") = true by decide, if_true]
  refine KFB.if_so (by decide) (wpAny_bind (check_bound_init PySem.F.excBase_ValueError.toExcCallFacts hC he rfl (wpAny_bind (wpAny_pure (wpAny_pure ?_)))))
  refine ⟨plainId_quiet PySem.F.excBase_ValueError.init.plain _, codeAny_builtin PySem.F.excBase_ValueError.initEntry ?_⟩
  exact exc_init_tree (cls := .ref C) (t0 := t0) (dv := none) (c2 := .none) (c3 := .none) (b4 := .bool false) he hrest fun h' k e' _ => hq h' _ k e'
/-- what __init__ leaves of a fresh exception at x -/
structure InitEnd (h h' : Heap) (x C dx : Addr) (fl : Str) (v : Value) : Prop where
  keep : ∀ b o, b ≠ x → h.get? b = some o → h'.get? b = some o
  obj : ∃ t1 : Addr, h'.get? x = some { cls := .ref C, dict := some dx, data := .fields #[.ref t1, .none, .none, .none, .bool false, .none] }
  dbig : h.objs.size ≤ dx
  dne : dx ≠ x
  ns : h'.Ns1 dx (fun y => if y = fl then some v else none)
theorem x_init (T : ExcTxt P K mg cn fl C) {x t0 : Addr} {v : Value} (X : K.In s.heap) (hlim : s.heap.NoLimit) (hG : s.heap.Ns mainGlobals mg) (hB : ∃ mb, s.heap.Ns builtinsNs mb ∧ ∀ y : Str, y ≠ "__name__" → mb y = bootBuiltins y)
    (hx : s.heap.get? x = some (excO C t0)) (hnx : K.lookup x = none) (hroom : A.depth < recursionLimit)
    (hq : ∀ h' tk dx, InitEnd s.heap h' x C dx fl v → R (.ok (.ret .none)) { s with heap := h', toks := tk }) :
    codeAny (model P w) A (.call (.ref T.fI) ⟨[.ref x, v], []⟩) R s := by
  obtain ⟨nm, q, N, bs, bm, sn, sub, ab, col, dd, k0, k1, k2, k3, k5, hC, hbm⟩ := T.cls
  obtain ⟨oD, cdD, hD, hDd⟩ := T.clsD
  have hcl : clsIn K C = some { name := nm, bases := bs, mro := .ref C :: bm, ns := N, qualname := q, hasDict := true, slotNames := sn, subclasses := sub, abstract := ab, collection := col, hasDel := false } := by unfold clsIn; rw [hC] <;> rfl
  have hxC : x ≠ C := fun z => by
    have e1 := X _ _ hC
    rw [← z, hx] at e1
    have e2 := congrArg (fun o : Option Obj => o.map (·.data)) e1
    simp [excO, excClassObj] at e2
  have ho := T.lI
  refine ks_codeAny_call_defAt (fd := ksFn "__init__" T.qual (L2.defArgs T.S) (L2.defBody T.S) (L2.defScope T.S) .none T.kV T.doc T.pm T.an (.ref T.cda) T.ct T.cc) (body := L2.defBody T.S) (binds := [("self", .ref x), (fl, v)])
    hroom (X _ _ ho) rfl hlim (codeRec_of X T.cI) rfl (BindsTo.of_eq (T.hbind _ _)) T.hcell ?hloc (fun h₁ hns hk₁ => ?_) T.hco T.hgen T.hk
  case hloc =>
    intro y hy
    simp only [List.mem_cons, List.not_mem_nil, or_false] at hy
    rcases hy with rfl | rfl
    · exact T.hself
    · exact T.hfl
  have X₁ : K.In h₁ := X.keeps hk₁
  have hx₁ := hk₁ _ _ hx
  have ms : (fun y : Str => ([("self", Value.ref x), (fl, v)] : List (Str × Value)).reverse.lookup y) "self" = some (.ref x) := by
    have z : (("self" : Str) == fl) = false := by simpa using T.nf.1
    simp [List.lookup, z]
  have mf : (fun y : Str => ([("self", Value.ref x), (fl, v)] : List (Str × Value)).reverse.lookup y) fl = some v := by simp [List.lookup]
  show wpAt _ (A.deeper (ksEnv T.qual (L2.defScope T.S) s.heap.objs.size T.fI (.ref T.cda) T.cc)) (.func (L2.defBody T.S) (ksEnv T.qual (L2.defScope T.S) s.heap.objs.size T.fI (.ref T.cda) T.cc)) (execs (L2.defBody T.S) (ksEnv T.qual (L2.defScope T.S) s.heap.objs.size T.fI (.ref T.cda) T.cc)) _ _ _
  rw [T.hbody]
  refine ks_wpAt_execs_cons (ks_wpAt_Expr_any (ks_wpAt_MethodCall ?_ (T.hev _ _)) (by unfold interactive; show ((L2.defScope T.S).kind == .module && _) = false; rw [T.hk]; rfl))
  obtain ⟨ar, hp, har⟩ := T.hpar
  obtain ⟨mb, hB1, hB2⟩ := hB
  refine ks_wpAt_super_base T.hks T.hkc (by decide +kernel) rfl (hk₁ _ _ (X _ _ ho)) rfl hp rfl (hk₁ _ _ (X _ _ T.lcd)) rfl T.hvs T.hfile T.top ?_
  refine ks_loadName_global T.hk T.hks (loadGlobal_builtin (hG.keeps hk₁) T.sup (hB1.keeps hk₁) ((hB2 _ (by decide +kernel)).trans PyProof.Rows.Boot.«super») ⟨rfl, ?_⟩)
  refine wpAny_loadName_free T.hk T.hkc rfl ⟨_, X₁ _ _ T.lcc, rfl⟩ ?_
  rw [har]
  refine wpAny_loadName_local T.hk T.hself hns ms ?_
  refine ks_wpAny_isType_cls (X₁ _ _ hD) hDd ⟨rfl, ?_⟩
  refine ks_wpAny_call_super (X₁ _ _ hD) hDd hx₁ rfl (fun c e => by cases e) (looks_mroIn X₁ T.slf) (fun h₂ e₂ k₂ => ?_)
  have X₂ : K.In h₂ := X₁.keeps k₂
  have hx₂ := k₂ _ _ hx₁
  have I₂ : InstAt h₂ x (excO C t0) C none := ⟨hx₂, rfl, rfl, trivial⟩
  have hnxt : alongIn K "__init__" (((Value.ref C :: bm).dropWhile (· != .ref T.D)).drop 1) = some (some (.builtin "ValueError.__init__")) := by
    have z := T.nxt
    unfold ks_superIn at z
    rw [hcl] at z
    exact z
  refine kxs_getMethod kxs_ValueError e₂ (looks_opaque X₂ T.opq) (l₀ := Value.ref C :: bm) (fun A Q E s k q => wpAny_bind ((looks_clsIn X₂ hcl) A _ E s k (wpAny_pure q))) rfl X₂ hnxt (I₂.type.andThen (looks_subIn X₂ T.sub)) hxC (by decide +kernel) ?_
  have k₃ : ∀ b o, h₂.get? b = some o → (h₂.push (kxs_mw "ValueError.__init__" x)).get? b = some o := fun b o e => Heap.get?_push_of_some _ e
  refine kxs_callWith (i := "ValueError.__init__") (x := x) rfl (evalArgs_plain (spliced_more (wpAny_Constant_str (spliced_none ?_))))
  refine ⟨Heap.get?_push_at rfl rfl, ?_⟩
  refine call_mw (k₃ _ _ (X₂ _ _ hC)) (k₃ _ _ hx₂) (Heap.get?_push_at rfl rfl) (by show 1 ≤ sizeLine; decide) fun h₄ t1 k₄ hx₄ => ?_
  have k14 : ∀ b o, b ≠ x → h₁.get? b = some o → h₄.get? b = some o := fun b o hb e => k₄ b o hb (k₃ _ _ (k₂ _ _ e))
  have hxL : s.heap.objs.size ≠ x := Nat.ne_of_gt (Heap.lt_size hx)
  have hns₄ : h₄.Ns s.heap.objs.size (fun y : Str => ([("self", Value.ref x), (fl, v)] : List (Str × Value)).reverse.lookup y) := by
    obtain ⟨oL, es, ep, hL, r⟩ := hns
    exact ⟨oL, es, ep, k14 _ _ hxL hL, r⟩
  have X₄ : K.In h₄ := fun b o e => k14 b o (fun z => by rw [z, hnx] at e; cases e) (X₁ _ _ e)
  refine ks_wpAt_execs_cons (ks_wpAt_Assign_Attr (wpAt_of_wpAny (wpAny_Name (wpAny_loadName_local T.hk T.hfl hns₄ mf ?_) T.nf.2)))
  refine wpAny_Name (wpAny_loadName_local T.hk T.hself hns₄ ms ?_)
  refine set_plain X₄ (ox := excO C t1) (od := none) ⟨hx₄, rfl, rfl, trivial⟩ T.sa ?_
  refine exc_osa X₄ hx₄ hcl (show refsVE (.ref C :: bm) = true from hbm) rfl T.noN (fun h₅ tk₅ dx k₅ dn dne hx₅ hn₅ => ?_)
  exact wpAt_of_wpAny (wpAny_execs_nil (hq h₅ tk₅ dx ⟨fun b o hb e => k₅ b o hb (k14 b o hb (hk₁ b o e)), ⟨t1, hx₅⟩, Nat.le_trans (Nat.le_of_lt hns₄.lt) dn, dne, hn₅⟩))
/-- a made error -/
structure OwnMade (h h' : Heap) (e C d : Addr) (fl : Str) (v : Value) : Prop where
  keep : ∀ b o, h.get? b = some o → h'.get? b = some o
  new : h.objs.size ≤ e
  obj : ∃ oe vs, h'.get? e = some oe ∧ oe.cls = .ref C ∧ oe.dict = some d ∧ oe.data = .fields vs ∧ vs[1]? = some .none
  dbig : h.objs.size ≤ d
  dne : d ≠ e
  ns : h'.Ns1 d (fun y => if y = fl then some v else none)
theorem x_made (T : ExcTxt P K mg cn fl C) {v : Value} (X : K.In s.heap) (hlim : s.heap.NoLimit) (hG : s.heap.Ns mainGlobals mg) (hB : ∃ mb, s.heap.Ns builtinsNs mb ∧ ∀ y : Str, y ≠ "__name__" → mb y = bootBuiltins y) (hroom : A.depth + 1 < recursionLimit)
    (hq : ∀ h' tk e d, OwnMade s.heap h' e C d fl v → R (.ok (.ret (.ref e))) { s with heap := h', toks := tk }) :
    codeAny (model P w) A (.call (.ref C) ⟨[v], []⟩) R s := by
  obtain ⟨nm, q, N, bs, bm, sn, sub, ab, col, dd, k0, k1, k2, k3, k5, hC, hbm⟩ := T.cls
  obtain ⟨hp, g, dr, tk, os⟩ := s
  have k : ∀ b o, hp.get? b = some o → ((hp.push (kdv_tup [v])).push (excO C hp.objs.size)).get? b = some o := fun b o e => Heap.get?_push_of_some _ (Heap.get?_push_of_some _ e)
  have hget : ((hp.push (kdv_tup [v])).push (excO C hp.objs.size)).get? (hp.objs.size + 1) = some (excO C hp.objs.size) := by heap_get
  have hnx : K.lookup (hp.objs.size + 1) = none := by
    cases e : K.lookup (hp.objs.size + 1) with
    | none => rfl
    | some o => exact absurd (Nat.lt_of_succ_lt (Heap.lt_size (show hp.get? (hp.objs.size + 1) = some o from X _ _ e))) (Nat.lt_irrefl _)
  obtain ⟨mb, hB1, hB2⟩ := hB
  refine call_own PySem.F.excBase_ValueError (fun X => refsVE_contains X bm hbm) (X _ _ hC) (looks_findIn X T.iC) (fun self => bind_fn X self T.tI) (by show 1 ≤ sizeLine; decide) ?_
  refine x_init (s := ⟨(hp.push (kdv_tup [v])).push (excO C hp.objs.size), g, dr, tk, os⟩) T (X.keeps k) (hlim.keeps k) (hG.keeps k) ⟨mb, hB1.keeps k, hB2⟩ hget hnx (show A.depth + 1 < recursionLimit from hroom) fun h' tk' dx ⟨k', ⟨t1, hx⟩, dn, dne, hns⟩ => ?_
  have old : ∀ b o, hp.get? b = some o → h'.get? b = some o := fun b o e => k' b o (Nat.ne_of_lt (Nat.lt_succ_of_lt (Heap.lt_size e))) (k b o e)
  have z : hp.objs.size + 1 + 1 ≤ dx := by
    first
      | (simpa only [Heap.size_push] using dn)
      | exact dn
      | (have q := dn; rw [Heap.size_push, Heap.size_push] at q; exact q)
  exact ⟨rfl, hq h' tk' (hp.objs.size + 1) dx ⟨old, Nat.le_succ _, ⟨_, _, hx, rfl, rfl, rfl, rfl⟩, Nat.le_trans (Nat.le_trans (Nat.le_succ _) (Nat.le_succ _)) z, dne, hns⟩⟩
end
end WX
end PySem
namespace L2
open PySem PySem.Spec PyProof.Rows
theorem relO_x {v : V} {v' : Value} (fl : Str) (r : RelV v v') (f : Str) : RelO (List.lookup f [(fl, v)]) (if f = fl then some v' else none) := by
  by_cases hw : f = fl
  · subst hw
    rw [if_pos rfl, show List.lookup f [(f, v)] = some v by simp [List.lookup]]
    exact r
  · rw [if_neg hw, show List.lookup f [(fl, v)] = none by simp [List.lookup, show (f == fl) = false by simpa using hw]]
    trivial
section
variable {X : Cx} {C : Addr} {cn fl : Str}
/-- cn(e) -/
def tMkX (C : Addr) (fl : Str) (ta : TA) : St → Hp → XK → Prop := fun σ H Q => ta σ H fun vs H1 => ∃ v, vs = [v] ∧ ∀ d, H1 d = none → Q (.ref C) (some d) (upd H1 d (.xd [(fl, v)]))
theorem pmk_x {a : Expr} {ta : TA} {p pos : Pos} {k : Nat} (T : PySem.WX.ExcTxt X.prog X.K X.mg cn fl C) (hr : Room k X.A) (ha : PA X [a] ta) (hg : Gl X cn := by rfl) (hdb : (cn == ("__debug__" : Str)) = false := by decide)
    (he : starEach (a :: []) X.env = (false, eval a X.env) :: starEach [] X.env := by rfl) (hpl : (backTo pos (starEach [] X.env)).any (·.1) = false := by rfl) :
    PMk X (.Call (.Name cn p) [a] [] pos) (tMkX C fl ta) := by
  intro pins s σ H Q I h
  refine wpAny_Call_Name_kw (ld_glob I hg T.gC ?_ hdb)
  refine PySem.W.callWith_K (h₀ := X.base) I.ok.mod.kin T.kC (thn (ha.run pos pins s σ H _ I h) fun us s1 hh => ?_) he hpl
  obtain ⟨vs, H1, I1, r1, v, ev, q1⟩ := hh
  subst ev
  refine ⟨I1.kIn, ?_⟩
  cases r1 with
  | cons rv rn =>
    rename_i v' us'
    cases rn
    show wpAny _ _ (call (.ref C) [v']) _ _ _
    have hlim := I1.nolimit
    have hG := I1.mod.glob.keeps I1.bk
    obtain ⟨mb, hB1, hB2⟩ := I1.mod.blt
    have hB1' := hB1.keeps I1.bk
    obtain ⟨hp, g, dr, tk, os⟩ := s1
    refine wpAny_call (PySem.WX.x_made T I1.kIn hlim hG ⟨mb, hB1', hB2⟩ (by have := hr.dp; omega) fun h' tk' e d M => ?_)
    show MkP X pins σ Q (.ref e) ⟨h', g, dr, tk', os⟩
    obtain ⟨oe, fv, hoe, hc, hd, hdat, h1⟩ := M.obj
    obtain ⟨G', g1, g2⟩ := restrict h' fun b => decide (b ≠ e)
    have gk : ∀ b, b ≠ e → G'.get? b = h'.get? b := fun b hb => g1 b (decide_eq_true hb)
    have ge : G'.get? e = none := g2 e (by simp)
    have old : ∀ b o, hp.get? b = some o → G'.get? b = some o := fun b o q => (gk b (Nat.ne_of_lt (Nat.lt_of_lt_of_le (Heap.lt_size q) M.new))).trans (M.keep b o q)
    have ob : ObjOk X.prog X.w (upd H1 d (.xd [(fl, v)])) G' d (.xd [(fl, v)]) := ⟨_, M.ns.at (fun o q => (gk d M.dne).trans q), fun f => relO_x fl rv f⟩
    have J : Inv X pins σ (upd H1 d (.xd [(fl, v)])) ⟨G', g, dr, tk', os⟩ := I1.laid (t' := tk') old M.dbig ob
    refine ⟨e, oe, fv, ⟨G', g, dr, tk', os⟩, _, .ref C, some d, rfl, J, fun b o q => ?_, ge, hoe, ⟨hc, hd⟩, hdat, h1, ?_, rfl, I1.bare, raises_own T.exC T.tyC, q1 d (I1.hok.fresh M.dbig)⟩
    · by_cases hb : b = e
      · have q' : G'.get? b = some o := q
        rw [hb, ge] at q'; cases q'
      · exact (gk b hb).symm.trans q
    · rw [upd_ne (Ne.symm M.dne)]
      exact I1.hok.fresh M.new
/-- raise cn(e) -/
def tRaiseX (C : Addr) (fl : Str) (W : WX) (ta : TA) : TS := fun _ σ H => tMkX C fl ta σ H fun cls d H' => W cls d σ H'
theorem ps_raiseX {a : Expr} {ta : TA} {W : WX} {p pos pos2 : Pos} {k : Nat} (hc : X.calm = true) (T : PySem.WX.ExcTxt X.prog X.K X.mg cn fl C) (hr : Room k X.A) (tk : Takes X W) (ha : PA X [a] ta) (hg : Gl X cn := by rfl) (hdb : (cn == ("__debug__" : Str)) = false := by decide)
    (he : starEach (a :: []) X.env = (false, eval a X.env) :: starEach [] X.env := by rfl) (hpl : (backTo pos (starEach [] X.env)).any (·.1) = false := by rfl) :
    PS X (.Raise (some (.Call (.Name cn p) [a] [] pos)) none pos2) (tRaiseX C fl W ta) := ps_raise hc tk (pmk_x T hr ha hg hdb he hpl)
end
end L2

namespace L2
open PySem PySem.Spec PyProof.Rows
/-! ### in an except suite: isinstance(e, c) and e.f, e an own error with a dict -/
structure XC (K : PySem.W.Frag) (D : Addr) : Prop where
  ga : PySem.W.findIn K (.ref D) "__getattribute__" = some (some (.builtin "BaseException.__getattribute__"))
  gg : PySem.W.findIn K (.ref D) "__getattr__" = some none
  hs : PySem.W.subIn K (.ref D) (.type "BaseException") = some true
  hd : PySem.W.hasDictIn K D = true
  ha : PySem.W.findIn K (.ref D) "__class__" = some (some (.builtin "object.__class__"))
  hn : PySem.W.specialIn K (.builtin "object.__class__") "__get__" = some (some (.builtin "getset_descriptor.__get__"))
  ht : PySem.W.takesIn K (.builtin "object.__class__") = some true
  hm : PySem.W.mroIn K D (.type "object") = some true
def rIsX (K : PySem.W.Frag) (a : Addr) (cls : Value) (d : Option Addr) : List V → Hp → VK → Prop := fun xs H Q => ∃ (D dd : Addr) (fs : List (Str × V)) (c : V) (cv : Value) (b : Bool), cls = .ref D ∧ d = some dd ∧ H dd = some (.xd fs) ∧ XC K D ∧ xs = [.ref a, c] ∧ ClsV c cv ∧ PySem.W.kitOne K (.ref D) cv = some b ∧ Q (.bl b) H
theorem call_isX {X : Cx} {a : Addr} {oe : Obj} {cls : Value} {d : Option Addr} {pn : List (Addr × Obj)} (hz : Zc cls d oe) (hf : ∃ vs, oe.data = .fields vs) : CallR (X.suite a ((a, oe) :: pn)) (.builtin "isinstance") (rIsX X.K a cls d) := by
  intro pins s σ H xs us Q I r h
  obtain ⟨D, dd, fs, c, cv, b, rfl, rfl, hdd, C, rfl, hcv, e, q⟩ := h
  cases r with
  | cons rx rr =>
    cases rr with
    | cons rt rr =>
      cases rr
      cases rx
      have ec := hcv.eq rt
      subst ec
      obtain ⟨hget, _⟩ := I.pin (a, oe) (List.mem_append.mpr (.inl List.mem_cons_self))
      obtain ⟨vs, hv⟩ := hf
      have hx : ObjOk X.prog X.w H s.heap dd (.xd fs) := I.hok dd _ hdd
      obtain ⟨mA, hns, hr⟩ := hx
      obtain ⟨od, ho, hl⟩ := lookIn_ns hns
      have J : PySem.W.InstAt s.heap a oe D (some od) := ⟨hget, hz.1, by unfold PySem.W.notCls; rw [hv] <;> rfl, by rw [hz.2]; exact ho⟩
      obtain ⟨cd, hc, _⟩ := PySem.W.any_some C.hd
      exact PySem.W.kia_one (PySem.W.kitx_exc (by rw [hc]; rfl) C.ga C.gg C.hs C.ha C.hn C.ht C.hm) I.kIn J e (fun z => nomatch z) fun tk => ⟨.bl b, H, I.kept (t' := tk) fun _ _ z => z, rfl, q⟩
/-- e.f: the reading names the class -/
def tXfX (K : PySem.W.Frag) (a : Addr) (cls : Value) (d : Option Addr) (f : Str) (te : TE) : TE := fun σ H Q => te σ H fun x H1 => x = .ref a ∧ ∃ (C dd : Addr) (fs : List (Str × V)) (v : V), cls = .ref C ∧ XC K C ∧ PySem.W.findIn K (.ref C) f = some none ∧ d = some dd ∧ H1 dd = some (.xd fs) ∧ fs.lookup f = some v ∧ Q v H1
theorem pe_xfX {X : Cx} {a : Addr} {oe : Obj} {cls : Value} {d : Option Addr} {pn : List (Addr × Obj)} {e : Expr} {te : TE} {pos : Pos} {n : Str}
    (hz : Zc cls d oe) (hf : ∃ vs, oe.data = .fields vs) (he : PE (X.suite a ((a, oe) :: pn)) e te) (hb : attributeBase e n X.env (eval e X.env) = eval e X.env := by rfl) :
    PE (X.suite a ((a, oe) :: pn)) (.Attribute e n pos) (tXfX X.K a cls d n te) := by
  refine ⟨fun pins s σ H Q I h => ?_⟩
  refine attr_of hb (thn (he.run pins s σ H _ I h) fun u s1 hh => ?_)
  obtain ⟨x, H1, I1, rx, ex, C, dd, fs, v, ec, T, hno, ed, ea, l, q⟩ := hh
  subst ex
  obtain rfl : u = Value.ref a := rx
  subst ec
  subst ed
  obtain ⟨ha, _⟩ := I1.pin (a, oe) (List.mem_append_left _ List.mem_cons_self)
  obtain ⟨vs, hd⟩ := hf
  have hx : ObjOk X.prog X.w H1 s1.heap dd (.xd fs) := I1.hok dd _ ea
  obtain ⟨mA, hns, hr⟩ := hx
  obtain ⟨od, ho, hl⟩ := lookIn_ns hns
  obtain ⟨u, hu, ru⟩ := RelO.some_of (v := v) (o := mA n) (by rw [← l]; exact hr n)
  have J : PySem.W.InstAt s1.heap a oe C (some od) := ⟨ha, hz.1, by unfold PySem.W.notCls; rw [hd] <;> rfl, by rw [hz.2]; exact ho⟩
  exact HandSPX.exc_get I1.kIn J T.ga T.gg T.hs (PySem.W.findObj_own T.hd hno rfl (by rw [hl, hu])) (handed_of ru) ⟨v, H1, I1.tok _, ru, q⟩
/-! ### calls in a try's body: the way out sees the slots -/
def tMethW (C : Addr) (m : Str) (sp : Sp) (dvs : List V) (E : St → XK) (ta : TE) (t : TA) : TE := fun σ H Q => tMeth C m sp dvs (E σ) ta t σ H Q
section
variable {X : Cx} {CX : CXT} {k : Nat} {f C : Addr} {fd : FuncData} {ps : List Str} {sp : Sp} {dvs : List V} {ds : List Value} {E : St → XK} {x m : Str} {p pos apos : Pos} {e o : Expr} {es : List Expr} {ta : TE} {t : TA}
theorem pe_methW {pl : Sem Bool} (he : PE X o ta) (c : Cls X.K C) (hm : Meth X.K C m f) (F : FnOk X.prog X.w X.K X.mg X.base CX k f fd ps sp) (hr : Room k X.A) (hb : Binds X.K fd ps ds) (hd : Vals dvs ds) (hx : ∀ σ, PassesAt CX X σ (E σ)) (ha : PA X (e :: es) t)
    (hst : starEach (e :: es) X.env = (false, eval e X.env) :: starEach es X.env := by rfl) (hpl : (backTo pos (starEach es X.env)).any (·.1) = false := by rfl)
    (ht : eval (.Call (.Attribute o m apos) (e :: es) [] pos) X.env = (do
      let ov ← eval o X.env
      standAt apos.atName
      let (f, first) ← holding [ov] (getMethod ov m pl)
      callWith pos f first (backTo pos (starEach (e :: es) X.env)) (backToKw pos (keywordEach [] X.env))) := by rfl) :
    PE X (.Call (.Attribute o m apos) (e :: es) [] pos) (tMethW C m sp dvs E ta t) := by
  refine ⟨fun pins s σ H Q I h => ?_⟩
  refine PySem.W.methodCall_KW (pl := pl) (thn (he.run pins s σ H _ I h) fun u s1 ⟨x, H1, I1, rx, a, dx, fs, ex, ea, l, q⟩ => ?_) ht
  subst ex
  obtain rfl : u = Value.ref a := rx
  refine getmeth_ok I1 ea c hm l ?_
  refine PySem.W.callWith_K (first := [.ref a]) (h₀ := X.base) I.ok.mod.kin hm.kp (thn (ha.run pos pins s1 σ H1 _ I1 q) fun us s2 ⟨vs, H2, I2, r, q2⟩ => ⟨I2.kIn, ?_⟩) hst hpl
  exact run_fnSD (us := .ref a :: us) (vs := .ref a :: vs) F hr hb hd (hx σ) I2 (.cons rfl r) q2
end
end L2

namespace L2
open PySem PySem.Spec PyProof.Rows
/-- a def that raises nothing where nothing may be raised -/
theorem FnOk.calm {P : Program} {w : World} {K : PySem.W.Frag} {mg : Str → Option Value} {base : Heap} {k : Nat} {f : Addr} {fd : FuncData} {ps : List Str} {sp : Sp} (F : FnOk P w K mg base (L2.CX P w) k f fd ps sp) :
    FnOk P w K mg base CX0 k f fd ps (fun vs H Q _ => sp vs H Q fun _ _ _ => False) :=
  ⟨fun vs H Q _ h => F.len vs H Q _ h, fun A outer s H args us vs Q _ hr he hb hv hs => codeAny_mono (F.run A outer s H args us vs Q _ hr he hb hv hs) fun r s' hq => by
    cases r with
    | error e =>
      obtain ⟨_, _, _, _, _, _, _, _, _, _, _, _, h⟩ := hq
      exact h.elim
    | ok fl =>
      cases fl with
      | ret u => exact hq
      | next => exact hq
      | brk => exact hq
      | cont => exact hq⟩
/-- the way out of a def as its own caller's -/
theorem passX {X : Cx} {E : XK} (tk : Takes X (fun cls d _ H => E cls d H)) : Passes (L2.CX X.prog X.w) X E := passes_call tk fun _ _ _ _ h => h
end L2

namespace L2
open PySem
def gSeq (K : PySem.W.Frag) (n : Nat) (t : TGs) : TG := fun v σ H Q => gTup K n t v σ H Q ∨ gLst K n t v σ H Q
theorem pg_seq {X : Cx} {es : List Expr} {k : Nat} {t : TGs} {n : Nat} {pos : Pos} (hc : X.calm = true) (h : PGs X es t)
    (hn : (assignEach es X.env).length = n := by rfl) (hst : (assignEach es X.env).findIdx? (·.1) = none := by rfl) : PG X (.Tuple es k pos) (gSeq X.K n t) :=
  ⟨fun pins s σ H v u Q I r hw => hw.elim (fun w => (pg_tup hc h hn hst).run pins s σ H v u Q I r w) (fun w => (pg_lst hc h hn hst).run pins s σ H v u Q I r w)⟩
end L2
namespace L2
open PySem
theorem gSeq_of {K : PySem.W.Frag} {n : Nat} {t : TGs} {p : Addr} {xs : List V} {σ : L2.St} {H : Hp} {Q : L2.St → Hp → Prop} (h : H p = some (.tup xs) ∨ H p = some (.lst xs)) (hn : xs.length = n) (q : t xs σ H Q) : gSeq K n t (.ref p) σ H Q := by
  rcases h with h | h
  · exact .inl ⟨p, xs, rfl, SqT.of h, hn, q⟩
  · exact .inr ⟨p, xs, rfl, SqL.of h, hn, q⟩
end L2

namespace L2
open PySem PySem.Spec PyProof.Rows L2H
/-! ### a def that is handed the exception of the except suite it is called from: p, its place and its object, is known -/
structure FnE (P : Program) (w : World) (K : PySem.W.Frag) (mg : Str → Option Value) (base : Heap) (CX : CXT) (k : Nat) (f : Addr) (fd : FuncData) (ps : List Str) (sp : Sp) (p : Addr × Obj) : Prop where
  len : ∀ vs H Q E, sp vs H Q E → vs.length = ps.length
  run : ∀ (A : Around) (outer : List Env) (s : Shared) (H : Hp) (args : Args) (us : List Value) (vs : List V) (Q : VK) (E : XK), RoomH k A → PinOk outer H s p → Env0 P w K mg base A outer s H → BindsTo s fd args (ps.zip us) → Vals vs us → sp vs H Q E →
    codeAny (model P w) A (.call (.ref f) args) (CR CX outer P w H s Q E) s
section
variable {P : Program} {w : World} {K : PySem.W.Frag} {mg : Str → Option Value} {base : Heap} {k : Nat} {f : Addr} {fd : FuncData} {x qual : Str} {st : Stmt} {N ps : List Str} {sp : Sp} {p : Addr × Obj}
theorem Fun.okE (F : Fun K x qual st f fd) (S : FnScope N ps (defScope st)) (len : ∀ vs H Q E, sp vs H Q E → vs.length = ps.length)
    (body : ∀ (cdv : Value) (A : Around) (outer : List Env) (s : Shared) (H : Hp) (vs : List V) (Q : VK) (E : XK), RoomH k (A.deeper (envOfC qual (defScope st) s.heap.objs.size f cdv)) → sp vs H Q E →
      ∃ t, PSs (cxH CX0 P w K mg base N qual (defScope st) f cdv A outer s H E p) (defBody st) t ∧ t { nx := fun _ H' => Q .non H', rt := Q } (start N vs) H) : FnE P w K mg base CX0 (k + 1) f fd ps sp p := by
  obtain ⟨oc, od, kV, doc, pm, an, cdv, ct, osl, rfl, lk, hcd⟩ := F.ex
  refine ⟨len, fun A outer s H args us vs Q E hr hpin e0 hb r hsp => ?_⟩
  have inK : K.In s.heap := e0.mod.kin.keeps fun b o e => (e0.bs b o e).1
  have lim : s.heap.NoLimit := e0.mod.nolimit.keeps fun b o e => (e0.bs b o e).1
  have kinds : ∀ y ∈ ps.zip us, (defScope st).names.lookup y.1 = some .local ∨ ((defScope st).names.lookup y.1 = some .cell ∧ ((cellsFrom (s.heap.objs.size + 1) (defScope st).names []).lookup y.1).isSome = true) := fun ⟨n, v⟩ hy =>
    (S.par n (List.of_mem_zip hy).1).elim .inl fun q => .inr ⟨q, PySem.W.cellsFrom_some _ _ _ (.inl q)⟩
  refine codeAny_call_function hr.depth (inK _ _ lk) rfl S.co S.gen rfl (PySem.W.codeRec_of inK hcd) (hb _ _ _ _ (wpAny_newFunctionEnv_cells S.kind kinds fun env he s1 y => ?_))
  subst he
  obtain ⟨t, ht, hq⟩ := body cdv A outer s H vs Q E (hr.deeper _) hsp
  refine ⟨lim.keeps y.toInCall.keep, codeAny_func (wpAny_mono (ht.run [] s1 (start N vs) H _ (inv_startH S hpin e0 (len _ _ _ _ hsp) r y) hq) (fun fl s' hs => ?_) fun e s' hs => hs)⟩
  match fl, hs with
  | .ret u, ⟨v, σ', H', J, rv, q⟩ => exact ⟨v, H', J.os, J.bare, J.base, J.hok, rv, q⟩
  | .next, ⟨σ', H', J, q⟩ => exact ⟨V.non, H', J.os, J.bare, J.base, J.hok, rfl, q⟩
  | .brk, ⟨_, _, _, q⟩ => exact False.elim q
  | .cont, ⟨_, _, _, q⟩ => exact False.elim q
end
section
variable {X : Cx} {CX : CXT} {k : Nat} {f : Addr} {fd : FuncData} {ps : List Str} {sp : Sp} {E : XK} {p : Addr × Obj} {x : Str} {q pos : Pos} {e : Expr} {es : List Expr} {t : TA}
theorem pe_callE (F : FnE X.prog X.w X.K X.mg X.base CX k f fd ps sp p) (hr : RoomH k X.A) (hp : p ∈ X.pn) (hg : Gl X x) (hm : X.mg x = some (.ref f)) (hk : PySem.W.keepIn X.K (.ref f) = true) (hb : Binds X.K fd ps []) (hx : Passes CX X E)
    (ha : PA X (e :: es) t) (hdb : (x == ("__debug__" : Str)) = false := by decide) (he : starEach (e :: es) X.env = (false, eval e X.env) :: starEach es X.env := by rfl) (hpl : (backTo pos (starEach es X.env)).any (·.1) = false := by rfl) :
    PE X (.Call (.Name x q) (e :: es) [] pos) (tCall sp [] E t) := by
  refine ⟨fun pins s σ H Q I h => ?_⟩
  refine wpAny_Call_Name_kw (ld_glob I hg hm ?_ hdb)
  refine PySem.W.callWith_K (h₀ := X.base) I.ok.mod.kin hk (thn (ha.run pos pins s σ H _ I h) fun us s1 ⟨vs, H1, I1, r, q⟩ => ⟨I1.kIn, ?_⟩) he hpl
  have q : sp vs H1 Q E := by simpa using q
  have hl : us.length = ps.length := by rw [← r.length]; exact F.len _ _ _ _ q
  have b := hb s1 us I1.kIn (by rw [List.append_nil]; exact hl)
  rw [List.append_nil] at b
  have P1 := I1.pin p (List.mem_append_left _ hp)
  have hpin : PinOk X.stack H1 s1 p := ⟨P1.1, P1.2.1, fun hm => (List.mem_cons.mp (I1.stkSub p.1 hm)).elim P1.2.2.1 P1.2.2.2.1, P1.2.2.2.2⟩
  refine wpAny_call (codeAny_mono (F.run X.A X.stack s1 H1 ⟨us, []⟩ us vs Q E hr hpin I1.env0 b r q) fun r s' hq => ?_)
  match r, hq with
  | .error e, hq => exact hx pins σ H1 s1 e s' I1 hq
  | .ok (.ret u), hq => exact I1.after hq
/-- isinstance(e, c), e the pinned exception -/
theorem call_isP {a : Addr} {oe : Obj} {cls : Value} {d : Option Addr} (hp : (a, oe) ∈ X.pn) (hz : Zc cls d oe) (hf : ∃ vs, oe.data = .fields vs) : CallR X (.builtin "isinstance") (rIsX X.K a cls d) := by
  intro pins s σ H xs us Q I r h
  obtain ⟨D, dd, fs, c, cv, b, rfl, rfl, hdd, C, rfl, hcv, e, q⟩ := h
  cases r with
  | cons rx rr =>
    cases rr with
    | cons rt rr =>
      cases rr
      cases rx
      have ec := hcv.eq rt
      subst ec
      obtain ⟨hget, _⟩ := I.pin (a, oe) (List.mem_append_left _ hp)
      obtain ⟨vs, hv⟩ := hf
      have hx : ObjOk X.prog X.w H s.heap dd (.xd fs) := I.hok dd _ hdd
      obtain ⟨mA, hns, hr⟩ := hx
      obtain ⟨od, ho, hl⟩ := lookIn_ns hns
      have J : PySem.W.InstAt s.heap a oe D (some od) := ⟨hget, hz.1, by unfold PySem.W.notCls; rw [hv] <;> rfl, by rw [hz.2]; exact ho⟩
      obtain ⟨cd, hc, _⟩ := PySem.W.any_some C.hd
      exact PySem.W.kia_one (PySem.W.kitx_exc (by rw [hc]; rfl) C.ga C.gg C.hs C.ha C.hn C.ht C.hm) I.kIn J e (fun z => nomatch z) fun tk => ⟨.bl b, H, I.kept (t' := tk) fun _ _ z => z, rfl, q⟩
/-- e.f, e the pinned exception -/
theorem pe_xfP {a : Addr} {oe : Obj} {cls : Value} {d : Option Addr} {ex : Expr} {te : TE} {n : Str} {apos : Pos} (hp : (a, oe) ∈ X.pn) (hz : Zc cls d oe) (hf : ∃ vs, oe.data = .fields vs) (he : PE X ex te) (hb : attributeBase ex n X.env (eval ex X.env) = eval ex X.env := by rfl) :
    PE X (.Attribute ex n apos) (tXfX X.K a cls d n te) := by
  refine ⟨fun pins s σ H Q I h => ?_⟩
  refine attr_of hb (thn (he.run pins s σ H _ I h) fun u s1 hh => ?_)
  obtain ⟨x, H1, I1, rx, ex, C, dd, fs, v, ec, T, hno, ed, ea, l, q⟩ := hh
  subst ex
  obtain rfl : u = Value.ref a := rx
  subst ec
  subst ed
  obtain ⟨ha, _⟩ := I1.pin (a, oe) (List.mem_append_left _ hp)
  obtain ⟨vs, hd⟩ := hf
  have hx : ObjOk X.prog X.w H1 s1.heap dd (.xd fs) := I1.hok dd _ ea
  obtain ⟨mA, hns, hr⟩ := hx
  obtain ⟨od, ho, hl⟩ := lookIn_ns hns
  obtain ⟨u, hu, ru⟩ := RelO.some_of (v := v) (o := mA n) (by rw [← l]; exact hr n)
  have J : PySem.W.InstAt s1.heap a oe C (some od) := ⟨ha, hz.1, by unfold PySem.W.notCls; rw [hd] <;> rfl, by rw [hz.2]; exact ho⟩
  exact HandSPX.exc_get I1.kIn J T.ga T.gg T.hs (PySem.W.findObj_own T.hd hno rfl (by rw [hl, hu])) (handed_of ru) ⟨v, H1, I1.tok _, ru, q⟩
end
end L2
namespace L2
/-- a built-in's method, the fragment named (for suites and a try's body, whose context names what the reading may not) -/
theorem pe_bmK {X : Cx} {K : PySem.W.Frag} {ex : PySem.Expr} {T : String} {r : V → List V → Hp → VK → Prop} {to : TE} {t : TA} (hK : X.K = K) (h : PE X ex (tBM X.K T r to t)) : PE X ex (tBM K T r to t) := hK ▸ h
end L2
namespace L2
open PySem
theorem room_suite {k j : Nat} {A A' : Around} (hr : Room k A) (h : j ≤ k) (e1 : A'.depth = A.depth) (e2 : A'.units = A.units) : L2H.RoomH j A' := ⟨by have := hr.dp; rw [e1]; omega, by have := hr.un; rw [e2]; omega⟩
end L2

namespace L2
open PySem PySem.Spec PyProof.Rows
/-! ### own objects where a built-in asks them: o[k], x in o, len(o), str(o), for x in o, C.m(..) of a staticmethod -/
section
variable {X : Cx} {CX : CXT} {k : Nat} {f C a dx : Addr} {fs : List (Str × V)} {fd : FuncData} {ps : List Str} {sp : Sp} {E : XK} {pins : List (Addr × Obj)} {σ : St} {H : Hp} {s : Shared} {Q : VK} {us : List Value} {vs : List V}
/-- a def's call from within a built-in -/
theorem run_sub {A1 : Around} (hf : A1.frames = some X.stack) (F : FnOk X.prog X.w X.K X.mg X.base CX k f fd ps sp) (hr : Room k A1) (hb : Binds X.K fd ps []) (hx : Passes CX X E) (I : Inv X pins σ H s) (r : Vals vs us) (h : sp vs H Q E) :
    wpAny (model X.prog X.w) A1 (call (.ref f) us) (EP X pins σ Q) X.xe s := by
  have hl : (us ++ []).length = ps.length := by rw [List.append_nil, ← r.length]; exact F.len _ _ _ _ h
  have e := I.env0
  have bt := hb s us I.kIn hl
  rw [List.append_nil] at bt
  refine wpAny_call (codeAny_mono (F.run A1 X.stack s H ⟨us, []⟩ us vs Q E hr ⟨hf, e.mod, e.bs, e.bsz, e.funs, e.frf, e.hok, e.bare⟩ bt r h) fun r s' hq => ?_)
  match r, hq with
  | .error e, hq => exact hx pins σ H s e s' I hq
  | .ok (.ret u), hq => exact I.after hq
theorem stack_of (I : Inv X pins σ H s) : X.A.frames = some X.stack := I.env0.frames
theorem inst_of (I : Inv X pins σ H s) (h : H a = some (.ins C dx fs)) : ∃ ox od, PySem.W.InstAt s.heap a ox C (some od) := by
  obtain ⟨mA, J, _⟩ := ins_get I.hok h
  obtain ⟨od, J, _⟩ := J.look
  exact ⟨_, od, J⟩
/-- o[k] by the class's own def -/
def rGetI (C : Addr) (sp : Sp) (E : XK) : R2 := fun x y H Q => ∃ a dx fs, x = .ref a ∧ H a = some (.ins C dx fs) ∧ sp [x, y] H Q E
theorem pe_getI {ea eb : Expr} {ta tb : TE} {pos : Pos} (m : Meth X.K C "__getitem__" f) (hfi : PySem.W.fnIn X.K f = true) (F : FnOk X.prog X.w X.K X.mg X.base CX k f fd ps sp) (hr : Room (k + 1) X.A) (hb : Binds X.K fd ps []) (hx : Passes CX X E)
    (ha : PE X ea ta) (hbe : PE X eb tb) (hsl : ∀ (x : Addr) (i : Value), subscripted eb true (.ref x) i = runValue (.builtin "lifetime.subscript" ⟨[.ref x, i], []⟩) := by intro _ _; with_unfolding_all rfl) : PE X (.Subscript ea eb pos) (tOp (rGetI C sp E) ta tb) := by
  refine ⟨fun pins s σ H Q I h => ?_⟩
  refine Subscript_ (binT ha hbe I h fun v u s2 x y H2 I2 rx ry q => ?_)
  obtain ⟨a, dx, fs, rfl, ho, q⟩ := q
  cases rx
  obtain ⟨ox, od, J⟩ := inst_of I2 ho
  obtain ⟨mf, hF⟩ := I2.fr
  exact PySem.W.sub_K hF I2.ok.mod.kin J m.at_ hfi m.fn (run_sub (A1 := X.A.in1) (us := [.ref a, u]) (vs := [.ref a, y]) (stack_of I2) F hr.in1 hb hx I2 (.cons rfl (.cons ry .nil)) q) (hsl a u)
/-- x in o, x not in o -/
def rInI (C : Addr) (sp : Sp) (E : XK) (neg : Bool) : R2 := fun x y H Q => ∃ a dx fs, y = .ref a ∧ H a = some (.ins C dx fs) ∧ sp [y, x] H (fun v H' => ∃ b : Bool, v = .bl b ∧ Q (.bl (if neg then !b else b)) H') E
theorem truth_bl {A : Around} {E' : Value → Shared → Prop} {b : Bool} {s : Shared} {Qb : Bool → Shared → Prop} (h : Qb b s) : wpAny (model X.prog X.w) A (truthy (.bool b)) Qb E' s := by
  unfold truthy
  exact wpAny_pure h
theorem op_inI (m : Meth X.K C "__contains__" f) (F : FnOk X.prog X.w X.K X.mg X.base CX k f fd ps sp) (hr : Room k X.A) (hb : Binds X.K fd ps []) (hx : Passes CX X E) : OpR X (compareOp .In) (rInI C sp E false) := by
  intro pins s σ H x y v u Q I rx ry h
  obtain ⟨a, dx, fs, rfl, ho, q⟩ := h
  cases ry
  obtain ⟨ox, od, J⟩ := inst_of I ho
  obtain ⟨mf, hF⟩ := I.fr
  refine PySem.W.in_K hF I.ok.mod.kin J m.at_ m.fn (thn (run_sub (us := [.ref a, v]) (vs := [.ref a, x]) (stack_of I) F hr hb hx I (.cons rfl (.cons rx .nil)) q) fun r s' z => ?_)
  obtain ⟨z1, H1, I1, r1, b, rfl, q1⟩ := z
  cases r1
  exact truth_bl ⟨.bl b, H1, I1, rfl, q1⟩
theorem op_ninI (m : Meth X.K C "__contains__" f) (F : FnOk X.prog X.w X.K X.mg X.base CX k f fd ps sp) (hr : Room k X.A) (hb : Binds X.K fd ps []) (hx : Passes CX X E) : OpR X (compareOp .NotIn) (rInI C sp E true) := by
  intro pins s σ H x y v u Q I rx ry h
  obtain ⟨a, dx, fs, rfl, ho, q⟩ := h
  cases ry
  obtain ⟨ox, od, J⟩ := inst_of I ho
  obtain ⟨mf, hF⟩ := I.fr
  refine PySem.W.notIn_K hF I.ok.mod.kin J m.at_ m.fn (thn (run_sub (us := [.ref a, v]) (vs := [.ref a, x]) (stack_of I) F hr hb hx I (.cons rfl (.cons rx .nil)) q) fun r s' z => ?_)
  obtain ⟨z1, H1, I1, r1, b, rfl, q1⟩ := z
  cases r1
  exact truth_bl ⟨.bl (!b), H1, I1, rfl, q1⟩
/-- len(o) -/
def rLenI (C : Addr) (sp : Sp) (E : XK) : List V → Hp → VK → Prop := fun xs H Q => ∃ a dx fs, xs = [.ref a] ∧ H a = some (.ins C dx fs) ∧ sp [.ref a] H (fun v H' => ∃ n : Int, v = .int n ∧ 0 ≤ n ∧ n < 2 ^ 63 ∧ Q (.int n) H') E
theorem call_lenI (m : Meth X.K C "__len__" f) (F : FnOk X.prog X.w X.K X.mg X.base CX k f fd ps sp) (hr : Room (k + 1) X.A) (hb : Binds X.K fd ps []) (hx : Passes CX X E) : CallR X (.builtin "len") (rLenI C sp E) := by
  intro pins s σ H xs us Q I r h
  obtain ⟨a, dx, fs, rfl, ho, q⟩ := h
  obtain ⟨u, rfl, ru⟩ := vals1 r
  cases ru
  obtain ⟨ox, od, J⟩ := inst_of I ho
  obtain ⟨mf, hF⟩ := I.fr
  refine PySem.W.len_K hF I.ok.mod.kin J m.at_ m.fn (thn (run_sub (A1 := X.A.in1) (us := [.ref a]) (vs := [.ref a]) (stack_of I) F hr.in1 hb hx I (.cons rfl .nil) q) fun r s' z => ?_)
  obtain ⟨z1, H1, I1, r1, n, rfl, h0, h1, q1⟩ := z
  obtain ⟨t, rfl⟩ := r1
  exact ⟨⟨h0, h1⟩, .int n, H1, I1.tok _, ⟨_, rfl⟩, q1⟩
/-- str(o) -/
def rStrI (C : Addr) (sp : Sp) (E : XK) : List V → Hp → VK → Prop := fun xs H Q => ∃ a dx fs, xs = [.ref a] ∧ H a = some (.ins C dx fs) ∧ sp [.ref a] H (fun v H' => ∃ z : Str, v = .str z ∧ Q (.str z) H') E
theorem call_strI (m : Meth X.K C "__str__" f) (F : FnOk X.prog X.w X.K X.mg X.base CX k f fd ps sp) (hr : Room (k + 2) X.A) (hb : Binds X.K fd ps []) (hx : Passes CX X E) : CallR X (.type "str") (rStrI C sp E) := by
  intro pins s σ H xs us Q I r h
  obtain ⟨a, dx, fs, rfl, ho, q⟩ := h
  obtain ⟨u, rfl, ru⟩ := vals1 r
  cases ru
  obtain ⟨ox, od, J⟩ := inst_of I ho
  have hr2 : Room k X.A.in1.in1 := hr.in1.in1
  refine PySem.W.kso_call hr2.units0 I.kIn J m.at_ m.fn (thn (run_sub (A1 := X.A.in1.in1) (us := [.ref a]) (vs := [.ref a]) (stack_of I) F hr2 hb hx I (.cons rfl .nil) q) fun r s' z => ?_)
  obtain ⟨z1, H1, I1, r1, y, rfl, q1⟩ := z
  obtain ⟨t, rfl⟩ := r1
  exact ⟨.str y, H1, I1, ⟨_, rfl⟩, q1⟩
end
/-! ### a staticmethod through its class -/
structure SMet (K : PySem.W.Frag) (C : Addr) (mc : Value) (m : Str) (p g : Addr) : Prop where
  at_ : PySem.W.findCls K (.ref C) mc m = some (.get (.builtin "staticmethod.__get__") (.ref p) .none (.ref C))
  rc : ∃ rest, PySem.W.recIn K p "staticmethod" = some (.ref g :: rest)
  kp : PySem.W.keepIn K (.ref g) = true
def tSMeth (C : Addr) (sp : Sp) (E : XK) (ta : TE) (t : TA) : TE := fun σ H Q => ta σ H fun x H1 => x = .ref C ∧ t σ H1 fun vs H2 => sp vs H2 Q E
section
variable {X : Cx} {CX : CXT} {k : Nat} {C p g : Addr} {mc : Value} {fd : FuncData} {ps : List Str} {sp : Sp} {E : XK} {o e : Expr} {es : List Expr} {m : Str} {pos apos : Pos} {ta : TE} {t : TA} {pl : Sem Bool}
theorem getsm_ok {pins : List (Addr × Obj)} {σ : St} {H : Hp} {s : Shared} {A : Around} {E' : Value → Shared → Prop} {Q : Value × List Value → Shared → Prop} (I : Inv X pins σ H s) (r : ClX.CRead X.K C mc) (c : SMet X.K C mc m p g)
    (h : ∀ s', Inv X pins σ H s' → Q (.ref g, []) s') : wpAny (model X.prog X.w) A (getMethod (.ref C) m pl) Q E' s := by
  obtain ⟨rest, hp⟩ := c.rc
  refine PySem.W.method_cls I.kIn r.ga (PySem.W.cls_bind I.kIn r.rd c.at_ (wpAny_call ?_))
  exact PySem.W.sm_get (s := { s with toks := s.toks + 1 }) I.kIn hp (PySem.W.handed_on rfl (h _ (I.tok _)))
theorem pe_smeth (he : PE X o ta) (r : ClX.CRead X.K C mc) (c : SMet X.K C mc m p g) (F : FnOk X.prog X.w X.K X.mg X.base CX k g fd ps sp) (hr : Room k X.A) (hb : Binds X.K fd ps []) (hx : Passes CX X E) (ha : PA X (e :: es) t)
    (hst : starEach (e :: es) X.env = (false, eval e X.env) :: starEach es X.env := by rfl) (hpl : (backTo pos (starEach es X.env)).any (·.1) = false := by rfl)
    (ht : eval (.Call (.Attribute o m apos) (e :: es) [] pos) X.env = (do
      let ov ← eval o X.env
      standAt apos.atName
      let (f, first) ← holding [ov] (getMethod ov m pl)
      callWith pos f first (backTo pos (starEach (e :: es) X.env)) (backToKw pos (keywordEach [] X.env))) := by rfl) :
    PE X (.Call (.Attribute o m apos) (e :: es) [] pos) (tSMeth C sp E ta t) := by
  refine ⟨fun pins s σ H Q I h => PySem.W.methodCall_KW (pl := pl) (thn (he.run pins s σ H _ I h) fun u s1 ⟨x, H1, I1, rx, ex, q⟩ => ?_) ht⟩
  subst ex
  obtain rfl : u = Value.ref C := rx
  refine getsm_ok I1 r c fun s2 I2 => ?_
  refine PySem.W.callWith_K (first := []) (h₀ := X.base) I.ok.mod.kin c.kp (thn (ha.run pos pins s2 σ H1 _ I2 q) fun us s3 ⟨vs, H2, I3, rv, q2⟩ => ⟨I3.kIn, ?_⟩) hst hpl
  exact run_sub (us := us) (vs := vs) (stack_of I3) F hr hb hx I3 rv q2
/-- the same in a try's body: the way out sees the slots -/
def tSMethW (C : Addr) (sp : Sp) (E : St → XK) (ta : TE) (t : TA) : TE := fun σ H Q => tSMeth C sp (E σ) ta t σ H Q
theorem pe_smethW {E : St → XK} (he : PE X o ta) (r : ClX.CRead X.K C mc) (c : SMet X.K C mc m p g) (F : FnOk X.prog X.w X.K X.mg X.base CX k g fd ps sp) (hr : Room k X.A) (hb : Binds X.K fd ps []) (hx : ∀ σ, PassesAt CX X σ (E σ)) (ha : PA X (e :: es) t)
    (hst : starEach (e :: es) X.env = (false, eval e X.env) :: starEach es X.env := by rfl) (hpl : (backTo pos (starEach es X.env)).any (·.1) = false := by rfl)
    (ht : eval (.Call (.Attribute o m apos) (e :: es) [] pos) X.env = (do
      let ov ← eval o X.env
      standAt apos.atName
      let (f, first) ← holding [ov] (getMethod ov m pl)
      callWith pos f first (backTo pos (starEach (e :: es) X.env)) (backToKw pos (keywordEach [] X.env))) := by rfl) :
    PE X (.Call (.Attribute o m apos) (e :: es) [] pos) (tSMethW C sp E ta t) := by
  refine ⟨fun pins s σ H Q I h => PySem.W.methodCall_KW (pl := pl) (thn (he.run pins s σ H _ I h) fun u s1 ⟨x, H1, I1, rx, ex, q⟩ => ?_) ht⟩
  subst ex
  obtain rfl : u = Value.ref C := rx
  refine getsm_ok I1 r c fun s2 I2 => ?_
  refine PySem.W.callWith_K (first := []) (h₀ := X.base) I.ok.mod.kin c.kp (thn (ha.run pos pins s2 σ H1 _ I2 q) fun us s3 ⟨vs, H2, I3, rv, q2⟩ => ⟨I3.kIn, ?_⟩) hst hpl
  exact run_fnSD (us := us) (vs := vs) F hr hb .nil (hx σ) I3 rv (by rw [List.append_nil]; exact q2)
end
end L2

namespace L2
open PySem PySem.Spec PyProof.Rows
/-! ### for x in o, o's __iter__ gives iter(o.f), f a list -/
section
variable {P : Program} {w : World} {K : PySem.W.Frag} {mg : Str → Option Value} {base : Heap} {x qual : Str} {st : Stmt} {f : Addr} {fd : FuncData} {N ps : List Str} {k : Nat}
/-- one call of a def, told from its state -/
theorem fn_here {A : Around} {outer : List Env} {s : Shared} {H : Hp} {us : List Value} {vs : List V} {Q : VK} {E : XK} (F : Fun K x qual st f fd) (S : FnScope N ps (defScope st)) (hb : Binds K fd ps []) (hr : Room (k + 1) A) (e0 : Env0 P w K mg base A outer s H)
    (r : Vals vs us) (hl : vs.length = ps.length)
    (body : ∀ cdv, Room k (A.deeper (envOfC qual (defScope st) s.heap.objs.size f cdv)) → ∃ t, PSs (cxOf CX0 P w K mg base N qual (defScope st) f cdv A outer s H E).nox (defBody st) t ∧ t { nx := fun _ H' => Q .non H', rt := Q } (start N vs) H) :
    codeAny (model P w) A (.call (.ref f) ⟨us, []⟩) (CR CX0 outer P w H s Q E) s := by
  obtain ⟨oc, od, kV, doc, pm, an, cdv, ct, osl, rfl, lk, hcd⟩ := F.ex
  have KX : K.In s.heap := PySem.W.Frag.In.keeps e0.mod.kin (fun b o q => (e0.bs b o q).1)
  have NL : s.heap.NoLimit := Heap.NoLimit.keeps e0.mod.nolimit (fun b o q => (e0.bs b o q).1)
  have lu : (us ++ []).length = ps.length := by rw [List.append_nil, ← r.length, hl]
  have bt := hb s us KX lu
  rw [List.append_nil] at bt
  obtain ⟨t, ht, hq⟩ := body cdv (hr.deeper _)
  refine codeAny_call_function hr.depth (KX _ _ lk) rfl S.co S.gen rfl (PySem.W.codeRec_of KX hcd) (bt _ _ _ _ (wpAny_newFunctionEnv_cells S.kind ?_ ?_))
  · intro y hy
    have m := (List.of_mem_zip (a := y.1) (b := y.2) hy).1
    exact (S.par y.1 m).elim .inl fun z => .inr ⟨z, PySem.W.cellsFrom_some _ _ _ (.inl z)⟩
  · intro env he s1 ic
    subst he
    have I : Inv (cxOf CX0 P w K mg base N qual (defScope st) f cdv A outer s H E) [] (start N vs) H s1 := inv_start S hr.hd e0 hl r ic
    refine ⟨NL.keeps ic.toInCall.keep, codeAny_func (wpAny_mono (ht.nox.run [] s1 (start N vs) H _ I hq) (fun fl s' z => ?_) fun _ _ z => z)⟩
    match fl, z with
    | .ret u, ⟨v, _, H', J, rv, q⟩ => exact ⟨v, H', J.os, J.bare, J.base, J.hok, rv, q⟩
    | .next, ⟨_, H', J, q⟩ => exact ⟨V.non, H', J.os, J.bare, J.base, J.hok, rfl, q⟩
    | .brk, ⟨_, _, _, q⟩ => exact q.elim
    | .cont, ⟨_, _, _, q⟩ => exact q.elim
/-- what such an __iter__ promises: a new iterator of the list, younger than the call -/
def IterOk (P : Program) (w : World) (K : PySem.W.Frag) (mg : Str → Option Value) (base : Heap) (k : Nat) (g C : Addr) (fl : Str) : Prop :=
  ∀ (A : Around) (outer : List Env) (s : Shared) (H : Hp) (a dx l : Addr) (fs : List (Str × V)) (xs : List V) (Q : VK) (E : XK), Room k A → Env0 P w K mg base A outer s H → H a = some (.ins C dx fs) → fs.lookup fl = some (.ref l) → SqL K H l xs →
    (∀ it, H it = none → s.heap.objs.size ≤ it → Q (.ref it) (upd H it (ItO l it 0))) → codeAny (model P w) A (.call (.ref g) ⟨[.ref a], []⟩) (CR CX0 outer P w H s Q E) s
end
def iOwn (K : PySem.W.Frag) (C : Addr) (f : Str) (tl : TE) : TI := fun σ H R => tl σ H fun x H1 => ∃ (a dx l : Addr) (fs : List (Str × V)) (xs : List V), x = .ref a ∧ H1 a = some (.ins C dx fs) ∧ fs.lookup f = some (.ref l) ∧ SqL K H1 l xs ∧ R (Itl K l) H1
section
variable {X : Cx} {tg o : Expr} {tl : TE} {k : Nat} {g C : Addr} {fl : Str}
theorem pi_own (m : Meth X.K C "__iter__" g) (F : IterOk X.prog X.w X.K X.mg X.base k g C fl) (hr : Room k X.A) (ho : PE X o tl) : PI X tg o (iOwn X.K C fl tl) := by
  refine ⟨fun pins s σ H R I h => thn (ho.run pins s σ H _ I h) fun v s1 ⟨x, H1, I1, r1, a, dx, l, fs, xs, ex, ha, hf, hq, q⟩ => ?_⟩
  subst ex
  cases r1
  obtain ⟨ox, od, J⟩ := inst_of I1 ha
  obtain ⟨mf, hF⟩ := I1.fr
  refine PySem.W.owit_iter hF I1.ok.mod.kin J m.at_ m.fn (wpAny_call (codeAny_mono (F X.A X.stack s1 H1 a dx l fs xs (fun v H2 => ∃ it, v = .ref it ∧ H1 it = none ∧ s1.heap.objs.size ≤ it ∧ H2 = upd H1 it (ItO l it 0)) E0 hr I1.env0 ha hf hq fun it n1 n2 => ⟨it, rfl, n1, n2, rfl⟩) fun r s' z => ?_))
  match r, z with
  | .error _, z => exact z.elim
  | .ok (.ret u), z =>
    obtain ⟨v2, H2, I2, r2, it, rfl, n1, n2, rfl⟩ := I1.after z
    cases r2
    have eo := itO_get I2 upd_same
    have hT : s'.TypeIs (.ref it) "list_iterator" := ⟨_, eo, rfl⟩
    have I3 := ItX.inv_drop I2 (a := it) (by rw [upd_same]; rfl)
    rw [ItX.dropH_upd n1] at I3
    refine wpAny_specialOf (name := Str.ofString "__next__") hT slot_listiter_next.lookup ?_
    refine ⟨it, [it], _, _, H1, rfl, I3, turn_list l it, ⟨_, eo, rfl, rfl⟩, fun b hb => ?_, q⟩
    obtain rfl : b = it := by simpa using hb
    exact I1.fpOk n2 n1
end
end L2

namespace L2
open PySem PySem.Spec PyProof.Rows
/-! ### defs with *rest, instances made by C(), C(*a), C(*a, *b) -/
/-- what a def with ps and *pv binds -/
def StarB (fd : FuncData) (ps : List Str) (pv : Str) : Prop := ∀ us rest : List Value, us.length = ps.length → bindArgs fd ⟨us ++ rest, []⟩ = (newTuple rest >>= fun t => pure (ps.zip us ++ [(pv, t)]))
/-- its promise: from that of its body, the rest as a new tuple -/
def spStar (n : Nat) (sp : Sp) : Sp := fun vs H Q E => ∃ ws rest, vs = ws ++ rest ∧ ws.length = n ∧ rest.length ≤ sizeLine ∧ ∀ p, H p = none → sp (ws ++ [V.ref p]) (upd H p (.tup rest)) Q E
section
variable {P : Program} {w : World} {K : PySem.W.Frag} {mg : Str → Option Value} {base : Heap} {x qual : Str} {st : Stmt} {f : Addr} {fd : FuncData} {N ps : List Str} {pv : Str} {k : Nat} {sp : Sp}
theorem Fun.starX (F : Fun K x qual st f fd) (S : FnScope N (ps ++ [pv]) (defScope st)) (hb : StarB fd ps pv)
    (body : ∀ (cdv : Value) (A : Around) (outer : List Env) (s : Shared) (H : Hp) (vs : List V) (Q : VK) (E : XK), Room k (A.deeper (envOfC qual (defScope st) s.heap.objs.size f cdv)) → sp vs H Q E →
      ∃ t, PSs (cxOf (L2.CX P w) P w K mg base N qual (defScope st) f cdv A outer s H E) (defBody st) t ∧ t { nx := fun _ H' => Q .non H', rt := Q } (start N vs) H) : FnR P w K mg base (L2.CX P w) (k + 1) f (spStar ps.length sp) := by
  obtain ⟨oc, od, kV, doc, pm, an, cdv, ct, osl, rfl, lk, hcd⟩ := F.ex
  exact StX.fn_star lk hcd S StX.cxUp hb fun A outer s H vs Q E hr h => body cdv A outer s H vs Q E hr h
theorem FnR.calm (F : FnR P w K mg base (L2.CX P w) k f sp) : FnR P w K mg base CX0 k f (fun vs H Q _ => sp vs H Q fun _ _ _ => False) := fun A outer s H us vs Q _ hr e0 r h =>
  codeAny_mono (F A outer s H us vs Q _ hr e0 r h) fun r s' hq => by
    match r, hq with
    | .error _, ⟨_, _, _, _, _, _, _, _, _, _, _, _, z⟩ => exact z.elim
    | .ok (.ret _), hq => exact hq
end
/-- two starred arguments -/
theorem evalArgs_two {M : Model} {A : Around} {E : Value → Shared → Prop} {s : Shared} {f : Value} {a b : Bool × Sem Value} {rest : List (Bool × Sem Value)} {Q : Args → Shared → Prop} (h : wpAny M A (spliced (a :: b :: rest)) (fun vs s' => Q ⟨vs, []⟩ s') E s) : wpAny M A (evalArgs f true (a :: b :: rest) []) Q E s := by
  obtain ⟨a1, a2⟩ := a
  unfold evalArgs
  cases a1
  · show wpAny M A (spliced ((false, a2) :: b :: rest) >>= _) Q E s
    exact wpAny_bind (wpAny_mono h (fun vs s' q => wpAny_holding (wpAny_bind (wpAny_pure (wpAny_bind (wpAny_pure (wpAny_pure q)))))) fun _ _ z => z)
  · show wpAny M A (spliced ((true, a2) :: b :: rest) >>= _) Q E s
    exact wpAny_bind (wpAny_mono h (fun vs s' q => wpAny_holding (wpAny_bind (wpAny_pure (wpAny_bind (wpAny_pure (wpAny_pure q)))))) fun _ _ z => z)
section
variable {X : Cx} {CX : CXT} {k : Nat} {f C : Addr} {sp : Sp} {E : XK} {x : Str} {e e1 e2 : Expr} {es : List Expr} {te : TE} {t : TA} {p q1 q2 pos : Pos}
theorem pe_makeR0 (M : Mk X.K C f) (F : FnR X.prog X.w X.K X.mg X.base CX k f sp) (hr : Room (k + 1) X.A) (hg : Gl X x) (hm : X.mg x = some (.ref C)) (hx : Passes CX X E) (hdb : (x == ("__debug__" : Str)) = false := by decide) :
    PE X (.Call (.Name x p) [] [] pos) (StX.tMakeR C sp E tNil) := by
  refine ⟨fun pins s σ H Q I h => wpAny_Call_Name_kw (ld_glob I hg hm ?_ hdb)⟩
  exact PySem.W.callWith_K0 I.kIn M.kp (StX.run_makeR (us := []) (vs := []) M F hr hx I .nil h)
/-- C(*e): the reading -/
def tMakeS (K : PySem.W.Frag) (C : Addr) (sp : Sp) (E : XK) (te : TE) : TE := fun σ H Q => te σ H fun y H1 => ∃ a xs, y = V.ref a ∧ (SqT K H1 a xs ∨ SqL K H1 a xs) ∧ ∀ x dx, H1 x = none → H1 dx = none → dx ≠ x → sp (V.ref x :: xs) (upd (upd H1 dx (.own x)) x (.ins C dx [])) (fun v H2 => v = .non ∧ Q (.ref x) H2) E
theorem pe_makeS1 (M : Mk X.K C f) (F : FnR X.prog X.w X.K X.mg X.base CX k f sp) (hr : Room (k + 1) X.A) (hg : Gl X x) (hm : X.mg x = some (.ref C)) (hx : Passes CX X E) (he : PE X e te) (hdb : (x == ("__debug__" : Str)) = false := by decide)
    (hst : starEach [.Starred e q1] X.env = [(true, eval e X.env)] := by rfl) : PE X (.Call (.Name x p) [.Starred e q1] [] pos) (tMakeS X.K C sp E te) := by
  refine ⟨fun pins s σ H Q I h => wpAny_Call_Name_kw (ld_glob I hg hm (PySem.W.callWith_S (h₀ := X.base) I.ok.mod.kin M.kp (thn (he.run pins s σ H _ I h) fun v s1 ⟨y, H1, I1, ry, a, xs, ey, hxs, q⟩ => ?_) hst) hdb)⟩
  subst ey
  cases ry
  exact StX.star_any I1 hxs fun us s2 I2 rv => ⟨I2.kIn, StX.run_makeR (us := us) (vs := xs) M F hr hx I2 rv q⟩
/-- C(*a, *b) -/
theorem pe_makeS2 (M : Mk X.K C f) (F : FnR X.prog X.w X.K X.mg X.base CX k f sp) (hr : Room (k + 1) X.A) (hg : Gl X x) (hm : X.mg x = some (.ref C)) (hx : Passes CX X E) (ha : PA X [.Starred e1 q1, .Starred e2 q2] t) (hdb : (x == ("__debug__" : Str)) = false := by decide)
    (hst : starEach [.Starred e1 q1, .Starred e2 q2] X.env = [(true, eval e1 X.env), (true, eval e2 X.env)] := by rfl) : PE X (.Call (.Name x p) [.Starred e1 q1, .Starred e2 q2] [] pos) (StX.tMakeR C sp E t) := by
  refine ⟨fun pins s σ H Q I h => wpAny_Call_Name_kw (ld_glob I hg hm ?_ hdb)⟩
  have z := thn (ha.run pos pins s σ H _ I h) (Q' := fun us s1 => X.K.In s1.heap ∧ wpAny (model X.prog X.w) X.A (call (.ref C) ([] ++ us)) (EP X pins σ Q) X.xe s1) fun us s1 ⟨vs, H1, I1, r, q⟩ => ⟨I1.kIn, StX.run_makeR (us := us) (vs := vs) M F hr hx I1 r q⟩
  show wpAny _ _ (callWith pos (.ref C) [] (backTo pos (starEach [.Starred e1 q1, .Starred e2 q2] X.env)) []) _ _ _
  rw [hst] at z ⊢
  exact PySem.W.ks_call rfl (PySem.W.keeps_K M.kp) (evalArgs_two z)
end
/-! ### o + y by the class's own def, y an instance of the class, a list or a tuple -/
def Opd (K : PySem.W.Frag) (C : Addr) (H : Hp) (y : V) : Prop := (∃ b dy gs, y = .ref b ∧ H b = some (.ins C dy gs)) ∨ ∃ b xs, y = .ref b ∧ (SqL K H b xs ∨ SqT K H b xs)
def rOpI (K : PySem.W.Frag) (C : Addr) (sp : Sp) (E : XK) : R2 := fun x y H Q => ∃ a dx fs, x = .ref a ∧ H a = some (.ins C dx fs) ∧ Opd K C H y ∧ sp [x, y] H Q E
/-- what the top must have: the two defs, and of lists and tuples -/
structure OpF (K : PySem.W.Frag) (C : Addr) (nm : String) (g : Addr) : Prop where
  first : PySem.W.selfFirst K C = true
  at_ : PySem.W.findIn K (.ref C) (PySem.dunder nm) = some (some (.ref g))
  fn : PySem.W.isFn K (.ref g) = true
  rev : ∃ rc, PySem.W.findIn K (.ref C) (PySem.dunderR nm) = some rc ∧ (rc = none ∨ ∃ h : Addr, rc = some (.ref h))
  lst : ∃ fo ro, PySem.W.findIn K (.type "list") (PySem.dunder nm) = some fo ∧ PySem.W.findIn K (.type "list") (PySem.dunderR nm) = some ro ∧ PySem.W.subIn K (.type "list") (.ref C) = some false
  tup : ∃ fo ro, PySem.W.findIn K (.type "tuple") (PySem.dunder nm) = some fo ∧ PySem.W.findIn K (.type "tuple") (PySem.dunderR nm) = some ro ∧ PySem.W.subIn K (.type "tuple") (.ref C) = some false
section
variable {prog : Program} {w : World} {A : Around} {E : Value → Shared → Prop} {s : Shared} {K : PySem.W.Frag} {x C L f : Addr} {h₀ : Heap} {m : Str → Option Value} {ox : Obj} {od : Option Obj} {T : String}
/-- the library's row for an operand of a built-in type, told of what a look at its type gives -/
theorem binL {op : Operator} {b : Value} {fo ro rc : Option Value} {Q : Value → Shared → Prop} (F : Fr h₀ L s.heap m) (X₀ : K.In h₀) (I : PySem.W.InstAt s.heap x ox C od) (hb : PySem.W.Looks (model prog w) s.heap (typeOf b) (.type T)) (hc : PySem.W.selfFirst K C = true)
    (hs : PySem.W.findIn K (.ref C) (PySem.dunder op.info.2) = some (some (.ref f))) (hf : PySem.W.isFn K (.ref f) = true) (hr : PySem.W.findIn K (.ref C) (dunderR op.info.2) = some rc) (hp : rc = none ∨ ∃ g : Addr, rc = some (.ref g))
    (h1 : PySem.W.findIn K (.type T) (PySem.dunder op.info.2) = some fo) (h2 : PySem.W.findIn K (.type T) (dunderR op.info.2) = some ro) (hsub : PySem.W.subIn K (.type T) (.ref C) = some false)
    (h : wpAny (model prog w) A (call (.ref f) [.ref x, b]) (PySem.W.CmpBack Q) E s) : wpAny (model prog w) A (binaryOp op (.ref x) b) Q E s := by
  have X := X₀.keeps F.keep
  obtain ⟨cd, rest, hcd, hm⟩ := PySem.W.ksp_first hc
  rcases hi : op.info with ⟨sym, nm'⟩
  rw [hi] at hs hr h1 h2; dsimp only at hs hr h1 h2
  have one := PySem.W.ksp_try X I hs hf h
  obtain ⟨hh, gg, dd, tt, os⟩ := s
  have La := I.type (M := model prog w)
  have Lc := PySem.W.fills_K (M := model prog w) X hcd hm hs
  have Ld := PySem.W.ksp_fillsT (M := model prog w) X h1 h2
  have Le : PySem.W.Looks (model prog w) hh (isSubtype (.type T) (.ref C)) false := PySem.W.looks_subIn X hsub
  have Lf := PySem.W.ksp_inPy (M := model prog w) X hs hr hp
  have Lg : PySem.W.Looks (model prog w) hh (numberSlotInPython (.type T) nm') false := PySem.W.Looks.of_pure rfl
  have Lh : PySem.W.Looks (model prog w) hh (typeLookup (.type T) (dunderR nm')) ro := PySem.W.looks_findIn X h2
  revert Ld
  generalize ((fo.isSome && !isSeqSlot fo) || (ro.isSome && !isSeqSlot ro)) = right
  intro Ld
  have hne : (Value.ref C == Value.type T) = false := Bool.eq_false_iff.mpr fun q => by cases beq_iff_eq.mp q
  simp only [binaryOp, hi]
  refine wpAny_holding (wpAny_bind ?_)
  unfold binaryOp1
  refine wpAny_bind (La.at (wpAny_bind (hb.at (wpAny_bind (Lc.at ?_)))))
  simp only [hne, Bool.false_eq_true, if_false]
  cases right <;> (ksp_lk; refine wpAny_mono one (fun r s' hr' => ?_) (fun _ _ e => e); obtain ⟨v, rfl, hq⟩ := hr'; ksp_lk; exact hq)
end
section
variable {X : Cx} {CX : CXT} {n : Nat} {C g : Addr} {fd : FuncData} {ps : List Str} {sp : Sp} {E : XK}
theorem op_binO {op : Operator} (T : OpF X.K C op.info.2 g) (F : FnOk X.prog X.w X.K X.mg X.base CX n g fd ps sp) (hr : Room n X.A) (hb : Binds X.K fd ps []) (hx : Passes CX X E) : OpR X (binaryOp op) (rOpI X.K C sp E) := by
  intro pins s σ H x y v u Q I rx ry h
  obtain ⟨a, dx, fs, rfl, ho, hy, q⟩ := h
  cases rx
  obtain ⟨ox, od, J⟩ := inst_of I ho
  obtain ⟨mf, hF⟩ := I.fr
  have go := thn (run_sub (us := [.ref a, u]) (vs := [.ref a, y]) (stack_of I) F hr hb hx I (.cons rfl (.cons ry .nil)) q) (Q' := PySem.W.CmpBack (EP X pins σ Q)) fun w s' ⟨z', H', I', rz, qz⟩ => SlX.cmpback rz ⟨z', H', I', rz, qz⟩
  rcases hy with ⟨b, dy, gs, rfl, hb'⟩ | ⟨b, xs, rfl, hq⟩
  · cases ry
    obtain ⟨oy, od', J'⟩ := inst_of I hb'
    exact PySem.W.binop_K (op := op) hF I.ok.mod.kin J J'.type T.first T.at_ T.fn go
  · cases ry
    obtain ⟨rc, r1, r2⟩ := T.rev
    rcases hq with hq | hq
    · obtain ⟨fo, ro, t1, t2, t3⟩ := T.lst
      obtain ⟨its, rv, pl, hz⟩ := I.list hq
      obtain ⟨o, ho, hc, _⟩ := pl.isList
      exact binL hF I.ok.mod.kin J (fun A Q E s k z => wpAny_typeOf_ref (k _ _ ho) (by rw [hc]; exact z)) T.first T.at_ T.fn r1 r2 t1 t2 t3 go
    · obtain ⟨fo, ro, t1, t2, t3⟩ := T.tup
      obtain ⟨its, rv, ⟨o, ho, hc, _⟩, hz⟩ := I.tuple hq
      exact binL hF I.ok.mod.kin J (fun A Q E s k z => wpAny_typeOf_ref (k _ _ ho) (by rw [hc]; exact z)) T.first T.at_ T.fn r1 r2 t1 t2 t3 go
end
end L2

namespace L2
open PySem PySem.Spec PyProof.Rows
/-! ### o[k] by the class's own def, in a try's body -/
section
variable {X : Cx} {CX : CXT} {k : Nat} {f C a dx : Addr} {fs : List (Str × V)} {fd : FuncData} {ps : List Str} {sp : Sp} {pins : List (Addr × Obj)} {σ : St} {H : Hp} {s : Shared} {Q : VK} {us : List Value} {vs : List V}
theorem run_subW {E : XK} {A1 : Around} (hf : A1.frames = some X.stack) (F : FnOk X.prog X.w X.K X.mg X.base CX k f fd ps sp) (hr : Room k A1) (hb : Binds X.K fd ps []) (hx : PassesAt CX X σ E) (I : Inv X pins σ H s) (r : Vals vs us) (h : sp vs H Q E) :
    wpAny (model X.prog X.w) A1 (call (.ref f) us) (EP X pins σ Q) X.xe s := by
  have hl : (us ++ []).length = ps.length := by rw [List.append_nil, ← r.length]; exact F.len _ _ _ _ h
  have e := I.env0
  have bt := hb s us I.kIn hl
  rw [List.append_nil] at bt
  refine wpAny_call (codeAny_mono (F.run A1 X.stack s H ⟨us, []⟩ us vs Q E hr ⟨hf, e.mod, e.bs, e.bsz, e.funs, e.frf, e.hok, e.bare⟩ bt r h) fun r s' hq => ?_)
  match r, hq with
  | .error e, hq => exact hx pins H s e s' I hq
  | .ok (.ret u), hq => exact I.after hq
def tGetIW (C : Addr) (sp : Sp) (E : St → XK) (ta tb : TE) : TE := fun σ H Q => tOp (rGetI C sp (E σ)) ta tb σ H Q
theorem pe_getIW {E : St → XK} {ea eb : Expr} {ta tb : TE} {pos : Pos} (m : Meth X.K C "__getitem__" f) (hfi : PySem.W.fnIn X.K f = true) (F : FnOk X.prog X.w X.K X.mg X.base CX k f fd ps sp) (hr : Room (k + 1) X.A) (hb : Binds X.K fd ps []) (hx : ∀ σ, PassesAt CX X σ (E σ))
    (ha : PE X ea ta) (hbe : PE X eb tb) (hsl : ∀ (x : Addr) (i : Value), subscripted eb true (.ref x) i = runValue (.builtin "lifetime.subscript" ⟨[.ref x, i], []⟩) := by intro _ _; with_unfolding_all rfl) : PE X (.Subscript ea eb pos) (tGetIW C sp E ta tb) := by
  refine ⟨fun pins s σ H Q I h => ?_⟩
  refine Subscript_ (binT ha hbe I h fun v u s2 x y H2 I2 rx ry q => ?_)
  obtain ⟨a, dx, fs, rfl, ho, q⟩ := q
  cases rx
  obtain ⟨ox, od, J⟩ := inst_of I2 ho
  obtain ⟨mf, hF⟩ := I2.fr
  exact PySem.W.sub_K hF I2.ok.mod.kin J m.at_ hfi m.fn (run_subW (A1 := X.A.in1) (us := [.ref a, u]) (vs := [.ref a, y]) (stack_of I2) F hr.in1 hb (hx σ) I2 (.cons rfl (.cons ry .nil)) q) (hsl a u)
end
end L2
namespace L2
open PySem PySem.Spec PyProof.Rows
/-! ### a try within a loop: its reading by a name -/
def tTryAs (K : PySem.W.Frag) (c : Value) (i : Nat) (tb : WX → TS) (ts : Addr → Value → Option Addr → TS) (Wout : WX) : TS := fun D σ H => tb (wAs K c i ts Wout D) D σ H
section
variable {X : Cx} {x n : Str} {c : Value} {i : Nat} {body suite : List Stmt} {b₀ : Stmt} {np pos pos' : Pos} {tb : WX → TS} {ts : Addr → Value → Option Addr → TS} {Wout : WX}
theorem ps_tryL (hs : X.stack = X.env :: X.outer) (hf : X.env.frame = some X.env.locals) (hN : X.N.Nodup) (hi : X.N[i]? = some n) (hln : X.env.kindOf n = some .local) (hc : Names X x c) (tk : Takes X Wout)
    (hb : ∀ (W : WX) (pn : List (Addr × Obj)) (xe : Value → Shared → Prop), Takes (X.tr pn xe) W → PassesOwn (model X.prog X.w) X.A X.env xe → PSs (X.tr pn xe) body (tb W))
    (hsu : ∀ (a : Addr) (oe : Obj) (cls : Value) (d : Option Addr) (pn : List (Addr × Obj)), Zc cls d oe → (∃ vs, oe.data = .fields vs) → PSs (X.suite a ((a, oe) :: pn)) (b₀ :: suite) (ts a cls d)) :
    PS X (.Try body [.ExceptHandler (some (.Name x np)) (some n) (b₀ :: suite) pos'] [] [] pos) (tTryAs X.K c i tb ts Wout) := ps_try_as hs hf hN hi hln hc tk hb hsu
end
end L2

namespace L2
open PySem PySem.Spec PyProof.Rows
section
variable {prog : Program} {w : World} {A : Around} {E : Value → Shared → Prop} {s : Shared} {K : PySem.W.Frag} {x C L f f0 : Addr} {h₀ : Heap} {m : Str → Option Value} {ox : Obj} {od : Option Obj} {T : String}
/-- a + o, a of a built-in type that fills no number slot: o's own reflected def -/
theorem binR {op : Operator} {a : Value} {fo ro : Option Value} {Q : Value → Shared → Prop} (F : Fr h₀ L s.heap m) (X₀ : K.In h₀) (I : PySem.W.InstAt s.heap x ox C od) (ha : PySem.W.Looks (model prog w) s.heap (typeOf a) (.type T)) (hc : PySem.W.selfFirst K C = true)
    (hs : PySem.W.findIn K (.ref C) (PySem.dunder op.info.2) = some (some (.ref f0))) (hr : PySem.W.findIn K (.ref C) (dunderR op.info.2) = some (some (.ref f))) (hf : PySem.W.isFn K (.ref f) = true)
    (h1 : PySem.W.findIn K (.type T) (PySem.dunder op.info.2) = some fo) (h2 : PySem.W.findIn K (.type T) (dunderR op.info.2) = some ro) (hl : ((fo.isSome && !isSeqSlot fo) || (ro.isSome && !isSeqSlot ro)) = false)
    (h : wpAny (model prog w) A (call (.ref f) [.ref x, a]) (PySem.W.CmpBack Q) E s) : wpAny (model prog w) A (binaryOp op a (.ref x)) Q E s := by
  have X := X₀.keeps F.keep
  obtain ⟨cd, rest, hcd, hm⟩ := PySem.W.ksp_first hc
  rcases hi : op.info with ⟨sym, nm'⟩
  rw [hi] at hs hr h1 h2; dsimp only at hs hr h1 h2
  have one := PySem.W.ksp_try X I hr hf h
  obtain ⟨hh, gg, dd, tt, os⟩ := s
  have La := I.type (M := model prog w)
  have Lc := PySem.W.fills_K (M := model prog w) X hcd hm hs
  have Ld := PySem.W.ksp_fillsT (M := model prog w) X h1 h2
  rw [hl] at Ld
  have hne : (Value.type T == Value.ref C) = false := Bool.eq_false_iff.mpr fun q => by cases beq_iff_eq.mp q
  simp only [binaryOp, hi]
  refine wpAny_holding (wpAny_bind ?_)
  unfold binaryOp1
  refine wpAny_bind (ha.at (wpAny_bind (La.at (wpAny_bind (Ld.at ?_)))))
  simp only [hne, Bool.false_eq_true, if_false]
  ksp_lk
  refine wpAny_mono one (fun r s' hr' => ?_) (fun _ _ e => e)
  obtain ⟨v, rfl, hq⟩ := hr'
  ksp_lk
  exact hq
end
/-- what list and tuple look like to + -/
structure SeqAdd (K : PySem.W.Frag) : Prop where
  la : PySem.W.findIn K (.type "list") "__add__" = some (some (.builtin "list.__add__"))
  lr : PySem.W.findIn K (.type "list") "__radd__" = some none
  ta : PySem.W.findIn K (.type "tuple") "__add__" = some (some (.builtin "tuple.__add__"))
  tr : PySem.W.findIn K (.type "tuple") "__radd__" = some none
def rOpR (K : PySem.W.Frag) (C : Addr) (sp : Sp) (E : XK) : R2 := fun x y H Q => ∃ b dy gs p xs, y = .ref b ∧ H b = some (.ins C dy gs) ∧ x = .ref p ∧ (SqL K H p xs ∨ SqT K H p xs) ∧ sp [y, x] H Q E
def ipOwn (C : Addr) (sp : Sp) (E : XK) : TIp := fun x y H Q => ∃ a dx fs, x = .ref a ∧ H a = some (.ins C dx fs) ∧ sp [x, y] H Q E
section
variable {X : Cx} {CX : CXT} {n : Nat} {C g g0 : Addr} {fd : FuncData} {ps : List Str} {sp : Sp} {E : XK}
theorem op_radd (S : SeqAdd X.K) (hc : PySem.W.selfFirst X.K C = true) (m0 : Meth X.K C "__add__" g0) (m : Meth X.K C "__radd__" g) (F : FnOk X.prog X.w X.K X.mg X.base CX n g fd ps sp) (hr : Room n X.A) (hb : Binds X.K fd ps []) (hx : Passes CX X E) : OpR X (binaryOp .Add) (rOpR X.K C sp E) := by
  intro pins s σ H x y v u Q I rx ry h
  obtain ⟨b, dy, gs, p, xs, rfl, ho, rfl, hq, q⟩ := h
  cases ry
  cases rx
  obtain ⟨ox, od, J⟩ := inst_of I ho
  obtain ⟨mf, hF⟩ := I.fr
  have go := thn (run_sub (us := [.ref b, .ref p]) (vs := [.ref b, .ref p]) (stack_of I) F hr hb hx I (.cons rfl (.cons rfl .nil)) q) (Q' := PySem.W.CmpBack (EP X pins σ Q)) fun w s' ⟨z', H', I', rz, qz⟩ => SlX.cmpback rz ⟨z', H', I', rz, qz⟩
  rcases hq with hq | hq
  · obtain ⟨its, rv, pl, hz⟩ := I.list hq
    obtain ⟨o, ho, hc', _⟩ := pl.isList
    exact binR (op := .Add) hF I.ok.mod.kin J (fun A Q E s k z => wpAny_typeOf_ref (k _ _ ho) (by rw [hc']; exact z)) hc m0.at_ m.at_ m.fn S.la S.lr (by decide +kernel) go
  · obtain ⟨its, rv, ⟨o, ho, hc', _⟩, hz⟩ := I.tuple hq
    exact binR (op := .Add) hF I.ok.mod.kin J (fun A Q E s k z => wpAny_typeOf_ref (k _ _ ho) (by rw [hc']; exact z)) hc m0.at_ m.at_ m.fn S.ta S.tr (by decide +kernel) go
theorem ip_own (hc : PySem.W.selfFirst X.K C = true) (m : Meth X.K C "__iadd__" g) (F : FnOk X.prog X.w X.K X.mg X.base CX n g fd ps sp) (hr : Room n X.A) (hb : Binds X.K fd ps []) (hx : Passes CX X E) : PIp X .Add (ipOwn C sp E) := by
  intro pins s σ H x y v u Q I rx ry h
  obtain ⟨a, dx, fs, rfl, ho, q⟩ := h
  cases rx
  obtain ⟨ox, od, J⟩ := inst_of I ho
  obtain ⟨mf, hF⟩ := I.fr
  have go := thn (run_sub (us := [.ref a, u]) (vs := [.ref a, y]) (stack_of I) F hr hb hx I (.cons rfl (.cons ry .nil)) q) (Q' := PySem.W.CmpBack (EP X pins σ Q)) fun w s' ⟨z', H', I', rz, qz⟩ => SlX.cmpback rz ⟨z', H', I', rz, qz⟩
  exact PySem.W.ksp_inplace (op := .Add) hF I.ok.mod.kin J hc m.at_ m.fn go
end
end L2

namespace PySem.W
open PySem PySem.Spec PySem.Calls PyProof.Rows
section
variable {prog : Program} {w : World} {A : Around} {E : Value → Shared → Prop} {s : Shared} {K : Frag} {x C f L : Addr} {ox : Obj} {od : Option Obj} {h₀ : Heap} {m : Str → Option Value}
/-- bool(o) by the class's own def -/
theorem kbo_call {Q : Value → Shared → Prop} (F : Fr h₀ L s.heap m) (X₀ : K.In h₀) (I : InstAt s.heap x ox C od) (hs : findIn K (.ref C) "__bool__" = some (some (.ref f))) (hf : isFn K (.ref f) = true)
    (h : wpAny (model prog w) A.in1.in1 (call (.ref f) [.ref x]) (BoolBack fun b s' => Q (.bool b) s') E s) : wpAny (model prog w) A (call (.type "bool") [.ref x]) Q E s := by
  refine callType_codes (T := "bool") (Bi := Builtin.«object.__init__») (Q₁ := fun r s₁ => ∃ b, r = .bool b ∧ Q r s₁) PySem.F.called_bool (PySem.F.typeCall_bool_1 _) PySem.F.entry_object_init ?_ ?_
  · refine codeAny_of_tree ?_
    show wpAny _ A.in1.in1 (do checkBuiltinCall "bool.__new__" ⟨[.type "bool", .ref x], []⟩; again (.builtin "bool.__new__" ⟨[.type "bool", .ref x], []⟩)) _ _ s
    refine wpAny_bind (wpAny_of_eq (PySem.F.newCall_bool_1 _) (wpAny_pure ⟨plainId_quiet (by decide +kernel) _, codeAny_builtin PySem.F.entry_bool_new ?_⟩))
    rw [Around.under_plainId (by decide +kernel) _]
    have f1 := PySem.F.conv_sub_bool
    have T : ∀ {M : Bool → Shared → Prop}, (∀ b s', Q (.bool b) s' → M b s') → wpAny (model prog w) A.in1.in1 (truthy (.ref x)) M E s := fun {M} k => truthy_K F X₀ I hs hf (wpAny_mono h (fun r s₁ hr => by cases r <;> first | exact hr.elim | exact k _ _ hr) fun _ _ y => y)
    repeat (any_goals (first | assumption | (with_reducible refine T ?_) | wp_step))
    all_goals exact fun b s' hq => wpAny_pure ⟨b, rfl, hq⟩
  · rintro obj s₁ ⟨b, rfl, hq⟩
    exact ⟨rfl, PySem.F.args_object_init_2 _ _, object_init_meets PySem.F.called_bool.init.lookup PySem.F.called_bool.made (by decide) prog w A.in1 _ s₁ ⟨rfl, rfl, hq⟩⟩
end
end PySem.W
namespace L2
open PySem PySem.Spec PyProof.Rows
section
variable {X : Cx} {CX : CXT} {k : Nat} {f C a dx : Addr} {fs : List (Str × V)} {fd : FuncData} {ps : List Str} {sp : Sp} {E : XK}
def rBoolI (C : Addr) (sp : Sp) (E : XK) : List V → Hp → VK → Prop := fun xs H Q => ∃ a dx fs, xs = [.ref a] ∧ H a = some (.ins C dx fs) ∧ sp [.ref a] H (fun v H' => ∃ b : Bool, v = .bl b ∧ Q (.bl b) H') E
theorem call_boolI (m : Meth X.K C "__bool__" f) (F : FnOk X.prog X.w X.K X.mg X.base CX k f fd ps sp) (hr : Room (k + 2) X.A) (hb : Binds X.K fd ps []) (hx : Passes CX X E) : CallR X (.type "bool") (rBoolI C sp E) := by
  intro pins s σ H xs us Q I r h
  obtain ⟨a, dx, fs, rfl, ho, q⟩ := h
  obtain ⟨u, rfl, ru⟩ := vals1 r
  cases ru
  obtain ⟨ox, od, J⟩ := inst_of I ho
  obtain ⟨mf, hF⟩ := I.fr
  have hr2 : Room k X.A.in1.in1 := hr.in1.in1
  refine PySem.W.kbo_call hF I.ok.mod.kin J m.at_ m.fn (thn (run_sub (A1 := X.A.in1.in1) (us := [.ref a]) (vs := [.ref a]) (stack_of I) F hr2 hb hx I (.cons rfl .nil) q) fun r s' z => ?_)
  obtain ⟨z1, H1, I1, r1, b, rfl, q1⟩ := z
  cases r1
  exact ⟨.bl b, H1, I1, rfl, q1⟩
end
end L2

namespace L2
open PySem PySem.Spec PyProof.Rows
/-! ### C(..) in a try -/
section
variable {X : Cx} {CX : CXT} {k : Nat} {f C : Addr} {fd : FuncData} {ps : List Str} {sp : Sp} {dvs : List V} {ds : List Value} {x : Str} {p pos : Pos} {e : Expr} {es : List Expr} {t : TA}
theorem run_makeW {E : XK} {pins : List (Addr × Obj)} {σ : St} {H : Hp} {s : Shared} {Q : VK} {us : List Value} {vs : List V} (M : Mk X.K C f) (F : FnOk X.prog X.w X.K X.mg X.base CX k f fd ps sp) (hr : Room (k + 1) X.A) (hb : Binds X.K fd ps ds) (hd : Vals dvs ds)
    (hx : PassesAt CX X σ E) (I : Inv X pins σ H s) (r : Vals vs us)
    (h : ∀ x dx, H x = none → H dx = none → dx ≠ x → sp (.ref x :: (vs ++ dvs)) (upd (upd H dx (.own x)) x (.ins C dx [])) (fun v H2 => v = .non ∧ Q (.ref x) H2) E) :
    wpAny (model X.prog X.w) X.A (call (.ref C) us) (EP X pins σ Q) X.xe s := by
  have hq := h (s.heap.objs.size + 1) s.heap.objs.size (I.hok.fresh (Nat.le_succ _)) (I.hok.fresh (Nat.le_refl _)) (Nat.ne_of_lt (Nat.lt_succ_self _))
  have I2 := Inv.made (C := C) I
  have r2 : Vals (V.ref (s.heap.objs.size + 1) :: (vs ++ dvs)) (Value.ref (s.heap.objs.size + 1) :: (us ++ ds)) := .cons rfl (r.append hd)
  have hl : (Value.ref (s.heap.objs.size + 1) :: us ++ ds).length = ps.length := by
    have e := r2.length
    rw [F.len _ _ _ _ hq] at e
    exact e.symm
  refine wpAny_call (make_map (f := f) I.kIn M.makes M.init (beq_iff_eq.mp M.fn) (codeAny_mono (F.run _ X.stack _ _ ⟨Value.ref (s.heap.objs.size + 1) :: us, []⟩ (Value.ref (s.heap.objs.size + 1) :: (us ++ ds)) _ _ E (hr.make C us [])
    (I2.env0.make C us []) (hb _ (Value.ref (s.heap.objs.size + 1) :: us) I2.kIn hl) r2 hq) fun r s' hq' => ?_))
  cases r with
  | error e => exact hx pins _ _ e s' I2 hq'
  | ok fl =>
    cases fl with
    | ret u =>
      obtain ⟨v, H', I3, rv, ev, q3⟩ := I2.after hq'
      subst ev
      exact ⟨rv, ⟨V.ref (s.heap.objs.size + 1), H', I3, rfl, q3⟩⟩
    | next => exact False.elim hq'
    | brk => exact False.elim hq'
    | cont => exact False.elim hq'
def tMakeW (C : Addr) (sp : Sp) (dvs : List V) (E : St → XK) (t : TA) : TE := fun σ H Q => tMake C sp dvs (E σ) t σ H Q
theorem pe_makeW {E : St → XK} (M : Mk X.K C f) (F : FnOk X.prog X.w X.K X.mg X.base CX k f fd ps sp) (hr : Room (k + 1) X.A) (hg : Gl X x) (hm : X.mg x = some (.ref C)) (hb : Binds X.K fd ps ds) (hd : Vals dvs ds) (hx : ∀ σ, PassesAt CX X σ (E σ))
    (ha : PA X (e :: es) t) (hdb : (x == ("__debug__" : Str)) = false := by decide) (he : starEach (e :: es) X.env = (false, eval e X.env) :: starEach es X.env := by rfl) (hpl : (backTo pos (starEach es X.env)).any (·.1) = false := by rfl) :
    PE X (.Call (.Name x p) (e :: es) [] pos) (tMakeW C sp dvs E t) := by
  refine ⟨fun pins s σ H Q I h => ?_⟩
  refine wpAny_Call_Name_kw (ld_glob I hg hm ?_ hdb)
  refine PySem.W.callWith_K (h₀ := X.base) I.ok.mod.kin M.kp (thn (ha.run pos pins s σ H _ I h) fun us s1 ⟨vs, H1, I1, r, q⟩ => ⟨I1.kIn, ?_⟩) he hpl
  exact run_makeW M F hr hb hd (hx σ) I1 r q
end
end L2

namespace PySem
namespace HandSPX
open PySem PySem.Spec
/-- it leaves the def, its flight whatever it is -/
theorem leaves_anyZ {M : Model} {A : Around} {E : Value → Shared → Prop} {s : Shared} {Z : Obj → Prop} {base : Heap} {env : Env} {outer : List Env} {L e : Addr} {fl : Value} {Q : Unit → Shared → Prop} (hZ : Steady Z)
    (hfr : A.frames = some (env :: outer)) (hf : env.frame = some L) (hkb : base.StaysIn s.heap) (hen : base.get? e = none) (hl : s.heap.FunFrames base (env :: outer)) (ht : TracedZ s.heap base e Z fl)
    (hQ : ∀ h', FlyingZ base outer e Z h' → s.heap.UpToSlots h' → Q () { s with heap := h' }) : wpAny M A (leaving env (.ref e)) Q E s := by
  by_cases hfl : fl = rawInt L
  · subst hfl
    exact leaves_heldZ hf ⟨hkb, hen, hl, ht⟩ hQ
  obtain ⟨oe, vs, T, oT, ts, he, hz, hd, h1, hnT, hTe, hT, hdT, h3⟩ := ht
  unfold leaving noteFrame
  simp only [hf]
  refine wpAny_bind (wpAny_bind (wpAny_field he hd h1 ?_))
  rw [if_pos (show (Value.ref T != Value.none) = true from by simp)]
  refine wpAny_bind (wpAny_field hT hdT h3 ?_)
  rw [if_neg (show ¬ ((fl == rawInt L) = true) from by simp [hfl])]
  refine wpAny_bind (wpAny_setField hT hdT (Array.getElem?_eq_some_iff.mp h3).1 ?_)
  have other : ∀ b, b ≠ T → (s.heap.update T (Obj.mapFields (·.setIfInBounds 3 Value.none))).get? b = s.heap.get? b := fun b hb => Heap.get?_update_other _ _ (Ne.symm hb)
  have noRecord : ∀ b o, s.heap.get? b = some o → (∀ vs, o.data ≠ .fields vs) → b ≠ T := fun b o hb hnf q => by
    rw [q, hT] at hb; injection hb with hb; subst hb; exact hnf ts hdT
  refine wpAny_newEntryZ hZ hfr (hl.of_keeps fun b o hb hnf => ⟨o, (other b (noRecord b o hb hnf)).trans hb, rfl⟩) hf ((other e (Ne.symm hTe)).trans he)
    (fun b o hbo => (other b fun q => by rw [q, hnT] at hbo; cases hbo).trans (hkb b o hbo)) hen hd (Array.getElem?_eq_some_iff.mp h1).1 hz fun h' hL => ?_
  obtain ⟨x1, ⟨_, _, x2⟩, x3, x4⟩ := hL
  exact hQ h' ⟨x1, hen, x2, x3⟩ fun b o hb hnf => x4 b o ((other b (noRecord b o hb hnf)).trans hb) hnf
end HandSPX
end PySem
namespace L2
open PySem PySem.Spec PyProof.Rows
theorem noteFrame_as {e1 e2 : Env} (h : e1.frame = e2.frame) (x : Value) : noteFrame x e1 = noteFrame x e2 := by
  unfold noteFrame PySem.frameOf
  rw [h]
section
variable {X : Cx} {pins : List (Addr × Obj)} {σ : St} {H : Hp} {sI s s' : Shared} {B : Heap} {E : XK}
theorem leaveAny (hs : X.stack = X.env :: X.outer) (hf : X.env.frame = some X.env.locals) (hex : X.ex = []) {E₁ : Value → Shared → Prop} {a : Addr} {cls : Value} {d : Option Addr} {fl : Value}
    (I : Inv X pins σ H sI) (nb : ∀ b o, sI.heap.get? b = some o → b ∉ frs X.stack → B.get? b = some o) (up : sI.heap.UpToSlots s'.heap) (hB : B.StaysIn s'.heap) (hn : B.get? a = none) (hl : s'.heap.FunFrames B X.stack) (ht : HandSPX.TracedZ s'.heap B a (Zc cls d) fl)
    (na : H a = none) (os : s'.os = sI.os) (ag : AllBare s'.gens) (hE : E cls d H) :
    wpAny (model X.prog X.w) X.A (leaving X.env (.ref a)) (fun _ s'' => CX X.prog X.w X.outer X.H_0 X.s_0 E (.ref a) s'') E₁ s' := by
  have hfr : X.A.frames = some (X.env :: X.outer) := by rw [I.ok.frames, hs]
  have nst : ∀ b o, X.s_0.heap.get? b = some o → b ∉ X.fs → b ∉ frs X.stack := fun b o e hb hm => by
    rcases List.mem_cons.mp (I.stkSub b hm) with z | z
    · have h1 := Heap.lt_size e
      have h2 := I.ok.above
      rw [z] at h1
      exact absurd (Nat.lt_of_lt_of_le h1 h2) (Nat.lt_irrefl _)
    · exact hb z
  have hex' : ∀ b, b ∉ X.ex := fun b hb => by rw [hex] at hb; cases hb
  have hokB := I.inGround nb
  rw [hs] at hl
  refine HandSPX.leaves_anyZ Zc.steady hfr hf hB hn hl ht fun h' fl up' => ?_
  refine ⟨a, B, H, cls, d, rfl, fl, hokB, ⟨fun b o e n hb => nb b o (I.base.keep b o e n hb (hex' b)) (nst b o e hb), fun b o e hb => ?_, fun b o e n => I.base.free b o e n (hex' b), fun b o e hb => ?_, I.base.tups, I.base.frzs, I.base.tbls⟩,
    na, os.trans I.os, ag, hE⟩
  · obtain ⟨_, o₀, e₀, hnf⟩ := I.ok.funs.mem hb
    rw [e] at e₀; cases e₀
    obtain ⟨sl, e1⟩ := I.base.slot b o e (I.ok.frf b hb) hb (hex' b)
    obtain ⟨sl2, e2⟩ := up b _ e1 hnf
    obtain ⟨sl3, e3⟩ := up' b _ e2 hnf
    exact ⟨sl3, e3⟩
  · obtain ⟨o', e1⟩ := I.base.there b o e (hex' b)
    exact ⟨o', nb b o' e1 (nst b o e hb)⟩
/-- a call's exception, its parts -/
theorem of_callF (I : Inv X pins σ H s) {u : Value} (c : CX X.prog X.w X.stack H s E u s') : ∃ (a : Addr) (B : Heap) (sI : Shared) (H' : Hp) (cls : Value) (d : Option Addr), u = .ref a ∧ Inv X pins σ H' sI ∧ (∀ b o, sI.heap.get? b = some o → b ∉ frs X.stack → B.get? b = some o) ∧ sI.heap.UpToSlots s'.heap ∧
    HandSPX.FlyingZ B X.stack a (Zc cls d) s'.heap ∧ H' a = none ∧ s'.os = sI.os ∧ AllBare s'.gens ∧ E cls d H' := by
  obtain ⟨a, B, H', cls, d, rfl, fl, hok, ub, na, os, ag, hE⟩ := c
  obtain ⟨G, g1, g2⟩ := restrict s'.heap fun b => (B.get? b).isSome || decide (b ∈ frs X.stack)
  have st : B.StaysIn s'.heap := fl.1
  have gB : ∀ b o, B.get? b = some o → G.get? b = some o := fun b o e => by
    rw [g1 b (by simp [e])]
    exact st b o e
  have gF : ∀ b, b ∈ frs X.stack → G.get? b = s'.heap.get? b := fun b hb => g1 b (by simp [hb])
  have og : ∀ b o, G.get? b = some o → s'.heap.get? b = some o ∧ ((B.get? b).isSome = true ∨ b ∈ frs X.stack) := fun b o e => by
    cases q : ((B.get? b).isSome || decide (b ∈ frs X.stack)) with
    | false => rw [g2 b q] at e; cases e
    | true =>
      rw [g1 b q] at e
      exact ⟨e, by simpa [Bool.or_eq_true] using q⟩
  refine ⟨a, B, { s with heap := G, gens := s'.gens, drawn := s'.drawn, toks := s'.toks }, H', cls, d, rfl, ?_, fun b o e hb => ?_, Heap.UpToSlots.of_keeps fun b o e => (og b o e).1, fl, na, os, ag, hE⟩
  · refine I.call (ch := []) ⟨fun b o e n hb _ => gB b o (ub.keep b o e n hb), fun b o e n hb _ => ?_, fun b o e n _ => ub.free b o e n, fun b o e _ => ?_, ub.tups, ub.frzs, ub.tbls⟩ (hok.kept gB) ag (fun _ z => nomatch z)
    · obtain ⟨sl, q⟩ := ub.slot b o e hb
      exact ⟨sl, by rw [gF b hb]; exact q⟩
    · by_cases hb : b ∈ frs X.stack
      · obtain ⟨sl, q⟩ := ub.slot b o e hb
        exact ⟨_, by rw [gF b hb]; exact q⟩
      · obtain ⟨o', q⟩ := ub.there b o e hb
        exact ⟨o', gB b o' q⟩
  · obtain ⟨e', h⟩ := og b o e
    rcases h with h | h
    · obtain ⟨o', q⟩ := Option.isSome_iff_exists.mp h
      have z := st b o' q
      rw [e'] at z; cases z
      exact q
    · exact absurd h hb
theorem funFrames_hide {B h h' : Heap} {C : Addr} (k : ∀ b, b ≠ C → h'.get? b = h.get? b) : ∀ {l : List Env}, h.FunFrames B l → C ∉ frs l → h'.FunFrames (PySem.W.hideAll B [C]) l
  | [], _, _ => trivial
  | env :: l, hh, hC => by
    obtain ⟨hk, ⟨L, o, hf, hn, ho, hd⟩, hr⟩ := hh
    have m : L ∈ frs (env :: l) := List.mem_filterMap.mpr ⟨env, List.mem_cons_self, hf⟩
    have nL : L ≠ C := fun e => hC (e ▸ m)
    refine ⟨hk, ⟨L, o, hf, ?_, (k L nL).trans ho, hd⟩, funFrames_hide k hr fun z => hC ?_⟩
    · cases q : (PySem.W.hideAll B [C]).get? L with
      | none => rfl
      | some u => rw [PySem.W.of_hideAll _ q] at hn; cases hn
    · obtain ⟨e, he, q⟩ := List.mem_filterMap.mp z
      exact List.mem_filterMap.mpr ⟨e, List.mem_cons_of_mem _ he, q⟩
theorem Inv.reXe (I : Inv X pins σ H s) (xb : Value → Shared → Prop) : Inv { X with xe := xb } pins σ H s :=
  ⟨⟨I.ok.mod, I.ok.kind, I.ok.glob, I.ok.blt, I.ok.above, I.ok.inj, I.ok.has, I.ok.cab, I.ok.hd, I.ok.frames, I.ok.stk, I.ok.exf, I.ok.bs, I.ok.bsz, I.ok.noex, I.ok.exfs, I.ok.funs, I.ok.frf⟩, I.os, I.bare, I.base, I.loc, I.cell, I.free, I.freeC, I.pin, I.hok, I.len⟩
end
end L2

namespace L2
open PySem PySem.Spec PyProof.Rows
section
variable {X : Cx} {E : XK}
/-- what a call in the block lets out goes out of the comprehension and out of the def -/
theorem blk_passes {pins : List (Addr × Obj)} {σ : St} {H3 : Hp} {s3 : Shared} {scope : Scope} {ce : Env} {fp : List Addr} {use : Option (Value → Sem Unit)} {Qf : Value → Shared → Prop} {acc : Value} {E₁ : Value → Shared → Prop}
    (hs : X.stack = X.env :: X.outer) (hf : X.env.frame = some X.env.locals) (hex : X.ex = [])
    (hx : X.xe = fun e s' => wpAny (model X.prog X.w) X.A (leaving X.env e) (fun _ s'' => CX X.prog X.w X.outer X.H_0 X.s_0 E e s'') E₁ s')
    (I3 : Inv X pins σ H3 s3) (f3 : ∀ b ∈ fp, FpOk X pins H3 b ∧ b < s3.heap.objs.size) (cL : ce.locals = s3.heap.objs.size) (cF : ce.frame = X.env.frame) :
    Passes (CX X.prog X.w) { X.blk s3 H3 scope ce fp with xe := notedBy (model X.prog X.w) X.A ce fun e s' => compPost (model X.prog X.w) X.A X.xe use Qf acc s3.heap.objs.size (.error e) s' } E := by
  intro pinsB σB H s e s' I c
  obtain ⟨a, B, sI, H', cls, d, rfl, Ib, nb, up, fl, na, os, ag, hE⟩ := of_callF I c
  have nb : ∀ b o, sI.heap.get? b = some o → b ∉ frs X.stack → B.get? b = some o := nb
  have fl : HandSPX.FlyingZ B X.stack a (Zc cls d) s'.heap := fl
  generalize hC : s3.heap.objs.size = C at cL
  have hfr : X.A.frames = some (X.env :: X.outer) := by rw [I3.ok.frames, hs]
  show wpAny (model X.prog X.w) X.A (noteFrame (.ref a) ce) (fun _ s'' => compPost (model X.prog X.w) X.A X.xe use Qf acc C (.error (.ref a)) s'') _ s'
  rw [noteFrame_as cF]
  rw [hs] at fl
  refine HandSPX.looks_onZ Zc.steady hfr hf fl fun h1 held up1 => ?_
  have I1 : Inv _ pinsB σB H' { s' with heap := h1 } := Ib.landed (s' := { s' with heap := h1 }) nb held.1 (Heap.UpToSlots.trans up up1) os ag
  obtain ⟨m, hn, _⟩ := I1.loc
  have hn : h1.Ns ce.locals m := hn
  rw [cL] at hn
  have nC : H' C = none := by
    have z : H' ce.locals = none := Ib.free
    rw [cL] at z; exact z
  have IX : Inv X pins σ H' sI := I3.call' (ch := fp) Ib.os Ib.base Ib.hok Ib.bare fun b hb => ⟨(f3 b hb).1.2.2.2.1, (f3 b hb).1.2.1, (f3 b hb).1.2.2.2.2.1, (f3 b hb).1.2.2.2.2.2⟩
  obtain ⟨f0, f1, f2, f3', f4, f5⟩ := I3.fpOk (b := C) (Nat.le_of_eq hC) nC
  have I2 : Inv X pins σ H' { sI with heap := PySem.W.hideAll sI.heap [C], toks := sI.toks } := IX.turned (it := C) (fun b o hb e => PySem.W.hideAll_get _ e (by simpa using hb)) f0 f1 f3' f4 f5
  have nhide : ∀ {h : Heap} {b : Addr} {o : Obj}, (PySem.W.hideAll h [C]).get? b = some o → b ≠ C := fun {h b o} e z => by
    rw [PySem.W.hideAll_none (b := b) [C] (by simp [z])] at e; cases e
  have hCs : C ∉ frs X.stack := fun z => by
    rcases List.mem_cons.mp (I3.stkSub C z) with e | e
    · exact f1 e
    · exact f2 e
  have fin : ∃ m, h1.Ns C m ∧ ∀ h', Heap.SameBut C h1 h' → ∀ cenv : Env, cenv.locals = C → wpAny (model X.prog X.w) X.A (PySem.passOn "comprehension.variables-let-go" (.ref a) cenv : Sem Value) (fun _ _ => False) X.xe { s' with heap := h' } := by
    refine ⟨m, hn, fun h' sb cenv _ => ?_⟩
    obtain ⟨kB, hen, hl, oe, vs, T, oT, ts, he, hz, hd, e1, hnT, hTe, hT, hdT, e3⟩ := held
    obtain ⟨oC, es, ep, gC, dC, _⟩ := hn
    have naC : a ≠ C := fun z => by rw [z, gC] at he; cases he; rw [dC] at hd; cases hd
    have nTC : T ≠ C := fun z => by rw [z, gC] at hT; cases hT; rw [dC] at hdT; cases hdT
    have he' : h'.get? a = some oe := (sb.2 a naC).trans he
    have hT' : h'.get? T = some oT := (sb.2 T nTC).trans hT
    have hnB : ∀ b, B.get? b = none → (PySem.W.hideAll B [C]).get? b = none := fun b e => by
      cases q : (PySem.W.hideAll B [C]).get? b with
      | none => rfl
      | some u => rw [PySem.W.of_hideAll _ q] at e; cases e
    have kB' : (PySem.W.hideAll B [C]).StaysIn h' := fun b o e => (sb.2 b (nhide e)).trans (kB b o (PySem.W.of_hideAll _ e))
    have hl' : h'.FunFrames (PySem.W.hideAll B [C]) (X.env :: X.outer) := funFrames_hide sb.2 hl (by rw [← hs]; exact hCs)
    have ht' : HandSPX.TracedZ h' (PySem.W.hideAll B [C]) a (Zc cls d) (rawInt X.env.locals) := ⟨oe, vs, T, oT, ts, he', hz, hd, e1, hnB T hnT, hTe, hT', hdT, e3⟩
    unfold PySem.passOn
    refine wpAny_bind (wpAny_field he' hd e1 ?_)
    rw [if_neg (show ¬ ((Value.ref T == Value.none) = true) from by simp)]
    refine wpAny_bind (HandSPX.setFlight_anyZ kB' hl' ht' fun h2 k1 k2 k3 k4 => wpAny_throw ?_)
    rw [hx]
    refine leaveAny hs hf hex I2 (fun b o e hb => ?_) (fun b o e hnf => ?_) k1 (hnB a hen) (by rw [hs]; exact k2) k3 na os ag hE
    · exact PySem.W.hideAll_get _ (nb b o (PySem.W.of_hideAll _ e) hb) (by simpa using nhide e)
    · have nb' := nhide e
      obtain ⟨sl1, q1⟩ := up b o (PySem.W.of_hideAll _ e) hnf
      obtain ⟨sl2, q2⟩ := up1 b _ q1 hnf
      obtain ⟨sl3, q3⟩ := k4 b _ ((sb.2 b nb').trans q2) hnf
      exact ⟨sl3, q3⟩
  cases use <;> exact fin
theorem lc_coreX {pins : List (Addr × Obj)} {s : Shared} {σ : St} {H : Hp} {Q : VK} {elt tg iter : Expr} {ifs : List Expr} {scope : Scope} {own : List (Str × Nat)} {pos pos' : Pos} {wi : TI} {g : TG} {tt : TT} {te : TE} {use : Option (Value → Sem Unit)} {Qf : Value → Shared → Prop} {E₁ : Value → Shared → Prop}
    (hst : X.stack = X.env :: X.outer) (hfm : X.env.frame = some X.env.locals) (hex : X.ex = [])
    (hx : X.xe = fun e s' => wpAny (model X.prog X.w) X.A (leaving X.env e) (fun _ s'' => CX X.prog X.w X.outer X.H_0 X.s_0 E e s'') E₁ s')
    (hc : X.calm = true) (hN : X.N.Nodup) (I : Inv X pins σ H s) (hi : PI X tg iter wi) (ok : BlkOk X.N X.env.scope scope own)
    (hg : ∀ (s : Shared) (H : Hp) (C : Addr) (cl : List (Str × Addr)) (fp : List Addr) (xb : Value → Shared → Prop), PG { X.blk s H scope (compEnvC scope cl C X.env) fp with xe := xb } tg g) (ht : ∀ (s : Shared) (H : Hp) (C : Addr) (cl : List (Str × Addr)) (fp : List Addr) (xb : Value → Shared → Prop), PTs { X.blk s H scope (compEnvC scope cl C X.env) fp with xe := xb } ifs tt)
    (he : ∀ (s : Shared) (H : Hp) (C : Addr) (cl : List (Str × Addr)) (fp : List Addr) (xb : Value → Shared → Prop), Passes (CX X.prog X.w) { X.blk s H scope (compEnvC scope cl C X.env) fp with xe := xb } E → PE { X.blk s H scope (compEnvC scope cl C X.env) fp with xe := xb } elt te) (hs : ∀ x, foldedSetIterable iter X.env x = pure x)
    (h : tLc wi g tt te (own.map (·.2)) σ H Q)
    (hRR : ∀ D C s' m H', Inv X pins σ H' s' → Q (.ref D) H' → s'.heap.Ns C m → FpOk X pins H' C → compPost (model X.prog X.w) X.A X.xe use Qf (.ref D) C (.ok .next) s') :
    wpAny (model X.prog X.w) X.A (comprehension (.ListComp elt [⟨tg, iter, ifs, 0⟩] scope pos) scope X.env pos' (newList []) false (eval iter X.env) use) Qf X.xe s := by
  have hfree : ∀ y ∈ scope.names, y.2 = .free → ∃ c, X.env.cells.lookup y.1 = some c := fun y hy e => by
    rcases ok.free y hy e with k | k
    · exact I.ok.has _ (.inl k)
    · exact I.ok.has _ (.inr k)
  refine wpAny_comprehension_free (use := use) rfl hs (closure_ok hfree) ok.kind (fun y hy e => by rw [ok.uniq y hy, e])
    (thn (hi.run pins s σ H _ I h) fun xv s1 hxv => thn hxv fun itv s2 h2 => ?_)
  obtain ⟨it, fp, tn, J, H2, e, I2, T, st2, f2, q⟩ := h2
  subst e
  refine wpAny_newObj_type (newEnv_comp ?_) (by show 0 ≤ sizeLine; decide)
  generalize hD : s2.heap.objs.size = D
  have hDn : H2 D = none := I2.hok.fresh (Nat.le_of_eq hD)
  obtain ⟨W, ⟨m0, w0⟩, turn⟩ := q D hDn
  -- the new list
  generalize hs3 : ({ s2 with heap := s2.heap.push { cls := .type "list", data := .seq ([] : List Value).toArray } } : Shared) = s3
  have I3 : Inv X pins σ (upd H2 D (.lst [])) s3 := by
    rw [← hs3]
    refine I2.laid (t' := s2.toks) (fun b o e => Heap.get?_push_of_some _ e) (Nat.le_of_eq hD) ⟨Nat.zero_le _, [], 0, .nil, ?_⟩
    rw [← hD]
    exact Heap.get?_push_size _ rfl
  have h3 : s3.heap = s2.heap.push { cls := .type "list", data := .seq ([] : List Value).toArray } := by rw [← hs3]
  have sz : ∀ b ∈ fp, b < s2.heap.objs.size := fun b hb => by
    obtain ⟨o, e, _⟩ := T.obj _ _ st2 b hb
    exact Heap.lt_size e
  have f3 : ∀ b ∈ fp, FpOk X pins (upd H2 D (.lst [])) b ∧ b < s3.heap.objs.size := fun b hb => by
    have hlt := sz b hb
    refine ⟨⟨?_, (f2 b hb).2⟩, by rw [h3, Heap.size_push]; exact Nat.lt_succ_of_lt hlt⟩
    rw [upd_ne (by rw [← hD]; exact Nat.ne_of_lt hlt)]
    exact (f2 b hb).1
  have st3 : tn 0 s3.heap := T.keep _ _ _ st2 fun b _ o e => by rw [h3]; exact Heap.get?_push_of_some _ e
  have I4 := block_start I3 ok hN f3
  have pg := hg s3 (upd H2 D (.lst [])) s3.heap.objs.size (cellsFrom (s3.heap.objs.size + 1) scope.names (cloFrom X.env.cells scope.names [])) fp
  have pt := ht s3 (upd H2 D (.lst [])) s3.heap.objs.size (cellsFrom (s3.heap.objs.size + 1) scope.names (cloFrom X.env.cells scope.names [])) fp
  have pe := he s3 (upd H2 D (.lst [])) s3.heap.objs.size (cellsFrom (s3.heap.objs.size + 1) scope.names (cloFrom X.env.cells scope.names [])) fp
  show codeAny _ _ (.compStart (.ListComp elt [⟨tg, iter, ifs, 0⟩] scope pos) 0 (.ref it) (.ref D) (compEnvC scope (cellsFrom (s3.heap.objs.size + 1) scope.names (cloFrom X.env.cells scope.names [])) s3.heap.objs.size X.env)) (compPost (model X.prog X.w) X.A X.xe use Qf (.ref D) s3.heap.objs.size) { s3 with heap := pushCells (s3.heap.push { cls := .type "dict", data := .dict #[] }) scope.names }
  have nfp : ∀ b ∈ fp, (upd H2 D (.lst [])) b = none := fun b hb => (f3 b hb).1.1
  have cF : (compEnvC scope (cellsFrom (s3.heap.objs.size + 1) scope.names (cloFrom X.env.cells scope.names [])) s3.heap.objs.size X.env).frame = X.env.frame := rfl
  generalize hce : compEnvC scope (cellsFrom (s3.heap.objs.size + 1) scope.names (cloFrom X.env.cells scope.names [])) s3.heap.objs.size X.env = ce at I4 pg pt pe cF ⊢
  have cL : ce.locals = s3.heap.objs.size := by subst hce; rfl
  generalize hH3 : upd H2 D (.lst []) = H3 at I3 I4 pg pt pe w0 nfp f3
  have ps := blk_passes (use := use) (Qf := Qf) (acc := .ref D) (scope := scope) (fp := fp) hst hfm hex hx I3 f3 cL cF
  replace pg := pg (notedBy (model X.prog X.w) X.A ce fun e s' => compPost (model X.prog X.w) X.A X.xe use Qf (.ref D) s3.heap.objs.size (.error e) s')
  replace pt := pt (notedBy (model X.prog X.w) X.A ce fun e s' => compPost (model X.prog X.w) X.A X.xe use Qf (.ref D) s3.heap.objs.size (.error e) s')
  replace pe := pe _ ps
  replace I4 := I4.reXe (notedBy (model X.prog X.w) X.A ce fun e s' => compPost (model X.prog X.w) X.A X.xe use Qf (.ref D) s3.heap.objs.size (.error e) s')
  generalize hXB : ({ X.blk s3 H3 scope ce fp with xe := notedBy (model X.prog X.w) X.A ce fun e s' => compPost (model X.prog X.w) X.A X.xe use Qf (.ref D) s3.heap.objs.size (.error e) s' } : Cx) = XB at pg pt pe I4
  have eP : XB.prog = X.prog := by subst hXB; rfl
  have eW : XB.w = X.w := by subst hXB; rfl
  have eK : XB.K = X.K := by subst hXB; rfl
  have eC : XB.calm = true := by subst hXB; exact hc
  have eE : XB.env = ce := by subst hXB; rfl
  have eA : XB.A = X.A := by subst hXB; rfl
  have eX : XB.xe = notedBy (model X.prog X.w) X.A ce fun e s' => compPost (model X.prog X.w) X.A X.xe use Qf (.ref D) s3.heap.objs.size (.error e) s' := by subst hXB; rfl
  generalize hs4 : ({ s3 with heap := pushCells (s3.heap.push { cls := .type "dict", data := .dict #[] }) scope.names } : Shared) = s4 at I4 ⊢
  have st4 : tn 0 s4.heap := T.keep _ _ _ st3 fun b _ o e => by rw [← hs4]; exact pushCells_keeps _ _ _ _ (Heap.get?_push_of_some _ e)
  have stat : ∀ {σ' : St} {H' : Hp} {s' : Shared}, Inv XB [] σ' H' s' → (∀ b ∈ fp, H' b = none) → ∀ b ∈ fp, FpOk XB [] H' b := fun {σ' H' s'} I' hn b hb => by
    subst hXB
    exact ⟨hn b hb, (I'.ok.exf b hb).1, I'.ok.exfs b hb, .inl hb, fun x c e => (I'.ok.exf b hb).2 x c e, fun p hp => absurd (show p ∈ ([] : List (Addr × Obj)) ++ [] from hp) (by simp)⟩
  have loop : codeAny (model X.prog X.w) X.A (.compLoop (.ListComp elt [⟨tg, iter, ifs, 0⟩] scope pos) 0 (.ref it) (.ref D) ce) (compPost (model X.prog X.w) X.A X.xe use Qf (.ref D) s3.heap.objs.size) s4 := by
    refine compLoop_any (fun n s' => ∃ i H', Inv XB [] (wipe σ (own.map (·.2))) H' s' ∧ tn i s'.heap ∧ (∀ b ∈ fp, H' b = none) ∧ W i n H') ?_ m0 ⟨0, H3, I4, st4, nfp, w0⟩
    rintro n s5 ⟨i, H5, I5, st5, n5, w5⟩
    rcases turn i n H5 w5 with ⟨stop, qq⟩ | ⟨go, Nx, hNx, step⟩
    · have td := T.done XB eP eW eK eC i [] s5 _ H5 (fun _ _ => False) I5 (stat I5 n5) st5 stop
      rw [eA] at td
      refine thnF td fun r s6 ⟨hr, I6⟩ => ?_
      subst hr
      have I6' : Inv { X.blk s3 H3 scope ce fp with xe := notedBy (model X.prog X.w) X.A ce fun e s' => compPost (model X.prog X.w) X.A X.xe use Qf (.ref D) s3.heap.objs.size (.error e) s' } [] (wipe σ (own.map (·.2))) H5 s6 := by rw [hXB]; exact I6
      -- back in the def's context
      have I7 : Inv X pins σ H5 s6 := I3.call' (ch := fp) I6'.os I6'.base I6'.hok I6'.bare fun b hb => ⟨(f3 b hb).1.2.2.2.1, (f3 b hb).1.2.1, (f3 b hb).1.2.2.2.2.1, (f3 b hb).1.2.2.2.2.2⟩
      have nC : H5 s3.heap.objs.size = none := by
        have z : H5 ce.locals = none := I6'.free
        rw [cL] at z
        exact z
      obtain ⟨m, hn, _⟩ := I6'.loc
      have hn : s6.heap.Ns ce.locals m := hn
      rw [cL] at hn
      exact hRR D s3.heap.objs.size s6 m H5 I7 qq hn (I3.fpOk (Nat.le_refl _) nC)
    · have ti := T.item XB eP eW eK eC i [] s5 _ H5 (fun _ _ => False) I5 (stat I5 n5) st5 go
      rw [eA] at ti
      refine thnF ti fun r s6 ⟨u, hr, h6⟩ => ?_
      subst hr
      refine thnF h6 fun _ s7 ⟨x, H7, I7, r7, y7, st7, n7⟩ => ?_
      have I7' := I7.pinned (stat I7 n7) (T.obj _ _ st7)
      have pg' := pg.run _ s7 _ H7 x u _ I7' r7 (step x H7 y7)
      rw [eP, eW, eA, eE, eX] at pg'
      refine thn pg' fun _ s8 ⟨σ8, H8, I8, hw8, q8⟩ => ?_
      have pt' := pt.run _ s8 σ8 H8 _ I8 q8
      rw [eP, eW, eA, eE, eX] at pt'
      refine thn pt' fun b s9 ⟨H9, I9, q9⟩ => ?_
      -- the turn's end
      have fin : ∀ {s' : Shared} {H' : Hp}, Inv XB ([] ++ pinsAt fp s7.heap) σ8 H' s' → Nx H' → ∃ m, m < n ∧ ∃ i H', Inv XB [] (wipe σ (own.map (·.2))) H' s' ∧ tn i s'.heap ∧ (∀ b ∈ fp, H' b = none) ∧ W i m H' := fun {s' H'} I' nx => by
        obtain ⟨m', hm, w'⟩ := hNx H' nx
        have pin' : ∀ b ∈ fp, ∀ o, s7.heap.get? b = some o → s'.heap.get? b = some o ∧ H' b = none := fun b hb o e =>
          let z := I'.pin (b, o) (List.mem_append_right _ (List.mem_append_right _ (mem_pinsAt hb e)))
          ⟨z.1, z.2.1⟩
        have hl : (wipe σ (own.map (·.2))).length = σ8.length := by rw [← hw8, wipe_length]
        refine ⟨m', hm, i + 1, H', (I'.unpinned (pins := [])).weak hl (fun j v e => ?_), T.keep _ _ _ st7 fun b hb o e => (pin' b hb o e).1, fun b hb => ?_, w'⟩
        · rw [← hw8] at e
          exact (wipe_some e).1
        · obtain ⟨o, e, _⟩ := T.obj _ _ st7 b hb
          exact (pin' b hb o e).2
      cases b with
      | false =>
        simp only [Bool.false_eq_true, if_false] at q9 ⊢
        exact fin I9 q9
      | true =>
        simp only [if_true] at q9 ⊢
        have pe' := pe.run _ s9 σ8 H9 _ I9 q9
        rw [eP, eW, eA, eE, eX] at pe'
        refine thn pe' fun z s10 ⟨yv, H10, I10, r10, acc, hD10, hz10, nx⟩ => ?_
        have ap : wpAny (model XB.prog XB.w) XB.A (call (.builtin "list.append") [.ref D, z]) (fun _ s' => ∃ m, m < n ∧ ∃ i H', Inv XB [] (wipe σ (own.map (·.2))) H' s' ∧ tn i s'.heap ∧ (∀ b ∈ fp, H' b = none) ∧ W i m H')
            (notedBy (model X.prog X.w) X.A ce fun e s' => compPost (model X.prog X.w) X.A X.xe use Qf (.ref D) s3.heap.objs.size (.error e) s') s10 := app_ok (X := XB) I10 hD10 hz10 r10 fun s11 I11 => fin I11 nx
        rw [eP, eW, eA] at ap
        exact ap
  exact codeAny_compStart_list loop (T.self X.A 0 _ _ _ st4 loop)
/-- [f(x) for x in ..], f(x) may raise what the def may raise -/
theorem pe_lcX {elt tg iter : Expr} {ifs : List Expr} {scope : Scope} {own : List (Str × Nat)} {pos : Pos} {wi : TI} {g : TG} {tt : TT} {te : TE} {E₁ : Value → Shared → Prop}
    (hst : X.stack = X.env :: X.outer) (hfm : X.env.frame = some X.env.locals) (hex : X.ex = [])
    (hx : X.xe = fun e s' => wpAny (model X.prog X.w) X.A (leaving X.env e) (fun _ s'' => CX X.prog X.w X.outer X.H_0 X.s_0 E e s'') E₁ s')
    (hc : X.calm = true) (hN : X.N.Nodup) (hi : PI X tg iter wi) (ok : BlkOk X.N X.env.scope scope own)
    (hg : ∀ (s : Shared) (H : Hp) (C : Addr) (cl : List (Str × Addr)) (fp : List Addr) (xb : Value → Shared → Prop), PG { X.blk s H scope (compEnvC scope cl C X.env) fp with xe := xb } tg g) (ht : ∀ (s : Shared) (H : Hp) (C : Addr) (cl : List (Str × Addr)) (fp : List Addr) (xb : Value → Shared → Prop), PTs { X.blk s H scope (compEnvC scope cl C X.env) fp with xe := xb } ifs tt)
    (he : ∀ (s : Shared) (H : Hp) (C : Addr) (cl : List (Str × Addr)) (fp : List Addr) (xb : Value → Shared → Prop), Passes (CX X.prog X.w) { X.blk s H scope (compEnvC scope cl C X.env) fp with xe := xb } E → PE { X.blk s H scope (compEnvC scope cl C X.env) fp with xe := xb } elt te)
    (hs : ∀ x, foldedSetIterable iter X.env x = pure x := by intro _; rfl) : PE X (.ListComp elt [⟨tg, iter, ifs, 0⟩] scope pos) (tLc wi g tt te (own.map (·.2))) := by
  refine ⟨fun pins s σ H Q I h => ?_⟩
  rw [eval_ListComp]
  refine lc_coreX hst hfm hex hx hc hN I hi ok hg ht he hs h fun D C s' m H' I' q hn f => ⟨m, hn, fun h'' sb => ?_⟩
  obtain ⟨f0, f1, f2, f3, f4, f5⟩ := f
  exact ⟨.ref D, H', I'.turned (t' := s'.toks) (fun b o hb e => (sb.2 b hb).trans e) f0 f1 f3 f4 f5, rfl, q⟩
end
end L2

namespace L2
open PySem PySem.Spec PyProof.Rows
/-! ### list(o), o's __iter__ gives iter(o.f), f a list, and __len__ is a def -/
section
variable {X : Cx} {pins : List (Addr × Obj)} {σ : St}
theorem listI_loop {A1 : Around} {q it l : Addr} {xs : List V} {H0 : Hp} {Rs : Result → Shared → Prop} (hh : A1.in1.handled = none) (hz : xs.length ≤ sizeLine) (nq : H0 q = none) (nit : H0 it = none) (nqi : q ≠ it) (nl : l ≠ q) (hl : SqL X.K H0 l xs)
    (hf : ∀ H', H' it = none → FpOk X pins H' it) (hdone : ∀ s, Inv X pins σ (upd H0 q (.lst xs)) s → Rs (.ok (.ret .none)) s) :
    ∀ (m i : Nat) (s : Shared), xs.length - i = m → i ≤ xs.length → Inv X pins σ (upd H0 q (.lst (xs.take i))) s → s.heap.IsListIter it l i → codeAny (model X.prog X.w) A1 (.builtin "list.extend.loop" ⟨[.ref q, .ref it, .none], []⟩) Rs s := by
  have nitq : ∀ o, (upd H0 q o) it = none := fun o => by rw [upd_ne nqi.symm]; exact nit
  have hlq : ∀ o, SqL X.K (upd H0 q o) l xs := fun o => by
    rcases hl with (h | ⟨o', h⟩) | h
    · exact .inl (.inl (by rw [upd_ne nl]; exact h))
    · exact .inl (.inr ⟨o', by rw [upd_ne nl]; exact h⟩)
    · exact .inr h
  intro m
  induction m with
  | zero =>
    intro i s hm hi I st
    have e : i = xs.length := by omega
    subst e
    obtain ⟨its, rv, pl, _⟩ := I.list (hlq _)
    refine codeAny_builtin PySem.F.entry_extend_loop ?_
    rw [Around.under_plainId PySem.F.plain_extend_loop _]
    show wpAny _ A1.in1 (pyNext (.ref it) >>= _) _ _ s
    obtain ⟨f0, f1, f2, f3, f4, f5⟩ := hf _ (nitq (.lst xs))
    refine wpAny_bind (wpAny_pyNext_list_end hh st pl.isList (by have := rv.length; simp; omega) fun h' he' => wpAny_pure (hdone _ ?_))
    rw [List.take_length] at I
    exact I.turned (it := it) (t' := s.toks) (fun b o hb e => he' b o hb e) (nitq _) f1 f3 f4 f5
  | succ m ih =>
    intro i s hm hi I st
    have hlt : i < xs.length := by omega
    obtain ⟨its, rv, pl, _⟩ := I.list (hlq _)
    have hx : xs[i]? = some xs[i] := List.getElem?_eq_getElem hlt
    obtain ⟨u, hu, ri⟩ := rv.get hx
    refine codeAny_builtin PySem.F.entry_extend_loop ?_
    rw [Around.under_plainId PySem.F.plain_extend_loop _]
    show wpAny _ A1.in1 (pyNext (.ref it) >>= _) _ _ s
    obtain ⟨f0, f1, f2, f3, f4, f5⟩ := hf _ (nitq (.lst (xs.take i)))
    refine wpAny_bind (wpAny_pyNext_list_item st pl.isList (x := u) (by simpa using hu) fun h' hit' hs' => ?_)
    have I' := I.turned (it := it) (h' := h') (t' := s.toks) (fun b o hb e => hs'.extBut b o hb e) (nitq _) f1 f3 f4 f5
    show wpAny _ A1.in1 (updateSeq q (·.push u) >>= _) _ _ _
    obtain ⟨z, its2, k, r2, hl2, e⟩ := I'.lstM upd_same
    refine wpAny_bind (wpAny_updateSeq e rfl (wpAny_pure ⟨plainId_quiet PySem.F.plain_extend_loop _, ?_⟩) (by rw [List.size_toArray]; rw [List.length_take] at hl2; omega) (by show (its2.toArray.push u).size ≤ sizeLine + 1; rw [Array.size_push, List.size_toArray]; rw [List.length_take] at hl2; omega))
    refine ih (i + 1) _ (by omega) hlt ?_ (hit'.at fun o e => (Heap.get?_update_other _ _ nqi).trans e)
    have I2 := I'.lset (f := (·.push u)) (its' := its2 ++ [u]) (t' := s.toks) upd_same e (by simp) (r2.append (.cons ri .nil)) (by rw [List.length_append, List.length_take]; show _ + 1 ≤ _; omega)
    rw [upd_upd] at I2
    rw [List.take_add_one, hx]
    exact I2
variable {CI CL : CXT} {k : Nat} {g fL C : Addr} {fl : Str} {fdL : FuncData} {psL : List Str} {spL : Sp} {EL : XK}
def rListI (K : PySem.W.Frag) (C : Addr) (fl : Str) (spL : Sp) (EL : XK) : List V → Hp → VK → Prop := fun vs H Q => ∃ (a dx l : Addr) (fs : List (Str × V)) (xs : List V), vs = [.ref a] ∧ H a = some (.ins C dx fs) ∧ fs.lookup fl = some (.ref l) ∧ SqL K H l xs ∧ xs.length ≤ 1000 ∧
  (∀ q, H q = none → spL [.ref a] (upd H q (.lst [])) (fun v H' => (∃ n : Nat, v = .int (n : Int) ∧ n ≤ 1000) ∧ H' = upd H q (.lst [])) EL) ∧ ∀ q, H q = none → Q (.ref q) (upd H q (.lst xs))
theorem call_listI (m : Meth X.K C "__iter__" g) (FI : IterOk X.prog X.w X.K X.mg X.base k g C fl) (ml : Meth X.K C "__len__" fL) (FL : FnOk X.prog X.w X.K X.mg X.base CX0 k fL fdL psL spL) (bL : Binds X.K fdL psL []) (hc : X.calm = true) (hr : Room (k + 4) X.A) :
    CallR X (.type "list") (rListI X.K C fl spL E0) := by
  intro pins s σ H vs us Q I rv h
  obtain ⟨a, dx, l, fs, xs, rfl, ha, hfl, hl, hz, hsp, hq⟩ := h
  obtain ⟨u, rfl, ru⟩ := rv.one
  cases ru
  have sb : Sub X (k + 2) X.A.in1.in1 := (Sub.in1 (Sub.in1 (⟨hr, rfl⟩ : Sub X (k + 4) X.A)))
  refine callType_codes (Q₁ := fun obj s₁ => obj = .ref s.heap.objs.size ∧ s₁ = { s with heap := s.heap.push { cls := .type "list", data := .seq #[] } }) PySem.F.called_list (PySem.F.typeCall_list_1 _) PySem.F.entry_list_init
    (code_list_new _ ⟨rfl, rfl⟩) fun obj s₁ h₁ => ?_
  obtain ⟨rfl, rfl⟩ := h₁
  have hS : (s.heap.push { cls := .type "list", data := .seq #[] }).get? s.heap.objs.size = some { cls := .type "list", data := .seq #[] } := Heap.get?_push_size _ rfl
  refine ⟨⟨_, hS, rfl⟩, PySem.F.args_list_init_2 _ _, ?_⟩
  have fr : H s.heap.objs.size = none := I.hok.fresh (Nat.le_refl _)
  have I1 : Inv X pins σ (upd H s.heap.objs.size (.lst [])) { s with heap := s.heap.push { cls := .type "list", data := .seq #[] } } := I.lnew (its := []) (t' := s.toks) .nil (Nat.zero_le _)
  show wpAny _ _ (do let old ← Builtin.List.listItems (.ref s.heap.objs.size); Builtin.List.listUpdate (.ref s.heap.objs.size) (fun _ => #[]); letGo old.toList.reverse; Builtin.List.listExtendWith (.ref s.heap.objs.size) (.ref a) .none) _ _ _
  refine wpAny_bind ?_
  unfold Builtin.List.listItems
  refine wpAny_bind (wpAny_seqItems hS rfl (wpAny_pure ?_))
  show wpAny _ _ (updateSeq s.heap.objs.size (fun _ => #[]) >>= fun _ => letGo (#[] : Array Value).toList.reverse >>= fun _ => Builtin.List.listExtendWith (.ref s.heap.objs.size) (.ref a) .none) _ _ _
  refine wpAny_bind (wpAny_updateSeq hS rfl ?_)
  have I2 := I1.lset (f := fun _ => #[]) (its := []) (its' := []) (ys := []) (t' := s.toks) upd_same hS rfl .nil (Nat.zero_le _)
  rw [upd_upd] at I2
  refine wpAny_bind (wpAny_letGo ?_)
  have nlq : l ≠ s.heap.objs.size := fun z => by
    obtain ⟨its, rv, pl, _⟩ := I.list hl
    obtain ⟨o, ho, _⟩ := pl.isList
    have := Heap.lt_size ho
    rw [z] at this
    exact absurd this (Nat.lt_irrefl _)
  have hQ := hq _ fr
  have hL := hsp _ fr
  revert I2 fr nlq hQ hL
  generalize s.heap.objs.size = q
  generalize ({ s with heap := _, toks := _ } : Shared) = s2
  intro fr I2 nlq hQ hL
  have naq : a ≠ q := ne_of_none ha fr
  have ha2 : (upd H q (.lst [])) a = some (.ins C dx fs) := by rw [upd_ne naq]; exact ha
  obtain ⟨ox, od, J⟩ := inst_of I2 ha2
  obtain ⟨mf, hF⟩ := I2.fr
  unfold Builtin.List.listExtendWith
  refine wpAny_bind (J.type.here ?_)
  have h1 : Builtin.List.listSameRef (.ref q) (.ref a) = false := by simp [Builtin.List.listSameRef, naq.symm]
  have h2 : (Value.ref C == Value.type "list") = false := rfl
  have h3 : (Value.ref C == Value.type "tuple") = false := rfl
  simp only [h1, h2, h3, Bool.or_false, Bool.false_eq_true, if_false]
  have e0 : Env0 X.prog X.w X.K X.mg X.base X.A.in1.in1 X.stack s2 (upd H q (.lst [])) := by
    have e := I2.env0
    exact ⟨by rw [sb.fr]; exact e.frames, e.mod, e.bs, e.bsz, e.funs, e.frf, e.hok, e.bare⟩
  have hl2 : SqL X.K (upd H q (.lst [])) l xs := by
    rcases hl with (h | ⟨o', h⟩) | h
    · exact .inl (.inl (by rw [upd_ne nlq]; exact h))
    · exact .inl (.inr ⟨o', by rw [upd_ne nlq]; exact h⟩)
    · exact .inr h
  refine wpAny_bind (PySem.W.owit_iter hF I2.ok.mod.kin J m.at_ m.fn (wpAny_call (codeAny_mono (FI X.A.in1.in1 X.stack s2 (upd H q (.lst [])) a dx l fs xs (fun v H2 => ∃ it, v = .ref it ∧ (upd H q (.lst [])) it = none ∧ s2.heap.objs.size ≤ it ∧ H2 = upd (upd H q (.lst [])) it (ItO l it 0)) E0 (sb.room.mono (by omega)) e0 ha2 hfl hl2 fun it n1 n2 => ⟨it, rfl, n1, n2, rfl⟩) fun r s' z => ?_)))
  match r, z with
  | .error _, z => exact z.elim
  | .ok (.ret u), z =>
    obtain ⟨v2, H2, I3, r2, it, rfl, n1, n2, rfl⟩ := I2.after z
    cases r2
    have eo := itO_get I3 upd_same
    have hT : s'.TypeIs (.ref it) "list_iterator" := ⟨_, eo, rfl⟩
    have I4 := ItX.inv_drop I3 (a := it) (by rw [upd_same]; rfl)
    rw [ItX.dropH_upd n1] at I4
    refine wpAny_specialOf (name := Str.ofString "__next__") hT slot_listiter_next.lookup ?_
    obtain ⟨ox4, od4, J4⟩ := inst_of I4 ha2
    show wpAny (model X.prog X.w) X.A.in1.in1 (do
            let room ← holding [Value.ref it] (Builtin.List.listLengthHint (Value.ref a))
            _) _ _ s'
    refine wpAny_bind (wpAny_holding ?_)
    unfold Builtin.List.listLengthHint
    refine wpAny_bind (wpAny_bind (J4.type.here ((PySem.W.looks_findIn I4.kIn ml.at_).here ?_)))
    refine PySem.W.KFB.if_not rfl ?_
    refine wpAny_ite_split (fun _ => ?_) (fun hab => absurd rfl hab)
    refine wpAny_bind (wpAny_rule ?_)
    obtain ⟨mf4, hF4⟩ := I4.fr
    have fpI : FpOk X pins (upd H q (.lst [])) it := I2.fpOk n2 n1
    have oI : ∀ b ∈ [it], ∃ o, s'.heap.get? b = some o ∧ ∀ v, o.data ≠ .cell v := fun b hb => by
      obtain rfl : b = it := by simpa using hb
      exact ⟨_, eo, fun v z => nomatch z⟩
    have I4n : Inv X.nox (pins ++ pinsAt [it] s'.heap) σ (upd H q (.lst [])) s' := (I4.pinned (fp := [it]) (fun b hb => by rw [List.mem_singleton.mp hb]; exact fpI) oI).wish _
    have lenq : wpAny (model X.prog X.w) X.A.in1.in1 (call (.builtin "len") [.ref a]) (fun nv s6 => ∃ (n : Nat) (t : Tok), nv = .int (n : Int) t ∧ n ≤ 1000 ∧ Inv X pins σ (upd H q (.lst [])) s6 ∧ s6.heap.IsListIter it l 0) (fun _ _ => False) s' := by
      refine PySem.W.len_K hF4 I4.ok.mod.kin J4 ml.at_ ml.fn (thn (run_sub (X := X.nox) (A1 := X.A.in1.in1.in1) (us := [.ref a]) (vs := [.ref a]) (stack_of I4) FL ((sb.room.mono (by omega)).in1 (k := k)) bL pass0 I4n (.cons rfl .nil) hL) fun r s5 z => ?_)
      obtain ⟨z1, H1, I5, r1, ⟨n, rfl, hn⟩, rfl⟩ := z
      obtain ⟨t, rfl⟩ := r1
      have g5 := (I5.pin (it, _) (List.mem_append_right _ (List.mem_append_right _ (mem_pinsAt (List.mem_singleton.mpr rfl) eo)))).1
      exact ⟨⟨by omega, by omega⟩, n, _, rfl, hn, (I5.unwish.unpinned (pins := pins)).tok _, ⟨_, g5, rfl, rfl⟩⟩
    refine wpAny_bind (wpAny_attempt (thnF lenq fun nv s6 h6 => ?_))
    obtain ⟨n, t, rfl, hn, I6, st6⟩ := h6
    have hbig : Builtin.List.listTooLong ((n : Int)).toNat = false := by
      unfold Builtin.List.listTooLong
      rw [Int.toNat_natCast]
      have : 1000 < sizeLine := by decide
      exact decide_eq_false (by omega)
    refine wpAny_bind (wpAny_pure ?_)
    refine PySem.W.KFB.if_not hbig (wpAny_pure ?_)
    have big : 1000 < sizeLine := by decide
    have nqi : q ≠ it := fun z => by
      rw [← z, upd_same] at n1; cases n1
    have nitH : H it = none := by rw [upd_ne nqi.symm] at n1; exact n1
    have loop : ∀ s7, Inv X pins σ (upd H q (.lst [])) s7 → s7.heap.IsListIter it l 0 → codeAny (model X.prog X.w) X.A.in1 (.builtin "list.extend.loop" ⟨[.ref q, .ref it, .none], []⟩) (wants (fun r s₂ => r = .none ∧ EP X pins σ Q (.ref q) s₂) X.xe) s7 := fun s7 I7 st7 =>
      listI_loop (A1 := X.A.in1) (H0 := H) (by exact I7.ok.hd hc) (by omega) fr nitH nqi nlq hl (fun H' nH => ⟨nH, fpI.2⟩) (fun s8 I8 => ⟨rfl, .ref q, _, I8, rfl, hQ⟩) xs.length 0 s7 (by omega) (Nat.zero_le _) (by rw [List.take_zero]; exact I7) st7
    refine wpAny_ite_split (fun _ => ?_) (fun _ => wpAny_pure ⟨plainId_quiet PySem.F.plain_extend_loop _, loop s6 I6 st6⟩)
    refine wpAny_bind (wpAny_rule ?_)
    refine wpAny_bind ?_
    obtain ⟨z3, its3, k3, r3, hl3, e3⟩ := I6.lstM upd_same
    cases r3
    show wpAny _ _ (updateSeq q (·.push .none) >>= fun _ => updateSeq q (·.pop)) _ _ _
    refine wpAny_bind (wpAny_updateSeq e3 rfl ?_)
    have I7 := I6.lset (f := (·.push Value.none)) (its' := [Value.none]) (ys := [.non]) (t' := s6.toks) upd_same e3 (by simp) (.cons rfl .nil) (by rw [List.length_singleton, sizeLine_eq]; decide)
    obtain ⟨z4, its4, k4, r4, hl4, e4⟩ := I7.lstM upd_same
    obtain ⟨u4, rfl, ru4⟩ := r4.one
    refine wpAny_updateSeq e4 rfl ?_ (by show 1 ≤ sizeLine; rw [sizeLine_eq]; decide) (by show 0 ≤ sizeLine + 1; exact Nat.zero_le _)
    have I8 := I7.lset (f := (·.pop)) (its := [u4]) (its' := []) (ys := []) (t' := s6.toks) upd_same e4 (by rfl) .nil (Nat.zero_le _)
    rw [upd_upd, upd_upd] at I8
    refine wpAny_pure ⟨plainId_quiet PySem.F.plain_extend_loop _, loop _ I8 (st6.at fun o e => ?_)⟩
    exact (Heap.get?_update_other _ _ nqi).trans ((Heap.get?_update_other _ _ nqi).trans e)
end
end L2

namespace L2
open PySem PySem.Spec PyProof.Rows
theorem call_listIK {X : Cx} {K : PySem.W.Frag} {k : Nat} {g fL C : Addr} {fl : Str} {fdL : FuncData} {psL : List Str} {spL : Sp} (hK : X.K = K) (m : Meth X.K C "__iter__" g) (FI : IterOk X.prog X.w X.K X.mg X.base k g C fl) (ml : Meth X.K C "__len__" fL) (FL : FnOk X.prog X.w X.K X.mg X.base CX0 k fL fdL psL spL) (bL : Binds X.K fdL psL []) (hc : X.calm = true) (hr : Room (k + 4) X.A) :
    CallR X (.type "list") (rListI K C fl spL E0) := by
  subst hK
  exact call_listI m FI ml FL bL hc hr
end L2

namespace L2
open PySem PySem.Spec PyProof.Rows
section
variable {X : Cx} {CX : CXT} {n : Nat} {C g : Addr} {fd : FuncData} {ps : List Str} {sp : Sp} {E : XK} {K : PySem.W.Frag}
/-- an own operator in a try body: the fragment named -/
theorem op_binOK {op : Operator} (hK : X.K = K) (T : OpF K C op.info.2 g) (F : FnOk X.prog X.w K X.mg X.base CX n g fd ps sp) (hr : Room n X.A) (hb : Binds K fd ps []) (hx : Passes CX X E) : OpR X (binaryOp op) (rOpI K C sp E) := by
  subst hK
  exact op_binO T F hr hb hx
end
end L2

namespace L2
open PySem PySem.Spec PyProof.Rows
section
variable {X : Cx} {a b c d : Expr} {ta tb tc td : TE} {pos : Pos}
/-- a op b op' c op'' d -/
def tChain3 (r r' r'' : R2) (ta tb tc td : TE) : TE := fun σ H Q => ta σ H fun x H1 => tb σ H1 fun y H2 => r x y H2 fun z H3 => ∃ k, z = .bl k ∧
  (if k = true then tc σ H3 fun v H4 => r' y v H4 fun z' H5 => ∃ k', z' = .bl k' ∧ (if k' = true then td σ H5 fun u H6 => r'' v u H6 Q else Q (.bl false) H5) else Q (.bl false) H3)
theorem pe_chain3 {op op' op'' : CmpOp} {r r' r'' : R2} (ho : OpR X (compareOp op) r) (ho' : OpR X (compareOp op') r') (ho'' : OpR X (compareOp op'') r'') (ha : PE X a ta) (hb : PE X b tb) (hc : PE X c tc) (hd : PE X d td)
    (hm : lastMarks [op, op', op''] [b, c, d] = false := by with_unfolding_all rfl) : PE X (.Compare a [op, op', op''] [b, c, d] pos) (tChain3 r r' r'' ta tb tc td) := by
  refine ⟨fun pins s σ H Q I h => ?_⟩
  refine Compare_chain (thn (ha.run pins s σ H _ I h) fun v s1 ⟨x, H1, I1, r1, q1⟩ => chain_link (thn (hb.run pins s1 σ H1 _ I1 q1) fun u s2 ⟨y, H2, I2, r2, q2⟩ =>
    thn (ho pins s2 σ H2 x y v u _ I2 r1 r2 q2) fun d s3 ⟨z, H3, I3, r3, k, e, q3⟩ => ?_)) hm
  subst e
  cases r3
  refine wpAny_truthy_bool ?_
  cases k with
  | false => exact ite_ff ⟨.bl false, H3, I3, rfl, q3⟩
  | true =>
    refine ite_tt (chain_link (thn (hc.run pins s3 σ H3 _ I3 q3) fun w' s4 ⟨z', H4, I4, r4, q4⟩ => thn (ho' pins s4 σ H4 y z' u w' _ I4 r2 r4 q4) fun d5 s5 ⟨z5, H5, I5, r5, k', e5, q5⟩ => ?_))
    subst e5
    cases r5
    refine wpAny_truthy_bool ?_
    cases k' with
    | false => exact ite_ff ⟨.bl false, H5, I5, rfl, q5⟩
    | true => exact ite_tt (chain_last (thn (hd.run pins s5 σ H5 _ I5 q5) fun w6 s6 ⟨z6, H6, I6, r6, q6⟩ => ho'' pins s6 σ H6 z' z6 w' w6 Q I6 r4 r6 q6))
end
end L2
namespace L2
open PySem PySem.Spec PyProof.Rows
def rInKd (neg : Bool) : R2 := fun x y H Q => ∃ a o, y = .ref a ∧ DGet H a x o ∧ Q (.bl (if neg then !o.isSome else o.isSome)) H
theorem op_inKd {X : Cx} (hu : X.A.units + 1 < cLine) : OpR X (compareOp .In) (rInKd false) := by
  intro pins s σ H x y v u Q I rx ry h
  obtain ⟨a, o, rfl, g, q⟩ := h
  cases ry
  exact d_in hu I g rx fun s3 I3 => ⟨.bl o.isSome, H, I3, rfl, q⟩
theorem op_ninKd {X : Cx} (hu : X.A.units + 1 < cLine) : OpR X (compareOp .NotIn) (rInKd true) := by
  intro pins s σ H x y v u Q I rx ry h
  obtain ⟨a, o, rfl, g, q⟩ := h
  cases ry
  exact d_notIn hu I g rx fun s3 I3 => ⟨.bl (!o.isSome), H, I3, rfl, q⟩
end L2

namespace L2
open PySem
theorem for_str {z : Str} {g : TG} {tb : TS} {D : Ends} {σ : L2.St} {H : Hp} (Pv : Nat → L2.St → Hp → Prop) (h0 : Pv 0 σ H)
    (hs : ∀ i c σ H, (TL.tl z)[i]? = some c → Pv i σ H → g (.str ⟨#[c]⟩) σ H fun σ2 H2 => tb { D with nx := Pv (i + 1), ct := Pv (i + 1), bk := D.nx } σ2 H2) (hd : ∀ σ H, Pv z.length σ H → D.nx σ H) :
    ∃ W : Nat → Nat → L2.St → Hp → Prop, (∃ m, W 0 m σ H) ∧ ∀ i m σ H, W i m σ H →
      ((Its z).stop i H ∧ D.nx σ H) ∨ ((Its z).go i H ∧ ∃ N : L2.St → Hp → Prop, (∀ σ' H', N σ' H' → ∃ m', m' < m ∧ W (i + 1) m' σ' H') ∧ ∀ x H', (Its z).yld i H x H' → g x σ H' fun σ2 H2 => tb { D with nx := N, ct := N, bk := D.nx } σ2 H2) := by
  refine ⟨fun i m σ H => m = z.length - i ∧ i ≤ z.length ∧ Pv i σ H, ⟨z.length, by simp, Nat.zero_le _, h0⟩, ?_⟩
  rintro i m σ H ⟨rfl, hi, p⟩
  by_cases hlt : i < z.length
  · refine .inr ⟨hlt, Pv (i + 1), fun σ' H' p' => ⟨z.length - (i + 1), by omega, rfl, hlt, p'⟩, fun x H' y => ?_⟩
    obtain ⟨e, c, hc, ex⟩ := y
    subst e ex
    exact hs i c σ _ (by show z.cps.toList[i]? = some c; rw [Array.getElem?_toList]; exact hc) p
  · have e : i = z.length := by omega
    subst e
    exact .inl ⟨Nat.le_refl _, hd σ H p⟩
end L2
namespace L2
open PySem
theorem pg_tupK {X : Cx} {K : PySem.W.Frag} {es : List Expr} {k : Nat} {t : TGs} {n : Nat} {pos : Pos} (hK : X.K = K) (hc : X.calm = true) (h : PGs X es t)
    (hn : (assignEach es X.env).length = n := by rfl) (hst : (assignEach es X.env).findIdx? (·.1) = none := by rfl) : PG X (.Tuple es k pos) (gTup K n t) := hK ▸ pg_tup hc h hn hst
end L2

namespace L2
open PySem PySem.Spec PyProof.Rows
theorem anyK {X : Cx} {K : PySem.W.Frag} (h : X.K = K) (hc : X.calm = true) : CallR X (.builtin "any") (rAny K) := h ▸ cr_any hc
end L2
namespace L2
open PySem
theorem lenK {X : Cx} {K : PySem.W.Frag} (h : X.K = K) : CallR X (.builtin "len") (fun xs H Q => ∃ p ys, xs = [V.ref p] ∧ (SqL K H p ys ∨ SqT K H p ys) ∧ Q (.int ((ys.length : Nat) : Int)) H) := h ▸ call_len_seq
theorem pi_listK {X : Cx} {K : PySem.W.Frag} {tg l : Expr} {tl : TE} (h : X.K = K) (hl : PE X l tl) : PI X tg l (iList K tl) := h ▸ pi_list hl
theorem pi_tupleK {X : Cx} {K : PySem.W.Frag} {tg l : Expr} {tl : TE} (h : X.K = K) (hl : PE X l tl) : PI X tg l (iTup K tl) := h ▸ pi_tup hl
def rListOf (K : PySem.W.Frag) : List V → Hp → VK → Prop := fun xs H Q => ∃ p ys, xs = [V.ref p] ∧ (SqL K H p ys ∨ SqT K H p ys) ∧ ∀ l, H l = none → Q (.ref l) (upd H l (.lst ys))
def rTupOf (K : PySem.W.Frag) : List V → Hp → VK → Prop := fun xs H Q => ∃ p ys, xs = [V.ref p] ∧ ((SqL K H p ys ∧ ∀ l, H l = none → Q (.ref l) (upd H l (.tup ys))) ∨ (SqT K H p ys ∧ Q (.ref p) H))
theorem listK {X : Cx} {K : PySem.W.Frag} (h : X.K = K) : CallR X (.type "list") (rListOf K) := h ▸ call_list_of
theorem tupleK {X : Cx} {K : PySem.W.Frag} (h : X.K = K) : CallR X (.type "tuple") (rTupOf K) := h ▸ call_tuple_of
end L2

namespace L2
open PySem PySem.Spec PyProof.Rows
theorem eqDK {X : Cx} {K : PySem.W.Frag} (h : X.K = K) (hu : X.A.units + 64 < cLine) : OpR X (compareOp .Eq) (rEqD K) := h ▸ op_eqD hu
theorem neDK {X : Cx} {K : PySem.W.Frag} (h : X.K = K) (hu : X.A.units + 64 < cLine) : OpR X (compareOp .NotEq) (rNeD K) := h ▸ op_neD hu
end L2

namespace My
open PySem L2
abbrev PP : Program := PySem.Challenge.pw_weblocks_k35_rows_conflicts_verdicts
def topS (i : Nat) : Stmt := PySem.Challenge.pw_weblocks_k35_rows_conflicts_verdicts.main.body.getD i (.Pass ⟨0, 0, 0, 0⟩)
abbrev S_sound_step : Stmt := topS 19
abbrev S_Program_init : Stmt := inClass (topS 21) 0
abbrev S_Program_len : Stmt := inClass (topS 21) 1
abbrev S_Program_iter : Stmt := inClass (topS 21) 2
abbrev S_Program_add : Stmt := inClass (topS 21) 4
abbrev S_Program_things : Stmt := inClass (topS 21) 8
abbrev S_Program_mode_of : Stmt := inClass (topS 21) 9
abbrev S_conflict : Stmt := topS 32
abbrev S_Row_init : Stmt := inClass (topS 33) 0
abbrev S_Verdict_init : Stmt := inClass (topS 34) 0
abbrev S_Verdict_safe : Stmt := inClass (topS 34) 1
abbrev S_Verdict_bool : Stmt := inClass (topS 34) 2
abbrev S_is_mark : Stmt := topS 38
abbrev S_sound_row : Stmt := topS 39
abbrev S_barren : Stmt := topS 40
abbrev S_Shape_init : Stmt := inClass (topS 41) 2
abbrev S_Shape_getitem : Stmt := inClass (topS 41) 3
abbrev S_Shape_eq : Stmt := inClass (topS 41) 7
abbrev S_suitable : Stmt := topS 43
abbrev S_Web_init : Stmt := inClass (topS 44) 1
abbrev S_Web_put : Stmt := inClass (topS 44) 2
abbrev S_Web_getitem : Stmt := inClass (topS 44) 3
abbrev S_Web_contains : Stmt := inClass (topS 44) 6
abbrev S_Web_eq : Stmt := inClass (topS 44) 7
abbrev S_Web_mark_of : Stmt := inClass (topS 44) 8
abbrev S__law_draws : Stmt := topS 46
abbrev S__law_take : Stmt := topS 47
abbrev S__law_same : Stmt := topS 48
abbrev S__law_marks : Stmt := topS 49
abbrev S__law_rows : Stmt := topS 50
abbrev S__law_things : Stmt := topS 51
abbrev S__law_shape : Stmt := topS 52
abbrev S__law_put : Stmt := topS 53
abbrev S__law_web : Stmt := topS 54
abbrev S__law_mode : Stmt := topS 55
abbrev S__law_conflict : Stmt := topS 56
abbrev S__law_any_steps : Stmt := topS 57
abbrev S__law_bad_last : Stmt := topS 58
abbrev S__law_row_same : Stmt := topS 59
abbrev S__law_verdict_same : Stmt := topS 60
abbrev S_law : Stmt := topS 61
abbrev S_BadShape_init : Stmt := inClass (topS 3) 0
abbrev S_UnknownMark_init : Stmt := inClass (topS 4) 0
abbrev S_TooLarge_init : Stmt := inClass (topS 8) 0
abbrev S_BadParents_init : Stmt := inClass (topS 5) 0
abbrev S_NoThing_init : Stmt := inClass (topS 6) 0
abbrev S_BadStep_init : Stmt := inClass (topS 7) 0
theorem sc_sound_step : FnScope ["step", "deed", "thing"] ["step"] (defScope S_sound_step) := ⟨rfl, rfl, rfl, by decide +kernel, rfl, by decide +kernel, by decide +kernel⟩
theorem sc_Program_init : FnScope ["self", "steps", "step"] ["self", "steps"] (defScope S_Program_init) := ⟨rfl, rfl, rfl, by decide +kernel, rfl, by decide +kernel, by decide +kernel⟩
theorem sc_Program_len : FnScope ["self"] ["self"] (defScope S_Program_len) := ⟨rfl, rfl, rfl, by decide +kernel, rfl, by decide +kernel, by decide +kernel⟩
theorem sc_Program_iter : FnScope ["self"] ["self"] (defScope S_Program_iter) := ⟨rfl, rfl, rfl, by decide +kernel, rfl, by decide +kernel, by decide +kernel⟩
theorem sc_Program_add : FnScope ["self", "other"] ["self", "other"] (defScope S_Program_add) := ⟨rfl, rfl, rfl, by decide +kernel, rfl, by decide +kernel, by decide +kernel⟩
theorem sc_Program_things : FnScope ["self", "found", "deed", "thing"] ["self"] (defScope S_Program_things) := ⟨rfl, rfl, rfl, by decide +kernel, rfl, by decide +kernel, by decide +kernel⟩
theorem sc_Program_mode_of : FnScope ["self", "thing", "deed", "other"] ["self", "thing"] (defScope S_Program_mode_of) := ⟨rfl, rfl, rfl, by decide +kernel, rfl, by decide +kernel, by decide +kernel⟩
theorem sc_conflict : FnScope ["program", "other", "thing", "mode"] ["program", "other"] (defScope S_conflict) := ⟨rfl, rfl, rfl, by decide +kernel, rfl, by decide +kernel, by decide +kernel⟩
theorem sc_Row_init : FnScope ["self", "web", "programs", "last"] ["self", "web", "programs", "last"] (defScope S_Row_init) := ⟨rfl, rfl, rfl, by decide +kernel, rfl, by decide +kernel, by decide +kernel⟩
theorem sc_Verdict_init : FnScope ["self", "row", "ground"] ["self", "row", "ground"] (defScope S_Verdict_init) := ⟨rfl, rfl, rfl, by decide +kernel, rfl, by decide +kernel, by decide +kernel⟩
theorem sc_Verdict_safe : FnScope ["self"] ["self"] (defScope S_Verdict_safe) := ⟨rfl, rfl, rfl, by decide +kernel, rfl, by decide +kernel, by decide +kernel⟩
theorem sc_Verdict_bool : FnScope ["self"] ["self"] (defScope S_Verdict_bool) := ⟨rfl, rfl, rfl, by decide +kernel, rfl, by decide +kernel, by decide +kernel⟩
theorem sc_is_mark : FnScope ["text", "sign"] ["text"] (defScope S_is_mark) := ⟨rfl, rfl, rfl, by decide +kernel, rfl, by decide +kernel, by decide +kernel⟩
theorem sc_sound_row : FnScope ["row", "before", "mark", "parents", "least", "most", "shared", "good", "place", "parent"] ["row", "before"] (defScope S_sound_row) := ⟨rfl, rfl, rfl, by decide +kernel, rfl, by decide +kernel, by decide +kernel⟩
theorem sc_barren : FnScope ["rows", "known", "grown", "mark", "parents", "least", "_", "parent", "row"] ["rows"] (defScope S_barren) := ⟨rfl, rfl, rfl, by decide +kernel, rfl, by decide +kernel, by decide +kernel⟩
theorem sc_Shape_init : FnScope ["self", "rows", "listed", "marks", "row", "parent", "lost"] ["self", "rows"] (defScope S_Shape_init) := ⟨rfl, rfl, rfl, by decide +kernel, rfl, by decide +kernel, by decide +kernel⟩
theorem sc_Shape_getitem : FnScope ["self", "mark", "row"] ["self", "mark"] (defScope S_Shape_getitem) := ⟨rfl, rfl, rfl, by decide +kernel, rfl, by decide +kernel, by decide +kernel⟩
theorem sc_Shape_eq : FnScope ["self", "other"] ["self", "other"] (defScope S_Shape_eq) := ⟨rfl, rfl, rfl, by decide +kernel, rfl, by decide +kernel, by decide +kernel⟩
theorem sc_suitable : FnScope ["web", "row", "parents", "place", "parent"] ["web", "row", "parents"] (defScope S_suitable) := ⟨rfl, rfl, rfl, by decide +kernel, rfl, by decide +kernel, by decide +kernel⟩
theorem sc_Web_init : FnScope ["self", "shape"] ["self", "shape"] (defScope S_Web_init) := ⟨rfl, rfl, rfl, by decide +kernel, rfl, by decide +kernel, by decide +kernel⟩
theorem sc_Web_put : FnScope ["self", "mark", "parents", "row", "parent", "number"] ["self", "mark", "parents"] (defScope S_Web_put) := ⟨rfl, rfl, rfl, by decide +kernel, rfl, by decide +kernel, by decide +kernel⟩
theorem sc_Web_getitem : FnScope ["self", "thing"] ["self", "thing"] (defScope S_Web_getitem) := ⟨rfl, rfl, rfl, by decide +kernel, rfl, by decide +kernel, by decide +kernel⟩
theorem sc_Web_contains : FnScope ["self", "thing"] ["self", "thing"] (defScope S_Web_contains) := ⟨rfl, rfl, rfl, by decide +kernel, rfl, by decide +kernel, by decide +kernel⟩
theorem sc_Web_eq : FnScope ["self", "other"] ["self", "other"] (defScope S_Web_eq) := ⟨rfl, rfl, rfl, by decide +kernel, rfl, by decide +kernel, by decide +kernel⟩
theorem sc_Web_mark_of : FnScope ["self", "thing"] ["self", "thing"] (defScope S_Web_mark_of) := ⟨rfl, rfl, rfl, by decide +kernel, rfl, by decide +kernel, by decide +kernel⟩
theorem sc__law_draws : FnScope ["_law_script", "_law_draws_here", "_law_cell", "_law_rest", "_law_k", "_law_mixed"] ["_law_script"] (defScope S__law_draws) := ⟨rfl, rfl, rfl, by decide +kernel, rfl, by decide +kernel, by decide +kernel⟩
theorem sc__law_take : FnScope ["_law_draws_here", "_law_at", "_law_size"] ["_law_draws_here", "_law_at", "_law_size"] (defScope S__law_take) := ⟨rfl, rfl, rfl, by decide +kernel, rfl, by decide +kernel, by decide +kernel⟩
theorem sc__law_same : FnScope ["_law_actual", "_law_expected", "_law_k"] ["_law_actual", "_law_expected"] (defScope S__law_same) := ⟨rfl, rfl, rfl, by decide +kernel, rfl, by decide +kernel, by decide +kernel⟩
theorem sc__law_marks : FnScope ["_law_draws_here", "_law_at", "_law_count", "_law_letters", "_law_shift", "_law_front", "_law_marks_here", "_law_k", "_law_size", "_law_first", "_law_rest", "_law_j", "_law_sign"] ["_law_draws_here", "_law_at", "_law_count"] (defScope S__law_marks) := ⟨rfl, rfl, rfl, by decide +kernel, rfl, by decide +kernel, by decide +kernel⟩
theorem sc__law_rows : FnScope ["_law_draws_here", "_law_at", "_law_exclusive", "_law_marks_here", "_law_rows_here", "_law_k", "_law_mask", "_law_parents", "_law_j", "_law_most", "_law_least", "_law_mark", "_law_shared"] ["_law_draws_here", "_law_at", "_law_exclusive"] (defScope S__law_rows) := ⟨rfl, rfl, rfl, by decide +kernel, rfl, by decide +kernel, by decide +kernel⟩
theorem sc__law_things : FnScope ["_law_draws_here", "_law_at", "_law_rows_here", "_law_count", "_law_things_here", "_law_k", "_law_row", "_law_able", "_law_j", "_law_most", "_law_size", "_law_chosen", "_law_pick"] ["_law_draws_here", "_law_at", "_law_rows_here", "_law_count"] (defScope S__law_things) := ⟨rfl, rfl, rfl, by decide +kernel, rfl, by decide +kernel, by decide +kernel⟩
theorem sc__law_shape : FnScope ["_law_rows_here", "_law_made", "_law_row"] ["_law_rows_here"] (defScope S__law_shape) := ⟨rfl, rfl, rfl, by decide +kernel, rfl, by decide +kernel, by decide +kernel⟩
theorem sc__law_put : FnScope ["_law_web_here", "_law_mark", "_law_parents"] ["_law_web_here", "_law_mark", "_law_parents"] (defScope S__law_put) := ⟨rfl, rfl, rfl, by decide +kernel, rfl, by decide +kernel, by decide +kernel⟩
theorem sc__law_web : FnScope ["_law_shape_here", "_law_things_here", "_law_web_here", "_law_thing"] ["_law_shape_here", "_law_things_here"] (defScope S__law_web) := ⟨rfl, rfl, rfl, by decide +kernel, rfl, by decide +kernel, by decide +kernel⟩
theorem sc__law_mode : FnScope ["_law_steps", "_law_thing", "_law_step"] ["_law_steps", "_law_thing"] (defScope S__law_mode) := ⟨rfl, rfl, rfl, by decide +kernel, rfl, by decide +kernel, by decide +kernel⟩
theorem sc__law_conflict : FnScope ["_law_steps", "_law_others", "_law_step", "_law_first", "_law_second"] ["_law_steps", "_law_others"] (defScope S__law_conflict) := ⟨rfl, rfl, rfl, by decide +kernel, rfl, by decide +kernel, by decide +kernel⟩
theorem sc__law_any_steps : FnScope ["_law_draws_here", "_law_at", "_law_steps", "_law_k", "_law_deed"] ["_law_draws_here", "_law_at"] (defScope S__law_any_steps) := ⟨rfl, rfl, rfl, by decide +kernel, rfl, by decide +kernel, by decide +kernel⟩
theorem sc__law_bad_last : FnScope ["_law_web_here", "_law_programs", "_law_last", "_law_row", "e"] ["_law_web_here", "_law_programs", "_law_last"] (defScope S__law_bad_last) := ⟨rfl, rfl, rfl, by decide +kernel, rfl, by decide +kernel, by decide +kernel⟩
theorem sc__law_row_same : FnScope ["_law_row", "_law_web_here", "_law_lists", "_law_last", "_law_program"] ["_law_row", "_law_web_here", "_law_lists", "_law_last"] (defScope S__law_row_same) := ⟨rfl, rfl, rfl, by decide +kernel, rfl, by decide +kernel, by decide +kernel⟩
theorem sc__law_verdict_same : FnScope ["_law_verdict", "_law_safe", "_law_ground"] ["_law_verdict", "_law_safe", "_law_ground"] (defScope S__law_verdict_same) := ⟨rfl, rfl, rfl, by decide +kernel, rfl, by decide +kernel, by decide +kernel⟩
theorem sc_law : FnScope ["_law_script", "_law_draws_here", "_law_at", "_law_lists", "_law_k", "_law_programs", "_law_steps", "_law_j", "_law_rows_here", "_law_things_here", "_law_web_here", "_law_count", "_law_last", "_law_given", "_law_row", "_law_other", "_law_bad", "_law_ground", "_law_verdict"] ["_law_script"] (defScope S_law) := ⟨rfl, rfl, rfl, by decide +kernel, rfl, by decide +kernel, by decide +kernel⟩
structure Txt (K : PySem.W.Frag) (mg : Str → Option Value) where
  a_sound_step : Addr
  fd_sound_step : FuncData
  F_sound_step : Fun K "sound_step" "sound_step" S_sound_step a_sound_step fd_sound_step
  b_sound_step : Binds K fd_sound_step ["step"] []
  g_sound_step : mg "sound_step" = some (.ref a_sound_step)
  a_Program_init : Addr
  fd_Program_init : FuncData
  F_Program_init : Fun K "__init__" "Program.__init__" S_Program_init a_Program_init fd_Program_init
  bs_Program_init : StarB fd_Program_init ["self"] "steps"
  a_Program_len : Addr
  fd_Program_len : FuncData
  F_Program_len : Fun K "__len__" "Program.__len__" S_Program_len a_Program_len fd_Program_len
  b_Program_len : Binds K fd_Program_len ["self"] []
  a_Program_iter : Addr
  fd_Program_iter : FuncData
  F_Program_iter : Fun K "__iter__" "Program.__iter__" S_Program_iter a_Program_iter fd_Program_iter
  b_Program_iter : Binds K fd_Program_iter ["self"] []
  a_Program_add : Addr
  fd_Program_add : FuncData
  F_Program_add : Fun K "__add__" "Program.__add__" S_Program_add a_Program_add fd_Program_add
  b_Program_add : Binds K fd_Program_add ["self", "other"] []
  a_Program_things : Addr
  fd_Program_things : FuncData
  F_Program_things : Fun K "things" "Program.things" S_Program_things a_Program_things fd_Program_things
  b_Program_things : Binds K fd_Program_things ["self"] []
  a_Program_mode_of : Addr
  fd_Program_mode_of : FuncData
  F_Program_mode_of : Fun K "mode_of" "Program.mode_of" S_Program_mode_of a_Program_mode_of fd_Program_mode_of
  b_Program_mode_of : Binds K fd_Program_mode_of ["self", "thing"] []
  a_conflict : Addr
  fd_conflict : FuncData
  F_conflict : Fun K "conflict" "conflict" S_conflict a_conflict fd_conflict
  b_conflict : Binds K fd_conflict ["program", "other"] []
  g_conflict : mg "conflict" = some (.ref a_conflict)
  a_Row_init : Addr
  fd_Row_init : FuncData
  F_Row_init : Fun K "__init__" "Row.__init__" S_Row_init a_Row_init fd_Row_init
  b_Row_init : Binds K fd_Row_init ["self", "web", "programs", "last"] []
  a_Verdict_init : Addr
  fd_Verdict_init : FuncData
  F_Verdict_init : FunD K "__init__" "Verdict.__init__" (defArgs S_Verdict_init) (defBody S_Verdict_init) (defScope S_Verdict_init) [.non, .non] [] a_Verdict_init fd_Verdict_init
  a_Verdict_safe : Addr
  fd_Verdict_safe : FuncData
  F_Verdict_safe : Fun K "safe" "Verdict.safe" S_Verdict_safe a_Verdict_safe fd_Verdict_safe
  b_Verdict_safe : Binds K fd_Verdict_safe ["self"] []
  a_Verdict_bool : Addr
  fd_Verdict_bool : FuncData
  F_Verdict_bool : Fun K "__bool__" "Verdict.__bool__" S_Verdict_bool a_Verdict_bool fd_Verdict_bool
  b_Verdict_bool : Binds K fd_Verdict_bool ["self"] []
  a_is_mark : Addr
  fd_is_mark : FuncData
  F_is_mark : Fun K "is_mark" "is_mark" S_is_mark a_is_mark fd_is_mark
  b_is_mark : Binds K fd_is_mark ["text"] []
  g_is_mark : mg "is_mark" = some (.ref a_is_mark)
  a_sound_row : Addr
  fd_sound_row : FuncData
  F_sound_row : Fun K "sound_row" "sound_row" S_sound_row a_sound_row fd_sound_row
  b_sound_row : Binds K fd_sound_row ["row", "before"] []
  g_sound_row : mg "sound_row" = some (.ref a_sound_row)
  a_barren : Addr
  fd_barren : FuncData
  F_barren : Fun K "barren" "barren" S_barren a_barren fd_barren
  b_barren : Binds K fd_barren ["rows"] []
  g_barren : mg "barren" = some (.ref a_barren)
  a_Shape_init : Addr
  fd_Shape_init : FuncData
  F_Shape_init : Fun K "__init__" "Shape.__init__" S_Shape_init a_Shape_init fd_Shape_init
  bs_Shape_init : StarB fd_Shape_init ["self"] "rows"
  a_Shape_getitem : Addr
  fd_Shape_getitem : FuncData
  F_Shape_getitem : Fun K "__getitem__" "Shape.__getitem__" S_Shape_getitem a_Shape_getitem fd_Shape_getitem
  b_Shape_getitem : Binds K fd_Shape_getitem ["self", "mark"] []
  a_Shape_eq : Addr
  fd_Shape_eq : FuncData
  F_Shape_eq : Fun K "__eq__" "Shape.__eq__" S_Shape_eq a_Shape_eq fd_Shape_eq
  b_Shape_eq : Binds K fd_Shape_eq ["self", "other"] []
  a_suitable : Addr
  fd_suitable : FuncData
  F_suitable : Fun K "suitable" "suitable" S_suitable a_suitable fd_suitable
  b_suitable : Binds K fd_suitable ["web", "row", "parents"] []
  g_suitable : mg "suitable" = some (.ref a_suitable)
  a_Web_init : Addr
  fd_Web_init : FuncData
  F_Web_init : Fun K "__init__" "Web.__init__" S_Web_init a_Web_init fd_Web_init
  b_Web_init : Binds K fd_Web_init ["self", "shape"] []
  a_Web_put : Addr
  fd_Web_put : FuncData
  F_Web_put : Fun K "put" "Web.put" S_Web_put a_Web_put fd_Web_put
  bs_Web_put : StarB fd_Web_put ["self", "mark"] "parents"
  a_Web_getitem : Addr
  fd_Web_getitem : FuncData
  F_Web_getitem : Fun K "__getitem__" "Web.__getitem__" S_Web_getitem a_Web_getitem fd_Web_getitem
  b_Web_getitem : Binds K fd_Web_getitem ["self", "thing"] []
  a_Web_contains : Addr
  fd_Web_contains : FuncData
  F_Web_contains : Fun K "__contains__" "Web.__contains__" S_Web_contains a_Web_contains fd_Web_contains
  b_Web_contains : Binds K fd_Web_contains ["self", "thing"] []
  a_Web_eq : Addr
  fd_Web_eq : FuncData
  F_Web_eq : Fun K "__eq__" "Web.__eq__" S_Web_eq a_Web_eq fd_Web_eq
  b_Web_eq : Binds K fd_Web_eq ["self", "other"] []
  a_Web_mark_of : Addr
  fd_Web_mark_of : FuncData
  F_Web_mark_of : Fun K "mark_of" "Web.mark_of" S_Web_mark_of a_Web_mark_of fd_Web_mark_of
  b_Web_mark_of : Binds K fd_Web_mark_of ["self", "thing"] []
  a__law_draws : Addr
  fd__law_draws : FuncData
  F__law_draws : Fun K "_law_draws" "_law_draws" S__law_draws a__law_draws fd__law_draws
  b__law_draws : Binds K fd__law_draws ["_law_script"] []
  g__law_draws : mg "_law_draws" = some (.ref a__law_draws)
  a__law_take : Addr
  fd__law_take : FuncData
  F__law_take : Fun K "_law_take" "_law_take" S__law_take a__law_take fd__law_take
  b__law_take : Binds K fd__law_take ["_law_draws_here", "_law_at", "_law_size"] []
  g__law_take : mg "_law_take" = some (.ref a__law_take)
  a__law_same : Addr
  fd__law_same : FuncData
  F__law_same : Fun K "_law_same" "_law_same" S__law_same a__law_same fd__law_same
  b__law_same : Binds K fd__law_same ["_law_actual", "_law_expected"] []
  g__law_same : mg "_law_same" = some (.ref a__law_same)
  a__law_marks : Addr
  fd__law_marks : FuncData
  F__law_marks : Fun K "_law_marks" "_law_marks" S__law_marks a__law_marks fd__law_marks
  b__law_marks : Binds K fd__law_marks ["_law_draws_here", "_law_at", "_law_count"] []
  g__law_marks : mg "_law_marks" = some (.ref a__law_marks)
  a__law_rows : Addr
  fd__law_rows : FuncData
  F__law_rows : Fun K "_law_rows" "_law_rows" S__law_rows a__law_rows fd__law_rows
  b__law_rows : Binds K fd__law_rows ["_law_draws_here", "_law_at", "_law_exclusive"] []
  g__law_rows : mg "_law_rows" = some (.ref a__law_rows)
  a__law_things : Addr
  fd__law_things : FuncData
  F__law_things : Fun K "_law_things" "_law_things" S__law_things a__law_things fd__law_things
  b__law_things : Binds K fd__law_things ["_law_draws_here", "_law_at", "_law_rows_here", "_law_count"] []
  g__law_things : mg "_law_things" = some (.ref a__law_things)
  a__law_shape : Addr
  fd__law_shape : FuncData
  F__law_shape : Fun K "_law_shape" "_law_shape" S__law_shape a__law_shape fd__law_shape
  b__law_shape : Binds K fd__law_shape ["_law_rows_here"] []
  g__law_shape : mg "_law_shape" = some (.ref a__law_shape)
  a__law_put : Addr
  fd__law_put : FuncData
  F__law_put : Fun K "_law_put" "_law_put" S__law_put a__law_put fd__law_put
  b__law_put : Binds K fd__law_put ["_law_web_here", "_law_mark", "_law_parents"] []
  g__law_put : mg "_law_put" = some (.ref a__law_put)
  a__law_web : Addr
  fd__law_web : FuncData
  F__law_web : Fun K "_law_web" "_law_web" S__law_web a__law_web fd__law_web
  b__law_web : Binds K fd__law_web ["_law_shape_here", "_law_things_here"] []
  g__law_web : mg "_law_web" = some (.ref a__law_web)
  a__law_mode : Addr
  fd__law_mode : FuncData
  F__law_mode : Fun K "_law_mode" "_law_mode" S__law_mode a__law_mode fd__law_mode
  b__law_mode : Binds K fd__law_mode ["_law_steps", "_law_thing"] []
  g__law_mode : mg "_law_mode" = some (.ref a__law_mode)
  a__law_conflict : Addr
  fd__law_conflict : FuncData
  F__law_conflict : Fun K "_law_conflict" "_law_conflict" S__law_conflict a__law_conflict fd__law_conflict
  b__law_conflict : Binds K fd__law_conflict ["_law_steps", "_law_others"] []
  g__law_conflict : mg "_law_conflict" = some (.ref a__law_conflict)
  a__law_any_steps : Addr
  fd__law_any_steps : FuncData
  F__law_any_steps : Fun K "_law_any_steps" "_law_any_steps" S__law_any_steps a__law_any_steps fd__law_any_steps
  b__law_any_steps : Binds K fd__law_any_steps ["_law_draws_here", "_law_at"] []
  g__law_any_steps : mg "_law_any_steps" = some (.ref a__law_any_steps)
  a__law_bad_last : Addr
  fd__law_bad_last : FuncData
  F__law_bad_last : Fun K "_law_bad_last" "_law_bad_last" S__law_bad_last a__law_bad_last fd__law_bad_last
  b__law_bad_last : Binds K fd__law_bad_last ["_law_web_here", "_law_programs", "_law_last"] []
  g__law_bad_last : mg "_law_bad_last" = some (.ref a__law_bad_last)
  a__law_row_same : Addr
  fd__law_row_same : FuncData
  F__law_row_same : Fun K "_law_row_same" "_law_row_same" S__law_row_same a__law_row_same fd__law_row_same
  b__law_row_same : Binds K fd__law_row_same ["_law_row", "_law_web_here", "_law_lists", "_law_last"] []
  g__law_row_same : mg "_law_row_same" = some (.ref a__law_row_same)
  a__law_verdict_same : Addr
  fd__law_verdict_same : FuncData
  F__law_verdict_same : Fun K "_law_verdict_same" "_law_verdict_same" S__law_verdict_same a__law_verdict_same fd__law_verdict_same
  b__law_verdict_same : Binds K fd__law_verdict_same ["_law_verdict", "_law_safe", "_law_ground"] []
  g__law_verdict_same : mg "_law_verdict_same" = some (.ref a__law_verdict_same)
  a_law : Addr
  fd_law : FuncData
  F_law : Fun K "law" "law" S_law a_law fd_law
  b_law : Binds K fd_law ["_law_script"] []
  g_law : mg "law" = some (.ref a_law)
  n_any : mg "any" = none
  n_bool : mg "bool" = none
  n_enumerate : mg "enumerate" = none
  n_int : mg "int" = none
  n_isinstance : mg "isinstance" = none
  n_iter : mg "iter" = none
  n_len : mg "len" = none
  n_list : mg "list" = none
  n_property : mg "property" = none
  n_range : mg "range" = none
  n_str : mg "str" = none
  n_tuple : mg "tuple" = none
  k_DEEDS : Addr
  g_DEEDS : mg "DEEDS" = some (.ref k_DEEDS)
  q_DEEDS : ∀ H : Hp, SqT K H k_DEEDS [.str "own", .str "share", .str "drop"]
  tk_LETTERS : Tok
  g_LETTERS : mg "LETTERS" = some (.str "abcdefghijklmnopqrstuvwxyz" tk_LETTERS)
  sq_add : SeqAdd K
  c_Program : Addr
  g_Program : mg "Program" = some (.ref c_Program)
  cl_Program : Cls K c_Program
  mk_Program : Mk K c_Program a_Program_init
  m_Program_len : Meth K c_Program "__len__" a_Program_len
  m_Program_iter : Meth K c_Program "__iter__" a_Program_iter
  m_Program_add : Meth K c_Program "__add__" a_Program_add
  p_Program_things : Addr
  pr_Program_things : PropOf K c_Program "things" p_Program_things a_Program_things
  m_Program_mode_of : Meth K c_Program "mode_of" a_Program_mode_of
  ti_Program : ∀ (H : Hp) (a dx : Addr) (fs : List (Str × V)), H a = some (.ins c_Program dx fs) → TyOf K H (.ref a) (.ref c_Program)
  kk_Program : PySem.W.kitOne K (.ref c_Program) (.ref c_Program) = some true
  ko_Program_list : PySem.W.kitOne K (.ref c_Program) (.type "list") = some false
  ko_Program_tuple : PySem.W.kitOne K (.ref c_Program) (.type "tuple") = some false
  of_Program_add : OpF K c_Program "add" a_Program_add
  no_Program__steps : NoAttr K c_Program "_steps"
  c_Row : Addr
  g_Row : mg "Row" = some (.ref c_Row)
  cl_Row : Cls K c_Row
  mk_Row : Mk K c_Row a_Row_init
  no_Row_web : NoAttr K c_Row "web"
  no_Row_programs : NoAttr K c_Row "programs"
  no_Row_last : NoAttr K c_Row "last"
  c_Verdict : Addr
  g_Verdict : mg "Verdict" = some (.ref c_Verdict)
  cl_Verdict : Cls K c_Verdict
  mk_Verdict : Mk K c_Verdict a_Verdict_init
  p_Verdict_safe : Addr
  pr_Verdict_safe : PropOf K c_Verdict "safe" p_Verdict_safe a_Verdict_safe
  m_Verdict_bool : Meth K c_Verdict "__bool__" a_Verdict_bool
  no_Verdict_row : NoAttr K c_Verdict "row"
  no_Verdict_ground : NoAttr K c_Verdict "ground"
  c_Shape : Addr
  g_Shape : mg "Shape" = some (.ref c_Shape)
  cl_Shape : Cls K c_Shape
  mk_Shape : Mk K c_Shape a_Shape_init
  m_Shape_getitem : Meth K c_Shape "__getitem__" a_Shape_getitem
  m_Shape_eq : Meth K c_Shape "__eq__" a_Shape_eq
  fi_Shape_getitem : PySem.W.fnIn K a_Shape_getitem = true
  ti_Shape : ∀ (H : Hp) (a dx : Addr) (fs : List (Str × V)), H a = some (.ins c_Shape dx fs) → TyOf K H (.ref a) (.ref c_Shape)
  kk_Shape : PySem.W.kitOne K (.ref c_Shape) (.ref c_Shape) = some true
  cr_Shape : ClX.CRead K c_Shape (.type "type")
  tk_Shape_MARKS : Tok
  cv_Shape_MARKS : ClX.CVal K c_Shape (.type "type") "MARKS" (.int 6) (.int 6 tk_Shape_MARKS)
  tk_Shape_PARENTS : Tok
  cv_Shape_PARENTS : ClX.CVal K c_Shape (.type "type") "PARENTS" (.int 4) (.int 4 tk_Shape_PARENTS)
  no_Shape__listed : NoAttr K c_Shape "_listed"
  no_Shape__marks : NoAttr K c_Shape "_marks"
  c_Web : Addr
  g_Web : mg "Web" = some (.ref c_Web)
  cl_Web : Cls K c_Web
  mk_Web : Mk K c_Web a_Web_init
  m_Web_put : Meth K c_Web "put" a_Web_put
  m_Web_getitem : Meth K c_Web "__getitem__" a_Web_getitem
  m_Web_contains : Meth K c_Web "__contains__" a_Web_contains
  m_Web_eq : Meth K c_Web "__eq__" a_Web_eq
  m_Web_mark_of : Meth K c_Web "mark_of" a_Web_mark_of
  fi_Web_getitem : PySem.W.fnIn K a_Web_getitem = true
  ti_Web : ∀ (H : Hp) (a dx : Addr) (fs : List (Str × V)), H a = some (.ins c_Web dx fs) → TyOf K H (.ref a) (.ref c_Web)
  kk_Web : PySem.W.kitOne K (.ref c_Web) (.ref c_Web) = some true
  cr_Web : ClX.CRead K c_Web (.type "type")
  tk_Web_MOST : Tok
  cv_Web_MOST : ClX.CVal K c_Web (.type "type") "MOST" (.int 1000) (.int 1000 tk_Web_MOST)
  no_Web_shape : NoAttr K c_Web "shape"
  no_Web__rows : NoAttr K c_Web "_rows"
  no_Web__numbers : NoAttr K c_Web "_numbers"
  kb_Verdict_init_3 : ∃ ds, Vals [] ds ∧ Binds K fd_Verdict_init ["self", "row", "ground"] ds
  kb_Verdict_init_1 : ∃ ds, Vals [.non, .non] ds ∧ Binds K fd_Verdict_init ["self", "row", "ground"] ds
  kb_Verdict_init_2 : ∃ ds, Vals [.non] ds ∧ Binds K fd_Verdict_init ["self", "row", "ground"] ds
  kb_Verdict_init_1_ground : ∃ G, KBn K fd_Verdict_init ["self", "row", "ground"] 1 ["ground"] G (fun vs zs => (vs ++ ((([.non, .non] : List V).drop 0).take 1 ++ ((zs.drop 0).take 1))))
  kb_Verdict_init_1_ground_row : ∃ G, KBn K fd_Verdict_init ["self", "row", "ground"] 1 ["ground", "row"] G (fun vs zs => (vs ++ ((zs.drop 1).take 1 ++ ((zs.drop 0).take 1))))
  c_BadShape : Addr
  g_BadShape : mg "BadShape" = some (.ref c_BadShape)
  c_UnknownMark : Addr
  g_UnknownMark : mg "UnknownMark" = some (.ref c_UnknownMark)
  c_TooLarge : Addr
  g_TooLarge : mg "TooLarge" = some (.ref c_TooLarge)
  c_BadParents : Addr
  g_BadParents : mg "BadParents" = some (.ref c_BadParents)
  c_NoThing : Addr
  g_NoThing : mg "NoThing" = some (.ref c_NoThing)
  c_BadStep : Addr
  g_BadStep : mg "BadStep" = some (.ref c_BadStep)
  c_WebError : Addr
  g_WebError : mg "WebError" = some (.ref c_WebError)
  c_Refused : Addr
  g_Refused : mg "Refused" = some (.ref c_Refused)
  x_BadShape : PySem.WX.ExcTxt PP K mg "BadShape" "mark" c_BadShape
  xc_BadShape : XC K c_BadShape
  xn_BadShape : PySem.W.findIn K (.ref c_BadShape) "mark" = some none
  em_BadShape_WebError : PySem.W.exmOne K (.ref c_BadShape) (.ref c_WebError) = some true
  kt_BadShape_BadStep : PySem.W.kitOne K (.ref c_BadShape) (.ref c_BadStep) = some false
  kt_BadShape_Refused : PySem.W.kitOne K (.ref c_BadShape) (.ref c_Refused) = some false
  x_UnknownMark : PySem.WX.ExcTxt PP K mg "UnknownMark" "mark" c_UnknownMark
  xc_UnknownMark : XC K c_UnknownMark
  xn_UnknownMark : PySem.W.findIn K (.ref c_UnknownMark) "mark" = some none
  em_UnknownMark_WebError : PySem.W.exmOne K (.ref c_UnknownMark) (.ref c_WebError) = some true
  kt_UnknownMark_BadStep : PySem.W.kitOne K (.ref c_UnknownMark) (.ref c_BadStep) = some false
  kt_UnknownMark_Refused : PySem.W.kitOne K (.ref c_UnknownMark) (.ref c_Refused) = some false
  x_TooLarge : PySem.WX.ExcTxt PP K mg "TooLarge" "most" c_TooLarge
  xc_TooLarge : XC K c_TooLarge
  xn_TooLarge : PySem.W.findIn K (.ref c_TooLarge) "most" = some none
  em_TooLarge_WebError : PySem.W.exmOne K (.ref c_TooLarge) (.ref c_WebError) = some true
  kt_TooLarge_BadStep : PySem.W.kitOne K (.ref c_TooLarge) (.ref c_BadStep) = some false
  kt_TooLarge_Refused : PySem.W.kitOne K (.ref c_TooLarge) (.ref c_Refused) = some false
  x_BadParents : PySem.WX.ExcTxt PP K mg "BadParents" "mark" c_BadParents
  xc_BadParents : XC K c_BadParents
  xn_BadParents : PySem.W.findIn K (.ref c_BadParents) "mark" = some none
  em_BadParents_WebError : PySem.W.exmOne K (.ref c_BadParents) (.ref c_WebError) = some true
  kt_BadParents_BadStep : PySem.W.kitOne K (.ref c_BadParents) (.ref c_BadStep) = some false
  kt_BadParents_Refused : PySem.W.kitOne K (.ref c_BadParents) (.ref c_Refused) = some false
  x_NoThing : PySem.WX.ExcTxt PP K mg "NoThing" "thing" c_NoThing
  xc_NoThing : XC K c_NoThing
  xn_NoThing : PySem.W.findIn K (.ref c_NoThing) "thing" = some none
  em_NoThing_WebError : PySem.W.exmOne K (.ref c_NoThing) (.ref c_WebError) = some true
  kt_NoThing_BadStep : PySem.W.kitOne K (.ref c_NoThing) (.ref c_BadStep) = some false
  kt_NoThing_Refused : PySem.W.kitOne K (.ref c_NoThing) (.ref c_Refused) = some false
  x_BadStep : PySem.WX.ExcTxt PP K mg "BadStep" "step" c_BadStep
  xc_BadStep : XC K c_BadStep
  xn_BadStep : PySem.W.findIn K (.ref c_BadStep) "step" = some none
  em_BadStep_WebError : PySem.W.exmOne K (.ref c_BadStep) (.ref c_WebError) = some true
  kt_BadStep_BadStep : PySem.W.kitOne K (.ref c_BadStep) (.ref c_BadStep) = some true
  kt_BadStep_Refused : PySem.W.kitOne K (.ref c_BadStep) (.ref c_Refused) = some false
end My
namespace My
open PySem L2
/-! ### heaps: all but a as it was -/
def But (a : Addr) (H H' : Hp) : Prop := ∀ b o, b ≠ a → H b = some o → H' b = some o
theorem But.refl (a : Addr) (H : Hp) : But a H H := fun _ _ _ h => h
theorem But.trans {a : Addr} {H H1 H2 : Hp} (x : But a H H1) (y : But a H1 H2) : But a H H2 := fun b o n h => y b o n (x b o n h)
theorem But.of_same {a : Addr} {H H' : Hp} (s : Same H H') : But a H H' := fun b o _ h => s b o h
theorem But.upd {a : Addr} {H : Hp} {o : HO} : But a H (upd H a o) := fun b u n h => by rw [upd_ne n]; exact h
theorem same_new {H : Hp} {p : Addr} {o : HO} (h : H p = none) : Same H (upd H p o) := fun b x e => by
  rw [upd_ne (ne_of_none e h)]; exact e
theorem But.new {a p : Addr} {H : Hp} {o : HO} (h : H p = none) : But a H (L2.upd H p o) := But.of_same (same_new h)
/-- an object that H does not know may change -/
theorem same_mut {H H' : Hp} {p : Addr} {o : HO} (e : Same H H') (h : H p = none) : Same H (upd H' p o) := fun a u ha => by
  rw [upd_ne (ne_of_none ha h)]; exact e a u ha
theorem But.mut {a p : Addr} {H H' : Hp} {o : HO} (e : But a H H') (h : H p = none) : But a H (L2.upd H' p o) := fun b u n hb => by
  rw [upd_ne (ne_of_none hb h)]; exact e b u n hb
theorem But.free {a p : Addr} {H H' : Hp} (e : But a H H') (n : p ≠ a) (h : H' p = none) : H p = none := by
  cases q : H p with
  | none => rfl
  | some o => rw [e p o n q] at h; cases h
theorem But.sqL {K : PySem.W.Frag} {a d : Addr} {H H' : Hp} {xs : List V} (e : But a H H') (n : d ≠ a) (h : SqL K H d xs) : SqL K H' d xs := by
  rcases h with (h | ⟨o, h⟩) | h
  · exact .inl (.inl (e _ _ n h))
  · exact .inl (.inr ⟨o, e _ _ n h⟩)
  · exact .inr h
theorem But.sqT {K : PySem.W.Frag} {a d : Addr} {H H' : Hp} {xs : List V} (e : But a H H') (n : d ≠ a) (h : SqT K H d xs) : SqT K H' d xs := by
  rcases h with (h | ⟨o, h⟩) | h
  · exact .inl (.inl (e _ _ n h))
  · exact .inl (.inr ⟨o, e _ _ n h⟩)
  · exact .inr h
theorem same_sqT {K : PySem.W.Frag} {d : Addr} {H H' : Hp} {xs : List V} (e : Same H H') (h : SqT K H d xs) : SqT K H' d xs := by
  rcases h with (h | ⟨o, h⟩) | h
  · exact .inl (.inl (e _ _ h))
  · exact .inl (.inr ⟨o, e _ _ h⟩)
  · exact .inr h
theorem same_make {H H5 : Hp} {x dx C : Addr} (nx : H x = none) (nd : H dx = none) (b : But x (L2.upd (L2.upd H dx (.own x)) x (.ins C dx [])) H5) : Same H H5 := fun y o h =>
  b y o (ne_of_none h nx) (by rw [upd_ne (ne_of_none h nx), upd_ne (ne_of_none h nd)]; exact h)
/-! ### tests -/
theorem iteD {c A B : Prop} [Decidable c] (h1 : c → A) (h2 : ¬ c → B) : if decide c = true then A else B := by
  by_cases h : c
  · rw [decide_eq_true h]; exact iteT (h1 h)
  · rw [decide_eq_false h]; exact iteF (h2 h)
theorem iteN {c A B : Prop} [Decidable c] (h1 : ¬ c → A) (h2 : c → B) : if (!decide c) = true then A else B := by
  by_cases h : c
  · rw [decide_eq_true h]; exact iteF (h2 h)
  · rw [decide_eq_false h]; exact iteT (h1 h)
theorem iteB {b : Bool} {A B : Prop} (h1 : b = true → A) (h2 : b = false → B) : if b = true then A else B := by
  cases b with
  | true => exact iteT (h1 rfl)
  | false => exact iteF (h2 rfl)
theorem iteYes {b : Bool} {A B : Prop} (h : b = true) (h1 : A) : if b = true then A else B := by rw [h]; exact iteT h1
theorem iteNo {b : Bool} {A B : Prop} (h : b = false) (h1 : B) : if b = true then A else B := by rw [h]; exact iteF h1
/-! ### lists -/
theorem ints_app (zs : List Int) (z : Int) : (zs.map V.int) ++ [V.int z] = (zs ++ [z]).map V.int := by rw [List.map_append]; rfl
theorem at_ok {xs : List V} {i : Int} (h0 : 0 ≤ i) (h1 : i < xs.length) : ∃ v, atI xs i = some v ∧ v ∈ xs := by
  obtain ⟨j, rfl⟩ := Int.eq_ofNat_of_zero_le h0
  have hj : j < xs.length := by omega
  exact ⟨xs[j], atI_nat (List.getElem?_eq_getElem hj), List.getElem_mem hj⟩
theorem get_int {ns : List Int} {i : Nat} {y : V} (h : (ns.map V.int)[i]? = some y) : ∃ z, ns[i]? = some z ∧ y = .int z := by
  rw [List.getElem?_map] at h
  cases e : ns[i]? with
  | none => rw [e] at h; cases h
  | some z => rw [e] at h; exact ⟨z, rfl, (Option.some.inj h).symm⟩
end My
namespace L2
open PySem
/-! ### rules whose reading names K itself (in a comprehension's block) -/
theorem ixLK {X : Cx} {K : PySem.W.Frag} (h : X.K = K) : IxR X (rIxL K) := h ▸ ix_list
theorem ixTK {X : Cx} {K : PySem.W.Frag} (h : X.K = K) : IxR X (rIxT K) := h ▸ ix_tup
theorem inK {X : Cx} {K : PySem.W.Frag} (h : X.K = K) : OpR X (compareOp .In) (rIn K false) := h ▸ op_in_seq
theorem ninK {X : Cx} {K : PySem.W.Frag} (h : X.K = K) : OpR X (compareOp .NotIn) (rIn K true) := h ▸ op_notIn_seq
theorem pe_fldK {X : Cx} {K : PySem.W.Frag} {e : Expr} {f : Str} {pos : Pos} {ta : TE} (h : X.K = K) (he : PE X e ta) (hb : attributeBase e f X.env (eval e X.env) = eval e X.env) : PE X (.Attribute e f pos) (tFld K ta f) := h ▸ pe_fld he hb
end L2

namespace My
open PySem L2
/-- the draws at d, the place at a -/
structure Dr (K : PySem.W.Frag) (H : Hp) (d a : Addr) : Prop where
  ds : ∃ ns : List Int, H d = some (.lst (ns.map V.int))
  pl : ∃ k : Nat, H a = some (.lst [.int k])
  ne : d ≠ a
theorem Dr.but {K : PySem.W.Frag} {H H' : Hp} {d a : Addr} (x : Dr K H d a) (e : But a H H') (pl : ∃ k : Nat, H' a = some (.lst [.int k])) : Dr K H' d a :=
  ⟨x.ds.elim fun ns h => ⟨ns, e _ _ x.ne h⟩, pl, x.ne⟩
theorem Dr.same {K : PySem.W.Frag} {H H' : Hp} {d a : Addr} (x : Dr K H d a) (e : Same H H') : Dr K H' d a :=
  x.but (But.of_same e) (x.pl.elim fun k h => ⟨k, e _ _ h⟩)
/-- another object is changed -/
theorem Dr.other {K : PySem.W.Frag} {H H' : Hp} {d a p : Addr} (x : Dr K H d a) (e : But p H H') (n1 : d ≠ p) (n2 : a ≠ p) : Dr K H' d a :=
  ⟨x.ds.elim fun ns h => ⟨ns, e _ _ n1 h⟩, x.pl.elim fun k h => ⟨k, e _ _ n2 h⟩, x.ne⟩
theorem Dr.nd {K : PySem.W.Frag} {H : Hp} {d a p : Addr} (x : Dr K H d a) (h : H p = none) : d ≠ p := ne_of_none x.ds.choose_spec h
theorem Dr.na {K : PySem.W.Frag} {H : Hp} {d a p : Addr} (x : Dr K H d a) (h : H p = none) : p ≠ a := (ne_of_none x.pl.choose_spec h).symm
def spTake (K : PySem.W.Frag) : Sp := fun vs H Q _ => ∃ (d a : Addr) (size : Int), vs = [.ref d, .ref a, .int size] ∧ Dr K H d a ∧ 0 < size ∧
  ∀ (r : Int) (H' : Hp), 0 ≤ r → r < size → Dr K H' d a → But a H H' → Q (.int r) H'
section
variable {P : Program} {w : World} {K : PySem.W.Frag} {mg : Str → Option Value} {base : Heap}
theorem ok__law_take (T : Txt K mg) : FnOk P w K mg base CX0 1 T.a__law_take T.fd__law_take ["_law_draws_here", "_law_at", "_law_size"] (spTake K) := by
  refine T.F__law_take.ok sc__law_take (fun vs H Q E h => ?_) (fun cdv A outer s H vs Q E hr h => ?_)
  · obtain ⟨d, a, size, rfl, _⟩ := h; rfl
  · obtain ⟨d, a, size, rfl, D, hs, q⟩ := h
    obtain ⟨ns, hd0⟩ := D.ds
    have hd : SqL K H d (ns.map V.int) := SqL.of hd0
    obtain ⟨k, hk⟩ := D.pl
    have hb : But a H (upd H a (.lst [.int (k + 1 : Nat)])) := But.upd
    have D' : Dr K (upd H a (.lst [.int (k + 1 : Nat)])) d a := D.but hb ⟨_, upd_same⟩
    have hd' := hb.sqL D.ne hd
    refine ⟨_, (pss_cons (ps_asg (pe_op op_add (pe_ix ix_list (pv 1) (pe_int) (fun _ _ => rfl)) (pe_int)) (pg_sub (pv 1) (pe_int) set_list))
      (pss_cons (ps_if (pt_cmpR op_gt (pe_ix ix_list (pv 1) (pe_int) (fun _ _ => rfl)) (pe_callB call_len_seq (by rfl) T.n_len (by decide +kernel) (pa_cons (pv 0) pa_nil)) (nomark _)) (pss_one (ps_ret (pe_int))) pss_nil)
      (pss_one (ps_ret (pe_op op_mod (pe_callTy call_int1 (by rfl) T.n_int (by decide +kernel) (pa_cons (pe_ix ix_list (pv 0) (pe_op op_sub (pe_ix ix_list (pv 1) (pe_int) (fun _ _ => rfl)) (pe_int)) (fun _ _ => rfl)) pa_nil)) (pv 2)))))), ?_⟩
    walk_at "rd"

    refine iteD (fun c => ?_) (fun c => ?_)
    · exact q 0 _ (Int.le_refl _) hs D' hb
    · rw [List.length_map] at c
      have hl : k < ns.length := by omega
      refine ⟨_, rfl, _, rfl, _, _, _, _, rfl, rfl, SqL.of upd_same, atI_nat (j := 0) rfl, _, _, rfl, rfl, _, _, _, _, rfl, rfl, hd', at_of (j := k) (by omega) (by rw [List.getElem?_map, List.getElem?_eq_getElem hl]; rfl), ?_⟩
      walk_at "rd"
      exact q _ _ (Int.emod_nonneg _ (by omega)) (Int.emod_lt_of_pos _ hs) D' hb
end
end My

namespace My
open PySem L2
def spDraws (K : PySem.W.Frag) : Sp := fun vs H Q _ => ∃ (a : Addr) (ns : List Int), vs = [.ref a] ∧ SqL K H a (ns.map V.int) ∧ ns.length ≤ 63 ∧
  ∀ (p : Addr) (zs : List Int) (H' : Hp), Same H H' → H p = none → H' p = some (.lst (zs.map V.int)) → Q (.ref p) H'
section
variable {P : Program} {w : World} {K : PySem.W.Frag} {mg : Str → Option Value} {base : Heap}
theorem ok__law_draws (T : Txt K mg) : FnOk P w K mg base CX0 1 T.a__law_draws T.fd__law_draws ["_law_script"] (spDraws K) := by
  refine T.F__law_draws.ok sc__law_draws (fun vs H Q E h => ?_) (fun cdv A outer s H vs Q E hr h => ?_)
  · obtain ⟨a, ns, rfl, _⟩ := h; rfl
  · obtain ⟨a, ns, rfl, hS, hlen, q⟩ := h
    refine ⟨_, (pss_cons (ps_set (i := 1) sc__law_draws.nd rfl (.inl rfl) (pe_lst pa_nil))
      (pss_cons (ps_for PassesOwn.never rfl (pi_list (pv 0)) (pg_name (i := 2) sc__law_draws.nd rfl (.inl rfl)) (pss_one (ps_if (pt_cmpR op_ge (pv 2) (pe_op op_pow (pe_int) (pe_int)) (nomark _)) (pss_cons (ps_set (i := 3) sc__law_draws.nd rfl (.inl rfl) (pe_callTy call_int1 (by rfl) T.n_int (by decide +kernel) (pa_cons (pv 2) pa_nil)))
      (pss_one (ps_for PassesOwn.never rfl (pi_range1 (by rfl) T.n_range (pa_cons (pe_int) pa_nil)) (pg_name (i := 4) sc__law_draws.nd rfl (.inl rfl)) (pss_one (ps_if (pt_cmpR op_gt (pv 3) (pe_int) (nomark _)) (pss_cons (ps_expr (pe_bm PySem.F.plainAttrs_list PySem.F.slot_list_append PySem.F.type_list_append mt_append (pv 1) (pa_cons (pe_op op_mod (pe_callTy call_int1 (by rfl) T.n_int (by decide +kernel) (pa_cons (pv 3) pa_nil)) (pe_int)) pa_nil)))
      (pss_one (ps_set (i := 3) sc__law_draws.nd rfl (.inl rfl) (pe_op op_fdiv (pv 3) (pe_int))))) pss_nil))))) (pss_cons (ps_set (i := 5) sc__law_draws.nd rfl (.inl rfl) (pe_op op_mod (pe_callTy call_int1 (by rfl) T.n_int (by decide +kernel) (pa_cons (pe_op op_add (pe_op op_mul (pv 2) (pe_int)) (pe_int)) pa_nil)) (pe_int)))
      (pss_cons (ps_expr (pe_bm PySem.F.plainAttrs_list PySem.F.slot_list_append PySem.F.type_list_append mt_append (pv 1) (pa_cons (pv 5) pa_nil)))
      (pss_one (ps_expr (pe_bm PySem.F.plainAttrs_list PySem.F.slot_list_append PySem.F.type_list_append mt_append (pv 1) (pa_cons (pe_op op_mod (pe_callTy call_int1 (by rfl) T.n_int (by decide +kernel) (pa_cons (pe_op op_add (pe_op op_add (pe_op op_mul (pv 5) (pv 5)) (pe_op op_mul (pe_int) (pv 5))) (pe_op op_mul (pe_int) (pe_callB call_len_seq (by rfl) T.n_len (by decide +kernel) (pa_cons (pv 1) pa_nil)))) pa_nil)) (pe_int)) pa_nil)))))))))
      (pss_one (ps_ret (pv 1))))), ?_⟩
    refine ⟨Nat.zero_le _, fun p hp => ?_⟩
    have s0 : Same H (upd H p (.lst [])) := same_new hp
    refine ⟨_, rfl, a, rfl, ⟨_, s0.seq hS⟩, for_list (K := K) (a := a) (xs := ns.map V.int) (fun i σ H' => ∃ (zs : List Int) (x2 x3 x4 x5 : Option V), σ = [some (.ref a), some (.ref p), x2, x3, x4, x5] ∧ Same H H' ∧ H' p = some (.lst (zs.map V.int)) ∧ zs.length ≤ 60 * i)
      ⟨[], _, _, _, _, rfl, s0, upd_same, Nat.zero_le _⟩ (fun i σ H' _ ⟨_, _, _, _, _, _, s1, _⟩ => s1.seq hS) ?_ ?_⟩
    · rintro i y σ H1 hi ⟨zs, x2, x3, x4, x5, rfl, s1, h1, hz⟩
      have hi63 : i < ns.length := by
        have z := (List.getElem?_eq_some_iff.mp hi).1
        rw [List.length_map] at z
        exact z
      obtain ⟨c, hc, rfl⟩ := get_int hi
      refine ⟨_, rfl, _, _, rfl, rfl, ⟨by decide, by decide, by decide⟩, ?_⟩
      walk_at "rd"
      refine iteD (fun c1 => ?_) (fun c1 => ?_)
      · refine ⟨_, rfl, .inl ⟨_, rfl, ?_⟩⟩
        refine ⟨60, rfl, by decide, by decide, for_range (lo := 0) (n := 60) (fun j σ H' => ∃ (zs : List Int) (r : Int) (x4 : Option V), σ = [some (.ref a), some (.ref p), some (.int c), some (.int r), x4, x5] ∧ Same H H' ∧ H' p = some (.lst (zs.map V.int)) ∧ zs.length ≤ 60 * i + j)
          ⟨zs, c, x4, rfl, s1, h1, hz⟩ ?_ ?_⟩
        · rintro j σ H2 hj ⟨zs, r, x4, rfl, s2, h2, hz2⟩
          walk_at "rd"
          refine iteD (fun c2 => ?_) (fun c2 => ?_)
          · refine ⟨_, rfl, .inl ⟨rfl, _, SqL.of h2⟩, _, rfl, .inl ⟨_, rfl, _, _, rfl, rfl, (by show (0 : Int) < 1000; decide), _, _, _, rfl, rfl, h2, by rw [List.length_map]; exact Nat.lt_of_le_of_lt (by omega : _ ≤ 100000) (by decide), ?_⟩⟩
            refine ⟨_, rfl, _, _, rfl, rfl, ⟨by decide, by decide⟩, ?_⟩
            exact ⟨zs ++ [r % 1000], _, _, rfl, same_mut s2 hp, by rw [upd_same, ints_app], by rw [List.length_append, List.length_singleton]; omega⟩
          · exact ⟨zs, r, _, rfl, s2, h2, by omega⟩
        · rintro σ H2 ⟨zs, r, x4, rfl, s2, h2, hz2⟩
          exact ⟨zs, _, _, _, _, rfl, s2, h2, by omega⟩
      · refine ⟨_, rfl, _, _, rfl, rfl, .inr ⟨by decide, by decide⟩, _, _, rfl, rfl, .inl ⟨_, rfl, _, _, rfl, rfl, (by show (0 : Int) < 9973; decide), ?_⟩⟩
        have hm0 : 0 ≤ (c * 48271 + 12345) % 9973 := Int.emod_nonneg _ (by decide)
        have hm1 : (c * 48271 + 12345) % 9973 < 9973 := Int.emod_lt_of_pos _ (by decide)
        refine ⟨_, rfl, .inl ⟨rfl, _, SqL.of h1⟩, _, rfl, _, _, _, rfl, rfl, h1, by rw [List.length_map]; exact Nat.lt_of_le_of_lt (by omega : _ ≤ 100000) (by decide), ?_⟩
        refine ⟨_, rfl, .inl ⟨rfl, _, SqL.of upd_same⟩, _, rfl, _, rfl, _, _, rfl, rfl, .inl ⟨by omega, by omega⟩, _, rfl, _, _, rfl, rfl, .inl ⟨by decide, by decide⟩, _, _, rfl, rfl, _, rfl, _, _, rfl, .inl (SqL.of upd_same), _, _, rfl, rfl, .inl ⟨by decide, by decide⟩, _, _, rfl, rfl, .inl ⟨_, rfl, _, _, rfl, rfl, (by show (0 : Int) < 9949; decide), ?_⟩⟩
        refine ⟨_, _, _, rfl, rfl, upd_same, by rw [List.length_append, List.length_map]; exact Nat.lt_of_le_of_lt (by simp; omega : _ ≤ 100000) (by decide), ?_⟩
        rw [ints_app, ints_app, upd_upd]
        exact ⟨_, _, _, _, _, rfl, same_mut s1 hp, upd_same, by simp; omega⟩
    · rintro σ H1 ⟨zs, x2, x3, x4, x5, rfl, s1, h1, hz⟩
      exact ⟨_, rfl, q p zs H1 s1 hp h1⟩
end
end My

namespace My
open PySem L2
/-! ### plain data -/
inductive Sc : V → PyData → Prop
  | non : Sc .non .none
  | bl (b : Bool) : Sc (.bl b) (.bool b)
  | int (i : Int) : Sc (.int i) (.int i)
  | str (z : Str) : Sc (.str z) (.str z)
/-- a list that stays where x alone is changed; a tuple likewise -/
def SL (K : PySem.W.Frag) (x : Addr) (H : Hp) (a : Addr) (xs : List V) : Prop := (a ≠ x ∧ SqL K H a xs) ∨ ∀ H', SqL K H' a xs
def SU (K : PySem.W.Frag) (x : Addr) (H : Hp) (a : Addr) (xs : List V) : Prop := (a ≠ x ∧ SqT K H a xs) ∨ ∀ H', SqT K H' a xs
section
variable {K : PySem.W.Frag} {x : Addr} {H H' : Hp} {a : Addr} {xs : List V}
theorem SL.sq (h : SL K x H a xs) : SqL K H a xs := by
  rcases h with h | h
  · exact h.2
  · exact h H
theorem SU.sq (h : SU K x H a xs) : SqT K H a xs := by
  rcases h with h | h
  · exact h.2
  · exact h H
theorem SL.but (h : SL K x H a xs) (e : But x H H') : SL K x H' a xs := by
  rcases h with ⟨n, h⟩ | h
  · exact .inl ⟨n, e.sqL n h⟩
  · exact .inr h
theorem SU.but (h : SU K x H a xs) (e : But x H H') : SU K x H' a xs := by
  rcases h with ⟨n, h⟩ | h
  · exact .inl ⟨n, e.sqT n h⟩
  · exact .inr h
theorem tyL (h : SqL K H a xs) : TyX K H (.ref a) (.type "list") := by
  rcases h with (h | ⟨o, h⟩) | ⟨o, its, n, h, c, _⟩
  · exact .base (.lst h)
  · exact .base (.frz h)
  · exact .kList h c
theorem tyT (h : SqT K H a xs) : TyX K H (.ref a) (.type "tuple") := by
  rcases h with (h | ⟨o, h⟩) | ⟨o, its, n, h, c, _⟩
  · exact .base (.tup h)
  · exact .fTuple h
  · exact .kTuple h c
end
/-- data of depth n at most -/
def Dn (K : PySem.W.Frag) (x : Addr) (H : Hp) : Nat → V → PyData → Prop
  | 0, v, d => Sc v d
  | n + 1, v, d => Sc v d ∨ (∃ a xs ds, v = .ref a ∧ d = .list ds ∧ SL K x H a xs ∧ xs.length ≤ 100000 ∧ Paired (Dn K x H n) xs ds) ∨ ∃ a xs ds, v = .ref a ∧ d = .tuple ds ∧ SU K x H a xs ∧ xs.length ≤ 100000 ∧ Paired (Dn K x H n) xs ds
theorem Dn.sc {K : PySem.W.Frag} {x : Addr} {H : Hp} {v : V} {d : PyData} (h : Sc v d) : ∀ n, Dn K x H n v d
  | 0 => h
  | _ + 1 => .inl h
theorem Dn.but {K : PySem.W.Frag} {x : Addr} {H H' : Hp} (e : But x H H') : ∀ {n : Nat} {v : V} {d : PyData}, Dn K x H n v d → Dn K x H' n v d
  | 0, _, _, h => h
  | n + 1, v, d, h => by
    rcases h with h | ⟨a, xs, ds, rfl, rfl, h, hz, p⟩ | ⟨a, xs, ds, rfl, rfl, h, hz, p⟩
    · exact .inl h
    · exact .inr (.inl ⟨a, xs, ds, rfl, rfl, h.but e, hz, L2.Paired.mapP p fun _ _ z => Dn.but e z⟩)
    · exact .inr (.inr ⟨a, xs, ds, rfl, rfl, h.but e, hz, L2.Paired.mapP p fun _ _ z => Dn.but e z⟩)
theorem Dn.lst {K : PySem.W.Frag} {x : Addr} {H : Hp} {n : Nat} {a : Addr} {xs : List V} {ds : List PyData} (ne : a ≠ x) (h : SqL K H a xs) (p : Paired (Dn K x H n) xs ds) (hz : xs.length ≤ 100000 := by simp) : Dn K x H (n + 1) (.ref a) (.list ds) :=
  .inr (.inl ⟨a, xs, ds, rfl, rfl, .inl ⟨ne, h⟩, hz, p⟩)
theorem Dn.tup {K : PySem.W.Frag} {x : Addr} {H : Hp} {n : Nat} {a : Addr} {xs : List V} {ds : List PyData} (ne : a ≠ x) (h : SqT K H a xs) (p : Paired (Dn K x H n) xs ds) (hz : xs.length ≤ 100000 := by simp) : Dn K x H (n + 1) (.ref a) (.tuple ds) :=
  .inr (.inr ⟨a, xs, ds, rfl, rfl, .inl ⟨ne, h⟩, hz, p⟩)
theorem Dn.int {K : PySem.W.Frag} {x : Addr} {H : Hp} (i : Int) {n : Nat} : Dn K x H n (.int i) (.int i) := Dn.sc (.int i) n
theorem Dn.str {K : PySem.W.Frag} {x : Addr} {H : Hp} (i : Str) {n : Nat} : Dn K x H n (.str i) (.str i) := Dn.sc (.str i) n
theorem Dn.bl {K : PySem.W.Frag} {x : Addr} {H : Hp} (i : Bool) {n : Nat} : Dn K x H n (.bl i) (.bool i) := Dn.sc (.bl i) n
theorem Dn.non {K : PySem.W.Frag} {x : Addr} {H : Hp} {n : Nat} : Dn K x H n .non .none := Dn.sc .non n
theorem Dn.up {K : PySem.W.Frag} {x : Addr} {H : Hp} : ∀ {n : Nat} {v : V} {d : PyData}, Dn K x H n v d → Dn K x H (n + 1) v d
  | 0, _, _, h => .inl h
  | n + 1, v, d, h => by
    rcases h with h | ⟨a, xs, ds, rfl, rfl, h, hz, p⟩ | ⟨a, xs, ds, rfl, rfl, h, hz, p⟩
    · exact .inl h
    · exact .inr (.inl ⟨a, xs, ds, rfl, rfl, h, hz, L2.Paired.mapP p fun _ _ z => Dn.up z⟩)
    · exact .inr (.inr ⟨a, xs, ds, rfl, rfl, h, hz, L2.Paired.mapP p fun _ _ z => Dn.up z⟩)
theorem pair_get {α β : Type} {F : α → β → Prop} : ∀ {l : List α} {m : List β} {i : Nat} {x : α}, Paired F l m → l[i]? = some x → ∃ y, m[i]? = some y ∧ F x y
  | _, _, _, _, .nil, e => by simp at e
  | _, _, 0, _, .cons r _, e => by simp at e; subst e; exact ⟨_, rfl, r⟩
  | _, _, i + 1, x, .cons _ t, e => by
    obtain ⟨y, h1, h2⟩ := pair_get (i := i) (x := x) t (by simpa using e)
    exact ⟨y, by simpa using h1, h2⟩
theorem pair_len {α β : Type} {F : α → β → Prop} : ∀ {l : List α} {m : List β}, Paired F l m → l.length = m.length
  | _, _, .nil => rfl
  | _, _, .cons _ t => by rw [List.length_cons, List.length_cons, pair_len t]
noncomputable def sameD (d e : PyData) : Bool := @decide (d = e) (Classical.propDecidable _)
theorem same_yes {d e : PyData} (h : d = e) : sameD d e = true := by unfold sameD; exact @decide_eq_true _ (Classical.propDecidable _) h
theorem same_no {d e : PyData} (h : d ≠ e) : sameD d e = false := by unfold sameD; exact @decide_eq_false _ (Classical.propDecidable _) h
theorem same_iff {d e : PyData} : sameD d e = true ↔ d = e := by
  constructor
  · intro h
    by_cases q : d = e
    · exact q
    · rw [same_no q] at h; cases h
  · exact same_yes
theorem same_of {p : Prop} [Decidable p] {d e : PyData} (h : d = e ↔ p) : sameD d e = decide p := by
  by_cases q : p
  · rw [decide_eq_true q, same_yes (h.mpr q)]
  · rw [decide_eq_false q, same_no (fun z => q (h.mp z))]
def spSame (K : PySem.W.Frag) (n : Nat) : Sp := fun vs H Q _ => ∃ (x : Addr) (v1 v2 : V) (d1 d2 : PyData), vs = [v1, v2] ∧ Dn K x H n v1 d1 ∧ Dn K x H n v2 d2 ∧ Q (.bl (sameD d1 d2)) H
end My
local macro_rules | `(tactic| walk_at "ty") => `(tactic| first | exact .base (.int _) | exact .base (.bl _) | exact .base .non | exact .base (.str _) | exact My.tyL (by assumption) | exact My.tyT (by assumption))
local macro_rules | `(tactic| walk_at "is") => `(tactic| first | refine ⟨_, _, _, _, true, rfl, L2.ClsV.ty _, (by walk_at "ty"), L2.kit_ty (by decide +kernel), ?_⟩ | refine ⟨_, _, _, _, false, rfl, L2.ClsV.ty _, (by walk_at "ty"), L2.kit_ty (by decide +kernel), ?_⟩)
local macro_rules | `(tactic| walk_at "ri") => `(tactic| repeat (first | walk_at "is" | refine ⟨_, rfl, ?_⟩ | refine ⟨rfl, ?_⟩))
namespace My
open PySem L2
theorem same_bl (a b : Bool) : sameD (.bool a) (.bool b) = decide (V.bl a = V.bl b) := same_of ⟨fun h => by cases h; rfl, fun h => by cases h; rfl⟩
theorem same_int (a b : Int) : sameD (.int a) (.int b) = decide (V.int a = V.int b) := same_of ⟨fun h => by cases h; rfl, fun h => by cases h; rfl⟩
theorem same_str (a b : Str) : sameD (.str a) (.str b) = decide (V.str a = V.str b) := same_of ⟨fun h => by cases h; rfl, fun h => by cases h; rfl⟩
theorem same_non : sameD .none .none = true := same_yes rfl
theorem same_lst (a b : List PyData) : sameD (.list a) (.list b) = true ↔ a = b := same_iff.trans ⟨fun h => by cases h; rfl, fun h => by cases h; rfl⟩
theorem same_tup (a b : List PyData) : sameD (.tuple a) (.tuple b) = true ↔ a = b := same_iff.trans ⟨fun h => by cases h; rfl, fun h => by cases h; rfl⟩
section
variable {P : Program} {w : World} {K : PySem.W.Frag} {mg : Str → Option Value} {base : Heap}
set_option maxHeartbeats 8000000 in
theorem ok__law_same (T : Txt K mg) : ∀ n, FnOk P w K mg base CX0 (n + 1) T.a__law_same T.fd__law_same ["_law_actual", "_law_expected"] (spSame K n)
  | 0 => by
    refine T.F__law_same.ok sc__law_same (fun vs H Q E h => ?_) (fun cdv A outer s H vs Q E hr h => ?_)
    · obtain ⟨x, v1, v2, d1, d2, rfl, _⟩ := h; rfl
    · obtain ⟨x, v1, v2, d1, d2, rfl, h1, h2, q⟩ := h
      refine ⟨_, (pss_cons (ps_if (PW.pt (pw_or (pt_val (pe_callB call_isi (by rfl) T.n_isinstance (by decide +kernel) (pa_cons (pv 0) (pa_cons (pe_bltn (v := .ty "bool") (by rfl) T.n_bool (by decide +kernel) rfl) pa_nil)))) (pw_or1 (pt_val (pe_callB call_isi (by rfl) T.n_isinstance (by decide +kernel) (pa_cons (pv 1) (pa_cons (pe_bltn (v := .ty "bool") (by rfl) T.n_bool (by decide +kernel) rfl) pa_nil))))))) (pss_one (ps_ret (pe_and (pe_callB call_isi (by rfl) T.n_isinstance (by decide +kernel) (pa_cons (pv 0) (pa_cons (pe_bltn (v := .ty "bool") (by rfl) T.n_bool (by decide +kernel) rfl) pa_nil))) (pe_and (pe_callB call_isi (by rfl) T.n_isinstance (by decide +kernel) (pa_cons (pv 1) (pa_cons (pe_bltn (v := .ty "bool") (by rfl) T.n_bool (by decide +kernel) rfl) pa_nil))) (pe_one (pe_cmpR op_eq (pv 0) (pv 1) (nomark _))))))) pss_nil)
      (pss_cons (ps_if (PW.pt (pw_or (pt_cmpR op_isN (pv 0) (pe_non) (nomark _)) (pw_or1 (pt_cmpR op_isN (pv 1) (pe_non) (nomark _))))) (pss_one (ps_ret (pe_and (pe_cmpR op_isN (pv 0) (pe_non) (nomark _)) (pe_one (pe_cmpR op_isN (pv 1) (pe_non) (nomark _)))))) pss_nil)
      (pss_cons (ps_if (pt_val (pe_callB call_isi (by rfl) T.n_isinstance (by decide +kernel) (pa_cons (pv 1) (pa_cons (pe_bltn (v := .ty "int") (by rfl) T.n_int (by decide +kernel) rfl) pa_nil)))) (pss_one (ps_ret (pe_and (pe_callB call_isi (by rfl) T.n_isinstance (by decide +kernel) (pa_cons (pv 0) (pa_cons (pe_bltn (v := .ty "int") (by rfl) T.n_int (by decide +kernel) rfl) pa_nil))) (pe_one (pe_cmpR op_eq (pv 0) (pv 1) (nomark _)))))) pss_nil)
      (pss_cons (ps_if (pt_val (pe_callB call_isi (by rfl) T.n_isinstance (by decide +kernel) (pa_cons (pv 1) (pa_cons (pe_bltn (v := .ty "str") (by rfl) T.n_str (by decide +kernel) rfl) pa_nil)))) (pss_one (ps_ret (pe_and (pe_callB call_isi (by rfl) T.n_isinstance (by decide +kernel) (pa_cons (pv 0) (pa_cons (pe_bltn (v := .ty "str") (by rfl) T.n_str (by decide +kernel) rfl) pa_nil))) (pe_one (pe_cmpR op_eq (pv 0) (pv 1) (nomark _)))))) pss_nil)
      (pss_cons (ps_if (PW.pt (pw_and (pt_val (pe_callB call_isi (by rfl) T.n_isinstance (by decide +kernel) (pa_cons (pv 1) (pa_cons (pe_bltn (v := .ty "tuple") (by rfl) T.n_tuple (by decide +kernel) rfl) pa_nil)))) (pw_and1 (pt_not (pt_val (pe_callB call_isi (by rfl) T.n_isinstance (by decide +kernel) (pa_cons (pv 0) (pa_cons (pe_bltn (v := .ty "tuple") (by rfl) T.n_tuple (by decide +kernel) rfl) pa_nil)))))))) (pss_one (ps_ret (pe_bl))) pss_nil)
      (pss_cons (ps_if (PW.pt (pw_and (pt_val (pe_callB call_isi (by rfl) T.n_isinstance (by decide +kernel) (pa_cons (pv 1) (pa_cons (pe_bltn (v := .ty "list") (by rfl) T.n_list (by decide +kernel) rfl) pa_nil)))) (pw_and1 (pt_not (pt_val (pe_callB call_isi (by rfl) T.n_isinstance (by decide +kernel) (pa_cons (pv 0) (pa_cons (pe_bltn (v := .ty "list") (by rfl) T.n_list (by decide +kernel) rfl) pa_nil)))))))) (pss_one (ps_ret (pe_bl))) pss_nil)
      (pss_cons (ps_if (pt_cmpR op_ne (pe_callB call_len_seq (by rfl) T.n_len (by decide +kernel) (pa_cons (pv 0) pa_nil)) (pe_callB call_len_seq (by rfl) T.n_len (by decide +kernel) (pa_cons (pv 1) pa_nil)) (nomark _)) (pss_one (ps_ret (pe_bl))) pss_nil)
      (pss_cons ps_never
      (pss_one (ps_ret (pe_bl))))))))))), ?_⟩
      cases h1 <;> cases h2
      all_goals walk_at "ri"
      all_goals first | (rw [same_no (by intro z; cases z)] at q; exact q) | (rw [same_bl] at q; exact q) | (rw [same_int] at q; exact q) | (rw [same_str] at q; exact q) | (rw [same_non] at q; exact q)
  | n + 1 => by
    refine T.F__law_same.ok sc__law_same (fun vs H Q E h => ?_) (fun cdv A outer s H vs Q E hr h => ?_)
    · obtain ⟨x, v1, v2, d1, d2, rfl, _⟩ := h; rfl
    · obtain ⟨x, v1, v2, d1, d2, rfl, h1, h2, q⟩ := h
      refine ⟨_, (pss_cons (ps_if (PW.pt (pw_or (pt_val (pe_callB call_isi (by rfl) T.n_isinstance (by decide +kernel) (pa_cons (pv 0) (pa_cons (pe_bltn (v := .ty "bool") (by rfl) T.n_bool (by decide +kernel) rfl) pa_nil)))) (pw_or1 (pt_val (pe_callB call_isi (by rfl) T.n_isinstance (by decide +kernel) (pa_cons (pv 1) (pa_cons (pe_bltn (v := .ty "bool") (by rfl) T.n_bool (by decide +kernel) rfl) pa_nil))))))) (pss_one (ps_ret (pe_and (pe_callB call_isi (by rfl) T.n_isinstance (by decide +kernel) (pa_cons (pv 0) (pa_cons (pe_bltn (v := .ty "bool") (by rfl) T.n_bool (by decide +kernel) rfl) pa_nil))) (pe_and (pe_callB call_isi (by rfl) T.n_isinstance (by decide +kernel) (pa_cons (pv 1) (pa_cons (pe_bltn (v := .ty "bool") (by rfl) T.n_bool (by decide +kernel) rfl) pa_nil))) (pe_one (pe_cmpR op_eq (pv 0) (pv 1) (nomark _))))))) pss_nil)
      (pss_cons (ps_if (PW.pt (pw_or (pt_cmpR op_isN (pv 0) (pe_non) (nomark _)) (pw_or1 (pt_cmpR op_isN (pv 1) (pe_non) (nomark _))))) (pss_one (ps_ret (pe_and (pe_cmpR op_isN (pv 0) (pe_non) (nomark _)) (pe_one (pe_cmpR op_isN (pv 1) (pe_non) (nomark _)))))) pss_nil)
      (pss_cons (ps_if (pt_val (pe_callB call_isi (by rfl) T.n_isinstance (by decide +kernel) (pa_cons (pv 1) (pa_cons (pe_bltn (v := .ty "int") (by rfl) T.n_int (by decide +kernel) rfl) pa_nil)))) (pss_one (ps_ret (pe_and (pe_callB call_isi (by rfl) T.n_isinstance (by decide +kernel) (pa_cons (pv 0) (pa_cons (pe_bltn (v := .ty "int") (by rfl) T.n_int (by decide +kernel) rfl) pa_nil))) (pe_one (pe_cmpR op_eq (pv 0) (pv 1) (nomark _)))))) pss_nil)
      (pss_cons (ps_if (pt_val (pe_callB call_isi (by rfl) T.n_isinstance (by decide +kernel) (pa_cons (pv 1) (pa_cons (pe_bltn (v := .ty "str") (by rfl) T.n_str (by decide +kernel) rfl) pa_nil)))) (pss_one (ps_ret (pe_and (pe_callB call_isi (by rfl) T.n_isinstance (by decide +kernel) (pa_cons (pv 0) (pa_cons (pe_bltn (v := .ty "str") (by rfl) T.n_str (by decide +kernel) rfl) pa_nil))) (pe_one (pe_cmpR op_eq (pv 0) (pv 1) (nomark _)))))) pss_nil)
      (pss_cons (ps_if (PW.pt (pw_and (pt_val (pe_callB call_isi (by rfl) T.n_isinstance (by decide +kernel) (pa_cons (pv 1) (pa_cons (pe_bltn (v := .ty "tuple") (by rfl) T.n_tuple (by decide +kernel) rfl) pa_nil)))) (pw_and1 (pt_not (pt_val (pe_callB call_isi (by rfl) T.n_isinstance (by decide +kernel) (pa_cons (pv 0) (pa_cons (pe_bltn (v := .ty "tuple") (by rfl) T.n_tuple (by decide +kernel) rfl) pa_nil)))))))) (pss_one (ps_ret (pe_bl))) pss_nil)
      (pss_cons (ps_if (PW.pt (pw_and (pt_val (pe_callB call_isi (by rfl) T.n_isinstance (by decide +kernel) (pa_cons (pv 1) (pa_cons (pe_bltn (v := .ty "list") (by rfl) T.n_list (by decide +kernel) rfl) pa_nil)))) (pw_and1 (pt_not (pt_val (pe_callB call_isi (by rfl) T.n_isinstance (by decide +kernel) (pa_cons (pv 0) (pa_cons (pe_bltn (v := .ty "list") (by rfl) T.n_list (by decide +kernel) rfl) pa_nil)))))))) (pss_one (ps_ret (pe_bl))) pss_nil)
      (pss_cons (ps_if (pt_cmpR op_ne (pe_callB call_len_seq (by rfl) T.n_len (by decide +kernel) (pa_cons (pv 0) pa_nil)) (pe_callB call_len_seq (by rfl) T.n_len (by decide +kernel) (pa_cons (pv 1) pa_nil)) (nomark _)) (pss_one (ps_ret (pe_bl))) pss_nil)
      (pss_cons (ps_for PassesOwn.never rfl (pi_range1 (by rfl) T.n_range (pa_cons (pe_callB call_len_seq (by rfl) T.n_len (by decide +kernel) (pa_cons (pv 1) pa_nil)) pa_nil)) (pg_name (i := 2) sc__law_same.nd rfl (.inl rfl)) (pss_one (ps_if (pt_not (pt_val (pe_call (ok__law_same T n) (hr.mono (by omega)) (by rfl) T.g__law_same T.F__law_same.kp T.b__law_same .nil pass0 (pa_cons (pe_ix ix_seq (pv 0) (pv 2) (fun _ _ => rfl)) (pa_cons (pe_ix ix_seq (pv 1) (pv 2) (fun _ _ => rfl)) pa_nil))))) (pss_one (ps_ret (pe_bl))) pss_nil)))
      (pss_one (ps_ret (pe_bl))))))))))), ?_⟩
      rcases h1 with h1 | ⟨a1, xs1, ds1, rfl, rfl, h1, z1, p1⟩ | ⟨a1, xs1, ds1, rfl, rfl, h1, z1, p1⟩ <;> rcases h2 with h2 | ⟨a2, xs2, ds2, rfl, rfl, h2, z2, p2⟩ | ⟨a2, xs2, ds2, rfl, rfl, h2, z2, p2⟩
      · cases h1 <;> cases h2
        all_goals walk_at "ri"
        all_goals first | (rw [same_no (by intro z; cases z)] at q; exact q) | (rw [same_bl] at q; exact q) | (rw [same_int] at q; exact q) | (rw [same_str] at q; exact q) | (rw [same_non] at q; exact q)
      · have t2 := h2.sq
        cases h1
        all_goals (walk_at "ri"; rw [same_no (by intro z; cases z)] at q; exact q)
      · have t2 := h2.sq
        cases h1
        all_goals (walk_at "ri"; rw [same_no (by intro z; cases z)] at q; exact q)
      · have t1 := h1.sq
        cases h2
        all_goals (walk_at "ri"; rw [same_no (by intro z; cases z)] at q; exact q)
      · have t1 := h1.sq
        have t2 := h2.sq
        walk_at "ri"
        refine ⟨_, _, rfl, .inl t1, _, rfl, _, _, rfl, .inl t2, rfl, _, rfl, ?_⟩
        have l1 := pair_len p1
        have l2 := pair_len p2
        refine iteN (fun c => ?_) (fun c => ?_)
        · rw [same_no (by intro z; cases z; exact c (by rw [l1, l2]))] at q; exact q
        have c' : xs1.length = xs2.length := by have := V.int.inj c; omega
        refine ⟨_, rfl, _, _, rfl, .inl t2, _, rfl, by omega, by omega, for_range (lo := 0) (n := _) (fun j σ H' => ∃ x2, σ = [some (.ref a1), some (.ref a2), x2] ∧ H' = H ∧ ds1.take j = ds2.take j) ⟨_, rfl, rfl, rfl⟩ ?_ ?_⟩
        · rintro j σ H1 hj ⟨x2, rfl, rfl, et⟩
          have j2 : j < xs2.length := by omega
          have j1 : j < xs1.length := by omega
          obtain ⟨e1, g1, r1⟩ := pair_get p1 (List.getElem?_eq_getElem j1)
          obtain ⟨e2, g2, r2⟩ := pair_get p2 (List.getElem?_eq_getElem j2)
          refine ⟨_, rfl, _, rfl, .inl ⟨_, _, _, _, rfl, rfl, t1, at_of (j := j) (by omega) (List.getElem?_eq_getElem j1), ?_⟩⟩
          refine ⟨_, rfl, _, rfl, .inl ⟨_, _, _, _, rfl, rfl, t2, at_of (j := j) (by omega) (List.getElem?_eq_getElem j2), ?_⟩⟩
          refine ⟨x, _, _, e1, e2, rfl, r1, r2, _, rfl, ?_⟩
          refine iteB (fun b => ?_) (fun b => ?_)
          · have ne : e1 ≠ e2 := fun h => by rw [same_yes h] at b; cases b
            rw [same_no (by intro z; cases z; rw [g1] at g2; exact ne (Option.some.inj g2))] at q; exact q
          · have ee : e1 = e2 := by
              apply same_iff.mp
              cases h : sameD e1 e2 with
              | true => rfl
              | false => rw [h] at b; cases b
            subst ee
            exact ⟨_, rfl, rfl, by rw [List.take_add_one, List.take_add_one, et, g1, g2]⟩
        · rintro σ H1 ⟨x2, rfl, rfl, et⟩
          have ed : ds1 = ds2 := by
            rw [List.take_of_length_le (by omega), List.take_of_length_le (by omega)] at et
            exact et
          subst ed
          rw [same_yes rfl] at q; exact q
      · have t1 := h1.sq
        have t2 := h2.sq
        walk_at "ri"
        rw [same_no (by intro z; cases z)] at q; exact q
      · have t1 := h1.sq
        cases h2
        all_goals (walk_at "ri"; rw [same_no (by intro z; cases z)] at q; exact q)
      · have t1 := h1.sq
        have t2 := h2.sq
        walk_at "ri"
        rw [same_no (by intro z; cases z)] at q; exact q
      · have t1 := h1.sq
        have t2 := h2.sq
        walk_at "ri"
        refine ⟨_, _, rfl, .inr t1, _, rfl, _, _, rfl, .inr t2, rfl, _, rfl, ?_⟩
        have l1 := pair_len p1
        have l2 := pair_len p2
        refine iteN (fun c => ?_) (fun c => ?_)
        · rw [same_no (by intro z; cases z; exact c (by rw [l1, l2]))] at q; exact q
        have c' : xs1.length = xs2.length := by have := V.int.inj c; omega
        refine ⟨_, rfl, _, _, rfl, .inr t2, _, rfl, by omega, by omega, for_range (lo := 0) (n := _) (fun j σ H' => ∃ x2, σ = [some (.ref a1), some (.ref a2), x2] ∧ H' = H ∧ ds1.take j = ds2.take j) ⟨_, rfl, rfl, rfl⟩ ?_ ?_⟩
        · rintro j σ H1 hj ⟨x2, rfl, rfl, et⟩
          have j2 : j < xs2.length := by omega
          have j1 : j < xs1.length := by omega
          obtain ⟨e1, g1, r1⟩ := pair_get p1 (List.getElem?_eq_getElem j1)
          obtain ⟨e2, g2, r2⟩ := pair_get p2 (List.getElem?_eq_getElem j2)
          refine ⟨_, rfl, _, rfl, .inr (.inl ⟨_, _, _, _, rfl, rfl, t1, at_of (j := j) (by omega) (List.getElem?_eq_getElem j1), ?_⟩)⟩
          refine ⟨_, rfl, _, rfl, .inr (.inl ⟨_, _, _, _, rfl, rfl, t2, at_of (j := j) (by omega) (List.getElem?_eq_getElem j2), ?_⟩)⟩
          refine ⟨x, _, _, e1, e2, rfl, r1, r2, _, rfl, ?_⟩
          refine iteB (fun b => ?_) (fun b => ?_)
          · have ne : e1 ≠ e2 := fun h => by rw [same_yes h] at b; cases b
            rw [same_no (by intro z; cases z; rw [g1] at g2; exact ne (Option.some.inj g2))] at q; exact q
          · have ee : e1 = e2 := by
              apply same_iff.mp
              cases h : sameD e1 e2 with
              | true => rfl
              | false => rw [h] at b; cases b
            subst ee
            exact ⟨_, rfl, rfl, by rw [List.take_add_one, List.take_add_one, et, g1, g2]⟩
        · rintro σ H1 ⟨x2, rfl, rfl, et⟩
          have ed : ds1 = ds2 := by
            rw [List.take_of_length_le (by omega), List.take_of_length_le (by omega)] at et
            exact et
          subst ed
          rw [same_yes rfl] at q; exact q
end
theorem nsame {d : PyData} : (!sameD d d) = false := by rw [same_yes rfl]; rfl
end My

namespace My
open PySem L2
/-! ### lists of ints: in, flat; slices -/
theorem flat_ints (ns : List Int) : (ns.map V.int).all flatV = true := by
  rw [List.all_eq_true]
  intro v h
  obtain ⟨n, _, rfl⟩ := List.mem_map.mp h
  rfl
theorem in_ints (n : Int) (ns : List Int) : inV (.int n) (ns.map V.int) = decide (n ∈ ns) := by
  unfold inV
  rw [List.any_map, Bool.eq_iff_iff, List.any_eq_true, decide_eq_true_iff]
  constructor
  · rintro ⟨m, h, e⟩
    have e : (m == n) = true := e
    rw [← beq_iff_eq.mp e]; exact h
  · intro h
    exact ⟨n, h, by show (n == n) = true; simp⟩
theorem cut_to (xs : List V) (n : Nat) : cutV xs none (some (n : Int)) = xs.take n := by
  unfold cutV HT.sIx
  simp only [List.drop_zero, Nat.sub_zero]
  have h0 : ¬ (n : Int) < 0 := by omega
  simp only [h0, if_false]
  by_cases h : n ≤ xs.length
  · congr 1
    omega
  · rw [List.take_of_length_le (by omega), List.take_of_length_le (by omega)]
theorem cut_from (xs : List V) (n : Nat) : cutV xs (some (n : Int)) none = xs.drop n := by
  unfold cutV HT.sIx
  have h0 : ¬ (n : Int) < 0 := by omega
  simp only [h0, if_false]
  by_cases h : n ≤ xs.length
  · rw [List.take_of_length_le (by rw [List.length_drop]; omega)]
    congr 1
    omega
  · rw [List.drop_eq_nil_of_le (by omega), List.drop_eq_nil_of_le (by omega), List.take_nil]
end My

namespace My
open PySem L2
/-! ### shapes: rows -/
structure Row where
  mark : Str
  pars : List Str
  least : Int
  most : Int
  sh : Bool
  deriving DecidableEq
def isMk (t : Str) : Bool := decide (1 ≤ t.length ∧ t.length ≤ 8) && (TL.tl t).all fun c => decide (97 ≤ c ∧ c ≤ 122)
def spMark : Sp := fun vs H Q _ => ∃ (z : Str), vs = [.str z] ∧ z.length ≤ 90000 ∧ Q (.bl (isMk z)) H
theorem letter_mem {c : Nat} : c ∈ ("abcdefghijklmnopqrstuvwxyz" : Str).cps.toList ↔ 97 ≤ c ∧ c ≤ 122 := by
  rw [show ("abcdefghijklmnopqrstuvwxyz" : Str).cps.toList = [97, 98, 99, 100, 101, 102, 103, 104, 105, 106, 107, 108, 109, 110, 111, 112, 113, 114, 115, 116, 117, 118, 119, 120, 121, 122] by decide +kernel]
  simp only [List.mem_cons, List.not_mem_nil, or_false]
  omega
section
variable {w : World} {K : PySem.W.Frag} {mg : Str → Option Value} {base : Heap}
theorem ok_is_mark (T : Txt K mg) : FnOk PP w K mg base CX0 1 T.a_is_mark T.fd_is_mark ["text"] spMark := by
  refine T.F_is_mark.ok sc_is_mark (fun vs H Q E h => ?_) (fun cdv A outer s H vs Q E hr h => ?_)
  · obtain ⟨z, rfl, _⟩ := h; rfl
  · obtain ⟨z, rfl, hz, q⟩ := h
    refine ⟨_, (pss_cons (ps_if (pt_not (pt_chain op_le op_le (pe_int) (pe_callB call_len_str (by rfl) T.n_len (by decide +kernel) (pa_cons (pv 0) pa_nil)) (pe_int))) (pss_one (ps_ret (pe_bl))) pss_nil)
      (pss_cons (ps_for PassesOwn.never rfl (pi_str (pv 0)) (pg_name (i := 1) sc_is_mark.nd rfl (.inl rfl)) (pss_one (ps_if (pt_cmpR op_notInS (pv 1) (pe_glob (v := .str "abcdefghijklmnopqrstuvwxyz") (by rfl) T.g_LETTERS ⟨_, rfl⟩) (by with_unfolding_all rfl)) (pss_one (ps_ret (pe_bl))) pss_nil)))
      (pss_one (ps_ret (pe_bl))))), ?_⟩
    have big : 90000 < sizeLine := by decide
    by_cases k1 : 1 ≤ z.length
    case neg =>
      rw [show isMk z = false by unfold isMk; rw [decide_eq_false (by omega)]; rfl] at q
      exact ⟨_, rfl, z, rfl, by omega, _, _, rfl, rfl, _, rfl, iteNo (decide_eq_false (by omega)) ⟨_, rfl, iteYes rfl q⟩⟩
    refine ⟨_, rfl, z, rfl, by omega, _, _, rfl, rfl, _, rfl, iteYes (decide_eq_true (by omega)) ⟨_, _, rfl, rfl, _, rfl, ?_⟩⟩
    by_cases k9 : z.length ≤ 8
    case neg =>
      rw [show isMk z = false by unfold isMk; rw [decide_eq_false (by omega)]; rfl] at q
      exact iteYes (by rw [decide_eq_false (by omega)]; rfl) q
    refine iteNo (by rw [decide_eq_true (by omega)]; rfl) ?_
    refine ⟨_, rfl, z, rfl, for_str (z := z) (fun i σ H' => ∃ x1, H' = H ∧ σ = [some (.str z), x1] ∧ ∀ j, j < i → ∀ c, (TL.tl z)[j]? = some c → 97 ≤ c ∧ c ≤ 122) ⟨_, rfl, rfl, fun j hj => absurd hj (Nat.not_lt_zero _)⟩ ?_ ?_⟩
    · rintro i c σ H' hc ⟨x1, rfl, rfl, hp⟩
      refine ⟨_, rfl, c, _, rfl, rfl, _, rfl, iteN (fun h => ?_) (fun h => ?_)⟩
      · rw [show isMk z = false by
          unfold isMk
          rw [List.all_eq_false.mpr ⟨c, List.mem_of_getElem? hc, by simpa using fun a => Nat.lt_of_not_le fun b => h (letter_mem.mpr ⟨a, b⟩)⟩, Bool.and_false]] at q
        exact q
      · refine ⟨_, rfl, rfl, fun j hj c' hc' => ?_⟩
        by_cases e : j = i
        · subst e
          rw [hc] at hc'
          exact Option.some.inj hc' ▸ letter_mem.mp h
        · exact hp j (by omega) c' hc'
    · rintro σ H' ⟨x1, rfl, rfl, hp⟩
      rw [show isMk z = true by
        unfold isMk
        rw [decide_eq_true ⟨k1, k9⟩, Bool.true_and, List.all_eq_true]
        intro c hc
        obtain ⟨j, hj, e⟩ := List.getElem_of_mem hc
        exact decide_eq_true (hp j (by rw [TL.len_tl]; exact hj) c (by rw [List.getElem?_eq_getElem hj, e]))] at q
      exact q
end
end My

namespace My
open PySem L2
def rowL (r : Row) (pp : Addr) : List V := [.str r.mark, .ref pp, .int r.least, .int r.most, .bl r.sh]
/-- a row as it is handed over: lists or tuples -/
def RowV (H : Hp) (v : V) (r : Row) : Prop := ∃ p pp, v = .ref p ∧ (H p = some (.tup (rowL r pp)) ∨ H p = some (.lst (rowL r pp))) ∧ (H pp = some (.tup (r.pars.map V.str)) ∨ H pp = some (.lst (r.pars.map V.str)))
/-- a row as it is kept -/
def RowT (H : Hp) (v : V) (r : Row) : Prop := ∃ p pp, v = .ref p ∧ H p = some (.tup (rowL r pp)) ∧ H pp = some (.tup (r.pars.map V.str))
def small (r : Row) : Prop := r.mark.length ≤ 1000 ∧ r.pars.length ≤ 100
def sizeB (r : Row) : Bool := decide (0 ≤ r.least) && (decide (r.least ≤ r.most) && decide (r.most ≤ 4))
def fineB (r : Row) (bs : List Str) : Bool := (isMk r.mark && (!decide (r.mark ∈ bs) && sizeB r)) && (decide (0 < r.most) == decide (0 < r.pars.length)) && decide r.pars.Nodup
def spRow (X : Addr) : Sp := fun vs H Q E => ∃ (v : V) (b : Addr) (r : Row) (bs : List Str), vs = [v, .ref b] ∧ RowV H v r ∧ H b = some (.lst (bs.map V.str)) ∧ small r ∧
  (fineB r bs = true → ∀ p pp H', Same H H' → H p = none → H' p = some (.tup (rowL r pp)) → H' pp = some (.tup (r.pars.map V.str)) → Q (.ref p) H') ∧
  (fineB r bs = false → ∀ H' d, Same H H' → H d = none → H' d = some (.xd [("mark", .str r.mark)]) → E (.ref X) (some d) H')
theorem flat_strs (ns : List Str) : (ns.map V.str).all flatV = true := by
  rw [List.all_eq_true]
  intro v h
  obtain ⟨n, _, rfl⟩ := List.mem_map.mp h
  rfl
theorem in_strs (n : Str) (ns : List Str) : inV (.str n) (ns.map V.str) = decide (n ∈ ns) := by
  unfold inV
  rw [List.any_map, Bool.eq_iff_iff, List.any_eq_true, decide_eq_true_iff]
  constructor
  · rintro ⟨m, h, e⟩
    have e : (m == n) = true := e
    rw [← beq_iff_eq.mp e]; exact h
  · intro h
    exact ⟨n, h, by show (n == n) = true; simp⟩
theorem nodup_take_succ {xs : List Str} {i : Nat} {y : Str} (h : xs[i]? = some y) : (xs.take (i + 1)).Nodup ↔ (xs.take i).Nodup ∧ y ∉ xs.take i := by
  rw [List.take_succ, h, Option.toList_some, List.nodup_append]
  constructor
  · rintro ⟨a, _, b⟩
    exact ⟨a, fun m => b y m y (List.mem_singleton.mpr rfl) rfl⟩
  · rintro ⟨a, b⟩
    refine ⟨a, List.nodup_cons.mpr ⟨List.not_mem_nil, List.nodup_nil⟩, fun x hx z hz e => b ?_⟩
    rw [List.mem_singleton.mp hz] at e
    exact e ▸ hx
section
variable {w : World} {K : PySem.W.Frag} {mg : Str → Option Value} {base : Heap}
theorem ok_sound_row (T : Txt K mg) : FnOk PP w K mg base (L2.CX PP w) 3 T.a_sound_row T.fd_sound_row ["row", "before"] (spRow T.c_BadShape) := by
  refine T.F_sound_row.okX sc_sound_row (fun vs H Q E h => ?_) (fun cdv A outer s H vs Q E hr h => ?_)
  · obtain ⟨v, b, r, bs, rfl, _⟩ := h; rfl
  · obtain ⟨v, b, r, bs, rfl, ⟨p, pp, rfl, hp, hpp⟩, hb, hz, q, qb⟩ := h
    refine ⟨_, (pss_cons (ps_asg (pv 0) (pg_seq rfl (pgs_cons (pg_name (i := 2) sc_sound_row.nd rfl (.inl rfl)) (pgs_cons (pg_name (i := 3) sc_sound_row.nd rfl (.inl rfl)) (pgs_cons (pg_name (i := 4) sc_sound_row.nd rfl (.inl rfl)) (pgs_cons (pg_name (i := 5) sc_sound_row.nd rfl (.inl rfl)) (pgs_cons (pg_name (i := 6) sc_sound_row.nd rfl (.inl rfl)) pgs_nil)))))))
      (C8.pss_cut (ps_set (i := 3) sc_sound_row.nd rfl (.inl rfl) (pe_callTy call_tuple_of (by rfl) T.n_tuple (by decide +kernel) (pa_cons (pv 3) pa_nil)))
      (C8.pss_cut (ps_set (i := 7) sc_sound_row.nd rfl (.inl rfl) (pe_and (pe_call (ok_is_mark T) (hr.mono (by omega)) (by rfl) T.g_is_mark T.F_is_mark.kp T.b_is_mark .nil pass0 (pa_cons (pv 2) pa_nil)) (pe_and (pe_cmpR op_notIn_seq (pv 2) (pv 1) (by with_unfolding_all rfl)) (pe_one (pe_chain3 op_le op_le op_le (pe_int) (pv 4) (pv 5) (ClX.pe_cval (pe_glob (v := .ref T.c_Shape) (by rfl) T.g_Shape rfl)))))))
      (C8.pss_cut (ps_if (PW.pt (pw_and (pt_val (pv 7)) (pw_and1 (pt_cmpR op_ne (pe_cmpR op_gt (pv 5) (pe_int) (nomark _)) (pe_cmpR op_gt (pe_callB call_len_seq (by rfl) T.n_len (by decide +kernel) (pa_cons (pv 3) pa_nil)) (pe_int) (nomark _)) (nomark _))))) (pss_one (ps_set (i := 7) sc_sound_row.nd rfl (.inl rfl) (pe_bl))) pss_nil)
      (pss_cons (ps_for (passes_of rfl) rfl (pi_enumT (by rfl) T.n_enumerate (pa_cons (pv 3) pa_nil)) (pg_tup rfl (pgs_cons (pg_name (i := 8) sc_sound_row.nd rfl (.inl rfl)) (pgs_cons (pg_name (i := 9) sc_sound_row.nd rfl (.inl rfl)) pgs_nil))) (pss_one (ps_if (pt_cmpR op_in_seq (pv 9) (pe_slice sl_tup (pv 3) po_none (po_some (pv 8))) (by with_unfolding_all rfl)) (pss_one (ps_set (i := 7) sc_sound_row.nd rfl (.inl rfl) (pe_bl))) pss_nil)))
      (pss_cons (ps_if (pt_not (pt_val (pv 7))) (pss_one (ps_raiseX rfl T.x_BadShape hr (takes_of rfl rfl rfl rfl) (pa_cons (pv 2) pa_nil))) pss_nil)
      (pss_one (ps_ret (pe_tup (pa_cons (pv 2) (pa_cons (pv 3) (pa_cons (pv 4) (pa_cons (pv 5) (pa_cons (pv 6) pa_nil)))))))))))))), ?_⟩
    have big : 90000 < sizeLine := by decide
    refine ⟨_, rfl, gSeq_of hp rfl ⟨_, _, rfl, _, _, rfl, _, _, rfl, _, _, rfl, _, _, rfl, rfl, ?_⟩⟩
    have lm := hz.1
    have lp := hz.2
    -- parents = tuple(parents)
    refine ⟨fun σ' H' => ∃ pq, σ' = [some (.ref p), some (.ref b), some (.str r.mark), some (.ref pq), some (.int r.least), some (.int r.most), some (.bl r.sh), none, none, none] ∧ Same H H' ∧ H' pq = some (.tup (r.pars.map V.str)), ?_, ?_⟩
    · rcases hpp with hpp | hpp
      · exact ⟨_, rfl, pp, _, rfl, .inr ⟨SqT.of hpp, pp, rfl, fun _ _ h => h, hpp⟩⟩
      · exact ⟨_, rfl, pp, _, rfl, .inl ⟨SqL.of hpp, fun l hl => ⟨l, rfl, same_new hl, upd_same⟩⟩⟩
    rintro σ' H1 ⟨pq, rfl, s1, hq⟩
    -- good
    refine ⟨fun σ' H' => H' = H1 ∧ σ' = [some (.ref p), some (.ref b), some (.str r.mark), some (.ref pq), some (.int r.least), some (.int r.most), some (.bl r.sh), some (.bl (isMk r.mark && (!decide (r.mark ∈ bs) && sizeB r))), none, none], ?_, ?_⟩
    · refine ⟨_, rfl, r.mark, rfl, by omega, ?_⟩
      refine ⟨_, rfl, ?_⟩
      cases isMk r.mark with
      | false => exact iteF ⟨rfl, rfl⟩
      | true =>
        refine iteT ⟨_, rfl, _, rfl, _, _, rfl, .inl (SqL.of (s1 _ _ hb)), rfl, flat_strs bs, ?_⟩
        rw [in_strs]
        refine ⟨_, rfl, ?_⟩
        by_cases hm : r.mark ∈ bs
        · refine iteNo (by simp [hm]) ⟨rfl, ?_⟩
          rw [show (true && (!decide (r.mark ∈ bs) && sizeB r)) = false by simp [hm]]
          rfl
        · refine iteYes (by simp [hm]) ⟨_, rfl, _, _, rfl, rfl, _, rfl, iteD (fun c1 => ?_) (fun c1 => ?_)⟩
          · refine ⟨_, rfl, _, _, rfl, rfl, _, rfl, iteD (fun c2 => ?_) (fun c2 => ?_)⟩
            · refine ⟨_, _, _, _, rfl, T.cr_Shape, T.cv_Shape_PARENTS, _, _, rfl, rfl, rfl, ?_⟩
              rw [show (true && (!decide (r.mark ∈ bs) && sizeB r)) = decide (r.most ≤ 4) by simp [hm, sizeB, c1, c2]]
              rfl
            · refine ⟨rfl, ?_⟩
              rw [show (true && (!decide (r.mark ∈ bs) && sizeB r)) = false by simp [hm, sizeB, c2]]
              rfl
          · refine ⟨rfl, ?_⟩
            rw [show (true && (!decide (r.mark ∈ bs) && sizeB r)) = false by simp [hm, sizeB, c1]]
            rfl
    rintro σ' H' ⟨rfl, rfl⟩
    generalize hg0 : (isMk r.mark && (!decide (r.mark ∈ bs) && sizeB r)) = g0
    -- parents and the greatest number
    refine ⟨fun σ' H1 => H1 = H' ∧ σ' = [some (.ref p), some (.ref b), some (.str r.mark), some (.ref pq), some (.int r.least), some (.int r.most), some (.bl r.sh), some (.bl (g0 && (decide (0 < r.most) == decide (0 < r.pars.length)))), none, none], ?_, ?_⟩
    · refine ⟨_, rfl, _, rfl, ?_⟩
      cases g0 with
      | false => exact iteF ⟨rfl, rfl⟩
      | true =>
        refine iteT ⟨_, rfl, _, _, rfl, rfl, _, rfl, pq, _, rfl, .inr (SqT.of hq), _, _, rfl, rfl, rfl, _, rfl, ?_⟩
        rw [List.length_map]
        have hz : decide ((0 : Int) < ((r.pars.length : Nat) : Int)) = decide (0 < r.pars.length) := decide_eq_decide.mpr (by omega)
        refine iteN (fun e => ?_) (fun e => ?_)
        · refine ⟨rfl, ?_⟩
          have e : decide (0 < r.most) ≠ decide (0 < r.pars.length) := fun z => e (congrArg V.bl (z.trans hz.symm))
          rw [show (true && (decide (0 < r.most) == decide (0 < r.pars.length))) = false by simpa using e]
          rfl
        · refine ⟨rfl, ?_⟩
          have e : decide (0 < r.most) = decide (0 < r.pars.length) := (V.bl.inj e).trans hz
          rw [e]; simp
    rintro σ' H1 ⟨rfl, rfl⟩
    generalize hg1 : (g0 && (decide (0 < r.most) == decide (0 < r.pars.length))) = g1
    refine ⟨_, rfl, pq, _, rfl, SqT.of hq, for_enumT (K := K) (a := pq) (xs := r.pars.map V.str) (fun i σ' H2 => ∃ x8 x9, Same H1 H2 ∧ σ' = [some (.ref p), some (.ref b), some (.str r.mark), some (.ref pq), some (.int r.least), some (.int r.most), some (.bl r.sh), some (.bl (g1 && decide (r.pars.take i).Nodup)), x8, x9])
      ⟨_, _, fun _ _ h => h, by rw [List.take_zero, decide_eq_true List.nodup_nil, Bool.and_true]⟩ (fun i σ' H2 _ ⟨_, _, s2, _⟩ => SqT.of (s2 _ _ hq)) ?_ ?_⟩
    · rintro i v σ' H2 Tt hv ⟨x8, x9, s2, rfl⟩ hTt
      obtain ⟨y, hy, rfl⟩ : ∃ y, r.pars[i]? = some y ∧ v = .str y := by
        rw [List.getElem?_map] at hv
        cases e : r.pars[i]? with
        | none => rw [e] at hv; cases hv
        | some y => rw [e] at hv; exact ⟨y, rfl, (Option.some.inj hv).symm⟩
      have s3 := s2.trans (same_new (o := .tup [.int (i : Nat), .str y]) hTt)
      have hi : i < r.pars.length := (List.getElem?_eq_some_iff.mp hy).1
      have hpq : (L2.upd H2 Tt (.tup [.int (i : Nat), .str y])) pq = some (.tup (r.pars.map V.str)) := s3 _ _ hq
      refine ⟨Tt, _, rfl, .inl (.inl upd_same), rfl, _, _, rfl, _, _, rfl, rfl, ?_⟩
      refine ⟨_, rfl, _, rfl, _, rfl, _, rfl, pq, _, rfl, SqT.of hpq, ?_, fun c hc => ?_⟩
      · rw [HT.sIx_nat, List.length_map, Nat.min_eq_left (Nat.le_of_lt hi)]
        exact fun h => absurd h.2 (by omega)
      · have ct : cutV (r.pars.map V.str) none (some ((i : Nat) : Int)) = (r.pars.take i).map V.str := by rw [cut_to, List.map_take]
        refine ⟨_, _, rfl, .inr (SqT.of upd_same), rfl, by rw [ct]; exact flat_strs _, ?_⟩
        rw [ct, in_strs]
        refine ⟨_, rfl, iteD (fun k => ?_) (fun k => ?_)⟩
        · refine ⟨some (.int (i : Nat)), some (.str y), s3.trans (same_new hc), ?_⟩
          rw [decide_eq_false (p := (r.pars.take (i + 1)).Nodup) (fun n => ((nodup_take_succ hy).mp n).2 k), Bool.and_false]
          rfl
        · refine ⟨some (.int (i : Nat)), some (.str y), s3.trans (same_new hc), ?_⟩
          rw [show decide (r.pars.take (i + 1)).Nodup = decide (r.pars.take i).Nodup from decide_eq_decide.mpr ⟨fun n => ((nodup_take_succ hy).mp n).1, fun n => (nodup_take_succ hy).mpr ⟨n, k⟩⟩]
          rfl
    rintro σ' H2 ⟨x8, x9, s2, rfl⟩
    rw [List.length_map, List.take_length]
    have ef : fineB r bs = (g1 && decide r.pars.Nodup) := by unfold fineB; rw [hg0, hg1]
    have t2 := s1.trans s2
    refine ⟨_, rfl, _, rfl, ?_⟩
    rw [← ef]
    cases hf : fineB r bs with
    | false =>
      refine iteYes rfl ⟨_, rfl, _, rfl, fun d hd => ?_⟩
      exact qb hf _ d (t2.trans (same_new hd)) (t2.free hd) upd_same
    | true =>
      refine iteNo rfl ⟨_, rfl, _, rfl, _, rfl, _, rfl, _, rfl, by show 5 ≤ sizeLine; decide, fun z hz' => ?_⟩
      exact q hf z pq _ (t2.trans (same_new hz')) (t2.free hz') upd_same (same_new hz' _ _ (s2 _ _ hq))
end
end My

namespace My
open PySem L2
/-! ### marks that webs can contain -/
inductive Fert (rs : List Row) : Str → Prop
  | base {r : Row} : r ∈ rs → r.least = 0 → Fert rs r.mark
  | step {r : Row} {p : Str} : r ∈ rs → p ∈ r.pars → Fert rs p → Fert rs r.mark
abbrev RowsT (H : Hp) (vs : List V) (rs : List Row) : Prop := Paired (RowT H) vs rs
theorem RowT.same {H H' : Hp} {v : V} {r : Row} (h : RowT H v r) (s : Same H H') : RowT H' v r := let ⟨p, pp, e, a, b⟩ := h; ⟨p, pp, e, s _ _ a, s _ _ b⟩
theorem rowsT_same {H H' : Hp} {vs : List V} {rs : List Row} (h : RowsT H vs rs) (s : Same H H') : RowsT H' vs rs := L2.Paired.mapP h fun _ _ x => x.same s
theorem pair_get' {α β : Type} {F : α → β → Prop} : ∀ {l : List α} {m : List β} {i : Nat} {x : α}, Paired F l m → l[i]? = some x → ∃ y, m[i]? = some y ∧ F x y
  | _, _, _, _, .nil, e => by simp at e
  | _, _, 0, _, .cons r _, e => by simp at e; subst e; exact ⟨_, rfl, r⟩
  | _, _, i + 1, x, .cons _ t, e => by
    obtain ⟨y, h1, h2⟩ := pair_get' (i := i) (x := x) t (by simpa using e)
    exact ⟨y, by simpa using h1, h2⟩
theorem pair_len' {α β : Type} {F : α → β → Prop} : ∀ {l : List α} {m : List β}, Paired F l m → l.length = m.length
  | _, _, .nil => rfl
  | _, _, .cons _ t => by rw [List.length_cons, List.length_cons, pair_len' t]
/-- the first mark that no web can contain -/
inductive Lost (rs : List Row) : V → Prop
  | no : (∀ r ∈ rs, Fert rs r.mark) → Lost rs .non
  | yes {i : Nat} {r : Row} : rs[i]? = some r → (∀ q ∈ rs.take i, Fert rs q.mark) → ¬ Fert rs r.mark → Lost rs (.str r.mark)
def spBarren (K : PySem.W.Frag) : Sp := fun vs H Q _ => ∃ (a : Addr) (us : List V) (rs : List Row), vs = [.ref a] ∧ H a = some (.lst us) ∧ RowsT H us rs ∧ rs.length ≤ 100 ∧ (∀ r ∈ rs, small r) ∧
  ∀ v H', Same H H' → Lost rs v → Q v H'
def knB (kvs : List (Key × V)) (m : Str) : Bool := (valV kvs (.inr m)).isSome
theorem knB_put {kvs : List (Key × V)} {m n : Str} {v : V} : knB (putK kvs (.inr m) v) n = (decide (n = m) || knB kvs n) := by
  unfold knB
  rw [valV_put]
  by_cases e : n = m
  · subst e; simp
  · rw [if_neg (fun c => e (Sum.inr.inj c))]; simp [e]
def ripeB (kvs : List (Key × V)) (r : Row) : Bool := decide (r.least = 0) || r.pars.any (knB kvs)
/-- rows whose marks are not known -/
def restOf (kvs : List (Key × V)) (rs : List Row) : Nat := (rs.filter fun r => !knB kvs r.mark).length
theorem flt_lt {α : Type} {f g : α → Bool} {x : α} : ∀ {l : List α}, (∀ y ∈ l, f y = true → g y = true) → x ∈ l → f x = false → g x = true → (l.filter f).length < (l.filter g).length
  | [], _, h, _, _ => by cases h
  | a :: l, i, h, hf, hg => by
    have le : ∀ {l : List α}, (∀ y ∈ l, f y = true → g y = true) → (l.filter f).length ≤ (l.filter g).length := by
      intro l
      induction l with
      | nil => intro _; exact Nat.le_refl _
      | cons a l ih =>
        intro i
        have ih := ih fun y hy => i y (List.mem_cons_of_mem _ hy)
        have ia := i a (List.mem_cons_self ..)
        simp only [List.filter_cons]
        cases e : f a with
        | false => cases g a <;> simp <;> omega
        | true => rw [ia e]; simp; exact ih
    have il := fun y hy => i y (List.mem_cons_of_mem _ hy)
    simp only [List.filter_cons]
    rcases List.mem_cons.mp h with rfl | h
    · rw [hf, hg]
      simp only [Bool.false_eq_true, if_false, if_true, List.length_cons]
      exact Nat.lt_succ_of_le (le il)
    · have := flt_lt il h hf hg
      have ia := i a (List.mem_cons_self ..)
      cases e : f a with
      | false => cases g a <;> simp <;> omega
      | true => rw [ia e]; simp; exact this
theorem rest_put {kvs : List (Key × V)} {rs : List Row} {r : Row} {v : V} (h : r ∈ rs) (n : knB kvs r.mark = false) : restOf (putK kvs (.inr r.mark) v) rs < restOf kvs rs := by
  refine flt_lt (x := r) (fun y _ e => ?_) h ?_ ?_
  · rw [knB_put] at e
    cases k : knB kvs y.mark with
    | false => rfl
    | true => rw [k, Bool.or_true] at e; cases e
  · rw [knB_put]; simp
  · rw [n]; rfl
section
variable {K : PySem.W.Frag}
theorem any_kn {x0 x2 x3 x5 x6 x7 x8 : Option V} {d pp : Addr} {ps : List Str} {kvs : List (Key × V)} {H : Hp} {Q : VK} (hd : H d = some (.dK kvs)) (hp : H pp = some (.tup (ps.map V.str))) (hz : ps.length ≤ 1000) (q : ∀ H', Same H H' → Q (.bl (ps.any (knB kvs))) H') :
    tCB (rAny K) (tCons (tLc (iTup K (tVar 4)) (gName 7) tYes (tOp (rInKd false) (tVar 7) (tVar 1)) [7]) tNil) [x0, some (.ref d), x2, x3, some (.ref pp), x5, x6, x7, x8] H Q := by
  have big : 1000 < sizeLine := by decide
  refine ⟨_, rfl, pp, rfl, ⟨_, SqT.of hp⟩, fun D hD => lc_tup (K := K) (a := pp) (xs := ps.map V.str) (fun i H' => Same H H' ∧ H' D = some (.lst ((ps.take i).map fun y => V.bl (knB kvs y)))) ⟨same_new hD, upd_same⟩ (fun i H' _ h => SqT.of (h.1 _ _ hp)) ?_ ?_⟩
  · rintro i v H1 hv ⟨s1, hD1⟩
    rw [List.getElem?_map] at hv
    cases e : ps[i]? with
    | none => rw [e] at hv; cases hv
    | some y1 =>
      rw [e] at hv
      obtain rfl : V.str y1 = v := Option.some.inj hv
      refine ⟨rfl, ?_⟩
      unfold tYes
      refine iteT ⟨_, rfl, _, rfl, d, _, rfl, DGet.k (k := .inr y1) (s1 _ _ hd), _, hD1, ?_, same_mut s1 hD, ?_⟩
      · rw [List.length_map, List.length_take]; omega
      · rw [upd_same, List.take_succ, e]
        simp [knB]
  · rintro H1 ⟨s1, hD1⟩
    rw [List.length_map, List.take_length] at hD1
    refine ⟨D, ps.map fun y => knB kvs y, rfl, SqL.of (by rw [hD1, List.map_map]; rfl), ?_⟩
    rw [List.any_map]
    exact q H1 s1
end
theorem fert_known {rs : List Row} {kvs : List (Key × V)} (cl : ∀ r ∈ rs, knB kvs r.mark = false → ripeB kvs r = false) {m : Str} (h : Fert rs m) : knB kvs m = true := by
  induction h with
  | @base r hr e =>
    cases k : knB kvs r.mark with
    | true => rfl
    | false =>
      have := cl r hr k
      unfold ripeB at this
      rw [decide_eq_true e, Bool.true_or] at this; cases this
  | @step r p hr hp _ ih =>
    cases k : knB kvs r.mark with
    | true => rfl
    | false =>
      have := cl r hr k
      unfold ripeB at this
      rw [List.any_eq_true.mpr ⟨p, hp, ih⟩, Bool.or_true] at this; cases this
theorem ripe_fert {rs : List Row} {kvs : List (Key × V)} (so : ∀ m, knB kvs m = true → Fert rs m) {r : Row} (hr : r ∈ rs) (h : ripeB kvs r = true) : Fert rs r.mark := by
  unfold ripeB at h
  rw [Bool.or_eq_true, decide_eq_true_iff, List.any_eq_true] at h
  rcases h with h | ⟨p, hp, k⟩
  · exact .base hr h
  · exact .step hr hp (so p k)
section
variable {w : World} {K : PySem.W.Frag} {mg : Str → Option Value} {base : Heap}
theorem ok_barren (T : Txt K mg) : FnOk PP w K mg base CX0 2 T.a_barren T.fd_barren ["rows"] (spBarren K) := by
  refine T.F_barren.ok sc_barren (fun vs H Q E h => ?_) (fun cdv A outer s H vs Q E hr h => ?_)
  · obtain ⟨a, us, rs, rfl, _⟩ := h; rfl
  · obtain ⟨a, us, rs, rfl, ha, hR, hz, hsm, q⟩ := h
    refine ⟨_, (pss_cons (ps_set (i := 1) sc_barren.nd rfl (.inr rfl) (pe_dnewK))
      (pss_cons (ps_set (i := 2) sc_barren.nd rfl (.inl rfl) (pe_bl))
      (pss_cons (ps_while PassesOwn.never (pt_val (pv 2)) (pss_cons (ps_set (i := 2) sc_barren.nd rfl (.inl rfl) (pe_bl))
      (pss_one (ps_for PassesOwn.never rfl (pi_list (pv 0)) (pg_tup rfl (pgs_cons (pg_name (i := 3) sc_barren.nd rfl (.inl rfl)) (pgs_cons (pg_name (i := 4) sc_barren.nd rfl (.inl rfl)) (pgs_cons (pg_name (i := 5) sc_barren.nd rfl (.inl rfl)) (pgs_cons (pg_name (i := 6) sc_barren.nd rfl (.inl rfl)) (pgs_cons (pg_name (i := 6) sc_barren.nd rfl (.inl rfl)) pgs_nil)))))) (pss_one (ps_if (PW.pt (pw_and (pt_cmpR (op_ninKd (hu_of hr)) (pv 3) (pv 1) (by with_unfolding_all rfl)) (pw_and1 (PW.pt (pw_or (pt_cmpR op_eq (pv 5) (pe_int) (nomark _)) (pw_or1 (pt_val (pe_callB (anyK (K := K) rfl rfl) (by rfl) T.n_any (by decide +kernel) (pa_cons (pe_lc (own := [("parent", 7)]) (g := (gName 7)) (by rfl) sc_barren.nd (pi_tup (pv 4)) (blkOk_by (own := [("parent", 7)]) (N := ["rows", "known", "grown", "mark", "parents", "least", "_", "parent", "row"]) (sc := defScope S_barren) (by decide +kernel)) (fun _ _ _ _ _ => (pg_name (i := 7) sc_barren.nd rfl (by first | exact .inl rfl | exact .inr rfl))) (fun _ _ _ _ _ => pts_nil) (fun _ _ _ _ _ => (pe_cmpR (op_inKd (hu_of hr)) (pv 7) (pv 1) (by with_unfolding_all rfl)))) pa_nil))))))))) (pss_cons (ps_dput (hu_of hr) (pv 1) (pv 3) (pe_bl) rfl)
      (pss_one (ps_set (i := 2) sc_barren.nd rfl (.inl rfl) (pe_bl)))) pss_nil))))))
      (pss_cons (ps_for PassesOwn.never rfl (pi_list (pv 0)) (pg_name (i := 8) sc_barren.nd rfl (.inl rfl)) (pss_one (ps_if (pt_cmpR (op_ninKd (hu_of hr)) (pe_ix ix_tup (pv 8) (pe_int) (fun _ _ => rfl)) (pv 1) (by with_unfolding_all rfl)) (pss_one (ps_ret (pe_ix ix_tup (pv 8) (pe_int) (fun _ _ => rfl)))) pss_nil)))
      (pss_one (ps_ret (pe_non))))))), ?_⟩
    have big : 1000 < sizeLine := by decide
    refine fun d hd => ?_
    have s1 := same_new (o := .dK []) hd
    refine ⟨fun m σ H' => ∃ (kvs : List (Key × V)) (g : Bool) (x3 x4 x5 x6 x7 x8 : Option V), σ = [some (.ref a), some (.ref d), some (.bl g), x3, x4, x5, x6, x7, x8] ∧ Same H H' ∧ H' d = some (.dK kvs) ∧ m = 2 * restOf kvs rs + (if g then 1 else 0) ∧ kvs.length + restOf kvs rs ≤ rs.length ∧
      (∀ m, knB kvs m = true → Fert rs m) ∧ (g = false → ∀ r ∈ rs, knB kvs r.mark = false → ripeB kvs r = false), ⟨_, [], true, _, _, _, _, _, _, rfl, s1, upd_same, rfl, ?_, (fun m h => by cases h), (fun h => by cases h)⟩, ?_⟩
    · rw [List.length_nil, Nat.zero_add]; exact List.length_filter_le _ _
    rintro m σ H2 ⟨kvs, g, x3, x4, x5, x6, x7, x8, rfl, s2, hd2, rfl, lk, so, cl⟩
    refine ⟨_, rfl, _, rfl, ?_⟩
    cases g with
    | true =>
      refine iteT ⟨_, fun σ' H' h => h, ?_⟩
      refine ⟨_, rfl, a, rfl, ⟨_, SqL.of (s2 _ _ ha)⟩, for_list (K := K) (a := a) (xs := us) (fun i σ H' => ∃ (kv : List (Key × V)) (g : Bool) (x3 x4 x5 x6 x7 x8 : Option V), σ = [some (.ref a), some (.ref d), some (.bl g), x3, x4, x5, x6, x7, x8] ∧ Same H H' ∧ H' d = some (.dK kv) ∧ kv.length + restOf kv rs ≤ rs.length ∧
        (∀ m, knB kv m = true → Fert rs m) ∧ (g = true → restOf kv rs < restOf kvs rs) ∧ (g = false → kv = kvs ∧ ∀ r ∈ rs.take i, knB kv r.mark = false → ripeB kv r = false))
        ⟨kvs, false, _, _, _, _, _, _, rfl, s2, hd2, lk, so, (fun h => by cases h), fun _ => ⟨rfl, fun r h => by rw [List.take_zero] at h; cases h⟩⟩ (fun i σ H' _ ⟨_, _, _, _, _, _, _, _, _, s, _⟩ => SqL.of (s _ _ ha)) ?_ ?_⟩
      · rintro i v σ H3 hv ⟨kv, g, y3, y4, y5, y6, y7, y8, rfl, s3, hd3, lk3, so3, up, dn⟩
        obtain ⟨r, hr, p, pp, rfl, hp, hpp⟩ := pair_get' hR hv
        have mr : r ∈ rs := List.mem_of_getElem? hr
        have hp3 := s3 _ _ hp
        have hpp3 := s3 _ _ hpp
        refine ⟨p, _, rfl, SqT.of hp3, rfl, _, _, rfl, _, _, rfl, _, _, rfl, _, _, rfl, _, _, rfl, rfl, ?_⟩
        have stay : (knB kv r.mark = false → ripeB kv r = false) → ∀ H4, Same H3 H4 → ∀ y7, ∃ (kv' : List (Key × V)) (g' : Bool) (x3 x4 x5 x6 x7 x8 : Option V), ([some (.ref a), some (.ref d), some (.bl g), some (.str r.mark), some (.ref pp), some (.int r.least), some (.bl r.sh), y7, y8] : L2.St) = [some (.ref a), some (.ref d), some (.bl g'), x3, x4, x5, x6, x7, x8] ∧ Same H H4 ∧ H4 d = some (.dK kv') ∧ kv'.length + restOf kv' rs ≤ rs.length ∧
            (∀ m, knB kv' m = true → Fert rs m) ∧ (g' = true → restOf kv' rs < restOf kvs rs) ∧ (g' = false → kv' = kvs ∧ ∀ r ∈ rs.take (i + 1), knB kv' r.mark = false → ripeB kv' r = false) := fun no H4 s4 y7 => by
          refine ⟨kv, g, _, _, _, _, _, _, rfl, s3.trans s4, s4 _ _ hd3, lk3, so3, up, fun e => ⟨(dn e).1, fun q hq => ?_⟩⟩
          rw [List.take_succ, hr] at hq
          rcases List.mem_append.mp hq with hq | hq
          · exact (dn e).2 q hq
          · rw [List.mem_singleton.mp hq]; exact no
        have go : knB kv r.mark = false → ripeB kv r = true → ∀ H4, Same H3 H4 → ∀ y7, ∃ (kv' : List (Key × V)) (g' : Bool) (x3 x4 x5 x6 x7 x8 : Option V), ([some (.ref a), some (.ref d), some (.bl true), some (.str r.mark), some (.ref pp), some (.int r.least), some (.bl r.sh), y7, y8] : L2.St) = [some (.ref a), some (.ref d), some (.bl g'), x3, x4, x5, x6, x7, x8] ∧ Same H (upd H4 d (.dK (putK kv (.inr r.mark) (.bl true)))) ∧ (upd H4 d (.dK (putK kv (.inr r.mark) (.bl true)))) d = some (.dK kv') ∧ kv'.length + restOf kv' rs ≤ rs.length ∧
            (∀ m, knB kv' m = true → Fert rs m) ∧ (g' = true → restOf kv' rs < restOf kvs rs) ∧ (g' = false → kv' = kvs ∧ ∀ r ∈ rs.take (i + 1), knB kv' r.mark = false → ripeB kv' r = false) := fun nk rp H4 s4 y7 => by
          have lt := rest_put (v := .bl true) mr nk
          refine ⟨putK kv (.inr r.mark) (.bl true), true, _, _, _, _, _, _, rfl, same_mut (s3.trans s4) hd, upd_same, ?_, fun m hm => ?_, fun _ => ?_, fun e => by cases e⟩
          · have := length_putK kv (.inr r.mark) (.bl true); omega
          · rw [knB_put, Bool.or_eq_true, decide_eq_true_iff] at hm
            rcases hm with rfl | hm
            · exact ripe_fert so3 mr rp
            · exact so3 m hm
          · cases g with
            | true => have := up rfl; omega
            | false => have e := (dn rfl).1; subst e; exact lt
        have lz : kv.length < sizeLine := by omega
        refine ⟨_, rfl, _, rfl, d, _, rfl, DGet.k (k := .inr r.mark) hd3, _, rfl, ?_⟩
        cases nk : knB kv r.mark with
        | true => exact iteNo (by show (!knB kv r.mark) = false; rw [nk]; rfl) (stay (fun z => by rw [nk] at z; cases z) H3 (fun _ _ h => h) y7)
        | false =>
          refine iteYes (by show (!knB kv r.mark) = true; rw [nk]; rfl) ⟨_, rfl, rfl, _, rfl, ?_⟩
          refine iteD (fun c => ?_) (fun c => ?_)
          · have c : r.least = 0 := V.int.inj c
            refine iteT ?_
            refine ⟨_, rfl, _, rfl, d, _, rfl, DPut.k (k := .inr r.mark) hd3 lz, ?_⟩
            exact go nk (by unfold ripeB; rw [decide_eq_true c, Bool.true_or]) H3 (fun _ _ h => h) y7
          · have c : r.least ≠ 0 := fun z => c (by rw [z])
            refine any_kn hd3 hpp3 (by have := (hsm r mr).2; omega) fun H4 s4 => ⟨_, rfl, ?_⟩
            cases ra : r.pars.any (knB kv) with
            | true =>
              refine iteT ?_
              refine ⟨_, rfl, _, rfl, d, _, rfl, DPut.k (k := .inr r.mark) (s4 _ _ hd3) lz, ?_⟩
              exact go nk (by unfold ripeB; rw [ra, Bool.or_true]) H4 s4 y7
            | false => exact iteF (stay (fun _ => by unfold ripeB; rw [ra, decide_eq_false c]; rfl) H4 s4 y7)
      · rintro σ H3 ⟨kv, g, y3, y4, y5, y6, y7, y8, rfl, s3, hd3, lk3, so3, up, dn⟩
        rw [pair_len' hR, List.take_length] at dn
        refine ⟨_, ?_, kv, g, _, _, _, _, _, _, rfl, s3, hd3, rfl, lk3, so3, fun e => (dn e).2⟩
        cases g with
        | true => have := up rfl; simp; omega
        | false => rw [(dn rfl).1]; simp
    | false =>
      refine iteF ?_
      have cl := cl rfl
      refine ⟨_, rfl, a, rfl, ⟨_, SqL.of (s2 _ _ ha)⟩, for_list (K := K) (a := a) (xs := us) (fun i σ H' => ∃ x8, σ = [some (.ref a), some (.ref d), some (.bl false), x3, x4, x5, x6, x7, x8] ∧ H' = H2 ∧ ∀ r ∈ rs.take i, Fert rs r.mark) ⟨_, rfl, rfl, fun r h => by rw [List.take_zero] at h; cases h⟩ (fun i σ H' _ ⟨_, _, e, _⟩ => SqL.of (by rw [e]; exact s2 _ _ ha)) ?_ ?_⟩
      · rintro i v σ H3 hv ⟨y8, rfl, rfl, hf⟩
        obtain ⟨r, hr, p, pp, rfl, hp, hpp⟩ := pair_get' hR hv
        have hp3 := s2 _ _ hp
        refine ⟨_, rfl, _, _, _, _, rfl, rfl, SqT.of hp3, atI_nat (j := 0) rfl, _, rfl, d, _, rfl, DGet.k (k := .inr r.mark) hd2, _, rfl, ?_⟩
        cases nk : knB kvs r.mark with
        | true =>
          refine iteNo (by show (!knB kvs r.mark) = false; rw [nk]; rfl) ⟨_, rfl, rfl, fun q hq => ?_⟩
          rw [List.take_succ, hr] at hq
          rcases List.mem_append.mp hq with hq | hq
          · exact hf q hq
          · rw [List.mem_singleton.mp hq]; exact so _ nk
        | false =>
          refine iteYes (by show (!knB kvs r.mark) = true; rw [nk]; rfl) ⟨_, rfl, _, _, _, _, rfl, rfl, SqT.of hp3, atI_nat (j := 0) rfl, ?_⟩
          exact q _ _ s2 (.yes hr hf fun f => by have := fert_known cl f; rw [nk] at this; cases this)
      · rintro σ H3 ⟨y8, rfl, rfl, hf⟩
        rw [pair_len' hR, List.take_length] at hf
        exact q _ _ s2 (.no hf)
end
end My

namespace My
open PySem L2
/-! ### a new shape -/
def mksV (rs : List Row) : List V := rs.map fun r => .str r.mark
def mks (rs : List Row) : List Str := rs.map Row.mark
theorem mksV_eq (rs : List Row) : mksV rs = (mks rs).map V.str := by unfold mksV mks; rw [List.map_map]; rfl
def rowFine (rs : List Row) (i : Nat) : Prop := ∀ r, rs[i]? = some r → fineB r (mks (rs.take i)) = true
inductive SErr where
  | large
  | bad (m : Str)
  | unk (m : Str)
def parsOk (rs : List Row) (r : Row) : Prop := ∀ p ∈ r.pars, p ∈ mks rs
inductive Due (rs : List Row) : SErr → Prop
  | large : 6 < rs.length → Due rs .large
  | row {i : Nat} {r : Row} : rs.length ≤ 6 → rs[i]? = some r → (∀ j, j < i → rowFine rs j) → fineB r (mks (rs.take i)) = false → Due rs (.bad r.mark)
  | par {i k : Nat} {r : Row} {p : Str} : rs.length ≤ 6 → (∀ j, rowFine rs j) → rs[i]? = some r → r.pars[k]? = some p → (∀ q ∈ rs.take i, parsOk rs q) → (∀ q ∈ r.pars.take k, q ∈ mks rs) → p ∉ mks rs → Due rs (.unk p)
  | lost {i : Nat} {r : Row} : rs.length ≤ 6 → (∀ j, rowFine rs j) → (∀ q ∈ rs, parsOk rs q) → rs[i]? = some r → (∀ q ∈ rs.take i, Fert rs q.mark) → ¬ Fert rs r.mark → Due rs (.bad r.mark)
structure Good (rs : List Row) : Prop where
  len : rs.length ≤ 6
  fine : ∀ j, rowFine rs j
  pars : ∀ q ∈ rs, parsOk rs q
  fert : ∀ q ∈ rs, Fert rs q.mark
/-- what the error e is: its class and what it holds -/
def ErrIs (TL BS UM : Addr) : SErr → Addr → V → Str → Prop
  | .large, c, v, f => c = TL ∧ v = .int 6 ∧ f = "most"
  | .bad m, c, v, f => c = BS ∧ v = .str m ∧ f = "mark"
  | .unk m, c, v, f => c = UM ∧ v = .str m ∧ f = "mark"
/-- a shape at x -/
def ShO (C : Addr) (H : Hp) (x : Addr) (rs : List Row) : Prop := ∃ dx l m vs, H x = some (.ins C dx [("_listed", .ref l), ("_marks", .ref m)]) ∧ H l = some (.lst vs) ∧ RowsT H vs rs ∧ H m = some (.lst (mksV rs))
theorem ShO.same {C : Addr} {H H' : Hp} {x : Addr} {rs : List Row} (h : ShO C H x rs) (s : Same H H') : ShO C H' x rs := by
  obtain ⟨dx, l, m, vs, a, b, c, d⟩ := h
  exact ⟨dx, l, m, vs, s _ _ a, s _ _ b, rowsT_same c s, s _ _ d⟩
/-- a shape whose lists stand at addresses of F -/
def ShN (F : Addr → Prop) (C : Addr) (H : Hp) (x : Addr) (rs : List Row) : Prop := ∃ dx l m vs, F l ∧ F m ∧ H x = some (.ins C dx [("_listed", .ref l), ("_marks", .ref m)]) ∧ H l = some (.lst vs) ∧ RowsT H vs rs ∧ H m = some (.lst (mksV rs))
theorem ShN.sh {F : Addr → Prop} {C : Addr} {H : Hp} {x : Addr} {rs : List Row} (h : ShN F C H x rs) : ShO C H x rs := let ⟨dx, l, m, vs, _, _, e⟩ := h; ⟨dx, l, m, vs, e⟩
theorem ShN.sub {F G : Addr → Prop} {C : Addr} {H : Hp} {x : Addr} {rs : List Row} (h : ShN F C H x rs) (i : ∀ a, F a → G a) : ShN G C H x rs := let ⟨dx, l, m, vs, a, b, e⟩ := h; ⟨dx, l, m, vs, i _ a, i _ b, e⟩
theorem RowV.same {H H' : Hp} {v : V} {r : Row} (h : RowV H v r) (s : Same H H') : RowV H' v r := by
  obtain ⟨p, pp, e, a, b⟩ := h
  exact ⟨p, pp, e, a.imp (s _ _) (s _ _), b.imp (s _ _) (s _ _)⟩
theorem rowsV_same {H H' : Hp} {vs : List V} {rs : List Row} (h : Paired (RowV H) vs rs) (s : Same H H') : Paired (RowV H') vs rs := L2.Paired.mapP h fun _ _ x => x.same s
theorem RowT.keep {H H' : Hp} {v : V} {r : Row} (h : RowT H v r) (s : ∀ a xs, H a = some (.tup xs) → H' a = some (.tup xs)) : RowT H' v r := let ⟨p, pp, e, a, b⟩ := h; ⟨p, pp, e, s _ _ a, s _ _ b⟩
theorem rowsT_keep {H H' : Hp} {vs : List V} {rs : List Row} (h : RowsT H vs rs) (s : ∀ a xs, H a = some (.tup xs) → H' a = some (.tup xs)) : RowsT H' vs rs := L2.Paired.mapP h fun _ _ x => x.keep s
theorem keep_lst {H : Hp} {l : Addr} {vs ws : List V} (h : H l = some (.lst vs)) : ∀ a xs, H a = some (.tup xs) → (upd H l (.lst ws)) a = some (.tup xs) := fun a xs e => by rw [upd_ne (fun z => by rw [z, h] at e; cases e)]; exact e
theorem rowL_seq {K : PySem.W.Frag} {H : Hp} {p pp : Addr} {r : Row} {i : Int} {v : V} {Q : VK} (h : H p = some (.tup (rowL r pp)) ∨ H p = some (.lst (rowL r pp))) (e : atI (rowL r pp) i = some v) (q : Q v H) : rIx K (.ref p) (.int i) H Q := by
  rcases h with h | h
  · exact .inr (.inl ⟨_, _, _, _, rfl, rfl, SqT.of h, e, q⟩)
  · exact .inl ⟨_, _, _, _, rfl, rfl, SqL.of h, e, q⟩
theorem pair_app' {α β : Type} {F : α → β → Prop} : ∀ {l l' : List α} {m m' : List β}, Paired F l m → Paired F l' m' → Paired F (l ++ l') (m ++ m')
  | _, _, _, _, .nil, q => q
  | _, _, _, _, .cons r t, q => .cons r (pair_app' t q)
def spShInit (C TL BS UM : Addr) : Sp := fun vs H Q E => ∃ (x dx p : Addr) (us : List V) (rs : List Row), vs = [.ref x, .ref p] ∧ H x = some (.ins C dx []) ∧ H p = some (.tup us) ∧ Paired (RowV H) us rs ∧ us.length ≤ 100 ∧ (∀ r ∈ rs, small r) ∧
  (Good rs → ∀ H', But x H H' → ShN (fun a => H a = none) C H' x rs → Q .non H') ∧
  (∀ e c v f, Due rs e → ErrIs TL BS UM e c v f → ∀ H' d, Same H H' → H d = none → H' d = some (.xd [(f, v)]) → E (.ref c) (some d) H')
theorem make_sh {C TL BS UM : Addr} {H : Hp} {us : List V} {rs : List Row} {Q : VK} {E : XK} (hs : Paired (RowV H) us rs) (hl : us.length ≤ 100) (hsm : ∀ r ∈ rs, small r) (q : Good rs → ∀ x H', Same H H' → H x = none → ShN (fun a => H a = none) C H' x rs → Q (.ref x) H')
    (qe : ∀ e c v f, Due rs e → ErrIs TL BS UM e c v f → ∀ H' d, Same H H' → H d = none → H' d = some (.xd [(f, v)]) → E (.ref c) (some d) H') :
    ∀ x dx, H x = none → H dx = none → dx ≠ x → spStar 1 (spShInit C TL BS UM) (.ref x :: us) (upd (upd H dx (.own x)) x (.ins C dx [])) (fun v H2 => v = .non ∧ Q (.ref x) H2) E := fun x dx nx nd _ => by
  have s1 : Same H (upd (upd H dx (.own x)) x (.ins C dx [])) := fun y o h => by rw [upd_ne (ne_of_none h nx), upd_ne (ne_of_none h nd)]; exact h
  refine ⟨[.ref x], us, rfl, rfl, Nat.le_trans hl (by decide), fun p np => ?_⟩
  have s2 := s1.trans (same_new (o := .tup us) np)
  refine ⟨x, dx, p, us, rs, rfl, same_new np _ _ upd_same, upd_same, rowsV_same hs s2, hl, hsm, fun g H' b sh => ⟨rfl, q g x H' (fun y o h => b y o (ne_of_none h nx) (s2 _ _ h)) nx (sh.sub fun a h => s2.free h)⟩, fun e c v f du er H' d s' nd' hd => qe e c v f du er H' d (s2.trans s') (s2.free nd') hd⟩
section
variable {w : World} {K : PySem.W.Frag} {mg : Str → Option Value} {base : Heap}
theorem ok_Shape_init (T : Txt K mg) : FnR PP w K mg base (L2.CX PP w) 5 T.a_Shape_init (spStar 1 (spShInit T.c_Shape T.c_TooLarge T.c_BadShape T.c_UnknownMark)) := by
  refine Fun.starX (k := 4) (ps := ["self"]) T.F_Shape_init sc_Shape_init T.bs_Shape_init fun cdv A outer s H vs Q E hr h => ?_
  obtain ⟨x, dx, p, us, rs, rfl, hx, hp, hs, hl, hsm, q, qe⟩ := h
  refine ⟨_, (pss_cons (ps_if (pt_cmpR op_gt (pe_callB call_len_seq (by rfl) T.n_len (by decide +kernel) (pa_cons (pv 1) pa_nil)) (ClX.pe_cval (pe_glob (v := .ref T.c_Shape) (by rfl) T.g_Shape rfl)) (nomark _)) (pss_one (ps_raiseX rfl T.x_TooLarge hr (takes_of rfl rfl rfl rfl) (pa_cons (ClX.pe_cval (pe_glob (v := .ref T.c_Shape) (by rfl) T.g_Shape rfl)) pa_nil))) pss_nil)
      (pss_cons (ps_set (i := 2) sc_Shape_init.nd rfl (.inl rfl) (pe_lst pa_nil))
      (pss_cons (ps_set (i := 3) sc_Shape_init.nd rfl (.inl rfl) (pe_lst pa_nil))
      (pss_cons (ps_for (passes_of rfl) rfl (pi_tup (pv 1)) (pg_name (i := 4) sc_Shape_init.nd rfl (.inl rfl)) (pss_cons (ps_expr (pe_bm PySem.F.plainAttrs_list PySem.F.slot_list_append PySem.F.type_list_append mt_append (pv 2) (pa_cons (pe_call (ok_sound_row T) (hr.mono (by omega)) (by rfl) T.g_sound_row T.F_sound_row.kp T.b_sound_row .nil (passes_call (takes_of rfl rfl rfl rfl) (fun _ _ _ _ h => h)) (pa_cons (pv 4) (pa_cons (pv 3) pa_nil))) pa_nil)))
      (pss_one (ps_expr (pe_bm PySem.F.plainAttrs_list PySem.F.slot_list_append PySem.F.type_list_append mt_append (pv 3) (pa_cons (pe_ix ix_seq (pv 4) (pe_int) (fun _ _ => rfl)) pa_nil))))))
      (pss_cons (ps_for (passes_of rfl) rfl (pi_list (pv 2)) (pg_name (i := 4) sc_Shape_init.nd rfl (.inl rfl)) (pss_one (ps_for (passes_of rfl) rfl (pi_tup (pe_ix ix_seq (pv 4) (pe_int) (fun _ _ => rfl))) (pg_name (i := 5) sc_Shape_init.nd rfl (.inl rfl)) (pss_one (ps_if (pt_cmpR op_notIn_seq (pv 5) (pv 3) (by with_unfolding_all rfl)) (pss_one (ps_raiseX rfl T.x_UnknownMark hr (takes_of rfl rfl rfl rfl) (pa_cons (pv 5) pa_nil))) pss_nil)))))
      (pss_cons (ps_set (i := 6) sc_Shape_init.nd rfl (.inl rfl) (pe_call (ok_barren T) (hr.mono (by omega)) (by rfl) T.g_barren T.F_barren.kp T.b_barren .nil pass0 (pa_cons (pv 2) pa_nil)))
      (pss_cons (ps_if (pt_cmpR op_notN (pv 6) (pe_non) (nomark _)) (pss_one (ps_raiseX rfl T.x_BadShape hr (takes_of rfl rfl rfl rfl) (pa_cons (pv 6) pa_nil))) pss_nil)
      (pss_cons (ps_fld (pv 0) (pv 2) rfl)
      (pss_one (ps_fld (pv 0) (pv 3) rfl)))))))))), ?_⟩
  have big : 1000 < sizeLine := by decide
  have lr := pair_len' hs
  refine ⟨_, rfl, p, us, rfl, .inr (SqT.of hp), _, _, _, _, rfl, T.cr_Shape, T.cv_Shape_MARKS, _, _, rfl, rfl, _, rfl, iteD (fun c => ?_) (fun c => ?_)⟩
  · refine ⟨_, _, _, _, rfl, T.cr_Shape, T.cv_Shape_MARKS, _, rfl, fun d hd => ?_⟩
    exact qe .large _ _ _ (.large (by omega)) ⟨rfl, rfl, rfl⟩ _ d (same_new hd) hd upd_same
  have l6 : rs.length ≤ 6 := by omega
  refine ⟨Nat.zero_le _, fun l hl0 => ⟨Nat.zero_le _, fun m hm0' => ?_⟩⟩
  have s0 := same_new (o := .lst []) hl0
  have hm0 : H m = none := s0.free hm0'
  have nlm : l ≠ m := fun z => by rw [← z, upd_same] at hm0'; cases hm0'
  have s1 := s0.trans (same_new (o := .lst []) hm0')
  refine ⟨_, rfl, p, rfl, ⟨_, SqT.of (s1 _ _ hp)⟩, for_tup (K := K) (a := p) (xs := us) (fun i σ H' => ∃ (x4 x5 : Option V) (vs' : List V), σ = [some (.ref x), some (.ref p), some (.ref l), some (.ref m), x4, x5, none] ∧ Same H H' ∧ H' l = some (.lst vs') ∧ H' m = some (.lst (mksV (rs.take i))) ∧ RowsT H' vs' (rs.take i) ∧ ∀ j, j < i → rowFine rs j)
    ⟨_, _, [], rfl, s1, by rw [upd_ne nlm]; exact upd_same, upd_same, .nil, fun j h => absurd h (Nat.not_lt_zero _)⟩ (fun i σ H' _ ⟨_, _, _, _, s, _⟩ => SqT.of (s _ _ hp)) ?_ ?_⟩
  · rintro i v σ H1 hv ⟨x4, x5, vs', rfl, s1, hl1, hm1, rt, fi⟩
    obtain ⟨r, hr, hV⟩ := pair_get' hs hv
    have mr : r ∈ rs := List.mem_of_getElem? hr
    have hi := (List.getElem?_eq_some_iff.mp hr).1
    obtain ⟨p0, pp0, rfl, hp0, hpp0⟩ := id (hV.same s1)
    have lv : vs'.length = i := by rw [pair_len' rt, List.length_take]; omega
    refine ⟨_, rfl, .inl ⟨rfl, _, SqL.of hl1⟩, _, rfl, _, rfl, _, _, r, mks (rs.take i), rfl, hV.same s1, by rw [hm1, mksV_eq], hsm r mr, fun gd pq pp H2 s2 npq hpq hpp => ?_, fun bd H2 d s2 nd hd => ?_⟩
    · have hl2 := s2 _ _ hl1
      refine ⟨_, _, _, rfl, rfl, hl2, by omega, ?_⟩
      have npl : pq ≠ l := (ne_of_none hl1 npq).symm
      have t2 := s1.trans s2
      have s3 : Same H (upd H2 l (.lst (vs' ++ [.ref pq]))) := same_mut t2 hl0
      have k3 := keep_lst (ws := vs' ++ [.ref pq]) hl2
      have hm3 : (upd H2 l (.lst (vs' ++ [.ref pq]))) m = some (.lst (mksV (rs.take i))) := by rw [upd_ne nlm.symm]; exact s2 _ _ hm1
      have k4 := keep_lst (ws := mksV (rs.take i) ++ [.str r.mark]) hm3
      refine ⟨_, rfl, .inl ⟨rfl, _, SqL.of hm3⟩, _, rfl, rowL_seq (hp0.imp (fun h => k3 _ _ (s2 _ _ h)) (fun h => ?_)) rfl ?_⟩
      · have n0 : p0 ≠ l := fun z => by
          obtain ⟨w0, _, e0, h0, _⟩ := hV
          obtain rfl : p0 = w0 := V.ref.inj e0
          rcases h0 with h0 | h0
          · rw [z, hl0] at h0; cases h0
          · rw [z, hl0] at h0; cases h0
        rw [upd_ne n0]; exact s2 _ _ h
      · refine ⟨_, _, _, rfl, rfl, hm3, by unfold mksV; rw [List.length_map, List.length_take]; omega, ?_⟩
        refine ⟨_, _, vs' ++ [.ref pq], rfl, same_mut s3 hm0, by rw [upd_ne nlm]; exact upd_same, ?_, ?_, fun j hj => ?_⟩
        · rw [upd_same, List.take_succ, hr]; unfold mksV; rw [List.map_append]; rfl
        · rw [List.take_succ, hr]
          exact pair_app' (rowsT_keep rt fun a xs e => k4 _ _ (k3 _ _ (s2 _ _ e))) (.cons ⟨pq, pp, rfl, k4 _ _ (k3 _ _ hpq), k4 _ _ (k3 _ _ hpp)⟩ .nil)
        · by_cases e : j = i
          · subst e
            intro r' hr'
            rw [hr] at hr'
            exact Option.some.inj hr' ▸ gd
          · exact fi j (by omega)
    · exact qe _ _ _ _ (.row l6 hr fi bd) ⟨rfl, rfl, rfl⟩ H2 d (s1.trans s2) (s1.free nd) hd
  rintro σ H1 ⟨x4, x5, vs', rfl, s1, hl1, hm1, rt, fi⟩
  rw [lr, List.take_length] at hm1 rt
  have fi : ∀ j, rowFine rs j := fun j => by
    by_cases c : j < rs.length
    · exact fi j (by omega)
    · intro r hr
      rw [List.getElem?_eq_none (by omega)] at hr; cases hr
  refine ⟨_, rfl, l, rfl, ⟨_, SqL.of hl1⟩, for_list (K := K) (a := l) (xs := vs') (fun i σ H' => ∃ (x4 x5 : Option V), σ = [some (.ref x), some (.ref p), some (.ref l), some (.ref m), x4, x5, none] ∧ H' = H1 ∧ ∀ q ∈ rs.take i, parsOk rs q)
    ⟨_, _, rfl, rfl, fun q h => by rw [List.take_zero] at h; cases h⟩ (fun i σ H' _ ⟨_, _, _, e, _⟩ => SqL.of (by rw [e]; exact hl1)) ?_ ?_⟩
  · rintro i v σ H2 hv ⟨x4, x5, rfl, rfl, po⟩
    obtain ⟨r, hr, p0, pp0, rfl, hp0, hpp0⟩ := pair_get' rt hv
    refine ⟨_, rfl, rowL_seq (.inl hp0) rfl ⟨pp0, rfl, ⟨_, SqT.of hpp0⟩, for_tup (K := K) (a := pp0) (xs := r.pars.map V.str) (fun k σ H' => ∃ (x5 : Option V), σ = [some (.ref x), some (.ref p), some (.ref l), some (.ref m), some (.ref p0), x5, none] ∧ H' = H2 ∧ ∀ q ∈ r.pars.take k, q ∈ mks rs)
      ⟨_, rfl, rfl, fun q h => by rw [List.take_zero] at h; cases h⟩ (fun i σ H' _ ⟨_, _, e, _⟩ => SqT.of (by rw [e]; exact hpp0)) ?_ ?_⟩⟩
    · rintro k v σ H3 hk ⟨x5, rfl, rfl, pk⟩
      obtain ⟨y, hy, rfl⟩ : ∃ y, r.pars[k]? = some y ∧ v = .str y := by
        rw [List.getElem?_map] at hk
        cases e : r.pars[k]? with
        | none => rw [e] at hk; cases hk
        | some y => rw [e] at hk; exact ⟨y, rfl, (Option.some.inj hk).symm⟩
      refine ⟨_, rfl, _, rfl, _, _, rfl, .inl (SqL.of hm1), rfl, by rw [mksV_eq]; exact flat_strs _, ?_⟩
      rw [mksV_eq, in_strs]
      refine ⟨_, rfl, iteN (fun c => ?_) (fun c => ?_)⟩
      · refine ⟨_, rfl, _, rfl, fun d hd => ?_⟩
        exact qe (.unk y) _ _ _ (.par l6 fi hr hy po pk c) ⟨rfl, rfl, rfl⟩ _ d (s1.trans (same_new hd)) (s1.free hd) upd_same
      · refine ⟨_, rfl, rfl, fun q hq => ?_⟩
        rw [List.take_succ, hy] at hq
        rcases List.mem_append.mp hq with hq | hq
        · exact pk q hq
        · rw [List.mem_singleton.mp hq]; exact c
    · rintro σ H3 ⟨x5, rfl, rfl, pk⟩
      rw [List.length_map, List.take_length] at pk
      refine ⟨_, _, rfl, rfl, fun q hq => ?_⟩
      rw [List.take_succ, hr] at hq
      rcases List.mem_append.mp hq with hq | hq
      · exact po q hq
      · rw [List.mem_singleton.mp hq]; exact pk
  rintro σ H2 ⟨x4, x5, rfl, rfl, po⟩
  rw [pair_len' rt, List.take_length] at po
  refine ⟨_, rfl, l, vs', rs, rfl, hl1, rt, by omega, hsm, fun v H3 s3 lo => ?_⟩
  have t3 := s1.trans s3
  cases lo with
  | @yes i r hr hf nf =>
    refine ⟨_, rfl, rfl, _, rfl, iteYes rfl ⟨_, rfl, _, rfl, fun d hd => ?_⟩⟩
    exact qe _ _ _ _ (.lost l6 fi po hr hf nf) ⟨rfl, rfl, rfl⟩ _ d (t3.trans (same_new hd)) (t3.free hd) upd_same
  | no hf =>
    refine ⟨_, rfl, rfl, _, rfl, iteNo rfl ?_⟩
    have hx3 := t3 _ _ hx
    refine ⟨_, rfl, _, rfl, x, _, dx, _, rfl, hx3, T.cl_Shape, T.no_Shape__listed, by show 0 < 1000; decide, ?_⟩
    refine ⟨_, rfl, _, rfl, x, _, dx, _, rfl, upd_same, T.cl_Shape, T.no_Shape__marks, by show 1 < 1000; decide, ?_⟩
    have nx : ∀ {a : Addr} {ws : List V}, H3 a = some (.lst ws) → a ≠ x := fun h z => by rw [z, hx3] at h; cases h
    have hl3 := s3 _ _ hl1
    have hm3 := s3 _ _ hm1
    refine q ⟨l6, fi, po, hf⟩ _ (fun y o n h => by rw [upd_ne n, upd_ne n]; exact t3 _ _ h) ⟨dx, l, m, vs', hl0, hm0, upd_same, ?_, ?_, ?_⟩
    · rw [upd_ne (nx hl3), upd_ne (nx hl3)]; exact hl3
    · refine rowsT_keep (rowsT_same rt s3) fun a xs e => ?_
      have n : a ≠ x := fun z => by rw [z, hx3] at e; cases e
      rw [upd_ne n, upd_ne n]; exact e
    · rw [upd_ne (nx hm3), upd_ne (nx hm3)]; exact hm3
end
end My

namespace My
open PySem L2
/-! ### what shapes answer -/
def rowD (r : Row) : PyData := .tuple [.str r.mark, .tuple (r.pars.map .str), .int r.least, .int r.most, .bool r.sh]
theorem eqv_strs : ∀ a b : List Str, PyData.eqvAll (a.map .str) (b.map .str) = decide (a = b)
  | [], [] => by simp [PyData.eqvAll]
  | [], _ :: _ => by simp [PyData.eqvAll]
  | _ :: _, [] => by simp [PyData.eqvAll]
  | x :: a, y :: b => by
    simp only [List.map_cons, PyData.eqvAll, PyData.eqv, eqv_strs a b]
    rw [Bool.eq_iff_iff, Bool.and_eq_true, beq_iff_eq, decide_eq_true_iff, decide_eq_true_iff]
    simp
theorem eqv_row (a b : Row) : PyData.eqv (rowD a) (rowD b) = decide (a = b) := by
  unfold rowD
  simp only [PyData.eqv, PyData.eqvAll, eqv_strs, Bool.and_true]
  rw [Bool.eq_iff_iff]
  simp only [Bool.and_eq_true, beq_iff_eq, decide_eq_true_iff]
  cases a; cases b
  simp
theorem eqv_rows : ∀ a b : List Row, PyData.eqvAll (a.map rowD) (b.map rowD) = decide (a = b)
  | [], [] => by simp [PyData.eqvAll]
  | [], _ :: _ => by simp [PyData.eqvAll]
  | _ :: _, [] => by simp [PyData.eqvAll]
  | x :: a, y :: b => by
    simp only [List.map_cons, PyData.eqvAll, eqv_row, eqv_rows a b]
    rw [Bool.eq_iff_iff, Bool.and_eq_true, decide_eq_true_iff, decide_eq_true_iff, decide_eq_true_iff]
    simp
theorem strOk_mk {z : Str} (h : isMk z = true) : PyData.strOk z = true := by
  unfold isMk at h
  rw [Bool.and_eq_true, List.all_eq_true] at h
  unfold PyData.strOk
  rw [← Array.all_toList, List.all_eq_true]
  intro c hc
  have := of_decide_eq_true (h.2 c hc)
  exact decide_eq_true (by omega)
theorem canLay_strs : ∀ {l : List Str}, (∀ z ∈ l, PyData.strOk z = true) → PyData.canLayAll0 (l.map .str) = true
  | [], _ => rfl
  | z :: l, h => by rw [List.map_cons, PyData.canLayAll0, PyData.canLay0, h z (by simp), canLay_strs fun y hy => h y (by simp [hy])]; rfl
theorem depth_strs : ∀ l : List Str, PyData.depthAll (l.map .str) = 0
  | [] => rfl
  | z :: l => by rw [List.map_cons, PyData.depthAll, depth_strs l]; rfl
/-- rows whose words are marks -/
def wordsOk (rs : List Row) : Prop := ∀ r ∈ rs, PyData.strOk r.mark = true ∧ ∀ p ∈ r.pars, PyData.strOk p = true
theorem Good.words {rs : List Row} (h : Good rs) : wordsOk rs := by
  have mk : ∀ r ∈ rs, isMk r.mark = true := fun r hr => by
    obtain ⟨j, hj⟩ := List.mem_iff_getElem?.mp hr
    have := h.fine j r hj
    unfold fineB at this
    simp only [Bool.and_eq_true] at this
    exact this.1.1.1
  intro r hr
  refine ⟨strOk_mk (mk r hr), fun p hp => ?_⟩
  obtain ⟨q, hq, rfl⟩ := List.mem_map.mp (h.pars r hr p hp)
  exact strOk_mk (mk q hq)
theorem row_lay {r : Row} (h : PyData.strOk r.mark = true ∧ ∀ p ∈ r.pars, PyData.strOk p = true) : PyData.canLay0 (rowD r) = true := by
  unfold rowD
  simp [PyData.canLay0, PyData.canLayAll0, h.1, canLay_strs h.2]
theorem rows_shaped {rs : List Row} (h : wordsOk rs) : SeqAt.shaped (.list (rs.map rowD)) = true := by
  have h1 : ∀ l : List Row, wordsOk l → PyData.canLayAll0 (l.map rowD) = true := fun l => by
    induction l with
    | nil => intro _; rfl
    | cons a r ih => intro q; rw [List.map_cons, PyData.canLayAll0, row_lay (q a (by simp)), ih fun s hs => q s (by simp [hs])]; rfl
  have h2 : ∀ l : List Row, PyData.depthAll (l.map rowD) ≤ 4 := fun l => by
    induction l with
    | nil => exact Nat.zero_le _
    | cons a r ih =>
      rw [List.map_cons, PyData.depthAll]
      have : PyData.depth (rowD a) ≤ 4 := by unfold rowD; simp [PyData.depth, PyData.depthAll, depth_strs]
      omega
  unfold SeqAt.shaped
  rw [PyData.canLay0, h1 rs h, PyData.depth, Bool.true_and, decide_eq_true_iff]
  have := h2 rs
  omega
theorem strsDp {K : PySem.W.Frag} {H : Hp} : ∀ l : List Str, DpAll K H (l.map V.str) (l.map .str)
  | [] => .nil
  | z :: l => .cons (.str _) (strsDp l)
theorem rowDp {K : PySem.W.Frag} {H : Hp} {v : V} {r : Row} (h : RowT H v r) : Dp K H v (rowD r) := by
  obtain ⟨p, pp, rfl, hp, hpp⟩ := h
  exact .tup (SqT.of hp) (.cons (.str _) (.cons (.tup (SqT.of hpp) (strsDp _)) (.cons (.int _) (.cons (.int _) (.cons (.bl _) .nil)))))
theorem rowsDp {K : PySem.W.Frag} {H : Hp} : ∀ {vs : List V} {rs : List Row}, RowsT H vs rs → DpAll K H vs (rs.map rowD)
  | _, _, .nil => .nil
  | _, _, .cons h t => .cons (rowDp h) (rowsDp t)
def findR (rs : List Row) (z : Str) : Option Row := rs.find? fun r => decide (r.mark = z)
theorem findR_at {rs : List Row} {z : Str} {i : Nat} {r : Row} (h : rs[i]? = some r) (e : r.mark = z) (n : ∀ q ∈ rs.take i, q.mark ≠ z) : findR rs z = some r := by
  unfold findR
  have e1 : rs = rs.take i ++ r :: rs.drop (i + 1) := by
    obtain ⟨h1, h2⟩ := List.getElem?_eq_some_iff.mp h
    rw [← h2, ← List.drop_eq_getElem_cons h1, List.take_append_drop]
  rw [e1, List.find?_append, List.find?_eq_none.mpr (by intro q hq; simpa using n q hq)]
  simp [List.find?_cons, e]
theorem findR_no {rs : List Row} {z : Str} (n : ∀ q ∈ rs, q.mark ≠ z) : findR rs z = none := List.find?_eq_none.mpr (by intro q hq; simpa using n q hq)
theorem findR_mem {rs : List Row} {z : Str} {r : Row} (h : findR rs z = some r) : r ∈ rs ∧ r.mark = z := ⟨List.mem_of_find?_eq_some h, by simpa using List.find?_some h⟩
/-- an error of the class X with the word z -/
abbrev ErrS (X : Addr) (f : Str) (v : V) (H : Hp) (E : XK) : Prop := ∀ H' d, Same H H' → H d = none → H' d = some (.xd [(f, v)]) → E (.ref X) (some d) H'
def spShGet (C X : Addr) : Sp := fun vs H Q E => ∃ (x : Addr) (z : Str) (rs : List Row), vs = [.ref x, .str z] ∧ ShO C H x rs ∧
  (∀ r p pp, findR rs z = some r → H p = some (.tup (rowL r pp)) → H pp = some (.tup (r.pars.map V.str)) → Q (.ref p) H) ∧ (findR rs z = none → ErrS X "mark" (.str z) H E)
def spShLen (C : Addr) : Sp := fun vs H Q _ => ∃ (x : Addr) (rs : List Row), vs = [.ref x] ∧ ShO C H x rs ∧ Q (.int rs.length) H
def spShHas (C : Addr) : Sp := fun vs H Q _ => ∃ (x : Addr) (z : Str) (rs : List Row), vs = [.ref x, .str z] ∧ ShO C H x rs ∧ Q (.bl (decide (z ∈ mks rs))) H
def spShEq (C : Addr) : Sp := fun vs H Q _ => ∃ (x y : Addr) (rs ts : List Row), vs = [.ref x, .ref y] ∧ ShO C H x rs ∧ ShO C H y ts ∧ wordsOk rs ∧ wordsOk ts ∧ Q (.bl (decide (rs = ts))) H
def spShMarks (C : Addr) : Sp := fun vs H Q _ => ∃ (x : Addr) (rs : List Row), vs = [.ref x] ∧ ShO C H x rs ∧ ∀ t H', Same H H' → H t = none → H' t = some (.tup (mksV rs)) → Q (.ref t) H'
def spShExc (C : Addr) : Sp := fun vs H Q _ => ∃ (x : Addr) (rs : List Row), vs = [.ref x] ∧ ShO C H x rs ∧ Q (.bl (!rs.any (·.sh))) H
def widthOf (rs : List Row) : Int := rs.foldl (fun (a : Int) (r : Row) => if a < r.most then r.most else a) 1
def spShWidth (C : Addr) : Sp := fun vs H Q _ => ∃ (x : Addr) (rs : List Row), vs = [.ref x] ∧ ShO C H x rs ∧ Q (.int (widthOf rs)) H
def modesV (sh : Bool) : List V := if sh then [.str "own", .str "share"] else [.str "own"]
/-- a tuple that was made, or a constant -/
def TupC (K : PySem.W.Frag) (H : Hp) (t : Addr) (xs : List V) : Prop := H t = some (.tup xs) ∨ ∀ H', SqT K H' t xs
theorem TupC.sq {K : PySem.W.Frag} {H : Hp} {t : Addr} {xs : List V} (h : TupC K H t xs) : SqT K H t xs := h.elim SqT.of fun h => h H
theorem TupC.same {K : PySem.W.Frag} {H H' : Hp} {t : Addr} {xs : List V} (h : TupC K H t xs) (s : Same H H') : TupC K H' t xs := h.imp (s _ _) id
def spShModes (K : PySem.W.Frag) (C X : Addr) : Sp := fun vs H Q E => ∃ (x : Addr) (z : Str) (rs : List Row), vs = [.ref x, .str z] ∧ ShO C H x rs ∧
  (∀ r t H', findR rs z = some r → Same H H' → TupC K H' t (modesV r.sh) → Q (.ref t) H') ∧ (findR rs z = none → ErrS X "mark" (.str z) H E)
theorem sh_look1 (l m : Addr) : List.lookup ("_listed" : Str) [(("_listed" : Str), V.ref l), ("_marks", V.ref m)] = some (V.ref l) := rfl
theorem sh_look2 (l m : Addr) : List.lookup ("_marks" : Str) [(("_listed" : Str), V.ref l), ("_marks", V.ref m)] = some (V.ref m) := rfl
section
variable {w : World} {K : PySem.W.Frag} {mg : Str → Option Value} {base : Heap}
theorem ok_Shape_eq (T : Txt K mg) : FnOk PP w K mg base CX0 1 T.a_Shape_eq T.fd_Shape_eq ["self", "other"] (spShEq T.c_Shape) := by
  refine T.F_Shape_eq.ok sc_Shape_eq (fun vs H Q E h => ?_) (fun cdv A outer s H vs Q E hr h => ?_)
  · obtain ⟨x, y, ss, tt, rfl, _⟩ := h; rfl
  · obtain ⟨x, y, ss, tt, rfl, ⟨dx, l, m, us, hx, hl, hs, hm⟩, ⟨dy, l2, m2, vs, hy, hl2, ht, hm2⟩, gs, gt, q⟩ := h
    refine ⟨_, (pss_one (ps_ret (pe_and (pe_callB call_isi (by rfl) T.n_isinstance (by decide +kernel) (pa_cons (pv 1) (pa_cons (pe_glob (v := .ref T.c_Shape) (by rfl) T.g_Shape rfl) pa_nil))) (pe_one (pe_cmpR (op_eqD hr.units) (pe_fld (pv 0) rfl) (pe_fld (pv 1) rfl) (nomark _)))))), ?_⟩
    refine ⟨_, rfl, _, _, _, _, true, rfl, ClsV.own _, .base (T.ti_Shape _ _ _ _ hy), T.kk_Shape, _, rfl, iteT ?_⟩
    refine ⟨_, rfl, x, _, dx, _, _, rfl, hx, T.cl_Shape, T.no_Shape__listed, sh_look1 l m, _, rfl, y, _, dy, _, _, rfl, hy, T.cl_Shape, T.no_Shape__listed, sh_look1 l2 m2, _, _, .lst (SqL.of hl) (rowsDp hs), .lst (SqL.of hl2) (rowsDp ht), rows_shaped gs, rows_shaped gt, ?_⟩
    rw [PyData.eqv, eqv_rows]
    exact q
theorem ok_Shape_getitem (T : Txt K mg) : FnOk PP w K mg base (L2.CX PP w) 2 T.a_Shape_getitem T.fd_Shape_getitem ["self", "mark"] (spShGet T.c_Shape T.c_UnknownMark) := by
  refine T.F_Shape_getitem.okX sc_Shape_getitem (fun vs H Q E h => ?_) (fun cdv A outer s H vs Q E hr h => ?_)
  · obtain ⟨x, z, rs, rfl, _⟩ := h; rfl
  · obtain ⟨x, z, rs, rfl, ⟨dx, l, m, us, hx, hl, hs, hm⟩, q, qx⟩ := h
    refine ⟨_, (pss_cons (ps_for (passes_of rfl) rfl (pi_list (pe_fld (pv 0) rfl)) (pg_name (i := 2) sc_Shape_getitem.nd rfl (.inl rfl)) (pss_one (ps_if (pt_cmpR op_eq (pe_ix ix_tup (pv 2) (pe_int) (fun _ _ => rfl)) (pv 1) (nomark _)) (pss_one (ps_ret (pv 2))) pss_nil)))
      (pss_one (ps_raiseX rfl T.x_UnknownMark hr (takes_of rfl rfl rfl rfl) (pa_cons (pv 1) pa_nil)))), ?_⟩
    refine ⟨_, rfl, x, _, dx, _, _, rfl, hx, T.cl_Shape, T.no_Shape__listed, sh_look1 l m, l, rfl, ⟨_, SqL.of hl⟩, for_list (K := K) (a := l) (xs := us) (fun i σ H' => ∃ x2, σ = [some (.ref x), some (.str z), x2] ∧ H' = H ∧ ∀ q ∈ rs.take i, q.mark ≠ z) ⟨_, rfl, rfl, fun q h => by rw [List.take_zero] at h; cases h⟩ (fun i σ H' _ ⟨_, _, e, _⟩ => e ▸ SqL.of hl) ?_ ?_⟩
    · rintro i v σ H2 hv ⟨x1, rfl, rfl, nb⟩
      obtain ⟨r, hr, p, pp, rfl, hp, hpp⟩ := pair_get' hs hv
      refine ⟨_, rfl, _, _, _, _, rfl, rfl, SqT.of hp, atI_nat (j := 0) rfl, _, rfl, rfl, _, rfl, iteD (fun c => ?_) (fun c => ?_)⟩
      · exact ⟨_, rfl, q r p pp (findR_at hr (V.str.inj c) nb) hp hpp⟩
      · refine ⟨_, rfl, rfl, fun t ht => ?_⟩
        rw [List.take_succ, hr] at ht
        rcases List.mem_append.mp ht with ht | ht
        · exact nb t ht
        · rw [List.mem_singleton.mp ht]; exact fun e => c (by rw [e])
    · rintro σ H2 ⟨x1, rfl, rfl, nb⟩
      rw [pair_len' hs, List.take_length] at nb
      exact ⟨_, rfl, _, rfl, fun d hd => qx (findR_no nb) _ d (same_new hd) hd upd_same⟩
end
end My

namespace My
open PySem L2
/-! ### drawn marks -/
def spLMarks (K : PySem.W.Frag) : Sp := fun vs H Q _ => ∃ (d t : Addr) (n : Nat), vs = [.ref d, .ref t, .int n] ∧ Dr K H d t ∧ n ≤ 26 ∧
  ∀ (ms : List Str) p H', ms.length = n → ms.Nodup → (∀ m ∈ ms, isMk m = true) → Dr K H' d t → But t H H' → H p = none → H' p = some (.lst (ms.map V.str)) → Q (.ref p) H'
theorem joinL_nil : ∀ ls : List (List Nat), TL.joinL [] ls = ls.flatten
  | [] => rfl
  | [p] => by simp [TL.joinL]
  | p :: q :: r => by
    have := joinL_nil (q :: r)
    rw [TL.joinL, this]; simp
theorem letters_tl : ("abcdefghijklmnopqrstuvwxyz" : Str).cps.toList = (List.range 26).map (97 + ·) := by decide +kernel
theorem letter_at {i : Int} (h0 : 0 ≤ i) (h1 : i < 26) : atI ("abcdefghijklmnopqrstuvwxyz" : Str).cps.toList i = some (97 + i.toNat) := by
  obtain ⟨j, rfl⟩ := Int.eq_ofNat_of_zero_le h0
  refine atI_nat ?_
  rw [letters_tl, List.getElem?_map, List.getElem?_range (by omega)]
  rfl
def letS (i : Int) : Str := ⟨#[97 + i.toNat]⟩
theorem tl_letS (i : Int) : TL.tl (letS i) = [97 + i.toNat] := rfl
def restS (f : Int) (z : Nat) : Str := Txt.join "" ((List.range z).map fun j => letS ((f + 3 * (j : Nat)) % 26))
theorem tl_restS (f : Int) (z : Nat) : TL.tl (restS f z) = (List.range z).map fun j => 97 + ((f + 3 * (j : Nat)) % 26).toNat := by
  unfold restS
  rw [TL.join_eq, TL.tl_join, show TL.tl ("" : Str) = [] by decide +kernel, joinL_nil, List.map_map, ← List.flatMap_def]
  induction z with
  | zero => rfl
  | succ z ih => rw [List.range_succ, List.flatMap_append, ih, List.map_append]; rfl
theorem isMk_of {m : Str} (h1 : 1 ≤ (TL.tl m).length) (h8 : (TL.tl m).length ≤ 8) (ha : ∀ c ∈ TL.tl m, 97 ≤ c ∧ c ≤ 122) : isMk m = true := by
  unfold isMk
  rw [TL.len_tl, decide_eq_true ⟨h1, h8⟩, Bool.true_and, List.all_eq_true]
  exact fun c hc => decide_eq_true (ha c hc)
theorem let_ok (i : Int) : 97 ≤ 97 + (i % 26).toNat ∧ 97 + (i % 26).toNat ≤ 122 := by
  have := Int.emod_lt_of_pos i (show (0 : Int) < 26 by decide)
  have := Int.emod_nonneg i (show (26 : Int) ≠ 0 by decide)
  omega
theorem rest_ok {f : Int} {z c : Nat} (h : c ∈ TL.tl (restS f z)) : 97 ≤ c ∧ c ≤ 122 := by
  rw [tl_restS] at h
  obtain ⟨j, _, rfl⟩ := List.mem_map.mp h
  exact let_ok _
theorem rest_len (f : Int) (z : Nat) : (TL.tl (restS f z)).length = z := by rw [tl_restS, List.length_map, List.length_range]
theorem sum_let (f : Int) (z : Nat) : (((List.range z).map fun j => letS ((f + 3 * ((j : Nat) : Int)) % 26)).map (·.length)).sum = z := by
  induction z with
  | zero => rfl
  | succ z ih =>
    rw [List.range_succ, List.map_append, List.map_append, List.sum_append, ih]
    rfl
def sgn (sh : Int) (j : Nat) : Nat := 97 + ((sh + 5 * (j : Nat)) % 26).toNat
def keyOf (front : Bool) (m : Str) : Option Nat := if front then (TL.tl m).head? else (TL.tl m).getLast?
theorem key_nodup {front : Bool} {sh : Int} {ms : List Str} (hz : ms.length ≤ 26) (h : ∀ j m, ms[j]? = some m → keyOf front m = some (sgn sh j)) : ms.Nodup := by
  refine List.pairwise_iff_getElem.mpr fun i j hi hj hij e => ?_
  have e1 := h i _ (List.getElem?_eq_getElem hi)
  have e2 := h j _ (List.getElem?_eq_getElem hj)
  rw [e, e2] at e1
  have e1 := Option.some.inj e1
  unfold sgn at e1
  omega
section
variable {P : Program} {w : World} {K : PySem.W.Frag} {mg : Str → Option Value} {base : Heap}
theorem ok__law_marks (T : Txt K mg) : FnOk P w K mg base CX0 2 T.a__law_marks T.fd__law_marks ["_law_draws_here", "_law_at", "_law_count"] (spLMarks K) := by
  refine T.F__law_marks.ok sc__law_marks (fun vs H Q E h => ?_) (fun cdv A outer s H vs Q E hr h => ?_)
  · obtain ⟨d, t, n, rfl, _⟩ := h; rfl
  · obtain ⟨d, t, n, rfl, D0, hn, q⟩ := h
    refine ⟨_, (pss_cons (ps_set (i := 3) sc__law_marks.nd rfl (.inr rfl) (pe_str))
      (pss_cons (ps_set (i := 4) sc__law_marks.nd rfl (.inl rfl) (pe_call (ok__law_take T) (hr.mono (by omega)) (by rfl) T.g__law_take T.F__law_take.kp T.b__law_take .nil pass0 (pa_cons (pv 0) (pa_cons (pv 1) (pa_cons (pe_int) pa_nil)))))
      (pss_cons (ps_set (i := 5) sc__law_marks.nd rfl (.inl rfl) (pe_cmpR op_eq (pe_call (ok__law_take T) (hr.mono (by omega)) (by rfl) T.g__law_take T.F__law_take.kp T.b__law_take .nil pass0 (pa_cons (pv 0) (pa_cons (pv 1) (pa_cons (pe_int) pa_nil)))) (pe_int) (nomark _)))
      (pss_cons (ps_set (i := 6) sc__law_marks.nd rfl (.inl rfl) (pe_lst pa_nil))
      (pss_cons (ps_for PassesOwn.never rfl (pi_range1 (by rfl) T.n_range (pa_cons (pv 2) pa_nil)) (pg_name (i := 7) sc__law_marks.nd rfl (.inl rfl)) (pss_cons (ps_set (i := 8) sc__law_marks.nd rfl (.inl rfl) (pe_ix ix_list (pe_lst (pa_cons (pe_int) (pa_cons (pe_int) (pa_cons (pe_int) (pa_cons (pe_int) (pa_cons (pe_int) pa_nil)))))) (pe_call (ok__law_take T) (hr.mono (by omega)) (by rfl) T.g__law_take T.F__law_take.kp T.b__law_take .nil pass0 (pa_cons (pv 0) (pa_cons (pv 1) (pa_cons (pe_int) pa_nil)))) (fun _ _ => rfl)))
      (pss_cons (ps_set (i := 9) sc__law_marks.nd rfl (.inr rfl) (pe_call (ok__law_take T) (hr.mono (by omega)) (by rfl) T.g__law_take T.F__law_take.kp T.b__law_take .nil pass0 (pa_cons (pv 0) (pa_cons (pv 1) (pa_cons (pe_int) pa_nil)))))
      (pss_cons (ps_set (i := 10) sc__law_marks.nd rfl (.inl rfl) (pe_join (pe_str) (pe_lc (own := [("_law_j", 11)]) (g := (gName 11)) (by rfl) sc__law_marks.nd (pi_range1 (by rfl) T.n_range (pa_cons (pv 8) pa_nil)) (blkOk_by (own := [("_law_j", 11)]) (N := ["_law_draws_here", "_law_at", "_law_count", "_law_letters", "_law_shift", "_law_front", "_law_marks_here", "_law_k", "_law_size", "_law_first", "_law_rest", "_law_j", "_law_sign"]) (sc := defScope S__law_marks) (by decide +kernel)) (fun _ _ _ _ _ => (pg_name (i := 11) sc__law_marks.nd rfl (by first | exact .inl rfl | exact .inr rfl))) (fun _ _ _ _ _ => pts_nil) (fun _ _ _ _ _ => (pe_ix ix_str (pv 3) (pe_op op_mod (pe_op op_add (pv 9) (pe_op op_mul (pe_int) (pv 11))) (pe_int)) (fun _ _ => rfl))))))
      (pss_cons (ps_set (i := 12) sc__law_marks.nd rfl (.inl rfl) (pe_ix ix_str (pv 3) (pe_op op_mod (pe_op op_add (pv 4) (pe_op op_mul (pe_int) (pv 7))) (pe_int)) (fun _ _ => rfl)))
      (pss_one (ps_if (pt_val (pv 5)) (pss_one (ps_expr (pe_bm PySem.F.plainAttrs_list PySem.F.slot_list_append PySem.F.type_list_append mt_append (pv 6) (pa_cons (pe_op op_add_str (pv 12) (pv 10)) pa_nil)))) (pss_one (ps_expr (pe_bm PySem.F.plainAttrs_list PySem.F.slot_list_append PySem.F.type_list_append mt_append (pv 6) (pa_cons (pe_op op_add_str (pv 10) (pv 12)) pa_nil)))))))))))
      (pss_one (ps_ret (pv 6)))))))), ?_⟩
    have big : 100000 < sizeLine := by decide
    refine ⟨_, rfl, _, rfl, d, t, 26, rfl, D0, by decide, fun sh H1 h0 h1 D1 b1 => ?_⟩
    refine ⟨_, rfl, _, rfl, d, t, 2, rfl, D1, by decide, fun fr H2 _ _ D2 b2 => ⟨rfl, ?_⟩⟩
    generalize decide (V.int fr = V.int 1) = front
    refine ⟨Nat.zero_le _, fun l hl => ?_⟩
    have nlt : l ≠ t := D2.na hl
    have b2 := b1.trans b2
    have hl0 : H l = none := b2.free nlt hl
    have s3 := same_new (o := .lst []) hl
    refine ⟨_, rfl, _, rfl, by omega, by omega, for_range (lo := 0) (n := n) (fun k σ H' => ∃ (ms : List Str) (x7 x8 x9 x10 x11 x12 : Option V), σ = [some (.ref d), some (.ref t), some (.int n), some (.str "abcdefghijklmnopqrstuvwxyz"), some (.int sh), some (.bl front), some (.ref l), x7, x8, x9, x10, x11, x12] ∧ Dr K H' d t ∧ But t H H' ∧ H' l = some (.lst (ms.map V.str)) ∧ ms.length = k ∧
        ∀ j m, ms[j]? = some m → isMk m = true ∧ keyOf front m = some (sgn sh j))
      ⟨[], _, _, _, _, _, _, rfl, D2.same s3, b2.trans (But.of_same s3), upd_same, rfl, fun j m h => by simp at h⟩ ?_ ?_⟩
    · rintro k σ H3 hk ⟨ms, x7, x8, x9, x10, x11, x12, rfl, D3, b3, hl3, lk, hms⟩
      rw [Int.zero_add]
      refine ⟨by show 5 ≤ sizeLine; decide, fun m hm => ?_⟩
      have nmt : m ≠ t := D3.na hm
      have s4 := same_new (o := .lst [.int 0, .int 1, .int 2, .int 4, .int 7]) hm
      refine ⟨_, rfl, _, rfl, d, t, 5, rfl, D3.same s4, by decide, fun r H4 r0 r1 D4 b4 => ?_⟩
      obtain ⟨v, hv, mv⟩ := at_ok (xs := [.int 0, .int 1, .int 2, .int 4, .int 7]) r0 r1
      obtain ⟨z, rfl, hz⟩ : ∃ z : Nat, v = .int z ∧ z ≤ 7 := by
        simp only [List.mem_cons, List.not_mem_nil, or_false] at mv
        rcases mv with rfl | rfl | rfl | rfl | rfl
        · exact ⟨0, rfl, by decide⟩
        · exact ⟨1, rfl, by decide⟩
        · exact ⟨2, rfl, by decide⟩
        · exact ⟨4, rfl, by decide⟩
        · exact ⟨7, rfl, by decide⟩
      refine ⟨_, _, _, _, rfl, rfl, SqL.of (b4 _ _ nmt upd_same), hv, ?_⟩
      refine ⟨_, rfl, _, rfl, d, t, 26, rfl, D4, by decide, fun f H5 f0 f1 D5 b5 => ?_⟩
      have t5 : But t H H5 := ((b3.trans (But.of_same s4)).trans b4).trans b5
      have hl5 := b5 _ _ nlt (b4 _ _ nlt (s4 _ _ hl3))
      refine ⟨⟨_, rfl⟩, _, rfl, _, rfl, by omega, by omega, fun D hD => lc_range (lo := 0) (n := z) (fun i H' => Same H5 H' ∧ H' D = some (.lst (((List.range i).map fun j => letS ((f + 3 * (j : Nat)) % 26)).map V.str))) ⟨same_new hD, upd_same⟩ ?_ ?_⟩
      · rintro i H6 hi ⟨s6, h6⟩
        rw [Int.zero_add]
        refine ⟨rfl, ?_⟩
        unfold tYes
        refine iteT ⟨_, rfl, _, rfl, _, rfl, _, _, rfl, rfl, .inl ⟨by decide, by decide⟩, _, _, rfl, rfl, _, _, rfl, rfl, (show (0 : Int) < 26 by decide), _, _, _, rfl, rfl, by decide +kernel, letter_at (Int.emod_nonneg _ (by decide)) (Int.emod_lt_of_pos _ (by decide)), ?_⟩
        refine ⟨_, h6, by simp; omega, same_mut s6 hD, ?_⟩
        rw [upd_same, List.range_succ, List.map_append, List.map_append]; rfl
      · rintro H6 ⟨s6, h6⟩
        refine ⟨_, D, _, rfl, rfl, .inl (SqL.of h6), ?_, ?_⟩
        · rw [sum_let, List.length_map, List.length_range, show ("" : Str).length = 0 by decide +kernel]; omega
        show (fun _ => _) _
        refine ⟨_, rfl, _, rfl, _, rfl, _, _, rfl, rfl, .inl ⟨by decide, by decide⟩, _, _, rfl, rfl, _, _, rfl, rfl, (show (0 : Int) < 26 by decide), _, _, _, rfl, rfl, by decide +kernel, letter_at (Int.emod_nonneg _ (by decide)) (Int.emod_lt_of_pos _ (by decide)), ?_⟩
        have hl6 := s6 _ _ hl5
        have t6 := t5.trans (But.of_same s6)
        have D6 := D5.same s6
        have rl := rest_len f z
        have keep : ∀ m : Str, (isMk m = true ∧ keyOf front m = some (sgn sh k)) → ∀ j m', (ms ++ [m])[j]? = some m' → isMk m' = true ∧ keyOf front m' = some (sgn sh j) := fun m hm j m' h => by
          by_cases c : j < ms.length
          · rw [List.getElem?_append_left c] at h; exact hms j m' h
          · rw [List.getElem?_append_right (by omega)] at h
            obtain ⟨h1, h2⟩ := List.getElem?_eq_some_iff.mp h
            have h1 : j - ms.length < 1 := h1
            obtain rfl : j = k := by omega
            have e0 : j - ms.length = 0 := by omega
            rw [e0] at h
            exact Option.some.inj h ▸ hm
        refine ⟨_, rfl, _, rfl, ?_⟩
        cases front with
        | true =>
          refine iteT ⟨_, rfl, .inl ⟨rfl, _, SqL.of hl6⟩, _, rfl, _, rfl, _, _, rfl, rfl, ?_, _, _, _, rfl, rfl, hl6, by rw [List.length_map]; omega, ?_⟩
          · rw [TL.len_tl, TL.len_tl]; show 1 + _ ≤ _; rw [show TL.tl (Txt.join "" ((List.range z).map fun j => letS ((f + 3 * ((j : Nat) : Int)) % 26))) = TL.tl (restS f z) from rfl, rl]; omega
          · refine ⟨ms ++ [letS ((sh + 5 * (k : Nat)) % 26) ++ restS f z], _, _, _, _, _, _, rfl, D6.other But.upd (D0.nd hl0) nlt.symm, t6.mut hl0, by rw [upd_same, List.map_append]; rfl, by rw [List.length_append, lk]; rfl, keep _ ⟨isMk_of ?_ ?_ ?_, ?_⟩⟩
            · rw [TL.tl_append, List.length_append]; show 1 ≤ 1 + _; omega
            · rw [TL.tl_append, List.length_append, rl]; show 1 + _ ≤ _; omega
            · intro c hc
              rw [TL.tl_append] at hc
              rcases List.mem_append.mp hc with hc | hc
              · rw [List.mem_singleton.mp hc]; exact let_ok _
              · exact rest_ok hc
            · unfold keyOf; rw [TL.tl_append]; rfl
        | false =>
          refine iteF ⟨_, rfl, .inl ⟨rfl, _, SqL.of hl6⟩, _, rfl, _, rfl, _, _, rfl, rfl, ?_, _, _, _, rfl, rfl, hl6, by rw [List.length_map]; omega, ?_⟩
          · rw [TL.len_tl, TL.len_tl]; show _ + 1 ≤ _; rw [show TL.tl (Txt.join "" ((List.range z).map fun j => letS ((f + 3 * ((j : Nat) : Int)) % 26))) = TL.tl (restS f z) from rfl, rl]; omega
          · refine ⟨ms ++ [restS f z ++ letS ((sh + 5 * (k : Nat)) % 26)], _, _, _, _, _, _, rfl, D6.other But.upd (D0.nd hl0) nlt.symm, t6.mut hl0, by rw [upd_same, List.map_append]; rfl, by rw [List.length_append, lk]; rfl, keep _ ⟨isMk_of ?_ ?_ ?_, ?_⟩⟩
            · rw [TL.tl_append, List.length_append]; show 1 ≤ _ + 1; omega
            · rw [TL.tl_append, List.length_append, rl]; show _ + 1 ≤ _; omega
            · intro c hc
              rw [TL.tl_append] at hc
              rcases List.mem_append.mp hc with hc | hc
              · exact rest_ok hc
              · rw [List.mem_singleton.mp hc]; exact let_ok _
            · unfold keyOf; rw [TL.tl_append]; exact List.getLast?_concat
    · rintro σ H3 ⟨ms, x7, x8, x9, x10, x11, x12, rfl, D3, b3, hl3, lk, hms⟩
      refine ⟨_, rfl, q ms l H3 lk (key_nodup (by omega) fun j m h => (hms j m h).2) (fun m hm => ?_) D3 b3 hl0 hl3⟩
      obtain ⟨j, hj⟩ := List.mem_iff_getElem?.mp hm
      exact (hms j m hj).1
end
end My

namespace My
open PySem L2
/-! ### all but what A holds stays -/
def Le (A : List Addr) (H H' : Hp) : Prop := ∀ b o, b ∉ A → H b = some o → H' b = some o
theorem Le.refl (A : List Addr) (H : Hp) : Le A H H := fun _ _ _ h => h
theorem Le.trans {A : List Addr} {H H1 H2 : Hp} (x : Le A H H1) (y : Le A H1 H2) : Le A H H2 := fun b o n h => y b o n (x b o n h)
theorem Le.same {A : List Addr} {H H' : Hp} (s : Same H H') : Le A H H' := fun b o _ h => s b o h
theorem Le.but {A : List Addr} {t : Addr} {H H' : Hp} (m : t ∈ A) (b : But t H H') : Le A H H' := fun a o n h => b a o (fun z => n (z ▸ m)) h
theorem Le.upd {A : List Addr} {H : Hp} {p : Addr} {o : HO} (m : p ∈ A) : Le A H (upd H p o) := fun a u n e => by rw [upd_ne (show a ≠ p from fun q => n (by rw [q]; exact m))]; exact e
theorem Le.put {A : List Addr} {H H' : Hp} {p : Addr} {o : HO} (x : Le A H H') (h : H p = none) : Le A H (L2.upd H' p o) := fun a u n e => by rw [upd_ne (ne_of_none e h)]; exact x a u n e
/-- the addresses of A are taken -/
def Al (A : List Addr) (H : Hp) : Prop := ∀ a ∈ A, ∃ o, H a = some o
theorem Al.nin {A : List Addr} {H : Hp} (h : Al A H) {p : Addr} (n : H p = none) : p ∉ A := fun m => by obtain ⟨o, e⟩ := h p m; rw [n] at e; cases e
theorem Al.same {A : List Addr} {H H' : Hp} (h : Al A H) (s : Same H H') : Al A H' := fun a m => (h a m).elim fun o e => ⟨o, s _ _ e⟩
/-! ### drawn rows of a shape -/
structure PRow where
  idx : Int
  pars : List Int
  least : Int
  most : Int
  sh : Bool
def prL (r : PRow) (pp : Addr) : List V := [.int r.idx, .ref pp, .int r.least, .int r.most, .bl r.sh]
def PrV (A : List Addr) (H : Hp) (v : V) (r : PRow) : Prop := ∃ p pp, v = .ref p ∧ p ∉ A ∧ pp ∉ A ∧ H p = some (.lst (prL r pp)) ∧ H pp = some (.lst (r.pars.map V.int))
theorem PrV.le {A : List Addr} {H H' : Hp} {v : V} {r : PRow} (h : PrV A H v r) (l : Le A H H') : PrV A H' v r := let ⟨p, pp, e, a, b, c, d⟩ := h; ⟨p, pp, e, a, b, l _ _ a c, l _ _ b d⟩
theorem PrV.sub {A B : List Addr} {H : Hp} {v : V} {r : PRow} (h : PrV A H v r) (s : ∀ a ∈ B, a ∈ A) : PrV B H v r := let ⟨p, pp, e, a, b, c, d⟩ := h; ⟨p, pp, e, fun m => a (s _ m), fun m => b (s _ m), c, d⟩
def listOk (n : Nat) (js : List Int) : Prop := js.Nodup ∧ ∀ j ∈ js, 0 ≤ j ∧ j < n
structure PrOk (n k : Nat) (r : PRow) : Prop where
  idx : r.idx = k
  pars : listOk n r.pars
  l0 : 0 ≤ r.least
  lm : r.least ≤ r.most
  m4 : r.most ≤ 4
  pm : 0 < r.most ↔ r.pars ≠ []
  low : r.least ≠ 0 → ∃ j ∈ r.pars, j < (k : Int)
def PlanOk (n : Nat) (prs : List PRow) : Prop := prs.length = n ∧ ∀ k r, prs[k]? = some r → PrOk n k r
def spLPlan (K : PySem.W.Frag) : Sp := fun vs H Q _ => ∃ (d t : Addr) (n : Nat), vs = [.ref d, .ref t, .int n] ∧ Dr K H d t ∧ n ≤ 26 ∧
  ∀ (prs : List PRow) us p H', PlanOk n prs → Dr K H' d t → But t H H' → H p = none → H' p = some (.lst us) → Paired (PrV [t] H') us prs → Q (.ref p) H'
theorem lst_len {n : Nat} {js : List Int} (h : listOk n js) : js.length ≤ n := by
  have nd : (js.map Int.toNat).Nodup := by
    refine List.pairwise_map.mpr (List.Pairwise.imp_of_mem (fun {a b} ha hb ne e => ne ?_) h.1)
    have := h.2 a ha; have := h.2 b hb; omega
  have sub : ∀ x ∈ js.map Int.toNat, x ∈ List.range n := fun x hx => by
    obtain ⟨j, hj, rfl⟩ := List.mem_map.mp hx
    have := h.2 j hj
    exact List.mem_range.mpr (by omega)
  have := List.Nodup.length_le_of_subset nd sub
  rwa [List.length_map, List.length_range] at this
section
variable {P : Program} {w : World} {K : PySem.W.Frag} {mg : Str → Option Value} {base : Heap}
end
end My

namespace My
open PySem L2
/-! ### rows of a shape with names, as lists or tuples, at addresses of F -/
def seqO (b : Bool) (xs : List V) : HO := if b then .lst xs else .tup xs
def RowN (F : Addr → Prop) (b : Bool) (H : Hp) (v : V) (r : Row) : Prop := ∃ p pp, v = .ref p ∧ F p ∧ F pp ∧ H p = some (seqO b (rowL r pp)) ∧ H pp = some (seqO b (r.pars.map V.str))
abbrev RowsN (F : Addr → Prop) (b : Bool) (H : Hp) (vs : List V) (rs : List Row) : Prop := Paired (RowN F b H) vs rs
theorem RowN.le {F : Addr → Prop} {b : Bool} {H H' : Hp} {v : V} {r : Row} (h : RowN F b H v r) (l : ∀ a o, F a → H a = some o → H' a = some o) : RowN F b H' v r := let ⟨p, pp, e, f, g, x, y⟩ := h; ⟨p, pp, e, f, g, l _ _ f x, l _ _ g y⟩
theorem RowN.sub {F G : Addr → Prop} {b : Bool} {H : Hp} {v : V} {r : Row} (h : RowN F b H v r) (l : ∀ a, F a → G a) : RowN G b H v r := let ⟨p, pp, e, f, g, x, y⟩ := h; ⟨p, pp, e, l _ f, l _ g, x, y⟩
theorem rowsN_le {F : Addr → Prop} {b : Bool} {H H' : Hp} {vs : List V} {rs : List Row} (h : RowsN F b H vs rs) (l : ∀ a o, F a → H a = some o → H' a = some o) : RowsN F b H' vs rs := L2.Paired.mapP h fun _ _ x => x.le l
theorem rowsN_same {F : Addr → Prop} {b : Bool} {H H' : Hp} {vs : List V} {rs : List Row} (h : RowsN F b H vs rs) (s : Same H H') : RowsN F b H' vs rs := rowsN_le h fun a o _ e => s a o e
theorem rowsN_sub {F G : Addr → Prop} {b : Bool} {H : Hp} {vs : List V} {rs : List Row} (h : RowsN F b H vs rs) (l : ∀ a, F a → G a) : RowsN G b H vs rs := L2.Paired.mapP h fun _ _ x => x.sub l
theorem RowN.toV {F : Addr → Prop} {b : Bool} {H : Hp} {v : V} {r : Row} (h : RowN F b H v r) : RowV H v r := by
  obtain ⟨p, pp, e, _, _, x, y⟩ := h
  cases b with
  | true => exact ⟨p, pp, e, .inr x, .inr y⟩
  | false => exact ⟨p, pp, e, .inl x, .inl y⟩
theorem rowsN_toV {F : Addr → Prop} {b : Bool} {H : Hp} {vs : List V} {rs : List Row} (h : RowsN F b H vs rs) : Paired (RowV H) vs rs := L2.Paired.mapP h fun _ _ x => x.toV
abbrev New (H0 : Hp) : Addr → Prop := fun a => H0 a = none
def nm (ms : List Str) (i : Int) : Str := ms.getD i.toNat ""
def nameR (ms : List Str) (r : PRow) : Row := ⟨nm ms r.idx, r.pars.map (nm ms), r.least, r.most, r.sh⟩
def spLNamed (K : PySem.W.Frag) : Sp := fun vs H Q _ => ∃ (a b : Addr) (us : List V) (prs : List PRow) (n : Nat) (ms : List Str), vs = [.ref a, .ref b] ∧ H a = some (.lst us) ∧ Paired (PrV [] H) us prs ∧ PlanOk n prs ∧ n ≤ ms.length ∧ n ≤ 26 ∧ H b = some (.lst (ms.map V.str)) ∧
  ∀ p ws H', Same H H' → H p = none → H' p = some (.lst ws) → RowsN (New H) true H' ws (prs.map (nameR ms)) → Q (.ref p) H'
def spLHanded (K : PySem.W.Frag) : Sp := fun vs H Q _ => ∃ (a : Addr) (b : Bool) (us : List V) (rs : List Row), vs = [.ref a, .bl b] ∧ H a = some (.lst us) ∧ RowsN (fun _ => True) true H us rs ∧ us.length ≤ 100 ∧
  ∀ p ws H', Same H H' → H p = none → H' p = some (.lst ws) → RowsN (fun a => H a = none ∧ a ≠ p) b H' ws rs → Q (.ref p) H'
def spLWidth (K : PySem.W.Frag) : Sp := fun vs H Q _ => ∃ (a : Addr) (us : List V) (rs : List Row), vs = [.ref a] ∧ H a = some (.lst us) ∧ RowsN (fun _ => True) true H us rs ∧ Q (.int (widthOf rs)) H
theorem nm_at {ms : List Str} {i : Int} (h0 : 0 ≤ i) (h1 : i < ms.length) : atI (ms.map V.str) i = some (.str (nm ms i)) := by
  obtain ⟨j, rfl⟩ := Int.eq_ofNat_of_zero_le h0
  refine atI_nat ?_
  have hj : j < ms.length := by omega
  unfold nm
  rw [List.getElem?_map, List.getElem?_eq_getElem hj, List.getD_eq_getElem?_getD, Int.toNat_natCast, List.getElem?_eq_getElem hj]
  rfl
theorem named_in {K : PySem.W.Frag} {x0 x3 : Option V} {b p pp : Addr} {xs : List V} {js : List Int} {ms : List Str} {H : Hp} {Q : VK} (hb : H b = some (.lst (ms.map V.str))) (hp : H p = some (.lst xs)) (hx : atI xs 1 = some (.ref pp)) (hpp : H pp = some (.lst (js.map V.int))) (hz : js.length ≤ 1000) (hj : ∀ j ∈ js, 0 ≤ j ∧ j < ms.length)
    (q : ∀ D H', Same H H' → H D = none → H' D = some (.lst ((js.map (nm ms)).map V.str)) → Q (.ref D) H') :
    tLc (iList K (tOp (rIxL K) (tVar 2) (tC (.int 1)))) (gName 3) tYes (tOp (rIxL K) (tVar 1) (tVar 3)) [3] [x0, some (.ref b), some (.ref p), x3] H Q := by
  have big : 100000 < sizeLine := by decide
  refine ⟨_, rfl, _, _, _, _, rfl, rfl, SqL.of hp, hx, pp, rfl, ⟨_, SqL.of hpp⟩, fun E hE => lc_list (K := K) (a := pp) (xs := js.map V.int) (fun i H' => Same H H' ∧ H' E = some (.lst (((js.take i).map (nm ms)).map V.str))) ⟨same_new hE, upd_same⟩ (fun i H' _ h => SqL.of (h.1 _ _ hpp)) ?_ ?_⟩
  · rintro i v H2 hv ⟨s2, h2⟩
    obtain ⟨z, hz', rfl⟩ := get_int hv
    have zok := hj z (List.mem_of_getElem? hz')
    refine ⟨rfl, ?_⟩
    unfold tYes
    refine iteT ⟨_, rfl, _, rfl, _, _, _, _, rfl, rfl, SqL.of (s2 _ _ hb), nm_at zok.1 zok.2, _, h2, ?_, same_mut s2 hE, ?_⟩
    · rw [List.length_map, List.length_map, List.length_take]; omega
    · rw [upd_same, List.take_succ, hz', List.map_append, List.map_append]; rfl
  · rintro H2 ⟨s2, h2⟩
    rw [List.length_map, List.take_length] at h2
    exact q E H2 s2 hE h2
section
variable {P : Program} {w : World} {K : PySem.W.Frag} {mg : Str → Option Value} {base : Heap}
end
end My

namespace My
open PySem L2
/-! ### good shapes, changed -/
def rowOk (r : Row) : Prop := isMk r.mark = true ∧ sizeB r = true ∧ (decide (0 < r.most) == decide (0 < r.pars.length)) = true ∧ r.pars.Nodup
theorem fineB_iff {r : Row} {bs : List Str} : fineB r bs = true ↔ rowOk r ∧ r.mark ∉ bs := by
  unfold fineB rowOk
  simp only [Bool.and_eq_true, Bool.not_eq_true', decide_eq_false_iff_not, decide_eq_true_iff]
  constructor
  · rintro ⟨⟨⟨a, b, c⟩, d⟩, e⟩; exact ⟨⟨a, c, d, e⟩, b⟩
  · rintro ⟨⟨a, c, d, e⟩, b⟩; exact ⟨⟨⟨a, b, c⟩, d⟩, e⟩
theorem nodup_take {l : List Str} : l.Nodup ↔ ∀ (j : Nat) (x : Str), l[j]? = some x → x ∉ l.take j := by
  constructor
  · intro h j x hx m
    obtain ⟨i, hi, e⟩ := List.getElem_of_mem m
    rw [List.length_take] at hi
    rw [List.getElem_take] at e
    obtain ⟨hj, e2⟩ := List.getElem?_eq_some_iff.mp hx
    exact List.pairwise_iff_getElem.mp h i j (by omega) hj (by omega) (e.trans e2.symm)
  · intro h
    refine List.pairwise_iff_getElem.mpr fun i j hi hj hij e => h j _ (List.getElem?_eq_getElem hj) ?_
    rw [← e]
    exact List.mem_iff_getElem.mpr ⟨i, by rw [List.length_take]; omega, by rw [List.getElem_take]⟩
structure GoodC (rs : List Row) : Prop where
  len : rs.length ≤ 6
  nd : (mks rs).Nodup
  row : ∀ r ∈ rs, rowOk r
  pars : ∀ q ∈ rs, parsOk rs q
  fert : ∀ q ∈ rs, Fert rs q.mark
theorem mks_take (rs : List Row) (j : Nat) : mks (rs.take j) = (mks rs).take j := List.map_take ..
theorem Good.c {rs : List Row} (g : Good rs) : GoodC rs := by
  refine ⟨g.len, nodup_take.mpr fun j x hx m => ?_, fun r hr => ?_, g.pars, g.fert⟩
  · unfold mks at hx
    rw [List.getElem?_map] at hx
    cases e : rs[j]? with
    | none => rw [e] at hx; cases hx
    | some r =>
      rw [e] at hx
      have e2 := (fineB_iff.mp (g.fine j r e)).2
      rw [mks_take, show r.mark = x from Option.some.inj hx] at e2
      exact e2 m
  · obtain ⟨j, hj⟩ := List.mem_iff_getElem?.mp hr
    exact (fineB_iff.mp (g.fine j r hj)).1
theorem GoodC.g {rs : List Row} (g : GoodC rs) : Good rs := by
  refine ⟨g.len, fun j r hr => fineB_iff.mpr ⟨g.row r (List.mem_of_getElem? hr), ?_⟩, g.pars, g.fert⟩
  rw [mks_take]
  refine nodup_take.mp g.nd j _ ?_
  unfold mks
  rw [List.getElem?_map, hr]; rfl
theorem Fert.mono {rs ts : List Row} (h : ∀ r ∈ rs, ∃ q ∈ ts, q.mark = r.mark ∧ q.least = r.least ∧ q.pars = r.pars) {m : Str} (f : Fert rs m) : Fert ts m := by
  induction f with
  | @base r hr e =>
    obtain ⟨q, hq, a, b, _⟩ := h r hr
    exact a ▸ .base hq (b.trans e)
  | @step r p hr hp _ ih =>
    obtain ⟨q, hq, a, _, c⟩ := h r hr
    exact a ▸ .step hq (c ▸ hp) ih
theorem GoodC.alike {rs ts : List Row} (g : GoodC rs) (hl : ts.length ≤ 6) (nd : (mks ts).Nodup) (a : ∀ q ∈ ts, rowOk q ∧ ∃ r ∈ rs, q.mark = r.mark ∧ q.pars = r.pars) (b : ∀ r ∈ rs, ∃ q ∈ ts, q.mark = r.mark ∧ q.least = r.least ∧ q.pars = r.pars) : GoodC ts := by
  refine ⟨hl, nd, fun q hq => (a q hq).1, fun q hq p hp => ?_, fun q hq => ?_⟩
  · obtain ⟨r, hr, _, e⟩ := (a q hq).2
    obtain ⟨r2, hr2, e2⟩ := List.mem_map.mp (g.pars r hr p (e ▸ hp))
    obtain ⟨q2, hq2, e3, _⟩ := b r2 hr2
    exact List.mem_map.mpr ⟨q2, hq2, e3.trans e2⟩
  · obtain ⟨r, hr, e, _⟩ := (a q hq).2
    rw [e]
    exact (g.fert r hr).mono b
theorem set_marks {rs : List Row} {i : Nat} {r q : Row} (h : rs[i]? = some r) (e : q.mark = r.mark) : mks (rs.set i q) = mks rs := by
  unfold mks
  rw [List.map_set, e]
  refine List.ext_getElem? fun j => ?_
  rw [List.getElem?_set]
  split
  · rename_i c; subst c
    rw [List.getElem?_map, h]
    have := (List.getElem?_eq_some_iff.mp h).1
    simp [this]
  · rfl
theorem GoodC.put {rs : List Row} (g : GoodC rs) {i : Nat} {r q : Row} (h : rs[i]? = some r) (e : q.mark = r.mark) (el : q.least = r.least) (ep : q.pars = r.pars) (ok : rowOk q) : GoodC (rs.set i q) := by
  have hi := (List.getElem?_eq_some_iff.mp h).1
  have mq : q ∈ rs.set i q := List.mem_iff_getElem?.mpr ⟨i, by rw [List.getElem?_set]; simp [hi]⟩
  refine g.alike (by rw [List.length_set]; exact g.len) (by rw [set_marks h e]; exact g.nd) (fun x hx => ?_) (fun x hx => ?_)
  · rcases List.mem_or_eq_of_mem_set hx with hx | hx
    · exact ⟨g.row x hx, x, hx, rfl, rfl⟩
    · subst hx; exact ⟨ok, r, List.mem_of_getElem? h, e, ep⟩
  · obtain ⟨j, hj⟩ := List.mem_iff_getElem?.mp hx
    by_cases c : i = j
    · subst c
      rw [h] at hj
      obtain rfl := Option.some.inj hj
      exact ⟨q, mq, e, el, ep⟩
    · exact ⟨x, List.mem_iff_getElem?.mpr ⟨j, by rw [List.getElem?_set, if_neg c]; exact hj⟩, rfl, rfl, rfl⟩
theorem GoodC.swap {rs : List Row} (g : GoodC rs) {i : Nat} {r q : Row} (h : rs[i]? = some r) (h0 : rs[0]? = some q) : GoodC ((rs.set i q).set 0 r) := by
  obtain ⟨hi, ei⟩ := List.getElem?_eq_some_iff.mp h
  obtain ⟨hz, ez⟩ := List.getElem?_eq_some_iff.mp h0
  have sub : ∀ x, x ∈ (rs.set i q).set 0 r → x ∈ rs := fun x hx => by
    rcases List.mem_or_eq_of_mem_set hx with hx | hx
    · rcases List.mem_or_eq_of_mem_set hx with hx | hx
      · exact hx
      · subst hx; exact List.mem_of_getElem? h0
    · subst hx; exact List.mem_of_getElem? h
  have sup : ∀ x, x ∈ rs → x ∈ (rs.set i q).set 0 r := fun x hx => by
    obtain ⟨j, hj⟩ := List.mem_iff_getElem?.mp hx
    by_cases c : j = i
    · subst c
      rw [h] at hj
      obtain rfl := Option.some.inj hj
      exact List.mem_iff_getElem?.mpr ⟨0, by rw [List.getElem?_set]; simp [hz]⟩
    by_cases c0 : j = 0
    · subst c0
      rw [h0] at hj
      obtain rfl := Option.some.inj hj
      refine List.mem_iff_getElem?.mpr ⟨i, ?_⟩
      rw [List.getElem?_set, if_neg (fun z => c z), List.getElem?_set]
      simp [hi]
    · exact List.mem_iff_getElem?.mpr ⟨j, by rw [List.getElem?_set, if_neg (fun z => c0 z.symm), List.getElem?_set, if_neg (fun z => c z.symm)]; exact hj⟩
  refine g.alike (by rw [List.length_set, List.length_set]; exact g.len) ?_ (fun x hx => ⟨g.row x (sub x hx), x, sub x hx, rfl, rfl⟩) (fun x hx => ⟨x, sup x hx, rfl, rfl, rfl⟩)
  have inj : ∀ a b (ha : a < rs.length) (hb : b < rs.length), rs[a].mark = rs[b].mark → a = b := fun a b ha hb e => by
    have n := List.pairwise_iff_getElem.mp g.nd
    unfold mks at n
    rcases Nat.lt_trichotomy a b with c | c | c
    · exact absurd (by rw [List.getElem_map, List.getElem_map]; exact e) (n a b (by rw [List.length_map]; exact ha) (by rw [List.length_map]; exact hb) c)
    · exact c
    · exact absurd (by rw [List.getElem_map, List.getElem_map]; exact e.symm) (n b a (by rw [List.length_map]; exact hb) (by rw [List.length_map]; exact ha) c)
  refine List.pairwise_iff_getElem.mpr fun a b ha hb hab e => ?_
  unfold mks at ha hb e
  rw [List.length_map, List.length_set, List.length_set] at ha hb
  rw [List.getElem_map, List.getElem_map] at e
  simp only [List.getElem_set] at e
  subst ei ez
  have i0 := inj
  split at e <;> split at e <;> (try split at e) <;> (try split at e) <;> first | omega | (have := inj _ _ _ _ e; omega)
theorem GoodC.add {rs : List Row} (g : GoodC rs) {z : Str} (hl : rs.length < 6) (hz : isMk z = true) (nz : z ∉ mks rs) : GoodC (rs ++ [⟨z, [], 0, 0, false⟩]) := by
  have em : mks (rs ++ [⟨z, [], 0, 0, false⟩]) = mks rs ++ [z] := by unfold mks; rw [List.map_append]; rfl
  refine ⟨by rw [List.length_append]; simp; omega, ?_, fun r hr => ?_, fun r hr p hp => ?_, fun r hr => ?_⟩
  · rw [em, List.nodup_append]
    exact ⟨g.nd, by simp, fun a ha b hb e => nz (by rw [List.mem_singleton] at hb; rw [← hb, ← e]; exact ha)⟩
  · rcases List.mem_append.mp hr with hr | hr
    · exact g.row r hr
    · rw [List.mem_singleton.mp hr]; exact ⟨hz, rfl, rfl, List.nodup_nil⟩
  · rcases List.mem_append.mp hr with hr | hr
    · rw [em]; exact List.mem_append_left _ (g.pars r hr p hp)
    · rw [List.mem_singleton.mp hr] at hp; cases hp
  · rcases List.mem_append.mp hr with hr | hr
    · exact (g.fert r hr).mono fun q hq => ⟨q, List.mem_append_left _ hq, rfl, rfl, rfl⟩
    · rw [List.mem_singleton.mp hr]
      exact Fert.base (r := ⟨z, [], 0, 0, false⟩) (List.mem_append_right _ (List.mem_singleton.mpr rfl)) rfl
def renS (o z m : Str) : Str := if m = o then z else m
def renR (o z : Str) (r : Row) : Row := ⟨renS o z r.mark, r.pars.map (renS o z), r.least, r.most, r.sh⟩
theorem renS_inj {o z : Str} {l : List Str} (nz : z ∉ l) {a b : Str} (ha : a ∈ l) (hb : b ∈ l) (e : renS o z a = renS o z b) : a = b := by
  unfold renS at e
  by_cases c : a = o <;> by_cases d : b = o
  · rw [c, d]
  · rw [if_pos c, if_neg d] at e; rw [← e] at hb; exact absurd hb nz
  · rw [if_neg c, if_pos d] at e; rw [e] at ha; exact absurd ha nz
  · rw [if_neg c, if_neg d] at e; exact e
theorem nodup_ren {o z : Str} {l m : List Str} (nz : z ∉ m) (s : ∀ a ∈ l, a ∈ m) (h : l.Nodup) : (l.map (renS o z)).Nodup :=
  List.pairwise_map.mpr (List.Pairwise.imp_of_mem (fun {a b} ha hb ne e => ne (renS_inj nz (s a ha) (s b hb) e)) h)
theorem GoodC.ren {rs : List Row} (g : GoodC rs) {o z : Str} (hz : isMk z = true) (nz : z ∉ mks rs) : GoodC (rs.map (renR o z)) := by
  have em : mks (rs.map (renR o z)) = (mks rs).map (renS o z) := by unfold mks; rw [List.map_map, List.map_map]; rfl
  refine ⟨by rw [List.length_map]; exact g.len, by rw [em]; exact nodup_ren nz (fun _ h => h) g.nd, fun q hq => ?_, fun q hq p hp => ?_, fun q hq => ?_⟩
  · obtain ⟨r, hr, rfl⟩ := List.mem_map.mp hq
    obtain ⟨a, b, c, d⟩ := g.row r hr
    refine ⟨?_, b, ?_, nodup_ren nz (g.pars r hr) d⟩
    · show isMk (renS o z r.mark) = true
      unfold renS; split
      · exact hz
      · exact a
    · show (decide (0 < r.most) == decide (0 < (r.pars.map (renS o z)).length)) = true
      rw [List.length_map]; exact c
  · obtain ⟨r, hr, rfl⟩ := List.mem_map.mp hq
    obtain ⟨y, hy, rfl⟩ := List.mem_map.mp hp
    rw [em]
    exact List.mem_map.mpr ⟨y, g.pars r hr y hy, rfl⟩
  · obtain ⟨r, hr, rfl⟩ := List.mem_map.mp hq
    have k : ∀ {m}, Fert rs m → Fert (rs.map (renR o z)) (renS o z m) := fun f => by
      induction f with
      | @base r hr e => exact Fert.base (r := renR o z r) (List.mem_map.mpr ⟨r, hr, rfl⟩) e
      | @step r p hr hp _ ih => exact Fert.step (r := renR o z r) (List.mem_map.mpr ⟨r, hr, rfl⟩) (List.mem_map.mpr ⟨p, hp, rfl⟩) ih
    exact k (g.fert r hr)
/-- drawn rows with drawn marks -/
theorem good_named {n : Nat} {prs : List PRow} {ms : List Str} (ok : PlanOk n prs) (h6 : n ≤ 6) (hn : n ≤ ms.length) (nd : ms.Nodup) (hm : ∀ m ∈ ms, isMk m = true) : GoodC (prs.map (nameR ms)) := by
  have nmi : ∀ {i : Int}, 0 ≤ i → i < n → nm ms i ∈ ms := fun {i} h0 h1 => by
    unfold nm
    rw [List.getD_eq_getElem?_getD, List.getElem?_eq_getElem (by omega)]
    exact List.getElem_mem _
  have inj : ∀ {i j : Int}, 0 ≤ i → i < n → 0 ≤ j → j < n → nm ms i = nm ms j → i = j := fun {i j} a b c d e => by
    unfold nm at e
    rw [List.getD_eq_getElem?_getD, List.getD_eq_getElem?_getD, List.getElem?_eq_getElem (by omega), List.getElem?_eq_getElem (by omega)] at e
    have e : ms[i.toNat]'(by omega) = ms[j.toNat]'(by omega) := e
    have p := List.pairwise_iff_getElem.mp nd
    rcases Nat.lt_trichotomy i.toNat j.toNat with q | q | q
    · exact absurd e (p _ _ (by omega) (by omega) q)
    · omega
    · exact absurd e.symm (p _ _ (by omega) (by omega) q)
  have at_ : ∀ {k : Nat} {r : PRow}, prs[k]? = some r → k < n := fun h => by have := (List.getElem?_eq_some_iff.mp h).1; have := ok.1; omega
  have row : ∀ {j : Int}, 0 ≤ j → j < n → ∃ r, prs[j.toNat]? = some r ∧ (nameR ms r).mark = nm ms j := fun {j} a b => by
    have hj : j.toNat < prs.length := by rw [ok.1]; omega
    refine ⟨prs[j.toNat], List.getElem?_eq_getElem hj, ?_⟩
    have := (ok.2 _ _ (List.getElem?_eq_getElem hj)).idx
    show nm ms (prs[j.toNat]).idx = _
    rw [this, show ((j.toNat : Nat) : Int) = j by omega]
  refine ⟨by rw [List.length_map, ok.1]; exact h6, ?_, fun q hq => ?_, fun q hq p hp => ?_, fun q hq => ?_⟩
  · refine List.pairwise_iff_getElem.mpr fun a b ha hb hab e => ?_
    unfold mks at ha hb e
    rw [List.length_map, List.length_map] at ha hb
    simp only [List.getElem_map] at e
    have ia := (ok.2 a _ (List.getElem?_eq_getElem ha)).idx
    have ib := (ok.2 b _ (List.getElem?_eq_getElem hb)).idx
    have ka := at_ (List.getElem?_eq_getElem ha)
    have kb := at_ (List.getElem?_eq_getElem hb)
    have e : nm ms prs[a].idx = nm ms prs[b].idx := e
    have := inj (by omega) (by omega) (by omega) (by omega) e
    omega
  · obtain ⟨r, hr, rfl⟩ := List.mem_map.mp hq
    obtain ⟨k, hk⟩ := List.mem_iff_getElem?.mp hr
    have o := ok.2 k r hk
    have kn := at_ hk
    refine ⟨hm _ (nmi (by rw [o.idx]; omega) (by rw [o.idx]; omega)), ?_, ?_, ?_⟩
    · show (decide (0 ≤ r.least) && (decide (r.least ≤ r.most) && decide (r.most ≤ 4))) = true
      rw [decide_eq_true o.l0, decide_eq_true o.lm, decide_eq_true o.m4]; rfl
    · show (decide (0 < r.most) == decide (0 < (r.pars.map (nm ms)).length)) = true
      rw [List.length_map, beq_iff_eq]
      refine decide_eq_decide.mpr (o.pm.trans ?_)
      rw [List.length_pos_iff]
    · exact List.pairwise_map.mpr (List.Pairwise.imp_of_mem (fun {a b} ha hb ne e => ne (inj (o.pars.2 a ha).1 (o.pars.2 a ha).2 (o.pars.2 b hb).1 (o.pars.2 b hb).2 e)) o.pars.1)
  · obtain ⟨r, hr, rfl⟩ := List.mem_map.mp hq
    obtain ⟨k, hk⟩ := List.mem_iff_getElem?.mp hr
    obtain ⟨j, hj, rfl⟩ := List.mem_map.mp hp
    have o := (ok.2 k r hk).pars.2 j hj
    obtain ⟨r2, h2, e2⟩ := row o.1 o.2
    exact List.mem_map.mpr ⟨nameR ms r2, List.mem_map.mpr ⟨r2, List.mem_of_getElem? h2, rfl⟩, e2⟩
  · obtain ⟨r, hr, rfl⟩ := List.mem_map.mp hq
    obtain ⟨k, hk⟩ := List.mem_iff_getElem?.mp hr
    have all : ∀ (k : Nat) (r : PRow), prs[k]? = some r → Fert (prs.map (nameR ms)) (nameR ms r).mark := by
      intro k
      induction k using Nat.strongRecOn with
      | ind k ih =>
        intro r hk
        have o := ok.2 k r hk
        have mr : nameR ms r ∈ prs.map (nameR ms) := List.mem_map.mpr ⟨r, List.mem_of_getElem? hk, rfl⟩
        by_cases c : r.least = 0
        · exact Fert.base (r := nameR ms r) mr c
        · obtain ⟨j, hj, lt⟩ := o.low c
          have oj := o.pars.2 j hj
          obtain ⟨r2, h2, e2⟩ := row oj.1 oj.2
          have f := ih j.toNat (by omega) r2 h2
          rw [e2] at f
          exact Fert.step (r := nameR ms r) mr (List.mem_map.mpr ⟨j, hj, rfl⟩) f
    exact all k r hk
end My

namespace My
open PySem L2
theorem due_good {rs : List Row} (g : Good rs) {e : SErr} (h : Due rs e) : False := by
  cases h with
  | large h => have := g.len; omega
  | row _ hr _ hb => rw [g.fine _ _ hr] at hb; cases hb
  | par _ _ hr hp _ _ n => exact n (g.pars _ (List.mem_of_getElem? hr) _ (List.mem_of_getElem? hp))
  | lost _ _ _ hr _ n => exact n (g.fert _ (List.mem_of_getElem? hr))
end My

namespace My
open PySem L2
/-! ### webs -/
abbrev Th := Str × List Int
def ThV (H : Hp) (v : V) (th : Th) : Prop := ∃ p pp, v = .ref p ∧ H p = some (.tup [.str th.1, .ref pp]) ∧ H pp = some (.tup (th.2.map V.int))
abbrev ThsV (H : Hp) (vs : List V) (ts : List Th) : Prop := Paired (ThV H) vs ts
theorem ThV.keep {H H' : Hp} {v : V} {t : Th} (h : ThV H v t) (s : ∀ a xs, H a = some (.tup xs) → H' a = some (.tup xs)) : ThV H' v t := let ⟨p, pp, e, a, b⟩ := h; ⟨p, pp, e, s _ _ a, s _ _ b⟩
theorem thsV_keep {H H' : Hp} {vs : List V} {ts : List Th} (h : ThsV H vs ts) (s : ∀ a xs, H a = some (.tup xs) → H' a = some (.tup xs)) : ThsV H' vs ts := L2.Paired.mapP h fun _ _ x => x.keep s
theorem thsV_same {H H' : Hp} {vs : List V} {ts : List Th} (h : ThsV H vs ts) (s : Same H H') : ThsV H' vs ts := thsV_keep h fun a xs e => s _ _ e
def numsV (n : Nat) : List V := (List.range n).map fun i => V.int ((i : Nat) : Int)
/-- a web at y: its shape at x, its rows at l, its numbers at m -/
structure Wb (C : Addr) (H : Hp) (y x l m : Addr) (ts : List Th) : Prop where
  obj : ∃ dy, H y = some (.ins C dy [("shape", .ref x), ("_rows", .ref l), ("_numbers", .ref m)])
  rows : ∃ vs, H l = some (.lst vs) ∧ ThsV H vs ts
  nums : H m = some (.lst (numsV ts.length))
  ne : l ≠ m
theorem Wb.keep {C : Addr} {H H' : Hp} {y x l m : Addr} {ts : List Th} (h : Wb C H y x l m ts) (hy : ∀ o, H y = some o → H' y = some o) (hl : ∀ o, H l = some o → H' l = some o) (hm : ∀ o, H m = some o → H' m = some o) (s : ∀ a xs, H a = some (.tup xs) → H' a = some (.tup xs)) : Wb C H' y x l m ts := by
  obtain ⟨⟨dy, e⟩, ⟨vs, f, g⟩, n, ne⟩ := h
  exact ⟨⟨dy, hy _ e⟩, ⟨vs, hl _ f, thsV_keep g s⟩, hm _ n, ne⟩
theorem Wb.same {C : Addr} {H H' : Hp} {y x l m : Addr} {ts : List Th} (h : Wb C H y x l m ts) (s : Same H H') : Wb C H' y x l m ts := h.keep (fun _ e => s _ _ e) (fun _ e => s _ _ e) (fun _ e => s _ _ e) fun _ _ e => s _ _ e
theorem wb_look1 (x l m : Addr) : List.lookup ("shape" : Str) [(("shape" : Str), V.ref x), ("_rows", V.ref l), ("_numbers", V.ref m)] = some (V.ref x) := rfl
theorem wb_look2 (x l m : Addr) : List.lookup ("_rows" : Str) [(("shape" : Str), V.ref x), ("_rows", V.ref l), ("_numbers", V.ref m)] = some (V.ref l) := rfl
theorem wb_look3 (x l m : Addr) : List.lookup ("_numbers" : Str) [(("shape" : Str), V.ref x), ("_rows", V.ref l), ("_numbers", V.ref m)] = some (V.ref m) := rfl
def inW (ts : List Th) (p : Int) : Prop := 0 ≤ p ∧ p < (ts.length : Int)
instance (ts : List Th) (p : Int) : Decidable (inW ts p) := inferInstanceAs (Decidable (_ ∧ _))
def markW (ts : List Th) (p : Int) : Str := (ts.getD p.toNat ("", [])).1
def suitB (ts : List Th) (r : Row) (ps : List Int) : Bool := decide (r.least ≤ (ps.length : Int)) && decide ((ps.length : Int) ≤ r.most) && decide ps.Nodup && ps.all fun p => decide (markW ts p ∈ r.pars)
theorem inW_get {ts : List Th} {p : Int} (h : inW ts p) : ∃ t, ts[p.toNat]? = some t ∧ markW ts p = t.1 := by
  unfold inW at h
  have hp : p.toNat < ts.length := by omega
  refine ⟨ts[p.toNat], List.getElem?_eq_getElem hp, ?_⟩
  unfold markW
  rw [List.getD_eq_getElem?_getD, List.getElem?_eq_getElem hp]; rfl
end My

namespace My
open PySem L2
def spWInit (C : Addr) : Sp := fun vs H Q _ => ∃ (y dy x : Addr), vs = [.ref y, .ref x] ∧ H y = some (.ins C dy []) ∧ ∀ l m H', But y H H' → H l = none → H m = none → Wb C H' y x l m [] → Q .non H'
def spWHas (C : Addr) : Sp := fun vs H Q _ => ∃ (y x l m : Addr) (p : Int) (ts : List Th), vs = [.ref y, .int p] ∧ Wb C H y x l m ts ∧ Q (.bl (decide (inW ts p))) H
def spWLen (C : Addr) : Sp := fun vs H Q _ => ∃ (y x l m : Addr) (ts : List Th), vs = [.ref y] ∧ Wb C H y x l m ts ∧ Q (.int ts.length) H
def spWGet (C X : Addr) : Sp := fun vs H Q E => ∃ (y x l m : Addr) (p : Int) (ts : List Th), vs = [.ref y, .int p] ∧ Wb C H y x l m ts ∧
  (∀ q pp t, inW ts p → ts[p.toNat]? = some t → H q = some (.tup [.str t.1, .ref pp]) → H pp = some (.tup (t.2.map V.int)) → Q (.ref q) H) ∧ (¬ inW ts p → ErrS X "thing" (.int p) H E)
def spWMark (C X : Addr) : Sp := fun vs H Q E => ∃ (y x l m : Addr) (p : Int) (ts : List Th), vs = [.ref y, .int p] ∧ Wb C H y x l m ts ∧ (inW ts p → Q (.str (markW ts p)) H) ∧ (¬ inW ts p → ErrS X "thing" (.int p) H E)
theorem ths_at {H : Hp} {vs : List V} {ts : List Th} (h : ThsV H vs ts) {p : Int} (i : inW ts p) : ∃ q pp t, atI vs p = some (.ref q) ∧ ts[p.toNat]? = some t ∧ H q = some (.tup [.str t.1, .ref pp]) ∧ H pp = some (.tup (t.2.map V.int)) := by
  unfold inW at i
  have l := pair_len' h
  have hp : p.toNat < vs.length := by omega
  obtain ⟨t, ht, q, pp, e, a, b⟩ := pair_get' h (List.getElem?_eq_getElem hp)
  refine ⟨q, pp, t, at_of (j := p.toNat) (by omega) (by rw [List.getElem?_eq_getElem hp, e]), ht, a, b⟩
section
variable {w : World} {K : PySem.W.Frag} {mg : Str → Option Value} {base : Heap}
theorem ok_Web_init (T : Txt K mg) : FnOk PP w K mg base CX0 1 T.a_Web_init T.fd_Web_init ["self", "shape"] (spWInit T.c_Web) := by
  refine T.F_Web_init.ok sc_Web_init (fun vs H Q E h => ?_) (fun cdv A outer s H vs Q E hr h => ?_)
  · obtain ⟨y, dy, x, rfl, _⟩ := h; rfl
  · obtain ⟨y, dy, x, rfl, hy, q⟩ := h
    refine ⟨_, (pss_cons (ps_fld (pv 0) (pv 1) rfl)
      (pss_cons (ps_fld (pv 0) (pe_lst pa_nil) rfl)
      (pss_one (ps_fld (pv 0) (pe_lst pa_nil) rfl)))), ?_⟩
    refine ⟨_, rfl, _, rfl, y, _, dy, _, rfl, hy, T.cl_Web, T.no_Web_shape, by show 0 < 1000; decide, ?_⟩
    refine ⟨Nat.zero_le _, fun l hl => ⟨_, rfl, y, _, dy, _, rfl, same_new hl _ _ upd_same, T.cl_Web, T.no_Web__rows, by show 1 < 1000; decide, ?_⟩⟩
    have nly : l ≠ y := fun e => by rw [e, upd_same] at hl; cases hl
    have nl0 : H l = none := by rw [upd_ne nly] at hl; exact hl
    refine ⟨Nat.zero_le _, fun m hm => ⟨_, rfl, y, _, dy, _, rfl, same_new hm _ _ upd_same, T.cl_Web, T.no_Web__numbers, by show 2 < 1000; decide, ?_⟩⟩
    have nmy : m ≠ y := fun e => by rw [e, upd_same] at hm; cases hm
    have nml : m ≠ l := fun e => by rw [e, upd_ne nly, upd_same] at hm; cases hm
    have nm0 : H m = none := by rw [upd_ne nmy, upd_ne nml, upd_ne nmy] at hm; exact hm
    refine q l m _ (fun b o n h => ?_) nl0 nm0 ⟨⟨dy, upd_same⟩, ⟨[], ?_, .nil⟩, ?_, nml.symm⟩
    · rw [upd_ne n, upd_ne (ne_of_none h nm0), upd_ne n, upd_ne (ne_of_none h nl0), upd_ne n]; exact h
    · rw [upd_ne nly, upd_ne nml.symm, upd_ne nly, upd_same]
    · rw [upd_ne nmy, upd_same]; rfl
theorem ok_Web_contains (T : Txt K mg) : FnOk PP w K mg base CX0 1 T.a_Web_contains T.fd_Web_contains ["self", "thing"] (spWHas T.c_Web) := by
  refine T.F_Web_contains.ok sc_Web_contains (fun vs H Q E h => ?_) (fun cdv A outer s H vs Q E hr h => ?_)
  · obtain ⟨y, x, l, m, p, ts, rfl, _⟩ := h; rfl
  · obtain ⟨y, x, l, m, p, ts, rfl, hw, q⟩ := h
    obtain ⟨⟨dy, hy⟩, ⟨us, hl, hu⟩, hm, ne⟩ := id hw
    refine ⟨_, (pss_one (ps_ret (pe_chain op_le op_lt (pe_int) (pv 1) (pe_callB call_len_seq (by rfl) T.n_len (by decide +kernel) (pa_cons (pe_fld (pv 0) rfl) pa_nil))))), ?_⟩
    have lu := pair_len' hu
    refine ⟨_, rfl, _, _, rfl, rfl, _, rfl, iteD (fun c => ?_) (fun c => ?_)⟩
    · refine ⟨_, rfl, y, _, dy, _, _, rfl, hy, T.cl_Web, T.no_Web__rows, wb_look2 x l m, l, _, rfl, .inl (SqL.of hl), _, _, rfl, rfl, ?_⟩
      rw [lu]
      rw [show decide (inW ts p) = decide (p < (ts.length : Int)) from decide_eq_decide.mpr ⟨fun h => h.2, fun h => ⟨c, h⟩⟩] at q
      exact q
    · rw [decide_eq_false (fun h => c h.1)] at q
      exact q
theorem ok_Web_getitem (T : Txt K mg) : FnOk PP w K mg base (L2.CX PP w) 3 T.a_Web_getitem T.fd_Web_getitem ["self", "thing"] (spWGet T.c_Web T.c_NoThing) := by
  refine T.F_Web_getitem.okX sc_Web_getitem (fun vs H Q E h => ?_) (fun cdv A outer s H vs Q E hr h => ?_)
  · obtain ⟨y, x, l, m, p, ts, rfl, _⟩ := h; rfl
  · obtain ⟨y, x, l, m, p, ts, rfl, hw, q, qx⟩ := h
    obtain ⟨⟨dy, hy⟩, ⟨us, hl, hu⟩, hm, ne⟩ := id hw
    refine ⟨_, (pss_cons (ps_if (pt_cmpR (op_ninI T.m_Web_contains (ok_Web_contains T) (hr.mono (by omega)) T.b_Web_contains pass0) (pv 1) (pv 0) (by with_unfolding_all rfl)) (pss_one (ps_raiseX rfl T.x_NoThing hr (takes_of rfl rfl rfl rfl) (pa_cons (pv 1) pa_nil))) pss_nil)
      (pss_one (ps_ret (pe_ix ix_list (pe_fld (pv 0) rfl) (pv 1) (fun _ _ => rfl))))), ?_⟩
    refine ⟨_, rfl, _, rfl, y, dy, _, rfl, hy, y, x, l, m, p, ts, rfl, hw, _, rfl, _, rfl, ?_⟩
    by_cases c : inW ts p
    · refine iteNo (by show (!decide (inW ts p)) = false; rw [decide_eq_true c]; rfl) ?_
      obtain ⟨q', pp, t, h1, h2, h3, h4⟩ := ths_at hu c
      exact ⟨_, rfl, y, _, dy, _, _, rfl, hy, T.cl_Web, T.no_Web__rows, wb_look2 x l m, _, rfl, _, _, _, _, rfl, rfl, SqL.of hl, h1, q q' pp t c h2 h3 h4⟩
    · refine iteYes (by show (!decide (inW ts p)) = true; rw [decide_eq_false c]; rfl) ?_
      exact ⟨_, rfl, _, rfl, fun d hd => qx c _ d (same_new hd) hd upd_same⟩
theorem ok_Web_mark_of (T : Txt K mg) : FnOk PP w K mg base (L2.CX PP w) 5 T.a_Web_mark_of T.fd_Web_mark_of ["self", "thing"] (spWMark T.c_Web T.c_NoThing) := by
  refine T.F_Web_mark_of.okX sc_Web_mark_of (fun vs H Q E h => ?_) (fun cdv A outer s H vs Q E hr h => ?_)
  · obtain ⟨y, x, l, m, p, ts, rfl, _⟩ := h; rfl
  · obtain ⟨y, x, l, m, p, ts, rfl, hw, q, qx⟩ := h
    obtain ⟨dy, hy⟩ := hw.obj
    refine ⟨_, (pss_one (ps_ret (pe_ix ix_tup (pe_getI T.m_Web_getitem T.fi_Web_getitem (ok_Web_getitem T) (hr.mono (by omega)) T.b_Web_getitem (passes_call (takes_of rfl rfl rfl rfl) (fun _ _ _ _ h => h)) (pv 0) (pv 1)) (pe_int) (fun _ _ => rfl)))), ?_⟩
    refine ⟨_, rfl, _, rfl, y, dy, _, rfl, hy, y, x, l, m, p, ts, rfl, hw, fun q' pp t i h1 h2 h3 => ?_, qx⟩
    refine ⟨_, _, _, _, rfl, rfl, SqT.of h2, atI_nat (j := 0) rfl, ?_⟩
    obtain ⟨t', e1, e2⟩ := inW_get i
    rw [h1] at e1
    obtain rfl := Option.some.inj e1
    have := q i
    rw [e2] at this
    exact this
end
end My

namespace My
open PySem L2
inductive PErr where
  | unk (z : Str)
  | no (p : Int)
  | bad (z : Str)
  | large
inductive PDue (rs : List Row) (ts : List Th) (z : Str) (ps : List Int) : PErr → Prop
  | unk : findR rs z = none → PDue rs ts z ps (.unk z)
  | no {r : Row} {i : Nat} {p : Int} : findR rs z = some r → ps[i]? = some p → (∀ q ∈ ps.take i, inW ts q) → ¬ inW ts p → PDue rs ts z ps (.no p)
  | bad {r : Row} : findR rs z = some r → (∀ q ∈ ps, inW ts q) → suitB ts r ps = false → PDue rs ts z ps (.bad z)
  | large {r : Row} : findR rs z = some r → (∀ q ∈ ps, inW ts q) → suitB ts r ps = true → 1000 ≤ ts.length → PDue rs ts z ps .large
structure PGood (rs : List Row) (ts : List Th) (z : Str) (ps : List Int) : Prop where
  row : ∃ r, findR rs z = some r ∧ suitB ts r ps = true
  inw : ∀ q ∈ ps, inW ts q
  room : ts.length < 1000
def PErrIs (UM NT BP TL : Addr) : PErr → Addr → V → Str → Prop
  | .unk z, c, v, f => c = UM ∧ v = .str z ∧ f = "mark"
  | .no p, c, v, f => c = NT ∧ v = .int p ∧ f = "thing"
  | .bad z, c, v, f => c = BP ∧ v = .str z ∧ f = "mark"
  | .large, c, v, f => c = TL ∧ v = .int 1000 ∧ f = "most"
def spSuit (C : Addr) : Sp := fun vs H Q _ => ∃ (y x l m p pp q : Addr) (r : Row) (ps : List Int) (ts : List Th), vs = [.ref y, .ref p, .ref q] ∧ Wb C H y x l m ts ∧ H p = some (.tup (rowL r pp)) ∧ H pp = some (.tup (r.pars.map V.str)) ∧ H q = some (.tup (ps.map V.int)) ∧ (∀ i ∈ ps, inW ts i) ∧
  ∀ H', Same H H' → Q (.bl (suitB ts r ps)) H'
def spPut (C Cs UM NT BP TL : Addr) : Sp := fun vs H Q E => ∃ (y x l m q : Addr) (z : Str) (rs : List Row) (ps : List Int) (ts : List Th), vs = [.ref y, .str z, .ref q] ∧ Wb C H y x l m ts ∧ ShO Cs H x rs ∧ H q = some (.tup (ps.map V.int)) ∧ ts.length ≤ 1000 ∧
  (PGood rs ts z ps → ∀ H', Le [l, m] H H' → Wb C H' y x l m (ts ++ [(z, ps)]) → Q (.int ts.length) H') ∧
  (∀ e c v f, PDue rs ts z ps e → PErrIs UM NT BP TL e c v f → ∀ H' d, Same H H' → H d = none → H' d = some (.xd [(f, v)]) → E (.ref c) (some d) H')
theorem nodup_int {l : List Int} : l.Nodup ↔ ∀ (j : Nat) (x : Int), l[j]? = some x → x ∉ l.take j := by
  constructor
  · intro h j x hx m
    obtain ⟨i, hi, e⟩ := List.getElem_of_mem m
    rw [List.length_take] at hi
    rw [List.getElem_take] at e
    obtain ⟨hj, e2⟩ := List.getElem?_eq_some_iff.mp hx
    exact List.pairwise_iff_getElem.mp h i j (by omega) hj (by omega) (e.trans e2.symm)
  · intro h
    refine List.pairwise_iff_getElem.mpr fun i j hi hj hij e => h j _ (List.getElem?_eq_getElem hj) ?_
    rw [← e]
    exact List.mem_iff_getElem.mpr ⟨i, by rw [List.length_take]; omega, by rw [List.getElem_take]⟩
theorem nodup_int_succ {xs : List Int} {i : Nat} {y : Int} (h : xs[i]? = some y) (n : (xs.take i).Nodup) (m : y ∉ xs.take i) : (xs.take (i + 1)).Nodup := by
  rw [List.take_succ, h, Option.toList_some, List.nodup_append]
  exact ⟨n, List.nodup_cons.mpr ⟨List.not_mem_nil, List.nodup_nil⟩, fun a ha b hb e => m (by rw [List.mem_singleton] at hb; rw [← hb, ← e]; exact ha)⟩
theorem suit_iff {ts : List Th} {r : Row} {ps : List Int} : suitB ts r ps = true ↔ r.least ≤ (ps.length : Int) ∧ (ps.length : Int) ≤ r.most ∧ ps.Nodup ∧ ∀ p ∈ ps, markW ts p ∈ r.pars := by
  unfold suitB
  simp only [Bool.and_eq_true, decide_eq_true_iff, List.all_eq_true, and_assoc]
theorem nums_app (n : Nat) : numsV n ++ [.int ((n : Nat) : Int)] = numsV (n + 1) := by unfold numsV; rw [List.range_succ, List.map_append]; rfl
section
variable {w : World} {K : PySem.W.Frag} {mg : Str → Option Value} {base : Heap}
theorem ok_suitable (T : Txt K mg) : FnOk PP w K mg base CX0 6 T.a_suitable T.fd_suitable ["web", "row", "parents"] (spSuit T.c_Web) := by
  refine T.F_suitable.ok sc_suitable (fun vs H Q E h => ?_) (fun cdv A outer s H vs Q E hr h => ?_)
  · obtain ⟨y, x, l, m, p, pp, q, r, ps, ts, rfl, _⟩ := h; rfl
  · obtain ⟨y, x, l, m, p, pp, qa, r, ps, ts, rfl, hw, hp, hpp, hq, hin, q⟩ := h
    refine ⟨_, (pss_cons (ps_if (pt_not (pt_chain op_le op_le (pe_ix ix_tup (pv 1) (pe_int) (fun _ _ => rfl)) (pe_callB call_len_seq (by rfl) T.n_len (by decide +kernel) (pa_cons (pv 2) pa_nil)) (pe_ix ix_tup (pv 1) (pe_int) (fun _ _ => rfl)))) (pss_one (ps_ret (pe_bl))) pss_nil)
      (pss_cons (ps_for PassesOwn.never rfl (pi_enumT (by rfl) T.n_enumerate (pa_cons (pv 2) pa_nil)) (pg_tup rfl (pgs_cons (pg_name (i := 3) sc_suitable.nd rfl (.inl rfl)) (pgs_cons (pg_name (i := 4) sc_suitable.nd rfl (.inl rfl)) pgs_nil))) (pss_one (ps_if (PW.pt (pw_or (pt_cmpR op_in_seq (pv 4) (pe_slice sl_tup (pv 2) po_none (po_some (pv 3))) (by with_unfolding_all rfl)) (pw_or1 (pt_cmpR op_notIn_seq (pe_meth (pv 0) T.cl_Web T.m_Web_mark_of ((ok_Web_mark_of T).calm) (hr.mono (by omega)) T.b_Web_mark_of .nil pass0 (pa_cons (pv 4) pa_nil)) (pe_ix ix_tup (pv 1) (pe_int) (fun _ _ => rfl)) (by with_unfolding_all rfl))))) (pss_one (ps_ret (pe_bl))) pss_nil)))
      (pss_one (ps_ret (pe_bl))))), ?_⟩
    have no : ∀ {H'}, (suitB ts r ps = true → False) → Same H H' → Q (.bl false) H' := fun f s => by
      have := q _ s
      rwa [show suitB ts r ps = false from Bool.eq_false_iff.mpr f] at this
    have rf : ∀ H : Hp, Same H H := fun _ _ _ h => h
    obtain ⟨dy, hy⟩ := hw.obj
    refine ⟨_, rfl, _, _, _, _, rfl, rfl, SqT.of hp, atI_nat (j := 2) rfl, _, rfl, qa, _, rfl, .inr (SqT.of hq), _, _, rfl, rfl, _, rfl, ?_⟩
    rw [List.length_map]
    refine iteD (fun c1 => ?_) (fun c1 => ⟨_, rfl, iteYes rfl (no (fun h => c1 (suit_iff.mp h).1) (rf _))⟩)
    refine ⟨_, rfl, _, _, _, _, rfl, rfl, SqT.of hp, atI_nat (j := 3) rfl, _, _, rfl, rfl, _, rfl, iteN (fun c2 => no (fun h => c2 (suit_iff.mp h).2.1) (rf _)) (fun c2 => ?_)⟩
    refine ⟨_, rfl, qa, _, rfl, SqT.of hq, for_enumT (K := K) (a := qa) (xs := ps.map V.int) (fun i σ' H2 => ∃ x3 x4, Same H H2 ∧ σ' = [some (.ref y), some (.ref p), some (.ref qa), x3, x4] ∧ (ps.take i).Nodup ∧ ∀ j ∈ ps.take i, markW ts j ∈ r.pars)
      ⟨_, _, rf _, rfl, List.nodup_nil, fun j h => by rw [List.take_zero] at h; cases h⟩ (fun i σ' H2 _ ⟨_, _, s2, _⟩ => SqT.of (s2 _ _ hq)) ?_ ?_⟩
    · rintro i v σ' H2 Tt hv ⟨x3, x4, s2, rfl, nd, mk⟩ hTt
      obtain ⟨j, hj, rfl⟩ := get_int hv
      have s3 := s2.trans (same_new (o := .tup [.int (i : Nat), .int j]) hTt)
      have hi : i < ps.length := (List.getElem?_eq_some_iff.mp hj).1
      have mj := List.mem_of_getElem? hj
      refine ⟨Tt, _, rfl, .inl (.inl upd_same), rfl, _, _, rfl, _, _, rfl, rfl, ?_⟩
      refine ⟨_, rfl, _, rfl, _, rfl, _, rfl, qa, _, rfl, SqT.of (s3 _ _ hq), ?_, fun c hc => ?_⟩
      · rw [HT.sIx_nat, List.length_map, Nat.min_eq_left (Nat.le_of_lt hi)]
        exact fun h => absurd h.2 (by omega)
      · have s4 := s3.trans (same_new (o := .tup (cutV (ps.map V.int) none (some ((i : Nat) : Int)))) hc)
        have ct : cutV (ps.map V.int) none (some ((i : Nat) : Int)) = (ps.take i).map V.int := by rw [cut_to, List.map_take]
        refine ⟨_, _, rfl, .inr (SqT.of upd_same), rfl, by rw [ct]; exact flat_ints _, ?_⟩
        rw [show (if false = true then !inV (V.int j) (cutV (ps.map V.int) none (some ((i : Nat) : Int))) else inV (V.int j) (cutV (ps.map V.int) none (some ((i : Nat) : Int)))) = decide (j ∈ ps.take i) by rw [if_neg Bool.false_ne_true, ct, in_ints]]
        refine ⟨_, rfl, iteD (fun k => iteT (no (fun h => nodup_int.mp (suit_iff.mp h).2.2.1 i j hj k) s4)) (fun k => ?_)⟩
        refine ⟨_, rfl, y, dy, _, rfl, s4 _ _ hy, rfl, _, rfl, y, x, l, m, j, ts, rfl, hw.same s4, fun _ => ?_, fun n => absurd (hin j mj) n⟩
        refine ⟨_, rfl, _, _, _, _, rfl, rfl, SqT.of (s4 _ _ hp), atI_nat (j := 1) rfl, _, _, rfl, .inr (SqT.of (s4 _ _ hpp)), rfl, flat_strs _, ?_⟩
        rw [in_strs]
        refine ⟨_, rfl, iteN (fun k2 => no (fun h => k2 ((suit_iff.mp h).2.2.2 j mj)) s4) (fun k2 => ?_)⟩
        refine ⟨_, _, s4, rfl, nodup_int_succ hj nd k, fun j' h => ?_⟩
        rw [List.take_succ, hj] at h
        rcases List.mem_append.mp h with h | h
        · exact mk j' h
        · rw [List.mem_singleton.mp h]; exact k2
    rintro σ' H2 ⟨x3, x4, s2, rfl, nd, mk⟩
    rw [List.length_map, List.take_length] at nd mk
    have := q _ s2
    rw [suit_iff.mpr ⟨c1, c2, nd, mk⟩] at this
    exact this
set_option maxHeartbeats 16000000 in
theorem ok_Web_put (T : Txt K mg) : FnR PP w K mg base (L2.CX PP w) 8 T.a_Web_put (spStar 2 (spPut T.c_Web T.c_Shape T.c_UnknownMark T.c_NoThing T.c_BadParents T.c_TooLarge)) := by
  refine Fun.starX (k := 7) (ps := ["self", "mark"]) T.F_Web_put sc_Web_put T.bs_Web_put fun cdv A outer s H vs Q E hr h => ?_
  obtain ⟨y, x, l, m, qa, z, rs, ps, ts, rfl, hw, hS, hq, lts, q, qe⟩ := h
  refine ⟨_, (pss_cons (ps_set (i := 3) sc_Web_put.nd rfl (.inl rfl) (pe_getI T.m_Shape_getitem T.fi_Shape_getitem (ok_Shape_getitem T) (hr.mono (by omega)) T.b_Shape_getitem (passes_call (takes_of rfl rfl rfl rfl) (fun _ _ _ _ h => h)) (pe_fld (pv 0) rfl) (pv 1)))
      (pss_cons (ps_for (passes_of rfl) rfl (pi_tup (pv 2)) (pg_name (i := 4) sc_Web_put.nd rfl (.inl rfl)) (pss_one (ps_if (pt_cmpR (op_ninI T.m_Web_contains (ok_Web_contains T) (hr.mono (by omega)) T.b_Web_contains pass0) (pv 4) (pv 0) (by with_unfolding_all rfl)) (pss_one (ps_raiseX rfl T.x_NoThing hr (takes_of rfl rfl rfl rfl) (pa_cons (pv 4) pa_nil))) pss_nil)))
      (pss_cons (ps_if (pt_not (pt_val (pe_call (ok_suitable T) (hr.mono (by omega)) (by rfl) T.g_suitable T.F_suitable.kp T.b_suitable .nil pass0 (pa_cons (pv 0) (pa_cons (pv 3) (pa_cons (pv 2) pa_nil)))))) (pss_one (ps_raiseX rfl T.x_BadParents hr (takes_of rfl rfl rfl rfl) (pa_cons (pv 1) pa_nil))) pss_nil)
      (pss_cons (ps_if (pt_cmpR op_ge (pe_callB call_len_seq (by rfl) T.n_len (by decide +kernel) (pa_cons (pe_fld (pv 0) rfl) pa_nil)) (ClX.pe_cval (pe_glob (v := .ref T.c_Web) (by rfl) T.g_Web rfl)) (nomark _)) (pss_one (ps_raiseX rfl T.x_TooLarge hr (takes_of rfl rfl rfl rfl) (pa_cons (ClX.pe_cval (pe_glob (v := .ref T.c_Web) (by rfl) T.g_Web rfl)) pa_nil))) pss_nil)
      (pss_cons (ps_set (i := 5) sc_Web_put.nd rfl (.inl rfl) (pe_callB call_len_seq (by rfl) T.n_len (by decide +kernel) (pa_cons (pe_fld (pv 0) rfl) pa_nil)))
      (pss_cons (ps_expr (pe_bm PySem.F.plainAttrs_list PySem.F.slot_list_append PySem.F.type_list_append mt_append (pe_fld (pv 0) rfl) (pa_cons (pe_tup (pa_cons (pv 1) (pa_cons (pe_callTy call_tuple_of (by rfl) T.n_tuple (by decide +kernel) (pa_cons (pv 2) pa_nil)) pa_nil))) pa_nil)))
      (pss_cons (ps_expr (pe_bm PySem.F.plainAttrs_list PySem.F.slot_list_append PySem.F.type_list_append mt_append (pe_fld (pv 0) rfl) (pa_cons (pv 5) pa_nil)))
      (pss_one (ps_ret (pv 5)))))))))), ?_⟩
  have big : 100000 < sizeLine := by decide
  obtain ⟨⟨dy, hy⟩, ⟨us, hl, hu⟩, hm, nlm⟩ := id hw
  obtain ⟨dx, l1, m1, vs1, hx, _⟩ := id hS
  have lu := pair_len' hu
  have rf : ∀ H : Hp, Same H H := fun _ _ _ h => h
  refine ⟨_, rfl, y, _, dy, _, _, rfl, hy, T.cl_Web, T.no_Web_shape, wb_look1 x l m, _, rfl, x, dx, _, rfl, hx, x, z, rs, rfl, hS, fun r p pp hf hp hpp => ?_, fun no H' d s' nd hd => qe (.unk z) _ _ _ (.unk no) ⟨rfl, rfl, rfl⟩ H' d s' nd hd⟩
  refine ⟨_, rfl, qa, rfl, ⟨_, SqT.of hq⟩, for_tup (K := K) (a := qa) (xs := ps.map V.int) (fun i σ H' => ∃ x4, H' = H ∧ σ = [some (.ref y), some (.str z), some (.ref qa), some (.ref p), x4, none] ∧ ∀ j ∈ ps.take i, inW ts j) ⟨_, rfl, rfl, fun j h => by rw [List.take_zero] at h; cases h⟩ (fun i σ H' _ ⟨_, e, _⟩ => SqT.of (by rw [e]; exact hq)) ?_ ?_⟩
  · rintro i v σ H2 hv ⟨x4, rfl, rfl, hin⟩
    obtain ⟨j, hj, rfl⟩ := get_int hv
    refine ⟨_, rfl, _, rfl, y, dy, _, rfl, hy, y, x, l, m, j, ts, rfl, hw, _, rfl, _, rfl, ?_⟩
    by_cases c : inW ts j
    · refine iteNo (by show (!decide (inW ts j)) = false; rw [decide_eq_true c]; rfl) ⟨_, rfl, rfl, fun j' h => ?_⟩
      rw [List.take_succ, hj] at h
      rcases List.mem_append.mp h with h | h
      · exact hin j' h
      · rw [List.mem_singleton.mp h]; exact c
    · refine iteYes (by show (!decide (inW ts j)) = true; rw [decide_eq_false c]; rfl) ?_
      exact ⟨_, rfl, _, rfl, fun d hd => qe (.no j) _ _ _ (.no hf hj hin c) ⟨rfl, rfl, rfl⟩ _ d (same_new hd) hd upd_same⟩
  rintro σ H2 ⟨x4, rfl, rfl, hin⟩
  rw [List.length_map, List.take_length] at hin
  refine ⟨_, rfl, _, rfl, _, rfl, y, x, l, m, p, pp, qa, r, ps, ts, rfl, hw, hp, hpp, hq, hin, fun H3 s3 => ⟨_, rfl, ?_⟩⟩
  cases es : suitB ts r ps with
  | false => exact iteYes rfl ⟨_, rfl, _, rfl, fun d hd => qe (.bad z) _ _ _ (.bad hf hin es) ⟨rfl, rfl, rfl⟩ _ d (s3.trans (same_new hd)) (s3.free hd) upd_same⟩
  | true =>
    refine iteNo rfl ?_
    have hy3 := s3 _ _ hy
    have hl3 := s3 _ _ hl
    refine ⟨_, rfl, y, _, dy, _, _, rfl, hy3, T.cl_Web, T.no_Web__rows, wb_look2 x l m, l, _, rfl, .inl (SqL.of hl3), _, _, _, _, rfl, T.cr_Web, T.cv_Web_MOST, _, _, rfl, rfl, _, rfl, ?_⟩
    rw [lu]
    refine iteD (fun c => ?_) (fun c => ?_)
    · exact ⟨_, _, _, _, rfl, T.cr_Web, T.cv_Web_MOST, _, rfl, fun d hd => qe .large _ _ _ (.large hf hin es (by omega)) ⟨rfl, rfl, rfl⟩ _ d (s3.trans (same_new hd)) (s3.free hd) upd_same⟩
    · refine ⟨_, rfl, y, _, dy, _, _, rfl, hy3, T.cl_Web, T.no_Web__rows, wb_look2 x l m, l, _, rfl, .inl (SqL.of hl3), ?_⟩
      rw [lu]
      refine ⟨_, rfl, y, _, dy, _, _, rfl, hy3, T.cl_Web, T.no_Web__rows, wb_look2 x l m, .inl ⟨rfl, _, SqL.of hl3⟩, _, rfl, _, rfl, qa, _, rfl, .inr ⟨SqT.of (s3 _ _ hq), by show 2 ≤ sizeLine; decide, fun u nu => ?_⟩⟩
      have s4 := s3.trans (same_new (o := .tup [.str z, .ref qa]) nu)
      have hl4 := s4 _ _ hl
      refine ⟨_, _, _, rfl, rfl, hl4, by omega, ?_⟩
      have nly : y ≠ l := ne_of hy hl (by intro z; cases z)
      have nmy : y ≠ m := ne_of hy hm (by intro z; cases z)
      have hy5 : (upd (upd H3 u (.tup [.str z, .ref qa])) l (.lst (us ++ [.ref u]))) y = some (.ins T.c_Web dy [("shape", .ref x), ("_rows", .ref l), ("_numbers", .ref m)]) := by rw [upd_ne nly]; exact s4 _ _ hy
      have hm5 : (upd (upd H3 u (.tup [.str z, .ref qa])) l (.lst (us ++ [.ref u]))) m = some (.lst (numsV ts.length)) := by rw [upd_ne nlm.symm]; exact s4 _ _ hm
      refine ⟨_, rfl, y, _, dy, _, _, rfl, hy5, T.cl_Web, T.no_Web__numbers, wb_look3 x l m, .inl ⟨rfl, _, SqL.of hm5⟩, _, rfl, _, _, _, rfl, rfl, hm5, by unfold numsV; rw [List.length_map, List.length_range]; omega, ?_⟩
      refine ⟨_, rfl, q ⟨⟨r, hf, es⟩, hin, by omega⟩ _ ?_ ⟨⟨dy, by rw [upd_ne nmy]; exact hy5⟩, ⟨us ++ [.ref u], by rw [upd_ne nlm]; exact upd_same, ?_⟩, ?_, nlm⟩⟩
      · exact ((Le.same s4).trans (.upd (by simp))).trans (.upd (by simp))
      · have kp : ∀ a xs, H2 a = some (.tup xs) → (upd (upd (upd H3 u (.tup [.str z, .ref qa])) l (.lst (us ++ [.ref u]))) m (.lst (numsV ts.length ++ [.int ts.length]))) a = some (.tup xs) := fun a xs e => by
          rw [upd_ne (fun z => by rw [z, hm] at e; cases e), upd_ne (fun z => by rw [z, hl] at e; cases e)]; exact s4 _ _ e
        have nul : u ≠ l := ne_of upd_same hl4 (by intro z; cases z)
        have num : u ≠ m := ne_of upd_same (s4 _ _ hm) (by intro z; cases z)
        exact pair_app' (thsV_keep hu kp) (.cons ⟨u, qa, rfl, by rw [upd_ne num, upd_ne nul]; exact upd_same, kp _ _ hq⟩ .nil)
      · rw [upd_same, nums_app, List.length_append]; rfl
end
end My

namespace My
open PySem L2
theorem dn_strs {K : PySem.W.Frag} {x : Addr} {H : Hp} {n : Nat} : ∀ l : List Str, Paired (Dn K x H n) (l.map V.str) (l.map .str)
  | [] => .nil
  | z :: l => .cons (Dn.str z) (dn_strs l)
theorem dn_strL {K : PySem.W.Frag} {x a : Addr} {H : Hp} {n : Nat} {l : List Str} (h : H a = some (.lst (l.map V.str))) (ne : a ≠ x) (hz : l.length ≤ 100000) : Dn K x H (n + 1) (.ref a) (.list (l.map .str)) := Dn.lst ne (SqL.of h) (dn_strs l) (by rw [List.length_map]; exact hz)
theorem dn_strT {K : PySem.W.Frag} {x a : Addr} {H : Hp} {n : Nat} {l : List Str} (h : H a = some (.tup (l.map V.str))) (ne : a ≠ x) (hz : l.length ≤ 100000) : Dn K x H (n + 1) (.ref a) (.tuple (l.map .str)) := Dn.tup ne (SqT.of h) (dn_strs l) (by rw [List.length_map]; exact hz)
theorem dn_row {K : PySem.W.Frag} {x : Addr} {H : Hp} {n : Nat} {r : Row} {p pp : Addr} (hp : H p = some (.tup (rowL r pp))) (hpp : H pp = some (.tup (r.pars.map V.str))) (n1 : p ≠ x) (n2 : pp ≠ x) (hz : r.pars.length ≤ 1000) : Dn K x H (n + 2) (.ref p) (rowD r) :=
  Dn.tup n1 (SqT.of hp) (.cons (Dn.str _) (.cons (dn_strT hpp n2 (by omega)) (.cons (Dn.int _) (.cons (Dn.int _) (.cons (Dn.bl _) .nil))))) (by simp [rowL])
theorem rowsN_leA {F : Addr → Prop} {b : Bool} {H H' : Hp} {vs : List V} {rs : List Row} {A : List Addr} (h : RowsN F b H vs rs) (l : Le A H H') (n : ∀ a, F a → a ∉ A) : RowsN F b H' vs rs := rowsN_le h fun a o f e => l a o (n a f) e
/-- the rows' own addresses are taken -/
theorem rowsN_al {F : Addr → Prop} {b : Bool} {H : Hp} {vs : List V} {rs : List Row} (h : RowsN F b H vs rs) : RowsN (fun a => F a ∧ ∃ o, H a = some o) b H vs rs := L2.Paired.mapP h fun _ _ ⟨p, pp, e, f, g, x, y⟩ => ⟨p, pp, e, ⟨f, _, x⟩, ⟨g, _, y⟩, x, y⟩
def rowDb (b : Bool) (r : Row) : PyData := if b then .list [.str r.mark, .list (r.pars.map .str), .int r.least, .int r.most, .bool r.sh] else rowD r
theorem dn_rowN {K : PySem.W.Frag} {F : Addr → Prop} {x : Addr} {b : Bool} {H : Hp} {n : Nat} {v : V} {r : Row} (h : RowN F b H v r) (nx : ∀ a, F a → a ≠ x) (hz : r.pars.length ≤ 1000) : Dn K x H (n + 2) v (rowDb b r) := by
  obtain ⟨p, pp, rfl, f, g, hp, hpp⟩ := h
  cases b with
  | true =>
    have hp : H p = some (.lst (rowL r pp)) := hp
    have hpp : H pp = some (.lst (r.pars.map V.str)) := hpp
    exact Dn.lst (nx p f) (SqL.of hp) (.cons (Dn.str _) (.cons (dn_strL hpp (nx pp g) (by omega)) (.cons (Dn.int _) (.cons (Dn.int _) (.cons (Dn.bl _) .nil))))) (by simp [rowL])
  | false => exact dn_row hp hpp (nx p f) (nx pp g) hz
theorem dn_rowsN {K : PySem.W.Frag} {F : Addr → Prop} {x a : Addr} {b : Bool} {H : Hp} {vs : List V} {rs : List Row} (h : RowsN F b H vs rs) (ha : H a = some (.lst vs)) (na : a ≠ x) (nx : ∀ a, F a → a ≠ x) (hz : ∀ r ∈ rs, r.pars.length ≤ 1000) (hl : rs.length ≤ 1000) : Dn K x H 3 (.ref a) (.list (rs.map (rowDb b))) := by
  refine Dn.lst na (SqL.of ha) ?_ (by rw [pair_len' h]; omega)
  revert hz
  clear ha hl
  induction h with
  | nil => intro _; exact .nil
  | cons r t ih => intro hz; exact .cons (dn_rowN r nx (hz _ (by simp))) (ih fun q hq => hz q (by simp [hq]))
theorem GoodC.bnd {rs : List Row} (g : GoodC rs) : ∀ r ∈ rs, r.mark.length ≤ 8 ∧ r.pars.length ≤ 6 := fun r hr => by
  obtain ⟨a, _, _, d⟩ := g.row r hr
  unfold isMk at a
  rw [Bool.and_eq_true, decide_eq_true_iff] at a
  have := List.Nodup.length_le_of_subset d (g.pars r hr)
  unfold mks at this
  rw [List.length_map] at this
  have := g.len
  exact ⟨by omega, by omega⟩
end My

namespace L2
open PySem
theorem sl_listK {X : Cx} {K : PySem.W.Frag} (h : X.K = K) : SlR X (rSlL K) := h ▸ sl_list
end L2

namespace My
open PySem L2
/-! ### the rows that _law_rows draws -/
theorem int_at {js : List Int} {i : Int} (h0 : 0 ≤ i) (h1 : i < (js.length : Int)) : ∃ z, atI (js.map V.int) i = some (.int z) ∧ z ∈ js := by
  obtain ⟨v, hv, mv⟩ := at_ok (xs := js.map V.int) h0 (by rw [List.length_map]; exact h1)
  obtain ⟨z, hz, rfl⟩ := List.mem_map.mp mv
  exact ⟨z, hv, hz⟩
def spLRows (K : PySem.W.Frag) : Sp := fun vs H Q _ => ∃ (d t : Addr) (ex : Bool), vs = [.ref d, .ref t, .bl ex] ∧ Dr K H d t ∧
  ∀ (ms : List Str) (prs : List PRow) ws p H', PlanOk ms.length prs → (∀ r ∈ prs, r.most ≤ 3) → 1 ≤ ms.length → ms.length ≤ 3 → ms.Nodup → (∀ m ∈ ms, isMk m = true) → Dr K H' d t → But t H H' → H p = none → H' p = some (.lst ws) → RowsN (New H) true H' ws (prs.map (nameR ms)) → Q (.ref p) H'
theorem nm_take {ms : List Str} (nd : ms.Nodup) {j : Int} {k : Nat} (h0 : 0 ≤ j) (h1 : j < ms.length) (h : nm ms j ∈ ms.take k) : j < (k : Int) := by
  obtain ⟨n, rfl⟩ := Int.eq_ofNat_of_zero_le h0
  have hn : n < ms.length := by omega
  obtain ⟨i, hi, e⟩ := List.getElem_of_mem h
  rw [List.length_take] at hi
  rw [List.getElem_take] at e
  have e2 : nm ms (n : Int) = ms[n] := by unfold nm; rw [List.getD_eq_getElem?_getD, Int.toNat_natCast, List.getElem?_eq_getElem hn]; rfl
  rw [e2] at e
  have := (List.getElem_inj nd).mp e
  omega
theorem nm_mem {ms : List Str} {j : Int} (h0 : 0 ≤ j) (h1 : j < ms.length) : nm ms j ∈ ms := by
  obtain ⟨n, rfl⟩ := Int.eq_ofNat_of_zero_le h0
  have hn : n < ms.length := by omega
  unfold nm; rw [List.getD_eq_getElem?_getD, Int.toNat_natCast, List.getElem?_eq_getElem hn]; exact List.getElem_mem hn
section
variable {P : Program} {w : World} {K : PySem.W.Frag} {mg : Str → Option Value} {base : Heap}
set_option maxHeartbeats 16000000 in
theorem ok__law_rows (T : Txt K mg) : FnOk P w K mg base CX0 4 T.a__law_rows T.fd__law_rows ["_law_draws_here", "_law_at", "_law_exclusive"] (spLRows K) := by
  refine T.F__law_rows.ok sc__law_rows (fun vs H Q E h => ?_) (fun cdv A outer s H vs Q E hr h => ?_)
  · obtain ⟨d, t, ex, rfl, _⟩ := h; rfl
  · obtain ⟨d, t, ex, rfl, D0, q⟩ := h
    refine ⟨_, (pss_cons (ps_set (i := 3) sc__law_rows.nd rfl (.inr rfl) (pe_call (ok__law_marks T) (hr.mono (by omega)) (by rfl) T.g__law_marks T.F__law_marks.kp T.b__law_marks .nil pass0 (pa_cons (pv 0) (pa_cons (pv 1) (pa_cons (pe_ix ix_list (pe_lst (pa_cons (pe_int) (pa_cons (pe_int) (pa_cons (pe_int) pa_nil)))) (pe_call (ok__law_take T) (hr.mono (by omega)) (by rfl) T.g__law_take T.F__law_take.kp T.b__law_take .nil pass0 (pa_cons (pv 0) (pa_cons (pv 1) (pa_cons (pe_int) pa_nil)))) (fun _ _ => rfl)) pa_nil)))))
      (pss_cons (ps_set (i := 4) sc__law_rows.nd rfl (.inl rfl) (pe_lst pa_nil))
      (pss_cons (ps_for PassesOwn.never rfl (pi_range1 (by rfl) T.n_range (pa_cons (pe_callB call_len_seq (by rfl) T.n_len (by decide +kernel) (pa_cons (pv 3) pa_nil)) pa_nil)) (pg_name (i := 5) sc__law_rows.nd rfl (.inr rfl)) (pss_cons (ps_set (i := 6) sc__law_rows.nd rfl (.inr rfl) (pe_ix ix_list (pe_lst (pa_cons (pe_int) (pa_cons (pe_int) (pa_cons (pe_int) (pa_cons (pe_int) (pa_cons (pe_int) (pa_cons (pe_int) (pa_cons (pe_int) (pa_cons (pe_int) (pa_cons (pe_int) pa_nil)))))))))) (pe_call (ok__law_take T) (hr.mono (by omega)) (by rfl) T.g__law_take T.F__law_take.kp T.b__law_take .nil pass0 (pa_cons (pv 0) (pa_cons (pv 1) (pa_cons (pe_int) pa_nil)))) (fun _ _ => rfl)))
      (pss_cons (ps_setLc (i := 7) (own := [("_law_j", 8)]) (g := (gName 8)) (by rfl) sc__law_rows.nd rfl rfl (sw_true rfl rfl rfl (by decide +kernel)) (pi_range1 (by rfl) T.n_range (pa_cons (pe_callB call_len_seq (by rfl) T.n_len (by decide +kernel) (pa_cons (pv 3) pa_nil)) pa_nil)) (blkOk_by (own := [("_law_j", 8)]) (N := ["_law_draws_here", "_law_at", "_law_exclusive", "_law_marks_here", "_law_rows_here", "_law_k", "_law_mask", "_law_parents", "_law_j", "_law_most", "_law_least", "_law_mark", "_law_shared"]) (sc := defScope S__law_rows) (by decide +kernel)) (fun _ _ _ _ _ => (pg_name (i := 8) sc__law_rows.nd rfl (by first | exact .inl rfl | exact .inr rfl))) (fun _ _ _ _ _ => (pts_one (pt_cmpR op_eq (pe_op op_mod (pe_op op_fdiv (pv 6) (pe_ix (ixLK (K := K) rfl) (pe_lst (pa_cons (pe_int) (pa_cons (pe_int) (pa_cons (pe_int) pa_nil)))) (pv 8) (fun _ _ => rfl))) (pe_int)) (pe_int) (nomark _)))) (fun _ _ _ _ _ => (pe_ix (ixLK (K := K) rfl) (pv 3) (pv 8) (fun _ _ => rfl))))
      (pss_cons (ps_set (i := 9) sc__law_rows.nd rfl (.inl rfl) (pe_int))
      (pss_cons (ps_set (i := 10) sc__law_rows.nd rfl (.inl rfl) (pe_int))
      (C8.pss_cut (ps_if (pt_cmpR op_gt (pe_callB call_len_seq (by rfl) T.n_len (by decide +kernel) (pa_cons (pv 7) pa_nil)) (pe_int) (nomark _)) (pss_one (ps_set (i := 9) sc__law_rows.nd rfl (.inl rfl) (pe_ix ix_list (pe_lst (pa_cons (pe_int) (pa_cons (pe_int) (pa_cons (pe_int) (pa_cons (pe_int) pa_nil))))) (pe_call (ok__law_take T) (hr.mono (by omega)) (by rfl) T.g__law_take T.F__law_take.kp T.b__law_take .nil pass0 (pa_cons (pv 0) (pa_cons (pv 1) (pa_cons (pe_int) pa_nil)))) (fun _ _ => rfl)))) pss_nil)
      (C8.pss_cut (ps_if (pt_cmpR op_gt (pe_callB call_len_seq (by rfl) T.n_len (by decide +kernel) (pa_cons (pe_lc (own := [("_law_mark", 11)]) (g := (gName 11)) (by rfl) sc__law_rows.nd (pi_list (pv 7)) (blkOk_by (own := [("_law_mark", 11)]) (N := ["_law_draws_here", "_law_at", "_law_exclusive", "_law_marks_here", "_law_rows_here", "_law_k", "_law_mask", "_law_parents", "_law_j", "_law_most", "_law_least", "_law_mark", "_law_shared"]) (sc := defScope S__law_rows) (by decide +kernel)) (fun _ _ _ _ _ => (pg_name (i := 11) sc__law_rows.nd rfl (by first | exact .inl rfl | exact .inr rfl))) (fun _ _ _ _ _ => (pts_one (pt_cmpR (inK (K := K) rfl) (pv 11) (pe_slice (sl_listK (K := K) rfl) (pv 3) po_none (po_some (pv 5))) (by with_unfolding_all rfl)))) (fun _ _ _ _ _ => (pv 11))) pa_nil)) (pe_int) (nomark _)) (pss_one (ps_set (i := 10) sc__law_rows.nd rfl (.inl rfl) (pe_ix ix_list (pe_lst (pa_cons (pe_int) (pa_cons (pe_int) (pa_cons (pe_int) (pa_cons (pe_int) pa_nil))))) (pe_call (ok__law_take T) (hr.mono (by omega)) (by rfl) T.g__law_take T.F__law_take.kp T.b__law_take .nil pass0 (pa_cons (pv 0) (pa_cons (pv 1) (pa_cons (pe_int) pa_nil)))) (fun _ _ => rfl)))) pss_nil)
      (C8.pss_cut (ps_if (pt_cmpR op_gt (pv 10) (pv 9) (nomark _)) (pss_one (ps_set (i := 10) sc__law_rows.nd rfl (.inl rfl) (pv 9))) pss_nil)
      (C8.pss_cut (ps_set (i := 12) sc__law_rows.nd rfl (.inl rfl) (pe_and (pe_cmpR op_eq (pe_call (ok__law_take T) (hr.mono (by omega)) (by rfl) T.g__law_take T.F__law_take.kp T.b__law_take .nil pass0 (pa_cons (pv 0) (pa_cons (pv 1) (pa_cons (pe_int) pa_nil)))) (pe_int) (nomark _)) (pe_one (pe_not (pv 2)))))
      (pss_one (ps_expr (pe_bm PySem.F.plainAttrs_list PySem.F.slot_list_append PySem.F.type_list_append mt_append (pv 4) (pa_cons (pe_lst (pa_cons (pe_ix ix_list (pv 3) (pv 5) (fun _ _ => rfl)) (pa_cons (pv 7) (pa_cons (pv 10) (pa_cons (pv 9) (pa_cons (pv 12) pa_nil)))))) pa_nil)))))))))))))
      (pss_one (ps_ret (pv 4)))))), ?_⟩
    have big : 100000 < sizeLine := by decide
    refine ⟨_, rfl, _, rfl, by show 3 ≤ sizeLine; decide, fun u0 nu0 => ?_⟩
    have s0 := same_new (o := .lst [.int 2, .int 1, .int 3]) nu0
    refine ⟨_, rfl, _, rfl, d, t, 3, rfl, D0.same s0, by decide, fun r Ha r0 r1 Da ba => ?_⟩
    obtain ⟨z, hz, mz⟩ := int_at (js := [2, 1, 3]) r0 r1
    obtain ⟨n, rfl, n1, n3⟩ : ∃ n : Nat, z = n ∧ 1 ≤ n ∧ n ≤ 3 := by
      simp only [List.mem_cons, List.not_mem_nil, or_false] at mz
      exact ⟨z.toNat, by omega, by omega, by omega⟩
    refine ⟨_, _, _, _, rfl, rfl, SqL.of (ba _ _ (D0.na nu0) upd_same), hz, ?_⟩
    refine ⟨d, t, n, rfl, Da, by omega, fun ms mk Hb lms nms oms Db bb nmk hmk => ?_⟩
    have tb : But t H Hb := ((But.of_same s0).trans ba).trans bb
    have nmt : mk ≠ t := Da.na nmk
    refine ⟨Nat.zero_le _, fun l hl0 => ?_⟩
    have nlt : l ≠ t := Db.na hl0
    have ndl : d ≠ l := Db.nd hl0
    have nml : mk ≠ l := ne_of_none hmk hl0
    have nl0 : H l = none := tb.free nlt hl0
    have s1 := same_new (o := .lst []) hl0
    refine ⟨_, rfl, mk, _, rfl, .inl (SqL.of (s1 _ _ hmk)), ms.length, by rw [List.length_map], by omega, by omega, for_range (lo := 0) (n := ms.length) (fun k σ H' => ∃ (prs : List PRow) (us : List V) (x5 x6 x7 x9 x10 x12 : Option V), σ = [some (.ref d), some (.ref t), some (.bl ex), some (.ref mk), some (.ref l), x5, x6, x7, none, x9, x10, none, x12] ∧ Dr K H' d t ∧ But t H H' ∧ H' mk = some (.lst (ms.map V.str)) ∧ H' l = some (.lst us) ∧ RowsN (fun a => H a = none ∧ a ≠ l) true H' us (prs.map (nameR ms)) ∧ prs.length = k ∧ ∀ j r, prs[j]? = some r → PrOk ms.length j r ∧ r.most ≤ 3)
      ⟨[], [], _, _, _, _, _, _, rfl, Db.same s1, tb.trans (But.of_same s1), s1 _ _ hmk, upd_same, .nil, rfl, fun j r h => by simp at h⟩ ?_ ?_⟩
    rotate_left
    · rintro σ H2 ⟨prs, us, x5, x6, x7, x9, x10, x12, rfl, D2, b2, hmk2, hl2, pv, lk, ok⟩
      exact ⟨_, rfl, q ms prs us l H2 ⟨lk, fun j r h => (ok j r h).1⟩ (fun r hr => (by obtain ⟨j, hj⟩ := List.mem_iff_getElem?.mp hr; exact (ok j r hj).2)) (by omega) (by omega) nms oms D2 b2 nl0 hl2 (rowsN_sub pv fun a f => f.1)⟩
    rintro k σ H2 hk ⟨prs, us, x5, x6, x7, x9, x10, x12, rfl, D2, b2, hmk2, hl2, pv, lk, ok⟩
    rw [Int.zero_add]
    have up : ∀ {H3 : Hp}, But t H2 H3 → But t H H3 ∧ H3 mk = some (.lst (ms.map V.str)) ∧ H3 l = some (.lst us) ∧ RowsN (fun a => H a = none ∧ a ≠ l) true H3 us (prs.map (nameR ms)) := fun b3 => ⟨b2.trans b3, b3 _ _ nmt hmk2, b3 _ _ nlt hl2, rowsN_le pv fun a o f e => b3 _ _ (D0.na f.1) e⟩
    -- the mask
    refine ⟨by show 9 ≤ sizeLine; decide, fun u1 nu1 => ?_⟩
    have s2 := same_new (o := .lst [.int 7, .int 1, .int 2, .int 3, .int 5, .int 6, .int 7, .int 4, .int 0]) nu1
    refine ⟨_, rfl, _, rfl, d, t, 9, rfl, D2.same s2, by decide, fun r H3 r0 r1 D3 b3 => ?_⟩
    obtain ⟨mask, hmask, _⟩ := int_at (js := [7, 1, 2, 3, 5, 6, 7, 4, 0]) r0 r1
    refine ⟨_, _, _, _, rfl, rfl, SqL.of (b3 _ _ (D2.na nu1) upd_same), hmask, ?_⟩
    have b3 := (But.of_same (a := t) s2).trans b3
    obtain ⟨_, hmk3, _, _⟩ := up b3
    -- the parents
    refine ⟨_, rfl, mk, _, rfl, .inl (SqL.of hmk3), _, rfl, by omega, by rw [List.length_map]; omega, fun D hD => ?_⟩
    rw [List.length_map]
    refine lc_range (lo := 0) (n := ms.length) (fun i H' => ∃ js : List Int, Same H3 H' ∧ H' D = some (.lst ((js.map (nm ms)).map V.str)) ∧ listOk i js) ⟨[], same_new hD, upd_same, List.nodup_nil, fun j h => by cases h⟩ ?_ ?_
    · rintro i H4 hi ⟨js, s4, h4, lo⟩
      rw [Int.zero_add]
      obtain ⟨z, hz, z0, z4⟩ : ∃ z : Int, atI [V.int 1, .int 2, .int 4] ((i : Nat) : Int) = some (.int z) ∧ 0 < z ∧ z ≤ 4 := by
        match i, (show i < 3 by omega) with
        | 0, _ => exact ⟨1, rfl, by decide, by decide⟩
        | 1, _ => exact ⟨2, rfl, by decide, by decide⟩
        | 2, _ => exact ⟨4, rfl, by decide, by decide⟩
      refine ⟨rfl, _, rfl, by show 3 ≤ sizeLine; decide, fun u nu => ?_⟩
      have s5 := s4.trans (same_new (o := .lst [.int 1, .int 2, .int 4]) nu)
      have h5 := same_new (o := .lst [.int 1, .int 2, .int 4]) nu _ _ h4
      have hu : (upd H4 u (.lst [.int 1, .int 2, .int 4])) u = some (.lst [.int 1, .int 2, .int 4]) := upd_same
      revert s5 h5 hu
      generalize upd H4 u (.lst [.int 1, .int 2, .int 4]) = H5
      intro s5 h5 hu
      refine ⟨_, rfl, _, _, _, _, rfl, rfl, SqL.of hu, hz, _, _, rfl, rfl, ⟨z0, by omega⟩, _, _, rfl, rfl, (show (0 : Int) < 2 by decide), rfl, _, rfl, iteD (fun c => ?_) (fun c => ?_)⟩
      · have nd : js.length ≤ i := lst_len lo
        refine ⟨_, rfl, _, rfl, _, _, _, _, rfl, rfl, SqL.of (s5 _ _ hmk3), nm_at (by omega) (by omega), _, h5, by rw [List.length_map, List.length_map]; omega, js ++ [(i : Int)], same_mut s5 hD, by rw [upd_same, List.map_append, List.map_append]; rfl, ?_, ?_⟩
        · rw [List.nodup_append]
          exact ⟨lo.1, by simp, fun a ha b hb e => by rw [List.mem_singleton] at hb; have := lo.2 a ha; omega⟩
        · intro j hj
          rcases List.mem_append.mp hj with hj | hj
          · have := lo.2 j hj; omega
          · rw [List.mem_singleton.mp hj]; omega
      · exact ⟨js, s5, h5, lo.1, fun j hj => by have := lo.2 j hj; omega⟩
    rintro H4 ⟨js, s4, hD4, lo⟩
    have D4 := D3.same s4
    have b4 : But t H2 H4 := b3.trans (But.of_same s4)
    have nDt : D ≠ t := D3.na hD
    obtain ⟨_, _, hl3, _⟩ := up b3
    have nDl : D ≠ l := (ne_of_none hl3 hD).symm
    have nD0 : H D = none := (b2.trans b3).free nDt hD
    have lj := lst_len lo
    have ljs : ((js.map (nm ms)).map V.str).length = js.length := by rw [List.length_map, List.length_map]
    -- most
    refine ⟨fun σ' H' => ∃ (m : Int), σ' = [some (.ref d), some (.ref t), some (.bl ex), some (.ref mk), some (.ref l), some (.int k), some (.int mask), some (.ref D), none, some (.int m), some (.int 0), none, x12] ∧ Dr K H' d t ∧ But t H2 H' ∧ H' D = some (.lst ((js.map (nm ms)).map V.str)) ∧ 0 ≤ m ∧ m ≤ 3 ∧ (0 < m ↔ js ≠ []), ?_, ?_⟩
    · refine ⟨_, rfl, D, _, rfl, .inl (SqL.of hD4), _, _, rfl, rfl, _, rfl, iteD (fun c => ?_) (fun c => ?_)⟩
      · rw [ljs] at c
        refine ⟨by show 4 ≤ sizeLine; decide, fun u nu => ?_⟩
        have s5 := same_new (o := .lst [.int 1, .int 2, .int 3, .int 1]) nu
        refine ⟨_, rfl, _, rfl, d, t, 4, rfl, D4.same s5, by decide, fun r H5 r0 r1 D5 b5 => ?_⟩
        obtain ⟨m, hm, mm⟩ := int_at (js := [1, 2, 3, 1]) r0 r1
        simp only [List.mem_cons, List.not_mem_nil, or_false] at mm
        refine ⟨_, _, _, _, rfl, rfl, SqL.of (b5 _ _ (D4.na nu) upd_same), hm, ?_⟩
        refine ⟨m, rfl, D5, (b4.trans (But.of_same s5)).trans b5, b5 _ _ nDt (s5 _ _ hD4), by omega, by omega, fun _ z => ?_, fun _ => by omega⟩
        rw [z] at c; simp at c
      · rw [ljs] at c
        have e : js = [] := by
          cases js with
          | nil => rfl
          | cons a r => exact absurd (by simp) c
        exact ⟨0, rfl, D4, b4, hD4, Int.le_refl _, by decide, fun z => absurd z (by decide), fun z => absurd e z⟩
    rintro σ' H5 ⟨m, rfl, D5, b5, hD5, m0, m4, mj⟩
    obtain ⟨_, hmk5, _, _⟩ := up b5
    -- least
    refine ⟨fun σ' H' => ∃ (m2 : Int), σ' = [some (.ref d), some (.ref t), some (.bl ex), some (.ref mk), some (.ref l), some (.int k), some (.int mask), some (.ref D), none, some (.int m), some (.int m2), none, x12] ∧ Dr K H' d t ∧ But t H2 H' ∧ H' D = some (.lst ((js.map (nm ms)).map V.str)) ∧ 0 ≤ m2 ∧ (m2 ≠ 0 → ∃ j ∈ js, j < (k : Int)), ?_, ?_⟩
    · refine ⟨_, rfl, D, rfl, ⟨_, SqL.of hD5⟩, fun D' hD' => lc_list (K := K) (a := D) (xs := (js.map (nm ms)).map V.str) (fun i H' => ∃ fs, Same H5 H' ∧ H' D' = some (.lst fs) ∧ fs.length ≤ i ∧ (fs ≠ [] → ∃ j ∈ js, j < (k : Int))) ⟨[], same_new hD', upd_same, Nat.le_refl _, fun h => absurd rfl h⟩ (fun i H' _ ⟨_, s, _⟩ => SqL.of (s _ _ hD5)) ?_ ?_⟩
      · rintro i v H6 hv ⟨fs, s6, h6, lf, pf⟩
        rw [List.getElem?_map, List.getElem?_map] at hv
        obtain ⟨j, hj⟩ : ∃ j, js[i]? = some j := by
          cases e : js[i]? with
          | none => rw [e] at hv; cases hv
          | some j => exact ⟨j, rfl⟩
        rw [hj] at hv
        obtain rfl := Option.some.inj hv
        have mjs := List.mem_of_getElem? hj
        have oj := lo.2 j mjs
        have hi := (List.getElem?_eq_some_iff.mp hj).1
        refine ⟨rfl, _, rfl, _, rfl, _, rfl, _, rfl, mk, _, rfl, SqL.of (s6 _ _ hmk5), fun c hc => ?_⟩
        have ct : cutV (ms.map V.str) none (some ((k : Nat) : Int)) = (ms.take k).map V.str := by rw [cut_to, List.map_take]
        have s7 := s6.trans (same_new (o := .lst (cutV (ms.map V.str) none (some ((k : Nat) : Int)))) hc)
        refine ⟨_, _, rfl, .inl (SqL.of upd_same), rfl, by rw [ct]; exact flat_strs _, ?_⟩
        rw [show (if false = true then !inV (V.str (nm ms j)) (cutV (ms.map V.str) none (some ((k : Nat) : Int))) else inV (V.str (nm ms j)) (cutV (ms.map V.str) none (some ((k : Nat) : Int)))) = decide (nm ms j ∈ ms.take k) by rw [if_neg Bool.false_ne_true, ct, in_strs]]
        refine ⟨_, rfl, iteD (fun m => ?_) (fun m => ?_)⟩
        · exact ⟨_, rfl, _, (same_new hc _ _ h6), by omega, fs ++ [.str (nm ms j)], same_mut s7 hD', upd_same, by rw [List.length_append]; simp; omega, fun _ => ⟨j, mjs, nm_take nms oj.1 oj.2 m⟩⟩
        · exact ⟨fs, s7, same_new hc _ _ h6, by omega, pf⟩
      · rintro H6 ⟨fs, s6, h6, lf, pf⟩
        refine ⟨D', _, rfl, .inl (SqL.of h6), _, _, rfl, rfl, _, rfl, iteD (fun c => ?_) (fun c => ?_)⟩
        · have ex2 := pf fun z => by rw [z] at c; simp at c
          have D6 := D5.same s6
          refine ⟨by show 4 ≤ sizeLine; decide, fun u hu => ?_⟩
          have s7 := same_new (o := .lst [.int 0, .int 0, .int 1, .int 2]) hu
          refine ⟨_, rfl, _, rfl, d, t, 4, rfl, D6.same s7, by decide, fun r H8 r0 r1 D8 b8 => ?_⟩
          obtain ⟨m2, hm2, mm2⟩ := int_at (js := [0, 0, 1, 2]) r0 r1
          simp only [List.mem_cons, List.not_mem_nil, or_false] at mm2
          refine ⟨_, _, _, _, rfl, rfl, SqL.of (b8 _ _ (D6.na hu) upd_same), hm2, ?_⟩
          exact ⟨m2, rfl, D8, ((b5.trans (But.of_same s6)).trans (But.of_same s7)).trans b8, b8 _ _ nDt (s7 _ _ (s6 _ _ hD5)), by omega, fun _ => ex2⟩
        · exact ⟨0, rfl, D5.same s6, b5.trans (But.of_same s6), s6 _ _ hD5, Int.le_refl _, fun z => absurd rfl z⟩
    rintro σ' H6 ⟨m2, rfl, D6, b6, hD6, z0, zl⟩
    refine ⟨fun σ' H' => ∃ (m3 : Int), H' = H6 ∧ σ' = [some (.ref d), some (.ref t), some (.bl ex), some (.ref mk), some (.ref l), some (.int k), some (.int mask), some (.ref D), none, some (.int m), some (.int m3), none, x12] ∧ 0 ≤ m3 ∧ m3 ≤ m ∧ (m3 ≠ 0 → ∃ j ∈ js, j < (k : Int)), ?_, ?_⟩
    · refine ⟨_, rfl, _, rfl, _, _, rfl, rfl, _, rfl, iteD (fun c => ?_) (fun c => ?_)⟩
      · exact ⟨_, rfl, m, rfl, rfl, m0, Int.le_refl _, fun _ => zl (by omega)⟩
      · exact ⟨m2, rfl, rfl, z0, by omega, zl⟩
    rintro σ' H7 ⟨m3, rfl, rfl, z0, z1, zl⟩
    refine ⟨fun σ' H' => ∃ (sh : Bool), σ' = [some (.ref d), some (.ref t), some (.bl ex), some (.ref mk), some (.ref l), some (.int k), some (.int mask), some (.ref D), none, some (.int m), some (.int m3), none, some (.bl sh)] ∧ Dr K H' d t ∧ But t H2 H' ∧ H' D = some (.lst ((js.map (nm ms)).map V.str)), ?_, ?_⟩
    · refine ⟨_, rfl, _, rfl, d, t, 3, rfl, D6, by decide, fun r H8 _ _ D8 b8 => ⟨rfl, _, rfl, ?_⟩⟩
      have e8 := b8 _ _ nDt hD6
      exact iteD (fun _ => ⟨_, rfl, _, rfl, _, rfl, D8, b6.trans b8, e8⟩) (fun _ => ⟨_, rfl, D8, b6.trans b8, e8⟩)
    rintro σ' H8 ⟨sh, rfl, D8, b8, hD8⟩
    obtain ⟨b8', hmk8, hl8, pv8⟩ := up b8
    refine ⟨_, rfl, .inl ⟨rfl, _, SqL.of hl8⟩, _, rfl, _, rfl, _, _, _, _, rfl, rfl, SqL.of hmk8, nm_at (by omega) (by omega), _, rfl, _, rfl, _, rfl, _, rfl, by show 5 ≤ sizeLine; decide, fun u hu => ?_⟩
    have s9 := same_new (o := .lst [.str (nm ms (k : Nat)), .ref D, .int m3, .int m, .bl sh]) hu
    have nul : l ≠ u := ne_of_none hl8 hu
    have nut := D8.na hu
    have nu0' : H u = none := b8'.free nut hu
    have lus : us.length = k := by rw [pair_len' pv, List.length_map, lk]
    refine ⟨_, _, _, rfl, rfl, s9 _ _ hl8, by omega, ?_⟩
    refine ⟨prs ++ [⟨k, js, m3, m, sh⟩], us ++ [.ref u], _, _, _, _, _, _, rfl, (D8.same s9).other But.upd ndl nlt.symm, (b8'.trans (But.of_same s9)).mut nl0, by rw [upd_ne nml]; exact s9 _ _ hmk8, upd_same, ?_, by rw [List.length_append, lk]; rfl, ?_⟩
    · rw [List.map_append]
      refine pair_app' (rowsN_le pv8 fun a o f e => by rw [upd_ne f.2]; exact s9 _ _ e) (.cons ⟨u, D, rfl, ⟨nu0', nul.symm⟩, ⟨nD0, nDl⟩, ?_, ?_⟩ .nil)
      · rw [upd_ne nul.symm]; exact upd_same
      · rw [upd_ne nDl]; exact s9 _ _ hD8
    · intro j r h
      rw [List.getElem?_append] at h
      split at h
      · exact ok j r h
      · rename_i c
        rw [lk] at h c
        obtain rfl : j = k := by
          have := (List.getElem?_eq_some_iff.mp h).1
          simp at this; omega
        simp at h
        subst h
        exact ⟨⟨rfl, lo, z0, z1, by show m ≤ 4; omega, mj, zl⟩, m4⟩
end
end My

namespace My
open PySem L2
/-! ### things that fit: _law_next -/
def MtN (A : List Addr) (H : Hp) (v : V) (th : Th) : Prop := ∃ p pp, v = .ref p ∧ p ∉ A ∧ pp ∉ A ∧ H p = some (.lst [.str th.1, .ref pp]) ∧ H pp = some (.lst (th.2.map V.int))
abbrev MtsN (A : List Addr) (H : Hp) (vs : List V) (ts : List Th) : Prop := Paired (MtN A H) vs ts
theorem MtN.le {A : List Addr} {H H' : Hp} {v : V} {t : Th} (h : MtN A H v t) (l : Le A H H') : MtN A H' v t := let ⟨p, pp, e, a, b, x, y⟩ := h; ⟨p, pp, e, a, b, l _ _ a x, l _ _ b y⟩
theorem mtsN_le {A : List Addr} {H H' : Hp} {vs : List V} {ts : List Th} (h : MtsN A H vs ts) (l : Le A H H') : MtsN A H' vs ts := L2.Paired.mapP h fun _ _ x => x.le l
theorem mt_at {A : List Addr} {H : Hp} {us : List V} {ts : List Th} (h : MtsN A H us ts) {p : Int} (i : inW ts p) : ∃ q pp, atI us p = some (.ref q) ∧ q ∉ A ∧ pp ∉ A ∧ H q = some (.lst [.str (markW ts p), .ref pp]) := by
  obtain ⟨t, ht, em⟩ := inW_get i
  have l := pair_len' h
  have hp : p.toNat < us.length := by unfold inW at i; omega
  obtain ⟨t', ht', q, pp, e, a, b, x, _⟩ := pair_get' h (List.getElem?_eq_getElem hp)
  rw [ht] at ht'
  obtain rfl := Option.some.inj ht'
  refine ⟨q, pp, at_of (j := p.toNat) (by unfold inW at i; omega) (by rw [List.getElem?_eq_getElem hp, e]), a, b, by rw [em]; exact x⟩
theorem good_find {rs : List Row} (g : Good rs) {i : Nat} {r : Row} (h : rs[i]? = some r) : findR rs r.mark = some r := findR_at h rfl fun q hq e => (fineB_iff.mp (g.fine i r h)).2 (e ▸ List.mem_map.mpr ⟨q, hq, rfl⟩)
def ableN (ts : List Th) (r : Row) (i : Nat) : List Int := ((List.range i).map fun j => ((j : Nat) : Int)).filter fun j => decide (markW ts j ∈ r.pars)
theorem ableN_succ (ts : List Th) (r : Row) (i : Nat) : ableN ts r (i + 1) = ableN ts r i ++ if markW ts (i : Nat) ∈ r.pars then [((i : Nat) : Int)] else [] := by
  unfold ableN
  rw [List.range_succ, List.map_append, List.filter_append]
  congr 1
  simp [List.filter_cons]
theorem ableN_len (ts : List Th) (r : Row) (i : Nat) : (ableN ts r i).length ≤ i := by
  have := List.length_filter_le (fun j => decide (markW ts j ∈ r.pars)) ((List.range i).map fun j => ((j : Nat) : Int))
  rw [List.length_map, List.length_range] at this
  exact this
theorem ableN_mem {ts : List Th} {r : Row} {i : Nat} {j : Int} (h : j ∈ ableN ts r i) : 0 ≤ j ∧ j < i ∧ markW ts j ∈ r.pars := by
  obtain ⟨h1, h2⟩ := List.mem_filter.mp h
  obtain ⟨k, hk, rfl⟩ := List.mem_map.mp h1
  have := List.mem_range.mp hk
  exact ⟨by omega, by omega, of_decide_eq_true h2⟩
theorem ableN_nd (ts : List Th) (r : Row) (i : Nat) : (ableN ts r i).Nodup := by
  refine List.Pairwise.filter _ (List.pairwise_map.mpr (List.Pairwise.imp (fun {a b} h e => h (by omega)) List.nodup_range))
theorem able_n {K : PySem.W.Frag} {A : List Addr} {x0 x1 x2 x3 x5 x7 x8 x9 x10 x11 x12 : Option V} {M p pp : Addr} {us : List V} {ts : List Th} {r : Row} {H : Hp} {Q : VK} (hM : H M = some (.lst us)) (mM : MtsN A H us ts) (hp : H p = some (.lst (rowL r pp))) (hpp : H pp = some (.lst (r.pars.map V.str))) (lu : us.length ≤ 1000)
    (q : ∀ D H', Same H H' → H D = none → H' D = some (.lst ((ableN ts r ts.length).map V.int)) → Q (.ref D) H') :
    tLc (iRng1 (tCons (tCB (fun xs H Q => ∃ p ys, xs = [V.ref p] ∧ (SqL K H p ys ∨ SqT K H p ys) ∧ Q (.int ((ys.length : Nat) : Int)) H) (tCons (tVar 3) tNil)) tNil)) (gName 6) (tTest (tOp (rIn K false) (tOp (rIxL K) (tOp (rIxL K) (tVar 3) (tVar 6)) (tC (.int 0))) (tOp (rIxL K) (tVar 4) (tC (.int 1))))) (tVar 6) [6]
      [x0, x1, x2, some (.ref M), some (.ref p), x5, none, x7, x8, x9, x10] H Q := by
  have big : 100000 < sizeLine := by decide
  have lts := pair_len' mM
  refine ⟨_, rfl, M, _, rfl, .inl (SqL.of hM), _, rfl, by omega, by omega, fun D hD => lc_range (lo := 0) (n := us.length) (fun i H' => Same H H' ∧ H' D = some (.lst ((ableN ts r i).map V.int))) ⟨same_new hD, upd_same⟩ ?_ ?_⟩
  · rintro i H1 hi ⟨s1, h1⟩
    rw [Int.zero_add]
    obtain ⟨b, bp, ha, _, _, hb⟩ := mt_at mM (p := (i : Nat)) ⟨by omega, by omega⟩
    refine ⟨rfl, _, rfl, _, rfl, _, _, _, _, rfl, rfl, SqL.of (s1 _ _ hM), ha, _, _, _, _, rfl, rfl, SqL.of (s1 _ _ hb), atI_nat (j := 0) rfl, _, rfl, _, _, _, _, rfl, rfl, SqL.of (s1 _ _ hp), atI_nat (j := 1) rfl, _, _, rfl, .inl (SqL.of (s1 _ _ hpp)), rfl, flat_strs _, ?_⟩
    rw [in_strs]
    have ln := ableN_len ts r i
    refine ⟨_, rfl, iteD (fun c => ?_) (fun c => ⟨s1, by rw [ableN_succ, if_neg c, List.append_nil]; exact h1⟩)⟩
    exact ⟨_, rfl, _, h1, by rw [List.length_map]; omega, same_mut s1 hD, by rw [upd_same, ints_app, ableN_succ, if_pos c]⟩
  · rintro H1 ⟨s1, h1⟩
    rw [lts] at h1
    exact q D H1 s1 hD h1
theorem able_t {K : PySem.W.Frag} {A : List Addr} {x0 x1 x2 x3 x5 x7 x8 x9 x10 x11 x12 : Option V} {M p pp : Addr} {us : List V} {ts : List Th} {r : Row} {H : Hp} {Q : VK} (hM : H M = some (.lst us)) (mM : MtsN A H us ts) (hp : H p = some (.lst (rowL r pp))) (hpp : H pp = some (.lst (r.pars.map V.str))) (lu : us.length ≤ 1000)
    (q : ∀ D H', Same H H' → H D = none → H' D = some (.lst ((ableN ts r ts.length).map V.int)) → Q (.ref D) H') :
    tLc (iRng1 (tCons (tCB (fun xs H Q => ∃ p ys, xs = [V.ref p] ∧ (SqL K H p ys ∨ SqT K H p ys) ∧ Q (.int ((ys.length : Nat) : Int)) H) (tCons (tVar 4) tNil)) tNil)) (gName 8) (tTest (tOp (rIn K false) (tOp (rIxL K) (tOp (rIxL K) (tVar 4) (tVar 8)) (tC (.int 0))) (tOp (rIxL K) (tVar 6) (tC (.int 1))))) (tVar 8) [8]
      [x0, x1, x2, x3, some (.ref M), x5, some (.ref p), x7, x8, x9, x10, x11, x12] H Q := by
  have big : 100000 < sizeLine := by decide
  have lts := pair_len' mM
  refine ⟨_, rfl, M, _, rfl, .inl (SqL.of hM), _, rfl, by omega, by omega, fun D hD => lc_range (lo := 0) (n := us.length) (fun i H' => Same H H' ∧ H' D = some (.lst ((ableN ts r i).map V.int))) ⟨same_new hD, upd_same⟩ ?_ ?_⟩
  · rintro i H1 hi ⟨s1, h1⟩
    rw [Int.zero_add]
    obtain ⟨b, bp, ha, _, _, hb⟩ := mt_at mM (p := (i : Nat)) ⟨by omega, by omega⟩
    refine ⟨rfl, _, rfl, _, rfl, _, _, _, _, rfl, rfl, SqL.of (s1 _ _ hM), ha, _, _, _, _, rfl, rfl, SqL.of (s1 _ _ hb), atI_nat (j := 0) rfl, _, rfl, _, _, _, _, rfl, rfl, SqL.of (s1 _ _ hp), atI_nat (j := 1) rfl, _, _, rfl, .inl (SqL.of (s1 _ _ hpp)), rfl, flat_strs _, ?_⟩
    rw [in_strs]
    have ln := ableN_len ts r i
    refine ⟨_, rfl, iteD (fun c => ?_) (fun c => ⟨s1, by rw [ableN_succ, if_neg c, List.append_nil]; exact h1⟩)⟩
    exact ⟨_, rfl, _, h1, by rw [List.length_map]; omega, same_mut s1 hD, by rw [upd_same, ints_app, ableN_succ, if_pos c]⟩
  · rintro H1 ⟨s1, h1⟩
    rw [lts] at h1
    exact q D H1 s1 hD h1
def spLNext (K : PySem.W.Frag) : Sp := fun vs H Q _ => ∃ (d t R M : Addr) (rs : List Row) (ws us : List V) (ts : List Th), vs = [.ref d, .ref t, .ref R, .ref M] ∧ Dr K H d t ∧ H R = some (.lst ws) ∧ R ≠ t ∧ RowsN (fun a => a ≠ t) true H ws rs ∧ 1 ≤ ws.length ∧ GoodC rs ∧ (∀ r, rs[0]? = some r → r.least = 0) ∧ (∀ r ∈ rs, r.most ≤ 3) ∧ H M = some (.lst us) ∧ M ≠ t ∧ MtsN [t] H us ts ∧ us.length ≤ 990 ∧
  ∀ (z : Str) (ps : List Int) q pa H', PGood rs ts z ps → ps.length ≤ 3 → z.length ≤ 8 → Dr K H' d t → But t H H' → H q = none → H' q = some (.lst [.str z, .ref pa]) → H pa = none → H' pa = some (.lst (ps.map V.int)) → Q (.ref q) H'
theorem row_ne_ints {H : Hp} {p q : Addr} {r : Row} {c : Addr} {js : List Int} (hp : H p = some (.lst (rowL r c))) (hq : H q = some (.lst (js.map V.int))) : p ≠ q := fun e => by
  rw [e, hq] at hp
  have h := HO.lst.inj (Option.some.inj hp)
  match js, h with
  | _ :: _, h => simp [rowL] at h
theorem perm_pick {α : Type} {cs as l : List α} {i : Nat} {x : α} (h : (cs ++ as).Perm l) (hx : as[i]? = some x) : ((cs ++ [x]) ++ (as.take i ++ as.drop (i + 1))).Perm l := by
  obtain ⟨hi, e⟩ := List.getElem?_eq_some_iff.mp hx
  refine List.Perm.trans ?_ h
  rw [List.append_assoc]
  refine List.Perm.append_left cs ?_
  have e2 : as = as.take i ++ x :: as.drop (i + 1) := by rw [← e, ← List.drop_eq_getElem_cons hi, List.take_append_drop]
  have e3 := (List.perm_middle (a := x) (l₁ := as.take i) (l₂ := as.drop (i + 1))).symm
  rw [← e2] at e3
  exact e3
end My

namespace My
open PySem L2
/-! ### _law_things -/
def ThsOk (rs : List Row) (ts : List Th) : Prop := ∀ k th, ts[k]? = some th → PGood rs (ts.take k) th.1 th.2 ∧ th.2.length ≤ 3 ∧ th.1.length ≤ 8
def spLThings (K : PySem.W.Frag) : Sp := fun vs H Q _ => ∃ (d t R : Addr) (n : Nat) (rs : List Row) (ws : List V), vs = [.ref d, .ref t, .ref R, .int n] ∧ Dr K H d t ∧ H R = some (.lst ws) ∧ R ≠ t ∧ RowsN (fun a => a ≠ t) true H ws rs ∧ 1 ≤ ws.length ∧ GoodC rs ∧ (∀ r, rs[0]? = some r → r.least = 0) ∧ (∀ r ∈ rs, r.most ≤ 3) ∧ n ≤ 900 ∧
  ∀ us ts p H', ThsOk rs ts → ts.length = n → Dr K H' d t → But t H H' → H p = none → H' p = some (.lst us) → MtsN [t] H' us ts → Q (.ref p) H'
theorem ths_app {rs : List Row} {ts : List Th} {th : Th} (h : ThsOk rs ts) (g : PGood rs ts th.1 th.2) (l : th.2.length ≤ 3) (m : th.1.length ≤ 8) : ThsOk rs (ts ++ [th]) := fun k x hx => by
  by_cases c : k < ts.length
  · rw [List.getElem?_append_left c] at hx
    rw [List.take_append_of_le_length (by omega)]
    exact h k x hx
  · have hk : k < (ts ++ [th]).length := (List.getElem?_eq_some_iff.mp hx).1
    rw [List.length_append] at hk
    obtain rfl : k = ts.length := by simp at hk; omega
    rw [List.getElem?_append_right (Nat.le_refl _)] at hx
    simp at hx
    subst hx
    rw [List.take_append_of_le_length (Nat.le_refl _), List.take_length]
    exact ⟨g, l, m⟩
section
variable {P : Program} {w : World} {K : PySem.W.Frag} {mg : Str → Option Value} {base : Heap}
set_option maxHeartbeats 32000000 in
set_option pp.maxSteps 600 in
theorem ok__law_things (T : Txt K mg) : FnOk P w K mg base CX0 3 T.a__law_things T.fd__law_things ["_law_draws_here", "_law_at", "_law_rows_here", "_law_count"] (spLThings K) := by
  refine T.F__law_things.ok sc__law_things (fun vs H Q E h => ?_) (fun cdv A outer s H vs Q E hr h => ?_)
  · obtain ⟨d, t, R, n, rs, ws, rfl, _⟩ := h; rfl
  · obtain ⟨d, t, R, n, rs, ws, rfl, D0, hR, nRt, rR, l1, g, low, m3, hn, q⟩ := h
    refine ⟨_, (pss_cons (ps_set (i := 4) sc__law_things.nd rfl (.inr rfl) (pe_lst pa_nil))
      (pss_cons (ps_for PassesOwn.never rfl (pi_range1 (by rfl) T.n_range (pa_cons (pv 3) pa_nil)) (pg_name (i := 5) sc__law_things.nd rfl (.inl rfl)) (pss_cons (ps_set (i := 6) sc__law_things.nd rfl (.inr rfl) (pe_ix ix_list (pv 2) (pe_call (ok__law_take T) (hr.mono (by omega)) (by rfl) T.g__law_take T.F__law_take.kp T.b__law_take .nil pass0 (pa_cons (pv 0) (pa_cons (pv 1) (pa_cons (pe_callB call_len_seq (by rfl) T.n_len (by decide +kernel) (pa_cons (pv 2) pa_nil)) pa_nil)))) (fun _ _ => rfl)))
      (pss_cons (ps_setLc (i := 7) (own := [("_law_j", 8)]) (g := (gName 8)) (by rfl) sc__law_things.nd rfl rfl (sw_true rfl rfl rfl (by decide +kernel)) (pi_range1 (by rfl) T.n_range (pa_cons (pe_callB call_len_seq (by rfl) T.n_len (by decide +kernel) (pa_cons (pv 4) pa_nil)) pa_nil)) (blkOk_by (own := [("_law_j", 8)]) (N := ["_law_draws_here", "_law_at", "_law_rows_here", "_law_count", "_law_things_here", "_law_k", "_law_row", "_law_able", "_law_j", "_law_most", "_law_size", "_law_chosen", "_law_pick"]) (sc := defScope S__law_things) (by decide +kernel)) (fun _ _ _ _ _ => (pg_name (i := 8) sc__law_things.nd rfl (by first | exact .inl rfl | exact .inr rfl))) (fun _ _ _ _ _ => (pts_one (pt_cmpR (inK (K := K) rfl) (pe_ix (ixLK (K := K) rfl) (pe_ix (ixLK (K := K) rfl) (pv 4) (pv 8) (fun _ _ => rfl)) (pe_int) (fun _ _ => rfl)) (pe_ix (ixLK (K := K) rfl) (pv 6) (pe_int) (fun _ _ => rfl)) (by with_unfolding_all rfl)))) (fun _ _ _ _ _ => (pv 8)))
      (C8.pss_cut (ps_if (pt_cmpR op_lt (pe_callB call_len_seq (by rfl) T.n_len (by decide +kernel) (pa_cons (pv 7) pa_nil)) (pe_ix ix_list (pv 6) (pe_int) (fun _ _ => rfl)) (nomark _)) (pss_cons (ps_set (i := 6) sc__law_things.nd rfl (.inr rfl) (pe_ix ix_list (pv 2) (pe_int) (fun _ _ => rfl)))
      (pss_one (ps_setLc (i := 7) (own := [("_law_j", 8)]) (g := (gName 8)) (by rfl) sc__law_things.nd rfl rfl (sw_true rfl rfl rfl (by decide +kernel)) (pi_range1 (by rfl) T.n_range (pa_cons (pe_callB call_len_seq (by rfl) T.n_len (by decide +kernel) (pa_cons (pv 4) pa_nil)) pa_nil)) (blkOk_by (own := [("_law_j", 8)]) (N := ["_law_draws_here", "_law_at", "_law_rows_here", "_law_count", "_law_things_here", "_law_k", "_law_row", "_law_able", "_law_j", "_law_most", "_law_size", "_law_chosen", "_law_pick"]) (sc := defScope S__law_things) (by decide +kernel)) (fun _ _ _ _ _ => (pg_name (i := 8) sc__law_things.nd rfl (by first | exact .inl rfl | exact .inr rfl))) (fun _ _ _ _ _ => (pts_one (pt_cmpR (inK (K := K) rfl) (pe_ix (ixLK (K := K) rfl) (pe_ix (ixLK (K := K) rfl) (pv 4) (pv 8) (fun _ _ => rfl)) (pe_int) (fun _ _ => rfl)) (pe_ix (ixLK (K := K) rfl) (pv 6) (pe_int) (fun _ _ => rfl)) (by with_unfolding_all rfl)))) (fun _ _ _ _ _ => (pv 8))))) pss_nil)
      (pss_cons (ps_set (i := 9) sc__law_things.nd rfl (.inl rfl) (pe_ix ix_list (pv 6) (pe_int) (fun _ _ => rfl)))
      (C8.pss_cut (ps_if (pt_cmpR op_gt (pv 9) (pe_callB call_len_seq (by rfl) T.n_len (by decide +kernel) (pa_cons (pv 7) pa_nil)) (nomark _)) (pss_one (ps_set (i := 9) sc__law_things.nd rfl (.inl rfl) (pe_callB call_len_seq (by rfl) T.n_len (by decide +kernel) (pa_cons (pv 7) pa_nil)))) pss_nil)
      (pss_cons (ps_set (i := 10) sc__law_things.nd rfl (.inl rfl) (pe_op op_sub (pv 9) (pe_call (ok__law_take T) (hr.mono (by omega)) (by rfl) T.g__law_take T.F__law_take.kp T.b__law_take .nil pass0 (pa_cons (pv 0) (pa_cons (pv 1) (pa_cons (pe_op op_add (pe_op op_sub (pv 9) (pe_ix ix_list (pv 6) (pe_int) (fun _ _ => rfl))) (pe_int)) pa_nil))))))
      (pss_cons (ps_set (i := 11) sc__law_things.nd rfl (.inl rfl) (pe_lst pa_nil))
      (pss_cons (ps_for PassesOwn.never rfl (pi_range1 (by rfl) T.n_range (pa_cons (pv 10) pa_nil)) (pg_name (i := 8) sc__law_things.nd rfl (.inl rfl)) (pss_cons (ps_set (i := 12) sc__law_things.nd rfl (.inl rfl) (pe_op op_sub (pe_op op_sub (pe_callB call_len_seq (by rfl) T.n_len (by decide +kernel) (pa_cons (pv 7) pa_nil)) (pe_int)) (pe_call (ok__law_take T) (hr.mono (by omega)) (by rfl) T.g__law_take T.F__law_take.kp T.b__law_take .nil pass0 (pa_cons (pv 0) (pa_cons (pv 1) (pa_cons (pe_callB call_len_seq (by rfl) T.n_len (by decide +kernel) (pa_cons (pv 7) pa_nil)) pa_nil))))))
      (pss_cons (ps_expr (pe_bm PySem.F.plainAttrs_list PySem.F.slot_list_append PySem.F.type_list_append mt_append (pv 11) (pa_cons (pe_ix ix_list (pv 7) (pv 12) (fun _ _ => rfl)) pa_nil)))
      (pss_one (ps_set (i := 7) sc__law_things.nd rfl (.inl rfl) (pe_op op_cat (pe_slice sl_list (pv 7) po_none (po_some (pv 12))) (pe_slice sl_list (pv 7) (po_some (pe_op op_add (pv 12) (pe_int))) po_none)))))))
      (pss_one (ps_expr (pe_bm PySem.F.plainAttrs_list PySem.F.slot_list_append PySem.F.type_list_append mt_append (pv 4) (pa_cons (pe_lst (pa_cons (pe_ix ix_list (pv 6) (pe_int) (fun _ _ => rfl)) (pa_cons (pv 11) pa_nil))) pa_nil)))))))))))))
      (pss_one (ps_ret (pv 4))))), ?_⟩
    have big : 100000 < sizeLine := by decide
    have lws := pair_len' rR
    refine ⟨Nat.zero_le _, fun L hL => ?_⟩
    have nLt := D0.na hL
    have nRL : R ≠ L := ne_of_none hR hL
    have s0 := same_new (o := .lst []) hL
    refine ⟨_, rfl, n, rfl, by omega, by omega, for_range (lo := 0) (n := n) (fun k σ H' => ∃ (us : List V) (ts : List Th) (x5 x6 x7 x8 x9 x10 x11 x12 : Option V), σ = [some (.ref d), some (.ref t), some (.ref R), some (.int n), some (.ref L), x5, x6, x7, x8, x9, x10, x11, x12] ∧ Dr K H' d t ∧ But t H H' ∧ H' L = some (.lst us) ∧ MtsN [t, L] H' us ts ∧ ts.length = k ∧ ThsOk rs ts)
      ⟨[], [], _, _, _, _, _, _, _, _, rfl, D0.same s0, But.of_same s0, upd_same, .nil, rfl, fun k th h => by simp at h⟩ ?_ ?_⟩
    rotate_left
    · rintro σ H2 ⟨us, ts, x5, x6, x7, x8, x9, x10, x11, x12, rfl, D2, b2, hL2, mM2, lk, ok⟩
      exact ⟨_, rfl, q us ts L H2 ok lk D2 b2 hL hL2 (L2.Paired.mapP mM2 fun _ _ ⟨p, pp, e, a, b, x⟩ => ⟨p, pp, e, fun h => a (by simp at h; simp [h]), fun h => b (by simp at h; simp [h]), x⟩)⟩
    rintro k σ H2 hk ⟨us, ts, x5, x6, x7, x8, x9, x10, x11, x12, rfl, D2, b2, hL2, mM2, lk, ok⟩
    have lts := pair_len' mM2
    have hR2 := b2 _ _ nRt hR
    have rR2 : RowsN (fun a => a ≠ t ∧ a ≠ L) true H2 ws rs := rowsN_sub (rowsN_leA (rowsN_al rR) (.but (A := [t]) (by simp) b2) fun a f => by simpa using f.1) fun a f => ⟨f.1, f.2.elim fun o e => ne_of_none e hL⟩
    refine ⟨_, rfl, _, rfl, _, rfl, _, rfl, R, _, rfl, .inl (SqL.of hR2), d, t, _, rfl, D2, by omega, fun c H3 c0 c1 D3 b3 => ?_⟩
    have lM : Le [t, L] H2 H3 := .but (by simp) b3
    have hR3 := b3 _ _ nRt hR2
    have hL3 := b3 _ _ nLt hL2
    have rR3 := rowsN_leA rR2 (.but (A := [t]) (by simp) b3) (fun a f => by simpa using f.1)
    have mM3 := mtsN_le mM2 lM
    obtain ⟨v, hv, _⟩ := at_ok (xs := ws) c0 c1
    obtain ⟨j, rfl⟩ := Int.eq_ofNat_of_zero_le c0
    have hj : j < ws.length := by omega
    have hvj : ws[j]? = some v := by rw [← hv]; exact (atI_nat (List.getElem?_eq_getElem hj)).symm ▸ List.getElem?_eq_getElem hj
    obtain ⟨r, hr, p, pp, rfl, np, npp, hp, hpp⟩ := pair_get' rR3 hvj
    have hp : H3 p = some (.lst (rowL r pp)) := hp
    have hpp : H3 pp = some (.lst (r.pars.map V.str)) := hpp
    refine ⟨_, _, _, _, rfl, rfl, SqL.of hR3, hv, ?_⟩
    simp only [gName, tSeq, tAsg]
    refine able_t (K := K) hL3 mM3 hp hpp (by omega) fun D H4 s4 nD hD => ?_
    have D4 := D3.same s4
    have t4 := b3.trans (But.of_same s4)
    refine ⟨fun σ' H' => ∃ (p pp D : Addr) (r : Row), σ' = [some (.ref d), some (.ref t), some (.ref R), some (.int n), some (.ref L), some (.int (0 + (k : Nat))), some (.ref p), some (.ref D), x8, x9, x10, x11, x12] ∧ r ∈ rs ∧ Dr K H' d t ∧ But t H2 H' ∧ H' p = some (.lst (rowL r pp)) ∧ p ≠ t ∧ p ≠ L ∧ H' D = some (.lst ((ableN ts r ts.length).map V.int)) ∧ D ≠ t ∧ D ≠ L ∧ r.least ≤ ((ableN ts r ts.length).length : Int), ?_, ?_⟩
    · refine ⟨_, rfl, D, _, rfl, .inl (SqL.of hD), _, rfl, _, _, _, _, rfl, rfl, SqL.of (s4 _ _ hp), atI_nat (j := 2) rfl, _, _, rfl, rfl, _, rfl, iteD (fun c => ?_) (fun c => ?_)⟩
      · obtain ⟨v0, hv0⟩ : ∃ v, ws[0]? = some v := ⟨_, List.getElem?_eq_getElem (by omega)⟩
        obtain ⟨r0, hr0, p0, pp0, rfl, np0, npp0, hp0, hpp0⟩ := pair_get' rR3 hv0
        have hp0 : H3 p0 = some (.lst (rowL r0 pp0)) := hp0
        have hpp0 : H3 pp0 = some (.lst (r0.pars.map V.str)) := hpp0
        refine ⟨_, rfl, _, _, _, _, rfl, rfl, SqL.of (s4 _ _ hR3), atI_nat hv0, ?_⟩
        simp only [gName, tSeq, tAsg]
        refine able_t (K := K) (s4 _ _ hL3) (mtsN_le mM3 (Le.same s4)) (s4 _ _ hp0) (s4 _ _ hpp0) (by omega) fun D' H5 s5 nD' hD' => ?_
        exact ⟨p0, pp0, D', r0, rfl, List.mem_of_getElem? hr0, D4.same s5, t4.trans (But.of_same s5), s5 _ _ (s4 _ _ hp0), np0.1, np0.2, hD', D4.na nD', (ne_of_none (s4 _ _ hL3) nD').symm, by rw [low r0 hr0]; omega⟩
      · rw [List.length_map] at c
        exact ⟨p, pp, D, r, rfl, List.mem_of_getElem? hr, D4, t4, s4 _ _ hp, np.1, np.2, hD, D3.na nD, (ne_of_none hL3 nD).symm, by omega⟩
    rintro σ' H5 ⟨p, pp, D, r, rfl, mr, D5, b5, hp5, npt, npL, hD5, nDt, nDL, le⟩
    clear hD hp hpp rR3 mM3 hL3 hR3 s4 D4 t4 nD hr lM
    obtain ⟨i0, hi0⟩ := List.mem_iff_getElem?.mp mr
    have fnd := good_find g.g hi0
    obtain ⟨_, sz, _, _⟩ := g.row _ mr
    unfold sizeB at sz
    simp only [Bool.and_eq_true, decide_eq_true_iff] at sz
    have bd := (g.bnd _ mr).1
    have la := ableN_len ts r ts.length
    refine ⟨_, rfl, _, _, _, _, rfl, rfl, SqL.of hp5, atI_nat (j := 3) rfl, ?_⟩
    refine ⟨fun σ' H' => ∃ m : Int, H' = H5 ∧ σ' = [some (.ref d), some (.ref t), some (.ref R), some (.int n), some (.ref L), some (.int (0 + (k : Nat))), some (.ref p), some (.ref D), x8, some (.int m), x10, x11, x12] ∧ r.least ≤ m ∧ m ≤ r.most ∧ m ≤ ((ableN ts r ts.length).length : Int), ?_, ?_⟩
    · refine ⟨_, rfl, _, rfl, D, _, rfl, .inl (SqL.of hD5), _, _, rfl, rfl, _, rfl, ?_⟩
      rw [List.length_map]
      refine iteD (fun c => ?_) (fun c => ⟨r.most, rfl, rfl, sz.2.1, Int.le_refl _, by omega⟩)
      exact ⟨_, rfl, D, _, rfl, .inl (SqL.of hD5), ((ableN ts r ts.length).length : Int), rfl, by rw [List.length_map]; rfl, le, by omega, Int.le_refl _⟩
    rintro σ' H5' ⟨m, rfl, rfl, m0, m1, m2⟩
    refine ⟨_, rfl, _, rfl, _, rfl, _, rfl, _, rfl, _, _, _, _, rfl, rfl, SqL.of hp5, atI_nat (j := 2) rfl, _, _, rfl, rfl, _, _, rfl, rfl, d, t, _, rfl, D5, by omega, fun c H6 c0 c1 D6 b6 => ⟨_, _, rfl, rfl, ?_⟩⟩
    obtain ⟨e, en⟩ : ∃ e : Nat, m - c = (e : Int) := Int.eq_ofNat_of_zero_le (by omega)
    show gName 10 (V.int (m - c)) _ _ _
    rw [en]
    refine ⟨Nat.zero_le _, fun C hC => ?_⟩
    have t6 := b5.trans b6
    have nCt := D6.na hC
    have nC2 : H2 C = none := t6.free nCt hC
    have hL6 := t6 _ _ nLt hL2
    have nCL : C ≠ L := (ne_of_none hL6 hC).symm
    have s7 := same_new (o := .lst []) hC
    have hD6 := b6 _ _ nDt hD5
    refine ⟨_, rfl, e, rfl, by omega, by omega, for_range (lo := 0) (n := e) (fun k' σ H' => ∃ (ab : Addr) (as cs : List Int) (x8 x12 : Option V), σ = [some (.ref d), some (.ref t), some (.ref R), some (.int n), some (.ref L), some (.int (0 + (k : Nat))), some (.ref p), some (.ref ab), x8, some (.int m), some (.int e), some (.ref C), x12] ∧ Dr K H' d t ∧ But t H2 H' ∧ ab ≠ t ∧ ab ≠ C ∧ H' p = some (.lst (rowL r pp)) ∧ H' ab = some (.lst (as.map V.int)) ∧ H' C = some (.lst (cs.map V.int)) ∧ cs.length = k' ∧ (cs ++ as).Perm (ableN ts r ts.length))
      ⟨D, ableN ts r ts.length, [], _, _, rfl, D6.same s7, t6.trans (But.of_same s7), nDt, ne_of_none hD6 hC, s7 _ _ (b6 _ _ npt hp5), s7 _ _ hD6, upd_same, rfl, by rw [List.nil_append]⟩ ?_ ?_⟩
    · rintro k' σ H7 hk' ⟨ab, as, cs, x8, x12, rfl, D7, b7, nat7, nac, hp7, hab, hC7, lcs, pm⟩
      have lpm := pm.length_eq
      rw [List.length_append] at lpm
      refine ⟨_, rfl, ab, _, rfl, .inl (SqL.of hab), _, _, rfl, rfl, _, rfl, _, rfl, _, rfl, ab, _, rfl, .inl (SqL.of hab), d, t, _, rfl, D7, by rw [List.length_map]; omega, fun pk H8 p0 p1 D8 b8 => ⟨_, _, rfl, rfl, ?_⟩⟩
      rw [List.length_map] at p1 ⊢
      obtain ⟨i, ei⟩ : ∃ i : Nat, (as.length : Int) - 1 - pk = (i : Int) := Int.eq_ofNat_of_zero_le (by omega)
      show gName 12 (V.int ((as.length : Int) - 1 - pk)) _ _ _
      rw [ei]
      have hi : i < as.length := by omega
      have hx : as[i]? = some as[i] := List.getElem?_eq_getElem hi
      have hab8 := b8 _ _ nat7 hab
      have hC8 := b8 _ _ nCt hC7
      have hp8 := b8 _ _ npt hp7
      refine ⟨_, rfl, .inl ⟨rfl, _, SqL.of hC8⟩, _, rfl, _, rfl, _, _, _, _, rfl, rfl, SqL.of hab8, atI_nat (v := V.int as[i]) (by rw [List.getElem?_map, hx]; rfl), _, _, _, rfl, rfl, hC8, by rw [List.length_map]; omega, ?_⟩
      have D9 : Dr K (upd H8 C (.lst (cs.map V.int ++ [.int as[i]]))) d t := D8.other But.upd (D2.nd nC2) nCt.symm
      have b9 := (b7.trans b8).mut (o := .lst (cs.map V.int ++ [.int as[i]])) nC2
      have hab9 : (upd H8 C (.lst (cs.map V.int ++ [.int as[i]]))) ab = some (.lst (as.map V.int)) := by rw [upd_ne nac]; exact hab8
      have npC : p ≠ C := row_ne_ints hp8 hC8
      have hp9 : (upd H8 C (.lst (cs.map V.int ++ [.int as[i]]))) p = some (.lst (rowL r pp)) := by rw [upd_ne npC]; exact hp8
      have hC9 : (upd H8 C (.lst (cs.map V.int ++ [.int as[i]]))) C = some (.lst ((cs ++ [as[i]]).map V.int)) := by rw [upd_same, ints_app]
      revert D9 b9 hab9 hC9 hp9
      generalize upd H8 C (.lst (cs.map V.int ++ [.int as[i]])) = H9
      intro D9 b9 hab9 hp9 hC9
      refine ⟨_, rfl, _, rfl, _, rfl, ab, _, rfl, SqL.of hab9, fun c1 hc1 => ?_⟩
      rw [cut_to, ← List.map_take]
      have s10 := same_new (o := .lst ((as.take i).map V.int)) hc1
      refine ⟨_, rfl, _, rfl, _, _, rfl, rfl, _, rfl, ab, _, rfl, SqL.of (s10 _ _ hab9), fun c2 hc2 => ?_⟩
      rw [show ((i : Nat) : Int) + 1 = ((i + 1 : Nat) : Int) from rfl, cut_from, ← List.map_drop]
      have s11 := s10.trans (same_new (o := .lst ((as.drop (i + 1)).map V.int)) hc2)
      refine ⟨c1, c2, _, _, rfl, rfl, same_new hc2 _ _ upd_same, upd_same, by rw [List.length_map, List.length_map, List.length_take, List.length_drop]; omega, fun c3 hc3 => ?_⟩
      have s12 := s11.trans (same_new (o := .lst ((as.take i).map V.int ++ (as.drop (i + 1)).map V.int)) hc3)
      exact ⟨c3, as.take i ++ as.drop (i + 1), cs ++ [as[i]], _, _, rfl, D9.same s12, b9.trans (But.of_same s12), (D9.same s11).na hc3, (ne_of_none (s11 _ _ hC9) hc3).symm, s12 _ _ hp9, by rw [upd_same, List.map_append], s12 _ _ hC9, by rw [List.length_append, lcs]; rfl, perm_pick pm hx⟩
    · rintro σ H7 ⟨ab, as, cs, x8, x12, rfl, D7, b7, nat7, nac, hp7, hab, hC7, lcs, pm⟩
      have lpm := pm.length_eq
      rw [List.length_append] at lpm
      have hL7 := b7 _ _ nLt hL2
      have m3' := m3 _ mr
      refine ⟨_, rfl, .inl ⟨rfl, _, SqL.of hL7⟩, _, rfl, _, _, _, _, rfl, rfl, SqL.of hp7, atI_nat (j := 0) rfl, _, rfl, by show 2 ≤ sizeLine; decide, fun u nu => ?_⟩
      have s8 := same_new (o := .lst [.str r.mark, .ref C]) nu
      have hL8 := s8 _ _ hL7
      refine ⟨_, _, _, rfl, rfl, hL8, by omega, ?_⟩
      have nd := (List.nodup_append.mp (pm.nodup_iff.mpr (ableN_nd ts r ts.length))).1
      have mem : ∀ j ∈ cs, j ∈ ableN ts r ts.length := fun j hj => pm.mem_iff.mp (List.mem_append_left _ hj)
      have pg : PGood rs ts r.mark cs := ⟨⟨r, fnd, suit_iff.mpr ⟨by omega, by omega, nd, fun j hj => (ableN_mem (mem j hj)).2.2⟩⟩, fun j hj => ⟨(ableN_mem (mem j hj)).1, (ableN_mem (mem j hj)).2.1⟩, by omega⟩
      have lw : Le [t, L] H2 (upd (upd H7 u (.lst [.str r.mark, .ref C])) L (.lst (us ++ [.ref u]))) := ((Le.but (by simp) b7).trans (Le.same s8)).trans (.upd (by simp))
      have nuL : u ≠ L := (ne_of_none hL7 nu).symm
      have nut := D7.na nu
      exact ⟨us ++ [.ref u], ts ++ [(r.mark, cs)], _, _, _, _, _, _, _, _, rfl, (D7.same s8).other But.upd (D0.nd hL) nLt.symm, ((b2.trans b7).trans (But.of_same s8)).mut hL, upd_same, pair_app' (mtsN_le mM2 lw) (.cons ⟨u, C, rfl, by simp [nut, nuL], by simp [nCt, nCL], by rw [upd_ne nuL]; exact upd_same, by rw [upd_ne nCL]; exact s8 _ _ hC7⟩ .nil), by rw [List.length_append, lk]; rfl, ths_app ok pg (by show cs.length ≤ 3; omega) bd⟩
end
end My

namespace My
open PySem L2
def spLShape (C : Addr) : Sp := fun vs H Q _ => ∃ (a : Addr) (us : List V) (rs : List Row), vs = [.ref a] ∧ H a = some (.lst us) ∧ RowsN (fun _ => True) true H us rs ∧ 1 ≤ us.length ∧ us.length ≤ 3 ∧ GoodC rs ∧
  ∀ x H', Same H H' → H x = none → ShN (fun a => H a = none) C H' x rs → Q (.ref x) H'
section
variable {w : World} {K : PySem.W.Frag} {mg : Str → Option Value} {base : Heap}
theorem ok__law_shape (T : Txt K mg) : FnOk PP w K mg base CX0 7 T.a__law_shape T.fd__law_shape ["_law_rows_here"] (spLShape T.c_Shape) := by
  refine T.F__law_shape.ok sc__law_shape (fun vs H Q E h => ?_) (fun cdv A outer s H vs Q E hr h => ?_)
  · obtain ⟨a, us, rs, rfl, _⟩ := h; rfl
  · obtain ⟨a, us, rs, rfl, ha, hR, l1, l3, g, q⟩ := h
    refine ⟨_, (pss_cons (ps_setLc (i := 1) (own := [("_law_row", 2)]) (g := (gName 2)) (by rfl) sc__law_shape.nd rfl rfl (sw_true rfl rfl rfl (by decide +kernel)) (pi_list (pv 0)) (blkOk_by (own := [("_law_row", 2)]) (N := ["_law_rows_here", "_law_made", "_law_row"]) (sc := defScope S__law_shape) (by decide +kernel)) (fun _ _ _ _ _ => (pg_name (i := 2) sc__law_shape.nd rfl (by first | exact .inl rfl | exact .inr rfl))) (fun _ _ _ _ _ => pts_nil) (fun _ _ _ _ _ => (pe_tup (pa_cons (pe_ix (ixLK (K := K) rfl) (pv 2) (pe_int) (fun _ _ => rfl)) (pa_cons (pe_callTy (tupleK (K := K) rfl) (by rfl) T.n_tuple (by decide +kernel) (pa_cons (pe_ix (ixLK (K := K) rfl) (pv 2) (pe_int) (fun _ _ => rfl)) pa_nil)) (pa_cons (pe_ix (ixLK (K := K) rfl) (pv 2) (pe_int) (fun _ _ => rfl)) (pa_cons (pe_ix (ixLK (K := K) rfl) (pv 2) (pe_int) (fun _ _ => rfl)) (pa_cons (pe_ix (ixLK (K := K) rfl) (pv 2) (pe_int) (fun _ _ => rfl)) pa_nil))))))))
      (pss_cons (ps_if (pt_cmpR op_eq (pe_callB call_len_seq (by rfl) T.n_len (by decide +kernel) (pa_cons (pv 1) pa_nil)) (pe_int) (nomark _)) (pss_one (ps_ret (StX.pe_makeR T.mk_Shape ((ok_Shape_init T).calm) (hr.mono (by omega)) (by rfl) T.g_Shape pass0 (pa_cons (pe_ix ix_list (pv 1) (pe_int) (fun _ _ => rfl)) pa_nil)))) pss_nil)
      (pss_cons (ps_if (pt_cmpR op_eq (pe_callB call_len_seq (by rfl) T.n_len (by decide +kernel) (pa_cons (pv 1) pa_nil)) (pe_int) (nomark _)) (pss_one (ps_ret (StX.pe_makeR T.mk_Shape ((ok_Shape_init T).calm) (hr.mono (by omega)) (by rfl) T.g_Shape pass0 (pa_cons (pe_ix ix_list (pv 1) (pe_int) (fun _ _ => rfl)) (pa_cons (pe_ix ix_list (pv 1) (pe_int) (fun _ _ => rfl)) pa_nil))))) pss_nil)
      (pss_one (ps_ret (StX.pe_makeR T.mk_Shape ((ok_Shape_init T).calm) (hr.mono (by omega)) (by rfl) T.g_Shape pass0 (pa_cons (pe_ix ix_list (pv 1) (pe_int) (fun _ _ => rfl)) (pa_cons (pe_ix ix_list (pv 1) (pe_int) (fun _ _ => rfl)) (pa_cons (pe_ix ix_list (pv 1) (pe_int) (fun _ _ => rfl)) pa_nil))))))))), ?_⟩
    have big : 100000 < sizeLine := by decide
    have lu := pair_len' hR
    refine ⟨_, rfl, a, rfl, ⟨_, SqL.of ha⟩, fun D hD => lc_list (K := K) (a := a) (xs := us) (fun i H' => ∃ ws, Same H H' ∧ H' D = some (.lst ws) ∧ RowsN (fun x => H x = none ∧ x ≠ D) false H' ws (rs.take i)) ⟨[], same_new hD, upd_same, .nil⟩ (fun i H' _ ⟨_, s, _⟩ => SqL.of (s _ _ ha)) ?_ ?_⟩
    · rintro i v H1 hv ⟨ws, s1, h1, rw1⟩
      obtain ⟨r, hr, p, pp, rfl, _, _, hp, hpp⟩ := pair_get' hR hv
      have hi := (List.getElem?_eq_some_iff.mp hr).1
      have hp : H p = some (.lst (rowL r pp)) := hp
      have hpp : H pp = some (.lst (r.pars.map V.str)) := hpp
      have hp1 := s1 _ _ hp
      have hpp1 := s1 _ _ hpp
      refine ⟨rfl, ?_⟩
      unfold tYes
      refine iteT ⟨_, rfl, _, _, _, _, rfl, rfl, SqL.of hp1, atI_nat (j := 0) rfl, ?_⟩
      refine ⟨_, rfl, _, _, _, _, rfl, rfl, SqL.of hp1, atI_nat (j := 1) rfl, pp, _, rfl, .inl ⟨SqL.of hpp1, fun E hE => ?_⟩⟩
      have s2 := same_new (o := .tup (r.pars.map V.str)) hE
      have hp2 := s2 _ _ hp1
      refine ⟨_, rfl, _, _, _, _, rfl, rfl, SqL.of hp2, atI_nat (j := 2) rfl, _, rfl, _, _, _, _, rfl, rfl, SqL.of hp2, atI_nat (j := 3) rfl, _, rfl, _, _, _, _, rfl, rfl, SqL.of hp2, atI_nat (j := 4) rfl, by show 5 ≤ sizeLine; decide, fun u hu => ?_⟩
      have s3 := s2.trans (same_new (o := .tup [.str r.mark, .ref E, .int r.least, .int r.most, .bl r.sh]) hu)
      have nuD : u ≠ D := (ne_of_none (s2 _ _ h1) hu).symm
      have nED : E ≠ D := (ne_of_none h1 hE).symm
      have lw : ws.length = i := by rw [pair_len' rw1, List.length_take]; omega
      have huE : E ≠ u := ne_of_none upd_same hu
      refine ⟨_, s3 _ _ h1, by omega, ws ++ [.ref u], same_mut (s1.trans s3) hD, upd_same, ?_⟩
      rw [List.take_succ, hr]
      refine pair_app' (rowsN_le rw1 fun x o f e => by rw [upd_ne f.2]; exact s3 _ _ e) (.cons ⟨u, E, rfl, ⟨(s1.trans s2).free hu, nuD⟩, ⟨s1.free hE, nED⟩, by rw [upd_ne nuD]; exact upd_same, by rw [upd_ne nED, upd_ne huE]; exact upd_same⟩ .nil)
    rintro H1 ⟨ws, s1, h1, rw1⟩
    rw [lu, List.take_length] at rw1
    have lw := pair_len' rw1
    have sm : ∀ r ∈ rs, small r := fun r hr => by have := g.bnd r hr; exact ⟨by omega, by omega⟩
    have fin : ∀ x H', Same H1 H' → H1 x = none → ShN (fun a => H1 a = none) T.c_Shape H' x rs → Q (.ref x) H' := fun x H' s n S => q x H' (s1.trans s) (s1.free n) (S.sub fun a f => s1.free f)
    have lw1 : 1 ≤ ws.length := by omega
    have lw3 : ws.length ≤ 3 := by omega
    clear lu l1 l3 lw
    rcases ws with _ | ⟨v0, ws⟩
    · simp at lw1
    rcases ws with _ | ⟨v1, ws⟩
    · refine ⟨_, rfl, D, _, rfl, .inl (SqL.of h1), rfl, _, rfl, iteYes (decide_eq_true rfl) ?_⟩
      exact ⟨_, rfl, _, _, _, _, rfl, rfl, SqL.of h1, atI_nat (j := 0) rfl, make_sh (rowsN_toV rw1) (by simp) sm (fun _ => fin) (fun e c v f du => (due_good g.g du).elim)⟩
    rcases ws with _ | ⟨v2, ws⟩
    · refine ⟨_, rfl, D, _, rfl, .inl (SqL.of h1), rfl, _, rfl, iteNo (decide_eq_false fun z => by simp at z) ⟨_, rfl, D, _, rfl, .inl (SqL.of h1), rfl, _, rfl, iteYes (decide_eq_true rfl) ?_⟩⟩
      exact ⟨_, rfl, _, _, _, _, rfl, rfl, SqL.of h1, atI_nat (j := 0) rfl, _, rfl, _, _, _, _, rfl, rfl, SqL.of h1, atI_nat (j := 1) rfl, make_sh (rowsN_toV rw1) (by simp) sm (fun _ => fin) (fun e c v f du => (due_good g.g du).elim)⟩
    obtain rfl : ws = [] := by cases ws with | nil => rfl | cons => simp at lw3
    refine ⟨_, rfl, D, _, rfl, .inl (SqL.of h1), rfl, _, rfl, iteNo (decide_eq_false fun z => by simp at z) ⟨_, rfl, D, _, rfl, .inl (SqL.of h1), rfl, _, rfl, iteNo (decide_eq_false fun z => by simp at z) ?_⟩⟩
    exact ⟨_, rfl, _, _, _, _, rfl, rfl, SqL.of h1, atI_nat (j := 0) rfl, _, rfl, _, _, _, _, rfl, rfl, SqL.of h1, atI_nat (j := 1) rfl, _, rfl, _, _, _, _, rfl, rfl, SqL.of h1, atI_nat (j := 2) rfl, make_sh (rowsN_toV rw1) (by simp) sm (fun _ => fin) (fun e c v f du => (due_good g.g du).elim)⟩
end
end My

namespace My
open PySem L2
def spLPut (C Cs UM NT BP TL : Addr) : Sp := fun vs H Q E => ∃ (y x l m pa : Addr) (z : Str) (rs : List Row) (ps : List Int) (ts : List Th), vs = [.ref y, .str z, .ref pa] ∧ Wb C H y x l m ts ∧ ShO Cs H x rs ∧ H pa = some (.lst (ps.map V.int)) ∧ ps.length ≤ 3 ∧ ts.length ≤ 1000 ∧
  (PGood rs ts z ps → ∀ H', Le [l, m] H H' → Wb C H' y x l m (ts ++ [(z, ps)]) → Q (.int ts.length) H') ∧
  (∀ e c v f, PDue rs ts z ps e → PErrIs UM NT BP TL e c v f → ∀ H' d, Same H H' → H d = none → H' d = some (.xd [(f, v)]) → E (.ref c) (some d) H')
theorem put_st {C Cs UM NT BP TL : Addr} {H : Hp} {y x l m : Addr} {z : Str} {rs : List Row} {ps : List Int} {ts : List Th} {us : List V} {Q : VK} {E : XK} (eu : us = .ref y :: .str z :: ps.map V.int) (hw : Wb C H y x l m ts) (hS : ShO Cs H x rs) (hl : ps.length ≤ 100) (lt : ts.length ≤ 1000)
    (q : PGood rs ts z ps → ∀ H', Le [l, m] H H' → Wb C H' y x l m (ts ++ [(z, ps)]) → Q (.int ts.length) H')
    (qe : ∀ e c v f, PDue rs ts z ps e → PErrIs UM NT BP TL e c v f → ∀ H' d, Same H H' → H d = none → H' d = some (.xd [(f, v)]) → E (.ref c) (some d) H') :
    spStar 2 (spPut C Cs UM NT BP TL) us H Q E := by
  subst eu
  refine ⟨[.ref y, .str z], ps.map V.int, rfl, rfl, Nat.le_trans (by rw [List.length_map]; exact hl) (by decide : 100 ≤ sizeLine), fun p np => ?_⟩
  have s := same_new (o := .tup (ps.map V.int)) np
  exact ⟨y, x, l, m, p, z, rs, ps, ts, rfl, hw.same s, hS.same s, upd_same, lt, fun g H' l' w' => q g H' ((Le.same s).trans l') w', fun e c v f du er H' d s' nd hd => qe e c v f du er H' d (s.trans s') (s.free nd) hd⟩
theorem pgood_due {rs : List Row} {ts : List Th} {z : Str} {ps : List Int} {e : PErr} (g : PGood rs ts z ps) (h : PDue rs ts z ps e) : False := by
  obtain ⟨⟨r, hr, hs⟩, hi, room⟩ := g
  cases h with
  | unk h => rw [hr] at h; cases h
  | no _ hp _ n => exact n (hi _ (List.mem_of_getElem? hp))
  | bad h _ hs' => rw [hr] at h; obtain rfl := Option.some.inj h; rw [hs] at hs'; cases hs'
  | large _ _ _ l => omega
section
variable {w : World} {K : PySem.W.Frag} {mg : Str → Option Value} {base : Heap}
theorem ok__law_put (T : Txt K mg) : FnOk PP w K mg base (L2.CX PP w) 9 T.a__law_put T.fd__law_put ["_law_web_here", "_law_mark", "_law_parents"] (spLPut T.c_Web T.c_Shape T.c_UnknownMark T.c_NoThing T.c_BadParents T.c_TooLarge) := by
  refine T.F__law_put.okX sc__law_put (fun vs H Q E h => ?_) (fun cdv A outer s H vs Q E hr h => ?_)
  · obtain ⟨y, x, l, m, pa, z, rs, ps, ts, rfl, _⟩ := h; rfl
  · obtain ⟨y, x, l, m, pa, z, rs, ps, ts, rfl, hw, hS, hp, lp, lt, q, qe⟩ := h
    refine ⟨_, (pss_cons (ps_if (pt_cmpR op_eq (pe_callB call_len_seq (by rfl) T.n_len (by decide +kernel) (pa_cons (pv 2) pa_nil)) (pe_int) (nomark _)) (pss_one (ps_ret (pe_methR (pv 0) T.cl_Web T.m_Web_put (ok_Web_put T) (hr.mono (by omega)) (passes_call (takes_of rfl rfl rfl rfl) (fun _ _ _ _ h => h)) (pa_cons (pv 1) pa_nil)))) pss_nil)
      (pss_cons (ps_if (pt_cmpR op_eq (pe_callB call_len_seq (by rfl) T.n_len (by decide +kernel) (pa_cons (pv 2) pa_nil)) (pe_int) (nomark _)) (pss_one (ps_ret (pe_methR (pv 0) T.cl_Web T.m_Web_put (ok_Web_put T) (hr.mono (by omega)) (passes_call (takes_of rfl rfl rfl rfl) (fun _ _ _ _ h => h)) (pa_cons (pv 1) (pa_cons (pe_ix ix_list (pv 2) (pe_int) (fun _ _ => rfl)) pa_nil))))) pss_nil)
      (pss_cons (ps_if (pt_cmpR op_eq (pe_callB call_len_seq (by rfl) T.n_len (by decide +kernel) (pa_cons (pv 2) pa_nil)) (pe_int) (nomark _)) (pss_one (ps_ret (pe_methR (pv 0) T.cl_Web T.m_Web_put (ok_Web_put T) (hr.mono (by omega)) (passes_call (takes_of rfl rfl rfl rfl) (fun _ _ _ _ h => h)) (pa_cons (pv 1) (pa_cons (pe_ix ix_list (pv 2) (pe_int) (fun _ _ => rfl)) (pa_cons (pe_ix ix_list (pv 2) (pe_int) (fun _ _ => rfl)) pa_nil)))))) pss_nil)
      (pss_one (ps_ret (pe_methR (pv 0) T.cl_Web T.m_Web_put (ok_Web_put T) (hr.mono (by omega)) (passes_call (takes_of rfl rfl rfl rfl) (fun _ _ _ _ h => h)) (pa_cons (pv 1) (pa_cons (pe_ix ix_list (pv 2) (pe_int) (fun _ _ => rfl)) (pa_cons (pe_ix ix_list (pv 2) (pe_int) (fun _ _ => rfl)) (pa_cons (pe_ix ix_list (pv 2) (pe_int) (fun _ _ => rfl)) pa_nil)))))))))), ?_⟩
    obtain ⟨dy, hy⟩ := hw.obj
    rcases ps with _ | ⟨i0, ps⟩
    · exact ⟨_, rfl, pa, _, rfl, .inl (SqL.of hp), rfl, _, rfl, iteYes (decide_eq_true rfl) ⟨_, rfl, y, dy, _, rfl, hy, rfl, _, rfl, put_st (ps := []) rfl hw hS (by simp) lt q qe⟩⟩
    rcases ps with _ | ⟨i1, ps⟩
    · exact ⟨_, rfl, pa, _, rfl, .inl (SqL.of hp), rfl, _, rfl, iteNo (decide_eq_false fun z => by simp at z) ⟨_, rfl, pa, _, rfl, .inl (SqL.of hp), rfl, _, rfl, iteYes (decide_eq_true rfl) ⟨_, rfl, y, dy, _, rfl, hy, rfl, _, rfl, _, rfl, _, _, _, _, rfl, rfl, SqL.of hp, atI_nat (j := 0) rfl, put_st (ps := [i0]) rfl hw hS (by simp) lt q qe⟩⟩⟩
    rcases ps with _ | ⟨i2, ps⟩
    · exact ⟨_, rfl, pa, _, rfl, .inl (SqL.of hp), rfl, _, rfl, iteNo (decide_eq_false fun z => by simp at z) ⟨_, rfl, pa, _, rfl, .inl (SqL.of hp), rfl, _, rfl, iteNo (decide_eq_false fun z => by simp at z) ⟨_, rfl, pa, _, rfl, .inl (SqL.of hp), rfl, _, rfl, iteYes (decide_eq_true rfl) ⟨_, rfl, y, dy, _, rfl, hy, rfl, _, rfl, _, rfl, _, _, _, _, rfl, rfl, SqL.of hp, atI_nat (j := 0) rfl, _, rfl, _, _, _, _, rfl, rfl, SqL.of hp, atI_nat (j := 1) rfl, put_st (ps := [i0, i1]) rfl hw hS (by simp) lt q qe⟩⟩⟩⟩
    obtain rfl : ps = [] := by cases ps with | nil => rfl | cons => simp at lp
    exact ⟨_, rfl, pa, _, rfl, .inl (SqL.of hp), rfl, _, rfl, iteNo (decide_eq_false fun z => by simp at z) ⟨_, rfl, pa, _, rfl, .inl (SqL.of hp), rfl, _, rfl, iteNo (decide_eq_false fun z => by simp at z) ⟨_, rfl, pa, _, rfl, .inl (SqL.of hp), rfl, _, rfl, iteNo (decide_eq_false fun z => by simp at z) ⟨_, rfl, y, dy, _, rfl, hy, rfl, _, rfl, _, rfl, _, _, _, _, rfl, rfl, SqL.of hp, atI_nat (j := 0) rfl, _, rfl, _, _, _, _, rfl, rfl, SqL.of hp, atI_nat (j := 1) rfl, _, rfl, _, _, _, _, rfl, rfl, SqL.of hp, atI_nat (j := 2) rfl, put_st (ps := [i0, i1, i2]) rfl hw hS (by simp) lt q qe⟩⟩⟩⟩
end
end My

namespace My
open PySem L2
theorem make_wb {C : Addr} {H : Hp} {x : Addr} {R : Addr → VK} {E : XK} (q : ∀ y l m H', Same H H' → H y = none → H l = none → H m = none → Wb C H' y x l m [] → R y .non H') :
    ∀ y dy, H y = none → H dy = none → dy ≠ y → spWInit C (.ref y :: ([.ref x] ++ [])) (upd (upd H dy (.own y)) y (.ins C dy [])) (R y) E := fun y dy ny nd _ => by
  have s1 : Same H (upd (upd H dy (.own y)) y (.ins C dy [])) := fun a o h => by rw [upd_ne (ne_of_none h ny), upd_ne (ne_of_none h nd)]; exact h
  exact ⟨y, dy, x, rfl, upd_same, fun l m H' b nl nm w => q y l m H' (fun a o h => b a o (ne_of_none h ny) (s1 _ _ h)) ny (s1.free nl) (s1.free nm) w⟩
def spLWeb (C Cs : Addr) : Sp := fun vs H Q _ => ∃ (x p : Addr) (rs : List Row) (us : List V) (ts : List Th), vs = [.ref x, .ref p] ∧ ShO Cs H x rs ∧ H p = some (.lst us) ∧ MtsN [] H us ts ∧ ThsOk rs ts ∧ ts.length ≤ 900 ∧
  ∀ y l m H', Same H H' → H y = none → H l = none → H m = none → Wb C H' y x l m ts → Q (.ref y) H'
section
variable {w : World} {K : PySem.W.Frag} {mg : Str → Option Value} {base : Heap}
theorem ok__law_web (T : Txt K mg) : FnOk PP w K mg base CX0 10 T.a__law_web T.fd__law_web ["_law_shape_here", "_law_things_here"] (spLWeb T.c_Web T.c_Shape) := by
  refine T.F__law_web.ok sc__law_web (fun vs H Q E h => ?_) (fun cdv A outer s H vs Q E hr h => ?_)
  · obtain ⟨x, p, rs, us, ts, rfl, _⟩ := h; rfl
  · obtain ⟨x, p, rs, us, ts, rfl, hS, hp, mM, ok, lt, q⟩ := h
    refine ⟨_, (pss_cons (ps_set (i := 2) sc__law_web.nd rfl (.inl rfl) (pe_make T.mk_Web (ok_Web_init T) (hr.mono (by omega)) (by rfl) T.g_Web T.b_Web_init .nil pass0 (pa_cons (pv 0) pa_nil)))
      (pss_cons (ps_for PassesOwn.never rfl (pi_list (pv 1)) (pg_name (i := 3) sc__law_web.nd rfl (.inl rfl)) (pss_one (ps_expr (pe_call ((ok__law_put T).calm) (hr.mono (by omega)) (by rfl) T.g__law_put T.F__law_put.kp T.b__law_put .nil pass0 (pa_cons (pv 2) (pa_cons (pe_ix ix_list (pv 3) (pe_int) (fun _ _ => rfl)) (pa_cons (pe_ix ix_list (pv 3) (pe_int) (fun _ _ => rfl)) pa_nil)))))))
      (pss_one (ps_ret (pv 2))))), ?_⟩
    have big : 100000 < sizeLine := by decide
    have lts := pair_len' mM
    refine ⟨_, rfl, make_wb fun y l m H1 s1 ny nl nm w1 => ⟨rfl, ?_⟩⟩
    refine ⟨_, rfl, p, rfl, ⟨_, SqL.of (s1 _ _ hp)⟩, for_list (K := K) (a := p) (xs := us) (fun i σ H' => ∃ x3, σ = [some (.ref x), some (.ref p), some (.ref y), x3] ∧ Same H H' ∧ Wb T.c_Web H' y x l m (ts.take i)) ⟨_, rfl, s1, w1⟩ (fun i σ H' _ ⟨_, _, s, _⟩ => SqL.of (s _ _ hp)) ?_ ?_⟩
    · rintro i v σ H2 hv ⟨x3, rfl, s2, w2⟩
      obtain ⟨th, hth, b, bp, rfl, _, _, hb, hbp⟩ := pair_get' mM hv
      have hb : H b = some (.lst [.str th.1, .ref bp]) := hb
      have hbp : H bp = some (.lst (th.2.map V.int)) := hbp
      obtain ⟨g, l3, _⟩ := ok i th hth
      refine ⟨_, rfl, _, rfl, _, _, _, _, rfl, rfl, SqL.of (s2 _ _ hb), atI_nat (j := 0) rfl, _, rfl, _, _, _, _, rfl, rfl, SqL.of (s2 _ _ hb), atI_nat (j := 1) rfl, y, x, l, m, bp, th.1, rs, th.2, ts.take i, rfl, w2, hS.same s2, s2 _ _ hbp, l3, by rw [List.length_take]; omega, fun _ H3 le w3 => ?_, fun e c v f du => (pgood_due g du).elim⟩
      refine ⟨_, rfl, fun a o e => le a o (fun h => ?_) (s2 _ _ e), ?_⟩
      · simp only [List.mem_cons, List.not_mem_nil, or_false] at h
        rcases h with rfl | rfl
        · rw [nl] at e; cases e
        · rw [nm] at e; cases e
      · rw [List.take_succ, hth]; exact w3
    · rintro σ H2 ⟨x3, rfl, s2, w2⟩
      rw [lts, List.take_length] at w2
      exact ⟨_, rfl, q y l m H2 s2 ny nl nm w2⟩
end
end My

namespace L2
open PySem PySem.Spec PyProof.Rows
theorem for_enumL {K : PySem.W.Frag} {a : Addr} {xs : List V} {g : TG} {tb : TS} {D : Ends} {σ : St} {H : Hp} (Pv : Nat → St → Hp → Prop) (h0 : Pv 0 σ H) (hl : ∀ i σ H, i ≤ xs.length → Pv i σ H → SqL K H a xs)
    (hs : ∀ i x σ H T, xs[i]? = some x → Pv i σ H → H T = none → g (.ref T) σ (upd H T (.tup [.int (i : Nat), x])) fun σ2 H2 => tb { D with nx := Pv (i + 1), ct := Pv (i + 1), bk := D.nx } σ2 H2)
    (hd : ∀ σ H, Pv xs.length σ H → D.nx σ H) :
    ∃ W : Nat → Nat → St → Hp → Prop, (∃ m, W 0 m σ H) ∧ ∀ i m σ H, W i m σ H →
      ((Ite K a).stop i H ∧ D.nx σ H) ∨ ((Ite K a).go i H ∧ ∃ N : St → Hp → Prop, (∀ σ' H', N σ' H' → ∃ m', m' < m ∧ W (i + 1) m' σ' H') ∧ ∀ x H', (Ite K a).yld i H x H' → g x σ H' fun σ2 H2 => tb { D with nx := N, ct := N, bk := D.nx } σ2 H2) := by
  refine ⟨fun i m σ H => m = xs.length - i ∧ i ≤ xs.length ∧ Pv i σ H, ⟨xs.length, by simp, Nat.zero_le _, h0⟩, fun i m σ H hW => ?_⟩
  obtain ⟨em, hi, p⟩ := hW
  have q := hl i σ H hi p
  by_cases hlt : i < xs.length
  · refine .inr ⟨⟨xs, xs[i], q, List.getElem?_eq_getElem hlt⟩, Pv (i + 1), fun σ' H' p' => ⟨xs.length - (i + 1), by omega, rfl, hlt, p'⟩, fun x H' y => ?_⟩
    obtain ⟨T, x', ev, nT, eH, hx⟩ := y
    subst ev eH
    exact hs i x' σ H T (hx xs q) p nT
  · have ei : i = xs.length := by omega
    subst ei
    exact .inl ⟨⟨xs, q, Nat.le_refl _⟩, hd σ H p⟩
end L2

namespace My
open PySem L2
/-! ### webs as data -/
def thD (th : Th) : PyData := .tuple [.str th.1, .tuple (th.2.map .int)]
theorem eqv_ints : ∀ a b : List Int, PyData.eqvAll (a.map .int) (b.map .int) = decide (a = b)
  | [], [] => by simp [PyData.eqvAll]
  | [], _ :: _ => by simp [PyData.eqvAll]
  | _ :: _, [] => by simp [PyData.eqvAll]
  | x :: a, y :: b => by
    simp only [List.map_cons, PyData.eqvAll, PyData.eqv, eqv_ints a b]
    rw [Bool.eq_iff_iff, Bool.and_eq_true, beq_iff_eq, decide_eq_true_iff, decide_eq_true_iff]
    simp
theorem eqv_th (a b : Th) : PyData.eqv (thD a) (thD b) = decide (a = b) := by
  unfold thD
  simp only [PyData.eqv, PyData.eqvAll, eqv_ints, Bool.and_true]
  rw [Bool.eq_iff_iff]
  simp only [Bool.and_eq_true, beq_iff_eq, decide_eq_true_iff]
  cases a; cases b
  simp
theorem eqv_ths : ∀ a b : List Th, PyData.eqvAll (a.map thD) (b.map thD) = decide (a = b)
  | [], [] => by simp [PyData.eqvAll]
  | [], _ :: _ => by simp [PyData.eqvAll]
  | _ :: _, [] => by simp [PyData.eqvAll]
  | x :: a, y :: b => by
    simp only [List.map_cons, PyData.eqvAll, eqv_th, eqv_ths a b]
    rw [Bool.eq_iff_iff, Bool.and_eq_true, decide_eq_true_iff, decide_eq_true_iff, decide_eq_true_iff]
    simp
theorem canLay_ints : ∀ l : List Int, PyData.canLayAll0 (l.map .int) = true
  | [] => rfl
  | z :: l => by rw [List.map_cons, PyData.canLayAll0, PyData.canLay0, canLay_ints l]; rfl
theorem depth_ints : ∀ l : List Int, PyData.depthAll (l.map .int) = 0
  | [] => rfl
  | z :: l => by rw [List.map_cons, PyData.depthAll, depth_ints l]; rfl
def thsWords (ts : List Th) : Prop := ∀ t ∈ ts, PyData.strOk t.1 = true
theorem ths_shaped {ts : List Th} (h : thsWords ts) : SeqAt.shaped (.list (ts.map thD)) = true := by
  have h1 : ∀ l : List Th, thsWords l → PyData.canLayAll0 (l.map thD) = true := fun l => by
    induction l with
    | nil => intro _; rfl
    | cons a r ih =>
      intro q
      rw [List.map_cons, PyData.canLayAll0, ih fun s hs => q s (by simp [hs])]
      unfold thD
      simp [PyData.canLay0, PyData.canLayAll0, q a (by simp), canLay_ints]
  have h2 : ∀ l : List Th, PyData.depthAll (l.map thD) ≤ 4 := fun l => by
    induction l with
    | nil => exact Nat.zero_le _
    | cons a r ih =>
      rw [List.map_cons, PyData.depthAll]
      have : PyData.depth (thD a) ≤ 4 := by unfold thD; simp [PyData.depth, PyData.depthAll, depth_ints]
      omega
  unfold SeqAt.shaped
  rw [PyData.canLay0, h1 ts h, PyData.depth, Bool.true_and, decide_eq_true_iff]
  have := h2 ts
  omega
theorem intsDp {K : PySem.W.Frag} {H : Hp} : ∀ l : List Int, DpAll K H (l.map V.int) (l.map .int)
  | [] => .nil
  | z :: l => .cons (.int _) (intsDp l)
theorem thDp {K : PySem.W.Frag} {H : Hp} {v : V} {t : Th} (h : ThV H v t) : Dp K H v (thD t) := by
  obtain ⟨p, pp, rfl, hp, hpp⟩ := h
  exact .tup (SqT.of hp) (.cons (.str _) (.cons (.tup (SqT.of hpp) (intsDp _)) .nil))
theorem thsDp {K : PySem.W.Frag} {H : Hp} : ∀ {vs : List V} {ts : List Th}, ThsV H vs ts → DpAll K H vs (ts.map thD)
  | _, _, .nil => .nil
  | _, _, .cons h t => .cons (thDp h) (thsDp t)
def kidsN (ts : List Th) (p : Int) (i : Nat) : List Int := ((List.range i).filter fun j => decide (p ∈ (ts.getD j ("", [])).2)).map fun j => ((j : Nat) : Int)
theorem kidsN_succ (ts : List Th) (p : Int) (i : Nat) {t : Th} (h : ts[i]? = some t) : kidsN ts p (i + 1) = kidsN ts p i ++ if p ∈ t.2 then [((i : Nat) : Int)] else [] := by
  unfold kidsN
  rw [List.range_succ, List.filter_append, List.map_append]
  congr 1
  have e : ts.getD i ("", []) = t := by rw [List.getD_eq_getElem?_getD, h]; rfl
  simp only [List.filter_cons, e, List.filter_nil]
  by_cases c : p ∈ t.2
  · simp [c]
  · simp [c]
theorem kidsN_len (ts : List Th) (p : Int) (i : Nat) : (kidsN ts p i).length ≤ i := by
  unfold kidsN
  rw [List.length_map]
  have := List.length_filter_le (fun j => decide (p ∈ (ts.getD j ("", [])).2)) (List.range i)
  rw [List.length_range] at this
  exact this
end My

namespace My
open PySem L2
/-! ### webs: equality, copies, children, above (a number that is no thing) -/
def spWEq (C Cs : Addr) : Sp := fun vs H Q _ => ∃ (y x l m y2 x2 l2 m2 : Addr) (ts us : List Th) (rs rs2 : List Row), vs = [.ref y, .ref y2] ∧ Wb C H y x l m ts ∧ Wb C H y2 x2 l2 m2 us ∧ ShO Cs H x rs ∧ ShO Cs H x2 rs2 ∧ wordsOk rs ∧ wordsOk rs2 ∧ thsWords ts ∧ thsWords us ∧
  Q (.bl (decide (rs = rs2) && decide (ts = us))) H
def spWCopy (C Cs : Addr) : Sp := fun vs H Q _ => ∃ (y x l m : Addr) (ts : List Th) (rs : List Row), vs = [.ref y] ∧ Wb C H y x l m ts ∧ ShO Cs H x rs ∧ (∀ k th, ts[k]? = some th → PGood rs (ts.take k) th.1 th.2 ∧ th.2.length ≤ 3) ∧ ts.length ≤ 990 ∧
  ∀ y' l' m' H', Same H H' → H y' = none → H l' = none → H m' = none → Wb C H' y' x l' m' ts → Q (.ref y') H'
def spWKids (C X : Addr) : Sp := fun vs H Q E => ∃ (y x l m : Addr) (p : Int) (ts : List Th), vs = [.ref y, .int p] ∧ Wb C H y x l m ts ∧ ts.length ≤ 1000 ∧ (inW ts p → ∀ u H', Same H H' → H u = none → H' u = some (.tup ((kidsN ts p ts.length).map V.int)) → Q (.ref u) H') ∧ (¬ inW ts p → ErrS X "thing" (.int p) H E)
section
variable {w : World} {K : PySem.W.Frag} {mg : Str → Option Value} {base : Heap}
theorem ok_Web_eq (T : Txt K mg) : FnOk PP w K mg base CX0 2 T.a_Web_eq T.fd_Web_eq ["self", "other"] (spWEq T.c_Web T.c_Shape) := by
  refine T.F_Web_eq.ok sc_Web_eq (fun vs H Q E h => ?_) (fun cdv A outer s H vs Q E hr h => ?_)
  · obtain ⟨y, x, l, m, y2, x2, l2, m2, ts, us, rs, rs2, rfl, _⟩ := h; rfl
  · obtain ⟨y, x, l, m, y2, x2, l2, m2, ts, us, rs, rs2, rfl, hw, hw2, S, S2, g, g2, t1, t2, q⟩ := h
    obtain ⟨⟨dy, hy⟩, ⟨vs, hl, hv⟩, hm, ne⟩ := id hw
    obtain ⟨⟨dy2, hy2⟩, ⟨vs2, hl2, hv2⟩, hm2, ne2⟩ := id hw2
    obtain ⟨dx, _, _, _, hx, _⟩ := id S
    obtain ⟨dx2, _, _, _, hx2, _⟩ := id S2
    refine ⟨_, (pss_one (ps_ret (pe_and (pe_callB call_isi (by rfl) T.n_isinstance (by decide +kernel) (pa_cons (pv 1) (pa_cons (pe_glob (v := .ref T.c_Web) (by rfl) T.g_Web rfl) pa_nil))) (pe_and (pe_cmpR (op_cmpI (fun _ _ => rfl) T.m_Shape_eq.at_ T.m_Shape_eq.fn (ok_Shape_eq T) (hr.mono (by omega)) T.b_Shape_eq pass0) (pe_fld (pv 0) rfl) (pe_fld (pv 1) rfl) (nomark _)) (pe_one (pe_cmpR (op_eqD hr.units) (pe_fld (pv 0) rfl) (pe_fld (pv 1) rfl) (nomark _))))))), ?_⟩
    refine ⟨_, rfl, _, _, _, _, true, rfl, ClsV.own _, .base (T.ti_Web _ _ _ _ hy2), T.kk_Web, _, rfl, iteT ?_⟩
    refine ⟨_, rfl, y, _, dy, _, _, rfl, hy, T.cl_Web, T.no_Web_shape, wb_look1 x l m, _, rfl, y2, _, dy2, _, _, rfl, hy2, T.cl_Web, T.no_Web_shape, wb_look1 x2 l2 m2, x, dx, _, x2, dx2, _, rfl, rfl, hx, hx2, x, x2, rs, rs2, rfl, S, S2, g, g2, ?_⟩
    by_cases c : rs = rs2
    · rw [decide_eq_true c] at q ⊢
      refine ⟨_, rfl, iteT ?_⟩
      refine ⟨_, rfl, y, _, dy, _, _, rfl, hy, T.cl_Web, T.no_Web__rows, wb_look2 x l m, _, rfl, y2, _, dy2, _, _, rfl, hy2, T.cl_Web, T.no_Web__rows, wb_look2 x2 l2 m2, _, _, .lst (SqL.of hl) (thsDp hv), .lst (SqL.of hl2) (thsDp hv2), ths_shaped t1, ths_shaped t2, ?_⟩
      rw [PyData.eqv, eqv_ths]
      exact q
    · rw [decide_eq_false c] at q ⊢
      exact ⟨_, rfl, iteF q⟩
end
end My

namespace My
open PySem L2
/-! ### steps, programs -/
abbrev Stp := Str × Int
def StpAt (H : Hp) (v : V) (s : Stp) : Prop := ∃ t, v = .ref t ∧ H t = some (.tup [.str s.1, .int s.2])
abbrev Stps (H : Hp) (vs : List V) (ss : List Stp) : Prop := Paired (StpAt H) vs ss
/-- tuples stay -/
def TKeep (H H' : Hp) : Prop := ∀ t xs, H t = some (.tup xs) → H' t = some (.tup xs)
theorem TKeep.refl (H : Hp) : TKeep H H := fun _ _ h => h
theorem TKeep.trans {H H1 H2 : Hp} (a : TKeep H H1) (b : TKeep H1 H2) : TKeep H H2 := fun t xs h => b t xs (a t xs h)
theorem TKeep.same {H H' : Hp} (s : Same H H') : TKeep H H' := fun t xs h => s t _ h
theorem TKeep.but {x : Addr} {H H' : Hp} (b : But x H H') (n : ∀ xs, H x ≠ some (.tup xs)) : TKeep H H' := fun t xs h => b t _ (fun e => n xs (e ▸ h)) h
theorem Stps.keep {H H' : Hp} {vs : List V} {ss : List Stp} (h : Stps H vs ss) (k : TKeep H H') : Stps H' vs ss := L2.Paired.mapP h fun _ _ ⟨t, e, q⟩ => ⟨t, e, k t _ q⟩
theorem Stps.same {H H' : Hp} {vs : List V} {ss : List Stp} (h : Stps H vs ss) (s : Same H H') : Stps H' vs ss := h.keep (.same s)
theorem pair_app {α β : Type} {F : α → β → Prop} : ∀ {l l' : List α} {m m' : List β}, Paired F l m → Paired F l' m' → Paired F (l ++ l') (m ++ m')
  | _, _, _, _, .nil, q => q
  | _, _, _, _, .cons r t, q => .cons r (pair_app t q)
theorem pair_take {α β : Type} {F : α → β → Prop} : ∀ {l : List α} {m : List β} (n : Nat), Paired F l m → Paired F (l.take n) (m.take n)
  | _, _, 0, _ => .nil
  | _, _, _ + 1, .nil => .nil
  | _, _, n + 1, .cons r t => .cons r (pair_take n t)
theorem pair_drop {α β : Type} {F : α → β → Prop} : ∀ {l : List α} {m : List β} (n : Nat), Paired F l m → Paired F (l.drop n) (m.drop n)
  | _, _, 0, h => h
  | _, _, _ + 1, .nil => .nil
  | _, _, n + 1, .cons _ t => pair_drop n t
def goodS (s : Stp) : Prop := (s.1 = "own" ∨ s.1 = "share" ∨ s.1 = "drop") ∧ 0 ≤ s.2
def deedsV : List V := [.str "own", .str "share", .str "drop"]
theorem inDeeds {z : Str} (h : z = "own" ∨ z = "share" ∨ z = "drop") : inV (.str z) deedsV = true := by rcases h with rfl | rfl | rfl <;> decide +kernel
/-- a program of the class at C -/
def Pg (C : Addr) (H : Hp) (x : Addr) (ss : List Stp) : Prop := ∃ dx l vs, H x = some (.ins C dx [("_steps", .ref l)]) ∧ H l = some (.lst vs) ∧ Stps H vs ss ∧ vs.length ≤ 1000
theorem Pg.same {C : Addr} {H H' : Hp} {x : Addr} {ss : List Stp} (h : Pg C H x ss) (s : Same H H') : Pg C H' x ss := let ⟨dx, l, vs, a, b, c, d⟩ := h; ⟨dx, l, vs, s _ _ a, s _ _ b, c.same s, d⟩
theorem steps_look (l : Addr) : ([("_steps", V.ref l)] : List (Str × V)).lookup ("_steps" : Str) = some (.ref l) := by rfl
/-- the data of steps -/
def stpD (s : Stp) : PyData := .tuple [.str s.1, .int s.2]
theorem stpD_inj {a b : Stp} (h : stpD a = stpD b) : a = b := by
  unfold stpD at h
  simp only [PyData.tuple.injEq, List.cons.injEq, PyData.str.injEq, PyData.int.injEq, and_true] at h
  exact Prod.ext h.1 h.2
theorem stpsD_inj : ∀ {a b : List Stp}, a.map stpD = b.map stpD → a = b
  | [], [], _ => rfl
  | [], _ :: _, h => by simp at h
  | _ :: _, [], h => by simp at h
  | x :: a, y :: b, h => by
    simp only [List.map_cons, List.cons.injEq] at h
    rw [stpD_inj h.1, stpsD_inj h.2]
theorem stpsDn {K : PySem.W.Frag} {x : Addr} {H : Hp} {vs : List V} {ss : List Stp} (h : Stps H vs ss) (n : ∀ xs, H x ≠ some (.tup xs)) : Paired (Dn K x H 1) vs (ss.map stpD) := by
  induction h with
  | nil => exact .nil
  | cons r t ih =>
    obtain ⟨t, rfl, e⟩ := r
    exact .cons (Dn.tup (fun q => n _ (q ▸ e)) (SqT.of e) (.cons (.str _) (.cons (.int _) .nil))) ih
theorem stpsDL {K : PySem.W.Frag} {x l : Addr} {H : Hp} {vs : List V} {ss : List Stp} (hl : H l = some (.lst vs)) (h : Stps H vs ss) (nl : l ≠ x) (n : ∀ xs, H x ≠ some (.tup xs)) (hz : vs.length ≤ 100000) : Dn K x H 2 (.ref l) (.list (ss.map stpD)) :=
  Dn.lst nl (SqL.of hl) (stpsDn h n) hz
end My

namespace My
open PySem L2
instance (s : Stp) : Decidable (goodS s) := by unfold goodS; exact inferInstance
/-- a step, in a tuple or in a list -/
def StpV (H : Hp) (v : V) (s : Stp) : Prop := ∃ p, v = .ref p ∧ (H p = some (.tup [.str s.1, .int s.2]) ∨ H p = some (.lst [.str s.1, .int s.2]))
abbrev StpsV (H : Hp) (vs : List V) (ss : List Stp) : Prop := Paired (StpV H) vs ss
theorem StpV.same {H H' : Hp} {v : V} {s : Stp} (h : StpV H v s) (e : Same H H') : StpV H' v s := by
  obtain ⟨p, a, b | b⟩ := h
  · exact ⟨p, a, .inl (e _ _ b)⟩
  · exact ⟨p, a, .inr (e _ _ b)⟩
theorem stpsV_same {H H' : Hp} {vs : List V} {ss : List Stp} (h : StpsV H vs ss) (e : Same H H') : StpsV H' vs ss := L2.Paired.mapP h fun _ _ x => x.same e
theorem Stps.toV {H : Hp} {vs : List V} {ss : List Stp} (h : Stps H vs ss) : StpsV H vs ss := L2.Paired.mapP h fun _ _ ⟨t, e, q⟩ => ⟨t, e, .inl q⟩
def firstBad (ss : List Stp) : Option Stp := ss.find? fun s => decide (¬ goodS s)
theorem no_bad {ss : List Stp} : firstBad ss = none ↔ ∀ s ∈ ss, goodS s := by
  unfold firstBad
  rw [List.find?_eq_none]
  simp
theorem bad_not {ss : List Stp} {s : Stp} (h : firstBad ss = some s) : ¬ goodS s := by
  have := List.find?_some h
  simpa using this
theorem bad_at {ss : List Stp} {i : Nat} {s : Stp} (hi : ss[i]? = some s) (hb : ¬ goodS s) (hg : ∀ r ∈ ss.take i, goodS r) : firstBad ss = some s := by
  unfold firstBad
  have e : ss = ss.take i ++ s :: ss.drop (i + 1) := by
    obtain ⟨h1, h2⟩ := List.getElem?_eq_some_iff.mp hi
    rw [← h2, ← List.drop_eq_getElem_cons h1, List.take_append_drop]
  rw [e, List.find?_append, List.find?_eq_none.mpr (by intro r hr; simpa using hg r hr)]
  simp [List.find?_cons, hb]
/-- what a spoilt step raises -/
abbrev BadE (X : Addr) (H : Hp) (E : XK) (s : Stp) : Prop := ∀ H' d q, Same H H' → H d = none → H q = none → H' d = some (.xd [("step", .ref q)]) → H' q = some (.tup [.str s.1, .int s.2]) → E (.ref X) (some d) H'
def spSoundX (X : Addr) : Sp := fun vs H Q E => ∃ (v : V) (s : Stp), vs = [v] ∧ StpV H v s ∧ (goodS s → ∀ p, H p = none → Q (.ref p) (upd H p (.tup [.str s.1, .int s.2]))) ∧ (¬ goodS s → BadE X H E s)
def spPInitX (C X : Addr) : Sp := fun vs H Q E => ∃ (x dx p : Addr) (us : List V) (ss : List Stp), vs = [.ref x, .ref p] ∧ H x = some (.ins C dx []) ∧ H p = some (.tup us) ∧ StpsV H us ss ∧ us.length ≤ 1000 ∧
  (firstBad ss = none → ∀ H' l vs', But x H H' → H' x = some (.ins C dx [("_steps", .ref l)]) → H l = none → H' l = some (.lst vs') → Stps H' vs' ss → vs'.length = us.length → Q .non H') ∧
  (∀ s, firstBad ss = some s → BadE X H E s)
theorem inDeeds_iff (z : Str) : inV (.str z) deedsV = true ↔ (z = "own" ∨ z = "share" ∨ z = "drop") := by
  constructor
  · intro h
    unfold inV deedsV at h
    simp [eqV] at h
    rcases h with h | h | h
    · exact .inl h.symm
    · exact .inr (.inl h.symm)
    · exact .inr (.inr h.symm)
  · exact inDeeds
/-- what C(..) asks, of the new instance at x -/
theorem init_pgX {C X x dx : Addr} {H : Hp} {us : List V} {ss : List Stp} {Q : VK} {E : XK} (hx : H x = some (.ins C dx [])) (hs : StpsV H us ss) (hl : us.length ≤ 1000)
    (q : firstBad ss = none → ∀ H', But x H H' → Pg C H' x ss → Q .non H') (qb : ∀ s, firstBad ss = some s → BadE X H E s) : spStar 1 (spPInitX C X) (.ref x :: us) H Q E :=
  ⟨[.ref x], us, rfl, rfl, Nat.le_trans hl (by decide), fun p np => ⟨x, dx, p, us, ss, rfl, same_new np _ _ hx, upd_same, stpsV_same hs (same_new np), hl, fun hb H' l vs' b h1 _ h2 h3 h4 =>
    q hb H' (fun y o n h => b y o n (same_new np _ _ h)) ⟨dx, l, vs', h1, h2, h3, by omega⟩, fun s hb H' d q s' nd nq => qb s hb H' d q ((same_new np).trans s') ((same_new np).free nd) ((same_new np).free nq)⟩⟩
section
variable {w : World} {K : PySem.W.Frag} {mg : Str → Option Value} {base : Heap}
theorem ok_sound_step (T : Txt K mg) : FnOk PP w K mg base (L2.CX PP w) 2 T.a_sound_step T.fd_sound_step ["step"] (spSoundX T.c_BadStep) := by
  refine T.F_sound_step.okX sc_sound_step (fun vs H Q E h => ?_) (fun cdv A outer s H vs Q E hr h => ?_)
  · obtain ⟨v, s, rfl, _⟩ := h; rfl
  · obtain ⟨v, sp, rfl, ⟨p, rfl, hp⟩, qg, qb⟩ := h
    refine ⟨_, (pss_cons (ps_asg (pv 0) (pg_seq rfl (pgs_cons (pg_name (i := 1) sc_sound_step.nd rfl (.inl rfl)) (pgs_cons (pg_name (i := 2) sc_sound_step.nd rfl (.inl rfl)) pgs_nil))))
      (pss_cons (ps_if (PW.pt (pw_or (pt_cmpR op_notIn_seq (pv 1) (pe_glob (v := .ref T.k_DEEDS) (by rfl) T.g_DEEDS rfl) (by with_unfolding_all rfl)) (pw_or1 (pt_cmpR op_lt (pv 2) (pe_int) (nomark _))))) (pss_one (ps_raiseX rfl T.x_BadStep hr (takes_of rfl rfl rfl rfl) (pa_cons (pe_tup (pa_cons (pv 1) (pa_cons (pv 2) pa_nil))) pa_nil))) pss_nil)
      (pss_one (ps_ret (pe_tup (pa_cons (pv 1) (pa_cons (pv 2) pa_nil))))))), ?_⟩
    have bad : ¬ goodS sp → ∀ q, H q = none → ∀ d, (upd H q (.tup [.str sp.1, .int sp.2])) d = none → E (.ref T.c_BadStep) (some d) (upd (upd H q (.tup [.str sp.1, .int sp.2])) d (.xd [("step", .ref q)])) := fun hb q hq d hd =>
      qb hb _ d q ((same_new hq).trans (same_new hd)) ((same_new hq).free hd) hq upd_same (same_new hd _ _ upd_same)
    refine ⟨_, rfl, gSeq_of hp rfl ⟨_, _, rfl, _, _, rfl, rfl, ?_⟩⟩
    refine ⟨_, rfl, _, _, rfl, .inr (T.q_DEEDS _), rfl, rfl, _, rfl, ?_⟩
    rw [show [V.str "own", .str "share", .str "drop"] = deedsV from rfl]
    by_cases kd : sp.1 = "own" ∨ sp.1 = "share" ∨ sp.1 = "drop"
    · refine iteNo (by rw [inDeeds kd]; rfl) ?_
      refine ⟨_, rfl, _, _, rfl, rfl, _, rfl, iteD (fun c => ?_) (fun c => ?_)⟩
      · exact ⟨_, rfl, _, rfl, by show 2 ≤ sizeLine; decide, fun q hq => ⟨_, rfl, fun d hd => bad (fun h => by have := h.2; omega) q hq d hd⟩⟩
      · exact ⟨_, rfl, _, rfl, by show 2 ≤ sizeLine; decide, fun q hq => qg ⟨kd, by omega⟩ q hq⟩
    · refine iteYes (by rw [Bool.eq_false_iff.mpr (fun z => kd ((inDeeds_iff sp.1).mp z))]; rfl) ?_
      exact ⟨_, rfl, _, rfl, by show 2 ≤ sizeLine; decide, fun q hq => ⟨_, rfl, fun d hd => bad (fun h => kd h.1) q hq d hd⟩⟩
theorem ok_Program_init (T : Txt K mg) : FnR PP w K mg base (L2.CX PP w) 4 T.a_Program_init (spStar 1 (spPInitX T.c_Program T.c_BadStep)) := by
  refine Fun.starX (k := 3) (ps := ["self"]) T.F_Program_init sc_Program_init T.bs_Program_init fun cdv A outer s H vs Q E hr h => ?_
  obtain ⟨x, dx, p, us, ss, rfl, hx, hp, hs, hl, q, qb⟩ := h
  refine ⟨_, (pss_one (ps_fld (pv 0) (pe_lcX (own := [("step", 2)]) (g := (gName 2)) rfl rfl rfl rfl (by rfl) sc_Program_init.nd (pi_tup (pv 1)) (blkOk_by (own := [("step", 2)]) (N := ["self", "steps", "step"]) (sc := defScope S_Program_init) (by decide +kernel)) (fun _ _ _ _ _ _ => (pg_name (i := 2) sc_Program_init.nd rfl (by first | exact .inl rfl | exact .inr rfl))) (fun _ _ _ _ _ _ => pts_nil) (fun _ _ _ _ _ _ hp => (pe_call (ok_sound_step T) (hr.mono (by omega)) (by rfl) T.g_sound_step T.F_sound_step.kp T.b_sound_step .nil hp (pa_cons (pv 2) pa_nil)))) rfl)), ?_⟩
  have lss := pair_len hs
  refine ⟨_, rfl, p, rfl, ⟨_, SqT.of hp⟩, fun D hD => ?_⟩
  have nxD : x ≠ D := ne_of_none hx hD
  have npD : p ≠ D := ne_of_none hp hD
  refine lc_tup (K := K) (a := p) (xs := us) (fun i H' => ∃ vs', Same H H' ∧ H' D = some (.lst vs') ∧ Stps H' vs' (ss.take i) ∧ vs'.length = i ∧ ∀ s ∈ ss.take i, goodS s) ⟨[], same_new hD, upd_same, .nil, rfl, fun s h => by rw [List.take_zero] at h; cases h⟩ (fun i H' _ ⟨_, s1, _⟩ => SqT.of (s1 _ _ hp)) ?_ ?_
  · rintro i v H1 hv ⟨vs', s1, h1, st1, l1, g1⟩
    obtain ⟨y, hy, hV⟩ := pair_get hs hv
    have hi := (List.getElem?_eq_some_iff.mp hv).1
    refine ⟨rfl, _, rfl, v, y, rfl, hV.same s1, fun gy u nu => ?_, fun by_ H' d q s' nd nq => qb y (bad_at hy by_ g1) H' d q (s1.trans s') (s1.free nd) (s1.free nq)⟩
    have s2 := same_new (o := .tup [.str y.1, .int y.2]) nu
    refine ⟨_, s2 _ _ h1, Nat.lt_of_le_of_lt (by omega : _ ≤ 1000) (by decide), vs' ++ [.ref u], same_mut (s1.trans s2) hD, upd_same, ?_, by rw [List.length_append, l1]; rfl, ?_⟩
    · have nuD : u ≠ D := (ne_of_none h1 nu).symm
      rw [List.take_add_one, hy]
      refine pair_app (Stps.keep st1 fun a xs e => ?_) (.cons ⟨u, rfl, by rw [upd_ne nuD]; exact upd_same⟩ .nil)
      rw [upd_ne (fun z => by rw [z, h1] at e; cases e)]
      exact s2 _ _ e
    · rw [List.take_add_one, hy]
      intro s hs'
      rcases List.mem_append.mp hs' with h | h
      · exact g1 s h
      · rw [List.mem_singleton.mp h]; exact gy
  · rintro H1 ⟨vs', s1, h1, st1, l1, g1⟩
    rw [List.take_of_length_le (by omega)] at st1 g1
    refine ⟨_, rfl, x, _, dx, _, rfl, s1 _ _ hx, T.cl_Program, T.no_Program__steps, by show 0 < 1000; decide, ?_⟩
    have hx1 := s1 _ _ hx
    refine q (no_bad.mpr g1) _ D vs' (fun y o n h => by rw [upd_ne n]; exact s1 _ _ h) upd_same hD (by rw [upd_ne nxD.symm]; exact h1) (Stps.keep st1 fun a xs e => ?_) l1
    rw [upd_ne (fun z => by rw [z, hx1] at e; cases e)]
    exact e
end
end My

namespace My
open PySem L2
/-! ### what programs answer -/
def thingsOf (ss : List Stp) : List Int := ss.foldl (fun (acc : List Int) (s : Stp) => if s.1 ≠ ("drop" : Str) ∧ s.2 ∉ acc then acc ++ [s.2] else acc) []
theorem things_take {ss : List Stp} {i : Nat} {s : Stp} (h : ss[i]? = some s) : thingsOf (ss.take (i + 1)) = if s.1 ≠ ("drop" : Str) ∧ s.2 ∉ thingsOf (ss.take i) then thingsOf (ss.take i) ++ [s.2] else thingsOf (ss.take i) := by
  unfold thingsOf
  rw [List.take_add_one, h, List.foldl_append]
  rfl
theorem things_len (ss : List Stp) : ∀ i, (thingsOf (ss.take i)).length ≤ i
  | 0 => Nat.le_refl _
  | i + 1 => by
    have ih := things_len ss i
    cases h : ss[i]? with
    | none => rw [List.take_add_one, h, Option.toList_none, List.append_nil]; omega
    | some s => rw [things_take h]; split <;> first | (rw [List.length_append, List.length_singleton]; omega) | omega
def modeOf (ss : List Stp) (n : Int) : Str := match ss.find? (fun s : Stp => decide (s.2 = n) && !decide (s.1 = ("drop" : Str))) with | some s => s.1 | none => ""
theorem mode_at {ss : List Stp} {n : Int} {i : Nat} {s : Stp} (h : ss[i]? = some s) (hb : ∀ (j : Nat) (r : Stp), j < i → ss[j]? = some r → ¬ (r.2 = n ∧ r.1 ≠ ("drop" : Str))) (hs : s.2 = n ∧ s.1 ≠ "drop") : modeOf ss n = s.1 := by
  have hi := (List.getElem?_eq_some_iff.mp h).1
  have e : ss.find? (fun s : Stp => decide (s.2 = n) && !decide (s.1 = ("drop" : Str))) = some s := by
    rw [List.find?_eq_some_iff_getElem]
    refine ⟨by rw [decide_eq_true hs.1, decide_eq_false hs.2]; rfl, i, hi, (List.getElem?_eq_some_iff.mp h).2, fun j hj => ?_⟩
    have q := hb j ss[j] hj (List.getElem?_eq_getElem _)
    by_cases q1 : (ss[j]).2 = n
    · have q2 : (ss[j]).1 = "drop" := Classical.not_not.mp fun z => q ⟨q1, z⟩
      rw [decide_eq_true q2]; simp
    · rw [decide_eq_false q1]; rfl
  unfold modeOf
  rw [e]
theorem mode_no {ss : List Stp} {n : Int} (hb : ∀ (j : Nat) (r : Stp), ss[j]? = some r → ¬ (r.2 = n ∧ r.1 ≠ ("drop" : Str))) : modeOf ss n = "" := by
  have e : ss.find? (fun s : Stp => decide (s.2 = n) && !decide (s.1 = ("drop" : Str))) = none := by
    rw [List.find?_eq_none]
    intro s hs
    obtain ⟨j, hj⟩ := List.mem_iff_getElem?.mp hs
    have q := hb j s hj
    by_cases q1 : s.2 = n
    · have q2 : s.1 = "drop" := Classical.not_not.mp fun z => q ⟨q1, z⟩
      rw [decide_eq_true q2]; simp
    · rw [decide_eq_false q1]; simp
  unfold modeOf
  rw [e]
theorem eqv_stp (a b : Stp) : PyData.eqv (stpD a) (stpD b) = decide (a = b) := by
  unfold stpD
  simp only [PyData.eqv, PyData.eqvAll, Bool.and_true]
  rw [Bool.eq_iff_iff, Bool.and_eq_true, beq_iff_eq, beq_iff_eq, decide_eq_true_iff]
  exact ⟨fun h => Prod.ext h.1 h.2, fun h => by rw [h]; exact ⟨rfl, rfl⟩⟩
theorem eqv_stps : ∀ a b : List Stp, PyData.eqvAll (a.map stpD) (b.map stpD) = decide (a = b)
  | [], [] => by simp [PyData.eqvAll]
  | [], _ :: _ => by simp [PyData.eqvAll]
  | _ :: _, [] => by simp [PyData.eqvAll]
  | x :: a, y :: b => by
    simp only [List.map_cons, PyData.eqvAll, eqv_stp, eqv_stps a b]
    rw [Bool.eq_iff_iff, Bool.and_eq_true, decide_eq_true_iff, decide_eq_true_iff, decide_eq_true_iff]
    simp
theorem stp_ok {s : Stp} (h : goodS s) : PyData.canLay0 (stpD s) = true := by
  unfold stpD
  have : PyData.strOk s.1 = true := by rcases h.1 with e | e | e <;> (rw [e]; decide +kernel)
  simp [PyData.canLay0, PyData.canLayAll0, this]
theorem stps_shaped {ss : List Stp} (h : ∀ s ∈ ss, goodS s) : SeqAt.shaped (.list (ss.map stpD)) = true := by
  have h1 : ∀ l : List Stp, (∀ s ∈ l, goodS s) → PyData.canLayAll0 (l.map stpD) = true := fun l => by
    induction l with
    | nil => intro _; rfl
    | cons a r ih => intro q; rw [List.map_cons, PyData.canLayAll0, stp_ok (q a (by simp)), ih fun s hs => q s (by simp [hs])]; rfl
  have h2 : ∀ l : List Stp, PyData.depthAll (l.map stpD) ≤ 1 := fun l => by
    induction l with
    | nil => exact Nat.zero_le _
    | cons a r ih =>
      rw [List.map_cons, PyData.depthAll]
      have : PyData.depth (stpD a) = 1 := by unfold stpD; simp [PyData.depth, PyData.depthAll]
      omega
  unfold SeqAt.shaped
  rw [PyData.canLay0, h1 ss h, PyData.depth, Bool.true_and, decide_eq_true_iff]
  have := h2 ss
  omega
theorem stpsDp {K : PySem.W.Frag} {H : Hp} : ∀ {vs : List V} {ss : List Stp}, Stps H vs ss → DpAll K H vs (ss.map stpD)
  | _, _, .nil => .nil
  | _, _, .cons ⟨_, e, h⟩ t => by
    subst e
    exact .cons (.tup (SqT.of h) (.cons (.str _) (.cons (.int _) .nil))) (stpsDp t)
def spPEq (C : Addr) : Sp := fun vs H Q _ => ∃ (x y : Addr) (ss tt : List Stp), vs = [.ref x, .ref y] ∧ Pg C H x ss ∧ Pg C H y tt ∧ (∀ s ∈ ss, goodS s) ∧ (∀ s ∈ tt, goodS s) ∧ Q (.bl (decide (ss = tt))) H
/-- the right operand of +: its steps -/
def Rgt (K : PySem.W.Frag) (C : Addr) (H : Hp) (y : Addr) (tt : List Stp) : Prop := Pg C H y tt ∨ ∃ us, (SqL K H y us ∨ SqT K H y us) ∧ Stps H us tt
def spPAdd (K : PySem.W.Frag) (C : Addr) : Sp := fun vs H Q _ => ∃ (x y : Addr) (ss tt : List Stp), vs = [.ref x, .ref y] ∧ Pg C H x ss ∧ Rgt K C H y tt ∧ ss.length + tt.length ≤ 1000 ∧ (∀ s ∈ ss ++ tt, goodS s) ∧
  ∀ z H', Same H H' → H z = none → Pg C H' z (ss ++ tt) → Q (.ref z) H'
def spThings (C : Addr) : Sp := fun vs H Q _ => ∃ (x : Addr) (ss : List Stp), vs = [.ref x] ∧ Pg C H x ss ∧ ∀ t H', Same H H' → H t = none → H' t = some (.tup ((thingsOf ss).map V.int)) → Q (.ref t) H'
def spMode (C : Addr) : Sp := fun vs H Q _ => ∃ (x : Addr) (n : Int) (ss : List Stp), vs = [.ref x, .int n] ∧ Pg C H x ss ∧ Q (.str (modeOf ss n)) H
def spBegin (C X : Addr) : Sp := fun vs H Q E => ∃ (x : Addr) (n : Int) (ss : List Stp), vs = [.ref x, .int n] ∧ Pg C H x ss ∧ (∀ s ∈ ss, goodS s) ∧
  (∀ m : Nat, n = m → m ≤ ss.length → ∀ z H', Same H H' → H z = none → Pg C H' z (ss.take m) → Q (.ref z) H') ∧
  (n < 0 ∨ (ss.length : Int) < n → ∀ H' d, Same H H' → H d = none → H' d = some (.xd [("most", .int ss.length)]) → E (.ref X) (some d) H')
section
variable {w : World} {K : PySem.W.Frag} {mg : Str → Option Value} {base : Heap}
theorem ok_Program_iter (T : Txt K mg) : IterOk PP w K mg base 1 T.a_Program_iter T.c_Program "_steps" := fun A outer s H a dx l fs xs Q E hr e0 ha hf hq q => by
  refine fn_here T.F_Program_iter sc_Program_iter T.b_Program_iter hr e0 (vs := [.ref a]) (.cons rfl .nil) rfl fun cdv hr => ⟨_, (pss_one (ps_ret (pe_callB ItX.call_iterN (by rfl) T.n_iter (by decide +kernel) (pa_cons (pe_fld (pv 0) rfl) pa_nil)))), ?_⟩
  exact ⟨_, rfl, a, _, dx, _, _, rfl, ha, T.cl_Program, T.no_Program__steps, hf, l, xs, rfl, hq, fun it n1 n2 => q it n1 n2⟩
end
end My

namespace My
open PySem L2
theorem bad_app {ss tt : List Stp} (h : ∀ s ∈ ss, goodS s) : firstBad (ss ++ tt) = firstBad tt := by
  unfold firstBad
  rw [List.find?_append, show List.find? (fun s => decide (¬ goodS s)) ss = none from no_bad.mpr h]
  rfl
theorem bad_pre {ss tt : List Stp} (h : ∀ s ∈ ss, goodS s) : firstBad (tt ++ ss) = firstBad tt := by
  unfold firstBad
  rw [List.find?_append, show List.find? (fun s => decide (¬ goodS s)) ss = none from no_bad.mpr h]
  cases List.find? (fun s => decide (¬ goodS s)) tt <;> rfl
/-- what may stand beside a program -/
def RowX (K : PySem.W.Frag) (H : Hp) (y : Addr) (tt : List Stp) : Prop := ∃ vs, (SqL K H y vs ∨ SqT K H y vs) ∧ StpsV H vs tt
def RgtX (K : PySem.W.Frag) (C : Addr) (H : Hp) (y : Addr) (tt : List Stp) : Prop := (Pg C H y tt ∧ ∀ s ∈ tt, goodS s) ∨ RowX K H y tt
/-- a program whose list is an address of F -/
def PgF (F : Addr → Prop) (C : Addr) (H : Hp) (x : Addr) (ss : List Stp) : Prop := ∃ dx l vs, F l ∧ H x = some (.ins C dx [("_steps", .ref l)]) ∧ H l = some (.lst vs) ∧ Stps H vs ss ∧ vs.length ≤ 1000
theorem PgF.pg {F : Addr → Prop} {C : Addr} {H : Hp} {x : Addr} {ss : List Stp} (h : PgF F C H x ss) : Pg C H x ss := let ⟨dx, l, vs, _, e⟩ := h; ⟨dx, l, vs, e⟩
theorem PgF.sub {F G : Addr → Prop} {C : Addr} {H : Hp} {x : Addr} {ss : List Stp} (h : PgF F C H x ss) (i : ∀ a, F a → G a) : PgF G C H x ss := let ⟨dx, l, vs, f, e⟩ := h; ⟨dx, l, vs, i _ f, e⟩
theorem PgF.same {F : Addr → Prop} {C : Addr} {H H' : Hp} {x : Addr} {ss : List Stp} (h : PgF F C H x ss) (s : Same H H') : PgF F C H' x ss := let ⟨dx, l, vs, f, a, b, c, d⟩ := h; ⟨dx, l, vs, f, s _ _ a, s _ _ b, c.same s, d⟩
theorem init_pgF {C X x dx : Addr} {H : Hp} {us : List V} {ss : List Stp} {Q : VK} {E : XK} (hx : H x = some (.ins C dx [])) (hs : StpsV H us ss) (hl : us.length ≤ 1000)
    (q : firstBad ss = none → ∀ H', But x H H' → PgF (fun l => H l = none) C H' x ss → Q .non H') (qb : ∀ s, firstBad ss = some s → BadE X H E s) : spStar 1 (spPInitX C X) (.ref x :: us) H Q E :=
  ⟨[.ref x], us, rfl, rfl, Nat.le_trans hl (by decide), fun p np => ⟨x, dx, p, us, ss, rfl, same_new np _ _ hx, upd_same, stpsV_same hs (same_new np), hl, fun hb H' l vs' b h1 nl h2 h3 h4 =>
    q hb H' (fun y o n h => b y o n (same_new np _ _ h)) ⟨dx, l, vs', (same_new np).free nl, h1, h2, h3, by omega⟩, fun s hb H' d q s' nd nq => qb s hb H' d q ((same_new np).trans s') ((same_new np).free nd) ((same_new np).free nq)⟩⟩
def spPAddF (K : PySem.W.Frag) (C X : Addr) : Sp := fun vs H Q E => ∃ (x y : Addr) (ss tt : List Stp), vs = [.ref x, .ref y] ∧ Pg C H x ss ∧ (∀ s ∈ ss, goodS s) ∧ RgtX K C H y tt ∧ ss.length + tt.length ≤ 1000 ∧
  (firstBad tt = none → ∀ z H', Same H H' → H z = none → PgF (fun l => H l = none) C H' z (ss ++ tt) → Q (.ref z) H') ∧ (∀ s, firstBad tt = some s → BadE X H E s)
section
variable {w : World} {K : PySem.W.Frag} {mg : Str → Option Value} {base : Heap}
theorem ok_Program_add (T : Txt K mg) : FnOk PP w K mg base (L2.CX PP w) 6 T.a_Program_add T.fd_Program_add ["self", "other"] (spPAddF K T.c_Program T.c_BadStep) := by
  refine T.F_Program_add.okX sc_Program_add (fun vs H Q E h => ?_) (fun cdv A outer s H vs Q E hr h => ?_)
  · obtain ⟨x, y, ss, tt, rfl, _⟩ := h; rfl
  · obtain ⟨x, y, ss, tt, rfl, ⟨dx, l, us, hx, hl, hs, _⟩, hgs, hy, hz, q, qb⟩ := h
    refine ⟨_, (pss_cons (ps_if (pt_val (pe_callB call_isiT (by rfl) T.n_isinstance (by decide +kernel) (pa_cons (pv 1) (pa_cons (pe_tup (pa_cons (pe_bltn (v := .ty "list") (by rfl) T.n_list (by decide +kernel) rfl) (pa_cons (pe_bltn (v := .ty "tuple") (by rfl) T.n_tuple (by decide +kernel) rfl) pa_nil))) pa_nil)))) (pss_one (ps_ret (pe_makeS2 T.mk_Program (ok_Program_init T) (hr.mono (by omega)) (by rfl) T.g_Program (passes_call (takes_of rfl rfl rfl rfl) (fun _ _ _ _ h => h)) (StX.pa_star (pe_fld (pv 0) rfl) (StX.pa_star (pv 1) pa_nil))))) pss_nil)
      (pss_cons (ps_if (pt_val (pe_callB call_isi (by rfl) T.n_isinstance (by decide +kernel) (pa_cons (pv 1) (pa_cons (pe_glob (v := .ref T.c_Program) (by rfl) T.g_Program rfl) pa_nil)))) (pss_one (ps_ret (pe_makeS2 T.mk_Program (ok_Program_init T) (hr.mono (by omega)) (by rfl) T.g_Program (passes_call (takes_of rfl rfl rfl rfl) (fun _ _ _ _ h => h)) (StX.pa_star (pe_fld (pv 0) rfl) (StX.pa_star (pe_fld (pv 1) rfl) pa_nil))))) pss_nil)
      (pss_one ps_never))), ?_⟩
    refine ⟨_, rfl, by show 2 ≤ sizeLine; decide, fun c hc => ?_⟩
    have s1 := same_new (o := .tup [.ty "list", .ty "tuple"]) hc
    have ls := pair_len hs
    rcases hy with ⟨⟨dy, m, vs, hy, hm, ht, _⟩, hgt⟩ | ⟨vs, hy, ht⟩
    · have lt := pair_len ht
      refine ⟨_, _, _, _, _, false, rfl, upd_same, .cons (.ty _) (.cons (.ty _) .nil), .base (T.ti_Program _ _ _ _ (s1 _ _ hy)), kitAny_cons T.ko_Program_list (fun _ => kitAny_cons T.ko_Program_tuple (fun _ => rfl) (fun z => nomatch z)) (fun z => nomatch z), _, rfl, iteF ?_⟩
      refine ⟨_, rfl, _, _, _, _, true, rfl, ClsV.own _, .base (T.ti_Program _ _ _ _ (s1 _ _ hy)), T.kk_Program, _, rfl, iteT ?_⟩
      refine ⟨_, rfl, x, _, dx, _, _, rfl, s1 _ _ hx, T.cl_Program, T.no_Program__steps, steps_look l, l, us, rfl, .inr (SqL.of (s1 _ _ hl)), _, rfl, y, _, dy, _, _, rfl, s1 _ _ hy, T.cl_Program, T.no_Program__steps, steps_look m, m, vs, rfl, .inr (SqL.of (s1 _ _ hm)), ?_⟩
      intro z dz nz ndz _
      have s2 := s1.trans (same_make (C := T.c_Program) nz ndz (But.refl z _))
      refine init_pgF (us := us ++ (vs ++ [])) (ss := ss ++ tt) upd_same ?_ (by rw [List.length_append, List.length_append]; simp; omega) (fun hb H8 b8 p8 => ⟨rfl, q (bad_app hgs ▸ hb) z H8 (s1.trans (same_make nz ndz b8)) (s1.free nz) (p8.sub fun a f => s2.free f)⟩) fun s' hb H' d q' s3 nd nq => qb s' (bad_app hgs ▸ hb) H' d q' (s2.trans s3) (s2.free nd) (s2.free nq)
      rw [List.append_nil]
      exact pair_app (hs.same s2).toV (ht.same s2).toV
    · have lt := pair_len ht
      have hT : ∃ tn, TyX K (upd H c (.tup [.ty "list", .ty "tuple"])) (.ref y) (.type tn) ∧ PySem.W.kitAny K (.type tn) [.type "list", .type "tuple"] = some true := by
        rcases hy with hy | hy
        · exact ⟨"list", tyL (s1.seq hy), kitAny_cons (b := true) (r := true) (kit_ty (by decide +kernel)) (fun z => nomatch z) fun _ => rfl⟩
        · exact ⟨"tuple", tyT (same_sqT s1 hy), kitAny_cons (b := false) (kit_ty (by decide +kernel)) (fun _ => kitAny_cons (b := true) (r := true) (kit_ty (by decide +kernel)) (fun z => nomatch z) fun _ => rfl) (fun z => nomatch z)⟩
      obtain ⟨tn, t1, t2⟩ := hT
      refine ⟨_, _, _, _, _, true, rfl, upd_same, .cons (.ty _) (.cons (.ty _) .nil), t1, t2, _, rfl, iteT ?_⟩
      refine ⟨_, rfl, x, _, dx, _, _, rfl, s1 _ _ hx, T.cl_Program, T.no_Program__steps, steps_look l, l, us, rfl, .inr (SqL.of (s1 _ _ hl)), _, rfl, y, vs, rfl, hy.elim (fun h => .inr (s1.seq h)) (fun h => .inl (same_sqT s1 h)), ?_⟩
      intro z dz nz ndz _
      have s2 := s1.trans (same_make (C := T.c_Program) nz ndz (But.refl z _))
      refine init_pgF (us := us ++ (vs ++ [])) (ss := ss ++ tt) upd_same ?_ (by rw [List.length_append, List.length_append]; simp; omega) (fun hb H8 b8 p8 => ⟨rfl, q (bad_app hgs ▸ hb) z H8 (s1.trans (same_make nz ndz b8)) (s1.free nz) (p8.sub fun a f => s2.free f)⟩) fun s' hb H' d q' s3 nd nq => qb s' (bad_app hgs ▸ hb) H' d q' (s2.trans s3) (s2.free nd) (s2.free nq)
      rw [List.append_nil]
      exact pair_app (hs.same s2).toV (stpsV_same ht s2)
end
end My

namespace My
open PySem L2
section
variable {w : World} {K : PySem.W.Frag} {mg : Str → Option Value} {base : Heap}
theorem ok_Program_things (T : Txt K mg) : FnOk PP w K mg base CX0 1 T.a_Program_things T.fd_Program_things ["self"] (spThings T.c_Program) := by
  refine T.F_Program_things.ok sc_Program_things (fun vs H Q E h => ?_) (fun cdv A outer s H vs Q E hr h => ?_)
  · obtain ⟨x, ss, rfl, _⟩ := h; rfl
  · obtain ⟨x, ss, rfl, ⟨dx, l, us, hx, hl, hs, hz⟩, q⟩ := h
    refine ⟨_, (pss_cons (ps_set (i := 1) sc_Program_things.nd rfl (.inl rfl) (pe_lst pa_nil))
      (pss_cons (ps_for PassesOwn.never rfl (pi_list (pe_fld (pv 0) rfl)) (pg_tup rfl (pgs_cons (pg_name (i := 2) sc_Program_things.nd rfl (.inl rfl)) (pgs_cons (pg_name (i := 3) sc_Program_things.nd rfl (.inl rfl)) pgs_nil))) (pss_one (ps_if (PW.pt (pw_and (pt_cmpR op_ne (pv 2) (pe_str) (nomark _)) (pw_and1 (pt_cmpR op_notIn_seq (pv 3) (pv 1) (by with_unfolding_all rfl))))) (pss_one (ps_expr (pe_bm PySem.F.plainAttrs_list PySem.F.slot_list_append PySem.F.type_list_append mt_append (pv 1) (pa_cons (pv 3) pa_nil)))) pss_nil)))
      (pss_one (ps_ret (pe_callTy call_tuple_of (by rfl) T.n_tuple (by decide +kernel) (pa_cons (pv 1) pa_nil)))))), ?_⟩
    refine ⟨Nat.zero_le _, fun f nf => ?_⟩
    have s1 := same_new (o := .lst []) nf
    have ls := pair_len hs
    refine ⟨_, rfl, x, _, dx, _, _, rfl, s1 _ _ hx, T.cl_Program, T.no_Program__steps, steps_look l, l, rfl, ⟨_, SqL.of (s1 _ _ hl)⟩, for_list (K := K) (a := l) (xs := us) (fun i σ H' => ∃ x2 x3, σ = [some (.ref x), some (.ref f), x2, x3] ∧ Same H H' ∧ H' f = some (.lst ((thingsOf (ss.take i)).map V.int)))
      ⟨_, _, rfl, s1, upd_same⟩ (fun i σ H' _ ⟨_, _, _, s2, _⟩ => SqL.of (s2 _ _ hl)) ?_ ?_⟩
    · rintro i v σ H2 hv ⟨x2, x3, rfl, s2, hf⟩
      obtain ⟨y, hy, t, rfl, ht⟩ := pair_get hs hv
      have hi := (List.getElem?_eq_some_iff.mp hv).1
      have hlen := things_len ss i
      refine ⟨t, _, rfl, SqT.of (s2 _ _ ht), rfl, _, _, rfl, _, _, rfl, rfl, ?_⟩
      refine ⟨_, rfl, rfl, _, rfl, iteN (fun c => ?_) (fun c => ?_)⟩
      · refine ⟨_, rfl, _, rfl, f, _, rfl, .inl (SqL.of hf), rfl, flat_ints _, _, rfl, ?_⟩
        rw [show (if true = true then !inV (V.int y.2) ((thingsOf (ss.take i)).map V.int) else inV (V.int y.2) ((thingsOf (ss.take i)).map V.int)) = !decide (y.2 ∈ thingsOf (ss.take i)) by rw [if_pos rfl, in_ints]]
        refine iteN (fun c2 => ?_) (fun c2 => ?_)
        · refine ⟨_, rfl, .inl ⟨rfl, _, SqL.of hf⟩, _, rfl, f, _, _, rfl, rfl, hf, by rw [List.length_map]; exact Nat.lt_of_le_of_lt (by omega : _ ≤ 1000) (by decide), ?_⟩
          refine ⟨_, _, rfl, same_mut s2 nf, ?_⟩
          rw [upd_same, ints_app, things_take hy, if_pos ⟨fun z => c (by rw [z]), c2⟩]
        · exact ⟨_, _, rfl, s2, by rw [things_take hy, if_neg (fun z => z.2 c2)]; exact hf⟩
      · exact ⟨_, _, rfl, s2, by rw [things_take hy, if_neg (fun z => z.1 (V.str.inj c))]; exact hf⟩
    · rintro σ H2 ⟨x2, x3, rfl, s2, hf⟩
      rw [List.take_of_length_le (by omega)] at hf
      exact ⟨_, rfl, f, _, rfl, .inl ⟨SqL.of hf, fun t nt => q t _ (s2.trans (same_new nt)) (s2.free nt) upd_same⟩⟩
theorem ok_Program_mode_of (T : Txt K mg) : FnOk PP w K mg base CX0 1 T.a_Program_mode_of T.fd_Program_mode_of ["self", "thing"] (spMode T.c_Program) := by
  refine T.F_Program_mode_of.ok sc_Program_mode_of (fun vs H Q E h => ?_) (fun cdv A outer s H vs Q E hr h => ?_)
  · obtain ⟨x, n, ss, rfl, _⟩ := h; rfl
  · obtain ⟨x, n, ss, rfl, ⟨dx, l, us, hx, hl, hs, hz⟩, q⟩ := h
    refine ⟨_, (pss_cons (ps_for PassesOwn.never rfl (pi_list (pe_fld (pv 0) rfl)) (pg_tup rfl (pgs_cons (pg_name (i := 2) sc_Program_mode_of.nd rfl (.inl rfl)) (pgs_cons (pg_name (i := 3) sc_Program_mode_of.nd rfl (.inl rfl)) pgs_nil))) (pss_one (ps_if (PW.pt (pw_and (pt_cmpR op_eq (pv 3) (pv 1) (nomark _)) (pw_and1 (pt_cmpR op_ne (pv 2) (pe_str) (nomark _))))) (pss_one (ps_ret (pv 2))) pss_nil)))
      (pss_one (ps_ret (pe_str)))), ?_⟩
    have ls := pair_len hs
    refine ⟨_, rfl, x, _, dx, _, _, rfl, hx, T.cl_Program, T.no_Program__steps, steps_look l, l, rfl, ⟨_, SqL.of hl⟩, for_list (K := K) (a := l) (xs := us) (fun i σ H' => ∃ x2 x3, σ = [some (.ref x), some (.int n), x2, x3] ∧ H' = H ∧ ∀ (j : Nat) (r : Stp), j < i → ss[j]? = some r → ¬ (r.2 = n ∧ r.1 ≠ ("drop" : Str)))
      ⟨_, _, rfl, rfl, fun j r h => absurd h (Nat.not_lt_zero _)⟩ (fun i σ H' _ ⟨_, _, _, e, _⟩ => e ▸ SqL.of hl) ?_ ?_⟩
    · rintro i v σ H2 hv ⟨x2, x3, rfl, rfl, nb⟩
      obtain ⟨y, hy, t, rfl, ht⟩ := pair_get hs hv
      refine ⟨t, _, rfl, SqT.of ht, rfl, _, _, rfl, _, _, rfl, rfl, ?_⟩
      have step : ¬ (y.2 = n ∧ y.1 ≠ "drop") → ∀ (j : Nat) (r : Stp), j < i + 1 → ss[j]? = some r → ¬ (r.2 = n ∧ r.1 ≠ ("drop" : Str)) := fun c j r hj hr => by
        rcases Nat.lt_succ_iff_lt_or_eq.mp hj with h | h
        · exact nb j r h hr
        · subst h; rw [hy] at hr; rw [← Option.some.inj hr]; exact c
      refine ⟨_, rfl, _, rfl, rfl, _, rfl, iteD (fun c => ?_) (fun c => ?_)⟩
      · refine ⟨_, rfl, rfl, _, rfl, iteN (fun c2 => ?_) (fun c2 => ?_)⟩
        · rw [mode_at hy nb ⟨V.int.inj c, fun z => c2 (by rw [z])⟩] at q
          exact ⟨_, rfl, q⟩
        · exact ⟨_, _, rfl, rfl, step fun z => z.2 (V.str.inj c2)⟩
      · exact ⟨_, _, rfl, rfl, step fun z => c (by rw [z.1])⟩
    · rintro σ H2 ⟨x2, x3, rfl, rfl, nb⟩
      rw [mode_no fun j r hr => nb j r (by have := (List.getElem?_eq_some_iff.mp hr).1; omega) hr] at q
      exact q
end
end My

namespace My
open PySem L2
def spModeL (K : PySem.W.Frag) : Sp := fun vs H Q _ => ∃ (u : Addr) (n : Int) (us : List V) (ss : List Stp), vs = [.ref u, .int n] ∧ SqL K H u us ∧ Stps H us ss ∧ Q (.str (modeOf ss n)) H
section
variable {w : World} {K : PySem.W.Frag} {mg : Str → Option Value} {base : Heap}
theorem ok__law_mode (T : Txt K mg) : FnOk PP w K mg base CX0 1 T.a__law_mode T.fd__law_mode ["_law_steps", "_law_thing"] (spModeL K) := by
  refine T.F__law_mode.ok sc__law_mode (fun vs H Q E h => ?_) (fun cdv A outer s H vs Q E hr h => ?_)
  · obtain ⟨u, n, us, ss, rfl, _⟩ := h; rfl
  · obtain ⟨u, n, us, ss, rfl, hu, hs, q⟩ := h
    refine ⟨_, (pss_cons (ps_for PassesOwn.never rfl (pi_list (pv 0)) (pg_name (i := 2) sc__law_mode.nd rfl (.inl rfl)) (pss_one (ps_if (PW.pt (pw_and (pt_cmpR op_eq (pe_ix ix_tup (pv 2) (pe_int) (fun _ _ => rfl)) (pv 1) (nomark _)) (pw_and1 (pt_cmpR op_ne (pe_ix ix_tup (pv 2) (pe_int) (fun _ _ => rfl)) (pe_str) (nomark _))))) (pss_one (ps_ret (pe_ix ix_tup (pv 2) (pe_int) (fun _ _ => rfl)))) pss_nil)))
      (pss_one (ps_ret (pe_str)))), ?_⟩
    have ls := pair_len hs
    refine ⟨_, rfl, u, rfl, ⟨_, hu⟩, for_list (K := K) (a := u) (xs := us) (fun i σ H' => ∃ x2, σ = [some (.ref u), some (.int n), x2] ∧ H' = H ∧ ∀ (j : Nat) (r : Stp), j < i → ss[j]? = some r → ¬ (r.2 = n ∧ r.1 ≠ ("drop" : Str)))
      ⟨_, rfl, rfl, fun j r h => absurd h (Nat.not_lt_zero _)⟩ (fun i σ H' _ ⟨_, _, e, _⟩ => e ▸ hu) ?_ ?_⟩
    · rintro i v σ H2 hv ⟨x2, rfl, rfl, nb⟩
      obtain ⟨y, hy, t, rfl, ht⟩ := pair_get hs hv
      have ht2 := SqT.of (K := K) ht
      have step : ¬ (y.2 = n ∧ y.1 ≠ ("drop" : Str)) → ∀ (j : Nat) (r : Stp), j < i + 1 → ss[j]? = some r → ¬ (r.2 = n ∧ r.1 ≠ ("drop" : Str)) := fun c j r hj hr => by
        rcases Nat.lt_succ_iff_lt_or_eq.mp hj with h | h
        · exact nb j r h hr
        · subst h; rw [hy] at hr; rw [← Option.some.inj hr]; exact c
      refine ⟨_, rfl, t, _, _, _, rfl, rfl, ht2, at_of (j := 1) rfl rfl, _, rfl, rfl, _, rfl, iteD (fun c2 => ?_) (fun c2 => ?_)⟩
      · refine ⟨_, rfl, t, _, _, _, rfl, rfl, ht2, at_of (j := 0) rfl rfl, rfl, _, rfl, iteN (fun c => ?_) (fun c => ?_)⟩
        · rw [mode_at hy nb ⟨V.int.inj c2, fun z => c (by rw [z])⟩] at q
          exact ⟨_, rfl, t, _, _, _, rfl, rfl, ht2, at_of (j := 0) rfl rfl, q⟩
        · exact ⟨_, rfl, rfl, step fun z => z.2 (V.str.inj c)⟩
      · exact ⟨_, rfl, rfl, step fun z => c2 (by rw [z.1])⟩
    · rintro σ H2 ⟨x2, rfl, rfl, nb⟩
      rw [mode_no fun j r hr => nb j r (by have := (List.getElem?_eq_some_iff.mp hr).1; omega) hr] at q
      exact q
end
end My

namespace My
open PySem L2
def spPLen (C : Addr) : Sp := fun vs H Q _ => ∃ (x : Addr) (ss : List Stp), vs = [.ref x] ∧ Pg C H x ss ∧ Q (.int (ss.length : Nat)) H
section
variable {w : World} {K : PySem.W.Frag} {mg : Str → Option Value} {base : Heap}
theorem ok_Program_len (T : Txt K mg) : FnOk PP w K mg base CX0 1 T.a_Program_len T.fd_Program_len ["self"] (spPLen T.c_Program) := by
  refine T.F_Program_len.ok sc_Program_len (fun vs H Q E h => ?_) (fun cdv A outer s H vs Q E hr h => ?_)
  · obtain ⟨x, ss, rfl, _⟩ := h; rfl
  · obtain ⟨x, ss, rfl, ⟨dx, l, us, hx, hl, hs, hz⟩, q⟩ := h
    refine ⟨_, (pss_one (ps_ret (pe_callB call_len_seq (by rfl) T.n_len (by decide +kernel) (pa_cons (pe_fld (pv 0) rfl) pa_nil)))), ?_⟩
    rw [← pair_len hs] at q
    exact ⟨_, rfl, x, _, dx, _, _, rfl, hx, T.cl_Program, T.no_Program__steps, steps_look l, l, _, rfl, .inl (SqL.of hl), q⟩
end
end My

namespace My
open PySem L2
/-! ### conflicts, rows, verdicts -/
def confB (ss tt : List Stp) : Bool := (thingsOf ss).any fun n => !decide (modeOf tt n = "") && (decide (modeOf tt n = "own") || decide (modeOf ss n = "own"))
theorem things_mem {n : Int} : ∀ {l : List Stp} {acc : List Int}, n ∈ l.foldl (fun (acc : List Int) (s : Stp) => if s.1 ≠ ("drop" : Str) ∧ s.2 ∉ acc then acc ++ [s.2] else acc) acc ↔ n ∈ acc ∨ ∃ s ∈ l, s.1 ≠ ("drop" : Str) ∧ s.2 = n
  | [], acc => by simp
  | s :: l, acc => by
    rw [List.foldl_cons, things_mem (l := l)]
    by_cases c : s.1 ≠ ("drop" : Str) ∧ s.2 ∉ acc
    · rw [if_pos c, List.mem_append, List.mem_singleton]
      constructor
      · rintro ((h | h) | ⟨t, ht, h⟩)
        · exact .inl h
        · exact .inr ⟨s, by simp, c.1, h.symm⟩
        · exact .inr ⟨t, by simp [ht], h⟩
      · rintro (h | ⟨t, ht, h⟩)
        · exact .inl (.inl h)
        · rcases List.mem_cons.mp ht with rfl | ht
          · exact .inl (.inr h.2.symm)
          · exact .inr ⟨t, ht, h⟩
    · rw [if_neg c]
      constructor
      · rintro (h | ⟨t, ht, h⟩)
        · exact .inl h
        · exact .inr ⟨t, by simp [ht], h⟩
      · rintro (h | ⟨t, ht, h⟩)
        · exact .inl h
        · rcases List.mem_cons.mp ht with rfl | ht
          · refine .inl ?_
            by_cases m : t.2 ∈ acc
            · rw [← h.2]; exact m
            · exact absurd ⟨h.1, m⟩ c
          · exact .inr ⟨t, ht, h⟩
def cfl (ss tt : List Stp) (s : Stp) : Bool := !decide (s.1 = ("drop" : Str)) && (!decide (modeOf tt s.2 = "") && (decide (modeOf ss s.2 = "own") || decide (modeOf tt s.2 = "own")))
theorem conf_eq (ss tt : List Stp) : ss.any (cfl ss tt) = confB ss tt := by
  rw [Bool.eq_iff_iff]
  unfold confB cfl
  rw [List.any_eq_true, List.any_eq_true]
  constructor
  · rintro ⟨s, hs, h⟩
    simp only [Bool.and_eq_true, Bool.not_eq_true', decide_eq_false_iff_not, Bool.or_eq_true, decide_eq_true_eq] at h
    refine ⟨s.2, ?_, ?_⟩
    · unfold thingsOf
      rw [things_mem]; exact .inr ⟨s, hs, h.1, rfl⟩
    · simp only [Bool.and_eq_true, Bool.not_eq_true', decide_eq_false_iff_not, Bool.or_eq_true, decide_eq_true_eq]
      exact ⟨h.2.1, h.2.2.symm⟩
  · rintro ⟨n, hn, h⟩
    unfold thingsOf at hn
    rw [things_mem] at hn
    rcases hn with hn | ⟨s, hs, h1, rfl⟩
    · cases hn
    · refine ⟨s, hs, ?_⟩
      simp only [Bool.and_eq_true, Bool.not_eq_true', decide_eq_false_iff_not, Bool.or_eq_true, decide_eq_true_eq] at h ⊢
      exact ⟨h1, h.1, h.2.symm⟩
def spConf (C : Addr) : Sp := fun vs H Q _ => ∃ (x y : Addr) (ss tt : List Stp), vs = [.ref x, .ref y] ∧ Pg C H x ss ∧ Pg C H y tt ∧ ∀ H', Same H H' → Q (.bl (confB ss tt)) H'
def spLConf : Sp := fun vs H Q _ => ∃ (u v : Addr) (us ws : List V) (ss tt : List Stp), vs = [.ref u, .ref v] ∧ H u = some (.lst us) ∧ Stps H us ss ∧ H v = some (.lst ws) ∧ Stps H ws tt ∧ us.length ≤ 1000 ∧ ws.length ≤ 1000 ∧ Q (.bl (confB ss tt)) H
def rowF (w p l : Addr) : List (Str × V) := [("web", .ref w), ("programs", .ref p), ("last", .ref l)]
def RwO (C : Addr) (H : Hp) (y w p l : Addr) : Prop := ∃ dy, H y = some (.ins C dy (rowF w p l))
theorem RwO.same {C : Addr} {H H' : Hp} {y w p l : Addr} (h : RwO C H y w p l) (s : Same H H') : RwO C H' y w p l := h.elim fun d e => ⟨d, s _ _ e⟩
def spRowInit (K : PySem.W.Frag) (C X : Addr) : Sp := fun vs H Q E => ∃ (y dy w q : Addr) (us : List V) (v : V) (s : Stp), vs = [.ref y, .ref w, .ref q, v] ∧ H y = some (.ins C dy []) ∧ (H q = some (.lst us) ∨ H q = some (.tup us)) ∧ StpV H v s ∧
  (goodS s → ∀ p l H', But y H H' → H' y = some (.ins C dy (rowF w p l)) → H' p = some (.tup us) → H' l = some (.tup [.str s.1, .int s.2]) → Q .non H') ∧
  (¬ goodS s → ∀ H' d q, But y H H' → H d = none → H q = none → H' d = some (.xd [("step", .ref q)]) → H' q = some (.tup [.str s.1, .int s.2]) → E (.ref X) (some d) H')
def verF (v g : V) : List (Str × V) := [("row", v), ("ground", g)]
def VrO (C : Addr) (H : Hp) (y : Addr) (v g : V) : Prop := ∃ dy, H y = some (.ins C dy (verF v g))
theorem VrO.same {C : Addr} {H H' : Hp} {y : Addr} {v g : V} (h : VrO C H y v g) (s : Same H H') : VrO C H' y v g := h.elim fun d e => ⟨d, s _ _ e⟩
def spVInit (C : Addr) : Sp := fun vs H Q _ => ∃ (y dy : Addr) (v g : V), vs = [.ref y, v, g] ∧ H y = some (.ins C dy []) ∧ (g = .non ∨ ∃ q xs, g = .ref q ∧ H q = some (.tup xs)) ∧ ∀ H', But y H H' → H' y = some (.ins C dy (verF v g)) → Q .non H'
def spVSafe (C : Addr) : Sp := fun vs H Q _ => ∃ (y : Addr) (v g : V), vs = [.ref y] ∧ VrO C H y v g ∧ Q (.bl (decide (v = .non))) H
def spLSteps (K : PySem.W.Frag) : Sp := fun vs H Q _ => ∃ (d t : Addr), vs = [.ref d, .ref t] ∧ Dr K H d t ∧ ∀ (ss : List Stp) us u H', (∀ s ∈ ss, goodS s) → us.length ≤ 6 → Dr K H' d t → But t H H' → H u = none → H' u = some (.lst us) → Stps H' us ss → Q (.ref u) H'
section
variable {w : World} {K : PySem.W.Frag} {mg : Str → Option Value} {base : Heap}
set_option pp.maxSteps 600 in
theorem ok_conflict (T : Txt K mg) : FnOk PP w K mg base CX0 3 T.a_conflict T.fd_conflict ["program", "other"] (spConf T.c_Program) := by
  refine T.F_conflict.ok sc_conflict (fun vs H Q E h => ?_) (fun cdv A outer s H vs Q E hr h => ?_)
  · obtain ⟨x, y, ss, tt, rfl, _⟩ := h; rfl
  · obtain ⟨x, y, ss, tt, rfl, hx, hy, q⟩ := h
    refine ⟨_, (pss_cons (ps_for PassesOwn.never rfl (pi_tup (pe_prop (pv 0) T.cl_Program T.pr_Program_things (ok_Program_things T) (hr.mono (by omega)) T.b_Program_things .nil pass0 rfl)) (pg_name (i := 2) sc_conflict.nd rfl (.inl rfl)) (pss_cons (ps_set (i := 3) sc_conflict.nd rfl (.inl rfl) (pe_meth (pv 1) T.cl_Program T.m_Program_mode_of (ok_Program_mode_of T) (hr.mono (by omega)) T.b_Program_mode_of .nil pass0 (pa_cons (pv 2) pa_nil)))
      (pss_one (ps_if (PW.pt (pw_and (pt_cmpR op_ne (pv 3) (pe_str) (nomark _)) (pw_and1 (pt_cmpR op_in_seq (pe_str) (pe_tup (pa_cons (pv 3) (pa_cons (pe_meth (pv 0) T.cl_Program T.m_Program_mode_of (ok_Program_mode_of T) (hr.mono (by omega)) T.b_Program_mode_of .nil pass0 (pa_cons (pv 2) pa_nil)) pa_nil))) (by with_unfolding_all rfl))))) (pss_one (ps_ret (pe_bl))) pss_nil))))
      (pss_one (ps_ret (pe_bl)))), ?_⟩
    obtain ⟨dx, lx, vx, hx0, _⟩ := id hx
    obtain ⟨dy, ly, vy, hy0, _⟩ := id hy
    refine ⟨_, rfl, x, dx, _, rfl, hx0, x, ss, rfl, hx, fun t H1 s1 nt ht => ?_⟩
    refine ⟨t, rfl, ⟨_, SqT.of ht⟩, for_tup (K := K) (a := t) (xs := (thingsOf ss).map V.int) (fun i σ H' => ∃ x2 x3 : Option V, σ = [some (.ref x), some (.ref y), x2, x3] ∧ Same H1 H' ∧ ((thingsOf ss).take i).any (fun n => !decide (modeOf tt n = "") && (decide (modeOf tt n = "own") || decide (modeOf ss n = "own"))) = false) ⟨_, _, rfl, Same.refl _, by rw [List.take_zero]; rfl⟩ (fun i σ H' _ ⟨_, _, _, s, _⟩ => SqT.of (s _ _ ht)) ?_ ?_⟩
    · rintro i v σ H2 hv ⟨x2, x3, rfl, s2, nb⟩
      rw [List.getElem?_map] at hv
      obtain ⟨n, hn⟩ : ∃ n, (thingsOf ss)[i]? = some n := by
        cases e : (thingsOf ss)[i]? with
        | none => rw [e] at hv; cases hv
        | some n => exact ⟨n, rfl⟩
      rw [hn] at hv
      obtain rfl := Option.some.inj hv
      have s12 := s1.trans s2
      have mn := List.mem_of_getElem? hn
      have nx : ((thingsOf ss).take (i + 1)).any (fun n => !decide (modeOf tt n = "") && (decide (modeOf tt n = "own") || decide (modeOf ss n = "own"))) = (!decide (modeOf tt n = "") && (decide (modeOf tt n = "own") || decide (modeOf ss n = "own"))) := by
        rw [List.take_succ, hn, List.any_append, nb]; simp
      refine ⟨_, rfl, y, dy, _, rfl, s12 _ _ hy0, rfl, _, rfl, y, n, tt, rfl, hy.same s12, ?_⟩
      refine ⟨_, rfl, rfl, _, rfl, iteN (fun c => ?_) (fun c => ?_)⟩
      · refine ⟨_, rfl, _, rfl, x, dx, _, rfl, s12 _ _ hx0, rfl, _, rfl, x, n, ss, rfl, hx.same s12, by show 2 ≤ sizeLine; decide, fun u nu => ?_⟩
        refine ⟨u, _, rfl, .inr (SqT.of upd_same), rfl, flat_strs [modeOf tt n, modeOf ss n], ?_⟩
        rw [show (if false = true then !inV (V.str "own") [V.str (modeOf tt n), V.str (modeOf ss n)] else inV (V.str "own") [V.str (modeOf tt n), V.str (modeOf ss n)]) = (decide (modeOf tt n = "own") || decide (modeOf ss n = "own")) by
          rw [if_neg Bool.false_ne_true, show ([V.str (modeOf tt n), V.str (modeOf ss n)] : List V) = [modeOf tt n, modeOf ss n].map V.str from rfl, in_strs, Bool.eq_iff_iff, decide_eq_true_iff, Bool.or_eq_true, decide_eq_true_iff, decide_eq_true_iff]
          simp only [List.mem_cons, List.not_mem_nil, or_false]
          exact ⟨fun h => h.imp Eq.symm Eq.symm, fun h => h.imp Eq.symm Eq.symm⟩]
        have c' : ¬ modeOf tt n = "" := fun e => c (by rw [e])
        refine ⟨_, rfl, ?_⟩
        cases hb : (decide (modeOf tt n = "own") || decide (modeOf ss n = "own")) with
        | true =>
          have e : confB ss tt = true := by
            unfold confB
            rw [List.any_eq_true]
            exact ⟨n, mn, by rw [hb, decide_eq_false c']; rfl⟩
          rw [e] at q
          exact iteYes rfl (q _ (s12.trans (same_new nu)))
        | false => exact iteNo rfl ⟨_, _, rfl, s2.trans (same_new nu), by rw [nx, hb, Bool.and_false]⟩
      · have c' : modeOf tt n = "" := V.str.inj c
        exact ⟨_, _, rfl, s2, by rw [nx, decide_eq_true c']; rfl⟩
    · rintro σ H2 ⟨x2, x3, rfl, s2, nb⟩
      rw [List.length_map, List.take_length] at nb
      have e : confB ss tt = false := nb
      rw [e] at q
      exact q _ (s1.trans s2)
set_option pp.maxSteps 600 in
theorem ok__law_conflict (T : Txt K mg) : FnOk PP w K mg base CX0 3 T.a__law_conflict T.fd__law_conflict ["_law_steps", "_law_others"] spLConf := by
  refine T.F__law_conflict.ok sc__law_conflict (fun vs H Q E h => ?_) (fun cdv A outer s H vs Q E hr h => ?_)
  · obtain ⟨u, v, us, ws, ss, tt, rfl, _⟩ := h; rfl
  · obtain ⟨u, v, us, ws, ss, tt, rfl, hu, hs, hv, ht, lu, lw, q⟩ := h
    refine ⟨_, (pss_cons (ps_for PassesOwn.never rfl (pi_list (pv 0)) (pg_name (i := 2) sc__law_conflict.nd rfl (.inl rfl)) (pss_one (ps_if (pt_cmpR op_ne (pe_ix ix_tup (pv 2) (pe_int) (fun _ _ => rfl)) (pe_str) (nomark _)) (pss_cons (ps_set (i := 3) sc__law_conflict.nd rfl (.inl rfl) (pe_call (ok__law_mode T) (hr.mono (by omega)) (by rfl) T.g__law_mode T.F__law_mode.kp T.b__law_mode .nil pass0 (pa_cons (pv 0) (pa_cons (pe_ix ix_tup (pv 2) (pe_int) (fun _ _ => rfl)) pa_nil))))
      (pss_cons (ps_set (i := 4) sc__law_conflict.nd rfl (.inl rfl) (pe_call (ok__law_mode T) (hr.mono (by omega)) (by rfl) T.g__law_mode T.F__law_mode.kp T.b__law_mode .nil pass0 (pa_cons (pv 1) (pa_cons (pe_ix ix_tup (pv 2) (pe_int) (fun _ _ => rfl)) pa_nil))))
      (pss_one (ps_if (PW.pt (pw_and (pt_cmpR op_ne (pv 4) (pe_str) (nomark _)) (pw_and1 (PW.pt (pw_or (pt_cmpR op_eq (pv 3) (pe_str) (nomark _)) (pw_or1 (pt_cmpR op_eq (pv 4) (pe_str) (nomark _)))))))) (pss_one (ps_ret (pe_bl))) pss_nil)))) pss_nil)))
      (pss_one (ps_ret (pe_bl)))), ?_⟩
    have ls := pair_len hs
    rw [← conf_eq] at q
    refine ⟨_, rfl, u, rfl, ⟨_, SqL.of hu⟩, for_list (K := K) (a := u) (xs := us) (fun i σ H' => ∃ x2 x3 x4 : Option V, σ = [some (.ref u), some (.ref v), x2, x3, x4] ∧ H' = H ∧ (ss.take i).any (cfl ss tt) = false) ⟨_, _, _, rfl, rfl, by rw [List.take_zero]; rfl⟩ (fun i σ H' _ ⟨_, _, _, _, e, _⟩ => e ▸ SqL.of hu) ?_ ?_⟩
    · rintro i v' σ H2 hv' ⟨x2, x3, x4, rfl, rfl, nb⟩
      obtain ⟨y, hy, t, rfl, hyt⟩ := pair_get hs hv'
      have my := List.mem_of_getElem? hy
      have hq := SqT.of (K := K) hyt
      have nx : (ss.take (i + 1)).any (cfl ss tt) = cfl ss tt y := by rw [List.take_succ, hy, List.any_append, nb]; simp
      have yes : cfl ss tt y = true → ss.any (cfl ss tt) = true := fun h => List.any_eq_true.mpr ⟨y, my, h⟩
      refine ⟨_, rfl, _, _, _, _, rfl, rfl, hq, atI_nat (j := 0) rfl, rfl, _, rfl, iteN (fun c => ?_) (fun c => ?_)⟩
      · have c0 : ¬ y.1 = "drop" := fun e => c (by rw [e])
        refine ⟨_, rfl, _, rfl, _, _, _, _, rfl, rfl, hq, atI_nat (j := 1) rfl, u, y.2, us, ss, rfl, SqL.of hu, hs, ?_⟩
        refine ⟨_, rfl, _, rfl, _, _, _, _, rfl, rfl, hq, atI_nat (j := 1) rfl, v, y.2, ws, tt, rfl, SqL.of hv, ht, ?_⟩
        refine ⟨_, rfl, rfl, _, rfl, iteN (fun c1 => ?_) (fun c1 => ?_)⟩
        · have c1 : ¬ modeOf tt y.2 = "" := fun e => c1 (by rw [e])
          refine ⟨_, rfl, rfl, _, rfl, iteD (fun c2 => ?_) (fun c2 => ?_)⟩
          · have c2 : modeOf ss y.2 = "own" := V.str.inj c2
            rw [yes (by unfold cfl; rw [decide_eq_false c0, decide_eq_false c1, decide_eq_true c2]; rfl)] at q
            exact q
          · have c2 : ¬ modeOf ss y.2 = "own" := fun e => c2 (by rw [e])
            refine ⟨_, rfl, rfl, _, rfl, iteD (fun c3 => ?_) (fun c3 => ?_)⟩
            · have c3 : modeOf tt y.2 = "own" := V.str.inj c3
              rw [yes (by unfold cfl; rw [decide_eq_false c0, decide_eq_false c1, decide_eq_false c2, decide_eq_true c3]; rfl)] at q
              exact q
            · have c3 : ¬ modeOf tt y.2 = "own" := fun e => c3 (by rw [e])
              exact ⟨_, _, _, rfl, rfl, by rw [nx]; unfold cfl; rw [decide_eq_false c0, decide_eq_false c1, decide_eq_false c2, decide_eq_false c3]; rfl⟩
        · have c1 : modeOf tt y.2 = "" := V.str.inj c1
          exact ⟨_, _, _, rfl, rfl, by rw [nx]; unfold cfl; rw [decide_eq_false c0, decide_eq_true c1]; rfl⟩
      · have c0 : y.1 = "drop" := V.str.inj c
        exact ⟨_, _, _, rfl, rfl, by rw [nx]; unfold cfl; rw [decide_eq_true c0]; rfl⟩
    · rintro σ H2 ⟨x2, x3, x4, rfl, rfl, nb⟩
      rw [ls, List.take_length] at nb
      rw [nb] at q
      exact q
set_option pp.maxSteps 600 in
theorem ok_Row_init (T : Txt K mg) : FnOk PP w K mg base (L2.CX PP w) 4 T.a_Row_init T.fd_Row_init ["self", "web", "programs", "last"] (spRowInit K T.c_Row T.c_BadStep) := by
  refine T.F_Row_init.okX sc_Row_init (fun vs H Q E h => ?_) (fun cdv A outer s H vs Q E hr h => ?_)
  · obtain ⟨y, dy, w, q, us, v, s, rfl, _⟩ := h; rfl
  · obtain ⟨y, dy, w, q, us, v, s, rfl, hy, hq, hv, qq, qe⟩ := h
    refine ⟨_, (pss_cons (ps_fld (pv 0) (pv 1) rfl)
      (pss_cons (ps_fld (pv 0) (pe_callTy call_tuple_of (by rfl) T.n_tuple (by decide +kernel) (pa_cons (pv 2) pa_nil)) rfl)
      (pss_one (ps_fld (pv 0) (pe_call (ok_sound_step T) (hr.mono (by omega)) (by rfl) T.g_sound_step T.F_sound_step.kp T.b_sound_step .nil (passes_call (takes_of rfl rfl rfl rfl) (fun _ _ _ _ h => h)) (pa_cons (pv 3) pa_nil)) rfl)))), ?_⟩
    have ny : ∀ {c : Addr} {o : HO}, H c = some o → (∀ a b f, o ≠ .ins a b f) → c ≠ y := fun e n z => by rw [z, hy] at e; exact n _ _ _ (Option.some.inj e).symm
    refine ⟨_, rfl, _, rfl, y, _, dy, _, rfl, hy, T.cl_Row, T.no_Row_web, by show 0 < 1000; decide, ?_⟩
    have b1 : But y H (upd H y (.ins T.c_Row dy (putF "web" (.ref w) []))) := fun c o n e => by rw [upd_ne n]; exact e
    have h1y : (upd H y (.ins T.c_Row dy (putF "web" (.ref w) []))) y = some (.ins T.c_Row dy [("web", .ref w)]) := upd_same
    revert b1 h1y
    generalize upd H y (.ins T.c_Row dy (putF "web" (.ref w) [])) = H1
    intro b1 h1y
    rcases hq with hq | hq
    · have hq1 := b1 _ _ (ny hq fun _ _ _ e => by cases e) hq
      refine ⟨_, rfl, q, us, rfl, .inl ⟨SqL.of hq1, fun p np => ?_⟩⟩
      have b2 : But y H (upd H1 p (.tup us)) := b1.trans (But.of_same (same_new np))
      have h2y := same_new (o := .tup us) np _ _ h1y
      have h2p : (upd H1 p (.tup us)) p = some (.tup us) := upd_same
      revert b2 h2y h2p
      generalize upd H1 p (.tup us) = H2
      intro b2 h2y h2p
      have npy : p ≠ y := fun z => by rw [z, h2y] at h2p; cases h2p
      refine ⟨_, rfl, y, _, dy, _, rfl, h2y, T.cl_Row, T.no_Row_programs, by show 1 < 1000; decide, ?_⟩
      have b3 : But y H (upd H2 y (.ins T.c_Row dy (putF "programs" (.ref p) [("web", .ref w)]))) := fun c o n e => by rw [upd_ne n]; exact b2 c o n e
      have h3y : (upd H2 y (.ins T.c_Row dy (putF "programs" (.ref p) [("web", .ref w)]))) y = some (.ins T.c_Row dy [("web", .ref w), ("programs", .ref p)]) := upd_same
      have h3p : (upd H2 y (.ins T.c_Row dy (putF "programs" (.ref p) [("web", .ref w)]))) p = some (.tup us) := by rw [upd_ne npy]; exact h2p
      have hv3 : StpV (upd H2 y (.ins T.c_Row dy (putF "programs" (.ref p) [("web", .ref w)]))) v s := by
        obtain ⟨a, e, h | h⟩ := hv
        · exact ⟨a, e, .inl (b3 _ _ (ny h fun _ _ _ e => by cases e) h)⟩
        · exact ⟨a, e, .inr (b3 _ _ (ny h fun _ _ _ e => by cases e) h)⟩
      revert b3 h3y h3p hv3
      generalize upd H2 y (.ins T.c_Row dy (putF "programs" (.ref p) [("web", .ref w)])) = H3
      intro b3 h3y h3p hv3
      refine ⟨_, rfl, v, s, rfl, hv3, fun g l nl => ?_, fun ng H' d q' s' nd nq hd hq' => ?_⟩
      · have nly : l ≠ y := fun e => by rw [e, h3y] at nl; cases nl
        refine ⟨_, rfl, y, _, dy, _, rfl, same_new nl _ _ h3y, T.cl_Row, T.no_Row_last, by show 2 < 1000; decide, ?_⟩
        refine qq g p l _ (fun c o n e => by rw [upd_ne n]; exact same_new nl _ _ (b3 c o n e)) upd_same ?_ ?_
        · rw [upd_ne npy]; exact same_new nl _ _ h3p
        · rw [upd_ne nly]; exact upd_same
      · have n1 : d ≠ y := fun e => by rw [e, h3y] at nd; cases nd
        have n2 : q' ≠ y := fun e => by rw [e, h3y] at nq; cases nq
        exact qe ng H' d q' (b3.trans (But.of_same s')) (b3.free n1 nd) (b3.free n2 nq) hd hq'
    · have hq1 := b1 _ _ (ny hq fun _ _ _ e => by cases e) hq
      refine ⟨_, rfl, q, us, rfl, .inr ⟨SqT.of hq1, ?_⟩⟩
      have npy : q ≠ y := ny hq fun _ _ _ e => by cases e
      refine ⟨_, rfl, y, _, dy, _, rfl, h1y, T.cl_Row, T.no_Row_programs, by show 1 < 1000; decide, ?_⟩
      have b3 : But y H (upd H1 y (.ins T.c_Row dy (putF "programs" (.ref q) [("web", .ref w)]))) := fun c o n e => by rw [upd_ne n]; exact b1 c o n e
      have h3y : (upd H1 y (.ins T.c_Row dy (putF "programs" (.ref q) [("web", .ref w)]))) y = some (.ins T.c_Row dy [("web", .ref w), ("programs", .ref q)]) := upd_same
      have h3p : (upd H1 y (.ins T.c_Row dy (putF "programs" (.ref q) [("web", .ref w)]))) q = some (.tup us) := by rw [upd_ne npy]; exact hq1
      have hv3 : StpV (upd H1 y (.ins T.c_Row dy (putF "programs" (.ref q) [("web", .ref w)]))) v s := by
        obtain ⟨a, e, h | h⟩ := hv
        · exact ⟨a, e, .inl (b3 _ _ (ny h fun _ _ _ e => by cases e) h)⟩
        · exact ⟨a, e, .inr (b3 _ _ (ny h fun _ _ _ e => by cases e) h)⟩
      revert b3 h3y h3p hv3
      generalize upd H1 y (.ins T.c_Row dy (putF "programs" (.ref q) [("web", .ref w)])) = H3
      intro b3 h3y h3p hv3
      refine ⟨_, rfl, v, s, rfl, hv3, fun g l nl => ?_, fun ng H' d q' s' nd nq hd hq' => ?_⟩
      · have nly : l ≠ y := fun e => by rw [e, h3y] at nl; cases nl
        refine ⟨_, rfl, y, _, dy, _, rfl, same_new nl _ _ h3y, T.cl_Row, T.no_Row_last, by show 2 < 1000; decide, ?_⟩
        refine qq g q l _ (fun c o n e => by rw [upd_ne n]; exact same_new nl _ _ (b3 c o n e)) upd_same ?_ ?_
        · rw [upd_ne npy]; exact same_new nl _ _ h3p
        · rw [upd_ne nly]; exact upd_same
      · have n1 : d ≠ y := fun e => by rw [e, h3y] at nd; cases nd
        have n2 : q' ≠ y := fun e => by rw [e, h3y] at nq; cases nq
        exact qe ng H' d q' (b3.trans (But.of_same s')) (b3.free n1 nd) (b3.free n2 nq) hd hq'
set_option pp.maxSteps 600 in
theorem ok_Verdict_init (T : Txt K mg) : FnOk PP w K mg base CX0 1 T.a_Verdict_init T.fd_Verdict_init ["self", "row", "ground"] (spVInit T.c_Verdict) := by
  refine T.F_Verdict_init.ok0 sc_Verdict_init (fun vs H Q E h => ?_) (fun cdv A outer s H vs Q E hr h => ?_)
  · obtain ⟨y, dy, v, g, rfl, _⟩ := h; rfl
  · obtain ⟨y, dy, v, g, rfl, hy, hg, q⟩ := h
    refine ⟨_, (pss_cons (ps_if (pt_cmpR op_notN (pv 2) (pe_non) (nomark _)) (pss_one (ps_set (i := 2) sc_Verdict_init.nd rfl (.inl rfl) (pe_callTy call_tuple_of (by rfl) T.n_tuple (by decide +kernel) (pa_cons (pv 2) pa_nil)))) pss_nil)
      (pss_cons (ps_fld (pv 0) (pv 1) rfl)
      (pss_one (ps_fld (pv 0) (pv 2) rfl)))), ?_⟩
    have ny : ∀ {c : Addr} {o : HO}, H c = some o → (∀ a b f, o ≠ .ins a b f) → c ≠ y := fun e n z => by rw [z, hy] at e; exact n _ _ _ (Option.some.inj e).symm
    rcases hg with rfl | ⟨a, xs, rfl, ha⟩
    · refine ⟨_, rfl, rfl, _, rfl, iteNo rfl ?_⟩
      refine ⟨_, rfl, _, rfl, y, _, dy, _, rfl, hy, T.cl_Verdict, T.no_Verdict_row, by show 0 < 1000; decide, ?_⟩
      refine ⟨_, rfl, _, rfl, y, _, dy, _, rfl, upd_same, T.cl_Verdict, T.no_Verdict_ground, by show 1 < 1000; decide, ?_⟩
      exact q _ (fun c o n e => by rw [upd_ne n, upd_ne n]; exact e) upd_same
    · refine ⟨_, rfl, rfl, _, rfl, iteYes rfl ⟨_, rfl, a, xs, rfl, .inr ⟨SqT.of ha, ?_⟩⟩⟩
      refine ⟨_, rfl, _, rfl, y, _, dy, _, rfl, hy, T.cl_Verdict, T.no_Verdict_row, by show 0 < 1000; decide, ?_⟩
      refine ⟨_, rfl, _, rfl, y, _, dy, _, rfl, upd_same, T.cl_Verdict, T.no_Verdict_ground, by show 1 < 1000; decide, ?_⟩
      exact q _ (fun c o n e => by rw [upd_ne n, upd_ne n]; exact e) upd_same
set_option pp.maxSteps 600 in
theorem ok_Verdict_safe (T : Txt K mg) : FnOk PP w K mg base CX0 1 T.a_Verdict_safe T.fd_Verdict_safe ["self"] (spVSafe T.c_Verdict) := by
  refine T.F_Verdict_safe.ok sc_Verdict_safe (fun vs H Q E h => ?_) (fun cdv A outer s H vs Q E hr h => ?_)
  · obtain ⟨y, v, g, rfl, _⟩ := h; rfl
  · obtain ⟨y, v, g, rfl, ⟨dy, hy⟩, q⟩ := h
    refine ⟨_, (pss_one (ps_ret (pe_cmpR op_isN (pe_fld (pv 0) rfl) (pe_non) (nomark _)))), ?_⟩
    exact ⟨_, rfl, y, _, dy, _, _, rfl, hy, T.cl_Verdict, T.no_Verdict_row, rfl, rfl, q⟩
set_option pp.maxSteps 600 in
theorem ok_Verdict_bool (T : Txt K mg) : FnOk PP w K mg base CX0 1 T.a_Verdict_bool T.fd_Verdict_bool ["self"] (spVSafe T.c_Verdict) := by
  refine T.F_Verdict_bool.ok sc_Verdict_bool (fun vs H Q E h => ?_) (fun cdv A outer s H vs Q E hr h => ?_)
  · obtain ⟨y, v, g, rfl, _⟩ := h; rfl
  · obtain ⟨y, v, g, rfl, ⟨dy, hy⟩, q⟩ := h
    refine ⟨_, (pss_one (ps_ret (pe_cmpR op_isN (pe_fld (pv 0) rfl) (pe_non) (nomark _)))), ?_⟩
    exact ⟨_, rfl, y, _, dy, _, _, rfl, hy, T.cl_Verdict, T.no_Verdict_row, rfl, rfl, q⟩
set_option pp.maxSteps 600 in
theorem ok__law_any_steps (T : Txt K mg) : FnOk PP w K mg base CX0 2 T.a__law_any_steps T.fd__law_any_steps ["_law_draws_here", "_law_at"] (spLSteps K) := by
  refine T.F__law_any_steps.ok sc__law_any_steps (fun vs H Q E h => ?_) (fun cdv A outer s H vs Q E hr h => ?_)
  · obtain ⟨d, t, rfl, _⟩ := h; rfl
  · obtain ⟨d, t, rfl, D0, q⟩ := h
    refine ⟨_, (pss_cons (ps_set (i := 2) sc__law_any_steps.nd rfl (.inl rfl) (pe_lst pa_nil))
      (pss_cons (ps_for PassesOwn.never rfl (pi_range1 (by rfl) T.n_range (pa_cons (pe_ix ix_list (pe_lst (pa_cons (pe_int) (pa_cons (pe_int) (pa_cons (pe_int) (pa_cons (pe_int) (pa_cons (pe_int) (pa_cons (pe_int) (pa_cons (pe_int) pa_nil)))))))) (pe_call (ok__law_take T) (hr.mono (by omega)) (by rfl) T.g__law_take T.F__law_take.kp T.b__law_take .nil pass0 (pa_cons (pv 0) (pa_cons (pv 1) (pa_cons (pe_int) pa_nil)))) (fun _ _ => rfl)) pa_nil)) (pg_name (i := 3) sc__law_any_steps.nd rfl (.inl rfl)) (pss_cons (ps_set (i := 4) sc__law_any_steps.nd rfl (.inl rfl) (pe_ix ix_list (pe_lst (pa_cons (pe_str) (pa_cons (pe_str) (pa_cons (pe_str) (pa_cons (pe_str) pa_nil))))) (pe_call (ok__law_take T) (hr.mono (by omega)) (by rfl) T.g__law_take T.F__law_take.kp T.b__law_take .nil pass0 (pa_cons (pv 0) (pa_cons (pv 1) (pa_cons (pe_int) pa_nil)))) (fun _ _ => rfl)))
      (pss_one (ps_expr (pe_bm PySem.F.plainAttrs_list PySem.F.slot_list_append PySem.F.type_list_append mt_append (pv 2) (pa_cons (pe_tup (pa_cons (pv 4) (pa_cons (pe_ix ix_list (pe_lst (pa_cons (pe_int) (pa_cons (pe_int) (pa_cons (pe_int) (pa_cons (pe_int) (pa_cons (pe_int) (pa_cons (pe_int) pa_nil))))))) (pe_call (ok__law_take T) (hr.mono (by omega)) (by rfl) T.g__law_take T.F__law_take.kp T.b__law_take .nil pass0 (pa_cons (pv 0) (pa_cons (pv 1) (pa_cons (pe_int) pa_nil)))) (fun _ _ => rfl)) pa_nil))) pa_nil))))))
      (pss_one (ps_ret (pv 2))))), ?_⟩
    have big : 100000 < sizeLine := by decide
    refine ⟨Nat.zero_le _, fun u nu => ?_⟩
    have s1 := same_new (o := .lst []) nu
    have h1u : (upd H u (.lst [])) u = some (.lst []) := upd_same
    have nut : u ≠ t := D0.na nu
    have ndu : d ≠ u := D0.nd nu
    revert s1 h1u
    generalize upd H u (.lst []) = H1
    intro s1 h1u
    refine ⟨by show 7 ≤ sizeLine; decide, fun m nm => ?_⟩
    have s2 := s1.trans (same_new (o := .lst [.int 3, .int 2, .int 4, .int 6, .int 1, .int 0, .int 5]) nm)
    have D1 := D0.same s1
    refine ⟨_, rfl, _, rfl, d, t, 7, rfl, D0.same s2, by decide, fun r H3 r0 r1 D3 b3 => ?_⟩
    obtain ⟨z, hz, mz⟩ := int_at (js := [3, 2, 4, 6, 1, 0, 5]) r0 r1
    obtain ⟨n, rfl, n6⟩ : ∃ n : Nat, z = n ∧ n ≤ 6 := by
      simp only [List.mem_cons, List.not_mem_nil, or_false] at mz
      exact ⟨z.toNat, by omega, by omega⟩
    refine ⟨_, _, _, _, rfl, rfl, SqL.of (b3 _ _ (D1.na nm) upd_same), hz, ?_⟩
    have b03 : But t H H3 := (But.of_same s2).trans b3
    have h3u := b3 _ _ nut (same_new (o := .lst [.int 3, .int 2, .int 4, .int 6, .int 1, .int 0, .int 5]) nm _ _ h1u)
    refine ⟨_, rfl, by omega, by omega, for_range (lo := 0) (n := n) (fun i σ H' => ∃ (x3 x4 : Option V) (us : List V) (ss : List Stp), σ = [some (.ref d), some (.ref t), some (.ref u), x3, x4] ∧ Dr K H' d t ∧ But t H H' ∧ H' u = some (.lst us) ∧ us.length = i ∧ Stps H' us ss ∧ ∀ s ∈ ss, goodS s) ⟨_, _, [], [], rfl, D3, b03, h3u, rfl, .nil, fun _ h => nomatch h⟩ ?_ ?_⟩
    rotate_left
    · rintro σ H4 ⟨x3, x4, us, ss, rfl, D4, b4, h4, l4, p4, g4⟩
      exact ⟨_, rfl, q ss us u H4 g4 (by omega) D4 b4 nu h4 p4⟩
    rintro i σ H4 hi ⟨x3, x4, us, ss, rfl, D4, b4, h4, l4, p4, g4⟩
    refine ⟨by show 4 ≤ sizeLine; decide, fun m1 nm1 => ?_⟩
    have s5 := same_new (o := .lst [.str "own", .str "share", .str "drop", .str "share"]) nm1
    refine ⟨_, rfl, _, rfl, d, t, 4, rfl, D4.same s5, by decide, fun r5 H5 r50 r51 D5 b5 => ?_⟩
    obtain ⟨v5, hv5, mv5⟩ := at_ok (xs := [.str "own", .str "share", .str "drop", .str "share"]) r50 r51
    obtain ⟨dd, rfl, gd⟩ : ∃ z : Str, v5 = .str z ∧ (z = "own" ∨ z = "share" ∨ z = "drop") := by
      simp only [List.mem_cons, List.not_mem_nil, or_false] at mv5
      rcases mv5 with rfl | rfl | rfl | rfl
      · exact ⟨_, rfl, .inl rfl⟩
      · exact ⟨_, rfl, .inr (.inl rfl)⟩
      · exact ⟨_, rfl, .inr (.inr rfl)⟩
      · exact ⟨_, rfl, .inr (.inl rfl)⟩
    refine ⟨_, _, _, _, rfl, rfl, SqL.of (b5 _ _ (D4.na nm1) upd_same), hv5, ?_⟩
    have b45 := (But.of_same (a := t) s5).trans b5
    have h5u := b45 _ _ nut h4
    refine ⟨_, rfl, .inl ⟨rfl, _, SqL.of h5u⟩, _, rfl, by show 6 ≤ sizeLine; decide, fun m2 nm2 => ?_⟩
    have s6 := same_new (o := .lst [.int 0, .int 1, .int 2, .int 3, .int 11, .int 999999999]) nm2
    refine ⟨_, rfl, _, rfl, d, t, 6, rfl, D5.same s6, by decide, fun r7 H7 r70 r71 D7 b7 => ?_⟩
    obtain ⟨z7, hz7, mz7⟩ := int_at (js := [0, 1, 2, 3, 11, 999999999]) r70 r71
    have z0 : 0 ≤ z7 := by
      simp only [List.mem_cons, List.not_mem_nil, or_false] at mz7
      omega
    refine ⟨_, _, _, _, rfl, rfl, SqL.of (b7 _ _ (D5.na nm2) upd_same), hz7, by show 2 ≤ sizeLine; decide, fun e ne => ?_⟩
    have s8 := same_new (o := .tup [.str dd, .int z7]) ne
    have b47 := b45.trans ((But.of_same (a := t) s6).trans b7)
    have h7u := b47 _ _ nut h4
    have neu : e ≠ u := (ne_of_none h7u ne).symm
    refine ⟨_, _, _, rfl, rfl, s8 _ _ h7u, by omega, ?_⟩
    have tk4 : TKeep H4 H7 := TKeep.but b47 (fun xs e => by obtain ⟨k, hk⟩ := D4.pl; rw [hk] at e; cases e)
    have b8 : But u H7 (upd (upd H7 e (.tup [.str dd, .int z7])) u (.lst (us ++ [.ref e]))) := fun c o n h => by rw [upd_ne n]; exact s8 _ _ h
    have tk7 : TKeep H7 (upd (upd H7 e (.tup [.str dd, .int z7])) u (.lst (us ++ [.ref e]))) := TKeep.but b8 (fun xs e => by rw [h7u] at e; cases e)
    refine ⟨_, _, us ++ [.ref e], ss ++ [(dd, z7)], rfl, D7.other b8 ndu nut.symm, ((b4.trans b47).trans (But.of_same s8)).mut nu, upd_same, by rw [List.length_append, l4]; rfl, ?_, ?_⟩
    · refine pair_app (p4.keep (tk4.trans tk7)) (.cons ⟨e, rfl, ?_⟩ .nil)
      rw [upd_ne neu]; exact upd_same
    · intro s hs
      rcases List.mem_append.mp hs with hs | hs
      · exact g4 s hs
      · rw [List.mem_singleton.mp hs]; exact ⟨gd, z0⟩
end
end My

namespace My
open PySem L2
def PgV (C : Addr) (H : Hp) (v : V) (ss : List Stp) : Prop := ∃ x, v = .ref x ∧ Pg C H x ss
def LsV (H : Hp) (v : V) (ss : List Stp) : Prop := ∃ u vs, v = .ref u ∧ H u = some (.lst vs) ∧ Stps H vs ss ∧ vs.length ≤ 1000
theorem PgV.same {C : Addr} {H H' : Hp} {v : V} {ss : List Stp} (h : PgV C H v ss) (s : Same H H') : PgV C H' v ss := let ⟨x, e, p⟩ := h; ⟨x, e, p.same s⟩
theorem LsV.same {H H' : Hp} {v : V} {ss : List Stp} (h : LsV H v ss) (s : Same H H') : LsV H' v ss := let ⟨u, vs, e, f, g, l⟩ := h; ⟨u, vs, e, s _ _ f, g.same s, l⟩
structure WbG (C Cs : Addr) (H : Hp) (w : Addr) : Prop where
  ex : ∃ x l m ts rs, Wb C H w x l m ts ∧ ShO Cs H x rs ∧ wordsOk rs ∧ thsWords ts
theorem WbG.same {C Cs : Addr} {H H' : Hp} {w : Addr} (h : WbG C Cs H w) (s : Same H H') : WbG C Cs H' w := let ⟨⟨x, l, m, ts, rs, a, b, c, d⟩⟩ := h; ⟨x, l, m, ts, rs, a.same s, b.same s, c, d⟩
def spLBad (K : PySem.W.Frag) : Sp := fun vs H Q _ => ∃ (w q : Addr) (us : List V) (v : V) (s : Stp), vs = [.ref w, .ref q, v] ∧ (H q = some (.lst us) ∨ H q = some (.tup us)) ∧ StpV H v s ∧ ¬ goodS s ∧
  ∀ r p H', Same H H' → H r = none → H' r = some (.lst [.ref p]) → H' p = some (.tup [.str s.1, .int s.2]) → Q (.ref r) H'
/-- a row that holds the programs, and its web and its last step -/
def RwG (Cr C Cw Cs : Addr) (H : Hp) (y w : Addr) (sss : List (List Stp)) (s : Stp) : Prop := ∃ p l us, RwO Cr H y w p l ∧ WbG Cw Cs H w ∧ H p = some (.tup us) ∧ Paired (PgV C H) us sss ∧ us.length ≤ 1000 ∧ H l = some (.tup [.str s.1, .int s.2])
theorem RwG.same {Cr C Cw Cs : Addr} {H H' : Hp} {y w : Addr} {sss : List (List Stp)} {s : Stp} (h : RwG Cr C Cw Cs H y w sss s) (e : Same H H') : RwG Cr C Cw Cs H' y w sss s := let ⟨p, l, us, a, b, c, d, f, g⟩ := h; ⟨p, l, us, a.same e, b.same e, e _ _ c, L2.Paired.mapP d fun _ _ x => x.same e, f, e _ _ g⟩
def spLRowSame (Cr C Cw Cs : Addr) : Sp := fun vs H Q _ => ∃ (y w L l2 : Addr) (ls : List V) (sss : List (List Stp)) (s : Stp), vs = [.ref y, .ref w, .ref L, .ref l2] ∧ RwG Cr C Cw Cs H y w sss s ∧ H L = some (.lst ls) ∧ Paired (LsV H) ls sss ∧ H l2 = some (.tup [.str s.1, .int s.2]) ∧ ∀ H', Same H H' → Q (.bl true) H'
def spLVer (K : PySem.W.Frag) (Cv : Addr) : Sp := fun vs H Q _ => ∃ (y : Addr) (v g : V) (dd : PyData), vs = [.ref y, .bl (decide (v = .non)), g] ∧ VrO Cv H y v g ∧ Dn K y H 3 g dd ∧ ∀ H', Same H H' → Q (.bl true) H'
theorem dn_stp {K : PySem.W.Frag} {x a : Addr} {H : Hp} {n : Nat} {s : Stp} (h : H a = some (.tup [.str s.1, .int s.2])) (ne : a ≠ x) : Dn K x H (n + 1) (.ref a) (stpD s) := Dn.tup ne (SqT.of h) (.cons (Dn.str _) (.cons (Dn.int _) .nil)) (by simp)
theorem dn_stps {K : PySem.W.Frag} {y C dy : Addr} {fs : List (Str × V)} {H : Hp} {n : Nat} (hy : H y = some (.ins C dy fs)) : ∀ {vs : List V} {ss : List Stp}, Stps H vs ss → Paired (Dn K y H (n + 1)) vs (ss.map stpD)
  | _, _, .nil => .nil
  | _, _, .cons ⟨t, e, h⟩ r => .cons (by rw [e]; exact dn_stp h fun z => by rw [z, hy] at h; cases h) (dn_stps hy r)
theorem dn_ls {K : PySem.W.Frag} {y C dy u : Addr} {fs : List (Str × V)} {H : Hp} {n : Nat} (hy : H y = some (.ins C dy fs)) {vs : List V} {ss : List Stp} (hu : H u = some (.lst vs)) (h : Stps H vs ss) (l : vs.length ≤ 1000) : Dn K y H (n + 2) (.ref u) (.list (ss.map stpD)) :=
  Dn.lst (fun z => by rw [z, hy] at hu; cases hu) (SqL.of hu) (dn_stps hy h) (by omega)
theorem dn_lss {K : PySem.W.Frag} {y C dy : Addr} {fs : List (Str × V)} {H : Hp} (hy : H y = some (.ins C dy fs)) : ∀ {vs : List V} {sss : List (List Stp)}, Paired (LsV H) vs sss → Paired (Dn K y H 2) vs (sss.map fun ss => .list (ss.map stpD))
  | _, _, .nil => .nil
  | _, _, .cons ⟨u, vs, e, a, b, c⟩ t => .cons (by rw [e]; exact dn_ls hy a b c) (dn_lss hy t)
theorem isTup {K : PySem.W.Frag} {H : Hp} {z : Addr} {ws : List V} (h : H z = some (.tup ws)) : TyX K H (.ref z) (.type "tuple") := .base (.tup h)
theorem ths_words {rs : List Row} {ts : List Th} (g : GoodC rs) (h : ThsOk rs ts) : thsWords ts := fun t ht => by
  obtain ⟨k, hk⟩ := List.mem_iff_getElem?.mp ht
  obtain ⟨⟨⟨r, fr, _⟩, _, _⟩, _, _⟩ := h k t hk
  obtain ⟨mr, er⟩ := findR_mem fr
  rw [← er]
  exact strOk_mk (g.row r mr).1
section
variable {w : World} {K : PySem.W.Frag} {mg : Str → Option Value} {base : Heap}
set_option pp.maxSteps 600 in
theorem ok__law_bad_last (T : Txt K mg) : FnOk PP w K mg base CX0 8 T.a__law_bad_last T.fd__law_bad_last ["_law_web_here", "_law_programs", "_law_last"] (spLBad K) := by
  refine T.F__law_bad_last.ok sc__law_bad_last (fun vs H Q E h => ?_) (fun cdv A outer s H vs Q E hr h => ?_)
  · obtain ⟨w, q, us, v, s, rfl, _⟩ := h; rfl
  · obtain ⟨w, q, us, v, s, rfl, hq, hv, bad, qq⟩ := h
    refine ⟨_, (pss_cons (ps_tryL (i := 4) rfl rfl sc__law_bad_last.nd rfl rfl ⟨rfl, by decide, .inl T.g_WebError⟩ takes0 (fun W pn xe tk po => (pss_one (ps_set (i := 3) sc__law_bad_last.nd rfl (.inl rfl) (pe_makeW T.mk_Row (ok_Row_init T) (hr.mono (by omega)) (by rfl) T.g_Row T.b_Row_init .nil (fun σ => passAt tk σ) (pa_cons (pv 0) (pa_cons (pv 1) (pa_cons (pv 2) pa_nil))))))) (fun a oe cls d pn hz hf => (pss_cons (ps_if (PW.pt (pw_and (pt_val (pe_callB (call_isX hz hf) (by rfl) T.n_isinstance (by decide +kernel) (pa_cons (pv 4) (pa_cons (pe_glob (v := .ref T.c_BadStep) (by rfl) T.g_BadStep rfl) pa_nil)))) (pw_and1 (pt_not (pt_val (pe_callB (call_isX hz hf) (by rfl) T.n_isinstance (by decide +kernel) (pa_cons (pv 4) (pa_cons (pe_glob (v := .ref T.c_Refused) (by rfl) T.g_Refused rfl) pa_nil)))))))) (pss_one (ps_ret (pe_lst (pa_cons (pe_xfX hz hf (pv 4)) pa_nil)))) pss_nil)
      (pss_one (ps_ret (pe_lst (pa_cons (pe_str) pa_nil)))))))
      (pss_one (ps_ret (pe_lst pa_nil)))), ?_⟩
    refine ⟨_, rfl, _, rfl, _, rfl, fun x dx nx ndx ne => ?_⟩
    have s1 : Same H (upd (upd H dx (.own x)) x (.ins T.c_Row dx [])) := same_make nx ndx (But.refl _ _)
    refine ⟨x, dx, w, q, us, v, s, rfl, upd_same, hq.imp (s1 _ _) (s1 _ _), hv.same s1, fun g => absurd g bad, fun _ H1 d p b nd np hd hp => ⟨true, T.em_BadStep_WebError, fun _ a0 ha0 => ?_, fun z => nomatch z⟩⟩
    have s2 : Same H H1 := same_make nx ndx b
    refine ⟨_, rfl, _, d, _, _, _, true, rfl, rfl, hd, T.xc_BadStep, rfl, ClsV.own _, T.kt_BadStep_BadStep, _, rfl, iteT ?_⟩
    refine ⟨_, rfl, _, d, _, _, _, false, rfl, rfl, hd, T.xc_BadStep, rfl, ClsV.own _, T.kt_BadStep_Refused, _, rfl, iteYes rfl ?_⟩
    refine ⟨_, rfl, rfl, _, d, _, _, rfl, T.xc_BadStep, T.xn_BadStep, rfl, hd, rfl, by show 1 ≤ sizeLine; decide, fun r hr => ?_⟩
    exact qq r p _ (s2.trans (same_new hr)) (s2.free hr) upd_same (same_new hr _ _ hp)
set_option pp.maxSteps 600 in
theorem ok__law_row_same (T : Txt K mg) : FnOk PP w K mg base CX0 8 T.a__law_row_same T.fd__law_row_same ["_law_row", "_law_web_here", "_law_lists", "_law_last"] (spLRowSame T.c_Row T.c_Program T.c_Web T.c_Shape) := by
  refine T.F__law_row_same.ok sc__law_row_same (fun vs H Q E h => ?_) (fun cdv A outer s H vs Q E hr h => ?_)
  · obtain ⟨y, w, L, l2, ls, sss, s, rfl, _⟩ := h; rfl
  · obtain ⟨y, w, L, l2, ls, sss, s, rfl, ⟨p, l, us, ⟨dy, hy⟩, hw, hp, pg, lu, hl⟩, hL, pl, hl2, q⟩ := h
    refine ⟨_, (pss_cons (ps_if (PW.pt (pw_or (pt_not (pt_val (pe_callB call_isi (by rfl) T.n_isinstance (by decide +kernel) (pa_cons (pe_fld (pv 0) rfl) (pa_cons (pe_bltn (v := .ty "tuple") (by rfl) T.n_tuple (by decide +kernel) rfl) pa_nil))))) (pw_or1 (pt_not (pt_val (pe_call (ok__law_same T 3) (hr.mono (by omega)) (by rfl) T.g__law_same T.F__law_same.kp T.b__law_same .nil pass0 (pa_cons (pe_cmpR (op_cmpI (fun _ _ => rfl) T.m_Web_eq.at_ T.m_Web_eq.fn (ok_Web_eq T) (hr.mono (by omega)) T.b_Web_eq pass0) (pe_fld (pv 0) rfl) (pv 1) (nomark _)) (pa_cons (pe_bl) pa_nil)))))))) (pss_one (ps_ret (pe_bl))) pss_nil)
      (pss_one (ps_ret (pe_and (pe_call (ok__law_same T 3) (hr.mono (by omega)) (by rfl) T.g__law_same T.F__law_same.kp T.b__law_same .nil pass0 (pa_cons (pe_lc (own := [("_law_program", 4)]) (g := (gName 4)) (by rfl) sc__law_row_same.nd (pi_tup (pe_fld (pv 0) rfl)) (blkOk_by (own := [("_law_program", 4)]) (N := ["_law_row", "_law_web_here", "_law_lists", "_law_last", "_law_program"]) (sc := defScope S__law_row_same) (by decide +kernel)) (fun _ _ _ _ _ => (pg_name (i := 4) sc__law_row_same.nd rfl (by first | exact .inl rfl | exact .inr rfl))) (fun _ _ _ _ _ => pts_nil) (fun _ _ _ _ _ => (pe_callTy (call_listIK (K := K) rfl T.m_Program_iter (ok_Program_iter T) T.m_Program_len (ok_Program_len T) T.b_Program_len rfl (hr.mono (by omega))) (by rfl) T.n_list (by decide +kernel) (pa_cons (pv 4) pa_nil)))) (pa_cons (pv 2) pa_nil))) (pe_one (pe_call (ok__law_same T 3) (hr.mono (by omega)) (by rfl) T.g__law_same T.F__law_same.kp T.b__law_same .nil pass0 (pa_cons (pe_fld (pv 0) rfl) (pa_cons (pv 3) pa_nil)))))))), ?_⟩
    have big : 100000 < sizeLine := by decide
    obtain ⟨x, wl, wm, ts, rs, hwb, hS, wo, wt⟩ := hw.ex
    obtain ⟨dw, hw0⟩ := hwb.obj
    refine ⟨_, rfl, y, _, dy, _, _, rfl, hy, T.cl_Row, T.no_Row_programs, rfl, _, _, _, _, true, rfl, ClsV.ty _, isTup hp, kit_ty (by decide +kernel), _, rfl, iteNo rfl ?_⟩
    refine ⟨_, rfl, y, _, dy, _, _, rfl, hy, T.cl_Row, T.no_Row_web, rfl, _, rfl, w, _, _, w, _, _, rfl, rfl, hw0, hw0, w, x, wl, wm, w, x, wl, wm, ts, ts, rs, rs, rfl, hwb, hwb, hS, hS, wo, wo, wt, wt, y, _, _, .bool true, .bool true, rfl, by rw [decide_eq_true (rfl : rs = rs), decide_eq_true (rfl : ts = ts)]; exact Dn.bl _, Dn.bl _, _, rfl, iteNo nsame ?_⟩
    refine ⟨_, rfl, y, _, dy, _, _, rfl, hy, T.cl_Row, T.no_Row_programs, rfl, p, rfl, ⟨_, SqT.of hp⟩, fun D hD => lc_tup (K := K) (a := p) (xs := us) (fun i H' => ∃ ws, Same H H' ∧ H' D = some (.lst ws) ∧ Paired (fun v ss => LsV H' v ss ∧ v ≠ .ref D) ws (sss.take i)) ⟨[], same_new hD, upd_same, by rw [List.take_zero]; exact .nil⟩ (fun i H' _ ⟨_, s, _⟩ => SqT.of (s _ _ hp)) ?_ ?_⟩
    · rintro i v H1 hv ⟨ws, s1, h1, pr⟩
      obtain ⟨ss, hss, x1, rfl, dx1, l1, vs1, hx1, hl1, st1, ln1⟩ := pair_get' pg hv
      have hi := (List.getElem?_eq_some_iff.mp hv).1
      have lws : ws.length ≤ i := by rw [pair_len' pr, List.length_take]; omega
      refine ⟨rfl, ?_⟩
      unfold tYes
      refine iteT ⟨_, rfl, x1, dx1, l1, _, vs1, rfl, s1 _ _ hx1, steps_look l1, SqL.of (s1 _ _ hl1), ln1, fun c nc => ⟨x1, ss, rfl, Pg.same ⟨dx1, l1, vs1, s1 _ _ hx1, s1 _ _ hl1, st1.same s1, ln1⟩ (same_new nc), ⟨_, rfl, by rw [← pair_len st1]; exact ln1⟩, rfl⟩, fun c nc => ?_⟩
      have s2 := same_new (o := .lst vs1) nc
      have ncD : c ≠ D := (ne_of_none h1 nc).symm
      refine ⟨ws, s2 _ _ h1, by omega, ws ++ [.ref c], same_mut (s1.trans s2) hD, upd_same, ?_⟩
      have tk : TKeep H1 (upd (upd H1 c (.lst vs1)) D (.lst (ws ++ [.ref c]))) := fun t xs h => by rw [upd_ne (fun z => by rw [z, h1] at h; cases h)]; exact s2 _ _ h
      have stk : Stps (upd (upd H1 c (.lst vs1)) D (.lst (ws ++ [.ref c]))) vs1 ss := (st1.same s1).keep tk
      have hcD : (upd (upd H1 c (.lst vs1)) D (.lst (ws ++ [.ref c]))) c = some (.lst vs1) := by rw [upd_ne ncD]; exact upd_same
      rw [List.take_succ, hss, Option.toList_some]
      have ks : ∀ {v : V} {ss : List Stp}, LsV H1 v ss → v ≠ .ref D → LsV (upd (upd H1 c (.lst vs1)) D (.lst (ws ++ [.ref c]))) v ss := fun ⟨u, vs, e, a, b, l⟩ n => ⟨u, vs, e, by rw [upd_ne (fun z => n (by rw [e, z]))]; exact s2 _ _ a, b.keep tk, l⟩
      exact pair_app' (L2.Paired.mapP pr fun _ _ h => ⟨ks h.1 h.2, h.2⟩) (.cons ⟨⟨c, vs1, rfl, hcD, stk, ln1⟩, fun e => ncD (by injection e)⟩ .nil)
    rintro H1 ⟨ws, s1, h1, pr⟩
    rw [pair_len' pg, List.take_length] at pr
    have pr : Paired (LsV H1) ws sss := L2.Paired.mapP pr fun _ _ h => h.1
    have hy1 := s1 _ _ hy
    have lws := pair_len' pr
    have lsss := pair_len' pg
    have lls := pair_len' pl
    refine ⟨_, rfl, y, _, _, _, _, rfl, Dn.lst (fun z => by rw [z, hy1] at h1; cases h1) (SqL.of h1) (dn_lss hy1 pr) (by omega), Dn.lst (fun z => by rw [z, hy] at hL; cases hL) (SqL.of (s1 _ _ hL)) (dn_lss hy1 (L2.Paired.mapP pl fun _ _ h => h.same s1)) (by omega), ?_⟩
    rw [same_yes rfl]
    refine ⟨_, rfl, iteT ⟨_, rfl, y, _, dy, _, _, rfl, hy1, T.cl_Row, T.no_Row_last, rfl, _, rfl, y, _, _, _, _, rfl, dn_stp (s1 _ _ hl) (fun z => by rw [z, hy] at hl; cases hl), dn_stp (s1 _ _ hl2) (fun z => by rw [z, hy] at hl2; cases hl2), ?_⟩⟩
    rw [same_yes rfl]
    exact q _ s1
set_option pp.maxSteps 600 in
theorem ok__law_verdict_same (T : Txt K mg) : FnOk PP w K mg base CX0 8 T.a__law_verdict_same T.fd__law_verdict_same ["_law_verdict", "_law_safe", "_law_ground"] (spLVer K T.c_Verdict) := by
  refine T.F__law_verdict_same.ok sc__law_verdict_same (fun vs H Q E h => ?_) (fun cdv A outer s H vs Q E hr h => ?_)
  · obtain ⟨y, v, g, dd, rfl, _⟩ := h; rfl
  · obtain ⟨y, v, g, dd, rfl, hV, hd, q⟩ := h
    obtain ⟨dy, hy⟩ := id hV
    refine ⟨_, (pss_cons (ps_if (PW.pt (pw_or (pt_not (pt_val (pe_call (ok__law_same T 3) (hr.mono (by omega)) (by rfl) T.g__law_same T.F__law_same.kp T.b__law_same .nil pass0 (pa_cons (pe_prop (pv 0) T.cl_Verdict T.pr_Verdict_safe (ok_Verdict_safe T) (hr.mono (by omega)) T.b_Verdict_safe .nil pass0 rfl) (pa_cons (pv 1) pa_nil))))) (pw_or1 (pt_not (pt_val (pe_call (ok__law_same T 3) (hr.mono (by omega)) (by rfl) T.g__law_same T.F__law_same.kp T.b__law_same .nil pass0 (pa_cons (pe_callTy (call_boolI T.m_Verdict_bool (ok_Verdict_bool T) (hr.mono (by omega)) T.b_Verdict_bool pass0) (by rfl) T.n_bool (by decide +kernel) (pa_cons (pv 0) pa_nil)) (pa_cons (pv 1) pa_nil)))))))) (pss_one (ps_ret (pe_bl))) pss_nil)
      (pss_one (ps_ret (pe_and (pe_call (ok__law_same T 3) (hr.mono (by omega)) (by rfl) T.g__law_same T.F__law_same.kp T.b__law_same .nil pass0 (pa_cons (pe_cmpR op_isN (pe_fld (pv 0) rfl) (pe_non) (nomark _)) (pa_cons (pv 1) pa_nil))) (pe_one (pe_call (ok__law_same T 3) (hr.mono (by omega)) (by rfl) T.g__law_same T.F__law_same.kp T.b__law_same .nil pass0 (pa_cons (pe_fld (pv 0) rfl) (pa_cons (pv 2) pa_nil)))))))), ?_⟩
    refine ⟨_, rfl, y, dy, _, rfl, hy, y, v, g, rfl, hV, _, rfl, y, _, _, .bool _, .bool _, rfl, Dn.bl _, Dn.bl _, _, rfl, iteNo nsame ?_⟩
    refine ⟨_, rfl, y, dy, _, rfl, hy, y, v, g, rfl, hV, ⟨_, rfl, _, rfl, y, _, _, .bool _, .bool _, rfl, Dn.bl _, Dn.bl _, _, rfl, iteNo nsame ?_⟩⟩
    refine ⟨_, rfl, y, _, dy, _, _, rfl, hy, T.cl_Verdict, T.no_Verdict_row, rfl, rfl, _, rfl, y, _, _, .bool _, .bool _, rfl, Dn.bl _, Dn.bl _, ?_⟩
    rw [same_yes rfl]
    refine ⟨_, rfl, iteT ⟨_, rfl, y, _, dy, _, _, rfl, hy, T.cl_Verdict, T.no_Verdict_ground, rfl, _, rfl, y, _, _, _, _, rfl, hd, hd, ?_⟩⟩
    rw [same_yes rfl]
    exact q _ (Same.refl _)
end
end My

namespace My
open PySem L2
/-- all in A are lists -/
def Lsts (A : List Addr) (H : Hp) : Prop := ∀ a ∈ A, ∃ xs, H a = some (.lst xs)
theorem ShN.le {F : Addr → Prop} {C : Addr} {H H' : Hp} {x : Addr} {rs : List Row} {A : List Addr} (h : ShN F C H x rs) (hA : Lsts A H) (f : ∀ a, F a → a ∉ A) (l : Le A H H') : ShN F C H' x rs := by
  obtain ⟨dx, l1, m1, vs, f1, f2, hx, hl, hr, hm⟩ := h
  have nt : ∀ {a : Addr} {xs : List V}, H a = some (.tup xs) → a ∉ A := fun e m => by obtain ⟨ys, h⟩ := hA _ m; rw [h] at e; cases e
  have nx : x ∉ A := fun m => by obtain ⟨ys, h⟩ := hA _ m; rw [h] at hx; cases hx
  exact ⟨dx, l1, m1, vs, f1, f2, l _ _ nx hx, l _ _ (f _ f1) hl, rowsT_keep hr fun a xs e => l _ _ (nt e) e, l _ _ (f _ f2) hm⟩
theorem ShN.same {F : Addr → Prop} {C : Addr} {H H' : Hp} {x : Addr} {rs : List Row} (h : ShN F C H x rs) (s : Same H H') : ShN F C H' x rs := by
  obtain ⟨dx, l1, m1, vs, f1, f2, hx, hl, hr, hm⟩ := h
  exact ⟨dx, l1, m1, vs, f1, f2, s _ _ hx, s _ _ hl, rowsT_same hr s, s _ _ hm⟩
theorem Dr.le {K : PySem.W.Frag} {H H' : Hp} {d t : Addr} {A : List Addr} (x : Dr K H d t) (l : Le A H H') (n1 : d ∉ A) (n2 : t ∉ A) : Dr K H' d t :=
  ⟨x.ds.elim fun ns h => ⟨ns, l _ _ n1 h⟩, x.pl.elim fun k h => ⟨k, l _ _ n2 h⟩, x.ne⟩
end My

namespace My
open PySem L2
/-! ### what stays but dicts and the list at t -/
def Kx (t : Addr) (H H' : Hp) : Prop := ∀ c o, c ≠ t → H c = some o → (∀ kv, o ≠ .dK kv) → H' c = some o
theorem Kx.refl (t : Addr) (H : Hp) : Kx t H H := fun _ _ _ e _ => e
theorem Kx.trans {t : Addr} {H H1 H2 : Hp} (x : Kx t H H1) (y : Kx t H1 H2) : Kx t H H2 := fun c o n e d => y c o n (x c o n e d) d
theorem Kx.same {t : Addr} {H H' : Hp} (s : Same H H') : Kx t H H' := fun c o _ e _ => s c o e
theorem Kx.but {t : Addr} {H H' : Hp} (b : But t H H') : Kx t H H' := fun c o n e _ => b c o n e
theorem Kx.updD {t g : Addr} {H : Hp} {kvs : List (Key × V)} {o : HO} (h : H g = some (.dK kvs)) : Kx t H (L2.upd H g o) := fun c o' _ e d => by rw [upd_ne (fun z => by rw [z, h] at e; exact d _ (Option.some.inj e).symm)]; exact e
theorem Kx.le {t a b : Addr} {H H' : Hp} {k1 k2 : List (Key × V)} (l : Le [a, b] H H') (ha : H a = some (.dK k1)) (hb : H b = some (.dK k2)) : Kx t H H' := fun c o _ e d => l _ _ (fun h => by
  simp only [List.mem_cons, List.not_mem_nil, or_false] at h
  rcases h with h | h
  · rw [h, ha] at e; exact d _ (Option.some.inj e).symm
  · rw [h, hb] at e; exact d _ (Option.some.inj e).symm) e
theorem Kx.lst {t c : Addr} {H H' : Hp} {xs : List V} (k : Kx t H H') (n : c ≠ t) (h : H c = some (.lst xs)) : H' c = some (.lst xs) := k _ _ n h fun _ e => by cases e
theorem Kx.tup {t c : Addr} {H H' : Hp} {xs : List V} (ht : ∃ ys, H t = some (.lst ys)) (k : Kx t H H') (h : H c = some (.tup xs)) : H' c = some (.tup xs) := k _ _ (fun z => by
  obtain ⟨ys, ht⟩ := ht
  rw [z, ht] at h; cases h) h fun _ e => by cases e
theorem Kx.ins {t c C dx : Addr} {H H' : Hp} {fs : List (Str × V)} (ht : ∃ ys, H t = some (.lst ys)) (k : Kx t H H') (h : H c = some (.ins C dx fs)) : H' c = some (.ins C dx fs) := k _ _ (fun z => by
  obtain ⟨ys, ht⟩ := ht
  rw [z, ht] at h; cases h) h fun _ e => by cases e
theorem Kx.rows {t : Addr} {H H' : Hp} {vs : List V} {rs : List Row} (k : Kx t H H') (h : RowsN (fun a => a ≠ t) true H vs rs) : RowsN (fun a => a ≠ t) true H' vs rs := L2.Paired.mapP h fun _ _ ⟨p, pp, e, f, g, a, b⟩ => ⟨p, pp, e, f, g, Kx.lst (H := H) k f a, Kx.lst (H := H) k g b⟩
theorem Kx.sh {C t x : Addr} {H H' : Hp} {rs : List Row} (ht : ∃ ys, H t = some (.lst ys)) (k : Kx t H H') (h : ShN (fun a => a ≠ t) C H x rs) : ShN (fun a => a ≠ t) C H' x rs := by
  obtain ⟨dx, l, m, vs, nl, nm, hx, hl, hr, hm⟩ := h
  exact ⟨dx, l, m, vs, nl, nm, k.ins ht hx, k.lst nl hl, rowsT_keep hr fun a xs e => k.tup ht e, k.lst nm hm⟩
/-- all stays but dicts -/
def Kq (H H' : Hp) : Prop := ∀ c o, H c = some o → (∀ kv, o ≠ .dK kv) → H' c = some o
theorem Kq.trans {H H1 H2 : Hp} (x : Kq H H1) (y : Kq H1 H2) : Kq H H2 := fun c o e d => y c o (x c o e d) d
theorem Kq.same {H H' : Hp} (s : Same H H') : Kq H H' := fun c o e _ => s c o e
theorem Kq.updD {g : Addr} {H : Hp} {kvs : List (Key × V)} {o : HO} (h : H g = some (.dK kvs)) : Kq H (L2.upd H g o) := fun c o' e d => by rw [upd_ne (fun z => by rw [z, h] at e; exact d _ (Option.some.inj e).symm)]; exact e
theorem Kq.le {a b : Addr} {H H' : Hp} {k1 k2 : List (Key × V)} (l : Le [a, b] H H') (ha : H a = some (.dK k1)) (hb : H b = some (.dK k2)) : Kq H H' := fun c o e d => l _ _ (fun h => by
  simp only [List.mem_cons, List.not_mem_nil, or_false] at h
  rcases h with h | h
  · rw [h, ha] at e; exact d _ (Option.some.inj e).symm
  · rw [h, hb] at e; exact d _ (Option.some.inj e).symm) e
theorem Kq.kx {t : Addr} {H H' : Hp} (k : Kq H H') : Kx t H H' := fun c o _ e d => k c o e d
theorem Kq.dr {K : PySem.W.Frag} {H H' : Hp} {d t : Addr} (k : Kq H H') (D : Dr K H d t) : Dr K H' d t := ⟨D.ds.elim fun ns h => ⟨ns, k _ _ h fun _ e => by cases e⟩, D.pl.elim fun n h => ⟨n, k _ _ h fun _ e => by cases e⟩, D.ne⟩
end My

namespace My
open PySem L2
def spLaw (K : PySem.W.Frag) : Sp := fun vs H Q _ => ∃ (a : Addr) (ns : List Int), vs = [.ref a] ∧ SqL K H a (ns.map V.int) ∧ ns.length ≤ 63 ∧ ∀ H', Q (.bl true) H'
abbrev TL0 (t : Addr) (H : Hp) : Prop := ∃ xs, H t = some (.lst xs)
def LsN (t : Addr) (H : Hp) (v : V) (ss : List Stp) : Prop := ∃ u vs, v = .ref u ∧ u ≠ t ∧ H u = some (.lst vs) ∧ Stps H vs ss ∧ vs.length ≤ 1000
theorem LsN.v {t : Addr} {H : Hp} {v : V} {ss : List Stp} (h : LsN t H v ss) : LsV H v ss := let ⟨u, vs, e, _, a, b, c⟩ := h; ⟨u, vs, e, a, b, c⟩
theorem LsN.same {t : Addr} {H H' : Hp} {v : V} {ss : List Stp} (h : LsN t H v ss) (s : Same H H') : LsN t H' v ss := let ⟨u, vs, e, n, a, b, c⟩ := h; ⟨u, vs, e, n, s _ _ a, b.same s, c⟩
theorem LsN.but {t : Addr} {H H' : Hp} {v : V} {ss : List Stp} (h : LsN t H v ss) (ht : TL0 t H) (b : But t H H') : LsN t H' v ss := let ⟨u, vs, e, n, a, c, l⟩ := h; ⟨u, vs, e, n, b _ _ n a, c.keep (.but b fun xs z => by obtain ⟨ys, ht⟩ := ht; rw [ht] at z; cases z), l⟩
def PgN (F : Addr → Prop) (C : Addr) (H : Hp) (v : V) (ss : List Stp) : Prop := ∃ x, v = .ref x ∧ PgF F C H x ss
theorem PgN.v {F : Addr → Prop} {C : Addr} {H : Hp} {v : V} {ss : List Stp} (h : PgN F C H v ss) : PgV C H v ss := let ⟨x, e, p⟩ := h; ⟨x, e, p.pg⟩
theorem PgN.same {F : Addr → Prop} {C : Addr} {H H' : Hp} {v : V} {ss : List Stp} (h : PgN F C H v ss) (s : Same H H') : PgN F C H' v ss := let ⟨x, e, p⟩ := h; ⟨x, e, p.same s⟩
theorem PgN.but {t C : Addr} {H H' : Hp} {v : V} {ss : List Stp} (h : PgN (fun a => a ≠ t) C H v ss) (ht : TL0 t H) (b : But t H H') : PgN (fun a => a ≠ t) C H' v ss := by
  obtain ⟨x, e, dx, l, vs, n, hx, hl, hs, lv⟩ := h
  obtain ⟨ys, ht⟩ := ht
  exact ⟨x, e, dx, l, vs, n, b _ _ (fun z => by rw [z, ht] at hx; cases hx) hx, b _ _ n hl, hs.keep (.but b fun xs z => by rw [ht] at z; cases z), lv⟩
def WbN (t C Cs : Addr) (H : Hp) (w : Addr) : Prop := ∃ x l m ts rs, l ≠ t ∧ m ≠ t ∧ Wb C H w x l m ts ∧ ShN (fun a => a ≠ t) Cs H x rs ∧ wordsOk rs ∧ thsWords ts
theorem WbN.g {t C Cs w : Addr} {H : Hp} (h : WbN t C Cs H w) : WbG C Cs H w := let ⟨x, l, m, ts, rs, _, _, a, b, c, d⟩ := h; ⟨⟨x, l, m, ts, rs, a, b.sh, c, d⟩⟩
theorem WbN.same {t C Cs w : Addr} {H H' : Hp} (h : WbN t C Cs H w) (s : Same H H') : WbN t C Cs H' w := let ⟨x, l, m, ts, rs, n1, n2, a, b, c, d⟩ := h; ⟨x, l, m, ts, rs, n1, n2, a.same s, b.same s, c, d⟩
theorem WbN.but {t C Cs w : Addr} {H H' : Hp} (h : WbN t C Cs H w) (ht : TL0 t H) (b : But t H H') : WbN t C Cs H' w := by
  obtain ⟨x, l, m, ts, rs, n1, n2, W, S, c, d⟩ := h
  have S' := Kx.sh ht (.but b) S
  obtain ⟨ys, ht⟩ := ht
  obtain ⟨dw, hw⟩ := W.obj
  exact ⟨x, l, m, ts, rs, n1, n2, W.keep (fun o e => b _ _ (fun z => by rw [z, ht] at hw; cases hw) e) (fun o e => b _ _ n1 e) (fun o e => b _ _ n2 e) (fun a xs e => b _ _ (fun z => by rw [z, ht] at e; cases e) e), S', c, d⟩
theorem mtsN_sub {A B : List Addr} {H : Hp} {us : List V} {u : List Th} (h : MtsN A H us u) (s : ∀ a ∈ B, a ∈ A) : MtsN B H us u := L2.Paired.mapP h fun _ _ ⟨p, pp, e, a, b, x⟩ => ⟨p, pp, e, fun m => a (s _ m), fun m => b (s _ m), x⟩
/-- a ground: a tuple of plain data -/
def GrOk (K : PySem.W.Frag) (H : Hp) (v : V) : Prop := ∃ q xs dd, v = .ref q ∧ H q = some (.tup xs) ∧ ∀ (z : Addr) H', Same H H' → H z = none → Dn K z H' 3 v dd
section
variable {w : World} {K : PySem.W.Frag} {mg : Str → Option Value} {base : Heap}
set_option maxHeartbeats 32000000 in
set_option pp.maxSteps 400 in
theorem ok_law (T : Txt K mg) : FnOk PP w K mg base CX0 18 T.a_law T.fd_law ["_law_script"] (spLaw K) := by
  refine T.F_law.ok sc_law (fun vs H Q E h => ?_) (fun cdv A outer s H vs Q E hr h => ?_)
  · obtain ⟨a, ns, rfl, _⟩ := h; rfl
  · obtain ⟨a0, ns0, rfl, hS, hlen, qq⟩ := h
    refine ⟨_, (pss_cons (ps_set (i := 1) sc_law.nd rfl (.inr rfl) (pe_call (ok__law_draws T) (hr.mono (by omega)) (by rfl) T.g__law_draws T.F__law_draws.kp T.b__law_draws .nil pass0 (pa_cons (pv 0) pa_nil)))
      (pss_cons (ps_set (i := 2) sc_law.nd rfl (.inr rfl) (pe_lst (pa_cons (pe_int) pa_nil)))
      (pss_cons (ps_setLc (i := 3) (own := [("_law_k", 4)]) (g := (gName 4)) (by rfl) sc_law.nd rfl rfl (sw_true rfl rfl rfl (by decide +kernel)) (pi_range1 (by rfl) T.n_range (pa_cons (pe_int) pa_nil)) (blkOk_by (own := [("_law_k", 4)]) (N := ["_law_script", "_law_draws_here", "_law_at", "_law_lists", "_law_k", "_law_programs", "_law_steps", "_law_j", "_law_rows_here", "_law_things_here", "_law_web_here", "_law_count", "_law_last", "_law_given", "_law_row", "_law_other", "_law_bad", "_law_ground", "_law_verdict"]) (sc := defScope S_law) (by decide +kernel)) (fun _ _ _ _ _ => (pg_name (i := 4) sc_law.nd rfl (by first | exact .inl rfl | exact .inr rfl))) (fun _ _ _ _ _ => pts_nil) (fun _ _ _ _ _ => (pe_call (ok__law_any_steps T) (hr.mono (by omega)) (by rfl) T.g__law_any_steps T.F__law_any_steps.kp T.b__law_any_steps .nil pass0 (pa_cons (pv 1) (pa_cons (pv 2) pa_nil)))))
      (pss_cons (ps_setLc (i := 5) (own := [("_law_steps", 6)]) (g := (gName 6)) (by rfl) sc_law.nd rfl rfl (sw_true rfl rfl rfl (by decide +kernel)) (pi_list (pv 3)) (blkOk_by (own := [("_law_steps", 6)]) (N := ["_law_script", "_law_draws_here", "_law_at", "_law_lists", "_law_k", "_law_programs", "_law_steps", "_law_j", "_law_rows_here", "_law_things_here", "_law_web_here", "_law_count", "_law_last", "_law_given", "_law_row", "_law_other", "_law_bad", "_law_ground", "_law_verdict"]) (sc := defScope S_law) (by decide +kernel)) (fun _ _ _ _ _ => (pg_name (i := 6) sc_law.nd rfl (by first | exact .inl rfl | exact .inr rfl))) (fun _ _ _ _ _ => pts_nil) (fun _ _ _ _ _ => (pe_op (op_binOK (K := K) rfl T.of_Program_add ((ok_Program_add T).calm) (hr.mono (by omega)) T.b_Program_add pass0) (pe_makeR0 T.mk_Program ((ok_Program_init T).calm) (hr.mono (by omega)) (by rfl) T.g_Program pass0) (pv 6))))
      (pss_cons (ps_for PassesOwn.never rfl (pi_range1 (by rfl) T.n_range (pa_cons (pe_int) pa_nil)) (pg_name (i := 4) sc_law.nd rfl (.inl rfl)) (pss_one (ps_for PassesOwn.never rfl (pi_range1 (by rfl) T.n_range (pa_cons (pe_int) pa_nil)) (pg_name (i := 7) sc_law.nd rfl (.inl rfl)) (pss_one (ps_if (pt_not (pt_val (pe_call (ok__law_same T 3) (hr.mono (by omega)) (by rfl) T.g__law_same T.F__law_same.kp T.b__law_same .nil pass0 (pa_cons (pe_call (ok_conflict T) (hr.mono (by omega)) (by rfl) T.g_conflict T.F_conflict.kp T.b_conflict .nil pass0 (pa_cons (pe_ix ix_list (pv 5) (pv 4) (fun _ _ => rfl)) (pa_cons (pe_ix ix_list (pv 5) (pv 7) (fun _ _ => rfl)) pa_nil))) (pa_cons (pe_call (ok__law_conflict T) (hr.mono (by omega)) (by rfl) T.g__law_conflict T.F__law_conflict.kp T.b__law_conflict .nil pass0 (pa_cons (pe_ix ix_list (pv 3) (pv 4) (fun _ _ => rfl)) (pa_cons (pe_ix ix_list (pv 3) (pv 7) (fun _ _ => rfl)) pa_nil))) pa_nil))))) (pss_one (ps_ret (pe_bl))) pss_nil)))))
      (pss_cons (ps_set (i := 8) sc_law.nd rfl (.inl rfl) (pe_call (ok__law_rows T) (hr.mono (by omega)) (by rfl) T.g__law_rows T.F__law_rows.kp T.b__law_rows .nil pass0 (pa_cons (pv 1) (pa_cons (pv 2) (pa_cons (pe_bl) pa_nil)))))
      (pss_cons (ps_set (i := 9) sc_law.nd rfl (.inl rfl) (pe_call (ok__law_things T) (hr.mono (by omega)) (by rfl) T.g__law_things T.F__law_things.kp T.b__law_things .nil pass0 (pa_cons (pv 1) (pa_cons (pv 2) (pa_cons (pv 8) (pa_cons (pe_ix ix_list (pe_lst (pa_cons (pe_int) (pa_cons (pe_int) (pa_cons (pe_int) (pa_cons (pe_int) pa_nil))))) (pe_call (ok__law_take T) (hr.mono (by omega)) (by rfl) T.g__law_take T.F__law_take.kp T.b__law_take .nil pass0 (pa_cons (pv 1) (pa_cons (pv 2) (pa_cons (pe_int) pa_nil)))) (fun _ _ => rfl)) pa_nil))))))
      (pss_cons (ps_set (i := 10) sc_law.nd rfl (.inl rfl) (pe_call (ok__law_web T) (hr.mono (by omega)) (by rfl) T.g__law_web T.F__law_web.kp T.b__law_web .nil pass0 (pa_cons (pe_call (ok__law_shape T) (hr.mono (by omega)) (by rfl) T.g__law_shape T.F__law_shape.kp T.b__law_shape .nil pass0 (pa_cons (pv 8) pa_nil)) (pa_cons (pv 9) pa_nil))))
      (pss_cons (ps_set (i := 11) sc_law.nd rfl (.inl rfl) (pe_ix ix_list (pe_lst (pa_cons (pe_int) (pa_cons (pe_int) (pa_cons (pe_int) (pa_cons (pe_int) pa_nil))))) (pe_call (ok__law_take T) (hr.mono (by omega)) (by rfl) T.g__law_take T.F__law_take.kp T.b__law_take .nil pass0 (pa_cons (pv 1) (pa_cons (pv 2) (pa_cons (pe_int) pa_nil)))) (fun _ _ => rfl)))
      (pss_cons (ps_set (i := 12) sc_law.nd rfl (.inl rfl) (pe_tup (pa_cons (pe_ix ix_list (pe_lst (pa_cons (pe_str) (pa_cons (pe_str) (pa_cons (pe_str) pa_nil)))) (pe_call (ok__law_take T) (hr.mono (by omega)) (by rfl) T.g__law_take T.F__law_take.kp T.b__law_take .nil pass0 (pa_cons (pv 1) (pa_cons (pv 2) (pa_cons (pe_int) pa_nil)))) (fun _ _ => rfl)) (pa_cons (pe_ix ix_list (pe_lst (pa_cons (pe_int) (pa_cons (pe_int) (pa_cons (pe_int) (pa_cons (pe_int) pa_nil))))) (pe_call (ok__law_take T) (hr.mono (by omega)) (by rfl) T.g__law_take T.F__law_take.kp T.b__law_take .nil pass0 (pa_cons (pv 1) (pa_cons (pv 2) (pa_cons (pe_int) pa_nil)))) (fun _ _ => rfl)) pa_nil))))
      (pss_cons (ps_set (i := 13) sc_law.nd rfl (.inl rfl) (pe_slice sl_list (pv 5) po_none (po_some (pv 11))))
      (pss_cons (ps_set (i := 14) sc_law.nd rfl (.inl rfl) (pe_make T.mk_Row ((ok_Row_init T).calm) (hr.mono (by omega)) (by rfl) T.g_Row T.b_Row_init .nil pass0 (pa_cons (pv 10) (pa_cons (pv 13) (pa_cons (pe_callTy call_list_of (by rfl) T.n_list (by decide +kernel) (pa_cons (pv 12) pa_nil)) pa_nil)))))
      (pss_cons (ps_set (i := 15) sc_law.nd rfl (.inl rfl) (pe_make T.mk_Row ((ok_Row_init T).calm) (hr.mono (by omega)) (by rfl) T.g_Row T.b_Row_init .nil pass0 (pa_cons (pv 10) (pa_cons (pe_callTy call_tuple_of (by rfl) T.n_tuple (by decide +kernel) (pa_cons (pv 13) pa_nil)) (pa_cons (pv 12) pa_nil)))))
      (pss_cons (ps_if (PW.pt (pw_or (pt_not (pt_val (pe_call (ok__law_row_same T) (hr.mono (by omega)) (by rfl) T.g__law_row_same T.F__law_row_same.kp T.b__law_row_same .nil pass0 (pa_cons (pv 14) (pa_cons (pv 10) (pa_cons (pe_slice sl_list (pv 3) po_none (po_some (pv 11))) (pa_cons (pv 12) pa_nil))))))) (pw_or1 (pt_not (pt_val (pe_call (ok__law_row_same T) (hr.mono (by omega)) (by rfl) T.g__law_row_same T.F__law_row_same.kp T.b__law_row_same .nil pass0 (pa_cons (pv 15) (pa_cons (pv 10) (pa_cons (pe_slice sl_list (pv 3) po_none (po_some (pv 11))) (pa_cons (pv 12) pa_nil)))))))))) (pss_one (ps_ret (pe_bl))) pss_nil)
      (pss_cons (ps_expr (pe_bm PySem.F.plainAttrs_list PySem.F.slot_list_append PySem.F.type_list_append mt_append (pv 13) (pa_cons (pe_ix ix_list (pv 5) (pe_int) (fun _ _ => rfl)) pa_nil)))
      (pss_cons (ps_if (pt_not (pt_val (pe_call (ok__law_row_same T) (hr.mono (by omega)) (by rfl) T.g__law_row_same T.F__law_row_same.kp T.b__law_row_same .nil pass0 (pa_cons (pv 14) (pa_cons (pv 10) (pa_cons (pe_slice sl_list (pv 3) po_none (po_some (pv 11))) (pa_cons (pv 12) pa_nil))))))) (pss_one (ps_ret (pe_bl))) pss_nil)
      (pss_cons (ps_set (i := 16) sc_law.nd rfl (.inl rfl) (pe_ix ix_list (pe_lst (pa_cons (pe_tup (pa_cons (pe_str) (pa_cons (pe_int) pa_nil))) (pa_cons (pe_tup (pa_cons (pe_str) (pa_cons (pe_un un_neg (pe_int)) pa_nil))) (pa_cons (pe_tup (pa_cons (pe_str) (pa_cons (pe_int) pa_nil))) (pa_cons (pe_tup (pa_cons (pe_str) (pa_cons (pe_int) pa_nil))) (pa_cons (pe_tup (pa_cons (pe_str) (pa_cons (pe_un un_neg (pe_int)) pa_nil))) (pa_cons (pe_tup (pa_cons (pe_str) (pa_cons (pe_un un_neg (pe_int)) pa_nil))) pa_nil))))))) (pe_call (ok__law_take T) (hr.mono (by omega)) (by rfl) T.g__law_take T.F__law_take.kp T.b__law_take .nil pass0 (pa_cons (pv 1) (pa_cons (pv 2) (pa_cons (pe_int) pa_nil)))) (fun _ _ => rfl)))
      (pss_cons (ps_if (PW.pt (pw_or (pt_not (pt_val (pe_call (ok__law_same T 3) (hr.mono (by omega)) (by rfl) T.g__law_same T.F__law_same.kp T.b__law_same .nil pass0 (pa_cons (pe_call (ok__law_bad_last T) (hr.mono (by omega)) (by rfl) T.g__law_bad_last T.F__law_bad_last.kp T.b__law_bad_last .nil pass0 (pa_cons (pv 10) (pa_cons (pv 13) (pa_cons (pe_callTy call_list_of (by rfl) T.n_list (by decide +kernel) (pa_cons (pv 16) pa_nil)) pa_nil)))) (pa_cons (pe_lst (pa_cons (pv 16) pa_nil)) pa_nil))))) (pw_or1 (pt_not (pt_val (pe_call (ok__law_same T 3) (hr.mono (by omega)) (by rfl) T.g__law_same T.F__law_same.kp T.b__law_same .nil pass0 (pa_cons (pe_call (ok__law_bad_last T) (hr.mono (by omega)) (by rfl) T.g__law_bad_last T.F__law_bad_last.kp T.b__law_bad_last .nil pass0 (pa_cons (pv 10) (pa_cons (pe_tup pa_nil) (pa_cons (pv 16) pa_nil)))) (pa_cons (pe_lst (pa_cons (pv 16) pa_nil)) pa_nil)))))))) (pss_one (ps_ret (pe_bl))) pss_nil)
      (pss_cons (ps_set (i := 17) sc_law.nd rfl (.inl rfl) (pe_ix ix_list (pe_lst (pa_cons (pe_tup (pa_cons (pe_str) (pa_cons (pe_str) (pa_cons (pe_int) pa_nil)))) (pa_cons (pe_tup (pa_cons (pe_int) (pa_cons (pe_int) (pa_cons (pe_tup (pa_cons (pe_int) pa_nil)) (pa_cons (pe_tup pa_nil) (pa_cons (pe_int) pa_nil)))))) (pa_cons (pe_tup pa_nil) pa_nil)))) (pe_call (ok__law_take T) (hr.mono (by omega)) (by rfl) T.g__law_take T.F__law_take.kp T.b__law_take .nil pass0 (pa_cons (pv 1) (pa_cons (pv 2) (pa_cons (pe_int) pa_nil)))) (fun _ _ => rfl)))
      (pss_cons (ps_if (PW.pt (pw_or (pt_not (pt_val (pe_call (ok__law_verdict_same T) (hr.mono (by omega)) (by rfl) T.g__law_verdict_same T.F__law_verdict_same.kp T.b__law_verdict_same .nil pass0 (pa_cons (pe_make0 T.mk_Verdict (ok_Verdict_init T) (hr.mono (by omega)) (by rfl) T.g_Verdict T.kb_Verdict_init_1.choose_spec.2 T.kb_Verdict_init_1.choose_spec.1 pass0) (pa_cons (pe_bl) (pa_cons (pe_non) pa_nil)))))) (pw_or1 (pt_not (pt_val (pe_call (ok__law_verdict_same T) (hr.mono (by omega)) (by rfl) T.g__law_verdict_same T.F__law_verdict_same.kp T.b__law_verdict_same .nil pass0 (pa_cons (pe_make T.mk_Verdict (ok_Verdict_init T) (hr.mono (by omega)) (by rfl) T.g_Verdict T.kb_Verdict_init_2.choose_spec.2 T.kb_Verdict_init_2.choose_spec.1 pass0 (pa_cons (pv 14) pa_nil)) (pa_cons (pe_bl) (pa_cons (pe_non) pa_nil))))))))) (pss_one (ps_ret (pe_bl))) pss_nil)
      (pss_cons (ps_if (pt_not (pt_val (pe_call (ok__law_verdict_same T) (hr.mono (by omega)) (by rfl) T.g__law_verdict_same T.F__law_verdict_same.kp T.b__law_verdict_same .nil pass0 (pa_cons (pe_make T.mk_Verdict (ok_Verdict_init T) (hr.mono (by omega)) (by rfl) T.g_Verdict T.kb_Verdict_init_3.choose_spec.2 T.kb_Verdict_init_3.choose_spec.1 pass0 (pa_cons (pe_non) (pa_cons (pv 17) pa_nil))) (pa_cons (pe_bl) (pa_cons (pv 17) pa_nil)))))) (pss_one (ps_ret (pe_bl))) pss_nil)
      (pss_cons (ps_if (pt_not (pt_val (pe_call (ok__law_verdict_same T) (hr.mono (by omega)) (by rfl) T.g__law_verdict_same T.F__law_verdict_same.kp T.b__law_verdict_same .nil pass0 (pa_cons (pe_makeK0 T.mk_Verdict (ok_Verdict_init T) (hr.mono (by omega)) (by rfl) T.g_Verdict T.kb_Verdict_init_1_ground.choose_spec pass0 (pk_cons (pv 17) pk_nil)) (pa_cons (pe_bl) (pa_cons (pv 17) pa_nil)))))) (pss_one (ps_ret (pe_bl))) pss_nil)
      (pss_cons (ps_set (i := 18) sc_law.nd rfl (.inl rfl) (pe_makeK0 T.mk_Verdict (ok_Verdict_init T) (hr.mono (by omega)) (by rfl) T.g_Verdict T.kb_Verdict_init_1_ground_row.choose_spec pass0 (pk_cons (pv 17) (pk_cons (pv 14) pk_nil))))
      (pss_cons (ps_if (PW.pt (pw_or (pt_not (pt_val (pe_call (ok__law_verdict_same T) (hr.mono (by omega)) (by rfl) T.g__law_verdict_same T.F__law_verdict_same.kp T.b__law_verdict_same .nil pass0 (pa_cons (pv 18) (pa_cons (pe_bl) (pa_cons (pv 17) pa_nil)))))) (pw_or1 (pt_not (pt_val (pe_call (ok__law_verdict_same T) (hr.mono (by omega)) (by rfl) T.g__law_verdict_same T.F__law_verdict_same.kp T.b__law_verdict_same .nil pass0 (pa_cons (pe_make T.mk_Verdict (ok_Verdict_init T) (hr.mono (by omega)) (by rfl) T.g_Verdict T.kb_Verdict_init_3.choose_spec.2 T.kb_Verdict_init_3.choose_spec.1 pass0 (pa_cons (pv 14) (pa_cons (pv 17) pa_nil))) (pa_cons (pe_bl) (pa_cons (pv 17) pa_nil))))))))) (pss_one (ps_ret (pe_bl))) pss_nil)
      (pss_one (ps_ret (pe_call (ok__law_row_same T) (hr.mono (by omega)) (by rfl) T.g__law_row_same T.F__law_row_same.kp T.b__law_row_same .nil pass0 (pa_cons (pe_fld (pv 18) rfl) (pa_cons (pv 10) (pa_cons (pe_slice sl_list (pv 3) po_none (po_some (pv 11))) (pa_cons (pv 12) pa_nil))))))))))))))))))))))))))))))), ?_⟩
    have big : 100000 < sizeLine := by decide
    refine ⟨_, rfl, a0, ns0, rfl, hS, hlen, fun d zs H1 s1 nd hd => ?_⟩
    refine ⟨by show 1 ≤ sizeLine; decide, fun t hat => ?_⟩
    have D0 : Dr K (upd H1 t (.lst [.int 0])) d t := ⟨⟨zs, same_new hat _ _ hd⟩, ⟨0, upd_same⟩, ne_of_none hd hat⟩
    revert D0
    generalize upd H1 t (.lst [.int 0]) = H2
    intro D0
    have dt : ∀ {H : Hp}, Dr K H d t → TL0 t H := fun D => D.pl.elim fun _ e => ⟨_, e⟩
    -- the lists
    refine ⟨_, rfl, by omega, by omega, fun L hL0 => lc_range (lo := 0) (n := 3) (fun i H' => ∃ ls sss, Dr K H' d t ∧ But t H2 H' ∧ H' L = some (.lst ls) ∧ ls.length = i ∧ Paired (fun v ss => LsN t H' v ss ∧ v ≠ .ref L) ls sss ∧ ∀ ss ∈ sss, (∀ s ∈ ss, goodS s) ∧ ss.length ≤ 6) ⟨[], [], D0.same (same_new hL0), But.of_same (same_new hL0), upd_same, rfl, .nil, fun _ h => nomatch h⟩ ?_ ?_⟩
    · rintro i H3 hi ⟨ls, sss, D3, b3, h3, l3, p3, g3⟩
      have nLt : L ≠ t := D0.na hL0
      refine ⟨rfl, ?_⟩
      unfold tYes
      refine iteT ⟨_, rfl, _, rfl, d, t, rfl, D3, fun ss us u H4 gs lu D4 b4 nu hu st => ?_⟩
      have h4 := b4 _ _ nLt h3
      have nuL : u ≠ L := (ne_of_none h3 nu).symm
      have tk : TKeep H4 (upd H4 L (.lst (ls ++ [.ref u]))) := fun c xs h => by rw [upd_ne (fun z => by rw [z, h4] at h; cases h)]; exact h
      refine ⟨ls, h4, by omega, ls ++ [.ref u], sss ++ [ss], D4.other But.upd (D0.nd hL0) nLt.symm, (b3.trans b4).mut hL0, upd_same, by rw [List.length_append, l3]; rfl, ?_, ?_⟩
      · refine pair_app' (L2.Paired.mapP p3 fun v ss ⟨h, n⟩ => ⟨?_, n⟩) (.cons ⟨⟨u, us, rfl, D3.na nu, by rw [upd_ne nuL]; exact hu, st.keep tk, by omega⟩, fun e => nuL (by injection e)⟩ .nil)
        obtain ⟨u', vs', e, n', a, b, c⟩ := h.but (dt D3) b4
        exact ⟨u', vs', e, n', by rw [upd_ne (fun z => n (by rw [e, z]))]; exact a, b.keep tk, c⟩
      · intro s hs
        rcases List.mem_append.mp hs with hs | hs
        · exact g3 s hs
        · rw [List.mem_singleton.mp hs]; exact ⟨gs, by rw [← pair_len st]; exact lu⟩
    rintro H3 ⟨ls, sss, D3, b3, hL, l3, p3, g3⟩
    have nLt : L ≠ t := D0.na hL0
    have p3 : Paired (LsN t H3) ls sss := L2.Paired.mapP p3 fun _ _ h => h.1
    have lsss := pair_len' p3
    -- the programs
    refine ⟨_, rfl, L, rfl, ⟨_, SqL.of hL⟩, fun Pl hPl => lc_list (K := K) (a := L) (xs := ls) (fun i H' => ∃ ps, Same H3 H' ∧ H' Pl = some (.lst ps) ∧ Paired (PgN (fun a => a ≠ t ∧ a ≠ Pl) T.c_Program H') ps (sss.take i)) ⟨[], same_new hPl, upd_same, by rw [List.take_zero]; exact .nil⟩ (fun i H' _ ⟨_, s, _⟩ => SqL.of (s _ _ hL)) ?_ ?_⟩
    · rintro i v H4 hv ⟨ps, s4, h4, p4⟩
      obtain ⟨ss, hss, u, us, rfl, nut, hu, st, lu⟩ := pair_get' p3 hv
      have hi := (List.getElem?_eq_some_iff.mp hss).1
      obtain ⟨gs, l6⟩ := g3 ss (List.mem_of_getElem? hss)
      have lps : ps.length ≤ i := by rw [pair_len' p4, List.length_take]; omega
      refine ⟨rfl, ?_⟩
      unfold tYes
      refine iteT (fun x dx nx ndx ne => init_pgX (us := []) (ss := []) upd_same .nil (by simp) (fun _ H5 b5 P5 => ⟨rfl, ?_⟩) (fun s hb => by simp [firstBad] at hb))
      have s5 := same_make nx ndx b5
      have hu5 := s5 _ _ (s4 _ _ hu)
      obtain ⟨dx5, lx5, vx5, hx5, _⟩ := id P5
      refine ⟨_, rfl, x, _, _, rfl, hx5, .inr ⟨u, _, rfl, .inl (SqL.of hu5)⟩, x, u, [], ss, rfl, P5, (fun _ h => nomatch h), .inr ⟨_, .inl (SqL.of hu5), (st.same (s4.trans s5)).toV⟩, by simp; omega, fun _ z H6 s6 nz Pz => ?_, fun s hb => by rw [no_bad.mpr gs] at hb; cases hb⟩
      have s46 := s5.trans s6
      have h6 := s46 _ _ h4
      have nzP : z ≠ Pl := (ne_of_none (s5 _ _ h4) nz).symm
      have D5 : Dr K H5 d t := (D3.same s4).same s5
      have tk : TKeep H6 (upd H6 Pl (.lst (ps ++ [.ref z]))) := fun c xs h => by rw [upd_ne (fun y => by rw [y, h6] at h; cases h)]; exact h
      have kp : ∀ {v : V} {ss : List Stp}, PgN (fun a => a ≠ t ∧ a ≠ Pl) T.c_Program H6 v ss → PgN (fun a => a ≠ t ∧ a ≠ Pl) T.c_Program (upd H6 Pl (.lst (ps ++ [.ref z]))) v ss := fun ⟨y, e, dy, l, vs, n, hy, hl, hs, lv⟩ =>
        ⟨y, e, dy, l, vs, n, by rw [upd_ne (fun w => by rw [w, h6] at hy; cases hy)]; exact hy, by rw [upd_ne n.2]; exact hl, hs.keep tk, lv⟩
      refine ⟨ps, h6, by omega, ps ++ [.ref z], same_mut (s4.trans s46) hPl, upd_same, ?_⟩
      rw [List.take_succ, hss, Option.toList_some]
      exact pair_app' (L2.Paired.mapP p4 fun _ _ h => kp (h.same s46)) (.cons (kp ⟨z, rfl, Pz.sub fun a f => ⟨D5.na f, (ne_of_none (s5 _ _ h4) f).symm⟩⟩) .nil)
    rintro H4 ⟨ps, s4, hP4, p4⟩
    rw [lsss, List.take_length] at p4
    have p4 : Paired (PgN (fun a => a ≠ t) T.c_Program H4) ps sss := L2.Paired.mapP p4 fun _ _ ⟨x, e, p⟩ => ⟨x, e, p.sub fun _ f => f.1⟩
    have nPt : Pl ≠ t := D3.na hPl
    have D4 := D3.same s4
    have hL4 := s4 _ _ hL
    have q4 : Paired (LsN t H4) ls sss := L2.Paired.mapP p3 fun _ _ h => h.same s4
    have lps := pair_len' p4
    clear p3 hL hPl s4 D3 b3 hL0 nd hd hat s1
    -- conflicts
    refine ⟨_, rfl, by omega, by omega, for_range (lo := 0) (n := 3) (fun i σ H' => ∃ x4 x7 : Option V, σ = [some (.ref a0), some (.ref d), some (.ref t), some (.ref L), x4, some (.ref Pl), none, x7, none, none, none, none, none, none, none, none, none, none, none] ∧ Same H4 H') ⟨_, _, rfl, Same.refl _⟩ ?_ ?_⟩
    · rintro i σ H5 hi ⟨x4, x7, rfl, s5⟩
      rw [Int.zero_add]
      refine ⟨_, rfl, by omega, by omega, for_range (lo := 0) (n := 3) (fun j σ H' => ∃ x7 : Option V, σ = [some (.ref a0), some (.ref d), some (.ref t), some (.ref L), some (.int i), some (.ref Pl), none, x7, none, none, none, none, none, none, none, none, none, none, none] ∧ Same H4 H') ⟨_, rfl, s5⟩ ?_ ?_⟩
      · rintro j σ H6 hj ⟨x7, rfl, s6⟩
        rw [Int.zero_add]
        obtain ⟨pi, hpi⟩ : ∃ v, ps[i]? = some v := ⟨_, List.getElem?_eq_getElem (by omega)⟩
        obtain ⟨pj, hpj⟩ : ∃ v, ps[j]? = some v := ⟨_, List.getElem?_eq_getElem (by omega)⟩
        obtain ⟨ui, hui⟩ : ∃ v, ls[i]? = some v := ⟨_, List.getElem?_eq_getElem (by omega)⟩
        obtain ⟨uj, huj⟩ : ∃ v, ls[j]? = some v := ⟨_, List.getElem?_eq_getElem (by omega)⟩
        obtain ⟨ss, hss, x, rfl, Px⟩ := pair_get' p4 hpi
        obtain ⟨tt, htt, y, rfl, Py⟩ := pair_get' p4 hpj
        obtain ⟨ss2, hss2, u, us, rfl, _, hu, st, lu⟩ := pair_get' q4 hui
        obtain ⟨tt2, htt2, v, vs, rfl, _, hv, tt', lv⟩ := pair_get' q4 huj
        rw [hss] at hss2; obtain rfl := Option.some.inj hss2
        rw [htt] at htt2; obtain rfl := Option.some.inj htt2
        refine ⟨_, rfl, _, rfl, _, _, _, _, rfl, rfl, SqL.of (s6 _ _ hP4), atI_nat hpi, _, rfl, _, rfl, _, _, _, _, rfl, rfl, SqL.of (s6 _ _ hP4), atI_nat hpj, x, y, ss, tt, rfl, (Px.pg).same s6, (Py.pg).same s6, fun H7 s7 => ?_⟩
        have s47 := s6.trans s7
        exact ⟨_, rfl, _, rfl, _, _, _, _, rfl, rfl, SqL.of (s47 _ _ hL4), atI_nat hui, _, rfl, _, rfl, _, _, _, _, rfl, rfl, SqL.of (s47 _ _ hL4), atI_nat huj, u, v, us, vs, ss, tt, rfl, s47 _ _ hu, st.same s47, s47 _ _ hv, tt'.same s47, lu, lv, t, _, _, .bool _, .bool _, rfl, Dn.bl _, Dn.bl _, _, rfl, iteNo nsame ⟨_, rfl, s47⟩⟩
      · rintro σ H6 ⟨x7, rfl, s6⟩
        exact ⟨_, _, rfl, s6⟩
    rintro σ H5 ⟨x4, x7, rfl, s5⟩
    have D5 := D4.same s5
    have hL5 := s5 _ _ hL4
    have q5 : Paired (LsN t H5) ls sss := L2.Paired.mapP q4 fun _ _ h => h.same s5
    have p5 : Paired (PgN (fun a => a ≠ t) T.c_Program H5) ps sss := L2.Paired.mapP p4 fun _ _ h => h.same s5
    have hP5 := s5 _ _ hP4
    clear q4 p4 hP4 hL4 s5 D4
    -- the shape, the things, the web
    refine ⟨_, rfl, _, rfl, d, t, false, rfl, D5, fun ms prs ws R H6 pok m3 l1' l3' nms oms D6 b6 nR hR rR => ?_⟩
    have g := good_named pok (by omega : ms.length ≤ 6) (Nat.le_refl _) nms oms
    have low : ∀ r, (prs.map (nameR ms))[0]? = some r → r.least = 0 := fun r hr => by
      rw [List.getElem?_map] at hr
      cases e : prs[0]? with
      | none => rw [e] at hr; cases hr
      | some p =>
        rw [e] at hr
        obtain rfl := Option.some.inj hr
        have o := pok.2 0 p e
        show p.least = 0
        by_cases c : p.least = 0
        · exact c
        · obtain ⟨j, hj, lt⟩ := o.low c
          have := (o.pars.2 j hj).1
          omega
    have m3' : ∀ r ∈ prs.map (nameR ms), r.most ≤ 3 := fun r hr => by
      obtain ⟨p, hp, rfl⟩ := List.mem_map.mp hr
      exact m3 p hp
    have lrs : (prs.map (nameR ms)).length = ms.length := by rw [List.length_map]; exact pok.1
    generalize prs.map (nameR ms) = rs at g low m3' lrs rR
    have lws := pair_len' rR
    have nRt : R ≠ t := D5.na nR
    have nt5 : ∀ {a : Addr}, H5 a = none → a ≠ t := fun h => D5.na h
    refine ⟨_, rfl, _, rfl, _, rfl, by show 4 ≤ sizeLine; decide, fun m hm => ?_⟩
    have sm := same_new (o := .lst [.int 3, .int 2, .int 4, .int 0]) hm
    refine ⟨_, rfl, _, rfl, d, t, 4, rfl, D6.same sm, by decide, fun r H7 r0 r1 D7 b7 => ?_⟩
    obtain ⟨z, hz, mz⟩ := int_at (js := [3, 2, 4, 0]) r0 r1
    obtain ⟨n, rfl, n6⟩ : ∃ n : Nat, z = n ∧ n ≤ 6 := by
      simp only [List.mem_cons, List.not_mem_nil, or_false] at mz
      exact ⟨z.toNat, by omega, by omega⟩
    have b67 : But t H6 H7 := (But.of_same sm).trans b7
    have hR7 := b67 _ _ nRt hR
    have rR7 : RowsN (fun a => a ≠ t) true H7 ws rs := rowsN_le (rowsN_sub rR fun a f => nt5 f) fun a o f e => b67 a o f e
    refine ⟨_, _, _, _, rfl, rfl, SqL.of (b7 _ _ (D6.na hm) upd_same), hz, ?_⟩
    refine ⟨d, t, R, n, rs, ws, rfl, D7, hR7, nRt, rR7, by omega, g, low, m3', by omega, fun us ts M H8 tok lts D8 b8 nM hM mM => ?_⟩
    have lus := pair_len' mM
    have hR8 := b8 _ _ nRt hR7
    have rR8 : RowsN (fun a => a ≠ t) true H8 ws rs := rowsN_le rR7 fun a o f e => b8 a o f e
    refine ⟨_, rfl, R, ws, rs, rfl, hR8, rowsN_sub rR8 (fun _ _ => trivial), by omega, by omega, g, fun x H9 s9 nx S9 => ⟨_, rfl, x, M, rs, us, ts, rfl, S9.sh, s9 _ _ hM, mtsN_sub (mtsN_le mM (Le.same s9)) (by simp), tok, by omega, fun wb l m H10 s10 ny nl nm w10 => ?_⟩⟩
    have D9 := D8.same s9
    have D10 := D9.same s10
    have bA : But t H5 H10 := (((b6.trans b67).trans b8).trans (But.of_same s9)).trans (But.of_same s10)
    have WA : WbN t T.c_Web T.c_Shape H10 wb := ⟨x, l, m, ts, rs, D9.na nl, D9.na nm, w10, (S9.sub fun a f => D8.na f).same s10, g.g.words, ths_words g tok⟩
    have t5 := dt D5
    have LA := bA _ _ nLt hL5
    have qA : Paired (LsN t H10) ls sss := L2.Paired.mapP q5 fun _ _ h => h.but t5 bA
    have pA : Paired (PgN (fun a => a ≠ t) T.c_Program H10) ps sss := L2.Paired.mapP p5 fun _ _ h => h.but t5 bA
    have PA := bA _ _ nPt hP5
    clear q5 p5 hP5 hL5 t5 bA w10 S9 rR8 hR8 mM hM b8 b67 b7 b6 rR7 hR7 rR hR sm hm hz mz D6 D7 D8 D9 nR nM ny nl nm nx s9 s10 low m3' nt5 nms oms pok m3
    -- the count
    refine ⟨by show 4 ≤ sizeLine; decide, fun m hm => ?_⟩
    have sm := same_new (o := .lst [.int 2, .int 3, .int 1, .int 0]) hm
    refine ⟨_, rfl, _, rfl, d, t, 4, rfl, D10.same sm, by decide, fun r H11 r0 r1 D11 b11 => ?_⟩
    obtain ⟨z, hz, mz⟩ := int_at (js := [2, 3, 1, 0]) r0 r1
    obtain ⟨n2, rfl, n23⟩ : ∃ n : Nat, z = n ∧ n ≤ 3 := by
      simp only [List.mem_cons, List.not_mem_nil, or_false] at mz
      exact ⟨z.toNat, by omega, by omega⟩
    refine ⟨_, _, _, _, rfl, rfl, SqL.of (b11 _ _ (D10.na hm) upd_same), hz, ?_⟩
    have bB : But t H10 H11 := (But.of_same sm).trans b11
    clear hz mz sm hm b11
    -- the last step
    refine ⟨by show 3 ≤ sizeLine; decide, fun m hm => ?_⟩
    have sm := same_new (o := .lst [.str "own", .str "drop", .str "share"]) hm
    refine ⟨_, rfl, _, rfl, d, t, 3, rfl, D11.same sm, by decide, fun r H12 r0 r1 D12 b12 => ?_⟩
    obtain ⟨v5, hv5, mv5⟩ := at_ok (xs := [.str "own", .str "drop", .str "share"]) r0 r1
    obtain ⟨dd, rfl, gd⟩ : ∃ z : Str, v5 = .str z ∧ (z = "own" ∨ z = "share" ∨ z = "drop") := by
      simp only [List.mem_cons, List.not_mem_nil, or_false] at mv5
      rcases mv5 with rfl | rfl | rfl
      · exact ⟨_, rfl, .inl rfl⟩
      · exact ⟨_, rfl, .inr (.inr rfl)⟩
      · exact ⟨_, rfl, .inr (.inl rfl)⟩
    refine ⟨_, _, _, _, rfl, rfl, SqL.of (b12 _ _ (D11.na hm) upd_same), hv5, ?_⟩
    have bC : But t H10 H12 := bB.trans ((But.of_same sm).trans b12)
    clear hv5 mv5 sm hm b12 bB
    refine ⟨by show 4 ≤ sizeLine; decide, fun m hm => ?_⟩
    have sm := same_new (o := .lst [.int 1, .int 0, .int 2, .int 999999999]) hm
    refine ⟨_, rfl, _, rfl, d, t, 4, rfl, D12.same sm, by decide, fun r H13 r0 r1 D13 b13 => ?_⟩
    obtain ⟨z, hz, mz⟩ := int_at (js := [1, 0, 2, 999999999]) r0 r1
    have z0 : 0 ≤ z := by
      simp only [List.mem_cons, List.not_mem_nil, or_false] at mz
      omega
    refine ⟨_, _, _, _, rfl, rfl, SqL.of (b13 _ _ (D12.na hm) upd_same), hz, by show 2 ≤ sizeLine; decide, fun lt nlt => ?_⟩
    have sl := same_new (o := .tup [.str dd, .int z]) nlt
    have bD : But t H10 (upd H13 lt (.tup [.str dd, .int z])) := ((bC.trans (But.of_same sm)).trans b13).trans (But.of_same sl)
    have hlt : (upd H13 lt (.tup [.str dd, .int z])) lt = some (.tup [.str dd, .int z]) := upd_same
    have DS := D13.same sl
    revert bD hlt DS
    generalize upd H13 lt (.tup [.str dd, .int z]) = Hs
    intro bD hlt DS
    obtain ⟨sl', esl⟩ : ∃ s : Stp, s = (dd, z) := ⟨_, rfl⟩
    have gl : goodS sl' := by rw [esl]; exact ⟨gd, z0⟩
    have hlt : Hs lt = some (.tup [.str sl'.1, .int sl'.2]) := by rw [esl]; exact hlt
    clear bC b13 sm sl hz mz hm nlt D11 D12 D13 gd z0 esl
    have t10 := dt D10
    have WS := WA.but t10 bD
    have LS := bD _ _ nLt LA
    have PS := bD _ _ nPt PA
    have qS : Paired (LsN t Hs) ls sss := L2.Paired.mapP qA fun _ _ h => h.but t10 bD
    have pS : Paired (PgN (fun a => a ≠ t) T.c_Program Hs) ps sss := L2.Paired.mapP pA fun _ _ h => h.but t10 bD
    clear WA LA PA qA pA t10 bD D10
    have pT : Paired (PgV T.c_Program Hs) (ps.take n2) (sss.take n2) := pair_take n2 (L2.Paired.mapP pS fun _ _ h => h.v)
    have qT : Paired (LsV Hs) (ls.take n2) (sss.take n2) := pair_take n2 (L2.Paired.mapP qS fun _ _ h => h.v)
    have lpt : (ps.take n2).length ≤ 1000 := by rw [List.length_take]; omega
    -- given
    refine ⟨_, rfl, _, rfl, _, rfl, Pl, _, rfl, SqL.of PS, fun G nG => ?_⟩
    rw [cut_to]
    have sg := same_new (o := .lst (ps.take n2)) nG
    have hG : (upd Hs G (.lst (ps.take n2))) G = some (.lst (ps.take n2)) := upd_same
    have nGt : G ≠ t := DS.na nG
    revert sg hG
    generalize upd Hs G (.lst (ps.take n2)) = Ha
    intro sg hG
    -- the first row
    refine ⟨_, rfl, _, rfl, _, rfl, lt, _, rfl, .inr (SqT.of (sg _ _ hlt)), fun c nc => ?_⟩
    have sc := same_new (o := .lst [.str sl'.1, .int sl'.2]) nc
    have hc : (upd Ha c (.lst [.str sl'.1, .int sl'.2])) c = some (.lst [.str sl'.1, .int sl'.2]) := upd_same
    have sgc := sg.trans sc
    have hGc := sc _ _ hG
    revert sc hc sgc hGc
    generalize upd Ha c (.lst [.str sl'.1, .int sl'.2]) = Hb
    intro sc hc sgc hGc
    refine fun y1 dy1 ny1 ndy1 ne1 => ?_
    have sy1 : Same Hb (upd (upd Hb dy1 (.own y1)) y1 (.ins T.c_Row dy1 [])) := same_make ny1 ndy1 (But.refl _ _)
    refine ⟨y1, dy1, wb, G, ps.take n2, .ref c, sl', rfl, upd_same, .inl (sy1 _ _ hGc), ⟨c, rfl, .inr (sy1 _ _ hc)⟩, fun _ p1 k1 Hc b1 hy1 hp1 hk1 => ⟨rfl, ?_⟩, fun ng => absurd gl ng⟩
    have s1c := same_make ny1 ndy1 b1
    have sSc := sgc.trans s1c
    have hGd := s1c _ _ hGc
    -- the second row
    refine ⟨_, rfl, _, rfl, G, _, rfl, .inl ⟨SqL.of hGd, fun p2 np2 => ?_⟩⟩
    have sp2 := same_new (o := .tup (ps.take n2)) np2
    have hp2 : (upd Hc p2 (.tup (ps.take n2))) p2 = some (.tup (ps.take n2)) := upd_same
    have sSd := sSc.trans sp2
    revert sp2 hp2 sSd
    generalize upd Hc p2 (.tup (ps.take n2)) = Hd
    intro sp2 hp2 sSd
    refine ⟨_, rfl, fun y2 dy2 ny2 ndy2 ne2 => ?_⟩
    have sy2 : Same Hd (upd (upd Hd dy2 (.own y2)) y2 (.ins T.c_Row dy2 [])) := same_make ny2 ndy2 (But.refl _ _)
    refine ⟨y2, dy2, wb, p2, ps.take n2, .ref lt, sl', rfl, upd_same, .inr (sy2 _ _ hp2), ⟨lt, rfl, .inl (sy2 _ _ (sSd _ _ hlt))⟩, fun _ p3 k3 He b2 hy2 hp3 hk3 => ⟨rfl, ?_⟩, fun ng => absurd gl ng⟩
    have s2e := same_make ny2 ndy2 b2
    have sce := sp2.trans s2e
    have sSe := sSc.trans sce
    have hGe := sce _ _ hGd
    have R1 : RwG T.c_Row T.c_Program T.c_Web T.c_Shape He y1 wb (sss.take n2) sl' := ⟨p1, k1, _, ⟨dy1, sce _ _ hy1⟩, WS.g.same sSe, sce _ _ hp1, L2.Paired.mapP pT fun _ _ h => h.same sSe, lpt, sce _ _ hk1⟩
    have R2 : RwG T.c_Row T.c_Program T.c_Web T.c_Shape He y2 wb (sss.take n2) sl' := ⟨p3, k3, _, ⟨dy2, hy2⟩, WS.g.same sSe, hp3, L2.Paired.mapP pT fun _ _ h => h.same sSe, lpt, hk3⟩
    have nyG : y1 ≠ G := (ne_of_none hGc ny1).symm
    have hy1e := sce _ _ hy1
    have hp1e := sce _ _ hp1
    have hk1e := sce _ _ hk1
    clear hy1 hp1 hk1 hy2 hp3 hk3 s2e sce sy2 sy1 s1c sp2 hp2 hGd b1 b2 ny2 ndy2 ne2 np2 sSd sSc sgc hGc sc hc nc sg hG
    refine ⟨_, rfl, _, rfl, _, rfl, _, rfl, _, rfl, L, _, rfl, SqL.of (sSe _ _ LS), fun c3 nc3 => ?_⟩
    rw [cut_to]
    have s3 := same_new (o := .lst (ls.take n2)) nc3
    refine ⟨_, rfl, y1, wb, c3, lt, ls.take n2, sss.take n2, sl', rfl, R1.same s3, upd_same, L2.Paired.mapP qT fun _ _ h => (h.same sSe).same s3, s3 _ _ (sSe _ _ hlt), fun Hf sf => ⟨_, rfl, iteNo rfl ?_⟩⟩
    have sef := s3.trans sf
    have sSf := sSe.trans sef
    clear s3 sf
    refine ⟨_, rfl, _, rfl, _, rfl, _, rfl, _, rfl, L, _, rfl, SqL.of (sSf _ _ LS), fun c3 nc3 => ?_⟩
    rw [cut_to]
    have s3 := same_new (o := .lst (ls.take n2)) nc3
    refine ⟨_, rfl, y2, wb, c3, lt, ls.take n2, sss.take n2, sl', rfl, (R2.same sef).same s3, upd_same, L2.Paired.mapP qT fun _ _ h => (h.same sSf).same s3, s3 _ _ (sSf _ _ hlt), fun Hg sg => ⟨_, rfl, iteNo rfl ?_⟩⟩
    have seg := (sef.trans s3).trans sg
    have sSg := sSf.trans (s3.trans sg)
    have hGg := seg _ _ hGe
    have hy1g := seg _ _ hy1e
    have hp1g := seg _ _ hp1e
    have hk1g := seg _ _ hk1e
    clear s3 sg sef sSf R1 R2 seg hGe hy1e hp1e hk1e sSe
    -- given grows
    obtain ⟨v0, hv0⟩ : ∃ v, ps[0]? = some v := ⟨_, List.getElem?_eq_getElem (by omega)⟩
    refine ⟨_, rfl, .inl ⟨rfl, _, SqL.of hGg⟩, _, rfl, _, _, _, _, rfl, rfl, SqL.of (sSg _ _ PS), atI_nat (j := 0) hv0, _, _, _, rfl, rfl, hGg, by omega, ?_⟩
    have sSh : Same Hs (upd Hg G (.lst (ps.take n2 ++ [v0]))) := same_mut sSg nG
    have hy1h : (upd Hg G (.lst (ps.take n2 ++ [v0]))) y1 = some (.ins T.c_Row dy1 (rowF wb p1 k1)) := by rw [upd_ne nyG]; exact hy1g
    have hp1h : (upd Hg G (.lst (ps.take n2 ++ [v0]))) p1 = some (.tup (ps.take n2)) := by rw [upd_ne (fun z => by rw [z, hGg] at hp1g; cases hp1g)]; exact hp1g
    have hk1h : (upd Hg G (.lst (ps.take n2 ++ [v0]))) k1 = some (.tup [.str sl'.1, .int sl'.2]) := by rw [upd_ne (fun z => by rw [z, hGg] at hk1g; cases hk1g)]; exact hk1g
    have hGh : (upd Hg G (.lst (ps.take n2 ++ [v0]))) G = some (.lst (ps.take n2 ++ [v0])) := upd_same
    show tSeq _ _ _ _ (upd Hg G (.lst (ps.take n2 ++ [v0])))
    revert sSh hy1h hp1h hk1h hGh
    generalize upd Hg G (.lst (ps.take n2 ++ [v0])) = Hh
    intro sSh hy1h hp1h hk1h hGh
    clear hy1g hp1g hk1g hGg sSg
    refine ⟨_, rfl, _, rfl, _, rfl, _, rfl, _, rfl, L, _, rfl, SqL.of (sSh _ _ LS), fun c3 nc3 => ?_⟩
    rw [cut_to]
    have s3 := same_new (o := .lst (ls.take n2)) nc3
    refine ⟨_, rfl, y1, wb, c3, lt, ls.take n2, sss.take n2, sl', rfl, RwG.same ⟨p1, k1, _, ⟨dy1, hy1h⟩, WS.g.same sSh, hp1h, L2.Paired.mapP pT fun _ _ h => h.same sSh, lpt, hk1h⟩ s3, upd_same, L2.Paired.mapP qT fun _ _ h => (h.same sSh).same s3, s3 _ _ (sSh _ _ hlt), fun Hi si => ⟨_, rfl, iteNo rfl ?_⟩⟩
    have shi := s3.trans si
    have sSi := sSh.trans shi
    have Di := DS.same sSi
    have hy1i := shi _ _ hy1h
    have hp1i := shi _ _ hp1h
    have hk1i := shi _ _ hk1h
    have hGi := shi _ _ hGh
    have WI := WS.same sSi
    have LI := sSi _ _ LS
    have qI : Paired (LsN t Hi) ls sss := L2.Paired.mapP qS fun _ _ h => h.same sSi
    have pI : Paired (PgN (fun a => a ≠ t) T.c_Program Hi) ps sss := L2.Paired.mapP pS fun _ _ h => h.same sSi
    have hlti := sSi _ _ hlt
    have ti := dt Di
    clear s3 si shi sSi hy1h hp1h hk1h hGh sSh pT qT WS LS qS pS hlt DS PS
    -- a bad step
    refine ⟨by show 2 ≤ sizeLine; decide, fun b1 m1 => ⟨_, rfl, by show 2 ≤ sizeLine; decide, fun b2 m2 => ⟨by show 2 ≤ sizeLine; decide, fun b3 m3 => ⟨by show 2 ≤ sizeLine; decide, fun b4 m4 => ⟨_, rfl, by show 2 ≤ sizeLine; decide, fun b5 m5 => ⟨_, rfl, by show 2 ≤ sizeLine; decide, fun b6 m6 => ⟨by show 6 ≤ sizeLine; decide, fun B mB => ?_⟩⟩⟩⟩⟩⟩⟩
    have u1 := same_new (o := .tup [.str "lock", .int 0]) m1
    have e1 : (upd Hi b1 (.tup [.str "lock", .int 0])) b1 = some (.tup [.str "lock", .int 0]) := upd_same
    have u2 := same_new (o := .tup [.str "own", .int (-1)]) m2
    have e2 : (upd (upd Hi b1 (.tup [.str "lock", .int 0])) b2 (.tup [.str "own", .int (-1)])) b2 = some (.tup [.str "own", .int (-1)]) := upd_same
    have u3 := same_new (o := .tup [.str "", .int 1]) m3
    have e3 : (upd (upd (upd Hi b1 (.tup [.str "lock", .int 0])) b2 (.tup [.str "own", .int (-1)])) b3 (.tup [.str "", .int 1])) b3 = some (.tup [.str "", .int 1]) := upd_same
    have u4 := same_new (o := .tup [.str "Share", .int 2]) m4
    have e4 : (upd (upd (upd (upd Hi b1 (.tup [.str "lock", .int 0])) b2 (.tup [.str "own", .int (-1)])) b3 (.tup [.str "", .int 1])) b4 (.tup [.str "Share", .int 2])) b4 = some (.tup [.str "Share", .int 2]) := upd_same
    have u5 := same_new (o := .tup [.str "drop", .int (-7)]) m5
    have e5 : (upd (upd (upd (upd (upd Hi b1 (.tup [.str "lock", .int 0])) b2 (.tup [.str "own", .int (-1)])) b3 (.tup [.str "", .int 1])) b4 (.tup [.str "Share", .int 2])) b5 (.tup [.str "drop", .int (-7)])) b5 = some (.tup [.str "drop", .int (-7)]) := upd_same
    have u6 := same_new (o := .tup [.str "share", .int (-1)]) m6
    have e6 : (upd (upd (upd (upd (upd (upd Hi b1 (.tup [.str "lock", .int 0])) b2 (.tup [.str "own", .int (-1)])) b3 (.tup [.str "", .int 1])) b4 (.tup [.str "Share", .int 2])) b5 (.tup [.str "drop", .int (-7)])) b6 (.tup [.str "share", .int (-1)])) b6 = some (.tup [.str "share", .int (-1)]) := upd_same
    have u7 := same_new (o := .lst [.ref b1, .ref b2, .ref b3, .ref b4, .ref b5, .ref b6]) mB
    have e7 : (upd (upd (upd (upd (upd (upd (upd Hi b1 (.tup [.str "lock", .int 0])) b2 (.tup [.str "own", .int (-1)])) b3 (.tup [.str "", .int 1])) b4 (.tup [.str "Share", .int 2])) b5 (.tup [.str "drop", .int (-7)])) b6 (.tup [.str "share", .int (-1)])) B (.lst [.ref b1, .ref b2, .ref b3, .ref b4, .ref b5, .ref b6])) B = some (.lst [.ref b1, .ref b2, .ref b3, .ref b4, .ref b5, .ref b6]) := upd_same
    have k6 := u7 _ _ e6
    have k5 := u7 _ _ (u6 _ _ e5)
    have k4 := u7 _ _ (u6 _ _ (u5 _ _ e4))
    have k3 := u7 _ _ (u6 _ _ (u5 _ _ (u4 _ _ e3)))
    have k2' := u7 _ _ (u6 _ _ (u5 _ _ (u4 _ _ (u3 _ _ e2))))
    have k1' := u7 _ _ (u6 _ _ (u5 _ _ (u4 _ _ (u3 _ _ (u2 _ _ e1)))))
    have f2 := u1.free m2
    have v2 := u1.trans u2
    have f3 := v2.free m3
    have v3 := v2.trans u3
    have f4 := v3.free m4
    have v4 := v3.trans u4
    have f5 := v4.free m5
    have v5 := v4.trans u5
    have f6 := v5.free m6
    have v6 := v5.trans u6
    have f7 := v6.free mB
    have sB := v6.trans u7
    clear u1 u2 u3 u4 u5 u6 u7 e1 e2 e3 e4 e5 e6 v2 v3 v4 v5 v6 m2 m3 m4 m5 m6 mB
    revert e7 k6 k5 k4 k3 k2' k1' sB
    generalize (upd (upd (upd (upd (upd (upd (upd Hi b1 (.tup [.str "lock", .int 0])) b2 (.tup [.str "own", .int (-1)])) b3 (.tup [.str "", .int 1])) b4 (.tup [.str "Share", .int 2])) b5 (.tup [.str "drop", .int (-7)])) b6 (.tup [.str "share", .int (-1)])) B (.lst [.ref b1, .ref b2, .ref b3, .ref b4, .ref b5, .ref b6])) = HB
    intro e7 k6 k5 k4 k3 k2' k1' sB
    refine ⟨_, rfl, _, rfl, d, t, 6, rfl, Di.same sB, by decide, fun r Hk r0 r1 Dk bk => ?_⟩
    obtain ⟨v5, hv5, mv5⟩ := at_ok (xs := [V.ref b1, .ref b2, .ref b3, .ref b4, .ref b5, .ref b6]) r0 r1
    obtain ⟨bb, zz, rfl, hbb, bad⟩ : ∃ (bb : Addr) (zz : Stp), v5 = .ref bb ∧ Hk bb = some (.tup [.str zz.1, .int zz.2]) ∧ ¬ goodS zz := by
      simp only [List.mem_cons, List.not_mem_nil, or_false] at mv5
      rcases mv5 with rfl | rfl | rfl | rfl | rfl | rfl
      · exact ⟨b1, ("lock", 0), rfl, bk _ _ (Di.na m1) k1', by decide +kernel⟩
      · exact ⟨b2, ("own", -1), rfl, bk _ _ (Di.na f2) k2', by decide +kernel⟩
      · exact ⟨b3, ("", 1), rfl, bk _ _ (Di.na f3) k3, by decide +kernel⟩
      · exact ⟨b4, ("Share", 2), rfl, bk _ _ (Di.na f4) k4, by decide +kernel⟩
      · exact ⟨b5, ("drop", -7), rfl, bk _ _ (Di.na f5) k5, by decide +kernel⟩
      · exact ⟨b6, ("share", -1), rfl, bk _ _ (Di.na f6) k6, by decide +kernel⟩
    refine ⟨_, _, _, _, rfl, rfl, SqL.of (bk _ _ (Di.na f7) e7), hv5, ?_⟩
    have bik : But t Hi Hk := (But.of_same sB).trans bk
    have nt : ∀ {c : Addr} {o : HO}, Hi c = some o → (∀ xs, o ≠ .lst xs) → c ≠ t := fun e n z => by
      obtain ⟨xs, ti⟩ := ti
      rw [z, ti] at e; exact n _ (Option.some.inj e).symm
    have ny1t := nt hy1i fun _ e => by cases e
    have hy1k := bik _ _ ny1t hy1i
    have hGk := bik _ _ nGt hGi
    clear hv5 mv5 k1' k2' k3 k4 k5 k6 e7 f2 f3 f4 f5 f6 f7 m1 sB bk
    -- refused
    refine ⟨_, rfl, _, rfl, _, rfl, bb, _, rfl, .inr (SqT.of hbb), fun c nc => ?_⟩
    have sc := same_new (o := .lst [.str zz.1, .int zz.2]) nc
    refine ⟨wb, G, _, .ref c, zz, rfl, .inl (sc _ _ hGk), ⟨c, rfl, .inr upd_same⟩, bad, fun r p Hl sl nr hr hp => ?_⟩
    have skl := sc.trans sl
    refine ⟨_, rfl, by show 1 ≤ sizeLine; decide, fun c2 nc2 => ?_⟩
    have s2 := same_new (o := .lst [.ref bb]) nc2
    have hy1l := (skl.trans s2) _ _ hy1k
    have h2c : (upd Hl c2 (.lst [.ref bb])) c2 = some (.lst [.ref bb]) := upd_same
    refine ⟨y1, _, _, .list [stpD zz], .list [stpD zz], rfl, Dn.lst (fun z => by rw [z] at hr; have := s2 _ _ hr; rw [hy1l] at this; cases this) (SqL.of (s2 _ _ hr)) (.cons (dn_stp (s2 _ _ hp) fun z => by rw [z] at hp; have := s2 _ _ hp; rw [hy1l] at this; cases this) .nil) (by simp), Dn.lst (ne_of_none (skl _ _ hy1k) nc2).symm (SqL.of h2c) (.cons (dn_stp ((skl.trans s2) _ _ hbb) fun z => by rw [z, hy1k] at hbb; cases hbb) .nil) (by simp), _, rfl, iteNo nsame ?_⟩
    have skm := skl.trans s2
    revert skm hy1l
    generalize upd Hl c2 (.lst [.ref bb]) = Hm
    intro hy1m skm
    clear h2c s2 nc2 hr hp nr sl skl sc nc
    refine ⟨_, rfl, Nat.zero_le _, fun c nc => ?_⟩
    have sc := same_new (o := .tup []) nc
    refine ⟨_, rfl, wb, c, [], .ref bb, zz, rfl, .inr upd_same, ⟨bb, rfl, .inl ((skm.trans sc) _ _ hbb)⟩, bad, fun r p Hl sl nr hr hp => ?_⟩
    have skl := skm.trans (sc.trans sl)
    refine ⟨_, rfl, by show 1 ≤ sizeLine; decide, fun c2 nc2 => ?_⟩
    have s2 := same_new (o := .lst [.ref bb]) nc2
    have hy1l := (skl.trans s2) _ _ hy1k
    have h2c : (upd Hl c2 (.lst [.ref bb])) c2 = some (.lst [.ref bb]) := upd_same
    refine ⟨y1, _, _, .list [stpD zz], .list [stpD zz], rfl, Dn.lst (fun z => by rw [z] at hr; have := s2 _ _ hr; rw [hy1l] at this; cases this) (SqL.of (s2 _ _ hr)) (.cons (dn_stp (s2 _ _ hp) fun z => by rw [z] at hp; have := s2 _ _ hp; rw [hy1l] at this; cases this) .nil) (by simp), Dn.lst (ne_of_none (skl _ _ hy1k) nc2).symm (SqL.of h2c) (.cons (dn_stp ((skl.trans s2) _ _ hbb) fun z => by rw [z, hy1k] at hbb; cases hbb) .nil) (by simp), _, rfl, iteNo nsame ?_⟩
    have skn := skl.trans s2
    revert skn hy1l
    generalize upd Hl c2 (.lst [.ref bb]) = Hn
    intro hy1n skn
    clear h2c s2 nc2 hr hp nr sl skl sc nc hy1m skm
    have bin := bik.trans (But.of_same skn)
    have Dn' := Dk.same skn
    clear skn Dk hGk hy1k bik bad hbb
    -- the ground
    refine ⟨by show 3 ≤ sizeLine; decide, fun g1 m1 => ⟨by show 1 ≤ sizeLine; decide, fun g2 m2 => ⟨Nat.zero_le _, fun g3 m3 => ⟨by show 5 ≤ sizeLine; decide, fun g4 m4 => ⟨Nat.zero_le _, fun g5 m5 => ⟨by show 3 ≤ sizeLine; decide, fun GL mL => ?_⟩⟩⟩⟩⟩⟩
    have u1 := same_new (o := .tup [.str "apart", .str "a", .int 1]) m1
    have e1 : (upd Hn g1 (.tup [.str "apart", .str "a", .int 1])) g1 = some (.tup [.str "apart", .str "a", .int 1]) := upd_same
    have u2 := same_new (o := .tup [.int 2]) m2
    have e2 : (upd (upd Hn g1 (.tup [.str "apart", .str "a", .int 1])) g2 (.tup [.int 2])) g2 = some (.tup [.int 2]) := upd_same
    have u3 := same_new (o := .tup []) m3
    have e3 : (upd (upd (upd Hn g1 (.tup [.str "apart", .str "a", .int 1])) g2 (.tup [.int 2])) g3 (.tup [])) g3 = some (.tup []) := upd_same
    have u4 := same_new (o := .tup [.int 0, .int 1, .ref g2, .ref g3, .int 3]) m4
    have e4 : (upd (upd (upd (upd Hn g1 (.tup [.str "apart", .str "a", .int 1])) g2 (.tup [.int 2])) g3 (.tup [])) g4 (.tup [.int 0, .int 1, .ref g2, .ref g3, .int 3])) g4 = some (.tup [.int 0, .int 1, .ref g2, .ref g3, .int 3]) := upd_same
    have u5 := same_new (o := .tup []) m5
    have e5 : (upd (upd (upd (upd (upd Hn g1 (.tup [.str "apart", .str "a", .int 1])) g2 (.tup [.int 2])) g3 (.tup [])) g4 (.tup [.int 0, .int 1, .ref g2, .ref g3, .int 3])) g5 (.tup [])) g5 = some (.tup []) := upd_same
    have u6 := same_new (o := .lst [.ref g1, .ref g4, .ref g5]) mL
    have e6 : (upd (upd (upd (upd (upd (upd Hn g1 (.tup [.str "apart", .str "a", .int 1])) g2 (.tup [.int 2])) g3 (.tup [])) g4 (.tup [.int 0, .int 1, .ref g2, .ref g3, .int 3])) g5 (.tup [])) GL (.lst [.ref g1, .ref g4, .ref g5])) GL = some (.lst [.ref g1, .ref g4, .ref g5]) := upd_same
    have k5' := u6 _ _ e5
    have k4' := u6 _ _ (u5 _ _ e4)
    have k3' := u6 _ _ (u5 _ _ (u4 _ _ e3))
    have k2' := u6 _ _ (u5 _ _ (u4 _ _ (u3 _ _ e2)))
    have k1' := u6 _ _ (u5 _ _ (u4 _ _ (u3 _ _ (u2 _ _ e1))))
    have f2 := u1.free m2
    have v2 := u1.trans u2
    have f3 := v2.free m3
    have v3 := v2.trans u3
    have f4 := v3.free m4
    have v4 := v3.trans u4
    have f5 := v4.free m5
    have v5 := v4.trans u5
    have fL := v5.free mL
    have sG := v5.trans u6
    clear u1 u2 u3 u4 u5 u6 e1 e2 e3 e4 e5 v2 v3 v4 v5 m2 m3 m4 m5 mL
    revert e6 k5' k4' k3' k2' k1' sG
    generalize (upd (upd (upd (upd (upd (upd Hn g1 (.tup [.str "apart", .str "a", .int 1])) g2 (.tup [.int 2])) g3 (.tup [])) g4 (.tup [.int 0, .int 1, .ref g2, .ref g3, .int 3])) g5 (.tup [])) GL (.lst [.ref g1, .ref g4, .ref g5])) = HG
    intro e6 k5' k4' k3' k2' k1' sG
    refine ⟨_, rfl, _, rfl, d, t, 3, rfl, Dn'.same sG, by decide, fun r Ho r0 r1 Do bo => ?_⟩
    obtain ⟨v6, hv6, mv6⟩ := at_ok (xs := [V.ref g1, .ref g4, .ref g5]) r0 r1
    have k1o := bo _ _ (Dn'.na m1) k1'
    have k2o := bo _ _ (Dn'.na f2) k2'
    have k3o := bo _ _ (Dn'.na f3) k3'
    have k4o := bo _ _ (Dn'.na f4) k4'
    have k5o := bo _ _ (Dn'.na f5) k5'
    have gr : GrOk K Ho v6 := by
      simp only [List.mem_cons, List.not_mem_nil, or_false] at mv6
      rcases mv6 with rfl | rfl | rfl
      · exact ⟨g1, _, _, rfl, k1o, fun z H' s nz => Dn.tup (ne_of_none k1o nz) (SqT.of (s _ _ k1o)) (.cons (Dn.str _) (.cons (Dn.str _) (.cons (Dn.int _) .nil))) (by simp)⟩
      · exact ⟨g4, _, _, rfl, k4o, fun z H' s nz => Dn.tup (ne_of_none k4o nz) (SqT.of (s _ _ k4o)) (.cons (Dn.int _) (.cons (Dn.int _) (.cons (Dn.tup (ne_of_none k2o nz) (SqT.of (s _ _ k2o)) (.cons (Dn.int _) .nil) (by simp)) (.cons (Dn.tup (ne_of_none k3o nz) (SqT.of (s _ _ k3o)) .nil (by simp)) (.cons (Dn.int _) .nil))))) (by simp)⟩
      · exact ⟨g5, _, _, rfl, k5o, fun z H' s nz => Dn.tup (ne_of_none k5o nz) (SqT.of (s _ _ k5o)) .nil (by simp)⟩
    refine ⟨_, _, _, _, rfl, rfl, SqL.of (bo _ _ (Dn'.na fL) e6), hv6, ?_⟩
    have bio : But t Hi Ho := bin.trans ((But.of_same sG).trans bo)
    obtain ⟨q, xs, dg, rfl, hq, gr⟩ := gr
    have RI : RwG T.c_Row T.c_Program T.c_Web T.c_Shape Ho y1 wb (sss.take n2) sl' := ⟨p1, k1, _, ⟨dy1, bio _ _ ny1t hy1i⟩, (WI.but ti bio).g, bio _ _ (nt hp1i fun _ e => by cases e) hp1i, pair_take n2 (L2.Paired.mapP pI fun _ _ h => (h.but ti bio).v), lpt, bio _ _ (nt hk1i fun _ e => by cases e) hk1i⟩
    have qO : Paired (LsV Ho) (ls.take n2) (sss.take n2) := pair_take n2 (L2.Paired.mapP qI fun _ _ h => (h.but ti bio).v)
    have LO := bio _ _ nLt LI
    have hlto := bio _ _ (nt hlti fun _ e => by cases e) hlti
    clear pI qI WI LI hlti hy1i hp1i hk1i hGi ti nt bio bo bin hv6 mv6 k1o k2o k3o k4o k5o k1' k2' k3' k4' k5' e6 f2 f3 f4 f5 fL m1 sG Dn' Do Di hy1n
    have nf : decide (V.ref y1 = V.non) = false := decide_eq_false (fun h => by cases h)
    -- the verdicts
    refine fun x dx nx ndx ne => ⟨x, dx, .non, .non, rfl, upd_same, .inl rfl, fun Ha ba ha => ⟨rfl, x, .non, .non, .none, rfl, ⟨dx, ha⟩, Dn.non, fun Hb sb => ⟨_, rfl, iteNo rfl ?_⟩⟩⟩
    have t1 := (same_make nx ndx ba).trans sb
    clear sb ha ba ne ndx nx
    refine ⟨_, rfl, fun x dx nx ndx ne => ⟨x, dx, .ref y1, .non, rfl, upd_same, .inl rfl, fun Ha ba ha => ⟨rfl, x, .ref y1, .non, .none, (by rw [nf]; rfl), ⟨dx, ha⟩, Dn.non, fun Hc sc => ⟨_, rfl, iteNo rfl ?_⟩⟩⟩⟩
    have t2 := t1.trans ((same_make nx ndx ba).trans sc)
    clear sc ha ba ne ndx nx t1
    refine ⟨_, rfl, fun x dx nx ndx ne => ⟨x, dx, .non, .ref q, rfl, upd_same, .inr ⟨q, xs, rfl, same_make nx ndx (But.refl _ _) _ _ (t2 _ _ hq)⟩, fun Ha ba ha => ⟨rfl, _, rfl, x, .non, .ref q, dg, rfl, ⟨dx, ha⟩, gr x Ha (t2.trans (same_make nx ndx ba)) (t2.free nx), fun Hd sd => ⟨_, rfl, iteNo rfl ?_⟩⟩⟩⟩
    have t3 := t2.trans ((same_make nx ndx ba).trans sd)
    clear sd ha ba ne ndx nx t2
    refine ⟨_, rfl, rfl, rfl, fun x dx nx ndx ne => ⟨x, dx, .non, .ref q, rfl, upd_same, .inr ⟨q, xs, rfl, same_make nx ndx (But.refl _ _) _ _ (t3 _ _ hq)⟩, fun Ha ba ha => ⟨rfl, _, rfl, x, .non, .ref q, dg, rfl, ⟨dx, ha⟩, gr x Ha (t3.trans (same_make nx ndx ba)) (t3.free nx), fun He se => ⟨_, rfl, iteNo rfl ?_⟩⟩⟩⟩
    have t4 := t3.trans ((same_make nx ndx ba).trans se)
    clear se ha ba ne ndx nx t3
    refine ⟨_, rfl, _, rfl, rfl, rfl, fun x dx nx ndx ne => ⟨x, dx, .ref y1, .ref q, rfl, upd_same, .inr ⟨q, xs, rfl, same_make nx ndx (But.refl _ _) _ _ (t4 _ _ hq)⟩, fun Ha ba ha => ⟨rfl, ?_⟩⟩⟩
    have t5 := t4.trans (same_make nx ndx ba)
    have nxo := t4.free nx
    refine ⟨_, rfl, _, rfl, x, .ref y1, .ref q, dg, (by rw [nf]; rfl), ⟨dx, ha⟩, gr x Ha t5 nxo, fun Hf sf => ⟨_, rfl, iteNo rfl ?_⟩⟩
    have t6 := t5.trans sf
    have hxf := sf _ _ ha
    clear sf ha ba ne ndx nx t5 t4
    refine ⟨_, rfl, _, rfl, fun x' dx' nx' ndx' ne' => ⟨x', dx', .ref y1, .ref q, rfl, upd_same, .inr ⟨q, xs, rfl, same_make nx' ndx' (But.refl _ _) _ _ (t6 _ _ hq)⟩, fun Ha ba ha => ⟨rfl, _, rfl, x', .ref y1, .ref q, dg, (by rw [nf]; rfl), ⟨dx', ha⟩, gr x' Ha (t6.trans (same_make nx' ndx' ba)) (t6.free nx'), fun Hg sg => ⟨_, rfl, iteNo rfl ?_⟩⟩⟩⟩
    have tfg := (same_make nx' ndx' ba).trans sg
    have t7 := t6.trans tfg
    have hxg := tfg _ _ hxf
    -- the row of the verdict
    refine ⟨_, rfl, x, _, dx, _, _, rfl, hxg, T.cl_Verdict, T.no_Verdict_row, rfl, _, rfl, _, rfl, _, rfl, _, rfl, L, _, rfl, SqL.of (t7 _ _ LO), fun c3 nc3 => ?_⟩
    rw [cut_to]
    have s3 := same_new (o := .lst (ls.take n2)) nc3
    exact ⟨_, rfl, y1, wb, c3, lt, ls.take n2, sss.take n2, sl', rfl, (RI.same t7).same s3, upd_same, L2.Paired.mapP qO fun _ _ h => (h.same t7).same s3, s3 _ _ (t7 _ _ hlto), fun Hi si => qq _⟩
end
end My

namespace L2
open PySem PySem.Spec PyProof.Rows
section
variable {K : PySem.W.Frag} {x qual : Str} {params : Arguments} {body : List Stmt} {scope : Scope} {dvs : List V} {kws : List (Str × V)} {f : Addr} {fd : FuncData} {ps : List Str}
/-- f(e, .., k=e): n values and the keywords ks are written, defaults fill up, no keyword-only names -/
theorem FunD.kbinds1 (F : FunD K x qual params body scope dvs kws f fd) (n : Nat) (ks : List Str) (g : {α : Type} → List α → List α → List α → List α) (hd : dvs ≠ [])
    (hrel : ∀ {vs ds zs : List V} {us its ws : List Value}, Vals vs us → Vals ds its → Vals zs ws → Vals (g vs ds zs) (g us its ws))
    (h : ∀ (T : Addr) (kV doc pm : Value) (an : Option Addr) (cdv ct : Value) (us its ws : List Value), us.length = n → its.length = dvs.length → ws.length = ks.length →
      ∃ k, bindArgs (PySem.W.fnOf x qual params body scope (.ref T) kV doc pm an cdv ct) ⟨us, ks.zip ws⟩ = seqItems? (.ref T) >>= k ∧ k (some its.toArray) = pure (ps.zip (g us its ws))) :
    ∃ its : List Value, KBn K fd ps n ks (fun us ws => g us its ws) (fun vs zs => g vs dvs zs) := by
  obtain ⟨oc, od, dV, kV, doc, pm, an, cdv, ct, osl, rfl, lk, hcd, hD, hK⟩ := F.ex
  rcases hD with ⟨e, _⟩ | ⟨_, T, o, its, m, rfl, lT, oT, rT⟩
  · exact absurd e hd
  · refine ⟨its, ⟨fun s us ws X l1 l2 => ?_, fun r1 r2 => hrel r1 rT r2⟩⟩
    obtain ⟨k, e1, e2⟩ := h T kV doc pm an cdv ct us its ws l1 rT.length.symm l2
    refine BindsTo.of_looks fun M => ?_
    rw [e1]
    exact looks_items X lT oT (.of_pure e2)
end
end L2

namespace My
open PySem L2
theorem all_mk {w : World} {K : PySem.W.Frag} {h : Heap} {mg : Str → Option Value} {fa : Addr} (X : K.In h) (G : h.Ns mainGlobals mg) (hfa : mg "law" = some (.ref fa))
    {c_Program : Addr}
    {c_Row : Addr}
    {c_Verdict : Addr}
    {c_Shape : Addr}
    {c_Web : Addr}
    {f_sound_step : Addr} {od_sound_step an_sound_step : Option Addr} {sl_sound_step : Array (Option Value)} {oc_sound_step kV_sound_step dc_sound_step pm_sound_step cd_sound_step ct_sound_step : Value}
    {f_Program_init : Addr} {od_Program_init an_Program_init : Option Addr} {sl_Program_init : Array (Option Value)} {oc_Program_init kV_Program_init dc_Program_init pm_Program_init cd_Program_init ct_Program_init : Value}
    {f_Program_len : Addr} {od_Program_len an_Program_len : Option Addr} {sl_Program_len : Array (Option Value)} {oc_Program_len kV_Program_len dc_Program_len pm_Program_len cd_Program_len ct_Program_len : Value}
    {f_Program_iter : Addr} {od_Program_iter an_Program_iter : Option Addr} {sl_Program_iter : Array (Option Value)} {oc_Program_iter kV_Program_iter dc_Program_iter pm_Program_iter cd_Program_iter ct_Program_iter : Value}
    {f_Program_add : Addr} {od_Program_add an_Program_add : Option Addr} {sl_Program_add : Array (Option Value)} {oc_Program_add kV_Program_add dc_Program_add pm_Program_add cd_Program_add ct_Program_add : Value}
    {f_Program_things : Addr} {od_Program_things an_Program_things : Option Addr} {sl_Program_things : Array (Option Value)} {oc_Program_things kV_Program_things dc_Program_things pm_Program_things cd_Program_things ct_Program_things : Value}
    {p_Program_things : Addr} {rs_Program_things : List Value}
    {f_Program_mode_of : Addr} {od_Program_mode_of an_Program_mode_of : Option Addr} {sl_Program_mode_of : Array (Option Value)} {oc_Program_mode_of kV_Program_mode_of dc_Program_mode_of pm_Program_mode_of cd_Program_mode_of ct_Program_mode_of : Value}
    {f_conflict : Addr} {od_conflict an_conflict : Option Addr} {sl_conflict : Array (Option Value)} {oc_conflict kV_conflict dc_conflict pm_conflict cd_conflict ct_conflict : Value}
    {f_Row_init : Addr} {od_Row_init an_Row_init : Option Addr} {sl_Row_init : Array (Option Value)} {oc_Row_init kV_Row_init dc_Row_init pm_Row_init cd_Row_init ct_Row_init : Value}
    {f_Verdict_init : Addr} {od_Verdict_init an_Verdict_init : Option Addr} {sl_Verdict_init : Array (Option Value)} {oc_Verdict_init dc_Verdict_init pm_Verdict_init cd_Verdict_init ct_Verdict_init : Value}
    {kV_Verdict_init : Value}
    {dt_Verdict_init : Addr} {odt_Verdict_init : Option Addr} {cdt_Verdict_init : Value} {ndt_Verdict_init : Nat} {sdt_Verdict_init : Array (Option Value)} 
    {f_Verdict_safe : Addr} {od_Verdict_safe an_Verdict_safe : Option Addr} {sl_Verdict_safe : Array (Option Value)} {oc_Verdict_safe kV_Verdict_safe dc_Verdict_safe pm_Verdict_safe cd_Verdict_safe ct_Verdict_safe : Value}
    {p_Verdict_safe : Addr} {rs_Verdict_safe : List Value}
    {f_Verdict_bool : Addr} {od_Verdict_bool an_Verdict_bool : Option Addr} {sl_Verdict_bool : Array (Option Value)} {oc_Verdict_bool kV_Verdict_bool dc_Verdict_bool pm_Verdict_bool cd_Verdict_bool ct_Verdict_bool : Value}
    {f_is_mark : Addr} {od_is_mark an_is_mark : Option Addr} {sl_is_mark : Array (Option Value)} {oc_is_mark kV_is_mark dc_is_mark pm_is_mark cd_is_mark ct_is_mark : Value}
    {f_sound_row : Addr} {od_sound_row an_sound_row : Option Addr} {sl_sound_row : Array (Option Value)} {oc_sound_row kV_sound_row dc_sound_row pm_sound_row cd_sound_row ct_sound_row : Value}
    {f_barren : Addr} {od_barren an_barren : Option Addr} {sl_barren : Array (Option Value)} {oc_barren kV_barren dc_barren pm_barren cd_barren ct_barren : Value}
    {f_Shape_init : Addr} {od_Shape_init an_Shape_init : Option Addr} {sl_Shape_init : Array (Option Value)} {oc_Shape_init kV_Shape_init dc_Shape_init pm_Shape_init cd_Shape_init ct_Shape_init : Value}
    {f_Shape_getitem : Addr} {od_Shape_getitem an_Shape_getitem : Option Addr} {sl_Shape_getitem : Array (Option Value)} {oc_Shape_getitem kV_Shape_getitem dc_Shape_getitem pm_Shape_getitem cd_Shape_getitem ct_Shape_getitem : Value}
    {f_Shape_eq : Addr} {od_Shape_eq an_Shape_eq : Option Addr} {sl_Shape_eq : Array (Option Value)} {oc_Shape_eq kV_Shape_eq dc_Shape_eq pm_Shape_eq cd_Shape_eq ct_Shape_eq : Value}
    {f_suitable : Addr} {od_suitable an_suitable : Option Addr} {sl_suitable : Array (Option Value)} {oc_suitable kV_suitable dc_suitable pm_suitable cd_suitable ct_suitable : Value}
    {f_Web_init : Addr} {od_Web_init an_Web_init : Option Addr} {sl_Web_init : Array (Option Value)} {oc_Web_init kV_Web_init dc_Web_init pm_Web_init cd_Web_init ct_Web_init : Value}
    {f_Web_put : Addr} {od_Web_put an_Web_put : Option Addr} {sl_Web_put : Array (Option Value)} {oc_Web_put kV_Web_put dc_Web_put pm_Web_put cd_Web_put ct_Web_put : Value}
    {f_Web_getitem : Addr} {od_Web_getitem an_Web_getitem : Option Addr} {sl_Web_getitem : Array (Option Value)} {oc_Web_getitem kV_Web_getitem dc_Web_getitem pm_Web_getitem cd_Web_getitem ct_Web_getitem : Value}
    {f_Web_contains : Addr} {od_Web_contains an_Web_contains : Option Addr} {sl_Web_contains : Array (Option Value)} {oc_Web_contains kV_Web_contains dc_Web_contains pm_Web_contains cd_Web_contains ct_Web_contains : Value}
    {f_Web_eq : Addr} {od_Web_eq an_Web_eq : Option Addr} {sl_Web_eq : Array (Option Value)} {oc_Web_eq kV_Web_eq dc_Web_eq pm_Web_eq cd_Web_eq ct_Web_eq : Value}
    {f_Web_mark_of : Addr} {od_Web_mark_of an_Web_mark_of : Option Addr} {sl_Web_mark_of : Array (Option Value)} {oc_Web_mark_of kV_Web_mark_of dc_Web_mark_of pm_Web_mark_of cd_Web_mark_of ct_Web_mark_of : Value}
    {f__law_draws : Addr} {od__law_draws an__law_draws : Option Addr} {sl__law_draws : Array (Option Value)} {oc__law_draws kV__law_draws dc__law_draws pm__law_draws cd__law_draws ct__law_draws : Value}
    {f__law_take : Addr} {od__law_take an__law_take : Option Addr} {sl__law_take : Array (Option Value)} {oc__law_take kV__law_take dc__law_take pm__law_take cd__law_take ct__law_take : Value}
    {f__law_same : Addr} {od__law_same an__law_same : Option Addr} {sl__law_same : Array (Option Value)} {oc__law_same kV__law_same dc__law_same pm__law_same cd__law_same ct__law_same : Value}
    {f__law_marks : Addr} {od__law_marks an__law_marks : Option Addr} {sl__law_marks : Array (Option Value)} {oc__law_marks kV__law_marks dc__law_marks pm__law_marks cd__law_marks ct__law_marks : Value}
    {f__law_rows : Addr} {od__law_rows an__law_rows : Option Addr} {sl__law_rows : Array (Option Value)} {oc__law_rows kV__law_rows dc__law_rows pm__law_rows cd__law_rows ct__law_rows : Value}
    {f__law_things : Addr} {od__law_things an__law_things : Option Addr} {sl__law_things : Array (Option Value)} {oc__law_things kV__law_things dc__law_things pm__law_things cd__law_things ct__law_things : Value}
    {f__law_shape : Addr} {od__law_shape an__law_shape : Option Addr} {sl__law_shape : Array (Option Value)} {oc__law_shape kV__law_shape dc__law_shape pm__law_shape cd__law_shape ct__law_shape : Value}
    {f__law_put : Addr} {od__law_put an__law_put : Option Addr} {sl__law_put : Array (Option Value)} {oc__law_put kV__law_put dc__law_put pm__law_put cd__law_put ct__law_put : Value}
    {f__law_web : Addr} {od__law_web an__law_web : Option Addr} {sl__law_web : Array (Option Value)} {oc__law_web kV__law_web dc__law_web pm__law_web cd__law_web ct__law_web : Value}
    {f__law_mode : Addr} {od__law_mode an__law_mode : Option Addr} {sl__law_mode : Array (Option Value)} {oc__law_mode kV__law_mode dc__law_mode pm__law_mode cd__law_mode ct__law_mode : Value}
    {f__law_conflict : Addr} {od__law_conflict an__law_conflict : Option Addr} {sl__law_conflict : Array (Option Value)} {oc__law_conflict kV__law_conflict dc__law_conflict pm__law_conflict cd__law_conflict ct__law_conflict : Value}
    {f__law_any_steps : Addr} {od__law_any_steps an__law_any_steps : Option Addr} {sl__law_any_steps : Array (Option Value)} {oc__law_any_steps kV__law_any_steps dc__law_any_steps pm__law_any_steps cd__law_any_steps ct__law_any_steps : Value}
    {f__law_bad_last : Addr} {od__law_bad_last an__law_bad_last : Option Addr} {sl__law_bad_last : Array (Option Value)} {oc__law_bad_last kV__law_bad_last dc__law_bad_last pm__law_bad_last cd__law_bad_last ct__law_bad_last : Value}
    {f__law_row_same : Addr} {od__law_row_same an__law_row_same : Option Addr} {sl__law_row_same : Array (Option Value)} {oc__law_row_same kV__law_row_same dc__law_row_same pm__law_row_same cd__law_row_same ct__law_row_same : Value}
    {f__law_verdict_same : Addr} {od__law_verdict_same an__law_verdict_same : Option Addr} {sl__law_verdict_same : Array (Option Value)} {oc__law_verdict_same kV__law_verdict_same dc__law_verdict_same pm__law_verdict_same cd__law_verdict_same ct__law_verdict_same : Value}
    {f_law : Addr} {od_law an_law : Option Addr} {sl_law : Array (Option Value)} {oc_law kV_law dc_law pm_law cd_law ct_law : Value}
    {q_DEEDS : Addr} {oq_DEEDS : Option Addr} {nq_DEEDS : Nat} {slq_DEEDS : Array (Option Value)} {t_DEEDS_0 : Tok} {t_DEEDS_1 : Tok} {t_DEEDS_2 : Tok}
    {tq_LETTERS : Tok}
    {fl_Program_add rl_Program_add ft_Program_add rt_Program_add : Option Value}
    {ra_Program_add : Addr}
    {ti_Shape_MARKS : Tok}
    {ti_Shape_PARENTS : Tok}
    {ti_Web_MOST : Tok}
    {c_BadShape : Addr}
    {c_UnknownMark : Addr}
    {c_TooLarge : Addr}
    {c_BadParents : Addr}
    {c_NoThing : Addr}
    {c_BadStep : Addr}
    {c_WebError : Addr}
    {c_Refused : Addr}
    {nm_BadShape q_BadShape : Str} {N_BadShape : Addr} {bs_BadShape : List Value} {sn_BadShape : List Str} {sub_BadShape : List Value} {ab_BadShape : Bool} {col_BadShape : Option Bool} {dd_BadShape : Option Addr} {m0_BadShape m1_BadShape m2_BadShape m3_BadShape m5_BadShape : Option Value}
    {f_BadShape cda_BadShape cc_BadShape : Addr} {od_BadShape an_BadShape cld_BadShape cdd_BadShape : Option Addr} {osl_BadShape csl_BadShape ccs_BadShape : Array (Option Value)} {oc_BadShape kV_BadShape dc_BadShape pm_BadShape ct_BadShape cl_BadShape ccl_BadShape : Value} {vs_BadShape : Array Value} {file_BadShape : Str} {tf_BadShape : Tok}
    {nm_UnknownMark q_UnknownMark : Str} {N_UnknownMark : Addr} {bs_UnknownMark : List Value} {sn_UnknownMark : List Str} {sub_UnknownMark : List Value} {ab_UnknownMark : Bool} {col_UnknownMark : Option Bool} {dd_UnknownMark : Option Addr} {m0_UnknownMark m1_UnknownMark m2_UnknownMark m3_UnknownMark m5_UnknownMark : Option Value}
    {f_UnknownMark cda_UnknownMark cc_UnknownMark : Addr} {od_UnknownMark an_UnknownMark cld_UnknownMark cdd_UnknownMark : Option Addr} {osl_UnknownMark csl_UnknownMark ccs_UnknownMark : Array (Option Value)} {oc_UnknownMark kV_UnknownMark dc_UnknownMark pm_UnknownMark ct_UnknownMark cl_UnknownMark ccl_UnknownMark : Value} {vs_UnknownMark : Array Value} {file_UnknownMark : Str} {tf_UnknownMark : Tok}
    {nm_TooLarge q_TooLarge : Str} {N_TooLarge : Addr} {bs_TooLarge : List Value} {sn_TooLarge : List Str} {sub_TooLarge : List Value} {ab_TooLarge : Bool} {col_TooLarge : Option Bool} {dd_TooLarge : Option Addr} {m0_TooLarge m1_TooLarge m2_TooLarge m3_TooLarge m5_TooLarge : Option Value}
    {f_TooLarge cda_TooLarge cc_TooLarge : Addr} {od_TooLarge an_TooLarge cld_TooLarge cdd_TooLarge : Option Addr} {osl_TooLarge csl_TooLarge ccs_TooLarge : Array (Option Value)} {oc_TooLarge kV_TooLarge dc_TooLarge pm_TooLarge ct_TooLarge cl_TooLarge ccl_TooLarge : Value} {vs_TooLarge : Array Value} {file_TooLarge : Str} {tf_TooLarge : Tok}
    {nm_BadParents q_BadParents : Str} {N_BadParents : Addr} {bs_BadParents : List Value} {sn_BadParents : List Str} {sub_BadParents : List Value} {ab_BadParents : Bool} {col_BadParents : Option Bool} {dd_BadParents : Option Addr} {m0_BadParents m1_BadParents m2_BadParents m3_BadParents m5_BadParents : Option Value}
    {f_BadParents cda_BadParents cc_BadParents : Addr} {od_BadParents an_BadParents cld_BadParents cdd_BadParents : Option Addr} {osl_BadParents csl_BadParents ccs_BadParents : Array (Option Value)} {oc_BadParents kV_BadParents dc_BadParents pm_BadParents ct_BadParents cl_BadParents ccl_BadParents : Value} {vs_BadParents : Array Value} {file_BadParents : Str} {tf_BadParents : Tok}
    {nm_NoThing q_NoThing : Str} {N_NoThing : Addr} {bs_NoThing : List Value} {sn_NoThing : List Str} {sub_NoThing : List Value} {ab_NoThing : Bool} {col_NoThing : Option Bool} {dd_NoThing : Option Addr} {m0_NoThing m1_NoThing m2_NoThing m3_NoThing m5_NoThing : Option Value}
    {f_NoThing cda_NoThing cc_NoThing : Addr} {od_NoThing an_NoThing cld_NoThing cdd_NoThing : Option Addr} {osl_NoThing csl_NoThing ccs_NoThing : Array (Option Value)} {oc_NoThing kV_NoThing dc_NoThing pm_NoThing ct_NoThing cl_NoThing ccl_NoThing : Value} {vs_NoThing : Array Value} {file_NoThing : Str} {tf_NoThing : Tok}
    {nm_BadStep q_BadStep : Str} {N_BadStep : Addr} {bs_BadStep : List Value} {sn_BadStep : List Str} {sub_BadStep : List Value} {ab_BadStep : Bool} {col_BadStep : Option Bool} {dd_BadStep : Option Addr} {m0_BadStep m1_BadStep m2_BadStep m3_BadStep m5_BadStep : Option Value}
    {f_BadStep cda_BadStep cc_BadStep : Addr} {od_BadStep an_BadStep cld_BadStep cdd_BadStep : Option Addr} {osl_BadStep csl_BadStep ccs_BadStep : Array (Option Value)} {oc_BadStep kV_BadStep dc_BadStep pm_BadStep ct_BadStep cl_BadStep ccl_BadStep : Value} {vs_BadStep : Array Value} {file_BadStep : Str} {tf_BadStep : Tok}
    (gc_Program : PySem.W.nsIn K mainGlobals "Program" = some (some (.ref c_Program)))
    (gc_Row : PySem.W.nsIn K mainGlobals "Row" = some (some (.ref c_Row)))
    (gc_Verdict : PySem.W.nsIn K mainGlobals "Verdict" = some (some (.ref c_Verdict)))
    (gc_Shape : PySem.W.nsIn K mainGlobals "Shape" = some (some (.ref c_Shape)))
    (gc_Web : PySem.W.nsIn K mainGlobals "Web" = some (some (.ref c_Web)))
    (a_sound_step : PySem.W.nsIn K mainGlobals "sound_step" = some (some (.ref f_sound_step)))
    (l_sound_step : K.lookup f_sound_step = some ⟨oc_sound_step, od_sound_step, .func (PySem.W.fnOf "sound_step" "sound_step" (defArgs S_sound_step) (defBody S_sound_step) (defScope S_sound_step) .none kV_sound_step dc_sound_step pm_sound_step an_sound_step cd_sound_step ct_sound_step), sl_sound_step⟩)
    (c_sound_step : PySem.W.codeIn K cd_sound_step "sound_step" = true)
    (k_sound_step : PySem.W.keepIn K (.ref f_sound_step) = true)
    (a_Program_init : PySem.W.findIn K (.ref c_Program) "__init__" = some (some (.ref f_Program_init)))
    (l_Program_init : K.lookup f_Program_init = some ⟨oc_Program_init, od_Program_init, .func (PySem.W.fnOf "__init__" "Program.__init__" (defArgs S_Program_init) (defBody S_Program_init) (defScope S_Program_init) .none kV_Program_init dc_Program_init pm_Program_init an_Program_init cd_Program_init ct_Program_init), sl_Program_init⟩)
    (c_Program_init : PySem.W.codeIn K cd_Program_init "Program.__init__" = true)
    (k_Program_init : PySem.W.keepIn K (.ref f_Program_init) = true)
    (a_Program_len : PySem.W.findIn K (.ref c_Program) "__len__" = some (some (.ref f_Program_len)))
    (l_Program_len : K.lookup f_Program_len = some ⟨oc_Program_len, od_Program_len, .func (PySem.W.fnOf "__len__" "Program.__len__" (defArgs S_Program_len) (defBody S_Program_len) (defScope S_Program_len) .none kV_Program_len dc_Program_len pm_Program_len an_Program_len cd_Program_len ct_Program_len), sl_Program_len⟩)
    (c_Program_len : PySem.W.codeIn K cd_Program_len "Program.__len__" = true)
    (k_Program_len : PySem.W.keepIn K (.ref f_Program_len) = true)
    (a_Program_iter : PySem.W.findIn K (.ref c_Program) "__iter__" = some (some (.ref f_Program_iter)))
    (l_Program_iter : K.lookup f_Program_iter = some ⟨oc_Program_iter, od_Program_iter, .func (PySem.W.fnOf "__iter__" "Program.__iter__" (defArgs S_Program_iter) (defBody S_Program_iter) (defScope S_Program_iter) .none kV_Program_iter dc_Program_iter pm_Program_iter an_Program_iter cd_Program_iter ct_Program_iter), sl_Program_iter⟩)
    (c_Program_iter : PySem.W.codeIn K cd_Program_iter "Program.__iter__" = true)
    (k_Program_iter : PySem.W.keepIn K (.ref f_Program_iter) = true)
    (a_Program_add : PySem.W.findIn K (.ref c_Program) "__add__" = some (some (.ref f_Program_add)))
    (l_Program_add : K.lookup f_Program_add = some ⟨oc_Program_add, od_Program_add, .func (PySem.W.fnOf "__add__" "Program.__add__" (defArgs S_Program_add) (defBody S_Program_add) (defScope S_Program_add) .none kV_Program_add dc_Program_add pm_Program_add an_Program_add cd_Program_add ct_Program_add), sl_Program_add⟩)
    (c_Program_add : PySem.W.codeIn K cd_Program_add "Program.__add__" = true)
    (k_Program_add : PySem.W.keepIn K (.ref f_Program_add) = true)
    (pa_Program_things : PySem.W.findIn K (.ref c_Program) "things" = some (some (.ref p_Program_things)))
    (pr_Program_things : PySem.W.recIn K p_Program_things "property" = some (.ref f_Program_things :: rs_Program_things))
    (pg_Program_things : PySem.W.specialIn K (.ref p_Program_things) "__get__" = some (some (.builtin "property.__get__")))
    (pt_Program_things : PySem.W.takesIn K (.ref p_Program_things) = some true)
    (l_Program_things : K.lookup f_Program_things = some ⟨oc_Program_things, od_Program_things, .func (PySem.W.fnOf "things" "Program.things" (defArgs S_Program_things) (defBody S_Program_things) (defScope S_Program_things) .none kV_Program_things dc_Program_things pm_Program_things an_Program_things cd_Program_things ct_Program_things), sl_Program_things⟩)
    (c_Program_things : PySem.W.codeIn K cd_Program_things "Program.things" = true)
    (k_Program_things : PySem.W.keepIn K (.ref f_Program_things) = true)
    (a_Program_mode_of : PySem.W.findIn K (.ref c_Program) "mode_of" = some (some (.ref f_Program_mode_of)))
    (l_Program_mode_of : K.lookup f_Program_mode_of = some ⟨oc_Program_mode_of, od_Program_mode_of, .func (PySem.W.fnOf "mode_of" "Program.mode_of" (defArgs S_Program_mode_of) (defBody S_Program_mode_of) (defScope S_Program_mode_of) .none kV_Program_mode_of dc_Program_mode_of pm_Program_mode_of an_Program_mode_of cd_Program_mode_of ct_Program_mode_of), sl_Program_mode_of⟩)
    (c_Program_mode_of : PySem.W.codeIn K cd_Program_mode_of "Program.mode_of" = true)
    (k_Program_mode_of : PySem.W.keepIn K (.ref f_Program_mode_of) = true)
    (a_conflict : PySem.W.nsIn K mainGlobals "conflict" = some (some (.ref f_conflict)))
    (l_conflict : K.lookup f_conflict = some ⟨oc_conflict, od_conflict, .func (PySem.W.fnOf "conflict" "conflict" (defArgs S_conflict) (defBody S_conflict) (defScope S_conflict) .none kV_conflict dc_conflict pm_conflict an_conflict cd_conflict ct_conflict), sl_conflict⟩)
    (c_conflict : PySem.W.codeIn K cd_conflict "conflict" = true)
    (k_conflict : PySem.W.keepIn K (.ref f_conflict) = true)
    (a_Row_init : PySem.W.findIn K (.ref c_Row) "__init__" = some (some (.ref f_Row_init)))
    (l_Row_init : K.lookup f_Row_init = some ⟨oc_Row_init, od_Row_init, .func (PySem.W.fnOf "__init__" "Row.__init__" (defArgs S_Row_init) (defBody S_Row_init) (defScope S_Row_init) .none kV_Row_init dc_Row_init pm_Row_init an_Row_init cd_Row_init ct_Row_init), sl_Row_init⟩)
    (c_Row_init : PySem.W.codeIn K cd_Row_init "Row.__init__" = true)
    (k_Row_init : PySem.W.keepIn K (.ref f_Row_init) = true)
    (a_Verdict_init : PySem.W.findIn K (.ref c_Verdict) "__init__" = some (some (.ref f_Verdict_init)))
    (l_Verdict_init : K.lookup f_Verdict_init = some ⟨oc_Verdict_init, od_Verdict_init, .func (PySem.W.fnOf "__init__" "Verdict.__init__" (defArgs S_Verdict_init) (defBody S_Verdict_init) (defScope S_Verdict_init) (.ref dt_Verdict_init) kV_Verdict_init dc_Verdict_init pm_Verdict_init an_Verdict_init cd_Verdict_init ct_Verdict_init), sl_Verdict_init⟩)
    (c_Verdict_init : PySem.W.codeIn K cd_Verdict_init "Verdict.__init__" = true)
    (k_Verdict_init : PySem.W.keepIn K (.ref f_Verdict_init) = true)
    (lt_Verdict_init : K.lookup dt_Verdict_init = some ⟨cdt_Verdict_init, odt_Verdict_init, .seq #[.none, .none] ndt_Verdict_init, sdt_Verdict_init⟩)
    (pa_Verdict_safe : PySem.W.findIn K (.ref c_Verdict) "safe" = some (some (.ref p_Verdict_safe)))
    (pr_Verdict_safe : PySem.W.recIn K p_Verdict_safe "property" = some (.ref f_Verdict_safe :: rs_Verdict_safe))
    (pg_Verdict_safe : PySem.W.specialIn K (.ref p_Verdict_safe) "__get__" = some (some (.builtin "property.__get__")))
    (pt_Verdict_safe : PySem.W.takesIn K (.ref p_Verdict_safe) = some true)
    (l_Verdict_safe : K.lookup f_Verdict_safe = some ⟨oc_Verdict_safe, od_Verdict_safe, .func (PySem.W.fnOf "safe" "Verdict.safe" (defArgs S_Verdict_safe) (defBody S_Verdict_safe) (defScope S_Verdict_safe) .none kV_Verdict_safe dc_Verdict_safe pm_Verdict_safe an_Verdict_safe cd_Verdict_safe ct_Verdict_safe), sl_Verdict_safe⟩)
    (c_Verdict_safe : PySem.W.codeIn K cd_Verdict_safe "Verdict.safe" = true)
    (k_Verdict_safe : PySem.W.keepIn K (.ref f_Verdict_safe) = true)
    (a_Verdict_bool : PySem.W.findIn K (.ref c_Verdict) "__bool__" = some (some (.ref f_Verdict_bool)))
    (l_Verdict_bool : K.lookup f_Verdict_bool = some ⟨oc_Verdict_bool, od_Verdict_bool, .func (PySem.W.fnOf "__bool__" "Verdict.__bool__" (defArgs S_Verdict_bool) (defBody S_Verdict_bool) (defScope S_Verdict_bool) .none kV_Verdict_bool dc_Verdict_bool pm_Verdict_bool an_Verdict_bool cd_Verdict_bool ct_Verdict_bool), sl_Verdict_bool⟩)
    (c_Verdict_bool : PySem.W.codeIn K cd_Verdict_bool "Verdict.__bool__" = true)
    (k_Verdict_bool : PySem.W.keepIn K (.ref f_Verdict_bool) = true)
    (a_is_mark : PySem.W.nsIn K mainGlobals "is_mark" = some (some (.ref f_is_mark)))
    (l_is_mark : K.lookup f_is_mark = some ⟨oc_is_mark, od_is_mark, .func (PySem.W.fnOf "is_mark" "is_mark" (defArgs S_is_mark) (defBody S_is_mark) (defScope S_is_mark) .none kV_is_mark dc_is_mark pm_is_mark an_is_mark cd_is_mark ct_is_mark), sl_is_mark⟩)
    (c_is_mark : PySem.W.codeIn K cd_is_mark "is_mark" = true)
    (k_is_mark : PySem.W.keepIn K (.ref f_is_mark) = true)
    (a_sound_row : PySem.W.nsIn K mainGlobals "sound_row" = some (some (.ref f_sound_row)))
    (l_sound_row : K.lookup f_sound_row = some ⟨oc_sound_row, od_sound_row, .func (PySem.W.fnOf "sound_row" "sound_row" (defArgs S_sound_row) (defBody S_sound_row) (defScope S_sound_row) .none kV_sound_row dc_sound_row pm_sound_row an_sound_row cd_sound_row ct_sound_row), sl_sound_row⟩)
    (c_sound_row : PySem.W.codeIn K cd_sound_row "sound_row" = true)
    (k_sound_row : PySem.W.keepIn K (.ref f_sound_row) = true)
    (a_barren : PySem.W.nsIn K mainGlobals "barren" = some (some (.ref f_barren)))
    (l_barren : K.lookup f_barren = some ⟨oc_barren, od_barren, .func (PySem.W.fnOf "barren" "barren" (defArgs S_barren) (defBody S_barren) (defScope S_barren) .none kV_barren dc_barren pm_barren an_barren cd_barren ct_barren), sl_barren⟩)
    (c_barren : PySem.W.codeIn K cd_barren "barren" = true)
    (k_barren : PySem.W.keepIn K (.ref f_barren) = true)
    (a_Shape_init : PySem.W.findIn K (.ref c_Shape) "__init__" = some (some (.ref f_Shape_init)))
    (l_Shape_init : K.lookup f_Shape_init = some ⟨oc_Shape_init, od_Shape_init, .func (PySem.W.fnOf "__init__" "Shape.__init__" (defArgs S_Shape_init) (defBody S_Shape_init) (defScope S_Shape_init) .none kV_Shape_init dc_Shape_init pm_Shape_init an_Shape_init cd_Shape_init ct_Shape_init), sl_Shape_init⟩)
    (c_Shape_init : PySem.W.codeIn K cd_Shape_init "Shape.__init__" = true)
    (k_Shape_init : PySem.W.keepIn K (.ref f_Shape_init) = true)
    (a_Shape_getitem : PySem.W.findIn K (.ref c_Shape) "__getitem__" = some (some (.ref f_Shape_getitem)))
    (l_Shape_getitem : K.lookup f_Shape_getitem = some ⟨oc_Shape_getitem, od_Shape_getitem, .func (PySem.W.fnOf "__getitem__" "Shape.__getitem__" (defArgs S_Shape_getitem) (defBody S_Shape_getitem) (defScope S_Shape_getitem) .none kV_Shape_getitem dc_Shape_getitem pm_Shape_getitem an_Shape_getitem cd_Shape_getitem ct_Shape_getitem), sl_Shape_getitem⟩)
    (c_Shape_getitem : PySem.W.codeIn K cd_Shape_getitem "Shape.__getitem__" = true)
    (k_Shape_getitem : PySem.W.keepIn K (.ref f_Shape_getitem) = true)
    (a_Shape_eq : PySem.W.findIn K (.ref c_Shape) "__eq__" = some (some (.ref f_Shape_eq)))
    (l_Shape_eq : K.lookup f_Shape_eq = some ⟨oc_Shape_eq, od_Shape_eq, .func (PySem.W.fnOf "__eq__" "Shape.__eq__" (defArgs S_Shape_eq) (defBody S_Shape_eq) (defScope S_Shape_eq) .none kV_Shape_eq dc_Shape_eq pm_Shape_eq an_Shape_eq cd_Shape_eq ct_Shape_eq), sl_Shape_eq⟩)
    (c_Shape_eq : PySem.W.codeIn K cd_Shape_eq "Shape.__eq__" = true)
    (k_Shape_eq : PySem.W.keepIn K (.ref f_Shape_eq) = true)
    (a_suitable : PySem.W.nsIn K mainGlobals "suitable" = some (some (.ref f_suitable)))
    (l_suitable : K.lookup f_suitable = some ⟨oc_suitable, od_suitable, .func (PySem.W.fnOf "suitable" "suitable" (defArgs S_suitable) (defBody S_suitable) (defScope S_suitable) .none kV_suitable dc_suitable pm_suitable an_suitable cd_suitable ct_suitable), sl_suitable⟩)
    (c_suitable : PySem.W.codeIn K cd_suitable "suitable" = true)
    (k_suitable : PySem.W.keepIn K (.ref f_suitable) = true)
    (a_Web_init : PySem.W.findIn K (.ref c_Web) "__init__" = some (some (.ref f_Web_init)))
    (l_Web_init : K.lookup f_Web_init = some ⟨oc_Web_init, od_Web_init, .func (PySem.W.fnOf "__init__" "Web.__init__" (defArgs S_Web_init) (defBody S_Web_init) (defScope S_Web_init) .none kV_Web_init dc_Web_init pm_Web_init an_Web_init cd_Web_init ct_Web_init), sl_Web_init⟩)
    (c_Web_init : PySem.W.codeIn K cd_Web_init "Web.__init__" = true)
    (k_Web_init : PySem.W.keepIn K (.ref f_Web_init) = true)
    (a_Web_put : PySem.W.findIn K (.ref c_Web) "put" = some (some (.ref f_Web_put)))
    (l_Web_put : K.lookup f_Web_put = some ⟨oc_Web_put, od_Web_put, .func (PySem.W.fnOf "put" "Web.put" (defArgs S_Web_put) (defBody S_Web_put) (defScope S_Web_put) .none kV_Web_put dc_Web_put pm_Web_put an_Web_put cd_Web_put ct_Web_put), sl_Web_put⟩)
    (c_Web_put : PySem.W.codeIn K cd_Web_put "Web.put" = true)
    (k_Web_put : PySem.W.keepIn K (.ref f_Web_put) = true)
    (a_Web_getitem : PySem.W.findIn K (.ref c_Web) "__getitem__" = some (some (.ref f_Web_getitem)))
    (l_Web_getitem : K.lookup f_Web_getitem = some ⟨oc_Web_getitem, od_Web_getitem, .func (PySem.W.fnOf "__getitem__" "Web.__getitem__" (defArgs S_Web_getitem) (defBody S_Web_getitem) (defScope S_Web_getitem) .none kV_Web_getitem dc_Web_getitem pm_Web_getitem an_Web_getitem cd_Web_getitem ct_Web_getitem), sl_Web_getitem⟩)
    (c_Web_getitem : PySem.W.codeIn K cd_Web_getitem "Web.__getitem__" = true)
    (k_Web_getitem : PySem.W.keepIn K (.ref f_Web_getitem) = true)
    (a_Web_contains : PySem.W.findIn K (.ref c_Web) "__contains__" = some (some (.ref f_Web_contains)))
    (l_Web_contains : K.lookup f_Web_contains = some ⟨oc_Web_contains, od_Web_contains, .func (PySem.W.fnOf "__contains__" "Web.__contains__" (defArgs S_Web_contains) (defBody S_Web_contains) (defScope S_Web_contains) .none kV_Web_contains dc_Web_contains pm_Web_contains an_Web_contains cd_Web_contains ct_Web_contains), sl_Web_contains⟩)
    (c_Web_contains : PySem.W.codeIn K cd_Web_contains "Web.__contains__" = true)
    (k_Web_contains : PySem.W.keepIn K (.ref f_Web_contains) = true)
    (a_Web_eq : PySem.W.findIn K (.ref c_Web) "__eq__" = some (some (.ref f_Web_eq)))
    (l_Web_eq : K.lookup f_Web_eq = some ⟨oc_Web_eq, od_Web_eq, .func (PySem.W.fnOf "__eq__" "Web.__eq__" (defArgs S_Web_eq) (defBody S_Web_eq) (defScope S_Web_eq) .none kV_Web_eq dc_Web_eq pm_Web_eq an_Web_eq cd_Web_eq ct_Web_eq), sl_Web_eq⟩)
    (c_Web_eq : PySem.W.codeIn K cd_Web_eq "Web.__eq__" = true)
    (k_Web_eq : PySem.W.keepIn K (.ref f_Web_eq) = true)
    (a_Web_mark_of : PySem.W.findIn K (.ref c_Web) "mark_of" = some (some (.ref f_Web_mark_of)))
    (l_Web_mark_of : K.lookup f_Web_mark_of = some ⟨oc_Web_mark_of, od_Web_mark_of, .func (PySem.W.fnOf "mark_of" "Web.mark_of" (defArgs S_Web_mark_of) (defBody S_Web_mark_of) (defScope S_Web_mark_of) .none kV_Web_mark_of dc_Web_mark_of pm_Web_mark_of an_Web_mark_of cd_Web_mark_of ct_Web_mark_of), sl_Web_mark_of⟩)
    (c_Web_mark_of : PySem.W.codeIn K cd_Web_mark_of "Web.mark_of" = true)
    (k_Web_mark_of : PySem.W.keepIn K (.ref f_Web_mark_of) = true)
    (a__law_draws : PySem.W.nsIn K mainGlobals "_law_draws" = some (some (.ref f__law_draws)))
    (l__law_draws : K.lookup f__law_draws = some ⟨oc__law_draws, od__law_draws, .func (PySem.W.fnOf "_law_draws" "_law_draws" (defArgs S__law_draws) (defBody S__law_draws) (defScope S__law_draws) .none kV__law_draws dc__law_draws pm__law_draws an__law_draws cd__law_draws ct__law_draws), sl__law_draws⟩)
    (c__law_draws : PySem.W.codeIn K cd__law_draws "_law_draws" = true)
    (k__law_draws : PySem.W.keepIn K (.ref f__law_draws) = true)
    (a__law_take : PySem.W.nsIn K mainGlobals "_law_take" = some (some (.ref f__law_take)))
    (l__law_take : K.lookup f__law_take = some ⟨oc__law_take, od__law_take, .func (PySem.W.fnOf "_law_take" "_law_take" (defArgs S__law_take) (defBody S__law_take) (defScope S__law_take) .none kV__law_take dc__law_take pm__law_take an__law_take cd__law_take ct__law_take), sl__law_take⟩)
    (c__law_take : PySem.W.codeIn K cd__law_take "_law_take" = true)
    (k__law_take : PySem.W.keepIn K (.ref f__law_take) = true)
    (a__law_same : PySem.W.nsIn K mainGlobals "_law_same" = some (some (.ref f__law_same)))
    (l__law_same : K.lookup f__law_same = some ⟨oc__law_same, od__law_same, .func (PySem.W.fnOf "_law_same" "_law_same" (defArgs S__law_same) (defBody S__law_same) (defScope S__law_same) .none kV__law_same dc__law_same pm__law_same an__law_same cd__law_same ct__law_same), sl__law_same⟩)
    (c__law_same : PySem.W.codeIn K cd__law_same "_law_same" = true)
    (k__law_same : PySem.W.keepIn K (.ref f__law_same) = true)
    (a__law_marks : PySem.W.nsIn K mainGlobals "_law_marks" = some (some (.ref f__law_marks)))
    (l__law_marks : K.lookup f__law_marks = some ⟨oc__law_marks, od__law_marks, .func (PySem.W.fnOf "_law_marks" "_law_marks" (defArgs S__law_marks) (defBody S__law_marks) (defScope S__law_marks) .none kV__law_marks dc__law_marks pm__law_marks an__law_marks cd__law_marks ct__law_marks), sl__law_marks⟩)
    (c__law_marks : PySem.W.codeIn K cd__law_marks "_law_marks" = true)
    (k__law_marks : PySem.W.keepIn K (.ref f__law_marks) = true)
    (a__law_rows : PySem.W.nsIn K mainGlobals "_law_rows" = some (some (.ref f__law_rows)))
    (l__law_rows : K.lookup f__law_rows = some ⟨oc__law_rows, od__law_rows, .func (PySem.W.fnOf "_law_rows" "_law_rows" (defArgs S__law_rows) (defBody S__law_rows) (defScope S__law_rows) .none kV__law_rows dc__law_rows pm__law_rows an__law_rows cd__law_rows ct__law_rows), sl__law_rows⟩)
    (c__law_rows : PySem.W.codeIn K cd__law_rows "_law_rows" = true)
    (k__law_rows : PySem.W.keepIn K (.ref f__law_rows) = true)
    (a__law_things : PySem.W.nsIn K mainGlobals "_law_things" = some (some (.ref f__law_things)))
    (l__law_things : K.lookup f__law_things = some ⟨oc__law_things, od__law_things, .func (PySem.W.fnOf "_law_things" "_law_things" (defArgs S__law_things) (defBody S__law_things) (defScope S__law_things) .none kV__law_things dc__law_things pm__law_things an__law_things cd__law_things ct__law_things), sl__law_things⟩)
    (c__law_things : PySem.W.codeIn K cd__law_things "_law_things" = true)
    (k__law_things : PySem.W.keepIn K (.ref f__law_things) = true)
    (a__law_shape : PySem.W.nsIn K mainGlobals "_law_shape" = some (some (.ref f__law_shape)))
    (l__law_shape : K.lookup f__law_shape = some ⟨oc__law_shape, od__law_shape, .func (PySem.W.fnOf "_law_shape" "_law_shape" (defArgs S__law_shape) (defBody S__law_shape) (defScope S__law_shape) .none kV__law_shape dc__law_shape pm__law_shape an__law_shape cd__law_shape ct__law_shape), sl__law_shape⟩)
    (c__law_shape : PySem.W.codeIn K cd__law_shape "_law_shape" = true)
    (k__law_shape : PySem.W.keepIn K (.ref f__law_shape) = true)
    (a__law_put : PySem.W.nsIn K mainGlobals "_law_put" = some (some (.ref f__law_put)))
    (l__law_put : K.lookup f__law_put = some ⟨oc__law_put, od__law_put, .func (PySem.W.fnOf "_law_put" "_law_put" (defArgs S__law_put) (defBody S__law_put) (defScope S__law_put) .none kV__law_put dc__law_put pm__law_put an__law_put cd__law_put ct__law_put), sl__law_put⟩)
    (c__law_put : PySem.W.codeIn K cd__law_put "_law_put" = true)
    (k__law_put : PySem.W.keepIn K (.ref f__law_put) = true)
    (a__law_web : PySem.W.nsIn K mainGlobals "_law_web" = some (some (.ref f__law_web)))
    (l__law_web : K.lookup f__law_web = some ⟨oc__law_web, od__law_web, .func (PySem.W.fnOf "_law_web" "_law_web" (defArgs S__law_web) (defBody S__law_web) (defScope S__law_web) .none kV__law_web dc__law_web pm__law_web an__law_web cd__law_web ct__law_web), sl__law_web⟩)
    (c__law_web : PySem.W.codeIn K cd__law_web "_law_web" = true)
    (k__law_web : PySem.W.keepIn K (.ref f__law_web) = true)
    (a__law_mode : PySem.W.nsIn K mainGlobals "_law_mode" = some (some (.ref f__law_mode)))
    (l__law_mode : K.lookup f__law_mode = some ⟨oc__law_mode, od__law_mode, .func (PySem.W.fnOf "_law_mode" "_law_mode" (defArgs S__law_mode) (defBody S__law_mode) (defScope S__law_mode) .none kV__law_mode dc__law_mode pm__law_mode an__law_mode cd__law_mode ct__law_mode), sl__law_mode⟩)
    (c__law_mode : PySem.W.codeIn K cd__law_mode "_law_mode" = true)
    (k__law_mode : PySem.W.keepIn K (.ref f__law_mode) = true)
    (a__law_conflict : PySem.W.nsIn K mainGlobals "_law_conflict" = some (some (.ref f__law_conflict)))
    (l__law_conflict : K.lookup f__law_conflict = some ⟨oc__law_conflict, od__law_conflict, .func (PySem.W.fnOf "_law_conflict" "_law_conflict" (defArgs S__law_conflict) (defBody S__law_conflict) (defScope S__law_conflict) .none kV__law_conflict dc__law_conflict pm__law_conflict an__law_conflict cd__law_conflict ct__law_conflict), sl__law_conflict⟩)
    (c__law_conflict : PySem.W.codeIn K cd__law_conflict "_law_conflict" = true)
    (k__law_conflict : PySem.W.keepIn K (.ref f__law_conflict) = true)
    (a__law_any_steps : PySem.W.nsIn K mainGlobals "_law_any_steps" = some (some (.ref f__law_any_steps)))
    (l__law_any_steps : K.lookup f__law_any_steps = some ⟨oc__law_any_steps, od__law_any_steps, .func (PySem.W.fnOf "_law_any_steps" "_law_any_steps" (defArgs S__law_any_steps) (defBody S__law_any_steps) (defScope S__law_any_steps) .none kV__law_any_steps dc__law_any_steps pm__law_any_steps an__law_any_steps cd__law_any_steps ct__law_any_steps), sl__law_any_steps⟩)
    (c__law_any_steps : PySem.W.codeIn K cd__law_any_steps "_law_any_steps" = true)
    (k__law_any_steps : PySem.W.keepIn K (.ref f__law_any_steps) = true)
    (a__law_bad_last : PySem.W.nsIn K mainGlobals "_law_bad_last" = some (some (.ref f__law_bad_last)))
    (l__law_bad_last : K.lookup f__law_bad_last = some ⟨oc__law_bad_last, od__law_bad_last, .func (PySem.W.fnOf "_law_bad_last" "_law_bad_last" (defArgs S__law_bad_last) (defBody S__law_bad_last) (defScope S__law_bad_last) .none kV__law_bad_last dc__law_bad_last pm__law_bad_last an__law_bad_last cd__law_bad_last ct__law_bad_last), sl__law_bad_last⟩)
    (c__law_bad_last : PySem.W.codeIn K cd__law_bad_last "_law_bad_last" = true)
    (k__law_bad_last : PySem.W.keepIn K (.ref f__law_bad_last) = true)
    (a__law_row_same : PySem.W.nsIn K mainGlobals "_law_row_same" = some (some (.ref f__law_row_same)))
    (l__law_row_same : K.lookup f__law_row_same = some ⟨oc__law_row_same, od__law_row_same, .func (PySem.W.fnOf "_law_row_same" "_law_row_same" (defArgs S__law_row_same) (defBody S__law_row_same) (defScope S__law_row_same) .none kV__law_row_same dc__law_row_same pm__law_row_same an__law_row_same cd__law_row_same ct__law_row_same), sl__law_row_same⟩)
    (c__law_row_same : PySem.W.codeIn K cd__law_row_same "_law_row_same" = true)
    (k__law_row_same : PySem.W.keepIn K (.ref f__law_row_same) = true)
    (a__law_verdict_same : PySem.W.nsIn K mainGlobals "_law_verdict_same" = some (some (.ref f__law_verdict_same)))
    (l__law_verdict_same : K.lookup f__law_verdict_same = some ⟨oc__law_verdict_same, od__law_verdict_same, .func (PySem.W.fnOf "_law_verdict_same" "_law_verdict_same" (defArgs S__law_verdict_same) (defBody S__law_verdict_same) (defScope S__law_verdict_same) .none kV__law_verdict_same dc__law_verdict_same pm__law_verdict_same an__law_verdict_same cd__law_verdict_same ct__law_verdict_same), sl__law_verdict_same⟩)
    (c__law_verdict_same : PySem.W.codeIn K cd__law_verdict_same "_law_verdict_same" = true)
    (k__law_verdict_same : PySem.W.keepIn K (.ref f__law_verdict_same) = true)
    (a_law : PySem.W.nsIn K mainGlobals "law" = some (some (.ref f_law)))
    (l_law : K.lookup f_law = some ⟨oc_law, od_law, .func (PySem.W.fnOf "law" "law" (defArgs S_law) (defBody S_law) (defScope S_law) .none kV_law dc_law pm_law an_law cd_law ct_law), sl_law⟩)
    (c_law : PySem.W.codeIn K cd_law "law" = true)
    (k_law : PySem.W.keepIn K (.ref f_law) = true)
    (z_any : PySem.W.nsIn K mainGlobals "any" = some none)
    (z_bool : PySem.W.nsIn K mainGlobals "bool" = some none)
    (z_enumerate : PySem.W.nsIn K mainGlobals "enumerate" = some none)
    (z_int : PySem.W.nsIn K mainGlobals "int" = some none)
    (z_isinstance : PySem.W.nsIn K mainGlobals "isinstance" = some none)
    (z_iter : PySem.W.nsIn K mainGlobals "iter" = some none)
    (z_len : PySem.W.nsIn K mainGlobals "len" = some none)
    (z_list : PySem.W.nsIn K mainGlobals "list" = some none)
    (z_property : PySem.W.nsIn K mainGlobals "property" = some none)
    (z_range : PySem.W.nsIn K mainGlobals "range" = some none)
    (z_str : PySem.W.nsIn K mainGlobals "str" = some none)
    (z_tuple : PySem.W.nsIn K mainGlobals "tuple" = some none)
    (aq_DEEDS : PySem.W.nsIn K mainGlobals "DEEDS" = some (some (.ref q_DEEDS)))
    (lq_DEEDS : K.lookup q_DEEDS = some ⟨.type "tuple", oq_DEEDS, .seq #[.str "own" t_DEEDS_0, .str "share" t_DEEDS_1, .str "drop" t_DEEDS_2] nq_DEEDS, slq_DEEDS⟩)
    (aq_LETTERS : PySem.W.nsIn K mainGlobals "LETTERS" = some (some (.str "abcdefghijklmnopqrstuvwxyz" tq_LETTERS)))
    (xla : PySem.W.findIn K (.type "list") "__add__" = some (some (.builtin "list.__add__")))
    (xlr : PySem.W.findIn K (.type "list") "__radd__" = some none)
    (xta : PySem.W.findIn K (.type "tuple") "__add__" = some (some (.builtin "tuple.__add__")))
    (xtr : PySem.W.findIn K (.type "tuple") "__radd__" = some none)
    (pg_Program : PySem.W.plainGet K c_Program Str.empty = true)
    (hd_Program : PySem.W.hasDictIn K c_Program = true)
    (po_Program : PySem.W.plainOver K c_Program = true)
    (sa_Program : PySem.W.findIn K (.ref c_Program) "__setattr__" = some (some (.builtin "object.__setattr__")))
    (kc_Program : PySem.W.keepIn K (.ref c_Program) = true)
    (i_Program_init : PySem.W.isFn K (.ref f_Program_init) = true)
    (mk_Program : PySem.W.makesIn K c_Program = true)
    (i_Program_len : PySem.W.isFn K (.ref f_Program_len) = true)
    (i_Program_iter : PySem.W.isFn K (.ref f_Program_iter) = true)
    (i_Program_add : PySem.W.isFn K (.ref f_Program_add) = true)
    (i_Program_mode_of : PySem.W.isFn K (.ref f_Program_mode_of) = true)
    (hca_Program : PySem.W.findIn K (.ref c_Program) "__class__" = some (some (.builtin "object.__class__")))
    (hcn_Program : PySem.W.specialIn K (.builtin "object.__class__") "__get__" = some (some (.builtin "getset_descriptor.__get__")))
    (hct_Program : PySem.W.takesIn K (.builtin "object.__class__") = some true)
    (hcm_Program : PySem.W.mroIn K c_Program (.type "object") = some true)
    (ko_Program_list : PySem.W.kitOne K (.ref c_Program) (.type "list") = some false)
    (ko_Program_tuple : PySem.W.kitOne K (.ref c_Program) (.type "tuple") = some false)
    (sf_Program : PySem.W.selfFirst K c_Program = true)
    (or_Program_add : PySem.W.findIn K (.ref c_Program) "__radd__" = some (some (.ref ra_Program_add)))
    (ola_Program_add : PySem.W.findIn K (.type "list") "__add__" = some fl_Program_add)
    (olr_Program_add : PySem.W.findIn K (.type "list") "__radd__" = some rl_Program_add)
    (ols_Program_add : PySem.W.subIn K (.type "list") (.ref c_Program) = some false)
    (ota_Program_add : PySem.W.findIn K (.type "tuple") "__add__" = some ft_Program_add)
    (otr_Program_add : PySem.W.findIn K (.type "tuple") "__radd__" = some rt_Program_add)
    (ots_Program_add : PySem.W.subIn K (.type "tuple") (.ref c_Program) = some false)
    (no_Program__steps : PySem.W.findIn K (.ref c_Program) "_steps" = some none)
    (pg_Row : PySem.W.plainGet K c_Row Str.empty = true)
    (hd_Row : PySem.W.hasDictIn K c_Row = true)
    (po_Row : PySem.W.plainOver K c_Row = true)
    (sa_Row : PySem.W.findIn K (.ref c_Row) "__setattr__" = some (some (.builtin "object.__setattr__")))
    (kc_Row : PySem.W.keepIn K (.ref c_Row) = true)
    (i_Row_init : PySem.W.isFn K (.ref f_Row_init) = true)
    (mk_Row : PySem.W.makesIn K c_Row = true)
    (no_Row_web : PySem.W.findIn K (.ref c_Row) "web" = some none)
    (no_Row_programs : PySem.W.findIn K (.ref c_Row) "programs" = some none)
    (no_Row_last : PySem.W.findIn K (.ref c_Row) "last" = some none)
    (pg_Verdict : PySem.W.plainGet K c_Verdict Str.empty = true)
    (hd_Verdict : PySem.W.hasDictIn K c_Verdict = true)
    (po_Verdict : PySem.W.plainOver K c_Verdict = true)
    (sa_Verdict : PySem.W.findIn K (.ref c_Verdict) "__setattr__" = some (some (.builtin "object.__setattr__")))
    (kc_Verdict : PySem.W.keepIn K (.ref c_Verdict) = true)
    (i_Verdict_init : PySem.W.isFn K (.ref f_Verdict_init) = true)
    (mk_Verdict : PySem.W.makesIn K c_Verdict = true)
    (i_Verdict_bool : PySem.W.isFn K (.ref f_Verdict_bool) = true)
    (no_Verdict_row : PySem.W.findIn K (.ref c_Verdict) "row" = some none)
    (no_Verdict_ground : PySem.W.findIn K (.ref c_Verdict) "ground" = some none)
    (pg_Shape : PySem.W.plainGet K c_Shape Str.empty = true)
    (hd_Shape : PySem.W.hasDictIn K c_Shape = true)
    (po_Shape : PySem.W.plainOver K c_Shape = true)
    (sa_Shape : PySem.W.findIn K (.ref c_Shape) "__setattr__" = some (some (.builtin "object.__setattr__")))
    (kc_Shape : PySem.W.keepIn K (.ref c_Shape) = true)
    (i_Shape_init : PySem.W.isFn K (.ref f_Shape_init) = true)
    (mk_Shape : PySem.W.makesIn K c_Shape = true)
    (fi_Shape_getitem : PySem.W.fnIn K f_Shape_getitem = true)
    (i_Shape_getitem : PySem.W.isFn K (.ref f_Shape_getitem) = true)
    (i_Shape_eq : PySem.W.isFn K (.ref f_Shape_eq) = true)
    (hca_Shape : PySem.W.findIn K (.ref c_Shape) "__class__" = some (some (.builtin "object.__class__")))
    (hcn_Shape : PySem.W.specialIn K (.builtin "object.__class__") "__get__" = some (some (.builtin "getset_descriptor.__get__")))
    (hct_Shape : PySem.W.takesIn K (.builtin "object.__class__") = some true)
    (hcm_Shape : PySem.W.mroIn K c_Shape (.type "object") = some true)
    (rdc_Shape : PySem.W.readsIn K c_Shape (.type "type") = true)
    (gac_Shape : PySem.W.specialIn K (.ref c_Shape) "__getattribute__" = some (some (.builtin "type.__getattribute__")))
    (fcl_Shape_MARKS : PySem.W.findCls K (.ref c_Shape) (.type "type") "MARKS" = some (.val (.int 6 ti_Shape_MARKS)))
    (fcl_Shape_PARENTS : PySem.W.findCls K (.ref c_Shape) (.type "type") "PARENTS" = some (.val (.int 4 ti_Shape_PARENTS)))
    (no_Shape__listed : PySem.W.findIn K (.ref c_Shape) "_listed" = some none)
    (no_Shape__marks : PySem.W.findIn K (.ref c_Shape) "_marks" = some none)
    (pg_Web : PySem.W.plainGet K c_Web Str.empty = true)
    (hd_Web : PySem.W.hasDictIn K c_Web = true)
    (po_Web : PySem.W.plainOver K c_Web = true)
    (sa_Web : PySem.W.findIn K (.ref c_Web) "__setattr__" = some (some (.builtin "object.__setattr__")))
    (kc_Web : PySem.W.keepIn K (.ref c_Web) = true)
    (i_Web_init : PySem.W.isFn K (.ref f_Web_init) = true)
    (mk_Web : PySem.W.makesIn K c_Web = true)
    (i_Web_put : PySem.W.isFn K (.ref f_Web_put) = true)
    (fi_Web_getitem : PySem.W.fnIn K f_Web_getitem = true)
    (i_Web_getitem : PySem.W.isFn K (.ref f_Web_getitem) = true)
    (i_Web_contains : PySem.W.isFn K (.ref f_Web_contains) = true)
    (i_Web_eq : PySem.W.isFn K (.ref f_Web_eq) = true)
    (i_Web_mark_of : PySem.W.isFn K (.ref f_Web_mark_of) = true)
    (hca_Web : PySem.W.findIn K (.ref c_Web) "__class__" = some (some (.builtin "object.__class__")))
    (hcn_Web : PySem.W.specialIn K (.builtin "object.__class__") "__get__" = some (some (.builtin "getset_descriptor.__get__")))
    (hct_Web : PySem.W.takesIn K (.builtin "object.__class__") = some true)
    (hcm_Web : PySem.W.mroIn K c_Web (.type "object") = some true)
    (rdc_Web : PySem.W.readsIn K c_Web (.type "type") = true)
    (gac_Web : PySem.W.specialIn K (.ref c_Web) "__getattribute__" = some (some (.builtin "type.__getattribute__")))
    (fcl_Web_MOST : PySem.W.findCls K (.ref c_Web) (.type "type") "MOST" = some (.val (.int 1000 ti_Web_MOST)))
    (no_Web_shape : PySem.W.findIn K (.ref c_Web) "shape" = some none)
    (no_Web__rows : PySem.W.findIn K (.ref c_Web) "_rows" = some none)
    (no_Web__numbers : PySem.W.findIn K (.ref c_Web) "_numbers" = some none)
    (gc_BadShape : PySem.W.nsIn K mainGlobals "BadShape" = some (some (.ref c_BadShape)))
    (gc_UnknownMark : PySem.W.nsIn K mainGlobals "UnknownMark" = some (some (.ref c_UnknownMark)))
    (gc_TooLarge : PySem.W.nsIn K mainGlobals "TooLarge" = some (some (.ref c_TooLarge)))
    (gc_BadParents : PySem.W.nsIn K mainGlobals "BadParents" = some (some (.ref c_BadParents)))
    (gc_NoThing : PySem.W.nsIn K mainGlobals "NoThing" = some (some (.ref c_NoThing)))
    (gc_BadStep : PySem.W.nsIn K mainGlobals "BadStep" = some (some (.ref c_BadStep)))
    (gc_WebError : PySem.W.nsIn K mainGlobals "WebError" = some (some (.ref c_WebError)))
    (gc_Refused : PySem.W.nsIn K mainGlobals "Refused" = some (some (.ref c_Refused)))
    (wb_WebError : PySem.W.subIn K (.ref c_WebError) (.type "BaseException") = some true)
    (wd_WebError : PySem.W.hasDictIn K c_WebError = true)
    (wt_WebError : PySem.W.typeIn K (.ref c_WebError) = some (.type "type"))
    (xz_super : PySem.W.nsIn K mainGlobals "super" = some none)
    (x_opq : PySem.W.nsIn K cStatics "thirdparty.any" = some none)
    (x_hn : PySem.W.specialIn K (.builtin "object.__class__") "__get__" = some (some (.builtin "getset_descriptor.__get__")))
    (x_ht : PySem.W.takesIn K (.builtin "object.__class__") = some true)
    (xl_BadShape : K.lookup c_BadShape = some (excClassObj nm_BadShape q_BadShape c_BadShape N_BadShape bs_BadShape [.ref c_WebError, .type "ValueError", .type "Exception", .type "BaseException", .type "object"] true sn_BadShape sub_BadShape ab_BadShape col_BadShape dd_BadShape m0_BadShape m1_BadShape m2_BadShape m3_BadShape m5_BadShape "ValueError.__new__"))
    (xsa_BadShape : PySem.W.findIn K (.ref c_BadShape) "__setattr__" = some (some (.builtin "object.__setattr__")))
    (xga_BadShape : PySem.W.findIn K (.ref c_BadShape) "__getattribute__" = some (some (.builtin "BaseException.__getattribute__")))
    (xgg_BadShape : PySem.W.findIn K (.ref c_BadShape) "__getattr__" = some none)
    (xno_BadShape : PySem.W.findIn K (.ref c_BadShape) "mark" = some none)
    (xk_BadShape : PySem.W.keepIn K (.ref c_BadShape) = true)
    (xb_BadShape : PySem.W.subIn K (.ref c_BadShape) (.type "BaseException") = some true)
    (xt_BadShape : PySem.W.typeIn K (.ref c_BadShape) = some (.type "type"))
    (xd_BadShape : PySem.W.hasDictIn K c_BadShape = true)
    (xi_BadShape : PySem.W.findIn K (.ref c_BadShape) "__init__" = some (some (.ref f_BadShape)))
    (xf_BadShape : PySem.W.typeIn K (.ref f_BadShape) = some (.type "function"))
    (xfl_BadShape : K.lookup f_BadShape = some ⟨oc_BadShape, od_BadShape, .func (PySem.W.ksFn "__init__" "BadShape.__init__" (defArgs S_BadShape_init) (defBody S_BadShape_init) (defScope S_BadShape_init) .none kV_BadShape dc_BadShape pm_BadShape an_BadShape (.ref cda_BadShape) ct_BadShape cc_BadShape), osl_BadShape⟩)
    (xci_BadShape : PySem.W.codeIn K (.ref cda_BadShape) "BadShape.__init__" = true)
    (xcc_BadShape : K.lookup cc_BadShape = some ⟨cl_BadShape, cld_BadShape, .cell (some (.ref c_BadShape)), csl_BadShape⟩)
    (xcd_BadShape : K.lookup cda_BadShape = some ⟨ccl_BadShape, cdd_BadShape, .fields vs_BadShape, ccs_BadShape⟩)
    (xvs_BadShape : vs_BadShape[2]? = some (.str file_BadShape tf_BadShape))
    (xfi_BadShape : ((PP.main.file : Str) == file_BadShape) = true)
    (xnx_BadShape : PySem.W.ks_superIn K c_BadShape c_BadShape "__init__" = some (some (.builtin "ValueError.__init__")))
    (xsl_BadShape : PySem.W.mroIn K c_BadShape (.ref c_BadShape) = some true)
    (xsu_BadShape : PySem.W.subIn K (.ref c_BadShape) (.type "ValueError") = some true)
    (xha_BadShape : PySem.W.findIn K (.ref c_BadShape) "__class__" = some (some (.builtin "object.__class__")))
    (xhm_BadShape : PySem.W.mroIn K c_BadShape (.type "object") = some true)
    (ws_BadShape_WebError : PySem.W.subIn K (.ref c_BadShape) (.ref c_WebError) = some true)
    (kt_BadShape_BadStep : PySem.W.kitOne K (.ref c_BadShape) (.ref c_BadStep) = some false)
    (kt_BadShape_Refused : PySem.W.kitOne K (.ref c_BadShape) (.ref c_Refused) = some false)
    (xl_UnknownMark : K.lookup c_UnknownMark = some (excClassObj nm_UnknownMark q_UnknownMark c_UnknownMark N_UnknownMark bs_UnknownMark [.ref c_WebError, .type "ValueError", .type "Exception", .type "BaseException", .type "object"] true sn_UnknownMark sub_UnknownMark ab_UnknownMark col_UnknownMark dd_UnknownMark m0_UnknownMark m1_UnknownMark m2_UnknownMark m3_UnknownMark m5_UnknownMark "ValueError.__new__"))
    (xsa_UnknownMark : PySem.W.findIn K (.ref c_UnknownMark) "__setattr__" = some (some (.builtin "object.__setattr__")))
    (xga_UnknownMark : PySem.W.findIn K (.ref c_UnknownMark) "__getattribute__" = some (some (.builtin "BaseException.__getattribute__")))
    (xgg_UnknownMark : PySem.W.findIn K (.ref c_UnknownMark) "__getattr__" = some none)
    (xno_UnknownMark : PySem.W.findIn K (.ref c_UnknownMark) "mark" = some none)
    (xk_UnknownMark : PySem.W.keepIn K (.ref c_UnknownMark) = true)
    (xb_UnknownMark : PySem.W.subIn K (.ref c_UnknownMark) (.type "BaseException") = some true)
    (xt_UnknownMark : PySem.W.typeIn K (.ref c_UnknownMark) = some (.type "type"))
    (xd_UnknownMark : PySem.W.hasDictIn K c_UnknownMark = true)
    (xi_UnknownMark : PySem.W.findIn K (.ref c_UnknownMark) "__init__" = some (some (.ref f_UnknownMark)))
    (xf_UnknownMark : PySem.W.typeIn K (.ref f_UnknownMark) = some (.type "function"))
    (xfl_UnknownMark : K.lookup f_UnknownMark = some ⟨oc_UnknownMark, od_UnknownMark, .func (PySem.W.ksFn "__init__" "UnknownMark.__init__" (defArgs S_UnknownMark_init) (defBody S_UnknownMark_init) (defScope S_UnknownMark_init) .none kV_UnknownMark dc_UnknownMark pm_UnknownMark an_UnknownMark (.ref cda_UnknownMark) ct_UnknownMark cc_UnknownMark), osl_UnknownMark⟩)
    (xci_UnknownMark : PySem.W.codeIn K (.ref cda_UnknownMark) "UnknownMark.__init__" = true)
    (xcc_UnknownMark : K.lookup cc_UnknownMark = some ⟨cl_UnknownMark, cld_UnknownMark, .cell (some (.ref c_UnknownMark)), csl_UnknownMark⟩)
    (xcd_UnknownMark : K.lookup cda_UnknownMark = some ⟨ccl_UnknownMark, cdd_UnknownMark, .fields vs_UnknownMark, ccs_UnknownMark⟩)
    (xvs_UnknownMark : vs_UnknownMark[2]? = some (.str file_UnknownMark tf_UnknownMark))
    (xfi_UnknownMark : ((PP.main.file : Str) == file_UnknownMark) = true)
    (xnx_UnknownMark : PySem.W.ks_superIn K c_UnknownMark c_UnknownMark "__init__" = some (some (.builtin "ValueError.__init__")))
    (xsl_UnknownMark : PySem.W.mroIn K c_UnknownMark (.ref c_UnknownMark) = some true)
    (xsu_UnknownMark : PySem.W.subIn K (.ref c_UnknownMark) (.type "ValueError") = some true)
    (xha_UnknownMark : PySem.W.findIn K (.ref c_UnknownMark) "__class__" = some (some (.builtin "object.__class__")))
    (xhm_UnknownMark : PySem.W.mroIn K c_UnknownMark (.type "object") = some true)
    (ws_UnknownMark_WebError : PySem.W.subIn K (.ref c_UnknownMark) (.ref c_WebError) = some true)
    (kt_UnknownMark_BadStep : PySem.W.kitOne K (.ref c_UnknownMark) (.ref c_BadStep) = some false)
    (kt_UnknownMark_Refused : PySem.W.kitOne K (.ref c_UnknownMark) (.ref c_Refused) = some false)
    (xl_TooLarge : K.lookup c_TooLarge = some (excClassObj nm_TooLarge q_TooLarge c_TooLarge N_TooLarge bs_TooLarge [.ref c_WebError, .type "ValueError", .type "Exception", .type "BaseException", .type "object"] true sn_TooLarge sub_TooLarge ab_TooLarge col_TooLarge dd_TooLarge m0_TooLarge m1_TooLarge m2_TooLarge m3_TooLarge m5_TooLarge "ValueError.__new__"))
    (xsa_TooLarge : PySem.W.findIn K (.ref c_TooLarge) "__setattr__" = some (some (.builtin "object.__setattr__")))
    (xga_TooLarge : PySem.W.findIn K (.ref c_TooLarge) "__getattribute__" = some (some (.builtin "BaseException.__getattribute__")))
    (xgg_TooLarge : PySem.W.findIn K (.ref c_TooLarge) "__getattr__" = some none)
    (xno_TooLarge : PySem.W.findIn K (.ref c_TooLarge) "most" = some none)
    (xk_TooLarge : PySem.W.keepIn K (.ref c_TooLarge) = true)
    (xb_TooLarge : PySem.W.subIn K (.ref c_TooLarge) (.type "BaseException") = some true)
    (xt_TooLarge : PySem.W.typeIn K (.ref c_TooLarge) = some (.type "type"))
    (xd_TooLarge : PySem.W.hasDictIn K c_TooLarge = true)
    (xi_TooLarge : PySem.W.findIn K (.ref c_TooLarge) "__init__" = some (some (.ref f_TooLarge)))
    (xf_TooLarge : PySem.W.typeIn K (.ref f_TooLarge) = some (.type "function"))
    (xfl_TooLarge : K.lookup f_TooLarge = some ⟨oc_TooLarge, od_TooLarge, .func (PySem.W.ksFn "__init__" "TooLarge.__init__" (defArgs S_TooLarge_init) (defBody S_TooLarge_init) (defScope S_TooLarge_init) .none kV_TooLarge dc_TooLarge pm_TooLarge an_TooLarge (.ref cda_TooLarge) ct_TooLarge cc_TooLarge), osl_TooLarge⟩)
    (xci_TooLarge : PySem.W.codeIn K (.ref cda_TooLarge) "TooLarge.__init__" = true)
    (xcc_TooLarge : K.lookup cc_TooLarge = some ⟨cl_TooLarge, cld_TooLarge, .cell (some (.ref c_TooLarge)), csl_TooLarge⟩)
    (xcd_TooLarge : K.lookup cda_TooLarge = some ⟨ccl_TooLarge, cdd_TooLarge, .fields vs_TooLarge, ccs_TooLarge⟩)
    (xvs_TooLarge : vs_TooLarge[2]? = some (.str file_TooLarge tf_TooLarge))
    (xfi_TooLarge : ((PP.main.file : Str) == file_TooLarge) = true)
    (xnx_TooLarge : PySem.W.ks_superIn K c_TooLarge c_TooLarge "__init__" = some (some (.builtin "ValueError.__init__")))
    (xsl_TooLarge : PySem.W.mroIn K c_TooLarge (.ref c_TooLarge) = some true)
    (xsu_TooLarge : PySem.W.subIn K (.ref c_TooLarge) (.type "ValueError") = some true)
    (xha_TooLarge : PySem.W.findIn K (.ref c_TooLarge) "__class__" = some (some (.builtin "object.__class__")))
    (xhm_TooLarge : PySem.W.mroIn K c_TooLarge (.type "object") = some true)
    (ws_TooLarge_WebError : PySem.W.subIn K (.ref c_TooLarge) (.ref c_WebError) = some true)
    (kt_TooLarge_BadStep : PySem.W.kitOne K (.ref c_TooLarge) (.ref c_BadStep) = some false)
    (kt_TooLarge_Refused : PySem.W.kitOne K (.ref c_TooLarge) (.ref c_Refused) = some false)
    (xl_BadParents : K.lookup c_BadParents = some (excClassObj nm_BadParents q_BadParents c_BadParents N_BadParents bs_BadParents [.ref c_WebError, .type "ValueError", .type "Exception", .type "BaseException", .type "object"] true sn_BadParents sub_BadParents ab_BadParents col_BadParents dd_BadParents m0_BadParents m1_BadParents m2_BadParents m3_BadParents m5_BadParents "ValueError.__new__"))
    (xsa_BadParents : PySem.W.findIn K (.ref c_BadParents) "__setattr__" = some (some (.builtin "object.__setattr__")))
    (xga_BadParents : PySem.W.findIn K (.ref c_BadParents) "__getattribute__" = some (some (.builtin "BaseException.__getattribute__")))
    (xgg_BadParents : PySem.W.findIn K (.ref c_BadParents) "__getattr__" = some none)
    (xno_BadParents : PySem.W.findIn K (.ref c_BadParents) "mark" = some none)
    (xk_BadParents : PySem.W.keepIn K (.ref c_BadParents) = true)
    (xb_BadParents : PySem.W.subIn K (.ref c_BadParents) (.type "BaseException") = some true)
    (xt_BadParents : PySem.W.typeIn K (.ref c_BadParents) = some (.type "type"))
    (xd_BadParents : PySem.W.hasDictIn K c_BadParents = true)
    (xi_BadParents : PySem.W.findIn K (.ref c_BadParents) "__init__" = some (some (.ref f_BadParents)))
    (xf_BadParents : PySem.W.typeIn K (.ref f_BadParents) = some (.type "function"))
    (xfl_BadParents : K.lookup f_BadParents = some ⟨oc_BadParents, od_BadParents, .func (PySem.W.ksFn "__init__" "BadParents.__init__" (defArgs S_BadParents_init) (defBody S_BadParents_init) (defScope S_BadParents_init) .none kV_BadParents dc_BadParents pm_BadParents an_BadParents (.ref cda_BadParents) ct_BadParents cc_BadParents), osl_BadParents⟩)
    (xci_BadParents : PySem.W.codeIn K (.ref cda_BadParents) "BadParents.__init__" = true)
    (xcc_BadParents : K.lookup cc_BadParents = some ⟨cl_BadParents, cld_BadParents, .cell (some (.ref c_BadParents)), csl_BadParents⟩)
    (xcd_BadParents : K.lookup cda_BadParents = some ⟨ccl_BadParents, cdd_BadParents, .fields vs_BadParents, ccs_BadParents⟩)
    (xvs_BadParents : vs_BadParents[2]? = some (.str file_BadParents tf_BadParents))
    (xfi_BadParents : ((PP.main.file : Str) == file_BadParents) = true)
    (xnx_BadParents : PySem.W.ks_superIn K c_BadParents c_BadParents "__init__" = some (some (.builtin "ValueError.__init__")))
    (xsl_BadParents : PySem.W.mroIn K c_BadParents (.ref c_BadParents) = some true)
    (xsu_BadParents : PySem.W.subIn K (.ref c_BadParents) (.type "ValueError") = some true)
    (xha_BadParents : PySem.W.findIn K (.ref c_BadParents) "__class__" = some (some (.builtin "object.__class__")))
    (xhm_BadParents : PySem.W.mroIn K c_BadParents (.type "object") = some true)
    (ws_BadParents_WebError : PySem.W.subIn K (.ref c_BadParents) (.ref c_WebError) = some true)
    (kt_BadParents_BadStep : PySem.W.kitOne K (.ref c_BadParents) (.ref c_BadStep) = some false)
    (kt_BadParents_Refused : PySem.W.kitOne K (.ref c_BadParents) (.ref c_Refused) = some false)
    (xl_NoThing : K.lookup c_NoThing = some (excClassObj nm_NoThing q_NoThing c_NoThing N_NoThing bs_NoThing [.ref c_WebError, .type "ValueError", .type "Exception", .type "BaseException", .type "object"] true sn_NoThing sub_NoThing ab_NoThing col_NoThing dd_NoThing m0_NoThing m1_NoThing m2_NoThing m3_NoThing m5_NoThing "ValueError.__new__"))
    (xsa_NoThing : PySem.W.findIn K (.ref c_NoThing) "__setattr__" = some (some (.builtin "object.__setattr__")))
    (xga_NoThing : PySem.W.findIn K (.ref c_NoThing) "__getattribute__" = some (some (.builtin "BaseException.__getattribute__")))
    (xgg_NoThing : PySem.W.findIn K (.ref c_NoThing) "__getattr__" = some none)
    (xno_NoThing : PySem.W.findIn K (.ref c_NoThing) "thing" = some none)
    (xk_NoThing : PySem.W.keepIn K (.ref c_NoThing) = true)
    (xb_NoThing : PySem.W.subIn K (.ref c_NoThing) (.type "BaseException") = some true)
    (xt_NoThing : PySem.W.typeIn K (.ref c_NoThing) = some (.type "type"))
    (xd_NoThing : PySem.W.hasDictIn K c_NoThing = true)
    (xi_NoThing : PySem.W.findIn K (.ref c_NoThing) "__init__" = some (some (.ref f_NoThing)))
    (xf_NoThing : PySem.W.typeIn K (.ref f_NoThing) = some (.type "function"))
    (xfl_NoThing : K.lookup f_NoThing = some ⟨oc_NoThing, od_NoThing, .func (PySem.W.ksFn "__init__" "NoThing.__init__" (defArgs S_NoThing_init) (defBody S_NoThing_init) (defScope S_NoThing_init) .none kV_NoThing dc_NoThing pm_NoThing an_NoThing (.ref cda_NoThing) ct_NoThing cc_NoThing), osl_NoThing⟩)
    (xci_NoThing : PySem.W.codeIn K (.ref cda_NoThing) "NoThing.__init__" = true)
    (xcc_NoThing : K.lookup cc_NoThing = some ⟨cl_NoThing, cld_NoThing, .cell (some (.ref c_NoThing)), csl_NoThing⟩)
    (xcd_NoThing : K.lookup cda_NoThing = some ⟨ccl_NoThing, cdd_NoThing, .fields vs_NoThing, ccs_NoThing⟩)
    (xvs_NoThing : vs_NoThing[2]? = some (.str file_NoThing tf_NoThing))
    (xfi_NoThing : ((PP.main.file : Str) == file_NoThing) = true)
    (xnx_NoThing : PySem.W.ks_superIn K c_NoThing c_NoThing "__init__" = some (some (.builtin "ValueError.__init__")))
    (xsl_NoThing : PySem.W.mroIn K c_NoThing (.ref c_NoThing) = some true)
    (xsu_NoThing : PySem.W.subIn K (.ref c_NoThing) (.type "ValueError") = some true)
    (xha_NoThing : PySem.W.findIn K (.ref c_NoThing) "__class__" = some (some (.builtin "object.__class__")))
    (xhm_NoThing : PySem.W.mroIn K c_NoThing (.type "object") = some true)
    (ws_NoThing_WebError : PySem.W.subIn K (.ref c_NoThing) (.ref c_WebError) = some true)
    (kt_NoThing_BadStep : PySem.W.kitOne K (.ref c_NoThing) (.ref c_BadStep) = some false)
    (kt_NoThing_Refused : PySem.W.kitOne K (.ref c_NoThing) (.ref c_Refused) = some false)
    (xl_BadStep : K.lookup c_BadStep = some (excClassObj nm_BadStep q_BadStep c_BadStep N_BadStep bs_BadStep [.ref c_WebError, .type "ValueError", .type "Exception", .type "BaseException", .type "object"] true sn_BadStep sub_BadStep ab_BadStep col_BadStep dd_BadStep m0_BadStep m1_BadStep m2_BadStep m3_BadStep m5_BadStep "ValueError.__new__"))
    (xsa_BadStep : PySem.W.findIn K (.ref c_BadStep) "__setattr__" = some (some (.builtin "object.__setattr__")))
    (xga_BadStep : PySem.W.findIn K (.ref c_BadStep) "__getattribute__" = some (some (.builtin "BaseException.__getattribute__")))
    (xgg_BadStep : PySem.W.findIn K (.ref c_BadStep) "__getattr__" = some none)
    (xno_BadStep : PySem.W.findIn K (.ref c_BadStep) "step" = some none)
    (xk_BadStep : PySem.W.keepIn K (.ref c_BadStep) = true)
    (xb_BadStep : PySem.W.subIn K (.ref c_BadStep) (.type "BaseException") = some true)
    (xt_BadStep : PySem.W.typeIn K (.ref c_BadStep) = some (.type "type"))
    (xd_BadStep : PySem.W.hasDictIn K c_BadStep = true)
    (xi_BadStep : PySem.W.findIn K (.ref c_BadStep) "__init__" = some (some (.ref f_BadStep)))
    (xf_BadStep : PySem.W.typeIn K (.ref f_BadStep) = some (.type "function"))
    (xfl_BadStep : K.lookup f_BadStep = some ⟨oc_BadStep, od_BadStep, .func (PySem.W.ksFn "__init__" "BadStep.__init__" (defArgs S_BadStep_init) (defBody S_BadStep_init) (defScope S_BadStep_init) .none kV_BadStep dc_BadStep pm_BadStep an_BadStep (.ref cda_BadStep) ct_BadStep cc_BadStep), osl_BadStep⟩)
    (xci_BadStep : PySem.W.codeIn K (.ref cda_BadStep) "BadStep.__init__" = true)
    (xcc_BadStep : K.lookup cc_BadStep = some ⟨cl_BadStep, cld_BadStep, .cell (some (.ref c_BadStep)), csl_BadStep⟩)
    (xcd_BadStep : K.lookup cda_BadStep = some ⟨ccl_BadStep, cdd_BadStep, .fields vs_BadStep, ccs_BadStep⟩)
    (xvs_BadStep : vs_BadStep[2]? = some (.str file_BadStep tf_BadStep))
    (xfi_BadStep : ((PP.main.file : Str) == file_BadStep) = true)
    (xnx_BadStep : PySem.W.ks_superIn K c_BadStep c_BadStep "__init__" = some (some (.builtin "ValueError.__init__")))
    (xsl_BadStep : PySem.W.mroIn K c_BadStep (.ref c_BadStep) = some true)
    (xsu_BadStep : PySem.W.subIn K (.ref c_BadStep) (.type "ValueError") = some true)
    (xha_BadStep : PySem.W.findIn K (.ref c_BadStep) "__class__" = some (some (.builtin "object.__class__")))
    (xhm_BadStep : PySem.W.mroIn K c_BadStep (.type "object") = some true)
    (ws_BadStep_WebError : PySem.W.subIn K (.ref c_BadStep) (.ref c_WebError) = some true)
    (kt_BadStep_BadStep : PySem.W.kitOne K (.ref c_BadStep) (.ref c_BadStep) = some true)
    (kt_BadStep_Refused : PySem.W.kitOne K (.ref c_BadStep) (.ref c_Refused) = some false)
    : ∃ fd : FuncData, (∀ (s : Shared) (v : Value), BindsTo s fd ⟨[v], []⟩ [("_law_script", v)]) ∧ ∀ base : Heap, K.In base → base.Ns mainGlobals mg → FnOk PP w K mg base CX0 18 fa fd ["_law_script"] (spLaw K) := by
  have e := hfa.symm.trans (PySem.W.mg_of X G a_law)
  cases e
  have FD_Verdict_init : FunD K "__init__" "Verdict.__init__" (defArgs S_Verdict_init) (defBody S_Verdict_init) (defScope S_Verdict_init) [.non, .non] [] f_Verdict_init (PySem.W.fnOf "__init__" "Verdict.__init__" (defArgs S_Verdict_init) (defBody S_Verdict_init) (defScope S_Verdict_init) (.ref dt_Verdict_init) kV_Verdict_init dc_Verdict_init pm_Verdict_init an_Verdict_init cd_Verdict_init ct_Verdict_init) := ⟨⟨_, _, _, _, _, _, _, _, _, _, rfl, l_Verdict_init, c_Verdict_init, .inr ⟨by simp, dt_Verdict_init, _, [.none, .none], _, rfl, lt_Verdict_init, rfl, (.cons rfl (.cons rfl .nil))⟩, .inl rfl⟩, k_Verdict_init⟩
  have Hkb_Verdict_init_3 : ∃ ds, Vals [] ds ∧ Binds K (PySem.W.fnOf "__init__" "Verdict.__init__" (defArgs S_Verdict_init) (defBody S_Verdict_init) (defScope S_Verdict_init) (.ref dt_Verdict_init) kV_Verdict_init dc_Verdict_init pm_Verdict_init an_Verdict_init cd_Verdict_init ct_Verdict_init) ["self", "row", "ground"] ds := FunD.binds1 (ps := ["self", "row", "ground"]) FD_Verdict_init 3 2 (by simp) (by rfl) (fun T kV doc pm an cdv ct us its l1 l2 => match us, its, l1, l2 with | [_, _, _], [_, _], _, _ => ⟨_, rfl, rfl⟩)
  have Hkb_Verdict_init_1 : ∃ ds, Vals [.non, .non] ds ∧ Binds K (PySem.W.fnOf "__init__" "Verdict.__init__" (defArgs S_Verdict_init) (defBody S_Verdict_init) (defScope S_Verdict_init) (.ref dt_Verdict_init) kV_Verdict_init dc_Verdict_init pm_Verdict_init an_Verdict_init cd_Verdict_init ct_Verdict_init) ["self", "row", "ground"] ds := FunD.binds1 (ps := ["self", "row", "ground"]) FD_Verdict_init 1 0 (by simp) (by rfl) (fun T kV doc pm an cdv ct us its l1 l2 => match us, its, l1, l2 with | [_], [_, _], _, _ => ⟨_, rfl, rfl⟩)
  have Hkb_Verdict_init_2 : ∃ ds, Vals [.non] ds ∧ Binds K (PySem.W.fnOf "__init__" "Verdict.__init__" (defArgs S_Verdict_init) (defBody S_Verdict_init) (defScope S_Verdict_init) (.ref dt_Verdict_init) kV_Verdict_init dc_Verdict_init pm_Verdict_init an_Verdict_init cd_Verdict_init ct_Verdict_init) ["self", "row", "ground"] ds := FunD.binds1 (ps := ["self", "row", "ground"]) FD_Verdict_init 2 1 (by simp) (by rfl) (fun T kV doc pm an cdv ct us its l1 l2 => match us, its, l1, l2 with | [_, _], [_, _], _, _ => ⟨_, rfl, rfl⟩)
  have Hkb_Verdict_init_1_ground : ∃ G, KBn K (PySem.W.fnOf "__init__" "Verdict.__init__" (defArgs S_Verdict_init) (defBody S_Verdict_init) (defScope S_Verdict_init) (.ref dt_Verdict_init) kV_Verdict_init dc_Verdict_init pm_Verdict_init an_Verdict_init cd_Verdict_init ct_Verdict_init) ["self", "row", "ground"] 1 ["ground"] G (fun vs zs => (vs ++ ((([.non, .non] : List V).drop 0).take 1 ++ ((zs.drop 0).take 1)))) := by
    obtain ⟨its, h⟩ := FunD.kbinds1 (ps := ["self", "row", "ground"]) FD_Verdict_init 1 ["ground"] (fun us its ws => (us ++ ((its.drop 0).take 1 ++ ((ws.drop 0).take 1)))) (by simp) (fun r1 r2 r4 => (r1.append (((r2.drop 0).take 1).append (((r4.drop 0).take 1))))) (fun T kV doc pm an cdv ct us its ws l1 l2 l4 => match us, ws, its, l1, l4, l2 with | [_], [_], [_, _], _, _, _ => ⟨_, rfl, rfl⟩)
    exact ⟨_, h⟩
  have Hkb_Verdict_init_1_ground_row : ∃ G, KBn K (PySem.W.fnOf "__init__" "Verdict.__init__" (defArgs S_Verdict_init) (defBody S_Verdict_init) (defScope S_Verdict_init) (.ref dt_Verdict_init) kV_Verdict_init dc_Verdict_init pm_Verdict_init an_Verdict_init cd_Verdict_init ct_Verdict_init) ["self", "row", "ground"] 1 ["ground", "row"] G (fun vs zs => (vs ++ ((zs.drop 1).take 1 ++ ((zs.drop 0).take 1)))) := by
    obtain ⟨its, h⟩ := FunD.kbinds1 (ps := ["self", "row", "ground"]) FD_Verdict_init 1 ["ground", "row"] (fun us its ws => (us ++ ((ws.drop 1).take 1 ++ ((ws.drop 0).take 1)))) (by simp) (fun r1 r2 r4 => (r1.append (((r4.drop 1).take 1).append (((r4.drop 0).take 1))))) (fun T kV doc pm an cdv ct us its ws l1 l2 l4 => match us, ws, its, l1, l4, l2 with | [_], [_, _], [_, _], _, _, _ => ⟨_, rfl, rfl⟩)
    exact ⟨_, h⟩
  have XT_BadShape : PySem.WX.ExcTxt PP K mg "BadShape" "mark" c_BadShape := { gC := PySem.W.mg_of X G gc_BadShape, cls := ⟨nm_BadShape, q_BadShape, N_BadShape, bs_BadShape, _, sn_BadShape, sub_BadShape, ab_BadShape, col_BadShape, dd_BadShape, m0_BadShape, m1_BadShape, m2_BadShape, m3_BadShape, m5_BadShape, xl_BadShape, rfl⟩, sa := xsa_BadShape, ga := xga_BadShape, gg := xgg_BadShape, noN := xno_BadShape, kC := xk_BadShape, exC := xb_BadShape, tyC := xt_BadShape, hdC := xd_BadShape, D := c_BadShape, clsD := ⟨_, _, xl_BadShape, rfl⟩, fI := f_BadShape, qual := "BadShape.__init__", tx := _, S := S_BadShape_init, oc := oc_BadShape, od := od_BadShape, kV := kV_BadShape, doc := dc_BadShape, pm := pm_BadShape, an := an_BadShape, cda := cda_BadShape, ct := ct_BadShape, osl := osl_BadShape, cc := cc_BadShape, cl := cl_BadShape, cld := cld_BadShape, csl := csl_BadShape, ccl := ccl_BadShape, cdd := cdd_BadShape, vs := vs_BadShape, ccs := ccs_BadShape, file := file_BadShape, tf := tf_BadShape, q1 := _, q2 := _, q3 := _, q4 := _, q5 := _, q6 := _, q7 := _, q8 := _, q9 := _, q10 := _, j := _, pl := _, iC := xi_BadShape, tI := xf_BadShape, lI := xfl_BadShape, cI := xci_BadShape, lcc := xcc_BadShape, lcd := xcd_BadShape, hvs := xvs_BadShape, hfile := xfi_BadShape, hpar := ⟨_, rfl, rfl⟩, hbody := rfl, hbind := fun _ _ => rfl, hev := fun _ _ => rfl, hk := rfl, hco := rfl, hgen := rfl, hks := rfl, hkc := rfl, hself := rfl, hfl := rfl, hcell := by decide +kernel, nf := by decide +kernel, top := by decide +kernel, sup := PySem.W.mg_none_of X G xz_super, opq := x_opq, nxt := xnx_BadShape, slf := xsl_BadShape, sub := xsu_BadShape }
  have XT_UnknownMark : PySem.WX.ExcTxt PP K mg "UnknownMark" "mark" c_UnknownMark := { gC := PySem.W.mg_of X G gc_UnknownMark, cls := ⟨nm_UnknownMark, q_UnknownMark, N_UnknownMark, bs_UnknownMark, _, sn_UnknownMark, sub_UnknownMark, ab_UnknownMark, col_UnknownMark, dd_UnknownMark, m0_UnknownMark, m1_UnknownMark, m2_UnknownMark, m3_UnknownMark, m5_UnknownMark, xl_UnknownMark, rfl⟩, sa := xsa_UnknownMark, ga := xga_UnknownMark, gg := xgg_UnknownMark, noN := xno_UnknownMark, kC := xk_UnknownMark, exC := xb_UnknownMark, tyC := xt_UnknownMark, hdC := xd_UnknownMark, D := c_UnknownMark, clsD := ⟨_, _, xl_UnknownMark, rfl⟩, fI := f_UnknownMark, qual := "UnknownMark.__init__", tx := _, S := S_UnknownMark_init, oc := oc_UnknownMark, od := od_UnknownMark, kV := kV_UnknownMark, doc := dc_UnknownMark, pm := pm_UnknownMark, an := an_UnknownMark, cda := cda_UnknownMark, ct := ct_UnknownMark, osl := osl_UnknownMark, cc := cc_UnknownMark, cl := cl_UnknownMark, cld := cld_UnknownMark, csl := csl_UnknownMark, ccl := ccl_UnknownMark, cdd := cdd_UnknownMark, vs := vs_UnknownMark, ccs := ccs_UnknownMark, file := file_UnknownMark, tf := tf_UnknownMark, q1 := _, q2 := _, q3 := _, q4 := _, q5 := _, q6 := _, q7 := _, q8 := _, q9 := _, q10 := _, j := _, pl := _, iC := xi_UnknownMark, tI := xf_UnknownMark, lI := xfl_UnknownMark, cI := xci_UnknownMark, lcc := xcc_UnknownMark, lcd := xcd_UnknownMark, hvs := xvs_UnknownMark, hfile := xfi_UnknownMark, hpar := ⟨_, rfl, rfl⟩, hbody := rfl, hbind := fun _ _ => rfl, hev := fun _ _ => rfl, hk := rfl, hco := rfl, hgen := rfl, hks := rfl, hkc := rfl, hself := rfl, hfl := rfl, hcell := by decide +kernel, nf := by decide +kernel, top := by decide +kernel, sup := PySem.W.mg_none_of X G xz_super, opq := x_opq, nxt := xnx_UnknownMark, slf := xsl_UnknownMark, sub := xsu_UnknownMark }
  have XT_TooLarge : PySem.WX.ExcTxt PP K mg "TooLarge" "most" c_TooLarge := { gC := PySem.W.mg_of X G gc_TooLarge, cls := ⟨nm_TooLarge, q_TooLarge, N_TooLarge, bs_TooLarge, _, sn_TooLarge, sub_TooLarge, ab_TooLarge, col_TooLarge, dd_TooLarge, m0_TooLarge, m1_TooLarge, m2_TooLarge, m3_TooLarge, m5_TooLarge, xl_TooLarge, rfl⟩, sa := xsa_TooLarge, ga := xga_TooLarge, gg := xgg_TooLarge, noN := xno_TooLarge, kC := xk_TooLarge, exC := xb_TooLarge, tyC := xt_TooLarge, hdC := xd_TooLarge, D := c_TooLarge, clsD := ⟨_, _, xl_TooLarge, rfl⟩, fI := f_TooLarge, qual := "TooLarge.__init__", tx := _, S := S_TooLarge_init, oc := oc_TooLarge, od := od_TooLarge, kV := kV_TooLarge, doc := dc_TooLarge, pm := pm_TooLarge, an := an_TooLarge, cda := cda_TooLarge, ct := ct_TooLarge, osl := osl_TooLarge, cc := cc_TooLarge, cl := cl_TooLarge, cld := cld_TooLarge, csl := csl_TooLarge, ccl := ccl_TooLarge, cdd := cdd_TooLarge, vs := vs_TooLarge, ccs := ccs_TooLarge, file := file_TooLarge, tf := tf_TooLarge, q1 := _, q2 := _, q3 := _, q4 := _, q5 := _, q6 := _, q7 := _, q8 := _, q9 := _, q10 := _, j := _, pl := _, iC := xi_TooLarge, tI := xf_TooLarge, lI := xfl_TooLarge, cI := xci_TooLarge, lcc := xcc_TooLarge, lcd := xcd_TooLarge, hvs := xvs_TooLarge, hfile := xfi_TooLarge, hpar := ⟨_, rfl, rfl⟩, hbody := rfl, hbind := fun _ _ => rfl, hev := fun _ _ => rfl, hk := rfl, hco := rfl, hgen := rfl, hks := rfl, hkc := rfl, hself := rfl, hfl := rfl, hcell := by decide +kernel, nf := by decide +kernel, top := by decide +kernel, sup := PySem.W.mg_none_of X G xz_super, opq := x_opq, nxt := xnx_TooLarge, slf := xsl_TooLarge, sub := xsu_TooLarge }
  have XT_BadParents : PySem.WX.ExcTxt PP K mg "BadParents" "mark" c_BadParents := { gC := PySem.W.mg_of X G gc_BadParents, cls := ⟨nm_BadParents, q_BadParents, N_BadParents, bs_BadParents, _, sn_BadParents, sub_BadParents, ab_BadParents, col_BadParents, dd_BadParents, m0_BadParents, m1_BadParents, m2_BadParents, m3_BadParents, m5_BadParents, xl_BadParents, rfl⟩, sa := xsa_BadParents, ga := xga_BadParents, gg := xgg_BadParents, noN := xno_BadParents, kC := xk_BadParents, exC := xb_BadParents, tyC := xt_BadParents, hdC := xd_BadParents, D := c_BadParents, clsD := ⟨_, _, xl_BadParents, rfl⟩, fI := f_BadParents, qual := "BadParents.__init__", tx := _, S := S_BadParents_init, oc := oc_BadParents, od := od_BadParents, kV := kV_BadParents, doc := dc_BadParents, pm := pm_BadParents, an := an_BadParents, cda := cda_BadParents, ct := ct_BadParents, osl := osl_BadParents, cc := cc_BadParents, cl := cl_BadParents, cld := cld_BadParents, csl := csl_BadParents, ccl := ccl_BadParents, cdd := cdd_BadParents, vs := vs_BadParents, ccs := ccs_BadParents, file := file_BadParents, tf := tf_BadParents, q1 := _, q2 := _, q3 := _, q4 := _, q5 := _, q6 := _, q7 := _, q8 := _, q9 := _, q10 := _, j := _, pl := _, iC := xi_BadParents, tI := xf_BadParents, lI := xfl_BadParents, cI := xci_BadParents, lcc := xcc_BadParents, lcd := xcd_BadParents, hvs := xvs_BadParents, hfile := xfi_BadParents, hpar := ⟨_, rfl, rfl⟩, hbody := rfl, hbind := fun _ _ => rfl, hev := fun _ _ => rfl, hk := rfl, hco := rfl, hgen := rfl, hks := rfl, hkc := rfl, hself := rfl, hfl := rfl, hcell := by decide +kernel, nf := by decide +kernel, top := by decide +kernel, sup := PySem.W.mg_none_of X G xz_super, opq := x_opq, nxt := xnx_BadParents, slf := xsl_BadParents, sub := xsu_BadParents }
  have XT_NoThing : PySem.WX.ExcTxt PP K mg "NoThing" "thing" c_NoThing := { gC := PySem.W.mg_of X G gc_NoThing, cls := ⟨nm_NoThing, q_NoThing, N_NoThing, bs_NoThing, _, sn_NoThing, sub_NoThing, ab_NoThing, col_NoThing, dd_NoThing, m0_NoThing, m1_NoThing, m2_NoThing, m3_NoThing, m5_NoThing, xl_NoThing, rfl⟩, sa := xsa_NoThing, ga := xga_NoThing, gg := xgg_NoThing, noN := xno_NoThing, kC := xk_NoThing, exC := xb_NoThing, tyC := xt_NoThing, hdC := xd_NoThing, D := c_NoThing, clsD := ⟨_, _, xl_NoThing, rfl⟩, fI := f_NoThing, qual := "NoThing.__init__", tx := _, S := S_NoThing_init, oc := oc_NoThing, od := od_NoThing, kV := kV_NoThing, doc := dc_NoThing, pm := pm_NoThing, an := an_NoThing, cda := cda_NoThing, ct := ct_NoThing, osl := osl_NoThing, cc := cc_NoThing, cl := cl_NoThing, cld := cld_NoThing, csl := csl_NoThing, ccl := ccl_NoThing, cdd := cdd_NoThing, vs := vs_NoThing, ccs := ccs_NoThing, file := file_NoThing, tf := tf_NoThing, q1 := _, q2 := _, q3 := _, q4 := _, q5 := _, q6 := _, q7 := _, q8 := _, q9 := _, q10 := _, j := _, pl := _, iC := xi_NoThing, tI := xf_NoThing, lI := xfl_NoThing, cI := xci_NoThing, lcc := xcc_NoThing, lcd := xcd_NoThing, hvs := xvs_NoThing, hfile := xfi_NoThing, hpar := ⟨_, rfl, rfl⟩, hbody := rfl, hbind := fun _ _ => rfl, hev := fun _ _ => rfl, hk := rfl, hco := rfl, hgen := rfl, hks := rfl, hkc := rfl, hself := rfl, hfl := rfl, hcell := by decide +kernel, nf := by decide +kernel, top := by decide +kernel, sup := PySem.W.mg_none_of X G xz_super, opq := x_opq, nxt := xnx_NoThing, slf := xsl_NoThing, sub := xsu_NoThing }
  have XT_BadStep : PySem.WX.ExcTxt PP K mg "BadStep" "step" c_BadStep := { gC := PySem.W.mg_of X G gc_BadStep, cls := ⟨nm_BadStep, q_BadStep, N_BadStep, bs_BadStep, _, sn_BadStep, sub_BadStep, ab_BadStep, col_BadStep, dd_BadStep, m0_BadStep, m1_BadStep, m2_BadStep, m3_BadStep, m5_BadStep, xl_BadStep, rfl⟩, sa := xsa_BadStep, ga := xga_BadStep, gg := xgg_BadStep, noN := xno_BadStep, kC := xk_BadStep, exC := xb_BadStep, tyC := xt_BadStep, hdC := xd_BadStep, D := c_BadStep, clsD := ⟨_, _, xl_BadStep, rfl⟩, fI := f_BadStep, qual := "BadStep.__init__", tx := _, S := S_BadStep_init, oc := oc_BadStep, od := od_BadStep, kV := kV_BadStep, doc := dc_BadStep, pm := pm_BadStep, an := an_BadStep, cda := cda_BadStep, ct := ct_BadStep, osl := osl_BadStep, cc := cc_BadStep, cl := cl_BadStep, cld := cld_BadStep, csl := csl_BadStep, ccl := ccl_BadStep, cdd := cdd_BadStep, vs := vs_BadStep, ccs := ccs_BadStep, file := file_BadStep, tf := tf_BadStep, q1 := _, q2 := _, q3 := _, q4 := _, q5 := _, q6 := _, q7 := _, q8 := _, q9 := _, q10 := _, j := _, pl := _, iC := xi_BadStep, tI := xf_BadStep, lI := xfl_BadStep, cI := xci_BadStep, lcc := xcc_BadStep, lcd := xcd_BadStep, hvs := xvs_BadStep, hfile := xfi_BadStep, hpar := ⟨_, rfl, rfl⟩, hbody := rfl, hbind := fun _ _ => rfl, hev := fun _ _ => rfl, hk := rfl, hco := rfl, hgen := rfl, hks := rfl, hkc := rfl, hself := rfl, hfl := rfl, hcell := by decide +kernel, nf := by decide +kernel, top := by decide +kernel, sup := PySem.W.mg_none_of X G xz_super, opq := x_opq, nxt := xnx_BadStep, slf := xsl_BadStep, sub := xsu_BadStep }
  let T : Txt K mg := {
    a_sound_step := f_sound_step,
    fd_sound_step := _,
    F_sound_step := fun_mk (st := S_sound_step) l_sound_step c_sound_step k_sound_step,
    b_sound_step := (fun_mk (st := S_sound_step) l_sound_step c_sound_step k_sound_step).binds (ps := ["step"]) fun _ _ _ _ _ _ us hl => match us, hl with | [_], _ => rfl,
    g_sound_step := PySem.W.mg_of X G a_sound_step,
    a_Program_init := f_Program_init,
    fd_Program_init := _,
    F_Program_init := fun_mk (st := S_Program_init) l_Program_init c_Program_init k_Program_init,
    bs_Program_init := StX.bind_star1 (B := fun us => bindArgs (PySem.W.fnOf "__init__" "Program.__init__" (defArgs S_Program_init) (defBody S_Program_init) (defScope S_Program_init) .none kV_Program_init dc_Program_init pm_Program_init an_Program_init cd_Program_init ct_Program_init) ⟨us, []⟩) (fun a => rfl) (fun a r rs => rfl),
    a_Program_len := f_Program_len,
    fd_Program_len := _,
    F_Program_len := fun_mk (st := S_Program_len) l_Program_len c_Program_len k_Program_len,
    b_Program_len := (fun_mk (st := S_Program_len) l_Program_len c_Program_len k_Program_len).binds (ps := ["self"]) fun _ _ _ _ _ _ us hl => match us, hl with | [_], _ => rfl,
    a_Program_iter := f_Program_iter,
    fd_Program_iter := _,
    F_Program_iter := fun_mk (st := S_Program_iter) l_Program_iter c_Program_iter k_Program_iter,
    b_Program_iter := (fun_mk (st := S_Program_iter) l_Program_iter c_Program_iter k_Program_iter).binds (ps := ["self"]) fun _ _ _ _ _ _ us hl => match us, hl with | [_], _ => rfl,
    a_Program_add := f_Program_add,
    fd_Program_add := _,
    F_Program_add := fun_mk (st := S_Program_add) l_Program_add c_Program_add k_Program_add,
    b_Program_add := (fun_mk (st := S_Program_add) l_Program_add c_Program_add k_Program_add).binds (ps := ["self", "other"]) fun _ _ _ _ _ _ us hl => match us, hl with | [_, _], _ => rfl,
    a_Program_things := f_Program_things,
    fd_Program_things := _,
    F_Program_things := fun_mk (st := S_Program_things) l_Program_things c_Program_things k_Program_things,
    b_Program_things := (fun_mk (st := S_Program_things) l_Program_things c_Program_things k_Program_things).binds (ps := ["self"]) fun _ _ _ _ _ _ us hl => match us, hl with | [_], _ => rfl,
    a_Program_mode_of := f_Program_mode_of,
    fd_Program_mode_of := _,
    F_Program_mode_of := fun_mk (st := S_Program_mode_of) l_Program_mode_of c_Program_mode_of k_Program_mode_of,
    b_Program_mode_of := (fun_mk (st := S_Program_mode_of) l_Program_mode_of c_Program_mode_of k_Program_mode_of).binds (ps := ["self", "thing"]) fun _ _ _ _ _ _ us hl => match us, hl with | [_, _], _ => rfl,
    a_conflict := f_conflict,
    fd_conflict := _,
    F_conflict := fun_mk (st := S_conflict) l_conflict c_conflict k_conflict,
    b_conflict := (fun_mk (st := S_conflict) l_conflict c_conflict k_conflict).binds (ps := ["program", "other"]) fun _ _ _ _ _ _ us hl => match us, hl with | [_, _], _ => rfl,
    g_conflict := PySem.W.mg_of X G a_conflict,
    a_Row_init := f_Row_init,
    fd_Row_init := _,
    F_Row_init := fun_mk (st := S_Row_init) l_Row_init c_Row_init k_Row_init,
    b_Row_init := (fun_mk (st := S_Row_init) l_Row_init c_Row_init k_Row_init).binds (ps := ["self", "web", "programs", "last"]) fun _ _ _ _ _ _ us hl => match us, hl with | [_, _, _, _], _ => rfl,
    a_Verdict_init := f_Verdict_init,
    fd_Verdict_init := _,
    F_Verdict_init := FD_Verdict_init,
    a_Verdict_safe := f_Verdict_safe,
    fd_Verdict_safe := _,
    F_Verdict_safe := fun_mk (st := S_Verdict_safe) l_Verdict_safe c_Verdict_safe k_Verdict_safe,
    b_Verdict_safe := (fun_mk (st := S_Verdict_safe) l_Verdict_safe c_Verdict_safe k_Verdict_safe).binds (ps := ["self"]) fun _ _ _ _ _ _ us hl => match us, hl with | [_], _ => rfl,
    a_Verdict_bool := f_Verdict_bool,
    fd_Verdict_bool := _,
    F_Verdict_bool := fun_mk (st := S_Verdict_bool) l_Verdict_bool c_Verdict_bool k_Verdict_bool,
    b_Verdict_bool := (fun_mk (st := S_Verdict_bool) l_Verdict_bool c_Verdict_bool k_Verdict_bool).binds (ps := ["self"]) fun _ _ _ _ _ _ us hl => match us, hl with | [_], _ => rfl,
    a_is_mark := f_is_mark,
    fd_is_mark := _,
    F_is_mark := fun_mk (st := S_is_mark) l_is_mark c_is_mark k_is_mark,
    b_is_mark := (fun_mk (st := S_is_mark) l_is_mark c_is_mark k_is_mark).binds (ps := ["text"]) fun _ _ _ _ _ _ us hl => match us, hl with | [_], _ => rfl,
    g_is_mark := PySem.W.mg_of X G a_is_mark,
    a_sound_row := f_sound_row,
    fd_sound_row := _,
    F_sound_row := fun_mk (st := S_sound_row) l_sound_row c_sound_row k_sound_row,
    b_sound_row := (fun_mk (st := S_sound_row) l_sound_row c_sound_row k_sound_row).binds (ps := ["row", "before"]) fun _ _ _ _ _ _ us hl => match us, hl with | [_, _], _ => rfl,
    g_sound_row := PySem.W.mg_of X G a_sound_row,
    a_barren := f_barren,
    fd_barren := _,
    F_barren := fun_mk (st := S_barren) l_barren c_barren k_barren,
    b_barren := (fun_mk (st := S_barren) l_barren c_barren k_barren).binds (ps := ["rows"]) fun _ _ _ _ _ _ us hl => match us, hl with | [_], _ => rfl,
    g_barren := PySem.W.mg_of X G a_barren,
    a_Shape_init := f_Shape_init,
    fd_Shape_init := _,
    F_Shape_init := fun_mk (st := S_Shape_init) l_Shape_init c_Shape_init k_Shape_init,
    bs_Shape_init := StX.bind_star1 (B := fun us => bindArgs (PySem.W.fnOf "__init__" "Shape.__init__" (defArgs S_Shape_init) (defBody S_Shape_init) (defScope S_Shape_init) .none kV_Shape_init dc_Shape_init pm_Shape_init an_Shape_init cd_Shape_init ct_Shape_init) ⟨us, []⟩) (fun a => rfl) (fun a r rs => rfl),
    a_Shape_getitem := f_Shape_getitem,
    fd_Shape_getitem := _,
    F_Shape_getitem := fun_mk (st := S_Shape_getitem) l_Shape_getitem c_Shape_getitem k_Shape_getitem,
    b_Shape_getitem := (fun_mk (st := S_Shape_getitem) l_Shape_getitem c_Shape_getitem k_Shape_getitem).binds (ps := ["self", "mark"]) fun _ _ _ _ _ _ us hl => match us, hl with | [_, _], _ => rfl,
    a_Shape_eq := f_Shape_eq,
    fd_Shape_eq := _,
    F_Shape_eq := fun_mk (st := S_Shape_eq) l_Shape_eq c_Shape_eq k_Shape_eq,
    b_Shape_eq := (fun_mk (st := S_Shape_eq) l_Shape_eq c_Shape_eq k_Shape_eq).binds (ps := ["self", "other"]) fun _ _ _ _ _ _ us hl => match us, hl with | [_, _], _ => rfl,
    a_suitable := f_suitable,
    fd_suitable := _,
    F_suitable := fun_mk (st := S_suitable) l_suitable c_suitable k_suitable,
    b_suitable := (fun_mk (st := S_suitable) l_suitable c_suitable k_suitable).binds (ps := ["web", "row", "parents"]) fun _ _ _ _ _ _ us hl => match us, hl with | [_, _, _], _ => rfl,
    g_suitable := PySem.W.mg_of X G a_suitable,
    a_Web_init := f_Web_init,
    fd_Web_init := _,
    F_Web_init := fun_mk (st := S_Web_init) l_Web_init c_Web_init k_Web_init,
    b_Web_init := (fun_mk (st := S_Web_init) l_Web_init c_Web_init k_Web_init).binds (ps := ["self", "shape"]) fun _ _ _ _ _ _ us hl => match us, hl with | [_, _], _ => rfl,
    a_Web_put := f_Web_put,
    fd_Web_put := _,
    F_Web_put := fun_mk (st := S_Web_put) l_Web_put c_Web_put k_Web_put,
    bs_Web_put := StX.bind_star2 (B := fun us => bindArgs (PySem.W.fnOf "put" "Web.put" (defArgs S_Web_put) (defBody S_Web_put) (defScope S_Web_put) .none kV_Web_put dc_Web_put pm_Web_put an_Web_put cd_Web_put ct_Web_put) ⟨us, []⟩) (fun a b => rfl) (fun a b r rs => rfl),
    a_Web_getitem := f_Web_getitem,
    fd_Web_getitem := _,
    F_Web_getitem := fun_mk (st := S_Web_getitem) l_Web_getitem c_Web_getitem k_Web_getitem,
    b_Web_getitem := (fun_mk (st := S_Web_getitem) l_Web_getitem c_Web_getitem k_Web_getitem).binds (ps := ["self", "thing"]) fun _ _ _ _ _ _ us hl => match us, hl with | [_, _], _ => rfl,
    a_Web_contains := f_Web_contains,
    fd_Web_contains := _,
    F_Web_contains := fun_mk (st := S_Web_contains) l_Web_contains c_Web_contains k_Web_contains,
    b_Web_contains := (fun_mk (st := S_Web_contains) l_Web_contains c_Web_contains k_Web_contains).binds (ps := ["self", "thing"]) fun _ _ _ _ _ _ us hl => match us, hl with | [_, _], _ => rfl,
    a_Web_eq := f_Web_eq,
    fd_Web_eq := _,
    F_Web_eq := fun_mk (st := S_Web_eq) l_Web_eq c_Web_eq k_Web_eq,
    b_Web_eq := (fun_mk (st := S_Web_eq) l_Web_eq c_Web_eq k_Web_eq).binds (ps := ["self", "other"]) fun _ _ _ _ _ _ us hl => match us, hl with | [_, _], _ => rfl,
    a_Web_mark_of := f_Web_mark_of,
    fd_Web_mark_of := _,
    F_Web_mark_of := fun_mk (st := S_Web_mark_of) l_Web_mark_of c_Web_mark_of k_Web_mark_of,
    b_Web_mark_of := (fun_mk (st := S_Web_mark_of) l_Web_mark_of c_Web_mark_of k_Web_mark_of).binds (ps := ["self", "thing"]) fun _ _ _ _ _ _ us hl => match us, hl with | [_, _], _ => rfl,
    a__law_draws := f__law_draws,
    fd__law_draws := _,
    F__law_draws := fun_mk (st := S__law_draws) l__law_draws c__law_draws k__law_draws,
    b__law_draws := (fun_mk (st := S__law_draws) l__law_draws c__law_draws k__law_draws).binds (ps := ["_law_script"]) fun _ _ _ _ _ _ us hl => match us, hl with | [_], _ => rfl,
    g__law_draws := PySem.W.mg_of X G a__law_draws,
    a__law_take := f__law_take,
    fd__law_take := _,
    F__law_take := fun_mk (st := S__law_take) l__law_take c__law_take k__law_take,
    b__law_take := (fun_mk (st := S__law_take) l__law_take c__law_take k__law_take).binds (ps := ["_law_draws_here", "_law_at", "_law_size"]) fun _ _ _ _ _ _ us hl => match us, hl with | [_, _, _], _ => rfl,
    g__law_take := PySem.W.mg_of X G a__law_take,
    a__law_same := f__law_same,
    fd__law_same := _,
    F__law_same := fun_mk (st := S__law_same) l__law_same c__law_same k__law_same,
    b__law_same := (fun_mk (st := S__law_same) l__law_same c__law_same k__law_same).binds (ps := ["_law_actual", "_law_expected"]) fun _ _ _ _ _ _ us hl => match us, hl with | [_, _], _ => rfl,
    g__law_same := PySem.W.mg_of X G a__law_same,
    a__law_marks := f__law_marks,
    fd__law_marks := _,
    F__law_marks := fun_mk (st := S__law_marks) l__law_marks c__law_marks k__law_marks,
    b__law_marks := (fun_mk (st := S__law_marks) l__law_marks c__law_marks k__law_marks).binds (ps := ["_law_draws_here", "_law_at", "_law_count"]) fun _ _ _ _ _ _ us hl => match us, hl with | [_, _, _], _ => rfl,
    g__law_marks := PySem.W.mg_of X G a__law_marks,
    a__law_rows := f__law_rows,
    fd__law_rows := _,
    F__law_rows := fun_mk (st := S__law_rows) l__law_rows c__law_rows k__law_rows,
    b__law_rows := (fun_mk (st := S__law_rows) l__law_rows c__law_rows k__law_rows).binds (ps := ["_law_draws_here", "_law_at", "_law_exclusive"]) fun _ _ _ _ _ _ us hl => match us, hl with | [_, _, _], _ => rfl,
    g__law_rows := PySem.W.mg_of X G a__law_rows,
    a__law_things := f__law_things,
    fd__law_things := _,
    F__law_things := fun_mk (st := S__law_things) l__law_things c__law_things k__law_things,
    b__law_things := (fun_mk (st := S__law_things) l__law_things c__law_things k__law_things).binds (ps := ["_law_draws_here", "_law_at", "_law_rows_here", "_law_count"]) fun _ _ _ _ _ _ us hl => match us, hl with | [_, _, _, _], _ => rfl,
    g__law_things := PySem.W.mg_of X G a__law_things,
    a__law_shape := f__law_shape,
    fd__law_shape := _,
    F__law_shape := fun_mk (st := S__law_shape) l__law_shape c__law_shape k__law_shape,
    b__law_shape := (fun_mk (st := S__law_shape) l__law_shape c__law_shape k__law_shape).binds (ps := ["_law_rows_here"]) fun _ _ _ _ _ _ us hl => match us, hl with | [_], _ => rfl,
    g__law_shape := PySem.W.mg_of X G a__law_shape,
    a__law_put := f__law_put,
    fd__law_put := _,
    F__law_put := fun_mk (st := S__law_put) l__law_put c__law_put k__law_put,
    b__law_put := (fun_mk (st := S__law_put) l__law_put c__law_put k__law_put).binds (ps := ["_law_web_here", "_law_mark", "_law_parents"]) fun _ _ _ _ _ _ us hl => match us, hl with | [_, _, _], _ => rfl,
    g__law_put := PySem.W.mg_of X G a__law_put,
    a__law_web := f__law_web,
    fd__law_web := _,
    F__law_web := fun_mk (st := S__law_web) l__law_web c__law_web k__law_web,
    b__law_web := (fun_mk (st := S__law_web) l__law_web c__law_web k__law_web).binds (ps := ["_law_shape_here", "_law_things_here"]) fun _ _ _ _ _ _ us hl => match us, hl with | [_, _], _ => rfl,
    g__law_web := PySem.W.mg_of X G a__law_web,
    a__law_mode := f__law_mode,
    fd__law_mode := _,
    F__law_mode := fun_mk (st := S__law_mode) l__law_mode c__law_mode k__law_mode,
    b__law_mode := (fun_mk (st := S__law_mode) l__law_mode c__law_mode k__law_mode).binds (ps := ["_law_steps", "_law_thing"]) fun _ _ _ _ _ _ us hl => match us, hl with | [_, _], _ => rfl,
    g__law_mode := PySem.W.mg_of X G a__law_mode,
    a__law_conflict := f__law_conflict,
    fd__law_conflict := _,
    F__law_conflict := fun_mk (st := S__law_conflict) l__law_conflict c__law_conflict k__law_conflict,
    b__law_conflict := (fun_mk (st := S__law_conflict) l__law_conflict c__law_conflict k__law_conflict).binds (ps := ["_law_steps", "_law_others"]) fun _ _ _ _ _ _ us hl => match us, hl with | [_, _], _ => rfl,
    g__law_conflict := PySem.W.mg_of X G a__law_conflict,
    a__law_any_steps := f__law_any_steps,
    fd__law_any_steps := _,
    F__law_any_steps := fun_mk (st := S__law_any_steps) l__law_any_steps c__law_any_steps k__law_any_steps,
    b__law_any_steps := (fun_mk (st := S__law_any_steps) l__law_any_steps c__law_any_steps k__law_any_steps).binds (ps := ["_law_draws_here", "_law_at"]) fun _ _ _ _ _ _ us hl => match us, hl with | [_, _], _ => rfl,
    g__law_any_steps := PySem.W.mg_of X G a__law_any_steps,
    a__law_bad_last := f__law_bad_last,
    fd__law_bad_last := _,
    F__law_bad_last := fun_mk (st := S__law_bad_last) l__law_bad_last c__law_bad_last k__law_bad_last,
    b__law_bad_last := (fun_mk (st := S__law_bad_last) l__law_bad_last c__law_bad_last k__law_bad_last).binds (ps := ["_law_web_here", "_law_programs", "_law_last"]) fun _ _ _ _ _ _ us hl => match us, hl with | [_, _, _], _ => rfl,
    g__law_bad_last := PySem.W.mg_of X G a__law_bad_last,
    a__law_row_same := f__law_row_same,
    fd__law_row_same := _,
    F__law_row_same := fun_mk (st := S__law_row_same) l__law_row_same c__law_row_same k__law_row_same,
    b__law_row_same := (fun_mk (st := S__law_row_same) l__law_row_same c__law_row_same k__law_row_same).binds (ps := ["_law_row", "_law_web_here", "_law_lists", "_law_last"]) fun _ _ _ _ _ _ us hl => match us, hl with | [_, _, _, _], _ => rfl,
    g__law_row_same := PySem.W.mg_of X G a__law_row_same,
    a__law_verdict_same := f__law_verdict_same,
    fd__law_verdict_same := _,
    F__law_verdict_same := fun_mk (st := S__law_verdict_same) l__law_verdict_same c__law_verdict_same k__law_verdict_same,
    b__law_verdict_same := (fun_mk (st := S__law_verdict_same) l__law_verdict_same c__law_verdict_same k__law_verdict_same).binds (ps := ["_law_verdict", "_law_safe", "_law_ground"]) fun _ _ _ _ _ _ us hl => match us, hl with | [_, _, _], _ => rfl,
    g__law_verdict_same := PySem.W.mg_of X G a__law_verdict_same,
    a_law := fa,
    fd_law := _,
    F_law := fun_mk (st := S_law) l_law c_law k_law,
    b_law := (fun_mk (st := S_law) l_law c_law k_law).binds (ps := ["_law_script"]) fun _ _ _ _ _ _ us hl => match us, hl with | [_], _ => rfl,
    g_law := PySem.W.mg_of X G a_law,
    n_any := PySem.W.mg_none_of X G z_any,
    n_bool := PySem.W.mg_none_of X G z_bool,
    n_enumerate := PySem.W.mg_none_of X G z_enumerate,
    n_int := PySem.W.mg_none_of X G z_int,
    n_isinstance := PySem.W.mg_none_of X G z_isinstance,
    n_iter := PySem.W.mg_none_of X G z_iter,
    n_len := PySem.W.mg_none_of X G z_len,
    n_list := PySem.W.mg_none_of X G z_list,
    n_property := PySem.W.mg_none_of X G z_property,
    n_range := PySem.W.mg_none_of X G z_range,
    n_str := PySem.W.mg_none_of X G z_str,
    n_tuple := PySem.W.mg_none_of X G z_tuple,
    k_DEEDS := q_DEEDS,
    g_DEEDS := PySem.W.mg_of X G aq_DEEDS,
    q_DEEDS := fun H => .inr ⟨_, _, _, lq_DEEDS, rfl, rfl, by show 3 ≤ sizeLine; decide, (.cons ⟨_, rfl⟩ (.cons ⟨_, rfl⟩ (.cons ⟨_, rfl⟩ .nil)))⟩,
    tk_LETTERS := tq_LETTERS,
    g_LETTERS := PySem.W.mg_of X G aq_LETTERS,
    sq_add := ⟨xla, xlr, xta, xtr⟩,
    c_Program := c_Program,
    g_Program := PySem.W.mg_of X G gc_Program,
    cl_Program := ⟨pg_Program, hd_Program, po_Program, sa_Program⟩,
    mk_Program := ⟨mk_Program, a_Program_init, i_Program_init, kc_Program⟩,
    m_Program_len := ⟨a_Program_len, i_Program_len, k_Program_len⟩,
    m_Program_iter := ⟨a_Program_iter, i_Program_iter, k_Program_iter⟩,
    m_Program_add := ⟨a_Program_add, i_Program_add, k_Program_add⟩,
    p_Program_things := p_Program_things,
    pr_Program_things := ⟨pa_Program_things, pg_Program_things, pt_Program_things, ⟨_, pr_Program_things⟩⟩,
    m_Program_mode_of := ⟨a_Program_mode_of, i_Program_mode_of, k_Program_mode_of⟩,
    ti_Program := fun _ _ _ _ h => .ins h ⟨pg_Program, hd_Program, po_Program, sa_Program⟩ hca_Program hcn_Program hct_Program hcm_Program,
    kk_Program := if_pos (beq_self_eq_true _),
    ko_Program_list := ko_Program_list,
    ko_Program_tuple := ko_Program_tuple,
    of_Program_add := ⟨sf_Program, a_Program_add, i_Program_add, ⟨_, or_Program_add, .inr ⟨_, rfl⟩⟩, ⟨_, _, ola_Program_add, olr_Program_add, ols_Program_add⟩, ⟨_, _, ota_Program_add, otr_Program_add, ots_Program_add⟩⟩,
    no_Program__steps := no_Program__steps,
    c_Row := c_Row,
    g_Row := PySem.W.mg_of X G gc_Row,
    cl_Row := ⟨pg_Row, hd_Row, po_Row, sa_Row⟩,
    mk_Row := ⟨mk_Row, a_Row_init, i_Row_init, kc_Row⟩,
    no_Row_web := no_Row_web,
    no_Row_programs := no_Row_programs,
    no_Row_last := no_Row_last,
    c_Verdict := c_Verdict,
    g_Verdict := PySem.W.mg_of X G gc_Verdict,
    cl_Verdict := ⟨pg_Verdict, hd_Verdict, po_Verdict, sa_Verdict⟩,
    mk_Verdict := ⟨mk_Verdict, a_Verdict_init, i_Verdict_init, kc_Verdict⟩,
    p_Verdict_safe := p_Verdict_safe,
    pr_Verdict_safe := ⟨pa_Verdict_safe, pg_Verdict_safe, pt_Verdict_safe, ⟨_, pr_Verdict_safe⟩⟩,
    m_Verdict_bool := ⟨a_Verdict_bool, i_Verdict_bool, k_Verdict_bool⟩,
    no_Verdict_row := no_Verdict_row,
    no_Verdict_ground := no_Verdict_ground,
    c_Shape := c_Shape,
    g_Shape := PySem.W.mg_of X G gc_Shape,
    cl_Shape := ⟨pg_Shape, hd_Shape, po_Shape, sa_Shape⟩,
    mk_Shape := ⟨mk_Shape, a_Shape_init, i_Shape_init, kc_Shape⟩,
    fi_Shape_getitem := fi_Shape_getitem,
    m_Shape_getitem := ⟨a_Shape_getitem, i_Shape_getitem, k_Shape_getitem⟩,
    m_Shape_eq := ⟨a_Shape_eq, i_Shape_eq, k_Shape_eq⟩,
    ti_Shape := fun _ _ _ _ h => .ins h ⟨pg_Shape, hd_Shape, po_Shape, sa_Shape⟩ hca_Shape hcn_Shape hct_Shape hcm_Shape,
    kk_Shape := if_pos (beq_self_eq_true _),
    cr_Shape := ⟨rdc_Shape, gac_Shape⟩,
    tk_Shape_MARKS := ti_Shape_MARKS,
    cv_Shape_MARKS := ⟨fcl_Shape_MARKS, ⟨_, rfl⟩⟩,
    tk_Shape_PARENTS := ti_Shape_PARENTS,
    cv_Shape_PARENTS := ⟨fcl_Shape_PARENTS, ⟨_, rfl⟩⟩,
    no_Shape__listed := no_Shape__listed,
    no_Shape__marks := no_Shape__marks,
    c_Web := c_Web,
    g_Web := PySem.W.mg_of X G gc_Web,
    cl_Web := ⟨pg_Web, hd_Web, po_Web, sa_Web⟩,
    mk_Web := ⟨mk_Web, a_Web_init, i_Web_init, kc_Web⟩,
    m_Web_put := ⟨a_Web_put, i_Web_put, k_Web_put⟩,
    fi_Web_getitem := fi_Web_getitem,
    m_Web_getitem := ⟨a_Web_getitem, i_Web_getitem, k_Web_getitem⟩,
    m_Web_contains := ⟨a_Web_contains, i_Web_contains, k_Web_contains⟩,
    m_Web_eq := ⟨a_Web_eq, i_Web_eq, k_Web_eq⟩,
    m_Web_mark_of := ⟨a_Web_mark_of, i_Web_mark_of, k_Web_mark_of⟩,
    ti_Web := fun _ _ _ _ h => .ins h ⟨pg_Web, hd_Web, po_Web, sa_Web⟩ hca_Web hcn_Web hct_Web hcm_Web,
    kk_Web := if_pos (beq_self_eq_true _),
    cr_Web := ⟨rdc_Web, gac_Web⟩,
    tk_Web_MOST := ti_Web_MOST,
    cv_Web_MOST := ⟨fcl_Web_MOST, ⟨_, rfl⟩⟩,
    no_Web_shape := no_Web_shape,
    no_Web__rows := no_Web__rows,
    no_Web__numbers := no_Web__numbers,
    kb_Verdict_init_3 := Hkb_Verdict_init_3,
    kb_Verdict_init_1 := Hkb_Verdict_init_1,
    kb_Verdict_init_2 := Hkb_Verdict_init_2,
    kb_Verdict_init_1_ground := Hkb_Verdict_init_1_ground,
    kb_Verdict_init_1_ground_row := Hkb_Verdict_init_1_ground_row,
    c_BadShape := c_BadShape,
    g_BadShape := PySem.W.mg_of X G gc_BadShape,
    c_UnknownMark := c_UnknownMark,
    g_UnknownMark := PySem.W.mg_of X G gc_UnknownMark,
    c_TooLarge := c_TooLarge,
    g_TooLarge := PySem.W.mg_of X G gc_TooLarge,
    c_BadParents := c_BadParents,
    g_BadParents := PySem.W.mg_of X G gc_BadParents,
    c_NoThing := c_NoThing,
    g_NoThing := PySem.W.mg_of X G gc_NoThing,
    c_BadStep := c_BadStep,
    g_BadStep := PySem.W.mg_of X G gc_BadStep,
    c_WebError := c_WebError,
    g_WebError := PySem.W.mg_of X G gc_WebError,
    c_Refused := c_Refused,
    g_Refused := PySem.W.mg_of X G gc_Refused,
    em_BadShape_WebError := PySem.W.exm_ref wb_WebError wd_WebError wt_WebError ws_BadShape_WebError,
    kt_BadShape_BadStep := kt_BadShape_BadStep,
    kt_BadShape_Refused := kt_BadShape_Refused,
    x_BadShape := XT_BadShape,
    xc_BadShape := ⟨xga_BadShape, xgg_BadShape, xb_BadShape, xd_BadShape, xha_BadShape, x_hn, x_ht, xhm_BadShape⟩,
    xn_BadShape := xno_BadShape,
    em_UnknownMark_WebError := PySem.W.exm_ref wb_WebError wd_WebError wt_WebError ws_UnknownMark_WebError,
    kt_UnknownMark_BadStep := kt_UnknownMark_BadStep,
    kt_UnknownMark_Refused := kt_UnknownMark_Refused,
    x_UnknownMark := XT_UnknownMark,
    xc_UnknownMark := ⟨xga_UnknownMark, xgg_UnknownMark, xb_UnknownMark, xd_UnknownMark, xha_UnknownMark, x_hn, x_ht, xhm_UnknownMark⟩,
    xn_UnknownMark := xno_UnknownMark,
    em_TooLarge_WebError := PySem.W.exm_ref wb_WebError wd_WebError wt_WebError ws_TooLarge_WebError,
    kt_TooLarge_BadStep := kt_TooLarge_BadStep,
    kt_TooLarge_Refused := kt_TooLarge_Refused,
    x_TooLarge := XT_TooLarge,
    xc_TooLarge := ⟨xga_TooLarge, xgg_TooLarge, xb_TooLarge, xd_TooLarge, xha_TooLarge, x_hn, x_ht, xhm_TooLarge⟩,
    xn_TooLarge := xno_TooLarge,
    em_BadParents_WebError := PySem.W.exm_ref wb_WebError wd_WebError wt_WebError ws_BadParents_WebError,
    kt_BadParents_BadStep := kt_BadParents_BadStep,
    kt_BadParents_Refused := kt_BadParents_Refused,
    x_BadParents := XT_BadParents,
    xc_BadParents := ⟨xga_BadParents, xgg_BadParents, xb_BadParents, xd_BadParents, xha_BadParents, x_hn, x_ht, xhm_BadParents⟩,
    xn_BadParents := xno_BadParents,
    em_NoThing_WebError := PySem.W.exm_ref wb_WebError wd_WebError wt_WebError ws_NoThing_WebError,
    kt_NoThing_BadStep := kt_NoThing_BadStep,
    kt_NoThing_Refused := kt_NoThing_Refused,
    x_NoThing := XT_NoThing,
    xc_NoThing := ⟨xga_NoThing, xgg_NoThing, xb_NoThing, xd_NoThing, xha_NoThing, x_hn, x_ht, xhm_NoThing⟩,
    xn_NoThing := xno_NoThing,
    em_BadStep_WebError := PySem.W.exm_ref wb_WebError wd_WebError wt_WebError ws_BadStep_WebError,
    kt_BadStep_BadStep := kt_BadStep_BadStep,
    kt_BadStep_Refused := kt_BadStep_Refused,
    x_BadStep := XT_BadStep,
    xc_BadStep := ⟨xga_BadStep, xgg_BadStep, xb_BadStep, xd_BadStep, xha_BadStep, x_hn, x_ht, xhm_BadStep⟩,
    xn_BadStep := xno_BadStep }
  exact ⟨T.fd_law, fun s v => .of_eq rfl, fun base _ _ => ok_law T⟩
end My
open PySem PySem.W PyProof.Rows in
set_option maxRecDepth 100000 in
set_option maxHeartbeats 0 in
theorem PySem.Challenge.cw_weblocks_k35_rows_conflicts_verdicts_holds : PySem.Challenge.rw_weblocks_k35_rows_conflicts_verdicts.Holds := by
  refine My.hd ?_
  k_fill
  refine L2.walk_of (l := PySem.Challenge.rw_weblocks_k35_rows_conflicts_verdicts) (n := 63) (k := 18) (x := "_law_script") (CX := fun _ => L2.CX0) (sp := fun w => My.spLaw _) rfl (by decide) rfl ⟨rfl, by decide, by decide⟩ (fun w h Y => PySem.W.kIn_of Y) ?F (fun _ _ a ns hl _ hS => ⟨a, ns, rfl, hS, hl, fun _ => rfl⟩) (fun _ _ _ _ _ h => h)
  case F =>
    intro w mg fa h KX G hmg
    refine' My.all_mk KX G hmg ?gc_Program ?gc_Row ?gc_Verdict ?gc_Shape ?gc_Web ?a_sound_step ?l_sound_step ?c_sound_step ?k_sound_step ?a_Program_init ?l_Program_init ?c_Program_init ?k_Program_init ?a_Program_len ?l_Program_len ?c_Program_len ?k_Program_len ?a_Program_iter ?l_Program_iter ?c_Program_iter ?k_Program_iter ?a_Program_add ?l_Program_add ?c_Program_add ?k_Program_add ?pa_Program_things ?pr_Program_things ?pg_Program_things ?pt_Program_things ?l_Program_things ?c_Program_things ?k_Program_things ?a_Program_mode_of ?l_Program_mode_of ?c_Program_mode_of ?k_Program_mode_of ?a_conflict ?l_conflict ?c_conflict ?k_conflict ?a_Row_init ?l_Row_init ?c_Row_init ?k_Row_init ?a_Verdict_init ?l_Verdict_init ?c_Verdict_init ?k_Verdict_init ?lt_Verdict_init ?pa_Verdict_safe ?pr_Verdict_safe ?pg_Verdict_safe ?pt_Verdict_safe ?l_Verdict_safe ?c_Verdict_safe ?k_Verdict_safe ?a_Verdict_bool ?l_Verdict_bool ?c_Verdict_bool ?k_Verdict_bool ?a_is_mark ?l_is_mark ?c_is_mark ?k_is_mark ?a_sound_row ?l_sound_row ?c_sound_row ?k_sound_row ?a_barren ?l_barren ?c_barren ?k_barren ?a_Shape_init ?l_Shape_init ?c_Shape_init ?k_Shape_init ?a_Shape_getitem ?l_Shape_getitem ?c_Shape_getitem ?k_Shape_getitem ?a_Shape_eq ?l_Shape_eq ?c_Shape_eq ?k_Shape_eq ?a_suitable ?l_suitable ?c_suitable ?k_suitable ?a_Web_init ?l_Web_init ?c_Web_init ?k_Web_init ?a_Web_put ?l_Web_put ?c_Web_put ?k_Web_put ?a_Web_getitem ?l_Web_getitem ?c_Web_getitem ?k_Web_getitem ?a_Web_contains ?l_Web_contains ?c_Web_contains ?k_Web_contains ?a_Web_eq ?l_Web_eq ?c_Web_eq ?k_Web_eq ?a_Web_mark_of ?l_Web_mark_of ?c_Web_mark_of ?k_Web_mark_of ?a__law_draws ?l__law_draws ?c__law_draws ?k__law_draws ?a__law_take ?l__law_take ?c__law_take ?k__law_take ?a__law_same ?l__law_same ?c__law_same ?k__law_same ?a__law_marks ?l__law_marks ?c__law_marks ?k__law_marks ?a__law_rows ?l__law_rows ?c__law_rows ?k__law_rows ?a__law_things ?l__law_things ?c__law_things ?k__law_things ?a__law_shape ?l__law_shape ?c__law_shape ?k__law_shape ?a__law_put ?l__law_put ?c__law_put ?k__law_put ?a__law_web ?l__law_web ?c__law_web ?k__law_web ?a__law_mode ?l__law_mode ?c__law_mode ?k__law_mode ?a__law_conflict ?l__law_conflict ?c__law_conflict ?k__law_conflict ?a__law_any_steps ?l__law_any_steps ?c__law_any_steps ?k__law_any_steps ?a__law_bad_last ?l__law_bad_last ?c__law_bad_last ?k__law_bad_last ?a__law_row_same ?l__law_row_same ?c__law_row_same ?k__law_row_same ?a__law_verdict_same ?l__law_verdict_same ?c__law_verdict_same ?k__law_verdict_same ?a_law ?l_law ?c_law ?k_law ?z_any ?z_bool ?z_enumerate ?z_int ?z_isinstance ?z_iter ?z_len ?z_list ?z_property ?z_range ?z_str ?z_tuple ?aq_DEEDS ?lq_DEEDS ?aq_LETTERS ?xla ?xlr ?xta ?xtr ?pg_Program ?hd_Program ?po_Program ?sa_Program ?kc_Program ?i_Program_init ?mk_Program ?i_Program_len ?i_Program_iter ?i_Program_add ?i_Program_mode_of ?hca_Program ?hcn_Program ?hct_Program ?hcm_Program ?ko_Program_list ?ko_Program_tuple ?sf_Program ?or_Program_add ?ola_Program_add ?olr_Program_add ?ols_Program_add ?ota_Program_add ?otr_Program_add ?ots_Program_add ?no_Program__steps ?pg_Row ?hd_Row ?po_Row ?sa_Row ?kc_Row ?i_Row_init ?mk_Row ?no_Row_web ?no_Row_programs ?no_Row_last ?pg_Verdict ?hd_Verdict ?po_Verdict ?sa_Verdict ?kc_Verdict ?i_Verdict_init ?mk_Verdict ?i_Verdict_bool ?no_Verdict_row ?no_Verdict_ground ?pg_Shape ?hd_Shape ?po_Shape ?sa_Shape ?kc_Shape ?i_Shape_init ?mk_Shape ?fi_Shape_getitem ?i_Shape_getitem ?i_Shape_eq ?hca_Shape ?hcn_Shape ?hct_Shape ?hcm_Shape ?rdc_Shape ?gac_Shape ?fcl_Shape_MARKS ?fcl_Shape_PARENTS ?no_Shape__listed ?no_Shape__marks ?pg_Web ?hd_Web ?po_Web ?sa_Web ?kc_Web ?i_Web_init ?mk_Web ?i_Web_put ?fi_Web_getitem ?i_Web_getitem ?i_Web_contains ?i_Web_eq ?i_Web_mark_of ?hca_Web ?hcn_Web ?hct_Web ?hcm_Web ?rdc_Web ?gac_Web ?fcl_Web_MOST ?no_Web_shape ?no_Web__rows ?no_Web__numbers ?gc_BadShape ?gc_UnknownMark ?gc_TooLarge ?gc_BadParents ?gc_NoThing ?gc_BadStep ?gc_WebError ?gc_Refused ?wb_WebError ?wd_WebError ?wt_WebError ?xz_super ?x_opq ?x_hn ?x_ht ?xl_BadShape ?xsa_BadShape ?xga_BadShape ?xgg_BadShape ?xno_BadShape ?xk_BadShape ?xb_BadShape ?xt_BadShape ?xd_BadShape ?xi_BadShape ?xf_BadShape ?xfl_BadShape ?xci_BadShape ?xcc_BadShape ?xcd_BadShape ?xvs_BadShape ?xfi_BadShape ?xnx_BadShape ?xsl_BadShape ?xsu_BadShape ?xha_BadShape ?xhm_BadShape ?ws_BadShape_WebError ?kt_BadShape_BadStep ?kt_BadShape_Refused ?xl_UnknownMark ?xsa_UnknownMark ?xga_UnknownMark ?xgg_UnknownMark ?xno_UnknownMark ?xk_UnknownMark ?xb_UnknownMark ?xt_UnknownMark ?xd_UnknownMark ?xi_UnknownMark ?xf_UnknownMark ?xfl_UnknownMark ?xci_UnknownMark ?xcc_UnknownMark ?xcd_UnknownMark ?xvs_UnknownMark ?xfi_UnknownMark ?xnx_UnknownMark ?xsl_UnknownMark ?xsu_UnknownMark ?xha_UnknownMark ?xhm_UnknownMark ?ws_UnknownMark_WebError ?kt_UnknownMark_BadStep ?kt_UnknownMark_Refused ?xl_TooLarge ?xsa_TooLarge ?xga_TooLarge ?xgg_TooLarge ?xno_TooLarge ?xk_TooLarge ?xb_TooLarge ?xt_TooLarge ?xd_TooLarge ?xi_TooLarge ?xf_TooLarge ?xfl_TooLarge ?xci_TooLarge ?xcc_TooLarge ?xcd_TooLarge ?xvs_TooLarge ?xfi_TooLarge ?xnx_TooLarge ?xsl_TooLarge ?xsu_TooLarge ?xha_TooLarge ?xhm_TooLarge ?ws_TooLarge_WebError ?kt_TooLarge_BadStep ?kt_TooLarge_Refused ?xl_BadParents ?xsa_BadParents ?xga_BadParents ?xgg_BadParents ?xno_BadParents ?xk_BadParents ?xb_BadParents ?xt_BadParents ?xd_BadParents ?xi_BadParents ?xf_BadParents ?xfl_BadParents ?xci_BadParents ?xcc_BadParents ?xcd_BadParents ?xvs_BadParents ?xfi_BadParents ?xnx_BadParents ?xsl_BadParents ?xsu_BadParents ?xha_BadParents ?xhm_BadParents ?ws_BadParents_WebError ?kt_BadParents_BadStep ?kt_BadParents_Refused ?xl_NoThing ?xsa_NoThing ?xga_NoThing ?xgg_NoThing ?xno_NoThing ?xk_NoThing ?xb_NoThing ?xt_NoThing ?xd_NoThing ?xi_NoThing ?xf_NoThing ?xfl_NoThing ?xci_NoThing ?xcc_NoThing ?xcd_NoThing ?xvs_NoThing ?xfi_NoThing ?xnx_NoThing ?xsl_NoThing ?xsu_NoThing ?xha_NoThing ?xhm_NoThing ?ws_NoThing_WebError ?kt_NoThing_BadStep ?kt_NoThing_Refused ?xl_BadStep ?xsa_BadStep ?xga_BadStep ?xgg_BadStep ?xno_BadStep ?xk_BadStep ?xb_BadStep ?xt_BadStep ?xd_BadStep ?xi_BadStep ?xf_BadStep ?xfl_BadStep ?xci_BadStep ?xcc_BadStep ?xcd_BadStep ?xvs_BadStep ?xfi_BadStep ?xnx_BadStep ?xsl_BadStep ?xsu_BadStep ?xha_BadStep ?xhm_BadStep ?ws_BadStep_WebError ?kt_BadStep_BadStep ?kt_BadStep_Refused
    (case gc_Program => k_is)
    (case gc_Row => k_is)
    (case gc_Verdict => k_is)
    (case gc_Shape => k_is)
    (case gc_Web => k_is)
    (case a_sound_step => k_is)
    (case l_sound_step => k_is)
    (case c_sound_step => k_is)
    (case k_sound_step => k_is)
    (case a_Program_init => k_is)
    (case l_Program_init => k_is)
    (case c_Program_init => k_is)
    (case k_Program_init => k_is)
    (case a_Program_len => k_is)
    (case l_Program_len => k_is)
    (case c_Program_len => k_is)
    (case k_Program_len => k_is)
    (case a_Program_iter => k_is)
    (case l_Program_iter => k_is)
    (case c_Program_iter => k_is)
    (case k_Program_iter => k_is)
    (case a_Program_add => k_is)
    (case l_Program_add => k_is)
    (case c_Program_add => k_is)
    (case k_Program_add => k_is)
    (case pa_Program_things => k_is)
    (case pr_Program_things => k_is)
    (case pg_Program_things => k_is)
    (case pt_Program_things => k_is)
    (case l_Program_things => k_is)
    (case c_Program_things => k_is)
    (case k_Program_things => k_is)
    (case a_Program_mode_of => k_is)
    (case l_Program_mode_of => k_is)
    (case c_Program_mode_of => k_is)
    (case k_Program_mode_of => k_is)
    (case a_conflict => k_is)
    (case l_conflict => k_is)
    (case c_conflict => k_is)
    (case k_conflict => k_is)
    (case a_Row_init => k_is)
    (case l_Row_init => k_is)
    (case c_Row_init => k_is)
    (case k_Row_init => k_is)
    (case a_Verdict_init => k_is)
    (case l_Verdict_init => k_is)
    (case c_Verdict_init => k_is)
    (case k_Verdict_init => k_is)
    (case lt_Verdict_init => k_is)
    (case pa_Verdict_safe => k_is)
    (case pr_Verdict_safe => k_is)
    (case pg_Verdict_safe => k_is)
    (case pt_Verdict_safe => k_is)
    (case l_Verdict_safe => k_is)
    (case c_Verdict_safe => k_is)
    (case k_Verdict_safe => k_is)
    (case a_Verdict_bool => k_is)
    (case l_Verdict_bool => k_is)
    (case c_Verdict_bool => k_is)
    (case k_Verdict_bool => k_is)
    (case a_is_mark => k_is)
    (case l_is_mark => k_is)
    (case c_is_mark => k_is)
    (case k_is_mark => k_is)
    (case a_sound_row => k_is)
    (case l_sound_row => k_is)
    (case c_sound_row => k_is)
    (case k_sound_row => k_is)
    (case a_barren => k_is)
    (case l_barren => k_is)
    (case c_barren => k_is)
    (case k_barren => k_is)
    (case a_Shape_init => k_is)
    (case l_Shape_init => k_is)
    (case c_Shape_init => k_is)
    (case k_Shape_init => k_is)
    (case a_Shape_getitem => k_is)
    (case l_Shape_getitem => k_is)
    (case c_Shape_getitem => k_is)
    (case k_Shape_getitem => k_is)
    (case a_Shape_eq => k_is)
    (case l_Shape_eq => k_is)
    (case c_Shape_eq => k_is)
    (case k_Shape_eq => k_is)
    (case a_suitable => k_is)
    (case l_suitable => k_is)
    (case c_suitable => k_is)
    (case k_suitable => k_is)
    (case a_Web_init => k_is)
    (case l_Web_init => k_is)
    (case c_Web_init => k_is)
    (case k_Web_init => k_is)
    (case a_Web_put => k_is)
    (case l_Web_put => k_is)
    (case c_Web_put => k_is)
    (case k_Web_put => k_is)
    (case a_Web_getitem => k_is)
    (case l_Web_getitem => k_is)
    (case c_Web_getitem => k_is)
    (case k_Web_getitem => k_is)
    (case a_Web_contains => k_is)
    (case l_Web_contains => k_is)
    (case c_Web_contains => k_is)
    (case k_Web_contains => k_is)
    (case a_Web_eq => k_is)
    (case l_Web_eq => k_is)
    (case c_Web_eq => k_is)
    (case k_Web_eq => k_is)
    (case a_Web_mark_of => k_is)
    (case l_Web_mark_of => k_is)
    (case c_Web_mark_of => k_is)
    (case k_Web_mark_of => k_is)
    (case a__law_draws => k_is)
    (case l__law_draws => k_is)
    (case c__law_draws => k_is)
    (case k__law_draws => k_is)
    (case a__law_take => k_is)
    (case l__law_take => k_is)
    (case c__law_take => k_is)
    (case k__law_take => k_is)
    (case a__law_same => k_is)
    (case l__law_same => k_is)
    (case c__law_same => k_is)
    (case k__law_same => k_is)
    (case a__law_marks => k_is)
    (case l__law_marks => k_is)
    (case c__law_marks => k_is)
    (case k__law_marks => k_is)
    (case a__law_rows => k_is)
    (case l__law_rows => k_is)
    (case c__law_rows => k_is)
    (case k__law_rows => k_is)
    (case a__law_things => k_is)
    (case l__law_things => k_is)
    (case c__law_things => k_is)
    (case k__law_things => k_is)
    (case a__law_shape => k_is)
    (case l__law_shape => k_is)
    (case c__law_shape => k_is)
    (case k__law_shape => k_is)
    (case a__law_put => k_is)
    (case l__law_put => k_is)
    (case c__law_put => k_is)
    (case k__law_put => k_is)
    (case a__law_web => k_is)
    (case l__law_web => k_is)
    (case c__law_web => k_is)
    (case k__law_web => k_is)
    (case a__law_mode => k_is)
    (case l__law_mode => k_is)
    (case c__law_mode => k_is)
    (case k__law_mode => k_is)
    (case a__law_conflict => k_is)
    (case l__law_conflict => k_is)
    (case c__law_conflict => k_is)
    (case k__law_conflict => k_is)
    (case a__law_any_steps => k_is)
    (case l__law_any_steps => k_is)
    (case c__law_any_steps => k_is)
    (case k__law_any_steps => k_is)
    (case a__law_bad_last => k_is)
    (case l__law_bad_last => k_is)
    (case c__law_bad_last => k_is)
    (case k__law_bad_last => k_is)
    (case a__law_row_same => k_is)
    (case l__law_row_same => k_is)
    (case c__law_row_same => k_is)
    (case k__law_row_same => k_is)
    (case a__law_verdict_same => k_is)
    (case l__law_verdict_same => k_is)
    (case c__law_verdict_same => k_is)
    (case k__law_verdict_same => k_is)
    (case a_law => k_is)
    (case l_law => k_is)
    (case c_law => k_is)
    (case k_law => k_is)
    (case z_any => k_is)
    (case z_bool => k_is)
    (case z_enumerate => k_is)
    (case z_int => k_is)
    (case z_isinstance => k_is)
    (case z_iter => k_is)
    (case z_len => k_is)
    (case z_list => k_is)
    (case z_property => k_is)
    (case z_range => k_is)
    (case z_str => k_is)
    (case z_tuple => k_is)
    (case aq_DEEDS => k_is)
    (case lq_DEEDS => k_is)
    (case aq_LETTERS => k_is)
    (case xla => k_is)
    (case xlr => k_is)
    (case xta => k_is)
    (case xtr => k_is)
    (case pg_Program => k_is)
    (case hd_Program => k_is)
    (case po_Program => k_is)
    (case sa_Program => k_is)
    (case kc_Program => k_is)
    (case i_Program_init => k_is)
    (case mk_Program => k_is)
    (case i_Program_len => k_is)
    (case i_Program_iter => k_is)
    (case i_Program_add => k_is)
    (case i_Program_mode_of => k_is)
    (case hca_Program => k_is)
    (case hcn_Program => k_is)
    (case hct_Program => k_is)
    (case hcm_Program => k_is)
    (case ko_Program_list => kit_is)
    (case ko_Program_tuple => kit_is)
    (case sf_Program => k_is)
    (case or_Program_add => k_is)
    (case ola_Program_add => k_is)
    (case olr_Program_add => k_is)
    (case ols_Program_add => k_is)
    (case ota_Program_add => k_is)
    (case otr_Program_add => k_is)
    (case ots_Program_add => k_is)
    (case no_Program__steps => k_is)
    (case pg_Row => k_is)
    (case hd_Row => k_is)
    (case po_Row => k_is)
    (case sa_Row => k_is)
    (case kc_Row => k_is)
    (case i_Row_init => k_is)
    (case mk_Row => k_is)
    (case no_Row_web => k_is)
    (case no_Row_programs => k_is)
    (case no_Row_last => k_is)
    (case pg_Verdict => k_is)
    (case hd_Verdict => k_is)
    (case po_Verdict => k_is)
    (case sa_Verdict => k_is)
    (case kc_Verdict => k_is)
    (case i_Verdict_init => k_is)
    (case mk_Verdict => k_is)
    (case i_Verdict_bool => k_is)
    (case no_Verdict_row => k_is)
    (case no_Verdict_ground => k_is)
    (case pg_Shape => k_is)
    (case hd_Shape => k_is)
    (case po_Shape => k_is)
    (case sa_Shape => k_is)
    (case kc_Shape => k_is)
    (case i_Shape_init => k_is)
    (case mk_Shape => k_is)
    (case fi_Shape_getitem => k_is)
    (case i_Shape_getitem => k_is)
    (case i_Shape_eq => k_is)
    (case hca_Shape => k_is)
    (case hcn_Shape => k_is)
    (case hct_Shape => k_is)
    (case hcm_Shape => k_is)
    (case rdc_Shape => k_is)
    (case gac_Shape => k_is)
    (case fcl_Shape_MARKS => k_is)
    (case fcl_Shape_PARENTS => k_is)
    (case no_Shape__listed => k_is)
    (case no_Shape__marks => k_is)
    (case pg_Web => k_is)
    (case hd_Web => k_is)
    (case po_Web => k_is)
    (case sa_Web => k_is)
    (case kc_Web => k_is)
    (case i_Web_init => k_is)
    (case mk_Web => k_is)
    (case i_Web_put => k_is)
    (case fi_Web_getitem => k_is)
    (case i_Web_getitem => k_is)
    (case i_Web_contains => k_is)
    (case i_Web_eq => k_is)
    (case i_Web_mark_of => k_is)
    (case hca_Web => k_is)
    (case hcn_Web => k_is)
    (case hct_Web => k_is)
    (case hcm_Web => k_is)
    (case rdc_Web => k_is)
    (case gac_Web => k_is)
    (case fcl_Web_MOST => k_is)
    (case no_Web_shape => k_is)
    (case no_Web__rows => k_is)
    (case no_Web__numbers => k_is)
    (case gc_BadShape => k_is)
    (case gc_UnknownMark => k_is)
    (case gc_TooLarge => k_is)
    (case gc_BadParents => k_is)
    (case gc_NoThing => k_is)
    (case gc_BadStep => k_is)
    (case gc_WebError => k_is)
    (case gc_Refused => k_is)
    (case wb_WebError => k_is)
    (case wd_WebError => k_is)
    (case wt_WebError => k_is)
    (case xz_super => k_is)
    (case x_opq => k_is)
    (case x_hn => k_is)
    (case x_ht => k_is)
    (case xl_BadShape => k_is)
    (case xsa_BadShape => k_is)
    (case xga_BadShape => k_is)
    (case xgg_BadShape => k_is)
    (case xno_BadShape => k_is)
    (case xk_BadShape => k_is)
    (case xb_BadShape => k_is)
    (case xt_BadShape => k_is)
    (case xd_BadShape => k_is)
    (case xi_BadShape => k_is)
    (case xf_BadShape => k_is)
    (case xfl_BadShape => k_is)
    (case xci_BadShape => k_is)
    (case xcc_BadShape => k_is)
    (case xcd_BadShape => k_is)
    (case xvs_BadShape => rfl)
    (case xfi_BadShape => first | rfl | decide +kernel)
    (case xnx_BadShape => ks_is)
    (case xsl_BadShape => k_is)
    (case xsu_BadShape => k_is)
    (case xha_BadShape => k_is)
    (case xhm_BadShape => k_is)
    (case ws_BadShape_WebError => k_is)
    (case kt_BadShape_BadStep => kit_is)
    (case kt_BadShape_Refused => kit_is)
    (case xl_UnknownMark => k_is)
    (case xsa_UnknownMark => k_is)
    (case xga_UnknownMark => k_is)
    (case xgg_UnknownMark => k_is)
    (case xno_UnknownMark => k_is)
    (case xk_UnknownMark => k_is)
    (case xb_UnknownMark => k_is)
    (case xt_UnknownMark => k_is)
    (case xd_UnknownMark => k_is)
    (case xi_UnknownMark => k_is)
    (case xf_UnknownMark => k_is)
    (case xfl_UnknownMark => k_is)
    (case xci_UnknownMark => k_is)
    (case xcc_UnknownMark => k_is)
    (case xcd_UnknownMark => k_is)
    (case xvs_UnknownMark => rfl)
    (case xfi_UnknownMark => first | rfl | decide +kernel)
    (case xnx_UnknownMark => ks_is)
    (case xsl_UnknownMark => k_is)
    (case xsu_UnknownMark => k_is)
    (case xha_UnknownMark => k_is)
    (case xhm_UnknownMark => k_is)
    (case ws_UnknownMark_WebError => k_is)
    (case kt_UnknownMark_BadStep => kit_is)
    (case kt_UnknownMark_Refused => kit_is)
    (case xl_TooLarge => k_is)
    (case xsa_TooLarge => k_is)
    (case xga_TooLarge => k_is)
    (case xgg_TooLarge => k_is)
    (case xno_TooLarge => k_is)
    (case xk_TooLarge => k_is)
    (case xb_TooLarge => k_is)
    (case xt_TooLarge => k_is)
    (case xd_TooLarge => k_is)
    (case xi_TooLarge => k_is)
    (case xf_TooLarge => k_is)
    (case xfl_TooLarge => k_is)
    (case xci_TooLarge => k_is)
    (case xcc_TooLarge => k_is)
    (case xcd_TooLarge => k_is)
    (case xvs_TooLarge => rfl)
    (case xfi_TooLarge => first | rfl | decide +kernel)
    (case xnx_TooLarge => ks_is)
    (case xsl_TooLarge => k_is)
    (case xsu_TooLarge => k_is)
    (case xha_TooLarge => k_is)
    (case xhm_TooLarge => k_is)
    (case ws_TooLarge_WebError => k_is)
    (case kt_TooLarge_BadStep => kit_is)
    (case kt_TooLarge_Refused => kit_is)
    (case xl_BadParents => k_is)
    (case xsa_BadParents => k_is)
    (case xga_BadParents => k_is)
    (case xgg_BadParents => k_is)
    (case xno_BadParents => k_is)
    (case xk_BadParents => k_is)
    (case xb_BadParents => k_is)
    (case xt_BadParents => k_is)
    (case xd_BadParents => k_is)
    (case xi_BadParents => k_is)
    (case xf_BadParents => k_is)
    (case xfl_BadParents => k_is)
    (case xci_BadParents => k_is)
    (case xcc_BadParents => k_is)
    (case xcd_BadParents => k_is)
    (case xvs_BadParents => rfl)
    (case xfi_BadParents => first | rfl | decide +kernel)
    (case xnx_BadParents => ks_is)
    (case xsl_BadParents => k_is)
    (case xsu_BadParents => k_is)
    (case xha_BadParents => k_is)
    (case xhm_BadParents => k_is)
    (case ws_BadParents_WebError => k_is)
    (case kt_BadParents_BadStep => kit_is)
    (case kt_BadParents_Refused => kit_is)
    (case xl_NoThing => k_is)
    (case xsa_NoThing => k_is)
    (case xga_NoThing => k_is)
    (case xgg_NoThing => k_is)
    (case xno_NoThing => k_is)
    (case xk_NoThing => k_is)
    (case xb_NoThing => k_is)
    (case xt_NoThing => k_is)
    (case xd_NoThing => k_is)
    (case xi_NoThing => k_is)
    (case xf_NoThing => k_is)
    (case xfl_NoThing => k_is)
    (case xci_NoThing => k_is)
    (case xcc_NoThing => k_is)
    (case xcd_NoThing => k_is)
    (case xvs_NoThing => rfl)
    (case xfi_NoThing => first | rfl | decide +kernel)
    (case xnx_NoThing => ks_is)
    (case xsl_NoThing => k_is)
    (case xsu_NoThing => k_is)
    (case xha_NoThing => k_is)
    (case xhm_NoThing => k_is)
    (case ws_NoThing_WebError => k_is)
    (case kt_NoThing_BadStep => kit_is)
    (case kt_NoThing_Refused => kit_is)
    (case xl_BadStep => k_is)
    (case xsa_BadStep => k_is)
    (case xga_BadStep => k_is)
    (case xgg_BadStep => k_is)
    (case xno_BadStep => k_is)
    (case xk_BadStep => k_is)
    (case xb_BadStep => k_is)
    (case xt_BadStep => k_is)
    (case xd_BadStep => k_is)
    (case xi_BadStep => k_is)
    (case xf_BadStep => k_is)
    (case xfl_BadStep => k_is)
    (case xci_BadStep => k_is)
    (case xcc_BadStep => k_is)
    (case xcd_BadStep => k_is)
    (case xvs_BadStep => rfl)
    (case xfi_BadStep => first | rfl | decide +kernel)
    (case xnx_BadStep => ks_is)
    (case xsl_BadStep => k_is)
    (case xsu_BadStep => k_is)
    (case xha_BadStep => k_is)
    (case xhm_BadStep => k_is)
    (case ws_BadStep_WebError => k_is)
    (case kt_BadStep_BadStep => kit_is)
    (case kt_BadStep_Refused => kit_is)
#print axioms PySem.Challenge.cw_weblocks_k35_rows_conflicts_verdicts_holds
