import PyProof.Rows.All
import Wide.All
import OpenK.AllK
import Wide.FinOn
import HandS.ForMost
import KE.GoesMore
import HandS.Codes
import HandS.IsInst
import HandS.Defaults
import HandS.MakeKw
import HandS.MakeKwOnly
import HandS.SlotsOwn
import HandS.ForExc
import HandS.ExcIs
import HandS.ExcField
import HandS.CallSlots
import KE.KExcIs
import KE.KExcSuper
import KE.KExcMake
import KE.RegKSuper
import HandS.ClsMeth
import KE.KCallOwn
import HandS.IterVal
import KE.KOwnIter
import HandS.Star
import KE.KOpsOwn
import HandS.Property
import KE.KStar
import HandS.SlotsOwn
import HandS.ForExc
import HandS.ExcIs
import HandS.ExcField
import HandS.CallSlots
import KE.KExcIs
import KE.KExcSuper
import KE.KExcMake
import KE.RegKSuper
import HandS.ClsMeth
import KE.KCallOwn
import HandS.IterVal
import KE.KOwnIter
import HandS.Star
import KE.KOpsOwn
import HandS.Property
import KE.KStar
import HandS.Text
import HandS.StrMore
import HandS.Steps
import HandS.TryOnly
import HandS.Exc
import HandS.ExcOwn
import HandS.Comp
import HandS.OwnIter
import PyProof.StrLawsChain
import PyProof.Rows.StrItems
import HandS.Iter
import HandS.Text
import HandS.StrMore
import HandS.Steps
import HandS.TryOnly
import HandS.Exc
import HandS.ExcOwn
import HandS.Comp
import HandS.OwnIter
import HandS.HotCalls
import HandS.WordsDict
import HandS.Conv
import HandS.More
import KE.OsRunLaw
import HandS.Walk
import PySem.Challenge.RW_weblocks_k19_standing_counts_and_copies
set_option Elab.async false
set_option linter.all false
set_option maxRecDepth 100000
set_option maxHeartbeats 4000000
namespace My
local macro_rules | `(tactic| k_head) => `(tactic| k_headL)
set_option maxHeartbeats 0 in
open_top hd for PySem.Challenge.rw_weblocks_k19_standing_counts_and_copies
end My
local macro_rules | `(tactic| walk_at "sd") => `(tactic| first | assumption | omega | decide | rfl | (refine And.intro ?_ ?_ <;> walk_at "sd") | (show _ < PySem.sizeLine; exact Nat.lt_of_le_of_lt (by omega : _ ≤ 100000) (by decide)) | (show _ ≤ PySem.sizeLine; exact Nat.le_trans (by omega : _ ≤ 100000) (by decide)))
local macro_rules | `(tactic| walk_at "hl") => `(tactic| first | assumption | exact L2.upd_same | (refine (L2.upd_ne ?_).trans ?_; (walk_at "ne"); (walk_at "hl")))
local macro_rules | `(tactic| walk_at "ne") => `(tactic| first | assumption | (apply Ne.symm; assumption) | (refine L2.ne_of_none ?_ (by assumption); walk_at "hl") | (apply Ne.symm; refine L2.ne_of_none ?_ (by assumption); walk_at "hl") | (refine L2.ne_of (o := L2.HO.lst _) (u := L2.HO.tup _) ?_ ?_ (by intro z; cases z) <;> walk_at "hl"))
local macro_rules | `(tactic| walk_at "sq") => `(tactic| first | assumption | exact .inl (.inl (by walk_at "hl")) | exact .inl (.inl (.inl (by walk_at "hl"))) | exact .inr (.inl (.inl (by walk_at "hl"))) | exact .inl (by assumption) | exact .inr (by assumption))
local macro_rules | `(tactic| walk_at "at") => `(tactic| first | assumption | exact rfl | exact L2.atI_nat (j := 0) rfl | exact L2.atI_nat (j := 1) rfl | exact L2.atI_nat (j := 2) rfl | exact L2.atI_nat (j := 3) rfl | exact L2.atI_nat rfl | exact L2.atI_nat (by assumption))
local macro_rules | `(tactic| walk_at "r1") => `(tactic| first
  | (refine ⟨_, rfl, ?_⟩)
  | (refine ⟨_, _, rfl, rfl, ?_⟩)
  | (refine ⟨_, _, _, _, rfl, rfl, (by walk_at "sq"), (by walk_at "at"), ?_⟩)
  | (refine ⟨_, _, rfl, (by walk_at "sq"), ?_⟩)
  | (refine ⟨.inl ⟨rfl, _, L2.SqL.of (by walk_at "hl")⟩, ?_⟩)
  | (refine ⟨_, _, _, rfl, rfl, (by walk_at "hl"), (by walk_at "sd"), ?_⟩)
  | (refine ⟨_, _, _, _, rfl, rfl, (by walk_at "hl"), rfl, ?_⟩)
  | (refine And.intro (by walk_at "sd") ?_)
  | (refine .inl ⟨_, rfl, ?_⟩))
local macro_rules | `(tactic| walk_at "rd") => `(tactic| repeat walk_at "r1")
/-! ### enumerate over a tuple -/
namespace PySem
open AutoSeq1 (wpAny_loadPart')
set_option maxHeartbeats 1000000 in
theorem meets_enumerate_newT (l : Addr) (items : Array Value) :
    Meets (Builtin.«enumerate.__new__» ⟨[.type "enumerate", .ref l], []⟩) (fun _ R s => s.heap.IsTuple l items ∧
      R (.ok (.ret (.ref (s.heap.push { cls := .type "tuple_iterator", data := .fields #[.ref l, .int 0 0] }).objs.size)))
        { s with heap := (s.heap.push { cls := .type "tuple_iterator", data := .fields #[.ref l, .int 0 0] }).push { cls := .type "enumerate", data := .fields #[.none, .bool false, .ref s.heap.objs.size, rawInt 0, .none, .none] } }) :=
  .of_wp fun prog w A R s h => by
    obtain ⟨hp, g, d, tk, os⟩ := s; obtain ⟨hL, h⟩ := h
    have hsub := sub_enumerate
    wp_walk using wpAny_pyIter_tuple hL
    refine wpAny_stack_any fun st => wpAny_pure ?_
    split
    · rename_i c _ _ _ _ _
      cases (c == Value.type "enumerate")
      · wp_walk using wpAny_pyIter_tuple hL
        exact ⟨_, rfl, h⟩
      · wp_walk using wpAny_pyIter_tuple hL
        exact ⟨_, rfl, h⟩
    · wp_walk using wpAny_pyIter_tuple hL
      exact ⟨_, rfl, h⟩
section
variable {prog : Program} {w : World} {A : Around} {E : Value → Shared → Prop} {s : Shared}
theorem call_enumerate_tup {l : Addr} {items : Array Value} {Q : Value → Shared → Prop} (hL : s.heap.IsTuple l items)
    (h : ∀ h', IsEnum h' (s.heap.objs.size + 1) s.heap.objs.size 0 .none → h'.IsTupleIter s.heap.objs.size l 0 → h'.objs.size = s.heap.objs.size + 2 →
      (∀ b o, s.heap.get? b = some o → h'.get? b = some o) → Q (.ref (s.heap.objs.size + 1)) { s with heap := h' }) :
    wpAny (model prog w) A (call (.type "enumerate") [.ref l]) Q E s := by
  refine callType_new F.called_enumerate (by decide) (F.typeCall_enumerate_1 _) (F.newCall_enumerate_1 _) (fun obj => F.args_object_init_2 obj _) F.entry_enumerate_new
    (meets_enumerate_newT l items) ⟨hL, ?_⟩
  have hz : (s.heap.push { cls := .type "tuple_iterator", data := .fields #[.ref l, .int 0 0] }).objs.size = s.heap.objs.size + 1 := Heap.size_push ..
  show _ ∧ _
  rw [hz]
  have he : IsEnum ((s.heap.push { cls := .type "tuple_iterator", data := .fields #[.ref l, .int 0 0] }).push
      { cls := .type "enumerate", data := .fields #[.none, .bool false, .ref s.heap.objs.size, rawInt 0, .none, .none] }) (s.heap.objs.size + 1) s.heap.objs.size 0 .none := by
    have := Heap.get?_push_size (s.heap.push { cls := .type "tuple_iterator", data := .fields #[.ref l, .int 0 0] })
      (o := { cls := .type "enumerate", data := .fields #[.none, .bool false, .ref s.heap.objs.size, rawInt 0, .none, .none] }) rfl
    rw [hz] at this; exact this
  refine ⟨⟨_, he, rfl⟩, h _ he ⟨_, Heap.get?_push_of_some _ (Heap.get?_push_size _ rfl), rfl, rfl⟩ (by rw [Heap.size_push, hz]) fun b o x => Heap.get?_push_of_some _ (Heap.get?_push_of_some _ x)⟩
/-- next of an enumerate whose tuple is at its end -/
theorem wpAny_pyNext_enum_endU {e it l : Addr} {i : Nat} {items : Array Value} {old : Value} {Q : Option Value → Shared → Prop} (hh : A.handled = none) (he : IsEnum s.heap e it i old)
    (hit : s.heap.IsTupleIter it l i) (hl : s.heap.IsTuple l items) (hx : items[i]? = none) (hQ : ∀ h', Heap.ExtBut it s.heap h' → Q none { s with heap := h' }) : wpAny (model prog w) A (pyNext (.ref e)) Q E s := by
  have hT : s.TypeIs (.ref e) "enumerate" := ⟨_, he, rfl⟩
  unfold pyNext
  refine wpAny_bind (wpAny_attempt (wpAny_callSpecial?_slot (name := Str.ofString "__next__") hT F.slot_enumerate_next (wpAny_call_entry F.slot_enumerate_next hT F.entry_enumerate_next ?_ (F.args_enumerate_next_1 _))))
  show wpAny _ _ (field (.ref e) 2 >>= _) _ _ _
  refine wpAny_bind (wpAny_field he rfl (x := .ref it) rfl (wpAny_bind (wpAny_nextOf_tuple_end hh hit hl hx fun h' x he' ⟨o, ho, hc⟩ => ?_)))
  exact wpAny_bind (wpAny_isInstance (T := "StopIteration") (b := true) ⟨o, ho, hc⟩ isSubtype_stop (wpAny_pure (hQ _ he')))
end
end PySem
namespace L2
open PySem PySem.Spec PyProof.Rows
/-- the tuple at a, each item in a new pair -/
def ItuE (K : PySem.W.Frag) (a : Addr) : It :=
  ⟨fun i H => ∃ (xs : List V) (x : V), SqT K H a xs ∧ xs[i]? = some x, fun i H v H' => ∃ T x, v = .ref T ∧ H T = none ∧ H' = upd H T (.tup [.int (i : Nat), x]) ∧ ∀ xs, SqT K H a xs → xs[i]? = some x, fun i H => ∃ xs : List V, SqT K H a xs ∧ xs.length ≤ i⟩
theorem turn_enumT {P : Program} {w : World} {K : PySem.W.Frag} {elts : List Expr} {kk : Nat} {tpos : Pos} (a e it : Addr) :
    Turn P w K (.Tuple elts kk tpos) (ItuE K a) [e, it] e (fun i h => (∃ old, IsEnum h e it ((i : Nat) : Int) old) ∧ h.IsTupleIter it a i ∧ e ≠ it ∧ a ≠ it ∧ a ≠ e) where
  mem := by simp
  obj := fun i h st b hb => by
    obtain ⟨⟨old, he⟩, ⟨o, ho, hc, hd⟩, _⟩ := st
    have e' : b = e ∨ b = it := by simpa using hb
    rcases e' with z | z
    · rw [z]; exact ⟨_, he, fun v q => nomatch q⟩
    · rw [z]; exact ⟨o, ho, fun v q => by rw [hd] at q; cases q⟩
  keep := fun i h h' st k => let ⟨⟨old, he⟩, hi, hne⟩ := st; ⟨⟨old, k e (by simp) _ he⟩, hi.at fun o q => k it (by simp) o q, hne⟩
  item := by
    intro X hP hw hK hc i pins s σ H E I hf st hg
    subst hP hw hK
    obtain ⟨⟨old, he⟩, hit, hne, hai, hae⟩ := st
    obtain ⟨xs, x, hq, hx⟩ := hg
    obtain ⟨its, rv, p, hz⟩ := I.tuple hq
    obtain ⟨u, hu, ru⟩ := rv.get hx
    have hel : e < s.heap.objs.size := Heap.lt_size he
    have hil : it < s.heap.objs.size := by obtain ⟨_, q, _⟩ := hit; exact Heap.lt_size q
    have hlen : i < its.toArray.size := by
      have := (List.getElem?_eq_some_iff.mp hu).1
      simpa using this
    have hT0 : s.heap.IsTuple a its.toArray := p
    refine wpAny_pyNext_enum_itemD (Draws.tuple (prog := X.prog) (w := X.w) (A := X.A.in1) (show X.A.in1.handled = none from I.ok.hd hc) it a hai its.toArray) he ⟨hit, hT0⟩ hlen hne (by simp [hne, Ne.symm hae]) fun y h' tk hy ho hst' hT hsz hk => ?_
    have ey : y = u := by
      have q : its[i]? = some y := by simpa using hy
      exact Option.some.inj (q.symm.trans hu)
    subst ey
    obtain ⟨hit', _⟩ := hst'
    refine ⟨_, rfl, wpAny_letOwnedTupleGo_enum (s := { s with heap := h', toks := tk + 1 }) ho fun h'' he' sb => ?_⟩
    have hT2 : h''.get? s.heap.objs.size = some { cls := .type "tuple", data := .seq #[.int i tk, y] } := (sb.2 _ (Nat.ne_of_gt hel)).trans hT
    have new : ObjOk X.prog X.w (upd H s.heap.objs.size (.tup [.int (i : Nat), x])) h'' s.heap.objs.size (.tup [.int (i : Nat), x]) :=
      ⟨by show 2 ≤ sizeLine; decide, [.int i tk, y], .cons ⟨_, rfl⟩ (.cons ru .nil), ⟨_, hT2, rfl, _, rfl⟩⟩
    have I1 : Inv X pins σ (upd H s.heap.objs.size (.tup [.int (i : Nat), x])) { s with heap := h'', toks := tk + 1 } :=
      I.turnedNew (ch := [e, it]) (fun b ob hb q => (sb.2 b (fun z => hb (by simp [z]))).trans (hk b ob (fun z => hb (by simp [z])) (fun z => hb (by simp [z])) q)) hf (Nat.le_refl _) new
    refine ⟨.ref s.heap.objs.size, _, I1, rfl, ⟨_, x, rfl, I.hok.fresh (Nat.le_refl _), rfl, fun ys hy => by rw [I.tuple_inj hy hq]; exact hx⟩, ⟨⟨y, ?_⟩, hit'.at fun o q => (sb.2 it (Ne.symm hne)).trans q, hne, hai, hae⟩, fun b hb => ?_⟩
    · have e1 : ((i + 1 : Nat) : Int) = (i : Int) + 1 := by omega
      rw [e1]; exact he'
    · have hb' : b < s.heap.objs.size := by
        have e' : b = e ∨ b = it := by simpa using hb
        rcases e' with z | z
        · rw [z]; exact hel
        · rw [z]; exact hil
      rw [upd_ne (Nat.ne_of_lt hb')]
      exact (hf b hb).1
  done := by
    intro X hP hw hK hc i pins s σ H E I hf st hg
    subst hP hw hK
    obtain ⟨⟨old, he⟩, hit, hne, hai, hae⟩ := st
    obtain ⟨xs, hq, hx⟩ := hg
    obtain ⟨its, rv, p, hz⟩ := I.tuple hq
    obtain ⟨f0, f1, f2, f3, f4, f5⟩ := hf it (by simp)
    have hl := rv.length
    have hT0 : s.heap.IsTuple a its.toArray := p
    exact wpAny_pyNext_enum_endU (I.ok.hd hc) he hit hT0 (by simp; omega) fun h' eb => ⟨rfl, I.turned (t' := s.toks) (fun b o hb q => eb b o hb q) f0 f1 f3 f4 f5⟩
  self := fun A i s Q E st h => let ⟨⟨_, he⟩, _⟩ := st; wpAny_pyIter_enum he h
def iEnumT (K : PySem.W.Frag) (ta : TA) : TI := fun σ H R => ta σ H fun vs H1 => ∃ a xs, vs = [.ref a] ∧ SqT K H1 a xs ∧ R (ItuE K a) H1
theorem pi_enumT {X : Cx} {e : Expr} {ta : TA} {p pos tpos : Pos} {elts : List Expr} {kk : Nat} (hg : Gl X "enumerate") (hm : X.mg "enumerate" = none) (ha : PA X [e] ta) (hs : starEach [e] X.env = [(false, eval e X.env)] := by rfl) :
    PI X (.Tuple elts kk tpos) (.Call (.Name "enumerate" p) [e] [] pos) (iEnumT X.K ta) := by
  refine ⟨fun pins s σ H R I h => ?_⟩
  refine Call_ (ld_blt I hg hm boot_enumerate (PyProof.Rows.callWith_type1 (thn (ha.run pos pins s σ H _ I h) fun us s1 ⟨vs, H1, I1, r1, q1⟩ => ?_) hs rfl))
  obtain ⟨a, xs, ex, hq, q⟩ := q1
  subst ex
  cases r1 with
  | cons r rr =>
    cases rr
    cases r
    obtain ⟨its, rv, p', hz⟩ := I1.tuple hq
    have hT0 : s1.heap.IsTuple a its.toArray := p'
    have hal : a < s1.heap.objs.size := by obtain ⟨_, q, _⟩ := hT0; exact Heap.lt_size q
    refine call_enumerate_tup hT0 fun h' he hit hsz hk => wpAny_pyIter_enum he ?_
    have I2 : Inv X pins σ H1 { s1 with heap := h' } := I1.kept (t' := s1.toks) hk
    refine ⟨s1.heap.objs.size + 1, [s1.heap.objs.size + 1, s1.heap.objs.size], _, _, H1, rfl, I2, turn_enumT a (s1.heap.objs.size + 1) s1.heap.objs.size, ⟨⟨.none, he⟩, hit, Nat.succ_ne_self _, Nat.ne_of_lt hal, Nat.ne_of_lt (Nat.lt_succ_of_lt hal)⟩, fun b hb => ?_, q⟩
    have e' : b = s1.heap.objs.size + 1 ∨ b = s1.heap.objs.size := by simpa using hb
    have hle : s1.heap.objs.size ≤ b := by
      rcases e' with z | z
      · rw [z]; exact Nat.le_add_right _ _
      · rw [z]; exact Nat.le_refl _
    exact I1.fpOk hle (I1.hok.fresh hle)
end L2
namespace L2
open PySem PySem.Spec PyProof.Rows
theorem for_enumT {K : PySem.W.Frag} {a : Addr} {xs : List V} {g : TG} {tb : TS} {D : Ends} {σ : St} {H : Hp} (Pv : Nat → St → Hp → Prop) (h0 : Pv 0 σ H) (hl : ∀ i σ H, i ≤ xs.length → Pv i σ H → SqT K H a xs)
    (hs : ∀ i x σ H T, xs[i]? = some x → Pv i σ H → H T = none → g (.ref T) σ (upd H T (.tup [.int (i : Nat), x])) fun σ2 H2 => tb { D with nx := Pv (i + 1), ct := Pv (i + 1), bk := D.nx } σ2 H2)
    (hd : ∀ σ H, Pv xs.length σ H → D.nx σ H) :
    ∃ W : Nat → Nat → St → Hp → Prop, (∃ m, W 0 m σ H) ∧ ∀ i m σ H, W i m σ H →
      ((ItuE K a).stop i H ∧ D.nx σ H) ∨ ((ItuE K a).go i H ∧ ∃ N : St → Hp → Prop, (∀ σ' H', N σ' H' → ∃ m', m' < m ∧ W (i + 1) m' σ' H') ∧ ∀ x H', (ItuE K a).yld i H x H' → g x σ H' fun σ2 H2 => tb { D with nx := N, ct := N, bk := D.nx } σ2 H2) := by
  refine ⟨fun i m σ H => m = xs.length - i ∧ i ≤ xs.length ∧ Pv i σ H, ⟨xs.length, by simp, Nat.zero_le _, h0⟩, fun i m σ H hW => ?_⟩
  obtain ⟨em, hi, p⟩ := hW
  have q := hl i σ H hi p
  by_cases hlt : i < xs.length
  · refine .inr ⟨⟨xs, xs[i], q, List.getElem?_eq_getElem hlt⟩, Pv (i + 1), fun σ' H' p' => ⟨xs.length - (i + 1), by omega, rfl, hlt, p'⟩, fun x H' y => ?_⟩
    obtain ⟨T, x', ev, nT, eH, hx⟩ := y
    subst ev eH
    exact hs i x' σ H T (hx xs q) p nT
  · have ei : i = xs.length := by omega
    subst ei
    exact .inl ⟨⟨xs, q, Nat.le_refl _⟩, hd σ H p⟩
end L2

namespace L2
open PySem PySem.Spec PyProof.Rows
/-! ### o.m(e, .., k = v, ..) -/
def tMethN (C : Addr) (m : Str) (n j : Nat) (sp : Sp) (gV : List V → List V → List V) (E : XK) (ta : TE) (t tk : TA) : TE := fun σ H Q => ta σ H fun x H1 => ∃ a dx fs, x = .ref a ∧ H1 a = some (.ins C dx fs) ∧ fs.lookup m = none ∧
  t σ H1 fun vs H2 => tk σ H2 fun zs H3 => vs.length + 1 = n ∧ zs.length = j ∧ sp (gV (x :: vs) zs) H3 Q E
section
variable {X : Cx} {CX : CXT} {k n : Nat} {f C : Addr} {fd : FuncData} {ps ks : List Str} {sp : Sp} {E : XK} {m : Str} {pos apos : Pos} {e o : Expr} {es : List Expr} {kws : List Keyword} {ta : TE} {t tk : TA} {g : List Value → List Value → List Value} {gV : List V → List V → List V}
theorem pe_methN {pl : Sem Bool} (he : PE X o ta) (c : Cls X.K C) (hm : Meth X.K C m f) (F : FnOk X.prog X.w X.K X.mg X.base CX k f fd ps sp) (hr : Room k X.A) (hb : KBn X.K fd ps n ks g gV) (hx : Passes CX X E) (ha : PA X (e :: es) t) (hkw : PK X kws tk)
    (hall : (backToKw pos (keywordEach kws X.env)).all (·.1.isSome) = true := by rfl) (hks : (backToKw pos (keywordEach kws X.env)).filterMap (·.1) = ks := by rfl)
    (hst : starEach (e :: es) X.env = (false, eval e X.env) :: starEach es X.env := by rfl)
    (hpl : ((backTo pos (starEach (e :: es) X.env)).any (·.1) || (backToKw pos (keywordEach kws X.env)).any (·.1.isNone)) = false := by rfl)
    (ht : eval (.Call (.Attribute o m apos) (e :: es) kws pos) X.env = (do
      let ov ← eval o X.env
      standAt apos.atName
      let (f, first) ← holding [ov] (getMethod ov m pl)
      callWith pos f first (backTo pos (starEach (e :: es) X.env)) (backToKw pos (keywordEach kws X.env))) := by rfl) :
    PE X (.Call (.Attribute o m apos) (e :: es) kws pos) (tMethN C m n ks.length sp gV E ta t tk) := by
  refine ⟨fun pins s σ H Q I h => PySem.W.methodCall_KW (pl := pl) (thn (he.run pins s σ H _ I h) fun u s1 ⟨x, H1, I1, rx, a, dx, fs, ex, ea, l, q⟩ => ?_) ht⟩
  subst ex
  obtain rfl : u = Value.ref a := rx
  refine getmeth_ok I1 ea c hm l ?_
  refine PySem.W.callWith_KW (first := [.ref a]) (h₀ := X.base) I.ok.mod.kin hm.kp hall (thn (ha.run pos pins s1 σ H1 _ I1 q) fun us s2 ⟨vs, H2, I2, r, q2⟩ => ?_) hpl hst
  refine thn (hkw.run pos pins s2 σ H2 _ I2 q2) fun ws s3 ⟨zs, H3, I3, rz, l1, l2, q3⟩ => ⟨I3.kIn, ?_⟩
  rw [hks]
  exact run_fnN (us := .ref a :: us) (vs := .ref a :: vs) F hr hb hx I3 (.cons rfl r) rz l1 l2 q3
end
section
variable {P : Program} {w : World} {K : PySem.W.Frag} {mg : Str → Option Value} {base : Heap} {x qual : Str} {params : Arguments} {body : List Stmt} {scope : Scope} {dvs : List V} {kws : List (Str × V)} {f : Addr} {fd : FuncData}
/-- a def with defaults that lets nothing out -/
theorem FunD.ok0 {N ps : List Str} {k : Nat} {sp : Sp} (F : FunD K x qual params body scope dvs kws f fd) (S : FnScope N ps scope) (len : ∀ vs H Q E, sp vs H Q E → vs.length = ps.length)
    (hb : ∀ (cdv : Value) (A : Around) (outer : List Env) (s : Shared) (H : Hp) (vs : List V) (Q : VK) (E : XK), Room k (A.deeper (envOfC qual scope s.heap.objs.size f cdv)) → sp vs H Q E →
      ∃ t, PSs (cxOf CX0 P w K mg base N qual scope f cdv A outer s H E).nox body t ∧ t { nx := fun _ H' => Q .non H', rt := Q } (start N vs) H) : FnOk P w K mg base CX0 (k + 1) f fd ps sp :=
  F.ok S len fun cdv A outer s H vs Q E hr h => (hb cdv A outer s H vs Q E hr h).elim fun t ⟨h1, h2⟩ => ⟨t, h1.nox, h2⟩
end
end L2

namespace L2
open PySem PySem.Spec PyProof.Rows
/-! ### x op y by an own def of the class of both -/
def rOwnI (C : Addr) (sp : Sp) (E : XK) : R2 := fun x y H Q => ∃ a dx fs b dy gs, x = .ref a ∧ y = .ref b ∧ H a = some (.ins C dx fs) ∧ H b = some (.ins C dy gs) ∧ sp [x, y] H Q E
section
variable {X : Cx} {CX : CXT} {n : Nat} {C g : Addr} {fd : FuncData} {ps : List Str} {sp : Sp} {E : XK}
theorem op_cmpI {op : CmpOp} (hop : ∀ a b, compareOp op a b = richCompare op a b) (hs : PySem.W.findIn X.K (.ref C) (cmpInfo op).2.1 = some (some (.ref g))) (hf : PySem.W.isFn X.K (.ref g) = true)
    (F : FnOk X.prog X.w X.K X.mg X.base CX n g fd ps sp) (hr : Room n X.A) (hb : Binds X.K fd ps []) (hx : Passes CX X E) : OpR X (compareOp op) (rOwnI C sp E) := by
  intro pins s σ H x y v u Q I rx ry h
  obtain ⟨a, dx, fs, b, dy, gs, rfl, rfl, ha, hb', q⟩ := h
  cases rx
  cases ry
  obtain ⟨mA, J, _⟩ := ins_get I.hok ha
  obtain ⟨mB, J', _⟩ := ins_get I.hok hb'
  obtain ⟨od, J, _⟩ := J.look
  obtain ⟨od', J', _⟩ := J'.look
  obtain ⟨m, hF⟩ := I.fr
  rw [hop]
  refine PySem.W.cmp_K (op := op) (tb := .ref C) hr.units0 hF I.ok.mod.kin J J'.type (by simp [PySem.W.notFirst]) hs hf ?_
  refine wpAny_mono (run_fn (us := [.ref a, .ref b]) (vs := [.ref a, .ref b]) (dvs := []) F hr hb .nil hx I (.cons rfl (.cons rfl .nil)) q) (fun w s' z => ?_) fun _ _ x => x
  obtain ⟨z', H', I', rz, qz⟩ := z
  exact SlX.cmpback rz ⟨z', H', I', rz, qz⟩
theorem op_binI {op : Operator} (hc : PySem.W.selfFirst X.K C = true) (hs : PySem.W.findIn X.K (.ref C) (PySem.dunder op.info.2) = some (some (.ref g))) (hf : PySem.W.isFn X.K (.ref g) = true)
    (F : FnOk X.prog X.w X.K X.mg X.base CX n g fd ps sp) (hr : Room n X.A) (hb : Binds X.K fd ps []) (hx : Passes CX X E) : OpR X (binaryOp op) (rOwnI C sp E) := by
  intro pins s σ H x y v u Q I rx ry h
  obtain ⟨a, dx, fs, b, dy, gs, rfl, rfl, ha, hb', q⟩ := h
  cases rx
  cases ry
  obtain ⟨mA, J, _⟩ := ins_get I.hok ha
  obtain ⟨mB, J', _⟩ := ins_get I.hok hb'
  obtain ⟨od, J, _⟩ := J.look
  obtain ⟨od', J', _⟩ := J'.look
  obtain ⟨m, hF⟩ := I.fr
  refine PySem.W.binop_K (op := op) hF I.ok.mod.kin J J'.type hc hs hf ?_
  refine wpAny_mono (run_fn (us := [.ref a, .ref b]) (vs := [.ref a, .ref b]) (dvs := []) F hr hb .nil hx I (.cons rfl (.cons rfl .nil)) q) (fun w s' z => ?_) fun _ _ x => x
  obtain ⟨z', H', I', rz, qz⟩ := z
  exact SlX.cmpback rz ⟨z', H', I', rz, qz⟩
end
end L2

/-! ### errors whose __init__ says super().__init__(text) and stores one field -/
namespace PySem
namespace WX
open PySem.W PySem.Calls PyProof.Rows PySem.HandSPX
def iB (fl tx : Str) (q1 q2 q3 q4 q5 q6 q7 q8 q9 q10 : Pos) (j : Nat) : List Stmt :=
  [.Expr (.Call (.Attribute (.Call (.Name "super" q1) [] [] q2) "__init__" q3) [.Constant (.str tx) j q4] [] q5) q6, .Assign [.Attribute (.Name "self" q7) fl q8] (.Name fl q9) q10]
/-- what the top has written of the class cn, at C, and of its __init__, at fI -/
structure ExcTxt (P : Program) (K : Frag) (mg : Str → Option Value) (cn fl : Str) (C : Addr) where
  gC : mg cn = some (.ref C)
  cls : ∃ nm q N bs bm sn sub ab col dd k0 k1 k2 k3 k5, K.lookup C = some (excClassObj nm q C N bs bm true sn sub ab col dd k0 k1 k2 k3 k5 "ValueError.__new__") ∧ refsVE bm = true
  sa : findIn K (.ref C) "__setattr__" = some (some (.builtin "object.__setattr__"))
  ga : findIn K (.ref C) "__getattribute__" = some (some (.builtin "BaseException.__getattribute__"))
  gg : findIn K (.ref C) "__getattr__" = some none
  noN : findIn K (.ref C) fl = some none
  kC : keepIn K (.ref C) = true
  exC : subIn K (.ref C) (.type "BaseException") = some true
  tyC : typeIn K (.ref C) = some (.type "type")
  hdC : hasDictIn K C = true
  D : Addr
  clsD : ∃ oD cdD, K.lookup D = some oD ∧ oD.data = .cls cdD
  fI : Addr
  qual : Str
  tx : Str
  S : Stmt
  oc : Value
  od : Option Addr
  kV : Value
  doc : Value
  pm : Value
  an : Option Addr
  cda : Addr
  ct : Value
  osl : Array (Option Value)
  cc : Addr
  cl : Value
  cld : Option Addr
  csl : Array (Option Value)
  ccl : Value
  cdd : Option Addr
  vs : Array Value
  ccs : Array (Option Value)
  file : Str
  tf : Tok
  q1 : Pos
  q2 : Pos
  q3 : Pos
  q4 : Pos
  q5 : Pos
  q6 : Pos
  q7 : Pos
  q8 : Pos
  q9 : Pos
  q10 : Pos
  j : Nat
  pl : Sem Bool
  iC : findIn K (.ref C) "__init__" = some (some (.ref fI))
  tI : typeIn K (.ref fI) = some (.type "function")
  lI : K.lookup fI = some ⟨oc, od, .func (ksFn "__init__" qual (L2.defArgs S) (L2.defBody S) (L2.defScope S) .none kV doc pm an (.ref cda) ct cc), osl⟩
  cI : codeIn K (.ref cda) qual = true
  lcc : K.lookup cc = some ⟨cl, cld, .cell (some (.ref D)), csl⟩
  lcd : K.lookup cda = some ⟨ccl, cdd, .fields vs, ccs⟩
  hvs : vs[2]? = some (.str file tf)
  hfile : ((P.main.file : Str) == file) = true
  hpar : ∃ ar : Arg, ((L2.defArgs S).posonlyargs ++ (L2.defArgs S).args).head? = some ar ∧ ar.arg = "self"
  hbody : L2.defBody S = iB fl tx q1 q2 q3 q4 q5 q6 q7 q8 q9 q10 j
  hbind : ∀ x v : Value, bindArgs (ksFn "__init__" qual (L2.defArgs S) (L2.defBody S) (L2.defScope S) .none kV doc pm an (.ref cda) ct cc) ⟨[x, v], []⟩ = pure [(("self" : Str), x), (fl, v)]
  hev : ∀ L f : Addr, eval (.Call (.Attribute (.Call (.Name "super" q1) [] [] q2) "__init__" q3) [.Constant (.str tx) j q4] [] q5) (ksEnv qual (L2.defScope S) L f (.ref cda) cc) = (do
      let ov ← attributeBase (.Call (.Name "super" q1) [] [] q2) "__init__" (ksEnv qual (L2.defScope S) L f (.ref cda) cc) (eval (.Call (.Name "super" q1) [] [] q2) (ksEnv qual (L2.defScope S) L f (.ref cda) cc))
      standAt q3.atName
      let (g, first) ← holding [ov] (getMethod ov "__init__" pl)
      callWith q5 g first (backTo q5 (starEach [.Constant (.str tx) j q4] (ksEnv qual (L2.defScope S) L f (.ref cda) cc))) [])
  hk : (L2.defScope S).kind = .function
  hco : (L2.defScope S).isCoroutine = false
  hgen : (L2.defScope S).isGenerator = false
  hks : (L2.defScope S).names.lookup ("super" : Str) = some .globalImplicit
  hkc : (L2.defScope S).names.lookup ("__class__" : Str) = some .free
  hself : (L2.defScope S).names.lookup ("self" : Str) = some .local
  hfl : (L2.defScope S).names.lookup fl = some .local
  hcell : ∀ y ∈ (L2.defScope S).names, y.2 ≠ .cell
  nf : ("self" : Str) ≠ fl ∧ (fl == ("__debug__" : Str)) = false
  top : (P.main.scope.names.lookup ("super" : Str)).isSome = false
  sup : mg "super" = none
  opq : nsIn K cStatics "thirdparty.any" = some none
  nxt : ks_superIn K C D "__init__" = some (some (.builtin "ValueError.__init__"))
  slf : mroIn K C (.ref D) = some true
  sub : subIn K (.ref C) (.type "ValueError") = some true
section
variable {P : Program} {w : World} {A : Around} {E : Value → Shared → Prop} {R : Result → Shared → Prop} {s : Shared} {K : Frag} {mg : Str → Option Value} {cn fl : Str} {C : Addr}
/-- the method-wrapper of ValueError.__init__ called -/
theorem call_mw {h : Heap} {g : Array GenState} {d : Drawn} {t : Nat} {os : OsState} {nm q : Str} {N : Addr} {bs bm : List Value} {hdct : Bool} {sn : List Str} {sub : List Value} {ab : Bool} {col : Option Bool} {dd : Option Addr} {k0 k1 k2 k3 k5 : Option Value} {u e t0 : Addr} {rest : List Value} {Q : Value → Shared → Prop}
    (hC : h.get? C = some (excClassObj nm q C N bs bm hdct sn sub ab col dd k0 k1 k2 k3 k5 "ValueError.__new__")) (he : h.get? e = some (excO C t0)) (hu : h.get? u = some (kxs_mw "ValueError.__init__" e)) (hrest : rest.length ≤ sizeLine)
    (hq : ∀ h' t1, (∀ b o, b ≠ e → h.get? b = some o → h'.get? b = some o) → h'.get? e = some (excO C t1) → Q .none ⟨h', g, d, t, os⟩) :
    wpAny (model P w) A (call (.ref u) rest) Q E ⟨h, g, d, t, os⟩ := by
  refine wpAny_call (codeAny_of_tree ?_)
  show wpAny _ A.in1 (callAny (.ref u) ⟨rest, []⟩) _ _ _
  simp only [callAny]
  refine wpAny_bind (wpAny_load hu ?_)
  simp only [kxs_mw, show (Value.type "method-wrapper" == Value.type "method" || Value.type "method-wrapper" == Value.type "builtin_function_or_method" || Value.type "method-wrapper" == Value.type "method-wrapper") = true by decide, if_true]
  refine KFB.if_so (by decide) (wpAny_bind (check_bound_init PySem.F.excBase_ValueError.toExcCallFacts hC he rfl (wpAny_bind (wpAny_pure (wpAny_pure ?_)))))
  refine ⟨plainId_quiet PySem.F.excBase_ValueError.init.plain _, codeAny_builtin PySem.F.excBase_ValueError.initEntry ?_⟩
  exact exc_init_tree (cls := .ref C) (t0 := t0) (dv := none) (c2 := .none) (c3 := .none) (b4 := .bool false) he hrest fun h' k e' _ => hq h' _ k e'
/-- what __init__ leaves of a fresh exception at x -/
structure InitEnd (h h' : Heap) (x C dx : Addr) (fl : Str) (v : Value) : Prop where
  keep : ∀ b o, b ≠ x → h.get? b = some o → h'.get? b = some o
  obj : ∃ t1 : Addr, h'.get? x = some { cls := .ref C, dict := some dx, data := .fields #[.ref t1, .none, .none, .none, .bool false, .none] }
  dbig : h.objs.size ≤ dx
  dne : dx ≠ x
  ns : h'.Ns1 dx (fun y => if y = fl then some v else none)
theorem x_init (T : ExcTxt P K mg cn fl C) {x t0 : Addr} {v : Value} (X : K.In s.heap) (hlim : s.heap.NoLimit) (hG : s.heap.Ns mainGlobals mg) (hB : ∃ mb, s.heap.Ns builtinsNs mb ∧ ∀ y : Str, y ≠ "__name__" → mb y = bootBuiltins y)
    (hx : s.heap.get? x = some (excO C t0)) (hnx : K.lookup x = none) (hroom : A.depth < recursionLimit)
    (hq : ∀ h' tk dx, InitEnd s.heap h' x C dx fl v → R (.ok (.ret .none)) { s with heap := h', toks := tk }) :
    codeAny (model P w) A (.call (.ref T.fI) ⟨[.ref x, v], []⟩) R s := by
  obtain ⟨nm, q, N, bs, bm, sn, sub, ab, col, dd, k0, k1, k2, k3, k5, hC, hbm⟩ := T.cls
  obtain ⟨oD, cdD, hD, hDd⟩ := T.clsD
  have hcl : clsIn K C = some { name := nm, bases := bs, mro := .ref C :: bm, ns := N, qualname := q, hasDict := true, slotNames := sn, subclasses := sub, abstract := ab, collection := col, hasDel := false } := by unfold clsIn; rw [hC] <;> rfl
  have hxC : x ≠ C := fun z => by
    have e1 := X _ _ hC
    rw [← z, hx] at e1
    have e2 := congrArg (fun o : Option Obj => o.map (·.data)) e1
    simp [excO, excClassObj] at e2
  have ho := T.lI
  refine ks_codeAny_call_defAt (fd := ksFn "__init__" T.qual (L2.defArgs T.S) (L2.defBody T.S) (L2.defScope T.S) .none T.kV T.doc T.pm T.an (.ref T.cda) T.ct T.cc) (body := L2.defBody T.S) (binds := [("self", .ref x), (fl, v)])
    hroom (X _ _ ho) rfl hlim (codeRec_of X T.cI) rfl (BindsTo.of_eq (T.hbind _ _)) T.hcell ?hloc (fun h₁ hns hk₁ => ?_) T.hco T.hgen T.hk
  case hloc =>
    intro y hy
    simp only [List.mem_cons, List.not_mem_nil, or_false] at hy
    rcases hy with rfl | rfl
    · exact T.hself
    · exact T.hfl
  have X₁ : K.In h₁ := X.keeps hk₁
  have hx₁ := hk₁ _ _ hx
  have ms : (fun y : Str => ([("self", Value.ref x), (fl, v)] : List (Str × Value)).reverse.lookup y) "self" = some (.ref x) := by
    have z : (("self" : Str) == fl) = false := by simpa using T.nf.1
    simp [List.lookup, z]
  have mf : (fun y : Str => ([("self", Value.ref x), (fl, v)] : List (Str × Value)).reverse.lookup y) fl = some v := by simp [List.lookup]
  show wpAt _ (A.deeper (ksEnv T.qual (L2.defScope T.S) s.heap.objs.size T.fI (.ref T.cda) T.cc)) (.func (L2.defBody T.S) (ksEnv T.qual (L2.defScope T.S) s.heap.objs.size T.fI (.ref T.cda) T.cc)) (execs (L2.defBody T.S) (ksEnv T.qual (L2.defScope T.S) s.heap.objs.size T.fI (.ref T.cda) T.cc)) _ _ _
  rw [T.hbody]
  refine ks_wpAt_execs_cons (ks_wpAt_Expr_any (ks_wpAt_MethodCall ?_ (T.hev _ _)) (by unfold interactive; show ((L2.defScope T.S).kind == .module && _) = false; rw [T.hk]; rfl))
  obtain ⟨ar, hp, har⟩ := T.hpar
  obtain ⟨mb, hB1, hB2⟩ := hB
  refine ks_wpAt_super_base T.hks T.hkc (by decide +kernel) rfl (hk₁ _ _ (X _ _ ho)) rfl hp rfl (hk₁ _ _ (X _ _ T.lcd)) rfl T.hvs T.hfile T.top ?_
  refine ks_loadName_global T.hk T.hks (loadGlobal_builtin (hG.keeps hk₁) T.sup (hB1.keeps hk₁) ((hB2 _ (by decide +kernel)).trans PyProof.Rows.Boot.«super») ⟨rfl, ?_⟩)
  refine wpAny_loadName_free T.hk T.hkc rfl ⟨_, X₁ _ _ T.lcc, rfl⟩ ?_
  rw [har]
  refine wpAny_loadName_local T.hk T.hself hns ms ?_
  refine ks_wpAny_isType_cls (X₁ _ _ hD) hDd ⟨rfl, ?_⟩
  refine ks_wpAny_call_super (X₁ _ _ hD) hDd hx₁ rfl (fun c e => by cases e) (looks_mroIn X₁ T.slf) (fun h₂ e₂ k₂ => ?_)
  have X₂ : K.In h₂ := X₁.keeps k₂
  have hx₂ := k₂ _ _ hx₁
  have I₂ : InstAt h₂ x (excO C t0) C none := ⟨hx₂, rfl, rfl, trivial⟩
  have hnxt : alongIn K "__init__" (((Value.ref C :: bm).dropWhile (· != .ref T.D)).drop 1) = some (some (.builtin "ValueError.__init__")) := by
    have z := T.nxt
    unfold ks_superIn at z
    rw [hcl] at z
    exact z
  refine kxs_getMethod kxs_ValueError e₂ (looks_opaque X₂ T.opq) (l₀ := Value.ref C :: bm) (fun A Q E s k q => wpAny_bind ((looks_clsIn X₂ hcl) A _ E s k (wpAny_pure q))) rfl X₂ hnxt (I₂.type.andThen (looks_subIn X₂ T.sub)) hxC (by decide +kernel) ?_
  have k₃ : ∀ b o, h₂.get? b = some o → (h₂.push (kxs_mw "ValueError.__init__" x)).get? b = some o := fun b o e => Heap.get?_push_of_some _ e
  refine kxs_callWith (i := "ValueError.__init__") (x := x) rfl (evalArgs_plain (spliced_more (wpAny_Constant_str (spliced_none ?_))))
  refine ⟨Heap.get?_push_at rfl rfl, ?_⟩
  refine call_mw (k₃ _ _ (X₂ _ _ hC)) (k₃ _ _ hx₂) (Heap.get?_push_at rfl rfl) (by show 1 ≤ sizeLine; decide) fun h₄ t1 k₄ hx₄ => ?_
  have k14 : ∀ b o, b ≠ x → h₁.get? b = some o → h₄.get? b = some o := fun b o hb e => k₄ b o hb (k₃ _ _ (k₂ _ _ e))
  have hxL : s.heap.objs.size ≠ x := Nat.ne_of_gt (Heap.lt_size hx)
  have hns₄ : h₄.Ns s.heap.objs.size (fun y : Str => ([("self", Value.ref x), (fl, v)] : List (Str × Value)).reverse.lookup y) := by
    obtain ⟨oL, es, ep, hL, r⟩ := hns
    exact ⟨oL, es, ep, k14 _ _ hxL hL, r⟩
  have X₄ : K.In h₄ := fun b o e => k14 b o (fun z => by rw [z, hnx] at e; cases e) (X₁ _ _ e)
  refine ks_wpAt_execs_cons (ks_wpAt_Assign_Attr (wpAt_of_wpAny (wpAny_Name (wpAny_loadName_local T.hk T.hfl hns₄ mf ?_) T.nf.2)))
  refine wpAny_Name (wpAny_loadName_local T.hk T.hself hns₄ ms ?_)
  refine set_plain X₄ (ox := excO C t1) (od := none) ⟨hx₄, rfl, rfl, trivial⟩ T.sa ?_
  refine exc_osa X₄ hx₄ hcl (show refsVE (.ref C :: bm) = true from hbm) rfl T.noN (fun h₅ tk₅ dx k₅ dn dne hx₅ hn₅ => ?_)
  exact wpAt_of_wpAny (wpAny_execs_nil (hq h₅ tk₅ dx ⟨fun b o hb e => k₅ b o hb (k14 b o hb (hk₁ b o e)), ⟨t1, hx₅⟩, Nat.le_trans (Nat.le_of_lt hns₄.lt) dn, dne, hn₅⟩))
/-- a made error -/
structure OwnMade (h h' : Heap) (e C d : Addr) (fl : Str) (v : Value) : Prop where
  keep : ∀ b o, h.get? b = some o → h'.get? b = some o
  new : h.objs.size ≤ e
  obj : ∃ oe vs, h'.get? e = some oe ∧ oe.cls = .ref C ∧ oe.dict = some d ∧ oe.data = .fields vs ∧ vs[1]? = some .none
  dbig : h.objs.size ≤ d
  dne : d ≠ e
  ns : h'.Ns1 d (fun y => if y = fl then some v else none)
theorem x_made (T : ExcTxt P K mg cn fl C) {v : Value} (X : K.In s.heap) (hlim : s.heap.NoLimit) (hG : s.heap.Ns mainGlobals mg) (hB : ∃ mb, s.heap.Ns builtinsNs mb ∧ ∀ y : Str, y ≠ "__name__" → mb y = bootBuiltins y) (hroom : A.depth + 1 < recursionLimit)
    (hq : ∀ h' tk e d, OwnMade s.heap h' e C d fl v → R (.ok (.ret (.ref e))) { s with heap := h', toks := tk }) :
    codeAny (model P w) A (.call (.ref C) ⟨[v], []⟩) R s := by
  obtain ⟨nm, q, N, bs, bm, sn, sub, ab, col, dd, k0, k1, k2, k3, k5, hC, hbm⟩ := T.cls
  obtain ⟨hp, g, dr, tk, os⟩ := s
  have k : ∀ b o, hp.get? b = some o → ((hp.push (kdv_tup [v])).push (excO C hp.objs.size)).get? b = some o := fun b o e => Heap.get?_push_of_some _ (Heap.get?_push_of_some _ e)
  have hget : ((hp.push (kdv_tup [v])).push (excO C hp.objs.size)).get? (hp.objs.size + 1) = some (excO C hp.objs.size) := by heap_get
  have hnx : K.lookup (hp.objs.size + 1) = none := by
    cases e : K.lookup (hp.objs.size + 1) with
    | none => rfl
    | some o => exact absurd (Nat.lt_of_succ_lt (Heap.lt_size (show hp.get? (hp.objs.size + 1) = some o from X _ _ e))) (Nat.lt_irrefl _)
  obtain ⟨mb, hB1, hB2⟩ := hB
  refine call_own PySem.F.excBase_ValueError (fun X => refsVE_contains X bm hbm) (X _ _ hC) (looks_findIn X T.iC) (fun self => bind_fn X self T.tI) (by show 1 ≤ sizeLine; decide) ?_
  refine x_init (s := ⟨(hp.push (kdv_tup [v])).push (excO C hp.objs.size), g, dr, tk, os⟩) T (X.keeps k) (hlim.keeps k) (hG.keeps k) ⟨mb, hB1.keeps k, hB2⟩ hget hnx (show A.depth + 1 < recursionLimit from hroom) fun h' tk' dx ⟨k', ⟨t1, hx⟩, dn, dne, hns⟩ => ?_
  have old : ∀ b o, hp.get? b = some o → h'.get? b = some o := fun b o e => k' b o (Nat.ne_of_lt (Nat.lt_succ_of_lt (Heap.lt_size e))) (k b o e)
  have z : hp.objs.size + 1 + 1 ≤ dx := by
    first
      | (simpa only [Heap.size_push] using dn)
      | exact dn
      | (have q := dn; rw [Heap.size_push, Heap.size_push] at q; exact q)
  exact ⟨rfl, hq h' tk' (hp.objs.size + 1) dx ⟨old, Nat.le_succ _, ⟨_, _, hx, rfl, rfl, rfl, rfl⟩, Nat.le_trans (Nat.le_trans (Nat.le_succ _) (Nat.le_succ _)) z, dne, hns⟩⟩
end
end WX
end PySem
namespace L2
open PySem PySem.Spec PyProof.Rows
theorem relO_x {v : V} {v' : Value} (fl : Str) (r : RelV v v') (f : Str) : RelO (List.lookup f [(fl, v)]) (if f = fl then some v' else none) := by
  by_cases hw : f = fl
  · subst hw
    rw [if_pos rfl, show List.lookup f [(f, v)] = some v by simp [List.lookup]]
    exact r
  · rw [if_neg hw, show List.lookup f [(fl, v)] = none by simp [List.lookup, show (f == fl) = false by simpa using hw]]
    trivial
section
variable {X : Cx} {C : Addr} {cn fl : Str}
/-- cn(e) -/
def tMkX (C : Addr) (fl : Str) (ta : TA) : St → Hp → XK → Prop := fun σ H Q => ta σ H fun vs H1 => ∃ v, vs = [v] ∧ ∀ d, H1 d = none → Q (.ref C) (some d) (upd H1 d (.xd [(fl, v)]))
theorem pmk_x {a : Expr} {ta : TA} {p pos : Pos} {k : Nat} (T : PySem.WX.ExcTxt X.prog X.K X.mg cn fl C) (hr : Room k X.A) (ha : PA X [a] ta) (hg : Gl X cn := by rfl) (hdb : (cn == ("__debug__" : Str)) = false := by decide)
    (he : starEach (a :: []) X.env = (false, eval a X.env) :: starEach [] X.env := by rfl) (hpl : (backTo pos (starEach [] X.env)).any (·.1) = false := by rfl) :
    PMk X (.Call (.Name cn p) [a] [] pos) (tMkX C fl ta) := by
  intro pins s σ H Q I h
  refine wpAny_Call_Name_kw (ld_glob I hg T.gC ?_ hdb)
  refine PySem.W.callWith_K (h₀ := X.base) I.ok.mod.kin T.kC (thn (ha.run pos pins s σ H _ I h) fun us s1 hh => ?_) he hpl
  obtain ⟨vs, H1, I1, r1, v, ev, q1⟩ := hh
  subst ev
  refine ⟨I1.kIn, ?_⟩
  cases r1 with
  | cons rv rn =>
    rename_i v' us'
    cases rn
    show wpAny _ _ (call (.ref C) [v']) _ _ _
    have hlim := I1.nolimit
    have hG := I1.mod.glob.keeps I1.bk
    obtain ⟨mb, hB1, hB2⟩ := I1.mod.blt
    have hB1' := hB1.keeps I1.bk
    obtain ⟨hp, g, dr, tk, os⟩ := s1
    refine wpAny_call (PySem.WX.x_made T I1.kIn hlim hG ⟨mb, hB1', hB2⟩ (by have := hr.dp; omega) fun h' tk' e d M => ?_)
    show MkP X pins σ Q (.ref e) ⟨h', g, dr, tk', os⟩
    obtain ⟨oe, fv, hoe, hc, hd, hdat, h1⟩ := M.obj
    obtain ⟨G', g1, g2⟩ := restrict h' fun b => decide (b ≠ e)
    have gk : ∀ b, b ≠ e → G'.get? b = h'.get? b := fun b hb => g1 b (decide_eq_true hb)
    have ge : G'.get? e = none := g2 e (by simp)
    have old : ∀ b o, hp.get? b = some o → G'.get? b = some o := fun b o q => (gk b (Nat.ne_of_lt (Nat.lt_of_lt_of_le (Heap.lt_size q) M.new))).trans (M.keep b o q)
    have ob : ObjOk X.prog X.w (upd H1 d (.xd [(fl, v)])) G' d (.xd [(fl, v)]) := ⟨_, M.ns.at (fun o q => (gk d M.dne).trans q), fun f => relO_x fl rv f⟩
    have J : Inv X pins σ (upd H1 d (.xd [(fl, v)])) ⟨G', g, dr, tk', os⟩ := I1.laid (t' := tk') old M.dbig ob
    refine ⟨e, oe, fv, ⟨G', g, dr, tk', os⟩, _, .ref C, some d, rfl, J, fun b o q => ?_, ge, hoe, ⟨hc, hd⟩, hdat, h1, ?_, rfl, I1.bare, raises_own T.exC T.tyC, q1 d (I1.hok.fresh M.dbig)⟩
    · by_cases hb : b = e
      · have q' : G'.get? b = some o := q
        rw [hb, ge] at q'; cases q'
      · exact (gk b hb).symm.trans q
    · rw [upd_ne (Ne.symm M.dne)]
      exact I1.hok.fresh M.new
/-- raise cn(e) -/
def tRaiseX (C : Addr) (fl : Str) (W : WX) (ta : TA) : TS := fun _ σ H => tMkX C fl ta σ H fun cls d H' => W cls d σ H'
theorem ps_raiseX {a : Expr} {ta : TA} {W : WX} {p pos pos2 : Pos} {k : Nat} (hc : X.calm = true) (T : PySem.WX.ExcTxt X.prog X.K X.mg cn fl C) (hr : Room k X.A) (tk : Takes X W) (ha : PA X [a] ta) (hg : Gl X cn := by rfl) (hdb : (cn == ("__debug__" : Str)) = false := by decide)
    (he : starEach (a :: []) X.env = (false, eval a X.env) :: starEach [] X.env := by rfl) (hpl : (backTo pos (starEach [] X.env)).any (·.1) = false := by rfl) :
    PS X (.Raise (some (.Call (.Name cn p) [a] [] pos)) none pos2) (tRaiseX C fl W ta) := ps_raise hc tk (pmk_x T hr ha hg hdb he hpl)
end
end L2

namespace L2
open PySem PySem.Spec PyProof.Rows
/-! ### in an except suite: isinstance(e, c) and e.f, e an own error with a dict -/
structure XC (K : PySem.W.Frag) (D : Addr) : Prop where
  ga : PySem.W.findIn K (.ref D) "__getattribute__" = some (some (.builtin "BaseException.__getattribute__"))
  gg : PySem.W.findIn K (.ref D) "__getattr__" = some none
  hs : PySem.W.subIn K (.ref D) (.type "BaseException") = some true
  hd : PySem.W.hasDictIn K D = true
  ha : PySem.W.findIn K (.ref D) "__class__" = some (some (.builtin "object.__class__"))
  hn : PySem.W.specialIn K (.builtin "object.__class__") "__get__" = some (some (.builtin "getset_descriptor.__get__"))
  ht : PySem.W.takesIn K (.builtin "object.__class__") = some true
  hm : PySem.W.mroIn K D (.type "object") = some true
def rIsX (K : PySem.W.Frag) (a : Addr) (cls : Value) (d : Option Addr) : List V → Hp → VK → Prop := fun xs H Q => ∃ (D dd : Addr) (fs : List (Str × V)) (c : V) (cv : Value) (b : Bool), cls = .ref D ∧ d = some dd ∧ H dd = some (.xd fs) ∧ XC K D ∧ xs = [.ref a, c] ∧ ClsV c cv ∧ PySem.W.kitOne K (.ref D) cv = some b ∧ Q (.bl b) H
theorem call_isX {X : Cx} {a : Addr} {oe : Obj} {cls : Value} {d : Option Addr} {pn : List (Addr × Obj)} (hz : Zc cls d oe) (hf : ∃ vs, oe.data = .fields vs) : CallR (X.suite a ((a, oe) :: pn)) (.builtin "isinstance") (rIsX X.K a cls d) := by
  intro pins s σ H xs us Q I r h
  obtain ⟨D, dd, fs, c, cv, b, rfl, rfl, hdd, C, rfl, hcv, e, q⟩ := h
  cases r with
  | cons rx rr =>
    cases rr with
    | cons rt rr =>
      cases rr
      cases rx
      have ec := hcv.eq rt
      subst ec
      obtain ⟨hget, _⟩ := I.pin (a, oe) (List.mem_append.mpr (.inl List.mem_cons_self))
      obtain ⟨vs, hv⟩ := hf
      have hx : ObjOk X.prog X.w H s.heap dd (.xd fs) := I.hok dd _ hdd
      obtain ⟨mA, hns, hr⟩ := hx
      obtain ⟨od, ho, hl⟩ := lookIn_ns hns
      have J : PySem.W.InstAt s.heap a oe D (some od) := ⟨hget, hz.1, by unfold PySem.W.notCls; rw [hv] <;> rfl, by rw [hz.2]; exact ho⟩
      obtain ⟨cd, hc, _⟩ := PySem.W.any_some C.hd
      exact PySem.W.kia_one (PySem.W.kitx_exc (by rw [hc]; rfl) C.ga C.gg C.hs C.ha C.hn C.ht C.hm) I.kIn J e (fun z => nomatch z) fun tk => ⟨.bl b, H, I.kept (t' := tk) fun _ _ z => z, rfl, q⟩
/-- e.f: the reading names the class -/
def tXfX (K : PySem.W.Frag) (a : Addr) (cls : Value) (d : Option Addr) (f : Str) (te : TE) : TE := fun σ H Q => te σ H fun x H1 => x = .ref a ∧ ∃ (C dd : Addr) (fs : List (Str × V)) (v : V), cls = .ref C ∧ XC K C ∧ PySem.W.findIn K (.ref C) f = some none ∧ d = some dd ∧ H1 dd = some (.xd fs) ∧ fs.lookup f = some v ∧ Q v H1
theorem pe_xfX {X : Cx} {a : Addr} {oe : Obj} {cls : Value} {d : Option Addr} {pn : List (Addr × Obj)} {e : Expr} {te : TE} {pos : Pos} {n : Str}
    (hz : Zc cls d oe) (hf : ∃ vs, oe.data = .fields vs) (he : PE (X.suite a ((a, oe) :: pn)) e te) (hb : attributeBase e n X.env (eval e X.env) = eval e X.env := by rfl) :
    PE (X.suite a ((a, oe) :: pn)) (.Attribute e n pos) (tXfX X.K a cls d n te) := by
  refine ⟨fun pins s σ H Q I h => ?_⟩
  refine attr_of hb (thn (he.run pins s σ H _ I h) fun u s1 hh => ?_)
  obtain ⟨x, H1, I1, rx, ex, C, dd, fs, v, ec, T, hno, ed, ea, l, q⟩ := hh
  subst ex
  obtain rfl : u = Value.ref a := rx
  subst ec
  subst ed
  obtain ⟨ha, _⟩ := I1.pin (a, oe) (List.mem_append_left _ List.mem_cons_self)
  obtain ⟨vs, hd⟩ := hf
  have hx : ObjOk X.prog X.w H1 s1.heap dd (.xd fs) := I1.hok dd _ ea
  obtain ⟨mA, hns, hr⟩ := hx
  obtain ⟨od, ho, hl⟩ := lookIn_ns hns
  obtain ⟨u, hu, ru⟩ := RelO.some_of (v := v) (o := mA n) (by rw [← l]; exact hr n)
  have J : PySem.W.InstAt s1.heap a oe C (some od) := ⟨ha, hz.1, by unfold PySem.W.notCls; rw [hd] <;> rfl, by rw [hz.2]; exact ho⟩
  exact HandSPX.exc_get I1.kIn J T.ga T.gg T.hs (PySem.W.findObj_own T.hd hno rfl (by rw [hl, hu])) (handed_of ru) ⟨v, H1, I1.tok _, ru, q⟩
/-! ### calls in a try's body: the way out sees the slots -/
def tMethW (C : Addr) (m : Str) (sp : Sp) (dvs : List V) (E : St → XK) (ta : TE) (t : TA) : TE := fun σ H Q => tMeth C m sp dvs (E σ) ta t σ H Q
section
variable {X : Cx} {CX : CXT} {k : Nat} {f C : Addr} {fd : FuncData} {ps : List Str} {sp : Sp} {dvs : List V} {ds : List Value} {E : St → XK} {x m : Str} {p pos apos : Pos} {e o : Expr} {es : List Expr} {ta : TE} {t : TA}
theorem pe_methW {pl : Sem Bool} (he : PE X o ta) (c : Cls X.K C) (hm : Meth X.K C m f) (F : FnOk X.prog X.w X.K X.mg X.base CX k f fd ps sp) (hr : Room k X.A) (hb : Binds X.K fd ps ds) (hd : Vals dvs ds) (hx : ∀ σ, PassesAt CX X σ (E σ)) (ha : PA X (e :: es) t)
    (hst : starEach (e :: es) X.env = (false, eval e X.env) :: starEach es X.env := by rfl) (hpl : (backTo pos (starEach es X.env)).any (·.1) = false := by rfl)
    (ht : eval (.Call (.Attribute o m apos) (e :: es) [] pos) X.env = (do
      let ov ← eval o X.env
      standAt apos.atName
      let (f, first) ← holding [ov] (getMethod ov m pl)
      callWith pos f first (backTo pos (starEach (e :: es) X.env)) (backToKw pos (keywordEach [] X.env))) := by rfl) :
    PE X (.Call (.Attribute o m apos) (e :: es) [] pos) (tMethW C m sp dvs E ta t) := by
  refine ⟨fun pins s σ H Q I h => ?_⟩
  refine PySem.W.methodCall_KW (pl := pl) (thn (he.run pins s σ H _ I h) fun u s1 ⟨x, H1, I1, rx, a, dx, fs, ex, ea, l, q⟩ => ?_) ht
  subst ex
  obtain rfl : u = Value.ref a := rx
  refine getmeth_ok I1 ea c hm l ?_
  refine PySem.W.callWith_K (first := [.ref a]) (h₀ := X.base) I.ok.mod.kin hm.kp (thn (ha.run pos pins s1 σ H1 _ I1 q) fun us s2 ⟨vs, H2, I2, r, q2⟩ => ⟨I2.kIn, ?_⟩) hst hpl
  exact run_fnSD (us := .ref a :: us) (vs := .ref a :: vs) F hr hb hd (hx σ) I2 (.cons rfl r) q2
end
end L2

namespace L2
open PySem PySem.Spec PyProof.Rows
/-- a def that raises nothing where nothing may be raised -/
theorem FnOk.calm {P : Program} {w : World} {K : PySem.W.Frag} {mg : Str → Option Value} {base : Heap} {k : Nat} {f : Addr} {fd : FuncData} {ps : List Str} {sp : Sp} (F : FnOk P w K mg base (L2.CX P w) k f fd ps sp) :
    FnOk P w K mg base CX0 k f fd ps (fun vs H Q _ => sp vs H Q fun _ _ _ => False) :=
  ⟨fun vs H Q _ h => F.len vs H Q _ h, fun A outer s H args us vs Q _ hr he hb hv hs => codeAny_mono (F.run A outer s H args us vs Q _ hr he hb hv hs) fun r s' hq => by
    cases r with
    | error e =>
      obtain ⟨_, _, _, _, _, _, _, _, _, _, _, _, h⟩ := hq
      exact h.elim
    | ok fl =>
      cases fl with
      | ret u => exact hq
      | next => exact hq
      | brk => exact hq
      | cont => exact hq⟩
/-- the way out of a def as its own caller's -/
theorem passX {X : Cx} {E : XK} (tk : Takes X (fun cls d _ H => E cls d H)) : Passes (L2.CX X.prog X.w) X E := passes_call tk fun _ _ _ _ h => h
end L2

namespace L2
open PySem
def gSeq (K : PySem.W.Frag) (n : Nat) (t : TGs) : TG := fun v σ H Q => gTup K n t v σ H Q ∨ gLst K n t v σ H Q
theorem pg_seq {X : Cx} {es : List Expr} {k : Nat} {t : TGs} {n : Nat} {pos : Pos} (hc : X.calm = true) (h : PGs X es t)
    (hn : (assignEach es X.env).length = n := by rfl) (hst : (assignEach es X.env).findIdx? (·.1) = none := by rfl) : PG X (.Tuple es k pos) (gSeq X.K n t) :=
  ⟨fun pins s σ H v u Q I r hw => hw.elim (fun w => (pg_tup hc h hn hst).run pins s σ H v u Q I r w) (fun w => (pg_lst hc h hn hst).run pins s σ H v u Q I r w)⟩
end L2
namespace L2
open PySem
theorem gSeq_of {K : PySem.W.Frag} {n : Nat} {t : TGs} {p : Addr} {xs : List V} {σ : L2.St} {H : Hp} {Q : L2.St → Hp → Prop} (h : H p = some (.tup xs) ∨ H p = some (.lst xs)) (hn : xs.length = n) (q : t xs σ H Q) : gSeq K n t (.ref p) σ H Q := by
  rcases h with h | h
  · exact .inl ⟨p, xs, rfl, SqT.of h, hn, q⟩
  · exact .inr ⟨p, xs, rfl, SqL.of h, hn, q⟩
end L2

namespace L2
open PySem PySem.Spec PyProof.Rows L2H
/-! ### a def that is handed the exception of the except suite it is called from: p, its place and its object, is known -/
structure FnE (P : Program) (w : World) (K : PySem.W.Frag) (mg : Str → Option Value) (base : Heap) (CX : CXT) (k : Nat) (f : Addr) (fd : FuncData) (ps : List Str) (sp : Sp) (p : Addr × Obj) : Prop where
  len : ∀ vs H Q E, sp vs H Q E → vs.length = ps.length
  run : ∀ (A : Around) (outer : List Env) (s : Shared) (H : Hp) (args : Args) (us : List Value) (vs : List V) (Q : VK) (E : XK), RoomH k A → PinOk outer H s p → Env0 P w K mg base A outer s H → BindsTo s fd args (ps.zip us) → Vals vs us → sp vs H Q E →
    codeAny (model P w) A (.call (.ref f) args) (CR CX outer P w H s Q E) s
section
variable {P : Program} {w : World} {K : PySem.W.Frag} {mg : Str → Option Value} {base : Heap} {k : Nat} {f : Addr} {fd : FuncData} {x qual : Str} {st : Stmt} {N ps : List Str} {sp : Sp} {p : Addr × Obj}
theorem Fun.okE (F : Fun K x qual st f fd) (S : FnScope N ps (defScope st)) (len : ∀ vs H Q E, sp vs H Q E → vs.length = ps.length)
    (body : ∀ (cdv : Value) (A : Around) (outer : List Env) (s : Shared) (H : Hp) (vs : List V) (Q : VK) (E : XK), RoomH k (A.deeper (envOfC qual (defScope st) s.heap.objs.size f cdv)) → sp vs H Q E →
      ∃ t, PSs (cxH CX0 P w K mg base N qual (defScope st) f cdv A outer s H E p) (defBody st) t ∧ t { nx := fun _ H' => Q .non H', rt := Q } (start N vs) H) : FnE P w K mg base CX0 (k + 1) f fd ps sp p := by
  obtain ⟨oc, od, kV, doc, pm, an, cdv, ct, osl, rfl, lk, hcd⟩ := F.ex
  refine ⟨len, fun A outer s H args us vs Q E hr hpin e0 hb r hsp => ?_⟩
  have inK : K.In s.heap := e0.mod.kin.keeps fun b o e => (e0.bs b o e).1
  have lim : s.heap.NoLimit := e0.mod.nolimit.keeps fun b o e => (e0.bs b o e).1
  have kinds : ∀ y ∈ ps.zip us, (defScope st).names.lookup y.1 = some .local ∨ ((defScope st).names.lookup y.1 = some .cell ∧ ((cellsFrom (s.heap.objs.size + 1) (defScope st).names []).lookup y.1).isSome = true) := fun ⟨n, v⟩ hy =>
    (S.par n (List.of_mem_zip hy).1).elim .inl fun q => .inr ⟨q, PySem.W.cellsFrom_some _ _ _ (.inl q)⟩
  refine codeAny_call_function hr.depth (inK _ _ lk) rfl S.co S.gen rfl (PySem.W.codeRec_of inK hcd) (hb _ _ _ _ (wpAny_newFunctionEnv_cells S.kind kinds fun env he s1 y => ?_))
  subst he
  obtain ⟨t, ht, hq⟩ := body cdv A outer s H vs Q E (hr.deeper _) hsp
  refine ⟨lim.keeps y.toInCall.keep, codeAny_func (wpAny_mono (ht.run [] s1 (start N vs) H _ (inv_startH S hpin e0 (len _ _ _ _ hsp) r y) hq) (fun fl s' hs => ?_) fun e s' hs => hs)⟩
  match fl, hs with
  | .ret u, ⟨v, σ', H', J, rv, q⟩ => exact ⟨v, H', J.os, J.bare, J.base, J.hok, rv, q⟩
  | .next, ⟨σ', H', J, q⟩ => exact ⟨V.non, H', J.os, J.bare, J.base, J.hok, rfl, q⟩
  | .brk, ⟨_, _, _, q⟩ => exact False.elim q
  | .cont, ⟨_, _, _, q⟩ => exact False.elim q
end
section
variable {X : Cx} {CX : CXT} {k : Nat} {f : Addr} {fd : FuncData} {ps : List Str} {sp : Sp} {E : XK} {p : Addr × Obj} {x : Str} {q pos : Pos} {e : Expr} {es : List Expr} {t : TA}
theorem pe_callE (F : FnE X.prog X.w X.K X.mg X.base CX k f fd ps sp p) (hr : RoomH k X.A) (hp : p ∈ X.pn) (hg : Gl X x) (hm : X.mg x = some (.ref f)) (hk : PySem.W.keepIn X.K (.ref f) = true) (hb : Binds X.K fd ps []) (hx : Passes CX X E)
    (ha : PA X (e :: es) t) (hdb : (x == ("__debug__" : Str)) = false := by decide) (he : starEach (e :: es) X.env = (false, eval e X.env) :: starEach es X.env := by rfl) (hpl : (backTo pos (starEach es X.env)).any (·.1) = false := by rfl) :
    PE X (.Call (.Name x q) (e :: es) [] pos) (tCall sp [] E t) := by
  refine ⟨fun pins s σ H Q I h => ?_⟩
  refine wpAny_Call_Name_kw (ld_glob I hg hm ?_ hdb)
  refine PySem.W.callWith_K (h₀ := X.base) I.ok.mod.kin hk (thn (ha.run pos pins s σ H _ I h) fun us s1 ⟨vs, H1, I1, r, q⟩ => ⟨I1.kIn, ?_⟩) he hpl
  have q : sp vs H1 Q E := by simpa using q
  have hl : us.length = ps.length := by rw [← r.length]; exact F.len _ _ _ _ q
  have b := hb s1 us I1.kIn (by rw [List.append_nil]; exact hl)
  rw [List.append_nil] at b
  have P1 := I1.pin p (List.mem_append_left _ hp)
  have hpin : PinOk X.stack H1 s1 p := ⟨P1.1, P1.2.1, fun hm => (List.mem_cons.mp (I1.stkSub p.1 hm)).elim P1.2.2.1 P1.2.2.2.1, P1.2.2.2.2⟩
  refine wpAny_call (codeAny_mono (F.run X.A X.stack s1 H1 ⟨us, []⟩ us vs Q E hr hpin I1.env0 b r q) fun r s' hq => ?_)
  match r, hq with
  | .error e, hq => exact hx pins σ H1 s1 e s' I1 hq
  | .ok (.ret u), hq => exact I1.after hq
/-- isinstance(e, c), e the pinned exception -/
theorem call_isP {a : Addr} {oe : Obj} {cls : Value} {d : Option Addr} (hp : (a, oe) ∈ X.pn) (hz : Zc cls d oe) (hf : ∃ vs, oe.data = .fields vs) : CallR X (.builtin "isinstance") (rIsX X.K a cls d) := by
  intro pins s σ H xs us Q I r h
  obtain ⟨D, dd, fs, c, cv, b, rfl, rfl, hdd, C, rfl, hcv, e, q⟩ := h
  cases r with
  | cons rx rr =>
    cases rr with
    | cons rt rr =>
      cases rr
      cases rx
      have ec := hcv.eq rt
      subst ec
      obtain ⟨hget, _⟩ := I.pin (a, oe) (List.mem_append_left _ hp)
      obtain ⟨vs, hv⟩ := hf
      have hx : ObjOk X.prog X.w H s.heap dd (.xd fs) := I.hok dd _ hdd
      obtain ⟨mA, hns, hr⟩ := hx
      obtain ⟨od, ho, hl⟩ := lookIn_ns hns
      have J : PySem.W.InstAt s.heap a oe D (some od) := ⟨hget, hz.1, by unfold PySem.W.notCls; rw [hv] <;> rfl, by rw [hz.2]; exact ho⟩
      obtain ⟨cd, hc, _⟩ := PySem.W.any_some C.hd
      exact PySem.W.kia_one (PySem.W.kitx_exc (by rw [hc]; rfl) C.ga C.gg C.hs C.ha C.hn C.ht C.hm) I.kIn J e (fun z => nomatch z) fun tk => ⟨.bl b, H, I.kept (t' := tk) fun _ _ z => z, rfl, q⟩
/-- e.f, e the pinned exception -/
theorem pe_xfP {a : Addr} {oe : Obj} {cls : Value} {d : Option Addr} {ex : Expr} {te : TE} {n : Str} {apos : Pos} (hp : (a, oe) ∈ X.pn) (hz : Zc cls d oe) (hf : ∃ vs, oe.data = .fields vs) (he : PE X ex te) (hb : attributeBase ex n X.env (eval ex X.env) = eval ex X.env := by rfl) :
    PE X (.Attribute ex n apos) (tXfX X.K a cls d n te) := by
  refine ⟨fun pins s σ H Q I h => ?_⟩
  refine attr_of hb (thn (he.run pins s σ H _ I h) fun u s1 hh => ?_)
  obtain ⟨x, H1, I1, rx, ex, C, dd, fs, v, ec, T, hno, ed, ea, l, q⟩ := hh
  subst ex
  obtain rfl : u = Value.ref a := rx
  subst ec
  subst ed
  obtain ⟨ha, _⟩ := I1.pin (a, oe) (List.mem_append_left _ hp)
  obtain ⟨vs, hd⟩ := hf
  have hx : ObjOk X.prog X.w H1 s1.heap dd (.xd fs) := I1.hok dd _ ea
  obtain ⟨mA, hns, hr⟩ := hx
  obtain ⟨od, ho, hl⟩ := lookIn_ns hns
  obtain ⟨u, hu, ru⟩ := RelO.some_of (v := v) (o := mA n) (by rw [← l]; exact hr n)
  have J : PySem.W.InstAt s1.heap a oe C (some od) := ⟨ha, hz.1, by unfold PySem.W.notCls; rw [hd] <;> rfl, by rw [hz.2]; exact ho⟩
  exact HandSPX.exc_get I1.kIn J T.ga T.gg T.hs (PySem.W.findObj_own T.hd hno rfl (by rw [hl, hu])) (handed_of ru) ⟨v, H1, I1.tok _, ru, q⟩
end
end L2
namespace L2
/-- a built-in's method, the fragment named (for suites and a try's body, whose context names what the reading may not) -/
theorem pe_bmK {X : Cx} {K : PySem.W.Frag} {ex : PySem.Expr} {T : String} {r : V → List V → Hp → VK → Prop} {to : TE} {t : TA} (hK : X.K = K) (h : PE X ex (tBM X.K T r to t)) : PE X ex (tBM K T r to t) := hK ▸ h
end L2
namespace L2
open PySem
theorem room_suite {k j : Nat} {A A' : Around} (hr : Room k A) (h : j ≤ k) (e1 : A'.depth = A.depth) (e2 : A'.units = A.units) : L2H.RoomH j A' := ⟨by have := hr.dp; rw [e1]; omega, by have := hr.un; rw [e2]; omega⟩
end L2

namespace L2
open PySem PySem.Spec PyProof.Rows
/-! ### own objects where a built-in asks them: o[k], x in o, len(o), str(o), for x in o, C.m(..) of a staticmethod -/
section
variable {X : Cx} {CX : CXT} {k : Nat} {f C a dx : Addr} {fs : List (Str × V)} {fd : FuncData} {ps : List Str} {sp : Sp} {E : XK} {pins : List (Addr × Obj)} {σ : St} {H : Hp} {s : Shared} {Q : VK} {us : List Value} {vs : List V}
/-- a def's call from within a built-in -/
theorem run_sub {A1 : Around} (hf : A1.frames = some X.stack) (F : FnOk X.prog X.w X.K X.mg X.base CX k f fd ps sp) (hr : Room k A1) (hb : Binds X.K fd ps []) (hx : Passes CX X E) (I : Inv X pins σ H s) (r : Vals vs us) (h : sp vs H Q E) :
    wpAny (model X.prog X.w) A1 (call (.ref f) us) (EP X pins σ Q) X.xe s := by
  have hl : (us ++ []).length = ps.length := by rw [List.append_nil, ← r.length]; exact F.len _ _ _ _ h
  have e := I.env0
  have bt := hb s us I.kIn hl
  rw [List.append_nil] at bt
  refine wpAny_call (codeAny_mono (F.run A1 X.stack s H ⟨us, []⟩ us vs Q E hr ⟨hf, e.mod, e.bs, e.bsz, e.funs, e.frf, e.hok, e.bare⟩ bt r h) fun r s' hq => ?_)
  match r, hq with
  | .error e, hq => exact hx pins σ H s e s' I hq
  | .ok (.ret u), hq => exact I.after hq
theorem stack_of (I : Inv X pins σ H s) : X.A.frames = some X.stack := I.env0.frames
theorem inst_of (I : Inv X pins σ H s) (h : H a = some (.ins C dx fs)) : ∃ ox od, PySem.W.InstAt s.heap a ox C (some od) := by
  obtain ⟨mA, J, _⟩ := ins_get I.hok h
  obtain ⟨od, J, _⟩ := J.look
  exact ⟨_, od, J⟩
/-- o[k] by the class's own def -/
def rGetI (C : Addr) (sp : Sp) (E : XK) : R2 := fun x y H Q => ∃ a dx fs, x = .ref a ∧ H a = some (.ins C dx fs) ∧ sp [x, y] H Q E
theorem pe_getI {ea eb : Expr} {ta tb : TE} {pos : Pos} (m : Meth X.K C "__getitem__" f) (hfi : PySem.W.fnIn X.K f = true) (F : FnOk X.prog X.w X.K X.mg X.base CX k f fd ps sp) (hr : Room (k + 1) X.A) (hb : Binds X.K fd ps []) (hx : Passes CX X E)
    (ha : PE X ea ta) (hbe : PE X eb tb) (hsl : ∀ (x : Addr) (i : Value), subscripted eb true (.ref x) i = runValue (.builtin "lifetime.subscript" ⟨[.ref x, i], []⟩) := by intro _ _; with_unfolding_all rfl) : PE X (.Subscript ea eb pos) (tOp (rGetI C sp E) ta tb) := by
  refine ⟨fun pins s σ H Q I h => ?_⟩
  refine Subscript_ (binT ha hbe I h fun v u s2 x y H2 I2 rx ry q => ?_)
  obtain ⟨a, dx, fs, rfl, ho, q⟩ := q
  cases rx
  obtain ⟨ox, od, J⟩ := inst_of I2 ho
  obtain ⟨mf, hF⟩ := I2.fr
  exact PySem.W.sub_K hF I2.ok.mod.kin J m.at_ hfi m.fn (run_sub (A1 := X.A.in1) (us := [.ref a, u]) (vs := [.ref a, y]) (stack_of I2) F hr.in1 hb hx I2 (.cons rfl (.cons ry .nil)) q) (hsl a u)
/-- x in o, x not in o -/
def rInI (C : Addr) (sp : Sp) (E : XK) (neg : Bool) : R2 := fun x y H Q => ∃ a dx fs, y = .ref a ∧ H a = some (.ins C dx fs) ∧ sp [y, x] H (fun v H' => ∃ b : Bool, v = .bl b ∧ Q (.bl (if neg then !b else b)) H') E
theorem truth_bl {A : Around} {E' : Value → Shared → Prop} {b : Bool} {s : Shared} {Qb : Bool → Shared → Prop} (h : Qb b s) : wpAny (model X.prog X.w) A (truthy (.bool b)) Qb E' s := by
  unfold truthy
  exact wpAny_pure h
theorem op_inI (m : Meth X.K C "__contains__" f) (F : FnOk X.prog X.w X.K X.mg X.base CX k f fd ps sp) (hr : Room k X.A) (hb : Binds X.K fd ps []) (hx : Passes CX X E) : OpR X (compareOp .In) (rInI C sp E false) := by
  intro pins s σ H x y v u Q I rx ry h
  obtain ⟨a, dx, fs, rfl, ho, q⟩ := h
  cases ry
  obtain ⟨ox, od, J⟩ := inst_of I ho
  obtain ⟨mf, hF⟩ := I.fr
  refine PySem.W.in_K hF I.ok.mod.kin J m.at_ m.fn (thn (run_sub (us := [.ref a, v]) (vs := [.ref a, x]) (stack_of I) F hr hb hx I (.cons rfl (.cons rx .nil)) q) fun r s' z => ?_)
  obtain ⟨z1, H1, I1, r1, b, rfl, q1⟩ := z
  cases r1
  exact truth_bl ⟨.bl b, H1, I1, rfl, q1⟩
theorem op_ninI (m : Meth X.K C "__contains__" f) (F : FnOk X.prog X.w X.K X.mg X.base CX k f fd ps sp) (hr : Room k X.A) (hb : Binds X.K fd ps []) (hx : Passes CX X E) : OpR X (compareOp .NotIn) (rInI C sp E true) := by
  intro pins s σ H x y v u Q I rx ry h
  obtain ⟨a, dx, fs, rfl, ho, q⟩ := h
  cases ry
  obtain ⟨ox, od, J⟩ := inst_of I ho
  obtain ⟨mf, hF⟩ := I.fr
  refine PySem.W.notIn_K hF I.ok.mod.kin J m.at_ m.fn (thn (run_sub (us := [.ref a, v]) (vs := [.ref a, x]) (stack_of I) F hr hb hx I (.cons rfl (.cons rx .nil)) q) fun r s' z => ?_)
  obtain ⟨z1, H1, I1, r1, b, rfl, q1⟩ := z
  cases r1
  exact truth_bl ⟨.bl (!b), H1, I1, rfl, q1⟩
/-- len(o) -/
def rLenI (C : Addr) (sp : Sp) (E : XK) : List V → Hp → VK → Prop := fun xs H Q => ∃ a dx fs, xs = [.ref a] ∧ H a = some (.ins C dx fs) ∧ sp [.ref a] H (fun v H' => ∃ n : Int, v = .int n ∧ 0 ≤ n ∧ n < 2 ^ 63 ∧ Q (.int n) H') E
theorem call_lenI (m : Meth X.K C "__len__" f) (F : FnOk X.prog X.w X.K X.mg X.base CX k f fd ps sp) (hr : Room (k + 1) X.A) (hb : Binds X.K fd ps []) (hx : Passes CX X E) : CallR X (.builtin "len") (rLenI C sp E) := by
  intro pins s σ H xs us Q I r h
  obtain ⟨a, dx, fs, rfl, ho, q⟩ := h
  obtain ⟨u, rfl, ru⟩ := vals1 r
  cases ru
  obtain ⟨ox, od, J⟩ := inst_of I ho
  obtain ⟨mf, hF⟩ := I.fr
  refine PySem.W.len_K hF I.ok.mod.kin J m.at_ m.fn (thn (run_sub (A1 := X.A.in1) (us := [.ref a]) (vs := [.ref a]) (stack_of I) F hr.in1 hb hx I (.cons rfl .nil) q) fun r s' z => ?_)
  obtain ⟨z1, H1, I1, r1, n, rfl, h0, h1, q1⟩ := z
  obtain ⟨t, rfl⟩ := r1
  exact ⟨⟨h0, h1⟩, .int n, H1, I1.tok _, ⟨_, rfl⟩, q1⟩
/-- str(o) -/
def rStrI (C : Addr) (sp : Sp) (E : XK) : List V → Hp → VK → Prop := fun xs H Q => ∃ a dx fs, xs = [.ref a] ∧ H a = some (.ins C dx fs) ∧ sp [.ref a] H (fun v H' => ∃ z : Str, v = .str z ∧ Q (.str z) H') E
theorem call_strI (m : Meth X.K C "__str__" f) (F : FnOk X.prog X.w X.K X.mg X.base CX k f fd ps sp) (hr : Room (k + 2) X.A) (hb : Binds X.K fd ps []) (hx : Passes CX X E) : CallR X (.type "str") (rStrI C sp E) := by
  intro pins s σ H xs us Q I r h
  obtain ⟨a, dx, fs, rfl, ho, q⟩ := h
  obtain ⟨u, rfl, ru⟩ := vals1 r
  cases ru
  obtain ⟨ox, od, J⟩ := inst_of I ho
  have hr2 : Room k X.A.in1.in1 := hr.in1.in1
  refine PySem.W.kso_call hr2.units0 I.kIn J m.at_ m.fn (thn (run_sub (A1 := X.A.in1.in1) (us := [.ref a]) (vs := [.ref a]) (stack_of I) F hr2 hb hx I (.cons rfl .nil) q) fun r s' z => ?_)
  obtain ⟨z1, H1, I1, r1, y, rfl, q1⟩ := z
  obtain ⟨t, rfl⟩ := r1
  exact ⟨.str y, H1, I1, ⟨_, rfl⟩, q1⟩
end
/-! ### a staticmethod through its class -/
structure SMet (K : PySem.W.Frag) (C : Addr) (mc : Value) (m : Str) (p g : Addr) : Prop where
  at_ : PySem.W.findCls K (.ref C) mc m = some (.get (.builtin "staticmethod.__get__") (.ref p) .none (.ref C))
  rc : ∃ rest, PySem.W.recIn K p "staticmethod" = some (.ref g :: rest)
  kp : PySem.W.keepIn K (.ref g) = true
def tSMeth (C : Addr) (sp : Sp) (E : XK) (ta : TE) (t : TA) : TE := fun σ H Q => ta σ H fun x H1 => x = .ref C ∧ t σ H1 fun vs H2 => sp vs H2 Q E
section
variable {X : Cx} {CX : CXT} {k : Nat} {C p g : Addr} {mc : Value} {fd : FuncData} {ps : List Str} {sp : Sp} {E : XK} {o e : Expr} {es : List Expr} {m : Str} {pos apos : Pos} {ta : TE} {t : TA} {pl : Sem Bool}
theorem getsm_ok {pins : List (Addr × Obj)} {σ : St} {H : Hp} {s : Shared} {A : Around} {E' : Value → Shared → Prop} {Q : Value × List Value → Shared → Prop} (I : Inv X pins σ H s) (r : ClX.CRead X.K C mc) (c : SMet X.K C mc m p g)
    (h : ∀ s', Inv X pins σ H s' → Q (.ref g, []) s') : wpAny (model X.prog X.w) A (getMethod (.ref C) m pl) Q E' s := by
  obtain ⟨rest, hp⟩ := c.rc
  refine PySem.W.method_cls I.kIn r.ga (PySem.W.cls_bind I.kIn r.rd c.at_ (wpAny_call ?_))
  exact PySem.W.sm_get (s := { s with toks := s.toks + 1 }) I.kIn hp (PySem.W.handed_on rfl (h _ (I.tok _)))
theorem pe_smeth (he : PE X o ta) (r : ClX.CRead X.K C mc) (c : SMet X.K C mc m p g) (F : FnOk X.prog X.w X.K X.mg X.base CX k g fd ps sp) (hr : Room k X.A) (hb : Binds X.K fd ps []) (hx : Passes CX X E) (ha : PA X (e :: es) t)
    (hst : starEach (e :: es) X.env = (false, eval e X.env) :: starEach es X.env := by rfl) (hpl : (backTo pos (starEach es X.env)).any (·.1) = false := by rfl)
    (ht : eval (.Call (.Attribute o m apos) (e :: es) [] pos) X.env = (do
      let ov ← eval o X.env
      standAt apos.atName
      let (f, first) ← holding [ov] (getMethod ov m pl)
      callWith pos f first (backTo pos (starEach (e :: es) X.env)) (backToKw pos (keywordEach [] X.env))) := by rfl) :
    PE X (.Call (.Attribute o m apos) (e :: es) [] pos) (tSMeth C sp E ta t) := by
  refine ⟨fun pins s σ H Q I h => PySem.W.methodCall_KW (pl := pl) (thn (he.run pins s σ H _ I h) fun u s1 ⟨x, H1, I1, rx, ex, q⟩ => ?_) ht⟩
  subst ex
  obtain rfl : u = Value.ref C := rx
  refine getsm_ok I1 r c fun s2 I2 => ?_
  refine PySem.W.callWith_K (first := []) (h₀ := X.base) I.ok.mod.kin c.kp (thn (ha.run pos pins s2 σ H1 _ I2 q) fun us s3 ⟨vs, H2, I3, rv, q2⟩ => ⟨I3.kIn, ?_⟩) hst hpl
  exact run_sub (us := us) (vs := vs) (stack_of I3) F hr hb hx I3 rv q2
/-- the same in a try's body: the way out sees the slots -/
def tSMethW (C : Addr) (sp : Sp) (E : St → XK) (ta : TE) (t : TA) : TE := fun σ H Q => tSMeth C sp (E σ) ta t σ H Q
theorem pe_smethW {E : St → XK} (he : PE X o ta) (r : ClX.CRead X.K C mc) (c : SMet X.K C mc m p g) (F : FnOk X.prog X.w X.K X.mg X.base CX k g fd ps sp) (hr : Room k X.A) (hb : Binds X.K fd ps []) (hx : ∀ σ, PassesAt CX X σ (E σ)) (ha : PA X (e :: es) t)
    (hst : starEach (e :: es) X.env = (false, eval e X.env) :: starEach es X.env := by rfl) (hpl : (backTo pos (starEach es X.env)).any (·.1) = false := by rfl)
    (ht : eval (.Call (.Attribute o m apos) (e :: es) [] pos) X.env = (do
      let ov ← eval o X.env
      standAt apos.atName
      let (f, first) ← holding [ov] (getMethod ov m pl)
      callWith pos f first (backTo pos (starEach (e :: es) X.env)) (backToKw pos (keywordEach [] X.env))) := by rfl) :
    PE X (.Call (.Attribute o m apos) (e :: es) [] pos) (tSMethW C sp E ta t) := by
  refine ⟨fun pins s σ H Q I h => PySem.W.methodCall_KW (pl := pl) (thn (he.run pins s σ H _ I h) fun u s1 ⟨x, H1, I1, rx, ex, q⟩ => ?_) ht⟩
  subst ex
  obtain rfl : u = Value.ref C := rx
  refine getsm_ok I1 r c fun s2 I2 => ?_
  refine PySem.W.callWith_K (first := []) (h₀ := X.base) I.ok.mod.kin c.kp (thn (ha.run pos pins s2 σ H1 _ I2 q) fun us s3 ⟨vs, H2, I3, rv, q2⟩ => ⟨I3.kIn, ?_⟩) hst hpl
  exact run_fnSD (us := us) (vs := vs) F hr hb .nil (hx σ) I3 rv (by rw [List.append_nil]; exact q2)
end
end L2

namespace L2
open PySem PySem.Spec PyProof.Rows
/-! ### for x in o, o's __iter__ gives iter(o.f), f a list -/
section
variable {P : Program} {w : World} {K : PySem.W.Frag} {mg : Str → Option Value} {base : Heap} {x qual : Str} {st : Stmt} {f : Addr} {fd : FuncData} {N ps : List Str} {k : Nat}
/-- one call of a def, told from its state -/
theorem fn_here {A : Around} {outer : List Env} {s : Shared} {H : Hp} {us : List Value} {vs : List V} {Q : VK} {E : XK} (F : Fun K x qual st f fd) (S : FnScope N ps (defScope st)) (hb : Binds K fd ps []) (hr : Room (k + 1) A) (e0 : Env0 P w K mg base A outer s H)
    (r : Vals vs us) (hl : vs.length = ps.length)
    (body : ∀ cdv, Room k (A.deeper (envOfC qual (defScope st) s.heap.objs.size f cdv)) → ∃ t, PSs (cxOf CX0 P w K mg base N qual (defScope st) f cdv A outer s H E).nox (defBody st) t ∧ t { nx := fun _ H' => Q .non H', rt := Q } (start N vs) H) :
    codeAny (model P w) A (.call (.ref f) ⟨us, []⟩) (CR CX0 outer P w H s Q E) s := by
  obtain ⟨oc, od, kV, doc, pm, an, cdv, ct, osl, rfl, lk, hcd⟩ := F.ex
  have KX : K.In s.heap := PySem.W.Frag.In.keeps e0.mod.kin (fun b o q => (e0.bs b o q).1)
  have NL : s.heap.NoLimit := Heap.NoLimit.keeps e0.mod.nolimit (fun b o q => (e0.bs b o q).1)
  have lu : (us ++ []).length = ps.length := by rw [List.append_nil, ← r.length, hl]
  have bt := hb s us KX lu
  rw [List.append_nil] at bt
  obtain ⟨t, ht, hq⟩ := body cdv (hr.deeper _)
  refine codeAny_call_function hr.depth (KX _ _ lk) rfl S.co S.gen rfl (PySem.W.codeRec_of KX hcd) (bt _ _ _ _ (wpAny_newFunctionEnv_cells S.kind ?_ ?_))
  · intro y hy
    have m := (List.of_mem_zip (a := y.1) (b := y.2) hy).1
    exact (S.par y.1 m).elim .inl fun z => .inr ⟨z, PySem.W.cellsFrom_some _ _ _ (.inl z)⟩
  · intro env he s1 ic
    subst he
    have I : Inv (cxOf CX0 P w K mg base N qual (defScope st) f cdv A outer s H E) [] (start N vs) H s1 := inv_start S hr.hd e0 hl r ic
    refine ⟨NL.keeps ic.toInCall.keep, codeAny_func (wpAny_mono (ht.nox.run [] s1 (start N vs) H _ I hq) (fun fl s' z => ?_) fun _ _ z => z)⟩
    match fl, z with
    | .ret u, ⟨v, _, H', J, rv, q⟩ => exact ⟨v, H', J.os, J.bare, J.base, J.hok, rv, q⟩
    | .next, ⟨_, H', J, q⟩ => exact ⟨V.non, H', J.os, J.bare, J.base, J.hok, rfl, q⟩
    | .brk, ⟨_, _, _, q⟩ => exact q.elim
    | .cont, ⟨_, _, _, q⟩ => exact q.elim
/-- what such an __iter__ promises: a new iterator of the list, younger than the call -/
def IterOk (P : Program) (w : World) (K : PySem.W.Frag) (mg : Str → Option Value) (base : Heap) (k : Nat) (g C : Addr) (fl : Str) : Prop :=
  ∀ (A : Around) (outer : List Env) (s : Shared) (H : Hp) (a dx l : Addr) (fs : List (Str × V)) (xs : List V) (Q : VK) (E : XK), Room k A → Env0 P w K mg base A outer s H → H a = some (.ins C dx fs) → fs.lookup fl = some (.ref l) → SqL K H l xs →
    (∀ it, H it = none → s.heap.objs.size ≤ it → Q (.ref it) (upd H it (ItO l it 0))) → codeAny (model P w) A (.call (.ref g) ⟨[.ref a], []⟩) (CR CX0 outer P w H s Q E) s
end
def iOwn (K : PySem.W.Frag) (C : Addr) (f : Str) (tl : TE) : TI := fun σ H R => tl σ H fun x H1 => ∃ (a dx l : Addr) (fs : List (Str × V)) (xs : List V), x = .ref a ∧ H1 a = some (.ins C dx fs) ∧ fs.lookup f = some (.ref l) ∧ SqL K H1 l xs ∧ R (Itl K l) H1
section
variable {X : Cx} {tg o : Expr} {tl : TE} {k : Nat} {g C : Addr} {fl : Str}
theorem pi_own (m : Meth X.K C "__iter__" g) (F : IterOk X.prog X.w X.K X.mg X.base k g C fl) (hr : Room k X.A) (ho : PE X o tl) : PI X tg o (iOwn X.K C fl tl) := by
  refine ⟨fun pins s σ H R I h => thn (ho.run pins s σ H _ I h) fun v s1 ⟨x, H1, I1, r1, a, dx, l, fs, xs, ex, ha, hf, hq, q⟩ => ?_⟩
  subst ex
  cases r1
  obtain ⟨ox, od, J⟩ := inst_of I1 ha
  obtain ⟨mf, hF⟩ := I1.fr
  refine PySem.W.owit_iter hF I1.ok.mod.kin J m.at_ m.fn (wpAny_call (codeAny_mono (F X.A X.stack s1 H1 a dx l fs xs (fun v H2 => ∃ it, v = .ref it ∧ H1 it = none ∧ s1.heap.objs.size ≤ it ∧ H2 = upd H1 it (ItO l it 0)) E0 hr I1.env0 ha hf hq fun it n1 n2 => ⟨it, rfl, n1, n2, rfl⟩) fun r s' z => ?_))
  match r, z with
  | .error _, z => exact z.elim
  | .ok (.ret u), z =>
    obtain ⟨v2, H2, I2, r2, it, rfl, n1, n2, rfl⟩ := I1.after z
    cases r2
    have eo := itO_get I2 upd_same
    have hT : s'.TypeIs (.ref it) "list_iterator" := ⟨_, eo, rfl⟩
    have I3 := ItX.inv_drop I2 (a := it) (by rw [upd_same]; rfl)
    rw [ItX.dropH_upd n1] at I3
    refine wpAny_specialOf (name := Str.ofString "__next__") hT slot_listiter_next.lookup ?_
    refine ⟨it, [it], _, _, H1, rfl, I3, turn_list l it, ⟨_, eo, rfl, rfl⟩, fun b hb => ?_, q⟩
    obtain rfl : b = it := by simpa using hb
    exact I1.fpOk n2 n1
end
end L2

namespace L2
open PySem PySem.Spec PyProof.Rows
/-! ### defs with *rest, instances made by C(), C(*a), C(*a, *b) -/
/-- what a def with ps and *pv binds -/
def StarB (fd : FuncData) (ps : List Str) (pv : Str) : Prop := ∀ us rest : List Value, us.length = ps.length → bindArgs fd ⟨us ++ rest, []⟩ = (newTuple rest >>= fun t => pure (ps.zip us ++ [(pv, t)]))
/-- its promise: from that of its body, the rest as a new tuple -/
def spStar (n : Nat) (sp : Sp) : Sp := fun vs H Q E => ∃ ws rest, vs = ws ++ rest ∧ ws.length = n ∧ rest.length ≤ sizeLine ∧ ∀ p, H p = none → sp (ws ++ [V.ref p]) (upd H p (.tup rest)) Q E
section
variable {P : Program} {w : World} {K : PySem.W.Frag} {mg : Str → Option Value} {base : Heap} {x qual : Str} {st : Stmt} {f : Addr} {fd : FuncData} {N ps : List Str} {pv : Str} {k : Nat} {sp : Sp}
theorem Fun.starX (F : Fun K x qual st f fd) (S : FnScope N (ps ++ [pv]) (defScope st)) (hb : StarB fd ps pv)
    (body : ∀ (cdv : Value) (A : Around) (outer : List Env) (s : Shared) (H : Hp) (vs : List V) (Q : VK) (E : XK), Room k (A.deeper (envOfC qual (defScope st) s.heap.objs.size f cdv)) → sp vs H Q E →
      ∃ t, PSs (cxOf (L2.CX P w) P w K mg base N qual (defScope st) f cdv A outer s H E) (defBody st) t ∧ t { nx := fun _ H' => Q .non H', rt := Q } (start N vs) H) : FnR P w K mg base (L2.CX P w) (k + 1) f (spStar ps.length sp) := by
  obtain ⟨oc, od, kV, doc, pm, an, cdv, ct, osl, rfl, lk, hcd⟩ := F.ex
  exact StX.fn_star lk hcd S StX.cxUp hb fun A outer s H vs Q E hr h => body cdv A outer s H vs Q E hr h
theorem FnR.calm (F : FnR P w K mg base (L2.CX P w) k f sp) : FnR P w K mg base CX0 k f (fun vs H Q _ => sp vs H Q fun _ _ _ => False) := fun A outer s H us vs Q _ hr e0 r h =>
  codeAny_mono (F A outer s H us vs Q _ hr e0 r h) fun r s' hq => by
    match r, hq with
    | .error _, ⟨_, _, _, _, _, _, _, _, _, _, _, _, z⟩ => exact z.elim
    | .ok (.ret _), hq => exact hq
end
/-- two starred arguments -/
theorem evalArgs_two {M : Model} {A : Around} {E : Value → Shared → Prop} {s : Shared} {f : Value} {a b : Bool × Sem Value} {rest : List (Bool × Sem Value)} {Q : Args → Shared → Prop} (h : wpAny M A (spliced (a :: b :: rest)) (fun vs s' => Q ⟨vs, []⟩ s') E s) : wpAny M A (evalArgs f true (a :: b :: rest) []) Q E s := by
  obtain ⟨a1, a2⟩ := a
  unfold evalArgs
  cases a1
  · show wpAny M A (spliced ((false, a2) :: b :: rest) >>= _) Q E s
    exact wpAny_bind (wpAny_mono h (fun vs s' q => wpAny_holding (wpAny_bind (wpAny_pure (wpAny_bind (wpAny_pure (wpAny_pure q)))))) fun _ _ z => z)
  · show wpAny M A (spliced ((true, a2) :: b :: rest) >>= _) Q E s
    exact wpAny_bind (wpAny_mono h (fun vs s' q => wpAny_holding (wpAny_bind (wpAny_pure (wpAny_bind (wpAny_pure (wpAny_pure q)))))) fun _ _ z => z)
section
variable {X : Cx} {CX : CXT} {k : Nat} {f C : Addr} {sp : Sp} {E : XK} {x : Str} {e e1 e2 : Expr} {es : List Expr} {te : TE} {t : TA} {p q1 q2 pos : Pos}
theorem pe_makeR0 (M : Mk X.K C f) (F : FnR X.prog X.w X.K X.mg X.base CX k f sp) (hr : Room (k + 1) X.A) (hg : Gl X x) (hm : X.mg x = some (.ref C)) (hx : Passes CX X E) (hdb : (x == ("__debug__" : Str)) = false := by decide) :
    PE X (.Call (.Name x p) [] [] pos) (StX.tMakeR C sp E tNil) := by
  refine ⟨fun pins s σ H Q I h => wpAny_Call_Name_kw (ld_glob I hg hm ?_ hdb)⟩
  exact PySem.W.callWith_K0 I.kIn M.kp (StX.run_makeR (us := []) (vs := []) M F hr hx I .nil h)
/-- C(*e): the reading -/
def tMakeS (K : PySem.W.Frag) (C : Addr) (sp : Sp) (E : XK) (te : TE) : TE := fun σ H Q => te σ H fun y H1 => ∃ a xs, y = V.ref a ∧ (SqT K H1 a xs ∨ SqL K H1 a xs) ∧ ∀ x dx, H1 x = none → H1 dx = none → dx ≠ x → sp (V.ref x :: xs) (upd (upd H1 dx (.own x)) x (.ins C dx [])) (fun v H2 => v = .non ∧ Q (.ref x) H2) E
theorem pe_makeS1 (M : Mk X.K C f) (F : FnR X.prog X.w X.K X.mg X.base CX k f sp) (hr : Room (k + 1) X.A) (hg : Gl X x) (hm : X.mg x = some (.ref C)) (hx : Passes CX X E) (he : PE X e te) (hdb : (x == ("__debug__" : Str)) = false := by decide)
    (hst : starEach [.Starred e q1] X.env = [(true, eval e X.env)] := by rfl) : PE X (.Call (.Name x p) [.Starred e q1] [] pos) (tMakeS X.K C sp E te) := by
  refine ⟨fun pins s σ H Q I h => wpAny_Call_Name_kw (ld_glob I hg hm (PySem.W.callWith_S (h₀ := X.base) I.ok.mod.kin M.kp (thn (he.run pins s σ H _ I h) fun v s1 ⟨y, H1, I1, ry, a, xs, ey, hxs, q⟩ => ?_) hst) hdb)⟩
  subst ey
  cases ry
  exact StX.star_any I1 hxs fun us s2 I2 rv => ⟨I2.kIn, StX.run_makeR (us := us) (vs := xs) M F hr hx I2 rv q⟩
/-- C(*a, *b) -/
theorem pe_makeS2 (M : Mk X.K C f) (F : FnR X.prog X.w X.K X.mg X.base CX k f sp) (hr : Room (k + 1) X.A) (hg : Gl X x) (hm : X.mg x = some (.ref C)) (hx : Passes CX X E) (ha : PA X [.Starred e1 q1, .Starred e2 q2] t) (hdb : (x == ("__debug__" : Str)) = false := by decide)
    (hst : starEach [.Starred e1 q1, .Starred e2 q2] X.env = [(true, eval e1 X.env), (true, eval e2 X.env)] := by rfl) : PE X (.Call (.Name x p) [.Starred e1 q1, .Starred e2 q2] [] pos) (StX.tMakeR C sp E t) := by
  refine ⟨fun pins s σ H Q I h => wpAny_Call_Name_kw (ld_glob I hg hm ?_ hdb)⟩
  have z := thn (ha.run pos pins s σ H _ I h) (Q' := fun us s1 => X.K.In s1.heap ∧ wpAny (model X.prog X.w) X.A (call (.ref C) ([] ++ us)) (EP X pins σ Q) X.xe s1) fun us s1 ⟨vs, H1, I1, r, q⟩ => ⟨I1.kIn, StX.run_makeR (us := us) (vs := vs) M F hr hx I1 r q⟩
  show wpAny _ _ (callWith pos (.ref C) [] (backTo pos (starEach [.Starred e1 q1, .Starred e2 q2] X.env)) []) _ _ _
  rw [hst] at z ⊢
  exact PySem.W.ks_call rfl (PySem.W.keeps_K M.kp) (evalArgs_two z)
end
/-! ### o + y by the class's own def, y an instance of the class, a list or a tuple -/
def Opd (K : PySem.W.Frag) (C : Addr) (H : Hp) (y : V) : Prop := (∃ b dy gs, y = .ref b ∧ H b = some (.ins C dy gs)) ∨ ∃ b xs, y = .ref b ∧ (SqL K H b xs ∨ SqT K H b xs)
def rOpI (K : PySem.W.Frag) (C : Addr) (sp : Sp) (E : XK) : R2 := fun x y H Q => ∃ a dx fs, x = .ref a ∧ H a = some (.ins C dx fs) ∧ Opd K C H y ∧ sp [x, y] H Q E
/-- what the top must have: the two defs, and of lists and tuples -/
structure OpF (K : PySem.W.Frag) (C : Addr) (nm : String) (g : Addr) : Prop where
  first : PySem.W.selfFirst K C = true
  at_ : PySem.W.findIn K (.ref C) (PySem.dunder nm) = some (some (.ref g))
  fn : PySem.W.isFn K (.ref g) = true
  rev : ∃ rc, PySem.W.findIn K (.ref C) (PySem.dunderR nm) = some rc ∧ (rc = none ∨ ∃ h : Addr, rc = some (.ref h))
  lst : ∃ fo ro, PySem.W.findIn K (.type "list") (PySem.dunder nm) = some fo ∧ PySem.W.findIn K (.type "list") (PySem.dunderR nm) = some ro ∧ PySem.W.subIn K (.type "list") (.ref C) = some false
  tup : ∃ fo ro, PySem.W.findIn K (.type "tuple") (PySem.dunder nm) = some fo ∧ PySem.W.findIn K (.type "tuple") (PySem.dunderR nm) = some ro ∧ PySem.W.subIn K (.type "tuple") (.ref C) = some false
section
variable {prog : Program} {w : World} {A : Around} {E : Value → Shared → Prop} {s : Shared} {K : PySem.W.Frag} {x C L f : Addr} {h₀ : Heap} {m : Str → Option Value} {ox : Obj} {od : Option Obj} {T : String}
/-- the library's row for an operand of a built-in type, told of what a look at its type gives -/
theorem binL {op : Operator} {b : Value} {fo ro rc : Option Value} {Q : Value → Shared → Prop} (F : Fr h₀ L s.heap m) (X₀ : K.In h₀) (I : PySem.W.InstAt s.heap x ox C od) (hb : PySem.W.Looks (model prog w) s.heap (typeOf b) (.type T)) (hc : PySem.W.selfFirst K C = true)
    (hs : PySem.W.findIn K (.ref C) (PySem.dunder op.info.2) = some (some (.ref f))) (hf : PySem.W.isFn K (.ref f) = true) (hr : PySem.W.findIn K (.ref C) (dunderR op.info.2) = some rc) (hp : rc = none ∨ ∃ g : Addr, rc = some (.ref g))
    (h1 : PySem.W.findIn K (.type T) (PySem.dunder op.info.2) = some fo) (h2 : PySem.W.findIn K (.type T) (dunderR op.info.2) = some ro) (hsub : PySem.W.subIn K (.type T) (.ref C) = some false)
    (h : wpAny (model prog w) A (call (.ref f) [.ref x, b]) (PySem.W.CmpBack Q) E s) : wpAny (model prog w) A (binaryOp op (.ref x) b) Q E s := by
  have X := X₀.keeps F.keep
  obtain ⟨cd, rest, hcd, hm⟩ := PySem.W.ksp_first hc
  rcases hi : op.info with ⟨sym, nm'⟩
  rw [hi] at hs hr h1 h2; dsimp only at hs hr h1 h2
  have one := PySem.W.ksp_try X I hs hf h
  obtain ⟨hh, gg, dd, tt, os⟩ := s
  have La := I.type (M := model prog w)
  have Lc := PySem.W.fills_K (M := model prog w) X hcd hm hs
  have Ld := PySem.W.ksp_fillsT (M := model prog w) X h1 h2
  have Le : PySem.W.Looks (model prog w) hh (isSubtype (.type T) (.ref C)) false := PySem.W.looks_subIn X hsub
  have Lf := PySem.W.ksp_inPy (M := model prog w) X hs hr hp
  have Lg : PySem.W.Looks (model prog w) hh (numberSlotInPython (.type T) nm') false := PySem.W.Looks.of_pure rfl
  have Lh : PySem.W.Looks (model prog w) hh (typeLookup (.type T) (dunderR nm')) ro := PySem.W.looks_findIn X h2
  revert Ld
  generalize ((fo.isSome && !isSeqSlot fo) || (ro.isSome && !isSeqSlot ro)) = right
  intro Ld
  have hne : (Value.ref C == Value.type T) = false := Bool.eq_false_iff.mpr fun q => by cases beq_iff_eq.mp q
  simp only [binaryOp, hi]
  refine wpAny_holding (wpAny_bind ?_)
  unfold binaryOp1
  refine wpAny_bind (La.at (wpAny_bind (hb.at (wpAny_bind (Lc.at ?_)))))
  simp only [hne, Bool.false_eq_true, if_false]
  cases right <;> (ksp_lk; refine wpAny_mono one (fun r s' hr' => ?_) (fun _ _ e => e); obtain ⟨v, rfl, hq⟩ := hr'; ksp_lk; exact hq)
end
section
variable {X : Cx} {CX : CXT} {n : Nat} {C g : Addr} {fd : FuncData} {ps : List Str} {sp : Sp} {E : XK}
theorem op_binO {op : Operator} (T : OpF X.K C op.info.2 g) (F : FnOk X.prog X.w X.K X.mg X.base CX n g fd ps sp) (hr : Room n X.A) (hb : Binds X.K fd ps []) (hx : Passes CX X E) : OpR X (binaryOp op) (rOpI X.K C sp E) := by
  intro pins s σ H x y v u Q I rx ry h
  obtain ⟨a, dx, fs, rfl, ho, hy, q⟩ := h
  cases rx
  obtain ⟨ox, od, J⟩ := inst_of I ho
  obtain ⟨mf, hF⟩ := I.fr
  have go := thn (run_sub (us := [.ref a, u]) (vs := [.ref a, y]) (stack_of I) F hr hb hx I (.cons rfl (.cons ry .nil)) q) (Q' := PySem.W.CmpBack (EP X pins σ Q)) fun w s' ⟨z', H', I', rz, qz⟩ => SlX.cmpback rz ⟨z', H', I', rz, qz⟩
  rcases hy with ⟨b, dy, gs, rfl, hb'⟩ | ⟨b, xs, rfl, hq⟩
  · cases ry
    obtain ⟨oy, od', J'⟩ := inst_of I hb'
    exact PySem.W.binop_K (op := op) hF I.ok.mod.kin J J'.type T.first T.at_ T.fn go
  · cases ry
    obtain ⟨rc, r1, r2⟩ := T.rev
    rcases hq with hq | hq
    · obtain ⟨fo, ro, t1, t2, t3⟩ := T.lst
      obtain ⟨its, rv, pl, hz⟩ := I.list hq
      obtain ⟨o, ho, hc, _⟩ := pl.isList
      exact binL hF I.ok.mod.kin J (fun A Q E s k z => wpAny_typeOf_ref (k _ _ ho) (by rw [hc]; exact z)) T.first T.at_ T.fn r1 r2 t1 t2 t3 go
    · obtain ⟨fo, ro, t1, t2, t3⟩ := T.tup
      obtain ⟨its, rv, ⟨o, ho, hc, _⟩, hz⟩ := I.tuple hq
      exact binL hF I.ok.mod.kin J (fun A Q E s k z => wpAny_typeOf_ref (k _ _ ho) (by rw [hc]; exact z)) T.first T.at_ T.fn r1 r2 t1 t2 t3 go
end
end L2

namespace L2
open PySem PySem.Spec PyProof.Rows
/-! ### o[k] by the class's own def, in a try's body -/
section
variable {X : Cx} {CX : CXT} {k : Nat} {f C a dx : Addr} {fs : List (Str × V)} {fd : FuncData} {ps : List Str} {sp : Sp} {pins : List (Addr × Obj)} {σ : St} {H : Hp} {s : Shared} {Q : VK} {us : List Value} {vs : List V}
theorem run_subW {E : XK} {A1 : Around} (hf : A1.frames = some X.stack) (F : FnOk X.prog X.w X.K X.mg X.base CX k f fd ps sp) (hr : Room k A1) (hb : Binds X.K fd ps []) (hx : PassesAt CX X σ E) (I : Inv X pins σ H s) (r : Vals vs us) (h : sp vs H Q E) :
    wpAny (model X.prog X.w) A1 (call (.ref f) us) (EP X pins σ Q) X.xe s := by
  have hl : (us ++ []).length = ps.length := by rw [List.append_nil, ← r.length]; exact F.len _ _ _ _ h
  have e := I.env0
  have bt := hb s us I.kIn hl
  rw [List.append_nil] at bt
  refine wpAny_call (codeAny_mono (F.run A1 X.stack s H ⟨us, []⟩ us vs Q E hr ⟨hf, e.mod, e.bs, e.bsz, e.funs, e.frf, e.hok, e.bare⟩ bt r h) fun r s' hq => ?_)
  match r, hq with
  | .error e, hq => exact hx pins H s e s' I hq
  | .ok (.ret u), hq => exact I.after hq
def tGetIW (C : Addr) (sp : Sp) (E : St → XK) (ta tb : TE) : TE := fun σ H Q => tOp (rGetI C sp (E σ)) ta tb σ H Q
theorem pe_getIW {E : St → XK} {ea eb : Expr} {ta tb : TE} {pos : Pos} (m : Meth X.K C "__getitem__" f) (hfi : PySem.W.fnIn X.K f = true) (F : FnOk X.prog X.w X.K X.mg X.base CX k f fd ps sp) (hr : Room (k + 1) X.A) (hb : Binds X.K fd ps []) (hx : ∀ σ, PassesAt CX X σ (E σ))
    (ha : PE X ea ta) (hbe : PE X eb tb) (hsl : ∀ (x : Addr) (i : Value), subscripted eb true (.ref x) i = runValue (.builtin "lifetime.subscript" ⟨[.ref x, i], []⟩) := by intro _ _; with_unfolding_all rfl) : PE X (.Subscript ea eb pos) (tGetIW C sp E ta tb) := by
  refine ⟨fun pins s σ H Q I h => ?_⟩
  refine Subscript_ (binT ha hbe I h fun v u s2 x y H2 I2 rx ry q => ?_)
  obtain ⟨a, dx, fs, rfl, ho, q⟩ := q
  cases rx
  obtain ⟨ox, od, J⟩ := inst_of I2 ho
  obtain ⟨mf, hF⟩ := I2.fr
  exact PySem.W.sub_K hF I2.ok.mod.kin J m.at_ hfi m.fn (run_subW (A1 := X.A.in1) (us := [.ref a, u]) (vs := [.ref a, y]) (stack_of I2) F hr.in1 hb (hx σ) I2 (.cons rfl (.cons ry .nil)) q) (hsl a u)
end
end L2
namespace L2
open PySem PySem.Spec PyProof.Rows
/-! ### a try within a loop: its reading by a name -/
def tTryAs (K : PySem.W.Frag) (c : Value) (i : Nat) (tb : WX → TS) (ts : Addr → Value → Option Addr → TS) (Wout : WX) : TS := fun D σ H => tb (wAs K c i ts Wout D) D σ H
section
variable {X : Cx} {x n : Str} {c : Value} {i : Nat} {body suite : List Stmt} {b₀ : Stmt} {np pos pos' : Pos} {tb : WX → TS} {ts : Addr → Value → Option Addr → TS} {Wout : WX}
theorem ps_tryL (hs : X.stack = X.env :: X.outer) (hf : X.env.frame = some X.env.locals) (hN : X.N.Nodup) (hi : X.N[i]? = some n) (hln : X.env.kindOf n = some .local) (hc : Names X x c) (tk : Takes X Wout)
    (hb : ∀ (W : WX) (pn : List (Addr × Obj)) (xe : Value → Shared → Prop), Takes (X.tr pn xe) W → PassesOwn (model X.prog X.w) X.A X.env xe → PSs (X.tr pn xe) body (tb W))
    (hsu : ∀ (a : Addr) (oe : Obj) (cls : Value) (d : Option Addr) (pn : List (Addr × Obj)), Zc cls d oe → (∃ vs, oe.data = .fields vs) → PSs (X.suite a ((a, oe) :: pn)) (b₀ :: suite) (ts a cls d)) :
    PS X (.Try body [.ExceptHandler (some (.Name x np)) (some n) (b₀ :: suite) pos'] [] [] pos) (tTryAs X.K c i tb ts Wout) := ps_try_as hs hf hN hi hln hc tk hb hsu
end
end L2

namespace L2
open PySem PySem.Spec PyProof.Rows
section
variable {prog : Program} {w : World} {A : Around} {E : Value → Shared → Prop} {s : Shared} {K : PySem.W.Frag} {x C L f f0 : Addr} {h₀ : Heap} {m : Str → Option Value} {ox : Obj} {od : Option Obj} {T : String}
/-- a + o, a of a built-in type that fills no number slot: o's own reflected def -/
theorem binR {op : Operator} {a : Value} {fo ro : Option Value} {Q : Value → Shared → Prop} (F : Fr h₀ L s.heap m) (X₀ : K.In h₀) (I : PySem.W.InstAt s.heap x ox C od) (ha : PySem.W.Looks (model prog w) s.heap (typeOf a) (.type T)) (hc : PySem.W.selfFirst K C = true)
    (hs : PySem.W.findIn K (.ref C) (PySem.dunder op.info.2) = some (some (.ref f0))) (hr : PySem.W.findIn K (.ref C) (dunderR op.info.2) = some (some (.ref f))) (hf : PySem.W.isFn K (.ref f) = true)
    (h1 : PySem.W.findIn K (.type T) (PySem.dunder op.info.2) = some fo) (h2 : PySem.W.findIn K (.type T) (dunderR op.info.2) = some ro) (hl : ((fo.isSome && !isSeqSlot fo) || (ro.isSome && !isSeqSlot ro)) = false)
    (h : wpAny (model prog w) A (call (.ref f) [.ref x, a]) (PySem.W.CmpBack Q) E s) : wpAny (model prog w) A (binaryOp op a (.ref x)) Q E s := by
  have X := X₀.keeps F.keep
  obtain ⟨cd, rest, hcd, hm⟩ := PySem.W.ksp_first hc
  rcases hi : op.info with ⟨sym, nm'⟩
  rw [hi] at hs hr h1 h2; dsimp only at hs hr h1 h2
  have one := PySem.W.ksp_try X I hr hf h
  obtain ⟨hh, gg, dd, tt, os⟩ := s
  have La := I.type (M := model prog w)
  have Lc := PySem.W.fills_K (M := model prog w) X hcd hm hs
  have Ld := PySem.W.ksp_fillsT (M := model prog w) X h1 h2
  rw [hl] at Ld
  have hne : (Value.type T == Value.ref C) = false := Bool.eq_false_iff.mpr fun q => by cases beq_iff_eq.mp q
  simp only [binaryOp, hi]
  refine wpAny_holding (wpAny_bind ?_)
  unfold binaryOp1
  refine wpAny_bind (ha.at (wpAny_bind (La.at (wpAny_bind (Ld.at ?_)))))
  simp only [hne, Bool.false_eq_true, if_false]
  ksp_lk
  refine wpAny_mono one (fun r s' hr' => ?_) (fun _ _ e => e)
  obtain ⟨v, rfl, hq⟩ := hr'
  ksp_lk
  exact hq
end
/-- what list and tuple look like to + -/
structure SeqAdd (K : PySem.W.Frag) : Prop where
  la : PySem.W.findIn K (.type "list") "__add__" = some (some (.builtin "list.__add__"))
  lr : PySem.W.findIn K (.type "list") "__radd__" = some none
  ta : PySem.W.findIn K (.type "tuple") "__add__" = some (some (.builtin "tuple.__add__"))
  tr : PySem.W.findIn K (.type "tuple") "__radd__" = some none
def rOpR (K : PySem.W.Frag) (C : Addr) (sp : Sp) (E : XK) : R2 := fun x y H Q => ∃ b dy gs p xs, y = .ref b ∧ H b = some (.ins C dy gs) ∧ x = .ref p ∧ (SqL K H p xs ∨ SqT K H p xs) ∧ sp [y, x] H Q E
def ipOwn (C : Addr) (sp : Sp) (E : XK) : TIp := fun x y H Q => ∃ a dx fs, x = .ref a ∧ H a = some (.ins C dx fs) ∧ sp [x, y] H Q E
section
variable {X : Cx} {CX : CXT} {n : Nat} {C g g0 : Addr} {fd : FuncData} {ps : List Str} {sp : Sp} {E : XK}
theorem op_radd (S : SeqAdd X.K) (hc : PySem.W.selfFirst X.K C = true) (m0 : Meth X.K C "__add__" g0) (m : Meth X.K C "__radd__" g) (F : FnOk X.prog X.w X.K X.mg X.base CX n g fd ps sp) (hr : Room n X.A) (hb : Binds X.K fd ps []) (hx : Passes CX X E) : OpR X (binaryOp .Add) (rOpR X.K C sp E) := by
  intro pins s σ H x y v u Q I rx ry h
  obtain ⟨b, dy, gs, p, xs, rfl, ho, rfl, hq, q⟩ := h
  cases ry
  cases rx
  obtain ⟨ox, od, J⟩ := inst_of I ho
  obtain ⟨mf, hF⟩ := I.fr
  have go := thn (run_sub (us := [.ref b, .ref p]) (vs := [.ref b, .ref p]) (stack_of I) F hr hb hx I (.cons rfl (.cons rfl .nil)) q) (Q' := PySem.W.CmpBack (EP X pins σ Q)) fun w s' ⟨z', H', I', rz, qz⟩ => SlX.cmpback rz ⟨z', H', I', rz, qz⟩
  rcases hq with hq | hq
  · obtain ⟨its, rv, pl, hz⟩ := I.list hq
    obtain ⟨o, ho, hc', _⟩ := pl.isList
    exact binR (op := .Add) hF I.ok.mod.kin J (fun A Q E s k z => wpAny_typeOf_ref (k _ _ ho) (by rw [hc']; exact z)) hc m0.at_ m.at_ m.fn S.la S.lr (by decide +kernel) go
  · obtain ⟨its, rv, ⟨o, ho, hc', _⟩, hz⟩ := I.tuple hq
    exact binR (op := .Add) hF I.ok.mod.kin J (fun A Q E s k z => wpAny_typeOf_ref (k _ _ ho) (by rw [hc']; exact z)) hc m0.at_ m.at_ m.fn S.ta S.tr (by decide +kernel) go
theorem ip_own (hc : PySem.W.selfFirst X.K C = true) (m : Meth X.K C "__iadd__" g) (F : FnOk X.prog X.w X.K X.mg X.base CX n g fd ps sp) (hr : Room n X.A) (hb : Binds X.K fd ps []) (hx : Passes CX X E) : PIp X .Add (ipOwn C sp E) := by
  intro pins s σ H x y v u Q I rx ry h
  obtain ⟨a, dx, fs, rfl, ho, q⟩ := h
  cases rx
  obtain ⟨ox, od, J⟩ := inst_of I ho
  obtain ⟨mf, hF⟩ := I.fr
  have go := thn (run_sub (us := [.ref a, u]) (vs := [.ref a, y]) (stack_of I) F hr hb hx I (.cons rfl (.cons ry .nil)) q) (Q' := PySem.W.CmpBack (EP X pins σ Q)) fun w s' ⟨z', H', I', rz, qz⟩ => SlX.cmpback rz ⟨z', H', I', rz, qz⟩
  exact PySem.W.ksp_inplace (op := .Add) hF I.ok.mod.kin J hc m.at_ m.fn go
end
end L2

namespace PySem
namespace HandSPX
open PySem PySem.Spec
/-- it leaves the def, its flight whatever it is -/
theorem leaves_anyZ {M : Model} {A : Around} {E : Value → Shared → Prop} {s : Shared} {Z : Obj → Prop} {base : Heap} {env : Env} {outer : List Env} {L e : Addr} {fl : Value} {Q : Unit → Shared → Prop} (hZ : Steady Z)
    (hfr : A.frames = some (env :: outer)) (hf : env.frame = some L) (hkb : base.StaysIn s.heap) (hen : base.get? e = none) (hl : s.heap.FunFrames base (env :: outer)) (ht : TracedZ s.heap base e Z fl)
    (hQ : ∀ h', FlyingZ base outer e Z h' → s.heap.UpToSlots h' → Q () { s with heap := h' }) : wpAny M A (leaving env (.ref e)) Q E s := by
  by_cases hfl : fl = rawInt L
  · subst hfl
    exact leaves_heldZ hf ⟨hkb, hen, hl, ht⟩ hQ
  obtain ⟨oe, vs, T, oT, ts, he, hz, hd, h1, hnT, hTe, hT, hdT, h3⟩ := ht
  unfold leaving noteFrame
  simp only [hf]
  refine wpAny_bind (wpAny_bind (wpAny_field he hd h1 ?_))
  rw [if_pos (show (Value.ref T != Value.none) = true from by simp)]
  refine wpAny_bind (wpAny_field hT hdT h3 ?_)
  rw [if_neg (show ¬ ((fl == rawInt L) = true) from by simp [hfl])]
  refine wpAny_bind (wpAny_setField hT hdT (Array.getElem?_eq_some_iff.mp h3).1 ?_)
  have other : ∀ b, b ≠ T → (s.heap.update T (Obj.mapFields (·.setIfInBounds 3 Value.none))).get? b = s.heap.get? b := fun b hb => Heap.get?_update_other _ _ (Ne.symm hb)
  have noRecord : ∀ b o, s.heap.get? b = some o → (∀ vs, o.data ≠ .fields vs) → b ≠ T := fun b o hb hnf q => by
    rw [q, hT] at hb; injection hb with hb; subst hb; exact hnf ts hdT
  refine wpAny_newEntryZ hZ hfr (hl.of_keeps fun b o hb hnf => ⟨o, (other b (noRecord b o hb hnf)).trans hb, rfl⟩) hf ((other e (Ne.symm hTe)).trans he)
    (fun b o hbo => (other b fun q => by rw [q, hnT] at hbo; cases hbo).trans (hkb b o hbo)) hen hd (Array.getElem?_eq_some_iff.mp h1).1 hz fun h' hL => ?_
  obtain ⟨x1, ⟨_, _, x2⟩, x3, x4⟩ := hL
  exact hQ h' ⟨x1, hen, x2, x3⟩ fun b o hb hnf => x4 b o ((other b (noRecord b o hb hnf)).trans hb) hnf
end HandSPX
end PySem
namespace L2
open PySem PySem.Spec PyProof.Rows
theorem noteFrame_as {e1 e2 : Env} (h : e1.frame = e2.frame) (x : Value) : noteFrame x e1 = noteFrame x e2 := by
  unfold noteFrame PySem.frameOf
  rw [h]
section
variable {X : Cx} {pins : List (Addr × Obj)} {σ : St} {H : Hp} {sI s s' : Shared} {B : Heap} {E : XK}
theorem leaveAny (hs : X.stack = X.env :: X.outer) (hf : X.env.frame = some X.env.locals) (hex : X.ex = []) {E₁ : Value → Shared → Prop} {a : Addr} {cls : Value} {d : Option Addr} {fl : Value}
    (I : Inv X pins σ H sI) (nb : ∀ b o, sI.heap.get? b = some o → b ∉ frs X.stack → B.get? b = some o) (up : sI.heap.UpToSlots s'.heap) (hB : B.StaysIn s'.heap) (hn : B.get? a = none) (hl : s'.heap.FunFrames B X.stack) (ht : HandSPX.TracedZ s'.heap B a (Zc cls d) fl)
    (na : H a = none) (os : s'.os = sI.os) (ag : AllBare s'.gens) (hE : E cls d H) :
    wpAny (model X.prog X.w) X.A (leaving X.env (.ref a)) (fun _ s'' => CX X.prog X.w X.outer X.H_0 X.s_0 E (.ref a) s'') E₁ s' := by
  have hfr : X.A.frames = some (X.env :: X.outer) := by rw [I.ok.frames, hs]
  have nst : ∀ b o, X.s_0.heap.get? b = some o → b ∉ X.fs → b ∉ frs X.stack := fun b o e hb hm => by
    rcases List.mem_cons.mp (I.stkSub b hm) with z | z
    · have h1 := Heap.lt_size e
      have h2 := I.ok.above
      rw [z] at h1
      exact absurd (Nat.lt_of_lt_of_le h1 h2) (Nat.lt_irrefl _)
    · exact hb z
  have hex' : ∀ b, b ∉ X.ex := fun b hb => by rw [hex] at hb; cases hb
  have hokB := I.inGround nb
  rw [hs] at hl
  refine HandSPX.leaves_anyZ Zc.steady hfr hf hB hn hl ht fun h' fl up' => ?_
  refine ⟨a, B, H, cls, d, rfl, fl, hokB, ⟨fun b o e n hb => nb b o (I.base.keep b o e n hb (hex' b)) (nst b o e hb), fun b o e hb => ?_, fun b o e n => I.base.free b o e n (hex' b), fun b o e hb => ?_, I.base.tups, I.base.frzs, I.base.tbls⟩,
    na, os.trans I.os, ag, hE⟩
  · obtain ⟨_, o₀, e₀, hnf⟩ := I.ok.funs.mem hb
    rw [e] at e₀; cases e₀
    obtain ⟨sl, e1⟩ := I.base.slot b o e (I.ok.frf b hb) hb (hex' b)
    obtain ⟨sl2, e2⟩ := up b _ e1 hnf
    obtain ⟨sl3, e3⟩ := up' b _ e2 hnf
    exact ⟨sl3, e3⟩
  · obtain ⟨o', e1⟩ := I.base.there b o e (hex' b)
    exact ⟨o', nb b o' e1 (nst b o e hb)⟩
/-- a call's exception, its parts -/
theorem of_callF (I : Inv X pins σ H s) {u : Value} (c : CX X.prog X.w X.stack H s E u s') : ∃ (a : Addr) (B : Heap) (sI : Shared) (H' : Hp) (cls : Value) (d : Option Addr), u = .ref a ∧ Inv X pins σ H' sI ∧ (∀ b o, sI.heap.get? b = some o → b ∉ frs X.stack → B.get? b = some o) ∧ sI.heap.UpToSlots s'.heap ∧
    HandSPX.FlyingZ B X.stack a (Zc cls d) s'.heap ∧ H' a = none ∧ s'.os = sI.os ∧ AllBare s'.gens ∧ E cls d H' := by
  obtain ⟨a, B, H', cls, d, rfl, fl, hok, ub, na, os, ag, hE⟩ := c
  obtain ⟨G, g1, g2⟩ := restrict s'.heap fun b => (B.get? b).isSome || decide (b ∈ frs X.stack)
  have st : B.StaysIn s'.heap := fl.1
  have gB : ∀ b o, B.get? b = some o → G.get? b = some o := fun b o e => by
    rw [g1 b (by simp [e])]
    exact st b o e
  have gF : ∀ b, b ∈ frs X.stack → G.get? b = s'.heap.get? b := fun b hb => g1 b (by simp [hb])
  have og : ∀ b o, G.get? b = some o → s'.heap.get? b = some o ∧ ((B.get? b).isSome = true ∨ b ∈ frs X.stack) := fun b o e => by
    cases q : ((B.get? b).isSome || decide (b ∈ frs X.stack)) with
    | false => rw [g2 b q] at e; cases e
    | true =>
      rw [g1 b q] at e
      exact ⟨e, by simpa [Bool.or_eq_true] using q⟩
  refine ⟨a, B, { s with heap := G, gens := s'.gens, drawn := s'.drawn, toks := s'.toks }, H', cls, d, rfl, ?_, fun b o e hb => ?_, Heap.UpToSlots.of_keeps fun b o e => (og b o e).1, fl, na, os, ag, hE⟩
  · refine I.call (ch := []) ⟨fun b o e n hb _ => gB b o (ub.keep b o e n hb), fun b o e n hb _ => ?_, fun b o e n _ => ub.free b o e n, fun b o e _ => ?_, ub.tups, ub.frzs, ub.tbls⟩ (hok.kept gB) ag (fun _ z => nomatch z)
    · obtain ⟨sl, q⟩ := ub.slot b o e hb
      exact ⟨sl, by rw [gF b hb]; exact q⟩
    · by_cases hb : b ∈ frs X.stack
      · obtain ⟨sl, q⟩ := ub.slot b o e hb
        exact ⟨_, by rw [gF b hb]; exact q⟩
      · obtain ⟨o', q⟩ := ub.there b o e hb
        exact ⟨o', gB b o' q⟩
  · obtain ⟨e', h⟩ := og b o e
    rcases h with h | h
    · obtain ⟨o', q⟩ := Option.isSome_iff_exists.mp h
      have z := st b o' q
      rw [e'] at z; cases z
      exact q
    · exact absurd h hb
theorem funFrames_hide {B h h' : Heap} {C : Addr} (k : ∀ b, b ≠ C → h'.get? b = h.get? b) : ∀ {l : List Env}, h.FunFrames B l → C ∉ frs l → h'.FunFrames (PySem.W.hideAll B [C]) l
  | [], _, _ => trivial
  | env :: l, hh, hC => by
    obtain ⟨hk, ⟨L, o, hf, hn, ho, hd⟩, hr⟩ := hh
    have m : L ∈ frs (env :: l) := List.mem_filterMap.mpr ⟨env, List.mem_cons_self, hf⟩
    have nL : L ≠ C := fun e => hC (e ▸ m)
    refine ⟨hk, ⟨L, o, hf, ?_, (k L nL).trans ho, hd⟩, funFrames_hide k hr fun z => hC ?_⟩
    · cases q : (PySem.W.hideAll B [C]).get? L with
      | none => rfl
      | some u => rw [PySem.W.of_hideAll _ q] at hn; cases hn
    · obtain ⟨e, he, q⟩ := List.mem_filterMap.mp z
      exact List.mem_filterMap.mpr ⟨e, List.mem_cons_of_mem _ he, q⟩
theorem Inv.reXe (I : Inv X pins σ H s) (xb : Value → Shared → Prop) : Inv { X with xe := xb } pins σ H s :=
  ⟨⟨I.ok.mod, I.ok.kind, I.ok.glob, I.ok.blt, I.ok.above, I.ok.inj, I.ok.has, I.ok.cab, I.ok.hd, I.ok.frames, I.ok.stk, I.ok.exf, I.ok.bs, I.ok.bsz, I.ok.noex, I.ok.exfs, I.ok.funs, I.ok.frf⟩, I.os, I.bare, I.base, I.loc, I.cell, I.free, I.freeC, I.pin, I.hok, I.len⟩
end
end L2

namespace L2
open PySem PySem.Spec PyProof.Rows
section
variable {X : Cx} {E : XK}
/-- what a call in the block lets out goes out of the comprehension and out of the def -/
theorem blk_passes {pins : List (Addr × Obj)} {σ : St} {H3 : Hp} {s3 : Shared} {scope : Scope} {ce : Env} {fp : List Addr} {use : Option (Value → Sem Unit)} {Qf : Value → Shared → Prop} {acc : Value} {E₁ : Value → Shared → Prop}
    (hs : X.stack = X.env :: X.outer) (hf : X.env.frame = some X.env.locals) (hex : X.ex = [])
    (hx : X.xe = fun e s' => wpAny (model X.prog X.w) X.A (leaving X.env e) (fun _ s'' => CX X.prog X.w X.outer X.H_0 X.s_0 E e s'') E₁ s')
    (I3 : Inv X pins σ H3 s3) (f3 : ∀ b ∈ fp, FpOk X pins H3 b ∧ b < s3.heap.objs.size) (cL : ce.locals = s3.heap.objs.size) (cF : ce.frame = X.env.frame) :
    Passes (CX X.prog X.w) { X.blk s3 H3 scope ce fp with xe := notedBy (model X.prog X.w) X.A ce fun e s' => compPost (model X.prog X.w) X.A X.xe use Qf acc s3.heap.objs.size (.error e) s' } E := by
  intro pinsB σB H s e s' I c
  obtain ⟨a, B, sI, H', cls, d, rfl, Ib, nb, up, fl, na, os, ag, hE⟩ := of_callF I c
  have nb : ∀ b o, sI.heap.get? b = some o → b ∉ frs X.stack → B.get? b = some o := nb
  have fl : HandSPX.FlyingZ B X.stack a (Zc cls d) s'.heap := fl
  generalize hC : s3.heap.objs.size = C at cL
  have hfr : X.A.frames = some (X.env :: X.outer) := by rw [I3.ok.frames, hs]
  show wpAny (model X.prog X.w) X.A (noteFrame (.ref a) ce) (fun _ s'' => compPost (model X.prog X.w) X.A X.xe use Qf acc C (.error (.ref a)) s'') _ s'
  rw [noteFrame_as cF]
  rw [hs] at fl
  refine HandSPX.looks_onZ Zc.steady hfr hf fl fun h1 held up1 => ?_
  have I1 : Inv _ pinsB σB H' { s' with heap := h1 } := Ib.landed (s' := { s' with heap := h1 }) nb held.1 (Heap.UpToSlots.trans up up1) os ag
  obtain ⟨m, hn, _⟩ := I1.loc
  have hn : h1.Ns ce.locals m := hn
  rw [cL] at hn
  have nC : H' C = none := by
    have z : H' ce.locals = none := Ib.free
    rw [cL] at z; exact z
  have IX : Inv X pins σ H' sI := I3.call' (ch := fp) Ib.os Ib.base Ib.hok Ib.bare fun b hb => ⟨(f3 b hb).1.2.2.2.1, (f3 b hb).1.2.1, (f3 b hb).1.2.2.2.2.1, (f3 b hb).1.2.2.2.2.2⟩
  obtain ⟨f0, f1, f2, f3', f4, f5⟩ := I3.fpOk (b := C) (Nat.le_of_eq hC) nC
  have I2 : Inv X pins σ H' { sI with heap := PySem.W.hideAll sI.heap [C], toks := sI.toks } := IX.turned (it := C) (fun b o hb e => PySem.W.hideAll_get _ e (by simpa using hb)) f0 f1 f3' f4 f5
  have nhide : ∀ {h : Heap} {b : Addr} {o : Obj}, (PySem.W.hideAll h [C]).get? b = some o → b ≠ C := fun {h b o} e z => by
    rw [PySem.W.hideAll_none (b := b) [C] (by simp [z])] at e; cases e
  have hCs : C ∉ frs X.stack := fun z => by
    rcases List.mem_cons.mp (I3.stkSub C z) with e | e
    · exact f1 e
    · exact f2 e
  have fin : ∃ m, h1.Ns C m ∧ ∀ h', Heap.SameBut C h1 h' → ∀ cenv : Env, cenv.locals = C → wpAny (model X.prog X.w) X.A (PySem.passOn "comprehension.variables-let-go" (.ref a) cenv : Sem Value) (fun _ _ => False) X.xe { s' with heap := h' } := by
    refine ⟨m, hn, fun h' sb cenv _ => ?_⟩
    obtain ⟨kB, hen, hl, oe, vs, T, oT, ts, he, hz, hd, e1, hnT, hTe, hT, hdT, e3⟩ := held
    obtain ⟨oC, es, ep, gC, dC, _⟩ := hn
    have naC : a ≠ C := fun z => by rw [z, gC] at he; cases he; rw [dC] at hd; cases hd
    have nTC : T ≠ C := fun z => by rw [z, gC] at hT; cases hT; rw [dC] at hdT; cases hdT
    have he' : h'.get? a = some oe := (sb.2 a naC).trans he
    have hT' : h'.get? T = some oT := (sb.2 T nTC).trans hT
    have hnB : ∀ b, B.get? b = none → (PySem.W.hideAll B [C]).get? b = none := fun b e => by
      cases q : (PySem.W.hideAll B [C]).get? b with
      | none => rfl
      | some u => rw [PySem.W.of_hideAll _ q] at e; cases e
    have kB' : (PySem.W.hideAll B [C]).StaysIn h' := fun b o e => (sb.2 b (nhide e)).trans (kB b o (PySem.W.of_hideAll _ e))
    have hl' : h'.FunFrames (PySem.W.hideAll B [C]) (X.env :: X.outer) := funFrames_hide sb.2 hl (by rw [← hs]; exact hCs)
    have ht' : HandSPX.TracedZ h' (PySem.W.hideAll B [C]) a (Zc cls d) (rawInt X.env.locals) := ⟨oe, vs, T, oT, ts, he', hz, hd, e1, hnB T hnT, hTe, hT', hdT, e3⟩
    unfold PySem.passOn
    refine wpAny_bind (wpAny_field he' hd e1 ?_)
    rw [if_neg (show ¬ ((Value.ref T == Value.none) = true) from by simp)]
    refine wpAny_bind (HandSPX.setFlight_anyZ kB' hl' ht' fun h2 k1 k2 k3 k4 => wpAny_throw ?_)
    rw [hx]
    refine leaveAny hs hf hex I2 (fun b o e hb => ?_) (fun b o e hnf => ?_) k1 (hnB a hen) (by rw [hs]; exact k2) k3 na os ag hE
    · exact PySem.W.hideAll_get _ (nb b o (PySem.W.of_hideAll _ e) hb) (by simpa using nhide e)
    · have nb' := nhide e
      obtain ⟨sl1, q1⟩ := up b o (PySem.W.of_hideAll _ e) hnf
      obtain ⟨sl2, q2⟩ := up1 b _ q1 hnf
      obtain ⟨sl3, q3⟩ := k4 b _ ((sb.2 b nb').trans q2) hnf
      exact ⟨sl3, q3⟩
  cases use <;> exact fin
theorem lc_coreX {pins : List (Addr × Obj)} {s : Shared} {σ : St} {H : Hp} {Q : VK} {elt tg iter : Expr} {ifs : List Expr} {scope : Scope} {own : List (Str × Nat)} {pos pos' : Pos} {wi : TI} {g : TG} {tt : TT} {te : TE} {use : Option (Value → Sem Unit)} {Qf : Value → Shared → Prop} {E₁ : Value → Shared → Prop}
    (hst : X.stack = X.env :: X.outer) (hfm : X.env.frame = some X.env.locals) (hex : X.ex = [])
    (hx : X.xe = fun e s' => wpAny (model X.prog X.w) X.A (leaving X.env e) (fun _ s'' => CX X.prog X.w X.outer X.H_0 X.s_0 E e s'') E₁ s')
    (hc : X.calm = true) (hN : X.N.Nodup) (I : Inv X pins σ H s) (hi : PI X tg iter wi) (ok : BlkOk X.N X.env.scope scope own)
    (hg : ∀ (s : Shared) (H : Hp) (C : Addr) (cl : List (Str × Addr)) (fp : List Addr) (xb : Value → Shared → Prop), PG { X.blk s H scope (compEnvC scope cl C X.env) fp with xe := xb } tg g) (ht : ∀ (s : Shared) (H : Hp) (C : Addr) (cl : List (Str × Addr)) (fp : List Addr) (xb : Value → Shared → Prop), PTs { X.blk s H scope (compEnvC scope cl C X.env) fp with xe := xb } ifs tt)
    (he : ∀ (s : Shared) (H : Hp) (C : Addr) (cl : List (Str × Addr)) (fp : List Addr) (xb : Value → Shared → Prop), Passes (CX X.prog X.w) { X.blk s H scope (compEnvC scope cl C X.env) fp with xe := xb } E → PE { X.blk s H scope (compEnvC scope cl C X.env) fp with xe := xb } elt te) (hs : ∀ x, foldedSetIterable iter X.env x = pure x)
    (h : tLc wi g tt te (own.map (·.2)) σ H Q)
    (hRR : ∀ D C s' m H', Inv X pins σ H' s' → Q (.ref D) H' → s'.heap.Ns C m → FpOk X pins H' C → compPost (model X.prog X.w) X.A X.xe use Qf (.ref D) C (.ok .next) s') :
    wpAny (model X.prog X.w) X.A (comprehension (.ListComp elt [⟨tg, iter, ifs, 0⟩] scope pos) scope X.env pos' (newList []) false (eval iter X.env) use) Qf X.xe s := by
  have hfree : ∀ y ∈ scope.names, y.2 = .free → ∃ c, X.env.cells.lookup y.1 = some c := fun y hy e => by
    rcases ok.free y hy e with k | k
    · exact I.ok.has _ (.inl k)
    · exact I.ok.has _ (.inr k)
  refine wpAny_comprehension_free (use := use) rfl hs (closure_ok hfree) ok.kind (fun y hy e => by rw [ok.uniq y hy, e])
    (thn (hi.run pins s σ H _ I h) fun xv s1 hxv => thn hxv fun itv s2 h2 => ?_)
  obtain ⟨it, fp, tn, J, H2, e, I2, T, st2, f2, q⟩ := h2
  subst e
  refine wpAny_newObj_type (newEnv_comp ?_) (by show 0 ≤ sizeLine; decide)
  generalize hD : s2.heap.objs.size = D
  have hDn : H2 D = none := I2.hok.fresh (Nat.le_of_eq hD)
  obtain ⟨W, ⟨m0, w0⟩, turn⟩ := q D hDn
  -- the new list
  generalize hs3 : ({ s2 with heap := s2.heap.push { cls := .type "list", data := .seq ([] : List Value).toArray } } : Shared) = s3
  have I3 : Inv X pins σ (upd H2 D (.lst [])) s3 := by
    rw [← hs3]
    refine I2.laid (t' := s2.toks) (fun b o e => Heap.get?_push_of_some _ e) (Nat.le_of_eq hD) ⟨Nat.zero_le _, [], 0, .nil, ?_⟩
    rw [← hD]
    exact Heap.get?_push_size _ rfl
  have h3 : s3.heap = s2.heap.push { cls := .type "list", data := .seq ([] : List Value).toArray } := by rw [← hs3]
  have sz : ∀ b ∈ fp, b < s2.heap.objs.size := fun b hb => by
    obtain ⟨o, e, _⟩ := T.obj _ _ st2 b hb
    exact Heap.lt_size e
  have f3 : ∀ b ∈ fp, FpOk X pins (upd H2 D (.lst [])) b ∧ b < s3.heap.objs.size := fun b hb => by
    have hlt := sz b hb
    refine ⟨⟨?_, (f2 b hb).2⟩, by rw [h3, Heap.size_push]; exact Nat.lt_succ_of_lt hlt⟩
    rw [upd_ne (by rw [← hD]; exact Nat.ne_of_lt hlt)]
    exact (f2 b hb).1
  have st3 : tn 0 s3.heap := T.keep _ _ _ st2 fun b _ o e => by rw [h3]; exact Heap.get?_push_of_some _ e
  have I4 := block_start I3 ok hN f3
  have pg := hg s3 (upd H2 D (.lst [])) s3.heap.objs.size (cellsFrom (s3.heap.objs.size + 1) scope.names (cloFrom X.env.cells scope.names [])) fp
  have pt := ht s3 (upd H2 D (.lst [])) s3.heap.objs.size (cellsFrom (s3.heap.objs.size + 1) scope.names (cloFrom X.env.cells scope.names [])) fp
  have pe := he s3 (upd H2 D (.lst [])) s3.heap.objs.size (cellsFrom (s3.heap.objs.size + 1) scope.names (cloFrom X.env.cells scope.names [])) fp
  show codeAny _ _ (.compStart (.ListComp elt [⟨tg, iter, ifs, 0⟩] scope pos) 0 (.ref it) (.ref D) (compEnvC scope (cellsFrom (s3.heap.objs.size + 1) scope.names (cloFrom X.env.cells scope.names [])) s3.heap.objs.size X.env)) (compPost (model X.prog X.w) X.A X.xe use Qf (.ref D) s3.heap.objs.size) { s3 with heap := pushCells (s3.heap.push { cls := .type "dict", data := .dict #[] }) scope.names }
  have nfp : ∀ b ∈ fp, (upd H2 D (.lst [])) b = none := fun b hb => (f3 b hb).1.1
  have cF : (compEnvC scope (cellsFrom (s3.heap.objs.size + 1) scope.names (cloFrom X.env.cells scope.names [])) s3.heap.objs.size X.env).frame = X.env.frame := rfl
  generalize hce : compEnvC scope (cellsFrom (s3.heap.objs.size + 1) scope.names (cloFrom X.env.cells scope.names [])) s3.heap.objs.size X.env = ce at I4 pg pt pe cF ⊢
  have cL : ce.locals = s3.heap.objs.size := by subst hce; rfl
  generalize hH3 : upd H2 D (.lst []) = H3 at I3 I4 pg pt pe w0 nfp f3
  have ps := blk_passes (use := use) (Qf := Qf) (acc := .ref D) (scope := scope) (fp := fp) hst hfm hex hx I3 f3 cL cF
  replace pg := pg (notedBy (model X.prog X.w) X.A ce fun e s' => compPost (model X.prog X.w) X.A X.xe use Qf (.ref D) s3.heap.objs.size (.error e) s')
  replace pt := pt (notedBy (model X.prog X.w) X.A ce fun e s' => compPost (model X.prog X.w) X.A X.xe use Qf (.ref D) s3.heap.objs.size (.error e) s')
  replace pe := pe _ ps
  replace I4 := I4.reXe (notedBy (model X.prog X.w) X.A ce fun e s' => compPost (model X.prog X.w) X.A X.xe use Qf (.ref D) s3.heap.objs.size (.error e) s')
  generalize hXB : ({ X.blk s3 H3 scope ce fp with xe := notedBy (model X.prog X.w) X.A ce fun e s' => compPost (model X.prog X.w) X.A X.xe use Qf (.ref D) s3.heap.objs.size (.error e) s' } : Cx) = XB at pg pt pe I4
  have eP : XB.prog = X.prog := by subst hXB; rfl
  have eW : XB.w = X.w := by subst hXB; rfl
  have eK : XB.K = X.K := by subst hXB; rfl
  have eC : XB.calm = true := by subst hXB; exact hc
  have eE : XB.env = ce := by subst hXB; rfl
  have eA : XB.A = X.A := by subst hXB; rfl
  have eX : XB.xe = notedBy (model X.prog X.w) X.A ce fun e s' => compPost (model X.prog X.w) X.A X.xe use Qf (.ref D) s3.heap.objs.size (.error e) s' := by subst hXB; rfl
  generalize hs4 : ({ s3 with heap := pushCells (s3.heap.push { cls := .type "dict", data := .dict #[] }) scope.names } : Shared) = s4 at I4 ⊢
  have st4 : tn 0 s4.heap := T.keep _ _ _ st3 fun b _ o e => by rw [← hs4]; exact pushCells_keeps _ _ _ _ (Heap.get?_push_of_some _ e)
  have stat : ∀ {σ' : St} {H' : Hp} {s' : Shared}, Inv XB [] σ' H' s' → (∀ b ∈ fp, H' b = none) → ∀ b ∈ fp, FpOk XB [] H' b := fun {σ' H' s'} I' hn b hb => by
    subst hXB
    exact ⟨hn b hb, (I'.ok.exf b hb).1, I'.ok.exfs b hb, .inl hb, fun x c e => (I'.ok.exf b hb).2 x c e, fun p hp => absurd (show p ∈ ([] : List (Addr × Obj)) ++ [] from hp) (by simp)⟩
  have loop : codeAny (model X.prog X.w) X.A (.compLoop (.ListComp elt [⟨tg, iter, ifs, 0⟩] scope pos) 0 (.ref it) (.ref D) ce) (compPost (model X.prog X.w) X.A X.xe use Qf (.ref D) s3.heap.objs.size) s4 := by
    refine compLoop_any (fun n s' => ∃ i H', Inv XB [] (wipe σ (own.map (·.2))) H' s' ∧ tn i s'.heap ∧ (∀ b ∈ fp, H' b = none) ∧ W i n H') ?_ m0 ⟨0, H3, I4, st4, nfp, w0⟩
    rintro n s5 ⟨i, H5, I5, st5, n5, w5⟩
    rcases turn i n H5 w5 with ⟨stop, qq⟩ | ⟨go, Nx, hNx, step⟩
    · have td := T.done XB eP eW eK eC i [] s5 _ H5 (fun _ _ => False) I5 (stat I5 n5) st5 stop
      rw [eA] at td
      refine thnF td fun r s6 ⟨hr, I6⟩ => ?_
      subst hr
      have I6' : Inv { X.blk s3 H3 scope ce fp with xe := notedBy (model X.prog X.w) X.A ce fun e s' => compPost (model X.prog X.w) X.A X.xe use Qf (.ref D) s3.heap.objs.size (.error e) s' } [] (wipe σ (own.map (·.2))) H5 s6 := by rw [hXB]; exact I6
      -- back in the def's context
      have I7 : Inv X pins σ H5 s6 := I3.call' (ch := fp) I6'.os I6'.base I6'.hok I6'.bare fun b hb => ⟨(f3 b hb).1.2.2.2.1, (f3 b hb).1.2.1, (f3 b hb).1.2.2.2.2.1, (f3 b hb).1.2.2.2.2.2⟩
      have nC : H5 s3.heap.objs.size = none := by
        have z : H5 ce.locals = none := I6'.free
        rw [cL] at z
        exact z
      obtain ⟨m, hn, _⟩ := I6'.loc
      have hn : s6.heap.Ns ce.locals m := hn
      rw [cL] at hn
      exact hRR D s3.heap.objs.size s6 m H5 I7 qq hn (I3.fpOk (Nat.le_refl _) nC)
    · have ti := T.item XB eP eW eK eC i [] s5 _ H5 (fun _ _ => False) I5 (stat I5 n5) st5 go
      rw [eA] at ti
      refine thnF ti fun r s6 ⟨u, hr, h6⟩ => ?_
      subst hr
      refine thnF h6 fun _ s7 ⟨x, H7, I7, r7, y7, st7, n7⟩ => ?_
      have I7' := I7.pinned (stat I7 n7) (T.obj _ _ st7)
      have pg' := pg.run _ s7 _ H7 x u _ I7' r7 (step x H7 y7)
      rw [eP, eW, eA, eE, eX] at pg'
      refine thn pg' fun _ s8 ⟨σ8, H8, I8, hw8, q8⟩ => ?_
      have pt' := pt.run _ s8 σ8 H8 _ I8 q8
      rw [eP, eW, eA, eE, eX] at pt'
      refine thn pt' fun b s9 ⟨H9, I9, q9⟩ => ?_
      -- the turn's end
      have fin : ∀ {s' : Shared} {H' : Hp}, Inv XB ([] ++ pinsAt fp s7.heap) σ8 H' s' → Nx H' → ∃ m, m < n ∧ ∃ i H', Inv XB [] (wipe σ (own.map (·.2))) H' s' ∧ tn i s'.heap ∧ (∀ b ∈ fp, H' b = none) ∧ W i m H' := fun {s' H'} I' nx => by
        obtain ⟨m', hm, w'⟩ := hNx H' nx
        have pin' : ∀ b ∈ fp, ∀ o, s7.heap.get? b = some o → s'.heap.get? b = some o ∧ H' b = none := fun b hb o e =>
          let z := I'.pin (b, o) (List.mem_append_right _ (List.mem_append_right _ (mem_pinsAt hb e)))
          ⟨z.1, z.2.1⟩
        have hl : (wipe σ (own.map (·.2))).length = σ8.length := by rw [← hw8, wipe_length]
        refine ⟨m', hm, i + 1, H', (I'.unpinned (pins := [])).weak hl (fun j v e => ?_), T.keep _ _ _ st7 fun b hb o e => (pin' b hb o e).1, fun b hb => ?_, w'⟩
        · rw [← hw8] at e
          exact (wipe_some e).1
        · obtain ⟨o, e, _⟩ := T.obj _ _ st7 b hb
          exact (pin' b hb o e).2
      cases b with
      | false =>
        simp only [Bool.false_eq_true, if_false] at q9 ⊢
        exact fin I9 q9
      | true =>
        simp only [if_true] at q9 ⊢
        have pe' := pe.run _ s9 σ8 H9 _ I9 q9
        rw [eP, eW, eA, eE, eX] at pe'
        refine thn pe' fun z s10 ⟨yv, H10, I10, r10, acc, hD10, hz10, nx⟩ => ?_
        have ap : wpAny (model XB.prog XB.w) XB.A (call (.builtin "list.append") [.ref D, z]) (fun _ s' => ∃ m, m < n ∧ ∃ i H', Inv XB [] (wipe σ (own.map (·.2))) H' s' ∧ tn i s'.heap ∧ (∀ b ∈ fp, H' b = none) ∧ W i m H')
            (notedBy (model X.prog X.w) X.A ce fun e s' => compPost (model X.prog X.w) X.A X.xe use Qf (.ref D) s3.heap.objs.size (.error e) s') s10 := app_ok (X := XB) I10 hD10 hz10 r10 fun s11 I11 => fin I11 nx
        rw [eP, eW, eA] at ap
        exact ap
  exact codeAny_compStart_list loop (T.self X.A 0 _ _ _ st4 loop)
/-- [f(x) for x in ..], f(x) may raise what the def may raise -/
theorem pe_lcX {elt tg iter : Expr} {ifs : List Expr} {scope : Scope} {own : List (Str × Nat)} {pos : Pos} {wi : TI} {g : TG} {tt : TT} {te : TE} {E₁ : Value → Shared → Prop}
    (hst : X.stack = X.env :: X.outer) (hfm : X.env.frame = some X.env.locals) (hex : X.ex = [])
    (hx : X.xe = fun e s' => wpAny (model X.prog X.w) X.A (leaving X.env e) (fun _ s'' => CX X.prog X.w X.outer X.H_0 X.s_0 E e s'') E₁ s')
    (hc : X.calm = true) (hN : X.N.Nodup) (hi : PI X tg iter wi) (ok : BlkOk X.N X.env.scope scope own)
    (hg : ∀ (s : Shared) (H : Hp) (C : Addr) (cl : List (Str × Addr)) (fp : List Addr) (xb : Value → Shared → Prop), PG { X.blk s H scope (compEnvC scope cl C X.env) fp with xe := xb } tg g) (ht : ∀ (s : Shared) (H : Hp) (C : Addr) (cl : List (Str × Addr)) (fp : List Addr) (xb : Value → Shared → Prop), PTs { X.blk s H scope (compEnvC scope cl C X.env) fp with xe := xb } ifs tt)
    (he : ∀ (s : Shared) (H : Hp) (C : Addr) (cl : List (Str × Addr)) (fp : List Addr) (xb : Value → Shared → Prop), Passes (CX X.prog X.w) { X.blk s H scope (compEnvC scope cl C X.env) fp with xe := xb } E → PE { X.blk s H scope (compEnvC scope cl C X.env) fp with xe := xb } elt te)
    (hs : ∀ x, foldedSetIterable iter X.env x = pure x := by intro _; rfl) : PE X (.ListComp elt [⟨tg, iter, ifs, 0⟩] scope pos) (tLc wi g tt te (own.map (·.2))) := by
  refine ⟨fun pins s σ H Q I h => ?_⟩
  rw [eval_ListComp]
  refine lc_coreX hst hfm hex hx hc hN I hi ok hg ht he hs h fun D C s' m H' I' q hn f => ⟨m, hn, fun h'' sb => ?_⟩
  obtain ⟨f0, f1, f2, f3, f4, f5⟩ := f
  exact ⟨.ref D, H', I'.turned (t' := s'.toks) (fun b o hb e => (sb.2 b hb).trans e) f0 f1 f3 f4 f5, rfl, q⟩
end
end L2

namespace L2
open PySem PySem.Spec PyProof.Rows
/-! ### list(o), o's __iter__ gives iter(o.f), f a list, and __len__ is a def -/
section
variable {X : Cx} {pins : List (Addr × Obj)} {σ : St}
theorem listI_loop {A1 : Around} {q it l : Addr} {xs : List V} {H0 : Hp} {Rs : Result → Shared → Prop} (hh : A1.in1.handled = none) (hz : xs.length ≤ sizeLine) (nq : H0 q = none) (nit : H0 it = none) (nqi : q ≠ it) (nl : l ≠ q) (hl : SqL X.K H0 l xs)
    (hf : ∀ H', H' it = none → FpOk X pins H' it) (hdone : ∀ s, Inv X pins σ (upd H0 q (.lst xs)) s → Rs (.ok (.ret .none)) s) :
    ∀ (m i : Nat) (s : Shared), xs.length - i = m → i ≤ xs.length → Inv X pins σ (upd H0 q (.lst (xs.take i))) s → s.heap.IsListIter it l i → codeAny (model X.prog X.w) A1 (.builtin "list.extend.loop" ⟨[.ref q, .ref it, .none], []⟩) Rs s := by
  have nitq : ∀ o, (upd H0 q o) it = none := fun o => by rw [upd_ne nqi.symm]; exact nit
  have hlq : ∀ o, SqL X.K (upd H0 q o) l xs := fun o => by
    rcases hl with (h | ⟨o', h⟩) | h
    · exact .inl (.inl (by rw [upd_ne nl]; exact h))
    · exact .inl (.inr ⟨o', by rw [upd_ne nl]; exact h⟩)
    · exact .inr h
  intro m
  induction m with
  | zero =>
    intro i s hm hi I st
    have e : i = xs.length := by omega
    subst e
    obtain ⟨its, rv, pl, _⟩ := I.list (hlq _)
    refine codeAny_builtin PySem.F.entry_extend_loop ?_
    rw [Around.under_plainId PySem.F.plain_extend_loop _]
    show wpAny _ A1.in1 (pyNext (.ref it) >>= _) _ _ s
    obtain ⟨f0, f1, f2, f3, f4, f5⟩ := hf _ (nitq (.lst xs))
    refine wpAny_bind (wpAny_pyNext_list_end hh st pl.isList (by have := rv.length; simp; omega) fun h' he' => wpAny_pure (hdone _ ?_))
    rw [List.take_length] at I
    exact I.turned (it := it) (t' := s.toks) (fun b o hb e => he' b o hb e) (nitq _) f1 f3 f4 f5
  | succ m ih =>
    intro i s hm hi I st
    have hlt : i < xs.length := by omega
    obtain ⟨its, rv, pl, _⟩ := I.list (hlq _)
    have hx : xs[i]? = some xs[i] := List.getElem?_eq_getElem hlt
    obtain ⟨u, hu, ri⟩ := rv.get hx
    refine codeAny_builtin PySem.F.entry_extend_loop ?_
    rw [Around.under_plainId PySem.F.plain_extend_loop _]
    show wpAny _ A1.in1 (pyNext (.ref it) >>= _) _ _ s
    obtain ⟨f0, f1, f2, f3, f4, f5⟩ := hf _ (nitq (.lst (xs.take i)))
    refine wpAny_bind (wpAny_pyNext_list_item st pl.isList (x := u) (by simpa using hu) fun h' hit' hs' => ?_)
    have I' := I.turned (it := it) (h' := h') (t' := s.toks) (fun b o hb e => hs'.extBut b o hb e) (nitq _) f1 f3 f4 f5
    show wpAny _ A1.in1 (updateSeq q (·.push u) >>= _) _ _ _
    obtain ⟨z, its2, k, r2, hl2, e⟩ := I'.lstM upd_same
    refine wpAny_bind (wpAny_updateSeq e rfl (wpAny_pure ⟨plainId_quiet PySem.F.plain_extend_loop _, ?_⟩) (by rw [List.size_toArray]; rw [List.length_take] at hl2; omega) (by show (its2.toArray.push u).size ≤ sizeLine + 1; rw [Array.size_push, List.size_toArray]; rw [List.length_take] at hl2; omega))
    refine ih (i + 1) _ (by omega) hlt ?_ (hit'.at fun o e => (Heap.get?_update_other _ _ nqi).trans e)
    have I2 := I'.lset (f := (·.push u)) (its' := its2 ++ [u]) (t' := s.toks) upd_same e (by simp) (r2.append (.cons ri .nil)) (by rw [List.length_append, List.length_take]; show _ + 1 ≤ _; omega)
    rw [upd_upd] at I2
    rw [List.take_add_one, hx]
    exact I2
variable {CI CL : CXT} {k : Nat} {g fL C : Addr} {fl : Str} {fdL : FuncData} {psL : List Str} {spL : Sp} {EL : XK}
def rListI (K : PySem.W.Frag) (C : Addr) (fl : Str) (spL : Sp) (EL : XK) : List V → Hp → VK → Prop := fun vs H Q => ∃ (a dx l : Addr) (fs : List (Str × V)) (xs : List V), vs = [.ref a] ∧ H a = some (.ins C dx fs) ∧ fs.lookup fl = some (.ref l) ∧ SqL K H l xs ∧ xs.length ≤ 1000 ∧
  (∀ q, H q = none → spL [.ref a] (upd H q (.lst [])) (fun v H' => (∃ n : Nat, v = .int (n : Int) ∧ n ≤ 1000) ∧ H' = upd H q (.lst [])) EL) ∧ ∀ q, H q = none → Q (.ref q) (upd H q (.lst xs))
theorem call_listI (m : Meth X.K C "__iter__" g) (FI : IterOk X.prog X.w X.K X.mg X.base k g C fl) (ml : Meth X.K C "__len__" fL) (FL : FnOk X.prog X.w X.K X.mg X.base CX0 k fL fdL psL spL) (bL : Binds X.K fdL psL []) (hc : X.calm = true) (hr : Room (k + 4) X.A) :
    CallR X (.type "list") (rListI X.K C fl spL E0) := by
  intro pins s σ H vs us Q I rv h
  obtain ⟨a, dx, l, fs, xs, rfl, ha, hfl, hl, hz, hsp, hq⟩ := h
  obtain ⟨u, rfl, ru⟩ := rv.one
  cases ru
  have sb : Sub X (k + 2) X.A.in1.in1 := (Sub.in1 (Sub.in1 (⟨hr, rfl⟩ : Sub X (k + 4) X.A)))
  refine callType_codes (Q₁ := fun obj s₁ => obj = .ref s.heap.objs.size ∧ s₁ = { s with heap := s.heap.push { cls := .type "list", data := .seq #[] } }) PySem.F.called_list (PySem.F.typeCall_list_1 _) PySem.F.entry_list_init
    (code_list_new _ ⟨rfl, rfl⟩) fun obj s₁ h₁ => ?_
  obtain ⟨rfl, rfl⟩ := h₁
  have hS : (s.heap.push { cls := .type "list", data := .seq #[] }).get? s.heap.objs.size = some { cls := .type "list", data := .seq #[] } := Heap.get?_push_size _ rfl
  refine ⟨⟨_, hS, rfl⟩, PySem.F.args_list_init_2 _ _, ?_⟩
  have fr : H s.heap.objs.size = none := I.hok.fresh (Nat.le_refl _)
  have I1 : Inv X pins σ (upd H s.heap.objs.size (.lst [])) { s with heap := s.heap.push { cls := .type "list", data := .seq #[] } } := I.lnew (its := []) (t' := s.toks) .nil (Nat.zero_le _)
  show wpAny _ _ (do let old ← Builtin.List.listItems (.ref s.heap.objs.size); Builtin.List.listUpdate (.ref s.heap.objs.size) (fun _ => #[]); letGo old.toList.reverse; Builtin.List.listExtendWith (.ref s.heap.objs.size) (.ref a) .none) _ _ _
  refine wpAny_bind ?_
  unfold Builtin.List.listItems
  refine wpAny_bind (wpAny_seqItems hS rfl (wpAny_pure ?_))
  show wpAny _ _ (updateSeq s.heap.objs.size (fun _ => #[]) >>= fun _ => letGo (#[] : Array Value).toList.reverse >>= fun _ => Builtin.List.listExtendWith (.ref s.heap.objs.size) (.ref a) .none) _ _ _
  refine wpAny_bind (wpAny_updateSeq hS rfl ?_)
  have I2 := I1.lset (f := fun _ => #[]) (its := []) (its' := []) (ys := []) (t' := s.toks) upd_same hS rfl .nil (Nat.zero_le _)
  rw [upd_upd] at I2
  refine wpAny_bind (wpAny_letGo ?_)
  have nlq : l ≠ s.heap.objs.size := fun z => by
    obtain ⟨its, rv, pl, _⟩ := I.list hl
    obtain ⟨o, ho, _⟩ := pl.isList
    have := Heap.lt_size ho
    rw [z] at this
    exact absurd this (Nat.lt_irrefl _)
  have hQ := hq _ fr
  have hL := hsp _ fr
  revert I2 fr nlq hQ hL
  generalize s.heap.objs.size = q
  generalize ({ s with heap := _, toks := _ } : Shared) = s2
  intro fr I2 nlq hQ hL
  have naq : a ≠ q := ne_of_none ha fr
  have ha2 : (upd H q (.lst [])) a = some (.ins C dx fs) := by rw [upd_ne naq]; exact ha
  obtain ⟨ox, od, J⟩ := inst_of I2 ha2
  obtain ⟨mf, hF⟩ := I2.fr
  unfold Builtin.List.listExtendWith
  refine wpAny_bind (J.type.here ?_)
  have h1 : Builtin.List.listSameRef (.ref q) (.ref a) = false := by simp [Builtin.List.listSameRef, naq.symm]
  have h2 : (Value.ref C == Value.type "list") = false := rfl
  have h3 : (Value.ref C == Value.type "tuple") = false := rfl
  simp only [h1, h2, h3, Bool.or_false, Bool.false_eq_true, if_false]
  have e0 : Env0 X.prog X.w X.K X.mg X.base X.A.in1.in1 X.stack s2 (upd H q (.lst [])) := by
    have e := I2.env0
    exact ⟨by rw [sb.fr]; exact e.frames, e.mod, e.bs, e.bsz, e.funs, e.frf, e.hok, e.bare⟩
  have hl2 : SqL X.K (upd H q (.lst [])) l xs := by
    rcases hl with (h | ⟨o', h⟩) | h
    · exact .inl (.inl (by rw [upd_ne nlq]; exact h))
    · exact .inl (.inr ⟨o', by rw [upd_ne nlq]; exact h⟩)
    · exact .inr h
  refine wpAny_bind (PySem.W.owit_iter hF I2.ok.mod.kin J m.at_ m.fn (wpAny_call (codeAny_mono (FI X.A.in1.in1 X.stack s2 (upd H q (.lst [])) a dx l fs xs (fun v H2 => ∃ it, v = .ref it ∧ (upd H q (.lst [])) it = none ∧ s2.heap.objs.size ≤ it ∧ H2 = upd (upd H q (.lst [])) it (ItO l it 0)) E0 (sb.room.mono (by omega)) e0 ha2 hfl hl2 fun it n1 n2 => ⟨it, rfl, n1, n2, rfl⟩) fun r s' z => ?_)))
  match r, z with
  | .error _, z => exact z.elim
  | .ok (.ret u), z =>
    obtain ⟨v2, H2, I3, r2, it, rfl, n1, n2, rfl⟩ := I2.after z
    cases r2
    have eo := itO_get I3 upd_same
    have hT : s'.TypeIs (.ref it) "list_iterator" := ⟨_, eo, rfl⟩
    have I4 := ItX.inv_drop I3 (a := it) (by rw [upd_same]; rfl)
    rw [ItX.dropH_upd n1] at I4
    refine wpAny_specialOf (name := Str.ofString "__next__") hT slot_listiter_next.lookup ?_
    obtain ⟨ox4, od4, J4⟩ := inst_of I4 ha2
    show wpAny (model X.prog X.w) X.A.in1.in1 (do
            let room ← holding [Value.ref it] (Builtin.List.listLengthHint (Value.ref a))
            _) _ _ s'
    refine wpAny_bind (wpAny_holding ?_)
    unfold Builtin.List.listLengthHint
    refine wpAny_bind (wpAny_bind (J4.type.here ((PySem.W.looks_findIn I4.kIn ml.at_).here ?_)))
    refine PySem.W.KFB.if_not rfl ?_
    refine wpAny_ite_split (fun _ => ?_) (fun hab => absurd rfl hab)
    refine wpAny_bind (wpAny_rule ?_)
    obtain ⟨mf4, hF4⟩ := I4.fr
    have fpI : FpOk X pins (upd H q (.lst [])) it := I2.fpOk n2 n1
    have oI : ∀ b ∈ [it], ∃ o, s'.heap.get? b = some o ∧ ∀ v, o.data ≠ .cell v := fun b hb => by
      obtain rfl : b = it := by simpa using hb
      exact ⟨_, eo, fun v z => nomatch z⟩
    have I4n : Inv X.nox (pins ++ pinsAt [it] s'.heap) σ (upd H q (.lst [])) s' := (I4.pinned (fp := [it]) (fun b hb => by rw [List.mem_singleton.mp hb]; exact fpI) oI).wish _
    have lenq : wpAny (model X.prog X.w) X.A.in1.in1 (call (.builtin "len") [.ref a]) (fun nv s6 => ∃ (n : Nat) (t : Tok), nv = .int (n : Int) t ∧ n ≤ 1000 ∧ Inv X pins σ (upd H q (.lst [])) s6 ∧ s6.heap.IsListIter it l 0) (fun _ _ => False) s' := by
      refine PySem.W.len_K hF4 I4.ok.mod.kin J4 ml.at_ ml.fn (thn (run_sub (X := X.nox) (A1 := X.A.in1.in1.in1) (us := [.ref a]) (vs := [.ref a]) (stack_of I4) FL ((sb.room.mono (by omega)).in1 (k := k)) bL pass0 I4n (.cons rfl .nil) hL) fun r s5 z => ?_)
      obtain ⟨z1, H1, I5, r1, ⟨n, rfl, hn⟩, rfl⟩ := z
      obtain ⟨t, rfl⟩ := r1
      have g5 := (I5.pin (it, _) (List.mem_append_right _ (List.mem_append_right _ (mem_pinsAt (List.mem_singleton.mpr rfl) eo)))).1
      exact ⟨⟨by omega, by omega⟩, n, _, rfl, hn, (I5.unwish.unpinned (pins := pins)).tok _, ⟨_, g5, rfl, rfl⟩⟩
    refine wpAny_bind (wpAny_attempt (thnF lenq fun nv s6 h6 => ?_))
    obtain ⟨n, t, rfl, hn, I6, st6⟩ := h6
    have hbig : Builtin.List.listTooLong ((n : Int)).toNat = false := by
      unfold Builtin.List.listTooLong
      rw [Int.toNat_natCast]
      have : 1000 < sizeLine := by decide
      exact decide_eq_false (by omega)
    refine wpAny_bind (wpAny_pure ?_)
    refine PySem.W.KFB.if_not hbig (wpAny_pure ?_)
    have big : 1000 < sizeLine := by decide
    have nqi : q ≠ it := fun z => by
      rw [← z, upd_same] at n1; cases n1
    have nitH : H it = none := by rw [upd_ne nqi.symm] at n1; exact n1
    have loop : ∀ s7, Inv X pins σ (upd H q (.lst [])) s7 → s7.heap.IsListIter it l 0 → codeAny (model X.prog X.w) X.A.in1 (.builtin "list.extend.loop" ⟨[.ref q, .ref it, .none], []⟩) (wants (fun r s₂ => r = .none ∧ EP X pins σ Q (.ref q) s₂) X.xe) s7 := fun s7 I7 st7 =>
      listI_loop (A1 := X.A.in1) (H0 := H) (by exact I7.ok.hd hc) (by omega) fr nitH nqi nlq hl (fun H' nH => ⟨nH, fpI.2⟩) (fun s8 I8 => ⟨rfl, .ref q, _, I8, rfl, hQ⟩) xs.length 0 s7 (by omega) (Nat.zero_le _) (by rw [List.take_zero]; exact I7) st7
    refine wpAny_ite_split (fun _ => ?_) (fun _ => wpAny_pure ⟨plainId_quiet PySem.F.plain_extend_loop _, loop s6 I6 st6⟩)
    refine wpAny_bind (wpAny_rule ?_)
    refine wpAny_bind ?_
    obtain ⟨z3, its3, k3, r3, hl3, e3⟩ := I6.lstM upd_same
    cases r3
    show wpAny _ _ (updateSeq q (·.push .none) >>= fun _ => updateSeq q (·.pop)) _ _ _
    refine wpAny_bind (wpAny_updateSeq e3 rfl ?_)
    have I7 := I6.lset (f := (·.push Value.none)) (its' := [Value.none]) (ys := [.non]) (t' := s6.toks) upd_same e3 (by simp) (.cons rfl .nil) (by rw [List.length_singleton, sizeLine_eq]; decide)
    obtain ⟨z4, its4, k4, r4, hl4, e4⟩ := I7.lstM upd_same
    obtain ⟨u4, rfl, ru4⟩ := r4.one
    refine wpAny_updateSeq e4 rfl ?_ (by show 1 ≤ sizeLine; rw [sizeLine_eq]; decide) (by show 0 ≤ sizeLine + 1; exact Nat.zero_le _)
    have I8 := I7.lset (f := (·.pop)) (its := [u4]) (its' := []) (ys := []) (t' := s6.toks) upd_same e4 (by rfl) .nil (Nat.zero_le _)
    rw [upd_upd, upd_upd] at I8
    refine wpAny_pure ⟨plainId_quiet PySem.F.plain_extend_loop _, loop _ I8 (st6.at fun o e => ?_)⟩
    exact (Heap.get?_update_other _ _ nqi).trans ((Heap.get?_update_other _ _ nqi).trans e)
end
end L2

namespace L2
open PySem PySem.Spec PyProof.Rows
section
variable {X : Cx} {a b c d : Expr} {ta tb tc td : TE} {pos : Pos}
/-- a op b op' c op'' d -/
def tChain3 (r r' r'' : R2) (ta tb tc td : TE) : TE := fun σ H Q => ta σ H fun x H1 => tb σ H1 fun y H2 => r x y H2 fun z H3 => ∃ k, z = .bl k ∧
  (if k = true then tc σ H3 fun v H4 => r' y v H4 fun z' H5 => ∃ k', z' = .bl k' ∧ (if k' = true then td σ H5 fun u H6 => r'' v u H6 Q else Q (.bl false) H5) else Q (.bl false) H3)
theorem pe_chain3 {op op' op'' : CmpOp} {r r' r'' : R2} (ho : OpR X (compareOp op) r) (ho' : OpR X (compareOp op') r') (ho'' : OpR X (compareOp op'') r'') (ha : PE X a ta) (hb : PE X b tb) (hc : PE X c tc) (hd : PE X d td)
    (hm : lastMarks [op, op', op''] [b, c, d] = false := by with_unfolding_all rfl) : PE X (.Compare a [op, op', op''] [b, c, d] pos) (tChain3 r r' r'' ta tb tc td) := by
  refine ⟨fun pins s σ H Q I h => ?_⟩
  refine Compare_chain (thn (ha.run pins s σ H _ I h) fun v s1 ⟨x, H1, I1, r1, q1⟩ => chain_link (thn (hb.run pins s1 σ H1 _ I1 q1) fun u s2 ⟨y, H2, I2, r2, q2⟩ =>
    thn (ho pins s2 σ H2 x y v u _ I2 r1 r2 q2) fun d s3 ⟨z, H3, I3, r3, k, e, q3⟩ => ?_)) hm
  subst e
  cases r3
  refine wpAny_truthy_bool ?_
  cases k with
  | false => exact ite_ff ⟨.bl false, H3, I3, rfl, q3⟩
  | true =>
    refine ite_tt (chain_link (thn (hc.run pins s3 σ H3 _ I3 q3) fun w' s4 ⟨z', H4, I4, r4, q4⟩ => thn (ho' pins s4 σ H4 y z' u w' _ I4 r2 r4 q4) fun d5 s5 ⟨z5, H5, I5, r5, k', e5, q5⟩ => ?_))
    subst e5
    cases r5
    refine wpAny_truthy_bool ?_
    cases k' with
    | false => exact ite_ff ⟨.bl false, H5, I5, rfl, q5⟩
    | true => exact ite_tt (chain_last (thn (hd.run pins s5 σ H5 _ I5 q5) fun w6 s6 ⟨z6, H6, I6, r6, q6⟩ => ho'' pins s6 σ H6 z' z6 w' w6 Q I6 r4 r6 q6))
end
end L2
namespace L2
open PySem PySem.Spec PyProof.Rows
def rInKd (neg : Bool) : R2 := fun x y H Q => ∃ a o, y = .ref a ∧ DGet H a x o ∧ Q (.bl (if neg then !o.isSome else o.isSome)) H
theorem op_inKd {X : Cx} (hu : X.A.units + 1 < cLine) : OpR X (compareOp .In) (rInKd false) := by
  intro pins s σ H x y v u Q I rx ry h
  obtain ⟨a, o, rfl, g, q⟩ := h
  cases ry
  exact d_in hu I g rx fun s3 I3 => ⟨.bl o.isSome, H, I3, rfl, q⟩
theorem op_ninKd {X : Cx} (hu : X.A.units + 1 < cLine) : OpR X (compareOp .NotIn) (rInKd true) := by
  intro pins s σ H x y v u Q I rx ry h
  obtain ⟨a, o, rfl, g, q⟩ := h
  cases ry
  exact d_notIn hu I g rx fun s3 I3 => ⟨.bl (!o.isSome), H, I3, rfl, q⟩
end L2

namespace L2
open PySem
theorem for_str {z : Str} {g : TG} {tb : TS} {D : Ends} {σ : L2.St} {H : Hp} (Pv : Nat → L2.St → Hp → Prop) (h0 : Pv 0 σ H)
    (hs : ∀ i c σ H, (TL.tl z)[i]? = some c → Pv i σ H → g (.str ⟨#[c]⟩) σ H fun σ2 H2 => tb { D with nx := Pv (i + 1), ct := Pv (i + 1), bk := D.nx } σ2 H2) (hd : ∀ σ H, Pv z.length σ H → D.nx σ H) :
    ∃ W : Nat → Nat → L2.St → Hp → Prop, (∃ m, W 0 m σ H) ∧ ∀ i m σ H, W i m σ H →
      ((Its z).stop i H ∧ D.nx σ H) ∨ ((Its z).go i H ∧ ∃ N : L2.St → Hp → Prop, (∀ σ' H', N σ' H' → ∃ m', m' < m ∧ W (i + 1) m' σ' H') ∧ ∀ x H', (Its z).yld i H x H' → g x σ H' fun σ2 H2 => tb { D with nx := N, ct := N, bk := D.nx } σ2 H2) := by
  refine ⟨fun i m σ H => m = z.length - i ∧ i ≤ z.length ∧ Pv i σ H, ⟨z.length, by simp, Nat.zero_le _, h0⟩, ?_⟩
  rintro i m σ H ⟨rfl, hi, p⟩
  by_cases hlt : i < z.length
  · refine .inr ⟨hlt, Pv (i + 1), fun σ' H' p' => ⟨z.length - (i + 1), by omega, rfl, hlt, p'⟩, fun x H' y => ?_⟩
    obtain ⟨e, c, hc, ex⟩ := y
    subst e ex
    exact hs i c σ _ (by show z.cps.toList[i]? = some c; rw [Array.getElem?_toList]; exact hc) p
  · have e : i = z.length := by omega
    subst e
    exact .inl ⟨Nat.le_refl _, hd σ H p⟩
end L2
namespace L2
open PySem
theorem pg_tupK {X : Cx} {K : PySem.W.Frag} {es : List Expr} {k : Nat} {t : TGs} {n : Nat} {pos : Pos} (hK : X.K = K) (hc : X.calm = true) (h : PGs X es t)
    (hn : (assignEach es X.env).length = n := by rfl) (hst : (assignEach es X.env).findIdx? (·.1) = none := by rfl) : PG X (.Tuple es k pos) (gTup K n t) := hK ▸ pg_tup hc h hn hst
end L2

namespace L2
open PySem PySem.Spec PyProof.Rows
theorem anyK {X : Cx} {K : PySem.W.Frag} (h : X.K = K) (hc : X.calm = true) : CallR X (.builtin "any") (rAny K) := h ▸ cr_any hc
end L2
namespace L2
open PySem
theorem lenK {X : Cx} {K : PySem.W.Frag} (h : X.K = K) : CallR X (.builtin "len") (fun xs H Q => ∃ p ys, xs = [V.ref p] ∧ (SqL K H p ys ∨ SqT K H p ys) ∧ Q (.int ((ys.length : Nat) : Int)) H) := h ▸ call_len_seq
theorem pi_listK {X : Cx} {K : PySem.W.Frag} {tg l : Expr} {tl : TE} (h : X.K = K) (hl : PE X l tl) : PI X tg l (iList K tl) := h ▸ pi_list hl
theorem pi_tupleK {X : Cx} {K : PySem.W.Frag} {tg l : Expr} {tl : TE} (h : X.K = K) (hl : PE X l tl) : PI X tg l (iTup K tl) := h ▸ pi_tup hl
def rListOf (K : PySem.W.Frag) : List V → Hp → VK → Prop := fun xs H Q => ∃ p ys, xs = [V.ref p] ∧ (SqL K H p ys ∨ SqT K H p ys) ∧ ∀ l, H l = none → Q (.ref l) (upd H l (.lst ys))
def rTupOf (K : PySem.W.Frag) : List V → Hp → VK → Prop := fun xs H Q => ∃ p ys, xs = [V.ref p] ∧ ((SqL K H p ys ∧ ∀ l, H l = none → Q (.ref l) (upd H l (.tup ys))) ∨ (SqT K H p ys ∧ Q (.ref p) H))
theorem listK {X : Cx} {K : PySem.W.Frag} (h : X.K = K) : CallR X (.type "list") (rListOf K) := h ▸ call_list_of
theorem tupleK {X : Cx} {K : PySem.W.Frag} (h : X.K = K) : CallR X (.type "tuple") (rTupOf K) := h ▸ call_tuple_of
end L2

namespace L2
open PySem PySem.Spec PyProof.Rows
theorem eqDK {X : Cx} {K : PySem.W.Frag} (h : X.K = K) (hu : X.A.units + 64 < cLine) : OpR X (compareOp .Eq) (rEqD K) := h ▸ op_eqD hu
theorem neDK {X : Cx} {K : PySem.W.Frag} (h : X.K = K) (hu : X.A.units + 64 < cLine) : OpR X (compareOp .NotEq) (rNeD K) := h ▸ op_neD hu
end L2

namespace My
open PySem L2
abbrev PP : Program := PySem.Challenge.pw_weblocks_k19_standing_counts_and_copies
def topS (i : Nat) : Stmt := PySem.Challenge.pw_weblocks_k19_standing_counts_and_copies.main.body.getD i (.Pass ⟨0, 0, 0, 0⟩)
abbrev S_sound_step : Stmt := topS 19
abbrev S_Program_init : Stmt := inClass (topS 21) 0
abbrev S_Program_iter : Stmt := inClass (topS 21) 2
abbrev S_Program_add : Stmt := inClass (topS 21) 4
abbrev S_Standing_init : Stmt := inClass (topS 23) 0
abbrev S_Standing_check : Stmt := inClass (topS 23) 1
abbrev S_Standing_take : Stmt := inClass (topS 23) 2
abbrev S_Standing_run : Stmt := inClass (topS 23) 3
abbrev S_Standing_begun : Stmt := inClass (topS 23) 4
abbrev S_Standing_loose : Stmt := inClass (topS 23) 5
abbrev S_Standing_holding : Stmt := inClass (topS 23) 6
abbrev S_Standing_held_mode : Stmt := inClass (topS 23) 7
abbrev S_Standing_locked_mode : Stmt := inClass (topS 23) 8
abbrev S_Standing_counts : Stmt := inClass (topS 23) 9
abbrev S_Standing_copy : Stmt := inClass (topS 23) 12
abbrev S_is_mark : Stmt := topS 27
abbrev S_sound_row : Stmt := topS 28
abbrev S_barren : Stmt := topS 29
abbrev S_Shape_init : Stmt := inClass (topS 30) 2
abbrev S_Shape_getitem : Stmt := inClass (topS 30) 3
abbrev S_Shape_modes_of : Stmt := inClass (topS 30) 10
abbrev S_suitable : Stmt := topS 32
abbrev S_Web_init : Stmt := inClass (topS 33) 1
abbrev S_Web_put : Stmt := inClass (topS 33) 2
abbrev S_Web_getitem : Stmt := inClass (topS 33) 3
abbrev S_Web_contains : Stmt := inClass (topS 33) 6
abbrev S_Web_mark_of : Stmt := inClass (topS 33) 8
abbrev S__law_draws : Stmt := topS 35
abbrev S__law_take : Stmt := topS 36
abbrev S__law_same : Stmt := topS 37
abbrev S__law_marks : Stmt := topS 38
abbrev S__law_rows : Stmt := topS 39
abbrev S__law_things : Stmt := topS 40
abbrev S__law_counts : Stmt := topS 41
abbrev S__law_do : Stmt := topS 42
abbrev S__law_shared : Stmt := topS 43
abbrev S__law_shape : Stmt := topS 44
abbrev S__law_put : Stmt := topS 45
abbrev S__law_web : Stmt := topS 46
abbrev S__law_refusal : Stmt := topS 47
abbrev S__law_due : Stmt := topS 48
abbrev S__law_reads : Stmt := topS 49
abbrev S__law_choices : Stmt := topS 50
abbrev S__law_row : Stmt := topS 51
abbrev S__law_walk : Stmt := topS 52
abbrev S__law_run : Stmt := topS 53
abbrev S__law_counted : Stmt := topS 54
abbrev S_law : Stmt := topS 55
abbrev S_BadShape_init : Stmt := inClass (topS 3) 0
abbrev S_UnknownMark_init : Stmt := inClass (topS 4) 0
abbrev S_TooLarge_init : Stmt := inClass (topS 8) 0
abbrev S_BadParents_init : Stmt := inClass (topS 5) 0
abbrev S_NoThing_init : Stmt := inClass (topS 6) 0
abbrev S_BadStep_init : Stmt := inClass (topS 7) 0
abbrev S_Refused_init : Stmt := inClass (topS 10) 0
theorem sc_sound_step : FnScope ["step", "deed", "thing"] ["step"] (defScope S_sound_step) := ⟨rfl, rfl, rfl, by decide +kernel, rfl, by decide +kernel, by decide +kernel⟩
theorem sc_Program_init : FnScope ["self", "steps", "step"] ["self", "steps"] (defScope S_Program_init) := ⟨rfl, rfl, rfl, by decide +kernel, rfl, by decide +kernel, by decide +kernel⟩
theorem sc_Program_iter : FnScope ["self"] ["self"] (defScope S_Program_iter) := ⟨rfl, rfl, rfl, by decide +kernel, rfl, by decide +kernel, by decide +kernel⟩
theorem sc_Program_add : FnScope ["self", "other"] ["self", "other"] (defScope S_Program_add) := ⟨rfl, rfl, rfl, by decide +kernel, rfl, by decide +kernel, by decide +kernel⟩
theorem sc_Standing_init : FnScope ["self", "web"] ["self", "web"] (defScope S_Standing_init) := ⟨rfl, rfl, rfl, by decide +kernel, rfl, by decide +kernel, by decide +kernel⟩
theorem sc_Standing_check : FnScope ["self", "step", "deed", "thing"] ["self", "step"] (defScope S_Standing_check) := ⟨rfl, rfl, rfl, by decide +kernel, rfl, by decide +kernel, by decide +kernel⟩
theorem sc_Standing_take : FnScope ["self", "step", "deed", "thing"] ["self", "step"] (defScope S_Standing_take) := ⟨rfl, rfl, rfl, by decide +kernel, rfl, by decide +kernel, by decide +kernel⟩
theorem sc_Standing_run : FnScope ["self", "steps", "step"] ["self", "steps"] (defScope S_Standing_run) := ⟨rfl, rfl, rfl, by decide +kernel, rfl, by decide +kernel, by decide +kernel⟩
theorem sc_Standing_begun : FnScope ["self"] ["self"] (defScope S_Standing_begun) := ⟨rfl, rfl, rfl, by decide +kernel, rfl, by decide +kernel, by decide +kernel⟩
theorem sc_Standing_loose : FnScope ["self"] ["self"] (defScope S_Standing_loose) := ⟨rfl, rfl, rfl, by decide +kernel, rfl, by decide +kernel, by decide +kernel⟩
theorem sc_Standing_holding : FnScope ["self"] ["self"] (defScope S_Standing_holding) := ⟨rfl, rfl, rfl, by decide +kernel, rfl, by decide +kernel, by decide +kernel⟩
theorem sc_Standing_held_mode : FnScope ["self", "thing"] ["self", "thing"] (defScope S_Standing_held_mode) := ⟨rfl, rfl, rfl, by decide +kernel, rfl, by decide +kernel, by decide +kernel⟩
theorem sc_Standing_locked_mode : FnScope ["self", "thing"] ["self", "thing"] (defScope S_Standing_locked_mode) := ⟨rfl, rfl, rfl, by decide +kernel, rfl, by decide +kernel, by decide +kernel⟩
theorem sc_Standing_counts : FnScope ["self", "parents", "held", "owned", "seen", "parent"] ["self", "parents"] (defScope S_Standing_counts) := ⟨rfl, rfl, rfl, by decide +kernel, rfl, by decide +kernel, by decide +kernel⟩
theorem sc_Standing_copy : FnScope ["self", "twin", "thing", "mode"] ["self"] (defScope S_Standing_copy) := ⟨rfl, rfl, rfl, by decide +kernel, rfl, by decide +kernel, by decide +kernel⟩
theorem sc_is_mark : FnScope ["text", "sign"] ["text"] (defScope S_is_mark) := ⟨rfl, rfl, rfl, by decide +kernel, rfl, by decide +kernel, by decide +kernel⟩
theorem sc_sound_row : FnScope ["row", "before", "mark", "parents", "least", "most", "shared", "good", "place", "parent"] ["row", "before"] (defScope S_sound_row) := ⟨rfl, rfl, rfl, by decide +kernel, rfl, by decide +kernel, by decide +kernel⟩
theorem sc_barren : FnScope ["rows", "known", "grown", "mark", "parents", "least", "_", "parent", "row"] ["rows"] (defScope S_barren) := ⟨rfl, rfl, rfl, by decide +kernel, rfl, by decide +kernel, by decide +kernel⟩
theorem sc_Shape_init : FnScope ["self", "rows", "listed", "marks", "row", "parent", "lost"] ["self", "rows"] (defScope S_Shape_init) := ⟨rfl, rfl, rfl, by decide +kernel, rfl, by decide +kernel, by decide +kernel⟩
theorem sc_Shape_getitem : FnScope ["self", "mark", "row"] ["self", "mark"] (defScope S_Shape_getitem) := ⟨rfl, rfl, rfl, by decide +kernel, rfl, by decide +kernel, by decide +kernel⟩
theorem sc_Shape_modes_of : FnScope ["self", "mark"] ["self", "mark"] (defScope S_Shape_modes_of) := ⟨rfl, rfl, rfl, by decide +kernel, rfl, by decide +kernel, by decide +kernel⟩
theorem sc_suitable : FnScope ["web", "row", "parents", "place", "parent"] ["web", "row", "parents"] (defScope S_suitable) := ⟨rfl, rfl, rfl, by decide +kernel, rfl, by decide +kernel, by decide +kernel⟩
theorem sc_Web_init : FnScope ["self", "shape"] ["self", "shape"] (defScope S_Web_init) := ⟨rfl, rfl, rfl, by decide +kernel, rfl, by decide +kernel, by decide +kernel⟩
theorem sc_Web_put : FnScope ["self", "mark", "parents", "row", "parent", "number"] ["self", "mark", "parents"] (defScope S_Web_put) := ⟨rfl, rfl, rfl, by decide +kernel, rfl, by decide +kernel, by decide +kernel⟩
theorem sc_Web_getitem : FnScope ["self", "thing"] ["self", "thing"] (defScope S_Web_getitem) := ⟨rfl, rfl, rfl, by decide +kernel, rfl, by decide +kernel, by decide +kernel⟩
theorem sc_Web_contains : FnScope ["self", "thing"] ["self", "thing"] (defScope S_Web_contains) := ⟨rfl, rfl, rfl, by decide +kernel, rfl, by decide +kernel, by decide +kernel⟩
theorem sc_Web_mark_of : FnScope ["self", "thing"] ["self", "thing"] (defScope S_Web_mark_of) := ⟨rfl, rfl, rfl, by decide +kernel, rfl, by decide +kernel, by decide +kernel⟩
theorem sc__law_draws : FnScope ["_law_script", "_law_draws_here", "_law_cell", "_law_rest", "_law_k", "_law_mixed"] ["_law_script"] (defScope S__law_draws) := ⟨rfl, rfl, rfl, by decide +kernel, rfl, by decide +kernel, by decide +kernel⟩
theorem sc__law_take : FnScope ["_law_draws_here", "_law_at", "_law_size"] ["_law_draws_here", "_law_at", "_law_size"] (defScope S__law_take) := ⟨rfl, rfl, rfl, by decide +kernel, rfl, by decide +kernel, by decide +kernel⟩
theorem sc__law_same : FnScope ["_law_actual", "_law_expected", "_law_k"] ["_law_actual", "_law_expected"] (defScope S__law_same) := ⟨rfl, rfl, rfl, by decide +kernel, rfl, by decide +kernel, by decide +kernel⟩
theorem sc__law_marks : FnScope ["_law_draws_here", "_law_at", "_law_count", "_law_letters", "_law_shift", "_law_front", "_law_marks_here", "_law_k", "_law_size", "_law_first", "_law_rest", "_law_j", "_law_sign"] ["_law_draws_here", "_law_at", "_law_count"] (defScope S__law_marks) := ⟨rfl, rfl, rfl, by decide +kernel, rfl, by decide +kernel, by decide +kernel⟩
theorem sc__law_rows : FnScope ["_law_draws_here", "_law_at", "_law_exclusive", "_law_marks_here", "_law_rows_here", "_law_k", "_law_mask", "_law_parents", "_law_j", "_law_most", "_law_least", "_law_mark", "_law_shared_here"] ["_law_draws_here", "_law_at", "_law_exclusive"] (defScope S__law_rows) := ⟨rfl, rfl, rfl, by decide +kernel, rfl, by decide +kernel, by decide +kernel⟩
theorem sc__law_things : FnScope ["_law_draws_here", "_law_at", "_law_rows_here", "_law_count", "_law_things_here", "_law_k", "_law_row_here", "_law_able", "_law_j", "_law_most", "_law_size", "_law_chosen", "_law_pick"] ["_law_draws_here", "_law_at", "_law_rows_here", "_law_count"] (defScope S__law_things) := ⟨rfl, rfl, rfl, by decide +kernel, rfl, by decide +kernel, by decide +kernel⟩
theorem sc__law_counts : FnScope ["_law_state", "_law_parents", "_law_held", "_law_x", "_law_owned", "_law_seen"] ["_law_state", "_law_parents"] (defScope S__law_counts) := ⟨rfl, rfl, rfl, by decide +kernel, rfl, by decide +kernel, by decide +kernel⟩
theorem sc__law_do : FnScope ["_law_state", "_law_step"] ["_law_state", "_law_step"] (defScope S__law_do) := ⟨rfl, rfl, rfl, by decide +kernel, rfl, by decide +kernel, by decide +kernel⟩
theorem sc__law_shared : FnScope ["_law_rows_here", "_law_mark", "_law_row_here"] ["_law_rows_here", "_law_mark"] (defScope S__law_shared) := ⟨rfl, rfl, rfl, by decide +kernel, rfl, by decide +kernel, by decide +kernel⟩
theorem sc__law_shape : FnScope ["_law_rows_here", "_law_made", "_law_row_here"] ["_law_rows_here"] (defScope S__law_shape) := ⟨rfl, rfl, rfl, by decide +kernel, rfl, by decide +kernel, by decide +kernel⟩
theorem sc__law_put : FnScope ["_law_web_here", "_law_mark", "_law_parents"] ["_law_web_here", "_law_mark", "_law_parents"] (defScope S__law_put) := ⟨rfl, rfl, rfl, by decide +kernel, rfl, by decide +kernel, by decide +kernel⟩
theorem sc__law_web : FnScope ["_law_shape_here", "_law_things_here", "_law_web_here", "_law_thing"] ["_law_shape_here", "_law_things_here"] (defScope S__law_web) := ⟨rfl, rfl, rfl, by decide +kernel, rfl, by decide +kernel, by decide +kernel⟩
theorem sc__law_refusal : FnScope ["_law_error", "_law_names"] ["_law_error"] (defScope S__law_refusal) := ⟨rfl, rfl, rfl, by decide +kernel, rfl, by decide +kernel, by decide +kernel⟩
theorem sc__law_due : FnScope ["_law_rows_here", "_law_things_here", "_law_state", "_law_step", "_law_thing"] ["_law_rows_here", "_law_things_here", "_law_state", "_law_step"] (defScope S__law_due) := ⟨rfl, rfl, rfl, by decide +kernel, rfl, by decide +kernel, by decide +kernel⟩
theorem sc__law_reads : FnScope ["_law_standing", "_law_state", "_law_order", "_law_x", "_law_thing"] ["_law_standing", "_law_state", "_law_order"] (defScope S__law_reads) := ⟨rfl, rfl, rfl, by decide +kernel, rfl, by decide +kernel, by decide +kernel⟩
theorem sc__law_choices : FnScope ["_law_rows_here", "_law_things_here", "_law_state", "_law_locks", "_law_drops", "_law_thing"] ["_law_rows_here", "_law_things_here", "_law_state"] (defScope S__law_choices) := ⟨rfl, rfl, rfl, by decide +kernel, rfl, by decide +kernel, by decide +kernel⟩
theorem sc__law_row : FnScope ["_law_draws_here", "_law_at", "_law_rows_here", "_law_things_here", "_law_state", "_law_count", "_law_form", "_law_model", "_law_steps", "_law_k", "_law_choices_here", "_law_step"] ["_law_draws_here", "_law_at", "_law_rows_here", "_law_things_here", "_law_state", "_law_count", "_law_form"] (defScope S__law_row) := ⟨rfl, rfl, rfl, by decide +kernel, rfl, by decide +kernel, by decide +kernel⟩
theorem sc__law_walk : FnScope ["_law_rows_here", "_law_things_here", "_law_state", "_law_order", "_law_steps", "_law_step", "_law_due_here"] ["_law_rows_here", "_law_things_here", "_law_state", "_law_order", "_law_steps"] (defScope S__law_walk) := ⟨rfl, rfl, rfl, by decide +kernel, rfl, by decide +kernel, by decide +kernel⟩
theorem sc__law_run : FnScope ["_law_standing", "_law_steps", "_law_form", "_law_handed", "_law_step", "_law_told", "e"] ["_law_standing", "_law_steps", "_law_form"] (defScope S__law_run) := ⟨rfl, rfl, rfl, by decide +kernel, rfl, by decide +kernel, by decide +kernel⟩
theorem sc__law_counted : FnScope ["_law_draws_here", "_law_at", "_law_standing", "_law_state", "_law_row_here", "_law_k", "_law_side", "_law_counts_here", "_law_due_here"] ["_law_draws_here", "_law_at", "_law_standing", "_law_state"] (defScope S__law_counted) := ⟨rfl, rfl, rfl, by decide +kernel, rfl, by decide +kernel, by decide +kernel⟩
theorem sc_law : FnScope ["_law_script", "_law_draws_here", "_law_at", "_law_rows_here", "_law_things_here", "_law_web_here", "_law_one", "_law_thing", "_law_order", "_law_standing", "_law_form", "_law_steps", "_law_due_here", "_law_copy", "_law_two", "_law_second", "_law_further", "_law_others", "_law_number", "_law_last"] ["_law_script"] (defScope S_law) := ⟨rfl, rfl, rfl, by decide +kernel, rfl, by decide +kernel, by decide +kernel⟩
structure Txt (K : PySem.W.Frag) (mg : Str → Option Value) where
  a_sound_step : Addr
  fd_sound_step : FuncData
  F_sound_step : Fun K "sound_step" "sound_step" S_sound_step a_sound_step fd_sound_step
  b_sound_step : Binds K fd_sound_step ["step"] []
  g_sound_step : mg "sound_step" = some (.ref a_sound_step)
  a_Program_init : Addr
  fd_Program_init : FuncData
  F_Program_init : Fun K "__init__" "Program.__init__" S_Program_init a_Program_init fd_Program_init
  bs_Program_init : StarB fd_Program_init ["self"] "steps"
  a_Program_iter : Addr
  fd_Program_iter : FuncData
  F_Program_iter : Fun K "__iter__" "Program.__iter__" S_Program_iter a_Program_iter fd_Program_iter
  b_Program_iter : Binds K fd_Program_iter ["self"] []
  a_Program_add : Addr
  fd_Program_add : FuncData
  F_Program_add : Fun K "__add__" "Program.__add__" S_Program_add a_Program_add fd_Program_add
  b_Program_add : Binds K fd_Program_add ["self", "other"] []
  a_Standing_init : Addr
  fd_Standing_init : FuncData
  F_Standing_init : Fun K "__init__" "Standing.__init__" S_Standing_init a_Standing_init fd_Standing_init
  b_Standing_init : Binds K fd_Standing_init ["self", "web"] []
  a_Standing_check : Addr
  fd_Standing_check : FuncData
  F_Standing_check : Fun K "check" "Standing.check" S_Standing_check a_Standing_check fd_Standing_check
  b_Standing_check : Binds K fd_Standing_check ["self", "step"] []
  a_Standing_take : Addr
  fd_Standing_take : FuncData
  F_Standing_take : Fun K "take" "Standing.take" S_Standing_take a_Standing_take fd_Standing_take
  b_Standing_take : Binds K fd_Standing_take ["self", "step"] []
  a_Standing_run : Addr
  fd_Standing_run : FuncData
  F_Standing_run : Fun K "run" "Standing.run" S_Standing_run a_Standing_run fd_Standing_run
  b_Standing_run : Binds K fd_Standing_run ["self", "steps"] []
  a_Standing_begun : Addr
  fd_Standing_begun : FuncData
  F_Standing_begun : Fun K "begun" "Standing.begun" S_Standing_begun a_Standing_begun fd_Standing_begun
  b_Standing_begun : Binds K fd_Standing_begun ["self"] []
  a_Standing_loose : Addr
  fd_Standing_loose : FuncData
  F_Standing_loose : Fun K "loose" "Standing.loose" S_Standing_loose a_Standing_loose fd_Standing_loose
  b_Standing_loose : Binds K fd_Standing_loose ["self"] []
  a_Standing_holding : Addr
  fd_Standing_holding : FuncData
  F_Standing_holding : Fun K "holding" "Standing.holding" S_Standing_holding a_Standing_holding fd_Standing_holding
  b_Standing_holding : Binds K fd_Standing_holding ["self"] []
  a_Standing_held_mode : Addr
  fd_Standing_held_mode : FuncData
  F_Standing_held_mode : Fun K "held_mode" "Standing.held_mode" S_Standing_held_mode a_Standing_held_mode fd_Standing_held_mode
  b_Standing_held_mode : Binds K fd_Standing_held_mode ["self", "thing"] []
  a_Standing_locked_mode : Addr
  fd_Standing_locked_mode : FuncData
  F_Standing_locked_mode : Fun K "locked_mode" "Standing.locked_mode" S_Standing_locked_mode a_Standing_locked_mode fd_Standing_locked_mode
  b_Standing_locked_mode : Binds K fd_Standing_locked_mode ["self", "thing"] []
  a_Standing_counts : Addr
  fd_Standing_counts : FuncData
  F_Standing_counts : Fun K "counts" "Standing.counts" S_Standing_counts a_Standing_counts fd_Standing_counts
  b_Standing_counts : Binds K fd_Standing_counts ["self", "parents"] []
  a_Standing_copy : Addr
  fd_Standing_copy : FuncData
  F_Standing_copy : Fun K "copy" "Standing.copy" S_Standing_copy a_Standing_copy fd_Standing_copy
  b_Standing_copy : Binds K fd_Standing_copy ["self"] []
  a_is_mark : Addr
  fd_is_mark : FuncData
  F_is_mark : Fun K "is_mark" "is_mark" S_is_mark a_is_mark fd_is_mark
  b_is_mark : Binds K fd_is_mark ["text"] []
  g_is_mark : mg "is_mark" = some (.ref a_is_mark)
  a_sound_row : Addr
  fd_sound_row : FuncData
  F_sound_row : Fun K "sound_row" "sound_row" S_sound_row a_sound_row fd_sound_row
  b_sound_row : Binds K fd_sound_row ["row", "before"] []
  g_sound_row : mg "sound_row" = some (.ref a_sound_row)
  a_barren : Addr
  fd_barren : FuncData
  F_barren : Fun K "barren" "barren" S_barren a_barren fd_barren
  b_barren : Binds K fd_barren ["rows"] []
  g_barren : mg "barren" = some (.ref a_barren)
  a_Shape_init : Addr
  fd_Shape_init : FuncData
  F_Shape_init : Fun K "__init__" "Shape.__init__" S_Shape_init a_Shape_init fd_Shape_init
  bs_Shape_init : StarB fd_Shape_init ["self"] "rows"
  a_Shape_getitem : Addr
  fd_Shape_getitem : FuncData
  F_Shape_getitem : Fun K "__getitem__" "Shape.__getitem__" S_Shape_getitem a_Shape_getitem fd_Shape_getitem
  b_Shape_getitem : Binds K fd_Shape_getitem ["self", "mark"] []
  a_Shape_modes_of : Addr
  fd_Shape_modes_of : FuncData
  F_Shape_modes_of : Fun K "modes_of" "Shape.modes_of" S_Shape_modes_of a_Shape_modes_of fd_Shape_modes_of
  b_Shape_modes_of : Binds K fd_Shape_modes_of ["self", "mark"] []
  a_suitable : Addr
  fd_suitable : FuncData
  F_suitable : Fun K "suitable" "suitable" S_suitable a_suitable fd_suitable
  b_suitable : Binds K fd_suitable ["web", "row", "parents"] []
  g_suitable : mg "suitable" = some (.ref a_suitable)
  a_Web_init : Addr
  fd_Web_init : FuncData
  F_Web_init : Fun K "__init__" "Web.__init__" S_Web_init a_Web_init fd_Web_init
  b_Web_init : Binds K fd_Web_init ["self", "shape"] []
  a_Web_put : Addr
  fd_Web_put : FuncData
  F_Web_put : Fun K "put" "Web.put" S_Web_put a_Web_put fd_Web_put
  bs_Web_put : StarB fd_Web_put ["self", "mark"] "parents"
  a_Web_getitem : Addr
  fd_Web_getitem : FuncData
  F_Web_getitem : Fun K "__getitem__" "Web.__getitem__" S_Web_getitem a_Web_getitem fd_Web_getitem
  b_Web_getitem : Binds K fd_Web_getitem ["self", "thing"] []
  a_Web_contains : Addr
  fd_Web_contains : FuncData
  F_Web_contains : Fun K "__contains__" "Web.__contains__" S_Web_contains a_Web_contains fd_Web_contains
  b_Web_contains : Binds K fd_Web_contains ["self", "thing"] []
  a_Web_mark_of : Addr
  fd_Web_mark_of : FuncData
  F_Web_mark_of : Fun K "mark_of" "Web.mark_of" S_Web_mark_of a_Web_mark_of fd_Web_mark_of
  b_Web_mark_of : Binds K fd_Web_mark_of ["self", "thing"] []
  a__law_draws : Addr
  fd__law_draws : FuncData
  F__law_draws : Fun K "_law_draws" "_law_draws" S__law_draws a__law_draws fd__law_draws
  b__law_draws : Binds K fd__law_draws ["_law_script"] []
  g__law_draws : mg "_law_draws" = some (.ref a__law_draws)
  a__law_take : Addr
  fd__law_take : FuncData
  F__law_take : Fun K "_law_take" "_law_take" S__law_take a__law_take fd__law_take
  b__law_take : Binds K fd__law_take ["_law_draws_here", "_law_at", "_law_size"] []
  g__law_take : mg "_law_take" = some (.ref a__law_take)
  a__law_same : Addr
  fd__law_same : FuncData
  F__law_same : Fun K "_law_same" "_law_same" S__law_same a__law_same fd__law_same
  b__law_same : Binds K fd__law_same ["_law_actual", "_law_expected"] []
  g__law_same : mg "_law_same" = some (.ref a__law_same)
  a__law_marks : Addr
  fd__law_marks : FuncData
  F__law_marks : Fun K "_law_marks" "_law_marks" S__law_marks a__law_marks fd__law_marks
  b__law_marks : Binds K fd__law_marks ["_law_draws_here", "_law_at", "_law_count"] []
  g__law_marks : mg "_law_marks" = some (.ref a__law_marks)
  a__law_rows : Addr
  fd__law_rows : FuncData
  F__law_rows : Fun K "_law_rows" "_law_rows" S__law_rows a__law_rows fd__law_rows
  b__law_rows : Binds K fd__law_rows ["_law_draws_here", "_law_at", "_law_exclusive"] []
  g__law_rows : mg "_law_rows" = some (.ref a__law_rows)
  a__law_things : Addr
  fd__law_things : FuncData
  F__law_things : Fun K "_law_things" "_law_things" S__law_things a__law_things fd__law_things
  b__law_things : Binds K fd__law_things ["_law_draws_here", "_law_at", "_law_rows_here", "_law_count"] []
  g__law_things : mg "_law_things" = some (.ref a__law_things)
  a__law_counts : Addr
  fd__law_counts : FuncData
  F__law_counts : Fun K "_law_counts" "_law_counts" S__law_counts a__law_counts fd__law_counts
  b__law_counts : Binds K fd__law_counts ["_law_state", "_law_parents"] []
  g__law_counts : mg "_law_counts" = some (.ref a__law_counts)
  a__law_do : Addr
  fd__law_do : FuncData
  F__law_do : Fun K "_law_do" "_law_do" S__law_do a__law_do fd__law_do
  b__law_do : Binds K fd__law_do ["_law_state", "_law_step"] []
  g__law_do : mg "_law_do" = some (.ref a__law_do)
  a__law_shared : Addr
  fd__law_shared : FuncData
  F__law_shared : Fun K "_law_shared" "_law_shared" S__law_shared a__law_shared fd__law_shared
  b__law_shared : Binds K fd__law_shared ["_law_rows_here", "_law_mark"] []
  g__law_shared : mg "_law_shared" = some (.ref a__law_shared)
  a__law_shape : Addr
  fd__law_shape : FuncData
  F__law_shape : Fun K "_law_shape" "_law_shape" S__law_shape a__law_shape fd__law_shape
  b__law_shape : Binds K fd__law_shape ["_law_rows_here"] []
  g__law_shape : mg "_law_shape" = some (.ref a__law_shape)
  a__law_put : Addr
  fd__law_put : FuncData
  F__law_put : Fun K "_law_put" "_law_put" S__law_put a__law_put fd__law_put
  b__law_put : Binds K fd__law_put ["_law_web_here", "_law_mark", "_law_parents"] []
  g__law_put : mg "_law_put" = some (.ref a__law_put)
  a__law_web : Addr
  fd__law_web : FuncData
  F__law_web : Fun K "_law_web" "_law_web" S__law_web a__law_web fd__law_web
  b__law_web : Binds K fd__law_web ["_law_shape_here", "_law_things_here"] []
  g__law_web : mg "_law_web" = some (.ref a__law_web)
  a__law_refusal : Addr
  fd__law_refusal : FuncData
  F__law_refusal : Fun K "_law_refusal" "_law_refusal" S__law_refusal a__law_refusal fd__law_refusal
  b__law_refusal : Binds K fd__law_refusal ["_law_error"] []
  g__law_refusal : mg "_law_refusal" = some (.ref a__law_refusal)
  a__law_due : Addr
  fd__law_due : FuncData
  F__law_due : Fun K "_law_due" "_law_due" S__law_due a__law_due fd__law_due
  b__law_due : Binds K fd__law_due ["_law_rows_here", "_law_things_here", "_law_state", "_law_step"] []
  g__law_due : mg "_law_due" = some (.ref a__law_due)
  a__law_reads : Addr
  fd__law_reads : FuncData
  F__law_reads : Fun K "_law_reads" "_law_reads" S__law_reads a__law_reads fd__law_reads
  b__law_reads : Binds K fd__law_reads ["_law_standing", "_law_state", "_law_order"] []
  g__law_reads : mg "_law_reads" = some (.ref a__law_reads)
  a__law_choices : Addr
  fd__law_choices : FuncData
  F__law_choices : Fun K "_law_choices" "_law_choices" S__law_choices a__law_choices fd__law_choices
  b__law_choices : Binds K fd__law_choices ["_law_rows_here", "_law_things_here", "_law_state"] []
  g__law_choices : mg "_law_choices" = some (.ref a__law_choices)
  a__law_row : Addr
  fd__law_row : FuncData
  F__law_row : Fun K "_law_row" "_law_row" S__law_row a__law_row fd__law_row
  b__law_row : Binds K fd__law_row ["_law_draws_here", "_law_at", "_law_rows_here", "_law_things_here", "_law_state", "_law_count", "_law_form"] []
  g__law_row : mg "_law_row" = some (.ref a__law_row)
  a__law_walk : Addr
  fd__law_walk : FuncData
  F__law_walk : Fun K "_law_walk" "_law_walk" S__law_walk a__law_walk fd__law_walk
  b__law_walk : Binds K fd__law_walk ["_law_rows_here", "_law_things_here", "_law_state", "_law_order", "_law_steps"] []
  g__law_walk : mg "_law_walk" = some (.ref a__law_walk)
  a__law_run : Addr
  fd__law_run : FuncData
  F__law_run : Fun K "_law_run" "_law_run" S__law_run a__law_run fd__law_run
  b__law_run : Binds K fd__law_run ["_law_standing", "_law_steps", "_law_form"] []
  g__law_run : mg "_law_run" = some (.ref a__law_run)
  a__law_counted : Addr
  fd__law_counted : FuncData
  F__law_counted : Fun K "_law_counted" "_law_counted" S__law_counted a__law_counted fd__law_counted
  b__law_counted : Binds K fd__law_counted ["_law_draws_here", "_law_at", "_law_standing", "_law_state"] []
  g__law_counted : mg "_law_counted" = some (.ref a__law_counted)
  a_law : Addr
  fd_law : FuncData
  F_law : Fun K "law" "law" S_law a_law fd_law
  b_law : Binds K fd_law ["_law_script"] []
  g_law : mg "law" = some (.ref a_law)
  n_ValueError : mg "ValueError" = none
  n_any : mg "any" = none
  n_bool : mg "bool" = none
  n_enumerate : mg "enumerate" = none
  n_int : mg "int" = none
  n_isinstance : mg "isinstance" = none
  n_iter : mg "iter" = none
  n_len : mg "len" = none
  n_list : mg "list" = none
  n_property : mg "property" = none
  n_range : mg "range" = none
  n_str : mg "str" = none
  n_tuple : mg "tuple" = none
  k_DEEDS : Addr
  g_DEEDS : mg "DEEDS" = some (.ref k_DEEDS)
  q_DEEDS : ∀ H : Hp, SqT K H k_DEEDS [.str "own", .str "share", .str "drop"]
  tk_LETTERS : Tok
  g_LETTERS : mg "LETTERS" = some (.str "abcdefghijklmnopqrstuvwxyz" tk_LETTERS)
  k_MODES : Addr
  g_MODES : mg "MODES" = some (.ref k_MODES)
  q_MODES : ∀ H : Hp, SqT K H k_MODES [.str "own", .str "share"]
  sq_add : SeqAdd K
  c_Program : Addr
  g_Program : mg "Program" = some (.ref c_Program)
  cl_Program : Cls K c_Program
  mk_Program : Mk K c_Program a_Program_init
  m_Program_iter : Meth K c_Program "__iter__" a_Program_iter
  m_Program_add : Meth K c_Program "__add__" a_Program_add
  ti_Program : ∀ (H : Hp) (a dx : Addr) (fs : List (Str × V)), H a = some (.ins c_Program dx fs) → TyOf K H (.ref a) (.ref c_Program)
  kk_Program : PySem.W.kitOne K (.ref c_Program) (.ref c_Program) = some true
  ko_Program_list : PySem.W.kitOne K (.ref c_Program) (.type "list") = some false
  ko_Program_tuple : PySem.W.kitOne K (.ref c_Program) (.type "tuple") = some false
  of_Program_add : OpF K c_Program "add" a_Program_add
  no_Program__steps : NoAttr K c_Program "_steps"
  c_Standing : Addr
  g_Standing : mg "Standing" = some (.ref c_Standing)
  cl_Standing : Cls K c_Standing
  mk_Standing : Mk K c_Standing a_Standing_init
  m_Standing_check : Meth K c_Standing "check" a_Standing_check
  m_Standing_take : Meth K c_Standing "take" a_Standing_take
  m_Standing_run : Meth K c_Standing "run" a_Standing_run
  p_Standing_begun : Addr
  pr_Standing_begun : PropOf K c_Standing "begun" p_Standing_begun a_Standing_begun
  p_Standing_loose : Addr
  pr_Standing_loose : PropOf K c_Standing "loose" p_Standing_loose a_Standing_loose
  p_Standing_holding : Addr
  pr_Standing_holding : PropOf K c_Standing "holding" p_Standing_holding a_Standing_holding
  m_Standing_held_mode : Meth K c_Standing "held_mode" a_Standing_held_mode
  m_Standing_locked_mode : Meth K c_Standing "locked_mode" a_Standing_locked_mode
  m_Standing_counts : Meth K c_Standing "counts" a_Standing_counts
  m_Standing_copy : Meth K c_Standing "copy" a_Standing_copy
  ti_Standing : ∀ (H : Hp) (a dx : Addr) (fs : List (Str × V)), H a = some (.ins c_Standing dx fs) → TyOf K H (.ref a) (.ref c_Standing)
  kk_Standing : PySem.W.kitOne K (.ref c_Standing) (.ref c_Standing) = some true
  no_Standing_web : NoAttr K c_Standing "web"
  no_Standing__modes : NoAttr K c_Standing "_modes"
  no_Standing__holds : NoAttr K c_Standing "_holds"
  no_Standing__loose : NoAttr K c_Standing "_loose"
  c_Shape : Addr
  g_Shape : mg "Shape" = some (.ref c_Shape)
  cl_Shape : Cls K c_Shape
  mk_Shape : Mk K c_Shape a_Shape_init
  m_Shape_getitem : Meth K c_Shape "__getitem__" a_Shape_getitem
  m_Shape_modes_of : Meth K c_Shape "modes_of" a_Shape_modes_of
  fi_Shape_getitem : PySem.W.fnIn K a_Shape_getitem = true
  ti_Shape : ∀ (H : Hp) (a dx : Addr) (fs : List (Str × V)), H a = some (.ins c_Shape dx fs) → TyOf K H (.ref a) (.ref c_Shape)
  kk_Shape : PySem.W.kitOne K (.ref c_Shape) (.ref c_Shape) = some true
  cr_Shape : ClX.CRead K c_Shape (.type "type")
  tk_Shape_MARKS : Tok
  cv_Shape_MARKS : ClX.CVal K c_Shape (.type "type") "MARKS" (.int 6) (.int 6 tk_Shape_MARKS)
  tk_Shape_PARENTS : Tok
  cv_Shape_PARENTS : ClX.CVal K c_Shape (.type "type") "PARENTS" (.int 4) (.int 4 tk_Shape_PARENTS)
  no_Shape__listed : NoAttr K c_Shape "_listed"
  no_Shape__marks : NoAttr K c_Shape "_marks"
  c_Web : Addr
  g_Web : mg "Web" = some (.ref c_Web)
  cl_Web : Cls K c_Web
  mk_Web : Mk K c_Web a_Web_init
  m_Web_put : Meth K c_Web "put" a_Web_put
  m_Web_getitem : Meth K c_Web "__getitem__" a_Web_getitem
  m_Web_contains : Meth K c_Web "__contains__" a_Web_contains
  m_Web_mark_of : Meth K c_Web "mark_of" a_Web_mark_of
  fi_Web_getitem : PySem.W.fnIn K a_Web_getitem = true
  ti_Web : ∀ (H : Hp) (a dx : Addr) (fs : List (Str × V)), H a = some (.ins c_Web dx fs) → TyOf K H (.ref a) (.ref c_Web)
  kk_Web : PySem.W.kitOne K (.ref c_Web) (.ref c_Web) = some true
  cr_Web : ClX.CRead K c_Web (.type "type")
  tk_Web_MOST : Tok
  cv_Web_MOST : ClX.CVal K c_Web (.type "type") "MOST" (.int 1000) (.int 1000 tk_Web_MOST)
  no_Web_shape : NoAttr K c_Web "shape"
  no_Web__rows : NoAttr K c_Web "_rows"
  no_Web__numbers : NoAttr K c_Web "_numbers"
  c_BadShape : Addr
  g_BadShape : mg "BadShape" = some (.ref c_BadShape)
  c_UnknownMark : Addr
  g_UnknownMark : mg "UnknownMark" = some (.ref c_UnknownMark)
  c_TooLarge : Addr
  g_TooLarge : mg "TooLarge" = some (.ref c_TooLarge)
  c_BadParents : Addr
  g_BadParents : mg "BadParents" = some (.ref c_BadParents)
  c_NoThing : Addr
  g_NoThing : mg "NoThing" = some (.ref c_NoThing)
  c_BadStep : Addr
  g_BadStep : mg "BadStep" = some (.ref c_BadStep)
  c_Refused : Addr
  g_Refused : mg "Refused" = some (.ref c_Refused)
  c_LockedBefore : Addr
  g_LockedBefore : mg "LockedBefore" = some (.ref c_LockedBefore)
  c_WrongMode : Addr
  g_WrongMode : mg "WrongMode" = some (.ref c_WrongMode)
  c_NotHeld : Addr
  g_NotHeld : mg "NotHeld" = some (.ref c_NotHeld)
  c_WebError : Addr
  g_WebError : mg "WebError" = some (.ref c_WebError)
  c_NotAllowed : Addr
  g_NotAllowed : mg "NotAllowed" = some (.ref c_NotAllowed)
  c_Clash : Addr
  g_Clash : mg "Clash" = some (.ref c_Clash)
  x_BadShape : PySem.WX.ExcTxt PP K mg "BadShape" "mark" c_BadShape
  xc_BadShape : XC K c_BadShape
  xn_BadShape : PySem.W.findIn K (.ref c_BadShape) "mark" = some none
  em_BadShape_WebError : PySem.W.exmOne K (.ref c_BadShape) (.ref c_WebError) = some true
  kt_BadShape_NoThing : PySem.W.kitOne K (.ref c_BadShape) (.ref c_NoThing) = some false
  kt_BadShape_BadStep : PySem.W.kitOne K (.ref c_BadShape) (.ref c_BadStep) = some false
  kt_BadShape_Refused : PySem.W.kitOne K (.ref c_BadShape) (.ref c_Refused) = some false
  kt_BadShape_LockedBefore : PySem.W.kitOne K (.ref c_BadShape) (.ref c_LockedBefore) = some false
  kt_BadShape_WrongMode : PySem.W.kitOne K (.ref c_BadShape) (.ref c_WrongMode) = some false
  kt_BadShape_NotHeld : PySem.W.kitOne K (.ref c_BadShape) (.ref c_NotHeld) = some false
  kt_BadShape_NotAllowed : PySem.W.kitOne K (.ref c_BadShape) (.ref c_NotAllowed) = some false
  kt_BadShape_Clash : PySem.W.kitOne K (.ref c_BadShape) (.ref c_Clash) = some false
  kt_BadShape_ValueError : PySem.W.kitOne K (.ref c_BadShape) (.type "ValueError") = some true
  x_UnknownMark : PySem.WX.ExcTxt PP K mg "UnknownMark" "mark" c_UnknownMark
  xc_UnknownMark : XC K c_UnknownMark
  xn_UnknownMark : PySem.W.findIn K (.ref c_UnknownMark) "mark" = some none
  em_UnknownMark_WebError : PySem.W.exmOne K (.ref c_UnknownMark) (.ref c_WebError) = some true
  kt_UnknownMark_NoThing : PySem.W.kitOne K (.ref c_UnknownMark) (.ref c_NoThing) = some false
  kt_UnknownMark_BadStep : PySem.W.kitOne K (.ref c_UnknownMark) (.ref c_BadStep) = some false
  kt_UnknownMark_Refused : PySem.W.kitOne K (.ref c_UnknownMark) (.ref c_Refused) = some false
  kt_UnknownMark_LockedBefore : PySem.W.kitOne K (.ref c_UnknownMark) (.ref c_LockedBefore) = some false
  kt_UnknownMark_WrongMode : PySem.W.kitOne K (.ref c_UnknownMark) (.ref c_WrongMode) = some false
  kt_UnknownMark_NotHeld : PySem.W.kitOne K (.ref c_UnknownMark) (.ref c_NotHeld) = some false
  kt_UnknownMark_NotAllowed : PySem.W.kitOne K (.ref c_UnknownMark) (.ref c_NotAllowed) = some false
  kt_UnknownMark_Clash : PySem.W.kitOne K (.ref c_UnknownMark) (.ref c_Clash) = some false
  kt_UnknownMark_ValueError : PySem.W.kitOne K (.ref c_UnknownMark) (.type "ValueError") = some true
  x_TooLarge : PySem.WX.ExcTxt PP K mg "TooLarge" "most" c_TooLarge
  xc_TooLarge : XC K c_TooLarge
  xn_TooLarge : PySem.W.findIn K (.ref c_TooLarge) "most" = some none
  em_TooLarge_WebError : PySem.W.exmOne K (.ref c_TooLarge) (.ref c_WebError) = some true
  kt_TooLarge_NoThing : PySem.W.kitOne K (.ref c_TooLarge) (.ref c_NoThing) = some false
  kt_TooLarge_BadStep : PySem.W.kitOne K (.ref c_TooLarge) (.ref c_BadStep) = some false
  kt_TooLarge_Refused : PySem.W.kitOne K (.ref c_TooLarge) (.ref c_Refused) = some false
  kt_TooLarge_LockedBefore : PySem.W.kitOne K (.ref c_TooLarge) (.ref c_LockedBefore) = some false
  kt_TooLarge_WrongMode : PySem.W.kitOne K (.ref c_TooLarge) (.ref c_WrongMode) = some false
  kt_TooLarge_NotHeld : PySem.W.kitOne K (.ref c_TooLarge) (.ref c_NotHeld) = some false
  kt_TooLarge_NotAllowed : PySem.W.kitOne K (.ref c_TooLarge) (.ref c_NotAllowed) = some false
  kt_TooLarge_Clash : PySem.W.kitOne K (.ref c_TooLarge) (.ref c_Clash) = some false
  kt_TooLarge_ValueError : PySem.W.kitOne K (.ref c_TooLarge) (.type "ValueError") = some true
  x_BadParents : PySem.WX.ExcTxt PP K mg "BadParents" "mark" c_BadParents
  xc_BadParents : XC K c_BadParents
  xn_BadParents : PySem.W.findIn K (.ref c_BadParents) "mark" = some none
  em_BadParents_WebError : PySem.W.exmOne K (.ref c_BadParents) (.ref c_WebError) = some true
  kt_BadParents_NoThing : PySem.W.kitOne K (.ref c_BadParents) (.ref c_NoThing) = some false
  kt_BadParents_BadStep : PySem.W.kitOne K (.ref c_BadParents) (.ref c_BadStep) = some false
  kt_BadParents_Refused : PySem.W.kitOne K (.ref c_BadParents) (.ref c_Refused) = some false
  kt_BadParents_LockedBefore : PySem.W.kitOne K (.ref c_BadParents) (.ref c_LockedBefore) = some false
  kt_BadParents_WrongMode : PySem.W.kitOne K (.ref c_BadParents) (.ref c_WrongMode) = some false
  kt_BadParents_NotHeld : PySem.W.kitOne K (.ref c_BadParents) (.ref c_NotHeld) = some false
  kt_BadParents_NotAllowed : PySem.W.kitOne K (.ref c_BadParents) (.ref c_NotAllowed) = some false
  kt_BadParents_Clash : PySem.W.kitOne K (.ref c_BadParents) (.ref c_Clash) = some false
  kt_BadParents_ValueError : PySem.W.kitOne K (.ref c_BadParents) (.type "ValueError") = some true
  x_NoThing : PySem.WX.ExcTxt PP K mg "NoThing" "thing" c_NoThing
  xc_NoThing : XC K c_NoThing
  xn_NoThing : PySem.W.findIn K (.ref c_NoThing) "thing" = some none
  em_NoThing_WebError : PySem.W.exmOne K (.ref c_NoThing) (.ref c_WebError) = some true
  kt_NoThing_NoThing : PySem.W.kitOne K (.ref c_NoThing) (.ref c_NoThing) = some true
  kt_NoThing_BadStep : PySem.W.kitOne K (.ref c_NoThing) (.ref c_BadStep) = some false
  kt_NoThing_Refused : PySem.W.kitOne K (.ref c_NoThing) (.ref c_Refused) = some false
  kt_NoThing_LockedBefore : PySem.W.kitOne K (.ref c_NoThing) (.ref c_LockedBefore) = some false
  kt_NoThing_WrongMode : PySem.W.kitOne K (.ref c_NoThing) (.ref c_WrongMode) = some false
  kt_NoThing_NotHeld : PySem.W.kitOne K (.ref c_NoThing) (.ref c_NotHeld) = some false
  kt_NoThing_NotAllowed : PySem.W.kitOne K (.ref c_NoThing) (.ref c_NotAllowed) = some false
  kt_NoThing_Clash : PySem.W.kitOne K (.ref c_NoThing) (.ref c_Clash) = some false
  kt_NoThing_ValueError : PySem.W.kitOne K (.ref c_NoThing) (.type "ValueError") = some true
  x_BadStep : PySem.WX.ExcTxt PP K mg "BadStep" "step" c_BadStep
  xc_BadStep : XC K c_BadStep
  xn_BadStep : PySem.W.findIn K (.ref c_BadStep) "step" = some none
  em_BadStep_WebError : PySem.W.exmOne K (.ref c_BadStep) (.ref c_WebError) = some true
  kt_BadStep_NoThing : PySem.W.kitOne K (.ref c_BadStep) (.ref c_NoThing) = some false
  kt_BadStep_BadStep : PySem.W.kitOne K (.ref c_BadStep) (.ref c_BadStep) = some true
  kt_BadStep_Refused : PySem.W.kitOne K (.ref c_BadStep) (.ref c_Refused) = some false
  kt_BadStep_LockedBefore : PySem.W.kitOne K (.ref c_BadStep) (.ref c_LockedBefore) = some false
  kt_BadStep_WrongMode : PySem.W.kitOne K (.ref c_BadStep) (.ref c_WrongMode) = some false
  kt_BadStep_NotHeld : PySem.W.kitOne K (.ref c_BadStep) (.ref c_NotHeld) = some false
  kt_BadStep_NotAllowed : PySem.W.kitOne K (.ref c_BadStep) (.ref c_NotAllowed) = some false
  kt_BadStep_Clash : PySem.W.kitOne K (.ref c_BadStep) (.ref c_Clash) = some false
  kt_BadStep_ValueError : PySem.W.kitOne K (.ref c_BadStep) (.type "ValueError") = some true
  x_Refused : PySem.WX.ExcTxt PP K mg "Refused" "step" c_Refused
  xc_Refused : XC K c_Refused
  xn_Refused : PySem.W.findIn K (.ref c_Refused) "step" = some none
  em_Refused_WebError : PySem.W.exmOne K (.ref c_Refused) (.ref c_WebError) = some true
  kt_Refused_NoThing : PySem.W.kitOne K (.ref c_Refused) (.ref c_NoThing) = some false
  kt_Refused_BadStep : PySem.W.kitOne K (.ref c_Refused) (.ref c_BadStep) = some false
  kt_Refused_Refused : PySem.W.kitOne K (.ref c_Refused) (.ref c_Refused) = some true
  kt_Refused_LockedBefore : PySem.W.kitOne K (.ref c_Refused) (.ref c_LockedBefore) = some false
  kt_Refused_WrongMode : PySem.W.kitOne K (.ref c_Refused) (.ref c_WrongMode) = some false
  kt_Refused_NotHeld : PySem.W.kitOne K (.ref c_Refused) (.ref c_NotHeld) = some false
  kt_Refused_NotAllowed : PySem.W.kitOne K (.ref c_Refused) (.ref c_NotAllowed) = some false
  kt_Refused_Clash : PySem.W.kitOne K (.ref c_Refused) (.ref c_Clash) = some false
  kt_Refused_ValueError : PySem.W.kitOne K (.ref c_Refused) (.type "ValueError") = some true
  x_LockedBefore : PySem.WX.ExcTxt PP K mg "LockedBefore" "step" c_LockedBefore
  xc_LockedBefore : XC K c_LockedBefore
  xn_LockedBefore : PySem.W.findIn K (.ref c_LockedBefore) "step" = some none
  em_LockedBefore_WebError : PySem.W.exmOne K (.ref c_LockedBefore) (.ref c_WebError) = some true
  kt_LockedBefore_NoThing : PySem.W.kitOne K (.ref c_LockedBefore) (.ref c_NoThing) = some false
  kt_LockedBefore_BadStep : PySem.W.kitOne K (.ref c_LockedBefore) (.ref c_BadStep) = some false
  kt_LockedBefore_Refused : PySem.W.kitOne K (.ref c_LockedBefore) (.ref c_Refused) = some true
  kt_LockedBefore_LockedBefore : PySem.W.kitOne K (.ref c_LockedBefore) (.ref c_LockedBefore) = some true
  kt_LockedBefore_WrongMode : PySem.W.kitOne K (.ref c_LockedBefore) (.ref c_WrongMode) = some false
  kt_LockedBefore_NotHeld : PySem.W.kitOne K (.ref c_LockedBefore) (.ref c_NotHeld) = some false
  kt_LockedBefore_NotAllowed : PySem.W.kitOne K (.ref c_LockedBefore) (.ref c_NotAllowed) = some false
  kt_LockedBefore_Clash : PySem.W.kitOne K (.ref c_LockedBefore) (.ref c_Clash) = some false
  kt_LockedBefore_ValueError : PySem.W.kitOne K (.ref c_LockedBefore) (.type "ValueError") = some true
  x_WrongMode : PySem.WX.ExcTxt PP K mg "WrongMode" "step" c_WrongMode
  xc_WrongMode : XC K c_WrongMode
  xn_WrongMode : PySem.W.findIn K (.ref c_WrongMode) "step" = some none
  em_WrongMode_WebError : PySem.W.exmOne K (.ref c_WrongMode) (.ref c_WebError) = some true
  kt_WrongMode_NoThing : PySem.W.kitOne K (.ref c_WrongMode) (.ref c_NoThing) = some false
  kt_WrongMode_BadStep : PySem.W.kitOne K (.ref c_WrongMode) (.ref c_BadStep) = some false
  kt_WrongMode_Refused : PySem.W.kitOne K (.ref c_WrongMode) (.ref c_Refused) = some true
  kt_WrongMode_LockedBefore : PySem.W.kitOne K (.ref c_WrongMode) (.ref c_LockedBefore) = some false
  kt_WrongMode_WrongMode : PySem.W.kitOne K (.ref c_WrongMode) (.ref c_WrongMode) = some true
  kt_WrongMode_NotHeld : PySem.W.kitOne K (.ref c_WrongMode) (.ref c_NotHeld) = some false
  kt_WrongMode_NotAllowed : PySem.W.kitOne K (.ref c_WrongMode) (.ref c_NotAllowed) = some false
  kt_WrongMode_Clash : PySem.W.kitOne K (.ref c_WrongMode) (.ref c_Clash) = some false
  kt_WrongMode_ValueError : PySem.W.kitOne K (.ref c_WrongMode) (.type "ValueError") = some true
  x_NotHeld : PySem.WX.ExcTxt PP K mg "NotHeld" "step" c_NotHeld
  xc_NotHeld : XC K c_NotHeld
  xn_NotHeld : PySem.W.findIn K (.ref c_NotHeld) "step" = some none
  em_NotHeld_WebError : PySem.W.exmOne K (.ref c_NotHeld) (.ref c_WebError) = some true
  kt_NotHeld_NoThing : PySem.W.kitOne K (.ref c_NotHeld) (.ref c_NoThing) = some false
  kt_NotHeld_BadStep : PySem.W.kitOne K (.ref c_NotHeld) (.ref c_BadStep) = some false
  kt_NotHeld_Refused : PySem.W.kitOne K (.ref c_NotHeld) (.ref c_Refused) = some true
  kt_NotHeld_LockedBefore : PySem.W.kitOne K (.ref c_NotHeld) (.ref c_LockedBefore) = some false
  kt_NotHeld_WrongMode : PySem.W.kitOne K (.ref c_NotHeld) (.ref c_WrongMode) = some false
  kt_NotHeld_NotHeld : PySem.W.kitOne K (.ref c_NotHeld) (.ref c_NotHeld) = some true
  kt_NotHeld_NotAllowed : PySem.W.kitOne K (.ref c_NotHeld) (.ref c_NotAllowed) = some false
  kt_NotHeld_Clash : PySem.W.kitOne K (.ref c_NotHeld) (.ref c_Clash) = some false
  kt_NotHeld_ValueError : PySem.W.kitOne K (.ref c_NotHeld) (.type "ValueError") = some true
end My
namespace My
open PySem L2
/-! ### heaps: all but a as it was -/
def But (a : Addr) (H H' : Hp) : Prop := ∀ b o, b ≠ a → H b = some o → H' b = some o
theorem But.refl (a : Addr) (H : Hp) : But a H H := fun _ _ _ h => h
theorem But.trans {a : Addr} {H H1 H2 : Hp} (x : But a H H1) (y : But a H1 H2) : But a H H2 := fun b o n h => y b o n (x b o n h)
theorem But.of_same {a : Addr} {H H' : Hp} (s : Same H H') : But a H H' := fun b o _ h => s b o h
theorem But.upd {a : Addr} {H : Hp} {o : HO} : But a H (upd H a o) := fun b u n h => by rw [upd_ne n]; exact h
theorem same_new {H : Hp} {p : Addr} {o : HO} (h : H p = none) : Same H (upd H p o) := fun b x e => by
  rw [upd_ne (ne_of_none e h)]; exact e
theorem But.new {a p : Addr} {H : Hp} {o : HO} (h : H p = none) : But a H (L2.upd H p o) := But.of_same (same_new h)
/-- an object that H does not know may change -/
theorem same_mut {H H' : Hp} {p : Addr} {o : HO} (e : Same H H') (h : H p = none) : Same H (upd H' p o) := fun a u ha => by
  rw [upd_ne (ne_of_none ha h)]; exact e a u ha
theorem But.mut {a p : Addr} {H H' : Hp} {o : HO} (e : But a H H') (h : H p = none) : But a H (L2.upd H' p o) := fun b u n hb => by
  rw [upd_ne (ne_of_none hb h)]; exact e b u n hb
theorem But.free {a p : Addr} {H H' : Hp} (e : But a H H') (n : p ≠ a) (h : H' p = none) : H p = none := by
  cases q : H p with
  | none => rfl
  | some o => rw [e p o n q] at h; cases h
theorem But.sqL {K : PySem.W.Frag} {a d : Addr} {H H' : Hp} {xs : List V} (e : But a H H') (n : d ≠ a) (h : SqL K H d xs) : SqL K H' d xs := by
  rcases h with (h | ⟨o, h⟩) | h
  · exact .inl (.inl (e _ _ n h))
  · exact .inl (.inr ⟨o, e _ _ n h⟩)
  · exact .inr h
theorem But.sqT {K : PySem.W.Frag} {a d : Addr} {H H' : Hp} {xs : List V} (e : But a H H') (n : d ≠ a) (h : SqT K H d xs) : SqT K H' d xs := by
  rcases h with (h | ⟨o, h⟩) | h
  · exact .inl (.inl (e _ _ n h))
  · exact .inl (.inr ⟨o, e _ _ n h⟩)
  · exact .inr h
theorem same_sqT {K : PySem.W.Frag} {d : Addr} {H H' : Hp} {xs : List V} (e : Same H H') (h : SqT K H d xs) : SqT K H' d xs := by
  rcases h with (h | ⟨o, h⟩) | h
  · exact .inl (.inl (e _ _ h))
  · exact .inl (.inr ⟨o, e _ _ h⟩)
  · exact .inr h
theorem same_make {H H5 : Hp} {x dx C : Addr} (nx : H x = none) (nd : H dx = none) (b : But x (L2.upd (L2.upd H dx (.own x)) x (.ins C dx [])) H5) : Same H H5 := fun y o h =>
  b y o (ne_of_none h nx) (by rw [upd_ne (ne_of_none h nx), upd_ne (ne_of_none h nd)]; exact h)
/-! ### tests -/
theorem iteD {c A B : Prop} [Decidable c] (h1 : c → A) (h2 : ¬ c → B) : if decide c = true then A else B := by
  by_cases h : c
  · rw [decide_eq_true h]; exact iteT (h1 h)
  · rw [decide_eq_false h]; exact iteF (h2 h)
theorem iteN {c A B : Prop} [Decidable c] (h1 : ¬ c → A) (h2 : c → B) : if (!decide c) = true then A else B := by
  by_cases h : c
  · rw [decide_eq_true h]; exact iteF (h2 h)
  · rw [decide_eq_false h]; exact iteT (h1 h)
theorem iteB {b : Bool} {A B : Prop} (h1 : b = true → A) (h2 : b = false → B) : if b = true then A else B := by
  cases b with
  | true => exact iteT (h1 rfl)
  | false => exact iteF (h2 rfl)
theorem iteYes {b : Bool} {A B : Prop} (h : b = true) (h1 : A) : if b = true then A else B := by rw [h]; exact iteT h1
theorem iteNo {b : Bool} {A B : Prop} (h : b = false) (h1 : B) : if b = true then A else B := by rw [h]; exact iteF h1
/-! ### lists -/
theorem ints_app (zs : List Int) (z : Int) : (zs.map V.int) ++ [V.int z] = (zs ++ [z]).map V.int := by rw [List.map_append]; rfl
theorem at_ok {xs : List V} {i : Int} (h0 : 0 ≤ i) (h1 : i < xs.length) : ∃ v, atI xs i = some v ∧ v ∈ xs := by
  obtain ⟨j, rfl⟩ := Int.eq_ofNat_of_zero_le h0
  have hj : j < xs.length := by omega
  exact ⟨xs[j], atI_nat (List.getElem?_eq_getElem hj), List.getElem_mem hj⟩
theorem get_int {ns : List Int} {i : Nat} {y : V} (h : (ns.map V.int)[i]? = some y) : ∃ z, ns[i]? = some z ∧ y = .int z := by
  rw [List.getElem?_map] at h
  cases e : ns[i]? with
  | none => rw [e] at h; cases h
  | some z => rw [e] at h; exact ⟨z, rfl, (Option.some.inj h).symm⟩
end My
namespace L2
open PySem
/-! ### rules whose reading names K itself (in a comprehension's block) -/
theorem ixLK {X : Cx} {K : PySem.W.Frag} (h : X.K = K) : IxR X (rIxL K) := h ▸ ix_list
theorem ixTK {X : Cx} {K : PySem.W.Frag} (h : X.K = K) : IxR X (rIxT K) := h ▸ ix_tup
theorem inK {X : Cx} {K : PySem.W.Frag} (h : X.K = K) : OpR X (compareOp .In) (rIn K false) := h ▸ op_in_seq
theorem ninK {X : Cx} {K : PySem.W.Frag} (h : X.K = K) : OpR X (compareOp .NotIn) (rIn K true) := h ▸ op_notIn_seq
theorem pe_fldK {X : Cx} {K : PySem.W.Frag} {e : Expr} {f : Str} {pos : Pos} {ta : TE} (h : X.K = K) (he : PE X e ta) (hb : attributeBase e f X.env (eval e X.env) = eval e X.env) : PE X (.Attribute e f pos) (tFld K ta f) := h ▸ pe_fld he hb
end L2

namespace My
open PySem L2
/-- the draws at d, the place at a -/
structure Dr (K : PySem.W.Frag) (H : Hp) (d a : Addr) : Prop where
  ds : ∃ ns : List Int, H d = some (.lst (ns.map V.int))
  pl : ∃ k : Nat, H a = some (.lst [.int k])
  ne : d ≠ a
theorem Dr.but {K : PySem.W.Frag} {H H' : Hp} {d a : Addr} (x : Dr K H d a) (e : But a H H') (pl : ∃ k : Nat, H' a = some (.lst [.int k])) : Dr K H' d a :=
  ⟨x.ds.elim fun ns h => ⟨ns, e _ _ x.ne h⟩, pl, x.ne⟩
theorem Dr.same {K : PySem.W.Frag} {H H' : Hp} {d a : Addr} (x : Dr K H d a) (e : Same H H') : Dr K H' d a :=
  x.but (But.of_same e) (x.pl.elim fun k h => ⟨k, e _ _ h⟩)
/-- another object is changed -/
theorem Dr.other {K : PySem.W.Frag} {H H' : Hp} {d a p : Addr} (x : Dr K H d a) (e : But p H H') (n1 : d ≠ p) (n2 : a ≠ p) : Dr K H' d a :=
  ⟨x.ds.elim fun ns h => ⟨ns, e _ _ n1 h⟩, x.pl.elim fun k h => ⟨k, e _ _ n2 h⟩, x.ne⟩
theorem Dr.nd {K : PySem.W.Frag} {H : Hp} {d a p : Addr} (x : Dr K H d a) (h : H p = none) : d ≠ p := ne_of_none x.ds.choose_spec h
theorem Dr.na {K : PySem.W.Frag} {H : Hp} {d a p : Addr} (x : Dr K H d a) (h : H p = none) : p ≠ a := (ne_of_none x.pl.choose_spec h).symm
def spTake (K : PySem.W.Frag) : Sp := fun vs H Q _ => ∃ (d a : Addr) (size : Int), vs = [.ref d, .ref a, .int size] ∧ Dr K H d a ∧ 0 < size ∧
  ∀ (r : Int) (H' : Hp), 0 ≤ r → r < size → Dr K H' d a → But a H H' → Q (.int r) H'
section
variable {P : Program} {w : World} {K : PySem.W.Frag} {mg : Str → Option Value} {base : Heap}
theorem ok__law_take (T : Txt K mg) : FnOk P w K mg base CX0 1 T.a__law_take T.fd__law_take ["_law_draws_here", "_law_at", "_law_size"] (spTake K) := by
  refine T.F__law_take.ok sc__law_take (fun vs H Q E h => ?_) (fun cdv A outer s H vs Q E hr h => ?_)
  · obtain ⟨d, a, size, rfl, _⟩ := h; rfl
  · obtain ⟨d, a, size, rfl, D, hs, q⟩ := h
    obtain ⟨ns, hd0⟩ := D.ds
    have hd : SqL K H d (ns.map V.int) := SqL.of hd0
    obtain ⟨k, hk⟩ := D.pl
    have hb : But a H (upd H a (.lst [.int (k + 1 : Nat)])) := But.upd
    have D' : Dr K (upd H a (.lst [.int (k + 1 : Nat)])) d a := D.but hb ⟨_, upd_same⟩
    have hd' := hb.sqL D.ne hd
    refine ⟨_, (pss_cons (ps_asg (pe_op op_add (pe_ix ix_list (pv 1) (pe_int) (fun _ _ => rfl)) (pe_int)) (pg_sub (pv 1) (pe_int) set_list))
      (pss_cons (ps_if (pt_cmpR op_gt (pe_ix ix_list (pv 1) (pe_int) (fun _ _ => rfl)) (pe_callB call_len_seq (by rfl) T.n_len (by decide +kernel) (pa_cons (pv 0) pa_nil)) (nomark _)) (pss_one (ps_ret (pe_int))) pss_nil)
      (pss_one (ps_ret (pe_op op_mod (pe_callTy call_int1 (by rfl) T.n_int (by decide +kernel) (pa_cons (pe_ix ix_list (pv 0) (pe_op op_sub (pe_ix ix_list (pv 1) (pe_int) (fun _ _ => rfl)) (pe_int)) (fun _ _ => rfl)) pa_nil)) (pv 2)))))), ?_⟩
    walk_at "rd"

    refine iteD (fun c => ?_) (fun c => ?_)
    · exact q 0 _ (Int.le_refl _) hs D' hb
    · rw [List.length_map] at c
      have hl : k < ns.length := by omega
      refine ⟨_, rfl, _, rfl, _, _, _, _, rfl, rfl, SqL.of upd_same, atI_nat (j := 0) rfl, _, _, rfl, rfl, _, _, _, _, rfl, rfl, hd', at_of (j := k) (by omega) (by rw [List.getElem?_map, List.getElem?_eq_getElem hl]; rfl), ?_⟩
      walk_at "rd"
      exact q _ _ (Int.emod_nonneg _ (by omega)) (Int.emod_lt_of_pos _ hs) D' hb
end
end My

namespace My
open PySem L2
def spDraws (K : PySem.W.Frag) : Sp := fun vs H Q _ => ∃ (a : Addr) (ns : List Int), vs = [.ref a] ∧ SqL K H a (ns.map V.int) ∧ ns.length ≤ 63 ∧
  ∀ (p : Addr) (zs : List Int) (H' : Hp), Same H H' → H p = none → H' p = some (.lst (zs.map V.int)) → Q (.ref p) H'
section
variable {P : Program} {w : World} {K : PySem.W.Frag} {mg : Str → Option Value} {base : Heap}
theorem ok__law_draws (T : Txt K mg) : FnOk P w K mg base CX0 1 T.a__law_draws T.fd__law_draws ["_law_script"] (spDraws K) := by
  refine T.F__law_draws.ok sc__law_draws (fun vs H Q E h => ?_) (fun cdv A outer s H vs Q E hr h => ?_)
  · obtain ⟨a, ns, rfl, _⟩ := h; rfl
  · obtain ⟨a, ns, rfl, hS, hlen, q⟩ := h
    refine ⟨_, (pss_cons (ps_set (i := 1) sc__law_draws.nd rfl (.inl rfl) (pe_lst pa_nil))
      (pss_cons (ps_for PassesOwn.never rfl (pi_list (pv 0)) (pg_name (i := 2) sc__law_draws.nd rfl (.inl rfl)) (pss_one (ps_if (pt_cmpR op_ge (pv 2) (pe_op op_pow (pe_int) (pe_int)) (nomark _)) (pss_cons (ps_set (i := 3) sc__law_draws.nd rfl (.inl rfl) (pe_callTy call_int1 (by rfl) T.n_int (by decide +kernel) (pa_cons (pv 2) pa_nil)))
      (pss_one (ps_for PassesOwn.never rfl (pi_range1 (by rfl) T.n_range (pa_cons (pe_int) pa_nil)) (pg_name (i := 4) sc__law_draws.nd rfl (.inl rfl)) (pss_one (ps_if (pt_cmpR op_gt (pv 3) (pe_int) (nomark _)) (pss_cons (ps_expr (pe_bm PySem.F.plainAttrs_list PySem.F.slot_list_append PySem.F.type_list_append mt_append (pv 1) (pa_cons (pe_op op_mod (pe_callTy call_int1 (by rfl) T.n_int (by decide +kernel) (pa_cons (pv 3) pa_nil)) (pe_int)) pa_nil)))
      (pss_one (ps_set (i := 3) sc__law_draws.nd rfl (.inl rfl) (pe_op op_fdiv (pv 3) (pe_int))))) pss_nil))))) (pss_cons (ps_set (i := 5) sc__law_draws.nd rfl (.inl rfl) (pe_op op_mod (pe_callTy call_int1 (by rfl) T.n_int (by decide +kernel) (pa_cons (pe_op op_add (pe_op op_mul (pv 2) (pe_int)) (pe_int)) pa_nil)) (pe_int)))
      (pss_cons (ps_expr (pe_bm PySem.F.plainAttrs_list PySem.F.slot_list_append PySem.F.type_list_append mt_append (pv 1) (pa_cons (pv 5) pa_nil)))
      (pss_one (ps_expr (pe_bm PySem.F.plainAttrs_list PySem.F.slot_list_append PySem.F.type_list_append mt_append (pv 1) (pa_cons (pe_op op_mod (pe_callTy call_int1 (by rfl) T.n_int (by decide +kernel) (pa_cons (pe_op op_add (pe_op op_add (pe_op op_mul (pv 5) (pv 5)) (pe_op op_mul (pe_int) (pv 5))) (pe_op op_mul (pe_int) (pe_callB call_len_seq (by rfl) T.n_len (by decide +kernel) (pa_cons (pv 1) pa_nil)))) pa_nil)) (pe_int)) pa_nil)))))))))
      (pss_one (ps_ret (pv 1))))), ?_⟩
    refine ⟨Nat.zero_le _, fun p hp => ?_⟩
    have s0 : Same H (upd H p (.lst [])) := same_new hp
    refine ⟨_, rfl, a, rfl, ⟨_, s0.seq hS⟩, for_list (K := K) (a := a) (xs := ns.map V.int) (fun i σ H' => ∃ (zs : List Int) (x2 x3 x4 x5 : Option V), σ = [some (.ref a), some (.ref p), x2, x3, x4, x5] ∧ Same H H' ∧ H' p = some (.lst (zs.map V.int)) ∧ zs.length ≤ 60 * i)
      ⟨[], _, _, _, _, rfl, s0, upd_same, Nat.zero_le _⟩ (fun i σ H' _ ⟨_, _, _, _, _, _, s1, _⟩ => s1.seq hS) ?_ ?_⟩
    · rintro i y σ H1 hi ⟨zs, x2, x3, x4, x5, rfl, s1, h1, hz⟩
      have hi63 : i < ns.length := by
        have z := (List.getElem?_eq_some_iff.mp hi).1
        rw [List.length_map] at z
        exact z
      obtain ⟨c, hc, rfl⟩ := get_int hi
      refine ⟨_, rfl, _, _, rfl, rfl, ⟨by decide, by decide, by decide⟩, ?_⟩
      walk_at "rd"
      refine iteD (fun c1 => ?_) (fun c1 => ?_)
      · refine ⟨_, rfl, .inl ⟨_, rfl, ?_⟩⟩
        refine ⟨60, rfl, by decide, by decide, for_range (lo := 0) (n := 60) (fun j σ H' => ∃ (zs : List Int) (r : Int) (x4 : Option V), σ = [some (.ref a), some (.ref p), some (.int c), some (.int r), x4, x5] ∧ Same H H' ∧ H' p = some (.lst (zs.map V.int)) ∧ zs.length ≤ 60 * i + j)
          ⟨zs, c, x4, rfl, s1, h1, hz⟩ ?_ ?_⟩
        · rintro j σ H2 hj ⟨zs, r, x4, rfl, s2, h2, hz2⟩
          walk_at "rd"
          refine iteD (fun c2 => ?_) (fun c2 => ?_)
          · refine ⟨_, rfl, .inl ⟨rfl, _, SqL.of h2⟩, _, rfl, .inl ⟨_, rfl, _, _, rfl, rfl, (by show (0 : Int) < 1000; decide), _, _, _, rfl, rfl, h2, by rw [List.length_map]; exact Nat.lt_of_le_of_lt (by omega : _ ≤ 100000) (by decide), ?_⟩⟩
            refine ⟨_, rfl, _, _, rfl, rfl, ⟨by decide, by decide⟩, ?_⟩
            exact ⟨zs ++ [r % 1000], _, _, rfl, same_mut s2 hp, by rw [upd_same, ints_app], by rw [List.length_append, List.length_singleton]; omega⟩
          · exact ⟨zs, r, _, rfl, s2, h2, by omega⟩
        · rintro σ H2 ⟨zs, r, x4, rfl, s2, h2, hz2⟩
          exact ⟨zs, _, _, _, _, rfl, s2, h2, by omega⟩
      · refine ⟨_, rfl, _, _, rfl, rfl, .inr ⟨by decide, by decide⟩, _, _, rfl, rfl, .inl ⟨_, rfl, _, _, rfl, rfl, (by show (0 : Int) < 9973; decide), ?_⟩⟩
        have hm0 : 0 ≤ (c * 48271 + 12345) % 9973 := Int.emod_nonneg _ (by decide)
        have hm1 : (c * 48271 + 12345) % 9973 < 9973 := Int.emod_lt_of_pos _ (by decide)
        refine ⟨_, rfl, .inl ⟨rfl, _, SqL.of h1⟩, _, rfl, _, _, _, rfl, rfl, h1, by rw [List.length_map]; exact Nat.lt_of_le_of_lt (by omega : _ ≤ 100000) (by decide), ?_⟩
        refine ⟨_, rfl, .inl ⟨rfl, _, SqL.of upd_same⟩, _, rfl, _, rfl, _, _, rfl, rfl, .inl ⟨by omega, by omega⟩, _, rfl, _, _, rfl, rfl, .inl ⟨by decide, by decide⟩, _, _, rfl, rfl, _, rfl, _, _, rfl, .inl (SqL.of upd_same), _, _, rfl, rfl, .inl ⟨by decide, by decide⟩, _, _, rfl, rfl, .inl ⟨_, rfl, _, _, rfl, rfl, (by show (0 : Int) < 9949; decide), ?_⟩⟩
        refine ⟨_, _, _, rfl, rfl, upd_same, by rw [List.length_append, List.length_map]; exact Nat.lt_of_le_of_lt (by simp; omega : _ ≤ 100000) (by decide), ?_⟩
        rw [ints_app, ints_app, upd_upd]
        exact ⟨_, _, _, _, _, rfl, same_mut s1 hp, upd_same, by simp; omega⟩
    · rintro σ H1 ⟨zs, x2, x3, x4, x5, rfl, s1, h1, hz⟩
      exact ⟨_, rfl, q p zs H1 s1 hp h1⟩
end
end My

namespace My
open PySem L2
/-! ### plain data -/
inductive Sc : V → PyData → Prop
  | non : Sc .non .none
  | bl (b : Bool) : Sc (.bl b) (.bool b)
  | int (i : Int) : Sc (.int i) (.int i)
  | str (z : Str) : Sc (.str z) (.str z)
/-- a list that stays where x alone is changed; a tuple likewise -/
def SL (K : PySem.W.Frag) (x : Addr) (H : Hp) (a : Addr) (xs : List V) : Prop := (a ≠ x ∧ SqL K H a xs) ∨ ∀ H', SqL K H' a xs
def SU (K : PySem.W.Frag) (x : Addr) (H : Hp) (a : Addr) (xs : List V) : Prop := (a ≠ x ∧ SqT K H a xs) ∨ ∀ H', SqT K H' a xs
section
variable {K : PySem.W.Frag} {x : Addr} {H H' : Hp} {a : Addr} {xs : List V}
theorem SL.sq (h : SL K x H a xs) : SqL K H a xs := by
  rcases h with h | h
  · exact h.2
  · exact h H
theorem SU.sq (h : SU K x H a xs) : SqT K H a xs := by
  rcases h with h | h
  · exact h.2
  · exact h H
theorem SL.but (h : SL K x H a xs) (e : But x H H') : SL K x H' a xs := by
  rcases h with ⟨n, h⟩ | h
  · exact .inl ⟨n, e.sqL n h⟩
  · exact .inr h
theorem SU.but (h : SU K x H a xs) (e : But x H H') : SU K x H' a xs := by
  rcases h with ⟨n, h⟩ | h
  · exact .inl ⟨n, e.sqT n h⟩
  · exact .inr h
theorem tyL (h : SqL K H a xs) : TyX K H (.ref a) (.type "list") := by
  rcases h with (h | ⟨o, h⟩) | ⟨o, its, n, h, c, _⟩
  · exact .base (.lst h)
  · exact .base (.frz h)
  · exact .kList h c
theorem tyT (h : SqT K H a xs) : TyX K H (.ref a) (.type "tuple") := by
  rcases h with (h | ⟨o, h⟩) | ⟨o, its, n, h, c, _⟩
  · exact .base (.tup h)
  · exact .fTuple h
  · exact .kTuple h c
end
/-- data of depth n at most -/
def Dn (K : PySem.W.Frag) (x : Addr) (H : Hp) : Nat → V → PyData → Prop
  | 0, v, d => Sc v d
  | n + 1, v, d => Sc v d ∨ (∃ a xs ds, v = .ref a ∧ d = .list ds ∧ SL K x H a xs ∧ xs.length ≤ 100000 ∧ Paired (Dn K x H n) xs ds) ∨ ∃ a xs ds, v = .ref a ∧ d = .tuple ds ∧ SU K x H a xs ∧ xs.length ≤ 100000 ∧ Paired (Dn K x H n) xs ds
theorem Dn.sc {K : PySem.W.Frag} {x : Addr} {H : Hp} {v : V} {d : PyData} (h : Sc v d) : ∀ n, Dn K x H n v d
  | 0 => h
  | _ + 1 => .inl h
theorem Dn.but {K : PySem.W.Frag} {x : Addr} {H H' : Hp} (e : But x H H') : ∀ {n : Nat} {v : V} {d : PyData}, Dn K x H n v d → Dn K x H' n v d
  | 0, _, _, h => h
  | n + 1, v, d, h => by
    rcases h with h | ⟨a, xs, ds, rfl, rfl, h, hz, p⟩ | ⟨a, xs, ds, rfl, rfl, h, hz, p⟩
    · exact .inl h
    · exact .inr (.inl ⟨a, xs, ds, rfl, rfl, h.but e, hz, L2.Paired.mapP p fun _ _ z => Dn.but e z⟩)
    · exact .inr (.inr ⟨a, xs, ds, rfl, rfl, h.but e, hz, L2.Paired.mapP p fun _ _ z => Dn.but e z⟩)
theorem Dn.lst {K : PySem.W.Frag} {x : Addr} {H : Hp} {n : Nat} {a : Addr} {xs : List V} {ds : List PyData} (ne : a ≠ x) (h : SqL K H a xs) (p : Paired (Dn K x H n) xs ds) (hz : xs.length ≤ 100000 := by simp) : Dn K x H (n + 1) (.ref a) (.list ds) :=
  .inr (.inl ⟨a, xs, ds, rfl, rfl, .inl ⟨ne, h⟩, hz, p⟩)
theorem Dn.tup {K : PySem.W.Frag} {x : Addr} {H : Hp} {n : Nat} {a : Addr} {xs : List V} {ds : List PyData} (ne : a ≠ x) (h : SqT K H a xs) (p : Paired (Dn K x H n) xs ds) (hz : xs.length ≤ 100000 := by simp) : Dn K x H (n + 1) (.ref a) (.tuple ds) :=
  .inr (.inr ⟨a, xs, ds, rfl, rfl, .inl ⟨ne, h⟩, hz, p⟩)
theorem Dn.int {K : PySem.W.Frag} {x : Addr} {H : Hp} (i : Int) {n : Nat} : Dn K x H n (.int i) (.int i) := Dn.sc (.int i) n
theorem Dn.str {K : PySem.W.Frag} {x : Addr} {H : Hp} (i : Str) {n : Nat} : Dn K x H n (.str i) (.str i) := Dn.sc (.str i) n
theorem Dn.bl {K : PySem.W.Frag} {x : Addr} {H : Hp} (i : Bool) {n : Nat} : Dn K x H n (.bl i) (.bool i) := Dn.sc (.bl i) n
theorem Dn.non {K : PySem.W.Frag} {x : Addr} {H : Hp} {n : Nat} : Dn K x H n .non .none := Dn.sc .non n
theorem Dn.up {K : PySem.W.Frag} {x : Addr} {H : Hp} : ∀ {n : Nat} {v : V} {d : PyData}, Dn K x H n v d → Dn K x H (n + 1) v d
  | 0, _, _, h => .inl h
  | n + 1, v, d, h => by
    rcases h with h | ⟨a, xs, ds, rfl, rfl, h, hz, p⟩ | ⟨a, xs, ds, rfl, rfl, h, hz, p⟩
    · exact .inl h
    · exact .inr (.inl ⟨a, xs, ds, rfl, rfl, h, hz, L2.Paired.mapP p fun _ _ z => Dn.up z⟩)
    · exact .inr (.inr ⟨a, xs, ds, rfl, rfl, h, hz, L2.Paired.mapP p fun _ _ z => Dn.up z⟩)
theorem pair_get {α β : Type} {F : α → β → Prop} : ∀ {l : List α} {m : List β} {i : Nat} {x : α}, Paired F l m → l[i]? = some x → ∃ y, m[i]? = some y ∧ F x y
  | _, _, _, _, .nil, e => by simp at e
  | _, _, 0, _, .cons r _, e => by simp at e; subst e; exact ⟨_, rfl, r⟩
  | _, _, i + 1, x, .cons _ t, e => by
    obtain ⟨y, h1, h2⟩ := pair_get (i := i) (x := x) t (by simpa using e)
    exact ⟨y, by simpa using h1, h2⟩
theorem pair_len {α β : Type} {F : α → β → Prop} : ∀ {l : List α} {m : List β}, Paired F l m → l.length = m.length
  | _, _, .nil => rfl
  | _, _, .cons _ t => by rw [List.length_cons, List.length_cons, pair_len t]
noncomputable def sameD (d e : PyData) : Bool := @decide (d = e) (Classical.propDecidable _)
theorem same_yes {d e : PyData} (h : d = e) : sameD d e = true := by unfold sameD; exact @decide_eq_true _ (Classical.propDecidable _) h
theorem same_no {d e : PyData} (h : d ≠ e) : sameD d e = false := by unfold sameD; exact @decide_eq_false _ (Classical.propDecidable _) h
theorem same_iff {d e : PyData} : sameD d e = true ↔ d = e := by
  constructor
  · intro h
    by_cases q : d = e
    · exact q
    · rw [same_no q] at h; cases h
  · exact same_yes
theorem same_of {p : Prop} [Decidable p] {d e : PyData} (h : d = e ↔ p) : sameD d e = decide p := by
  by_cases q : p
  · rw [decide_eq_true q, same_yes (h.mpr q)]
  · rw [decide_eq_false q, same_no (fun z => q (h.mp z))]
def spSame (K : PySem.W.Frag) (n : Nat) : Sp := fun vs H Q _ => ∃ (x : Addr) (v1 v2 : V) (d1 d2 : PyData), vs = [v1, v2] ∧ Dn K x H n v1 d1 ∧ Dn K x H n v2 d2 ∧ Q (.bl (sameD d1 d2)) H
end My
local macro_rules | `(tactic| walk_at "ty") => `(tactic| first | exact .base (.int _) | exact .base (.bl _) | exact .base .non | exact .base (.str _) | exact My.tyL (by assumption) | exact My.tyT (by assumption))
local macro_rules | `(tactic| walk_at "is") => `(tactic| first | refine ⟨_, _, _, _, true, rfl, L2.ClsV.ty _, (by walk_at "ty"), L2.kit_ty (by decide +kernel), ?_⟩ | refine ⟨_, _, _, _, false, rfl, L2.ClsV.ty _, (by walk_at "ty"), L2.kit_ty (by decide +kernel), ?_⟩)
local macro_rules | `(tactic| walk_at "ri") => `(tactic| repeat (first | walk_at "is" | refine ⟨_, rfl, ?_⟩ | refine ⟨rfl, ?_⟩))
namespace My
open PySem L2
theorem same_bl (a b : Bool) : sameD (.bool a) (.bool b) = decide (V.bl a = V.bl b) := same_of ⟨fun h => by cases h; rfl, fun h => by cases h; rfl⟩
theorem same_int (a b : Int) : sameD (.int a) (.int b) = decide (V.int a = V.int b) := same_of ⟨fun h => by cases h; rfl, fun h => by cases h; rfl⟩
theorem same_str (a b : Str) : sameD (.str a) (.str b) = decide (V.str a = V.str b) := same_of ⟨fun h => by cases h; rfl, fun h => by cases h; rfl⟩
theorem same_non : sameD .none .none = true := same_yes rfl
theorem same_lst (a b : List PyData) : sameD (.list a) (.list b) = true ↔ a = b := same_iff.trans ⟨fun h => by cases h; rfl, fun h => by cases h; rfl⟩
theorem same_tup (a b : List PyData) : sameD (.tuple a) (.tuple b) = true ↔ a = b := same_iff.trans ⟨fun h => by cases h; rfl, fun h => by cases h; rfl⟩
section
variable {P : Program} {w : World} {K : PySem.W.Frag} {mg : Str → Option Value} {base : Heap}
set_option maxHeartbeats 8000000 in
theorem ok__law_same (T : Txt K mg) : ∀ n, FnOk P w K mg base CX0 (n + 1) T.a__law_same T.fd__law_same ["_law_actual", "_law_expected"] (spSame K n)
  | 0 => by
    refine T.F__law_same.ok sc__law_same (fun vs H Q E h => ?_) (fun cdv A outer s H vs Q E hr h => ?_)
    · obtain ⟨x, v1, v2, d1, d2, rfl, _⟩ := h; rfl
    · obtain ⟨x, v1, v2, d1, d2, rfl, h1, h2, q⟩ := h
      refine ⟨_, (pss_cons (ps_if (PW.pt (pw_or (pt_val (pe_callB call_isi (by rfl) T.n_isinstance (by decide +kernel) (pa_cons (pv 0) (pa_cons (pe_bltn (v := .ty "bool") (by rfl) T.n_bool (by decide +kernel) rfl) pa_nil)))) (pw_or1 (pt_val (pe_callB call_isi (by rfl) T.n_isinstance (by decide +kernel) (pa_cons (pv 1) (pa_cons (pe_bltn (v := .ty "bool") (by rfl) T.n_bool (by decide +kernel) rfl) pa_nil))))))) (pss_one (ps_ret (pe_and (pe_callB call_isi (by rfl) T.n_isinstance (by decide +kernel) (pa_cons (pv 0) (pa_cons (pe_bltn (v := .ty "bool") (by rfl) T.n_bool (by decide +kernel) rfl) pa_nil))) (pe_and (pe_callB call_isi (by rfl) T.n_isinstance (by decide +kernel) (pa_cons (pv 1) (pa_cons (pe_bltn (v := .ty "bool") (by rfl) T.n_bool (by decide +kernel) rfl) pa_nil))) (pe_one (pe_cmpR op_eq (pv 0) (pv 1) (nomark _))))))) pss_nil)
      (pss_cons (ps_if (PW.pt (pw_or (pt_cmpR op_isN (pv 0) (pe_non) (nomark _)) (pw_or1 (pt_cmpR op_isN (pv 1) (pe_non) (nomark _))))) (pss_one (ps_ret (pe_and (pe_cmpR op_isN (pv 0) (pe_non) (nomark _)) (pe_one (pe_cmpR op_isN (pv 1) (pe_non) (nomark _)))))) pss_nil)
      (pss_cons (ps_if (pt_val (pe_callB call_isi (by rfl) T.n_isinstance (by decide +kernel) (pa_cons (pv 1) (pa_cons (pe_bltn (v := .ty "int") (by rfl) T.n_int (by decide +kernel) rfl) pa_nil)))) (pss_one (ps_ret (pe_and (pe_callB call_isi (by rfl) T.n_isinstance (by decide +kernel) (pa_cons (pv 0) (pa_cons (pe_bltn (v := .ty "int") (by rfl) T.n_int (by decide +kernel) rfl) pa_nil))) (pe_one (pe_cmpR op_eq (pv 0) (pv 1) (nomark _)))))) pss_nil)
      (pss_cons (ps_if (pt_val (pe_callB call_isi (by rfl) T.n_isinstance (by decide +kernel) (pa_cons (pv 1) (pa_cons (pe_bltn (v := .ty "str") (by rfl) T.n_str (by decide +kernel) rfl) pa_nil)))) (pss_one (ps_ret (pe_and (pe_callB call_isi (by rfl) T.n_isinstance (by decide +kernel) (pa_cons (pv 0) (pa_cons (pe_bltn (v := .ty "str") (by rfl) T.n_str (by decide +kernel) rfl) pa_nil))) (pe_one (pe_cmpR op_eq (pv 0) (pv 1) (nomark _)))))) pss_nil)
      (pss_cons (ps_if (PW.pt (pw_and (pt_val (pe_callB call_isi (by rfl) T.n_isinstance (by decide +kernel) (pa_cons (pv 1) (pa_cons (pe_bltn (v := .ty "tuple") (by rfl) T.n_tuple (by decide +kernel) rfl) pa_nil)))) (pw_and1 (pt_not (pt_val (pe_callB call_isi (by rfl) T.n_isinstance (by decide +kernel) (pa_cons (pv 0) (pa_cons (pe_bltn (v := .ty "tuple") (by rfl) T.n_tuple (by decide +kernel) rfl) pa_nil)))))))) (pss_one (ps_ret (pe_bl))) pss_nil)
      (pss_cons (ps_if (PW.pt (pw_and (pt_val (pe_callB call_isi (by rfl) T.n_isinstance (by decide +kernel) (pa_cons (pv 1) (pa_cons (pe_bltn (v := .ty "list") (by rfl) T.n_list (by decide +kernel) rfl) pa_nil)))) (pw_and1 (pt_not (pt_val (pe_callB call_isi (by rfl) T.n_isinstance (by decide +kernel) (pa_cons (pv 0) (pa_cons (pe_bltn (v := .ty "list") (by rfl) T.n_list (by decide +kernel) rfl) pa_nil)))))))) (pss_one (ps_ret (pe_bl))) pss_nil)
      (pss_cons (ps_if (pt_cmpR op_ne (pe_callB call_len_seq (by rfl) T.n_len (by decide +kernel) (pa_cons (pv 0) pa_nil)) (pe_callB call_len_seq (by rfl) T.n_len (by decide +kernel) (pa_cons (pv 1) pa_nil)) (nomark _)) (pss_one (ps_ret (pe_bl))) pss_nil)
      (pss_cons ps_never
      (pss_one (ps_ret (pe_bl))))))))))), ?_⟩
      cases h1 <;> cases h2
      all_goals walk_at "ri"
      all_goals first | (rw [same_no (by intro z; cases z)] at q; exact q) | (rw [same_bl] at q; exact q) | (rw [same_int] at q; exact q) | (rw [same_str] at q; exact q) | (rw [same_non] at q; exact q)
  | n + 1 => by
    refine T.F__law_same.ok sc__law_same (fun vs H Q E h => ?_) (fun cdv A outer s H vs Q E hr h => ?_)
    · obtain ⟨x, v1, v2, d1, d2, rfl, _⟩ := h; rfl
    · obtain ⟨x, v1, v2, d1, d2, rfl, h1, h2, q⟩ := h
      refine ⟨_, (pss_cons (ps_if (PW.pt (pw_or (pt_val (pe_callB call_isi (by rfl) T.n_isinstance (by decide +kernel) (pa_cons (pv 0) (pa_cons (pe_bltn (v := .ty "bool") (by rfl) T.n_bool (by decide +kernel) rfl) pa_nil)))) (pw_or1 (pt_val (pe_callB call_isi (by rfl) T.n_isinstance (by decide +kernel) (pa_cons (pv 1) (pa_cons (pe_bltn (v := .ty "bool") (by rfl) T.n_bool (by decide +kernel) rfl) pa_nil))))))) (pss_one (ps_ret (pe_and (pe_callB call_isi (by rfl) T.n_isinstance (by decide +kernel) (pa_cons (pv 0) (pa_cons (pe_bltn (v := .ty "bool") (by rfl) T.n_bool (by decide +kernel) rfl) pa_nil))) (pe_and (pe_callB call_isi (by rfl) T.n_isinstance (by decide +kernel) (pa_cons (pv 1) (pa_cons (pe_bltn (v := .ty "bool") (by rfl) T.n_bool (by decide +kernel) rfl) pa_nil))) (pe_one (pe_cmpR op_eq (pv 0) (pv 1) (nomark _))))))) pss_nil)
      (pss_cons (ps_if (PW.pt (pw_or (pt_cmpR op_isN (pv 0) (pe_non) (nomark _)) (pw_or1 (pt_cmpR op_isN (pv 1) (pe_non) (nomark _))))) (pss_one (ps_ret (pe_and (pe_cmpR op_isN (pv 0) (pe_non) (nomark _)) (pe_one (pe_cmpR op_isN (pv 1) (pe_non) (nomark _)))))) pss_nil)
      (pss_cons (ps_if (pt_val (pe_callB call_isi (by rfl) T.n_isinstance (by decide +kernel) (pa_cons (pv 1) (pa_cons (pe_bltn (v := .ty "int") (by rfl) T.n_int (by decide +kernel) rfl) pa_nil)))) (pss_one (ps_ret (pe_and (pe_callB call_isi (by rfl) T.n_isinstance (by decide +kernel) (pa_cons (pv 0) (pa_cons (pe_bltn (v := .ty "int") (by rfl) T.n_int (by decide +kernel) rfl) pa_nil))) (pe_one (pe_cmpR op_eq (pv 0) (pv 1) (nomark _)))))) pss_nil)
      (pss_cons (ps_if (pt_val (pe_callB call_isi (by rfl) T.n_isinstance (by decide +kernel) (pa_cons (pv 1) (pa_cons (pe_bltn (v := .ty "str") (by rfl) T.n_str (by decide +kernel) rfl) pa_nil)))) (pss_one (ps_ret (pe_and (pe_callB call_isi (by rfl) T.n_isinstance (by decide +kernel) (pa_cons (pv 0) (pa_cons (pe_bltn (v := .ty "str") (by rfl) T.n_str (by decide +kernel) rfl) pa_nil))) (pe_one (pe_cmpR op_eq (pv 0) (pv 1) (nomark _)))))) pss_nil)
      (pss_cons (ps_if (PW.pt (pw_and (pt_val (pe_callB call_isi (by rfl) T.n_isinstance (by decide +kernel) (pa_cons (pv 1) (pa_cons (pe_bltn (v := .ty "tuple") (by rfl) T.n_tuple (by decide +kernel) rfl) pa_nil)))) (pw_and1 (pt_not (pt_val (pe_callB call_isi (by rfl) T.n_isinstance (by decide +kernel) (pa_cons (pv 0) (pa_cons (pe_bltn (v := .ty "tuple") (by rfl) T.n_tuple (by decide +kernel) rfl) pa_nil)))))))) (pss_one (ps_ret (pe_bl))) pss_nil)
      (pss_cons (ps_if (PW.pt (pw_and (pt_val (pe_callB call_isi (by rfl) T.n_isinstance (by decide +kernel) (pa_cons (pv 1) (pa_cons (pe_bltn (v := .ty "list") (by rfl) T.n_list (by decide +kernel) rfl) pa_nil)))) (pw_and1 (pt_not (pt_val (pe_callB call_isi (by rfl) T.n_isinstance (by decide +kernel) (pa_cons (pv 0) (pa_cons (pe_bltn (v := .ty "list") (by rfl) T.n_list (by decide +kernel) rfl) pa_nil)))))))) (pss_one (ps_ret (pe_bl))) pss_nil)
      (pss_cons (ps_if (pt_cmpR op_ne (pe_callB call_len_seq (by rfl) T.n_len (by decide +kernel) (pa_cons (pv 0) pa_nil)) (pe_callB call_len_seq (by rfl) T.n_len (by decide +kernel) (pa_cons (pv 1) pa_nil)) (nomark _)) (pss_one (ps_ret (pe_bl))) pss_nil)
      (pss_cons (ps_for PassesOwn.never rfl (pi_range1 (by rfl) T.n_range (pa_cons (pe_callB call_len_seq (by rfl) T.n_len (by decide +kernel) (pa_cons (pv 1) pa_nil)) pa_nil)) (pg_name (i := 2) sc__law_same.nd rfl (.inl rfl)) (pss_one (ps_if (pt_not (pt_val (pe_call (ok__law_same T n) (hr.mono (by omega)) (by rfl) T.g__law_same T.F__law_same.kp T.b__law_same .nil pass0 (pa_cons (pe_ix ix_seq (pv 0) (pv 2) (fun _ _ => rfl)) (pa_cons (pe_ix ix_seq (pv 1) (pv 2) (fun _ _ => rfl)) pa_nil))))) (pss_one (ps_ret (pe_bl))) pss_nil)))
      (pss_one (ps_ret (pe_bl))))))))))), ?_⟩
      rcases h1 with h1 | ⟨a1, xs1, ds1, rfl, rfl, h1, z1, p1⟩ | ⟨a1, xs1, ds1, rfl, rfl, h1, z1, p1⟩ <;> rcases h2 with h2 | ⟨a2, xs2, ds2, rfl, rfl, h2, z2, p2⟩ | ⟨a2, xs2, ds2, rfl, rfl, h2, z2, p2⟩
      · cases h1 <;> cases h2
        all_goals walk_at "ri"
        all_goals first | (rw [same_no (by intro z; cases z)] at q; exact q) | (rw [same_bl] at q; exact q) | (rw [same_int] at q; exact q) | (rw [same_str] at q; exact q) | (rw [same_non] at q; exact q)
      · have t2 := h2.sq
        cases h1
        all_goals (walk_at "ri"; rw [same_no (by intro z; cases z)] at q; exact q)
      · have t2 := h2.sq
        cases h1
        all_goals (walk_at "ri"; rw [same_no (by intro z; cases z)] at q; exact q)
      · have t1 := h1.sq
        cases h2
        all_goals (walk_at "ri"; rw [same_no (by intro z; cases z)] at q; exact q)
      · have t1 := h1.sq
        have t2 := h2.sq
        walk_at "ri"
        refine ⟨_, _, rfl, .inl t1, _, rfl, _, _, rfl, .inl t2, rfl, _, rfl, ?_⟩
        have l1 := pair_len p1
        have l2 := pair_len p2
        refine iteN (fun c => ?_) (fun c => ?_)
        · rw [same_no (by intro z; cases z; exact c (by rw [l1, l2]))] at q; exact q
        have c' : xs1.length = xs2.length := by have := V.int.inj c; omega
        refine ⟨_, rfl, _, _, rfl, .inl t2, _, rfl, by omega, by omega, for_range (lo := 0) (n := _) (fun j σ H' => ∃ x2, σ = [some (.ref a1), some (.ref a2), x2] ∧ H' = H ∧ ds1.take j = ds2.take j) ⟨_, rfl, rfl, rfl⟩ ?_ ?_⟩
        · rintro j σ H1 hj ⟨x2, rfl, rfl, et⟩
          have j2 : j < xs2.length := by omega
          have j1 : j < xs1.length := by omega
          obtain ⟨e1, g1, r1⟩ := pair_get p1 (List.getElem?_eq_getElem j1)
          obtain ⟨e2, g2, r2⟩ := pair_get p2 (List.getElem?_eq_getElem j2)
          refine ⟨_, rfl, _, rfl, .inl ⟨_, _, _, _, rfl, rfl, t1, at_of (j := j) (by omega) (List.getElem?_eq_getElem j1), ?_⟩⟩
          refine ⟨_, rfl, _, rfl, .inl ⟨_, _, _, _, rfl, rfl, t2, at_of (j := j) (by omega) (List.getElem?_eq_getElem j2), ?_⟩⟩
          refine ⟨x, _, _, e1, e2, rfl, r1, r2, _, rfl, ?_⟩
          refine iteB (fun b => ?_) (fun b => ?_)
          · have ne : e1 ≠ e2 := fun h => by rw [same_yes h] at b; cases b
            rw [same_no (by intro z; cases z; rw [g1] at g2; exact ne (Option.some.inj g2))] at q; exact q
          · have ee : e1 = e2 := by
              apply same_iff.mp
              cases h : sameD e1 e2 with
              | true => rfl
              | false => rw [h] at b; cases b
            subst ee
            exact ⟨_, rfl, rfl, by rw [List.take_add_one, List.take_add_one, et, g1, g2]⟩
        · rintro σ H1 ⟨x2, rfl, rfl, et⟩
          have ed : ds1 = ds2 := by
            rw [List.take_of_length_le (by omega), List.take_of_length_le (by omega)] at et
            exact et
          subst ed
          rw [same_yes rfl] at q; exact q
      · have t1 := h1.sq
        have t2 := h2.sq
        walk_at "ri"
        rw [same_no (by intro z; cases z)] at q; exact q
      · have t1 := h1.sq
        cases h2
        all_goals (walk_at "ri"; rw [same_no (by intro z; cases z)] at q; exact q)
      · have t1 := h1.sq
        have t2 := h2.sq
        walk_at "ri"
        rw [same_no (by intro z; cases z)] at q; exact q
      · have t1 := h1.sq
        have t2 := h2.sq
        walk_at "ri"
        refine ⟨_, _, rfl, .inr t1, _, rfl, _, _, rfl, .inr t2, rfl, _, rfl, ?_⟩
        have l1 := pair_len p1
        have l2 := pair_len p2
        refine iteN (fun c => ?_) (fun c => ?_)
        · rw [same_no (by intro z; cases z; exact c (by rw [l1, l2]))] at q; exact q
        have c' : xs1.length = xs2.length := by have := V.int.inj c; omega
        refine ⟨_, rfl, _, _, rfl, .inr t2, _, rfl, by omega, by omega, for_range (lo := 0) (n := _) (fun j σ H' => ∃ x2, σ = [some (.ref a1), some (.ref a2), x2] ∧ H' = H ∧ ds1.take j = ds2.take j) ⟨_, rfl, rfl, rfl⟩ ?_ ?_⟩
        · rintro j σ H1 hj ⟨x2, rfl, rfl, et⟩
          have j2 : j < xs2.length := by omega
          have j1 : j < xs1.length := by omega
          obtain ⟨e1, g1, r1⟩ := pair_get p1 (List.getElem?_eq_getElem j1)
          obtain ⟨e2, g2, r2⟩ := pair_get p2 (List.getElem?_eq_getElem j2)
          refine ⟨_, rfl, _, rfl, .inr (.inl ⟨_, _, _, _, rfl, rfl, t1, at_of (j := j) (by omega) (List.getElem?_eq_getElem j1), ?_⟩)⟩
          refine ⟨_, rfl, _, rfl, .inr (.inl ⟨_, _, _, _, rfl, rfl, t2, at_of (j := j) (by omega) (List.getElem?_eq_getElem j2), ?_⟩)⟩
          refine ⟨x, _, _, e1, e2, rfl, r1, r2, _, rfl, ?_⟩
          refine iteB (fun b => ?_) (fun b => ?_)
          · have ne : e1 ≠ e2 := fun h => by rw [same_yes h] at b; cases b
            rw [same_no (by intro z; cases z; rw [g1] at g2; exact ne (Option.some.inj g2))] at q; exact q
          · have ee : e1 = e2 := by
              apply same_iff.mp
              cases h : sameD e1 e2 with
              | true => rfl
              | false => rw [h] at b; cases b
            subst ee
            exact ⟨_, rfl, rfl, by rw [List.take_add_one, List.take_add_one, et, g1, g2]⟩
        · rintro σ H1 ⟨x2, rfl, rfl, et⟩
          have ed : ds1 = ds2 := by
            rw [List.take_of_length_le (by omega), List.take_of_length_le (by omega)] at et
            exact et
          subst ed
          rw [same_yes rfl] at q; exact q
end
theorem nsame {d : PyData} : (!sameD d d) = false := by rw [same_yes rfl]; rfl
end My

namespace My
open PySem L2
/-! ### lists of ints: in, flat; slices -/
theorem flat_ints (ns : List Int) : (ns.map V.int).all flatV = true := by
  rw [List.all_eq_true]
  intro v h
  obtain ⟨n, _, rfl⟩ := List.mem_map.mp h
  rfl
theorem in_ints (n : Int) (ns : List Int) : inV (.int n) (ns.map V.int) = decide (n ∈ ns) := by
  unfold inV
  rw [List.any_map, Bool.eq_iff_iff, List.any_eq_true, decide_eq_true_iff]
  constructor
  · rintro ⟨m, h, e⟩
    have e : (m == n) = true := e
    rw [← beq_iff_eq.mp e]; exact h
  · intro h
    exact ⟨n, h, by show (n == n) = true; simp⟩
theorem cut_to (xs : List V) (n : Nat) : cutV xs none (some (n : Int)) = xs.take n := by
  unfold cutV HT.sIx
  simp only [List.drop_zero, Nat.sub_zero]
  have h0 : ¬ (n : Int) < 0 := by omega
  simp only [h0, if_false]
  by_cases h : n ≤ xs.length
  · congr 1
    omega
  · rw [List.take_of_length_le (by omega), List.take_of_length_le (by omega)]
theorem cut_from (xs : List V) (n : Nat) : cutV xs (some (n : Int)) none = xs.drop n := by
  unfold cutV HT.sIx
  have h0 : ¬ (n : Int) < 0 := by omega
  simp only [h0, if_false]
  by_cases h : n ≤ xs.length
  · rw [List.take_of_length_le (by rw [List.length_drop]; omega)]
    congr 1
    omega
  · rw [List.drop_eq_nil_of_le (by omega), List.drop_eq_nil_of_le (by omega), List.take_nil]
end My

namespace My
open PySem L2
/-! ### shapes: rows -/
structure Row where
  mark : Str
  pars : List Str
  least : Int
  most : Int
  sh : Bool
  deriving DecidableEq
def isMk (t : Str) : Bool := decide (1 ≤ t.length ∧ t.length ≤ 8) && (TL.tl t).all fun c => decide (97 ≤ c ∧ c ≤ 122)
def spMark : Sp := fun vs H Q _ => ∃ (z : Str), vs = [.str z] ∧ z.length ≤ 90000 ∧ Q (.bl (isMk z)) H
theorem letter_mem {c : Nat} : c ∈ ("abcdefghijklmnopqrstuvwxyz" : Str).cps.toList ↔ 97 ≤ c ∧ c ≤ 122 := by
  rw [show ("abcdefghijklmnopqrstuvwxyz" : Str).cps.toList = [97, 98, 99, 100, 101, 102, 103, 104, 105, 106, 107, 108, 109, 110, 111, 112, 113, 114, 115, 116, 117, 118, 119, 120, 121, 122] by decide +kernel]
  simp only [List.mem_cons, List.not_mem_nil, or_false]
  omega
section
variable {w : World} {K : PySem.W.Frag} {mg : Str → Option Value} {base : Heap}
theorem ok_is_mark (T : Txt K mg) : FnOk PP w K mg base CX0 1 T.a_is_mark T.fd_is_mark ["text"] spMark := by
  refine T.F_is_mark.ok sc_is_mark (fun vs H Q E h => ?_) (fun cdv A outer s H vs Q E hr h => ?_)
  · obtain ⟨z, rfl, _⟩ := h; rfl
  · obtain ⟨z, rfl, hz, q⟩ := h
    refine ⟨_, (pss_cons (ps_if (pt_not (pt_chain op_le op_le (pe_int) (pe_callB call_len_str (by rfl) T.n_len (by decide +kernel) (pa_cons (pv 0) pa_nil)) (pe_int))) (pss_one (ps_ret (pe_bl))) pss_nil)
      (pss_cons (ps_for PassesOwn.never rfl (pi_str (pv 0)) (pg_name (i := 1) sc_is_mark.nd rfl (.inl rfl)) (pss_one (ps_if (pt_cmpR op_notInS (pv 1) (pe_glob (v := .str "abcdefghijklmnopqrstuvwxyz") (by rfl) T.g_LETTERS ⟨_, rfl⟩) (by with_unfolding_all rfl)) (pss_one (ps_ret (pe_bl))) pss_nil)))
      (pss_one (ps_ret (pe_bl))))), ?_⟩
    have big : 90000 < sizeLine := by decide
    by_cases k1 : 1 ≤ z.length
    case neg =>
      rw [show isMk z = false by unfold isMk; rw [decide_eq_false (by omega)]; rfl] at q
      exact ⟨_, rfl, z, rfl, by omega, _, _, rfl, rfl, _, rfl, iteNo (decide_eq_false (by omega)) ⟨_, rfl, iteYes rfl q⟩⟩
    refine ⟨_, rfl, z, rfl, by omega, _, _, rfl, rfl, _, rfl, iteYes (decide_eq_true (by omega)) ⟨_, _, rfl, rfl, _, rfl, ?_⟩⟩
    by_cases k9 : z.length ≤ 8
    case neg =>
      rw [show isMk z = false by unfold isMk; rw [decide_eq_false (by omega)]; rfl] at q
      exact iteYes (by rw [decide_eq_false (by omega)]; rfl) q
    refine iteNo (by rw [decide_eq_true (by omega)]; rfl) ?_
    refine ⟨_, rfl, z, rfl, for_str (z := z) (fun i σ H' => ∃ x1, H' = H ∧ σ = [some (.str z), x1] ∧ ∀ j, j < i → ∀ c, (TL.tl z)[j]? = some c → 97 ≤ c ∧ c ≤ 122) ⟨_, rfl, rfl, fun j hj => absurd hj (Nat.not_lt_zero _)⟩ ?_ ?_⟩
    · rintro i c σ H' hc ⟨x1, rfl, rfl, hp⟩
      refine ⟨_, rfl, c, _, rfl, rfl, _, rfl, iteN (fun h => ?_) (fun h => ?_)⟩
      · rw [show isMk z = false by
          unfold isMk
          rw [List.all_eq_false.mpr ⟨c, List.mem_of_getElem? hc, by simpa using fun a => Nat.lt_of_not_le fun b => h (letter_mem.mpr ⟨a, b⟩)⟩, Bool.and_false]] at q
        exact q
      · refine ⟨_, rfl, rfl, fun j hj c' hc' => ?_⟩
        by_cases e : j = i
        · subst e
          rw [hc] at hc'
          exact Option.some.inj hc' ▸ letter_mem.mp h
        · exact hp j (by omega) c' hc'
    · rintro σ H' ⟨x1, rfl, rfl, hp⟩
      rw [show isMk z = true by
        unfold isMk
        rw [decide_eq_true ⟨k1, k9⟩, Bool.true_and, List.all_eq_true]
        intro c hc
        obtain ⟨j, hj, e⟩ := List.getElem_of_mem hc
        exact decide_eq_true (hp j (by rw [TL.len_tl]; exact hj) c (by rw [List.getElem?_eq_getElem hj, e]))] at q
      exact q
end
end My

namespace My
open PySem L2
def rowL (r : Row) (pp : Addr) : List V := [.str r.mark, .ref pp, .int r.least, .int r.most, .bl r.sh]
/-- a row as it is handed over: lists or tuples -/
def RowV (H : Hp) (v : V) (r : Row) : Prop := ∃ p pp, v = .ref p ∧ (H p = some (.tup (rowL r pp)) ∨ H p = some (.lst (rowL r pp))) ∧ (H pp = some (.tup (r.pars.map V.str)) ∨ H pp = some (.lst (r.pars.map V.str)))
/-- a row as it is kept -/
def RowT (H : Hp) (v : V) (r : Row) : Prop := ∃ p pp, v = .ref p ∧ H p = some (.tup (rowL r pp)) ∧ H pp = some (.tup (r.pars.map V.str))
def small (r : Row) : Prop := r.mark.length ≤ 1000 ∧ r.pars.length ≤ 100
def sizeB (r : Row) : Bool := decide (0 ≤ r.least) && (decide (r.least ≤ r.most) && decide (r.most ≤ 4))
def fineB (r : Row) (bs : List Str) : Bool := (isMk r.mark && (!decide (r.mark ∈ bs) && sizeB r)) && (decide (0 < r.most) == decide (0 < r.pars.length)) && decide r.pars.Nodup
def spRow (X : Addr) : Sp := fun vs H Q E => ∃ (v : V) (b : Addr) (r : Row) (bs : List Str), vs = [v, .ref b] ∧ RowV H v r ∧ H b = some (.lst (bs.map V.str)) ∧ small r ∧
  (fineB r bs = true → ∀ p pp H', Same H H' → H p = none → H' p = some (.tup (rowL r pp)) → H' pp = some (.tup (r.pars.map V.str)) → Q (.ref p) H') ∧
  (fineB r bs = false → ∀ H' d, Same H H' → H d = none → H' d = some (.xd [("mark", .str r.mark)]) → E (.ref X) (some d) H')
theorem flat_strs (ns : List Str) : (ns.map V.str).all flatV = true := by
  rw [List.all_eq_true]
  intro v h
  obtain ⟨n, _, rfl⟩ := List.mem_map.mp h
  rfl
theorem in_strs (n : Str) (ns : List Str) : inV (.str n) (ns.map V.str) = decide (n ∈ ns) := by
  unfold inV
  rw [List.any_map, Bool.eq_iff_iff, List.any_eq_true, decide_eq_true_iff]
  constructor
  · rintro ⟨m, h, e⟩
    have e : (m == n) = true := e
    rw [← beq_iff_eq.mp e]; exact h
  · intro h
    exact ⟨n, h, by show (n == n) = true; simp⟩
theorem nodup_take_succ {xs : List Str} {i : Nat} {y : Str} (h : xs[i]? = some y) : (xs.take (i + 1)).Nodup ↔ (xs.take i).Nodup ∧ y ∉ xs.take i := by
  rw [List.take_succ, h, Option.toList_some, List.nodup_append]
  constructor
  · rintro ⟨a, _, b⟩
    exact ⟨a, fun m => b y m y (List.mem_singleton.mpr rfl) rfl⟩
  · rintro ⟨a, b⟩
    refine ⟨a, List.nodup_cons.mpr ⟨List.not_mem_nil, List.nodup_nil⟩, fun x hx z hz e => b ?_⟩
    rw [List.mem_singleton.mp hz] at e
    exact e ▸ hx
section
variable {w : World} {K : PySem.W.Frag} {mg : Str → Option Value} {base : Heap}
theorem ok_sound_row (T : Txt K mg) : FnOk PP w K mg base (L2.CX PP w) 3 T.a_sound_row T.fd_sound_row ["row", "before"] (spRow T.c_BadShape) := by
  refine T.F_sound_row.okX sc_sound_row (fun vs H Q E h => ?_) (fun cdv A outer s H vs Q E hr h => ?_)
  · obtain ⟨v, b, r, bs, rfl, _⟩ := h; rfl
  · obtain ⟨v, b, r, bs, rfl, ⟨p, pp, rfl, hp, hpp⟩, hb, hz, q, qb⟩ := h
    refine ⟨_, (pss_cons (ps_asg (pv 0) (pg_seq rfl (pgs_cons (pg_name (i := 2) sc_sound_row.nd rfl (.inl rfl)) (pgs_cons (pg_name (i := 3) sc_sound_row.nd rfl (.inl rfl)) (pgs_cons (pg_name (i := 4) sc_sound_row.nd rfl (.inl rfl)) (pgs_cons (pg_name (i := 5) sc_sound_row.nd rfl (.inl rfl)) (pgs_cons (pg_name (i := 6) sc_sound_row.nd rfl (.inl rfl)) pgs_nil)))))))
      (C8.pss_cut (ps_set (i := 3) sc_sound_row.nd rfl (.inl rfl) (pe_callTy call_tuple_of (by rfl) T.n_tuple (by decide +kernel) (pa_cons (pv 3) pa_nil)))
      (C8.pss_cut (ps_set (i := 7) sc_sound_row.nd rfl (.inl rfl) (pe_and (pe_call (ok_is_mark T) (hr.mono (by omega)) (by rfl) T.g_is_mark T.F_is_mark.kp T.b_is_mark .nil pass0 (pa_cons (pv 2) pa_nil)) (pe_and (pe_cmpR op_notIn_seq (pv 2) (pv 1) (by with_unfolding_all rfl)) (pe_one (pe_chain3 op_le op_le op_le (pe_int) (pv 4) (pv 5) (ClX.pe_cval (pe_glob (v := .ref T.c_Shape) (by rfl) T.g_Shape rfl)))))))
      (C8.pss_cut (ps_if (PW.pt (pw_and (pt_val (pv 7)) (pw_and1 (pt_cmpR op_ne (pe_cmpR op_gt (pv 5) (pe_int) (nomark _)) (pe_cmpR op_gt (pe_callB call_len_seq (by rfl) T.n_len (by decide +kernel) (pa_cons (pv 3) pa_nil)) (pe_int) (nomark _)) (nomark _))))) (pss_one (ps_set (i := 7) sc_sound_row.nd rfl (.inl rfl) (pe_bl))) pss_nil)
      (pss_cons (ps_for (passes_of rfl) rfl (pi_enumT (by rfl) T.n_enumerate (pa_cons (pv 3) pa_nil)) (pg_tup rfl (pgs_cons (pg_name (i := 8) sc_sound_row.nd rfl (.inl rfl)) (pgs_cons (pg_name (i := 9) sc_sound_row.nd rfl (.inl rfl)) pgs_nil))) (pss_one (ps_if (pt_cmpR op_in_seq (pv 9) (pe_slice sl_tup (pv 3) po_none (po_some (pv 8))) (by with_unfolding_all rfl)) (pss_one (ps_set (i := 7) sc_sound_row.nd rfl (.inl rfl) (pe_bl))) pss_nil)))
      (pss_cons (ps_if (pt_not (pt_val (pv 7))) (pss_one (ps_raiseX rfl T.x_BadShape hr (takes_of rfl rfl rfl rfl) (pa_cons (pv 2) pa_nil))) pss_nil)
      (pss_one (ps_ret (pe_tup (pa_cons (pv 2) (pa_cons (pv 3) (pa_cons (pv 4) (pa_cons (pv 5) (pa_cons (pv 6) pa_nil)))))))))))))), ?_⟩
    have big : 90000 < sizeLine := by decide
    refine ⟨_, rfl, gSeq_of hp rfl ⟨_, _, rfl, _, _, rfl, _, _, rfl, _, _, rfl, _, _, rfl, rfl, ?_⟩⟩
    have lm := hz.1
    have lp := hz.2
    -- parents = tuple(parents)
    refine ⟨fun σ' H' => ∃ pq, σ' = [some (.ref p), some (.ref b), some (.str r.mark), some (.ref pq), some (.int r.least), some (.int r.most), some (.bl r.sh), none, none, none] ∧ Same H H' ∧ H' pq = some (.tup (r.pars.map V.str)), ?_, ?_⟩
    · rcases hpp with hpp | hpp
      · exact ⟨_, rfl, pp, _, rfl, .inr ⟨SqT.of hpp, pp, rfl, fun _ _ h => h, hpp⟩⟩
      · exact ⟨_, rfl, pp, _, rfl, .inl ⟨SqL.of hpp, fun l hl => ⟨l, rfl, same_new hl, upd_same⟩⟩⟩
    rintro σ' H1 ⟨pq, rfl, s1, hq⟩
    -- good
    refine ⟨fun σ' H' => H' = H1 ∧ σ' = [some (.ref p), some (.ref b), some (.str r.mark), some (.ref pq), some (.int r.least), some (.int r.most), some (.bl r.sh), some (.bl (isMk r.mark && (!decide (r.mark ∈ bs) && sizeB r))), none, none], ?_, ?_⟩
    · refine ⟨_, rfl, r.mark, rfl, by omega, ?_⟩
      refine ⟨_, rfl, ?_⟩
      cases isMk r.mark with
      | false => exact iteF ⟨rfl, rfl⟩
      | true =>
        refine iteT ⟨_, rfl, _, rfl, _, _, rfl, .inl (SqL.of (s1 _ _ hb)), rfl, flat_strs bs, ?_⟩
        rw [in_strs]
        refine ⟨_, rfl, ?_⟩
        by_cases hm : r.mark ∈ bs
        · refine iteNo (by simp [hm]) ⟨rfl, ?_⟩
          rw [show (true && (!decide (r.mark ∈ bs) && sizeB r)) = false by simp [hm]]
          rfl
        · refine iteYes (by simp [hm]) ⟨_, rfl, _, _, rfl, rfl, _, rfl, iteD (fun c1 => ?_) (fun c1 => ?_)⟩
          · refine ⟨_, rfl, _, _, rfl, rfl, _, rfl, iteD (fun c2 => ?_) (fun c2 => ?_)⟩
            · refine ⟨_, _, _, _, rfl, T.cr_Shape, T.cv_Shape_PARENTS, _, _, rfl, rfl, rfl, ?_⟩
              rw [show (true && (!decide (r.mark ∈ bs) && sizeB r)) = decide (r.most ≤ 4) by simp [hm, sizeB, c1, c2]]
              rfl
            · refine ⟨rfl, ?_⟩
              rw [show (true && (!decide (r.mark ∈ bs) && sizeB r)) = false by simp [hm, sizeB, c2]]
              rfl
          · refine ⟨rfl, ?_⟩
            rw [show (true && (!decide (r.mark ∈ bs) && sizeB r)) = false by simp [hm, sizeB, c1]]
            rfl
    rintro σ' H' ⟨rfl, rfl⟩
    generalize hg0 : (isMk r.mark && (!decide (r.mark ∈ bs) && sizeB r)) = g0
    -- parents and the greatest number
    refine ⟨fun σ' H1 => H1 = H' ∧ σ' = [some (.ref p), some (.ref b), some (.str r.mark), some (.ref pq), some (.int r.least), some (.int r.most), some (.bl r.sh), some (.bl (g0 && (decide (0 < r.most) == decide (0 < r.pars.length)))), none, none], ?_, ?_⟩
    · refine ⟨_, rfl, _, rfl, ?_⟩
      cases g0 with
      | false => exact iteF ⟨rfl, rfl⟩
      | true =>
        refine iteT ⟨_, rfl, _, _, rfl, rfl, _, rfl, pq, _, rfl, .inr (SqT.of hq), _, _, rfl, rfl, rfl, _, rfl, ?_⟩
        rw [List.length_map]
        have hz : decide ((0 : Int) < ((r.pars.length : Nat) : Int)) = decide (0 < r.pars.length) := decide_eq_decide.mpr (by omega)
        refine iteN (fun e => ?_) (fun e => ?_)
        · refine ⟨rfl, ?_⟩
          have e : decide (0 < r.most) ≠ decide (0 < r.pars.length) := fun z => e (congrArg V.bl (z.trans hz.symm))
          rw [show (true && (decide (0 < r.most) == decide (0 < r.pars.length))) = false by simpa using e]
          rfl
        · refine ⟨rfl, ?_⟩
          have e : decide (0 < r.most) = decide (0 < r.pars.length) := (V.bl.inj e).trans hz
          rw [e]; simp
    rintro σ' H1 ⟨rfl, rfl⟩
    generalize hg1 : (g0 && (decide (0 < r.most) == decide (0 < r.pars.length))) = g1
    refine ⟨_, rfl, pq, _, rfl, SqT.of hq, for_enumT (K := K) (a := pq) (xs := r.pars.map V.str) (fun i σ' H2 => ∃ x8 x9, Same H1 H2 ∧ σ' = [some (.ref p), some (.ref b), some (.str r.mark), some (.ref pq), some (.int r.least), some (.int r.most), some (.bl r.sh), some (.bl (g1 && decide (r.pars.take i).Nodup)), x8, x9])
      ⟨_, _, fun _ _ h => h, by rw [List.take_zero, decide_eq_true List.nodup_nil, Bool.and_true]⟩ (fun i σ' H2 _ ⟨_, _, s2, _⟩ => SqT.of (s2 _ _ hq)) ?_ ?_⟩
    · rintro i v σ' H2 Tt hv ⟨x8, x9, s2, rfl⟩ hTt
      obtain ⟨y, hy, rfl⟩ : ∃ y, r.pars[i]? = some y ∧ v = .str y := by
        rw [List.getElem?_map] at hv
        cases e : r.pars[i]? with
        | none => rw [e] at hv; cases hv
        | some y => rw [e] at hv; exact ⟨y, rfl, (Option.some.inj hv).symm⟩
      have s3 := s2.trans (same_new (o := .tup [.int (i : Nat), .str y]) hTt)
      have hi : i < r.pars.length := (List.getElem?_eq_some_iff.mp hy).1
      have hpq : (L2.upd H2 Tt (.tup [.int (i : Nat), .str y])) pq = some (.tup (r.pars.map V.str)) := s3 _ _ hq
      refine ⟨Tt, _, rfl, .inl (.inl upd_same), rfl, _, _, rfl, _, _, rfl, rfl, ?_⟩
      refine ⟨_, rfl, _, rfl, _, rfl, _, rfl, pq, _, rfl, SqT.of hpq, ?_, fun c hc => ?_⟩
      · rw [HT.sIx_nat, List.length_map, Nat.min_eq_left (Nat.le_of_lt hi)]
        exact fun h => absurd h.2 (by omega)
      · have ct : cutV (r.pars.map V.str) none (some ((i : Nat) : Int)) = (r.pars.take i).map V.str := by rw [cut_to, List.map_take]
        refine ⟨_, _, rfl, .inr (SqT.of upd_same), rfl, by rw [ct]; exact flat_strs _, ?_⟩
        rw [ct, in_strs]
        refine ⟨_, rfl, iteD (fun k => ?_) (fun k => ?_)⟩
        · refine ⟨some (.int (i : Nat)), some (.str y), s3.trans (same_new hc), ?_⟩
          rw [decide_eq_false (p := (r.pars.take (i + 1)).Nodup) (fun n => ((nodup_take_succ hy).mp n).2 k), Bool.and_false]
          rfl
        · refine ⟨some (.int (i : Nat)), some (.str y), s3.trans (same_new hc), ?_⟩
          rw [show decide (r.pars.take (i + 1)).Nodup = decide (r.pars.take i).Nodup from decide_eq_decide.mpr ⟨fun n => ((nodup_take_succ hy).mp n).1, fun n => (nodup_take_succ hy).mpr ⟨n, k⟩⟩]
          rfl
    rintro σ' H2 ⟨x8, x9, s2, rfl⟩
    rw [List.length_map, List.take_length]
    have ef : fineB r bs = (g1 && decide r.pars.Nodup) := by unfold fineB; rw [hg0, hg1]
    have t2 := s1.trans s2
    refine ⟨_, rfl, _, rfl, ?_⟩
    rw [← ef]
    cases hf : fineB r bs with
    | false =>
      refine iteYes rfl ⟨_, rfl, _, rfl, fun d hd => ?_⟩
      exact qb hf _ d (t2.trans (same_new hd)) (t2.free hd) upd_same
    | true =>
      refine iteNo rfl ⟨_, rfl, _, rfl, _, rfl, _, rfl, _, rfl, by show 5 ≤ sizeLine; decide, fun z hz' => ?_⟩
      exact q hf z pq _ (t2.trans (same_new hz')) (t2.free hz') upd_same (same_new hz' _ _ (s2 _ _ hq))
end
end My

namespace My
open PySem L2
/-! ### marks that webs can contain -/
inductive Fert (rs : List Row) : Str → Prop
  | base {r : Row} : r ∈ rs → r.least = 0 → Fert rs r.mark
  | step {r : Row} {p : Str} : r ∈ rs → p ∈ r.pars → Fert rs p → Fert rs r.mark
abbrev RowsT (H : Hp) (vs : List V) (rs : List Row) : Prop := Paired (RowT H) vs rs
theorem RowT.same {H H' : Hp} {v : V} {r : Row} (h : RowT H v r) (s : Same H H') : RowT H' v r := let ⟨p, pp, e, a, b⟩ := h; ⟨p, pp, e, s _ _ a, s _ _ b⟩
theorem rowsT_same {H H' : Hp} {vs : List V} {rs : List Row} (h : RowsT H vs rs) (s : Same H H') : RowsT H' vs rs := L2.Paired.mapP h fun _ _ x => x.same s
theorem pair_get' {α β : Type} {F : α → β → Prop} : ∀ {l : List α} {m : List β} {i : Nat} {x : α}, Paired F l m → l[i]? = some x → ∃ y, m[i]? = some y ∧ F x y
  | _, _, _, _, .nil, e => by simp at e
  | _, _, 0, _, .cons r _, e => by simp at e; subst e; exact ⟨_, rfl, r⟩
  | _, _, i + 1, x, .cons _ t, e => by
    obtain ⟨y, h1, h2⟩ := pair_get' (i := i) (x := x) t (by simpa using e)
    exact ⟨y, by simpa using h1, h2⟩
theorem pair_len' {α β : Type} {F : α → β → Prop} : ∀ {l : List α} {m : List β}, Paired F l m → l.length = m.length
  | _, _, .nil => rfl
  | _, _, .cons _ t => by rw [List.length_cons, List.length_cons, pair_len' t]
/-- the first mark that no web can contain -/
inductive Lost (rs : List Row) : V → Prop
  | no : (∀ r ∈ rs, Fert rs r.mark) → Lost rs .non
  | yes {i : Nat} {r : Row} : rs[i]? = some r → (∀ q ∈ rs.take i, Fert rs q.mark) → ¬ Fert rs r.mark → Lost rs (.str r.mark)
def spBarren (K : PySem.W.Frag) : Sp := fun vs H Q _ => ∃ (a : Addr) (us : List V) (rs : List Row), vs = [.ref a] ∧ H a = some (.lst us) ∧ RowsT H us rs ∧ rs.length ≤ 100 ∧ (∀ r ∈ rs, small r) ∧
  ∀ v H', Same H H' → Lost rs v → Q v H'
def knB (kvs : List (Key × V)) (m : Str) : Bool := (valV kvs (.inr m)).isSome
theorem knB_put {kvs : List (Key × V)} {m n : Str} {v : V} : knB (putK kvs (.inr m) v) n = (decide (n = m) || knB kvs n) := by
  unfold knB
  rw [valV_put]
  by_cases e : n = m
  · subst e; simp
  · rw [if_neg (fun c => e (Sum.inr.inj c))]; simp [e]
def ripeB (kvs : List (Key × V)) (r : Row) : Bool := decide (r.least = 0) || r.pars.any (knB kvs)
/-- rows whose marks are not known -/
def restOf (kvs : List (Key × V)) (rs : List Row) : Nat := (rs.filter fun r => !knB kvs r.mark).length
theorem flt_lt {α : Type} {f g : α → Bool} {x : α} : ∀ {l : List α}, (∀ y ∈ l, f y = true → g y = true) → x ∈ l → f x = false → g x = true → (l.filter f).length < (l.filter g).length
  | [], _, h, _, _ => by cases h
  | a :: l, i, h, hf, hg => by
    have le : ∀ {l : List α}, (∀ y ∈ l, f y = true → g y = true) → (l.filter f).length ≤ (l.filter g).length := by
      intro l
      induction l with
      | nil => intro _; exact Nat.le_refl _
      | cons a l ih =>
        intro i
        have ih := ih fun y hy => i y (List.mem_cons_of_mem _ hy)
        have ia := i a (List.mem_cons_self ..)
        simp only [List.filter_cons]
        cases e : f a with
        | false => cases g a <;> simp <;> omega
        | true => rw [ia e]; simp; exact ih
    have il := fun y hy => i y (List.mem_cons_of_mem _ hy)
    simp only [List.filter_cons]
    rcases List.mem_cons.mp h with rfl | h
    · rw [hf, hg]
      simp only [Bool.false_eq_true, if_false, if_true, List.length_cons]
      exact Nat.lt_succ_of_le (le il)
    · have := flt_lt il h hf hg
      have ia := i a (List.mem_cons_self ..)
      cases e : f a with
      | false => cases g a <;> simp <;> omega
      | true => rw [ia e]; simp; exact this
theorem rest_put {kvs : List (Key × V)} {rs : List Row} {r : Row} {v : V} (h : r ∈ rs) (n : knB kvs r.mark = false) : restOf (putK kvs (.inr r.mark) v) rs < restOf kvs rs := by
  refine flt_lt (x := r) (fun y _ e => ?_) h ?_ ?_
  · rw [knB_put] at e
    cases k : knB kvs y.mark with
    | false => rfl
    | true => rw [k, Bool.or_true] at e; cases e
  · rw [knB_put]; simp
  · rw [n]; rfl
section
variable {K : PySem.W.Frag}
theorem any_kn {x0 x2 x3 x5 x6 x7 x8 : Option V} {d pp : Addr} {ps : List Str} {kvs : List (Key × V)} {H : Hp} {Q : VK} (hd : H d = some (.dK kvs)) (hp : H pp = some (.tup (ps.map V.str))) (hz : ps.length ≤ 1000) (q : ∀ H', Same H H' → Q (.bl (ps.any (knB kvs))) H') :
    tCB (rAny K) (tCons (tLc (iTup K (tVar 4)) (gName 7) tYes (tOp (rInKd false) (tVar 7) (tVar 1)) [7]) tNil) [x0, some (.ref d), x2, x3, some (.ref pp), x5, x6, x7, x8] H Q := by
  have big : 1000 < sizeLine := by decide
  refine ⟨_, rfl, pp, rfl, ⟨_, SqT.of hp⟩, fun D hD => lc_tup (K := K) (a := pp) (xs := ps.map V.str) (fun i H' => Same H H' ∧ H' D = some (.lst ((ps.take i).map fun y => V.bl (knB kvs y)))) ⟨same_new hD, upd_same⟩ (fun i H' _ h => SqT.of (h.1 _ _ hp)) ?_ ?_⟩
  · rintro i v H1 hv ⟨s1, hD1⟩
    rw [List.getElem?_map] at hv
    cases e : ps[i]? with
    | none => rw [e] at hv; cases hv
    | some y1 =>
      rw [e] at hv
      obtain rfl : V.str y1 = v := Option.some.inj hv
      refine ⟨rfl, ?_⟩
      unfold tYes
      refine iteT ⟨_, rfl, _, rfl, d, _, rfl, DGet.k (k := .inr y1) (s1 _ _ hd), _, hD1, ?_, same_mut s1 hD, ?_⟩
      · rw [List.length_map, List.length_take]; omega
      · rw [upd_same, List.take_succ, e]
        simp [knB]
  · rintro H1 ⟨s1, hD1⟩
    rw [List.length_map, List.take_length] at hD1
    refine ⟨D, ps.map fun y => knB kvs y, rfl, SqL.of (by rw [hD1, List.map_map]; rfl), ?_⟩
    rw [List.any_map]
    exact q H1 s1
end
theorem fert_known {rs : List Row} {kvs : List (Key × V)} (cl : ∀ r ∈ rs, knB kvs r.mark = false → ripeB kvs r = false) {m : Str} (h : Fert rs m) : knB kvs m = true := by
  induction h with
  | @base r hr e =>
    cases k : knB kvs r.mark with
    | true => rfl
    | false =>
      have := cl r hr k
      unfold ripeB at this
      rw [decide_eq_true e, Bool.true_or] at this; cases this
  | @step r p hr hp _ ih =>
    cases k : knB kvs r.mark with
    | true => rfl
    | false =>
      have := cl r hr k
      unfold ripeB at this
      rw [List.any_eq_true.mpr ⟨p, hp, ih⟩, Bool.or_true] at this; cases this
theorem ripe_fert {rs : List Row} {kvs : List (Key × V)} (so : ∀ m, knB kvs m = true → Fert rs m) {r : Row} (hr : r ∈ rs) (h : ripeB kvs r = true) : Fert rs r.mark := by
  unfold ripeB at h
  rw [Bool.or_eq_true, decide_eq_true_iff, List.any_eq_true] at h
  rcases h with h | ⟨p, hp, k⟩
  · exact .base hr h
  · exact .step hr hp (so p k)
section
variable {w : World} {K : PySem.W.Frag} {mg : Str → Option Value} {base : Heap}
theorem ok_barren (T : Txt K mg) : FnOk PP w K mg base CX0 2 T.a_barren T.fd_barren ["rows"] (spBarren K) := by
  refine T.F_barren.ok sc_barren (fun vs H Q E h => ?_) (fun cdv A outer s H vs Q E hr h => ?_)
  · obtain ⟨a, us, rs, rfl, _⟩ := h; rfl
  · obtain ⟨a, us, rs, rfl, ha, hR, hz, hsm, q⟩ := h
    refine ⟨_, (pss_cons (ps_set (i := 1) sc_barren.nd rfl (.inr rfl) (pe_dnewK))
      (pss_cons (ps_set (i := 2) sc_barren.nd rfl (.inl rfl) (pe_bl))
      (pss_cons (ps_while PassesOwn.never (pt_val (pv 2)) (pss_cons (ps_set (i := 2) sc_barren.nd rfl (.inl rfl) (pe_bl))
      (pss_one (ps_for PassesOwn.never rfl (pi_list (pv 0)) (pg_tup rfl (pgs_cons (pg_name (i := 3) sc_barren.nd rfl (.inl rfl)) (pgs_cons (pg_name (i := 4) sc_barren.nd rfl (.inl rfl)) (pgs_cons (pg_name (i := 5) sc_barren.nd rfl (.inl rfl)) (pgs_cons (pg_name (i := 6) sc_barren.nd rfl (.inl rfl)) (pgs_cons (pg_name (i := 6) sc_barren.nd rfl (.inl rfl)) pgs_nil)))))) (pss_one (ps_if (PW.pt (pw_and (pt_cmpR (op_ninKd (hu_of hr)) (pv 3) (pv 1) (by with_unfolding_all rfl)) (pw_and1 (PW.pt (pw_or (pt_cmpR op_eq (pv 5) (pe_int) (nomark _)) (pw_or1 (pt_val (pe_callB (anyK (K := K) rfl rfl) (by rfl) T.n_any (by decide +kernel) (pa_cons (pe_lc (own := [("parent", 7)]) (g := (gName 7)) (by rfl) sc_barren.nd (pi_tup (pv 4)) (blkOk_by (own := [("parent", 7)]) (N := ["rows", "known", "grown", "mark", "parents", "least", "_", "parent", "row"]) (sc := defScope S_barren) (by decide +kernel)) (fun _ _ _ _ _ => (pg_name (i := 7) sc_barren.nd rfl (by first | exact .inl rfl | exact .inr rfl))) (fun _ _ _ _ _ => pts_nil) (fun _ _ _ _ _ => (pe_cmpR (op_inKd (hu_of hr)) (pv 7) (pv 1) (by with_unfolding_all rfl)))) pa_nil))))))))) (pss_cons (ps_dput (hu_of hr) (pv 1) (pv 3) (pe_bl) rfl)
      (pss_one (ps_set (i := 2) sc_barren.nd rfl (.inl rfl) (pe_bl)))) pss_nil))))))
      (pss_cons (ps_for PassesOwn.never rfl (pi_list (pv 0)) (pg_name (i := 8) sc_barren.nd rfl (.inl rfl)) (pss_one (ps_if (pt_cmpR (op_ninKd (hu_of hr)) (pe_ix ix_tup (pv 8) (pe_int) (fun _ _ => rfl)) (pv 1) (by with_unfolding_all rfl)) (pss_one (ps_ret (pe_ix ix_tup (pv 8) (pe_int) (fun _ _ => rfl)))) pss_nil)))
      (pss_one (ps_ret (pe_non))))))), ?_⟩
    have big : 1000 < sizeLine := by decide
    refine fun d hd => ?_
    have s1 := same_new (o := .dK []) hd
    refine ⟨fun m σ H' => ∃ (kvs : List (Key × V)) (g : Bool) (x3 x4 x5 x6 x7 x8 : Option V), σ = [some (.ref a), some (.ref d), some (.bl g), x3, x4, x5, x6, x7, x8] ∧ Same H H' ∧ H' d = some (.dK kvs) ∧ m = 2 * restOf kvs rs + (if g then 1 else 0) ∧ kvs.length + restOf kvs rs ≤ rs.length ∧
      (∀ m, knB kvs m = true → Fert rs m) ∧ (g = false → ∀ r ∈ rs, knB kvs r.mark = false → ripeB kvs r = false), ⟨_, [], true, _, _, _, _, _, _, rfl, s1, upd_same, rfl, ?_, (fun m h => by cases h), (fun h => by cases h)⟩, ?_⟩
    · rw [List.length_nil, Nat.zero_add]; exact List.length_filter_le _ _
    rintro m σ H2 ⟨kvs, g, x3, x4, x5, x6, x7, x8, rfl, s2, hd2, rfl, lk, so, cl⟩
    refine ⟨_, rfl, _, rfl, ?_⟩
    cases g with
    | true =>
      refine iteT ⟨_, fun σ' H' h => h, ?_⟩
      refine ⟨_, rfl, a, rfl, ⟨_, SqL.of (s2 _ _ ha)⟩, for_list (K := K) (a := a) (xs := us) (fun i σ H' => ∃ (kv : List (Key × V)) (g : Bool) (x3 x4 x5 x6 x7 x8 : Option V), σ = [some (.ref a), some (.ref d), some (.bl g), x3, x4, x5, x6, x7, x8] ∧ Same H H' ∧ H' d = some (.dK kv) ∧ kv.length + restOf kv rs ≤ rs.length ∧
        (∀ m, knB kv m = true → Fert rs m) ∧ (g = true → restOf kv rs < restOf kvs rs) ∧ (g = false → kv = kvs ∧ ∀ r ∈ rs.take i, knB kv r.mark = false → ripeB kv r = false))
        ⟨kvs, false, _, _, _, _, _, _, rfl, s2, hd2, lk, so, (fun h => by cases h), fun _ => ⟨rfl, fun r h => by rw [List.take_zero] at h; cases h⟩⟩ (fun i σ H' _ ⟨_, _, _, _, _, _, _, _, _, s, _⟩ => SqL.of (s _ _ ha)) ?_ ?_⟩
      · rintro i v σ H3 hv ⟨kv, g, y3, y4, y5, y6, y7, y8, rfl, s3, hd3, lk3, so3, up, dn⟩
        obtain ⟨r, hr, p, pp, rfl, hp, hpp⟩ := pair_get' hR hv
        have mr : r ∈ rs := List.mem_of_getElem? hr
        have hp3 := s3 _ _ hp
        have hpp3 := s3 _ _ hpp
        refine ⟨p, _, rfl, SqT.of hp3, rfl, _, _, rfl, _, _, rfl, _, _, rfl, _, _, rfl, _, _, rfl, rfl, ?_⟩
        have stay : (knB kv r.mark = false → ripeB kv r = false) → ∀ H4, Same H3 H4 → ∀ y7, ∃ (kv' : List (Key × V)) (g' : Bool) (x3 x4 x5 x6 x7 x8 : Option V), ([some (.ref a), some (.ref d), some (.bl g), some (.str r.mark), some (.ref pp), some (.int r.least), some (.bl r.sh), y7, y8] : L2.St) = [some (.ref a), some (.ref d), some (.bl g'), x3, x4, x5, x6, x7, x8] ∧ Same H H4 ∧ H4 d = some (.dK kv') ∧ kv'.length + restOf kv' rs ≤ rs.length ∧
            (∀ m, knB kv' m = true → Fert rs m) ∧ (g' = true → restOf kv' rs < restOf kvs rs) ∧ (g' = false → kv' = kvs ∧ ∀ r ∈ rs.take (i + 1), knB kv' r.mark = false → ripeB kv' r = false) := fun no H4 s4 y7 => by
          refine ⟨kv, g, _, _, _, _, _, _, rfl, s3.trans s4, s4 _ _ hd3, lk3, so3, up, fun e => ⟨(dn e).1, fun q hq => ?_⟩⟩
          rw [List.take_succ, hr] at hq
          rcases List.mem_append.mp hq with hq | hq
          · exact (dn e).2 q hq
          · rw [List.mem_singleton.mp hq]; exact no
        have go : knB kv r.mark = false → ripeB kv r = true → ∀ H4, Same H3 H4 → ∀ y7, ∃ (kv' : List (Key × V)) (g' : Bool) (x3 x4 x5 x6 x7 x8 : Option V), ([some (.ref a), some (.ref d), some (.bl true), some (.str r.mark), some (.ref pp), some (.int r.least), some (.bl r.sh), y7, y8] : L2.St) = [some (.ref a), some (.ref d), some (.bl g'), x3, x4, x5, x6, x7, x8] ∧ Same H (upd H4 d (.dK (putK kv (.inr r.mark) (.bl true)))) ∧ (upd H4 d (.dK (putK kv (.inr r.mark) (.bl true)))) d = some (.dK kv') ∧ kv'.length + restOf kv' rs ≤ rs.length ∧
            (∀ m, knB kv' m = true → Fert rs m) ∧ (g' = true → restOf kv' rs < restOf kvs rs) ∧ (g' = false → kv' = kvs ∧ ∀ r ∈ rs.take (i + 1), knB kv' r.mark = false → ripeB kv' r = false) := fun nk rp H4 s4 y7 => by
          have lt := rest_put (v := .bl true) mr nk
          refine ⟨putK kv (.inr r.mark) (.bl true), true, _, _, _, _, _, _, rfl, same_mut (s3.trans s4) hd, upd_same, ?_, fun m hm => ?_, fun _ => ?_, fun e => by cases e⟩
          · have := length_putK kv (.inr r.mark) (.bl true); omega
          · rw [knB_put, Bool.or_eq_true, decide_eq_true_iff] at hm
            rcases hm with rfl | hm
            · exact ripe_fert so3 mr rp
            · exact so3 m hm
          · cases g with
            | true => have := up rfl; omega
            | false => have e := (dn rfl).1; subst e; exact lt
        have lz : kv.length < sizeLine := by omega
        refine ⟨_, rfl, _, rfl, d, _, rfl, DGet.k (k := .inr r.mark) hd3, _, rfl, ?_⟩
        cases nk : knB kv r.mark with
        | true => exact iteNo (by show (!knB kv r.mark) = false; rw [nk]; rfl) (stay (fun z => by rw [nk] at z; cases z) H3 (fun _ _ h => h) y7)
        | false =>
          refine iteYes (by show (!knB kv r.mark) = true; rw [nk]; rfl) ⟨_, rfl, rfl, _, rfl, ?_⟩
          refine iteD (fun c => ?_) (fun c => ?_)
          · have c : r.least = 0 := V.int.inj c
            refine iteT ?_
            refine ⟨_, rfl, _, rfl, d, _, rfl, DPut.k (k := .inr r.mark) hd3 lz, ?_⟩
            exact go nk (by unfold ripeB; rw [decide_eq_true c, Bool.true_or]) H3 (fun _ _ h => h) y7
          · have c : r.least ≠ 0 := fun z => c (by rw [z])
            refine any_kn hd3 hpp3 (by have := (hsm r mr).2; omega) fun H4 s4 => ⟨_, rfl, ?_⟩
            cases ra : r.pars.any (knB kv) with
            | true =>
              refine iteT ?_
              refine ⟨_, rfl, _, rfl, d, _, rfl, DPut.k (k := .inr r.mark) (s4 _ _ hd3) lz, ?_⟩
              exact go nk (by unfold ripeB; rw [ra, Bool.or_true]) H4 s4 y7
            | false => exact iteF (stay (fun _ => by unfold ripeB; rw [ra, decide_eq_false c]; rfl) H4 s4 y7)
      · rintro σ H3 ⟨kv, g, y3, y4, y5, y6, y7, y8, rfl, s3, hd3, lk3, so3, up, dn⟩
        rw [pair_len' hR, List.take_length] at dn
        refine ⟨_, ?_, kv, g, _, _, _, _, _, _, rfl, s3, hd3, rfl, lk3, so3, fun e => (dn e).2⟩
        cases g with
        | true => have := up rfl; simp; omega
        | false => rw [(dn rfl).1]; simp
    | false =>
      refine iteF ?_
      have cl := cl rfl
      refine ⟨_, rfl, a, rfl, ⟨_, SqL.of (s2 _ _ ha)⟩, for_list (K := K) (a := a) (xs := us) (fun i σ H' => ∃ x8, σ = [some (.ref a), some (.ref d), some (.bl false), x3, x4, x5, x6, x7, x8] ∧ H' = H2 ∧ ∀ r ∈ rs.take i, Fert rs r.mark) ⟨_, rfl, rfl, fun r h => by rw [List.take_zero] at h; cases h⟩ (fun i σ H' _ ⟨_, _, e, _⟩ => SqL.of (by rw [e]; exact s2 _ _ ha)) ?_ ?_⟩
      · rintro i v σ H3 hv ⟨y8, rfl, rfl, hf⟩
        obtain ⟨r, hr, p, pp, rfl, hp, hpp⟩ := pair_get' hR hv
        have hp3 := s2 _ _ hp
        refine ⟨_, rfl, _, _, _, _, rfl, rfl, SqT.of hp3, atI_nat (j := 0) rfl, _, rfl, d, _, rfl, DGet.k (k := .inr r.mark) hd2, _, rfl, ?_⟩
        cases nk : knB kvs r.mark with
        | true =>
          refine iteNo (by show (!knB kvs r.mark) = false; rw [nk]; rfl) ⟨_, rfl, rfl, fun q hq => ?_⟩
          rw [List.take_succ, hr] at hq
          rcases List.mem_append.mp hq with hq | hq
          · exact hf q hq
          · rw [List.mem_singleton.mp hq]; exact so _ nk
        | false =>
          refine iteYes (by show (!knB kvs r.mark) = true; rw [nk]; rfl) ⟨_, rfl, _, _, _, _, rfl, rfl, SqT.of hp3, atI_nat (j := 0) rfl, ?_⟩
          exact q _ _ s2 (.yes hr hf fun f => by have := fert_known cl f; rw [nk] at this; cases this)
      · rintro σ H3 ⟨y8, rfl, rfl, hf⟩
        rw [pair_len' hR, List.take_length] at hf
        exact q _ _ s2 (.no hf)
end
end My

namespace My
open PySem L2
/-! ### a new shape -/
def mksV (rs : List Row) : List V := rs.map fun r => .str r.mark
def mks (rs : List Row) : List Str := rs.map Row.mark
theorem mksV_eq (rs : List Row) : mksV rs = (mks rs).map V.str := by unfold mksV mks; rw [List.map_map]; rfl
def rowFine (rs : List Row) (i : Nat) : Prop := ∀ r, rs[i]? = some r → fineB r (mks (rs.take i)) = true
inductive SErr where
  | large
  | bad (m : Str)
  | unk (m : Str)
def parsOk (rs : List Row) (r : Row) : Prop := ∀ p ∈ r.pars, p ∈ mks rs
inductive Due (rs : List Row) : SErr → Prop
  | large : 6 < rs.length → Due rs .large
  | row {i : Nat} {r : Row} : rs.length ≤ 6 → rs[i]? = some r → (∀ j, j < i → rowFine rs j) → fineB r (mks (rs.take i)) = false → Due rs (.bad r.mark)
  | par {i k : Nat} {r : Row} {p : Str} : rs.length ≤ 6 → (∀ j, rowFine rs j) → rs[i]? = some r → r.pars[k]? = some p → (∀ q ∈ rs.take i, parsOk rs q) → (∀ q ∈ r.pars.take k, q ∈ mks rs) → p ∉ mks rs → Due rs (.unk p)
  | lost {i : Nat} {r : Row} : rs.length ≤ 6 → (∀ j, rowFine rs j) → (∀ q ∈ rs, parsOk rs q) → rs[i]? = some r → (∀ q ∈ rs.take i, Fert rs q.mark) → ¬ Fert rs r.mark → Due rs (.bad r.mark)
structure Good (rs : List Row) : Prop where
  len : rs.length ≤ 6
  fine : ∀ j, rowFine rs j
  pars : ∀ q ∈ rs, parsOk rs q
  fert : ∀ q ∈ rs, Fert rs q.mark
/-- what the error e is: its class and what it holds -/
def ErrIs (TL BS UM : Addr) : SErr → Addr → V → Str → Prop
  | .large, c, v, f => c = TL ∧ v = .int 6 ∧ f = "most"
  | .bad m, c, v, f => c = BS ∧ v = .str m ∧ f = "mark"
  | .unk m, c, v, f => c = UM ∧ v = .str m ∧ f = "mark"
/-- a shape at x -/
def ShO (C : Addr) (H : Hp) (x : Addr) (rs : List Row) : Prop := ∃ dx l m vs, H x = some (.ins C dx [("_listed", .ref l), ("_marks", .ref m)]) ∧ H l = some (.lst vs) ∧ RowsT H vs rs ∧ H m = some (.lst (mksV rs))
theorem ShO.same {C : Addr} {H H' : Hp} {x : Addr} {rs : List Row} (h : ShO C H x rs) (s : Same H H') : ShO C H' x rs := by
  obtain ⟨dx, l, m, vs, a, b, c, d⟩ := h
  exact ⟨dx, l, m, vs, s _ _ a, s _ _ b, rowsT_same c s, s _ _ d⟩
/-- a shape whose lists stand at addresses of F -/
def ShN (F : Addr → Prop) (C : Addr) (H : Hp) (x : Addr) (rs : List Row) : Prop := ∃ dx l m vs, F l ∧ F m ∧ H x = some (.ins C dx [("_listed", .ref l), ("_marks", .ref m)]) ∧ H l = some (.lst vs) ∧ RowsT H vs rs ∧ H m = some (.lst (mksV rs))
theorem ShN.sh {F : Addr → Prop} {C : Addr} {H : Hp} {x : Addr} {rs : List Row} (h : ShN F C H x rs) : ShO C H x rs := let ⟨dx, l, m, vs, _, _, e⟩ := h; ⟨dx, l, m, vs, e⟩
theorem ShN.sub {F G : Addr → Prop} {C : Addr} {H : Hp} {x : Addr} {rs : List Row} (h : ShN F C H x rs) (i : ∀ a, F a → G a) : ShN G C H x rs := let ⟨dx, l, m, vs, a, b, e⟩ := h; ⟨dx, l, m, vs, i _ a, i _ b, e⟩
theorem RowV.same {H H' : Hp} {v : V} {r : Row} (h : RowV H v r) (s : Same H H') : RowV H' v r := by
  obtain ⟨p, pp, e, a, b⟩ := h
  exact ⟨p, pp, e, a.imp (s _ _) (s _ _), b.imp (s _ _) (s _ _)⟩
theorem rowsV_same {H H' : Hp} {vs : List V} {rs : List Row} (h : Paired (RowV H) vs rs) (s : Same H H') : Paired (RowV H') vs rs := L2.Paired.mapP h fun _ _ x => x.same s
theorem RowT.keep {H H' : Hp} {v : V} {r : Row} (h : RowT H v r) (s : ∀ a xs, H a = some (.tup xs) → H' a = some (.tup xs)) : RowT H' v r := let ⟨p, pp, e, a, b⟩ := h; ⟨p, pp, e, s _ _ a, s _ _ b⟩
theorem rowsT_keep {H H' : Hp} {vs : List V} {rs : List Row} (h : RowsT H vs rs) (s : ∀ a xs, H a = some (.tup xs) → H' a = some (.tup xs)) : RowsT H' vs rs := L2.Paired.mapP h fun _ _ x => x.keep s
theorem keep_lst {H : Hp} {l : Addr} {vs ws : List V} (h : H l = some (.lst vs)) : ∀ a xs, H a = some (.tup xs) → (upd H l (.lst ws)) a = some (.tup xs) := fun a xs e => by rw [upd_ne (fun z => by rw [z, h] at e; cases e)]; exact e
theorem rowL_seq {K : PySem.W.Frag} {H : Hp} {p pp : Addr} {r : Row} {i : Int} {v : V} {Q : VK} (h : H p = some (.tup (rowL r pp)) ∨ H p = some (.lst (rowL r pp))) (e : atI (rowL r pp) i = some v) (q : Q v H) : rIx K (.ref p) (.int i) H Q := by
  rcases h with h | h
  · exact .inr (.inl ⟨_, _, _, _, rfl, rfl, SqT.of h, e, q⟩)
  · exact .inl ⟨_, _, _, _, rfl, rfl, SqL.of h, e, q⟩
theorem pair_app' {α β : Type} {F : α → β → Prop} : ∀ {l l' : List α} {m m' : List β}, Paired F l m → Paired F l' m' → Paired F (l ++ l') (m ++ m')
  | _, _, _, _, .nil, q => q
  | _, _, _, _, .cons r t, q => .cons r (pair_app' t q)
def spShInit (C TL BS UM : Addr) : Sp := fun vs H Q E => ∃ (x dx p : Addr) (us : List V) (rs : List Row), vs = [.ref x, .ref p] ∧ H x = some (.ins C dx []) ∧ H p = some (.tup us) ∧ Paired (RowV H) us rs ∧ us.length ≤ 100 ∧ (∀ r ∈ rs, small r) ∧
  (Good rs → ∀ H', But x H H' → ShN (fun a => H a = none) C H' x rs → Q .non H') ∧
  (∀ e c v f, Due rs e → ErrIs TL BS UM e c v f → ∀ H' d, Same H H' → H d = none → H' d = some (.xd [(f, v)]) → E (.ref c) (some d) H')
theorem make_sh {C TL BS UM : Addr} {H : Hp} {us : List V} {rs : List Row} {Q : VK} {E : XK} (hs : Paired (RowV H) us rs) (hl : us.length ≤ 100) (hsm : ∀ r ∈ rs, small r) (q : Good rs → ∀ x H', Same H H' → H x = none → ShN (fun a => H a = none) C H' x rs → Q (.ref x) H')
    (qe : ∀ e c v f, Due rs e → ErrIs TL BS UM e c v f → ∀ H' d, Same H H' → H d = none → H' d = some (.xd [(f, v)]) → E (.ref c) (some d) H') :
    ∀ x dx, H x = none → H dx = none → dx ≠ x → spStar 1 (spShInit C TL BS UM) (.ref x :: us) (upd (upd H dx (.own x)) x (.ins C dx [])) (fun v H2 => v = .non ∧ Q (.ref x) H2) E := fun x dx nx nd _ => by
  have s1 : Same H (upd (upd H dx (.own x)) x (.ins C dx [])) := fun y o h => by rw [upd_ne (ne_of_none h nx), upd_ne (ne_of_none h nd)]; exact h
  refine ⟨[.ref x], us, rfl, rfl, Nat.le_trans hl (by decide), fun p np => ?_⟩
  have s2 := s1.trans (same_new (o := .tup us) np)
  refine ⟨x, dx, p, us, rs, rfl, same_new np _ _ upd_same, upd_same, rowsV_same hs s2, hl, hsm, fun g H' b sh => ⟨rfl, q g x H' (fun y o h => b y o (ne_of_none h nx) (s2 _ _ h)) nx (sh.sub fun a h => s2.free h)⟩, fun e c v f du er H' d s' nd' hd => qe e c v f du er H' d (s2.trans s') (s2.free nd') hd⟩
section
variable {w : World} {K : PySem.W.Frag} {mg : Str → Option Value} {base : Heap}
theorem ok_Shape_init (T : Txt K mg) : FnR PP w K mg base (L2.CX PP w) 5 T.a_Shape_init (spStar 1 (spShInit T.c_Shape T.c_TooLarge T.c_BadShape T.c_UnknownMark)) := by
  refine Fun.starX (k := 4) (ps := ["self"]) T.F_Shape_init sc_Shape_init T.bs_Shape_init fun cdv A outer s H vs Q E hr h => ?_
  obtain ⟨x, dx, p, us, rs, rfl, hx, hp, hs, hl, hsm, q, qe⟩ := h
  refine ⟨_, (pss_cons (ps_if (pt_cmpR op_gt (pe_callB call_len_seq (by rfl) T.n_len (by decide +kernel) (pa_cons (pv 1) pa_nil)) (ClX.pe_cval (pe_glob (v := .ref T.c_Shape) (by rfl) T.g_Shape rfl)) (nomark _)) (pss_one (ps_raiseX rfl T.x_TooLarge hr (takes_of rfl rfl rfl rfl) (pa_cons (ClX.pe_cval (pe_glob (v := .ref T.c_Shape) (by rfl) T.g_Shape rfl)) pa_nil))) pss_nil)
      (pss_cons (ps_set (i := 2) sc_Shape_init.nd rfl (.inl rfl) (pe_lst pa_nil))
      (pss_cons (ps_set (i := 3) sc_Shape_init.nd rfl (.inl rfl) (pe_lst pa_nil))
      (pss_cons (ps_for (passes_of rfl) rfl (pi_tup (pv 1)) (pg_name (i := 4) sc_Shape_init.nd rfl (.inl rfl)) (pss_cons (ps_expr (pe_bm PySem.F.plainAttrs_list PySem.F.slot_list_append PySem.F.type_list_append mt_append (pv 2) (pa_cons (pe_call (ok_sound_row T) (hr.mono (by omega)) (by rfl) T.g_sound_row T.F_sound_row.kp T.b_sound_row .nil (passes_call (takes_of rfl rfl rfl rfl) (fun _ _ _ _ h => h)) (pa_cons (pv 4) (pa_cons (pv 3) pa_nil))) pa_nil)))
      (pss_one (ps_expr (pe_bm PySem.F.plainAttrs_list PySem.F.slot_list_append PySem.F.type_list_append mt_append (pv 3) (pa_cons (pe_ix ix_seq (pv 4) (pe_int) (fun _ _ => rfl)) pa_nil))))))
      (pss_cons (ps_for (passes_of rfl) rfl (pi_list (pv 2)) (pg_name (i := 4) sc_Shape_init.nd rfl (.inl rfl)) (pss_one (ps_for (passes_of rfl) rfl (pi_tup (pe_ix ix_seq (pv 4) (pe_int) (fun _ _ => rfl))) (pg_name (i := 5) sc_Shape_init.nd rfl (.inl rfl)) (pss_one (ps_if (pt_cmpR op_notIn_seq (pv 5) (pv 3) (by with_unfolding_all rfl)) (pss_one (ps_raiseX rfl T.x_UnknownMark hr (takes_of rfl rfl rfl rfl) (pa_cons (pv 5) pa_nil))) pss_nil)))))
      (pss_cons (ps_set (i := 6) sc_Shape_init.nd rfl (.inl rfl) (pe_call (ok_barren T) (hr.mono (by omega)) (by rfl) T.g_barren T.F_barren.kp T.b_barren .nil pass0 (pa_cons (pv 2) pa_nil)))
      (pss_cons (ps_if (pt_cmpR op_notN (pv 6) (pe_non) (nomark _)) (pss_one (ps_raiseX rfl T.x_BadShape hr (takes_of rfl rfl rfl rfl) (pa_cons (pv 6) pa_nil))) pss_nil)
      (pss_cons (ps_fld (pv 0) (pv 2) rfl)
      (pss_one (ps_fld (pv 0) (pv 3) rfl)))))))))), ?_⟩
  have big : 1000 < sizeLine := by decide
  have lr := pair_len' hs
  refine ⟨_, rfl, p, us, rfl, .inr (SqT.of hp), _, _, _, _, rfl, T.cr_Shape, T.cv_Shape_MARKS, _, _, rfl, rfl, _, rfl, iteD (fun c => ?_) (fun c => ?_)⟩
  · refine ⟨_, _, _, _, rfl, T.cr_Shape, T.cv_Shape_MARKS, _, rfl, fun d hd => ?_⟩
    exact qe .large _ _ _ (.large (by omega)) ⟨rfl, rfl, rfl⟩ _ d (same_new hd) hd upd_same
  have l6 : rs.length ≤ 6 := by omega
  refine ⟨Nat.zero_le _, fun l hl0 => ⟨Nat.zero_le _, fun m hm0' => ?_⟩⟩
  have s0 := same_new (o := .lst []) hl0
  have hm0 : H m = none := s0.free hm0'
  have nlm : l ≠ m := fun z => by rw [← z, upd_same] at hm0'; cases hm0'
  have s1 := s0.trans (same_new (o := .lst []) hm0')
  refine ⟨_, rfl, p, rfl, ⟨_, SqT.of (s1 _ _ hp)⟩, for_tup (K := K) (a := p) (xs := us) (fun i σ H' => ∃ (x4 x5 : Option V) (vs' : List V), σ = [some (.ref x), some (.ref p), some (.ref l), some (.ref m), x4, x5, none] ∧ Same H H' ∧ H' l = some (.lst vs') ∧ H' m = some (.lst (mksV (rs.take i))) ∧ RowsT H' vs' (rs.take i) ∧ ∀ j, j < i → rowFine rs j)
    ⟨_, _, [], rfl, s1, by rw [upd_ne nlm]; exact upd_same, upd_same, .nil, fun j h => absurd h (Nat.not_lt_zero _)⟩ (fun i σ H' _ ⟨_, _, _, _, s, _⟩ => SqT.of (s _ _ hp)) ?_ ?_⟩
  · rintro i v σ H1 hv ⟨x4, x5, vs', rfl, s1, hl1, hm1, rt, fi⟩
    obtain ⟨r, hr, hV⟩ := pair_get' hs hv
    have mr : r ∈ rs := List.mem_of_getElem? hr
    have hi := (List.getElem?_eq_some_iff.mp hr).1
    obtain ⟨p0, pp0, rfl, hp0, hpp0⟩ := id (hV.same s1)
    have lv : vs'.length = i := by rw [pair_len' rt, List.length_take]; omega
    refine ⟨_, rfl, .inl ⟨rfl, _, SqL.of hl1⟩, _, rfl, _, rfl, _, _, r, mks (rs.take i), rfl, hV.same s1, by rw [hm1, mksV_eq], hsm r mr, fun gd pq pp H2 s2 npq hpq hpp => ?_, fun bd H2 d s2 nd hd => ?_⟩
    · have hl2 := s2 _ _ hl1
      refine ⟨_, _, _, rfl, rfl, hl2, by omega, ?_⟩
      have npl : pq ≠ l := (ne_of_none hl1 npq).symm
      have t2 := s1.trans s2
      have s3 : Same H (upd H2 l (.lst (vs' ++ [.ref pq]))) := same_mut t2 hl0
      have k3 := keep_lst (ws := vs' ++ [.ref pq]) hl2
      have hm3 : (upd H2 l (.lst (vs' ++ [.ref pq]))) m = some (.lst (mksV (rs.take i))) := by rw [upd_ne nlm.symm]; exact s2 _ _ hm1
      have k4 := keep_lst (ws := mksV (rs.take i) ++ [.str r.mark]) hm3
      refine ⟨_, rfl, .inl ⟨rfl, _, SqL.of hm3⟩, _, rfl, rowL_seq (hp0.imp (fun h => k3 _ _ (s2 _ _ h)) (fun h => ?_)) rfl ?_⟩
      · have n0 : p0 ≠ l := fun z => by
          obtain ⟨w0, _, e0, h0, _⟩ := hV
          obtain rfl : p0 = w0 := V.ref.inj e0
          rcases h0 with h0 | h0
          · rw [z, hl0] at h0; cases h0
          · rw [z, hl0] at h0; cases h0
        rw [upd_ne n0]; exact s2 _ _ h
      · refine ⟨_, _, _, rfl, rfl, hm3, by unfold mksV; rw [List.length_map, List.length_take]; omega, ?_⟩
        refine ⟨_, _, vs' ++ [.ref pq], rfl, same_mut s3 hm0, by rw [upd_ne nlm]; exact upd_same, ?_, ?_, fun j hj => ?_⟩
        · rw [upd_same, List.take_succ, hr]; unfold mksV; rw [List.map_append]; rfl
        · rw [List.take_succ, hr]
          exact pair_app' (rowsT_keep rt fun a xs e => k4 _ _ (k3 _ _ (s2 _ _ e))) (.cons ⟨pq, pp, rfl, k4 _ _ (k3 _ _ hpq), k4 _ _ (k3 _ _ hpp)⟩ .nil)
        · by_cases e : j = i
          · subst e
            intro r' hr'
            rw [hr] at hr'
            exact Option.some.inj hr' ▸ gd
          · exact fi j (by omega)
    · exact qe _ _ _ _ (.row l6 hr fi bd) ⟨rfl, rfl, rfl⟩ H2 d (s1.trans s2) (s1.free nd) hd
  rintro σ H1 ⟨x4, x5, vs', rfl, s1, hl1, hm1, rt, fi⟩
  rw [lr, List.take_length] at hm1 rt
  have fi : ∀ j, rowFine rs j := fun j => by
    by_cases c : j < rs.length
    · exact fi j (by omega)
    · intro r hr
      rw [List.getElem?_eq_none (by omega)] at hr; cases hr
  refine ⟨_, rfl, l, rfl, ⟨_, SqL.of hl1⟩, for_list (K := K) (a := l) (xs := vs') (fun i σ H' => ∃ (x4 x5 : Option V), σ = [some (.ref x), some (.ref p), some (.ref l), some (.ref m), x4, x5, none] ∧ H' = H1 ∧ ∀ q ∈ rs.take i, parsOk rs q)
    ⟨_, _, rfl, rfl, fun q h => by rw [List.take_zero] at h; cases h⟩ (fun i σ H' _ ⟨_, _, _, e, _⟩ => SqL.of (by rw [e]; exact hl1)) ?_ ?_⟩
  · rintro i v σ H2 hv ⟨x4, x5, rfl, rfl, po⟩
    obtain ⟨r, hr, p0, pp0, rfl, hp0, hpp0⟩ := pair_get' rt hv
    refine ⟨_, rfl, rowL_seq (.inl hp0) rfl ⟨pp0, rfl, ⟨_, SqT.of hpp0⟩, for_tup (K := K) (a := pp0) (xs := r.pars.map V.str) (fun k σ H' => ∃ (x5 : Option V), σ = [some (.ref x), some (.ref p), some (.ref l), some (.ref m), some (.ref p0), x5, none] ∧ H' = H2 ∧ ∀ q ∈ r.pars.take k, q ∈ mks rs)
      ⟨_, rfl, rfl, fun q h => by rw [List.take_zero] at h; cases h⟩ (fun i σ H' _ ⟨_, _, e, _⟩ => SqT.of (by rw [e]; exact hpp0)) ?_ ?_⟩⟩
    · rintro k v σ H3 hk ⟨x5, rfl, rfl, pk⟩
      obtain ⟨y, hy, rfl⟩ : ∃ y, r.pars[k]? = some y ∧ v = .str y := by
        rw [List.getElem?_map] at hk
        cases e : r.pars[k]? with
        | none => rw [e] at hk; cases hk
        | some y => rw [e] at hk; exact ⟨y, rfl, (Option.some.inj hk).symm⟩
      refine ⟨_, rfl, _, rfl, _, _, rfl, .inl (SqL.of hm1), rfl, by rw [mksV_eq]; exact flat_strs _, ?_⟩
      rw [mksV_eq, in_strs]
      refine ⟨_, rfl, iteN (fun c => ?_) (fun c => ?_)⟩
      · refine ⟨_, rfl, _, rfl, fun d hd => ?_⟩
        exact qe (.unk y) _ _ _ (.par l6 fi hr hy po pk c) ⟨rfl, rfl, rfl⟩ _ d (s1.trans (same_new hd)) (s1.free hd) upd_same
      · refine ⟨_, rfl, rfl, fun q hq => ?_⟩
        rw [List.take_succ, hy] at hq
        rcases List.mem_append.mp hq with hq | hq
        · exact pk q hq
        · rw [List.mem_singleton.mp hq]; exact c
    · rintro σ H3 ⟨x5, rfl, rfl, pk⟩
      rw [List.length_map, List.take_length] at pk
      refine ⟨_, _, rfl, rfl, fun q hq => ?_⟩
      rw [List.take_succ, hr] at hq
      rcases List.mem_append.mp hq with hq | hq
      · exact po q hq
      · rw [List.mem_singleton.mp hq]; exact pk
  rintro σ H2 ⟨x4, x5, rfl, rfl, po⟩
  rw [pair_len' rt, List.take_length] at po
  refine ⟨_, rfl, l, vs', rs, rfl, hl1, rt, by omega, hsm, fun v H3 s3 lo => ?_⟩
  have t3 := s1.trans s3
  cases lo with
  | @yes i r hr hf nf =>
    refine ⟨_, rfl, rfl, _, rfl, iteYes rfl ⟨_, rfl, _, rfl, fun d hd => ?_⟩⟩
    exact qe _ _ _ _ (.lost l6 fi po hr hf nf) ⟨rfl, rfl, rfl⟩ _ d (t3.trans (same_new hd)) (t3.free hd) upd_same
  | no hf =>
    refine ⟨_, rfl, rfl, _, rfl, iteNo rfl ?_⟩
    have hx3 := t3 _ _ hx
    refine ⟨_, rfl, _, rfl, x, _, dx, _, rfl, hx3, T.cl_Shape, T.no_Shape__listed, by show 0 < 1000; decide, ?_⟩
    refine ⟨_, rfl, _, rfl, x, _, dx, _, rfl, upd_same, T.cl_Shape, T.no_Shape__marks, by show 1 < 1000; decide, ?_⟩
    have nx : ∀ {a : Addr} {ws : List V}, H3 a = some (.lst ws) → a ≠ x := fun h z => by rw [z, hx3] at h; cases h
    have hl3 := s3 _ _ hl1
    have hm3 := s3 _ _ hm1
    refine q ⟨l6, fi, po, hf⟩ _ (fun y o n h => by rw [upd_ne n, upd_ne n]; exact t3 _ _ h) ⟨dx, l, m, vs', hl0, hm0, upd_same, ?_, ?_, ?_⟩
    · rw [upd_ne (nx hl3), upd_ne (nx hl3)]; exact hl3
    · refine rowsT_keep (rowsT_same rt s3) fun a xs e => ?_
      have n : a ≠ x := fun z => by rw [z, hx3] at e; cases e
      rw [upd_ne n, upd_ne n]; exact e
    · rw [upd_ne (nx hm3), upd_ne (nx hm3)]; exact hm3
end
end My

namespace My
open PySem L2
/-! ### what shapes answer -/
def rowD (r : Row) : PyData := .tuple [.str r.mark, .tuple (r.pars.map .str), .int r.least, .int r.most, .bool r.sh]
theorem eqv_strs : ∀ a b : List Str, PyData.eqvAll (a.map .str) (b.map .str) = decide (a = b)
  | [], [] => by simp [PyData.eqvAll]
  | [], _ :: _ => by simp [PyData.eqvAll]
  | _ :: _, [] => by simp [PyData.eqvAll]
  | x :: a, y :: b => by
    simp only [List.map_cons, PyData.eqvAll, PyData.eqv, eqv_strs a b]
    rw [Bool.eq_iff_iff, Bool.and_eq_true, beq_iff_eq, decide_eq_true_iff, decide_eq_true_iff]
    simp
theorem eqv_row (a b : Row) : PyData.eqv (rowD a) (rowD b) = decide (a = b) := by
  unfold rowD
  simp only [PyData.eqv, PyData.eqvAll, eqv_strs, Bool.and_true]
  rw [Bool.eq_iff_iff]
  simp only [Bool.and_eq_true, beq_iff_eq, decide_eq_true_iff]
  cases a; cases b
  simp
theorem eqv_rows : ∀ a b : List Row, PyData.eqvAll (a.map rowD) (b.map rowD) = decide (a = b)
  | [], [] => by simp [PyData.eqvAll]
  | [], _ :: _ => by simp [PyData.eqvAll]
  | _ :: _, [] => by simp [PyData.eqvAll]
  | x :: a, y :: b => by
    simp only [List.map_cons, PyData.eqvAll, eqv_row, eqv_rows a b]
    rw [Bool.eq_iff_iff, Bool.and_eq_true, decide_eq_true_iff, decide_eq_true_iff, decide_eq_true_iff]
    simp
theorem strOk_mk {z : Str} (h : isMk z = true) : PyData.strOk z = true := by
  unfold isMk at h
  rw [Bool.and_eq_true, List.all_eq_true] at h
  unfold PyData.strOk
  rw [← Array.all_toList, List.all_eq_true]
  intro c hc
  have := of_decide_eq_true (h.2 c hc)
  exact decide_eq_true (by omega)
theorem canLay_strs : ∀ {l : List Str}, (∀ z ∈ l, PyData.strOk z = true) → PyData.canLayAll0 (l.map .str) = true
  | [], _ => rfl
  | z :: l, h => by rw [List.map_cons, PyData.canLayAll0, PyData.canLay0, h z (by simp), canLay_strs fun y hy => h y (by simp [hy])]; rfl
theorem depth_strs : ∀ l : List Str, PyData.depthAll (l.map .str) = 0
  | [] => rfl
  | z :: l => by rw [List.map_cons, PyData.depthAll, depth_strs l]; rfl
/-- rows whose words are marks -/
def wordsOk (rs : List Row) : Prop := ∀ r ∈ rs, PyData.strOk r.mark = true ∧ ∀ p ∈ r.pars, PyData.strOk p = true
theorem Good.words {rs : List Row} (h : Good rs) : wordsOk rs := by
  have mk : ∀ r ∈ rs, isMk r.mark = true := fun r hr => by
    obtain ⟨j, hj⟩ := List.mem_iff_getElem?.mp hr
    have := h.fine j r hj
    unfold fineB at this
    simp only [Bool.and_eq_true] at this
    exact this.1.1.1
  intro r hr
  refine ⟨strOk_mk (mk r hr), fun p hp => ?_⟩
  obtain ⟨q, hq, rfl⟩ := List.mem_map.mp (h.pars r hr p hp)
  exact strOk_mk (mk q hq)
theorem row_lay {r : Row} (h : PyData.strOk r.mark = true ∧ ∀ p ∈ r.pars, PyData.strOk p = true) : PyData.canLay0 (rowD r) = true := by
  unfold rowD
  simp [PyData.canLay0, PyData.canLayAll0, h.1, canLay_strs h.2]
theorem rows_shaped {rs : List Row} (h : wordsOk rs) : SeqAt.shaped (.list (rs.map rowD)) = true := by
  have h1 : ∀ l : List Row, wordsOk l → PyData.canLayAll0 (l.map rowD) = true := fun l => by
    induction l with
    | nil => intro _; rfl
    | cons a r ih => intro q; rw [List.map_cons, PyData.canLayAll0, row_lay (q a (by simp)), ih fun s hs => q s (by simp [hs])]; rfl
  have h2 : ∀ l : List Row, PyData.depthAll (l.map rowD) ≤ 4 := fun l => by
    induction l with
    | nil => exact Nat.zero_le _
    | cons a r ih =>
      rw [List.map_cons, PyData.depthAll]
      have : PyData.depth (rowD a) ≤ 4 := by unfold rowD; simp [PyData.depth, PyData.depthAll, depth_strs]
      omega
  unfold SeqAt.shaped
  rw [PyData.canLay0, h1 rs h, PyData.depth, Bool.true_and, decide_eq_true_iff]
  have := h2 rs
  omega
theorem strsDp {K : PySem.W.Frag} {H : Hp} : ∀ l : List Str, DpAll K H (l.map V.str) (l.map .str)
  | [] => .nil
  | z :: l => .cons (.str _) (strsDp l)
theorem rowDp {K : PySem.W.Frag} {H : Hp} {v : V} {r : Row} (h : RowT H v r) : Dp K H v (rowD r) := by
  obtain ⟨p, pp, rfl, hp, hpp⟩ := h
  exact .tup (SqT.of hp) (.cons (.str _) (.cons (.tup (SqT.of hpp) (strsDp _)) (.cons (.int _) (.cons (.int _) (.cons (.bl _) .nil)))))
theorem rowsDp {K : PySem.W.Frag} {H : Hp} : ∀ {vs : List V} {rs : List Row}, RowsT H vs rs → DpAll K H vs (rs.map rowD)
  | _, _, .nil => .nil
  | _, _, .cons h t => .cons (rowDp h) (rowsDp t)
def findR (rs : List Row) (z : Str) : Option Row := rs.find? fun r => decide (r.mark = z)
theorem findR_at {rs : List Row} {z : Str} {i : Nat} {r : Row} (h : rs[i]? = some r) (e : r.mark = z) (n : ∀ q ∈ rs.take i, q.mark ≠ z) : findR rs z = some r := by
  unfold findR
  have e1 : rs = rs.take i ++ r :: rs.drop (i + 1) := by
    obtain ⟨h1, h2⟩ := List.getElem?_eq_some_iff.mp h
    rw [← h2, ← List.drop_eq_getElem_cons h1, List.take_append_drop]
  rw [e1, List.find?_append, List.find?_eq_none.mpr (by intro q hq; simpa using n q hq)]
  simp [List.find?_cons, e]
theorem findR_no {rs : List Row} {z : Str} (n : ∀ q ∈ rs, q.mark ≠ z) : findR rs z = none := List.find?_eq_none.mpr (by intro q hq; simpa using n q hq)
theorem findR_mem {rs : List Row} {z : Str} {r : Row} (h : findR rs z = some r) : r ∈ rs ∧ r.mark = z := ⟨List.mem_of_find?_eq_some h, by simpa using List.find?_some h⟩
/-- an error of the class X with the word z -/
abbrev ErrS (X : Addr) (f : Str) (v : V) (H : Hp) (E : XK) : Prop := ∀ H' d, Same H H' → H d = none → H' d = some (.xd [(f, v)]) → E (.ref X) (some d) H'
def spShGet (C X : Addr) : Sp := fun vs H Q E => ∃ (x : Addr) (z : Str) (rs : List Row), vs = [.ref x, .str z] ∧ ShO C H x rs ∧
  (∀ r p pp, findR rs z = some r → H p = some (.tup (rowL r pp)) → H pp = some (.tup (r.pars.map V.str)) → Q (.ref p) H) ∧ (findR rs z = none → ErrS X "mark" (.str z) H E)
def spShLen (C : Addr) : Sp := fun vs H Q _ => ∃ (x : Addr) (rs : List Row), vs = [.ref x] ∧ ShO C H x rs ∧ Q (.int rs.length) H
def spShHas (C : Addr) : Sp := fun vs H Q _ => ∃ (x : Addr) (z : Str) (rs : List Row), vs = [.ref x, .str z] ∧ ShO C H x rs ∧ Q (.bl (decide (z ∈ mks rs))) H
def spShEq (C : Addr) : Sp := fun vs H Q _ => ∃ (x y : Addr) (rs ts : List Row), vs = [.ref x, .ref y] ∧ ShO C H x rs ∧ ShO C H y ts ∧ wordsOk rs ∧ wordsOk ts ∧ Q (.bl (decide (rs = ts))) H
def spShMarks (C : Addr) : Sp := fun vs H Q _ => ∃ (x : Addr) (rs : List Row), vs = [.ref x] ∧ ShO C H x rs ∧ ∀ t H', Same H H' → H t = none → H' t = some (.tup (mksV rs)) → Q (.ref t) H'
def spShExc (C : Addr) : Sp := fun vs H Q _ => ∃ (x : Addr) (rs : List Row), vs = [.ref x] ∧ ShO C H x rs ∧ Q (.bl (!rs.any (·.sh))) H
def widthOf (rs : List Row) : Int := rs.foldl (fun (a : Int) (r : Row) => if a < r.most then r.most else a) 1
def spShWidth (C : Addr) : Sp := fun vs H Q _ => ∃ (x : Addr) (rs : List Row), vs = [.ref x] ∧ ShO C H x rs ∧ Q (.int (widthOf rs)) H
def modesV (sh : Bool) : List V := if sh then [.str "own", .str "share"] else [.str "own"]
/-- a tuple that was made, or a constant -/
def TupC (K : PySem.W.Frag) (H : Hp) (t : Addr) (xs : List V) : Prop := H t = some (.tup xs) ∨ ∀ H', SqT K H' t xs
theorem TupC.sq {K : PySem.W.Frag} {H : Hp} {t : Addr} {xs : List V} (h : TupC K H t xs) : SqT K H t xs := h.elim SqT.of fun h => h H
theorem TupC.same {K : PySem.W.Frag} {H H' : Hp} {t : Addr} {xs : List V} (h : TupC K H t xs) (s : Same H H') : TupC K H' t xs := h.imp (s _ _) id
def spShModes (K : PySem.W.Frag) (C X : Addr) : Sp := fun vs H Q E => ∃ (x : Addr) (z : Str) (rs : List Row), vs = [.ref x, .str z] ∧ ShO C H x rs ∧
  (∀ r t H', findR rs z = some r → Same H H' → TupC K H' t (modesV r.sh) → Q (.ref t) H') ∧ (findR rs z = none → ErrS X "mark" (.str z) H E)
theorem sh_look1 (l m : Addr) : List.lookup ("_listed" : Str) [(("_listed" : Str), V.ref l), ("_marks", V.ref m)] = some (V.ref l) := rfl
theorem sh_look2 (l m : Addr) : List.lookup ("_marks" : Str) [(("_listed" : Str), V.ref l), ("_marks", V.ref m)] = some (V.ref m) := rfl
section
variable {w : World} {K : PySem.W.Frag} {mg : Str → Option Value} {base : Heap}
theorem ok_Shape_getitem (T : Txt K mg) : FnOk PP w K mg base (L2.CX PP w) 2 T.a_Shape_getitem T.fd_Shape_getitem ["self", "mark"] (spShGet T.c_Shape T.c_UnknownMark) := by
  refine T.F_Shape_getitem.okX sc_Shape_getitem (fun vs H Q E h => ?_) (fun cdv A outer s H vs Q E hr h => ?_)
  · obtain ⟨x, z, rs, rfl, _⟩ := h; rfl
  · obtain ⟨x, z, rs, rfl, ⟨dx, l, m, us, hx, hl, hs, hm⟩, q, qx⟩ := h
    refine ⟨_, (pss_cons (ps_for (passes_of rfl) rfl (pi_list (pe_fld (pv 0) rfl)) (pg_name (i := 2) sc_Shape_getitem.nd rfl (.inl rfl)) (pss_one (ps_if (pt_cmpR op_eq (pe_ix ix_tup (pv 2) (pe_int) (fun _ _ => rfl)) (pv 1) (nomark _)) (pss_one (ps_ret (pv 2))) pss_nil)))
      (pss_one (ps_raiseX rfl T.x_UnknownMark hr (takes_of rfl rfl rfl rfl) (pa_cons (pv 1) pa_nil)))), ?_⟩
    refine ⟨_, rfl, x, _, dx, _, _, rfl, hx, T.cl_Shape, T.no_Shape__listed, sh_look1 l m, l, rfl, ⟨_, SqL.of hl⟩, for_list (K := K) (a := l) (xs := us) (fun i σ H' => ∃ x2, σ = [some (.ref x), some (.str z), x2] ∧ H' = H ∧ ∀ q ∈ rs.take i, q.mark ≠ z) ⟨_, rfl, rfl, fun q h => by rw [List.take_zero] at h; cases h⟩ (fun i σ H' _ ⟨_, _, e, _⟩ => e ▸ SqL.of hl) ?_ ?_⟩
    · rintro i v σ H2 hv ⟨x1, rfl, rfl, nb⟩
      obtain ⟨r, hr, p, pp, rfl, hp, hpp⟩ := pair_get' hs hv
      refine ⟨_, rfl, _, _, _, _, rfl, rfl, SqT.of hp, atI_nat (j := 0) rfl, _, rfl, rfl, _, rfl, iteD (fun c => ?_) (fun c => ?_)⟩
      · exact ⟨_, rfl, q r p pp (findR_at hr (V.str.inj c) nb) hp hpp⟩
      · refine ⟨_, rfl, rfl, fun t ht => ?_⟩
        rw [List.take_succ, hr] at ht
        rcases List.mem_append.mp ht with ht | ht
        · exact nb t ht
        · rw [List.mem_singleton.mp ht]; exact fun e => c (by rw [e])
    · rintro σ H2 ⟨x1, rfl, rfl, nb⟩
      rw [pair_len' hs, List.take_length] at nb
      exact ⟨_, rfl, _, rfl, fun d hd => qx (findR_no nb) _ d (same_new hd) hd upd_same⟩
theorem ok_Shape_modes_of (T : Txt K mg) : FnOk PP w K mg base (L2.CX PP w) 4 T.a_Shape_modes_of T.fd_Shape_modes_of ["self", "mark"] (spShModes K T.c_Shape T.c_UnknownMark) := by
  refine T.F_Shape_modes_of.okX sc_Shape_modes_of (fun vs H Q E h => ?_) (fun cdv A outer s H vs Q E hr h => ?_)
  · obtain ⟨x, z, rs, rfl, _⟩ := h; rfl
  · obtain ⟨x, z, rs, rfl, hS, q, qx⟩ := h
    obtain ⟨dx, l, m, us, hx, _⟩ := id hS
    refine ⟨_, (pss_cons (ps_if (pt_val (pe_ix ix_tup (pe_getI T.m_Shape_getitem T.fi_Shape_getitem (ok_Shape_getitem T) (hr.mono (by omega)) T.b_Shape_getitem (passes_call (takes_of rfl rfl rfl rfl) (fun _ _ _ _ h => h)) (pv 0) (pv 1)) (pe_int) (fun _ _ => rfl))) (pss_one (ps_ret (pe_glob (v := .ref T.k_MODES) (by rfl) T.g_MODES rfl))) pss_nil)
      (pss_one (ps_ret (pe_slice sl_tup (pe_glob (v := .ref T.k_MODES) (by rfl) T.g_MODES rfl) po_none (po_some (pe_int)))))), ?_⟩
    refine ⟨_, rfl, _, rfl, x, _, _, rfl, hx, x, z, rs, rfl, hS, fun r p pp hf hp hpp => ?_, qx⟩
    refine ⟨_, _, _, _, rfl, rfl, SqT.of hp, atI_nat (j := 4) rfl, _, rfl, ?_⟩
    cases e : r.sh with
    | true =>
      refine iteT (q r _ H hf (fun _ _ h => h) ?_)
      rw [e]
      exact .inr T.q_MODES
    | false =>
      refine iteF ⟨_, rfl, T.k_MODES, _, rfl, T.q_MODES _, by decide, fun c hc => q r _ _ hf (same_new hc) ?_⟩
      rw [e]
      exact .inl upd_same
end
end My

namespace My
open PySem L2
/-! ### drawn marks -/
def spLMarks (K : PySem.W.Frag) : Sp := fun vs H Q _ => ∃ (d t : Addr) (n : Nat), vs = [.ref d, .ref t, .int n] ∧ Dr K H d t ∧ n ≤ 26 ∧
  ∀ (ms : List Str) p H', ms.length = n → ms.Nodup → (∀ m ∈ ms, isMk m = true) → Dr K H' d t → But t H H' → H p = none → H' p = some (.lst (ms.map V.str)) → Q (.ref p) H'
theorem joinL_nil : ∀ ls : List (List Nat), TL.joinL [] ls = ls.flatten
  | [] => rfl
  | [p] => by simp [TL.joinL]
  | p :: q :: r => by
    have := joinL_nil (q :: r)
    rw [TL.joinL, this]; simp
theorem letters_tl : ("abcdefghijklmnopqrstuvwxyz" : Str).cps.toList = (List.range 26).map (97 + ·) := by decide +kernel
theorem letter_at {i : Int} (h0 : 0 ≤ i) (h1 : i < 26) : atI ("abcdefghijklmnopqrstuvwxyz" : Str).cps.toList i = some (97 + i.toNat) := by
  obtain ⟨j, rfl⟩ := Int.eq_ofNat_of_zero_le h0
  refine atI_nat ?_
  rw [letters_tl, List.getElem?_map, List.getElem?_range (by omega)]
  rfl
def letS (i : Int) : Str := ⟨#[97 + i.toNat]⟩
theorem tl_letS (i : Int) : TL.tl (letS i) = [97 + i.toNat] := rfl
def restS (f : Int) (z : Nat) : Str := Txt.join "" ((List.range z).map fun j => letS ((f + 3 * (j : Nat)) % 26))
theorem tl_restS (f : Int) (z : Nat) : TL.tl (restS f z) = (List.range z).map fun j => 97 + ((f + 3 * (j : Nat)) % 26).toNat := by
  unfold restS
  rw [TL.join_eq, TL.tl_join, show TL.tl ("" : Str) = [] by decide +kernel, joinL_nil, List.map_map, ← List.flatMap_def]
  induction z with
  | zero => rfl
  | succ z ih => rw [List.range_succ, List.flatMap_append, ih, List.map_append]; rfl
theorem isMk_of {m : Str} (h1 : 1 ≤ (TL.tl m).length) (h8 : (TL.tl m).length ≤ 8) (ha : ∀ c ∈ TL.tl m, 97 ≤ c ∧ c ≤ 122) : isMk m = true := by
  unfold isMk
  rw [TL.len_tl, decide_eq_true ⟨h1, h8⟩, Bool.true_and, List.all_eq_true]
  exact fun c hc => decide_eq_true (ha c hc)
theorem let_ok (i : Int) : 97 ≤ 97 + (i % 26).toNat ∧ 97 + (i % 26).toNat ≤ 122 := by
  have := Int.emod_lt_of_pos i (show (0 : Int) < 26 by decide)
  have := Int.emod_nonneg i (show (26 : Int) ≠ 0 by decide)
  omega
theorem rest_ok {f : Int} {z c : Nat} (h : c ∈ TL.tl (restS f z)) : 97 ≤ c ∧ c ≤ 122 := by
  rw [tl_restS] at h
  obtain ⟨j, _, rfl⟩ := List.mem_map.mp h
  exact let_ok _
theorem rest_len (f : Int) (z : Nat) : (TL.tl (restS f z)).length = z := by rw [tl_restS, List.length_map, List.length_range]
theorem sum_let (f : Int) (z : Nat) : (((List.range z).map fun j => letS ((f + 3 * ((j : Nat) : Int)) % 26)).map (·.length)).sum = z := by
  induction z with
  | zero => rfl
  | succ z ih =>
    rw [List.range_succ, List.map_append, List.map_append, List.sum_append, ih]
    rfl
def sgn (sh : Int) (j : Nat) : Nat := 97 + ((sh + 5 * (j : Nat)) % 26).toNat
def keyOf (front : Bool) (m : Str) : Option Nat := if front then (TL.tl m).head? else (TL.tl m).getLast?
theorem key_nodup {front : Bool} {sh : Int} {ms : List Str} (hz : ms.length ≤ 26) (h : ∀ j m, ms[j]? = some m → keyOf front m = some (sgn sh j)) : ms.Nodup := by
  refine List.pairwise_iff_getElem.mpr fun i j hi hj hij e => ?_
  have e1 := h i _ (List.getElem?_eq_getElem hi)
  have e2 := h j _ (List.getElem?_eq_getElem hj)
  rw [e, e2] at e1
  have e1 := Option.some.inj e1
  unfold sgn at e1
  omega
section
variable {P : Program} {w : World} {K : PySem.W.Frag} {mg : Str → Option Value} {base : Heap}
theorem ok__law_marks (T : Txt K mg) : FnOk P w K mg base CX0 2 T.a__law_marks T.fd__law_marks ["_law_draws_here", "_law_at", "_law_count"] (spLMarks K) := by
  refine T.F__law_marks.ok sc__law_marks (fun vs H Q E h => ?_) (fun cdv A outer s H vs Q E hr h => ?_)
  · obtain ⟨d, t, n, rfl, _⟩ := h; rfl
  · obtain ⟨d, t, n, rfl, D0, hn, q⟩ := h
    refine ⟨_, (pss_cons (ps_set (i := 3) sc__law_marks.nd rfl (.inr rfl) (pe_str))
      (pss_cons (ps_set (i := 4) sc__law_marks.nd rfl (.inl rfl) (pe_call (ok__law_take T) (hr.mono (by omega)) (by rfl) T.g__law_take T.F__law_take.kp T.b__law_take .nil pass0 (pa_cons (pv 0) (pa_cons (pv 1) (pa_cons (pe_int) pa_nil)))))
      (pss_cons (ps_set (i := 5) sc__law_marks.nd rfl (.inl rfl) (pe_cmpR op_eq (pe_call (ok__law_take T) (hr.mono (by omega)) (by rfl) T.g__law_take T.F__law_take.kp T.b__law_take .nil pass0 (pa_cons (pv 0) (pa_cons (pv 1) (pa_cons (pe_int) pa_nil)))) (pe_int) (nomark _)))
      (pss_cons (ps_set (i := 6) sc__law_marks.nd rfl (.inl rfl) (pe_lst pa_nil))
      (pss_cons (ps_for PassesOwn.never rfl (pi_range1 (by rfl) T.n_range (pa_cons (pv 2) pa_nil)) (pg_name (i := 7) sc__law_marks.nd rfl (.inl rfl)) (pss_cons (ps_set (i := 8) sc__law_marks.nd rfl (.inl rfl) (pe_ix ix_list (pe_lst (pa_cons (pe_int) (pa_cons (pe_int) (pa_cons (pe_int) (pa_cons (pe_int) (pa_cons (pe_int) pa_nil)))))) (pe_call (ok__law_take T) (hr.mono (by omega)) (by rfl) T.g__law_take T.F__law_take.kp T.b__law_take .nil pass0 (pa_cons (pv 0) (pa_cons (pv 1) (pa_cons (pe_int) pa_nil)))) (fun _ _ => rfl)))
      (pss_cons (ps_set (i := 9) sc__law_marks.nd rfl (.inr rfl) (pe_call (ok__law_take T) (hr.mono (by omega)) (by rfl) T.g__law_take T.F__law_take.kp T.b__law_take .nil pass0 (pa_cons (pv 0) (pa_cons (pv 1) (pa_cons (pe_int) pa_nil)))))
      (pss_cons (ps_set (i := 10) sc__law_marks.nd rfl (.inl rfl) (pe_join (pe_str) (pe_lc (own := [("_law_j", 11)]) (g := (gName 11)) (by rfl) sc__law_marks.nd (pi_range1 (by rfl) T.n_range (pa_cons (pv 8) pa_nil)) (blkOk_by (own := [("_law_j", 11)]) (N := ["_law_draws_here", "_law_at", "_law_count", "_law_letters", "_law_shift", "_law_front", "_law_marks_here", "_law_k", "_law_size", "_law_first", "_law_rest", "_law_j", "_law_sign"]) (sc := defScope S__law_marks) (by decide +kernel)) (fun _ _ _ _ _ => (pg_name (i := 11) sc__law_marks.nd rfl (by first | exact .inl rfl | exact .inr rfl))) (fun _ _ _ _ _ => pts_nil) (fun _ _ _ _ _ => (pe_ix ix_str (pv 3) (pe_op op_mod (pe_op op_add (pv 9) (pe_op op_mul (pe_int) (pv 11))) (pe_int)) (fun _ _ => rfl))))))
      (pss_cons (ps_set (i := 12) sc__law_marks.nd rfl (.inl rfl) (pe_ix ix_str (pv 3) (pe_op op_mod (pe_op op_add (pv 4) (pe_op op_mul (pe_int) (pv 7))) (pe_int)) (fun _ _ => rfl)))
      (pss_one (ps_if (pt_val (pv 5)) (pss_one (ps_expr (pe_bm PySem.F.plainAttrs_list PySem.F.slot_list_append PySem.F.type_list_append mt_append (pv 6) (pa_cons (pe_op op_add_str (pv 12) (pv 10)) pa_nil)))) (pss_one (ps_expr (pe_bm PySem.F.plainAttrs_list PySem.F.slot_list_append PySem.F.type_list_append mt_append (pv 6) (pa_cons (pe_op op_add_str (pv 10) (pv 12)) pa_nil)))))))))))
      (pss_one (ps_ret (pv 6)))))))), ?_⟩
    have big : 100000 < sizeLine := by decide
    refine ⟨_, rfl, _, rfl, d, t, 26, rfl, D0, by decide, fun sh H1 h0 h1 D1 b1 => ?_⟩
    refine ⟨_, rfl, _, rfl, d, t, 2, rfl, D1, by decide, fun fr H2 _ _ D2 b2 => ⟨rfl, ?_⟩⟩
    generalize decide (V.int fr = V.int 1) = front
    refine ⟨Nat.zero_le _, fun l hl => ?_⟩
    have nlt : l ≠ t := D2.na hl
    have b2 := b1.trans b2
    have hl0 : H l = none := b2.free nlt hl
    have s3 := same_new (o := .lst []) hl
    refine ⟨_, rfl, _, rfl, by omega, by omega, for_range (lo := 0) (n := n) (fun k σ H' => ∃ (ms : List Str) (x7 x8 x9 x10 x11 x12 : Option V), σ = [some (.ref d), some (.ref t), some (.int n), some (.str "abcdefghijklmnopqrstuvwxyz"), some (.int sh), some (.bl front), some (.ref l), x7, x8, x9, x10, x11, x12] ∧ Dr K H' d t ∧ But t H H' ∧ H' l = some (.lst (ms.map V.str)) ∧ ms.length = k ∧
        ∀ j m, ms[j]? = some m → isMk m = true ∧ keyOf front m = some (sgn sh j))
      ⟨[], _, _, _, _, _, _, rfl, D2.same s3, b2.trans (But.of_same s3), upd_same, rfl, fun j m h => by simp at h⟩ ?_ ?_⟩
    · rintro k σ H3 hk ⟨ms, x7, x8, x9, x10, x11, x12, rfl, D3, b3, hl3, lk, hms⟩
      rw [Int.zero_add]
      refine ⟨by show 5 ≤ sizeLine; decide, fun m hm => ?_⟩
      have nmt : m ≠ t := D3.na hm
      have s4 := same_new (o := .lst [.int 0, .int 1, .int 2, .int 4, .int 7]) hm
      refine ⟨_, rfl, _, rfl, d, t, 5, rfl, D3.same s4, by decide, fun r H4 r0 r1 D4 b4 => ?_⟩
      obtain ⟨v, hv, mv⟩ := at_ok (xs := [.int 0, .int 1, .int 2, .int 4, .int 7]) r0 r1
      obtain ⟨z, rfl, hz⟩ : ∃ z : Nat, v = .int z ∧ z ≤ 7 := by
        simp only [List.mem_cons, List.not_mem_nil, or_false] at mv
        rcases mv with rfl | rfl | rfl | rfl | rfl
        · exact ⟨0, rfl, by decide⟩
        · exact ⟨1, rfl, by decide⟩
        · exact ⟨2, rfl, by decide⟩
        · exact ⟨4, rfl, by decide⟩
        · exact ⟨7, rfl, by decide⟩
      refine ⟨_, _, _, _, rfl, rfl, SqL.of (b4 _ _ nmt upd_same), hv, ?_⟩
      refine ⟨_, rfl, _, rfl, d, t, 26, rfl, D4, by decide, fun f H5 f0 f1 D5 b5 => ?_⟩
      have t5 : But t H H5 := ((b3.trans (But.of_same s4)).trans b4).trans b5
      have hl5 := b5 _ _ nlt (b4 _ _ nlt (s4 _ _ hl3))
      refine ⟨⟨_, rfl⟩, _, rfl, _, rfl, by omega, by omega, fun D hD => lc_range (lo := 0) (n := z) (fun i H' => Same H5 H' ∧ H' D = some (.lst (((List.range i).map fun j => letS ((f + 3 * (j : Nat)) % 26)).map V.str))) ⟨same_new hD, upd_same⟩ ?_ ?_⟩
      · rintro i H6 hi ⟨s6, h6⟩
        rw [Int.zero_add]
        refine ⟨rfl, ?_⟩
        unfold tYes
        refine iteT ⟨_, rfl, _, rfl, _, rfl, _, _, rfl, rfl, .inl ⟨by decide, by decide⟩, _, _, rfl, rfl, _, _, rfl, rfl, (show (0 : Int) < 26 by decide), _, _, _, rfl, rfl, by decide +kernel, letter_at (Int.emod_nonneg _ (by decide)) (Int.emod_lt_of_pos _ (by decide)), ?_⟩
        refine ⟨_, h6, by simp; omega, same_mut s6 hD, ?_⟩
        rw [upd_same, List.range_succ, List.map_append, List.map_append]; rfl
      · rintro H6 ⟨s6, h6⟩
        refine ⟨_, D, _, rfl, rfl, .inl (SqL.of h6), ?_, ?_⟩
        · rw [sum_let, List.length_map, List.length_range, show ("" : Str).length = 0 by decide +kernel]; omega
        show (fun _ => _) _
        refine ⟨_, rfl, _, rfl, _, rfl, _, _, rfl, rfl, .inl ⟨by decide, by decide⟩, _, _, rfl, rfl, _, _, rfl, rfl, (show (0 : Int) < 26 by decide), _, _, _, rfl, rfl, by decide +kernel, letter_at (Int.emod_nonneg _ (by decide)) (Int.emod_lt_of_pos _ (by decide)), ?_⟩
        have hl6 := s6 _ _ hl5
        have t6 := t5.trans (But.of_same s6)
        have D6 := D5.same s6
        have rl := rest_len f z
        have keep : ∀ m : Str, (isMk m = true ∧ keyOf front m = some (sgn sh k)) → ∀ j m', (ms ++ [m])[j]? = some m' → isMk m' = true ∧ keyOf front m' = some (sgn sh j) := fun m hm j m' h => by
          by_cases c : j < ms.length
          · rw [List.getElem?_append_left c] at h; exact hms j m' h
          · rw [List.getElem?_append_right (by omega)] at h
            obtain ⟨h1, h2⟩ := List.getElem?_eq_some_iff.mp h
            have h1 : j - ms.length < 1 := h1
            obtain rfl : j = k := by omega
            have e0 : j - ms.length = 0 := by omega
            rw [e0] at h
            exact Option.some.inj h ▸ hm
        refine ⟨_, rfl, _, rfl, ?_⟩
        cases front with
        | true =>
          refine iteT ⟨_, rfl, .inl ⟨rfl, _, SqL.of hl6⟩, _, rfl, _, rfl, _, _, rfl, rfl, ?_, _, _, _, rfl, rfl, hl6, by rw [List.length_map]; omega, ?_⟩
          · rw [TL.len_tl, TL.len_tl]; show 1 + _ ≤ _; rw [show TL.tl (Txt.join "" ((List.range z).map fun j => letS ((f + 3 * ((j : Nat) : Int)) % 26))) = TL.tl (restS f z) from rfl, rl]; omega
          · refine ⟨ms ++ [letS ((sh + 5 * (k : Nat)) % 26) ++ restS f z], _, _, _, _, _, _, rfl, D6.other But.upd (D0.nd hl0) nlt.symm, t6.mut hl0, by rw [upd_same, List.map_append]; rfl, by rw [List.length_append, lk]; rfl, keep _ ⟨isMk_of ?_ ?_ ?_, ?_⟩⟩
            · rw [TL.tl_append, List.length_append]; show 1 ≤ 1 + _; omega
            · rw [TL.tl_append, List.length_append, rl]; show 1 + _ ≤ _; omega
            · intro c hc
              rw [TL.tl_append] at hc
              rcases List.mem_append.mp hc with hc | hc
              · rw [List.mem_singleton.mp hc]; exact let_ok _
              · exact rest_ok hc
            · unfold keyOf; rw [TL.tl_append]; rfl
        | false =>
          refine iteF ⟨_, rfl, .inl ⟨rfl, _, SqL.of hl6⟩, _, rfl, _, rfl, _, _, rfl, rfl, ?_, _, _, _, rfl, rfl, hl6, by rw [List.length_map]; omega, ?_⟩
          · rw [TL.len_tl, TL.len_tl]; show _ + 1 ≤ _; rw [show TL.tl (Txt.join "" ((List.range z).map fun j => letS ((f + 3 * ((j : Nat) : Int)) % 26))) = TL.tl (restS f z) from rfl, rl]; omega
          · refine ⟨ms ++ [restS f z ++ letS ((sh + 5 * (k : Nat)) % 26)], _, _, _, _, _, _, rfl, D6.other But.upd (D0.nd hl0) nlt.symm, t6.mut hl0, by rw [upd_same, List.map_append]; rfl, by rw [List.length_append, lk]; rfl, keep _ ⟨isMk_of ?_ ?_ ?_, ?_⟩⟩
            · rw [TL.tl_append, List.length_append]; show 1 ≤ _ + 1; omega
            · rw [TL.tl_append, List.length_append, rl]; show _ + 1 ≤ _; omega
            · intro c hc
              rw [TL.tl_append] at hc
              rcases List.mem_append.mp hc with hc | hc
              · exact rest_ok hc
              · rw [List.mem_singleton.mp hc]; exact let_ok _
            · unfold keyOf; rw [TL.tl_append]; exact List.getLast?_concat
    · rintro σ H3 ⟨ms, x7, x8, x9, x10, x11, x12, rfl, D3, b3, hl3, lk, hms⟩
      refine ⟨_, rfl, q ms l H3 lk (key_nodup (by omega) fun j m h => (hms j m h).2) (fun m hm => ?_) D3 b3 hl0 hl3⟩
      obtain ⟨j, hj⟩ := List.mem_iff_getElem?.mp hm
      exact (hms j m hj).1
end
end My

namespace My
open PySem L2
/-! ### all but what A holds stays -/
def Le (A : List Addr) (H H' : Hp) : Prop := ∀ b o, b ∉ A → H b = some o → H' b = some o
theorem Le.refl (A : List Addr) (H : Hp) : Le A H H := fun _ _ _ h => h
theorem Le.trans {A : List Addr} {H H1 H2 : Hp} (x : Le A H H1) (y : Le A H1 H2) : Le A H H2 := fun b o n h => y b o n (x b o n h)
theorem Le.same {A : List Addr} {H H' : Hp} (s : Same H H') : Le A H H' := fun b o _ h => s b o h
theorem Le.but {A : List Addr} {t : Addr} {H H' : Hp} (m : t ∈ A) (b : But t H H') : Le A H H' := fun a o n h => b a o (fun z => n (z ▸ m)) h
theorem Le.upd {A : List Addr} {H : Hp} {p : Addr} {o : HO} (m : p ∈ A) : Le A H (upd H p o) := fun a u n e => by rw [upd_ne (show a ≠ p from fun q => n (by rw [q]; exact m))]; exact e
theorem Le.put {A : List Addr} {H H' : Hp} {p : Addr} {o : HO} (x : Le A H H') (h : H p = none) : Le A H (L2.upd H' p o) := fun a u n e => by rw [upd_ne (ne_of_none e h)]; exact x a u n e
/-- the addresses of A are taken -/
def Al (A : List Addr) (H : Hp) : Prop := ∀ a ∈ A, ∃ o, H a = some o
theorem Al.nin {A : List Addr} {H : Hp} (h : Al A H) {p : Addr} (n : H p = none) : p ∉ A := fun m => by obtain ⟨o, e⟩ := h p m; rw [n] at e; cases e
theorem Al.same {A : List Addr} {H H' : Hp} (h : Al A H) (s : Same H H') : Al A H' := fun a m => (h a m).elim fun o e => ⟨o, s _ _ e⟩
/-! ### drawn rows of a shape -/
structure PRow where
  idx : Int
  pars : List Int
  least : Int
  most : Int
  sh : Bool
def prL (r : PRow) (pp : Addr) : List V := [.int r.idx, .ref pp, .int r.least, .int r.most, .bl r.sh]
def PrV (A : List Addr) (H : Hp) (v : V) (r : PRow) : Prop := ∃ p pp, v = .ref p ∧ p ∉ A ∧ pp ∉ A ∧ H p = some (.lst (prL r pp)) ∧ H pp = some (.lst (r.pars.map V.int))
theorem PrV.le {A : List Addr} {H H' : Hp} {v : V} {r : PRow} (h : PrV A H v r) (l : Le A H H') : PrV A H' v r := let ⟨p, pp, e, a, b, c, d⟩ := h; ⟨p, pp, e, a, b, l _ _ a c, l _ _ b d⟩
theorem PrV.sub {A B : List Addr} {H : Hp} {v : V} {r : PRow} (h : PrV A H v r) (s : ∀ a ∈ B, a ∈ A) : PrV B H v r := let ⟨p, pp, e, a, b, c, d⟩ := h; ⟨p, pp, e, fun m => a (s _ m), fun m => b (s _ m), c, d⟩
def listOk (n : Nat) (js : List Int) : Prop := js.Nodup ∧ ∀ j ∈ js, 0 ≤ j ∧ j < n
structure PrOk (n k : Nat) (r : PRow) : Prop where
  idx : r.idx = k
  pars : listOk n r.pars
  l0 : 0 ≤ r.least
  lm : r.least ≤ r.most
  m4 : r.most ≤ 4
  pm : 0 < r.most ↔ r.pars ≠ []
  low : r.least ≠ 0 → ∃ j ∈ r.pars, j < (k : Int)
def PlanOk (n : Nat) (prs : List PRow) : Prop := prs.length = n ∧ ∀ k r, prs[k]? = some r → PrOk n k r
def spLPlan (K : PySem.W.Frag) : Sp := fun vs H Q _ => ∃ (d t : Addr) (n : Nat), vs = [.ref d, .ref t, .int n] ∧ Dr K H d t ∧ n ≤ 26 ∧
  ∀ (prs : List PRow) us p H', PlanOk n prs → Dr K H' d t → But t H H' → H p = none → H' p = some (.lst us) → Paired (PrV [t] H') us prs → Q (.ref p) H'
theorem lst_len {n : Nat} {js : List Int} (h : listOk n js) : js.length ≤ n := by
  have nd : (js.map Int.toNat).Nodup := by
    refine List.pairwise_map.mpr (List.Pairwise.imp_of_mem (fun {a b} ha hb ne e => ne ?_) h.1)
    have := h.2 a ha; have := h.2 b hb; omega
  have sub : ∀ x ∈ js.map Int.toNat, x ∈ List.range n := fun x hx => by
    obtain ⟨j, hj, rfl⟩ := List.mem_map.mp hx
    have := h.2 j hj
    exact List.mem_range.mpr (by omega)
  have := List.Nodup.length_le_of_subset nd sub
  rwa [List.length_map, List.length_range] at this
section
variable {P : Program} {w : World} {K : PySem.W.Frag} {mg : Str → Option Value} {base : Heap}
end
end My

namespace My
open PySem L2
/-! ### rows of a shape with names, as lists or tuples, at addresses of F -/
def seqO (b : Bool) (xs : List V) : HO := if b then .lst xs else .tup xs
def RowN (F : Addr → Prop) (b : Bool) (H : Hp) (v : V) (r : Row) : Prop := ∃ p pp, v = .ref p ∧ F p ∧ F pp ∧ H p = some (seqO b (rowL r pp)) ∧ H pp = some (seqO b (r.pars.map V.str))
abbrev RowsN (F : Addr → Prop) (b : Bool) (H : Hp) (vs : List V) (rs : List Row) : Prop := Paired (RowN F b H) vs rs
theorem RowN.le {F : Addr → Prop} {b : Bool} {H H' : Hp} {v : V} {r : Row} (h : RowN F b H v r) (l : ∀ a o, F a → H a = some o → H' a = some o) : RowN F b H' v r := let ⟨p, pp, e, f, g, x, y⟩ := h; ⟨p, pp, e, f, g, l _ _ f x, l _ _ g y⟩
theorem RowN.sub {F G : Addr → Prop} {b : Bool} {H : Hp} {v : V} {r : Row} (h : RowN F b H v r) (l : ∀ a, F a → G a) : RowN G b H v r := let ⟨p, pp, e, f, g, x, y⟩ := h; ⟨p, pp, e, l _ f, l _ g, x, y⟩
theorem rowsN_le {F : Addr → Prop} {b : Bool} {H H' : Hp} {vs : List V} {rs : List Row} (h : RowsN F b H vs rs) (l : ∀ a o, F a → H a = some o → H' a = some o) : RowsN F b H' vs rs := L2.Paired.mapP h fun _ _ x => x.le l
theorem rowsN_same {F : Addr → Prop} {b : Bool} {H H' : Hp} {vs : List V} {rs : List Row} (h : RowsN F b H vs rs) (s : Same H H') : RowsN F b H' vs rs := rowsN_le h fun a o _ e => s a o e
theorem rowsN_sub {F G : Addr → Prop} {b : Bool} {H : Hp} {vs : List V} {rs : List Row} (h : RowsN F b H vs rs) (l : ∀ a, F a → G a) : RowsN G b H vs rs := L2.Paired.mapP h fun _ _ x => x.sub l
theorem RowN.toV {F : Addr → Prop} {b : Bool} {H : Hp} {v : V} {r : Row} (h : RowN F b H v r) : RowV H v r := by
  obtain ⟨p, pp, e, _, _, x, y⟩ := h
  cases b with
  | true => exact ⟨p, pp, e, .inr x, .inr y⟩
  | false => exact ⟨p, pp, e, .inl x, .inl y⟩
theorem rowsN_toV {F : Addr → Prop} {b : Bool} {H : Hp} {vs : List V} {rs : List Row} (h : RowsN F b H vs rs) : Paired (RowV H) vs rs := L2.Paired.mapP h fun _ _ x => x.toV
abbrev New (H0 : Hp) : Addr → Prop := fun a => H0 a = none
def nm (ms : List Str) (i : Int) : Str := ms.getD i.toNat ""
def nameR (ms : List Str) (r : PRow) : Row := ⟨nm ms r.idx, r.pars.map (nm ms), r.least, r.most, r.sh⟩
def spLNamed (K : PySem.W.Frag) : Sp := fun vs H Q _ => ∃ (a b : Addr) (us : List V) (prs : List PRow) (n : Nat) (ms : List Str), vs = [.ref a, .ref b] ∧ H a = some (.lst us) ∧ Paired (PrV [] H) us prs ∧ PlanOk n prs ∧ n ≤ ms.length ∧ n ≤ 26 ∧ H b = some (.lst (ms.map V.str)) ∧
  ∀ p ws H', Same H H' → H p = none → H' p = some (.lst ws) → RowsN (New H) true H' ws (prs.map (nameR ms)) → Q (.ref p) H'
def spLHanded (K : PySem.W.Frag) : Sp := fun vs H Q _ => ∃ (a : Addr) (b : Bool) (us : List V) (rs : List Row), vs = [.ref a, .bl b] ∧ H a = some (.lst us) ∧ RowsN (fun _ => True) true H us rs ∧ us.length ≤ 100 ∧
  ∀ p ws H', Same H H' → H p = none → H' p = some (.lst ws) → RowsN (fun a => H a = none ∧ a ≠ p) b H' ws rs → Q (.ref p) H'
def spLWidth (K : PySem.W.Frag) : Sp := fun vs H Q _ => ∃ (a : Addr) (us : List V) (rs : List Row), vs = [.ref a] ∧ H a = some (.lst us) ∧ RowsN (fun _ => True) true H us rs ∧ Q (.int (widthOf rs)) H
theorem nm_at {ms : List Str} {i : Int} (h0 : 0 ≤ i) (h1 : i < ms.length) : atI (ms.map V.str) i = some (.str (nm ms i)) := by
  obtain ⟨j, rfl⟩ := Int.eq_ofNat_of_zero_le h0
  refine atI_nat ?_
  have hj : j < ms.length := by omega
  unfold nm
  rw [List.getElem?_map, List.getElem?_eq_getElem hj, List.getD_eq_getElem?_getD, Int.toNat_natCast, List.getElem?_eq_getElem hj]
  rfl
theorem named_in {K : PySem.W.Frag} {x0 x3 : Option V} {b p pp : Addr} {xs : List V} {js : List Int} {ms : List Str} {H : Hp} {Q : VK} (hb : H b = some (.lst (ms.map V.str))) (hp : H p = some (.lst xs)) (hx : atI xs 1 = some (.ref pp)) (hpp : H pp = some (.lst (js.map V.int))) (hz : js.length ≤ 1000) (hj : ∀ j ∈ js, 0 ≤ j ∧ j < ms.length)
    (q : ∀ D H', Same H H' → H D = none → H' D = some (.lst ((js.map (nm ms)).map V.str)) → Q (.ref D) H') :
    tLc (iList K (tOp (rIxL K) (tVar 2) (tC (.int 1)))) (gName 3) tYes (tOp (rIxL K) (tVar 1) (tVar 3)) [3] [x0, some (.ref b), some (.ref p), x3] H Q := by
  have big : 100000 < sizeLine := by decide
  refine ⟨_, rfl, _, _, _, _, rfl, rfl, SqL.of hp, hx, pp, rfl, ⟨_, SqL.of hpp⟩, fun E hE => lc_list (K := K) (a := pp) (xs := js.map V.int) (fun i H' => Same H H' ∧ H' E = some (.lst (((js.take i).map (nm ms)).map V.str))) ⟨same_new hE, upd_same⟩ (fun i H' _ h => SqL.of (h.1 _ _ hpp)) ?_ ?_⟩
  · rintro i v H2 hv ⟨s2, h2⟩
    obtain ⟨z, hz', rfl⟩ := get_int hv
    have zok := hj z (List.mem_of_getElem? hz')
    refine ⟨rfl, ?_⟩
    unfold tYes
    refine iteT ⟨_, rfl, _, rfl, _, _, _, _, rfl, rfl, SqL.of (s2 _ _ hb), nm_at zok.1 zok.2, _, h2, ?_, same_mut s2 hE, ?_⟩
    · rw [List.length_map, List.length_map, List.length_take]; omega
    · rw [upd_same, List.take_succ, hz', List.map_append, List.map_append]; rfl
  · rintro H2 ⟨s2, h2⟩
    rw [List.length_map, List.take_length] at h2
    exact q E H2 s2 hE h2
section
variable {P : Program} {w : World} {K : PySem.W.Frag} {mg : Str → Option Value} {base : Heap}
end
end My

namespace My
open PySem L2
/-! ### good shapes, changed -/
def rowOk (r : Row) : Prop := isMk r.mark = true ∧ sizeB r = true ∧ (decide (0 < r.most) == decide (0 < r.pars.length)) = true ∧ r.pars.Nodup
theorem fineB_iff {r : Row} {bs : List Str} : fineB r bs = true ↔ rowOk r ∧ r.mark ∉ bs := by
  unfold fineB rowOk
  simp only [Bool.and_eq_true, Bool.not_eq_true', decide_eq_false_iff_not, decide_eq_true_iff]
  constructor
  · rintro ⟨⟨⟨a, b, c⟩, d⟩, e⟩; exact ⟨⟨a, c, d, e⟩, b⟩
  · rintro ⟨⟨a, c, d, e⟩, b⟩; exact ⟨⟨⟨a, b, c⟩, d⟩, e⟩
theorem nodup_take {l : List Str} : l.Nodup ↔ ∀ (j : Nat) (x : Str), l[j]? = some x → x ∉ l.take j := by
  constructor
  · intro h j x hx m
    obtain ⟨i, hi, e⟩ := List.getElem_of_mem m
    rw [List.length_take] at hi
    rw [List.getElem_take] at e
    obtain ⟨hj, e2⟩ := List.getElem?_eq_some_iff.mp hx
    exact List.pairwise_iff_getElem.mp h i j (by omega) hj (by omega) (e.trans e2.symm)
  · intro h
    refine List.pairwise_iff_getElem.mpr fun i j hi hj hij e => h j _ (List.getElem?_eq_getElem hj) ?_
    rw [← e]
    exact List.mem_iff_getElem.mpr ⟨i, by rw [List.length_take]; omega, by rw [List.getElem_take]⟩
structure GoodC (rs : List Row) : Prop where
  len : rs.length ≤ 6
  nd : (mks rs).Nodup
  row : ∀ r ∈ rs, rowOk r
  pars : ∀ q ∈ rs, parsOk rs q
  fert : ∀ q ∈ rs, Fert rs q.mark
theorem mks_take (rs : List Row) (j : Nat) : mks (rs.take j) = (mks rs).take j := List.map_take ..
theorem Good.c {rs : List Row} (g : Good rs) : GoodC rs := by
  refine ⟨g.len, nodup_take.mpr fun j x hx m => ?_, fun r hr => ?_, g.pars, g.fert⟩
  · unfold mks at hx
    rw [List.getElem?_map] at hx
    cases e : rs[j]? with
    | none => rw [e] at hx; cases hx
    | some r =>
      rw [e] at hx
      have e2 := (fineB_iff.mp (g.fine j r e)).2
      rw [mks_take, show r.mark = x from Option.some.inj hx] at e2
      exact e2 m
  · obtain ⟨j, hj⟩ := List.mem_iff_getElem?.mp hr
    exact (fineB_iff.mp (g.fine j r hj)).1
theorem GoodC.g {rs : List Row} (g : GoodC rs) : Good rs := by
  refine ⟨g.len, fun j r hr => fineB_iff.mpr ⟨g.row r (List.mem_of_getElem? hr), ?_⟩, g.pars, g.fert⟩
  rw [mks_take]
  refine nodup_take.mp g.nd j _ ?_
  unfold mks
  rw [List.getElem?_map, hr]; rfl
theorem Fert.mono {rs ts : List Row} (h : ∀ r ∈ rs, ∃ q ∈ ts, q.mark = r.mark ∧ q.least = r.least ∧ q.pars = r.pars) {m : Str} (f : Fert rs m) : Fert ts m := by
  induction f with
  | @base r hr e =>
    obtain ⟨q, hq, a, b, _⟩ := h r hr
    exact a ▸ .base hq (b.trans e)
  | @step r p hr hp _ ih =>
    obtain ⟨q, hq, a, _, c⟩ := h r hr
    exact a ▸ .step hq (c ▸ hp) ih
theorem GoodC.alike {rs ts : List Row} (g : GoodC rs) (hl : ts.length ≤ 6) (nd : (mks ts).Nodup) (a : ∀ q ∈ ts, rowOk q ∧ ∃ r ∈ rs, q.mark = r.mark ∧ q.pars = r.pars) (b : ∀ r ∈ rs, ∃ q ∈ ts, q.mark = r.mark ∧ q.least = r.least ∧ q.pars = r.pars) : GoodC ts := by
  refine ⟨hl, nd, fun q hq => (a q hq).1, fun q hq p hp => ?_, fun q hq => ?_⟩
  · obtain ⟨r, hr, _, e⟩ := (a q hq).2
    obtain ⟨r2, hr2, e2⟩ := List.mem_map.mp (g.pars r hr p (e ▸ hp))
    obtain ⟨q2, hq2, e3, _⟩ := b r2 hr2
    exact List.mem_map.mpr ⟨q2, hq2, e3.trans e2⟩
  · obtain ⟨r, hr, e, _⟩ := (a q hq).2
    rw [e]
    exact (g.fert r hr).mono b
theorem set_marks {rs : List Row} {i : Nat} {r q : Row} (h : rs[i]? = some r) (e : q.mark = r.mark) : mks (rs.set i q) = mks rs := by
  unfold mks
  rw [List.map_set, e]
  refine List.ext_getElem? fun j => ?_
  rw [List.getElem?_set]
  split
  · rename_i c; subst c
    rw [List.getElem?_map, h]
    have := (List.getElem?_eq_some_iff.mp h).1
    simp [this]
  · rfl
theorem GoodC.put {rs : List Row} (g : GoodC rs) {i : Nat} {r q : Row} (h : rs[i]? = some r) (e : q.mark = r.mark) (el : q.least = r.least) (ep : q.pars = r.pars) (ok : rowOk q) : GoodC (rs.set i q) := by
  have hi := (List.getElem?_eq_some_iff.mp h).1
  have mq : q ∈ rs.set i q := List.mem_iff_getElem?.mpr ⟨i, by rw [List.getElem?_set]; simp [hi]⟩
  refine g.alike (by rw [List.length_set]; exact g.len) (by rw [set_marks h e]; exact g.nd) (fun x hx => ?_) (fun x hx => ?_)
  · rcases List.mem_or_eq_of_mem_set hx with hx | hx
    · exact ⟨g.row x hx, x, hx, rfl, rfl⟩
    · subst hx; exact ⟨ok, r, List.mem_of_getElem? h, e, ep⟩
  · obtain ⟨j, hj⟩ := List.mem_iff_getElem?.mp hx
    by_cases c : i = j
    · subst c
      rw [h] at hj
      obtain rfl := Option.some.inj hj
      exact ⟨q, mq, e, el, ep⟩
    · exact ⟨x, List.mem_iff_getElem?.mpr ⟨j, by rw [List.getElem?_set, if_neg c]; exact hj⟩, rfl, rfl, rfl⟩
theorem GoodC.swap {rs : List Row} (g : GoodC rs) {i : Nat} {r q : Row} (h : rs[i]? = some r) (h0 : rs[0]? = some q) : GoodC ((rs.set i q).set 0 r) := by
  obtain ⟨hi, ei⟩ := List.getElem?_eq_some_iff.mp h
  obtain ⟨hz, ez⟩ := List.getElem?_eq_some_iff.mp h0
  have sub : ∀ x, x ∈ (rs.set i q).set 0 r → x ∈ rs := fun x hx => by
    rcases List.mem_or_eq_of_mem_set hx with hx | hx
    · rcases List.mem_or_eq_of_mem_set hx with hx | hx
      · exact hx
      · subst hx; exact List.mem_of_getElem? h0
    · subst hx; exact List.mem_of_getElem? h
  have sup : ∀ x, x ∈ rs → x ∈ (rs.set i q).set 0 r := fun x hx => by
    obtain ⟨j, hj⟩ := List.mem_iff_getElem?.mp hx
    by_cases c : j = i
    · subst c
      rw [h] at hj
      obtain rfl := Option.some.inj hj
      exact List.mem_iff_getElem?.mpr ⟨0, by rw [List.getElem?_set]; simp [hz]⟩
    by_cases c0 : j = 0
    · subst c0
      rw [h0] at hj
      obtain rfl := Option.some.inj hj
      refine List.mem_iff_getElem?.mpr ⟨i, ?_⟩
      rw [List.getElem?_set, if_neg (fun z => c z), List.getElem?_set]
      simp [hi]
    · exact List.mem_iff_getElem?.mpr ⟨j, by rw [List.getElem?_set, if_neg (fun z => c0 z.symm), List.getElem?_set, if_neg (fun z => c z.symm)]; exact hj⟩
  refine g.alike (by rw [List.length_set, List.length_set]; exact g.len) ?_ (fun x hx => ⟨g.row x (sub x hx), x, sub x hx, rfl, rfl⟩) (fun x hx => ⟨x, sup x hx, rfl, rfl, rfl⟩)
  have inj : ∀ a b (ha : a < rs.length) (hb : b < rs.length), rs[a].mark = rs[b].mark → a = b := fun a b ha hb e => by
    have n := List.pairwise_iff_getElem.mp g.nd
    unfold mks at n
    rcases Nat.lt_trichotomy a b with c | c | c
    · exact absurd (by rw [List.getElem_map, List.getElem_map]; exact e) (n a b (by rw [List.length_map]; exact ha) (by rw [List.length_map]; exact hb) c)
    · exact c
    · exact absurd (by rw [List.getElem_map, List.getElem_map]; exact e.symm) (n b a (by rw [List.length_map]; exact hb) (by rw [List.length_map]; exact ha) c)
  refine List.pairwise_iff_getElem.mpr fun a b ha hb hab e => ?_
  unfold mks at ha hb e
  rw [List.length_map, List.length_set, List.length_set] at ha hb
  rw [List.getElem_map, List.getElem_map] at e
  simp only [List.getElem_set] at e
  subst ei ez
  have i0 := inj
  split at e <;> split at e <;> (try split at e) <;> (try split at e) <;> first | omega | (have := inj _ _ _ _ e; omega)
theorem GoodC.add {rs : List Row} (g : GoodC rs) {z : Str} (hl : rs.length < 6) (hz : isMk z = true) (nz : z ∉ mks rs) : GoodC (rs ++ [⟨z, [], 0, 0, false⟩]) := by
  have em : mks (rs ++ [⟨z, [], 0, 0, false⟩]) = mks rs ++ [z] := by unfold mks; rw [List.map_append]; rfl
  refine ⟨by rw [List.length_append]; simp; omega, ?_, fun r hr => ?_, fun r hr p hp => ?_, fun r hr => ?_⟩
  · rw [em, List.nodup_append]
    exact ⟨g.nd, by simp, fun a ha b hb e => nz (by rw [List.mem_singleton] at hb; rw [← hb, ← e]; exact ha)⟩
  · rcases List.mem_append.mp hr with hr | hr
    · exact g.row r hr
    · rw [List.mem_singleton.mp hr]; exact ⟨hz, rfl, rfl, List.nodup_nil⟩
  · rcases List.mem_append.mp hr with hr | hr
    · rw [em]; exact List.mem_append_left _ (g.pars r hr p hp)
    · rw [List.mem_singleton.mp hr] at hp; cases hp
  · rcases List.mem_append.mp hr with hr | hr
    · exact (g.fert r hr).mono fun q hq => ⟨q, List.mem_append_left _ hq, rfl, rfl, rfl⟩
    · rw [List.mem_singleton.mp hr]
      exact Fert.base (r := ⟨z, [], 0, 0, false⟩) (List.mem_append_right _ (List.mem_singleton.mpr rfl)) rfl
def renS (o z m : Str) : Str := if m = o then z else m
def renR (o z : Str) (r : Row) : Row := ⟨renS o z r.mark, r.pars.map (renS o z), r.least, r.most, r.sh⟩
theorem renS_inj {o z : Str} {l : List Str} (nz : z ∉ l) {a b : Str} (ha : a ∈ l) (hb : b ∈ l) (e : renS o z a = renS o z b) : a = b := by
  unfold renS at e
  by_cases c : a = o <;> by_cases d : b = o
  · rw [c, d]
  · rw [if_pos c, if_neg d] at e; rw [← e] at hb; exact absurd hb nz
  · rw [if_neg c, if_pos d] at e; rw [e] at ha; exact absurd ha nz
  · rw [if_neg c, if_neg d] at e; exact e
theorem nodup_ren {o z : Str} {l m : List Str} (nz : z ∉ m) (s : ∀ a ∈ l, a ∈ m) (h : l.Nodup) : (l.map (renS o z)).Nodup :=
  List.pairwise_map.mpr (List.Pairwise.imp_of_mem (fun {a b} ha hb ne e => ne (renS_inj nz (s a ha) (s b hb) e)) h)
theorem GoodC.ren {rs : List Row} (g : GoodC rs) {o z : Str} (hz : isMk z = true) (nz : z ∉ mks rs) : GoodC (rs.map (renR o z)) := by
  have em : mks (rs.map (renR o z)) = (mks rs).map (renS o z) := by unfold mks; rw [List.map_map, List.map_map]; rfl
  refine ⟨by rw [List.length_map]; exact g.len, by rw [em]; exact nodup_ren nz (fun _ h => h) g.nd, fun q hq => ?_, fun q hq p hp => ?_, fun q hq => ?_⟩
  · obtain ⟨r, hr, rfl⟩ := List.mem_map.mp hq
    obtain ⟨a, b, c, d⟩ := g.row r hr
    refine ⟨?_, b, ?_, nodup_ren nz (g.pars r hr) d⟩
    · show isMk (renS o z r.mark) = true
      unfold renS; split
      · exact hz
      · exact a
    · show (decide (0 < r.most) == decide (0 < (r.pars.map (renS o z)).length)) = true
      rw [List.length_map]; exact c
  · obtain ⟨r, hr, rfl⟩ := List.mem_map.mp hq
    obtain ⟨y, hy, rfl⟩ := List.mem_map.mp hp
    rw [em]
    exact List.mem_map.mpr ⟨y, g.pars r hr y hy, rfl⟩
  · obtain ⟨r, hr, rfl⟩ := List.mem_map.mp hq
    have k : ∀ {m}, Fert rs m → Fert (rs.map (renR o z)) (renS o z m) := fun f => by
      induction f with
      | @base r hr e => exact Fert.base (r := renR o z r) (List.mem_map.mpr ⟨r, hr, rfl⟩) e
      | @step r p hr hp _ ih => exact Fert.step (r := renR o z r) (List.mem_map.mpr ⟨r, hr, rfl⟩) (List.mem_map.mpr ⟨p, hp, rfl⟩) ih
    exact k (g.fert r hr)
/-- drawn rows with drawn marks -/
theorem good_named {n : Nat} {prs : List PRow} {ms : List Str} (ok : PlanOk n prs) (h6 : n ≤ 6) (hn : n ≤ ms.length) (nd : ms.Nodup) (hm : ∀ m ∈ ms, isMk m = true) : GoodC (prs.map (nameR ms)) := by
  have nmi : ∀ {i : Int}, 0 ≤ i → i < n → nm ms i ∈ ms := fun {i} h0 h1 => by
    unfold nm
    rw [List.getD_eq_getElem?_getD, List.getElem?_eq_getElem (by omega)]
    exact List.getElem_mem _
  have inj : ∀ {i j : Int}, 0 ≤ i → i < n → 0 ≤ j → j < n → nm ms i = nm ms j → i = j := fun {i j} a b c d e => by
    unfold nm at e
    rw [List.getD_eq_getElem?_getD, List.getD_eq_getElem?_getD, List.getElem?_eq_getElem (by omega), List.getElem?_eq_getElem (by omega)] at e
    have e : ms[i.toNat]'(by omega) = ms[j.toNat]'(by omega) := e
    have p := List.pairwise_iff_getElem.mp nd
    rcases Nat.lt_trichotomy i.toNat j.toNat with q | q | q
    · exact absurd e (p _ _ (by omega) (by omega) q)
    · omega
    · exact absurd e.symm (p _ _ (by omega) (by omega) q)
  have at_ : ∀ {k : Nat} {r : PRow}, prs[k]? = some r → k < n := fun h => by have := (List.getElem?_eq_some_iff.mp h).1; have := ok.1; omega
  have row : ∀ {j : Int}, 0 ≤ j → j < n → ∃ r, prs[j.toNat]? = some r ∧ (nameR ms r).mark = nm ms j := fun {j} a b => by
    have hj : j.toNat < prs.length := by rw [ok.1]; omega
    refine ⟨prs[j.toNat], List.getElem?_eq_getElem hj, ?_⟩
    have := (ok.2 _ _ (List.getElem?_eq_getElem hj)).idx
    show nm ms (prs[j.toNat]).idx = _
    rw [this, show ((j.toNat : Nat) : Int) = j by omega]
  refine ⟨by rw [List.length_map, ok.1]; exact h6, ?_, fun q hq => ?_, fun q hq p hp => ?_, fun q hq => ?_⟩
  · refine List.pairwise_iff_getElem.mpr fun a b ha hb hab e => ?_
    unfold mks at ha hb e
    rw [List.length_map, List.length_map] at ha hb
    simp only [List.getElem_map] at e
    have ia := (ok.2 a _ (List.getElem?_eq_getElem ha)).idx
    have ib := (ok.2 b _ (List.getElem?_eq_getElem hb)).idx
    have ka := at_ (List.getElem?_eq_getElem ha)
    have kb := at_ (List.getElem?_eq_getElem hb)
    have e : nm ms prs[a].idx = nm ms prs[b].idx := e
    have := inj (by omega) (by omega) (by omega) (by omega) e
    omega
  · obtain ⟨r, hr, rfl⟩ := List.mem_map.mp hq
    obtain ⟨k, hk⟩ := List.mem_iff_getElem?.mp hr
    have o := ok.2 k r hk
    have kn := at_ hk
    refine ⟨hm _ (nmi (by rw [o.idx]; omega) (by rw [o.idx]; omega)), ?_, ?_, ?_⟩
    · show (decide (0 ≤ r.least) && (decide (r.least ≤ r.most) && decide (r.most ≤ 4))) = true
      rw [decide_eq_true o.l0, decide_eq_true o.lm, decide_eq_true o.m4]; rfl
    · show (decide (0 < r.most) == decide (0 < (r.pars.map (nm ms)).length)) = true
      rw [List.length_map, beq_iff_eq]
      refine decide_eq_decide.mpr (o.pm.trans ?_)
      rw [List.length_pos_iff]
    · exact List.pairwise_map.mpr (List.Pairwise.imp_of_mem (fun {a b} ha hb ne e => ne (inj (o.pars.2 a ha).1 (o.pars.2 a ha).2 (o.pars.2 b hb).1 (o.pars.2 b hb).2 e)) o.pars.1)
  · obtain ⟨r, hr, rfl⟩ := List.mem_map.mp hq
    obtain ⟨k, hk⟩ := List.mem_iff_getElem?.mp hr
    obtain ⟨j, hj, rfl⟩ := List.mem_map.mp hp
    have o := (ok.2 k r hk).pars.2 j hj
    obtain ⟨r2, h2, e2⟩ := row o.1 o.2
    exact List.mem_map.mpr ⟨nameR ms r2, List.mem_map.mpr ⟨r2, List.mem_of_getElem? h2, rfl⟩, e2⟩
  · obtain ⟨r, hr, rfl⟩ := List.mem_map.mp hq
    obtain ⟨k, hk⟩ := List.mem_iff_getElem?.mp hr
    have all : ∀ (k : Nat) (r : PRow), prs[k]? = some r → Fert (prs.map (nameR ms)) (nameR ms r).mark := by
      intro k
      induction k using Nat.strongRecOn with
      | ind k ih =>
        intro r hk
        have o := ok.2 k r hk
        have mr : nameR ms r ∈ prs.map (nameR ms) := List.mem_map.mpr ⟨r, List.mem_of_getElem? hk, rfl⟩
        by_cases c : r.least = 0
        · exact Fert.base (r := nameR ms r) mr c
        · obtain ⟨j, hj, lt⟩ := o.low c
          have oj := o.pars.2 j hj
          obtain ⟨r2, h2, e2⟩ := row oj.1 oj.2
          have f := ih j.toNat (by omega) r2 h2
          rw [e2] at f
          exact Fert.step (r := nameR ms r) mr (List.mem_map.mpr ⟨j, hj, rfl⟩) f
    exact all k r hk
end My

namespace My
open PySem L2
theorem due_good {rs : List Row} (g : Good rs) {e : SErr} (h : Due rs e) : False := by
  cases h with
  | large h => have := g.len; omega
  | row _ hr _ hb => rw [g.fine _ _ hr] at hb; cases hb
  | par _ _ hr hp _ _ n => exact n (g.pars _ (List.mem_of_getElem? hr) _ (List.mem_of_getElem? hp))
  | lost _ _ _ hr _ n => exact n (g.fert _ (List.mem_of_getElem? hr))
end My

namespace My
open PySem L2
/-! ### webs -/
abbrev Th := Str × List Int
def ThV (H : Hp) (v : V) (th : Th) : Prop := ∃ p pp, v = .ref p ∧ H p = some (.tup [.str th.1, .ref pp]) ∧ H pp = some (.tup (th.2.map V.int))
abbrev ThsV (H : Hp) (vs : List V) (ts : List Th) : Prop := Paired (ThV H) vs ts
theorem ThV.keep {H H' : Hp} {v : V} {t : Th} (h : ThV H v t) (s : ∀ a xs, H a = some (.tup xs) → H' a = some (.tup xs)) : ThV H' v t := let ⟨p, pp, e, a, b⟩ := h; ⟨p, pp, e, s _ _ a, s _ _ b⟩
theorem thsV_keep {H H' : Hp} {vs : List V} {ts : List Th} (h : ThsV H vs ts) (s : ∀ a xs, H a = some (.tup xs) → H' a = some (.tup xs)) : ThsV H' vs ts := L2.Paired.mapP h fun _ _ x => x.keep s
theorem thsV_same {H H' : Hp} {vs : List V} {ts : List Th} (h : ThsV H vs ts) (s : Same H H') : ThsV H' vs ts := thsV_keep h fun a xs e => s _ _ e
def numsV (n : Nat) : List V := (List.range n).map fun i => V.int ((i : Nat) : Int)
/-- a web at y: its shape at x, its rows at l, its numbers at m -/
structure Wb (C : Addr) (H : Hp) (y x l m : Addr) (ts : List Th) : Prop where
  obj : ∃ dy, H y = some (.ins C dy [("shape", .ref x), ("_rows", .ref l), ("_numbers", .ref m)])
  rows : ∃ vs, H l = some (.lst vs) ∧ ThsV H vs ts
  nums : H m = some (.lst (numsV ts.length))
  ne : l ≠ m
theorem Wb.keep {C : Addr} {H H' : Hp} {y x l m : Addr} {ts : List Th} (h : Wb C H y x l m ts) (hy : ∀ o, H y = some o → H' y = some o) (hl : ∀ o, H l = some o → H' l = some o) (hm : ∀ o, H m = some o → H' m = some o) (s : ∀ a xs, H a = some (.tup xs) → H' a = some (.tup xs)) : Wb C H' y x l m ts := by
  obtain ⟨⟨dy, e⟩, ⟨vs, f, g⟩, n, ne⟩ := h
  exact ⟨⟨dy, hy _ e⟩, ⟨vs, hl _ f, thsV_keep g s⟩, hm _ n, ne⟩
theorem Wb.same {C : Addr} {H H' : Hp} {y x l m : Addr} {ts : List Th} (h : Wb C H y x l m ts) (s : Same H H') : Wb C H' y x l m ts := h.keep (fun _ e => s _ _ e) (fun _ e => s _ _ e) (fun _ e => s _ _ e) fun _ _ e => s _ _ e
theorem wb_look1 (x l m : Addr) : List.lookup ("shape" : Str) [(("shape" : Str), V.ref x), ("_rows", V.ref l), ("_numbers", V.ref m)] = some (V.ref x) := rfl
theorem wb_look2 (x l m : Addr) : List.lookup ("_rows" : Str) [(("shape" : Str), V.ref x), ("_rows", V.ref l), ("_numbers", V.ref m)] = some (V.ref l) := rfl
theorem wb_look3 (x l m : Addr) : List.lookup ("_numbers" : Str) [(("shape" : Str), V.ref x), ("_rows", V.ref l), ("_numbers", V.ref m)] = some (V.ref m) := rfl
def inW (ts : List Th) (p : Int) : Prop := 0 ≤ p ∧ p < (ts.length : Int)
instance (ts : List Th) (p : Int) : Decidable (inW ts p) := inferInstanceAs (Decidable (_ ∧ _))
def markW (ts : List Th) (p : Int) : Str := (ts.getD p.toNat ("", [])).1
def suitB (ts : List Th) (r : Row) (ps : List Int) : Bool := decide (r.least ≤ (ps.length : Int)) && decide ((ps.length : Int) ≤ r.most) && decide ps.Nodup && ps.all fun p => decide (markW ts p ∈ r.pars)
theorem inW_get {ts : List Th} {p : Int} (h : inW ts p) : ∃ t, ts[p.toNat]? = some t ∧ markW ts p = t.1 := by
  unfold inW at h
  have hp : p.toNat < ts.length := by omega
  refine ⟨ts[p.toNat], List.getElem?_eq_getElem hp, ?_⟩
  unfold markW
  rw [List.getD_eq_getElem?_getD, List.getElem?_eq_getElem hp]; rfl
end My

namespace My
open PySem L2
def spWInit (C : Addr) : Sp := fun vs H Q _ => ∃ (y dy x : Addr), vs = [.ref y, .ref x] ∧ H y = some (.ins C dy []) ∧ ∀ l m H', But y H H' → H l = none → H m = none → Wb C H' y x l m [] → Q .non H'
def spWHas (C : Addr) : Sp := fun vs H Q _ => ∃ (y x l m : Addr) (p : Int) (ts : List Th), vs = [.ref y, .int p] ∧ Wb C H y x l m ts ∧ Q (.bl (decide (inW ts p))) H
def spWLen (C : Addr) : Sp := fun vs H Q _ => ∃ (y x l m : Addr) (ts : List Th), vs = [.ref y] ∧ Wb C H y x l m ts ∧ Q (.int ts.length) H
def spWGet (C X : Addr) : Sp := fun vs H Q E => ∃ (y x l m : Addr) (p : Int) (ts : List Th), vs = [.ref y, .int p] ∧ Wb C H y x l m ts ∧
  (∀ q pp t, inW ts p → ts[p.toNat]? = some t → H q = some (.tup [.str t.1, .ref pp]) → H pp = some (.tup (t.2.map V.int)) → Q (.ref q) H) ∧ (¬ inW ts p → ErrS X "thing" (.int p) H E)
def spWMark (C X : Addr) : Sp := fun vs H Q E => ∃ (y x l m : Addr) (p : Int) (ts : List Th), vs = [.ref y, .int p] ∧ Wb C H y x l m ts ∧ (inW ts p → Q (.str (markW ts p)) H) ∧ (¬ inW ts p → ErrS X "thing" (.int p) H E)
theorem ths_at {H : Hp} {vs : List V} {ts : List Th} (h : ThsV H vs ts) {p : Int} (i : inW ts p) : ∃ q pp t, atI vs p = some (.ref q) ∧ ts[p.toNat]? = some t ∧ H q = some (.tup [.str t.1, .ref pp]) ∧ H pp = some (.tup (t.2.map V.int)) := by
  unfold inW at i
  have l := pair_len' h
  have hp : p.toNat < vs.length := by omega
  obtain ⟨t, ht, q, pp, e, a, b⟩ := pair_get' h (List.getElem?_eq_getElem hp)
  refine ⟨q, pp, t, at_of (j := p.toNat) (by omega) (by rw [List.getElem?_eq_getElem hp, e]), ht, a, b⟩
section
variable {w : World} {K : PySem.W.Frag} {mg : Str → Option Value} {base : Heap}
theorem ok_Web_init (T : Txt K mg) : FnOk PP w K mg base CX0 1 T.a_Web_init T.fd_Web_init ["self", "shape"] (spWInit T.c_Web) := by
  refine T.F_Web_init.ok sc_Web_init (fun vs H Q E h => ?_) (fun cdv A outer s H vs Q E hr h => ?_)
  · obtain ⟨y, dy, x, rfl, _⟩ := h; rfl
  · obtain ⟨y, dy, x, rfl, hy, q⟩ := h
    refine ⟨_, (pss_cons (ps_fld (pv 0) (pv 1) rfl)
      (pss_cons (ps_fld (pv 0) (pe_lst pa_nil) rfl)
      (pss_one (ps_fld (pv 0) (pe_lst pa_nil) rfl)))), ?_⟩
    refine ⟨_, rfl, _, rfl, y, _, dy, _, rfl, hy, T.cl_Web, T.no_Web_shape, by show 0 < 1000; decide, ?_⟩
    refine ⟨Nat.zero_le _, fun l hl => ⟨_, rfl, y, _, dy, _, rfl, same_new hl _ _ upd_same, T.cl_Web, T.no_Web__rows, by show 1 < 1000; decide, ?_⟩⟩
    have nly : l ≠ y := fun e => by rw [e, upd_same] at hl; cases hl
    have nl0 : H l = none := by rw [upd_ne nly] at hl; exact hl
    refine ⟨Nat.zero_le _, fun m hm => ⟨_, rfl, y, _, dy, _, rfl, same_new hm _ _ upd_same, T.cl_Web, T.no_Web__numbers, by show 2 < 1000; decide, ?_⟩⟩
    have nmy : m ≠ y := fun e => by rw [e, upd_same] at hm; cases hm
    have nml : m ≠ l := fun e => by rw [e, upd_ne nly, upd_same] at hm; cases hm
    have nm0 : H m = none := by rw [upd_ne nmy, upd_ne nml, upd_ne nmy] at hm; exact hm
    refine q l m _ (fun b o n h => ?_) nl0 nm0 ⟨⟨dy, upd_same⟩, ⟨[], ?_, .nil⟩, ?_, nml.symm⟩
    · rw [upd_ne n, upd_ne (ne_of_none h nm0), upd_ne n, upd_ne (ne_of_none h nl0), upd_ne n]; exact h
    · rw [upd_ne nly, upd_ne nml.symm, upd_ne nly, upd_same]
    · rw [upd_ne nmy, upd_same]; rfl
theorem ok_Web_contains (T : Txt K mg) : FnOk PP w K mg base CX0 1 T.a_Web_contains T.fd_Web_contains ["self", "thing"] (spWHas T.c_Web) := by
  refine T.F_Web_contains.ok sc_Web_contains (fun vs H Q E h => ?_) (fun cdv A outer s H vs Q E hr h => ?_)
  · obtain ⟨y, x, l, m, p, ts, rfl, _⟩ := h; rfl
  · obtain ⟨y, x, l, m, p, ts, rfl, hw, q⟩ := h
    obtain ⟨⟨dy, hy⟩, ⟨us, hl, hu⟩, hm, ne⟩ := id hw
    refine ⟨_, (pss_one (ps_ret (pe_chain op_le op_lt (pe_int) (pv 1) (pe_callB call_len_seq (by rfl) T.n_len (by decide +kernel) (pa_cons (pe_fld (pv 0) rfl) pa_nil))))), ?_⟩
    have lu := pair_len' hu
    refine ⟨_, rfl, _, _, rfl, rfl, _, rfl, iteD (fun c => ?_) (fun c => ?_)⟩
    · refine ⟨_, rfl, y, _, dy, _, _, rfl, hy, T.cl_Web, T.no_Web__rows, wb_look2 x l m, l, _, rfl, .inl (SqL.of hl), _, _, rfl, rfl, ?_⟩
      rw [lu]
      rw [show decide (inW ts p) = decide (p < (ts.length : Int)) from decide_eq_decide.mpr ⟨fun h => h.2, fun h => ⟨c, h⟩⟩] at q
      exact q
    · rw [decide_eq_false (fun h => c h.1)] at q
      exact q
theorem ok_Web_getitem (T : Txt K mg) : FnOk PP w K mg base (L2.CX PP w) 3 T.a_Web_getitem T.fd_Web_getitem ["self", "thing"] (spWGet T.c_Web T.c_NoThing) := by
  refine T.F_Web_getitem.okX sc_Web_getitem (fun vs H Q E h => ?_) (fun cdv A outer s H vs Q E hr h => ?_)
  · obtain ⟨y, x, l, m, p, ts, rfl, _⟩ := h; rfl
  · obtain ⟨y, x, l, m, p, ts, rfl, hw, q, qx⟩ := h
    obtain ⟨⟨dy, hy⟩, ⟨us, hl, hu⟩, hm, ne⟩ := id hw
    refine ⟨_, (pss_cons (ps_if (pt_cmpR (op_ninI T.m_Web_contains (ok_Web_contains T) (hr.mono (by omega)) T.b_Web_contains pass0) (pv 1) (pv 0) (by with_unfolding_all rfl)) (pss_one (ps_raiseX rfl T.x_NoThing hr (takes_of rfl rfl rfl rfl) (pa_cons (pv 1) pa_nil))) pss_nil)
      (pss_one (ps_ret (pe_ix ix_list (pe_fld (pv 0) rfl) (pv 1) (fun _ _ => rfl))))), ?_⟩
    refine ⟨_, rfl, _, rfl, y, dy, _, rfl, hy, y, x, l, m, p, ts, rfl, hw, _, rfl, _, rfl, ?_⟩
    by_cases c : inW ts p
    · refine iteNo (by show (!decide (inW ts p)) = false; rw [decide_eq_true c]; rfl) ?_
      obtain ⟨q', pp, t, h1, h2, h3, h4⟩ := ths_at hu c
      exact ⟨_, rfl, y, _, dy, _, _, rfl, hy, T.cl_Web, T.no_Web__rows, wb_look2 x l m, _, rfl, _, _, _, _, rfl, rfl, SqL.of hl, h1, q q' pp t c h2 h3 h4⟩
    · refine iteYes (by show (!decide (inW ts p)) = true; rw [decide_eq_false c]; rfl) ?_
      exact ⟨_, rfl, _, rfl, fun d hd => qx c _ d (same_new hd) hd upd_same⟩
theorem ok_Web_mark_of (T : Txt K mg) : FnOk PP w K mg base (L2.CX PP w) 5 T.a_Web_mark_of T.fd_Web_mark_of ["self", "thing"] (spWMark T.c_Web T.c_NoThing) := by
  refine T.F_Web_mark_of.okX sc_Web_mark_of (fun vs H Q E h => ?_) (fun cdv A outer s H vs Q E hr h => ?_)
  · obtain ⟨y, x, l, m, p, ts, rfl, _⟩ := h; rfl
  · obtain ⟨y, x, l, m, p, ts, rfl, hw, q, qx⟩ := h
    obtain ⟨dy, hy⟩ := hw.obj
    refine ⟨_, (pss_one (ps_ret (pe_ix ix_tup (pe_getI T.m_Web_getitem T.fi_Web_getitem (ok_Web_getitem T) (hr.mono (by omega)) T.b_Web_getitem (passes_call (takes_of rfl rfl rfl rfl) (fun _ _ _ _ h => h)) (pv 0) (pv 1)) (pe_int) (fun _ _ => rfl)))), ?_⟩
    refine ⟨_, rfl, _, rfl, y, dy, _, rfl, hy, y, x, l, m, p, ts, rfl, hw, fun q' pp t i h1 h2 h3 => ?_, qx⟩
    refine ⟨_, _, _, _, rfl, rfl, SqT.of h2, atI_nat (j := 0) rfl, ?_⟩
    obtain ⟨t', e1, e2⟩ := inW_get i
    rw [h1] at e1
    obtain rfl := Option.some.inj e1
    have := q i
    rw [e2] at this
    exact this
end
end My

namespace My
open PySem L2
inductive PErr where
  | unk (z : Str)
  | no (p : Int)
  | bad (z : Str)
  | large
inductive PDue (rs : List Row) (ts : List Th) (z : Str) (ps : List Int) : PErr → Prop
  | unk : findR rs z = none → PDue rs ts z ps (.unk z)
  | no {r : Row} {i : Nat} {p : Int} : findR rs z = some r → ps[i]? = some p → (∀ q ∈ ps.take i, inW ts q) → ¬ inW ts p → PDue rs ts z ps (.no p)
  | bad {r : Row} : findR rs z = some r → (∀ q ∈ ps, inW ts q) → suitB ts r ps = false → PDue rs ts z ps (.bad z)
  | large {r : Row} : findR rs z = some r → (∀ q ∈ ps, inW ts q) → suitB ts r ps = true → 1000 ≤ ts.length → PDue rs ts z ps .large
structure PGood (rs : List Row) (ts : List Th) (z : Str) (ps : List Int) : Prop where
  row : ∃ r, findR rs z = some r ∧ suitB ts r ps = true
  inw : ∀ q ∈ ps, inW ts q
  room : ts.length < 1000
def PErrIs (UM NT BP TL : Addr) : PErr → Addr → V → Str → Prop
  | .unk z, c, v, f => c = UM ∧ v = .str z ∧ f = "mark"
  | .no p, c, v, f => c = NT ∧ v = .int p ∧ f = "thing"
  | .bad z, c, v, f => c = BP ∧ v = .str z ∧ f = "mark"
  | .large, c, v, f => c = TL ∧ v = .int 1000 ∧ f = "most"
def spSuit (C : Addr) : Sp := fun vs H Q _ => ∃ (y x l m p pp q : Addr) (r : Row) (ps : List Int) (ts : List Th), vs = [.ref y, .ref p, .ref q] ∧ Wb C H y x l m ts ∧ H p = some (.tup (rowL r pp)) ∧ H pp = some (.tup (r.pars.map V.str)) ∧ H q = some (.tup (ps.map V.int)) ∧ (∀ i ∈ ps, inW ts i) ∧
  ∀ H', Same H H' → Q (.bl (suitB ts r ps)) H'
def spPut (C Cs UM NT BP TL : Addr) : Sp := fun vs H Q E => ∃ (y x l m q : Addr) (z : Str) (rs : List Row) (ps : List Int) (ts : List Th), vs = [.ref y, .str z, .ref q] ∧ Wb C H y x l m ts ∧ ShO Cs H x rs ∧ H q = some (.tup (ps.map V.int)) ∧ ts.length ≤ 1000 ∧
  (PGood rs ts z ps → ∀ H', Le [l, m] H H' → Wb C H' y x l m (ts ++ [(z, ps)]) → Q (.int ts.length) H') ∧
  (∀ e c v f, PDue rs ts z ps e → PErrIs UM NT BP TL e c v f → ∀ H' d, Same H H' → H d = none → H' d = some (.xd [(f, v)]) → E (.ref c) (some d) H')
theorem nodup_int {l : List Int} : l.Nodup ↔ ∀ (j : Nat) (x : Int), l[j]? = some x → x ∉ l.take j := by
  constructor
  · intro h j x hx m
    obtain ⟨i, hi, e⟩ := List.getElem_of_mem m
    rw [List.length_take] at hi
    rw [List.getElem_take] at e
    obtain ⟨hj, e2⟩ := List.getElem?_eq_some_iff.mp hx
    exact List.pairwise_iff_getElem.mp h i j (by omega) hj (by omega) (e.trans e2.symm)
  · intro h
    refine List.pairwise_iff_getElem.mpr fun i j hi hj hij e => h j _ (List.getElem?_eq_getElem hj) ?_
    rw [← e]
    exact List.mem_iff_getElem.mpr ⟨i, by rw [List.length_take]; omega, by rw [List.getElem_take]⟩
theorem nodup_int_succ {xs : List Int} {i : Nat} {y : Int} (h : xs[i]? = some y) (n : (xs.take i).Nodup) (m : y ∉ xs.take i) : (xs.take (i + 1)).Nodup := by
  rw [List.take_succ, h, Option.toList_some, List.nodup_append]
  exact ⟨n, List.nodup_cons.mpr ⟨List.not_mem_nil, List.nodup_nil⟩, fun a ha b hb e => m (by rw [List.mem_singleton] at hb; rw [← hb, ← e]; exact ha)⟩
theorem suit_iff {ts : List Th} {r : Row} {ps : List Int} : suitB ts r ps = true ↔ r.least ≤ (ps.length : Int) ∧ (ps.length : Int) ≤ r.most ∧ ps.Nodup ∧ ∀ p ∈ ps, markW ts p ∈ r.pars := by
  unfold suitB
  simp only [Bool.and_eq_true, decide_eq_true_iff, List.all_eq_true, and_assoc]
theorem nums_app (n : Nat) : numsV n ++ [.int ((n : Nat) : Int)] = numsV (n + 1) := by unfold numsV; rw [List.range_succ, List.map_append]; rfl
section
variable {w : World} {K : PySem.W.Frag} {mg : Str → Option Value} {base : Heap}
theorem ok_suitable (T : Txt K mg) : FnOk PP w K mg base CX0 6 T.a_suitable T.fd_suitable ["web", "row", "parents"] (spSuit T.c_Web) := by
  refine T.F_suitable.ok sc_suitable (fun vs H Q E h => ?_) (fun cdv A outer s H vs Q E hr h => ?_)
  · obtain ⟨y, x, l, m, p, pp, q, r, ps, ts, rfl, _⟩ := h; rfl
  · obtain ⟨y, x, l, m, p, pp, qa, r, ps, ts, rfl, hw, hp, hpp, hq, hin, q⟩ := h
    refine ⟨_, (pss_cons (ps_if (pt_not (pt_chain op_le op_le (pe_ix ix_tup (pv 1) (pe_int) (fun _ _ => rfl)) (pe_callB call_len_seq (by rfl) T.n_len (by decide +kernel) (pa_cons (pv 2) pa_nil)) (pe_ix ix_tup (pv 1) (pe_int) (fun _ _ => rfl)))) (pss_one (ps_ret (pe_bl))) pss_nil)
      (pss_cons (ps_for PassesOwn.never rfl (pi_enumT (by rfl) T.n_enumerate (pa_cons (pv 2) pa_nil)) (pg_tup rfl (pgs_cons (pg_name (i := 3) sc_suitable.nd rfl (.inl rfl)) (pgs_cons (pg_name (i := 4) sc_suitable.nd rfl (.inl rfl)) pgs_nil))) (pss_one (ps_if (PW.pt (pw_or (pt_cmpR op_in_seq (pv 4) (pe_slice sl_tup (pv 2) po_none (po_some (pv 3))) (by with_unfolding_all rfl)) (pw_or1 (pt_cmpR op_notIn_seq (pe_meth (pv 0) T.cl_Web T.m_Web_mark_of ((ok_Web_mark_of T).calm) (hr.mono (by omega)) T.b_Web_mark_of .nil pass0 (pa_cons (pv 4) pa_nil)) (pe_ix ix_tup (pv 1) (pe_int) (fun _ _ => rfl)) (by with_unfolding_all rfl))))) (pss_one (ps_ret (pe_bl))) pss_nil)))
      (pss_one (ps_ret (pe_bl))))), ?_⟩
    have no : ∀ {H'}, (suitB ts r ps = true → False) → Same H H' → Q (.bl false) H' := fun f s => by
      have := q _ s
      rwa [show suitB ts r ps = false from Bool.eq_false_iff.mpr f] at this
    have rf : ∀ H : Hp, Same H H := fun _ _ _ h => h
    obtain ⟨dy, hy⟩ := hw.obj
    refine ⟨_, rfl, _, _, _, _, rfl, rfl, SqT.of hp, atI_nat (j := 2) rfl, _, rfl, qa, _, rfl, .inr (SqT.of hq), _, _, rfl, rfl, _, rfl, ?_⟩
    rw [List.length_map]
    refine iteD (fun c1 => ?_) (fun c1 => ⟨_, rfl, iteYes rfl (no (fun h => c1 (suit_iff.mp h).1) (rf _))⟩)
    refine ⟨_, rfl, _, _, _, _, rfl, rfl, SqT.of hp, atI_nat (j := 3) rfl, _, _, rfl, rfl, _, rfl, iteN (fun c2 => no (fun h => c2 (suit_iff.mp h).2.1) (rf _)) (fun c2 => ?_)⟩
    refine ⟨_, rfl, qa, _, rfl, SqT.of hq, for_enumT (K := K) (a := qa) (xs := ps.map V.int) (fun i σ' H2 => ∃ x3 x4, Same H H2 ∧ σ' = [some (.ref y), some (.ref p), some (.ref qa), x3, x4] ∧ (ps.take i).Nodup ∧ ∀ j ∈ ps.take i, markW ts j ∈ r.pars)
      ⟨_, _, rf _, rfl, List.nodup_nil, fun j h => by rw [List.take_zero] at h; cases h⟩ (fun i σ' H2 _ ⟨_, _, s2, _⟩ => SqT.of (s2 _ _ hq)) ?_ ?_⟩
    · rintro i v σ' H2 Tt hv ⟨x3, x4, s2, rfl, nd, mk⟩ hTt
      obtain ⟨j, hj, rfl⟩ := get_int hv
      have s3 := s2.trans (same_new (o := .tup [.int (i : Nat), .int j]) hTt)
      have hi : i < ps.length := (List.getElem?_eq_some_iff.mp hj).1
      have mj := List.mem_of_getElem? hj
      refine ⟨Tt, _, rfl, .inl (.inl upd_same), rfl, _, _, rfl, _, _, rfl, rfl, ?_⟩
      refine ⟨_, rfl, _, rfl, _, rfl, _, rfl, qa, _, rfl, SqT.of (s3 _ _ hq), ?_, fun c hc => ?_⟩
      · rw [HT.sIx_nat, List.length_map, Nat.min_eq_left (Nat.le_of_lt hi)]
        exact fun h => absurd h.2 (by omega)
      · have s4 := s3.trans (same_new (o := .tup (cutV (ps.map V.int) none (some ((i : Nat) : Int)))) hc)
        have ct : cutV (ps.map V.int) none (some ((i : Nat) : Int)) = (ps.take i).map V.int := by rw [cut_to, List.map_take]
        refine ⟨_, _, rfl, .inr (SqT.of upd_same), rfl, by rw [ct]; exact flat_ints _, ?_⟩
        rw [show (if false = true then !inV (V.int j) (cutV (ps.map V.int) none (some ((i : Nat) : Int))) else inV (V.int j) (cutV (ps.map V.int) none (some ((i : Nat) : Int)))) = decide (j ∈ ps.take i) by rw [if_neg Bool.false_ne_true, ct, in_ints]]
        refine ⟨_, rfl, iteD (fun k => iteT (no (fun h => nodup_int.mp (suit_iff.mp h).2.2.1 i j hj k) s4)) (fun k => ?_)⟩
        refine ⟨_, rfl, y, dy, _, rfl, s4 _ _ hy, rfl, _, rfl, y, x, l, m, j, ts, rfl, hw.same s4, fun _ => ?_, fun n => absurd (hin j mj) n⟩
        refine ⟨_, rfl, _, _, _, _, rfl, rfl, SqT.of (s4 _ _ hp), atI_nat (j := 1) rfl, _, _, rfl, .inr (SqT.of (s4 _ _ hpp)), rfl, flat_strs _, ?_⟩
        rw [in_strs]
        refine ⟨_, rfl, iteN (fun k2 => no (fun h => k2 ((suit_iff.mp h).2.2.2 j mj)) s4) (fun k2 => ?_)⟩
        refine ⟨_, _, s4, rfl, nodup_int_succ hj nd k, fun j' h => ?_⟩
        rw [List.take_succ, hj] at h
        rcases List.mem_append.mp h with h | h
        · exact mk j' h
        · rw [List.mem_singleton.mp h]; exact k2
    rintro σ' H2 ⟨x3, x4, s2, rfl, nd, mk⟩
    rw [List.length_map, List.take_length] at nd mk
    have := q _ s2
    rw [suit_iff.mpr ⟨c1, c2, nd, mk⟩] at this
    exact this
set_option maxHeartbeats 16000000 in
theorem ok_Web_put (T : Txt K mg) : FnR PP w K mg base (L2.CX PP w) 8 T.a_Web_put (spStar 2 (spPut T.c_Web T.c_Shape T.c_UnknownMark T.c_NoThing T.c_BadParents T.c_TooLarge)) := by
  refine Fun.starX (k := 7) (ps := ["self", "mark"]) T.F_Web_put sc_Web_put T.bs_Web_put fun cdv A outer s H vs Q E hr h => ?_
  obtain ⟨y, x, l, m, qa, z, rs, ps, ts, rfl, hw, hS, hq, lts, q, qe⟩ := h
  refine ⟨_, (pss_cons (ps_set (i := 3) sc_Web_put.nd rfl (.inl rfl) (pe_getI T.m_Shape_getitem T.fi_Shape_getitem (ok_Shape_getitem T) (hr.mono (by omega)) T.b_Shape_getitem (passes_call (takes_of rfl rfl rfl rfl) (fun _ _ _ _ h => h)) (pe_fld (pv 0) rfl) (pv 1)))
      (pss_cons (ps_for (passes_of rfl) rfl (pi_tup (pv 2)) (pg_name (i := 4) sc_Web_put.nd rfl (.inl rfl)) (pss_one (ps_if (pt_cmpR (op_ninI T.m_Web_contains (ok_Web_contains T) (hr.mono (by omega)) T.b_Web_contains pass0) (pv 4) (pv 0) (by with_unfolding_all rfl)) (pss_one (ps_raiseX rfl T.x_NoThing hr (takes_of rfl rfl rfl rfl) (pa_cons (pv 4) pa_nil))) pss_nil)))
      (pss_cons (ps_if (pt_not (pt_val (pe_call (ok_suitable T) (hr.mono (by omega)) (by rfl) T.g_suitable T.F_suitable.kp T.b_suitable .nil pass0 (pa_cons (pv 0) (pa_cons (pv 3) (pa_cons (pv 2) pa_nil)))))) (pss_one (ps_raiseX rfl T.x_BadParents hr (takes_of rfl rfl rfl rfl) (pa_cons (pv 1) pa_nil))) pss_nil)
      (pss_cons (ps_if (pt_cmpR op_ge (pe_callB call_len_seq (by rfl) T.n_len (by decide +kernel) (pa_cons (pe_fld (pv 0) rfl) pa_nil)) (ClX.pe_cval (pe_glob (v := .ref T.c_Web) (by rfl) T.g_Web rfl)) (nomark _)) (pss_one (ps_raiseX rfl T.x_TooLarge hr (takes_of rfl rfl rfl rfl) (pa_cons (ClX.pe_cval (pe_glob (v := .ref T.c_Web) (by rfl) T.g_Web rfl)) pa_nil))) pss_nil)
      (pss_cons (ps_set (i := 5) sc_Web_put.nd rfl (.inl rfl) (pe_callB call_len_seq (by rfl) T.n_len (by decide +kernel) (pa_cons (pe_fld (pv 0) rfl) pa_nil)))
      (pss_cons (ps_expr (pe_bm PySem.F.plainAttrs_list PySem.F.slot_list_append PySem.F.type_list_append mt_append (pe_fld (pv 0) rfl) (pa_cons (pe_tup (pa_cons (pv 1) (pa_cons (pe_callTy call_tuple_of (by rfl) T.n_tuple (by decide +kernel) (pa_cons (pv 2) pa_nil)) pa_nil))) pa_nil)))
      (pss_cons (ps_expr (pe_bm PySem.F.plainAttrs_list PySem.F.slot_list_append PySem.F.type_list_append mt_append (pe_fld (pv 0) rfl) (pa_cons (pv 5) pa_nil)))
      (pss_one (ps_ret (pv 5)))))))))), ?_⟩
  have big : 100000 < sizeLine := by decide
  obtain ⟨⟨dy, hy⟩, ⟨us, hl, hu⟩, hm, nlm⟩ := id hw
  obtain ⟨dx, l1, m1, vs1, hx, _⟩ := id hS
  have lu := pair_len' hu
  have rf : ∀ H : Hp, Same H H := fun _ _ _ h => h
  refine ⟨_, rfl, y, _, dy, _, _, rfl, hy, T.cl_Web, T.no_Web_shape, wb_look1 x l m, _, rfl, x, dx, _, rfl, hx, x, z, rs, rfl, hS, fun r p pp hf hp hpp => ?_, fun no H' d s' nd hd => qe (.unk z) _ _ _ (.unk no) ⟨rfl, rfl, rfl⟩ H' d s' nd hd⟩
  refine ⟨_, rfl, qa, rfl, ⟨_, SqT.of hq⟩, for_tup (K := K) (a := qa) (xs := ps.map V.int) (fun i σ H' => ∃ x4, H' = H ∧ σ = [some (.ref y), some (.str z), some (.ref qa), some (.ref p), x4, none] ∧ ∀ j ∈ ps.take i, inW ts j) ⟨_, rfl, rfl, fun j h => by rw [List.take_zero] at h; cases h⟩ (fun i σ H' _ ⟨_, e, _⟩ => SqT.of (by rw [e]; exact hq)) ?_ ?_⟩
  · rintro i v σ H2 hv ⟨x4, rfl, rfl, hin⟩
    obtain ⟨j, hj, rfl⟩ := get_int hv
    refine ⟨_, rfl, _, rfl, y, dy, _, rfl, hy, y, x, l, m, j, ts, rfl, hw, _, rfl, _, rfl, ?_⟩
    by_cases c : inW ts j
    · refine iteNo (by show (!decide (inW ts j)) = false; rw [decide_eq_true c]; rfl) ⟨_, rfl, rfl, fun j' h => ?_⟩
      rw [List.take_succ, hj] at h
      rcases List.mem_append.mp h with h | h
      · exact hin j' h
      · rw [List.mem_singleton.mp h]; exact c
    · refine iteYes (by show (!decide (inW ts j)) = true; rw [decide_eq_false c]; rfl) ?_
      exact ⟨_, rfl, _, rfl, fun d hd => qe (.no j) _ _ _ (.no hf hj hin c) ⟨rfl, rfl, rfl⟩ _ d (same_new hd) hd upd_same⟩
  rintro σ H2 ⟨x4, rfl, rfl, hin⟩
  rw [List.length_map, List.take_length] at hin
  refine ⟨_, rfl, _, rfl, _, rfl, y, x, l, m, p, pp, qa, r, ps, ts, rfl, hw, hp, hpp, hq, hin, fun H3 s3 => ⟨_, rfl, ?_⟩⟩
  cases es : suitB ts r ps with
  | false => exact iteYes rfl ⟨_, rfl, _, rfl, fun d hd => qe (.bad z) _ _ _ (.bad hf hin es) ⟨rfl, rfl, rfl⟩ _ d (s3.trans (same_new hd)) (s3.free hd) upd_same⟩
  | true =>
    refine iteNo rfl ?_
    have hy3 := s3 _ _ hy
    have hl3 := s3 _ _ hl
    refine ⟨_, rfl, y, _, dy, _, _, rfl, hy3, T.cl_Web, T.no_Web__rows, wb_look2 x l m, l, _, rfl, .inl (SqL.of hl3), _, _, _, _, rfl, T.cr_Web, T.cv_Web_MOST, _, _, rfl, rfl, _, rfl, ?_⟩
    rw [lu]
    refine iteD (fun c => ?_) (fun c => ?_)
    · exact ⟨_, _, _, _, rfl, T.cr_Web, T.cv_Web_MOST, _, rfl, fun d hd => qe .large _ _ _ (.large hf hin es (by omega)) ⟨rfl, rfl, rfl⟩ _ d (s3.trans (same_new hd)) (s3.free hd) upd_same⟩
    · refine ⟨_, rfl, y, _, dy, _, _, rfl, hy3, T.cl_Web, T.no_Web__rows, wb_look2 x l m, l, _, rfl, .inl (SqL.of hl3), ?_⟩
      rw [lu]
      refine ⟨_, rfl, y, _, dy, _, _, rfl, hy3, T.cl_Web, T.no_Web__rows, wb_look2 x l m, .inl ⟨rfl, _, SqL.of hl3⟩, _, rfl, _, rfl, qa, _, rfl, .inr ⟨SqT.of (s3 _ _ hq), by show 2 ≤ sizeLine; decide, fun u nu => ?_⟩⟩
      have s4 := s3.trans (same_new (o := .tup [.str z, .ref qa]) nu)
      have hl4 := s4 _ _ hl
      refine ⟨_, _, _, rfl, rfl, hl4, by omega, ?_⟩
      have nly : y ≠ l := ne_of hy hl (by intro z; cases z)
      have nmy : y ≠ m := ne_of hy hm (by intro z; cases z)
      have hy5 : (upd (upd H3 u (.tup [.str z, .ref qa])) l (.lst (us ++ [.ref u]))) y = some (.ins T.c_Web dy [("shape", .ref x), ("_rows", .ref l), ("_numbers", .ref m)]) := by rw [upd_ne nly]; exact s4 _ _ hy
      have hm5 : (upd (upd H3 u (.tup [.str z, .ref qa])) l (.lst (us ++ [.ref u]))) m = some (.lst (numsV ts.length)) := by rw [upd_ne nlm.symm]; exact s4 _ _ hm
      refine ⟨_, rfl, y, _, dy, _, _, rfl, hy5, T.cl_Web, T.no_Web__numbers, wb_look3 x l m, .inl ⟨rfl, _, SqL.of hm5⟩, _, rfl, _, _, _, rfl, rfl, hm5, by unfold numsV; rw [List.length_map, List.length_range]; omega, ?_⟩
      refine ⟨_, rfl, q ⟨⟨r, hf, es⟩, hin, by omega⟩ _ ?_ ⟨⟨dy, by rw [upd_ne nmy]; exact hy5⟩, ⟨us ++ [.ref u], by rw [upd_ne nlm]; exact upd_same, ?_⟩, ?_, nlm⟩⟩
      · exact ((Le.same s4).trans (.upd (by simp))).trans (.upd (by simp))
      · have kp : ∀ a xs, H2 a = some (.tup xs) → (upd (upd (upd H3 u (.tup [.str z, .ref qa])) l (.lst (us ++ [.ref u]))) m (.lst (numsV ts.length ++ [.int ts.length]))) a = some (.tup xs) := fun a xs e => by
          rw [upd_ne (fun z => by rw [z, hm] at e; cases e), upd_ne (fun z => by rw [z, hl] at e; cases e)]; exact s4 _ _ e
        have nul : u ≠ l := ne_of upd_same hl4 (by intro z; cases z)
        have num : u ≠ m := ne_of upd_same (s4 _ _ hm) (by intro z; cases z)
        exact pair_app' (thsV_keep hu kp) (.cons ⟨u, qa, rfl, by rw [upd_ne num, upd_ne nul]; exact upd_same, kp _ _ hq⟩ .nil)
      · rw [upd_same, nums_app, List.length_append]; rfl
end
end My

namespace My
open PySem L2
theorem dn_strs {K : PySem.W.Frag} {x : Addr} {H : Hp} {n : Nat} : ∀ l : List Str, Paired (Dn K x H n) (l.map V.str) (l.map .str)
  | [] => .nil
  | z :: l => .cons (Dn.str z) (dn_strs l)
theorem dn_strL {K : PySem.W.Frag} {x a : Addr} {H : Hp} {n : Nat} {l : List Str} (h : H a = some (.lst (l.map V.str))) (ne : a ≠ x) (hz : l.length ≤ 100000) : Dn K x H (n + 1) (.ref a) (.list (l.map .str)) := Dn.lst ne (SqL.of h) (dn_strs l) (by rw [List.length_map]; exact hz)
theorem dn_strT {K : PySem.W.Frag} {x a : Addr} {H : Hp} {n : Nat} {l : List Str} (h : H a = some (.tup (l.map V.str))) (ne : a ≠ x) (hz : l.length ≤ 100000) : Dn K x H (n + 1) (.ref a) (.tuple (l.map .str)) := Dn.tup ne (SqT.of h) (dn_strs l) (by rw [List.length_map]; exact hz)
theorem dn_row {K : PySem.W.Frag} {x : Addr} {H : Hp} {n : Nat} {r : Row} {p pp : Addr} (hp : H p = some (.tup (rowL r pp))) (hpp : H pp = some (.tup (r.pars.map V.str))) (n1 : p ≠ x) (n2 : pp ≠ x) (hz : r.pars.length ≤ 1000) : Dn K x H (n + 2) (.ref p) (rowD r) :=
  Dn.tup n1 (SqT.of hp) (.cons (Dn.str _) (.cons (dn_strT hpp n2 (by omega)) (.cons (Dn.int _) (.cons (Dn.int _) (.cons (Dn.bl _) .nil))))) (by simp [rowL])
theorem rowsN_leA {F : Addr → Prop} {b : Bool} {H H' : Hp} {vs : List V} {rs : List Row} {A : List Addr} (h : RowsN F b H vs rs) (l : Le A H H') (n : ∀ a, F a → a ∉ A) : RowsN F b H' vs rs := rowsN_le h fun a o f e => l a o (n a f) e
/-- the rows' own addresses are taken -/
theorem rowsN_al {F : Addr → Prop} {b : Bool} {H : Hp} {vs : List V} {rs : List Row} (h : RowsN F b H vs rs) : RowsN (fun a => F a ∧ ∃ o, H a = some o) b H vs rs := L2.Paired.mapP h fun _ _ ⟨p, pp, e, f, g, x, y⟩ => ⟨p, pp, e, ⟨f, _, x⟩, ⟨g, _, y⟩, x, y⟩
def rowDb (b : Bool) (r : Row) : PyData := if b then .list [.str r.mark, .list (r.pars.map .str), .int r.least, .int r.most, .bool r.sh] else rowD r
theorem dn_rowN {K : PySem.W.Frag} {F : Addr → Prop} {x : Addr} {b : Bool} {H : Hp} {n : Nat} {v : V} {r : Row} (h : RowN F b H v r) (nx : ∀ a, F a → a ≠ x) (hz : r.pars.length ≤ 1000) : Dn K x H (n + 2) v (rowDb b r) := by
  obtain ⟨p, pp, rfl, f, g, hp, hpp⟩ := h
  cases b with
  | true =>
    have hp : H p = some (.lst (rowL r pp)) := hp
    have hpp : H pp = some (.lst (r.pars.map V.str)) := hpp
    exact Dn.lst (nx p f) (SqL.of hp) (.cons (Dn.str _) (.cons (dn_strL hpp (nx pp g) (by omega)) (.cons (Dn.int _) (.cons (Dn.int _) (.cons (Dn.bl _) .nil))))) (by simp [rowL])
  | false => exact dn_row hp hpp (nx p f) (nx pp g) hz
theorem dn_rowsN {K : PySem.W.Frag} {F : Addr → Prop} {x a : Addr} {b : Bool} {H : Hp} {vs : List V} {rs : List Row} (h : RowsN F b H vs rs) (ha : H a = some (.lst vs)) (na : a ≠ x) (nx : ∀ a, F a → a ≠ x) (hz : ∀ r ∈ rs, r.pars.length ≤ 1000) (hl : rs.length ≤ 1000) : Dn K x H 3 (.ref a) (.list (rs.map (rowDb b))) := by
  refine Dn.lst na (SqL.of ha) ?_ (by rw [pair_len' h]; omega)
  revert hz
  clear ha hl
  induction h with
  | nil => intro _; exact .nil
  | cons r t ih => intro hz; exact .cons (dn_rowN r nx (hz _ (by simp))) (ih fun q hq => hz q (by simp [hq]))
theorem GoodC.bnd {rs : List Row} (g : GoodC rs) : ∀ r ∈ rs, r.mark.length ≤ 8 ∧ r.pars.length ≤ 6 := fun r hr => by
  obtain ⟨a, _, _, d⟩ := g.row r hr
  unfold isMk at a
  rw [Bool.and_eq_true, decide_eq_true_iff] at a
  have := List.Nodup.length_le_of_subset d (g.pars r hr)
  unfold mks at this
  rw [List.length_map] at this
  have := g.len
  exact ⟨by omega, by omega⟩
end My

namespace L2
open PySem
theorem sl_listK {X : Cx} {K : PySem.W.Frag} (h : X.K = K) : SlR X (rSlL K) := h ▸ sl_list
end L2

namespace My
open PySem L2
/-! ### the rows that _law_rows draws -/
theorem int_at {js : List Int} {i : Int} (h0 : 0 ≤ i) (h1 : i < (js.length : Int)) : ∃ z, atI (js.map V.int) i = some (.int z) ∧ z ∈ js := by
  obtain ⟨v, hv, mv⟩ := at_ok (xs := js.map V.int) h0 (by rw [List.length_map]; exact h1)
  obtain ⟨z, hz, rfl⟩ := List.mem_map.mp mv
  exact ⟨z, hv, hz⟩
def spLRows (K : PySem.W.Frag) : Sp := fun vs H Q _ => ∃ (d t : Addr) (ex : Bool), vs = [.ref d, .ref t, .bl ex] ∧ Dr K H d t ∧
  ∀ (ms : List Str) (prs : List PRow) ws p H', PlanOk ms.length prs → (∀ r ∈ prs, r.most ≤ 3) → 1 ≤ ms.length → ms.length ≤ 3 → ms.Nodup → (∀ m ∈ ms, isMk m = true) → Dr K H' d t → But t H H' → H p = none → H' p = some (.lst ws) → RowsN (New H) true H' ws (prs.map (nameR ms)) → Q (.ref p) H'
theorem nm_take {ms : List Str} (nd : ms.Nodup) {j : Int} {k : Nat} (h0 : 0 ≤ j) (h1 : j < ms.length) (h : nm ms j ∈ ms.take k) : j < (k : Int) := by
  obtain ⟨n, rfl⟩ := Int.eq_ofNat_of_zero_le h0
  have hn : n < ms.length := by omega
  obtain ⟨i, hi, e⟩ := List.getElem_of_mem h
  rw [List.length_take] at hi
  rw [List.getElem_take] at e
  have e2 : nm ms (n : Int) = ms[n] := by unfold nm; rw [List.getD_eq_getElem?_getD, Int.toNat_natCast, List.getElem?_eq_getElem hn]; rfl
  rw [e2] at e
  have := (List.getElem_inj nd).mp e
  omega
theorem nm_mem {ms : List Str} {j : Int} (h0 : 0 ≤ j) (h1 : j < ms.length) : nm ms j ∈ ms := by
  obtain ⟨n, rfl⟩ := Int.eq_ofNat_of_zero_le h0
  have hn : n < ms.length := by omega
  unfold nm; rw [List.getD_eq_getElem?_getD, Int.toNat_natCast, List.getElem?_eq_getElem hn]; exact List.getElem_mem hn
section
variable {P : Program} {w : World} {K : PySem.W.Frag} {mg : Str → Option Value} {base : Heap}
set_option maxHeartbeats 16000000 in
theorem ok__law_rows (T : Txt K mg) : FnOk P w K mg base CX0 4 T.a__law_rows T.fd__law_rows ["_law_draws_here", "_law_at", "_law_exclusive"] (spLRows K) := by
  refine T.F__law_rows.ok sc__law_rows (fun vs H Q E h => ?_) (fun cdv A outer s H vs Q E hr h => ?_)
  · obtain ⟨d, t, ex, rfl, _⟩ := h; rfl
  · obtain ⟨d, t, ex, rfl, D0, q⟩ := h
    refine ⟨_, (pss_cons (ps_set (i := 3) sc__law_rows.nd rfl (.inr rfl) (pe_call (ok__law_marks T) (hr.mono (by omega)) (by rfl) T.g__law_marks T.F__law_marks.kp T.b__law_marks .nil pass0 (pa_cons (pv 0) (pa_cons (pv 1) (pa_cons (pe_ix ix_list (pe_lst (pa_cons (pe_int) (pa_cons (pe_int) (pa_cons (pe_int) pa_nil)))) (pe_call (ok__law_take T) (hr.mono (by omega)) (by rfl) T.g__law_take T.F__law_take.kp T.b__law_take .nil pass0 (pa_cons (pv 0) (pa_cons (pv 1) (pa_cons (pe_int) pa_nil)))) (fun _ _ => rfl)) pa_nil)))))
      (pss_cons (ps_set (i := 4) sc__law_rows.nd rfl (.inl rfl) (pe_lst pa_nil))
      (pss_cons (ps_for PassesOwn.never rfl (pi_range1 (by rfl) T.n_range (pa_cons (pe_callB call_len_seq (by rfl) T.n_len (by decide +kernel) (pa_cons (pv 3) pa_nil)) pa_nil)) (pg_name (i := 5) sc__law_rows.nd rfl (.inr rfl)) (pss_cons (ps_set (i := 6) sc__law_rows.nd rfl (.inr rfl) (pe_ix ix_list (pe_lst (pa_cons (pe_int) (pa_cons (pe_int) (pa_cons (pe_int) (pa_cons (pe_int) (pa_cons (pe_int) (pa_cons (pe_int) (pa_cons (pe_int) (pa_cons (pe_int) (pa_cons (pe_int) pa_nil)))))))))) (pe_call (ok__law_take T) (hr.mono (by omega)) (by rfl) T.g__law_take T.F__law_take.kp T.b__law_take .nil pass0 (pa_cons (pv 0) (pa_cons (pv 1) (pa_cons (pe_int) pa_nil)))) (fun _ _ => rfl)))
      (pss_cons (ps_setLc (i := 7) (own := [("_law_j", 8)]) (g := (gName 8)) (by rfl) sc__law_rows.nd rfl rfl (sw_true rfl rfl rfl (by decide +kernel)) (pi_range1 (by rfl) T.n_range (pa_cons (pe_callB call_len_seq (by rfl) T.n_len (by decide +kernel) (pa_cons (pv 3) pa_nil)) pa_nil)) (blkOk_by (own := [("_law_j", 8)]) (N := ["_law_draws_here", "_law_at", "_law_exclusive", "_law_marks_here", "_law_rows_here", "_law_k", "_law_mask", "_law_parents", "_law_j", "_law_most", "_law_least", "_law_mark", "_law_shared_here"]) (sc := defScope S__law_rows) (by decide +kernel)) (fun _ _ _ _ _ => (pg_name (i := 8) sc__law_rows.nd rfl (by first | exact .inl rfl | exact .inr rfl))) (fun _ _ _ _ _ => (pts_one (pt_cmpR op_eq (pe_op op_mod (pe_op op_fdiv (pv 6) (pe_ix (ixLK (K := K) rfl) (pe_lst (pa_cons (pe_int) (pa_cons (pe_int) (pa_cons (pe_int) pa_nil)))) (pv 8) (fun _ _ => rfl))) (pe_int)) (pe_int) (nomark _)))) (fun _ _ _ _ _ => (pe_ix (ixLK (K := K) rfl) (pv 3) (pv 8) (fun _ _ => rfl))))
      (pss_cons (ps_set (i := 9) sc__law_rows.nd rfl (.inl rfl) (pe_int))
      (pss_cons (ps_set (i := 10) sc__law_rows.nd rfl (.inl rfl) (pe_int))
      (C8.pss_cut (ps_if (pt_cmpR op_gt (pe_callB call_len_seq (by rfl) T.n_len (by decide +kernel) (pa_cons (pv 7) pa_nil)) (pe_int) (nomark _)) (pss_one (ps_set (i := 9) sc__law_rows.nd rfl (.inl rfl) (pe_ix ix_list (pe_lst (pa_cons (pe_int) (pa_cons (pe_int) (pa_cons (pe_int) (pa_cons (pe_int) pa_nil))))) (pe_call (ok__law_take T) (hr.mono (by omega)) (by rfl) T.g__law_take T.F__law_take.kp T.b__law_take .nil pass0 (pa_cons (pv 0) (pa_cons (pv 1) (pa_cons (pe_int) pa_nil)))) (fun _ _ => rfl)))) pss_nil)
      (C8.pss_cut (ps_if (pt_cmpR op_gt (pe_callB call_len_seq (by rfl) T.n_len (by decide +kernel) (pa_cons (pe_lc (own := [("_law_mark", 11)]) (g := (gName 11)) (by rfl) sc__law_rows.nd (pi_list (pv 7)) (blkOk_by (own := [("_law_mark", 11)]) (N := ["_law_draws_here", "_law_at", "_law_exclusive", "_law_marks_here", "_law_rows_here", "_law_k", "_law_mask", "_law_parents", "_law_j", "_law_most", "_law_least", "_law_mark", "_law_shared_here"]) (sc := defScope S__law_rows) (by decide +kernel)) (fun _ _ _ _ _ => (pg_name (i := 11) sc__law_rows.nd rfl (by first | exact .inl rfl | exact .inr rfl))) (fun _ _ _ _ _ => (pts_one (pt_cmpR (inK (K := K) rfl) (pv 11) (pe_slice (sl_listK (K := K) rfl) (pv 3) po_none (po_some (pv 5))) (by with_unfolding_all rfl)))) (fun _ _ _ _ _ => (pv 11))) pa_nil)) (pe_int) (nomark _)) (pss_one (ps_set (i := 10) sc__law_rows.nd rfl (.inl rfl) (pe_ix ix_list (pe_lst (pa_cons (pe_int) (pa_cons (pe_int) (pa_cons (pe_int) (pa_cons (pe_int) pa_nil))))) (pe_call (ok__law_take T) (hr.mono (by omega)) (by rfl) T.g__law_take T.F__law_take.kp T.b__law_take .nil pass0 (pa_cons (pv 0) (pa_cons (pv 1) (pa_cons (pe_int) pa_nil)))) (fun _ _ => rfl)))) pss_nil)
      (C8.pss_cut (ps_if (pt_cmpR op_gt (pv 10) (pv 9) (nomark _)) (pss_one (ps_set (i := 10) sc__law_rows.nd rfl (.inl rfl) (pv 9))) pss_nil)
      (C8.pss_cut (ps_set (i := 12) sc__law_rows.nd rfl (.inl rfl) (pe_and (pe_cmpR op_eq (pe_call (ok__law_take T) (hr.mono (by omega)) (by rfl) T.g__law_take T.F__law_take.kp T.b__law_take .nil pass0 (pa_cons (pv 0) (pa_cons (pv 1) (pa_cons (pe_int) pa_nil)))) (pe_int) (nomark _)) (pe_one (pe_not (pv 2)))))
      (pss_one (ps_expr (pe_bm PySem.F.plainAttrs_list PySem.F.slot_list_append PySem.F.type_list_append mt_append (pv 4) (pa_cons (pe_lst (pa_cons (pe_ix ix_list (pv 3) (pv 5) (fun _ _ => rfl)) (pa_cons (pv 7) (pa_cons (pv 10) (pa_cons (pv 9) (pa_cons (pv 12) pa_nil)))))) pa_nil)))))))))))))
      (pss_one (ps_ret (pv 4)))))), ?_⟩
    have big : 100000 < sizeLine := by decide
    refine ⟨_, rfl, _, rfl, by show 3 ≤ sizeLine; decide, fun u0 nu0 => ?_⟩
    have s0 := same_new (o := .lst [.int 2, .int 1, .int 3]) nu0
    refine ⟨_, rfl, _, rfl, d, t, 3, rfl, D0.same s0, by decide, fun r Ha r0 r1 Da ba => ?_⟩
    obtain ⟨z, hz, mz⟩ := int_at (js := [2, 1, 3]) r0 r1
    obtain ⟨n, rfl, n1, n3⟩ : ∃ n : Nat, z = n ∧ 1 ≤ n ∧ n ≤ 3 := by
      simp only [List.mem_cons, List.not_mem_nil, or_false] at mz
      exact ⟨z.toNat, by omega, by omega, by omega⟩
    refine ⟨_, _, _, _, rfl, rfl, SqL.of (ba _ _ (D0.na nu0) upd_same), hz, ?_⟩
    refine ⟨d, t, n, rfl, Da, by omega, fun ms mk Hb lms nms oms Db bb nmk hmk => ?_⟩
    have tb : But t H Hb := ((But.of_same s0).trans ba).trans bb
    have nmt : mk ≠ t := Da.na nmk
    refine ⟨Nat.zero_le _, fun l hl0 => ?_⟩
    have nlt : l ≠ t := Db.na hl0
    have ndl : d ≠ l := Db.nd hl0
    have nml : mk ≠ l := ne_of_none hmk hl0
    have nl0 : H l = none := tb.free nlt hl0
    have s1 := same_new (o := .lst []) hl0
    refine ⟨_, rfl, mk, _, rfl, .inl (SqL.of (s1 _ _ hmk)), ms.length, by rw [List.length_map], by omega, by omega, for_range (lo := 0) (n := ms.length) (fun k σ H' => ∃ (prs : List PRow) (us : List V) (x5 x6 x7 x9 x10 x12 : Option V), σ = [some (.ref d), some (.ref t), some (.bl ex), some (.ref mk), some (.ref l), x5, x6, x7, none, x9, x10, none, x12] ∧ Dr K H' d t ∧ But t H H' ∧ H' mk = some (.lst (ms.map V.str)) ∧ H' l = some (.lst us) ∧ RowsN (fun a => H a = none ∧ a ≠ l) true H' us (prs.map (nameR ms)) ∧ prs.length = k ∧ ∀ j r, prs[j]? = some r → PrOk ms.length j r ∧ r.most ≤ 3)
      ⟨[], [], _, _, _, _, _, _, rfl, Db.same s1, tb.trans (But.of_same s1), s1 _ _ hmk, upd_same, .nil, rfl, fun j r h => by simp at h⟩ ?_ ?_⟩
    rotate_left
    · rintro σ H2 ⟨prs, us, x5, x6, x7, x9, x10, x12, rfl, D2, b2, hmk2, hl2, pv, lk, ok⟩
      exact ⟨_, rfl, q ms prs us l H2 ⟨lk, fun j r h => (ok j r h).1⟩ (fun r hr => (by obtain ⟨j, hj⟩ := List.mem_iff_getElem?.mp hr; exact (ok j r hj).2)) (by omega) (by omega) nms oms D2 b2 nl0 hl2 (rowsN_sub pv fun a f => f.1)⟩
    rintro k σ H2 hk ⟨prs, us, x5, x6, x7, x9, x10, x12, rfl, D2, b2, hmk2, hl2, pv, lk, ok⟩
    rw [Int.zero_add]
    have up : ∀ {H3 : Hp}, But t H2 H3 → But t H H3 ∧ H3 mk = some (.lst (ms.map V.str)) ∧ H3 l = some (.lst us) ∧ RowsN (fun a => H a = none ∧ a ≠ l) true H3 us (prs.map (nameR ms)) := fun b3 => ⟨b2.trans b3, b3 _ _ nmt hmk2, b3 _ _ nlt hl2, rowsN_le pv fun a o f e => b3 _ _ (D0.na f.1) e⟩
    -- the mask
    refine ⟨by show 9 ≤ sizeLine; decide, fun u1 nu1 => ?_⟩
    have s2 := same_new (o := .lst [.int 7, .int 1, .int 2, .int 3, .int 5, .int 6, .int 7, .int 4, .int 0]) nu1
    refine ⟨_, rfl, _, rfl, d, t, 9, rfl, D2.same s2, by decide, fun r H3 r0 r1 D3 b3 => ?_⟩
    obtain ⟨mask, hmask, _⟩ := int_at (js := [7, 1, 2, 3, 5, 6, 7, 4, 0]) r0 r1
    refine ⟨_, _, _, _, rfl, rfl, SqL.of (b3 _ _ (D2.na nu1) upd_same), hmask, ?_⟩
    have b3 := (But.of_same (a := t) s2).trans b3
    obtain ⟨_, hmk3, _, _⟩ := up b3
    -- the parents
    refine ⟨_, rfl, mk, _, rfl, .inl (SqL.of hmk3), _, rfl, by omega, by rw [List.length_map]; omega, fun D hD => ?_⟩
    rw [List.length_map]
    refine lc_range (lo := 0) (n := ms.length) (fun i H' => ∃ js : List Int, Same H3 H' ∧ H' D = some (.lst ((js.map (nm ms)).map V.str)) ∧ listOk i js) ⟨[], same_new hD, upd_same, List.nodup_nil, fun j h => by cases h⟩ ?_ ?_
    · rintro i H4 hi ⟨js, s4, h4, lo⟩
      rw [Int.zero_add]
      obtain ⟨z, hz, z0, z4⟩ : ∃ z : Int, atI [V.int 1, .int 2, .int 4] ((i : Nat) : Int) = some (.int z) ∧ 0 < z ∧ z ≤ 4 := by
        match i, (show i < 3 by omega) with
        | 0, _ => exact ⟨1, rfl, by decide, by decide⟩
        | 1, _ => exact ⟨2, rfl, by decide, by decide⟩
        | 2, _ => exact ⟨4, rfl, by decide, by decide⟩
      refine ⟨rfl, _, rfl, by show 3 ≤ sizeLine; decide, fun u nu => ?_⟩
      have s5 := s4.trans (same_new (o := .lst [.int 1, .int 2, .int 4]) nu)
      have h5 := same_new (o := .lst [.int 1, .int 2, .int 4]) nu _ _ h4
      have hu : (upd H4 u (.lst [.int 1, .int 2, .int 4])) u = some (.lst [.int 1, .int 2, .int 4]) := upd_same
      revert s5 h5 hu
      generalize upd H4 u (.lst [.int 1, .int 2, .int 4]) = H5
      intro s5 h5 hu
      refine ⟨_, rfl, _, _, _, _, rfl, rfl, SqL.of hu, hz, _, _, rfl, rfl, ⟨z0, by omega⟩, _, _, rfl, rfl, (show (0 : Int) < 2 by decide), rfl, _, rfl, iteD (fun c => ?_) (fun c => ?_)⟩
      · have nd : js.length ≤ i := lst_len lo
        refine ⟨_, rfl, _, rfl, _, _, _, _, rfl, rfl, SqL.of (s5 _ _ hmk3), nm_at (by omega) (by omega), _, h5, by rw [List.length_map, List.length_map]; omega, js ++ [(i : Int)], same_mut s5 hD, by rw [upd_same, List.map_append, List.map_append]; rfl, ?_, ?_⟩
        · rw [List.nodup_append]
          exact ⟨lo.1, by simp, fun a ha b hb e => by rw [List.mem_singleton] at hb; have := lo.2 a ha; omega⟩
        · intro j hj
          rcases List.mem_append.mp hj with hj | hj
          · have := lo.2 j hj; omega
          · rw [List.mem_singleton.mp hj]; omega
      · exact ⟨js, s5, h5, lo.1, fun j hj => by have := lo.2 j hj; omega⟩
    rintro H4 ⟨js, s4, hD4, lo⟩
    have D4 := D3.same s4
    have b4 : But t H2 H4 := b3.trans (But.of_same s4)
    have nDt : D ≠ t := D3.na hD
    obtain ⟨_, _, hl3, _⟩ := up b3
    have nDl : D ≠ l := (ne_of_none hl3 hD).symm
    have nD0 : H D = none := (b2.trans b3).free nDt hD
    have lj := lst_len lo
    have ljs : ((js.map (nm ms)).map V.str).length = js.length := by rw [List.length_map, List.length_map]
    -- most
    refine ⟨fun σ' H' => ∃ (m : Int), σ' = [some (.ref d), some (.ref t), some (.bl ex), some (.ref mk), some (.ref l), some (.int k), some (.int mask), some (.ref D), none, some (.int m), some (.int 0), none, x12] ∧ Dr K H' d t ∧ But t H2 H' ∧ H' D = some (.lst ((js.map (nm ms)).map V.str)) ∧ 0 ≤ m ∧ m ≤ 3 ∧ (0 < m ↔ js ≠ []), ?_, ?_⟩
    · refine ⟨_, rfl, D, _, rfl, .inl (SqL.of hD4), _, _, rfl, rfl, _, rfl, iteD (fun c => ?_) (fun c => ?_)⟩
      · rw [ljs] at c
        refine ⟨by show 4 ≤ sizeLine; decide, fun u nu => ?_⟩
        have s5 := same_new (o := .lst [.int 1, .int 2, .int 3, .int 1]) nu
        refine ⟨_, rfl, _, rfl, d, t, 4, rfl, D4.same s5, by decide, fun r H5 r0 r1 D5 b5 => ?_⟩
        obtain ⟨m, hm, mm⟩ := int_at (js := [1, 2, 3, 1]) r0 r1
        simp only [List.mem_cons, List.not_mem_nil, or_false] at mm
        refine ⟨_, _, _, _, rfl, rfl, SqL.of (b5 _ _ (D4.na nu) upd_same), hm, ?_⟩
        refine ⟨m, rfl, D5, (b4.trans (But.of_same s5)).trans b5, b5 _ _ nDt (s5 _ _ hD4), by omega, by omega, fun _ z => ?_, fun _ => by omega⟩
        rw [z] at c; simp at c
      · rw [ljs] at c
        have e : js = [] := by
          cases js with
          | nil => rfl
          | cons a r => exact absurd (by simp) c
        exact ⟨0, rfl, D4, b4, hD4, Int.le_refl _, by decide, fun z => absurd z (by decide), fun z => absurd e z⟩
    rintro σ' H5 ⟨m, rfl, D5, b5, hD5, m0, m4, mj⟩
    obtain ⟨_, hmk5, _, _⟩ := up b5
    -- least
    refine ⟨fun σ' H' => ∃ (m2 : Int), σ' = [some (.ref d), some (.ref t), some (.bl ex), some (.ref mk), some (.ref l), some (.int k), some (.int mask), some (.ref D), none, some (.int m), some (.int m2), none, x12] ∧ Dr K H' d t ∧ But t H2 H' ∧ H' D = some (.lst ((js.map (nm ms)).map V.str)) ∧ 0 ≤ m2 ∧ (m2 ≠ 0 → ∃ j ∈ js, j < (k : Int)), ?_, ?_⟩
    · refine ⟨_, rfl, D, rfl, ⟨_, SqL.of hD5⟩, fun D' hD' => lc_list (K := K) (a := D) (xs := (js.map (nm ms)).map V.str) (fun i H' => ∃ fs, Same H5 H' ∧ H' D' = some (.lst fs) ∧ fs.length ≤ i ∧ (fs ≠ [] → ∃ j ∈ js, j < (k : Int))) ⟨[], same_new hD', upd_same, Nat.le_refl _, fun h => absurd rfl h⟩ (fun i H' _ ⟨_, s, _⟩ => SqL.of (s _ _ hD5)) ?_ ?_⟩
      · rintro i v H6 hv ⟨fs, s6, h6, lf, pf⟩
        rw [List.getElem?_map, List.getElem?_map] at hv
        obtain ⟨j, hj⟩ : ∃ j, js[i]? = some j := by
          cases e : js[i]? with
          | none => rw [e] at hv; cases hv
          | some j => exact ⟨j, rfl⟩
        rw [hj] at hv
        obtain rfl := Option.some.inj hv
        have mjs := List.mem_of_getElem? hj
        have oj := lo.2 j mjs
        have hi := (List.getElem?_eq_some_iff.mp hj).1
        refine ⟨rfl, _, rfl, _, rfl, _, rfl, _, rfl, mk, _, rfl, SqL.of (s6 _ _ hmk5), fun c hc => ?_⟩
        have ct : cutV (ms.map V.str) none (some ((k : Nat) : Int)) = (ms.take k).map V.str := by rw [cut_to, List.map_take]
        have s7 := s6.trans (same_new (o := .lst (cutV (ms.map V.str) none (some ((k : Nat) : Int)))) hc)
        refine ⟨_, _, rfl, .inl (SqL.of upd_same), rfl, by rw [ct]; exact flat_strs _, ?_⟩
        rw [show (if false = true then !inV (V.str (nm ms j)) (cutV (ms.map V.str) none (some ((k : Nat) : Int))) else inV (V.str (nm ms j)) (cutV (ms.map V.str) none (some ((k : Nat) : Int)))) = decide (nm ms j ∈ ms.take k) by rw [if_neg Bool.false_ne_true, ct, in_strs]]
        refine ⟨_, rfl, iteD (fun m => ?_) (fun m => ?_)⟩
        · exact ⟨_, rfl, _, (same_new hc _ _ h6), by omega, fs ++ [.str (nm ms j)], same_mut s7 hD', upd_same, by rw [List.length_append]; simp; omega, fun _ => ⟨j, mjs, nm_take nms oj.1 oj.2 m⟩⟩
        · exact ⟨fs, s7, same_new hc _ _ h6, by omega, pf⟩
      · rintro H6 ⟨fs, s6, h6, lf, pf⟩
        refine ⟨D', _, rfl, .inl (SqL.of h6), _, _, rfl, rfl, _, rfl, iteD (fun c => ?_) (fun c => ?_)⟩
        · have ex2 := pf fun z => by rw [z] at c; simp at c
          have D6 := D5.same s6
          refine ⟨by show 4 ≤ sizeLine; decide, fun u hu => ?_⟩
          have s7 := same_new (o := .lst [.int 0, .int 0, .int 1, .int 2]) hu
          refine ⟨_, rfl, _, rfl, d, t, 4, rfl, D6.same s7, by decide, fun r H8 r0 r1 D8 b8 => ?_⟩
          obtain ⟨m2, hm2, mm2⟩ := int_at (js := [0, 0, 1, 2]) r0 r1
          simp only [List.mem_cons, List.not_mem_nil, or_false] at mm2
          refine ⟨_, _, _, _, rfl, rfl, SqL.of (b8 _ _ (D6.na hu) upd_same), hm2, ?_⟩
          exact ⟨m2, rfl, D8, ((b5.trans (But.of_same s6)).trans (But.of_same s7)).trans b8, b8 _ _ nDt (s7 _ _ (s6 _ _ hD5)), by omega, fun _ => ex2⟩
        · exact ⟨0, rfl, D5.same s6, b5.trans (But.of_same s6), s6 _ _ hD5, Int.le_refl _, fun z => absurd rfl z⟩
    rintro σ' H6 ⟨m2, rfl, D6, b6, hD6, z0, zl⟩
    refine ⟨fun σ' H' => ∃ (m3 : Int), H' = H6 ∧ σ' = [some (.ref d), some (.ref t), some (.bl ex), some (.ref mk), some (.ref l), some (.int k), some (.int mask), some (.ref D), none, some (.int m), some (.int m3), none, x12] ∧ 0 ≤ m3 ∧ m3 ≤ m ∧ (m3 ≠ 0 → ∃ j ∈ js, j < (k : Int)), ?_, ?_⟩
    · refine ⟨_, rfl, _, rfl, _, _, rfl, rfl, _, rfl, iteD (fun c => ?_) (fun c => ?_)⟩
      · exact ⟨_, rfl, m, rfl, rfl, m0, Int.le_refl _, fun _ => zl (by omega)⟩
      · exact ⟨m2, rfl, rfl, z0, by omega, zl⟩
    rintro σ' H7 ⟨m3, rfl, rfl, z0, z1, zl⟩
    refine ⟨fun σ' H' => ∃ (sh : Bool), σ' = [some (.ref d), some (.ref t), some (.bl ex), some (.ref mk), some (.ref l), some (.int k), some (.int mask), some (.ref D), none, some (.int m), some (.int m3), none, some (.bl sh)] ∧ Dr K H' d t ∧ But t H2 H' ∧ H' D = some (.lst ((js.map (nm ms)).map V.str)), ?_, ?_⟩
    · refine ⟨_, rfl, _, rfl, d, t, 3, rfl, D6, by decide, fun r H8 _ _ D8 b8 => ⟨rfl, _, rfl, ?_⟩⟩
      have e8 := b8 _ _ nDt hD6
      exact iteD (fun _ => ⟨_, rfl, _, rfl, _, rfl, D8, b6.trans b8, e8⟩) (fun _ => ⟨_, rfl, D8, b6.trans b8, e8⟩)
    rintro σ' H8 ⟨sh, rfl, D8, b8, hD8⟩
    obtain ⟨b8', hmk8, hl8, pv8⟩ := up b8
    refine ⟨_, rfl, .inl ⟨rfl, _, SqL.of hl8⟩, _, rfl, _, rfl, _, _, _, _, rfl, rfl, SqL.of hmk8, nm_at (by omega) (by omega), _, rfl, _, rfl, _, rfl, _, rfl, by show 5 ≤ sizeLine; decide, fun u hu => ?_⟩
    have s9 := same_new (o := .lst [.str (nm ms (k : Nat)), .ref D, .int m3, .int m, .bl sh]) hu
    have nul : l ≠ u := ne_of_none hl8 hu
    have nut := D8.na hu
    have nu0' : H u = none := b8'.free nut hu
    have lus : us.length = k := by rw [pair_len' pv, List.length_map, lk]
    refine ⟨_, _, _, rfl, rfl, s9 _ _ hl8, by omega, ?_⟩
    refine ⟨prs ++ [⟨k, js, m3, m, sh⟩], us ++ [.ref u], _, _, _, _, _, _, rfl, (D8.same s9).other But.upd ndl nlt.symm, (b8'.trans (But.of_same s9)).mut nl0, by rw [upd_ne nml]; exact s9 _ _ hmk8, upd_same, ?_, by rw [List.length_append, lk]; rfl, ?_⟩
    · rw [List.map_append]
      refine pair_app' (rowsN_le pv8 fun a o f e => by rw [upd_ne f.2]; exact s9 _ _ e) (.cons ⟨u, D, rfl, ⟨nu0', nul.symm⟩, ⟨nD0, nDl⟩, ?_, ?_⟩ .nil)
      · rw [upd_ne nul.symm]; exact upd_same
      · rw [upd_ne nDl]; exact s9 _ _ hD8
    · intro j r h
      rw [List.getElem?_append] at h
      split at h
      · exact ok j r h
      · rename_i c
        rw [lk] at h c
        obtain rfl : j = k := by
          have := (List.getElem?_eq_some_iff.mp h).1
          simp at this; omega
        simp at h
        subst h
        exact ⟨⟨rfl, lo, z0, z1, by show m ≤ 4; omega, mj, zl⟩, m4⟩
end
end My

namespace My
open PySem L2
/-! ### things that fit: _law_next -/
def MtN (A : List Addr) (H : Hp) (v : V) (th : Th) : Prop := ∃ p pp, v = .ref p ∧ p ∉ A ∧ pp ∉ A ∧ H p = some (.lst [.str th.1, .ref pp]) ∧ H pp = some (.lst (th.2.map V.int))
abbrev MtsN (A : List Addr) (H : Hp) (vs : List V) (ts : List Th) : Prop := Paired (MtN A H) vs ts
theorem MtN.le {A : List Addr} {H H' : Hp} {v : V} {t : Th} (h : MtN A H v t) (l : Le A H H') : MtN A H' v t := let ⟨p, pp, e, a, b, x, y⟩ := h; ⟨p, pp, e, a, b, l _ _ a x, l _ _ b y⟩
theorem mtsN_le {A : List Addr} {H H' : Hp} {vs : List V} {ts : List Th} (h : MtsN A H vs ts) (l : Le A H H') : MtsN A H' vs ts := L2.Paired.mapP h fun _ _ x => x.le l
theorem mt_at {A : List Addr} {H : Hp} {us : List V} {ts : List Th} (h : MtsN A H us ts) {p : Int} (i : inW ts p) : ∃ q pp, atI us p = some (.ref q) ∧ q ∉ A ∧ pp ∉ A ∧ H q = some (.lst [.str (markW ts p), .ref pp]) := by
  obtain ⟨t, ht, em⟩ := inW_get i
  have l := pair_len' h
  have hp : p.toNat < us.length := by unfold inW at i; omega
  obtain ⟨t', ht', q, pp, e, a, b, x, _⟩ := pair_get' h (List.getElem?_eq_getElem hp)
  rw [ht] at ht'
  obtain rfl := Option.some.inj ht'
  refine ⟨q, pp, at_of (j := p.toNat) (by unfold inW at i; omega) (by rw [List.getElem?_eq_getElem hp, e]), a, b, by rw [em]; exact x⟩
theorem good_find {rs : List Row} (g : Good rs) {i : Nat} {r : Row} (h : rs[i]? = some r) : findR rs r.mark = some r := findR_at h rfl fun q hq e => (fineB_iff.mp (g.fine i r h)).2 (e ▸ List.mem_map.mpr ⟨q, hq, rfl⟩)
def ableN (ts : List Th) (r : Row) (i : Nat) : List Int := ((List.range i).map fun j => ((j : Nat) : Int)).filter fun j => decide (markW ts j ∈ r.pars)
theorem ableN_succ (ts : List Th) (r : Row) (i : Nat) : ableN ts r (i + 1) = ableN ts r i ++ if markW ts (i : Nat) ∈ r.pars then [((i : Nat) : Int)] else [] := by
  unfold ableN
  rw [List.range_succ, List.map_append, List.filter_append]
  congr 1
  simp [List.filter_cons]
theorem ableN_len (ts : List Th) (r : Row) (i : Nat) : (ableN ts r i).length ≤ i := by
  have := List.length_filter_le (fun j => decide (markW ts j ∈ r.pars)) ((List.range i).map fun j => ((j : Nat) : Int))
  rw [List.length_map, List.length_range] at this
  exact this
theorem ableN_mem {ts : List Th} {r : Row} {i : Nat} {j : Int} (h : j ∈ ableN ts r i) : 0 ≤ j ∧ j < i ∧ markW ts j ∈ r.pars := by
  obtain ⟨h1, h2⟩ := List.mem_filter.mp h
  obtain ⟨k, hk, rfl⟩ := List.mem_map.mp h1
  have := List.mem_range.mp hk
  exact ⟨by omega, by omega, of_decide_eq_true h2⟩
theorem ableN_nd (ts : List Th) (r : Row) (i : Nat) : (ableN ts r i).Nodup := by
  refine List.Pairwise.filter _ (List.pairwise_map.mpr (List.Pairwise.imp (fun {a b} h e => h (by omega)) List.nodup_range))
theorem able_n {K : PySem.W.Frag} {A : List Addr} {x0 x1 x2 x3 x5 x7 x8 x9 x10 x11 x12 : Option V} {M p pp : Addr} {us : List V} {ts : List Th} {r : Row} {H : Hp} {Q : VK} (hM : H M = some (.lst us)) (mM : MtsN A H us ts) (hp : H p = some (.lst (rowL r pp))) (hpp : H pp = some (.lst (r.pars.map V.str))) (lu : us.length ≤ 1000)
    (q : ∀ D H', Same H H' → H D = none → H' D = some (.lst ((ableN ts r ts.length).map V.int)) → Q (.ref D) H') :
    tLc (iRng1 (tCons (tCB (fun xs H Q => ∃ p ys, xs = [V.ref p] ∧ (SqL K H p ys ∨ SqT K H p ys) ∧ Q (.int ((ys.length : Nat) : Int)) H) (tCons (tVar 3) tNil)) tNil)) (gName 6) (tTest (tOp (rIn K false) (tOp (rIxL K) (tOp (rIxL K) (tVar 3) (tVar 6)) (tC (.int 0))) (tOp (rIxL K) (tVar 4) (tC (.int 1))))) (tVar 6) [6]
      [x0, x1, x2, some (.ref M), some (.ref p), x5, none, x7, x8, x9, x10] H Q := by
  have big : 100000 < sizeLine := by decide
  have lts := pair_len' mM
  refine ⟨_, rfl, M, _, rfl, .inl (SqL.of hM), _, rfl, by omega, by omega, fun D hD => lc_range (lo := 0) (n := us.length) (fun i H' => Same H H' ∧ H' D = some (.lst ((ableN ts r i).map V.int))) ⟨same_new hD, upd_same⟩ ?_ ?_⟩
  · rintro i H1 hi ⟨s1, h1⟩
    rw [Int.zero_add]
    obtain ⟨b, bp, ha, _, _, hb⟩ := mt_at mM (p := (i : Nat)) ⟨by omega, by omega⟩
    refine ⟨rfl, _, rfl, _, rfl, _, _, _, _, rfl, rfl, SqL.of (s1 _ _ hM), ha, _, _, _, _, rfl, rfl, SqL.of (s1 _ _ hb), atI_nat (j := 0) rfl, _, rfl, _, _, _, _, rfl, rfl, SqL.of (s1 _ _ hp), atI_nat (j := 1) rfl, _, _, rfl, .inl (SqL.of (s1 _ _ hpp)), rfl, flat_strs _, ?_⟩
    rw [in_strs]
    have ln := ableN_len ts r i
    refine ⟨_, rfl, iteD (fun c => ?_) (fun c => ⟨s1, by rw [ableN_succ, if_neg c, List.append_nil]; exact h1⟩)⟩
    exact ⟨_, rfl, _, h1, by rw [List.length_map]; omega, same_mut s1 hD, by rw [upd_same, ints_app, ableN_succ, if_pos c]⟩
  · rintro H1 ⟨s1, h1⟩
    rw [lts] at h1
    exact q D H1 s1 hD h1
theorem able_t {K : PySem.W.Frag} {A : List Addr} {x0 x1 x2 x3 x5 x7 x8 x9 x10 x11 x12 : Option V} {M p pp : Addr} {us : List V} {ts : List Th} {r : Row} {H : Hp} {Q : VK} (hM : H M = some (.lst us)) (mM : MtsN A H us ts) (hp : H p = some (.lst (rowL r pp))) (hpp : H pp = some (.lst (r.pars.map V.str))) (lu : us.length ≤ 1000)
    (q : ∀ D H', Same H H' → H D = none → H' D = some (.lst ((ableN ts r ts.length).map V.int)) → Q (.ref D) H') :
    tLc (iRng1 (tCons (tCB (fun xs H Q => ∃ p ys, xs = [V.ref p] ∧ (SqL K H p ys ∨ SqT K H p ys) ∧ Q (.int ((ys.length : Nat) : Int)) H) (tCons (tVar 4) tNil)) tNil)) (gName 8) (tTest (tOp (rIn K false) (tOp (rIxL K) (tOp (rIxL K) (tVar 4) (tVar 8)) (tC (.int 0))) (tOp (rIxL K) (tVar 6) (tC (.int 1))))) (tVar 8) [8]
      [x0, x1, x2, x3, some (.ref M), x5, some (.ref p), x7, x8, x9, x10, x11, x12] H Q := by
  have big : 100000 < sizeLine := by decide
  have lts := pair_len' mM
  refine ⟨_, rfl, M, _, rfl, .inl (SqL.of hM), _, rfl, by omega, by omega, fun D hD => lc_range (lo := 0) (n := us.length) (fun i H' => Same H H' ∧ H' D = some (.lst ((ableN ts r i).map V.int))) ⟨same_new hD, upd_same⟩ ?_ ?_⟩
  · rintro i H1 hi ⟨s1, h1⟩
    rw [Int.zero_add]
    obtain ⟨b, bp, ha, _, _, hb⟩ := mt_at mM (p := (i : Nat)) ⟨by omega, by omega⟩
    refine ⟨rfl, _, rfl, _, rfl, _, _, _, _, rfl, rfl, SqL.of (s1 _ _ hM), ha, _, _, _, _, rfl, rfl, SqL.of (s1 _ _ hb), atI_nat (j := 0) rfl, _, rfl, _, _, _, _, rfl, rfl, SqL.of (s1 _ _ hp), atI_nat (j := 1) rfl, _, _, rfl, .inl (SqL.of (s1 _ _ hpp)), rfl, flat_strs _, ?_⟩
    rw [in_strs]
    have ln := ableN_len ts r i
    refine ⟨_, rfl, iteD (fun c => ?_) (fun c => ⟨s1, by rw [ableN_succ, if_neg c, List.append_nil]; exact h1⟩)⟩
    exact ⟨_, rfl, _, h1, by rw [List.length_map]; omega, same_mut s1 hD, by rw [upd_same, ints_app, ableN_succ, if_pos c]⟩
  · rintro H1 ⟨s1, h1⟩
    rw [lts] at h1
    exact q D H1 s1 hD h1
def spLNext (K : PySem.W.Frag) : Sp := fun vs H Q _ => ∃ (d t R M : Addr) (rs : List Row) (ws us : List V) (ts : List Th), vs = [.ref d, .ref t, .ref R, .ref M] ∧ Dr K H d t ∧ H R = some (.lst ws) ∧ R ≠ t ∧ RowsN (fun a => a ≠ t) true H ws rs ∧ 1 ≤ ws.length ∧ GoodC rs ∧ (∀ r, rs[0]? = some r → r.least = 0) ∧ (∀ r ∈ rs, r.most ≤ 3) ∧ H M = some (.lst us) ∧ M ≠ t ∧ MtsN [t] H us ts ∧ us.length ≤ 990 ∧
  ∀ (z : Str) (ps : List Int) q pa H', PGood rs ts z ps → ps.length ≤ 3 → z.length ≤ 8 → Dr K H' d t → But t H H' → H q = none → H' q = some (.lst [.str z, .ref pa]) → H pa = none → H' pa = some (.lst (ps.map V.int)) → Q (.ref q) H'
theorem row_ne_ints {H : Hp} {p q : Addr} {r : Row} {c : Addr} {js : List Int} (hp : H p = some (.lst (rowL r c))) (hq : H q = some (.lst (js.map V.int))) : p ≠ q := fun e => by
  rw [e, hq] at hp
  have h := HO.lst.inj (Option.some.inj hp)
  match js, h with
  | _ :: _, h => simp [rowL] at h
theorem perm_pick {α : Type} {cs as l : List α} {i : Nat} {x : α} (h : (cs ++ as).Perm l) (hx : as[i]? = some x) : ((cs ++ [x]) ++ (as.take i ++ as.drop (i + 1))).Perm l := by
  obtain ⟨hi, e⟩ := List.getElem?_eq_some_iff.mp hx
  refine List.Perm.trans ?_ h
  rw [List.append_assoc]
  refine List.Perm.append_left cs ?_
  have e2 : as = as.take i ++ x :: as.drop (i + 1) := by rw [← e, ← List.drop_eq_getElem_cons hi, List.take_append_drop]
  have e3 := (List.perm_middle (a := x) (l₁ := as.take i) (l₂ := as.drop (i + 1))).symm
  rw [← e2] at e3
  exact e3
end My

namespace My
open PySem L2
/-! ### _law_things -/
def ThsOk (rs : List Row) (ts : List Th) : Prop := ∀ k th, ts[k]? = some th → PGood rs (ts.take k) th.1 th.2 ∧ th.2.length ≤ 3 ∧ th.1.length ≤ 8
def spLThings (K : PySem.W.Frag) : Sp := fun vs H Q _ => ∃ (d t R : Addr) (n : Nat) (rs : List Row) (ws : List V), vs = [.ref d, .ref t, .ref R, .int n] ∧ Dr K H d t ∧ H R = some (.lst ws) ∧ R ≠ t ∧ RowsN (fun a => a ≠ t) true H ws rs ∧ 1 ≤ ws.length ∧ GoodC rs ∧ (∀ r, rs[0]? = some r → r.least = 0) ∧ (∀ r ∈ rs, r.most ≤ 3) ∧ n ≤ 900 ∧
  ∀ us ts p H', ThsOk rs ts → ts.length = n → Dr K H' d t → But t H H' → H p = none → H' p = some (.lst us) → MtsN [t] H' us ts → Q (.ref p) H'
theorem ths_app {rs : List Row} {ts : List Th} {th : Th} (h : ThsOk rs ts) (g : PGood rs ts th.1 th.2) (l : th.2.length ≤ 3) (m : th.1.length ≤ 8) : ThsOk rs (ts ++ [th]) := fun k x hx => by
  by_cases c : k < ts.length
  · rw [List.getElem?_append_left c] at hx
    rw [List.take_append_of_le_length (by omega)]
    exact h k x hx
  · have hk : k < (ts ++ [th]).length := (List.getElem?_eq_some_iff.mp hx).1
    rw [List.length_append] at hk
    obtain rfl : k = ts.length := by simp at hk; omega
    rw [List.getElem?_append_right (Nat.le_refl _)] at hx
    simp at hx
    subst hx
    rw [List.take_append_of_le_length (Nat.le_refl _), List.take_length]
    exact ⟨g, l, m⟩
section
variable {P : Program} {w : World} {K : PySem.W.Frag} {mg : Str → Option Value} {base : Heap}
set_option maxHeartbeats 32000000 in
set_option pp.maxSteps 600 in
theorem ok__law_things (T : Txt K mg) : FnOk P w K mg base CX0 3 T.a__law_things T.fd__law_things ["_law_draws_here", "_law_at", "_law_rows_here", "_law_count"] (spLThings K) := by
  refine T.F__law_things.ok sc__law_things (fun vs H Q E h => ?_) (fun cdv A outer s H vs Q E hr h => ?_)
  · obtain ⟨d, t, R, n, rs, ws, rfl, _⟩ := h; rfl
  · obtain ⟨d, t, R, n, rs, ws, rfl, D0, hR, nRt, rR, l1, g, low, m3, hn, q⟩ := h
    refine ⟨_, (pss_cons (ps_set (i := 4) sc__law_things.nd rfl (.inr rfl) (pe_lst pa_nil))
      (pss_cons (ps_for PassesOwn.never rfl (pi_range1 (by rfl) T.n_range (pa_cons (pv 3) pa_nil)) (pg_name (i := 5) sc__law_things.nd rfl (.inl rfl)) (pss_cons (ps_set (i := 6) sc__law_things.nd rfl (.inr rfl) (pe_ix ix_list (pv 2) (pe_call (ok__law_take T) (hr.mono (by omega)) (by rfl) T.g__law_take T.F__law_take.kp T.b__law_take .nil pass0 (pa_cons (pv 0) (pa_cons (pv 1) (pa_cons (pe_callB call_len_seq (by rfl) T.n_len (by decide +kernel) (pa_cons (pv 2) pa_nil)) pa_nil)))) (fun _ _ => rfl)))
      (pss_cons (ps_setLc (i := 7) (own := [("_law_j", 8)]) (g := (gName 8)) (by rfl) sc__law_things.nd rfl rfl (sw_true rfl rfl rfl (by decide +kernel)) (pi_range1 (by rfl) T.n_range (pa_cons (pe_callB call_len_seq (by rfl) T.n_len (by decide +kernel) (pa_cons (pv 4) pa_nil)) pa_nil)) (blkOk_by (own := [("_law_j", 8)]) (N := ["_law_draws_here", "_law_at", "_law_rows_here", "_law_count", "_law_things_here", "_law_k", "_law_row_here", "_law_able", "_law_j", "_law_most", "_law_size", "_law_chosen", "_law_pick"]) (sc := defScope S__law_things) (by decide +kernel)) (fun _ _ _ _ _ => (pg_name (i := 8) sc__law_things.nd rfl (by first | exact .inl rfl | exact .inr rfl))) (fun _ _ _ _ _ => (pts_one (pt_cmpR (inK (K := K) rfl) (pe_ix (ixLK (K := K) rfl) (pe_ix (ixLK (K := K) rfl) (pv 4) (pv 8) (fun _ _ => rfl)) (pe_int) (fun _ _ => rfl)) (pe_ix (ixLK (K := K) rfl) (pv 6) (pe_int) (fun _ _ => rfl)) (by with_unfolding_all rfl)))) (fun _ _ _ _ _ => (pv 8)))
      (C8.pss_cut (ps_if (pt_cmpR op_lt (pe_callB call_len_seq (by rfl) T.n_len (by decide +kernel) (pa_cons (pv 7) pa_nil)) (pe_ix ix_list (pv 6) (pe_int) (fun _ _ => rfl)) (nomark _)) (pss_cons (ps_set (i := 6) sc__law_things.nd rfl (.inr rfl) (pe_ix ix_list (pv 2) (pe_int) (fun _ _ => rfl)))
      (pss_one (ps_setLc (i := 7) (own := [("_law_j", 8)]) (g := (gName 8)) (by rfl) sc__law_things.nd rfl rfl (sw_true rfl rfl rfl (by decide +kernel)) (pi_range1 (by rfl) T.n_range (pa_cons (pe_callB call_len_seq (by rfl) T.n_len (by decide +kernel) (pa_cons (pv 4) pa_nil)) pa_nil)) (blkOk_by (own := [("_law_j", 8)]) (N := ["_law_draws_here", "_law_at", "_law_rows_here", "_law_count", "_law_things_here", "_law_k", "_law_row_here", "_law_able", "_law_j", "_law_most", "_law_size", "_law_chosen", "_law_pick"]) (sc := defScope S__law_things) (by decide +kernel)) (fun _ _ _ _ _ => (pg_name (i := 8) sc__law_things.nd rfl (by first | exact .inl rfl | exact .inr rfl))) (fun _ _ _ _ _ => (pts_one (pt_cmpR (inK (K := K) rfl) (pe_ix (ixLK (K := K) rfl) (pe_ix (ixLK (K := K) rfl) (pv 4) (pv 8) (fun _ _ => rfl)) (pe_int) (fun _ _ => rfl)) (pe_ix (ixLK (K := K) rfl) (pv 6) (pe_int) (fun _ _ => rfl)) (by with_unfolding_all rfl)))) (fun _ _ _ _ _ => (pv 8))))) pss_nil)
      (pss_cons (ps_set (i := 9) sc__law_things.nd rfl (.inl rfl) (pe_ix ix_list (pv 6) (pe_int) (fun _ _ => rfl)))
      (C8.pss_cut (ps_if (pt_cmpR op_gt (pv 9) (pe_callB call_len_seq (by rfl) T.n_len (by decide +kernel) (pa_cons (pv 7) pa_nil)) (nomark _)) (pss_one (ps_set (i := 9) sc__law_things.nd rfl (.inl rfl) (pe_callB call_len_seq (by rfl) T.n_len (by decide +kernel) (pa_cons (pv 7) pa_nil)))) pss_nil)
      (pss_cons (ps_set (i := 10) sc__law_things.nd rfl (.inl rfl) (pe_op op_sub (pv 9) (pe_call (ok__law_take T) (hr.mono (by omega)) (by rfl) T.g__law_take T.F__law_take.kp T.b__law_take .nil pass0 (pa_cons (pv 0) (pa_cons (pv 1) (pa_cons (pe_op op_add (pe_op op_sub (pv 9) (pe_ix ix_list (pv 6) (pe_int) (fun _ _ => rfl))) (pe_int)) pa_nil))))))
      (pss_cons (ps_set (i := 11) sc__law_things.nd rfl (.inl rfl) (pe_lst pa_nil))
      (pss_cons (ps_for PassesOwn.never rfl (pi_range1 (by rfl) T.n_range (pa_cons (pv 10) pa_nil)) (pg_name (i := 8) sc__law_things.nd rfl (.inl rfl)) (pss_cons (ps_set (i := 12) sc__law_things.nd rfl (.inl rfl) (pe_op op_sub (pe_op op_sub (pe_callB call_len_seq (by rfl) T.n_len (by decide +kernel) (pa_cons (pv 7) pa_nil)) (pe_int)) (pe_call (ok__law_take T) (hr.mono (by omega)) (by rfl) T.g__law_take T.F__law_take.kp T.b__law_take .nil pass0 (pa_cons (pv 0) (pa_cons (pv 1) (pa_cons (pe_callB call_len_seq (by rfl) T.n_len (by decide +kernel) (pa_cons (pv 7) pa_nil)) pa_nil))))))
      (pss_cons (ps_expr (pe_bm PySem.F.plainAttrs_list PySem.F.slot_list_append PySem.F.type_list_append mt_append (pv 11) (pa_cons (pe_ix ix_list (pv 7) (pv 12) (fun _ _ => rfl)) pa_nil)))
      (pss_one (ps_set (i := 7) sc__law_things.nd rfl (.inl rfl) (pe_op op_cat (pe_slice sl_list (pv 7) po_none (po_some (pv 12))) (pe_slice sl_list (pv 7) (po_some (pe_op op_add (pv 12) (pe_int))) po_none)))))))
      (pss_one (ps_expr (pe_bm PySem.F.plainAttrs_list PySem.F.slot_list_append PySem.F.type_list_append mt_append (pv 4) (pa_cons (pe_lst (pa_cons (pe_ix ix_list (pv 6) (pe_int) (fun _ _ => rfl)) (pa_cons (pv 11) pa_nil))) pa_nil)))))))))))))
      (pss_one (ps_ret (pv 4))))), ?_⟩
    have big : 100000 < sizeLine := by decide
    have lws := pair_len' rR
    refine ⟨Nat.zero_le _, fun L hL => ?_⟩
    have nLt := D0.na hL
    have nRL : R ≠ L := ne_of_none hR hL
    have s0 := same_new (o := .lst []) hL
    refine ⟨_, rfl, n, rfl, by omega, by omega, for_range (lo := 0) (n := n) (fun k σ H' => ∃ (us : List V) (ts : List Th) (x5 x6 x7 x8 x9 x10 x11 x12 : Option V), σ = [some (.ref d), some (.ref t), some (.ref R), some (.int n), some (.ref L), x5, x6, x7, x8, x9, x10, x11, x12] ∧ Dr K H' d t ∧ But t H H' ∧ H' L = some (.lst us) ∧ MtsN [t, L] H' us ts ∧ ts.length = k ∧ ThsOk rs ts)
      ⟨[], [], _, _, _, _, _, _, _, _, rfl, D0.same s0, But.of_same s0, upd_same, .nil, rfl, fun k th h => by simp at h⟩ ?_ ?_⟩
    rotate_left
    · rintro σ H2 ⟨us, ts, x5, x6, x7, x8, x9, x10, x11, x12, rfl, D2, b2, hL2, mM2, lk, ok⟩
      exact ⟨_, rfl, q us ts L H2 ok lk D2 b2 hL hL2 (L2.Paired.mapP mM2 fun _ _ ⟨p, pp, e, a, b, x⟩ => ⟨p, pp, e, fun h => a (by simp at h; simp [h]), fun h => b (by simp at h; simp [h]), x⟩)⟩
    rintro k σ H2 hk ⟨us, ts, x5, x6, x7, x8, x9, x10, x11, x12, rfl, D2, b2, hL2, mM2, lk, ok⟩
    have lts := pair_len' mM2
    have hR2 := b2 _ _ nRt hR
    have rR2 : RowsN (fun a => a ≠ t ∧ a ≠ L) true H2 ws rs := rowsN_sub (rowsN_leA (rowsN_al rR) (.but (A := [t]) (by simp) b2) fun a f => by simpa using f.1) fun a f => ⟨f.1, f.2.elim fun o e => ne_of_none e hL⟩
    refine ⟨_, rfl, _, rfl, _, rfl, _, rfl, R, _, rfl, .inl (SqL.of hR2), d, t, _, rfl, D2, by omega, fun c H3 c0 c1 D3 b3 => ?_⟩
    have lM : Le [t, L] H2 H3 := .but (by simp) b3
    have hR3 := b3 _ _ nRt hR2
    have hL3 := b3 _ _ nLt hL2
    have rR3 := rowsN_leA rR2 (.but (A := [t]) (by simp) b3) (fun a f => by simpa using f.1)
    have mM3 := mtsN_le mM2 lM
    obtain ⟨v, hv, _⟩ := at_ok (xs := ws) c0 c1
    obtain ⟨j, rfl⟩ := Int.eq_ofNat_of_zero_le c0
    have hj : j < ws.length := by omega
    have hvj : ws[j]? = some v := by rw [← hv]; exact (atI_nat (List.getElem?_eq_getElem hj)).symm ▸ List.getElem?_eq_getElem hj
    obtain ⟨r, hr, p, pp, rfl, np, npp, hp, hpp⟩ := pair_get' rR3 hvj
    have hp : H3 p = some (.lst (rowL r pp)) := hp
    have hpp : H3 pp = some (.lst (r.pars.map V.str)) := hpp
    refine ⟨_, _, _, _, rfl, rfl, SqL.of hR3, hv, ?_⟩
    simp only [gName, tSeq, tAsg]
    refine able_t (K := K) hL3 mM3 hp hpp (by omega) fun D H4 s4 nD hD => ?_
    have D4 := D3.same s4
    have t4 := b3.trans (But.of_same s4)
    refine ⟨fun σ' H' => ∃ (p pp D : Addr) (r : Row), σ' = [some (.ref d), some (.ref t), some (.ref R), some (.int n), some (.ref L), some (.int (0 + (k : Nat))), some (.ref p), some (.ref D), x8, x9, x10, x11, x12] ∧ r ∈ rs ∧ Dr K H' d t ∧ But t H2 H' ∧ H' p = some (.lst (rowL r pp)) ∧ p ≠ t ∧ p ≠ L ∧ H' D = some (.lst ((ableN ts r ts.length).map V.int)) ∧ D ≠ t ∧ D ≠ L ∧ r.least ≤ ((ableN ts r ts.length).length : Int), ?_, ?_⟩
    · refine ⟨_, rfl, D, _, rfl, .inl (SqL.of hD), _, rfl, _, _, _, _, rfl, rfl, SqL.of (s4 _ _ hp), atI_nat (j := 2) rfl, _, _, rfl, rfl, _, rfl, iteD (fun c => ?_) (fun c => ?_)⟩
      · obtain ⟨v0, hv0⟩ : ∃ v, ws[0]? = some v := ⟨_, List.getElem?_eq_getElem (by omega)⟩
        obtain ⟨r0, hr0, p0, pp0, rfl, np0, npp0, hp0, hpp0⟩ := pair_get' rR3 hv0
        have hp0 : H3 p0 = some (.lst (rowL r0 pp0)) := hp0
        have hpp0 : H3 pp0 = some (.lst (r0.pars.map V.str)) := hpp0
        refine ⟨_, rfl, _, _, _, _, rfl, rfl, SqL.of (s4 _ _ hR3), atI_nat hv0, ?_⟩
        simp only [gName, tSeq, tAsg]
        refine able_t (K := K) (s4 _ _ hL3) (mtsN_le mM3 (Le.same s4)) (s4 _ _ hp0) (s4 _ _ hpp0) (by omega) fun D' H5 s5 nD' hD' => ?_
        exact ⟨p0, pp0, D', r0, rfl, List.mem_of_getElem? hr0, D4.same s5, t4.trans (But.of_same s5), s5 _ _ (s4 _ _ hp0), np0.1, np0.2, hD', D4.na nD', (ne_of_none (s4 _ _ hL3) nD').symm, by rw [low r0 hr0]; omega⟩
      · rw [List.length_map] at c
        exact ⟨p, pp, D, r, rfl, List.mem_of_getElem? hr, D4, t4, s4 _ _ hp, np.1, np.2, hD, D3.na nD, (ne_of_none hL3 nD).symm, by omega⟩
    rintro σ' H5 ⟨p, pp, D, r, rfl, mr, D5, b5, hp5, npt, npL, hD5, nDt, nDL, le⟩
    clear hD hp hpp rR3 mM3 hL3 hR3 s4 D4 t4 nD hr lM
    obtain ⟨i0, hi0⟩ := List.mem_iff_getElem?.mp mr
    have fnd := good_find g.g hi0
    obtain ⟨_, sz, _, _⟩ := g.row _ mr
    unfold sizeB at sz
    simp only [Bool.and_eq_true, decide_eq_true_iff] at sz
    have bd := (g.bnd _ mr).1
    have la := ableN_len ts r ts.length
    refine ⟨_, rfl, _, _, _, _, rfl, rfl, SqL.of hp5, atI_nat (j := 3) rfl, ?_⟩
    refine ⟨fun σ' H' => ∃ m : Int, H' = H5 ∧ σ' = [some (.ref d), some (.ref t), some (.ref R), some (.int n), some (.ref L), some (.int (0 + (k : Nat))), some (.ref p), some (.ref D), x8, some (.int m), x10, x11, x12] ∧ r.least ≤ m ∧ m ≤ r.most ∧ m ≤ ((ableN ts r ts.length).length : Int), ?_, ?_⟩
    · refine ⟨_, rfl, _, rfl, D, _, rfl, .inl (SqL.of hD5), _, _, rfl, rfl, _, rfl, ?_⟩
      rw [List.length_map]
      refine iteD (fun c => ?_) (fun c => ⟨r.most, rfl, rfl, sz.2.1, Int.le_refl _, by omega⟩)
      exact ⟨_, rfl, D, _, rfl, .inl (SqL.of hD5), ((ableN ts r ts.length).length : Int), rfl, by rw [List.length_map]; rfl, le, by omega, Int.le_refl _⟩
    rintro σ' H5' ⟨m, rfl, rfl, m0, m1, m2⟩
    refine ⟨_, rfl, _, rfl, _, rfl, _, rfl, _, rfl, _, _, _, _, rfl, rfl, SqL.of hp5, atI_nat (j := 2) rfl, _, _, rfl, rfl, _, _, rfl, rfl, d, t, _, rfl, D5, by omega, fun c H6 c0 c1 D6 b6 => ⟨_, _, rfl, rfl, ?_⟩⟩
    obtain ⟨e, en⟩ : ∃ e : Nat, m - c = (e : Int) := Int.eq_ofNat_of_zero_le (by omega)
    show gName 10 (V.int (m - c)) _ _ _
    rw [en]
    refine ⟨Nat.zero_le _, fun C hC => ?_⟩
    have t6 := b5.trans b6
    have nCt := D6.na hC
    have nC2 : H2 C = none := t6.free nCt hC
    have hL6 := t6 _ _ nLt hL2
    have nCL : C ≠ L := (ne_of_none hL6 hC).symm
    have s7 := same_new (o := .lst []) hC
    have hD6 := b6 _ _ nDt hD5
    refine ⟨_, rfl, e, rfl, by omega, by omega, for_range (lo := 0) (n := e) (fun k' σ H' => ∃ (ab : Addr) (as cs : List Int) (x8 x12 : Option V), σ = [some (.ref d), some (.ref t), some (.ref R), some (.int n), some (.ref L), some (.int (0 + (k : Nat))), some (.ref p), some (.ref ab), x8, some (.int m), some (.int e), some (.ref C), x12] ∧ Dr K H' d t ∧ But t H2 H' ∧ ab ≠ t ∧ ab ≠ C ∧ H' p = some (.lst (rowL r pp)) ∧ H' ab = some (.lst (as.map V.int)) ∧ H' C = some (.lst (cs.map V.int)) ∧ cs.length = k' ∧ (cs ++ as).Perm (ableN ts r ts.length))
      ⟨D, ableN ts r ts.length, [], _, _, rfl, D6.same s7, t6.trans (But.of_same s7), nDt, ne_of_none hD6 hC, s7 _ _ (b6 _ _ npt hp5), s7 _ _ hD6, upd_same, rfl, by rw [List.nil_append]⟩ ?_ ?_⟩
    · rintro k' σ H7 hk' ⟨ab, as, cs, x8, x12, rfl, D7, b7, nat7, nac, hp7, hab, hC7, lcs, pm⟩
      have lpm := pm.length_eq
      rw [List.length_append] at lpm
      refine ⟨_, rfl, ab, _, rfl, .inl (SqL.of hab), _, _, rfl, rfl, _, rfl, _, rfl, _, rfl, ab, _, rfl, .inl (SqL.of hab), d, t, _, rfl, D7, by rw [List.length_map]; omega, fun pk H8 p0 p1 D8 b8 => ⟨_, _, rfl, rfl, ?_⟩⟩
      rw [List.length_map] at p1 ⊢
      obtain ⟨i, ei⟩ : ∃ i : Nat, (as.length : Int) - 1 - pk = (i : Int) := Int.eq_ofNat_of_zero_le (by omega)
      show gName 12 (V.int ((as.length : Int) - 1 - pk)) _ _ _
      rw [ei]
      have hi : i < as.length := by omega
      have hx : as[i]? = some as[i] := List.getElem?_eq_getElem hi
      have hab8 := b8 _ _ nat7 hab
      have hC8 := b8 _ _ nCt hC7
      have hp8 := b8 _ _ npt hp7
      refine ⟨_, rfl, .inl ⟨rfl, _, SqL.of hC8⟩, _, rfl, _, rfl, _, _, _, _, rfl, rfl, SqL.of hab8, atI_nat (v := V.int as[i]) (by rw [List.getElem?_map, hx]; rfl), _, _, _, rfl, rfl, hC8, by rw [List.length_map]; omega, ?_⟩
      have D9 : Dr K (upd H8 C (.lst (cs.map V.int ++ [.int as[i]]))) d t := D8.other But.upd (D2.nd nC2) nCt.symm
      have b9 := (b7.trans b8).mut (o := .lst (cs.map V.int ++ [.int as[i]])) nC2
      have hab9 : (upd H8 C (.lst (cs.map V.int ++ [.int as[i]]))) ab = some (.lst (as.map V.int)) := by rw [upd_ne nac]; exact hab8
      have npC : p ≠ C := row_ne_ints hp8 hC8
      have hp9 : (upd H8 C (.lst (cs.map V.int ++ [.int as[i]]))) p = some (.lst (rowL r pp)) := by rw [upd_ne npC]; exact hp8
      have hC9 : (upd H8 C (.lst (cs.map V.int ++ [.int as[i]]))) C = some (.lst ((cs ++ [as[i]]).map V.int)) := by rw [upd_same, ints_app]
      revert D9 b9 hab9 hC9 hp9
      generalize upd H8 C (.lst (cs.map V.int ++ [.int as[i]])) = H9
      intro D9 b9 hab9 hp9 hC9
      refine ⟨_, rfl, _, rfl, _, rfl, ab, _, rfl, SqL.of hab9, fun c1 hc1 => ?_⟩
      rw [cut_to, ← List.map_take]
      have s10 := same_new (o := .lst ((as.take i).map V.int)) hc1
      refine ⟨_, rfl, _, rfl, _, _, rfl, rfl, _, rfl, ab, _, rfl, SqL.of (s10 _ _ hab9), fun c2 hc2 => ?_⟩
      rw [show ((i : Nat) : Int) + 1 = ((i + 1 : Nat) : Int) from rfl, cut_from, ← List.map_drop]
      have s11 := s10.trans (same_new (o := .lst ((as.drop (i + 1)).map V.int)) hc2)
      refine ⟨c1, c2, _, _, rfl, rfl, same_new hc2 _ _ upd_same, upd_same, by rw [List.length_map, List.length_map, List.length_take, List.length_drop]; omega, fun c3 hc3 => ?_⟩
      have s12 := s11.trans (same_new (o := .lst ((as.take i).map V.int ++ (as.drop (i + 1)).map V.int)) hc3)
      exact ⟨c3, as.take i ++ as.drop (i + 1), cs ++ [as[i]], _, _, rfl, D9.same s12, b9.trans (But.of_same s12), (D9.same s11).na hc3, (ne_of_none (s11 _ _ hC9) hc3).symm, s12 _ _ hp9, by rw [upd_same, List.map_append], s12 _ _ hC9, by rw [List.length_append, lcs]; rfl, perm_pick pm hx⟩
    · rintro σ H7 ⟨ab, as, cs, x8, x12, rfl, D7, b7, nat7, nac, hp7, hab, hC7, lcs, pm⟩
      have lpm := pm.length_eq
      rw [List.length_append] at lpm
      have hL7 := b7 _ _ nLt hL2
      have m3' := m3 _ mr
      refine ⟨_, rfl, .inl ⟨rfl, _, SqL.of hL7⟩, _, rfl, _, _, _, _, rfl, rfl, SqL.of hp7, atI_nat (j := 0) rfl, _, rfl, by show 2 ≤ sizeLine; decide, fun u nu => ?_⟩
      have s8 := same_new (o := .lst [.str r.mark, .ref C]) nu
      have hL8 := s8 _ _ hL7
      refine ⟨_, _, _, rfl, rfl, hL8, by omega, ?_⟩
      have nd := (List.nodup_append.mp (pm.nodup_iff.mpr (ableN_nd ts r ts.length))).1
      have mem : ∀ j ∈ cs, j ∈ ableN ts r ts.length := fun j hj => pm.mem_iff.mp (List.mem_append_left _ hj)
      have pg : PGood rs ts r.mark cs := ⟨⟨r, fnd, suit_iff.mpr ⟨by omega, by omega, nd, fun j hj => (ableN_mem (mem j hj)).2.2⟩⟩, fun j hj => ⟨(ableN_mem (mem j hj)).1, (ableN_mem (mem j hj)).2.1⟩, by omega⟩
      have lw : Le [t, L] H2 (upd (upd H7 u (.lst [.str r.mark, .ref C])) L (.lst (us ++ [.ref u]))) := ((Le.but (by simp) b7).trans (Le.same s8)).trans (.upd (by simp))
      have nuL : u ≠ L := (ne_of_none hL7 nu).symm
      have nut := D7.na nu
      exact ⟨us ++ [.ref u], ts ++ [(r.mark, cs)], _, _, _, _, _, _, _, _, rfl, (D7.same s8).other But.upd (D0.nd hL) nLt.symm, ((b2.trans b7).trans (But.of_same s8)).mut hL, upd_same, pair_app' (mtsN_le mM2 lw) (.cons ⟨u, C, rfl, by simp [nut, nuL], by simp [nCt, nCL], by rw [upd_ne nuL]; exact upd_same, by rw [upd_ne nCL]; exact s8 _ _ hC7⟩ .nil), by rw [List.length_append, lk]; rfl, ths_app ok pg (by show cs.length ≤ 3; omega) bd⟩
end
end My

namespace My
open PySem L2
def spLShape (C : Addr) : Sp := fun vs H Q _ => ∃ (a : Addr) (us : List V) (rs : List Row), vs = [.ref a] ∧ H a = some (.lst us) ∧ RowsN (fun _ => True) true H us rs ∧ 1 ≤ us.length ∧ us.length ≤ 3 ∧ GoodC rs ∧
  ∀ x H', Same H H' → H x = none → ShN (fun a => H a = none) C H' x rs → Q (.ref x) H'
def spLPut (C Cs UM NT BP TL : Addr) : Sp := fun vs H Q E => ∃ (y x l m pa : Addr) (z : Str) (rs : List Row) (ps : List Int) (ts : List Th), vs = [.ref y, .str z, .ref pa] ∧ Wb C H y x l m ts ∧ ShO Cs H x rs ∧ H pa = some (.lst (ps.map V.int)) ∧ ps.length ≤ 3 ∧ ts.length ≤ 1000 ∧
  (PGood rs ts z ps → ∀ H', Le [l, m] H H' → Wb C H' y x l m (ts ++ [(z, ps)]) → Q (.int ts.length) H') ∧
  (∀ e c v f, PDue rs ts z ps e → PErrIs UM NT BP TL e c v f → ∀ H' d, Same H H' → H d = none → H' d = some (.xd [(f, v)]) → E (.ref c) (some d) H')
theorem put_st {C Cs UM NT BP TL : Addr} {H : Hp} {y x l m : Addr} {z : Str} {rs : List Row} {ps : List Int} {ts : List Th} {us : List V} {Q : VK} {E : XK} (eu : us = .ref y :: .str z :: ps.map V.int) (hw : Wb C H y x l m ts) (hS : ShO Cs H x rs) (hl : ps.length ≤ 100) (lt : ts.length ≤ 1000)
    (q : PGood rs ts z ps → ∀ H', Le [l, m] H H' → Wb C H' y x l m (ts ++ [(z, ps)]) → Q (.int ts.length) H')
    (qe : ∀ e c v f, PDue rs ts z ps e → PErrIs UM NT BP TL e c v f → ∀ H' d, Same H H' → H d = none → H' d = some (.xd [(f, v)]) → E (.ref c) (some d) H') :
    spStar 2 (spPut C Cs UM NT BP TL) us H Q E := by
  subst eu
  refine ⟨[.ref y, .str z], ps.map V.int, rfl, rfl, Nat.le_trans (by rw [List.length_map]; exact hl) (by decide : 100 ≤ sizeLine), fun p np => ?_⟩
  have s := same_new (o := .tup (ps.map V.int)) np
  exact ⟨y, x, l, m, p, z, rs, ps, ts, rfl, hw.same s, hS.same s, upd_same, lt, fun g H' l' w' => q g H' ((Le.same s).trans l') w', fun e c v f du er H' d s' nd hd => qe e c v f du er H' d (s.trans s') (s.free nd) hd⟩
theorem pgood_due {rs : List Row} {ts : List Th} {z : Str} {ps : List Int} {e : PErr} (g : PGood rs ts z ps) (h : PDue rs ts z ps e) : False := by
  obtain ⟨⟨r, hr, hs⟩, hi, room⟩ := g
  cases h with
  | unk h => rw [hr] at h; cases h
  | no _ hp _ n => exact n (hi _ (List.mem_of_getElem? hp))
  | bad h _ hs' => rw [hr] at h; obtain rfl := Option.some.inj h; rw [hs] at hs'; cases hs'
  | large _ _ _ l => omega
section
variable {w : World} {K : PySem.W.Frag} {mg : Str → Option Value} {base : Heap}
theorem ok__law_shape (T : Txt K mg) : FnOk PP w K mg base CX0 7 T.a__law_shape T.fd__law_shape ["_law_rows_here"] (spLShape T.c_Shape) := by
  refine T.F__law_shape.ok sc__law_shape (fun vs H Q E h => ?_) (fun cdv A outer s H vs Q E hr h => ?_)
  · obtain ⟨a, us, rs, rfl, _⟩ := h; rfl
  · obtain ⟨a, us, rs, rfl, ha, hR, l1, l3, g, q⟩ := h
    refine ⟨_, (pss_cons (ps_setLc (i := 1) (own := [("_law_row_here", 2)]) (g := (gName 2)) (by rfl) sc__law_shape.nd rfl rfl (sw_true rfl rfl rfl (by decide +kernel)) (pi_list (pv 0)) (blkOk_by (own := [("_law_row_here", 2)]) (N := ["_law_rows_here", "_law_made", "_law_row_here"]) (sc := defScope S__law_shape) (by decide +kernel)) (fun _ _ _ _ _ => (pg_name (i := 2) sc__law_shape.nd rfl (by first | exact .inl rfl | exact .inr rfl))) (fun _ _ _ _ _ => pts_nil) (fun _ _ _ _ _ => (pe_tup (pa_cons (pe_ix (ixLK (K := K) rfl) (pv 2) (pe_int) (fun _ _ => rfl)) (pa_cons (pe_callTy (tupleK (K := K) rfl) (by rfl) T.n_tuple (by decide +kernel) (pa_cons (pe_ix (ixLK (K := K) rfl) (pv 2) (pe_int) (fun _ _ => rfl)) pa_nil)) (pa_cons (pe_ix (ixLK (K := K) rfl) (pv 2) (pe_int) (fun _ _ => rfl)) (pa_cons (pe_ix (ixLK (K := K) rfl) (pv 2) (pe_int) (fun _ _ => rfl)) (pa_cons (pe_ix (ixLK (K := K) rfl) (pv 2) (pe_int) (fun _ _ => rfl)) pa_nil))))))))
      (pss_cons (ps_if (pt_cmpR op_eq (pe_callB call_len_seq (by rfl) T.n_len (by decide +kernel) (pa_cons (pv 1) pa_nil)) (pe_int) (nomark _)) (pss_one (ps_ret (StX.pe_makeR T.mk_Shape ((ok_Shape_init T).calm) (hr.mono (by omega)) (by rfl) T.g_Shape pass0 (pa_cons (pe_ix ix_list (pv 1) (pe_int) (fun _ _ => rfl)) pa_nil)))) pss_nil)
      (pss_cons (ps_if (pt_cmpR op_eq (pe_callB call_len_seq (by rfl) T.n_len (by decide +kernel) (pa_cons (pv 1) pa_nil)) (pe_int) (nomark _)) (pss_one (ps_ret (StX.pe_makeR T.mk_Shape ((ok_Shape_init T).calm) (hr.mono (by omega)) (by rfl) T.g_Shape pass0 (pa_cons (pe_ix ix_list (pv 1) (pe_int) (fun _ _ => rfl)) (pa_cons (pe_ix ix_list (pv 1) (pe_int) (fun _ _ => rfl)) pa_nil))))) pss_nil)
      (pss_one (ps_ret (StX.pe_makeR T.mk_Shape ((ok_Shape_init T).calm) (hr.mono (by omega)) (by rfl) T.g_Shape pass0 (pa_cons (pe_ix ix_list (pv 1) (pe_int) (fun _ _ => rfl)) (pa_cons (pe_ix ix_list (pv 1) (pe_int) (fun _ _ => rfl)) (pa_cons (pe_ix ix_list (pv 1) (pe_int) (fun _ _ => rfl)) pa_nil))))))))), ?_⟩
    have big : 100000 < sizeLine := by decide
    have lu := pair_len' hR
    refine ⟨_, rfl, a, rfl, ⟨_, SqL.of ha⟩, fun D hD => lc_list (K := K) (a := a) (xs := us) (fun i H' => ∃ ws, Same H H' ∧ H' D = some (.lst ws) ∧ RowsN (fun x => H x = none ∧ x ≠ D) false H' ws (rs.take i)) ⟨[], same_new hD, upd_same, .nil⟩ (fun i H' _ ⟨_, s, _⟩ => SqL.of (s _ _ ha)) ?_ ?_⟩
    · rintro i v H1 hv ⟨ws, s1, h1, rw1⟩
      obtain ⟨r, hr, p, pp, rfl, _, _, hp, hpp⟩ := pair_get' hR hv
      have hi := (List.getElem?_eq_some_iff.mp hr).1
      have hp : H p = some (.lst (rowL r pp)) := hp
      have hpp : H pp = some (.lst (r.pars.map V.str)) := hpp
      have hp1 := s1 _ _ hp
      have hpp1 := s1 _ _ hpp
      refine ⟨rfl, ?_⟩
      unfold tYes
      refine iteT ⟨_, rfl, _, _, _, _, rfl, rfl, SqL.of hp1, atI_nat (j := 0) rfl, ?_⟩
      refine ⟨_, rfl, _, _, _, _, rfl, rfl, SqL.of hp1, atI_nat (j := 1) rfl, pp, _, rfl, .inl ⟨SqL.of hpp1, fun E hE => ?_⟩⟩
      have s2 := same_new (o := .tup (r.pars.map V.str)) hE
      have hp2 := s2 _ _ hp1
      refine ⟨_, rfl, _, _, _, _, rfl, rfl, SqL.of hp2, atI_nat (j := 2) rfl, _, rfl, _, _, _, _, rfl, rfl, SqL.of hp2, atI_nat (j := 3) rfl, _, rfl, _, _, _, _, rfl, rfl, SqL.of hp2, atI_nat (j := 4) rfl, by show 5 ≤ sizeLine; decide, fun u hu => ?_⟩
      have s3 := s2.trans (same_new (o := .tup [.str r.mark, .ref E, .int r.least, .int r.most, .bl r.sh]) hu)
      have nuD : u ≠ D := (ne_of_none (s2 _ _ h1) hu).symm
      have nED : E ≠ D := (ne_of_none h1 hE).symm
      have lw : ws.length = i := by rw [pair_len' rw1, List.length_take]; omega
      have huE : E ≠ u := ne_of_none upd_same hu
      refine ⟨_, s3 _ _ h1, by omega, ws ++ [.ref u], same_mut (s1.trans s3) hD, upd_same, ?_⟩
      rw [List.take_succ, hr]
      refine pair_app' (rowsN_le rw1 fun x o f e => by rw [upd_ne f.2]; exact s3 _ _ e) (.cons ⟨u, E, rfl, ⟨(s1.trans s2).free hu, nuD⟩, ⟨s1.free hE, nED⟩, by rw [upd_ne nuD]; exact upd_same, by rw [upd_ne nED, upd_ne huE]; exact upd_same⟩ .nil)
    rintro H1 ⟨ws, s1, h1, rw1⟩
    rw [lu, List.take_length] at rw1
    have lw := pair_len' rw1
    have sm : ∀ r ∈ rs, small r := fun r hr => by have := g.bnd r hr; exact ⟨by omega, by omega⟩
    have fin : ∀ x H', Same H1 H' → H1 x = none → ShN (fun a => H1 a = none) T.c_Shape H' x rs → Q (.ref x) H' := fun x H' s n S => q x H' (s1.trans s) (s1.free n) (S.sub fun a f => s1.free f)
    have lw1 : 1 ≤ ws.length := by omega
    have lw3 : ws.length ≤ 3 := by omega
    clear lu l1 l3 lw
    rcases ws with _ | ⟨v0, ws⟩
    · simp at lw1
    rcases ws with _ | ⟨v1, ws⟩
    · refine ⟨_, rfl, D, _, rfl, .inl (SqL.of h1), rfl, _, rfl, iteYes (decide_eq_true rfl) ?_⟩
      exact ⟨_, rfl, _, _, _, _, rfl, rfl, SqL.of h1, atI_nat (j := 0) rfl, make_sh (rowsN_toV rw1) (by simp) sm (fun _ => fin) (fun e c v f du => (due_good g.g du).elim)⟩
    rcases ws with _ | ⟨v2, ws⟩
    · refine ⟨_, rfl, D, _, rfl, .inl (SqL.of h1), rfl, _, rfl, iteNo (decide_eq_false fun z => by simp at z) ⟨_, rfl, D, _, rfl, .inl (SqL.of h1), rfl, _, rfl, iteYes (decide_eq_true rfl) ?_⟩⟩
      exact ⟨_, rfl, _, _, _, _, rfl, rfl, SqL.of h1, atI_nat (j := 0) rfl, _, rfl, _, _, _, _, rfl, rfl, SqL.of h1, atI_nat (j := 1) rfl, make_sh (rowsN_toV rw1) (by simp) sm (fun _ => fin) (fun e c v f du => (due_good g.g du).elim)⟩
    obtain rfl : ws = [] := by cases ws with | nil => rfl | cons => simp at lw3
    refine ⟨_, rfl, D, _, rfl, .inl (SqL.of h1), rfl, _, rfl, iteNo (decide_eq_false fun z => by simp at z) ⟨_, rfl, D, _, rfl, .inl (SqL.of h1), rfl, _, rfl, iteNo (decide_eq_false fun z => by simp at z) ?_⟩⟩
    exact ⟨_, rfl, _, _, _, _, rfl, rfl, SqL.of h1, atI_nat (j := 0) rfl, _, rfl, _, _, _, _, rfl, rfl, SqL.of h1, atI_nat (j := 1) rfl, _, rfl, _, _, _, _, rfl, rfl, SqL.of h1, atI_nat (j := 2) rfl, make_sh (rowsN_toV rw1) (by simp) sm (fun _ => fin) (fun e c v f du => (due_good g.g du).elim)⟩
theorem ok__law_put (T : Txt K mg) : FnOk PP w K mg base (L2.CX PP w) 9 T.a__law_put T.fd__law_put ["_law_web_here", "_law_mark", "_law_parents"] (spLPut T.c_Web T.c_Shape T.c_UnknownMark T.c_NoThing T.c_BadParents T.c_TooLarge) := by
  refine T.F__law_put.okX sc__law_put (fun vs H Q E h => ?_) (fun cdv A outer s H vs Q E hr h => ?_)
  · obtain ⟨y, x, l, m, pa, z, rs, ps, ts, rfl, _⟩ := h; rfl
  · obtain ⟨y, x, l, m, pa, z, rs, ps, ts, rfl, hw, hS, hp, lp, lt, q, qe⟩ := h
    refine ⟨_, (pss_cons (ps_if (pt_cmpR op_eq (pe_callB call_len_seq (by rfl) T.n_len (by decide +kernel) (pa_cons (pv 2) pa_nil)) (pe_int) (nomark _)) (pss_one (ps_ret (pe_methR (pv 0) T.cl_Web T.m_Web_put (ok_Web_put T) (hr.mono (by omega)) (passes_call (takes_of rfl rfl rfl rfl) (fun _ _ _ _ h => h)) (pa_cons (pv 1) pa_nil)))) pss_nil)
      (pss_cons (ps_if (pt_cmpR op_eq (pe_callB call_len_seq (by rfl) T.n_len (by decide +kernel) (pa_cons (pv 2) pa_nil)) (pe_int) (nomark _)) (pss_one (ps_ret (pe_methR (pv 0) T.cl_Web T.m_Web_put (ok_Web_put T) (hr.mono (by omega)) (passes_call (takes_of rfl rfl rfl rfl) (fun _ _ _ _ h => h)) (pa_cons (pv 1) (pa_cons (pe_ix ix_list (pv 2) (pe_int) (fun _ _ => rfl)) pa_nil))))) pss_nil)
      (pss_cons (ps_if (pt_cmpR op_eq (pe_callB call_len_seq (by rfl) T.n_len (by decide +kernel) (pa_cons (pv 2) pa_nil)) (pe_int) (nomark _)) (pss_one (ps_ret (pe_methR (pv 0) T.cl_Web T.m_Web_put (ok_Web_put T) (hr.mono (by omega)) (passes_call (takes_of rfl rfl rfl rfl) (fun _ _ _ _ h => h)) (pa_cons (pv 1) (pa_cons (pe_ix ix_list (pv 2) (pe_int) (fun _ _ => rfl)) (pa_cons (pe_ix ix_list (pv 2) (pe_int) (fun _ _ => rfl)) pa_nil)))))) pss_nil)
      (pss_one (ps_ret (pe_methR (pv 0) T.cl_Web T.m_Web_put (ok_Web_put T) (hr.mono (by omega)) (passes_call (takes_of rfl rfl rfl rfl) (fun _ _ _ _ h => h)) (pa_cons (pv 1) (pa_cons (pe_ix ix_list (pv 2) (pe_int) (fun _ _ => rfl)) (pa_cons (pe_ix ix_list (pv 2) (pe_int) (fun _ _ => rfl)) (pa_cons (pe_ix ix_list (pv 2) (pe_int) (fun _ _ => rfl)) pa_nil)))))))))), ?_⟩
    obtain ⟨dy, hy⟩ := hw.obj
    rcases ps with _ | ⟨i0, ps⟩
    · exact ⟨_, rfl, pa, _, rfl, .inl (SqL.of hp), rfl, _, rfl, iteYes (decide_eq_true rfl) ⟨_, rfl, y, dy, _, rfl, hy, rfl, _, rfl, put_st (ps := []) rfl hw hS (by simp) lt q qe⟩⟩
    rcases ps with _ | ⟨i1, ps⟩
    · exact ⟨_, rfl, pa, _, rfl, .inl (SqL.of hp), rfl, _, rfl, iteNo (decide_eq_false fun z => by simp at z) ⟨_, rfl, pa, _, rfl, .inl (SqL.of hp), rfl, _, rfl, iteYes (decide_eq_true rfl) ⟨_, rfl, y, dy, _, rfl, hy, rfl, _, rfl, _, rfl, _, _, _, _, rfl, rfl, SqL.of hp, atI_nat (j := 0) rfl, put_st (ps := [i0]) rfl hw hS (by simp) lt q qe⟩⟩⟩
    rcases ps with _ | ⟨i2, ps⟩
    · exact ⟨_, rfl, pa, _, rfl, .inl (SqL.of hp), rfl, _, rfl, iteNo (decide_eq_false fun z => by simp at z) ⟨_, rfl, pa, _, rfl, .inl (SqL.of hp), rfl, _, rfl, iteNo (decide_eq_false fun z => by simp at z) ⟨_, rfl, pa, _, rfl, .inl (SqL.of hp), rfl, _, rfl, iteYes (decide_eq_true rfl) ⟨_, rfl, y, dy, _, rfl, hy, rfl, _, rfl, _, rfl, _, _, _, _, rfl, rfl, SqL.of hp, atI_nat (j := 0) rfl, _, rfl, _, _, _, _, rfl, rfl, SqL.of hp, atI_nat (j := 1) rfl, put_st (ps := [i0, i1]) rfl hw hS (by simp) lt q qe⟩⟩⟩⟩
    obtain rfl : ps = [] := by cases ps with | nil => rfl | cons => simp at lp
    exact ⟨_, rfl, pa, _, rfl, .inl (SqL.of hp), rfl, _, rfl, iteNo (decide_eq_false fun z => by simp at z) ⟨_, rfl, pa, _, rfl, .inl (SqL.of hp), rfl, _, rfl, iteNo (decide_eq_false fun z => by simp at z) ⟨_, rfl, pa, _, rfl, .inl (SqL.of hp), rfl, _, rfl, iteNo (decide_eq_false fun z => by simp at z) ⟨_, rfl, y, dy, _, rfl, hy, rfl, _, rfl, _, rfl, _, _, _, _, rfl, rfl, SqL.of hp, atI_nat (j := 0) rfl, _, rfl, _, _, _, _, rfl, rfl, SqL.of hp, atI_nat (j := 1) rfl, _, rfl, _, _, _, _, rfl, rfl, SqL.of hp, atI_nat (j := 2) rfl, put_st (ps := [i0, i1, i2]) rfl hw hS (by simp) lt q qe⟩⟩⟩⟩
end
end My

namespace My
open PySem L2
theorem make_wb {C : Addr} {H : Hp} {x : Addr} {R : Addr → VK} {E : XK} (q : ∀ y l m H', Same H H' → H y = none → H l = none → H m = none → Wb C H' y x l m [] → R y .non H') :
    ∀ y dy, H y = none → H dy = none → dy ≠ y → spWInit C (.ref y :: ([.ref x] ++ [])) (upd (upd H dy (.own y)) y (.ins C dy [])) (R y) E := fun y dy ny nd _ => by
  have s1 : Same H (upd (upd H dy (.own y)) y (.ins C dy [])) := fun a o h => by rw [upd_ne (ne_of_none h ny), upd_ne (ne_of_none h nd)]; exact h
  exact ⟨y, dy, x, rfl, upd_same, fun l m H' b nl nm w => q y l m H' (fun a o h => b a o (ne_of_none h ny) (s1 _ _ h)) ny (s1.free nl) (s1.free nm) w⟩
def spLWeb (C Cs : Addr) : Sp := fun vs H Q _ => ∃ (x p : Addr) (rs : List Row) (us : List V) (ts : List Th), vs = [.ref x, .ref p] ∧ ShO Cs H x rs ∧ H p = some (.lst us) ∧ MtsN [] H us ts ∧ ThsOk rs ts ∧ ts.length ≤ 900 ∧
  ∀ y l m H', Same H H' → H y = none → H l = none → H m = none → Wb C H' y x l m ts → Q (.ref y) H'
section
variable {w : World} {K : PySem.W.Frag} {mg : Str → Option Value} {base : Heap}
theorem ok__law_web (T : Txt K mg) : FnOk PP w K mg base CX0 10 T.a__law_web T.fd__law_web ["_law_shape_here", "_law_things_here"] (spLWeb T.c_Web T.c_Shape) := by
  refine T.F__law_web.ok sc__law_web (fun vs H Q E h => ?_) (fun cdv A outer s H vs Q E hr h => ?_)
  · obtain ⟨x, p, rs, us, ts, rfl, _⟩ := h; rfl
  · obtain ⟨x, p, rs, us, ts, rfl, hS, hp, mM, ok, lt, q⟩ := h
    refine ⟨_, (pss_cons (ps_set (i := 2) sc__law_web.nd rfl (.inl rfl) (pe_make T.mk_Web (ok_Web_init T) (hr.mono (by omega)) (by rfl) T.g_Web T.b_Web_init .nil pass0 (pa_cons (pv 0) pa_nil)))
      (pss_cons (ps_for PassesOwn.never rfl (pi_list (pv 1)) (pg_name (i := 3) sc__law_web.nd rfl (.inl rfl)) (pss_one (ps_expr (pe_call ((ok__law_put T).calm) (hr.mono (by omega)) (by rfl) T.g__law_put T.F__law_put.kp T.b__law_put .nil pass0 (pa_cons (pv 2) (pa_cons (pe_ix ix_list (pv 3) (pe_int) (fun _ _ => rfl)) (pa_cons (pe_ix ix_list (pv 3) (pe_int) (fun _ _ => rfl)) pa_nil)))))))
      (pss_one (ps_ret (pv 2))))), ?_⟩
    have big : 100000 < sizeLine := by decide
    have lts := pair_len' mM
    refine ⟨_, rfl, make_wb fun y l m H1 s1 ny nl nm w1 => ⟨rfl, ?_⟩⟩
    refine ⟨_, rfl, p, rfl, ⟨_, SqL.of (s1 _ _ hp)⟩, for_list (K := K) (a := p) (xs := us) (fun i σ H' => ∃ x3, σ = [some (.ref x), some (.ref p), some (.ref y), x3] ∧ Same H H' ∧ Wb T.c_Web H' y x l m (ts.take i)) ⟨_, rfl, s1, w1⟩ (fun i σ H' _ ⟨_, _, s, _⟩ => SqL.of (s _ _ hp)) ?_ ?_⟩
    · rintro i v σ H2 hv ⟨x3, rfl, s2, w2⟩
      obtain ⟨th, hth, b, bp, rfl, _, _, hb, hbp⟩ := pair_get' mM hv
      have hb : H b = some (.lst [.str th.1, .ref bp]) := hb
      have hbp : H bp = some (.lst (th.2.map V.int)) := hbp
      obtain ⟨g, l3, _⟩ := ok i th hth
      refine ⟨_, rfl, _, rfl, _, _, _, _, rfl, rfl, SqL.of (s2 _ _ hb), atI_nat (j := 0) rfl, _, rfl, _, _, _, _, rfl, rfl, SqL.of (s2 _ _ hb), atI_nat (j := 1) rfl, y, x, l, m, bp, th.1, rs, th.2, ts.take i, rfl, w2, hS.same s2, s2 _ _ hbp, l3, by rw [List.length_take]; omega, fun _ H3 le w3 => ?_, fun e c v f du => (pgood_due g du).elim⟩
      refine ⟨_, rfl, fun a o e => le a o (fun h => ?_) (s2 _ _ e), ?_⟩
      · simp only [List.mem_cons, List.not_mem_nil, or_false] at h
        rcases h with rfl | rfl
        · rw [nl] at e; cases e
        · rw [nm] at e; cases e
      · rw [List.take_succ, hth]; exact w3
    · rintro σ H2 ⟨x3, rfl, s2, w2⟩
      rw [lts, List.take_length] at w2
      exact ⟨_, rfl, q y l m H2 s2 ny nl nm w2⟩
end
end My

namespace L2
open PySem PySem.Spec PyProof.Rows
theorem for_enumL {K : PySem.W.Frag} {a : Addr} {xs : List V} {g : TG} {tb : TS} {D : Ends} {σ : St} {H : Hp} (Pv : Nat → St → Hp → Prop) (h0 : Pv 0 σ H) (hl : ∀ i σ H, i ≤ xs.length → Pv i σ H → SqL K H a xs)
    (hs : ∀ i x σ H T, xs[i]? = some x → Pv i σ H → H T = none → g (.ref T) σ (upd H T (.tup [.int (i : Nat), x])) fun σ2 H2 => tb { D with nx := Pv (i + 1), ct := Pv (i + 1), bk := D.nx } σ2 H2)
    (hd : ∀ σ H, Pv xs.length σ H → D.nx σ H) :
    ∃ W : Nat → Nat → St → Hp → Prop, (∃ m, W 0 m σ H) ∧ ∀ i m σ H, W i m σ H →
      ((Ite K a).stop i H ∧ D.nx σ H) ∨ ((Ite K a).go i H ∧ ∃ N : St → Hp → Prop, (∀ σ' H', N σ' H' → ∃ m', m' < m ∧ W (i + 1) m' σ' H') ∧ ∀ x H', (Ite K a).yld i H x H' → g x σ H' fun σ2 H2 => tb { D with nx := N, ct := N, bk := D.nx } σ2 H2) := by
  refine ⟨fun i m σ H => m = xs.length - i ∧ i ≤ xs.length ∧ Pv i σ H, ⟨xs.length, by simp, Nat.zero_le _, h0⟩, fun i m σ H hW => ?_⟩
  obtain ⟨em, hi, p⟩ := hW
  have q := hl i σ H hi p
  by_cases hlt : i < xs.length
  · refine .inr ⟨⟨xs, xs[i], q, List.getElem?_eq_getElem hlt⟩, Pv (i + 1), fun σ' H' p' => ⟨xs.length - (i + 1), by omega, rfl, hlt, p'⟩, fun x H' y => ?_⟩
    obtain ⟨T, x', ev, nT, eH, hx⟩ := y
    subst ev eH
    exact hs i x' σ H T (hx xs q) p nT
  · have ei : i = xs.length := by omega
    subst ei
    exact .inl ⟨⟨xs, q, Nat.le_refl _⟩, hd σ H p⟩
end L2

namespace My
open PySem L2
/-! ### webs as data -/
def thD (th : Th) : PyData := .tuple [.str th.1, .tuple (th.2.map .int)]
theorem eqv_ints : ∀ a b : List Int, PyData.eqvAll (a.map .int) (b.map .int) = decide (a = b)
  | [], [] => by simp [PyData.eqvAll]
  | [], _ :: _ => by simp [PyData.eqvAll]
  | _ :: _, [] => by simp [PyData.eqvAll]
  | x :: a, y :: b => by
    simp only [List.map_cons, PyData.eqvAll, PyData.eqv, eqv_ints a b]
    rw [Bool.eq_iff_iff, Bool.and_eq_true, beq_iff_eq, decide_eq_true_iff, decide_eq_true_iff]
    simp
theorem eqv_th (a b : Th) : PyData.eqv (thD a) (thD b) = decide (a = b) := by
  unfold thD
  simp only [PyData.eqv, PyData.eqvAll, eqv_ints, Bool.and_true]
  rw [Bool.eq_iff_iff]
  simp only [Bool.and_eq_true, beq_iff_eq, decide_eq_true_iff]
  cases a; cases b
  simp
theorem eqv_ths : ∀ a b : List Th, PyData.eqvAll (a.map thD) (b.map thD) = decide (a = b)
  | [], [] => by simp [PyData.eqvAll]
  | [], _ :: _ => by simp [PyData.eqvAll]
  | _ :: _, [] => by simp [PyData.eqvAll]
  | x :: a, y :: b => by
    simp only [List.map_cons, PyData.eqvAll, eqv_th, eqv_ths a b]
    rw [Bool.eq_iff_iff, Bool.and_eq_true, decide_eq_true_iff, decide_eq_true_iff, decide_eq_true_iff]
    simp
theorem canLay_ints : ∀ l : List Int, PyData.canLayAll0 (l.map .int) = true
  | [] => rfl
  | z :: l => by rw [List.map_cons, PyData.canLayAll0, PyData.canLay0, canLay_ints l]; rfl
theorem depth_ints : ∀ l : List Int, PyData.depthAll (l.map .int) = 0
  | [] => rfl
  | z :: l => by rw [List.map_cons, PyData.depthAll, depth_ints l]; rfl
def thsWords (ts : List Th) : Prop := ∀ t ∈ ts, PyData.strOk t.1 = true
theorem ths_shaped {ts : List Th} (h : thsWords ts) : SeqAt.shaped (.list (ts.map thD)) = true := by
  have h1 : ∀ l : List Th, thsWords l → PyData.canLayAll0 (l.map thD) = true := fun l => by
    induction l with
    | nil => intro _; rfl
    | cons a r ih =>
      intro q
      rw [List.map_cons, PyData.canLayAll0, ih fun s hs => q s (by simp [hs])]
      unfold thD
      simp [PyData.canLay0, PyData.canLayAll0, q a (by simp), canLay_ints]
  have h2 : ∀ l : List Th, PyData.depthAll (l.map thD) ≤ 4 := fun l => by
    induction l with
    | nil => exact Nat.zero_le _
    | cons a r ih =>
      rw [List.map_cons, PyData.depthAll]
      have : PyData.depth (thD a) ≤ 4 := by unfold thD; simp [PyData.depth, PyData.depthAll, depth_ints]
      omega
  unfold SeqAt.shaped
  rw [PyData.canLay0, h1 ts h, PyData.depth, Bool.true_and, decide_eq_true_iff]
  have := h2 ts
  omega
theorem intsDp {K : PySem.W.Frag} {H : Hp} : ∀ l : List Int, DpAll K H (l.map V.int) (l.map .int)
  | [] => .nil
  | z :: l => .cons (.int _) (intsDp l)
theorem thDp {K : PySem.W.Frag} {H : Hp} {v : V} {t : Th} (h : ThV H v t) : Dp K H v (thD t) := by
  obtain ⟨p, pp, rfl, hp, hpp⟩ := h
  exact .tup (SqT.of hp) (.cons (.str _) (.cons (.tup (SqT.of hpp) (intsDp _)) .nil))
theorem thsDp {K : PySem.W.Frag} {H : Hp} : ∀ {vs : List V} {ts : List Th}, ThsV H vs ts → DpAll K H vs (ts.map thD)
  | _, _, .nil => .nil
  | _, _, .cons h t => .cons (thDp h) (thsDp t)
def kidsN (ts : List Th) (p : Int) (i : Nat) : List Int := ((List.range i).filter fun j => decide (p ∈ (ts.getD j ("", [])).2)).map fun j => ((j : Nat) : Int)
theorem kidsN_succ (ts : List Th) (p : Int) (i : Nat) {t : Th} (h : ts[i]? = some t) : kidsN ts p (i + 1) = kidsN ts p i ++ if p ∈ t.2 then [((i : Nat) : Int)] else [] := by
  unfold kidsN
  rw [List.range_succ, List.filter_append, List.map_append]
  congr 1
  have e : ts.getD i ("", []) = t := by rw [List.getD_eq_getElem?_getD, h]; rfl
  simp only [List.filter_cons, e, List.filter_nil]
  by_cases c : p ∈ t.2
  · simp [c]
  · simp [c]
theorem kidsN_len (ts : List Th) (p : Int) (i : Nat) : (kidsN ts p i).length ≤ i := by
  unfold kidsN
  rw [List.length_map]
  have := List.length_filter_le (fun j => decide (p ∈ (ts.getD j ("", [])).2)) (List.range i)
  rw [List.length_range] at this
  exact this
end My

namespace My
open PySem L2
/-! ### webs: equality, copies, children, above (a number that is no thing) -/
def spWEq (C Cs : Addr) : Sp := fun vs H Q _ => ∃ (y x l m y2 x2 l2 m2 : Addr) (ts us : List Th) (rs rs2 : List Row), vs = [.ref y, .ref y2] ∧ Wb C H y x l m ts ∧ Wb C H y2 x2 l2 m2 us ∧ ShO Cs H x rs ∧ ShO Cs H x2 rs2 ∧ wordsOk rs ∧ wordsOk rs2 ∧ thsWords ts ∧ thsWords us ∧
  Q (.bl (decide (rs = rs2) && decide (ts = us))) H
def spWCopy (C Cs : Addr) : Sp := fun vs H Q _ => ∃ (y x l m : Addr) (ts : List Th) (rs : List Row), vs = [.ref y] ∧ Wb C H y x l m ts ∧ ShO Cs H x rs ∧ (∀ k th, ts[k]? = some th → PGood rs (ts.take k) th.1 th.2 ∧ th.2.length ≤ 3) ∧ ts.length ≤ 990 ∧
  ∀ y' l' m' H', Same H H' → H y' = none → H l' = none → H m' = none → Wb C H' y' x l' m' ts → Q (.ref y') H'
def spWKids (C X : Addr) : Sp := fun vs H Q E => ∃ (y x l m : Addr) (p : Int) (ts : List Th), vs = [.ref y, .int p] ∧ Wb C H y x l m ts ∧ ts.length ≤ 1000 ∧ (inW ts p → ∀ u H', Same H H' → H u = none → H' u = some (.tup ((kidsN ts p ts.length).map V.int)) → Q (.ref u) H') ∧ (¬ inW ts p → ErrS X "thing" (.int p) H E)
section
variable {w : World} {K : PySem.W.Frag} {mg : Str → Option Value} {base : Heap}
end
end My

namespace My
open PySem L2
/-! ### standings: what was locked, in this order; own or share; dropped since -/
abbrev Lk := Int × Bool × Bool
def wordL (o : Bool) : Str := if o then "own" else "share"
def kvL (k : Lk) : Key × V := (.inl k.1, .str (wordL k.2.1))
def msOf (tr : List Lk) : List (Key × V) := tr.map kvL
def hsOf (tr : List Lk) : List (Key × V) := (tr.filter fun k => !k.2.2).map kvL
def thsL (tr : List Lk) : List Int := tr.map (·.1)
def lkAt (tr : List Lk) (t : Int) : Option Lk := tr.find? fun k => decide (k.1 = t)
def dropT (tr : List Lk) (t : Int) : List Lk := tr.map fun k => if k.1 = t then (k.1, k.2.1, true) else k
def looseL (tr : List Lk) : Bool := tr.any (·.2.2)
theorem key_inl {a b : Int} : ((.inl a : Key) = .inl b) ↔ a = b := ⟨fun h => by injection h, fun h => by rw [h]⟩
theorem lkAt_cons (k : Lk) (tr : List Lk) (t : Int) : lkAt (k :: tr) t = if k.1 = t then some k else lkAt tr t := by
  unfold lkAt
  rw [List.find?_cons]
  by_cases c : k.1 = t
  · rw [decide_eq_true c, if_pos c]
  · rw [decide_eq_false c, if_neg c]
theorem lkAt_none {tr : List Lk} {t : Int} : lkAt tr t = none ↔ t ∉ thsL tr := by
  unfold lkAt thsL
  rw [List.find?_eq_none]
  constructor
  · rintro h m
    obtain ⟨k, hk, e⟩ := List.mem_map.mp m
    exact h k hk (decide_eq_true e)
  · intro h k hk e
    exact h (List.mem_map.mpr ⟨k, hk, of_decide_eq_true e⟩)
theorem valV_ms (t : Int) : ∀ tr : List Lk, valV (msOf tr) (.inl t) = (lkAt tr t).map fun k => V.str (wordL k.2.1)
  | [] => rfl
  | k :: tr => by
    rw [lkAt_cons]
    by_cases c : k.1 = t
    · rw [if_pos c]
      exact valV_pos (p := kvL k) (key_inl.mpr c)
    · rw [if_neg c, ← valV_ms t tr]
      exact valV_neg (p := kvL k) (fun h => c (key_inl.mp h))
def heldAt (tr : List Lk) (t : Int) : Option Lk := (lkAt tr t).filter fun k => !k.2.2
theorem valV_hs (t : Int) : ∀ tr : List Lk, (thsL tr).Nodup → valV (hsOf tr) (.inl t) = (heldAt tr t).map fun k => V.str (wordL k.2.1)
  | [], _ => rfl
  | k :: tr, nd => by
    have nd' := List.nodup_cons.mp nd
    have ih := valV_hs t tr nd'.2
    unfold heldAt at ih ⊢
    rw [lkAt_cons]
    by_cases c : k.1 = t
    · rw [if_pos c]
      cases d : k.2.2 with
      | false =>
        have e : hsOf (k :: tr) = kvL k :: hsOf tr := by unfold hsOf; rw [List.filter_cons, d]; rfl
        rw [e, valV_pos (p := kvL k) (key_inl.mpr c)]
        simp [Option.filter, d, kvL]
      | true =>
        have e : hsOf (k :: tr) = hsOf tr := by unfold hsOf; rw [List.filter_cons, d]; rfl
        have e2 : lkAt tr t = none := lkAt_none.mpr (fun m => nd'.1 (by show k.1 ∈ _; rw [c]; exact m))
        rw [e, ih, e2]
        simp [Option.filter, d]
    · rw [if_neg c, ← ih]
      cases d : k.2.2 with
      | false =>
        have e : hsOf (k :: tr) = kvL k :: hsOf tr := by unfold hsOf; rw [List.filter_cons, d]; rfl
        rw [e, valV_neg (p := kvL k) (fun h => c (key_inl.mp h))]
      | true =>
        have e : hsOf (k :: tr) = hsOf tr := by unfold hsOf; rw [List.filter_cons, d]; rfl
        rw [e]
theorem dropK_hs (t : Int) : ∀ tr : List Lk, dropK (hsOf tr) (.inl t) = hsOf (dropT tr t)
  | [] => rfl
  | k :: tr => by
    have ih := dropK_hs t tr
    unfold dropK at ih ⊢
    unfold dropT at ih ⊢
    rw [List.map_cons]
    by_cases c : k.1 = t
    · have e2 : hsOf ((if k.1 = t then (k.1, k.2.1, true) else k) :: tr.map fun k => if k.1 = t then (k.1, k.2.1, true) else k) = hsOf (tr.map fun k => if k.1 = t then (k.1, k.2.1, true) else k) := by rw [if_pos c]; rfl
      rw [e2, ← ih]
      cases d : k.2.2 with
      | false =>
        have e : hsOf (k :: tr) = kvL k :: hsOf tr := by unfold hsOf; rw [List.filter_cons, d]; rfl
        rw [e, List.filter_cons, if_neg]
        simp [kvL, c]
      | true =>
        have e : hsOf (k :: tr) = hsOf tr := by unfold hsOf; rw [List.filter_cons, d]; rfl
        rw [e]
    · rw [if_neg c]
      cases d : k.2.2 with
      | false =>
        have e : ∀ r : List Lk, hsOf (k :: r) = kvL k :: hsOf r := fun r => by unfold hsOf; rw [List.filter_cons, d]; rfl
        rw [e, e, List.filter_cons, if_pos, ih]
        simp [kvL, c]
      | true =>
        have e : ∀ r : List Lk, hsOf (k :: r) = hsOf r := fun r => by unfold hsOf; rw [List.filter_cons, d]; rfl
        rw [e, e, ih]
theorem putK_new {kvs : List (Key × V)} {k : Key} {v : V} (h : valV kvs k = none) : putK kvs k v = kvs ++ [(k, v)] := by
  unfold putK
  rw [if_neg]
  rw [valV_any, h]; simp
theorem hsOf_snoc (tr : List Lk) (k : Lk) (d : k.2.2 = false) : hsOf (tr ++ [k]) = hsOf tr ++ [kvL k] := by
  unfold hsOf; rw [List.filter_append, List.map_append]; simp [d]
theorem msOf_snoc (tr : List Lk) (k : Lk) : msOf (tr ++ [k]) = msOf tr ++ [kvL k] := by unfold msOf; rw [List.map_append]; rfl
theorem hsOf_len (tr : List Lk) : (hsOf tr).length ≤ tr.length := by unfold hsOf; rw [List.length_map]; exact List.length_filter_le _ _
theorem thsL_drop (tr : List Lk) (t : Int) : thsL (dropT tr t) = thsL tr := by
  unfold thsL dropT
  rw [List.map_map]
  refine List.map_congr_left fun k _ => ?_
  show (if k.1 = t then (k.1, k.2.1, true) else k).1 = k.1
  split <;> rfl
theorem loose_drop {tr : List Lk} {t : Int} (h : t ∈ thsL tr) : looseL (dropT tr t) = true := by
  unfold looseL dropT thsL at *
  obtain ⟨k, hk, e⟩ := List.mem_map.mp h
  rw [List.any_map, List.any_eq_true]
  exact ⟨k, hk, by simp [e]⟩
structure Sto (C : Addr) (H : Hp) (y w a b : Addr) (tr : List Lk) : Prop where
  obj : ∃ dx, H y = some (.ins C dx [("web", .ref w), ("_modes", .ref a), ("_holds", .ref b), ("_loose", .bl (looseL tr))])
  ms : H a = some (.dK (msOf tr))
  hs : H b = some (.dK (hsOf tr))
  ne : a ≠ b
theorem Sto.keep {C : Addr} {H H' : Hp} {y w a b : Addr} {tr : List Lk} (h : Sto C H y w a b tr) (hy : ∀ o, H y = some o → H' y = some o) (ha : ∀ o, H a = some o → H' a = some o) (hb : ∀ o, H b = some o → H' b = some o) : Sto C H' y w a b tr := by
  obtain ⟨⟨dx, e⟩, f, g, ne⟩ := h
  exact ⟨⟨dx, hy _ e⟩, ha _ f, hb _ g, ne⟩
theorem Sto.same {C : Addr} {H H' : Hp} {y w a b : Addr} {tr : List Lk} (h : Sto C H y w a b tr) (s : Same H H') : Sto C H' y w a b tr := h.keep (fun _ => s _ _) (fun _ => s _ _) (fun _ => s _ _)
theorem st_look1 (w a b : Addr) (lo : V) : List.lookup ("web" : Str) [(("web" : Str), V.ref w), ("_modes", V.ref a), ("_holds", V.ref b), ("_loose", lo)] = some (V.ref w) := rfl
theorem st_look2 (w a b : Addr) (lo : V) : List.lookup ("_modes" : Str) [(("web" : Str), V.ref w), ("_modes", V.ref a), ("_holds", V.ref b), ("_loose", lo)] = some (V.ref a) := rfl
theorem st_look3 (w a b : Addr) (lo : V) : List.lookup ("_holds" : Str) [(("web" : Str), V.ref w), ("_modes", V.ref a), ("_holds", V.ref b), ("_loose", lo)] = some (V.ref b) := rfl
theorem st_look4 (w a b : Addr) (lo : V) : List.lookup ("_loose" : Str) [(("web" : Str), V.ref w), ("_modes", V.ref a), ("_holds", V.ref b), ("_loose", lo)] = some lo := rfl
/-! ### which error is due -/
inductive SE where
  | bad | no | nh | lb | wm
def sharedW (rs : List Row) (ts : List Th) (t : Int) : Bool := ((findR rs (markW ts t)).map (·.sh)).getD false
def deedOk (z : Str) : Prop := z = "own" ∨ z = "share" ∨ z = "drop"
instance (z : Str) : Decidable (deedOk z) := inferInstanceAs (Decidable (_ ∨ _))
def dueS (ts : List Th) (rs : List Row) (tr : List Lk) (z : Str) (t : Int) : Option SE :=
  if ¬ deedOk z then some .bad
  else if ¬ inW ts t then some .no
  else if z = "drop" then (if (heldAt tr t).isSome then none else some .nh)
  else if (lkAt tr t).isSome then some .lb
  else if z = "share" ∧ sharedW rs ts t = false then some .wm
  else none
def errS (z : Str) (t : Int) (H' : Hp) (d : Addr) : SE → Prop
  | .no => H' d = some (.xd [("thing", .int t)])
  | _ => ∃ u, H' d = some (.xd [("step", .ref u)]) ∧ H' u = some (.tup [.str z, .int t])
def clsS (BS NT NH LB WM : Addr) : SE → Addr
  | .bad => BS | .no => NT | .nh => NH | .lb => LB | .wm => WM
end My

namespace My
open PySem L2
def spStInit (C : Addr) : Sp := fun vs H Q _ => ∃ (y dy w : Addr), vs = [.ref y, .ref w] ∧ H y = some (.ins C dy []) ∧ ∀ a b H', But y H H' → H a = none → H b = none → Sto C H' y w a b [] → Q .non H'
/-- what a standing stands on -/
structure OnW (Cw Cs : Addr) (H : Hp) (w x l m : Addr) (ts : List Th) (rs : List Row) : Prop where
  web : Wb Cw H w x l m ts
  sh : ShO Cs H x rs
  kn : ∀ th ∈ ts, findR rs th.1 ≠ none
theorem OnW.same {Cw Cs : Addr} {H H' : Hp} {w x l m : Addr} {ts : List Th} {rs : List Row} (h : OnW Cw Cs H w x l m ts rs) (s : Same H H') : OnW Cw Cs H' w x l m ts rs := ⟨h.web.same s, h.sh.same s, h.kn⟩
def stepAt (H : Hp) (p : Addr) (z : Str) (t : Int) : Prop := H p = some (.lst [.str z, .int t]) ∨ H p = some (.tup [.str z, .int t])
theorem stepAt.same {H H' : Hp} {p : Addr} {z : Str} {t : Int} (h : stepAt H p z t) (s : Same H H') : stepAt H' p z t := h.imp (s _ _) (s _ _)
def spStCheck (C Cw Cs BS NT NH LB WM : Addr) : Sp := fun vs H Q E => ∃ (y w a b p x l m : Addr) (tr : List Lk) (ts : List Th) (rs : List Row) (z : Str) (t : Int), vs = [.ref y, .ref p] ∧ Sto C H y w a b tr ∧ (thsL tr).Nodup ∧ OnW Cw Cs H w x l m ts rs ∧ stepAt H p z t ∧
  (dueS ts rs tr z t = none → ∀ H', Same H H' → Q .non H') ∧ (∀ e, dueS ts rs tr z t = some e → ∀ H' d, Same H H' → H d = none → errS z t H' d e → E (.ref (clsS BS NT NH LB WM e)) (some d) H')
def actS (tr : List Lk) (z : Str) (t : Int) : List Lk := if z = "drop" then dropT tr t else tr ++ [(t, decide (z = "own"), false)]
def spStTake (C Cw Cs BS NT NH LB WM : Addr) : Sp := fun vs H Q E => ∃ (y w a b p x l m : Addr) (tr : List Lk) (ts : List Th) (rs : List Row) (z : Str) (t : Int), vs = [.ref y, .ref p] ∧ Sto C H y w a b tr ∧ (thsL tr).Nodup ∧ tr.length ≤ 1000 ∧ OnW Cw Cs H w x l m ts rs ∧ stepAt H p z t ∧
  (dueS ts rs tr z t = none → ∀ H', Le [y, a, b] H H' → Sto C H' y w a b (actS tr z t) → Q .non H') ∧ (∀ e, dueS ts rs tr z t = some e → ∀ H' d, Same H H' → H d = none → errS z t H' d e → E (.ref (clsS BS NT NH LB WM e)) (some d) H')
def spStBegun (C : Addr) : Sp := fun vs H Q _ => ∃ (y w a b : Addr) (tr : List Lk), vs = [.ref y] ∧ Sto C H y w a b tr ∧ Q (.bl (decide (0 < (tr.length : Int)))) H
def spStLoose (C : Addr) : Sp := fun vs H Q _ => ∃ (y w a b : Addr) (tr : List Lk), vs = [.ref y] ∧ Sto C H y w a b tr ∧ Q (.bl (looseL tr)) H
def holdL (tr : List Lk) : List Int := thsL (tr.filter fun k => !k.2.2)
def spStHolding (C : Addr) : Sp := fun vs H Q _ => ∃ (y w a b : Addr) (tr : List Lk), vs = [.ref y] ∧ Sto C H y w a b tr ∧ ∀ u H', Same H H' → H u = none → H' u = some (.tup ((holdL tr).map V.int)) → Q (.ref u) H'
def wordO (k : Option Lk) : Str := (k.map fun k => wordL k.2.1).getD ""
def spStHeld (C : Addr) : Sp := fun vs H Q _ => ∃ (y w a b : Addr) (tr : List Lk) (t : Int), vs = [.ref y, .int t] ∧ Sto C H y w a b tr ∧ (thsL tr).Nodup ∧ Q (.str (wordO (heldAt tr t))) H
def spStLocked (C : Addr) : Sp := fun vs H Q _ => ∃ (y w a b : Addr) (tr : List Lk) (t : Int), vs = [.ref y, .int t] ∧ Sto C H y w a b tr ∧ Q (.str (wordO (lkAt tr t))) H
theorem wordO_get (k : Option Lk) : ((k.map fun k => V.str (wordL k.2.1)).getD (.str "")) = .str (wordO k) := by cases k <;> rfl
section
variable {w : World} {K : PySem.W.Frag} {mg : Str → Option Value} {base : Heap}
theorem ok_Standing_init (T : Txt K mg) : FnOk PP w K mg base CX0 1 T.a_Standing_init T.fd_Standing_init ["self", "web"] (spStInit T.c_Standing) := by
  refine T.F_Standing_init.ok sc_Standing_init (fun vs H Q E h => ?_) (fun cdv A outer s H vs Q E hr h => ?_)
  · obtain ⟨y, dy, x, rfl, _⟩ := h; rfl
  · obtain ⟨y, dy, x, rfl, hy, q⟩ := h
    refine ⟨_, (pss_cons (ps_fld (pv 0) (pv 1) rfl)
      (pss_cons (ps_fld (pv 0) (pe_dnewK) rfl)
      (pss_cons (ps_fld (pv 0) (pe_dnewK) rfl)
      (pss_one (ps_fld (pv 0) (pe_bl) rfl))))), ?_⟩
    refine ⟨_, rfl, _, rfl, y, _, dy, _, rfl, hy, T.cl_Standing, T.no_Standing_web, by show 0 < 1000; decide, ?_⟩
    refine fun l hl => ⟨_, rfl, y, _, dy, _, rfl, same_new hl _ _ upd_same, T.cl_Standing, T.no_Standing__modes, by show 1 < 1000; decide, ?_⟩
    have nly : l ≠ y := fun e => by rw [e, upd_same] at hl; cases hl
    have nl0 : H l = none := by rw [upd_ne nly] at hl; exact hl
    refine fun m hm => ⟨_, rfl, y, _, dy, _, rfl, same_new hm _ _ upd_same, T.cl_Standing, T.no_Standing__holds, by show 2 < 1000; decide, ?_⟩
    have nmy : m ≠ y := fun e => by rw [e, upd_same] at hm; cases hm
    have nml : m ≠ l := fun e => by rw [e, upd_ne nly, upd_same] at hm; cases hm
    have nm0 : H m = none := by rw [upd_ne nmy, upd_ne nml, upd_ne nmy] at hm; exact hm
    refine ⟨_, rfl, y, _, dy, _, rfl, upd_same, T.cl_Standing, T.no_Standing__loose, by show 3 < 1000; decide, ?_⟩
    refine q l m _ (fun b o n h => ?_) nl0 nm0 ⟨⟨dy, upd_same⟩, ?_, ?_, nml.symm⟩
    · rw [upd_ne n, upd_ne n, upd_ne (ne_of_none h nm0), upd_ne n, upd_ne (ne_of_none h nl0), upd_ne n]; exact h
    · rw [upd_ne nly, upd_ne nly, upd_ne nml.symm, upd_ne nly, upd_same]; rfl
    · rw [upd_ne nmy, upd_ne nmy, upd_same]; rfl
theorem ok_Standing_begun (T : Txt K mg) : FnOk PP w K mg base CX0 1 T.a_Standing_begun T.fd_Standing_begun ["self"] (spStBegun T.c_Standing) := by
  refine T.F_Standing_begun.ok sc_Standing_begun (fun vs H Q E h => ?_) (fun cdv A outer s H vs Q E hr h => ?_)
  · obtain ⟨y, x, a, b, tr, rfl, _⟩ := h; rfl
  · obtain ⟨y, x, a, b, tr, rfl, S, q⟩ := h
    obtain ⟨⟨dy, hy⟩, ha, hb, ne⟩ := id S
    refine ⟨_, (pss_one (ps_ret (pe_cmpR op_gt (pe_callB call_lenD (by rfl) T.n_len (by decide +kernel) (pa_cons (pe_fld (pv 0) rfl) pa_nil)) (pe_int) (nomark _)))), ?_⟩
    refine ⟨_, rfl, y, _, dy, _, _, rfl, hy, T.cl_Standing, T.no_Standing__modes, st_look2 x a b _, a, _, rfl, ha, _, _, rfl, rfl, ?_⟩
    have e : (msOf tr).length = tr.length := by unfold msOf; rw [List.length_map]
    rw [e]
    exact q
theorem ok_Standing_loose (T : Txt K mg) : FnOk PP w K mg base CX0 1 T.a_Standing_loose T.fd_Standing_loose ["self"] (spStLoose T.c_Standing) := by
  refine T.F_Standing_loose.ok sc_Standing_loose (fun vs H Q E h => ?_) (fun cdv A outer s H vs Q E hr h => ?_)
  · obtain ⟨y, x, a, b, tr, rfl, _⟩ := h; rfl
  · obtain ⟨y, x, a, b, tr, rfl, S, q⟩ := h
    obtain ⟨⟨dy, hy⟩, ha, hb, ne⟩ := id S
    refine ⟨_, (pss_one (ps_ret (pe_fld (pv 0) rfl))), ?_⟩
    exact ⟨_, rfl, y, _, dy, _, _, rfl, hy, T.cl_Standing, T.no_Standing__loose, st_look4 x a b _, q⟩
theorem ok_Standing_holding (T : Txt K mg) : FnOk PP w K mg base CX0 1 T.a_Standing_holding T.fd_Standing_holding ["self"] (spStHolding T.c_Standing) := by
  refine T.F_Standing_holding.ok sc_Standing_holding (fun vs H Q E h => ?_) (fun cdv A outer s H vs Q E hr h => ?_)
  · obtain ⟨y, x, a, b, tr, rfl, _⟩ := h; rfl
  · obtain ⟨y, x, a, b, tr, rfl, S, q⟩ := h
    obtain ⟨⟨dy, hy⟩, ha, hb, ne⟩ := id S
    refine ⟨_, (pss_one (ps_ret (pe_callTy call_tuple_of (by rfl) T.n_tuple (by decide +kernel) (pa_cons (pe_callTy (call_list_dK rfl) (by rfl) T.n_list (by decide +kernel) (pa_cons (pe_fld (pv 0) rfl) pa_nil)) pa_nil)))), ?_⟩
    refine ⟨_, rfl, y, _, dy, _, _, rfl, hy, T.cl_Standing, T.no_Standing__holds, st_look3 x a b _, b, _, rfl, hb, fun l hl => ⟨l, _, rfl, .inl ⟨SqL.of upd_same, fun u hu => ?_⟩⟩⟩
    refine q u _ ((same_new hl).trans (same_new hu)) ((same_new hl).free hu) ?_
    rw [upd_same]
    congr 2
    unfold hsOf holdL thsL
    rw [List.map_map, List.map_map]
    rfl
theorem ok_Standing_held_mode (T : Txt K mg) : FnOk PP w K mg base CX0 1 T.a_Standing_held_mode T.fd_Standing_held_mode ["self", "thing"] (spStHeld T.c_Standing) := by
  refine T.F_Standing_held_mode.ok sc_Standing_held_mode (fun vs H Q E h => ?_) (fun cdv A outer s H vs Q E hr h => ?_)
  · obtain ⟨y, x, a, b, tr, t, rfl, _⟩ := h; rfl
  · obtain ⟨y, x, a, b, tr, t, rfl, S, nd, q⟩ := h
    obtain ⟨⟨dy, hy⟩, ha, hb, ne⟩ := id S
    refine ⟨_, (pss_one (ps_ret (pe_dget2 (hu_of hr) (pe_fld (pv 0) rfl) (pv 1) (pe_str) ⟨by rfl, by rfl, by rfl, by rfl⟩))), ?_⟩
    refine ⟨_, rfl, y, _, dy, _, _, rfl, hy, T.cl_Standing, T.no_Standing__holds, st_look3 x a b _, b, rfl, .inl ⟨_, .of hb⟩, _, rfl, _, DGet.k (k := .inl t) hb, ?_⟩
    rw [valV_hs t tr nd, wordO_get]
    exact q
theorem ok_Standing_locked_mode (T : Txt K mg) : FnOk PP w K mg base CX0 1 T.a_Standing_locked_mode T.fd_Standing_locked_mode ["self", "thing"] (spStLocked T.c_Standing) := by
  refine T.F_Standing_locked_mode.ok sc_Standing_locked_mode (fun vs H Q E h => ?_) (fun cdv A outer s H vs Q E hr h => ?_)
  · obtain ⟨y, x, a, b, tr, t, rfl, _⟩ := h; rfl
  · obtain ⟨y, x, a, b, tr, t, rfl, S, q⟩ := h
    obtain ⟨⟨dy, hy⟩, ha, hb, ne⟩ := id S
    refine ⟨_, (pss_one (ps_ret (pe_dget2 (hu_of hr) (pe_fld (pv 0) rfl) (pv 1) (pe_str) ⟨by rfl, by rfl, by rfl, by rfl⟩))), ?_⟩
    refine ⟨_, rfl, y, _, dy, _, _, rfl, hy, T.cl_Standing, T.no_Standing__modes, st_look2 x a b _, a, rfl, .inl ⟨_, .of ha⟩, _, rfl, _, DGet.k (k := .inl t) ha, ?_⟩
    rw [valV_ms t tr, wordO_get]
    exact q
end
end My

namespace My
open PySem L2
theorem due_bad {ts : List Th} {rs : List Row} {tr : List Lk} {z : Str} {t : Int} (h : ¬ deedOk z) : dueS ts rs tr z t = some .bad := by unfold dueS; rw [if_pos h]
theorem due_no {ts : List Th} {rs : List Row} {tr : List Lk} {z : Str} {t : Int} (h : deedOk z) (i : ¬ inW ts t) : dueS ts rs tr z t = some .no := by unfold dueS; rw [if_neg (fun k => k h), if_pos i]
theorem due_drop {ts : List Th} {rs : List Row} {tr : List Lk} {t : Int} (i : inW ts t) : dueS ts rs tr "drop" t = if (heldAt tr t).isSome then none else some .nh := by
  unfold dueS; rw [if_neg (fun k => k (.inr (.inr rfl))), if_neg (fun k => k i), if_pos rfl]
theorem due_lock {ts : List Th} {rs : List Row} {tr : List Lk} {z : Str} {t : Int} (h : deedOk z) (i : inW ts t) (n : z ≠ "drop") : dueS ts rs tr z t = if (lkAt tr t).isSome then some .lb else if z = "share" ∧ sharedW rs ts t = false then some .wm else none := by
  unfold dueS; rw [if_neg (fun k => k h), if_neg (fun k => k i), if_neg n]
theorem deed_mem {z : Str} : z ∈ (["own", "share", "drop"] : List Str) ↔ deedOk z := by
  unfold deedOk
  simp only [List.mem_cons, List.not_mem_nil, or_false]
theorem modes_mem {z : Str} {sh : Bool} (h : deedOk z) (n : z ≠ "drop") : inV (.str z) (modesV sh) = decide (¬ (z = "share" ∧ sh = false)) := by
  have e : modesV sh = (if sh then ["own", "share"] else ["own"] : List Str).map V.str := by cases sh <;> rfl
  rw [e, in_strs]
  refine decide_eq_decide.mpr ?_
  rcases h with rfl | rfl | rfl
  · cases sh <;> simp (decide := true)
  · cases sh <;> simp (decide := true)
  · exact absurd rfl n
theorem flat_modes (sh : Bool) : (modesV sh).all flatV = true := by
  have e : modesV sh = (if sh then ["own", "share"] else ["own"] : List Str).map V.str := by cases sh <;> rfl
  rw [e]; exact flat_strs _
section
variable {w : World} {K : PySem.W.Frag} {mg : Str → Option Value} {base : Heap}
set_option maxHeartbeats 16000000 in
set_option pp.maxSteps 600 in
theorem ok_Standing_check (T : Txt K mg) : FnOk PP w K mg base (L2.CX PP w) 7 T.a_Standing_check T.fd_Standing_check ["self", "step"] (spStCheck T.c_Standing T.c_Web T.c_Shape T.c_BadStep T.c_NoThing T.c_NotHeld T.c_LockedBefore T.c_WrongMode) := by
  refine T.F_Standing_check.okX sc_Standing_check (fun vs H Q E h => ?_) (fun cdv A outer s H vs Q E hr h => ?_)
  · obtain ⟨y, wb, a, b, p, x, l, m, tr, ts, rs, z, t, rfl, _⟩ := h; rfl
  · obtain ⟨y, wb, a, b, p, x, l, m, tr, ts, rs, z, t, rfl, S, nd, W, hp, q, qe⟩ := h
    refine ⟨_, (pss_cons (ps_asg (pv 1) (pg_seq rfl (pgs_cons (pg_name (i := 2) sc_Standing_check.nd rfl (.inl rfl)) (pgs_cons (pg_name (i := 3) sc_Standing_check.nd rfl (.inl rfl)) pgs_nil))))
      (pss_cons (ps_set (i := 1) sc_Standing_check.nd rfl (.inl rfl) (pe_tup (pa_cons (pv 2) (pa_cons (pv 3) pa_nil))))
      (pss_cons (ps_if (pt_cmpR op_notIn_seq (pv 2) (pe_glob (v := .ref T.k_DEEDS) (by rfl) T.g_DEEDS rfl) (by with_unfolding_all rfl)) (pss_one (ps_raiseX rfl T.x_BadStep hr (takes_of rfl rfl rfl rfl) (pa_cons (pv 1) pa_nil))) pss_nil)
      (pss_cons (ps_if (pt_cmpR (op_ninI T.m_Web_contains (ok_Web_contains T) (hr.mono (by omega)) T.b_Web_contains pass0) (pv 3) (pe_fld (pv 0) rfl) (by with_unfolding_all rfl)) (pss_one (ps_raiseX rfl T.x_NoThing hr (takes_of rfl rfl rfl rfl) (pa_cons (pv 3) pa_nil))) pss_nil)
      (pss_cons (ps_if (pt_cmpR op_eq (pv 2) (pe_str) (nomark _)) (pss_cons (ps_if (pt_cmpR (op_ninKd (hu_of hr)) (pv 3) (pe_fld (pv 0) rfl) (by with_unfolding_all rfl)) (pss_one (ps_raiseX rfl T.x_NotHeld hr (takes_of rfl rfl rfl rfl) (pa_cons (pv 1) pa_nil))) pss_nil)
      (pss_one ps_retN)) pss_nil)
      (pss_cons (ps_if (pt_cmpR (op_inKd (hu_of hr)) (pv 3) (pe_fld (pv 0) rfl) (by with_unfolding_all rfl)) (pss_one (ps_raiseX rfl T.x_LockedBefore hr (takes_of rfl rfl rfl rfl) (pa_cons (pv 1) pa_nil))) pss_nil)
      (pss_one (ps_if (pt_cmpR op_notIn_seq (pv 2) (pe_meth (pe_fld (pe_fld (pv 0) rfl) rfl) T.cl_Shape T.m_Shape_modes_of (ok_Shape_modes_of T) (hr.mono (by omega)) T.b_Shape_modes_of .nil (passes_call (takes_of rfl rfl rfl rfl) (fun _ _ _ _ h => h)) (pa_cons (pe_meth (pe_fld (pv 0) rfl) T.cl_Web T.m_Web_mark_of (ok_Web_mark_of T) (hr.mono (by omega)) T.b_Web_mark_of .nil (passes_call (takes_of rfl rfl rfl rfl) (fun _ _ _ _ h => h)) (pa_cons (pv 3) pa_nil)) pa_nil)) (by with_unfolding_all rfl)) (pss_one (ps_raiseX rfl T.x_WrongMode hr (takes_of rfl rfl rfl rfl) (pa_cons (pv 1) pa_nil))) pss_nil)))))))), ?_⟩
    have big : 100000 < sizeLine := by decide
    rcases hp with hp | hp
    · refine ⟨_, rfl, .inr ⟨p, _, rfl, SqL.of hp, rfl, _, _, rfl, _, _, rfl, rfl, ?_⟩⟩
      refine ⟨_, rfl, _, rfl, by show 2 ≤ sizeLine; decide, fun u nu => ?_⟩
      have s1 := same_new (o := .tup [.str z, .int t]) nu
      have hu : (upd H u (.tup [.str z, .int t])) u = some (.tup [.str z, .int t]) := upd_same
      revert s1 hu
      generalize upd H u (.tup [.str z, .int t]) = H1
      intro s1 hu
      have S1 := S.same s1
      have W1 := W.same s1
      obtain ⟨⟨dy, hy⟩, ha, hb, ne⟩ := id S1
      obtain ⟨dw, hw⟩ := W1.web.obj
      obtain ⟨dx, _, _, _, hx, _⟩ := id W1.sh
      have er : ∀ {H' d} (e : SE), e ≠ .no → dueS ts rs tr z t = some e → Same H1 H' → H1 d = none → H' d = some (.xd [("step", .ref u)]) → E (.ref (clsS T.c_BadStep T.c_NoThing T.c_NotHeld T.c_LockedBefore T.c_WrongMode e)) (some d) H' := fun {H' d} e ne du s n hd => by
        refine qe e du H' d (s1.trans s) (s1.free n) ?_
        cases e with
        | no => exact absurd rfl ne
        | bad => exact ⟨u, hd, s _ _ hu⟩
        | nh => exact ⟨u, hd, s _ _ hu⟩
        | lb => exact ⟨u, hd, s _ _ hu⟩
        | wm => exact ⟨u, hd, s _ _ hu⟩
      refine ⟨_, rfl, _, _, rfl, .inr (show SqT K _ T.k_DEEDS ((["own", "share", "drop"] : List Str).map V.str) from T.q_DEEDS _), rfl, flat_strs _, ?_⟩
      rw [in_strs]
      refine ⟨_, rfl, iteN (fun c => ?_) (fun c => ?_)⟩
      · exact ⟨_, rfl, _, rfl, fun d hd => er .bad (by intro h; cases h) (due_bad fun h => c (deed_mem.mpr h)) (same_new hd) hd upd_same⟩
      have ok := deed_mem.mp c
      refine ⟨_, rfl, _, rfl, y, _, dy, _, _, rfl, hy, T.cl_Standing, T.no_Standing_web, st_look1 wb a b _, wb, dw, _, rfl, hw, wb, x, l, m, t, ts, rfl, W1.web, _, rfl, _, rfl, ?_⟩
      by_cases i : inW ts t
      rotate_left
      · refine iteYes (by show (!decide (inW ts t)) = true; rw [decide_eq_false i]; rfl) ?_
        exact ⟨_, rfl, _, rfl, fun d hd => qe .no (due_no ok i) _ d (s1.trans (same_new hd)) (s1.free hd) upd_same⟩
      refine iteNo (by show (!decide (inW ts t)) = false; rw [decide_eq_true i]; rfl) ?_
      refine ⟨_, rfl, rfl, _, rfl, iteD (fun c2 => ?_) (fun c2 => ?_)⟩
      · obtain rfl : z = "drop" := V.str.inj c2
        refine ⟨_, rfl, _, rfl, y, _, dy, _, _, rfl, hy, T.cl_Standing, T.no_Standing__holds, st_look3 wb a b _, b, _, rfl, DGet.k (k := .inl t) hb, _, rfl, ?_⟩
        rw [valV_hs t tr nd]
        have du := due_drop (rs := rs) (tr := tr) i
        cases hh : heldAt tr t with
        | none =>
          rw [hh] at du
          exact iteYes rfl ⟨_, rfl, _, rfl, fun d hd => er .nh (by intro h; cases h) du (same_new hd) hd upd_same⟩
        | some k =>
          rw [hh] at du
          exact iteNo rfl (q du H1 s1)
      have nz : z ≠ "drop" := fun h => c2 (by rw [h])
      have du := due_lock (rs := rs) (tr := tr) ok i nz
      refine ⟨_, rfl, _, rfl, y, _, dy, _, _, rfl, hy, T.cl_Standing, T.no_Standing__modes, st_look2 wb a b _, a, _, rfl, DGet.k (k := .inl t) ha, _, rfl, ?_⟩
      rw [valV_ms t tr]
      cases hh : lkAt tr t with
      | some k =>
        rw [hh] at du
        exact iteYes rfl ⟨_, rfl, _, rfl, fun d hd => er .lb (by intro h; cases h) du (same_new hd) hd upd_same⟩
      | none =>
        rw [hh] at du
        refine iteNo rfl ?_
        refine ⟨_, rfl, _, rfl, y, _, dy, _, _, rfl, hy, T.cl_Standing, T.no_Standing_web, st_look1 wb a b _, wb, _, dw, _, _, rfl, hw, T.cl_Web, T.no_Web_shape, wb_look1 x l m, x, dx, _, rfl, hx, rfl, _, rfl, y, _, dy, _, _, rfl, hy, T.cl_Standing, T.no_Standing_web, st_look1 wb a b _, wb, dw, _, rfl, hw, rfl, _, rfl, wb, x, l, m, t, ts, rfl, W1.web, fun _ => ?_, fun n => absurd i n⟩
        have kn : findR rs (markW ts t) ≠ none := by
          obtain ⟨th, e1, e2⟩ := inW_get i
          rw [e2]; exact W.kn th (List.mem_of_getElem? e1)
        refine ⟨x, markW ts t, rs, rfl, W1.sh, fun r tt H2 hf s2 hT => ?_, fun no => absurd no kn⟩
        have es : sharedW rs ts t = r.sh := by unfold sharedW; rw [hf]; rfl
        rw [es] at du
        refine ⟨_, _, rfl, .inr hT.sq, rfl, flat_modes r.sh, ?_⟩
        rw [modes_mem ok nz]
        refine ⟨_, rfl, iteN (fun c3 => ?_) (fun c3 => ?_)⟩
        · have c3 := Classical.not_not.mp c3
          have du : dueS ts rs tr z t = some .wm := by rw [du]; exact if_pos c3
          exact ⟨_, rfl, _, rfl, fun d hd => er .wm (by intro h; cases h) du (s2.trans (same_new hd)) (s2.free hd) upd_same⟩
        · have du : dueS ts rs tr z t = none := by rw [du]; exact if_neg c3
          exact q du H2 (s1.trans s2)
    · refine ⟨_, rfl, .inl ⟨p, _, rfl, SqT.of hp, rfl, _, _, rfl, _, _, rfl, rfl, ?_⟩⟩
      refine ⟨_, rfl, _, rfl, by show 2 ≤ sizeLine; decide, fun u nu => ?_⟩
      have s1 := same_new (o := .tup [.str z, .int t]) nu
      have hu : (upd H u (.tup [.str z, .int t])) u = some (.tup [.str z, .int t]) := upd_same
      revert s1 hu
      generalize upd H u (.tup [.str z, .int t]) = H1
      intro s1 hu
      have S1 := S.same s1
      have W1 := W.same s1
      obtain ⟨⟨dy, hy⟩, ha, hb, ne⟩ := id S1
      obtain ⟨dw, hw⟩ := W1.web.obj
      obtain ⟨dx, _, _, _, hx, _⟩ := id W1.sh
      have er : ∀ {H' d} (e : SE), e ≠ .no → dueS ts rs tr z t = some e → Same H1 H' → H1 d = none → H' d = some (.xd [("step", .ref u)]) → E (.ref (clsS T.c_BadStep T.c_NoThing T.c_NotHeld T.c_LockedBefore T.c_WrongMode e)) (some d) H' := fun {H' d} e ne du s n hd => by
        refine qe e du H' d (s1.trans s) (s1.free n) ?_
        cases e with
        | no => exact absurd rfl ne
        | bad => exact ⟨u, hd, s _ _ hu⟩
        | nh => exact ⟨u, hd, s _ _ hu⟩
        | lb => exact ⟨u, hd, s _ _ hu⟩
        | wm => exact ⟨u, hd, s _ _ hu⟩
      refine ⟨_, rfl, _, _, rfl, .inr (show SqT K _ T.k_DEEDS ((["own", "share", "drop"] : List Str).map V.str) from T.q_DEEDS _), rfl, flat_strs _, ?_⟩
      rw [in_strs]
      refine ⟨_, rfl, iteN (fun c => ?_) (fun c => ?_)⟩
      · exact ⟨_, rfl, _, rfl, fun d hd => er .bad (by intro h; cases h) (due_bad fun h => c (deed_mem.mpr h)) (same_new hd) hd upd_same⟩
      have ok := deed_mem.mp c
      refine ⟨_, rfl, _, rfl, y, _, dy, _, _, rfl, hy, T.cl_Standing, T.no_Standing_web, st_look1 wb a b _, wb, dw, _, rfl, hw, wb, x, l, m, t, ts, rfl, W1.web, _, rfl, _, rfl, ?_⟩
      by_cases i : inW ts t
      rotate_left
      · refine iteYes (by show (!decide (inW ts t)) = true; rw [decide_eq_false i]; rfl) ?_
        exact ⟨_, rfl, _, rfl, fun d hd => qe .no (due_no ok i) _ d (s1.trans (same_new hd)) (s1.free hd) upd_same⟩
      refine iteNo (by show (!decide (inW ts t)) = false; rw [decide_eq_true i]; rfl) ?_
      refine ⟨_, rfl, rfl, _, rfl, iteD (fun c2 => ?_) (fun c2 => ?_)⟩
      · obtain rfl : z = "drop" := V.str.inj c2
        refine ⟨_, rfl, _, rfl, y, _, dy, _, _, rfl, hy, T.cl_Standing, T.no_Standing__holds, st_look3 wb a b _, b, _, rfl, DGet.k (k := .inl t) hb, _, rfl, ?_⟩
        rw [valV_hs t tr nd]
        have du := due_drop (rs := rs) (tr := tr) i
        cases hh : heldAt tr t with
        | none =>
          rw [hh] at du
          exact iteYes rfl ⟨_, rfl, _, rfl, fun d hd => er .nh (by intro h; cases h) du (same_new hd) hd upd_same⟩
        | some k =>
          rw [hh] at du
          exact iteNo rfl (q du H1 s1)
      have nz : z ≠ "drop" := fun h => c2 (by rw [h])
      have du := due_lock (rs := rs) (tr := tr) ok i nz
      refine ⟨_, rfl, _, rfl, y, _, dy, _, _, rfl, hy, T.cl_Standing, T.no_Standing__modes, st_look2 wb a b _, a, _, rfl, DGet.k (k := .inl t) ha, _, rfl, ?_⟩
      rw [valV_ms t tr]
      cases hh : lkAt tr t with
      | some k =>
        rw [hh] at du
        exact iteYes rfl ⟨_, rfl, _, rfl, fun d hd => er .lb (by intro h; cases h) du (same_new hd) hd upd_same⟩
      | none =>
        rw [hh] at du
        refine iteNo rfl ?_
        refine ⟨_, rfl, _, rfl, y, _, dy, _, _, rfl, hy, T.cl_Standing, T.no_Standing_web, st_look1 wb a b _, wb, _, dw, _, _, rfl, hw, T.cl_Web, T.no_Web_shape, wb_look1 x l m, x, dx, _, rfl, hx, rfl, _, rfl, y, _, dy, _, _, rfl, hy, T.cl_Standing, T.no_Standing_web, st_look1 wb a b _, wb, dw, _, rfl, hw, rfl, _, rfl, wb, x, l, m, t, ts, rfl, W1.web, fun _ => ?_, fun n => absurd i n⟩
        have kn : findR rs (markW ts t) ≠ none := by
          obtain ⟨th, e1, e2⟩ := inW_get i
          rw [e2]; exact W.kn th (List.mem_of_getElem? e1)
        refine ⟨x, markW ts t, rs, rfl, W1.sh, fun r tt H2 hf s2 hT => ?_, fun no => absurd no kn⟩
        have es : sharedW rs ts t = r.sh := by unfold sharedW; rw [hf]; rfl
        rw [es] at du
        refine ⟨_, _, rfl, .inr hT.sq, rfl, flat_modes r.sh, ?_⟩
        rw [modes_mem ok nz]
        refine ⟨_, rfl, iteN (fun c3 => ?_) (fun c3 => ?_)⟩
        · have c3 := Classical.not_not.mp c3
          have du : dueS ts rs tr z t = some .wm := by rw [du]; exact if_pos c3
          exact ⟨_, rfl, _, rfl, fun d hd => er .wm (by intro h; cases h) du (s2.trans (same_new hd)) (s2.free hd) upd_same⟩
        · have du : dueS ts rs tr z t = none := by rw [du]; exact if_neg c3
          exact q du H2 (s1.trans s2)
end
end My

namespace My
open PySem L2
theorem due_none {ts : List Th} {rs : List Row} {tr : List Lk} {z : Str} {t : Int} (h : dueS ts rs tr z t = none) : deedOk z ∧ inW ts t ∧ (z = "drop" → (heldAt tr t).isSome = true) ∧ (z ≠ "drop" → lkAt tr t = none) := by
  unfold dueS at h
  by_cases a : deedOk z
  · rw [if_neg (fun k => k a)] at h
    by_cases i : inW ts t
    · rw [if_neg (fun k => k i)] at h
      refine ⟨a, i, fun e => ?_, fun n => ?_⟩
      · rw [if_pos e] at h
        by_cases c : (heldAt tr t).isSome = true
        · exact c
        · rw [if_neg c] at h; cases h
      · rw [if_neg n] at h
        cases c : lkAt tr t with
        | none => rfl
        | some k => rw [c] at h; cases h
    · rw [if_pos i] at h; cases h
  · rw [if_pos a] at h; cases h
theorem word_own {z : Str} (h : deedOk z) (n : z ≠ "drop") : wordL (decide (z = "own")) = z := by
  rcases h with rfl | rfl | rfl
  · rfl
  · rfl
  · exact absurd rfl n
theorem loose_snoc (tr : List Lk) (k : Lk) (h : k.2.2 = false) : looseL (tr ++ [k]) = looseL tr := by unfold looseL; rw [List.any_append]; simp [h]
section
variable {w : World} {K : PySem.W.Frag} {mg : Str → Option Value} {base : Heap}
set_option maxHeartbeats 16000000 in
set_option pp.maxSteps 600 in
theorem ok_Standing_take (T : Txt K mg) : FnOk PP w K mg base (L2.CX PP w) 9 T.a_Standing_take T.fd_Standing_take ["self", "step"] (spStTake T.c_Standing T.c_Web T.c_Shape T.c_BadStep T.c_NoThing T.c_NotHeld T.c_LockedBefore T.c_WrongMode) := by
  refine T.F_Standing_take.okX sc_Standing_take (fun vs H Q E h => ?_) (fun cdv A outer s H vs Q E hr h => ?_)
  · obtain ⟨y, wb, a, b, p, x, l, m, tr, ts, rs, z, t, rfl, _⟩ := h; rfl
  · obtain ⟨y, wb, a, b, p, x, l, m, tr, ts, rs, z, t, rfl, S, nd, lt, W, hp, q, qe⟩ := h
    refine ⟨_, (pss_cons (ps_expr (pe_meth (pv 0) T.cl_Standing T.m_Standing_check (ok_Standing_check T) (hr.mono (by omega)) T.b_Standing_check .nil (passes_call (takes_of rfl rfl rfl rfl) (fun _ _ _ _ h => h)) (pa_cons (pv 1) pa_nil)))
      (pss_cons (ps_asg (pv 1) (pg_seq rfl (pgs_cons (pg_name (i := 2) sc_Standing_take.nd rfl (.inl rfl)) (pgs_cons (pg_name (i := 3) sc_Standing_take.nd rfl (.inl rfl)) pgs_nil))))
      (pss_one (ps_if (pt_cmpR op_eq (pv 2) (pe_str) (nomark _)) (pss_cons (ps_ddel (pe_fld (pv 0) rfl) (pv 3))
      (pss_one (ps_fld (pv 0) (pe_bl) rfl))) (pss_cons (ps_dput (hu_of hr) (pe_fld (pv 0) rfl) (pv 3) (pv 2) rfl)
      (pss_one (ps_dput (hu_of hr) (pe_fld (pv 0) rfl) (pv 3) (pv 2) rfl))))))), ?_⟩
    have big : 100000 < sizeLine := by decide
    obtain ⟨⟨dy, hy⟩, _⟩ := id S
    refine ⟨_, rfl, y, dy, _, rfl, hy, rfl, _, rfl, y, wb, a, b, p, x, l, m, tr, ts, rs, z, t, rfl, S, nd, W, hp, fun du H1 s1 => ?_, fun e du H' d s n h => qe e du H' d s n h⟩
    obtain ⟨ok, i, dd, dl⟩ := due_none du
    obtain ⟨⟨dy, hy⟩, ha, hb, ne⟩ := S.same s1
    have hp1 := hp.same s1
    have nay : a ≠ y := ne_of ha hy (by intro z; cases z)
    have nby : b ≠ y := ne_of hb hy (by intro z; cases z)
    rcases hp1 with hp1 | hp1
    · refine ⟨_, rfl, .inr ⟨p, _, rfl, SqL.of hp1, rfl, _, _, rfl, _, _, rfl, rfl, ?_⟩⟩
      refine ⟨_, rfl, rfl, _, rfl, iteD (fun c => ?_) (fun c => ?_)⟩
      · obtain rfl : z = "drop" := V.str.inj c
        have hs := dd rfl
        refine ⟨_, rfl, y, _, dy, _, _, rfl, hy, T.cl_Standing, T.no_Standing__holds, st_look3 wb a b _, _, rfl, b, _, .inl t, rfl, hb, rfl, ?_, ?_⟩
        · rw [valV_hs t tr nd, Option.isSome_map]; exact hs
        rw [dropK_hs]
        have hm : t ∈ thsL tr := by
          by_cases m : t ∈ thsL tr
          · exact m
          · unfold heldAt at hs; rw [lkAt_none.mpr m] at hs; cases hs
        refine ⟨_, rfl, y, _, dy, _, rfl, by rw [upd_ne nby.symm]; exact hy, T.cl_Standing, T.no_Standing__loose, by show 4 < 1000; decide, ?_⟩
        refine q du _ (((Le.same s1).trans (.upd (by simp))).trans (.upd (by simp))) ?_
        show Sto _ _ y wb a b (dropT tr t)
        refine ⟨⟨dy, ?_⟩, ?_, ?_, ne⟩
        · rw [upd_same, loose_drop hm]; rfl
        · rw [upd_ne nay, upd_ne ne, ha]
          congr 2
          unfold msOf dropT
          rw [List.map_map]
          refine List.map_congr_left fun k _ => ?_
          show kvL k = kvL (if k.1 = t then (k.1, k.2.1, true) else k)
          split <;> rfl
        · rw [upd_ne nby, upd_same]
      · have nz : z ≠ "drop" := fun h => c (by rw [h])
        have hl := dl nz
        have v1 : valV (msOf tr) (.inl t) = none := by rw [valV_ms, hl]; rfl
        have v2 : valV (hsOf tr) (.inl t) = none := by rw [valV_hs t tr nd]; unfold heldAt; rw [hl]; rfl
        have l1 : (msOf tr).length < sizeLine := by unfold msOf; rw [List.length_map]; omega
        have l2 : (hsOf tr).length < sizeLine := by have := hsOf_len tr; omega
        have ew := word_own ok nz
        refine ⟨_, rfl, _, rfl, y, _, dy, _, _, rfl, hy, T.cl_Standing, T.no_Standing__modes, st_look2 wb a b _, _, rfl, a, _, rfl, DPut.k (k := .inl t) ha l1, ?_⟩
        rw [putK_new v1]
        refine ⟨_, rfl, _, rfl, y, _, dy, _, _, rfl, by rw [upd_ne nay.symm]; exact hy, T.cl_Standing, T.no_Standing__holds, st_look3 wb a b _, _, rfl, b, _, rfl, DPut.k (k := .inl t) (by rw [upd_ne ne.symm]; exact hb) l2, ?_⟩
        rw [putK_new v2]
        refine q du _ (((Le.same s1).trans (.upd (by simp))).trans (.upd (by simp))) ?_
        have ea : actS tr z t = tr ++ [(t, decide (z = "own"), false)] := if_neg nz
        rw [ea]
        refine ⟨⟨dy, ?_⟩, ?_, ?_, ne⟩
        · rw [upd_ne nby.symm, upd_ne nay.symm, loose_snoc _ _ rfl]; exact hy
        · rw [upd_ne ne, upd_same, msOf_snoc]
          unfold kvL
          rw [ew]
        · rw [upd_same, hsOf_snoc _ _ rfl]
          unfold kvL
          rw [ew]
    · refine ⟨_, rfl, .inl ⟨p, _, rfl, SqT.of hp1, rfl, _, _, rfl, _, _, rfl, rfl, ?_⟩⟩
      refine ⟨_, rfl, rfl, _, rfl, iteD (fun c => ?_) (fun c => ?_)⟩
      · obtain rfl : z = "drop" := V.str.inj c
        have hs := dd rfl
        refine ⟨_, rfl, y, _, dy, _, _, rfl, hy, T.cl_Standing, T.no_Standing__holds, st_look3 wb a b _, _, rfl, b, _, .inl t, rfl, hb, rfl, ?_, ?_⟩
        · rw [valV_hs t tr nd, Option.isSome_map]; exact hs
        rw [dropK_hs]
        have hm : t ∈ thsL tr := by
          by_cases m : t ∈ thsL tr
          · exact m
          · unfold heldAt at hs; rw [lkAt_none.mpr m] at hs; cases hs
        refine ⟨_, rfl, y, _, dy, _, rfl, by rw [upd_ne nby.symm]; exact hy, T.cl_Standing, T.no_Standing__loose, by show 4 < 1000; decide, ?_⟩
        refine q du _ (((Le.same s1).trans (.upd (by simp))).trans (.upd (by simp))) ?_
        show Sto _ _ y wb a b (dropT tr t)
        refine ⟨⟨dy, ?_⟩, ?_, ?_, ne⟩
        · rw [upd_same, loose_drop hm]; rfl
        · rw [upd_ne nay, upd_ne ne, ha]
          congr 2
          unfold msOf dropT
          rw [List.map_map]
          refine List.map_congr_left fun k _ => ?_
          show kvL k = kvL (if k.1 = t then (k.1, k.2.1, true) else k)
          split <;> rfl
        · rw [upd_ne nby, upd_same]
      · have nz : z ≠ "drop" := fun h => c (by rw [h])
        have hl := dl nz
        have v1 : valV (msOf tr) (.inl t) = none := by rw [valV_ms, hl]; rfl
        have v2 : valV (hsOf tr) (.inl t) = none := by rw [valV_hs t tr nd]; unfold heldAt; rw [hl]; rfl
        have l1 : (msOf tr).length < sizeLine := by unfold msOf; rw [List.length_map]; omega
        have l2 : (hsOf tr).length < sizeLine := by have := hsOf_len tr; omega
        have ew := word_own ok nz
        refine ⟨_, rfl, _, rfl, y, _, dy, _, _, rfl, hy, T.cl_Standing, T.no_Standing__modes, st_look2 wb a b _, _, rfl, a, _, rfl, DPut.k (k := .inl t) ha l1, ?_⟩
        rw [putK_new v1]
        refine ⟨_, rfl, _, rfl, y, _, dy, _, _, rfl, by rw [upd_ne nay.symm]; exact hy, T.cl_Standing, T.no_Standing__holds, st_look3 wb a b _, _, rfl, b, _, rfl, DPut.k (k := .inl t) (by rw [upd_ne ne.symm]; exact hb) l2, ?_⟩
        rw [putK_new v2]
        refine q du _ (((Le.same s1).trans (.upd (by simp))).trans (.upd (by simp))) ?_
        have ea : actS tr z t = tr ++ [(t, decide (z = "own"), false)] := if_neg nz
        rw [ea]
        refine ⟨⟨dy, ?_⟩, ?_, ?_, ne⟩
        · rw [upd_ne nby.symm, upd_ne nay.symm, loose_snoc _ _ rfl]; exact hy
        · rw [upd_ne ne, upd_same, msOf_snoc]
          unfold kvL
          rw [ew]
        · rw [upd_same, hsOf_snoc _ _ rfl]
          unfold kvL
          rw [ew]
end
end My

namespace My
open PySem L2
/-! ### the law's state -/
def codeL (k : Option Lk) : Int := match k with
  | none => 0
  | some k => (if k.2.1 then 1 else 2) + (if k.2.2 then 2 else 0)
def stV (tr : List Lk) (n : Nat) : List V := (List.range n).map fun i => V.int (codeL (lkAt tr ((i : Nat) : Int)))
theorem stV_len (tr : List Lk) (n : Nat) : (stV tr n).length = n := by unfold stV; rw [List.length_map, List.length_range]
theorem stV_at {tr : List Lk} {n i : Nat} (h : i < n) : (stV tr n)[i]? = some (.int (codeL (lkAt tr ((i : Nat) : Int)))) := by
  unfold stV
  rw [List.getElem?_map, List.getElem?_range h]; rfl
theorem stV_set {tr tr' : List Lk} {n j : Nat} (hj : j < n) (h1 : ∀ i : Int, i ≠ (j : Nat) → lkAt tr' i = lkAt tr i) : (stV tr n).set j (.int (codeL (lkAt tr' ((j : Nat) : Int)))) = stV tr' n := by
  refine List.ext_getElem? fun i => ?_
  by_cases hi : i < n
  · by_cases c : j = i
    · subst c
      rw [List.getElem?_set, if_pos rfl, if_pos (by rw [stV_len]; exact hi), stV_at hi]
    · rw [List.getElem?_set, if_neg c, stV_at hi, stV_at hi, h1 _ (by omega)]
  · rw [List.getElem?_eq_none (by rw [List.length_set, stV_len]; omega), List.getElem?_eq_none (by rw [stV_len]; omega)]
theorem ixj {n j : Nat} (h : j < n) : ixN n ((j : Nat) : Int) = some j := by
  unfold ixN
  rw [if_pos (by omega), if_pos (by omega), Int.toNat_natCast]
theorem lkAt_snoc (tr : List Lk) (k : Lk) (i : Int) : lkAt (tr ++ [k]) i = (lkAt tr i).or (if k.1 = i then some k else none) := by
  unfold lkAt
  rw [List.find?_append]
  congr 1
  rw [List.find?_cons]
  by_cases c : k.1 = i
  · rw [decide_eq_true c, if_pos c]
  · rw [decide_eq_false c, if_neg c]; rfl
theorem lkAt_drop (t i : Int) : ∀ tr : List Lk, lkAt (dropT tr t) i = if i = t then (lkAt tr i).map (fun k => (k.1, k.2.1, true)) else lkAt tr i
  | [] => by unfold dropT lkAt; simp
  | k :: tr => by
    have ih := lkAt_drop t i tr
    have e : dropT (k :: tr) t = (if k.1 = t then (k.1, k.2.1, true) else k) :: dropT tr t := rfl
    rw [e, lkAt_cons, lkAt_cons, ih]
    have e1 : (if k.1 = t then ((k.1, k.2.1, true) : Lk) else k).1 = k.1 := by split <;> rfl
    rw [e1]
    by_cases c : k.1 = i
    · rw [if_pos c, if_pos c]
      by_cases d : i = t
      · rw [if_pos d, if_pos (c.trans d)]; rfl
      · rw [if_neg d, if_neg (fun h => d (c.symm.trans h))]
    · rw [if_neg c, if_neg c]
theorem lkAt_key {tr : List Lk} {t : Int} {k : Lk} (h : lkAt tr t = some k) : k.1 = t := by
  unfold lkAt at h
  simpa using List.find?_some h
theorem held_some {tr : List Lk} {t : Int} (h : (heldAt tr t).isSome = true) : ∃ o, lkAt tr t = some (t, o, false) := by
  unfold heldAt at h
  cases e : lkAt tr t with
  | none => rw [e] at h; cases h
  | some k =>
    rw [e] at h
    have ek := lkAt_key e
    obtain ⟨a, o, d⟩ := k
    cases d with
    | false => exact ⟨o, by rw [show a = t from ek]⟩
    | true => simp [Option.filter] at h
def spDo : Sp := fun vs H Q _ => ∃ (s p : Addr) (tr : List Lk) (n j : Nat) (z : Str), vs = [.ref s, .ref p] ∧ H s = some (.lst (stV tr n)) ∧ H p = some (.tup [.str z, .int ((j : Nat) : Int)]) ∧ n ≤ 1000 ∧ j < n ∧ deedOk z ∧ (z = "drop" → (heldAt tr ((j : Nat) : Int)).isSome = true) ∧ (z ≠ "drop" → lkAt tr ((j : Nat) : Int) = none) ∧
  Q .non (upd H s (.lst (stV (actS tr z ((j : Nat) : Int)) n)))
def spLShared : Sp := fun vs H Q _ => ∃ (R : Addr) (ws : List V) (rs : List Row) (z : Str), vs = [.ref R, .str z] ∧ H R = some (.lst ws) ∧ RowsN (fun _ => True) true H ws rs ∧ Q (.bl (((findR rs z).map (·.sh)).getD false)) H
section
variable {P : Program} {w : World} {K : PySem.W.Frag} {mg : Str → Option Value} {base : Heap}
theorem ok__law_do (T : Txt K mg) : FnOk P w K mg base CX0 1 T.a__law_do T.fd__law_do ["_law_state", "_law_step"] spDo := by
  refine T.F__law_do.ok sc__law_do (fun vs H Q E h => ?_) (fun cdv A outer s H vs Q E hr h => ?_)
  · obtain ⟨s, p, tr, n, j, z, rfl, _⟩ := h; rfl
  · obtain ⟨s, p, tr, n, j, z, rfl, hs, hp, hn, hj, ok, dd, dl, q⟩ := h
    refine ⟨_, (pss_one (ps_if (pt_cmpR op_eq (pe_ix ix_tup (pv 1) (pe_int) (fun _ _ => rfl)) (pe_str) (nomark _)) (pss_one (ps_asg (pe_int) (pg_sub (pv 0) (pe_ix ix_tup (pv 1) (pe_int) (fun _ _ => rfl)) set_list))) (pss_one (ps_if (pt_cmpR op_eq (pe_ix ix_tup (pv 1) (pe_int) (fun _ _ => rfl)) (pe_str) (nomark _)) (pss_one (ps_asg (pe_int) (pg_sub (pv 0) (pe_ix ix_tup (pv 1) (pe_int) (fun _ _ => rfl)) set_list))) (pss_one (ps_asg (pe_op op_add (pe_ix ix_list (pv 0) (pe_ix ix_tup (pv 1) (pe_int) (fun _ _ => rfl)) (fun _ _ => rfl)) (pe_int)) (pg_sub (pv 0) (pe_ix ix_tup (pv 1) (pe_int) (fun _ _ => rfl)) set_list))))))), ?_⟩
    have hl : j < (stV tr n).length := by rw [stV_len]; exact hj
    refine ⟨_, rfl, _, _, _, _, rfl, rfl, SqT.of hp, atI_nat (j := 0) rfl, rfl, _, rfl, iteD (fun c => ?_) (fun c => ?_)⟩
    · obtain rfl : z = "own" := V.str.inj c
      refine ⟨_, rfl, _, rfl, _, _, _, _, rfl, rfl, SqT.of hp, atI_nat (j := 1) rfl, s, _, _, j, rfl, rfl, hs, ixj hl, ?_⟩
      have e := stV_set (tr := tr) (tr' := actS tr "own" ((j : Nat) : Int)) hj (fun i ne => by
        show lkAt (tr ++ [(((j : Nat) : Int), true, false)]) i = _
        rw [lkAt_snoc, if_neg (fun h => ne h.symm), Option.or_none])
      have e2 : codeL (lkAt (actS tr "own" ((j : Nat) : Int)) ((j : Nat) : Int)) = 1 := by
        show codeL (lkAt (tr ++ [(((j : Nat) : Int), true, false)]) ((j : Nat) : Int)) = 1
        rw [lkAt_snoc, dl (by decide), if_pos rfl]; rfl
      rw [e2] at e
      rw [e]
      exact q
    refine ⟨_, rfl, _, _, _, _, rfl, rfl, SqT.of hp, atI_nat (j := 0) rfl, rfl, _, rfl, iteD (fun c2 => ?_) (fun c2 => ?_)⟩
    · obtain rfl : z = "share" := V.str.inj c2
      refine ⟨_, rfl, _, rfl, _, _, _, _, rfl, rfl, SqT.of hp, atI_nat (j := 1) rfl, s, _, _, j, rfl, rfl, hs, ixj hl, ?_⟩
      have e := stV_set (tr := tr) (tr' := actS tr "share" ((j : Nat) : Int)) hj (fun i ne => by
        show lkAt (tr ++ [(((j : Nat) : Int), false, false)]) i = _
        rw [lkAt_snoc, if_neg (fun h => ne h.symm), Option.or_none])
      have e2 : codeL (lkAt (actS tr "share" ((j : Nat) : Int)) ((j : Nat) : Int)) = 2 := by
        show codeL (lkAt (tr ++ [(((j : Nat) : Int), false, false)]) ((j : Nat) : Int)) = 2
        rw [lkAt_snoc, dl (by decide), if_pos rfl]; rfl
      rw [e2] at e
      rw [e]
      exact q
    have hz : z = "drop" := by
      rcases ok with h | h | h
      · exact absurd (by rw [h]) c
      · exact absurd (by rw [h]) c2
      · exact h
    subst hz
    obtain ⟨o, ho⟩ := held_some (dd rfl)
    refine ⟨_, rfl, _, rfl, _, _, _, _, rfl, rfl, SqT.of hp, atI_nat (j := 1) rfl, _, _, _, _, rfl, rfl, SqL.of hs, atI_nat (stV_at hj), _, _, rfl, rfl, ?_⟩
    refine ⟨_, rfl, _, rfl, _, _, _, _, rfl, rfl, SqT.of hp, atI_nat (j := 1) rfl, s, _, _, j, rfl, rfl, hs, ixj hl, ?_⟩
    have e := stV_set (tr := tr) (tr' := actS tr "drop" ((j : Nat) : Int)) hj (fun i ne => by
      show lkAt (dropT tr ((j : Nat) : Int)) i = _
      rw [lkAt_drop, if_neg ne])
    have e2 : codeL (lkAt (actS tr "drop" ((j : Nat) : Int)) ((j : Nat) : Int)) = codeL (lkAt tr ((j : Nat) : Int)) + 2 := by
      show codeL (lkAt (dropT tr ((j : Nat) : Int)) ((j : Nat) : Int)) = _
      rw [lkAt_drop, if_pos rfl, ho]
      cases o <;> rfl
    rw [e2] at e
    rw [e]
    exact q
theorem ok__law_shared (T : Txt K mg) : FnOk P w K mg base CX0 1 T.a__law_shared T.fd__law_shared ["_law_rows_here", "_law_mark"] spLShared := by
  refine T.F__law_shared.ok sc__law_shared (fun vs H Q E h => ?_) (fun cdv A outer s H vs Q E hr h => ?_)
  · obtain ⟨R, ws, rs, z, rfl, _⟩ := h; rfl
  · obtain ⟨R, ws, rs, z, rfl, hR, rR, q⟩ := h
    refine ⟨_, (pss_cons (ps_for PassesOwn.never rfl (pi_list (pv 0)) (pg_name (i := 2) sc__law_shared.nd rfl (.inl rfl)) (pss_one (ps_if (pt_cmpR op_eq (pe_ix ix_list (pv 2) (pe_int) (fun _ _ => rfl)) (pv 1) (nomark _)) (pss_one (ps_ret (pe_ix ix_list (pv 2) (pe_int) (fun _ _ => rfl)))) pss_nil)))
      (pss_one (ps_ret (pe_bl)))), ?_⟩
    have lw := pair_len' rR
    refine ⟨_, rfl, R, rfl, ⟨_, SqL.of hR⟩, for_list (K := K) (a := R) (xs := ws) (fun i σ H' => ∃ x2, H' = H ∧ σ = [some (.ref R), some (.str z), x2] ∧ ∀ r ∈ rs.take i, r.mark ≠ z) ⟨_, rfl, rfl, fun r h => by rw [List.take_zero] at h; cases h⟩ (fun i σ H' _ ⟨_, e, _⟩ => SqL.of (by rw [e]; exact hR)) ?_ ?_⟩
    · rintro i v σ H2 hv ⟨x2, rfl, rfl, no⟩
      obtain ⟨r, hr, p, pp, rfl, _, _, hp, _⟩ := pair_get' rR hv
      have hp : H2 p = some (.lst (rowL r pp)) := hp
      refine ⟨_, rfl, _, _, _, _, rfl, rfl, SqL.of hp, atI_nat (j := 0) rfl, _, rfl, rfl, _, rfl, iteD (fun c => ?_) (fun c => ?_)⟩
      · refine ⟨_, rfl, _, _, _, _, rfl, rfl, SqL.of hp, atI_nat (j := 4) rfl, ?_⟩
        rw [findR_at hr (V.str.inj c) no] at q
        exact q
      · refine ⟨_, rfl, rfl, fun r' h => ?_⟩
        rw [List.take_succ, hr] at h
        rcases List.mem_append.mp h with h | h
        · exact no r' h
        · rw [List.mem_singleton.mp h]; exact fun e => c (by rw [e])
    · rintro σ H2 ⟨x2, rfl, rfl, no⟩
      rw [lw, List.take_length] at no
      rw [findR_no no] at q
      exact q
end
end My

namespace My
open PySem L2
def stepD (z : Str) (t : Int) : PyData := .tuple [.str z, .int t]
def dueW : SE → List Str
  | .bad => ["BadStep"] | .no => ["NoThing"] | .nh => ["Refused", "NotHeld"] | .lb => ["Refused", "LockedBefore"] | .wm => ["Refused", "WrongMode"]
def dueF (z : Str) (t : Int) : SE → PyData
  | .no => .int t
  | _ => stepD z t
def dueD (z : Str) (t : Int) : Option SE → PyData
  | none => .list []
  | some e => .list [.list ((dueW e).map .str), dueF z t e]
def dueN : Option SE → Nat
  | none => 0
  | some _ => 2
def DueL (N : Addr → Prop) (H : Hp) (u : Addr) (z : Str) (t : Int) : Option SE → Prop
  | none => N u ∧ H u = some (.lst [])
  | some .no => ∃ v, N u ∧ N v ∧ H u = some (.lst [.ref v, .int t]) ∧ H v = some (.lst [.str "NoThing"])
  | some e => ∃ v p, N u ∧ N v ∧ H u = some (.lst [.ref v, .ref p]) ∧ H v = some (.lst ((dueW e).map V.str)) ∧ H p = some (.tup [.str z, .int t])
theorem ins_ne {H : Hp} {x a : Addr} {C dx : Addr} {fs : List (Str × V)} (h : H x = some (.ins C dx fs)) {o : HO} (e : H a = some o) (n : ∀ C dx fs, o ≠ .ins C dx fs) : a ≠ x := fun z => by rw [z, h] at e; exact n _ _ _ (Option.some.inj e).symm
theorem dueL_nil {N : Addr → Prop} {H : Hp} {u : Addr} {z : Str} {t : Int} (nu : N u) (h : H u = some (.lst [])) : DueL N H u z t none := ⟨nu, h⟩
theorem dueL_step {N : Addr → Prop} {H : Hp} {u v p : Addr} {z : Str} {t : Int} {e : SE} (ne : e ≠ .no) (nu : N u) (nv : N v) (hu : H u = some (.lst [.ref v, .ref p])) (hv : H v = some (.lst ((dueW e).map V.str))) (hp : H p = some (.tup [.str z, .int t])) : DueL N H u z t (some e) := by
  cases e with
  | no => exact absurd rfl ne
  | bad => exact ⟨v, p, nu, nv, hu, hv, hp⟩
  | nh => exact ⟨v, p, nu, nv, hu, hv, hp⟩
  | lb => exact ⟨v, p, nu, nv, hu, hv, hp⟩
  | wm => exact ⟨v, p, nu, nv, hu, hv, hp⟩
theorem dueL_no {N : Addr → Prop} {H : Hp} {u v : Addr} {z : Str} {t : Int} (nu : N u) (nv : N v) (hu : H u = some (.lst [.ref v, .int t])) (hv : H v = some (.lst [.str "NoThing"])) : DueL N H u z t (some .no) := ⟨v, nu, nv, hu, hv⟩
theorem DueL.imp {N N' : Addr → Prop} {H H' : Hp} {u : Addr} {z : Str} {t : Int} {e : Option SE} (h : DueL N H u z t e) (i : ∀ a, N a → N' a) (k : ∀ a xs, N a → H a = some (.lst xs) → H' a = some (.lst xs)) (kt : ∀ a xs, H a = some (.tup xs) → H' a = some (.tup xs)) : DueL N' H' u z t e := by
  cases e with
  | none => exact ⟨i _ h.1, k _ _ h.1 h.2⟩
  | some e => cases e with
    | no => obtain ⟨v, a, b, c, d⟩ := h; exact ⟨v, i _ a, i _ b, k _ _ a c, k _ _ b d⟩
    | bad => obtain ⟨v, p, a, b, c, d, f⟩ := h; exact ⟨v, p, i _ a, i _ b, k _ _ a c, k _ _ b d, kt _ _ f⟩
    | nh => obtain ⟨v, p, a, b, c, d, f⟩ := h; exact ⟨v, p, i _ a, i _ b, k _ _ a c, k _ _ b d, kt _ _ f⟩
    | lb => obtain ⟨v, p, a, b, c, d, f⟩ := h; exact ⟨v, p, i _ a, i _ b, k _ _ a c, k _ _ b d, kt _ _ f⟩
    | wm => obtain ⟨v, p, a, b, c, d, f⟩ := h; exact ⟨v, p, i _ a, i _ b, k _ _ a c, k _ _ b d, kt _ _ f⟩
theorem DueL.at {N : Addr → Prop} {H : Hp} {u : Addr} {z : Str} {t : Int} {e : Option SE} (h : DueL N H u z t e) : N u ∧ ∃ xs, H u = some (.lst xs) ∧ xs.length = dueN e := by
  cases e with
  | none => exact ⟨h.1, _, h.2, rfl⟩
  | some e => cases e with
    | no => obtain ⟨v, a, b, c, d⟩ := h; exact ⟨a, _, c, rfl⟩
    | bad => obtain ⟨v, p, a, b, c, d, f⟩ := h; exact ⟨a, _, c, rfl⟩
    | nh => obtain ⟨v, p, a, b, c, d, f⟩ := h; exact ⟨a, _, c, rfl⟩
    | lb => obtain ⟨v, p, a, b, c, d, f⟩ := h; exact ⟨a, _, c, rfl⟩
    | wm => obtain ⟨v, p, a, b, c, d, f⟩ := h; exact ⟨a, _, c, rfl⟩
theorem DueL.dn {K : PySem.W.Frag} {N : Addr → Prop} {H : Hp} {u : Addr} {z : Str} {t : Int} {e : Option SE} (h : DueL N H u z t e) {x C dx : Addr} {fs : List (Str × V)} (hx : H x = some (.ins C dx fs)) : Dn K x H 3 (.ref u) (dueD z t e) := by
  have ne : ∀ {a : Addr} {xs : List V}, H a = some (.lst xs) → a ≠ x := fun e => ins_ne hx e (by intro _ _ _ h; cases h)
  have nt : ∀ {a : Addr} {xs : List V}, H a = some (.tup xs) → a ≠ x := fun e => ins_ne hx e (by intro _ _ _ h; cases h)
  have st : ∀ {v p : Addr} {ws : List Str}, ws.length ≤ 100 → H u = some (.lst [.ref v, .ref p]) → H v = some (.lst (ws.map V.str)) → H p = some (.tup [.str z, .int t]) → Dn K x H 3 (.ref u) (.list [.list (ws.map .str), stepD z t]) := fun l hu hv hp =>
    Dn.lst (ne hu) (SqL.of hu) (.cons (Dn.lst (ne hv) (SqL.of hv) (dn_strs _) (by rw [List.length_map]; omega)) (.cons (Dn.tup (nt hp) (SqT.of hp) (.cons (Dn.str _) (.cons (Dn.int _) .nil)) (by simp)) .nil)) (by simp)
  cases e with
  | none => exact Dn.lst (ne h.2) (SqL.of h.2) .nil (by simp)
  | some e => cases e with
    | no => obtain ⟨v, _, _, hu, hv⟩ := h; exact Dn.lst (ne hu) (SqL.of hu) (.cons (Dn.lst (ne hv) (SqL.of hv) (.cons (Dn.str _) .nil) (by simp)) (.cons (Dn.int _) .nil)) (by simp)
    | bad => obtain ⟨v, p, _, _, hu, hv, hp⟩ := h; exact st (by decide) hu hv hp
    | nh => obtain ⟨v, p, _, _, hu, hv, hp⟩ := h; exact st (by decide) hu hv hp
    | lb => obtain ⟨v, p, _, _, hu, hv, hp⟩ := h; exact st (by decide) hu hv hp
    | wm => obtain ⟨v, p, _, _, hu, hv, hp⟩ := h; exact st (by decide) hu hv hp
abbrev NewIn (H : Hp) : Addr → Prop := fun a => H a = none
theorem code_held {tr : List Lk} {t : Int} : (codeL (lkAt tr t) = 1 ∨ codeL (lkAt tr t) = 2) ↔ (heldAt tr t).isSome = true := by
  unfold heldAt
  cases e : lkAt tr t with
  | none => simp [codeL]
  | some k =>
    obtain ⟨a, o, d⟩ := k
    cases o <;> cases d <;> simp [codeL, Option.filter]
theorem code_some {tr : List Lk} {t : Int} : 0 < codeL (lkAt tr t) ↔ (lkAt tr t).isSome = true := by
  cases e : lkAt tr t with
  | none => simp [codeL]
  | some k =>
    obtain ⟨a, o, d⟩ := k
    cases o <;> cases d <;> simp [codeL]
def spLDue (K : PySem.W.Frag) : Sp := fun vs H Q _ => ∃ (R M s p : Addr) (ws us : List V) (rs : List Row) (ts : List Th) (tr : List Lk) (z : Str) (t : Int), vs = [.ref R, .ref M, .ref s, .ref p] ∧ H R = some (.lst ws) ∧ RowsN (fun _ => True) true H ws rs ∧ H M = some (.lst us) ∧ MtsN [] H us ts ∧ us.length ≤ 900 ∧ H s = some (.lst (stV tr ts.length)) ∧ H p = some (.tup [.str z, .int t]) ∧
  ∀ u H', Same H H' → H u = none → DueL (NewIn H) H' u z t (dueS ts rs tr z t) → Q (.ref u) H'
section
variable {P : Program} {w : World} {K : PySem.W.Frag} {mg : Str → Option Value} {base : Heap}
set_option maxHeartbeats 16000000 in
set_option pp.maxSteps 600 in
theorem ok__law_due (T : Txt K mg) : FnOk P w K mg base CX0 2 T.a__law_due T.fd__law_due ["_law_rows_here", "_law_things_here", "_law_state", "_law_step"] (spLDue K) := by
  refine T.F__law_due.ok sc__law_due (fun vs H Q E h => ?_) (fun cdv A outer s H vs Q E hr h => ?_)
  · obtain ⟨R, M, s, p, ws, us, rs, ts, tr, z, t, rfl, _⟩ := h; rfl
  · obtain ⟨R, M, s, p, ws, us, rs, ts, tr, z, t, rfl, hR, rR, hM, mM, lu, hs, hp, q⟩ := h
    refine ⟨_, (pss_cons (ps_set (i := 4) sc__law_due.nd rfl (.inl rfl) (pe_ix ix_tup (pv 3) (pe_int) (fun _ _ => rfl)))
      (pss_cons (ps_if (pt_cmpR op_notIn_seq (pe_ix ix_tup (pv 3) (pe_int) (fun _ _ => rfl)) (pe_lst (pa_cons (pe_str) (pa_cons (pe_str) (pa_cons (pe_str) pa_nil)))) (by with_unfolding_all rfl)) (pss_one (ps_ret (pe_lst (pa_cons (pe_lst (pa_cons (pe_str) pa_nil)) (pa_cons (pv 3) pa_nil))))) pss_nil)
      (pss_cons (ps_if (PW.pt (pw_or (pt_cmpR op_lt (pv 4) (pe_int) (nomark _)) (pw_or1 (pt_cmpR op_ge (pv 4) (pe_callB call_len_seq (by rfl) T.n_len (by decide +kernel) (pa_cons (pv 1) pa_nil)) (nomark _))))) (pss_one (ps_ret (pe_lst (pa_cons (pe_lst (pa_cons (pe_str) pa_nil)) (pa_cons (pv 4) pa_nil))))) pss_nil)
      (pss_cons (ps_if (pt_cmpR op_eq (pe_ix ix_tup (pv 3) (pe_int) (fun _ _ => rfl)) (pe_str) (nomark _)) (pss_cons (ps_if (PW.pt (pw_or (pt_cmpR op_eq (pe_ix ix_list (pv 2) (pv 4) (fun _ _ => rfl)) (pe_int) (nomark _)) (pw_or1 (pt_cmpR op_eq (pe_ix ix_list (pv 2) (pv 4) (fun _ _ => rfl)) (pe_int) (nomark _))))) (pss_one (ps_ret (pe_lst pa_nil))) pss_nil)
      (pss_one (ps_ret (pe_lst (pa_cons (pe_lst (pa_cons (pe_str) (pa_cons (pe_str) pa_nil))) (pa_cons (pv 3) pa_nil)))))) pss_nil)
      (pss_cons (ps_if (pt_cmpR op_gt (pe_ix ix_list (pv 2) (pv 4) (fun _ _ => rfl)) (pe_int) (nomark _)) (pss_one (ps_ret (pe_lst (pa_cons (pe_lst (pa_cons (pe_str) (pa_cons (pe_str) pa_nil))) (pa_cons (pv 3) pa_nil))))) pss_nil)
      (pss_cons (ps_if (PW.pt (pw_and (pt_cmpR op_eq (pe_ix ix_tup (pv 3) (pe_int) (fun _ _ => rfl)) (pe_str) (nomark _)) (pw_and1 (pt_not (pt_val (pe_call (ok__law_shared T) (hr.mono (by omega)) (by rfl) T.g__law_shared T.F__law_shared.kp T.b__law_shared .nil pass0 (pa_cons (pv 0) (pa_cons (pe_ix ix_list (pe_ix ix_list (pv 1) (pv 4) (fun _ _ => rfl)) (pe_int) (fun _ _ => rfl)) pa_nil)))))))) (pss_one (ps_ret (pe_lst (pa_cons (pe_lst (pa_cons (pe_str) (pa_cons (pe_str) pa_nil))) (pa_cons (pv 3) pa_nil))))) pss_nil)
      (pss_one (ps_ret (pe_lst pa_nil))))))))), ?_⟩
    have lts := pair_len' mM
    have rf : ∀ H : Hp, Same H H := fun _ _ _ h => h
    have r0 : ∀ {H1 : Hp}, dueS ts rs tr z t = none → Same H H1 → 0 ≤ sizeLine ∧ ∀ u, H1 u = none → Q (.ref u) (upd H1 u (.lst [])) := fun du s1 => ⟨Nat.zero_le _, fun u hu => q u _ (s1.trans (same_new hu)) (s1.free hu) (by rw [du]; exact dueL_nil (s1.free hu) upd_same)⟩
    have r2 : ∀ {H1 : Hp} {e : SE}, e ≠ .no → dueS ts rs tr z t = some e → Same H H1 → ∀ v, H1 v = none → ∀ u, (upd H1 v (.lst ((dueW e).map V.str))) u = none → Q (.ref u) (upd (upd H1 v (.lst ((dueW e).map V.str))) u (.lst [.ref v, .ref p])) := fun {H1 e} ne du s1 v hv u hu => by
      have s2 := s1.trans (same_new (o := .lst ((dueW e).map V.str)) hv)
      refine q u _ (s2.trans (same_new hu)) (s2.free hu) ?_
      rw [du]
      exact dueL_step ne (s2.free hu) (s1.free hv) upd_same (same_new hu _ _ upd_same) (same_new hu _ _ (s2 _ _ hp))
    refine ⟨_, rfl, _, _, _, _, rfl, rfl, SqT.of hp, atI_nat (j := 1) rfl, ?_⟩
    refine ⟨_, rfl, _, _, _, _, rfl, rfl, SqT.of hp, atI_nat (j := 0) rfl, by show 3 ≤ sizeLine; decide, fun c hc => ?_⟩
    have s1 := same_new (o := .lst [.str "own", .str "share", .str "drop"]) hc
    refine ⟨_, _, rfl, .inl (show SqL K _ c ((["own", "share", "drop"] : List Str).map V.str) from SqL.of upd_same), rfl, flat_strs _, ?_⟩
    revert s1
    generalize upd H c (.lst [.str "own", .str "share", .str "drop"]) = H1
    intro s1
    rw [in_strs]
    refine ⟨_, rfl, iteN (fun k => ?_) (fun k => ?_)⟩
    · have du := due_bad (ts := ts) (rs := rs) (tr := tr) (t := t) (fun h => k (deed_mem.mpr h))
      exact ⟨by show 1 ≤ sizeLine; decide, fun v hv => ⟨_, rfl, by show 2 ≤ sizeLine; decide, fun u hu => r2 (e := .bad) (by intro h; cases h) du s1 v hv u hu⟩⟩
    have ok := deed_mem.mp k
    have rno : ¬ inW ts t → 1 ≤ sizeLine ∧ ∀ v, H1 v = none → ∃ y, y = V.int t ∧ 2 ≤ sizeLine ∧ ∀ u, (upd H1 v (.lst [.str "NoThing"])) u = none → Q (.ref u) (upd (upd H1 v (.lst [.str "NoThing"])) u (.lst [.ref v, y])) := fun i => ⟨by decide, fun v hv => ⟨_, rfl, by decide, fun u hu => by
      have s2 := s1.trans (same_new (o := .lst [.str "NoThing"]) hv)
      refine q u _ (s2.trans (same_new hu)) (s2.free hu) ?_
      rw [due_no ok i]
      exact dueL_no (s2.free hu) (s1.free hv) upd_same (same_new hu _ _ upd_same)⟩⟩
    refine ⟨_, rfl, _, _, rfl, rfl, _, rfl, iteD (fun c0 => ?_) (fun c0 => ?_)⟩
    · obtain ⟨n1, f⟩ := rno (fun i => by have := i.1; omega)
      refine iteT ⟨n1, fun v hv => ?_⟩
      obtain ⟨y, ey, n2, g⟩ := f v hv
      subst ey
      exact ⟨_, rfl, n2, g⟩
    refine ⟨_, rfl, _, rfl, M, _, rfl, .inl (SqL.of (s1 _ _ hM)), _, _, rfl, rfl, _, rfl, iteD (fun c1 => ?_) (fun c1 => ?_)⟩
    · obtain ⟨n1, f⟩ := rno (fun i => by have := i.2; omega)
      refine ⟨n1, fun v hv => ?_⟩
      obtain ⟨y, ey, n2, g⟩ := f v hv
      subst ey
      exact ⟨_, rfl, n2, g⟩
    have i : inW ts t := ⟨by omega, by omega⟩
    obtain ⟨j, rfl⟩ := Int.eq_ofNat_of_zero_le i.1
    have hj : j < ts.length := by have := i.2; omega
    have hs1 := s1 _ _ hs
    have hp1 := s1 _ _ hp
    have hat := atI_nat (stV_at (tr := tr) hj)
    refine ⟨_, rfl, _, _, _, _, rfl, rfl, SqT.of hp1, atI_nat (j := 0) rfl, rfl, _, rfl, iteD (fun c2 => ?_) (fun c2 => ?_)⟩
    · obtain rfl : z = "drop" := V.str.inj c2
      have du := due_drop (rs := rs) (tr := tr) i
      refine ⟨_, rfl, _, rfl, _, _, _, _, rfl, rfl, SqL.of hs1, hat, rfl, _, rfl, iteD (fun c3 => ?_) (fun c3 => ?_)⟩
      · rw [if_pos (code_held.mp (.inl (V.int.inj c3)))] at du
        exact iteT (r0 du s1)
      refine ⟨_, rfl, _, rfl, _, _, _, _, rfl, rfl, SqL.of hs1, hat, rfl, _, rfl, iteD (fun c4 => ?_) (fun c4 => ?_)⟩
      · rw [if_pos (code_held.mp (.inr (V.int.inj c4)))] at du
        exact r0 du s1
      · rw [if_neg (fun h => (code_held.mpr h).elim (fun h => c3 (by rw [h])) (fun h => c4 (by rw [h])))] at du
        exact ⟨by show 2 ≤ sizeLine; decide, fun v hv => ⟨_, rfl, by show 2 ≤ sizeLine; decide, fun u hu => r2 (e := .nh) (by intro h; cases h) du s1 v hv u hu⟩⟩
    have nz : z ≠ "drop" := fun h => c2 (by rw [h])
    have du := due_lock (rs := rs) (tr := tr) ok i nz
    refine ⟨_, rfl, _, rfl, _, _, _, _, rfl, rfl, SqL.of hs1, hat, _, _, rfl, rfl, _, rfl, iteD (fun c3 => ?_) (fun c3 => ?_)⟩
    · rw [if_pos (code_some.mp c3)] at du
      exact ⟨by show 2 ≤ sizeLine; decide, fun v hv => ⟨_, rfl, by show 2 ≤ sizeLine; decide, fun u hu => r2 (e := .lb) (by intro h; cases h) du s1 v hv u hu⟩⟩
    rw [if_neg (fun h => c3 (code_some.mpr h))] at du
    refine ⟨_, rfl, _, _, _, _, rfl, rfl, SqT.of hp1, atI_nat (j := 0) rfl, rfl, _, rfl, iteD (fun c4 => ?_) (fun c4 => ?_)⟩
    · obtain rfl : z = "share" := V.str.inj c4
      obtain ⟨v, hv⟩ : ∃ v, us[j]? = some v := ⟨_, List.getElem?_eq_getElem (by omega)⟩
      obtain ⟨th, hth, b, bp, rfl, _, _, hb, _⟩ := pair_get' mM hv
      have hb : H b = some (.lst [.str th.1, .ref bp]) := hb
      have em : markW ts ((j : Nat) : Int) = th.1 := by
        obtain ⟨t', e1, e2⟩ := inW_get i
        rw [Int.toNat_natCast, hth] at e1
        rw [e2, ← Option.some.inj e1]
      refine ⟨_, rfl, _, rfl, _, rfl, _, _, _, _, rfl, rfl, SqL.of (s1 _ _ hM), atI_nat hv, _, _, _, _, rfl, rfl, SqL.of (s1 _ _ hb), atI_nat (j := 0) rfl, R, ws, rs, th.1, rfl, s1 _ _ hR, rowsN_same rR s1, _, rfl, ?_⟩
      have es : sharedW rs ts ((j : Nat) : Int) = ((findR rs th.1).map (·.sh)).getD false := by unfold sharedW; rw [em]
      rw [es] at du
      cases hsh : ((findR rs th.1).map (·.sh)).getD false with
      | false =>
        rw [hsh, if_pos ⟨rfl, rfl⟩] at du
        exact iteYes rfl ⟨by show 2 ≤ sizeLine; decide, fun v hv => ⟨_, rfl, by show 2 ≤ sizeLine; decide, fun u hu => r2 (e := .wm) (by intro h; cases h) du s1 v hv u hu⟩⟩
      | true =>
        rw [hsh, if_neg (fun h => by cases h.2)] at du
        exact iteNo rfl (r0 du s1)
    · rw [if_neg (fun h => c4 (by rw [h.1]))] at du
      exact iteF (r0 du s1)
end
end My

namespace L2
open PySem
theorem hotU {k : Nat} {A : Around} (r : L2H.RoomH k A) : A.units + 64 < cLine := by have := r.un; omega
end L2
namespace My
open PySem L2
def spLRef (K : PySem.W.Frag) (BS NT NH LB WM a : Addr) (cls : Value) (d : Option Addr) : Sp := fun vs H Q _ => ∃ (dd : Addr) (e : SE) (z : Str) (t : Int), vs = [.ref a] ∧ cls = .ref (clsS BS NT NH LB WM e) ∧ d = some dd ∧ errS z t H dd e ∧
  ∀ u H', Same H H' → H u = none → DueL (NewIn H) H' u z t (some e) → Q (.ref u) H'
section
variable {w : World} {K : PySem.W.Frag} {mg : Str → Option Value} {base : Heap}
set_option maxHeartbeats 16000000 in
set_option pp.maxSteps 600 in
theorem ok__law_refusal (T : Txt K mg) (a : Addr) (oe : Obj) (cls : Value) (d : Option Addr) (hz : Zc cls d oe) (hf : ∃ vs, oe.data = .fields vs) : FnE PP w K mg base CX0 1 T.a__law_refusal T.fd__law_refusal ["_law_error"] (spLRef K T.c_BadStep T.c_NoThing T.c_NotHeld T.c_LockedBefore T.c_WrongMode a cls d) (a, oe) := by
  refine T.F__law_refusal.okE sc__law_refusal (fun vs H Q E h => ?_) (fun cdv A outer s H vs Q E hr h => ?_)
  · obtain ⟨dd, e, z, t, rfl, _⟩ := h; rfl
  · obtain ⟨dd, e, z, t, rfl, rfl, rfl, he, q⟩ := h
    refine ⟨_, (pss_cons (ps_set (i := 1) sc__law_refusal.nd rfl (.inl rfl) (pe_lst pa_nil))
      (pss_cons (ps_if (pt_val (pe_callB (call_isP List.mem_cons_self hz hf) (by rfl) T.n_isinstance (by decide +kernel) (pa_cons (pv 0) (pa_cons (pe_glob (v := .ref T.c_NoThing) (by rfl) T.g_NoThing rfl) pa_nil)))) (pss_one (ps_expr (pe_bm PySem.F.plainAttrs_list PySem.F.slot_list_append PySem.F.type_list_append mt_append (pv 1) (pa_cons (pe_str) pa_nil)))) pss_nil)
      (pss_cons (ps_if (pt_val (pe_callB (call_isP List.mem_cons_self hz hf) (by rfl) T.n_isinstance (by decide +kernel) (pa_cons (pv 0) (pa_cons (pe_glob (v := .ref T.c_BadStep) (by rfl) T.g_BadStep rfl) pa_nil)))) (pss_one (ps_expr (pe_bm PySem.F.plainAttrs_list PySem.F.slot_list_append PySem.F.type_list_append mt_append (pv 1) (pa_cons (pe_str) pa_nil)))) pss_nil)
      (pss_cons (ps_if (pt_val (pe_callB (call_isP List.mem_cons_self hz hf) (by rfl) T.n_isinstance (by decide +kernel) (pa_cons (pv 0) (pa_cons (pe_glob (v := .ref T.c_Refused) (by rfl) T.g_Refused rfl) pa_nil)))) (pss_one (ps_expr (pe_bm PySem.F.plainAttrs_list PySem.F.slot_list_append PySem.F.type_list_append mt_append (pv 1) (pa_cons (pe_str) pa_nil)))) pss_nil)
      (pss_cons (ps_if (pt_val (pe_callB (call_isP List.mem_cons_self hz hf) (by rfl) T.n_isinstance (by decide +kernel) (pa_cons (pv 0) (pa_cons (pe_glob (v := .ref T.c_LockedBefore) (by rfl) T.g_LockedBefore rfl) pa_nil)))) (pss_one (ps_expr (pe_bm PySem.F.plainAttrs_list PySem.F.slot_list_append PySem.F.type_list_append mt_append (pv 1) (pa_cons (pe_str) pa_nil)))) pss_nil)
      (pss_cons (ps_if (pt_val (pe_callB (call_isP List.mem_cons_self hz hf) (by rfl) T.n_isinstance (by decide +kernel) (pa_cons (pv 0) (pa_cons (pe_glob (v := .ref T.c_WrongMode) (by rfl) T.g_WrongMode rfl) pa_nil)))) (pss_one (ps_expr (pe_bm PySem.F.plainAttrs_list PySem.F.slot_list_append PySem.F.type_list_append mt_append (pv 1) (pa_cons (pe_str) pa_nil)))) pss_nil)
      (pss_cons (ps_if (pt_val (pe_callB (call_isP List.mem_cons_self hz hf) (by rfl) T.n_isinstance (by decide +kernel) (pa_cons (pv 0) (pa_cons (pe_glob (v := .ref T.c_NotHeld) (by rfl) T.g_NotHeld rfl) pa_nil)))) (pss_one (ps_expr (pe_bm PySem.F.plainAttrs_list PySem.F.slot_list_append PySem.F.type_list_append mt_append (pv 1) (pa_cons (pe_str) pa_nil)))) pss_nil)
      (pss_cons (ps_if (PW.pt (pw_or (pt_val (pe_callB (call_isP List.mem_cons_self hz hf) (by rfl) T.n_isinstance (by decide +kernel) (pa_cons (pv 0) (pa_cons (pe_glob (v := .ref T.c_NotAllowed) (by rfl) T.g_NotAllowed rfl) pa_nil)))) (pw_or (pt_val (pe_callB (call_isP List.mem_cons_self hz hf) (by rfl) T.n_isinstance (by decide +kernel) (pa_cons (pv 0) (pa_cons (pe_glob (v := .ref T.c_Clash) (by rfl) T.g_Clash rfl) pa_nil)))) (pw_or1 (pt_not (pt_val (pe_callB (call_isP List.mem_cons_self hz hf) (by rfl) T.n_isinstance (by decide +kernel) (pa_cons (pv 0) (pa_cons (pe_bltn (v := .ty "ValueError") (by rfl) T.n_ValueError (by decide +kernel) rfl) pa_nil))))))))) (pss_one (ps_expr (pe_bm PySem.F.plainAttrs_list PySem.F.slot_list_append PySem.F.type_list_append mt_append (pv 1) (pa_cons (pe_str) pa_nil)))) pss_nil)
      (pss_cons (ps_if (pt_cmpR (eqDK (K := K) rfl (hotU hr)) (pv 1) (pe_lst (pa_cons (pe_str) pa_nil)) (nomark _)) (pss_one (ps_ret (pe_lst (pa_cons (pv 1) (pa_cons (pe_xfP List.mem_cons_self hz hf (pv 0)) pa_nil))))) pss_nil)
      (pss_cons (ps_if (PW.pt (pw_or (pt_cmpR (eqDK (K := K) rfl (hotU hr)) (pv 1) (pe_lst (pa_cons (pe_str) pa_nil)) (nomark _)) (pw_or1 (pt_cmpR (eqDK (K := K) rfl (hotU hr)) (pe_slice sl_list (pv 1) po_none (po_some (pe_int))) (pe_lst (pa_cons (pe_str) pa_nil)) (nomark _))))) (pss_one (ps_ret (pe_lst (pa_cons (pv 1) (pa_cons (pe_xfP List.mem_cons_self hz hf (pv 0)) pa_nil))))) pss_nil)
      (pss_one (ps_ret (pe_lst (pa_cons (pv 1) pa_nil)))))))))))))), ?_⟩
    refine ⟨Nat.zero_le _, fun l hl => ?_⟩
    have sm : ∀ (n : Nat), n ≤ 10 → n < sizeLine := fun n h => Nat.lt_of_le_of_lt h (by decide)
    cases e with
    | bad =>
      obtain ⟨u0, hd, hu0⟩ := he
      refine ⟨_, rfl, _, dd, _, _, _, false, rfl, rfl, same_new hl _ _ hd, T.xc_BadStep, rfl, ClsV.own _, T.kt_BadStep_NoThing, _, rfl, iteF ?_⟩
      refine ⟨_, rfl, _, dd, _, _, _, true, rfl, rfl, same_new hl _ _ hd, T.xc_BadStep, rfl, ClsV.own _, T.kt_BadStep_BadStep, _, rfl, iteT ?_⟩
      refine ⟨_, rfl, .inl ⟨rfl, _, SqL.of upd_same⟩, _, _, _, rfl, rfl, upd_same, sm _ (by decide), ?_⟩
      rw [upd_upd]
      change tSeq _ _ _ _ (upd H l (.lst [.str "BadStep"]))
      refine ⟨_, rfl, _, dd, _, _, _, false, rfl, rfl, same_new hl _ _ hd, T.xc_BadStep, rfl, ClsV.own _, T.kt_BadStep_Refused, _, rfl, iteF ?_⟩
      refine ⟨_, rfl, _, dd, _, _, _, false, rfl, rfl, same_new hl _ _ hd, T.xc_BadStep, rfl, ClsV.own _, T.kt_BadStep_LockedBefore, _, rfl, iteF ?_⟩
      refine ⟨_, rfl, _, dd, _, _, _, false, rfl, rfl, same_new hl _ _ hd, T.xc_BadStep, rfl, ClsV.own _, T.kt_BadStep_WrongMode, _, rfl, iteF ?_⟩
      refine ⟨_, rfl, _, dd, _, _, _, false, rfl, rfl, same_new hl _ _ hd, T.xc_BadStep, rfl, ClsV.own _, T.kt_BadStep_NotHeld, _, rfl, iteF ?_⟩
      refine ⟨_, rfl, _, dd, _, _, _, false, rfl, rfl, same_new hl _ _ hd, T.xc_BadStep, rfl, ClsV.own _, T.kt_BadStep_NotAllowed, _, rfl, iteF ?_⟩
      refine ⟨_, rfl, _, dd, _, _, _, false, rfl, rfl, same_new hl _ _ hd, T.xc_BadStep, rfl, ClsV.own _, T.kt_BadStep_Clash, _, rfl, iteF ?_⟩
      refine ⟨_, rfl, _, dd, _, _, _, true, rfl, rfl, same_new hl _ _ hd, T.xc_BadStep, rfl, ClsV.ty _, T.kt_BadStep_ValueError, _, rfl, iteNo rfl ?_⟩
      have s1 := same_new (o := .lst [.str "BadStep"]) hl
      have h1 : (upd H l (.lst [.str "BadStep"])) l = some (.lst ((["BadStep"] : List Str).map V.str)) := upd_same
      revert s1 h1
      generalize upd H l (.lst [.str "BadStep"]) = H1
      intro s1 h1
      refine ⟨_, rfl, by show 1 ≤ sizeLine; decide, fun c1 hc1 => ?_⟩
      have t2 := s1.trans (same_new (o := .lst [.str "NoThing"]) hc1)
      have hl2 : (upd H1 c1 (.lst [.str "NoThing"])) l = some (.lst ((["BadStep"] : List Str).map V.str)) := same_new hc1 _ _ h1
      refine ⟨.list ((["BadStep"] : List Str).map .str), .list ((["NoThing"] : List Str).map .str), .lst (SqL.of hl2) (strsDp (["BadStep"] : List Str)), .lst (show SqL K _ c1 ((["NoThing"] : List Str).map V.str) from SqL.of upd_same) (strsDp (["NoThing"] : List Str)), by decide +kernel, by decide +kernel, _, rfl, iteNo (by decide +kernel) ?_⟩
      revert t2 hl2
      generalize upd H1 c1 (.lst [.str "NoThing"]) = H2
      intro s2 h2
      refine ⟨_, rfl, by show 1 ≤ sizeLine; decide, fun c2 hc2 => ?_⟩
      have t3 := s2.trans (same_new (o := .lst [.str "BadStep"]) hc2)
      have hl3 : (upd H2 c2 (.lst [.str "BadStep"])) l = some (.lst ((["BadStep"] : List Str).map V.str)) := same_new hc2 _ _ h2
      refine ⟨.list ((["BadStep"] : List Str).map .str), .list ((["BadStep"] : List Str).map .str), .lst (SqL.of hl3) (strsDp (["BadStep"] : List Str)), .lst (show SqL K _ c2 ((["BadStep"] : List Str).map V.str) from SqL.of upd_same) (strsDp (["BadStep"] : List Str)), by decide +kernel, by decide +kernel, _, rfl, iteYes (by decide +kernel) (iteT ?_)⟩
      refine ⟨_, rfl, _, rfl, rfl, _, dd, _, _, rfl, T.xc_BadStep, T.xn_BadStep, rfl, t3 _ _ hd, rfl, by show 2 ≤ sizeLine; decide, fun r hr => ?_⟩
      refine q r _ (t3.trans (same_new hr)) (t3.free hr) ?_
      exact dueL_step (by intro h; cases h) (t3.free hr) hl upd_same (same_new hr _ _ hl3) (same_new hr _ _ (t3 _ _ hu0))
    | no =>
      have hd : H dd = some (.xd [("thing", .int t)]) := he
      refine ⟨_, rfl, _, dd, _, _, _, true, rfl, rfl, same_new hl _ _ hd, T.xc_NoThing, rfl, ClsV.own _, T.kt_NoThing_NoThing, _, rfl, iteT ?_⟩
      refine ⟨_, rfl, .inl ⟨rfl, _, SqL.of upd_same⟩, _, _, _, rfl, rfl, upd_same, sm _ (by decide), ?_⟩
      rw [upd_upd]
      change tSeq _ _ _ _ (upd H l (.lst [.str "NoThing"]))
      refine ⟨_, rfl, _, dd, _, _, _, false, rfl, rfl, same_new hl _ _ hd, T.xc_NoThing, rfl, ClsV.own _, T.kt_NoThing_BadStep, _, rfl, iteF ?_⟩
      refine ⟨_, rfl, _, dd, _, _, _, false, rfl, rfl, same_new hl _ _ hd, T.xc_NoThing, rfl, ClsV.own _, T.kt_NoThing_Refused, _, rfl, iteF ?_⟩
      refine ⟨_, rfl, _, dd, _, _, _, false, rfl, rfl, same_new hl _ _ hd, T.xc_NoThing, rfl, ClsV.own _, T.kt_NoThing_LockedBefore, _, rfl, iteF ?_⟩
      refine ⟨_, rfl, _, dd, _, _, _, false, rfl, rfl, same_new hl _ _ hd, T.xc_NoThing, rfl, ClsV.own _, T.kt_NoThing_WrongMode, _, rfl, iteF ?_⟩
      refine ⟨_, rfl, _, dd, _, _, _, false, rfl, rfl, same_new hl _ _ hd, T.xc_NoThing, rfl, ClsV.own _, T.kt_NoThing_NotHeld, _, rfl, iteF ?_⟩
      refine ⟨_, rfl, _, dd, _, _, _, false, rfl, rfl, same_new hl _ _ hd, T.xc_NoThing, rfl, ClsV.own _, T.kt_NoThing_NotAllowed, _, rfl, iteF ?_⟩
      refine ⟨_, rfl, _, dd, _, _, _, false, rfl, rfl, same_new hl _ _ hd, T.xc_NoThing, rfl, ClsV.own _, T.kt_NoThing_Clash, _, rfl, iteF ?_⟩
      refine ⟨_, rfl, _, dd, _, _, _, true, rfl, rfl, same_new hl _ _ hd, T.xc_NoThing, rfl, ClsV.ty _, T.kt_NoThing_ValueError, _, rfl, iteNo rfl ?_⟩
      have s1 := same_new (o := .lst [.str "NoThing"]) hl
      have h1 : (upd H l (.lst [.str "NoThing"])) l = some (.lst ((["NoThing"] : List Str).map V.str)) := upd_same
      revert s1 h1
      generalize upd H l (.lst [.str "NoThing"]) = H1
      intro s1 h1
      refine ⟨_, rfl, by show 1 ≤ sizeLine; decide, fun c1 hc1 => ?_⟩
      have t2 := s1.trans (same_new (o := .lst [.str "NoThing"]) hc1)
      have hl2 : (upd H1 c1 (.lst [.str "NoThing"])) l = some (.lst ((["NoThing"] : List Str).map V.str)) := same_new hc1 _ _ h1
      refine ⟨.list ((["NoThing"] : List Str).map .str), .list ((["NoThing"] : List Str).map .str), .lst (SqL.of hl2) (strsDp (["NoThing"] : List Str)), .lst (show SqL K _ c1 ((["NoThing"] : List Str).map V.str) from SqL.of upd_same) (strsDp (["NoThing"] : List Str)), by decide +kernel, by decide +kernel, _, rfl, iteYes (by decide +kernel) ?_⟩
      refine ⟨_, rfl, _, rfl, rfl, _, dd, _, _, rfl, T.xc_NoThing, T.xn_NoThing, rfl, t2 _ _ hd, rfl, by show 2 ≤ sizeLine; decide, fun r hr => ?_⟩
      refine q r _ (t2.trans (same_new hr)) (t2.free hr) ?_
      exact dueL_no (t2.free hr) hl upd_same (same_new hr _ _ hl2)
    | nh =>
      obtain ⟨u0, hd, hu0⟩ := he
      refine ⟨_, rfl, _, dd, _, _, _, false, rfl, rfl, same_new hl _ _ hd, T.xc_NotHeld, rfl, ClsV.own _, T.kt_NotHeld_NoThing, _, rfl, iteF ?_⟩
      refine ⟨_, rfl, _, dd, _, _, _, false, rfl, rfl, same_new hl _ _ hd, T.xc_NotHeld, rfl, ClsV.own _, T.kt_NotHeld_BadStep, _, rfl, iteF ?_⟩
      refine ⟨_, rfl, _, dd, _, _, _, true, rfl, rfl, same_new hl _ _ hd, T.xc_NotHeld, rfl, ClsV.own _, T.kt_NotHeld_Refused, _, rfl, iteT ?_⟩
      refine ⟨_, rfl, .inl ⟨rfl, _, SqL.of upd_same⟩, _, _, _, rfl, rfl, upd_same, sm _ (by decide), ?_⟩
      rw [upd_upd]
      change tSeq _ _ _ _ (upd H l (.lst [.str "Refused"]))
      refine ⟨_, rfl, _, dd, _, _, _, false, rfl, rfl, same_new hl _ _ hd, T.xc_NotHeld, rfl, ClsV.own _, T.kt_NotHeld_LockedBefore, _, rfl, iteF ?_⟩
      refine ⟨_, rfl, _, dd, _, _, _, false, rfl, rfl, same_new hl _ _ hd, T.xc_NotHeld, rfl, ClsV.own _, T.kt_NotHeld_WrongMode, _, rfl, iteF ?_⟩
      refine ⟨_, rfl, _, dd, _, _, _, true, rfl, rfl, same_new hl _ _ hd, T.xc_NotHeld, rfl, ClsV.own _, T.kt_NotHeld_NotHeld, _, rfl, iteT ?_⟩
      refine ⟨_, rfl, .inl ⟨rfl, _, SqL.of upd_same⟩, _, _, _, rfl, rfl, upd_same, sm _ (by decide), ?_⟩
      rw [upd_upd]
      change tSeq _ _ _ _ (upd H l (.lst [.str "Refused", .str "NotHeld"]))
      refine ⟨_, rfl, _, dd, _, _, _, false, rfl, rfl, same_new hl _ _ hd, T.xc_NotHeld, rfl, ClsV.own _, T.kt_NotHeld_NotAllowed, _, rfl, iteF ?_⟩
      refine ⟨_, rfl, _, dd, _, _, _, false, rfl, rfl, same_new hl _ _ hd, T.xc_NotHeld, rfl, ClsV.own _, T.kt_NotHeld_Clash, _, rfl, iteF ?_⟩
      refine ⟨_, rfl, _, dd, _, _, _, true, rfl, rfl, same_new hl _ _ hd, T.xc_NotHeld, rfl, ClsV.ty _, T.kt_NotHeld_ValueError, _, rfl, iteNo rfl ?_⟩
      have s1 := same_new (o := .lst [.str "Refused", .str "NotHeld"]) hl
      have h1 : (upd H l (.lst [.str "Refused", .str "NotHeld"])) l = some (.lst ((["Refused", "NotHeld"] : List Str).map V.str)) := upd_same
      revert s1 h1
      generalize upd H l (.lst [.str "Refused", .str "NotHeld"]) = H1
      intro s1 h1
      refine ⟨_, rfl, by show 1 ≤ sizeLine; decide, fun c1 hc1 => ?_⟩
      have t2 := s1.trans (same_new (o := .lst [.str "NoThing"]) hc1)
      have hl2 : (upd H1 c1 (.lst [.str "NoThing"])) l = some (.lst ((["Refused", "NotHeld"] : List Str).map V.str)) := same_new hc1 _ _ h1
      refine ⟨.list ((["Refused", "NotHeld"] : List Str).map .str), .list ((["NoThing"] : List Str).map .str), .lst (SqL.of hl2) (strsDp (["Refused", "NotHeld"] : List Str)), .lst (show SqL K _ c1 ((["NoThing"] : List Str).map V.str) from SqL.of upd_same) (strsDp (["NoThing"] : List Str)), by decide +kernel, by decide +kernel, _, rfl, iteNo (by decide +kernel) ?_⟩
      revert t2 hl2
      generalize upd H1 c1 (.lst [.str "NoThing"]) = H2
      intro s2 h2
      refine ⟨_, rfl, by show 1 ≤ sizeLine; decide, fun c2 hc2 => ?_⟩
      have t3 := s2.trans (same_new (o := .lst [.str "BadStep"]) hc2)
      have hl3 : (upd H2 c2 (.lst [.str "BadStep"])) l = some (.lst ((["Refused", "NotHeld"] : List Str).map V.str)) := same_new hc2 _ _ h2
      refine ⟨.list ((["Refused", "NotHeld"] : List Str).map .str), .list ((["BadStep"] : List Str).map .str), .lst (SqL.of hl3) (strsDp (["Refused", "NotHeld"] : List Str)), .lst (show SqL K _ c2 ((["BadStep"] : List Str).map V.str) from SqL.of upd_same) (strsDp (["BadStep"] : List Str)), by decide +kernel, by decide +kernel, _, rfl, iteNo (by decide +kernel) ?_⟩
      revert t3 hl3
      generalize upd H2 c2 (.lst [.str "BadStep"]) = H3
      intro s3 h3
      refine ⟨_, rfl, _, rfl, l, _, rfl, SqL.of h3, fun c3 hc3 => ?_⟩
      have s4 := s3.trans (same_new (o := .lst (cutV ((["Refused", "NotHeld"] : List Str).map V.str) none (some 1))) hc3)
      have h4 : (upd H3 c3 (.lst (cutV ((["Refused", "NotHeld"] : List Str).map V.str) none (some 1)))) l = some (.lst ((["Refused", "NotHeld"] : List Str).map V.str)) := same_new hc3 _ _ h3
      have g4 : (upd H3 c3 (.lst (cutV ((["Refused", "NotHeld"] : List Str).map V.str) none (some 1)))) c3 = some (.lst ((["Refused"] : List Str).map V.str)) := upd_same
      revert s4 h4 g4
      generalize upd H3 c3 (.lst (cutV ((["Refused", "NotHeld"] : List Str).map V.str) none (some 1))) = H4
      intro s4 h4 g4
      refine ⟨by show 1 ≤ sizeLine; decide, fun c4 hc4 => ?_⟩
      have t5 := s4.trans (same_new (o := .lst [.str "Refused"]) hc4)
      have hl5 : (upd H4 c4 (.lst [.str "Refused"])) l = some (.lst ((["Refused", "NotHeld"] : List Str).map V.str)) := same_new hc4 _ _ h4
      refine ⟨.list ((["Refused"] : List Str).map .str), .list ((["Refused"] : List Str).map .str), .lst (SqL.of (same_new hc4 _ _ g4)) (strsDp ["Refused"]), .lst (show SqL K _ c4 ((["Refused"] : List Str).map V.str) from SqL.of upd_same) (strsDp ["Refused"]), by decide +kernel, by decide +kernel, _, rfl, iteYes (by decide +kernel) ?_⟩
      refine ⟨_, rfl, _, rfl, rfl, _, dd, _, _, rfl, T.xc_NotHeld, T.xn_NotHeld, rfl, t5 _ _ hd, rfl, by show 2 ≤ sizeLine; decide, fun r hr => ?_⟩
      refine q r _ (t5.trans (same_new hr)) (t5.free hr) ?_
      exact dueL_step (by intro h; cases h) (t5.free hr) hl upd_same (same_new hr _ _ hl5) (same_new hr _ _ (t5 _ _ hu0))
    | lb =>
      obtain ⟨u0, hd, hu0⟩ := he
      refine ⟨_, rfl, _, dd, _, _, _, false, rfl, rfl, same_new hl _ _ hd, T.xc_LockedBefore, rfl, ClsV.own _, T.kt_LockedBefore_NoThing, _, rfl, iteF ?_⟩
      refine ⟨_, rfl, _, dd, _, _, _, false, rfl, rfl, same_new hl _ _ hd, T.xc_LockedBefore, rfl, ClsV.own _, T.kt_LockedBefore_BadStep, _, rfl, iteF ?_⟩
      refine ⟨_, rfl, _, dd, _, _, _, true, rfl, rfl, same_new hl _ _ hd, T.xc_LockedBefore, rfl, ClsV.own _, T.kt_LockedBefore_Refused, _, rfl, iteT ?_⟩
      refine ⟨_, rfl, .inl ⟨rfl, _, SqL.of upd_same⟩, _, _, _, rfl, rfl, upd_same, sm _ (by decide), ?_⟩
      rw [upd_upd]
      change tSeq _ _ _ _ (upd H l (.lst [.str "Refused"]))
      refine ⟨_, rfl, _, dd, _, _, _, true, rfl, rfl, same_new hl _ _ hd, T.xc_LockedBefore, rfl, ClsV.own _, T.kt_LockedBefore_LockedBefore, _, rfl, iteT ?_⟩
      refine ⟨_, rfl, .inl ⟨rfl, _, SqL.of upd_same⟩, _, _, _, rfl, rfl, upd_same, sm _ (by decide), ?_⟩
      rw [upd_upd]
      change tSeq _ _ _ _ (upd H l (.lst [.str "Refused", .str "LockedBefore"]))
      refine ⟨_, rfl, _, dd, _, _, _, false, rfl, rfl, same_new hl _ _ hd, T.xc_LockedBefore, rfl, ClsV.own _, T.kt_LockedBefore_WrongMode, _, rfl, iteF ?_⟩
      refine ⟨_, rfl, _, dd, _, _, _, false, rfl, rfl, same_new hl _ _ hd, T.xc_LockedBefore, rfl, ClsV.own _, T.kt_LockedBefore_NotHeld, _, rfl, iteF ?_⟩
      refine ⟨_, rfl, _, dd, _, _, _, false, rfl, rfl, same_new hl _ _ hd, T.xc_LockedBefore, rfl, ClsV.own _, T.kt_LockedBefore_NotAllowed, _, rfl, iteF ?_⟩
      refine ⟨_, rfl, _, dd, _, _, _, false, rfl, rfl, same_new hl _ _ hd, T.xc_LockedBefore, rfl, ClsV.own _, T.kt_LockedBefore_Clash, _, rfl, iteF ?_⟩
      refine ⟨_, rfl, _, dd, _, _, _, true, rfl, rfl, same_new hl _ _ hd, T.xc_LockedBefore, rfl, ClsV.ty _, T.kt_LockedBefore_ValueError, _, rfl, iteNo rfl ?_⟩
      have s1 := same_new (o := .lst [.str "Refused", .str "LockedBefore"]) hl
      have h1 : (upd H l (.lst [.str "Refused", .str "LockedBefore"])) l = some (.lst ((["Refused", "LockedBefore"] : List Str).map V.str)) := upd_same
      revert s1 h1
      generalize upd H l (.lst [.str "Refused", .str "LockedBefore"]) = H1
      intro s1 h1
      refine ⟨_, rfl, by show 1 ≤ sizeLine; decide, fun c1 hc1 => ?_⟩
      have t2 := s1.trans (same_new (o := .lst [.str "NoThing"]) hc1)
      have hl2 : (upd H1 c1 (.lst [.str "NoThing"])) l = some (.lst ((["Refused", "LockedBefore"] : List Str).map V.str)) := same_new hc1 _ _ h1
      refine ⟨.list ((["Refused", "LockedBefore"] : List Str).map .str), .list ((["NoThing"] : List Str).map .str), .lst (SqL.of hl2) (strsDp (["Refused", "LockedBefore"] : List Str)), .lst (show SqL K _ c1 ((["NoThing"] : List Str).map V.str) from SqL.of upd_same) (strsDp (["NoThing"] : List Str)), by decide +kernel, by decide +kernel, _, rfl, iteNo (by decide +kernel) ?_⟩
      revert t2 hl2
      generalize upd H1 c1 (.lst [.str "NoThing"]) = H2
      intro s2 h2
      refine ⟨_, rfl, by show 1 ≤ sizeLine; decide, fun c2 hc2 => ?_⟩
      have t3 := s2.trans (same_new (o := .lst [.str "BadStep"]) hc2)
      have hl3 : (upd H2 c2 (.lst [.str "BadStep"])) l = some (.lst ((["Refused", "LockedBefore"] : List Str).map V.str)) := same_new hc2 _ _ h2
      refine ⟨.list ((["Refused", "LockedBefore"] : List Str).map .str), .list ((["BadStep"] : List Str).map .str), .lst (SqL.of hl3) (strsDp (["Refused", "LockedBefore"] : List Str)), .lst (show SqL K _ c2 ((["BadStep"] : List Str).map V.str) from SqL.of upd_same) (strsDp (["BadStep"] : List Str)), by decide +kernel, by decide +kernel, _, rfl, iteNo (by decide +kernel) ?_⟩
      revert t3 hl3
      generalize upd H2 c2 (.lst [.str "BadStep"]) = H3
      intro s3 h3
      refine ⟨_, rfl, _, rfl, l, _, rfl, SqL.of h3, fun c3 hc3 => ?_⟩
      have s4 := s3.trans (same_new (o := .lst (cutV ((["Refused", "LockedBefore"] : List Str).map V.str) none (some 1))) hc3)
      have h4 : (upd H3 c3 (.lst (cutV ((["Refused", "LockedBefore"] : List Str).map V.str) none (some 1)))) l = some (.lst ((["Refused", "LockedBefore"] : List Str).map V.str)) := same_new hc3 _ _ h3
      have g4 : (upd H3 c3 (.lst (cutV ((["Refused", "LockedBefore"] : List Str).map V.str) none (some 1)))) c3 = some (.lst ((["Refused"] : List Str).map V.str)) := upd_same
      revert s4 h4 g4
      generalize upd H3 c3 (.lst (cutV ((["Refused", "LockedBefore"] : List Str).map V.str) none (some 1))) = H4
      intro s4 h4 g4
      refine ⟨by show 1 ≤ sizeLine; decide, fun c4 hc4 => ?_⟩
      have t5 := s4.trans (same_new (o := .lst [.str "Refused"]) hc4)
      have hl5 : (upd H4 c4 (.lst [.str "Refused"])) l = some (.lst ((["Refused", "LockedBefore"] : List Str).map V.str)) := same_new hc4 _ _ h4
      refine ⟨.list ((["Refused"] : List Str).map .str), .list ((["Refused"] : List Str).map .str), .lst (SqL.of (same_new hc4 _ _ g4)) (strsDp ["Refused"]), .lst (show SqL K _ c4 ((["Refused"] : List Str).map V.str) from SqL.of upd_same) (strsDp ["Refused"]), by decide +kernel, by decide +kernel, _, rfl, iteYes (by decide +kernel) ?_⟩
      refine ⟨_, rfl, _, rfl, rfl, _, dd, _, _, rfl, T.xc_LockedBefore, T.xn_LockedBefore, rfl, t5 _ _ hd, rfl, by show 2 ≤ sizeLine; decide, fun r hr => ?_⟩
      refine q r _ (t5.trans (same_new hr)) (t5.free hr) ?_
      exact dueL_step (by intro h; cases h) (t5.free hr) hl upd_same (same_new hr _ _ hl5) (same_new hr _ _ (t5 _ _ hu0))
    | wm =>
      obtain ⟨u0, hd, hu0⟩ := he
      refine ⟨_, rfl, _, dd, _, _, _, false, rfl, rfl, same_new hl _ _ hd, T.xc_WrongMode, rfl, ClsV.own _, T.kt_WrongMode_NoThing, _, rfl, iteF ?_⟩
      refine ⟨_, rfl, _, dd, _, _, _, false, rfl, rfl, same_new hl _ _ hd, T.xc_WrongMode, rfl, ClsV.own _, T.kt_WrongMode_BadStep, _, rfl, iteF ?_⟩
      refine ⟨_, rfl, _, dd, _, _, _, true, rfl, rfl, same_new hl _ _ hd, T.xc_WrongMode, rfl, ClsV.own _, T.kt_WrongMode_Refused, _, rfl, iteT ?_⟩
      refine ⟨_, rfl, .inl ⟨rfl, _, SqL.of upd_same⟩, _, _, _, rfl, rfl, upd_same, sm _ (by decide), ?_⟩
      rw [upd_upd]
      change tSeq _ _ _ _ (upd H l (.lst [.str "Refused"]))
      refine ⟨_, rfl, _, dd, _, _, _, false, rfl, rfl, same_new hl _ _ hd, T.xc_WrongMode, rfl, ClsV.own _, T.kt_WrongMode_LockedBefore, _, rfl, iteF ?_⟩
      refine ⟨_, rfl, _, dd, _, _, _, true, rfl, rfl, same_new hl _ _ hd, T.xc_WrongMode, rfl, ClsV.own _, T.kt_WrongMode_WrongMode, _, rfl, iteT ?_⟩
      refine ⟨_, rfl, .inl ⟨rfl, _, SqL.of upd_same⟩, _, _, _, rfl, rfl, upd_same, sm _ (by decide), ?_⟩
      rw [upd_upd]
      change tSeq _ _ _ _ (upd H l (.lst [.str "Refused", .str "WrongMode"]))
      refine ⟨_, rfl, _, dd, _, _, _, false, rfl, rfl, same_new hl _ _ hd, T.xc_WrongMode, rfl, ClsV.own _, T.kt_WrongMode_NotHeld, _, rfl, iteF ?_⟩
      refine ⟨_, rfl, _, dd, _, _, _, false, rfl, rfl, same_new hl _ _ hd, T.xc_WrongMode, rfl, ClsV.own _, T.kt_WrongMode_NotAllowed, _, rfl, iteF ?_⟩
      refine ⟨_, rfl, _, dd, _, _, _, false, rfl, rfl, same_new hl _ _ hd, T.xc_WrongMode, rfl, ClsV.own _, T.kt_WrongMode_Clash, _, rfl, iteF ?_⟩
      refine ⟨_, rfl, _, dd, _, _, _, true, rfl, rfl, same_new hl _ _ hd, T.xc_WrongMode, rfl, ClsV.ty _, T.kt_WrongMode_ValueError, _, rfl, iteNo rfl ?_⟩
      have s1 := same_new (o := .lst [.str "Refused", .str "WrongMode"]) hl
      have h1 : (upd H l (.lst [.str "Refused", .str "WrongMode"])) l = some (.lst ((["Refused", "WrongMode"] : List Str).map V.str)) := upd_same
      revert s1 h1
      generalize upd H l (.lst [.str "Refused", .str "WrongMode"]) = H1
      intro s1 h1
      refine ⟨_, rfl, by show 1 ≤ sizeLine; decide, fun c1 hc1 => ?_⟩
      have t2 := s1.trans (same_new (o := .lst [.str "NoThing"]) hc1)
      have hl2 : (upd H1 c1 (.lst [.str "NoThing"])) l = some (.lst ((["Refused", "WrongMode"] : List Str).map V.str)) := same_new hc1 _ _ h1
      refine ⟨.list ((["Refused", "WrongMode"] : List Str).map .str), .list ((["NoThing"] : List Str).map .str), .lst (SqL.of hl2) (strsDp (["Refused", "WrongMode"] : List Str)), .lst (show SqL K _ c1 ((["NoThing"] : List Str).map V.str) from SqL.of upd_same) (strsDp (["NoThing"] : List Str)), by decide +kernel, by decide +kernel, _, rfl, iteNo (by decide +kernel) ?_⟩
      revert t2 hl2
      generalize upd H1 c1 (.lst [.str "NoThing"]) = H2
      intro s2 h2
      refine ⟨_, rfl, by show 1 ≤ sizeLine; decide, fun c2 hc2 => ?_⟩
      have t3 := s2.trans (same_new (o := .lst [.str "BadStep"]) hc2)
      have hl3 : (upd H2 c2 (.lst [.str "BadStep"])) l = some (.lst ((["Refused", "WrongMode"] : List Str).map V.str)) := same_new hc2 _ _ h2
      refine ⟨.list ((["Refused", "WrongMode"] : List Str).map .str), .list ((["BadStep"] : List Str).map .str), .lst (SqL.of hl3) (strsDp (["Refused", "WrongMode"] : List Str)), .lst (show SqL K _ c2 ((["BadStep"] : List Str).map V.str) from SqL.of upd_same) (strsDp (["BadStep"] : List Str)), by decide +kernel, by decide +kernel, _, rfl, iteNo (by decide +kernel) ?_⟩
      revert t3 hl3
      generalize upd H2 c2 (.lst [.str "BadStep"]) = H3
      intro s3 h3
      refine ⟨_, rfl, _, rfl, l, _, rfl, SqL.of h3, fun c3 hc3 => ?_⟩
      have s4 := s3.trans (same_new (o := .lst (cutV ((["Refused", "WrongMode"] : List Str).map V.str) none (some 1))) hc3)
      have h4 : (upd H3 c3 (.lst (cutV ((["Refused", "WrongMode"] : List Str).map V.str) none (some 1)))) l = some (.lst ((["Refused", "WrongMode"] : List Str).map V.str)) := same_new hc3 _ _ h3
      have g4 : (upd H3 c3 (.lst (cutV ((["Refused", "WrongMode"] : List Str).map V.str) none (some 1)))) c3 = some (.lst ((["Refused"] : List Str).map V.str)) := upd_same
      revert s4 h4 g4
      generalize upd H3 c3 (.lst (cutV ((["Refused", "WrongMode"] : List Str).map V.str) none (some 1))) = H4
      intro s4 h4 g4
      refine ⟨by show 1 ≤ sizeLine; decide, fun c4 hc4 => ?_⟩
      have t5 := s4.trans (same_new (o := .lst [.str "Refused"]) hc4)
      have hl5 : (upd H4 c4 (.lst [.str "Refused"])) l = some (.lst ((["Refused", "WrongMode"] : List Str).map V.str)) := same_new hc4 _ _ h4
      refine ⟨.list ((["Refused"] : List Str).map .str), .list ((["Refused"] : List Str).map .str), .lst (SqL.of (same_new hc4 _ _ g4)) (strsDp ["Refused"]), .lst (show SqL K _ c4 ((["Refused"] : List Str).map V.str) from SqL.of upd_same) (strsDp ["Refused"]), by decide +kernel, by decide +kernel, _, rfl, iteYes (by decide +kernel) ?_⟩
      refine ⟨_, rfl, _, rfl, rfl, _, dd, _, _, rfl, T.xc_WrongMode, T.xn_WrongMode, rfl, t5 _ _ hd, rfl, by show 2 ≤ sizeLine; decide, fun r hr => ?_⟩
      refine q r _ (t5.trans (same_new hr)) (t5.free hr) ?_
      exact dueL_step (by intro h; cases h) (t5.free hr) hl upd_same (same_new hr _ _ hl5) (same_new hr _ _ (t5 _ _ hu0))
end
end My

namespace My
open PySem L2
theorem dn_ints {K : PySem.W.Frag} {x : Addr} {H : Hp} {n : Nat} : ∀ l : List Int, Paired (Dn K x H n) (l.map V.int) (l.map .int)
  | [] => .nil
  | z :: l => .cons (Dn.int z) (dn_ints l)
end My

namespace My
open PySem L2
theorem nl_ne {H : Hp} {y a : Addr} {C dx : Addr} {fs : List (Str × V)} (h : H y = some (.ins C dx fs)) {us : List V} (e : H a = some (.lst us)) : a ≠ y := ins_ne h e (by intro _ _ _ h; cases h)
theorem lkAt_mem {tr : List Lk} (nd : (thsL tr).Nodup) {k : Lk} (h : k ∈ tr) : lkAt tr k.1 = some k := by
  induction tr with
  | nil => cases h
  | cons a tr ih =>
    have nd' := List.nodup_cons.mp nd
    rw [lkAt_cons]
    rcases List.mem_cons.mp h with rfl | h
    · rw [if_pos rfl]
    · have : a.1 ≠ k.1 := fun e => nd'.1 (by show a.1 ∈ _; rw [e]; exact List.mem_map.mpr ⟨k, h, rfl⟩)
      rw [if_neg this]
      exact ih nd'.2 h
theorem code_lt3 (k : Lk) : codeL (some k) < 3 ↔ k.2.2 = false := by
  obtain ⟨a, o, d⟩ := k
  cases o <;> cases d <;> simp [codeL]
def over2 (tr : List Lk) (i : Nat) : List Int := ((List.range i).map fun j => codeL (lkAt tr ((j : Nat) : Int))).filter fun c => decide (2 < c)
theorem over2_succ (tr : List Lk) (i : Nat) : over2 tr (i + 1) = over2 tr i ++ if 2 < codeL (lkAt tr ((i : Nat) : Int)) then [codeL (lkAt tr ((i : Nat) : Int))] else [] := by
  unfold over2
  rw [List.range_succ, List.map_append, List.filter_append]
  congr 1
  simp [List.filter_cons]
theorem over2_len (tr : List Lk) (i : Nat) : (over2 tr i).length ≤ i := by
  have := List.length_filter_le (fun c => decide (2 < c)) ((List.range i).map fun j => codeL (lkAt tr ((j : Nat) : Int)))
  rw [List.length_map, List.length_range] at this
  exact this
theorem over2_loose {tr : List Lk} {n : Nat} (nd : (thsL tr).Nodup) (rg : ∀ t ∈ thsL tr, 0 ≤ t ∧ t < (n : Int)) : decide (0 < (((over2 tr n).length : Nat) : Int)) = looseL tr := by
  have e : (0 < (((over2 tr n).length : Nat) : Int)) ↔ looseL tr = true := by
    unfold looseL
    rw [List.any_eq_true]
    constructor
    · intro h
      have h : 0 < (over2 tr n).length := by omega
      obtain ⟨c, hc⟩ := List.exists_mem_of_length_pos h
      obtain ⟨h1, h2⟩ := List.mem_filter.mp hc
      obtain ⟨j, _, rfl⟩ := List.mem_map.mp h1
      have h2 := of_decide_eq_true h2
      cases e : lkAt tr ((j : Nat) : Int) with
      | none => rw [e] at h2; simp [codeL] at h2
      | some k =>
        rw [e] at h2
        refine ⟨k, List.mem_of_find?_eq_some e, ?_⟩
        cases d : k.2.2 with
        | true => rfl
        | false => have := (code_lt3 k).mpr d; omega
    · rintro ⟨k, hk, d⟩
      obtain ⟨r0, r1⟩ := rg k.1 (List.mem_map.mpr ⟨k, hk, rfl⟩)
      have : codeL (some k) ∈ over2 tr n := by
        refine List.mem_filter.mpr ⟨List.mem_map.mpr ⟨k.1.toNat, List.mem_range.mpr (by omega), ?_⟩, decide_eq_true ?_⟩
        · rw [show ((k.1.toNat : Nat) : Int) = k.1 by omega, lkAt_mem nd hk]
        · have : ¬ codeL (some k) < 3 := fun h => by rw [(code_lt3 k).mp h] at d; cases d
          omega
      have := List.length_pos_of_mem this
      omega
  rw [Bool.eq_iff_iff, decide_eq_true_iff]
  exact e
def hold (tr : List Lk) (i : Nat) : List Int := thsL ((tr.take i).filter fun k => !k.2.2)
theorem hold_succ {tr : List Lk} {i : Nat} {k : Lk} (h : tr[i]? = some k) : hold tr (i + 1) = hold tr i ++ if k.2.2 = false then [k.1] else [] := by
  unfold hold thsL
  rw [List.take_succ, h, List.filter_append, List.map_append]
  congr 1
  cases d : k.2.2 <;> simp [d]
theorem hold_len (tr : List Lk) (i : Nat) : (hold tr i).length ≤ tr.length := by
  unfold hold thsL
  rw [List.length_map]
  exact Nat.le_trans (List.length_filter_le _ _) (by rw [List.length_take]; omega)
theorem word_at1 (tr : List Lk) (t : Int) : atI [V.str "", .str "own", .str "share", .str "", .str ""] (codeL (lkAt tr t)) = some (.str (wordO (heldAt tr t))) := by
  unfold heldAt
  cases e : lkAt tr t with
  | none => rfl
  | some k =>
    obtain ⟨a, o, d⟩ := k
    cases o <;> cases d <;> rfl
theorem word_at2 (tr : List Lk) (t : Int) : atI [V.str "", .str "own", .str "share", .str "own", .str "share"] (codeL (lkAt tr t)) = some (.str (wordO (lkAt tr t))) := by
  cases e : lkAt tr t with
  | none => rfl
  | some k =>
    obtain ⟨a, o, d⟩ := k
    cases o <;> cases d <;> rfl
def spLReadsS (C : Addr) : Sp := fun vs H Q _ => ∃ (y w a b s o : Addr) (tr : List Lk) (n : Nat), vs = [.ref y, .ref s, .ref o] ∧ Sto C H y w a b tr ∧ (thsL tr).Nodup ∧ tr.length ≤ 900 ∧ n ≤ 900 ∧ (∀ t ∈ thsL tr, 0 ≤ t ∧ t < (n : Int)) ∧ H s = some (.lst (stV tr n)) ∧ H o = some (.lst ((thsL tr).map V.int)) ∧ ∀ H', Same H H' → Q (.bl true) H'
section
variable {w : World} {K : PySem.W.Frag} {mg : Str → Option Value} {base : Heap}
set_option maxHeartbeats 16000000 in
set_option pp.maxSteps 600 in
theorem ok__law_reads (T : Txt K mg) : FnOk PP w K mg base CX0 6 T.a__law_reads T.fd__law_reads ["_law_standing", "_law_state", "_law_order"] (spLReadsS T.c_Standing) := by
  refine T.F__law_reads.ok sc__law_reads (fun vs H Q E h => ?_) (fun cdv A outer s H vs Q E hr h => ?_)
  · obtain ⟨y, w, a, b, s, o, tr, n, rfl, _⟩ := h; rfl
  · obtain ⟨y, wb, a, b, s, o, tr, n, rfl, S, nd, lt, ln, rg, hs, ho, q⟩ := h
    refine ⟨_, (pss_cons (ps_if (pt_not (pt_val (pe_call (ok__law_same T 3) (hr.mono (by omega)) (by rfl) T.g__law_same T.F__law_same.kp T.b__law_same .nil pass0 (pa_cons (pe_prop (pv 0) T.cl_Standing T.pr_Standing_begun (ok_Standing_begun T) (hr.mono (by omega)) T.b_Standing_begun .nil pass0 rfl) (pa_cons (pe_cmpR op_gt (pe_callB call_len_seq (by rfl) T.n_len (by decide +kernel) (pa_cons (pv 2) pa_nil)) (pe_int) (nomark _)) pa_nil))))) (pss_one (ps_ret (pe_bl))) pss_nil)
      (pss_cons (ps_if (pt_not (pt_val (pe_call (ok__law_same T 3) (hr.mono (by omega)) (by rfl) T.g__law_same T.F__law_same.kp T.b__law_same .nil pass0 (pa_cons (pe_prop (pv 0) T.cl_Standing T.pr_Standing_loose (ok_Standing_loose T) (hr.mono (by omega)) T.b_Standing_loose .nil pass0 rfl) (pa_cons (pe_cmpR op_gt (pe_callB call_len_seq (by rfl) T.n_len (by decide +kernel) (pa_cons (pe_lc (own := [("_law_x", 3)]) (g := (gName 3)) (by rfl) sc__law_reads.nd (pi_list (pv 1)) (blkOk_by (own := [("_law_x", 3)]) (N := ["_law_standing", "_law_state", "_law_order", "_law_x", "_law_thing"]) (sc := defScope S__law_reads) (by decide +kernel)) (fun _ _ _ _ _ => (pg_name (i := 3) sc__law_reads.nd rfl (by first | exact .inl rfl | exact .inr rfl))) (fun _ _ _ _ _ => (pts_one (pt_cmpR op_gt (pv 3) (pe_int) (nomark _)))) (fun _ _ _ _ _ => (pv 3))) pa_nil)) (pe_int) (nomark _)) pa_nil))))) (pss_one (ps_ret (pe_bl))) pss_nil)
      (pss_cons (ps_if (pt_not (pt_val (pe_call (ok__law_same T 3) (hr.mono (by omega)) (by rfl) T.g__law_same T.F__law_same.kp T.b__law_same .nil pass0 (pa_cons (pe_prop (pv 0) T.cl_Standing T.pr_Standing_holding (ok_Standing_holding T) (hr.mono (by omega)) T.b_Standing_holding .nil pass0 rfl) (pa_cons (pe_callTy call_tuple_of (by rfl) T.n_tuple (by decide +kernel) (pa_cons (pe_lc (own := [("_law_thing", 4)]) (g := (gName 4)) (by rfl) sc__law_reads.nd (pi_list (pv 2)) (blkOk_by (own := [("_law_thing", 4)]) (N := ["_law_standing", "_law_state", "_law_order", "_law_x", "_law_thing"]) (sc := defScope S__law_reads) (by decide +kernel)) (fun _ _ _ _ _ => (pg_name (i := 4) sc__law_reads.nd rfl (by first | exact .inl rfl | exact .inr rfl))) (fun _ _ _ _ _ => (pts_one (pt_cmpR op_lt (pe_ix (ixLK (K := K) rfl) (pv 1) (pv 4) (fun _ _ => rfl)) (pe_int) (nomark _)))) (fun _ _ _ _ _ => (pv 4))) pa_nil)) pa_nil))))) (pss_one (ps_ret (pe_bl))) pss_nil)
      (pss_cons (ps_for PassesOwn.never rfl (pi_range1 (by rfl) T.n_range (pa_cons (pe_callB call_len_seq (by rfl) T.n_len (by decide +kernel) (pa_cons (pv 1) pa_nil)) pa_nil)) (pg_name (i := 4) sc__law_reads.nd rfl (.inl rfl)) (pss_cons (ps_if (pt_not (pt_val (pe_call (ok__law_same T 3) (hr.mono (by omega)) (by rfl) T.g__law_same T.F__law_same.kp T.b__law_same .nil pass0 (pa_cons (pe_meth (pv 0) T.cl_Standing T.m_Standing_held_mode (ok_Standing_held_mode T) (hr.mono (by omega)) T.b_Standing_held_mode .nil pass0 (pa_cons (pv 4) pa_nil)) (pa_cons (pe_ix ix_list (pe_lst (pa_cons (pe_str) (pa_cons (pe_str) (pa_cons (pe_str) (pa_cons (pe_str) (pa_cons (pe_str) pa_nil)))))) (pe_ix ix_list (pv 1) (pv 4) (fun _ _ => rfl)) (fun _ _ => rfl)) pa_nil))))) (pss_one (ps_ret (pe_bl))) pss_nil)
      (pss_one (ps_if (pt_not (pt_val (pe_call (ok__law_same T 3) (hr.mono (by omega)) (by rfl) T.g__law_same T.F__law_same.kp T.b__law_same .nil pass0 (pa_cons (pe_meth (pv 0) T.cl_Standing T.m_Standing_locked_mode (ok_Standing_locked_mode T) (hr.mono (by omega)) T.b_Standing_locked_mode .nil pass0 (pa_cons (pv 4) pa_nil)) (pa_cons (pe_ix ix_list (pe_lst (pa_cons (pe_str) (pa_cons (pe_str) (pa_cons (pe_str) (pa_cons (pe_str) (pa_cons (pe_str) pa_nil)))))) (pe_ix ix_list (pv 1) (pv 4) (fun _ _ => rfl)) (fun _ _ => rfl)) pa_nil))))) (pss_one (ps_ret (pe_bl))) pss_nil))))
      (pss_one (ps_ret (pe_bl))))))), ?_⟩
    have big : 100000 < sizeLine := by decide
    obtain ⟨⟨dy, hy⟩, _⟩ := id S
    have lth : (thsL tr).length = tr.length := by unfold thsL; rw [List.length_map]
    -- begun
    refine ⟨_, rfl, y, dy, _, rfl, hy, y, wb, a, b, tr, rfl, S, ?_⟩
    refine ⟨_, rfl, o, _, rfl, .inl (SqL.of ho), _, _, rfl, rfl, y, _, _, .bool (decide (0 < (tr.length : Int))), .bool (decide (0 < (((thsL tr).map V.int).length : Int))), rfl, .bl _, .bl _, _, rfl, iteNo (by rw [List.length_map, lth]; exact nsame) ?_⟩
    -- loose
    refine ⟨_, rfl, y, dy, _, rfl, hy, y, wb, a, b, tr, rfl, S, ?_⟩
    refine ⟨_, rfl, s, rfl, ⟨_, SqL.of hs⟩, fun D hD => lc_list (K := K) (a := s) (xs := stV tr n) (fun i H' => Same H H' ∧ H' D = some (.lst ((over2 tr i).map V.int))) ⟨same_new hD, upd_same⟩ (fun i H' _ h => SqL.of (h.1 _ _ hs)) ?_ ?_⟩
    · rintro i v H1 hv ⟨s1, h1⟩
      have hi : i < n := by have := (List.getElem?_eq_some_iff.mp hv).1; rwa [stV_len] at this
      rw [stV_at hi] at hv
      obtain rfl := Option.some.inj hv
      have l2 := over2_len tr i
      refine ⟨rfl, _, rfl, _, _, rfl, rfl, _, rfl, iteD (fun c => ⟨_, rfl, _, h1, by rw [List.length_map]; omega, same_mut s1 hD, by rw [upd_same, ints_app, over2_succ, if_pos c]⟩) (fun c => ⟨s1, by rw [over2_succ, if_neg c, List.append_nil]; exact h1⟩)⟩
    rintro H1 ⟨s1, h1⟩
    rw [stV_len] at h1
    refine ⟨D, _, rfl, .inl (SqL.of h1), _, _, rfl, rfl, y, _, _, .bool (looseL tr), .bool (decide (0 < (((over2 tr n).map V.int).length : Int))), rfl, .bl _, .bl _, _, rfl, iteNo (by rw [List.length_map, over2_loose nd rg]; exact nsame) ?_⟩
    -- holding
    refine ⟨_, rfl, y, dy, _, rfl, s1 _ _ hy, y, wb, a, b, tr, rfl, S.same s1, fun u H2 s2 nu hu => ?_⟩
    have t2 := s1.trans s2
    refine ⟨_, rfl, o, rfl, ⟨_, SqL.of (t2 _ _ ho)⟩, fun D2 hD2 => lc_list (K := K) (a := o) (xs := (thsL tr).map V.int) (fun i H' => Same H2 H' ∧ H' D2 = some (.lst ((hold tr i).map V.int))) ⟨same_new hD2, upd_same⟩ (fun i H' _ h => SqL.of (h.1 _ _ (t2 _ _ ho))) ?_ ?_⟩
    · rintro i v H3 hv ⟨s3, h3⟩
      obtain ⟨t, ht, rfl⟩ := get_int hv
      unfold thsL at ht
      rw [List.getElem?_map] at ht
      cases hk : tr[i]? with
      | none => rw [hk] at ht; cases ht
      | some k =>
        rw [hk] at ht
        obtain rfl := Option.some.inj ht
        have mk := List.mem_of_getElem? hk
        obtain ⟨r0, r1⟩ := rg k.1 (List.mem_map.mpr ⟨k, mk, rfl⟩)
        obtain ⟨j, ej⟩ := Int.eq_ofNat_of_zero_le r0
        have hat : atI (stV tr n) k.1 = some (.int (codeL (lkAt tr k.1))) := by rw [ej]; exact atI_nat (stV_at (by omega))
        rw [lkAt_mem nd mk] at hat
        have hl := hold_len tr i
        refine ⟨rfl, _, rfl, _, rfl, _, _, _, _, rfl, rfl, SqL.of ((t2.trans s3) _ _ hs), hat, _, _, rfl, rfl, _, rfl, iteD (fun c => ⟨_, rfl, _, h3, by rw [List.length_map]; omega, same_mut s3 hD2, by rw [upd_same, ints_app, hold_succ hk, if_pos ((code_lt3 k).mp c)]⟩) (fun c => ⟨s3, by rw [hold_succ hk, if_neg (fun h => c ((code_lt3 k).mpr h)), List.append_nil]; exact h3⟩)⟩
    rintro H3 ⟨s3, h3⟩
    rw [List.length_map, lth] at h3
    have eh : hold tr tr.length = holdL tr := by unfold hold holdL; rw [List.take_length]
    rw [eh] at h3
    refine ⟨D2, _, rfl, .inl ⟨SqL.of h3, fun E hE => ?_⟩⟩
    have s4 := same_new (o := .tup ((holdL tr).map V.int)) hE
    have t4 := (t2.trans s3).trans s4
    have hE4 : (upd H3 E (.tup ((holdL tr).map V.int))) E = _ := upd_same
    have lh : (holdL tr).length ≤ 1000 := by rw [← eh]; exact Nat.le_trans (hold_len tr _) (by omega)
    have nT : ∀ {H' : Hp} {x : Addr} {ws : List V}, Same H H' → H' x = some (.tup ws) → x ≠ y := fun s h => ins_ne (s _ _ hy) h (by intro _ _ _ h; cases h)
    refine ⟨y, _, _, .tuple ((holdL tr).map .int), .tuple ((holdL tr).map .int), rfl, Dn.tup (nT t4 (s4 _ _ (s3 _ _ hu))) (SqT.of (s4 _ _ (s3 _ _ hu))) (dn_ints _) (by rw [List.length_map]; omega), Dn.tup (nT t4 hE4) (SqT.of hE4) (dn_ints _) (by rw [List.length_map]; omega), _, rfl, iteNo nsame ?_⟩
    -- each thing
    refine ⟨_, rfl, s, _, rfl, .inl (SqL.of (t4 _ _ hs)), _, rfl, by rw [stV_len]; omega, by rw [stV_len]; omega, for_range (lo := 0) (n := (stV tr n).length) (fun i σ H' => ∃ x4, σ = [some (.ref y), some (.ref s), some (.ref o), none, x4] ∧ Same H H') ⟨_, rfl, t4⟩ ?_ ?_⟩
    · rintro i σ H5 hi ⟨x4, rfl, s5⟩
      rw [Int.zero_add]
      rw [stV_len] at hi
      have hat := atI_nat (stV_at (tr := tr) hi)
      refine ⟨_, rfl, y, dy, _, rfl, s5 _ _ hy, rfl, _, rfl, y, wb, a, b, tr, ((i : Nat) : Int), rfl, S.same s5, nd, ?_⟩
      refine ⟨by show 5 ≤ sizeLine; decide, fun c hc => ?_⟩
      have s6 := s5.trans (same_new (o := .lst [.str "", .str "own", .str "share", .str "", .str ""]) hc)
      have hc6 : (upd H5 c (.lst [.str "", .str "own", .str "share", .str "", .str ""])) c = some (.lst [.str "", .str "own", .str "share", .str "", .str ""]) := upd_same
      revert s6 hc6
      generalize upd H5 c (.lst [.str "", .str "own", .str "share", .str "", .str ""]) = H6
      intro s6 hc6
      refine ⟨_, rfl, _, rfl, _, _, _, _, rfl, rfl, SqL.of (s6 _ _ hs), hat, _, _, _, _, rfl, rfl, SqL.of hc6, word_at1 tr _, y, _, _, .str (wordO (heldAt tr ((i : Nat) : Int))), .str (wordO (heldAt tr ((i : Nat) : Int))), rfl, .str _, .str _, _, rfl, iteNo nsame ?_⟩
      refine ⟨_, rfl, y, dy, _, rfl, s6 _ _ hy, rfl, _, rfl, y, wb, a, b, tr, ((i : Nat) : Int), rfl, S.same s6, ?_⟩
      refine ⟨by show 5 ≤ sizeLine; decide, fun c2 hc2 => ?_⟩
      have s7 := s6.trans (same_new (o := .lst [.str "", .str "own", .str "share", .str "own", .str "share"]) hc2)
      have hc7 : (upd H6 c2 (.lst [.str "", .str "own", .str "share", .str "own", .str "share"])) c2 = some (.lst [.str "", .str "own", .str "share", .str "own", .str "share"]) := upd_same
      revert s7 hc7
      generalize upd H6 c2 (.lst [.str "", .str "own", .str "share", .str "own", .str "share"]) = H7
      intro s7 hc7
      exact ⟨_, rfl, _, rfl, _, _, _, _, rfl, rfl, SqL.of (s7 _ _ hs), hat, _, _, _, _, rfl, rfl, SqL.of hc7, word_at2 tr _, y, _, _, .str (wordO (lkAt tr ((i : Nat) : Int))), .str (wordO (lkAt tr ((i : Nat) : Int))), rfl, .str _, .str _, _, rfl, iteNo nsame ⟨_, rfl, s7⟩⟩
    · rintro σ H5 ⟨x4, rfl, s5⟩
      exact q H5 s5
end
end My

namespace My
open PySem L2
/-! ### steps, programs -/
abbrev Stp := Str × Int
def StpAt (H : Hp) (v : V) (s : Stp) : Prop := ∃ t, v = .ref t ∧ H t = some (.tup [.str s.1, .int s.2])
abbrev Stps (H : Hp) (vs : List V) (ss : List Stp) : Prop := Paired (StpAt H) vs ss
/-- tuples stay -/
def TKeep (H H' : Hp) : Prop := ∀ t xs, H t = some (.tup xs) → H' t = some (.tup xs)
theorem TKeep.refl (H : Hp) : TKeep H H := fun _ _ h => h
theorem TKeep.trans {H H1 H2 : Hp} (a : TKeep H H1) (b : TKeep H1 H2) : TKeep H H2 := fun t xs h => b t xs (a t xs h)
theorem TKeep.same {H H' : Hp} (s : Same H H') : TKeep H H' := fun t xs h => s t _ h
theorem TKeep.but {x : Addr} {H H' : Hp} (b : But x H H') (n : ∀ xs, H x ≠ some (.tup xs)) : TKeep H H' := fun t xs h => b t _ (fun e => n xs (e ▸ h)) h
theorem Stps.keep {H H' : Hp} {vs : List V} {ss : List Stp} (h : Stps H vs ss) (k : TKeep H H') : Stps H' vs ss := L2.Paired.mapP h fun _ _ ⟨t, e, q⟩ => ⟨t, e, k t _ q⟩
theorem Stps.same {H H' : Hp} {vs : List V} {ss : List Stp} (h : Stps H vs ss) (s : Same H H') : Stps H' vs ss := h.keep (.same s)
theorem pair_app {α β : Type} {F : α → β → Prop} : ∀ {l l' : List α} {m m' : List β}, Paired F l m → Paired F l' m' → Paired F (l ++ l') (m ++ m')
  | _, _, _, _, .nil, q => q
  | _, _, _, _, .cons r t, q => .cons r (pair_app t q)
theorem pair_take {α β : Type} {F : α → β → Prop} : ∀ {l : List α} {m : List β} (n : Nat), Paired F l m → Paired F (l.take n) (m.take n)
  | _, _, 0, _ => .nil
  | _, _, _ + 1, .nil => .nil
  | _, _, n + 1, .cons r t => .cons r (pair_take n t)
theorem pair_drop {α β : Type} {F : α → β → Prop} : ∀ {l : List α} {m : List β} (n : Nat), Paired F l m → Paired F (l.drop n) (m.drop n)
  | _, _, 0, h => h
  | _, _, _ + 1, .nil => .nil
  | _, _, n + 1, .cons _ t => pair_drop n t
def goodS (s : Stp) : Prop := (s.1 = "own" ∨ s.1 = "share" ∨ s.1 = "drop") ∧ 0 ≤ s.2
def deedsV : List V := [.str "own", .str "share", .str "drop"]
theorem inDeeds {z : Str} (h : z = "own" ∨ z = "share" ∨ z = "drop") : inV (.str z) deedsV = true := by rcases h with rfl | rfl | rfl <;> decide +kernel
/-- a program of the class at C -/
def Pg (C : Addr) (H : Hp) (x : Addr) (ss : List Stp) : Prop := ∃ dx l vs, H x = some (.ins C dx [("_steps", .ref l)]) ∧ H l = some (.lst vs) ∧ Stps H vs ss ∧ vs.length ≤ 1000
theorem Pg.same {C : Addr} {H H' : Hp} {x : Addr} {ss : List Stp} (h : Pg C H x ss) (s : Same H H') : Pg C H' x ss := let ⟨dx, l, vs, a, b, c, d⟩ := h; ⟨dx, l, vs, s _ _ a, s _ _ b, c.same s, d⟩
theorem steps_look (l : Addr) : ([("_steps", V.ref l)] : List (Str × V)).lookup ("_steps" : Str) = some (.ref l) := by rfl
/-- the data of steps -/
def stpD (s : Stp) : PyData := .tuple [.str s.1, .int s.2]
theorem stpD_inj {a b : Stp} (h : stpD a = stpD b) : a = b := by
  unfold stpD at h
  simp only [PyData.tuple.injEq, List.cons.injEq, PyData.str.injEq, PyData.int.injEq, and_true] at h
  exact Prod.ext h.1 h.2
theorem stpsD_inj : ∀ {a b : List Stp}, a.map stpD = b.map stpD → a = b
  | [], [], _ => rfl
  | [], _ :: _, h => by simp at h
  | _ :: _, [], h => by simp at h
  | x :: a, y :: b, h => by
    simp only [List.map_cons, List.cons.injEq] at h
    rw [stpD_inj h.1, stpsD_inj h.2]
theorem stpsDn {K : PySem.W.Frag} {x : Addr} {H : Hp} {vs : List V} {ss : List Stp} (h : Stps H vs ss) (n : ∀ xs, H x ≠ some (.tup xs)) : Paired (Dn K x H 1) vs (ss.map stpD) := by
  induction h with
  | nil => exact .nil
  | cons r t ih =>
    obtain ⟨t, rfl, e⟩ := r
    exact .cons (Dn.tup (fun q => n _ (q ▸ e)) (SqT.of e) (.cons (.str _) (.cons (.int _) .nil))) ih
theorem stpsDL {K : PySem.W.Frag} {x l : Addr} {H : Hp} {vs : List V} {ss : List Stp} (hl : H l = some (.lst vs)) (h : Stps H vs ss) (nl : l ≠ x) (n : ∀ xs, H x ≠ some (.tup xs)) (hz : vs.length ≤ 100000) : Dn K x H 2 (.ref l) (.list (ss.map stpD)) :=
  Dn.lst nl (SqL.of hl) (stpsDn h n) hz
end My

namespace My
open PySem L2
instance (s : Stp) : Decidable (goodS s) := by unfold goodS; exact inferInstance
/-- a step, in a tuple or in a list -/
def StpV (H : Hp) (v : V) (s : Stp) : Prop := ∃ p, v = .ref p ∧ (H p = some (.tup [.str s.1, .int s.2]) ∨ H p = some (.lst [.str s.1, .int s.2]))
abbrev StpsV (H : Hp) (vs : List V) (ss : List Stp) : Prop := Paired (StpV H) vs ss
theorem StpV.same {H H' : Hp} {v : V} {s : Stp} (h : StpV H v s) (e : Same H H') : StpV H' v s := by
  obtain ⟨p, a, b | b⟩ := h
  · exact ⟨p, a, .inl (e _ _ b)⟩
  · exact ⟨p, a, .inr (e _ _ b)⟩
theorem stpsV_same {H H' : Hp} {vs : List V} {ss : List Stp} (h : StpsV H vs ss) (e : Same H H') : StpsV H' vs ss := L2.Paired.mapP h fun _ _ x => x.same e
theorem Stps.toV {H : Hp} {vs : List V} {ss : List Stp} (h : Stps H vs ss) : StpsV H vs ss := L2.Paired.mapP h fun _ _ ⟨t, e, q⟩ => ⟨t, e, .inl q⟩
def firstBad (ss : List Stp) : Option Stp := ss.find? fun s => decide (¬ goodS s)
theorem no_bad {ss : List Stp} : firstBad ss = none ↔ ∀ s ∈ ss, goodS s := by
  unfold firstBad
  rw [List.find?_eq_none]
  simp
theorem bad_not {ss : List Stp} {s : Stp} (h : firstBad ss = some s) : ¬ goodS s := by
  have := List.find?_some h
  simpa using this
theorem bad_at {ss : List Stp} {i : Nat} {s : Stp} (hi : ss[i]? = some s) (hb : ¬ goodS s) (hg : ∀ r ∈ ss.take i, goodS r) : firstBad ss = some s := by
  unfold firstBad
  have e : ss = ss.take i ++ s :: ss.drop (i + 1) := by
    obtain ⟨h1, h2⟩ := List.getElem?_eq_some_iff.mp hi
    rw [← h2, ← List.drop_eq_getElem_cons h1, List.take_append_drop]
  rw [e, List.find?_append, List.find?_eq_none.mpr (by intro r hr; simpa using hg r hr)]
  simp [List.find?_cons, hb]
/-- what a spoilt step raises -/
abbrev BadE (X : Addr) (H : Hp) (E : XK) (s : Stp) : Prop := ∀ H' d q, Same H H' → H d = none → H q = none → H' d = some (.xd [("step", .ref q)]) → H' q = some (.tup [.str s.1, .int s.2]) → E (.ref X) (some d) H'
def spSoundX (X : Addr) : Sp := fun vs H Q E => ∃ (v : V) (s : Stp), vs = [v] ∧ StpV H v s ∧ (goodS s → ∀ p, H p = none → Q (.ref p) (upd H p (.tup [.str s.1, .int s.2]))) ∧ (¬ goodS s → BadE X H E s)
def spPInitX (C X : Addr) : Sp := fun vs H Q E => ∃ (x dx p : Addr) (us : List V) (ss : List Stp), vs = [.ref x, .ref p] ∧ H x = some (.ins C dx []) ∧ H p = some (.tup us) ∧ StpsV H us ss ∧ us.length ≤ 1000 ∧
  (firstBad ss = none → ∀ H' l vs', But x H H' → H' x = some (.ins C dx [("_steps", .ref l)]) → H l = none → H' l = some (.lst vs') → Stps H' vs' ss → vs'.length = us.length → Q .non H') ∧
  (∀ s, firstBad ss = some s → BadE X H E s)
theorem inDeeds_iff (z : Str) : inV (.str z) deedsV = true ↔ (z = "own" ∨ z = "share" ∨ z = "drop") := by
  constructor
  · intro h
    unfold inV deedsV at h
    simp [eqV] at h
    rcases h with h | h | h
    · exact .inl h.symm
    · exact .inr (.inl h.symm)
    · exact .inr (.inr h.symm)
  · exact inDeeds
/-- what C(..) asks, of the new instance at x -/
theorem init_pgX {C X x dx : Addr} {H : Hp} {us : List V} {ss : List Stp} {Q : VK} {E : XK} (hx : H x = some (.ins C dx [])) (hs : StpsV H us ss) (hl : us.length ≤ 1000)
    (q : firstBad ss = none → ∀ H', But x H H' → Pg C H' x ss → Q .non H') (qb : ∀ s, firstBad ss = some s → BadE X H E s) : spStar 1 (spPInitX C X) (.ref x :: us) H Q E :=
  ⟨[.ref x], us, rfl, rfl, Nat.le_trans hl (by decide), fun p np => ⟨x, dx, p, us, ss, rfl, same_new np _ _ hx, upd_same, stpsV_same hs (same_new np), hl, fun hb H' l vs' b h1 _ h2 h3 h4 =>
    q hb H' (fun y o n h => b y o n (same_new np _ _ h)) ⟨dx, l, vs', h1, h2, h3, by omega⟩, fun s hb H' d q s' nd nq => qb s hb H' d q ((same_new np).trans s') ((same_new np).free nd) ((same_new np).free nq)⟩⟩
section
variable {w : World} {K : PySem.W.Frag} {mg : Str → Option Value} {base : Heap}
theorem ok_sound_step (T : Txt K mg) : FnOk PP w K mg base (L2.CX PP w) 2 T.a_sound_step T.fd_sound_step ["step"] (spSoundX T.c_BadStep) := by
  refine T.F_sound_step.okX sc_sound_step (fun vs H Q E h => ?_) (fun cdv A outer s H vs Q E hr h => ?_)
  · obtain ⟨v, s, rfl, _⟩ := h; rfl
  · obtain ⟨v, sp, rfl, ⟨p, rfl, hp⟩, qg, qb⟩ := h
    refine ⟨_, (pss_cons (ps_asg (pv 0) (pg_seq rfl (pgs_cons (pg_name (i := 1) sc_sound_step.nd rfl (.inl rfl)) (pgs_cons (pg_name (i := 2) sc_sound_step.nd rfl (.inl rfl)) pgs_nil))))
      (pss_cons (ps_if (PW.pt (pw_or (pt_cmpR op_notIn_seq (pv 1) (pe_glob (v := .ref T.k_DEEDS) (by rfl) T.g_DEEDS rfl) (by with_unfolding_all rfl)) (pw_or1 (pt_cmpR op_lt (pv 2) (pe_int) (nomark _))))) (pss_one (ps_raiseX rfl T.x_BadStep hr (takes_of rfl rfl rfl rfl) (pa_cons (pe_tup (pa_cons (pv 1) (pa_cons (pv 2) pa_nil))) pa_nil))) pss_nil)
      (pss_one (ps_ret (pe_tup (pa_cons (pv 1) (pa_cons (pv 2) pa_nil))))))), ?_⟩
    have bad : ¬ goodS sp → ∀ q, H q = none → ∀ d, (upd H q (.tup [.str sp.1, .int sp.2])) d = none → E (.ref T.c_BadStep) (some d) (upd (upd H q (.tup [.str sp.1, .int sp.2])) d (.xd [("step", .ref q)])) := fun hb q hq d hd =>
      qb hb _ d q ((same_new hq).trans (same_new hd)) ((same_new hq).free hd) hq upd_same (same_new hd _ _ upd_same)
    refine ⟨_, rfl, gSeq_of hp rfl ⟨_, _, rfl, _, _, rfl, rfl, ?_⟩⟩
    refine ⟨_, rfl, _, _, rfl, .inr (T.q_DEEDS _), rfl, rfl, _, rfl, ?_⟩
    rw [show [V.str "own", .str "share", .str "drop"] = deedsV from rfl]
    by_cases kd : sp.1 = "own" ∨ sp.1 = "share" ∨ sp.1 = "drop"
    · refine iteNo (by rw [inDeeds kd]; rfl) ?_
      refine ⟨_, rfl, _, _, rfl, rfl, _, rfl, iteD (fun c => ?_) (fun c => ?_)⟩
      · exact ⟨_, rfl, _, rfl, by show 2 ≤ sizeLine; decide, fun q hq => ⟨_, rfl, fun d hd => bad (fun h => by have := h.2; omega) q hq d hd⟩⟩
      · exact ⟨_, rfl, _, rfl, by show 2 ≤ sizeLine; decide, fun q hq => qg ⟨kd, by omega⟩ q hq⟩
    · refine iteYes (by rw [Bool.eq_false_iff.mpr (fun z => kd ((inDeeds_iff sp.1).mp z))]; rfl) ?_
      exact ⟨_, rfl, _, rfl, by show 2 ≤ sizeLine; decide, fun q hq => ⟨_, rfl, fun d hd => bad (fun h => kd h.1) q hq d hd⟩⟩
theorem ok_Program_init (T : Txt K mg) : FnR PP w K mg base (L2.CX PP w) 4 T.a_Program_init (spStar 1 (spPInitX T.c_Program T.c_BadStep)) := by
  refine Fun.starX (k := 3) (ps := ["self"]) T.F_Program_init sc_Program_init T.bs_Program_init fun cdv A outer s H vs Q E hr h => ?_
  obtain ⟨x, dx, p, us, ss, rfl, hx, hp, hs, hl, q, qb⟩ := h
  refine ⟨_, (pss_one (ps_fld (pv 0) (pe_lcX (own := [("step", 2)]) (g := (gName 2)) rfl rfl rfl rfl (by rfl) sc_Program_init.nd (pi_tup (pv 1)) (blkOk_by (own := [("step", 2)]) (N := ["self", "steps", "step"]) (sc := defScope S_Program_init) (by decide +kernel)) (fun _ _ _ _ _ _ => (pg_name (i := 2) sc_Program_init.nd rfl (by first | exact .inl rfl | exact .inr rfl))) (fun _ _ _ _ _ _ => pts_nil) (fun _ _ _ _ _ _ hp => (pe_call (ok_sound_step T) (hr.mono (by omega)) (by rfl) T.g_sound_step T.F_sound_step.kp T.b_sound_step .nil hp (pa_cons (pv 2) pa_nil)))) rfl)), ?_⟩
  have lss := pair_len hs
  refine ⟨_, rfl, p, rfl, ⟨_, SqT.of hp⟩, fun D hD => ?_⟩
  have nxD : x ≠ D := ne_of_none hx hD
  have npD : p ≠ D := ne_of_none hp hD
  refine lc_tup (K := K) (a := p) (xs := us) (fun i H' => ∃ vs', Same H H' ∧ H' D = some (.lst vs') ∧ Stps H' vs' (ss.take i) ∧ vs'.length = i ∧ ∀ s ∈ ss.take i, goodS s) ⟨[], same_new hD, upd_same, .nil, rfl, fun s h => by rw [List.take_zero] at h; cases h⟩ (fun i H' _ ⟨_, s1, _⟩ => SqT.of (s1 _ _ hp)) ?_ ?_
  · rintro i v H1 hv ⟨vs', s1, h1, st1, l1, g1⟩
    obtain ⟨y, hy, hV⟩ := pair_get hs hv
    have hi := (List.getElem?_eq_some_iff.mp hv).1
    refine ⟨rfl, _, rfl, v, y, rfl, hV.same s1, fun gy u nu => ?_, fun by_ H' d q s' nd nq => qb y (bad_at hy by_ g1) H' d q (s1.trans s') (s1.free nd) (s1.free nq)⟩
    have s2 := same_new (o := .tup [.str y.1, .int y.2]) nu
    refine ⟨_, s2 _ _ h1, Nat.lt_of_le_of_lt (by omega : _ ≤ 1000) (by decide), vs' ++ [.ref u], same_mut (s1.trans s2) hD, upd_same, ?_, by rw [List.length_append, l1]; rfl, ?_⟩
    · have nuD : u ≠ D := (ne_of_none h1 nu).symm
      rw [List.take_add_one, hy]
      refine pair_app (Stps.keep st1 fun a xs e => ?_) (.cons ⟨u, rfl, by rw [upd_ne nuD]; exact upd_same⟩ .nil)
      rw [upd_ne (fun z => by rw [z, h1] at e; cases e)]
      exact s2 _ _ e
    · rw [List.take_add_one, hy]
      intro s hs'
      rcases List.mem_append.mp hs' with h | h
      · exact g1 s h
      · rw [List.mem_singleton.mp h]; exact gy
  · rintro H1 ⟨vs', s1, h1, st1, l1, g1⟩
    rw [List.take_of_length_le (by omega)] at st1 g1
    refine ⟨_, rfl, x, _, dx, _, rfl, s1 _ _ hx, T.cl_Program, T.no_Program__steps, by show 0 < 1000; decide, ?_⟩
    have hx1 := s1 _ _ hx
    refine q (no_bad.mpr g1) _ D vs' (fun y o n h => by rw [upd_ne n]; exact s1 _ _ h) upd_same hD (by rw [upd_ne nxD.symm]; exact h1) (Stps.keep st1 fun a xs e => ?_) l1
    rw [upd_ne (fun z => by rw [z, hx1] at e; cases e)]
    exact e
end
end My

namespace My
open PySem L2
/-! ### what programs answer -/
def thingsOf (ss : List Stp) : List Int := ss.foldl (fun (acc : List Int) (s : Stp) => if s.1 ≠ ("drop" : Str) ∧ s.2 ∉ acc then acc ++ [s.2] else acc) []
theorem things_take {ss : List Stp} {i : Nat} {s : Stp} (h : ss[i]? = some s) : thingsOf (ss.take (i + 1)) = if s.1 ≠ ("drop" : Str) ∧ s.2 ∉ thingsOf (ss.take i) then thingsOf (ss.take i) ++ [s.2] else thingsOf (ss.take i) := by
  unfold thingsOf
  rw [List.take_add_one, h, List.foldl_append]
  rfl
theorem things_len (ss : List Stp) : ∀ i, (thingsOf (ss.take i)).length ≤ i
  | 0 => Nat.le_refl _
  | i + 1 => by
    have ih := things_len ss i
    cases h : ss[i]? with
    | none => rw [List.take_add_one, h, Option.toList_none, List.append_nil]; omega
    | some s => rw [things_take h]; split <;> first | (rw [List.length_append, List.length_singleton]; omega) | omega
def modeOf (ss : List Stp) (n : Int) : Str := match ss.find? (fun s : Stp => decide (s.2 = n) && !decide (s.1 = ("drop" : Str))) with | some s => s.1 | none => ""
theorem mode_at {ss : List Stp} {n : Int} {i : Nat} {s : Stp} (h : ss[i]? = some s) (hb : ∀ (j : Nat) (r : Stp), j < i → ss[j]? = some r → ¬ (r.2 = n ∧ r.1 ≠ ("drop" : Str))) (hs : s.2 = n ∧ s.1 ≠ "drop") : modeOf ss n = s.1 := by
  have hi := (List.getElem?_eq_some_iff.mp h).1
  have e : ss.find? (fun s : Stp => decide (s.2 = n) && !decide (s.1 = ("drop" : Str))) = some s := by
    rw [List.find?_eq_some_iff_getElem]
    refine ⟨by rw [decide_eq_true hs.1, decide_eq_false hs.2]; rfl, i, hi, (List.getElem?_eq_some_iff.mp h).2, fun j hj => ?_⟩
    have q := hb j ss[j] hj (List.getElem?_eq_getElem _)
    by_cases q1 : (ss[j]).2 = n
    · have q2 : (ss[j]).1 = "drop" := Classical.not_not.mp fun z => q ⟨q1, z⟩
      rw [decide_eq_true q2]; simp
    · rw [decide_eq_false q1]; rfl
  unfold modeOf
  rw [e]
theorem mode_no {ss : List Stp} {n : Int} (hb : ∀ (j : Nat) (r : Stp), ss[j]? = some r → ¬ (r.2 = n ∧ r.1 ≠ ("drop" : Str))) : modeOf ss n = "" := by
  have e : ss.find? (fun s : Stp => decide (s.2 = n) && !decide (s.1 = ("drop" : Str))) = none := by
    rw [List.find?_eq_none]
    intro s hs
    obtain ⟨j, hj⟩ := List.mem_iff_getElem?.mp hs
    have q := hb j s hj
    by_cases q1 : s.2 = n
    · have q2 : s.1 = "drop" := Classical.not_not.mp fun z => q ⟨q1, z⟩
      rw [decide_eq_true q2]; simp
    · rw [decide_eq_false q1]; simp
  unfold modeOf
  rw [e]
theorem eqv_stp (a b : Stp) : PyData.eqv (stpD a) (stpD b) = decide (a = b) := by
  unfold stpD
  simp only [PyData.eqv, PyData.eqvAll, Bool.and_true]
  rw [Bool.eq_iff_iff, Bool.and_eq_true, beq_iff_eq, beq_iff_eq, decide_eq_true_iff]
  exact ⟨fun h => Prod.ext h.1 h.2, fun h => by rw [h]; exact ⟨rfl, rfl⟩⟩
theorem eqv_stps : ∀ a b : List Stp, PyData.eqvAll (a.map stpD) (b.map stpD) = decide (a = b)
  | [], [] => by simp [PyData.eqvAll]
  | [], _ :: _ => by simp [PyData.eqvAll]
  | _ :: _, [] => by simp [PyData.eqvAll]
  | x :: a, y :: b => by
    simp only [List.map_cons, PyData.eqvAll, eqv_stp, eqv_stps a b]
    rw [Bool.eq_iff_iff, Bool.and_eq_true, decide_eq_true_iff, decide_eq_true_iff, decide_eq_true_iff]
    simp
theorem stp_ok {s : Stp} (h : goodS s) : PyData.canLay0 (stpD s) = true := by
  unfold stpD
  have : PyData.strOk s.1 = true := by rcases h.1 with e | e | e <;> (rw [e]; decide +kernel)
  simp [PyData.canLay0, PyData.canLayAll0, this]
theorem stps_shaped {ss : List Stp} (h : ∀ s ∈ ss, goodS s) : SeqAt.shaped (.list (ss.map stpD)) = true := by
  have h1 : ∀ l : List Stp, (∀ s ∈ l, goodS s) → PyData.canLayAll0 (l.map stpD) = true := fun l => by
    induction l with
    | nil => intro _; rfl
    | cons a r ih => intro q; rw [List.map_cons, PyData.canLayAll0, stp_ok (q a (by simp)), ih fun s hs => q s (by simp [hs])]; rfl
  have h2 : ∀ l : List Stp, PyData.depthAll (l.map stpD) ≤ 1 := fun l => by
    induction l with
    | nil => exact Nat.zero_le _
    | cons a r ih =>
      rw [List.map_cons, PyData.depthAll]
      have : PyData.depth (stpD a) = 1 := by unfold stpD; simp [PyData.depth, PyData.depthAll]
      omega
  unfold SeqAt.shaped
  rw [PyData.canLay0, h1 ss h, PyData.depth, Bool.true_and, decide_eq_true_iff]
  have := h2 ss
  omega
theorem stpsDp {K : PySem.W.Frag} {H : Hp} : ∀ {vs : List V} {ss : List Stp}, Stps H vs ss → DpAll K H vs (ss.map stpD)
  | _, _, .nil => .nil
  | _, _, .cons ⟨_, e, h⟩ t => by
    subst e
    exact .cons (.tup (SqT.of h) (.cons (.str _) (.cons (.int _) .nil))) (stpsDp t)
def spPEq (C : Addr) : Sp := fun vs H Q _ => ∃ (x y : Addr) (ss tt : List Stp), vs = [.ref x, .ref y] ∧ Pg C H x ss ∧ Pg C H y tt ∧ (∀ s ∈ ss, goodS s) ∧ (∀ s ∈ tt, goodS s) ∧ Q (.bl (decide (ss = tt))) H
/-- the right operand of +: its steps -/
def Rgt (K : PySem.W.Frag) (C : Addr) (H : Hp) (y : Addr) (tt : List Stp) : Prop := Pg C H y tt ∨ ∃ us, (SqL K H y us ∨ SqT K H y us) ∧ Stps H us tt
def spPAdd (K : PySem.W.Frag) (C : Addr) : Sp := fun vs H Q _ => ∃ (x y : Addr) (ss tt : List Stp), vs = [.ref x, .ref y] ∧ Pg C H x ss ∧ Rgt K C H y tt ∧ ss.length + tt.length ≤ 1000 ∧ (∀ s ∈ ss ++ tt, goodS s) ∧
  ∀ z H', Same H H' → H z = none → Pg C H' z (ss ++ tt) → Q (.ref z) H'
def spThings (C : Addr) : Sp := fun vs H Q _ => ∃ (x : Addr) (ss : List Stp), vs = [.ref x] ∧ Pg C H x ss ∧ ∀ t H', Same H H' → H t = none → H' t = some (.tup ((thingsOf ss).map V.int)) → Q (.ref t) H'
def spMode (C : Addr) : Sp := fun vs H Q _ => ∃ (x : Addr) (n : Int) (ss : List Stp), vs = [.ref x, .int n] ∧ Pg C H x ss ∧ Q (.str (modeOf ss n)) H
def spBegin (C X : Addr) : Sp := fun vs H Q E => ∃ (x : Addr) (n : Int) (ss : List Stp), vs = [.ref x, .int n] ∧ Pg C H x ss ∧ (∀ s ∈ ss, goodS s) ∧
  (∀ m : Nat, n = m → m ≤ ss.length → ∀ z H', Same H H' → H z = none → Pg C H' z (ss.take m) → Q (.ref z) H') ∧
  (n < 0 ∨ (ss.length : Int) < n → ∀ H' d, Same H H' → H d = none → H' d = some (.xd [("most", .int ss.length)]) → E (.ref X) (some d) H')
section
variable {w : World} {K : PySem.W.Frag} {mg : Str → Option Value} {base : Heap}
theorem ok_Program_iter (T : Txt K mg) : IterOk PP w K mg base 1 T.a_Program_iter T.c_Program "_steps" := fun A outer s H a dx l fs xs Q E hr e0 ha hf hq q => by
  refine fn_here T.F_Program_iter sc_Program_iter T.b_Program_iter hr e0 (vs := [.ref a]) (.cons rfl .nil) rfl fun cdv hr => ⟨_, (pss_one (ps_ret (pe_callB ItX.call_iterN (by rfl) T.n_iter (by decide +kernel) (pa_cons (pe_fld (pv 0) rfl) pa_nil)))), ?_⟩
  exact ⟨_, rfl, a, _, dx, _, _, rfl, ha, T.cl_Program, T.no_Program__steps, hf, l, xs, rfl, hq, fun it n1 n2 => q it n1 n2⟩
end
end My

namespace My
open PySem L2
theorem bad_app {ss tt : List Stp} (h : ∀ s ∈ ss, goodS s) : firstBad (ss ++ tt) = firstBad tt := by
  unfold firstBad
  rw [List.find?_append, show List.find? (fun s => decide (¬ goodS s)) ss = none from no_bad.mpr h]
  rfl
theorem bad_pre {ss tt : List Stp} (h : ∀ s ∈ ss, goodS s) : firstBad (tt ++ ss) = firstBad tt := by
  unfold firstBad
  rw [List.find?_append, show List.find? (fun s => decide (¬ goodS s)) ss = none from no_bad.mpr h]
  cases List.find? (fun s => decide (¬ goodS s)) tt <;> rfl
/-- what may stand beside a program -/
def RowX (K : PySem.W.Frag) (H : Hp) (y : Addr) (tt : List Stp) : Prop := ∃ vs, (SqL K H y vs ∨ SqT K H y vs) ∧ StpsV H vs tt
def RgtX (K : PySem.W.Frag) (C : Addr) (H : Hp) (y : Addr) (tt : List Stp) : Prop := (Pg C H y tt ∧ ∀ s ∈ tt, goodS s) ∨ RowX K H y tt
def spPAddX (K : PySem.W.Frag) (C X : Addr) : Sp := fun vs H Q E => ∃ (x y : Addr) (ss tt : List Stp), vs = [.ref x, .ref y] ∧ Pg C H x ss ∧ (∀ s ∈ ss, goodS s) ∧ RgtX K C H y tt ∧ ss.length + tt.length ≤ 1000 ∧
  (firstBad tt = none → ∀ z H', Same H H' → H z = none → Pg C H' z (ss ++ tt) → Q (.ref z) H') ∧ (∀ s, firstBad tt = some s → BadE X H E s)
def spPRaddX (K : PySem.W.Frag) (C X : Addr) : Sp := fun vs H Q E => ∃ (x y : Addr) (ss tt : List Stp), vs = [.ref x, .ref y] ∧ Pg C H x ss ∧ (∀ s ∈ ss, goodS s) ∧ RowX K H y tt ∧ ss.length + tt.length ≤ 1000 ∧
  (firstBad tt = none → ∀ z H', Same H H' → H z = none → Pg C H' z (tt ++ ss) → Q (.ref z) H') ∧ (∀ s, firstBad tt = some s → BadE X H E s)
section
variable {w : World} {K : PySem.W.Frag} {mg : Str → Option Value} {base : Heap}
theorem ok_Program_add (T : Txt K mg) : FnOk PP w K mg base (L2.CX PP w) 6 T.a_Program_add T.fd_Program_add ["self", "other"] (spPAddX K T.c_Program T.c_BadStep) := by
  refine T.F_Program_add.okX sc_Program_add (fun vs H Q E h => ?_) (fun cdv A outer s H vs Q E hr h => ?_)
  · obtain ⟨x, y, ss, tt, rfl, _⟩ := h; rfl
  · obtain ⟨x, y, ss, tt, rfl, ⟨dx, l, us, hx, hl, hs, _⟩, hgs, hy, hz, q, qb⟩ := h
    refine ⟨_, (pss_cons (ps_if (pt_val (pe_callB call_isiT (by rfl) T.n_isinstance (by decide +kernel) (pa_cons (pv 1) (pa_cons (pe_tup (pa_cons (pe_bltn (v := .ty "list") (by rfl) T.n_list (by decide +kernel) rfl) (pa_cons (pe_bltn (v := .ty "tuple") (by rfl) T.n_tuple (by decide +kernel) rfl) pa_nil))) pa_nil)))) (pss_one (ps_ret (pe_makeS2 T.mk_Program (ok_Program_init T) (hr.mono (by omega)) (by rfl) T.g_Program (passes_call (takes_of rfl rfl rfl rfl) (fun _ _ _ _ h => h)) (StX.pa_star (pe_fld (pv 0) rfl) (StX.pa_star (pv 1) pa_nil))))) pss_nil)
      (pss_cons (ps_if (pt_val (pe_callB call_isi (by rfl) T.n_isinstance (by decide +kernel) (pa_cons (pv 1) (pa_cons (pe_glob (v := .ref T.c_Program) (by rfl) T.g_Program rfl) pa_nil)))) (pss_one (ps_ret (pe_makeS2 T.mk_Program (ok_Program_init T) (hr.mono (by omega)) (by rfl) T.g_Program (passes_call (takes_of rfl rfl rfl rfl) (fun _ _ _ _ h => h)) (StX.pa_star (pe_fld (pv 0) rfl) (StX.pa_star (pe_fld (pv 1) rfl) pa_nil))))) pss_nil)
      (pss_one ps_never))), ?_⟩
    refine ⟨_, rfl, by show 2 ≤ sizeLine; decide, fun c hc => ?_⟩
    have s1 := same_new (o := .tup [.ty "list", .ty "tuple"]) hc
    have ls := pair_len hs
    rcases hy with ⟨⟨dy, m, vs, hy, hm, ht, _⟩, hgt⟩ | ⟨vs, hy, ht⟩
    · have lt := pair_len ht
      refine ⟨_, _, _, _, _, false, rfl, upd_same, .cons (.ty _) (.cons (.ty _) .nil), .base (T.ti_Program _ _ _ _ (s1 _ _ hy)), kitAny_cons T.ko_Program_list (fun _ => kitAny_cons T.ko_Program_tuple (fun _ => rfl) (fun z => nomatch z)) (fun z => nomatch z), _, rfl, iteF ?_⟩
      refine ⟨_, rfl, _, _, _, _, true, rfl, ClsV.own _, .base (T.ti_Program _ _ _ _ (s1 _ _ hy)), T.kk_Program, _, rfl, iteT ?_⟩
      refine ⟨_, rfl, x, _, dx, _, _, rfl, s1 _ _ hx, T.cl_Program, T.no_Program__steps, steps_look l, l, us, rfl, .inr (SqL.of (s1 _ _ hl)), _, rfl, y, _, dy, _, _, rfl, s1 _ _ hy, T.cl_Program, T.no_Program__steps, steps_look m, m, vs, rfl, .inr (SqL.of (s1 _ _ hm)), ?_⟩
      intro z dz nz ndz _
      have s2 := s1.trans (same_make (C := T.c_Program) nz ndz (But.refl z _))
      refine init_pgX (us := us ++ (vs ++ [])) (ss := ss ++ tt) upd_same ?_ (by rw [List.length_append, List.length_append]; simp; omega) (fun hb H8 b8 p8 => ⟨rfl, q (bad_app hgs ▸ hb) z H8 (s1.trans (same_make nz ndz b8)) (s1.free nz) p8⟩) fun s' hb H' d q' s3 nd nq => qb s' (bad_app hgs ▸ hb) H' d q' (s2.trans s3) (s2.free nd) (s2.free nq)
      rw [List.append_nil]
      exact pair_app (hs.same s2).toV (ht.same s2).toV
    · have lt := pair_len ht
      have hT : ∃ tn, TyX K (upd H c (.tup [.ty "list", .ty "tuple"])) (.ref y) (.type tn) ∧ PySem.W.kitAny K (.type tn) [.type "list", .type "tuple"] = some true := by
        rcases hy with hy | hy
        · exact ⟨"list", tyL (s1.seq hy), kitAny_cons (b := true) (r := true) (kit_ty (by decide +kernel)) (fun z => nomatch z) fun _ => rfl⟩
        · exact ⟨"tuple", tyT (same_sqT s1 hy), kitAny_cons (b := false) (kit_ty (by decide +kernel)) (fun _ => kitAny_cons (b := true) (r := true) (kit_ty (by decide +kernel)) (fun z => nomatch z) fun _ => rfl) (fun z => nomatch z)⟩
      obtain ⟨tn, t1, t2⟩ := hT
      refine ⟨_, _, _, _, _, true, rfl, upd_same, .cons (.ty _) (.cons (.ty _) .nil), t1, t2, _, rfl, iteT ?_⟩
      refine ⟨_, rfl, x, _, dx, _, _, rfl, s1 _ _ hx, T.cl_Program, T.no_Program__steps, steps_look l, l, us, rfl, .inr (SqL.of (s1 _ _ hl)), _, rfl, y, vs, rfl, hy.elim (fun h => .inr (s1.seq h)) (fun h => .inl (same_sqT s1 h)), ?_⟩
      intro z dz nz ndz _
      have s2 := s1.trans (same_make (C := T.c_Program) nz ndz (But.refl z _))
      refine init_pgX (us := us ++ (vs ++ [])) (ss := ss ++ tt) upd_same ?_ (by rw [List.length_append, List.length_append]; simp; omega) (fun hb H8 b8 p8 => ⟨rfl, q (bad_app hgs ▸ hb) z H8 (s1.trans (same_make nz ndz b8)) (s1.free nz) p8⟩) fun s' hb H' d q' s3 nd nq => qb s' (bad_app hgs ▸ hb) H' d q' (s2.trans s3) (s2.free nd) (s2.free nq)
      rw [List.append_nil]
      exact pair_app (hs.same s2).toV (stpsV_same ht s2)
end
end My

namespace My
open PySem L2
/-! ### a row of steps, one behind another -/
def runT (ts : List Th) (rs : List Row) : List Lk → List Stp → List Lk × Option (Stp × SE)
  | tr, [] => (tr, none)
  | tr, s :: ss => match dueS ts rs tr s.1 s.2 with
    | none => runT ts rs (actS tr s.1 s.2) ss
    | some e => (tr, some (s, e))
theorem runT_go {ts : List Th} {rs : List Row} {tr : List Lk} {s : Stp} {ss : List Stp} (h : dueS ts rs tr s.1 s.2 = none) : runT ts rs tr (s :: ss) = runT ts rs (actS tr s.1 s.2) ss := by
  show (match dueS ts rs tr s.1 s.2 with | none => runT ts rs (actS tr s.1 s.2) ss | some e => (tr, some (s, e))) = _
  rw [h]
theorem runT_stop {ts : List Th} {rs : List Row} {tr : List Lk} {s : Stp} {ss : List Stp} {e : SE} (h : dueS ts rs tr s.1 s.2 = some e) : runT ts rs tr (s :: ss) = (tr, some (s, e)) := by
  show (match dueS ts rs tr s.1 s.2 with | none => runT ts rs (actS tr s.1 s.2) ss | some e => (tr, some (s, e))) = _
  rw [h]
theorem thsL_act {tr : List Lk} {z : Str} {t : Int} : thsL (actS tr z t) = if z = "drop" then thsL tr else thsL tr ++ [t] := by
  unfold actS
  by_cases c : z = "drop"
  · rw [if_pos c, if_pos c, thsL_drop]
  · rw [if_neg c, if_neg c]; unfold thsL; rw [List.map_append]; rfl
theorem act_len (tr : List Lk) (z : Str) (t : Int) : (actS tr z t).length ≤ tr.length + 1 := by
  unfold actS
  split
  · unfold dropT; rw [List.length_map]; omega
  · rw [List.length_append]; simp
theorem act_nd {ts : List Th} {rs : List Row} {tr : List Lk} {z : Str} {t : Int} (h : dueS ts rs tr z t = none) (nd : (thsL tr).Nodup) : (thsL (actS tr z t)).Nodup := by
  obtain ⟨_, _, _, dl⟩ := due_none h
  rw [thsL_act]
  by_cases c : z = "drop"
  · rw [if_pos c]; exact nd
  · rw [if_neg c]
    have nm := lkAt_none.mp (dl c)
    refine List.nodup_append.mpr ⟨nd, by simp, fun a ha c hc e => ?_⟩
    rw [List.mem_singleton.mp hc] at e
    exact nm (e ▸ ha)
/-- what a standing's step leaves alone -/
theorem sto_keep {C : Addr} {H H' : Hp} {y w a b : Addr} {tr : List Lk} (S : Sto C H y w a b tr) (l : Le [y, a, b] H H') {p : Addr} {o : HO} (h : H p = some o) (n1 : ∀ xs, o ≠ .dK xs) (n2 : ∀ D dx v r, o ≠ .ins D dx (("web", v) :: r)) : H' p = some o := by
  obtain ⟨⟨dx, e0⟩, e1, e2, _⟩ := S
  refine l _ _ (fun m => ?_) h
  simp only [List.mem_cons, List.not_mem_nil, or_false] at m
  rcases m with rfl | rfl | rfl
  · rw [e0] at h; exact n2 _ _ _ _ (Option.some.inj h).symm
  · rw [e1] at h; exact n1 _ (Option.some.inj h).symm
  · rw [e2] at h; exact n1 _ (Option.some.inj h).symm
theorem OnW.act {C Cw Cs : Addr} {H H' : Hp} {y w0 a b : Addr} {tr : List Lk} {w x l m : Addr} {ts : List Th} {rs : List Row} (W : OnW Cw Cs H w x l m ts rs) (S : Sto C H y w0 a b tr) (le : Le [y, a, b] H H') : OnW Cw Cs H' w x l m ts rs := by
  obtain ⟨⟨⟨dw, hw⟩, ⟨vs, hl, hv⟩, hm, ne⟩, ⟨dx, l1, m1, us, hx, hl1, hr, hm1⟩, kn⟩ := W
  have tp : ∀ a xs, H a = some (.tup xs) → H' a = some (.tup xs) := fun a xs e => sto_keep S le e (fun _ h => nomatch h) fun _ _ _ _ h => nomatch h
  have lp : ∀ a xs, H a = some (.lst xs) → H' a = some (.lst xs) := fun a xs e => sto_keep S le e (fun _ h => nomatch h) fun _ _ _ _ h => nomatch h
  refine ⟨⟨⟨dw, sto_keep S le hw (fun _ h => nomatch h) fun _ _ _ _ h => ?_⟩, ⟨vs, lp _ _ hl, thsV_keep hv tp⟩, lp _ _ hm, ne⟩, ⟨dx, l1, m1, us, sto_keep S le hx (fun _ h => nomatch h) fun _ _ _ _ h => ?_, lp _ _ hl1, rowsT_keep hr tp, lp _ _ hm1⟩, kn⟩
  · injection h with _ _ h; injection h with h _; injection h with h _; exact absurd h (by decide)
  · injection h with _ _ h; injection h with h _; injection h with h _; exact absurd h (by decide)
def RunAt (CP : Addr) (H : Hp) (p : Addr) (us : List V) : Prop := H p = some (.lst us) ∨ H p = some (.tup us) ∨ ∃ dx l, H p = some (.ins CP dx [("_steps", .ref l)]) ∧ H l = some (.lst us)
theorem StpV.at {H : Hp} {v : V} {s : Stp} (h : StpV H v s) : ∃ p, v = .ref p ∧ stepAt H p s.1 s.2 := let ⟨p, e, h⟩ := h; ⟨p, e, h.symm⟩
def spStRun (C Cw Cs CP BS NT NH LB WM : Addr) : Sp := fun vs H Q E => ∃ (y w a b p x l m : Addr) (tr : List Lk) (ts : List Th) (rs : List Row) (ss : List Stp) (us : List V), vs = [.ref y, .ref p] ∧ Sto C H y w a b tr ∧ (thsL tr).Nodup ∧ tr.length + ss.length ≤ 1000 ∧ OnW Cw Cs H w x l m ts rs ∧ RunAt CP H p us ∧ StpsV H us ss ∧
  ((runT ts rs tr ss).2 = none → ∀ H', Le [y, a, b] H H' → Sto C H' y w a b (runT ts rs tr ss).1 → Q .non H') ∧ (∀ s e, (runT ts rs tr ss).2 = some (s, e) → ∀ H' d, Le [y, a, b] H H' → Sto C H' y w a b (runT ts rs tr ss).1 → H d = none → errS s.1 s.2 H' d e → E (.ref (clsS BS NT NH LB WM e)) (some d) H')
/-! ### counts -/
def heldN (tr : List Lk) (ps : List Int) : Nat := (ps.filter fun p => (heldAt tr p).isSome).length
def ownN (tr : List Lk) (ps : List Int) : Nat := (ps.filter fun p => decide (wordO (heldAt tr p) = "own")).length
def seenN (tr : List Lk) (ps : List Int) : Nat := (ps.filter fun p => (lkAt tr p).isSome).length
theorem cnt_succ {f : Int → Bool} {ps : List Int} {i : Nat} {p : Int} (h : ps[i]? = some p) : (((ps.take (i + 1)).filter f).length : Int) = ((ps.take i).filter f).length + if f p = true then 1 else 0 := by
  rw [List.take_add_one, h, List.filter_append, List.length_append]
  by_cases c : f p = true <;> simp [c]
def spStCounts (C : Addr) : Sp := fun vs H Q _ => ∃ (y w a b p : Addr) (tr : List Lk) (ps : List Int), vs = [.ref y, .ref p] ∧ Sto C H y w a b tr ∧ (thsL tr).Nodup ∧ ps.length ≤ 1000 ∧ (H p = some (.lst (ps.map V.int)) ∨ H p = some (.tup (ps.map V.int))) ∧
  ∀ u H', Same H H' → H u = none → H' u = some (.tup [.int (heldN tr ps), .int (ownN tr ps), .int (seenN tr ps)]) → Q (.ref u) H'
section
variable {w : World} {K : PySem.W.Frag} {mg : Str → Option Value} {base : Heap}
set_option pp.maxSteps 600 in
theorem ok_Standing_run (T : Txt K mg) : FnOk PP w K mg base (L2.CX PP w) 11 T.a_Standing_run T.fd_Standing_run ["self", "steps"] (spStRun T.c_Standing T.c_Web T.c_Shape T.c_Program T.c_BadStep T.c_NoThing T.c_NotHeld T.c_LockedBefore T.c_WrongMode) := by
  refine T.F_Standing_run.okX sc_Standing_run (fun vs H Q E h => ?_) (fun cdv A outer s H vs Q E hr h => ?_)
  · obtain ⟨y, w, a, b, p, x, l, m, tr, ts, rs, ss, us, rfl, _⟩ := h; rfl
  · obtain ⟨y, wb, a, b, p, x, l, m, tr, ts, rs, ss, us, rfl, S, nd, lt, W, hp, hs, q, qe⟩ := h
    have lus := pair_len' hs
    obtain ⟨⟨dy, hy0⟩, _⟩ := id S
    have step : ∀ {i : Nat} {v : V} {H1 : Hp} {trI : List Lk}, us[i]? = some v → Le [y, a, b] H H1 → Sto T.c_Standing H1 y wb a b trI → (thsL trI).Nodup → trI.length ≤ tr.length + i → runT ts rs trI (ss.drop i) = runT ts rs tr ss →
        ∃ (pp : Addr) (s1 : Stp), v = .ref pp ∧ stepAt H1 pp s1.1 s1.2 ∧ OnW T.c_Web T.c_Shape H1 wb x l m ts rs ∧ trI.length ≤ 1000 ∧
        (dueS ts rs trI s1.1 s1.2 = none → ∀ H2, Le [y, a, b] H1 H2 → Le [y, a, b] H H2 ∧ (thsL (actS trI s1.1 s1.2)).Nodup ∧ (actS trI s1.1 s1.2).length ≤ tr.length + (i + 1) ∧ runT ts rs (actS trI s1.1 s1.2) (ss.drop (i + 1)) = runT ts rs tr ss) ∧
        (∀ e, dueS ts rs trI s1.1 s1.2 = some e → ∀ H2 d, Same H1 H2 → H1 d = none → errS s1.1 s1.2 H2 d e → E (.ref (clsS T.c_BadStep T.c_NoThing T.c_NotHeld T.c_LockedBefore T.c_WrongMode e)) (some d) H2) := by
      intro i v H1 trI hv le1 S1 nd1 lt1 er1
      obtain ⟨s1, hs1, hsv⟩ := pair_get' hs hv
      obtain ⟨pp, rfl, hpp⟩ := hsv.at
      have hpp1 : stepAt H1 pp s1.1 s1.2 := hpp.imp (fun e => sto_keep S le1 e (fun _ h => nomatch h) fun _ _ _ _ h => nomatch h) (fun e => sto_keep S le1 e (fun _ h => nomatch h) fun _ _ _ _ h => nomatch h)
      have hi := (List.getElem?_eq_some_iff.mp hs1).1
      have ed : ss.drop i = s1 :: ss.drop (i + 1) := by rw [List.drop_eq_getElem_cons hi, (List.getElem?_eq_some_iff.mp hs1).2]
      rw [ed] at er1
      refine ⟨pp, s1, rfl, hpp1, W.act S le1, by omega, fun du H2 le2 => ?_, fun e du H2 d s2 nd2 he => ?_⟩
      · rw [runT_go du] at er1
        exact ⟨le1.trans le2, act_nd du nd1, by have := act_len trI s1.1 s1.2; omega, er1⟩
      · rw [runT_stop du] at er1
        refine qe s1 e (by rw [← er1]) H2 d (le1.trans (Le.same s2)) (by rw [← er1]; exact S1.same s2) ?_ he
        cases e0 : H d with
        | none => rfl
        | some o =>
          have nn : d ∉ [y, a, b] := fun m => by
            obtain ⟨⟨dx, f0⟩, f1, f2, _⟩ := S1
            simp only [List.mem_cons, List.not_mem_nil, or_false] at m
            rcases m with rfl | rfl | rfl
            · rw [f0] at nd2; cases nd2
            · rw [f1] at nd2; cases nd2
            · rw [f2] at nd2; cases nd2
          rw [le1 _ _ nn e0] at nd2; cases nd2
    rcases hp with hp | hp | ⟨dx, ls, hp, hls⟩
    · refine ⟨_, (pss_one (ps_for (passes_of rfl) rfl (pi_list (pv 1)) (pg_name (i := 2) sc_Standing_run.nd rfl (.inl rfl)) (pss_one (ps_expr (pe_meth (pv 0) T.cl_Standing T.m_Standing_take (ok_Standing_take T) (hr.mono (by omega)) T.b_Standing_take .nil (passes_call (takes_of rfl rfl rfl rfl) (fun _ _ _ _ h => h)) (pa_cons (pv 2) pa_nil)))))), ?_⟩
      refine ⟨_, rfl, p, rfl, ⟨_, SqL.of hp⟩, for_list (K := K) (a := p) (xs := us) (fun i σ H' => ∃ x2 trI, σ = [some (.ref y), some (.ref p), x2] ∧ Le [y, a, b] H H' ∧ Sto T.c_Standing H' y wb a b trI ∧ (thsL trI).Nodup ∧ trI.length ≤ tr.length + i ∧ runT ts rs trI (ss.drop i) = runT ts rs tr ss) ⟨_, tr, rfl, .refl _ _, S, nd, Nat.le_refl _, rfl⟩ (fun i σ H' _ ⟨_, _, _, le, _⟩ => SqL.of (sto_keep S le hp (fun _ h => nomatch h) fun _ _ _ _ h => nomatch h)) ?_ ?_⟩
      · rintro i v σ H1 hv ⟨x2, trI, rfl, le1, S1, nd1, lt1, er1⟩
        obtain ⟨⟨dy1, hy1⟩, _⟩ := id S1
        obtain ⟨pp, s1, rfl, hpp1, W1, l3, k1, k2⟩ := step hv le1 S1 nd1 lt1 er1
        exact ⟨_, rfl, y, dy1, _, rfl, hy1, rfl, _, rfl, y, wb, a, b, pp, x, l, m, trI, ts, rs, s1.1, s1.2, rfl, S1, nd1, l3, W1, hpp1, fun du H2 le2 S2 => by
          obtain ⟨c1, c2, c3, c4⟩ := k1 du H2 le2
          exact ⟨_, actS trI s1.1 s1.2, rfl, c1, S2, c2, c3, c4⟩, k2⟩
      · rintro σ H1 ⟨x2, trI, rfl, le1, S1, nd1, lt1, er1⟩
        rw [lus, List.drop_length] at er1
        exact q (by rw [← er1]; rfl) H1 le1 (by rw [← er1]; exact S1)
    · refine ⟨_, (pss_one (ps_for (passes_of rfl) rfl (pi_tup (pv 1)) (pg_name (i := 2) sc_Standing_run.nd rfl (.inl rfl)) (pss_one (ps_expr (pe_meth (pv 0) T.cl_Standing T.m_Standing_take (ok_Standing_take T) (hr.mono (by omega)) T.b_Standing_take .nil (passes_call (takes_of rfl rfl rfl rfl) (fun _ _ _ _ h => h)) (pa_cons (pv 2) pa_nil)))))), ?_⟩
      refine ⟨_, rfl, p, rfl, ⟨_, SqT.of hp⟩, for_tup (K := K) (a := p) (xs := us) (fun i σ H' => ∃ x2 trI, σ = [some (.ref y), some (.ref p), x2] ∧ Le [y, a, b] H H' ∧ Sto T.c_Standing H' y wb a b trI ∧ (thsL trI).Nodup ∧ trI.length ≤ tr.length + i ∧ runT ts rs trI (ss.drop i) = runT ts rs tr ss) ⟨_, tr, rfl, .refl _ _, S, nd, Nat.le_refl _, rfl⟩ (fun i σ H' _ ⟨_, _, _, le, _⟩ => SqT.of (sto_keep S le hp (fun _ h => nomatch h) fun _ _ _ _ h => nomatch h)) ?_ ?_⟩
      · rintro i v σ H1 hv ⟨x2, trI, rfl, le1, S1, nd1, lt1, er1⟩
        obtain ⟨⟨dy1, hy1⟩, _⟩ := id S1
        obtain ⟨pp, s1, rfl, hpp1, W1, l3, k1, k2⟩ := step hv le1 S1 nd1 lt1 er1
        exact ⟨_, rfl, y, dy1, _, rfl, hy1, rfl, _, rfl, y, wb, a, b, pp, x, l, m, trI, ts, rs, s1.1, s1.2, rfl, S1, nd1, l3, W1, hpp1, fun du H2 le2 S2 => by
          obtain ⟨c1, c2, c3, c4⟩ := k1 du H2 le2
          exact ⟨_, actS trI s1.1 s1.2, rfl, c1, S2, c2, c3, c4⟩, k2⟩
      · rintro σ H1 ⟨x2, trI, rfl, le1, S1, nd1, lt1, er1⟩
        rw [lus, List.drop_length] at er1
        exact q (by rw [← er1]; rfl) H1 le1 (by rw [← er1]; exact S1)
    · refine ⟨_, (pss_one (ps_for (passes_of rfl) rfl (pi_own T.m_Program_iter (ok_Program_iter T) (hr.mono (by omega)) (pv 1)) (pg_name (i := 2) sc_Standing_run.nd rfl (.inl rfl)) (pss_one (ps_expr (pe_meth (pv 0) T.cl_Standing T.m_Standing_take (ok_Standing_take T) (hr.mono (by omega)) T.b_Standing_take .nil (passes_call (takes_of rfl rfl rfl rfl) (fun _ _ _ _ h => h)) (pa_cons (pv 2) pa_nil)))))), ?_⟩
      refine ⟨_, rfl, p, dx, ls, _, us, rfl, hp, steps_look ls, SqL.of hls, for_list (K := K) (a := ls) (xs := us) (fun i σ H' => ∃ x2 trI, σ = [some (.ref y), some (.ref p), x2] ∧ Le [y, a, b] H H' ∧ Sto T.c_Standing H' y wb a b trI ∧ (thsL trI).Nodup ∧ trI.length ≤ tr.length + i ∧ runT ts rs trI (ss.drop i) = runT ts rs tr ss) ⟨_, tr, rfl, .refl _ _, S, nd, Nat.le_refl _, rfl⟩ (fun i σ H' _ ⟨_, _, _, le, _⟩ => SqL.of (sto_keep S le hls (fun _ h => nomatch h) fun _ _ _ _ h => nomatch h)) ?_ ?_⟩
      · rintro i v σ H1 hv ⟨x2, trI, rfl, le1, S1, nd1, lt1, er1⟩
        obtain ⟨⟨dy1, hy1⟩, _⟩ := id S1
        obtain ⟨pp, s1, rfl, hpp1, W1, l3, k1, k2⟩ := step hv le1 S1 nd1 lt1 er1
        exact ⟨_, rfl, y, dy1, _, rfl, hy1, rfl, _, rfl, y, wb, a, b, pp, x, l, m, trI, ts, rs, s1.1, s1.2, rfl, S1, nd1, l3, W1, hpp1, fun du H2 le2 S2 => by
          obtain ⟨c1, c2, c3, c4⟩ := k1 du H2 le2
          exact ⟨_, actS trI s1.1 s1.2, rfl, c1, S2, c2, c3, c4⟩, k2⟩
      · rintro σ H1 ⟨x2, trI, rfl, le1, S1, nd1, lt1, er1⟩
        rw [lus, List.drop_length] at er1
        exact q (by rw [← er1]; rfl) H1 le1 (by rw [← er1]; exact S1)
end
end My

namespace My
open PySem L2
section
variable {w : World} {K : PySem.W.Frag} {mg : Str → Option Value} {base : Heap}
set_option pp.maxSteps 600 in
theorem ok_Standing_counts (T : Txt K mg) : FnOk PP w K mg base CX0 1 T.a_Standing_counts T.fd_Standing_counts ["self", "parents"] (spStCounts T.c_Standing) := by
  refine T.F_Standing_counts.ok sc_Standing_counts (fun vs H Q E h => ?_) (fun cdv A outer s H vs Q E hr h => ?_)
  · obtain ⟨y, wb, a, b, p, tr, ps, rfl, _⟩ := h; rfl
  · obtain ⟨y, wb, a, b, p, tr, ps, rfl, S, nd, lp, hp, q⟩ := h
    obtain ⟨⟨dy, hy⟩, ha, hb, _⟩ := id S
    rcases hp with hp | hp
    · refine ⟨_, (pss_cons (ps_set (i := 2) sc_Standing_counts.nd rfl (.inl rfl) (pe_int))
      (pss_cons (ps_set (i := 3) sc_Standing_counts.nd rfl (.inl rfl) (pe_int))
      (pss_cons (ps_set (i := 4) sc_Standing_counts.nd rfl (.inl rfl) (pe_int))
      (pss_cons (ps_for PassesOwn.never rfl (pi_list (pv 1)) (pg_name (i := 5) sc_Standing_counts.nd rfl (.inl rfl)) (C8.pss_cut (ps_if (pt_cmpR (op_inKd (hu_of hr)) (pv 5) (pe_fld (pv 0) rfl) (by with_unfolding_all rfl)) (pss_cons (ps_aug (i := 2) sc_Standing_counts.nd rfl (.inl rfl) (pe_int) ip_add)
      (pss_one (ps_if (pt_cmpR op_eq (pe_dget (hu_of hr) (pe_fld (pv 0) rfl) (pv 5) (fun _ _ => rfl)) (pe_str) (nomark _)) (pss_one (ps_aug (i := 3) sc_Standing_counts.nd rfl (.inl rfl) (pe_int) ip_add)) pss_nil))) pss_nil)
      (pss_one (ps_if (pt_cmpR (op_inKd (hu_of hr)) (pv 5) (pe_fld (pv 0) rfl) (by with_unfolding_all rfl)) (pss_one (ps_aug (i := 4) sc_Standing_counts.nd rfl (.inl rfl) (pe_int) ip_add)) pss_nil))))
      (pss_one (ps_ret (pe_tup (pa_cons (pv 2) (pa_cons (pv 3) (pa_cons (pv 4) pa_nil)))))))))), ?_⟩
      refine ⟨_, rfl, p, rfl, ⟨_, SqL.of hp⟩, for_list (K := K) (a := p) (xs := ps.map V.int) (fun i σ H' => ∃ x5, H' = H ∧ σ = [some (.ref y), some (.ref p), some (.int (heldN tr (ps.take i))), some (.int (ownN tr (ps.take i))), some (.int (seenN tr (ps.take i))), x5]) ⟨_, rfl, rfl⟩ (fun i σ H' _ ⟨_, e, _⟩ => SqL.of (by rw [e]; exact hp)) ?_ ?_⟩
      · rintro i v σ H1 hv ⟨x5, rfl, rfl⟩
        obtain ⟨z, hz, rfl⟩ := get_int hv
        have c1 : (heldN tr (ps.take (i + 1)) : Int) = heldN tr (ps.take i) + if (heldAt tr z).isSome = true then 1 else 0 := cnt_succ hz
        have c2 : (ownN tr (ps.take (i + 1)) : Int) = ownN tr (ps.take i) + if decide (wordO (heldAt tr z) = "own") = true then 1 else 0 := cnt_succ hz
        have c3 : (seenN tr (ps.take (i + 1)) : Int) = seenN tr (ps.take i) + if (lkAt tr z).isSome = true then 1 else 0 := cnt_succ hz
        have g1 := DGet.k (k := .inl z) hb
        have g2 := DGet.k (k := .inl z) ha
        rw [valV_hs z tr nd] at g1
        rw [valV_ms z tr] at g2
        refine ⟨fun σ' H' => H' = H1 ∧ σ' = [some (.ref y), some (.ref p), some (.int (heldN tr (ps.take (i + 1)))), some (.int (ownN tr (ps.take (i + 1)))), some (.int (seenN tr (ps.take i))), some (.int z)], ?_, ?_⟩
        · refine ⟨_, rfl, _, rfl, y, _, dy, _, _, rfl, hy, T.cl_Standing, T.no_Standing__holds, st_look3 wb a b _, b, _, rfl, g1, _, rfl, ?_⟩
          cases hh : heldAt tr z with
          | none =>
            rw [hh] at c1 c2
            refine iteNo rfl ⟨rfl, ?_⟩
            rw [c1, c2, show decide (wordO none = ("own" : Str)) = false by decide]
            simp
          | some k =>
            rw [hh] at c1 c2 g1
            refine iteYes rfl ⟨_, rfl, _, _, rfl, rfl, _, rfl, y, _, dy, _, _, rfl, hy, T.cl_Standing, T.no_Standing__holds, st_look3 wb a b _, _, rfl, b, _, rfl, g1, rfl, _, rfl, iteD (fun c => ?_) (fun c => ?_)⟩
            · refine ⟨_, rfl, _, _, rfl, rfl, rfl, ?_⟩
              have c : wordL k.2.1 = "own" := V.str.inj c
              rw [c1, c2]
              simp [wordO, c]
            · refine ⟨rfl, ?_⟩
              have c : wordL k.2.1 ≠ "own" := fun h => c (congrArg V.str h)
              rw [c1, c2]
              simp [wordO, c]
        rintro σ' H2 ⟨rfl, rfl⟩
        refine ⟨_, rfl, _, rfl, y, _, dy, _, _, rfl, hy, T.cl_Standing, T.no_Standing__modes, st_look2 wb a b _, a, _, rfl, g2, _, rfl, ?_⟩
        cases hh : lkAt tr z with
        | none =>
          rw [hh] at c3
          refine iteNo rfl ⟨some (.int z), rfl, ?_⟩
          rw [c3]
          simp
        | some k =>
          rw [hh] at c3
          refine iteYes rfl ⟨_, rfl, _, _, rfl, rfl, some (.int z), rfl, ?_⟩
          rw [c3]
          simp
      · rintro σ H1 ⟨x5, rfl, rfl⟩
        rw [List.length_map, List.take_length]
        exact ⟨_, rfl, _, rfl, _, rfl, by show 3 ≤ sizeLine; decide, fun u hu => q u _ (same_new hu) hu upd_same⟩
    · refine ⟨_, (pss_cons (ps_set (i := 2) sc_Standing_counts.nd rfl (.inl rfl) (pe_int))
      (pss_cons (ps_set (i := 3) sc_Standing_counts.nd rfl (.inl rfl) (pe_int))
      (pss_cons (ps_set (i := 4) sc_Standing_counts.nd rfl (.inl rfl) (pe_int))
      (pss_cons (ps_for PassesOwn.never rfl (pi_tup (pv 1)) (pg_name (i := 5) sc_Standing_counts.nd rfl (.inl rfl)) (C8.pss_cut (ps_if (pt_cmpR (op_inKd (hu_of hr)) (pv 5) (pe_fld (pv 0) rfl) (by with_unfolding_all rfl)) (pss_cons (ps_aug (i := 2) sc_Standing_counts.nd rfl (.inl rfl) (pe_int) ip_add)
      (pss_one (ps_if (pt_cmpR op_eq (pe_dget (hu_of hr) (pe_fld (pv 0) rfl) (pv 5) (fun _ _ => rfl)) (pe_str) (nomark _)) (pss_one (ps_aug (i := 3) sc_Standing_counts.nd rfl (.inl rfl) (pe_int) ip_add)) pss_nil))) pss_nil)
      (pss_one (ps_if (pt_cmpR (op_inKd (hu_of hr)) (pv 5) (pe_fld (pv 0) rfl) (by with_unfolding_all rfl)) (pss_one (ps_aug (i := 4) sc_Standing_counts.nd rfl (.inl rfl) (pe_int) ip_add)) pss_nil))))
      (pss_one (ps_ret (pe_tup (pa_cons (pv 2) (pa_cons (pv 3) (pa_cons (pv 4) pa_nil)))))))))), ?_⟩
      refine ⟨_, rfl, p, rfl, ⟨_, SqT.of hp⟩, for_tup (K := K) (a := p) (xs := ps.map V.int) (fun i σ H' => ∃ x5, H' = H ∧ σ = [some (.ref y), some (.ref p), some (.int (heldN tr (ps.take i))), some (.int (ownN tr (ps.take i))), some (.int (seenN tr (ps.take i))), x5]) ⟨_, rfl, rfl⟩ (fun i σ H' _ ⟨_, e, _⟩ => SqT.of (by rw [e]; exact hp)) ?_ ?_⟩
      · rintro i v σ H1 hv ⟨x5, rfl, rfl⟩
        obtain ⟨z, hz, rfl⟩ := get_int hv
        have c1 : (heldN tr (ps.take (i + 1)) : Int) = heldN tr (ps.take i) + if (heldAt tr z).isSome = true then 1 else 0 := cnt_succ hz
        have c2 : (ownN tr (ps.take (i + 1)) : Int) = ownN tr (ps.take i) + if decide (wordO (heldAt tr z) = "own") = true then 1 else 0 := cnt_succ hz
        have c3 : (seenN tr (ps.take (i + 1)) : Int) = seenN tr (ps.take i) + if (lkAt tr z).isSome = true then 1 else 0 := cnt_succ hz
        have g1 := DGet.k (k := .inl z) hb
        have g2 := DGet.k (k := .inl z) ha
        rw [valV_hs z tr nd] at g1
        rw [valV_ms z tr] at g2
        refine ⟨fun σ' H' => H' = H1 ∧ σ' = [some (.ref y), some (.ref p), some (.int (heldN tr (ps.take (i + 1)))), some (.int (ownN tr (ps.take (i + 1)))), some (.int (seenN tr (ps.take i))), some (.int z)], ?_, ?_⟩
        · refine ⟨_, rfl, _, rfl, y, _, dy, _, _, rfl, hy, T.cl_Standing, T.no_Standing__holds, st_look3 wb a b _, b, _, rfl, g1, _, rfl, ?_⟩
          cases hh : heldAt tr z with
          | none =>
            rw [hh] at c1 c2
            refine iteNo rfl ⟨rfl, ?_⟩
            rw [c1, c2, show decide (wordO none = ("own" : Str)) = false by decide]
            simp
          | some k =>
            rw [hh] at c1 c2 g1
            refine iteYes rfl ⟨_, rfl, _, _, rfl, rfl, _, rfl, y, _, dy, _, _, rfl, hy, T.cl_Standing, T.no_Standing__holds, st_look3 wb a b _, _, rfl, b, _, rfl, g1, rfl, _, rfl, iteD (fun c => ?_) (fun c => ?_)⟩
            · refine ⟨_, rfl, _, _, rfl, rfl, rfl, ?_⟩
              have c : wordL k.2.1 = "own" := V.str.inj c
              rw [c1, c2]
              simp [wordO, c]
            · refine ⟨rfl, ?_⟩
              have c : wordL k.2.1 ≠ "own" := fun h => c (congrArg V.str h)
              rw [c1, c2]
              simp [wordO, c]
        rintro σ' H2 ⟨rfl, rfl⟩
        refine ⟨_, rfl, _, rfl, y, _, dy, _, _, rfl, hy, T.cl_Standing, T.no_Standing__modes, st_look2 wb a b _, a, _, rfl, g2, _, rfl, ?_⟩
        cases hh : lkAt tr z with
        | none =>
          rw [hh] at c3
          refine iteNo rfl ⟨some (.int z), rfl, ?_⟩
          rw [c3]
          simp
        | some k =>
          rw [hh] at c3
          refine iteYes rfl ⟨_, rfl, _, _, rfl, rfl, some (.int z), rfl, ?_⟩
          rw [c3]
          simp
      · rintro σ H1 ⟨x5, rfl, rfl⟩
        rw [List.length_map, List.take_length]
        exact ⟨_, rfl, _, rfl, _, rfl, by show 3 ≤ sizeLine; decide, fun u hu => q u _ (same_new hu) hu upd_same⟩
end
end My

namespace My
open PySem L2
def newL (tr : List Lk) : List Lk := tr.map fun k => (k.1, k.2.1, false)
def halfL (tr : List Lk) (i : Nat) : List Lk := tr.take i ++ newL (tr.drop i)
structure TakeOk (ts : List Th) (rs : List Row) (tr : List Lk) : Prop where
  nd : (thsL tr).Nodup
  inw : ∀ k ∈ tr, inW ts k.1
  sh : ∀ k ∈ tr, k.2.1 = false → sharedW rs ts k.1 = true
theorem thsL_new (tr : List Lk) : thsL (newL tr) = thsL tr := by unfold thsL newL; rw [List.map_map]; rfl
theorem newL_succ {tr : List Lk} {i : Nat} {k : Lk} (h : tr[i]? = some k) : newL (tr.take (i + 1)) = newL (tr.take i) ++ [(k.1, k.2.1, false)] := by
  unfold newL; rw [List.take_add_one, h, List.map_append]; rfl
theorem key_at {tr : List Lk} {i : Nat} {k : Lk} (nd : (thsL tr).Nodup) (h : tr[i]? = some k) : k.1 ∉ thsL (tr.take i) ∧ k.1 ∉ thsL (tr.drop (i + 1)) := by
  have hi := (List.getElem?_eq_some_iff.mp h).1
  have e : tr = tr.take i ++ k :: tr.drop (i + 1) := by
    have := (List.take_append_drop i tr).symm
    rw [List.drop_eq_getElem_cons hi, (List.getElem?_eq_some_iff.mp h).2] at this
    exact this
  have e2 : thsL tr = thsL (tr.take i) ++ k.1 :: thsL (tr.drop (i + 1)) := by
    conv => lhs; rw [e]
    unfold thsL; rw [List.map_append]; rfl
  rw [e2] at nd
  obtain ⟨_, n2, n3⟩ := List.nodup_append.mp nd
  exact ⟨fun m => n3 _ m _ (List.mem_cons_self ..) rfl, (List.nodup_cons.mp n2).1⟩
theorem word_deed (o : Bool) : deedOk (wordL o) ∧ wordL o ≠ "drop" ∧ decide (wordL o = "own") = o := by
  cases o
  · exact ⟨.inr (.inl rfl), by decide, by decide⟩
  · exact ⟨.inl rfl, by decide, by decide⟩
theorem due_lockN {ts : List Th} {rs : List Row} {tr : List Lk} {o : Bool} {t : Int} (i : inW ts t) (n : t ∉ thsL tr) (h : o = false → sharedW rs ts t = true) : dueS ts rs tr (wordL o) t = none := by
  obtain ⟨a, b, _⟩ := word_deed o
  rw [due_lock a i b, lkAt_none.mpr n, if_neg (by simp), if_neg]
  rintro ⟨z, f⟩
  cases o with
  | true => exact absurd z (by decide)
  | false => rw [h rfl] at f; cases f
theorem act_lock {tr : List Lk} {o : Bool} {t : Int} : actS tr (wordL o) t = tr ++ [(t, o, false)] := by
  obtain ⟨_, b, c⟩ := word_deed o
  unfold actS
  rw [if_neg b, c]
theorem half_zero (tr : List Lk) : halfL tr 0 = newL tr := by unfold halfL; rw [List.take_zero, List.drop_zero, List.nil_append]
theorem half_all (tr : List Lk) : halfL tr tr.length = tr := by unfold halfL newL; rw [List.take_length, List.drop_length]; simp
theorem thsL_half (tr : List Lk) (i : Nat) : thsL (halfL tr i) = thsL tr := by
  unfold halfL
  have : thsL (tr.take i ++ newL (tr.drop i)) = thsL (tr.take i) ++ thsL (newL (tr.drop i)) := by unfold thsL; rw [List.map_append]
  rw [this, thsL_new]
  unfold thsL
  rw [← List.map_append, List.take_append_drop]
theorem half_len (tr : List Lk) (i : Nat) : (halfL tr i).length = tr.length := by
  have := congrArg List.length (thsL_half tr i)
  unfold thsL at this
  rw [List.length_map, List.length_map] at this
  exact this
theorem half_at {tr : List Lk} {i : Nat} {k : Lk} (h : tr[i]? = some k) : halfL tr i = tr.take i ++ (k.1, k.2.1, false) :: newL (tr.drop (i + 1)) ∧ halfL tr (i + 1) = tr.take i ++ k :: newL (tr.drop (i + 1)) := by
  have hi := (List.getElem?_eq_some_iff.mp h).1
  constructor
  · unfold halfL
    rw [List.drop_eq_getElem_cons hi, (List.getElem?_eq_some_iff.mp h).2]
    rfl
  · unfold halfL
    rw [List.take_add_one, h]
    simp
theorem half_keep {tr : List Lk} {i : Nat} {k : Lk} (h : tr[i]? = some k) (d : k.2.2 = false) : halfL tr (i + 1) = halfL tr i := by
  obtain ⟨e1, e2⟩ := half_at h
  rw [e1, e2]
  obtain ⟨a, b, c⟩ := k
  have d : c = false := d
  rw [d]
theorem drop_id {l : List Lk} {t : Int} (n : t ∉ thsL l) : dropT l t = l := by
  unfold dropT
  conv => rhs; rw [← List.map_id l]
  refine List.map_congr_left fun k hk => ?_
  rw [if_neg (fun e => n (List.mem_map.mpr ⟨k, hk, e⟩))]; rfl
theorem half_drop {tr : List Lk} (nd : (thsL tr).Nodup) {i : Nat} {k : Lk} (h : tr[i]? = some k) (d : k.2.2 = true) : actS (halfL tr i) "drop" k.1 = halfL tr (i + 1) := by
  obtain ⟨e1, e2⟩ := half_at h
  obtain ⟨n1, n2⟩ := key_at nd h
  show dropT (halfL tr i) k.1 = _
  rw [e1, e2]
  have ap : ∀ l r : List Lk, dropT (l ++ r) k.1 = dropT l k.1 ++ dropT r k.1 := fun l r => by unfold dropT; rw [List.map_append]
  have n2' : k.1 ∉ thsL (newL (tr.drop (i + 1))) := by rw [thsL_new]; exact n2
  rw [ap, drop_id n1, show dropT ((k.1, k.2.1, false) :: newL (tr.drop (i + 1))) k.1 = (k.1, k.2.1, true) :: dropT (newL (tr.drop (i + 1))) k.1 by unfold dropT; rw [List.map_cons, if_pos rfl], drop_id n2']
  obtain ⟨a, b, c⟩ := k
  have d : c = true := d
  rw [d]
theorem half_due {ts : List Th} {rs : List Row} {tr : List Lk} (O : TakeOk ts rs tr) {i : Nat} {k : Lk} (h : tr[i]? = some k) : dueS ts rs (halfL tr i) "drop" k.1 = none := by
  rw [due_drop (O.inw k (List.mem_of_getElem? h))]
  obtain ⟨e1, _⟩ := half_at h
  have nd : (thsL (halfL tr i)).Nodup := by rw [thsL_half]; exact O.nd
  have m : ((k.1, k.2.1, false) : Lk) ∈ halfL tr i := by rw [e1]; simp
  have := lkAt_mem nd m
  have e : (heldAt (halfL tr i) k.1).isSome = true := by
    unfold heldAt
    rw [show lkAt (halfL tr i) k.1 = some (k.1, k.2.1, false) from this]
    rfl
  rw [if_pos e]
theorem held_flag {tr : List Lk} (nd : (thsL tr).Nodup) {k : Lk} (h : k ∈ tr) : (heldAt tr k.1).isSome = !k.2.2 := by
  unfold heldAt
  rw [lkAt_mem nd h]
  cases d : k.2.2 <;> simp [Option.filter, d]
theorem OnW.kp {Cw Cs : Addr} {H H' : Hp} {w x l m : Addr} {ts : List Th} {rs : List Row} (W : OnW Cw Cs H w x l m ts rs) (k : ∀ a o, H a = some o → (∀ xs, o ≠ .dK xs) → H' a = some o) : OnW Cw Cs H' w x l m ts rs := by
  obtain ⟨⟨⟨dw, hw⟩, ⟨vs, hl, hv⟩, hm, ne⟩, ⟨dx, l1, m1, us, hx, hl1, hr, hm1⟩, kn⟩ := W
  have tp : ∀ a xs, H a = some (.tup xs) → H' a = some (.tup xs) := fun a xs e => k _ _ e fun _ h => nomatch h
  have lp : ∀ a xs, H a = some (.lst xs) → H' a = some (.lst xs) := fun a xs e => k _ _ e fun _ h => nomatch h
  exact ⟨⟨⟨dw, k _ _ hw (fun _ h => nomatch h)⟩, ⟨vs, lp _ _ hl, thsV_keep hv tp⟩, lp _ _ hm, ne⟩, ⟨dx, l1, m1, us, k _ _ hx (fun _ h => nomatch h), lp _ _ hl1, rowsT_keep hr tp, lp _ _ hm1⟩, kn⟩
theorem make_st {C : Addr} {H : Hp} {x : Addr} {R : Addr → VK} {E : XK} (q : ∀ y a b H', Same H H' → H y = none → H a = none → H b = none → Sto C H' y x a b [] → R y .non H') :
    ∀ y dy, H y = none → H dy = none → dy ≠ y → spStInit C (.ref y :: ([.ref x] ++ [])) (upd (upd H dy (.own y)) y (.ins C dy [])) (R y) E := fun y dy ny nd _ => by
  have s1 : Same H (upd (upd H dy (.own y)) y (.ins C dy [])) := fun a o h => by rw [upd_ne (ne_of_none h ny), upd_ne (ne_of_none h nd)]; exact h
  exact ⟨y, dy, x, rfl, upd_same, fun a b H' bu na nb w => q y a b H' (fun c o h => bu c o (ne_of_none h ny) (s1 _ _ h)) ny (s1.free na) (s1.free nb) w⟩
def spStCopy (C Cw Cs : Addr) : Sp := fun vs H Q _ => ∃ (y w a b x l m : Addr) (tr : List Lk) (ts : List Th) (rs : List Row), vs = [.ref y] ∧ Sto C H y w a b tr ∧ TakeOk ts rs tr ∧ tr.length ≤ 900 ∧ OnW Cw Cs H w x l m ts rs ∧
  ∀ y' a' b' H', Same H H' → H y' = none → H a' = none → H b' = none → Sto C H' y' w a' b' tr → Q (.ref y') H'
section
variable {w : World} {K : PySem.W.Frag} {mg : Str → Option Value} {base : Heap}
set_option pp.maxSteps 600 in
theorem ok_Standing_copy (T : Txt K mg) : FnOk PP w K mg base CX0 10 T.a_Standing_copy T.fd_Standing_copy ["self"] (spStCopy T.c_Standing T.c_Web T.c_Shape) := by
  refine T.F_Standing_copy.ok sc_Standing_copy (fun vs H Q E h => ?_) (fun cdv A outer s H vs Q E hr h => ?_)
  · obtain ⟨y, wb, a, b, x, l, m, tr, ts, rs, rfl, _⟩ := h; rfl
  · obtain ⟨y, wb, a, b, x, l, m, tr, ts, rs, rfl, S, O, lt, W, q⟩ := h
    refine ⟨_, (pss_cons (ps_set (i := 1) sc_Standing_copy.nd rfl (.inl rfl) (pe_make T.mk_Standing (ok_Standing_init T) (hr.mono (by omega)) (by rfl) T.g_Standing T.b_Standing_init .nil pass0 (pa_cons (pe_fld (pv 0) rfl) pa_nil)))
      (pss_cons (ps_lock (ps_for PassesOwn.never rfl (pi_items (pe_fld (pv 0) rfl)) (pg_tup rfl (pgs_cons (pg_name (i := 2) sc_Standing_copy.nd rfl (.inl rfl)) (pgs_cons (pg_name (i := 3) sc_Standing_copy.nd rfl (.inl rfl)) pgs_nil))) (pss_one (ps_expr (pe_meth (pv 1) T.cl_Standing T.m_Standing_take ((ok_Standing_take T).calm) (hr.mono (by omega)) T.b_Standing_take .nil pass0 (pa_cons (pe_tup (pa_cons (pv 3) (pa_cons (pv 2) pa_nil))) pa_nil))))))
      (pss_cons (ps_lock (ps_for PassesOwn.never rfl (pi_keys (pe_fld (pv 0) rfl)) (pg_name (i := 2) sc_Standing_copy.nd rfl (.inl rfl)) (pss_one (ps_if (pt_cmpR (op_ninKd (hu_of hr)) (pv 2) (pe_fld (pv 0) rfl) (by with_unfolding_all rfl)) (pss_one (ps_expr (pe_meth (pv 1) T.cl_Standing T.m_Standing_take ((ok_Standing_take T).calm) (hr.mono (by omega)) T.b_Standing_take .nil pass0 (pa_cons (pe_tup (pa_cons (pe_str) (pa_cons (pv 2) pa_nil))) pa_nil)))) pss_nil))))
      (pss_one (ps_ret (pv 1)))))), ?_⟩
    obtain ⟨⟨dy, hy⟩, ha, hb, nab⟩ := id S
    refine ⟨_, rfl, y, _, dy, _, _, rfl, hy, T.cl_Standing, T.no_Standing_web, st_look1 wb a b _, make_st fun y1 a1 b1 H1 s1 ny na nb S1 => ⟨rfl, ?_⟩⟩
    have oldX : ∀ {c : Addr} {o : HO}, H c = some o → c ∉ [y1, a1, b1] := fun h m => by
      simp only [List.mem_cons, List.not_mem_nil, or_false] at m
      rcases m with rfl | rfl | rfl
      · rw [ny] at h; cases h
      · rw [na] at h; cases h
      · rw [nb] at h; cases h
    have lm : (msOf tr).length = tr.length := by unfold msOf; rw [List.length_map]
    have nay : a ∉ [y1, a1, b1] := oldX ha
    have nya : y1 ≠ a := fun e => nay (by rw [e]; simp)
    have na1 : a1 ≠ a := fun e => nay (by rw [e]; simp)
    have nb1 : b1 ≠ a := fun e => nay (by rw [e]; simp)
    have nyy : y ≠ a := ne_of hy ha (by intro z; cases z)
    have kpW : ∀ {H2 : Hp}, But a H H2 → OnW T.c_Web T.c_Shape H2 wb x l m ts rs := fun bu => W.kp fun c o h n => bu c o (fun e => by rw [e, ha] at h; exact n _ (Option.some.inj h).symm) h
    -- the locks
    refine ⟨a, _, s1 _ _ ha, trivial, fun od => ?_⟩
    refine ⟨_, rfl, y, _, dy, _, _, rfl, by rw [upd_ne nyy]; exact s1 _ _ hy, T.cl_Standing, T.no_Standing__modes, st_look2 wb a b _, a, od, _, rfl, upd_same, ?_⟩
    refine for_it walk_items (fun i σ H' => ∃ x2 x3, σ = [some (.ref y), some (.ref y1), x2, x3] ∧ But a H H' ∧ H' a = some (.frz od (.dK (msOf tr))) ∧ Sto T.c_Standing H' y1 wb a1 b1 (newL (tr.take i))) ⟨_, _, rfl, fun c o n h => by rw [upd_ne n]; exact s1 _ _ h, upd_same, S1.keep (fun o e => by rw [upd_ne nya]; exact e) (fun o e => by rw [upd_ne na1]; exact e) (fun o e => by rw [upd_ne nb1]; exact e)⟩ (fun i σ H' _ ⟨_, _, _, _, h, _⟩ => h) ?_ ?_
    · rintro i v σ H2 H3 hi ⟨x2, x3, rfl, bu, hf, S2⟩ ⟨P, c1, c2, rfl, nP, rfl, e1, e2⟩
      rw [lm] at hi
      obtain ⟨k, hk⟩ : ∃ k, tr[i]? = some k := ⟨_, List.getElem?_eq_getElem hi⟩
      have ek : (msOf tr)[i]? = some (kvL k) := by unfold msOf; rw [List.getElem?_map, hk]; rfl
      have e1 : ((msOf tr)[i]?).map (fun kv => kV kv.1) = some c1 := e1
      have e2 : ((msOf tr)[i]?).map Prod.snd = some c2 := e2
      rw [ek] at e1 e2
      obtain rfl := Option.some.inj e1
      obtain rfl := Option.some.inj e2
      have s3 := same_new (o := .tup [kV (kvL k).1, (kvL k).2]) nP
      have hP : (upd H2 P (.tup [kV (kvL k).1, (kvL k).2])) P = some (.tup [.int k.1, .str (wordL k.2.1)]) := upd_same
      have bu3 := bu.trans (But.of_same s3)
      have hf3 := s3 _ _ hf
      have S3 := S2.same s3
      revert s3 hP bu3 hf3 S3
      generalize upd H2 P (.tup [kV (kvL k).1, (kvL k).2]) = H3
      intro s3 hP bu3 hf3 S3
      obtain ⟨⟨dz, hz⟩, _⟩ := id S3
      have mk := List.mem_of_getElem? hk
      have n1 : k.1 ∉ thsL (newL (tr.take i)) := by rw [thsL_new]; exact (key_at O.nd hk).1
      have du : dueS ts rs (newL (tr.take i)) (wordL k.2.1) k.1 = none := due_lockN (O.inw k mk) n1 (O.sh k mk)
      have nd0 : (thsL (newL (tr.take i))).Nodup := by
        rw [thsL_new]
        have := O.nd
        unfold thsL at this ⊢
        rw [List.map_take]
        exact this.sublist (List.take_sublist _ _)
      refine ⟨P, _, rfl, SqT.of hP, rfl, _, _, rfl, _, _, rfl, rfl, _, rfl, y1, dz, _, rfl, hz, rfl, _, rfl, _, rfl, by show 2 ≤ sizeLine; decide, fun u hu => ?_⟩
      have s4 := same_new (o := .tup [.str (wordL k.2.1), .int k.1]) hu
      refine ⟨y1, wb, a1, b1, u, x, l, m, newL (tr.take i), ts, rs, wordL k.2.1, k.1, rfl, S3.same s4, nd0, by unfold newL; rw [List.length_map, List.length_take]; omega, kpW (bu3.trans (But.of_same s4)), .inr upd_same, fun _ H5 le5 S5 => ?_, fun e h => by rw [du] at h; cases h⟩
      rw [act_lock, ← newL_succ hk] at S5
      exact ⟨_, _, rfl, fun c o n h => le5 _ _ (oldX h) (s4 _ _ (bu3 _ _ n h)), le5 _ _ nay (s4 _ _ hf3), S5⟩
    rintro σ H2 ⟨x2, x3, rfl, bu, hf, S2⟩
    rw [lm, List.take_length] at S2
    refine ⟨hf, ?_⟩
    have bu2 : But a H (upd H2 a (.dK (msOf tr))) := fun c o n h => by rw [upd_ne n]; exact bu _ _ n h
    have S3 : Sto T.c_Standing (upd H2 a (.dK (msOf tr))) y1 wb a1 b1 (newL tr) := S2.keep (fun o e => by rw [upd_ne nya]; exact e) (fun o e => by rw [upd_ne na1]; exact e) (fun o e => by rw [upd_ne nb1]; exact e)
    have h3 : (upd H2 a (.dK (msOf tr))) a = some (.dK (msOf tr)) := upd_same
    revert bu2 S3 h3
    generalize upd H2 a (.dK (msOf tr)) = H3
    intro bu2 S3 h3
    -- the drops
    refine ⟨a, _, h3, trivial, fun od2 => ?_⟩
    refine ⟨_, rfl, y, _, dy, _, _, rfl, by rw [upd_ne nyy]; exact bu2 _ _ nyy hy, T.cl_Standing, T.no_Standing__modes, st_look2 wb a b _, a, od2, rfl, .inl ⟨_, upd_same, ?_⟩⟩
    refine for_it walk_keys (fun i σ H' => ∃ x2 x3, σ = [some (.ref y), some (.ref y1), x2, x3] ∧ But a H H' ∧ H' a = some (.frz od2 (.dK (msOf tr))) ∧ Sto T.c_Standing H' y1 wb a1 b1 (halfL tr i)) ⟨_, _, rfl, fun c o n h => by rw [upd_ne n]; exact bu2 _ _ n h, upd_same, by
      rw [half_zero]
      exact S3.keep (fun o e => by rw [upd_ne nya]; exact e) (fun o e => by rw [upd_ne na1]; exact e) (fun o e => by rw [upd_ne nb1]; exact e)⟩ (fun i σ H' _ ⟨_, _, _, _, h, _⟩ => h) ?_ ?_
    · rintro i v σ H4 H5 hi ⟨x2, x3, rfl, bu4, hf4, S4⟩ ⟨rfl, kk, vv, e1, rfl⟩
      rw [lm] at hi
      obtain ⟨k, hk⟩ : ∃ k, tr[i]? = some k := ⟨_, List.getElem?_eq_getElem hi⟩
      have ek : (msOf tr)[i]? = some (kvL k) := by unfold msOf; rw [List.getElem?_map, hk]; rfl
      rw [ek] at e1
      obtain ⟨rfl, rfl⟩ := Prod.mk.inj (Option.some.inj e1)
      have mk := List.mem_of_getElem? hk
      have g1 := DGet.k (k := .inl k.1) (bu4 _ _ nab.symm hb)
      rw [valV_hs k.1 tr O.nd] at g1
      refine ⟨_, rfl, _, rfl, y, _, dy, _, _, rfl, bu4 _ _ nyy hy, T.cl_Standing, T.no_Standing__holds, st_look3 wb a b _, b, _, rfl, g1, _, rfl, ?_⟩
      have hfl := held_flag O.nd mk
      obtain ⟨⟨dz, hz⟩, _⟩ := id S4
      cases hh : heldAt tr k.1 with
      | some k' =>
        rw [hh] at hfl
        have d : k.2.2 = false := by cases e : k.2.2 with
          | false => rfl
          | true => rw [e] at hfl; cases hfl
        refine iteNo rfl ⟨_, _, rfl, bu4, hf4, ?_⟩
        rw [half_keep hk d]; exact S4
      | none =>
        rw [hh] at hfl
        have d : k.2.2 = true := by cases e : k.2.2 with
          | true => rfl
          | false => rw [e] at hfl; cases hfl
        refine iteYes rfl ⟨_, rfl, y1, dz, _, rfl, hz, rfl, _, rfl, by show 2 ≤ sizeLine; decide, fun u hu => ?_⟩
        have s4 := same_new (o := .tup [.str "drop", .int k.1]) hu
        have du := half_due O hk
        refine ⟨y1, wb, a1, b1, u, x, l, m, halfL tr i, ts, rs, "drop", k.1, rfl, S4.same s4, by rw [thsL_half]; exact O.nd, by rw [half_len]; omega, kpW (bu4.trans (But.of_same s4)), .inr upd_same, fun _ H6 le6 S6 => ?_, fun e h => by rw [du] at h; cases h⟩
        rw [half_drop O.nd hk d] at S6
        exact ⟨_, _, rfl, fun c o n h => le6 _ _ (oldX h) (s4 _ _ (bu4 _ _ n h)), le6 _ _ nay (s4 _ _ hf4), S6⟩
    rintro σ H4 ⟨x2, x3, rfl, bu4, hf4, S4⟩
    rw [lm, half_all] at S4
    refine ⟨hf4, _, rfl, ?_⟩
    refine q y1 a1 b1 _ (fun c o h => ?_) ny na nb (S4.keep (fun o e => by rw [upd_ne nya]; exact e) (fun o e => by rw [upd_ne na1]; exact e) (fun o e => by rw [upd_ne nb1]; exact e))
    by_cases n : c = a
    · rw [n] at h ⊢; rw [upd_same, ← h, ha]
    · rw [upd_ne n]; exact bu4 _ _ n h
end
end My

namespace My
open PySem L2
theorem code_own {tr : List Lk} {t : Int} : codeL (lkAt tr t) = 1 ↔ decide (wordO (heldAt tr t) = "own") = true := by
  unfold heldAt
  cases e : lkAt tr t with
  | none => simp (decide := true) [codeL, wordO, Option.filter]
  | some k =>
    obtain ⟨a, o, d⟩ := k
    cases o <;> cases d <;> simp (decide := true) [codeL, Option.filter, wordO, wordL]
theorem filt_succ {f : Int → Bool} {ps : List Int} {i : Nat} {z : Int} (h : ps[i]? = some z) : (ps.take (i + 1)).filter f = (ps.take i).filter f ++ if f z = true then [z] else [] := by
  rw [List.take_add_one, h, List.filter_append]
  by_cases c : f z = true <;> simp [c]
theorem filt_len {f : Int → Bool} {ps : List Int} (i : Nat) : ((ps.take i).filter f).length ≤ ps.length := Nat.le_trans (List.length_filter_le _ _) (by rw [List.length_take]; omega)
theorem mtsN_sub {A B : List Addr} {H : Hp} {us : List V} {u : List Th} (h : MtsN A H us u) (s : ∀ a ∈ B, a ∈ A) : MtsN B H us u := L2.Paired.mapP h fun _ _ ⟨p, pp, e, a, b, x⟩ => ⟨p, pp, e, fun h => a (s _ h), fun h => b (s _ h), x⟩
def spLCounts : Sp := fun vs H Q _ => ∃ (s p : Addr) (tr : List Lk) (n : Nat) (ps : List Int), vs = [.ref s, .ref p] ∧ H s = some (.lst (stV tr n)) ∧ H p = some (.lst (ps.map V.int)) ∧ ps.length ≤ 900 ∧ (∀ z ∈ ps, 0 ≤ z ∧ z < (n : Int)) ∧
  ∀ u H', Same H H' → H u = none → H' u = some (.lst [.int (heldN tr ps), .int (ownN tr ps), .int (seenN tr ps)]) → Q (.ref u) H'
/-! ### the law's walk of a row of steps -/
def DueR (N : Addr → Prop) (H : Hp) (u : Addr) : Option (Stp × SE) → Prop
  | none => DueL N H u "" 0 none
  | some (s, e) => DueL N H u s.1 s.2 (some e)
def spLWalk (K : PySem.W.Frag) : Sp := fun vs H Q _ => ∃ (R M s o p : Addr) (ws us vs' : List V) (rs : List Row) (ts : List Th) (tr : List Lk) (ss : List Stp), vs = [.ref R, .ref M, .ref s, .ref o, .ref p] ∧ H R = some (.lst ws) ∧ R ∉ [s, o] ∧ RowsN (fun a => a ∉ [s, o]) true H ws rs ∧ H M = some (.lst us) ∧ M ∉ [s, o] ∧ MtsN [s, o] H us ts ∧ us.length ≤ 900 ∧
  H s = some (.lst (stV tr ts.length)) ∧ H o = some (.lst ((thsL tr).map V.int)) ∧ s ≠ o ∧ H p = some (.lst vs') ∧ p ∉ [s, o] ∧ Stps H vs' ss ∧ (thsL tr).Nodup ∧ tr.length + ss.length ≤ 900 ∧
  ∀ u H', Le [s, o] H H' → H u = none → H' s = some (.lst (stV (runT ts rs tr ss).1 ts.length)) → H' o = some (.lst ((thsL (runT ts rs tr ss).1).map V.int)) → DueR (NewIn H) H' u (runT ts rs tr ss).2 → Q (.ref u) H'
section
variable {P : Program} {w : World} {K : PySem.W.Frag} {mg : Str → Option Value} {base : Heap}
set_option maxHeartbeats 16000000 in
set_option pp.maxSteps 600 in
theorem ok__law_counts (T : Txt K mg) : FnOk P w K mg base CX0 1 T.a__law_counts T.fd__law_counts ["_law_state", "_law_parents"] spLCounts := by
  refine T.F__law_counts.ok sc__law_counts (fun vs H Q E h => ?_) (fun cdv A outer s H vs Q E hr h => ?_)
  · obtain ⟨s, p, tr, n, ps, rfl, _⟩ := h; rfl
  · obtain ⟨s, p, tr, n, ps, rfl, hs, hp, lp, rg, q⟩ := h
    refine ⟨_, (pss_cons (ps_set (i := 2) sc__law_counts.nd rfl (.inl rfl) (pe_callB call_len_seq (by rfl) T.n_len (by decide +kernel) (pa_cons (pe_lc (own := [("_law_x", 3)]) (g := (gName 3)) (by rfl) sc__law_counts.nd (pi_list (pv 1)) (blkOk_by (own := [("_law_x", 3)]) (N := ["_law_state", "_law_parents", "_law_held", "_law_x", "_law_owned", "_law_seen"]) (sc := defScope S__law_counts) (by decide +kernel)) (fun _ _ _ _ _ => (pg_name (i := 3) sc__law_counts.nd rfl (by first | exact .inl rfl | exact .inr rfl))) (fun _ _ _ _ _ => (pts_one (PW.pt (pw_or (pt_cmpR op_eq (pe_ix (ixLK (K := K) rfl) (pv 0) (pv 3) (fun _ _ => rfl)) (pe_int) (nomark _)) (pw_or1 (pt_cmpR op_eq (pe_ix (ixLK (K := K) rfl) (pv 0) (pv 3) (fun _ _ => rfl)) (pe_int) (nomark _))))))) (fun _ _ _ _ _ => (pv 3))) pa_nil)))
      (pss_cons (ps_set (i := 4) sc__law_counts.nd rfl (.inl rfl) (pe_callB call_len_seq (by rfl) T.n_len (by decide +kernel) (pa_cons (pe_lc (own := [("_law_x", 3)]) (g := (gName 3)) (by rfl) sc__law_counts.nd (pi_list (pv 1)) (blkOk_by (own := [("_law_x", 3)]) (N := ["_law_state", "_law_parents", "_law_held", "_law_x", "_law_owned", "_law_seen"]) (sc := defScope S__law_counts) (by decide +kernel)) (fun _ _ _ _ _ => (pg_name (i := 3) sc__law_counts.nd rfl (by first | exact .inl rfl | exact .inr rfl))) (fun _ _ _ _ _ => (pts_one (pt_cmpR op_eq (pe_ix (ixLK (K := K) rfl) (pv 0) (pv 3) (fun _ _ => rfl)) (pe_int) (nomark _)))) (fun _ _ _ _ _ => (pv 3))) pa_nil)))
      (pss_cons (ps_set (i := 5) sc__law_counts.nd rfl (.inl rfl) (pe_callB call_len_seq (by rfl) T.n_len (by decide +kernel) (pa_cons (pe_lc (own := [("_law_x", 3)]) (g := (gName 3)) (by rfl) sc__law_counts.nd (pi_list (pv 1)) (blkOk_by (own := [("_law_x", 3)]) (N := ["_law_state", "_law_parents", "_law_held", "_law_x", "_law_owned", "_law_seen"]) (sc := defScope S__law_counts) (by decide +kernel)) (fun _ _ _ _ _ => (pg_name (i := 3) sc__law_counts.nd rfl (by first | exact .inl rfl | exact .inr rfl))) (fun _ _ _ _ _ => (pts_one (pt_cmpR op_gt (pe_ix (ixLK (K := K) rfl) (pv 0) (pv 3) (fun _ _ => rfl)) (pe_int) (nomark _)))) (fun _ _ _ _ _ => (pv 3))) pa_nil)))
      (pss_one (ps_ret (pe_lst (pa_cons (pv 2) (pa_cons (pv 4) (pa_cons (pv 5) pa_nil))))))))), ?_⟩
    have big : 100000 < sizeLine := by decide
    have cell : ∀ {i : Nat} {v : V}, (ps.map V.int)[i]? = some v → ∃ z, ps[i]? = some z ∧ v = .int z ∧ atI (stV tr n) z = some (.int (codeL (lkAt tr z))) := fun {i v} h => by
      obtain ⟨z, hz, rfl⟩ := get_int h
      obtain ⟨r0, r1⟩ := rg z (List.mem_of_getElem? hz)
      obtain ⟨j, ej⟩ := Int.eq_ofNat_of_zero_le r0
      exact ⟨z, hz, rfl, by rw [ej]; exact atI_nat (stV_at (by omega))⟩
    refine ⟨_, rfl, p, rfl, ⟨_, SqL.of hp⟩, fun D hD => lc_list (K := K) (a := p) (xs := ps.map V.int) (fun i H' => Same H H' ∧ H' D = some (.lst (((ps.take i).filter fun z => (heldAt tr z).isSome).map V.int))) ⟨same_new hD, upd_same⟩ (fun i H' _ h => SqL.of (h.1 _ _ hp)) ?_ ?_⟩
    · rintro i v H1 hv ⟨s1, h1⟩
      obtain ⟨z, hz, rfl, hat⟩ := cell hv
      have l2 := filt_len (f := fun z => (heldAt tr z).isSome) (ps := ps) i
      have e1 := filt_succ (f := fun z => (heldAt tr z).isSome) hz
      refine ⟨rfl, _, rfl, _, rfl, _, _, _, _, rfl, rfl, SqL.of (s1 _ _ hs), hat, rfl, _, rfl, iteD (fun c => ?_) (fun c => ⟨_, rfl, _, rfl, _, _, _, _, rfl, rfl, SqL.of (s1 _ _ hs), hat, rfl, _, rfl, iteD (fun c2 => ?_) (fun c2 => ?_)⟩)⟩
      · have f := code_held.mp (.inl (V.int.inj c))
        exact iteT ⟨_, rfl, _, h1, by rw [List.length_map]; omega, same_mut s1 hD, by rw [upd_same, ints_app, e1, if_pos f]⟩
      · have f := code_held.mp (.inr (V.int.inj c2))
        exact ⟨_, rfl, _, h1, by rw [List.length_map]; omega, same_mut s1 hD, by rw [upd_same, ints_app, e1, if_pos f]⟩
      · have f : ¬ (heldAt tr z).isSome = true := fun h => (code_held.mpr h).elim (fun e => c (by rw [e])) (fun e => c2 (by rw [e]))
        exact ⟨s1, by rw [e1, if_neg f, List.append_nil]; exact h1⟩
    rintro H1 ⟨s1, h1⟩
    rw [List.length_map, List.take_length] at h1
    refine ⟨D, _, rfl, .inl (SqL.of h1), ?_⟩
    rw [List.length_map]
    have hp1 := s1 _ _ hp
    have hs1 := s1 _ _ hs
    refine ⟨_, rfl, p, rfl, ⟨_, SqL.of hp1⟩, fun D2 hD2 => lc_list (K := K) (a := p) (xs := ps.map V.int) (fun i H' => Same H1 H' ∧ H' D2 = some (.lst (((ps.take i).filter fun z => decide (wordO (heldAt tr z) = "own")).map V.int))) ⟨same_new hD2, upd_same⟩ (fun i H' _ h => SqL.of (h.1 _ _ hp1)) ?_ ?_⟩
    · rintro i v H2 hv ⟨s2, h2⟩
      obtain ⟨z, hz, rfl, hat⟩ := cell hv
      have l2 := filt_len (f := fun z => decide (wordO (heldAt tr z) = "own")) (ps := ps) i
      have e1 := filt_succ (f := fun z => decide (wordO (heldAt tr z) = "own")) hz
      refine ⟨rfl, _, rfl, _, rfl, _, _, _, _, rfl, rfl, SqL.of (s2 _ _ hs1), hat, rfl, _, rfl, iteD (fun c => ?_) (fun c => ?_)⟩
      · have f := code_own.mp (V.int.inj c)
        exact ⟨_, rfl, _, h2, by rw [List.length_map]; omega, same_mut s2 hD2, by rw [upd_same, ints_app, e1, if_pos f]⟩
      · have f : ¬ decide (wordO (heldAt tr z) = "own") = true := fun h => c (by rw [code_own.mpr h])
        exact ⟨s2, by rw [e1, if_neg f, List.append_nil]; exact h2⟩
    rintro H2 ⟨s2, h2⟩
    rw [List.length_map, List.take_length] at h2
    refine ⟨D2, _, rfl, .inl (SqL.of h2), ?_⟩
    rw [List.length_map]
    have hp2 := s2 _ _ hp1
    have hs2 := s2 _ _ hs1
    refine ⟨_, rfl, p, rfl, ⟨_, SqL.of hp2⟩, fun D3 hD3 => lc_list (K := K) (a := p) (xs := ps.map V.int) (fun i H' => Same H2 H' ∧ H' D3 = some (.lst (((ps.take i).filter fun z => (lkAt tr z).isSome).map V.int))) ⟨same_new hD3, upd_same⟩ (fun i H' _ h => SqL.of (h.1 _ _ hp2)) ?_ ?_⟩
    · rintro i v H3 hv ⟨s3, h3⟩
      obtain ⟨z, hz, rfl, hat⟩ := cell hv
      have l2 := filt_len (f := fun z => (lkAt tr z).isSome) (ps := ps) i
      have e1 := filt_succ (f := fun z => (lkAt tr z).isSome) hz
      refine ⟨rfl, _, rfl, _, rfl, _, _, _, _, rfl, rfl, SqL.of (s3 _ _ hs2), hat, _, _, rfl, rfl, _, rfl, iteD (fun c => ?_) (fun c => ?_)⟩
      · have f := code_some.mp c
        exact ⟨_, rfl, _, h3, by rw [List.length_map]; omega, same_mut s3 hD3, by rw [upd_same, ints_app, e1, if_pos f]⟩
      · have f : ¬ (lkAt tr z).isSome = true := fun h => c (code_some.mpr h)
        exact ⟨s3, by rw [e1, if_neg f, List.append_nil]; exact h3⟩
    rintro H3 ⟨s3, h3⟩
    rw [List.length_map, List.take_length] at h3
    refine ⟨D3, _, rfl, .inl (SqL.of h3), ?_⟩
    rw [List.length_map]
    have s13 := (s1.trans s2).trans s3
    exact ⟨_, rfl, _, rfl, _, rfl, by show 3 ≤ sizeLine; decide, fun u hu => q u _ (s13.trans (same_new hu)) (s13.free hu) upd_same⟩
set_option maxHeartbeats 16000000 in
set_option pp.maxSteps 600 in
theorem ok__law_walk (T : Txt K mg) : FnOk P w K mg base CX0 3 T.a__law_walk T.fd__law_walk ["_law_rows_here", "_law_things_here", "_law_state", "_law_order", "_law_steps"] (spLWalk K) := by
  refine T.F__law_walk.ok sc__law_walk (fun vs H Q E h => ?_) (fun cdv A outer s H vs Q E hr h => ?_)
  · obtain ⟨R, M, s, o, p, ws, us, vs', rs, ts, tr, ss, rfl, _⟩ := h; rfl
  · obtain ⟨R, M, s, o, p, ws, us, vs', rs, ts, tr, ss, rfl, hR, nR, rR, hM, nM, mM, lu, hs, ho, nso, hp, np, hss, nd, lt, q⟩ := h
    refine ⟨_, (pss_cons (ps_for PassesOwn.never rfl (pi_list (pv 4)) (pg_name (i := 5) sc__law_walk.nd rfl (.inl rfl)) (pss_cons (ps_set (i := 6) sc__law_walk.nd rfl (.inl rfl) (pe_call (ok__law_due T) (hr.mono (by omega)) (by rfl) T.g__law_due T.F__law_due.kp T.b__law_due .nil pass0 (pa_cons (pv 0) (pa_cons (pv 1) (pa_cons (pv 2) (pa_cons (pv 5) pa_nil))))))
      (pss_cons (ps_if (pt_cmpR op_gt (pe_callB call_len_seq (by rfl) T.n_len (by decide +kernel) (pa_cons (pv 6) pa_nil)) (pe_int) (nomark _)) (pss_one (ps_ret (pv 6))) pss_nil)
      (pss_cons (ps_expr (pe_call (ok__law_do T) (hr.mono (by omega)) (by rfl) T.g__law_do T.F__law_do.kp T.b__law_do .nil pass0 (pa_cons (pv 2) (pa_cons (pv 5) pa_nil))))
      (pss_one (ps_if (pt_cmpR op_ne (pe_ix ix_tup (pv 5) (pe_int) (fun _ _ => rfl)) (pe_str) (nomark _)) (pss_one (ps_expr (pe_bm PySem.F.plainAttrs_list PySem.F.slot_list_append PySem.F.type_list_append mt_append (pv 3) (pa_cons (pe_ix ix_tup (pv 5) (pe_int) (fun _ _ => rfl)) pa_nil)))) pss_nil))))))
      (pss_one (ps_ret (pe_lst pa_nil)))), ?_⟩
    have big : 100000 < sizeLine := by decide
    have lss := pair_len' hss
    have lts := pair_len' mM
    have tup : ∀ {a : Addr} {xs : List V}, H a = some (.tup xs) → a ∉ [s, o] := fun e m => by
      simp only [List.mem_cons, List.not_mem_nil, or_false] at m
      rcases m with rfl | rfl
      · rw [hs] at e; cases e
      · rw [ho] at e; cases e
    refine ⟨_, rfl, p, rfl, ⟨_, SqL.of hp⟩, for_list (K := K) (a := p) (xs := vs') (fun i σ H' => ∃ x5 x6 trI, σ = [some (.ref R), some (.ref M), some (.ref s), some (.ref o), some (.ref p), x5, x6] ∧ Le [s, o] H H' ∧ H' s = some (.lst (stV trI ts.length)) ∧ H' o = some (.lst ((thsL trI).map V.int)) ∧ (thsL trI).Nodup ∧ trI.length ≤ tr.length + i ∧ runT ts rs trI (ss.drop i) = runT ts rs tr ss) ⟨_, _, tr, rfl, .refl _ _, hs, ho, nd, Nat.le_refl _, rfl⟩ (fun i σ H' _ ⟨_, _, _, _, le, _⟩ => SqL.of (le _ _ np hp)) ?_ ?_⟩
    · rintro i v σ H1 hv ⟨x5, x6, trI, rfl, le1, hs1, ho1, nd1, lt1, er1⟩
      obtain ⟨s1, hs1', pp, rfl, hpp⟩ := pair_get' hss hv
      have npp := tup hpp
      have hpp1 := le1 _ _ npp hpp
      have hi := (List.getElem?_eq_some_iff.mp hs1').1
      have ed : ss.drop i = s1 :: ss.drop (i + 1) := by rw [List.drop_eq_getElem_cons hi, (List.getElem?_eq_some_iff.mp hs1').2]
      rw [ed] at er1
      have new : ∀ {a : Addr}, H1 a = none → H a = none := fun {a} h => by
        cases e : H a with
        | none => rfl
        | some w =>
          have : a ∉ [s, o] := fun m => by
            simp only [List.mem_cons, List.not_mem_nil, or_false] at m
            rcases m with rfl | rfl
            · rw [hs1] at h; cases h
            · rw [ho1] at h; cases h
          rw [le1 _ _ this e] at h; cases h
      refine ⟨_, rfl, _, rfl, _, rfl, _, rfl, R, M, s, pp, ws, us, rs, ts, trI, s1.1, s1.2, rfl, le1 _ _ nR hR, rowsN_sub (rowsN_le rR fun a o f e => le1 a o f e) (fun _ _ => trivial), le1 _ _ nM hM, mtsN_sub (mtsN_le mM le1) (by simp), lu, hs1, hpp1, fun du H2 s2 ndu DU => ?_⟩
      obtain ⟨_, xs, hdu, lxs⟩ := DU.at
      refine ⟨_, rfl, du, xs, rfl, .inl (SqL.of hdu), _, _, rfl, rfl, _, rfl, ?_⟩
      cases he : dueS ts rs trI s1.1 s1.2 with
      | some e =>
        rw [he] at lxs DU
        rw [runT_stop he] at er1
        refine iteYes (by rw [lxs]; rfl) ⟨_, rfl, q du H2 (le1.trans (Le.same s2)) (new ndu) ?_ ?_ ?_⟩
        · rw [← er1]; exact s2 _ _ hs1
        · rw [← er1]; exact s2 _ _ ho1
        · rw [← er1]
          exact DU.imp (fun a n => new n) (fun _ _ _ e => e) fun _ _ e => e
      | none =>
        rw [he] at lxs
        rw [runT_go he] at er1
        obtain ⟨ok, i1, dd, dl⟩ := due_none he
        refine iteNo (by rw [lxs]; rfl) ?_
        obtain ⟨z, th⟩ := s1
        obtain ⟨j, rfl⟩ := Int.eq_ofNat_of_zero_le i1.1
        have hj : j < ts.length := by have := i1.2; omega
        have hs2 := s2 _ _ hs1
        have ho2 := s2 _ _ ho1
        have hpp2 := s2 _ _ hpp1
        refine ⟨_, rfl, _, rfl, s, pp, trI, ts.length, j, z, rfl, hs2, hpp2, by omega, hj, ok, dd, dl, ?_⟩
        have nps : pp ≠ s := fun e => npp (by rw [e]; simp)
        have hpp3 : (upd H2 s (.lst (stV (actS trI z ((j : Nat) : Int)) ts.length))) pp = some (.tup [.str z, .int ((j : Nat) : Int)]) := by rw [upd_ne nps]; exact hpp2
        have ho3 : (upd H2 s (.lst (stV (actS trI z ((j : Nat) : Int)) ts.length))) o = some (.lst ((thsL trI).map V.int)) := by rw [upd_ne nso.symm]; exact ho2
        have le3 : Le [s, o] H (upd H2 s (.lst (stV (actS trI z ((j : Nat) : Int)) ts.length))) := (le1.trans (Le.same s2)).trans (.upd (by simp))
        have nd3 := act_nd he nd1
        have l3 : (actS trI z ((j : Nat) : Int)).length ≤ tr.length + (i + 1) := by have := act_len trI z ((j : Nat) : Int); omega
        refine ⟨_, rfl, _, _, _, _, rfl, rfl, SqT.of hpp3, atI_nat (j := 0) rfl, rfl, _, rfl, iteN (fun c => ?_) (fun c => ?_)⟩
        · have c : z ≠ "drop" := fun h => c (by rw [h])
          refine ⟨_, rfl, .inl ⟨rfl, _, SqL.of ho3⟩, _, rfl, _, _, _, _, rfl, rfl, SqT.of hpp3, atI_nat (j := 1) rfl, _, _, _, rfl, rfl, ho3, ?_, _, _, actS trI z ((j : Nat) : Int), rfl, le3.trans (.upd (by simp)), by rw [upd_ne nso]; exact upd_same, ?_, nd3, l3, er1⟩
          · rw [List.length_map]; unfold thsL; rw [List.length_map]; omega
          · rw [upd_same, thsL_act, if_neg c, ints_app]
        · have c : z = "drop" := V.str.inj c
          exact ⟨_, _, actS trI z ((j : Nat) : Int), rfl, le3, upd_same, by rw [ho3, thsL_act, if_pos c], nd3, l3, er1⟩
    · rintro σ H1 ⟨x5, x6, trI, rfl, le1, hs1, ho1, nd1, lt1, er1⟩
      rw [lss, List.drop_length] at er1
      refine ⟨Nat.zero_le _, fun u hu => ?_⟩
      have s2 := same_new (o := .lst []) hu
      have nu0 : H u = none := by
        cases e : H u with
        | none => rfl
        | some w =>
          have : u ∉ [s, o] := fun m => by
            simp only [List.mem_cons, List.not_mem_nil, or_false] at m
            rcases m with rfl | rfl
            · rw [hs1] at hu; cases hu
            · rw [ho1] at hu; cases hu
          rw [le1 _ _ this e] at hu; cases hu
      refine q u _ (le1.trans (Le.same s2)) nu0 ?_ ?_ ?_
      · rw [← er1]; exact s2 _ _ hs1
      · rw [← er1]; exact s2 _ _ ho1
      · rw [← er1]; exact ⟨nu0, upd_same⟩
end
end My

namespace My
open PySem L2
theorem app_stp {H1 : Hp} {lk u : Addr} {us1 : List V} {ss1 : List Stp} {z : Str} {t : Int} (hl : H1 lk = some (.lst us1)) (h1 : Stps H1 us1 ss1) (hu : H1 u = none) :
    TKeep H1 (upd (upd H1 u (.tup [.str z, .int t])) lk (.lst (us1 ++ [.ref u]))) ∧ Stps (upd (upd H1 u (.tup [.str z, .int t])) lk (.lst (us1 ++ [.ref u]))) (us1 ++ [.ref u]) (ss1 ++ [(z, t)]) := by
  have nlu : u ≠ lk := fun e => by rw [e, hl] at hu; cases hu
  have k : TKeep H1 (upd (upd H1 u (.tup [.str z, .int t])) lk (.lst (us1 ++ [.ref u]))) := fun a xs e => by
    rw [upd_ne (fun z => by rw [z, hl] at e; cases e), upd_ne (ne_of_none e hu)]; exact e
  exact ⟨k, pair_app' (h1.keep k) (.cons ⟨u, rfl, by rw [upd_ne nlu]; exact upd_same⟩ .nil)⟩
def spLChoices (K : PySem.W.Frag) : Sp := fun vs H Q _ => ∃ (R M s : Addr) (ws us : List V) (rs : List Row) (ts : List Th) (tr : List Lk), vs = [.ref R, .ref M, .ref s] ∧ H R = some (.lst ws) ∧ RowsN (fun _ => True) true H ws rs ∧ H M = some (.lst us) ∧ MtsN [] H us ts ∧ us.length ≤ 900 ∧ H s = some (.lst (stV tr ts.length)) ∧
  ∀ (cs : List V) (ss : List Stp) u H', Same H H' → H u = none → H' u = some (.lst cs) → Stps H' cs ss → (∀ x ∈ ss, goodS x) → cs.length ≤ 3000 → Q (.ref u) H'
theorem good_app {ss : List Stp} {x : Stp} (h : ∀ y ∈ ss, goodS y) (g : goodS x) : ∀ y ∈ ss ++ [x], goodS y := fun y m => (List.mem_append.mp m).elim (h y) fun m => by rw [List.mem_singleton.mp m]; exact g
section
variable {P : Program} {w : World} {K : PySem.W.Frag} {mg : Str → Option Value} {base : Heap}
set_option maxHeartbeats 16000000 in
set_option pp.maxSteps 600 in
theorem ok__law_choices (T : Txt K mg) : FnOk P w K mg base CX0 2 T.a__law_choices T.fd__law_choices ["_law_rows_here", "_law_things_here", "_law_state"] (spLChoices K) := by
  refine T.F__law_choices.ok sc__law_choices (fun vs H Q E h => ?_) (fun cdv A outer s H vs Q E hr h => ?_)
  · obtain ⟨R, M, s, ws, us, rs, ts, tr, rfl, _⟩ := h; rfl
  · obtain ⟨R, M, s, ws, us, rs, ts, tr, rfl, hR, rR, hM, mM, lu, hs, q⟩ := h
    refine ⟨_, (pss_cons (ps_set (i := 3) sc__law_choices.nd rfl (.inl rfl) (pe_lst pa_nil))
      (pss_cons (ps_set (i := 4) sc__law_choices.nd rfl (.inl rfl) (pe_lst pa_nil))
      (pss_cons (ps_for PassesOwn.never rfl (pi_range1 (by rfl) T.n_range (pa_cons (pe_callB call_len_seq (by rfl) T.n_len (by decide +kernel) (pa_cons (pv 1) pa_nil)) pa_nil)) (pg_name (i := 5) sc__law_choices.nd rfl (.inl rfl)) (pss_one (ps_if (pt_cmpR op_eq (pe_ix ix_list (pv 2) (pv 5) (fun _ _ => rfl)) (pe_int) (nomark _)) (pss_cons (ps_expr (pe_bm PySem.F.plainAttrs_list PySem.F.slot_list_append PySem.F.type_list_append mt_append (pv 3) (pa_cons (pe_tup (pa_cons (pe_str) (pa_cons (pv 5) pa_nil))) pa_nil)))
      (pss_one (ps_if (pt_val (pe_call (ok__law_shared T) (hr.mono (by omega)) (by rfl) T.g__law_shared T.F__law_shared.kp T.b__law_shared .nil pass0 (pa_cons (pv 0) (pa_cons (pe_ix ix_list (pe_ix ix_list (pv 1) (pv 5) (fun _ _ => rfl)) (pe_int) (fun _ _ => rfl)) pa_nil)))) (pss_one (ps_expr (pe_bm PySem.F.plainAttrs_list PySem.F.slot_list_append PySem.F.type_list_append mt_append (pv 3) (pa_cons (pe_tup (pa_cons (pe_str) (pa_cons (pv 5) pa_nil))) pa_nil)))) pss_nil))) (pss_one (ps_if (pt_cmpR op_lt (pe_ix ix_list (pv 2) (pv 5) (fun _ _ => rfl)) (pe_int) (nomark _)) (pss_one (ps_expr (pe_bm PySem.F.plainAttrs_list PySem.F.slot_list_append PySem.F.type_list_append mt_append (pv 4) (pa_cons (pe_tup (pa_cons (pe_str) (pa_cons (pv 5) pa_nil))) pa_nil)))) pss_nil)))))
      (pss_one (ps_ret (pe_op op_cat (pv 3) (pv 4))))))), ?_⟩
    have big : 100000 < sizeLine := by decide
    have lts := pair_len' mM
    refine ⟨Nat.zero_le _, fun lk hlk => ⟨Nat.zero_le _, fun dr hdr => ?_⟩⟩
    have s1 := same_new (o := .lst []) hlk
    have s2 := s1.trans (same_new (o := .lst []) hdr)
    have nld : lk ≠ dr := fun e => by rw [← e, upd_same] at hdr; cases hdr
    have ndr : H dr = none := s1.free hdr
    have h1 : (upd (upd H lk (.lst [])) dr (.lst [])) lk = some (.lst []) := by rw [upd_ne nld]; exact upd_same
    refine ⟨_, rfl, M, us, rfl, .inl (SqL.of (s2 _ _ hM)), _, rfl, by omega, by omega, for_range (lo := 0) (n := us.length) (fun i σ H' => ∃ x5 us1 us2 ss1 ss2, σ = [some (.ref R), some (.ref M), some (.ref s), some (.ref lk), some (.ref dr), x5] ∧ Same H H' ∧ H' lk = some (.lst us1) ∧ H' dr = some (.lst us2) ∧ Stps H' us1 ss1 ∧ Stps H' us2 ss2 ∧ (∀ x ∈ ss1, goodS x) ∧ (∀ x ∈ ss2, goodS x) ∧ us1.length ≤ 2 * i ∧ us2.length ≤ i) ⟨_, [], [], [], [], rfl, s2, h1, upd_same, .nil, .nil, fun _ h => (by cases h), fun _ h => (by cases h), Nat.le_refl _, Nat.le_refl _⟩ ?_ ?_⟩
    · rintro i σ H3 hi ⟨x5, us1, us2, ss1, ss2, rfl, s3, hl1, hd1, p1, p2, g1, g2, l1, l2⟩
      rw [Int.zero_add]
      have hat := atI_nat (stV_at (tr := tr) (n := ts.length) (by omega : i < ts.length))
      refine ⟨_, rfl, _, rfl, _, _, _, _, rfl, rfl, SqL.of (s3 _ _ hs), hat, rfl, _, rfl, iteD (fun c => ?_) (fun c => ⟨_, rfl, _, rfl, _, _, _, _, rfl, rfl, SqL.of (s3 _ _ hs), hat, _, _, rfl, rfl, _, rfl, iteD (fun c2 => ?_) (fun c2 => ?_)⟩)⟩
      · refine ⟨_, rfl, .inl ⟨rfl, _, SqL.of hl1⟩, _, rfl, by show 2 ≤ sizeLine; decide, fun u hu => ?_⟩
        have nul : lk ≠ u := ne_of_none hl1 hu
        obtain ⟨k4, p4⟩ := app_stp (z := "own") (t := ((i : Nat) : Int)) hl1 p1 hu
        have s4 : Same H (upd (upd H3 u (.tup [.str "own", .int ((i : Nat) : Int)])) lk (.lst (us1 ++ [.ref u]))) := same_mut (s3.trans (same_new hu)) hlk
        have hd4 : (upd (upd H3 u (.tup [.str "own", .int ((i : Nat) : Int)])) lk (.lst (us1 ++ [.ref u]))) dr = some (.lst us2) := by rw [upd_ne nld.symm, upd_ne (ne_of_none hd1 hu)]; exact hd1
        have hl4 : (upd (upd H3 u (.tup [.str "own", .int ((i : Nat) : Int)])) lk (.lst (us1 ++ [.ref u]))) lk = some (.lst (us1 ++ [.ref u])) := upd_same
        refine ⟨_, _, _, rfl, rfl, by rw [upd_ne nul]; exact hl1, by omega, ?_⟩
        have p24 := p2.keep k4
        have g4 : ∀ x ∈ ss1 ++ [(("own" : Str), ((i : Nat) : Int))], goodS x := good_app g1 ⟨.inl rfl, by show (0 : Int) ≤ _; omega⟩
        revert s4 hd4 hl4 p24 p4
        generalize upd (upd H3 u (.tup [.str "own", .int ((i : Nat) : Int)])) lk (.lst (us1 ++ [.ref u])) = H4
        intro p4 s4 hd4 hl4 p24
        obtain ⟨v, hv⟩ : ∃ v, us[i]? = some v := ⟨_, List.getElem?_eq_getElem hi⟩
        obtain ⟨th, hth, pp, ppp, rfl, _, _, hpp, _⟩ := pair_get' mM hv
        refine ⟨_, rfl, _, rfl, _, rfl, _, _, _, _, rfl, rfl, SqL.of (s4 _ _ hM), atI_nat hv, _, _, _, _, rfl, rfl, SqL.of (s4 _ _ hpp), atI_nat (j := 0) rfl, R, ws, rs, th.1, rfl, s4 _ _ hR, rowsN_same rR s4, ?_⟩
        refine ⟨_, rfl, iteB (fun _ => ?_) (fun _ => ?_)⟩
        · refine ⟨_, rfl, .inl ⟨rfl, _, SqL.of hl4⟩, _, rfl, by show 2 ≤ sizeLine; decide, fun u2 hu2 => ?_⟩
          obtain ⟨k5, p5⟩ := app_stp (z := "share") (t := ((i : Nat) : Int)) hl4 p4 hu2
          refine ⟨_, _, _, rfl, rfl, by rw [upd_ne (ne_of_none hl4 hu2)]; exact hl4, by rw [List.length_append]; simp; omega, ?_⟩
          exact ⟨_, _, us2, _, ss2, rfl, same_mut (s4.trans (same_new hu2)) hlk, upd_same, by rw [upd_ne nld.symm, upd_ne (ne_of_none hd4 hu2)]; exact hd4, p5, p24.keep k5, good_app g4 ⟨.inr (.inl rfl), by show (0 : Int) ≤ _; omega⟩, g2, by rw [List.length_append, List.length_append]; simp; omega, by omega⟩
        · exact ⟨_, _, us2, _, ss2, rfl, s4, hl4, hd4, p4, p24, g4, g2, by rw [List.length_append]; simp; omega, by omega⟩
      · refine ⟨_, rfl, .inl ⟨rfl, _, SqL.of hd1⟩, _, rfl, by show 2 ≤ sizeLine; decide, fun u hu => ?_⟩
        obtain ⟨k4, p4⟩ := app_stp (z := "drop") (t := ((i : Nat) : Int)) hd1 p2 hu
        refine ⟨_, _, _, rfl, rfl, by rw [upd_ne (ne_of_none hd1 hu)]; exact hd1, by omega, ?_⟩
        exact ⟨_, us1, _, ss1, _, rfl, same_mut (s3.trans (same_new hu)) ndr, by rw [upd_ne nld, upd_ne (ne_of_none hl1 hu)]; exact hl1, upd_same, p1.keep k4, p4, g1, good_app g2 ⟨.inr (.inr rfl), by show (0 : Int) ≤ _; omega⟩, by omega, by rw [List.length_append]; simp; omega⟩
      · exact ⟨_, us1, us2, ss1, ss2, rfl, s3, hl1, hd1, p1, p2, g1, g2, by omega, by omega⟩
    · rintro σ H3 ⟨x5, us1, us2, ss1, ss2, rfl, s3, hl1, hd1, p1, p2, g1, g2, l1, l2⟩
      refine ⟨_, rfl, _, rfl, lk, dr, _, _, rfl, rfl, hl1, hd1, by omega, fun u hu => ?_⟩
      have s4 := same_new (o := .lst (us1 ++ us2)) hu
      exact q (us1 ++ us2) (ss1 ++ ss2) u _ (s3.trans s4) (s3.free hu) upd_same (pair_app' (p1.same s4) (p2.same s4)) (fun x m => (List.mem_append.mp m).elim (g1 x) (g2 x)) (by rw [List.length_append]; omega)
end
end My

namespace My
open PySem L2
theorem ne_of_none' {H : Hp} {u y C dx : Addr} {xs : List V} {fs : List (Str × V)} (h : H u = some (.tup xs)) (e : H y = some (.ins C dx fs)) : u ≠ y := fun z => by rw [z, e] at h; cases h
def cntV (tr : List Lk) (ps : List Int) : List V := [.int (heldN tr ps), .int (ownN tr ps), .int (seenN tr ps)]
def cntD (tr : List Lk) (ps : List Int) : PyData := .tuple [.int (heldN tr ps), .int (ownN tr ps), .int (seenN tr ps)]
theorem cnt_dn {K : PySem.W.Frag} {x u : Addr} {H : Hp} {tr : List Lk} {ps : List Int} (h : H u = some (.tup (cntV tr ps))) (n : u ≠ x) : Dn K x H 3 (.ref u) (cntD tr ps) :=
  Dn.tup n (SqT.of h) (.cons (Dn.int _) (.cons (Dn.int _) (.cons (Dn.int _) .nil))) (by simp [cntV])
theorem Sto.but {C : Addr} {H H' : Hp} {y w a b t : Addr} {tr : List Lk} (S : Sto C H y w a b tr) (bu : But t H H') (ht : ∃ xs, H t = some (.lst xs)) : Sto C H' y w a b tr := by
  obtain ⟨xs, ht⟩ := ht
  obtain ⟨⟨dx, e0⟩, e1, e2, _⟩ := id S
  exact S.keep (fun o e => bu _ _ (fun z => by rw [z, ht] at e0; cases e0) e) (fun o e => bu _ _ (fun z => by rw [z, ht] at e1; cases e1) e) (fun o e => bu _ _ (fun z => by rw [z, ht] at e2; cases e2) e)
def spLCounted (K : PySem.W.Frag) (C : Addr) : Sp := fun vs H Q _ => ∃ (d t y s w a b : Addr) (tr : List Lk) (n : Nat), vs = [.ref d, .ref t, .ref y, .ref s] ∧ Dr K H d t ∧ Sto C H y w a b tr ∧ (thsL tr).Nodup ∧ H s = some (.lst (stV tr n)) ∧ s ≠ t ∧ n ≤ 900 ∧ ∀ H', Dr K H' d t → But t H H' → Q (.bl true) H'
section
variable {w : World} {K : PySem.W.Frag} {mg : Str → Option Value} {base : Heap}
set_option maxHeartbeats 16000000 in
set_option pp.maxSteps 600 in
theorem ok__law_counted (T : Txt K mg) : FnOk PP w K mg base CX0 6 T.a__law_counted T.fd__law_counted ["_law_draws_here", "_law_at", "_law_standing", "_law_state"] (spLCounted K T.c_Standing) := by
  refine T.F__law_counted.ok sc__law_counted (fun vs H Q E h => ?_) (fun cdv A outer s H vs Q E hr h => ?_)
  · obtain ⟨d, t, y, s, w, a, b, tr, n, rfl, _⟩ := h; rfl
  · obtain ⟨d, t, y, s, wb, a, b, tr, n, rfl, D0, S, nd, hs, nst, hn, q⟩ := h
    refine ⟨_, (pss_cons (ps_set (i := 4) sc__law_counted.nd rfl (.inl rfl) (pe_lst pa_nil))
      (pss_cons (ps_for PassesOwn.never rfl (pi_range1 (by rfl) T.n_range (pa_cons (pe_callB call_len_seq (by rfl) T.n_len (by decide +kernel) (pa_cons (pv 3) pa_nil)) pa_nil)) (pg_name (i := 5) sc__law_counted.nd rfl (.inl rfl)) (pss_cons (ps_set (i := 6) sc__law_counted.nd rfl (.inl rfl) (pe_call (ok__law_take T) (hr.mono (by omega)) (by rfl) T.g__law_take T.F__law_take.kp T.b__law_take .nil pass0 (pa_cons (pv 0) (pa_cons (pv 1) (pa_cons (pe_int) pa_nil)))))
      (C8.pss_cut (ps_if (pt_cmpR op_eq (pv 6) (pe_int) (nomark _)) (pss_one (ps_expr (pe_bm PySem.F.plainAttrs_list PySem.F.slot_list_append PySem.F.type_list_append mt_append (pv 4) (pa_cons (pv 5) pa_nil)))) pss_nil)
      (pss_one (ps_if (PW.pt (pw_or (pt_cmpR op_eq (pv 6) (pe_int) (nomark _)) (pw_or1 (pt_cmpR op_eq (pv 6) (pe_int) (nomark _))))) (pss_one (ps_expr (pe_bm PySem.F.plainAttrs_list PySem.F.slot_list_insert PySem.F.type_list_insert mt_insert (pv 4) (pa_cons (pe_int) (pa_cons (pv 5) pa_nil))))) pss_nil)))))
      (pss_cons (ps_set (i := 7) sc__law_counted.nd rfl (.inl rfl) (pe_call (ok__law_counts T) (hr.mono (by omega)) (by rfl) T.g__law_counts T.F__law_counts.kp T.b__law_counts .nil pass0 (pa_cons (pv 3) (pa_cons (pv 4) pa_nil))))
      (pss_cons (ps_set (i := 8) sc__law_counted.nd rfl (.inl rfl) (pe_tup (pa_cons (pe_ix ix_list (pv 7) (pe_int) (fun _ _ => rfl)) (pa_cons (pe_ix ix_list (pv 7) (pe_int) (fun _ _ => rfl)) (pa_cons (pe_ix ix_list (pv 7) (pe_int) (fun _ _ => rfl)) pa_nil)))))
      (pss_one (ps_ret (pe_and (pe_call (ok__law_same T 3) (hr.mono (by omega)) (by rfl) T.g__law_same T.F__law_same.kp T.b__law_same .nil pass0 (pa_cons (pe_meth (pv 2) T.cl_Standing T.m_Standing_counts (ok_Standing_counts T) (hr.mono (by omega)) T.b_Standing_counts .nil pass0 (pa_cons (pv 4) pa_nil)) (pa_cons (pv 8) pa_nil))) (pe_one (pe_call (ok__law_same T 3) (hr.mono (by omega)) (by rfl) T.g__law_same T.F__law_same.kp T.b__law_same .nil pass0 (pa_cons (pe_meth (pv 2) T.cl_Standing T.m_Standing_counts (ok_Standing_counts T) (hr.mono (by omega)) T.b_Standing_counts .nil pass0 (pa_cons (pe_callTy call_tuple_of (by rfl) T.n_tuple (by decide +kernel) (pa_cons (pv 4) pa_nil)) pa_nil)) (pa_cons (pv 8) pa_nil))))))))))), ?_⟩
    have big : 100000 < sizeLine := by decide
    have tl : ∃ xs, H t = some (.lst xs) := D0.pl.elim fun k e => ⟨_, e⟩
    refine ⟨Nat.zero_le _, fun L hL => ?_⟩
    have nLt : L ≠ t := D0.na hL
    have ndL : d ≠ L := D0.ds.elim fun zs e => ne_of_none e hL
    have drm : ∀ {H2 : Hp} {o : HO}, Dr K H2 d t → Dr K (upd H2 L o) d t := fun D => ⟨D.ds.elim fun zs e => ⟨zs, by rw [upd_ne ndL]; exact e⟩, D.pl.elim fun k e => ⟨k, by rw [upd_ne nLt.symm]; exact e⟩, D.ne⟩
    refine ⟨_, rfl, s, _, rfl, .inl (SqL.of (same_new hL _ _ hs)), _, rfl, by rw [stV_len]; omega, by rw [stV_len]; omega, for_range (lo := 0) (n := (stV tr n).length) (fun i σ H' => ∃ (x5 x6 : Option V) (ps : List Int), σ = [some (.ref d), some (.ref t), some (.ref y), some (.ref s), some (.ref L), x5, x6, none, none] ∧ Dr K H' d t ∧ But t H H' ∧ H' L = some (.lst (ps.map V.int)) ∧ ps.length ≤ i ∧ ∀ z ∈ ps, 0 ≤ z ∧ z < (n : Int)) ⟨_, _, [], rfl, D0.same (same_new hL), But.new hL, upd_same, Nat.le_refl _, fun _ h => (by cases h)⟩ ?_ ?_⟩
    · rintro i σ H1 hi ⟨x5, x6, ps, rfl, D1, b1, h1, l1, g1⟩
      rw [Int.zero_add]
      rw [stV_len] at hi
      refine ⟨_, rfl, _, rfl, d, t, 4, rfl, D1, by decide, fun r H2 _ _ D2 b2 => ?_⟩
      have b12 := b1.trans b2
      have h2 := b2 _ _ nLt h1
      have gz : (0 : Int) ≤ ((i : Nat) : Int) ∧ ((i : Nat) : Int) < (n : Int) := by omega
      refine ⟨fun σ' H' => ∃ ps' : List Int, σ' = [some (.ref d), some (.ref t), some (.ref y), some (.ref s), some (.ref L), some (.int (i : Nat)), some (.int r), none, none] ∧ Dr K H' d t ∧ But t H H' ∧ H' L = some (.lst (ps'.map V.int)) ∧ (r = 0 → ps'.length ≤ i + 1) ∧ (r ≠ 0 → ps'.length ≤ i) ∧ ∀ z ∈ ps', 0 ≤ z ∧ z < (n : Int), ?_, ?_⟩
      · refine ⟨_, rfl, rfl, _, rfl, iteD (fun c => ?_) (fun c => ⟨ps, rfl, D2, b12, h2, fun _ => by omega, fun _ => l1, g1⟩)⟩
        have c : r = 0 := V.int.inj c
        refine ⟨_, rfl, .inl ⟨rfl, _, SqL.of h2⟩, _, rfl, _, _, _, rfl, rfl, h2, by rw [List.length_map]; omega, ps ++ [((i : Nat) : Int)], rfl, drm D2, b12.mut hL, by rw [upd_same, ints_app], fun _ => by rw [List.length_append]; simp; omega, fun h => absurd c h, fun z m => (List.mem_append.mp m).elim (g1 z) fun m => by rw [List.mem_singleton.mp m]; exact gz⟩
      rintro σ' H3 ⟨ps', rfl, D3, b3, h3, la, lb, g3⟩
      have last : 0 < r → ps'.length ≤ i := fun h => lb (by omega)
      have ins : r ≠ 0 → ∀ o, (upd H3 L (.lst (List.take (0 : Int).toNat (ps'.map V.int) ++ [V.int (i : Nat)] ++ List.drop (0 : Int).toNat (ps'.map V.int)))) = o → ∃ (x5 x6 : Option V) (ps : List Int), ([some (.ref d), some (.ref t), some (.ref y), some (.ref s), some (.ref L), some (.int (i : Nat)), some (.int r), none, none] : List (Option V)) = [some (.ref d), some (.ref t), some (.ref y), some (.ref s), some (.ref L), x5, x6, none, none] ∧ Dr K o d t ∧ But t H o ∧ o L = some (.lst (ps.map V.int)) ∧ ps.length ≤ i + 1 ∧ ∀ z ∈ ps, 0 ≤ z ∧ z < (n : Int) := fun h0 o e => by
        subst e
        refine ⟨_, _, ((i : Nat) : Int) :: ps', rfl, drm D3, b3.mut hL, by rw [upd_same]; simp, by have := lb h0; simp; omega, fun z m => ?_⟩
        rcases List.mem_cons.mp m with rfl | m
        · exact gz
        · exact g3 z m
      have lsz : r ≠ 0 → (ps'.map V.int).length < sizeLine := fun h0 => by have := lb h0; rw [List.length_map]; omega
      refine ⟨_, rfl, rfl, _, rfl, iteD (fun c => ?_) (fun c => ⟨_, rfl, rfl, _, rfl, iteD (fun c2 => ?_) (fun c2 => ?_)⟩)⟩
      · have c : r = 1 := V.int.inj c
        exact iteT ⟨_, rfl, .inl ⟨rfl, _, SqL.of h3⟩, _, rfl, _, _, _, _, rfl, rfl, h3, lsz (by omega), by decide, by decide, ins (by omega) _ rfl⟩
      · have c2 : r = 2 := V.int.inj c2
        exact ⟨_, rfl, .inl ⟨rfl, _, SqL.of h3⟩, _, rfl, _, _, _, _, rfl, rfl, h3, lsz (by omega), by decide, by decide, ins (by omega) _ rfl⟩
      · refine ⟨_, _, ps', rfl, D3, b3, h3, ?_, g3⟩
        by_cases z : r = 0
        · exact la z
        · exact Nat.le_succ_of_le (lb z)
    · rintro σ H1 ⟨x5, x6, ps, rfl, D1, b1, h1, l1, g1⟩
      rw [stV_len] at l1
      have hs1 := b1 _ _ nst hs
      refine ⟨_, rfl, _, rfl, s, L, tr, n, ps, rfl, hs1, h1, by omega, g1, fun u H2 s2 nu hu => ?_⟩
      refine ⟨_, rfl, _, _, _, _, rfl, rfl, SqL.of hu, atI_nat (j := 0) rfl, _, rfl, _, _, _, _, rfl, rfl, SqL.of hu, atI_nat (j := 1) rfl, _, rfl, _, _, _, _, rfl, rfl, SqL.of hu, atI_nat (j := 2) rfl, by show 3 ≤ sizeLine; decide, fun v hv => ?_⟩
      have s3 := s2.trans (same_new (o := .tup (cntV tr ps)) hv)
      have hv3 : (upd H2 v (.tup (cntV tr ps))) v = some (.tup (cntV tr ps)) := upd_same
      have S1 := S.but b1 tl
      obtain ⟨⟨dy, hy⟩, _⟩ := S1.same s3
      have nvy : v ≠ y := ne_of_none' hv3 hy
      refine ⟨_, rfl, y, dy, _, rfl, hy, rfl, _, rfl, y, wb, a, b, L, tr, ps, rfl, S1.same s3, nd, by omega, .inl (s3 _ _ h1), fun u2 H5 s5 nu2 hu2 => ?_⟩
      have hv5 := s5 _ _ hv3
      have hy5 := s5 _ _ hy
      refine ⟨_, rfl, y, _, _, cntD tr ps, cntD tr ps, rfl, cnt_dn hu2 (ne_of_none' hu2 hy5), cnt_dn hv5 nvy, ?_⟩
      rw [same_yes rfl]
      have hL5 := s5 _ _ (s3 _ _ h1)
      refine ⟨true, rfl, iteT ⟨_, rfl, y, dy, _, rfl, hy5, rfl, _, rfl, L, _, rfl, .inl ⟨SqL.of hL5, fun l hl => ?_⟩⟩⟩
      have s6 := same_new (o := .tup (ps.map V.int)) hl
      refine ⟨y, wb, a, b, l, tr, ps, rfl, ((S1.same s3).same s5).same s6, nd, by omega, .inr upd_same, fun u3 H7 s7 nu3 hu3 => ?_⟩
      have s67 := s6.trans s7
      refine ⟨_, rfl, y, _, _, cntD tr ps, cntD tr ps, rfl, cnt_dn hu3 (ne_of_none' hu3 (s67 _ _ hy5)), cnt_dn (s67 _ _ hv5) nvy, ?_⟩
      rw [same_yes rfl]
      have s17 := (s3.trans s5).trans s67
      exact q H7 (D1.same s17) (b1.trans (But.of_same s17))
end
end My

namespace L2
open PySem PySem.Spec PyProof.Rows
section
variable {X : Cx} {CX : CXT} {n : Nat} {C g : Addr} {fd : FuncData} {ps : List Str} {sp : Sp} {E : XK} {K : PySem.W.Frag}
/-- an own operator in a try body: the fragment named -/
theorem op_binOK {op : Operator} (hK : X.K = K) (T : OpF K C op.info.2 g) (F : FnOk X.prog X.w K X.mg X.base CX n g fd ps sp) (hr : Room n X.A) (hb : Binds K fd ps []) (hx : Passes CX X E) : OpR X (binaryOp op) (rOpI K C sp E) := by
  subst hK
  exact op_binO T F hr hb hx
end
end L2

namespace My
open PySem L2
/-- a step in a list of its own -/
def HdP (H : Hp) (v : V) (s : Stp) : Prop := ∃ q, v = .ref q ∧ H q = some (.lst [.str s.1, .int s.2])
abbrev HdPs (H : Hp) (vs : List V) (ss : List Stp) : Prop := Paired (HdP H) vs ss
theorem HdPs.keep {H H' : Hp} {vs : List V} {ss : List Stp} (h : HdPs H vs ss) (k : ∀ a xs, H a = some (.lst xs) → H' a = some (.lst xs)) : HdPs H' vs ss := L2.Paired.mapP h fun _ _ ⟨q, e, x⟩ => ⟨q, e, k _ _ x⟩
theorem HdPs.toV {H : Hp} {vs : List V} {ss : List Stp} (h : HdPs H vs ss) : StpsV H vs ss := L2.Paired.mapP h fun _ _ ⟨q, e, x⟩ => ⟨q, e, .inr x⟩
def hdD (s : Stp) : PyData := .list [.str s.1, .int s.2]
theorem hdDn {K : PySem.W.Frag} {x C dx : Addr} {fs : List (Str × V)} {H : Hp} {vs : List V} {ss : List Stp} (h : HdPs H vs ss) (hx : H x = some (.ins C dx fs)) : Paired (Dn K x H 2) vs (ss.map hdD) := by
  induction h with
  | nil => exact .nil
  | cons h _ ih =>
    obtain ⟨q, rfl, hq⟩ := h
    exact .cons (Dn.lst (nl_ne hx hq) (SqL.of hq) (.cons (Dn.str _) (.cons (Dn.int _) .nil)) (by simp)) ih
theorem hd_app {H1 : Hp} {D u : Addr} {hs : List V} {ss : List Stp} {s : Stp} (hD : H1 D = some (.lst hs)) (h1 : HdPs H1 hs ss) (hu : H1 u = none) (nD : ∀ v ∈ hs, v ≠ .ref D) :
    HdPs (upd (upd H1 u (.lst [.str s.1, .int s.2])) D (.lst (hs ++ [.ref u]))) (hs ++ [.ref u]) (ss ++ [s]) ∧ ∀ v ∈ hs ++ [.ref u], v ≠ .ref D := by
  have nu : u ≠ D := fun e => by rw [e, hD] at hu; cases hu
  have go : ∀ {vs : List V} {ts : List Stp}, (∀ v ∈ vs, v ≠ .ref D) → HdPs H1 vs ts → HdPs (upd (upd H1 u (.lst [.str s.1, .int s.2])) D (.lst (hs ++ [.ref u]))) vs ts := fun {vs ts} n h => by
    induction h with
    | nil => exact .nil
    | cons h _ ih =>
      obtain ⟨q, rfl, hq⟩ := h
      refine .cons ⟨q, rfl, ?_⟩ (ih fun v m => n v (List.mem_cons_of_mem _ m))
      rw [upd_ne (fun e => n _ (List.mem_cons_self ..) (by rw [e])), upd_ne (ne_of_none hq hu)]; exact hq
  refine ⟨pair_app' (go nD h1) (.cons ⟨u, rfl, by rw [upd_ne nu]; exact upd_same⟩ .nil), fun v m => ?_⟩
  rcases List.mem_append.mp m with m | m
  · exact nD v m
  · rw [List.mem_singleton.mp m]; exact fun e => nu (V.ref.inj e)
def spLRun (K : PySem.W.Frag) (C Cw Cs : Addr) : Sp := fun vs H Q _ => ∃ (y w a b p x l m : Addr) (f : Int) (tr : List Lk) (ts : List Th) (rs : List Row) (ss : List Stp) (us : List V), vs = [.ref y, .ref p, .int f] ∧ Sto C H y w a b tr ∧ (thsL tr).Nodup ∧ tr.length + ss.length ≤ 900 ∧ OnW Cw Cs H w x l m ts rs ∧ H p = some (.lst us) ∧ Stps H us ss ∧ (f = 0 ∨ f = 1 ∨ ∀ x ∈ ss, goodS x) ∧
  ∀ u H', Le [y, a, b] H H' → Sto C H' y w a b (runT ts rs tr ss).1 → H u = none → DueR (NewIn H) H' u (runT ts rs tr ss).2 → Q (.ref u) H'
section
variable {w : World} {K : PySem.W.Frag} {mg : Str → Option Value} {base : Heap}
set_option maxHeartbeats 16000000 in
set_option pp.maxSteps 600 in
theorem ok__law_run (T : Txt K mg) : FnOk PP w K mg base CX0 13 T.a__law_run T.fd__law_run ["_law_standing", "_law_steps", "_law_form"] (spLRun K T.c_Standing T.c_Web T.c_Shape) := by
  refine T.F__law_run.ok sc__law_run (fun vs H Q E h => ?_) (fun cdv A outer s H vs Q E hr h => ?_)
  · obtain ⟨y, w, a, b, p, x, l, m, f, tr, ts, rs, ss, us, rfl, _⟩ := h; rfl
  · obtain ⟨y, wb, a, b, p, x, l, m, f, tr, ts, rs, ss, us, rfl, S, nd, lt, W, hp, hss, hf, q⟩ := h
    refine ⟨_, (pss_cons (ps_setLc (i := 3) (own := [("_law_step", 4)]) (g := (gName 4)) (by rfl) sc__law_run.nd rfl rfl (sw_true rfl rfl rfl (by decide +kernel)) (pi_list (pv 1)) (blkOk_by (own := [("_law_step", 4)]) (N := ["_law_standing", "_law_steps", "_law_form", "_law_handed", "_law_step", "_law_told", "e"]) (sc := defScope S__law_run) (by decide +kernel)) (fun _ _ _ _ _ => (pg_name (i := 4) sc__law_run.nd rfl (by first | exact .inl rfl | exact .inr rfl))) (fun _ _ _ _ _ => pts_nil) (fun _ _ _ _ _ => (pe_lst (pa_cons (pe_ix (ixTK (K := K) rfl) (pv 4) (pe_int) (fun _ _ => rfl)) (pa_cons (pe_ix (ixTK (K := K) rfl) (pv 4) (pe_int) (fun _ _ => rfl)) pa_nil)))))
      (C8.pss_cut (ps_try_as (i := 6) rfl rfl sc__law_run.nd rfl rfl ⟨rfl, by decide, .inl T.g_WebError⟩ takes0 (fun W pn xe tk po => (pss_one (ps_if (pt_cmpR op_eq (pv 2) (pe_int) (nomark _)) (pss_one (ps_set (i := 5) sc__law_run.nd rfl (.inl rfl) (pe_methW (pv 0) T.cl_Standing T.m_Standing_run (ok_Standing_run T) (hr.mono (by omega)) T.b_Standing_run .nil (fun σ => passAt tk σ) (pa_cons (pv 3) pa_nil)))) (pss_one (ps_if (pt_cmpR op_eq (pv 2) (pe_int) (nomark _)) (pss_one (ps_set (i := 5) sc__law_run.nd rfl (.inl rfl) (pe_methW (pv 0) T.cl_Standing T.m_Standing_run (ok_Standing_run T) (hr.mono (by omega)) T.b_Standing_run .nil (fun σ => passAt tk σ) (pa_cons (pe_callTy (tupleK (K := K) rfl) (by rfl) T.n_tuple (by decide +kernel) (pa_cons (pv 1) pa_nil)) pa_nil)))) (pss_one (ps_set (i := 5) sc__law_run.nd rfl (.inl rfl) (pe_methW (pv 0) T.cl_Standing T.m_Standing_run (ok_Standing_run T) (hr.mono (by omega)) T.b_Standing_run .nil (fun σ => passAt tk σ) (pa_cons (pe_op (op_binOK (K := K) rfl T.of_Program_add ((ok_Program_add T).calm) (hr.mono (by omega)) T.b_Program_add pass0) (pe_makeR0 T.mk_Program ((ok_Program_init T).calm) (hr.mono (by omega)) (by rfl) T.g_Program pass0) (pv 1)) pa_nil))))))))) (fun a oe cls d pn hz hf => (pss_one (ps_ret (pe_callE (E := E0) (ok__law_refusal T a oe cls d hz hf) (room_suite hr (by omega) rfl rfl) List.mem_cons_self (by rfl) T.g__law_refusal T.F__law_refusal.kp T.b__law_refusal pass0 (pa_cons (pv 6) pa_nil))))))
      (pss_cons (ps_if (PW.pt (pw_or (pt_cmpR op_notN (pv 5) (pe_non) (nomark _)) (pw_or1 (pt_not (pt_val (pe_call (ok__law_same T 3) (hr.mono (by omega)) (by rfl) T.g__law_same T.F__law_same.kp T.b__law_same .nil pass0 (pa_cons (pv 3) (pa_cons (pe_lc (own := [("_law_step", 4)]) (g := (gName 4)) (by rfl) sc__law_run.nd (pi_list (pv 1)) (blkOk_by (own := [("_law_step", 4)]) (N := ["_law_standing", "_law_steps", "_law_form", "_law_handed", "_law_step", "_law_told", "e"]) (sc := defScope S__law_run) (by decide +kernel)) (fun _ _ _ _ _ => (pg_name (i := 4) sc__law_run.nd rfl (by first | exact .inl rfl | exact .inr rfl))) (fun _ _ _ _ _ => pts_nil) (fun _ _ _ _ _ => (pe_lst (pa_cons (pe_ix (ixTK (K := K) rfl) (pv 4) (pe_int) (fun _ _ => rfl)) (pa_cons (pe_ix (ixTK (K := K) rfl) (pv 4) (pe_int) (fun _ _ => rfl)) pa_nil))))) pa_nil)))))))) (pss_one (ps_ret (pe_lst (pa_cons (pe_str) pa_nil)))) pss_nil)
      (pss_one (ps_ret (pe_lst pa_nil)))))), ?_⟩
    have big : 100000 < sizeLine := by decide
    have lss := pair_len' hss
    have em : ∀ e, PySem.W.exmOne K (.ref (clsS T.c_BadStep T.c_NoThing T.c_NotHeld T.c_LockedBefore T.c_WrongMode e)) (.ref T.c_WebError) = some true := fun e => by
      cases e with
      | bad => exact T.em_BadStep_WebError
      | no => exact T.em_NoThing_WebError
      | nh => exact T.em_NotHeld_WebError
      | lb => exact T.em_LockedBefore_WebError
      | wm => exact T.em_WrongMode_WebError
    have new : ∀ {H1 : Hp} {trI : List Lk}, Le [y, a, b] H H1 → Sto T.c_Standing H1 y wb a b trI → ∀ {c : Addr}, H1 c = none → H c = none := fun {H1 trI} le S1 {c} h => by
      cases e : H c with
      | none => rfl
      | some w =>
        have : c ∉ [y, a, b] := fun m => by
          obtain ⟨⟨dx, f0⟩, f1, f2, _⟩ := S1
          simp only [List.mem_cons, List.not_mem_nil, or_false] at m
          rcases m with rfl | rfl | rfl
          · rw [f0] at h; cases h
          · rw [f1] at h; cases h
          · rw [f2] at h; cases h
        rw [le _ _ this e] at h; cases h
    refine ⟨_, rfl, p, rfl, ⟨_, SqL.of hp⟩, fun D hD => lc_list (K := K) (a := p) (xs := us) (fun i H' => Same H H' ∧ ∃ hs, H' D = some (.lst hs) ∧ HdPs H' hs (ss.take i) ∧ ∀ v ∈ hs, v ≠ .ref D) ⟨same_new hD, [], upd_same, .nil, fun _ h => (by cases h)⟩ (fun i H' _ h => SqL.of (h.1 _ _ hp)) ?_ ?_⟩
    · rintro i v H1 hv ⟨s1, hs, h1, p1, n1⟩
      obtain ⟨st, hst, qq, rfl, hq⟩ := pair_get' hss hv
      have hi := (List.getElem?_eq_some_iff.mp hv).1
      have hq1 := s1 _ _ hq
      have lhs := pair_len' p1
      rw [List.length_take] at lhs
      refine ⟨rfl, _, rfl, _, _, _, _, rfl, rfl, SqT.of hq1, atI_nat (j := 0) rfl, _, rfl, _, _, _, _, rfl, rfl, SqT.of hq1, atI_nat (j := 1) rfl, by show 2 ≤ sizeLine; decide, fun u hu => ?_⟩
      obtain ⟨p2, n2⟩ := hd_app (s := st) h1 p1 hu n1
      refine ⟨_, by rw [upd_ne (ne_of_none h1 hu)]; exact h1, by omega, same_mut (s1.trans (same_new hu)) hD, _, upd_same, ?_, n2⟩
      rw [List.take_add_one, hst]
      exact p2
    rintro H1 ⟨s1, hs, h1, p1, n1⟩
    rw [lss, List.take_length] at p1
    have lhs := pair_len' p1
    have S1 := S.same s1
    obtain ⟨⟨dy, hy⟩, _⟩ := id S1
    have W1 := W.same s1
    refine ⟨fun σ' H' => ∃ x4 x6, σ' = [some (.ref y), some (.ref p), some (.int f), some (.ref D), x4, some .non, x6] ∧ Le [y, a, b] H1 H' ∧ Sto T.c_Standing H' y wb a b (runT ts rs tr ss).1 ∧ (runT ts rs tr ss).2 = none, ?_, ?_⟩
    · have fail : ∀ {s : Stp} {e : SE} {H2 : Hp} {d : Addr}, (runT ts rs tr ss).2 = some (s, e) → Le [y, a, b] H1 H2 → Sto T.c_Standing H2 y wb a b (runT ts rs tr ss).1 → errS s.1 s.2 H2 d e → ∀ {u : Addr} {H3 : Hp}, Same H2 H3 → H2 u = none → DueL (NewIn H2) H3 u s.1 s.2 (some e) → Q (.ref u) H3 := fun {s e H2 d} er le2 S2 _ {u H3} s3 nu DU => by
        have le := (Le.same s1).trans le2
        refine q u H3 (le.trans (Le.same s3)) (S2.same s3) (new le S2 nu) ?_
        rw [er]
        exact DU.imp (fun a n => new le S2 n) (fun _ _ _ e => e) fun _ _ e => e
      refine ⟨_, rfl, rfl, _, rfl, iteD (fun c => ?_) (fun c => ⟨_, rfl, rfl, _, rfl, iteD (fun c2 => ?_) (fun c2 => ?_)⟩)⟩
      · refine ⟨_, rfl, y, dy, _, rfl, hy, rfl, _, rfl, y, wb, a, b, D, x, l, m, tr, ts, rs, ss, hs, rfl, S1, nd, by omega, W1, .inl h1, p1.toV, fun er H2 le2 S2 => ⟨_, _, rfl, le2, S2, er⟩, fun s e er H2 d le2 S2 nd2 hd => ⟨true, em e, fun _ a0 ha0 => ?_, fun z => nomatch z⟩⟩
        exact ⟨_, rfl, d, e, s.1, s.2, rfl, rfl, rfl, hd, fun u H3 s3 nu DU => fail er le2 S2 hd s3 nu DU⟩
      · refine ⟨_, rfl, y, dy, _, rfl, hy, rfl, _, rfl, p, us, rfl, .inl ⟨SqL.of (s1 _ _ hp), fun u0 hu0 => ?_⟩⟩
        have s2 := same_new (o := .tup us) hu0
        refine ⟨y, wb, a, b, u0, x, l, m, tr, ts, rs, ss, us, rfl, S1.same s2, nd, by omega, W1.same s2, .inr (.inl upd_same), (hss.same (s1.trans s2)).toV, fun er H2 le2 S2 => ⟨_, _, rfl, (Le.same s2).trans le2, S2, er⟩, fun s e er H2 d le2 S2 nd2 hd => ⟨true, em e, fun _ a0 ha0 => ?_, fun z => nomatch z⟩⟩
        exact ⟨_, rfl, d, e, s.1, s.2, rfl, rfl, rfl, hd, fun u H3 s3 nu DU => fail er ((Le.same s2).trans le2) S2 hd s3 nu DU⟩
      · have gd : ∀ x ∈ ss, goodS x := by
          rcases hf with h | h | h
          · exact absurd (by rw [h]) c
          · exact absurd (by rw [h]) c2
          · exact h
        refine ⟨_, rfl, y, dy, _, rfl, hy, rfl, fun z dz nz ndz _ => init_pgX (us := []) (ss := []) upd_same .nil (Nat.zero_le _) (fun _ H2 b2 p2 => ⟨rfl, ?_⟩) fun s hb => by cases hb⟩
        have s2 := same_make (C := T.c_Program) nz ndz b2
        have hp2 := s2 _ _ (s1 _ _ hp)
        obtain ⟨dz2, _, _, hz2, _⟩ := id p2
        refine ⟨_, rfl, z, dz2, _, rfl, hz2, .inr ⟨p, us, rfl, .inl (SqL.of hp2)⟩, z, p, [], ss, rfl, p2, fun _ h => (by cases h), .inr ⟨us, .inl (SqL.of hp2), (hss.same (s1.trans s2)).toV⟩, by simp; omega, fun _ z2 H3 s3 nz2 P3 => ?_, fun s hb => by rw [no_bad.mpr gd] at hb; cases hb⟩
        obtain ⟨dz3, l3, vs3, hz3, hl3, hs3, _⟩ := P3
        have hs3 : Stps H3 vs3 ss := hs3
        have s13 := s2.trans s3
        refine ⟨y, wb, a, b, z2, x, l, m, tr, ts, rs, ss, vs3, rfl, S1.same s13, nd, by omega, W1.same s13, .inr (.inr ⟨dz3, l3, hz3, hl3⟩), hs3.toV, fun er H4 le4 S4 => ⟨_, _, rfl, (Le.same s13).trans le4, S4, er⟩, fun s e er H4 d le4 S4 nd4 hd => ⟨true, em e, fun _ a0 ha0 => ?_, fun z => nomatch z⟩⟩
        exact ⟨_, rfl, d, e, s.1, s.2, rfl, rfl, rfl, hd, fun u H5 s5 nu DU => fail er ((Le.same s13).trans le4) S4 hd s5 nu DU⟩
    rintro σ' H2 ⟨x4, x6, rfl, le2, S2, er⟩
    have kp : ∀ {c : Addr} {o : HO}, H1 c = some o → (∀ xs, o ≠ .dK xs) → (∀ D dx v r, o ≠ .ins D dx (("web", v) :: r)) → H2 c = some o := fun h n1 n2 => sto_keep S1 le2 h n1 n2
    have hp2 := kp (s1 _ _ hp) (fun _ h => nomatch h) fun _ _ _ _ h => nomatch h
    have h2 := kp h1 (fun _ h => nomatch h) fun _ _ _ _ h => nomatch h
    have p2 := p1.keep fun a xs e => kp e (fun _ h => nomatch h) fun _ _ _ _ h => nomatch h
    have hss2 : Stps H2 us ss := (hss.same s1).keep fun a xs e => kp e (fun _ h => nomatch h) fun _ _ _ _ h => nomatch h
    obtain ⟨⟨dy2, hy2⟩, _⟩ := id S2
    refine ⟨_, rfl, rfl, _, rfl, iteNo (by decide) ⟨_, rfl, _, rfl, p, rfl, ⟨_, SqL.of hp2⟩, fun D2 hD2 => lc_list (K := K) (a := p) (xs := us) (fun i H' => Same H2 H' ∧ ∃ hs, H' D2 = some (.lst hs) ∧ HdPs H' hs (ss.take i) ∧ ∀ v ∈ hs, v ≠ .ref D2) ⟨same_new hD2, [], upd_same, .nil, fun _ h => (by cases h)⟩ (fun i H' _ h => SqL.of (h.1 _ _ hp2)) ?_ ?_⟩⟩
    · rintro i v H3 hv ⟨s3, hs', h3, p3, n3⟩
      obtain ⟨st, hst, qq, rfl, hq⟩ := pair_get' hss2 hv
      have hi := (List.getElem?_eq_some_iff.mp hv).1
      have hq1 := s3 _ _ hq
      have lhs := pair_len' p3
      rw [List.length_take] at lhs
      refine ⟨rfl, _, rfl, _, _, _, _, rfl, rfl, SqT.of hq1, atI_nat (j := 0) rfl, _, rfl, _, _, _, _, rfl, rfl, SqT.of hq1, atI_nat (j := 1) rfl, by show 2 ≤ sizeLine; decide, fun u hu => ?_⟩
      obtain ⟨p4, n4⟩ := hd_app (s := st) h3 p3 hu n3
      refine ⟨_, by rw [upd_ne (ne_of_none h3 hu)]; exact h3, by omega, same_mut (s3.trans (same_new hu)) hD2, _, upd_same, ?_, n4⟩
      rw [List.take_add_one, hst]
      exact p4
    rintro H3 ⟨s3, hs', h3, p3, n3⟩
    rw [lss, List.take_length] at p3
    have lhs3 := pair_len' p3
    have hy3 := s3 _ _ hy2
    have h23 := s3 _ _ h2
    have p23 := p2.keep fun a xs e => s3 _ _ e
    refine ⟨y, _, _, .list (ss.map hdD), .list (ss.map hdD), rfl, Dn.lst (nl_ne hy3 h23) (SqL.of h23) (hdDn p23 hy3) (by omega), Dn.lst (nl_ne hy3 h3) (SqL.of h3) (hdDn p3 hy3) (by omega), _, rfl, iteNo nsame ⟨Nat.zero_le _, fun u hu => ?_⟩⟩
    have le3 := ((Le.same s1).trans le2).trans (Le.same s3)
    have s4 := same_new (o := .lst []) hu
    have nu := new le3 (S2.same s3) hu
    refine q u _ (le3.trans (Le.same s4)) ((S2.same s3).same s4) nu ?_
    rw [er]
    exact ⟨nu, upd_same⟩
end
end My

namespace My
open PySem L2
theorem mtsN_but {t : Addr} {H H' : Hp} {us : List V} {ts : List Th} (h : MtsN [t] H us ts) (b : But t H H') : MtsN [t] H' us ts := mtsN_le h (.but (by simp) b)
theorem tup_but {t : Addr} {H H' : Hp} {K : PySem.W.Frag} {d : Addr} (D : Dr K H d t) (b : But t H H') : TKeep H H' := fun a xs e => b _ _ (fun z => by obtain ⟨k, h⟩ := D.pl; rw [z, h] at e; cases e) e
def spLRow (K : PySem.W.Frag) : Sp := fun vs H Q _ => ∃ (d t R M s : Addr) (c : Nat) (f : Int) (ws us : List V) (rs : List Row) (ts : List Th) (tr : List Lk), vs = [.ref d, .ref t, .ref R, .ref M, .ref s, .int c, .int f] ∧ Dr K H d t ∧ H R = some (.lst ws) ∧ R ≠ t ∧ RowsN (fun a => a ≠ t) true H ws rs ∧ H M = some (.lst us) ∧ M ≠ t ∧ MtsN [t] H us ts ∧ us.length ≤ 900 ∧ H s = some (.lst (stV tr ts.length)) ∧ s ≠ t ∧ c ≤ 100 ∧
  ∀ (cs : List V) (ss : List Stp) p H', Dr K H' d t → But t H H' → H p = none → H' p = some (.lst cs) → Stps H' cs ss → ss.length ≤ c → (f = 2 → ∀ x ∈ ss, goodS x) → Q (.ref p) H'
section
variable {P : Program} {w : World} {K : PySem.W.Frag} {mg : Str → Option Value} {base : Heap}
set_option maxHeartbeats 16000000 in
set_option pp.maxSteps 600 in
theorem ok__law_row (T : Txt K mg) : FnOk P w K mg base CX0 4 T.a__law_row T.fd__law_row ["_law_draws_here", "_law_at", "_law_rows_here", "_law_things_here", "_law_state", "_law_count", "_law_form"] (spLRow K) := by
  refine T.F__law_row.ok sc__law_row (fun vs H Q E h => ?_) (fun cdv A outer s H vs Q E hr h => ?_)
  · obtain ⟨d, t, R, M, s, c, f, ws, us, rs, ts, tr, rfl, _⟩ := h; rfl
  · obtain ⟨d, t, R, M, s, c, f, ws, us, rs, ts, tr, rfl, D0, hR, nR, rR, hM, nM, mM, lu, hs, ns, lc, q⟩ := h
    refine ⟨_, (pss_cons (ps_set (i := 7) sc__law_row.nd rfl (.inl rfl) (pe_callTy call_list_of (by rfl) T.n_list (by decide +kernel) (pa_cons (pv 4) pa_nil)))
      (pss_cons (ps_set (i := 8) sc__law_row.nd rfl (.inl rfl) (pe_lst pa_nil))
      (pss_cons (ps_for PassesOwn.never rfl (pi_range1 (by rfl) T.n_range (pa_cons (pv 5) pa_nil)) (pg_name (i := 9) sc__law_row.nd rfl (.inl rfl)) (pss_cons (ps_set (i := 10) sc__law_row.nd rfl (.inl rfl) (pe_call (ok__law_choices T) (hr.mono (by omega)) (by rfl) T.g__law_choices T.F__law_choices.kp T.b__law_choices .nil pass0 (pa_cons (pv 2) (pa_cons (pv 3) (pa_cons (pv 7) pa_nil)))))
      (pss_cons (ps_set (i := 11) sc__law_row.nd rfl (.inl rfl) (pe_tup (pa_cons (pe_str) (pa_cons (pe_callB call_len_seq (by rfl) T.n_len (by decide +kernel) (pa_cons (pv 3) pa_nil)) pa_nil))))
      (C8.pss_cut (ps_if (pt_cmpR op_gt (pe_callB call_len_seq (by rfl) T.n_len (by decide +kernel) (pa_cons (pv 10) pa_nil)) (pe_int) (nomark _)) (pss_one (ps_set (i := 11) sc__law_row.nd rfl (.inl rfl) (pe_ix ix_list (pv 10) (pe_op op_mod (pe_callTy call_int1 (by rfl) T.n_int (by decide +kernel) (pa_cons (pe_op op_add (pe_call (ok__law_take T) (hr.mono (by omega)) (by rfl) T.g__law_take T.F__law_take.kp T.b__law_take .nil pass0 (pa_cons (pv 0) (pa_cons (pv 1) (pa_cons (pe_callB call_len_seq (by rfl) T.n_len (by decide +kernel) (pa_cons (pv 10) pa_nil)) pa_nil)))) (pe_op op_mul (pe_int) (pv 9))) pa_nil)) (pe_callB call_len_seq (by rfl) T.n_len (by decide +kernel) (pa_cons (pv 10) pa_nil))) (fun _ _ => rfl)))) pss_nil)
      (C8.pss_cut (ps_if (pt_cmpR op_eq (pe_call (ok__law_take T) (hr.mono (by omega)) (by rfl) T.g__law_take T.F__law_take.kp T.b__law_take .nil pass0 (pa_cons (pv 0) (pa_cons (pv 1) (pa_cons (pe_int) pa_nil)))) (pe_int) (nomark _)) (pss_cons (ps_set (i := 11) sc__law_row.nd rfl (.inl rfl) (pe_tup (pa_cons (pe_ix ix_list (pe_lst (pa_cons (pe_str) (pa_cons (pe_str) (pa_cons (pe_str) (pa_cons (pe_str) pa_nil))))) (pe_call (ok__law_take T) (hr.mono (by omega)) (by rfl) T.g__law_take T.F__law_take.kp T.b__law_take .nil pass0 (pa_cons (pv 0) (pa_cons (pv 1) (pa_cons (pe_int) pa_nil)))) (fun _ _ => rfl)) (pa_cons (pe_op op_sub (pe_call (ok__law_take T) (hr.mono (by omega)) (by rfl) T.g__law_take T.F__law_take.kp T.b__law_take .nil pass0 (pa_cons (pv 0) (pa_cons (pv 1) (pa_cons (pe_op op_add (pe_callB call_len_seq (by rfl) T.n_len (by decide +kernel) (pa_cons (pv 3) pa_nil)) (pe_int)) pa_nil)))) (pe_int)) pa_nil))))
      (pss_one (ps_if (PW.pt (pw_and (pt_cmpR op_eq (pv 6) (pe_int) (nomark _)) (pw_and1 (PW.pt (pw_or (pt_cmpR op_eq (pe_ix ix_tup (pv 11) (pe_int) (fun _ _ => rfl)) (pe_str) (nomark _)) (pw_or1 (pt_cmpR op_lt (pe_ix ix_tup (pv 11) (pe_int) (fun _ _ => rfl)) (pe_int) (nomark _)))))))) (pss_one (ps_set (i := 11) sc__law_row.nd rfl (.inl rfl) (pe_tup (pa_cons (pe_str) (pa_cons (pe_callB call_len_seq (by rfl) T.n_len (by decide +kernel) (pa_cons (pv 3) pa_nil)) pa_nil))))) pss_nil))) pss_nil)
      (C8.pss_cut (ps_if (pt_cmpR op_eq (pe_callB call_len_seq (by rfl) T.n_len (by decide +kernel) (pa_cons (pe_call (ok__law_due T) (hr.mono (by omega)) (by rfl) T.g__law_due T.F__law_due.kp T.b__law_due .nil pass0 (pa_cons (pv 2) (pa_cons (pv 3) (pa_cons (pv 7) (pa_cons (pv 11) pa_nil))))) pa_nil)) (pe_int) (nomark _)) (pss_one (ps_expr (pe_call (ok__law_do T) (hr.mono (by omega)) (by rfl) T.g__law_do T.F__law_do.kp T.b__law_do .nil pass0 (pa_cons (pv 7) (pa_cons (pv 11) pa_nil))))) pss_nil)
      (pss_one (ps_expr (pe_bm PySem.F.plainAttrs_list PySem.F.slot_list_append PySem.F.type_list_append mt_append (pv 8) (pa_cons (pv 11) pa_nil))))))))))
      (pss_one (ps_ret (pv 8)))))), ?_⟩
    have big : 100000 < sizeLine := by decide
    have lts := pair_len' mM
    refine ⟨_, rfl, s, _, rfl, .inl (SqL.of hs), fun m hm => ?_⟩
    have nmt : m ≠ t := D0.na hm
    refine ⟨Nat.zero_le _, fun L hL => ?_⟩
    have nL0 : H L = none := (same_new hm).free hL
    have nLt : L ≠ t := D0.na nL0
    have nLm : L ≠ m := fun e => by rw [e, upd_same] at hL; cases hL
    have b0 : But t H (upd (upd H m (.lst (stV tr ts.length))) L (.lst [])) := (But.new hm).mut nL0
    have hm0 : (upd (upd H m (.lst (stV tr ts.length))) L (.lst [])) m = some (.lst (stV tr ts.length)) := by rw [upd_ne nLm.symm]; exact upd_same
    have ndm : d ≠ m := D0.ds.elim fun zs e => ne_of_none e hm
    have ndL : d ≠ L := D0.ds.elim fun zs e => ne_of_none e nL0
    have drm : ∀ {H2 : Hp} {a : Addr} {o : HO}, d ≠ a → a ≠ t → Dr K H2 d t → Dr K (upd H2 a o) d t := fun n1 n2 D => ⟨D.ds.elim fun zs e => ⟨zs, by rw [upd_ne n1]; exact e⟩, D.pl.elim fun k e => ⟨k, by rw [upd_ne n2.symm]; exact e⟩, D.ne⟩
    refine ⟨_, rfl, _, rfl, by omega, by omega, for_range (lo := 0) (n := c) (fun i σ H' => ∃ (x9 x10 x11 : Option V) (trM : List Lk) (cs : List V) (ss : List Stp), σ = [some (.ref d), some (.ref t), some (.ref R), some (.ref M), some (.ref s), some (.int c), some (.int f), some (.ref m), some (.ref L), x9, x10, x11] ∧ Dr K H' d t ∧ But t H H' ∧ H' m = some (.lst (stV trM ts.length)) ∧ H' L = some (.lst cs) ∧ Stps H' cs ss ∧ ss.length = i ∧ (f = 2 → ∀ x ∈ ss, goodS x)) ⟨_, _, _, tr, [], [], rfl, drm ndL nLt (D0.same (same_new hm)), b0, hm0, upd_same, .nil, rfl, fun _ _ h => (by cases h)⟩ ?_ ?_⟩
    · rintro i σ H1 hi ⟨x9, x10, x11, trM, cs, ss, rfl, D1, b1, hm1, hL1, p1, l1, g1⟩
      rw [Int.zero_add]
      have lcs := pair_len' p1
      have hR1 := b1 _ _ nR hR
      have rR1 : RowsN (fun _ => True) true H1 ws rs := rowsN_sub (rowsN_le rR fun a o f e => b1 a o f e) fun _ _ => trivial
      have hM1 := b1 _ _ nM hM
      have mM1 := mtsN_but mM b1
      refine ⟨_, rfl, _, rfl, _, rfl, R, M, m, ws, us, rs, ts, trM, rfl, hR1, rR1, hM1, mtsN_sub mM1 (by simp), lu, hm1, fun ch sc u H2 s2 nu hu pc gc lch => ?_⟩
      have lchs := pair_len' pc
      have D2 := D1.same s2
      have b2 := b1.trans (But.of_same s2)
      -- a step that is always there
      refine ⟨_, rfl, M, us, rfl, .inl (SqL.of (s2 _ _ hM1)), by show 2 ≤ sizeLine; decide, fun v hv => ?_⟩
      have s3 := s2.trans (same_new (o := .tup [.str "drop", .int us.length]) hv)
      have s23 := same_new (o := .tup [.str "drop", .int us.length]) hv
      have hv3 : (upd H2 v (.tup [.str "drop", .int us.length])) v = some (.tup [.str "drop", .int us.length]) := upd_same
      revert s3 hv3 s23
      generalize upd H2 v (.tup [.str "drop", .int us.length]) = H3
      intro s3 s23 hv3
      have D3 := D1.same s3
      have b3 := b1.trans (But.of_same s3)
      have hu3 := s23 _ _ hu
      have nut : u ≠ t := D1.na nu
      have kt : ∀ {H' : Hp}, But t H3 H' → TKeep H3 H' := fun b => tup_but D3 b
      refine ⟨fun σ' H' => ∃ (q2 : Addr) (st : Stp), σ' = [some (.ref d), some (.ref t), some (.ref R), some (.ref M), some (.ref s), some (.int c), some (.int f), some (.ref m), some (.ref L), some (.int (i : Nat)), some (.ref u), some (.ref q2)] ∧ But t H3 H' ∧ Dr K H' d t ∧ H' q2 = some (.tup [.str st.1, .int st.2]) ∧ goodS st, ?_, ?_⟩
      · refine ⟨_, rfl, u, ch, rfl, .inl (SqL.of hu3), _, _, rfl, rfl, _, rfl, iteD (fun c0 => ?_) (fun c0 => ⟨v, ("drop", (us.length : Nat)), rfl, .refl _ _, D3, hv3, .inr (.inr rfl), by show (0 : Int) ≤ _; omega⟩)⟩
        have pos : 0 < ch.length := by omega
        refine ⟨_, rfl, _, rfl, _, rfl, _, rfl, u, ch, rfl, .inl (SqL.of hu3), d, t, ((ch.length : Nat) : Int), rfl, D3, by omega, fun r H4 r0 r1 D4 b4 => ?_⟩
        have hu4 := b4 _ _ nut hu3
        obtain ⟨v', hv', mv'⟩ := at_ok (xs := ch) (i := (r + 2 * ((i : Nat) : Int)) % ((ch.length : Nat) : Int)) (Int.emod_nonneg _ (by omega)) (Int.emod_lt_of_pos _ (by omega))
        obtain ⟨k, hk⟩ := List.mem_iff_getElem?.mp mv'
        obtain ⟨st, hst, q2, rfl, hq2⟩ := pair_get' pc hk
        refine ⟨_, rfl, _, _, rfl, rfl, .inl ⟨by decide, by decide⟩, _, _, rfl, rfl, .inl ⟨_, rfl, _, rfl, u, ch, rfl, .inl (SqL.of hu4), _, _, rfl, rfl, by show (0 : Int) < ((ch.length : Nat) : Int); omega, _, _, _, _, rfl, rfl, SqL.of hu4, hv', ?_⟩⟩
        exact ⟨q2, st, rfl, b4, D4, kt b4 _ _ (s23 _ _ hq2), gc st (List.mem_of_getElem? hst)⟩
      rintro σ' H4 ⟨q2, st, rfl, b4, D4, hq4, gst⟩
      refine ⟨fun σ' H' => ∃ (q2 : Addr) (st : Stp), σ' = [some (.ref d), some (.ref t), some (.ref R), some (.ref M), some (.ref s), some (.int c), some (.int f), some (.ref m), some (.ref L), some (.int (i : Nat)), some (.ref u), some (.ref q2)] ∧ But t H3 H' ∧ Dr K H' d t ∧ H' q2 = some (.tup [.str st.1, .int st.2]) ∧ (f = 2 → goodS st), ?_, ?_⟩
      · refine ⟨_, rfl, _, rfl, d, t, 7, rfl, D4, by decide, fun r H5 _ _ D5 b5 => ⟨rfl, _, rfl, iteD (fun _ => ?_) (fun _ => ⟨q2, st, rfl, b4.trans b5, D5, tup_but D4 b5 _ _ hq4, fun _ => gst⟩)⟩⟩
        have b35 := b4.trans b5
        refine ⟨by show 4 ≤ sizeLine; decide, fun k4 hk4 => ?_⟩
        have nk4 : k4 ≠ t := D5.na hk4
        refine ⟨_, rfl, _, rfl, d, t, 4, rfl, D5.same (same_new hk4), by decide, fun r4 H6 z0 z1 D6 b6 => ?_⟩
        obtain ⟨vz, hz, mz⟩ := at_ok (xs := [.str "own", .str "share", .str "drop", .str "lock"]) z0 z1
        obtain ⟨z, rfl, gz⟩ : ∃ z : Str, vz = .str z ∧ (z ≠ "lock" → deedOk z) := by
          simp only [List.mem_cons, List.not_mem_nil, or_false] at mz
          rcases mz with rfl | rfl | rfl | rfl
          · exact ⟨_, rfl, fun _ => .inl rfl⟩
          · exact ⟨_, rfl, fun _ => .inr (.inl rfl)⟩
          · exact ⟨_, rfl, fun _ => .inr (.inr rfl)⟩
          · exact ⟨_, rfl, fun h => absurd rfl h⟩
        have b36 := (b35.trans (But.of_same (same_new hk4))).trans b6
        have hM6 := b36 _ _ nM (s3 _ _ hM1)
        refine ⟨_, _, _, _, rfl, rfl, SqL.of (b6 _ _ nk4 upd_same), hz, ?_⟩
        refine ⟨_, rfl, _, rfl, _, rfl, M, us, rfl, .inl (SqL.of hM6), _, _, rfl, rfl, d, t, ((us.length : Nat) : Int) + 2, rfl, D6, by omega, fun r7 H7 y0 y1 D7 b7 => ?_⟩
        refine ⟨_, _, rfl, rfl, by show 2 ≤ sizeLine; decide, fun q7 hq7 => ?_⟩
        have b38 := (b36.trans b7).trans (But.of_same (same_new (o := .tup [.str z, .int (r7 - 1)]) hq7))
        have D8 := D7.same (same_new (o := .tup [.str z, .int (r7 - 1)]) hq7)
        have hq8 : (upd H7 q7 (.tup [.str z, .int (r7 - 1)])) q7 = some (.tup [.str z, .int (r7 - 1)]) := upd_same
        revert b38 D8 hq8
        generalize upd H7 q7 (.tup [.str z, .int (r7 - 1)]) = H8
        intro b38 D8 hq8
        have hM8 := b38 _ _ nM (s3 _ _ hM1)
        have stay : (f = 2 → z ≠ "lock" ∧ 0 ≤ r7 - 1) → (f = 2 → goodS (z, r7 - 1)) := fun h e => ⟨gz (h e).1, (h e).2⟩
        have turn : ∀ w9, H8 w9 = none → But t H3 (upd H8 w9 (.tup [.str "drop", .int ((us.length : Nat) : Int)])) ∧ Dr K (upd H8 w9 (.tup [.str "drop", .int ((us.length : Nat) : Int)])) d t := fun w9 h => ⟨b38.trans (But.of_same (same_new h)), D8.same (same_new h)⟩
        refine ⟨_, rfl, rfl, _, rfl, iteD (fun c2 => ?_) (fun c2 => ?_)⟩
        · refine ⟨_, rfl, _, _, _, _, rfl, rfl, SqT.of hq8, atI_nat (j := 0) rfl, rfl, _, rfl, iteD (fun c3 => ?_) (fun c3 => ⟨_, rfl, _, _, _, _, rfl, rfl, SqT.of hq8, atI_nat (j := 1) rfl, _, _, rfl, rfl, _, rfl, iteD (fun c4 => ?_) (fun c4 => ?_)⟩)⟩
          · exact iteT ⟨_, rfl, M, us, rfl, .inl (SqL.of hM8), by show 2 ≤ sizeLine; decide, fun w9 hw9 => ⟨w9, ("drop", ((us.length : Nat) : Int)), rfl, (turn w9 hw9).1, (turn w9 hw9).2, upd_same, fun _ => ⟨.inr (.inr rfl), by show (0 : Int) ≤ _; omega⟩⟩⟩
          · exact ⟨_, rfl, M, us, rfl, .inl (SqL.of hM8), by show 2 ≤ sizeLine; decide, fun w9 hw9 => ⟨w9, ("drop", ((us.length : Nat) : Int)), rfl, (turn w9 hw9).1, (turn w9 hw9).2, upd_same, fun _ => ⟨.inr (.inr rfl), by show (0 : Int) ≤ _; omega⟩⟩⟩
          · exact ⟨q7, (z, r7 - 1), rfl, b38, D8, hq8, stay fun _ => ⟨fun h => c3 (by rw [h]), by omega⟩⟩
        · exact iteF ⟨q7, (z, r7 - 1), rfl, b38, D8, hq8, fun e => absurd (by rw [e]) c2⟩
      rintro σ' H5 ⟨q2, st, rfl, b5, D5, hq5, gst⟩
      have b05 := b3.trans b5
      have hm5 := b5 _ _ nmt (s3 _ _ hm1)
      have hL5 := b5 _ _ nLt (s3 _ _ hL1)
      have p5 := (p1.same s3).keep (kt b5)
      have hM5 := b05 _ _ nM hM
      refine ⟨fun σ' H' => ∃ trM' : List Lk, σ' = [some (.ref d), some (.ref t), some (.ref R), some (.ref M), some (.ref s), some (.int c), some (.int f), some (.ref m), some (.ref L), some (.int (i : Nat)), some (.ref u), some (.ref q2)] ∧ Dr K H' d t ∧ But t H H' ∧ H' m = some (.lst (stV trM' ts.length)) ∧ H' L = some (.lst cs) ∧ Stps H' cs ss ∧ H' q2 = some (.tup [.str st.1, .int st.2]), ?_, ?_⟩
      · refine ⟨_, rfl, _, rfl, _, rfl, _, rfl, R, M, m, q2, ws, us, rs, ts, trM, st.1, st.2, rfl, b05 _ _ nR hR, rowsN_sub (rowsN_le rR fun a o f e => b05 a o f e) (fun _ _ => trivial), hM5, mtsN_sub (mtsN_but mM b05) (by simp), lu, hm5, hq5, fun du H6 s6 ndu DU => ?_⟩
        obtain ⟨_, xs, hdu, lxs⟩ := DU.at
        have b06 := b05.trans (But.of_same s6)
        have D6 := D5.same s6
        have p6 := p5.same s6
        refine ⟨du, xs, rfl, .inl (SqL.of hdu), rfl, _, rfl, ?_⟩
        cases he : dueS ts rs trM st.1 st.2 with
        | some e =>
          rw [he] at lxs
          exact iteNo (by rw [lxs]; rfl) ⟨trM, rfl, D6, b06, s6 _ _ hm5, s6 _ _ hL5, p6, s6 _ _ hq5⟩
        | none =>
          rw [he] at lxs
          obtain ⟨ok, i1, dd, dl⟩ := due_none he
          obtain ⟨z, th⟩ := st
          obtain ⟨j, rfl⟩ := Int.eq_ofNat_of_zero_le i1.1
          have hj : j < ts.length := by have := i1.2; omega
          have hm6 := s6 _ _ hm5
          have hq6 := s6 _ _ hq5
          have nqm : q2 ≠ m := fun e => by rw [e, hm6] at hq6; cases hq6
          refine iteYes (by rw [lxs]; rfl) ⟨_, rfl, _, rfl, m, q2, trM, ts.length, j, z, rfl, hm6, hq6, by omega, hj, ok, dd, dl, ?_⟩
          exact ⟨actS trM z ((j : Nat) : Int), rfl, drm ndm nmt D6, b06.mut hm, upd_same, by rw [upd_ne nLm]; exact s6 _ _ hL5, p6.keep (fun a xs e => by rw [upd_ne (fun h => by rw [h, hm6] at e; cases e)]; exact e), by rw [upd_ne nqm]; exact hq6⟩
      rintro σ' H6 ⟨trM', rfl, D6, b6, hm6, hL6, p6, hq6⟩
      have lcs6 := pair_len' p6
      refine ⟨_, rfl, .inl ⟨rfl, _, SqL.of hL6⟩, _, rfl, _, _, _, rfl, rfl, hL6, by omega, _, _, _, trM', cs ++ [.ref q2], ss ++ [st], rfl, drm ndL nLt D6, b6.mut nL0, by rw [upd_ne nLm.symm]; exact hm6, upd_same, ?_, by rw [List.length_append]; simp; omega, fun e => good_app (g1 e) (gst e)⟩
      have kL : TKeep H6 (upd H6 L (.lst (cs ++ [.ref q2]))) := fun a xs e => by rw [upd_ne (fun h => by rw [h, hL6] at e; cases e)]; exact e
      exact pair_app' (p6.keep kL) (.cons ⟨q2, rfl, kL _ _ hq6⟩ .nil)
    · rintro σ H1 ⟨x9, x10, x11, trM, cs, ss, rfl, D1, b1, hm1, hL1, p1, l1, g1⟩
      exact ⟨_, rfl, q cs ss L H1 D1 b1 nL0 hL1 p1 (by omega) g1⟩
end
end My

namespace My
open PySem L2
/-- all in A are lists -/
def Lsts (A : List Addr) (H : Hp) : Prop := ∀ a ∈ A, ∃ xs, H a = some (.lst xs)
theorem ShN.le {F : Addr → Prop} {C : Addr} {H H' : Hp} {x : Addr} {rs : List Row} {A : List Addr} (h : ShN F C H x rs) (hA : Lsts A H) (f : ∀ a, F a → a ∉ A) (l : Le A H H') : ShN F C H' x rs := by
  obtain ⟨dx, l1, m1, vs, f1, f2, hx, hl, hr, hm⟩ := h
  have nt : ∀ {a : Addr} {xs : List V}, H a = some (.tup xs) → a ∉ A := fun e m => by obtain ⟨ys, h⟩ := hA _ m; rw [h] at e; cases e
  have nx : x ∉ A := fun m => by obtain ⟨ys, h⟩ := hA _ m; rw [h] at hx; cases hx
  exact ⟨dx, l1, m1, vs, f1, f2, l _ _ nx hx, l _ _ (f _ f1) hl, rowsT_keep hr fun a xs e => l _ _ (nt e) e, l _ _ (f _ f2) hm⟩
theorem ShN.same {F : Addr → Prop} {C : Addr} {H H' : Hp} {x : Addr} {rs : List Row} (h : ShN F C H x rs) (s : Same H H') : ShN F C H' x rs := by
  obtain ⟨dx, l1, m1, vs, f1, f2, hx, hl, hr, hm⟩ := h
  exact ⟨dx, l1, m1, vs, f1, f2, s _ _ hx, s _ _ hl, rowsT_same hr s, s _ _ hm⟩
theorem Dr.le {K : PySem.W.Frag} {H H' : Hp} {d t : Addr} {A : List Addr} (x : Dr K H d t) (l : Le A H H') (n1 : d ∉ A) (n2 : t ∉ A) : Dr K H' d t :=
  ⟨x.ds.elim fun ns h => ⟨ns, l _ _ n1 h⟩, x.pl.elim fun k h => ⟨k, l _ _ n2 h⟩, x.ne⟩
end My

namespace My
open PySem L2
def spLaw (K : PySem.W.Frag) : Sp := fun vs H Q _ => ∃ (a : Addr) (ns : List Int), vs = [.ref a] ∧ SqL K H a (ns.map V.int) ∧ ns.length ≤ 63 ∧ ∀ H', Q (.bl true) H'
theorem ths_kn {rs : List Row} {ts : List Th} (h : ThsOk rs ts) : ∀ th ∈ ts, findR rs th.1 ≠ none := fun t ht => by
  obtain ⟨k, hk⟩ := List.mem_iff_getElem?.mp ht
  obtain ⟨⟨⟨r, fr, _⟩, _, _⟩, _, _⟩ := h k t hk
  rw [fr]; exact fun h => nomatch h
/-! ### what stays: the rows, the things, the web -/
structure Fz (Cw Cs t w x l m R M : Addr) (ws us : List V) (rs : List Row) (ts : List Th) (H : Hp) : Prop where
  web : Wb Cw H w x l m ts
  nl : l ≠ t
  nm : m ≠ t
  sh : ShN (fun a => a ∉ [t]) Cs H x rs
  rw : H R = some (.lst ws)
  rr : RowsN (fun a => a ≠ t) true H ws rs
  nR : R ≠ t
  mo : H M = some (.lst us)
  mm : MtsN [t] H us ts
  nM : M ≠ t
  tl : ∃ xs, H t = some (.lst xs)
theorem Fz.but {Cw Cs t w x l m R M : Addr} {ws us : List V} {rs : List Row} {ts : List Th} {H H' : Hp} (F : Fz Cw Cs t w x l m R M ws us rs ts H) (b : But t H H') (tl : ∃ xs, H' t = some (.lst xs)) : Fz Cw Cs t w x l m R M ws us rs ts H' := by
  obtain ⟨xs, ht⟩ := F.tl
  have le : Le [t] H H' := .but (by simp) b
  refine ⟨F.web.keep (fun o e => ?_) (fun o e => b _ _ F.nl e) (fun o e => b _ _ F.nm e) (fun a ys e => b _ _ (fun h => ?_) e), F.nl, F.nm, F.sh.le (fun a h => ?_) (fun _ h => h) le, b _ _ F.nR F.rw, rowsN_le F.rr (fun a o f e => b a o f e), F.nR, b _ _ F.nM F.mo, mtsN_le F.mm le, F.nM, tl⟩
  · obtain ⟨dy, hy⟩ := F.web.obj
    exact b _ _ (fun h => by rw [h, ht] at hy; cases hy) e
  · rw [h, ht] at e; cases e
  · rw [List.mem_singleton.mp h]; exact ⟨xs, ht⟩
theorem Fz.onW {Cw Cs t w x l m R M : Addr} {ws us : List V} {rs : List Row} {ts : List Th} {H : Hp} (F : Fz Cw Cs t w x l m R M ws us rs ts H) (k : ∀ th ∈ ts, findR rs th.1 ≠ none) : OnW Cw Cs H w x l m ts rs := ⟨F.web, F.sh.sh, k⟩
/-! ### what changes: a standing and its copy, their states and orders -/
structure E19 (pr : Bool → Prop) (t : Addr) (g : Nat → Bool → Addr) (H0 : Hp) : Prop where
  inj : ∀ i j b c, pr b → pr c → i < 5 → j < 5 → g i b = g j c → i = j ∧ b = c
  nt : ∀ i b, pr b → i < 5 → g i b ≠ t
  n0 : ∀ i b, pr b → i < 5 → H0 (g i b) = none
def setW {α : Type} (f : Bool → α) (b : Bool) (u : α) : Bool → α := fun c => if c = b then u else f c
theorem setW_same {α : Type} {f : Bool → α} {b : Bool} {u : α} : setW f b u b = u := if_pos rfl
theorem setW_ne {α : Type} {f : Bool → α} {b c : Bool} {u : α} (n : c ≠ b) : setW f b u c = f c := if_neg n
theorem setW_id {α : Type} (f : Bool → α) (b : Bool) : setW f b (f b) = f := funext fun c => by
  unfold setW
  by_cases h : c = b
  · rw [if_pos h, h]
  · rw [if_neg h]
structure G19 (pr : Bool → Prop) (K : PySem.W.Frag) (C w d t : Addr) (g : Nat → Bool → Addr) (n : Nat) (H0 H : Hp) (tr sr : Bool → List Lk) : Prop where
  b0 : But t H0 H
  dr : Dr K H d t
  st : ∀ b, pr b → Sto C H (g 0 b) w (g 1 b) (g 2 b) (tr b)
  sl : ∀ b, pr b → H (g 3 b) = some (.lst (stV (sr b) n))
  ol : ∀ b, pr b → H (g 4 b) = some (.lst ((thsL (sr b)).map V.int))
/-- no address of the changing ones -/
def Off9 (pr : Bool → Prop) (t : Addr) (g : Nat → Bool → Addr) (a : Addr) : Prop := a ≠ t ∧ ∀ i b, pr b → i < 5 → a ≠ g i b
section
variable {pr : Bool → Prop} {K : PySem.W.Frag} {C w d t : Addr} {g : Nat → Bool → Addr} {n : Nat} {H0 H H' : Hp} {tr sr : Bool → List Lk}
theorem G19.has (G : G19 pr K C w d t g n H0 H tr sr) (i : Nat) (b : Bool) (hb : pr b) (h : i < 5) : ∃ o, H (g i b) = some o ∧ ∀ xs, o ≠ .tup xs := by
  obtain ⟨⟨dx, e0⟩, e1, e2, _⟩ := G.st b hb
  match i, h with
  | 0, _ => exact ⟨_, e0, fun _ h => nomatch h⟩
  | 1, _ => exact ⟨_, e1, fun _ h => nomatch h⟩
  | 2, _ => exact ⟨_, e2, fun _ h => nomatch h⟩
  | 3, _ => exact ⟨_, G.sl b hb, fun _ h => nomatch h⟩
  | 4, _ => exact ⟨_, G.ol b hb, fun _ h => nomatch h⟩
theorem G19.off (G : G19 pr K C w d t g n H0 H tr sr) {a : Addr} (h : H a = none) : Off9 pr t g a :=
  ⟨G.dr.na h, fun i b hb hi e => by obtain ⟨o, e2, _⟩ := G.has i b hb hi; rw [← e, h] at e2; cases e2⟩
theorem G19.old (E : E19 pr t g H0) {a : Addr} {o : HO} (h : H0 a = some o) (n : a ≠ t) : Off9 pr t g a := ⟨n, fun i b hb hi e => by rw [e, E.n0 i b hb hi] at h; cases h⟩
theorem G19.but (G : G19 pr K C w d t g n H0 H tr sr) (E : E19 pr t g H0) (b : But t H H') (dr : Dr K H' d t) : G19 pr K C w d t g n H0 H' tr sr :=
  ⟨G.b0.trans b, dr, fun c hc => (G.st c hc).keep (fun o e => b _ _ (E.nt 0 c hc (by decide)) e) (fun o e => b _ _ (E.nt 1 c hc (by decide)) e) (fun o e => b _ _ (E.nt 2 c hc (by decide)) e), fun c hc => b _ _ (E.nt 3 c hc (by decide)) (G.sl c hc), fun c hc => b _ _ (E.nt 4 c hc (by decide)) (G.ol c hc)⟩
theorem G19.same (G : G19 pr K C w d t g n H0 H tr sr) (E : E19 pr t g H0) (s : Same H H') : G19 pr K C w d t g n H0 H' tr sr := G.but E (But.of_same s) (G.dr.same s)
theorem G19.keep (G : G19 pr K C w d t g n H0 H tr sr) (E : E19 pr t g H0) (dH : ∃ o, H0 d = some o) {X : List Addr} (l : Le X H H') (hX : ∀ a ∈ X, ∃ i b, pr b ∧ i < 5 ∧ a = g i b) {tr' sr' : Bool → List Lk}
    (st : ∀ b, pr b → Sto C H' (g 0 b) w (g 1 b) (g 2 b) (tr' b)) (sl : ∀ b, pr b → H' (g 3 b) = some (.lst (stV (sr' b) n))) (ol : ∀ b, pr b → H' (g 4 b) = some (.lst ((thsL (sr' b)).map V.int))) : G19 pr K C w d t g n H0 H' tr' sr' := by
  have n1 : ∀ {a : Addr}, (∀ i b, pr b → i < 5 → a ≠ g i b) → a ∉ X := fun h m => by obtain ⟨i, b, hb, hi, e⟩ := hX _ m; exact h i b hb hi e
  have dle : Dr K H' d t := ⟨G.dr.ds.elim fun zs e => ⟨zs, l _ _ (n1 fun i b hb hi e => by obtain ⟨o, h⟩ := dH; rw [e, E.n0 i b hb hi] at h; cases h) e⟩, G.dr.pl.elim fun k e => ⟨k, l _ _ (n1 fun i b hb hi e => E.nt i b hb hi e.symm) e⟩, G.dr.ne⟩
  exact ⟨fun a o na e => l a o (n1 fun i b hb hi h => by rw [h, E.n0 i b hb hi] at e; cases e) (G.b0 a o na e), dle, st, sl, ol⟩
theorem G19.run (G : G19 pr K C w d t g n H0 H tr sr) (E : E19 pr t g H0) (dH : ∃ o, H0 d = some o) {b : Bool} (hb : pr b) {u : List Lk} (l : Le [g 0 b, g 1 b, g 2 b] H H') (s : Sto C H' (g 0 b) w (g 1 b) (g 2 b) u) : G19 pr K C w d t g n H0 H' (setW tr b u) sr := by
  have ne : ∀ i c, pr c → i < 5 → (c ≠ b ∨ 3 ≤ i) → g i c ∉ [g 0 b, g 1 b, g 2 b] := fun i c hc hi h m => by
    simp only [List.mem_cons, List.not_mem_nil, or_false] at m
    rcases m with m | m | m <;>
    · obtain ⟨e1, e2⟩ := E.inj _ _ _ _ hc hb hi (by decide) m
      rcases h with h | h
      · exact h e2
      · omega
  refine G.keep E dH l (fun a h => ?_) (fun c hc => ?_) (fun c hc => l _ _ (ne 3 c hc (by decide) (.inr (by decide))) (G.sl c hc)) (fun c hc => l _ _ (ne 4 c hc (by decide) (.inr (by decide))) (G.ol c hc))
  · simp only [List.mem_cons, List.not_mem_nil, or_false] at h
    rcases h with h | h | h
    · exact ⟨0, b, hb, by decide, h⟩
    · exact ⟨1, b, hb, by decide, h⟩
    · exact ⟨2, b, hb, by decide, h⟩
  · by_cases e : c = b
    · subst e; rw [setW_same]; exact s
    · rw [setW_ne e]
      exact (G.st c hc).keep (fun o h => l _ _ (ne 0 c hc (by decide) (.inl e)) h) (fun o h => l _ _ (ne 1 c hc (by decide) (.inl e)) h) (fun o h => l _ _ (ne 2 c hc (by decide) (.inl e)) h)
theorem G19.walk (G : G19 pr K C w d t g n H0 H tr sr) (E : E19 pr t g H0) (dH : ∃ o, H0 d = some o) {b : Bool} (hb : pr b) {u : List Lk} (l : Le [g 3 b, g 4 b] H H') (h3 : H' (g 3 b) = some (.lst (stV u n))) (h4 : H' (g 4 b) = some (.lst ((thsL u).map V.int))) : G19 pr K C w d t g n H0 H' tr (setW sr b u) := by
  have ne : ∀ i c, pr c → i < 5 → (c ≠ b ∨ i < 3) → g i c ∉ [g 3 b, g 4 b] := fun i c hc hi h m => by
    simp only [List.mem_cons, List.not_mem_nil, or_false] at m
    rcases m with m | m <;>
    · obtain ⟨e1, e2⟩ := E.inj _ _ _ _ hc hb hi (by decide) m
      rcases h with h | h
      · exact h e2
      · omega
  refine G.keep E dH l (fun a h => ?_) (fun c hc => ?_) (fun c hc => ?_) (fun c hc => ?_)
  · simp only [List.mem_cons, List.not_mem_nil, or_false] at h
    rcases h with h | h
    · exact ⟨3, b, hb, by decide, h⟩
    · exact ⟨4, b, hb, by decide, h⟩
  · exact (G.st c hc).keep (fun o h => l _ _ (ne 0 c hc (by decide) (.inr (by decide))) h) (fun o h => l _ _ (ne 1 c hc (by decide) (.inr (by decide))) h) (fun o h => l _ _ (ne 2 c hc (by decide) (.inr (by decide))) h)
  · by_cases e : c = b
    · subst e; rw [setW_same]; exact h3
    · rw [setW_ne e]; exact l _ _ (ne 3 c hc (by decide) (.inl e)) (G.sl c hc)
  · by_cases e : c = b
    · subst e; rw [setW_same]; exact h4
    · rw [setW_ne e]; exact l _ _ (ne 4 c hc (by decide) (.inl e)) (G.ol c hc)
end
/-! ### what a standing has may be taken anew -/
theorem due_share {ts : List Th} {rs : List Row} {tr : List Lk} {t : Int} (h : dueS ts rs tr "share" t = none) : sharedW rs ts t = true := by
  obtain ⟨ok, i, _, dl⟩ := due_none h
  rw [due_lock ok i (by decide), dl (by decide), if_neg (by simp)] at h
  by_cases c : sharedW rs ts t = true
  · exact c
  · rw [if_pos ⟨rfl, by simpa using c⟩] at h; cases h
theorem takeOk_act {ts : List Th} {rs : List Row} {tr : List Lk} {z : Str} {t : Int} (O : TakeOk ts rs tr) (h : dueS ts rs tr z t = none) : TakeOk ts rs (actS tr z t) := by
  obtain ⟨ok, i, _, dl⟩ := due_none h
  have key : ∀ k ∈ actS tr z t, inW ts k.1 ∧ (k.2.1 = false → sharedW rs ts k.1 = true) := fun k hk => by
    unfold actS at hk
    by_cases c : z = "drop"
    · rw [if_pos c] at hk
      unfold dropT at hk
      obtain ⟨j, hj, e⟩ := List.mem_map.mp hk
      have e1 : k.1 = j.1 := by rw [← e]; split <;> rfl
      have e2 : k.2.1 = j.2.1 := by rw [← e]; split <;> rfl
      rw [e1, e2]
      exact ⟨O.inw j hj, O.sh j hj⟩
    · rw [if_neg c] at hk
      rcases List.mem_append.mp hk with hk | hk
      · exact ⟨O.inw k hk, O.sh k hk⟩
      · rw [List.mem_singleton.mp hk]
        refine ⟨i, fun e => ?_⟩
        have e : ¬ z = "own" := of_decide_eq_false e
        rcases ok with h1 | h1 | h1
        · exact absurd h1 e
        · subst h1; exact due_share h
        · exact absurd h1 c
  exact ⟨act_nd h O.nd, fun k hk => (key k hk).1, fun k hk => (key k hk).2⟩
theorem takeOk_run {ts : List Th} {rs : List Row} : ∀ (ss : List Stp) {tr : List Lk}, TakeOk ts rs tr → TakeOk ts rs (runT ts rs tr ss).1 ∧ (runT ts rs tr ss).1.length ≤ tr.length + ss.length
  | [], tr, O => ⟨O, Nat.le_refl _⟩
  | s :: ss, tr, O => by
    cases e : dueS ts rs tr s.1 s.2 with
    | none =>
      rw [runT_go e]
      obtain ⟨h1, h2⟩ := takeOk_run ss (takeOk_act O e)
      exact ⟨h1, by have := act_len tr s.1 s.2; simp only [List.length_cons]; omega⟩
    | some e' => rw [runT_stop e]; exact ⟨O, by simp⟩
end My

namespace My
open PySem L2
theorem markW_app {ts us : List Th} {p : Int} (h : inW ts p) : markW (ts ++ us) p = markW ts p := by
  unfold inW at h; unfold markW
  rw [List.getD_eq_getElem?_getD, List.getD_eq_getElem?_getD, List.getElem?_append_left (by omega)]
theorem TakeOk.grow {ts us : List Th} {rs : List Row} {tr : List Lk} (O : TakeOk ts rs tr) : TakeOk (ts ++ us) rs tr := by
  refine ⟨O.nd, fun k hk => ?_, fun k hk e => ?_⟩
  · have i := O.inw k hk
    unfold inW at i ⊢
    rw [List.length_append]; omega
  · have h := O.sh k hk e
    unfold sharedW at h ⊢
    rw [markW_app (O.inw k hk)]; exact h
theorem stV_grow {tr : List Lk} {n : Nat} (h : ∀ k ∈ tr, k.1 < (n : Int)) : stV tr (n + 1) = stV tr n ++ [.int 0] := by
  have e : lkAt tr ((n : Nat) : Int) = none := by
    unfold lkAt
    rw [List.find?_eq_none]
    intro k hk
    have := h k hk
    simp
    omega
  unfold stV
  rw [List.range_succ, List.map_append]
  simp only [List.map_cons, List.map_nil, e]
  rfl
/-! ### the rows and the shape alone -/
structure Fb (Cs t x R : Addr) (ws : List V) (rs : List Row) (H : Hp) : Prop where
  sh : ShN (fun a => a ∉ [t]) Cs H x rs
  rw : H R = some (.lst ws)
  rr : RowsN (fun a => a ≠ t) true H ws rs
  nR : R ≠ t
  tl : ∃ xs, H t = some (.lst xs)
theorem Fb.fz {Cw Cs t w x l m R M : Addr} {ws us : List V} {rs : List Row} {ts : List Th} {H H' : Hp} (F : Fb Cs t x R ws rs H) (b : But t H H') (tl : ∃ xs, H' t = some (.lst xs)) (web : Wb Cw H' w x l m ts) (nl : l ≠ t) (nm : m ≠ t) (mo : H' M = some (.lst us)) (mm : MtsN [t] H' us ts) (nM : M ≠ t) : Fz Cw Cs t w x l m R M ws us rs ts H' := by
  obtain ⟨xs, ht⟩ := F.tl
  have le : Le [t] H H' := .but (by simp) b
  refine ⟨web, nl, nm, F.sh.le (fun a h => ?_) (fun _ h => h) le, b _ _ F.nR F.rw, rowsN_le F.rr (fun a o f e => b a o f e), F.nR, mo, mm, nM, tl⟩
  rw [List.mem_singleton.mp h]; exact ⟨xs, ht⟩
/-! ### a new base: what changes is wiped out -/
open Classical in
noncomputable def wipe (g : Nat → Bool → Addr) (H : Hp) : Hp := fun a => if ∃ i b, i < 5 ∧ a = g i b then none else H a
theorem wipe_of {g : Nat → Bool → Addr} {H : Hp} {a : Addr} {o : HO} (n : ∀ i b, i < 5 → a ≠ g i b) (h : H a = some o) : wipe g H a = some o := by
  unfold wipe
  rw [if_neg (fun ⟨i, b, hi, e⟩ => n i b hi e)]; exact h
theorem wipe_g {g : Nat → Bool → Addr} {H : Hp} {i : Nat} {b : Bool} (hi : i < 5) : wipe g H (g i b) = none := by
  unfold wipe
  rw [if_pos ⟨i, b, hi, rfl⟩]
theorem wipe_le {g : Nat → Bool → Addr} {H : Hp} {a : Addr} {o : HO} (h : wipe g H a = some o) : H a = some o := by
  unfold wipe at h
  split at h
  · cases h
  · exact h
section
variable {K : PySem.W.Frag} {C w d t : Addr} {g : Nat → Bool → Addr} {n : Nat} {H0 H H' : Hp} {tr sr : Bool → List Lk}
theorem E19.wipe (E : E19 (fun _ => True) t g H0) (H : Hp) : E19 (fun _ => True) t g (My.wipe g H) := ⟨E.inj, E.nt, fun _ _ _ hi => wipe_g hi⟩
theorem G19.wipe (G : G19 (fun _ => True) K C w d t g n H0 H tr sr) : G19 (fun _ => True) K C w d t g n (My.wipe g H) H tr sr := ⟨fun _ _ _ e => wipe_le e, G.dr, G.st, G.sl, G.ol⟩
theorem E19.back (E : E19 (fun _ => True) t g H0) {H1 : Hp} (b : But t H1 H0) : E19 (fun _ => True) t g H1 := ⟨E.inj, E.nt, fun i c hc hi => by
  cases e : H1 (g i c) with
  | none => rfl
  | some o =>
    have h := b _ _ (E.nt i c hc hi) e
    rw [E.n0 i c hc hi] at h; cases h⟩
theorem wipe_but (E : E19 (fun _ => True) t g H0) (b : But t H0 H) : But t H0 (My.wipe g H) := fun a o na e => wipe_of (fun i c hi h => by rw [h, E.n0 i c trivial hi] at e; cases e) (b a o na e)
/-- a thing more in both states -/
theorem G19.grow (G : G19 (fun _ => True) K C w d t g n H0 H tr tr) (E : E19 (fun _ => True) t g H0) (dH : ∃ o, H0 d = some o) (kn : ∀ b, ∀ k ∈ tr b, k.1 < (n : Int)) :
    G19 (fun _ => True) K C w d t g (n + 1) H0 (upd (upd H (g 3 false) (.lst (stV (tr false) n ++ [.int 0]))) (g 3 true) (.lst (stV (tr true) n ++ [.int 0]))) tr tr ∧ ∀ a, (∀ i b, i < 5 → a ≠ g i b) → (upd (upd H (g 3 false) (.lst (stV (tr false) n ++ [.int 0]))) (g 3 true) (.lst (stV (tr true) n ++ [.int 0]))) a = H a := by
  have ne : ∀ i b, i < 5 → i ≠ 3 → ∀ c, g i b ≠ g 3 c := fun i b hi h3 c e => h3 (E.inj i 3 b c trivial trivial hi (by decide) e).1
  have n33 : g 3 false ≠ g 3 true := fun e => by have := (E.inj 3 3 _ _ trivial trivial (by decide) (by decide) e).2; cases this
  have at' : ∀ {a : Addr}, a ≠ g 3 false → a ≠ g 3 true → (upd (upd H (g 3 false) (.lst (stV (tr false) n ++ [.int 0]))) (g 3 true) (.lst (stV (tr true) n ++ [.int 0]))) a = H a := fun h1 h2 => by rw [upd_ne h2, upd_ne h1]
  have off : ∀ a, (∀ i b, i < 5 → a ≠ g i b) → (upd (upd H (g 3 false) (.lst (stV (tr false) n ++ [.int 0]))) (g 3 true) (.lst (stV (tr true) n ++ [.int 0]))) a = H a := fun a h => at' (h 3 false (by decide)) (h 3 true (by decide))
  have dn : ∀ i b, i < 5 → d ≠ g i b := fun i b hi e => by obtain ⟨o, h⟩ := dH; rw [e, E.n0 i b trivial hi] at h; cases h
  refine ⟨⟨fun a o na e => ?_, ?_, fun b _ => ?_, fun b _ => ?_, fun b _ => ?_⟩, off⟩
  · rw [off a fun i b hi h => by rw [h, E.n0 i b trivial hi] at e; cases e]; exact G.b0 a o na e
  · exact ⟨G.dr.ds.elim fun zs e => ⟨zs, by rw [off d dn]; exact e⟩, G.dr.pl.elim fun k e => ⟨k, by rw [off t fun i b hi => (E.nt i b trivial hi).symm]; exact e⟩, G.dr.ne⟩
  · exact (G.st b trivial).keep (fun o h => by rw [at' (ne 0 b (by decide) (by decide) _) (ne 0 b (by decide) (by decide) _)]; exact h) (fun o h => by rw [at' (ne 1 b (by decide) (by decide) _) (ne 1 b (by decide) (by decide) _)]; exact h) (fun o h => by rw [at' (ne 2 b (by decide) (by decide) _) (ne 2 b (by decide) (by decide) _)]; exact h)
  · rw [stV_grow (kn b)]
    cases b
    · rw [upd_ne n33, upd_same]
    · rw [upd_same]
  · rw [at' (ne 4 b (by decide) (by decide) _) (ne 4 b (by decide) (by decide) _)]; exact G.ol b trivial
end
def AN (A : List Addr) (H : Hp) : Prop := A.Nodup ∧ Al A H
theorem AN.cons {A : List Addr} {H H' : Hp} {p : Addr} {o : HO} (h : AN A H) (s : Same H H') (n : H p = none) (e : H' p = some o) : AN (p :: A) H' :=
  ⟨List.nodup_cons.mpr ⟨h.2.nin n, h.1⟩, fun a m => by exact (List.mem_cons.mp m).elim (fun z => ⟨o, z ▸ e⟩) fun m => (h.2.same s) a m⟩
theorem AN.st {C w : Addr} {tr : List Lk} {A : List Addr} {H H' : Hp} {y a b : Addr} (h : AN A H) (s : Same H H') (ny : H y = none) (na : H a = none) (nb : H b = none) (S : Sto C H' y w a b tr) : AN (b :: a :: y :: A) H' := by
  obtain ⟨⟨dx, e0⟩, e1, e2, ne⟩ := S
  have h1 := h.cons s ny e0
  have nay : a ≠ y := fun z => by rw [z, e0] at e1; cases e1
  have nby : b ≠ y := fun z => by rw [z, e0] at e2; cases e2
  have m1 : a ∉ y :: A := fun m => (List.mem_cons.mp m).elim nay (h.2.nin na)
  have m2 : b ∉ a :: y :: A := fun m => (List.mem_cons.mp m).elim (fun z => ne z.symm) fun m => (List.mem_cons.mp m).elim nby (h.2.nin nb)
  refine ⟨List.nodup_cons.mpr ⟨m2, List.nodup_cons.mpr ⟨m1, h1.1⟩⟩, fun c m => ?_⟩
  rcases List.mem_cons.mp m with rfl | m
  · exact ⟨_, e2⟩
  · rcases List.mem_cons.mp m with rfl | m
    · exact ⟨_, e1⟩
    · exact h1.2 c m
theorem nin_cons {A : List Addr} {p a : Addr} (n : p ≠ a) (m : p ∉ A) : p ∉ a :: A := fun h => (List.mem_cons.mp h).elim n m
theorem AN.same {A : List Addr} {H H' : Hp} (h : AN A H) (s : Same H H') : AN A H' := ⟨h.1, h.2.same s⟩
/-- two answers that are alike: the run's and the walk's -/
def dueRD : Option (Stp × SE) → PyData
  | none => dueD "" 0 none
  | some (s, e) => dueD s.1 s.2 (some e)
theorem DueR.dn {K : PySem.W.Frag} {N : Addr → Prop} {H : Hp} {u : Addr} {r : Option (Stp × SE)} (h : DueR N H u r) {x C dx : Addr} {fs : List (Str × V)} (hx : H x = some (.ins C dx fs)) : Dn K x H 3 (.ref u) (dueRD r) := by
  cases r with
  | none => have h : DueL N H u "" 0 none := h; exact DueL.dn h hx
  | some p => have h : DueL N H u p.1.1 p.1.2 (some p.2) := h; exact DueL.dn h hx
theorem DueR.imp {N N' : Addr → Prop} {H H' : Hp} {u : Addr} {r : Option (Stp × SE)} (h : DueR N H u r) (i : ∀ a, N a → N' a) (k : ∀ a xs, N a → H a = some (.lst xs) → H' a = some (.lst xs)) (kt : ∀ a xs, H a = some (.tup xs) → H' a = some (.tup xs)) : DueR N' H' u r := by
  cases r with
  | none => have h : DueL N H u "" 0 none := h; exact DueL.imp h i k kt
  | some p => have h : DueL N H u p.1.1 p.1.2 (some p.2) := h; exact DueL.imp h i k kt
def g1 (y p q z o : Addr) (i : Nat) (_ : Bool) : Addr := match i with
  | 0 => y
  | 1 => p
  | 2 => q
  | 3 => z
  | _ => o
def pos1 (i : Nat) : Nat := match i with
  | 0 => 2
  | 1 => 1
  | 2 => 0
  | 3 => 4
  | _ => 3
theorem pos1_inj : ∀ i, i < 5 → ∀ j, j < 5 → pos1 i = pos1 j → i = j := by decide
theorem g1_at {y p q z o : Addr} {A : List Addr} (i : Nat) (b : Bool) (hi : i < 5) : (q :: p :: y :: o :: z :: A)[pos1 i]? = some (g1 y p q z o i b) := by
  match i, hi with
  | 0, _ => rfl
  | 1, _ => rfl
  | 2, _ => rfl
  | 3, _ => rfl
  | 4, _ => rfl
theorem g1_inj {y p q z o : Addr} {A : List Addr} (h : (q :: p :: y :: o :: z :: A).Nodup) (i j : Nat) (b c : Bool) (hi : i < 5) (hj : j < 5) (e : g1 y p q z o i b = g1 y p q z o j c) : i = j := by
  have ek := g1_at (A := A) (y := y) (p := p) (q := q) (z := z) (o := o) i b hi
  have eq := g1_at (A := A) (y := y) (p := p) (q := q) (z := z) (o := o) j c hj
  rw [e] at ek
  obtain ⟨lk, ek⟩ := List.getElem?_eq_some_iff.mp ek
  obtain ⟨lq, eq⟩ := List.getElem?_eq_some_iff.mp eq
  exact pos1_inj i hi j hj ((List.getElem_inj h).mp (ek.trans eq.symm))
section
variable {pr : Bool → Prop} {K : PySem.W.Frag} {C Cw Cs w d t x l m R M : Addr} {g : Nat → Bool → Addr} {n : Nat} {H0 H : Hp} {tr sr : Bool → List Lk} {ws us : List V} {rs : List Row} {ts : List Th}
theorem E19.nin (E : E19 pr t g H0) {b : Bool} (hb : pr b) {a : Addr} {o : HO} (h : H0 a = some o) : a ∉ [g 3 b, g 4 b] := fun m => by
  simp only [List.mem_cons, List.not_mem_nil, or_false] at m
  rcases m with m | m
  · rw [m, E.n0 3 b hb (by decide)] at h; cases h
  · rw [m, E.n0 4 b hb (by decide)] at h; cases h
theorem G19.rows (G : G19 pr K C w d t g n H0 H tr sr) (E : E19 pr t g H0) (F : Fz Cw Cs t w x l m R M ws us rs ts H0) {b : Bool} (hb : pr b) : RowsN (fun a => a ∉ [g 3 b, g 4 b]) true H ws rs :=
  L2.Paired.mapP F.rr fun _ _ ⟨p, pp, e, a, b', hp, hpp⟩ => ⟨p, pp, e, E.nin hb hp, E.nin hb hpp, G.b0 _ _ a hp, G.b0 _ _ b' hpp⟩
theorem G19.mts (G : G19 pr K C w d t g n H0 H tr sr) (E : E19 pr t g H0) (F : Fz Cw Cs t w x l m R M ws us rs ts H0) {b : Bool} (hb : pr b) : MtsN [g 3 b, g 4 b] H us ts :=
  L2.Paired.mapP F.mm fun _ _ ⟨p, pp, e, a, b', hp, hpp⟩ => ⟨p, pp, e, E.nin hb hp, E.nin hb hpp, G.b0 _ _ (by simpa using a) hp, G.b0 _ _ (by simpa using b') hpp⟩
end
section
variable {pr : Bool → Prop} {K : PySem.W.Frag} {C Cw Cs w d t x l m R M : Addr} {g : Nat → Bool → Addr} {n : Nat} {H0 H : Hp} {tr sr : Bool → List Lk} {ws us : List V} {rs : List Row} {ts : List Th}
theorem E19.n34 (E : E19 pr t g H0) {b : Bool} (hb : pr b) : g 3 b ≠ g 4 b := fun e => by have := (E.inj 3 4 _ _ hb hb (by decide) (by decide) e).1; omega
theorem Off9.o34 {a : Addr} (O : Off9 pr t g a) {b : Bool} (hb : pr b) : a ∉ [g 3 b, g 4 b] := fun h => by
  simp only [List.mem_cons, List.not_mem_nil, or_false] at h
  rcases h with h | h
  · exact O.2 3 _ hb (by decide) h
  · exact O.2 4 _ hb (by decide) h
theorem Off9.o012 {a : Addr} (O : Off9 pr t g a) {b : Bool} (hb : pr b) : a ∉ [g 0 b, g 1 b, g 2 b] := fun h => by
  simp only [List.mem_cons, List.not_mem_nil, or_false] at h
  rcases h with h | h | h
  · exact O.2 0 _ hb (by decide) h
  · exact O.2 1 _ hb (by decide) h
  · exact O.2 2 _ hb (by decide) h
theorem G19.offT (G : G19 pr K C w d t g n H0 H tr sr) {a : Addr} {xs : List V} (h : H a = some (.tup xs)) : Off9 pr t g a :=
  ⟨fun e => (by obtain ⟨k, e2⟩ := G.dr.pl; rw [← e, h] at e2; cases e2), fun i b hb hi e => by obtain ⟨o, e2, e3⟩ := G.has i b hb hi; rw [← e, h] at e2; exact e3 _ (Option.some.inj e2).symm⟩
theorem G19.fz (G : G19 pr K C w d t g n H0 H tr sr) (F : Fz Cw Cs t w x l m R M ws us rs ts H0) : Fz Cw Cs t w x l m R M ws us rs ts H := F.but G.b0 (G.dr.pl.elim fun k e => ⟨_, e⟩)
end
theorem TakeOk.rg {ts : List Th} {rs : List Row} {tr : List Lk} (O : TakeOk ts rs tr) : ∀ k ∈ thsL tr, 0 ≤ k ∧ k < (ts.length : Int) := fun k hk => by
  obtain ⟨j, hj, e⟩ := List.mem_map.mp hk
  have := O.inw j hj
  unfold inW at this
  rw [← e]; exact this
theorem form3 {f : Int} {ss : List Stp} (a : 0 ≤ f) (b : f < 3) (g : f = 2 → ∀ x ∈ ss, goodS x) : f = 0 ∨ f = 1 ∨ ∀ x ∈ ss, goodS x := by
  by_cases h0 : f = 0
  · exact .inl h0
  · by_cases h1 : f = 1
    · exact .inr (.inl h1)
    · exact .inr (.inr (g (by omega)))
/-- the slots and what lies behind them, from the copy on -/
def JB (K : PySem.W.Frag) (C w d t a0 R M : Addr) (g : Nat → Bool → Addr) (H0 : Hp) (ts : List Th) (rs : List Row) (N : Nat) (x18 x19 : Option V) (σ : List (Option V)) (H : Hp) : Prop :=
  ∃ (tr : Bool → List Lk) (x7 x10 x11 x12 x16 x17 : Option V), σ = [some (.ref a0), some (.ref d), some (.ref t), some (.ref R), some (.ref M), some (.ref w), some (.ref (g 3 false)), x7, some (.ref (g 4 false)), some (.ref (g 0 false)), x10, x11, x12, some (.ref (g 0 true)), some (.ref (g 3 true)), some (.ref (g 4 true)), x16, x17, x18, x19] ∧ (∀ b, TakeOk ts rs (tr b) ∧ (tr b).length ≤ N) ∧ G19 (fun _ => True) K C w d t g ts.length H0 H tr tr
theorem ot_set {ts : List Th} {rs : List Row} {tr : Bool → List Lk} {N N' : Nat} {b : Bool} {u : List Lk} (O : ∀ c, TakeOk ts rs (tr c) ∧ (tr c).length ≤ N) (T : TakeOk ts rs u) (l : u.length ≤ N' ∧ N ≤ N') : ∀ c, TakeOk ts rs (setW tr b u c) ∧ (setW tr b u c).length ≤ N' := fun c => by
  by_cases h : c = b
  · rw [h, setW_same]; exact ⟨T, l.1⟩
  · rw [setW_ne h]; exact ⟨(O c).1, Nat.le_trans (O c).2 l.2⟩
theorem G19.rebase {K : PySem.W.Frag} {C w d t : Addr} {g : Nat → Bool → Addr} {n : Nat} {H0 H1 H H' : Hp} {tr sr : Bool → List Lk} {A : List Addr} (G : G19 (fun _ => True) K C w d t g n H0 H tr sr) (l : Le A H H') (hA : ∀ a ∈ A, a ≠ t ∧ a ≠ d ∧ ∀ i b, i < 5 → a ≠ g i b) (b : But t H1 H') : G19 (fun _ => True) K C w d t g n H1 H' tr sr := by
  have k : ∀ i b, i < 5 → g i b ∉ A := fun i b hi h => (hA _ h).2.2 i b hi rfl
  exact ⟨b, ⟨G.dr.ds.elim fun zs e => ⟨zs, l _ _ (fun h => (hA _ h).2.1 rfl) e⟩, G.dr.pl.elim fun j e => ⟨j, l _ _ (fun h => (hA _ h).1 rfl) e⟩, G.dr.ne⟩, fun c hc => (G.st c hc).keep (fun o h => l _ _ (k 0 c (by decide)) h) (fun o h => l _ _ (k 1 c (by decide)) h) (fun o h => l _ _ (k 2 c (by decide)) h), fun c hc => l _ _ (k 3 c (by decide)) (G.sl c hc), fun c hc => l _ _ (k 4 c (by decide)) (G.ol c hc)⟩
end My

namespace My
open PySem L2
section
variable {w : World} {K : PySem.W.Frag} {mg : Str → Option Value} {base : Heap}
set_option maxHeartbeats 32000000 in
set_option pp.maxSteps 400 in
theorem ok_law (T : Txt K mg) : FnOk PP w K mg base CX0 20 T.a_law T.fd_law ["_law_script"] (spLaw K) := by
  refine T.F_law.ok sc_law (fun vs H Q E h => ?_) (fun cdv A outer s H vs Q E hr h => ?_)
  · obtain ⟨a, ns, rfl, _⟩ := h; rfl
  · obtain ⟨a0, ns0, rfl, hS, hlen, qq⟩ := h
    refine ⟨_, (pss_cons (ps_set (i := 1) sc_law.nd rfl (.inl rfl) (pe_call (ok__law_draws T) (hr.mono (by omega)) (by rfl) T.g__law_draws T.F__law_draws.kp T.b__law_draws .nil pass0 (pa_cons (pv 0) pa_nil)))
      (pss_cons (ps_set (i := 2) sc_law.nd rfl (.inl rfl) (pe_lst (pa_cons (pe_int) pa_nil)))
      (pss_cons (ps_set (i := 3) sc_law.nd rfl (.inl rfl) (pe_call (ok__law_rows T) (hr.mono (by omega)) (by rfl) T.g__law_rows T.F__law_rows.kp T.b__law_rows .nil pass0 (pa_cons (pv 1) (pa_cons (pv 2) (pa_cons (pe_bl) pa_nil)))))
      (pss_cons (ps_set (i := 4) sc_law.nd rfl (.inl rfl) (pe_call (ok__law_things T) (hr.mono (by omega)) (by rfl) T.g__law_things T.F__law_things.kp T.b__law_things .nil pass0 (pa_cons (pv 1) (pa_cons (pv 2) (pa_cons (pv 3) (pa_cons (pe_ix ix_list (pe_lst (pa_cons (pe_int) (pa_cons (pe_int) (pa_cons (pe_int) (pa_cons (pe_int) (pa_cons (pe_int) (pa_cons (pe_int) (pa_cons (pe_int) pa_nil)))))))) (pe_call (ok__law_take T) (hr.mono (by omega)) (by rfl) T.g__law_take T.F__law_take.kp T.b__law_take .nil pass0 (pa_cons (pv 1) (pa_cons (pv 2) (pa_cons (pe_int) pa_nil)))) (fun _ _ => rfl)) pa_nil))))))
      (pss_cons (ps_set (i := 5) sc_law.nd rfl (.inl rfl) (pe_call (ok__law_web T) (hr.mono (by omega)) (by rfl) T.g__law_web T.F__law_web.kp T.b__law_web .nil pass0 (pa_cons (pe_call (ok__law_shape T) (hr.mono (by omega)) (by rfl) T.g__law_shape T.F__law_shape.kp T.b__law_shape .nil pass0 (pa_cons (pv 3) pa_nil)) (pa_cons (pv 4) pa_nil))))
      (pss_cons (ps_setLc (i := 6) (own := [("_law_thing", 7)]) (g := (gName 7)) (by rfl) sc_law.nd rfl rfl (sw_true rfl rfl rfl (by decide +kernel)) (pi_list (pv 4)) (blkOk_by (own := [("_law_thing", 7)]) (N := ["_law_script", "_law_draws_here", "_law_at", "_law_rows_here", "_law_things_here", "_law_web_here", "_law_one", "_law_thing", "_law_order", "_law_standing", "_law_form", "_law_steps", "_law_due_here", "_law_copy", "_law_two", "_law_second", "_law_further", "_law_others", "_law_number", "_law_last"]) (sc := defScope S_law) (by decide +kernel)) (fun _ _ _ _ _ => (pg_name (i := 7) sc_law.nd rfl (by first | exact .inl rfl | exact .inr rfl))) (fun _ _ _ _ _ => pts_nil) (fun _ _ _ _ _ => (pe_int)))
      (pss_cons (ps_set (i := 8) sc_law.nd rfl (.inl rfl) (pe_lst pa_nil))
      (C8.pss_cut (ps_set (i := 9) sc_law.nd rfl (.inl rfl) (pe_make T.mk_Standing (ok_Standing_init T) (hr.mono (by omega)) (by rfl) T.g_Standing T.b_Standing_init .nil pass0 (pa_cons (pv 5) pa_nil)))
      (pss_cons (ps_set (i := 10) sc_law.nd rfl (.inl rfl) (pe_call (ok__law_take T) (hr.mono (by omega)) (by rfl) T.g__law_take T.F__law_take.kp T.b__law_take .nil pass0 (pa_cons (pv 1) (pa_cons (pv 2) (pa_cons (pe_int) pa_nil)))))
      (pss_cons (ps_set (i := 11) sc_law.nd rfl (.inl rfl) (pe_call (ok__law_row T) (hr.mono (by omega)) (by rfl) T.g__law_row T.F__law_row.kp T.b__law_row .nil pass0 (pa_cons (pv 1) (pa_cons (pv 2) (pa_cons (pv 3) (pa_cons (pv 4) (pa_cons (pv 6) (pa_cons (pe_ix ix_list (pe_lst (pa_cons (pe_int) (pa_cons (pe_int) (pa_cons (pe_int) (pa_cons (pe_int) (pa_cons (pe_int) (pa_cons (pe_int) pa_nil))))))) (pe_call (ok__law_take T) (hr.mono (by omega)) (by rfl) T.g__law_take T.F__law_take.kp T.b__law_take .nil pass0 (pa_cons (pv 1) (pa_cons (pv 2) (pa_cons (pe_int) pa_nil)))) (fun _ _ => rfl)) (pa_cons (pv 10) pa_nil)))))))))
      (pss_cons (ps_set (i := 12) sc_law.nd rfl (.inl rfl) (pe_call (ok__law_walk T) (hr.mono (by omega)) (by rfl) T.g__law_walk T.F__law_walk.kp T.b__law_walk .nil pass0 (pa_cons (pv 3) (pa_cons (pv 4) (pa_cons (pv 6) (pa_cons (pv 8) (pa_cons (pv 11) pa_nil)))))))
      (pss_cons (ps_if (pt_not (pt_val (pe_call (ok__law_same T 3) (hr.mono (by omega)) (by rfl) T.g__law_same T.F__law_same.kp T.b__law_same .nil pass0 (pa_cons (pe_call (ok__law_run T) (hr.mono (by omega)) (by rfl) T.g__law_run T.F__law_run.kp T.b__law_run .nil pass0 (pa_cons (pv 9) (pa_cons (pv 11) (pa_cons (pv 10) pa_nil)))) (pa_cons (pv 12) pa_nil))))) (pss_one (ps_ret (pe_bl))) pss_nil)
      (C8.pss_cut (ps_if (PW.pt (pw_or (pt_not (pt_val (pe_call (ok__law_reads T) (hr.mono (by omega)) (by rfl) T.g__law_reads T.F__law_reads.kp T.b__law_reads .nil pass0 (pa_cons (pv 9) (pa_cons (pv 6) (pa_cons (pv 8) pa_nil)))))) (pw_or1 (pt_not (pt_val (pe_call (ok__law_counted T) (hr.mono (by omega)) (by rfl) T.g__law_counted T.F__law_counted.kp T.b__law_counted .nil pass0 (pa_cons (pv 1) (pa_cons (pv 2) (pa_cons (pv 9) (pa_cons (pv 6) pa_nil)))))))))) (pss_one (ps_ret (pe_bl))) pss_nil)
      (pss_cons (ps_set (i := 13) sc_law.nd rfl (.inl rfl) (pe_meth0 (pv 9) T.cl_Standing T.m_Standing_copy (ok_Standing_copy T) (hr.mono (by omega)) T.b_Standing_copy .nil pass0))
      (pss_cons (ps_set (i := 14) sc_law.nd rfl (.inl rfl) (pe_callTy call_list_of (by rfl) T.n_list (by decide +kernel) (pa_cons (pv 6) pa_nil)))
      (C8.pss_cut (ps_set (i := 15) sc_law.nd rfl (.inl rfl) (pe_callTy call_list_of (by rfl) T.n_list (by decide +kernel) (pa_cons (pv 8) pa_nil)))
      (C8.pss_cut (ps_if (PW.pt (pw_or (pt_not (pt_val (pe_call (ok__law_reads T) (hr.mono (by omega)) (by rfl) T.g__law_reads T.F__law_reads.kp T.b__law_reads .nil pass0 (pa_cons (pv 13) (pa_cons (pv 14) (pa_cons (pv 15) pa_nil)))))) (pw_or1 (pt_not (pt_val (pe_call (ok__law_counted T) (hr.mono (by omega)) (by rfl) T.g__law_counted T.F__law_counted.kp T.b__law_counted .nil pass0 (pa_cons (pv 1) (pa_cons (pv 2) (pa_cons (pv 13) (pa_cons (pv 14) pa_nil)))))))))) (pss_one (ps_ret (pe_bl))) pss_nil)
      (pss_cons (ps_set (i := 10) sc_law.nd rfl (.inl rfl) (pe_call (ok__law_take T) (hr.mono (by omega)) (by rfl) T.g__law_take T.F__law_take.kp T.b__law_take .nil pass0 (pa_cons (pv 1) (pa_cons (pv 2) (pa_cons (pe_int) pa_nil)))))
      (pss_cons (ps_set (i := 16) sc_law.nd rfl (.inl rfl) (pe_call (ok__law_row T) (hr.mono (by omega)) (by rfl) T.g__law_row T.F__law_row.kp T.b__law_row .nil pass0 (pa_cons (pv 1) (pa_cons (pv 2) (pa_cons (pv 3) (pa_cons (pv 4) (pa_cons (pv 6) (pa_cons (pe_int) (pa_cons (pv 10) pa_nil)))))))))
      (C8.pss_cut (ps_if (pt_not (pt_val (pe_call (ok__law_same T 3) (hr.mono (by omega)) (by rfl) T.g__law_same T.F__law_same.kp T.b__law_same .nil pass0 (pa_cons (pe_call (ok__law_run T) (hr.mono (by omega)) (by rfl) T.g__law_run T.F__law_run.kp T.b__law_run .nil pass0 (pa_cons (pv 9) (pa_cons (pv 16) (pa_cons (pv 10) pa_nil)))) (pa_cons (pe_call (ok__law_walk T) (hr.mono (by omega)) (by rfl) T.g__law_walk T.F__law_walk.kp T.b__law_walk .nil pass0 (pa_cons (pv 3) (pa_cons (pv 4) (pa_cons (pv 6) (pa_cons (pv 8) (pa_cons (pv 16) pa_nil)))))) pa_nil))))) (pss_one (ps_ret (pe_bl))) pss_nil)
      (C8.pss_cut (ps_if (PW.pt (pw_or (pt_not (pt_val (pe_call (ok__law_reads T) (hr.mono (by omega)) (by rfl) T.g__law_reads T.F__law_reads.kp T.b__law_reads .nil pass0 (pa_cons (pv 13) (pa_cons (pv 14) (pa_cons (pv 15) pa_nil)))))) (pw_or1 (pt_not (pt_val (pe_call (ok__law_reads T) (hr.mono (by omega)) (by rfl) T.g__law_reads T.F__law_reads.kp T.b__law_reads .nil pass0 (pa_cons (pv 9) (pa_cons (pv 6) (pa_cons (pv 8) pa_nil))))))))) (pss_one (ps_ret (pe_bl))) pss_nil)
      (pss_cons (ps_set (i := 10) sc_law.nd rfl (.inl rfl) (pe_call (ok__law_take T) (hr.mono (by omega)) (by rfl) T.g__law_take T.F__law_take.kp T.b__law_take .nil pass0 (pa_cons (pv 1) (pa_cons (pv 2) (pa_cons (pe_int) pa_nil)))))
      (pss_cons (ps_set (i := 17) sc_law.nd rfl (.inl rfl) (pe_call (ok__law_row T) (hr.mono (by omega)) (by rfl) T.g__law_row T.F__law_row.kp T.b__law_row .nil pass0 (pa_cons (pv 1) (pa_cons (pv 2) (pa_cons (pv 3) (pa_cons (pv 4) (pa_cons (pv 14) (pa_cons (pe_int) (pa_cons (pv 10) pa_nil)))))))))
      (C8.pss_cut (ps_if (pt_not (pt_val (pe_call (ok__law_same T 3) (hr.mono (by omega)) (by rfl) T.g__law_same T.F__law_same.kp T.b__law_same .nil pass0 (pa_cons (pe_call (ok__law_run T) (hr.mono (by omega)) (by rfl) T.g__law_run T.F__law_run.kp T.b__law_run .nil pass0 (pa_cons (pv 13) (pa_cons (pv 17) (pa_cons (pv 10) pa_nil)))) (pa_cons (pe_call (ok__law_walk T) (hr.mono (by omega)) (by rfl) T.g__law_walk T.F__law_walk.kp T.b__law_walk .nil pass0 (pa_cons (pv 3) (pa_cons (pv 4) (pa_cons (pv 14) (pa_cons (pv 15) (pa_cons (pv 17) pa_nil)))))) pa_nil))))) (pss_one (ps_ret (pe_bl))) pss_nil)
      (C8.pss_cut (ps_if (PW.pt (pw_or (pt_not (pt_val (pe_call (ok__law_reads T) (hr.mono (by omega)) (by rfl) T.g__law_reads T.F__law_reads.kp T.b__law_reads .nil pass0 (pa_cons (pv 9) (pa_cons (pv 6) (pa_cons (pv 8) pa_nil)))))) (pw_or1 (pt_not (pt_val (pe_call (ok__law_reads T) (hr.mono (by omega)) (by rfl) T.g__law_reads T.F__law_reads.kp T.b__law_reads .nil pass0 (pa_cons (pv 13) (pa_cons (pv 14) (pa_cons (pv 15) pa_nil))))))))) (pss_one (ps_ret (pe_bl))) pss_nil)
      (pss_cons (ps_set (i := 18) sc_law.nd rfl (.inl rfl) (pe_methR (pv 5) T.cl_Web T.m_Web_put ((ok_Web_put T).calm) (hr.mono (by omega)) pass0 (pa_cons (pe_ix ix_list (pe_ix ix_list (pv 3) (pe_int) (fun _ _ => rfl)) (pe_int) (fun _ _ => rfl)) pa_nil)))
      (pss_cons (ps_set (i := 4) sc_law.nd rfl (.inl rfl) (pe_op op_cat (pv 4) (pe_lst (pa_cons (pe_lst (pa_cons (pe_ix ix_list (pe_ix ix_list (pv 3) (pe_int) (fun _ _ => rfl)) (pe_int) (fun _ _ => rfl)) (pa_cons (pe_lst pa_nil) pa_nil))) pa_nil))))
      (pss_cons (ps_expr (pe_bm PySem.F.plainAttrs_list PySem.F.slot_list_append PySem.F.type_list_append mt_append (pv 6) (pa_cons (pe_int) pa_nil)))
      (pss_cons (ps_expr (pe_bm PySem.F.plainAttrs_list PySem.F.slot_list_append PySem.F.type_list_append mt_append (pv 14) (pa_cons (pe_int) pa_nil)))
      (C8.pss_cut (ps_set (i := 19) sc_law.nd rfl (.inl rfl) (pe_lst (pa_cons (pe_tup (pa_cons (pe_str) (pa_cons (pv 18) pa_nil))) pa_nil)))
      (C8.pss_cut (ps_if (PW.pt (pw_or (pt_not (pt_val (pe_call (ok__law_same T 3) (hr.mono (by omega)) (by rfl) T.g__law_same T.F__law_same.kp T.b__law_same .nil pass0 (pa_cons (pv 18) (pa_cons (pe_op op_sub (pe_callB call_len_seq (by rfl) T.n_len (by decide +kernel) (pa_cons (pv 4) pa_nil)) (pe_int)) pa_nil))))) (pw_or1 (pt_not (pt_val (pe_call (ok__law_same T 3) (hr.mono (by omega)) (by rfl) T.g__law_same T.F__law_same.kp T.b__law_same .nil pass0 (pa_cons (pe_call (ok__law_run T) (hr.mono (by omega)) (by rfl) T.g__law_run T.F__law_run.kp T.b__law_run .nil pass0 (pa_cons (pv 13) (pa_cons (pv 19) (pa_cons (pe_int) pa_nil)))) (pa_cons (pe_call (ok__law_walk T) (hr.mono (by omega)) (by rfl) T.g__law_walk T.F__law_walk.kp T.b__law_walk .nil pass0 (pa_cons (pv 3) (pa_cons (pv 4) (pa_cons (pv 14) (pa_cons (pv 15) (pa_cons (pv 19) pa_nil)))))) pa_nil)))))))) (pss_one (ps_ret (pe_bl))) pss_nil)
      (C8.pss_cut (ps_if (PW.pt (pw_or (pt_not (pt_val (pe_call (ok__law_reads T) (hr.mono (by omega)) (by rfl) T.g__law_reads T.F__law_reads.kp T.b__law_reads .nil pass0 (pa_cons (pv 9) (pa_cons (pv 6) (pa_cons (pv 8) pa_nil)))))) (pw_or1 (pt_not (pt_val (pe_call (ok__law_reads T) (hr.mono (by omega)) (by rfl) T.g__law_reads T.F__law_reads.kp T.b__law_reads .nil pass0 (pa_cons (pv 13) (pa_cons (pv 14) (pa_cons (pv 15) pa_nil))))))))) (pss_one (ps_ret (pe_bl))) pss_nil)
      (C8.pss_cut (ps_if (pt_not (pt_val (pe_call (ok__law_same T 3) (hr.mono (by omega)) (by rfl) T.g__law_same T.F__law_same.kp T.b__law_same .nil pass0 (pa_cons (pe_call (ok__law_run T) (hr.mono (by omega)) (by rfl) T.g__law_run T.F__law_run.kp T.b__law_run .nil pass0 (pa_cons (pv 9) (pa_cons (pv 19) (pa_cons (pe_int) pa_nil)))) (pa_cons (pe_call (ok__law_walk T) (hr.mono (by omega)) (by rfl) T.g__law_walk T.F__law_walk.kp T.b__law_walk .nil pass0 (pa_cons (pv 3) (pa_cons (pv 4) (pa_cons (pv 6) (pa_cons (pv 8) (pa_cons (pv 19) pa_nil)))))) pa_nil))))) (pss_one (ps_ret (pe_bl))) pss_nil)
      (pss_one (ps_ret (pe_and (pe_call (ok__law_reads T) (hr.mono (by omega)) (by rfl) T.g__law_reads T.F__law_reads.kp T.b__law_reads .nil pass0 (pa_cons (pv 9) (pa_cons (pv 6) (pa_cons (pv 8) pa_nil)))) (pe_and (pe_call (ok__law_reads T) (hr.mono (by omega)) (by rfl) T.g__law_reads T.F__law_reads.kp T.b__law_reads .nil pass0 (pa_cons (pv 13) (pa_cons (pv 14) (pa_cons (pv 15) pa_nil)))) (pe_one (pe_call (ok__law_counted T) (hr.mono (by omega)) (by rfl) T.g__law_counted T.F__law_counted.kp T.b__law_counted .nil pass0 (pa_cons (pv 1) (pa_cons (pv 2) (pa_cons (pv 9) (pa_cons (pv 6) pa_nil))))))))))))))))))))))))))))))))))))))))))), ?_⟩
    have big : 100000 < sizeLine := by decide
    refine ⟨_, rfl, a0, ns0, rfl, hS, hlen, fun d zs H1 s1 nd hd => ?_⟩
    refine ⟨by show 1 ≤ sizeLine; decide, fun t hat => ?_⟩
    have D0 : Dr K (upd H1 t (.lst [.int 0])) d t := ⟨⟨zs, same_new hat _ _ hd⟩, ⟨0, upd_same⟩, ne_of_none hd hat⟩
    revert D0
    generalize upd H1 t (.lst [.int 0]) = H2
    intro D0
    -- the rows
    refine ⟨_, rfl, _, rfl, d, t, false, rfl, D0, fun ms prs ws R H6 pok m3 l1 l3 nms oms D6 b6 nR hR rR => ?_⟩
    have g := good_named pok (by omega : ms.length ≤ 6) (Nat.le_refl _) nms oms
    have low : ∀ r, (prs.map (nameR ms))[0]? = some r → r.least = 0 := fun r hr => by
      rw [List.getElem?_map] at hr
      cases e : prs[0]? with
      | none => rw [e] at hr; cases hr
      | some p =>
        rw [e] at hr
        obtain rfl := Option.some.inj hr
        have o := pok.2 0 p e
        show p.least = 0
        by_cases c : p.least = 0
        · exact c
        · obtain ⟨j, hj, lt⟩ := o.low c
          have := (o.pars.2 j hj).1
          omega
    have m3' : ∀ r ∈ prs.map (nameR ms), r.most ≤ 3 := fun r hr => by
      obtain ⟨p, hp, rfl⟩ := List.mem_map.mp hr
      exact m3 p hp
    have lrs : (prs.map (nameR ms)).length = ms.length := by rw [List.length_map]; exact pok.1
    generalize prs.map (nameR ms) = rs at g low m3' lrs rR
    have lws := pair_len' rR
    have nRt : R ≠ t := D0.na nR
    have nt5 : ∀ {a : Addr}, H2 a = none → a ≠ t := fun h e => by obtain ⟨k, j⟩ := D0.pl; rw [e, j] at h; cases h
    -- the things
    refine ⟨_, rfl, _, rfl, _, rfl, by show 7 ≤ sizeLine; decide, fun m hm => ?_⟩
    have s3 := same_new (o := .lst [.int 4, .int 5, .int 3, .int 6, .int 2, .int 0, .int 1]) hm
    have nmt : m ≠ t := D6.na hm
    refine ⟨_, rfl, _, rfl, d, t, 7, rfl, D6.same s3, by decide, fun r H5 r0 r1 D5 b5 => ?_⟩
    obtain ⟨v, hv, mv⟩ := at_ok (xs := [.int 4, .int 5, .int 3, .int 6, .int 2, .int 0, .int 1]) r0 r1
    obtain ⟨n, rfl, hn⟩ : ∃ n : Nat, v = .int n ∧ n ≤ 6 := by
      simp only [List.mem_cons, List.not_mem_nil, or_false] at mv
      rcases mv with rfl | rfl | rfl | rfl | rfl | rfl | rfl
      · exact ⟨4, rfl, by decide⟩
      · exact ⟨5, rfl, by decide⟩
      · exact ⟨3, rfl, by decide⟩
      · exact ⟨6, rfl, by decide⟩
      · exact ⟨2, rfl, by decide⟩
      · exact ⟨0, rfl, by decide⟩
      · exact ⟨1, rfl, by decide⟩
    have hR5 := b5 _ _ nRt (s3 _ _ hR)
    have rR5 : RowsN (fun a => a ≠ t) true H5 ws rs := rowsN_le (rowsN_same (rowsN_sub rR fun a f => nt5 f) s3) fun a o f e => b5 a o f e
    refine ⟨_, _, _, _, rfl, rfl, SqL.of (b5 _ _ nmt upd_same), hv, ?_⟩
    refine ⟨d, t, R, n, rs, ws, rfl, D5, hR5, nRt, rR5, by omega, g, low, m3', by omega, fun us ts M H7 ok lts D7 b7 nM hM mM => ?_⟩
    have nMt : M ≠ t := D5.na nM
    have lus := pair_len' mM
    have hR7 := b7 _ _ nRt hR5
    have rR7 : RowsN (fun a => a ≠ t) true H7 ws rs := rowsN_le rR5 fun a o f e => b7 a o f e
    clear rR5 hR5 hv mv s3 hm nmt
    -- the web
    refine ⟨_, rfl, R, ws, rs, rfl, hR7, rowsN_sub rR7 (fun _ _ => trivial), by omega, by omega, g, fun x H9 s9 nx S9 => ⟨_, rfl, x, M, rs, us, ts, rfl, S9.sh, s9 _ _ hM, mtsN_sub (mtsN_le mM (Le.same s9)) (by simp), ok, by omega, fun y l m H10 s10 ny nl nm w10 => ?_⟩⟩
    have D10 := (D7.same s9).same s10
    have u10 := s9.trans s10
    have n7 : ∀ {a : Addr}, H7 a = none → a ≠ t := fun h => D7.na h
    have n9 : ∀ {a : Addr}, H9 a = none → a ≠ t := fun h => (D7.same s9).na h
    have B9 : Fb T.c_Shape t x R ws rs H9 := ⟨S9.sub fun a f => by simpa using n7 f, s9 _ _ hR7, rowsN_same rR7 s9, nRt, (D7.same s9).pl.elim fun k e => ⟨_, e⟩⟩
    have hM9 := s9 _ _ hM
    have mM9 : MtsN [t] H9 us ts := mtsN_le mM (.same s9)
    have F10 : Fz T.c_Web T.c_Shape t y x l m R M ws us rs ts H10 := B9.fz (.of_same s10) (D10.pl.elim fun k e => ⟨_, e⟩) w10 (n9 nl) (n9 nm) (s10 _ _ hM9) (mtsN_le mM9 (.same s10)) nMt
    have hd10 : ∃ o, H10 d = some o := D10.ds.elim fun zs e => ⟨_, e⟩
    have kn := ths_kn ok
    clear rR7 hR7 mM hM w10 S9
    -- the standing
    refine ⟨_, rfl, M, rfl, ⟨_, SqL.of F10.mo⟩, fun z0 nz0 => lc_list (K := K) (a := M) (xs := us) (fun i H' => Same H10 H' ∧ H' z0 = some (.lst (stV [] i))) ⟨same_new nz0, upd_same⟩ (fun i H' _ h => SqL.of (h.1 _ _ F10.mo)) ?_ ?_⟩
    · rintro i v H14 hv ⟨s14, h14⟩
      have hi : i < us.length := (List.getElem?_eq_some_iff.mp hv).1
      exact ⟨rfl, _, h14, by rw [stV_len]; omega, same_mut s14 nz0, by rw [upd_same]; unfold stV; rw [List.range_succ, List.map_append]; rfl⟩
    rintro H11 ⟨s11, hz0⟩
    rw [lus] at hz0
    refine ⟨Nat.zero_le _, fun o0 no0 => ?_⟩
    have s12 := same_new (o := .lst []) no0
    have ho0 : (upd H11 o0 (.lst [])) o0 = some (.lst []) := upd_same
    revert s12 ho0
    generalize upd H11 o0 (.lst []) = H12
    intro s12 ho0
    refine ⟨fun σ' H' => ∃ (x7 : Option V) (gg : Nat → Bool → Addr), σ' = [some (.ref a0), some (.ref d), some (.ref t), some (.ref R), some (.ref M), some (.ref y), some (.ref (gg 3 false)), x7, some (.ref (gg 4 false)), some (.ref (gg 0 false)), none, none, none, none, none, none, none, none, none, none] ∧ E19 (fun b => b = false) t gg H10 ∧ G19 (fun b => b = false) K T.c_Standing y d t gg ts.length H10 H' (fun _ => []) (fun _ => []), ?_, ?_⟩
    · refine ⟨_, rfl, make_st fun y0 p0 q0 H13 s13 ny0 np0 nq0 S0 => ⟨rfl, ?_⟩⟩
      obtain ⟨tk, ht10⟩ := D10.pl
      have an10 : AN [t] H10 := ⟨by simp, fun a h => by rw [List.mem_singleton.mp h]; exact ⟨_, ht10⟩⟩
      have an13 := ((an10.cons s11 nz0 hz0).cons s12 no0 ho0).st s13 ny0 np0 nq0 S0
      have v12 := s11.trans s12
      have v13 := v12.trans s13
      have E1 : E19 (fun b => b = false) t (g1 y0 p0 q0 z0 o0) H10 := by
        have n0 : ∀ i b, b = false → i < 5 → H10 (g1 y0 p0 q0 z0 o0 i b) = none := fun i b _ hi => by
          match i, hi with
          | 0, _ => exact v12.free ny0
          | 1, _ => exact v12.free np0
          | 2, _ => exact v12.free nq0
          | 3, _ => exact nz0
          | 4, _ => exact s11.free no0
        exact ⟨fun i j b c hb hc hi hj e => ⟨g1_inj an13.1 i j b c hi hj e, hb.trans hc.symm⟩, (fun i b hb hi e => by have := n0 i b hb hi; rw [e, ht10] at this; cases this), n0⟩
      have G0 : G19 (fun b => b = false) K T.c_Standing y d t (g1 y0 p0 q0 z0 o0) ts.length H10 H13 (fun _ => []) (fun _ => []) := by
        refine ⟨But.of_same v13, D10.same v13, fun b _ => S0, fun b _ => (s12.trans s13) _ _ hz0, fun b _ => s13 _ _ ho0⟩
      exact ⟨_, g1 y0 p0 q0 z0 o0, rfl, E1, G0⟩
    clear s12 ho0 no0 hz0 s11 nz0
    rintro σ0 H0s ⟨x7, gg, rfl, E1, G0⟩
    have T0 : TakeOk ts rs [] := ⟨.nil, fun _ h => (by cases h), fun _ h => (by cases h)⟩
    -- the first row
    refine ⟨_, rfl, _, rfl, d, t, 3, rfl, G0.dr, by decide, fun f Hf f0 f1 Df bf => ?_⟩
    have Ga := G0.but E1 bf Df
    refine ⟨_, rfl, _, rfl, _, rfl, _, rfl, _, rfl, by show 6 ≤ sizeLine; decide, fun m6 hm6 => ?_⟩
    have Gb := Ga.same E1 (same_new (o := .lst [.int 5, .int 6, .int 3, .int 4, .int 2, .int 0]) hm6)
    have nm6 : m6 ≠ t := Df.na hm6
    refine ⟨_, rfl, _, rfl, d, t, 6, rfl, Gb.dr, by decide, fun r6 Hr r60 r61 Dr6 br => ?_⟩
    obtain ⟨v6, hv6, mv6⟩ := at_ok (xs := [.int 5, .int 6, .int 3, .int 4, .int 2, .int 0]) r60 r61
    obtain ⟨c6, rfl, hc6⟩ : ∃ c : Nat, v6 = .int c ∧ c ≤ 6 := by
      simp only [List.mem_cons, List.not_mem_nil, or_false] at mv6
      rcases mv6 with rfl | rfl | rfl | rfl | rfl | rfl
      · exact ⟨5, rfl, by decide⟩
      · exact ⟨6, rfl, by decide⟩
      · exact ⟨3, rfl, by decide⟩
      · exact ⟨4, rfl, by decide⟩
      · exact ⟨2, rfl, by decide⟩
      · exact ⟨0, rfl, by decide⟩
    refine ⟨_, _, _, _, rfl, rfl, SqL.of (br _ _ nm6 upd_same), hv6, _, rfl, ?_⟩
    have Gc := Gb.but E1 br Dr6
    have Fc := Gc.fz F10
    refine ⟨d, t, R, M, gg 3 false, c6, f, ws, us, rs, ts, [], rfl, Gc.dr, Fc.rw, Fc.nR, Fc.rr, Fc.mo, Fc.nM, Fc.mm, by omega, Gc.sl false rfl, E1.nt 3 false rfl (by decide), by omega, fun cs ss sp H2 D2 b2 nsp hsp pss lss gss => ?_⟩
    have G2 := Gc.but E1 b2 D2
    have F2 := G2.fz F10
    have osp := Gc.off nsp
    obtain ⟨Tr, Lr⟩ := takeOk_run ss T0
    -- the law's walk
    refine ⟨_, rfl, _, rfl, _, rfl, _, rfl, _, rfl, R, M, gg 3 false, gg 4 false, sp, ws, us, cs, rs, ts, [], ss, rfl, F2.rw, E1.nin rfl F10.rw, G2.rows E1 F10 rfl, F2.mo, E1.nin rfl F10.mo, G2.mts E1 F10 rfl, by omega, G2.sl false rfl, G2.ol false rfl, E1.n34 rfl, hsp, osp.o34 rfl, pss, .nil, by show 0 + ss.length ≤ 900; omega, fun u H3 le3 nu hs3 ho3 DU3 => ?_⟩
    have G3 := G2.walk E1 hd10 rfl le3 hs3 ho3
    have pss3 : Stps H3 cs ss := pss.keep fun a xs e => le3 _ _ ((G2.offT e).o34 rfl) e
    -- the run
    refine ⟨_, rfl, _, rfl, _, rfl, gg 0 false, y, gg 1 false, gg 2 false, sp, x, l, m, f, [], ts, rs, ss, cs, rfl, G3.st false rfl, .nil, by show 0 + ss.length ≤ 900; omega, (G3.fz F10).onW kn, le3 _ _ (osp.o34 rfl) hsp, pss3, form3 f0 f1 gss, fun v H4 le4 S4 nv DV => ?_⟩
    have G4 := G3.run E1 hd10 rfl le4 S4
    obtain ⟨dw, hw4⟩ := (G4.fz F10).web.obj
    have DU4 := DU3.imp (N' := fun _ => True) (fun _ _ => trivial) (fun a xs n e => le4 _ _ ((G2.off n).o012 rfl) e) fun a xs e => le4 _ _ ((G3.offT e).o012 rfl) e
    refine ⟨_, rfl, y, _, _, dueRD (runT ts rs [] ss).2, dueRD (runT ts rs [] ss).2, rfl, DV.dn hw4, DU4.dn hw4, _, rfl, iteNo nsame ?_⟩
    generalize hr1 : (runT ts rs [] ss).1 = r1 at *
    have Lr : r1.length ≤ 6 := by simp at Lr; omega
    have H4G : G19 (fun b => b = false) K T.c_Standing y d t gg ts.length H10 H4 (fun _ => r1) (fun _ => r1) := ⟨G4.b0, G4.dr, fun b hb => by cases hb; exact G4.st false rfl, fun b hb => by cases hb; exact G4.sl false rfl, fun b hb => by cases hb; exact G4.ol false rfl⟩
    clear G4 DU4 DV S4 hs3 ho3 DU3 G3 pss3 G2 F2 Fc Gc Gb Ga G0
    have G4 := H4G
    -- reads and counts
    refine ⟨fun σ' H' => ∃ (x7 x10 x11 x12 : Option V), σ' = [some (.ref a0), some (.ref d), some (.ref t), some (.ref R), some (.ref M), some (.ref y), some (.ref (gg 3 false)), x7, some (.ref (gg 4 false)), some (.ref (gg 0 false)), x10, x11, x12, none, none, none, none, none, none, none] ∧ G19 (fun b => b = false) K T.c_Standing y d t gg ts.length H10 H' (fun _ => r1) (fun _ => r1), ?_, ?_⟩
    · refine ⟨_, rfl, _, rfl, _, rfl, gg 0 false, y, gg 1 false, gg 2 false, gg 3 false, gg 4 false, r1, ts.length, rfl, G4.st false rfl, Tr.nd, by omega, by omega, Tr.rg, G4.sl false rfl, G4.ol false rfl, fun H5 s5 => ⟨_, rfl, iteNo rfl ?_⟩⟩
      have G5 := G4.same E1 s5
      refine ⟨_, rfl, _, rfl, _, rfl, _, rfl, d, t, gg 0 false, gg 3 false, y, gg 1 false, gg 2 false, r1, ts.length, rfl, G5.dr, G5.st false rfl, Tr.nd, G5.sl false rfl, E1.nt 3 false rfl (by decide), by omega, fun H6 D6 b6 => ⟨_, rfl, iteNo rfl ?_⟩⟩
      exact ⟨_, _, _, _, rfl, G5.but E1 b6 D6⟩
    clear G4 H4G
    rintro σ6 H6 ⟨x7, x10, x11, x12, rfl, G6⟩
    obtain ⟨⟨dy6, hy6⟩, _⟩ := G6.st false rfl
    -- the copy
    refine ⟨_, rfl, gg 0 false, dy6, _, rfl, hy6, rfl, gg 0 false, y, gg 1 false, gg 2 false, x, l, m, r1, ts, rs, rfl, G6.st false rfl, Tr, by omega, (G6.fz F10).onW kn, fun y2 a2 q2 H7 s7 ny2 na2 nq2 S7 => ?_⟩
    have G7 := G6.same E1 s7
    refine ⟨_, rfl, gg 3 false, _, rfl, .inl (SqL.of (G7.sl false rfl)), fun z2 nz2 => ?_⟩
    have s8 := same_new (o := .lst (stV r1 ts.length)) nz2
    have hz2 : (upd H7 z2 (.lst (stV r1 ts.length))) z2 = some (.lst (stV r1 ts.length)) := upd_same
    revert s8 hz2
    generalize upd H7 z2 (.lst (stV r1 ts.length)) = H8
    intro s8 hz2
    have G8 := G7.same E1 s8
    refine ⟨fun σ' H' => ∃ (g2 : Nat → Bool → Addr), E19 (fun _ => True) t g2 H10 ∧ JB K T.c_Standing y d t a0 R M g2 H10 ts rs 6 none none σ' H', ?_, ?_⟩
    · refine ⟨_, rfl, gg 4 false, _, rfl, .inl (SqL.of (G8.ol false rfl)), fun o2 no2 => ?_⟩
      have s9 := same_new (o := .lst ((thsL r1).map V.int)) no2
      have ho2 : (upd H8 o2 (.lst ((thsL r1).map V.int))) o2 = some (.lst ((thsL r1).map V.int)) := upd_same
      revert s9 ho2
      generalize upd H8 o2 (.lst ((thsL r1).map V.int)) = H9
      intro s9 ho2
      have G9a := G8.same E1 s9
      have fr6 : ∀ i b, i < 5 → H6 (g1 y2 a2 q2 z2 o2 i b) = none := fun i b hi => by
        match i, hi with
        | 0, _ => exact ny2
        | 1, _ => exact na2
        | 2, _ => exact nq2
        | 3, _ => exact s7.free nz2
        | 4, _ => exact (s7.trans s8).free no2
      have an9 := ((AN.st (A := []) ⟨.nil, fun _ h => (by cases h)⟩ s7 ny2 na2 nq2 S7).cons s8 nz2 hz2).cons s9 no2 ho2
      have nd9 : (q2 :: a2 :: y2 :: o2 :: z2 :: ([] : List Addr)).Nodup := (List.perm_append_comm (l₁ := [o2, z2]) (l₂ := [q2, a2, y2])).nodup_iff.mp an9.1
      have E2 : E19 (fun _ => True) t (fun i b => cond b (g1 y2 a2 q2 z2 o2 i true) (gg i false)) H10 := by
        have mix : ∀ i j, i < 5 → j < 5 → g1 y2 a2 q2 z2 o2 i true ≠ gg j false := fun i j hi hj e => by
          obtain ⟨o, h, _⟩ := G6.has j false rfl hj
          rw [← e, fr6 i true hi] at h; cases h
        refine ⟨fun i j b c _ _ hi hj e => ?_, fun i b _ hi => ?_, fun i b _ hi => ?_⟩
        · cases b <;> cases c
          · exact ⟨(E1.inj i j false false rfl rfl hi hj e).1, rfl⟩
          · exact absurd e.symm (mix j i hj hi)
          · exact absurd e (mix i j hi hj)
          · exact ⟨g1_inj nd9 i j true true hi hj e, rfl⟩
        · cases b
          · exact E1.nt i false rfl hi
          · exact G6.dr.na (fr6 i true hi)
        · cases b
          · exact E1.n0 i false rfl hi
          · have h := fr6 i true hi
            show H10 (g1 y2 a2 q2 z2 o2 i true) = none
            cases e : H10 (g1 y2 a2 q2 z2 o2 i true) with
            | none => rfl
            | some o => rw [G6.b0 _ _ (G6.dr.na h) e] at h; cases h
      have G9 : G19 (fun _ => True) K T.c_Standing y d t (fun i b => cond b (g1 y2 a2 q2 z2 o2 i true) (gg i false)) ts.length H10 H9 (fun _ => r1) (fun _ => r1) := by
        refine ⟨G9a.b0, G9a.dr, fun b _ => ?_, fun b _ => ?_, fun b _ => ?_⟩
        · cases b
          · exact G9a.st false rfl
          · exact S7.same (s8.trans s9)
        · cases b
          · exact G9a.sl false rfl
          · exact s9 _ _ hz2
        · cases b
          · exact G9a.ol false rfl
          · exact ho2
      exact ⟨_, E2, fun _ => r1, _, _, _, _, _, _, rfl, fun _ => ⟨Tr, by omega⟩, G9⟩
    clear G6 hy6 E1
    rintro σ9 H9s ⟨g2, E2, tr9, x7, x10, x11, x12, x16, x17, rfl, OT, G9⟩
    have tt : (fun _ : Bool => True) false := trivial
    have t1 : (fun _ : Bool => True) true := trivial
    -- reads and counts of the copy
    refine ⟨JB K T.c_Standing y d t a0 R M g2 H10 ts rs 6 none none, ?_, ?_⟩
    · refine ⟨_, rfl, _, rfl, _, rfl, g2 0 true, y, g2 1 true, g2 2 true, g2 3 true, g2 4 true, tr9 true, ts.length, rfl, G9.st true trivial, (OT true).1.nd, by have := (OT true).2; omega, by omega, (OT true).1.rg, G9.sl true trivial, G9.ol true trivial, fun Hs1 s1 => ⟨_, rfl, iteNo rfl ?_⟩⟩
      have Ga := G9.same E2 s1
      refine ⟨_, rfl, _, rfl, _, rfl, _, rfl, d, t, g2 0 true, g2 3 true, y, g2 1 true, g2 2 true, tr9 true, ts.length, rfl, Ga.dr, Ga.st true trivial, (OT true).1.nd, Ga.sl true trivial, E2.nt 3 true trivial (by decide), by omega, fun H6 D6 b6 => ⟨_, rfl, iteNo rfl ?_⟩⟩
      exact ⟨tr9, _, _, _, _, _, _, rfl, OT, Ga.but E2 b6 D6⟩
    clear G9 OT
    rintro σ0 Ha ⟨tr, x7, x10, x11, x12, x16, x17, rfl, OT, G⟩
    refine ⟨_, rfl, _, rfl, d, t, 3, rfl, G.dr, by decide, fun f Hb f0 f1 Db bb => ?_⟩
    have Ga := G.but E2 bb Db
    have Fa := Ga.fz F10
    refine ⟨_, rfl, _, rfl, _, rfl, _, rfl, _, rfl, _, rfl, d, t, R, M, g2 3 false, 3, f, ws, us, rs, ts, tr false, rfl, Ga.dr, Fa.rw, Fa.nR, Fa.rr, Fa.mo, Fa.nM, Fa.mm, by omega, Ga.sl false trivial, E2.nt 3 false trivial (by decide), by omega, fun cs ss sp Hc Dc bc nsp hsp pss lss gss => ?_⟩
    have Gb := Ga.but E2 bc Dc
    have osp := Ga.off nsp
    have hsp : Hc sp = some (.lst cs) := hsp
    obtain ⟨Tr, Lr⟩ := takeOk_run ss (OT false).1
    clear G Ga Fa
    refine ⟨JB K T.c_Standing y d t a0 R M g2 H10 ts rs 10 none none, ?_, ?_⟩
    · have lo := (OT false).2
      refine ⟨_, rfl, _, rfl, _, rfl, g2 0 false, y, g2 1 false, g2 2 false, sp, x, l, m, f, tr false, ts, rs, ss, cs, rfl, Gb.st false trivial, (OT false).1.nd, by omega, (Gb.fz F10).onW kn, hsp, pss, form3 f0 f1 gss, fun v Hd ld Sd nv DV => ?_⟩
      have Gc := Gb.run E2 hd10 trivial ld Sd
      have Fc := Gc.fz F10
      have pss' : Stps Hd cs ss := pss.keep fun a xs e => ld _ _ ((Gb.offT e).o012 trivial) e
      refine ⟨_, rfl, _, rfl, _, rfl, _, rfl, _, rfl, R, M, g2 3 false, g2 4 false, sp, ws, us, cs, rs, ts, tr false, ss, rfl, Fc.rw, E2.nin trivial F10.rw, Gc.rows E2 F10 trivial, Fc.mo, E2.nin trivial F10.mo, Gc.mts E2 F10 trivial, by omega, Gc.sl false trivial, Gc.ol false trivial, E2.n34 trivial, ld _ _ (osp.o012 trivial) hsp, osp.o34 trivial, pss', (OT false).1.nd, by omega, fun u He le nu hs ho DU => ?_⟩
      have Gd := Gc.walk E2 hd10 trivial le hs ho
      obtain ⟨dw, hw⟩ := (Gd.fz F10).web.obj
      have DV' := DV.imp (N' := fun _ => True) (fun _ _ => trivial) (fun a xs n e => le _ _ ((Gb.off n).o34 trivial) e) fun a xs e => le _ _ ((Gc.offT e).o34 trivial) e
      refine ⟨y, _, _, dueRD (runT ts rs (tr false) ss).2, dueRD (runT ts rs (tr false) ss).2, rfl, DV'.dn hw, DU.dn hw, _, rfl, iteNo nsame ?_⟩
      exact ⟨_, _, _, _, _, _, _, rfl, ot_set OT Tr (by omega), Gd⟩
    clear Gb OT Tr Lr
    rintro σ0 Ha ⟨tr, x7, x10, x11, x12, x16, x17, rfl, OT, G⟩
    refine ⟨JB K T.c_Standing y d t a0 R M g2 H10 ts rs 10 none none, ?_, ?_⟩
    · refine ⟨_, rfl, _, rfl, _, rfl, g2 0 true, y, g2 1 true, g2 2 true, g2 3 true, g2 4 true, tr true, ts.length, rfl, G.st true trivial, (OT true).1.nd, by have := (OT true).2; omega, by omega, (OT true).1.rg, G.sl true trivial, G.ol true trivial, fun Hs1 s1 => ⟨_, rfl, iteNo rfl ?_⟩⟩
      have Ga := G.same E2 s1
      refine ⟨_, rfl, _, rfl, _, rfl, g2 0 false, y, g2 1 false, g2 2 false, g2 3 false, g2 4 false, tr false, ts.length, rfl, Ga.st false trivial, (OT false).1.nd, by have := (OT false).2; omega, by omega, (OT false).1.rg, Ga.sl false trivial, Ga.ol false trivial, fun Hs2 s2 => ⟨_, rfl, iteNo rfl ?_⟩⟩
      exact ⟨tr, _, _, _, _, _, _, rfl, OT, Ga.same E2 s2⟩
    clear G OT
    rintro σ0 Ha ⟨tr, x7, x10, x11, x12, x16, x17, rfl, OT, G⟩
    refine ⟨_, rfl, _, rfl, d, t, 3, rfl, G.dr, by decide, fun f Hb f0 f1 Db bb => ?_⟩
    have Ga := G.but E2 bb Db
    have Fa := Ga.fz F10
    refine ⟨_, rfl, _, rfl, _, rfl, _, rfl, _, rfl, _, rfl, d, t, R, M, g2 3 true, 4, f, ws, us, rs, ts, tr true, rfl, Ga.dr, Fa.rw, Fa.nR, Fa.rr, Fa.mo, Fa.nM, Fa.mm, by omega, Ga.sl true trivial, E2.nt 3 true trivial (by decide), by omega, fun cs ss sp Hc Dc bc nsp hsp pss lss gss => ?_⟩
    have Gb := Ga.but E2 bc Dc
    have osp := Ga.off nsp
    have hsp : Hc sp = some (.lst cs) := hsp
    obtain ⟨Tr, Lr⟩ := takeOk_run ss (OT true).1
    clear G Ga Fa
    refine ⟨JB K T.c_Standing y d t a0 R M g2 H10 ts rs 14 none none, ?_, ?_⟩
    · have lo := (OT true).2
      refine ⟨_, rfl, _, rfl, _, rfl, g2 0 true, y, g2 1 true, g2 2 true, sp, x, l, m, f, tr true, ts, rs, ss, cs, rfl, Gb.st true trivial, (OT true).1.nd, by omega, (Gb.fz F10).onW kn, hsp, pss, form3 f0 f1 gss, fun v Hd ld Sd nv DV => ?_⟩
      have Gc := Gb.run E2 hd10 trivial ld Sd
      have Fc := Gc.fz F10
      have pss' : Stps Hd cs ss := pss.keep fun a xs e => ld _ _ ((Gb.offT e).o012 trivial) e
      refine ⟨_, rfl, _, rfl, _, rfl, _, rfl, _, rfl, R, M, g2 3 true, g2 4 true, sp, ws, us, cs, rs, ts, tr true, ss, rfl, Fc.rw, E2.nin trivial F10.rw, Gc.rows E2 F10 trivial, Fc.mo, E2.nin trivial F10.mo, Gc.mts E2 F10 trivial, by omega, Gc.sl true trivial, Gc.ol true trivial, E2.n34 trivial, ld _ _ (osp.o012 trivial) hsp, osp.o34 trivial, pss', (OT true).1.nd, by omega, fun u He le nu hs ho DU => ?_⟩
      have Gd := Gc.walk E2 hd10 trivial le hs ho
      obtain ⟨dw, hw⟩ := (Gd.fz F10).web.obj
      have DV' := DV.imp (N' := fun _ => True) (fun _ _ => trivial) (fun a xs n e => le _ _ ((Gb.off n).o34 trivial) e) fun a xs e => le _ _ ((Gc.offT e).o34 trivial) e
      refine ⟨y, _, _, dueRD (runT ts rs (tr true) ss).2, dueRD (runT ts rs (tr true) ss).2, rfl, DV'.dn hw, DU.dn hw, _, rfl, iteNo nsame ?_⟩
      exact ⟨_, _, _, _, _, _, _, rfl, ot_set OT Tr (by omega), Gd⟩
    clear Gb OT Tr Lr
    rintro σ0 Ha ⟨tr, x7, x10, x11, x12, x16, x17, rfl, OT, G⟩
    refine ⟨JB K T.c_Standing y d t a0 R M g2 H10 ts rs 14 none none, ?_, ?_⟩
    · refine ⟨_, rfl, _, rfl, _, rfl, g2 0 false, y, g2 1 false, g2 2 false, g2 3 false, g2 4 false, tr false, ts.length, rfl, G.st false trivial, (OT false).1.nd, by have := (OT false).2; omega, by omega, (OT false).1.rg, G.sl false trivial, G.ol false trivial, fun Hs1 s1 => ⟨_, rfl, iteNo rfl ?_⟩⟩
      have Ga := G.same E2 s1
      refine ⟨_, rfl, _, rfl, _, rfl, g2 0 true, y, g2 1 true, g2 2 true, g2 3 true, g2 4 true, tr true, ts.length, rfl, Ga.st true trivial, (OT true).1.nd, by have := (OT true).2; omega, by omega, (OT true).1.rg, Ga.sl true trivial, Ga.ol true trivial, fun Hs2 s2 => ⟨_, rfl, iteNo rfl ?_⟩⟩
      exact ⟨tr, _, _, _, _, _, _, rfl, OT, Ga.same E2 s2⟩
    clear G OT
    rintro σ0 Ha ⟨tr, x7, x10, x11, x12, x16, x17, rfl, OT, G⟩
    have Fa := G.fz F10
    obtain ⟨v0, hv0⟩ : ∃ v, ws[0]? = some v := ⟨_, List.getElem?_eq_getElem (by omega)⟩
    obtain ⟨r0, hr0, p0, pp0, rfl, f0, f0', hp0, hpp0⟩ := pair_get' B9.rr hv0
    have hp9 : H9 p0 = some (.lst (rowL r0 pp0)) := hp0
    have hp0 := G.b0 _ _ f0 (s10 _ _ hp9)
    have m0 := List.mem_of_getElem? hr0
    have low0 := low r0 hr0
    have b0 : 0 ≤ r0.most := by
      have h := (g.row r0 m0).2.1
      unfold sizeB at h
      simp at h
      omega
    have z8 := (g.bnd r0 m0).1
    have pg : PGood rs ts r0.mark [] := ⟨⟨r0, good_find g.g hr0, suit_iff.mpr ⟨by rw [low0]; decide, by simp; omega, List.nodup_nil, fun p h => (by cases h)⟩⟩, fun p h => (by cases h), by omega⟩
    have ok2 : ThsOk rs (ts ++ [(r0.mark, [])]) := ths_app ok pg (by simp) (by simp; omega)
    have lts2 : (ts ++ [(r0.mark, ([] : List Int))]).length = ts.length + 1 := by simp
    have kn2 := ths_kn ok2
    have oldg : ∀ {a : Addr} {o : HO}, H10 a = some o → ∀ i b, i < 5 → a ≠ g2 i b := fun h i b hi e => by rw [e, E2.n0 i b trivial hi] at h; cases h
    obtain ⟨dy, hy10⟩ := F10.web.obj
    obtain ⟨dya, hya⟩ := Fa.web.obj
    have E9 : E19 (fun _ => True) t g2 H9 := E2.back (.of_same s10)
    -- the thing more
    refine ⟨_, rfl, y, dya, _, rfl, hya, rfl, _, rfl, _, _, _, _, rfl, rfl, SqL.of Fa.rw, atI_nat (j := 0) hv0, _, _, _, _, rfl, rfl, SqL.of hp0, atI_nat (j := 0) rfl, put_st (ps := []) rfl Fa.web Fa.sh.sh (by simp) (by omega) (fun _ Hb lb wb => ?_) (fun e c v f du => (pgood_due pg du).elim)⟩
    have lmo : ∀ a ∈ [l, m], a ≠ t ∧ a ≠ d ∧ ∀ i b, i < 5 → a ≠ g2 i b := fun a h => by
      obtain ⟨zs, hd9⟩ := (D7.same s9).ds
      obtain ⟨vl, hl10, _⟩ := F10.web.rows
      simp only [List.mem_cons, List.not_mem_nil, or_false] at h
      rcases h with rfl | rfl
      · exact ⟨F10.nl, (fun e => by rw [e, hd9] at nl; cases nl), oldg hl10⟩
      · exact ⟨F10.nm, (fun e => by rw [e, hd9] at nm; cases nm), oldg F10.web.nums⟩
    have b9 : But t H9 Hb := fun a o na e => lb _ _ (fun h => by
      simp only [List.mem_cons, List.not_mem_nil, or_false] at h
      rcases h with rfl | rfl
      · rw [nl] at e; cases e
      · rw [nm] at e; cases e) (G.b0 _ _ na (s10 _ _ e))
    have Gb := G.rebase lb lmo b9
    have hp0b := b9 _ _ f0 hp9
    have hRb := b9 _ _ nRt B9.rw
    have hMb := b9 _ _ nMt hM9
    clear Fa G lb
    refine ⟨_, rfl, _, rfl, _, _, _, _, rfl, rfl, SqL.of hRb, atI_nat (j := 0) hv0, _, _, _, _, rfl, rfl, SqL.of hp0b, atI_nat (j := 0) rfl, ?_⟩
    refine ⟨Nat.zero_le _, fun pa npa => ?_⟩
    have ha1 : (upd Hb pa (.lst [])) pa = some (.lst []) := upd_same
    have sa := same_new (o := .lst []) npa
    revert ha1 sa
    generalize upd Hb pa (.lst []) = Hc
    intro ha1 sa
    refine ⟨by show 2 ≤ sizeLine; decide, fun q nq => ?_⟩
    have hq1 : (upd Hc q (.lst [.str r0.mark, .ref pa])) q = some (.lst [.str r0.mark, .ref pa]) := upd_same
    have sb := same_new (o := .lst [.str r0.mark, .ref pa]) nq
    revert hq1 sb
    generalize upd Hc q (.lst [.str r0.mark, .ref pa]) = Hd
    intro hq1 sb
    refine ⟨by show 1 ≤ sizeLine; decide, fun u nu => ?_⟩
    have hu1 : (upd Hd u (.lst [.ref q])) u = some (.lst [.ref q]) := upd_same
    have sc := same_new (o := .lst [.ref q]) nu
    revert hu1 sc
    generalize upd Hd u (.lst [.ref q]) = He
    intro hu1 sc
    refine ⟨M, u, us, [.ref q], rfl, rfl, sc _ _ (sb _ _ (sa _ _ hMb)), hu1, by simp; omega, fun M2 nM2 => ?_⟩
    have hM2 : (upd He M2 (.lst (us ++ [.ref q]))) M2 = some (.lst (us ++ [.ref q])) := upd_same
    have sd := same_new (o := .lst (us ++ [.ref q])) nM2
    revert hM2 sd
    generalize upd He M2 (.lst (us ++ [.ref q])) = Hf
    intro hM2 sd
    have sab := sa.trans sb
    have sac := sab.trans sc
    have sad := sac.trans sd
    have Gf := Gb.same E9 sad
    have opa := Gb.off npa
    have oq := Gb.off (sa.free nq)
    have oM2 := Gb.off (sac.free nM2)
    have hq := (sc.trans sd) _ _ hq1
    have ha := ((sb.trans sc).trans sd) _ _ ha1
    have wf := wb.same sad
    have bf := b9.trans (.of_same sad)
    clear hu1 hq1 ha1 sa sb sc sd sab sac sad hMb hRb hp0b Gb wb b9
    -- a place more in the two states
    obtain ⟨Gg, og⟩ := Gf.grow E9 (hd10.elim fun o e => (D7.same s9).ds.elim fun zs e => ⟨_, e⟩) (fun b k hk => by have i := (OT b).1.inw k hk; unfold inW at i; omega)
    have n33 : g2 3 true ≠ g2 3 false := fun e => by have := (E2.inj 3 3 _ _ trivial trivial (by decide) (by decide) e).2; cases this
    refine ⟨_, rfl, .inl ⟨rfl, _, SqL.of (Gf.sl false trivial)⟩, _, _, _, rfl, rfl, Gf.sl false trivial, by rw [stV_len]; omega, ?_⟩
    have h3 : (upd Hf (g2 3 false) (.lst (stV (tr false) ts.length ++ [.int 0]))) (g2 3 true) = some (.lst (stV (tr true) ts.length)) := by rw [upd_ne n33]; exact Gf.sl true trivial
    refine ⟨_, rfl, .inl ⟨rfl, _, SqL.of h3⟩, _, _, _, rfl, rfl, h3, by rw [stV_len]; omega, ?_⟩
    clear h3
    revert Gg og
    generalize upd (upd Hf (g2 3 false) (.lst (stV (tr false) ts.length ++ [.int 0]))) (g2 3 true) (.lst (stV (tr true) ts.length ++ [.int 0])) = Hg
    intro Gg og
    refine ⟨fun σ' H' => ∃ (M2 la p : Addr) (us2 : List V) (H20 : Hp), Fz T.c_Web T.c_Shape t y x l m R M2 ws us2 rs (ts ++ [(r0.mark, [])]) H20 ∧ E19 (fun _ => True) t g2 H20 ∧ (∃ o, H20 d = some o) ∧ H20 la = some (.lst [.ref p]) ∧ la ≠ t ∧ p ≠ t ∧ H20 p = some (.tup [.str "own", .int ts.length]) ∧ JB K T.c_Standing y d t a0 R M2 g2 H20 (ts ++ [(r0.mark, [])]) rs 14 (some (.int ts.length)) (some (.ref la)) σ' H', ?_, ?_⟩
    · refine ⟨_, rfl, by show 2 ≤ sizeLine; decide, fun p np => ?_⟩
      have hp : (upd Hg p (.tup [.str "own", .int ts.length])) p = some (.tup [.str "own", .int ts.length]) := upd_same
      have sa := same_new (o := .tup [.str "own", .int ts.length]) np
      revert hp sa
      generalize upd Hg p (.tup [.str "own", .int ts.length]) = Hh
      intro hp sa
      refine ⟨by show 1 ≤ sizeLine; decide, fun la nla => ?_⟩
      have hla : (upd Hh la (.lst [.ref p])) la = some (.lst [.ref p]) := upd_same
      have sb := same_new (o := .lst [.ref p]) nla
      revert hla sb
      generalize upd Hh la (.lst [.ref p]) = Hi
      intro hla sb
      have sab := sa.trans sb
      have Gi := Gg.same E9 sab
      have op := Gg.off np
      have ola := Gg.off (sa.free nla)
      have og9 : ∀ {a : Addr}, Off9 (fun _ => True) t g2 a → ∀ i b, i < 5 → a ≠ g2 i b := fun o i b hi => o.2 i b trivial hi
      have keep : ∀ {a : Addr} {o : HO}, (∀ i b, i < 5 → a ≠ g2 i b) → Hf a = some o → wipe g2 Hi a = some o := fun n h => wipe_of n (sab _ _ (by rw [og _ n]; exact h))
      have b20 : But t H9 (wipe g2 Hi) := wipe_but E9 Gi.b0
      have web20 : Wb T.c_Web (wipe g2 Hi) y x l m (ts ++ [(r0.mark, [])]) := wf.keep (fun o e => keep (oldg hy10) e) (fun o e => keep (lmo l (by simp)).2.2 e) (fun o e => keep (lmo m (by simp)).2.2 e) fun a xs e => keep (og9 (Gf.offT e)) e
      have F20 := B9.fz b20 (Gi.dr.pl.elim fun k e => ⟨_, wipe_of (fun i b hi => (E2.nt i b trivial hi).symm) e⟩) web20 F10.nl F10.nm (keep (og9 oM2) hM2) (pair_app' (mtsN_but mM9 b20) (.cons ⟨q, pa, rfl, by simpa using oq.1, by simpa using opa.1, keep (og9 oq) hq, keep (og9 opa) ha⟩ .nil)) oM2.1
      exact ⟨M2, la, p, _, _, F20, E9.wipe Hi, hd10.elim fun o e => Gi.dr.ds.elim fun zs e' => ⟨_, wipe_of (oldg e) e'⟩, wipe_of (og9 ola) hla, ola.1, op.1, wipe_of (og9 op) (sb _ _ hp), tr, _, _, _, _, _, _, rfl, fun b => ⟨(OT b).1.grow, (OT b).2⟩, by rw [lts2]; exact Gi.wipe⟩
    clear Gg og Gf opa oq oM2 hq ha wf bf lmo
    rintro σ0 Ha ⟨M2, la, p, us2, H20, F20, E3, hd20, hla, nla, npt, hp, tr, x7, x10, x11, x12, x16, x17, rfl, OT, G⟩
    generalize ts ++ [(r0.mark, ([] : List Int))] = ts2 at *
    have lus2 := pair_len' F20.mm
    have F20a := G.fz F20
    obtain ⟨dwa, hwa⟩ := F20a.web.obj
    refine ⟨JB K T.c_Standing y d t a0 R M2 g2 H20 ts2 rs 15 (some (.int ts.length)) (some (.ref la)), ?_, ?_⟩
    · refine ⟨_, rfl, _, rfl, M2, us2, rfl, .inl (SqL.of F20a.mo), _, _, rfl, rfl, y, _, _, .int ts.length, .int ts.length, rfl, Dn.int (x := y) _, ?_, ?_⟩
      · rw [lus2, lts2]
        show Dn K y Ha 3 (.int (((ts.length + 1 : Nat) : Int) - 1)) (.int ts.length)
        rw [show ((ts.length + 1 : Nat) : Int) - 1 = ts.length by omega]; exact Dn.int _
      refine ⟨_, rfl, iteNo nsame ?_⟩
      have osp : Off9 (fun _ => True) t g2 la := ⟨nla, fun i c _ hi e => by rw [e, E3.n0 i c trivial hi] at hla; cases hla⟩
      have pss : Stps Ha [.ref p] [("own", (ts.length : Int))] := .cons ⟨p, rfl, G.b0 _ _ npt hp⟩ .nil
      obtain ⟨Tr, Lr⟩ := takeOk_run [("own", (ts.length : Int))] (OT true).1
      have Lr : (runT ts2 rs (tr true) [("own", (ts.length : Int))]).1.length ≤ (tr true).length + 1 := Lr
      have lo := (OT true).2
      refine ⟨_, rfl, _, rfl, g2 0 true, y, g2 1 true, g2 2 true, la, x, l, m, 0, tr true, ts2, rs, [("own", (ts.length : Int))], [.ref p], rfl, G.st true trivial, (OT true).1.nd, by show (tr true).length + 1 ≤ 900; omega, (G.fz F20).onW kn2, G.b0 _ _ nla hla, pss, .inl rfl, fun v Hd ld Sd nv DV => ?_⟩
      have Gc := G.run E3 hd20 trivial ld Sd
      have Fc := Gc.fz F20
      refine ⟨_, rfl, _, rfl, _, rfl, _, rfl, _, rfl, R, M2, g2 3 true, g2 4 true, la, ws, us2, [.ref p], rs, ts2, tr true, [("own", (ts.length : Int))], rfl, Fc.rw, E3.nin trivial F20.rw, Gc.rows E3 F20 trivial, Fc.mo, E3.nin trivial F20.mo, Gc.mts E3 F20 trivial, by omega, Gc.sl true trivial, Gc.ol true trivial, E3.n34 trivial, Gc.b0 _ _ nla hla, osp.o34 trivial, .cons ⟨p, rfl, Gc.b0 _ _ npt hp⟩ .nil, (OT true).1.nd, by show (tr true).length + 1 ≤ 900; omega, fun u He le nu hs ho DU => ?_⟩
      have Gd := Gc.walk E3 hd20 trivial le hs ho
      obtain ⟨dw, hw⟩ := (Gd.fz F20).web.obj
      have DV' := DV.imp (N' := fun _ => True) (fun _ _ => trivial) (fun a xs n e => le _ _ ((G.off n).o34 trivial) e) fun a xs e => le _ _ ((Gc.offT e).o34 trivial) e
      refine ⟨y, _, _, dueRD (runT ts2 rs (tr true) [("own", (ts.length : Int))]).2, dueRD (runT ts2 rs (tr true) [("own", (ts.length : Int))]).2, rfl, DV'.dn hw, DU.dn hw, _, rfl, iteNo nsame ?_⟩
      exact ⟨_, _, _, _, _, _, _, rfl, ot_set OT Tr (by omega), Gd⟩
    clear G OT F20a hwa
    rintro σ0 Ha ⟨tr, x7, x10, x11, x12, x16, x17, rfl, OT, G⟩
    refine ⟨JB K T.c_Standing y d t a0 R M2 g2 H20 ts2 rs 15 (some (.int ts.length)) (some (.ref la)), ?_, ?_⟩
    · refine ⟨_, rfl, _, rfl, _, rfl, g2 0 false, y, g2 1 false, g2 2 false, g2 3 false, g2 4 false, tr false, ts2.length, rfl, G.st false trivial, (OT false).1.nd, by have := (OT false).2; omega, by omega, (OT false).1.rg, G.sl false trivial, G.ol false trivial, fun Hs1 s1 => ⟨_, rfl, iteNo rfl ?_⟩⟩
      have Ga := G.same E3 s1
      refine ⟨_, rfl, _, rfl, _, rfl, g2 0 true, y, g2 1 true, g2 2 true, g2 3 true, g2 4 true, tr true, ts2.length, rfl, Ga.st true trivial, (OT true).1.nd, by have := (OT true).2; omega, by omega, (OT true).1.rg, Ga.sl true trivial, Ga.ol true trivial, fun Hs2 s2 => ⟨_, rfl, iteNo rfl ?_⟩⟩
      exact ⟨tr, _, _, _, _, _, _, rfl, OT, Ga.same E3 s2⟩
    clear G OT
    rintro σ0 Ha ⟨tr, x7, x10, x11, x12, x16, x17, rfl, OT, G⟩
    refine ⟨JB K T.c_Standing y d t a0 R M2 g2 H20 ts2 rs 16 (some (.int ts.length)) (some (.ref la)), ?_, ?_⟩
    · have osp : Off9 (fun _ => True) t g2 la := ⟨nla, fun i c _ hi e => by rw [e, E3.n0 i c trivial hi] at hla; cases hla⟩
      have pss : Stps Ha [.ref p] [("own", (ts.length : Int))] := .cons ⟨p, rfl, G.b0 _ _ npt hp⟩ .nil
      obtain ⟨Tr, Lr⟩ := takeOk_run [("own", (ts.length : Int))] (OT false).1
      have Lr : (runT ts2 rs (tr false) [("own", (ts.length : Int))]).1.length ≤ (tr false).length + 1 := Lr
      have lo := (OT false).2
      refine ⟨_, rfl, _, rfl, g2 0 false, y, g2 1 false, g2 2 false, la, x, l, m, 1, tr false, ts2, rs, [("own", (ts.length : Int))], [.ref p], rfl, G.st false trivial, (OT false).1.nd, by show (tr false).length + 1 ≤ 900; omega, (G.fz F20).onW kn2, G.b0 _ _ nla hla, pss, .inr (.inl rfl), fun v Hd ld Sd nv DV => ?_⟩
      have Gc := G.run E3 hd20 trivial ld Sd
      have Fc := Gc.fz F20
      refine ⟨_, rfl, _, rfl, _, rfl, _, rfl, _, rfl, R, M2, g2 3 false, g2 4 false, la, ws, us2, [.ref p], rs, ts2, tr false, [("own", (ts.length : Int))], rfl, Fc.rw, E3.nin trivial F20.rw, Gc.rows E3 F20 trivial, Fc.mo, E3.nin trivial F20.mo, Gc.mts E3 F20 trivial, by omega, Gc.sl false trivial, Gc.ol false trivial, E3.n34 trivial, Gc.b0 _ _ nla hla, osp.o34 trivial, .cons ⟨p, rfl, Gc.b0 _ _ npt hp⟩ .nil, (OT false).1.nd, by show (tr false).length + 1 ≤ 900; omega, fun u He le nu hs ho DU => ?_⟩
      have Gd := Gc.walk E3 hd20 trivial le hs ho
      obtain ⟨dw, hw⟩ := (Gd.fz F20).web.obj
      have DV' := DV.imp (N' := fun _ => True) (fun _ _ => trivial) (fun a xs n e => le _ _ ((G.off n).o34 trivial) e) fun a xs e => le _ _ ((Gc.offT e).o34 trivial) e
      refine ⟨y, _, _, dueRD (runT ts2 rs (tr false) [("own", (ts.length : Int))]).2, dueRD (runT ts2 rs (tr false) [("own", (ts.length : Int))]).2, rfl, DV'.dn hw, DU.dn hw, _, rfl, iteNo nsame ?_⟩
      exact ⟨_, _, _, _, _, _, _, rfl, ot_set OT Tr (by omega), Gd⟩
    clear G OT
    rintro σ0 Ha ⟨tr, x7, x10, x11, x12, x16, x17, rfl, OT, G⟩
    refine ⟨_, rfl, _, rfl, _, rfl, g2 0 false, y, g2 1 false, g2 2 false, g2 3 false, g2 4 false, tr false, ts2.length, rfl, G.st false trivial, (OT false).1.nd, by have := (OT false).2; omega, by omega, (OT false).1.rg, G.sl false trivial, G.ol false trivial, fun Hs1 s1 => ?_⟩
    have Ga := G.same E3 s1
    refine ⟨_, rfl, iteT ?_⟩
    refine ⟨_, rfl, _, rfl, _, rfl, g2 0 true, y, g2 1 true, g2 2 true, g2 3 true, g2 4 true, tr true, ts2.length, rfl, Ga.st true trivial, (OT true).1.nd, by have := (OT true).2; omega, by omega, (OT true).1.rg, Ga.sl true trivial, Ga.ol true trivial, fun Hs2 s2 => ?_⟩
    have Gb := Ga.same E3 s2
    refine ⟨_, rfl, iteT ?_⟩
    refine ⟨_, rfl, _, rfl, _, rfl, _, rfl, d, t, g2 0 false, g2 3 false, y, g2 1 false, g2 2 false, tr false, ts2.length, rfl, Gb.dr, Gb.st false trivial, (OT false).1.nd, Gb.sl false trivial, E3.nt 3 false trivial (by decide), by omega, fun H6 D6 b6 => ?_⟩
    exact qq _
end
end My

namespace My
open PySem L2
theorem all_mk {w : World} {K : PySem.W.Frag} {h : Heap} {mg : Str → Option Value} {fa : Addr} (X : K.In h) (G : h.Ns mainGlobals mg) (hfa : mg "law" = some (.ref fa))
    {c_Program : Addr}
    {c_Standing : Addr}
    {c_Shape : Addr}
    {c_Web : Addr}
    {f_sound_step : Addr} {od_sound_step an_sound_step : Option Addr} {sl_sound_step : Array (Option Value)} {oc_sound_step kV_sound_step dc_sound_step pm_sound_step cd_sound_step ct_sound_step : Value}
    {f_Program_init : Addr} {od_Program_init an_Program_init : Option Addr} {sl_Program_init : Array (Option Value)} {oc_Program_init kV_Program_init dc_Program_init pm_Program_init cd_Program_init ct_Program_init : Value}
    {f_Program_iter : Addr} {od_Program_iter an_Program_iter : Option Addr} {sl_Program_iter : Array (Option Value)} {oc_Program_iter kV_Program_iter dc_Program_iter pm_Program_iter cd_Program_iter ct_Program_iter : Value}
    {f_Program_add : Addr} {od_Program_add an_Program_add : Option Addr} {sl_Program_add : Array (Option Value)} {oc_Program_add kV_Program_add dc_Program_add pm_Program_add cd_Program_add ct_Program_add : Value}
    {f_Standing_init : Addr} {od_Standing_init an_Standing_init : Option Addr} {sl_Standing_init : Array (Option Value)} {oc_Standing_init kV_Standing_init dc_Standing_init pm_Standing_init cd_Standing_init ct_Standing_init : Value}
    {f_Standing_check : Addr} {od_Standing_check an_Standing_check : Option Addr} {sl_Standing_check : Array (Option Value)} {oc_Standing_check kV_Standing_check dc_Standing_check pm_Standing_check cd_Standing_check ct_Standing_check : Value}
    {f_Standing_take : Addr} {od_Standing_take an_Standing_take : Option Addr} {sl_Standing_take : Array (Option Value)} {oc_Standing_take kV_Standing_take dc_Standing_take pm_Standing_take cd_Standing_take ct_Standing_take : Value}
    {f_Standing_run : Addr} {od_Standing_run an_Standing_run : Option Addr} {sl_Standing_run : Array (Option Value)} {oc_Standing_run kV_Standing_run dc_Standing_run pm_Standing_run cd_Standing_run ct_Standing_run : Value}
    {f_Standing_begun : Addr} {od_Standing_begun an_Standing_begun : Option Addr} {sl_Standing_begun : Array (Option Value)} {oc_Standing_begun kV_Standing_begun dc_Standing_begun pm_Standing_begun cd_Standing_begun ct_Standing_begun : Value}
    {p_Standing_begun : Addr} {rs_Standing_begun : List Value}
    {f_Standing_loose : Addr} {od_Standing_loose an_Standing_loose : Option Addr} {sl_Standing_loose : Array (Option Value)} {oc_Standing_loose kV_Standing_loose dc_Standing_loose pm_Standing_loose cd_Standing_loose ct_Standing_loose : Value}
    {p_Standing_loose : Addr} {rs_Standing_loose : List Value}
    {f_Standing_holding : Addr} {od_Standing_holding an_Standing_holding : Option Addr} {sl_Standing_holding : Array (Option Value)} {oc_Standing_holding kV_Standing_holding dc_Standing_holding pm_Standing_holding cd_Standing_holding ct_Standing_holding : Value}
    {p_Standing_holding : Addr} {rs_Standing_holding : List Value}
    {f_Standing_held_mode : Addr} {od_Standing_held_mode an_Standing_held_mode : Option Addr} {sl_Standing_held_mode : Array (Option Value)} {oc_Standing_held_mode kV_Standing_held_mode dc_Standing_held_mode pm_Standing_held_mode cd_Standing_held_mode ct_Standing_held_mode : Value}
    {f_Standing_locked_mode : Addr} {od_Standing_locked_mode an_Standing_locked_mode : Option Addr} {sl_Standing_locked_mode : Array (Option Value)} {oc_Standing_locked_mode kV_Standing_locked_mode dc_Standing_locked_mode pm_Standing_locked_mode cd_Standing_locked_mode ct_Standing_locked_mode : Value}
    {f_Standing_counts : Addr} {od_Standing_counts an_Standing_counts : Option Addr} {sl_Standing_counts : Array (Option Value)} {oc_Standing_counts kV_Standing_counts dc_Standing_counts pm_Standing_counts cd_Standing_counts ct_Standing_counts : Value}
    {f_Standing_copy : Addr} {od_Standing_copy an_Standing_copy : Option Addr} {sl_Standing_copy : Array (Option Value)} {oc_Standing_copy kV_Standing_copy dc_Standing_copy pm_Standing_copy cd_Standing_copy ct_Standing_copy : Value}
    {f_is_mark : Addr} {od_is_mark an_is_mark : Option Addr} {sl_is_mark : Array (Option Value)} {oc_is_mark kV_is_mark dc_is_mark pm_is_mark cd_is_mark ct_is_mark : Value}
    {f_sound_row : Addr} {od_sound_row an_sound_row : Option Addr} {sl_sound_row : Array (Option Value)} {oc_sound_row kV_sound_row dc_sound_row pm_sound_row cd_sound_row ct_sound_row : Value}
    {f_barren : Addr} {od_barren an_barren : Option Addr} {sl_barren : Array (Option Value)} {oc_barren kV_barren dc_barren pm_barren cd_barren ct_barren : Value}
    {f_Shape_init : Addr} {od_Shape_init an_Shape_init : Option Addr} {sl_Shape_init : Array (Option Value)} {oc_Shape_init kV_Shape_init dc_Shape_init pm_Shape_init cd_Shape_init ct_Shape_init : Value}
    {f_Shape_getitem : Addr} {od_Shape_getitem an_Shape_getitem : Option Addr} {sl_Shape_getitem : Array (Option Value)} {oc_Shape_getitem kV_Shape_getitem dc_Shape_getitem pm_Shape_getitem cd_Shape_getitem ct_Shape_getitem : Value}
    {f_Shape_modes_of : Addr} {od_Shape_modes_of an_Shape_modes_of : Option Addr} {sl_Shape_modes_of : Array (Option Value)} {oc_Shape_modes_of kV_Shape_modes_of dc_Shape_modes_of pm_Shape_modes_of cd_Shape_modes_of ct_Shape_modes_of : Value}
    {f_suitable : Addr} {od_suitable an_suitable : Option Addr} {sl_suitable : Array (Option Value)} {oc_suitable kV_suitable dc_suitable pm_suitable cd_suitable ct_suitable : Value}
    {f_Web_init : Addr} {od_Web_init an_Web_init : Option Addr} {sl_Web_init : Array (Option Value)} {oc_Web_init kV_Web_init dc_Web_init pm_Web_init cd_Web_init ct_Web_init : Value}
    {f_Web_put : Addr} {od_Web_put an_Web_put : Option Addr} {sl_Web_put : Array (Option Value)} {oc_Web_put kV_Web_put dc_Web_put pm_Web_put cd_Web_put ct_Web_put : Value}
    {f_Web_getitem : Addr} {od_Web_getitem an_Web_getitem : Option Addr} {sl_Web_getitem : Array (Option Value)} {oc_Web_getitem kV_Web_getitem dc_Web_getitem pm_Web_getitem cd_Web_getitem ct_Web_getitem : Value}
    {f_Web_contains : Addr} {od_Web_contains an_Web_contains : Option Addr} {sl_Web_contains : Array (Option Value)} {oc_Web_contains kV_Web_contains dc_Web_contains pm_Web_contains cd_Web_contains ct_Web_contains : Value}
    {f_Web_mark_of : Addr} {od_Web_mark_of an_Web_mark_of : Option Addr} {sl_Web_mark_of : Array (Option Value)} {oc_Web_mark_of kV_Web_mark_of dc_Web_mark_of pm_Web_mark_of cd_Web_mark_of ct_Web_mark_of : Value}
    {f__law_draws : Addr} {od__law_draws an__law_draws : Option Addr} {sl__law_draws : Array (Option Value)} {oc__law_draws kV__law_draws dc__law_draws pm__law_draws cd__law_draws ct__law_draws : Value}
    {f__law_take : Addr} {od__law_take an__law_take : Option Addr} {sl__law_take : Array (Option Value)} {oc__law_take kV__law_take dc__law_take pm__law_take cd__law_take ct__law_take : Value}
    {f__law_same : Addr} {od__law_same an__law_same : Option Addr} {sl__law_same : Array (Option Value)} {oc__law_same kV__law_same dc__law_same pm__law_same cd__law_same ct__law_same : Value}
    {f__law_marks : Addr} {od__law_marks an__law_marks : Option Addr} {sl__law_marks : Array (Option Value)} {oc__law_marks kV__law_marks dc__law_marks pm__law_marks cd__law_marks ct__law_marks : Value}
    {f__law_rows : Addr} {od__law_rows an__law_rows : Option Addr} {sl__law_rows : Array (Option Value)} {oc__law_rows kV__law_rows dc__law_rows pm__law_rows cd__law_rows ct__law_rows : Value}
    {f__law_things : Addr} {od__law_things an__law_things : Option Addr} {sl__law_things : Array (Option Value)} {oc__law_things kV__law_things dc__law_things pm__law_things cd__law_things ct__law_things : Value}
    {f__law_counts : Addr} {od__law_counts an__law_counts : Option Addr} {sl__law_counts : Array (Option Value)} {oc__law_counts kV__law_counts dc__law_counts pm__law_counts cd__law_counts ct__law_counts : Value}
    {f__law_do : Addr} {od__law_do an__law_do : Option Addr} {sl__law_do : Array (Option Value)} {oc__law_do kV__law_do dc__law_do pm__law_do cd__law_do ct__law_do : Value}
    {f__law_shared : Addr} {od__law_shared an__law_shared : Option Addr} {sl__law_shared : Array (Option Value)} {oc__law_shared kV__law_shared dc__law_shared pm__law_shared cd__law_shared ct__law_shared : Value}
    {f__law_shape : Addr} {od__law_shape an__law_shape : Option Addr} {sl__law_shape : Array (Option Value)} {oc__law_shape kV__law_shape dc__law_shape pm__law_shape cd__law_shape ct__law_shape : Value}
    {f__law_put : Addr} {od__law_put an__law_put : Option Addr} {sl__law_put : Array (Option Value)} {oc__law_put kV__law_put dc__law_put pm__law_put cd__law_put ct__law_put : Value}
    {f__law_web : Addr} {od__law_web an__law_web : Option Addr} {sl__law_web : Array (Option Value)} {oc__law_web kV__law_web dc__law_web pm__law_web cd__law_web ct__law_web : Value}
    {f__law_refusal : Addr} {od__law_refusal an__law_refusal : Option Addr} {sl__law_refusal : Array (Option Value)} {oc__law_refusal kV__law_refusal dc__law_refusal pm__law_refusal cd__law_refusal ct__law_refusal : Value}
    {f__law_due : Addr} {od__law_due an__law_due : Option Addr} {sl__law_due : Array (Option Value)} {oc__law_due kV__law_due dc__law_due pm__law_due cd__law_due ct__law_due : Value}
    {f__law_reads : Addr} {od__law_reads an__law_reads : Option Addr} {sl__law_reads : Array (Option Value)} {oc__law_reads kV__law_reads dc__law_reads pm__law_reads cd__law_reads ct__law_reads : Value}
    {f__law_choices : Addr} {od__law_choices an__law_choices : Option Addr} {sl__law_choices : Array (Option Value)} {oc__law_choices kV__law_choices dc__law_choices pm__law_choices cd__law_choices ct__law_choices : Value}
    {f__law_row : Addr} {od__law_row an__law_row : Option Addr} {sl__law_row : Array (Option Value)} {oc__law_row kV__law_row dc__law_row pm__law_row cd__law_row ct__law_row : Value}
    {f__law_walk : Addr} {od__law_walk an__law_walk : Option Addr} {sl__law_walk : Array (Option Value)} {oc__law_walk kV__law_walk dc__law_walk pm__law_walk cd__law_walk ct__law_walk : Value}
    {f__law_run : Addr} {od__law_run an__law_run : Option Addr} {sl__law_run : Array (Option Value)} {oc__law_run kV__law_run dc__law_run pm__law_run cd__law_run ct__law_run : Value}
    {f__law_counted : Addr} {od__law_counted an__law_counted : Option Addr} {sl__law_counted : Array (Option Value)} {oc__law_counted kV__law_counted dc__law_counted pm__law_counted cd__law_counted ct__law_counted : Value}
    {f_law : Addr} {od_law an_law : Option Addr} {sl_law : Array (Option Value)} {oc_law kV_law dc_law pm_law cd_law ct_law : Value}
    {q_DEEDS : Addr} {oq_DEEDS : Option Addr} {nq_DEEDS : Nat} {slq_DEEDS : Array (Option Value)} {t_DEEDS_0 : Tok} {t_DEEDS_1 : Tok} {t_DEEDS_2 : Tok}
    {tq_LETTERS : Tok}
    {q_MODES : Addr} {oq_MODES : Option Addr} {nq_MODES : Nat} {slq_MODES : Array (Option Value)} {t_MODES_0 : Tok} {t_MODES_1 : Tok}
    {fl_Program_add rl_Program_add ft_Program_add rt_Program_add : Option Value}
    {ra_Program_add : Addr}
    {ti_Shape_MARKS : Tok}
    {ti_Shape_PARENTS : Tok}
    {ti_Web_MOST : Tok}
    {c_BadShape : Addr}
    {c_UnknownMark : Addr}
    {c_TooLarge : Addr}
    {c_BadParents : Addr}
    {c_NoThing : Addr}
    {c_BadStep : Addr}
    {c_Refused : Addr}
    {c_LockedBefore : Addr}
    {c_WrongMode : Addr}
    {c_NotHeld : Addr}
    {c_WebError : Addr}
    {c_NotAllowed : Addr}
    {c_Clash : Addr}
    {nm_BadShape q_BadShape : Str} {N_BadShape : Addr} {bs_BadShape : List Value} {sn_BadShape : List Str} {sub_BadShape : List Value} {ab_BadShape : Bool} {col_BadShape : Option Bool} {dd_BadShape : Option Addr} {m0_BadShape m1_BadShape m2_BadShape m3_BadShape m5_BadShape : Option Value}
    {f_BadShape cda_BadShape cc_BadShape : Addr} {od_BadShape an_BadShape cld_BadShape cdd_BadShape : Option Addr} {osl_BadShape csl_BadShape ccs_BadShape : Array (Option Value)} {oc_BadShape kV_BadShape dc_BadShape pm_BadShape ct_BadShape cl_BadShape ccl_BadShape : Value} {vs_BadShape : Array Value} {file_BadShape : Str} {tf_BadShape : Tok}
    {nm_UnknownMark q_UnknownMark : Str} {N_UnknownMark : Addr} {bs_UnknownMark : List Value} {sn_UnknownMark : List Str} {sub_UnknownMark : List Value} {ab_UnknownMark : Bool} {col_UnknownMark : Option Bool} {dd_UnknownMark : Option Addr} {m0_UnknownMark m1_UnknownMark m2_UnknownMark m3_UnknownMark m5_UnknownMark : Option Value}
    {f_UnknownMark cda_UnknownMark cc_UnknownMark : Addr} {od_UnknownMark an_UnknownMark cld_UnknownMark cdd_UnknownMark : Option Addr} {osl_UnknownMark csl_UnknownMark ccs_UnknownMark : Array (Option Value)} {oc_UnknownMark kV_UnknownMark dc_UnknownMark pm_UnknownMark ct_UnknownMark cl_UnknownMark ccl_UnknownMark : Value} {vs_UnknownMark : Array Value} {file_UnknownMark : Str} {tf_UnknownMark : Tok}
    {nm_TooLarge q_TooLarge : Str} {N_TooLarge : Addr} {bs_TooLarge : List Value} {sn_TooLarge : List Str} {sub_TooLarge : List Value} {ab_TooLarge : Bool} {col_TooLarge : Option Bool} {dd_TooLarge : Option Addr} {m0_TooLarge m1_TooLarge m2_TooLarge m3_TooLarge m5_TooLarge : Option Value}
    {f_TooLarge cda_TooLarge cc_TooLarge : Addr} {od_TooLarge an_TooLarge cld_TooLarge cdd_TooLarge : Option Addr} {osl_TooLarge csl_TooLarge ccs_TooLarge : Array (Option Value)} {oc_TooLarge kV_TooLarge dc_TooLarge pm_TooLarge ct_TooLarge cl_TooLarge ccl_TooLarge : Value} {vs_TooLarge : Array Value} {file_TooLarge : Str} {tf_TooLarge : Tok}
    {nm_BadParents q_BadParents : Str} {N_BadParents : Addr} {bs_BadParents : List Value} {sn_BadParents : List Str} {sub_BadParents : List Value} {ab_BadParents : Bool} {col_BadParents : Option Bool} {dd_BadParents : Option Addr} {m0_BadParents m1_BadParents m2_BadParents m3_BadParents m5_BadParents : Option Value}
    {f_BadParents cda_BadParents cc_BadParents : Addr} {od_BadParents an_BadParents cld_BadParents cdd_BadParents : Option Addr} {osl_BadParents csl_BadParents ccs_BadParents : Array (Option Value)} {oc_BadParents kV_BadParents dc_BadParents pm_BadParents ct_BadParents cl_BadParents ccl_BadParents : Value} {vs_BadParents : Array Value} {file_BadParents : Str} {tf_BadParents : Tok}
    {nm_NoThing q_NoThing : Str} {N_NoThing : Addr} {bs_NoThing : List Value} {sn_NoThing : List Str} {sub_NoThing : List Value} {ab_NoThing : Bool} {col_NoThing : Option Bool} {dd_NoThing : Option Addr} {m0_NoThing m1_NoThing m2_NoThing m3_NoThing m5_NoThing : Option Value}
    {f_NoThing cda_NoThing cc_NoThing : Addr} {od_NoThing an_NoThing cld_NoThing cdd_NoThing : Option Addr} {osl_NoThing csl_NoThing ccs_NoThing : Array (Option Value)} {oc_NoThing kV_NoThing dc_NoThing pm_NoThing ct_NoThing cl_NoThing ccl_NoThing : Value} {vs_NoThing : Array Value} {file_NoThing : Str} {tf_NoThing : Tok}
    {nm_BadStep q_BadStep : Str} {N_BadStep : Addr} {bs_BadStep : List Value} {sn_BadStep : List Str} {sub_BadStep : List Value} {ab_BadStep : Bool} {col_BadStep : Option Bool} {dd_BadStep : Option Addr} {m0_BadStep m1_BadStep m2_BadStep m3_BadStep m5_BadStep : Option Value}
    {f_BadStep cda_BadStep cc_BadStep : Addr} {od_BadStep an_BadStep cld_BadStep cdd_BadStep : Option Addr} {osl_BadStep csl_BadStep ccs_BadStep : Array (Option Value)} {oc_BadStep kV_BadStep dc_BadStep pm_BadStep ct_BadStep cl_BadStep ccl_BadStep : Value} {vs_BadStep : Array Value} {file_BadStep : Str} {tf_BadStep : Tok}
    {nm_Refused q_Refused : Str} {N_Refused : Addr} {bs_Refused : List Value} {sn_Refused : List Str} {sub_Refused : List Value} {ab_Refused : Bool} {col_Refused : Option Bool} {dd_Refused : Option Addr} {m0_Refused m1_Refused m2_Refused m3_Refused m5_Refused : Option Value}
    {f_Refused cda_Refused cc_Refused : Addr} {od_Refused an_Refused cld_Refused cdd_Refused : Option Addr} {osl_Refused csl_Refused ccs_Refused : Array (Option Value)} {oc_Refused kV_Refused dc_Refused pm_Refused ct_Refused cl_Refused ccl_Refused : Value} {vs_Refused : Array Value} {file_Refused : Str} {tf_Refused : Tok}
    {nm_LockedBefore q_LockedBefore : Str} {N_LockedBefore : Addr} {bs_LockedBefore : List Value} {sn_LockedBefore : List Str} {sub_LockedBefore : List Value} {ab_LockedBefore : Bool} {col_LockedBefore : Option Bool} {dd_LockedBefore : Option Addr} {m0_LockedBefore m1_LockedBefore m2_LockedBefore m3_LockedBefore m5_LockedBefore : Option Value}
    {f_LockedBefore cda_LockedBefore cc_LockedBefore : Addr} {od_LockedBefore an_LockedBefore cld_LockedBefore cdd_LockedBefore : Option Addr} {osl_LockedBefore csl_LockedBefore ccs_LockedBefore : Array (Option Value)} {oc_LockedBefore kV_LockedBefore dc_LockedBefore pm_LockedBefore ct_LockedBefore cl_LockedBefore ccl_LockedBefore : Value} {vs_LockedBefore : Array Value} {file_LockedBefore : Str} {tf_LockedBefore : Tok}
    {nm_WrongMode q_WrongMode : Str} {N_WrongMode : Addr} {bs_WrongMode : List Value} {sn_WrongMode : List Str} {sub_WrongMode : List Value} {ab_WrongMode : Bool} {col_WrongMode : Option Bool} {dd_WrongMode : Option Addr} {m0_WrongMode m1_WrongMode m2_WrongMode m3_WrongMode m5_WrongMode : Option Value}
    {f_WrongMode cda_WrongMode cc_WrongMode : Addr} {od_WrongMode an_WrongMode cld_WrongMode cdd_WrongMode : Option Addr} {osl_WrongMode csl_WrongMode ccs_WrongMode : Array (Option Value)} {oc_WrongMode kV_WrongMode dc_WrongMode pm_WrongMode ct_WrongMode cl_WrongMode ccl_WrongMode : Value} {vs_WrongMode : Array Value} {file_WrongMode : Str} {tf_WrongMode : Tok}
    {nm_NotHeld q_NotHeld : Str} {N_NotHeld : Addr} {bs_NotHeld : List Value} {sn_NotHeld : List Str} {sub_NotHeld : List Value} {ab_NotHeld : Bool} {col_NotHeld : Option Bool} {dd_NotHeld : Option Addr} {m0_NotHeld m1_NotHeld m2_NotHeld m3_NotHeld m5_NotHeld : Option Value}
    {f_NotHeld cda_NotHeld cc_NotHeld : Addr} {od_NotHeld an_NotHeld cld_NotHeld cdd_NotHeld : Option Addr} {osl_NotHeld csl_NotHeld ccs_NotHeld : Array (Option Value)} {oc_NotHeld kV_NotHeld dc_NotHeld pm_NotHeld ct_NotHeld cl_NotHeld ccl_NotHeld : Value} {vs_NotHeld : Array Value} {file_NotHeld : Str} {tf_NotHeld : Tok}
    (gc_Program : PySem.W.nsIn K mainGlobals "Program" = some (some (.ref c_Program)))
    (gc_Standing : PySem.W.nsIn K mainGlobals "Standing" = some (some (.ref c_Standing)))
    (gc_Shape : PySem.W.nsIn K mainGlobals "Shape" = some (some (.ref c_Shape)))
    (gc_Web : PySem.W.nsIn K mainGlobals "Web" = some (some (.ref c_Web)))
    (a_sound_step : PySem.W.nsIn K mainGlobals "sound_step" = some (some (.ref f_sound_step)))
    (l_sound_step : K.lookup f_sound_step = some ⟨oc_sound_step, od_sound_step, .func (PySem.W.fnOf "sound_step" "sound_step" (defArgs S_sound_step) (defBody S_sound_step) (defScope S_sound_step) .none kV_sound_step dc_sound_step pm_sound_step an_sound_step cd_sound_step ct_sound_step), sl_sound_step⟩)
    (c_sound_step : PySem.W.codeIn K cd_sound_step "sound_step" = true)
    (k_sound_step : PySem.W.keepIn K (.ref f_sound_step) = true)
    (a_Program_init : PySem.W.findIn K (.ref c_Program) "__init__" = some (some (.ref f_Program_init)))
    (l_Program_init : K.lookup f_Program_init = some ⟨oc_Program_init, od_Program_init, .func (PySem.W.fnOf "__init__" "Program.__init__" (defArgs S_Program_init) (defBody S_Program_init) (defScope S_Program_init) .none kV_Program_init dc_Program_init pm_Program_init an_Program_init cd_Program_init ct_Program_init), sl_Program_init⟩)
    (c_Program_init : PySem.W.codeIn K cd_Program_init "Program.__init__" = true)
    (k_Program_init : PySem.W.keepIn K (.ref f_Program_init) = true)
    (a_Program_iter : PySem.W.findIn K (.ref c_Program) "__iter__" = some (some (.ref f_Program_iter)))
    (l_Program_iter : K.lookup f_Program_iter = some ⟨oc_Program_iter, od_Program_iter, .func (PySem.W.fnOf "__iter__" "Program.__iter__" (defArgs S_Program_iter) (defBody S_Program_iter) (defScope S_Program_iter) .none kV_Program_iter dc_Program_iter pm_Program_iter an_Program_iter cd_Program_iter ct_Program_iter), sl_Program_iter⟩)
    (c_Program_iter : PySem.W.codeIn K cd_Program_iter "Program.__iter__" = true)
    (k_Program_iter : PySem.W.keepIn K (.ref f_Program_iter) = true)
    (a_Program_add : PySem.W.findIn K (.ref c_Program) "__add__" = some (some (.ref f_Program_add)))
    (l_Program_add : K.lookup f_Program_add = some ⟨oc_Program_add, od_Program_add, .func (PySem.W.fnOf "__add__" "Program.__add__" (defArgs S_Program_add) (defBody S_Program_add) (defScope S_Program_add) .none kV_Program_add dc_Program_add pm_Program_add an_Program_add cd_Program_add ct_Program_add), sl_Program_add⟩)
    (c_Program_add : PySem.W.codeIn K cd_Program_add "Program.__add__" = true)
    (k_Program_add : PySem.W.keepIn K (.ref f_Program_add) = true)
    (a_Standing_init : PySem.W.findIn K (.ref c_Standing) "__init__" = some (some (.ref f_Standing_init)))
    (l_Standing_init : K.lookup f_Standing_init = some ⟨oc_Standing_init, od_Standing_init, .func (PySem.W.fnOf "__init__" "Standing.__init__" (defArgs S_Standing_init) (defBody S_Standing_init) (defScope S_Standing_init) .none kV_Standing_init dc_Standing_init pm_Standing_init an_Standing_init cd_Standing_init ct_Standing_init), sl_Standing_init⟩)
    (c_Standing_init : PySem.W.codeIn K cd_Standing_init "Standing.__init__" = true)
    (k_Standing_init : PySem.W.keepIn K (.ref f_Standing_init) = true)
    (a_Standing_check : PySem.W.findIn K (.ref c_Standing) "check" = some (some (.ref f_Standing_check)))
    (l_Standing_check : K.lookup f_Standing_check = some ⟨oc_Standing_check, od_Standing_check, .func (PySem.W.fnOf "check" "Standing.check" (defArgs S_Standing_check) (defBody S_Standing_check) (defScope S_Standing_check) .none kV_Standing_check dc_Standing_check pm_Standing_check an_Standing_check cd_Standing_check ct_Standing_check), sl_Standing_check⟩)
    (c_Standing_check : PySem.W.codeIn K cd_Standing_check "Standing.check" = true)
    (k_Standing_check : PySem.W.keepIn K (.ref f_Standing_check) = true)
    (a_Standing_take : PySem.W.findIn K (.ref c_Standing) "take" = some (some (.ref f_Standing_take)))
    (l_Standing_take : K.lookup f_Standing_take = some ⟨oc_Standing_take, od_Standing_take, .func (PySem.W.fnOf "take" "Standing.take" (defArgs S_Standing_take) (defBody S_Standing_take) (defScope S_Standing_take) .none kV_Standing_take dc_Standing_take pm_Standing_take an_Standing_take cd_Standing_take ct_Standing_take), sl_Standing_take⟩)
    (c_Standing_take : PySem.W.codeIn K cd_Standing_take "Standing.take" = true)
    (k_Standing_take : PySem.W.keepIn K (.ref f_Standing_take) = true)
    (a_Standing_run : PySem.W.findIn K (.ref c_Standing) "run" = some (some (.ref f_Standing_run)))
    (l_Standing_run : K.lookup f_Standing_run = some ⟨oc_Standing_run, od_Standing_run, .func (PySem.W.fnOf "run" "Standing.run" (defArgs S_Standing_run) (defBody S_Standing_run) (defScope S_Standing_run) .none kV_Standing_run dc_Standing_run pm_Standing_run an_Standing_run cd_Standing_run ct_Standing_run), sl_Standing_run⟩)
    (c_Standing_run : PySem.W.codeIn K cd_Standing_run "Standing.run" = true)
    (k_Standing_run : PySem.W.keepIn K (.ref f_Standing_run) = true)
    (pa_Standing_begun : PySem.W.findIn K (.ref c_Standing) "begun" = some (some (.ref p_Standing_begun)))
    (pr_Standing_begun : PySem.W.recIn K p_Standing_begun "property" = some (.ref f_Standing_begun :: rs_Standing_begun))
    (pg_Standing_begun : PySem.W.specialIn K (.ref p_Standing_begun) "__get__" = some (some (.builtin "property.__get__")))
    (pt_Standing_begun : PySem.W.takesIn K (.ref p_Standing_begun) = some true)
    (l_Standing_begun : K.lookup f_Standing_begun = some ⟨oc_Standing_begun, od_Standing_begun, .func (PySem.W.fnOf "begun" "Standing.begun" (defArgs S_Standing_begun) (defBody S_Standing_begun) (defScope S_Standing_begun) .none kV_Standing_begun dc_Standing_begun pm_Standing_begun an_Standing_begun cd_Standing_begun ct_Standing_begun), sl_Standing_begun⟩)
    (c_Standing_begun : PySem.W.codeIn K cd_Standing_begun "Standing.begun" = true)
    (k_Standing_begun : PySem.W.keepIn K (.ref f_Standing_begun) = true)
    (pa_Standing_loose : PySem.W.findIn K (.ref c_Standing) "loose" = some (some (.ref p_Standing_loose)))
    (pr_Standing_loose : PySem.W.recIn K p_Standing_loose "property" = some (.ref f_Standing_loose :: rs_Standing_loose))
    (pg_Standing_loose : PySem.W.specialIn K (.ref p_Standing_loose) "__get__" = some (some (.builtin "property.__get__")))
    (pt_Standing_loose : PySem.W.takesIn K (.ref p_Standing_loose) = some true)
    (l_Standing_loose : K.lookup f_Standing_loose = some ⟨oc_Standing_loose, od_Standing_loose, .func (PySem.W.fnOf "loose" "Standing.loose" (defArgs S_Standing_loose) (defBody S_Standing_loose) (defScope S_Standing_loose) .none kV_Standing_loose dc_Standing_loose pm_Standing_loose an_Standing_loose cd_Standing_loose ct_Standing_loose), sl_Standing_loose⟩)
    (c_Standing_loose : PySem.W.codeIn K cd_Standing_loose "Standing.loose" = true)
    (k_Standing_loose : PySem.W.keepIn K (.ref f_Standing_loose) = true)
    (pa_Standing_holding : PySem.W.findIn K (.ref c_Standing) "holding" = some (some (.ref p_Standing_holding)))
    (pr_Standing_holding : PySem.W.recIn K p_Standing_holding "property" = some (.ref f_Standing_holding :: rs_Standing_holding))
    (pg_Standing_holding : PySem.W.specialIn K (.ref p_Standing_holding) "__get__" = some (some (.builtin "property.__get__")))
    (pt_Standing_holding : PySem.W.takesIn K (.ref p_Standing_holding) = some true)
    (l_Standing_holding : K.lookup f_Standing_holding = some ⟨oc_Standing_holding, od_Standing_holding, .func (PySem.W.fnOf "holding" "Standing.holding" (defArgs S_Standing_holding) (defBody S_Standing_holding) (defScope S_Standing_holding) .none kV_Standing_holding dc_Standing_holding pm_Standing_holding an_Standing_holding cd_Standing_holding ct_Standing_holding), sl_Standing_holding⟩)
    (c_Standing_holding : PySem.W.codeIn K cd_Standing_holding "Standing.holding" = true)
    (k_Standing_holding : PySem.W.keepIn K (.ref f_Standing_holding) = true)
    (a_Standing_held_mode : PySem.W.findIn K (.ref c_Standing) "held_mode" = some (some (.ref f_Standing_held_mode)))
    (l_Standing_held_mode : K.lookup f_Standing_held_mode = some ⟨oc_Standing_held_mode, od_Standing_held_mode, .func (PySem.W.fnOf "held_mode" "Standing.held_mode" (defArgs S_Standing_held_mode) (defBody S_Standing_held_mode) (defScope S_Standing_held_mode) .none kV_Standing_held_mode dc_Standing_held_mode pm_Standing_held_mode an_Standing_held_mode cd_Standing_held_mode ct_Standing_held_mode), sl_Standing_held_mode⟩)
    (c_Standing_held_mode : PySem.W.codeIn K cd_Standing_held_mode "Standing.held_mode" = true)
    (k_Standing_held_mode : PySem.W.keepIn K (.ref f_Standing_held_mode) = true)
    (a_Standing_locked_mode : PySem.W.findIn K (.ref c_Standing) "locked_mode" = some (some (.ref f_Standing_locked_mode)))
    (l_Standing_locked_mode : K.lookup f_Standing_locked_mode = some ⟨oc_Standing_locked_mode, od_Standing_locked_mode, .func (PySem.W.fnOf "locked_mode" "Standing.locked_mode" (defArgs S_Standing_locked_mode) (defBody S_Standing_locked_mode) (defScope S_Standing_locked_mode) .none kV_Standing_locked_mode dc_Standing_locked_mode pm_Standing_locked_mode an_Standing_locked_mode cd_Standing_locked_mode ct_Standing_locked_mode), sl_Standing_locked_mode⟩)
    (c_Standing_locked_mode : PySem.W.codeIn K cd_Standing_locked_mode "Standing.locked_mode" = true)
    (k_Standing_locked_mode : PySem.W.keepIn K (.ref f_Standing_locked_mode) = true)
    (a_Standing_counts : PySem.W.findIn K (.ref c_Standing) "counts" = some (some (.ref f_Standing_counts)))
    (l_Standing_counts : K.lookup f_Standing_counts = some ⟨oc_Standing_counts, od_Standing_counts, .func (PySem.W.fnOf "counts" "Standing.counts" (defArgs S_Standing_counts) (defBody S_Standing_counts) (defScope S_Standing_counts) .none kV_Standing_counts dc_Standing_counts pm_Standing_counts an_Standing_counts cd_Standing_counts ct_Standing_counts), sl_Standing_counts⟩)
    (c_Standing_counts : PySem.W.codeIn K cd_Standing_counts "Standing.counts" = true)
    (k_Standing_counts : PySem.W.keepIn K (.ref f_Standing_counts) = true)
    (a_Standing_copy : PySem.W.findIn K (.ref c_Standing) "copy" = some (some (.ref f_Standing_copy)))
    (l_Standing_copy : K.lookup f_Standing_copy = some ⟨oc_Standing_copy, od_Standing_copy, .func (PySem.W.fnOf "copy" "Standing.copy" (defArgs S_Standing_copy) (defBody S_Standing_copy) (defScope S_Standing_copy) .none kV_Standing_copy dc_Standing_copy pm_Standing_copy an_Standing_copy cd_Standing_copy ct_Standing_copy), sl_Standing_copy⟩)
    (c_Standing_copy : PySem.W.codeIn K cd_Standing_copy "Standing.copy" = true)
    (k_Standing_copy : PySem.W.keepIn K (.ref f_Standing_copy) = true)
    (a_is_mark : PySem.W.nsIn K mainGlobals "is_mark" = some (some (.ref f_is_mark)))
    (l_is_mark : K.lookup f_is_mark = some ⟨oc_is_mark, od_is_mark, .func (PySem.W.fnOf "is_mark" "is_mark" (defArgs S_is_mark) (defBody S_is_mark) (defScope S_is_mark) .none kV_is_mark dc_is_mark pm_is_mark an_is_mark cd_is_mark ct_is_mark), sl_is_mark⟩)
    (c_is_mark : PySem.W.codeIn K cd_is_mark "is_mark" = true)
    (k_is_mark : PySem.W.keepIn K (.ref f_is_mark) = true)
    (a_sound_row : PySem.W.nsIn K mainGlobals "sound_row" = some (some (.ref f_sound_row)))
    (l_sound_row : K.lookup f_sound_row = some ⟨oc_sound_row, od_sound_row, .func (PySem.W.fnOf "sound_row" "sound_row" (defArgs S_sound_row) (defBody S_sound_row) (defScope S_sound_row) .none kV_sound_row dc_sound_row pm_sound_row an_sound_row cd_sound_row ct_sound_row), sl_sound_row⟩)
    (c_sound_row : PySem.W.codeIn K cd_sound_row "sound_row" = true)
    (k_sound_row : PySem.W.keepIn K (.ref f_sound_row) = true)
    (a_barren : PySem.W.nsIn K mainGlobals "barren" = some (some (.ref f_barren)))
    (l_barren : K.lookup f_barren = some ⟨oc_barren, od_barren, .func (PySem.W.fnOf "barren" "barren" (defArgs S_barren) (defBody S_barren) (defScope S_barren) .none kV_barren dc_barren pm_barren an_barren cd_barren ct_barren), sl_barren⟩)
    (c_barren : PySem.W.codeIn K cd_barren "barren" = true)
    (k_barren : PySem.W.keepIn K (.ref f_barren) = true)
    (a_Shape_init : PySem.W.findIn K (.ref c_Shape) "__init__" = some (some (.ref f_Shape_init)))
    (l_Shape_init : K.lookup f_Shape_init = some ⟨oc_Shape_init, od_Shape_init, .func (PySem.W.fnOf "__init__" "Shape.__init__" (defArgs S_Shape_init) (defBody S_Shape_init) (defScope S_Shape_init) .none kV_Shape_init dc_Shape_init pm_Shape_init an_Shape_init cd_Shape_init ct_Shape_init), sl_Shape_init⟩)
    (c_Shape_init : PySem.W.codeIn K cd_Shape_init "Shape.__init__" = true)
    (k_Shape_init : PySem.W.keepIn K (.ref f_Shape_init) = true)
    (a_Shape_getitem : PySem.W.findIn K (.ref c_Shape) "__getitem__" = some (some (.ref f_Shape_getitem)))
    (l_Shape_getitem : K.lookup f_Shape_getitem = some ⟨oc_Shape_getitem, od_Shape_getitem, .func (PySem.W.fnOf "__getitem__" "Shape.__getitem__" (defArgs S_Shape_getitem) (defBody S_Shape_getitem) (defScope S_Shape_getitem) .none kV_Shape_getitem dc_Shape_getitem pm_Shape_getitem an_Shape_getitem cd_Shape_getitem ct_Shape_getitem), sl_Shape_getitem⟩)
    (c_Shape_getitem : PySem.W.codeIn K cd_Shape_getitem "Shape.__getitem__" = true)
    (k_Shape_getitem : PySem.W.keepIn K (.ref f_Shape_getitem) = true)
    (a_Shape_modes_of : PySem.W.findIn K (.ref c_Shape) "modes_of" = some (some (.ref f_Shape_modes_of)))
    (l_Shape_modes_of : K.lookup f_Shape_modes_of = some ⟨oc_Shape_modes_of, od_Shape_modes_of, .func (PySem.W.fnOf "modes_of" "Shape.modes_of" (defArgs S_Shape_modes_of) (defBody S_Shape_modes_of) (defScope S_Shape_modes_of) .none kV_Shape_modes_of dc_Shape_modes_of pm_Shape_modes_of an_Shape_modes_of cd_Shape_modes_of ct_Shape_modes_of), sl_Shape_modes_of⟩)
    (c_Shape_modes_of : PySem.W.codeIn K cd_Shape_modes_of "Shape.modes_of" = true)
    (k_Shape_modes_of : PySem.W.keepIn K (.ref f_Shape_modes_of) = true)
    (a_suitable : PySem.W.nsIn K mainGlobals "suitable" = some (some (.ref f_suitable)))
    (l_suitable : K.lookup f_suitable = some ⟨oc_suitable, od_suitable, .func (PySem.W.fnOf "suitable" "suitable" (defArgs S_suitable) (defBody S_suitable) (defScope S_suitable) .none kV_suitable dc_suitable pm_suitable an_suitable cd_suitable ct_suitable), sl_suitable⟩)
    (c_suitable : PySem.W.codeIn K cd_suitable "suitable" = true)
    (k_suitable : PySem.W.keepIn K (.ref f_suitable) = true)
    (a_Web_init : PySem.W.findIn K (.ref c_Web) "__init__" = some (some (.ref f_Web_init)))
    (l_Web_init : K.lookup f_Web_init = some ⟨oc_Web_init, od_Web_init, .func (PySem.W.fnOf "__init__" "Web.__init__" (defArgs S_Web_init) (defBody S_Web_init) (defScope S_Web_init) .none kV_Web_init dc_Web_init pm_Web_init an_Web_init cd_Web_init ct_Web_init), sl_Web_init⟩)
    (c_Web_init : PySem.W.codeIn K cd_Web_init "Web.__init__" = true)
    (k_Web_init : PySem.W.keepIn K (.ref f_Web_init) = true)
    (a_Web_put : PySem.W.findIn K (.ref c_Web) "put" = some (some (.ref f_Web_put)))
    (l_Web_put : K.lookup f_Web_put = some ⟨oc_Web_put, od_Web_put, .func (PySem.W.fnOf "put" "Web.put" (defArgs S_Web_put) (defBody S_Web_put) (defScope S_Web_put) .none kV_Web_put dc_Web_put pm_Web_put an_Web_put cd_Web_put ct_Web_put), sl_Web_put⟩)
    (c_Web_put : PySem.W.codeIn K cd_Web_put "Web.put" = true)
    (k_Web_put : PySem.W.keepIn K (.ref f_Web_put) = true)
    (a_Web_getitem : PySem.W.findIn K (.ref c_Web) "__getitem__" = some (some (.ref f_Web_getitem)))
    (l_Web_getitem : K.lookup f_Web_getitem = some ⟨oc_Web_getitem, od_Web_getitem, .func (PySem.W.fnOf "__getitem__" "Web.__getitem__" (defArgs S_Web_getitem) (defBody S_Web_getitem) (defScope S_Web_getitem) .none kV_Web_getitem dc_Web_getitem pm_Web_getitem an_Web_getitem cd_Web_getitem ct_Web_getitem), sl_Web_getitem⟩)
    (c_Web_getitem : PySem.W.codeIn K cd_Web_getitem "Web.__getitem__" = true)
    (k_Web_getitem : PySem.W.keepIn K (.ref f_Web_getitem) = true)
    (a_Web_contains : PySem.W.findIn K (.ref c_Web) "__contains__" = some (some (.ref f_Web_contains)))
    (l_Web_contains : K.lookup f_Web_contains = some ⟨oc_Web_contains, od_Web_contains, .func (PySem.W.fnOf "__contains__" "Web.__contains__" (defArgs S_Web_contains) (defBody S_Web_contains) (defScope S_Web_contains) .none kV_Web_contains dc_Web_contains pm_Web_contains an_Web_contains cd_Web_contains ct_Web_contains), sl_Web_contains⟩)
    (c_Web_contains : PySem.W.codeIn K cd_Web_contains "Web.__contains__" = true)
    (k_Web_contains : PySem.W.keepIn K (.ref f_Web_contains) = true)
    (a_Web_mark_of : PySem.W.findIn K (.ref c_Web) "mark_of" = some (some (.ref f_Web_mark_of)))
    (l_Web_mark_of : K.lookup f_Web_mark_of = some ⟨oc_Web_mark_of, od_Web_mark_of, .func (PySem.W.fnOf "mark_of" "Web.mark_of" (defArgs S_Web_mark_of) (defBody S_Web_mark_of) (defScope S_Web_mark_of) .none kV_Web_mark_of dc_Web_mark_of pm_Web_mark_of an_Web_mark_of cd_Web_mark_of ct_Web_mark_of), sl_Web_mark_of⟩)
    (c_Web_mark_of : PySem.W.codeIn K cd_Web_mark_of "Web.mark_of" = true)
    (k_Web_mark_of : PySem.W.keepIn K (.ref f_Web_mark_of) = true)
    (a__law_draws : PySem.W.nsIn K mainGlobals "_law_draws" = some (some (.ref f__law_draws)))
    (l__law_draws : K.lookup f__law_draws = some ⟨oc__law_draws, od__law_draws, .func (PySem.W.fnOf "_law_draws" "_law_draws" (defArgs S__law_draws) (defBody S__law_draws) (defScope S__law_draws) .none kV__law_draws dc__law_draws pm__law_draws an__law_draws cd__law_draws ct__law_draws), sl__law_draws⟩)
    (c__law_draws : PySem.W.codeIn K cd__law_draws "_law_draws" = true)
    (k__law_draws : PySem.W.keepIn K (.ref f__law_draws) = true)
    (a__law_take : PySem.W.nsIn K mainGlobals "_law_take" = some (some (.ref f__law_take)))
    (l__law_take : K.lookup f__law_take = some ⟨oc__law_take, od__law_take, .func (PySem.W.fnOf "_law_take" "_law_take" (defArgs S__law_take) (defBody S__law_take) (defScope S__law_take) .none kV__law_take dc__law_take pm__law_take an__law_take cd__law_take ct__law_take), sl__law_take⟩)
    (c__law_take : PySem.W.codeIn K cd__law_take "_law_take" = true)
    (k__law_take : PySem.W.keepIn K (.ref f__law_take) = true)
    (a__law_same : PySem.W.nsIn K mainGlobals "_law_same" = some (some (.ref f__law_same)))
    (l__law_same : K.lookup f__law_same = some ⟨oc__law_same, od__law_same, .func (PySem.W.fnOf "_law_same" "_law_same" (defArgs S__law_same) (defBody S__law_same) (defScope S__law_same) .none kV__law_same dc__law_same pm__law_same an__law_same cd__law_same ct__law_same), sl__law_same⟩)
    (c__law_same : PySem.W.codeIn K cd__law_same "_law_same" = true)
    (k__law_same : PySem.W.keepIn K (.ref f__law_same) = true)
    (a__law_marks : PySem.W.nsIn K mainGlobals "_law_marks" = some (some (.ref f__law_marks)))
    (l__law_marks : K.lookup f__law_marks = some ⟨oc__law_marks, od__law_marks, .func (PySem.W.fnOf "_law_marks" "_law_marks" (defArgs S__law_marks) (defBody S__law_marks) (defScope S__law_marks) .none kV__law_marks dc__law_marks pm__law_marks an__law_marks cd__law_marks ct__law_marks), sl__law_marks⟩)
    (c__law_marks : PySem.W.codeIn K cd__law_marks "_law_marks" = true)
    (k__law_marks : PySem.W.keepIn K (.ref f__law_marks) = true)
    (a__law_rows : PySem.W.nsIn K mainGlobals "_law_rows" = some (some (.ref f__law_rows)))
    (l__law_rows : K.lookup f__law_rows = some ⟨oc__law_rows, od__law_rows, .func (PySem.W.fnOf "_law_rows" "_law_rows" (defArgs S__law_rows) (defBody S__law_rows) (defScope S__law_rows) .none kV__law_rows dc__law_rows pm__law_rows an__law_rows cd__law_rows ct__law_rows), sl__law_rows⟩)
    (c__law_rows : PySem.W.codeIn K cd__law_rows "_law_rows" = true)
    (k__law_rows : PySem.W.keepIn K (.ref f__law_rows) = true)
    (a__law_things : PySem.W.nsIn K mainGlobals "_law_things" = some (some (.ref f__law_things)))
    (l__law_things : K.lookup f__law_things = some ⟨oc__law_things, od__law_things, .func (PySem.W.fnOf "_law_things" "_law_things" (defArgs S__law_things) (defBody S__law_things) (defScope S__law_things) .none kV__law_things dc__law_things pm__law_things an__law_things cd__law_things ct__law_things), sl__law_things⟩)
    (c__law_things : PySem.W.codeIn K cd__law_things "_law_things" = true)
    (k__law_things : PySem.W.keepIn K (.ref f__law_things) = true)
    (a__law_counts : PySem.W.nsIn K mainGlobals "_law_counts" = some (some (.ref f__law_counts)))
    (l__law_counts : K.lookup f__law_counts = some ⟨oc__law_counts, od__law_counts, .func (PySem.W.fnOf "_law_counts" "_law_counts" (defArgs S__law_counts) (defBody S__law_counts) (defScope S__law_counts) .none kV__law_counts dc__law_counts pm__law_counts an__law_counts cd__law_counts ct__law_counts), sl__law_counts⟩)
    (c__law_counts : PySem.W.codeIn K cd__law_counts "_law_counts" = true)
    (k__law_counts : PySem.W.keepIn K (.ref f__law_counts) = true)
    (a__law_do : PySem.W.nsIn K mainGlobals "_law_do" = some (some (.ref f__law_do)))
    (l__law_do : K.lookup f__law_do = some ⟨oc__law_do, od__law_do, .func (PySem.W.fnOf "_law_do" "_law_do" (defArgs S__law_do) (defBody S__law_do) (defScope S__law_do) .none kV__law_do dc__law_do pm__law_do an__law_do cd__law_do ct__law_do), sl__law_do⟩)
    (c__law_do : PySem.W.codeIn K cd__law_do "_law_do" = true)
    (k__law_do : PySem.W.keepIn K (.ref f__law_do) = true)
    (a__law_shared : PySem.W.nsIn K mainGlobals "_law_shared" = some (some (.ref f__law_shared)))
    (l__law_shared : K.lookup f__law_shared = some ⟨oc__law_shared, od__law_shared, .func (PySem.W.fnOf "_law_shared" "_law_shared" (defArgs S__law_shared) (defBody S__law_shared) (defScope S__law_shared) .none kV__law_shared dc__law_shared pm__law_shared an__law_shared cd__law_shared ct__law_shared), sl__law_shared⟩)
    (c__law_shared : PySem.W.codeIn K cd__law_shared "_law_shared" = true)
    (k__law_shared : PySem.W.keepIn K (.ref f__law_shared) = true)
    (a__law_shape : PySem.W.nsIn K mainGlobals "_law_shape" = some (some (.ref f__law_shape)))
    (l__law_shape : K.lookup f__law_shape = some ⟨oc__law_shape, od__law_shape, .func (PySem.W.fnOf "_law_shape" "_law_shape" (defArgs S__law_shape) (defBody S__law_shape) (defScope S__law_shape) .none kV__law_shape dc__law_shape pm__law_shape an__law_shape cd__law_shape ct__law_shape), sl__law_shape⟩)
    (c__law_shape : PySem.W.codeIn K cd__law_shape "_law_shape" = true)
    (k__law_shape : PySem.W.keepIn K (.ref f__law_shape) = true)
    (a__law_put : PySem.W.nsIn K mainGlobals "_law_put" = some (some (.ref f__law_put)))
    (l__law_put : K.lookup f__law_put = some ⟨oc__law_put, od__law_put, .func (PySem.W.fnOf "_law_put" "_law_put" (defArgs S__law_put) (defBody S__law_put) (defScope S__law_put) .none kV__law_put dc__law_put pm__law_put an__law_put cd__law_put ct__law_put), sl__law_put⟩)
    (c__law_put : PySem.W.codeIn K cd__law_put "_law_put" = true)
    (k__law_put : PySem.W.keepIn K (.ref f__law_put) = true)
    (a__law_web : PySem.W.nsIn K mainGlobals "_law_web" = some (some (.ref f__law_web)))
    (l__law_web : K.lookup f__law_web = some ⟨oc__law_web, od__law_web, .func (PySem.W.fnOf "_law_web" "_law_web" (defArgs S__law_web) (defBody S__law_web) (defScope S__law_web) .none kV__law_web dc__law_web pm__law_web an__law_web cd__law_web ct__law_web), sl__law_web⟩)
    (c__law_web : PySem.W.codeIn K cd__law_web "_law_web" = true)
    (k__law_web : PySem.W.keepIn K (.ref f__law_web) = true)
    (a__law_refusal : PySem.W.nsIn K mainGlobals "_law_refusal" = some (some (.ref f__law_refusal)))
    (l__law_refusal : K.lookup f__law_refusal = some ⟨oc__law_refusal, od__law_refusal, .func (PySem.W.fnOf "_law_refusal" "_law_refusal" (defArgs S__law_refusal) (defBody S__law_refusal) (defScope S__law_refusal) .none kV__law_refusal dc__law_refusal pm__law_refusal an__law_refusal cd__law_refusal ct__law_refusal), sl__law_refusal⟩)
    (c__law_refusal : PySem.W.codeIn K cd__law_refusal "_law_refusal" = true)
    (k__law_refusal : PySem.W.keepIn K (.ref f__law_refusal) = true)
    (a__law_due : PySem.W.nsIn K mainGlobals "_law_due" = some (some (.ref f__law_due)))
    (l__law_due : K.lookup f__law_due = some ⟨oc__law_due, od__law_due, .func (PySem.W.fnOf "_law_due" "_law_due" (defArgs S__law_due) (defBody S__law_due) (defScope S__law_due) .none kV__law_due dc__law_due pm__law_due an__law_due cd__law_due ct__law_due), sl__law_due⟩)
    (c__law_due : PySem.W.codeIn K cd__law_due "_law_due" = true)
    (k__law_due : PySem.W.keepIn K (.ref f__law_due) = true)
    (a__law_reads : PySem.W.nsIn K mainGlobals "_law_reads" = some (some (.ref f__law_reads)))
    (l__law_reads : K.lookup f__law_reads = some ⟨oc__law_reads, od__law_reads, .func (PySem.W.fnOf "_law_reads" "_law_reads" (defArgs S__law_reads) (defBody S__law_reads) (defScope S__law_reads) .none kV__law_reads dc__law_reads pm__law_reads an__law_reads cd__law_reads ct__law_reads), sl__law_reads⟩)
    (c__law_reads : PySem.W.codeIn K cd__law_reads "_law_reads" = true)
    (k__law_reads : PySem.W.keepIn K (.ref f__law_reads) = true)
    (a__law_choices : PySem.W.nsIn K mainGlobals "_law_choices" = some (some (.ref f__law_choices)))
    (l__law_choices : K.lookup f__law_choices = some ⟨oc__law_choices, od__law_choices, .func (PySem.W.fnOf "_law_choices" "_law_choices" (defArgs S__law_choices) (defBody S__law_choices) (defScope S__law_choices) .none kV__law_choices dc__law_choices pm__law_choices an__law_choices cd__law_choices ct__law_choices), sl__law_choices⟩)
    (c__law_choices : PySem.W.codeIn K cd__law_choices "_law_choices" = true)
    (k__law_choices : PySem.W.keepIn K (.ref f__law_choices) = true)
    (a__law_row : PySem.W.nsIn K mainGlobals "_law_row" = some (some (.ref f__law_row)))
    (l__law_row : K.lookup f__law_row = some ⟨oc__law_row, od__law_row, .func (PySem.W.fnOf "_law_row" "_law_row" (defArgs S__law_row) (defBody S__law_row) (defScope S__law_row) .none kV__law_row dc__law_row pm__law_row an__law_row cd__law_row ct__law_row), sl__law_row⟩)
    (c__law_row : PySem.W.codeIn K cd__law_row "_law_row" = true)
    (k__law_row : PySem.W.keepIn K (.ref f__law_row) = true)
    (a__law_walk : PySem.W.nsIn K mainGlobals "_law_walk" = some (some (.ref f__law_walk)))
    (l__law_walk : K.lookup f__law_walk = some ⟨oc__law_walk, od__law_walk, .func (PySem.W.fnOf "_law_walk" "_law_walk" (defArgs S__law_walk) (defBody S__law_walk) (defScope S__law_walk) .none kV__law_walk dc__law_walk pm__law_walk an__law_walk cd__law_walk ct__law_walk), sl__law_walk⟩)
    (c__law_walk : PySem.W.codeIn K cd__law_walk "_law_walk" = true)
    (k__law_walk : PySem.W.keepIn K (.ref f__law_walk) = true)
    (a__law_run : PySem.W.nsIn K mainGlobals "_law_run" = some (some (.ref f__law_run)))
    (l__law_run : K.lookup f__law_run = some ⟨oc__law_run, od__law_run, .func (PySem.W.fnOf "_law_run" "_law_run" (defArgs S__law_run) (defBody S__law_run) (defScope S__law_run) .none kV__law_run dc__law_run pm__law_run an__law_run cd__law_run ct__law_run), sl__law_run⟩)
    (c__law_run : PySem.W.codeIn K cd__law_run "_law_run" = true)
    (k__law_run : PySem.W.keepIn K (.ref f__law_run) = true)
    (a__law_counted : PySem.W.nsIn K mainGlobals "_law_counted" = some (some (.ref f__law_counted)))
    (l__law_counted : K.lookup f__law_counted = some ⟨oc__law_counted, od__law_counted, .func (PySem.W.fnOf "_law_counted" "_law_counted" (defArgs S__law_counted) (defBody S__law_counted) (defScope S__law_counted) .none kV__law_counted dc__law_counted pm__law_counted an__law_counted cd__law_counted ct__law_counted), sl__law_counted⟩)
    (c__law_counted : PySem.W.codeIn K cd__law_counted "_law_counted" = true)
    (k__law_counted : PySem.W.keepIn K (.ref f__law_counted) = true)
    (a_law : PySem.W.nsIn K mainGlobals "law" = some (some (.ref f_law)))
    (l_law : K.lookup f_law = some ⟨oc_law, od_law, .func (PySem.W.fnOf "law" "law" (defArgs S_law) (defBody S_law) (defScope S_law) .none kV_law dc_law pm_law an_law cd_law ct_law), sl_law⟩)
    (c_law : PySem.W.codeIn K cd_law "law" = true)
    (k_law : PySem.W.keepIn K (.ref f_law) = true)
    (z_ValueError : PySem.W.nsIn K mainGlobals "ValueError" = some none)
    (z_any : PySem.W.nsIn K mainGlobals "any" = some none)
    (z_bool : PySem.W.nsIn K mainGlobals "bool" = some none)
    (z_enumerate : PySem.W.nsIn K mainGlobals "enumerate" = some none)
    (z_int : PySem.W.nsIn K mainGlobals "int" = some none)
    (z_isinstance : PySem.W.nsIn K mainGlobals "isinstance" = some none)
    (z_iter : PySem.W.nsIn K mainGlobals "iter" = some none)
    (z_len : PySem.W.nsIn K mainGlobals "len" = some none)
    (z_list : PySem.W.nsIn K mainGlobals "list" = some none)
    (z_property : PySem.W.nsIn K mainGlobals "property" = some none)
    (z_range : PySem.W.nsIn K mainGlobals "range" = some none)
    (z_str : PySem.W.nsIn K mainGlobals "str" = some none)
    (z_tuple : PySem.W.nsIn K mainGlobals "tuple" = some none)
    (aq_DEEDS : PySem.W.nsIn K mainGlobals "DEEDS" = some (some (.ref q_DEEDS)))
    (lq_DEEDS : K.lookup q_DEEDS = some ⟨.type "tuple", oq_DEEDS, .seq #[.str "own" t_DEEDS_0, .str "share" t_DEEDS_1, .str "drop" t_DEEDS_2] nq_DEEDS, slq_DEEDS⟩)
    (aq_LETTERS : PySem.W.nsIn K mainGlobals "LETTERS" = some (some (.str "abcdefghijklmnopqrstuvwxyz" tq_LETTERS)))
    (aq_MODES : PySem.W.nsIn K mainGlobals "MODES" = some (some (.ref q_MODES)))
    (lq_MODES : K.lookup q_MODES = some ⟨.type "tuple", oq_MODES, .seq #[.str "own" t_MODES_0, .str "share" t_MODES_1] nq_MODES, slq_MODES⟩)
    (xla : PySem.W.findIn K (.type "list") "__add__" = some (some (.builtin "list.__add__")))
    (xlr : PySem.W.findIn K (.type "list") "__radd__" = some none)
    (xta : PySem.W.findIn K (.type "tuple") "__add__" = some (some (.builtin "tuple.__add__")))
    (xtr : PySem.W.findIn K (.type "tuple") "__radd__" = some none)
    (pg_Program : PySem.W.plainGet K c_Program Str.empty = true)
    (hd_Program : PySem.W.hasDictIn K c_Program = true)
    (po_Program : PySem.W.plainOver K c_Program = true)
    (sa_Program : PySem.W.findIn K (.ref c_Program) "__setattr__" = some (some (.builtin "object.__setattr__")))
    (kc_Program : PySem.W.keepIn K (.ref c_Program) = true)
    (i_Program_init : PySem.W.isFn K (.ref f_Program_init) = true)
    (mk_Program : PySem.W.makesIn K c_Program = true)
    (i_Program_iter : PySem.W.isFn K (.ref f_Program_iter) = true)
    (i_Program_add : PySem.W.isFn K (.ref f_Program_add) = true)
    (hca_Program : PySem.W.findIn K (.ref c_Program) "__class__" = some (some (.builtin "object.__class__")))
    (hcn_Program : PySem.W.specialIn K (.builtin "object.__class__") "__get__" = some (some (.builtin "getset_descriptor.__get__")))
    (hct_Program : PySem.W.takesIn K (.builtin "object.__class__") = some true)
    (hcm_Program : PySem.W.mroIn K c_Program (.type "object") = some true)
    (ko_Program_list : PySem.W.kitOne K (.ref c_Program) (.type "list") = some false)
    (ko_Program_tuple : PySem.W.kitOne K (.ref c_Program) (.type "tuple") = some false)
    (sf_Program : PySem.W.selfFirst K c_Program = true)
    (or_Program_add : PySem.W.findIn K (.ref c_Program) "__radd__" = some (some (.ref ra_Program_add)))
    (ola_Program_add : PySem.W.findIn K (.type "list") "__add__" = some fl_Program_add)
    (olr_Program_add : PySem.W.findIn K (.type "list") "__radd__" = some rl_Program_add)
    (ols_Program_add : PySem.W.subIn K (.type "list") (.ref c_Program) = some false)
    (ota_Program_add : PySem.W.findIn K (.type "tuple") "__add__" = some ft_Program_add)
    (otr_Program_add : PySem.W.findIn K (.type "tuple") "__radd__" = some rt_Program_add)
    (ots_Program_add : PySem.W.subIn K (.type "tuple") (.ref c_Program) = some false)
    (no_Program__steps : PySem.W.findIn K (.ref c_Program) "_steps" = some none)
    (pg_Standing : PySem.W.plainGet K c_Standing Str.empty = true)
    (hd_Standing : PySem.W.hasDictIn K c_Standing = true)
    (po_Standing : PySem.W.plainOver K c_Standing = true)
    (sa_Standing : PySem.W.findIn K (.ref c_Standing) "__setattr__" = some (some (.builtin "object.__setattr__")))
    (kc_Standing : PySem.W.keepIn K (.ref c_Standing) = true)
    (i_Standing_init : PySem.W.isFn K (.ref f_Standing_init) = true)
    (mk_Standing : PySem.W.makesIn K c_Standing = true)
    (i_Standing_check : PySem.W.isFn K (.ref f_Standing_check) = true)
    (i_Standing_take : PySem.W.isFn K (.ref f_Standing_take) = true)
    (i_Standing_run : PySem.W.isFn K (.ref f_Standing_run) = true)
    (i_Standing_held_mode : PySem.W.isFn K (.ref f_Standing_held_mode) = true)
    (i_Standing_locked_mode : PySem.W.isFn K (.ref f_Standing_locked_mode) = true)
    (i_Standing_counts : PySem.W.isFn K (.ref f_Standing_counts) = true)
    (i_Standing_copy : PySem.W.isFn K (.ref f_Standing_copy) = true)
    (hca_Standing : PySem.W.findIn K (.ref c_Standing) "__class__" = some (some (.builtin "object.__class__")))
    (hcn_Standing : PySem.W.specialIn K (.builtin "object.__class__") "__get__" = some (some (.builtin "getset_descriptor.__get__")))
    (hct_Standing : PySem.W.takesIn K (.builtin "object.__class__") = some true)
    (hcm_Standing : PySem.W.mroIn K c_Standing (.type "object") = some true)
    (no_Standing_web : PySem.W.findIn K (.ref c_Standing) "web" = some none)
    (no_Standing__modes : PySem.W.findIn K (.ref c_Standing) "_modes" = some none)
    (no_Standing__holds : PySem.W.findIn K (.ref c_Standing) "_holds" = some none)
    (no_Standing__loose : PySem.W.findIn K (.ref c_Standing) "_loose" = some none)
    (pg_Shape : PySem.W.plainGet K c_Shape Str.empty = true)
    (hd_Shape : PySem.W.hasDictIn K c_Shape = true)
    (po_Shape : PySem.W.plainOver K c_Shape = true)
    (sa_Shape : PySem.W.findIn K (.ref c_Shape) "__setattr__" = some (some (.builtin "object.__setattr__")))
    (kc_Shape : PySem.W.keepIn K (.ref c_Shape) = true)
    (i_Shape_init : PySem.W.isFn K (.ref f_Shape_init) = true)
    (mk_Shape : PySem.W.makesIn K c_Shape = true)
    (fi_Shape_getitem : PySem.W.fnIn K f_Shape_getitem = true)
    (i_Shape_getitem : PySem.W.isFn K (.ref f_Shape_getitem) = true)
    (i_Shape_modes_of : PySem.W.isFn K (.ref f_Shape_modes_of) = true)
    (hca_Shape : PySem.W.findIn K (.ref c_Shape) "__class__" = some (some (.builtin "object.__class__")))
    (hcn_Shape : PySem.W.specialIn K (.builtin "object.__class__") "__get__" = some (some (.builtin "getset_descriptor.__get__")))
    (hct_Shape : PySem.W.takesIn K (.builtin "object.__class__") = some true)
    (hcm_Shape : PySem.W.mroIn K c_Shape (.type "object") = some true)
    (rdc_Shape : PySem.W.readsIn K c_Shape (.type "type") = true)
    (gac_Shape : PySem.W.specialIn K (.ref c_Shape) "__getattribute__" = some (some (.builtin "type.__getattribute__")))
    (fcl_Shape_MARKS : PySem.W.findCls K (.ref c_Shape) (.type "type") "MARKS" = some (.val (.int 6 ti_Shape_MARKS)))
    (fcl_Shape_PARENTS : PySem.W.findCls K (.ref c_Shape) (.type "type") "PARENTS" = some (.val (.int 4 ti_Shape_PARENTS)))
    (no_Shape__listed : PySem.W.findIn K (.ref c_Shape) "_listed" = some none)
    (no_Shape__marks : PySem.W.findIn K (.ref c_Shape) "_marks" = some none)
    (pg_Web : PySem.W.plainGet K c_Web Str.empty = true)
    (hd_Web : PySem.W.hasDictIn K c_Web = true)
    (po_Web : PySem.W.plainOver K c_Web = true)
    (sa_Web : PySem.W.findIn K (.ref c_Web) "__setattr__" = some (some (.builtin "object.__setattr__")))
    (kc_Web : PySem.W.keepIn K (.ref c_Web) = true)
    (i_Web_init : PySem.W.isFn K (.ref f_Web_init) = true)
    (mk_Web : PySem.W.makesIn K c_Web = true)
    (i_Web_put : PySem.W.isFn K (.ref f_Web_put) = true)
    (fi_Web_getitem : PySem.W.fnIn K f_Web_getitem = true)
    (i_Web_getitem : PySem.W.isFn K (.ref f_Web_getitem) = true)
    (i_Web_contains : PySem.W.isFn K (.ref f_Web_contains) = true)
    (i_Web_mark_of : PySem.W.isFn K (.ref f_Web_mark_of) = true)
    (hca_Web : PySem.W.findIn K (.ref c_Web) "__class__" = some (some (.builtin "object.__class__")))
    (hcn_Web : PySem.W.specialIn K (.builtin "object.__class__") "__get__" = some (some (.builtin "getset_descriptor.__get__")))
    (hct_Web : PySem.W.takesIn K (.builtin "object.__class__") = some true)
    (hcm_Web : PySem.W.mroIn K c_Web (.type "object") = some true)
    (rdc_Web : PySem.W.readsIn K c_Web (.type "type") = true)
    (gac_Web : PySem.W.specialIn K (.ref c_Web) "__getattribute__" = some (some (.builtin "type.__getattribute__")))
    (fcl_Web_MOST : PySem.W.findCls K (.ref c_Web) (.type "type") "MOST" = some (.val (.int 1000 ti_Web_MOST)))
    (no_Web_shape : PySem.W.findIn K (.ref c_Web) "shape" = some none)
    (no_Web__rows : PySem.W.findIn K (.ref c_Web) "_rows" = some none)
    (no_Web__numbers : PySem.W.findIn K (.ref c_Web) "_numbers" = some none)
    (gc_BadShape : PySem.W.nsIn K mainGlobals "BadShape" = some (some (.ref c_BadShape)))
    (gc_UnknownMark : PySem.W.nsIn K mainGlobals "UnknownMark" = some (some (.ref c_UnknownMark)))
    (gc_TooLarge : PySem.W.nsIn K mainGlobals "TooLarge" = some (some (.ref c_TooLarge)))
    (gc_BadParents : PySem.W.nsIn K mainGlobals "BadParents" = some (some (.ref c_BadParents)))
    (gc_NoThing : PySem.W.nsIn K mainGlobals "NoThing" = some (some (.ref c_NoThing)))
    (gc_BadStep : PySem.W.nsIn K mainGlobals "BadStep" = some (some (.ref c_BadStep)))
    (gc_Refused : PySem.W.nsIn K mainGlobals "Refused" = some (some (.ref c_Refused)))
    (gc_LockedBefore : PySem.W.nsIn K mainGlobals "LockedBefore" = some (some (.ref c_LockedBefore)))
    (gc_WrongMode : PySem.W.nsIn K mainGlobals "WrongMode" = some (some (.ref c_WrongMode)))
    (gc_NotHeld : PySem.W.nsIn K mainGlobals "NotHeld" = some (some (.ref c_NotHeld)))
    (gc_WebError : PySem.W.nsIn K mainGlobals "WebError" = some (some (.ref c_WebError)))
    (gc_NotAllowed : PySem.W.nsIn K mainGlobals "NotAllowed" = some (some (.ref c_NotAllowed)))
    (gc_Clash : PySem.W.nsIn K mainGlobals "Clash" = some (some (.ref c_Clash)))
    (wb_WebError : PySem.W.subIn K (.ref c_WebError) (.type "BaseException") = some true)
    (wd_WebError : PySem.W.hasDictIn K c_WebError = true)
    (wt_WebError : PySem.W.typeIn K (.ref c_WebError) = some (.type "type"))
    (xz_super : PySem.W.nsIn K mainGlobals "super" = some none)
    (x_opq : PySem.W.nsIn K cStatics "thirdparty.any" = some none)
    (x_hn : PySem.W.specialIn K (.builtin "object.__class__") "__get__" = some (some (.builtin "getset_descriptor.__get__")))
    (x_ht : PySem.W.takesIn K (.builtin "object.__class__") = some true)
    (xl_BadShape : K.lookup c_BadShape = some (excClassObj nm_BadShape q_BadShape c_BadShape N_BadShape bs_BadShape [.ref c_WebError, .type "ValueError", .type "Exception", .type "BaseException", .type "object"] true sn_BadShape sub_BadShape ab_BadShape col_BadShape dd_BadShape m0_BadShape m1_BadShape m2_BadShape m3_BadShape m5_BadShape "ValueError.__new__"))
    (xsa_BadShape : PySem.W.findIn K (.ref c_BadShape) "__setattr__" = some (some (.builtin "object.__setattr__")))
    (xga_BadShape : PySem.W.findIn K (.ref c_BadShape) "__getattribute__" = some (some (.builtin "BaseException.__getattribute__")))
    (xgg_BadShape : PySem.W.findIn K (.ref c_BadShape) "__getattr__" = some none)
    (xno_BadShape : PySem.W.findIn K (.ref c_BadShape) "mark" = some none)
    (xk_BadShape : PySem.W.keepIn K (.ref c_BadShape) = true)
    (xb_BadShape : PySem.W.subIn K (.ref c_BadShape) (.type "BaseException") = some true)
    (xt_BadShape : PySem.W.typeIn K (.ref c_BadShape) = some (.type "type"))
    (xd_BadShape : PySem.W.hasDictIn K c_BadShape = true)
    (xi_BadShape : PySem.W.findIn K (.ref c_BadShape) "__init__" = some (some (.ref f_BadShape)))
    (xf_BadShape : PySem.W.typeIn K (.ref f_BadShape) = some (.type "function"))
    (xfl_BadShape : K.lookup f_BadShape = some ⟨oc_BadShape, od_BadShape, .func (PySem.W.ksFn "__init__" "BadShape.__init__" (defArgs S_BadShape_init) (defBody S_BadShape_init) (defScope S_BadShape_init) .none kV_BadShape dc_BadShape pm_BadShape an_BadShape (.ref cda_BadShape) ct_BadShape cc_BadShape), osl_BadShape⟩)
    (xci_BadShape : PySem.W.codeIn K (.ref cda_BadShape) "BadShape.__init__" = true)
    (xcc_BadShape : K.lookup cc_BadShape = some ⟨cl_BadShape, cld_BadShape, .cell (some (.ref c_BadShape)), csl_BadShape⟩)
    (xcd_BadShape : K.lookup cda_BadShape = some ⟨ccl_BadShape, cdd_BadShape, .fields vs_BadShape, ccs_BadShape⟩)
    (xvs_BadShape : vs_BadShape[2]? = some (.str file_BadShape tf_BadShape))
    (xfi_BadShape : ((PP.main.file : Str) == file_BadShape) = true)
    (xnx_BadShape : PySem.W.ks_superIn K c_BadShape c_BadShape "__init__" = some (some (.builtin "ValueError.__init__")))
    (xsl_BadShape : PySem.W.mroIn K c_BadShape (.ref c_BadShape) = some true)
    (xsu_BadShape : PySem.W.subIn K (.ref c_BadShape) (.type "ValueError") = some true)
    (xha_BadShape : PySem.W.findIn K (.ref c_BadShape) "__class__" = some (some (.builtin "object.__class__")))
    (xhm_BadShape : PySem.W.mroIn K c_BadShape (.type "object") = some true)
    (ws_BadShape_WebError : PySem.W.subIn K (.ref c_BadShape) (.ref c_WebError) = some true)
    (kt_BadShape_NoThing : PySem.W.kitOne K (.ref c_BadShape) (.ref c_NoThing) = some false)
    (kt_BadShape_BadStep : PySem.W.kitOne K (.ref c_BadShape) (.ref c_BadStep) = some false)
    (kt_BadShape_Refused : PySem.W.kitOne K (.ref c_BadShape) (.ref c_Refused) = some false)
    (kt_BadShape_LockedBefore : PySem.W.kitOne K (.ref c_BadShape) (.ref c_LockedBefore) = some false)
    (kt_BadShape_WrongMode : PySem.W.kitOne K (.ref c_BadShape) (.ref c_WrongMode) = some false)
    (kt_BadShape_NotHeld : PySem.W.kitOne K (.ref c_BadShape) (.ref c_NotHeld) = some false)
    (kt_BadShape_NotAllowed : PySem.W.kitOne K (.ref c_BadShape) (.ref c_NotAllowed) = some false)
    (kt_BadShape_Clash : PySem.W.kitOne K (.ref c_BadShape) (.ref c_Clash) = some false)
    (kt_BadShape_ValueError : PySem.W.kitOne K (.ref c_BadShape) (.type "ValueError") = some true)
    (xl_UnknownMark : K.lookup c_UnknownMark = some (excClassObj nm_UnknownMark q_UnknownMark c_UnknownMark N_UnknownMark bs_UnknownMark [.ref c_WebError, .type "ValueError", .type "Exception", .type "BaseException", .type "object"] true sn_UnknownMark sub_UnknownMark ab_UnknownMark col_UnknownMark dd_UnknownMark m0_UnknownMark m1_UnknownMark m2_UnknownMark m3_UnknownMark m5_UnknownMark "ValueError.__new__"))
    (xsa_UnknownMark : PySem.W.findIn K (.ref c_UnknownMark) "__setattr__" = some (some (.builtin "object.__setattr__")))
    (xga_UnknownMark : PySem.W.findIn K (.ref c_UnknownMark) "__getattribute__" = some (some (.builtin "BaseException.__getattribute__")))
    (xgg_UnknownMark : PySem.W.findIn K (.ref c_UnknownMark) "__getattr__" = some none)
    (xno_UnknownMark : PySem.W.findIn K (.ref c_UnknownMark) "mark" = some none)
    (xk_UnknownMark : PySem.W.keepIn K (.ref c_UnknownMark) = true)
    (xb_UnknownMark : PySem.W.subIn K (.ref c_UnknownMark) (.type "BaseException") = some true)
    (xt_UnknownMark : PySem.W.typeIn K (.ref c_UnknownMark) = some (.type "type"))
    (xd_UnknownMark : PySem.W.hasDictIn K c_UnknownMark = true)
    (xi_UnknownMark : PySem.W.findIn K (.ref c_UnknownMark) "__init__" = some (some (.ref f_UnknownMark)))
    (xf_UnknownMark : PySem.W.typeIn K (.ref f_UnknownMark) = some (.type "function"))
    (xfl_UnknownMark : K.lookup f_UnknownMark = some ⟨oc_UnknownMark, od_UnknownMark, .func (PySem.W.ksFn "__init__" "UnknownMark.__init__" (defArgs S_UnknownMark_init) (defBody S_UnknownMark_init) (defScope S_UnknownMark_init) .none kV_UnknownMark dc_UnknownMark pm_UnknownMark an_UnknownMark (.ref cda_UnknownMark) ct_UnknownMark cc_UnknownMark), osl_UnknownMark⟩)
    (xci_UnknownMark : PySem.W.codeIn K (.ref cda_UnknownMark) "UnknownMark.__init__" = true)
    (xcc_UnknownMark : K.lookup cc_UnknownMark = some ⟨cl_UnknownMark, cld_UnknownMark, .cell (some (.ref c_UnknownMark)), csl_UnknownMark⟩)
    (xcd_UnknownMark : K.lookup cda_UnknownMark = some ⟨ccl_UnknownMark, cdd_UnknownMark, .fields vs_UnknownMark, ccs_UnknownMark⟩)
    (xvs_UnknownMark : vs_UnknownMark[2]? = some (.str file_UnknownMark tf_UnknownMark))
    (xfi_UnknownMark : ((PP.main.file : Str) == file_UnknownMark) = true)
    (xnx_UnknownMark : PySem.W.ks_superIn K c_UnknownMark c_UnknownMark "__init__" = some (some (.builtin "ValueError.__init__")))
    (xsl_UnknownMark : PySem.W.mroIn K c_UnknownMark (.ref c_UnknownMark) = some true)
    (xsu_UnknownMark : PySem.W.subIn K (.ref c_UnknownMark) (.type "ValueError") = some true)
    (xha_UnknownMark : PySem.W.findIn K (.ref c_UnknownMark) "__class__" = some (some (.builtin "object.__class__")))
    (xhm_UnknownMark : PySem.W.mroIn K c_UnknownMark (.type "object") = some true)
    (ws_UnknownMark_WebError : PySem.W.subIn K (.ref c_UnknownMark) (.ref c_WebError) = some true)
    (kt_UnknownMark_NoThing : PySem.W.kitOne K (.ref c_UnknownMark) (.ref c_NoThing) = some false)
    (kt_UnknownMark_BadStep : PySem.W.kitOne K (.ref c_UnknownMark) (.ref c_BadStep) = some false)
    (kt_UnknownMark_Refused : PySem.W.kitOne K (.ref c_UnknownMark) (.ref c_Refused) = some false)
    (kt_UnknownMark_LockedBefore : PySem.W.kitOne K (.ref c_UnknownMark) (.ref c_LockedBefore) = some false)
    (kt_UnknownMark_WrongMode : PySem.W.kitOne K (.ref c_UnknownMark) (.ref c_WrongMode) = some false)
    (kt_UnknownMark_NotHeld : PySem.W.kitOne K (.ref c_UnknownMark) (.ref c_NotHeld) = some false)
    (kt_UnknownMark_NotAllowed : PySem.W.kitOne K (.ref c_UnknownMark) (.ref c_NotAllowed) = some false)
    (kt_UnknownMark_Clash : PySem.W.kitOne K (.ref c_UnknownMark) (.ref c_Clash) = some false)
    (kt_UnknownMark_ValueError : PySem.W.kitOne K (.ref c_UnknownMark) (.type "ValueError") = some true)
    (xl_TooLarge : K.lookup c_TooLarge = some (excClassObj nm_TooLarge q_TooLarge c_TooLarge N_TooLarge bs_TooLarge [.ref c_WebError, .type "ValueError", .type "Exception", .type "BaseException", .type "object"] true sn_TooLarge sub_TooLarge ab_TooLarge col_TooLarge dd_TooLarge m0_TooLarge m1_TooLarge m2_TooLarge m3_TooLarge m5_TooLarge "ValueError.__new__"))
    (xsa_TooLarge : PySem.W.findIn K (.ref c_TooLarge) "__setattr__" = some (some (.builtin "object.__setattr__")))
    (xga_TooLarge : PySem.W.findIn K (.ref c_TooLarge) "__getattribute__" = some (some (.builtin "BaseException.__getattribute__")))
    (xgg_TooLarge : PySem.W.findIn K (.ref c_TooLarge) "__getattr__" = some none)
    (xno_TooLarge : PySem.W.findIn K (.ref c_TooLarge) "most" = some none)
    (xk_TooLarge : PySem.W.keepIn K (.ref c_TooLarge) = true)
    (xb_TooLarge : PySem.W.subIn K (.ref c_TooLarge) (.type "BaseException") = some true)
    (xt_TooLarge : PySem.W.typeIn K (.ref c_TooLarge) = some (.type "type"))
    (xd_TooLarge : PySem.W.hasDictIn K c_TooLarge = true)
    (xi_TooLarge : PySem.W.findIn K (.ref c_TooLarge) "__init__" = some (some (.ref f_TooLarge)))
    (xf_TooLarge : PySem.W.typeIn K (.ref f_TooLarge) = some (.type "function"))
    (xfl_TooLarge : K.lookup f_TooLarge = some ⟨oc_TooLarge, od_TooLarge, .func (PySem.W.ksFn "__init__" "TooLarge.__init__" (defArgs S_TooLarge_init) (defBody S_TooLarge_init) (defScope S_TooLarge_init) .none kV_TooLarge dc_TooLarge pm_TooLarge an_TooLarge (.ref cda_TooLarge) ct_TooLarge cc_TooLarge), osl_TooLarge⟩)
    (xci_TooLarge : PySem.W.codeIn K (.ref cda_TooLarge) "TooLarge.__init__" = true)
    (xcc_TooLarge : K.lookup cc_TooLarge = some ⟨cl_TooLarge, cld_TooLarge, .cell (some (.ref c_TooLarge)), csl_TooLarge⟩)
    (xcd_TooLarge : K.lookup cda_TooLarge = some ⟨ccl_TooLarge, cdd_TooLarge, .fields vs_TooLarge, ccs_TooLarge⟩)
    (xvs_TooLarge : vs_TooLarge[2]? = some (.str file_TooLarge tf_TooLarge))
    (xfi_TooLarge : ((PP.main.file : Str) == file_TooLarge) = true)
    (xnx_TooLarge : PySem.W.ks_superIn K c_TooLarge c_TooLarge "__init__" = some (some (.builtin "ValueError.__init__")))
    (xsl_TooLarge : PySem.W.mroIn K c_TooLarge (.ref c_TooLarge) = some true)
    (xsu_TooLarge : PySem.W.subIn K (.ref c_TooLarge) (.type "ValueError") = some true)
    (xha_TooLarge : PySem.W.findIn K (.ref c_TooLarge) "__class__" = some (some (.builtin "object.__class__")))
    (xhm_TooLarge : PySem.W.mroIn K c_TooLarge (.type "object") = some true)
    (ws_TooLarge_WebError : PySem.W.subIn K (.ref c_TooLarge) (.ref c_WebError) = some true)
    (kt_TooLarge_NoThing : PySem.W.kitOne K (.ref c_TooLarge) (.ref c_NoThing) = some false)
    (kt_TooLarge_BadStep : PySem.W.kitOne K (.ref c_TooLarge) (.ref c_BadStep) = some false)
    (kt_TooLarge_Refused : PySem.W.kitOne K (.ref c_TooLarge) (.ref c_Refused) = some false)
    (kt_TooLarge_LockedBefore : PySem.W.kitOne K (.ref c_TooLarge) (.ref c_LockedBefore) = some false)
    (kt_TooLarge_WrongMode : PySem.W.kitOne K (.ref c_TooLarge) (.ref c_WrongMode) = some false)
    (kt_TooLarge_NotHeld : PySem.W.kitOne K (.ref c_TooLarge) (.ref c_NotHeld) = some false)
    (kt_TooLarge_NotAllowed : PySem.W.kitOne K (.ref c_TooLarge) (.ref c_NotAllowed) = some false)
    (kt_TooLarge_Clash : PySem.W.kitOne K (.ref c_TooLarge) (.ref c_Clash) = some false)
    (kt_TooLarge_ValueError : PySem.W.kitOne K (.ref c_TooLarge) (.type "ValueError") = some true)
    (xl_BadParents : K.lookup c_BadParents = some (excClassObj nm_BadParents q_BadParents c_BadParents N_BadParents bs_BadParents [.ref c_WebError, .type "ValueError", .type "Exception", .type "BaseException", .type "object"] true sn_BadParents sub_BadParents ab_BadParents col_BadParents dd_BadParents m0_BadParents m1_BadParents m2_BadParents m3_BadParents m5_BadParents "ValueError.__new__"))
    (xsa_BadParents : PySem.W.findIn K (.ref c_BadParents) "__setattr__" = some (some (.builtin "object.__setattr__")))
    (xga_BadParents : PySem.W.findIn K (.ref c_BadParents) "__getattribute__" = some (some (.builtin "BaseException.__getattribute__")))
    (xgg_BadParents : PySem.W.findIn K (.ref c_BadParents) "__getattr__" = some none)
    (xno_BadParents : PySem.W.findIn K (.ref c_BadParents) "mark" = some none)
    (xk_BadParents : PySem.W.keepIn K (.ref c_BadParents) = true)
    (xb_BadParents : PySem.W.subIn K (.ref c_BadParents) (.type "BaseException") = some true)
    (xt_BadParents : PySem.W.typeIn K (.ref c_BadParents) = some (.type "type"))
    (xd_BadParents : PySem.W.hasDictIn K c_BadParents = true)
    (xi_BadParents : PySem.W.findIn K (.ref c_BadParents) "__init__" = some (some (.ref f_BadParents)))
    (xf_BadParents : PySem.W.typeIn K (.ref f_BadParents) = some (.type "function"))
    (xfl_BadParents : K.lookup f_BadParents = some ⟨oc_BadParents, od_BadParents, .func (PySem.W.ksFn "__init__" "BadParents.__init__" (defArgs S_BadParents_init) (defBody S_BadParents_init) (defScope S_BadParents_init) .none kV_BadParents dc_BadParents pm_BadParents an_BadParents (.ref cda_BadParents) ct_BadParents cc_BadParents), osl_BadParents⟩)
    (xci_BadParents : PySem.W.codeIn K (.ref cda_BadParents) "BadParents.__init__" = true)
    (xcc_BadParents : K.lookup cc_BadParents = some ⟨cl_BadParents, cld_BadParents, .cell (some (.ref c_BadParents)), csl_BadParents⟩)
    (xcd_BadParents : K.lookup cda_BadParents = some ⟨ccl_BadParents, cdd_BadParents, .fields vs_BadParents, ccs_BadParents⟩)
    (xvs_BadParents : vs_BadParents[2]? = some (.str file_BadParents tf_BadParents))
    (xfi_BadParents : ((PP.main.file : Str) == file_BadParents) = true)
    (xnx_BadParents : PySem.W.ks_superIn K c_BadParents c_BadParents "__init__" = some (some (.builtin "ValueError.__init__")))
    (xsl_BadParents : PySem.W.mroIn K c_BadParents (.ref c_BadParents) = some true)
    (xsu_BadParents : PySem.W.subIn K (.ref c_BadParents) (.type "ValueError") = some true)
    (xha_BadParents : PySem.W.findIn K (.ref c_BadParents) "__class__" = some (some (.builtin "object.__class__")))
    (xhm_BadParents : PySem.W.mroIn K c_BadParents (.type "object") = some true)
    (ws_BadParents_WebError : PySem.W.subIn K (.ref c_BadParents) (.ref c_WebError) = some true)
    (kt_BadParents_NoThing : PySem.W.kitOne K (.ref c_BadParents) (.ref c_NoThing) = some false)
    (kt_BadParents_BadStep : PySem.W.kitOne K (.ref c_BadParents) (.ref c_BadStep) = some false)
    (kt_BadParents_Refused : PySem.W.kitOne K (.ref c_BadParents) (.ref c_Refused) = some false)
    (kt_BadParents_LockedBefore : PySem.W.kitOne K (.ref c_BadParents) (.ref c_LockedBefore) = some false)
    (kt_BadParents_WrongMode : PySem.W.kitOne K (.ref c_BadParents) (.ref c_WrongMode) = some false)
    (kt_BadParents_NotHeld : PySem.W.kitOne K (.ref c_BadParents) (.ref c_NotHeld) = some false)
    (kt_BadParents_NotAllowed : PySem.W.kitOne K (.ref c_BadParents) (.ref c_NotAllowed) = some false)
    (kt_BadParents_Clash : PySem.W.kitOne K (.ref c_BadParents) (.ref c_Clash) = some false)
    (kt_BadParents_ValueError : PySem.W.kitOne K (.ref c_BadParents) (.type "ValueError") = some true)
    (xl_NoThing : K.lookup c_NoThing = some (excClassObj nm_NoThing q_NoThing c_NoThing N_NoThing bs_NoThing [.ref c_WebError, .type "ValueError", .type "Exception", .type "BaseException", .type "object"] true sn_NoThing sub_NoThing ab_NoThing col_NoThing dd_NoThing m0_NoThing m1_NoThing m2_NoThing m3_NoThing m5_NoThing "ValueError.__new__"))
    (xsa_NoThing : PySem.W.findIn K (.ref c_NoThing) "__setattr__" = some (some (.builtin "object.__setattr__")))
    (xga_NoThing : PySem.W.findIn K (.ref c_NoThing) "__getattribute__" = some (some (.builtin "BaseException.__getattribute__")))
    (xgg_NoThing : PySem.W.findIn K (.ref c_NoThing) "__getattr__" = some none)
    (xno_NoThing : PySem.W.findIn K (.ref c_NoThing) "thing" = some none)
    (xk_NoThing : PySem.W.keepIn K (.ref c_NoThing) = true)
    (xb_NoThing : PySem.W.subIn K (.ref c_NoThing) (.type "BaseException") = some true)
    (xt_NoThing : PySem.W.typeIn K (.ref c_NoThing) = some (.type "type"))
    (xd_NoThing : PySem.W.hasDictIn K c_NoThing = true)
    (xi_NoThing : PySem.W.findIn K (.ref c_NoThing) "__init__" = some (some (.ref f_NoThing)))
    (xf_NoThing : PySem.W.typeIn K (.ref f_NoThing) = some (.type "function"))
    (xfl_NoThing : K.lookup f_NoThing = some ⟨oc_NoThing, od_NoThing, .func (PySem.W.ksFn "__init__" "NoThing.__init__" (defArgs S_NoThing_init) (defBody S_NoThing_init) (defScope S_NoThing_init) .none kV_NoThing dc_NoThing pm_NoThing an_NoThing (.ref cda_NoThing) ct_NoThing cc_NoThing), osl_NoThing⟩)
    (xci_NoThing : PySem.W.codeIn K (.ref cda_NoThing) "NoThing.__init__" = true)
    (xcc_NoThing : K.lookup cc_NoThing = some ⟨cl_NoThing, cld_NoThing, .cell (some (.ref c_NoThing)), csl_NoThing⟩)
    (xcd_NoThing : K.lookup cda_NoThing = some ⟨ccl_NoThing, cdd_NoThing, .fields vs_NoThing, ccs_NoThing⟩)
    (xvs_NoThing : vs_NoThing[2]? = some (.str file_NoThing tf_NoThing))
    (xfi_NoThing : ((PP.main.file : Str) == file_NoThing) = true)
    (xnx_NoThing : PySem.W.ks_superIn K c_NoThing c_NoThing "__init__" = some (some (.builtin "ValueError.__init__")))
    (xsl_NoThing : PySem.W.mroIn K c_NoThing (.ref c_NoThing) = some true)
    (xsu_NoThing : PySem.W.subIn K (.ref c_NoThing) (.type "ValueError") = some true)
    (xha_NoThing : PySem.W.findIn K (.ref c_NoThing) "__class__" = some (some (.builtin "object.__class__")))
    (xhm_NoThing : PySem.W.mroIn K c_NoThing (.type "object") = some true)
    (ws_NoThing_WebError : PySem.W.subIn K (.ref c_NoThing) (.ref c_WebError) = some true)
    (kt_NoThing_NoThing : PySem.W.kitOne K (.ref c_NoThing) (.ref c_NoThing) = some true)
    (kt_NoThing_BadStep : PySem.W.kitOne K (.ref c_NoThing) (.ref c_BadStep) = some false)
    (kt_NoThing_Refused : PySem.W.kitOne K (.ref c_NoThing) (.ref c_Refused) = some false)
    (kt_NoThing_LockedBefore : PySem.W.kitOne K (.ref c_NoThing) (.ref c_LockedBefore) = some false)
    (kt_NoThing_WrongMode : PySem.W.kitOne K (.ref c_NoThing) (.ref c_WrongMode) = some false)
    (kt_NoThing_NotHeld : PySem.W.kitOne K (.ref c_NoThing) (.ref c_NotHeld) = some false)
    (kt_NoThing_NotAllowed : PySem.W.kitOne K (.ref c_NoThing) (.ref c_NotAllowed) = some false)
    (kt_NoThing_Clash : PySem.W.kitOne K (.ref c_NoThing) (.ref c_Clash) = some false)
    (kt_NoThing_ValueError : PySem.W.kitOne K (.ref c_NoThing) (.type "ValueError") = some true)
    (xl_BadStep : K.lookup c_BadStep = some (excClassObj nm_BadStep q_BadStep c_BadStep N_BadStep bs_BadStep [.ref c_WebError, .type "ValueError", .type "Exception", .type "BaseException", .type "object"] true sn_BadStep sub_BadStep ab_BadStep col_BadStep dd_BadStep m0_BadStep m1_BadStep m2_BadStep m3_BadStep m5_BadStep "ValueError.__new__"))
    (xsa_BadStep : PySem.W.findIn K (.ref c_BadStep) "__setattr__" = some (some (.builtin "object.__setattr__")))
    (xga_BadStep : PySem.W.findIn K (.ref c_BadStep) "__getattribute__" = some (some (.builtin "BaseException.__getattribute__")))
    (xgg_BadStep : PySem.W.findIn K (.ref c_BadStep) "__getattr__" = some none)
    (xno_BadStep : PySem.W.findIn K (.ref c_BadStep) "step" = some none)
    (xk_BadStep : PySem.W.keepIn K (.ref c_BadStep) = true)
    (xb_BadStep : PySem.W.subIn K (.ref c_BadStep) (.type "BaseException") = some true)
    (xt_BadStep : PySem.W.typeIn K (.ref c_BadStep) = some (.type "type"))
    (xd_BadStep : PySem.W.hasDictIn K c_BadStep = true)
    (xi_BadStep : PySem.W.findIn K (.ref c_BadStep) "__init__" = some (some (.ref f_BadStep)))
    (xf_BadStep : PySem.W.typeIn K (.ref f_BadStep) = some (.type "function"))
    (xfl_BadStep : K.lookup f_BadStep = some ⟨oc_BadStep, od_BadStep, .func (PySem.W.ksFn "__init__" "BadStep.__init__" (defArgs S_BadStep_init) (defBody S_BadStep_init) (defScope S_BadStep_init) .none kV_BadStep dc_BadStep pm_BadStep an_BadStep (.ref cda_BadStep) ct_BadStep cc_BadStep), osl_BadStep⟩)
    (xci_BadStep : PySem.W.codeIn K (.ref cda_BadStep) "BadStep.__init__" = true)
    (xcc_BadStep : K.lookup cc_BadStep = some ⟨cl_BadStep, cld_BadStep, .cell (some (.ref c_BadStep)), csl_BadStep⟩)
    (xcd_BadStep : K.lookup cda_BadStep = some ⟨ccl_BadStep, cdd_BadStep, .fields vs_BadStep, ccs_BadStep⟩)
    (xvs_BadStep : vs_BadStep[2]? = some (.str file_BadStep tf_BadStep))
    (xfi_BadStep : ((PP.main.file : Str) == file_BadStep) = true)
    (xnx_BadStep : PySem.W.ks_superIn K c_BadStep c_BadStep "__init__" = some (some (.builtin "ValueError.__init__")))
    (xsl_BadStep : PySem.W.mroIn K c_BadStep (.ref c_BadStep) = some true)
    (xsu_BadStep : PySem.W.subIn K (.ref c_BadStep) (.type "ValueError") = some true)
    (xha_BadStep : PySem.W.findIn K (.ref c_BadStep) "__class__" = some (some (.builtin "object.__class__")))
    (xhm_BadStep : PySem.W.mroIn K c_BadStep (.type "object") = some true)
    (ws_BadStep_WebError : PySem.W.subIn K (.ref c_BadStep) (.ref c_WebError) = some true)
    (kt_BadStep_NoThing : PySem.W.kitOne K (.ref c_BadStep) (.ref c_NoThing) = some false)
    (kt_BadStep_BadStep : PySem.W.kitOne K (.ref c_BadStep) (.ref c_BadStep) = some true)
    (kt_BadStep_Refused : PySem.W.kitOne K (.ref c_BadStep) (.ref c_Refused) = some false)
    (kt_BadStep_LockedBefore : PySem.W.kitOne K (.ref c_BadStep) (.ref c_LockedBefore) = some false)
    (kt_BadStep_WrongMode : PySem.W.kitOne K (.ref c_BadStep) (.ref c_WrongMode) = some false)
    (kt_BadStep_NotHeld : PySem.W.kitOne K (.ref c_BadStep) (.ref c_NotHeld) = some false)
    (kt_BadStep_NotAllowed : PySem.W.kitOne K (.ref c_BadStep) (.ref c_NotAllowed) = some false)
    (kt_BadStep_Clash : PySem.W.kitOne K (.ref c_BadStep) (.ref c_Clash) = some false)
    (kt_BadStep_ValueError : PySem.W.kitOne K (.ref c_BadStep) (.type "ValueError") = some true)
    (xl_Refused : K.lookup c_Refused = some (excClassObj nm_Refused q_Refused c_Refused N_Refused bs_Refused [.ref c_WebError, .type "ValueError", .type "Exception", .type "BaseException", .type "object"] true sn_Refused sub_Refused ab_Refused col_Refused dd_Refused m0_Refused m1_Refused m2_Refused m3_Refused m5_Refused "ValueError.__new__"))
    (xsa_Refused : PySem.W.findIn K (.ref c_Refused) "__setattr__" = some (some (.builtin "object.__setattr__")))
    (xga_Refused : PySem.W.findIn K (.ref c_Refused) "__getattribute__" = some (some (.builtin "BaseException.__getattribute__")))
    (xgg_Refused : PySem.W.findIn K (.ref c_Refused) "__getattr__" = some none)
    (xno_Refused : PySem.W.findIn K (.ref c_Refused) "step" = some none)
    (xk_Refused : PySem.W.keepIn K (.ref c_Refused) = true)
    (xb_Refused : PySem.W.subIn K (.ref c_Refused) (.type "BaseException") = some true)
    (xt_Refused : PySem.W.typeIn K (.ref c_Refused) = some (.type "type"))
    (xd_Refused : PySem.W.hasDictIn K c_Refused = true)
    (xi_Refused : PySem.W.findIn K (.ref c_Refused) "__init__" = some (some (.ref f_Refused)))
    (xf_Refused : PySem.W.typeIn K (.ref f_Refused) = some (.type "function"))
    (xfl_Refused : K.lookup f_Refused = some ⟨oc_Refused, od_Refused, .func (PySem.W.ksFn "__init__" "Refused.__init__" (defArgs S_Refused_init) (defBody S_Refused_init) (defScope S_Refused_init) .none kV_Refused dc_Refused pm_Refused an_Refused (.ref cda_Refused) ct_Refused cc_Refused), osl_Refused⟩)
    (xci_Refused : PySem.W.codeIn K (.ref cda_Refused) "Refused.__init__" = true)
    (xcc_Refused : K.lookup cc_Refused = some ⟨cl_Refused, cld_Refused, .cell (some (.ref c_Refused)), csl_Refused⟩)
    (xcd_Refused : K.lookup cda_Refused = some ⟨ccl_Refused, cdd_Refused, .fields vs_Refused, ccs_Refused⟩)
    (xvs_Refused : vs_Refused[2]? = some (.str file_Refused tf_Refused))
    (xfi_Refused : ((PP.main.file : Str) == file_Refused) = true)
    (xnx_Refused : PySem.W.ks_superIn K c_Refused c_Refused "__init__" = some (some (.builtin "ValueError.__init__")))
    (xsl_Refused : PySem.W.mroIn K c_Refused (.ref c_Refused) = some true)
    (xsu_Refused : PySem.W.subIn K (.ref c_Refused) (.type "ValueError") = some true)
    (xha_Refused : PySem.W.findIn K (.ref c_Refused) "__class__" = some (some (.builtin "object.__class__")))
    (xhm_Refused : PySem.W.mroIn K c_Refused (.type "object") = some true)
    (ws_Refused_WebError : PySem.W.subIn K (.ref c_Refused) (.ref c_WebError) = some true)
    (kt_Refused_NoThing : PySem.W.kitOne K (.ref c_Refused) (.ref c_NoThing) = some false)
    (kt_Refused_BadStep : PySem.W.kitOne K (.ref c_Refused) (.ref c_BadStep) = some false)
    (kt_Refused_Refused : PySem.W.kitOne K (.ref c_Refused) (.ref c_Refused) = some true)
    (kt_Refused_LockedBefore : PySem.W.kitOne K (.ref c_Refused) (.ref c_LockedBefore) = some false)
    (kt_Refused_WrongMode : PySem.W.kitOne K (.ref c_Refused) (.ref c_WrongMode) = some false)
    (kt_Refused_NotHeld : PySem.W.kitOne K (.ref c_Refused) (.ref c_NotHeld) = some false)
    (kt_Refused_NotAllowed : PySem.W.kitOne K (.ref c_Refused) (.ref c_NotAllowed) = some false)
    (kt_Refused_Clash : PySem.W.kitOne K (.ref c_Refused) (.ref c_Clash) = some false)
    (kt_Refused_ValueError : PySem.W.kitOne K (.ref c_Refused) (.type "ValueError") = some true)
    (xl_LockedBefore : K.lookup c_LockedBefore = some (excClassObj nm_LockedBefore q_LockedBefore c_LockedBefore N_LockedBefore bs_LockedBefore [.ref c_Refused, .ref c_WebError, .type "ValueError", .type "Exception", .type "BaseException", .type "object"] true sn_LockedBefore sub_LockedBefore ab_LockedBefore col_LockedBefore dd_LockedBefore m0_LockedBefore m1_LockedBefore m2_LockedBefore m3_LockedBefore m5_LockedBefore "ValueError.__new__"))
    (xsa_LockedBefore : PySem.W.findIn K (.ref c_LockedBefore) "__setattr__" = some (some (.builtin "object.__setattr__")))
    (xga_LockedBefore : PySem.W.findIn K (.ref c_LockedBefore) "__getattribute__" = some (some (.builtin "BaseException.__getattribute__")))
    (xgg_LockedBefore : PySem.W.findIn K (.ref c_LockedBefore) "__getattr__" = some none)
    (xno_LockedBefore : PySem.W.findIn K (.ref c_LockedBefore) "step" = some none)
    (xk_LockedBefore : PySem.W.keepIn K (.ref c_LockedBefore) = true)
    (xb_LockedBefore : PySem.W.subIn K (.ref c_LockedBefore) (.type "BaseException") = some true)
    (xt_LockedBefore : PySem.W.typeIn K (.ref c_LockedBefore) = some (.type "type"))
    (xd_LockedBefore : PySem.W.hasDictIn K c_LockedBefore = true)
    (xi_LockedBefore : PySem.W.findIn K (.ref c_LockedBefore) "__init__" = some (some (.ref f_LockedBefore)))
    (xf_LockedBefore : PySem.W.typeIn K (.ref f_LockedBefore) = some (.type "function"))
    (xfl_LockedBefore : K.lookup f_LockedBefore = some ⟨oc_LockedBefore, od_LockedBefore, .func (PySem.W.ksFn "__init__" "Refused.__init__" (defArgs S_Refused_init) (defBody S_Refused_init) (defScope S_Refused_init) .none kV_LockedBefore dc_LockedBefore pm_LockedBefore an_LockedBefore (.ref cda_LockedBefore) ct_LockedBefore cc_LockedBefore), osl_LockedBefore⟩)
    (xci_LockedBefore : PySem.W.codeIn K (.ref cda_LockedBefore) "Refused.__init__" = true)
    (xcc_LockedBefore : K.lookup cc_LockedBefore = some ⟨cl_LockedBefore, cld_LockedBefore, .cell (some (.ref c_Refused)), csl_LockedBefore⟩)
    (xcd_LockedBefore : K.lookup cda_LockedBefore = some ⟨ccl_LockedBefore, cdd_LockedBefore, .fields vs_LockedBefore, ccs_LockedBefore⟩)
    (xvs_LockedBefore : vs_LockedBefore[2]? = some (.str file_LockedBefore tf_LockedBefore))
    (xfi_LockedBefore : ((PP.main.file : Str) == file_LockedBefore) = true)
    (xnx_LockedBefore : PySem.W.ks_superIn K c_LockedBefore c_Refused "__init__" = some (some (.builtin "ValueError.__init__")))
    (xsl_LockedBefore : PySem.W.mroIn K c_LockedBefore (.ref c_Refused) = some true)
    (xsu_LockedBefore : PySem.W.subIn K (.ref c_LockedBefore) (.type "ValueError") = some true)
    (xha_LockedBefore : PySem.W.findIn K (.ref c_LockedBefore) "__class__" = some (some (.builtin "object.__class__")))
    (xhm_LockedBefore : PySem.W.mroIn K c_LockedBefore (.type "object") = some true)
    (ws_LockedBefore_WebError : PySem.W.subIn K (.ref c_LockedBefore) (.ref c_WebError) = some true)
    (kt_LockedBefore_NoThing : PySem.W.kitOne K (.ref c_LockedBefore) (.ref c_NoThing) = some false)
    (kt_LockedBefore_BadStep : PySem.W.kitOne K (.ref c_LockedBefore) (.ref c_BadStep) = some false)
    (kt_LockedBefore_Refused : PySem.W.kitOne K (.ref c_LockedBefore) (.ref c_Refused) = some true)
    (kt_LockedBefore_LockedBefore : PySem.W.kitOne K (.ref c_LockedBefore) (.ref c_LockedBefore) = some true)
    (kt_LockedBefore_WrongMode : PySem.W.kitOne K (.ref c_LockedBefore) (.ref c_WrongMode) = some false)
    (kt_LockedBefore_NotHeld : PySem.W.kitOne K (.ref c_LockedBefore) (.ref c_NotHeld) = some false)
    (kt_LockedBefore_NotAllowed : PySem.W.kitOne K (.ref c_LockedBefore) (.ref c_NotAllowed) = some false)
    (kt_LockedBefore_Clash : PySem.W.kitOne K (.ref c_LockedBefore) (.ref c_Clash) = some false)
    (kt_LockedBefore_ValueError : PySem.W.kitOne K (.ref c_LockedBefore) (.type "ValueError") = some true)
    (xl_WrongMode : K.lookup c_WrongMode = some (excClassObj nm_WrongMode q_WrongMode c_WrongMode N_WrongMode bs_WrongMode [.ref c_Refused, .ref c_WebError, .type "ValueError", .type "Exception", .type "BaseException", .type "object"] true sn_WrongMode sub_WrongMode ab_WrongMode col_WrongMode dd_WrongMode m0_WrongMode m1_WrongMode m2_WrongMode m3_WrongMode m5_WrongMode "ValueError.__new__"))
    (xsa_WrongMode : PySem.W.findIn K (.ref c_WrongMode) "__setattr__" = some (some (.builtin "object.__setattr__")))
    (xga_WrongMode : PySem.W.findIn K (.ref c_WrongMode) "__getattribute__" = some (some (.builtin "BaseException.__getattribute__")))
    (xgg_WrongMode : PySem.W.findIn K (.ref c_WrongMode) "__getattr__" = some none)
    (xno_WrongMode : PySem.W.findIn K (.ref c_WrongMode) "step" = some none)
    (xk_WrongMode : PySem.W.keepIn K (.ref c_WrongMode) = true)
    (xb_WrongMode : PySem.W.subIn K (.ref c_WrongMode) (.type "BaseException") = some true)
    (xt_WrongMode : PySem.W.typeIn K (.ref c_WrongMode) = some (.type "type"))
    (xd_WrongMode : PySem.W.hasDictIn K c_WrongMode = true)
    (xi_WrongMode : PySem.W.findIn K (.ref c_WrongMode) "__init__" = some (some (.ref f_WrongMode)))
    (xf_WrongMode : PySem.W.typeIn K (.ref f_WrongMode) = some (.type "function"))
    (xfl_WrongMode : K.lookup f_WrongMode = some ⟨oc_WrongMode, od_WrongMode, .func (PySem.W.ksFn "__init__" "Refused.__init__" (defArgs S_Refused_init) (defBody S_Refused_init) (defScope S_Refused_init) .none kV_WrongMode dc_WrongMode pm_WrongMode an_WrongMode (.ref cda_WrongMode) ct_WrongMode cc_WrongMode), osl_WrongMode⟩)
    (xci_WrongMode : PySem.W.codeIn K (.ref cda_WrongMode) "Refused.__init__" = true)
    (xcc_WrongMode : K.lookup cc_WrongMode = some ⟨cl_WrongMode, cld_WrongMode, .cell (some (.ref c_Refused)), csl_WrongMode⟩)
    (xcd_WrongMode : K.lookup cda_WrongMode = some ⟨ccl_WrongMode, cdd_WrongMode, .fields vs_WrongMode, ccs_WrongMode⟩)
    (xvs_WrongMode : vs_WrongMode[2]? = some (.str file_WrongMode tf_WrongMode))
    (xfi_WrongMode : ((PP.main.file : Str) == file_WrongMode) = true)
    (xnx_WrongMode : PySem.W.ks_superIn K c_WrongMode c_Refused "__init__" = some (some (.builtin "ValueError.__init__")))
    (xsl_WrongMode : PySem.W.mroIn K c_WrongMode (.ref c_Refused) = some true)
    (xsu_WrongMode : PySem.W.subIn K (.ref c_WrongMode) (.type "ValueError") = some true)
    (xha_WrongMode : PySem.W.findIn K (.ref c_WrongMode) "__class__" = some (some (.builtin "object.__class__")))
    (xhm_WrongMode : PySem.W.mroIn K c_WrongMode (.type "object") = some true)
    (ws_WrongMode_WebError : PySem.W.subIn K (.ref c_WrongMode) (.ref c_WebError) = some true)
    (kt_WrongMode_NoThing : PySem.W.kitOne K (.ref c_WrongMode) (.ref c_NoThing) = some false)
    (kt_WrongMode_BadStep : PySem.W.kitOne K (.ref c_WrongMode) (.ref c_BadStep) = some false)
    (kt_WrongMode_Refused : PySem.W.kitOne K (.ref c_WrongMode) (.ref c_Refused) = some true)
    (kt_WrongMode_LockedBefore : PySem.W.kitOne K (.ref c_WrongMode) (.ref c_LockedBefore) = some false)
    (kt_WrongMode_WrongMode : PySem.W.kitOne K (.ref c_WrongMode) (.ref c_WrongMode) = some true)
    (kt_WrongMode_NotHeld : PySem.W.kitOne K (.ref c_WrongMode) (.ref c_NotHeld) = some false)
    (kt_WrongMode_NotAllowed : PySem.W.kitOne K (.ref c_WrongMode) (.ref c_NotAllowed) = some false)
    (kt_WrongMode_Clash : PySem.W.kitOne K (.ref c_WrongMode) (.ref c_Clash) = some false)
    (kt_WrongMode_ValueError : PySem.W.kitOne K (.ref c_WrongMode) (.type "ValueError") = some true)
    (xl_NotHeld : K.lookup c_NotHeld = some (excClassObj nm_NotHeld q_NotHeld c_NotHeld N_NotHeld bs_NotHeld [.ref c_Refused, .ref c_WebError, .type "ValueError", .type "Exception", .type "BaseException", .type "object"] true sn_NotHeld sub_NotHeld ab_NotHeld col_NotHeld dd_NotHeld m0_NotHeld m1_NotHeld m2_NotHeld m3_NotHeld m5_NotHeld "ValueError.__new__"))
    (xsa_NotHeld : PySem.W.findIn K (.ref c_NotHeld) "__setattr__" = some (some (.builtin "object.__setattr__")))
    (xga_NotHeld : PySem.W.findIn K (.ref c_NotHeld) "__getattribute__" = some (some (.builtin "BaseException.__getattribute__")))
    (xgg_NotHeld : PySem.W.findIn K (.ref c_NotHeld) "__getattr__" = some none)
    (xno_NotHeld : PySem.W.findIn K (.ref c_NotHeld) "step" = some none)
    (xk_NotHeld : PySem.W.keepIn K (.ref c_NotHeld) = true)
    (xb_NotHeld : PySem.W.subIn K (.ref c_NotHeld) (.type "BaseException") = some true)
    (xt_NotHeld : PySem.W.typeIn K (.ref c_NotHeld) = some (.type "type"))
    (xd_NotHeld : PySem.W.hasDictIn K c_NotHeld = true)
    (xi_NotHeld : PySem.W.findIn K (.ref c_NotHeld) "__init__" = some (some (.ref f_NotHeld)))
    (xf_NotHeld : PySem.W.typeIn K (.ref f_NotHeld) = some (.type "function"))
    (xfl_NotHeld : K.lookup f_NotHeld = some ⟨oc_NotHeld, od_NotHeld, .func (PySem.W.ksFn "__init__" "Refused.__init__" (defArgs S_Refused_init) (defBody S_Refused_init) (defScope S_Refused_init) .none kV_NotHeld dc_NotHeld pm_NotHeld an_NotHeld (.ref cda_NotHeld) ct_NotHeld cc_NotHeld), osl_NotHeld⟩)
    (xci_NotHeld : PySem.W.codeIn K (.ref cda_NotHeld) "Refused.__init__" = true)
    (xcc_NotHeld : K.lookup cc_NotHeld = some ⟨cl_NotHeld, cld_NotHeld, .cell (some (.ref c_Refused)), csl_NotHeld⟩)
    (xcd_NotHeld : K.lookup cda_NotHeld = some ⟨ccl_NotHeld, cdd_NotHeld, .fields vs_NotHeld, ccs_NotHeld⟩)
    (xvs_NotHeld : vs_NotHeld[2]? = some (.str file_NotHeld tf_NotHeld))
    (xfi_NotHeld : ((PP.main.file : Str) == file_NotHeld) = true)
    (xnx_NotHeld : PySem.W.ks_superIn K c_NotHeld c_Refused "__init__" = some (some (.builtin "ValueError.__init__")))
    (xsl_NotHeld : PySem.W.mroIn K c_NotHeld (.ref c_Refused) = some true)
    (xsu_NotHeld : PySem.W.subIn K (.ref c_NotHeld) (.type "ValueError") = some true)
    (xha_NotHeld : PySem.W.findIn K (.ref c_NotHeld) "__class__" = some (some (.builtin "object.__class__")))
    (xhm_NotHeld : PySem.W.mroIn K c_NotHeld (.type "object") = some true)
    (ws_NotHeld_WebError : PySem.W.subIn K (.ref c_NotHeld) (.ref c_WebError) = some true)
    (kt_NotHeld_NoThing : PySem.W.kitOne K (.ref c_NotHeld) (.ref c_NoThing) = some false)
    (kt_NotHeld_BadStep : PySem.W.kitOne K (.ref c_NotHeld) (.ref c_BadStep) = some false)
    (kt_NotHeld_Refused : PySem.W.kitOne K (.ref c_NotHeld) (.ref c_Refused) = some true)
    (kt_NotHeld_LockedBefore : PySem.W.kitOne K (.ref c_NotHeld) (.ref c_LockedBefore) = some false)
    (kt_NotHeld_WrongMode : PySem.W.kitOne K (.ref c_NotHeld) (.ref c_WrongMode) = some false)
    (kt_NotHeld_NotHeld : PySem.W.kitOne K (.ref c_NotHeld) (.ref c_NotHeld) = some true)
    (kt_NotHeld_NotAllowed : PySem.W.kitOne K (.ref c_NotHeld) (.ref c_NotAllowed) = some false)
    (kt_NotHeld_Clash : PySem.W.kitOne K (.ref c_NotHeld) (.ref c_Clash) = some false)
    (kt_NotHeld_ValueError : PySem.W.kitOne K (.ref c_NotHeld) (.type "ValueError") = some true)
    : ∃ fd : FuncData, (∀ (s : Shared) (v : Value), BindsTo s fd ⟨[v], []⟩ [("_law_script", v)]) ∧ ∀ base : Heap, K.In base → base.Ns mainGlobals mg → FnOk PP w K mg base CX0 20 fa fd ["_law_script"] (spLaw K) := by
  have e := hfa.symm.trans (PySem.W.mg_of X G a_law)
  cases e
  have XT_BadShape : PySem.WX.ExcTxt PP K mg "BadShape" "mark" c_BadShape := { gC := PySem.W.mg_of X G gc_BadShape, cls := ⟨nm_BadShape, q_BadShape, N_BadShape, bs_BadShape, _, sn_BadShape, sub_BadShape, ab_BadShape, col_BadShape, dd_BadShape, m0_BadShape, m1_BadShape, m2_BadShape, m3_BadShape, m5_BadShape, xl_BadShape, rfl⟩, sa := xsa_BadShape, ga := xga_BadShape, gg := xgg_BadShape, noN := xno_BadShape, kC := xk_BadShape, exC := xb_BadShape, tyC := xt_BadShape, hdC := xd_BadShape, D := c_BadShape, clsD := ⟨_, _, xl_BadShape, rfl⟩, fI := f_BadShape, qual := "BadShape.__init__", tx := _, S := S_BadShape_init, oc := oc_BadShape, od := od_BadShape, kV := kV_BadShape, doc := dc_BadShape, pm := pm_BadShape, an := an_BadShape, cda := cda_BadShape, ct := ct_BadShape, osl := osl_BadShape, cc := cc_BadShape, cl := cl_BadShape, cld := cld_BadShape, csl := csl_BadShape, ccl := ccl_BadShape, cdd := cdd_BadShape, vs := vs_BadShape, ccs := ccs_BadShape, file := file_BadShape, tf := tf_BadShape, q1 := _, q2 := _, q3 := _, q4 := _, q5 := _, q6 := _, q7 := _, q8 := _, q9 := _, q10 := _, j := _, pl := _, iC := xi_BadShape, tI := xf_BadShape, lI := xfl_BadShape, cI := xci_BadShape, lcc := xcc_BadShape, lcd := xcd_BadShape, hvs := xvs_BadShape, hfile := xfi_BadShape, hpar := ⟨_, rfl, rfl⟩, hbody := rfl, hbind := fun _ _ => rfl, hev := fun _ _ => rfl, hk := rfl, hco := rfl, hgen := rfl, hks := rfl, hkc := rfl, hself := rfl, hfl := rfl, hcell := by decide +kernel, nf := by decide +kernel, top := by decide +kernel, sup := PySem.W.mg_none_of X G xz_super, opq := x_opq, nxt := xnx_BadShape, slf := xsl_BadShape, sub := xsu_BadShape }
  have XT_UnknownMark : PySem.WX.ExcTxt PP K mg "UnknownMark" "mark" c_UnknownMark := { gC := PySem.W.mg_of X G gc_UnknownMark, cls := ⟨nm_UnknownMark, q_UnknownMark, N_UnknownMark, bs_UnknownMark, _, sn_UnknownMark, sub_UnknownMark, ab_UnknownMark, col_UnknownMark, dd_UnknownMark, m0_UnknownMark, m1_UnknownMark, m2_UnknownMark, m3_UnknownMark, m5_UnknownMark, xl_UnknownMark, rfl⟩, sa := xsa_UnknownMark, ga := xga_UnknownMark, gg := xgg_UnknownMark, noN := xno_UnknownMark, kC := xk_UnknownMark, exC := xb_UnknownMark, tyC := xt_UnknownMark, hdC := xd_UnknownMark, D := c_UnknownMark, clsD := ⟨_, _, xl_UnknownMark, rfl⟩, fI := f_UnknownMark, qual := "UnknownMark.__init__", tx := _, S := S_UnknownMark_init, oc := oc_UnknownMark, od := od_UnknownMark, kV := kV_UnknownMark, doc := dc_UnknownMark, pm := pm_UnknownMark, an := an_UnknownMark, cda := cda_UnknownMark, ct := ct_UnknownMark, osl := osl_UnknownMark, cc := cc_UnknownMark, cl := cl_UnknownMark, cld := cld_UnknownMark, csl := csl_UnknownMark, ccl := ccl_UnknownMark, cdd := cdd_UnknownMark, vs := vs_UnknownMark, ccs := ccs_UnknownMark, file := file_UnknownMark, tf := tf_UnknownMark, q1 := _, q2 := _, q3 := _, q4 := _, q5 := _, q6 := _, q7 := _, q8 := _, q9 := _, q10 := _, j := _, pl := _, iC := xi_UnknownMark, tI := xf_UnknownMark, lI := xfl_UnknownMark, cI := xci_UnknownMark, lcc := xcc_UnknownMark, lcd := xcd_UnknownMark, hvs := xvs_UnknownMark, hfile := xfi_UnknownMark, hpar := ⟨_, rfl, rfl⟩, hbody := rfl, hbind := fun _ _ => rfl, hev := fun _ _ => rfl, hk := rfl, hco := rfl, hgen := rfl, hks := rfl, hkc := rfl, hself := rfl, hfl := rfl, hcell := by decide +kernel, nf := by decide +kernel, top := by decide +kernel, sup := PySem.W.mg_none_of X G xz_super, opq := x_opq, nxt := xnx_UnknownMark, slf := xsl_UnknownMark, sub := xsu_UnknownMark }
  have XT_TooLarge : PySem.WX.ExcTxt PP K mg "TooLarge" "most" c_TooLarge := { gC := PySem.W.mg_of X G gc_TooLarge, cls := ⟨nm_TooLarge, q_TooLarge, N_TooLarge, bs_TooLarge, _, sn_TooLarge, sub_TooLarge, ab_TooLarge, col_TooLarge, dd_TooLarge, m0_TooLarge, m1_TooLarge, m2_TooLarge, m3_TooLarge, m5_TooLarge, xl_TooLarge, rfl⟩, sa := xsa_TooLarge, ga := xga_TooLarge, gg := xgg_TooLarge, noN := xno_TooLarge, kC := xk_TooLarge, exC := xb_TooLarge, tyC := xt_TooLarge, hdC := xd_TooLarge, D := c_TooLarge, clsD := ⟨_, _, xl_TooLarge, rfl⟩, fI := f_TooLarge, qual := "TooLarge.__init__", tx := _, S := S_TooLarge_init, oc := oc_TooLarge, od := od_TooLarge, kV := kV_TooLarge, doc := dc_TooLarge, pm := pm_TooLarge, an := an_TooLarge, cda := cda_TooLarge, ct := ct_TooLarge, osl := osl_TooLarge, cc := cc_TooLarge, cl := cl_TooLarge, cld := cld_TooLarge, csl := csl_TooLarge, ccl := ccl_TooLarge, cdd := cdd_TooLarge, vs := vs_TooLarge, ccs := ccs_TooLarge, file := file_TooLarge, tf := tf_TooLarge, q1 := _, q2 := _, q3 := _, q4 := _, q5 := _, q6 := _, q7 := _, q8 := _, q9 := _, q10 := _, j := _, pl := _, iC := xi_TooLarge, tI := xf_TooLarge, lI := xfl_TooLarge, cI := xci_TooLarge, lcc := xcc_TooLarge, lcd := xcd_TooLarge, hvs := xvs_TooLarge, hfile := xfi_TooLarge, hpar := ⟨_, rfl, rfl⟩, hbody := rfl, hbind := fun _ _ => rfl, hev := fun _ _ => rfl, hk := rfl, hco := rfl, hgen := rfl, hks := rfl, hkc := rfl, hself := rfl, hfl := rfl, hcell := by decide +kernel, nf := by decide +kernel, top := by decide +kernel, sup := PySem.W.mg_none_of X G xz_super, opq := x_opq, nxt := xnx_TooLarge, slf := xsl_TooLarge, sub := xsu_TooLarge }
  have XT_BadParents : PySem.WX.ExcTxt PP K mg "BadParents" "mark" c_BadParents := { gC := PySem.W.mg_of X G gc_BadParents, cls := ⟨nm_BadParents, q_BadParents, N_BadParents, bs_BadParents, _, sn_BadParents, sub_BadParents, ab_BadParents, col_BadParents, dd_BadParents, m0_BadParents, m1_BadParents, m2_BadParents, m3_BadParents, m5_BadParents, xl_BadParents, rfl⟩, sa := xsa_BadParents, ga := xga_BadParents, gg := xgg_BadParents, noN := xno_BadParents, kC := xk_BadParents, exC := xb_BadParents, tyC := xt_BadParents, hdC := xd_BadParents, D := c_BadParents, clsD := ⟨_, _, xl_BadParents, rfl⟩, fI := f_BadParents, qual := "BadParents.__init__", tx := _, S := S_BadParents_init, oc := oc_BadParents, od := od_BadParents, kV := kV_BadParents, doc := dc_BadParents, pm := pm_BadParents, an := an_BadParents, cda := cda_BadParents, ct := ct_BadParents, osl := osl_BadParents, cc := cc_BadParents, cl := cl_BadParents, cld := cld_BadParents, csl := csl_BadParents, ccl := ccl_BadParents, cdd := cdd_BadParents, vs := vs_BadParents, ccs := ccs_BadParents, file := file_BadParents, tf := tf_BadParents, q1 := _, q2 := _, q3 := _, q4 := _, q5 := _, q6 := _, q7 := _, q8 := _, q9 := _, q10 := _, j := _, pl := _, iC := xi_BadParents, tI := xf_BadParents, lI := xfl_BadParents, cI := xci_BadParents, lcc := xcc_BadParents, lcd := xcd_BadParents, hvs := xvs_BadParents, hfile := xfi_BadParents, hpar := ⟨_, rfl, rfl⟩, hbody := rfl, hbind := fun _ _ => rfl, hev := fun _ _ => rfl, hk := rfl, hco := rfl, hgen := rfl, hks := rfl, hkc := rfl, hself := rfl, hfl := rfl, hcell := by decide +kernel, nf := by decide +kernel, top := by decide +kernel, sup := PySem.W.mg_none_of X G xz_super, opq := x_opq, nxt := xnx_BadParents, slf := xsl_BadParents, sub := xsu_BadParents }
  have XT_NoThing : PySem.WX.ExcTxt PP K mg "NoThing" "thing" c_NoThing := { gC := PySem.W.mg_of X G gc_NoThing, cls := ⟨nm_NoThing, q_NoThing, N_NoThing, bs_NoThing, _, sn_NoThing, sub_NoThing, ab_NoThing, col_NoThing, dd_NoThing, m0_NoThing, m1_NoThing, m2_NoThing, m3_NoThing, m5_NoThing, xl_NoThing, rfl⟩, sa := xsa_NoThing, ga := xga_NoThing, gg := xgg_NoThing, noN := xno_NoThing, kC := xk_NoThing, exC := xb_NoThing, tyC := xt_NoThing, hdC := xd_NoThing, D := c_NoThing, clsD := ⟨_, _, xl_NoThing, rfl⟩, fI := f_NoThing, qual := "NoThing.__init__", tx := _, S := S_NoThing_init, oc := oc_NoThing, od := od_NoThing, kV := kV_NoThing, doc := dc_NoThing, pm := pm_NoThing, an := an_NoThing, cda := cda_NoThing, ct := ct_NoThing, osl := osl_NoThing, cc := cc_NoThing, cl := cl_NoThing, cld := cld_NoThing, csl := csl_NoThing, ccl := ccl_NoThing, cdd := cdd_NoThing, vs := vs_NoThing, ccs := ccs_NoThing, file := file_NoThing, tf := tf_NoThing, q1 := _, q2 := _, q3 := _, q4 := _, q5 := _, q6 := _, q7 := _, q8 := _, q9 := _, q10 := _, j := _, pl := _, iC := xi_NoThing, tI := xf_NoThing, lI := xfl_NoThing, cI := xci_NoThing, lcc := xcc_NoThing, lcd := xcd_NoThing, hvs := xvs_NoThing, hfile := xfi_NoThing, hpar := ⟨_, rfl, rfl⟩, hbody := rfl, hbind := fun _ _ => rfl, hev := fun _ _ => rfl, hk := rfl, hco := rfl, hgen := rfl, hks := rfl, hkc := rfl, hself := rfl, hfl := rfl, hcell := by decide +kernel, nf := by decide +kernel, top := by decide +kernel, sup := PySem.W.mg_none_of X G xz_super, opq := x_opq, nxt := xnx_NoThing, slf := xsl_NoThing, sub := xsu_NoThing }
  have XT_BadStep : PySem.WX.ExcTxt PP K mg "BadStep" "step" c_BadStep := { gC := PySem.W.mg_of X G gc_BadStep, cls := ⟨nm_BadStep, q_BadStep, N_BadStep, bs_BadStep, _, sn_BadStep, sub_BadStep, ab_BadStep, col_BadStep, dd_BadStep, m0_BadStep, m1_BadStep, m2_BadStep, m3_BadStep, m5_BadStep, xl_BadStep, rfl⟩, sa := xsa_BadStep, ga := xga_BadStep, gg := xgg_BadStep, noN := xno_BadStep, kC := xk_BadStep, exC := xb_BadStep, tyC := xt_BadStep, hdC := xd_BadStep, D := c_BadStep, clsD := ⟨_, _, xl_BadStep, rfl⟩, fI := f_BadStep, qual := "BadStep.__init__", tx := _, S := S_BadStep_init, oc := oc_BadStep, od := od_BadStep, kV := kV_BadStep, doc := dc_BadStep, pm := pm_BadStep, an := an_BadStep, cda := cda_BadStep, ct := ct_BadStep, osl := osl_BadStep, cc := cc_BadStep, cl := cl_BadStep, cld := cld_BadStep, csl := csl_BadStep, ccl := ccl_BadStep, cdd := cdd_BadStep, vs := vs_BadStep, ccs := ccs_BadStep, file := file_BadStep, tf := tf_BadStep, q1 := _, q2 := _, q3 := _, q4 := _, q5 := _, q6 := _, q7 := _, q8 := _, q9 := _, q10 := _, j := _, pl := _, iC := xi_BadStep, tI := xf_BadStep, lI := xfl_BadStep, cI := xci_BadStep, lcc := xcc_BadStep, lcd := xcd_BadStep, hvs := xvs_BadStep, hfile := xfi_BadStep, hpar := ⟨_, rfl, rfl⟩, hbody := rfl, hbind := fun _ _ => rfl, hev := fun _ _ => rfl, hk := rfl, hco := rfl, hgen := rfl, hks := rfl, hkc := rfl, hself := rfl, hfl := rfl, hcell := by decide +kernel, nf := by decide +kernel, top := by decide +kernel, sup := PySem.W.mg_none_of X G xz_super, opq := x_opq, nxt := xnx_BadStep, slf := xsl_BadStep, sub := xsu_BadStep }
  have XT_Refused : PySem.WX.ExcTxt PP K mg "Refused" "step" c_Refused := { gC := PySem.W.mg_of X G gc_Refused, cls := ⟨nm_Refused, q_Refused, N_Refused, bs_Refused, _, sn_Refused, sub_Refused, ab_Refused, col_Refused, dd_Refused, m0_Refused, m1_Refused, m2_Refused, m3_Refused, m5_Refused, xl_Refused, rfl⟩, sa := xsa_Refused, ga := xga_Refused, gg := xgg_Refused, noN := xno_Refused, kC := xk_Refused, exC := xb_Refused, tyC := xt_Refused, hdC := xd_Refused, D := c_Refused, clsD := ⟨_, _, xl_Refused, rfl⟩, fI := f_Refused, qual := "Refused.__init__", tx := _, S := S_Refused_init, oc := oc_Refused, od := od_Refused, kV := kV_Refused, doc := dc_Refused, pm := pm_Refused, an := an_Refused, cda := cda_Refused, ct := ct_Refused, osl := osl_Refused, cc := cc_Refused, cl := cl_Refused, cld := cld_Refused, csl := csl_Refused, ccl := ccl_Refused, cdd := cdd_Refused, vs := vs_Refused, ccs := ccs_Refused, file := file_Refused, tf := tf_Refused, q1 := _, q2 := _, q3 := _, q4 := _, q5 := _, q6 := _, q7 := _, q8 := _, q9 := _, q10 := _, j := _, pl := _, iC := xi_Refused, tI := xf_Refused, lI := xfl_Refused, cI := xci_Refused, lcc := xcc_Refused, lcd := xcd_Refused, hvs := xvs_Refused, hfile := xfi_Refused, hpar := ⟨_, rfl, rfl⟩, hbody := rfl, hbind := fun _ _ => rfl, hev := fun _ _ => rfl, hk := rfl, hco := rfl, hgen := rfl, hks := rfl, hkc := rfl, hself := rfl, hfl := rfl, hcell := by decide +kernel, nf := by decide +kernel, top := by decide +kernel, sup := PySem.W.mg_none_of X G xz_super, opq := x_opq, nxt := xnx_Refused, slf := xsl_Refused, sub := xsu_Refused }
  have XT_LockedBefore : PySem.WX.ExcTxt PP K mg "LockedBefore" "step" c_LockedBefore := { gC := PySem.W.mg_of X G gc_LockedBefore, cls := ⟨nm_LockedBefore, q_LockedBefore, N_LockedBefore, bs_LockedBefore, _, sn_LockedBefore, sub_LockedBefore, ab_LockedBefore, col_LockedBefore, dd_LockedBefore, m0_LockedBefore, m1_LockedBefore, m2_LockedBefore, m3_LockedBefore, m5_LockedBefore, xl_LockedBefore, rfl⟩, sa := xsa_LockedBefore, ga := xga_LockedBefore, gg := xgg_LockedBefore, noN := xno_LockedBefore, kC := xk_LockedBefore, exC := xb_LockedBefore, tyC := xt_LockedBefore, hdC := xd_LockedBefore, D := c_Refused, clsD := ⟨_, _, xl_Refused, rfl⟩, fI := f_LockedBefore, qual := "Refused.__init__", tx := _, S := S_Refused_init, oc := oc_LockedBefore, od := od_LockedBefore, kV := kV_LockedBefore, doc := dc_LockedBefore, pm := pm_LockedBefore, an := an_LockedBefore, cda := cda_LockedBefore, ct := ct_LockedBefore, osl := osl_LockedBefore, cc := cc_LockedBefore, cl := cl_LockedBefore, cld := cld_LockedBefore, csl := csl_LockedBefore, ccl := ccl_LockedBefore, cdd := cdd_LockedBefore, vs := vs_LockedBefore, ccs := ccs_LockedBefore, file := file_LockedBefore, tf := tf_LockedBefore, q1 := _, q2 := _, q3 := _, q4 := _, q5 := _, q6 := _, q7 := _, q8 := _, q9 := _, q10 := _, j := _, pl := _, iC := xi_LockedBefore, tI := xf_LockedBefore, lI := xfl_LockedBefore, cI := xci_LockedBefore, lcc := xcc_LockedBefore, lcd := xcd_LockedBefore, hvs := xvs_LockedBefore, hfile := xfi_LockedBefore, hpar := ⟨_, rfl, rfl⟩, hbody := rfl, hbind := fun _ _ => rfl, hev := fun _ _ => rfl, hk := rfl, hco := rfl, hgen := rfl, hks := rfl, hkc := rfl, hself := rfl, hfl := rfl, hcell := by decide +kernel, nf := by decide +kernel, top := by decide +kernel, sup := PySem.W.mg_none_of X G xz_super, opq := x_opq, nxt := xnx_LockedBefore, slf := xsl_LockedBefore, sub := xsu_LockedBefore }
  have XT_WrongMode : PySem.WX.ExcTxt PP K mg "WrongMode" "step" c_WrongMode := { gC := PySem.W.mg_of X G gc_WrongMode, cls := ⟨nm_WrongMode, q_WrongMode, N_WrongMode, bs_WrongMode, _, sn_WrongMode, sub_WrongMode, ab_WrongMode, col_WrongMode, dd_WrongMode, m0_WrongMode, m1_WrongMode, m2_WrongMode, m3_WrongMode, m5_WrongMode, xl_WrongMode, rfl⟩, sa := xsa_WrongMode, ga := xga_WrongMode, gg := xgg_WrongMode, noN := xno_WrongMode, kC := xk_WrongMode, exC := xb_WrongMode, tyC := xt_WrongMode, hdC := xd_WrongMode, D := c_Refused, clsD := ⟨_, _, xl_Refused, rfl⟩, fI := f_WrongMode, qual := "Refused.__init__", tx := _, S := S_Refused_init, oc := oc_WrongMode, od := od_WrongMode, kV := kV_WrongMode, doc := dc_WrongMode, pm := pm_WrongMode, an := an_WrongMode, cda := cda_WrongMode, ct := ct_WrongMode, osl := osl_WrongMode, cc := cc_WrongMode, cl := cl_WrongMode, cld := cld_WrongMode, csl := csl_WrongMode, ccl := ccl_WrongMode, cdd := cdd_WrongMode, vs := vs_WrongMode, ccs := ccs_WrongMode, file := file_WrongMode, tf := tf_WrongMode, q1 := _, q2 := _, q3 := _, q4 := _, q5 := _, q6 := _, q7 := _, q8 := _, q9 := _, q10 := _, j := _, pl := _, iC := xi_WrongMode, tI := xf_WrongMode, lI := xfl_WrongMode, cI := xci_WrongMode, lcc := xcc_WrongMode, lcd := xcd_WrongMode, hvs := xvs_WrongMode, hfile := xfi_WrongMode, hpar := ⟨_, rfl, rfl⟩, hbody := rfl, hbind := fun _ _ => rfl, hev := fun _ _ => rfl, hk := rfl, hco := rfl, hgen := rfl, hks := rfl, hkc := rfl, hself := rfl, hfl := rfl, hcell := by decide +kernel, nf := by decide +kernel, top := by decide +kernel, sup := PySem.W.mg_none_of X G xz_super, opq := x_opq, nxt := xnx_WrongMode, slf := xsl_WrongMode, sub := xsu_WrongMode }
  have XT_NotHeld : PySem.WX.ExcTxt PP K mg "NotHeld" "step" c_NotHeld := { gC := PySem.W.mg_of X G gc_NotHeld, cls := ⟨nm_NotHeld, q_NotHeld, N_NotHeld, bs_NotHeld, _, sn_NotHeld, sub_NotHeld, ab_NotHeld, col_NotHeld, dd_NotHeld, m0_NotHeld, m1_NotHeld, m2_NotHeld, m3_NotHeld, m5_NotHeld, xl_NotHeld, rfl⟩, sa := xsa_NotHeld, ga := xga_NotHeld, gg := xgg_NotHeld, noN := xno_NotHeld, kC := xk_NotHeld, exC := xb_NotHeld, tyC := xt_NotHeld, hdC := xd_NotHeld, D := c_Refused, clsD := ⟨_, _, xl_Refused, rfl⟩, fI := f_NotHeld, qual := "Refused.__init__", tx := _, S := S_Refused_init, oc := oc_NotHeld, od := od_NotHeld, kV := kV_NotHeld, doc := dc_NotHeld, pm := pm_NotHeld, an := an_NotHeld, cda := cda_NotHeld, ct := ct_NotHeld, osl := osl_NotHeld, cc := cc_NotHeld, cl := cl_NotHeld, cld := cld_NotHeld, csl := csl_NotHeld, ccl := ccl_NotHeld, cdd := cdd_NotHeld, vs := vs_NotHeld, ccs := ccs_NotHeld, file := file_NotHeld, tf := tf_NotHeld, q1 := _, q2 := _, q3 := _, q4 := _, q5 := _, q6 := _, q7 := _, q8 := _, q9 := _, q10 := _, j := _, pl := _, iC := xi_NotHeld, tI := xf_NotHeld, lI := xfl_NotHeld, cI := xci_NotHeld, lcc := xcc_NotHeld, lcd := xcd_NotHeld, hvs := xvs_NotHeld, hfile := xfi_NotHeld, hpar := ⟨_, rfl, rfl⟩, hbody := rfl, hbind := fun _ _ => rfl, hev := fun _ _ => rfl, hk := rfl, hco := rfl, hgen := rfl, hks := rfl, hkc := rfl, hself := rfl, hfl := rfl, hcell := by decide +kernel, nf := by decide +kernel, top := by decide +kernel, sup := PySem.W.mg_none_of X G xz_super, opq := x_opq, nxt := xnx_NotHeld, slf := xsl_NotHeld, sub := xsu_NotHeld }
  let T : Txt K mg := {
    a_sound_step := f_sound_step,
    fd_sound_step := _,
    F_sound_step := fun_mk (st := S_sound_step) l_sound_step c_sound_step k_sound_step,
    b_sound_step := (fun_mk (st := S_sound_step) l_sound_step c_sound_step k_sound_step).binds (ps := ["step"]) fun _ _ _ _ _ _ us hl => match us, hl with | [_], _ => rfl,
    g_sound_step := PySem.W.mg_of X G a_sound_step,
    a_Program_init := f_Program_init,
    fd_Program_init := _,
    F_Program_init := fun_mk (st := S_Program_init) l_Program_init c_Program_init k_Program_init,
    bs_Program_init := StX.bind_star1 (B := fun us => bindArgs (PySem.W.fnOf "__init__" "Program.__init__" (defArgs S_Program_init) (defBody S_Program_init) (defScope S_Program_init) .none kV_Program_init dc_Program_init pm_Program_init an_Program_init cd_Program_init ct_Program_init) ⟨us, []⟩) (fun a => rfl) (fun a r rs => rfl),
    a_Program_iter := f_Program_iter,
    fd_Program_iter := _,
    F_Program_iter := fun_mk (st := S_Program_iter) l_Program_iter c_Program_iter k_Program_iter,
    b_Program_iter := (fun_mk (st := S_Program_iter) l_Program_iter c_Program_iter k_Program_iter).binds (ps := ["self"]) fun _ _ _ _ _ _ us hl => match us, hl with | [_], _ => rfl,
    a_Program_add := f_Program_add,
    fd_Program_add := _,
    F_Program_add := fun_mk (st := S_Program_add) l_Program_add c_Program_add k_Program_add,
    b_Program_add := (fun_mk (st := S_Program_add) l_Program_add c_Program_add k_Program_add).binds (ps := ["self", "other"]) fun _ _ _ _ _ _ us hl => match us, hl with | [_, _], _ => rfl,
    a_Standing_init := f_Standing_init,
    fd_Standing_init := _,
    F_Standing_init := fun_mk (st := S_Standing_init) l_Standing_init c_Standing_init k_Standing_init,
    b_Standing_init := (fun_mk (st := S_Standing_init) l_Standing_init c_Standing_init k_Standing_init).binds (ps := ["self", "web"]) fun _ _ _ _ _ _ us hl => match us, hl with | [_, _], _ => rfl,
    a_Standing_check := f_Standing_check,
    fd_Standing_check := _,
    F_Standing_check := fun_mk (st := S_Standing_check) l_Standing_check c_Standing_check k_Standing_check,
    b_Standing_check := (fun_mk (st := S_Standing_check) l_Standing_check c_Standing_check k_Standing_check).binds (ps := ["self", "step"]) fun _ _ _ _ _ _ us hl => match us, hl with | [_, _], _ => rfl,
    a_Standing_take := f_Standing_take,
    fd_Standing_take := _,
    F_Standing_take := fun_mk (st := S_Standing_take) l_Standing_take c_Standing_take k_Standing_take,
    b_Standing_take := (fun_mk (st := S_Standing_take) l_Standing_take c_Standing_take k_Standing_take).binds (ps := ["self", "step"]) fun _ _ _ _ _ _ us hl => match us, hl with | [_, _], _ => rfl,
    a_Standing_run := f_Standing_run,
    fd_Standing_run := _,
    F_Standing_run := fun_mk (st := S_Standing_run) l_Standing_run c_Standing_run k_Standing_run,
    b_Standing_run := (fun_mk (st := S_Standing_run) l_Standing_run c_Standing_run k_Standing_run).binds (ps := ["self", "steps"]) fun _ _ _ _ _ _ us hl => match us, hl with | [_, _], _ => rfl,
    a_Standing_begun := f_Standing_begun,
    fd_Standing_begun := _,
    F_Standing_begun := fun_mk (st := S_Standing_begun) l_Standing_begun c_Standing_begun k_Standing_begun,
    b_Standing_begun := (fun_mk (st := S_Standing_begun) l_Standing_begun c_Standing_begun k_Standing_begun).binds (ps := ["self"]) fun _ _ _ _ _ _ us hl => match us, hl with | [_], _ => rfl,
    a_Standing_loose := f_Standing_loose,
    fd_Standing_loose := _,
    F_Standing_loose := fun_mk (st := S_Standing_loose) l_Standing_loose c_Standing_loose k_Standing_loose,
    b_Standing_loose := (fun_mk (st := S_Standing_loose) l_Standing_loose c_Standing_loose k_Standing_loose).binds (ps := ["self"]) fun _ _ _ _ _ _ us hl => match us, hl with | [_], _ => rfl,
    a_Standing_holding := f_Standing_holding,
    fd_Standing_holding := _,
    F_Standing_holding := fun_mk (st := S_Standing_holding) l_Standing_holding c_Standing_holding k_Standing_holding,
    b_Standing_holding := (fun_mk (st := S_Standing_holding) l_Standing_holding c_Standing_holding k_Standing_holding).binds (ps := ["self"]) fun _ _ _ _ _ _ us hl => match us, hl with | [_], _ => rfl,
    a_Standing_held_mode := f_Standing_held_mode,
    fd_Standing_held_mode := _,
    F_Standing_held_mode := fun_mk (st := S_Standing_held_mode) l_Standing_held_mode c_Standing_held_mode k_Standing_held_mode,
    b_Standing_held_mode := (fun_mk (st := S_Standing_held_mode) l_Standing_held_mode c_Standing_held_mode k_Standing_held_mode).binds (ps := ["self", "thing"]) fun _ _ _ _ _ _ us hl => match us, hl with | [_, _], _ => rfl,
    a_Standing_locked_mode := f_Standing_locked_mode,
    fd_Standing_locked_mode := _,
    F_Standing_locked_mode := fun_mk (st := S_Standing_locked_mode) l_Standing_locked_mode c_Standing_locked_mode k_Standing_locked_mode,
    b_Standing_locked_mode := (fun_mk (st := S_Standing_locked_mode) l_Standing_locked_mode c_Standing_locked_mode k_Standing_locked_mode).binds (ps := ["self", "thing"]) fun _ _ _ _ _ _ us hl => match us, hl with | [_, _], _ => rfl,
    a_Standing_counts := f_Standing_counts,
    fd_Standing_counts := _,
    F_Standing_counts := fun_mk (st := S_Standing_counts) l_Standing_counts c_Standing_counts k_Standing_counts,
    b_Standing_counts := (fun_mk (st := S_Standing_counts) l_Standing_counts c_Standing_counts k_Standing_counts).binds (ps := ["self", "parents"]) fun _ _ _ _ _ _ us hl => match us, hl with | [_, _], _ => rfl,
    a_Standing_copy := f_Standing_copy,
    fd_Standing_copy := _,
    F_Standing_copy := fun_mk (st := S_Standing_copy) l_Standing_copy c_Standing_copy k_Standing_copy,
    b_Standing_copy := (fun_mk (st := S_Standing_copy) l_Standing_copy c_Standing_copy k_Standing_copy).binds (ps := ["self"]) fun _ _ _ _ _ _ us hl => match us, hl with | [_], _ => rfl,
    a_is_mark := f_is_mark,
    fd_is_mark := _,
    F_is_mark := fun_mk (st := S_is_mark) l_is_mark c_is_mark k_is_mark,
    b_is_mark := (fun_mk (st := S_is_mark) l_is_mark c_is_mark k_is_mark).binds (ps := ["text"]) fun _ _ _ _ _ _ us hl => match us, hl with | [_], _ => rfl,
    g_is_mark := PySem.W.mg_of X G a_is_mark,
    a_sound_row := f_sound_row,
    fd_sound_row := _,
    F_sound_row := fun_mk (st := S_sound_row) l_sound_row c_sound_row k_sound_row,
    b_sound_row := (fun_mk (st := S_sound_row) l_sound_row c_sound_row k_sound_row).binds (ps := ["row", "before"]) fun _ _ _ _ _ _ us hl => match us, hl with | [_, _], _ => rfl,
    g_sound_row := PySem.W.mg_of X G a_sound_row,
    a_barren := f_barren,
    fd_barren := _,
    F_barren := fun_mk (st := S_barren) l_barren c_barren k_barren,
    b_barren := (fun_mk (st := S_barren) l_barren c_barren k_barren).binds (ps := ["rows"]) fun _ _ _ _ _ _ us hl => match us, hl with | [_], _ => rfl,
    g_barren := PySem.W.mg_of X G a_barren,
    a_Shape_init := f_Shape_init,
    fd_Shape_init := _,
    F_Shape_init := fun_mk (st := S_Shape_init) l_Shape_init c_Shape_init k_Shape_init,
    bs_Shape_init := StX.bind_star1 (B := fun us => bindArgs (PySem.W.fnOf "__init__" "Shape.__init__" (defArgs S_Shape_init) (defBody S_Shape_init) (defScope S_Shape_init) .none kV_Shape_init dc_Shape_init pm_Shape_init an_Shape_init cd_Shape_init ct_Shape_init) ⟨us, []⟩) (fun a => rfl) (fun a r rs => rfl),
    a_Shape_getitem := f_Shape_getitem,
    fd_Shape_getitem := _,
    F_Shape_getitem := fun_mk (st := S_Shape_getitem) l_Shape_getitem c_Shape_getitem k_Shape_getitem,
    b_Shape_getitem := (fun_mk (st := S_Shape_getitem) l_Shape_getitem c_Shape_getitem k_Shape_getitem).binds (ps := ["self", "mark"]) fun _ _ _ _ _ _ us hl => match us, hl with | [_, _], _ => rfl,
    a_Shape_modes_of := f_Shape_modes_of,
    fd_Shape_modes_of := _,
    F_Shape_modes_of := fun_mk (st := S_Shape_modes_of) l_Shape_modes_of c_Shape_modes_of k_Shape_modes_of,
    b_Shape_modes_of := (fun_mk (st := S_Shape_modes_of) l_Shape_modes_of c_Shape_modes_of k_Shape_modes_of).binds (ps := ["self", "mark"]) fun _ _ _ _ _ _ us hl => match us, hl with | [_, _], _ => rfl,
    a_suitable := f_suitable,
    fd_suitable := _,
    F_suitable := fun_mk (st := S_suitable) l_suitable c_suitable k_suitable,
    b_suitable := (fun_mk (st := S_suitable) l_suitable c_suitable k_suitable).binds (ps := ["web", "row", "parents"]) fun _ _ _ _ _ _ us hl => match us, hl with | [_, _, _], _ => rfl,
    g_suitable := PySem.W.mg_of X G a_suitable,
    a_Web_init := f_Web_init,
    fd_Web_init := _,
    F_Web_init := fun_mk (st := S_Web_init) l_Web_init c_Web_init k_Web_init,
    b_Web_init := (fun_mk (st := S_Web_init) l_Web_init c_Web_init k_Web_init).binds (ps := ["self", "shape"]) fun _ _ _ _ _ _ us hl => match us, hl with | [_, _], _ => rfl,
    a_Web_put := f_Web_put,
    fd_Web_put := _,
    F_Web_put := fun_mk (st := S_Web_put) l_Web_put c_Web_put k_Web_put,
    bs_Web_put := StX.bind_star2 (B := fun us => bindArgs (PySem.W.fnOf "put" "Web.put" (defArgs S_Web_put) (defBody S_Web_put) (defScope S_Web_put) .none kV_Web_put dc_Web_put pm_Web_put an_Web_put cd_Web_put ct_Web_put) ⟨us, []⟩) (fun a b => rfl) (fun a b r rs => rfl),
    a_Web_getitem := f_Web_getitem,
    fd_Web_getitem := _,
    F_Web_getitem := fun_mk (st := S_Web_getitem) l_Web_getitem c_Web_getitem k_Web_getitem,
    b_Web_getitem := (fun_mk (st := S_Web_getitem) l_Web_getitem c_Web_getitem k_Web_getitem).binds (ps := ["self", "thing"]) fun _ _ _ _ _ _ us hl => match us, hl with | [_, _], _ => rfl,
    a_Web_contains := f_Web_contains,
    fd_Web_contains := _,
    F_Web_contains := fun_mk (st := S_Web_contains) l_Web_contains c_Web_contains k_Web_contains,
    b_Web_contains := (fun_mk (st := S_Web_contains) l_Web_contains c_Web_contains k_Web_contains).binds (ps := ["self", "thing"]) fun _ _ _ _ _ _ us hl => match us, hl with | [_, _], _ => rfl,
    a_Web_mark_of := f_Web_mark_of,
    fd_Web_mark_of := _,
    F_Web_mark_of := fun_mk (st := S_Web_mark_of) l_Web_mark_of c_Web_mark_of k_Web_mark_of,
    b_Web_mark_of := (fun_mk (st := S_Web_mark_of) l_Web_mark_of c_Web_mark_of k_Web_mark_of).binds (ps := ["self", "thing"]) fun _ _ _ _ _ _ us hl => match us, hl with | [_, _], _ => rfl,
    a__law_draws := f__law_draws,
    fd__law_draws := _,
    F__law_draws := fun_mk (st := S__law_draws) l__law_draws c__law_draws k__law_draws,
    b__law_draws := (fun_mk (st := S__law_draws) l__law_draws c__law_draws k__law_draws).binds (ps := ["_law_script"]) fun _ _ _ _ _ _ us hl => match us, hl with | [_], _ => rfl,
    g__law_draws := PySem.W.mg_of X G a__law_draws,
    a__law_take := f__law_take,
    fd__law_take := _,
    F__law_take := fun_mk (st := S__law_take) l__law_take c__law_take k__law_take,
    b__law_take := (fun_mk (st := S__law_take) l__law_take c__law_take k__law_take).binds (ps := ["_law_draws_here", "_law_at", "_law_size"]) fun _ _ _ _ _ _ us hl => match us, hl with | [_, _, _], _ => rfl,
    g__law_take := PySem.W.mg_of X G a__law_take,
    a__law_same := f__law_same,
    fd__law_same := _,
    F__law_same := fun_mk (st := S__law_same) l__law_same c__law_same k__law_same,
    b__law_same := (fun_mk (st := S__law_same) l__law_same c__law_same k__law_same).binds (ps := ["_law_actual", "_law_expected"]) fun _ _ _ _ _ _ us hl => match us, hl with | [_, _], _ => rfl,
    g__law_same := PySem.W.mg_of X G a__law_same,
    a__law_marks := f__law_marks,
    fd__law_marks := _,
    F__law_marks := fun_mk (st := S__law_marks) l__law_marks c__law_marks k__law_marks,
    b__law_marks := (fun_mk (st := S__law_marks) l__law_marks c__law_marks k__law_marks).binds (ps := ["_law_draws_here", "_law_at", "_law_count"]) fun _ _ _ _ _ _ us hl => match us, hl with | [_, _, _], _ => rfl,
    g__law_marks := PySem.W.mg_of X G a__law_marks,
    a__law_rows := f__law_rows,
    fd__law_rows := _,
    F__law_rows := fun_mk (st := S__law_rows) l__law_rows c__law_rows k__law_rows,
    b__law_rows := (fun_mk (st := S__law_rows) l__law_rows c__law_rows k__law_rows).binds (ps := ["_law_draws_here", "_law_at", "_law_exclusive"]) fun _ _ _ _ _ _ us hl => match us, hl with | [_, _, _], _ => rfl,
    g__law_rows := PySem.W.mg_of X G a__law_rows,
    a__law_things := f__law_things,
    fd__law_things := _,
    F__law_things := fun_mk (st := S__law_things) l__law_things c__law_things k__law_things,
    b__law_things := (fun_mk (st := S__law_things) l__law_things c__law_things k__law_things).binds (ps := ["_law_draws_here", "_law_at", "_law_rows_here", "_law_count"]) fun _ _ _ _ _ _ us hl => match us, hl with | [_, _, _, _], _ => rfl,
    g__law_things := PySem.W.mg_of X G a__law_things,
    a__law_counts := f__law_counts,
    fd__law_counts := _,
    F__law_counts := fun_mk (st := S__law_counts) l__law_counts c__law_counts k__law_counts,
    b__law_counts := (fun_mk (st := S__law_counts) l__law_counts c__law_counts k__law_counts).binds (ps := ["_law_state", "_law_parents"]) fun _ _ _ _ _ _ us hl => match us, hl with | [_, _], _ => rfl,
    g__law_counts := PySem.W.mg_of X G a__law_counts,
    a__law_do := f__law_do,
    fd__law_do := _,
    F__law_do := fun_mk (st := S__law_do) l__law_do c__law_do k__law_do,
    b__law_do := (fun_mk (st := S__law_do) l__law_do c__law_do k__law_do).binds (ps := ["_law_state", "_law_step"]) fun _ _ _ _ _ _ us hl => match us, hl with | [_, _], _ => rfl,
    g__law_do := PySem.W.mg_of X G a__law_do,
    a__law_shared := f__law_shared,
    fd__law_shared := _,
    F__law_shared := fun_mk (st := S__law_shared) l__law_shared c__law_shared k__law_shared,
    b__law_shared := (fun_mk (st := S__law_shared) l__law_shared c__law_shared k__law_shared).binds (ps := ["_law_rows_here", "_law_mark"]) fun _ _ _ _ _ _ us hl => match us, hl with | [_, _], _ => rfl,
    g__law_shared := PySem.W.mg_of X G a__law_shared,
    a__law_shape := f__law_shape,
    fd__law_shape := _,
    F__law_shape := fun_mk (st := S__law_shape) l__law_shape c__law_shape k__law_shape,
    b__law_shape := (fun_mk (st := S__law_shape) l__law_shape c__law_shape k__law_shape).binds (ps := ["_law_rows_here"]) fun _ _ _ _ _ _ us hl => match us, hl with | [_], _ => rfl,
    g__law_shape := PySem.W.mg_of X G a__law_shape,
    a__law_put := f__law_put,
    fd__law_put := _,
    F__law_put := fun_mk (st := S__law_put) l__law_put c__law_put k__law_put,
    b__law_put := (fun_mk (st := S__law_put) l__law_put c__law_put k__law_put).binds (ps := ["_law_web_here", "_law_mark", "_law_parents"]) fun _ _ _ _ _ _ us hl => match us, hl with | [_, _, _], _ => rfl,
    g__law_put := PySem.W.mg_of X G a__law_put,
    a__law_web := f__law_web,
    fd__law_web := _,
    F__law_web := fun_mk (st := S__law_web) l__law_web c__law_web k__law_web,
    b__law_web := (fun_mk (st := S__law_web) l__law_web c__law_web k__law_web).binds (ps := ["_law_shape_here", "_law_things_here"]) fun _ _ _ _ _ _ us hl => match us, hl with | [_, _], _ => rfl,
    g__law_web := PySem.W.mg_of X G a__law_web,
    a__law_refusal := f__law_refusal,
    fd__law_refusal := _,
    F__law_refusal := fun_mk (st := S__law_refusal) l__law_refusal c__law_refusal k__law_refusal,
    b__law_refusal := (fun_mk (st := S__law_refusal) l__law_refusal c__law_refusal k__law_refusal).binds (ps := ["_law_error"]) fun _ _ _ _ _ _ us hl => match us, hl with | [_], _ => rfl,
    g__law_refusal := PySem.W.mg_of X G a__law_refusal,
    a__law_due := f__law_due,
    fd__law_due := _,
    F__law_due := fun_mk (st := S__law_due) l__law_due c__law_due k__law_due,
    b__law_due := (fun_mk (st := S__law_due) l__law_due c__law_due k__law_due).binds (ps := ["_law_rows_here", "_law_things_here", "_law_state", "_law_step"]) fun _ _ _ _ _ _ us hl => match us, hl with | [_, _, _, _], _ => rfl,
    g__law_due := PySem.W.mg_of X G a__law_due,
    a__law_reads := f__law_reads,
    fd__law_reads := _,
    F__law_reads := fun_mk (st := S__law_reads) l__law_reads c__law_reads k__law_reads,
    b__law_reads := (fun_mk (st := S__law_reads) l__law_reads c__law_reads k__law_reads).binds (ps := ["_law_standing", "_law_state", "_law_order"]) fun _ _ _ _ _ _ us hl => match us, hl with | [_, _, _], _ => rfl,
    g__law_reads := PySem.W.mg_of X G a__law_reads,
    a__law_choices := f__law_choices,
    fd__law_choices := _,
    F__law_choices := fun_mk (st := S__law_choices) l__law_choices c__law_choices k__law_choices,
    b__law_choices := (fun_mk (st := S__law_choices) l__law_choices c__law_choices k__law_choices).binds (ps := ["_law_rows_here", "_law_things_here", "_law_state"]) fun _ _ _ _ _ _ us hl => match us, hl with | [_, _, _], _ => rfl,
    g__law_choices := PySem.W.mg_of X G a__law_choices,
    a__law_row := f__law_row,
    fd__law_row := _,
    F__law_row := fun_mk (st := S__law_row) l__law_row c__law_row k__law_row,
    b__law_row := (fun_mk (st := S__law_row) l__law_row c__law_row k__law_row).binds (ps := ["_law_draws_here", "_law_at", "_law_rows_here", "_law_things_here", "_law_state", "_law_count", "_law_form"]) fun _ _ _ _ _ _ us hl => match us, hl with | [_, _, _, _, _, _, _], _ => rfl,
    g__law_row := PySem.W.mg_of X G a__law_row,
    a__law_walk := f__law_walk,
    fd__law_walk := _,
    F__law_walk := fun_mk (st := S__law_walk) l__law_walk c__law_walk k__law_walk,
    b__law_walk := (fun_mk (st := S__law_walk) l__law_walk c__law_walk k__law_walk).binds (ps := ["_law_rows_here", "_law_things_here", "_law_state", "_law_order", "_law_steps"]) fun _ _ _ _ _ _ us hl => match us, hl with | [_, _, _, _, _], _ => rfl,
    g__law_walk := PySem.W.mg_of X G a__law_walk,
    a__law_run := f__law_run,
    fd__law_run := _,
    F__law_run := fun_mk (st := S__law_run) l__law_run c__law_run k__law_run,
    b__law_run := (fun_mk (st := S__law_run) l__law_run c__law_run k__law_run).binds (ps := ["_law_standing", "_law_steps", "_law_form"]) fun _ _ _ _ _ _ us hl => match us, hl with | [_, _, _], _ => rfl,
    g__law_run := PySem.W.mg_of X G a__law_run,
    a__law_counted := f__law_counted,
    fd__law_counted := _,
    F__law_counted := fun_mk (st := S__law_counted) l__law_counted c__law_counted k__law_counted,
    b__law_counted := (fun_mk (st := S__law_counted) l__law_counted c__law_counted k__law_counted).binds (ps := ["_law_draws_here", "_law_at", "_law_standing", "_law_state"]) fun _ _ _ _ _ _ us hl => match us, hl with | [_, _, _, _], _ => rfl,
    g__law_counted := PySem.W.mg_of X G a__law_counted,
    a_law := fa,
    fd_law := _,
    F_law := fun_mk (st := S_law) l_law c_law k_law,
    b_law := (fun_mk (st := S_law) l_law c_law k_law).binds (ps := ["_law_script"]) fun _ _ _ _ _ _ us hl => match us, hl with | [_], _ => rfl,
    g_law := PySem.W.mg_of X G a_law,
    n_ValueError := PySem.W.mg_none_of X G z_ValueError,
    n_any := PySem.W.mg_none_of X G z_any,
    n_bool := PySem.W.mg_none_of X G z_bool,
    n_enumerate := PySem.W.mg_none_of X G z_enumerate,
    n_int := PySem.W.mg_none_of X G z_int,
    n_isinstance := PySem.W.mg_none_of X G z_isinstance,
    n_iter := PySem.W.mg_none_of X G z_iter,
    n_len := PySem.W.mg_none_of X G z_len,
    n_list := PySem.W.mg_none_of X G z_list,
    n_property := PySem.W.mg_none_of X G z_property,
    n_range := PySem.W.mg_none_of X G z_range,
    n_str := PySem.W.mg_none_of X G z_str,
    n_tuple := PySem.W.mg_none_of X G z_tuple,
    k_DEEDS := q_DEEDS,
    g_DEEDS := PySem.W.mg_of X G aq_DEEDS,
    q_DEEDS := fun H => .inr ⟨_, _, _, lq_DEEDS, rfl, rfl, by show 3 ≤ sizeLine; decide, (.cons ⟨_, rfl⟩ (.cons ⟨_, rfl⟩ (.cons ⟨_, rfl⟩ .nil)))⟩,
    tk_LETTERS := tq_LETTERS,
    g_LETTERS := PySem.W.mg_of X G aq_LETTERS,
    k_MODES := q_MODES,
    g_MODES := PySem.W.mg_of X G aq_MODES,
    q_MODES := fun H => .inr ⟨_, _, _, lq_MODES, rfl, rfl, by show 2 ≤ sizeLine; decide, (.cons ⟨_, rfl⟩ (.cons ⟨_, rfl⟩ .nil))⟩,
    sq_add := ⟨xla, xlr, xta, xtr⟩,
    c_Program := c_Program,
    g_Program := PySem.W.mg_of X G gc_Program,
    cl_Program := ⟨pg_Program, hd_Program, po_Program, sa_Program⟩,
    mk_Program := ⟨mk_Program, a_Program_init, i_Program_init, kc_Program⟩,
    m_Program_iter := ⟨a_Program_iter, i_Program_iter, k_Program_iter⟩,
    m_Program_add := ⟨a_Program_add, i_Program_add, k_Program_add⟩,
    ti_Program := fun _ _ _ _ h => .ins h ⟨pg_Program, hd_Program, po_Program, sa_Program⟩ hca_Program hcn_Program hct_Program hcm_Program,
    kk_Program := if_pos (beq_self_eq_true _),
    ko_Program_list := ko_Program_list,
    ko_Program_tuple := ko_Program_tuple,
    of_Program_add := ⟨sf_Program, a_Program_add, i_Program_add, ⟨_, or_Program_add, .inr ⟨_, rfl⟩⟩, ⟨_, _, ola_Program_add, olr_Program_add, ols_Program_add⟩, ⟨_, _, ota_Program_add, otr_Program_add, ots_Program_add⟩⟩,
    no_Program__steps := no_Program__steps,
    c_Standing := c_Standing,
    g_Standing := PySem.W.mg_of X G gc_Standing,
    cl_Standing := ⟨pg_Standing, hd_Standing, po_Standing, sa_Standing⟩,
    mk_Standing := ⟨mk_Standing, a_Standing_init, i_Standing_init, kc_Standing⟩,
    m_Standing_check := ⟨a_Standing_check, i_Standing_check, k_Standing_check⟩,
    m_Standing_take := ⟨a_Standing_take, i_Standing_take, k_Standing_take⟩,
    m_Standing_run := ⟨a_Standing_run, i_Standing_run, k_Standing_run⟩,
    p_Standing_begun := p_Standing_begun,
    pr_Standing_begun := ⟨pa_Standing_begun, pg_Standing_begun, pt_Standing_begun, ⟨_, pr_Standing_begun⟩⟩,
    p_Standing_loose := p_Standing_loose,
    pr_Standing_loose := ⟨pa_Standing_loose, pg_Standing_loose, pt_Standing_loose, ⟨_, pr_Standing_loose⟩⟩,
    p_Standing_holding := p_Standing_holding,
    pr_Standing_holding := ⟨pa_Standing_holding, pg_Standing_holding, pt_Standing_holding, ⟨_, pr_Standing_holding⟩⟩,
    m_Standing_held_mode := ⟨a_Standing_held_mode, i_Standing_held_mode, k_Standing_held_mode⟩,
    m_Standing_locked_mode := ⟨a_Standing_locked_mode, i_Standing_locked_mode, k_Standing_locked_mode⟩,
    m_Standing_counts := ⟨a_Standing_counts, i_Standing_counts, k_Standing_counts⟩,
    m_Standing_copy := ⟨a_Standing_copy, i_Standing_copy, k_Standing_copy⟩,
    ti_Standing := fun _ _ _ _ h => .ins h ⟨pg_Standing, hd_Standing, po_Standing, sa_Standing⟩ hca_Standing hcn_Standing hct_Standing hcm_Standing,
    kk_Standing := if_pos (beq_self_eq_true _),
    no_Standing_web := no_Standing_web,
    no_Standing__modes := no_Standing__modes,
    no_Standing__holds := no_Standing__holds,
    no_Standing__loose := no_Standing__loose,
    c_Shape := c_Shape,
    g_Shape := PySem.W.mg_of X G gc_Shape,
    cl_Shape := ⟨pg_Shape, hd_Shape, po_Shape, sa_Shape⟩,
    mk_Shape := ⟨mk_Shape, a_Shape_init, i_Shape_init, kc_Shape⟩,
    fi_Shape_getitem := fi_Shape_getitem,
    m_Shape_getitem := ⟨a_Shape_getitem, i_Shape_getitem, k_Shape_getitem⟩,
    m_Shape_modes_of := ⟨a_Shape_modes_of, i_Shape_modes_of, k_Shape_modes_of⟩,
    ti_Shape := fun _ _ _ _ h => .ins h ⟨pg_Shape, hd_Shape, po_Shape, sa_Shape⟩ hca_Shape hcn_Shape hct_Shape hcm_Shape,
    kk_Shape := if_pos (beq_self_eq_true _),
    cr_Shape := ⟨rdc_Shape, gac_Shape⟩,
    tk_Shape_MARKS := ti_Shape_MARKS,
    cv_Shape_MARKS := ⟨fcl_Shape_MARKS, ⟨_, rfl⟩⟩,
    tk_Shape_PARENTS := ti_Shape_PARENTS,
    cv_Shape_PARENTS := ⟨fcl_Shape_PARENTS, ⟨_, rfl⟩⟩,
    no_Shape__listed := no_Shape__listed,
    no_Shape__marks := no_Shape__marks,
    c_Web := c_Web,
    g_Web := PySem.W.mg_of X G gc_Web,
    cl_Web := ⟨pg_Web, hd_Web, po_Web, sa_Web⟩,
    mk_Web := ⟨mk_Web, a_Web_init, i_Web_init, kc_Web⟩,
    m_Web_put := ⟨a_Web_put, i_Web_put, k_Web_put⟩,
    fi_Web_getitem := fi_Web_getitem,
    m_Web_getitem := ⟨a_Web_getitem, i_Web_getitem, k_Web_getitem⟩,
    m_Web_contains := ⟨a_Web_contains, i_Web_contains, k_Web_contains⟩,
    m_Web_mark_of := ⟨a_Web_mark_of, i_Web_mark_of, k_Web_mark_of⟩,
    ti_Web := fun _ _ _ _ h => .ins h ⟨pg_Web, hd_Web, po_Web, sa_Web⟩ hca_Web hcn_Web hct_Web hcm_Web,
    kk_Web := if_pos (beq_self_eq_true _),
    cr_Web := ⟨rdc_Web, gac_Web⟩,
    tk_Web_MOST := ti_Web_MOST,
    cv_Web_MOST := ⟨fcl_Web_MOST, ⟨_, rfl⟩⟩,
    no_Web_shape := no_Web_shape,
    no_Web__rows := no_Web__rows,
    no_Web__numbers := no_Web__numbers,
    c_BadShape := c_BadShape,
    g_BadShape := PySem.W.mg_of X G gc_BadShape,
    c_UnknownMark := c_UnknownMark,
    g_UnknownMark := PySem.W.mg_of X G gc_UnknownMark,
    c_TooLarge := c_TooLarge,
    g_TooLarge := PySem.W.mg_of X G gc_TooLarge,
    c_BadParents := c_BadParents,
    g_BadParents := PySem.W.mg_of X G gc_BadParents,
    c_NoThing := c_NoThing,
    g_NoThing := PySem.W.mg_of X G gc_NoThing,
    c_BadStep := c_BadStep,
    g_BadStep := PySem.W.mg_of X G gc_BadStep,
    c_Refused := c_Refused,
    g_Refused := PySem.W.mg_of X G gc_Refused,
    c_LockedBefore := c_LockedBefore,
    g_LockedBefore := PySem.W.mg_of X G gc_LockedBefore,
    c_WrongMode := c_WrongMode,
    g_WrongMode := PySem.W.mg_of X G gc_WrongMode,
    c_NotHeld := c_NotHeld,
    g_NotHeld := PySem.W.mg_of X G gc_NotHeld,
    c_WebError := c_WebError,
    g_WebError := PySem.W.mg_of X G gc_WebError,
    c_NotAllowed := c_NotAllowed,
    g_NotAllowed := PySem.W.mg_of X G gc_NotAllowed,
    c_Clash := c_Clash,
    g_Clash := PySem.W.mg_of X G gc_Clash,
    em_BadShape_WebError := PySem.W.exm_ref wb_WebError wd_WebError wt_WebError ws_BadShape_WebError,
    kt_BadShape_NoThing := kt_BadShape_NoThing,
    kt_BadShape_BadStep := kt_BadShape_BadStep,
    kt_BadShape_Refused := kt_BadShape_Refused,
    kt_BadShape_LockedBefore := kt_BadShape_LockedBefore,
    kt_BadShape_WrongMode := kt_BadShape_WrongMode,
    kt_BadShape_NotHeld := kt_BadShape_NotHeld,
    kt_BadShape_NotAllowed := kt_BadShape_NotAllowed,
    kt_BadShape_Clash := kt_BadShape_Clash,
    kt_BadShape_ValueError := kt_BadShape_ValueError,
    x_BadShape := XT_BadShape,
    xc_BadShape := ⟨xga_BadShape, xgg_BadShape, xb_BadShape, xd_BadShape, xha_BadShape, x_hn, x_ht, xhm_BadShape⟩,
    xn_BadShape := xno_BadShape,
    em_UnknownMark_WebError := PySem.W.exm_ref wb_WebError wd_WebError wt_WebError ws_UnknownMark_WebError,
    kt_UnknownMark_NoThing := kt_UnknownMark_NoThing,
    kt_UnknownMark_BadStep := kt_UnknownMark_BadStep,
    kt_UnknownMark_Refused := kt_UnknownMark_Refused,
    kt_UnknownMark_LockedBefore := kt_UnknownMark_LockedBefore,
    kt_UnknownMark_WrongMode := kt_UnknownMark_WrongMode,
    kt_UnknownMark_NotHeld := kt_UnknownMark_NotHeld,
    kt_UnknownMark_NotAllowed := kt_UnknownMark_NotAllowed,
    kt_UnknownMark_Clash := kt_UnknownMark_Clash,
    kt_UnknownMark_ValueError := kt_UnknownMark_ValueError,
    x_UnknownMark := XT_UnknownMark,
    xc_UnknownMark := ⟨xga_UnknownMark, xgg_UnknownMark, xb_UnknownMark, xd_UnknownMark, xha_UnknownMark, x_hn, x_ht, xhm_UnknownMark⟩,
    xn_UnknownMark := xno_UnknownMark,
    em_TooLarge_WebError := PySem.W.exm_ref wb_WebError wd_WebError wt_WebError ws_TooLarge_WebError,
    kt_TooLarge_NoThing := kt_TooLarge_NoThing,
    kt_TooLarge_BadStep := kt_TooLarge_BadStep,
    kt_TooLarge_Refused := kt_TooLarge_Refused,
    kt_TooLarge_LockedBefore := kt_TooLarge_LockedBefore,
    kt_TooLarge_WrongMode := kt_TooLarge_WrongMode,
    kt_TooLarge_NotHeld := kt_TooLarge_NotHeld,
    kt_TooLarge_NotAllowed := kt_TooLarge_NotAllowed,
    kt_TooLarge_Clash := kt_TooLarge_Clash,
    kt_TooLarge_ValueError := kt_TooLarge_ValueError,
    x_TooLarge := XT_TooLarge,
    xc_TooLarge := ⟨xga_TooLarge, xgg_TooLarge, xb_TooLarge, xd_TooLarge, xha_TooLarge, x_hn, x_ht, xhm_TooLarge⟩,
    xn_TooLarge := xno_TooLarge,
    em_BadParents_WebError := PySem.W.exm_ref wb_WebError wd_WebError wt_WebError ws_BadParents_WebError,
    kt_BadParents_NoThing := kt_BadParents_NoThing,
    kt_BadParents_BadStep := kt_BadParents_BadStep,
    kt_BadParents_Refused := kt_BadParents_Refused,
    kt_BadParents_LockedBefore := kt_BadParents_LockedBefore,
    kt_BadParents_WrongMode := kt_BadParents_WrongMode,
    kt_BadParents_NotHeld := kt_BadParents_NotHeld,
    kt_BadParents_NotAllowed := kt_BadParents_NotAllowed,
    kt_BadParents_Clash := kt_BadParents_Clash,
    kt_BadParents_ValueError := kt_BadParents_ValueError,
    x_BadParents := XT_BadParents,
    xc_BadParents := ⟨xga_BadParents, xgg_BadParents, xb_BadParents, xd_BadParents, xha_BadParents, x_hn, x_ht, xhm_BadParents⟩,
    xn_BadParents := xno_BadParents,
    em_NoThing_WebError := PySem.W.exm_ref wb_WebError wd_WebError wt_WebError ws_NoThing_WebError,
    kt_NoThing_NoThing := kt_NoThing_NoThing,
    kt_NoThing_BadStep := kt_NoThing_BadStep,
    kt_NoThing_Refused := kt_NoThing_Refused,
    kt_NoThing_LockedBefore := kt_NoThing_LockedBefore,
    kt_NoThing_WrongMode := kt_NoThing_WrongMode,
    kt_NoThing_NotHeld := kt_NoThing_NotHeld,
    kt_NoThing_NotAllowed := kt_NoThing_NotAllowed,
    kt_NoThing_Clash := kt_NoThing_Clash,
    kt_NoThing_ValueError := kt_NoThing_ValueError,
    x_NoThing := XT_NoThing,
    xc_NoThing := ⟨xga_NoThing, xgg_NoThing, xb_NoThing, xd_NoThing, xha_NoThing, x_hn, x_ht, xhm_NoThing⟩,
    xn_NoThing := xno_NoThing,
    em_BadStep_WebError := PySem.W.exm_ref wb_WebError wd_WebError wt_WebError ws_BadStep_WebError,
    kt_BadStep_NoThing := kt_BadStep_NoThing,
    kt_BadStep_BadStep := kt_BadStep_BadStep,
    kt_BadStep_Refused := kt_BadStep_Refused,
    kt_BadStep_LockedBefore := kt_BadStep_LockedBefore,
    kt_BadStep_WrongMode := kt_BadStep_WrongMode,
    kt_BadStep_NotHeld := kt_BadStep_NotHeld,
    kt_BadStep_NotAllowed := kt_BadStep_NotAllowed,
    kt_BadStep_Clash := kt_BadStep_Clash,
    kt_BadStep_ValueError := kt_BadStep_ValueError,
    x_BadStep := XT_BadStep,
    xc_BadStep := ⟨xga_BadStep, xgg_BadStep, xb_BadStep, xd_BadStep, xha_BadStep, x_hn, x_ht, xhm_BadStep⟩,
    xn_BadStep := xno_BadStep,
    em_Refused_WebError := PySem.W.exm_ref wb_WebError wd_WebError wt_WebError ws_Refused_WebError,
    kt_Refused_NoThing := kt_Refused_NoThing,
    kt_Refused_BadStep := kt_Refused_BadStep,
    kt_Refused_Refused := kt_Refused_Refused,
    kt_Refused_LockedBefore := kt_Refused_LockedBefore,
    kt_Refused_WrongMode := kt_Refused_WrongMode,
    kt_Refused_NotHeld := kt_Refused_NotHeld,
    kt_Refused_NotAllowed := kt_Refused_NotAllowed,
    kt_Refused_Clash := kt_Refused_Clash,
    kt_Refused_ValueError := kt_Refused_ValueError,
    x_Refused := XT_Refused,
    xc_Refused := ⟨xga_Refused, xgg_Refused, xb_Refused, xd_Refused, xha_Refused, x_hn, x_ht, xhm_Refused⟩,
    xn_Refused := xno_Refused,
    em_LockedBefore_WebError := PySem.W.exm_ref wb_WebError wd_WebError wt_WebError ws_LockedBefore_WebError,
    kt_LockedBefore_NoThing := kt_LockedBefore_NoThing,
    kt_LockedBefore_BadStep := kt_LockedBefore_BadStep,
    kt_LockedBefore_Refused := kt_LockedBefore_Refused,
    kt_LockedBefore_LockedBefore := kt_LockedBefore_LockedBefore,
    kt_LockedBefore_WrongMode := kt_LockedBefore_WrongMode,
    kt_LockedBefore_NotHeld := kt_LockedBefore_NotHeld,
    kt_LockedBefore_NotAllowed := kt_LockedBefore_NotAllowed,
    kt_LockedBefore_Clash := kt_LockedBefore_Clash,
    kt_LockedBefore_ValueError := kt_LockedBefore_ValueError,
    x_LockedBefore := XT_LockedBefore,
    xc_LockedBefore := ⟨xga_LockedBefore, xgg_LockedBefore, xb_LockedBefore, xd_LockedBefore, xha_LockedBefore, x_hn, x_ht, xhm_LockedBefore⟩,
    xn_LockedBefore := xno_LockedBefore,
    em_WrongMode_WebError := PySem.W.exm_ref wb_WebError wd_WebError wt_WebError ws_WrongMode_WebError,
    kt_WrongMode_NoThing := kt_WrongMode_NoThing,
    kt_WrongMode_BadStep := kt_WrongMode_BadStep,
    kt_WrongMode_Refused := kt_WrongMode_Refused,
    kt_WrongMode_LockedBefore := kt_WrongMode_LockedBefore,
    kt_WrongMode_WrongMode := kt_WrongMode_WrongMode,
    kt_WrongMode_NotHeld := kt_WrongMode_NotHeld,
    kt_WrongMode_NotAllowed := kt_WrongMode_NotAllowed,
    kt_WrongMode_Clash := kt_WrongMode_Clash,
    kt_WrongMode_ValueError := kt_WrongMode_ValueError,
    x_WrongMode := XT_WrongMode,
    xc_WrongMode := ⟨xga_WrongMode, xgg_WrongMode, xb_WrongMode, xd_WrongMode, xha_WrongMode, x_hn, x_ht, xhm_WrongMode⟩,
    xn_WrongMode := xno_WrongMode,
    em_NotHeld_WebError := PySem.W.exm_ref wb_WebError wd_WebError wt_WebError ws_NotHeld_WebError,
    kt_NotHeld_NoThing := kt_NotHeld_NoThing,
    kt_NotHeld_BadStep := kt_NotHeld_BadStep,
    kt_NotHeld_Refused := kt_NotHeld_Refused,
    kt_NotHeld_LockedBefore := kt_NotHeld_LockedBefore,
    kt_NotHeld_WrongMode := kt_NotHeld_WrongMode,
    kt_NotHeld_NotHeld := kt_NotHeld_NotHeld,
    kt_NotHeld_NotAllowed := kt_NotHeld_NotAllowed,
    kt_NotHeld_Clash := kt_NotHeld_Clash,
    kt_NotHeld_ValueError := kt_NotHeld_ValueError,
    x_NotHeld := XT_NotHeld,
    xc_NotHeld := ⟨xga_NotHeld, xgg_NotHeld, xb_NotHeld, xd_NotHeld, xha_NotHeld, x_hn, x_ht, xhm_NotHeld⟩,
    xn_NotHeld := xno_NotHeld }
  exact ⟨T.fd_law, fun s v => .of_eq rfl, fun base _ _ => ok_law T⟩
end My
open PySem PySem.W PyProof.Rows in
set_option maxRecDepth 100000 in
set_option maxHeartbeats 0 in
theorem PySem.Challenge.cw_weblocks_k19_standing_counts_and_copies_holds : PySem.Challenge.rw_weblocks_k19_standing_counts_and_copies.Holds := by
  refine My.hd ?_
  k_fill
  refine L2.walk_of (l := PySem.Challenge.rw_weblocks_k19_standing_counts_and_copies) (n := 63) (k := 20) (x := "_law_script") (CX := fun _ => L2.CX0) (sp := fun w => My.spLaw _) rfl (by decide) rfl ⟨rfl, by decide, by decide⟩ (fun w h Y => PySem.W.kIn_of Y) ?F (fun _ _ a ns hl _ hS => ⟨a, ns, rfl, hS, hl, fun _ => rfl⟩) (fun _ _ _ _ _ h => h)
  case F =>
    intro w mg fa h KX G hmg
    refine' My.all_mk KX G hmg ?gc_Program ?gc_Standing ?gc_Shape ?gc_Web ?a_sound_step ?l_sound_step ?c_sound_step ?k_sound_step ?a_Program_init ?l_Program_init ?c_Program_init ?k_Program_init ?a_Program_iter ?l_Program_iter ?c_Program_iter ?k_Program_iter ?a_Program_add ?l_Program_add ?c_Program_add ?k_Program_add ?a_Standing_init ?l_Standing_init ?c_Standing_init ?k_Standing_init ?a_Standing_check ?l_Standing_check ?c_Standing_check ?k_Standing_check ?a_Standing_take ?l_Standing_take ?c_Standing_take ?k_Standing_take ?a_Standing_run ?l_Standing_run ?c_Standing_run ?k_Standing_run ?pa_Standing_begun ?pr_Standing_begun ?pg_Standing_begun ?pt_Standing_begun ?l_Standing_begun ?c_Standing_begun ?k_Standing_begun ?pa_Standing_loose ?pr_Standing_loose ?pg_Standing_loose ?pt_Standing_loose ?l_Standing_loose ?c_Standing_loose ?k_Standing_loose ?pa_Standing_holding ?pr_Standing_holding ?pg_Standing_holding ?pt_Standing_holding ?l_Standing_holding ?c_Standing_holding ?k_Standing_holding ?a_Standing_held_mode ?l_Standing_held_mode ?c_Standing_held_mode ?k_Standing_held_mode ?a_Standing_locked_mode ?l_Standing_locked_mode ?c_Standing_locked_mode ?k_Standing_locked_mode ?a_Standing_counts ?l_Standing_counts ?c_Standing_counts ?k_Standing_counts ?a_Standing_copy ?l_Standing_copy ?c_Standing_copy ?k_Standing_copy ?a_is_mark ?l_is_mark ?c_is_mark ?k_is_mark ?a_sound_row ?l_sound_row ?c_sound_row ?k_sound_row ?a_barren ?l_barren ?c_barren ?k_barren ?a_Shape_init ?l_Shape_init ?c_Shape_init ?k_Shape_init ?a_Shape_getitem ?l_Shape_getitem ?c_Shape_getitem ?k_Shape_getitem ?a_Shape_modes_of ?l_Shape_modes_of ?c_Shape_modes_of ?k_Shape_modes_of ?a_suitable ?l_suitable ?c_suitable ?k_suitable ?a_Web_init ?l_Web_init ?c_Web_init ?k_Web_init ?a_Web_put ?l_Web_put ?c_Web_put ?k_Web_put ?a_Web_getitem ?l_Web_getitem ?c_Web_getitem ?k_Web_getitem ?a_Web_contains ?l_Web_contains ?c_Web_contains ?k_Web_contains ?a_Web_mark_of ?l_Web_mark_of ?c_Web_mark_of ?k_Web_mark_of ?a__law_draws ?l__law_draws ?c__law_draws ?k__law_draws ?a__law_take ?l__law_take ?c__law_take ?k__law_take ?a__law_same ?l__law_same ?c__law_same ?k__law_same ?a__law_marks ?l__law_marks ?c__law_marks ?k__law_marks ?a__law_rows ?l__law_rows ?c__law_rows ?k__law_rows ?a__law_things ?l__law_things ?c__law_things ?k__law_things ?a__law_counts ?l__law_counts ?c__law_counts ?k__law_counts ?a__law_do ?l__law_do ?c__law_do ?k__law_do ?a__law_shared ?l__law_shared ?c__law_shared ?k__law_shared ?a__law_shape ?l__law_shape ?c__law_shape ?k__law_shape ?a__law_put ?l__law_put ?c__law_put ?k__law_put ?a__law_web ?l__law_web ?c__law_web ?k__law_web ?a__law_refusal ?l__law_refusal ?c__law_refusal ?k__law_refusal ?a__law_due ?l__law_due ?c__law_due ?k__law_due ?a__law_reads ?l__law_reads ?c__law_reads ?k__law_reads ?a__law_choices ?l__law_choices ?c__law_choices ?k__law_choices ?a__law_row ?l__law_row ?c__law_row ?k__law_row ?a__law_walk ?l__law_walk ?c__law_walk ?k__law_walk ?a__law_run ?l__law_run ?c__law_run ?k__law_run ?a__law_counted ?l__law_counted ?c__law_counted ?k__law_counted ?a_law ?l_law ?c_law ?k_law ?z_ValueError ?z_any ?z_bool ?z_enumerate ?z_int ?z_isinstance ?z_iter ?z_len ?z_list ?z_property ?z_range ?z_str ?z_tuple ?aq_DEEDS ?lq_DEEDS ?aq_LETTERS ?aq_MODES ?lq_MODES ?xla ?xlr ?xta ?xtr ?pg_Program ?hd_Program ?po_Program ?sa_Program ?kc_Program ?i_Program_init ?mk_Program ?i_Program_iter ?i_Program_add ?hca_Program ?hcn_Program ?hct_Program ?hcm_Program ?ko_Program_list ?ko_Program_tuple ?sf_Program ?or_Program_add ?ola_Program_add ?olr_Program_add ?ols_Program_add ?ota_Program_add ?otr_Program_add ?ots_Program_add ?no_Program__steps ?pg_Standing ?hd_Standing ?po_Standing ?sa_Standing ?kc_Standing ?i_Standing_init ?mk_Standing ?i_Standing_check ?i_Standing_take ?i_Standing_run ?i_Standing_held_mode ?i_Standing_locked_mode ?i_Standing_counts ?i_Standing_copy ?hca_Standing ?hcn_Standing ?hct_Standing ?hcm_Standing ?no_Standing_web ?no_Standing__modes ?no_Standing__holds ?no_Standing__loose ?pg_Shape ?hd_Shape ?po_Shape ?sa_Shape ?kc_Shape ?i_Shape_init ?mk_Shape ?fi_Shape_getitem ?i_Shape_getitem ?i_Shape_modes_of ?hca_Shape ?hcn_Shape ?hct_Shape ?hcm_Shape ?rdc_Shape ?gac_Shape ?fcl_Shape_MARKS ?fcl_Shape_PARENTS ?no_Shape__listed ?no_Shape__marks ?pg_Web ?hd_Web ?po_Web ?sa_Web ?kc_Web ?i_Web_init ?mk_Web ?i_Web_put ?fi_Web_getitem ?i_Web_getitem ?i_Web_contains ?i_Web_mark_of ?hca_Web ?hcn_Web ?hct_Web ?hcm_Web ?rdc_Web ?gac_Web ?fcl_Web_MOST ?no_Web_shape ?no_Web__rows ?no_Web__numbers ?gc_BadShape ?gc_UnknownMark ?gc_TooLarge ?gc_BadParents ?gc_NoThing ?gc_BadStep ?gc_Refused ?gc_LockedBefore ?gc_WrongMode ?gc_NotHeld ?gc_WebError ?gc_NotAllowed ?gc_Clash ?wb_WebError ?wd_WebError ?wt_WebError ?xz_super ?x_opq ?x_hn ?x_ht ?xl_BadShape ?xsa_BadShape ?xga_BadShape ?xgg_BadShape ?xno_BadShape ?xk_BadShape ?xb_BadShape ?xt_BadShape ?xd_BadShape ?xi_BadShape ?xf_BadShape ?xfl_BadShape ?xci_BadShape ?xcc_BadShape ?xcd_BadShape ?xvs_BadShape ?xfi_BadShape ?xnx_BadShape ?xsl_BadShape ?xsu_BadShape ?xha_BadShape ?xhm_BadShape ?ws_BadShape_WebError ?kt_BadShape_NoThing ?kt_BadShape_BadStep ?kt_BadShape_Refused ?kt_BadShape_LockedBefore ?kt_BadShape_WrongMode ?kt_BadShape_NotHeld ?kt_BadShape_NotAllowed ?kt_BadShape_Clash ?kt_BadShape_ValueError ?xl_UnknownMark ?xsa_UnknownMark ?xga_UnknownMark ?xgg_UnknownMark ?xno_UnknownMark ?xk_UnknownMark ?xb_UnknownMark ?xt_UnknownMark ?xd_UnknownMark ?xi_UnknownMark ?xf_UnknownMark ?xfl_UnknownMark ?xci_UnknownMark ?xcc_UnknownMark ?xcd_UnknownMark ?xvs_UnknownMark ?xfi_UnknownMark ?xnx_UnknownMark ?xsl_UnknownMark ?xsu_UnknownMark ?xha_UnknownMark ?xhm_UnknownMark ?ws_UnknownMark_WebError ?kt_UnknownMark_NoThing ?kt_UnknownMark_BadStep ?kt_UnknownMark_Refused ?kt_UnknownMark_LockedBefore ?kt_UnknownMark_WrongMode ?kt_UnknownMark_NotHeld ?kt_UnknownMark_NotAllowed ?kt_UnknownMark_Clash ?kt_UnknownMark_ValueError ?xl_TooLarge ?xsa_TooLarge ?xga_TooLarge ?xgg_TooLarge ?xno_TooLarge ?xk_TooLarge ?xb_TooLarge ?xt_TooLarge ?xd_TooLarge ?xi_TooLarge ?xf_TooLarge ?xfl_TooLarge ?xci_TooLarge ?xcc_TooLarge ?xcd_TooLarge ?xvs_TooLarge ?xfi_TooLarge ?xnx_TooLarge ?xsl_TooLarge ?xsu_TooLarge ?xha_TooLarge ?xhm_TooLarge ?ws_TooLarge_WebError ?kt_TooLarge_NoThing ?kt_TooLarge_BadStep ?kt_TooLarge_Refused ?kt_TooLarge_LockedBefore ?kt_TooLarge_WrongMode ?kt_TooLarge_NotHeld ?kt_TooLarge_NotAllowed ?kt_TooLarge_Clash ?kt_TooLarge_ValueError ?xl_BadParents ?xsa_BadParents ?xga_BadParents ?xgg_BadParents ?xno_BadParents ?xk_BadParents ?xb_BadParents ?xt_BadParents ?xd_BadParents ?xi_BadParents ?xf_BadParents ?xfl_BadParents ?xci_BadParents ?xcc_BadParents ?xcd_BadParents ?xvs_BadParents ?xfi_BadParents ?xnx_BadParents ?xsl_BadParents ?xsu_BadParents ?xha_BadParents ?xhm_BadParents ?ws_BadParents_WebError ?kt_BadParents_NoThing ?kt_BadParents_BadStep ?kt_BadParents_Refused ?kt_BadParents_LockedBefore ?kt_BadParents_WrongMode ?kt_BadParents_NotHeld ?kt_BadParents_NotAllowed ?kt_BadParents_Clash ?kt_BadParents_ValueError ?xl_NoThing ?xsa_NoThing ?xga_NoThing ?xgg_NoThing ?xno_NoThing ?xk_NoThing ?xb_NoThing ?xt_NoThing ?xd_NoThing ?xi_NoThing ?xf_NoThing ?xfl_NoThing ?xci_NoThing ?xcc_NoThing ?xcd_NoThing ?xvs_NoThing ?xfi_NoThing ?xnx_NoThing ?xsl_NoThing ?xsu_NoThing ?xha_NoThing ?xhm_NoThing ?ws_NoThing_WebError ?kt_NoThing_NoThing ?kt_NoThing_BadStep ?kt_NoThing_Refused ?kt_NoThing_LockedBefore ?kt_NoThing_WrongMode ?kt_NoThing_NotHeld ?kt_NoThing_NotAllowed ?kt_NoThing_Clash ?kt_NoThing_ValueError ?xl_BadStep ?xsa_BadStep ?xga_BadStep ?xgg_BadStep ?xno_BadStep ?xk_BadStep ?xb_BadStep ?xt_BadStep ?xd_BadStep ?xi_BadStep ?xf_BadStep ?xfl_BadStep ?xci_BadStep ?xcc_BadStep ?xcd_BadStep ?xvs_BadStep ?xfi_BadStep ?xnx_BadStep ?xsl_BadStep ?xsu_BadStep ?xha_BadStep ?xhm_BadStep ?ws_BadStep_WebError ?kt_BadStep_NoThing ?kt_BadStep_BadStep ?kt_BadStep_Refused ?kt_BadStep_LockedBefore ?kt_BadStep_WrongMode ?kt_BadStep_NotHeld ?kt_BadStep_NotAllowed ?kt_BadStep_Clash ?kt_BadStep_ValueError ?xl_Refused ?xsa_Refused ?xga_Refused ?xgg_Refused ?xno_Refused ?xk_Refused ?xb_Refused ?xt_Refused ?xd_Refused ?xi_Refused ?xf_Refused ?xfl_Refused ?xci_Refused ?xcc_Refused ?xcd_Refused ?xvs_Refused ?xfi_Refused ?xnx_Refused ?xsl_Refused ?xsu_Refused ?xha_Refused ?xhm_Refused ?ws_Refused_WebError ?kt_Refused_NoThing ?kt_Refused_BadStep ?kt_Refused_Refused ?kt_Refused_LockedBefore ?kt_Refused_WrongMode ?kt_Refused_NotHeld ?kt_Refused_NotAllowed ?kt_Refused_Clash ?kt_Refused_ValueError ?xl_LockedBefore ?xsa_LockedBefore ?xga_LockedBefore ?xgg_LockedBefore ?xno_LockedBefore ?xk_LockedBefore ?xb_LockedBefore ?xt_LockedBefore ?xd_LockedBefore ?xi_LockedBefore ?xf_LockedBefore ?xfl_LockedBefore ?xci_LockedBefore ?xcc_LockedBefore ?xcd_LockedBefore ?xvs_LockedBefore ?xfi_LockedBefore ?xnx_LockedBefore ?xsl_LockedBefore ?xsu_LockedBefore ?xha_LockedBefore ?xhm_LockedBefore ?ws_LockedBefore_WebError ?kt_LockedBefore_NoThing ?kt_LockedBefore_BadStep ?kt_LockedBefore_Refused ?kt_LockedBefore_LockedBefore ?kt_LockedBefore_WrongMode ?kt_LockedBefore_NotHeld ?kt_LockedBefore_NotAllowed ?kt_LockedBefore_Clash ?kt_LockedBefore_ValueError ?xl_WrongMode ?xsa_WrongMode ?xga_WrongMode ?xgg_WrongMode ?xno_WrongMode ?xk_WrongMode ?xb_WrongMode ?xt_WrongMode ?xd_WrongMode ?xi_WrongMode ?xf_WrongMode ?xfl_WrongMode ?xci_WrongMode ?xcc_WrongMode ?xcd_WrongMode ?xvs_WrongMode ?xfi_WrongMode ?xnx_WrongMode ?xsl_WrongMode ?xsu_WrongMode ?xha_WrongMode ?xhm_WrongMode ?ws_WrongMode_WebError ?kt_WrongMode_NoThing ?kt_WrongMode_BadStep ?kt_WrongMode_Refused ?kt_WrongMode_LockedBefore ?kt_WrongMode_WrongMode ?kt_WrongMode_NotHeld ?kt_WrongMode_NotAllowed ?kt_WrongMode_Clash ?kt_WrongMode_ValueError ?xl_NotHeld ?xsa_NotHeld ?xga_NotHeld ?xgg_NotHeld ?xno_NotHeld ?xk_NotHeld ?xb_NotHeld ?xt_NotHeld ?xd_NotHeld ?xi_NotHeld ?xf_NotHeld ?xfl_NotHeld ?xci_NotHeld ?xcc_NotHeld ?xcd_NotHeld ?xvs_NotHeld ?xfi_NotHeld ?xnx_NotHeld ?xsl_NotHeld ?xsu_NotHeld ?xha_NotHeld ?xhm_NotHeld ?ws_NotHeld_WebError ?kt_NotHeld_NoThing ?kt_NotHeld_BadStep ?kt_NotHeld_Refused ?kt_NotHeld_LockedBefore ?kt_NotHeld_WrongMode ?kt_NotHeld_NotHeld ?kt_NotHeld_NotAllowed ?kt_NotHeld_Clash ?kt_NotHeld_ValueError
    (case gc_Program => k_is)
    (case gc_Standing => k_is)
    (case gc_Shape => k_is)
    (case gc_Web => k_is)
    (case a_sound_step => k_is)
    (case l_sound_step => k_is)
    (case c_sound_step => k_is)
    (case k_sound_step => k_is)
    (case a_Program_init => k_is)
    (case l_Program_init => k_is)
    (case c_Program_init => k_is)
    (case k_Program_init => k_is)
    (case a_Program_iter => k_is)
    (case l_Program_iter => k_is)
    (case c_Program_iter => k_is)
    (case k_Program_iter => k_is)
    (case a_Program_add => k_is)
    (case l_Program_add => k_is)
    (case c_Program_add => k_is)
    (case k_Program_add => k_is)
    (case a_Standing_init => k_is)
    (case l_Standing_init => k_is)
    (case c_Standing_init => k_is)
    (case k_Standing_init => k_is)
    (case a_Standing_check => k_is)
    (case l_Standing_check => k_is)
    (case c_Standing_check => k_is)
    (case k_Standing_check => k_is)
    (case a_Standing_take => k_is)
    (case l_Standing_take => k_is)
    (case c_Standing_take => k_is)
    (case k_Standing_take => k_is)
    (case a_Standing_run => k_is)
    (case l_Standing_run => k_is)
    (case c_Standing_run => k_is)
    (case k_Standing_run => k_is)
    (case pa_Standing_begun => k_is)
    (case pr_Standing_begun => k_is)
    (case pg_Standing_begun => k_is)
    (case pt_Standing_begun => k_is)
    (case l_Standing_begun => k_is)
    (case c_Standing_begun => k_is)
    (case k_Standing_begun => k_is)
    (case pa_Standing_loose => k_is)
    (case pr_Standing_loose => k_is)
    (case pg_Standing_loose => k_is)
    (case pt_Standing_loose => k_is)
    (case l_Standing_loose => k_is)
    (case c_Standing_loose => k_is)
    (case k_Standing_loose => k_is)
    (case pa_Standing_holding => k_is)
    (case pr_Standing_holding => k_is)
    (case pg_Standing_holding => k_is)
    (case pt_Standing_holding => k_is)
    (case l_Standing_holding => k_is)
    (case c_Standing_holding => k_is)
    (case k_Standing_holding => k_is)
    (case a_Standing_held_mode => k_is)
    (case l_Standing_held_mode => k_is)
    (case c_Standing_held_mode => k_is)
    (case k_Standing_held_mode => k_is)
    (case a_Standing_locked_mode => k_is)
    (case l_Standing_locked_mode => k_is)
    (case c_Standing_locked_mode => k_is)
    (case k_Standing_locked_mode => k_is)
    (case a_Standing_counts => k_is)
    (case l_Standing_counts => k_is)
    (case c_Standing_counts => k_is)
    (case k_Standing_counts => k_is)
    (case a_Standing_copy => k_is)
    (case l_Standing_copy => k_is)
    (case c_Standing_copy => k_is)
    (case k_Standing_copy => k_is)
    (case a_is_mark => k_is)
    (case l_is_mark => k_is)
    (case c_is_mark => k_is)
    (case k_is_mark => k_is)
    (case a_sound_row => k_is)
    (case l_sound_row => k_is)
    (case c_sound_row => k_is)
    (case k_sound_row => k_is)
    (case a_barren => k_is)
    (case l_barren => k_is)
    (case c_barren => k_is)
    (case k_barren => k_is)
    (case a_Shape_init => k_is)
    (case l_Shape_init => k_is)
    (case c_Shape_init => k_is)
    (case k_Shape_init => k_is)
    (case a_Shape_getitem => k_is)
    (case l_Shape_getitem => k_is)
    (case c_Shape_getitem => k_is)
    (case k_Shape_getitem => k_is)
    (case a_Shape_modes_of => k_is)
    (case l_Shape_modes_of => k_is)
    (case c_Shape_modes_of => k_is)
    (case k_Shape_modes_of => k_is)
    (case a_suitable => k_is)
    (case l_suitable => k_is)
    (case c_suitable => k_is)
    (case k_suitable => k_is)
    (case a_Web_init => k_is)
    (case l_Web_init => k_is)
    (case c_Web_init => k_is)
    (case k_Web_init => k_is)
    (case a_Web_put => k_is)
    (case l_Web_put => k_is)
    (case c_Web_put => k_is)
    (case k_Web_put => k_is)
    (case a_Web_getitem => k_is)
    (case l_Web_getitem => k_is)
    (case c_Web_getitem => k_is)
    (case k_Web_getitem => k_is)
    (case a_Web_contains => k_is)
    (case l_Web_contains => k_is)
    (case c_Web_contains => k_is)
    (case k_Web_contains => k_is)
    (case a_Web_mark_of => k_is)
    (case l_Web_mark_of => k_is)
    (case c_Web_mark_of => k_is)
    (case k_Web_mark_of => k_is)
    (case a__law_draws => k_is)
    (case l__law_draws => k_is)
    (case c__law_draws => k_is)
    (case k__law_draws => k_is)
    (case a__law_take => k_is)
    (case l__law_take => k_is)
    (case c__law_take => k_is)
    (case k__law_take => k_is)
    (case a__law_same => k_is)
    (case l__law_same => k_is)
    (case c__law_same => k_is)
    (case k__law_same => k_is)
    (case a__law_marks => k_is)
    (case l__law_marks => k_is)
    (case c__law_marks => k_is)
    (case k__law_marks => k_is)
    (case a__law_rows => k_is)
    (case l__law_rows => k_is)
    (case c__law_rows => k_is)
    (case k__law_rows => k_is)
    (case a__law_things => k_is)
    (case l__law_things => k_is)
    (case c__law_things => k_is)
    (case k__law_things => k_is)
    (case a__law_counts => k_is)
    (case l__law_counts => k_is)
    (case c__law_counts => k_is)
    (case k__law_counts => k_is)
    (case a__law_do => k_is)
    (case l__law_do => k_is)
    (case c__law_do => k_is)
    (case k__law_do => k_is)
    (case a__law_shared => k_is)
    (case l__law_shared => k_is)
    (case c__law_shared => k_is)
    (case k__law_shared => k_is)
    (case a__law_shape => k_is)
    (case l__law_shape => k_is)
    (case c__law_shape => k_is)
    (case k__law_shape => k_is)
    (case a__law_put => k_is)
    (case l__law_put => k_is)
    (case c__law_put => k_is)
    (case k__law_put => k_is)
    (case a__law_web => k_is)
    (case l__law_web => k_is)
    (case c__law_web => k_is)
    (case k__law_web => k_is)
    (case a__law_refusal => k_is)
    (case l__law_refusal => k_is)
    (case c__law_refusal => k_is)
    (case k__law_refusal => k_is)
    (case a__law_due => k_is)
    (case l__law_due => k_is)
    (case c__law_due => k_is)
    (case k__law_due => k_is)
    (case a__law_reads => k_is)
    (case l__law_reads => k_is)
    (case c__law_reads => k_is)
    (case k__law_reads => k_is)
    (case a__law_choices => k_is)
    (case l__law_choices => k_is)
    (case c__law_choices => k_is)
    (case k__law_choices => k_is)
    (case a__law_row => k_is)
    (case l__law_row => k_is)
    (case c__law_row => k_is)
    (case k__law_row => k_is)
    (case a__law_walk => k_is)
    (case l__law_walk => k_is)
    (case c__law_walk => k_is)
    (case k__law_walk => k_is)
    (case a__law_run => k_is)
    (case l__law_run => k_is)
    (case c__law_run => k_is)
    (case k__law_run => k_is)
    (case a__law_counted => k_is)
    (case l__law_counted => k_is)
    (case c__law_counted => k_is)
    (case k__law_counted => k_is)
    (case a_law => k_is)
    (case l_law => k_is)
    (case c_law => k_is)
    (case k_law => k_is)
    (case z_ValueError => k_is)
    (case z_any => k_is)
    (case z_bool => k_is)
    (case z_enumerate => k_is)
    (case z_int => k_is)
    (case z_isinstance => k_is)
    (case z_iter => k_is)
    (case z_len => k_is)
    (case z_list => k_is)
    (case z_property => k_is)
    (case z_range => k_is)
    (case z_str => k_is)
    (case z_tuple => k_is)
    (case aq_DEEDS => k_is)
    (case lq_DEEDS => k_is)
    (case aq_LETTERS => k_is)
    (case aq_MODES => k_is)
    (case lq_MODES => k_is)
    (case xla => k_is)
    (case xlr => k_is)
    (case xta => k_is)
    (case xtr => k_is)
    (case pg_Program => k_is)
    (case hd_Program => k_is)
    (case po_Program => k_is)
    (case sa_Program => k_is)
    (case kc_Program => k_is)
    (case i_Program_init => k_is)
    (case mk_Program => k_is)
    (case i_Program_iter => k_is)
    (case i_Program_add => k_is)
    (case hca_Program => k_is)
    (case hcn_Program => k_is)
    (case hct_Program => k_is)
    (case hcm_Program => k_is)
    (case ko_Program_list => kit_is)
    (case ko_Program_tuple => kit_is)
    (case sf_Program => k_is)
    (case or_Program_add => k_is)
    (case ola_Program_add => k_is)
    (case olr_Program_add => k_is)
    (case ols_Program_add => k_is)
    (case ota_Program_add => k_is)
    (case otr_Program_add => k_is)
    (case ots_Program_add => k_is)
    (case no_Program__steps => k_is)
    (case pg_Standing => k_is)
    (case hd_Standing => k_is)
    (case po_Standing => k_is)
    (case sa_Standing => k_is)
    (case kc_Standing => k_is)
    (case i_Standing_init => k_is)
    (case mk_Standing => k_is)
    (case i_Standing_check => k_is)
    (case i_Standing_take => k_is)
    (case i_Standing_run => k_is)
    (case i_Standing_held_mode => k_is)
    (case i_Standing_locked_mode => k_is)
    (case i_Standing_counts => k_is)
    (case i_Standing_copy => k_is)
    (case hca_Standing => k_is)
    (case hcn_Standing => k_is)
    (case hct_Standing => k_is)
    (case hcm_Standing => k_is)
    (case no_Standing_web => k_is)
    (case no_Standing__modes => k_is)
    (case no_Standing__holds => k_is)
    (case no_Standing__loose => k_is)
    (case pg_Shape => k_is)
    (case hd_Shape => k_is)
    (case po_Shape => k_is)
    (case sa_Shape => k_is)
    (case kc_Shape => k_is)
    (case i_Shape_init => k_is)
    (case mk_Shape => k_is)
    (case fi_Shape_getitem => k_is)
    (case i_Shape_getitem => k_is)
    (case i_Shape_modes_of => k_is)
    (case hca_Shape => k_is)
    (case hcn_Shape => k_is)
    (case hct_Shape => k_is)
    (case hcm_Shape => k_is)
    (case rdc_Shape => k_is)
    (case gac_Shape => k_is)
    (case fcl_Shape_MARKS => k_is)
    (case fcl_Shape_PARENTS => k_is)
    (case no_Shape__listed => k_is)
    (case no_Shape__marks => k_is)
    (case pg_Web => k_is)
    (case hd_Web => k_is)
    (case po_Web => k_is)
    (case sa_Web => k_is)
    (case kc_Web => k_is)
    (case i_Web_init => k_is)
    (case mk_Web => k_is)
    (case i_Web_put => k_is)
    (case fi_Web_getitem => k_is)
    (case i_Web_getitem => k_is)
    (case i_Web_contains => k_is)
    (case i_Web_mark_of => k_is)
    (case hca_Web => k_is)
    (case hcn_Web => k_is)
    (case hct_Web => k_is)
    (case hcm_Web => k_is)
    (case rdc_Web => k_is)
    (case gac_Web => k_is)
    (case fcl_Web_MOST => k_is)
    (case no_Web_shape => k_is)
    (case no_Web__rows => k_is)
    (case no_Web__numbers => k_is)
    (case gc_BadShape => k_is)
    (case gc_UnknownMark => k_is)
    (case gc_TooLarge => k_is)
    (case gc_BadParents => k_is)
    (case gc_NoThing => k_is)
    (case gc_BadStep => k_is)
    (case gc_Refused => k_is)
    (case gc_LockedBefore => k_is)
    (case gc_WrongMode => k_is)
    (case gc_NotHeld => k_is)
    (case gc_WebError => k_is)
    (case gc_NotAllowed => k_is)
    (case gc_Clash => k_is)
    (case wb_WebError => k_is)
    (case wd_WebError => k_is)
    (case wt_WebError => k_is)
    (case xz_super => k_is)
    (case x_opq => k_is)
    (case x_hn => k_is)
    (case x_ht => k_is)
    (case xl_BadShape => k_is)
    (case xsa_BadShape => k_is)
    (case xga_BadShape => k_is)
    (case xgg_BadShape => k_is)
    (case xno_BadShape => k_is)
    (case xk_BadShape => k_is)
    (case xb_BadShape => k_is)
    (case xt_BadShape => k_is)
    (case xd_BadShape => k_is)
    (case xi_BadShape => k_is)
    (case xf_BadShape => k_is)
    (case xfl_BadShape => k_is)
    (case xci_BadShape => k_is)
    (case xcc_BadShape => k_is)
    (case xcd_BadShape => k_is)
    (case xvs_BadShape => rfl)
    (case xfi_BadShape => first | rfl | decide +kernel)
    (case xnx_BadShape => ks_is)
    (case xsl_BadShape => k_is)
    (case xsu_BadShape => k_is)
    (case xha_BadShape => k_is)
    (case xhm_BadShape => k_is)
    (case ws_BadShape_WebError => k_is)
    (case kt_BadShape_NoThing => kit_is)
    (case kt_BadShape_BadStep => kit_is)
    (case kt_BadShape_Refused => kit_is)
    (case kt_BadShape_LockedBefore => kit_is)
    (case kt_BadShape_WrongMode => kit_is)
    (case kt_BadShape_NotHeld => kit_is)
    (case kt_BadShape_NotAllowed => kit_is)
    (case kt_BadShape_Clash => kit_is)
    (case kt_BadShape_ValueError => kit_is)
    (case xl_UnknownMark => k_is)
    (case xsa_UnknownMark => k_is)
    (case xga_UnknownMark => k_is)
    (case xgg_UnknownMark => k_is)
    (case xno_UnknownMark => k_is)
    (case xk_UnknownMark => k_is)
    (case xb_UnknownMark => k_is)
    (case xt_UnknownMark => k_is)
    (case xd_UnknownMark => k_is)
    (case xi_UnknownMark => k_is)
    (case xf_UnknownMark => k_is)
    (case xfl_UnknownMark => k_is)
    (case xci_UnknownMark => k_is)
    (case xcc_UnknownMark => k_is)
    (case xcd_UnknownMark => k_is)
    (case xvs_UnknownMark => rfl)
    (case xfi_UnknownMark => first | rfl | decide +kernel)
    (case xnx_UnknownMark => ks_is)
    (case xsl_UnknownMark => k_is)
    (case xsu_UnknownMark => k_is)
    (case xha_UnknownMark => k_is)
    (case xhm_UnknownMark => k_is)
    (case ws_UnknownMark_WebError => k_is)
    (case kt_UnknownMark_NoThing => kit_is)
    (case kt_UnknownMark_BadStep => kit_is)
    (case kt_UnknownMark_Refused => kit_is)
    (case kt_UnknownMark_LockedBefore => kit_is)
    (case kt_UnknownMark_WrongMode => kit_is)
    (case kt_UnknownMark_NotHeld => kit_is)
    (case kt_UnknownMark_NotAllowed => kit_is)
    (case kt_UnknownMark_Clash => kit_is)
    (case kt_UnknownMark_ValueError => kit_is)
    (case xl_TooLarge => k_is)
    (case xsa_TooLarge => k_is)
    (case xga_TooLarge => k_is)
    (case xgg_TooLarge => k_is)
    (case xno_TooLarge => k_is)
    (case xk_TooLarge => k_is)
    (case xb_TooLarge => k_is)
    (case xt_TooLarge => k_is)
    (case xd_TooLarge => k_is)
    (case xi_TooLarge => k_is)
    (case xf_TooLarge => k_is)
    (case xfl_TooLarge => k_is)
    (case xci_TooLarge => k_is)
    (case xcc_TooLarge => k_is)
    (case xcd_TooLarge => k_is)
    (case xvs_TooLarge => rfl)
    (case xfi_TooLarge => first | rfl | decide +kernel)
    (case xnx_TooLarge => ks_is)
    (case xsl_TooLarge => k_is)
    (case xsu_TooLarge => k_is)
    (case xha_TooLarge => k_is)
    (case xhm_TooLarge => k_is)
    (case ws_TooLarge_WebError => k_is)
    (case kt_TooLarge_NoThing => kit_is)
    (case kt_TooLarge_BadStep => kit_is)
    (case kt_TooLarge_Refused => kit_is)
    (case kt_TooLarge_LockedBefore => kit_is)
    (case kt_TooLarge_WrongMode => kit_is)
    (case kt_TooLarge_NotHeld => kit_is)
    (case kt_TooLarge_NotAllowed => kit_is)
    (case kt_TooLarge_Clash => kit_is)
    (case kt_TooLarge_ValueError => kit_is)
    (case xl_BadParents => k_is)
    (case xsa_BadParents => k_is)
    (case xga_BadParents => k_is)
    (case xgg_BadParents => k_is)
    (case xno_BadParents => k_is)
    (case xk_BadParents => k_is)
    (case xb_BadParents => k_is)
    (case xt_BadParents => k_is)
    (case xd_BadParents => k_is)
    (case xi_BadParents => k_is)
    (case xf_BadParents => k_is)
    (case xfl_BadParents => k_is)
    (case xci_BadParents => k_is)
    (case xcc_BadParents => k_is)
    (case xcd_BadParents => k_is)
    (case xvs_BadParents => rfl)
    (case xfi_BadParents => first | rfl | decide +kernel)
    (case xnx_BadParents => ks_is)
    (case xsl_BadParents => k_is)
    (case xsu_BadParents => k_is)
    (case xha_BadParents => k_is)
    (case xhm_BadParents => k_is)
    (case ws_BadParents_WebError => k_is)
    (case kt_BadParents_NoThing => kit_is)
    (case kt_BadParents_BadStep => kit_is)
    (case kt_BadParents_Refused => kit_is)
    (case kt_BadParents_LockedBefore => kit_is)
    (case kt_BadParents_WrongMode => kit_is)
    (case kt_BadParents_NotHeld => kit_is)
    (case kt_BadParents_NotAllowed => kit_is)
    (case kt_BadParents_Clash => kit_is)
    (case kt_BadParents_ValueError => kit_is)
    (case xl_NoThing => k_is)
    (case xsa_NoThing => k_is)
    (case xga_NoThing => k_is)
    (case xgg_NoThing => k_is)
    (case xno_NoThing => k_is)
    (case xk_NoThing => k_is)
    (case xb_NoThing => k_is)
    (case xt_NoThing => k_is)
    (case xd_NoThing => k_is)
    (case xi_NoThing => k_is)
    (case xf_NoThing => k_is)
    (case xfl_NoThing => k_is)
    (case xci_NoThing => k_is)
    (case xcc_NoThing => k_is)
    (case xcd_NoThing => k_is)
    (case xvs_NoThing => rfl)
    (case xfi_NoThing => first | rfl | decide +kernel)
    (case xnx_NoThing => ks_is)
    (case xsl_NoThing => k_is)
    (case xsu_NoThing => k_is)
    (case xha_NoThing => k_is)
    (case xhm_NoThing => k_is)
    (case ws_NoThing_WebError => k_is)
    (case kt_NoThing_NoThing => kit_is)
    (case kt_NoThing_BadStep => kit_is)
    (case kt_NoThing_Refused => kit_is)
    (case kt_NoThing_LockedBefore => kit_is)
    (case kt_NoThing_WrongMode => kit_is)
    (case kt_NoThing_NotHeld => kit_is)
    (case kt_NoThing_NotAllowed => kit_is)
    (case kt_NoThing_Clash => kit_is)
    (case kt_NoThing_ValueError => kit_is)
    (case xl_BadStep => k_is)
    (case xsa_BadStep => k_is)
    (case xga_BadStep => k_is)
    (case xgg_BadStep => k_is)
    (case xno_BadStep => k_is)
    (case xk_BadStep => k_is)
    (case xb_BadStep => k_is)
    (case xt_BadStep => k_is)
    (case xd_BadStep => k_is)
    (case xi_BadStep => k_is)
    (case xf_BadStep => k_is)
    (case xfl_BadStep => k_is)
    (case xci_BadStep => k_is)
    (case xcc_BadStep => k_is)
    (case xcd_BadStep => k_is)
    (case xvs_BadStep => rfl)
    (case xfi_BadStep => first | rfl | decide +kernel)
    (case xnx_BadStep => ks_is)
    (case xsl_BadStep => k_is)
    (case xsu_BadStep => k_is)
    (case xha_BadStep => k_is)
    (case xhm_BadStep => k_is)
    (case ws_BadStep_WebError => k_is)
    (case kt_BadStep_NoThing => kit_is)
    (case kt_BadStep_BadStep => kit_is)
    (case kt_BadStep_Refused => kit_is)
    (case kt_BadStep_LockedBefore => kit_is)
    (case kt_BadStep_WrongMode => kit_is)
    (case kt_BadStep_NotHeld => kit_is)
    (case kt_BadStep_NotAllowed => kit_is)
    (case kt_BadStep_Clash => kit_is)
    (case kt_BadStep_ValueError => kit_is)
    (case xl_Refused => k_is)
    (case xsa_Refused => k_is)
    (case xga_Refused => k_is)
    (case xgg_Refused => k_is)
    (case xno_Refused => k_is)
    (case xk_Refused => k_is)
    (case xb_Refused => k_is)
    (case xt_Refused => k_is)
    (case xd_Refused => k_is)
    (case xi_Refused => k_is)
    (case xf_Refused => k_is)
    (case xfl_Refused => k_is)
    (case xci_Refused => k_is)
    (case xcc_Refused => k_is)
    (case xcd_Refused => k_is)
    (case xvs_Refused => rfl)
    (case xfi_Refused => first | rfl | decide +kernel)
    (case xnx_Refused => ks_is)
    (case xsl_Refused => k_is)
    (case xsu_Refused => k_is)
    (case xha_Refused => k_is)
    (case xhm_Refused => k_is)
    (case ws_Refused_WebError => k_is)
    (case kt_Refused_NoThing => kit_is)
    (case kt_Refused_BadStep => kit_is)
    (case kt_Refused_Refused => kit_is)
    (case kt_Refused_LockedBefore => kit_is)
    (case kt_Refused_WrongMode => kit_is)
    (case kt_Refused_NotHeld => kit_is)
    (case kt_Refused_NotAllowed => kit_is)
    (case kt_Refused_Clash => kit_is)
    (case kt_Refused_ValueError => kit_is)
    (case xl_LockedBefore => k_is)
    (case xsa_LockedBefore => k_is)
    (case xga_LockedBefore => k_is)
    (case xgg_LockedBefore => k_is)
    (case xno_LockedBefore => k_is)
    (case xk_LockedBefore => k_is)
    (case xb_LockedBefore => k_is)
    (case xt_LockedBefore => k_is)
    (case xd_LockedBefore => k_is)
    (case xi_LockedBefore => k_is)
    (case xf_LockedBefore => k_is)
    (case xfl_LockedBefore => k_is)
    (case xci_LockedBefore => k_is)
    (case xcc_LockedBefore => k_is)
    (case xcd_LockedBefore => k_is)
    (case xvs_LockedBefore => rfl)
    (case xfi_LockedBefore => first | rfl | decide +kernel)
    (case xnx_LockedBefore => ks_is)
    (case xsl_LockedBefore => k_is)
    (case xsu_LockedBefore => k_is)
    (case xha_LockedBefore => k_is)
    (case xhm_LockedBefore => k_is)
    (case ws_LockedBefore_WebError => k_is)
    (case kt_LockedBefore_NoThing => kit_is)
    (case kt_LockedBefore_BadStep => kit_is)
    (case kt_LockedBefore_Refused => kit_is)
    (case kt_LockedBefore_LockedBefore => kit_is)
    (case kt_LockedBefore_WrongMode => kit_is)
    (case kt_LockedBefore_NotHeld => kit_is)
    (case kt_LockedBefore_NotAllowed => kit_is)
    (case kt_LockedBefore_Clash => kit_is)
    (case kt_LockedBefore_ValueError => kit_is)
    (case xl_WrongMode => k_is)
    (case xsa_WrongMode => k_is)
    (case xga_WrongMode => k_is)
    (case xgg_WrongMode => k_is)
    (case xno_WrongMode => k_is)
    (case xk_WrongMode => k_is)
    (case xb_WrongMode => k_is)
    (case xt_WrongMode => k_is)
    (case xd_WrongMode => k_is)
    (case xi_WrongMode => k_is)
    (case xf_WrongMode => k_is)
    (case xfl_WrongMode => k_is)
    (case xci_WrongMode => k_is)
    (case xcc_WrongMode => k_is)
    (case xcd_WrongMode => k_is)
    (case xvs_WrongMode => rfl)
    (case xfi_WrongMode => first | rfl | decide +kernel)
    (case xnx_WrongMode => ks_is)
    (case xsl_WrongMode => k_is)
    (case xsu_WrongMode => k_is)
    (case xha_WrongMode => k_is)
    (case xhm_WrongMode => k_is)
    (case ws_WrongMode_WebError => k_is)
    (case kt_WrongMode_NoThing => kit_is)
    (case kt_WrongMode_BadStep => kit_is)
    (case kt_WrongMode_Refused => kit_is)
    (case kt_WrongMode_LockedBefore => kit_is)
    (case kt_WrongMode_WrongMode => kit_is)
    (case kt_WrongMode_NotHeld => kit_is)
    (case kt_WrongMode_NotAllowed => kit_is)
    (case kt_WrongMode_Clash => kit_is)
    (case kt_WrongMode_ValueError => kit_is)
    (case xl_NotHeld => k_is)
    (case xsa_NotHeld => k_is)
    (case xga_NotHeld => k_is)
    (case xgg_NotHeld => k_is)
    (case xno_NotHeld => k_is)
    (case xk_NotHeld => k_is)
    (case xb_NotHeld => k_is)
    (case xt_NotHeld => k_is)
    (case xd_NotHeld => k_is)
    (case xi_NotHeld => k_is)
    (case xf_NotHeld => k_is)
    (case xfl_NotHeld => k_is)
    (case xci_NotHeld => k_is)
    (case xcc_NotHeld => k_is)
    (case xcd_NotHeld => k_is)
    (case xvs_NotHeld => rfl)
    (case xfi_NotHeld => first | rfl | decide +kernel)
    (case xnx_NotHeld => ks_is)
    (case xsl_NotHeld => k_is)
    (case xsu_NotHeld => k_is)
    (case xha_NotHeld => k_is)
    (case xhm_NotHeld => k_is)
    (case ws_NotHeld_WebError => k_is)
    (case kt_NotHeld_NoThing => kit_is)
    (case kt_NotHeld_BadStep => kit_is)
    (case kt_NotHeld_Refused => kit_is)
    (case kt_NotHeld_LockedBefore => kit_is)
    (case kt_NotHeld_WrongMode => kit_is)
    (case kt_NotHeld_NotHeld => kit_is)
    (case kt_NotHeld_NotAllowed => kit_is)
    (case kt_NotHeld_Clash => kit_is)
    (case kt_NotHeld_ValueError => kit_is)
#print axioms PySem.Challenge.cw_weblocks_k19_standing_counts_and_copies_holds
