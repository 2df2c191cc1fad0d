import PyProof.Rows.All
import Wide.All
import OpenK.AllK
import Wide.FinOn
import HandS.ForMost
import KE.GoesMore
import HandS.Codes
import HandS.IsInst
import HandS.Defaults
import HandS.MakeKw
import HandS.MakeKwOnly
import HandS.SlotsOwn
import HandS.ForExc
import HandS.ExcIs
import HandS.ExcField
import HandS.CallSlots
import KE.KExcIs
import KE.KExcSuper
import KE.KExcMake
import KE.RegKSuper
import HandS.ClsMeth
import KE.KCallOwn
import HandS.IterVal
import KE.KOwnIter
import HandS.Star
import KE.KOpsOwn
import HandS.Property
import KE.KStar
import HandS.Text
import HandS.StrMore
import HandS.Steps
import HandS.TryOnly
import HandS.Exc
import HandS.ExcOwn
import HandS.Comp
import HandS.OwnIter
import PyProof.StrLawsChain
import PyProof.Rows.StrItems
import HandS.Iter
import HandS.Walk
import KE.OsRunLaw
import PySem.Challenge.RW_weblocks_k24_ready_policies
set_option Elab.async false
set_option linter.all false
set_option maxRecDepth 100000
set_option maxHeartbeats 4000000
namespace My
local macro_rules | `(tactic| k_head) => `(tactic| k_headL)
set_option maxHeartbeats 0 in
open_top hd for PySem.Challenge.rw_weblocks_k24_ready_policies
end My
local macro_rules | `(tactic| walk_at "sd") => `(tactic| first | assumption | omega | decide | rfl | (refine And.intro ?_ ?_ <;> walk_at "sd") | (show _ < PySem.sizeLine; exact Nat.lt_of_le_of_lt (by omega : _ ≤ 100000) (by decide)) | (show _ ≤ PySem.sizeLine; exact Nat.le_trans (by omega : _ ≤ 100000) (by decide)))
local macro_rules | `(tactic| walk_at "hl") => `(tactic| first | assumption | exact L2.upd_same | (refine (L2.upd_ne ?_).trans ?_; (walk_at "ne"); (walk_at "hl")))
local macro_rules | `(tactic| walk_at "ne") => `(tactic| first | assumption | (apply Ne.symm; assumption) | (refine L2.ne_of_none ?_ (by assumption); walk_at "hl") | (apply Ne.symm; refine L2.ne_of_none ?_ (by assumption); walk_at "hl") | (refine L2.ne_of (o := L2.HO.lst _) (u := L2.HO.tup _) ?_ ?_ (by intro z; cases z) <;> walk_at "hl"))
local macro_rules | `(tactic| walk_at "sq") => `(tactic| first | assumption | exact .inl (.inl (by walk_at "hl")) | exact .inl (.inl (.inl (by walk_at "hl"))) | exact .inr (.inl (.inl (by walk_at "hl"))) | exact .inl (by assumption) | exact .inr (by assumption))
local macro_rules | `(tactic| walk_at "at") => `(tactic| first | assumption | exact rfl | exact L2.atI_nat (j := 0) rfl | exact L2.atI_nat (j := 1) rfl | exact L2.atI_nat (j := 2) rfl | exact L2.atI_nat (j := 3) rfl | exact L2.atI_nat rfl | exact L2.atI_nat (by assumption))
local macro_rules | `(tactic| walk_at "r1") => `(tactic| first
  | (refine ⟨_, rfl, ?_⟩)
  | (refine ⟨_, _, rfl, rfl, ?_⟩)
  | (refine ⟨_, _, _, _, rfl, rfl, (by walk_at "sq"), (by walk_at "at"), ?_⟩)
  | (refine ⟨_, _, rfl, (by walk_at "sq"), ?_⟩)
  | (refine ⟨.inl ⟨rfl, _, L2.SqL.of (by walk_at "hl")⟩, ?_⟩)
  | (refine ⟨_, _, _, rfl, rfl, (by walk_at "hl"), (by walk_at "sd"), ?_⟩)
  | (refine ⟨_, _, _, _, rfl, rfl, (by walk_at "hl"), rfl, ?_⟩)
  | (refine And.intro (by walk_at "sd") ?_)
  | (refine .inl ⟨_, rfl, ?_⟩))
local macro_rules | `(tactic| walk_at "rd") => `(tactic| repeat walk_at "r1")
/-! ### enumerate over a tuple -/
namespace PySem
open AutoSeq1 (wpAny_loadPart')
set_option maxHeartbeats 1000000 in
theorem meets_enumerate_newT (l : Addr) (items : Array Value) :
    Meets (Builtin.«enumerate.__new__» ⟨[.type "enumerate", .ref l], []⟩) (fun _ R s => s.heap.IsTuple l items ∧
      R (.ok (.ret (.ref (s.heap.push { cls := .type "tuple_iterator", data := .fields #[.ref l, .int 0 0] }).objs.size)))
        { s with heap := (s.heap.push { cls := .type "tuple_iterator", data := .fields #[.ref l, .int 0 0] }).push { cls := .type "enumerate", data := .fields #[.none, .bool false, .ref s.heap.objs.size, rawInt 0, .none, .none] } }) :=
  .of_wp fun prog w A R s h => by
    obtain ⟨hp, g, d, tk, os⟩ := s; obtain ⟨hL, h⟩ := h
    have hsub := sub_enumerate
    wp_walk using wpAny_pyIter_tuple hL
    refine wpAny_stack_any fun st => wpAny_pure ?_
    split
    · rename_i c _ _ _ _ _
      cases (c == Value.type "enumerate")
      · wp_walk using wpAny_pyIter_tuple hL
        exact ⟨_, rfl, h⟩
      · wp_walk using wpAny_pyIter_tuple hL
        exact ⟨_, rfl, h⟩
    · wp_walk using wpAny_pyIter_tuple hL
      exact ⟨_, rfl, h⟩
section
variable {prog : Program} {w : World} {A : Around} {E : Value → Shared → Prop} {s : Shared}
theorem call_enumerate_tup {l : Addr} {items : Array Value} {Q : Value → Shared → Prop} (hL : s.heap.IsTuple l items)
    (h : ∀ h', IsEnum h' (s.heap.objs.size + 1) s.heap.objs.size 0 .none → h'.IsTupleIter s.heap.objs.size l 0 → h'.objs.size = s.heap.objs.size + 2 →
      (∀ b o, s.heap.get? b = some o → h'.get? b = some o) → Q (.ref (s.heap.objs.size + 1)) { s with heap := h' }) :
    wpAny (model prog w) A (call (.type "enumerate") [.ref l]) Q E s := by
  refine callType_new F.called_enumerate (by decide) (F.typeCall_enumerate_1 _) (F.newCall_enumerate_1 _) (fun obj => F.args_object_init_2 obj _) F.entry_enumerate_new
    (meets_enumerate_newT l items) ⟨hL, ?_⟩
  have hz : (s.heap.push { cls := .type "tuple_iterator", data := .fields #[.ref l, .int 0 0] }).objs.size = s.heap.objs.size + 1 := Heap.size_push ..
  show _ ∧ _
  rw [hz]
  have he : IsEnum ((s.heap.push { cls := .type "tuple_iterator", data := .fields #[.ref l, .int 0 0] }).push
      { cls := .type "enumerate", data := .fields #[.none, .bool false, .ref s.heap.objs.size, rawInt 0, .none, .none] }) (s.heap.objs.size + 1) s.heap.objs.size 0 .none := by
    have := Heap.get?_push_size (s.heap.push { cls := .type "tuple_iterator", data := .fields #[.ref l, .int 0 0] })
      (o := { cls := .type "enumerate", data := .fields #[.none, .bool false, .ref s.heap.objs.size, rawInt 0, .none, .none] }) rfl
    rw [hz] at this; exact this
  refine ⟨⟨_, he, rfl⟩, h _ he ⟨_, Heap.get?_push_of_some _ (Heap.get?_push_size _ rfl), rfl, rfl⟩ (by rw [Heap.size_push, hz]) fun b o x => Heap.get?_push_of_some _ (Heap.get?_push_of_some _ x)⟩
/-- next of an enumerate whose tuple is at its end -/
theorem wpAny_pyNext_enum_endU {e it l : Addr} {i : Nat} {items : Array Value} {old : Value} {Q : Option Value → Shared → Prop} (hh : A.handled = none) (he : IsEnum s.heap e it i old)
    (hit : s.heap.IsTupleIter it l i) (hl : s.heap.IsTuple l items) (hx : items[i]? = none) (hQ : ∀ h', Heap.ExtBut it s.heap h' → Q none { s with heap := h' }) : wpAny (model prog w) A (pyNext (.ref e)) Q E s := by
  have hT : s.TypeIs (.ref e) "enumerate" := ⟨_, he, rfl⟩
  unfold pyNext
  refine wpAny_bind (wpAny_attempt (wpAny_callSpecial?_slot (name := Str.ofString "__next__") hT F.slot_enumerate_next (wpAny_call_entry F.slot_enumerate_next hT F.entry_enumerate_next ?_ (F.args_enumerate_next_1 _))))
  show wpAny _ _ (field (.ref e) 2 >>= _) _ _ _
  refine wpAny_bind (wpAny_field he rfl (x := .ref it) rfl (wpAny_bind (wpAny_nextOf_tuple_end hh hit hl hx fun h' x he' ⟨o, ho, hc⟩ => ?_)))
  exact wpAny_bind (wpAny_isInstance (T := "StopIteration") (b := true) ⟨o, ho, hc⟩ isSubtype_stop (wpAny_pure (hQ _ he')))
end
end PySem
namespace L2
open PySem PySem.Spec PyProof.Rows
/-- the tuple at a, each item in a new pair -/
def ItuE (K : PySem.W.Frag) (a : Addr) : It :=
  ⟨fun i H => ∃ (xs : List V) (x : V), SqT K H a xs ∧ xs[i]? = some x, fun i H v H' => ∃ T x, v = .ref T ∧ H T = none ∧ H' = upd H T (.tup [.int (i : Nat), x]) ∧ ∀ xs, SqT K H a xs → xs[i]? = some x, fun i H => ∃ xs : List V, SqT K H a xs ∧ xs.length ≤ i⟩
theorem turn_enumT {P : Program} {w : World} {K : PySem.W.Frag} {elts : List Expr} {kk : Nat} {tpos : Pos} (a e it : Addr) :
    Turn P w K (.Tuple elts kk tpos) (ItuE K a) [e, it] e (fun i h => (∃ old, IsEnum h e it ((i : Nat) : Int) old) ∧ h.IsTupleIter it a i ∧ e ≠ it ∧ a ≠ it ∧ a ≠ e) where
  mem := by simp
  obj := fun i h st b hb => by
    obtain ⟨⟨old, he⟩, ⟨o, ho, hc, hd⟩, _⟩ := st
    have e' : b = e ∨ b = it := by simpa using hb
    rcases e' with z | z
    · rw [z]; exact ⟨_, he, fun v q => nomatch q⟩
    · rw [z]; exact ⟨o, ho, fun v q => by rw [hd] at q; cases q⟩
  keep := fun i h h' st k => let ⟨⟨old, he⟩, hi, hne⟩ := st; ⟨⟨old, k e (by simp) _ he⟩, hi.at fun o q => k it (by simp) o q, hne⟩
  item := by
    intro X hP hw hK hc i pins s σ H E I hf st hg
    subst hP hw hK
    obtain ⟨⟨old, he⟩, hit, hne, hai, hae⟩ := st
    obtain ⟨xs, x, hq, hx⟩ := hg
    obtain ⟨its, rv, p, hz⟩ := I.tuple hq
    obtain ⟨u, hu, ru⟩ := rv.get hx
    have hel : e < s.heap.objs.size := Heap.lt_size he
    have hil : it < s.heap.objs.size := by obtain ⟨_, q, _⟩ := hit; exact Heap.lt_size q
    have hlen : i < its.toArray.size := by
      have := (List.getElem?_eq_some_iff.mp hu).1
      simpa using this
    have hT0 : s.heap.IsTuple a its.toArray := p
    refine wpAny_pyNext_enum_itemD (Draws.tuple (prog := X.prog) (w := X.w) (A := X.A.in1) (show X.A.in1.handled = none from I.ok.hd hc) it a hai its.toArray) he ⟨hit, hT0⟩ hlen hne (by simp [hne, Ne.symm hae]) fun y h' tk hy ho hst' hT hsz hk => ?_
    have ey : y = u := by
      have q : its[i]? = some y := by simpa using hy
      exact Option.some.inj (q.symm.trans hu)
    subst ey
    obtain ⟨hit', _⟩ := hst'
    refine ⟨_, rfl, wpAny_letOwnedTupleGo_enum (s := { s with heap := h', toks := tk + 1 }) ho fun h'' he' sb => ?_⟩
    have hT2 : h''.get? s.heap.objs.size = some { cls := .type "tuple", data := .seq #[.int i tk, y] } := (sb.2 _ (Nat.ne_of_gt hel)).trans hT
    have new : ObjOk X.prog X.w (upd H s.heap.objs.size (.tup [.int (i : Nat), x])) h'' s.heap.objs.size (.tup [.int (i : Nat), x]) :=
      ⟨by show 2 ≤ sizeLine; decide, [.int i tk, y], .cons ⟨_, rfl⟩ (.cons ru .nil), ⟨_, hT2, rfl, _, rfl⟩⟩
    have I1 : Inv X pins σ (upd H s.heap.objs.size (.tup [.int (i : Nat), x])) { s with heap := h'', toks := tk + 1 } :=
      I.turnedNew (ch := [e, it]) (fun b ob hb q => (sb.2 b (fun z => hb (by simp [z]))).trans (hk b ob (fun z => hb (by simp [z])) (fun z => hb (by simp [z])) q)) hf (Nat.le_refl _) new
    refine ⟨.ref s.heap.objs.size, _, I1, rfl, ⟨_, x, rfl, I.hok.fresh (Nat.le_refl _), rfl, fun ys hy => by rw [I.tuple_inj hy hq]; exact hx⟩, ⟨⟨y, ?_⟩, hit'.at fun o q => (sb.2 it (Ne.symm hne)).trans q, hne, hai, hae⟩, fun b hb => ?_⟩
    · have e1 : ((i + 1 : Nat) : Int) = (i : Int) + 1 := by omega
      rw [e1]; exact he'
    · have hb' : b < s.heap.objs.size := by
        have e' : b = e ∨ b = it := by simpa using hb
        rcases e' with z | z
        · rw [z]; exact hel
        · rw [z]; exact hil
      rw [upd_ne (Nat.ne_of_lt hb')]
      exact (hf b hb).1
  done := by
    intro X hP hw hK hc i pins s σ H E I hf st hg
    subst hP hw hK
    obtain ⟨⟨old, he⟩, hit, hne, hai, hae⟩ := st
    obtain ⟨xs, hq, hx⟩ := hg
    obtain ⟨its, rv, p, hz⟩ := I.tuple hq
    obtain ⟨f0, f1, f2, f3, f4, f5⟩ := hf it (by simp)
    have hl := rv.length
    have hT0 : s.heap.IsTuple a its.toArray := p
    exact wpAny_pyNext_enum_endU (I.ok.hd hc) he hit hT0 (by simp; omega) fun h' eb => ⟨rfl, I.turned (t' := s.toks) (fun b o hb q => eb b o hb q) f0 f1 f3 f4 f5⟩
  self := fun A i s Q E st h => let ⟨⟨_, he⟩, _⟩ := st; wpAny_pyIter_enum he h
def iEnumT (K : PySem.W.Frag) (ta : TA) : TI := fun σ H R => ta σ H fun vs H1 => ∃ a xs, vs = [.ref a] ∧ SqT K H1 a xs ∧ R (ItuE K a) H1
theorem pi_enumT {X : Cx} {e : Expr} {ta : TA} {p pos tpos : Pos} {elts : List Expr} {kk : Nat} (hg : Gl X "enumerate") (hm : X.mg "enumerate" = none) (ha : PA X [e] ta) (hs : starEach [e] X.env = [(false, eval e X.env)] := by rfl) :
    PI X (.Tuple elts kk tpos) (.Call (.Name "enumerate" p) [e] [] pos) (iEnumT X.K ta) := by
  refine ⟨fun pins s σ H R I h => ?_⟩
  refine Call_ (ld_blt I hg hm boot_enumerate (PyProof.Rows.callWith_type1 (thn (ha.run pos pins s σ H _ I h) fun us s1 ⟨vs, H1, I1, r1, q1⟩ => ?_) hs rfl))
  obtain ⟨a, xs, ex, hq, q⟩ := q1
  subst ex
  cases r1 with
  | cons r rr =>
    cases rr
    cases r
    obtain ⟨its, rv, p', hz⟩ := I1.tuple hq
    have hT0 : s1.heap.IsTuple a its.toArray := p'
    have hal : a < s1.heap.objs.size := by obtain ⟨_, q, _⟩ := hT0; exact Heap.lt_size q
    refine call_enumerate_tup hT0 fun h' he hit hsz hk => wpAny_pyIter_enum he ?_
    have I2 : Inv X pins σ H1 { s1 with heap := h' } := I1.kept (t' := s1.toks) hk
    refine ⟨s1.heap.objs.size + 1, [s1.heap.objs.size + 1, s1.heap.objs.size], _, _, H1, rfl, I2, turn_enumT a (s1.heap.objs.size + 1) s1.heap.objs.size, ⟨⟨.none, he⟩, hit, Nat.succ_ne_self _, Nat.ne_of_lt hal, Nat.ne_of_lt (Nat.lt_succ_of_lt hal)⟩, fun b hb => ?_, q⟩
    have e' : b = s1.heap.objs.size + 1 ∨ b = s1.heap.objs.size := by simpa using hb
    have hle : s1.heap.objs.size ≤ b := by
      rcases e' with z | z
      · rw [z]; exact Nat.le_add_right _ _
      · rw [z]; exact Nat.le_refl _
    exact I1.fpOk hle (I1.hok.fresh hle)
end L2
namespace L2
open PySem PySem.Spec PyProof.Rows
theorem for_enumT {K : PySem.W.Frag} {a : Addr} {xs : List V} {g : TG} {tb : TS} {D : Ends} {σ : St} {H : Hp} (Pv : Nat → St → Hp → Prop) (h0 : Pv 0 σ H) (hl : ∀ i σ H, i ≤ xs.length → Pv i σ H → SqT K H a xs)
    (hs : ∀ i x σ H T, xs[i]? = some x → Pv i σ H → H T = none → g (.ref T) σ (upd H T (.tup [.int (i : Nat), x])) fun σ2 H2 => tb { D with nx := Pv (i + 1), ct := Pv (i + 1), bk := D.nx } σ2 H2)
    (hd : ∀ σ H, Pv xs.length σ H → D.nx σ H) :
    ∃ W : Nat → Nat → St → Hp → Prop, (∃ m, W 0 m σ H) ∧ ∀ i m σ H, W i m σ H →
      ((ItuE K a).stop i H ∧ D.nx σ H) ∨ ((ItuE K a).go i H ∧ ∃ N : St → Hp → Prop, (∀ σ' H', N σ' H' → ∃ m', m' < m ∧ W (i + 1) m' σ' H') ∧ ∀ x H', (ItuE K a).yld i H x H' → g x σ H' fun σ2 H2 => tb { D with nx := N, ct := N, bk := D.nx } σ2 H2) := by
  refine ⟨fun i m σ H => m = xs.length - i ∧ i ≤ xs.length ∧ Pv i σ H, ⟨xs.length, by simp, Nat.zero_le _, h0⟩, fun i m σ H hW => ?_⟩
  obtain ⟨em, hi, p⟩ := hW
  have q := hl i σ H hi p
  by_cases hlt : i < xs.length
  · refine .inr ⟨⟨xs, xs[i], q, List.getElem?_eq_getElem hlt⟩, Pv (i + 1), fun σ' H' p' => ⟨xs.length - (i + 1), by omega, rfl, hlt, p'⟩, fun x H' y => ?_⟩
    obtain ⟨T, x', ev, nT, eH, hx⟩ := y
    subst ev eH
    exact hs i x' σ H T (hx xs q) p nT
  · have ei : i = xs.length := by omega
    subst ei
    exact .inl ⟨⟨xs, q, Nat.le_refl _⟩, hd σ H p⟩
end L2

namespace L2
open PySem PySem.Spec PyProof.Rows
/-! ### o.m(e, .., k = v, ..) -/
def tMethN (C : Addr) (m : Str) (n j : Nat) (sp : Sp) (gV : List V → List V → List V) (E : XK) (ta : TE) (t tk : TA) : TE := fun σ H Q => ta σ H fun x H1 => ∃ a dx fs, x = .ref a ∧ H1 a = some (.ins C dx fs) ∧ fs.lookup m = none ∧
  t σ H1 fun vs H2 => tk σ H2 fun zs H3 => vs.length + 1 = n ∧ zs.length = j ∧ sp (gV (x :: vs) zs) H3 Q E
section
variable {X : Cx} {CX : CXT} {k n : Nat} {f C : Addr} {fd : FuncData} {ps ks : List Str} {sp : Sp} {E : XK} {m : Str} {pos apos : Pos} {e o : Expr} {es : List Expr} {kws : List Keyword} {ta : TE} {t tk : TA} {g : List Value → List Value → List Value} {gV : List V → List V → List V}
theorem pe_methN {pl : Sem Bool} (he : PE X o ta) (c : Cls X.K C) (hm : Meth X.K C m f) (F : FnOk X.prog X.w X.K X.mg X.base CX k f fd ps sp) (hr : Room k X.A) (hb : KBn X.K fd ps n ks g gV) (hx : Passes CX X E) (ha : PA X (e :: es) t) (hkw : PK X kws tk)
    (hall : (backToKw pos (keywordEach kws X.env)).all (·.1.isSome) = true := by rfl) (hks : (backToKw pos (keywordEach kws X.env)).filterMap (·.1) = ks := by rfl)
    (hst : starEach (e :: es) X.env = (false, eval e X.env) :: starEach es X.env := by rfl)
    (hpl : ((backTo pos (starEach (e :: es) X.env)).any (·.1) || (backToKw pos (keywordEach kws X.env)).any (·.1.isNone)) = false := by rfl)
    (ht : eval (.Call (.Attribute o m apos) (e :: es) kws pos) X.env = (do
      let ov ← eval o X.env
      standAt apos.atName
      let (f, first) ← holding [ov] (getMethod ov m pl)
      callWith pos f first (backTo pos (starEach (e :: es) X.env)) (backToKw pos (keywordEach kws X.env))) := by rfl) :
    PE X (.Call (.Attribute o m apos) (e :: es) kws pos) (tMethN C m n ks.length sp gV E ta t tk) := by
  refine ⟨fun pins s σ H Q I h => PySem.W.methodCall_KW (pl := pl) (thn (he.run pins s σ H _ I h) fun u s1 ⟨x, H1, I1, rx, a, dx, fs, ex, ea, l, q⟩ => ?_) ht⟩
  subst ex
  obtain rfl : u = Value.ref a := rx
  refine getmeth_ok I1 ea c hm l ?_
  refine PySem.W.callWith_KW (first := [.ref a]) (h₀ := X.base) I.ok.mod.kin hm.kp hall (thn (ha.run pos pins s1 σ H1 _ I1 q) fun us s2 ⟨vs, H2, I2, r, q2⟩ => ?_) hpl hst
  refine thn (hkw.run pos pins s2 σ H2 _ I2 q2) fun ws s3 ⟨zs, H3, I3, rz, l1, l2, q3⟩ => ⟨I3.kIn, ?_⟩
  rw [hks]
  exact run_fnN (us := .ref a :: us) (vs := .ref a :: vs) F hr hb hx I3 (.cons rfl r) rz l1 l2 q3
end
section
variable {P : Program} {w : World} {K : PySem.W.Frag} {mg : Str → Option Value} {base : Heap} {x qual : Str} {params : Arguments} {body : List Stmt} {scope : Scope} {dvs : List V} {kws : List (Str × V)} {f : Addr} {fd : FuncData}
/-- a def with defaults that lets nothing out -/
theorem FunD.ok0 {N ps : List Str} {k : Nat} {sp : Sp} (F : FunD K x qual params body scope dvs kws f fd) (S : FnScope N ps scope) (len : ∀ vs H Q E, sp vs H Q E → vs.length = ps.length)
    (hb : ∀ (cdv : Value) (A : Around) (outer : List Env) (s : Shared) (H : Hp) (vs : List V) (Q : VK) (E : XK), Room k (A.deeper (envOfC qual scope s.heap.objs.size f cdv)) → sp vs H Q E →
      ∃ t, PSs (cxOf CX0 P w K mg base N qual scope f cdv A outer s H E).nox body t ∧ t { nx := fun _ H' => Q .non H', rt := Q } (start N vs) H) : FnOk P w K mg base CX0 (k + 1) f fd ps sp :=
  F.ok S len fun cdv A outer s H vs Q E hr h => (hb cdv A outer s H vs Q E hr h).elim fun t ⟨h1, h2⟩ => ⟨t, h1.nox, h2⟩
end
end L2

namespace L2
open PySem PySem.Spec PyProof.Rows
/-! ### x op y by an own def of the class of both -/
def rOwnI (C : Addr) (sp : Sp) (E : XK) : R2 := fun x y H Q => ∃ a dx fs b dy gs, x = .ref a ∧ y = .ref b ∧ H a = some (.ins C dx fs) ∧ H b = some (.ins C dy gs) ∧ sp [x, y] H Q E
section
variable {X : Cx} {CX : CXT} {n : Nat} {C g : Addr} {fd : FuncData} {ps : List Str} {sp : Sp} {E : XK}
theorem op_cmpI {op : CmpOp} (hop : ∀ a b, compareOp op a b = richCompare op a b) (hs : PySem.W.findIn X.K (.ref C) (cmpInfo op).2.1 = some (some (.ref g))) (hf : PySem.W.isFn X.K (.ref g) = true)
    (F : FnOk X.prog X.w X.K X.mg X.base CX n g fd ps sp) (hr : Room n X.A) (hb : Binds X.K fd ps []) (hx : Passes CX X E) : OpR X (compareOp op) (rOwnI C sp E) := by
  intro pins s σ H x y v u Q I rx ry h
  obtain ⟨a, dx, fs, b, dy, gs, rfl, rfl, ha, hb', q⟩ := h
  cases rx
  cases ry
  obtain ⟨mA, J, _⟩ := ins_get I.hok ha
  obtain ⟨mB, J', _⟩ := ins_get I.hok hb'
  obtain ⟨od, J, _⟩ := J.look
  obtain ⟨od', J', _⟩ := J'.look
  obtain ⟨m, hF⟩ := I.fr
  rw [hop]
  refine PySem.W.cmp_K (op := op) (tb := .ref C) hr.units0 hF I.ok.mod.kin J J'.type (by simp [PySem.W.notFirst]) hs hf ?_
  refine wpAny_mono (run_fn (us := [.ref a, .ref b]) (vs := [.ref a, .ref b]) (dvs := []) F hr hb .nil hx I (.cons rfl (.cons rfl .nil)) q) (fun w s' z => ?_) fun _ _ x => x
  obtain ⟨z', H', I', rz, qz⟩ := z
  exact SlX.cmpback rz ⟨z', H', I', rz, qz⟩
theorem op_binI {op : Operator} (hc : PySem.W.selfFirst X.K C = true) (hs : PySem.W.findIn X.K (.ref C) (PySem.dunder op.info.2) = some (some (.ref g))) (hf : PySem.W.isFn X.K (.ref g) = true)
    (F : FnOk X.prog X.w X.K X.mg X.base CX n g fd ps sp) (hr : Room n X.A) (hb : Binds X.K fd ps []) (hx : Passes CX X E) : OpR X (binaryOp op) (rOwnI C sp E) := by
  intro pins s σ H x y v u Q I rx ry h
  obtain ⟨a, dx, fs, b, dy, gs, rfl, rfl, ha, hb', q⟩ := h
  cases rx
  cases ry
  obtain ⟨mA, J, _⟩ := ins_get I.hok ha
  obtain ⟨mB, J', _⟩ := ins_get I.hok hb'
  obtain ⟨od, J, _⟩ := J.look
  obtain ⟨od', J', _⟩ := J'.look
  obtain ⟨m, hF⟩ := I.fr
  refine PySem.W.binop_K (op := op) hF I.ok.mod.kin J J'.type hc hs hf ?_
  refine wpAny_mono (run_fn (us := [.ref a, .ref b]) (vs := [.ref a, .ref b]) (dvs := []) F hr hb .nil hx I (.cons rfl (.cons rfl .nil)) q) (fun w s' z => ?_) fun _ _ x => x
  obtain ⟨z', H', I', rz, qz⟩ := z
  exact SlX.cmpback rz ⟨z', H', I', rz, qz⟩
end
end L2

/-! ### errors whose __init__ says super().__init__(text) and stores one field -/
namespace PySem
namespace WX
open PySem.W PySem.Calls PyProof.Rows PySem.HandSPX
def iB (fl tx : Str) (q1 q2 q3 q4 q5 q6 q7 q8 q9 q10 : Pos) (j : Nat) : List Stmt :=
  [.Expr (.Call (.Attribute (.Call (.Name "super" q1) [] [] q2) "__init__" q3) [.Constant (.str tx) j q4] [] q5) q6, .Assign [.Attribute (.Name "self" q7) fl q8] (.Name fl q9) q10]
/-- what the top has written of the class cn, at C, and of its __init__, at fI -/
structure ExcTxt (P : Program) (K : Frag) (mg : Str → Option Value) (cn fl : Str) (C : Addr) where
  gC : mg cn = some (.ref C)
  cls : ∃ nm q N bs bm sn sub ab col dd k0 k1 k2 k3 k5, K.lookup C = some (excClassObj nm q C N bs bm true sn sub ab col dd k0 k1 k2 k3 k5 "ValueError.__new__") ∧ refsVE bm = true
  sa : findIn K (.ref C) "__setattr__" = some (some (.builtin "object.__setattr__"))
  ga : findIn K (.ref C) "__getattribute__" = some (some (.builtin "BaseException.__getattribute__"))
  gg : findIn K (.ref C) "__getattr__" = some none
  noN : findIn K (.ref C) fl = some none
  kC : keepIn K (.ref C) = true
  exC : subIn K (.ref C) (.type "BaseException") = some true
  tyC : typeIn K (.ref C) = some (.type "type")
  hdC : hasDictIn K C = true
  D : Addr
  clsD : ∃ oD cdD, K.lookup D = some oD ∧ oD.data = .cls cdD
  fI : Addr
  qual : Str
  tx : Str
  S : Stmt
  oc : Value
  od : Option Addr
  kV : Value
  doc : Value
  pm : Value
  an : Option Addr
  cda : Addr
  ct : Value
  osl : Array (Option Value)
  cc : Addr
  cl : Value
  cld : Option Addr
  csl : Array (Option Value)
  ccl : Value
  cdd : Option Addr
  vs : Array Value
  ccs : Array (Option Value)
  file : Str
  tf : Tok
  q1 : Pos
  q2 : Pos
  q3 : Pos
  q4 : Pos
  q5 : Pos
  q6 : Pos
  q7 : Pos
  q8 : Pos
  q9 : Pos
  q10 : Pos
  j : Nat
  pl : Sem Bool
  iC : findIn K (.ref C) "__init__" = some (some (.ref fI))
  tI : typeIn K (.ref fI) = some (.type "function")
  lI : K.lookup fI = some ⟨oc, od, .func (ksFn "__init__" qual (L2.defArgs S) (L2.defBody S) (L2.defScope S) .none kV doc pm an (.ref cda) ct cc), osl⟩
  cI : codeIn K (.ref cda) qual = true
  lcc : K.lookup cc = some ⟨cl, cld, .cell (some (.ref D)), csl⟩
  lcd : K.lookup cda = some ⟨ccl, cdd, .fields vs, ccs⟩
  hvs : vs[2]? = some (.str file tf)
  hfile : ((P.main.file : Str) == file) = true
  hpar : ∃ ar : Arg, ((L2.defArgs S).posonlyargs ++ (L2.defArgs S).args).head? = some ar ∧ ar.arg = "self"
  hbody : L2.defBody S = iB fl tx q1 q2 q3 q4 q5 q6 q7 q8 q9 q10 j
  hbind : ∀ x v : Value, bindArgs (ksFn "__init__" qual (L2.defArgs S) (L2.defBody S) (L2.defScope S) .none kV doc pm an (.ref cda) ct cc) ⟨[x, v], []⟩ = pure [(("self" : Str), x), (fl, v)]
  hev : ∀ L f : Addr, eval (.Call (.Attribute (.Call (.Name "super" q1) [] [] q2) "__init__" q3) [.Constant (.str tx) j q4] [] q5) (ksEnv qual (L2.defScope S) L f (.ref cda) cc) = (do
      let ov ← attributeBase (.Call (.Name "super" q1) [] [] q2) "__init__" (ksEnv qual (L2.defScope S) L f (.ref cda) cc) (eval (.Call (.Name "super" q1) [] [] q2) (ksEnv qual (L2.defScope S) L f (.ref cda) cc))
      standAt q3.atName
      let (g, first) ← holding [ov] (getMethod ov "__init__" pl)
      callWith q5 g first (backTo q5 (starEach [.Constant (.str tx) j q4] (ksEnv qual (L2.defScope S) L f (.ref cda) cc))) [])
  hk : (L2.defScope S).kind = .function
  hco : (L2.defScope S).isCoroutine = false
  hgen : (L2.defScope S).isGenerator = false
  hks : (L2.defScope S).names.lookup ("super" : Str) = some .globalImplicit
  hkc : (L2.defScope S).names.lookup ("__class__" : Str) = some .free
  hself : (L2.defScope S).names.lookup ("self" : Str) = some .local
  hfl : (L2.defScope S).names.lookup fl = some .local
  hcell : ∀ y ∈ (L2.defScope S).names, y.2 ≠ .cell
  nf : ("self" : Str) ≠ fl ∧ (fl == ("__debug__" : Str)) = false
  top : (P.main.scope.names.lookup ("super" : Str)).isSome = false
  sup : mg "super" = none
  opq : nsIn K cStatics "thirdparty.any" = some none
  nxt : ks_superIn K C D "__init__" = some (some (.builtin "ValueError.__init__"))
  slf : mroIn K C (.ref D) = some true
  sub : subIn K (.ref C) (.type "ValueError") = some true
section
variable {P : Program} {w : World} {A : Around} {E : Value → Shared → Prop} {R : Result → Shared → Prop} {s : Shared} {K : Frag} {mg : Str → Option Value} {cn fl : Str} {C : Addr}
/-- the method-wrapper of ValueError.__init__ called -/
theorem call_mw {h : Heap} {g : Array GenState} {d : Drawn} {t : Nat} {os : OsState} {nm q : Str} {N : Addr} {bs bm : List Value} {hdct : Bool} {sn : List Str} {sub : List Value} {ab : Bool} {col : Option Bool} {dd : Option Addr} {k0 k1 k2 k3 k5 : Option Value} {u e t0 : Addr} {rest : List Value} {Q : Value → Shared → Prop}
    (hC : h.get? C = some (excClassObj nm q C N bs bm hdct sn sub ab col dd k0 k1 k2 k3 k5 "ValueError.__new__")) (he : h.get? e = some (excO C t0)) (hu : h.get? u = some (kxs_mw "ValueError.__init__" e)) (hrest : rest.length ≤ sizeLine)
    (hq : ∀ h' t1, (∀ b o, b ≠ e → h.get? b = some o → h'.get? b = some o) → h'.get? e = some (excO C t1) → Q .none ⟨h', g, d, t, os⟩) :
    wpAny (model P w) A (call (.ref u) rest) Q E ⟨h, g, d, t, os⟩ := by
  refine wpAny_call (codeAny_of_tree ?_)
  show wpAny _ A.in1 (callAny (.ref u) ⟨rest, []⟩) _ _ _
  simp only [callAny]
  refine wpAny_bind (wpAny_load hu ?_)
  simp only [kxs_mw, show (Value.type "method-wrapper" == Value.type "method" || Value.type "method-wrapper" == Value.type "builtin_function_or_method" || Value.type "method-wrapper" == Value.type "method-wrapper") = true by decide, if_true]
  refine KFB.if_so (by decide) (wpAny_bind (check_bound_init PySem.F.excBase_ValueError.toExcCallFacts hC he rfl (wpAny_bind (wpAny_pure (wpAny_pure ?_)))))
  refine ⟨plainId_quiet PySem.F.excBase_ValueError.init.plain _, codeAny_builtin PySem.F.excBase_ValueError.initEntry ?_⟩
  exact exc_init_tree (cls := .ref C) (t0 := t0) (dv := none) (c2 := .none) (c3 := .none) (b4 := .bool false) he hrest fun h' k e' _ => hq h' _ k e'
/-- what __init__ leaves of a fresh exception at x -/
structure InitEnd (h h' : Heap) (x C dx : Addr) (fl : Str) (v : Value) : Prop where
  keep : ∀ b o, b ≠ x → h.get? b = some o → h'.get? b = some o
  obj : ∃ t1 : Addr, h'.get? x = some { cls := .ref C, dict := some dx, data := .fields #[.ref t1, .none, .none, .none, .bool false, .none] }
  dbig : h.objs.size ≤ dx
  dne : dx ≠ x
  ns : h'.Ns1 dx (fun y => if y = fl then some v else none)
theorem x_init (T : ExcTxt P K mg cn fl C) {x t0 : Addr} {v : Value} (X : K.In s.heap) (hlim : s.heap.NoLimit) (hG : s.heap.Ns mainGlobals mg) (hB : ∃ mb, s.heap.Ns builtinsNs mb ∧ ∀ y : Str, y ≠ "__name__" → mb y = bootBuiltins y)
    (hx : s.heap.get? x = some (excO C t0)) (hnx : K.lookup x = none) (hroom : A.depth < recursionLimit)
    (hq : ∀ h' tk dx, InitEnd s.heap h' x C dx fl v → R (.ok (.ret .none)) { s with heap := h', toks := tk }) :
    codeAny (model P w) A (.call (.ref T.fI) ⟨[.ref x, v], []⟩) R s := by
  obtain ⟨nm, q, N, bs, bm, sn, sub, ab, col, dd, k0, k1, k2, k3, k5, hC, hbm⟩ := T.cls
  obtain ⟨oD, cdD, hD, hDd⟩ := T.clsD
  have hcl : clsIn K C = some { name := nm, bases := bs, mro := .ref C :: bm, ns := N, qualname := q, hasDict := true, slotNames := sn, subclasses := sub, abstract := ab, collection := col, hasDel := false } := by unfold clsIn; rw [hC] <;> rfl
  have hxC : x ≠ C := fun z => by
    have e1 := X _ _ hC
    rw [← z, hx] at e1
    have e2 := congrArg (fun o : Option Obj => o.map (·.data)) e1
    simp [excO, excClassObj] at e2
  have ho := T.lI
  refine ks_codeAny_call_defAt (fd := ksFn "__init__" T.qual (L2.defArgs T.S) (L2.defBody T.S) (L2.defScope T.S) .none T.kV T.doc T.pm T.an (.ref T.cda) T.ct T.cc) (body := L2.defBody T.S) (binds := [("self", .ref x), (fl, v)])
    hroom (X _ _ ho) rfl hlim (codeRec_of X T.cI) rfl (BindsTo.of_eq (T.hbind _ _)) T.hcell ?hloc (fun h₁ hns hk₁ => ?_) T.hco T.hgen T.hk
  case hloc =>
    intro y hy
    simp only [List.mem_cons, List.not_mem_nil, or_false] at hy
    rcases hy with rfl | rfl
    · exact T.hself
    · exact T.hfl
  have X₁ : K.In h₁ := X.keeps hk₁
  have hx₁ := hk₁ _ _ hx
  have ms : (fun y : Str => ([("self", Value.ref x), (fl, v)] : List (Str × Value)).reverse.lookup y) "self" = some (.ref x) := by
    have z : (("self" : Str) == fl) = false := by simpa using T.nf.1
    simp [List.lookup, z]
  have mf : (fun y : Str => ([("self", Value.ref x), (fl, v)] : List (Str × Value)).reverse.lookup y) fl = some v := by simp [List.lookup]
  show wpAt _ (A.deeper (ksEnv T.qual (L2.defScope T.S) s.heap.objs.size T.fI (.ref T.cda) T.cc)) (.func (L2.defBody T.S) (ksEnv T.qual (L2.defScope T.S) s.heap.objs.size T.fI (.ref T.cda) T.cc)) (execs (L2.defBody T.S) (ksEnv T.qual (L2.defScope T.S) s.heap.objs.size T.fI (.ref T.cda) T.cc)) _ _ _
  rw [T.hbody]
  refine ks_wpAt_execs_cons (ks_wpAt_Expr_any (ks_wpAt_MethodCall ?_ (T.hev _ _)) (by unfold interactive; show ((L2.defScope T.S).kind == .module && _) = false; rw [T.hk]; rfl))
  obtain ⟨ar, hp, har⟩ := T.hpar
  obtain ⟨mb, hB1, hB2⟩ := hB
  refine ks_wpAt_super_base T.hks T.hkc (by decide +kernel) rfl (hk₁ _ _ (X _ _ ho)) rfl hp rfl (hk₁ _ _ (X _ _ T.lcd)) rfl T.hvs T.hfile T.top ?_
  refine ks_loadName_global T.hk T.hks (loadGlobal_builtin (hG.keeps hk₁) T.sup (hB1.keeps hk₁) ((hB2 _ (by decide +kernel)).trans PyProof.Rows.Boot.«super») ⟨rfl, ?_⟩)
  refine wpAny_loadName_free T.hk T.hkc rfl ⟨_, X₁ _ _ T.lcc, rfl⟩ ?_
  rw [har]
  refine wpAny_loadName_local T.hk T.hself hns ms ?_
  refine ks_wpAny_isType_cls (X₁ _ _ hD) hDd ⟨rfl, ?_⟩
  refine ks_wpAny_call_super (X₁ _ _ hD) hDd hx₁ rfl (fun c e => by cases e) (looks_mroIn X₁ T.slf) (fun h₂ e₂ k₂ => ?_)
  have X₂ : K.In h₂ := X₁.keeps k₂
  have hx₂ := k₂ _ _ hx₁
  have I₂ : InstAt h₂ x (excO C t0) C none := ⟨hx₂, rfl, rfl, trivial⟩
  have hnxt : alongIn K "__init__" (((Value.ref C :: bm).dropWhile (· != .ref T.D)).drop 1) = some (some (.builtin "ValueError.__init__")) := by
    have z := T.nxt
    unfold ks_superIn at z
    rw [hcl] at z
    exact z
  refine kxs_getMethod kxs_ValueError e₂ (looks_opaque X₂ T.opq) (l₀ := Value.ref C :: bm) (fun A Q E s k q => wpAny_bind ((looks_clsIn X₂ hcl) A _ E s k (wpAny_pure q))) rfl X₂ hnxt (I₂.type.andThen (looks_subIn X₂ T.sub)) hxC (by decide +kernel) ?_
  have k₃ : ∀ b o, h₂.get? b = some o → (h₂.push (kxs_mw "ValueError.__init__" x)).get? b = some o := fun b o e => Heap.get?_push_of_some _ e
  refine kxs_callWith (i := "ValueError.__init__") (x := x) rfl (evalArgs_plain (spliced_more (wpAny_Constant_str (spliced_none ?_))))
  refine ⟨Heap.get?_push_at rfl rfl, ?_⟩
  refine call_mw (k₃ _ _ (X₂ _ _ hC)) (k₃ _ _ hx₂) (Heap.get?_push_at rfl rfl) (by show 1 ≤ sizeLine; decide) fun h₄ t1 k₄ hx₄ => ?_
  have k14 : ∀ b o, b ≠ x → h₁.get? b = some o → h₄.get? b = some o := fun b o hb e => k₄ b o hb (k₃ _ _ (k₂ _ _ e))
  have hxL : s.heap.objs.size ≠ x := Nat.ne_of_gt (Heap.lt_size hx)
  have hns₄ : h₄.Ns s.heap.objs.size (fun y : Str => ([("self", Value.ref x), (fl, v)] : List (Str × Value)).reverse.lookup y) := by
    obtain ⟨oL, es, ep, hL, r⟩ := hns
    exact ⟨oL, es, ep, k14 _ _ hxL hL, r⟩
  have X₄ : K.In h₄ := fun b o e => k14 b o (fun z => by rw [z, hnx] at e; cases e) (X₁ _ _ e)
  refine ks_wpAt_execs_cons (ks_wpAt_Assign_Attr (wpAt_of_wpAny (wpAny_Name (wpAny_loadName_local T.hk T.hfl hns₄ mf ?_) T.nf.2)))
  refine wpAny_Name (wpAny_loadName_local T.hk T.hself hns₄ ms ?_)
  refine set_plain X₄ (ox := excO C t1) (od := none) ⟨hx₄, rfl, rfl, trivial⟩ T.sa ?_
  refine exc_osa X₄ hx₄ hcl (show refsVE (.ref C :: bm) = true from hbm) rfl T.noN (fun h₅ tk₅ dx k₅ dn dne hx₅ hn₅ => ?_)
  exact wpAt_of_wpAny (wpAny_execs_nil (hq h₅ tk₅ dx ⟨fun b o hb e => k₅ b o hb (k14 b o hb (hk₁ b o e)), ⟨t1, hx₅⟩, Nat.le_trans (Nat.le_of_lt hns₄.lt) dn, dne, hn₅⟩))
/-- a made error -/
structure OwnMade (h h' : Heap) (e C d : Addr) (fl : Str) (v : Value) : Prop where
  keep : ∀ b o, h.get? b = some o → h'.get? b = some o
  new : h.objs.size ≤ e
  obj : ∃ oe vs, h'.get? e = some oe ∧ oe.cls = .ref C ∧ oe.dict = some d ∧ oe.data = .fields vs ∧ vs[1]? = some .none
  dbig : h.objs.size ≤ d
  dne : d ≠ e
  ns : h'.Ns1 d (fun y => if y = fl then some v else none)
theorem x_made (T : ExcTxt P K mg cn fl C) {v : Value} (X : K.In s.heap) (hlim : s.heap.NoLimit) (hG : s.heap.Ns mainGlobals mg) (hB : ∃ mb, s.heap.Ns builtinsNs mb ∧ ∀ y : Str, y ≠ "__name__" → mb y = bootBuiltins y) (hroom : A.depth + 1 < recursionLimit)
    (hq : ∀ h' tk e d, OwnMade s.heap h' e C d fl v → R (.ok (.ret (.ref e))) { s with heap := h', toks := tk }) :
    codeAny (model P w) A (.call (.ref C) ⟨[v], []⟩) R s := by
  obtain ⟨nm, q, N, bs, bm, sn, sub, ab, col, dd, k0, k1, k2, k3, k5, hC, hbm⟩ := T.cls
  obtain ⟨hp, g, dr, tk, os⟩ := s
  have k : ∀ b o, hp.get? b = some o → ((hp.push (kdv_tup [v])).push (excO C hp.objs.size)).get? b = some o := fun b o e => Heap.get?_push_of_some _ (Heap.get?_push_of_some _ e)
  have hget : ((hp.push (kdv_tup [v])).push (excO C hp.objs.size)).get? (hp.objs.size + 1) = some (excO C hp.objs.size) := by heap_get
  have hnx : K.lookup (hp.objs.size + 1) = none := by
    cases e : K.lookup (hp.objs.size + 1) with
    | none => rfl
    | some o => exact absurd (Nat.lt_of_succ_lt (Heap.lt_size (show hp.get? (hp.objs.size + 1) = some o from X _ _ e))) (Nat.lt_irrefl _)
  obtain ⟨mb, hB1, hB2⟩ := hB
  refine call_own PySem.F.excBase_ValueError (fun X => refsVE_contains X bm hbm) (X _ _ hC) (looks_findIn X T.iC) (fun self => bind_fn X self T.tI) (by show 1 ≤ sizeLine; decide) ?_
  refine x_init (s := ⟨(hp.push (kdv_tup [v])).push (excO C hp.objs.size), g, dr, tk, os⟩) T (X.keeps k) (hlim.keeps k) (hG.keeps k) ⟨mb, hB1.keeps k, hB2⟩ hget hnx (show A.depth + 1 < recursionLimit from hroom) fun h' tk' dx ⟨k', ⟨t1, hx⟩, dn, dne, hns⟩ => ?_
  have old : ∀ b o, hp.get? b = some o → h'.get? b = some o := fun b o e => k' b o (Nat.ne_of_lt (Nat.lt_succ_of_lt (Heap.lt_size e))) (k b o e)
  have z : hp.objs.size + 1 + 1 ≤ dx := by
    first
      | (simpa only [Heap.size_push] using dn)
      | exact dn
      | (have q := dn; rw [Heap.size_push, Heap.size_push] at q; exact q)
  exact ⟨rfl, hq h' tk' (hp.objs.size + 1) dx ⟨old, Nat.le_succ _, ⟨_, _, hx, rfl, rfl, rfl, rfl⟩, Nat.le_trans (Nat.le_trans (Nat.le_succ _) (Nat.le_succ _)) z, dne, hns⟩⟩
end
end WX
end PySem
namespace L2
open PySem PySem.Spec PyProof.Rows
theorem relO_x {v : V} {v' : Value} (fl : Str) (r : RelV v v') (f : Str) : RelO (List.lookup f [(fl, v)]) (if f = fl then some v' else none) := by
  by_cases hw : f = fl
  · subst hw
    rw [if_pos rfl, show List.lookup f [(f, v)] = some v by simp [List.lookup]]
    exact r
  · rw [if_neg hw, show List.lookup f [(fl, v)] = none by simp [List.lookup, show (f == fl) = false by simpa using hw]]
    trivial
section
variable {X : Cx} {C : Addr} {cn fl : Str}
/-- cn(e) -/
def tMkX (C : Addr) (fl : Str) (ta : TA) : St → Hp → XK → Prop := fun σ H Q => ta σ H fun vs H1 => ∃ v, vs = [v] ∧ ∀ d, H1 d = none → Q (.ref C) (some d) (upd H1 d (.xd [(fl, v)]))
theorem pmk_x {a : Expr} {ta : TA} {p pos : Pos} {k : Nat} (T : PySem.WX.ExcTxt X.prog X.K X.mg cn fl C) (hr : Room k X.A) (ha : PA X [a] ta) (hg : Gl X cn := by rfl) (hdb : (cn == ("__debug__" : Str)) = false := by decide)
    (he : starEach (a :: []) X.env = (false, eval a X.env) :: starEach [] X.env := by rfl) (hpl : (backTo pos (starEach [] X.env)).any (·.1) = false := by rfl) :
    PMk X (.Call (.Name cn p) [a] [] pos) (tMkX C fl ta) := by
  intro pins s σ H Q I h
  refine wpAny_Call_Name_kw (ld_glob I hg T.gC ?_ hdb)
  refine PySem.W.callWith_K (h₀ := X.base) I.ok.mod.kin T.kC (thn (ha.run pos pins s σ H _ I h) fun us s1 hh => ?_) he hpl
  obtain ⟨vs, H1, I1, r1, v, ev, q1⟩ := hh
  subst ev
  refine ⟨I1.kIn, ?_⟩
  cases r1 with
  | cons rv rn =>
    rename_i v' us'
    cases rn
    show wpAny _ _ (call (.ref C) [v']) _ _ _
    have hlim := I1.nolimit
    have hG := I1.mod.glob.keeps I1.bk
    obtain ⟨mb, hB1, hB2⟩ := I1.mod.blt
    have hB1' := hB1.keeps I1.bk
    obtain ⟨hp, g, dr, tk, os⟩ := s1
    refine wpAny_call (PySem.WX.x_made T I1.kIn hlim hG ⟨mb, hB1', hB2⟩ (by have := hr.dp; omega) fun h' tk' e d M => ?_)
    show MkP X pins σ Q (.ref e) ⟨h', g, dr, tk', os⟩
    obtain ⟨oe, fv, hoe, hc, hd, hdat, h1⟩ := M.obj
    obtain ⟨G', g1, g2⟩ := restrict h' fun b => decide (b ≠ e)
    have gk : ∀ b, b ≠ e → G'.get? b = h'.get? b := fun b hb => g1 b (decide_eq_true hb)
    have ge : G'.get? e = none := g2 e (by simp)
    have old : ∀ b o, hp.get? b = some o → G'.get? b = some o := fun b o q => (gk b (Nat.ne_of_lt (Nat.lt_of_lt_of_le (Heap.lt_size q) M.new))).trans (M.keep b o q)
    have ob : ObjOk X.prog X.w (upd H1 d (.xd [(fl, v)])) G' d (.xd [(fl, v)]) := ⟨_, M.ns.at (fun o q => (gk d M.dne).trans q), fun f => relO_x fl rv f⟩
    have J : Inv X pins σ (upd H1 d (.xd [(fl, v)])) ⟨G', g, dr, tk', os⟩ := I1.laid (t' := tk') old M.dbig ob
    refine ⟨e, oe, fv, ⟨G', g, dr, tk', os⟩, _, .ref C, some d, rfl, J, fun b o q => ?_, ge, hoe, ⟨hc, hd⟩, hdat, h1, ?_, rfl, I1.bare, raises_own T.exC T.tyC, q1 d (I1.hok.fresh M.dbig)⟩
    · by_cases hb : b = e
      · have q' : G'.get? b = some o := q
        rw [hb, ge] at q'; cases q'
      · exact (gk b hb).symm.trans q
    · rw [upd_ne (Ne.symm M.dne)]
      exact I1.hok.fresh M.new
/-- raise cn(e) -/
def tRaiseX (C : Addr) (fl : Str) (W : WX) (ta : TA) : TS := fun _ σ H => tMkX C fl ta σ H fun cls d H' => W cls d σ H'
theorem ps_raiseX {a : Expr} {ta : TA} {W : WX} {p pos pos2 : Pos} {k : Nat} (hc : X.calm = true) (T : PySem.WX.ExcTxt X.prog X.K X.mg cn fl C) (hr : Room k X.A) (tk : Takes X W) (ha : PA X [a] ta) (hg : Gl X cn := by rfl) (hdb : (cn == ("__debug__" : Str)) = false := by decide)
    (he : starEach (a :: []) X.env = (false, eval a X.env) :: starEach [] X.env := by rfl) (hpl : (backTo pos (starEach [] X.env)).any (·.1) = false := by rfl) :
    PS X (.Raise (some (.Call (.Name cn p) [a] [] pos)) none pos2) (tRaiseX C fl W ta) := ps_raise hc tk (pmk_x T hr ha hg hdb he hpl)
end
end L2

namespace L2
open PySem PySem.Spec PyProof.Rows
/-! ### in an except suite: isinstance(e, c) and e.f, e an own error with a dict -/
structure XC (K : PySem.W.Frag) (D : Addr) : Prop where
  ga : PySem.W.findIn K (.ref D) "__getattribute__" = some (some (.builtin "BaseException.__getattribute__"))
  gg : PySem.W.findIn K (.ref D) "__getattr__" = some none
  hs : PySem.W.subIn K (.ref D) (.type "BaseException") = some true
  hd : PySem.W.hasDictIn K D = true
  ha : PySem.W.findIn K (.ref D) "__class__" = some (some (.builtin "object.__class__"))
  hn : PySem.W.specialIn K (.builtin "object.__class__") "__get__" = some (some (.builtin "getset_descriptor.__get__"))
  ht : PySem.W.takesIn K (.builtin "object.__class__") = some true
  hm : PySem.W.mroIn K D (.type "object") = some true
def rIsX (K : PySem.W.Frag) (a : Addr) (cls : Value) (d : Option Addr) : List V → Hp → VK → Prop := fun xs H Q => ∃ (D dd : Addr) (fs : List (Str × V)) (c : V) (cv : Value) (b : Bool), cls = .ref D ∧ d = some dd ∧ H dd = some (.xd fs) ∧ XC K D ∧ xs = [.ref a, c] ∧ ClsV c cv ∧ PySem.W.kitOne K (.ref D) cv = some b ∧ Q (.bl b) H
theorem call_isX {X : Cx} {a : Addr} {oe : Obj} {cls : Value} {d : Option Addr} {pn : List (Addr × Obj)} (hz : Zc cls d oe) (hf : ∃ vs, oe.data = .fields vs) : CallR (X.suite a ((a, oe) :: pn)) (.builtin "isinstance") (rIsX X.K a cls d) := by
  intro pins s σ H xs us Q I r h
  obtain ⟨D, dd, fs, c, cv, b, rfl, rfl, hdd, C, rfl, hcv, e, q⟩ := h
  cases r with
  | cons rx rr =>
    cases rr with
    | cons rt rr =>
      cases rr
      cases rx
      have ec := hcv.eq rt
      subst ec
      obtain ⟨hget, _⟩ := I.pin (a, oe) (List.mem_append.mpr (.inl List.mem_cons_self))
      obtain ⟨vs, hv⟩ := hf
      have hx : ObjOk X.prog X.w H s.heap dd (.xd fs) := I.hok dd _ hdd
      obtain ⟨mA, hns, hr⟩ := hx
      obtain ⟨od, ho, hl⟩ := lookIn_ns hns
      have J : PySem.W.InstAt s.heap a oe D (some od) := ⟨hget, hz.1, by unfold PySem.W.notCls; rw [hv] <;> rfl, by rw [hz.2]; exact ho⟩
      obtain ⟨cd, hc, _⟩ := PySem.W.any_some C.hd
      exact PySem.W.kia_one (PySem.W.kitx_exc (by rw [hc]; rfl) C.ga C.gg C.hs C.ha C.hn C.ht C.hm) I.kIn J e (fun z => nomatch z) fun tk => ⟨.bl b, H, I.kept (t' := tk) fun _ _ z => z, rfl, q⟩
/-- e.f: the reading names the class -/
def tXfX (K : PySem.W.Frag) (a : Addr) (cls : Value) (d : Option Addr) (f : Str) (te : TE) : TE := fun σ H Q => te σ H fun x H1 => x = .ref a ∧ ∃ (C dd : Addr) (fs : List (Str × V)) (v : V), cls = .ref C ∧ XC K C ∧ PySem.W.findIn K (.ref C) f = some none ∧ d = some dd ∧ H1 dd = some (.xd fs) ∧ fs.lookup f = some v ∧ Q v H1
theorem pe_xfX {X : Cx} {a : Addr} {oe : Obj} {cls : Value} {d : Option Addr} {pn : List (Addr × Obj)} {e : Expr} {te : TE} {pos : Pos} {n : Str}
    (hz : Zc cls d oe) (hf : ∃ vs, oe.data = .fields vs) (he : PE (X.suite a ((a, oe) :: pn)) e te) (hb : attributeBase e n X.env (eval e X.env) = eval e X.env := by rfl) :
    PE (X.suite a ((a, oe) :: pn)) (.Attribute e n pos) (tXfX X.K a cls d n te) := by
  refine ⟨fun pins s σ H Q I h => ?_⟩
  refine attr_of hb (thn (he.run pins s σ H _ I h) fun u s1 hh => ?_)
  obtain ⟨x, H1, I1, rx, ex, C, dd, fs, v, ec, T, hno, ed, ea, l, q⟩ := hh
  subst ex
  obtain rfl : u = Value.ref a := rx
  subst ec
  subst ed
  obtain ⟨ha, _⟩ := I1.pin (a, oe) (List.mem_append_left _ List.mem_cons_self)
  obtain ⟨vs, hd⟩ := hf
  have hx : ObjOk X.prog X.w H1 s1.heap dd (.xd fs) := I1.hok dd _ ea
  obtain ⟨mA, hns, hr⟩ := hx
  obtain ⟨od, ho, hl⟩ := lookIn_ns hns
  obtain ⟨u, hu, ru⟩ := RelO.some_of (v := v) (o := mA n) (by rw [← l]; exact hr n)
  have J : PySem.W.InstAt s1.heap a oe C (some od) := ⟨ha, hz.1, by unfold PySem.W.notCls; rw [hd] <;> rfl, by rw [hz.2]; exact ho⟩
  exact HandSPX.exc_get I1.kIn J T.ga T.gg T.hs (PySem.W.findObj_own T.hd hno rfl (by rw [hl, hu])) (handed_of ru) ⟨v, H1, I1.tok _, ru, q⟩
/-! ### calls in a try's body: the way out sees the slots -/
def tMethW (C : Addr) (m : Str) (sp : Sp) (dvs : List V) (E : St → XK) (ta : TE) (t : TA) : TE := fun σ H Q => tMeth C m sp dvs (E σ) ta t σ H Q
section
variable {X : Cx} {CX : CXT} {k : Nat} {f C : Addr} {fd : FuncData} {ps : List Str} {sp : Sp} {dvs : List V} {ds : List Value} {E : St → XK} {x m : Str} {p pos apos : Pos} {e o : Expr} {es : List Expr} {ta : TE} {t : TA}
theorem pe_methW {pl : Sem Bool} (he : PE X o ta) (c : Cls X.K C) (hm : Meth X.K C m f) (F : FnOk X.prog X.w X.K X.mg X.base CX k f fd ps sp) (hr : Room k X.A) (hb : Binds X.K fd ps ds) (hd : Vals dvs ds) (hx : ∀ σ, PassesAt CX X σ (E σ)) (ha : PA X (e :: es) t)
    (hst : starEach (e :: es) X.env = (false, eval e X.env) :: starEach es X.env := by rfl) (hpl : (backTo pos (starEach es X.env)).any (·.1) = false := by rfl)
    (ht : eval (.Call (.Attribute o m apos) (e :: es) [] pos) X.env = (do
      let ov ← eval o X.env
      standAt apos.atName
      let (f, first) ← holding [ov] (getMethod ov m pl)
      callWith pos f first (backTo pos (starEach (e :: es) X.env)) (backToKw pos (keywordEach [] X.env))) := by rfl) :
    PE X (.Call (.Attribute o m apos) (e :: es) [] pos) (tMethW C m sp dvs E ta t) := by
  refine ⟨fun pins s σ H Q I h => ?_⟩
  refine PySem.W.methodCall_KW (pl := pl) (thn (he.run pins s σ H _ I h) fun u s1 ⟨x, H1, I1, rx, a, dx, fs, ex, ea, l, q⟩ => ?_) ht
  subst ex
  obtain rfl : u = Value.ref a := rx
  refine getmeth_ok I1 ea c hm l ?_
  refine PySem.W.callWith_K (first := [.ref a]) (h₀ := X.base) I.ok.mod.kin hm.kp (thn (ha.run pos pins s1 σ H1 _ I1 q) fun us s2 ⟨vs, H2, I2, r, q2⟩ => ⟨I2.kIn, ?_⟩) hst hpl
  exact run_fnSD (us := .ref a :: us) (vs := .ref a :: vs) F hr hb hd (hx σ) I2 (.cons rfl r) q2
end
end L2

namespace L2
open PySem PySem.Spec PyProof.Rows
/-- a def that raises nothing where nothing may be raised -/
theorem FnOk.calm {P : Program} {w : World} {K : PySem.W.Frag} {mg : Str → Option Value} {base : Heap} {k : Nat} {f : Addr} {fd : FuncData} {ps : List Str} {sp : Sp} (F : FnOk P w K mg base (L2.CX P w) k f fd ps sp) :
    FnOk P w K mg base CX0 k f fd ps (fun vs H Q _ => sp vs H Q fun _ _ _ => False) :=
  ⟨fun vs H Q _ h => F.len vs H Q _ h, fun A outer s H args us vs Q _ hr he hb hv hs => codeAny_mono (F.run A outer s H args us vs Q _ hr he hb hv hs) fun r s' hq => by
    cases r with
    | error e =>
      obtain ⟨_, _, _, _, _, _, _, _, _, _, _, _, h⟩ := hq
      exact h.elim
    | ok fl =>
      cases fl with
      | ret u => exact hq
      | next => exact hq
      | brk => exact hq
      | cont => exact hq⟩
/-- the way out of a def as its own caller's -/
theorem passX {X : Cx} {E : XK} (tk : Takes X (fun cls d _ H => E cls d H)) : Passes (L2.CX X.prog X.w) X E := passes_call tk fun _ _ _ _ h => h
end L2

namespace L2
open PySem
def gSeq (K : PySem.W.Frag) (n : Nat) (t : TGs) : TG := fun v σ H Q => gTup K n t v σ H Q ∨ gLst K n t v σ H Q
theorem pg_seq {X : Cx} {es : List Expr} {k : Nat} {t : TGs} {n : Nat} {pos : Pos} (hc : X.calm = true) (h : PGs X es t)
    (hn : (assignEach es X.env).length = n := by rfl) (hst : (assignEach es X.env).findIdx? (·.1) = none := by rfl) : PG X (.Tuple es k pos) (gSeq X.K n t) :=
  ⟨fun pins s σ H v u Q I r hw => hw.elim (fun w => (pg_tup hc h hn hst).run pins s σ H v u Q I r w) (fun w => (pg_lst hc h hn hst).run pins s σ H v u Q I r w)⟩
end L2
namespace L2
open PySem
theorem gSeq_of {K : PySem.W.Frag} {n : Nat} {t : TGs} {p : Addr} {xs : List V} {σ : L2.St} {H : Hp} {Q : L2.St → Hp → Prop} (h : H p = some (.tup xs) ∨ H p = some (.lst xs)) (hn : xs.length = n) (q : t xs σ H Q) : gSeq K n t (.ref p) σ H Q := by
  rcases h with h | h
  · exact .inl ⟨p, xs, rfl, SqT.of h, hn, q⟩
  · exact .inr ⟨p, xs, rfl, SqL.of h, hn, q⟩
end L2

namespace L2
open PySem PySem.Spec PyProof.Rows
/-! ### own objects where a built-in asks them: o[k], x in o, len(o), str(o), for x in o, C.m(..) of a staticmethod -/
section
variable {X : Cx} {CX : CXT} {k : Nat} {f C a dx : Addr} {fs : List (Str × V)} {fd : FuncData} {ps : List Str} {sp : Sp} {E : XK} {pins : List (Addr × Obj)} {σ : St} {H : Hp} {s : Shared} {Q : VK} {us : List Value} {vs : List V}
/-- a def's call from within a built-in -/
theorem run_sub {A1 : Around} (hf : A1.frames = some X.stack) (F : FnOk X.prog X.w X.K X.mg X.base CX k f fd ps sp) (hr : Room k A1) (hb : Binds X.K fd ps []) (hx : Passes CX X E) (I : Inv X pins σ H s) (r : Vals vs us) (h : sp vs H Q E) :
    wpAny (model X.prog X.w) A1 (call (.ref f) us) (EP X pins σ Q) X.xe s := by
  have hl : (us ++ []).length = ps.length := by rw [List.append_nil, ← r.length]; exact F.len _ _ _ _ h
  have e := I.env0
  have bt := hb s us I.kIn hl
  rw [List.append_nil] at bt
  refine wpAny_call (codeAny_mono (F.run A1 X.stack s H ⟨us, []⟩ us vs Q E hr ⟨hf, e.mod, e.bs, e.bsz, e.funs, e.frf, e.hok, e.bare⟩ bt r h) fun r s' hq => ?_)
  match r, hq with
  | .error e, hq => exact hx pins σ H s e s' I hq
  | .ok (.ret u), hq => exact I.after hq
theorem stack_of (I : Inv X pins σ H s) : X.A.frames = some X.stack := I.env0.frames
theorem inst_of (I : Inv X pins σ H s) (h : H a = some (.ins C dx fs)) : ∃ ox od, PySem.W.InstAt s.heap a ox C (some od) := by
  obtain ⟨mA, J, _⟩ := ins_get I.hok h
  obtain ⟨od, J, _⟩ := J.look
  exact ⟨_, od, J⟩
/-- o[k] by the class's own def -/
def rGetI (C : Addr) (sp : Sp) (E : XK) : R2 := fun x y H Q => ∃ a dx fs, x = .ref a ∧ H a = some (.ins C dx fs) ∧ sp [x, y] H Q E
theorem pe_getI {ea eb : Expr} {ta tb : TE} {pos : Pos} (m : Meth X.K C "__getitem__" f) (hfi : PySem.W.fnIn X.K f = true) (F : FnOk X.prog X.w X.K X.mg X.base CX k f fd ps sp) (hr : Room (k + 1) X.A) (hb : Binds X.K fd ps []) (hx : Passes CX X E)
    (ha : PE X ea ta) (hbe : PE X eb tb) (hsl : ∀ (x : Addr) (i : Value), subscripted eb true (.ref x) i = runValue (.builtin "lifetime.subscript" ⟨[.ref x, i], []⟩) := by intro _ _; with_unfolding_all rfl) : PE X (.Subscript ea eb pos) (tOp (rGetI C sp E) ta tb) := by
  refine ⟨fun pins s σ H Q I h => ?_⟩
  refine Subscript_ (binT ha hbe I h fun v u s2 x y H2 I2 rx ry q => ?_)
  obtain ⟨a, dx, fs, rfl, ho, q⟩ := q
  cases rx
  obtain ⟨ox, od, J⟩ := inst_of I2 ho
  obtain ⟨mf, hF⟩ := I2.fr
  exact PySem.W.sub_K hF I2.ok.mod.kin J m.at_ hfi m.fn (run_sub (A1 := X.A.in1) (us := [.ref a, u]) (vs := [.ref a, y]) (stack_of I2) F hr.in1 hb hx I2 (.cons rfl (.cons ry .nil)) q) (hsl a u)
/-- x in o, x not in o -/
def rInI (C : Addr) (sp : Sp) (E : XK) (neg : Bool) : R2 := fun x y H Q => ∃ a dx fs, y = .ref a ∧ H a = some (.ins C dx fs) ∧ sp [y, x] H (fun v H' => ∃ b : Bool, v = .bl b ∧ Q (.bl (if neg then !b else b)) H') E
theorem truth_bl {A : Around} {E' : Value → Shared → Prop} {b : Bool} {s : Shared} {Qb : Bool → Shared → Prop} (h : Qb b s) : wpAny (model X.prog X.w) A (truthy (.bool b)) Qb E' s := by
  unfold truthy
  exact wpAny_pure h
theorem op_inI (m : Meth X.K C "__contains__" f) (F : FnOk X.prog X.w X.K X.mg X.base CX k f fd ps sp) (hr : Room k X.A) (hb : Binds X.K fd ps []) (hx : Passes CX X E) : OpR X (compareOp .In) (rInI C sp E false) := by
  intro pins s σ H x y v u Q I rx ry h
  obtain ⟨a, dx, fs, rfl, ho, q⟩ := h
  cases ry
  obtain ⟨ox, od, J⟩ := inst_of I ho
  obtain ⟨mf, hF⟩ := I.fr
  refine PySem.W.in_K hF I.ok.mod.kin J m.at_ m.fn (thn (run_sub (us := [.ref a, v]) (vs := [.ref a, x]) (stack_of I) F hr hb hx I (.cons rfl (.cons rx .nil)) q) fun r s' z => ?_)
  obtain ⟨z1, H1, I1, r1, b, rfl, q1⟩ := z
  cases r1
  exact truth_bl ⟨.bl b, H1, I1, rfl, q1⟩
theorem op_ninI (m : Meth X.K C "__contains__" f) (F : FnOk X.prog X.w X.K X.mg X.base CX k f fd ps sp) (hr : Room k X.A) (hb : Binds X.K fd ps []) (hx : Passes CX X E) : OpR X (compareOp .NotIn) (rInI C sp E true) := by
  intro pins s σ H x y v u Q I rx ry h
  obtain ⟨a, dx, fs, rfl, ho, q⟩ := h
  cases ry
  obtain ⟨ox, od, J⟩ := inst_of I ho
  obtain ⟨mf, hF⟩ := I.fr
  refine PySem.W.notIn_K hF I.ok.mod.kin J m.at_ m.fn (thn (run_sub (us := [.ref a, v]) (vs := [.ref a, x]) (stack_of I) F hr hb hx I (.cons rfl (.cons rx .nil)) q) fun r s' z => ?_)
  obtain ⟨z1, H1, I1, r1, b, rfl, q1⟩ := z
  cases r1
  exact truth_bl ⟨.bl (!b), H1, I1, rfl, q1⟩
/-- len(o) -/
def rLenI (C : Addr) (sp : Sp) (E : XK) : List V → Hp → VK → Prop := fun xs H Q => ∃ a dx fs, xs = [.ref a] ∧ H a = some (.ins C dx fs) ∧ sp [.ref a] H (fun v H' => ∃ n : Int, v = .int n ∧ 0 ≤ n ∧ n < 2 ^ 63 ∧ Q (.int n) H') E
theorem call_lenI (m : Meth X.K C "__len__" f) (F : FnOk X.prog X.w X.K X.mg X.base CX k f fd ps sp) (hr : Room (k + 1) X.A) (hb : Binds X.K fd ps []) (hx : Passes CX X E) : CallR X (.builtin "len") (rLenI C sp E) := by
  intro pins s σ H xs us Q I r h
  obtain ⟨a, dx, fs, rfl, ho, q⟩ := h
  obtain ⟨u, rfl, ru⟩ := vals1 r
  cases ru
  obtain ⟨ox, od, J⟩ := inst_of I ho
  obtain ⟨mf, hF⟩ := I.fr
  refine PySem.W.len_K hF I.ok.mod.kin J m.at_ m.fn (thn (run_sub (A1 := X.A.in1) (us := [.ref a]) (vs := [.ref a]) (stack_of I) F hr.in1 hb hx I (.cons rfl .nil) q) fun r s' z => ?_)
  obtain ⟨z1, H1, I1, r1, n, rfl, h0, h1, q1⟩ := z
  obtain ⟨t, rfl⟩ := r1
  exact ⟨⟨h0, h1⟩, .int n, H1, I1.tok _, ⟨_, rfl⟩, q1⟩
/-- str(o) -/
def rStrI (C : Addr) (sp : Sp) (E : XK) : List V → Hp → VK → Prop := fun xs H Q => ∃ a dx fs, xs = [.ref a] ∧ H a = some (.ins C dx fs) ∧ sp [.ref a] H (fun v H' => ∃ z : Str, v = .str z ∧ Q (.str z) H') E
theorem call_strI (m : Meth X.K C "__str__" f) (F : FnOk X.prog X.w X.K X.mg X.base CX k f fd ps sp) (hr : Room (k + 2) X.A) (hb : Binds X.K fd ps []) (hx : Passes CX X E) : CallR X (.type "str") (rStrI C sp E) := by
  intro pins s σ H xs us Q I r h
  obtain ⟨a, dx, fs, rfl, ho, q⟩ := h
  obtain ⟨u, rfl, ru⟩ := vals1 r
  cases ru
  obtain ⟨ox, od, J⟩ := inst_of I ho
  have hr2 : Room k X.A.in1.in1 := hr.in1.in1
  refine PySem.W.kso_call hr2.units0 I.kIn J m.at_ m.fn (thn (run_sub (A1 := X.A.in1.in1) (us := [.ref a]) (vs := [.ref a]) (stack_of I) F hr2 hb hx I (.cons rfl .nil) q) fun r s' z => ?_)
  obtain ⟨z1, H1, I1, r1, y, rfl, q1⟩ := z
  obtain ⟨t, rfl⟩ := r1
  exact ⟨.str y, H1, I1, ⟨_, rfl⟩, q1⟩
end
/-! ### a staticmethod through its class -/
structure SMet (K : PySem.W.Frag) (C : Addr) (mc : Value) (m : Str) (p g : Addr) : Prop where
  at_ : PySem.W.findCls K (.ref C) mc m = some (.get (.builtin "staticmethod.__get__") (.ref p) .none (.ref C))
  rc : ∃ rest, PySem.W.recIn K p "staticmethod" = some (.ref g :: rest)
  kp : PySem.W.keepIn K (.ref g) = true
def tSMeth (C : Addr) (sp : Sp) (E : XK) (ta : TE) (t : TA) : TE := fun σ H Q => ta σ H fun x H1 => x = .ref C ∧ t σ H1 fun vs H2 => sp vs H2 Q E
section
variable {X : Cx} {CX : CXT} {k : Nat} {C p g : Addr} {mc : Value} {fd : FuncData} {ps : List Str} {sp : Sp} {E : XK} {o e : Expr} {es : List Expr} {m : Str} {pos apos : Pos} {ta : TE} {t : TA} {pl : Sem Bool}
theorem getsm_ok {pins : List (Addr × Obj)} {σ : St} {H : Hp} {s : Shared} {A : Around} {E' : Value → Shared → Prop} {Q : Value × List Value → Shared → Prop} (I : Inv X pins σ H s) (r : ClX.CRead X.K C mc) (c : SMet X.K C mc m p g)
    (h : ∀ s', Inv X pins σ H s' → Q (.ref g, []) s') : wpAny (model X.prog X.w) A (getMethod (.ref C) m pl) Q E' s := by
  obtain ⟨rest, hp⟩ := c.rc
  refine PySem.W.method_cls I.kIn r.ga (PySem.W.cls_bind I.kIn r.rd c.at_ (wpAny_call ?_))
  exact PySem.W.sm_get (s := { s with toks := s.toks + 1 }) I.kIn hp (PySem.W.handed_on rfl (h _ (I.tok _)))
theorem pe_smeth (he : PE X o ta) (r : ClX.CRead X.K C mc) (c : SMet X.K C mc m p g) (F : FnOk X.prog X.w X.K X.mg X.base CX k g fd ps sp) (hr : Room k X.A) (hb : Binds X.K fd ps []) (hx : Passes CX X E) (ha : PA X (e :: es) t)
    (hst : starEach (e :: es) X.env = (false, eval e X.env) :: starEach es X.env := by rfl) (hpl : (backTo pos (starEach es X.env)).any (·.1) = false := by rfl)
    (ht : eval (.Call (.Attribute o m apos) (e :: es) [] pos) X.env = (do
      let ov ← eval o X.env
      standAt apos.atName
      let (f, first) ← holding [ov] (getMethod ov m pl)
      callWith pos f first (backTo pos (starEach (e :: es) X.env)) (backToKw pos (keywordEach [] X.env))) := by rfl) :
    PE X (.Call (.Attribute o m apos) (e :: es) [] pos) (tSMeth C sp E ta t) := by
  refine ⟨fun pins s σ H Q I h => PySem.W.methodCall_KW (pl := pl) (thn (he.run pins s σ H _ I h) fun u s1 ⟨x, H1, I1, rx, ex, q⟩ => ?_) ht⟩
  subst ex
  obtain rfl : u = Value.ref C := rx
  refine getsm_ok I1 r c fun s2 I2 => ?_
  refine PySem.W.callWith_K (first := []) (h₀ := X.base) I.ok.mod.kin c.kp (thn (ha.run pos pins s2 σ H1 _ I2 q) fun us s3 ⟨vs, H2, I3, rv, q2⟩ => ⟨I3.kIn, ?_⟩) hst hpl
  exact run_sub (us := us) (vs := vs) (stack_of I3) F hr hb hx I3 rv q2
/-- the same in a try's body: the way out sees the slots -/
def tSMethW (C : Addr) (sp : Sp) (E : St → XK) (ta : TE) (t : TA) : TE := fun σ H Q => tSMeth C sp (E σ) ta t σ H Q
theorem pe_smethW {E : St → XK} (he : PE X o ta) (r : ClX.CRead X.K C mc) (c : SMet X.K C mc m p g) (F : FnOk X.prog X.w X.K X.mg X.base CX k g fd ps sp) (hr : Room k X.A) (hb : Binds X.K fd ps []) (hx : ∀ σ, PassesAt CX X σ (E σ)) (ha : PA X (e :: es) t)
    (hst : starEach (e :: es) X.env = (false, eval e X.env) :: starEach es X.env := by rfl) (hpl : (backTo pos (starEach es X.env)).any (·.1) = false := by rfl)
    (ht : eval (.Call (.Attribute o m apos) (e :: es) [] pos) X.env = (do
      let ov ← eval o X.env
      standAt apos.atName
      let (f, first) ← holding [ov] (getMethod ov m pl)
      callWith pos f first (backTo pos (starEach (e :: es) X.env)) (backToKw pos (keywordEach [] X.env))) := by rfl) :
    PE X (.Call (.Attribute o m apos) (e :: es) [] pos) (tSMethW C sp E ta t) := by
  refine ⟨fun pins s σ H Q I h => PySem.W.methodCall_KW (pl := pl) (thn (he.run pins s σ H _ I h) fun u s1 ⟨x, H1, I1, rx, ex, q⟩ => ?_) ht⟩
  subst ex
  obtain rfl : u = Value.ref C := rx
  refine getsm_ok I1 r c fun s2 I2 => ?_
  refine PySem.W.callWith_K (first := []) (h₀ := X.base) I.ok.mod.kin c.kp (thn (ha.run pos pins s2 σ H1 _ I2 q) fun us s3 ⟨vs, H2, I3, rv, q2⟩ => ⟨I3.kIn, ?_⟩) hst hpl
  exact run_fnSD (us := us) (vs := vs) F hr hb .nil (hx σ) I3 rv (by rw [List.append_nil]; exact q2)
end
end L2

namespace L2
open PySem PySem.Spec PyProof.Rows
/-! ### for x in o, o's __iter__ gives iter(o.f), f a list -/
section
variable {P : Program} {w : World} {K : PySem.W.Frag} {mg : Str → Option Value} {base : Heap} {x qual : Str} {st : Stmt} {f : Addr} {fd : FuncData} {N ps : List Str} {k : Nat}
/-- one call of a def, told from its state -/
theorem fn_here {A : Around} {outer : List Env} {s : Shared} {H : Hp} {us : List Value} {vs : List V} {Q : VK} {E : XK} (F : Fun K x qual st f fd) (S : FnScope N ps (defScope st)) (hb : Binds K fd ps []) (hr : Room (k + 1) A) (e0 : Env0 P w K mg base A outer s H)
    (r : Vals vs us) (hl : vs.length = ps.length)
    (body : ∀ cdv, Room k (A.deeper (envOfC qual (defScope st) s.heap.objs.size f cdv)) → ∃ t, PSs (cxOf CX0 P w K mg base N qual (defScope st) f cdv A outer s H E).nox (defBody st) t ∧ t { nx := fun _ H' => Q .non H', rt := Q } (start N vs) H) :
    codeAny (model P w) A (.call (.ref f) ⟨us, []⟩) (CR CX0 outer P w H s Q E) s := by
  obtain ⟨oc, od, kV, doc, pm, an, cdv, ct, osl, rfl, lk, hcd⟩ := F.ex
  have KX : K.In s.heap := PySem.W.Frag.In.keeps e0.mod.kin (fun b o q => (e0.bs b o q).1)
  have NL : s.heap.NoLimit := Heap.NoLimit.keeps e0.mod.nolimit (fun b o q => (e0.bs b o q).1)
  have lu : (us ++ []).length = ps.length := by rw [List.append_nil, ← r.length, hl]
  have bt := hb s us KX lu
  rw [List.append_nil] at bt
  obtain ⟨t, ht, hq⟩ := body cdv (hr.deeper _)
  refine codeAny_call_function hr.depth (KX _ _ lk) rfl S.co S.gen rfl (PySem.W.codeRec_of KX hcd) (bt _ _ _ _ (wpAny_newFunctionEnv_cells S.kind ?_ ?_))
  · intro y hy
    have m := (List.of_mem_zip (a := y.1) (b := y.2) hy).1
    exact (S.par y.1 m).elim .inl fun z => .inr ⟨z, PySem.W.cellsFrom_some _ _ _ (.inl z)⟩
  · intro env he s1 ic
    subst he
    have I : Inv (cxOf CX0 P w K mg base N qual (defScope st) f cdv A outer s H E) [] (start N vs) H s1 := inv_start S hr.hd e0 hl r ic
    refine ⟨NL.keeps ic.toInCall.keep, codeAny_func (wpAny_mono (ht.nox.run [] s1 (start N vs) H _ I hq) (fun fl s' z => ?_) fun _ _ z => z)⟩
    match fl, z with
    | .ret u, ⟨v, _, H', J, rv, q⟩ => exact ⟨v, H', J.os, J.bare, J.base, J.hok, rv, q⟩
    | .next, ⟨_, H', J, q⟩ => exact ⟨V.non, H', J.os, J.bare, J.base, J.hok, rfl, q⟩
    | .brk, ⟨_, _, _, q⟩ => exact q.elim
    | .cont, ⟨_, _, _, q⟩ => exact q.elim
/-- what such an __iter__ promises: a new iterator of the list, younger than the call -/
def IterOk (P : Program) (w : World) (K : PySem.W.Frag) (mg : Str → Option Value) (base : Heap) (k : Nat) (g C : Addr) (fl : Str) : Prop :=
  ∀ (A : Around) (outer : List Env) (s : Shared) (H : Hp) (a dx l : Addr) (fs : List (Str × V)) (xs : List V) (Q : VK) (E : XK), Room k A → Env0 P w K mg base A outer s H → H a = some (.ins C dx fs) → fs.lookup fl = some (.ref l) → SqL K H l xs →
    (∀ it, H it = none → s.heap.objs.size ≤ it → Q (.ref it) (upd H it (ItO l it 0))) → codeAny (model P w) A (.call (.ref g) ⟨[.ref a], []⟩) (CR CX0 outer P w H s Q E) s
end
def iOwn (K : PySem.W.Frag) (C : Addr) (f : Str) (tl : TE) : TI := fun σ H R => tl σ H fun x H1 => ∃ (a dx l : Addr) (fs : List (Str × V)) (xs : List V), x = .ref a ∧ H1 a = some (.ins C dx fs) ∧ fs.lookup f = some (.ref l) ∧ SqL K H1 l xs ∧ R (Itl K l) H1
section
variable {X : Cx} {tg o : Expr} {tl : TE} {k : Nat} {g C : Addr} {fl : Str}
theorem pi_own (m : Meth X.K C "__iter__" g) (F : IterOk X.prog X.w X.K X.mg X.base k g C fl) (hr : Room k X.A) (ho : PE X o tl) : PI X tg o (iOwn X.K C fl tl) := by
  refine ⟨fun pins s σ H R I h => thn (ho.run pins s σ H _ I h) fun v s1 ⟨x, H1, I1, r1, a, dx, l, fs, xs, ex, ha, hf, hq, q⟩ => ?_⟩
  subst ex
  cases r1
  obtain ⟨ox, od, J⟩ := inst_of I1 ha
  obtain ⟨mf, hF⟩ := I1.fr
  refine PySem.W.owit_iter hF I1.ok.mod.kin J m.at_ m.fn (wpAny_call (codeAny_mono (F X.A X.stack s1 H1 a dx l fs xs (fun v H2 => ∃ it, v = .ref it ∧ H1 it = none ∧ s1.heap.objs.size ≤ it ∧ H2 = upd H1 it (ItO l it 0)) E0 hr I1.env0 ha hf hq fun it n1 n2 => ⟨it, rfl, n1, n2, rfl⟩) fun r s' z => ?_))
  match r, z with
  | .error _, z => exact z.elim
  | .ok (.ret u), z =>
    obtain ⟨v2, H2, I2, r2, it, rfl, n1, n2, rfl⟩ := I1.after z
    cases r2
    have eo := itO_get I2 upd_same
    have hT : s'.TypeIs (.ref it) "list_iterator" := ⟨_, eo, rfl⟩
    have I3 := ItX.inv_drop I2 (a := it) (by rw [upd_same]; rfl)
    rw [ItX.dropH_upd n1] at I3
    refine wpAny_specialOf (name := Str.ofString "__next__") hT slot_listiter_next.lookup ?_
    refine ⟨it, [it], _, _, H1, rfl, I3, turn_list l it, ⟨_, eo, rfl, rfl⟩, fun b hb => ?_, q⟩
    obtain rfl : b = it := by simpa using hb
    exact I1.fpOk n2 n1
end
end L2

namespace L2
open PySem PySem.Spec PyProof.Rows
/-! ### defs with *rest, instances made by C(), C(*a), C(*a, *b) -/
/-- what a def with ps and *pv binds -/
def StarB (fd : FuncData) (ps : List Str) (pv : Str) : Prop := ∀ us rest : List Value, us.length = ps.length → bindArgs fd ⟨us ++ rest, []⟩ = (newTuple rest >>= fun t => pure (ps.zip us ++ [(pv, t)]))
/-- its promise: from that of its body, the rest as a new tuple -/
def spStar (n : Nat) (sp : Sp) : Sp := fun vs H Q E => ∃ ws rest, vs = ws ++ rest ∧ ws.length = n ∧ rest.length ≤ sizeLine ∧ ∀ p, H p = none → sp (ws ++ [V.ref p]) (upd H p (.tup rest)) Q E
section
variable {P : Program} {w : World} {K : PySem.W.Frag} {mg : Str → Option Value} {base : Heap} {x qual : Str} {st : Stmt} {f : Addr} {fd : FuncData} {N ps : List Str} {pv : Str} {k : Nat} {sp : Sp}
theorem Fun.starX (F : Fun K x qual st f fd) (S : FnScope N (ps ++ [pv]) (defScope st)) (hb : StarB fd ps pv)
    (body : ∀ (cdv : Value) (A : Around) (outer : List Env) (s : Shared) (H : Hp) (vs : List V) (Q : VK) (E : XK), Room k (A.deeper (envOfC qual (defScope st) s.heap.objs.size f cdv)) → sp vs H Q E →
      ∃ t, PSs (cxOf (L2.CX P w) P w K mg base N qual (defScope st) f cdv A outer s H E) (defBody st) t ∧ t { nx := fun _ H' => Q .non H', rt := Q } (start N vs) H) : FnR P w K mg base (L2.CX P w) (k + 1) f (spStar ps.length sp) := by
  obtain ⟨oc, od, kV, doc, pm, an, cdv, ct, osl, rfl, lk, hcd⟩ := F.ex
  exact StX.fn_star lk hcd S StX.cxUp hb fun A outer s H vs Q E hr h => body cdv A outer s H vs Q E hr h
theorem FnR.calm (F : FnR P w K mg base (L2.CX P w) k f sp) : FnR P w K mg base CX0 k f (fun vs H Q _ => sp vs H Q fun _ _ _ => False) := fun A outer s H us vs Q _ hr e0 r h =>
  codeAny_mono (F A outer s H us vs Q _ hr e0 r h) fun r s' hq => by
    match r, hq with
    | .error _, ⟨_, _, _, _, _, _, _, _, _, _, _, _, z⟩ => exact z.elim
    | .ok (.ret _), hq => exact hq
end
/-- two starred arguments -/
theorem evalArgs_two {M : Model} {A : Around} {E : Value → Shared → Prop} {s : Shared} {f : Value} {a b : Bool × Sem Value} {rest : List (Bool × Sem Value)} {Q : Args → Shared → Prop} (h : wpAny M A (spliced (a :: b :: rest)) (fun vs s' => Q ⟨vs, []⟩ s') E s) : wpAny M A (evalArgs f true (a :: b :: rest) []) Q E s := by
  obtain ⟨a1, a2⟩ := a
  unfold evalArgs
  cases a1
  · show wpAny M A (spliced ((false, a2) :: b :: rest) >>= _) Q E s
    exact wpAny_bind (wpAny_mono h (fun vs s' q => wpAny_holding (wpAny_bind (wpAny_pure (wpAny_bind (wpAny_pure (wpAny_pure q)))))) fun _ _ z => z)
  · show wpAny M A (spliced ((true, a2) :: b :: rest) >>= _) Q E s
    exact wpAny_bind (wpAny_mono h (fun vs s' q => wpAny_holding (wpAny_bind (wpAny_pure (wpAny_bind (wpAny_pure (wpAny_pure q)))))) fun _ _ z => z)
section
variable {X : Cx} {CX : CXT} {k : Nat} {f C : Addr} {sp : Sp} {E : XK} {x : Str} {e e1 e2 : Expr} {es : List Expr} {te : TE} {t : TA} {p q1 q2 pos : Pos}
theorem pe_makeR0 (M : Mk X.K C f) (F : FnR X.prog X.w X.K X.mg X.base CX k f sp) (hr : Room (k + 1) X.A) (hg : Gl X x) (hm : X.mg x = some (.ref C)) (hx : Passes CX X E) (hdb : (x == ("__debug__" : Str)) = false := by decide) :
    PE X (.Call (.Name x p) [] [] pos) (StX.tMakeR C sp E tNil) := by
  refine ⟨fun pins s σ H Q I h => wpAny_Call_Name_kw (ld_glob I hg hm ?_ hdb)⟩
  exact PySem.W.callWith_K0 I.kIn M.kp (StX.run_makeR (us := []) (vs := []) M F hr hx I .nil h)
/-- C(*e): the reading -/
def tMakeS (K : PySem.W.Frag) (C : Addr) (sp : Sp) (E : XK) (te : TE) : TE := fun σ H Q => te σ H fun y H1 => ∃ a xs, y = V.ref a ∧ (SqT K H1 a xs ∨ SqL K H1 a xs) ∧ ∀ x dx, H1 x = none → H1 dx = none → dx ≠ x → sp (V.ref x :: xs) (upd (upd H1 dx (.own x)) x (.ins C dx [])) (fun v H2 => v = .non ∧ Q (.ref x) H2) E
theorem pe_makeS1 (M : Mk X.K C f) (F : FnR X.prog X.w X.K X.mg X.base CX k f sp) (hr : Room (k + 1) X.A) (hg : Gl X x) (hm : X.mg x = some (.ref C)) (hx : Passes CX X E) (he : PE X e te) (hdb : (x == ("__debug__" : Str)) = false := by decide)
    (hst : starEach [.Starred e q1] X.env = [(true, eval e X.env)] := by rfl) : PE X (.Call (.Name x p) [.Starred e q1] [] pos) (tMakeS X.K C sp E te) := by
  refine ⟨fun pins s σ H Q I h => wpAny_Call_Name_kw (ld_glob I hg hm (PySem.W.callWith_S (h₀ := X.base) I.ok.mod.kin M.kp (thn (he.run pins s σ H _ I h) fun v s1 ⟨y, H1, I1, ry, a, xs, ey, hxs, q⟩ => ?_) hst) hdb)⟩
  subst ey
  cases ry
  exact StX.star_any I1 hxs fun us s2 I2 rv => ⟨I2.kIn, StX.run_makeR (us := us) (vs := xs) M F hr hx I2 rv q⟩
/-- C(*a, *b) -/
theorem pe_makeS2 (M : Mk X.K C f) (F : FnR X.prog X.w X.K X.mg X.base CX k f sp) (hr : Room (k + 1) X.A) (hg : Gl X x) (hm : X.mg x = some (.ref C)) (hx : Passes CX X E) (ha : PA X [.Starred e1 q1, .Starred e2 q2] t) (hdb : (x == ("__debug__" : Str)) = false := by decide)
    (hst : starEach [.Starred e1 q1, .Starred e2 q2] X.env = [(true, eval e1 X.env), (true, eval e2 X.env)] := by rfl) : PE X (.Call (.Name x p) [.Starred e1 q1, .Starred e2 q2] [] pos) (StX.tMakeR C sp E t) := by
  refine ⟨fun pins s σ H Q I h => wpAny_Call_Name_kw (ld_glob I hg hm ?_ hdb)⟩
  have z := thn (ha.run pos pins s σ H _ I h) (Q' := fun us s1 => X.K.In s1.heap ∧ wpAny (model X.prog X.w) X.A (call (.ref C) ([] ++ us)) (EP X pins σ Q) X.xe s1) fun us s1 ⟨vs, H1, I1, r, q⟩ => ⟨I1.kIn, StX.run_makeR (us := us) (vs := vs) M F hr hx I1 r q⟩
  show wpAny _ _ (callWith pos (.ref C) [] (backTo pos (starEach [.Starred e1 q1, .Starred e2 q2] X.env)) []) _ _ _
  rw [hst] at z ⊢
  exact PySem.W.ks_call rfl (PySem.W.keeps_K M.kp) (evalArgs_two z)
end
/-! ### o + y by the class's own def, y an instance of the class, a list or a tuple -/
def Opd (K : PySem.W.Frag) (C : Addr) (H : Hp) (y : V) : Prop := (∃ b dy gs, y = .ref b ∧ H b = some (.ins C dy gs)) ∨ ∃ b xs, y = .ref b ∧ (SqL K H b xs ∨ SqT K H b xs)
def rOpI (K : PySem.W.Frag) (C : Addr) (sp : Sp) (E : XK) : R2 := fun x y H Q => ∃ a dx fs, x = .ref a ∧ H a = some (.ins C dx fs) ∧ Opd K C H y ∧ sp [x, y] H Q E
/-- what the top must have: the two defs, and of lists and tuples -/
structure OpF (K : PySem.W.Frag) (C : Addr) (nm : String) (g : Addr) : Prop where
  first : PySem.W.selfFirst K C = true
  at_ : PySem.W.findIn K (.ref C) (PySem.dunder nm) = some (some (.ref g))
  fn : PySem.W.isFn K (.ref g) = true
  rev : ∃ rc, PySem.W.findIn K (.ref C) (PySem.dunderR nm) = some rc ∧ (rc = none ∨ ∃ h : Addr, rc = some (.ref h))
  lst : ∃ fo ro, PySem.W.findIn K (.type "list") (PySem.dunder nm) = some fo ∧ PySem.W.findIn K (.type "list") (PySem.dunderR nm) = some ro ∧ PySem.W.subIn K (.type "list") (.ref C) = some false
  tup : ∃ fo ro, PySem.W.findIn K (.type "tuple") (PySem.dunder nm) = some fo ∧ PySem.W.findIn K (.type "tuple") (PySem.dunderR nm) = some ro ∧ PySem.W.subIn K (.type "tuple") (.ref C) = some false
section
variable {prog : Program} {w : World} {A : Around} {E : Value → Shared → Prop} {s : Shared} {K : PySem.W.Frag} {x C L f : Addr} {h₀ : Heap} {m : Str → Option Value} {ox : Obj} {od : Option Obj} {T : String}
/-- the library's row for an operand of a built-in type, told of what a look at its type gives -/
theorem binL {op : Operator} {b : Value} {fo ro rc : Option Value} {Q : Value → Shared → Prop} (F : Fr h₀ L s.heap m) (X₀ : K.In h₀) (I : PySem.W.InstAt s.heap x ox C od) (hb : PySem.W.Looks (model prog w) s.heap (typeOf b) (.type T)) (hc : PySem.W.selfFirst K C = true)
    (hs : PySem.W.findIn K (.ref C) (PySem.dunder op.info.2) = some (some (.ref f))) (hf : PySem.W.isFn K (.ref f) = true) (hr : PySem.W.findIn K (.ref C) (dunderR op.info.2) = some rc) (hp : rc = none ∨ ∃ g : Addr, rc = some (.ref g))
    (h1 : PySem.W.findIn K (.type T) (PySem.dunder op.info.2) = some fo) (h2 : PySem.W.findIn K (.type T) (dunderR op.info.2) = some ro) (hsub : PySem.W.subIn K (.type T) (.ref C) = some false)
    (h : wpAny (model prog w) A (call (.ref f) [.ref x, b]) (PySem.W.CmpBack Q) E s) : wpAny (model prog w) A (binaryOp op (.ref x) b) Q E s := by
  have X := X₀.keeps F.keep
  obtain ⟨cd, rest, hcd, hm⟩ := PySem.W.ksp_first hc
  rcases hi : op.info with ⟨sym, nm'⟩
  rw [hi] at hs hr h1 h2; dsimp only at hs hr h1 h2
  have one := PySem.W.ksp_try X I hs hf h
  obtain ⟨hh, gg, dd, tt, os⟩ := s
  have La := I.type (M := model prog w)
  have Lc := PySem.W.fills_K (M := model prog w) X hcd hm hs
  have Ld := PySem.W.ksp_fillsT (M := model prog w) X h1 h2
  have Le : PySem.W.Looks (model prog w) hh (isSubtype (.type T) (.ref C)) false := PySem.W.looks_subIn X hsub
  have Lf := PySem.W.ksp_inPy (M := model prog w) X hs hr hp
  have Lg : PySem.W.Looks (model prog w) hh (numberSlotInPython (.type T) nm') false := PySem.W.Looks.of_pure rfl
  have Lh : PySem.W.Looks (model prog w) hh (typeLookup (.type T) (dunderR nm')) ro := PySem.W.looks_findIn X h2
  revert Ld
  generalize ((fo.isSome && !isSeqSlot fo) || (ro.isSome && !isSeqSlot ro)) = right
  intro Ld
  have hne : (Value.ref C == Value.type T) = false := Bool.eq_false_iff.mpr fun q => by cases beq_iff_eq.mp q
  simp only [binaryOp, hi]
  refine wpAny_holding (wpAny_bind ?_)
  unfold binaryOp1
  refine wpAny_bind (La.at (wpAny_bind (hb.at (wpAny_bind (Lc.at ?_)))))
  simp only [hne, Bool.false_eq_true, if_false]
  cases right <;> (ksp_lk; refine wpAny_mono one (fun r s' hr' => ?_) (fun _ _ e => e); obtain ⟨v, rfl, hq⟩ := hr'; ksp_lk; exact hq)
end
section
variable {X : Cx} {CX : CXT} {n : Nat} {C g : Addr} {fd : FuncData} {ps : List Str} {sp : Sp} {E : XK}
theorem op_binO {op : Operator} (T : OpF X.K C op.info.2 g) (F : FnOk X.prog X.w X.K X.mg X.base CX n g fd ps sp) (hr : Room n X.A) (hb : Binds X.K fd ps []) (hx : Passes CX X E) : OpR X (binaryOp op) (rOpI X.K C sp E) := by
  intro pins s σ H x y v u Q I rx ry h
  obtain ⟨a, dx, fs, rfl, ho, hy, q⟩ := h
  cases rx
  obtain ⟨ox, od, J⟩ := inst_of I ho
  obtain ⟨mf, hF⟩ := I.fr
  have go := thn (run_sub (us := [.ref a, u]) (vs := [.ref a, y]) (stack_of I) F hr hb hx I (.cons rfl (.cons ry .nil)) q) (Q' := PySem.W.CmpBack (EP X pins σ Q)) fun w s' ⟨z', H', I', rz, qz⟩ => SlX.cmpback rz ⟨z', H', I', rz, qz⟩
  rcases hy with ⟨b, dy, gs, rfl, hb'⟩ | ⟨b, xs, rfl, hq⟩
  · cases ry
    obtain ⟨oy, od', J'⟩ := inst_of I hb'
    exact PySem.W.binop_K (op := op) hF I.ok.mod.kin J J'.type T.first T.at_ T.fn go
  · cases ry
    obtain ⟨rc, r1, r2⟩ := T.rev
    rcases hq with hq | hq
    · obtain ⟨fo, ro, t1, t2, t3⟩ := T.lst
      obtain ⟨its, rv, pl, hz⟩ := I.list hq
      obtain ⟨o, ho, hc, _⟩ := pl.isList
      exact binL hF I.ok.mod.kin J (fun A Q E s k z => wpAny_typeOf_ref (k _ _ ho) (by rw [hc]; exact z)) T.first T.at_ T.fn r1 r2 t1 t2 t3 go
    · obtain ⟨fo, ro, t1, t2, t3⟩ := T.tup
      obtain ⟨its, rv, ⟨o, ho, hc, _⟩, hz⟩ := I.tuple hq
      exact binL hF I.ok.mod.kin J (fun A Q E s k z => wpAny_typeOf_ref (k _ _ ho) (by rw [hc]; exact z)) T.first T.at_ T.fn r1 r2 t1 t2 t3 go
end
end L2

namespace L2
open PySem PySem.Spec PyProof.Rows
/-! ### o[k] by the class's own def, in a try's body -/
section
variable {X : Cx} {CX : CXT} {k : Nat} {f C a dx : Addr} {fs : List (Str × V)} {fd : FuncData} {ps : List Str} {sp : Sp} {pins : List (Addr × Obj)} {σ : St} {H : Hp} {s : Shared} {Q : VK} {us : List Value} {vs : List V}
theorem run_subW {E : XK} {A1 : Around} (hf : A1.frames = some X.stack) (F : FnOk X.prog X.w X.K X.mg X.base CX k f fd ps sp) (hr : Room k A1) (hb : Binds X.K fd ps []) (hx : PassesAt CX X σ E) (I : Inv X pins σ H s) (r : Vals vs us) (h : sp vs H Q E) :
    wpAny (model X.prog X.w) A1 (call (.ref f) us) (EP X pins σ Q) X.xe s := by
  have hl : (us ++ []).length = ps.length := by rw [List.append_nil, ← r.length]; exact F.len _ _ _ _ h
  have e := I.env0
  have bt := hb s us I.kIn hl
  rw [List.append_nil] at bt
  refine wpAny_call (codeAny_mono (F.run A1 X.stack s H ⟨us, []⟩ us vs Q E hr ⟨hf, e.mod, e.bs, e.bsz, e.funs, e.frf, e.hok, e.bare⟩ bt r h) fun r s' hq => ?_)
  match r, hq with
  | .error e, hq => exact hx pins H s e s' I hq
  | .ok (.ret u), hq => exact I.after hq
def tGetIW (C : Addr) (sp : Sp) (E : St → XK) (ta tb : TE) : TE := fun σ H Q => tOp (rGetI C sp (E σ)) ta tb σ H Q
theorem pe_getIW {E : St → XK} {ea eb : Expr} {ta tb : TE} {pos : Pos} (m : Meth X.K C "__getitem__" f) (hfi : PySem.W.fnIn X.K f = true) (F : FnOk X.prog X.w X.K X.mg X.base CX k f fd ps sp) (hr : Room (k + 1) X.A) (hb : Binds X.K fd ps []) (hx : ∀ σ, PassesAt CX X σ (E σ))
    (ha : PE X ea ta) (hbe : PE X eb tb) (hsl : ∀ (x : Addr) (i : Value), subscripted eb true (.ref x) i = runValue (.builtin "lifetime.subscript" ⟨[.ref x, i], []⟩) := by intro _ _; with_unfolding_all rfl) : PE X (.Subscript ea eb pos) (tGetIW C sp E ta tb) := by
  refine ⟨fun pins s σ H Q I h => ?_⟩
  refine Subscript_ (binT ha hbe I h fun v u s2 x y H2 I2 rx ry q => ?_)
  obtain ⟨a, dx, fs, rfl, ho, q⟩ := q
  cases rx
  obtain ⟨ox, od, J⟩ := inst_of I2 ho
  obtain ⟨mf, hF⟩ := I2.fr
  exact PySem.W.sub_K hF I2.ok.mod.kin J m.at_ hfi m.fn (run_subW (A1 := X.A.in1) (us := [.ref a, u]) (vs := [.ref a, y]) (stack_of I2) F hr.in1 hb (hx σ) I2 (.cons rfl (.cons ry .nil)) q) (hsl a u)
end
end L2
namespace L2
open PySem PySem.Spec PyProof.Rows
/-! ### a try within a loop: its reading by a name -/
def tTryAs (K : PySem.W.Frag) (c : Value) (i : Nat) (tb : WX → TS) (ts : Addr → Value → Option Addr → TS) (Wout : WX) : TS := fun D σ H => tb (wAs K c i ts Wout D) D σ H
section
variable {X : Cx} {x n : Str} {c : Value} {i : Nat} {body suite : List Stmt} {b₀ : Stmt} {np pos pos' : Pos} {tb : WX → TS} {ts : Addr → Value → Option Addr → TS} {Wout : WX}
theorem ps_tryL (hs : X.stack = X.env :: X.outer) (hf : X.env.frame = some X.env.locals) (hN : X.N.Nodup) (hi : X.N[i]? = some n) (hln : X.env.kindOf n = some .local) (hc : Names X x c) (tk : Takes X Wout)
    (hb : ∀ (W : WX) (pn : List (Addr × Obj)) (xe : Value → Shared → Prop), Takes (X.tr pn xe) W → PassesOwn (model X.prog X.w) X.A X.env xe → PSs (X.tr pn xe) body (tb W))
    (hsu : ∀ (a : Addr) (oe : Obj) (cls : Value) (d : Option Addr) (pn : List (Addr × Obj)), Zc cls d oe → (∃ vs, oe.data = .fields vs) → PSs (X.suite a ((a, oe) :: pn)) (b₀ :: suite) (ts a cls d)) :
    PS X (.Try body [.ExceptHandler (some (.Name x np)) (some n) (b₀ :: suite) pos'] [] [] pos) (tTryAs X.K c i tb ts Wout) := ps_try_as hs hf hN hi hln hc tk hb hsu
end
end L2

namespace L2
open PySem PySem.Spec PyProof.Rows
/-! ### list(o), o's __iter__ gives iter(o.f), f a list, and __len__ is a def -/
section
variable {X : Cx} {pins : List (Addr × Obj)} {σ : St}
theorem listI_loop {A1 : Around} {q it l : Addr} {xs : List V} {H0 : Hp} {Rs : Result → Shared → Prop} (hh : A1.in1.handled = none) (hz : xs.length ≤ sizeLine) (nq : H0 q = none) (nit : H0 it = none) (nqi : q ≠ it) (nl : l ≠ q) (hl : SqL X.K H0 l xs)
    (hf : ∀ H', H' it = none → FpOk X pins H' it) (hdone : ∀ s, Inv X pins σ (upd H0 q (.lst xs)) s → Rs (.ok (.ret .none)) s) :
    ∀ (m i : Nat) (s : Shared), xs.length - i = m → i ≤ xs.length → Inv X pins σ (upd H0 q (.lst (xs.take i))) s → s.heap.IsListIter it l i → codeAny (model X.prog X.w) A1 (.builtin "list.extend.loop" ⟨[.ref q, .ref it, .none], []⟩) Rs s := by
  have nitq : ∀ o, (upd H0 q o) it = none := fun o => by rw [upd_ne nqi.symm]; exact nit
  have hlq : ∀ o, SqL X.K (upd H0 q o) l xs := fun o => by
    rcases hl with (h | ⟨o', h⟩) | h
    · exact .inl (.inl (by rw [upd_ne nl]; exact h))
    · exact .inl (.inr ⟨o', by rw [upd_ne nl]; exact h⟩)
    · exact .inr h
  intro m
  induction m with
  | zero =>
    intro i s hm hi I st
    have e : i = xs.length := by omega
    subst e
    obtain ⟨its, rv, pl, _⟩ := I.list (hlq _)
    refine codeAny_builtin PySem.F.entry_extend_loop ?_
    rw [Around.under_plainId PySem.F.plain_extend_loop _]
    show wpAny _ A1.in1 (pyNext (.ref it) >>= _) _ _ s
    obtain ⟨f0, f1, f2, f3, f4, f5⟩ := hf _ (nitq (.lst xs))
    refine wpAny_bind (wpAny_pyNext_list_end hh st pl.isList (by have := rv.length; simp; omega) fun h' he' => wpAny_pure (hdone _ ?_))
    rw [List.take_length] at I
    exact I.turned (it := it) (t' := s.toks) (fun b o hb e => he' b o hb e) (nitq _) f1 f3 f4 f5
  | succ m ih =>
    intro i s hm hi I st
    have hlt : i < xs.length := by omega
    obtain ⟨its, rv, pl, _⟩ := I.list (hlq _)
    have hx : xs[i]? = some xs[i] := List.getElem?_eq_getElem hlt
    obtain ⟨u, hu, ri⟩ := rv.get hx
    refine codeAny_builtin PySem.F.entry_extend_loop ?_
    rw [Around.under_plainId PySem.F.plain_extend_loop _]
    show wpAny _ A1.in1 (pyNext (.ref it) >>= _) _ _ s
    obtain ⟨f0, f1, f2, f3, f4, f5⟩ := hf _ (nitq (.lst (xs.take i)))
    refine wpAny_bind (wpAny_pyNext_list_item st pl.isList (x := u) (by simpa using hu) fun h' hit' hs' => ?_)
    have I' := I.turned (it := it) (h' := h') (t' := s.toks) (fun b o hb e => hs'.extBut b o hb e) (nitq _) f1 f3 f4 f5
    show wpAny _ A1.in1 (updateSeq q (·.push u) >>= _) _ _ _
    obtain ⟨z, its2, k, r2, hl2, e⟩ := I'.lstM upd_same
    refine wpAny_bind (wpAny_updateSeq e rfl (wpAny_pure ⟨plainId_quiet PySem.F.plain_extend_loop _, ?_⟩) (by rw [List.size_toArray]; rw [List.length_take] at hl2; omega) (by show (its2.toArray.push u).size ≤ sizeLine + 1; rw [Array.size_push, List.size_toArray]; rw [List.length_take] at hl2; omega))
    refine ih (i + 1) _ (by omega) hlt ?_ (hit'.at fun o e => (Heap.get?_update_other _ _ nqi).trans e)
    have I2 := I'.lset (f := (·.push u)) (its' := its2 ++ [u]) (t' := s.toks) upd_same e (by simp) (r2.append (.cons ri .nil)) (by rw [List.length_append, List.length_take]; show _ + 1 ≤ _; omega)
    rw [upd_upd] at I2
    rw [List.take_add_one, hx]
    exact I2
variable {CI CL : CXT} {k : Nat} {g fL C : Addr} {fl : Str} {fdL : FuncData} {psL : List Str} {spL : Sp} {EL : XK}
def rListI (K : PySem.W.Frag) (C : Addr) (fl : Str) (spL : Sp) (EL : XK) : List V → Hp → VK → Prop := fun vs H Q => ∃ (a dx l : Addr) (fs : List (Str × V)) (xs : List V), vs = [.ref a] ∧ H a = some (.ins C dx fs) ∧ fs.lookup fl = some (.ref l) ∧ SqL K H l xs ∧ xs.length ≤ 1000 ∧
  (∀ q, H q = none → spL [.ref a] (upd H q (.lst [])) (fun v H' => (∃ n : Nat, v = .int (n : Int) ∧ n ≤ 1000) ∧ H' = upd H q (.lst [])) EL) ∧ ∀ q, H q = none → Q (.ref q) (upd H q (.lst xs))
theorem call_listI (m : Meth X.K C "__iter__" g) (FI : IterOk X.prog X.w X.K X.mg X.base k g C fl) (ml : Meth X.K C "__len__" fL) (FL : FnOk X.prog X.w X.K X.mg X.base CX0 k fL fdL psL spL) (bL : Binds X.K fdL psL []) (hc : X.calm = true) (hr : Room (k + 4) X.A) :
    CallR X (.type "list") (rListI X.K C fl spL E0) := by
  intro pins s σ H vs us Q I rv h
  obtain ⟨a, dx, l, fs, xs, rfl, ha, hfl, hl, hz, hsp, hq⟩ := h
  obtain ⟨u, rfl, ru⟩ := rv.one
  cases ru
  have sb : Sub X (k + 2) X.A.in1.in1 := (Sub.in1 (Sub.in1 (⟨hr, rfl⟩ : Sub X (k + 4) X.A)))
  refine callType_codes (Q₁ := fun obj s₁ => obj = .ref s.heap.objs.size ∧ s₁ = { s with heap := s.heap.push { cls := .type "list", data := .seq #[] } }) PySem.F.called_list (PySem.F.typeCall_list_1 _) PySem.F.entry_list_init
    (code_list_new _ ⟨rfl, rfl⟩) fun obj s₁ h₁ => ?_
  obtain ⟨rfl, rfl⟩ := h₁
  have hS : (s.heap.push { cls := .type "list", data := .seq #[] }).get? s.heap.objs.size = some { cls := .type "list", data := .seq #[] } := Heap.get?_push_size _ rfl
  refine ⟨⟨_, hS, rfl⟩, PySem.F.args_list_init_2 _ _, ?_⟩
  have fr : H s.heap.objs.size = none := I.hok.fresh (Nat.le_refl _)
  have I1 : Inv X pins σ (upd H s.heap.objs.size (.lst [])) { s with heap := s.heap.push { cls := .type "list", data := .seq #[] } } := I.lnew (its := []) (t' := s.toks) .nil (Nat.zero_le _)
  show wpAny _ _ (do let old ← Builtin.List.listItems (.ref s.heap.objs.size); Builtin.List.listUpdate (.ref s.heap.objs.size) (fun _ => #[]); letGo old.toList.reverse; Builtin.List.listExtendWith (.ref s.heap.objs.size) (.ref a) .none) _ _ _
  refine wpAny_bind ?_
  unfold Builtin.List.listItems
  refine wpAny_bind (wpAny_seqItems hS rfl (wpAny_pure ?_))
  show wpAny _ _ (updateSeq s.heap.objs.size (fun _ => #[]) >>= fun _ => letGo (#[] : Array Value).toList.reverse >>= fun _ => Builtin.List.listExtendWith (.ref s.heap.objs.size) (.ref a) .none) _ _ _
  refine wpAny_bind (wpAny_updateSeq hS rfl ?_)
  have I2 := I1.lset (f := fun _ => #[]) (its := []) (its' := []) (ys := []) (t' := s.toks) upd_same hS rfl .nil (Nat.zero_le _)
  rw [upd_upd] at I2
  refine wpAny_bind (wpAny_letGo ?_)
  have nlq : l ≠ s.heap.objs.size := fun z => by
    obtain ⟨its, rv, pl, _⟩ := I.list hl
    obtain ⟨o, ho, _⟩ := pl.isList
    have := Heap.lt_size ho
    rw [z] at this
    exact absurd this (Nat.lt_irrefl _)
  have hQ := hq _ fr
  have hL := hsp _ fr
  revert I2 fr nlq hQ hL
  generalize s.heap.objs.size = q
  generalize ({ s with heap := _, toks := _ } : Shared) = s2
  intro fr I2 nlq hQ hL
  have naq : a ≠ q := ne_of_none ha fr
  have ha2 : (upd H q (.lst [])) a = some (.ins C dx fs) := by rw [upd_ne naq]; exact ha
  obtain ⟨ox, od, J⟩ := inst_of I2 ha2
  obtain ⟨mf, hF⟩ := I2.fr
  unfold Builtin.List.listExtendWith
  refine wpAny_bind (J.type.here ?_)
  have h1 : Builtin.List.listSameRef (.ref q) (.ref a) = false := by simp [Builtin.List.listSameRef, naq.symm]
  have h2 : (Value.ref C == Value.type "list") = false := rfl
  have h3 : (Value.ref C == Value.type "tuple") = false := rfl
  simp only [h1, h2, h3, Bool.or_false, Bool.false_eq_true, if_false]
  have e0 : Env0 X.prog X.w X.K X.mg X.base X.A.in1.in1 X.stack s2 (upd H q (.lst [])) := by
    have e := I2.env0
    exact ⟨by rw [sb.fr]; exact e.frames, e.mod, e.bs, e.bsz, e.funs, e.frf, e.hok, e.bare⟩
  have hl2 : SqL X.K (upd H q (.lst [])) l xs := by
    rcases hl with (h | ⟨o', h⟩) | h
    · exact .inl (.inl (by rw [upd_ne nlq]; exact h))
    · exact .inl (.inr ⟨o', by rw [upd_ne nlq]; exact h⟩)
    · exact .inr h
  refine wpAny_bind (PySem.W.owit_iter hF I2.ok.mod.kin J m.at_ m.fn (wpAny_call (codeAny_mono (FI X.A.in1.in1 X.stack s2 (upd H q (.lst [])) a dx l fs xs (fun v H2 => ∃ it, v = .ref it ∧ (upd H q (.lst [])) it = none ∧ s2.heap.objs.size ≤ it ∧ H2 = upd (upd H q (.lst [])) it (ItO l it 0)) E0 (sb.room.mono (by omega)) e0 ha2 hfl hl2 fun it n1 n2 => ⟨it, rfl, n1, n2, rfl⟩) fun r s' z => ?_)))
  match r, z with
  | .error _, z => exact z.elim
  | .ok (.ret u), z =>
    obtain ⟨v2, H2, I3, r2, it, rfl, n1, n2, rfl⟩ := I2.after z
    cases r2
    have eo := itO_get I3 upd_same
    have hT : s'.TypeIs (.ref it) "list_iterator" := ⟨_, eo, rfl⟩
    have I4 := ItX.inv_drop I3 (a := it) (by rw [upd_same]; rfl)
    rw [ItX.dropH_upd n1] at I4
    refine wpAny_specialOf (name := Str.ofString "__next__") hT slot_listiter_next.lookup ?_
    obtain ⟨ox4, od4, J4⟩ := inst_of I4 ha2
    show wpAny (model X.prog X.w) X.A.in1.in1 (do
            let room ← holding [Value.ref it] (Builtin.List.listLengthHint (Value.ref a))
            _) _ _ s'
    refine wpAny_bind (wpAny_holding ?_)
    unfold Builtin.List.listLengthHint
    refine wpAny_bind (wpAny_bind (J4.type.here ((PySem.W.looks_findIn I4.kIn ml.at_).here ?_)))
    refine PySem.W.KFB.if_not rfl ?_
    refine wpAny_ite_split (fun _ => ?_) (fun hab => absurd rfl hab)
    refine wpAny_bind (wpAny_rule ?_)
    obtain ⟨mf4, hF4⟩ := I4.fr
    have fpI : FpOk X pins (upd H q (.lst [])) it := I2.fpOk n2 n1
    have oI : ∀ b ∈ [it], ∃ o, s'.heap.get? b = some o ∧ ∀ v, o.data ≠ .cell v := fun b hb => by
      obtain rfl : b = it := by simpa using hb
      exact ⟨_, eo, fun v z => nomatch z⟩
    have I4n : Inv X.nox (pins ++ pinsAt [it] s'.heap) σ (upd H q (.lst [])) s' := (I4.pinned (fp := [it]) (fun b hb => by rw [List.mem_singleton.mp hb]; exact fpI) oI).wish _
    have lenq : wpAny (model X.prog X.w) X.A.in1.in1 (call (.builtin "len") [.ref a]) (fun nv s6 => ∃ (n : Nat) (t : Tok), nv = .int (n : Int) t ∧ n ≤ 1000 ∧ Inv X pins σ (upd H q (.lst [])) s6 ∧ s6.heap.IsListIter it l 0) (fun _ _ => False) s' := by
      refine PySem.W.len_K hF4 I4.ok.mod.kin J4 ml.at_ ml.fn (thn (run_sub (X := X.nox) (A1 := X.A.in1.in1.in1) (us := [.ref a]) (vs := [.ref a]) (stack_of I4) FL ((sb.room.mono (by omega)).in1 (k := k)) bL pass0 I4n (.cons rfl .nil) hL) fun r s5 z => ?_)
      obtain ⟨z1, H1, I5, r1, ⟨n, rfl, hn⟩, rfl⟩ := z
      obtain ⟨t, rfl⟩ := r1
      have g5 := (I5.pin (it, _) (List.mem_append_right _ (List.mem_append_right _ (mem_pinsAt (List.mem_singleton.mpr rfl) eo)))).1
      exact ⟨⟨by omega, by omega⟩, n, _, rfl, hn, (I5.unwish.unpinned (pins := pins)).tok _, ⟨_, g5, rfl, rfl⟩⟩
    refine wpAny_bind (wpAny_attempt (thnF lenq fun nv s6 h6 => ?_))
    obtain ⟨n, t, rfl, hn, I6, st6⟩ := h6
    have hbig : Builtin.List.listTooLong ((n : Int)).toNat = false := by
      unfold Builtin.List.listTooLong
      rw [Int.toNat_natCast]
      have : 1000 < sizeLine := by decide
      exact decide_eq_false (by omega)
    refine wpAny_bind (wpAny_pure ?_)
    refine PySem.W.KFB.if_not hbig (wpAny_pure ?_)
    have big : 1000 < sizeLine := by decide
    have nqi : q ≠ it := fun z => by
      rw [← z, upd_same] at n1; cases n1
    have nitH : H it = none := by rw [upd_ne nqi.symm] at n1; exact n1
    have loop : ∀ s7, Inv X pins σ (upd H q (.lst [])) s7 → s7.heap.IsListIter it l 0 → codeAny (model X.prog X.w) X.A.in1 (.builtin "list.extend.loop" ⟨[.ref q, .ref it, .none], []⟩) (wants (fun r s₂ => r = .none ∧ EP X pins σ Q (.ref q) s₂) X.xe) s7 := fun s7 I7 st7 =>
      listI_loop (A1 := X.A.in1) (H0 := H) (by exact I7.ok.hd hc) (by omega) fr nitH nqi nlq hl (fun H' nH => ⟨nH, fpI.2⟩) (fun s8 I8 => ⟨rfl, .ref q, _, I8, rfl, hQ⟩) xs.length 0 s7 (by omega) (Nat.zero_le _) (by rw [List.take_zero]; exact I7) st7
    refine wpAny_ite_split (fun _ => ?_) (fun _ => wpAny_pure ⟨plainId_quiet PySem.F.plain_extend_loop _, loop s6 I6 st6⟩)
    refine wpAny_bind (wpAny_rule ?_)
    refine wpAny_bind ?_
    obtain ⟨z3, its3, k3, r3, hl3, e3⟩ := I6.lstM upd_same
    cases r3
    show wpAny _ _ (updateSeq q (·.push .none) >>= fun _ => updateSeq q (·.pop)) _ _ _
    refine wpAny_bind (wpAny_updateSeq e3 rfl ?_)
    have I7 := I6.lset (f := (·.push Value.none)) (its' := [Value.none]) (ys := [.non]) (t' := s6.toks) upd_same e3 (by simp) (.cons rfl .nil) (by rw [List.length_singleton, sizeLine_eq]; decide)
    obtain ⟨z4, its4, k4, r4, hl4, e4⟩ := I7.lstM upd_same
    obtain ⟨u4, rfl, ru4⟩ := r4.one
    refine wpAny_updateSeq e4 rfl ?_ (by show 1 ≤ sizeLine; rw [sizeLine_eq]; decide) (by show 0 ≤ sizeLine + 1; exact Nat.zero_le _)
    have I8 := I7.lset (f := (·.pop)) (its := [u4]) (its' := []) (ys := []) (t' := s6.toks) upd_same e4 (by rfl) .nil (Nat.zero_le _)
    rw [upd_upd, upd_upd] at I8
    refine wpAny_pure ⟨plainId_quiet PySem.F.plain_extend_loop _, loop _ I8 (st6.at fun o e => ?_)⟩
    exact (Heap.get?_update_other _ _ nqi).trans ((Heap.get?_update_other _ _ nqi).trans e)
end
end L2

namespace L2
open PySem PySem.Spec PyProof.Rows
theorem FnOk.toR {P : Program} {w : World} {K : PySem.W.Frag} {mg : Str → Option Value} {base : Heap} {CX : CXT} {k : Nat} {f : Addr} {sp : Sp} {fd : FuncData} {ps : List Str} (F : FnOk P w K mg base CX k f fd ps sp) (hb : Binds K fd ps []) : FnR P w K mg base CX k f sp := (F.raw hb .nil).imp fun vs H Q E h => by rw [List.append_nil]; exact h
/-! ### o[k] = v by the class's own def; c(..), c a local name for a class -/
section
variable {X : Cx} {CX : CXT} {k : Nat} {f C : Addr} {fd : FuncData} {ps : List Str} {sp : Sp} {dvs : List V} {ds : List Value} {E : XK} {p pos : Pos} {e : Expr} {es : List Expr} {t : TA} {x : Str} {ta : TE}
def rSetI (C : Addr) (sp : Sp) (E : XK) : V → V → V → Hp → (Hp → Prop) → Prop := fun o i v H Q => ∃ a dx fs, o = .ref a ∧ H a = some (.ins C dx fs) ∧ sp [o, i, v] H (fun _ H' => Q H') E
theorem set_own (m : Meth X.K C "__setitem__" f) (hq : PySem.W.noSeq X.K C = true) (F : FnOk X.prog X.w X.K X.mg X.base CX k f fd ps sp) (hr : Room k X.A) (hb : Binds X.K fd ps []) (hx : Passes CX X E) : PSet X (rSetI C sp E) := by
  intro pins s σ H o i v ov iv u Q I ro ri rv h
  obtain ⟨a, dx, fs, rfl, ho, q⟩ := h
  cases ro
  obtain ⟨ox, od, J⟩ := inst_of I ho
  obtain ⟨mf, hF⟩ := I.fr
  exact PySem.W.ksp_setItem hF I.ok.mod.kin J hq m.at_ m.fn (thn (run_sub (us := [.ref a, iv, u]) (vs := [.ref a, i, v]) (stack_of I) F hr hb hx I (.cons rfl (.cons ri (.cons rv .nil))) q) fun w s' ⟨z', H', I', rz, qz⟩ => ⟨H', I', qz⟩)
def tMakeV (C : Addr) (sp : Sp) (dvs : List V) (E : XK) (ta : TE) (t : TA) : TE := fun σ H Q => ta σ H fun y H1 => y = .ref C ∧ tMake C sp dvs E t σ H1 Q
theorem pe_makeV (hn : PE X (.Name x p) ta) (M : Mk X.K C f) (F : FnOk X.prog X.w X.K X.mg X.base CX k f fd ps sp) (hr : Room (k + 1) X.A) (hb : Binds X.K fd ps ds) (hd : Vals dvs ds) (hx : Passes CX X E)
    (ha : PA X (e :: es) t) (he : starEach (e :: es) X.env = (false, eval e X.env) :: starEach es X.env := by rfl) (hpl : (backTo pos (starEach es X.env)).any (·.1) = false := by rfl) :
    PE X (.Call (.Name x p) (e :: es) [] pos) (tMakeV C sp dvs E ta t) := by
  refine ⟨fun pins s σ H Q I h => ?_⟩
  refine wpAny_Call_Name_kw (thn (hn.run pins s σ H _ I h) fun u s1 ⟨y, H1, I1, ry, ey, q⟩ => ?_)
  subst ey
  obtain rfl : u = Value.ref C := ry
  refine PySem.W.callWith_K (h₀ := X.base) I1.ok.mod.kin M.kp (thn (ha.run pos pins s1 σ H1 _ I1 q) fun us s2 ⟨vs, H2, I2, r, q⟩ => ⟨I2.kIn, ?_⟩) he hpl
  exact run_make M F hr hb hd hx I2 r q
end
end L2

namespace L2
open PySem PySem.Spec PyProof.Rows
section
variable {X : Cx} {a b c d : Expr} {ta tb tc td : TE} {pos : Pos}
/-- a op b op' c op'' d -/
def tChain3 (r r' r'' : R2) (ta tb tc td : TE) : TE := fun σ H Q => ta σ H fun x H1 => tb σ H1 fun y H2 => r x y H2 fun z H3 => ∃ k, z = .bl k ∧
  (if k = true then tc σ H3 fun v H4 => r' y v H4 fun z' H5 => ∃ k', z' = .bl k' ∧ (if k' = true then td σ H5 fun u H6 => r'' v u H6 Q else Q (.bl false) H5) else Q (.bl false) H3)
theorem pe_chain3 {op op' op'' : CmpOp} {r r' r'' : R2} (ho : OpR X (compareOp op) r) (ho' : OpR X (compareOp op') r') (ho'' : OpR X (compareOp op'') r'') (ha : PE X a ta) (hb : PE X b tb) (hc : PE X c tc) (hd : PE X d td)
    (hm : lastMarks [op, op', op''] [b, c, d] = false := by with_unfolding_all rfl) : PE X (.Compare a [op, op', op''] [b, c, d] pos) (tChain3 r r' r'' ta tb tc td) := by
  refine ⟨fun pins s σ H Q I h => ?_⟩
  refine Compare_chain (thn (ha.run pins s σ H _ I h) fun v s1 ⟨x, H1, I1, r1, q1⟩ => chain_link (thn (hb.run pins s1 σ H1 _ I1 q1) fun u s2 ⟨y, H2, I2, r2, q2⟩ =>
    thn (ho pins s2 σ H2 x y v u _ I2 r1 r2 q2) fun d s3 ⟨z, H3, I3, r3, k, e, q3⟩ => ?_)) hm
  subst e
  cases r3
  refine wpAny_truthy_bool ?_
  cases k with
  | false => exact ite_ff ⟨.bl false, H3, I3, rfl, q3⟩
  | true =>
    refine ite_tt (chain_link (thn (hc.run pins s3 σ H3 _ I3 q3) fun w' s4 ⟨z', H4, I4, r4, q4⟩ => thn (ho' pins s4 σ H4 y z' u w' _ I4 r2 r4 q4) fun d5 s5 ⟨z5, H5, I5, r5, k', e5, q5⟩ => ?_))
    subst e5
    cases r5
    refine wpAny_truthy_bool ?_
    cases k' with
    | false => exact ite_ff ⟨.bl false, H5, I5, rfl, q5⟩
    | true => exact ite_tt (chain_last (thn (hd.run pins s5 σ H5 _ I5 q5) fun w6 s6 ⟨z6, H6, I6, r6, q6⟩ => ho'' pins s6 σ H6 z' z6 w' w6 Q I6 r4 r6 q6))
end
end L2
namespace L2
open PySem PySem.Spec PyProof.Rows
def rInKd (neg : Bool) : R2 := fun x y H Q => ∃ a o, y = .ref a ∧ DGet H a x o ∧ Q (.bl (if neg then !o.isSome else o.isSome)) H
theorem op_inKd {X : Cx} (hu : X.A.units + 1 < cLine) : OpR X (compareOp .In) (rInKd false) := by
  intro pins s σ H x y v u Q I rx ry h
  obtain ⟨a, o, rfl, g, q⟩ := h
  cases ry
  exact d_in hu I g rx fun s3 I3 => ⟨.bl o.isSome, H, I3, rfl, q⟩
theorem op_ninKd {X : Cx} (hu : X.A.units + 1 < cLine) : OpR X (compareOp .NotIn) (rInKd true) := by
  intro pins s σ H x y v u Q I rx ry h
  obtain ⟨a, o, rfl, g, q⟩ := h
  cases ry
  exact d_notIn hu I g rx fun s3 I3 => ⟨.bl (!o.isSome), H, I3, rfl, q⟩
end L2

namespace L2
open PySem
theorem for_str {z : Str} {g : TG} {tb : TS} {D : Ends} {σ : L2.St} {H : Hp} (Pv : Nat → L2.St → Hp → Prop) (h0 : Pv 0 σ H)
    (hs : ∀ i c σ H, (TL.tl z)[i]? = some c → Pv i σ H → g (.str ⟨#[c]⟩) σ H fun σ2 H2 => tb { D with nx := Pv (i + 1), ct := Pv (i + 1), bk := D.nx } σ2 H2) (hd : ∀ σ H, Pv z.length σ H → D.nx σ H) :
    ∃ W : Nat → Nat → L2.St → Hp → Prop, (∃ m, W 0 m σ H) ∧ ∀ i m σ H, W i m σ H →
      ((Its z).stop i H ∧ D.nx σ H) ∨ ((Its z).go i H ∧ ∃ N : L2.St → Hp → Prop, (∀ σ' H', N σ' H' → ∃ m', m' < m ∧ W (i + 1) m' σ' H') ∧ ∀ x H', (Its z).yld i H x H' → g x σ H' fun σ2 H2 => tb { D with nx := N, ct := N, bk := D.nx } σ2 H2) := by
  refine ⟨fun i m σ H => m = z.length - i ∧ i ≤ z.length ∧ Pv i σ H, ⟨z.length, by simp, Nat.zero_le _, h0⟩, ?_⟩
  rintro i m σ H ⟨rfl, hi, p⟩
  by_cases hlt : i < z.length
  · refine .inr ⟨hlt, Pv (i + 1), fun σ' H' p' => ⟨z.length - (i + 1), by omega, rfl, hlt, p'⟩, fun x H' y => ?_⟩
    obtain ⟨e, c, hc, ex⟩ := y
    subst e ex
    exact hs i c σ _ (by show z.cps.toList[i]? = some c; rw [Array.getElem?_toList]; exact hc) p
  · have e : i = z.length := by omega
    subst e
    exact .inl ⟨Nat.le_refl _, hd σ H p⟩
end L2
namespace L2
open PySem
theorem pg_tupK {X : Cx} {K : PySem.W.Frag} {es : List Expr} {k : Nat} {t : TGs} {n : Nat} {pos : Pos} (hK : X.K = K) (hc : X.calm = true) (h : PGs X es t)
    (hn : (assignEach es X.env).length = n := by rfl) (hst : (assignEach es X.env).findIdx? (·.1) = none := by rfl) : PG X (.Tuple es k pos) (gTup K n t) := hK ▸ pg_tup hc h hn hst
end L2

namespace L2
open PySem PySem.Spec PyProof.Rows
theorem anyK {X : Cx} {K : PySem.W.Frag} (h : X.K = K) (hc : X.calm = true) : CallR X (.builtin "any") (rAny K) := h ▸ cr_any hc
end L2
namespace L2
open PySem
theorem lenK {X : Cx} {K : PySem.W.Frag} (h : X.K = K) : CallR X (.builtin "len") (fun xs H Q => ∃ p ys, xs = [V.ref p] ∧ (SqL K H p ys ∨ SqT K H p ys) ∧ Q (.int ((ys.length : Nat) : Int)) H) := h ▸ call_len_seq
theorem pi_listK {X : Cx} {K : PySem.W.Frag} {tg l : Expr} {tl : TE} (h : X.K = K) (hl : PE X l tl) : PI X tg l (iList K tl) := h ▸ pi_list hl
theorem pi_tupleK {X : Cx} {K : PySem.W.Frag} {tg l : Expr} {tl : TE} (h : X.K = K) (hl : PE X l tl) : PI X tg l (iTup K tl) := h ▸ pi_tup hl
def rListOf (K : PySem.W.Frag) : List V → Hp → VK → Prop := fun xs H Q => ∃ p ys, xs = [V.ref p] ∧ (SqL K H p ys ∨ SqT K H p ys) ∧ ∀ l, H l = none → Q (.ref l) (upd H l (.lst ys))
def rTupOf (K : PySem.W.Frag) : List V → Hp → VK → Prop := fun xs H Q => ∃ p ys, xs = [V.ref p] ∧ ((SqL K H p ys ∧ ∀ l, H l = none → Q (.ref l) (upd H l (.tup ys))) ∨ (SqT K H p ys ∧ Q (.ref p) H))
theorem listK {X : Cx} {K : PySem.W.Frag} (h : X.K = K) : CallR X (.type "list") (rListOf K) := h ▸ call_list_of
theorem tupleK {X : Cx} {K : PySem.W.Frag} (h : X.K = K) : CallR X (.type "tuple") (rTupOf K) := h ▸ call_tuple_of
end L2

namespace L2
open PySem PySem.Spec PyProof.Rows
theorem eqDK {X : Cx} {K : PySem.W.Frag} (h : X.K = K) (hu : X.A.units + 64 < cLine) : OpR X (compareOp .Eq) (rEqD K) := h ▸ op_eqD hu
theorem neDK {X : Cx} {K : PySem.W.Frag} (h : X.K = K) (hu : X.A.units + 64 < cLine) : OpR X (compareOp .NotEq) (rNeD K) := h ▸ op_neD hu
end L2

namespace My
open PySem L2
abbrev PP : Program := PySem.Challenge.pw_weblocks_k24_ready_policies
def topS (i : Nat) : Stmt := PySem.Challenge.pw_weblocks_k24_ready_policies.main.body.getD i (.Pass ⟨0, 0, 0, 0⟩)
abbrev S_rank : Stmt := topS 19
abbrev S_Way_init : Stmt := inClass (topS 24) 1
abbrev S_Policy_init : Stmt := inClass (topS 38) 0
abbrev S_Policy_iter : Stmt := inClass (topS 38) 1
abbrev S_Policy_len : Stmt := inClass (topS 38) 2
abbrev S_Policy_getitem : Stmt := inClass (topS 38) 3
abbrev S_Policy_setitem : Stmt := inClass (topS 38) 4
abbrev S_Policy_starts : Stmt := inClass (topS 38) 8
abbrev S_Policy_everywhere : Stmt := inClass (topS 38) 17
abbrev S_Policy_two_phase : Stmt := inClass (topS 38) 18
abbrev S_Policy_hand_over_hand : Stmt := inClass (topS 38) 19
abbrev S_Policy_majority : Stmt := inClass (topS 38) 20
abbrev S_Policy_all_seen : Stmt := inClass (topS 38) 21
abbrev S_is_mark : Stmt := topS 42
abbrev S_sound_row : Stmt := topS 43
abbrev S_barren : Stmt := topS 44
abbrev S_Shape_init : Stmt := inClass (topS 45) 2
abbrev S_Shape_iter : Stmt := inClass (topS 45) 4
abbrev S_Shape_len : Stmt := inClass (topS 45) 5
abbrev S_Shape_eq : Stmt := inClass (topS 45) 7
abbrev S__law_draws : Stmt := topS 47
abbrev S__law_take : Stmt := topS 48
abbrev S__law_same : Stmt := topS 49
abbrev S__law_marks : Stmt := topS 50
abbrev S__law_way : Stmt := topS 51
abbrev S__law_way_made : Stmt := topS 52
abbrev S__law_rule_same : Stmt := topS 53
abbrev S__law_policy_same : Stmt := topS 54
abbrev S__law_wide_rows : Stmt := topS 55
abbrev S__law_wide_shape : Stmt := topS 56
abbrev S__law_everywhere : Stmt := topS 57
abbrev S_law : Stmt := topS 58
abbrev S_BadShape_init : Stmt := inClass (topS 4) 0
abbrev S_UnknownMark_init : Stmt := inClass (topS 5) 0
abbrev S_TooLarge_init : Stmt := inClass (topS 7) 0
theorem sc_rank : FnScope ["level", "place", "word"] ["level"] (defScope S_rank) := ⟨rfl, rfl, rfl, by decide +kernel, rfl, by decide +kernel, by decide +kernel⟩
theorem sc_Way_init : FnScope ["self", "held", "owned", "seen", "early", "by_held", "by_owned", "by_seen"] ["self", "held", "owned", "seen", "early"] (defScope S_Way_init) := ⟨rfl, rfl, rfl, by decide +kernel, rfl, by decide +kernel, by decide +kernel⟩
theorem sc_Policy_init : FnScope ["self", "shape", "rows", "starts", "table", "mark", "start", "ways"] ["self", "shape", "rows"] (defScope S_Policy_init) := ⟨rfl, rfl, rfl, by decide +kernel, rfl, by decide +kernel, by decide +kernel⟩
theorem sc_Policy_iter : FnScope ["self"] ["self"] (defScope S_Policy_iter) := ⟨rfl, rfl, rfl, by decide +kernel, rfl, by decide +kernel, by decide +kernel⟩
theorem sc_Policy_len : FnScope ["self"] ["self"] (defScope S_Policy_len) := ⟨rfl, rfl, rfl, by decide +kernel, rfl, by decide +kernel, by decide +kernel⟩
theorem sc_Policy_getitem : FnScope ["self", "mark"] ["self", "mark"] (defScope S_Policy_getitem) := ⟨rfl, rfl, rfl, by decide +kernel, rfl, by decide +kernel, by decide +kernel⟩
theorem sc_Policy_setitem : FnScope ["self", "mark", "rule", "start", "ways"] ["self", "mark", "rule"] (defScope S_Policy_setitem) := ⟨rfl, rfl, rfl, by decide +kernel, rfl, by decide +kernel, by decide +kernel⟩
theorem sc_Policy_starts : FnScope ["self", "mark"] ["self"] (defScope S_Policy_starts) := ⟨rfl, rfl, rfl, by decide +kernel, rfl, by decide +kernel, by decide +kernel⟩
theorem sc_Policy_everywhere : FnScope ["cls", "shape", "ways", "mark"] ["cls", "shape", "ways"] (defScope S_Policy_everywhere) := ⟨rfl, rfl, rfl, by decide +kernel, rfl, by decide +kernel, by decide +kernel⟩
theorem sc_Policy_two_phase : FnScope ["cls", "shape"] ["cls", "shape"] (defScope S_Policy_two_phase) := ⟨rfl, rfl, rfl, by decide +kernel, rfl, by decide +kernel, by decide +kernel⟩
theorem sc_Policy_hand_over_hand : FnScope ["cls", "shape"] ["cls", "shape"] (defScope S_Policy_hand_over_hand) := ⟨rfl, rfl, rfl, by decide +kernel, rfl, by decide +kernel, by decide +kernel⟩
theorem sc_Policy_majority : FnScope ["cls", "shape"] ["cls", "shape"] (defScope S_Policy_majority) := ⟨rfl, rfl, rfl, by decide +kernel, rfl, by decide +kernel, by decide +kernel⟩
theorem sc_Policy_all_seen : FnScope ["cls", "shape"] ["cls", "shape"] (defScope S_Policy_all_seen) := ⟨rfl, rfl, rfl, by decide +kernel, rfl, by decide +kernel, by decide +kernel⟩
theorem sc_is_mark : FnScope ["text", "sign"] ["text"] (defScope S_is_mark) := ⟨rfl, rfl, rfl, by decide +kernel, rfl, by decide +kernel, by decide +kernel⟩
theorem sc_sound_row : FnScope ["row", "before", "mark", "parents", "least", "most", "shared", "good", "place", "parent"] ["row", "before"] (defScope S_sound_row) := ⟨rfl, rfl, rfl, by decide +kernel, rfl, by decide +kernel, by decide +kernel⟩
theorem sc_barren : FnScope ["rows", "known", "grown", "mark", "parents", "least", "_", "parent", "row"] ["rows"] (defScope S_barren) := ⟨rfl, rfl, rfl, by decide +kernel, rfl, by decide +kernel, by decide +kernel⟩
theorem sc_Shape_init : FnScope ["self", "rows", "listed", "marks", "row", "parent", "lost"] ["self", "rows"] (defScope S_Shape_init) := ⟨rfl, rfl, rfl, by decide +kernel, rfl, by decide +kernel, by decide +kernel⟩
theorem sc_Shape_iter : FnScope ["self"] ["self"] (defScope S_Shape_iter) := ⟨rfl, rfl, rfl, by decide +kernel, rfl, by decide +kernel, by decide +kernel⟩
theorem sc_Shape_len : FnScope ["self"] ["self"] (defScope S_Shape_len) := ⟨rfl, rfl, rfl, by decide +kernel, rfl, by decide +kernel, by decide +kernel⟩
theorem sc_Shape_eq : FnScope ["self", "other"] ["self", "other"] (defScope S_Shape_eq) := ⟨rfl, rfl, rfl, by decide +kernel, rfl, by decide +kernel, by decide +kernel⟩
theorem sc__law_draws : FnScope ["_law_script", "_law_draws_here", "_law_cell", "_law_rest", "_law_k", "_law_mixed"] ["_law_script"] (defScope S__law_draws) := ⟨rfl, rfl, rfl, by decide +kernel, rfl, by decide +kernel, by decide +kernel⟩
theorem sc__law_take : FnScope ["_law_draws_here", "_law_at", "_law_size"] ["_law_draws_here", "_law_at", "_law_size"] (defScope S__law_take) := ⟨rfl, rfl, rfl, by decide +kernel, rfl, by decide +kernel, by decide +kernel⟩
theorem sc__law_same : FnScope ["_law_actual", "_law_expected", "_law_k"] ["_law_actual", "_law_expected"] (defScope S__law_same) := ⟨rfl, rfl, rfl, by decide +kernel, rfl, by decide +kernel, by decide +kernel⟩
theorem sc__law_marks : FnScope ["_law_draws_here", "_law_at", "_law_count", "_law_letters", "_law_shift", "_law_front", "_law_marks_here", "_law_k", "_law_size", "_law_first", "_law_rest", "_law_j", "_law_sign"] ["_law_draws_here", "_law_at", "_law_count"] (defScope S__law_marks) := ⟨rfl, rfl, rfl, by decide +kernel, rfl, by decide +kernel, by decide +kernel⟩
theorem sc__law_way : FnScope ["_law_draws_here", "_law_at", "_law_menu", "_law_choice", "_law_owned", "_law_held", "_law_seen"] ["_law_draws_here", "_law_at"] (defScope S__law_way) := ⟨rfl, rfl, rfl, by decide +kernel, rfl, by decide +kernel, by decide +kernel⟩
theorem sc__law_way_made : FnScope ["_law_way_here", "_law_words"] ["_law_way_here"] (defScope S__law_way_made) := ⟨rfl, rfl, rfl, by decide +kernel, rfl, by decide +kernel, by decide +kernel⟩
theorem sc__law_rule_same : FnScope ["_law_rule", "_law_due", "_law_words", "_law_k", "_law_way_here", "_law_levels", "_law_fields"] ["_law_rule", "_law_due"] (defScope S__law_rule_same) := ⟨rfl, rfl, rfl, by decide +kernel, rfl, by decide +kernel, by decide +kernel⟩
theorem sc__law_policy_same : FnScope ["_law_policy", "_law_shape", "_law_rules", "_law_marks_here", "_law_mark"] ["_law_policy", "_law_shape", "_law_rules"] (defScope S__law_policy_same) := ⟨rfl, rfl, rfl, by decide +kernel, rfl, by decide +kernel, by decide +kernel⟩
theorem sc__law_wide_rows : FnScope ["_law_draws_here", "_law_at", "_law_count", "_law_marks_here", "_law_rows", "_law_k", "_law_parents", "_law_most", "_law_least"] ["_law_draws_here", "_law_at", "_law_count"] (defScope S__law_wide_rows) := ⟨rfl, rfl, rfl, by decide +kernel, rfl, by decide +kernel, by decide +kernel⟩
theorem sc__law_wide_shape : FnScope ["_law_rows", "_law_made", "_law_row"] ["_law_rows"] (defScope S__law_wide_shape) := ⟨rfl, rfl, rfl, by decide +kernel, rfl, by decide +kernel, by decide +kernel⟩
theorem sc__law_everywhere : FnScope ["_law_shape", "_law_ways", "_law_made", "_law_way_here"] ["_law_shape", "_law_ways"] (defScope S__law_everywhere) := ⟨rfl, rfl, rfl, by decide +kernel, rfl, by decide +kernel, by decide +kernel⟩
theorem sc_law : FnScope ["_law_script", "_law_draws_here", "_law_at", "_law_rows", "_law_ways", "_law_k", "_law_shape", "_law_due", "_law_turn", "_law_made", "_law_policy", "_law_rules", "_law_row", "_law_mark"] ["_law_script"] (defScope S_law) := ⟨rfl, rfl, rfl, by decide +kernel, rfl, by decide +kernel, by decide +kernel⟩
structure Txt (K : PySem.W.Frag) (mg : Str → Option Value) where
  a_rank : Addr
  fd_rank : FuncData
  F_rank : Fun K "rank" "rank" S_rank a_rank fd_rank
  b_rank : Binds K fd_rank ["level"] []
  g_rank : mg "rank" = some (.ref a_rank)
  a_Way_init : Addr
  fd_Way_init : FuncData
  F_Way_init : FunD K "__init__" "Way.__init__" (defArgs S_Way_init) (defBody S_Way_init) (defScope S_Way_init) [.str "none", .str "none", .str "none"] [("early", .bl false)] a_Way_init fd_Way_init
  a_Policy_init : Addr
  fd_Policy_init : FuncData
  ed_Policy_init_0 : Addr
  qe_Policy_init_0 : ∀ H : Hp, SqT K H ed_Policy_init_0 []
  F_Policy_init : FunD K "__init__" "Policy.__init__" (defArgs S_Policy_init) (defBody S_Policy_init) (defScope S_Policy_init) [.ref ed_Policy_init_0] [] a_Policy_init fd_Policy_init
  a_Policy_iter : Addr
  fd_Policy_iter : FuncData
  F_Policy_iter : Fun K "__iter__" "Policy.__iter__" S_Policy_iter a_Policy_iter fd_Policy_iter
  b_Policy_iter : Binds K fd_Policy_iter ["self"] []
  a_Policy_len : Addr
  fd_Policy_len : FuncData
  F_Policy_len : Fun K "__len__" "Policy.__len__" S_Policy_len a_Policy_len fd_Policy_len
  b_Policy_len : Binds K fd_Policy_len ["self"] []
  a_Policy_getitem : Addr
  fd_Policy_getitem : FuncData
  F_Policy_getitem : Fun K "__getitem__" "Policy.__getitem__" S_Policy_getitem a_Policy_getitem fd_Policy_getitem
  b_Policy_getitem : Binds K fd_Policy_getitem ["self", "mark"] []
  a_Policy_setitem : Addr
  fd_Policy_setitem : FuncData
  F_Policy_setitem : Fun K "__setitem__" "Policy.__setitem__" S_Policy_setitem a_Policy_setitem fd_Policy_setitem
  b_Policy_setitem : Binds K fd_Policy_setitem ["self", "mark", "rule"] []
  a_Policy_starts : Addr
  fd_Policy_starts : FuncData
  F_Policy_starts : Fun K "starts" "Policy.starts" S_Policy_starts a_Policy_starts fd_Policy_starts
  b_Policy_starts : Binds K fd_Policy_starts ["self"] []
  a_Policy_everywhere : Addr
  fd_Policy_everywhere : FuncData
  F_Policy_everywhere : Fun K "everywhere" "Policy.everywhere" S_Policy_everywhere a_Policy_everywhere fd_Policy_everywhere
  bs_Policy_everywhere : StarB fd_Policy_everywhere ["cls", "shape"] "ways"
  a_Policy_two_phase : Addr
  fd_Policy_two_phase : FuncData
  F_Policy_two_phase : Fun K "two_phase" "Policy.two_phase" S_Policy_two_phase a_Policy_two_phase fd_Policy_two_phase
  b_Policy_two_phase : Binds K fd_Policy_two_phase ["cls", "shape"] []
  a_Policy_hand_over_hand : Addr
  fd_Policy_hand_over_hand : FuncData
  F_Policy_hand_over_hand : Fun K "hand_over_hand" "Policy.hand_over_hand" S_Policy_hand_over_hand a_Policy_hand_over_hand fd_Policy_hand_over_hand
  b_Policy_hand_over_hand : Binds K fd_Policy_hand_over_hand ["cls", "shape"] []
  a_Policy_majority : Addr
  fd_Policy_majority : FuncData
  F_Policy_majority : Fun K "majority" "Policy.majority" S_Policy_majority a_Policy_majority fd_Policy_majority
  b_Policy_majority : Binds K fd_Policy_majority ["cls", "shape"] []
  a_Policy_all_seen : Addr
  fd_Policy_all_seen : FuncData
  F_Policy_all_seen : Fun K "all_seen" "Policy.all_seen" S_Policy_all_seen a_Policy_all_seen fd_Policy_all_seen
  b_Policy_all_seen : Binds K fd_Policy_all_seen ["cls", "shape"] []
  a_is_mark : Addr
  fd_is_mark : FuncData
  F_is_mark : Fun K "is_mark" "is_mark" S_is_mark a_is_mark fd_is_mark
  b_is_mark : Binds K fd_is_mark ["text"] []
  g_is_mark : mg "is_mark" = some (.ref a_is_mark)
  a_sound_row : Addr
  fd_sound_row : FuncData
  F_sound_row : Fun K "sound_row" "sound_row" S_sound_row a_sound_row fd_sound_row
  b_sound_row : Binds K fd_sound_row ["row", "before"] []
  g_sound_row : mg "sound_row" = some (.ref a_sound_row)
  a_barren : Addr
  fd_barren : FuncData
  F_barren : Fun K "barren" "barren" S_barren a_barren fd_barren
  b_barren : Binds K fd_barren ["rows"] []
  g_barren : mg "barren" = some (.ref a_barren)
  a_Shape_init : Addr
  fd_Shape_init : FuncData
  F_Shape_init : Fun K "__init__" "Shape.__init__" S_Shape_init a_Shape_init fd_Shape_init
  bs_Shape_init : StarB fd_Shape_init ["self"] "rows"
  a_Shape_iter : Addr
  fd_Shape_iter : FuncData
  F_Shape_iter : Fun K "__iter__" "Shape.__iter__" S_Shape_iter a_Shape_iter fd_Shape_iter
  b_Shape_iter : Binds K fd_Shape_iter ["self"] []
  a_Shape_len : Addr
  fd_Shape_len : FuncData
  F_Shape_len : Fun K "__len__" "Shape.__len__" S_Shape_len a_Shape_len fd_Shape_len
  b_Shape_len : Binds K fd_Shape_len ["self"] []
  a_Shape_eq : Addr
  fd_Shape_eq : FuncData
  F_Shape_eq : Fun K "__eq__" "Shape.__eq__" S_Shape_eq a_Shape_eq fd_Shape_eq
  b_Shape_eq : Binds K fd_Shape_eq ["self", "other"] []
  a__law_draws : Addr
  fd__law_draws : FuncData
  F__law_draws : Fun K "_law_draws" "_law_draws" S__law_draws a__law_draws fd__law_draws
  b__law_draws : Binds K fd__law_draws ["_law_script"] []
  g__law_draws : mg "_law_draws" = some (.ref a__law_draws)
  a__law_take : Addr
  fd__law_take : FuncData
  F__law_take : Fun K "_law_take" "_law_take" S__law_take a__law_take fd__law_take
  b__law_take : Binds K fd__law_take ["_law_draws_here", "_law_at", "_law_size"] []
  g__law_take : mg "_law_take" = some (.ref a__law_take)
  a__law_same : Addr
  fd__law_same : FuncData
  F__law_same : Fun K "_law_same" "_law_same" S__law_same a__law_same fd__law_same
  b__law_same : Binds K fd__law_same ["_law_actual", "_law_expected"] []
  g__law_same : mg "_law_same" = some (.ref a__law_same)
  a__law_marks : Addr
  fd__law_marks : FuncData
  F__law_marks : Fun K "_law_marks" "_law_marks" S__law_marks a__law_marks fd__law_marks
  b__law_marks : Binds K fd__law_marks ["_law_draws_here", "_law_at", "_law_count"] []
  g__law_marks : mg "_law_marks" = some (.ref a__law_marks)
  a__law_way : Addr
  fd__law_way : FuncData
  F__law_way : Fun K "_law_way" "_law_way" S__law_way a__law_way fd__law_way
  b__law_way : Binds K fd__law_way ["_law_draws_here", "_law_at"] []
  g__law_way : mg "_law_way" = some (.ref a__law_way)
  a__law_way_made : Addr
  fd__law_way_made : FuncData
  F__law_way_made : Fun K "_law_way_made" "_law_way_made" S__law_way_made a__law_way_made fd__law_way_made
  b__law_way_made : Binds K fd__law_way_made ["_law_way_here"] []
  g__law_way_made : mg "_law_way_made" = some (.ref a__law_way_made)
  a__law_rule_same : Addr
  fd__law_rule_same : FuncData
  F__law_rule_same : Fun K "_law_rule_same" "_law_rule_same" S__law_rule_same a__law_rule_same fd__law_rule_same
  b__law_rule_same : Binds K fd__law_rule_same ["_law_rule", "_law_due"] []
  g__law_rule_same : mg "_law_rule_same" = some (.ref a__law_rule_same)
  a__law_policy_same : Addr
  fd__law_policy_same : FuncData
  F__law_policy_same : Fun K "_law_policy_same" "_law_policy_same" S__law_policy_same a__law_policy_same fd__law_policy_same
  b__law_policy_same : Binds K fd__law_policy_same ["_law_policy", "_law_shape", "_law_rules"] []
  g__law_policy_same : mg "_law_policy_same" = some (.ref a__law_policy_same)
  a__law_wide_rows : Addr
  fd__law_wide_rows : FuncData
  F__law_wide_rows : Fun K "_law_wide_rows" "_law_wide_rows" S__law_wide_rows a__law_wide_rows fd__law_wide_rows
  b__law_wide_rows : Binds K fd__law_wide_rows ["_law_draws_here", "_law_at", "_law_count"] []
  g__law_wide_rows : mg "_law_wide_rows" = some (.ref a__law_wide_rows)
  a__law_wide_shape : Addr
  fd__law_wide_shape : FuncData
  F__law_wide_shape : Fun K "_law_wide_shape" "_law_wide_shape" S__law_wide_shape a__law_wide_shape fd__law_wide_shape
  b__law_wide_shape : Binds K fd__law_wide_shape ["_law_rows"] []
  g__law_wide_shape : mg "_law_wide_shape" = some (.ref a__law_wide_shape)
  a__law_everywhere : Addr
  fd__law_everywhere : FuncData
  F__law_everywhere : Fun K "_law_everywhere" "_law_everywhere" S__law_everywhere a__law_everywhere fd__law_everywhere
  b__law_everywhere : Binds K fd__law_everywhere ["_law_shape", "_law_ways"] []
  g__law_everywhere : mg "_law_everywhere" = some (.ref a__law_everywhere)
  a_law : Addr
  fd_law : FuncData
  F_law : Fun K "law" "law" S_law a_law fd_law
  b_law : Binds K fd_law ["_law_script"] []
  g_law : mg "law" = some (.ref a_law)
  n_any : mg "any" = none
  n_bool : mg "bool" = none
  n_classmethod : mg "classmethod" = none
  n_enumerate : mg "enumerate" = none
  n_int : mg "int" = none
  n_isinstance : mg "isinstance" = none
  n_iter : mg "iter" = none
  n_len : mg "len" = none
  n_list : mg "list" = none
  n_property : mg "property" = none
  n_range : mg "range" = none
  n_str : mg "str" = none
  n_tuple : mg "tuple" = none
  k_LEVELS : Addr
  g_LEVELS : mg "LEVELS" = some (.ref k_LEVELS)
  q_LEVELS : ∀ H : Hp, SqT K H k_LEVELS [.str "none", .str "one", .str "most", .str "all"]
  tk_LETTERS : Tok
  g_LETTERS : mg "LETTERS" = some (.str "abcdefghijklmnopqrstuvwxyz" tk_LETTERS)
  c_Way : Addr
  g_Way : mg "Way" = some (.ref c_Way)
  cl_Way : Cls K c_Way
  mk_Way : Mk K c_Way a_Way_init
  ti_Way : ∀ (H : Hp) (a dx : Addr) (fs : List (Str × V)), H a = some (.ins c_Way dx fs) → TyOf K H (.ref a) (.ref c_Way)
  kk_Way : PySem.W.kitOne K (.ref c_Way) (.ref c_Way) = some true
  no_Way_held : NoAttr K c_Way "held"
  no_Way_owned : NoAttr K c_Way "owned"
  no_Way_seen : NoAttr K c_Way "seen"
  no_Way_early : NoAttr K c_Way "early"
  c_Policy : Addr
  g_Policy : mg "Policy" = some (.ref c_Policy)
  cl_Policy : Cls K c_Policy
  mk_Policy : Mk K c_Policy a_Policy_init
  m_Policy_iter : Meth K c_Policy "__iter__" a_Policy_iter
  m_Policy_len : Meth K c_Policy "__len__" a_Policy_len
  m_Policy_getitem : Meth K c_Policy "__getitem__" a_Policy_getitem
  m_Policy_setitem : Meth K c_Policy "__setitem__" a_Policy_setitem
  p_Policy_starts : Addr
  pr_Policy_starts : PropOf K c_Policy "starts" p_Policy_starts a_Policy_starts
  p_Policy_everywhere : Addr
  cm_Policy_everywhere : ClX.CMet K c_Policy (.type "type") "everywhere" p_Policy_everywhere a_Policy_everywhere
  p_Policy_two_phase : Addr
  cm_Policy_two_phase : ClX.CMet K c_Policy (.type "type") "two_phase" p_Policy_two_phase a_Policy_two_phase
  p_Policy_hand_over_hand : Addr
  cm_Policy_hand_over_hand : ClX.CMet K c_Policy (.type "type") "hand_over_hand" p_Policy_hand_over_hand a_Policy_hand_over_hand
  p_Policy_majority : Addr
  cm_Policy_majority : ClX.CMet K c_Policy (.type "type") "majority" p_Policy_majority a_Policy_majority
  p_Policy_all_seen : Addr
  cm_Policy_all_seen : ClX.CMet K c_Policy (.type "type") "all_seen" p_Policy_all_seen a_Policy_all_seen
  cr_Policy : ClX.CRead K c_Policy (.type "type")
  fi_Policy_getitem : PySem.W.fnIn K a_Policy_getitem = true
  nq_Policy : PySem.W.noSeq K c_Policy = true
  ti_Policy : ∀ (H : Hp) (a dx : Addr) (fs : List (Str × V)), H a = some (.ins c_Policy dx fs) → TyOf K H (.ref a) (.ref c_Policy)
  kk_Policy : PySem.W.kitOne K (.ref c_Policy) (.ref c_Policy) = some true
  no_Policy_shape : NoAttr K c_Policy "shape"
  no_Policy__marks : NoAttr K c_Policy "_marks"
  no_Policy__starts : NoAttr K c_Policy "_starts"
  no_Policy__ways : NoAttr K c_Policy "_ways"
  c_Shape : Addr
  g_Shape : mg "Shape" = some (.ref c_Shape)
  cl_Shape : Cls K c_Shape
  mk_Shape : Mk K c_Shape a_Shape_init
  m_Shape_iter : Meth K c_Shape "__iter__" a_Shape_iter
  m_Shape_len : Meth K c_Shape "__len__" a_Shape_len
  m_Shape_eq : Meth K c_Shape "__eq__" a_Shape_eq
  ti_Shape : ∀ (H : Hp) (a dx : Addr) (fs : List (Str × V)), H a = some (.ins c_Shape dx fs) → TyOf K H (.ref a) (.ref c_Shape)
  kk_Shape : PySem.W.kitOne K (.ref c_Shape) (.ref c_Shape) = some true
  cr_Shape : ClX.CRead K c_Shape (.type "type")
  tk_Shape_MARKS : Tok
  cv_Shape_MARKS : ClX.CVal K c_Shape (.type "type") "MARKS" (.int 6) (.int 6 tk_Shape_MARKS)
  tk_Shape_PARENTS : Tok
  cv_Shape_PARENTS : ClX.CVal K c_Shape (.type "type") "PARENTS" (.int 4) (.int 4 tk_Shape_PARENTS)
  no_Shape__listed : NoAttr K c_Shape "_listed"
  no_Shape__marks : NoAttr K c_Shape "_marks"
  kb_Way_init_4_early : KBn K fd_Way_init ["self", "held", "owned", "seen", "early"] 4 ["early"] (fun us ws => us ++ ws) (fun vs zs => vs ++ zs)
  kb_Way_init_1_early : ∃ G, KBn K fd_Way_init ["self", "held", "owned", "seen", "early"] 1 ["early"] G (fun vs zs => (vs ++ ((([.str "none", .str "none", .str "none"] : List V).drop 0).take 1 ++ ((([.str "none", .str "none", .str "none"] : List V).drop 1).take 1 ++ ((([.str "none", .str "none", .str "none"] : List V).drop 2).take 1 ++ ((zs.drop 0).take 1))))))
  kb_Way_init_1_owned : ∃ G, KBn K fd_Way_init ["self", "held", "owned", "seen", "early"] 1 ["owned"] G (fun vs zs => (vs ++ ((([.str "none", .str "none", .str "none"] : List V).drop 0).take 1 ++ ((zs.drop 0).take 1 ++ ((([.str "none", .str "none", .str "none"] : List V).drop 2).take 1 ++ (((([("early", .bl false)] : List (Str × V)).map (·.2)).drop 0).take 1))))))
  kb_Way_init_1_owned_seen : ∃ G, KBn K fd_Way_init ["self", "held", "owned", "seen", "early"] 1 ["owned", "seen"] G (fun vs zs => (vs ++ ((([.str "none", .str "none", .str "none"] : List V).drop 0).take 1 ++ ((zs.drop 0).take 1 ++ ((zs.drop 1).take 1 ++ (((([("early", .bl false)] : List (Str × V)).map (·.2)).drop 0).take 1))))))
  kb_Policy_init_3 : ∃ ds, Vals [] ds ∧ Binds K fd_Policy_init ["self", "shape", "rows"] ds
  c_BadShape : Addr
  g_BadShape : mg "BadShape" = some (.ref c_BadShape)
  c_UnknownMark : Addr
  g_UnknownMark : mg "UnknownMark" = some (.ref c_UnknownMark)
  c_TooLarge : Addr
  g_TooLarge : mg "TooLarge" = some (.ref c_TooLarge)
  x_BadShape : PySem.WX.ExcTxt PP K mg "BadShape" "mark" c_BadShape
  xc_BadShape : XC K c_BadShape
  xn_BadShape : PySem.W.findIn K (.ref c_BadShape) "mark" = some none
  x_UnknownMark : PySem.WX.ExcTxt PP K mg "UnknownMark" "mark" c_UnknownMark
  xc_UnknownMark : XC K c_UnknownMark
  xn_UnknownMark : PySem.W.findIn K (.ref c_UnknownMark) "mark" = some none
  x_TooLarge : PySem.WX.ExcTxt PP K mg "TooLarge" "most" c_TooLarge
  xc_TooLarge : XC K c_TooLarge
  xn_TooLarge : PySem.W.findIn K (.ref c_TooLarge) "most" = some none
end My
namespace My
open PySem L2
/-! ### heaps: all but a as it was -/
def But (a : Addr) (H H' : Hp) : Prop := ∀ b o, b ≠ a → H b = some o → H' b = some o
theorem But.refl (a : Addr) (H : Hp) : But a H H := fun _ _ _ h => h
theorem But.trans {a : Addr} {H H1 H2 : Hp} (x : But a H H1) (y : But a H1 H2) : But a H H2 := fun b o n h => y b o n (x b o n h)
theorem But.of_same {a : Addr} {H H' : Hp} (s : Same H H') : But a H H' := fun b o _ h => s b o h
theorem But.upd {a : Addr} {H : Hp} {o : HO} : But a H (upd H a o) := fun b u n h => by rw [upd_ne n]; exact h
theorem same_new {H : Hp} {p : Addr} {o : HO} (h : H p = none) : Same H (upd H p o) := fun b x e => by
  rw [upd_ne (ne_of_none e h)]; exact e
theorem But.new {a p : Addr} {H : Hp} {o : HO} (h : H p = none) : But a H (L2.upd H p o) := But.of_same (same_new h)
/-- an object that H does not know may change -/
theorem same_mut {H H' : Hp} {p : Addr} {o : HO} (e : Same H H') (h : H p = none) : Same H (upd H' p o) := fun a u ha => by
  rw [upd_ne (ne_of_none ha h)]; exact e a u ha
theorem But.mut {a p : Addr} {H H' : Hp} {o : HO} (e : But a H H') (h : H p = none) : But a H (L2.upd H' p o) := fun b u n hb => by
  rw [upd_ne (ne_of_none hb h)]; exact e b u n hb
theorem But.free {a p : Addr} {H H' : Hp} (e : But a H H') (n : p ≠ a) (h : H' p = none) : H p = none := by
  cases q : H p with
  | none => rfl
  | some o => rw [e p o n q] at h; cases h
theorem But.sqL {K : PySem.W.Frag} {a d : Addr} {H H' : Hp} {xs : List V} (e : But a H H') (n : d ≠ a) (h : SqL K H d xs) : SqL K H' d xs := by
  rcases h with (h | ⟨o, h⟩) | h
  · exact .inl (.inl (e _ _ n h))
  · exact .inl (.inr ⟨o, e _ _ n h⟩)
  · exact .inr h
theorem But.sqT {K : PySem.W.Frag} {a d : Addr} {H H' : Hp} {xs : List V} (e : But a H H') (n : d ≠ a) (h : SqT K H d xs) : SqT K H' d xs := by
  rcases h with (h | ⟨o, h⟩) | h
  · exact .inl (.inl (e _ _ n h))
  · exact .inl (.inr ⟨o, e _ _ n h⟩)
  · exact .inr h
theorem same_sqT {K : PySem.W.Frag} {d : Addr} {H H' : Hp} {xs : List V} (e : Same H H') (h : SqT K H d xs) : SqT K H' d xs := by
  rcases h with (h | ⟨o, h⟩) | h
  · exact .inl (.inl (e _ _ h))
  · exact .inl (.inr ⟨o, e _ _ h⟩)
  · exact .inr h
theorem same_make {H H5 : Hp} {x dx C : Addr} (nx : H x = none) (nd : H dx = none) (b : But x (L2.upd (L2.upd H dx (.own x)) x (.ins C dx [])) H5) : Same H H5 := fun y o h =>
  b y o (ne_of_none h nx) (by rw [upd_ne (ne_of_none h nx), upd_ne (ne_of_none h nd)]; exact h)
/-! ### tests -/
theorem iteD {c A B : Prop} [Decidable c] (h1 : c → A) (h2 : ¬ c → B) : if decide c = true then A else B := by
  by_cases h : c
  · rw [decide_eq_true h]; exact iteT (h1 h)
  · rw [decide_eq_false h]; exact iteF (h2 h)
theorem iteN {c A B : Prop} [Decidable c] (h1 : ¬ c → A) (h2 : c → B) : if (!decide c) = true then A else B := by
  by_cases h : c
  · rw [decide_eq_true h]; exact iteF (h2 h)
  · rw [decide_eq_false h]; exact iteT (h1 h)
theorem iteB {b : Bool} {A B : Prop} (h1 : b = true → A) (h2 : b = false → B) : if b = true then A else B := by
  cases b with
  | true => exact iteT (h1 rfl)
  | false => exact iteF (h2 rfl)
theorem iteYes {b : Bool} {A B : Prop} (h : b = true) (h1 : A) : if b = true then A else B := by rw [h]; exact iteT h1
theorem iteNo {b : Bool} {A B : Prop} (h : b = false) (h1 : B) : if b = true then A else B := by rw [h]; exact iteF h1
/-! ### lists -/
theorem ints_app (zs : List Int) (z : Int) : (zs.map V.int) ++ [V.int z] = (zs ++ [z]).map V.int := by rw [List.map_append]; rfl
theorem at_ok {xs : List V} {i : Int} (h0 : 0 ≤ i) (h1 : i < xs.length) : ∃ v, atI xs i = some v ∧ v ∈ xs := by
  obtain ⟨j, rfl⟩ := Int.eq_ofNat_of_zero_le h0
  have hj : j < xs.length := by omega
  exact ⟨xs[j], atI_nat (List.getElem?_eq_getElem hj), List.getElem_mem hj⟩
theorem get_int {ns : List Int} {i : Nat} {y : V} (h : (ns.map V.int)[i]? = some y) : ∃ z, ns[i]? = some z ∧ y = .int z := by
  rw [List.getElem?_map] at h
  cases e : ns[i]? with
  | none => rw [e] at h; cases h
  | some z => rw [e] at h; exact ⟨z, rfl, (Option.some.inj h).symm⟩
end My
namespace L2
open PySem
/-! ### rules whose reading names K itself (in a comprehension's block) -/
theorem ixLK {X : Cx} {K : PySem.W.Frag} (h : X.K = K) : IxR X (rIxL K) := h ▸ ix_list
theorem ixTK {X : Cx} {K : PySem.W.Frag} (h : X.K = K) : IxR X (rIxT K) := h ▸ ix_tup
theorem inK {X : Cx} {K : PySem.W.Frag} (h : X.K = K) : OpR X (compareOp .In) (rIn K false) := h ▸ op_in_seq
theorem ninK {X : Cx} {K : PySem.W.Frag} (h : X.K = K) : OpR X (compareOp .NotIn) (rIn K true) := h ▸ op_notIn_seq
theorem pe_fldK {X : Cx} {K : PySem.W.Frag} {e : Expr} {f : Str} {pos : Pos} {ta : TE} (h : X.K = K) (he : PE X e ta) (hb : attributeBase e f X.env (eval e X.env) = eval e X.env) : PE X (.Attribute e f pos) (tFld K ta f) := h ▸ pe_fld he hb
end L2

namespace My
open PySem L2
/-- the draws at d, the place at a -/
structure Dr (K : PySem.W.Frag) (H : Hp) (d a : Addr) : Prop where
  ds : ∃ ns : List Int, H d = some (.lst (ns.map V.int))
  pl : ∃ k : Nat, H a = some (.lst [.int k])
  ne : d ≠ a
theorem Dr.but {K : PySem.W.Frag} {H H' : Hp} {d a : Addr} (x : Dr K H d a) (e : But a H H') (pl : ∃ k : Nat, H' a = some (.lst [.int k])) : Dr K H' d a :=
  ⟨x.ds.elim fun ns h => ⟨ns, e _ _ x.ne h⟩, pl, x.ne⟩
theorem Dr.same {K : PySem.W.Frag} {H H' : Hp} {d a : Addr} (x : Dr K H d a) (e : Same H H') : Dr K H' d a :=
  x.but (But.of_same e) (x.pl.elim fun k h => ⟨k, e _ _ h⟩)
/-- another object is changed -/
theorem Dr.other {K : PySem.W.Frag} {H H' : Hp} {d a p : Addr} (x : Dr K H d a) (e : But p H H') (n1 : d ≠ p) (n2 : a ≠ p) : Dr K H' d a :=
  ⟨x.ds.elim fun ns h => ⟨ns, e _ _ n1 h⟩, x.pl.elim fun k h => ⟨k, e _ _ n2 h⟩, x.ne⟩
theorem Dr.nd {K : PySem.W.Frag} {H : Hp} {d a p : Addr} (x : Dr K H d a) (h : H p = none) : d ≠ p := ne_of_none x.ds.choose_spec h
theorem Dr.na {K : PySem.W.Frag} {H : Hp} {d a p : Addr} (x : Dr K H d a) (h : H p = none) : p ≠ a := (ne_of_none x.pl.choose_spec h).symm
def spTake (K : PySem.W.Frag) : Sp := fun vs H Q _ => ∃ (d a : Addr) (size : Int), vs = [.ref d, .ref a, .int size] ∧ Dr K H d a ∧ 0 < size ∧
  ∀ (r : Int) (H' : Hp), 0 ≤ r → r < size → Dr K H' d a → But a H H' → Q (.int r) H'
section
variable {P : Program} {w : World} {K : PySem.W.Frag} {mg : Str → Option Value} {base : Heap}
theorem ok__law_take (T : Txt K mg) : FnOk P w K mg base CX0 1 T.a__law_take T.fd__law_take ["_law_draws_here", "_law_at", "_law_size"] (spTake K) := by
  refine T.F__law_take.ok sc__law_take (fun vs H Q E h => ?_) (fun cdv A outer s H vs Q E hr h => ?_)
  · obtain ⟨d, a, size, rfl, _⟩ := h; rfl
  · obtain ⟨d, a, size, rfl, D, hs, q⟩ := h
    obtain ⟨ns, hd0⟩ := D.ds
    have hd : SqL K H d (ns.map V.int) := SqL.of hd0
    obtain ⟨k, hk⟩ := D.pl
    have hb : But a H (upd H a (.lst [.int (k + 1 : Nat)])) := But.upd
    have D' : Dr K (upd H a (.lst [.int (k + 1 : Nat)])) d a := D.but hb ⟨_, upd_same⟩
    have hd' := hb.sqL D.ne hd
    refine ⟨_, (pss_cons (ps_asg (pe_op op_add (pe_ix ix_list (pv 1) (pe_int) (fun _ _ => rfl)) (pe_int)) (pg_sub (pv 1) (pe_int) set_list))
      (pss_cons (ps_if (pt_cmpR op_gt (pe_ix ix_list (pv 1) (pe_int) (fun _ _ => rfl)) (pe_callB call_len_seq (by rfl) T.n_len (by decide +kernel) (pa_cons (pv 0) pa_nil)) (nomark _)) (pss_one (ps_ret (pe_int))) pss_nil)
      (pss_one (ps_ret (pe_op op_mod (pe_callTy call_int1 (by rfl) T.n_int (by decide +kernel) (pa_cons (pe_ix ix_list (pv 0) (pe_op op_sub (pe_ix ix_list (pv 1) (pe_int) (fun _ _ => rfl)) (pe_int)) (fun _ _ => rfl)) pa_nil)) (pv 2)))))), ?_⟩
    walk_at "rd"

    refine iteD (fun c => ?_) (fun c => ?_)
    · exact q 0 _ (Int.le_refl _) hs D' hb
    · rw [List.length_map] at c
      have hl : k < ns.length := by omega
      refine ⟨_, rfl, _, rfl, _, _, _, _, rfl, rfl, SqL.of upd_same, atI_nat (j := 0) rfl, _, _, rfl, rfl, _, _, _, _, rfl, rfl, hd', at_of (j := k) (by omega) (by rw [List.getElem?_map, List.getElem?_eq_getElem hl]; rfl), ?_⟩
      walk_at "rd"
      exact q _ _ (Int.emod_nonneg _ (by omega)) (Int.emod_lt_of_pos _ hs) D' hb
end
end My

namespace My
open PySem L2
def spDraws (K : PySem.W.Frag) : Sp := fun vs H Q _ => ∃ (a : Addr) (ns : List Int), vs = [.ref a] ∧ SqL K H a (ns.map V.int) ∧ ns.length ≤ 63 ∧
  ∀ (p : Addr) (zs : List Int) (H' : Hp), Same H H' → H p = none → H' p = some (.lst (zs.map V.int)) → Q (.ref p) H'
section
variable {P : Program} {w : World} {K : PySem.W.Frag} {mg : Str → Option Value} {base : Heap}
theorem ok__law_draws (T : Txt K mg) : FnOk P w K mg base CX0 1 T.a__law_draws T.fd__law_draws ["_law_script"] (spDraws K) := by
  refine T.F__law_draws.ok sc__law_draws (fun vs H Q E h => ?_) (fun cdv A outer s H vs Q E hr h => ?_)
  · obtain ⟨a, ns, rfl, _⟩ := h; rfl
  · obtain ⟨a, ns, rfl, hS, hlen, q⟩ := h
    refine ⟨_, (pss_cons (ps_set (i := 1) sc__law_draws.nd rfl (.inl rfl) (pe_lst pa_nil))
      (pss_cons (ps_for PassesOwn.never rfl (pi_list (pv 0)) (pg_name (i := 2) sc__law_draws.nd rfl (.inl rfl)) (pss_one (ps_if (pt_cmpR op_ge (pv 2) (pe_op op_pow (pe_int) (pe_int)) (nomark _)) (pss_cons (ps_set (i := 3) sc__law_draws.nd rfl (.inl rfl) (pe_callTy call_int1 (by rfl) T.n_int (by decide +kernel) (pa_cons (pv 2) pa_nil)))
      (pss_one (ps_for PassesOwn.never rfl (pi_range1 (by rfl) T.n_range (pa_cons (pe_int) pa_nil)) (pg_name (i := 4) sc__law_draws.nd rfl (.inl rfl)) (pss_one (ps_if (pt_cmpR op_gt (pv 3) (pe_int) (nomark _)) (pss_cons (ps_expr (pe_bm PySem.F.plainAttrs_list PySem.F.slot_list_append PySem.F.type_list_append mt_append (pv 1) (pa_cons (pe_op op_mod (pe_callTy call_int1 (by rfl) T.n_int (by decide +kernel) (pa_cons (pv 3) pa_nil)) (pe_int)) pa_nil)))
      (pss_one (ps_set (i := 3) sc__law_draws.nd rfl (.inl rfl) (pe_op op_fdiv (pv 3) (pe_int))))) pss_nil))))) (pss_cons (ps_set (i := 5) sc__law_draws.nd rfl (.inl rfl) (pe_op op_mod (pe_callTy call_int1 (by rfl) T.n_int (by decide +kernel) (pa_cons (pe_op op_add (pe_op op_mul (pv 2) (pe_int)) (pe_int)) pa_nil)) (pe_int)))
      (pss_cons (ps_expr (pe_bm PySem.F.plainAttrs_list PySem.F.slot_list_append PySem.F.type_list_append mt_append (pv 1) (pa_cons (pv 5) pa_nil)))
      (pss_one (ps_expr (pe_bm PySem.F.plainAttrs_list PySem.F.slot_list_append PySem.F.type_list_append mt_append (pv 1) (pa_cons (pe_op op_mod (pe_callTy call_int1 (by rfl) T.n_int (by decide +kernel) (pa_cons (pe_op op_add (pe_op op_add (pe_op op_mul (pv 5) (pv 5)) (pe_op op_mul (pe_int) (pv 5))) (pe_op op_mul (pe_int) (pe_callB call_len_seq (by rfl) T.n_len (by decide +kernel) (pa_cons (pv 1) pa_nil)))) pa_nil)) (pe_int)) pa_nil)))))))))
      (pss_one (ps_ret (pv 1))))), ?_⟩
    refine ⟨Nat.zero_le _, fun p hp => ?_⟩
    have s0 : Same H (upd H p (.lst [])) := same_new hp
    refine ⟨_, rfl, a, rfl, ⟨_, s0.seq hS⟩, for_list (K := K) (a := a) (xs := ns.map V.int) (fun i σ H' => ∃ (zs : List Int) (x2 x3 x4 x5 : Option V), σ = [some (.ref a), some (.ref p), x2, x3, x4, x5] ∧ Same H H' ∧ H' p = some (.lst (zs.map V.int)) ∧ zs.length ≤ 60 * i)
      ⟨[], _, _, _, _, rfl, s0, upd_same, Nat.zero_le _⟩ (fun i σ H' _ ⟨_, _, _, _, _, _, s1, _⟩ => s1.seq hS) ?_ ?_⟩
    · rintro i y σ H1 hi ⟨zs, x2, x3, x4, x5, rfl, s1, h1, hz⟩
      have hi63 : i < ns.length := by
        have z := (List.getElem?_eq_some_iff.mp hi).1
        rw [List.length_map] at z
        exact z
      obtain ⟨c, hc, rfl⟩ := get_int hi
      refine ⟨_, rfl, _, _, rfl, rfl, ⟨by decide, by decide, by decide⟩, ?_⟩
      walk_at "rd"
      refine iteD (fun c1 => ?_) (fun c1 => ?_)
      · refine ⟨_, rfl, .inl ⟨_, rfl, ?_⟩⟩
        refine ⟨60, rfl, by decide, by decide, for_range (lo := 0) (n := 60) (fun j σ H' => ∃ (zs : List Int) (r : Int) (x4 : Option V), σ = [some (.ref a), some (.ref p), some (.int c), some (.int r), x4, x5] ∧ Same H H' ∧ H' p = some (.lst (zs.map V.int)) ∧ zs.length ≤ 60 * i + j)
          ⟨zs, c, x4, rfl, s1, h1, hz⟩ ?_ ?_⟩
        · rintro j σ H2 hj ⟨zs, r, x4, rfl, s2, h2, hz2⟩
          walk_at "rd"
          refine iteD (fun c2 => ?_) (fun c2 => ?_)
          · refine ⟨_, rfl, .inl ⟨rfl, _, SqL.of h2⟩, _, rfl, .inl ⟨_, rfl, _, _, rfl, rfl, (by show (0 : Int) < 1000; decide), _, _, _, rfl, rfl, h2, by rw [List.length_map]; exact Nat.lt_of_le_of_lt (by omega : _ ≤ 100000) (by decide), ?_⟩⟩
            refine ⟨_, rfl, _, _, rfl, rfl, ⟨by decide, by decide⟩, ?_⟩
            exact ⟨zs ++ [r % 1000], _, _, rfl, same_mut s2 hp, by rw [upd_same, ints_app], by rw [List.length_append, List.length_singleton]; omega⟩
          · exact ⟨zs, r, _, rfl, s2, h2, by omega⟩
        · rintro σ H2 ⟨zs, r, x4, rfl, s2, h2, hz2⟩
          exact ⟨zs, _, _, _, _, rfl, s2, h2, by omega⟩
      · refine ⟨_, rfl, _, _, rfl, rfl, .inr ⟨by decide, by decide⟩, _, _, rfl, rfl, .inl ⟨_, rfl, _, _, rfl, rfl, (by show (0 : Int) < 9973; decide), ?_⟩⟩
        have hm0 : 0 ≤ (c * 48271 + 12345) % 9973 := Int.emod_nonneg _ (by decide)
        have hm1 : (c * 48271 + 12345) % 9973 < 9973 := Int.emod_lt_of_pos _ (by decide)
        refine ⟨_, rfl, .inl ⟨rfl, _, SqL.of h1⟩, _, rfl, _, _, _, rfl, rfl, h1, by rw [List.length_map]; exact Nat.lt_of_le_of_lt (by omega : _ ≤ 100000) (by decide), ?_⟩
        refine ⟨_, rfl, .inl ⟨rfl, _, SqL.of upd_same⟩, _, rfl, _, rfl, _, _, rfl, rfl, .inl ⟨by omega, by omega⟩, _, rfl, _, _, rfl, rfl, .inl ⟨by decide, by decide⟩, _, _, rfl, rfl, _, rfl, _, _, rfl, .inl (SqL.of upd_same), _, _, rfl, rfl, .inl ⟨by decide, by decide⟩, _, _, rfl, rfl, .inl ⟨_, rfl, _, _, rfl, rfl, (by show (0 : Int) < 9949; decide), ?_⟩⟩
        refine ⟨_, _, _, rfl, rfl, upd_same, by rw [List.length_append, List.length_map]; exact Nat.lt_of_le_of_lt (by simp; omega : _ ≤ 100000) (by decide), ?_⟩
        rw [ints_app, ints_app, upd_upd]
        exact ⟨_, _, _, _, _, rfl, same_mut s1 hp, upd_same, by simp; omega⟩
    · rintro σ H1 ⟨zs, x2, x3, x4, x5, rfl, s1, h1, hz⟩
      exact ⟨_, rfl, q p zs H1 s1 hp h1⟩
end
end My

namespace My
open PySem L2
/-! ### plain data -/
inductive Sc : V → PyData → Prop
  | non : Sc .non .none
  | bl (b : Bool) : Sc (.bl b) (.bool b)
  | int (i : Int) : Sc (.int i) (.int i)
  | str (z : Str) : Sc (.str z) (.str z)
/-- a list that stays where x alone is changed; a tuple likewise -/
def SL (K : PySem.W.Frag) (x : Addr) (H : Hp) (a : Addr) (xs : List V) : Prop := (a ≠ x ∧ SqL K H a xs) ∨ ∀ H', SqL K H' a xs
def SU (K : PySem.W.Frag) (x : Addr) (H : Hp) (a : Addr) (xs : List V) : Prop := (a ≠ x ∧ SqT K H a xs) ∨ ∀ H', SqT K H' a xs
section
variable {K : PySem.W.Frag} {x : Addr} {H H' : Hp} {a : Addr} {xs : List V}
theorem SL.sq (h : SL K x H a xs) : SqL K H a xs := by
  rcases h with h | h
  · exact h.2
  · exact h H
theorem SU.sq (h : SU K x H a xs) : SqT K H a xs := by
  rcases h with h | h
  · exact h.2
  · exact h H
theorem SL.but (h : SL K x H a xs) (e : But x H H') : SL K x H' a xs := by
  rcases h with ⟨n, h⟩ | h
  · exact .inl ⟨n, e.sqL n h⟩
  · exact .inr h
theorem SU.but (h : SU K x H a xs) (e : But x H H') : SU K x H' a xs := by
  rcases h with ⟨n, h⟩ | h
  · exact .inl ⟨n, e.sqT n h⟩
  · exact .inr h
theorem tyL (h : SqL K H a xs) : TyX K H (.ref a) (.type "list") := by
  rcases h with (h | ⟨o, h⟩) | ⟨o, its, n, h, c, _⟩
  · exact .base (.lst h)
  · exact .base (.frz h)
  · exact .kList h c
theorem tyT (h : SqT K H a xs) : TyX K H (.ref a) (.type "tuple") := by
  rcases h with (h | ⟨o, h⟩) | ⟨o, its, n, h, c, _⟩
  · exact .base (.tup h)
  · exact .fTuple h
  · exact .kTuple h c
end
/-- data of depth n at most -/
def Dn (K : PySem.W.Frag) (x : Addr) (H : Hp) : Nat → V → PyData → Prop
  | 0, v, d => Sc v d
  | n + 1, v, d => Sc v d ∨ (∃ a xs ds, v = .ref a ∧ d = .list ds ∧ SL K x H a xs ∧ xs.length ≤ 100000 ∧ Paired (Dn K x H n) xs ds) ∨ ∃ a xs ds, v = .ref a ∧ d = .tuple ds ∧ SU K x H a xs ∧ xs.length ≤ 100000 ∧ Paired (Dn K x H n) xs ds
theorem Dn.sc {K : PySem.W.Frag} {x : Addr} {H : Hp} {v : V} {d : PyData} (h : Sc v d) : ∀ n, Dn K x H n v d
  | 0 => h
  | _ + 1 => .inl h
theorem Dn.but {K : PySem.W.Frag} {x : Addr} {H H' : Hp} (e : But x H H') : ∀ {n : Nat} {v : V} {d : PyData}, Dn K x H n v d → Dn K x H' n v d
  | 0, _, _, h => h
  | n + 1, v, d, h => by
    rcases h with h | ⟨a, xs, ds, rfl, rfl, h, hz, p⟩ | ⟨a, xs, ds, rfl, rfl, h, hz, p⟩
    · exact .inl h
    · exact .inr (.inl ⟨a, xs, ds, rfl, rfl, h.but e, hz, L2.Paired.mapP p fun _ _ z => Dn.but e z⟩)
    · exact .inr (.inr ⟨a, xs, ds, rfl, rfl, h.but e, hz, L2.Paired.mapP p fun _ _ z => Dn.but e z⟩)
theorem Dn.lst {K : PySem.W.Frag} {x : Addr} {H : Hp} {n : Nat} {a : Addr} {xs : List V} {ds : List PyData} (ne : a ≠ x) (h : SqL K H a xs) (p : Paired (Dn K x H n) xs ds) (hz : xs.length ≤ 100000 := by simp) : Dn K x H (n + 1) (.ref a) (.list ds) :=
  .inr (.inl ⟨a, xs, ds, rfl, rfl, .inl ⟨ne, h⟩, hz, p⟩)
theorem Dn.tup {K : PySem.W.Frag} {x : Addr} {H : Hp} {n : Nat} {a : Addr} {xs : List V} {ds : List PyData} (ne : a ≠ x) (h : SqT K H a xs) (p : Paired (Dn K x H n) xs ds) (hz : xs.length ≤ 100000 := by simp) : Dn K x H (n + 1) (.ref a) (.tuple ds) :=
  .inr (.inr ⟨a, xs, ds, rfl, rfl, .inl ⟨ne, h⟩, hz, p⟩)
theorem Dn.int {K : PySem.W.Frag} {x : Addr} {H : Hp} (i : Int) {n : Nat} : Dn K x H n (.int i) (.int i) := Dn.sc (.int i) n
theorem Dn.str {K : PySem.W.Frag} {x : Addr} {H : Hp} (i : Str) {n : Nat} : Dn K x H n (.str i) (.str i) := Dn.sc (.str i) n
theorem Dn.bl {K : PySem.W.Frag} {x : Addr} {H : Hp} (i : Bool) {n : Nat} : Dn K x H n (.bl i) (.bool i) := Dn.sc (.bl i) n
theorem Dn.non {K : PySem.W.Frag} {x : Addr} {H : Hp} {n : Nat} : Dn K x H n .non .none := Dn.sc .non n
theorem Dn.up {K : PySem.W.Frag} {x : Addr} {H : Hp} : ∀ {n : Nat} {v : V} {d : PyData}, Dn K x H n v d → Dn K x H (n + 1) v d
  | 0, _, _, h => .inl h
  | n + 1, v, d, h => by
    rcases h with h | ⟨a, xs, ds, rfl, rfl, h, hz, p⟩ | ⟨a, xs, ds, rfl, rfl, h, hz, p⟩
    · exact .inl h
    · exact .inr (.inl ⟨a, xs, ds, rfl, rfl, h, hz, L2.Paired.mapP p fun _ _ z => Dn.up z⟩)
    · exact .inr (.inr ⟨a, xs, ds, rfl, rfl, h, hz, L2.Paired.mapP p fun _ _ z => Dn.up z⟩)
theorem pair_get {α β : Type} {F : α → β → Prop} : ∀ {l : List α} {m : List β} {i : Nat} {x : α}, Paired F l m → l[i]? = some x → ∃ y, m[i]? = some y ∧ F x y
  | _, _, _, _, .nil, e => by simp at e
  | _, _, 0, _, .cons r _, e => by simp at e; subst e; exact ⟨_, rfl, r⟩
  | _, _, i + 1, x, .cons _ t, e => by
    obtain ⟨y, h1, h2⟩ := pair_get (i := i) (x := x) t (by simpa using e)
    exact ⟨y, by simpa using h1, h2⟩
theorem pair_len {α β : Type} {F : α → β → Prop} : ∀ {l : List α} {m : List β}, Paired F l m → l.length = m.length
  | _, _, .nil => rfl
  | _, _, .cons _ t => by rw [List.length_cons, List.length_cons, pair_len t]
noncomputable def sameD (d e : PyData) : Bool := @decide (d = e) (Classical.propDecidable _)
theorem same_yes {d e : PyData} (h : d = e) : sameD d e = true := by unfold sameD; exact @decide_eq_true _ (Classical.propDecidable _) h
theorem same_no {d e : PyData} (h : d ≠ e) : sameD d e = false := by unfold sameD; exact @decide_eq_false _ (Classical.propDecidable _) h
theorem same_iff {d e : PyData} : sameD d e = true ↔ d = e := by
  constructor
  · intro h
    by_cases q : d = e
    · exact q
    · rw [same_no q] at h; cases h
  · exact same_yes
theorem same_of {p : Prop} [Decidable p] {d e : PyData} (h : d = e ↔ p) : sameD d e = decide p := by
  by_cases q : p
  · rw [decide_eq_true q, same_yes (h.mpr q)]
  · rw [decide_eq_false q, same_no (fun z => q (h.mp z))]
def spSame (K : PySem.W.Frag) (n : Nat) : Sp := fun vs H Q _ => ∃ (x : Addr) (v1 v2 : V) (d1 d2 : PyData), vs = [v1, v2] ∧ Dn K x H n v1 d1 ∧ Dn K x H n v2 d2 ∧ Q (.bl (sameD d1 d2)) H
end My
local macro_rules | `(tactic| walk_at "ty") => `(tactic| first | exact .base (.int _) | exact .base (.bl _) | exact .base .non | exact .base (.str _) | exact My.tyL (by assumption) | exact My.tyT (by assumption))
local macro_rules | `(tactic| walk_at "is") => `(tactic| first | refine ⟨_, _, _, _, true, rfl, L2.ClsV.ty _, (by walk_at "ty"), L2.kit_ty (by decide +kernel), ?_⟩ | refine ⟨_, _, _, _, false, rfl, L2.ClsV.ty _, (by walk_at "ty"), L2.kit_ty (by decide +kernel), ?_⟩)
local macro_rules | `(tactic| walk_at "ri") => `(tactic| repeat (first | walk_at "is" | refine ⟨_, rfl, ?_⟩ | refine ⟨rfl, ?_⟩))
namespace My
open PySem L2
theorem same_bl (a b : Bool) : sameD (.bool a) (.bool b) = decide (V.bl a = V.bl b) := same_of ⟨fun h => by cases h; rfl, fun h => by cases h; rfl⟩
theorem same_int (a b : Int) : sameD (.int a) (.int b) = decide (V.int a = V.int b) := same_of ⟨fun h => by cases h; rfl, fun h => by cases h; rfl⟩
theorem same_str (a b : Str) : sameD (.str a) (.str b) = decide (V.str a = V.str b) := same_of ⟨fun h => by cases h; rfl, fun h => by cases h; rfl⟩
theorem same_non : sameD .none .none = true := same_yes rfl
theorem same_lst (a b : List PyData) : sameD (.list a) (.list b) = true ↔ a = b := same_iff.trans ⟨fun h => by cases h; rfl, fun h => by cases h; rfl⟩
theorem same_tup (a b : List PyData) : sameD (.tuple a) (.tuple b) = true ↔ a = b := same_iff.trans ⟨fun h => by cases h; rfl, fun h => by cases h; rfl⟩
section
variable {P : Program} {w : World} {K : PySem.W.Frag} {mg : Str → Option Value} {base : Heap}
set_option maxHeartbeats 8000000 in
theorem ok__law_same (T : Txt K mg) : ∀ n, FnOk P w K mg base CX0 (n + 1) T.a__law_same T.fd__law_same ["_law_actual", "_law_expected"] (spSame K n)
  | 0 => by
    refine T.F__law_same.ok sc__law_same (fun vs H Q E h => ?_) (fun cdv A outer s H vs Q E hr h => ?_)
    · obtain ⟨x, v1, v2, d1, d2, rfl, _⟩ := h; rfl
    · obtain ⟨x, v1, v2, d1, d2, rfl, h1, h2, q⟩ := h
      refine ⟨_, (pss_cons (ps_if (PW.pt (pw_or (pt_val (pe_callB call_isi (by rfl) T.n_isinstance (by decide +kernel) (pa_cons (pv 0) (pa_cons (pe_bltn (v := .ty "bool") (by rfl) T.n_bool (by decide +kernel) rfl) pa_nil)))) (pw_or1 (pt_val (pe_callB call_isi (by rfl) T.n_isinstance (by decide +kernel) (pa_cons (pv 1) (pa_cons (pe_bltn (v := .ty "bool") (by rfl) T.n_bool (by decide +kernel) rfl) pa_nil))))))) (pss_one (ps_ret (pe_and (pe_callB call_isi (by rfl) T.n_isinstance (by decide +kernel) (pa_cons (pv 0) (pa_cons (pe_bltn (v := .ty "bool") (by rfl) T.n_bool (by decide +kernel) rfl) pa_nil))) (pe_and (pe_callB call_isi (by rfl) T.n_isinstance (by decide +kernel) (pa_cons (pv 1) (pa_cons (pe_bltn (v := .ty "bool") (by rfl) T.n_bool (by decide +kernel) rfl) pa_nil))) (pe_one (pe_cmpR op_eq (pv 0) (pv 1) (nomark _))))))) pss_nil)
      (pss_cons (ps_if (PW.pt (pw_or (pt_cmpR op_isN (pv 0) (pe_non) (nomark _)) (pw_or1 (pt_cmpR op_isN (pv 1) (pe_non) (nomark _))))) (pss_one (ps_ret (pe_and (pe_cmpR op_isN (pv 0) (pe_non) (nomark _)) (pe_one (pe_cmpR op_isN (pv 1) (pe_non) (nomark _)))))) pss_nil)
      (pss_cons (ps_if (pt_val (pe_callB call_isi (by rfl) T.n_isinstance (by decide +kernel) (pa_cons (pv 1) (pa_cons (pe_bltn (v := .ty "int") (by rfl) T.n_int (by decide +kernel) rfl) pa_nil)))) (pss_one (ps_ret (pe_and (pe_callB call_isi (by rfl) T.n_isinstance (by decide +kernel) (pa_cons (pv 0) (pa_cons (pe_bltn (v := .ty "int") (by rfl) T.n_int (by decide +kernel) rfl) pa_nil))) (pe_one (pe_cmpR op_eq (pv 0) (pv 1) (nomark _)))))) pss_nil)
      (pss_cons (ps_if (pt_val (pe_callB call_isi (by rfl) T.n_isinstance (by decide +kernel) (pa_cons (pv 1) (pa_cons (pe_bltn (v := .ty "str") (by rfl) T.n_str (by decide +kernel) rfl) pa_nil)))) (pss_one (ps_ret (pe_and (pe_callB call_isi (by rfl) T.n_isinstance (by decide +kernel) (pa_cons (pv 0) (pa_cons (pe_bltn (v := .ty "str") (by rfl) T.n_str (by decide +kernel) rfl) pa_nil))) (pe_one (pe_cmpR op_eq (pv 0) (pv 1) (nomark _)))))) pss_nil)
      (pss_cons (ps_if (PW.pt (pw_and (pt_val (pe_callB call_isi (by rfl) T.n_isinstance (by decide +kernel) (pa_cons (pv 1) (pa_cons (pe_bltn (v := .ty "tuple") (by rfl) T.n_tuple (by decide +kernel) rfl) pa_nil)))) (pw_and1 (pt_not (pt_val (pe_callB call_isi (by rfl) T.n_isinstance (by decide +kernel) (pa_cons (pv 0) (pa_cons (pe_bltn (v := .ty "tuple") (by rfl) T.n_tuple (by decide +kernel) rfl) pa_nil)))))))) (pss_one (ps_ret (pe_bl))) pss_nil)
      (pss_cons (ps_if (PW.pt (pw_and (pt_val (pe_callB call_isi (by rfl) T.n_isinstance (by decide +kernel) (pa_cons (pv 1) (pa_cons (pe_bltn (v := .ty "list") (by rfl) T.n_list (by decide +kernel) rfl) pa_nil)))) (pw_and1 (pt_not (pt_val (pe_callB call_isi (by rfl) T.n_isinstance (by decide +kernel) (pa_cons (pv 0) (pa_cons (pe_bltn (v := .ty "list") (by rfl) T.n_list (by decide +kernel) rfl) pa_nil)))))))) (pss_one (ps_ret (pe_bl))) pss_nil)
      (pss_cons (ps_if (pt_cmpR op_ne (pe_callB call_len_seq (by rfl) T.n_len (by decide +kernel) (pa_cons (pv 0) pa_nil)) (pe_callB call_len_seq (by rfl) T.n_len (by decide +kernel) (pa_cons (pv 1) pa_nil)) (nomark _)) (pss_one (ps_ret (pe_bl))) pss_nil)
      (pss_cons ps_never
      (pss_one (ps_ret (pe_bl))))))))))), ?_⟩
      cases h1 <;> cases h2
      all_goals walk_at "ri"
      all_goals first | (rw [same_no (by intro z; cases z)] at q; exact q) | (rw [same_bl] at q; exact q) | (rw [same_int] at q; exact q) | (rw [same_str] at q; exact q) | (rw [same_non] at q; exact q)
  | n + 1 => by
    refine T.F__law_same.ok sc__law_same (fun vs H Q E h => ?_) (fun cdv A outer s H vs Q E hr h => ?_)
    · obtain ⟨x, v1, v2, d1, d2, rfl, _⟩ := h; rfl
    · obtain ⟨x, v1, v2, d1, d2, rfl, h1, h2, q⟩ := h
      refine ⟨_, (pss_cons (ps_if (PW.pt (pw_or (pt_val (pe_callB call_isi (by rfl) T.n_isinstance (by decide +kernel) (pa_cons (pv 0) (pa_cons (pe_bltn (v := .ty "bool") (by rfl) T.n_bool (by decide +kernel) rfl) pa_nil)))) (pw_or1 (pt_val (pe_callB call_isi (by rfl) T.n_isinstance (by decide +kernel) (pa_cons (pv 1) (pa_cons (pe_bltn (v := .ty "bool") (by rfl) T.n_bool (by decide +kernel) rfl) pa_nil))))))) (pss_one (ps_ret (pe_and (pe_callB call_isi (by rfl) T.n_isinstance (by decide +kernel) (pa_cons (pv 0) (pa_cons (pe_bltn (v := .ty "bool") (by rfl) T.n_bool (by decide +kernel) rfl) pa_nil))) (pe_and (pe_callB call_isi (by rfl) T.n_isinstance (by decide +kernel) (pa_cons (pv 1) (pa_cons (pe_bltn (v := .ty "bool") (by rfl) T.n_bool (by decide +kernel) rfl) pa_nil))) (pe_one (pe_cmpR op_eq (pv 0) (pv 1) (nomark _))))))) pss_nil)
      (pss_cons (ps_if (PW.pt (pw_or (pt_cmpR op_isN (pv 0) (pe_non) (nomark _)) (pw_or1 (pt_cmpR op_isN (pv 1) (pe_non) (nomark _))))) (pss_one (ps_ret (pe_and (pe_cmpR op_isN (pv 0) (pe_non) (nomark _)) (pe_one (pe_cmpR op_isN (pv 1) (pe_non) (nomark _)))))) pss_nil)
      (pss_cons (ps_if (pt_val (pe_callB call_isi (by rfl) T.n_isinstance (by decide +kernel) (pa_cons (pv 1) (pa_cons (pe_bltn (v := .ty "int") (by rfl) T.n_int (by decide +kernel) rfl) pa_nil)))) (pss_one (ps_ret (pe_and (pe_callB call_isi (by rfl) T.n_isinstance (by decide +kernel) (pa_cons (pv 0) (pa_cons (pe_bltn (v := .ty "int") (by rfl) T.n_int (by decide +kernel) rfl) pa_nil))) (pe_one (pe_cmpR op_eq (pv 0) (pv 1) (nomark _)))))) pss_nil)
      (pss_cons (ps_if (pt_val (pe_callB call_isi (by rfl) T.n_isinstance (by decide +kernel) (pa_cons (pv 1) (pa_cons (pe_bltn (v := .ty "str") (by rfl) T.n_str (by decide +kernel) rfl) pa_nil)))) (pss_one (ps_ret (pe_and (pe_callB call_isi (by rfl) T.n_isinstance (by decide +kernel) (pa_cons (pv 0) (pa_cons (pe_bltn (v := .ty "str") (by rfl) T.n_str (by decide +kernel) rfl) pa_nil))) (pe_one (pe_cmpR op_eq (pv 0) (pv 1) (nomark _)))))) pss_nil)
      (pss_cons (ps_if (PW.pt (pw_and (pt_val (pe_callB call_isi (by rfl) T.n_isinstance (by decide +kernel) (pa_cons (pv 1) (pa_cons (pe_bltn (v := .ty "tuple") (by rfl) T.n_tuple (by decide +kernel) rfl) pa_nil)))) (pw_and1 (pt_not (pt_val (pe_callB call_isi (by rfl) T.n_isinstance (by decide +kernel) (pa_cons (pv 0) (pa_cons (pe_bltn (v := .ty "tuple") (by rfl) T.n_tuple (by decide +kernel) rfl) pa_nil)))))))) (pss_one (ps_ret (pe_bl))) pss_nil)
      (pss_cons (ps_if (PW.pt (pw_and (pt_val (pe_callB call_isi (by rfl) T.n_isinstance (by decide +kernel) (pa_cons (pv 1) (pa_cons (pe_bltn (v := .ty "list") (by rfl) T.n_list (by decide +kernel) rfl) pa_nil)))) (pw_and1 (pt_not (pt_val (pe_callB call_isi (by rfl) T.n_isinstance (by decide +kernel) (pa_cons (pv 0) (pa_cons (pe_bltn (v := .ty "list") (by rfl) T.n_list (by decide +kernel) rfl) pa_nil)))))))) (pss_one (ps_ret (pe_bl))) pss_nil)
      (pss_cons (ps_if (pt_cmpR op_ne (pe_callB call_len_seq (by rfl) T.n_len (by decide +kernel) (pa_cons (pv 0) pa_nil)) (pe_callB call_len_seq (by rfl) T.n_len (by decide +kernel) (pa_cons (pv 1) pa_nil)) (nomark _)) (pss_one (ps_ret (pe_bl))) pss_nil)
      (pss_cons (ps_for PassesOwn.never rfl (pi_range1 (by rfl) T.n_range (pa_cons (pe_callB call_len_seq (by rfl) T.n_len (by decide +kernel) (pa_cons (pv 1) pa_nil)) pa_nil)) (pg_name (i := 2) sc__law_same.nd rfl (.inl rfl)) (pss_one (ps_if (pt_not (pt_val (pe_call (ok__law_same T n) (hr.mono (by omega)) (by rfl) T.g__law_same T.F__law_same.kp T.b__law_same .nil pass0 (pa_cons (pe_ix ix_seq (pv 0) (pv 2) (fun _ _ => rfl)) (pa_cons (pe_ix ix_seq (pv 1) (pv 2) (fun _ _ => rfl)) pa_nil))))) (pss_one (ps_ret (pe_bl))) pss_nil)))
      (pss_one (ps_ret (pe_bl))))))))))), ?_⟩
      rcases h1 with h1 | ⟨a1, xs1, ds1, rfl, rfl, h1, z1, p1⟩ | ⟨a1, xs1, ds1, rfl, rfl, h1, z1, p1⟩ <;> rcases h2 with h2 | ⟨a2, xs2, ds2, rfl, rfl, h2, z2, p2⟩ | ⟨a2, xs2, ds2, rfl, rfl, h2, z2, p2⟩
      · cases h1 <;> cases h2
        all_goals walk_at "ri"
        all_goals first | (rw [same_no (by intro z; cases z)] at q; exact q) | (rw [same_bl] at q; exact q) | (rw [same_int] at q; exact q) | (rw [same_str] at q; exact q) | (rw [same_non] at q; exact q)
      · have t2 := h2.sq
        cases h1
        all_goals (walk_at "ri"; rw [same_no (by intro z; cases z)] at q; exact q)
      · have t2 := h2.sq
        cases h1
        all_goals (walk_at "ri"; rw [same_no (by intro z; cases z)] at q; exact q)
      · have t1 := h1.sq
        cases h2
        all_goals (walk_at "ri"; rw [same_no (by intro z; cases z)] at q; exact q)
      · have t1 := h1.sq
        have t2 := h2.sq
        walk_at "ri"
        refine ⟨_, _, rfl, .inl t1, _, rfl, _, _, rfl, .inl t2, rfl, _, rfl, ?_⟩
        have l1 := pair_len p1
        have l2 := pair_len p2
        refine iteN (fun c => ?_) (fun c => ?_)
        · rw [same_no (by intro z; cases z; exact c (by rw [l1, l2]))] at q; exact q
        have c' : xs1.length = xs2.length := by have := V.int.inj c; omega
        refine ⟨_, rfl, _, _, rfl, .inl t2, _, rfl, by omega, by omega, for_range (lo := 0) (n := _) (fun j σ H' => ∃ x2, σ = [some (.ref a1), some (.ref a2), x2] ∧ H' = H ∧ ds1.take j = ds2.take j) ⟨_, rfl, rfl, rfl⟩ ?_ ?_⟩
        · rintro j σ H1 hj ⟨x2, rfl, rfl, et⟩
          have j2 : j < xs2.length := by omega
          have j1 : j < xs1.length := by omega
          obtain ⟨e1, g1, r1⟩ := pair_get p1 (List.getElem?_eq_getElem j1)
          obtain ⟨e2, g2, r2⟩ := pair_get p2 (List.getElem?_eq_getElem j2)
          refine ⟨_, rfl, _, rfl, .inl ⟨_, _, _, _, rfl, rfl, t1, at_of (j := j) (by omega) (List.getElem?_eq_getElem j1), ?_⟩⟩
          refine ⟨_, rfl, _, rfl, .inl ⟨_, _, _, _, rfl, rfl, t2, at_of (j := j) (by omega) (List.getElem?_eq_getElem j2), ?_⟩⟩
          refine ⟨x, _, _, e1, e2, rfl, r1, r2, _, rfl, ?_⟩
          refine iteB (fun b => ?_) (fun b => ?_)
          · have ne : e1 ≠ e2 := fun h => by rw [same_yes h] at b; cases b
            rw [same_no (by intro z; cases z; rw [g1] at g2; exact ne (Option.some.inj g2))] at q; exact q
          · have ee : e1 = e2 := by
              apply same_iff.mp
              cases h : sameD e1 e2 with
              | true => rfl
              | false => rw [h] at b; cases b
            subst ee
            exact ⟨_, rfl, rfl, by rw [List.take_add_one, List.take_add_one, et, g1, g2]⟩
        · rintro σ H1 ⟨x2, rfl, rfl, et⟩
          have ed : ds1 = ds2 := by
            rw [List.take_of_length_le (by omega), List.take_of_length_le (by omega)] at et
            exact et
          subst ed
          rw [same_yes rfl] at q; exact q
      · have t1 := h1.sq
        have t2 := h2.sq
        walk_at "ri"
        rw [same_no (by intro z; cases z)] at q; exact q
      · have t1 := h1.sq
        cases h2
        all_goals (walk_at "ri"; rw [same_no (by intro z; cases z)] at q; exact q)
      · have t1 := h1.sq
        have t2 := h2.sq
        walk_at "ri"
        rw [same_no (by intro z; cases z)] at q; exact q
      · have t1 := h1.sq
        have t2 := h2.sq
        walk_at "ri"
        refine ⟨_, _, rfl, .inr t1, _, rfl, _, _, rfl, .inr t2, rfl, _, rfl, ?_⟩
        have l1 := pair_len p1
        have l2 := pair_len p2
        refine iteN (fun c => ?_) (fun c => ?_)
        · rw [same_no (by intro z; cases z; exact c (by rw [l1, l2]))] at q; exact q
        have c' : xs1.length = xs2.length := by have := V.int.inj c; omega
        refine ⟨_, rfl, _, _, rfl, .inr t2, _, rfl, by omega, by omega, for_range (lo := 0) (n := _) (fun j σ H' => ∃ x2, σ = [some (.ref a1), some (.ref a2), x2] ∧ H' = H ∧ ds1.take j = ds2.take j) ⟨_, rfl, rfl, rfl⟩ ?_ ?_⟩
        · rintro j σ H1 hj ⟨x2, rfl, rfl, et⟩
          have j2 : j < xs2.length := by omega
          have j1 : j < xs1.length := by omega
          obtain ⟨e1, g1, r1⟩ := pair_get p1 (List.getElem?_eq_getElem j1)
          obtain ⟨e2, g2, r2⟩ := pair_get p2 (List.getElem?_eq_getElem j2)
          refine ⟨_, rfl, _, rfl, .inr (.inl ⟨_, _, _, _, rfl, rfl, t1, at_of (j := j) (by omega) (List.getElem?_eq_getElem j1), ?_⟩)⟩
          refine ⟨_, rfl, _, rfl, .inr (.inl ⟨_, _, _, _, rfl, rfl, t2, at_of (j := j) (by omega) (List.getElem?_eq_getElem j2), ?_⟩)⟩
          refine ⟨x, _, _, e1, e2, rfl, r1, r2, _, rfl, ?_⟩
          refine iteB (fun b => ?_) (fun b => ?_)
          · have ne : e1 ≠ e2 := fun h => by rw [same_yes h] at b; cases b
            rw [same_no (by intro z; cases z; rw [g1] at g2; exact ne (Option.some.inj g2))] at q; exact q
          · have ee : e1 = e2 := by
              apply same_iff.mp
              cases h : sameD e1 e2 with
              | true => rfl
              | false => rw [h] at b; cases b
            subst ee
            exact ⟨_, rfl, rfl, by rw [List.take_add_one, List.take_add_one, et, g1, g2]⟩
        · rintro σ H1 ⟨x2, rfl, rfl, et⟩
          have ed : ds1 = ds2 := by
            rw [List.take_of_length_le (by omega), List.take_of_length_le (by omega)] at et
            exact et
          subst ed
          rw [same_yes rfl] at q; exact q
end
theorem nsame {d : PyData} : (!sameD d d) = false := by rw [same_yes rfl]; rfl
end My

namespace My
open PySem L2
/-! ### lists of ints: in, flat; slices -/
theorem flat_ints (ns : List Int) : (ns.map V.int).all flatV = true := by
  rw [List.all_eq_true]
  intro v h
  obtain ⟨n, _, rfl⟩ := List.mem_map.mp h
  rfl
theorem in_ints (n : Int) (ns : List Int) : inV (.int n) (ns.map V.int) = decide (n ∈ ns) := by
  unfold inV
  rw [List.any_map, Bool.eq_iff_iff, List.any_eq_true, decide_eq_true_iff]
  constructor
  · rintro ⟨m, h, e⟩
    have e : (m == n) = true := e
    rw [← beq_iff_eq.mp e]; exact h
  · intro h
    exact ⟨n, h, by show (n == n) = true; simp⟩
theorem cut_to (xs : List V) (n : Nat) : cutV xs none (some (n : Int)) = xs.take n := by
  unfold cutV HT.sIx
  simp only [List.drop_zero, Nat.sub_zero]
  have h0 : ¬ (n : Int) < 0 := by omega
  simp only [h0, if_false]
  by_cases h : n ≤ xs.length
  · congr 1
    omega
  · rw [List.take_of_length_le (by omega), List.take_of_length_le (by omega)]
theorem cut_from (xs : List V) (n : Nat) : cutV xs (some (n : Int)) none = xs.drop n := by
  unfold cutV HT.sIx
  have h0 : ¬ (n : Int) < 0 := by omega
  simp only [h0, if_false]
  by_cases h : n ≤ xs.length
  · rw [List.take_of_length_le (by rw [List.length_drop]; omega)]
    congr 1
    omega
  · rw [List.drop_eq_nil_of_le (by omega), List.drop_eq_nil_of_le (by omega), List.take_nil]
end My

namespace My
open PySem L2
/-! ### shapes: rows -/
structure Row where
  mark : Str
  pars : List Str
  least : Int
  most : Int
  sh : Bool
  deriving DecidableEq
def isMk (t : Str) : Bool := decide (1 ≤ t.length ∧ t.length ≤ 8) && (TL.tl t).all fun c => decide (97 ≤ c ∧ c ≤ 122)
def spMark : Sp := fun vs H Q _ => ∃ (z : Str), vs = [.str z] ∧ z.length ≤ 90000 ∧ Q (.bl (isMk z)) H
theorem letter_mem {c : Nat} : c ∈ ("abcdefghijklmnopqrstuvwxyz" : Str).cps.toList ↔ 97 ≤ c ∧ c ≤ 122 := by
  rw [show ("abcdefghijklmnopqrstuvwxyz" : Str).cps.toList = [97, 98, 99, 100, 101, 102, 103, 104, 105, 106, 107, 108, 109, 110, 111, 112, 113, 114, 115, 116, 117, 118, 119, 120, 121, 122] by decide +kernel]
  simp only [List.mem_cons, List.not_mem_nil, or_false]
  omega
section
variable {w : World} {K : PySem.W.Frag} {mg : Str → Option Value} {base : Heap}
theorem ok_is_mark (T : Txt K mg) : FnOk PP w K mg base CX0 1 T.a_is_mark T.fd_is_mark ["text"] spMark := by
  refine T.F_is_mark.ok sc_is_mark (fun vs H Q E h => ?_) (fun cdv A outer s H vs Q E hr h => ?_)
  · obtain ⟨z, rfl, _⟩ := h; rfl
  · obtain ⟨z, rfl, hz, q⟩ := h
    refine ⟨_, (pss_cons (ps_if (pt_not (pt_chain op_le op_le (pe_int) (pe_callB call_len_str (by rfl) T.n_len (by decide +kernel) (pa_cons (pv 0) pa_nil)) (pe_int))) (pss_one (ps_ret (pe_bl))) pss_nil)
      (pss_cons (ps_for PassesOwn.never rfl (pi_str (pv 0)) (pg_name (i := 1) sc_is_mark.nd rfl (.inl rfl)) (pss_one (ps_if (pt_cmpR op_notInS (pv 1) (pe_glob (v := .str "abcdefghijklmnopqrstuvwxyz") (by rfl) T.g_LETTERS ⟨_, rfl⟩) (by with_unfolding_all rfl)) (pss_one (ps_ret (pe_bl))) pss_nil)))
      (pss_one (ps_ret (pe_bl))))), ?_⟩
    have big : 90000 < sizeLine := by decide
    by_cases k1 : 1 ≤ z.length
    case neg =>
      rw [show isMk z = false by unfold isMk; rw [decide_eq_false (by omega)]; rfl] at q
      exact ⟨_, rfl, z, rfl, by omega, _, _, rfl, rfl, _, rfl, iteNo (decide_eq_false (by omega)) ⟨_, rfl, iteYes rfl q⟩⟩
    refine ⟨_, rfl, z, rfl, by omega, _, _, rfl, rfl, _, rfl, iteYes (decide_eq_true (by omega)) ⟨_, _, rfl, rfl, _, rfl, ?_⟩⟩
    by_cases k9 : z.length ≤ 8
    case neg =>
      rw [show isMk z = false by unfold isMk; rw [decide_eq_false (by omega)]; rfl] at q
      exact iteYes (by rw [decide_eq_false (by omega)]; rfl) q
    refine iteNo (by rw [decide_eq_true (by omega)]; rfl) ?_
    refine ⟨_, rfl, z, rfl, for_str (z := z) (fun i σ H' => ∃ x1, H' = H ∧ σ = [some (.str z), x1] ∧ ∀ j, j < i → ∀ c, (TL.tl z)[j]? = some c → 97 ≤ c ∧ c ≤ 122) ⟨_, rfl, rfl, fun j hj => absurd hj (Nat.not_lt_zero _)⟩ ?_ ?_⟩
    · rintro i c σ H' hc ⟨x1, rfl, rfl, hp⟩
      refine ⟨_, rfl, c, _, rfl, rfl, _, rfl, iteN (fun h => ?_) (fun h => ?_)⟩
      · rw [show isMk z = false by
          unfold isMk
          rw [List.all_eq_false.mpr ⟨c, List.mem_of_getElem? hc, by simpa using fun a => Nat.lt_of_not_le fun b => h (letter_mem.mpr ⟨a, b⟩)⟩, Bool.and_false]] at q
        exact q
      · refine ⟨_, rfl, rfl, fun j hj c' hc' => ?_⟩
        by_cases e : j = i
        · subst e
          rw [hc] at hc'
          exact Option.some.inj hc' ▸ letter_mem.mp h
        · exact hp j (by omega) c' hc'
    · rintro σ H' ⟨x1, rfl, rfl, hp⟩
      rw [show isMk z = true by
        unfold isMk
        rw [decide_eq_true ⟨k1, k9⟩, Bool.true_and, List.all_eq_true]
        intro c hc
        obtain ⟨j, hj, e⟩ := List.getElem_of_mem hc
        exact decide_eq_true (hp j (by rw [TL.len_tl]; exact hj) c (by rw [List.getElem?_eq_getElem hj, e]))] at q
      exact q
end
end My

namespace My
open PySem L2
def rowL (r : Row) (pp : Addr) : List V := [.str r.mark, .ref pp, .int r.least, .int r.most, .bl r.sh]
/-- a row as it is handed over: lists or tuples -/
def RowV (H : Hp) (v : V) (r : Row) : Prop := ∃ p pp, v = .ref p ∧ (H p = some (.tup (rowL r pp)) ∨ H p = some (.lst (rowL r pp))) ∧ (H pp = some (.tup (r.pars.map V.str)) ∨ H pp = some (.lst (r.pars.map V.str)))
/-- a row as it is kept -/
def RowT (H : Hp) (v : V) (r : Row) : Prop := ∃ p pp, v = .ref p ∧ H p = some (.tup (rowL r pp)) ∧ H pp = some (.tup (r.pars.map V.str))
def small (r : Row) : Prop := r.mark.length ≤ 1000 ∧ r.pars.length ≤ 100
def sizeB (r : Row) : Bool := decide (0 ≤ r.least) && (decide (r.least ≤ r.most) && decide (r.most ≤ 4))
def fineB (r : Row) (bs : List Str) : Bool := (isMk r.mark && (!decide (r.mark ∈ bs) && sizeB r)) && (decide (0 < r.most) == decide (0 < r.pars.length)) && decide r.pars.Nodup
def spRow (X : Addr) : Sp := fun vs H Q E => ∃ (v : V) (b : Addr) (r : Row) (bs : List Str), vs = [v, .ref b] ∧ RowV H v r ∧ H b = some (.lst (bs.map V.str)) ∧ small r ∧
  (fineB r bs = true → ∀ p pp H', Same H H' → H p = none → H' p = some (.tup (rowL r pp)) → H' pp = some (.tup (r.pars.map V.str)) → Q (.ref p) H') ∧
  (fineB r bs = false → ∀ H' d, Same H H' → H d = none → H' d = some (.xd [("mark", .str r.mark)]) → E (.ref X) (some d) H')
theorem flat_strs (ns : List Str) : (ns.map V.str).all flatV = true := by
  rw [List.all_eq_true]
  intro v h
  obtain ⟨n, _, rfl⟩ := List.mem_map.mp h
  rfl
theorem in_strs (n : Str) (ns : List Str) : inV (.str n) (ns.map V.str) = decide (n ∈ ns) := by
  unfold inV
  rw [List.any_map, Bool.eq_iff_iff, List.any_eq_true, decide_eq_true_iff]
  constructor
  · rintro ⟨m, h, e⟩
    have e : (m == n) = true := e
    rw [← beq_iff_eq.mp e]; exact h
  · intro h
    exact ⟨n, h, by show (n == n) = true; simp⟩
theorem nodup_take_succ {xs : List Str} {i : Nat} {y : Str} (h : xs[i]? = some y) : (xs.take (i + 1)).Nodup ↔ (xs.take i).Nodup ∧ y ∉ xs.take i := by
  rw [List.take_succ, h, Option.toList_some, List.nodup_append]
  constructor
  · rintro ⟨a, _, b⟩
    exact ⟨a, fun m => b y m y (List.mem_singleton.mpr rfl) rfl⟩
  · rintro ⟨a, b⟩
    refine ⟨a, List.nodup_cons.mpr ⟨List.not_mem_nil, List.nodup_nil⟩, fun x hx z hz e => b ?_⟩
    rw [List.mem_singleton.mp hz] at e
    exact e ▸ hx
section
variable {w : World} {K : PySem.W.Frag} {mg : Str → Option Value} {base : Heap}
theorem ok_sound_row (T : Txt K mg) : FnOk PP w K mg base (L2.CX PP w) 3 T.a_sound_row T.fd_sound_row ["row", "before"] (spRow T.c_BadShape) := by
  refine T.F_sound_row.okX sc_sound_row (fun vs H Q E h => ?_) (fun cdv A outer s H vs Q E hr h => ?_)
  · obtain ⟨v, b, r, bs, rfl, _⟩ := h; rfl
  · obtain ⟨v, b, r, bs, rfl, ⟨p, pp, rfl, hp, hpp⟩, hb, hz, q, qb⟩ := h
    refine ⟨_, (pss_cons (ps_asg (pv 0) (pg_seq rfl (pgs_cons (pg_name (i := 2) sc_sound_row.nd rfl (.inl rfl)) (pgs_cons (pg_name (i := 3) sc_sound_row.nd rfl (.inl rfl)) (pgs_cons (pg_name (i := 4) sc_sound_row.nd rfl (.inl rfl)) (pgs_cons (pg_name (i := 5) sc_sound_row.nd rfl (.inl rfl)) (pgs_cons (pg_name (i := 6) sc_sound_row.nd rfl (.inl rfl)) pgs_nil)))))))
      (C8.pss_cut (ps_set (i := 3) sc_sound_row.nd rfl (.inl rfl) (pe_callTy call_tuple_of (by rfl) T.n_tuple (by decide +kernel) (pa_cons (pv 3) pa_nil)))
      (C8.pss_cut (ps_set (i := 7) sc_sound_row.nd rfl (.inl rfl) (pe_and (pe_call (ok_is_mark T) (hr.mono (by omega)) (by rfl) T.g_is_mark T.F_is_mark.kp T.b_is_mark .nil pass0 (pa_cons (pv 2) pa_nil)) (pe_and (pe_cmpR op_notIn_seq (pv 2) (pv 1) (by with_unfolding_all rfl)) (pe_one (pe_chain3 op_le op_le op_le (pe_int) (pv 4) (pv 5) (ClX.pe_cval (pe_glob (v := .ref T.c_Shape) (by rfl) T.g_Shape rfl)))))))
      (C8.pss_cut (ps_if (PW.pt (pw_and (pt_val (pv 7)) (pw_and1 (pt_cmpR op_ne (pe_cmpR op_gt (pv 5) (pe_int) (nomark _)) (pe_cmpR op_gt (pe_callB call_len_seq (by rfl) T.n_len (by decide +kernel) (pa_cons (pv 3) pa_nil)) (pe_int) (nomark _)) (nomark _))))) (pss_one (ps_set (i := 7) sc_sound_row.nd rfl (.inl rfl) (pe_bl))) pss_nil)
      (pss_cons (ps_for (passes_of rfl) rfl (pi_enumT (by rfl) T.n_enumerate (pa_cons (pv 3) pa_nil)) (pg_tup rfl (pgs_cons (pg_name (i := 8) sc_sound_row.nd rfl (.inl rfl)) (pgs_cons (pg_name (i := 9) sc_sound_row.nd rfl (.inl rfl)) pgs_nil))) (pss_one (ps_if (pt_cmpR op_in_seq (pv 9) (pe_slice sl_tup (pv 3) po_none (po_some (pv 8))) (by with_unfolding_all rfl)) (pss_one (ps_set (i := 7) sc_sound_row.nd rfl (.inl rfl) (pe_bl))) pss_nil)))
      (pss_cons (ps_if (pt_not (pt_val (pv 7))) (pss_one (ps_raiseX rfl T.x_BadShape hr (takes_of rfl rfl rfl rfl) (pa_cons (pv 2) pa_nil))) pss_nil)
      (pss_one (ps_ret (pe_tup (pa_cons (pv 2) (pa_cons (pv 3) (pa_cons (pv 4) (pa_cons (pv 5) (pa_cons (pv 6) pa_nil)))))))))))))), ?_⟩
    have big : 90000 < sizeLine := by decide
    refine ⟨_, rfl, gSeq_of hp rfl ⟨_, _, rfl, _, _, rfl, _, _, rfl, _, _, rfl, _, _, rfl, rfl, ?_⟩⟩
    have lm := hz.1
    have lp := hz.2
    -- parents = tuple(parents)
    refine ⟨fun σ' H' => ∃ pq, σ' = [some (.ref p), some (.ref b), some (.str r.mark), some (.ref pq), some (.int r.least), some (.int r.most), some (.bl r.sh), none, none, none] ∧ Same H H' ∧ H' pq = some (.tup (r.pars.map V.str)), ?_, ?_⟩
    · rcases hpp with hpp | hpp
      · exact ⟨_, rfl, pp, _, rfl, .inr ⟨SqT.of hpp, pp, rfl, fun _ _ h => h, hpp⟩⟩
      · exact ⟨_, rfl, pp, _, rfl, .inl ⟨SqL.of hpp, fun l hl => ⟨l, rfl, same_new hl, upd_same⟩⟩⟩
    rintro σ' H1 ⟨pq, rfl, s1, hq⟩
    -- good
    refine ⟨fun σ' H' => H' = H1 ∧ σ' = [some (.ref p), some (.ref b), some (.str r.mark), some (.ref pq), some (.int r.least), some (.int r.most), some (.bl r.sh), some (.bl (isMk r.mark && (!decide (r.mark ∈ bs) && sizeB r))), none, none], ?_, ?_⟩
    · refine ⟨_, rfl, r.mark, rfl, by omega, ?_⟩
      refine ⟨_, rfl, ?_⟩
      cases isMk r.mark with
      | false => exact iteF ⟨rfl, rfl⟩
      | true =>
        refine iteT ⟨_, rfl, _, rfl, _, _, rfl, .inl (SqL.of (s1 _ _ hb)), rfl, flat_strs bs, ?_⟩
        rw [in_strs]
        refine ⟨_, rfl, ?_⟩
        by_cases hm : r.mark ∈ bs
        · refine iteNo (by simp [hm]) ⟨rfl, ?_⟩
          rw [show (true && (!decide (r.mark ∈ bs) && sizeB r)) = false by simp [hm]]
          rfl
        · refine iteYes (by simp [hm]) ⟨_, rfl, _, _, rfl, rfl, _, rfl, iteD (fun c1 => ?_) (fun c1 => ?_)⟩
          · refine ⟨_, rfl, _, _, rfl, rfl, _, rfl, iteD (fun c2 => ?_) (fun c2 => ?_)⟩
            · refine ⟨_, _, _, _, rfl, T.cr_Shape, T.cv_Shape_PARENTS, _, _, rfl, rfl, rfl, ?_⟩
              rw [show (true && (!decide (r.mark ∈ bs) && sizeB r)) = decide (r.most ≤ 4) by simp [hm, sizeB, c1, c2]]
              rfl
            · refine ⟨rfl, ?_⟩
              rw [show (true && (!decide (r.mark ∈ bs) && sizeB r)) = false by simp [hm, sizeB, c2]]
              rfl
          · refine ⟨rfl, ?_⟩
            rw [show (true && (!decide (r.mark ∈ bs) && sizeB r)) = false by simp [hm, sizeB, c1]]
            rfl
    rintro σ' H' ⟨rfl, rfl⟩
    generalize hg0 : (isMk r.mark && (!decide (r.mark ∈ bs) && sizeB r)) = g0
    -- parents and the greatest number
    refine ⟨fun σ' H1 => H1 = H' ∧ σ' = [some (.ref p), some (.ref b), some (.str r.mark), some (.ref pq), some (.int r.least), some (.int r.most), some (.bl r.sh), some (.bl (g0 && (decide (0 < r.most) == decide (0 < r.pars.length)))), none, none], ?_, ?_⟩
    · refine ⟨_, rfl, _, rfl, ?_⟩
      cases g0 with
      | false => exact iteF ⟨rfl, rfl⟩
      | true =>
        refine iteT ⟨_, rfl, _, _, rfl, rfl, _, rfl, pq, _, rfl, .inr (SqT.of hq), _, _, rfl, rfl, rfl, _, rfl, ?_⟩
        rw [List.length_map]
        have hz : decide ((0 : Int) < ((r.pars.length : Nat) : Int)) = decide (0 < r.pars.length) := decide_eq_decide.mpr (by omega)
        refine iteN (fun e => ?_) (fun e => ?_)
        · refine ⟨rfl, ?_⟩
          have e : decide (0 < r.most) ≠ decide (0 < r.pars.length) := fun z => e (congrArg V.bl (z.trans hz.symm))
          rw [show (true && (decide (0 < r.most) == decide (0 < r.pars.length))) = false by simpa using e]
          rfl
        · refine ⟨rfl, ?_⟩
          have e : decide (0 < r.most) = decide (0 < r.pars.length) := (V.bl.inj e).trans hz
          rw [e]; simp
    rintro σ' H1 ⟨rfl, rfl⟩
    generalize hg1 : (g0 && (decide (0 < r.most) == decide (0 < r.pars.length))) = g1
    refine ⟨_, rfl, pq, _, rfl, SqT.of hq, for_enumT (K := K) (a := pq) (xs := r.pars.map V.str) (fun i σ' H2 => ∃ x8 x9, Same H1 H2 ∧ σ' = [some (.ref p), some (.ref b), some (.str r.mark), some (.ref pq), some (.int r.least), some (.int r.most), some (.bl r.sh), some (.bl (g1 && decide (r.pars.take i).Nodup)), x8, x9])
      ⟨_, _, fun _ _ h => h, by rw [List.take_zero, decide_eq_true List.nodup_nil, Bool.and_true]⟩ (fun i σ' H2 _ ⟨_, _, s2, _⟩ => SqT.of (s2 _ _ hq)) ?_ ?_⟩
    · rintro i v σ' H2 Tt hv ⟨x8, x9, s2, rfl⟩ hTt
      obtain ⟨y, hy, rfl⟩ : ∃ y, r.pars[i]? = some y ∧ v = .str y := by
        rw [List.getElem?_map] at hv
        cases e : r.pars[i]? with
        | none => rw [e] at hv; cases hv
        | some y => rw [e] at hv; exact ⟨y, rfl, (Option.some.inj hv).symm⟩
      have s3 := s2.trans (same_new (o := .tup [.int (i : Nat), .str y]) hTt)
      have hi : i < r.pars.length := (List.getElem?_eq_some_iff.mp hy).1
      have hpq : (L2.upd H2 Tt (.tup [.int (i : Nat), .str y])) pq = some (.tup (r.pars.map V.str)) := s3 _ _ hq
      refine ⟨Tt, _, rfl, .inl (.inl upd_same), rfl, _, _, rfl, _, _, rfl, rfl, ?_⟩
      refine ⟨_, rfl, _, rfl, _, rfl, _, rfl, pq, _, rfl, SqT.of hpq, ?_, fun c hc => ?_⟩
      · rw [HT.sIx_nat, List.length_map, Nat.min_eq_left (Nat.le_of_lt hi)]
        exact fun h => absurd h.2 (by omega)
      · have ct : cutV (r.pars.map V.str) none (some ((i : Nat) : Int)) = (r.pars.take i).map V.str := by rw [cut_to, List.map_take]
        refine ⟨_, _, rfl, .inr (SqT.of upd_same), rfl, by rw [ct]; exact flat_strs _, ?_⟩
        rw [ct, in_strs]
        refine ⟨_, rfl, iteD (fun k => ?_) (fun k => ?_)⟩
        · refine ⟨some (.int (i : Nat)), some (.str y), s3.trans (same_new hc), ?_⟩
          rw [decide_eq_false (p := (r.pars.take (i + 1)).Nodup) (fun n => ((nodup_take_succ hy).mp n).2 k), Bool.and_false]
          rfl
        · refine ⟨some (.int (i : Nat)), some (.str y), s3.trans (same_new hc), ?_⟩
          rw [show decide (r.pars.take (i + 1)).Nodup = decide (r.pars.take i).Nodup from decide_eq_decide.mpr ⟨fun n => ((nodup_take_succ hy).mp n).1, fun n => (nodup_take_succ hy).mpr ⟨n, k⟩⟩]
          rfl
    rintro σ' H2 ⟨x8, x9, s2, rfl⟩
    rw [List.length_map, List.take_length]
    have ef : fineB r bs = (g1 && decide r.pars.Nodup) := by unfold fineB; rw [hg0, hg1]
    have t2 := s1.trans s2
    refine ⟨_, rfl, _, rfl, ?_⟩
    rw [← ef]
    cases hf : fineB r bs with
    | false =>
      refine iteYes rfl ⟨_, rfl, _, rfl, fun d hd => ?_⟩
      exact qb hf _ d (t2.trans (same_new hd)) (t2.free hd) upd_same
    | true =>
      refine iteNo rfl ⟨_, rfl, _, rfl, _, rfl, _, rfl, _, rfl, by show 5 ≤ sizeLine; decide, fun z hz' => ?_⟩
      exact q hf z pq _ (t2.trans (same_new hz')) (t2.free hz') upd_same (same_new hz' _ _ (s2 _ _ hq))
end
end My

namespace My
open PySem L2
/-! ### marks that webs can contain -/
inductive Fert (rs : List Row) : Str → Prop
  | base {r : Row} : r ∈ rs → r.least = 0 → Fert rs r.mark
  | step {r : Row} {p : Str} : r ∈ rs → p ∈ r.pars → Fert rs p → Fert rs r.mark
abbrev RowsT (H : Hp) (vs : List V) (rs : List Row) : Prop := Paired (RowT H) vs rs
theorem RowT.same {H H' : Hp} {v : V} {r : Row} (h : RowT H v r) (s : Same H H') : RowT H' v r := let ⟨p, pp, e, a, b⟩ := h; ⟨p, pp, e, s _ _ a, s _ _ b⟩
theorem rowsT_same {H H' : Hp} {vs : List V} {rs : List Row} (h : RowsT H vs rs) (s : Same H H') : RowsT H' vs rs := L2.Paired.mapP h fun _ _ x => x.same s
theorem pair_get' {α β : Type} {F : α → β → Prop} : ∀ {l : List α} {m : List β} {i : Nat} {x : α}, Paired F l m → l[i]? = some x → ∃ y, m[i]? = some y ∧ F x y
  | _, _, _, _, .nil, e => by simp at e
  | _, _, 0, _, .cons r _, e => by simp at e; subst e; exact ⟨_, rfl, r⟩
  | _, _, i + 1, x, .cons _ t, e => by
    obtain ⟨y, h1, h2⟩ := pair_get' (i := i) (x := x) t (by simpa using e)
    exact ⟨y, by simpa using h1, h2⟩
theorem pair_len' {α β : Type} {F : α → β → Prop} : ∀ {l : List α} {m : List β}, Paired F l m → l.length = m.length
  | _, _, .nil => rfl
  | _, _, .cons _ t => by rw [List.length_cons, List.length_cons, pair_len' t]
/-- the first mark that no web can contain -/
inductive Lost (rs : List Row) : V → Prop
  | no : (∀ r ∈ rs, Fert rs r.mark) → Lost rs .non
  | yes {i : Nat} {r : Row} : rs[i]? = some r → (∀ q ∈ rs.take i, Fert rs q.mark) → ¬ Fert rs r.mark → Lost rs (.str r.mark)
def spBarren (K : PySem.W.Frag) : Sp := fun vs H Q _ => ∃ (a : Addr) (us : List V) (rs : List Row), vs = [.ref a] ∧ H a = some (.lst us) ∧ RowsT H us rs ∧ rs.length ≤ 100 ∧ (∀ r ∈ rs, small r) ∧
  ∀ v H', Same H H' → Lost rs v → Q v H'
def knB (kvs : List (Key × V)) (m : Str) : Bool := (valV kvs (.inr m)).isSome
theorem knB_put {kvs : List (Key × V)} {m n : Str} {v : V} : knB (putK kvs (.inr m) v) n = (decide (n = m) || knB kvs n) := by
  unfold knB
  rw [valV_put]
  by_cases e : n = m
  · subst e; simp
  · rw [if_neg (fun c => e (Sum.inr.inj c))]; simp [e]
def ripeB (kvs : List (Key × V)) (r : Row) : Bool := decide (r.least = 0) || r.pars.any (knB kvs)
/-- rows whose marks are not known -/
def restOf (kvs : List (Key × V)) (rs : List Row) : Nat := (rs.filter fun r => !knB kvs r.mark).length
theorem flt_lt {α : Type} {f g : α → Bool} {x : α} : ∀ {l : List α}, (∀ y ∈ l, f y = true → g y = true) → x ∈ l → f x = false → g x = true → (l.filter f).length < (l.filter g).length
  | [], _, h, _, _ => by cases h
  | a :: l, i, h, hf, hg => by
    have le : ∀ {l : List α}, (∀ y ∈ l, f y = true → g y = true) → (l.filter f).length ≤ (l.filter g).length := by
      intro l
      induction l with
      | nil => intro _; exact Nat.le_refl _
      | cons a l ih =>
        intro i
        have ih := ih fun y hy => i y (List.mem_cons_of_mem _ hy)
        have ia := i a (List.mem_cons_self ..)
        simp only [List.filter_cons]
        cases e : f a with
        | false => cases g a <;> simp <;> omega
        | true => rw [ia e]; simp; exact ih
    have il := fun y hy => i y (List.mem_cons_of_mem _ hy)
    simp only [List.filter_cons]
    rcases List.mem_cons.mp h with rfl | h
    · rw [hf, hg]
      simp only [Bool.false_eq_true, if_false, if_true, List.length_cons]
      exact Nat.lt_succ_of_le (le il)
    · have := flt_lt il h hf hg
      have ia := i a (List.mem_cons_self ..)
      cases e : f a with
      | false => cases g a <;> simp <;> omega
      | true => rw [ia e]; simp; exact this
theorem rest_put {kvs : List (Key × V)} {rs : List Row} {r : Row} {v : V} (h : r ∈ rs) (n : knB kvs r.mark = false) : restOf (putK kvs (.inr r.mark) v) rs < restOf kvs rs := by
  refine flt_lt (x := r) (fun y _ e => ?_) h ?_ ?_
  · rw [knB_put] at e
    cases k : knB kvs y.mark with
    | false => rfl
    | true => rw [k, Bool.or_true] at e; cases e
  · rw [knB_put]; simp
  · rw [n]; rfl
section
variable {K : PySem.W.Frag}
theorem any_kn {x0 x2 x3 x5 x6 x7 x8 : Option V} {d pp : Addr} {ps : List Str} {kvs : List (Key × V)} {H : Hp} {Q : VK} (hd : H d = some (.dK kvs)) (hp : H pp = some (.tup (ps.map V.str))) (hz : ps.length ≤ 1000) (q : ∀ H', Same H H' → Q (.bl (ps.any (knB kvs))) H') :
    tCB (rAny K) (tCons (tLc (iTup K (tVar 4)) (gName 7) tYes (tOp (rInKd false) (tVar 7) (tVar 1)) [7]) tNil) [x0, some (.ref d), x2, x3, some (.ref pp), x5, x6, x7, x8] H Q := by
  have big : 1000 < sizeLine := by decide
  refine ⟨_, rfl, pp, rfl, ⟨_, SqT.of hp⟩, fun D hD => lc_tup (K := K) (a := pp) (xs := ps.map V.str) (fun i H' => Same H H' ∧ H' D = some (.lst ((ps.take i).map fun y => V.bl (knB kvs y)))) ⟨same_new hD, upd_same⟩ (fun i H' _ h => SqT.of (h.1 _ _ hp)) ?_ ?_⟩
  · rintro i v H1 hv ⟨s1, hD1⟩
    rw [List.getElem?_map] at hv
    cases e : ps[i]? with
    | none => rw [e] at hv; cases hv
    | some y1 =>
      rw [e] at hv
      obtain rfl : V.str y1 = v := Option.some.inj hv
      refine ⟨rfl, ?_⟩
      unfold tYes
      refine iteT ⟨_, rfl, _, rfl, d, _, rfl, DGet.k (k := .inr y1) (s1 _ _ hd), _, hD1, ?_, same_mut s1 hD, ?_⟩
      · rw [List.length_map, List.length_take]; omega
      · rw [upd_same, List.take_succ, e]
        simp [knB]
  · rintro H1 ⟨s1, hD1⟩
    rw [List.length_map, List.take_length] at hD1
    refine ⟨D, ps.map fun y => knB kvs y, rfl, SqL.of (by rw [hD1, List.map_map]; rfl), ?_⟩
    rw [List.any_map]
    exact q H1 s1
end
theorem fert_known {rs : List Row} {kvs : List (Key × V)} (cl : ∀ r ∈ rs, knB kvs r.mark = false → ripeB kvs r = false) {m : Str} (h : Fert rs m) : knB kvs m = true := by
  induction h with
  | @base r hr e =>
    cases k : knB kvs r.mark with
    | true => rfl
    | false =>
      have := cl r hr k
      unfold ripeB at this
      rw [decide_eq_true e, Bool.true_or] at this; cases this
  | @step r p hr hp _ ih =>
    cases k : knB kvs r.mark with
    | true => rfl
    | false =>
      have := cl r hr k
      unfold ripeB at this
      rw [List.any_eq_true.mpr ⟨p, hp, ih⟩, Bool.or_true] at this; cases this
theorem ripe_fert {rs : List Row} {kvs : List (Key × V)} (so : ∀ m, knB kvs m = true → Fert rs m) {r : Row} (hr : r ∈ rs) (h : ripeB kvs r = true) : Fert rs r.mark := by
  unfold ripeB at h
  rw [Bool.or_eq_true, decide_eq_true_iff, List.any_eq_true] at h
  rcases h with h | ⟨p, hp, k⟩
  · exact .base hr h
  · exact .step hr hp (so p k)
section
variable {w : World} {K : PySem.W.Frag} {mg : Str → Option Value} {base : Heap}
theorem ok_barren (T : Txt K mg) : FnOk PP w K mg base CX0 2 T.a_barren T.fd_barren ["rows"] (spBarren K) := by
  refine T.F_barren.ok sc_barren (fun vs H Q E h => ?_) (fun cdv A outer s H vs Q E hr h => ?_)
  · obtain ⟨a, us, rs, rfl, _⟩ := h; rfl
  · obtain ⟨a, us, rs, rfl, ha, hR, hz, hsm, q⟩ := h
    refine ⟨_, (pss_cons (ps_set (i := 1) sc_barren.nd rfl (.inr rfl) (pe_dnewK))
      (pss_cons (ps_set (i := 2) sc_barren.nd rfl (.inl rfl) (pe_bl))
      (pss_cons (ps_while PassesOwn.never (pt_val (pv 2)) (pss_cons (ps_set (i := 2) sc_barren.nd rfl (.inl rfl) (pe_bl))
      (pss_one (ps_for PassesOwn.never rfl (pi_list (pv 0)) (pg_tup rfl (pgs_cons (pg_name (i := 3) sc_barren.nd rfl (.inl rfl)) (pgs_cons (pg_name (i := 4) sc_barren.nd rfl (.inl rfl)) (pgs_cons (pg_name (i := 5) sc_barren.nd rfl (.inl rfl)) (pgs_cons (pg_name (i := 6) sc_barren.nd rfl (.inl rfl)) (pgs_cons (pg_name (i := 6) sc_barren.nd rfl (.inl rfl)) pgs_nil)))))) (pss_one (ps_if (PW.pt (pw_and (pt_cmpR (op_ninKd (hu_of hr)) (pv 3) (pv 1) (by with_unfolding_all rfl)) (pw_and1 (PW.pt (pw_or (pt_cmpR op_eq (pv 5) (pe_int) (nomark _)) (pw_or1 (pt_val (pe_callB (anyK (K := K) rfl rfl) (by rfl) T.n_any (by decide +kernel) (pa_cons (pe_lc (own := [("parent", 7)]) (g := (gName 7)) (by rfl) sc_barren.nd (pi_tup (pv 4)) (blkOk_by (own := [("parent", 7)]) (N := ["rows", "known", "grown", "mark", "parents", "least", "_", "parent", "row"]) (sc := defScope S_barren) (by decide +kernel)) (fun _ _ _ _ _ => (pg_name (i := 7) sc_barren.nd rfl (by first | exact .inl rfl | exact .inr rfl))) (fun _ _ _ _ _ => pts_nil) (fun _ _ _ _ _ => (pe_cmpR (op_inKd (hu_of hr)) (pv 7) (pv 1) (by with_unfolding_all rfl)))) pa_nil))))))))) (pss_cons (ps_dput (hu_of hr) (pv 1) (pv 3) (pe_bl) rfl)
      (pss_one (ps_set (i := 2) sc_barren.nd rfl (.inl rfl) (pe_bl)))) pss_nil))))))
      (pss_cons (ps_for PassesOwn.never rfl (pi_list (pv 0)) (pg_name (i := 8) sc_barren.nd rfl (.inl rfl)) (pss_one (ps_if (pt_cmpR (op_ninKd (hu_of hr)) (pe_ix ix_tup (pv 8) (pe_int) (fun _ _ => rfl)) (pv 1) (by with_unfolding_all rfl)) (pss_one (ps_ret (pe_ix ix_tup (pv 8) (pe_int) (fun _ _ => rfl)))) pss_nil)))
      (pss_one (ps_ret (pe_non))))))), ?_⟩
    have big : 1000 < sizeLine := by decide
    refine fun d hd => ?_
    have s1 := same_new (o := .dK []) hd
    refine ⟨fun m σ H' => ∃ (kvs : List (Key × V)) (g : Bool) (x3 x4 x5 x6 x7 x8 : Option V), σ = [some (.ref a), some (.ref d), some (.bl g), x3, x4, x5, x6, x7, x8] ∧ Same H H' ∧ H' d = some (.dK kvs) ∧ m = 2 * restOf kvs rs + (if g then 1 else 0) ∧ kvs.length + restOf kvs rs ≤ rs.length ∧
      (∀ m, knB kvs m = true → Fert rs m) ∧ (g = false → ∀ r ∈ rs, knB kvs r.mark = false → ripeB kvs r = false), ⟨_, [], true, _, _, _, _, _, _, rfl, s1, upd_same, rfl, ?_, (fun m h => by cases h), (fun h => by cases h)⟩, ?_⟩
    · rw [List.length_nil, Nat.zero_add]; exact List.length_filter_le _ _
    rintro m σ H2 ⟨kvs, g, x3, x4, x5, x6, x7, x8, rfl, s2, hd2, rfl, lk, so, cl⟩
    refine ⟨_, rfl, _, rfl, ?_⟩
    cases g with
    | true =>
      refine iteT ⟨_, fun σ' H' h => h, ?_⟩
      refine ⟨_, rfl, a, rfl, ⟨_, SqL.of (s2 _ _ ha)⟩, for_list (K := K) (a := a) (xs := us) (fun i σ H' => ∃ (kv : List (Key × V)) (g : Bool) (x3 x4 x5 x6 x7 x8 : Option V), σ = [some (.ref a), some (.ref d), some (.bl g), x3, x4, x5, x6, x7, x8] ∧ Same H H' ∧ H' d = some (.dK kv) ∧ kv.length + restOf kv rs ≤ rs.length ∧
        (∀ m, knB kv m = true → Fert rs m) ∧ (g = true → restOf kv rs < restOf kvs rs) ∧ (g = false → kv = kvs ∧ ∀ r ∈ rs.take i, knB kv r.mark = false → ripeB kv r = false))
        ⟨kvs, false, _, _, _, _, _, _, rfl, s2, hd2, lk, so, (fun h => by cases h), fun _ => ⟨rfl, fun r h => by rw [List.take_zero] at h; cases h⟩⟩ (fun i σ H' _ ⟨_, _, _, _, _, _, _, _, _, s, _⟩ => SqL.of (s _ _ ha)) ?_ ?_⟩
      · rintro i v σ H3 hv ⟨kv, g, y3, y4, y5, y6, y7, y8, rfl, s3, hd3, lk3, so3, up, dn⟩
        obtain ⟨r, hr, p, pp, rfl, hp, hpp⟩ := pair_get' hR hv
        have mr : r ∈ rs := List.mem_of_getElem? hr
        have hp3 := s3 _ _ hp
        have hpp3 := s3 _ _ hpp
        refine ⟨p, _, rfl, SqT.of hp3, rfl, _, _, rfl, _, _, rfl, _, _, rfl, _, _, rfl, _, _, rfl, rfl, ?_⟩
        have stay : (knB kv r.mark = false → ripeB kv r = false) → ∀ H4, Same H3 H4 → ∀ y7, ∃ (kv' : List (Key × V)) (g' : Bool) (x3 x4 x5 x6 x7 x8 : Option V), ([some (.ref a), some (.ref d), some (.bl g), some (.str r.mark), some (.ref pp), some (.int r.least), some (.bl r.sh), y7, y8] : L2.St) = [some (.ref a), some (.ref d), some (.bl g'), x3, x4, x5, x6, x7, x8] ∧ Same H H4 ∧ H4 d = some (.dK kv') ∧ kv'.length + restOf kv' rs ≤ rs.length ∧
            (∀ m, knB kv' m = true → Fert rs m) ∧ (g' = true → restOf kv' rs < restOf kvs rs) ∧ (g' = false → kv' = kvs ∧ ∀ r ∈ rs.take (i + 1), knB kv' r.mark = false → ripeB kv' r = false) := fun no H4 s4 y7 => by
          refine ⟨kv, g, _, _, _, _, _, _, rfl, s3.trans s4, s4 _ _ hd3, lk3, so3, up, fun e => ⟨(dn e).1, fun q hq => ?_⟩⟩
          rw [List.take_succ, hr] at hq
          rcases List.mem_append.mp hq with hq | hq
          · exact (dn e).2 q hq
          · rw [List.mem_singleton.mp hq]; exact no
        have go : knB kv r.mark = false → ripeB kv r = true → ∀ H4, Same H3 H4 → ∀ y7, ∃ (kv' : List (Key × V)) (g' : Bool) (x3 x4 x5 x6 x7 x8 : Option V), ([some (.ref a), some (.ref d), some (.bl true), some (.str r.mark), some (.ref pp), some (.int r.least), some (.bl r.sh), y7, y8] : L2.St) = [some (.ref a), some (.ref d), some (.bl g'), x3, x4, x5, x6, x7, x8] ∧ Same H (upd H4 d (.dK (putK kv (.inr r.mark) (.bl true)))) ∧ (upd H4 d (.dK (putK kv (.inr r.mark) (.bl true)))) d = some (.dK kv') ∧ kv'.length + restOf kv' rs ≤ rs.length ∧
            (∀ m, knB kv' m = true → Fert rs m) ∧ (g' = true → restOf kv' rs < restOf kvs rs) ∧ (g' = false → kv' = kvs ∧ ∀ r ∈ rs.take (i + 1), knB kv' r.mark = false → ripeB kv' r = false) := fun nk rp H4 s4 y7 => by
          have lt := rest_put (v := .bl true) mr nk
          refine ⟨putK kv (.inr r.mark) (.bl true), true, _, _, _, _, _, _, rfl, same_mut (s3.trans s4) hd, upd_same, ?_, fun m hm => ?_, fun _ => ?_, fun e => by cases e⟩
          · have := length_putK kv (.inr r.mark) (.bl true); omega
          · rw [knB_put, Bool.or_eq_true, decide_eq_true_iff] at hm
            rcases hm with rfl | hm
            · exact ripe_fert so3 mr rp
            · exact so3 m hm
          · cases g with
            | true => have := up rfl; omega
            | false => have e := (dn rfl).1; subst e; exact lt
        have lz : kv.length < sizeLine := by omega
        refine ⟨_, rfl, _, rfl, d, _, rfl, DGet.k (k := .inr r.mark) hd3, _, rfl, ?_⟩
        cases nk : knB kv r.mark with
        | true => exact iteNo (by show (!knB kv r.mark) = false; rw [nk]; rfl) (stay (fun z => by rw [nk] at z; cases z) H3 (fun _ _ h => h) y7)
        | false =>
          refine iteYes (by show (!knB kv r.mark) = true; rw [nk]; rfl) ⟨_, rfl, rfl, _, rfl, ?_⟩
          refine iteD (fun c => ?_) (fun c => ?_)
          · have c : r.least = 0 := V.int.inj c
            refine iteT ?_
            refine ⟨_, rfl, _, rfl, d, _, rfl, DPut.k (k := .inr r.mark) hd3 lz, ?_⟩
            exact go nk (by unfold ripeB; rw [decide_eq_true c, Bool.true_or]) H3 (fun _ _ h => h) y7
          · have c : r.least ≠ 0 := fun z => c (by rw [z])
            refine any_kn hd3 hpp3 (by have := (hsm r mr).2; omega) fun H4 s4 => ⟨_, rfl, ?_⟩
            cases ra : r.pars.any (knB kv) with
            | true =>
              refine iteT ?_
              refine ⟨_, rfl, _, rfl, d, _, rfl, DPut.k (k := .inr r.mark) (s4 _ _ hd3) lz, ?_⟩
              exact go nk (by unfold ripeB; rw [ra, Bool.or_true]) H4 s4 y7
            | false => exact iteF (stay (fun _ => by unfold ripeB; rw [ra, decide_eq_false c]; rfl) H4 s4 y7)
      · rintro σ H3 ⟨kv, g, y3, y4, y5, y6, y7, y8, rfl, s3, hd3, lk3, so3, up, dn⟩
        rw [pair_len' hR, List.take_length] at dn
        refine ⟨_, ?_, kv, g, _, _, _, _, _, _, rfl, s3, hd3, rfl, lk3, so3, fun e => (dn e).2⟩
        cases g with
        | true => have := up rfl; simp; omega
        | false => rw [(dn rfl).1]; simp
    | false =>
      refine iteF ?_
      have cl := cl rfl
      refine ⟨_, rfl, a, rfl, ⟨_, SqL.of (s2 _ _ ha)⟩, for_list (K := K) (a := a) (xs := us) (fun i σ H' => ∃ x8, σ = [some (.ref a), some (.ref d), some (.bl false), x3, x4, x5, x6, x7, x8] ∧ H' = H2 ∧ ∀ r ∈ rs.take i, Fert rs r.mark) ⟨_, rfl, rfl, fun r h => by rw [List.take_zero] at h; cases h⟩ (fun i σ H' _ ⟨_, _, e, _⟩ => SqL.of (by rw [e]; exact s2 _ _ ha)) ?_ ?_⟩
      · rintro i v σ H3 hv ⟨y8, rfl, rfl, hf⟩
        obtain ⟨r, hr, p, pp, rfl, hp, hpp⟩ := pair_get' hR hv
        have hp3 := s2 _ _ hp
        refine ⟨_, rfl, _, _, _, _, rfl, rfl, SqT.of hp3, atI_nat (j := 0) rfl, _, rfl, d, _, rfl, DGet.k (k := .inr r.mark) hd2, _, rfl, ?_⟩
        cases nk : knB kvs r.mark with
        | true =>
          refine iteNo (by show (!knB kvs r.mark) = false; rw [nk]; rfl) ⟨_, rfl, rfl, fun q hq => ?_⟩
          rw [List.take_succ, hr] at hq
          rcases List.mem_append.mp hq with hq | hq
          · exact hf q hq
          · rw [List.mem_singleton.mp hq]; exact so _ nk
        | false =>
          refine iteYes (by show (!knB kvs r.mark) = true; rw [nk]; rfl) ⟨_, rfl, _, _, _, _, rfl, rfl, SqT.of hp3, atI_nat (j := 0) rfl, ?_⟩
          exact q _ _ s2 (.yes hr hf fun f => by have := fert_known cl f; rw [nk] at this; cases this)
      · rintro σ H3 ⟨y8, rfl, rfl, hf⟩
        rw [pair_len' hR, List.take_length] at hf
        exact q _ _ s2 (.no hf)
end
end My

namespace My
open PySem L2
/-! ### a new shape -/
def mksV (rs : List Row) : List V := rs.map fun r => .str r.mark
def mks (rs : List Row) : List Str := rs.map Row.mark
theorem mksV_eq (rs : List Row) : mksV rs = (mks rs).map V.str := by unfold mksV mks; rw [List.map_map]; rfl
def rowFine (rs : List Row) (i : Nat) : Prop := ∀ r, rs[i]? = some r → fineB r (mks (rs.take i)) = true
inductive SErr where
  | large
  | bad (m : Str)
  | unk (m : Str)
def parsOk (rs : List Row) (r : Row) : Prop := ∀ p ∈ r.pars, p ∈ mks rs
inductive Due (rs : List Row) : SErr → Prop
  | large : 6 < rs.length → Due rs .large
  | row {i : Nat} {r : Row} : rs.length ≤ 6 → rs[i]? = some r → (∀ j, j < i → rowFine rs j) → fineB r (mks (rs.take i)) = false → Due rs (.bad r.mark)
  | par {i k : Nat} {r : Row} {p : Str} : rs.length ≤ 6 → (∀ j, rowFine rs j) → rs[i]? = some r → r.pars[k]? = some p → (∀ q ∈ rs.take i, parsOk rs q) → (∀ q ∈ r.pars.take k, q ∈ mks rs) → p ∉ mks rs → Due rs (.unk p)
  | lost {i : Nat} {r : Row} : rs.length ≤ 6 → (∀ j, rowFine rs j) → (∀ q ∈ rs, parsOk rs q) → rs[i]? = some r → (∀ q ∈ rs.take i, Fert rs q.mark) → ¬ Fert rs r.mark → Due rs (.bad r.mark)
structure Good (rs : List Row) : Prop where
  len : rs.length ≤ 6
  fine : ∀ j, rowFine rs j
  pars : ∀ q ∈ rs, parsOk rs q
  fert : ∀ q ∈ rs, Fert rs q.mark
/-- what the error e is: its class and what it holds -/
def ErrIs (TL BS UM : Addr) : SErr → Addr → V → Str → Prop
  | .large, c, v, f => c = TL ∧ v = .int 6 ∧ f = "most"
  | .bad m, c, v, f => c = BS ∧ v = .str m ∧ f = "mark"
  | .unk m, c, v, f => c = UM ∧ v = .str m ∧ f = "mark"
/-- a shape at x -/
def ShO (C : Addr) (H : Hp) (x : Addr) (rs : List Row) : Prop := ∃ dx l m vs, H x = some (.ins C dx [("_listed", .ref l), ("_marks", .ref m)]) ∧ H l = some (.lst vs) ∧ RowsT H vs rs ∧ H m = some (.lst (mksV rs))
theorem ShO.same {C : Addr} {H H' : Hp} {x : Addr} {rs : List Row} (h : ShO C H x rs) (s : Same H H') : ShO C H' x rs := by
  obtain ⟨dx, l, m, vs, a, b, c, d⟩ := h
  exact ⟨dx, l, m, vs, s _ _ a, s _ _ b, rowsT_same c s, s _ _ d⟩
/-- a shape whose lists stand at addresses of F -/
def ShN (F : Addr → Prop) (C : Addr) (H : Hp) (x : Addr) (rs : List Row) : Prop := ∃ dx l m vs, F l ∧ F m ∧ H x = some (.ins C dx [("_listed", .ref l), ("_marks", .ref m)]) ∧ H l = some (.lst vs) ∧ RowsT H vs rs ∧ H m = some (.lst (mksV rs))
theorem ShN.sh {F : Addr → Prop} {C : Addr} {H : Hp} {x : Addr} {rs : List Row} (h : ShN F C H x rs) : ShO C H x rs := let ⟨dx, l, m, vs, _, _, e⟩ := h; ⟨dx, l, m, vs, e⟩
theorem ShN.sub {F G : Addr → Prop} {C : Addr} {H : Hp} {x : Addr} {rs : List Row} (h : ShN F C H x rs) (i : ∀ a, F a → G a) : ShN G C H x rs := let ⟨dx, l, m, vs, a, b, e⟩ := h; ⟨dx, l, m, vs, i _ a, i _ b, e⟩
theorem RowV.same {H H' : Hp} {v : V} {r : Row} (h : RowV H v r) (s : Same H H') : RowV H' v r := by
  obtain ⟨p, pp, e, a, b⟩ := h
  exact ⟨p, pp, e, a.imp (s _ _) (s _ _), b.imp (s _ _) (s _ _)⟩
theorem rowsV_same {H H' : Hp} {vs : List V} {rs : List Row} (h : Paired (RowV H) vs rs) (s : Same H H') : Paired (RowV H') vs rs := L2.Paired.mapP h fun _ _ x => x.same s
theorem RowT.keep {H H' : Hp} {v : V} {r : Row} (h : RowT H v r) (s : ∀ a xs, H a = some (.tup xs) → H' a = some (.tup xs)) : RowT H' v r := let ⟨p, pp, e, a, b⟩ := h; ⟨p, pp, e, s _ _ a, s _ _ b⟩
theorem rowsT_keep {H H' : Hp} {vs : List V} {rs : List Row} (h : RowsT H vs rs) (s : ∀ a xs, H a = some (.tup xs) → H' a = some (.tup xs)) : RowsT H' vs rs := L2.Paired.mapP h fun _ _ x => x.keep s
theorem keep_lst {H : Hp} {l : Addr} {vs ws : List V} (h : H l = some (.lst vs)) : ∀ a xs, H a = some (.tup xs) → (upd H l (.lst ws)) a = some (.tup xs) := fun a xs e => by rw [upd_ne (fun z => by rw [z, h] at e; cases e)]; exact e
theorem rowL_seq {K : PySem.W.Frag} {H : Hp} {p pp : Addr} {r : Row} {i : Int} {v : V} {Q : VK} (h : H p = some (.tup (rowL r pp)) ∨ H p = some (.lst (rowL r pp))) (e : atI (rowL r pp) i = some v) (q : Q v H) : rIx K (.ref p) (.int i) H Q := by
  rcases h with h | h
  · exact .inr (.inl ⟨_, _, _, _, rfl, rfl, SqT.of h, e, q⟩)
  · exact .inl ⟨_, _, _, _, rfl, rfl, SqL.of h, e, q⟩
theorem pair_app' {α β : Type} {F : α → β → Prop} : ∀ {l l' : List α} {m m' : List β}, Paired F l m → Paired F l' m' → Paired F (l ++ l') (m ++ m')
  | _, _, _, _, .nil, q => q
  | _, _, _, _, .cons r t, q => .cons r (pair_app' t q)
def spShInit (C TL BS UM : Addr) : Sp := fun vs H Q E => ∃ (x dx p : Addr) (us : List V) (rs : List Row), vs = [.ref x, .ref p] ∧ H x = some (.ins C dx []) ∧ H p = some (.tup us) ∧ Paired (RowV H) us rs ∧ us.length ≤ 100 ∧ (∀ r ∈ rs, small r) ∧
  (Good rs → ∀ H', But x H H' → ShN (fun a => H a = none) C H' x rs → Q .non H') ∧
  (∀ e c v f, Due rs e → ErrIs TL BS UM e c v f → ∀ H' d, Same H H' → H d = none → H' d = some (.xd [(f, v)]) → E (.ref c) (some d) H')
theorem make_sh {C TL BS UM : Addr} {H : Hp} {us : List V} {rs : List Row} {Q : VK} {E : XK} (hs : Paired (RowV H) us rs) (hl : us.length ≤ 100) (hsm : ∀ r ∈ rs, small r) (q : Good rs → ∀ x H', Same H H' → H x = none → ShN (fun a => H a = none) C H' x rs → Q (.ref x) H')
    (qe : ∀ e c v f, Due rs e → ErrIs TL BS UM e c v f → ∀ H' d, Same H H' → H d = none → H' d = some (.xd [(f, v)]) → E (.ref c) (some d) H') :
    ∀ x dx, H x = none → H dx = none → dx ≠ x → spStar 1 (spShInit C TL BS UM) (.ref x :: us) (upd (upd H dx (.own x)) x (.ins C dx [])) (fun v H2 => v = .non ∧ Q (.ref x) H2) E := fun x dx nx nd _ => by
  have s1 : Same H (upd (upd H dx (.own x)) x (.ins C dx [])) := fun y o h => by rw [upd_ne (ne_of_none h nx), upd_ne (ne_of_none h nd)]; exact h
  refine ⟨[.ref x], us, rfl, rfl, Nat.le_trans hl (by decide), fun p np => ?_⟩
  have s2 := s1.trans (same_new (o := .tup us) np)
  refine ⟨x, dx, p, us, rs, rfl, same_new np _ _ upd_same, upd_same, rowsV_same hs s2, hl, hsm, fun g H' b sh => ⟨rfl, q g x H' (fun y o h => b y o (ne_of_none h nx) (s2 _ _ h)) nx (sh.sub fun a h => s2.free h)⟩, fun e c v f du er H' d s' nd' hd => qe e c v f du er H' d (s2.trans s') (s2.free nd') hd⟩
section
variable {w : World} {K : PySem.W.Frag} {mg : Str → Option Value} {base : Heap}
theorem ok_Shape_init (T : Txt K mg) : FnR PP w K mg base (L2.CX PP w) 5 T.a_Shape_init (spStar 1 (spShInit T.c_Shape T.c_TooLarge T.c_BadShape T.c_UnknownMark)) := by
  refine Fun.starX (k := 4) (ps := ["self"]) T.F_Shape_init sc_Shape_init T.bs_Shape_init fun cdv A outer s H vs Q E hr h => ?_
  obtain ⟨x, dx, p, us, rs, rfl, hx, hp, hs, hl, hsm, q, qe⟩ := h
  refine ⟨_, (pss_cons (ps_if (pt_cmpR op_gt (pe_callB call_len_seq (by rfl) T.n_len (by decide +kernel) (pa_cons (pv 1) pa_nil)) (ClX.pe_cval (pe_glob (v := .ref T.c_Shape) (by rfl) T.g_Shape rfl)) (nomark _)) (pss_one (ps_raiseX rfl T.x_TooLarge hr (takes_of rfl rfl rfl rfl) (pa_cons (ClX.pe_cval (pe_glob (v := .ref T.c_Shape) (by rfl) T.g_Shape rfl)) pa_nil))) pss_nil)
      (pss_cons (ps_set (i := 2) sc_Shape_init.nd rfl (.inl rfl) (pe_lst pa_nil))
      (pss_cons (ps_set (i := 3) sc_Shape_init.nd rfl (.inl rfl) (pe_lst pa_nil))
      (pss_cons (ps_for (passes_of rfl) rfl (pi_tup (pv 1)) (pg_name (i := 4) sc_Shape_init.nd rfl (.inl rfl)) (pss_cons (ps_expr (pe_bm PySem.F.plainAttrs_list PySem.F.slot_list_append PySem.F.type_list_append mt_append (pv 2) (pa_cons (pe_call (ok_sound_row T) (hr.mono (by omega)) (by rfl) T.g_sound_row T.F_sound_row.kp T.b_sound_row .nil (passes_call (takes_of rfl rfl rfl rfl) (fun _ _ _ _ h => h)) (pa_cons (pv 4) (pa_cons (pv 3) pa_nil))) pa_nil)))
      (pss_one (ps_expr (pe_bm PySem.F.plainAttrs_list PySem.F.slot_list_append PySem.F.type_list_append mt_append (pv 3) (pa_cons (pe_ix ix_seq (pv 4) (pe_int) (fun _ _ => rfl)) pa_nil))))))
      (pss_cons (ps_for (passes_of rfl) rfl (pi_list (pv 2)) (pg_name (i := 4) sc_Shape_init.nd rfl (.inl rfl)) (pss_one (ps_for (passes_of rfl) rfl (pi_tup (pe_ix ix_seq (pv 4) (pe_int) (fun _ _ => rfl))) (pg_name (i := 5) sc_Shape_init.nd rfl (.inl rfl)) (pss_one (ps_if (pt_cmpR op_notIn_seq (pv 5) (pv 3) (by with_unfolding_all rfl)) (pss_one (ps_raiseX rfl T.x_UnknownMark hr (takes_of rfl rfl rfl rfl) (pa_cons (pv 5) pa_nil))) pss_nil)))))
      (pss_cons (ps_set (i := 6) sc_Shape_init.nd rfl (.inl rfl) (pe_call (ok_barren T) (hr.mono (by omega)) (by rfl) T.g_barren T.F_barren.kp T.b_barren .nil pass0 (pa_cons (pv 2) pa_nil)))
      (pss_cons (ps_if (pt_cmpR op_notN (pv 6) (pe_non) (nomark _)) (pss_one (ps_raiseX rfl T.x_BadShape hr (takes_of rfl rfl rfl rfl) (pa_cons (pv 6) pa_nil))) pss_nil)
      (pss_cons (ps_fld (pv 0) (pv 2) rfl)
      (pss_one (ps_fld (pv 0) (pv 3) rfl)))))))))), ?_⟩
  have big : 1000 < sizeLine := by decide
  have lr := pair_len' hs
  refine ⟨_, rfl, p, us, rfl, .inr (SqT.of hp), _, _, _, _, rfl, T.cr_Shape, T.cv_Shape_MARKS, _, _, rfl, rfl, _, rfl, iteD (fun c => ?_) (fun c => ?_)⟩
  · refine ⟨_, _, _, _, rfl, T.cr_Shape, T.cv_Shape_MARKS, _, rfl, fun d hd => ?_⟩
    exact qe .large _ _ _ (.large (by omega)) ⟨rfl, rfl, rfl⟩ _ d (same_new hd) hd upd_same
  have l6 : rs.length ≤ 6 := by omega
  refine ⟨Nat.zero_le _, fun l hl0 => ⟨Nat.zero_le _, fun m hm0' => ?_⟩⟩
  have s0 := same_new (o := .lst []) hl0
  have hm0 : H m = none := s0.free hm0'
  have nlm : l ≠ m := fun z => by rw [← z, upd_same] at hm0'; cases hm0'
  have s1 := s0.trans (same_new (o := .lst []) hm0')
  refine ⟨_, rfl, p, rfl, ⟨_, SqT.of (s1 _ _ hp)⟩, for_tup (K := K) (a := p) (xs := us) (fun i σ H' => ∃ (x4 x5 : Option V) (vs' : List V), σ = [some (.ref x), some (.ref p), some (.ref l), some (.ref m), x4, x5, none] ∧ Same H H' ∧ H' l = some (.lst vs') ∧ H' m = some (.lst (mksV (rs.take i))) ∧ RowsT H' vs' (rs.take i) ∧ ∀ j, j < i → rowFine rs j)
    ⟨_, _, [], rfl, s1, by rw [upd_ne nlm]; exact upd_same, upd_same, .nil, fun j h => absurd h (Nat.not_lt_zero _)⟩ (fun i σ H' _ ⟨_, _, _, _, s, _⟩ => SqT.of (s _ _ hp)) ?_ ?_⟩
  · rintro i v σ H1 hv ⟨x4, x5, vs', rfl, s1, hl1, hm1, rt, fi⟩
    obtain ⟨r, hr, hV⟩ := pair_get' hs hv
    have mr : r ∈ rs := List.mem_of_getElem? hr
    have hi := (List.getElem?_eq_some_iff.mp hr).1
    obtain ⟨p0, pp0, rfl, hp0, hpp0⟩ := id (hV.same s1)
    have lv : vs'.length = i := by rw [pair_len' rt, List.length_take]; omega
    refine ⟨_, rfl, .inl ⟨rfl, _, SqL.of hl1⟩, _, rfl, _, rfl, _, _, r, mks (rs.take i), rfl, hV.same s1, by rw [hm1, mksV_eq], hsm r mr, fun gd pq pp H2 s2 npq hpq hpp => ?_, fun bd H2 d s2 nd hd => ?_⟩
    · have hl2 := s2 _ _ hl1
      refine ⟨_, _, _, rfl, rfl, hl2, by omega, ?_⟩
      have npl : pq ≠ l := (ne_of_none hl1 npq).symm
      have t2 := s1.trans s2
      have s3 : Same H (upd H2 l (.lst (vs' ++ [.ref pq]))) := same_mut t2 hl0
      have k3 := keep_lst (ws := vs' ++ [.ref pq]) hl2
      have hm3 : (upd H2 l (.lst (vs' ++ [.ref pq]))) m = some (.lst (mksV (rs.take i))) := by rw [upd_ne nlm.symm]; exact s2 _ _ hm1
      have k4 := keep_lst (ws := mksV (rs.take i) ++ [.str r.mark]) hm3
      refine ⟨_, rfl, .inl ⟨rfl, _, SqL.of hm3⟩, _, rfl, rowL_seq (hp0.imp (fun h => k3 _ _ (s2 _ _ h)) (fun h => ?_)) rfl ?_⟩
      · have n0 : p0 ≠ l := fun z => by
          obtain ⟨w0, _, e0, h0, _⟩ := hV
          obtain rfl : p0 = w0 := V.ref.inj e0
          rcases h0 with h0 | h0
          · rw [z, hl0] at h0; cases h0
          · rw [z, hl0] at h0; cases h0
        rw [upd_ne n0]; exact s2 _ _ h
      · refine ⟨_, _, _, rfl, rfl, hm3, by unfold mksV; rw [List.length_map, List.length_take]; omega, ?_⟩
        refine ⟨_, _, vs' ++ [.ref pq], rfl, same_mut s3 hm0, by rw [upd_ne nlm]; exact upd_same, ?_, ?_, fun j hj => ?_⟩
        · rw [upd_same, List.take_succ, hr]; unfold mksV; rw [List.map_append]; rfl
        · rw [List.take_succ, hr]
          exact pair_app' (rowsT_keep rt fun a xs e => k4 _ _ (k3 _ _ (s2 _ _ e))) (.cons ⟨pq, pp, rfl, k4 _ _ (k3 _ _ hpq), k4 _ _ (k3 _ _ hpp)⟩ .nil)
        · by_cases e : j = i
          · subst e
            intro r' hr'
            rw [hr] at hr'
            exact Option.some.inj hr' ▸ gd
          · exact fi j (by omega)
    · exact qe _ _ _ _ (.row l6 hr fi bd) ⟨rfl, rfl, rfl⟩ H2 d (s1.trans s2) (s1.free nd) hd
  rintro σ H1 ⟨x4, x5, vs', rfl, s1, hl1, hm1, rt, fi⟩
  rw [lr, List.take_length] at hm1 rt
  have fi : ∀ j, rowFine rs j := fun j => by
    by_cases c : j < rs.length
    · exact fi j (by omega)
    · intro r hr
      rw [List.getElem?_eq_none (by omega)] at hr; cases hr
  refine ⟨_, rfl, l, rfl, ⟨_, SqL.of hl1⟩, for_list (K := K) (a := l) (xs := vs') (fun i σ H' => ∃ (x4 x5 : Option V), σ = [some (.ref x), some (.ref p), some (.ref l), some (.ref m), x4, x5, none] ∧ H' = H1 ∧ ∀ q ∈ rs.take i, parsOk rs q)
    ⟨_, _, rfl, rfl, fun q h => by rw [List.take_zero] at h; cases h⟩ (fun i σ H' _ ⟨_, _, _, e, _⟩ => SqL.of (by rw [e]; exact hl1)) ?_ ?_⟩
  · rintro i v σ H2 hv ⟨x4, x5, rfl, rfl, po⟩
    obtain ⟨r, hr, p0, pp0, rfl, hp0, hpp0⟩ := pair_get' rt hv
    refine ⟨_, rfl, rowL_seq (.inl hp0) rfl ⟨pp0, rfl, ⟨_, SqT.of hpp0⟩, for_tup (K := K) (a := pp0) (xs := r.pars.map V.str) (fun k σ H' => ∃ (x5 : Option V), σ = [some (.ref x), some (.ref p), some (.ref l), some (.ref m), some (.ref p0), x5, none] ∧ H' = H2 ∧ ∀ q ∈ r.pars.take k, q ∈ mks rs)
      ⟨_, rfl, rfl, fun q h => by rw [List.take_zero] at h; cases h⟩ (fun i σ H' _ ⟨_, _, e, _⟩ => SqT.of (by rw [e]; exact hpp0)) ?_ ?_⟩⟩
    · rintro k v σ H3 hk ⟨x5, rfl, rfl, pk⟩
      obtain ⟨y, hy, rfl⟩ : ∃ y, r.pars[k]? = some y ∧ v = .str y := by
        rw [List.getElem?_map] at hk
        cases e : r.pars[k]? with
        | none => rw [e] at hk; cases hk
        | some y => rw [e] at hk; exact ⟨y, rfl, (Option.some.inj hk).symm⟩
      refine ⟨_, rfl, _, rfl, _, _, rfl, .inl (SqL.of hm1), rfl, by rw [mksV_eq]; exact flat_strs _, ?_⟩
      rw [mksV_eq, in_strs]
      refine ⟨_, rfl, iteN (fun c => ?_) (fun c => ?_)⟩
      · refine ⟨_, rfl, _, rfl, fun d hd => ?_⟩
        exact qe (.unk y) _ _ _ (.par l6 fi hr hy po pk c) ⟨rfl, rfl, rfl⟩ _ d (s1.trans (same_new hd)) (s1.free hd) upd_same
      · refine ⟨_, rfl, rfl, fun q hq => ?_⟩
        rw [List.take_succ, hy] at hq
        rcases List.mem_append.mp hq with hq | hq
        · exact pk q hq
        · rw [List.mem_singleton.mp hq]; exact c
    · rintro σ H3 ⟨x5, rfl, rfl, pk⟩
      rw [List.length_map, List.take_length] at pk
      refine ⟨_, _, rfl, rfl, fun q hq => ?_⟩
      rw [List.take_succ, hr] at hq
      rcases List.mem_append.mp hq with hq | hq
      · exact po q hq
      · rw [List.mem_singleton.mp hq]; exact pk
  rintro σ H2 ⟨x4, x5, rfl, rfl, po⟩
  rw [pair_len' rt, List.take_length] at po
  refine ⟨_, rfl, l, vs', rs, rfl, hl1, rt, by omega, hsm, fun v H3 s3 lo => ?_⟩
  have t3 := s1.trans s3
  cases lo with
  | @yes i r hr hf nf =>
    refine ⟨_, rfl, rfl, _, rfl, iteYes rfl ⟨_, rfl, _, rfl, fun d hd => ?_⟩⟩
    exact qe _ _ _ _ (.lost l6 fi po hr hf nf) ⟨rfl, rfl, rfl⟩ _ d (t3.trans (same_new hd)) (t3.free hd) upd_same
  | no hf =>
    refine ⟨_, rfl, rfl, _, rfl, iteNo rfl ?_⟩
    have hx3 := t3 _ _ hx
    refine ⟨_, rfl, _, rfl, x, _, dx, _, rfl, hx3, T.cl_Shape, T.no_Shape__listed, by show 0 < 1000; decide, ?_⟩
    refine ⟨_, rfl, _, rfl, x, _, dx, _, rfl, upd_same, T.cl_Shape, T.no_Shape__marks, by show 1 < 1000; decide, ?_⟩
    have nx : ∀ {a : Addr} {ws : List V}, H3 a = some (.lst ws) → a ≠ x := fun h z => by rw [z, hx3] at h; cases h
    have hl3 := s3 _ _ hl1
    have hm3 := s3 _ _ hm1
    refine q ⟨l6, fi, po, hf⟩ _ (fun y o n h => by rw [upd_ne n, upd_ne n]; exact t3 _ _ h) ⟨dx, l, m, vs', hl0, hm0, upd_same, ?_, ?_, ?_⟩
    · rw [upd_ne (nx hl3), upd_ne (nx hl3)]; exact hl3
    · refine rowsT_keep (rowsT_same rt s3) fun a xs e => ?_
      have n : a ≠ x := fun z => by rw [z, hx3] at e; cases e
      rw [upd_ne n, upd_ne n]; exact e
    · rw [upd_ne (nx hm3), upd_ne (nx hm3)]; exact hm3
end
end My

namespace My
open PySem L2
/-! ### what shapes answer -/
def rowD (r : Row) : PyData := .tuple [.str r.mark, .tuple (r.pars.map .str), .int r.least, .int r.most, .bool r.sh]
theorem eqv_strs : ∀ a b : List Str, PyData.eqvAll (a.map .str) (b.map .str) = decide (a = b)
  | [], [] => by simp [PyData.eqvAll]
  | [], _ :: _ => by simp [PyData.eqvAll]
  | _ :: _, [] => by simp [PyData.eqvAll]
  | x :: a, y :: b => by
    simp only [List.map_cons, PyData.eqvAll, PyData.eqv, eqv_strs a b]
    rw [Bool.eq_iff_iff, Bool.and_eq_true, beq_iff_eq, decide_eq_true_iff, decide_eq_true_iff]
    simp
theorem eqv_row (a b : Row) : PyData.eqv (rowD a) (rowD b) = decide (a = b) := by
  unfold rowD
  simp only [PyData.eqv, PyData.eqvAll, eqv_strs, Bool.and_true]
  rw [Bool.eq_iff_iff]
  simp only [Bool.and_eq_true, beq_iff_eq, decide_eq_true_iff]
  cases a; cases b
  simp
theorem eqv_rows : ∀ a b : List Row, PyData.eqvAll (a.map rowD) (b.map rowD) = decide (a = b)
  | [], [] => by simp [PyData.eqvAll]
  | [], _ :: _ => by simp [PyData.eqvAll]
  | _ :: _, [] => by simp [PyData.eqvAll]
  | x :: a, y :: b => by
    simp only [List.map_cons, PyData.eqvAll, eqv_row, eqv_rows a b]
    rw [Bool.eq_iff_iff, Bool.and_eq_true, decide_eq_true_iff, decide_eq_true_iff, decide_eq_true_iff]
    simp
theorem strOk_mk {z : Str} (h : isMk z = true) : PyData.strOk z = true := by
  unfold isMk at h
  rw [Bool.and_eq_true, List.all_eq_true] at h
  unfold PyData.strOk
  rw [← Array.all_toList, List.all_eq_true]
  intro c hc
  have := of_decide_eq_true (h.2 c hc)
  exact decide_eq_true (by omega)
theorem canLay_strs : ∀ {l : List Str}, (∀ z ∈ l, PyData.strOk z = true) → PyData.canLayAll0 (l.map .str) = true
  | [], _ => rfl
  | z :: l, h => by rw [List.map_cons, PyData.canLayAll0, PyData.canLay0, h z (by simp), canLay_strs fun y hy => h y (by simp [hy])]; rfl
theorem depth_strs : ∀ l : List Str, PyData.depthAll (l.map .str) = 0
  | [] => rfl
  | z :: l => by rw [List.map_cons, PyData.depthAll, depth_strs l]; rfl
/-- rows whose words are marks -/
def wordsOk (rs : List Row) : Prop := ∀ r ∈ rs, PyData.strOk r.mark = true ∧ ∀ p ∈ r.pars, PyData.strOk p = true
theorem Good.words {rs : List Row} (h : Good rs) : wordsOk rs := by
  have mk : ∀ r ∈ rs, isMk r.mark = true := fun r hr => by
    obtain ⟨j, hj⟩ := List.mem_iff_getElem?.mp hr
    have := h.fine j r hj
    unfold fineB at this
    simp only [Bool.and_eq_true] at this
    exact this.1.1.1
  intro r hr
  refine ⟨strOk_mk (mk r hr), fun p hp => ?_⟩
  obtain ⟨q, hq, rfl⟩ := List.mem_map.mp (h.pars r hr p hp)
  exact strOk_mk (mk q hq)
theorem row_lay {r : Row} (h : PyData.strOk r.mark = true ∧ ∀ p ∈ r.pars, PyData.strOk p = true) : PyData.canLay0 (rowD r) = true := by
  unfold rowD
  simp [PyData.canLay0, PyData.canLayAll0, h.1, canLay_strs h.2]
theorem rows_shaped {rs : List Row} (h : wordsOk rs) : SeqAt.shaped (.list (rs.map rowD)) = true := by
  have h1 : ∀ l : List Row, wordsOk l → PyData.canLayAll0 (l.map rowD) = true := fun l => by
    induction l with
    | nil => intro _; rfl
    | cons a r ih => intro q; rw [List.map_cons, PyData.canLayAll0, row_lay (q a (by simp)), ih fun s hs => q s (by simp [hs])]; rfl
  have h2 : ∀ l : List Row, PyData.depthAll (l.map rowD) ≤ 4 := fun l => by
    induction l with
    | nil => exact Nat.zero_le _
    | cons a r ih =>
      rw [List.map_cons, PyData.depthAll]
      have : PyData.depth (rowD a) ≤ 4 := by unfold rowD; simp [PyData.depth, PyData.depthAll, depth_strs]
      omega
  unfold SeqAt.shaped
  rw [PyData.canLay0, h1 rs h, PyData.depth, Bool.true_and, decide_eq_true_iff]
  have := h2 rs
  omega
theorem strsDp {K : PySem.W.Frag} {H : Hp} : ∀ l : List Str, DpAll K H (l.map V.str) (l.map .str)
  | [] => .nil
  | z :: l => .cons (.str _) (strsDp l)
theorem rowDp {K : PySem.W.Frag} {H : Hp} {v : V} {r : Row} (h : RowT H v r) : Dp K H v (rowD r) := by
  obtain ⟨p, pp, rfl, hp, hpp⟩ := h
  exact .tup (SqT.of hp) (.cons (.str _) (.cons (.tup (SqT.of hpp) (strsDp _)) (.cons (.int _) (.cons (.int _) (.cons (.bl _) .nil)))))
theorem rowsDp {K : PySem.W.Frag} {H : Hp} : ∀ {vs : List V} {rs : List Row}, RowsT H vs rs → DpAll K H vs (rs.map rowD)
  | _, _, .nil => .nil
  | _, _, .cons h t => .cons (rowDp h) (rowsDp t)
def findR (rs : List Row) (z : Str) : Option Row := rs.find? fun r => decide (r.mark = z)
theorem findR_at {rs : List Row} {z : Str} {i : Nat} {r : Row} (h : rs[i]? = some r) (e : r.mark = z) (n : ∀ q ∈ rs.take i, q.mark ≠ z) : findR rs z = some r := by
  unfold findR
  have e1 : rs = rs.take i ++ r :: rs.drop (i + 1) := by
    obtain ⟨h1, h2⟩ := List.getElem?_eq_some_iff.mp h
    rw [← h2, ← List.drop_eq_getElem_cons h1, List.take_append_drop]
  rw [e1, List.find?_append, List.find?_eq_none.mpr (by intro q hq; simpa using n q hq)]
  simp [List.find?_cons, e]
theorem findR_no {rs : List Row} {z : Str} (n : ∀ q ∈ rs, q.mark ≠ z) : findR rs z = none := List.find?_eq_none.mpr (by intro q hq; simpa using n q hq)
theorem findR_mem {rs : List Row} {z : Str} {r : Row} (h : findR rs z = some r) : r ∈ rs ∧ r.mark = z := ⟨List.mem_of_find?_eq_some h, by simpa using List.find?_some h⟩
/-- an error of the class X with the word z -/
abbrev ErrS (X : Addr) (f : Str) (v : V) (H : Hp) (E : XK) : Prop := ∀ H' d, Same H H' → H d = none → H' d = some (.xd [(f, v)]) → E (.ref X) (some d) H'
def spShGet (C X : Addr) : Sp := fun vs H Q E => ∃ (x : Addr) (z : Str) (rs : List Row), vs = [.ref x, .str z] ∧ ShO C H x rs ∧
  (∀ r p pp, findR rs z = some r → H p = some (.tup (rowL r pp)) → H pp = some (.tup (r.pars.map V.str)) → Q (.ref p) H) ∧ (findR rs z = none → ErrS X "mark" (.str z) H E)
def spShLen (C : Addr) : Sp := fun vs H Q _ => ∃ (x : Addr) (rs : List Row), vs = [.ref x] ∧ ShO C H x rs ∧ Q (.int rs.length) H
def spShHas (C : Addr) : Sp := fun vs H Q _ => ∃ (x : Addr) (z : Str) (rs : List Row), vs = [.ref x, .str z] ∧ ShO C H x rs ∧ Q (.bl (decide (z ∈ mks rs))) H
def spShEq (C : Addr) : Sp := fun vs H Q _ => ∃ (x y : Addr) (rs ts : List Row), vs = [.ref x, .ref y] ∧ ShO C H x rs ∧ ShO C H y ts ∧ wordsOk rs ∧ wordsOk ts ∧ Q (.bl (decide (rs = ts))) H
def spShMarks (C : Addr) : Sp := fun vs H Q _ => ∃ (x : Addr) (rs : List Row), vs = [.ref x] ∧ ShO C H x rs ∧ ∀ t H', Same H H' → H t = none → H' t = some (.tup (mksV rs)) → Q (.ref t) H'
def spShExc (C : Addr) : Sp := fun vs H Q _ => ∃ (x : Addr) (rs : List Row), vs = [.ref x] ∧ ShO C H x rs ∧ Q (.bl (!rs.any (·.sh))) H
def widthOf (rs : List Row) : Int := rs.foldl (fun (a : Int) (r : Row) => if a < r.most then r.most else a) 1
def spShWidth (C : Addr) : Sp := fun vs H Q _ => ∃ (x : Addr) (rs : List Row), vs = [.ref x] ∧ ShO C H x rs ∧ Q (.int (widthOf rs)) H
def modesV (sh : Bool) : List V := if sh then [.str "own", .str "share"] else [.str "own"]
/-- a tuple that was made, or a constant -/
def TupC (K : PySem.W.Frag) (H : Hp) (t : Addr) (xs : List V) : Prop := H t = some (.tup xs) ∨ ∀ H', SqT K H' t xs
theorem TupC.sq {K : PySem.W.Frag} {H : Hp} {t : Addr} {xs : List V} (h : TupC K H t xs) : SqT K H t xs := h.elim SqT.of fun h => h H
theorem TupC.same {K : PySem.W.Frag} {H H' : Hp} {t : Addr} {xs : List V} (h : TupC K H t xs) (s : Same H H') : TupC K H' t xs := h.imp (s _ _) id
def spShModes (K : PySem.W.Frag) (C X : Addr) : Sp := fun vs H Q E => ∃ (x : Addr) (z : Str) (rs : List Row), vs = [.ref x, .str z] ∧ ShO C H x rs ∧
  (∀ r t H', findR rs z = some r → Same H H' → TupC K H' t (modesV r.sh) → Q (.ref t) H') ∧ (findR rs z = none → ErrS X "mark" (.str z) H E)
theorem sh_look1 (l m : Addr) : List.lookup ("_listed" : Str) [(("_listed" : Str), V.ref l), ("_marks", V.ref m)] = some (V.ref l) := rfl
theorem sh_look2 (l m : Addr) : List.lookup ("_marks" : Str) [(("_listed" : Str), V.ref l), ("_marks", V.ref m)] = some (V.ref m) := rfl
section
variable {w : World} {K : PySem.W.Frag} {mg : Str → Option Value} {base : Heap}
theorem ok_Shape_iter (T : Txt K mg) : IterOk PP w K mg base 1 T.a_Shape_iter T.c_Shape "_marks" := fun A outer s H a dx l fs xs Q E hr e0 ha hf hq q => by
  refine fn_here T.F_Shape_iter sc_Shape_iter T.b_Shape_iter hr e0 (vs := [.ref a]) (.cons rfl .nil) rfl fun cdv hr => ⟨_, (pss_one (ps_ret (pe_callB ItX.call_iterN (by rfl) T.n_iter (by decide +kernel) (pa_cons (pe_fld (pv 0) rfl) pa_nil)))), ?_⟩
  exact ⟨_, rfl, a, _, dx, _, _, rfl, ha, T.cl_Shape, T.no_Shape__marks, hf, l, xs, rfl, hq, fun it n1 n2 => q it n1 n2⟩
theorem ok_Shape_eq (T : Txt K mg) : FnOk PP w K mg base CX0 1 T.a_Shape_eq T.fd_Shape_eq ["self", "other"] (spShEq T.c_Shape) := by
  refine T.F_Shape_eq.ok sc_Shape_eq (fun vs H Q E h => ?_) (fun cdv A outer s H vs Q E hr h => ?_)
  · obtain ⟨x, y, ss, tt, rfl, _⟩ := h; rfl
  · obtain ⟨x, y, ss, tt, rfl, ⟨dx, l, m, us, hx, hl, hs, hm⟩, ⟨dy, l2, m2, vs, hy, hl2, ht, hm2⟩, gs, gt, q⟩ := h
    refine ⟨_, (pss_one (ps_ret (pe_and (pe_callB call_isi (by rfl) T.n_isinstance (by decide +kernel) (pa_cons (pv 1) (pa_cons (pe_glob (v := .ref T.c_Shape) (by rfl) T.g_Shape rfl) pa_nil))) (pe_one (pe_cmpR (op_eqD hr.units) (pe_fld (pv 0) rfl) (pe_fld (pv 1) rfl) (nomark _)))))), ?_⟩
    refine ⟨_, rfl, _, _, _, _, true, rfl, ClsV.own _, .base (T.ti_Shape _ _ _ _ hy), T.kk_Shape, _, rfl, iteT ?_⟩
    refine ⟨_, rfl, x, _, dx, _, _, rfl, hx, T.cl_Shape, T.no_Shape__listed, sh_look1 l m, _, rfl, y, _, dy, _, _, rfl, hy, T.cl_Shape, T.no_Shape__listed, sh_look1 l2 m2, _, _, .lst (SqL.of hl) (rowsDp hs), .lst (SqL.of hl2) (rowsDp ht), rows_shaped gs, rows_shaped gt, ?_⟩
    rw [PyData.eqv, eqv_rows]
    exact q
theorem ok_Shape_len (T : Txt K mg) : FnOk PP w K mg base CX0 1 T.a_Shape_len T.fd_Shape_len ["self"] (spShLen T.c_Shape) := by
  refine T.F_Shape_len.ok sc_Shape_len (fun vs H Q E h => ?_) (fun cdv A outer s H vs Q E hr h => ?_)
  · obtain ⟨x, rs, rfl, _⟩ := h; rfl
  · obtain ⟨x, rs, rfl, ⟨dx, l, m, us, hx, hl, hs, hm⟩, q⟩ := h
    refine ⟨_, (pss_one (ps_ret (pe_callB call_len_seq (by rfl) T.n_len (by decide +kernel) (pa_cons (pe_fld (pv 0) rfl) pa_nil)))), ?_⟩
    refine ⟨_, rfl, x, _, dx, _, _, rfl, hx, T.cl_Shape, T.no_Shape__marks, sh_look2 l m, m, _, rfl, .inl (SqL.of hm), ?_⟩
    unfold mksV
    rw [List.length_map]
    exact q
end
end My

namespace My
open PySem L2
/-! ### drawn marks -/
def spLMarks (K : PySem.W.Frag) : Sp := fun vs H Q _ => ∃ (d t : Addr) (n : Nat), vs = [.ref d, .ref t, .int n] ∧ Dr K H d t ∧ n ≤ 26 ∧
  ∀ (ms : List Str) p H', ms.length = n → ms.Nodup → (∀ m ∈ ms, isMk m = true) → Dr K H' d t → But t H H' → H p = none → H' p = some (.lst (ms.map V.str)) → Q (.ref p) H'
theorem joinL_nil : ∀ ls : List (List Nat), TL.joinL [] ls = ls.flatten
  | [] => rfl
  | [p] => by simp [TL.joinL]
  | p :: q :: r => by
    have := joinL_nil (q :: r)
    rw [TL.joinL, this]; simp
theorem letters_tl : ("abcdefghijklmnopqrstuvwxyz" : Str).cps.toList = (List.range 26).map (97 + ·) := by decide +kernel
theorem letter_at {i : Int} (h0 : 0 ≤ i) (h1 : i < 26) : atI ("abcdefghijklmnopqrstuvwxyz" : Str).cps.toList i = some (97 + i.toNat) := by
  obtain ⟨j, rfl⟩ := Int.eq_ofNat_of_zero_le h0
  refine atI_nat ?_
  rw [letters_tl, List.getElem?_map, List.getElem?_range (by omega)]
  rfl
def letS (i : Int) : Str := ⟨#[97 + i.toNat]⟩
theorem tl_letS (i : Int) : TL.tl (letS i) = [97 + i.toNat] := rfl
def restS (f : Int) (z : Nat) : Str := Txt.join "" ((List.range z).map fun j => letS ((f + 3 * (j : Nat)) % 26))
theorem tl_restS (f : Int) (z : Nat) : TL.tl (restS f z) = (List.range z).map fun j => 97 + ((f + 3 * (j : Nat)) % 26).toNat := by
  unfold restS
  rw [TL.join_eq, TL.tl_join, show TL.tl ("" : Str) = [] by decide +kernel, joinL_nil, List.map_map, ← List.flatMap_def]
  induction z with
  | zero => rfl
  | succ z ih => rw [List.range_succ, List.flatMap_append, ih, List.map_append]; rfl
theorem isMk_of {m : Str} (h1 : 1 ≤ (TL.tl m).length) (h8 : (TL.tl m).length ≤ 8) (ha : ∀ c ∈ TL.tl m, 97 ≤ c ∧ c ≤ 122) : isMk m = true := by
  unfold isMk
  rw [TL.len_tl, decide_eq_true ⟨h1, h8⟩, Bool.true_and, List.all_eq_true]
  exact fun c hc => decide_eq_true (ha c hc)
theorem let_ok (i : Int) : 97 ≤ 97 + (i % 26).toNat ∧ 97 + (i % 26).toNat ≤ 122 := by
  have := Int.emod_lt_of_pos i (show (0 : Int) < 26 by decide)
  have := Int.emod_nonneg i (show (26 : Int) ≠ 0 by decide)
  omega
theorem rest_ok {f : Int} {z c : Nat} (h : c ∈ TL.tl (restS f z)) : 97 ≤ c ∧ c ≤ 122 := by
  rw [tl_restS] at h
  obtain ⟨j, _, rfl⟩ := List.mem_map.mp h
  exact let_ok _
theorem rest_len (f : Int) (z : Nat) : (TL.tl (restS f z)).length = z := by rw [tl_restS, List.length_map, List.length_range]
theorem sum_let (f : Int) (z : Nat) : (((List.range z).map fun j => letS ((f + 3 * ((j : Nat) : Int)) % 26)).map (·.length)).sum = z := by
  induction z with
  | zero => rfl
  | succ z ih =>
    rw [List.range_succ, List.map_append, List.map_append, List.sum_append, ih]
    rfl
def sgn (sh : Int) (j : Nat) : Nat := 97 + ((sh + 5 * (j : Nat)) % 26).toNat
def keyOf (front : Bool) (m : Str) : Option Nat := if front then (TL.tl m).head? else (TL.tl m).getLast?
theorem key_nodup {front : Bool} {sh : Int} {ms : List Str} (hz : ms.length ≤ 26) (h : ∀ j m, ms[j]? = some m → keyOf front m = some (sgn sh j)) : ms.Nodup := by
  refine List.pairwise_iff_getElem.mpr fun i j hi hj hij e => ?_
  have e1 := h i _ (List.getElem?_eq_getElem hi)
  have e2 := h j _ (List.getElem?_eq_getElem hj)
  rw [e, e2] at e1
  have e1 := Option.some.inj e1
  unfold sgn at e1
  omega
section
variable {P : Program} {w : World} {K : PySem.W.Frag} {mg : Str → Option Value} {base : Heap}
theorem ok__law_marks (T : Txt K mg) : FnOk P w K mg base CX0 2 T.a__law_marks T.fd__law_marks ["_law_draws_here", "_law_at", "_law_count"] (spLMarks K) := by
  refine T.F__law_marks.ok sc__law_marks (fun vs H Q E h => ?_) (fun cdv A outer s H vs Q E hr h => ?_)
  · obtain ⟨d, t, n, rfl, _⟩ := h; rfl
  · obtain ⟨d, t, n, rfl, D0, hn, q⟩ := h
    refine ⟨_, (pss_cons (ps_set (i := 3) sc__law_marks.nd rfl (.inr rfl) (pe_str))
      (pss_cons (ps_set (i := 4) sc__law_marks.nd rfl (.inl rfl) (pe_call (ok__law_take T) (hr.mono (by omega)) (by rfl) T.g__law_take T.F__law_take.kp T.b__law_take .nil pass0 (pa_cons (pv 0) (pa_cons (pv 1) (pa_cons (pe_int) pa_nil)))))
      (pss_cons (ps_set (i := 5) sc__law_marks.nd rfl (.inl rfl) (pe_cmpR op_eq (pe_call (ok__law_take T) (hr.mono (by omega)) (by rfl) T.g__law_take T.F__law_take.kp T.b__law_take .nil pass0 (pa_cons (pv 0) (pa_cons (pv 1) (pa_cons (pe_int) pa_nil)))) (pe_int) (nomark _)))
      (pss_cons (ps_set (i := 6) sc__law_marks.nd rfl (.inl rfl) (pe_lst pa_nil))
      (pss_cons (ps_for PassesOwn.never rfl (pi_range1 (by rfl) T.n_range (pa_cons (pv 2) pa_nil)) (pg_name (i := 7) sc__law_marks.nd rfl (.inl rfl)) (pss_cons (ps_set (i := 8) sc__law_marks.nd rfl (.inl rfl) (pe_ix ix_list (pe_lst (pa_cons (pe_int) (pa_cons (pe_int) (pa_cons (pe_int) (pa_cons (pe_int) (pa_cons (pe_int) pa_nil)))))) (pe_call (ok__law_take T) (hr.mono (by omega)) (by rfl) T.g__law_take T.F__law_take.kp T.b__law_take .nil pass0 (pa_cons (pv 0) (pa_cons (pv 1) (pa_cons (pe_int) pa_nil)))) (fun _ _ => rfl)))
      (pss_cons (ps_set (i := 9) sc__law_marks.nd rfl (.inr rfl) (pe_call (ok__law_take T) (hr.mono (by omega)) (by rfl) T.g__law_take T.F__law_take.kp T.b__law_take .nil pass0 (pa_cons (pv 0) (pa_cons (pv 1) (pa_cons (pe_int) pa_nil)))))
      (pss_cons (ps_set (i := 10) sc__law_marks.nd rfl (.inl rfl) (pe_join (pe_str) (pe_lc (own := [("_law_j", 11)]) (g := (gName 11)) (by rfl) sc__law_marks.nd (pi_range1 (by rfl) T.n_range (pa_cons (pv 8) pa_nil)) (blkOk_by (own := [("_law_j", 11)]) (N := ["_law_draws_here", "_law_at", "_law_count", "_law_letters", "_law_shift", "_law_front", "_law_marks_here", "_law_k", "_law_size", "_law_first", "_law_rest", "_law_j", "_law_sign"]) (sc := defScope S__law_marks) (by decide +kernel)) (fun _ _ _ _ _ => (pg_name (i := 11) sc__law_marks.nd rfl (by first | exact .inl rfl | exact .inr rfl))) (fun _ _ _ _ _ => pts_nil) (fun _ _ _ _ _ => (pe_ix ix_str (pv 3) (pe_op op_mod (pe_op op_add (pv 9) (pe_op op_mul (pe_int) (pv 11))) (pe_int)) (fun _ _ => rfl))))))
      (pss_cons (ps_set (i := 12) sc__law_marks.nd rfl (.inl rfl) (pe_ix ix_str (pv 3) (pe_op op_mod (pe_op op_add (pv 4) (pe_op op_mul (pe_int) (pv 7))) (pe_int)) (fun _ _ => rfl)))
      (pss_one (ps_if (pt_val (pv 5)) (pss_one (ps_expr (pe_bm PySem.F.plainAttrs_list PySem.F.slot_list_append PySem.F.type_list_append mt_append (pv 6) (pa_cons (pe_op op_add_str (pv 12) (pv 10)) pa_nil)))) (pss_one (ps_expr (pe_bm PySem.F.plainAttrs_list PySem.F.slot_list_append PySem.F.type_list_append mt_append (pv 6) (pa_cons (pe_op op_add_str (pv 10) (pv 12)) pa_nil)))))))))))
      (pss_one (ps_ret (pv 6)))))))), ?_⟩
    have big : 100000 < sizeLine := by decide
    refine ⟨_, rfl, _, rfl, d, t, 26, rfl, D0, by decide, fun sh H1 h0 h1 D1 b1 => ?_⟩
    refine ⟨_, rfl, _, rfl, d, t, 2, rfl, D1, by decide, fun fr H2 _ _ D2 b2 => ⟨rfl, ?_⟩⟩
    generalize decide (V.int fr = V.int 1) = front
    refine ⟨Nat.zero_le _, fun l hl => ?_⟩
    have nlt : l ≠ t := D2.na hl
    have b2 := b1.trans b2
    have hl0 : H l = none := b2.free nlt hl
    have s3 := same_new (o := .lst []) hl
    refine ⟨_, rfl, _, rfl, by omega, by omega, for_range (lo := 0) (n := n) (fun k σ H' => ∃ (ms : List Str) (x7 x8 x9 x10 x11 x12 : Option V), σ = [some (.ref d), some (.ref t), some (.int n), some (.str "abcdefghijklmnopqrstuvwxyz"), some (.int sh), some (.bl front), some (.ref l), x7, x8, x9, x10, x11, x12] ∧ Dr K H' d t ∧ But t H H' ∧ H' l = some (.lst (ms.map V.str)) ∧ ms.length = k ∧
        ∀ j m, ms[j]? = some m → isMk m = true ∧ keyOf front m = some (sgn sh j))
      ⟨[], _, _, _, _, _, _, rfl, D2.same s3, b2.trans (But.of_same s3), upd_same, rfl, fun j m h => by simp at h⟩ ?_ ?_⟩
    · rintro k σ H3 hk ⟨ms, x7, x8, x9, x10, x11, x12, rfl, D3, b3, hl3, lk, hms⟩
      rw [Int.zero_add]
      refine ⟨by show 5 ≤ sizeLine; decide, fun m hm => ?_⟩
      have nmt : m ≠ t := D3.na hm
      have s4 := same_new (o := .lst [.int 0, .int 1, .int 2, .int 4, .int 7]) hm
      refine ⟨_, rfl, _, rfl, d, t, 5, rfl, D3.same s4, by decide, fun r H4 r0 r1 D4 b4 => ?_⟩
      obtain ⟨v, hv, mv⟩ := at_ok (xs := [.int 0, .int 1, .int 2, .int 4, .int 7]) r0 r1
      obtain ⟨z, rfl, hz⟩ : ∃ z : Nat, v = .int z ∧ z ≤ 7 := by
        simp only [List.mem_cons, List.not_mem_nil, or_false] at mv
        rcases mv with rfl | rfl | rfl | rfl | rfl
        · exact ⟨0, rfl, by decide⟩
        · exact ⟨1, rfl, by decide⟩
        · exact ⟨2, rfl, by decide⟩
        · exact ⟨4, rfl, by decide⟩
        · exact ⟨7, rfl, by decide⟩
      refine ⟨_, _, _, _, rfl, rfl, SqL.of (b4 _ _ nmt upd_same), hv, ?_⟩
      refine ⟨_, rfl, _, rfl, d, t, 26, rfl, D4, by decide, fun f H5 f0 f1 D5 b5 => ?_⟩
      have t5 : But t H H5 := ((b3.trans (But.of_same s4)).trans b4).trans b5
      have hl5 := b5 _ _ nlt (b4 _ _ nlt (s4 _ _ hl3))
      refine ⟨⟨_, rfl⟩, _, rfl, _, rfl, by omega, by omega, fun D hD => lc_range (lo := 0) (n := z) (fun i H' => Same H5 H' ∧ H' D = some (.lst (((List.range i).map fun j => letS ((f + 3 * (j : Nat)) % 26)).map V.str))) ⟨same_new hD, upd_same⟩ ?_ ?_⟩
      · rintro i H6 hi ⟨s6, h6⟩
        rw [Int.zero_add]
        refine ⟨rfl, ?_⟩
        unfold tYes
        refine iteT ⟨_, rfl, _, rfl, _, rfl, _, _, rfl, rfl, .inl ⟨by decide, by decide⟩, _, _, rfl, rfl, _, _, rfl, rfl, (show (0 : Int) < 26 by decide), _, _, _, rfl, rfl, by decide +kernel, letter_at (Int.emod_nonneg _ (by decide)) (Int.emod_lt_of_pos _ (by decide)), ?_⟩
        refine ⟨_, h6, by simp; omega, same_mut s6 hD, ?_⟩
        rw [upd_same, List.range_succ, List.map_append, List.map_append]; rfl
      · rintro H6 ⟨s6, h6⟩
        refine ⟨_, D, _, rfl, rfl, .inl (SqL.of h6), ?_, ?_⟩
        · rw [sum_let, List.length_map, List.length_range, show ("" : Str).length = 0 by decide +kernel]; omega
        show (fun _ => _) _
        refine ⟨_, rfl, _, rfl, _, rfl, _, _, rfl, rfl, .inl ⟨by decide, by decide⟩, _, _, rfl, rfl, _, _, rfl, rfl, (show (0 : Int) < 26 by decide), _, _, _, rfl, rfl, by decide +kernel, letter_at (Int.emod_nonneg _ (by decide)) (Int.emod_lt_of_pos _ (by decide)), ?_⟩
        have hl6 := s6 _ _ hl5
        have t6 := t5.trans (But.of_same s6)
        have D6 := D5.same s6
        have rl := rest_len f z
        have keep : ∀ m : Str, (isMk m = true ∧ keyOf front m = some (sgn sh k)) → ∀ j m', (ms ++ [m])[j]? = some m' → isMk m' = true ∧ keyOf front m' = some (sgn sh j) := fun m hm j m' h => by
          by_cases c : j < ms.length
          · rw [List.getElem?_append_left c] at h; exact hms j m' h
          · rw [List.getElem?_append_right (by omega)] at h
            obtain ⟨h1, h2⟩ := List.getElem?_eq_some_iff.mp h
            have h1 : j - ms.length < 1 := h1
            obtain rfl : j = k := by omega
            have e0 : j - ms.length = 0 := by omega
            rw [e0] at h
            exact Option.some.inj h ▸ hm
        refine ⟨_, rfl, _, rfl, ?_⟩
        cases front with
        | true =>
          refine iteT ⟨_, rfl, .inl ⟨rfl, _, SqL.of hl6⟩, _, rfl, _, rfl, _, _, rfl, rfl, ?_, _, _, _, rfl, rfl, hl6, by rw [List.length_map]; omega, ?_⟩
          · rw [TL.len_tl, TL.len_tl]; show 1 + _ ≤ _; rw [show TL.tl (Txt.join "" ((List.range z).map fun j => letS ((f + 3 * ((j : Nat) : Int)) % 26))) = TL.tl (restS f z) from rfl, rl]; omega
          · refine ⟨ms ++ [letS ((sh + 5 * (k : Nat)) % 26) ++ restS f z], _, _, _, _, _, _, rfl, D6.other But.upd (D0.nd hl0) nlt.symm, t6.mut hl0, by rw [upd_same, List.map_append]; rfl, by rw [List.length_append, lk]; rfl, keep _ ⟨isMk_of ?_ ?_ ?_, ?_⟩⟩
            · rw [TL.tl_append, List.length_append]; show 1 ≤ 1 + _; omega
            · rw [TL.tl_append, List.length_append, rl]; show 1 + _ ≤ _; omega
            · intro c hc
              rw [TL.tl_append] at hc
              rcases List.mem_append.mp hc with hc | hc
              · rw [List.mem_singleton.mp hc]; exact let_ok _
              · exact rest_ok hc
            · unfold keyOf; rw [TL.tl_append]; rfl
        | false =>
          refine iteF ⟨_, rfl, .inl ⟨rfl, _, SqL.of hl6⟩, _, rfl, _, rfl, _, _, rfl, rfl, ?_, _, _, _, rfl, rfl, hl6, by rw [List.length_map]; omega, ?_⟩
          · rw [TL.len_tl, TL.len_tl]; show _ + 1 ≤ _; rw [show TL.tl (Txt.join "" ((List.range z).map fun j => letS ((f + 3 * ((j : Nat) : Int)) % 26))) = TL.tl (restS f z) from rfl, rl]; omega
          · refine ⟨ms ++ [restS f z ++ letS ((sh + 5 * (k : Nat)) % 26)], _, _, _, _, _, _, rfl, D6.other But.upd (D0.nd hl0) nlt.symm, t6.mut hl0, by rw [upd_same, List.map_append]; rfl, by rw [List.length_append, lk]; rfl, keep _ ⟨isMk_of ?_ ?_ ?_, ?_⟩⟩
            · rw [TL.tl_append, List.length_append]; show 1 ≤ _ + 1; omega
            · rw [TL.tl_append, List.length_append, rl]; show _ + 1 ≤ _; omega
            · intro c hc
              rw [TL.tl_append] at hc
              rcases List.mem_append.mp hc with hc | hc
              · exact rest_ok hc
              · rw [List.mem_singleton.mp hc]; exact let_ok _
            · unfold keyOf; rw [TL.tl_append]; exact List.getLast?_concat
    · rintro σ H3 ⟨ms, x7, x8, x9, x10, x11, x12, rfl, D3, b3, hl3, lk, hms⟩
      refine ⟨_, rfl, q ms l H3 lk (key_nodup (by omega) fun j m h => (hms j m h).2) (fun m hm => ?_) D3 b3 hl0 hl3⟩
      obtain ⟨j, hj⟩ := List.mem_iff_getElem?.mp hm
      exact (hms j m hj).1
end
end My

namespace My
open PySem L2
/-! ### all but what A holds stays -/
def Le (A : List Addr) (H H' : Hp) : Prop := ∀ b o, b ∉ A → H b = some o → H' b = some o
theorem Le.refl (A : List Addr) (H : Hp) : Le A H H := fun _ _ _ h => h
theorem Le.trans {A : List Addr} {H H1 H2 : Hp} (x : Le A H H1) (y : Le A H1 H2) : Le A H H2 := fun b o n h => y b o n (x b o n h)
theorem Le.same {A : List Addr} {H H' : Hp} (s : Same H H') : Le A H H' := fun b o _ h => s b o h
theorem Le.but {A : List Addr} {t : Addr} {H H' : Hp} (m : t ∈ A) (b : But t H H') : Le A H H' := fun a o n h => b a o (fun z => n (z ▸ m)) h
theorem Le.upd {A : List Addr} {H : Hp} {p : Addr} {o : HO} (m : p ∈ A) : Le A H (upd H p o) := fun a u n e => by rw [upd_ne (show a ≠ p from fun q => n (by rw [q]; exact m))]; exact e
theorem Le.put {A : List Addr} {H H' : Hp} {p : Addr} {o : HO} (x : Le A H H') (h : H p = none) : Le A H (L2.upd H' p o) := fun a u n e => by rw [upd_ne (ne_of_none e h)]; exact x a u n e
/-- the addresses of A are taken -/
def Al (A : List Addr) (H : Hp) : Prop := ∀ a ∈ A, ∃ o, H a = some o
theorem Al.nin {A : List Addr} {H : Hp} (h : Al A H) {p : Addr} (n : H p = none) : p ∉ A := fun m => by obtain ⟨o, e⟩ := h p m; rw [n] at e; cases e
theorem Al.same {A : List Addr} {H H' : Hp} (h : Al A H) (s : Same H H') : Al A H' := fun a m => (h a m).elim fun o e => ⟨o, s _ _ e⟩
/-! ### drawn rows of a shape -/
structure PRow where
  idx : Int
  pars : List Int
  least : Int
  most : Int
  sh : Bool
def prL (r : PRow) (pp : Addr) : List V := [.int r.idx, .ref pp, .int r.least, .int r.most, .bl r.sh]
def PrV (A : List Addr) (H : Hp) (v : V) (r : PRow) : Prop := ∃ p pp, v = .ref p ∧ p ∉ A ∧ pp ∉ A ∧ H p = some (.lst (prL r pp)) ∧ H pp = some (.lst (r.pars.map V.int))
theorem PrV.le {A : List Addr} {H H' : Hp} {v : V} {r : PRow} (h : PrV A H v r) (l : Le A H H') : PrV A H' v r := let ⟨p, pp, e, a, b, c, d⟩ := h; ⟨p, pp, e, a, b, l _ _ a c, l _ _ b d⟩
theorem PrV.sub {A B : List Addr} {H : Hp} {v : V} {r : PRow} (h : PrV A H v r) (s : ∀ a ∈ B, a ∈ A) : PrV B H v r := let ⟨p, pp, e, a, b, c, d⟩ := h; ⟨p, pp, e, fun m => a (s _ m), fun m => b (s _ m), c, d⟩
def listOk (n : Nat) (js : List Int) : Prop := js.Nodup ∧ ∀ j ∈ js, 0 ≤ j ∧ j < n
structure PrOk (n k : Nat) (r : PRow) : Prop where
  idx : r.idx = k
  pars : listOk n r.pars
  l0 : 0 ≤ r.least
  lm : r.least ≤ r.most
  m4 : r.most ≤ 4
  pm : 0 < r.most ↔ r.pars ≠ []
  low : r.least ≠ 0 → ∃ j ∈ r.pars, j < (k : Int)
def PlanOk (n : Nat) (prs : List PRow) : Prop := prs.length = n ∧ ∀ k r, prs[k]? = some r → PrOk n k r
def spLPlan (K : PySem.W.Frag) : Sp := fun vs H Q _ => ∃ (d t : Addr) (n : Nat), vs = [.ref d, .ref t, .int n] ∧ Dr K H d t ∧ n ≤ 26 ∧
  ∀ (prs : List PRow) us p H', PlanOk n prs → Dr K H' d t → But t H H' → H p = none → H' p = some (.lst us) → Paired (PrV [t] H') us prs → Q (.ref p) H'
theorem lst_len {n : Nat} {js : List Int} (h : listOk n js) : js.length ≤ n := by
  have nd : (js.map Int.toNat).Nodup := by
    refine List.pairwise_map.mpr (List.Pairwise.imp_of_mem (fun {a b} ha hb ne e => ne ?_) h.1)
    have := h.2 a ha; have := h.2 b hb; omega
  have sub : ∀ x ∈ js.map Int.toNat, x ∈ List.range n := fun x hx => by
    obtain ⟨j, hj, rfl⟩ := List.mem_map.mp hx
    have := h.2 j hj
    exact List.mem_range.mpr (by omega)
  have := List.Nodup.length_le_of_subset nd sub
  rwa [List.length_map, List.length_range] at this
section
variable {P : Program} {w : World} {K : PySem.W.Frag} {mg : Str → Option Value} {base : Heap}
end
end My

namespace My
open PySem L2
/-! ### rows of a shape with names, as lists or tuples, at addresses of F -/
def seqO (b : Bool) (xs : List V) : HO := if b then .lst xs else .tup xs
def RowN (F : Addr → Prop) (b : Bool) (H : Hp) (v : V) (r : Row) : Prop := ∃ p pp, v = .ref p ∧ F p ∧ F pp ∧ H p = some (seqO b (rowL r pp)) ∧ H pp = some (seqO b (r.pars.map V.str))
abbrev RowsN (F : Addr → Prop) (b : Bool) (H : Hp) (vs : List V) (rs : List Row) : Prop := Paired (RowN F b H) vs rs
theorem RowN.le {F : Addr → Prop} {b : Bool} {H H' : Hp} {v : V} {r : Row} (h : RowN F b H v r) (l : ∀ a o, F a → H a = some o → H' a = some o) : RowN F b H' v r := let ⟨p, pp, e, f, g, x, y⟩ := h; ⟨p, pp, e, f, g, l _ _ f x, l _ _ g y⟩
theorem RowN.sub {F G : Addr → Prop} {b : Bool} {H : Hp} {v : V} {r : Row} (h : RowN F b H v r) (l : ∀ a, F a → G a) : RowN G b H v r := let ⟨p, pp, e, f, g, x, y⟩ := h; ⟨p, pp, e, l _ f, l _ g, x, y⟩
theorem rowsN_le {F : Addr → Prop} {b : Bool} {H H' : Hp} {vs : List V} {rs : List Row} (h : RowsN F b H vs rs) (l : ∀ a o, F a → H a = some o → H' a = some o) : RowsN F b H' vs rs := L2.Paired.mapP h fun _ _ x => x.le l
theorem rowsN_same {F : Addr → Prop} {b : Bool} {H H' : Hp} {vs : List V} {rs : List Row} (h : RowsN F b H vs rs) (s : Same H H') : RowsN F b H' vs rs := rowsN_le h fun a o _ e => s a o e
theorem rowsN_sub {F G : Addr → Prop} {b : Bool} {H : Hp} {vs : List V} {rs : List Row} (h : RowsN F b H vs rs) (l : ∀ a, F a → G a) : RowsN G b H vs rs := L2.Paired.mapP h fun _ _ x => x.sub l
theorem RowN.toV {F : Addr → Prop} {b : Bool} {H : Hp} {v : V} {r : Row} (h : RowN F b H v r) : RowV H v r := by
  obtain ⟨p, pp, e, _, _, x, y⟩ := h
  cases b with
  | true => exact ⟨p, pp, e, .inr x, .inr y⟩
  | false => exact ⟨p, pp, e, .inl x, .inl y⟩
theorem rowsN_toV {F : Addr → Prop} {b : Bool} {H : Hp} {vs : List V} {rs : List Row} (h : RowsN F b H vs rs) : Paired (RowV H) vs rs := L2.Paired.mapP h fun _ _ x => x.toV
abbrev New (H0 : Hp) : Addr → Prop := fun a => H0 a = none
def nm (ms : List Str) (i : Int) : Str := ms.getD i.toNat ""
def nameR (ms : List Str) (r : PRow) : Row := ⟨nm ms r.idx, r.pars.map (nm ms), r.least, r.most, r.sh⟩
def spLNamed (K : PySem.W.Frag) : Sp := fun vs H Q _ => ∃ (a b : Addr) (us : List V) (prs : List PRow) (n : Nat) (ms : List Str), vs = [.ref a, .ref b] ∧ H a = some (.lst us) ∧ Paired (PrV [] H) us prs ∧ PlanOk n prs ∧ n ≤ ms.length ∧ n ≤ 26 ∧ H b = some (.lst (ms.map V.str)) ∧
  ∀ p ws H', Same H H' → H p = none → H' p = some (.lst ws) → RowsN (New H) true H' ws (prs.map (nameR ms)) → Q (.ref p) H'
def spLHanded (K : PySem.W.Frag) : Sp := fun vs H Q _ => ∃ (a : Addr) (b : Bool) (us : List V) (rs : List Row), vs = [.ref a, .bl b] ∧ H a = some (.lst us) ∧ RowsN (fun _ => True) true H us rs ∧ us.length ≤ 100 ∧
  ∀ p ws H', Same H H' → H p = none → H' p = some (.lst ws) → RowsN (fun a => H a = none ∧ a ≠ p) b H' ws rs → Q (.ref p) H'
def spLWidth (K : PySem.W.Frag) : Sp := fun vs H Q _ => ∃ (a : Addr) (us : List V) (rs : List Row), vs = [.ref a] ∧ H a = some (.lst us) ∧ RowsN (fun _ => True) true H us rs ∧ Q (.int (widthOf rs)) H
theorem nm_at {ms : List Str} {i : Int} (h0 : 0 ≤ i) (h1 : i < ms.length) : atI (ms.map V.str) i = some (.str (nm ms i)) := by
  obtain ⟨j, rfl⟩ := Int.eq_ofNat_of_zero_le h0
  refine atI_nat ?_
  have hj : j < ms.length := by omega
  unfold nm
  rw [List.getElem?_map, List.getElem?_eq_getElem hj, List.getD_eq_getElem?_getD, Int.toNat_natCast, List.getElem?_eq_getElem hj]
  rfl
theorem named_in {K : PySem.W.Frag} {x0 x3 : Option V} {b p pp : Addr} {xs : List V} {js : List Int} {ms : List Str} {H : Hp} {Q : VK} (hb : H b = some (.lst (ms.map V.str))) (hp : H p = some (.lst xs)) (hx : atI xs 1 = some (.ref pp)) (hpp : H pp = some (.lst (js.map V.int))) (hz : js.length ≤ 1000) (hj : ∀ j ∈ js, 0 ≤ j ∧ j < ms.length)
    (q : ∀ D H', Same H H' → H D = none → H' D = some (.lst ((js.map (nm ms)).map V.str)) → Q (.ref D) H') :
    tLc (iList K (tOp (rIxL K) (tVar 2) (tC (.int 1)))) (gName 3) tYes (tOp (rIxL K) (tVar 1) (tVar 3)) [3] [x0, some (.ref b), some (.ref p), x3] H Q := by
  have big : 100000 < sizeLine := by decide
  refine ⟨_, rfl, _, _, _, _, rfl, rfl, SqL.of hp, hx, pp, rfl, ⟨_, SqL.of hpp⟩, fun E hE => lc_list (K := K) (a := pp) (xs := js.map V.int) (fun i H' => Same H H' ∧ H' E = some (.lst (((js.take i).map (nm ms)).map V.str))) ⟨same_new hE, upd_same⟩ (fun i H' _ h => SqL.of (h.1 _ _ hpp)) ?_ ?_⟩
  · rintro i v H2 hv ⟨s2, h2⟩
    obtain ⟨z, hz', rfl⟩ := get_int hv
    have zok := hj z (List.mem_of_getElem? hz')
    refine ⟨rfl, ?_⟩
    unfold tYes
    refine iteT ⟨_, rfl, _, rfl, _, _, _, _, rfl, rfl, SqL.of (s2 _ _ hb), nm_at zok.1 zok.2, _, h2, ?_, same_mut s2 hE, ?_⟩
    · rw [List.length_map, List.length_map, List.length_take]; omega
    · rw [upd_same, List.take_succ, hz', List.map_append, List.map_append]; rfl
  · rintro H2 ⟨s2, h2⟩
    rw [List.length_map, List.take_length] at h2
    exact q E H2 s2 hE h2
section
variable {P : Program} {w : World} {K : PySem.W.Frag} {mg : Str → Option Value} {base : Heap}
end
end My

namespace My
open PySem L2
/-! ### good shapes, changed -/
def rowOk (r : Row) : Prop := isMk r.mark = true ∧ sizeB r = true ∧ (decide (0 < r.most) == decide (0 < r.pars.length)) = true ∧ r.pars.Nodup
theorem fineB_iff {r : Row} {bs : List Str} : fineB r bs = true ↔ rowOk r ∧ r.mark ∉ bs := by
  unfold fineB rowOk
  simp only [Bool.and_eq_true, Bool.not_eq_true', decide_eq_false_iff_not, decide_eq_true_iff]
  constructor
  · rintro ⟨⟨⟨a, b, c⟩, d⟩, e⟩; exact ⟨⟨a, c, d, e⟩, b⟩
  · rintro ⟨⟨a, c, d, e⟩, b⟩; exact ⟨⟨⟨a, b, c⟩, d⟩, e⟩
theorem nodup_take {l : List Str} : l.Nodup ↔ ∀ (j : Nat) (x : Str), l[j]? = some x → x ∉ l.take j := by
  constructor
  · intro h j x hx m
    obtain ⟨i, hi, e⟩ := List.getElem_of_mem m
    rw [List.length_take] at hi
    rw [List.getElem_take] at e
    obtain ⟨hj, e2⟩ := List.getElem?_eq_some_iff.mp hx
    exact List.pairwise_iff_getElem.mp h i j (by omega) hj (by omega) (e.trans e2.symm)
  · intro h
    refine List.pairwise_iff_getElem.mpr fun i j hi hj hij e => h j _ (List.getElem?_eq_getElem hj) ?_
    rw [← e]
    exact List.mem_iff_getElem.mpr ⟨i, by rw [List.length_take]; omega, by rw [List.getElem_take]⟩
structure GoodC (rs : List Row) : Prop where
  len : rs.length ≤ 6
  nd : (mks rs).Nodup
  row : ∀ r ∈ rs, rowOk r
  pars : ∀ q ∈ rs, parsOk rs q
  fert : ∀ q ∈ rs, Fert rs q.mark
theorem mks_take (rs : List Row) (j : Nat) : mks (rs.take j) = (mks rs).take j := List.map_take ..
theorem Good.c {rs : List Row} (g : Good rs) : GoodC rs := by
  refine ⟨g.len, nodup_take.mpr fun j x hx m => ?_, fun r hr => ?_, g.pars, g.fert⟩
  · unfold mks at hx
    rw [List.getElem?_map] at hx
    cases e : rs[j]? with
    | none => rw [e] at hx; cases hx
    | some r =>
      rw [e] at hx
      have e2 := (fineB_iff.mp (g.fine j r e)).2
      rw [mks_take, show r.mark = x from Option.some.inj hx] at e2
      exact e2 m
  · obtain ⟨j, hj⟩ := List.mem_iff_getElem?.mp hr
    exact (fineB_iff.mp (g.fine j r hj)).1
theorem GoodC.g {rs : List Row} (g : GoodC rs) : Good rs := by
  refine ⟨g.len, fun j r hr => fineB_iff.mpr ⟨g.row r (List.mem_of_getElem? hr), ?_⟩, g.pars, g.fert⟩
  rw [mks_take]
  refine nodup_take.mp g.nd j _ ?_
  unfold mks
  rw [List.getElem?_map, hr]; rfl
theorem Fert.mono {rs ts : List Row} (h : ∀ r ∈ rs, ∃ q ∈ ts, q.mark = r.mark ∧ q.least = r.least ∧ q.pars = r.pars) {m : Str} (f : Fert rs m) : Fert ts m := by
  induction f with
  | @base r hr e =>
    obtain ⟨q, hq, a, b, _⟩ := h r hr
    exact a ▸ .base hq (b.trans e)
  | @step r p hr hp _ ih =>
    obtain ⟨q, hq, a, _, c⟩ := h r hr
    exact a ▸ .step hq (c ▸ hp) ih
theorem GoodC.alike {rs ts : List Row} (g : GoodC rs) (hl : ts.length ≤ 6) (nd : (mks ts).Nodup) (a : ∀ q ∈ ts, rowOk q ∧ ∃ r ∈ rs, q.mark = r.mark ∧ q.pars = r.pars) (b : ∀ r ∈ rs, ∃ q ∈ ts, q.mark = r.mark ∧ q.least = r.least ∧ q.pars = r.pars) : GoodC ts := by
  refine ⟨hl, nd, fun q hq => (a q hq).1, fun q hq p hp => ?_, fun q hq => ?_⟩
  · obtain ⟨r, hr, _, e⟩ := (a q hq).2
    obtain ⟨r2, hr2, e2⟩ := List.mem_map.mp (g.pars r hr p (e ▸ hp))
    obtain ⟨q2, hq2, e3, _⟩ := b r2 hr2
    exact List.mem_map.mpr ⟨q2, hq2, e3.trans e2⟩
  · obtain ⟨r, hr, e, _⟩ := (a q hq).2
    rw [e]
    exact (g.fert r hr).mono b
theorem set_marks {rs : List Row} {i : Nat} {r q : Row} (h : rs[i]? = some r) (e : q.mark = r.mark) : mks (rs.set i q) = mks rs := by
  unfold mks
  rw [List.map_set, e]
  refine List.ext_getElem? fun j => ?_
  rw [List.getElem?_set]
  split
  · rename_i c; subst c
    rw [List.getElem?_map, h]
    have := (List.getElem?_eq_some_iff.mp h).1
    simp [this]
  · rfl
theorem GoodC.put {rs : List Row} (g : GoodC rs) {i : Nat} {r q : Row} (h : rs[i]? = some r) (e : q.mark = r.mark) (el : q.least = r.least) (ep : q.pars = r.pars) (ok : rowOk q) : GoodC (rs.set i q) := by
  have hi := (List.getElem?_eq_some_iff.mp h).1
  have mq : q ∈ rs.set i q := List.mem_iff_getElem?.mpr ⟨i, by rw [List.getElem?_set]; simp [hi]⟩
  refine g.alike (by rw [List.length_set]; exact g.len) (by rw [set_marks h e]; exact g.nd) (fun x hx => ?_) (fun x hx => ?_)
  · rcases List.mem_or_eq_of_mem_set hx with hx | hx
    · exact ⟨g.row x hx, x, hx, rfl, rfl⟩
    · subst hx; exact ⟨ok, r, List.mem_of_getElem? h, e, ep⟩
  · obtain ⟨j, hj⟩ := List.mem_iff_getElem?.mp hx
    by_cases c : i = j
    · subst c
      rw [h] at hj
      obtain rfl := Option.some.inj hj
      exact ⟨q, mq, e, el, ep⟩
    · exact ⟨x, List.mem_iff_getElem?.mpr ⟨j, by rw [List.getElem?_set, if_neg c]; exact hj⟩, rfl, rfl, rfl⟩
theorem GoodC.swap {rs : List Row} (g : GoodC rs) {i : Nat} {r q : Row} (h : rs[i]? = some r) (h0 : rs[0]? = some q) : GoodC ((rs.set i q).set 0 r) := by
  obtain ⟨hi, ei⟩ := List.getElem?_eq_some_iff.mp h
  obtain ⟨hz, ez⟩ := List.getElem?_eq_some_iff.mp h0
  have sub : ∀ x, x ∈ (rs.set i q).set 0 r → x ∈ rs := fun x hx => by
    rcases List.mem_or_eq_of_mem_set hx with hx | hx
    · rcases List.mem_or_eq_of_mem_set hx with hx | hx
      · exact hx
      · subst hx; exact List.mem_of_getElem? h0
    · subst hx; exact List.mem_of_getElem? h
  have sup : ∀ x, x ∈ rs → x ∈ (rs.set i q).set 0 r := fun x hx => by
    obtain ⟨j, hj⟩ := List.mem_iff_getElem?.mp hx
    by_cases c : j = i
    · subst c
      rw [h] at hj
      obtain rfl := Option.some.inj hj
      exact List.mem_iff_getElem?.mpr ⟨0, by rw [List.getElem?_set]; simp [hz]⟩
    by_cases c0 : j = 0
    · subst c0
      rw [h0] at hj
      obtain rfl := Option.some.inj hj
      refine List.mem_iff_getElem?.mpr ⟨i, ?_⟩
      rw [List.getElem?_set, if_neg (fun z => c z), List.getElem?_set]
      simp [hi]
    · exact List.mem_iff_getElem?.mpr ⟨j, by rw [List.getElem?_set, if_neg (fun z => c0 z.symm), List.getElem?_set, if_neg (fun z => c z.symm)]; exact hj⟩
  refine g.alike (by rw [List.length_set, List.length_set]; exact g.len) ?_ (fun x hx => ⟨g.row x (sub x hx), x, sub x hx, rfl, rfl⟩) (fun x hx => ⟨x, sup x hx, rfl, rfl, rfl⟩)
  have inj : ∀ a b (ha : a < rs.length) (hb : b < rs.length), rs[a].mark = rs[b].mark → a = b := fun a b ha hb e => by
    have n := List.pairwise_iff_getElem.mp g.nd
    unfold mks at n
    rcases Nat.lt_trichotomy a b with c | c | c
    · exact absurd (by rw [List.getElem_map, List.getElem_map]; exact e) (n a b (by rw [List.length_map]; exact ha) (by rw [List.length_map]; exact hb) c)
    · exact c
    · exact absurd (by rw [List.getElem_map, List.getElem_map]; exact e.symm) (n b a (by rw [List.length_map]; exact hb) (by rw [List.length_map]; exact ha) c)
  refine List.pairwise_iff_getElem.mpr fun a b ha hb hab e => ?_
  unfold mks at ha hb e
  rw [List.length_map, List.length_set, List.length_set] at ha hb
  rw [List.getElem_map, List.getElem_map] at e
  simp only [List.getElem_set] at e
  subst ei ez
  have i0 := inj
  split at e <;> split at e <;> (try split at e) <;> (try split at e) <;> first | omega | (have := inj _ _ _ _ e; omega)
theorem GoodC.add {rs : List Row} (g : GoodC rs) {z : Str} (hl : rs.length < 6) (hz : isMk z = true) (nz : z ∉ mks rs) : GoodC (rs ++ [⟨z, [], 0, 0, false⟩]) := by
  have em : mks (rs ++ [⟨z, [], 0, 0, false⟩]) = mks rs ++ [z] := by unfold mks; rw [List.map_append]; rfl
  refine ⟨by rw [List.length_append]; simp; omega, ?_, fun r hr => ?_, fun r hr p hp => ?_, fun r hr => ?_⟩
  · rw [em, List.nodup_append]
    exact ⟨g.nd, by simp, fun a ha b hb e => nz (by rw [List.mem_singleton] at hb; rw [← hb, ← e]; exact ha)⟩
  · rcases List.mem_append.mp hr with hr | hr
    · exact g.row r hr
    · rw [List.mem_singleton.mp hr]; exact ⟨hz, rfl, rfl, List.nodup_nil⟩
  · rcases List.mem_append.mp hr with hr | hr
    · rw [em]; exact List.mem_append_left _ (g.pars r hr p hp)
    · rw [List.mem_singleton.mp hr] at hp; cases hp
  · rcases List.mem_append.mp hr with hr | hr
    · exact (g.fert r hr).mono fun q hq => ⟨q, List.mem_append_left _ hq, rfl, rfl, rfl⟩
    · rw [List.mem_singleton.mp hr]
      exact Fert.base (r := ⟨z, [], 0, 0, false⟩) (List.mem_append_right _ (List.mem_singleton.mpr rfl)) rfl
def renS (o z m : Str) : Str := if m = o then z else m
def renR (o z : Str) (r : Row) : Row := ⟨renS o z r.mark, r.pars.map (renS o z), r.least, r.most, r.sh⟩
theorem renS_inj {o z : Str} {l : List Str} (nz : z ∉ l) {a b : Str} (ha : a ∈ l) (hb : b ∈ l) (e : renS o z a = renS o z b) : a = b := by
  unfold renS at e
  by_cases c : a = o <;> by_cases d : b = o
  · rw [c, d]
  · rw [if_pos c, if_neg d] at e; rw [← e] at hb; exact absurd hb nz
  · rw [if_neg c, if_pos d] at e; rw [e] at ha; exact absurd ha nz
  · rw [if_neg c, if_neg d] at e; exact e
theorem nodup_ren {o z : Str} {l m : List Str} (nz : z ∉ m) (s : ∀ a ∈ l, a ∈ m) (h : l.Nodup) : (l.map (renS o z)).Nodup :=
  List.pairwise_map.mpr (List.Pairwise.imp_of_mem (fun {a b} ha hb ne e => ne (renS_inj nz (s a ha) (s b hb) e)) h)
theorem GoodC.ren {rs : List Row} (g : GoodC rs) {o z : Str} (hz : isMk z = true) (nz : z ∉ mks rs) : GoodC (rs.map (renR o z)) := by
  have em : mks (rs.map (renR o z)) = (mks rs).map (renS o z) := by unfold mks; rw [List.map_map, List.map_map]; rfl
  refine ⟨by rw [List.length_map]; exact g.len, by rw [em]; exact nodup_ren nz (fun _ h => h) g.nd, fun q hq => ?_, fun q hq p hp => ?_, fun q hq => ?_⟩
  · obtain ⟨r, hr, rfl⟩ := List.mem_map.mp hq
    obtain ⟨a, b, c, d⟩ := g.row r hr
    refine ⟨?_, b, ?_, nodup_ren nz (g.pars r hr) d⟩
    · show isMk (renS o z r.mark) = true
      unfold renS; split
      · exact hz
      · exact a
    · show (decide (0 < r.most) == decide (0 < (r.pars.map (renS o z)).length)) = true
      rw [List.length_map]; exact c
  · obtain ⟨r, hr, rfl⟩ := List.mem_map.mp hq
    obtain ⟨y, hy, rfl⟩ := List.mem_map.mp hp
    rw [em]
    exact List.mem_map.mpr ⟨y, g.pars r hr y hy, rfl⟩
  · obtain ⟨r, hr, rfl⟩ := List.mem_map.mp hq
    have k : ∀ {m}, Fert rs m → Fert (rs.map (renR o z)) (renS o z m) := fun f => by
      induction f with
      | @base r hr e => exact Fert.base (r := renR o z r) (List.mem_map.mpr ⟨r, hr, rfl⟩) e
      | @step r p hr hp _ ih => exact Fert.step (r := renR o z r) (List.mem_map.mpr ⟨r, hr, rfl⟩) (List.mem_map.mpr ⟨p, hp, rfl⟩) ih
    exact k (g.fert r hr)
/-- drawn rows with drawn marks -/
theorem good_named {n : Nat} {prs : List PRow} {ms : List Str} (ok : PlanOk n prs) (h6 : n ≤ 6) (hn : n ≤ ms.length) (nd : ms.Nodup) (hm : ∀ m ∈ ms, isMk m = true) : GoodC (prs.map (nameR ms)) := by
  have nmi : ∀ {i : Int}, 0 ≤ i → i < n → nm ms i ∈ ms := fun {i} h0 h1 => by
    unfold nm
    rw [List.getD_eq_getElem?_getD, List.getElem?_eq_getElem (by omega)]
    exact List.getElem_mem _
  have inj : ∀ {i j : Int}, 0 ≤ i → i < n → 0 ≤ j → j < n → nm ms i = nm ms j → i = j := fun {i j} a b c d e => by
    unfold nm at e
    rw [List.getD_eq_getElem?_getD, List.getD_eq_getElem?_getD, List.getElem?_eq_getElem (by omega), List.getElem?_eq_getElem (by omega)] at e
    have e : ms[i.toNat]'(by omega) = ms[j.toNat]'(by omega) := e
    have p := List.pairwise_iff_getElem.mp nd
    rcases Nat.lt_trichotomy i.toNat j.toNat with q | q | q
    · exact absurd e (p _ _ (by omega) (by omega) q)
    · omega
    · exact absurd e.symm (p _ _ (by omega) (by omega) q)
  have at_ : ∀ {k : Nat} {r : PRow}, prs[k]? = some r → k < n := fun h => by have := (List.getElem?_eq_some_iff.mp h).1; have := ok.1; omega
  have row : ∀ {j : Int}, 0 ≤ j → j < n → ∃ r, prs[j.toNat]? = some r ∧ (nameR ms r).mark = nm ms j := fun {j} a b => by
    have hj : j.toNat < prs.length := by rw [ok.1]; omega
    refine ⟨prs[j.toNat], List.getElem?_eq_getElem hj, ?_⟩
    have := (ok.2 _ _ (List.getElem?_eq_getElem hj)).idx
    show nm ms (prs[j.toNat]).idx = _
    rw [this, show ((j.toNat : Nat) : Int) = j by omega]
  refine ⟨by rw [List.length_map, ok.1]; exact h6, ?_, fun q hq => ?_, fun q hq p hp => ?_, fun q hq => ?_⟩
  · refine List.pairwise_iff_getElem.mpr fun a b ha hb hab e => ?_
    unfold mks at ha hb e
    rw [List.length_map, List.length_map] at ha hb
    simp only [List.getElem_map] at e
    have ia := (ok.2 a _ (List.getElem?_eq_getElem ha)).idx
    have ib := (ok.2 b _ (List.getElem?_eq_getElem hb)).idx
    have ka := at_ (List.getElem?_eq_getElem ha)
    have kb := at_ (List.getElem?_eq_getElem hb)
    have e : nm ms prs[a].idx = nm ms prs[b].idx := e
    have := inj (by omega) (by omega) (by omega) (by omega) e
    omega
  · obtain ⟨r, hr, rfl⟩ := List.mem_map.mp hq
    obtain ⟨k, hk⟩ := List.mem_iff_getElem?.mp hr
    have o := ok.2 k r hk
    have kn := at_ hk
    refine ⟨hm _ (nmi (by rw [o.idx]; omega) (by rw [o.idx]; omega)), ?_, ?_, ?_⟩
    · show (decide (0 ≤ r.least) && (decide (r.least ≤ r.most) && decide (r.most ≤ 4))) = true
      rw [decide_eq_true o.l0, decide_eq_true o.lm, decide_eq_true o.m4]; rfl
    · show (decide (0 < r.most) == decide (0 < (r.pars.map (nm ms)).length)) = true
      rw [List.length_map, beq_iff_eq]
      refine decide_eq_decide.mpr (o.pm.trans ?_)
      rw [List.length_pos_iff]
    · exact List.pairwise_map.mpr (List.Pairwise.imp_of_mem (fun {a b} ha hb ne e => ne (inj (o.pars.2 a ha).1 (o.pars.2 a ha).2 (o.pars.2 b hb).1 (o.pars.2 b hb).2 e)) o.pars.1)
  · obtain ⟨r, hr, rfl⟩ := List.mem_map.mp hq
    obtain ⟨k, hk⟩ := List.mem_iff_getElem?.mp hr
    obtain ⟨j, hj, rfl⟩ := List.mem_map.mp hp
    have o := (ok.2 k r hk).pars.2 j hj
    obtain ⟨r2, h2, e2⟩ := row o.1 o.2
    exact List.mem_map.mpr ⟨nameR ms r2, List.mem_map.mpr ⟨r2, List.mem_of_getElem? h2, rfl⟩, e2⟩
  · obtain ⟨r, hr, rfl⟩ := List.mem_map.mp hq
    obtain ⟨k, hk⟩ := List.mem_iff_getElem?.mp hr
    have all : ∀ (k : Nat) (r : PRow), prs[k]? = some r → Fert (prs.map (nameR ms)) (nameR ms r).mark := by
      intro k
      induction k using Nat.strongRecOn with
      | ind k ih =>
        intro r hk
        have o := ok.2 k r hk
        have mr : nameR ms r ∈ prs.map (nameR ms) := List.mem_map.mpr ⟨r, List.mem_of_getElem? hk, rfl⟩
        by_cases c : r.least = 0
        · exact Fert.base (r := nameR ms r) mr c
        · obtain ⟨j, hj, lt⟩ := o.low c
          have oj := o.pars.2 j hj
          obtain ⟨r2, h2, e2⟩ := row oj.1 oj.2
          have f := ih j.toNat (by omega) r2 h2
          rw [e2] at f
          exact Fert.step (r := nameR ms r) mr (List.mem_map.mpr ⟨j, hj, rfl⟩) f
    exact all k r hk
end My

namespace My
open PySem L2
theorem due_good {rs : List Row} (g : Good rs) {e : SErr} (h : Due rs e) : False := by
  cases h with
  | large h => have := g.len; omega
  | row _ hr _ hb => rw [g.fine _ _ hr] at hb; cases hb
  | par _ _ hr hp _ _ n => exact n (g.pars _ (List.mem_of_getElem? hr) _ (List.mem_of_getElem? hp))
  | lost _ _ _ hr _ n => exact n (g.fert _ (List.mem_of_getElem? hr))
end My

namespace My
open PySem L2
/-! ### the levels -/
def lev : List Str := ["none", "one", "most", "all"]
def levV : List V := [.str "none", .str "one", .str "most", .str "all"]
theorem levV_eq : levV = lev.map V.str := rfl
theorem lev_nd : lev.Nodup := by decide +kernel
theorem lev_inj {i j : Nat} {z : Str} (h : lev[i]? = some z) (h' : lev[j]? = some z) : i = j := nd_ix lev_nd h h'
theorem lev_lt {i : Nat} {z : Str} (h : lev[i]? = some z) : i < 4 := (List.getElem?_eq_some_iff.mp h).1
/-- what level i asks of n parents -/
def need (i : Nat) (n : Int) : Int := if i = 0 then 0 else if i = 1 then 1 else if i = 2 then n / 2 + 1 else if n > 1 then n else 1
/-- the place of a word, or -1 -/
def placeOf (z : Str) : Int := if z = "none" then 0 else if z = "one" then 1 else if z = "most" then 2 else if z = "all" then 3 else -1
theorem place_lev {i : Nat} {z : Str} (h : lev[i]? = some z) : placeOf z = i := by
  have hi := lev_lt h
  rcases (by omega : i = 0 ∨ i = 1 ∨ i = 2 ∨ i = 3) with rfl | rfl | rfl | rfl
  all_goals (obtain rfl : _ = z := Option.some.inj h; decide +kernel)
theorem lev_at {i : Nat} (h : i < 4) : ∃ z, lev[i]? = some z := ⟨lev[i]'h, List.getElem?_eq_getElem h⟩
def permB (a b c : Nat) (e : Bool) (h o s n : Int) (l : Bool) : Bool := !(e && l) && (decide (need a n ≤ h) && (decide (need b n ≤ o) && decide (need c n ≤ s)))
end My

namespace My
open PySem L2
/-- rank of a level -/
def spRank : Sp := fun vs H Q _ => ∃ (z : Str) (i : Nat), vs = [.str z] ∧ lev[i]? = some z ∧ ∀ H', Same H H' → Q (.int i) H'
section
variable {P : Program} {w : World} {K : PySem.W.Frag} {mg : Str → Option Value} {base : Heap}
theorem ok_rank (T : Txt K mg) : FnOk P w K mg base CX0 1 T.a_rank T.fd_rank ["level"] spRank := by
  refine T.F_rank.ok sc_rank (fun vs H Q E h => ?_) (fun cdv A outer s H vs Q E hr h => ?_)
  · obtain ⟨z, i, rfl, _⟩ := h; rfl
  · obtain ⟨z, i, rfl, hi, q⟩ := h
    refine ⟨_, (pss_cons (ps_for PassesOwn.never rfl (pi_enumT (by rfl) T.n_enumerate (pa_cons (pe_glob (v := .ref T.k_LEVELS) (by rfl) T.g_LEVELS rfl) pa_nil)) (pg_tup rfl (pgs_cons (pg_name (i := 1) sc_rank.nd rfl (.inl rfl)) (pgs_cons (pg_name (i := 2) sc_rank.nd rfl (.inl rfl)) pgs_nil))) (pss_one (ps_if (pt_cmpR op_eq (pv 2) (pv 0) (nomark _)) (pss_one (ps_ret (pv 1))) pss_nil)))
      (pss_one (ps_never))), ?_⟩
    refine ⟨T.k_LEVELS, levV, rfl, T.q_LEVELS _, for_enumT (K := K) (a := T.k_LEVELS) (xs := levV) (fun j σ H' => ∃ x1 x2, σ = [some (.str z), x1, x2] ∧ Same H H' ∧ ∀ l, l < j → l ≠ i) ⟨_, _, rfl, Same.refl H, fun l h => absurd h (Nat.not_lt_zero _)⟩ (fun _ _ H' _ _ => T.q_LEVELS H') ?_ ?_⟩
    · rintro j x σ H1 t hx ⟨x1, x2, rfl, s1, ne⟩ ht
      rw [levV_eq, List.getElem?_map] at hx
      cases e : lev[j]? with
      | none => rw [e] at hx; cases hx
      | some y =>
        rw [e] at hx
        obtain rfl : V.str y = x := Option.some.inj hx
        have s2 : Same H1 (upd H1 t (.tup [.int j, .str y])) := same_new ht
        refine ⟨t, _, rfl, .inl (.inl upd_same), rfl, _, _, rfl, _, _, rfl, rfl, ?_⟩
        refine ⟨_, rfl, _, rfl, rfl, _, rfl, ?_⟩
        refine iteD (fun c => ?_) (fun c => ?_)
        · have ey : y = z := V.str.inj c
          subst ey
          obtain rfl := lev_inj e hi
          exact ⟨_, rfl, q _ (s1.trans s2)⟩
        · refine ⟨_, _, rfl, s1.trans s2, fun l hl => ?_⟩
          rcases Nat.lt_succ_iff_lt_or_eq.mp hl with h | h
          · exact ne l h
          · subst h
            exact fun h => c (by rw [← h, e] at hi; rw [Option.some.inj hi])
    · rintro σ H1 ⟨x1, x2, rfl, s1, ne⟩
      exact ne i (lev_lt hi) rfl
end
end My

namespace My
open PySem L2
/-! ### ways -/
def levn (i : Nat) : Str := lev.getD i ""
theorem levn_get {i : Nat} (h : i < 4) : lev[i]? = some (levn i) := by
  unfold levn
  rw [List.getD_eq_getElem?_getD, List.getElem?_eq_getElem (by exact h)]
  rfl
theorem levV_at {i : Nat} (h : i < 4) : levV[i]? = some (.str (levn i)) := by rw [levV_eq, List.getElem?_map, levn_get h]; rfl
theorem levn_inj {i j : Nat} (hi : i < 4) (hj : j < 4) (h : levn i = levn j) : i = j := lev_inj (levn_get hi) (h ▸ levn_get hj)
def wayF (a b c : Nat) (e : Bool) : List (Str × V) := [("held", .str (levn a)), ("owned", .str (levn b)), ("seen", .str (levn c)), ("early", .bl e)]
theorem putF_len (f : Str) (v : V) : ∀ fs : List (Str × V), (putF f v fs).length ≤ fs.length + 1
  | [] => Nat.le_refl _
  | (g, x) :: r => by
    simp only [putF]
    split
    · exact Nat.le_succ _
    · rw [List.length_cons, List.length_cons]
      exact Nat.succ_le_succ (putF_len f v r)
theorem wayF_put (a b c : Nat) (e : Bool) : putF "early" (.bl e) (putF "seen" (.str (levn c)) (putF "owned" (.str (levn b)) (putF "held" (.str (levn a)) []))) = wayF a b c e := by
  simp only [putF]
  rw [if_neg (by decide +kernel : ¬ ("held" : Str) = "owned")]
  simp only [putF]
  rw [if_neg (by decide +kernel : ¬ ("held" : Str) = "seen"), if_neg (by decide +kernel : ¬ ("owned" : Str) = "seen")]
  simp only [putF]
  rw [if_neg (by decide +kernel : ¬ ("held" : Str) = "early"), if_neg (by decide +kernel : ¬ ("owned" : Str) = "early"), if_neg (by decide +kernel : ¬ ("seen" : Str) = "early")]
  rfl
theorem wayF_held (a b c : Nat) (e : Bool) : (wayF a b c e).lookup ("held" : Str) = some (.str (levn a)) := by rw [← wayF_put, lookup_putF, if_neg (by decide +kernel), lookup_putF, if_neg (by decide +kernel), lookup_putF, if_neg (by decide +kernel), lookup_putF, if_pos rfl]
theorem wayF_owned (a b c : Nat) (e : Bool) : (wayF a b c e).lookup ("owned" : Str) = some (.str (levn b)) := by rw [← wayF_put, lookup_putF, if_neg (by decide +kernel), lookup_putF, if_neg (by decide +kernel), lookup_putF, if_pos rfl]
theorem wayF_seen (a b c : Nat) (e : Bool) : (wayF a b c e).lookup ("seen" : Str) = some (.str (levn c)) := by rw [← wayF_put, lookup_putF, if_neg (by decide +kernel), lookup_putF, if_pos rfl]
theorem wayF_early (a b c : Nat) (e : Bool) : (wayF a b c e).lookup ("early" : Str) = some (.bl e) := by rw [← wayF_put, lookup_putF, if_pos rfl]
theorem wayF_no (a b c : Nat) (e : Bool) {m : Str} (h1 : ¬ m = "early") (h2 : ¬ m = "seen") (h3 : ¬ m = "owned") (h4 : ¬ m = "held") : (wayF a b c e).lookup m = none := by
  rw [← wayF_put, lookup_putF, if_neg h1, lookup_putF, if_neg h2, lookup_putF, if_neg h3, lookup_putF, if_neg h4]; rfl
/-- a way of the class at C stands at x -/
def Wy (C : Addr) (H : Hp) (x : Addr) (a b c : Nat) (e : Bool) : Prop := ∃ dx, H x = some (.ins C dx (wayF a b c e))
theorem Wy.same {C : Addr} {H H' : Hp} {x : Addr} {a b c : Nat} {e : Bool} (h : Wy C H x a b c e) (s : Same H H') : Wy C H' x a b c e := h.elim fun dx h => ⟨dx, s _ _ h⟩
theorem Wy.but {C : Addr} {H H' : Hp} {x y : Addr} {a b c : Nat} {e : Bool} (h : Wy C H x a b c e) (s : But y H H') (n : x ≠ y) : Wy C H' x a b c e := h.elim fun dx h => ⟨dx, s _ _ n h⟩
def spWayInit (C : Addr) : Sp := fun vs H Q _ => ∃ (x dx : Addr) (a b c : Nat) (e : Bool), vs = [.ref x, .str (levn a), .str (levn b), .str (levn c), .bl e] ∧ a < 4 ∧ b < 4 ∧ c < 4 ∧ H x = some (.ins C dx []) ∧
  ∀ H', But x H H' → H' x = some (.ins C dx (wayF (max a b) b (max c (max a b)) e)) → Q .non H'
section
variable {P : Program} {w : World} {K : PySem.W.Frag} {mg : Str → Option Value} {base : Heap}
theorem ok_Way_init (T : Txt K mg) : FnOk P w K mg base CX0 2 T.a_Way_init T.fd_Way_init ["self", "held", "owned", "seen", "early"] (spWayInit T.c_Way) := by
  refine T.F_Way_init.ok0 sc_Way_init (fun vs H Q E h => ?_) (fun cdv A outer s H vs Q E hr h => ?_)
  · obtain ⟨x, dx, a, b, c, e, rfl, _⟩ := h; rfl
  · obtain ⟨x, dx, a, b, c, e, rfl, ha, hb, hc, hx, q⟩ := h
    refine ⟨_, (pss_cons (ps_set (i := 5) sc_Way_init.nd rfl (.inl rfl) (pe_call (ok_rank T) (hr.mono (by omega)) (by rfl) T.g_rank T.F_rank.kp T.b_rank .nil pass0 (pa_cons (pv 1) pa_nil)))
      (pss_cons (ps_set (i := 6) sc_Way_init.nd rfl (.inl rfl) (pe_call (ok_rank T) (hr.mono (by omega)) (by rfl) T.g_rank T.F_rank.kp T.b_rank .nil pass0 (pa_cons (pv 2) pa_nil)))
      (pss_cons (ps_set (i := 7) sc_Way_init.nd rfl (.inl rfl) (pe_call (ok_rank T) (hr.mono (by omega)) (by rfl) T.g_rank T.F_rank.kp T.b_rank .nil pass0 (pa_cons (pv 3) pa_nil)))
      (C8.pss_cut (ps_if (pt_cmpR op_lt (pv 5) (pv 6) (nomark _)) (pss_one (ps_set (i := 5) sc_Way_init.nd rfl (.inl rfl) (pv 6))) pss_nil)
      (C8.pss_cut (ps_if (pt_cmpR op_lt (pv 7) (pv 5) (nomark _)) (pss_one (ps_set (i := 7) sc_Way_init.nd rfl (.inl rfl) (pv 5))) pss_nil)
      (pss_cons (ps_fld (pv 0) (pe_ix ix_tup (pe_glob (v := .ref T.k_LEVELS) (by rfl) T.g_LEVELS rfl) (pv 5) (fun _ _ => rfl)) rfl)
      (pss_cons (ps_fld (pv 0) (pe_ix ix_tup (pe_glob (v := .ref T.k_LEVELS) (by rfl) T.g_LEVELS rfl) (pv 6) (fun _ _ => rfl)) rfl)
      (pss_cons (ps_fld (pv 0) (pe_ix ix_tup (pe_glob (v := .ref T.k_LEVELS) (by rfl) T.g_LEVELS rfl) (pv 7) (fun _ _ => rfl)) rfl)
      (pss_one (ps_fld (pv 0) (pv 4) rfl)))))))))), ?_⟩
    refine ⟨_, rfl, _, a, rfl, levn_get ha, fun H1 s1 => ?_⟩
    refine ⟨_, rfl, _, b, rfl, levn_get hb, fun H2 s2 => ?_⟩
    refine ⟨_, rfl, _, c, rfl, levn_get hc, fun H3 s3 => ?_⟩
    have sx : Same H H3 := (s1.trans s2).trans s3
    have hx3 := sx _ _ hx
    -- by_held
    refine ⟨fun σ' H' => H' = H3 ∧ σ' = [some (.ref x), some (.str (levn a)), some (.str (levn b)), some (.str (levn c)), some (.bl e), some (.int (max a b : Nat)), some (.int b), some (.int c)], ?_, ?_⟩
    · walk_at "rd"
      refine iteD (fun k => ?_) (fun k => ?_)
      · exact ⟨_, rfl, rfl, by rw [Nat.max_eq_right (by omega)]; try rfl⟩
      · exact ⟨rfl, by rw [Nat.max_eq_left (by omega)]; try rfl⟩
    rintro σ' H' ⟨rfl, rfl⟩
    refine ⟨fun σ' H'' => H'' = H' ∧ σ' = [some (.ref x), some (.str (levn a)), some (.str (levn b)), some (.str (levn c)), some (.bl e), some (.int (max a b : Nat)), some (.int b), some (.int (max c (max a b) : Nat))], ?_, ?_⟩
    · walk_at "rd"
      refine iteD (fun k => ?_) (fun k => ?_)
      · exact ⟨_, rfl, rfl, by rw [Nat.max_eq_right (by omega : c ≤ max a b)]; try rfl⟩
      · exact ⟨rfl, by rw [Nat.max_eq_left (by omega : max a b ≤ c)]; try rfl⟩
    rintro σ' H'' ⟨rfl, rfl⟩
    refine ⟨_, rfl, _, _, _, _, rfl, rfl, T.q_LEVELS _, at_of (j := max a b) rfl (levV_at (by omega)), _, rfl, x, T.c_Way, dx, _, rfl, hx3, T.cl_Way, T.no_Way_held, by show 0 < 1000; decide, ?_⟩
    refine ⟨_, rfl, _, _, _, _, rfl, rfl, T.q_LEVELS _, at_of (j := b) rfl (levV_at hb), _, rfl, x, T.c_Way, dx, _, rfl, upd_same, T.cl_Way, T.no_Way_owned, by show 1 < 1000; decide, ?_⟩
    refine ⟨_, rfl, _, _, _, _, rfl, rfl, T.q_LEVELS _, at_of (j := max c (max a b)) rfl (levV_at (by omega)), _, rfl, x, T.c_Way, dx, _, rfl, upd_same, T.cl_Way, T.no_Way_seen, ?_, ?_⟩
    · exact Nat.lt_of_le_of_lt (putF_len _ _ _) (by show 2 < 1000; decide)
    refine ⟨_, rfl, _, rfl, x, T.c_Way, dx, _, rfl, upd_same, T.cl_Way, T.no_Way_early, ?_, ?_⟩
    · exact Nat.lt_of_le_of_lt (putF_len _ _ _) (Nat.lt_of_le_of_lt (Nat.succ_le_succ (putF_len _ _ _)) (by show 3 < 1000; decide))
    rw [upd_upd, upd_upd, upd_upd, wayF_put]
    exact q _ (fun y o n h => by rw [upd_ne n]; exact sx _ _ h) upd_same
end
end My

namespace My
open PySem L2
/-! ### the law's own ways: ranks and a flag in a list -/
abbrev LwO (a b c : Nat) (e : Bool) : HO := .lst [.int a, .int b, .int c, .bl e]
def Adj (a b c : Nat) : Prop := b ≤ a ∧ a ≤ c ∧ c < 4
def spLWay (K : PySem.W.Frag) : Sp := fun vs H Q _ => ∃ (d t : Addr), vs = [.ref d, .ref t] ∧ Dr K H d t ∧ ∀ (p : Addr) (a b c : Nat) (e : Bool) H', Adj a b c → Dr K H' d t → But t H H' → H p = none → H' p = some (LwO a b c e) → Q (.ref p) H'
def spMade (K : PySem.W.Frag) (C : Addr) : Sp := fun vs H Q _ => ∃ (p : Addr) (a b c : Nat) (e : Bool), vs = [.ref p] ∧ Adj a b c ∧ SqL K H p [.int a, .int b, .int c, .bl e] ∧ ∀ x H', Same H H' → H x = none → Wy C H' x a b c e → Q (.ref x) H'
def spAdj (K : PySem.W.Frag) : Sp := fun vs H Q _ => ∃ (p : Addr) (a b c : Nat) (e : Bool), vs = [.ref p] ∧ a < 4 ∧ b < 4 ∧ c < 4 ∧ SqL K H p [.int a, .int b, .int c, .bl e] ∧ ∀ r, H r = none → Q (.ref r) (upd H r (LwO (max a b) b (max c (max a b)) e))
def spFields (C : Addr) : Sp := fun vs H Q _ => ∃ (x : Addr) (a b c : Nat) (e : Bool), vs = [.ref x] ∧ Wy C H x a b c e ∧ ∀ r, H r = none → Q (.ref r) (upd H r (.lst [.str (levn a), .str (levn b), .str (levn c), .bl e]))
def spWords (K : PySem.W.Frag) : Sp := fun vs H Q _ => ∃ (p : Addr) (a b c : Nat) (e : Bool), vs = [.ref p] ∧ a < 4 ∧ b < 4 ∧ c < 4 ∧ SqL K H p [.int a, .int b, .int c, .bl e] ∧ ∀ r H', Same H H' → H r = none → H' r = some (.lst [.str (levn a), .str (levn b), .str (levn c), .bl e]) → Q (.ref r) H'
def spSecond (K : PySem.W.Frag) : Sp := fun vs H Q _ => ∃ (d t f : Addr) (a b c : Nat) (e : Bool), vs = [.ref d, .ref t, .ref f] ∧ Dr K H d t ∧ Adj a b c ∧ f ≠ t ∧ H f = some (LwO a b c e) ∧ ∀ (p : Addr) (a b c : Nat) (e : Bool) H', Adj a b c → Dr K H' d t → But t H H' → H p = none → H' p = some (LwO a b c e) → Q (.ref p) H'
section
variable {P : Program} {w : World} {K : PySem.W.Frag} {mg : Str → Option Value} {base : Heap}
theorem ok__law_way (T : Txt K mg) : FnOk P w K mg base CX0 2 T.a__law_way T.fd__law_way ["_law_draws_here", "_law_at"] (spLWay K) := by
  refine T.F__law_way.ok sc__law_way (fun vs H Q E h => ?_) (fun cdv A outer s H vs Q E hr h => ?_)
  · obtain ⟨d, t, rfl, _⟩ := h; rfl
  · obtain ⟨d, t, rfl, D, q⟩ := h
    refine ⟨_, (pss_cons (ps_set (i := 2) sc__law_way.nd rfl (.inl rfl) (pe_lst (pa_cons (pe_lst (pa_cons (pe_int) (pa_cons (pe_int) (pa_cons (pe_int) (pa_cons (pe_bl) pa_nil))))) (pa_cons (pe_lst (pa_cons (pe_int) (pa_cons (pe_int) (pa_cons (pe_int) (pa_cons (pe_bl) pa_nil))))) (pa_cons (pe_lst (pa_cons (pe_int) (pa_cons (pe_int) (pa_cons (pe_int) (pa_cons (pe_bl) pa_nil))))) (pa_cons (pe_lst (pa_cons (pe_int) (pa_cons (pe_int) (pa_cons (pe_int) (pa_cons (pe_bl) pa_nil))))) (pa_cons (pe_lst (pa_cons (pe_int) (pa_cons (pe_int) (pa_cons (pe_int) (pa_cons (pe_bl) pa_nil))))) pa_nil)))))))
      (pss_cons (ps_set (i := 3) sc__law_way.nd rfl (.inl rfl) (pe_call (ok__law_take T) (hr.mono (by omega)) (by rfl) T.g__law_take T.F__law_take.kp T.b__law_take .nil pass0 (pa_cons (pv 0) (pa_cons (pv 1) (pa_cons (pe_int) pa_nil)))))
      (pss_cons (ps_if (pt_cmpR op_lt (pv 3) (pe_int) (nomark _)) (pss_one (ps_ret (pe_ix ix_list (pv 2) (pv 3) (fun _ _ => rfl)))) pss_nil)
      (pss_cons (ps_set (i := 4) sc__law_way.nd rfl (.inl rfl) (pe_call (ok__law_take T) (hr.mono (by omega)) (by rfl) T.g__law_take T.F__law_take.kp T.b__law_take .nil pass0 (pa_cons (pv 0) (pa_cons (pv 1) (pa_cons (pe_int) pa_nil)))))
      (pss_cons (ps_set (i := 5) sc__law_way.nd rfl (.inl rfl) (pe_op op_add (pv 4) (pe_call (ok__law_take T) (hr.mono (by omega)) (by rfl) T.g__law_take T.F__law_take.kp T.b__law_take .nil pass0 (pa_cons (pv 0) (pa_cons (pv 1) (pa_cons (pe_op op_sub (pe_int) (pv 4)) pa_nil))))))
      (pss_cons (ps_set (i := 6) sc__law_way.nd rfl (.inl rfl) (pe_op op_add (pv 5) (pe_call (ok__law_take T) (hr.mono (by omega)) (by rfl) T.g__law_take T.F__law_take.kp T.b__law_take .nil pass0 (pa_cons (pv 0) (pa_cons (pv 1) (pa_cons (pe_op op_sub (pe_int) (pv 5)) pa_nil))))))
      (pss_one (ps_ret (pe_lst (pa_cons (pv 5) (pa_cons (pv 4) (pa_cons (pv 6) (pa_cons (pe_cmpR op_eq (pe_call (ok__law_take T) (hr.mono (by omega)) (by rfl) T.g__law_take T.F__law_take.kp T.b__law_take .nil pass0 (pa_cons (pv 0) (pa_cons (pv 1) (pa_cons (pe_int) pa_nil)))) (pe_int) (nomark _)) pa_nil))))))))))))), ?_⟩
    refine ⟨by show 4 ≤ sizeLine; decide, fun p1 n1 => ⟨by show 4 ≤ sizeLine; decide, fun p2 n2 => ⟨by show 4 ≤ sizeLine; decide, fun p3 n3 => ⟨by show 4 ≤ sizeLine; decide, fun p4 n4 => ⟨by show 4 ≤ sizeLine; decide, fun p5 n5 => ⟨by show 5 ≤ sizeLine; decide, fun pm nm => ?_⟩⟩⟩⟩⟩⟩
    have s1 := same_new (o := LwO 1 1 1 false) n1
    have s2 := same_new (o := LwO 2 2 2 false) n2
    have s3 := same_new (o := LwO 1 1 3 false) n3
    have s4 := same_new (o := LwO 0 0 0 true) n4
    have s5 := same_new (o := LwO 1 0 1 false) n5
    have s6 := same_new (o := .lst [.ref p1, .ref p2, .ref p3, .ref p4, .ref p5]) nm
    have g1 := s6 _ _ (s5 _ _ (s4 _ _ (s3 _ _ (s2 _ _ (upd_same (H := H) (a := p1) (o := LwO 1 1 1 false))))))
    have g2 := s6 _ _ (s5 _ _ (s4 _ _ (s3 _ _ (upd_same (H := upd H p1 (LwO 1 1 1 false)) (a := p2) (o := LwO 2 2 2 false)))))
    have g3 := s6 _ _ (s5 _ _ (s4 _ _ (upd_same (H := upd (upd H p1 (LwO 1 1 1 false)) p2 (LwO 2 2 2 false)) (a := p3) (o := LwO 1 1 3 false))))
    have g4 := s6 _ _ (s5 _ _ (upd_same (H := upd (upd (upd H p1 (LwO 1 1 1 false)) p2 (LwO 2 2 2 false)) p3 (LwO 1 1 3 false)) (a := p4) (o := LwO 0 0 0 true)))
    have g5 := s6 _ _ (upd_same (H := upd (upd (upd (upd H p1 (LwO 1 1 1 false)) p2 (LwO 2 2 2 false)) p3 (LwO 1 1 3 false)) p4 (LwO 0 0 0 true)) (a := p5) (o := LwO 1 0 1 false))
    have gm := upd_same (H := upd (upd (upd (upd (upd H p1 (LwO 1 1 1 false)) p2 (LwO 2 2 2 false)) p3 (LwO 1 1 3 false)) p4 (LwO 0 0 0 true)) p5 (LwO 1 0 1 false)) (a := pm) (o := .lst [.ref p1, .ref p2, .ref p3, .ref p4, .ref p5])
    have sA : Same H _ := ((((s1.trans s2).trans s3).trans s4).trans s5).trans s6
    have f2 := s1.free n2
    have f3 := (s1.trans s2).free n3
    have f4 := ((s1.trans s2).trans s3).free n4
    have f5 := (((s1.trans s2).trans s3).trans s4).free n5
    have D1 := D.same sA
    have nmt : pm ≠ t := D.na ((((((s1.trans s2).trans s3).trans s4).trans s5)).free nm)
    revert g1 g2 g3 g4 g5 gm sA D1
    generalize upd (upd (upd (upd (upd (upd H p1 (LwO 1 1 1 false)) p2 (LwO 2 2 2 false)) p3 (LwO 1 1 3 false)) p4 (LwO 0 0 0 true)) p5 (LwO 1 0 1 false)) pm (.lst [.ref p1, .ref p2, .ref p3, .ref p4, .ref p5]) = H1
    intro g1 g2 g3 g4 g5 gm sA D1
    refine ⟨_, rfl, _, rfl, d, t, 9, rfl, D1, by decide, fun r H2 h0 h1 D2 b2 => ?_⟩
    have bA : But t H H2 := (But.of_same sA).trans b2
    refine ⟨_, rfl, _, _, rfl, rfl, _, rfl, iteD (fun k => ?_) (fun k => ?_)⟩
    · obtain ⟨v, hv, mv⟩ := at_ok (xs := [V.ref p1, .ref p2, .ref p3, .ref p4, .ref p5]) h0 (by simpa using k)
      refine ⟨_, rfl, _, rfl, _, _, _, _, rfl, rfl, SqL.of (b2 _ _ nmt gm), hv, ?_⟩
      simp only [List.mem_cons, List.not_mem_nil, or_false] at mv
      rcases mv with rfl | rfl | rfl | rfl | rfl
      · exact q p1 1 1 1 false H2 ⟨by decide, by decide, by decide⟩ D2 bA n1 (b2 _ _ (D.na n1) g1)
      · exact q p2 2 2 2 false H2 ⟨by decide, by decide, by decide⟩ D2 bA f2 (b2 _ _ (D.na f2) g2)
      · exact q p3 1 1 3 false H2 ⟨by decide, by decide, by decide⟩ D2 bA f3 (b2 _ _ (D.na f3) g3)
      · exact q p4 0 0 0 true H2 ⟨by decide, by decide, by decide⟩ D2 bA f4 (b2 _ _ (D.na f4) g4)
      · exact q p5 1 0 1 false H2 ⟨by decide, by decide, by decide⟩ D2 bA f5 (b2 _ _ (D.na f5) g5)
    · refine ⟨_, rfl, _, rfl, d, t, 4, rfl, D2, by decide, fun r1 H3 h10 h11 D3 b3 => ?_⟩
      obtain ⟨i1, rfl⟩ := Int.eq_ofNat_of_zero_le h10
      refine ⟨_, rfl, _, rfl, _, rfl, _, rfl, _, _, rfl, rfl, d, t, _, rfl, D3, by omega, fun r2 H4 h20 h21 D4 b4 => ⟨_, _, rfl, rfl, ?_⟩⟩
      obtain ⟨i2, rfl⟩ := Int.eq_ofNat_of_zero_le h20
      refine ⟨_, rfl, _, rfl, _, rfl, _, rfl, _, _, rfl, rfl, d, t, _, rfl, D4, by omega, fun r3 H5 h30 h31 D5 b5 => ⟨_, _, rfl, rfl, ?_⟩⟩
      obtain ⟨i3, rfl⟩ := Int.eq_ofNat_of_zero_le h30
      refine ⟨_, rfl, _, rfl, _, rfl, _, rfl, _, rfl, d, t, 2, rfl, D5, by decide, fun r4 H6 _ _ D6 b6 => ⟨rfl, by show 4 ≤ sizeLine; decide, fun p hp => ?_⟩⟩
      have bB := (((bA.trans b3).trans b4).trans b5).trans b6
      have e1 : ((i1 : Int) + (i2 : Int)) = ((i1 + i2 : Nat) : Int) := by omega
      have e2 : ((i1 : Int) + (i2 : Int) + (i3 : Int)) = ((i1 + i2 + i3 : Nat) : Int) := by omega
      refine q p (i1 + i2) i1 (i1 + i2 + i3) (decide (V.int r4 = V.int 1)) _ ⟨by omega, by omega, by omega⟩ (D6.same (same_new hp)) (bB.trans (But.new hp)) (bB.free (D6.na hp) hp) ?_
      rw [upd_same]
      show some (HO.lst [.int ((i1 : Int) + (i2 : Int)), .int (i1 : Int), .int ((i1 : Int) + (i2 : Int) + (i3 : Int)), _]) = _
      rw [e2, e1]
theorem ok__law_way_made (T : Txt K mg) : FnOk P w K mg base CX0 4 T.a__law_way_made T.fd__law_way_made ["_law_way_here"] (spMade K T.c_Way) := by
  refine T.F__law_way_made.ok sc__law_way_made (fun vs H Q E h => ?_) (fun cdv A outer s H vs Q E hr h => ?_)
  · obtain ⟨p, a, b, c, e, rfl, _⟩ := h; rfl
  · obtain ⟨p, a, b, c, e, rfl, ⟨ab, ac, c4⟩, hp, q⟩ := h
    refine ⟨_, (pss_cons (ps_set (i := 1) sc__law_way_made.nd rfl (.inl rfl) (pe_lst (pa_cons (pe_str) (pa_cons (pe_str) (pa_cons (pe_str) (pa_cons (pe_str) pa_nil))))))
      (pss_one (ps_ret (pe_makeN T.mk_Way (ok_Way_init T) (hr.mono (by omega)) (by rfl) T.g_Way T.kb_Way_init_4_early pass0 (pa_cons (pe_ix ix_list (pv 1) (pe_ix ix_list (pv 0) (pe_int) (fun _ _ => rfl)) (fun _ _ => rfl)) (pa_cons (pe_ix ix_list (pv 1) (pe_ix ix_list (pv 0) (pe_int) (fun _ _ => rfl)) (fun _ _ => rfl)) (pa_cons (pe_ix ix_list (pv 1) (pe_ix ix_list (pv 0) (pe_int) (fun _ _ => rfl)) (fun _ _ => rfl)) pa_nil))) (pk_cons (pe_ix ix_list (pv 0) (pe_int) (fun _ _ => rfl)) pk_nil))))), ?_⟩
    refine ⟨by show 4 ≤ sizeLine; decide, fun pw hw => ?_⟩
    have s1 := same_new (o := .lst levV) hw
    have W1 : (upd H pw (.lst levV)) pw = some (.lst levV) := upd_same
    have hp1 := s1.seq hp
    refine ⟨_, rfl, _, rfl, _, _, _, _, rfl, rfl, hp1, at_of (j := 0) rfl rfl, _, _, _, _, rfl, rfl, SqL.of W1, at_of (j := a) rfl (levV_at (by omega)), ?_⟩
    refine ⟨_, rfl, _, rfl, _, _, _, _, rfl, rfl, hp1, at_of (j := 1) rfl rfl, _, _, _, _, rfl, rfl, SqL.of W1, at_of (j := b) rfl (levV_at (by omega)), ?_⟩
    refine ⟨_, rfl, _, rfl, _, _, _, _, rfl, rfl, hp1, at_of (j := 2) rfl rfl, _, _, _, _, rfl, rfl, SqL.of W1, at_of (j := c) rfl (levV_at (by omega)), ?_⟩
    refine ⟨_, rfl, _, _, _, _, rfl, rfl, hp1, at_of (j := 3) rfl rfl, rfl, rfl, fun x dx nx ndx ne => ⟨x, dx, a, b, c, e, rfl, by omega, by omega, by omega, upd_same, fun H8 b8 hx8 => ⟨rfl, ?_⟩⟩⟩
    rw [Nat.max_eq_left ab, Nat.max_eq_left ac] at hx8
    exact q x H8 (s1.trans (same_make nx ndx b8)) (s1.free nx) ⟨dx, hx8⟩
end
end My

namespace My
open PySem L2
/-! ### policies: their rules, where they stand -/
abbrev Wv := Nat × Nat × Nat × Bool
abbrev Rl := Str × Bool × List Wv
abbrev Lr := Str × Bool × Addr
def WyV (Cw : Addr) (H : Hp) (v : V) (k : Wv) : Prop := ∃ x, v = .ref x ∧ Wy Cw H x k.1 k.2.1 k.2.2.1 k.2.2.2
def WysT (Cw : Addr) (H : Hp) (p : Addr) (ks : List Wv) : Prop := ∃ vs, H p = some (.tup vs) ∧ Paired (WyV Cw H) vs ks
/-- tuples and ways stay -/
def Kw (Cw : Addr) (H H' : Hp) : Prop := ∀ a o, H a = some o → ((∃ xs, o = .tup xs) ∨ ∃ dx x1 x2 x3 e, o = .ins Cw dx (wayF x1 x2 x3 e)) → H' a = some o
theorem Kw.same {Cw : Addr} {H H' : Hp} (s : Same H H') : Kw Cw H H' := fun a o h _ => s a o h
theorem Kw.trans {Cw : Addr} {H H1 H2 : Hp} (x : Kw Cw H H1) (y : Kw Cw H1 H2) : Kw Cw H H2 := fun a o h t => y a o (x a o h t) t
theorem Kw.upd {Cw : Addr} {H : Hp} {a : Addr} {o o' : HO} (h : H a = some o) (n : ¬ ((∃ xs, o = .tup xs) ∨ ∃ dx x1 x2 x3 e, o = .ins Cw dx (wayF x1 x2 x3 e))) : Kw Cw H (upd H a o') := fun b u hb t => by
  by_cases e : b = a
  · rw [e, h] at hb; cases hb; exact absurd t n
  · rw [upd_ne e]; exact hb
theorem Kw.updD {Cw : Addr} {H : Hp} {a : Addr} {kvs : List (Key × V)} {o' : HO} (h : H a = some (.dK kvs)) : Kw Cw H (L2.upd H a o') := .upd h fun t => by rcases t with ⟨_, e⟩ | ⟨_, _, _, _, _, e⟩ <;> cases e
theorem WyV.keep {Cw : Addr} {H H' : Hp} {v : V} {k : Wv} (h : WyV Cw H v k) (s : Kw Cw H H') : WyV Cw H' v k := let ⟨x, e, dx, hx⟩ := h; ⟨x, e, dx, s _ _ hx (.inr ⟨_, _, _, _, _, rfl⟩)⟩
theorem WysT.keep {Cw : Addr} {H H' : Hp} {p : Addr} {ks : List Wv} (h : WysT Cw H p ks) (s : Kw Cw H H') : WysT Cw H' p ks := let ⟨vs, e, f⟩ := h; ⟨vs, s _ _ e (.inl ⟨_, rfl⟩), L2.Paired.mapP f fun _ _ x => x.keep s⟩
def RlL (Cw : Addr) (H : Hp) (q : Lr) (r : Rl) : Prop := q.1 = r.1 ∧ q.2.1 = r.2.1 ∧ WysT Cw H q.2.2 r.2.2
theorem rlL_keep {Cw : Addr} {H H' : Hp} {ls : List Lr} {rl : List Rl} (h : Paired (RlL Cw H) ls rl) (s : Kw Cw H H') : Paired (RlL Cw H') ls rl := L2.Paired.mapP h fun _ _ ⟨a, b, c⟩ => ⟨a, b, c.keep s⟩
def stK (ls : List Lr) : List (Key × V) := ls.map fun q => (.inr q.1, .bl q.2.1)
def wyK (ls : List Lr) : List (Key × V) := ls.map fun q => (.inr q.1, .ref q.2.2)
def setR (rl : List Rl) (r : Rl) : List Rl := rl.map fun q => if q.1 = r.1 then r else q
def lookR (rl : List Rl) (z : Str) : Option Rl := rl.find? fun r => decide (r.1 = z)
structure Pol (C Cw : Addr) (H : Hp) (y x m a b : Addr) (rl : List Rl) : Prop where
  obj : ∃ dy, H y = some (.ins C dy [("shape", .ref x), ("_marks", .ref m), ("_starts", .ref a), ("_ways", .ref b)])
  mar : H m = some (.lst (rl.map fun r => .str r.1))
  tb : ∃ ls : List Lr, H a = some (.dK (stK ls)) ∧ H b = some (.dK (wyK ls)) ∧ Paired (RlL Cw H) ls rl
  ne : a ≠ b
  nd : (rl.map (·.1)).Nodup
theorem valV_f {f : Lr → V} (z : Str) : ∀ ls : List Lr, valV (ls.map fun q => ((.inr q.1 : Key), f q)) (.inr z) = (ls.find? fun q => decide (q.1 = z)).map f
  | [] => rfl
  | q :: ls => by
    rw [List.map_cons, List.find?_cons]
    by_cases h : q.1 = z
    · rw [valV_pos (by rw [h]), decide_eq_true h]; rfl
    · rw [valV_neg (fun e => h (by injection e)), decide_eq_false h, valV_f z ls]
theorem find_pair {Cw : Addr} {H : Hp} {z : Str} : ∀ {ls : List Lr} {rl : List Rl}, Paired (RlL Cw H) ls rl → (∃ r q, lookR rl z = some r ∧ (ls.find? fun q => decide (q.1 = z)) = some q ∧ RlL Cw H q r) ∨ (lookR rl z = none ∧ (ls.find? fun q => decide (q.1 = z)) = none)
  | _, _, .nil => .inr ⟨rfl, rfl⟩
  | q :: ls, r :: rl, .cons h t => by
    unfold lookR
    rw [List.find?_cons, List.find?_cons]
    by_cases e : r.1 = z
    · exact .inl ⟨r, q, by rw [decide_eq_true e], by rw [decide_eq_true (h.1.trans e)], h⟩
    · rw [decide_eq_false e, decide_eq_false (fun e' => e (h.1.symm.trans e'))]
      exact find_pair t
theorem valV_st {z : Str} {ls : List Lr} : valV (stK ls) (.inr z) = (ls.find? fun q => decide (q.1 = z)).map fun q => V.bl q.2.1 := valV_f z ls
theorem valV_wy {z : Str} {ls : List Lr} : valV (wyK ls) (.inr z) = (ls.find? fun q => decide (q.1 = z)).map fun q => V.ref q.2.2 := valV_f z ls
theorem find_none {ls : List Lr} {z : Str} (h : z ∉ ls.map (·.1)) : (ls.find? fun q => decide (q.1 = z)) = none := List.find?_eq_none.mpr fun q hq e => h (List.mem_map.mpr ⟨q, hq, of_decide_eq_true e⟩)
theorem find_some {ls : List Lr} {z : Str} (h : z ∈ ls.map (·.1)) : ∃ q, (ls.find? fun q => decide (q.1 = z)) = some q := by
  cases e : ls.find? fun q => decide (q.1 = z) with
  | some q => exact ⟨q, rfl⟩
  | none =>
    obtain ⟨q, hq, e2⟩ := List.mem_map.mp h
    exact absurd (decide_eq_true e2) (by simpa using List.find?_eq_none.mp e q hq)
theorem putK_old {kvs : List (Key × V)} {k : Key} {v : V} (h : (valV kvs k).isSome = true) : putK kvs k v = kvs.map fun kv => if kv.1 = k then (kv.1, v) else kv := by
  unfold putK
  rw [valV_any, h, if_pos rfl]
def setL (ls : List Lr) (z : Str) (st : Bool) (p : Addr) : List Lr := ls.map fun q => if q.1 = z then (q.1, st, p) else q
theorem put_st' {ls : List Lr} {z : Str} {st : Bool} {p : Addr} (h : z ∈ ls.map (·.1)) : putK (stK ls) (.inr z) (.bl st) = stK (setL ls z st p) := by
  obtain ⟨q, hq⟩ := find_some h
  rw [putK_old (by rw [valV_st, hq]; rfl)]
  unfold stK setL
  rw [List.map_map, List.map_map]
  refine List.map_congr_left fun q _ => ?_
  by_cases e : q.1 = z
  · simp [e]
  · simp [e]
theorem put_wy' {ls : List Lr} {z : Str} {st : Bool} {p : Addr} (h : z ∈ ls.map (·.1)) : putK (wyK ls) (.inr z) (.ref p) = wyK (setL ls z st p) := by
  obtain ⟨q, hq⟩ := find_some h
  rw [putK_old (by rw [valV_wy, hq]; rfl)]
  unfold wyK setL
  rw [List.map_map, List.map_map]
  refine List.map_congr_left fun q _ => ?_
  by_cases e : q.1 = z
  · simp [e]
  · simp [e]
theorem setL_pair {Cw : Addr} {H : Hp} {r : Rl} {p : Addr} (w : WysT Cw H p r.2.2) : ∀ {ls : List Lr} {rl : List Rl}, Paired (RlL Cw H) ls rl → Paired (RlL Cw H) (setL ls r.1 r.2.1 p) (setR rl r)
  | _, _, .nil => .nil
  | q :: ls, r' :: rl, .cons h t => by
    refine .cons ?_ (setL_pair w t)
    show RlL Cw H (if q.1 = r.1 then (q.1, r.2.1, p) else q) (if r'.1 = r.1 then r else r')
    by_cases e : r'.1 = r.1
    · rw [if_pos e, if_pos (h.1.trans e)]; exact ⟨h.1.trans e, rfl, w⟩
    · rw [if_neg e, if_neg (fun e' => e (h.1.symm.trans e'))]; exact h
theorem pair_fst {Cw : Addr} {H : Hp} : ∀ {ls : List Lr} {rl : List Rl}, Paired (RlL Cw H) ls rl → ls.map (·.1) = rl.map (·.1)
  | _, _, .nil => rfl
  | q :: ls, r :: rl, .cons h t => by rw [List.map_cons, List.map_cons, h.1, pair_fst t]
theorem setR_fst (rl : List Rl) (r : Rl) : (setR rl r).map (·.1) = rl.map (·.1) := by
  unfold setR
  rw [List.map_map]
  refine List.map_congr_left fun q _ => ?_
  by_cases e : q.1 = r.1
  · simp [e]
  · simp [e]
theorem setRs_fst : ∀ (rs rl : List Rl), (rs.foldl setR rl).map (·.1) = rl.map (·.1)
  | [], _ => rfl
  | r :: rs, rl => by rw [List.foldl_cons, setRs_fst rs, setR_fst]
/-- the rows that are passed in -/
def RwV (Cw : Addr) (H : Hp) (v : V) (r : Rl) : Prop := ∃ p t, v = .ref p ∧ H p = some (.tup [.str r.1, .bl r.2.1, .ref t]) ∧ WysT Cw H t r.2.2
theorem RwV.keep {Cw : Addr} {H H' : Hp} {v : V} {r : Rl} (h : RwV Cw H v r) (s : Kw Cw H H') : RwV Cw H' v r := let ⟨p, t, e, a, b⟩ := h; ⟨p, t, e, s _ _ a (.inl ⟨_, rfl⟩), b.keep s⟩
def emptyR (rs : List Row) : List Rl := (mks rs).map fun z => (z, false, [])
theorem polF1 (x m a b : Addr) : List.lookup ("shape" : Str) [(("shape" : Str), V.ref x), ("_marks", V.ref m), ("_starts", V.ref a), ("_ways", V.ref b)] = some (V.ref x) := rfl
theorem polF2 (x m a b : Addr) : List.lookup ("_marks" : Str) [(("shape" : Str), V.ref x), ("_marks", V.ref m), ("_starts", V.ref a), ("_ways", V.ref b)] = some (V.ref m) := rfl
theorem polF3 (x m a b : Addr) : List.lookup ("_starts" : Str) [(("shape" : Str), V.ref x), ("_marks", V.ref m), ("_starts", V.ref a), ("_ways", V.ref b)] = some (V.ref a) := rfl
theorem polF4 (x m a b : Addr) : List.lookup ("_ways" : Str) [(("shape" : Str), V.ref x), ("_marks", V.ref m), ("_starts", V.ref a), ("_ways", V.ref b)] = some (V.ref b) := rfl
end My

namespace My
open PySem L2
def spPInit (C Cw Cs : Addr) : Sp := fun vs H Q _ => ∃ (y dy x q : Addr) (us : List V) (rows : List Rl) (rs : List Row), vs = [.ref y, .ref x, .ref q] ∧ H y = some (.ins C dy []) ∧ ShO Cs H x rs ∧ (mks rs).Nodup ∧ rs.length ≤ 100 ∧ H q = some (.lst us) ∧ Paired (RwV Cw H) us rows ∧ (∀ r ∈ rows, r.1 ∈ mks rs) ∧
  ∀ m a b H', But y H H' → H m = none → H a = none → H b = none → Pol C Cw H' y x m a b (rows.foldl setR (emptyR rs)) → Q .non H'
section
variable {w : World} {K : PySem.W.Frag} {mg : Str → Option Value} {base : Heap}
set_option maxHeartbeats 16000000 in
set_option pp.maxSteps 600 in
theorem ok_Policy_init (T : Txt K mg) : FnOk PP w K mg base CX0 8 T.a_Policy_init T.fd_Policy_init ["self", "shape", "rows"] (spPInit T.c_Policy T.c_Way T.c_Shape) := by
  refine T.F_Policy_init.ok0 sc_Policy_init (fun vs H Q E h => ?_) (fun cdv A outer s H vs Q E hr h => ?_)
  · obtain ⟨y, dy, x, q, us, rows, rs, rfl, _⟩ := h; rfl
  · obtain ⟨y, dy, x, q, us, rows, rs, rfl, hy, hS, nd, lr, hq, hR, hm, qq⟩ := h
    refine ⟨_, (pss_cons (ps_set (i := 3) sc_Policy_init.nd rfl (.inl rfl) (pe_dnewK))
      (pss_cons (ps_set (i := 4) sc_Policy_init.nd rfl (.inl rfl) (pe_dnewK))
      (pss_cons (ps_for PassesOwn.never rfl (pi_own T.m_Shape_iter (ok_Shape_iter T) (hr.mono (by omega)) (pv 1)) (pg_name (i := 5) sc_Policy_init.nd rfl (.inl rfl)) (pss_cons (ps_dput (hu_of hr) (pv 3) (pv 5) (pe_bl) rfl)
      (pss_one (ps_dput (hu_of hr) (pv 4) (pv 5) (pe_tup pa_nil) rfl))))
      (pss_cons (ps_for PassesOwn.never rfl (pi_list (pv 2)) (pg_tup rfl (pgs_cons (pg_name (i := 5) sc_Policy_init.nd rfl (.inl rfl)) (pgs_cons (pg_name (i := 6) sc_Policy_init.nd rfl (.inl rfl)) (pgs_cons (pg_name (i := 7) sc_Policy_init.nd rfl (.inl rfl)) pgs_nil)))) (pss_cons (ps_if (pt_cmpR (op_ninKd (hu_of hr)) (pv 5) (pv 3) (by with_unfolding_all rfl)) (pss_one (ps_never)) pss_nil)
      (pss_cons (ps_dput (hu_of hr) (pv 3) (pv 5) (pv 6) rfl)
      (pss_one (ps_dput (hu_of hr) (pv 4) (pv 5) (pe_callTy call_tuple_of (by rfl) T.n_tuple (by decide +kernel) (pa_cons (pv 7) pa_nil)) rfl)))))
      (pss_cons (ps_fld (pv 0) (pv 1) rfl)
      (pss_cons (ps_fld (pv 0) (pe_callTy (call_listI T.m_Shape_iter (ok_Shape_iter T) T.m_Shape_len (ok_Shape_len T) T.b_Shape_len rfl (hr.mono (by omega))) (by rfl) T.n_list (by decide +kernel) (pa_cons (pv 1) pa_nil)) rfl)
      (pss_cons (ps_fld (pv 0) (pv 3) rfl)
      (pss_one (ps_fld (pv 0) (pv 4) rfl))))))))), ?_⟩
    have big : 100000 < sizeLine := by decide
    obtain ⟨dx, l, mm, vs0, hx, hl, hrs, hmm⟩ := hS
    have lus := pair_len' hR
    have lmk : (mks rs).length = rs.length := by unfold mks; rw [List.length_map]
    refine fun a ha => fun b hb => ?_
    have sa := same_new (o := .dK []) ha
    have sb := same_new (o := .dK []) hb
    have nab : a ≠ b := fun e => by rw [← e, upd_same] at hb; cases hb
    have hb0 := sa.free hb
    have e1 : (upd (upd H a (.dK [])) b (.dK [])) a = some (.dK (stK [])) := by rw [upd_ne nab, upd_same]; rfl
    have e2 : (upd (upd H a (.dK [])) b (.dK [])) b = some (.dK (wyK [])) := upd_same
    have sab := sa.trans sb
    revert e1 e2 sab
    generalize upd (upd H a (.dK [])) b (.dK []) = H2
    intro e1 e2 sab
    refine ⟨_, rfl, x, dx, mm, _, mksV rs, rfl, sab _ _ hx, sh_look2 l mm, SqL.of (sab _ _ hmm), for_list (K := K) (a := mm) (xs := mksV rs) (fun i σ H' => ∃ (x5 : Option V) (ls : List Lr), σ = [some (.ref y), some (.ref x), some (.ref q), some (.ref a), some (.ref b), x5, none, none] ∧ Same H H' ∧ H' a = some (.dK (stK ls)) ∧ H' b = some (.dK (wyK ls)) ∧ Paired (RlL T.c_Way H') ls (((mks rs).take i).map fun z => (z, false, []))) ⟨_, [], rfl, sab, e1, e2, by rw [List.take_zero]; exact .nil⟩ (fun i σ H' _ ⟨_, _, _, s, _⟩ => SqL.of (s _ _ hmm)) ?_ ?_⟩
    · rintro i v σ H3 hv ⟨x5, ls, rfl, s3, h3a, h3b, pr⟩
      obtain ⟨z, hz, rfl⟩ : ∃ z, (mks rs)[i]? = some z ∧ v = .str z := by
        unfold mksV at hv
        rw [List.getElem?_map] at hv
        cases e : rs[i]? with
        | none => rw [e] at hv; cases hv
        | some r => rw [e] at hv; exact ⟨r.mark, by unfold mks; rw [List.getElem?_map, e]; rfl, (Option.some.inj hv).symm⟩
      have hi := (List.getElem?_eq_some_iff.mp hz).1
      have lls : ls.length = i := by rw [pair_len' pr, List.length_map, List.length_take]; omega
      have fs := pair_fst pr
      rw [List.map_map] at fs
      have fs : ls.map (·.1) = (mks rs).take i := by rw [fs]; exact List.map_id _
      have nz : z ∉ ls.map (·.1) := by rw [fs]; exact fun h => (nodup_take.mp nd) i z hz h
      refine ⟨_, rfl, _, rfl, a, _, rfl, DPut.k (k := .inr z) h3a (by unfold stK; rw [List.length_map]; omega), ?_⟩
      have k3 : Kw T.c_Way H3 (upd H3 a (.dK (putK (stK ls) (.inr z) (.bl false)))) := .updD h3a
      have s4 := same_mut (o := .dK (putK (stK ls) (.inr z) (.bl false))) s3 ha
      have h4a : (upd H3 a (.dK (putK (stK ls) (.inr z) (.bl false)))) a = some (.dK (stK ls ++ [(.inr z, .bl false)])) := by rw [upd_same, putK_new _ (by rw [valV_st, find_none nz]; rfl)]
      have h4b : (upd H3 a (.dK (putK (stK ls) (.inr z) (.bl false)))) b = some (.dK (wyK ls)) := by rw [upd_ne nab.symm]; exact h3b
      revert k3 s4 h4a h4b
      generalize upd H3 a (.dK (putK (stK ls) (.inr z) (.bl false))) = H4
      intro k3 s4 h4a h4b
      refine ⟨Nat.zero_le _, fun p np => ?_⟩
      have k4 : Kw T.c_Way H4 (upd H4 p (.tup [])) := .same (same_new np)
      have s5 := s4.trans (same_new (o := .tup []) np)
      have h5p : (upd H4 p (.tup [])) p = some (.tup []) := upd_same
      have h5a := same_new (o := .tup []) np _ _ h4a
      have h5b := same_new (o := .tup []) np _ _ h4b
      revert k4 s5 h5p h5a h5b
      generalize upd H4 p (.tup []) = H5
      intro k4 s5 h5p h5a h5b
      refine ⟨_, rfl, _, rfl, b, _, rfl, DPut.k (k := .inr z) h5b (by unfold wyK; rw [List.length_map]; omega), ?_⟩
      have k5 : Kw T.c_Way H5 (upd H5 b (.dK (putK (wyK ls) (.inr z) (.ref p)))) := .updD h5b
      refine ⟨_, ls ++ [(z, false, p)], rfl, same_mut s5 hb0, ?_, ?_, ?_⟩
      · rw [upd_ne nab, h5a]; unfold stK; rw [List.map_append]; rfl
      · rw [upd_same, putK_new _ (by rw [valV_wy, find_none nz]; rfl)]; unfold wyK; rw [List.map_append]; rfl
      · rw [List.take_succ, hz, Option.toList_some, List.map_append]
        exact pair_app' (rlL_keep pr ((k3.trans k4).trans k5)) (.cons ⟨rfl, rfl, [], k5 _ _ h5p (.inl ⟨_, rfl⟩), .nil⟩ .nil)
    rintro σ H3 ⟨x5, ls0, rfl, s3, h3a, h3b, pr0⟩
    rw [show (mksV rs).length = (mks rs).length by unfold mksV; rw [List.length_map, lmk], List.take_length] at pr0
    have kq := Kw.same (Cw := T.c_Way) s3
    refine ⟨_, rfl, q, rfl, ⟨_, SqL.of (s3 _ _ hq)⟩, for_list (K := K) (a := q) (xs := us) (fun i σ H' => ∃ (x5 x6 x7 : Option V) (ls : List Lr), σ = [some (.ref y), some (.ref x), some (.ref q), some (.ref a), some (.ref b), x5, x6, x7] ∧ Same H H' ∧ H' a = some (.dK (stK ls)) ∧ H' b = some (.dK (wyK ls)) ∧ Paired (RlL T.c_Way H') ls ((rows.take i).foldl setR (emptyR rs))) ⟨_, _, _, ls0, rfl, s3, h3a, h3b, pr0⟩ (fun i σ H' _ ⟨_, _, _, _, _, s, _⟩ => SqL.of (s _ _ hq)) ?_ ?_⟩
    · rintro i v σ H4 hv ⟨x5', x6, x7, ls, rfl, s4, h4a, h4b, pr⟩
      obtain ⟨r, hr, p, t, rfl, hp, ht⟩ := pair_get' hR hv
      have fs : ls.map (·.1) = mks rs := by
        rw [pair_fst pr, setRs_fst]
        unfold emptyR
        rw [List.map_map]; exact List.map_id _
      have lls : ls.length = (mks rs).length := by rw [← fs, List.length_map]
      have mz : r.1 ∈ ls.map (·.1) := by rw [fs]; exact hm r (List.mem_of_getElem? hr)
      obtain ⟨q0, hq0⟩ := find_some mz
      obtain ⟨ts, hts, htw⟩ := ht.keep (Kw.same s4)
      have w4 : WysT T.c_Way H4 t r.2.2 := ⟨ts, hts, htw⟩
      refine ⟨p, _, rfl, SqT.of (s4 _ _ hp), rfl, _, _, rfl, _, _, rfl, _, _, rfl, rfl, ?_⟩
      refine ⟨_, rfl, _, rfl, a, _, rfl, DGet.k (k := .inr r.1) h4a, _, rfl, iteNo (by rw [valV_st, hq0]; rfl) ?_⟩
      refine ⟨_, rfl, _, rfl, _, rfl, a, _, rfl, DPut.k (k := .inr r.1) h4a (by unfold stK; rw [List.length_map]; omega), ?_⟩
      rw [put_st' (p := t) mz]
      have k4 : Kw T.c_Way H4 (upd H4 a (.dK (stK (setL ls r.1 r.2.1 t)))) := .updD h4a
      have h5b : (upd H4 a (.dK (stK (setL ls r.1 r.2.1 t)))) b = some (.dK (wyK ls)) := by rw [upd_ne nab.symm]; exact h4b
      have h5t := k4 _ _ hts (.inl ⟨_, rfl⟩)
      refine ⟨_, rfl, t, _, rfl, .inr ⟨SqT.of h5t, ?_⟩⟩
      refine ⟨_, rfl, _, rfl, b, _, rfl, DPut.k (k := .inr r.1) h5b (by unfold wyK; rw [List.length_map]; omega), ?_⟩
      rw [put_wy' (st := r.2.1) mz]
      have k5 : Kw T.c_Way (upd H4 a (.dK (stK (setL ls r.1 r.2.1 t)))) (upd (upd H4 a (.dK (stK (setL ls r.1 r.2.1 t)))) b (.dK (wyK (setL ls r.1 r.2.1 t)))) := .updD h5b
      refine ⟨_, _, _, setL ls r.1 r.2.1 t, rfl, same_mut (same_mut s4 ha) hb0, by rw [upd_ne nab, upd_same], upd_same, ?_⟩
      rw [List.take_succ, hr, Option.toList_some, List.foldl_append]
      exact rlL_keep (setL_pair (w4) pr) (k4.trans k5)
    rintro σ H4 ⟨x5', x6, x7, ls, rfl, s4, h4a, h4b, pr⟩
    rw [lus, List.take_length] at pr
    have lmr : (rows.foldl setR (emptyR rs)).map (·.1) = mks rs := by
      rw [setRs_fst]
      unfold emptyR
      rw [List.map_map]; exact List.map_id _
    have nxy : x ≠ y := fun e => by
      rw [e, hy] at hx
      have hx := Option.some.inj hx
      injection hx with _ _ z
      exact nomatch z
    have nly : l ≠ y := fun e => by rw [e, hy] at hl; cases hl
    have nmy : mm ≠ y := fun e => by rw [e, hy] at hmm; cases hmm
    have nay : a ≠ y := fun e => by rw [e, hy] at ha; cases ha
    have nby : b ≠ y := fun e => by rw [e, hy] at hb0; cases hb0
    refine ⟨_, rfl, _, rfl, y, _, dy, _, rfl, s4 _ _ hy, T.cl_Policy, T.no_Policy_shape, by show 0 < 1000; decide, ?_⟩
    have k5 : Kw T.c_Way H4 (upd H4 y (.ins T.c_Policy dy (putF "shape" (.ref x) []))) := .upd (s4 _ _ hy) fun t => by
      rcases t with ⟨_, e⟩ | ⟨_, _, _, _, _, e⟩
      · cases e
      · injection e with _ _ e; exact nomatch e
    have b5 : But y H (upd H4 y (.ins T.c_Policy dy (putF "shape" (.ref x) []))) := fun c o n e => by rw [upd_ne n]; exact s4 _ _ e
    have h5y : (upd H4 y (.ins T.c_Policy dy (putF "shape" (.ref x) []))) y = some (.ins T.c_Policy dy [("shape", .ref x)]) := upd_same
    have h5a : (upd H4 y (.ins T.c_Policy dy (putF "shape" (.ref x) []))) a = some (.dK (stK ls)) := by rw [upd_ne nay]; exact h4a
    have h5b : (upd H4 y (.ins T.c_Policy dy (putF "shape" (.ref x) []))) b = some (.dK (wyK ls)) := by rw [upd_ne nby]; exact h4b
    revert k5 b5 h5y h5a h5b
    generalize upd H4 y (.ins T.c_Policy dy (putF "shape" (.ref x) [])) = H5
    intro k5 b5 h5y h5a h5b
    have sh5 : ShO T.c_Shape H5 x rs := ⟨dx, l, mm, vs0, b5 _ _ nxy hx, b5 _ _ nly hl, rowsT_keep hrs (fun c xs e => b5 _ _ (fun z => by rw [z, hy] at e; cases e) e), b5 _ _ nmy hmm⟩
    refine ⟨_, rfl, x, dx, mm, _, mksV rs, rfl, b5 _ _ nxy hx, sh_look2 l mm, SqL.of (b5 _ _ nmy hmm), by unfold mksV; rw [List.length_map]; omega, fun c nc => ⟨x, rs, rfl, sh5.same (same_new nc), ⟨_, rfl, by omega⟩, rfl⟩, fun m nm => ?_⟩
    have nmy' : m ≠ y := fun e => by rw [e, h5y] at nm; cases nm
    have nma : m ≠ a := fun e => by rw [e, h5a] at nm; cases nm
    have nmb : m ≠ b := fun e => by rw [e, h5b] at nm; cases nm
    refine ⟨_, rfl, y, _, dy, _, rfl, same_new nm _ _ h5y, T.cl_Policy, T.no_Policy__marks, by show 1 < 1000; decide, ?_⟩
    refine ⟨_, rfl, _, rfl, y, _, dy, _, rfl, upd_same, T.cl_Policy, T.no_Policy__starts, by show 2 < 1000; decide, ?_⟩
    refine ⟨_, rfl, _, rfl, y, _, dy, _, rfl, upd_same, T.cl_Policy, T.no_Policy__ways, by show 3 < 1000; decide, ?_⟩
    have nm0 : H m = none := b5.free nmy' nm
    have at' : ∀ {c : Addr} {o1 o2 o3 o4 : HO}, c ≠ y → (upd (upd (upd (upd H5 m o1) y o2) y o3) y o4) c = (upd H5 m o1) c := fun n => by rw [upd_ne n, upd_ne n, upd_ne n]
    refine qq m a b _ (fun c o n e => ?_) nm0 ha hb0 ⟨⟨dy, upd_same⟩, ?_, ⟨ls, ?_, ?_, rlL_keep pr (k5.trans fun c o e t => ?_)⟩, nab, by rw [lmr]; exact nd⟩
    · rw [at' n, upd_ne (fun z => by rw [z, nm0] at e; cases e)]; exact b5 _ _ n e
    · rw [at' nmy', upd_same]
      unfold mksV
      rw [show (List.map (fun r => V.str r.1) (rows.foldl setR (emptyR rs))) = ((rows.foldl setR (emptyR rs)).map (·.1)).map V.str by rw [List.map_map]; rfl, lmr]
      unfold mks
      rw [List.map_map]; rfl
    · rw [at' nay, upd_ne nma.symm]; exact h5a
    · rw [at' nby, upd_ne nmb.symm]; exact h5b
    · have ncy : c ≠ y := fun z => by
        rw [z, h5y] at e; cases e
        rcases t with ⟨_, e⟩ | ⟨_, _, _, _, _, e⟩
        · cases e
        · injection e with _ _ e; exact nomatch e
      rw [at' ncy]; exact same_new nm _ _ e
end
end My

namespace My
open PySem L2
def spPLen (C Cw : Addr) : Sp := fun vs H Q _ => ∃ (y x m a b : Addr) (rl : List Rl), vs = [.ref y] ∧ Pol C Cw H y x m a b rl ∧ Q (.int rl.length) H
section
variable {w : World} {K : PySem.W.Frag} {mg : Str → Option Value} {base : Heap}
theorem ok_Policy_len (T : Txt K mg) : FnOk PP w K mg base CX0 1 T.a_Policy_len T.fd_Policy_len ["self"] (spPLen T.c_Policy T.c_Way) := by
  refine T.F_Policy_len.ok sc_Policy_len (fun vs H Q E h => ?_) (fun cdv A outer s H vs Q E hr h => ?_)
  · obtain ⟨y, x, m, a, b, rl, rfl, _⟩ := h; rfl
  · obtain ⟨y, x, m, a, b, rl, rfl, hP, q⟩ := h
    obtain ⟨⟨dy, hy⟩, hm, _, _, _⟩ := hP
    refine ⟨_, (pss_one (ps_ret (pe_callB call_len_seq (by rfl) T.n_len (by decide +kernel) (pa_cons (pe_fld (pv 0) rfl) pa_nil)))), ?_⟩
    refine ⟨_, rfl, y, _, dy, _, _, rfl, hy, T.cl_Policy, T.no_Policy__marks, polF2 x m a b, m, _, rfl, .inl (SqL.of hm), ?_⟩
    rw [List.length_map]; exact q
theorem ok_Policy_iter (T : Txt K mg) : IterOk PP w K mg base 1 T.a_Policy_iter T.c_Policy "_marks" := fun A outer s H a dx l fs xs Q E hr e0 ha hf hq q => by
  refine fn_here T.F_Policy_iter sc_Policy_iter T.b_Policy_iter hr e0 (vs := [.ref a]) (.cons rfl .nil) rfl fun cdv hr => ⟨_, (pss_one (ps_ret (pe_callB ItX.call_iterN (by rfl) T.n_iter (by decide +kernel) (pa_cons (pe_fld (pv 0) rfl) pa_nil)))), ?_⟩
  exact ⟨_, rfl, a, _, dx, _, _, rfl, ha, T.cl_Policy, T.no_Policy__marks, hf, l, xs, rfl, hq, fun it n1 n2 => q it n1 n2⟩
end
end My

namespace My
open PySem L2
theorem find_at : ∀ {ls : List Lr} {i : Nat} {q : Lr}, (ls.map (·.1)).Nodup → ls[i]? = some q → (ls.find? fun p => decide (p.1 = q.1)) = some q
  | [], _, _, _, e => by simp at e
  | q0 :: ls, 0, q, _, e => by
    simp at e
    rw [List.find?_cons, decide_eq_true (by rw [e])]
    exact congrArg some e
  | q0 :: ls, i + 1, q, nd, e => by
    have e : ls[i]? = some q := by simpa using e
    have nd := List.nodup_cons.mp (by simpa using nd : (q0.1 :: ls.map (·.1)).Nodup)
    have ne : q0.1 ≠ q.1 := fun h => nd.1 (h ▸ List.mem_map.mpr ⟨q, List.mem_of_getElem? e, rfl⟩)
    rw [List.find?_cons, decide_eq_false ne]
    exact find_at nd.2 e
theorem dget_st {H : Hp} {a : Addr} {ls : List Lr} {z : Str} {q : Lr} (h : H a = some (.dK (stK ls))) (e : (ls.find? fun p => decide (p.1 = z)) = some q) : DGet H a (.str z) (some (.bl q.2.1)) := by
  have d := DGet.k (k := .inr z) h
  rw [valV_st, e] at d; exact d
theorem dget_wy {H : Hp} {a : Addr} {ls : List Lr} {z : Str} {q : Lr} (h : H a = some (.dK (wyK ls))) (e : (ls.find? fun p => decide (p.1 = z)) = some q) : DGet H a (.str z) (some (.ref q.2.2)) := by
  have d := DGet.k (k := .inr z) h
  rw [valV_wy, e] at d; exact d
theorem Pol.same {C Cw : Addr} {H H' : Hp} {y x m a b : Addr} {rl : List Rl} (P : Pol C Cw H y x m a b rl) (s : Same H H') : Pol C Cw H' y x m a b rl := by
  obtain ⟨⟨dy, hy⟩, hm, ⟨ls, ha, hb, pr⟩, ne, nd⟩ := P
  exact ⟨⟨dy, s _ _ hy⟩, s _ _ hm, ⟨ls, s _ _ ha, s _ _ hb, rlL_keep pr (.same s)⟩, ne, nd⟩
theorem Pol.le {C Cw : Addr} {A : List Addr} {H H' : Hp} {y x m a b : Addr} {rl : List Rl} (P : Pol C Cw H y x m a b rl) (s : Le A H H') (k : Kw Cw H H') (n : ∀ c ∈ [y, m, a, b], c ∉ A) : Pol C Cw H' y x m a b rl := by
  obtain ⟨⟨dy, hy⟩, hm, ⟨ls, ha, hb, pr⟩, ne, nd⟩ := P
  exact ⟨⟨dy, s _ _ (n y (by simp)) hy⟩, s _ _ (n m (by simp)) hm, ⟨ls, s _ _ (n a (by simp)) ha, s _ _ (n b (by simp)) hb, rlL_keep pr k⟩, ne, nd⟩
end My

namespace My
open PySem L2
def spPGet (C Cw : Addr) : Sp := fun vs H Q _ => ∃ (y x m a b : Addr) (rl : List Rl) (z : Str) (r : Rl), vs = [.ref y, .str z] ∧ Pol C Cw H y x m a b rl ∧ lookR rl z = some r ∧
  ∀ u t H', Same H H' → H u = none → H' u = some (.tup [.bl r.2.1, .ref t]) → WysT Cw H' t r.2.2 → Q (.ref u) H'
section
variable {w : World} {K : PySem.W.Frag} {mg : Str → Option Value} {base : Heap}
set_option pp.maxSteps 600 in
theorem ok_Policy_getitem (T : Txt K mg) : FnOk PP w K mg base CX0 1 T.a_Policy_getitem T.fd_Policy_getitem ["self", "mark"] (spPGet T.c_Policy T.c_Way) := by
  refine T.F_Policy_getitem.ok sc_Policy_getitem (fun vs H Q E h => ?_) (fun cdv A outer s H vs Q E hr h => ?_)
  · obtain ⟨y, x, m, a, b, rl, z, r, rfl, _⟩ := h; rfl
  · obtain ⟨y, x, m, a, b, rl, z, r, rfl, ⟨⟨dy, hy⟩, hm, ⟨ls, ha, hb, pr⟩, ne, nd⟩, hz, q⟩ := h
    refine ⟨_, (pss_cons (ps_if (pt_cmpR (op_ninKd (hu_of hr)) (pv 1) (pe_fld (pv 0) rfl) (by with_unfolding_all rfl)) (pss_one (ps_never)) pss_nil)
      (pss_one (ps_ret (pe_tup (pa_cons (pe_dget (hu_of hr) (pe_fld (pv 0) rfl) (pv 1) (fun _ _ => rfl)) (pa_cons (pe_dget (hu_of hr) (pe_fld (pv 0) rfl) (pv 1) (fun _ _ => rfl)) pa_nil)))))), ?_⟩
    obtain ⟨q0, hq0, rl0⟩ : ∃ q0, (ls.find? fun p => decide (p.1 = z)) = some q0 ∧ RlL T.c_Way H q0 r := by
      rcases find_pair (z := z) pr with ⟨r', q', e1, e2, e3⟩ | ⟨e1, _⟩
      · rw [hz] at e1; cases e1; exact ⟨q', e2, e3⟩
      · rw [hz] at e1; cases e1
    refine ⟨_, rfl, _, rfl, y, _, dy, _, _, rfl, hy, T.cl_Policy, T.no_Policy__starts, polF3 x m a b, a, _, rfl, dget_st ha hq0, _, rfl, iteNo rfl ?_⟩
    refine ⟨_, rfl, y, _, dy, _, _, rfl, hy, T.cl_Policy, T.no_Policy__starts, polF3 x m a b, _, rfl, a, _, rfl, dget_st ha hq0, ?_⟩
    refine ⟨_, rfl, y, _, dy, _, _, rfl, hy, T.cl_Policy, T.no_Policy__ways, polF4 x m a b, _, rfl, b, _, rfl, dget_wy hb hq0, ?_⟩
    refine ⟨by show 2 ≤ sizeLine; decide, fun u nu => ?_⟩
    exact q u q0.2.2 _ (same_new nu) nu (by rw [upd_same, rl0.2.1]) (rl0.2.2.keep (.same (same_new nu)))
end
end My

namespace My
open PySem L2
def spPSet (C Cw : Addr) : Sp := fun vs H Q _ => ∃ (y x m a b u t : Addr) (rl : List Rl) (z : Str) (st : Bool) (ws : List Wv), vs = [.ref y, .str z, .ref u] ∧ Pol C Cw H y x m a b rl ∧ rl.length ≤ 1000 ∧ z ∈ rl.map (·.1) ∧ H u = some (.tup [.bl st, .ref t]) ∧ WysT Cw H t ws ∧
  ∀ H', Le [a, b] H H' → Kw Cw H H' → Pol C Cw H' y x m a b (setR rl (z, st, ws)) → Q .non H'
section
variable {w : World} {K : PySem.W.Frag} {mg : Str → Option Value} {base : Heap}
set_option pp.maxSteps 600 in
theorem ok_Policy_setitem (T : Txt K mg) : FnOk PP w K mg base CX0 1 T.a_Policy_setitem T.fd_Policy_setitem ["self", "mark", "rule"] (spPSet T.c_Policy T.c_Way) := by
  refine T.F_Policy_setitem.ok sc_Policy_setitem (fun vs H Q E h => ?_) (fun cdv A outer s H vs Q E hr h => ?_)
  · obtain ⟨y, x, m, a, b, u, t, rl, z, st, ws, rfl, _⟩ := h; rfl
  · obtain ⟨y, x, m, a, b, u, t, rl, z, st, ws, rfl, ⟨⟨dy, hy⟩, hm, ⟨ls, ha, hb, pr⟩, ne, nd⟩, lrl, hz, hu, ht, q⟩ := h
    refine ⟨_, (pss_cons (ps_if (pt_cmpR (op_ninKd (hu_of hr)) (pv 1) (pe_fld (pv 0) rfl) (by with_unfolding_all rfl)) (pss_one (ps_never)) pss_nil)
      (pss_cons (ps_asg (pv 2) (pg_tup rfl (pgs_cons (pg_name (i := 3) sc_Policy_setitem.nd rfl (.inl rfl)) (pgs_cons (pg_name (i := 4) sc_Policy_setitem.nd rfl (.inl rfl)) pgs_nil))))
      (pss_cons (ps_dput (hu_of hr) (pe_fld (pv 0) rfl) (pv 1) (pv 3) rfl)
      (pss_one (ps_dput (hu_of hr) (pe_fld (pv 0) rfl) (pv 1) (pe_callTy call_tuple_of (by rfl) T.n_tuple (by decide +kernel) (pa_cons (pv 4) pa_nil)) rfl))))), ?_⟩
    have big : 100000 < sizeLine := by decide
    have lls := pair_len' pr
    have mz : z ∈ ls.map (·.1) := by rw [pair_fst pr]; exact hz
    obtain ⟨q0, hq0⟩ := find_some mz
    obtain ⟨ts, hts, htw⟩ := ht
    refine ⟨_, rfl, _, rfl, y, _, dy, _, _, rfl, hy, T.cl_Policy, T.no_Policy__starts, polF3 x m a b, a, _, rfl, dget_st ha hq0, _, rfl, iteNo rfl ?_⟩
    refine ⟨_, rfl, u, _, rfl, SqT.of hu, rfl, _, _, rfl, _, _, rfl, rfl, ?_⟩
    have nay : y ≠ a := fun e => by rw [e, ha] at hy; cases hy
    have nby : y ≠ b := fun e => by rw [e, hb] at hy; cases hy
    have nma : m ≠ a := fun e => by rw [e, ha] at hm; cases hm
    have nmb : m ≠ b := fun e => by rw [e, hb] at hm; cases hm
    refine ⟨_, rfl, _, rfl, y, _, dy, _, _, rfl, hy, T.cl_Policy, T.no_Policy__starts, polF3 x m a b, _, rfl, a, _, rfl, DPut.k (k := .inr z) ha (by unfold stK; rw [List.length_map]; omega), ?_⟩
    rw [put_st' (p := t) mz]
    have k1 : Kw T.c_Way H (upd H a (.dK (stK (setL ls z st t)))) := .updD ha
    have h1b : (upd H a (.dK (stK (setL ls z st t)))) b = some (.dK (wyK ls)) := by rw [upd_ne ne.symm]; exact hb
    have h1y : (upd H a (.dK (stK (setL ls z st t)))) y = some (.ins T.c_Policy dy [("shape", .ref x), ("_marks", .ref m), ("_starts", .ref a), ("_ways", .ref b)]) := by rw [upd_ne nay]; exact hy
    refine ⟨_, rfl, t, _, rfl, .inr ⟨SqT.of (k1 _ _ hts (.inl ⟨_, rfl⟩)), ?_⟩⟩
    refine ⟨_, rfl, y, _, dy, _, _, rfl, h1y, T.cl_Policy, T.no_Policy__ways, polF4 x m a b, _, rfl, b, _, rfl, DPut.k (k := .inr z) h1b (by unfold wyK; rw [List.length_map]; omega), ?_⟩
    rw [put_wy' (st := st) mz]
    have k2 : Kw T.c_Way (upd H a (.dK (stK (setL ls z st t)))) (upd (upd H a (.dK (stK (setL ls z st t)))) b (.dK (wyK (setL ls z st t)))) := .updD h1b
    refine q _ (fun c o n e => ?_) (k1.trans k2) ⟨⟨dy, by rw [upd_ne nby]; exact h1y⟩, ?_, ⟨setL ls z st t, by rw [upd_ne ne, upd_same], upd_same, ?_⟩, ne, by rw [setR_fst]; exact nd⟩
    · simp only [List.mem_cons, List.not_mem_nil, or_false, not_or] at n
      rw [upd_ne n.2, upd_ne n.1]; exact e
    · rw [upd_ne nmb, upd_ne nma, hm]
      have e := congrArg (List.map V.str) (setR_fst rl (z, st, ws))
      rw [List.map_map, List.map_map] at e
      exact congrArg (fun l => some (HO.lst l)) e.symm
    · exact rlL_keep (setL_pair (r := (z, st, ws)) ⟨ts, hts, htw⟩ pr) (k1.trans k2)
end
end My

namespace My
open PySem L2
def spPStarts (C Cw : Addr) : Sp := fun vs H Q _ => ∃ (y x m a b : Addr) (rl : List Rl), vs = [.ref y] ∧ Pol C Cw H y x m a b rl ∧ rl.length ≤ 1000 ∧
  ∀ u H', Same H H' → H u = none → H' u = some (.tup ((rl.filter (·.2.1)).map fun r => .str r.1)) → Q (.ref u) H'
section
variable {w : World} {K : PySem.W.Frag} {mg : Str → Option Value} {base : Heap}
set_option pp.maxSteps 600 in
theorem ok_Policy_starts (T : Txt K mg) : FnOk PP w K mg base CX0 1 T.a_Policy_starts T.fd_Policy_starts ["self"] (spPStarts T.c_Policy T.c_Way) := by
  refine T.F_Policy_starts.ok sc_Policy_starts (fun vs H Q E h => ?_) (fun cdv A outer s H vs Q E hr h => ?_)
  · obtain ⟨y, x, m, a, b, rl, rfl, _⟩ := h; rfl
  · obtain ⟨y, x, m, a, b, rl, rfl, ⟨⟨dy, hy⟩, hm, ⟨ls, ha, hb, pr⟩, ne, nd⟩, lrl, q⟩ := h
    refine ⟨_, (pss_one (ps_ret (pe_callTy call_tuple_of (by rfl) T.n_tuple (by decide +kernel) (pa_cons (pe_lc (own := [("mark", 1)]) (g := (gName 1)) (by rfl) sc_Policy_starts.nd (pi_list (pe_fld (pv 0) rfl)) (blkOk_by (own := [("mark", 1)]) (N := ["self", "mark"]) (sc := defScope S_Policy_starts) (by decide +kernel)) (fun _ _ _ _ _ => (pg_name (i := 1) sc_Policy_starts.nd rfl (by first | exact .inl rfl | exact .inr rfl))) (fun _ _ _ _ _ => (pts_one (pt_val (pe_dget (hu_of hr) (pe_fldK (K := K) rfl (pv 0) rfl) (pv 1) (fun _ _ => rfl))))) (fun _ _ _ _ _ => (pv 1))) pa_nil)))), ?_⟩
    have big : 100000 < sizeLine := by decide
    have lls := pair_len' pr
    refine ⟨_, rfl, y, _, dy, _, _, rfl, hy, T.cl_Policy, T.no_Policy__marks, polF2 x m a b, m, rfl, ⟨_, SqL.of hm⟩, fun D hD => lc_list (K := K) (a := m) (xs := rl.map fun r => .str r.1) (fun i H' => Same H H' ∧ H' D = some (.lst (((rl.take i).filter (·.2.1)).map fun r => .str r.1))) ⟨same_new hD, upd_same⟩ (fun i H' _ h => SqL.of (h.1 _ _ hm)) ?_ ?_⟩
    · rintro i v H1 hv ⟨s1, h1⟩
      obtain ⟨r, hr, rfl⟩ : ∃ r, rl[i]? = some r ∧ v = .str r.1 := by
        rw [List.getElem?_map] at hv
        cases e : rl[i]? with
        | none => rw [e] at hv; cases hv
        | some r => rw [e] at hv; exact ⟨r, rfl, (Option.some.inj hv).symm⟩
      have hi := (List.getElem?_eq_some_iff.mp hr).1
      obtain ⟨q0, e0, r1⟩ : ∃ q0, ls[i]? = some q0 ∧ RlL T.c_Way H q0 r := by
        have hi' : i < ls.length := by omega
        obtain ⟨r', e1, e2⟩ := pair_get' pr (List.getElem?_eq_getElem hi')
        rw [hr] at e1; cases e1
        exact ⟨_, List.getElem?_eq_getElem hi', e2⟩
      have f0 := find_at (by rw [pair_fst pr]; exact nd) e0
      rw [r1.1] at f0
      have ht : (((rl.take (i + 1)).filter (·.2.1)).map fun r => V.str r.1) = (((rl.take i).filter (·.2.1)).map fun r => V.str r.1) ++ (if r.2.1 then [V.str r.1] else []) := by
        rw [List.take_add_one, hr, Option.toList_some, List.filter_append, List.map_append]
        congr 1
        cases e : r.2.1 <;> simp [e]
      rw [ht]
      refine ⟨rfl, _, rfl, y, _, dy, _, _, rfl, s1 _ _ hy, T.cl_Policy, T.no_Policy__starts, polF3 x m a b, _, rfl, a, _, rfl, dget_st (s1 _ _ ha) f0, _, rfl, ?_⟩
      rw [r1.2.1]
      have lf : (((rl.take i).filter (·.2.1)).map fun r => V.str r.1).length < sizeLine := by
        rw [List.length_map]
        have := List.length_filter_le (fun r : Rl => r.2.1) (rl.take i)
        rw [List.length_take] at this
        omega
      cases c : r.2.1 with
      | true => exact iteT ⟨_, rfl, _, h1, lf, same_mut s1 hD, upd_same⟩
      | false => exact iteNo rfl ⟨s1, by rw [h1]; simp⟩
    rintro H1 ⟨s1, h1⟩
    rw [List.length_map, List.take_length] at h1
    refine ⟨D, _, rfl, .inl ⟨SqL.of h1, fun u nu => ?_⟩⟩
    exact q u _ (s1.trans (same_new nu)) (s1.free nu) upd_same
end
end My

namespace My
open PySem L2
theorem fold_setR (f : Str → Rl) (hf : ∀ z, (f z).1 = z) : ∀ (ms : List Str) (rl : List Rl), (ms.map f).foldl setR rl = rl.map fun q => if q.1 ∈ ms then f q.1 else q
  | [], rl => by simp
  | z :: ms, rl => by
    rw [List.map_cons, List.foldl_cons, fold_setR f hf ms]
    unfold setR
    rw [List.map_map]
    refine List.map_congr_left fun q _ => ?_
    show (if (if q.1 = (f z).1 then f z else q).1 ∈ ms then f (if q.1 = (f z).1 then f z else q).1 else (if q.1 = (f z).1 then f z else q)) = _
    rw [hf]
    by_cases e : q.1 = z
    · rw [if_pos e, hf, e, if_pos (List.mem_cons_self)]
      split <;> rfl
    · rw [if_neg e]
      by_cases m : q.1 ∈ ms
      · rw [if_pos m, if_pos (List.mem_cons_of_mem _ m)]
      · rw [if_neg m, if_neg (fun h => (List.mem_cons.mp h).elim e m)]
theorem fold_all (f : Str → Rl) (hf : ∀ z, (f z).1 = z) (rs : List Row) : ((mks rs).map f).foldl setR (emptyR rs) = (mks rs).map f := by
  rw [fold_setR f hf]
  unfold emptyR
  rw [List.map_map]
  refine List.map_congr_left fun z hz => ?_
  show (if z ∈ mks rs then f z else (z, false, [])) = f z
  rw [if_pos hz]
def spPEv (C Cw Cs : Addr) : Sp := fun vs H Q _ => ∃ (x q : Addr) (rs : List Row) (ws : List Wv), vs = [.ref C, .ref x, .ref q] ∧ ShO Cs H x rs ∧ (mks rs).Nodup ∧ rs.length ≤ 100 ∧ WysT Cw H q ws ∧
  ∀ y m a b H', Same H H' → H y = none → H m = none → H a = none → H b = none → Pol C Cw H' y x m a b ((mks rs).map fun z => (z, true, ws)) → Q (.ref y) H'
def spPReady (C Cw Cs : Addr) (k : Wv) : Sp := fun vs H Q _ => ∃ (x : Addr) (rs : List Row), vs = [.ref C, .ref x] ∧ ShO Cs H x rs ∧ (mks rs).Nodup ∧ rs.length ≤ 100 ∧
  ∀ y m a b H', Same H H' → H y = none → H m = none → H a = none → H b = none → Pol C Cw H' y x m a b ((mks rs).map fun z => (z, true, [k])) → Q (.ref y) H'
theorem free_make {H : Hp} {y dy c : Addr} {o o' : HO} (ny : H y = none) (ndy : H dy = none) (ne : dy ≠ y) (h : (upd (upd H dy o) y o') c = none) : H c = none := by
  have n1 : c ≠ y := fun e => by rw [e, upd_same] at h; cases h
  rw [upd_ne n1] at h
  exact (same_new ndy).free h
section
variable {w : World} {K : PySem.W.Frag} {mg : Str → Option Value} {base : Heap}
set_option pp.maxSteps 600 in
theorem ok_Policy_everywhere (T : Txt K mg) : FnR PP w K mg base (L2.CX PP w) 10 T.a_Policy_everywhere (spStar 2 (spPEv T.c_Policy T.c_Way T.c_Shape)) := by
  refine Fun.starX (k := 9) (ps := ["cls", "shape"]) T.F_Policy_everywhere sc_Policy_everywhere T.bs_Policy_everywhere fun cdv A outer s H vs Q E hr h => ?_
  obtain ⟨x, q, rs, ws, rfl, hS, nd, lr, hw, qq⟩ := h
  refine ⟨_, (pss_one (ps_ret (pe_makeV (pv 0) T.mk_Policy (ok_Policy_init T) (hr.mono (by omega)) T.kb_Policy_init_3.choose_spec.2 T.kb_Policy_init_3.choose_spec.1 pass0 (pa_cons (pv 1) (pa_cons (pe_lc (own := [("mark", 3)]) (g := (gName 3)) (by rfl) sc_Policy_everywhere.nd (pi_own T.m_Shape_iter (ok_Shape_iter T) (hr.mono (by omega)) (pv 1)) (blkOk_by (own := [("mark", 3)]) (N := ["cls", "shape", "ways", "mark"]) (sc := defScope S_Policy_everywhere) (by decide +kernel)) (fun _ _ _ _ _ => (pg_name (i := 3) sc_Policy_everywhere.nd rfl (by first | exact .inl rfl | exact .inr rfl))) (fun _ _ _ _ _ => pts_nil) (fun _ _ _ _ _ => (pe_tup (pa_cons (pv 3) (pa_cons (pe_bl) (pa_cons (pv 2) pa_nil)))))) pa_nil))))), ?_⟩
  have big : 100000 < sizeLine := by decide
  obtain ⟨dx, l, mm, vs0, hx, hl, hrs, hmm⟩ := hS
  have lmk : (mks rs).length = rs.length := by unfold mks; rw [List.length_map]
  have lmV : (mksV rs).length = rs.length := by unfold mksV; rw [List.length_map]
  obtain ⟨ts, hts, htw⟩ := hw
  refine ⟨_, rfl, rfl, _, rfl, _, rfl, x, dx, mm, _, mksV rs, rfl, hx, sh_look2 l mm, SqL.of hmm, fun D hD => lc_list (K := K) (a := mm) (xs := mksV rs) (fun i H' => ∃ us, Same H H' ∧ H' D = some (.lst us) ∧ Paired (RwV T.c_Way H') us (((mks rs).take i).map fun z => (z, true, ws))) ⟨[], same_new hD, upd_same, by rw [List.take_zero]; exact .nil⟩ (fun i H' _ ⟨_, s, _⟩ => SqL.of (s _ _ hmm)) ?_ ?_⟩
  · rintro i v H1 hv ⟨us, s1, h1, pr⟩
    obtain ⟨z, hz, rfl⟩ : ∃ z, (mks rs)[i]? = some z ∧ v = .str z := by
      unfold mksV at hv
      rw [List.getElem?_map] at hv
      cases e : rs[i]? with
      | none => rw [e] at hv; cases hv
      | some r => rw [e] at hv; exact ⟨r.mark, by unfold mks; rw [List.getElem?_map, e]; rfl, (Option.some.inj hv).symm⟩
    have hi := (List.getElem?_eq_some_iff.mp hz).1
    have lus : us.length = i := by rw [pair_len' pr, List.length_map, List.length_take]; omega
    refine ⟨rfl, ?_⟩
    unfold tYes
    refine iteT ⟨_, rfl, _, rfl, by show 3 ≤ sizeLine; decide, fun u nu => ?_⟩
    have s2 := same_new (o := .tup [.str z, .bl true, .ref q]) nu
    have hu : (upd H1 u (.tup [.str z, .bl true, .ref q])) u = some (.tup [.str z, .bl true, .ref q]) := upd_same
    have nuD : u ≠ D := (ne_of_none h1 nu).symm
    refine ⟨us, s2 _ _ h1, by omega, us ++ [.ref u], same_mut (s1.trans s2) hD, upd_same, ?_⟩
    have kk : Kw T.c_Way (upd H1 u (.tup [.str z, .bl true, .ref q])) (upd (upd H1 u (.tup [.str z, .bl true, .ref q])) D (.lst (us ++ [.ref u]))) := .upd (s2 _ _ h1) fun t => by rcases t with ⟨_, e⟩ | ⟨_, _, _, _, _, e⟩ <;> cases e
    rw [List.take_succ, hz, Option.toList_some, List.map_append]
    refine pair_app' (L2.Paired.mapP pr fun _ _ h => (h.keep (.same s2)).keep kk) (.cons ⟨u, q, rfl, kk _ _ hu (.inl ⟨_, rfl⟩), ?_⟩ .nil)
    exact (WysT.keep (Cw := T.c_Way) ⟨ts, hts, htw⟩ ((Kw.same (s1.trans s2)).trans kk))
  rintro H1 ⟨us, s1, h1, pr⟩
  rw [lmV, ← lmk, List.take_length] at pr
  refine fun y dy ny ndy ne => ?_
  have s2 : Same H1 (upd (upd H1 dy (.own y)) y (.ins T.c_Policy dy [])) := same_make ny ndy fun c o n e => by exact e
  refine ⟨y, dy, x, D, us, (mks rs).map (fun z => (z, true, ws)), rs, rfl, upd_same, (ShO.same (show ShO T.c_Shape H x rs from ⟨dx, l, mm, vs0, hx, hl, hrs, hmm⟩) (s1.trans s2)), nd, lr, s2 _ _ h1, L2.Paired.mapP pr fun _ _ h => h.keep (.same s2), fun r hr => ?_, fun m a b H3 b3 nm na nb P3 => ⟨rfl, ?_⟩⟩
  · obtain ⟨z, hz, rfl⟩ := List.mem_map.mp hr
    exact hz
  rw [fold_all _ (fun _ => rfl)] at P3
  exact qq y m a b H3 (s1.trans (same_make ny ndy b3)) (s1.free ny) (s1.free (free_make ny ndy ne nm)) (s1.free (free_make ny ndy ne na)) (s1.free (free_make ny ndy ne nb)) P3
end
end My

namespace My
open PySem L2
section
variable {w : World} {K : PySem.W.Frag} {mg : Str → Option Value} {base : Heap}
theorem ok_Policy_two_phase (T : Txt K mg) : FnOk PP w K mg base CX0 11 T.a_Policy_two_phase T.fd_Policy_two_phase ["cls", "shape"] (spPReady T.c_Policy T.c_Way T.c_Shape (0, 0, 0, true)) := by
  refine T.F_Policy_two_phase.ok sc_Policy_two_phase (fun vs H Q E h => ?_) (fun cdv A outer s H vs Q E hr h => ?_)
  · obtain ⟨x, rs, rfl, _⟩ := h; rfl
  · obtain ⟨x, rs, rfl, hS, nd, lr, qq⟩ := h
    refine ⟨_, (pss_one (ps_ret (ClX.pe_cmeth (pv 0) T.cr_Policy T.cm_Policy_everywhere ((ok_Policy_everywhere T).calm) (hr.mono (by omega)) pass0 (pa_cons (pv 1) (pa_cons (pe_makeK0 T.mk_Way (ok_Way_init T) (hr.mono (by omega)) (by rfl) T.g_Way T.kb_Way_init_1_early.choose_spec pass0 (pk_cons (pe_bl) pk_nil)) pa_nil))))), ?_⟩
    refine ⟨_, rfl, rfl, _, rfl, rfl, rfl, fun v dv nv ndv ne => ⟨v, dv, 0, 0, 0, true, rfl, by decide, by decide, by decide, upd_same, fun H8 b8 hv => ⟨rfl, ?_⟩⟩⟩
    have s8 := same_make nv ndv b8
    refine ⟨[.ref T.c_Policy, .ref x], [.ref v], rfl, rfl, by show 1 ≤ sizeLine; decide, fun p np => ?_⟩
    have s9 := s8.trans (same_new (o := .tup [.ref v]) np)
    have hv9 := same_new (o := .tup [.ref v]) np _ _ hv
    refine ⟨x, p, rs, [(0, 0, 0, true)], rfl, hS.same s9, nd, lr, ⟨[.ref v], upd_same, .cons ⟨v, rfl, dv, hv9⟩ .nil⟩, fun y m a b H' s ny nm na nb P => ?_⟩
    exact qq y m a b H' (s9.trans s) (s9.free ny) (s9.free nm) (s9.free na) (s9.free nb) P
theorem ok_Policy_hand_over_hand (T : Txt K mg) : FnOk PP w K mg base CX0 11 T.a_Policy_hand_over_hand T.fd_Policy_hand_over_hand ["cls", "shape"] (spPReady T.c_Policy T.c_Way T.c_Shape (1, 1, 1, false)) := by
  refine T.F_Policy_hand_over_hand.ok sc_Policy_hand_over_hand (fun vs H Q E h => ?_) (fun cdv A outer s H vs Q E hr h => ?_)
  · obtain ⟨x, rs, rfl, _⟩ := h; rfl
  · obtain ⟨x, rs, rfl, hS, nd, lr, qq⟩ := h
    refine ⟨_, (pss_one (ps_ret (ClX.pe_cmeth (pv 0) T.cr_Policy T.cm_Policy_everywhere ((ok_Policy_everywhere T).calm) (hr.mono (by omega)) pass0 (pa_cons (pv 1) (pa_cons (pe_makeK0 T.mk_Way (ok_Way_init T) (hr.mono (by omega)) (by rfl) T.g_Way T.kb_Way_init_1_owned.choose_spec pass0 (pk_cons (pe_str) pk_nil)) pa_nil))))), ?_⟩
    refine ⟨_, rfl, rfl, _, rfl, rfl, rfl, fun v dv nv ndv ne => ⟨v, dv, 0, 1, 0, false, rfl, by decide, by decide, by decide, upd_same, fun H8 b8 hv => ⟨rfl, ?_⟩⟩⟩
    have s8 := same_make nv ndv b8
    refine ⟨[.ref T.c_Policy, .ref x], [.ref v], rfl, rfl, by show 1 ≤ sizeLine; decide, fun p np => ?_⟩
    have s9 := s8.trans (same_new (o := .tup [.ref v]) np)
    have hv9 := same_new (o := .tup [.ref v]) np _ _ hv
    refine ⟨x, p, rs, [(1, 1, 1, false)], rfl, hS.same s9, nd, lr, ⟨[.ref v], upd_same, .cons ⟨v, rfl, dv, hv9⟩ .nil⟩, fun y m a b H' s ny nm na nb P => ?_⟩
    exact qq y m a b H' (s9.trans s) (s9.free ny) (s9.free nm) (s9.free na) (s9.free nb) P
theorem ok_Policy_majority (T : Txt K mg) : FnOk PP w K mg base CX0 11 T.a_Policy_majority T.fd_Policy_majority ["cls", "shape"] (spPReady T.c_Policy T.c_Way T.c_Shape (2, 2, 2, false)) := by
  refine T.F_Policy_majority.ok sc_Policy_majority (fun vs H Q E h => ?_) (fun cdv A outer s H vs Q E hr h => ?_)
  · obtain ⟨x, rs, rfl, _⟩ := h; rfl
  · obtain ⟨x, rs, rfl, hS, nd, lr, qq⟩ := h
    refine ⟨_, (pss_one (ps_ret (ClX.pe_cmeth (pv 0) T.cr_Policy T.cm_Policy_everywhere ((ok_Policy_everywhere T).calm) (hr.mono (by omega)) pass0 (pa_cons (pv 1) (pa_cons (pe_makeK0 T.mk_Way (ok_Way_init T) (hr.mono (by omega)) (by rfl) T.g_Way T.kb_Way_init_1_owned.choose_spec pass0 (pk_cons (pe_str) pk_nil)) pa_nil))))), ?_⟩
    refine ⟨_, rfl, rfl, _, rfl, rfl, rfl, fun v dv nv ndv ne => ⟨v, dv, 0, 2, 0, false, rfl, by decide, by decide, by decide, upd_same, fun H8 b8 hv => ⟨rfl, ?_⟩⟩⟩
    have s8 := same_make nv ndv b8
    refine ⟨[.ref T.c_Policy, .ref x], [.ref v], rfl, rfl, by show 1 ≤ sizeLine; decide, fun p np => ?_⟩
    have s9 := s8.trans (same_new (o := .tup [.ref v]) np)
    have hv9 := same_new (o := .tup [.ref v]) np _ _ hv
    refine ⟨x, p, rs, [(2, 2, 2, false)], rfl, hS.same s9, nd, lr, ⟨[.ref v], upd_same, .cons ⟨v, rfl, dv, hv9⟩ .nil⟩, fun y m a b H' s ny nm na nb P => ?_⟩
    exact qq y m a b H' (s9.trans s) (s9.free ny) (s9.free nm) (s9.free na) (s9.free nb) P
theorem ok_Policy_all_seen (T : Txt K mg) : FnOk PP w K mg base CX0 11 T.a_Policy_all_seen T.fd_Policy_all_seen ["cls", "shape"] (spPReady T.c_Policy T.c_Way T.c_Shape (1, 1, 3, false)) := by
  refine T.F_Policy_all_seen.ok sc_Policy_all_seen (fun vs H Q E h => ?_) (fun cdv A outer s H vs Q E hr h => ?_)
  · obtain ⟨x, rs, rfl, _⟩ := h; rfl
  · obtain ⟨x, rs, rfl, hS, nd, lr, qq⟩ := h
    refine ⟨_, (pss_one (ps_ret (ClX.pe_cmeth (pv 0) T.cr_Policy T.cm_Policy_everywhere ((ok_Policy_everywhere T).calm) (hr.mono (by omega)) pass0 (pa_cons (pv 1) (pa_cons (pe_makeK0 T.mk_Way (ok_Way_init T) (hr.mono (by omega)) (by rfl) T.g_Way T.kb_Way_init_1_owned_seen.choose_spec pass0 (pk_cons (pe_str) (pk_cons (pe_str) pk_nil))) pa_nil))))), ?_⟩
    refine ⟨_, rfl, rfl, _, rfl, rfl, rfl, fun v dv nv ndv ne => ⟨v, dv, 0, 1, 3, false, rfl, by decide, by decide, by decide, upd_same, fun H8 b8 hv => ⟨rfl, ?_⟩⟩⟩
    have s8 := same_make nv ndv b8
    refine ⟨[.ref T.c_Policy, .ref x], [.ref v], rfl, rfl, by show 1 ≤ sizeLine; decide, fun p np => ?_⟩
    have s9 := s8.trans (same_new (o := .tup [.ref v]) np)
    have hv9 := same_new (o := .tup [.ref v]) np _ _ hv
    refine ⟨x, p, rs, [(1, 1, 3, false)], rfl, hS.same s9, nd, lr, ⟨[.ref v], upd_same, .cons ⟨v, rfl, dv, hv9⟩ .nil⟩, fun y m a b H' s ny nm na nb P => ?_⟩
    exact qq y m a b H' (s9.trans s) (s9.free ny) (s9.free nm) (s9.free na) (s9.free nb) P
end
end My

namespace My
open PySem L2
/-- a row of the wide shapes -/
def WOk (ms : List Str) (k : Nat) (r : Row) : Prop := ms[k]? = some r.mark ∧ ∃ j, j ≤ ms.length ∧ r.pars = ms.take j ∧ (j = 0 → r.most = 0) ∧ (0 < j → 1 ≤ r.most) ∧ r.most ≤ 4 ∧ 0 ≤ r.least ∧ r.least ≤ r.most ∧ (k = 0 → r.least = 0)
theorem wide_mks {ms : List Str} {rs : List Row} (l : rs.length = ms.length) (h : ∀ k r, rs[k]? = some r → WOk ms k r) : mks rs = ms := by
  refine List.ext_getElem? fun k => ?_
  unfold mks
  rw [List.getElem?_map]
  cases e : rs[k]? with
  | none =>
    have := List.getElem?_eq_none_iff.mp e
    rw [List.getElem?_eq_none (by omega)]; rfl
  | some r => rw [(h k r e).1]; rfl
theorem wide_good {ms : List Str} {rs : List Row} (nd : ms.Nodup) (om : ∀ m ∈ ms, isMk m = true) (l6 : ms.length ≤ 6) (l : rs.length = ms.length) (h : ∀ k r, rs[k]? = some r → WOk ms k r) : GoodC rs := by
  have em := wide_mks l h
  refine ⟨by omega, em ▸ nd, fun r hr => ?_, fun r hr p hp => ?_, fun r hr => ?_⟩
  · obtain ⟨k, hk⟩ := List.mem_iff_getElem?.mp hr
    obtain ⟨hm, j, hj, ep, z0, z1, m4, p0, pm, _⟩ := h k r hk
    have lp : r.pars.length = j := by rw [ep, List.length_take]; omega
    refine ⟨om _ (List.mem_of_getElem? hm), ?_, ?_, ?_⟩
    · unfold sizeB; simp [p0, pm, m4]
    · rw [lp, beq_iff_eq, decide_eq_decide]
      constructor
      · intro c
        by_cases j0 : j = 0
        · have := z0 j0; omega
        · omega
      · intro c; have := z1 c; omega
    · rw [ep]; exact nd.sublist (List.take_sublist ..)
  · obtain ⟨k, hk⟩ := List.mem_iff_getElem?.mp hr
    obtain ⟨_, j, _, ep, _⟩ := h k r hk
    rw [em]; rw [ep] at hp
    exact List.mem_of_mem_take hp
  · obtain ⟨k, hk⟩ := List.mem_iff_getElem?.mp hr
    obtain ⟨hm, j, hj, ep, z0, z1, m4, p0, pm, k0⟩ := h k r hk
    by_cases e : r.least = 0
    · exact .base hr e
    · have hk0 : k ≠ 0 := fun z => e (k0 z)
      have hj0 : 0 < j := by
        by_cases j0 : j = 0
        · have := z0 j0; omega
        · omega
      have hl := (List.getElem?_eq_some_iff.mp hk).1
      obtain ⟨r0, hr0⟩ : ∃ r0, rs[0]? = some r0 := ⟨_, List.getElem?_eq_getElem (by omega)⟩
      obtain ⟨hm0, _, _, _, _, _, _, _, _, l0⟩ := h 0 r0 hr0
      refine .step (p := r0.mark) hr ?_ (.base (List.mem_of_getElem? hr0) (l0 rfl))
      rw [ep]
      exact List.mem_iff_getElem?.mpr ⟨0, by rw [List.getElem?_take, if_pos hj0]; exact hm0⟩
def spLWide (K : PySem.W.Frag) : Sp := fun vs H Q _ => ∃ (d t : Addr) (n : Nat), vs = [.ref d, .ref t, .int n] ∧ Dr K H d t ∧ n ≤ 6 ∧
  ∀ (rs : List Row) ws p H', rs.length = n → GoodC rs → Dr K H' d t → But t H H' → H p = none → H' p = some (.lst ws) → RowsN (New H) true H' ws rs → Q (.ref p) H'
section
variable {P : Program} {w : World} {K : PySem.W.Frag} {mg : Str → Option Value} {base : Heap}
set_option maxHeartbeats 16000000 in
set_option pp.maxSteps 600 in
theorem ok__law_wide_rows (T : Txt K mg) : FnOk P w K mg base CX0 6 T.a__law_wide_rows T.fd__law_wide_rows ["_law_draws_here", "_law_at", "_law_count"] (spLWide K) := by
  refine T.F__law_wide_rows.ok sc__law_wide_rows (fun vs H Q E h => ?_) (fun cdv A outer s H vs Q E hr h => ?_)
  · obtain ⟨d, t, n, rfl, _⟩ := h; rfl
  · obtain ⟨d, t, n, rfl, D0, n6, q⟩ := h
    refine ⟨_, (pss_cons (ps_set (i := 3) sc__law_wide_rows.nd rfl (.inl rfl) (pe_call (ok__law_marks T) (hr.mono (by omega)) (by rfl) T.g__law_marks T.F__law_marks.kp T.b__law_marks .nil pass0 (pa_cons (pv 0) (pa_cons (pv 1) (pa_cons (pv 2) pa_nil)))))
      (pss_cons (ps_set (i := 4) sc__law_wide_rows.nd rfl (.inl rfl) (pe_lst pa_nil))
      (pss_cons (ps_for PassesOwn.never rfl (pi_range1 (by rfl) T.n_range (pa_cons (pv 2) pa_nil)) (pg_name (i := 5) sc__law_wide_rows.nd rfl (.inl rfl)) (pss_cons (ps_set (i := 6) sc__law_wide_rows.nd rfl (.inl rfl) (pe_slice sl_list (pv 3) po_none (po_some (pe_op op_sub (pv 2) (pe_call (ok__law_take T) (hr.mono (by omega)) (by rfl) T.g__law_take T.F__law_take.kp T.b__law_take .nil pass0 (pa_cons (pv 0) (pa_cons (pv 1) (pa_cons (pe_op op_add (pv 2) (pe_int)) pa_nil))))))))
      (pss_cons (ps_set (i := 7) sc__law_wide_rows.nd rfl (.inl rfl) (pe_int))
      (pss_cons (ps_set (i := 8) sc__law_wide_rows.nd rfl (.inl rfl) (pe_int))
      (C8.pss_cut (ps_if (pt_cmpR op_gt (pe_callB call_len_seq (by rfl) T.n_len (by decide +kernel) (pa_cons (pv 6) pa_nil)) (pe_int) (nomark _)) (pss_one (ps_set (i := 7) sc__law_wide_rows.nd rfl (.inl rfl) (pe_op op_sub (pe_int) (pe_call (ok__law_take T) (hr.mono (by omega)) (by rfl) T.g__law_take T.F__law_take.kp T.b__law_take .nil pass0 (pa_cons (pv 0) (pa_cons (pv 1) (pa_cons (pe_int) pa_nil))))))) pss_nil)
      (C8.pss_cut (ps_if (PW.pt (pw_and (pt_cmpR op_gt (pe_callB call_len_seq (by rfl) T.n_len (by decide +kernel) (pa_cons (pv 6) pa_nil)) (pe_int) (nomark _)) (pw_and1 (pt_cmpR op_gt (pv 5) (pe_int) (nomark _))))) (pss_one (ps_set (i := 8) sc__law_wide_rows.nd rfl (.inl rfl) (pe_call (ok__law_take T) (hr.mono (by omega)) (by rfl) T.g__law_take T.F__law_take.kp T.b__law_take .nil pass0 (pa_cons (pv 0) (pa_cons (pv 1) (pa_cons (pe_op op_add (pv 7) (pe_int)) pa_nil)))))) pss_nil)
      (pss_one (ps_expr (pe_bm PySem.F.plainAttrs_list PySem.F.slot_list_append PySem.F.type_list_append mt_append (pv 4) (pa_cons (pe_lst (pa_cons (pe_ix ix_list (pv 3) (pv 5) (fun _ _ => rfl)) (pa_cons (pv 6) (pa_cons (pv 8) (pa_cons (pv 7) (pa_cons (pe_cmpR op_eq (pe_call (ok__law_take T) (hr.mono (by omega)) (by rfl) T.g__law_take T.F__law_take.kp T.b__law_take .nil pass0 (pa_cons (pv 0) (pa_cons (pv 1) (pa_cons (pe_int) pa_nil)))) (pe_int) (nomark _)) pa_nil)))))) pa_nil))))))))))
      (pss_one (ps_ret (pv 4)))))), ?_⟩
    have big : 100000 < sizeLine := by decide
    refine ⟨_, rfl, _, rfl, _, rfl, d, t, n, rfl, D0, by omega, fun ms mk Hb lms nd om Db bb nmk hmk => ?_⟩
    have nmt : mk ≠ t := D0.na nmk
    refine ⟨Nat.zero_le _, fun L hL => ?_⟩
    have nLt : L ≠ t := Db.na hL
    have nmL : mk ≠ L := ne_of_none hmk hL
    have nL0 : H L = none := bb.free nLt hL
    have s1 := same_new (o := .lst []) hL
    refine ⟨_, rfl, _, rfl, by omega, by omega, for_range (lo := 0) (n := n) (fun k σ H' => ∃ (rs : List Row) (us : List V) (x5 x6 x7 x8 : Option V), σ = [some (.ref d), some (.ref t), some (.int n), some (.ref mk), some (.ref L), x5, x6, x7, x8] ∧ Dr K H' d t ∧ But t H H' ∧ H' mk = some (.lst (ms.map V.str)) ∧ H' L = some (.lst us) ∧ RowsN (fun a => H a = none ∧ a ≠ L) true H' us rs ∧ rs.length = k ∧ ∀ j r, rs[j]? = some r → WOk ms j r)
      ⟨[], [], _, _, _, _, rfl, Db.same s1, bb.trans (But.of_same s1), s1 _ _ hmk, upd_same, .nil, rfl, fun j r h => by simp at h⟩ ?_ ?_⟩
    rotate_left
    · rintro σ H2 ⟨rs, us, x5, x6, x7, x8, rfl, D2, b2, hmk2, hl2, pv, lk, ok⟩
      exact ⟨_, rfl, q rs us L H2 lk (wide_good nd om (by omega) (by omega) ok) D2 b2 nL0 hl2 (rowsN_sub pv fun a f => f.1)⟩
    rintro k σ H2 hk ⟨rs, us, x5, x6, x7, x8, rfl, D2, b2, hmk2, hl2, pv, lk, ok⟩
    rw [Int.zero_add]
    -- the parents
    refine ⟨_, rfl, _, rfl, _, rfl, _, rfl, _, rfl, _, _, rfl, rfl, d, t, _, rfl, D2, by omega, fun r H3 r0 r1 D3 b3 => ⟨_, _, rfl, rfl, ?_⟩⟩
    obtain ⟨j, hj⟩ : ∃ j : Nat, (n : Int) - r = (j : Nat) ∧ j ≤ n := ⟨((n : Int) - r).toNat, by omega, by omega⟩
    have ct : cutV (ms.map V.str) none (some ((n : Int) - r)) = (ms.take j).map V.str := by rw [hj.1, cut_to, List.map_take]
    refine ⟨_, rfl, mk, _, rfl, SqL.of (b3 _ _ nmt hmk2), fun pp npp => ?_⟩
    rw [ct]
    have s4 := same_new (o := .lst ((ms.take j).map V.str)) npp
    have hpp : (upd H3 pp (.lst ((ms.take j).map V.str))) pp = some (.lst ((ms.take j).map V.str)) := upd_same
    have D4 := D3.same s4
    have b4 : But t H2 _ := b3.trans (But.of_same s4)
    have npt : pp ≠ t := D3.na npp
    have npL : pp ≠ L := (ne_of_none (b3 _ _ nLt hl2) npp).symm
    have np0 : H pp = none := (b2.trans b3).free npt npp
    have lpp : ((ms.take j).map V.str).length = j := by rw [List.length_map, List.length_take]; omega
    revert hpp D4 b4
    generalize upd H3 pp (.lst ((ms.take j).map V.str)) = H4
    intro hpp D4 b4
    refine ⟨fun σ' H' => ∃ m : Int, σ' = [some (.ref d), some (.ref t), some (.int n), some (.ref mk), some (.ref L), some (.int k), some (.ref pp), some (.int m), some (.int 0)] ∧ Dr K H' d t ∧ But t H2 H' ∧ H' pp = some (.lst ((ms.take j).map V.str)) ∧ (j = 0 → m = 0) ∧ (0 < j → 1 ≤ m) ∧ m ≤ 4 ∧ 0 ≤ m, ?_, ?_⟩
    · refine ⟨_, rfl, pp, _, rfl, .inl (SqL.of hpp), _, _, rfl, rfl, _, rfl, iteD (fun c => ?_) (fun c => ?_)⟩
      · rw [lpp] at c
        refine ⟨_, rfl, _, rfl, d, t, 4, rfl, D4, by decide, fun r5 H5 r50 r51 D5 b5 => ⟨_, _, rfl, rfl, ?_⟩⟩
        exact ⟨_, rfl, D5, b4.trans b5, b5 _ _ npt hpp, fun z => by omega, fun _ => by omega, by omega, by omega⟩
      · rw [lpp] at c
        exact ⟨0, rfl, D4, b4, hpp, fun _ => rfl, fun z => by omega, by decide, by decide⟩
    rintro σ' H5 ⟨m, rfl, D5, b5, hp5, m0, m1, m4, mp⟩
    refine ⟨fun σ' H' => ∃ m2 : Int, σ' = [some (.ref d), some (.ref t), some (.int n), some (.ref mk), some (.ref L), some (.int k), some (.ref pp), some (.int m), some (.int m2)] ∧ Dr K H' d t ∧ But t H2 H' ∧ H' pp = some (.lst ((ms.take j).map V.str)) ∧ 0 ≤ m2 ∧ m2 ≤ m ∧ (k = 0 → m2 = 0), ?_, ?_⟩
    · have no : ∃ m2 : Int, ([some (.ref d), some (.ref t), some (.int n), some (.ref mk), some (.ref L), some (.int k), some (.ref pp), some (.int m), some (.int 0)] : L2.St) = [some (.ref d), some (.ref t), some (.int n), some (.ref mk), some (.ref L), some (.int k), some (.ref pp), some (.int m), some (.int m2)] ∧ Dr K H5 d t ∧ But t H2 H5 ∧ H5 pp = some (.lst ((ms.take j).map V.str)) ∧ 0 ≤ m2 ∧ m2 ≤ m ∧ (k = 0 → m2 = 0) := ⟨0, rfl, D5, b5, hp5, by decide, mp, fun _ => rfl⟩
      refine ⟨_, rfl, pp, _, rfl, .inl (SqL.of hp5), _, _, rfl, rfl, _, rfl, iteD (fun c => ?_) (fun c => ?_)⟩
      · refine ⟨_, rfl, _, _, rfl, rfl, _, rfl, iteD (fun c2 => ?_) (fun c2 => no)⟩
        refine ⟨_, rfl, _, rfl, _, rfl, _, _, rfl, rfl, d, t, _, rfl, D5, by omega, fun r6 H6 r60 r61 D6 b6 => ?_⟩
        exact ⟨r6, rfl, D6, b5.trans b6, b6 _ _ npt hp5, r60, by omega, fun z => by rw [z] at c2; simp at c2⟩
      · exact no
    rintro σ' H6 ⟨m2, rfl, D6, b6, hp6, p0, pm, pk⟩
    obtain ⟨z, hz⟩ : ∃ z, ms[k]? = some z := ⟨_, List.getElem?_eq_getElem (by omega)⟩
    have hL6 := b6 _ _ nLt hl2
    refine ⟨_, rfl, .inl ⟨rfl, _, SqL.of hL6⟩, _, rfl, _, rfl, _, _, _, _, rfl, rfl, SqL.of (b6 _ _ nmt hmk2), atI_nat (j := k) (by rw [List.getElem?_map, hz]; rfl), _, rfl, _, rfl, _, rfl, ?_⟩
    refine ⟨_, rfl, _, rfl, d, t, 2, rfl, D6, by decide, fun r7 H7 _ _ D7 b7 => ⟨rfl, by show 5 ≤ sizeLine; decide, fun u nu => ?_⟩⟩
    have b67 := b6.trans b7
    have b27 := b2.trans b67
    have hL7 := b67 _ _ nLt hl2
    have s8 := same_new (o := .lst [.str z, .ref pp, .int m2, .int m, .bl (decide (V.int r7 = V.int 1))]) nu
    have hu : (upd H7 u (.lst [.str z, .ref pp, .int m2, .int m, .bl (decide (V.int r7 = V.int 1))])) u = some (.lst [.str z, .ref pp, .int m2, .int m, .bl (decide (V.int r7 = V.int 1))]) := upd_same
    have D8 := D7.same s8
    have b8 := b27.trans (But.of_same s8)
    have nuL : u ≠ L := (ne_of_none hL7 nu).symm
    have lu := pair_len' pv
    have hp8 := s8 _ _ (b7 _ _ npt hp6)
    have hmk8 := s8 _ _ (b67 _ _ nmt hmk2)
    have hL8 := s8 _ _ hL7
    have ndL : d ≠ L := Db.nd hL
    have nu0 := b27.free (D7.na nu) nu
    have pv8 : RowsN (fun a => H a = none ∧ a ≠ L) true (upd H7 u (.lst [.str z, .ref pp, .int m2, .int m, .bl (decide (V.int r7 = V.int 1))])) us rs := rowsN_le pv fun a o f e => s8 _ _ (b67 _ _ (D0.na f.1) e)
    revert hu D8 b8 hp8 hmk8 hL8 pv8
    generalize upd H7 u (.lst [.str z, .ref pp, .int m2, .int m, .bl (decide (V.int r7 = V.int 1))]) = H8
    intro hu D8 b8 hp8 hmk8 hL8 pv8
    refine ⟨_, _, _, rfl, rfl, hL8, by omega, ?_⟩
    refine ⟨rs ++ [⟨z, ms.take j, m2, m, decide (V.int r7 = V.int 1)⟩], us ++ [.ref u], _, _, _, _, rfl, ⟨D8.ds.elim fun zs e => ⟨zs, by rw [upd_ne ndL]; exact e⟩, D8.pl.elim fun k e => ⟨k, by rw [upd_ne nLt.symm]; exact e⟩, D8.ne⟩, b8.mut nL0, by rw [upd_ne nmL]; exact hmk8, upd_same, ?_, by rw [List.length_append, lk]; rfl, fun i r hr => ?_⟩
    · refine pair_app' (rowsN_le pv8 fun a o f e => by rw [upd_ne f.2]; exact e) (.cons ⟨u, pp, rfl, ⟨nu0, nuL⟩, ⟨np0, npL⟩, by rw [upd_ne nuL]; exact hu, by rw [upd_ne npL]; exact hp8⟩ .nil)
    · by_cases c : i < rs.length
      · rw [List.getElem?_append_left c] at hr
        exact ok i r hr
      · rw [List.getElem?_append_right (by omega)] at hr
        have hi : i = rs.length := by
          have := (List.getElem?_eq_some_iff.mp hr).1
          simp at this
          omega
        subst hi
        rw [Nat.sub_self] at hr
        obtain rfl := Option.some.inj hr
        rw [lk]
        exact ⟨hz, j, by omega, rfl, m0, m1, m4, p0, pm, pk⟩
end
end My

namespace My
open PySem L2
theorem dn_strs {K : PySem.W.Frag} {x : Addr} {H : Hp} {n : Nat} : ∀ l : List Str, Paired (Dn K x H n) (l.map V.str) (l.map .str)
  | [] => .nil
  | z :: l => .cons (Dn.str z) (dn_strs l)
theorem dn_strL {K : PySem.W.Frag} {x a : Addr} {H : Hp} {n : Nat} {l : List Str} (h : H a = some (.lst (l.map V.str))) (ne : a ≠ x) (hz : l.length ≤ 100000) : Dn K x H (n + 1) (.ref a) (.list (l.map .str)) := Dn.lst ne (SqL.of h) (dn_strs l) (by rw [List.length_map]; exact hz)
theorem dn_strT {K : PySem.W.Frag} {x a : Addr} {H : Hp} {n : Nat} {l : List Str} (h : H a = some (.tup (l.map V.str))) (ne : a ≠ x) (hz : l.length ≤ 100000) : Dn K x H (n + 1) (.ref a) (.tuple (l.map .str)) := Dn.tup ne (SqT.of h) (dn_strs l) (by rw [List.length_map]; exact hz)
theorem dn_row {K : PySem.W.Frag} {x : Addr} {H : Hp} {n : Nat} {r : Row} {p pp : Addr} (hp : H p = some (.tup (rowL r pp))) (hpp : H pp = some (.tup (r.pars.map V.str))) (n1 : p ≠ x) (n2 : pp ≠ x) (hz : r.pars.length ≤ 1000) : Dn K x H (n + 2) (.ref p) (rowD r) :=
  Dn.tup n1 (SqT.of hp) (.cons (Dn.str _) (.cons (dn_strT hpp n2 (by omega)) (.cons (Dn.int _) (.cons (Dn.int _) (.cons (Dn.bl _) .nil))))) (by simp [rowL])
theorem rowsN_leA {F : Addr → Prop} {b : Bool} {H H' : Hp} {vs : List V} {rs : List Row} {A : List Addr} (h : RowsN F b H vs rs) (l : Le A H H') (n : ∀ a, F a → a ∉ A) : RowsN F b H' vs rs := rowsN_le h fun a o f e => l a o (n a f) e
/-- the rows' own addresses are taken -/
theorem rowsN_al {F : Addr → Prop} {b : Bool} {H : Hp} {vs : List V} {rs : List Row} (h : RowsN F b H vs rs) : RowsN (fun a => F a ∧ ∃ o, H a = some o) b H vs rs := L2.Paired.mapP h fun _ _ ⟨p, pp, e, f, g, x, y⟩ => ⟨p, pp, e, ⟨f, _, x⟩, ⟨g, _, y⟩, x, y⟩
def rowDb (b : Bool) (r : Row) : PyData := if b then .list [.str r.mark, .list (r.pars.map .str), .int r.least, .int r.most, .bool r.sh] else rowD r
theorem dn_rowN {K : PySem.W.Frag} {F : Addr → Prop} {x : Addr} {b : Bool} {H : Hp} {n : Nat} {v : V} {r : Row} (h : RowN F b H v r) (nx : ∀ a, F a → a ≠ x) (hz : r.pars.length ≤ 1000) : Dn K x H (n + 2) v (rowDb b r) := by
  obtain ⟨p, pp, rfl, f, g, hp, hpp⟩ := h
  cases b with
  | true =>
    have hp : H p = some (.lst (rowL r pp)) := hp
    have hpp : H pp = some (.lst (r.pars.map V.str)) := hpp
    exact Dn.lst (nx p f) (SqL.of hp) (.cons (Dn.str _) (.cons (dn_strL hpp (nx pp g) (by omega)) (.cons (Dn.int _) (.cons (Dn.int _) (.cons (Dn.bl _) .nil))))) (by simp [rowL])
  | false => exact dn_row hp hpp (nx p f) (nx pp g) hz
theorem dn_rowsN {K : PySem.W.Frag} {F : Addr → Prop} {x a : Addr} {b : Bool} {H : Hp} {vs : List V} {rs : List Row} (h : RowsN F b H vs rs) (ha : H a = some (.lst vs)) (na : a ≠ x) (nx : ∀ a, F a → a ≠ x) (hz : ∀ r ∈ rs, r.pars.length ≤ 1000) (hl : rs.length ≤ 1000) : Dn K x H 3 (.ref a) (.list (rs.map (rowDb b))) := by
  refine Dn.lst na (SqL.of ha) ?_ (by rw [pair_len' h]; omega)
  revert hz
  clear ha hl
  induction h with
  | nil => intro _; exact .nil
  | cons r t ih => intro hz; exact .cons (dn_rowN r nx (hz _ (by simp))) (ih fun q hq => hz q (by simp [hq]))
theorem GoodC.bnd {rs : List Row} (g : GoodC rs) : ∀ r ∈ rs, r.mark.length ≤ 8 ∧ r.pars.length ≤ 6 := fun r hr => by
  obtain ⟨a, _, _, d⟩ := g.row r hr
  unfold isMk at a
  rw [Bool.and_eq_true, decide_eq_true_iff] at a
  have := List.Nodup.length_le_of_subset d (g.pars r hr)
  unfold mks at this
  rw [List.length_map] at this
  have := g.len
  exact ⟨by omega, by omega⟩
end My

namespace My
open PySem L2
def spLWShape (C : Addr) : Sp := fun vs H Q _ => ∃ (a : Addr) (us : List V) (rs : List Row), vs = [.ref a] ∧ H a = some (.lst us) ∧ RowsN (fun _ => True) true H us rs ∧ GoodC rs ∧
  ∀ x H', Same H H' → H x = none → ShN (fun a => H a = none) C H' x rs → Q (.ref x) H'
section
variable {w : World} {K : PySem.W.Frag} {mg : Str → Option Value} {base : Heap}
set_option maxHeartbeats 16000000 in
theorem ok__law_wide_shape (T : Txt K mg) : FnOk PP w K mg base CX0 7 T.a__law_wide_shape T.fd__law_wide_shape ["_law_rows"] (spLWShape T.c_Shape) := by
  refine T.F__law_wide_shape.ok sc__law_wide_shape (fun vs H Q E h => ?_) (fun cdv A outer s H vs Q E hr h => ?_)
  · obtain ⟨a, us, rs, rfl, _⟩ := h; rfl
  · obtain ⟨a, us, rs, rfl, ha, hR, g, q⟩ := h
    have l6 : us.length ≤ 6 := by have := pair_len' hR; have := g.len; omega
    refine ⟨_, (pss_cons (ps_setLc (i := 1) (own := [("_law_row", 2)]) (g := (gName 2)) (by rfl) sc__law_wide_shape.nd rfl rfl (sw_true rfl rfl rfl (by decide +kernel)) (pi_list (pv 0)) (blkOk_by (own := [("_law_row", 2)]) (N := ["_law_rows", "_law_made", "_law_row"]) (sc := defScope S__law_wide_shape) (by decide +kernel)) (fun _ _ _ _ _ => (pg_name (i := 2) sc__law_wide_shape.nd rfl (by first | exact .inl rfl | exact .inr rfl))) (fun _ _ _ _ _ => pts_nil) (fun _ _ _ _ _ => (pe_tup (pa_cons (pe_ix (ixLK (K := K) rfl) (pv 2) (pe_int) (fun _ _ => rfl)) (pa_cons (pe_callTy (tupleK (K := K) rfl) (by rfl) T.n_tuple (by decide +kernel) (pa_cons (pe_ix (ixLK (K := K) rfl) (pv 2) (pe_int) (fun _ _ => rfl)) pa_nil)) (pa_cons (pe_ix (ixLK (K := K) rfl) (pv 2) (pe_int) (fun _ _ => rfl)) (pa_cons (pe_ix (ixLK (K := K) rfl) (pv 2) (pe_int) (fun _ _ => rfl)) (pa_cons (pe_ix (ixLK (K := K) rfl) (pv 2) (pe_int) (fun _ _ => rfl)) pa_nil))))))))
      (pss_cons (ps_if (pt_cmpR op_eq (pe_callB call_len_seq (by rfl) T.n_len (by decide +kernel) (pa_cons (pv 1) pa_nil)) (pe_int) (nomark _)) (pss_one (ps_ret (pe_makeR0 T.mk_Shape ((ok_Shape_init T).calm) (hr.mono (by omega)) (by rfl) T.g_Shape pass0))) pss_nil)
      (pss_cons (ps_if (pt_cmpR op_eq (pe_callB call_len_seq (by rfl) T.n_len (by decide +kernel) (pa_cons (pv 1) pa_nil)) (pe_int) (nomark _)) (pss_one (ps_ret (StX.pe_makeR T.mk_Shape ((ok_Shape_init T).calm) (hr.mono (by omega)) (by rfl) T.g_Shape pass0 (pa_cons (pe_ix ix_list (pv 1) (pe_int) (fun _ _ => rfl)) pa_nil)))) pss_nil)
      (pss_cons (ps_if (pt_cmpR op_eq (pe_callB call_len_seq (by rfl) T.n_len (by decide +kernel) (pa_cons (pv 1) pa_nil)) (pe_int) (nomark _)) (pss_one (ps_ret (StX.pe_makeR T.mk_Shape ((ok_Shape_init T).calm) (hr.mono (by omega)) (by rfl) T.g_Shape pass0 (pa_cons (pe_ix ix_list (pv 1) (pe_int) (fun _ _ => rfl)) (pa_cons (pe_ix ix_list (pv 1) (pe_int) (fun _ _ => rfl)) pa_nil))))) pss_nil)
      (pss_cons (ps_if (pt_cmpR op_eq (pe_callB call_len_seq (by rfl) T.n_len (by decide +kernel) (pa_cons (pv 1) pa_nil)) (pe_int) (nomark _)) (pss_one (ps_ret (StX.pe_makeR T.mk_Shape ((ok_Shape_init T).calm) (hr.mono (by omega)) (by rfl) T.g_Shape pass0 (pa_cons (pe_ix ix_list (pv 1) (pe_int) (fun _ _ => rfl)) (pa_cons (pe_ix ix_list (pv 1) (pe_int) (fun _ _ => rfl)) (pa_cons (pe_ix ix_list (pv 1) (pe_int) (fun _ _ => rfl)) pa_nil)))))) pss_nil)
      (pss_cons (ps_if (pt_cmpR op_eq (pe_callB call_len_seq (by rfl) T.n_len (by decide +kernel) (pa_cons (pv 1) pa_nil)) (pe_int) (nomark _)) (pss_one (ps_ret (StX.pe_makeR T.mk_Shape ((ok_Shape_init T).calm) (hr.mono (by omega)) (by rfl) T.g_Shape pass0 (pa_cons (pe_ix ix_list (pv 1) (pe_int) (fun _ _ => rfl)) (pa_cons (pe_ix ix_list (pv 1) (pe_int) (fun _ _ => rfl)) (pa_cons (pe_ix ix_list (pv 1) (pe_int) (fun _ _ => rfl)) (pa_cons (pe_ix ix_list (pv 1) (pe_int) (fun _ _ => rfl)) pa_nil))))))) pss_nil)
      (pss_cons (ps_if (pt_cmpR op_eq (pe_callB call_len_seq (by rfl) T.n_len (by decide +kernel) (pa_cons (pv 1) pa_nil)) (pe_int) (nomark _)) (pss_one (ps_ret (StX.pe_makeR T.mk_Shape ((ok_Shape_init T).calm) (hr.mono (by omega)) (by rfl) T.g_Shape pass0 (pa_cons (pe_ix ix_list (pv 1) (pe_int) (fun _ _ => rfl)) (pa_cons (pe_ix ix_list (pv 1) (pe_int) (fun _ _ => rfl)) (pa_cons (pe_ix ix_list (pv 1) (pe_int) (fun _ _ => rfl)) (pa_cons (pe_ix ix_list (pv 1) (pe_int) (fun _ _ => rfl)) (pa_cons (pe_ix ix_list (pv 1) (pe_int) (fun _ _ => rfl)) pa_nil)))))))) pss_nil)
      (pss_one (ps_ret (StX.pe_makeR T.mk_Shape ((ok_Shape_init T).calm) (hr.mono (by omega)) (by rfl) T.g_Shape pass0 (pa_cons (pe_ix ix_list (pv 1) (pe_int) (fun _ _ => rfl)) (pa_cons (pe_ix ix_list (pv 1) (pe_int) (fun _ _ => rfl)) (pa_cons (pe_ix ix_list (pv 1) (pe_int) (fun _ _ => rfl)) (pa_cons (pe_ix ix_list (pv 1) (pe_int) (fun _ _ => rfl)) (pa_cons (pe_ix ix_list (pv 1) (pe_int) (fun _ _ => rfl)) (pa_cons (pe_ix ix_list (pv 1) (pe_int) (fun _ _ => rfl)) pa_nil)))))))))))))))), ?_⟩
    have big : 100000 < sizeLine := by decide
    have lu := pair_len' hR
    refine ⟨_, rfl, a, rfl, ⟨_, SqL.of ha⟩, fun D hD => lc_list (K := K) (a := a) (xs := us) (fun i H' => ∃ ws, Same H H' ∧ H' D = some (.lst ws) ∧ RowsN (fun x => H x = none ∧ x ≠ D) false H' ws (rs.take i)) ⟨[], same_new hD, upd_same, .nil⟩ (fun i H' _ ⟨_, s, _⟩ => SqL.of (s _ _ ha)) ?_ ?_⟩
    · rintro i v H1 hv ⟨ws, s1, h1, rw1⟩
      obtain ⟨r, hr, p, pp, rfl, _, _, hp, hpp⟩ := pair_get' hR hv
      have hi := (List.getElem?_eq_some_iff.mp hr).1
      have hp : H p = some (.lst (rowL r pp)) := hp
      have hpp : H pp = some (.lst (r.pars.map V.str)) := hpp
      have hp1 := s1 _ _ hp
      have hpp1 := s1 _ _ hpp
      refine ⟨rfl, ?_⟩
      unfold tYes
      refine iteT ⟨_, rfl, _, _, _, _, rfl, rfl, SqL.of hp1, atI_nat (j := 0) rfl, ?_⟩
      refine ⟨_, rfl, _, _, _, _, rfl, rfl, SqL.of hp1, atI_nat (j := 1) rfl, pp, _, rfl, .inl ⟨SqL.of hpp1, fun E hE => ?_⟩⟩
      have s2 := same_new (o := .tup (r.pars.map V.str)) hE
      have hp2 := s2 _ _ hp1
      refine ⟨_, rfl, _, _, _, _, rfl, rfl, SqL.of hp2, atI_nat (j := 2) rfl, _, rfl, _, _, _, _, rfl, rfl, SqL.of hp2, atI_nat (j := 3) rfl, _, rfl, _, _, _, _, rfl, rfl, SqL.of hp2, atI_nat (j := 4) rfl, by show 5 ≤ sizeLine; decide, fun u hu => ?_⟩
      have s3 := s2.trans (same_new (o := .tup [.str r.mark, .ref E, .int r.least, .int r.most, .bl r.sh]) hu)
      have nuD : u ≠ D := (ne_of_none (s2 _ _ h1) hu).symm
      have nED : E ≠ D := (ne_of_none h1 hE).symm
      have lw : ws.length = i := by rw [pair_len' rw1, List.length_take]; omega
      have huE : E ≠ u := ne_of_none upd_same hu
      refine ⟨_, s3 _ _ h1, by omega, ws ++ [.ref u], same_mut (s1.trans s3) hD, upd_same, ?_⟩
      rw [List.take_succ, hr]
      refine pair_app' (rowsN_le rw1 fun x o f e => by rw [upd_ne f.2]; exact s3 _ _ e) (.cons ⟨u, E, rfl, ⟨(s1.trans s2).free hu, nuD⟩, ⟨s1.free hE, nED⟩, by rw [upd_ne nuD]; exact upd_same, by rw [upd_ne nED, upd_ne huE]; exact upd_same⟩ .nil)
    rintro H1 ⟨ws, s1, h1, rw1⟩
    rw [lu, List.take_length] at rw1
    have lw := pair_len' rw1
    have sm : ∀ r ∈ rs, small r := fun r hr => by have := g.bnd r hr; exact ⟨by omega, by omega⟩
    have fin : ∀ x H', Same H1 H' → H1 x = none → ShN (fun a => H1 a = none) T.c_Shape H' x rs → Q (.ref x) H' := fun x H' s n S => q x H' (s1.trans s) (s1.free n) (S.sub fun a f => s1.free f)
    have lw6 : ws.length ≤ 6 := by omega
    clear lu l6 lw
    rcases ws with _ | ⟨v0, ws⟩
    · refine ⟨_, rfl, D, _, rfl, .inl (SqL.of h1), rfl, _, rfl, iteYes (decide_eq_true rfl) ?_⟩
      exact make_sh (rowsN_toV rw1) (by simp) sm (fun _ => fin) (fun e c v f du => (due_good g.g du).elim)
    rcases ws with _ | ⟨v1, ws⟩
    · refine ⟨_, rfl, D, _, rfl, .inl (SqL.of h1), rfl, _, rfl, iteNo (decide_eq_false fun z => by simp at z; try omega) ?_⟩
      refine ⟨_, rfl, D, _, rfl, .inl (SqL.of h1), rfl, _, rfl, iteYes (decide_eq_true rfl) ?_⟩
      exact ⟨_, rfl, _, _, _, _, rfl, rfl, SqL.of h1, atI_nat (j := 0) rfl, make_sh (rowsN_toV rw1) (by simp) sm (fun _ => fin) (fun e c v f du => (due_good g.g du).elim)⟩
    rcases ws with _ | ⟨v2, ws⟩
    · refine ⟨_, rfl, D, _, rfl, .inl (SqL.of h1), rfl, _, rfl, iteNo (decide_eq_false fun z => by simp at z; try omega) ?_⟩
      refine ⟨_, rfl, D, _, rfl, .inl (SqL.of h1), rfl, _, rfl, iteNo (decide_eq_false fun z => by simp at z; try omega) ?_⟩
      refine ⟨_, rfl, D, _, rfl, .inl (SqL.of h1), rfl, _, rfl, iteYes (decide_eq_true rfl) ?_⟩
      exact ⟨_, rfl, _, _, _, _, rfl, rfl, SqL.of h1, atI_nat (j := 0) rfl, _, rfl, _, _, _, _, rfl, rfl, SqL.of h1, atI_nat (j := 1) rfl, make_sh (rowsN_toV rw1) (by simp) sm (fun _ => fin) (fun e c v f du => (due_good g.g du).elim)⟩
    rcases ws with _ | ⟨v3, ws⟩
    · refine ⟨_, rfl, D, _, rfl, .inl (SqL.of h1), rfl, _, rfl, iteNo (decide_eq_false fun z => by simp at z; try omega) ?_⟩
      refine ⟨_, rfl, D, _, rfl, .inl (SqL.of h1), rfl, _, rfl, iteNo (decide_eq_false fun z => by simp at z; try omega) ?_⟩
      refine ⟨_, rfl, D, _, rfl, .inl (SqL.of h1), rfl, _, rfl, iteNo (decide_eq_false fun z => by simp at z; try omega) ?_⟩
      refine ⟨_, rfl, D, _, rfl, .inl (SqL.of h1), rfl, _, rfl, iteYes (decide_eq_true rfl) ?_⟩
      exact ⟨_, rfl, _, _, _, _, rfl, rfl, SqL.of h1, atI_nat (j := 0) rfl, _, rfl, _, _, _, _, rfl, rfl, SqL.of h1, atI_nat (j := 1) rfl, _, rfl, _, _, _, _, rfl, rfl, SqL.of h1, atI_nat (j := 2) rfl, make_sh (rowsN_toV rw1) (by simp) sm (fun _ => fin) (fun e c v f du => (due_good g.g du).elim)⟩
    rcases ws with _ | ⟨v4, ws⟩
    · refine ⟨_, rfl, D, _, rfl, .inl (SqL.of h1), rfl, _, rfl, iteNo (decide_eq_false fun z => by simp at z; try omega) ?_⟩
      refine ⟨_, rfl, D, _, rfl, .inl (SqL.of h1), rfl, _, rfl, iteNo (decide_eq_false fun z => by simp at z; try omega) ?_⟩
      refine ⟨_, rfl, D, _, rfl, .inl (SqL.of h1), rfl, _, rfl, iteNo (decide_eq_false fun z => by simp at z; try omega) ?_⟩
      refine ⟨_, rfl, D, _, rfl, .inl (SqL.of h1), rfl, _, rfl, iteNo (decide_eq_false fun z => by simp at z; try omega) ?_⟩
      refine ⟨_, rfl, D, _, rfl, .inl (SqL.of h1), rfl, _, rfl, iteYes (decide_eq_true rfl) ?_⟩
      exact ⟨_, rfl, _, _, _, _, rfl, rfl, SqL.of h1, atI_nat (j := 0) rfl, _, rfl, _, _, _, _, rfl, rfl, SqL.of h1, atI_nat (j := 1) rfl, _, rfl, _, _, _, _, rfl, rfl, SqL.of h1, atI_nat (j := 2) rfl, _, rfl, _, _, _, _, rfl, rfl, SqL.of h1, atI_nat (j := 3) rfl, make_sh (rowsN_toV rw1) (by simp) sm (fun _ => fin) (fun e c v f du => (due_good g.g du).elim)⟩
    rcases ws with _ | ⟨v5, ws⟩
    · refine ⟨_, rfl, D, _, rfl, .inl (SqL.of h1), rfl, _, rfl, iteNo (decide_eq_false fun z => by simp at z; try omega) ?_⟩
      refine ⟨_, rfl, D, _, rfl, .inl (SqL.of h1), rfl, _, rfl, iteNo (decide_eq_false fun z => by simp at z; try omega) ?_⟩
      refine ⟨_, rfl, D, _, rfl, .inl (SqL.of h1), rfl, _, rfl, iteNo (decide_eq_false fun z => by simp at z; try omega) ?_⟩
      refine ⟨_, rfl, D, _, rfl, .inl (SqL.of h1), rfl, _, rfl, iteNo (decide_eq_false fun z => by simp at z; try omega) ?_⟩
      refine ⟨_, rfl, D, _, rfl, .inl (SqL.of h1), rfl, _, rfl, iteNo (decide_eq_false fun z => by simp at z; try omega) ?_⟩
      refine ⟨_, rfl, D, _, rfl, .inl (SqL.of h1), rfl, _, rfl, iteYes (decide_eq_true rfl) ?_⟩
      exact ⟨_, rfl, _, _, _, _, rfl, rfl, SqL.of h1, atI_nat (j := 0) rfl, _, rfl, _, _, _, _, rfl, rfl, SqL.of h1, atI_nat (j := 1) rfl, _, rfl, _, _, _, _, rfl, rfl, SqL.of h1, atI_nat (j := 2) rfl, _, rfl, _, _, _, _, rfl, rfl, SqL.of h1, atI_nat (j := 3) rfl, _, rfl, _, _, _, _, rfl, rfl, SqL.of h1, atI_nat (j := 4) rfl, make_sh (rowsN_toV rw1) (by simp) sm (fun _ => fin) (fun e c v f du => (due_good g.g du).elim)⟩
    obtain rfl : ws = [] := by cases ws with | nil => rfl | cons => simp at lw6
    refine ⟨_, rfl, D, _, rfl, .inl (SqL.of h1), rfl, _, rfl, iteNo (decide_eq_false fun z => by simp at z; try omega) ?_⟩
    refine ⟨_, rfl, D, _, rfl, .inl (SqL.of h1), rfl, _, rfl, iteNo (decide_eq_false fun z => by simp at z; try omega) ?_⟩
    refine ⟨_, rfl, D, _, rfl, .inl (SqL.of h1), rfl, _, rfl, iteNo (decide_eq_false fun z => by simp at z; try omega) ?_⟩
    refine ⟨_, rfl, D, _, rfl, .inl (SqL.of h1), rfl, _, rfl, iteNo (decide_eq_false fun z => by simp at z; try omega) ?_⟩
    refine ⟨_, rfl, D, _, rfl, .inl (SqL.of h1), rfl, _, rfl, iteNo (decide_eq_false fun z => by simp at z; try omega) ?_⟩
    refine ⟨_, rfl, D, _, rfl, .inl (SqL.of h1), rfl, _, rfl, iteNo (decide_eq_false fun z => by simp at z; try omega) ?_⟩
    exact ⟨_, rfl, _, _, _, _, rfl, rfl, SqL.of h1, atI_nat (j := 0) rfl, _, rfl, _, _, _, _, rfl, rfl, SqL.of h1, atI_nat (j := 1) rfl, _, rfl, _, _, _, _, rfl, rfl, SqL.of h1, atI_nat (j := 2) rfl, _, rfl, _, _, _, _, rfl, rfl, SqL.of h1, atI_nat (j := 3) rfl, _, rfl, _, _, _, _, rfl, rfl, SqL.of h1, atI_nat (j := 4) rfl, _, rfl, _, _, _, _, rfl, rfl, SqL.of h1, atI_nat (j := 5) rfl, make_sh (rowsN_toV rw1) (by simp) sm (fun _ => fin) (fun e c v f du => (due_good g.g du).elim)⟩
end
end My

namespace My
open PySem L2
/-- the law's ways in a list -/
def LwV (H : Hp) (v : V) (k : Wv) : Prop := ∃ q, v = .ref q ∧ H q = some (LwO k.1 k.2.1 k.2.2.1 k.2.2.2) ∧ Adj k.1 k.2.1 k.2.2.1
theorem LwV.same {H H' : Hp} {v : V} {k : Wv} (h : LwV H v k) (s : Same H H') : LwV H' v k := let ⟨q, e, f, g⟩ := h; ⟨q, e, s _ _ f, g⟩
/-- the law's own rules in a dict -/
def RdV (H : Hp) (kv : Key × V) (r : Rl) : Prop := kv.1 = .inr r.1 ∧ ∃ q p us, kv.2 = .ref q ∧ H q = some (.lst [.bl r.2.1, .ref p]) ∧ H p = some (.lst us) ∧ Paired (LwV H) us r.2.2 ∧ us.length ≤ 100
theorem RdV.same {H H' : Hp} {kv : Key × V} {r : Rl} (h : RdV H kv r) (s : Same H H') : RdV H' kv r := let ⟨a, q, p, us, e, f, g, k, l⟩ := h; ⟨a, q, p, us, e, s _ _ f, s _ _ g, L2.Paired.mapP k fun _ _ x => x.same s, l⟩
theorem look_at : ∀ {rl : List Rl} {i : Nat} {r : Rl}, (rl.map (·.1)).Nodup → rl[i]? = some r → lookR rl r.1 = some r
  | [], _, _, _, e => by simp at e
  | q0 :: rl, 0, r, _, e => by
    simp at e
    unfold lookR
    rw [List.find?_cons, decide_eq_true (by rw [e])]
    exact congrArg some e
  | q0 :: rl, i + 1, r, nd, e => by
    have e : rl[i]? = some r := by simpa using e
    have nd := List.nodup_cons.mp (by simpa using nd : (q0.1 :: rl.map (·.1)).Nodup)
    have ne : q0.1 ≠ r.1 := fun h => nd.1 (h ▸ List.mem_map.mpr ⟨r, List.mem_of_getElem? e, rfl⟩)
    unfold lookR
    rw [List.find?_cons, decide_eq_false ne]
    exact look_at nd.2 e
theorem val_rd {H : Hp} : ∀ {kvs : List (Key × V)} {rl : List Rl} {i : Nat} {r : Rl}, Paired (RdV H) kvs rl → (rl.map (·.1)).Nodup → rl[i]? = some r → ∃ kv, valV kvs (.inr r.1) = some kv.2 ∧ RdV H kv r
  | _, _, _, _, .nil, _, e => by simp at e
  | kv :: kvs, q0 :: rl, 0, r, .cons h t, _, e => by
    simp at e; subst e
    exact ⟨kv, by rw [valV_pos h.1], h⟩
  | kv :: kvs, q0 :: rl, i + 1, r, .cons h t, nd, e => by
    have e : rl[i]? = some r := by simpa using e
    have nd := List.nodup_cons.mp (by simpa using nd : (q0.1 :: rl.map (·.1)).Nodup)
    have ne : q0.1 ≠ r.1 := fun h => nd.1 (h ▸ List.mem_map.mpr ⟨r, List.mem_of_getElem? e, rfl⟩)
    rw [valV_neg (by rw [h.1]; exact fun z => ne (by injection z))]
    exact val_rd t nd.2 e
end My

namespace My
open PySem L2
theorem isTup {K : PySem.W.Frag} {H : Hp} {z : Addr} {ws : List V} (h : H z = some (.tup ws)) : TyX K H (.ref z) (.type "tuple") := .base (.tup h)
theorem ev_st {C Cw Cs : Addr} {H : Hp} {x : Addr} {rs : List Row} {us vs : List V} {ks : List Wv} {Q : VK} {E : XK} (eu : us = .ref C :: .ref x :: vs) (hS : ShO Cs H x rs) (nd : (mks rs).Nodup) (lr : rs.length ≤ 100) (hl : vs.length ≤ 100) (pr : Paired (WyV Cw H) vs ks)
    (q : ∀ y m a b H', Same H H' → H y = none → H m = none → H a = none → H b = none → Pol C Cw H' y x m a b ((mks rs).map fun z => (z, true, ks)) → Q (.ref y) H') : spStar 2 (spPEv C Cw Cs) us H Q E := by
  subst eu
  refine ⟨[.ref C, .ref x], vs, rfl, rfl, Nat.le_trans hl (by decide : 100 ≤ sizeLine), fun p np => ?_⟩
  have s := same_new (o := .tup vs) np
  exact ⟨x, p, rs, ks, rfl, hS.same s, nd, lr, ⟨vs, upd_same, L2.Paired.mapP pr fun _ _ h => h.keep (.same s)⟩, fun y m a b H' s' ny nm na nb P => q y m a b H' (s.trans s') (s.free ny) (s.free nm) (s.free na) (s.free nb) P⟩
def spLEv (C Cw Cs : Addr) : Sp := fun vs H Q _ => ∃ (x p : Addr) (us : List V) (rs : List Row) (ks : List Wv), vs = [.ref x, .ref p] ∧ ShO Cs H x rs ∧ (mks rs).Nodup ∧ rs.length ≤ 100 ∧ H p = some (.lst us) ∧ Paired (LwV H) us ks ∧ us.length ≤ 3 ∧
  ∀ y m a b H', Same H H' → H y = none → H m = none → H a = none → H b = none → Pol C Cw H' y x m a b ((mks rs).map fun z => (z, true, ks)) → Q (.ref y) H'
def spLRule (Cw : Addr) : Sp := fun vs H Q _ => ∃ (u du t p : Addr) (us : List V) (st : Bool) (ks : List Wv), vs = [.ref u, .ref du] ∧ H u = some (.tup [.bl st, .ref t]) ∧ WysT Cw H t ks ∧ H du = some (.lst [.bl st, .ref p]) ∧ H p = some (.lst us) ∧ Paired (LwV H) us ks ∧ us.length ≤ 100 ∧
  ∀ H', Same H H' → Q (.bl true) H'
section
variable {w : World} {K : PySem.W.Frag} {mg : Str → Option Value} {base : Heap}
set_option maxHeartbeats 16000000 in
theorem ok__law_everywhere (T : Txt K mg) : FnOk PP w K mg base CX0 12 T.a__law_everywhere T.fd__law_everywhere ["_law_shape", "_law_ways"] (spLEv T.c_Policy T.c_Way T.c_Shape) := by
  refine T.F__law_everywhere.ok sc__law_everywhere (fun vs H Q E h => ?_) (fun cdv A outer s H vs Q E hr h => ?_)
  · obtain ⟨x, p, us, rs, ks, rfl, _⟩ := h; rfl
  · obtain ⟨x, p, us, rs, ks, rfl, hS, nd, lr, hp, pk, l3, q⟩ := h
    refine ⟨_, (pss_cons (ps_setLc (i := 2) (own := [("_law_way_here", 3)]) (g := (gName 3)) (by rfl) sc__law_everywhere.nd rfl rfl (sw_true rfl rfl rfl (by decide +kernel)) (pi_list (pv 1)) (blkOk_by (own := [("_law_way_here", 3)]) (N := ["_law_shape", "_law_ways", "_law_made", "_law_way_here"]) (sc := defScope S__law_everywhere) (by decide +kernel)) (fun _ _ _ _ _ => (pg_name (i := 3) sc__law_everywhere.nd rfl (by first | exact .inl rfl | exact .inr rfl))) (fun _ _ _ _ _ => pts_nil) (fun _ _ _ _ _ => (pe_call (ok__law_way_made T) (hr.mono (by omega)) (by rfl) T.g__law_way_made T.F__law_way_made.kp T.b__law_way_made .nil pass0 (pa_cons (pv 3) pa_nil))))
      (pss_cons (ps_if (pt_cmpR op_eq (pe_callB call_len_seq (by rfl) T.n_len (by decide +kernel) (pa_cons (pv 2) pa_nil)) (pe_int) (nomark _)) (pss_one (ps_ret (ClX.pe_cmeth (pe_glob (v := .ref T.c_Policy) (by rfl) T.g_Policy rfl) T.cr_Policy T.cm_Policy_everywhere ((ok_Policy_everywhere T).calm) (hr.mono (by omega)) pass0 (pa_cons (pv 0) pa_nil)))) pss_nil)
      (pss_cons (ps_if (pt_cmpR op_eq (pe_callB call_len_seq (by rfl) T.n_len (by decide +kernel) (pa_cons (pv 2) pa_nil)) (pe_int) (nomark _)) (pss_one (ps_ret (ClX.pe_cmeth (pe_glob (v := .ref T.c_Policy) (by rfl) T.g_Policy rfl) T.cr_Policy T.cm_Policy_everywhere ((ok_Policy_everywhere T).calm) (hr.mono (by omega)) pass0 (pa_cons (pv 0) (pa_cons (pe_ix ix_list (pv 2) (pe_int) (fun _ _ => rfl)) pa_nil))))) pss_nil)
      (pss_cons (ps_if (pt_cmpR op_eq (pe_callB call_len_seq (by rfl) T.n_len (by decide +kernel) (pa_cons (pv 2) pa_nil)) (pe_int) (nomark _)) (pss_one (ps_ret (ClX.pe_cmeth (pe_glob (v := .ref T.c_Policy) (by rfl) T.g_Policy rfl) T.cr_Policy T.cm_Policy_everywhere ((ok_Policy_everywhere T).calm) (hr.mono (by omega)) pass0 (pa_cons (pv 0) (pa_cons (pe_ix ix_list (pv 2) (pe_int) (fun _ _ => rfl)) (pa_cons (pe_ix ix_list (pv 2) (pe_int) (fun _ _ => rfl)) pa_nil)))))) pss_nil)
      (pss_one (ps_ret (ClX.pe_cmeth (pe_glob (v := .ref T.c_Policy) (by rfl) T.g_Policy rfl) T.cr_Policy T.cm_Policy_everywhere ((ok_Policy_everywhere T).calm) (hr.mono (by omega)) pass0 (pa_cons (pv 0) (pa_cons (pe_ix ix_list (pv 2) (pe_int) (fun _ _ => rfl)) (pa_cons (pe_ix ix_list (pv 2) (pe_int) (fun _ _ => rfl)) (pa_cons (pe_ix ix_list (pv 2) (pe_int) (fun _ _ => rfl)) pa_nil))))))))))), ?_⟩
    have big : 100000 < sizeLine := by decide
    have lu := pair_len' pk
    refine ⟨_, rfl, p, rfl, ⟨_, SqL.of hp⟩, fun D hD => lc_list (K := K) (a := p) (xs := us) (fun i H' => ∃ vs, Same H H' ∧ H' D = some (.lst vs) ∧ Paired (WyV T.c_Way H') vs (ks.take i)) ⟨[], same_new hD, upd_same, .nil⟩ (fun i H' _ ⟨_, s, _⟩ => SqL.of (s _ _ hp)) ?_ ?_⟩
    · rintro i v H1 hv ⟨vs, s1, h1, pr⟩
      obtain ⟨k, hk, q0, rfl, hq0, aj⟩ := pair_get' pk hv
      have hi := (List.getElem?_eq_some_iff.mp hk).1
      refine ⟨rfl, ?_⟩
      unfold tYes
      refine iteT ⟨_, rfl, q0, k.1, k.2.1, k.2.2.1, k.2.2.2, rfl, aj, SqL.of (s1 _ _ hq0), fun z H2 s2 nz wz => ?_⟩
      have h2 := s2 _ _ h1
      have nzD : z ≠ D := (ne_of_none h1 nz).symm
      have kk : Kw T.c_Way H2 (upd H2 D (.lst (vs ++ [.ref z]))) := .upd h2 fun t => by rcases t with ⟨_, e⟩ | ⟨_, _, _, _, _, e⟩ <;> cases e
      refine ⟨vs, h2, by rw [pair_len' pr, List.length_take]; omega, vs ++ [.ref z], same_mut (s1.trans s2) hD, upd_same, ?_⟩
      rw [List.take_succ, hk]
      exact pair_app' (L2.Paired.mapP pr fun _ _ h => (h.keep (.same s2)).keep kk) (.cons (WyV.keep ⟨z, rfl, wz⟩ kk) .nil)
    rintro H1 ⟨vs, s1, h1, pr⟩
    rw [lu, List.take_length] at pr
    have lv : vs.length ≤ 3 := by rw [pair_len' pr]; omega
    have fin : ∀ y m a b H', Same H1 H' → H1 y = none → H1 m = none → H1 a = none → H1 b = none → Pol T.c_Policy T.c_Way H' y x m a b ((mks rs).map fun z => (z, true, ks)) → Q (.ref y) H' := fun y m a b H' s ny nm na nb P => q y m a b H' (s1.trans s) (s1.free ny) (s1.free nm) (s1.free na) (s1.free nb) P
    have hS1 := hS.same s1
    clear lu l3
    rcases vs with _ | ⟨v0, vs⟩
    · refine ⟨_, rfl, D, _, rfl, .inl (SqL.of h1), rfl, _, rfl, iteYes (decide_eq_true rfl) ?_⟩
      exact ⟨rfl, _, rfl, ev_st rfl hS1 nd lr (by simp) pr fin⟩
    rcases vs with _ | ⟨v1, vs⟩
    · refine ⟨_, rfl, D, _, rfl, .inl (SqL.of h1), rfl, _, rfl, iteNo (decide_eq_false fun z => by simp at z) ⟨_, rfl, D, _, rfl, .inl (SqL.of h1), rfl, _, rfl, iteYes (decide_eq_true rfl) ?_⟩⟩
      exact ⟨rfl, _, rfl, _, rfl, _, _, _, _, rfl, rfl, SqL.of h1, atI_nat (j := 0) rfl, ev_st rfl hS1 nd lr (by simp) pr fin⟩
    rcases vs with _ | ⟨v2, vs⟩
    · refine ⟨_, rfl, D, _, rfl, .inl (SqL.of h1), rfl, _, rfl, iteNo (decide_eq_false fun z => by simp at z) ⟨_, rfl, D, _, rfl, .inl (SqL.of h1), rfl, _, rfl, iteNo (decide_eq_false fun z => by simp at z) ⟨_, rfl, D, _, rfl, .inl (SqL.of h1), rfl, _, rfl, iteYes (decide_eq_true rfl) ?_⟩⟩⟩
      exact ⟨rfl, _, rfl, _, rfl, _, _, _, _, rfl, rfl, SqL.of h1, atI_nat (j := 0) rfl, _, rfl, _, _, _, _, rfl, rfl, SqL.of h1, atI_nat (j := 1) rfl, ev_st rfl hS1 nd lr (by simp) pr fin⟩
    obtain rfl : vs = [] := by cases vs with | nil => rfl | cons => simp at lv
    refine ⟨_, rfl, D, _, rfl, .inl (SqL.of h1), rfl, _, rfl, iteNo (decide_eq_false fun z => by simp at z) ⟨_, rfl, D, _, rfl, .inl (SqL.of h1), rfl, _, rfl, iteNo (decide_eq_false fun z => by simp at z) ⟨_, rfl, D, _, rfl, .inl (SqL.of h1), rfl, _, rfl, iteNo (decide_eq_false fun z => by simp at z) ?_⟩⟩⟩
    exact ⟨rfl, _, rfl, _, rfl, _, _, _, _, rfl, rfl, SqL.of h1, atI_nat (j := 0) rfl, _, rfl, _, _, _, _, rfl, rfl, SqL.of h1, atI_nat (j := 1) rfl, _, rfl, _, _, _, _, rfl, rfl, SqL.of h1, atI_nat (j := 2) rfl, ev_st rfl hS1 nd lr (by simp) pr fin⟩
set_option pp.maxSteps 600 in
theorem ok__law_rule_same (T : Txt K mg) : FnOk PP w K mg base CX0 4 T.a__law_rule_same T.fd__law_rule_same ["_law_rule", "_law_due"] (spLRule T.c_Way) := by
  refine T.F__law_rule_same.ok sc__law_rule_same (fun vs H Q E h => ?_) (fun cdv A outer s H vs Q E hr h => ?_)
  · obtain ⟨u, du, t, p, us, st, ks, rfl, _⟩ := h; rfl
  · obtain ⟨u, du, t, p, us, st, ks, rfl, hu, ⟨ts, ht, tw⟩, hdu, hp, pk, l9, q⟩ := h
    refine ⟨_, (pss_cons (ps_set (i := 2) sc__law_rule_same.nd rfl (.inl rfl) (pe_lst (pa_cons (pe_str) (pa_cons (pe_str) (pa_cons (pe_str) (pa_cons (pe_str) pa_nil))))))
      (pss_cons (ps_if (PW.pt (pw_or (pt_not (pt_val (pe_callB call_isi (by rfl) T.n_isinstance (by decide +kernel) (pa_cons (pv 0) (pa_cons (pe_bltn (v := .ty "tuple") (by rfl) T.n_tuple (by decide +kernel) rfl) pa_nil))))) (pw_or (pt_cmpR op_ne (pe_callB call_len_seq (by rfl) T.n_len (by decide +kernel) (pa_cons (pv 0) pa_nil)) (pe_int) (nomark _)) (pw_or1 (pt_not (pt_val (pe_callB call_isi (by rfl) T.n_isinstance (by decide +kernel) (pa_cons (pe_ix ix_tup (pv 0) (pe_int) (fun _ _ => rfl)) (pa_cons (pe_bltn (v := .ty "tuple") (by rfl) T.n_tuple (by decide +kernel) rfl) pa_nil))))))))) (pss_one (ps_ret (pe_bl))) pss_nil)
      (pss_cons (ps_if (PW.pt (pw_or (pt_not (pt_val (pe_call (ok__law_same T 1) (hr.mono (by omega)) (by rfl) T.g__law_same T.F__law_same.kp T.b__law_same .nil pass0 (pa_cons (pe_ix ix_tup (pv 0) (pe_int) (fun _ _ => rfl)) (pa_cons (pe_ix ix_list (pv 1) (pe_int) (fun _ _ => rfl)) pa_nil))))) (pw_or1 (pt_cmpR op_ne (pe_callB call_len_seq (by rfl) T.n_len (by decide +kernel) (pa_cons (pe_ix ix_tup (pv 0) (pe_int) (fun _ _ => rfl)) pa_nil)) (pe_callB call_len_seq (by rfl) T.n_len (by decide +kernel) (pa_cons (pe_ix ix_list (pv 1) (pe_int) (fun _ _ => rfl)) pa_nil)) (nomark _))))) (pss_one (ps_ret (pe_bl))) pss_nil)
      (pss_cons (ps_for PassesOwn.never rfl (pi_range1 (by rfl) T.n_range (pa_cons (pe_callB call_len_seq (by rfl) T.n_len (by decide +kernel) (pa_cons (pe_ix ix_list (pv 1) (pe_int) (fun _ _ => rfl)) pa_nil)) pa_nil)) (pg_name (i := 3) sc__law_rule_same.nd rfl (.inl rfl)) (pss_cons (ps_set (i := 4) sc__law_rule_same.nd rfl (.inl rfl) (pe_ix ix_tup (pe_ix ix_tup (pv 0) (pe_int) (fun _ _ => rfl)) (pv 3) (fun _ _ => rfl)))
      (pss_cons (ps_set (i := 5) sc__law_rule_same.nd rfl (.inl rfl) (pe_ix ix_list (pe_ix ix_list (pv 1) (pe_int) (fun _ _ => rfl)) (pv 3) (fun _ _ => rfl)))
      (pss_cons (ps_if (pt_not (pt_val (pe_callB call_isi (by rfl) T.n_isinstance (by decide +kernel) (pa_cons (pv 4) (pa_cons (pe_glob (v := .ref T.c_Way) (by rfl) T.g_Way rfl) pa_nil))))) (pss_one (ps_ret (pe_bl))) pss_nil)
      (pss_cons (ps_set (i := 6) sc__law_rule_same.nd rfl (.inl rfl) (pe_lst (pa_cons (pe_fld (pv 4) rfl) (pa_cons (pe_fld (pv 4) rfl) (pa_cons (pe_fld (pv 4) rfl) (pa_cons (pe_fld (pv 4) rfl) pa_nil))))))
      (pss_one (ps_if (pt_not (pt_val (pe_call (ok__law_same T 1) (hr.mono (by omega)) (by rfl) T.g__law_same T.F__law_same.kp T.b__law_same .nil pass0 (pa_cons (pv 6) (pa_cons (pe_lst (pa_cons (pe_ix ix_list (pv 2) (pe_ix ix_list (pv 5) (pe_int) (fun _ _ => rfl)) (fun _ _ => rfl)) (pa_cons (pe_ix ix_list (pv 2) (pe_ix ix_list (pv 5) (pe_int) (fun _ _ => rfl)) (fun _ _ => rfl)) (pa_cons (pe_ix ix_list (pv 2) (pe_ix ix_list (pv 5) (pe_int) (fun _ _ => rfl)) (fun _ _ => rfl)) (pa_cons (pe_ix ix_list (pv 5) (pe_int) (fun _ _ => rfl)) pa_nil))))) pa_nil))))) (pss_one (ps_ret (pe_bl))) pss_nil)))))))
      (pss_one (ps_ret (pe_bl))))))), ?_⟩
    have big : 100000 < sizeLine := by decide
    have lk := pair_len' pk
    have lt := pair_len' tw
    refine ⟨by show 4 ≤ sizeLine; decide, fun pw npw => ?_⟩
    have s1 := same_new (o := .lst [.str "none", .str "one", .str "most", .str "all"]) npw
    have W1 : (upd H pw (.lst [.str "none", .str "one", .str "most", .str "all"])) pw = some (.lst levV) := upd_same
    have hu1 := s1 _ _ hu
    have ht1 := s1 _ _ ht
    have hdu1 := s1 _ _ hdu
    have hp1 := s1 _ _ hp
    refine ⟨_, rfl, _, _, _, _, true, rfl, ClsV.ty _, isTup hu1, kit_ty (by decide +kernel), _, rfl, iteNo rfl ?_⟩
    refine ⟨_, rfl, u, _, rfl, .inr (SqT.of hu1), rfl, _, rfl, iteNo rfl ?_⟩
    refine ⟨_, rfl, _, _, _, _, rfl, rfl, SqT.of hu1, atI_nat (j := 1) rfl, _, _, _, _, true, rfl, ClsV.ty _, isTup ht1, kit_ty (by decide +kernel), _, rfl, iteNo rfl ?_⟩
    refine ⟨_, rfl, _, _, _, _, rfl, rfl, SqT.of hu1, atI_nat (j := 0) rfl, _, rfl, _, _, _, _, rfl, rfl, SqL.of hdu1, atI_nat (j := 0) rfl, u, _, _, .bool st, .bool st, rfl, Dn.bl _, Dn.bl _, _, rfl, iteNo nsame ?_⟩
    refine ⟨_, rfl, _, _, _, _, rfl, rfl, SqT.of hu1, atI_nat (j := 1) rfl, t, _, rfl, .inr (SqT.of ht1), _, rfl, _, _, _, _, rfl, rfl, SqL.of hdu1, atI_nat (j := 1) rfl, p, _, rfl, .inl (SqL.of hp1), rfl, _, rfl, iteNo (by rw [lt, lk]; simp) ?_⟩
    revert W1 hu1 ht1 hdu1 hp1 s1
    generalize upd H pw (.lst [.str "none", .str "one", .str "most", .str "all"]) = H1
    intro s1 W1 hu1 ht1 hdu1 hp1
    refine ⟨_, rfl, _, _, _, _, rfl, rfl, SqL.of hdu1, atI_nat (j := 1) rfl, p, _, rfl, .inl (SqL.of hp1), us.length, rfl, by omega, by omega, for_range (lo := 0) (n := us.length) (fun i σ H' => ∃ x3 x4 x5 x6 : Option V, σ = [some (.ref u), some (.ref du), some (.ref pw), x3, x4, x5, x6] ∧ Same H1 H') ⟨_, _, _, _, rfl, Same.refl _⟩ ?_ ?_⟩
    rotate_left
    · rintro σ H2 ⟨x3, x4, x5, x6, rfl, s2⟩
      exact q _ (s1.trans s2)
    rintro i σ H2 hi ⟨x3, x4, x5, x6, rfl, s2⟩
    rw [Int.zero_add]
    obtain ⟨v, hv⟩ : ∃ v, us[i]? = some v := ⟨_, List.getElem?_eq_getElem hi⟩
    obtain ⟨k, hk, q0, rfl, hq0, ab, ac, c4⟩ := pair_get' pk hv
    obtain ⟨v2, hv2⟩ : ∃ v, ts[i]? = some v := ⟨_, List.getElem?_eq_getElem (by omega)⟩
    obtain ⟨k', hk', x, rfl, dx, hx⟩ := pair_get' tw hv2
    obtain rfl : k = k' := by rw [hk] at hk'; exact Option.some.inj hk'
    have s3 := s1.trans s2
    have hx2 := s3 _ _ hx
    have hq2 := s3 _ _ hq0
    refine ⟨_, rfl, _, _, _, _, rfl, rfl, SqT.of (s2 _ _ hu1), atI_nat (j := 1) rfl, _, rfl, _, _, _, _, rfl, rfl, SqT.of (s2 _ _ ht1), atI_nat (j := i) hv2, ?_⟩
    refine ⟨_, rfl, _, _, _, _, rfl, rfl, SqL.of (s2 _ _ hdu1), atI_nat (j := 1) rfl, _, rfl, _, _, _, _, rfl, rfl, SqL.of (s2 _ _ hp1), atI_nat (j := i) hv, ?_⟩
    refine ⟨_, rfl, _, _, _, _, true, rfl, ClsV.own _, .base (T.ti_Way _ _ _ _ hx2), T.kk_Way, _, rfl, iteNo rfl ?_⟩
    refine ⟨_, rfl, x, T.c_Way, dx, _, _, rfl, hx2, T.cl_Way, T.no_Way_held, wayF_held _ _ _ _, _, rfl, x, T.c_Way, dx, _, _, rfl, hx2, T.cl_Way, T.no_Way_owned, wayF_owned _ _ _ _, _, rfl, x, T.c_Way, dx, _, _, rfl, hx2, T.cl_Way, T.no_Way_seen, wayF_seen _ _ _ _, _, rfl, x, T.c_Way, dx, _, _, rfl, hx2, T.cl_Way, T.no_Way_early, wayF_early _ _ _ _, by show 4 ≤ sizeLine; decide, fun f nf => ?_⟩
    have s4 := s2.trans (same_new (o := .lst [.str (levn k.1), .str (levn k.2.1), .str (levn k.2.2.1), .bl k.2.2.2]) nf)
    have hf : (upd H2 f (.lst [.str (levn k.1), .str (levn k.2.1), .str (levn k.2.2.1), .bl k.2.2.2])) f = some (.lst [.str (levn k.1), .str (levn k.2.1), .str (levn k.2.2.1), .bl k.2.2.2]) := upd_same
    have hq3 := same_new (o := .lst [.str (levn k.1), .str (levn k.2.1), .str (levn k.2.2.1), .bl k.2.2.2]) nf _ _ hq2
    have nfu : f ≠ u := (ne_of_none (s2 _ _ hu1) nf).symm
    revert s4 hf hq3
    generalize upd H2 f (.lst [.str (levn k.1), .str (levn k.2.1), .str (levn k.2.2.1), .bl k.2.2.2]) = H3
    intro s4 hf hq3
    have W3 := s4 _ _ W1
    refine ⟨_, rfl, _, rfl, _, rfl, _, _, _, _, rfl, rfl, SqL.of hq3, at_of (j := 0) rfl rfl, _, _, _, _, rfl, rfl, SqL.of W3, at_of (j := k.1) rfl (levV_at (by omega)), ?_⟩
    refine ⟨_, rfl, _, rfl, _, _, _, _, rfl, rfl, SqL.of hq3, at_of (j := 1) rfl rfl, _, _, _, _, rfl, rfl, SqL.of W3, at_of (j := k.2.1) rfl (levV_at (by omega)), ?_⟩
    refine ⟨_, rfl, _, rfl, _, _, _, _, rfl, rfl, SqL.of hq3, at_of (j := 2) rfl rfl, _, _, _, _, rfl, rfl, SqL.of W3, at_of (j := k.2.2.1) rfl (levV_at (by omega)), ?_⟩
    refine ⟨_, rfl, _, _, _, _, rfl, rfl, SqL.of hq3, at_of (j := 3) rfl rfl, by show 4 ≤ sizeLine; decide, fun g ng => ?_⟩
    have s5 := same_new (o := .lst [.str (levn k.1), .str (levn k.2.1), .str (levn k.2.2.1), .bl k.2.2.2]) ng
    have ngu : g ≠ u := (ne_of_none (s4 _ _ hu1) ng).symm
    refine ⟨u, _, _, (.list [.str (levn k.1), .str (levn k.2.1), .str (levn k.2.2.1), .bool k.2.2.2]), (.list [.str (levn k.1), .str (levn k.2.1), .str (levn k.2.2.1), .bool k.2.2.2]), rfl, Dn.lst nfu (SqL.of (s5 _ _ hf)) (.cons (.str _) (.cons (.str _) (.cons (.str _) (.cons (.bl _) .nil)))), Dn.lst ngu (SqL.of upd_same) (.cons (.str _) (.cons (.str _) (.cons (.str _) (.cons (.bl _) .nil)))), _, rfl, iteNo nsame ?_⟩
    exact ⟨_, _, _, _, rfl, s4.trans s5⟩
end
end My

namespace My
open PySem L2
def spLPol (C Cw Cs : Addr) : Sp := fun vs H Q _ => ∃ (y x m a b g : Addr) (rl : List Rl) (rs : List Row) (kvs : List (Key × V)), vs = [.ref y, .ref x, .ref g] ∧ Pol C Cw H y x m a b rl ∧ ShO Cs H x rs ∧ wordsOk rs ∧ H g = some (.dK kvs) ∧ Paired (RdV H) kvs rl ∧ rl.length ≤ 100 ∧
  ∀ H', Same H H' → Q (.bl true) H'
section
variable {w : World} {K : PySem.W.Frag} {mg : Str → Option Value} {base : Heap}
set_option maxHeartbeats 16000000 in
set_option pp.maxSteps 600 in
theorem ok__law_policy_same (T : Txt K mg) : FnOk PP w K mg base CX0 6 T.a__law_policy_same T.fd__law_policy_same ["_law_policy", "_law_shape", "_law_rules"] (spLPol T.c_Policy T.c_Way T.c_Shape) := by
  refine T.F__law_policy_same.ok sc__law_policy_same (fun vs H Q E h => ?_) (fun cdv A outer s H vs Q E hr h => ?_)
  · obtain ⟨y, x, m, a, b, g, rl, rs, kvs, rfl, _⟩ := h; rfl
  · obtain ⟨y, x, m, a, b, g, rl, rs, kvs, rfl, P0, hS, wo, hg, pk, l1, q⟩ := h
    refine ⟨_, (pss_cons (ps_lock (ps_setLc (i := 3) (own := [("_law_mark", 4)]) (g := (gName 4)) (by rfl) sc__law_policy_same.nd rfl rfl (sw_true rfl rfl rfl (by decide +kernel)) (pi_keys (pv 2)) (blkOk_by (own := [("_law_mark", 4)]) (N := ["_law_policy", "_law_shape", "_law_rules", "_law_marks_here", "_law_mark"]) (sc := defScope S__law_policy_same) (by decide +kernel)) (fun _ _ _ _ _ => (pg_name (i := 4) sc__law_policy_same.nd rfl (by first | exact .inl rfl | exact .inr rfl))) (fun _ _ _ _ _ => pts_nil) (fun _ _ _ _ _ => (pv 4))))
      (pss_cons (ps_if (PW.pt (pw_or (pt_not (pt_val (pe_callB call_isi (by rfl) T.n_isinstance (by decide +kernel) (pa_cons (pv 0) (pa_cons (pe_glob (v := .ref T.c_Policy) (by rfl) T.g_Policy rfl) pa_nil))))) (pw_or1 (pt_not (pt_val (pe_call (ok__law_same T 1) (hr.mono (by omega)) (by rfl) T.g__law_same T.F__law_same.kp T.b__law_same .nil pass0 (pa_cons (pe_cmpR (op_cmpI (fun _ _ => rfl) T.m_Shape_eq.at_ T.m_Shape_eq.fn (ok_Shape_eq T) (hr.mono (by omega)) T.b_Shape_eq pass0) (pe_fld (pv 0) rfl) (pv 1) (nomark _)) (pa_cons (pe_bl) pa_nil)))))))) (pss_one (ps_ret (pe_bl))) pss_nil)
      (pss_cons (ps_if (PW.pt (pw_or (pt_not (pt_val (pe_call (ok__law_same T 1) (hr.mono (by omega)) (by rfl) T.g__law_same T.F__law_same.kp T.b__law_same .nil pass0 (pa_cons (pe_callB (call_lenI T.m_Policy_len (ok_Policy_len T) (hr.mono (by omega)) T.b_Policy_len pass0) (by rfl) T.n_len (by decide +kernel) (pa_cons (pv 0) pa_nil)) (pa_cons (pe_callB call_len_seq (by rfl) T.n_len (by decide +kernel) (pa_cons (pv 3) pa_nil)) pa_nil))))) (pw_or1 (pt_not (pt_val (pe_call (ok__law_same T 1) (hr.mono (by omega)) (by rfl) T.g__law_same T.F__law_same.kp T.b__law_same .nil pass0 (pa_cons (pe_callB call_len_seq (by rfl) T.n_len (by decide +kernel) (pa_cons (pe_callTy (call_listI T.m_Policy_iter (ok_Policy_iter T) T.m_Policy_len (ok_Policy_len T) T.b_Policy_len rfl (hr.mono (by omega))) (by rfl) T.n_list (by decide +kernel) (pa_cons (pv 0) pa_nil)) pa_nil)) (pa_cons (pe_callB call_len_seq (by rfl) T.n_len (by decide +kernel) (pa_cons (pv 3) pa_nil)) pa_nil)))))))) (pss_one (ps_ret (pe_bl))) pss_nil)
      (pss_cons (ps_if (pt_not (pt_val (pe_call (ok__law_same T 1) (hr.mono (by omega)) (by rfl) T.g__law_same T.F__law_same.kp T.b__law_same .nil pass0 (pa_cons (pe_prop (pv 0) T.cl_Policy T.pr_Policy_starts (ok_Policy_starts T) (hr.mono (by omega)) T.b_Policy_starts .nil pass0 rfl) (pa_cons (pe_callTy call_tuple_of (by rfl) T.n_tuple (by decide +kernel) (pa_cons (pe_lc (own := [("_law_mark", 4)]) (g := (gName 4)) (by rfl) sc__law_policy_same.nd (pi_list (pv 3)) (blkOk_by (own := [("_law_mark", 4)]) (N := ["_law_policy", "_law_shape", "_law_rules", "_law_marks_here", "_law_mark"]) (sc := defScope S__law_policy_same) (by decide +kernel)) (fun _ _ _ _ _ => (pg_name (i := 4) sc__law_policy_same.nd rfl (by first | exact .inl rfl | exact .inr rfl))) (fun _ _ _ _ _ => (pts_one (pt_val (pe_ix (ixLK (K := K) rfl) (pe_dget (hu_of hr) (pv 2) (pv 4) (fun _ _ => rfl)) (pe_int) (fun _ _ => rfl))))) (fun _ _ _ _ _ => (pv 4))) pa_nil)) pa_nil))))) (pss_one (ps_ret (pe_bl))) pss_nil)
      (pss_cons (ps_for PassesOwn.never rfl (pi_list (pv 3)) (pg_name (i := 4) sc__law_policy_same.nd rfl (.inl rfl)) (pss_one (ps_if (PW.pt (pw_or (pt_cmpR op_notIn_seq (pv 4) (pe_callTy (call_listI T.m_Policy_iter (ok_Policy_iter T) T.m_Policy_len (ok_Policy_len T) T.b_Policy_len rfl (hr.mono (by omega))) (by rfl) T.n_list (by decide +kernel) (pa_cons (pv 0) pa_nil)) (by with_unfolding_all rfl)) (pw_or1 (pt_not (pt_val (pe_call (ok__law_rule_same T) (hr.mono (by omega)) (by rfl) T.g__law_rule_same T.F__law_rule_same.kp T.b__law_rule_same .nil pass0 (pa_cons (pe_getI T.m_Policy_getitem T.fi_Policy_getitem (ok_Policy_getitem T) (hr.mono (by omega)) T.b_Policy_getitem pass0 (pv 0) (pv 4)) (pa_cons (pe_dget (hu_of hr) (pv 2) (pv 4) (fun _ _ => rfl)) pa_nil)))))))) (pss_one (ps_ret (pe_bl))) pss_nil)))
      (pss_one (ps_ret (pe_bl)))))))), ?_⟩
    have big : 100000 < sizeLine := by decide
    have lk := pair_len' pk
    have nd := P0.nd
    obtain ⟨dy, hy0⟩ := P0.obj
    obtain ⟨dx, sl, sm, vs0, hx0, _⟩ := id hS
    -- the marks
    refine ⟨g, _, hg, trivial, fun od => ?_⟩
    refine ⟨_, rfl, g, od, rfl, .inl ⟨kvs, upd_same, fun D hD => lc_it walk_keys (fun i H' => But g H H' ∧ H' g = some (.frz od (.dK kvs)) ∧ H' D = some (.lst ((rl.take i).map fun r => .str r.1))) ?_ (fun i H' _ h => h.2.1) ?_ ?_⟩⟩
    · have ndg : D ≠ g := fun e => by rw [e, upd_same] at hD; cases hD
      exact ⟨fun c o n e => same_new hD _ _ (by rw [upd_ne n]; exact e), by rw [upd_ne ndg.symm]; exact upd_same, upd_same⟩
    · rintro i v H1 H2 hi ⟨b1, f1, h1⟩ ⟨rfl, k, v', ek, rfl⟩
      obtain ⟨r, hr, ek1, _⟩ := pair_get' pk ek
      have ek1 : k = .inr r.1 := ek1
      subst ek1
      refine ⟨rfl, ?_⟩
      unfold tYes
      refine iteT ⟨_, rfl, _, h1, by rw [List.length_map, List.length_take]; omega, fun c o n e => ?_, ?_, ?_⟩
      · by_cases cD : c = D
        · subst cD; rw [upd_ne n] at hD; rw [hD] at e; cases e
        · rw [upd_ne cD]; exact b1 c o n e
      · have ndg : g ≠ D := fun e => by rw [← e, upd_same] at hD; cases hD
        rw [upd_ne ndg]; exact f1
      · rw [upd_same, List.take_succ, hr, List.map_append]; rfl
    rintro H1 ⟨b1, f1, h1⟩
    rw [lk, List.take_length] at h1
    refine ⟨f1, ?_⟩
    have ndg : D ≠ g := fun e => by rw [e, upd_same] at hD; cases hD
    have s1 : Same H (upd H1 g (.dK kvs)) := fun c o e => by
      by_cases n : c = g
      · rw [n, upd_same, ← hg, ← n, e]
      · rw [upd_ne n]; exact b1 c o n e
    have hD1 : (upd H1 g (.dK kvs)) D = some (.lst (rl.map fun r => .str r.1)) := by rw [upd_ne ndg]; exact h1
    revert s1 hD1
    generalize upd H1 g (.dK kvs) = H2
    intro s2 hD2
    have emk : (rl.map fun r => V.str r.1) = (rl.map (·.1)).map V.str := by rw [List.map_map]; rfl
    have nyD : D ≠ y := fun e => by
      rw [← e] at hy0
      by_cases c : D = g
      · exact ndg c
      · rw [upd_ne c, hy0] at hD; cases hD
    have P2 := P0.same s2
    have hy2 := s2 _ _ hy0
    have hx2 := s2 _ _ hx0
    have hS2 := hS.same s2
    have bg : (rl.length : Int) < 2 ^ 63 := by
      have : (rl.length : Int) ≤ 100 := by omega
      exact Int.lt_of_le_of_lt this (by decide)
    -- the shape
    refine ⟨_, rfl, _, _, _, _, true, rfl, ClsV.own _, .base (T.ti_Policy _ _ _ _ hy2), T.kk_Policy, _, rfl, iteNo rfl ?_⟩
    refine ⟨_, rfl, y, _, dy, _, _, rfl, hy2, T.cl_Policy, T.no_Policy_shape, polF1 x m a b, _, rfl, x, _, _, x, _, _, rfl, rfl, hx2, hx2, x, x, rs, rs, rfl, hS2, hS2, wo, wo, y, _, _, .bool true, .bool true, rfl, by rw [decide_eq_true (rfl : rs = rs)]; exact Dn.bl _, Dn.bl _, _, rfl, iteNo nsame ?_⟩
    -- the lengths
    refine ⟨_, rfl, y, dy, _, rfl, hy2, y, x, m, a, b, rl, rfl, P2, rl.length, rfl, by omega, bg, _, rfl, D, _, rfl, .inl (SqL.of hD2), y, _, _, .int rl.length, .int rl.length, rfl, Dn.int _, by rw [List.length_map]; exact Dn.int _, _, rfl, iteNo nsame ?_⟩
    refine ⟨_, rfl, y, dy, m, _, _, rfl, hy2, polF2 x m a b, SqL.of P2.mar, by rw [List.length_map]; omega, fun c nc => ⟨y, x, m, a, b, rl, rfl, P2.same (same_new nc), ⟨_, rfl, by omega⟩, rfl⟩, fun c nc => ?_⟩
    have s3 := s2.trans (same_new (o := .lst (rl.map fun r => .str r.1)) nc)
    have hc3 : (upd H2 c (.lst (rl.map fun r => .str r.1))) c = some (.lst (rl.map fun r => .str r.1)) := upd_same
    have hD3 := same_new (o := .lst (rl.map fun r => .str r.1)) nc _ _ hD2
    revert s3 hc3 hD3
    generalize upd H2 c (.lst (rl.map fun r => .str r.1)) = H3
    intro s3 hc3 hD3
    refine ⟨c, _, rfl, .inl (SqL.of hc3), _, rfl, D, _, rfl, .inl (SqL.of hD3), y, _, _, .int rl.length, .int rl.length, rfl, by rw [List.length_map]; exact Dn.int _, by rw [List.length_map]; exact Dn.int _, _, rfl, iteNo nsame ?_⟩
    -- the starts
    refine ⟨_, rfl, y, dy, _, rfl, s3 _ _ hy0, y, x, m, a, b, rl, rfl, P0.same s3, by omega, fun u H4 s4 nu hu => ?_⟩
    have hD4 := s4 _ _ hD3
    have s04 := s3.trans s4
    refine ⟨_, rfl, D, rfl, ⟨_, SqL.of hD4⟩, fun F hF => lc_list (K := K) (a := D) (xs := rl.map fun r => .str r.1) (fun i H' => Same H4 H' ∧ H' F = some (.lst (((rl.take i).filter (·.2.1)).map fun r => .str r.1))) ⟨same_new hF, upd_same⟩ (fun i H' _ h => SqL.of (h.1 _ _ hD4)) ?_ ?_⟩
    · rintro i v H5 hv ⟨s5, h5⟩
      obtain ⟨r, hr, rfl⟩ : ∃ r, rl[i]? = some r ∧ v = .str r.1 := by
        rw [List.getElem?_map] at hv
        cases e : rl[i]? with
        | none => rw [e] at hv; cases hv
        | some r => rw [e] at hv; exact ⟨r, rfl, (Option.some.inj hv).symm⟩
      have s05 := s04.trans s5
      obtain ⟨kv, ev, _, q0, p0, us, eq0, hq0, hp0, pw, _⟩ := val_rd pk nd hr
      have dg := DGet.k (k := .inr r.1) (s05 _ _ hg)
      rw [ev, eq0] at dg
      refine ⟨rfl, _, rfl, _, rfl, g, _, rfl, dg, _, _, _, _, rfl, rfl, SqL.of (s05 _ _ hq0), atI_nat (j := 0) rfl, _, rfl, ?_⟩
      have ht : (((rl.take (i + 1)).filter (·.2.1)).map fun r => V.str r.1) = (((rl.take i).filter (·.2.1)).map fun r => V.str r.1) ++ (if r.2.1 then [V.str r.1] else []) := by
        rw [List.take_add_one, hr, Option.toList_some, List.filter_append, List.map_append]
        congr 1
        cases e : r.2.1 <;> simp [e]
      rw [ht]
      have lf : (((rl.take i).filter (·.2.1)).map fun r => V.str r.1).length < sizeLine := by
        rw [List.length_map]
        have := List.length_filter_le (fun r : Rl => r.2.1) (rl.take i)
        rw [List.length_take] at this
        omega
      cases c : r.2.1 with
      | true => exact iteT ⟨_, rfl, _, h5, lf, same_mut s5 hF, upd_same⟩
      | false => exact iteNo rfl ⟨s5, by rw [h5]; simp⟩
    rintro H5 ⟨s5, h5⟩
    rw [List.length_map, List.take_length] at h5
    have est : ((rl.filter (·.2.1)).map fun r => V.str r.1) = ((rl.filter (·.2.1)).map (·.1)).map V.str := by rw [List.map_map]; rfl
    have lfl := List.length_filter_le (fun r : Rl => r.2.1) rl
    refine ⟨F, _, rfl, .inl ⟨SqL.of h5, fun u2 nu2 => ?_⟩⟩
    have s6 := s5.trans (same_new (o := .tup ((rl.filter (·.2.1)).map fun r => .str r.1)) nu2)
    have hu2 : (upd H5 u2 (.tup ((rl.filter (·.2.1)).map fun r => .str r.1))) u2 = some (.tup ((rl.filter (·.2.1)).map fun r => .str r.1)) := upd_same
    have hy5 := (s04.trans s5) _ _ hy0
    have n2y : u2 ≠ y := (ne_of_none hy5 nu2).symm
    revert s6 hu2
    generalize upd H5 u2 (.tup ((rl.filter (·.2.1)).map fun r => .str r.1)) = H6
    intro s6 hu2
    have hu6 := s6 _ _ hu
    rw [est] at hu2 hu6
    have nuy : u ≠ y := (ne_of_none (s3 _ _ hy0) nu).symm
    refine ⟨y, _, _, _, _, rfl, dn_strT hu6 nuy (by rw [List.length_map]; omega), dn_strT hu2 n2y (by rw [List.length_map]; omega), _, rfl, iteNo nsame ?_⟩
    have s06 := s04.trans s6
    have hD6 := s6 _ _ hD4
    -- each rule
    refine ⟨_, rfl, D, rfl, ⟨_, SqL.of hD6⟩, for_list (K := K) (a := D) (xs := rl.map fun r => .str r.1) (fun i σ H' => ∃ x4 : Option V, σ = [some (.ref y), some (.ref x), some (.ref g), some (.ref D), x4] ∧ Same H6 H') ⟨_, rfl, Same.refl _⟩ (fun i σ H' _ ⟨_, _, s⟩ => SqL.of (s _ _ hD6)) ?_ ?_⟩
    rotate_left
    · rintro σ H7 ⟨x4, rfl, s7⟩
      exact q _ (s06.trans s7)
    rintro i v σ H7 hv ⟨x4, rfl, s7⟩
    obtain ⟨r, hr, rfl⟩ : ∃ r, rl[i]? = some r ∧ v = .str r.1 := by
      rw [List.getElem?_map] at hv
      cases e : rl[i]? with
      | none => rw [e] at hv; cases hv
      | some r => rw [e] at hv; exact ⟨r, rfl, (Option.some.inj hv).symm⟩
    have s07 := s06.trans s7
    have P7 := P0.same s07
    refine ⟨_, rfl, _, rfl, y, dy, m, _, _, rfl, s07 _ _ hy0, polF2 x m a b, SqL.of P7.mar, by rw [List.length_map]; omega, fun c nc => ⟨y, x, m, a, b, rl, rfl, P7.same (same_new nc), ⟨_, rfl, by omega⟩, rfl⟩, fun c nc => ?_⟩
    refine ⟨c, _, rfl, .inl (SqL.of upd_same), rfl, by rw [emk]; exact flat_strs _, _, rfl, iteNo ?_ ?_⟩
    · rw [if_pos rfl, emk, in_strs, decide_eq_true (List.mem_map.mpr ⟨r, List.mem_of_getElem? hr, rfl⟩)]; rfl
    have s8 := s7.trans (same_new (o := .lst (rl.map fun r => .str r.1)) nc)
    revert s8
    generalize upd H7 c (.lst (rl.map fun r => .str r.1)) = H8
    intro s8
    have s08 := s06.trans s8
    refine ⟨_, rfl, _, rfl, y, dy, _, rfl, s08 _ _ hy0, y, x, m, a, b, rl, r.1, r, rfl, P0.same s08, look_at nd hr, fun u3 t3 H9 s9 nu3 hu3 wt => ?_⟩
    have s09 := s08.trans s9
    obtain ⟨kv, ev, _, q0, p0, us, eq0, hq0, hp0, pw, lus⟩ := val_rd pk nd hr
    have dg := DGet.k (k := .inr r.1) (s09 _ _ hg)
    rw [ev, eq0] at dg
    refine ⟨_, rfl, _, rfl, g, _, rfl, dg, u3, q0, t3, p0, us, r.2.1, r.2.2, rfl, hu3, wt, s09 _ _ hq0, s09 _ _ hp0, L2.Paired.mapP pw fun _ _ h => h.same s09, lus, fun HA sA => ⟨_, rfl, iteNo rfl ?_⟩⟩
    exact ⟨_, rfl, (s8.trans s9).trans sA⟩
end
end My

namespace My
open PySem L2
/-- all in A are lists -/
def Lsts (A : List Addr) (H : Hp) : Prop := ∀ a ∈ A, ∃ xs, H a = some (.lst xs)
theorem ShN.le {F : Addr → Prop} {C : Addr} {H H' : Hp} {x : Addr} {rs : List Row} {A : List Addr} (h : ShN F C H x rs) (hA : Lsts A H) (f : ∀ a, F a → a ∉ A) (l : Le A H H') : ShN F C H' x rs := by
  obtain ⟨dx, l1, m1, vs, f1, f2, hx, hl, hr, hm⟩ := h
  have nt : ∀ {a : Addr} {xs : List V}, H a = some (.tup xs) → a ∉ A := fun e m => by obtain ⟨ys, h⟩ := hA _ m; rw [h] at e; cases e
  have nx : x ∉ A := fun m => by obtain ⟨ys, h⟩ := hA _ m; rw [h] at hx; cases hx
  exact ⟨dx, l1, m1, vs, f1, f2, l _ _ nx hx, l _ _ (f _ f1) hl, rowsT_keep hr fun a xs e => l _ _ (nt e) e, l _ _ (f _ f2) hm⟩
theorem ShN.same {F : Addr → Prop} {C : Addr} {H H' : Hp} {x : Addr} {rs : List Row} (h : ShN F C H x rs) (s : Same H H') : ShN F C H' x rs := by
  obtain ⟨dx, l1, m1, vs, f1, f2, hx, hl, hr, hm⟩ := h
  exact ⟨dx, l1, m1, vs, f1, f2, s _ _ hx, s _ _ hl, rowsT_same hr s, s _ _ hm⟩
theorem Dr.le {K : PySem.W.Frag} {H H' : Hp} {d t : Addr} {A : List Addr} (x : Dr K H d t) (l : Le A H H') (n1 : d ∉ A) (n2 : t ∉ A) : Dr K H' d t :=
  ⟨x.ds.elim fun ns h => ⟨ns, l _ _ n1 h⟩, x.pl.elim fun k h => ⟨k, l _ _ n2 h⟩, x.ne⟩
end My

namespace My
open PySem L2
/-- lists stay, but the one at t -/
def Lk (t : Addr) (H H' : Hp) : Prop := ∀ a xs, a ≠ t → H a = some (.lst xs) → H' a = some (.lst xs)
theorem Lk.same {t : Addr} {H H' : Hp} (s : Same H H') : Lk t H H' := fun a xs _ e => s _ _ e
theorem Lk.but {t : Addr} {H H' : Hp} (b : But t H H') : Lk t H H' := fun a xs n e => b _ _ n e
theorem Lk.trans {t : Addr} {H H1 H2 : Hp} (x : Lk t H H1) (y : Lk t H1 H2) : Lk t H H2 := fun a xs n e => y a xs n (x a xs n e)
theorem Lk.updD {t g : Addr} {H : Hp} {kvs : List (Key × V)} {o : HO} (h : H g = some (.dK kvs)) : Lk t H (L2.upd H g o) := fun a xs _ e => by rw [upd_ne (fun z => by rw [z, h] at e; cases e)]; exact e
theorem Lk.le {t a b : Addr} {H H' : Hp} {k1 k2 : List (Key × V)} (l : Le [a, b] H H') (ha : H a = some (.dK k1)) (hb : H b = some (.dK k2)) : Lk t H H' := fun c xs _ e => l _ _ (fun h => by
  simp only [List.mem_cons, List.not_mem_nil, or_false] at h
  rcases h with h | h
  · rw [h, ha] at e; cases e
  · rw [h, hb] at e; cases e) e
def LwN (t : Addr) (H : Hp) (v : V) (k : Wv) : Prop := ∃ q, v = .ref q ∧ q ≠ t ∧ H q = some (LwO k.1 k.2.1 k.2.2.1 k.2.2.2) ∧ Adj k.1 k.2.1 k.2.2.1
theorem LwN.keep {t : Addr} {H H' : Hp} {v : V} {k : Wv} (h : LwN t H v k) (b : Lk t H H') : LwN t H' v k := let ⟨q, e, n, f, g⟩ := h; ⟨q, e, n, b _ _ n f, g⟩
theorem LwN.v {t : Addr} {H : Hp} {v : V} {k : Wv} (h : LwN t H v k) : LwV H v k := let ⟨q, e, _, f, g⟩ := h; ⟨q, e, f, g⟩
def RdN (t : Addr) (H : Hp) (kv : Key × V) (r : Rl) : Prop := kv.1 = .inr r.1 ∧ ∃ q p us, kv.2 = .ref q ∧ q ≠ t ∧ H q = some (.lst [.bl r.2.1, .ref p]) ∧ p ≠ t ∧ H p = some (.lst us) ∧ Paired (LwN t H) us r.2.2 ∧ us.length ≤ 100
theorem RdN.keep {t : Addr} {H H' : Hp} {kv : Key × V} {r : Rl} (h : RdN t H kv r) (b : Lk t H H') : RdN t H' kv r := let ⟨a, q, p, us, e, n, f, n2, g, k, l⟩ := h; ⟨a, q, p, us, e, n, b _ _ n f, n2, b _ _ n2 g, L2.Paired.mapP k fun _ _ x => x.keep b, l⟩
theorem RdN.v {t : Addr} {H : Hp} {kv : Key × V} {r : Rl} (h : RdN t H kv r) : RdV H kv r := let ⟨a, q, p, us, e, _, f, _, g, k, l⟩ := h; ⟨a, q, p, us, e, f, g, L2.Paired.mapP k fun _ _ x => x.v, l⟩
theorem rd_none {t : Addr} {H : Hp} {z : Str} : ∀ {kvs : List (Key × V)} {rl : List Rl}, Paired (RdN t H) kvs rl → z ∉ rl.map (·.1) → valV kvs (.inr z) = none
  | _, _, .nil, _ => rfl
  | kv :: kvs, r :: rl, .cons h p, n => by
    rw [List.map_cons, List.mem_cons, not_or] at n
    rw [valV_neg (by rw [h.1]; exact fun e => n.1 (by injection e with e; exact e.symm))]
    exact rd_none p n.2
theorem rd_some {t : Addr} {H : Hp} {z : Str} : ∀ {kvs : List (Key × V)} {rl : List Rl}, Paired (RdN t H) kvs rl → z ∈ rl.map (·.1) → (valV kvs (.inr z)).isSome = true
  | _, _, .nil, m => by simp at m
  | kv :: kvs, r :: rl, .cons h p, m => by
    by_cases e : r.1 = z
    · rw [valV_pos (by rw [h.1, e])]; rfl
    · rw [valV_neg (by rw [h.1]; exact fun e' => e (by injection e'))]
      rw [List.map_cons, List.mem_cons] at m
      exact rd_some p (m.resolve_left fun e' => e e'.symm)
theorem rd_map {t : Addr} {H : Hp} {r : Rl} {v : V} (hv : RdN t H (.inr r.1, v) r) : ∀ {kvs : List (Key × V)} {rl : List Rl}, Paired (RdN t H) kvs rl → Paired (RdN t H) (kvs.map fun kv => if kv.1 = .inr r.1 then (kv.1, v) else kv) (setR rl r)
  | _, _, .nil => .nil
  | kv :: kvs, r' :: rl, .cons h p => by
    refine .cons ?_ (rd_map hv p)
    show RdN t H (if kv.1 = .inr r.1 then (kv.1, v) else kv) (if r'.1 = r.1 then r else r')
    by_cases e : r'.1 = r.1
    · rw [if_pos e, if_pos (by rw [h.1, e]), h.1, e]; exact hv
    · rw [if_neg e, if_neg (by rw [h.1]; exact fun e' => e (by injection e'))]; exact h
theorem rd_put {t : Addr} {H : Hp} {r : Rl} {v : V} {kvs : List (Key × V)} {rl : List Rl} (hv : RdN t H (.inr r.1, v) r) (p : Paired (RdN t H) kvs rl) (m : r.1 ∈ rl.map (·.1)) : Paired (RdN t H) (putK kvs (.inr r.1) v) (setR rl r) := by
  rw [putK_old (rd_some p m)]; exact rd_map hv p
theorem drop_at {α : Type} {l : List α} {i : Nat} {x : α} (h : l[i]? = some x) : l.drop i = x :: l.drop (i + 1) := by
  obtain ⟨hi, e⟩ := List.getElem?_eq_some_iff.mp h
  rw [List.drop_eq_getElem_cons hi, e]
theorem kw_but {Cw t : Addr} {H H' : Hp} (ht : ∃ xs, H t = some (.lst xs)) (b : But t H H') : Kw Cw H H' := fun a o e s => b a o (fun z => by
  obtain ⟨xs, ht⟩ := ht
  rw [z, ht] at e
  rcases s with ⟨_, s⟩ | ⟨_, _, _, _, _, s⟩
  · rw [s] at e; cases e
  · rw [s] at e; cases e) e
theorem pol_but {C Cw : Addr} {H H' : Hp} {y x m a b t : Addr} {rl : List Rl} (ht : ∃ xs, H t = some (.lst xs)) (bu : But t H H') (P : Pol C Cw H y x m a b rl) (n : m ≠ t) : Pol C Cw H' y x m a b rl := by
  refine P.le (A := [t]) (.but (by simp) bu) (kw_but ht bu) fun c hc q => ?_
  obtain ⟨xs, ht⟩ := ht
  obtain ⟨dy, hy⟩ := P.obj
  obtain ⟨ls, ha, hb, _⟩ := P.tb
  have q := List.mem_singleton.mp q
  simp only [List.mem_cons, List.not_mem_nil, or_false] at hc
  rcases hc with rfl | rfl | rfl | rfl
  · rw [q, ht] at hy; cases hy
  · exact n q
  · rw [q, ht] at ha; cases ha
  · rw [q, ht] at hb; cases hb
theorem pol_updD {C Cw : Addr} {H : Hp} {y x m a b g : Addr} {rl : List Rl} {k k' : List (Key × V)} (hg : H g = some (.dK k)) (P : Pol C Cw H y x m a b rl) (n1 : a ≠ g) (n2 : b ≠ g) : Pol C Cw (upd H g (.dK k')) y x m a b rl := by
  refine P.le (A := [g]) (fun c o q e => by rw [upd_ne (by simpa using q)]; exact e) (.updD hg) fun c hc q => ?_
  obtain ⟨dy, hy⟩ := P.obj
  have hm := P.mar
  have q := List.mem_singleton.mp q
  simp only [List.mem_cons, List.not_mem_nil, or_false] at hc
  rcases hc with rfl | rfl | rfl | rfl
  · rw [q, hg] at hy; cases hy
  · rw [q, hg] at hm; cases hm
  · exact n1 q
  · exact n2 q
end My

namespace My
open PySem L2
def spLaw (K : PySem.W.Frag) : Sp := fun vs H Q _ => ∃ (a : Addr) (ns : List Int), vs = [.ref a] ∧ SqL K H a (ns.map V.int) ∧ ns.length ≤ 63 ∧ ∀ H', Q (.bl true) H'
def DuN (t : Addr) (H : Hp) (v : V) (ks : List Wv) : Prop := ∃ p us, v = .ref p ∧ p ≠ t ∧ H p = some (.lst us) ∧ Paired (LwN t H) us ks ∧ us.length ≤ 100
theorem DuN.keep {t : Addr} {H H' : Hp} {v : V} {k : List Wv} (h : DuN t H v k) (b : Lk t H H') : DuN t H' v k := let ⟨p, us, e, n, f, g, l⟩ := h; ⟨p, us, e, n, b _ _ n f, L2.Paired.mapP g fun _ _ x => x.keep b, l⟩
/-! ### what stays -/
structure F24 (Cs t x R Du W : Addr) (ws dv wv : List V) (rs : List Row) (kss : List (List Wv)) (kw : List Wv) (H : Hp) : Prop where
  sh : ShN (fun a => a ∉ [t]) Cs H x rs
  rw : H R = some (.lst ws)
  rr : RowsN (fun a => a ≠ t) true H ws rs
  nR : R ≠ t
  du : H Du = some (.lst dv)
  nD : Du ≠ t
  dd : Paired (DuN t H) dv kss
  ww : H W = some (.lst wv)
  nW : W ≠ t
  wl : Paired (LwN t H) wv kw
  tl : ∃ xs, H t = some (.lst xs)
theorem F24.but {Cs t x R Du W : Addr} {ws dv wv : List V} {rs : List Row} {kss : List (List Wv)} {kw : List Wv} {H H' : Hp} (F : F24 Cs t x R Du W ws dv wv rs kss kw H) (b : But t H H') (tl : ∃ xs, H' t = some (.lst xs)) : F24 Cs t x R Du W ws dv wv rs kss kw H' := by
  obtain ⟨xs, ht⟩ := F.tl
  have le : Le [t] H H' := .but (by simp) b
  have lk : Lk t H H' := .but b
  refine ⟨F.sh.le (fun a h => ?_) (fun _ h => h) le, b _ _ F.nR F.rw, rowsN_le F.rr (fun a o f e => b a o f e), F.nR, b _ _ F.nD F.du, F.nD, L2.Paired.mapP F.dd fun _ _ h => h.keep lk, b _ _ F.nW F.ww, F.nW, L2.Paired.mapP F.wl fun _ _ h => h.keep lk, tl⟩
  rw [List.mem_singleton.mp h]; exact ⟨xs, ht⟩
/-! ### the five policies -/
abbrev Pq := Addr × Addr × Addr × Addr
def PolAt (C Cw x : Addr) (ms : List Str) (H : Hp) (q : Pq) (ks : List Wv) : Prop := Pol C Cw H q.1 x q.2.1 q.2.2.1 q.2.2.2 (ms.map fun z => (z, true, ks))
def apart (q p : Pq) : Prop := q.2.2.1 ≠ p.2.2.1 ∧ q.2.2.1 ≠ p.2.2.2 ∧ q.2.2.2 ≠ p.2.2.1 ∧ q.2.2.2 ≠ p.2.2.2
theorem pols_same {C Cw x : Addr} {ms : List Str} {H H' : Hp} {L : List Pq} {kss : List (List Wv)} (h : Paired (PolAt C Cw x ms H) L kss) (s : Same H H') : Paired (PolAt C Cw x ms H') L kss := L2.Paired.mapP h fun _ _ p => Pol.same p s
theorem pols_new {C Cw x : Addr} {ms : List Str} {H : Hp} {L : List Pq} {kss : List (List Wv)} {q : Pq} (h : Paired (PolAt C Cw x ms H) L kss) (p : L.Pairwise apart) (na : H q.2.2.1 = none) (nb : H q.2.2.2 = none) : (L ++ [q]).Pairwise apart := by
  refine List.pairwise_append.mpr ⟨p, by simp, fun u hu v hv => ?_⟩
  rw [List.mem_singleton.mp hv]
  obtain ⟨i, hi⟩ := List.mem_iff_getElem?.mp hu
  obtain ⟨ks, _, P⟩ := pair_get' h hi
  obtain ⟨ls, ha, hb, _⟩ := P.tb
  exact ⟨fun e => (by rw [e, na] at ha; cases ha), fun e => (by rw [e, nb] at ha; cases ha), fun e => (by rw [e, na] at hb; cases hb), fun e => (by rw [e, nb] at hb; cases hb)⟩
theorem pols_set {C Cw x : Addr} {ms : List Str} {H H' : Hp} {q : Pq} {k1 k2 : List (Key × V)} (ha : H q.2.2.1 = some (.dK k1)) (hb : H q.2.2.2 = some (.dK k2)) (l : Le [q.2.2.1, q.2.2.2] H H') (kw : Kw Cw H H') : ∀ {L : List Pq} {kss : List (List Wv)}, Paired (PolAt C Cw x ms H) L kss → (∀ p ∈ L, apart q p) → Paired (PolAt C Cw x ms H') L kss
  | _, _, .nil, _ => .nil
  | p :: L, ks :: kss, .cons h t, ap => by
    refine .cons (Pol.le h l kw fun c hc m => ?_) (pols_set ha hb l kw t fun p hp => ap p (List.mem_cons_of_mem _ hp))
    obtain ⟨a1, a2, a3, a4⟩ := ap p (List.mem_cons_self)
    obtain ⟨dy, hy⟩ := h.obj
    have hm := h.mar
    simp only [List.mem_cons, List.not_mem_nil, or_false] at hc m
    rcases hc with rfl | rfl | rfl | rfl
    · rcases m with m | m
      · rw [m, ha] at hy; cases hy
      · rw [m, hb] at hy; cases hy
    · rcases m with m | m
      · rw [m, ha] at hm; cases hm
      · rw [m, hb] at hm; cases hm
    · rcases m with m | m
      · exact a1 m.symm
      · exact a3 m.symm
    · rcases m with m | m
      · exact a2 m.symm
      · exact a4 m.symm
theorem du_one {t w p : Addr} {H : Hp} {k : Wv} (ht : ∃ o, H t = some o) (aj : Adj k.1 k.2.1 k.2.2.1) (nw : H w = none) (np : (upd H w (LwO k.1 k.2.1 k.2.2.1 k.2.2.2)) p = none) :
    Same H (upd (upd H w (LwO k.1 k.2.1 k.2.2.1 k.2.2.2)) p (.lst [.ref w])) ∧ DuN t (upd (upd H w (LwO k.1 k.2.1 k.2.2.1 k.2.2.2)) p (.lst [.ref w])) (.ref p) [k] := by
  obtain ⟨o, ht⟩ := ht
  have s1 := same_new (o := LwO k.1 k.2.1 k.2.2.1 k.2.2.2) nw
  refine ⟨s1.trans (same_new np), p, [.ref w], rfl, (ne_of_none (s1 _ _ ht) np).symm, upd_same, .cons ⟨w, rfl, (ne_of_none ht nw).symm, same_new np _ _ upd_same, aj⟩ .nil, by simp⟩
theorem pols_lst {C Cw x : Addr} {ms : List Str} {H : Hp} {Mk : Addr} {xs ys : List V} (hM : H Mk = some (.lst xs)) : ∀ {L : List Pq} {kss : List (List Wv)}, Paired (PolAt C Cw x ms H) L kss → (∀ q ∈ L, q.2.1 ≠ Mk) → Paired (PolAt C Cw x ms (upd H Mk (.lst ys))) L kss
  | _, _, .nil, _ => .nil
  | p :: L, ks :: kss, .cons h t, n => by
    have kk : Kw Cw H (upd H Mk (.lst ys)) := .upd hM fun t => by rcases t with ⟨_, e⟩ | ⟨_, _, _, _, _, e⟩ <;> cases e
    have le : Le [Mk] H (upd H Mk (.lst ys)) := fun c o m e => by rw [upd_ne (by simpa using m)]; exact e
    refine .cons (Pol.le h le kk fun c hc m => ?_) (pols_lst hM t fun q hq => n q (List.mem_cons_of_mem _ hq))
    obtain ⟨dy, hy⟩ := h.obj
    obtain ⟨ls, ha, hb, _⟩ := h.tb
    have m := List.mem_singleton.mp m
    simp only [List.mem_cons, List.not_mem_nil, or_false] at hc
    rcases hc with rfl | rfl | rfl | rfl
    · rw [m, hM] at hy; cases hy
    · exact n p (List.mem_cons_self) m
    · rw [m, hM] at ha; cases ha
    · rw [m, hM] at hb; cases hb
theorem pols_but {C Cw x t : Addr} {ms : List Str} {H H' : Hp} (ht : ∃ xs, H t = some (.lst xs)) (b : But t H H') : ∀ {L : List Pq} {kss : List (List Wv)}, Paired (PolAt C Cw x ms H) L kss → (∀ q ∈ L, q.2.1 ≠ t) → Paired (PolAt C Cw x ms H') L kss
  | _, _, .nil, _ => .nil
  | p :: L, ks :: kss, .cons h s, n => .cons (pol_but ht b h (n p (List.mem_cons_self))) (pols_but ht b s fun q hq => n q (List.mem_cons_of_mem _ hq))
theorem pols_updD {C Cw x g : Addr} {ms : List Str} {H : Hp} {k k' : List (Key × V)} (hg : H g = some (.dK k)) : ∀ {L : List Pq} {kss : List (List Wv)}, Paired (PolAt C Cw x ms H) L kss → (∀ q ∈ L, q.2.2.1 ≠ g ∧ q.2.2.2 ≠ g) → Paired (PolAt C Cw x ms (upd H g (.dK k'))) L kss
  | _, _, .nil, _ => .nil
  | p :: L, ks :: kss, .cons h s, n => .cons (pol_updD hg h (n p (List.mem_cons_self)).1 (n p (List.mem_cons_self)).2) (pols_updD hg s fun q hq => n q (List.mem_cons_of_mem _ hq))
theorem pols_ne {C Cw x g : Addr} {ms : List Str} {H : Hp} {L : List Pq} {kss : List (List Wv)} (h : Paired (PolAt C Cw x ms H) L kss) (ng : H g = none) : ∀ q ∈ L, q.2.2.1 ≠ g ∧ q.2.2.2 ≠ g := fun q hq => by
  obtain ⟨i, hi⟩ := List.mem_iff_getElem?.mp hq
  obtain ⟨ks, _, P⟩ := pair_get' h hi
  obtain ⟨ls, ha, hb, _⟩ := P.tb
  exact ⟨fun e => (by rw [e, ng] at ha; cases ha), fun e => (by rw [e, ng] at hb; cases hb)⟩
end My

namespace My
open PySem L2
section
variable {w : World} {K : PySem.W.Frag} {mg : Str → Option Value} {base : Heap}
set_option maxHeartbeats 32000000 in
set_option pp.maxSteps 400 in
theorem ok_law (T : Txt K mg) : FnOk PP w K mg base CX0 16 T.a_law T.fd_law ["_law_script"] (spLaw K) := by
  refine T.F_law.ok sc_law (fun vs H Q E h => ?_) (fun cdv A outer s H vs Q E hr h => ?_)
  · obtain ⟨a, ns, rfl, _⟩ := h; rfl
  · obtain ⟨a0, ns0, rfl, hS, hlen, qq⟩ := h
    refine ⟨_, (pss_cons (ps_set (i := 1) sc_law.nd rfl (.inl rfl) (pe_call (ok__law_draws T) (hr.mono (by omega)) (by rfl) T.g__law_draws T.F__law_draws.kp T.b__law_draws .nil pass0 (pa_cons (pv 0) pa_nil)))
      (pss_cons (ps_set (i := 2) sc_law.nd rfl (.inl rfl) (pe_lst (pa_cons (pe_int) pa_nil)))
      (pss_cons (ps_set (i := 3) sc_law.nd rfl (.inl rfl) (pe_call (ok__law_wide_rows T) (hr.mono (by omega)) (by rfl) T.g__law_wide_rows T.F__law_wide_rows.kp T.b__law_wide_rows .nil pass0 (pa_cons (pv 1) (pa_cons (pv 2) (pa_cons (pe_ix ix_list (pe_lst (pa_cons (pe_int) (pa_cons (pe_int) (pa_cons (pe_int) (pa_cons (pe_int) (pa_cons (pe_int) (pa_cons (pe_int) (pa_cons (pe_int) pa_nil)))))))) (pe_call (ok__law_take T) (hr.mono (by omega)) (by rfl) T.g__law_take T.F__law_take.kp T.b__law_take .nil pass0 (pa_cons (pv 1) (pa_cons (pv 2) (pa_cons (pe_int) pa_nil)))) (fun _ _ => rfl)) pa_nil)))))
      (pss_cons (ps_set (i := 4) sc_law.nd rfl (.inl rfl) (pe_lst pa_nil))
      (pss_cons (ps_for PassesOwn.never rfl (pi_range1 (by rfl) T.n_range (pa_cons (pe_ix ix_list (pe_lst (pa_cons (pe_int) (pa_cons (pe_int) (pa_cons (pe_int) (pa_cons (pe_int) pa_nil))))) (pe_call (ok__law_take T) (hr.mono (by omega)) (by rfl) T.g__law_take T.F__law_take.kp T.b__law_take .nil pass0 (pa_cons (pv 1) (pa_cons (pv 2) (pa_cons (pe_int) pa_nil)))) (fun _ _ => rfl)) pa_nil)) (pg_name (i := 5) sc_law.nd rfl (.inl rfl)) (pss_one (ps_expr (pe_bm PySem.F.plainAttrs_list PySem.F.slot_list_append PySem.F.type_list_append mt_append (pv 4) (pa_cons (pe_call (ok__law_way T) (hr.mono (by omega)) (by rfl) T.g__law_way T.F__law_way.kp T.b__law_way .nil pass0 (pa_cons (pv 1) (pa_cons (pv 2) pa_nil))) pa_nil)))))
      (pss_cons (ps_set (i := 6) sc_law.nd rfl (.inl rfl) (pe_call (ok__law_wide_shape T) (hr.mono (by omega)) (by rfl) T.g__law_wide_shape T.F__law_wide_shape.kp T.b__law_wide_shape .nil pass0 (pa_cons (pv 3) pa_nil)))
      (pss_cons (ps_set (i := 7) sc_law.nd rfl (.inl rfl) (pe_lst (pa_cons (pe_lst (pa_cons (pe_lst (pa_cons (pe_int) (pa_cons (pe_int) (pa_cons (pe_int) (pa_cons (pe_bl) pa_nil))))) pa_nil)) (pa_cons (pe_lst (pa_cons (pe_lst (pa_cons (pe_int) (pa_cons (pe_int) (pa_cons (pe_int) (pa_cons (pe_bl) pa_nil))))) pa_nil)) (pa_cons (pe_lst (pa_cons (pe_lst (pa_cons (pe_int) (pa_cons (pe_int) (pa_cons (pe_int) (pa_cons (pe_bl) pa_nil))))) pa_nil)) (pa_cons (pe_lst (pa_cons (pe_lst (pa_cons (pe_int) (pa_cons (pe_int) (pa_cons (pe_int) (pa_cons (pe_bl) pa_nil))))) pa_nil)) (pa_cons (pv 4) pa_nil)))))))
      (pss_cons (ps_for PassesOwn.never rfl (pi_range1 (by rfl) T.n_range (pa_cons (pe_int) pa_nil)) (pg_name (i := 8) sc_law.nd rfl (.inl rfl)) (pss_cons (ps_set (i := 9) sc_law.nd rfl (.inl rfl) (pe_lst (pa_cons (ClX.pe_cmeth (pe_glob (v := .ref T.c_Policy) (by rfl) T.g_Policy rfl) T.cr_Policy T.cm_Policy_two_phase ((ok_Policy_two_phase T).toR T.b_Policy_two_phase) (hr.mono (by omega)) pass0 (pa_cons (pv 6) pa_nil)) (pa_cons (ClX.pe_cmeth (pe_glob (v := .ref T.c_Policy) (by rfl) T.g_Policy rfl) T.cr_Policy T.cm_Policy_hand_over_hand ((ok_Policy_hand_over_hand T).toR T.b_Policy_hand_over_hand) (hr.mono (by omega)) pass0 (pa_cons (pv 6) pa_nil)) (pa_cons (ClX.pe_cmeth (pe_glob (v := .ref T.c_Policy) (by rfl) T.g_Policy rfl) T.cr_Policy T.cm_Policy_majority ((ok_Policy_majority T).toR T.b_Policy_majority) (hr.mono (by omega)) pass0 (pa_cons (pv 6) pa_nil)) pa_nil)))))
      (pss_cons (ps_expr (pe_bm PySem.F.plainAttrs_list PySem.F.slot_list_append PySem.F.type_list_append mt_append (pv 9) (pa_cons (ClX.pe_cmeth (pe_glob (v := .ref T.c_Policy) (by rfl) T.g_Policy rfl) T.cr_Policy T.cm_Policy_all_seen ((ok_Policy_all_seen T).toR T.b_Policy_all_seen) (hr.mono (by omega)) pass0 (pa_cons (pv 6) pa_nil)) pa_nil)))
      (C8.pss_cut (ps_expr (pe_bm PySem.F.plainAttrs_list PySem.F.slot_list_append PySem.F.type_list_append mt_append (pv 9) (pa_cons (pe_call (ok__law_everywhere T) (hr.mono (by omega)) (by rfl) T.g__law_everywhere T.F__law_everywhere.kp T.b__law_everywhere .nil pass0 (pa_cons (pv 6) (pa_cons (pv 4) pa_nil))) pa_nil)))
      (pss_one (ps_for PassesOwn.never rfl (pi_range1 (by rfl) T.n_range (pa_cons (pe_int) pa_nil)) (pg_name (i := 5) sc_law.nd rfl (.inl rfl)) (pss_cons (ps_set (i := 10) sc_law.nd rfl (.inl rfl) (pe_ix ix_list (pv 9) (pv 5) (fun _ _ => rfl)))
      (pss_cons (ps_set (i := 11) sc_law.nd rfl (.inl rfl) (pe_dnewK))
      (pss_cons (ps_for PassesOwn.never rfl (pi_list (pv 3)) (pg_name (i := 12) sc_law.nd rfl (.inl rfl)) (pss_one (ps_dput (hu_of hr) (pv 11) (pe_ix ix_list (pv 12) (pe_int) (fun _ _ => rfl)) (pe_lst (pa_cons (pe_bl) (pa_cons (pe_ix ix_list (pv 7) (pv 5) (fun _ _ => rfl)) pa_nil))) rfl)))
      (pss_cons (ps_if (pt_not (pt_val (pe_call (ok__law_policy_same T) (hr.mono (by omega)) (by rfl) T.g__law_policy_same T.F__law_policy_same.kp T.b__law_policy_same .nil pass0 (pa_cons (pv 10) (pa_cons (pv 6) (pa_cons (pv 11) pa_nil)))))) (pss_one (ps_ret (pe_bl))) pss_nil)
      (pss_one (ps_if (pt_cmpR op_gt (pe_callB call_len_seq (by rfl) T.n_len (by decide +kernel) (pa_cons (pv 3) pa_nil)) (pe_int) (nomark _)) (pss_cons (ps_set (i := 13) sc_law.nd rfl (.inl rfl) (pe_ix ix_list (pe_ix ix_list (pv 3) (pe_call (ok__law_take T) (hr.mono (by omega)) (by rfl) T.g__law_take T.F__law_take.kp T.b__law_take .nil pass0 (pa_cons (pv 1) (pa_cons (pv 2) (pa_cons (pe_callB call_len_seq (by rfl) T.n_len (by decide +kernel) (pa_cons (pv 3) pa_nil)) pa_nil)))) (fun _ _ => rfl)) (pe_int) (fun _ _ => rfl)))
      (pss_cons (ps_asg (pe_tup (pa_cons (pe_bl) (pa_cons (pe_tup pa_nil) pa_nil))) (pg_sub (pv 10) (pv 13) (set_own T.m_Policy_setitem T.nq_Policy (ok_Policy_setitem T) (hr.mono (by omega)) T.b_Policy_setitem pass0)))
      (pss_cons (ps_dput (hu_of hr) (pv 11) (pv 13) (pe_lst (pa_cons (pe_bl) (pa_cons (pe_lst pa_nil) pa_nil))) rfl)
      (pss_one (ps_if (pt_not (pt_val (pe_call (ok__law_policy_same T) (hr.mono (by omega)) (by rfl) T.g__law_policy_same T.F__law_policy_same.kp T.b__law_policy_same .nil pass0 (pa_cons (pv 10) (pa_cons (pv 6) (pa_cons (pv 11) pa_nil)))))) (pss_one (ps_ret (pe_bl))) pss_nil))))) pss_nil))))))))))))
      (pss_one (ps_ret (pe_bl))))))))))), ?_⟩
    have big : 100000 < sizeLine := by decide
    refine ⟨_, rfl, a0, ns0, rfl, hS, hlen, fun d zs H1 s1 nd hd => ?_⟩
    refine ⟨by show 1 ≤ sizeLine; decide, fun t hat => ?_⟩
    have D0 : Dr K (upd H1 t (.lst [.int 0])) d t := ⟨⟨zs, same_new hat _ _ hd⟩, ⟨0, upd_same⟩, ne_of_none hd hat⟩
    revert D0
    generalize upd H1 t (.lst [.int 0]) = H2
    intro D0
    -- the rows
    refine ⟨_, rfl, _, rfl, by show 7 ≤ sizeLine; decide, fun m hm => ?_⟩
    have s3 := same_new (o := .lst [.int 2, .int 1, .int 3, .int 6, .int 4, .int 5, .int 0]) hm
    have nmt : m ≠ t := D0.na hm
    refine ⟨_, rfl, _, rfl, d, t, 7, rfl, D0.same s3, by decide, fun r H5 r0 r1 D5 b5 => ?_⟩
    obtain ⟨v, hv, mv⟩ := at_ok (xs := [.int 2, .int 1, .int 3, .int 6, .int 4, .int 5, .int 0]) r0 r1
    obtain ⟨n, rfl, hn⟩ : ∃ n : Nat, v = .int n ∧ n ≤ 6 := by
      simp only [List.mem_cons, List.not_mem_nil, or_false] at mv
      rcases mv with rfl | rfl | rfl | rfl | rfl | rfl | rfl
      · exact ⟨2, rfl, by decide⟩
      · exact ⟨1, rfl, by decide⟩
      · exact ⟨3, rfl, by decide⟩
      · exact ⟨6, rfl, by decide⟩
      · exact ⟨4, rfl, by decide⟩
      · exact ⟨5, rfl, by decide⟩
      · exact ⟨0, rfl, by decide⟩
    refine ⟨_, _, _, _, rfl, rfl, SqL.of (b5 _ _ nmt upd_same), hv, ?_⟩
    refine ⟨d, t, n, rfl, D5, hn, fun rs ws R H6 lrs g D6 b6 nR hR rR => ?_⟩
    have nRt : R ≠ t := D5.na nR
    have rR6 : RowsN (fun a => a ≠ t) true H6 ws rs := rowsN_sub rR fun a f => D5.na f
    have lws := pair_len' rR
    have lrs6 := g.len
    have ndm : (mks rs).Nodup := g.nd
    have lmk : (mks rs).length = rs.length := by unfold mks; rw [List.length_map]
    clear rR hv mv s3 hm nmt b5 D5
    -- the ways
    refine ⟨Nat.zero_le _, fun W hW => ?_⟩
    have nWt : W ≠ t := D6.na hW
    have D7 := D6.same (same_new (o := .lst []) hW)
    refine ⟨by show 4 ≤ sizeLine; decide, fun m hm => ?_⟩
    have s8 := same_new (o := .lst [.int 2, .int 1, .int 0, .int 3]) hm
    have nmt : m ≠ t := D7.na hm
    refine ⟨_, rfl, _, rfl, d, t, 4, rfl, D7.same s8, by decide, fun r H8 r0 r1 D8 b8 => ?_⟩
    obtain ⟨v, hv, mv⟩ := at_ok (xs := [.int 2, .int 1, .int 0, .int 3]) r0 r1
    obtain ⟨n2, rfl, hn2⟩ : ∃ n : Nat, v = .int n ∧ n ≤ 3 := by
      simp only [List.mem_cons, List.not_mem_nil, or_false] at mv
      rcases mv with rfl | rfl | rfl | rfl
      · exact ⟨2, rfl, by decide⟩
      · exact ⟨1, rfl, by decide⟩
      · exact ⟨0, rfl, by decide⟩
      · exact ⟨3, rfl, by decide⟩
    have hW8 := b8 _ _ nWt (s8 _ _ (upd_same (H := H6) (a := W) (o := .lst [])))
    have b68 : But t H6 H8 := ((But.of_same (same_new hW)).trans (But.of_same s8)).trans b8
    refine ⟨_, _, _, _, rfl, rfl, SqL.of (b8 _ _ nmt upd_same), hv, _, rfl, by omega, by omega, for_range (lo := 0) (n := n2) (fun i σ H' => ∃ (x5 : Option V) (us : List V) (ks : List Wv), σ = [some (.ref a0), some (.ref d), some (.ref t), some (.ref R), some (.ref W), x5, none, none, none, none, none, none, none, none] ∧ Dr K H' d t ∧ But t H6 H' ∧ H' W = some (.lst us) ∧ us.length = i ∧ Paired (fun v k => LwN t H' v k ∧ ∀ q, v = .ref q → q ≠ W) us ks)
      ⟨_, [], [], rfl, D8, b68, hW8, rfl, .nil⟩ ?_ ?_⟩
    · rintro i σ H9 hi ⟨x5, us, ks, rfl, D9, b9, h9, l9, p9⟩
      refine ⟨_, rfl, .inl ⟨rfl, _, SqL.of h9⟩, _, rfl, _, rfl, d, t, rfl, D9, fun p a b c e HA adj DA bA np hp => ?_⟩
      have npW : p ≠ W := (ne_of_none h9 np).symm
      have hWA := bA _ _ nWt h9
      refine ⟨_, _, _, rfl, rfl, hWA, by omega, ?_⟩
      have ndW : d ≠ W := D6.nd hW
      refine ⟨_, us ++ [.ref p], ks ++ [(a, b, c, e)], rfl, ⟨DA.ds.elim fun zs e => ⟨zs, by rw [upd_ne ndW]; exact e⟩, DA.pl.elim fun k e => ⟨k, by rw [upd_ne nWt.symm]; exact e⟩, DA.ne⟩, (b9.trans bA).mut hW, upd_same, by rw [List.length_append, l9]; rfl, ?_⟩
      refine pair_app' (L2.Paired.mapP p9 fun v k ⟨⟨q, e1, e2, e3, e4⟩, e5⟩ => ⟨⟨q, e1, e2, by rw [upd_ne (e5 q e1)]; exact bA _ _ e2 e3, e4⟩, e5⟩) (.cons ⟨⟨p, rfl, D9.na np, by rw [upd_ne npW]; exact hp, adj⟩, fun q e => by cases e; exact npW⟩ .nil)
    rintro σ H9 ⟨x5, wv, kw, rfl, D9, b9, hW9, lwv, pw9⟩
    have pw9 : Paired (LwN t H9) wv kw := L2.Paired.mapP pw9 fun _ _ h => h.1
    have hR9 := b9 _ _ nRt hR
    have rR9 : RowsN (fun a => a ≠ t) true H9 ws rs := rowsN_le rR6 fun a o f e => b9 a o f e
    clear hW8 b68 D8 D7 s8 hm nmt hv mv rR6
    -- the shape
    refine ⟨_, rfl, R, ws, rs, rfl, hR9, rowsN_sub rR9 (fun _ _ => trivial), g, fun x HA sA nx SA => ?_⟩
    have DA := D9.same sA
    -- what is due
    obtain ⟨tk, htA⟩ := DA.pl
    refine ⟨by show 4 ≤ sizeLine; decide, fun w1 nw1 => ⟨by show 1 ≤ sizeLine; decide, fun p1 np1 => ?_⟩⟩
    have du1 := du_one (k := (0, 0, 0, true)) ⟨_, htA⟩ ⟨by decide, by decide, by decide⟩ nw1 np1
    have sB : Same HA (upd (upd HA w1 (.lst [.int 0, .int 0, .int 0, .bl true])) p1 (.lst [.ref w1])) := du1.1
    have dB : DuN t (upd (upd HA w1 (.lst [.int 0, .int 0, .int 0, .bl true])) p1 (.lst [.ref w1])) (.ref p1) [(0, 0, 0, true)] := du1.2
    clear du1
    revert sB dB
    generalize upd (upd HA w1 (.lst [.int 0, .int 0, .int 0, .bl true])) p1 (.lst [.ref w1]) = HB
    intro sB dB
    have htB := sB _ _ htA
    refine ⟨by show 4 ≤ sizeLine; decide, fun w2 nw2 => ⟨by show 1 ≤ sizeLine; decide, fun p2 np2 => ?_⟩⟩
    have du2 := du_one (k := (1, 1, 1, false)) ⟨_, htB⟩ ⟨by decide, by decide, by decide⟩ nw2 np2
    have sC : Same HB (upd (upd HB w2 (.lst [.int 1, .int 1, .int 1, .bl false])) p2 (.lst [.ref w2])) := du2.1
    have dC : DuN t (upd (upd HB w2 (.lst [.int 1, .int 1, .int 1, .bl false])) p2 (.lst [.ref w2])) (.ref p2) [(1, 1, 1, false)] := du2.2
    clear du2
    revert sC dC
    generalize upd (upd HB w2 (.lst [.int 1, .int 1, .int 1, .bl false])) p2 (.lst [.ref w2]) = HC
    intro sC dC
    have htC := sC _ _ htB
    refine ⟨by show 4 ≤ sizeLine; decide, fun w3 nw3 => ⟨by show 1 ≤ sizeLine; decide, fun p3 np3 => ?_⟩⟩
    have du3 := du_one (k := (2, 2, 2, false)) ⟨_, htC⟩ ⟨by decide, by decide, by decide⟩ nw3 np3
    have sD : Same HC (upd (upd HC w3 (.lst [.int 2, .int 2, .int 2, .bl false])) p3 (.lst [.ref w3])) := du3.1
    have dD : DuN t (upd (upd HC w3 (.lst [.int 2, .int 2, .int 2, .bl false])) p3 (.lst [.ref w3])) (.ref p3) [(2, 2, 2, false)] := du3.2
    clear du3
    revert sD dD
    generalize upd (upd HC w3 (.lst [.int 2, .int 2, .int 2, .bl false])) p3 (.lst [.ref w3]) = HD
    intro sD dD
    have htD := sD _ _ htC
    refine ⟨by show 4 ≤ sizeLine; decide, fun w4 nw4 => ⟨by show 1 ≤ sizeLine; decide, fun p4 np4 => ?_⟩⟩
    have du4 := du_one (k := (1, 1, 3, false)) ⟨_, htD⟩ ⟨by decide, by decide, by decide⟩ nw4 np4
    have sE : Same HD (upd (upd HD w4 (.lst [.int 1, .int 1, .int 3, .bl false])) p4 (.lst [.ref w4])) := du4.1
    have dE : DuN t (upd (upd HD w4 (.lst [.int 1, .int 1, .int 3, .bl false])) p4 (.lst [.ref w4])) (.ref p4) [(1, 1, 3, false)] := du4.2
    clear du4
    revert sE dE
    generalize upd (upd HD w4 (.lst [.int 1, .int 1, .int 3, .bl false])) p4 (.lst [.ref w4]) = HE
    intro sE dE
    have htE := sE _ _ htD
    refine ⟨_, rfl, by show 5 ≤ sizeLine; decide, fun Du nDu => ?_⟩
    have sF := same_new (o := .lst [.ref p1, .ref p2, .ref p3, .ref p4, .ref W]) nDu
    have hDu : (upd HE Du (.lst [.ref p1, .ref p2, .ref p3, .ref p4, .ref W])) Du = some (.lst [.ref p1, .ref p2, .ref p3, .ref p4, .ref W]) := upd_same
    have nDut : Du ≠ t := (ne_of_none htE nDu).symm
    revert sF hDu
    generalize upd HE Du (.lst [.ref p1, .ref p2, .ref p3, .ref p4, .ref W]) = HF
    intro sF hDu
    have sEF := sF
    have sDF := sE.trans sEF
    have sCF := sD.trans sDF
    have sBF := sC.trans sCF
    have sAF := sB.trans sBF
    have s9F := sA.trans sAF
    have lkF : ∀ {HX : Hp}, Same HX HF → Lk t HX HF := fun s => .same s
    have wlF : Paired (LwN t HF) wv kw := L2.Paired.mapP pw9 fun _ _ h => h.keep (lkF s9F)
    have DF := D9.same s9F
    have lw3 : wv.length ≤ 3 := by omega
    have FF : F24 T.c_Shape t x R Du W ws [.ref p1, .ref p2, .ref p3, .ref p4, .ref W] wv rs [[(0, 0, 0, true)], [(1, 1, 1, false)], [(2, 2, 2, false)], [(1, 1, 3, false)], kw] kw HF :=
      ⟨(ShN.same SA sAF).sub fun a f => by simpa using D9.na f, s9F _ _ hR9, rowsN_same rR9 s9F, nRt, hDu, nDut, .cons (dB.keep (lkF sBF)) (.cons (dC.keep (lkF sCF)) (.cons (dD.keep (lkF sDF)) (.cons (dE.keep (lkF sEF)) (.cons ⟨W, wv, rfl, nWt, s9F _ _ hW9, wlF, by omega⟩ .nil)))), s9F _ _ hW9, nWt, wlF, ⟨_, sAF _ _ htA⟩⟩
    clear dB dC dD dE sB sC sD sE sF hDu sEF sDF sCF sBF sAF s9F lkF wlF nw1 nw2 nw3 nw4 np1 np2 np3 np4 nDu htA htB htC htD htE SA hR9 rR9 pw9 hW9
    have gw := Good.words g.g
    have hdF : ∃ o, HF d = some o := DF.ds.elim fun zs e => ⟨_, e⟩
    have fF : ∀ {H' : Hp}, But t HF H' → Dr K H' d t → F24 T.c_Shape t x R Du W ws [.ref p1, .ref p2, .ref p3, .ref p4, .ref W] wv rs [[(0, 0, 0, true)], [(1, 1, 1, false)], [(2, 2, 2, false)], [(1, 1, 3, false)], kw] kw H' := fun b D => FF.but b (D.pl.elim fun k e => ⟨_, e⟩)
    -- the turns
    refine ⟨_, rfl, by omega, by omega, for_range (lo := 0) (n := 2) (fun i σ H' => ∃ x5 x8 x9 x10 x11 x12 x13 : Option V, σ = [some (.ref a0), some (.ref d), some (.ref t), some (.ref R), some (.ref W), x5, some (.ref x), some (.ref Du), x8, x9, x10, x11, x12, x13] ∧ Dr K H' d t ∧ But t HF H') ⟨_, _, _, _, _, _, _, rfl, DF, But.refl _ _⟩ ?_ ?_⟩
    rotate_left
    · rintro σ H' _
      exact qq _
    rintro i σ Ha hi ⟨x5, x8, x9, x10, x11, x12, x13, rfl, Da, ba⟩
    have Fa := fF ba Da
    have shp : ∀ {H' : Hp}, Same Ha H' → ShO T.c_Shape H' x rs := fun s => Fa.sh.sh.same s
    refine ⟨rfl, _, rfl, x, rs, rfl, Fa.sh.sh, ndm, by omega, fun y1 m1 a1 b1 Hb s1 ny1 nm1 na1 nb1 P1 => ?_⟩
    refine ⟨rfl, _, rfl, x, rs, rfl, shp s1, ndm, by omega, fun y2 m2 a2 b2 Hc s2 ny2 nm2 na2 nb2 P2 => ?_⟩
    have s12 := s1.trans s2
    refine ⟨rfl, _, rfl, x, rs, rfl, shp s12, ndm, by omega, fun y3 m3 a3 b3 Hd s3 ny3 nm3 na3 nb3 P3 => ?_⟩
    have s13 := s12.trans s3
    refine ⟨by show 3 ≤ sizeLine; decide, fun Mk nMk => ?_⟩
    have sM := same_new (o := .lst [.ref y1, .ref y2, .ref y3]) nMk
    have hM : (upd Hd Mk (.lst [.ref y1, .ref y2, .ref y3])) Mk = some (.lst [.ref y1, .ref y2, .ref y3]) := upd_same
    have s1M := s13.trans sM
    revert sM hM s1M
    generalize upd Hd Mk (.lst [.ref y1, .ref y2, .ref y3]) = He
    intro sM hM s1M
    refine ⟨_, rfl, .inl ⟨rfl, _, SqL.of hM⟩, rfl, _, rfl, x, rs, rfl, shp s1M, ndm, by omega, fun y4 m4 a4 b4 Hf s4 ny4 nm4 na4 nb4 P4 => ⟨_, _, _, rfl, rfl, s4 _ _ hM, by show 3 < sizeLine; decide, ?_⟩⟩
    have hMa : Ha Mk = none := s13.free nMk
    have nMt : Mk ≠ t := Da.na hMa
    have mMk : ∀ {c : Addr} {xs : List V}, Hd c = some (.lst xs) → c ≠ Mk := fun h e => by rw [e, nMk] at h; cases h
    have m1M := mMk ((s2.trans s3) _ _ P1.mar)
    have m2M := mMk (s3 _ _ P2.mar)
    have m3M := mMk P3.mar
    have m4M : m4 ≠ Mk := fun e => by rw [e, hM] at nm4; cases nm4
    have q1 : Paired (PolAt T.c_Policy T.c_Way x (mks rs) Hb) [(y1, m1, a1, b1)] [[(0, 0, 0, true)]] := .cons P1 .nil
    have w1 : List.Pairwise apart [(y1, m1, a1, b1)] := by simp
    have w2 := pols_new (q := (y2, m2, a2, b2)) q1 w1 na2 nb2
    have q2 : Paired (PolAt T.c_Policy T.c_Way x (mks rs) Hc) ([(y1, m1, a1, b1)] ++ [(y2, m2, a2, b2)]) ([[(0, 0, 0, true)]] ++ [[(1, 1, 1, false)]]) := pair_app' (pols_same q1 s2) (.cons P2 .nil)
    have w3 := pols_new (q := (y3, m3, a3, b3)) q2 w2 na3 nb3
    have q3 : Paired (PolAt T.c_Policy T.c_Way x (mks rs) Hd) ([(y1, m1, a1, b1)] ++ [(y2, m2, a2, b2)] ++ [(y3, m3, a3, b3)]) ([[(0, 0, 0, true)]] ++ [[(1, 1, 1, false)]] ++ [[(2, 2, 2, false)]]) := pair_app' (pols_same q2 s3) (.cons P3 .nil)
    have q3e := pols_same q3 sM
    have w4 := pols_new (q := (y4, m4, a4, b4)) q3e w3 na4 nb4
    have q4 : Paired (PolAt T.c_Policy T.c_Way x (mks rs) Hf) ([(y1, m1, a1, b1)] ++ [(y2, m2, a2, b2)] ++ [(y3, m3, a3, b3)] ++ [(y4, m4, a4, b4)]) ([[(0, 0, 0, true)]] ++ [[(1, 1, 1, false)]] ++ [[(2, 2, 2, false)]] ++ [[(1, 1, 3, false)]]) := pair_app' (pols_same q3e s4) (.cons P4 .nil)
    have q4g := pols_lst (ys := [.ref y1, .ref y2, .ref y3, .ref y4]) (s4 _ _ hM) q4 (fun q hq => by
      simp only [List.cons_append, List.nil_append, List.mem_cons, List.not_mem_nil, or_false] at hq
      rcases hq with rfl | rfl | rfl | rfl
      · exact m1M
      · exact m2M
      · exact m3M
      · exact m4M)
    have sag := same_mut (o := .lst [.ref y1, .ref y2, .ref y3, .ref y4]) (s1M.trans s4) hMa
    have hMg : (upd Hf Mk (.lst [.ref y1, .ref y2, .ref y3, .ref y4])) Mk = some (.lst [.ref y1, .ref y2, .ref y3, .ref y4]) := upd_same
    show _
    change tSeq _ _ _ _ (upd Hf Mk (.lst [.ref y1, .ref y2, .ref y3, .ref y4]))
    revert q4g sag hMg
    generalize upd Hf Mk (.lst [.ref y1, .ref y2, .ref y3, .ref y4]) = Hg
    intro q4g sag hMg
    refine ⟨fun σ' H' => ∃ (x5 x8 x10 x11 x12 x13 : Option V) (L : List Pq), σ' = [some (.ref a0), some (.ref d), some (.ref t), some (.ref R), some (.ref W), x5, some (.ref x), some (.ref Du), x8, some (.ref Mk), x10, x11, x12, x13] ∧ Same Ha H' ∧ L.length = 5 ∧ H' Mk = some (.lst (L.map fun q => .ref q.1)) ∧ L.Pairwise apart ∧ (∀ q ∈ L, Ha q.2.1 = none ∧ Ha q.2.2.1 = none ∧ Ha q.2.2.2 = none) ∧ Paired (PolAt T.c_Policy T.c_Way x (mks rs) H') L [[(0, 0, 0, true)], [(1, 1, 1, false)], [(2, 2, 2, false)], [(1, 1, 3, false)], kw], ?_, ?_⟩
    · refine ⟨_, rfl, .inl ⟨rfl, _, SqL.of hMg⟩, _, rfl, _, rfl, x, W, wv, rs, kw, rfl, shp sag, ndm, by omega, sag _ _ Fa.ww, L2.Paired.mapP Fa.wl fun _ _ h => (h.v).same sag, lw3, fun y5 m5 a5 b5 Hh s5 ny5 nm5 na5 nb5 P5 => ⟨_, _, _, rfl, rfl, s5 _ _ hMg, by show 4 < sizeLine; decide, ?_⟩⟩
      have m5M : m5 ≠ Mk := fun e => by rw [e, hMg] at nm5; cases nm5
      have w5 : List.Pairwise apart [(y1, m1, a1, b1), (y2, m2, a2, b2), (y3, m3, a3, b3), (y4, m4, a4, b4), (y5, m5, a5, b5)] := pols_new (q := (y5, m5, a5, b5)) q4g w4 na5 nb5
      have q5 : Paired (PolAt T.c_Policy T.c_Way x (mks rs) Hh) [(y1, m1, a1, b1), (y2, m2, a2, b2), (y3, m3, a3, b3), (y4, m4, a4, b4), (y5, m5, a5, b5)] [[(0, 0, 0, true)], [(1, 1, 1, false)], [(2, 2, 2, false)], [(1, 1, 3, false)], kw] := pair_app' (pols_same q4g s5) (.cons P5 .nil)
      have q5i := pols_lst (ys := [.ref y1, .ref y2, .ref y3, .ref y4, .ref y5]) (s5 _ _ hMg) q5 (fun q hq => by
        simp only [List.mem_cons, List.not_mem_nil, or_false] at hq
        rcases hq with rfl | rfl | rfl | rfl | rfl
        · exact m1M
        · exact m2M
        · exact m3M
        · exact m4M
        · exact m5M)
      have fr0 : ∀ q ∈ [(y1, m1, a1, b1), (y2, m2, a2, b2), (y3, m3, a3, b3), (y4, m4, a4, b4), (y5, m5, a5, b5)], Ha q.2.1 = none ∧ Ha q.2.2.1 = none ∧ Ha q.2.2.2 = none := fun q hq => by
        simp only [List.mem_cons, List.not_mem_nil, or_false] at hq
        rcases hq with rfl | rfl | rfl | rfl | rfl
        · exact ⟨nm1, na1, nb1⟩
        · exact ⟨s1.free nm2, s1.free na2, s1.free nb2⟩
        · exact ⟨s12.free nm3, s12.free na3, s12.free nb3⟩
        · exact ⟨s1M.free nm4, s1M.free na4, s1M.free nb4⟩
        · exact ⟨sag.free nm5, sag.free na5, sag.free nb5⟩
      exact ⟨_, _, _, _, _, _, [(y1, m1, a1, b1), (y2, m2, a2, b2), (y3, m3, a3, b3), (y4, m4, a4, b4), (y5, m5, a5, b5)], rfl, same_mut (sag.trans s5) hMa, rfl, upd_same, w5, fr0, q5i⟩
    clear q1 q2 q3 q3e q4 q4g w1 w2 w3 w4 P1 P2 P3 P4 s1 s2 s3 s4 sM s12 s13 s1M hM hMg sag m1M m2M m3M m4M mMk ny1 ny2 ny3 ny4 nm1 nm2 nm3 nm4 na1 na2 na3 na4 nb1 nb2 nb3 nb4 hMa nMk
    rintro σi Hi ⟨x5, x8, x10, x11, x12, x13, L, rfl, sai, lL, hMi, w5, fr0, q5i⟩
    obtain ⟨KS, eKS⟩ : ∃ KS : List (List Wv), KS = [[(0, 0, 0, true)], [(1, 1, 1, false)], [(2, 2, 2, false)], [(1, 1, 3, false)], kw] := ⟨_, rfl⟩
    have lKS : KS.length = 5 := by rw [eKS]; rfl
    rw [← eKS] at q5i FF fF Fa
    clear eKS
    refine ⟨_, rfl, by omega, by omega, for_range (lo := 0) (n := 5) (fun k σ H' => ∃ x5 x8 x10 x11 x12 x13 : Option V, σ = [some (.ref a0), some (.ref d), some (.ref t), some (.ref R), some (.ref W), x5, some (.ref x), some (.ref Du), x8, some (.ref Mk), x10, x11, x12, x13] ∧ Dr K H' d t ∧ But t Ha H' ∧ H' Mk = some (.lst (L.map fun q => .ref q.1)) ∧ Paired (PolAt T.c_Policy T.c_Way x (mks rs) H') (L.drop k) (KS.drop k)) ⟨_, _, _, _, _, _, rfl, Da.same sai, But.of_same sai, hMi, q5i⟩ ?_ ?_⟩
    rotate_left
    · rintro σ H' ⟨x5, x8, x10, x11, x12, x13, rfl, D', b', _⟩
      exact ⟨_, _, _, _, _, _, _, rfl, D', ba.trans b'⟩
    rintro k σ Hk hk ⟨x5, x8, x10, x11, x12, x13, rfl, Dk, bk, hMk, pk⟩
    rw [Int.zero_add]
    obtain ⟨⟨y, m, a, b⟩, hq⟩ : ∃ q, L[k]? = some q := ⟨_, List.getElem?_eq_getElem (by rw [lL]; omega)⟩
    obtain ⟨ks, hks⟩ : ∃ ks, KS[k]? = some ks := ⟨_, List.getElem?_eq_getElem (by rw [lKS]; omega)⟩
    have dL : L.drop k = (y, m, a, b) :: L.drop (k + 1) := drop_at hq
    rw [dL, drop_at hks] at pk
    obtain ⟨P, prest⟩ : PolAt T.c_Policy T.c_Way x (mks rs) Hk (y, m, a, b) ks ∧ Paired (PolAt T.c_Policy T.c_Way x (mks rs) Hk) (L.drop (k + 1)) (KS.drop (k + 1)) := by
      cases pk with
      | cons h t => exact ⟨h, t⟩
    have apq : ∀ p ∈ L.drop (k + 1), apart (y, m, a, b) p := by
      have w6 := w5.sublist (List.drop_sublist k L)
      rw [dL] at w6
      exact (List.pairwise_cons.mp w6).1
    have fab := fr0 _ (List.mem_of_getElem? hq)
    have Fk := fF (ba.trans bk) Dk
    obtain ⟨dy, hy⟩ := P.obj
    -- the policy
    refine ⟨_, rfl, _, rfl, _, _, _, _, rfl, rfl, SqL.of hMk, atI_nat (j := k) (by rw [List.getElem?_map, hq]; rfl), ?_⟩
    refine fun gd ngd => ?_
    have sg := same_new (o := .dK []) ngd
    have hgd : (upd Hk gd (.dK [])) gd = some (.dK []) := upd_same
    obtain ⟨vd, hvd⟩ : ∃ v, ([.ref p1, .ref p2, .ref p3, .ref p4, .ref W] : List V)[k]? = some v := ⟨_, List.getElem?_eq_getElem (by simp; omega)⟩
    obtain ⟨ks', hks', pq, us, rfl, npq, hpq, pus, lus⟩ := pair_get' Fk.dd hvd
    obtain rfl : ks = ks' := by rw [hks] at hks'; exact Option.some.inj hks'
    revert sg hgd
    generalize upd Hk gd (.dK []) = Hl
    intro sg hgd
    refine ⟨_, rfl, R, rfl, ⟨_, SqL.of (sg _ _ Fk.rw)⟩, for_list (K := K) (a := R) (xs := ws) (fun j σ H' => ∃ (x12 : Option V) (kvs : List (Key × V)), σ = [some (.ref a0), some (.ref d), some (.ref t), some (.ref R), some (.ref W), some (.int k), some (.ref x), some (.ref Du), x8, some (.ref Mk), some (.ref y), some (.ref gd), x12, x13] ∧ Same Hk H' ∧ H' gd = some (.dK kvs) ∧ Paired (RdN t H') kvs ((rs.take j).map fun r => (r.mark, true, ks))) ⟨_, [], rfl, sg, hgd, .nil⟩ (fun j σ H' _ ⟨_, _, _, s, _⟩ => SqL.of (s _ _ Fk.rw)) ?_ ?_⟩
    · rintro j v σ Hm hv ⟨x12, kvs, rfl, sm, hgm, pm⟩
      obtain ⟨r, hr, p, pp, rfl, _, _, hp, hpp⟩ := pair_get' Fk.rr hv
      have hp : Hk p = some (.lst (rowL r pp)) := hp
      have hj := (List.getElem?_eq_some_iff.mp hr).1
      have lkv : kvs.length = j := by rw [pair_len' pm, List.length_map, List.length_take]; omega
      refine ⟨_, rfl, _, rfl, _, _, _, _, rfl, rfl, SqL.of (sm _ _ Fk.du), atI_nat (j := k) hvd, by show 2 ≤ sizeLine; decide, fun e ne => ?_⟩
      have sn := same_new (o := .lst [.bl true, .ref pq]) ne
      have he : (upd Hm e (.lst [.bl true, .ref pq])) e = some (.lst [.bl true, .ref pq]) := upd_same
      have net : e ≠ t := (Dk.same sm).na ne
      revert sn he
      generalize upd Hm e (.lst [.bl true, .ref pq]) = Hn
      intro sn he
      have smn := sm.trans sn
      refine ⟨_, rfl, _, rfl, _, _, _, _, rfl, rfl, SqL.of (smn _ _ hp), atI_nat (j := 0) rfl, gd, _, rfl, DPut.k (k := .inr r.mark) (sn _ _ hgm) (by omega), ?_⟩
      have nz : r.mark ∉ ((rs.take j).map fun r => ((r.mark, true, ks) : Rl)).map (·.1) := by
        rw [List.map_map]
        show r.mark ∉ (rs.take j).map Row.mark
        have hmk : (mks rs)[j]? = some r.mark := by unfold mks; rw [List.getElem?_map, hr]; rfl
        have := nodup_take.mp ndm j r.mark hmk
        unfold mks at this
        rw [List.map_take]; exact this
      rw [putK_new _ (rd_none pm nz)]
      have kl : Lk t Hm (upd Hn gd (.dK (kvs ++ [(.inr r.mark, .ref e)]))) := (Lk.same sn).trans (.updD (sn _ _ hgm))
      have kn : Lk t Hn (upd Hn gd (.dK (kvs ++ [(.inr r.mark, .ref e)]))) := .updD (sn _ _ hgm)
      refine ⟨_, kvs ++ [(.inr r.mark, .ref e)], rfl, same_mut smn ngd, upd_same, ?_⟩
      rw [List.take_succ, hr, Option.toList_some, List.map_append]
      exact pair_app' (L2.Paired.mapP pm fun _ _ h => h.keep kl) (.cons ⟨rfl, e, pq, us, rfl, net, kn _ _ net he, npq, kn _ _ npq (smn _ _ hpq), L2.Paired.mapP pus fun _ _ h => (h.keep (.same smn)).keep kn, lus⟩ .nil)
    rintro σ Hm ⟨x12, kvs, rfl, sm, hgm, pm⟩
    rw [lws, List.take_length] at pm
    have erl : (rs.map fun r => ((r.mark, true, ks) : Rl)) = (mks rs).map fun z => (z, true, ks) := by unfold mks; rw [List.map_map]; rfl
    rw [erl] at pm
    have lrl : ((mks rs).map fun z => ((z, true, ks) : Rl)).length ≤ 6 := by rw [List.length_map]; omega
    have lkv := pair_len' pm
    refine ⟨_, rfl, _, rfl, _, rfl, y, x, m, a, b, gd, _, rs, kvs, rfl, Pol.same P sm, Fk.sh.sh.same sm, gw, hgm, L2.Paired.mapP pm fun _ _ h => h.v, by omega, fun Ho so => ⟨_, rfl, iteNo rfl ?_⟩⟩
    have smo := sm.trans so
    have Do := Dk.same smo
    have bo : But t Ha Ho := bk.trans (But.of_same smo)
    refine ⟨_, rfl, R, _, rfl, .inl (SqL.of (smo _ _ Fk.rw)), _, _, rfl, rfl, _, rfl, iteD (fun c => ?_) (fun c => ?_)⟩
    rotate_left
    · exact ⟨_, _, _, _, _, _, rfl, Do, bo, smo _ _ hMk, pols_same prest smo⟩
    -- a rule is set
    have Fo := fF (ba.trans bo) Do
    have hto := Fo.tl
    have Po := Pol.same P smo
    refine ⟨_, rfl, _, rfl, _, rfl, _, rfl, R, _, rfl, .inl (SqL.of Fo.rw), d, t, _, rfl, Do, by omega, fun r5 H5 r50 r51 D5 b5 => ?_⟩
    obtain ⟨v5, hv5, mv5⟩ := at_ok (xs := ws) r50 r51
    obtain ⟨j5, hj5⟩ := List.mem_iff_getElem?.mp mv5
    obtain ⟨r, hr, p, pp, rfl, npt, _, hp, hpp⟩ := pair_get' Fo.rr hj5
    have hp : Ho p = some (.lst (rowL r pp)) := hp
    refine ⟨_, _, _, _, rfl, rfl, SqL.of (b5 _ _ nRt Fo.rw), hv5, _, _, _, _, rfl, rfl, SqL.of (b5 _ _ npt hp), atI_nat (j := 0) rfl, ?_⟩
    have nmt : m ≠ t := Da.na fab.1
    have P5 := pol_but hto b5 Po nmt
    have pr5 := pols_but hto b5 (pols_same prest smo) (fun q hq => Da.na (fr0 q (List.mem_of_mem_drop hq)).1)
    have pm5 : Paired (RdN t H5) kvs ((mks rs).map fun z => (z, true, ks)) := L2.Paired.mapP pm fun _ _ h => (h.keep (.same so)).keep (.but b5)
    have ngt : gd ≠ t := Dk.na ngd
    have hg5 := b5 _ _ ngt (so _ _ hgm)
    have hM5 := b5 _ _ nMt (smo _ _ hMk)
    have ba5 : But t Ha H5 := bo.trans b5
    refine ⟨Nat.zero_le _, fun e0 ne0 => ⟨by show 2 ≤ sizeLine; decide, fun u nu => ?_⟩⟩
    have s6 := (same_new (o := .tup []) ne0).trans (same_new (o := .tup [.bl false, .ref e0]) nu)
    have he0 := same_new (o := .tup [.bl false, .ref e0]) nu _ _ (upd_same (H := H5) (a := e0) (o := .tup []))
    have hu : (upd (upd H5 e0 (.tup [])) u (.tup [.bl false, .ref e0])) u = some (.tup [.bl false, .ref e0]) := upd_same
    revert s6 he0 hu
    generalize upd (upd H5 e0 (.tup [])) u (.tup [.bl false, .ref e0]) = H6
    intro s6 he0 hu
    have P6 := P5.same s6
    obtain ⟨dy6, hy6⟩ := P6.obj
    obtain ⟨ls6, ha6, hb6, _⟩ := P6.tb
    have mz : r.mark ∈ ((mks rs).map fun z => ((z, true, ks) : Rl)).map (·.1) := by
      rw [List.map_map]
      show r.mark ∈ (mks rs).map fun z => z
      rw [List.map_id']
      exact List.mem_map.mpr ⟨r, List.mem_of_getElem? hr, rfl⟩
    refine ⟨_, rfl, _, rfl, y, dy6, _, rfl, hy6, y, x, m, a, b, u, e0, _, r.mark, false, [], rfl, P6, by omega, mz, hu, ⟨[], he0, .nil⟩, fun H8 le8 kw8 P8 => ?_⟩
    have nin : ∀ {c : Addr} {o : HO}, H6 c = some o → (∀ kv, o ≠ .dK kv) → c ∉ [a, b] := fun h no hc => by
      simp only [List.mem_cons, List.not_mem_nil, or_false] at hc
      rcases hc with rfl | rfl
      · rw [ha6] at h; exact no _ (Option.some.inj h).symm
      · rw [hb6] at h; exact no _ (Option.some.inj h).symm
    have gne := pols_ne (show Paired (PolAt T.c_Policy T.c_Way x (mks rs) Hk) [(y, m, a, b)] [ks] from .cons P .nil) ngd _ (List.mem_singleton.mpr rfl)
    have gab : gd ∉ [a, b] := fun hc => by
      simp only [List.mem_cons, List.not_mem_nil, or_false] at hc
      exact hc.elim (fun e => gne.1 e.symm) fun e => gne.2 e.symm
    have hg8 := le8 _ _ gab (s6 _ _ hg5)
    have hM8 := le8 _ _ (nin (s6 _ _ hM5) (fun _ h => nomatch h)) (s6 _ _ hM5)
    have D6 := D5.same s6
    have D8 : Dr K H8 d t := ⟨D6.ds.elim fun zs e => ⟨zs, le8 _ _ (nin e (fun _ h => nomatch h)) e⟩, D6.pl.elim fun k e => ⟨k, le8 _ _ (nin e (fun _ h => nomatch h)) e⟩, D6.ne⟩
    have ba8 : But t Ha H8 := fun c o n e => le8 _ _ (fun hc => by
      simp only [List.mem_cons, List.not_mem_nil, or_false] at hc
      rcases hc with rfl | rfl
      · rw [fab.2.1] at e; cases e
      · rw [fab.2.2] at e; cases e) (s6 _ _ (ba5 c o n e))
    have pm8 : Paired (RdN t H8) kvs ((mks rs).map fun z => (z, true, ks)) := L2.Paired.mapP pm5 fun _ _ h => (h.keep (.same s6)).keep (.le le8 ha6 hb6)
    have pr8 := pols_set (q := (y, m, a, b)) ha6 hb6 le8 kw8 (pols_same pr5 s6) apq
    refine ⟨Nat.zero_le _, fun f nf => ⟨by show 2 ≤ sizeLine; decide, fun e ne => ?_⟩⟩
    have s9 := (same_new (o := .lst []) nf).trans (same_new (o := .lst [.bl false, .ref f]) ne)
    have hf := same_new (o := .lst [.bl false, .ref f]) ne _ _ (upd_same (H := H8) (a := f) (o := .lst []))
    have he : (upd (upd H8 f (.lst [])) e (.lst [.bl false, .ref f])) e = some (.lst [.bl false, .ref f]) := upd_same
    have nft : f ≠ t := D8.na nf
    have net : e ≠ t := (D8.same (same_new nf)).na ne
    revert s9 hf he
    generalize upd (upd H8 f (.lst [])) e (.lst [.bl false, .ref f]) = H9'
    intro s9 hf he
    have hg9 := s9 _ _ hg8
    refine ⟨_, rfl, _, rfl, gd, _, rfl, DPut.k (k := .inr r.mark) hg9 (by omega), ?_⟩
    have kn : Lk t H9' (upd H9' gd (.dK (putK kvs (.inr r.mark) (.ref e)))) := .updD hg9
    have pmA : Paired (RdN t (upd H9' gd (.dK (putK kvs (.inr r.mark) (.ref e))))) kvs ((mks rs).map fun z => (z, true, ks)) := L2.Paired.mapP pm8 fun _ _ h => (h.keep (.same s9)).keep kn
    have pmB := rd_put (r := (r.mark, false, [])) (v := .ref e) ⟨rfl, e, f, [], rfl, net, kn _ _ net he, nft, kn _ _ nft hf, .nil, by simp⟩ pmA mz
    have PA := pol_updD (k' := putK kvs (.inr r.mark) (.ref e)) hg9 (P8.same s9) gne.1 gne.2
    have prA := pols_updD (k' := putK kvs (.inr r.mark) (.ref e)) hg9 (pols_same pr8 s9) (pols_ne prest ngd)
    have hga : Ha gd = none := bk.free ngt ngd
    have baA : But t Ha (upd H9' gd (.dK (putK kvs (.inr r.mark) (.ref e)))) := (ba8.trans (But.of_same s9)).mut hga
    have D9' := D8.same s9
    have DA' : Dr K (upd H9' gd (.dK (putK kvs (.inr r.mark) (.ref e)))) d t := ⟨D9'.ds.elim fun zs e => ⟨zs, kn _ _ D9'.ne e⟩, D9'.pl.elim fun k e => ⟨k, by rw [upd_ne ngt.symm]; exact e⟩, D9'.ne⟩
    have hMA := kn _ _ nMt (s9 _ _ hM8)
    have FA := fF (ba.trans baA) DA'
    have hgA : (upd H9' gd (.dK (putK kvs (.inr r.mark) (.ref e)))) gd = some (.dK (putK kvs (.inr r.mark) (.ref e))) := upd_same
    revert pmB PA prA baA DA' hMA FA hgA
    generalize upd H9' gd (.dK (putK kvs (.inr r.mark) (.ref e))) = HB
    intro pmB PA prA baA DA' hMA FA hgA
    refine ⟨_, rfl, _, rfl, _, rfl, y, x, m, a, b, gd, _, rs, _, rfl, PA, FA.sh.sh, gw, hgA, L2.Paired.mapP pmB fun _ _ h => h.v, by unfold setR; rw [List.length_map]; omega, fun HC sC => ⟨_, rfl, iteNo rfl ?_⟩⟩
    exact ⟨_, _, _, _, _, _, rfl, DA'.same sC, baA.trans (But.of_same sC), sC _ _ hMA, pols_same prA sC⟩
end
end My

namespace My
open PySem L2
theorem all_mk {w : World} {K : PySem.W.Frag} {h : Heap} {mg : Str → Option Value} {fa : Addr} (X : K.In h) (G : h.Ns mainGlobals mg) (hfa : mg "law" = some (.ref fa))
    {c_Way : Addr}
    {c_Policy : Addr}
    {c_Shape : Addr}
    {f_rank : Addr} {od_rank an_rank : Option Addr} {sl_rank : Array (Option Value)} {oc_rank kV_rank dc_rank pm_rank cd_rank ct_rank : Value}
    {f_Way_init : Addr} {od_Way_init an_Way_init : Option Addr} {sl_Way_init : Array (Option Value)} {oc_Way_init dc_Way_init pm_Way_init cd_Way_init ct_Way_init : Value}
    {dt_Way_init : Addr} {odt_Way_init : Option Addr} {cdt_Way_init : Value} {ndt_Way_init : Nat} {sdt_Way_init : Array (Option Value)} {tt_Way_init_0 : Tok} {tt_Way_init_1 : Tok} {tt_Way_init_2 : Tok}
    {kd_Way_init : Addr} 
    {f_Policy_init : Addr} {od_Policy_init an_Policy_init : Option Addr} {sl_Policy_init : Array (Option Value)} {oc_Policy_init dc_Policy_init pm_Policy_init cd_Policy_init ct_Policy_init : Value}
    {kV_Policy_init : Value}
    {dt_Policy_init : Addr} {odt_Policy_init : Option Addr} {cdt_Policy_init : Value} {ndt_Policy_init : Nat} {sdt_Policy_init : Array (Option Value)} {ed_Policy_init_0 : Addr}
    {oe_Policy_init_0 : Option Addr} {ne_Policy_init_0 : Nat} {se_Policy_init_0 : Array (Option Value)}
    {f_Policy_iter : Addr} {od_Policy_iter an_Policy_iter : Option Addr} {sl_Policy_iter : Array (Option Value)} {oc_Policy_iter kV_Policy_iter dc_Policy_iter pm_Policy_iter cd_Policy_iter ct_Policy_iter : Value}
    {f_Policy_len : Addr} {od_Policy_len an_Policy_len : Option Addr} {sl_Policy_len : Array (Option Value)} {oc_Policy_len kV_Policy_len dc_Policy_len pm_Policy_len cd_Policy_len ct_Policy_len : Value}
    {f_Policy_getitem : Addr} {od_Policy_getitem an_Policy_getitem : Option Addr} {sl_Policy_getitem : Array (Option Value)} {oc_Policy_getitem kV_Policy_getitem dc_Policy_getitem pm_Policy_getitem cd_Policy_getitem ct_Policy_getitem : Value}
    {f_Policy_setitem : Addr} {od_Policy_setitem an_Policy_setitem : Option Addr} {sl_Policy_setitem : Array (Option Value)} {oc_Policy_setitem kV_Policy_setitem dc_Policy_setitem pm_Policy_setitem cd_Policy_setitem ct_Policy_setitem : Value}
    {f_Policy_starts : Addr} {od_Policy_starts an_Policy_starts : Option Addr} {sl_Policy_starts : Array (Option Value)} {oc_Policy_starts kV_Policy_starts dc_Policy_starts pm_Policy_starts cd_Policy_starts ct_Policy_starts : Value}
    {p_Policy_starts : Addr} {rs_Policy_starts : List Value}
    {f_Policy_everywhere : Addr} {od_Policy_everywhere an_Policy_everywhere : Option Addr} {sl_Policy_everywhere : Array (Option Value)} {oc_Policy_everywhere kV_Policy_everywhere dc_Policy_everywhere pm_Policy_everywhere cd_Policy_everywhere ct_Policy_everywhere : Value}
    {p_Policy_everywhere : Addr} {rs_Policy_everywhere : List Value}
    {f_Policy_two_phase : Addr} {od_Policy_two_phase an_Policy_two_phase : Option Addr} {sl_Policy_two_phase : Array (Option Value)} {oc_Policy_two_phase kV_Policy_two_phase dc_Policy_two_phase pm_Policy_two_phase cd_Policy_two_phase ct_Policy_two_phase : Value}
    {p_Policy_two_phase : Addr} {rs_Policy_two_phase : List Value}
    {f_Policy_hand_over_hand : Addr} {od_Policy_hand_over_hand an_Policy_hand_over_hand : Option Addr} {sl_Policy_hand_over_hand : Array (Option Value)} {oc_Policy_hand_over_hand kV_Policy_hand_over_hand dc_Policy_hand_over_hand pm_Policy_hand_over_hand cd_Policy_hand_over_hand ct_Policy_hand_over_hand : Value}
    {p_Policy_hand_over_hand : Addr} {rs_Policy_hand_over_hand : List Value}
    {f_Policy_majority : Addr} {od_Policy_majority an_Policy_majority : Option Addr} {sl_Policy_majority : Array (Option Value)} {oc_Policy_majority kV_Policy_majority dc_Policy_majority pm_Policy_majority cd_Policy_majority ct_Policy_majority : Value}
    {p_Policy_majority : Addr} {rs_Policy_majority : List Value}
    {f_Policy_all_seen : Addr} {od_Policy_all_seen an_Policy_all_seen : Option Addr} {sl_Policy_all_seen : Array (Option Value)} {oc_Policy_all_seen kV_Policy_all_seen dc_Policy_all_seen pm_Policy_all_seen cd_Policy_all_seen ct_Policy_all_seen : Value}
    {p_Policy_all_seen : Addr} {rs_Policy_all_seen : List Value}
    {f_is_mark : Addr} {od_is_mark an_is_mark : Option Addr} {sl_is_mark : Array (Option Value)} {oc_is_mark kV_is_mark dc_is_mark pm_is_mark cd_is_mark ct_is_mark : Value}
    {f_sound_row : Addr} {od_sound_row an_sound_row : Option Addr} {sl_sound_row : Array (Option Value)} {oc_sound_row kV_sound_row dc_sound_row pm_sound_row cd_sound_row ct_sound_row : Value}
    {f_barren : Addr} {od_barren an_barren : Option Addr} {sl_barren : Array (Option Value)} {oc_barren kV_barren dc_barren pm_barren cd_barren ct_barren : Value}
    {f_Shape_init : Addr} {od_Shape_init an_Shape_init : Option Addr} {sl_Shape_init : Array (Option Value)} {oc_Shape_init kV_Shape_init dc_Shape_init pm_Shape_init cd_Shape_init ct_Shape_init : Value}
    {f_Shape_iter : Addr} {od_Shape_iter an_Shape_iter : Option Addr} {sl_Shape_iter : Array (Option Value)} {oc_Shape_iter kV_Shape_iter dc_Shape_iter pm_Shape_iter cd_Shape_iter ct_Shape_iter : Value}
    {f_Shape_len : Addr} {od_Shape_len an_Shape_len : Option Addr} {sl_Shape_len : Array (Option Value)} {oc_Shape_len kV_Shape_len dc_Shape_len pm_Shape_len cd_Shape_len ct_Shape_len : Value}
    {f_Shape_eq : Addr} {od_Shape_eq an_Shape_eq : Option Addr} {sl_Shape_eq : Array (Option Value)} {oc_Shape_eq kV_Shape_eq dc_Shape_eq pm_Shape_eq cd_Shape_eq ct_Shape_eq : Value}
    {f__law_draws : Addr} {od__law_draws an__law_draws : Option Addr} {sl__law_draws : Array (Option Value)} {oc__law_draws kV__law_draws dc__law_draws pm__law_draws cd__law_draws ct__law_draws : Value}
    {f__law_take : Addr} {od__law_take an__law_take : Option Addr} {sl__law_take : Array (Option Value)} {oc__law_take kV__law_take dc__law_take pm__law_take cd__law_take ct__law_take : Value}
    {f__law_same : Addr} {od__law_same an__law_same : Option Addr} {sl__law_same : Array (Option Value)} {oc__law_same kV__law_same dc__law_same pm__law_same cd__law_same ct__law_same : Value}
    {f__law_marks : Addr} {od__law_marks an__law_marks : Option Addr} {sl__law_marks : Array (Option Value)} {oc__law_marks kV__law_marks dc__law_marks pm__law_marks cd__law_marks ct__law_marks : Value}
    {f__law_way : Addr} {od__law_way an__law_way : Option Addr} {sl__law_way : Array (Option Value)} {oc__law_way kV__law_way dc__law_way pm__law_way cd__law_way ct__law_way : Value}
    {f__law_way_made : Addr} {od__law_way_made an__law_way_made : Option Addr} {sl__law_way_made : Array (Option Value)} {oc__law_way_made kV__law_way_made dc__law_way_made pm__law_way_made cd__law_way_made ct__law_way_made : Value}
    {f__law_rule_same : Addr} {od__law_rule_same an__law_rule_same : Option Addr} {sl__law_rule_same : Array (Option Value)} {oc__law_rule_same kV__law_rule_same dc__law_rule_same pm__law_rule_same cd__law_rule_same ct__law_rule_same : Value}
    {f__law_policy_same : Addr} {od__law_policy_same an__law_policy_same : Option Addr} {sl__law_policy_same : Array (Option Value)} {oc__law_policy_same kV__law_policy_same dc__law_policy_same pm__law_policy_same cd__law_policy_same ct__law_policy_same : Value}
    {f__law_wide_rows : Addr} {od__law_wide_rows an__law_wide_rows : Option Addr} {sl__law_wide_rows : Array (Option Value)} {oc__law_wide_rows kV__law_wide_rows dc__law_wide_rows pm__law_wide_rows cd__law_wide_rows ct__law_wide_rows : Value}
    {f__law_wide_shape : Addr} {od__law_wide_shape an__law_wide_shape : Option Addr} {sl__law_wide_shape : Array (Option Value)} {oc__law_wide_shape kV__law_wide_shape dc__law_wide_shape pm__law_wide_shape cd__law_wide_shape ct__law_wide_shape : Value}
    {f__law_everywhere : Addr} {od__law_everywhere an__law_everywhere : Option Addr} {sl__law_everywhere : Array (Option Value)} {oc__law_everywhere kV__law_everywhere dc__law_everywhere pm__law_everywhere cd__law_everywhere ct__law_everywhere : Value}
    {f_law : Addr} {od_law an_law : Option Addr} {sl_law : Array (Option Value)} {oc_law kV_law dc_law pm_law cd_law ct_law : Value}
    {q_LEVELS : Addr} {oq_LEVELS : Option Addr} {nq_LEVELS : Nat} {slq_LEVELS : Array (Option Value)} {t_LEVELS_0 : Tok} {t_LEVELS_1 : Tok} {t_LEVELS_2 : Tok} {t_LEVELS_3 : Tok}
    {tq_LETTERS : Tok}
    {ti_Shape_MARKS : Tok}
    {ti_Shape_PARENTS : Tok}
    {c_BadShape : Addr}
    {c_UnknownMark : Addr}
    {c_TooLarge : Addr}
    {nm_BadShape q_BadShape : Str} {N_BadShape : Addr} {bs_BadShape : List Value} {sn_BadShape : List Str} {sub_BadShape : List Value} {ab_BadShape : Bool} {col_BadShape : Option Bool} {dd_BadShape : Option Addr} {m0_BadShape m1_BadShape m2_BadShape m3_BadShape m5_BadShape : Option Value}
    {f_BadShape cda_BadShape cc_BadShape : Addr} {od_BadShape an_BadShape cld_BadShape cdd_BadShape : Option Addr} {osl_BadShape csl_BadShape ccs_BadShape : Array (Option Value)} {oc_BadShape kV_BadShape dc_BadShape pm_BadShape ct_BadShape cl_BadShape ccl_BadShape : Value} {vs_BadShape : Array Value} {file_BadShape : Str} {tf_BadShape : Tok}
    {nm_UnknownMark q_UnknownMark : Str} {N_UnknownMark : Addr} {bs_UnknownMark : List Value} {sn_UnknownMark : List Str} {sub_UnknownMark : List Value} {ab_UnknownMark : Bool} {col_UnknownMark : Option Bool} {dd_UnknownMark : Option Addr} {m0_UnknownMark m1_UnknownMark m2_UnknownMark m3_UnknownMark m5_UnknownMark : Option Value}
    {f_UnknownMark cda_UnknownMark cc_UnknownMark : Addr} {od_UnknownMark an_UnknownMark cld_UnknownMark cdd_UnknownMark : Option Addr} {osl_UnknownMark csl_UnknownMark ccs_UnknownMark : Array (Option Value)} {oc_UnknownMark kV_UnknownMark dc_UnknownMark pm_UnknownMark ct_UnknownMark cl_UnknownMark ccl_UnknownMark : Value} {vs_UnknownMark : Array Value} {file_UnknownMark : Str} {tf_UnknownMark : Tok}
    {nm_TooLarge q_TooLarge : Str} {N_TooLarge : Addr} {bs_TooLarge : List Value} {sn_TooLarge : List Str} {sub_TooLarge : List Value} {ab_TooLarge : Bool} {col_TooLarge : Option Bool} {dd_TooLarge : Option Addr} {m0_TooLarge m1_TooLarge m2_TooLarge m3_TooLarge m5_TooLarge : Option Value}
    {f_TooLarge cda_TooLarge cc_TooLarge : Addr} {od_TooLarge an_TooLarge cld_TooLarge cdd_TooLarge : Option Addr} {osl_TooLarge csl_TooLarge ccs_TooLarge : Array (Option Value)} {oc_TooLarge kV_TooLarge dc_TooLarge pm_TooLarge ct_TooLarge cl_TooLarge ccl_TooLarge : Value} {vs_TooLarge : Array Value} {file_TooLarge : Str} {tf_TooLarge : Tok}
    (gc_Way : PySem.W.nsIn K mainGlobals "Way" = some (some (.ref c_Way)))
    (gc_Policy : PySem.W.nsIn K mainGlobals "Policy" = some (some (.ref c_Policy)))
    (gc_Shape : PySem.W.nsIn K mainGlobals "Shape" = some (some (.ref c_Shape)))
    (a_rank : PySem.W.nsIn K mainGlobals "rank" = some (some (.ref f_rank)))
    (l_rank : K.lookup f_rank = some ⟨oc_rank, od_rank, .func (PySem.W.fnOf "rank" "rank" (defArgs S_rank) (defBody S_rank) (defScope S_rank) .none kV_rank dc_rank pm_rank an_rank cd_rank ct_rank), sl_rank⟩)
    (c_rank : PySem.W.codeIn K cd_rank "rank" = true)
    (k_rank : PySem.W.keepIn K (.ref f_rank) = true)
    (a_Way_init : PySem.W.findIn K (.ref c_Way) "__init__" = some (some (.ref f_Way_init)))
    (l_Way_init : K.lookup f_Way_init = some ⟨oc_Way_init, od_Way_init, .func (PySem.W.fnOf "__init__" "Way.__init__" (defArgs S_Way_init) (defBody S_Way_init) (defScope S_Way_init) (.ref dt_Way_init) (.ref kd_Way_init) dc_Way_init pm_Way_init an_Way_init cd_Way_init ct_Way_init), sl_Way_init⟩)
    (c_Way_init : PySem.W.codeIn K cd_Way_init "Way.__init__" = true)
    (k_Way_init : PySem.W.keepIn K (.ref f_Way_init) = true)
    (lt_Way_init : K.lookup dt_Way_init = some ⟨cdt_Way_init, odt_Way_init, .seq #[.str "none" tt_Way_init_0, .str "none" tt_Way_init_1, .str "none" tt_Way_init_2] ndt_Way_init, sdt_Way_init⟩)
    (nk_Way_init_early : PySem.W.nsIn K kd_Way_init "early" = some (some (.bool false)))
    (a_Policy_init : PySem.W.findIn K (.ref c_Policy) "__init__" = some (some (.ref f_Policy_init)))
    (l_Policy_init : K.lookup f_Policy_init = some ⟨oc_Policy_init, od_Policy_init, .func (PySem.W.fnOf "__init__" "Policy.__init__" (defArgs S_Policy_init) (defBody S_Policy_init) (defScope S_Policy_init) (.ref dt_Policy_init) kV_Policy_init dc_Policy_init pm_Policy_init an_Policy_init cd_Policy_init ct_Policy_init), sl_Policy_init⟩)
    (c_Policy_init : PySem.W.codeIn K cd_Policy_init "Policy.__init__" = true)
    (k_Policy_init : PySem.W.keepIn K (.ref f_Policy_init) = true)
    (lt_Policy_init : K.lookup dt_Policy_init = some ⟨cdt_Policy_init, odt_Policy_init, .seq #[.ref ed_Policy_init_0] ndt_Policy_init, sdt_Policy_init⟩)
    (le_Policy_init_0 : K.lookup ed_Policy_init_0 = some ⟨.type "tuple", oe_Policy_init_0, .seq #[] ne_Policy_init_0, se_Policy_init_0⟩)
    (a_Policy_iter : PySem.W.findIn K (.ref c_Policy) "__iter__" = some (some (.ref f_Policy_iter)))
    (l_Policy_iter : K.lookup f_Policy_iter = some ⟨oc_Policy_iter, od_Policy_iter, .func (PySem.W.fnOf "__iter__" "Policy.__iter__" (defArgs S_Policy_iter) (defBody S_Policy_iter) (defScope S_Policy_iter) .none kV_Policy_iter dc_Policy_iter pm_Policy_iter an_Policy_iter cd_Policy_iter ct_Policy_iter), sl_Policy_iter⟩)
    (c_Policy_iter : PySem.W.codeIn K cd_Policy_iter "Policy.__iter__" = true)
    (k_Policy_iter : PySem.W.keepIn K (.ref f_Policy_iter) = true)
    (a_Policy_len : PySem.W.findIn K (.ref c_Policy) "__len__" = some (some (.ref f_Policy_len)))
    (l_Policy_len : K.lookup f_Policy_len = some ⟨oc_Policy_len, od_Policy_len, .func (PySem.W.fnOf "__len__" "Policy.__len__" (defArgs S_Policy_len) (defBody S_Policy_len) (defScope S_Policy_len) .none kV_Policy_len dc_Policy_len pm_Policy_len an_Policy_len cd_Policy_len ct_Policy_len), sl_Policy_len⟩)
    (c_Policy_len : PySem.W.codeIn K cd_Policy_len "Policy.__len__" = true)
    (k_Policy_len : PySem.W.keepIn K (.ref f_Policy_len) = true)
    (a_Policy_getitem : PySem.W.findIn K (.ref c_Policy) "__getitem__" = some (some (.ref f_Policy_getitem)))
    (l_Policy_getitem : K.lookup f_Policy_getitem = some ⟨oc_Policy_getitem, od_Policy_getitem, .func (PySem.W.fnOf "__getitem__" "Policy.__getitem__" (defArgs S_Policy_getitem) (defBody S_Policy_getitem) (defScope S_Policy_getitem) .none kV_Policy_getitem dc_Policy_getitem pm_Policy_getitem an_Policy_getitem cd_Policy_getitem ct_Policy_getitem), sl_Policy_getitem⟩)
    (c_Policy_getitem : PySem.W.codeIn K cd_Policy_getitem "Policy.__getitem__" = true)
    (k_Policy_getitem : PySem.W.keepIn K (.ref f_Policy_getitem) = true)
    (a_Policy_setitem : PySem.W.findIn K (.ref c_Policy) "__setitem__" = some (some (.ref f_Policy_setitem)))
    (l_Policy_setitem : K.lookup f_Policy_setitem = some ⟨oc_Policy_setitem, od_Policy_setitem, .func (PySem.W.fnOf "__setitem__" "Policy.__setitem__" (defArgs S_Policy_setitem) (defBody S_Policy_setitem) (defScope S_Policy_setitem) .none kV_Policy_setitem dc_Policy_setitem pm_Policy_setitem an_Policy_setitem cd_Policy_setitem ct_Policy_setitem), sl_Policy_setitem⟩)
    (c_Policy_setitem : PySem.W.codeIn K cd_Policy_setitem "Policy.__setitem__" = true)
    (k_Policy_setitem : PySem.W.keepIn K (.ref f_Policy_setitem) = true)
    (pa_Policy_starts : PySem.W.findIn K (.ref c_Policy) "starts" = some (some (.ref p_Policy_starts)))
    (pr_Policy_starts : PySem.W.recIn K p_Policy_starts "property" = some (.ref f_Policy_starts :: rs_Policy_starts))
    (pg_Policy_starts : PySem.W.specialIn K (.ref p_Policy_starts) "__get__" = some (some (.builtin "property.__get__")))
    (pt_Policy_starts : PySem.W.takesIn K (.ref p_Policy_starts) = some true)
    (l_Policy_starts : K.lookup f_Policy_starts = some ⟨oc_Policy_starts, od_Policy_starts, .func (PySem.W.fnOf "starts" "Policy.starts" (defArgs S_Policy_starts) (defBody S_Policy_starts) (defScope S_Policy_starts) .none kV_Policy_starts dc_Policy_starts pm_Policy_starts an_Policy_starts cd_Policy_starts ct_Policy_starts), sl_Policy_starts⟩)
    (c_Policy_starts : PySem.W.codeIn K cd_Policy_starts "Policy.starts" = true)
    (k_Policy_starts : PySem.W.keepIn K (.ref f_Policy_starts) = true)
    (cf_Policy_everywhere : PySem.W.findCls K (.ref c_Policy) (.type "type") "everywhere" = some (.get (.builtin "classmethod.__get__") (.ref p_Policy_everywhere) .none (.ref c_Policy)))
    (cn_Policy_everywhere : PySem.W.recIn K p_Policy_everywhere "classmethod" = some (.ref f_Policy_everywhere :: rs_Policy_everywhere))
    (cw_Policy_everywhere : PySem.W.fnIn K f_Policy_everywhere = true)
    (l_Policy_everywhere : K.lookup f_Policy_everywhere = some ⟨oc_Policy_everywhere, od_Policy_everywhere, .func (PySem.W.fnOf "everywhere" "Policy.everywhere" (defArgs S_Policy_everywhere) (defBody S_Policy_everywhere) (defScope S_Policy_everywhere) .none kV_Policy_everywhere dc_Policy_everywhere pm_Policy_everywhere an_Policy_everywhere cd_Policy_everywhere ct_Policy_everywhere), sl_Policy_everywhere⟩)
    (c_Policy_everywhere : PySem.W.codeIn K cd_Policy_everywhere "Policy.everywhere" = true)
    (k_Policy_everywhere : PySem.W.keepIn K (.ref f_Policy_everywhere) = true)
    (cf_Policy_two_phase : PySem.W.findCls K (.ref c_Policy) (.type "type") "two_phase" = some (.get (.builtin "classmethod.__get__") (.ref p_Policy_two_phase) .none (.ref c_Policy)))
    (cn_Policy_two_phase : PySem.W.recIn K p_Policy_two_phase "classmethod" = some (.ref f_Policy_two_phase :: rs_Policy_two_phase))
    (cw_Policy_two_phase : PySem.W.fnIn K f_Policy_two_phase = true)
    (l_Policy_two_phase : K.lookup f_Policy_two_phase = some ⟨oc_Policy_two_phase, od_Policy_two_phase, .func (PySem.W.fnOf "two_phase" "Policy.two_phase" (defArgs S_Policy_two_phase) (defBody S_Policy_two_phase) (defScope S_Policy_two_phase) .none kV_Policy_two_phase dc_Policy_two_phase pm_Policy_two_phase an_Policy_two_phase cd_Policy_two_phase ct_Policy_two_phase), sl_Policy_two_phase⟩)
    (c_Policy_two_phase : PySem.W.codeIn K cd_Policy_two_phase "Policy.two_phase" = true)
    (k_Policy_two_phase : PySem.W.keepIn K (.ref f_Policy_two_phase) = true)
    (cf_Policy_hand_over_hand : PySem.W.findCls K (.ref c_Policy) (.type "type") "hand_over_hand" = some (.get (.builtin "classmethod.__get__") (.ref p_Policy_hand_over_hand) .none (.ref c_Policy)))
    (cn_Policy_hand_over_hand : PySem.W.recIn K p_Policy_hand_over_hand "classmethod" = some (.ref f_Policy_hand_over_hand :: rs_Policy_hand_over_hand))
    (cw_Policy_hand_over_hand : PySem.W.fnIn K f_Policy_hand_over_hand = true)
    (l_Policy_hand_over_hand : K.lookup f_Policy_hand_over_hand = some ⟨oc_Policy_hand_over_hand, od_Policy_hand_over_hand, .func (PySem.W.fnOf "hand_over_hand" "Policy.hand_over_hand" (defArgs S_Policy_hand_over_hand) (defBody S_Policy_hand_over_hand) (defScope S_Policy_hand_over_hand) .none kV_Policy_hand_over_hand dc_Policy_hand_over_hand pm_Policy_hand_over_hand an_Policy_hand_over_hand cd_Policy_hand_over_hand ct_Policy_hand_over_hand), sl_Policy_hand_over_hand⟩)
    (c_Policy_hand_over_hand : PySem.W.codeIn K cd_Policy_hand_over_hand "Policy.hand_over_hand" = true)
    (k_Policy_hand_over_hand : PySem.W.keepIn K (.ref f_Policy_hand_over_hand) = true)
    (cf_Policy_majority : PySem.W.findCls K (.ref c_Policy) (.type "type") "majority" = some (.get (.builtin "classmethod.__get__") (.ref p_Policy_majority) .none (.ref c_Policy)))
    (cn_Policy_majority : PySem.W.recIn K p_Policy_majority "classmethod" = some (.ref f_Policy_majority :: rs_Policy_majority))
    (cw_Policy_majority : PySem.W.fnIn K f_Policy_majority = true)
    (l_Policy_majority : K.lookup f_Policy_majority = some ⟨oc_Policy_majority, od_Policy_majority, .func (PySem.W.fnOf "majority" "Policy.majority" (defArgs S_Policy_majority) (defBody S_Policy_majority) (defScope S_Policy_majority) .none kV_Policy_majority dc_Policy_majority pm_Policy_majority an_Policy_majority cd_Policy_majority ct_Policy_majority), sl_Policy_majority⟩)
    (c_Policy_majority : PySem.W.codeIn K cd_Policy_majority "Policy.majority" = true)
    (k_Policy_majority : PySem.W.keepIn K (.ref f_Policy_majority) = true)
    (cf_Policy_all_seen : PySem.W.findCls K (.ref c_Policy) (.type "type") "all_seen" = some (.get (.builtin "classmethod.__get__") (.ref p_Policy_all_seen) .none (.ref c_Policy)))
    (cn_Policy_all_seen : PySem.W.recIn K p_Policy_all_seen "classmethod" = some (.ref f_Policy_all_seen :: rs_Policy_all_seen))
    (cw_Policy_all_seen : PySem.W.fnIn K f_Policy_all_seen = true)
    (l_Policy_all_seen : K.lookup f_Policy_all_seen = some ⟨oc_Policy_all_seen, od_Policy_all_seen, .func (PySem.W.fnOf "all_seen" "Policy.all_seen" (defArgs S_Policy_all_seen) (defBody S_Policy_all_seen) (defScope S_Policy_all_seen) .none kV_Policy_all_seen dc_Policy_all_seen pm_Policy_all_seen an_Policy_all_seen cd_Policy_all_seen ct_Policy_all_seen), sl_Policy_all_seen⟩)
    (c_Policy_all_seen : PySem.W.codeIn K cd_Policy_all_seen "Policy.all_seen" = true)
    (k_Policy_all_seen : PySem.W.keepIn K (.ref f_Policy_all_seen) = true)
    (a_is_mark : PySem.W.nsIn K mainGlobals "is_mark" = some (some (.ref f_is_mark)))
    (l_is_mark : K.lookup f_is_mark = some ⟨oc_is_mark, od_is_mark, .func (PySem.W.fnOf "is_mark" "is_mark" (defArgs S_is_mark) (defBody S_is_mark) (defScope S_is_mark) .none kV_is_mark dc_is_mark pm_is_mark an_is_mark cd_is_mark ct_is_mark), sl_is_mark⟩)
    (c_is_mark : PySem.W.codeIn K cd_is_mark "is_mark" = true)
    (k_is_mark : PySem.W.keepIn K (.ref f_is_mark) = true)
    (a_sound_row : PySem.W.nsIn K mainGlobals "sound_row" = some (some (.ref f_sound_row)))
    (l_sound_row : K.lookup f_sound_row = some ⟨oc_sound_row, od_sound_row, .func (PySem.W.fnOf "sound_row" "sound_row" (defArgs S_sound_row) (defBody S_sound_row) (defScope S_sound_row) .none kV_sound_row dc_sound_row pm_sound_row an_sound_row cd_sound_row ct_sound_row), sl_sound_row⟩)
    (c_sound_row : PySem.W.codeIn K cd_sound_row "sound_row" = true)
    (k_sound_row : PySem.W.keepIn K (.ref f_sound_row) = true)
    (a_barren : PySem.W.nsIn K mainGlobals "barren" = some (some (.ref f_barren)))
    (l_barren : K.lookup f_barren = some ⟨oc_barren, od_barren, .func (PySem.W.fnOf "barren" "barren" (defArgs S_barren) (defBody S_barren) (defScope S_barren) .none kV_barren dc_barren pm_barren an_barren cd_barren ct_barren), sl_barren⟩)
    (c_barren : PySem.W.codeIn K cd_barren "barren" = true)
    (k_barren : PySem.W.keepIn K (.ref f_barren) = true)
    (a_Shape_init : PySem.W.findIn K (.ref c_Shape) "__init__" = some (some (.ref f_Shape_init)))
    (l_Shape_init : K.lookup f_Shape_init = some ⟨oc_Shape_init, od_Shape_init, .func (PySem.W.fnOf "__init__" "Shape.__init__" (defArgs S_Shape_init) (defBody S_Shape_init) (defScope S_Shape_init) .none kV_Shape_init dc_Shape_init pm_Shape_init an_Shape_init cd_Shape_init ct_Shape_init), sl_Shape_init⟩)
    (c_Shape_init : PySem.W.codeIn K cd_Shape_init "Shape.__init__" = true)
    (k_Shape_init : PySem.W.keepIn K (.ref f_Shape_init) = true)
    (a_Shape_iter : PySem.W.findIn K (.ref c_Shape) "__iter__" = some (some (.ref f_Shape_iter)))
    (l_Shape_iter : K.lookup f_Shape_iter = some ⟨oc_Shape_iter, od_Shape_iter, .func (PySem.W.fnOf "__iter__" "Shape.__iter__" (defArgs S_Shape_iter) (defBody S_Shape_iter) (defScope S_Shape_iter) .none kV_Shape_iter dc_Shape_iter pm_Shape_iter an_Shape_iter cd_Shape_iter ct_Shape_iter), sl_Shape_iter⟩)
    (c_Shape_iter : PySem.W.codeIn K cd_Shape_iter "Shape.__iter__" = true)
    (k_Shape_iter : PySem.W.keepIn K (.ref f_Shape_iter) = true)
    (a_Shape_len : PySem.W.findIn K (.ref c_Shape) "__len__" = some (some (.ref f_Shape_len)))
    (l_Shape_len : K.lookup f_Shape_len = some ⟨oc_Shape_len, od_Shape_len, .func (PySem.W.fnOf "__len__" "Shape.__len__" (defArgs S_Shape_len) (defBody S_Shape_len) (defScope S_Shape_len) .none kV_Shape_len dc_Shape_len pm_Shape_len an_Shape_len cd_Shape_len ct_Shape_len), sl_Shape_len⟩)
    (c_Shape_len : PySem.W.codeIn K cd_Shape_len "Shape.__len__" = true)
    (k_Shape_len : PySem.W.keepIn K (.ref f_Shape_len) = true)
    (a_Shape_eq : PySem.W.findIn K (.ref c_Shape) "__eq__" = some (some (.ref f_Shape_eq)))
    (l_Shape_eq : K.lookup f_Shape_eq = some ⟨oc_Shape_eq, od_Shape_eq, .func (PySem.W.fnOf "__eq__" "Shape.__eq__" (defArgs S_Shape_eq) (defBody S_Shape_eq) (defScope S_Shape_eq) .none kV_Shape_eq dc_Shape_eq pm_Shape_eq an_Shape_eq cd_Shape_eq ct_Shape_eq), sl_Shape_eq⟩)
    (c_Shape_eq : PySem.W.codeIn K cd_Shape_eq "Shape.__eq__" = true)
    (k_Shape_eq : PySem.W.keepIn K (.ref f_Shape_eq) = true)
    (a__law_draws : PySem.W.nsIn K mainGlobals "_law_draws" = some (some (.ref f__law_draws)))
    (l__law_draws : K.lookup f__law_draws = some ⟨oc__law_draws, od__law_draws, .func (PySem.W.fnOf "_law_draws" "_law_draws" (defArgs S__law_draws) (defBody S__law_draws) (defScope S__law_draws) .none kV__law_draws dc__law_draws pm__law_draws an__law_draws cd__law_draws ct__law_draws), sl__law_draws⟩)
    (c__law_draws : PySem.W.codeIn K cd__law_draws "_law_draws" = true)
    (k__law_draws : PySem.W.keepIn K (.ref f__law_draws) = true)
    (a__law_take : PySem.W.nsIn K mainGlobals "_law_take" = some (some (.ref f__law_take)))
    (l__law_take : K.lookup f__law_take = some ⟨oc__law_take, od__law_take, .func (PySem.W.fnOf "_law_take" "_law_take" (defArgs S__law_take) (defBody S__law_take) (defScope S__law_take) .none kV__law_take dc__law_take pm__law_take an__law_take cd__law_take ct__law_take), sl__law_take⟩)
    (c__law_take : PySem.W.codeIn K cd__law_take "_law_take" = true)
    (k__law_take : PySem.W.keepIn K (.ref f__law_take) = true)
    (a__law_same : PySem.W.nsIn K mainGlobals "_law_same" = some (some (.ref f__law_same)))
    (l__law_same : K.lookup f__law_same = some ⟨oc__law_same, od__law_same, .func (PySem.W.fnOf "_law_same" "_law_same" (defArgs S__law_same) (defBody S__law_same) (defScope S__law_same) .none kV__law_same dc__law_same pm__law_same an__law_same cd__law_same ct__law_same), sl__law_same⟩)
    (c__law_same : PySem.W.codeIn K cd__law_same "_law_same" = true)
    (k__law_same : PySem.W.keepIn K (.ref f__law_same) = true)
    (a__law_marks : PySem.W.nsIn K mainGlobals "_law_marks" = some (some (.ref f__law_marks)))
    (l__law_marks : K.lookup f__law_marks = some ⟨oc__law_marks, od__law_marks, .func (PySem.W.fnOf "_law_marks" "_law_marks" (defArgs S__law_marks) (defBody S__law_marks) (defScope S__law_marks) .none kV__law_marks dc__law_marks pm__law_marks an__law_marks cd__law_marks ct__law_marks), sl__law_marks⟩)
    (c__law_marks : PySem.W.codeIn K cd__law_marks "_law_marks" = true)
    (k__law_marks : PySem.W.keepIn K (.ref f__law_marks) = true)
    (a__law_way : PySem.W.nsIn K mainGlobals "_law_way" = some (some (.ref f__law_way)))
    (l__law_way : K.lookup f__law_way = some ⟨oc__law_way, od__law_way, .func (PySem.W.fnOf "_law_way" "_law_way" (defArgs S__law_way) (defBody S__law_way) (defScope S__law_way) .none kV__law_way dc__law_way pm__law_way an__law_way cd__law_way ct__law_way), sl__law_way⟩)
    (c__law_way : PySem.W.codeIn K cd__law_way "_law_way" = true)
    (k__law_way : PySem.W.keepIn K (.ref f__law_way) = true)
    (a__law_way_made : PySem.W.nsIn K mainGlobals "_law_way_made" = some (some (.ref f__law_way_made)))
    (l__law_way_made : K.lookup f__law_way_made = some ⟨oc__law_way_made, od__law_way_made, .func (PySem.W.fnOf "_law_way_made" "_law_way_made" (defArgs S__law_way_made) (defBody S__law_way_made) (defScope S__law_way_made) .none kV__law_way_made dc__law_way_made pm__law_way_made an__law_way_made cd__law_way_made ct__law_way_made), sl__law_way_made⟩)
    (c__law_way_made : PySem.W.codeIn K cd__law_way_made "_law_way_made" = true)
    (k__law_way_made : PySem.W.keepIn K (.ref f__law_way_made) = true)
    (a__law_rule_same : PySem.W.nsIn K mainGlobals "_law_rule_same" = some (some (.ref f__law_rule_same)))
    (l__law_rule_same : K.lookup f__law_rule_same = some ⟨oc__law_rule_same, od__law_rule_same, .func (PySem.W.fnOf "_law_rule_same" "_law_rule_same" (defArgs S__law_rule_same) (defBody S__law_rule_same) (defScope S__law_rule_same) .none kV__law_rule_same dc__law_rule_same pm__law_rule_same an__law_rule_same cd__law_rule_same ct__law_rule_same), sl__law_rule_same⟩)
    (c__law_rule_same : PySem.W.codeIn K cd__law_rule_same "_law_rule_same" = true)
    (k__law_rule_same : PySem.W.keepIn K (.ref f__law_rule_same) = true)
    (a__law_policy_same : PySem.W.nsIn K mainGlobals "_law_policy_same" = some (some (.ref f__law_policy_same)))
    (l__law_policy_same : K.lookup f__law_policy_same = some ⟨oc__law_policy_same, od__law_policy_same, .func (PySem.W.fnOf "_law_policy_same" "_law_policy_same" (defArgs S__law_policy_same) (defBody S__law_policy_same) (defScope S__law_policy_same) .none kV__law_policy_same dc__law_policy_same pm__law_policy_same an__law_policy_same cd__law_policy_same ct__law_policy_same), sl__law_policy_same⟩)
    (c__law_policy_same : PySem.W.codeIn K cd__law_policy_same "_law_policy_same" = true)
    (k__law_policy_same : PySem.W.keepIn K (.ref f__law_policy_same) = true)
    (a__law_wide_rows : PySem.W.nsIn K mainGlobals "_law_wide_rows" = some (some (.ref f__law_wide_rows)))
    (l__law_wide_rows : K.lookup f__law_wide_rows = some ⟨oc__law_wide_rows, od__law_wide_rows, .func (PySem.W.fnOf "_law_wide_rows" "_law_wide_rows" (defArgs S__law_wide_rows) (defBody S__law_wide_rows) (defScope S__law_wide_rows) .none kV__law_wide_rows dc__law_wide_rows pm__law_wide_rows an__law_wide_rows cd__law_wide_rows ct__law_wide_rows), sl__law_wide_rows⟩)
    (c__law_wide_rows : PySem.W.codeIn K cd__law_wide_rows "_law_wide_rows" = true)
    (k__law_wide_rows : PySem.W.keepIn K (.ref f__law_wide_rows) = true)
    (a__law_wide_shape : PySem.W.nsIn K mainGlobals "_law_wide_shape" = some (some (.ref f__law_wide_shape)))
    (l__law_wide_shape : K.lookup f__law_wide_shape = some ⟨oc__law_wide_shape, od__law_wide_shape, .func (PySem.W.fnOf "_law_wide_shape" "_law_wide_shape" (defArgs S__law_wide_shape) (defBody S__law_wide_shape) (defScope S__law_wide_shape) .none kV__law_wide_shape dc__law_wide_shape pm__law_wide_shape an__law_wide_shape cd__law_wide_shape ct__law_wide_shape), sl__law_wide_shape⟩)
    (c__law_wide_shape : PySem.W.codeIn K cd__law_wide_shape "_law_wide_shape" = true)
    (k__law_wide_shape : PySem.W.keepIn K (.ref f__law_wide_shape) = true)
    (a__law_everywhere : PySem.W.nsIn K mainGlobals "_law_everywhere" = some (some (.ref f__law_everywhere)))
    (l__law_everywhere : K.lookup f__law_everywhere = some ⟨oc__law_everywhere, od__law_everywhere, .func (PySem.W.fnOf "_law_everywhere" "_law_everywhere" (defArgs S__law_everywhere) (defBody S__law_everywhere) (defScope S__law_everywhere) .none kV__law_everywhere dc__law_everywhere pm__law_everywhere an__law_everywhere cd__law_everywhere ct__law_everywhere), sl__law_everywhere⟩)
    (c__law_everywhere : PySem.W.codeIn K cd__law_everywhere "_law_everywhere" = true)
    (k__law_everywhere : PySem.W.keepIn K (.ref f__law_everywhere) = true)
    (a_law : PySem.W.nsIn K mainGlobals "law" = some (some (.ref f_law)))
    (l_law : K.lookup f_law = some ⟨oc_law, od_law, .func (PySem.W.fnOf "law" "law" (defArgs S_law) (defBody S_law) (defScope S_law) .none kV_law dc_law pm_law an_law cd_law ct_law), sl_law⟩)
    (c_law : PySem.W.codeIn K cd_law "law" = true)
    (k_law : PySem.W.keepIn K (.ref f_law) = true)
    (z_any : PySem.W.nsIn K mainGlobals "any" = some none)
    (z_bool : PySem.W.nsIn K mainGlobals "bool" = some none)
    (z_classmethod : PySem.W.nsIn K mainGlobals "classmethod" = some none)
    (z_enumerate : PySem.W.nsIn K mainGlobals "enumerate" = some none)
    (z_int : PySem.W.nsIn K mainGlobals "int" = some none)
    (z_isinstance : PySem.W.nsIn K mainGlobals "isinstance" = some none)
    (z_iter : PySem.W.nsIn K mainGlobals "iter" = some none)
    (z_len : PySem.W.nsIn K mainGlobals "len" = some none)
    (z_list : PySem.W.nsIn K mainGlobals "list" = some none)
    (z_property : PySem.W.nsIn K mainGlobals "property" = some none)
    (z_range : PySem.W.nsIn K mainGlobals "range" = some none)
    (z_str : PySem.W.nsIn K mainGlobals "str" = some none)
    (z_tuple : PySem.W.nsIn K mainGlobals "tuple" = some none)
    (aq_LEVELS : PySem.W.nsIn K mainGlobals "LEVELS" = some (some (.ref q_LEVELS)))
    (lq_LEVELS : K.lookup q_LEVELS = some ⟨.type "tuple", oq_LEVELS, .seq #[.str "none" t_LEVELS_0, .str "one" t_LEVELS_1, .str "most" t_LEVELS_2, .str "all" t_LEVELS_3] nq_LEVELS, slq_LEVELS⟩)
    (aq_LETTERS : PySem.W.nsIn K mainGlobals "LETTERS" = some (some (.str "abcdefghijklmnopqrstuvwxyz" tq_LETTERS)))
    (pg_Way : PySem.W.plainGet K c_Way Str.empty = true)
    (hd_Way : PySem.W.hasDictIn K c_Way = true)
    (po_Way : PySem.W.plainOver K c_Way = true)
    (sa_Way : PySem.W.findIn K (.ref c_Way) "__setattr__" = some (some (.builtin "object.__setattr__")))
    (kc_Way : PySem.W.keepIn K (.ref c_Way) = true)
    (i_Way_init : PySem.W.isFn K (.ref f_Way_init) = true)
    (mk_Way : PySem.W.makesIn K c_Way = true)
    (hca_Way : PySem.W.findIn K (.ref c_Way) "__class__" = some (some (.builtin "object.__class__")))
    (hcn_Way : PySem.W.specialIn K (.builtin "object.__class__") "__get__" = some (some (.builtin "getset_descriptor.__get__")))
    (hct_Way : PySem.W.takesIn K (.builtin "object.__class__") = some true)
    (hcm_Way : PySem.W.mroIn K c_Way (.type "object") = some true)
    (no_Way_held : PySem.W.findIn K (.ref c_Way) "held" = some none)
    (no_Way_owned : PySem.W.findIn K (.ref c_Way) "owned" = some none)
    (no_Way_seen : PySem.W.findIn K (.ref c_Way) "seen" = some none)
    (no_Way_early : PySem.W.findIn K (.ref c_Way) "early" = some none)
    (pg_Policy : PySem.W.plainGet K c_Policy Str.empty = true)
    (hd_Policy : PySem.W.hasDictIn K c_Policy = true)
    (po_Policy : PySem.W.plainOver K c_Policy = true)
    (sa_Policy : PySem.W.findIn K (.ref c_Policy) "__setattr__" = some (some (.builtin "object.__setattr__")))
    (kc_Policy : PySem.W.keepIn K (.ref c_Policy) = true)
    (i_Policy_init : PySem.W.isFn K (.ref f_Policy_init) = true)
    (mk_Policy : PySem.W.makesIn K c_Policy = true)
    (i_Policy_iter : PySem.W.isFn K (.ref f_Policy_iter) = true)
    (i_Policy_len : PySem.W.isFn K (.ref f_Policy_len) = true)
    (fi_Policy_getitem : PySem.W.fnIn K f_Policy_getitem = true)
    (i_Policy_getitem : PySem.W.isFn K (.ref f_Policy_getitem) = true)
    (nq_Policy : PySem.W.noSeq K c_Policy = true)
    (i_Policy_setitem : PySem.W.isFn K (.ref f_Policy_setitem) = true)
    (rdc_Policy : PySem.W.readsIn K c_Policy (.type "type") = true)
    (gac_Policy : PySem.W.specialIn K (.ref c_Policy) "__getattribute__" = some (some (.builtin "type.__getattribute__")))
    (hca_Policy : PySem.W.findIn K (.ref c_Policy) "__class__" = some (some (.builtin "object.__class__")))
    (hcn_Policy : PySem.W.specialIn K (.builtin "object.__class__") "__get__" = some (some (.builtin "getset_descriptor.__get__")))
    (hct_Policy : PySem.W.takesIn K (.builtin "object.__class__") = some true)
    (hcm_Policy : PySem.W.mroIn K c_Policy (.type "object") = some true)
    (no_Policy_shape : PySem.W.findIn K (.ref c_Policy) "shape" = some none)
    (no_Policy__marks : PySem.W.findIn K (.ref c_Policy) "_marks" = some none)
    (no_Policy__starts : PySem.W.findIn K (.ref c_Policy) "_starts" = some none)
    (no_Policy__ways : PySem.W.findIn K (.ref c_Policy) "_ways" = some none)
    (pg_Shape : PySem.W.plainGet K c_Shape Str.empty = true)
    (hd_Shape : PySem.W.hasDictIn K c_Shape = true)
    (po_Shape : PySem.W.plainOver K c_Shape = true)
    (sa_Shape : PySem.W.findIn K (.ref c_Shape) "__setattr__" = some (some (.builtin "object.__setattr__")))
    (kc_Shape : PySem.W.keepIn K (.ref c_Shape) = true)
    (i_Shape_init : PySem.W.isFn K (.ref f_Shape_init) = true)
    (mk_Shape : PySem.W.makesIn K c_Shape = true)
    (i_Shape_iter : PySem.W.isFn K (.ref f_Shape_iter) = true)
    (i_Shape_len : PySem.W.isFn K (.ref f_Shape_len) = true)
    (i_Shape_eq : PySem.W.isFn K (.ref f_Shape_eq) = true)
    (hca_Shape : PySem.W.findIn K (.ref c_Shape) "__class__" = some (some (.builtin "object.__class__")))
    (hcn_Shape : PySem.W.specialIn K (.builtin "object.__class__") "__get__" = some (some (.builtin "getset_descriptor.__get__")))
    (hct_Shape : PySem.W.takesIn K (.builtin "object.__class__") = some true)
    (hcm_Shape : PySem.W.mroIn K c_Shape (.type "object") = some true)
    (rdc_Shape : PySem.W.readsIn K c_Shape (.type "type") = true)
    (gac_Shape : PySem.W.specialIn K (.ref c_Shape) "__getattribute__" = some (some (.builtin "type.__getattribute__")))
    (fcl_Shape_MARKS : PySem.W.findCls K (.ref c_Shape) (.type "type") "MARKS" = some (.val (.int 6 ti_Shape_MARKS)))
    (fcl_Shape_PARENTS : PySem.W.findCls K (.ref c_Shape) (.type "type") "PARENTS" = some (.val (.int 4 ti_Shape_PARENTS)))
    (no_Shape__listed : PySem.W.findIn K (.ref c_Shape) "_listed" = some none)
    (no_Shape__marks : PySem.W.findIn K (.ref c_Shape) "_marks" = some none)
    (gc_BadShape : PySem.W.nsIn K mainGlobals "BadShape" = some (some (.ref c_BadShape)))
    (gc_UnknownMark : PySem.W.nsIn K mainGlobals "UnknownMark" = some (some (.ref c_UnknownMark)))
    (gc_TooLarge : PySem.W.nsIn K mainGlobals "TooLarge" = some (some (.ref c_TooLarge)))
    (xz_super : PySem.W.nsIn K mainGlobals "super" = some none)
    (x_opq : PySem.W.nsIn K cStatics "thirdparty.any" = some none)
    (x_hn : PySem.W.specialIn K (.builtin "object.__class__") "__get__" = some (some (.builtin "getset_descriptor.__get__")))
    (x_ht : PySem.W.takesIn K (.builtin "object.__class__") = some true)
    (xl_BadShape : K.lookup c_BadShape = some (excClassObj nm_BadShape q_BadShape c_BadShape N_BadShape bs_BadShape [.ref c_WebError, .type "ValueError", .type "Exception", .type "BaseException", .type "object"] true sn_BadShape sub_BadShape ab_BadShape col_BadShape dd_BadShape m0_BadShape m1_BadShape m2_BadShape m3_BadShape m5_BadShape "ValueError.__new__"))
    (xsa_BadShape : PySem.W.findIn K (.ref c_BadShape) "__setattr__" = some (some (.builtin "object.__setattr__")))
    (xga_BadShape : PySem.W.findIn K (.ref c_BadShape) "__getattribute__" = some (some (.builtin "BaseException.__getattribute__")))
    (xgg_BadShape : PySem.W.findIn K (.ref c_BadShape) "__getattr__" = some none)
    (xno_BadShape : PySem.W.findIn K (.ref c_BadShape) "mark" = some none)
    (xk_BadShape : PySem.W.keepIn K (.ref c_BadShape) = true)
    (xb_BadShape : PySem.W.subIn K (.ref c_BadShape) (.type "BaseException") = some true)
    (xt_BadShape : PySem.W.typeIn K (.ref c_BadShape) = some (.type "type"))
    (xd_BadShape : PySem.W.hasDictIn K c_BadShape = true)
    (xi_BadShape : PySem.W.findIn K (.ref c_BadShape) "__init__" = some (some (.ref f_BadShape)))
    (xf_BadShape : PySem.W.typeIn K (.ref f_BadShape) = some (.type "function"))
    (xfl_BadShape : K.lookup f_BadShape = some ⟨oc_BadShape, od_BadShape, .func (PySem.W.ksFn "__init__" "BadShape.__init__" (defArgs S_BadShape_init) (defBody S_BadShape_init) (defScope S_BadShape_init) .none kV_BadShape dc_BadShape pm_BadShape an_BadShape (.ref cda_BadShape) ct_BadShape cc_BadShape), osl_BadShape⟩)
    (xci_BadShape : PySem.W.codeIn K (.ref cda_BadShape) "BadShape.__init__" = true)
    (xcc_BadShape : K.lookup cc_BadShape = some ⟨cl_BadShape, cld_BadShape, .cell (some (.ref c_BadShape)), csl_BadShape⟩)
    (xcd_BadShape : K.lookup cda_BadShape = some ⟨ccl_BadShape, cdd_BadShape, .fields vs_BadShape, ccs_BadShape⟩)
    (xvs_BadShape : vs_BadShape[2]? = some (.str file_BadShape tf_BadShape))
    (xfi_BadShape : ((PP.main.file : Str) == file_BadShape) = true)
    (xnx_BadShape : PySem.W.ks_superIn K c_BadShape c_BadShape "__init__" = some (some (.builtin "ValueError.__init__")))
    (xsl_BadShape : PySem.W.mroIn K c_BadShape (.ref c_BadShape) = some true)
    (xsu_BadShape : PySem.W.subIn K (.ref c_BadShape) (.type "ValueError") = some true)
    (xha_BadShape : PySem.W.findIn K (.ref c_BadShape) "__class__" = some (some (.builtin "object.__class__")))
    (xhm_BadShape : PySem.W.mroIn K c_BadShape (.type "object") = some true)
    (xl_UnknownMark : K.lookup c_UnknownMark = some (excClassObj nm_UnknownMark q_UnknownMark c_UnknownMark N_UnknownMark bs_UnknownMark [.ref c_WebError, .type "ValueError", .type "Exception", .type "BaseException", .type "object"] true sn_UnknownMark sub_UnknownMark ab_UnknownMark col_UnknownMark dd_UnknownMark m0_UnknownMark m1_UnknownMark m2_UnknownMark m3_UnknownMark m5_UnknownMark "ValueError.__new__"))
    (xsa_UnknownMark : PySem.W.findIn K (.ref c_UnknownMark) "__setattr__" = some (some (.builtin "object.__setattr__")))
    (xga_UnknownMark : PySem.W.findIn K (.ref c_UnknownMark) "__getattribute__" = some (some (.builtin "BaseException.__getattribute__")))
    (xgg_UnknownMark : PySem.W.findIn K (.ref c_UnknownMark) "__getattr__" = some none)
    (xno_UnknownMark : PySem.W.findIn K (.ref c_UnknownMark) "mark" = some none)
    (xk_UnknownMark : PySem.W.keepIn K (.ref c_UnknownMark) = true)
    (xb_UnknownMark : PySem.W.subIn K (.ref c_UnknownMark) (.type "BaseException") = some true)
    (xt_UnknownMark : PySem.W.typeIn K (.ref c_UnknownMark) = some (.type "type"))
    (xd_UnknownMark : PySem.W.hasDictIn K c_UnknownMark = true)
    (xi_UnknownMark : PySem.W.findIn K (.ref c_UnknownMark) "__init__" = some (some (.ref f_UnknownMark)))
    (xf_UnknownMark : PySem.W.typeIn K (.ref f_UnknownMark) = some (.type "function"))
    (xfl_UnknownMark : K.lookup f_UnknownMark = some ⟨oc_UnknownMark, od_UnknownMark, .func (PySem.W.ksFn "__init__" "UnknownMark.__init__" (defArgs S_UnknownMark_init) (defBody S_UnknownMark_init) (defScope S_UnknownMark_init) .none kV_UnknownMark dc_UnknownMark pm_UnknownMark an_UnknownMark (.ref cda_UnknownMark) ct_UnknownMark cc_UnknownMark), osl_UnknownMark⟩)
    (xci_UnknownMark : PySem.W.codeIn K (.ref cda_UnknownMark) "UnknownMark.__init__" = true)
    (xcc_UnknownMark : K.lookup cc_UnknownMark = some ⟨cl_UnknownMark, cld_UnknownMark, .cell (some (.ref c_UnknownMark)), csl_UnknownMark⟩)
    (xcd_UnknownMark : K.lookup cda_UnknownMark = some ⟨ccl_UnknownMark, cdd_UnknownMark, .fields vs_UnknownMark, ccs_UnknownMark⟩)
    (xvs_UnknownMark : vs_UnknownMark[2]? = some (.str file_UnknownMark tf_UnknownMark))
    (xfi_UnknownMark : ((PP.main.file : Str) == file_UnknownMark) = true)
    (xnx_UnknownMark : PySem.W.ks_superIn K c_UnknownMark c_UnknownMark "__init__" = some (some (.builtin "ValueError.__init__")))
    (xsl_UnknownMark : PySem.W.mroIn K c_UnknownMark (.ref c_UnknownMark) = some true)
    (xsu_UnknownMark : PySem.W.subIn K (.ref c_UnknownMark) (.type "ValueError") = some true)
    (xha_UnknownMark : PySem.W.findIn K (.ref c_UnknownMark) "__class__" = some (some (.builtin "object.__class__")))
    (xhm_UnknownMark : PySem.W.mroIn K c_UnknownMark (.type "object") = some true)
    (xl_TooLarge : K.lookup c_TooLarge = some (excClassObj nm_TooLarge q_TooLarge c_TooLarge N_TooLarge bs_TooLarge [.ref c_WebError, .type "ValueError", .type "Exception", .type "BaseException", .type "object"] true sn_TooLarge sub_TooLarge ab_TooLarge col_TooLarge dd_TooLarge m0_TooLarge m1_TooLarge m2_TooLarge m3_TooLarge m5_TooLarge "ValueError.__new__"))
    (xsa_TooLarge : PySem.W.findIn K (.ref c_TooLarge) "__setattr__" = some (some (.builtin "object.__setattr__")))
    (xga_TooLarge : PySem.W.findIn K (.ref c_TooLarge) "__getattribute__" = some (some (.builtin "BaseException.__getattribute__")))
    (xgg_TooLarge : PySem.W.findIn K (.ref c_TooLarge) "__getattr__" = some none)
    (xno_TooLarge : PySem.W.findIn K (.ref c_TooLarge) "most" = some none)
    (xk_TooLarge : PySem.W.keepIn K (.ref c_TooLarge) = true)
    (xb_TooLarge : PySem.W.subIn K (.ref c_TooLarge) (.type "BaseException") = some true)
    (xt_TooLarge : PySem.W.typeIn K (.ref c_TooLarge) = some (.type "type"))
    (xd_TooLarge : PySem.W.hasDictIn K c_TooLarge = true)
    (xi_TooLarge : PySem.W.findIn K (.ref c_TooLarge) "__init__" = some (some (.ref f_TooLarge)))
    (xf_TooLarge : PySem.W.typeIn K (.ref f_TooLarge) = some (.type "function"))
    (xfl_TooLarge : K.lookup f_TooLarge = some ⟨oc_TooLarge, od_TooLarge, .func (PySem.W.ksFn "__init__" "TooLarge.__init__" (defArgs S_TooLarge_init) (defBody S_TooLarge_init) (defScope S_TooLarge_init) .none kV_TooLarge dc_TooLarge pm_TooLarge an_TooLarge (.ref cda_TooLarge) ct_TooLarge cc_TooLarge), osl_TooLarge⟩)
    (xci_TooLarge : PySem.W.codeIn K (.ref cda_TooLarge) "TooLarge.__init__" = true)
    (xcc_TooLarge : K.lookup cc_TooLarge = some ⟨cl_TooLarge, cld_TooLarge, .cell (some (.ref c_TooLarge)), csl_TooLarge⟩)
    (xcd_TooLarge : K.lookup cda_TooLarge = some ⟨ccl_TooLarge, cdd_TooLarge, .fields vs_TooLarge, ccs_TooLarge⟩)
    (xvs_TooLarge : vs_TooLarge[2]? = some (.str file_TooLarge tf_TooLarge))
    (xfi_TooLarge : ((PP.main.file : Str) == file_TooLarge) = true)
    (xnx_TooLarge : PySem.W.ks_superIn K c_TooLarge c_TooLarge "__init__" = some (some (.builtin "ValueError.__init__")))
    (xsl_TooLarge : PySem.W.mroIn K c_TooLarge (.ref c_TooLarge) = some true)
    (xsu_TooLarge : PySem.W.subIn K (.ref c_TooLarge) (.type "ValueError") = some true)
    (xha_TooLarge : PySem.W.findIn K (.ref c_TooLarge) "__class__" = some (some (.builtin "object.__class__")))
    (xhm_TooLarge : PySem.W.mroIn K c_TooLarge (.type "object") = some true)
    : ∃ fd : FuncData, (∀ (s : Shared) (v : Value), BindsTo s fd ⟨[v], []⟩ [("_law_script", v)]) ∧ ∀ base : Heap, K.In base → base.Ns mainGlobals mg → FnOk PP w K mg base CX0 16 fa fd ["_law_script"] (spLaw K) := by
  have e := hfa.symm.trans (PySem.W.mg_of X G a_law)
  cases e
  have FD_Way_init : FunD K "__init__" "Way.__init__" (defArgs S_Way_init) (defBody S_Way_init) (defScope S_Way_init) [.str "none", .str "none", .str "none"] [("early", .bl false)] f_Way_init (PySem.W.fnOf "__init__" "Way.__init__" (defArgs S_Way_init) (defBody S_Way_init) (defScope S_Way_init) (.ref dt_Way_init) (.ref kd_Way_init) dc_Way_init pm_Way_init an_Way_init cd_Way_init ct_Way_init) := ⟨⟨_, _, _, _, _, _, _, _, _, _, rfl, l_Way_init, c_Way_init, .inr ⟨by simp, dt_Way_init, _, [.str "none" tt_Way_init_0, .str "none" tt_Way_init_1, .str "none" tt_Way_init_2], _, rfl, lt_Way_init, rfl, (.cons ⟨_, rfl⟩ (.cons ⟨_, rfl⟩ (.cons ⟨_, rfl⟩ .nil)))⟩, .inr ⟨kd_Way_init, rfl, fun q hq => by
      simp only [List.mem_cons, List.not_mem_nil, or_false] at hq
      rcases hq with rfl
      · exact ⟨_, nk_Way_init_early, rfl⟩⟩⟩, k_Way_init⟩
  have FD_Policy_init : FunD K "__init__" "Policy.__init__" (defArgs S_Policy_init) (defBody S_Policy_init) (defScope S_Policy_init) [.ref ed_Policy_init_0] [] f_Policy_init (PySem.W.fnOf "__init__" "Policy.__init__" (defArgs S_Policy_init) (defBody S_Policy_init) (defScope S_Policy_init) (.ref dt_Policy_init) kV_Policy_init dc_Policy_init pm_Policy_init an_Policy_init cd_Policy_init ct_Policy_init) := ⟨⟨_, _, _, _, _, _, _, _, _, _, rfl, l_Policy_init, c_Policy_init, .inr ⟨by simp, dt_Policy_init, _, [.ref ed_Policy_init_0], _, rfl, lt_Policy_init, rfl, (.cons rfl .nil)⟩, .inl rfl⟩, k_Policy_init⟩
  have Hkb_Way_init_4_early : KBn K (PySem.W.fnOf "__init__" "Way.__init__" (defArgs S_Way_init) (defBody S_Way_init) (defScope S_Way_init) (.ref dt_Way_init) (.ref kd_Way_init) dc_Way_init pm_Way_init an_Way_init cd_Way_init ct_Way_init) ["self", "held", "owned", "seen", "early"] 4 ["early"] (fun us ws => us ++ ws) (fun vs zs => vs ++ zs) := by
    obtain ⟨its, mv, h⟩ := FunD.kbinds (ps := ["self", "held", "owned", "seen", "early"]) FD_Way_init 4 ["early"] [] (fun us its mv ws => us ++ ws) (by simp) (by simp) (by simp) (fun r1 r2 r3 r4 => r1.append r4) (fun T D doc pm an cdv ct us its mv ws l1 l2 l3 l4 => match us, ws, mv, its, l1, l4, l3, l2 with | [_, _, _, _], [_], [], [_, _, _], _, _, _, _ => ⟨_, rfl, rfl⟩)
    exact h
  have Hkb_Way_init_1_early : ∃ G, KBn K (PySem.W.fnOf "__init__" "Way.__init__" (defArgs S_Way_init) (defBody S_Way_init) (defScope S_Way_init) (.ref dt_Way_init) (.ref kd_Way_init) dc_Way_init pm_Way_init an_Way_init cd_Way_init ct_Way_init) ["self", "held", "owned", "seen", "early"] 1 ["early"] G (fun vs zs => (vs ++ ((([.str "none", .str "none", .str "none"] : List V).drop 0).take 1 ++ ((([.str "none", .str "none", .str "none"] : List V).drop 1).take 1 ++ ((([.str "none", .str "none", .str "none"] : List V).drop 2).take 1 ++ ((zs.drop 0).take 1)))))) := by
    obtain ⟨its, mv, h⟩ := FunD.kbinds (ps := ["self", "held", "owned", "seen", "early"]) FD_Way_init 1 ["early"] [] (fun us its mv ws => (us ++ ((its.drop 0).take 1 ++ ((its.drop 1).take 1 ++ ((its.drop 2).take 1 ++ ((ws.drop 0).take 1)))))) (by simp) (by simp) (by simp) (fun r1 r2 r3 r4 => (r1.append (((r2.drop 0).take 1).append (((r2.drop 1).take 1).append (((r2.drop 2).take 1).append (((r4.drop 0).take 1))))))) (fun T D doc pm an cdv ct us its mv ws l1 l2 l3 l4 => match us, ws, mv, its, l1, l4, l3, l2 with | [_], [_], [], [_, _, _], _, _, _, _ => ⟨_, rfl, rfl⟩)
    exact ⟨_, h⟩
  have Hkb_Way_init_1_owned : ∃ G, KBn K (PySem.W.fnOf "__init__" "Way.__init__" (defArgs S_Way_init) (defBody S_Way_init) (defScope S_Way_init) (.ref dt_Way_init) (.ref kd_Way_init) dc_Way_init pm_Way_init an_Way_init cd_Way_init ct_Way_init) ["self", "held", "owned", "seen", "early"] 1 ["owned"] G (fun vs zs => (vs ++ ((([.str "none", .str "none", .str "none"] : List V).drop 0).take 1 ++ ((zs.drop 0).take 1 ++ ((([.str "none", .str "none", .str "none"] : List V).drop 2).take 1 ++ (((([("early", .bl false)] : List (Str × V)).map (·.2)).drop 0).take 1)))))) := by
    obtain ⟨its, mv, h⟩ := FunD.kbinds (ps := ["self", "held", "owned", "seen", "early"]) FD_Way_init 1 ["owned"] [("early", .bl false)] (fun us its mv ws => (us ++ ((its.drop 0).take 1 ++ ((ws.drop 0).take 1 ++ ((its.drop 2).take 1 ++ ((mv.drop 0).take 1)))))) (by simp) (by simp) (by simp) (fun r1 r2 r3 r4 => (r1.append (((r2.drop 0).take 1).append (((r4.drop 0).take 1).append (((r2.drop 2).take 1).append (((r3.drop 0).take 1))))))) (fun T D doc pm an cdv ct us its mv ws l1 l2 l3 l4 => match us, ws, mv, its, l1, l4, l3, l2 with | [_], [_], [_], [_, _, _], _, _, _, _ => ⟨_, rfl, ⟨_, _, _, _, _, _, rfl, rfl, rfl⟩⟩)
    exact ⟨_, h⟩
  have Hkb_Way_init_1_owned_seen : ∃ G, KBn K (PySem.W.fnOf "__init__" "Way.__init__" (defArgs S_Way_init) (defBody S_Way_init) (defScope S_Way_init) (.ref dt_Way_init) (.ref kd_Way_init) dc_Way_init pm_Way_init an_Way_init cd_Way_init ct_Way_init) ["self", "held", "owned", "seen", "early"] 1 ["owned", "seen"] G (fun vs zs => (vs ++ ((([.str "none", .str "none", .str "none"] : List V).drop 0).take 1 ++ ((zs.drop 0).take 1 ++ ((zs.drop 1).take 1 ++ (((([("early", .bl false)] : List (Str × V)).map (·.2)).drop 0).take 1)))))) := by
    obtain ⟨its, mv, h⟩ := FunD.kbinds (ps := ["self", "held", "owned", "seen", "early"]) FD_Way_init 1 ["owned", "seen"] [("early", .bl false)] (fun us its mv ws => (us ++ ((its.drop 0).take 1 ++ ((ws.drop 0).take 1 ++ ((ws.drop 1).take 1 ++ ((mv.drop 0).take 1)))))) (by simp) (by simp) (by simp) (fun r1 r2 r3 r4 => (r1.append (((r2.drop 0).take 1).append (((r4.drop 0).take 1).append (((r4.drop 1).take 1).append (((r3.drop 0).take 1))))))) (fun T D doc pm an cdv ct us its mv ws l1 l2 l3 l4 => match us, ws, mv, its, l1, l4, l3, l2 with | [_], [_, _], [_], [_, _, _], _, _, _, _ => ⟨_, rfl, ⟨_, _, _, _, _, _, rfl, rfl, rfl⟩⟩)
    exact ⟨_, h⟩
  have Hkb_Policy_init_3 : ∃ ds, Vals [] ds ∧ Binds K (PySem.W.fnOf "__init__" "Policy.__init__" (defArgs S_Policy_init) (defBody S_Policy_init) (defScope S_Policy_init) (.ref dt_Policy_init) kV_Policy_init dc_Policy_init pm_Policy_init an_Policy_init cd_Policy_init ct_Policy_init) ["self", "shape", "rows"] ds := FunD.binds1 (ps := ["self", "shape", "rows"]) FD_Policy_init 3 1 (by simp) (by rfl) (fun T kV doc pm an cdv ct us its l1 l2 => match us, its, l1, l2 with | [_, _, _], [_], _, _ => ⟨_, rfl, rfl⟩)
  have XT_BadShape : PySem.WX.ExcTxt PP K mg "BadShape" "mark" c_BadShape := { gC := PySem.W.mg_of X G gc_BadShape, cls := ⟨nm_BadShape, q_BadShape, N_BadShape, bs_BadShape, _, sn_BadShape, sub_BadShape, ab_BadShape, col_BadShape, dd_BadShape, m0_BadShape, m1_BadShape, m2_BadShape, m3_BadShape, m5_BadShape, xl_BadShape, rfl⟩, sa := xsa_BadShape, ga := xga_BadShape, gg := xgg_BadShape, noN := xno_BadShape, kC := xk_BadShape, exC := xb_BadShape, tyC := xt_BadShape, hdC := xd_BadShape, D := c_BadShape, clsD := ⟨_, _, xl_BadShape, rfl⟩, fI := f_BadShape, qual := "BadShape.__init__", tx := _, S := S_BadShape_init, oc := oc_BadShape, od := od_BadShape, kV := kV_BadShape, doc := dc_BadShape, pm := pm_BadShape, an := an_BadShape, cda := cda_BadShape, ct := ct_BadShape, osl := osl_BadShape, cc := cc_BadShape, cl := cl_BadShape, cld := cld_BadShape, csl := csl_BadShape, ccl := ccl_BadShape, cdd := cdd_BadShape, vs := vs_BadShape, ccs := ccs_BadShape, file := file_BadShape, tf := tf_BadShape, q1 := _, q2 := _, q3 := _, q4 := _, q5 := _, q6 := _, q7 := _, q8 := _, q9 := _, q10 := _, j := _, pl := _, iC := xi_BadShape, tI := xf_BadShape, lI := xfl_BadShape, cI := xci_BadShape, lcc := xcc_BadShape, lcd := xcd_BadShape, hvs := xvs_BadShape, hfile := xfi_BadShape, hpar := ⟨_, rfl, rfl⟩, hbody := rfl, hbind := fun _ _ => rfl, hev := fun _ _ => rfl, hk := rfl, hco := rfl, hgen := rfl, hks := rfl, hkc := rfl, hself := rfl, hfl := rfl, hcell := by decide +kernel, nf := by decide +kernel, top := by decide +kernel, sup := PySem.W.mg_none_of X G xz_super, opq := x_opq, nxt := xnx_BadShape, slf := xsl_BadShape, sub := xsu_BadShape }
  have XT_UnknownMark : PySem.WX.ExcTxt PP K mg "UnknownMark" "mark" c_UnknownMark := { gC := PySem.W.mg_of X G gc_UnknownMark, cls := ⟨nm_UnknownMark, q_UnknownMark, N_UnknownMark, bs_UnknownMark, _, sn_UnknownMark, sub_UnknownMark, ab_UnknownMark, col_UnknownMark, dd_UnknownMark, m0_UnknownMark, m1_UnknownMark, m2_UnknownMark, m3_UnknownMark, m5_UnknownMark, xl_UnknownMark, rfl⟩, sa := xsa_UnknownMark, ga := xga_UnknownMark, gg := xgg_UnknownMark, noN := xno_UnknownMark, kC := xk_UnknownMark, exC := xb_UnknownMark, tyC := xt_UnknownMark, hdC := xd_UnknownMark, D := c_UnknownMark, clsD := ⟨_, _, xl_UnknownMark, rfl⟩, fI := f_UnknownMark, qual := "UnknownMark.__init__", tx := _, S := S_UnknownMark_init, oc := oc_UnknownMark, od := od_UnknownMark, kV := kV_UnknownMark, doc := dc_UnknownMark, pm := pm_UnknownMark, an := an_UnknownMark, cda := cda_UnknownMark, ct := ct_UnknownMark, osl := osl_UnknownMark, cc := cc_UnknownMark, cl := cl_UnknownMark, cld := cld_UnknownMark, csl := csl_UnknownMark, ccl := ccl_UnknownMark, cdd := cdd_UnknownMark, vs := vs_UnknownMark, ccs := ccs_UnknownMark, file := file_UnknownMark, tf := tf_UnknownMark, q1 := _, q2 := _, q3 := _, q4 := _, q5 := _, q6 := _, q7 := _, q8 := _, q9 := _, q10 := _, j := _, pl := _, iC := xi_UnknownMark, tI := xf_UnknownMark, lI := xfl_UnknownMark, cI := xci_UnknownMark, lcc := xcc_UnknownMark, lcd := xcd_UnknownMark, hvs := xvs_UnknownMark, hfile := xfi_UnknownMark, hpar := ⟨_, rfl, rfl⟩, hbody := rfl, hbind := fun _ _ => rfl, hev := fun _ _ => rfl, hk := rfl, hco := rfl, hgen := rfl, hks := rfl, hkc := rfl, hself := rfl, hfl := rfl, hcell := by decide +kernel, nf := by decide +kernel, top := by decide +kernel, sup := PySem.W.mg_none_of X G xz_super, opq := x_opq, nxt := xnx_UnknownMark, slf := xsl_UnknownMark, sub := xsu_UnknownMark }
  have XT_TooLarge : PySem.WX.ExcTxt PP K mg "TooLarge" "most" c_TooLarge := { gC := PySem.W.mg_of X G gc_TooLarge, cls := ⟨nm_TooLarge, q_TooLarge, N_TooLarge, bs_TooLarge, _, sn_TooLarge, sub_TooLarge, ab_TooLarge, col_TooLarge, dd_TooLarge, m0_TooLarge, m1_TooLarge, m2_TooLarge, m3_TooLarge, m5_TooLarge, xl_TooLarge, rfl⟩, sa := xsa_TooLarge, ga := xga_TooLarge, gg := xgg_TooLarge, noN := xno_TooLarge, kC := xk_TooLarge, exC := xb_TooLarge, tyC := xt_TooLarge, hdC := xd_TooLarge, D := c_TooLarge, clsD := ⟨_, _, xl_TooLarge, rfl⟩, fI := f_TooLarge, qual := "TooLarge.__init__", tx := _, S := S_TooLarge_init, oc := oc_TooLarge, od := od_TooLarge, kV := kV_TooLarge, doc := dc_TooLarge, pm := pm_TooLarge, an := an_TooLarge, cda := cda_TooLarge, ct := ct_TooLarge, osl := osl_TooLarge, cc := cc_TooLarge, cl := cl_TooLarge, cld := cld_TooLarge, csl := csl_TooLarge, ccl := ccl_TooLarge, cdd := cdd_TooLarge, vs := vs_TooLarge, ccs := ccs_TooLarge, file := file_TooLarge, tf := tf_TooLarge, q1 := _, q2 := _, q3 := _, q4 := _, q5 := _, q6 := _, q7 := _, q8 := _, q9 := _, q10 := _, j := _, pl := _, iC := xi_TooLarge, tI := xf_TooLarge, lI := xfl_TooLarge, cI := xci_TooLarge, lcc := xcc_TooLarge, lcd := xcd_TooLarge, hvs := xvs_TooLarge, hfile := xfi_TooLarge, hpar := ⟨_, rfl, rfl⟩, hbody := rfl, hbind := fun _ _ => rfl, hev := fun _ _ => rfl, hk := rfl, hco := rfl, hgen := rfl, hks := rfl, hkc := rfl, hself := rfl, hfl := rfl, hcell := by decide +kernel, nf := by decide +kernel, top := by decide +kernel, sup := PySem.W.mg_none_of X G xz_super, opq := x_opq, nxt := xnx_TooLarge, slf := xsl_TooLarge, sub := xsu_TooLarge }
  let T : Txt K mg := {
    a_rank := f_rank,
    fd_rank := _,
    F_rank := fun_mk (st := S_rank) l_rank c_rank k_rank,
    b_rank := (fun_mk (st := S_rank) l_rank c_rank k_rank).binds (ps := ["level"]) fun _ _ _ _ _ _ us hl => match us, hl with | [_], _ => rfl,
    g_rank := PySem.W.mg_of X G a_rank,
    a_Way_init := f_Way_init,
    fd_Way_init := _,
    F_Way_init := FD_Way_init,
    a_Policy_init := f_Policy_init,
    fd_Policy_init := _,
    F_Policy_init := FD_Policy_init,
    ed_Policy_init_0 := ed_Policy_init_0,
    qe_Policy_init_0 := fun H => .inr ⟨_, _, _, le_Policy_init_0, rfl, rfl, by show 0 ≤ sizeLine; decide, .nil⟩,
    a_Policy_iter := f_Policy_iter,
    fd_Policy_iter := _,
    F_Policy_iter := fun_mk (st := S_Policy_iter) l_Policy_iter c_Policy_iter k_Policy_iter,
    b_Policy_iter := (fun_mk (st := S_Policy_iter) l_Policy_iter c_Policy_iter k_Policy_iter).binds (ps := ["self"]) fun _ _ _ _ _ _ us hl => match us, hl with | [_], _ => rfl,
    a_Policy_len := f_Policy_len,
    fd_Policy_len := _,
    F_Policy_len := fun_mk (st := S_Policy_len) l_Policy_len c_Policy_len k_Policy_len,
    b_Policy_len := (fun_mk (st := S_Policy_len) l_Policy_len c_Policy_len k_Policy_len).binds (ps := ["self"]) fun _ _ _ _ _ _ us hl => match us, hl with | [_], _ => rfl,
    a_Policy_getitem := f_Policy_getitem,
    fd_Policy_getitem := _,
    F_Policy_getitem := fun_mk (st := S_Policy_getitem) l_Policy_getitem c_Policy_getitem k_Policy_getitem,
    b_Policy_getitem := (fun_mk (st := S_Policy_getitem) l_Policy_getitem c_Policy_getitem k_Policy_getitem).binds (ps := ["self", "mark"]) fun _ _ _ _ _ _ us hl => match us, hl with | [_, _], _ => rfl,
    a_Policy_setitem := f_Policy_setitem,
    fd_Policy_setitem := _,
    F_Policy_setitem := fun_mk (st := S_Policy_setitem) l_Policy_setitem c_Policy_setitem k_Policy_setitem,
    b_Policy_setitem := (fun_mk (st := S_Policy_setitem) l_Policy_setitem c_Policy_setitem k_Policy_setitem).binds (ps := ["self", "mark", "rule"]) fun _ _ _ _ _ _ us hl => match us, hl with | [_, _, _], _ => rfl,
    a_Policy_starts := f_Policy_starts,
    fd_Policy_starts := _,
    F_Policy_starts := fun_mk (st := S_Policy_starts) l_Policy_starts c_Policy_starts k_Policy_starts,
    b_Policy_starts := (fun_mk (st := S_Policy_starts) l_Policy_starts c_Policy_starts k_Policy_starts).binds (ps := ["self"]) fun _ _ _ _ _ _ us hl => match us, hl with | [_], _ => rfl,
    a_Policy_everywhere := f_Policy_everywhere,
    fd_Policy_everywhere := _,
    F_Policy_everywhere := fun_mk (st := S_Policy_everywhere) l_Policy_everywhere c_Policy_everywhere k_Policy_everywhere,
    bs_Policy_everywhere := StX.bind_star2 (B := fun us => bindArgs (PySem.W.fnOf "everywhere" "Policy.everywhere" (defArgs S_Policy_everywhere) (defBody S_Policy_everywhere) (defScope S_Policy_everywhere) .none kV_Policy_everywhere dc_Policy_everywhere pm_Policy_everywhere an_Policy_everywhere cd_Policy_everywhere ct_Policy_everywhere) ⟨us, []⟩) (fun a b => rfl) (fun a b r rs => rfl),
    a_Policy_two_phase := f_Policy_two_phase,
    fd_Policy_two_phase := _,
    F_Policy_two_phase := fun_mk (st := S_Policy_two_phase) l_Policy_two_phase c_Policy_two_phase k_Policy_two_phase,
    b_Policy_two_phase := (fun_mk (st := S_Policy_two_phase) l_Policy_two_phase c_Policy_two_phase k_Policy_two_phase).binds (ps := ["cls", "shape"]) fun _ _ _ _ _ _ us hl => match us, hl with | [_, _], _ => rfl,
    a_Policy_hand_over_hand := f_Policy_hand_over_hand,
    fd_Policy_hand_over_hand := _,
    F_Policy_hand_over_hand := fun_mk (st := S_Policy_hand_over_hand) l_Policy_hand_over_hand c_Policy_hand_over_hand k_Policy_hand_over_hand,
    b_Policy_hand_over_hand := (fun_mk (st := S_Policy_hand_over_hand) l_Policy_hand_over_hand c_Policy_hand_over_hand k_Policy_hand_over_hand).binds (ps := ["cls", "shape"]) fun _ _ _ _ _ _ us hl => match us, hl with | [_, _], _ => rfl,
    a_Policy_majority := f_Policy_majority,
    fd_Policy_majority := _,
    F_Policy_majority := fun_mk (st := S_Policy_majority) l_Policy_majority c_Policy_majority k_Policy_majority,
    b_Policy_majority := (fun_mk (st := S_Policy_majority) l_Policy_majority c_Policy_majority k_Policy_majority).binds (ps := ["cls", "shape"]) fun _ _ _ _ _ _ us hl => match us, hl with | [_, _], _ => rfl,
    a_Policy_all_seen := f_Policy_all_seen,
    fd_Policy_all_seen := _,
    F_Policy_all_seen := fun_mk (st := S_Policy_all_seen) l_Policy_all_seen c_Policy_all_seen k_Policy_all_seen,
    b_Policy_all_seen := (fun_mk (st := S_Policy_all_seen) l_Policy_all_seen c_Policy_all_seen k_Policy_all_seen).binds (ps := ["cls", "shape"]) fun _ _ _ _ _ _ us hl => match us, hl with | [_, _], _ => rfl,
    a_is_mark := f_is_mark,
    fd_is_mark := _,
    F_is_mark := fun_mk (st := S_is_mark) l_is_mark c_is_mark k_is_mark,
    b_is_mark := (fun_mk (st := S_is_mark) l_is_mark c_is_mark k_is_mark).binds (ps := ["text"]) fun _ _ _ _ _ _ us hl => match us, hl with | [_], _ => rfl,
    g_is_mark := PySem.W.mg_of X G a_is_mark,
    a_sound_row := f_sound_row,
    fd_sound_row := _,
    F_sound_row := fun_mk (st := S_sound_row) l_sound_row c_sound_row k_sound_row,
    b_sound_row := (fun_mk (st := S_sound_row) l_sound_row c_sound_row k_sound_row).binds (ps := ["row", "before"]) fun _ _ _ _ _ _ us hl => match us, hl with | [_, _], _ => rfl,
    g_sound_row := PySem.W.mg_of X G a_sound_row,
    a_barren := f_barren,
    fd_barren := _,
    F_barren := fun_mk (st := S_barren) l_barren c_barren k_barren,
    b_barren := (fun_mk (st := S_barren) l_barren c_barren k_barren).binds (ps := ["rows"]) fun _ _ _ _ _ _ us hl => match us, hl with | [_], _ => rfl,
    g_barren := PySem.W.mg_of X G a_barren,
    a_Shape_init := f_Shape_init,
    fd_Shape_init := _,
    F_Shape_init := fun_mk (st := S_Shape_init) l_Shape_init c_Shape_init k_Shape_init,
    bs_Shape_init := StX.bind_star1 (B := fun us => bindArgs (PySem.W.fnOf "__init__" "Shape.__init__" (defArgs S_Shape_init) (defBody S_Shape_init) (defScope S_Shape_init) .none kV_Shape_init dc_Shape_init pm_Shape_init an_Shape_init cd_Shape_init ct_Shape_init) ⟨us, []⟩) (fun a => rfl) (fun a r rs => rfl),
    a_Shape_iter := f_Shape_iter,
    fd_Shape_iter := _,
    F_Shape_iter := fun_mk (st := S_Shape_iter) l_Shape_iter c_Shape_iter k_Shape_iter,
    b_Shape_iter := (fun_mk (st := S_Shape_iter) l_Shape_iter c_Shape_iter k_Shape_iter).binds (ps := ["self"]) fun _ _ _ _ _ _ us hl => match us, hl with | [_], _ => rfl,
    a_Shape_len := f_Shape_len,
    fd_Shape_len := _,
    F_Shape_len := fun_mk (st := S_Shape_len) l_Shape_len c_Shape_len k_Shape_len,
    b_Shape_len := (fun_mk (st := S_Shape_len) l_Shape_len c_Shape_len k_Shape_len).binds (ps := ["self"]) fun _ _ _ _ _ _ us hl => match us, hl with | [_], _ => rfl,
    a_Shape_eq := f_Shape_eq,
    fd_Shape_eq := _,
    F_Shape_eq := fun_mk (st := S_Shape_eq) l_Shape_eq c_Shape_eq k_Shape_eq,
    b_Shape_eq := (fun_mk (st := S_Shape_eq) l_Shape_eq c_Shape_eq k_Shape_eq).binds (ps := ["self", "other"]) fun _ _ _ _ _ _ us hl => match us, hl with | [_, _], _ => rfl,
    a__law_draws := f__law_draws,
    fd__law_draws := _,
    F__law_draws := fun_mk (st := S__law_draws) l__law_draws c__law_draws k__law_draws,
    b__law_draws := (fun_mk (st := S__law_draws) l__law_draws c__law_draws k__law_draws).binds (ps := ["_law_script"]) fun _ _ _ _ _ _ us hl => match us, hl with | [_], _ => rfl,
    g__law_draws := PySem.W.mg_of X G a__law_draws,
    a__law_take := f__law_take,
    fd__law_take := _,
    F__law_take := fun_mk (st := S__law_take) l__law_take c__law_take k__law_take,
    b__law_take := (fun_mk (st := S__law_take) l__law_take c__law_take k__law_take).binds (ps := ["_law_draws_here", "_law_at", "_law_size"]) fun _ _ _ _ _ _ us hl => match us, hl with | [_, _, _], _ => rfl,
    g__law_take := PySem.W.mg_of X G a__law_take,
    a__law_same := f__law_same,
    fd__law_same := _,
    F__law_same := fun_mk (st := S__law_same) l__law_same c__law_same k__law_same,
    b__law_same := (fun_mk (st := S__law_same) l__law_same c__law_same k__law_same).binds (ps := ["_law_actual", "_law_expected"]) fun _ _ _ _ _ _ us hl => match us, hl with | [_, _], _ => rfl,
    g__law_same := PySem.W.mg_of X G a__law_same,
    a__law_marks := f__law_marks,
    fd__law_marks := _,
    F__law_marks := fun_mk (st := S__law_marks) l__law_marks c__law_marks k__law_marks,
    b__law_marks := (fun_mk (st := S__law_marks) l__law_marks c__law_marks k__law_marks).binds (ps := ["_law_draws_here", "_law_at", "_law_count"]) fun _ _ _ _ _ _ us hl => match us, hl with | [_, _, _], _ => rfl,
    g__law_marks := PySem.W.mg_of X G a__law_marks,
    a__law_way := f__law_way,
    fd__law_way := _,
    F__law_way := fun_mk (st := S__law_way) l__law_way c__law_way k__law_way,
    b__law_way := (fun_mk (st := S__law_way) l__law_way c__law_way k__law_way).binds (ps := ["_law_draws_here", "_law_at"]) fun _ _ _ _ _ _ us hl => match us, hl with | [_, _], _ => rfl,
    g__law_way := PySem.W.mg_of X G a__law_way,
    a__law_way_made := f__law_way_made,
    fd__law_way_made := _,
    F__law_way_made := fun_mk (st := S__law_way_made) l__law_way_made c__law_way_made k__law_way_made,
    b__law_way_made := (fun_mk (st := S__law_way_made) l__law_way_made c__law_way_made k__law_way_made).binds (ps := ["_law_way_here"]) fun _ _ _ _ _ _ us hl => match us, hl with | [_], _ => rfl,
    g__law_way_made := PySem.W.mg_of X G a__law_way_made,
    a__law_rule_same := f__law_rule_same,
    fd__law_rule_same := _,
    F__law_rule_same := fun_mk (st := S__law_rule_same) l__law_rule_same c__law_rule_same k__law_rule_same,
    b__law_rule_same := (fun_mk (st := S__law_rule_same) l__law_rule_same c__law_rule_same k__law_rule_same).binds (ps := ["_law_rule", "_law_due"]) fun _ _ _ _ _ _ us hl => match us, hl with | [_, _], _ => rfl,
    g__law_rule_same := PySem.W.mg_of X G a__law_rule_same,
    a__law_policy_same := f__law_policy_same,
    fd__law_policy_same := _,
    F__law_policy_same := fun_mk (st := S__law_policy_same) l__law_policy_same c__law_policy_same k__law_policy_same,
    b__law_policy_same := (fun_mk (st := S__law_policy_same) l__law_policy_same c__law_policy_same k__law_policy_same).binds (ps := ["_law_policy", "_law_shape", "_law_rules"]) fun _ _ _ _ _ _ us hl => match us, hl with | [_, _, _], _ => rfl,
    g__law_policy_same := PySem.W.mg_of X G a__law_policy_same,
    a__law_wide_rows := f__law_wide_rows,
    fd__law_wide_rows := _,
    F__law_wide_rows := fun_mk (st := S__law_wide_rows) l__law_wide_rows c__law_wide_rows k__law_wide_rows,
    b__law_wide_rows := (fun_mk (st := S__law_wide_rows) l__law_wide_rows c__law_wide_rows k__law_wide_rows).binds (ps := ["_law_draws_here", "_law_at", "_law_count"]) fun _ _ _ _ _ _ us hl => match us, hl with | [_, _, _], _ => rfl,
    g__law_wide_rows := PySem.W.mg_of X G a__law_wide_rows,
    a__law_wide_shape := f__law_wide_shape,
    fd__law_wide_shape := _,
    F__law_wide_shape := fun_mk (st := S__law_wide_shape) l__law_wide_shape c__law_wide_shape k__law_wide_shape,
    b__law_wide_shape := (fun_mk (st := S__law_wide_shape) l__law_wide_shape c__law_wide_shape k__law_wide_shape).binds (ps := ["_law_rows"]) fun _ _ _ _ _ _ us hl => match us, hl with | [_], _ => rfl,
    g__law_wide_shape := PySem.W.mg_of X G a__law_wide_shape,
    a__law_everywhere := f__law_everywhere,
    fd__law_everywhere := _,
    F__law_everywhere := fun_mk (st := S__law_everywhere) l__law_everywhere c__law_everywhere k__law_everywhere,
    b__law_everywhere := (fun_mk (st := S__law_everywhere) l__law_everywhere c__law_everywhere k__law_everywhere).binds (ps := ["_law_shape", "_law_ways"]) fun _ _ _ _ _ _ us hl => match us, hl with | [_, _], _ => rfl,
    g__law_everywhere := PySem.W.mg_of X G a__law_everywhere,
    a_law := fa,
    fd_law := _,
    F_law := fun_mk (st := S_law) l_law c_law k_law,
    b_law := (fun_mk (st := S_law) l_law c_law k_law).binds (ps := ["_law_script"]) fun _ _ _ _ _ _ us hl => match us, hl with | [_], _ => rfl,
    g_law := PySem.W.mg_of X G a_law,
    n_any := PySem.W.mg_none_of X G z_any,
    n_bool := PySem.W.mg_none_of X G z_bool,
    n_classmethod := PySem.W.mg_none_of X G z_classmethod,
    n_enumerate := PySem.W.mg_none_of X G z_enumerate,
    n_int := PySem.W.mg_none_of X G z_int,
    n_isinstance := PySem.W.mg_none_of X G z_isinstance,
    n_iter := PySem.W.mg_none_of X G z_iter,
    n_len := PySem.W.mg_none_of X G z_len,
    n_list := PySem.W.mg_none_of X G z_list,
    n_property := PySem.W.mg_none_of X G z_property,
    n_range := PySem.W.mg_none_of X G z_range,
    n_str := PySem.W.mg_none_of X G z_str,
    n_tuple := PySem.W.mg_none_of X G z_tuple,
    k_LEVELS := q_LEVELS,
    g_LEVELS := PySem.W.mg_of X G aq_LEVELS,
    q_LEVELS := fun H => .inr ⟨_, _, _, lq_LEVELS, rfl, rfl, by show 4 ≤ sizeLine; decide, (.cons ⟨_, rfl⟩ (.cons ⟨_, rfl⟩ (.cons ⟨_, rfl⟩ (.cons ⟨_, rfl⟩ .nil))))⟩,
    tk_LETTERS := tq_LETTERS,
    g_LETTERS := PySem.W.mg_of X G aq_LETTERS,
    c_Way := c_Way,
    g_Way := PySem.W.mg_of X G gc_Way,
    cl_Way := ⟨pg_Way, hd_Way, po_Way, sa_Way⟩,
    mk_Way := ⟨mk_Way, a_Way_init, i_Way_init, kc_Way⟩,
    ti_Way := fun _ _ _ _ h => .ins h ⟨pg_Way, hd_Way, po_Way, sa_Way⟩ hca_Way hcn_Way hct_Way hcm_Way,
    kk_Way := if_pos (beq_self_eq_true _),
    no_Way_held := no_Way_held,
    no_Way_owned := no_Way_owned,
    no_Way_seen := no_Way_seen,
    no_Way_early := no_Way_early,
    c_Policy := c_Policy,
    g_Policy := PySem.W.mg_of X G gc_Policy,
    cl_Policy := ⟨pg_Policy, hd_Policy, po_Policy, sa_Policy⟩,
    mk_Policy := ⟨mk_Policy, a_Policy_init, i_Policy_init, kc_Policy⟩,
    m_Policy_iter := ⟨a_Policy_iter, i_Policy_iter, k_Policy_iter⟩,
    m_Policy_len := ⟨a_Policy_len, i_Policy_len, k_Policy_len⟩,
    fi_Policy_getitem := fi_Policy_getitem,
    m_Policy_getitem := ⟨a_Policy_getitem, i_Policy_getitem, k_Policy_getitem⟩,
    nq_Policy := nq_Policy,
    m_Policy_setitem := ⟨a_Policy_setitem, i_Policy_setitem, k_Policy_setitem⟩,
    p_Policy_starts := p_Policy_starts,
    pr_Policy_starts := ⟨pa_Policy_starts, pg_Policy_starts, pt_Policy_starts, ⟨_, pr_Policy_starts⟩⟩,
    p_Policy_everywhere := p_Policy_everywhere,
    cm_Policy_everywhere := ⟨cf_Policy_everywhere, ⟨_, cn_Policy_everywhere⟩, cw_Policy_everywhere⟩,
    p_Policy_two_phase := p_Policy_two_phase,
    cm_Policy_two_phase := ⟨cf_Policy_two_phase, ⟨_, cn_Policy_two_phase⟩, cw_Policy_two_phase⟩,
    p_Policy_hand_over_hand := p_Policy_hand_over_hand,
    cm_Policy_hand_over_hand := ⟨cf_Policy_hand_over_hand, ⟨_, cn_Policy_hand_over_hand⟩, cw_Policy_hand_over_hand⟩,
    p_Policy_majority := p_Policy_majority,
    cm_Policy_majority := ⟨cf_Policy_majority, ⟨_, cn_Policy_majority⟩, cw_Policy_majority⟩,
    p_Policy_all_seen := p_Policy_all_seen,
    cm_Policy_all_seen := ⟨cf_Policy_all_seen, ⟨_, cn_Policy_all_seen⟩, cw_Policy_all_seen⟩,
    cr_Policy := ⟨rdc_Policy, gac_Policy⟩,
    ti_Policy := fun _ _ _ _ h => .ins h ⟨pg_Policy, hd_Policy, po_Policy, sa_Policy⟩ hca_Policy hcn_Policy hct_Policy hcm_Policy,
    kk_Policy := if_pos (beq_self_eq_true _),
    no_Policy_shape := no_Policy_shape,
    no_Policy__marks := no_Policy__marks,
    no_Policy__starts := no_Policy__starts,
    no_Policy__ways := no_Policy__ways,
    c_Shape := c_Shape,
    g_Shape := PySem.W.mg_of X G gc_Shape,
    cl_Shape := ⟨pg_Shape, hd_Shape, po_Shape, sa_Shape⟩,
    mk_Shape := ⟨mk_Shape, a_Shape_init, i_Shape_init, kc_Shape⟩,
    m_Shape_iter := ⟨a_Shape_iter, i_Shape_iter, k_Shape_iter⟩,
    m_Shape_len := ⟨a_Shape_len, i_Shape_len, k_Shape_len⟩,
    m_Shape_eq := ⟨a_Shape_eq, i_Shape_eq, k_Shape_eq⟩,
    ti_Shape := fun _ _ _ _ h => .ins h ⟨pg_Shape, hd_Shape, po_Shape, sa_Shape⟩ hca_Shape hcn_Shape hct_Shape hcm_Shape,
    kk_Shape := if_pos (beq_self_eq_true _),
    cr_Shape := ⟨rdc_Shape, gac_Shape⟩,
    tk_Shape_MARKS := ti_Shape_MARKS,
    cv_Shape_MARKS := ⟨fcl_Shape_MARKS, ⟨_, rfl⟩⟩,
    tk_Shape_PARENTS := ti_Shape_PARENTS,
    cv_Shape_PARENTS := ⟨fcl_Shape_PARENTS, ⟨_, rfl⟩⟩,
    no_Shape__listed := no_Shape__listed,
    no_Shape__marks := no_Shape__marks,
    kb_Way_init_4_early := Hkb_Way_init_4_early,
    kb_Way_init_1_early := Hkb_Way_init_1_early,
    kb_Way_init_1_owned := Hkb_Way_init_1_owned,
    kb_Way_init_1_owned_seen := Hkb_Way_init_1_owned_seen,
    kb_Policy_init_3 := Hkb_Policy_init_3,
    c_BadShape := c_BadShape,
    g_BadShape := PySem.W.mg_of X G gc_BadShape,
    c_UnknownMark := c_UnknownMark,
    g_UnknownMark := PySem.W.mg_of X G gc_UnknownMark,
    c_TooLarge := c_TooLarge,
    g_TooLarge := PySem.W.mg_of X G gc_TooLarge,
    x_BadShape := XT_BadShape,
    xc_BadShape := ⟨xga_BadShape, xgg_BadShape, xb_BadShape, xd_BadShape, xha_BadShape, x_hn, x_ht, xhm_BadShape⟩,
    xn_BadShape := xno_BadShape,
    x_UnknownMark := XT_UnknownMark,
    xc_UnknownMark := ⟨xga_UnknownMark, xgg_UnknownMark, xb_UnknownMark, xd_UnknownMark, xha_UnknownMark, x_hn, x_ht, xhm_UnknownMark⟩,
    xn_UnknownMark := xno_UnknownMark,
    x_TooLarge := XT_TooLarge,
    xc_TooLarge := ⟨xga_TooLarge, xgg_TooLarge, xb_TooLarge, xd_TooLarge, xha_TooLarge, x_hn, x_ht, xhm_TooLarge⟩,
    xn_TooLarge := xno_TooLarge }
  exact ⟨T.fd_law, fun s v => .of_eq rfl, fun base _ _ => ok_law T⟩
end My
open PySem PySem.W PyProof.Rows in
set_option maxRecDepth 100000 in
set_option maxHeartbeats 0 in
theorem PySem.Challenge.cw_weblocks_k24_ready_policies_holds : PySem.Challenge.rw_weblocks_k24_ready_policies.Holds := by
  refine My.hd ?_
  k_fill
  refine L2.walk_of (l := PySem.Challenge.rw_weblocks_k24_ready_policies) (n := 63) (k := 16) (x := "_law_script") (CX := fun _ => L2.CX0) (sp := fun w => My.spLaw _) rfl (by decide) rfl ⟨rfl, by decide, by decide⟩ (fun w h Y => PySem.W.kIn_of Y) ?F (fun _ _ a ns hl _ hS => ⟨a, ns, rfl, hS, hl, fun _ => rfl⟩) (fun _ _ _ _ _ h => h)
  case F =>
    intro w mg fa h KX G hmg
    refine' My.all_mk KX G hmg ?gc_Way ?gc_Policy ?gc_Shape ?a_rank ?l_rank ?c_rank ?k_rank ?a_Way_init ?l_Way_init ?c_Way_init ?k_Way_init ?lt_Way_init ?nk_Way_init_early ?a_Policy_init ?l_Policy_init ?c_Policy_init ?k_Policy_init ?lt_Policy_init ?le_Policy_init_0 ?a_Policy_iter ?l_Policy_iter ?c_Policy_iter ?k_Policy_iter ?a_Policy_len ?l_Policy_len ?c_Policy_len ?k_Policy_len ?a_Policy_getitem ?l_Policy_getitem ?c_Policy_getitem ?k_Policy_getitem ?a_Policy_setitem ?l_Policy_setitem ?c_Policy_setitem ?k_Policy_setitem ?pa_Policy_starts ?pr_Policy_starts ?pg_Policy_starts ?pt_Policy_starts ?l_Policy_starts ?c_Policy_starts ?k_Policy_starts ?cf_Policy_everywhere ?cn_Policy_everywhere ?cw_Policy_everywhere ?l_Policy_everywhere ?c_Policy_everywhere ?k_Policy_everywhere ?cf_Policy_two_phase ?cn_Policy_two_phase ?cw_Policy_two_phase ?l_Policy_two_phase ?c_Policy_two_phase ?k_Policy_two_phase ?cf_Policy_hand_over_hand ?cn_Policy_hand_over_hand ?cw_Policy_hand_over_hand ?l_Policy_hand_over_hand ?c_Policy_hand_over_hand ?k_Policy_hand_over_hand ?cf_Policy_majority ?cn_Policy_majority ?cw_Policy_majority ?l_Policy_majority ?c_Policy_majority ?k_Policy_majority ?cf_Policy_all_seen ?cn_Policy_all_seen ?cw_Policy_all_seen ?l_Policy_all_seen ?c_Policy_all_seen ?k_Policy_all_seen ?a_is_mark ?l_is_mark ?c_is_mark ?k_is_mark ?a_sound_row ?l_sound_row ?c_sound_row ?k_sound_row ?a_barren ?l_barren ?c_barren ?k_barren ?a_Shape_init ?l_Shape_init ?c_Shape_init ?k_Shape_init ?a_Shape_iter ?l_Shape_iter ?c_Shape_iter ?k_Shape_iter ?a_Shape_len ?l_Shape_len ?c_Shape_len ?k_Shape_len ?a_Shape_eq ?l_Shape_eq ?c_Shape_eq ?k_Shape_eq ?a__law_draws ?l__law_draws ?c__law_draws ?k__law_draws ?a__law_take ?l__law_take ?c__law_take ?k__law_take ?a__law_same ?l__law_same ?c__law_same ?k__law_same ?a__law_marks ?l__law_marks ?c__law_marks ?k__law_marks ?a__law_way ?l__law_way ?c__law_way ?k__law_way ?a__law_way_made ?l__law_way_made ?c__law_way_made ?k__law_way_made ?a__law_rule_same ?l__law_rule_same ?c__law_rule_same ?k__law_rule_same ?a__law_policy_same ?l__law_policy_same ?c__law_policy_same ?k__law_policy_same ?a__law_wide_rows ?l__law_wide_rows ?c__law_wide_rows ?k__law_wide_rows ?a__law_wide_shape ?l__law_wide_shape ?c__law_wide_shape ?k__law_wide_shape ?a__law_everywhere ?l__law_everywhere ?c__law_everywhere ?k__law_everywhere ?a_law ?l_law ?c_law ?k_law ?z_any ?z_bool ?z_classmethod ?z_enumerate ?z_int ?z_isinstance ?z_iter ?z_len ?z_list ?z_property ?z_range ?z_str ?z_tuple ?aq_LEVELS ?lq_LEVELS ?aq_LETTERS ?pg_Way ?hd_Way ?po_Way ?sa_Way ?kc_Way ?i_Way_init ?mk_Way ?hca_Way ?hcn_Way ?hct_Way ?hcm_Way ?no_Way_held ?no_Way_owned ?no_Way_seen ?no_Way_early ?pg_Policy ?hd_Policy ?po_Policy ?sa_Policy ?kc_Policy ?i_Policy_init ?mk_Policy ?i_Policy_iter ?i_Policy_len ?fi_Policy_getitem ?i_Policy_getitem ?nq_Policy ?i_Policy_setitem ?rdc_Policy ?gac_Policy ?hca_Policy ?hcn_Policy ?hct_Policy ?hcm_Policy ?no_Policy_shape ?no_Policy__marks ?no_Policy__starts ?no_Policy__ways ?pg_Shape ?hd_Shape ?po_Shape ?sa_Shape ?kc_Shape ?i_Shape_init ?mk_Shape ?i_Shape_iter ?i_Shape_len ?i_Shape_eq ?hca_Shape ?hcn_Shape ?hct_Shape ?hcm_Shape ?rdc_Shape ?gac_Shape ?fcl_Shape_MARKS ?fcl_Shape_PARENTS ?no_Shape__listed ?no_Shape__marks ?gc_BadShape ?gc_UnknownMark ?gc_TooLarge ?xz_super ?x_opq ?x_hn ?x_ht ?xl_BadShape ?xsa_BadShape ?xga_BadShape ?xgg_BadShape ?xno_BadShape ?xk_BadShape ?xb_BadShape ?xt_BadShape ?xd_BadShape ?xi_BadShape ?xf_BadShape ?xfl_BadShape ?xci_BadShape ?xcc_BadShape ?xcd_BadShape ?xvs_BadShape ?xfi_BadShape ?xnx_BadShape ?xsl_BadShape ?xsu_BadShape ?xha_BadShape ?xhm_BadShape ?xl_UnknownMark ?xsa_UnknownMark ?xga_UnknownMark ?xgg_UnknownMark ?xno_UnknownMark ?xk_UnknownMark ?xb_UnknownMark ?xt_UnknownMark ?xd_UnknownMark ?xi_UnknownMark ?xf_UnknownMark ?xfl_UnknownMark ?xci_UnknownMark ?xcc_UnknownMark ?xcd_UnknownMark ?xvs_UnknownMark ?xfi_UnknownMark ?xnx_UnknownMark ?xsl_UnknownMark ?xsu_UnknownMark ?xha_UnknownMark ?xhm_UnknownMark ?xl_TooLarge ?xsa_TooLarge ?xga_TooLarge ?xgg_TooLarge ?xno_TooLarge ?xk_TooLarge ?xb_TooLarge ?xt_TooLarge ?xd_TooLarge ?xi_TooLarge ?xf_TooLarge ?xfl_TooLarge ?xci_TooLarge ?xcc_TooLarge ?xcd_TooLarge ?xvs_TooLarge ?xfi_TooLarge ?xnx_TooLarge ?xsl_TooLarge ?xsu_TooLarge ?xha_TooLarge ?xhm_TooLarge
    (case gc_Way => k_is)
    (case gc_Policy => k_is)
    (case gc_Shape => k_is)
    (case a_rank => k_is)
    (case l_rank => k_is)
    (case c_rank => k_is)
    (case k_rank => k_is)
    (case a_Way_init => k_is)
    (case l_Way_init => k_is)
    (case c_Way_init => k_is)
    (case k_Way_init => k_is)
    (case lt_Way_init => k_is)
    (case nk_Way_init_early => k_is)
    (case a_Policy_init => k_is)
    (case l_Policy_init => k_is)
    (case c_Policy_init => k_is)
    (case k_Policy_init => k_is)
    (case lt_Policy_init => k_is)
    (case le_Policy_init_0 => k_is)
    (case a_Policy_iter => k_is)
    (case l_Policy_iter => k_is)
    (case c_Policy_iter => k_is)
    (case k_Policy_iter => k_is)
    (case a_Policy_len => k_is)
    (case l_Policy_len => k_is)
    (case c_Policy_len => k_is)
    (case k_Policy_len => k_is)
    (case a_Policy_getitem => k_is)
    (case l_Policy_getitem => k_is)
    (case c_Policy_getitem => k_is)
    (case k_Policy_getitem => k_is)
    (case a_Policy_setitem => k_is)
    (case l_Policy_setitem => k_is)
    (case c_Policy_setitem => k_is)
    (case k_Policy_setitem => k_is)
    (case pa_Policy_starts => k_is)
    (case pr_Policy_starts => k_is)
    (case pg_Policy_starts => k_is)
    (case pt_Policy_starts => k_is)
    (case l_Policy_starts => k_is)
    (case c_Policy_starts => k_is)
    (case k_Policy_starts => k_is)
    (case cf_Policy_everywhere => k_is)
    (case cn_Policy_everywhere => k_is)
    (case cw_Policy_everywhere => k_is)
    (case l_Policy_everywhere => k_is)
    (case c_Policy_everywhere => k_is)
    (case k_Policy_everywhere => k_is)
    (case cf_Policy_two_phase => k_is)
    (case cn_Policy_two_phase => k_is)
    (case cw_Policy_two_phase => k_is)
    (case l_Policy_two_phase => k_is)
    (case c_Policy_two_phase => k_is)
    (case k_Policy_two_phase => k_is)
    (case cf_Policy_hand_over_hand => k_is)
    (case cn_Policy_hand_over_hand => k_is)
    (case cw_Policy_hand_over_hand => k_is)
    (case l_Policy_hand_over_hand => k_is)
    (case c_Policy_hand_over_hand => k_is)
    (case k_Policy_hand_over_hand => k_is)
    (case cf_Policy_majority => k_is)
    (case cn_Policy_majority => k_is)
    (case cw_Policy_majority => k_is)
    (case l_Policy_majority => k_is)
    (case c_Policy_majority => k_is)
    (case k_Policy_majority => k_is)
    (case cf_Policy_all_seen => k_is)
    (case cn_Policy_all_seen => k_is)
    (case cw_Policy_all_seen => k_is)
    (case l_Policy_all_seen => k_is)
    (case c_Policy_all_seen => k_is)
    (case k_Policy_all_seen => k_is)
    (case a_is_mark => k_is)
    (case l_is_mark => k_is)
    (case c_is_mark => k_is)
    (case k_is_mark => k_is)
    (case a_sound_row => k_is)
    (case l_sound_row => k_is)
    (case c_sound_row => k_is)
    (case k_sound_row => k_is)
    (case a_barren => k_is)
    (case l_barren => k_is)
    (case c_barren => k_is)
    (case k_barren => k_is)
    (case a_Shape_init => k_is)
    (case l_Shape_init => k_is)
    (case c_Shape_init => k_is)
    (case k_Shape_init => k_is)
    (case a_Shape_iter => k_is)
    (case l_Shape_iter => k_is)
    (case c_Shape_iter => k_is)
    (case k_Shape_iter => k_is)
    (case a_Shape_len => k_is)
    (case l_Shape_len => k_is)
    (case c_Shape_len => k_is)
    (case k_Shape_len => k_is)
    (case a_Shape_eq => k_is)
    (case l_Shape_eq => k_is)
    (case c_Shape_eq => k_is)
    (case k_Shape_eq => k_is)
    (case a__law_draws => k_is)
    (case l__law_draws => k_is)
    (case c__law_draws => k_is)
    (case k__law_draws => k_is)
    (case a__law_take => k_is)
    (case l__law_take => k_is)
    (case c__law_take => k_is)
    (case k__law_take => k_is)
    (case a__law_same => k_is)
    (case l__law_same => k_is)
    (case c__law_same => k_is)
    (case k__law_same => k_is)
    (case a__law_marks => k_is)
    (case l__law_marks => k_is)
    (case c__law_marks => k_is)
    (case k__law_marks => k_is)
    (case a__law_way => k_is)
    (case l__law_way => k_is)
    (case c__law_way => k_is)
    (case k__law_way => k_is)
    (case a__law_way_made => k_is)
    (case l__law_way_made => k_is)
    (case c__law_way_made => k_is)
    (case k__law_way_made => k_is)
    (case a__law_rule_same => k_is)
    (case l__law_rule_same => k_is)
    (case c__law_rule_same => k_is)
    (case k__law_rule_same => k_is)
    (case a__law_policy_same => k_is)
    (case l__law_policy_same => k_is)
    (case c__law_policy_same => k_is)
    (case k__law_policy_same => k_is)
    (case a__law_wide_rows => k_is)
    (case l__law_wide_rows => k_is)
    (case c__law_wide_rows => k_is)
    (case k__law_wide_rows => k_is)
    (case a__law_wide_shape => k_is)
    (case l__law_wide_shape => k_is)
    (case c__law_wide_shape => k_is)
    (case k__law_wide_shape => k_is)
    (case a__law_everywhere => k_is)
    (case l__law_everywhere => k_is)
    (case c__law_everywhere => k_is)
    (case k__law_everywhere => k_is)
    (case a_law => k_is)
    (case l_law => k_is)
    (case c_law => k_is)
    (case k_law => k_is)
    (case z_any => k_is)
    (case z_bool => k_is)
    (case z_classmethod => k_is)
    (case z_enumerate => k_is)
    (case z_int => k_is)
    (case z_isinstance => k_is)
    (case z_iter => k_is)
    (case z_len => k_is)
    (case z_list => k_is)
    (case z_property => k_is)
    (case z_range => k_is)
    (case z_str => k_is)
    (case z_tuple => k_is)
    (case aq_LEVELS => k_is)
    (case lq_LEVELS => k_is)
    (case aq_LETTERS => k_is)
    (case pg_Way => k_is)
    (case hd_Way => k_is)
    (case po_Way => k_is)
    (case sa_Way => k_is)
    (case kc_Way => k_is)
    (case i_Way_init => k_is)
    (case mk_Way => k_is)
    (case hca_Way => k_is)
    (case hcn_Way => k_is)
    (case hct_Way => k_is)
    (case hcm_Way => k_is)
    (case no_Way_held => k_is)
    (case no_Way_owned => k_is)
    (case no_Way_seen => k_is)
    (case no_Way_early => k_is)
    (case pg_Policy => k_is)
    (case hd_Policy => k_is)
    (case po_Policy => k_is)
    (case sa_Policy => k_is)
    (case kc_Policy => k_is)
    (case i_Policy_init => k_is)
    (case mk_Policy => k_is)
    (case i_Policy_iter => k_is)
    (case i_Policy_len => k_is)
    (case fi_Policy_getitem => k_is)
    (case i_Policy_getitem => k_is)
    (case nq_Policy => k_is)
    (case i_Policy_setitem => k_is)
    (case rdc_Policy => k_is)
    (case gac_Policy => k_is)
    (case hca_Policy => k_is)
    (case hcn_Policy => k_is)
    (case hct_Policy => k_is)
    (case hcm_Policy => k_is)
    (case no_Policy_shape => k_is)
    (case no_Policy__marks => k_is)
    (case no_Policy__starts => k_is)
    (case no_Policy__ways => k_is)
    (case pg_Shape => k_is)
    (case hd_Shape => k_is)
    (case po_Shape => k_is)
    (case sa_Shape => k_is)
    (case kc_Shape => k_is)
    (case i_Shape_init => k_is)
    (case mk_Shape => k_is)
    (case i_Shape_iter => k_is)
    (case i_Shape_len => k_is)
    (case i_Shape_eq => k_is)
    (case hca_Shape => k_is)
    (case hcn_Shape => k_is)
    (case hct_Shape => k_is)
    (case hcm_Shape => k_is)
    (case rdc_Shape => k_is)
    (case gac_Shape => k_is)
    (case fcl_Shape_MARKS => k_is)
    (case fcl_Shape_PARENTS => k_is)
    (case no_Shape__listed => k_is)
    (case no_Shape__marks => k_is)
    (case gc_BadShape => k_is)
    (case gc_UnknownMark => k_is)
    (case gc_TooLarge => k_is)
    (case xz_super => k_is)
    (case x_opq => k_is)
    (case x_hn => k_is)
    (case x_ht => k_is)
    (case xl_BadShape => k_is)
    (case xsa_BadShape => k_is)
    (case xga_BadShape => k_is)
    (case xgg_BadShape => k_is)
    (case xno_BadShape => k_is)
    (case xk_BadShape => k_is)
    (case xb_BadShape => k_is)
    (case xt_BadShape => k_is)
    (case xd_BadShape => k_is)
    (case xi_BadShape => k_is)
    (case xf_BadShape => k_is)
    (case xfl_BadShape => k_is)
    (case xci_BadShape => k_is)
    (case xcc_BadShape => k_is)
    (case xcd_BadShape => k_is)
    (case xvs_BadShape => rfl)
    (case xfi_BadShape => first | rfl | decide +kernel)
    (case xnx_BadShape => ks_is)
    (case xsl_BadShape => k_is)
    (case xsu_BadShape => k_is)
    (case xha_BadShape => k_is)
    (case xhm_BadShape => k_is)
    (case xl_UnknownMark => k_is)
    (case xsa_UnknownMark => k_is)
    (case xga_UnknownMark => k_is)
    (case xgg_UnknownMark => k_is)
    (case xno_UnknownMark => k_is)
    (case xk_UnknownMark => k_is)
    (case xb_UnknownMark => k_is)
    (case xt_UnknownMark => k_is)
    (case xd_UnknownMark => k_is)
    (case xi_UnknownMark => k_is)
    (case xf_UnknownMark => k_is)
    (case xfl_UnknownMark => k_is)
    (case xci_UnknownMark => k_is)
    (case xcc_UnknownMark => k_is)
    (case xcd_UnknownMark => k_is)
    (case xvs_UnknownMark => rfl)
    (case xfi_UnknownMark => first | rfl | decide +kernel)
    (case xnx_UnknownMark => ks_is)
    (case xsl_UnknownMark => k_is)
    (case xsu_UnknownMark => k_is)
    (case xha_UnknownMark => k_is)
    (case xhm_UnknownMark => k_is)
    (case xl_TooLarge => k_is)
    (case xsa_TooLarge => k_is)
    (case xga_TooLarge => k_is)
    (case xgg_TooLarge => k_is)
    (case xno_TooLarge => k_is)
    (case xk_TooLarge => k_is)
    (case xb_TooLarge => k_is)
    (case xt_TooLarge => k_is)
    (case xd_TooLarge => k_is)
    (case xi_TooLarge => k_is)
    (case xf_TooLarge => k_is)
    (case xfl_TooLarge => k_is)
    (case xci_TooLarge => k_is)
    (case xcc_TooLarge => k_is)
    (case xcd_TooLarge => k_is)
    (case xvs_TooLarge => rfl)
    (case xfi_TooLarge => first | rfl | decide +kernel)
    (case xnx_TooLarge => ks_is)
    (case xsl_TooLarge => k_is)
    (case xsu_TooLarge => k_is)
    (case xha_TooLarge => k_is)
    (case xhm_TooLarge => k_is)
#print axioms PySem.Challenge.cw_weblocks_k24_ready_policies_holds
