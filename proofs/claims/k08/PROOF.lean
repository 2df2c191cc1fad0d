import PyProof.Rows.All
import Wide.All
import OpenK.AllK
import Wide.FinOn
import HandS.ForMost
import KE.GoesMore
import HandS.Codes
import HandS.IsInst
import HandS.Defaults
import HandS.MakeKw
import HandS.MakeKwOnly
import HandS.SlotsOwn
import PySem.Challenge.RW_weblocks_k08_trimmed_ways
set_option Elab.async false
set_option linter.all false
set_option maxRecDepth 100000
set_option maxHeartbeats 4000000
local macro_rules | `(tactic| walk_at "sd") => `(tactic| first | assumption | omega | decide | rfl | (refine And.intro ?_ ?_ <;> walk_at "sd") | (show _ < PySem.sizeLine; exact Nat.lt_of_le_of_lt (by omega : _ ≤ 100000) (by decide)) | (show _ ≤ PySem.sizeLine; exact Nat.le_trans (by omega : _ ≤ 100000) (by decide)))
local macro_rules | `(tactic| walk_at "hl") => `(tactic| first | assumption | exact L2.upd_same | (refine (L2.upd_ne ?_).trans ?_; (walk_at "ne"); (walk_at "hl")))
local macro_rules | `(tactic| walk_at "ne") => `(tactic| first | assumption | (apply Ne.symm; assumption) | (refine L2.ne_of_none ?_ (by assumption); walk_at "hl") | (apply Ne.symm; refine L2.ne_of_none ?_ (by assumption); walk_at "hl") | (refine L2.ne_of (o := L2.HO.lst _) (u := L2.HO.tup _) ?_ ?_ (by intro z; cases z) <;> walk_at "hl"))
local macro_rules | `(tactic| walk_at "sq") => `(tactic| first | assumption | exact .inl (.inl (by walk_at "hl")) | exact .inl (.inl (.inl (by walk_at "hl"))) | exact .inr (.inl (.inl (by walk_at "hl"))) | exact .inl (by assumption) | exact .inr (by assumption))
local macro_rules | `(tactic| walk_at "at") => `(tactic| first | assumption | exact rfl | exact L2.atI_nat (j := 0) rfl | exact L2.atI_nat (j := 1) rfl | exact L2.atI_nat (j := 2) rfl | exact L2.atI_nat (j := 3) rfl | exact L2.atI_nat rfl | exact L2.atI_nat (by assumption))
local macro_rules | `(tactic| walk_at "r1") => `(tactic| first
  | (refine ⟨_, rfl, ?_⟩)
  | (refine ⟨_, _, rfl, rfl, ?_⟩)
  | (refine ⟨_, _, _, _, rfl, rfl, (by walk_at "sq"), (by walk_at "at"), ?_⟩)
  | (refine ⟨_, _, rfl, (by walk_at "sq"), ?_⟩)
  | (refine ⟨.inl ⟨rfl, _, L2.SqL.of (by walk_at "hl")⟩, ?_⟩)
  | (refine ⟨_, _, _, rfl, rfl, (by walk_at "hl"), (by walk_at "sd"), ?_⟩)
  | (refine ⟨_, _, _, _, rfl, rfl, (by walk_at "hl"), rfl, ?_⟩)
  | (refine And.intro (by walk_at "sd") ?_)
  | (refine .inl ⟨_, rfl, ?_⟩))
local macro_rules | `(tactic| walk_at "rd") => `(tactic| repeat walk_at "r1")
/-! ### enumerate over a tuple -/
namespace PySem
open AutoSeq1 (wpAny_loadPart')
set_option maxHeartbeats 1000000 in
theorem meets_enumerate_newT (l : Addr) (items : Array Value) :
    Meets (Builtin.«enumerate.__new__» ⟨[.type "enumerate", .ref l], []⟩) (fun _ R s => s.heap.IsTuple l items ∧
      R (.ok (.ret (.ref (s.heap.push { cls := .type "tuple_iterator", data := .fields #[.ref l, .int 0 0] }).objs.size)))
        { s with heap := (s.heap.push { cls := .type "tuple_iterator", data := .fields #[.ref l, .int 0 0] }).push { cls := .type "enumerate", data := .fields #[.none, .bool false, .ref s.heap.objs.size, rawInt 0, .none, .none] } }) :=
  .of_wp fun prog w A R s h => by
    obtain ⟨hp, g, d, tk, os⟩ := s; obtain ⟨hL, h⟩ := h
    have hsub := sub_enumerate
    wp_walk using wpAny_pyIter_tuple hL
    refine wpAny_stack_any fun st => wpAny_pure ?_
    split
    · rename_i c _ _ _ _ _
      cases (c == Value.type "enumerate")
      · wp_walk using wpAny_pyIter_tuple hL
        exact ⟨_, rfl, h⟩
      · wp_walk using wpAny_pyIter_tuple hL
        exact ⟨_, rfl, h⟩
    · wp_walk using wpAny_pyIter_tuple hL
      exact ⟨_, rfl, h⟩
section
variable {prog : Program} {w : World} {A : Around} {E : Value → Shared → Prop} {s : Shared}
theorem call_enumerate_tup {l : Addr} {items : Array Value} {Q : Value → Shared → Prop} (hL : s.heap.IsTuple l items)
    (h : ∀ h', IsEnum h' (s.heap.objs.size + 1) s.heap.objs.size 0 .none → h'.IsTupleIter s.heap.objs.size l 0 → h'.objs.size = s.heap.objs.size + 2 →
      (∀ b o, s.heap.get? b = some o → h'.get? b = some o) → Q (.ref (s.heap.objs.size + 1)) { s with heap := h' }) :
    wpAny (model prog w) A (call (.type "enumerate") [.ref l]) Q E s := by
  refine callType_new F.called_enumerate (by decide) (F.typeCall_enumerate_1 _) (F.newCall_enumerate_1 _) (fun obj => F.args_object_init_2 obj _) F.entry_enumerate_new
    (meets_enumerate_newT l items) ⟨hL, ?_⟩
  have hz : (s.heap.push { cls := .type "tuple_iterator", data := .fields #[.ref l, .int 0 0] }).objs.size = s.heap.objs.size + 1 := Heap.size_push ..
  show _ ∧ _
  rw [hz]
  have he : IsEnum ((s.heap.push { cls := .type "tuple_iterator", data := .fields #[.ref l, .int 0 0] }).push
      { cls := .type "enumerate", data := .fields #[.none, .bool false, .ref s.heap.objs.size, rawInt 0, .none, .none] }) (s.heap.objs.size + 1) s.heap.objs.size 0 .none := by
    have := Heap.get?_push_size (s.heap.push { cls := .type "tuple_iterator", data := .fields #[.ref l, .int 0 0] })
      (o := { cls := .type "enumerate", data := .fields #[.none, .bool false, .ref s.heap.objs.size, rawInt 0, .none, .none] }) rfl
    rw [hz] at this; exact this
  refine ⟨⟨_, he, rfl⟩, h _ he ⟨_, Heap.get?_push_of_some _ (Heap.get?_push_size _ rfl), rfl, rfl⟩ (by rw [Heap.size_push, hz]) fun b o x => Heap.get?_push_of_some _ (Heap.get?_push_of_some _ x)⟩
/-- next of an enumerate whose tuple is at its end -/
theorem wpAny_pyNext_enum_endU {e it l : Addr} {i : Nat} {items : Array Value} {old : Value} {Q : Option Value → Shared → Prop} (hh : A.handled = none) (he : IsEnum s.heap e it i old)
    (hit : s.heap.IsTupleIter it l i) (hl : s.heap.IsTuple l items) (hx : items[i]? = none) (hQ : ∀ h', Heap.ExtBut it s.heap h' → Q none { s with heap := h' }) : wpAny (model prog w) A (pyNext (.ref e)) Q E s := by
  have hT : s.TypeIs (.ref e) "enumerate" := ⟨_, he, rfl⟩
  unfold pyNext
  refine wpAny_bind (wpAny_attempt (wpAny_callSpecial?_slot (name := Str.ofString "__next__") hT F.slot_enumerate_next (wpAny_call_entry F.slot_enumerate_next hT F.entry_enumerate_next ?_ (F.args_enumerate_next_1 _))))
  show wpAny _ _ (field (.ref e) 2 >>= _) _ _ _
  refine wpAny_bind (wpAny_field he rfl (x := .ref it) rfl (wpAny_bind (wpAny_nextOf_tuple_end hh hit hl hx fun h' x he' ⟨o, ho, hc⟩ => ?_)))
  exact wpAny_bind (wpAny_isInstance (T := "StopIteration") (b := true) ⟨o, ho, hc⟩ isSubtype_stop (wpAny_pure (hQ _ he')))
end
end PySem
namespace L2
open PySem PySem.Spec PyProof.Rows
/-- the tuple at a, each item in a new pair -/
def ItuE (K : PySem.W.Frag) (a : Addr) : It :=
  ⟨fun i H => ∃ (xs : List V) (x : V), SqT K H a xs ∧ xs[i]? = some x, fun i H v H' => ∃ T x, v = .ref T ∧ H T = none ∧ H' = upd H T (.tup [.int (i : Nat), x]) ∧ ∀ xs, SqT K H a xs → xs[i]? = some x, fun i H => ∃ xs : List V, SqT K H a xs ∧ xs.length ≤ i⟩
theorem turn_enumT {P : Program} {w : World} {K : PySem.W.Frag} {elts : List Expr} {kk : Nat} {tpos : Pos} (a e it : Addr) :
    Turn P w K (.Tuple elts kk tpos) (ItuE K a) [e, it] e (fun i h => (∃ old, IsEnum h e it ((i : Nat) : Int) old) ∧ h.IsTupleIter it a i ∧ e ≠ it ∧ a ≠ it ∧ a ≠ e) where
  mem := by simp
  obj := fun i h st b hb => by
    obtain ⟨⟨old, he⟩, ⟨o, ho, hc, hd⟩, _⟩ := st
    have e' : b = e ∨ b = it := by simpa using hb
    rcases e' with z | z
    · rw [z]; exact ⟨_, he, fun v q => nomatch q⟩
    · rw [z]; exact ⟨o, ho, fun v q => by rw [hd] at q; cases q⟩
  keep := fun i h h' st k => let ⟨⟨old, he⟩, hi, hne⟩ := st; ⟨⟨old, k e (by simp) _ he⟩, hi.at fun o q => k it (by simp) o q, hne⟩
  item := by
    intro X hP hw hK hc i pins s σ H E I hf st hg
    subst hP hw hK
    obtain ⟨⟨old, he⟩, hit, hne, hai, hae⟩ := st
    obtain ⟨xs, x, hq, hx⟩ := hg
    obtain ⟨its, rv, p, hz⟩ := I.tuple hq
    obtain ⟨u, hu, ru⟩ := rv.get hx
    have hel : e < s.heap.objs.size := Heap.lt_size he
    have hil : it < s.heap.objs.size := by obtain ⟨_, q, _⟩ := hit; exact Heap.lt_size q
    have hlen : i < its.toArray.size := by
      have := (List.getElem?_eq_some_iff.mp hu).1
      simpa using this
    have hT0 : s.heap.IsTuple a its.toArray := p
    refine wpAny_pyNext_enum_itemD (Draws.tuple (prog := X.prog) (w := X.w) (A := X.A.in1) (show X.A.in1.handled = none from I.ok.hd hc) it a hai its.toArray) he ⟨hit, hT0⟩ hlen hne (by simp [hne, Ne.symm hae]) fun y h' tk hy ho hst' hT hsz hk => ?_
    have ey : y = u := by
      have q : its[i]? = some y := by simpa using hy
      exact Option.some.inj (q.symm.trans hu)
    subst ey
    obtain ⟨hit', _⟩ := hst'
    refine ⟨_, rfl, wpAny_letOwnedTupleGo_enum (s := { s with heap := h', toks := tk + 1 }) ho fun h'' he' sb => ?_⟩
    have hT2 : h''.get? s.heap.objs.size = some { cls := .type "tuple", data := .seq #[.int i tk, y] } := (sb.2 _ (Nat.ne_of_gt hel)).trans hT
    have new : ObjOk X.prog X.w (upd H s.heap.objs.size (.tup [.int (i : Nat), x])) h'' s.heap.objs.size (.tup [.int (i : Nat), x]) :=
      ⟨by show 2 ≤ sizeLine; decide, [.int i tk, y], .cons ⟨_, rfl⟩ (.cons ru .nil), ⟨_, hT2, rfl, _, rfl⟩⟩
    have I1 : Inv X pins σ (upd H s.heap.objs.size (.tup [.int (i : Nat), x])) { s with heap := h'', toks := tk + 1 } :=
      I.turnedNew (ch := [e, it]) (fun b ob hb q => (sb.2 b (fun z => hb (by simp [z]))).trans (hk b ob (fun z => hb (by simp [z])) (fun z => hb (by simp [z])) q)) hf (Nat.le_refl _) new
    refine ⟨.ref s.heap.objs.size, _, I1, rfl, ⟨_, x, rfl, I.hok.fresh (Nat.le_refl _), rfl, fun ys hy => by rw [I.tuple_inj hy hq]; exact hx⟩, ⟨⟨y, ?_⟩, hit'.at fun o q => (sb.2 it (Ne.symm hne)).trans q, hne, hai, hae⟩, fun b hb => ?_⟩
    · have e1 : ((i + 1 : Nat) : Int) = (i : Int) + 1 := by omega
      rw [e1]; exact he'
    · have hb' : b < s.heap.objs.size := by
        have e' : b = e ∨ b = it := by simpa using hb
        rcases e' with z | z
        · rw [z]; exact hel
        · rw [z]; exact hil
      rw [upd_ne (Nat.ne_of_lt hb')]
      exact (hf b hb).1
  done := by
    intro X hP hw hK hc i pins s σ H E I hf st hg
    subst hP hw hK
    obtain ⟨⟨old, he⟩, hit, hne, hai, hae⟩ := st
    obtain ⟨xs, hq, hx⟩ := hg
    obtain ⟨its, rv, p, hz⟩ := I.tuple hq
    obtain ⟨f0, f1, f2, f3, f4, f5⟩ := hf it (by simp)
    have hl := rv.length
    have hT0 : s.heap.IsTuple a its.toArray := p
    exact wpAny_pyNext_enum_endU (I.ok.hd hc) he hit hT0 (by simp; omega) fun h' eb => ⟨rfl, I.turned (t' := s.toks) (fun b o hb q => eb b o hb q) f0 f1 f3 f4 f5⟩
  self := fun A i s Q E st h => let ⟨⟨_, he⟩, _⟩ := st; wpAny_pyIter_enum he h
def iEnumT (K : PySem.W.Frag) (ta : TA) : TI := fun σ H R => ta σ H fun vs H1 => ∃ a xs, vs = [.ref a] ∧ SqT K H1 a xs ∧ R (ItuE K a) H1
theorem pi_enumT {X : Cx} {e : Expr} {ta : TA} {p pos tpos : Pos} {elts : List Expr} {kk : Nat} (hg : Gl X "enumerate") (hm : X.mg "enumerate" = none) (ha : PA X [e] ta) (hs : starEach [e] X.env = [(false, eval e X.env)] := by rfl) :
    PI X (.Tuple elts kk tpos) (.Call (.Name "enumerate" p) [e] [] pos) (iEnumT X.K ta) := by
  refine ⟨fun pins s σ H R I h => ?_⟩
  refine Call_ (ld_blt I hg hm boot_enumerate (PyProof.Rows.callWith_type1 (thn (ha.run pos pins s σ H _ I h) fun us s1 ⟨vs, H1, I1, r1, q1⟩ => ?_) hs rfl))
  obtain ⟨a, xs, ex, hq, q⟩ := q1
  subst ex
  cases r1 with
  | cons r rr =>
    cases rr
    cases r
    obtain ⟨its, rv, p', hz⟩ := I1.tuple hq
    have hT0 : s1.heap.IsTuple a its.toArray := p'
    have hal : a < s1.heap.objs.size := by obtain ⟨_, q, _⟩ := hT0; exact Heap.lt_size q
    refine call_enumerate_tup hT0 fun h' he hit hsz hk => wpAny_pyIter_enum he ?_
    have I2 : Inv X pins σ H1 { s1 with heap := h' } := I1.kept (t' := s1.toks) hk
    refine ⟨s1.heap.objs.size + 1, [s1.heap.objs.size + 1, s1.heap.objs.size], _, _, H1, rfl, I2, turn_enumT a (s1.heap.objs.size + 1) s1.heap.objs.size, ⟨⟨.none, he⟩, hit, Nat.succ_ne_self _, Nat.ne_of_lt hal, Nat.ne_of_lt (Nat.lt_succ_of_lt hal)⟩, fun b hb => ?_, q⟩
    have e' : b = s1.heap.objs.size + 1 ∨ b = s1.heap.objs.size := by simpa using hb
    have hle : s1.heap.objs.size ≤ b := by
      rcases e' with z | z
      · rw [z]; exact Nat.le_add_right _ _
      · rw [z]; exact Nat.le_refl _
    exact I1.fpOk hle (I1.hok.fresh hle)
end L2
namespace L2
open PySem PySem.Spec PyProof.Rows
theorem for_enumT {K : PySem.W.Frag} {a : Addr} {xs : List V} {g : TG} {tb : TS} {D : Ends} {σ : St} {H : Hp} (Pv : Nat → St → Hp → Prop) (h0 : Pv 0 σ H) (hl : ∀ i σ H, i ≤ xs.length → Pv i σ H → SqT K H a xs)
    (hs : ∀ i x σ H T, xs[i]? = some x → Pv i σ H → H T = none → g (.ref T) σ (upd H T (.tup [.int (i : Nat), x])) fun σ2 H2 => tb { D with nx := Pv (i + 1), ct := Pv (i + 1), bk := D.nx } σ2 H2)
    (hd : ∀ σ H, Pv xs.length σ H → D.nx σ H) :
    ∃ W : Nat → Nat → St → Hp → Prop, (∃ m, W 0 m σ H) ∧ ∀ i m σ H, W i m σ H →
      ((ItuE K a).stop i H ∧ D.nx σ H) ∨ ((ItuE K a).go i H ∧ ∃ N : St → Hp → Prop, (∀ σ' H', N σ' H' → ∃ m', m' < m ∧ W (i + 1) m' σ' H') ∧ ∀ x H', (ItuE K a).yld i H x H' → g x σ H' fun σ2 H2 => tb { D with nx := N, ct := N, bk := D.nx } σ2 H2) := by
  refine ⟨fun i m σ H => m = xs.length - i ∧ i ≤ xs.length ∧ Pv i σ H, ⟨xs.length, by simp, Nat.zero_le _, h0⟩, fun i m σ H hW => ?_⟩
  obtain ⟨em, hi, p⟩ := hW
  have q := hl i σ H hi p
  by_cases hlt : i < xs.length
  · refine .inr ⟨⟨xs, xs[i], q, List.getElem?_eq_getElem hlt⟩, Pv (i + 1), fun σ' H' p' => ⟨xs.length - (i + 1), by omega, rfl, hlt, p'⟩, fun x H' y => ?_⟩
    obtain ⟨T, x', ev, nT, eH, hx⟩ := y
    subst ev eH
    exact hs i x' σ H T (hx xs q) p nT
  · have ei : i = xs.length := by omega
    subst ei
    exact .inl ⟨⟨xs, q, Nat.le_refl _⟩, hd σ H p⟩
end L2

namespace L2
open PySem PySem.Spec PyProof.Rows
theorem for_enumL {K : PySem.W.Frag} {a : Addr} {xs : List V} {g : TG} {tb : TS} {D : Ends} {σ : St} {H : Hp} (Pv : Nat → St → Hp → Prop) (h0 : Pv 0 σ H) (hl : ∀ i σ H, i ≤ xs.length → Pv i σ H → SqL K H a xs)
    (hs : ∀ i x σ H T, xs[i]? = some x → Pv i σ H → H T = none → g (.ref T) σ (upd H T (.tup [.int (i : Nat), x])) fun σ2 H2 => tb { D with nx := Pv (i + 1), ct := Pv (i + 1), bk := D.nx } σ2 H2)
    (hd : ∀ σ H, Pv xs.length σ H → D.nx σ H) :
    ∃ W : Nat → Nat → St → Hp → Prop, (∃ m, W 0 m σ H) ∧ ∀ i m σ H, W i m σ H →
      ((Ite K a).stop i H ∧ D.nx σ H) ∨ ((Ite K a).go i H ∧ ∃ N : St → Hp → Prop, (∀ σ' H', N σ' H' → ∃ m', m' < m ∧ W (i + 1) m' σ' H') ∧ ∀ x H', (Ite K a).yld i H x H' → g x σ H' fun σ2 H2 => tb { D with nx := N, ct := N, bk := D.nx } σ2 H2) := by
  refine ⟨fun i m σ H => m = xs.length - i ∧ i ≤ xs.length ∧ Pv i σ H, ⟨xs.length, by simp, Nat.zero_le _, h0⟩, fun i m σ H hW => ?_⟩
  obtain ⟨em, hi, p⟩ := hW
  have q := hl i σ H hi p
  by_cases hlt : i < xs.length
  · refine .inr ⟨⟨xs, xs[i], q, List.getElem?_eq_getElem hlt⟩, Pv (i + 1), fun σ' H' p' => ⟨xs.length - (i + 1), by omega, rfl, hlt, p'⟩, fun x H' y => ?_⟩
    obtain ⟨T, x', ev, nT, eH, hx⟩ := y
    subst ev eH
    exact hs i x' σ H T (hx xs q) p nT
  · have ei : i = xs.length := by omega
    subst ei
    exact .inl ⟨⟨xs, q, Nat.le_refl _⟩, hd σ H p⟩
end L2

namespace L2
open PySem PySem.Spec PyProof.Rows
/-! ### o.m(e, .., k = v, ..) -/
def tMethN (C : Addr) (m : Str) (n j : Nat) (sp : Sp) (gV : List V → List V → List V) (E : XK) (ta : TE) (t tk : TA) : TE := fun σ H Q => ta σ H fun x H1 => ∃ a dx fs, x = .ref a ∧ H1 a = some (.ins C dx fs) ∧ fs.lookup m = none ∧
  t σ H1 fun vs H2 => tk σ H2 fun zs H3 => vs.length + 1 = n ∧ zs.length = j ∧ sp (gV (x :: vs) zs) H3 Q E
section
variable {X : Cx} {CX : CXT} {k n : Nat} {f C : Addr} {fd : FuncData} {ps ks : List Str} {sp : Sp} {E : XK} {m : Str} {pos apos : Pos} {e o : Expr} {es : List Expr} {kws : List Keyword} {ta : TE} {t tk : TA} {g : List Value → List Value → List Value} {gV : List V → List V → List V}
theorem pe_methN {pl : Sem Bool} (he : PE X o ta) (c : Cls X.K C) (hm : Meth X.K C m f) (F : FnOk X.prog X.w X.K X.mg X.base CX k f fd ps sp) (hr : Room k X.A) (hb : KBn X.K fd ps n ks g gV) (hx : Passes CX X E) (ha : PA X (e :: es) t) (hkw : PK X kws tk)
    (hall : (backToKw pos (keywordEach kws X.env)).all (·.1.isSome) = true := by rfl) (hks : (backToKw pos (keywordEach kws X.env)).filterMap (·.1) = ks := by rfl)
    (hst : starEach (e :: es) X.env = (false, eval e X.env) :: starEach es X.env := by rfl)
    (hpl : ((backTo pos (starEach (e :: es) X.env)).any (·.1) || (backToKw pos (keywordEach kws X.env)).any (·.1.isNone)) = false := by rfl)
    (ht : eval (.Call (.Attribute o m apos) (e :: es) kws pos) X.env = (do
      let ov ← eval o X.env
      standAt apos.atName
      let (f, first) ← holding [ov] (getMethod ov m pl)
      callWith pos f first (backTo pos (starEach (e :: es) X.env)) (backToKw pos (keywordEach kws X.env))) := by rfl) :
    PE X (.Call (.Attribute o m apos) (e :: es) kws pos) (tMethN C m n ks.length sp gV E ta t tk) := by
  refine ⟨fun pins s σ H Q I h => PySem.W.methodCall_KW (pl := pl) (thn (he.run pins s σ H _ I h) fun u s1 ⟨x, H1, I1, rx, a, dx, fs, ex, ea, l, q⟩ => ?_) ht⟩
  subst ex
  obtain rfl : u = Value.ref a := rx
  refine getmeth_ok I1 ea c hm l ?_
  refine PySem.W.callWith_KW (first := [.ref a]) (h₀ := X.base) I.ok.mod.kin hm.kp hall (thn (ha.run pos pins s1 σ H1 _ I1 q) fun us s2 ⟨vs, H2, I2, r, q2⟩ => ?_) hpl hst
  refine thn (hkw.run pos pins s2 σ H2 _ I2 q2) fun ws s3 ⟨zs, H3, I3, rz, l1, l2, q3⟩ => ⟨I3.kIn, ?_⟩
  rw [hks]
  exact run_fnN (us := .ref a :: us) (vs := .ref a :: vs) F hr hb hx I3 (.cons rfl r) rz l1 l2 q3
end
section
variable {P : Program} {w : World} {K : PySem.W.Frag} {mg : Str → Option Value} {base : Heap} {x qual : Str} {params : Arguments} {body : List Stmt} {scope : Scope} {dvs : List V} {kws : List (Str × V)} {f : Addr} {fd : FuncData}
/-- a def with defaults that lets nothing out -/
theorem FunD.ok0 {N ps : List Str} {k : Nat} {sp : Sp} (F : FunD K x qual params body scope dvs kws f fd) (S : FnScope N ps scope) (len : ∀ vs H Q E, sp vs H Q E → vs.length = ps.length)
    (hb : ∀ (cdv : Value) (A : Around) (outer : List Env) (s : Shared) (H : Hp) (vs : List V) (Q : VK) (E : XK), Room k (A.deeper (envOfC qual scope s.heap.objs.size f cdv)) → sp vs H Q E →
      ∃ t, PSs (cxOf CX0 P w K mg base N qual scope f cdv A outer s H E).nox body t ∧ t { nx := fun _ H' => Q .non H', rt := Q } (start N vs) H) : FnOk P w K mg base CX0 (k + 1) f fd ps sp :=
  F.ok S len fun cdv A outer s H vs Q E hr h => (hb cdv A outer s H vs Q E hr h).elim fun t ⟨h1, h2⟩ => ⟨t, h1.nox, h2⟩
end
end L2

namespace L2
open PySem PySem.Spec PyProof.Rows
/-! ### x op y by an own def of the class of both -/
def rOwnI (C : Addr) (sp : Sp) (E : XK) : R2 := fun x y H Q => ∃ a dx fs b dy gs, x = .ref a ∧ y = .ref b ∧ H a = some (.ins C dx fs) ∧ H b = some (.ins C dy gs) ∧ sp [x, y] H Q E
section
variable {X : Cx} {CX : CXT} {n : Nat} {C g : Addr} {fd : FuncData} {ps : List Str} {sp : Sp} {E : XK}
theorem op_cmpI {op : CmpOp} (hop : ∀ a b, compareOp op a b = richCompare op a b) (hs : PySem.W.findIn X.K (.ref C) (cmpInfo op).2.1 = some (some (.ref g))) (hf : PySem.W.isFn X.K (.ref g) = true)
    (F : FnOk X.prog X.w X.K X.mg X.base CX n g fd ps sp) (hr : Room n X.A) (hb : Binds X.K fd ps []) (hx : Passes CX X E) : OpR X (compareOp op) (rOwnI C sp E) := by
  intro pins s σ H x y v u Q I rx ry h
  obtain ⟨a, dx, fs, b, dy, gs, rfl, rfl, ha, hb', q⟩ := h
  cases rx
  cases ry
  obtain ⟨mA, J, _⟩ := ins_get I.hok ha
  obtain ⟨mB, J', _⟩ := ins_get I.hok hb'
  obtain ⟨od, J, _⟩ := J.look
  obtain ⟨od', J', _⟩ := J'.look
  obtain ⟨m, hF⟩ := I.fr
  rw [hop]
  refine PySem.W.cmp_K (op := op) (tb := .ref C) hr.units0 hF I.ok.mod.kin J J'.type (by simp [PySem.W.notFirst]) hs hf ?_
  refine wpAny_mono (run_fn (us := [.ref a, .ref b]) (vs := [.ref a, .ref b]) (dvs := []) F hr hb .nil hx I (.cons rfl (.cons rfl .nil)) q) (fun w s' z => ?_) fun _ _ x => x
  obtain ⟨z', H', I', rz, qz⟩ := z
  exact SlX.cmpback rz ⟨z', H', I', rz, qz⟩
theorem op_binI {op : Operator} (hc : PySem.W.selfFirst X.K C = true) (hs : PySem.W.findIn X.K (.ref C) (PySem.dunder op.info.2) = some (some (.ref g))) (hf : PySem.W.isFn X.K (.ref g) = true)
    (F : FnOk X.prog X.w X.K X.mg X.base CX n g fd ps sp) (hr : Room n X.A) (hb : Binds X.K fd ps []) (hx : Passes CX X E) : OpR X (binaryOp op) (rOwnI C sp E) := by
  intro pins s σ H x y v u Q I rx ry h
  obtain ⟨a, dx, fs, b, dy, gs, rfl, rfl, ha, hb', q⟩ := h
  cases rx
  cases ry
  obtain ⟨mA, J, _⟩ := ins_get I.hok ha
  obtain ⟨mB, J', _⟩ := ins_get I.hok hb'
  obtain ⟨od, J, _⟩ := J.look
  obtain ⟨od', J', _⟩ := J'.look
  obtain ⟨m, hF⟩ := I.fr
  refine PySem.W.binop_K (op := op) hF I.ok.mod.kin J J'.type hc hs hf ?_
  refine wpAny_mono (run_fn (us := [.ref a, .ref b]) (vs := [.ref a, .ref b]) (dvs := []) F hr hb .nil hx I (.cons rfl (.cons rfl .nil)) q) (fun w s' z => ?_) fun _ _ x => x
  obtain ⟨z', H', I', rz, qz⟩ := z
  exact SlX.cmpback rz ⟨z', H', I', rz, qz⟩
end
end L2

namespace My
open PySem L2
def topS (i : Nat) : Stmt := PySem.Challenge.pw_weblocks_k08_trimmed_ways.main.body.getD i (.Pass ⟨0, 0, 0, 0⟩)
abbrev S_rank : Stmt := topS 7
abbrev S_Way_init : Stmt := inClass (topS 11) 1
abbrev S_Way_eq : Stmt := inClass (topS 11) 5
abbrev S_Way_le : Stmt := inClass (topS 11) 6
abbrev S_trimmed : Stmt := topS 13
abbrev S__law_draws : Stmt := topS 15
abbrev S__law_take : Stmt := topS 16
abbrev S__law_same : Stmt := topS 17
abbrev S__law_way : Stmt := topS 18
abbrev S__law_way_made : Stmt := topS 19
abbrev S__law_adjusted : Stmt := topS 20
abbrev S__law_second : Stmt := topS 21
abbrev S__law_below : Stmt := topS 22
abbrev S__law_fields : Stmt := topS 23
abbrev S__law_words : Stmt := topS 24
abbrev S__law_row : Stmt := topS 25
abbrev S__law_left : Stmt := topS 26
abbrev S__law_alike : Stmt := topS 27
abbrev S_law : Stmt := topS 28
theorem sc_rank : FnScope ["level", "place", "word"] ["level"] (defScope S_rank) := ⟨rfl, rfl, rfl, by decide +kernel, rfl, by decide +kernel, by decide +kernel⟩
theorem sc_Way_init : FnScope ["self", "held", "owned", "seen", "early", "by_held", "by_owned", "by_seen"] ["self", "held", "owned", "seen", "early"] (defScope S_Way_init) := ⟨rfl, rfl, rfl, by decide +kernel, rfl, by decide +kernel, by decide +kernel⟩
theorem sc_Way_eq : FnScope ["self", "other"] ["self", "other"] (defScope S_Way_eq) := ⟨rfl, rfl, rfl, by decide +kernel, rfl, by decide +kernel, by decide +kernel⟩
theorem sc_Way_le : FnScope ["self", "other"] ["self", "other"] (defScope S_Way_le) := ⟨rfl, rfl, rfl, by decide +kernel, rfl, by decide +kernel, by decide +kernel⟩
theorem sc_trimmed : FnScope ["ways", "kept", "place", "way", "covered", "other_place", "other"] ["ways"] (defScope S_trimmed) := ⟨rfl, rfl, rfl, by decide +kernel, rfl, by decide +kernel, by decide +kernel⟩
theorem sc__law_draws : FnScope ["_law_script", "_law_draws_here", "_law_cell", "_law_rest", "_law_k", "_law_mixed"] ["_law_script"] (defScope S__law_draws) := ⟨rfl, rfl, rfl, by decide +kernel, rfl, by decide +kernel, by decide +kernel⟩
theorem sc__law_take : FnScope ["_law_draws_here", "_law_at", "_law_size"] ["_law_draws_here", "_law_at", "_law_size"] (defScope S__law_take) := ⟨rfl, rfl, rfl, by decide +kernel, rfl, by decide +kernel, by decide +kernel⟩
theorem sc__law_same : FnScope ["_law_actual", "_law_expected", "_law_k"] ["_law_actual", "_law_expected"] (defScope S__law_same) := ⟨rfl, rfl, rfl, by decide +kernel, rfl, by decide +kernel, by decide +kernel⟩
theorem sc__law_way : FnScope ["_law_draws_here", "_law_at", "_law_menu", "_law_choice", "_law_owned", "_law_held", "_law_seen"] ["_law_draws_here", "_law_at"] (defScope S__law_way) := ⟨rfl, rfl, rfl, by decide +kernel, rfl, by decide +kernel, by decide +kernel⟩
theorem sc__law_way_made : FnScope ["_law_way_here", "_law_words_here"] ["_law_way_here"] (defScope S__law_way_made) := ⟨rfl, rfl, rfl, by decide +kernel, rfl, by decide +kernel, by decide +kernel⟩
theorem sc__law_adjusted : FnScope ["_law_ranks", "_law_held", "_law_seen"] ["_law_ranks"] (defScope S__law_adjusted) := ⟨rfl, rfl, rfl, by decide +kernel, rfl, by decide +kernel, by decide +kernel⟩
theorem sc__law_second : FnScope ["_law_draws_here", "_law_at", "_law_first", "_law_change", "_law_ranks"] ["_law_draws_here", "_law_at", "_law_first"] (defScope S__law_second) := ⟨rfl, rfl, rfl, by decide +kernel, rfl, by decide +kernel, by decide +kernel⟩
theorem sc__law_below : FnScope ["_law_one", "_law_two"] ["_law_one", "_law_two"] (defScope S__law_below) := ⟨rfl, rfl, rfl, by decide +kernel, rfl, by decide +kernel, by decide +kernel⟩
theorem sc__law_fields : FnScope ["_law_way_here"] ["_law_way_here"] (defScope S__law_fields) := ⟨rfl, rfl, rfl, by decide +kernel, rfl, by decide +kernel, by decide +kernel⟩
theorem sc__law_words : FnScope ["_law_ranks", "_law_words_here"] ["_law_ranks"] (defScope S__law_words) := ⟨rfl, rfl, rfl, by decide +kernel, rfl, by decide +kernel, by decide +kernel⟩
theorem sc__law_row : FnScope ["_law_draws_here", "_law_at", "_law_row_here", "_law_k", "_law_back"] ["_law_draws_here", "_law_at"] (defScope S__law_row) := ⟨rfl, rfl, rfl, by decide +kernel, rfl, by decide +kernel, by decide +kernel⟩
theorem sc__law_left : FnScope ["_law_row_here", "_law_left_here", "_law_k", "_law_covered", "_law_j"] ["_law_row_here"] (defScope S__law_left) := ⟨rfl, rfl, rfl, by decide +kernel, rfl, by decide +kernel, by decide +kernel⟩
theorem sc__law_alike : FnScope ["_law_ways", "_law_row_here", "_law_k"] ["_law_ways", "_law_row_here"] (defScope S__law_alike) := ⟨rfl, rfl, rfl, by decide +kernel, rfl, by decide +kernel, by decide +kernel⟩
theorem sc_law : FnScope ["_law_script", "_law_draws_here", "_law_at", "_law_row_here", "_law_due", "_law_ways", "_law_ranks", "_law_told", "_law_again", "_law_further"] ["_law_script"] (defScope S_law) := ⟨rfl, rfl, rfl, by decide +kernel, rfl, by decide +kernel, by decide +kernel⟩
structure Txt (K : PySem.W.Frag) (mg : Str → Option Value) where
  a_rank : Addr
  fd_rank : FuncData
  F_rank : Fun K "rank" "rank" S_rank a_rank fd_rank
  b_rank : Binds K fd_rank ["level"] []
  g_rank : mg "rank" = some (.ref a_rank)
  a_Way_init : Addr
  fd_Way_init : FuncData
  F_Way_init : FunD K "__init__" "Way.__init__" (defArgs S_Way_init) (defBody S_Way_init) (defScope S_Way_init) [.str "none", .str "none", .str "none"] [("early", .bl false)] a_Way_init fd_Way_init
  a_Way_eq : Addr
  fd_Way_eq : FuncData
  F_Way_eq : Fun K "__eq__" "Way.__eq__" S_Way_eq a_Way_eq fd_Way_eq
  b_Way_eq : Binds K fd_Way_eq ["self", "other"] []
  a_Way_le : Addr
  fd_Way_le : FuncData
  F_Way_le : Fun K "__le__" "Way.__le__" S_Way_le a_Way_le fd_Way_le
  b_Way_le : Binds K fd_Way_le ["self", "other"] []
  a_trimmed : Addr
  fd_trimmed : FuncData
  F_trimmed : Fun K "trimmed" "trimmed" S_trimmed a_trimmed fd_trimmed
  b_trimmed : Binds K fd_trimmed ["ways"] []
  g_trimmed : mg "trimmed" = some (.ref a_trimmed)
  a__law_draws : Addr
  fd__law_draws : FuncData
  F__law_draws : Fun K "_law_draws" "_law_draws" S__law_draws a__law_draws fd__law_draws
  b__law_draws : Binds K fd__law_draws ["_law_script"] []
  g__law_draws : mg "_law_draws" = some (.ref a__law_draws)
  a__law_take : Addr
  fd__law_take : FuncData
  F__law_take : Fun K "_law_take" "_law_take" S__law_take a__law_take fd__law_take
  b__law_take : Binds K fd__law_take ["_law_draws_here", "_law_at", "_law_size"] []
  g__law_take : mg "_law_take" = some (.ref a__law_take)
  a__law_same : Addr
  fd__law_same : FuncData
  F__law_same : Fun K "_law_same" "_law_same" S__law_same a__law_same fd__law_same
  b__law_same : Binds K fd__law_same ["_law_actual", "_law_expected"] []
  g__law_same : mg "_law_same" = some (.ref a__law_same)
  a__law_way : Addr
  fd__law_way : FuncData
  F__law_way : Fun K "_law_way" "_law_way" S__law_way a__law_way fd__law_way
  b__law_way : Binds K fd__law_way ["_law_draws_here", "_law_at"] []
  g__law_way : mg "_law_way" = some (.ref a__law_way)
  a__law_way_made : Addr
  fd__law_way_made : FuncData
  F__law_way_made : Fun K "_law_way_made" "_law_way_made" S__law_way_made a__law_way_made fd__law_way_made
  b__law_way_made : Binds K fd__law_way_made ["_law_way_here"] []
  g__law_way_made : mg "_law_way_made" = some (.ref a__law_way_made)
  a__law_adjusted : Addr
  fd__law_adjusted : FuncData
  F__law_adjusted : Fun K "_law_adjusted" "_law_adjusted" S__law_adjusted a__law_adjusted fd__law_adjusted
  b__law_adjusted : Binds K fd__law_adjusted ["_law_ranks"] []
  g__law_adjusted : mg "_law_adjusted" = some (.ref a__law_adjusted)
  a__law_second : Addr
  fd__law_second : FuncData
  F__law_second : Fun K "_law_second" "_law_second" S__law_second a__law_second fd__law_second
  b__law_second : Binds K fd__law_second ["_law_draws_here", "_law_at", "_law_first"] []
  g__law_second : mg "_law_second" = some (.ref a__law_second)
  a__law_below : Addr
  fd__law_below : FuncData
  F__law_below : Fun K "_law_below" "_law_below" S__law_below a__law_below fd__law_below
  b__law_below : Binds K fd__law_below ["_law_one", "_law_two"] []
  g__law_below : mg "_law_below" = some (.ref a__law_below)
  a__law_fields : Addr
  fd__law_fields : FuncData
  F__law_fields : Fun K "_law_fields" "_law_fields" S__law_fields a__law_fields fd__law_fields
  b__law_fields : Binds K fd__law_fields ["_law_way_here"] []
  g__law_fields : mg "_law_fields" = some (.ref a__law_fields)
  a__law_words : Addr
  fd__law_words : FuncData
  F__law_words : Fun K "_law_words" "_law_words" S__law_words a__law_words fd__law_words
  b__law_words : Binds K fd__law_words ["_law_ranks"] []
  g__law_words : mg "_law_words" = some (.ref a__law_words)
  a__law_row : Addr
  fd__law_row : FuncData
  F__law_row : Fun K "_law_row" "_law_row" S__law_row a__law_row fd__law_row
  b__law_row : Binds K fd__law_row ["_law_draws_here", "_law_at"] []
  g__law_row : mg "_law_row" = some (.ref a__law_row)
  a__law_left : Addr
  fd__law_left : FuncData
  F__law_left : Fun K "_law_left" "_law_left" S__law_left a__law_left fd__law_left
  b__law_left : Binds K fd__law_left ["_law_row_here"] []
  g__law_left : mg "_law_left" = some (.ref a__law_left)
  a__law_alike : Addr
  fd__law_alike : FuncData
  F__law_alike : Fun K "_law_alike" "_law_alike" S__law_alike a__law_alike fd__law_alike
  b__law_alike : Binds K fd__law_alike ["_law_ways", "_law_row_here"] []
  g__law_alike : mg "_law_alike" = some (.ref a__law_alike)
  a_law : Addr
  fd_law : FuncData
  F_law : Fun K "law" "law" S_law a_law fd_law
  b_law : Binds K fd_law ["_law_script"] []
  g_law : mg "law" = some (.ref a_law)
  n_bool : mg "bool" = none
  n_enumerate : mg "enumerate" = none
  n_int : mg "int" = none
  n_isinstance : mg "isinstance" = none
  n_len : mg "len" = none
  n_list : mg "list" = none
  n_range : mg "range" = none
  n_str : mg "str" = none
  n_tuple : mg "tuple" = none
  k_LEVELS : Addr
  g_LEVELS : mg "LEVELS" = some (.ref k_LEVELS)
  q_LEVELS : ∀ H : Hp, SqT K H k_LEVELS [.str "none", .str "one", .str "most", .str "all"]
  c_Way : Addr
  g_Way : mg "Way" = some (.ref c_Way)
  cl_Way : Cls K c_Way
  mk_Way : Mk K c_Way a_Way_init
  m_Way_eq : Meth K c_Way "__eq__" a_Way_eq
  m_Way_le : Meth K c_Way "__le__" a_Way_le
  ti_Way : ∀ (H : Hp) (a dx : Addr) (fs : List (Str × V)), H a = some (.ins c_Way dx fs) → TyOf K H (.ref a) (.ref c_Way)
  kk_Way : PySem.W.kitOne K (.ref c_Way) (.ref c_Way) = some true
  no_Way_held : NoAttr K c_Way "held"
  no_Way_owned : NoAttr K c_Way "owned"
  no_Way_seen : NoAttr K c_Way "seen"
  no_Way_early : NoAttr K c_Way "early"
  kb_Way_init_4_early : KBn K fd_Way_init ["self", "held", "owned", "seen", "early"] 4 ["early"] (fun us ws => us ++ ws) (fun vs zs => vs ++ zs)
abbrev PP : Program := PySem.Challenge.pw_weblocks_k08_trimmed_ways
end My
namespace My
open PySem L2
/-! ### heaps: all but a as it was -/
def But (a : Addr) (H H' : Hp) : Prop := ∀ b o, b ≠ a → H b = some o → H' b = some o
theorem But.refl (a : Addr) (H : Hp) : But a H H := fun _ _ _ h => h
theorem But.trans {a : Addr} {H H1 H2 : Hp} (x : But a H H1) (y : But a H1 H2) : But a H H2 := fun b o n h => y b o n (x b o n h)
theorem But.of_same {a : Addr} {H H' : Hp} (s : Same H H') : But a H H' := fun b o _ h => s b o h
theorem But.upd {a : Addr} {H : Hp} {o : HO} : But a H (upd H a o) := fun b u n h => by rw [upd_ne n]; exact h
theorem same_new {H : Hp} {p : Addr} {o : HO} (h : H p = none) : Same H (upd H p o) := fun b x e => by
  rw [upd_ne (ne_of_none e h)]; exact e
theorem But.new {a p : Addr} {H : Hp} {o : HO} (h : H p = none) : But a H (L2.upd H p o) := But.of_same (same_new h)
/-- an object that H does not know may change -/
theorem same_mut {H H' : Hp} {p : Addr} {o : HO} (e : Same H H') (h : H p = none) : Same H (upd H' p o) := fun a u ha => by
  rw [upd_ne (ne_of_none ha h)]; exact e a u ha
theorem But.mut {a p : Addr} {H H' : Hp} {o : HO} (e : But a H H') (h : H p = none) : But a H (L2.upd H' p o) := fun b u n hb => by
  rw [upd_ne (ne_of_none hb h)]; exact e b u n hb
theorem But.free {a p : Addr} {H H' : Hp} (e : But a H H') (n : p ≠ a) (h : H' p = none) : H p = none := by
  cases q : H p with
  | none => rfl
  | some o => rw [e p o n q] at h; cases h
theorem But.sqL {K : PySem.W.Frag} {a d : Addr} {H H' : Hp} {xs : List V} (e : But a H H') (n : d ≠ a) (h : SqL K H d xs) : SqL K H' d xs := by
  rcases h with (h | ⟨o, h⟩) | h
  · exact .inl (.inl (e _ _ n h))
  · exact .inl (.inr ⟨o, e _ _ n h⟩)
  · exact .inr h
theorem But.sqT {K : PySem.W.Frag} {a d : Addr} {H H' : Hp} {xs : List V} (e : But a H H') (n : d ≠ a) (h : SqT K H d xs) : SqT K H' d xs := by
  rcases h with (h | ⟨o, h⟩) | h
  · exact .inl (.inl (e _ _ n h))
  · exact .inl (.inr ⟨o, e _ _ n h⟩)
  · exact .inr h
theorem same_sqT {K : PySem.W.Frag} {d : Addr} {H H' : Hp} {xs : List V} (e : Same H H') (h : SqT K H d xs) : SqT K H' d xs := by
  rcases h with (h | ⟨o, h⟩) | h
  · exact .inl (.inl (e _ _ h))
  · exact .inl (.inr ⟨o, e _ _ h⟩)
  · exact .inr h
theorem same_make {H H5 : Hp} {x dx C : Addr} (nx : H x = none) (nd : H dx = none) (b : But x (L2.upd (L2.upd H dx (.own x)) x (.ins C dx [])) H5) : Same H H5 := fun y o h =>
  b y o (ne_of_none h nx) (by rw [upd_ne (ne_of_none h nx), upd_ne (ne_of_none h nd)]; exact h)
/-! ### tests -/
theorem iteD {c A B : Prop} [Decidable c] (h1 : c → A) (h2 : ¬ c → B) : if decide c = true then A else B := by
  by_cases h : c
  · rw [decide_eq_true h]; exact iteT (h1 h)
  · rw [decide_eq_false h]; exact iteF (h2 h)
theorem iteN {c A B : Prop} [Decidable c] (h1 : ¬ c → A) (h2 : c → B) : if (!decide c) = true then A else B := by
  by_cases h : c
  · rw [decide_eq_true h]; exact iteF (h2 h)
  · rw [decide_eq_false h]; exact iteT (h1 h)
theorem iteB {b : Bool} {A B : Prop} (h1 : b = true → A) (h2 : b = false → B) : if b = true then A else B := by
  cases b with
  | true => exact iteT (h1 rfl)
  | false => exact iteF (h2 rfl)
theorem iteYes {b : Bool} {A B : Prop} (h : b = true) (h1 : A) : if b = true then A else B := by rw [h]; exact iteT h1
theorem iteNo {b : Bool} {A B : Prop} (h : b = false) (h1 : B) : if b = true then A else B := by rw [h]; exact iteF h1
/-! ### lists -/
theorem ints_app (zs : List Int) (z : Int) : (zs.map V.int) ++ [V.int z] = (zs ++ [z]).map V.int := by rw [List.map_append]; rfl
theorem at_ok {xs : List V} {i : Int} (h0 : 0 ≤ i) (h1 : i < xs.length) : ∃ v, atI xs i = some v ∧ v ∈ xs := by
  obtain ⟨j, rfl⟩ := Int.eq_ofNat_of_zero_le h0
  have hj : j < xs.length := by omega
  exact ⟨xs[j], atI_nat (List.getElem?_eq_getElem hj), List.getElem_mem hj⟩
theorem get_int {ns : List Int} {i : Nat} {y : V} (h : (ns.map V.int)[i]? = some y) : ∃ z, ns[i]? = some z ∧ y = .int z := by
  rw [List.getElem?_map] at h
  cases e : ns[i]? with
  | none => rw [e] at h; cases h
  | some z => rw [e] at h; exact ⟨z, rfl, (Option.some.inj h).symm⟩
end My
namespace L2
open PySem
/-! ### rules whose reading names K itself (in a comprehension's block) -/
theorem ixLK {X : Cx} {K : PySem.W.Frag} (h : X.K = K) : IxR X (rIxL K) := h ▸ ix_list
theorem ixTK {X : Cx} {K : PySem.W.Frag} (h : X.K = K) : IxR X (rIxT K) := h ▸ ix_tup
theorem inK {X : Cx} {K : PySem.W.Frag} (h : X.K = K) : OpR X (compareOp .In) (rIn K false) := h ▸ op_in_seq
theorem ninK {X : Cx} {K : PySem.W.Frag} (h : X.K = K) : OpR X (compareOp .NotIn) (rIn K true) := h ▸ op_notIn_seq
theorem pe_fldK {X : Cx} {K : PySem.W.Frag} {e : Expr} {f : Str} {pos : Pos} {ta : TE} (h : X.K = K) (he : PE X e ta) (hb : attributeBase e f X.env (eval e X.env) = eval e X.env) : PE X (.Attribute e f pos) (tFld K ta f) := h ▸ pe_fld he hb
end L2

namespace My
open PySem L2
/-- the draws at d, the place at a -/
structure Dr (K : PySem.W.Frag) (H : Hp) (d a : Addr) : Prop where
  ds : ∃ ns : List Int, H d = some (.lst (ns.map V.int))
  pl : ∃ k : Nat, H a = some (.lst [.int k])
  ne : d ≠ a
theorem Dr.but {K : PySem.W.Frag} {H H' : Hp} {d a : Addr} (x : Dr K H d a) (e : But a H H') (pl : ∃ k : Nat, H' a = some (.lst [.int k])) : Dr K H' d a :=
  ⟨x.ds.elim fun ns h => ⟨ns, e _ _ x.ne h⟩, pl, x.ne⟩
theorem Dr.same {K : PySem.W.Frag} {H H' : Hp} {d a : Addr} (x : Dr K H d a) (e : Same H H') : Dr K H' d a :=
  x.but (But.of_same e) (x.pl.elim fun k h => ⟨k, e _ _ h⟩)
/-- another object is changed -/
theorem Dr.other {K : PySem.W.Frag} {H H' : Hp} {d a p : Addr} (x : Dr K H d a) (e : But p H H') (n1 : d ≠ p) (n2 : a ≠ p) : Dr K H' d a :=
  ⟨x.ds.elim fun ns h => ⟨ns, e _ _ n1 h⟩, x.pl.elim fun k h => ⟨k, e _ _ n2 h⟩, x.ne⟩
theorem Dr.nd {K : PySem.W.Frag} {H : Hp} {d a p : Addr} (x : Dr K H d a) (h : H p = none) : d ≠ p := ne_of_none x.ds.choose_spec h
theorem Dr.na {K : PySem.W.Frag} {H : Hp} {d a p : Addr} (x : Dr K H d a) (h : H p = none) : p ≠ a := (ne_of_none x.pl.choose_spec h).symm
def spTake (K : PySem.W.Frag) : Sp := fun vs H Q _ => ∃ (d a : Addr) (size : Int), vs = [.ref d, .ref a, .int size] ∧ Dr K H d a ∧ 0 < size ∧
  ∀ (r : Int) (H' : Hp), 0 ≤ r → r < size → Dr K H' d a → But a H H' → Q (.int r) H'
section
variable {P : Program} {w : World} {K : PySem.W.Frag} {mg : Str → Option Value} {base : Heap}
theorem ok__law_take (T : Txt K mg) : FnOk P w K mg base CX0 1 T.a__law_take T.fd__law_take ["_law_draws_here", "_law_at", "_law_size"] (spTake K) := by
  refine T.F__law_take.ok sc__law_take (fun vs H Q E h => ?_) (fun cdv A outer s H vs Q E hr h => ?_)
  · obtain ⟨d, a, size, rfl, _⟩ := h; rfl
  · obtain ⟨d, a, size, rfl, D, hs, q⟩ := h
    obtain ⟨ns, hd0⟩ := D.ds
    have hd : SqL K H d (ns.map V.int) := SqL.of hd0
    obtain ⟨k, hk⟩ := D.pl
    have hb : But a H (upd H a (.lst [.int (k + 1 : Nat)])) := But.upd
    have D' : Dr K (upd H a (.lst [.int (k + 1 : Nat)])) d a := D.but hb ⟨_, upd_same⟩
    have hd' := hb.sqL D.ne hd
    refine ⟨_, (pss_cons (ps_asg (pe_op op_add (pe_ix ix_list (pv 1) (pe_int) (fun _ _ => rfl)) (pe_int)) (pg_sub (pv 1) (pe_int) set_list))
      (pss_cons (ps_if (pt_cmpR op_gt (pe_ix ix_list (pv 1) (pe_int) (fun _ _ => rfl)) (pe_callB call_len_seq (by rfl) T.n_len (by decide +kernel) (pa_cons (pv 0) pa_nil)) (nomark _)) (pss_one (ps_ret (pe_int))) pss_nil)
      (pss_one (ps_ret (pe_op op_mod (pe_callTy call_int1 (by rfl) T.n_int (by decide +kernel) (pa_cons (pe_ix ix_list (pv 0) (pe_op op_sub (pe_ix ix_list (pv 1) (pe_int) (fun _ _ => rfl)) (pe_int)) (fun _ _ => rfl)) pa_nil)) (pv 2)))))), ?_⟩
    walk_at "rd"

    refine iteD (fun c => ?_) (fun c => ?_)
    · exact q 0 _ (Int.le_refl _) hs D' hb
    · rw [List.length_map] at c
      have hl : k < ns.length := by omega
      refine ⟨_, rfl, _, rfl, _, _, _, _, rfl, rfl, SqL.of upd_same, atI_nat (j := 0) rfl, _, _, rfl, rfl, _, _, _, _, rfl, rfl, hd', at_of (j := k) (by omega) (by rw [List.getElem?_map, List.getElem?_eq_getElem hl]; rfl), ?_⟩
      walk_at "rd"
      exact q _ _ (Int.emod_nonneg _ (by omega)) (Int.emod_lt_of_pos _ hs) D' hb
end
end My

namespace My
open PySem L2
def spDraws (K : PySem.W.Frag) : Sp := fun vs H Q _ => ∃ (a : Addr) (ns : List Int), vs = [.ref a] ∧ SqL K H a (ns.map V.int) ∧ ns.length ≤ 63 ∧
  ∀ (p : Addr) (zs : List Int) (H' : Hp), Same H H' → H p = none → H' p = some (.lst (zs.map V.int)) → Q (.ref p) H'
section
variable {P : Program} {w : World} {K : PySem.W.Frag} {mg : Str → Option Value} {base : Heap}
theorem ok__law_draws (T : Txt K mg) : FnOk P w K mg base CX0 1 T.a__law_draws T.fd__law_draws ["_law_script"] (spDraws K) := by
  refine T.F__law_draws.ok sc__law_draws (fun vs H Q E h => ?_) (fun cdv A outer s H vs Q E hr h => ?_)
  · obtain ⟨a, ns, rfl, _⟩ := h; rfl
  · obtain ⟨a, ns, rfl, hS, hlen, q⟩ := h
    refine ⟨_, (pss_cons (ps_set (i := 1) sc__law_draws.nd rfl (.inl rfl) (pe_lst pa_nil))
      (pss_cons (ps_for PassesOwn.never rfl (pi_list (pv 0)) (pg_name (i := 2) sc__law_draws.nd rfl (.inl rfl)) (pss_one (ps_if (pt_cmpR op_ge (pv 2) (pe_op op_pow (pe_int) (pe_int)) (nomark _)) (pss_cons (ps_set (i := 3) sc__law_draws.nd rfl (.inl rfl) (pe_callTy call_int1 (by rfl) T.n_int (by decide +kernel) (pa_cons (pv 2) pa_nil)))
      (pss_one (ps_for PassesOwn.never rfl (pi_range1 (by rfl) T.n_range (pa_cons (pe_int) pa_nil)) (pg_name (i := 4) sc__law_draws.nd rfl (.inl rfl)) (pss_one (ps_if (pt_cmpR op_gt (pv 3) (pe_int) (nomark _)) (pss_cons (ps_expr (pe_bm PySem.F.plainAttrs_list PySem.F.slot_list_append PySem.F.type_list_append mt_append (pv 1) (pa_cons (pe_op op_mod (pe_callTy call_int1 (by rfl) T.n_int (by decide +kernel) (pa_cons (pv 3) pa_nil)) (pe_int)) pa_nil)))
      (pss_one (ps_set (i := 3) sc__law_draws.nd rfl (.inl rfl) (pe_op op_fdiv (pv 3) (pe_int))))) pss_nil))))) (pss_cons (ps_set (i := 5) sc__law_draws.nd rfl (.inl rfl) (pe_op op_mod (pe_callTy call_int1 (by rfl) T.n_int (by decide +kernel) (pa_cons (pe_op op_add (pe_op op_mul (pv 2) (pe_int)) (pe_int)) pa_nil)) (pe_int)))
      (pss_cons (ps_expr (pe_bm PySem.F.plainAttrs_list PySem.F.slot_list_append PySem.F.type_list_append mt_append (pv 1) (pa_cons (pv 5) pa_nil)))
      (pss_one (ps_expr (pe_bm PySem.F.plainAttrs_list PySem.F.slot_list_append PySem.F.type_list_append mt_append (pv 1) (pa_cons (pe_op op_mod (pe_callTy call_int1 (by rfl) T.n_int (by decide +kernel) (pa_cons (pe_op op_add (pe_op op_add (pe_op op_mul (pv 5) (pv 5)) (pe_op op_mul (pe_int) (pv 5))) (pe_op op_mul (pe_int) (pe_callB call_len_seq (by rfl) T.n_len (by decide +kernel) (pa_cons (pv 1) pa_nil)))) pa_nil)) (pe_int)) pa_nil)))))))))
      (pss_one (ps_ret (pv 1))))), ?_⟩
    refine ⟨Nat.zero_le _, fun p hp => ?_⟩
    have s0 : Same H (upd H p (.lst [])) := same_new hp
    refine ⟨_, rfl, a, rfl, ⟨_, s0.seq hS⟩, for_list (K := K) (a := a) (xs := ns.map V.int) (fun i σ H' => ∃ (zs : List Int) (x2 x3 x4 x5 : Option V), σ = [some (.ref a), some (.ref p), x2, x3, x4, x5] ∧ Same H H' ∧ H' p = some (.lst (zs.map V.int)) ∧ zs.length ≤ 60 * i)
      ⟨[], _, _, _, _, rfl, s0, upd_same, Nat.zero_le _⟩ (fun i σ H' _ ⟨_, _, _, _, _, _, s1, _⟩ => s1.seq hS) ?_ ?_⟩
    · rintro i y σ H1 hi ⟨zs, x2, x3, x4, x5, rfl, s1, h1, hz⟩
      have hi63 : i < ns.length := by
        have z := (List.getElem?_eq_some_iff.mp hi).1
        rw [List.length_map] at z
        exact z
      obtain ⟨c, hc, rfl⟩ := get_int hi
      refine ⟨_, rfl, _, _, rfl, rfl, ⟨by decide, by decide, by decide⟩, ?_⟩
      walk_at "rd"
      refine iteD (fun c1 => ?_) (fun c1 => ?_)
      · refine ⟨_, rfl, .inl ⟨_, rfl, ?_⟩⟩
        refine ⟨60, rfl, by decide, by decide, for_range (lo := 0) (n := 60) (fun j σ H' => ∃ (zs : List Int) (r : Int) (x4 : Option V), σ = [some (.ref a), some (.ref p), some (.int c), some (.int r), x4, x5] ∧ Same H H' ∧ H' p = some (.lst (zs.map V.int)) ∧ zs.length ≤ 60 * i + j)
          ⟨zs, c, x4, rfl, s1, h1, hz⟩ ?_ ?_⟩
        · rintro j σ H2 hj ⟨zs, r, x4, rfl, s2, h2, hz2⟩
          walk_at "rd"
          refine iteD (fun c2 => ?_) (fun c2 => ?_)
          · refine ⟨_, rfl, .inl ⟨rfl, _, SqL.of h2⟩, _, rfl, .inl ⟨_, rfl, _, _, rfl, rfl, (by show (0 : Int) < 1000; decide), _, _, _, rfl, rfl, h2, by rw [List.length_map]; exact Nat.lt_of_le_of_lt (by omega : _ ≤ 100000) (by decide), ?_⟩⟩
            refine ⟨_, rfl, _, _, rfl, rfl, ⟨by decide, by decide⟩, ?_⟩
            exact ⟨zs ++ [r % 1000], _, _, rfl, same_mut s2 hp, by rw [upd_same, ints_app], by rw [List.length_append, List.length_singleton]; omega⟩
          · exact ⟨zs, r, _, rfl, s2, h2, by omega⟩
        · rintro σ H2 ⟨zs, r, x4, rfl, s2, h2, hz2⟩
          exact ⟨zs, _, _, _, _, rfl, s2, h2, by omega⟩
      · refine ⟨_, rfl, _, _, rfl, rfl, .inr ⟨by decide, by decide⟩, _, _, rfl, rfl, .inl ⟨_, rfl, _, _, rfl, rfl, (by show (0 : Int) < 9973; decide), ?_⟩⟩
        have hm0 : 0 ≤ (c * 48271 + 12345) % 9973 := Int.emod_nonneg _ (by decide)
        have hm1 : (c * 48271 + 12345) % 9973 < 9973 := Int.emod_lt_of_pos _ (by decide)
        refine ⟨_, rfl, .inl ⟨rfl, _, SqL.of h1⟩, _, rfl, _, _, _, rfl, rfl, h1, by rw [List.length_map]; exact Nat.lt_of_le_of_lt (by omega : _ ≤ 100000) (by decide), ?_⟩
        refine ⟨_, rfl, .inl ⟨rfl, _, SqL.of upd_same⟩, _, rfl, _, rfl, _, _, rfl, rfl, .inl ⟨by omega, by omega⟩, _, rfl, _, _, rfl, rfl, .inl ⟨by decide, by decide⟩, _, _, rfl, rfl, _, rfl, _, _, rfl, .inl (SqL.of upd_same), _, _, rfl, rfl, .inl ⟨by decide, by decide⟩, _, _, rfl, rfl, .inl ⟨_, rfl, _, _, rfl, rfl, (by show (0 : Int) < 9949; decide), ?_⟩⟩
        refine ⟨_, _, _, rfl, rfl, upd_same, by rw [List.length_append, List.length_map]; exact Nat.lt_of_le_of_lt (by simp; omega : _ ≤ 100000) (by decide), ?_⟩
        rw [ints_app, ints_app, upd_upd]
        exact ⟨_, _, _, _, _, rfl, same_mut s1 hp, upd_same, by simp; omega⟩
    · rintro σ H1 ⟨zs, x2, x3, x4, x5, rfl, s1, h1, hz⟩
      exact ⟨_, rfl, q p zs H1 s1 hp h1⟩
end
end My

namespace My
open PySem L2
/-! ### plain data -/
inductive Sc : V → PyData → Prop
  | non : Sc .non .none
  | bl (b : Bool) : Sc (.bl b) (.bool b)
  | int (i : Int) : Sc (.int i) (.int i)
  | str (z : Str) : Sc (.str z) (.str z)
/-- a list that stays where x alone is changed; a tuple likewise -/
def SL (K : PySem.W.Frag) (x : Addr) (H : Hp) (a : Addr) (xs : List V) : Prop := (a ≠ x ∧ SqL K H a xs) ∨ ∀ H', SqL K H' a xs
def SU (K : PySem.W.Frag) (x : Addr) (H : Hp) (a : Addr) (xs : List V) : Prop := (a ≠ x ∧ SqT K H a xs) ∨ ∀ H', SqT K H' a xs
section
variable {K : PySem.W.Frag} {x : Addr} {H H' : Hp} {a : Addr} {xs : List V}
theorem SL.sq (h : SL K x H a xs) : SqL K H a xs := by
  rcases h with h | h
  · exact h.2
  · exact h H
theorem SU.sq (h : SU K x H a xs) : SqT K H a xs := by
  rcases h with h | h
  · exact h.2
  · exact h H
theorem SL.but (h : SL K x H a xs) (e : But x H H') : SL K x H' a xs := by
  rcases h with ⟨n, h⟩ | h
  · exact .inl ⟨n, e.sqL n h⟩
  · exact .inr h
theorem SU.but (h : SU K x H a xs) (e : But x H H') : SU K x H' a xs := by
  rcases h with ⟨n, h⟩ | h
  · exact .inl ⟨n, e.sqT n h⟩
  · exact .inr h
theorem tyL (h : SqL K H a xs) : TyX K H (.ref a) (.type "list") := by
  rcases h with (h | ⟨o, h⟩) | ⟨o, its, n, h, c, _⟩
  · exact .base (.lst h)
  · exact .base (.frz h)
  · exact .kList h c
theorem tyT (h : SqT K H a xs) : TyX K H (.ref a) (.type "tuple") := by
  rcases h with (h | ⟨o, h⟩) | ⟨o, its, n, h, c, _⟩
  · exact .base (.tup h)
  · exact .fTuple h
  · exact .kTuple h c
end
/-- data of depth n at most -/
def Dn (K : PySem.W.Frag) (x : Addr) (H : Hp) : Nat → V → PyData → Prop
  | 0, v, d => Sc v d
  | n + 1, v, d => Sc v d ∨ (∃ a xs ds, v = .ref a ∧ d = .list ds ∧ SL K x H a xs ∧ xs.length ≤ 100000 ∧ Paired (Dn K x H n) xs ds) ∨ ∃ a xs ds, v = .ref a ∧ d = .tuple ds ∧ SU K x H a xs ∧ xs.length ≤ 100000 ∧ Paired (Dn K x H n) xs ds
theorem Dn.sc {K : PySem.W.Frag} {x : Addr} {H : Hp} {v : V} {d : PyData} (h : Sc v d) : ∀ n, Dn K x H n v d
  | 0 => h
  | _ + 1 => .inl h
theorem Dn.but {K : PySem.W.Frag} {x : Addr} {H H' : Hp} (e : But x H H') : ∀ {n : Nat} {v : V} {d : PyData}, Dn K x H n v d → Dn K x H' n v d
  | 0, _, _, h => h
  | n + 1, v, d, h => by
    rcases h with h | ⟨a, xs, ds, rfl, rfl, h, hz, p⟩ | ⟨a, xs, ds, rfl, rfl, h, hz, p⟩
    · exact .inl h
    · exact .inr (.inl ⟨a, xs, ds, rfl, rfl, h.but e, hz, L2.Paired.mapP p fun _ _ z => Dn.but e z⟩)
    · exact .inr (.inr ⟨a, xs, ds, rfl, rfl, h.but e, hz, L2.Paired.mapP p fun _ _ z => Dn.but e z⟩)
theorem Dn.lst {K : PySem.W.Frag} {x : Addr} {H : Hp} {n : Nat} {a : Addr} {xs : List V} {ds : List PyData} (ne : a ≠ x) (h : SqL K H a xs) (p : Paired (Dn K x H n) xs ds) (hz : xs.length ≤ 100000 := by simp) : Dn K x H (n + 1) (.ref a) (.list ds) :=
  .inr (.inl ⟨a, xs, ds, rfl, rfl, .inl ⟨ne, h⟩, hz, p⟩)
theorem Dn.tup {K : PySem.W.Frag} {x : Addr} {H : Hp} {n : Nat} {a : Addr} {xs : List V} {ds : List PyData} (ne : a ≠ x) (h : SqT K H a xs) (p : Paired (Dn K x H n) xs ds) (hz : xs.length ≤ 100000 := by simp) : Dn K x H (n + 1) (.ref a) (.tuple ds) :=
  .inr (.inr ⟨a, xs, ds, rfl, rfl, .inl ⟨ne, h⟩, hz, p⟩)
theorem Dn.int {K : PySem.W.Frag} {x : Addr} {H : Hp} (i : Int) {n : Nat} : Dn K x H n (.int i) (.int i) := Dn.sc (.int i) n
theorem Dn.str {K : PySem.W.Frag} {x : Addr} {H : Hp} (i : Str) {n : Nat} : Dn K x H n (.str i) (.str i) := Dn.sc (.str i) n
theorem Dn.bl {K : PySem.W.Frag} {x : Addr} {H : Hp} (i : Bool) {n : Nat} : Dn K x H n (.bl i) (.bool i) := Dn.sc (.bl i) n
theorem Dn.non {K : PySem.W.Frag} {x : Addr} {H : Hp} {n : Nat} : Dn K x H n .non .none := Dn.sc .non n
theorem Dn.up {K : PySem.W.Frag} {x : Addr} {H : Hp} : ∀ {n : Nat} {v : V} {d : PyData}, Dn K x H n v d → Dn K x H (n + 1) v d
  | 0, _, _, h => .inl h
  | n + 1, v, d, h => by
    rcases h with h | ⟨a, xs, ds, rfl, rfl, h, hz, p⟩ | ⟨a, xs, ds, rfl, rfl, h, hz, p⟩
    · exact .inl h
    · exact .inr (.inl ⟨a, xs, ds, rfl, rfl, h, hz, L2.Paired.mapP p fun _ _ z => Dn.up z⟩)
    · exact .inr (.inr ⟨a, xs, ds, rfl, rfl, h, hz, L2.Paired.mapP p fun _ _ z => Dn.up z⟩)
theorem pair_get {α β : Type} {F : α → β → Prop} : ∀ {l : List α} {m : List β} {i : Nat} {x : α}, Paired F l m → l[i]? = some x → ∃ y, m[i]? = some y ∧ F x y
  | _, _, _, _, .nil, e => by simp at e
  | _, _, 0, _, .cons r _, e => by simp at e; subst e; exact ⟨_, rfl, r⟩
  | _, _, i + 1, x, .cons _ t, e => by
    obtain ⟨y, h1, h2⟩ := pair_get (i := i) (x := x) t (by simpa using e)
    exact ⟨y, by simpa using h1, h2⟩
theorem pair_len {α β : Type} {F : α → β → Prop} : ∀ {l : List α} {m : List β}, Paired F l m → l.length = m.length
  | _, _, .nil => rfl
  | _, _, .cons _ t => by rw [List.length_cons, List.length_cons, pair_len t]
noncomputable def sameD (d e : PyData) : Bool := @decide (d = e) (Classical.propDecidable _)
theorem same_yes {d e : PyData} (h : d = e) : sameD d e = true := by unfold sameD; exact @decide_eq_true _ (Classical.propDecidable _) h
theorem same_no {d e : PyData} (h : d ≠ e) : sameD d e = false := by unfold sameD; exact @decide_eq_false _ (Classical.propDecidable _) h
theorem same_iff {d e : PyData} : sameD d e = true ↔ d = e := by
  constructor
  · intro h
    by_cases q : d = e
    · exact q
    · rw [same_no q] at h; cases h
  · exact same_yes
theorem same_of {p : Prop} [Decidable p] {d e : PyData} (h : d = e ↔ p) : sameD d e = decide p := by
  by_cases q : p
  · rw [decide_eq_true q, same_yes (h.mpr q)]
  · rw [decide_eq_false q, same_no (fun z => q (h.mp z))]
def spSame (K : PySem.W.Frag) (n : Nat) : Sp := fun vs H Q _ => ∃ (x : Addr) (v1 v2 : V) (d1 d2 : PyData), vs = [v1, v2] ∧ Dn K x H n v1 d1 ∧ Dn K x H n v2 d2 ∧ Q (.bl (sameD d1 d2)) H
end My
local macro_rules | `(tactic| walk_at "ty") => `(tactic| first | exact .base (.int _) | exact .base (.bl _) | exact .base .non | exact .base (.str _) | exact My.tyL (by assumption) | exact My.tyT (by assumption))
local macro_rules | `(tactic| walk_at "is") => `(tactic| first | refine ⟨_, _, _, _, true, rfl, L2.ClsV.ty _, (by walk_at "ty"), L2.kit_ty (by decide +kernel), ?_⟩ | refine ⟨_, _, _, _, false, rfl, L2.ClsV.ty _, (by walk_at "ty"), L2.kit_ty (by decide +kernel), ?_⟩)
local macro_rules | `(tactic| walk_at "ri") => `(tactic| repeat (first | walk_at "is" | refine ⟨_, rfl, ?_⟩ | refine ⟨rfl, ?_⟩))
namespace My
open PySem L2
theorem same_bl (a b : Bool) : sameD (.bool a) (.bool b) = decide (V.bl a = V.bl b) := same_of ⟨fun h => by cases h; rfl, fun h => by cases h; rfl⟩
theorem same_int (a b : Int) : sameD (.int a) (.int b) = decide (V.int a = V.int b) := same_of ⟨fun h => by cases h; rfl, fun h => by cases h; rfl⟩
theorem same_str (a b : Str) : sameD (.str a) (.str b) = decide (V.str a = V.str b) := same_of ⟨fun h => by cases h; rfl, fun h => by cases h; rfl⟩
theorem same_non : sameD .none .none = true := same_yes rfl
theorem same_lst (a b : List PyData) : sameD (.list a) (.list b) = true ↔ a = b := same_iff.trans ⟨fun h => by cases h; rfl, fun h => by cases h; rfl⟩
theorem same_tup (a b : List PyData) : sameD (.tuple a) (.tuple b) = true ↔ a = b := same_iff.trans ⟨fun h => by cases h; rfl, fun h => by cases h; rfl⟩
section
variable {P : Program} {w : World} {K : PySem.W.Frag} {mg : Str → Option Value} {base : Heap}
set_option maxHeartbeats 8000000 in
theorem ok__law_same (T : Txt K mg) : ∀ n, FnOk P w K mg base CX0 (n + 1) T.a__law_same T.fd__law_same ["_law_actual", "_law_expected"] (spSame K n)
  | 0 => by
    refine T.F__law_same.ok sc__law_same (fun vs H Q E h => ?_) (fun cdv A outer s H vs Q E hr h => ?_)
    · obtain ⟨x, v1, v2, d1, d2, rfl, _⟩ := h; rfl
    · obtain ⟨x, v1, v2, d1, d2, rfl, h1, h2, q⟩ := h
      refine ⟨_, (pss_cons (ps_if (PW.pt (pw_or (pt_val (pe_callB call_isi (by rfl) T.n_isinstance (by decide +kernel) (pa_cons (pv 0) (pa_cons (pe_bltn (v := .ty "bool") (by rfl) T.n_bool (by decide +kernel) rfl) pa_nil)))) (pw_or1 (pt_val (pe_callB call_isi (by rfl) T.n_isinstance (by decide +kernel) (pa_cons (pv 1) (pa_cons (pe_bltn (v := .ty "bool") (by rfl) T.n_bool (by decide +kernel) rfl) pa_nil))))))) (pss_one (ps_ret (pe_and (pe_callB call_isi (by rfl) T.n_isinstance (by decide +kernel) (pa_cons (pv 0) (pa_cons (pe_bltn (v := .ty "bool") (by rfl) T.n_bool (by decide +kernel) rfl) pa_nil))) (pe_and (pe_callB call_isi (by rfl) T.n_isinstance (by decide +kernel) (pa_cons (pv 1) (pa_cons (pe_bltn (v := .ty "bool") (by rfl) T.n_bool (by decide +kernel) rfl) pa_nil))) (pe_one (pe_cmpR op_eq (pv 0) (pv 1) (nomark _))))))) pss_nil)
      (pss_cons (ps_if (PW.pt (pw_or (pt_cmpR op_isN (pv 0) (pe_non) (nomark _)) (pw_or1 (pt_cmpR op_isN (pv 1) (pe_non) (nomark _))))) (pss_one (ps_ret (pe_and (pe_cmpR op_isN (pv 0) (pe_non) (nomark _)) (pe_one (pe_cmpR op_isN (pv 1) (pe_non) (nomark _)))))) pss_nil)
      (pss_cons (ps_if (pt_val (pe_callB call_isi (by rfl) T.n_isinstance (by decide +kernel) (pa_cons (pv 1) (pa_cons (pe_bltn (v := .ty "int") (by rfl) T.n_int (by decide +kernel) rfl) pa_nil)))) (pss_one (ps_ret (pe_and (pe_callB call_isi (by rfl) T.n_isinstance (by decide +kernel) (pa_cons (pv 0) (pa_cons (pe_bltn (v := .ty "int") (by rfl) T.n_int (by decide +kernel) rfl) pa_nil))) (pe_one (pe_cmpR op_eq (pv 0) (pv 1) (nomark _)))))) pss_nil)
      (pss_cons (ps_if (pt_val (pe_callB call_isi (by rfl) T.n_isinstance (by decide +kernel) (pa_cons (pv 1) (pa_cons (pe_bltn (v := .ty "str") (by rfl) T.n_str (by decide +kernel) rfl) pa_nil)))) (pss_one (ps_ret (pe_and (pe_callB call_isi (by rfl) T.n_isinstance (by decide +kernel) (pa_cons (pv 0) (pa_cons (pe_bltn (v := .ty "str") (by rfl) T.n_str (by decide +kernel) rfl) pa_nil))) (pe_one (pe_cmpR op_eq (pv 0) (pv 1) (nomark _)))))) pss_nil)
      (pss_cons (ps_if (PW.pt (pw_and (pt_val (pe_callB call_isi (by rfl) T.n_isinstance (by decide +kernel) (pa_cons (pv 1) (pa_cons (pe_bltn (v := .ty "tuple") (by rfl) T.n_tuple (by decide +kernel) rfl) pa_nil)))) (pw_and1 (pt_not (pt_val (pe_callB call_isi (by rfl) T.n_isinstance (by decide +kernel) (pa_cons (pv 0) (pa_cons (pe_bltn (v := .ty "tuple") (by rfl) T.n_tuple (by decide +kernel) rfl) pa_nil)))))))) (pss_one (ps_ret (pe_bl))) pss_nil)
      (pss_cons (ps_if (PW.pt (pw_and (pt_val (pe_callB call_isi (by rfl) T.n_isinstance (by decide +kernel) (pa_cons (pv 1) (pa_cons (pe_bltn (v := .ty "list") (by rfl) T.n_list (by decide +kernel) rfl) pa_nil)))) (pw_and1 (pt_not (pt_val (pe_callB call_isi (by rfl) T.n_isinstance (by decide +kernel) (pa_cons (pv 0) (pa_cons (pe_bltn (v := .ty "list") (by rfl) T.n_list (by decide +kernel) rfl) pa_nil)))))))) (pss_one (ps_ret (pe_bl))) pss_nil)
      (pss_cons (ps_if (pt_cmpR op_ne (pe_callB call_len_seq (by rfl) T.n_len (by decide +kernel) (pa_cons (pv 0) pa_nil)) (pe_callB call_len_seq (by rfl) T.n_len (by decide +kernel) (pa_cons (pv 1) pa_nil)) (nomark _)) (pss_one (ps_ret (pe_bl))) pss_nil)
      (pss_cons ps_never
      (pss_one (ps_ret (pe_bl))))))))))), ?_⟩
      cases h1 <;> cases h2
      all_goals walk_at "ri"
      all_goals first | (rw [same_no (by intro z; cases z)] at q; exact q) | (rw [same_bl] at q; exact q) | (rw [same_int] at q; exact q) | (rw [same_str] at q; exact q) | (rw [same_non] at q; exact q)
  | n + 1 => by
    refine T.F__law_same.ok sc__law_same (fun vs H Q E h => ?_) (fun cdv A outer s H vs Q E hr h => ?_)
    · obtain ⟨x, v1, v2, d1, d2, rfl, _⟩ := h; rfl
    · obtain ⟨x, v1, v2, d1, d2, rfl, h1, h2, q⟩ := h
      refine ⟨_, (pss_cons (ps_if (PW.pt (pw_or (pt_val (pe_callB call_isi (by rfl) T.n_isinstance (by decide +kernel) (pa_cons (pv 0) (pa_cons (pe_bltn (v := .ty "bool") (by rfl) T.n_bool (by decide +kernel) rfl) pa_nil)))) (pw_or1 (pt_val (pe_callB call_isi (by rfl) T.n_isinstance (by decide +kernel) (pa_cons (pv 1) (pa_cons (pe_bltn (v := .ty "bool") (by rfl) T.n_bool (by decide +kernel) rfl) pa_nil))))))) (pss_one (ps_ret (pe_and (pe_callB call_isi (by rfl) T.n_isinstance (by decide +kernel) (pa_cons (pv 0) (pa_cons (pe_bltn (v := .ty "bool") (by rfl) T.n_bool (by decide +kernel) rfl) pa_nil))) (pe_and (pe_callB call_isi (by rfl) T.n_isinstance (by decide +kernel) (pa_cons (pv 1) (pa_cons (pe_bltn (v := .ty "bool") (by rfl) T.n_bool (by decide +kernel) rfl) pa_nil))) (pe_one (pe_cmpR op_eq (pv 0) (pv 1) (nomark _))))))) pss_nil)
      (pss_cons (ps_if (PW.pt (pw_or (pt_cmpR op_isN (pv 0) (pe_non) (nomark _)) (pw_or1 (pt_cmpR op_isN (pv 1) (pe_non) (nomark _))))) (pss_one (ps_ret (pe_and (pe_cmpR op_isN (pv 0) (pe_non) (nomark _)) (pe_one (pe_cmpR op_isN (pv 1) (pe_non) (nomark _)))))) pss_nil)
      (pss_cons (ps_if (pt_val (pe_callB call_isi (by rfl) T.n_isinstance (by decide +kernel) (pa_cons (pv 1) (pa_cons (pe_bltn (v := .ty "int") (by rfl) T.n_int (by decide +kernel) rfl) pa_nil)))) (pss_one (ps_ret (pe_and (pe_callB call_isi (by rfl) T.n_isinstance (by decide +kernel) (pa_cons (pv 0) (pa_cons (pe_bltn (v := .ty "int") (by rfl) T.n_int (by decide +kernel) rfl) pa_nil))) (pe_one (pe_cmpR op_eq (pv 0) (pv 1) (nomark _)))))) pss_nil)
      (pss_cons (ps_if (pt_val (pe_callB call_isi (by rfl) T.n_isinstance (by decide +kernel) (pa_cons (pv 1) (pa_cons (pe_bltn (v := .ty "str") (by rfl) T.n_str (by decide +kernel) rfl) pa_nil)))) (pss_one (ps_ret (pe_and (pe_callB call_isi (by rfl) T.n_isinstance (by decide +kernel) (pa_cons (pv 0) (pa_cons (pe_bltn (v := .ty "str") (by rfl) T.n_str (by decide +kernel) rfl) pa_nil))) (pe_one (pe_cmpR op_eq (pv 0) (pv 1) (nomark _)))))) pss_nil)
      (pss_cons (ps_if (PW.pt (pw_and (pt_val (pe_callB call_isi (by rfl) T.n_isinstance (by decide +kernel) (pa_cons (pv 1) (pa_cons (pe_bltn (v := .ty "tuple") (by rfl) T.n_tuple (by decide +kernel) rfl) pa_nil)))) (pw_and1 (pt_not (pt_val (pe_callB call_isi (by rfl) T.n_isinstance (by decide +kernel) (pa_cons (pv 0) (pa_cons (pe_bltn (v := .ty "tuple") (by rfl) T.n_tuple (by decide +kernel) rfl) pa_nil)))))))) (pss_one (ps_ret (pe_bl))) pss_nil)
      (pss_cons (ps_if (PW.pt (pw_and (pt_val (pe_callB call_isi (by rfl) T.n_isinstance (by decide +kernel) (pa_cons (pv 1) (pa_cons (pe_bltn (v := .ty "list") (by rfl) T.n_list (by decide +kernel) rfl) pa_nil)))) (pw_and1 (pt_not (pt_val (pe_callB call_isi (by rfl) T.n_isinstance (by decide +kernel) (pa_cons (pv 0) (pa_cons (pe_bltn (v := .ty "list") (by rfl) T.n_list (by decide +kernel) rfl) pa_nil)))))))) (pss_one (ps_ret (pe_bl))) pss_nil)
      (pss_cons (ps_if (pt_cmpR op_ne (pe_callB call_len_seq (by rfl) T.n_len (by decide +kernel) (pa_cons (pv 0) pa_nil)) (pe_callB call_len_seq (by rfl) T.n_len (by decide +kernel) (pa_cons (pv 1) pa_nil)) (nomark _)) (pss_one (ps_ret (pe_bl))) pss_nil)
      (pss_cons (ps_for PassesOwn.never rfl (pi_range1 (by rfl) T.n_range (pa_cons (pe_callB call_len_seq (by rfl) T.n_len (by decide +kernel) (pa_cons (pv 1) pa_nil)) pa_nil)) (pg_name (i := 2) sc__law_same.nd rfl (.inl rfl)) (pss_one (ps_if (pt_not (pt_val (pe_call (ok__law_same T n) (hr.mono (by omega)) (by rfl) T.g__law_same T.F__law_same.kp T.b__law_same .nil pass0 (pa_cons (pe_ix ix_seq (pv 0) (pv 2) (fun _ _ => rfl)) (pa_cons (pe_ix ix_seq (pv 1) (pv 2) (fun _ _ => rfl)) pa_nil))))) (pss_one (ps_ret (pe_bl))) pss_nil)))
      (pss_one (ps_ret (pe_bl))))))))))), ?_⟩
      rcases h1 with h1 | ⟨a1, xs1, ds1, rfl, rfl, h1, z1, p1⟩ | ⟨a1, xs1, ds1, rfl, rfl, h1, z1, p1⟩ <;> rcases h2 with h2 | ⟨a2, xs2, ds2, rfl, rfl, h2, z2, p2⟩ | ⟨a2, xs2, ds2, rfl, rfl, h2, z2, p2⟩
      · cases h1 <;> cases h2
        all_goals walk_at "ri"
        all_goals first | (rw [same_no (by intro z; cases z)] at q; exact q) | (rw [same_bl] at q; exact q) | (rw [same_int] at q; exact q) | (rw [same_str] at q; exact q) | (rw [same_non] at q; exact q)
      · have t2 := h2.sq
        cases h1
        all_goals (walk_at "ri"; rw [same_no (by intro z; cases z)] at q; exact q)
      · have t2 := h2.sq
        cases h1
        all_goals (walk_at "ri"; rw [same_no (by intro z; cases z)] at q; exact q)
      · have t1 := h1.sq
        cases h2
        all_goals (walk_at "ri"; rw [same_no (by intro z; cases z)] at q; exact q)
      · have t1 := h1.sq
        have t2 := h2.sq
        walk_at "ri"
        refine ⟨_, _, rfl, .inl t1, _, rfl, _, _, rfl, .inl t2, rfl, _, rfl, ?_⟩
        have l1 := pair_len p1
        have l2 := pair_len p2
        refine iteN (fun c => ?_) (fun c => ?_)
        · rw [same_no (by intro z; cases z; exact c (by rw [l1, l2]))] at q; exact q
        have c' : xs1.length = xs2.length := by have := V.int.inj c; omega
        refine ⟨_, rfl, _, _, rfl, .inl t2, _, rfl, by omega, by omega, for_range (lo := 0) (n := _) (fun j σ H' => ∃ x2, σ = [some (.ref a1), some (.ref a2), x2] ∧ H' = H ∧ ds1.take j = ds2.take j) ⟨_, rfl, rfl, rfl⟩ ?_ ?_⟩
        · rintro j σ H1 hj ⟨x2, rfl, rfl, et⟩
          have j2 : j < xs2.length := by omega
          have j1 : j < xs1.length := by omega
          obtain ⟨e1, g1, r1⟩ := pair_get p1 (List.getElem?_eq_getElem j1)
          obtain ⟨e2, g2, r2⟩ := pair_get p2 (List.getElem?_eq_getElem j2)
          refine ⟨_, rfl, _, rfl, .inl ⟨_, _, _, _, rfl, rfl, t1, at_of (j := j) (by omega) (List.getElem?_eq_getElem j1), ?_⟩⟩
          refine ⟨_, rfl, _, rfl, .inl ⟨_, _, _, _, rfl, rfl, t2, at_of (j := j) (by omega) (List.getElem?_eq_getElem j2), ?_⟩⟩
          refine ⟨x, _, _, e1, e2, rfl, r1, r2, _, rfl, ?_⟩
          refine iteB (fun b => ?_) (fun b => ?_)
          · have ne : e1 ≠ e2 := fun h => by rw [same_yes h] at b; cases b
            rw [same_no (by intro z; cases z; rw [g1] at g2; exact ne (Option.some.inj g2))] at q; exact q
          · have ee : e1 = e2 := by
              apply same_iff.mp
              cases h : sameD e1 e2 with
              | true => rfl
              | false => rw [h] at b; cases b
            subst ee
            exact ⟨_, rfl, rfl, by rw [List.take_add_one, List.take_add_one, et, g1, g2]⟩
        · rintro σ H1 ⟨x2, rfl, rfl, et⟩
          have ed : ds1 = ds2 := by
            rw [List.take_of_length_le (by omega), List.take_of_length_le (by omega)] at et
            exact et
          subst ed
          rw [same_yes rfl] at q; exact q
      · have t1 := h1.sq
        have t2 := h2.sq
        walk_at "ri"
        rw [same_no (by intro z; cases z)] at q; exact q
      · have t1 := h1.sq
        cases h2
        all_goals (walk_at "ri"; rw [same_no (by intro z; cases z)] at q; exact q)
      · have t1 := h1.sq
        have t2 := h2.sq
        walk_at "ri"
        rw [same_no (by intro z; cases z)] at q; exact q
      · have t1 := h1.sq
        have t2 := h2.sq
        walk_at "ri"
        refine ⟨_, _, rfl, .inr t1, _, rfl, _, _, rfl, .inr t2, rfl, _, rfl, ?_⟩
        have l1 := pair_len p1
        have l2 := pair_len p2
        refine iteN (fun c => ?_) (fun c => ?_)
        · rw [same_no (by intro z; cases z; exact c (by rw [l1, l2]))] at q; exact q
        have c' : xs1.length = xs2.length := by have := V.int.inj c; omega
        refine ⟨_, rfl, _, _, rfl, .inr t2, _, rfl, by omega, by omega, for_range (lo := 0) (n := _) (fun j σ H' => ∃ x2, σ = [some (.ref a1), some (.ref a2), x2] ∧ H' = H ∧ ds1.take j = ds2.take j) ⟨_, rfl, rfl, rfl⟩ ?_ ?_⟩
        · rintro j σ H1 hj ⟨x2, rfl, rfl, et⟩
          have j2 : j < xs2.length := by omega
          have j1 : j < xs1.length := by omega
          obtain ⟨e1, g1, r1⟩ := pair_get p1 (List.getElem?_eq_getElem j1)
          obtain ⟨e2, g2, r2⟩ := pair_get p2 (List.getElem?_eq_getElem j2)
          refine ⟨_, rfl, _, rfl, .inr (.inl ⟨_, _, _, _, rfl, rfl, t1, at_of (j := j) (by omega) (List.getElem?_eq_getElem j1), ?_⟩)⟩
          refine ⟨_, rfl, _, rfl, .inr (.inl ⟨_, _, _, _, rfl, rfl, t2, at_of (j := j) (by omega) (List.getElem?_eq_getElem j2), ?_⟩)⟩
          refine ⟨x, _, _, e1, e2, rfl, r1, r2, _, rfl, ?_⟩
          refine iteB (fun b => ?_) (fun b => ?_)
          · have ne : e1 ≠ e2 := fun h => by rw [same_yes h] at b; cases b
            rw [same_no (by intro z; cases z; rw [g1] at g2; exact ne (Option.some.inj g2))] at q; exact q
          · have ee : e1 = e2 := by
              apply same_iff.mp
              cases h : sameD e1 e2 with
              | true => rfl
              | false => rw [h] at b; cases b
            subst ee
            exact ⟨_, rfl, rfl, by rw [List.take_add_one, List.take_add_one, et, g1, g2]⟩
        · rintro σ H1 ⟨x2, rfl, rfl, et⟩
          have ed : ds1 = ds2 := by
            rw [List.take_of_length_le (by omega), List.take_of_length_le (by omega)] at et
            exact et
          subst ed
          rw [same_yes rfl] at q; exact q
end
theorem nsame {d : PyData} : (!sameD d d) = false := by rw [same_yes rfl]; rfl
end My

namespace My
open PySem L2
/-! ### the levels -/
def lev : List Str := ["none", "one", "most", "all"]
def levV : List V := [.str "none", .str "one", .str "most", .str "all"]
theorem levV_eq : levV = lev.map V.str := rfl
theorem lev_nd : lev.Nodup := by decide +kernel
theorem lev_inj {i j : Nat} {z : Str} (h : lev[i]? = some z) (h' : lev[j]? = some z) : i = j := nd_ix lev_nd h h'
theorem lev_lt {i : Nat} {z : Str} (h : lev[i]? = some z) : i < 4 := (List.getElem?_eq_some_iff.mp h).1
/-- what level i asks of n parents -/
def need (i : Nat) (n : Int) : Int := if i = 0 then 0 else if i = 1 then 1 else if i = 2 then n / 2 + 1 else if n > 1 then n else 1
/-- the place of a word, or -1 -/
def placeOf (z : Str) : Int := if z = "none" then 0 else if z = "one" then 1 else if z = "most" then 2 else if z = "all" then 3 else -1
theorem place_lev {i : Nat} {z : Str} (h : lev[i]? = some z) : placeOf z = i := by
  have hi := lev_lt h
  rcases (by omega : i = 0 ∨ i = 1 ∨ i = 2 ∨ i = 3) with rfl | rfl | rfl | rfl
  all_goals (obtain rfl : _ = z := Option.some.inj h; decide +kernel)
theorem lev_at {i : Nat} (h : i < 4) : ∃ z, lev[i]? = some z := ⟨lev[i]'h, List.getElem?_eq_getElem h⟩
def permB (a b c : Nat) (e : Bool) (h o s n : Int) (l : Bool) : Bool := !(e && l) && (decide (need a n ≤ h) && (decide (need b n ≤ o) && decide (need c n ≤ s)))
end My

namespace My
open PySem L2
/-- rank of a level -/
def spRank : Sp := fun vs H Q _ => ∃ (z : Str) (i : Nat), vs = [.str z] ∧ lev[i]? = some z ∧ ∀ H', Same H H' → Q (.int i) H'
section
variable {P : Program} {w : World} {K : PySem.W.Frag} {mg : Str → Option Value} {base : Heap}
theorem ok_rank (T : Txt K mg) : FnOk P w K mg base CX0 1 T.a_rank T.fd_rank ["level"] spRank := by
  refine T.F_rank.ok sc_rank (fun vs H Q E h => ?_) (fun cdv A outer s H vs Q E hr h => ?_)
  · obtain ⟨z, i, rfl, _⟩ := h; rfl
  · obtain ⟨z, i, rfl, hi, q⟩ := h
    refine ⟨_, (pss_cons (ps_for PassesOwn.never rfl (pi_enumT (by rfl) T.n_enumerate (pa_cons (pe_glob (v := .ref T.k_LEVELS) (by rfl) T.g_LEVELS rfl) pa_nil)) (pg_tup rfl (pgs_cons (pg_name (i := 1) sc_rank.nd rfl (.inl rfl)) (pgs_cons (pg_name (i := 2) sc_rank.nd rfl (.inl rfl)) pgs_nil))) (pss_one (ps_if (pt_cmpR op_eq (pv 2) (pv 0) (nomark _)) (pss_one (ps_ret (pv 1))) pss_nil)))
      (pss_one (ps_never))), ?_⟩
    refine ⟨T.k_LEVELS, levV, rfl, T.q_LEVELS _, for_enumT (K := K) (a := T.k_LEVELS) (xs := levV) (fun j σ H' => ∃ x1 x2, σ = [some (.str z), x1, x2] ∧ Same H H' ∧ ∀ l, l < j → l ≠ i) ⟨_, _, rfl, Same.refl H, fun l h => absurd h (Nat.not_lt_zero _)⟩ (fun _ _ H' _ _ => T.q_LEVELS H') ?_ ?_⟩
    · rintro j x σ H1 t hx ⟨x1, x2, rfl, s1, ne⟩ ht
      rw [levV_eq, List.getElem?_map] at hx
      cases e : lev[j]? with
      | none => rw [e] at hx; cases hx
      | some y =>
        rw [e] at hx
        obtain rfl : V.str y = x := Option.some.inj hx
        have s2 : Same H1 (upd H1 t (.tup [.int j, .str y])) := same_new ht
        refine ⟨t, _, rfl, .inl (.inl upd_same), rfl, _, _, rfl, _, _, rfl, rfl, ?_⟩
        refine ⟨_, rfl, _, rfl, rfl, _, rfl, ?_⟩
        refine iteD (fun c => ?_) (fun c => ?_)
        · have ey : y = z := V.str.inj c
          subst ey
          obtain rfl := lev_inj e hi
          exact ⟨_, rfl, q _ (s1.trans s2)⟩
        · refine ⟨_, _, rfl, s1.trans s2, fun l hl => ?_⟩
          rcases Nat.lt_succ_iff_lt_or_eq.mp hl with h | h
          · exact ne l h
          · subst h
            exact fun h => c (by rw [← h, e] at hi; rw [Option.some.inj hi])
    · rintro σ H1 ⟨x1, x2, rfl, s1, ne⟩
      exact ne i (lev_lt hi) rfl
end
end My

namespace My
open PySem L2
/-! ### ways -/
def levn (i : Nat) : Str := lev.getD i ""
theorem levn_get {i : Nat} (h : i < 4) : lev[i]? = some (levn i) := by
  unfold levn
  rw [List.getD_eq_getElem?_getD, List.getElem?_eq_getElem (by exact h)]
  rfl
theorem levV_at {i : Nat} (h : i < 4) : levV[i]? = some (.str (levn i)) := by rw [levV_eq, List.getElem?_map, levn_get h]; rfl
theorem levn_inj {i j : Nat} (hi : i < 4) (hj : j < 4) (h : levn i = levn j) : i = j := lev_inj (levn_get hi) (h ▸ levn_get hj)
def wayF (a b c : Nat) (e : Bool) : List (Str × V) := [("held", .str (levn a)), ("owned", .str (levn b)), ("seen", .str (levn c)), ("early", .bl e)]
theorem putF_len (f : Str) (v : V) : ∀ fs : List (Str × V), (putF f v fs).length ≤ fs.length + 1
  | [] => Nat.le_refl _
  | (g, x) :: r => by
    simp only [putF]
    split
    · exact Nat.le_succ _
    · rw [List.length_cons, List.length_cons]
      exact Nat.succ_le_succ (putF_len f v r)
theorem wayF_put (a b c : Nat) (e : Bool) : putF "early" (.bl e) (putF "seen" (.str (levn c)) (putF "owned" (.str (levn b)) (putF "held" (.str (levn a)) []))) = wayF a b c e := by
  simp only [putF]
  rw [if_neg (by decide +kernel : ¬ ("held" : Str) = "owned")]
  simp only [putF]
  rw [if_neg (by decide +kernel : ¬ ("held" : Str) = "seen"), if_neg (by decide +kernel : ¬ ("owned" : Str) = "seen")]
  simp only [putF]
  rw [if_neg (by decide +kernel : ¬ ("held" : Str) = "early"), if_neg (by decide +kernel : ¬ ("owned" : Str) = "early"), if_neg (by decide +kernel : ¬ ("seen" : Str) = "early")]
  rfl
theorem wayF_held (a b c : Nat) (e : Bool) : (wayF a b c e).lookup ("held" : Str) = some (.str (levn a)) := by rw [← wayF_put, lookup_putF, if_neg (by decide +kernel), lookup_putF, if_neg (by decide +kernel), lookup_putF, if_neg (by decide +kernel), lookup_putF, if_pos rfl]
theorem wayF_owned (a b c : Nat) (e : Bool) : (wayF a b c e).lookup ("owned" : Str) = some (.str (levn b)) := by rw [← wayF_put, lookup_putF, if_neg (by decide +kernel), lookup_putF, if_neg (by decide +kernel), lookup_putF, if_pos rfl]
theorem wayF_seen (a b c : Nat) (e : Bool) : (wayF a b c e).lookup ("seen" : Str) = some (.str (levn c)) := by rw [← wayF_put, lookup_putF, if_neg (by decide +kernel), lookup_putF, if_pos rfl]
theorem wayF_early (a b c : Nat) (e : Bool) : (wayF a b c e).lookup ("early" : Str) = some (.bl e) := by rw [← wayF_put, lookup_putF, if_pos rfl]
theorem wayF_no (a b c : Nat) (e : Bool) {m : Str} (h1 : ¬ m = "early") (h2 : ¬ m = "seen") (h3 : ¬ m = "owned") (h4 : ¬ m = "held") : (wayF a b c e).lookup m = none := by
  rw [← wayF_put, lookup_putF, if_neg h1, lookup_putF, if_neg h2, lookup_putF, if_neg h3, lookup_putF, if_neg h4]; rfl
/-- a way of the class at C stands at x -/
def Wy (C : Addr) (H : Hp) (x : Addr) (a b c : Nat) (e : Bool) : Prop := ∃ dx, H x = some (.ins C dx (wayF a b c e))
theorem Wy.same {C : Addr} {H H' : Hp} {x : Addr} {a b c : Nat} {e : Bool} (h : Wy C H x a b c e) (s : Same H H') : Wy C H' x a b c e := h.elim fun dx h => ⟨dx, s _ _ h⟩
theorem Wy.but {C : Addr} {H H' : Hp} {x y : Addr} {a b c : Nat} {e : Bool} (h : Wy C H x a b c e) (s : But y H H') (n : x ≠ y) : Wy C H' x a b c e := h.elim fun dx h => ⟨dx, s _ _ n h⟩
def spWayInit (C : Addr) : Sp := fun vs H Q _ => ∃ (x dx : Addr) (a b c : Nat) (e : Bool), vs = [.ref x, .str (levn a), .str (levn b), .str (levn c), .bl e] ∧ a < 4 ∧ b < 4 ∧ c < 4 ∧ H x = some (.ins C dx []) ∧
  ∀ H', But x H H' → H' x = some (.ins C dx (wayF (max a b) b (max c (max a b)) e)) → Q .non H'
section
variable {P : Program} {w : World} {K : PySem.W.Frag} {mg : Str → Option Value} {base : Heap}
theorem ok_Way_init (T : Txt K mg) : FnOk P w K mg base CX0 2 T.a_Way_init T.fd_Way_init ["self", "held", "owned", "seen", "early"] (spWayInit T.c_Way) := by
  refine T.F_Way_init.ok0 sc_Way_init (fun vs H Q E h => ?_) (fun cdv A outer s H vs Q E hr h => ?_)
  · obtain ⟨x, dx, a, b, c, e, rfl, _⟩ := h; rfl
  · obtain ⟨x, dx, a, b, c, e, rfl, ha, hb, hc, hx, q⟩ := h
    refine ⟨_, (pss_cons (ps_set (i := 5) sc_Way_init.nd rfl (.inl rfl) (pe_call (ok_rank T) (hr.mono (by omega)) (by rfl) T.g_rank T.F_rank.kp T.b_rank .nil pass0 (pa_cons (pv 1) pa_nil)))
      (pss_cons (ps_set (i := 6) sc_Way_init.nd rfl (.inl rfl) (pe_call (ok_rank T) (hr.mono (by omega)) (by rfl) T.g_rank T.F_rank.kp T.b_rank .nil pass0 (pa_cons (pv 2) pa_nil)))
      (pss_cons (ps_set (i := 7) sc_Way_init.nd rfl (.inl rfl) (pe_call (ok_rank T) (hr.mono (by omega)) (by rfl) T.g_rank T.F_rank.kp T.b_rank .nil pass0 (pa_cons (pv 3) pa_nil)))
      (C8.pss_cut (ps_if (pt_cmpR op_lt (pv 5) (pv 6) (nomark _)) (pss_one (ps_set (i := 5) sc_Way_init.nd rfl (.inl rfl) (pv 6))) pss_nil)
      (C8.pss_cut (ps_if (pt_cmpR op_lt (pv 7) (pv 5) (nomark _)) (pss_one (ps_set (i := 7) sc_Way_init.nd rfl (.inl rfl) (pv 5))) pss_nil)
      (pss_cons (ps_fld (pv 0) (pe_ix ix_tup (pe_glob (v := .ref T.k_LEVELS) (by rfl) T.g_LEVELS rfl) (pv 5) (fun _ _ => rfl)) rfl)
      (pss_cons (ps_fld (pv 0) (pe_ix ix_tup (pe_glob (v := .ref T.k_LEVELS) (by rfl) T.g_LEVELS rfl) (pv 6) (fun _ _ => rfl)) rfl)
      (pss_cons (ps_fld (pv 0) (pe_ix ix_tup (pe_glob (v := .ref T.k_LEVELS) (by rfl) T.g_LEVELS rfl) (pv 7) (fun _ _ => rfl)) rfl)
      (pss_one (ps_fld (pv 0) (pv 4) rfl)))))))))), ?_⟩
    refine ⟨_, rfl, _, a, rfl, levn_get ha, fun H1 s1 => ?_⟩
    refine ⟨_, rfl, _, b, rfl, levn_get hb, fun H2 s2 => ?_⟩
    refine ⟨_, rfl, _, c, rfl, levn_get hc, fun H3 s3 => ?_⟩
    have sx : Same H H3 := (s1.trans s2).trans s3
    have hx3 := sx _ _ hx
    -- by_held
    refine ⟨fun σ' H' => H' = H3 ∧ σ' = [some (.ref x), some (.str (levn a)), some (.str (levn b)), some (.str (levn c)), some (.bl e), some (.int (max a b : Nat)), some (.int b), some (.int c)], ?_, ?_⟩
    · walk_at "rd"
      refine iteD (fun k => ?_) (fun k => ?_)
      · exact ⟨_, rfl, rfl, by rw [Nat.max_eq_right (by omega)]; try rfl⟩
      · exact ⟨rfl, by rw [Nat.max_eq_left (by omega)]; try rfl⟩
    rintro σ' H' ⟨rfl, rfl⟩
    refine ⟨fun σ' H'' => H'' = H' ∧ σ' = [some (.ref x), some (.str (levn a)), some (.str (levn b)), some (.str (levn c)), some (.bl e), some (.int (max a b : Nat)), some (.int b), some (.int (max c (max a b) : Nat))], ?_, ?_⟩
    · walk_at "rd"
      refine iteD (fun k => ?_) (fun k => ?_)
      · exact ⟨_, rfl, rfl, by rw [Nat.max_eq_right (by omega : c ≤ max a b)]; try rfl⟩
      · exact ⟨rfl, by rw [Nat.max_eq_left (by omega : max a b ≤ c)]; try rfl⟩
    rintro σ' H'' ⟨rfl, rfl⟩
    refine ⟨_, rfl, _, _, _, _, rfl, rfl, T.q_LEVELS _, at_of (j := max a b) rfl (levV_at (by omega)), _, rfl, x, T.c_Way, dx, _, rfl, hx3, T.cl_Way, T.no_Way_held, by show 0 < 1000; decide, ?_⟩
    refine ⟨_, rfl, _, _, _, _, rfl, rfl, T.q_LEVELS _, at_of (j := b) rfl (levV_at hb), _, rfl, x, T.c_Way, dx, _, rfl, upd_same, T.cl_Way, T.no_Way_owned, by show 1 < 1000; decide, ?_⟩
    refine ⟨_, rfl, _, _, _, _, rfl, rfl, T.q_LEVELS _, at_of (j := max c (max a b)) rfl (levV_at (by omega)), _, rfl, x, T.c_Way, dx, _, rfl, upd_same, T.cl_Way, T.no_Way_seen, ?_, ?_⟩
    · exact Nat.lt_of_le_of_lt (putF_len _ _ _) (by show 2 < 1000; decide)
    refine ⟨_, rfl, _, rfl, x, T.c_Way, dx, _, rfl, upd_same, T.cl_Way, T.no_Way_early, ?_, ?_⟩
    · exact Nat.lt_of_le_of_lt (putF_len _ _ _) (Nat.lt_of_le_of_lt (Nat.succ_le_succ (putF_len _ _ _)) (by show 3 < 1000; decide))
    rw [upd_upd, upd_upd, upd_upd, wayF_put]
    exact q _ (fun y o n h => by rw [upd_ne n]; exact sx _ _ h) upd_same
end
end My

namespace My
open PySem L2
def leB (a b c : Nat) (e : Bool) (a' b' c' : Nat) (e' : Bool) : Bool := !(e' && !e) && (decide (a' ≤ a) && (decide (b' ≤ b) && decide (c' ≤ c)))
def eqB (a b c : Nat) (e : Bool) (a' b' c' : Nat) (e' : Bool) : Bool := decide (a = a') && (decide (b = b') && (decide (c = c') && decide (e = e')))
/-- two ways compared by f -/
def spTwo (C : Addr) (f : Nat → Nat → Nat → Bool → Nat → Nat → Nat → Bool → Bool) : Sp := fun vs H Q _ => ∃ (x y : Addr) (a b c : Nat) (e : Bool) (a' b' c' : Nat) (e' : Bool), vs = [.ref x, .ref y] ∧ Wy C H x a b c e ∧ Wy C H y a' b' c' e' ∧
  a < 4 ∧ b < 4 ∧ c < 4 ∧ a' < 4 ∧ b' < 4 ∧ c' < 4 ∧ ∀ H', Same H H' → Q (.bl (f a b c e a' b' c' e')) H'
def spHigher : Sp := fun vs H Q _ => ∃ (a b : Nat), vs = [.str (levn a), .str (levn b)] ∧ a < 4 ∧ b < 4 ∧ ∀ H', Same H H' → Q (.str (levn (max a b))) H'
def spAnd (C : Addr) : Sp := fun vs H Q _ => ∃ (x y : Addr) (a b c : Nat) (e : Bool) (a' b' c' : Nat) (e' : Bool), vs = [.ref x, .ref y] ∧ Wy C H x a b c e ∧ Wy C H y a' b' c' e' ∧
  a < 4 ∧ b < 4 ∧ c < 4 ∧ a' < 4 ∧ b' < 4 ∧ c' < 4 ∧ ∀ z H', Same H H' → H z = none → Wy C H' z (max (max a a') (max b b')) (max b b') (max (max c c') (max (max a a') (max b b'))) (e || e') → Q (.ref z) H'
theorem dec_str {a b : Nat} (ha : a < 4) (hb : b < 4) : decide (V.str (levn a) = V.str (levn b)) = decide (a = b) := by
  by_cases h : a = b
  · rw [decide_eq_true h, decide_eq_true (by rw [h])]
  · rw [decide_eq_false h, decide_eq_false (fun z => h (levn_inj ha hb (V.str.inj z)))]
theorem dec_bl {a b : Bool} : decide (V.bl a = V.bl b) = decide (a = b) := by cases a <;> cases b <;> rfl
section
variable {P : Program} {w : World} {K : PySem.W.Frag} {mg : Str → Option Value} {base : Heap}
theorem ok_Way_eq (T : Txt K mg) : FnOk P w K mg base CX0 1 T.a_Way_eq T.fd_Way_eq ["self", "other"] (spTwo T.c_Way eqB) := by
  refine T.F_Way_eq.ok sc_Way_eq (fun vs H Q E h => ?_) (fun cdv A outer s H vs Q E hr h => ?_)
  · obtain ⟨x, y, a, b, c, e, a', b', c', e', rfl, _⟩ := h; rfl
  · obtain ⟨x, y, a, b, c, e, a', b', c', e', rfl, ⟨dx, hx⟩, ⟨dy, hy⟩, ha, hb, hc, ha', hb', hc', q⟩ := h
    have q1 := q H (Same.refl H)
    unfold eqB at q1
    refine ⟨_, (pss_one (ps_ret (pe_and (pe_callB call_isi (by rfl) T.n_isinstance (by decide +kernel) (pa_cons (pv 1) (pa_cons (pe_glob (v := .ref T.c_Way) (by rfl) T.g_Way rfl) pa_nil))) (pe_and (pe_cmpR op_eq (pe_fld (pv 0) rfl) (pe_fld (pv 1) rfl) (nomark _)) (pe_and (pe_cmpR op_eq (pe_fld (pv 0) rfl) (pe_fld (pv 1) rfl) (nomark _)) (pe_and (pe_cmpR op_eq (pe_fld (pv 0) rfl) (pe_fld (pv 1) rfl) (nomark _)) (pe_one (pe_cmpR op_eq (pe_fld (pv 0) rfl) (pe_fld (pv 1) rfl) (nomark _))))))))), ?_⟩
    refine ⟨_, rfl, _, _, _, _, true, rfl, ClsV.own _, .base (T.ti_Way _ _ _ _ hy), T.kk_Way, _, rfl, iteT ?_⟩
    refine ⟨_, rfl, x, _, dx, _, _, rfl, hx, T.cl_Way, T.no_Way_held, wayF_held _ _ _ _, _, rfl, y, _, dy, _, _, rfl, hy, T.cl_Way, T.no_Way_held, wayF_held _ _ _ _, rfl, _, rfl, ?_⟩
    rw [dec_str ha ha']
    refine iteD (fun k1 => ?_) (fun k1 => ?_)
    · rw [decide_eq_true k1] at q1
      refine ⟨_, rfl, x, _, dx, _, _, rfl, hx, T.cl_Way, T.no_Way_owned, wayF_owned _ _ _ _, _, rfl, y, _, dy, _, _, rfl, hy, T.cl_Way, T.no_Way_owned, wayF_owned _ _ _ _, rfl, _, rfl, ?_⟩
      rw [dec_str hb hb']
      refine iteD (fun k2 => ?_) (fun k2 => ?_)
      · rw [decide_eq_true k2] at q1
        refine ⟨_, rfl, x, _, dx, _, _, rfl, hx, T.cl_Way, T.no_Way_seen, wayF_seen _ _ _ _, _, rfl, y, _, dy, _, _, rfl, hy, T.cl_Way, T.no_Way_seen, wayF_seen _ _ _ _, rfl, _, rfl, ?_⟩
        rw [dec_str hc hc']
        refine iteD (fun k3 => ?_) (fun k3 => ?_)
        · rw [decide_eq_true k3] at q1
          refine ⟨_, rfl, x, _, dx, _, _, rfl, hx, T.cl_Way, T.no_Way_early, wayF_early _ _ _ _, _, rfl, y, _, dy, _, _, rfl, hy, T.cl_Way, T.no_Way_early, wayF_early _ _ _ _, rfl, ?_⟩
          rw [dec_bl]
          exact q1
        · rw [decide_eq_false k3] at q1; exact q1
      · rw [decide_eq_false k2] at q1; exact q1
    · rw [decide_eq_false k1] at q1; exact q1
theorem ok_Way_le (T : Txt K mg) : FnOk P w K mg base CX0 2 T.a_Way_le T.fd_Way_le ["self", "other"] (spTwo T.c_Way leB) := by
  refine T.F_Way_le.ok sc_Way_le (fun vs H Q E h => ?_) (fun cdv A outer s H vs Q E hr h => ?_)
  · obtain ⟨x, y, a, b, c, e, a', b', c', e', rfl, _⟩ := h; rfl
  · obtain ⟨x, y, a, b, c, e, a', b', c', e', rfl, ⟨dx, hx⟩, ⟨dy, hy⟩, ha, hb, hc, ha', hb', hc', q⟩ := h
    refine ⟨_, (pss_cons (ps_if (pt_not (pt_val (pe_callB call_isi (by rfl) T.n_isinstance (by decide +kernel) (pa_cons (pv 1) (pa_cons (pe_glob (v := .ref T.c_Way) (by rfl) T.g_Way rfl) pa_nil))))) (pss_one ps_never) pss_nil)
      (C8.pss_cut (ps_if (PW.pt (pw_and (pt_val (pe_fld (pv 1) rfl)) (pw_and1 (pt_not (pt_val (pe_fld (pv 0) rfl)))))) (pss_one (ps_ret (pe_bl))) pss_nil)
      (pss_one (ps_ret (pe_and (pe_cmpR op_ge (pe_call (ok_rank T) (hr.mono (by omega)) (by rfl) T.g_rank T.F_rank.kp T.b_rank .nil pass0 (pa_cons (pe_fld (pv 0) rfl) pa_nil)) (pe_call (ok_rank T) (hr.mono (by omega)) (by rfl) T.g_rank T.F_rank.kp T.b_rank .nil pass0 (pa_cons (pe_fld (pv 1) rfl) pa_nil)) (nomark _)) (pe_and (pe_cmpR op_ge (pe_call (ok_rank T) (hr.mono (by omega)) (by rfl) T.g_rank T.F_rank.kp T.b_rank .nil pass0 (pa_cons (pe_fld (pv 0) rfl) pa_nil)) (pe_call (ok_rank T) (hr.mono (by omega)) (by rfl) T.g_rank T.F_rank.kp T.b_rank .nil pass0 (pa_cons (pe_fld (pv 1) rfl) pa_nil)) (nomark _)) (pe_one (pe_cmpR op_ge (pe_call (ok_rank T) (hr.mono (by omega)) (by rfl) T.g_rank T.F_rank.kp T.b_rank .nil pass0 (pa_cons (pe_fld (pv 0) rfl) pa_nil)) (pe_call (ok_rank T) (hr.mono (by omega)) (by rfl) T.g_rank T.F_rank.kp T.b_rank .nil pass0 (pa_cons (pe_fld (pv 1) rfl) pa_nil)) (nomark _))))))))), ?_⟩
    refine ⟨_, rfl, _, _, _, _, true, rfl, ClsV.own _, .base (T.ti_Way _ _ _ _ hy), T.kk_Way, _, rfl, iteF ?_⟩
    refine ⟨fun σ' H' => H' = H ∧ σ' = [some (.ref x), some (.ref y)] ∧ (e' && !e) = false, ?_, ?_⟩
    · refine ⟨_, rfl, y, _, dy, _, _, rfl, hy, T.cl_Way, T.no_Way_early, wayF_early _ _ _ _, _, rfl, ?_⟩
      cases e' with
      | false => exact ⟨rfl, rfl, rfl⟩
      | true =>
        refine ⟨_, rfl, x, _, dx, _, _, rfl, hx, T.cl_Way, T.no_Way_early, wayF_early _ _ _ _, _, rfl, ?_⟩
        cases e with
        | true => exact ⟨rfl, rfl, rfl⟩
        | false => exact q H (Same.refl H)
    rintro σ' H' ⟨rfl, rfl, hel⟩
    unfold leB at q
    rw [hel] at q
    refine ⟨_, rfl, x, _, dx, _, _, rfl, hx, T.cl_Way, T.no_Way_held, wayF_held _ _ _ _, _, a, rfl, levn_get ha, fun H1 s1 => ?_⟩
    refine ⟨_, rfl, y, _, dy, _, _, rfl, s1 _ _ hy, T.cl_Way, T.no_Way_held, wayF_held _ _ _ _, _, a', rfl, levn_get ha', fun H2 s2 => ?_⟩
    have t2 := s1.trans s2
    refine ⟨_, _, rfl, rfl, _, rfl, iteD (fun k1 => ?_) (fun k1 => ?_)⟩
    · rw [decide_eq_true (by omega : a' ≤ a)] at q
      refine ⟨_, rfl, x, _, dx, _, _, rfl, t2 _ _ hx, T.cl_Way, T.no_Way_owned, wayF_owned _ _ _ _, _, b, rfl, levn_get hb, fun H3 s3 => ?_⟩
      have t3 := t2.trans s3
      refine ⟨_, rfl, y, _, dy, _, _, rfl, t3 _ _ hy, T.cl_Way, T.no_Way_owned, wayF_owned _ _ _ _, _, b', rfl, levn_get hb', fun H4 s4 => ?_⟩
      have t4 := t3.trans s4
      refine ⟨_, _, rfl, rfl, _, rfl, iteD (fun k2 => ?_) (fun k2 => ?_)⟩
      · rw [decide_eq_true (by omega : b' ≤ b)] at q
        refine ⟨_, rfl, x, _, dx, _, _, rfl, t4 _ _ hx, T.cl_Way, T.no_Way_seen, wayF_seen _ _ _ _, _, c, rfl, levn_get hc, fun H5 s5 => ?_⟩
        have t5 := t4.trans s5
        refine ⟨_, rfl, y, _, dy, _, _, rfl, t5 _ _ hy, T.cl_Way, T.no_Way_seen, wayF_seen _ _ _ _, _, c', rfl, levn_get hc', fun H6 s6 => ?_⟩
        refine ⟨_, _, rfl, rfl, ?_⟩
        have q1 := q H6 (t5.trans s6)
        rw [show decide (c' ≤ c) = decide ((c' : Int) ≤ (c : Int)) from decide_eq_decide.mpr (by omega)] at q1
        exact q1
      · rw [decide_eq_false (by omega : ¬ b' ≤ b)] at q; exact q H4 t4
    · rw [decide_eq_false (by omega : ¬ a' ≤ a)] at q; exact q H2 t2
end
end My

namespace My
open PySem L2
/-! ### the law's own ways: ranks and a flag in a list -/
abbrev LwO (a b c : Nat) (e : Bool) : HO := .lst [.int a, .int b, .int c, .bl e]
def Adj (a b c : Nat) : Prop := b ≤ a ∧ a ≤ c ∧ c < 4
def spLWay (K : PySem.W.Frag) : Sp := fun vs H Q _ => ∃ (d t : Addr), vs = [.ref d, .ref t] ∧ Dr K H d t ∧ ∀ (p : Addr) (a b c : Nat) (e : Bool) H', Adj a b c → Dr K H' d t → But t H H' → H p = none → H' p = some (LwO a b c e) → Q (.ref p) H'
def spMade (K : PySem.W.Frag) (C : Addr) : Sp := fun vs H Q _ => ∃ (p : Addr) (a b c : Nat) (e : Bool), vs = [.ref p] ∧ Adj a b c ∧ SqL K H p [.int a, .int b, .int c, .bl e] ∧ ∀ x H', Same H H' → H x = none → Wy C H' x a b c e → Q (.ref x) H'
def spAdj (K : PySem.W.Frag) : Sp := fun vs H Q _ => ∃ (p : Addr) (a b c : Nat) (e : Bool), vs = [.ref p] ∧ a < 4 ∧ b < 4 ∧ c < 4 ∧ SqL K H p [.int a, .int b, .int c, .bl e] ∧ ∀ r, H r = none → Q (.ref r) (upd H r (LwO (max a b) b (max c (max a b)) e))
def spFields (C : Addr) : Sp := fun vs H Q _ => ∃ (x : Addr) (a b c : Nat) (e : Bool), vs = [.ref x] ∧ Wy C H x a b c e ∧ ∀ r, H r = none → Q (.ref r) (upd H r (.lst [.str (levn a), .str (levn b), .str (levn c), .bl e]))
def spWords (K : PySem.W.Frag) : Sp := fun vs H Q _ => ∃ (p : Addr) (a b c : Nat) (e : Bool), vs = [.ref p] ∧ a < 4 ∧ b < 4 ∧ c < 4 ∧ SqL K H p [.int a, .int b, .int c, .bl e] ∧ ∀ r H', Same H H' → H r = none → H' r = some (.lst [.str (levn a), .str (levn b), .str (levn c), .bl e]) → Q (.ref r) H'
def spSecond (K : PySem.W.Frag) : Sp := fun vs H Q _ => ∃ (d t f : Addr) (a b c : Nat) (e : Bool), vs = [.ref d, .ref t, .ref f] ∧ Dr K H d t ∧ Adj a b c ∧ f ≠ t ∧ H f = some (LwO a b c e) ∧ ∀ (p : Addr) (a b c : Nat) (e : Bool) H', Adj a b c → Dr K H' d t → But t H H' → H p = none → H' p = some (LwO a b c e) → Q (.ref p) H'
section
variable {P : Program} {w : World} {K : PySem.W.Frag} {mg : Str → Option Value} {base : Heap}
theorem ok__law_way (T : Txt K mg) : FnOk P w K mg base CX0 2 T.a__law_way T.fd__law_way ["_law_draws_here", "_law_at"] (spLWay K) := by
  refine T.F__law_way.ok sc__law_way (fun vs H Q E h => ?_) (fun cdv A outer s H vs Q E hr h => ?_)
  · obtain ⟨d, t, rfl, _⟩ := h; rfl
  · obtain ⟨d, t, rfl, D, q⟩ := h
    refine ⟨_, (pss_cons (ps_set (i := 2) sc__law_way.nd rfl (.inl rfl) (pe_lst (pa_cons (pe_lst (pa_cons (pe_int) (pa_cons (pe_int) (pa_cons (pe_int) (pa_cons (pe_bl) pa_nil))))) (pa_cons (pe_lst (pa_cons (pe_int) (pa_cons (pe_int) (pa_cons (pe_int) (pa_cons (pe_bl) pa_nil))))) (pa_cons (pe_lst (pa_cons (pe_int) (pa_cons (pe_int) (pa_cons (pe_int) (pa_cons (pe_bl) pa_nil))))) (pa_cons (pe_lst (pa_cons (pe_int) (pa_cons (pe_int) (pa_cons (pe_int) (pa_cons (pe_bl) pa_nil))))) (pa_cons (pe_lst (pa_cons (pe_int) (pa_cons (pe_int) (pa_cons (pe_int) (pa_cons (pe_bl) pa_nil))))) pa_nil)))))))
      (pss_cons (ps_set (i := 3) sc__law_way.nd rfl (.inl rfl) (pe_call (ok__law_take T) (hr.mono (by omega)) (by rfl) T.g__law_take T.F__law_take.kp T.b__law_take .nil pass0 (pa_cons (pv 0) (pa_cons (pv 1) (pa_cons (pe_int) pa_nil)))))
      (pss_cons (ps_if (pt_cmpR op_lt (pv 3) (pe_int) (nomark _)) (pss_one (ps_ret (pe_ix ix_list (pv 2) (pv 3) (fun _ _ => rfl)))) pss_nil)
      (pss_cons (ps_set (i := 4) sc__law_way.nd rfl (.inl rfl) (pe_call (ok__law_take T) (hr.mono (by omega)) (by rfl) T.g__law_take T.F__law_take.kp T.b__law_take .nil pass0 (pa_cons (pv 0) (pa_cons (pv 1) (pa_cons (pe_int) pa_nil)))))
      (pss_cons (ps_set (i := 5) sc__law_way.nd rfl (.inl rfl) (pe_op op_add (pv 4) (pe_call (ok__law_take T) (hr.mono (by omega)) (by rfl) T.g__law_take T.F__law_take.kp T.b__law_take .nil pass0 (pa_cons (pv 0) (pa_cons (pv 1) (pa_cons (pe_op op_sub (pe_int) (pv 4)) pa_nil))))))
      (pss_cons (ps_set (i := 6) sc__law_way.nd rfl (.inl rfl) (pe_op op_add (pv 5) (pe_call (ok__law_take T) (hr.mono (by omega)) (by rfl) T.g__law_take T.F__law_take.kp T.b__law_take .nil pass0 (pa_cons (pv 0) (pa_cons (pv 1) (pa_cons (pe_op op_sub (pe_int) (pv 5)) pa_nil))))))
      (pss_one (ps_ret (pe_lst (pa_cons (pv 5) (pa_cons (pv 4) (pa_cons (pv 6) (pa_cons (pe_cmpR op_eq (pe_call (ok__law_take T) (hr.mono (by omega)) (by rfl) T.g__law_take T.F__law_take.kp T.b__law_take .nil pass0 (pa_cons (pv 0) (pa_cons (pv 1) (pa_cons (pe_int) pa_nil)))) (pe_int) (nomark _)) pa_nil))))))))))))), ?_⟩
    refine ⟨by show 4 ≤ sizeLine; decide, fun p1 n1 => ⟨by show 4 ≤ sizeLine; decide, fun p2 n2 => ⟨by show 4 ≤ sizeLine; decide, fun p3 n3 => ⟨by show 4 ≤ sizeLine; decide, fun p4 n4 => ⟨by show 4 ≤ sizeLine; decide, fun p5 n5 => ⟨by show 5 ≤ sizeLine; decide, fun pm nm => ?_⟩⟩⟩⟩⟩⟩
    have s1 := same_new (o := LwO 1 1 1 false) n1
    have s2 := same_new (o := LwO 2 2 2 false) n2
    have s3 := same_new (o := LwO 1 1 3 false) n3
    have s4 := same_new (o := LwO 0 0 0 true) n4
    have s5 := same_new (o := LwO 1 0 1 false) n5
    have s6 := same_new (o := .lst [.ref p1, .ref p2, .ref p3, .ref p4, .ref p5]) nm
    have g1 := s6 _ _ (s5 _ _ (s4 _ _ (s3 _ _ (s2 _ _ (upd_same (H := H) (a := p1) (o := LwO 1 1 1 false))))))
    have g2 := s6 _ _ (s5 _ _ (s4 _ _ (s3 _ _ (upd_same (H := upd H p1 (LwO 1 1 1 false)) (a := p2) (o := LwO 2 2 2 false)))))
    have g3 := s6 _ _ (s5 _ _ (s4 _ _ (upd_same (H := upd (upd H p1 (LwO 1 1 1 false)) p2 (LwO 2 2 2 false)) (a := p3) (o := LwO 1 1 3 false))))
    have g4 := s6 _ _ (s5 _ _ (upd_same (H := upd (upd (upd H p1 (LwO 1 1 1 false)) p2 (LwO 2 2 2 false)) p3 (LwO 1 1 3 false)) (a := p4) (o := LwO 0 0 0 true)))
    have g5 := s6 _ _ (upd_same (H := upd (upd (upd (upd H p1 (LwO 1 1 1 false)) p2 (LwO 2 2 2 false)) p3 (LwO 1 1 3 false)) p4 (LwO 0 0 0 true)) (a := p5) (o := LwO 1 0 1 false))
    have gm := upd_same (H := upd (upd (upd (upd (upd H p1 (LwO 1 1 1 false)) p2 (LwO 2 2 2 false)) p3 (LwO 1 1 3 false)) p4 (LwO 0 0 0 true)) p5 (LwO 1 0 1 false)) (a := pm) (o := .lst [.ref p1, .ref p2, .ref p3, .ref p4, .ref p5])
    have sA : Same H _ := ((((s1.trans s2).trans s3).trans s4).trans s5).trans s6
    have f2 := s1.free n2
    have f3 := (s1.trans s2).free n3
    have f4 := ((s1.trans s2).trans s3).free n4
    have f5 := (((s1.trans s2).trans s3).trans s4).free n5
    have D1 := D.same sA
    have nmt : pm ≠ t := D.na ((((((s1.trans s2).trans s3).trans s4).trans s5)).free nm)
    revert g1 g2 g3 g4 g5 gm sA D1
    generalize upd (upd (upd (upd (upd (upd H p1 (LwO 1 1 1 false)) p2 (LwO 2 2 2 false)) p3 (LwO 1 1 3 false)) p4 (LwO 0 0 0 true)) p5 (LwO 1 0 1 false)) pm (.lst [.ref p1, .ref p2, .ref p3, .ref p4, .ref p5]) = H1
    intro g1 g2 g3 g4 g5 gm sA D1
    refine ⟨_, rfl, _, rfl, d, t, 9, rfl, D1, by decide, fun r H2 h0 h1 D2 b2 => ?_⟩
    have bA : But t H H2 := (But.of_same sA).trans b2
    refine ⟨_, rfl, _, _, rfl, rfl, _, rfl, iteD (fun k => ?_) (fun k => ?_)⟩
    · obtain ⟨v, hv, mv⟩ := at_ok (xs := [V.ref p1, .ref p2, .ref p3, .ref p4, .ref p5]) h0 (by simpa using k)
      refine ⟨_, rfl, _, rfl, _, _, _, _, rfl, rfl, SqL.of (b2 _ _ nmt gm), hv, ?_⟩
      simp only [List.mem_cons, List.not_mem_nil, or_false] at mv
      rcases mv with rfl | rfl | rfl | rfl | rfl
      · exact q p1 1 1 1 false H2 ⟨by decide, by decide, by decide⟩ D2 bA n1 (b2 _ _ (D.na n1) g1)
      · exact q p2 2 2 2 false H2 ⟨by decide, by decide, by decide⟩ D2 bA f2 (b2 _ _ (D.na f2) g2)
      · exact q p3 1 1 3 false H2 ⟨by decide, by decide, by decide⟩ D2 bA f3 (b2 _ _ (D.na f3) g3)
      · exact q p4 0 0 0 true H2 ⟨by decide, by decide, by decide⟩ D2 bA f4 (b2 _ _ (D.na f4) g4)
      · exact q p5 1 0 1 false H2 ⟨by decide, by decide, by decide⟩ D2 bA f5 (b2 _ _ (D.na f5) g5)
    · refine ⟨_, rfl, _, rfl, d, t, 4, rfl, D2, by decide, fun r1 H3 h10 h11 D3 b3 => ?_⟩
      obtain ⟨i1, rfl⟩ := Int.eq_ofNat_of_zero_le h10
      refine ⟨_, rfl, _, rfl, _, rfl, _, rfl, _, _, rfl, rfl, d, t, _, rfl, D3, by omega, fun r2 H4 h20 h21 D4 b4 => ⟨_, _, rfl, rfl, ?_⟩⟩
      obtain ⟨i2, rfl⟩ := Int.eq_ofNat_of_zero_le h20
      refine ⟨_, rfl, _, rfl, _, rfl, _, rfl, _, _, rfl, rfl, d, t, _, rfl, D4, by omega, fun r3 H5 h30 h31 D5 b5 => ⟨_, _, rfl, rfl, ?_⟩⟩
      obtain ⟨i3, rfl⟩ := Int.eq_ofNat_of_zero_le h30
      refine ⟨_, rfl, _, rfl, _, rfl, _, rfl, _, rfl, d, t, 2, rfl, D5, by decide, fun r4 H6 _ _ D6 b6 => ⟨rfl, by show 4 ≤ sizeLine; decide, fun p hp => ?_⟩⟩
      have bB := (((bA.trans b3).trans b4).trans b5).trans b6
      have e1 : ((i1 : Int) + (i2 : Int)) = ((i1 + i2 : Nat) : Int) := by omega
      have e2 : ((i1 : Int) + (i2 : Int) + (i3 : Int)) = ((i1 + i2 + i3 : Nat) : Int) := by omega
      refine q p (i1 + i2) i1 (i1 + i2 + i3) (decide (V.int r4 = V.int 1)) _ ⟨by omega, by omega, by omega⟩ (D6.same (same_new hp)) (bB.trans (But.new hp)) (bB.free (D6.na hp) hp) ?_
      rw [upd_same]
      show some (HO.lst [.int ((i1 : Int) + (i2 : Int)), .int (i1 : Int), .int ((i1 : Int) + (i2 : Int) + (i3 : Int)), _]) = _
      rw [e2, e1]
theorem ok__law_way_made (T : Txt K mg) : FnOk P w K mg base CX0 4 T.a__law_way_made T.fd__law_way_made ["_law_way_here"] (spMade K T.c_Way) := by
  refine T.F__law_way_made.ok sc__law_way_made (fun vs H Q E h => ?_) (fun cdv A outer s H vs Q E hr h => ?_)
  · obtain ⟨p, a, b, c, e, rfl, _⟩ := h; rfl
  · obtain ⟨p, a, b, c, e, rfl, ⟨ab, ac, c4⟩, hp, q⟩ := h
    refine ⟨_, (pss_cons (ps_set (i := 1) sc__law_way_made.nd rfl (.inl rfl) (pe_lst (pa_cons (pe_str) (pa_cons (pe_str) (pa_cons (pe_str) (pa_cons (pe_str) pa_nil))))))
      (pss_one (ps_ret (pe_makeN T.mk_Way (ok_Way_init T) (hr.mono (by omega)) (by rfl) T.g_Way T.kb_Way_init_4_early pass0 (pa_cons (pe_ix ix_list (pv 1) (pe_ix ix_list (pv 0) (pe_int) (fun _ _ => rfl)) (fun _ _ => rfl)) (pa_cons (pe_ix ix_list (pv 1) (pe_ix ix_list (pv 0) (pe_int) (fun _ _ => rfl)) (fun _ _ => rfl)) (pa_cons (pe_ix ix_list (pv 1) (pe_ix ix_list (pv 0) (pe_int) (fun _ _ => rfl)) (fun _ _ => rfl)) pa_nil))) (pk_cons (pe_ix ix_list (pv 0) (pe_int) (fun _ _ => rfl)) pk_nil))))), ?_⟩
    refine ⟨by show 4 ≤ sizeLine; decide, fun pw hw => ?_⟩
    have s1 := same_new (o := .lst levV) hw
    have W1 : (upd H pw (.lst levV)) pw = some (.lst levV) := upd_same
    have hp1 := s1.seq hp
    refine ⟨_, rfl, _, rfl, _, _, _, _, rfl, rfl, hp1, at_of (j := 0) rfl rfl, _, _, _, _, rfl, rfl, SqL.of W1, at_of (j := a) rfl (levV_at (by omega)), ?_⟩
    refine ⟨_, rfl, _, rfl, _, _, _, _, rfl, rfl, hp1, at_of (j := 1) rfl rfl, _, _, _, _, rfl, rfl, SqL.of W1, at_of (j := b) rfl (levV_at (by omega)), ?_⟩
    refine ⟨_, rfl, _, rfl, _, _, _, _, rfl, rfl, hp1, at_of (j := 2) rfl rfl, _, _, _, _, rfl, rfl, SqL.of W1, at_of (j := c) rfl (levV_at (by omega)), ?_⟩
    refine ⟨_, rfl, _, _, _, _, rfl, rfl, hp1, at_of (j := 3) rfl rfl, rfl, rfl, fun x dx nx ndx ne => ⟨x, dx, a, b, c, e, rfl, by omega, by omega, by omega, upd_same, fun H8 b8 hx8 => ⟨rfl, ?_⟩⟩⟩
    rw [Nat.max_eq_left ab, Nat.max_eq_left ac] at hx8
    exact q x H8 (s1.trans (same_make nx ndx b8)) (s1.free nx) ⟨dx, hx8⟩
theorem ok__law_adjusted (T : Txt K mg) : FnOk P w K mg base CX0 1 T.a__law_adjusted T.fd__law_adjusted ["_law_ranks"] (spAdj K) := by
  refine T.F__law_adjusted.ok sc__law_adjusted (fun vs H Q E h => ?_) (fun cdv A outer s H vs Q E hr h => ?_)
  · obtain ⟨p, a, b, c, e, rfl, _⟩ := h; rfl
  · obtain ⟨p, a, b, c, e, rfl, ha, hb, hc, hp, q⟩ := h
    refine ⟨_, (pss_cons (ps_set (i := 1) sc__law_adjusted.nd rfl (.inl rfl) (pe_ix ix_list (pv 0) (pe_int) (fun _ _ => rfl)))
      (C8.pss_cut (ps_if (pt_cmpR op_lt (pv 1) (pe_ix ix_list (pv 0) (pe_int) (fun _ _ => rfl)) (nomark _)) (pss_one (ps_set (i := 1) sc__law_adjusted.nd rfl (.inl rfl) (pe_ix ix_list (pv 0) (pe_int) (fun _ _ => rfl)))) pss_nil)
      (pss_cons (ps_set (i := 2) sc__law_adjusted.nd rfl (.inl rfl) (pe_ix ix_list (pv 0) (pe_int) (fun _ _ => rfl)))
      (C8.pss_cut (ps_if (pt_cmpR op_lt (pv 2) (pv 1) (nomark _)) (pss_one (ps_set (i := 2) sc__law_adjusted.nd rfl (.inl rfl) (pv 1))) pss_nil)
      (pss_one (ps_ret (pe_lst (pa_cons (pv 1) (pa_cons (pe_ix ix_list (pv 0) (pe_int) (fun _ _ => rfl)) (pa_cons (pv 2) (pa_cons (pe_ix ix_list (pv 0) (pe_int) (fun _ _ => rfl)) pa_nil))))))))))), ?_⟩
    refine ⟨_, rfl, _, _, _, _, rfl, rfl, hp, at_of (j := 0) rfl rfl, ?_⟩
    refine ⟨fun σ' H' => H' = H ∧ σ' = [some (.ref p), some (.int (max a b : Nat)), none], ?_, ?_⟩
    · refine ⟨_, rfl, _, rfl, _, _, _, _, rfl, rfl, hp, at_of (j := 1) rfl rfl, _, _, rfl, rfl, _, rfl, iteD (fun k => ?_) (fun k => ?_)⟩
      · exact ⟨_, rfl, _, _, _, _, rfl, rfl, hp, at_of (j := 1) rfl rfl, rfl, by rw [Nat.max_eq_right (by omega)]; try rfl⟩
      · exact ⟨rfl, by rw [Nat.max_eq_left (by omega)]; try rfl⟩
    rintro σ' H' ⟨rfl, rfl⟩
    refine ⟨_, rfl, _, _, _, _, rfl, rfl, hp, at_of (j := 2) rfl rfl, ?_⟩
    refine ⟨fun σ' H'' => H'' = H' ∧ σ' = [some (.ref p), some (.int (max a b : Nat)), some (.int (max c (max a b) : Nat))], ?_, ?_⟩
    · refine ⟨_, rfl, _, rfl, _, _, rfl, rfl, _, rfl, iteD (fun k => ?_) (fun k => ?_)⟩
      · exact ⟨_, rfl, rfl, by rw [Nat.max_eq_right (by omega : c ≤ max a b)]; try rfl⟩
      · exact ⟨rfl, by rw [Nat.max_eq_left (by omega : max a b ≤ c)]; try rfl⟩
    rintro σ' H'' ⟨rfl, rfl⟩
    refine ⟨_, rfl, _, rfl, _, _, _, _, rfl, rfl, hp, at_of (j := 1) rfl rfl, _, rfl, _, rfl, _, _, _, _, rfl, rfl, hp, at_of (j := 3) rfl rfl, by show 4 ≤ sizeLine; decide, fun r hr => ?_⟩
    exact q r hr
theorem ok__law_fields (T : Txt K mg) : FnOk P w K mg base CX0 1 T.a__law_fields T.fd__law_fields ["_law_way_here"] (spFields T.c_Way) := by
  refine T.F__law_fields.ok sc__law_fields (fun vs H Q E h => ?_) (fun cdv A outer s H vs Q E hr h => ?_)
  · obtain ⟨p, a, b, c, e, rfl, _⟩ := h; rfl
  · obtain ⟨x, a, b, c, e, rfl, ⟨dx, hx⟩, q⟩ := h
    refine ⟨_, (pss_one (ps_ret (pe_lst (pa_cons (pe_fld (pv 0) rfl) (pa_cons (pe_fld (pv 0) rfl) (pa_cons (pe_fld (pv 0) rfl) (pa_cons (pe_fld (pv 0) rfl) pa_nil))))))), ?_⟩
    refine ⟨_, rfl, x, T.c_Way, dx, _, _, rfl, hx, T.cl_Way, T.no_Way_held, wayF_held _ _ _ _, _, rfl, x, T.c_Way, dx, _, _, rfl, hx, T.cl_Way, T.no_Way_owned, wayF_owned _ _ _ _, _, rfl, x, T.c_Way, dx, _, _, rfl, hx, T.cl_Way, T.no_Way_seen, wayF_seen _ _ _ _,
      _, rfl, x, T.c_Way, dx, _, _, rfl, hx, T.cl_Way, T.no_Way_early, wayF_early _ _ _ _, by show 4 ≤ sizeLine; decide, fun r hr => q r hr⟩
theorem ok__law_words (T : Txt K mg) : FnOk P w K mg base CX0 1 T.a__law_words T.fd__law_words ["_law_ranks"] (spWords K) := by
  refine T.F__law_words.ok sc__law_words (fun vs H Q E h => ?_) (fun cdv A outer s H vs Q E hr h => ?_)
  · obtain ⟨p, a, b, c, e, rfl, _⟩ := h; rfl
  · obtain ⟨p, a, b, c, e, rfl, ha, hb, hc, hp, q⟩ := h
    refine ⟨_, (pss_cons (ps_set (i := 1) sc__law_words.nd rfl (.inl rfl) (pe_lst (pa_cons (pe_str) (pa_cons (pe_str) (pa_cons (pe_str) (pa_cons (pe_str) pa_nil))))))
      (pss_one (ps_ret (pe_lst (pa_cons (pe_ix ix_list (pv 1) (pe_ix ix_list (pv 0) (pe_int) (fun _ _ => rfl)) (fun _ _ => rfl)) (pa_cons (pe_ix ix_list (pv 1) (pe_ix ix_list (pv 0) (pe_int) (fun _ _ => rfl)) (fun _ _ => rfl)) (pa_cons (pe_ix ix_list (pv 1) (pe_ix ix_list (pv 0) (pe_int) (fun _ _ => rfl)) (fun _ _ => rfl)) (pa_cons (pe_ix ix_list (pv 0) (pe_int) (fun _ _ => rfl)) pa_nil)))))))), ?_⟩
    refine ⟨by show 4 ≤ sizeLine; decide, fun pw hw => ?_⟩
    have s1 := same_new (o := .lst levV) hw
    have W1 : (upd H pw (.lst levV)) pw = some (.lst levV) := upd_same
    have hp1 := s1.seq hp
    refine ⟨_, rfl, _, rfl, _, _, _, _, rfl, rfl, hp1, at_of (j := 0) rfl rfl, _, _, _, _, rfl, rfl, SqL.of W1, at_of (j := a) rfl (levV_at ha), ?_⟩
    refine ⟨_, rfl, _, rfl, _, _, _, _, rfl, rfl, hp1, at_of (j := 1) rfl rfl, _, _, _, _, rfl, rfl, SqL.of W1, at_of (j := b) rfl (levV_at hb), ?_⟩
    refine ⟨_, rfl, _, rfl, _, _, _, _, rfl, rfl, hp1, at_of (j := 2) rfl rfl, _, _, _, _, rfl, rfl, SqL.of W1, at_of (j := c) rfl (levV_at hc), ?_⟩
    refine ⟨_, rfl, _, _, _, _, rfl, rfl, hp1, at_of (j := 3) rfl rfl, by show 4 ≤ sizeLine; decide, fun r hr => ?_⟩
    exact q r _ (s1.trans (same_new hr)) (s1.free hr) upd_same
end
end My

namespace My
open PySem L2
section
variable {P : Program} {w : World} {K : PySem.W.Frag} {mg : Str → Option Value} {base : Heap}
theorem ok__law_second (T : Txt K mg) : FnOk P w K mg base CX0 3 T.a__law_second T.fd__law_second ["_law_draws_here", "_law_at", "_law_first"] (spSecond K) := by
  refine T.F__law_second.ok sc__law_second (fun vs H Q E h => ?_) (fun cdv A outer s H vs Q E hr h => ?_)
  · obtain ⟨d, t, f, a, b, c, e, rfl, _⟩ := h; rfl
  · obtain ⟨d, t, f, a, b, c, e, rfl, D, ⟨ab, ac, c4⟩, ft, hf, q⟩ := h
    refine ⟨_, (pss_cons (ps_set (i := 3) sc__law_second.nd rfl (.inl rfl) (pe_call (ok__law_take T) (hr.mono (by omega)) (by rfl) T.g__law_take T.F__law_take.kp T.b__law_take .nil pass0 (pa_cons (pv 0) (pa_cons (pv 1) (pa_cons (pe_int) pa_nil)))))
      (pss_cons (ps_set (i := 4) sc__law_second.nd rfl (.inl rfl) (pe_lst (pa_cons (pe_ix ix_list (pv 2) (pe_int) (fun _ _ => rfl)) (pa_cons (pe_ix ix_list (pv 2) (pe_int) (fun _ _ => rfl)) (pa_cons (pe_ix ix_list (pv 2) (pe_int) (fun _ _ => rfl)) (pa_cons (pe_ix ix_list (pv 2) (pe_int) (fun _ _ => rfl)) pa_nil))))))
      (pss_cons (ps_if (pt_cmpR op_lt (pv 3) (pe_int) (nomark _)) (pss_cons (ps_asg (pe_call (ok__law_take T) (hr.mono (by omega)) (by rfl) T.g__law_take T.F__law_take.kp T.b__law_take .nil pass0 (pa_cons (pv 0) (pa_cons (pv 1) (pa_cons (pe_int) pa_nil)))) (pg_sub (pv 4) (pv 3) set_list))
      (pss_one (ps_ret (pe_call (ok__law_adjusted T) (hr.mono (by omega)) (by rfl) T.g__law_adjusted T.F__law_adjusted.kp T.b__law_adjusted .nil pass0 (pa_cons (pv 4) pa_nil))))) pss_nil)
      (pss_cons (ps_if (pt_cmpR op_eq (pv 3) (pe_int) (nomark _)) (pss_cons (ps_asg (pe_not (pe_ix ix_list (pv 4) (pe_int) (fun _ _ => rfl))) (pg_sub (pv 4) (pe_int) set_list))
      (pss_one (ps_ret (pv 4)))) pss_nil)
      (pss_cons (ps_if (pt_cmpR op_eq (pv 3) (pe_int) (nomark _)) (pss_one (ps_ret (pv 4))) pss_nil)
      (pss_one (ps_ret (pe_call (ok__law_way T) (hr.mono (by omega)) (by rfl) T.g__law_way T.F__law_way.kp T.b__law_way .nil pass0 (pa_cons (pv 0) (pa_cons (pv 1) pa_nil)))))))))), ?_⟩
    refine ⟨_, rfl, _, rfl, d, t, 8, rfl, D, by decide, fun r H1 h0 h1 D1 b1 => ?_⟩
    have f1 := b1 _ _ ft hf
    refine ⟨_, rfl, _, _, _, _, rfl, rfl, SqL.of f1, at_of (j := 0) rfl rfl, _, rfl, _, _, _, _, rfl, rfl, SqL.of f1, at_of (j := 1) rfl rfl, _, rfl, _, _, _, _, rfl, rfl, SqL.of f1, at_of (j := 2) rfl rfl, _, rfl, _, _, _, _, rfl, rfl, SqL.of f1, at_of (j := 3) rfl rfl, by show 4 ≤ sizeLine; decide, fun p hp => ?_⟩
    have np : p ≠ t := D1.na hp
    have n0 : H p = none := b1.free np hp
    have D2 := D1.same (same_new (o := LwO a b c e) hp)
    have b2 : But t H (upd H1 p (LwO a b c e)) := b1.trans (But.new hp)
    refine ⟨_, rfl, _, _, rfl, rfl, _, rfl, iteD (fun k => ?_) (fun k => ?_)⟩
    · refine ⟨_, rfl, _, rfl, d, t, 4, rfl, D2, by decide, fun r2 H3 g0 g1 D3 b3 => ?_⟩
      obtain ⟨i, rfl⟩ := Int.eq_ofNat_of_zero_le g0
      have P3 : H3 p = some (LwO a b c e) := b3 _ _ np upd_same
      have fin : ∀ a' b' c', a' < 4 → b' < 4 → c' < 4 → ∀ r, (upd H3 p (LwO a' b' c' e)) r = none → Q (.ref r) (upd (upd H3 p (LwO a' b' c' e)) r (LwO (max a' b') b' (max c' (max a' b')) e)) := fun a' b' c' ha hb hc r hr => by
        have n3 : H3 r = none := by
          rw [upd_ne (fun z => by rw [z, upd_same] at hr; cases hr)] at hr
          exact hr
        have b4 : But t H (upd H3 p (LwO a' b' c' e)) := (b2.trans b3).mut n0
        have D4 : Dr K (upd H3 p (LwO a' b' c' e)) d t := D3.other But.upd (ne_of_none D1.ds.choose_spec hp) np.symm
        exact q r _ _ _ e _ ⟨by omega, by omega, by omega⟩ (D4.same (same_new hr)) (b4.trans (But.new hr)) ((b2.trans b3).free (D3.na n3) n3) upd_same
      rcases (by omega : r = 0 ∨ r = 1 ∨ r = 2) with rfl | rfl | rfl
      · refine ⟨_, rfl, _, rfl, _, _, _, 0, rfl, rfl, P3, rfl, ?_⟩
        exact ⟨_, rfl, p, i, b, c, e, rfl, by omega, by omega, by omega, SqL.of upd_same, fun r hr => fin i b c (by omega) (by omega) (by omega) r hr⟩
      · refine ⟨_, rfl, _, rfl, _, _, _, 1, rfl, rfl, P3, rfl, ?_⟩
        exact ⟨_, rfl, p, a, i, c, e, rfl, by omega, by omega, by omega, SqL.of upd_same, fun r hr => fin a i c (by omega) (by omega) (by omega) r hr⟩
      · refine ⟨_, rfl, _, rfl, _, _, _, 2, rfl, rfl, P3, rfl, ?_⟩
        exact ⟨_, rfl, p, a, b, i, e, rfl, by omega, by omega, by omega, SqL.of upd_same, fun r hr => fin a b i (by omega) (by omega) (by omega) r hr⟩
    refine ⟨_, rfl, rfl, _, rfl, iteD (fun k => ?_) (fun k => ?_)⟩
    · refine ⟨_, rfl, _, _, _, _, rfl, rfl, SqL.of upd_same, at_of (j := 3) rfl rfl, _, rfl, _, rfl, _, _, _, 3, rfl, rfl, upd_same, rfl, ?_⟩
      rw [upd_upd]
      exact ⟨_, rfl, q p a b c (!e) _ ⟨ab, ac, c4⟩ (D1.same (same_new hp)) (b1.trans (But.new hp)) n0 upd_same⟩
    refine ⟨_, rfl, rfl, _, rfl, iteD (fun k => ?_) (fun k => ?_)⟩
    · exact ⟨_, rfl, q p a b c e _ ⟨ab, ac, c4⟩ D2 b2 n0 upd_same⟩
    refine ⟨_, rfl, _, rfl, d, t, rfl, D2, fun p' a' b' c' e' H' adj D' bb np' hp' => ?_⟩
    have nt : p' ≠ t := D2.na np'
    exact q p' a' b' c' e' H' adj D' (b2.trans bb) (b2.free nt np') hp'
end
end My

namespace My
open PySem L2
def spBelow (K : PySem.W.Frag) : Sp := fun vs H Q _ => ∃ (p p' : Addr) (a b c : Nat) (e : Bool) (a' b' c' : Nat) (e' : Bool), vs = [.ref p, .ref p'] ∧ SqL K H p [.int a, .int b, .int c, .bl e] ∧ SqL K H p' [.int a', .int b', .int c', .bl e'] ∧ Q (.bl (leB a b c e a' b' c' e')) H
section
variable {P : Program} {w : World} {K : PySem.W.Frag} {mg : Str → Option Value} {base : Heap}
theorem ok__law_below (T : Txt K mg) : FnOk P w K mg base CX0 1 T.a__law_below T.fd__law_below ["_law_one", "_law_two"] (spBelow K) := by
  refine T.F__law_below.ok sc__law_below (fun vs H Q E h => ?_) (fun cdv A outer s H vs Q E hr h => ?_)
  · obtain ⟨p, p', a, b, c, e, a', b', c', e', rfl, _⟩ := h; rfl
  · obtain ⟨p, p', a, b, c, e, a', b', c', e', rfl, h1, h2, q⟩ := h
    refine ⟨_, (C8.pss_cut (ps_if (PW.pt (pw_and (pt_val (pe_ix ix_list (pv 1) (pe_int) (fun _ _ => rfl))) (pw_and1 (pt_not (pt_val (pe_ix ix_list (pv 0) (pe_int) (fun _ _ => rfl))))))) (pss_one (ps_ret (pe_bl))) pss_nil)
      (pss_one (ps_ret (pe_and (pe_cmpR op_ge (pe_ix ix_list (pv 0) (pe_int) (fun _ _ => rfl)) (pe_ix ix_list (pv 1) (pe_int) (fun _ _ => rfl)) (nomark _)) (pe_and (pe_cmpR op_ge (pe_ix ix_list (pv 0) (pe_int) (fun _ _ => rfl)) (pe_ix ix_list (pv 1) (pe_int) (fun _ _ => rfl)) (nomark _)) (pe_one (pe_cmpR op_ge (pe_ix ix_list (pv 0) (pe_int) (fun _ _ => rfl)) (pe_ix ix_list (pv 1) (pe_int) (fun _ _ => rfl)) (nomark _)))))))), ?_⟩
    refine ⟨fun σ' H' => H' = H ∧ σ' = [some (.ref p), some (.ref p')] ∧ (e' && !e) = false, ?_, ?_⟩
    · refine ⟨_, rfl, _, _, _, _, rfl, rfl, h2, at_of (j := 3) rfl rfl, _, rfl, ?_⟩
      cases e' with
      | false => exact ⟨rfl, rfl, rfl⟩
      | true =>
        refine ⟨_, rfl, _, _, _, _, rfl, rfl, h1, at_of (j := 3) rfl rfl, _, rfl, ?_⟩
        cases e with
        | true => exact ⟨rfl, rfl, rfl⟩
        | false => exact q
    rintro σ' H' ⟨rfl, rfl, hel⟩
    unfold leB at q
    rw [hel] at q
    refine ⟨_, rfl, _, _, _, _, rfl, rfl, h1, at_of (j := 0) rfl rfl, _, rfl, _, _, _, _, rfl, rfl, h2, at_of (j := 0) rfl rfl, _, _, rfl, rfl, _, rfl, iteD (fun k => ?_) (fun k => ?_)⟩
    · rw [decide_eq_true (by omega : a' ≤ a)] at q
      refine ⟨_, rfl, _, _, _, _, rfl, rfl, h1, at_of (j := 1) rfl rfl, _, rfl, _, _, _, _, rfl, rfl, h2, at_of (j := 1) rfl rfl, _, _, rfl, rfl, _, rfl, iteD (fun k => ?_) (fun k => ?_)⟩
      · rw [decide_eq_true (by omega : b' ≤ b)] at q
        refine ⟨_, rfl, _, _, _, _, rfl, rfl, h1, at_of (j := 2) rfl rfl, _, rfl, _, _, _, _, rfl, rfl, h2, at_of (j := 2) rfl rfl, _, _, rfl, rfl, ?_⟩
        rw [show decide (c' ≤ c) = decide ((c' : Int) ≤ (c : Int)) from decide_eq_decide.mpr (by omega)] at q
        exact q
      · rw [decide_eq_false (by omega : ¬ b' ≤ b)] at q; exact q
    · rw [decide_eq_false (by omega : ¬ a' ≤ a)] at q; exact q
end
end My

namespace My
open PySem L2
/-! ### rows of ways: what is kept -/
structure Rk where
  a : Nat
  b : Nat
  c : Nat
  e : Bool
def Rk.Ok (r : Rk) : Prop := Adj r.a r.b r.c
def leR (x y : Rk) : Bool := leB x.a x.b x.c x.e y.a y.b y.c y.e
section
variable {α : Type} (le : α → α → Bool)
def covB (k : Nat) (x : α) (j : Nat) (y : α) : Bool := !decide (j = k) && (le x y && (!le y x || decide (j < k)))
def covN (rs : List α) (k : Nat) (x : α) : Nat → Bool
  | 0 => false
  | n + 1 => match rs[n]? with
    | some y => covN rs k x n || covB le k x n y
    | none => covN rs k x n
def keepN (rs : List α) : Nat → List α
  | 0 => []
  | n + 1 => match rs[n]? with
    | some x => if covN le rs n x rs.length then keepN rs n else keepN rs n ++ [x]
    | none => keepN rs n
def leftR (rs : List α) : List α := keepN le rs rs.length
variable {le}
theorem cov_no {rs : List α} {k : Nat} {x : α} : ∀ {n : Nat}, covN le rs k x n = false → ∀ {m : Nat} {y : α}, m < n → rs[m]? = some y → covB le k x m y = false
  | 0, _, m, _, h, _ => absurd h (Nat.not_lt_zero m)
  | n + 1, hc, m, y, h, e => by
    unfold covN at hc
    cases q : rs[n]? with
    | none =>
      rw [q] at hc
      rcases Nat.lt_succ_iff_lt_or_eq.mp h with z | z
      · exact cov_no hc z e
      · subst z; rw [q] at e; cases e
    | some y' =>
      rw [q] at hc
      simp only [Bool.or_eq_false_iff] at hc
      rcases Nat.lt_succ_iff_lt_or_eq.mp h with z | z
      · exact cov_no hc.1 z e
      · subst z; rw [q] at e; cases e; exact hc.2
theorem no_cov {rs : List α} {k : Nat} {x : α} : ∀ {n : Nat}, (∀ {m : Nat} {y : α}, rs[m]? = some y → covB le k x m y = false) → covN le rs k x n = false
  | 0, _ => rfl
  | n + 1, h => by
    unfold covN
    cases q : rs[n]? with
    | none => exact no_cov h
    | some y => show (covN le rs k x n || covB le k x n y) = false; rw [no_cov h, h q]; rfl
theorem keep_mem {rs : List α} : ∀ {n : Nat} {y : α}, y ∈ keepN le rs n → ∃ m, m < n ∧ rs[m]? = some y ∧ covN le rs m y rs.length = false
  | 0, _, h => by cases h
  | n + 1, y, h => by
    unfold keepN at h
    cases q : rs[n]? with
    | none => rw [q] at h; obtain ⟨m, a, b⟩ := keep_mem h; exact ⟨m, by omega, b⟩
    | some x =>
      rw [q] at h
      dsimp only at h
      cases c : covN le rs n x rs.length with
      | true => rw [c] at h; obtain ⟨m, a, b⟩ := keep_mem h; exact ⟨m, by omega, b⟩
      | false =>
        rw [c] at h
        rcases List.mem_append.mp h with z | z
        · obtain ⟨m, a, b⟩ := keep_mem z; exact ⟨m, by omega, b⟩
        · cases List.mem_singleton.mp z; exact ⟨n, by omega, q, c⟩
theorem keep_apart {rs : List α} : ∀ {n : Nat}, n ≤ rs.length → (keepN le rs n).Pairwise fun x y => le x y = false ∧ le y x = false
  | 0, _ => .nil
  | n + 1, hn => by
    unfold keepN
    cases q : rs[n]? with
    | none => exact keep_apart (by omega)
    | some x =>
      dsimp only
      cases c : covN le rs n x rs.length with
      | true => exact keep_apart (by omega)
      | false =>
        refine List.pairwise_append.mpr ⟨keep_apart (by omega), .cons (fun _ h => by cases h) .nil, fun y hy z hz => ?_⟩
        cases List.mem_singleton.mp hz
        obtain ⟨m, hm, e, cm⟩ := keep_mem hy
        have h1 := cov_no cm (by omega : n < rs.length) q
        have h2 := cov_no c (by omega : m < rs.length) e
        unfold covB at h1 h2
        rw [decide_eq_false (by omega : ¬ n = m), decide_eq_false (by omega : ¬ n < m)] at h1
        rw [decide_eq_false (by omega : ¬ m = n), decide_eq_true (by omega : m < n)] at h2
        revert h1 h2
        cases le y x <;> cases le x y <;> simp
theorem keep_all {xs : List α} (h : xs.Pairwise fun x y => le x y = false ∧ le y x = false) : ∀ n, n ≤ xs.length → keepN le xs n = xs.take n
  | 0, _ => by simp [keepN]
  | n + 1, hn => by
    unfold keepN
    have hlt : n < xs.length := by omega
    rw [List.getElem?_eq_getElem hlt]
    dsimp only
    rw [no_cov (k := n) (x := xs[n]) (rs := xs) (fun {m} {y} e => ?_)]
    · rw [keep_all h n (by omega), List.take_succ, List.getElem?_eq_getElem hlt]; rfl
    · obtain ⟨hm, rfl⟩ := List.getElem?_eq_some_iff.mp e
      have hp := List.pairwise_iff_getElem.mp h
      unfold covB
      rcases Nat.lt_trichotomy m n with z | z | z
      · rw [(hp m n hm hlt z).2]; simp
      · subst z; simp
      · rw [(hp n m hlt hm z).1]; simp
theorem left_left (rs : List α) : leftR le (leftR le rs) = leftR le rs := by
  have h := keep_all (le := le) (xs := leftR le rs) (keep_apart (Nat.le_refl _)) (leftR le rs).length (Nat.le_refl _)
  rw [List.take_length] at h
  exact h
theorem left_mem {rs : List α} {y : α} (h : y ∈ leftR le rs) : y ∈ rs := by
  obtain ⟨m, _, e, _⟩ := keep_mem h
  exact List.mem_of_getElem? e
theorem keep_len {rs : List α} (n : Nat) : (keepN le rs n).length ≤ n := by
  induction n with
  | zero => exact Nat.le_refl _
  | succ n this =>
    unfold keepN
    cases rs[n]? with
    | none => dsimp only; omega
    | some x => dsimp only; split <;> (try rw [List.length_append, List.length_singleton]) <;> omega
end
/-! ### rows on the heap -/
def All2 (f : Addr → Rk → Prop) (ps : List V) (rs : List Rk) : Prop := ps.length = rs.length ∧ ∀ (i : Nat) (r : Rk), rs[i]? = some r → ∃ q, ps[i]? = some (V.ref q) ∧ f q r
theorem All2.nil {f : Addr → Rk → Prop} : All2 f [] [] := ⟨rfl, fun i r h => by simp at h⟩
theorem All2.imp {f g : Addr → Rk → Prop} {ps : List V} {rs : List Rk} (h : All2 f ps rs) (k : ∀ q r, f q r → g q r) : All2 g ps rs :=
  ⟨h.1, fun i r e => let ⟨q, a, b⟩ := h.2 i r e; ⟨q, a, k q r b⟩⟩
theorem All2.app {f : Addr → Rk → Prop} {ps : List V} {rs : List Rk} {q : Addr} {r : Rk} (h : All2 f ps rs) (k : f q r) : All2 f (ps ++ [.ref q]) (rs ++ [r]) := by
  refine ⟨by simp [h.1], fun i x e => ?_⟩
  by_cases z : i < rs.length
  · rw [List.getElem?_append_left z] at e
    obtain ⟨p, a, b⟩ := h.2 i x e
    exact ⟨p, by rw [List.getElem?_append_left (by rw [h.1]; exact z)]; exact a, b⟩
  · rw [List.getElem?_append_right (by omega)] at e
    have z2 : i - rs.length = 0 := by
      rcases Nat.eq_zero_or_pos (i - rs.length) with z3 | z3
      · exact z3
      · rw [List.getElem?_eq_none (by simp; omega)] at e; cases e
    rw [z2] at e
    cases e
    exact ⟨q, by rw [List.getElem?_append_right (by rw [h.1]; omega), h.1, z2]; rfl, k⟩
theorem All2.get {f : Addr → Rk → Prop} {ps : List V} {rs : List Rk} (h : All2 f ps rs) {i : Nat} {x : V} (e : ps[i]? = some x) : ∃ q r, x = .ref q ∧ rs[i]? = some r ∧ f q r := by
  have hi := (List.getElem?_eq_some_iff.mp e).1
  rw [h.1] at hi
  obtain ⟨q, a, b⟩ := h.2 i rs[i] (List.getElem?_eq_getElem hi)
  exact ⟨q, rs[i], Option.some.inj (e.symm.trans a), List.getElem?_eq_getElem hi, b⟩
theorem All2.at {f : Addr → Rk → Prop} {ps : List V} {rs : List Rk} (h : All2 f ps rs) {i : Nat} (hi : i < rs.length) : ∃ q r, ps[i]? = some (.ref q) ∧ rs[i]? = some r ∧ f q r := by
  obtain ⟨q, a, b⟩ := h.2 i rs[i] (List.getElem?_eq_getElem hi)
  exact ⟨q, rs[i], a, List.getElem?_eq_getElem hi, b⟩
def LwAt (H : Hp) (q : Addr) (r : Rk) : Prop := H q = some (LwO r.a r.b r.c r.e)
def WyAt (C : Addr) (H : Hp) (x : Addr) (r : Rk) : Prop := Wy C H x r.a r.b r.c r.e
theorem lw_same {H H' : Hp} {ps : List V} {rs : List Rk} (h : All2 (LwAt H) ps rs) (s : Same H H') : All2 (LwAt H') ps rs := h.imp fun _ _ z => s _ _ z
theorem wy_same {C : Addr} {H H' : Hp} {ps : List V} {rs : List Rk} (h : All2 (WyAt C H) ps rs) (s : Same H H') : All2 (WyAt C H') ps rs := h.imp fun _ _ z => Wy.same z s
theorem lw_ne {K : PySem.W.Frag} {H : Hp} {d t q : Addr} {r : Rk} (D : Dr K H d t) (h : LwAt H q r) : q ≠ t := by
  obtain ⟨k, e⟩ := D.pl
  rintro rfl
  unfold LwAt at h
  rw [e] at h
  cases h
theorem wy_ne {K : PySem.W.Frag} {C : Addr} {H : Hp} {d t q : Addr} {r : Rk} (D : Dr K H d t) (h : WyAt C H q r) : q ≠ t := by
  obtain ⟨k, e⟩ := D.pl
  obtain ⟨dx, h⟩ := h
  rintro rfl
  rw [e] at h
  cases h
theorem lw_but {K : PySem.W.Frag} {H H' : Hp} {d t : Addr} {ps : List V} {rs : List Rk} (h : All2 (LwAt H) ps rs) (D : Dr K H d t) (b : But t H H') : All2 (LwAt H') ps rs := h.imp fun _ _ z => b _ _ (lw_ne D z) z
theorem wy_but {K : PySem.W.Frag} {C : Addr} {H H' : Hp} {d t : Addr} {ps : List V} {rs : List Rk} (h : All2 (WyAt C H) ps rs) (D : Dr K H d t) (b : But t H H') : All2 (WyAt C H') ps rs := h.imp fun _ _ z => Wy.but z b (wy_ne D z)
/-- a list of such items is none of them -/
theorem row_ne {f : Addr → Rk → Prop} {H : Hp} {p q : Addr} {r : Rk} {ps : List V} {rs : List Rk} (hp : H p = some (.lst ps)) (h : All2 f ps rs) (z : LwAt H q r) : q ≠ p := by
  rintro rfl
  unfold LwAt at z
  rw [hp] at z
  have z : ps = [.int r.a, .int r.b, .int r.c, .bl r.e] := by simpa [LwO] using z
  obtain ⟨q', _, e, _⟩ := h.get (i := 0) (x := .int r.a) (by rw [z]; rfl)
  cases e
theorem row_mut {f : Addr → Rk → Prop} {H : Hp} {p : Addr} {ps qs : List V} {rs rs' : List Rk} {o : HO} (hp : H p = some (.lst ps)) (h : All2 f ps rs) (k : All2 (LwAt H) qs rs') : All2 (LwAt (upd H p o)) qs rs' := k.imp fun q r z => by
  show upd H p o q = _
  rw [upd_ne (row_ne hp h z)]; exact z
theorem wy_mut {C : Addr} {H : Hp} {p : Addr} {ps qs : List V} {rs' : List Rk} {o : HO} (hp : H p = some (.lst ps)) (k : All2 (WyAt C H) qs rs') : All2 (WyAt C (upd H p o)) qs rs' := k.imp fun q r ⟨dx, z⟩ => ⟨dx, by
  rw [upd_ne (by rintro rfl; rw [hp] at z; cases z)]; exact z⟩
end My

namespace My
open PySem L2
def spTrim (K : PySem.W.Frag) (C : Addr) : Sp := fun vs H Q _ => ∃ (u : Addr) (ps : List V) (rs : List Rk), vs = [.ref u] ∧ (SqL K H u ps ∨ SqT K H u ps) ∧ All2 (WyAt C H) ps rs ∧ (∀ r ∈ rs, r.Ok) ∧ rs.length ≤ 100 ∧
  ∀ v ks H', Same H H' → H v = none → H' v = some (.tup ks) → All2 (WyAt C H) ks (leftR leR rs) → Q (.ref v) H'
theorem Rk.Ok.lt {r : Rk} (h : r.Ok) : r.a < 4 ∧ r.b < 4 ∧ r.c < 4 := by obtain ⟨h1, h2, h3⟩ := h; exact ⟨by omega, by omega, by omega⟩
theorem cov_step {rs : List Rk} {k : Nat} {x y : Rk} {j : Nat} {b : Bool} (e : rs[j]? = some y) (h : covB leR k x j y = b) : covN leR rs k x (j + 1) = (covN leR rs k x j || b) := by
  rw [covN, e, ← h]
theorem keep_step {rs : List Rk} {j : Nat} {x : Rk} (e : rs[j]? = some x) : keepN leR rs (j + 1) = if covN leR rs j x rs.length then keepN leR rs j else keepN leR rs j ++ [x] := by
  rw [keepN, e]
section
variable {P : Program} {w : World} {K : PySem.W.Frag} {mg : Str → Option Value} {base : Heap}
theorem ok_trimmed (T : Txt K mg) : FnOk P w K mg base CX0 3 T.a_trimmed T.fd_trimmed ["ways"] (spTrim K T.c_Way) := by
  refine T.F_trimmed.ok sc_trimmed (fun vs H Q E h => ?_) (fun cdv A outer s H vs Q E hr h => ?_)
  · obtain ⟨u, ps, rs, rfl, _⟩ := h; rfl
  · obtain ⟨u, ps, rs, rfl, hu | hu, hW, hO, hn, q⟩ := h
    · refine ⟨_, (pss_cons (ps_set (i := 1) sc_trimmed.nd rfl (.inl rfl) (pe_lst pa_nil))
      (pss_cons (ps_for PassesOwn.never rfl (pi_enum (by rfl) T.n_enumerate (pa_cons (pv 0) pa_nil)) (pg_tup rfl (pgs_cons (pg_name (i := 2) sc_trimmed.nd rfl (.inl rfl)) (pgs_cons (pg_name (i := 3) sc_trimmed.nd rfl (.inl rfl)) pgs_nil))) (pss_cons (ps_set (i := 4) sc_trimmed.nd rfl (.inl rfl) (pe_bl))
      (pss_cons (ps_for PassesOwn.never rfl (pi_enum (by rfl) T.n_enumerate (pa_cons (pv 0) pa_nil)) (pg_tup rfl (pgs_cons (pg_name (i := 5) sc_trimmed.nd rfl (.inl rfl)) (pgs_cons (pg_name (i := 6) sc_trimmed.nd rfl (.inl rfl)) pgs_nil))) (pss_one (ps_if (PW.pt (pw_and (pt_cmpR op_ne (pv 5) (pv 2) (nomark _)) (pw_and (pt_cmpR (op_cmpI (fun _ _ => rfl) T.m_Way_le.at_ T.m_Way_le.fn (ok_Way_le T) (hr.mono (by omega)) T.b_Way_le pass0) (pv 3) (pv 6) (nomark _)) (pw_and1 (PW.pt (pw_or (pt_not (pt_cmpR (op_cmpI (fun _ _ => rfl) T.m_Way_le.at_ T.m_Way_le.fn (ok_Way_le T) (hr.mono (by omega)) T.b_Way_le pass0) (pv 6) (pv 3) (nomark _))) (pw_or1 (pt_cmpR op_lt (pv 5) (pv 2) (nomark _))))))))) (pss_one (ps_set (i := 4) sc_trimmed.nd rfl (.inl rfl) (pe_bl))) pss_nil)))
      (pss_one (ps_if (pt_not (pt_val (pv 4))) (pss_one (ps_expr (pe_bm PySem.F.plainAttrs_list PySem.F.slot_list_append PySem.F.type_list_append mt_append (pv 1) (pa_cons (pv 3) pa_nil)))) pss_nil)))))
      (pss_one (ps_ret (pe_callTy call_tuple_of (by rfl) T.n_tuple (by decide +kernel) (pa_cons (pv 1) pa_nil)))))), ?_⟩
      refine ⟨Nat.zero_le _, fun p hp => ?_⟩
      have s0 : Same H (upd H p (.lst [])) := same_new hp
      have len := hW.1
      refine ⟨_, rfl, u, ps, rfl, s0.seq hu, for_enumL (K := K) (a := u) (xs := ps) (fun i σ H' => ∃ x2 x3 x4 x5 x6 ks, σ = [some (.ref u), some (.ref p), x2, x3, x4, x5, x6] ∧ Same H H' ∧ H' p = some (.lst ks) ∧ All2 (WyAt T.c_Way H) ks (keepN leR rs i))
        ⟨_, _, _, _, _, [], rfl, s0, upd_same, All2.nil⟩ (fun i σ H' _ ⟨_, _, _, _, _, _, _, s1, _⟩ => s1.seq hu) ?_ ?_⟩
      · rintro i v σ H1 t hx ⟨x2, x3, x4, x5, x6, ks, rfl, s1, hk, kk⟩ ht
        obtain ⟨x, r, rfl, er, wx⟩ := hW.get hx
        have okr := (hO r (List.mem_of_getElem? er)).lt
        have sT : Same H1 (upd H1 t (.tup [.int i, .ref x])) := same_new ht
        have s2 := s1.trans sT
        refine ⟨t, _, rfl, .inl (.inl upd_same), rfl, _, _, rfl, _, _, rfl, rfl, ?_⟩
        have hk2 : (upd H1 t (.tup [.int i, .ref x])) p = some (.lst ks) := sT _ _ hk
        refine ⟨_, rfl, u, ps, rfl, s2.seq hu, for_enumL (K := K) (a := u) (xs := ps) (fun j σ H' => ∃ x5 x6, σ = [some (.ref u), some (.ref p), some (.int i), some (.ref x), some (.bl (covN leR rs i r j)), x5, x6] ∧ Same H H' ∧ H' p = some (.lst ks))
          ⟨_, _, rfl, s2, hk2⟩ (fun i σ H' _ ⟨_, _, _, s1, _⟩ => s1.seq hu) ?_ ?_⟩
        · rintro j v σ H3 t3 hy ⟨x5, x6, rfl, s3, hk3⟩ ht3
          obtain ⟨y, r', rfl, er', wy⟩ := hW.get hy
          have okr' := (hO r' (List.mem_of_getElem? er')).lt
          have s4 := s3.trans (same_new (o := .tup [.int j, .ref y]) ht3)
          have hk4 : (upd H3 t3 (.tup [.int j, .ref y])) p = some (.lst ks) := same_new ht3 _ _ hk3
          have fin : ∀ b H', covB leR i r j r' = b → Same (upd H3 t3 (.tup [.int j, .ref y])) H' → ∃ x5 x6, ([some (.ref u), some (.ref p), some (.int i), some (.ref x), some (.bl (covN leR rs i r j || b)), some (.int j), some (.ref y)] : St) = [some (.ref u), some (.ref p), some (.int i), some (.ref x), some (.bl (covN leR rs i r (j + 1))), x5, x6] ∧ Same H H' ∧ H' p = some (.lst ks) := fun b H' e s => ⟨_, _, by rw [cov_step er' e], s4.trans s, s _ _ hk4⟩
          unfold covB at fin
          refine ⟨t3, _, rfl, .inl (.inl upd_same), rfl, _, _, rfl, _, _, rfl, rfl, ?_⟩
          refine ⟨_, rfl, _, rfl, rfl, _, rfl, iteN (fun c => ?_) (fun c => ?_)⟩
          · have c' : ¬ j = i := fun z => c (by rw [z])
            rw [decide_eq_false c'] at fin
            obtain ⟨dx, hx4⟩ := wx.same s4
            obtain ⟨dy, hy4⟩ := wy.same s4
            refine ⟨_, rfl, _, rfl, x, dx, _, y, dy, _, rfl, rfl, hx4, hy4, x, y, _, _, _, _, _, _, _, _, rfl, wx.same s4, wy.same s4, okr.1, okr.2.1, okr.2.2, okr'.1, okr'.2.1, okr'.2.2, fun H5 s5 => ⟨_, rfl, iteB (fun l1 => ?_) (fun l1 => ?_)⟩⟩
            · have s6 := s4.trans s5
              have l1' : leR r r' = true := l1
              rw [l1'] at fin
              refine ⟨_, rfl, _, rfl, y, dy, _, x, dx, _, rfl, rfl, s5 _ _ hy4, s5 _ _ hx4, y, x, _, _, _, _, _, _, _, _, rfl, wy.same s6, wx.same s6, okr'.1, okr'.2.1, okr'.2.2, okr.1, okr.2.1, okr.2.2, fun H6 s7 => ⟨_, rfl, ?_⟩⟩
              rw [show leR r' r = leB r'.a r'.b r'.c r'.e r.a r.b r.c r.e from rfl] at fin
              have s57 := s5.trans s7
              cases l2 : leB r'.a r'.b r'.c r'.e r.a r.b r.c r.e with
              | false =>
                rw [l2] at fin
                have := fin true H6 rfl s57
                rw [Bool.or_true] at this
                exact this
              | true =>
                rw [l2] at fin
                refine ⟨_, rfl, _, rfl, _, _, rfl, rfl, _, rfl, iteD (fun c3 => ?_) (fun c3 => ?_)⟩
                · rw [decide_eq_true (by omega : j < i)] at fin
                  have := fin true H6 rfl s57
                  rw [Bool.or_true] at this
                  exact this
                · rw [decide_eq_false (by omega : ¬ j < i)] at fin
                  have := fin false H6 rfl s57
                  rw [Bool.or_false] at this
                  exact this
            · have l1' : leR r r' = false := l1
              rw [l1'] at fin
              have := fin false H5 rfl s5
              rw [Bool.or_false] at this
              exact this
          · have c' : j = i := by have z : V.int (j : Int) = V.int (i : Int) := c; injection z with z; omega
            rw [decide_eq_true c'] at fin
            have := fin false _ rfl (Same.refl _)
            rw [Bool.or_false] at this
            exact this
        · rintro σ H3 ⟨x5, x6, rfl, s3, hk3⟩
          rw [len]
          have kl : ks.length ≤ i := by rw [kk.1]; exact keep_len i
          have il : i < rs.length := (List.getElem?_eq_some_iff.mp er).1
          have kst := keep_step er
          refine ⟨_, rfl, _, rfl, ?_⟩
          cases c : covN leR rs i r rs.length with
          | true =>
            rw [c] at kst
            exact ⟨_, _, _, _, _, ks, rfl, s3, hk3, by rw [kst]; exact kk⟩
          | false =>
            rw [c] at kst
            refine ⟨_, rfl, .inl ⟨rfl, _, SqL.of hk3⟩, _, rfl, _, _, _, rfl, rfl, hk3, Nat.lt_of_le_of_lt (by omega : _ ≤ 1000) (by decide), ?_⟩
            exact ⟨_, _, _, _, _, ks ++ [.ref x], rfl, same_mut s3 hp, upd_same, by rw [kst]; exact kk.app wx⟩
      · rintro σ H1 ⟨x2, x3, x4, x5, x6, ks, rfl, s1, hk, kk⟩
        rw [len] at kk
        refine ⟨_, rfl, p, ks, rfl, .inl ⟨SqL.of hk, fun v hv => ?_⟩⟩
        exact q v ks _ (s1.trans (same_new hv)) (s1.free hv) upd_same kk
    · refine ⟨_, (pss_cons (ps_set (i := 1) sc_trimmed.nd rfl (.inl rfl) (pe_lst pa_nil))
      (pss_cons (ps_for PassesOwn.never rfl (pi_enumT (by rfl) T.n_enumerate (pa_cons (pv 0) pa_nil)) (pg_tup rfl (pgs_cons (pg_name (i := 2) sc_trimmed.nd rfl (.inl rfl)) (pgs_cons (pg_name (i := 3) sc_trimmed.nd rfl (.inl rfl)) pgs_nil))) (pss_cons (ps_set (i := 4) sc_trimmed.nd rfl (.inl rfl) (pe_bl))
      (pss_cons (ps_for PassesOwn.never rfl (pi_enumT (by rfl) T.n_enumerate (pa_cons (pv 0) pa_nil)) (pg_tup rfl (pgs_cons (pg_name (i := 5) sc_trimmed.nd rfl (.inl rfl)) (pgs_cons (pg_name (i := 6) sc_trimmed.nd rfl (.inl rfl)) pgs_nil))) (pss_one (ps_if (PW.pt (pw_and (pt_cmpR op_ne (pv 5) (pv 2) (nomark _)) (pw_and (pt_cmpR (op_cmpI (fun _ _ => rfl) T.m_Way_le.at_ T.m_Way_le.fn (ok_Way_le T) (hr.mono (by omega)) T.b_Way_le pass0) (pv 3) (pv 6) (nomark _)) (pw_and1 (PW.pt (pw_or (pt_not (pt_cmpR (op_cmpI (fun _ _ => rfl) T.m_Way_le.at_ T.m_Way_le.fn (ok_Way_le T) (hr.mono (by omega)) T.b_Way_le pass0) (pv 6) (pv 3) (nomark _))) (pw_or1 (pt_cmpR op_lt (pv 5) (pv 2) (nomark _))))))))) (pss_one (ps_set (i := 4) sc_trimmed.nd rfl (.inl rfl) (pe_bl))) pss_nil)))
      (pss_one (ps_if (pt_not (pt_val (pv 4))) (pss_one (ps_expr (pe_bm PySem.F.plainAttrs_list PySem.F.slot_list_append PySem.F.type_list_append mt_append (pv 1) (pa_cons (pv 3) pa_nil)))) pss_nil)))))
      (pss_one (ps_ret (pe_callTy call_tuple_of (by rfl) T.n_tuple (by decide +kernel) (pa_cons (pv 1) pa_nil)))))), ?_⟩
      refine ⟨Nat.zero_le _, fun p hp => ?_⟩
      have s0 : Same H (upd H p (.lst [])) := same_new hp
      have len := hW.1
      refine ⟨_, rfl, u, ps, rfl, same_sqT s0 hu, for_enumT (K := K) (a := u) (xs := ps) (fun i σ H' => ∃ x2 x3 x4 x5 x6 ks, σ = [some (.ref u), some (.ref p), x2, x3, x4, x5, x6] ∧ Same H H' ∧ H' p = some (.lst ks) ∧ All2 (WyAt T.c_Way H) ks (keepN leR rs i))
        ⟨_, _, _, _, _, [], rfl, s0, upd_same, All2.nil⟩ (fun i σ H' _ ⟨_, _, _, _, _, _, _, s1, _⟩ => same_sqT s1 hu) ?_ ?_⟩
      · rintro i v σ H1 t hx ⟨x2, x3, x4, x5, x6, ks, rfl, s1, hk, kk⟩ ht
        obtain ⟨x, r, rfl, er, wx⟩ := hW.get hx
        have okr := (hO r (List.mem_of_getElem? er)).lt
        have sT : Same H1 (upd H1 t (.tup [.int i, .ref x])) := same_new ht
        have s2 := s1.trans sT
        refine ⟨t, _, rfl, .inl (.inl upd_same), rfl, _, _, rfl, _, _, rfl, rfl, ?_⟩
        have hk2 : (upd H1 t (.tup [.int i, .ref x])) p = some (.lst ks) := sT _ _ hk
        refine ⟨_, rfl, u, ps, rfl, same_sqT s2 hu, for_enumT (K := K) (a := u) (xs := ps) (fun j σ H' => ∃ x5 x6, σ = [some (.ref u), some (.ref p), some (.int i), some (.ref x), some (.bl (covN leR rs i r j)), x5, x6] ∧ Same H H' ∧ H' p = some (.lst ks))
          ⟨_, _, rfl, s2, hk2⟩ (fun i σ H' _ ⟨_, _, _, s1, _⟩ => same_sqT s1 hu) ?_ ?_⟩
        · rintro j v σ H3 t3 hy ⟨x5, x6, rfl, s3, hk3⟩ ht3
          obtain ⟨y, r', rfl, er', wy⟩ := hW.get hy
          have okr' := (hO r' (List.mem_of_getElem? er')).lt
          have s4 := s3.trans (same_new (o := .tup [.int j, .ref y]) ht3)
          have hk4 : (upd H3 t3 (.tup [.int j, .ref y])) p = some (.lst ks) := same_new ht3 _ _ hk3
          have fin : ∀ b H', covB leR i r j r' = b → Same (upd H3 t3 (.tup [.int j, .ref y])) H' → ∃ x5 x6, ([some (.ref u), some (.ref p), some (.int i), some (.ref x), some (.bl (covN leR rs i r j || b)), some (.int j), some (.ref y)] : St) = [some (.ref u), some (.ref p), some (.int i), some (.ref x), some (.bl (covN leR rs i r (j + 1))), x5, x6] ∧ Same H H' ∧ H' p = some (.lst ks) := fun b H' e s => ⟨_, _, by rw [cov_step er' e], s4.trans s, s _ _ hk4⟩
          unfold covB at fin
          refine ⟨t3, _, rfl, .inl (.inl upd_same), rfl, _, _, rfl, _, _, rfl, rfl, ?_⟩
          refine ⟨_, rfl, _, rfl, rfl, _, rfl, iteN (fun c => ?_) (fun c => ?_)⟩
          · have c' : ¬ j = i := fun z => c (by rw [z])
            rw [decide_eq_false c'] at fin
            obtain ⟨dx, hx4⟩ := wx.same s4
            obtain ⟨dy, hy4⟩ := wy.same s4
            refine ⟨_, rfl, _, rfl, x, dx, _, y, dy, _, rfl, rfl, hx4, hy4, x, y, _, _, _, _, _, _, _, _, rfl, wx.same s4, wy.same s4, okr.1, okr.2.1, okr.2.2, okr'.1, okr'.2.1, okr'.2.2, fun H5 s5 => ⟨_, rfl, iteB (fun l1 => ?_) (fun l1 => ?_)⟩⟩
            · have s6 := s4.trans s5
              have l1' : leR r r' = true := l1
              rw [l1'] at fin
              refine ⟨_, rfl, _, rfl, y, dy, _, x, dx, _, rfl, rfl, s5 _ _ hy4, s5 _ _ hx4, y, x, _, _, _, _, _, _, _, _, rfl, wy.same s6, wx.same s6, okr'.1, okr'.2.1, okr'.2.2, okr.1, okr.2.1, okr.2.2, fun H6 s7 => ⟨_, rfl, ?_⟩⟩
              rw [show leR r' r = leB r'.a r'.b r'.c r'.e r.a r.b r.c r.e from rfl] at fin
              have s57 := s5.trans s7
              cases l2 : leB r'.a r'.b r'.c r'.e r.a r.b r.c r.e with
              | false =>
                rw [l2] at fin
                have := fin true H6 rfl s57
                rw [Bool.or_true] at this
                exact this
              | true =>
                rw [l2] at fin
                refine ⟨_, rfl, _, rfl, _, _, rfl, rfl, _, rfl, iteD (fun c3 => ?_) (fun c3 => ?_)⟩
                · rw [decide_eq_true (by omega : j < i)] at fin
                  have := fin true H6 rfl s57
                  rw [Bool.or_true] at this
                  exact this
                · rw [decide_eq_false (by omega : ¬ j < i)] at fin
                  have := fin false H6 rfl s57
                  rw [Bool.or_false] at this
                  exact this
            · have l1' : leR r r' = false := l1
              rw [l1'] at fin
              have := fin false H5 rfl s5
              rw [Bool.or_false] at this
              exact this
          · have c' : j = i := by have z : V.int (j : Int) = V.int (i : Int) := c; injection z with z; omega
            rw [decide_eq_true c'] at fin
            have := fin false _ rfl (Same.refl _)
            rw [Bool.or_false] at this
            exact this
        · rintro σ H3 ⟨x5, x6, rfl, s3, hk3⟩
          rw [len]
          have kl : ks.length ≤ i := by rw [kk.1]; exact keep_len i
          have il : i < rs.length := (List.getElem?_eq_some_iff.mp er).1
          have kst := keep_step er
          refine ⟨_, rfl, _, rfl, ?_⟩
          cases c : covN leR rs i r rs.length with
          | true =>
            rw [c] at kst
            exact ⟨_, _, _, _, _, ks, rfl, s3, hk3, by rw [kst]; exact kk⟩
          | false =>
            rw [c] at kst
            refine ⟨_, rfl, .inl ⟨rfl, _, SqL.of hk3⟩, _, rfl, _, _, _, rfl, rfl, hk3, Nat.lt_of_le_of_lt (by omega : _ ≤ 1000) (by decide), ?_⟩
            exact ⟨_, _, _, _, _, ks ++ [.ref x], rfl, same_mut s3 hp, upd_same, by rw [kst]; exact kk.app wx⟩
      · rintro σ H1 ⟨x2, x3, x4, x5, x6, ks, rfl, s1, hk, kk⟩
        rw [len] at kk
        refine ⟨_, rfl, p, ks, rfl, .inl ⟨SqL.of hk, fun v hv => ?_⟩⟩
        exact q v ks _ (s1.trans (same_new hv)) (s1.free hv) upd_same kk
end
end My

namespace My
open PySem L2
def spRow (K : PySem.W.Frag) : Sp := fun vs H Q _ => ∃ (d t : Addr), vs = [.ref d, .ref t] ∧ Dr K H d t ∧
  ∀ p ps rs H', (∀ r ∈ rs, Rk.Ok r) → rs.length ≤ 5 → Dr K H' d t → But t H H' → H p = none → H' p = some (.lst ps) → All2 (LwAt H') ps rs → Q (.ref p) H'
def spLeft (K : PySem.W.Frag) : Sp := fun vs H Q _ => ∃ (u : Addr) (ps : List V) (rs : List Rk), vs = [.ref u] ∧ SqL K H u ps ∧ All2 (LwAt H) ps rs ∧ rs.length ≤ 100 ∧
  ∀ v ks H', Same H H' → H v = none → H' v = some (.lst ks) → All2 (LwAt H) ks (leftR leR rs) → Q (.ref v) H'
def spAlike (K : PySem.W.Frag) (C : Addr) : Sp := fun vs H Q _ => ∃ (u p : Addr) (us ps : List V) (rs : List Rk), vs = [.ref u, .ref p] ∧ (SqL K H u us ∨ SqT K H u us) ∧ SqL K H p ps ∧ All2 (WyAt C H) us rs ∧ All2 (LwAt H) ps rs ∧ (∀ r ∈ rs, r.Ok) ∧ rs.length ≤ 100 ∧
  ∀ H', Same H H' → Q (.bl true) H'
section
variable {P : Program} {w : World} {K : PySem.W.Frag} {mg : Str → Option Value} {base : Heap}
theorem ok__law_row (T : Txt K mg) : FnOk P w K mg base CX0 4 T.a__law_row T.fd__law_row ["_law_draws_here", "_law_at"] (spRow K) := by
  refine T.F__law_row.ok sc__law_row (fun vs H Q E h => ?_) (fun cdv A outer s H vs Q E hr h => ?_)
  · obtain ⟨d, t, rfl, _⟩ := h; rfl
  · obtain ⟨d, t, rfl, D, q⟩ := h
    refine ⟨_, (pss_cons (ps_set (i := 2) sc__law_row.nd rfl (.inl rfl) (pe_lst pa_nil))
      (pss_cons (ps_for PassesOwn.never rfl (pi_range1 (by rfl) T.n_range (pa_cons (pe_ix ix_list (pe_lst (pa_cons (pe_int) (pa_cons (pe_int) (pa_cons (pe_int) (pa_cons (pe_int) (pa_cons (pe_int) (pa_cons (pe_int) pa_nil))))))) (pe_call (ok__law_take T) (hr.mono (by omega)) (by rfl) T.g__law_take T.F__law_take.kp T.b__law_take .nil pass0 (pa_cons (pv 0) (pa_cons (pv 1) (pa_cons (pe_int) pa_nil)))) (fun _ _ => rfl)) pa_nil)) (pg_name (i := 3) sc__law_row.nd rfl (.inl rfl)) (pss_cons (ps_set (i := 4) sc__law_row.nd rfl (.inl rfl) (pe_call (ok__law_take T) (hr.mono (by omega)) (by rfl) T.g__law_take T.F__law_take.kp T.b__law_take .nil pass0 (pa_cons (pv 0) (pa_cons (pv 1) (pa_cons (pe_int) pa_nil)))))
      (pss_one (ps_if (pt_cmpR op_lt (pv 4) (pv 3) (nomark _)) (pss_one (ps_expr (pe_bm PySem.F.plainAttrs_list PySem.F.slot_list_append PySem.F.type_list_append mt_append (pv 2) (pa_cons (pe_call (ok__law_second T) (hr.mono (by omega)) (by rfl) T.g__law_second T.F__law_second.kp T.b__law_second .nil pass0 (pa_cons (pv 0) (pa_cons (pv 1) (pa_cons (pe_ix ix_list (pv 2) (pe_op op_sub (pe_op op_sub (pv 3) (pe_int)) (pv 4)) (fun _ _ => rfl)) pa_nil)))) pa_nil)))) (pss_one (ps_expr (pe_bm PySem.F.plainAttrs_list PySem.F.slot_list_append PySem.F.type_list_append mt_append (pv 2) (pa_cons (pe_call (ok__law_way T) (hr.mono (by omega)) (by rfl) T.g__law_way T.F__law_way.kp T.b__law_way .nil pass0 (pa_cons (pv 0) (pa_cons (pv 1) pa_nil))) pa_nil))))))))
      (pss_one (ps_ret (pv 2))))), ?_⟩
    refine ⟨Nat.zero_le _, fun p hp => ?_⟩
    have s0 : Same H (upd H p (.lst [])) := same_new hp
    have D0 := D.same s0
    have np : p ≠ t := D.na hp
    have nd : d ≠ p := D.nd hp
    refine ⟨by show 6 ≤ sizeLine; decide, fun m hm => ?_⟩
    have s1 := same_new (o := .lst [.int 3, .int 5, .int 4, .int 2, .int 1, .int 0]) hm
    have nm : m ≠ t := D0.na hm
    refine ⟨_, rfl, _, rfl, d, t, 6, rfl, D0.same s1, by decide, fun r H1 h0 h1 D1 b1 => ?_⟩
    obtain ⟨i, rfl⟩ := Int.eq_ofNat_of_zero_le h0
    have hb : ∃ n : Nat, n ≤ 5 ∧ atI [V.int 3, .int 5, .int 4, .int 2, .int 1, .int 0] (i : Int) = some (.int (n : Int)) := by
      rcases (by omega : i = 0 ∨ i = 1 ∨ i = 2 ∨ i = 3 ∨ i = 4 ∨ i = 5) with rfl | rfl | rfl | rfl | rfl | rfl
      · exact ⟨3, by decide, rfl⟩
      · exact ⟨5, by decide, rfl⟩
      · exact ⟨4, by decide, rfl⟩
      · exact ⟨2, by decide, rfl⟩
      · exact ⟨1, by decide, rfl⟩
      · exact ⟨0, by decide, rfl⟩
    obtain ⟨n, n5, hn⟩ := hb
    have bA : But t H H1 := ((But.of_same s0).trans (But.of_same s1)).trans b1
    refine ⟨_, _, _, _, rfl, rfl, SqL.of (b1 _ _ nm upd_same), hn, _, rfl, by omega, by omega, for_range (lo := 0) (n := n) (fun j σ H' => ∃ x3 x4 ps rs, σ = [some (.ref d), some (.ref t), some (.ref p), x3, x4] ∧ rs.length = j ∧ (∀ r ∈ rs, Rk.Ok r) ∧ Dr K H' d t ∧ But t H H' ∧ H' p = some (.lst ps) ∧ All2 (LwAt H') ps rs)
      ⟨_, _, [], [], rfl, rfl, by simp, D1, bA, b1 _ _ np (s1 _ _ upd_same), All2.nil⟩ ?_ ?_⟩
    · rintro j σ H2 hj ⟨x3, x4, ps, rs, rfl, lj, ok, D2, b2, hp2, all⟩
      refine ⟨_, rfl, _, rfl, d, t, 5, rfl, D2, by decide, fun r H3 g0 g1 D3 b3 => ?_⟩
      have hp3 := b3 _ _ np hp2
      have all3 := lw_but all D2 b3
      have fin : ∀ (z : Addr) (a b c : Nat) (e : Bool) (H4 : Hp), Adj a b c → Dr K H4 d t → But t H3 H4 → H3 z = none → H4 z = some (LwO a b c e) →
          (∃ x3 x4 ps' rs', ([some (.ref d), some (.ref t), some (.ref p), some (.int (0 + (j : Int))), some (.int r)] : St) = [some (.ref d), some (.ref t), some (.ref p), x3, x4] ∧ rs'.length = j + 1 ∧ (∀ r ∈ rs', Rk.Ok r) ∧ Dr K (upd H4 p (.lst (ps ++ [.ref z]))) d t ∧ But t H (upd H4 p (.lst (ps ++ [.ref z]))) ∧ (upd H4 p (.lst (ps ++ [.ref z]))) p = some (.lst ps') ∧ All2 (LwAt (upd H4 p (.lst (ps ++ [.ref z])))) ps' rs') := fun z a b c e H4 ad D4 b4 nz hz => by
        have hp4 := b4 _ _ np hp3
        have all4 := lw_but all3 D3 b4
        refine ⟨_, _, ps ++ [.ref z], rs ++ [⟨a, b, c, e⟩], rfl, by simp [lj], fun r hr => ?_, D4.other But.upd nd np.symm, ((b2.trans b3).trans b4).mut hp, upd_same, row_mut hp4 all4 (all4.app (r := ⟨a, b, c, e⟩) hz)⟩
        rcases List.mem_append.mp hr with y | y
        · exact ok r y
        · rw [List.mem_singleton.mp y]; exact ad
      have len : ps.length < sizeLine := Nat.lt_of_le_of_lt (by rw [all.1]; omega : _ ≤ 1000) (by decide)
      refine ⟨_, rfl, _, rfl, _, _, rfl, rfl, _, rfl, iteD (fun k => ?_) (fun k => ?_)⟩
      · obtain ⟨i, rfl⟩ := Int.eq_ofNat_of_zero_le g0
        obtain ⟨y, ry, ey, ery, ly⟩ := all3.at (i := j - 1 - i) (by omega)
        refine ⟨_, rfl, .inl ⟨rfl, _, SqL.of hp3⟩, _, rfl, _, rfl, _, rfl, _, rfl, _, _, rfl, rfl, _, rfl, _, _, rfl, rfl, _, _, _, _, rfl, rfl, SqL.of hp3, by rw [show (0 : Int) + (j : Int) - 1 - (i : Int) = ((j - 1 - i : Nat) : Int) by omega]; exact atI_nat ey, d, t, y, _, _, _, _, rfl, D3, ok ry (List.mem_of_getElem? ery), lw_ne D3 ly, ly, fun z a b c e H4 ad D4 b4 nz hz => ?_⟩
        exact ⟨_, _, _, rfl, rfl, b4 _ _ np hp3, len, fin z a b c e H4 ad D4 b4 nz hz⟩
      · refine ⟨_, rfl, .inl ⟨rfl, _, SqL.of hp3⟩, _, rfl, _, rfl, d, t, rfl, D3, fun z a b c e H4 ad D4 b4 nz hz => ?_⟩
        exact ⟨_, _, _, rfl, rfl, b4 _ _ np hp3, len, fin z a b c e H4 ad D4 b4 nz hz⟩
    · rintro σ H2 ⟨x3, x4, ps, rs, rfl, lj, ok, D2, b2, hp2, all⟩
      exact ⟨_, rfl, q p ps rs H2 ok (by omega) D2 b2 hp hp2 all⟩
theorem ok__law_left (T : Txt K mg) : FnOk P w K mg base CX0 2 T.a__law_left T.fd__law_left ["_law_row_here"] (spLeft K) := by
  refine T.F__law_left.ok sc__law_left (fun vs H Q E h => ?_) (fun cdv A outer s H vs Q E hr h => ?_)
  · obtain ⟨u, ps, rs, rfl, _⟩ := h; rfl
  · obtain ⟨u, ps, rs, rfl, hu, hW, hn, q⟩ := h
    refine ⟨_, (pss_cons (ps_set (i := 1) sc__law_left.nd rfl (.inl rfl) (pe_lst pa_nil))
      (pss_cons (ps_for PassesOwn.never rfl (pi_range1 (by rfl) T.n_range (pa_cons (pe_callB call_len_seq (by rfl) T.n_len (by decide +kernel) (pa_cons (pv 0) pa_nil)) pa_nil)) (pg_name (i := 2) sc__law_left.nd rfl (.inl rfl)) (pss_cons (ps_set (i := 3) sc__law_left.nd rfl (.inl rfl) (pe_bl))
      (pss_cons (ps_for PassesOwn.never rfl (pi_range1 (by rfl) T.n_range (pa_cons (pe_callB call_len_seq (by rfl) T.n_len (by decide +kernel) (pa_cons (pv 0) pa_nil)) pa_nil)) (pg_name (i := 4) sc__law_left.nd rfl (.inl rfl)) (pss_one (ps_if (PW.pt (pw_and (pt_cmpR op_ne (pv 4) (pv 2) (nomark _)) (pw_and (pt_val (pe_call (ok__law_below T) (hr.mono (by omega)) (by rfl) T.g__law_below T.F__law_below.kp T.b__law_below .nil pass0 (pa_cons (pe_ix ix_list (pv 0) (pv 2) (fun _ _ => rfl)) (pa_cons (pe_ix ix_list (pv 0) (pv 4) (fun _ _ => rfl)) pa_nil)))) (pw_and1 (PW.pt (pw_or (pt_cmpR op_lt (pv 4) (pv 2) (nomark _)) (pw_or1 (pt_not (pt_val (pe_call (ok__law_below T) (hr.mono (by omega)) (by rfl) T.g__law_below T.F__law_below.kp T.b__law_below .nil pass0 (pa_cons (pe_ix ix_list (pv 0) (pv 4) (fun _ _ => rfl)) (pa_cons (pe_ix ix_list (pv 0) (pv 2) (fun _ _ => rfl)) pa_nil)))))))))))) (pss_one (ps_set (i := 3) sc__law_left.nd rfl (.inl rfl) (pe_bl))) pss_nil)))
      (pss_one (ps_if (pt_not (pt_val (pv 3))) (pss_one (ps_expr (pe_bm PySem.F.plainAttrs_list PySem.F.slot_list_append PySem.F.type_list_append mt_append (pv 1) (pa_cons (pe_ix ix_list (pv 0) (pv 2) (fun _ _ => rfl)) pa_nil)))) pss_nil)))))
      (pss_one (ps_ret (pv 1))))), ?_⟩
    refine ⟨Nat.zero_le _, fun p hp => ?_⟩
    have s0 : Same H (upd H p (.lst [])) := same_new hp
    have len := hW.1
    refine ⟨_, rfl, _, _, rfl, .inl (s0.seq hu), _, rfl, by omega, by omega, for_range (lo := 0) (n := ps.length) (fun i σ H' => ∃ x2 x3 x4 ks, σ = [some (.ref u), some (.ref p), x2, x3, x4] ∧ Same H H' ∧ H' p = some (.lst ks) ∧ All2 (LwAt H) ks (keepN leR rs i))
      ⟨_, _, _, [], rfl, s0, upd_same, All2.nil⟩ ?_ ?_⟩
    · rintro i σ H1 hi ⟨x2, x3, x4, ks, rfl, s1, hk, kk⟩
      obtain ⟨x, r, ex, er, wx⟩ := hW.at (i := i) (by omega)
      refine ⟨_, rfl, _, _, rfl, .inl (s1.seq hu), _, rfl, by omega, by omega, for_range (lo := 0) (n := ps.length) (fun j σ H' => ∃ x4, σ = [some (.ref u), some (.ref p), some (.int (0 + (i : Int))), some (.bl (covN leR rs i r j)), x4] ∧ H' = H1)
        ⟨_, rfl, rfl⟩ ?_ ?_⟩
      · rintro j σ H3 hj ⟨x4, rfl, rfl⟩
        obtain ⟨y, r', ey, er', wy⟩ := hW.at (i := j) (by omega)
        have fin : ∀ b, covB leR i r j r' = b → ∃ x4, ([some (.ref u), some (.ref p), some (.int (0 + (i : Int))), some (.bl (covN leR rs i r j || b)), some (.int (0 + (j : Int)))] : St) = [some (.ref u), some (.ref p), some (.int (0 + (i : Int))), some (.bl (covN leR rs i r (j + 1))), x4] ∧ H3 = H3 := fun b e => ⟨_, by rw [cov_step er' e], rfl⟩
        unfold covB at fin
        have ai : atI ps (0 + (i : Int)) = some (.ref x) := by rw [Int.zero_add]; exact atI_nat ex
        have aj : atI ps (0 + (j : Int)) = some (.ref y) := by rw [Int.zero_add]; exact atI_nat ey
        refine ⟨_, rfl, _, rfl, rfl, _, rfl, iteN (fun c => ?_) (fun c => ?_)⟩
        · have c' : ¬ j = i := fun z => c (by rw [z])
          rw [decide_eq_false c'] at fin
          refine ⟨_, rfl, _, rfl, _, _, _, _, rfl, rfl, s1.seq hu, ai, _, rfl, _, rfl, _, _, _, _, rfl, rfl, s1.seq hu, aj, x, y, _, _, _, _, _, _, _, _, rfl, SqL.of (s1 _ _ wx), SqL.of (s1 _ _ wy), _, rfl, iteB (fun l1 => ?_) (fun l1 => ?_)⟩
          · have l1' : leR r r' = true := l1
            rw [l1'] at fin
            refine ⟨_, rfl, _, rfl, _, _, rfl, rfl, _, rfl, iteD (fun c3 => ?_) (fun c3 => ?_)⟩
            · rw [decide_eq_true (by omega : j < i)] at fin
              have := fin true (by simp)
              rw [Bool.or_true] at this
              exact this
            · rw [decide_eq_false (by omega : ¬ j < i)] at fin
              refine ⟨_, rfl, _, rfl, _, _, _, _, rfl, rfl, s1.seq hu, aj, _, rfl, _, rfl, _, _, _, _, rfl, rfl, s1.seq hu, ai, y, x, _, _, _, _, _, _, _, _, rfl, SqL.of (s1 _ _ wy), SqL.of (s1 _ _ wx), _, rfl, ?_⟩
              rw [show leR r' r = leB r'.a r'.b r'.c r'.e r.a r.b r.c r.e from rfl] at fin
              cases l2 : leB r'.a r'.b r'.c r'.e r.a r.b r.c r.e with
              | false =>
                rw [l2] at fin
                have := fin true rfl
                rw [Bool.or_true] at this
                exact this
              | true =>
                rw [l2] at fin
                have := fin false rfl
                rw [Bool.or_false] at this
                exact this
          · have l1' : leR r r' = false := l1
            rw [l1'] at fin
            have := fin false rfl
            rw [Bool.or_false] at this
            exact this
        · have c' : j = i := by have z : V.int (0 + (j : Int)) = V.int (0 + (i : Int)) := c; injection z with z; omega
          rw [decide_eq_true c'] at fin
          have := fin false rfl
          rw [Bool.or_false] at this
          exact this
      · rintro σ H3 ⟨x4, rfl, rfl⟩
        rw [len]
        have kl : ks.length ≤ i := by rw [kk.1]; exact keep_len i
        have kst := keep_step er
        have ai : atI ps (0 + (i : Int)) = some (.ref x) := by rw [Int.zero_add]; exact atI_nat ex
        refine ⟨_, rfl, _, rfl, ?_⟩
        cases c : covN leR rs i r rs.length with
        | true =>
          rw [c] at kst
          exact ⟨_, _, _, ks, rfl, s1, hk, by rw [kst]; exact kk⟩
        | false =>
          rw [c] at kst
          refine ⟨_, rfl, .inl ⟨rfl, _, SqL.of hk⟩, _, rfl, _, rfl, _, _, _, _, rfl, rfl, s1.seq hu, ai, _, _, _, rfl, rfl, hk, Nat.lt_of_le_of_lt (by omega : _ ≤ 1000) (by decide), ?_⟩
          exact ⟨_, _, _, ks ++ [.ref x], rfl, same_mut s1 hp, upd_same, by rw [kst]; exact kk.app wx⟩
    · rintro σ H1 ⟨x2, x3, x4, ks, rfl, s1, hk, kk⟩
      rw [len] at kk
      exact ⟨_, rfl, q p ks _ s1 hp hk kk⟩
theorem ok__law_alike (T : Txt K mg) : FnOk P w K mg base CX0 3 T.a__law_alike T.fd__law_alike ["_law_ways", "_law_row_here"] (spAlike K T.c_Way) := by
  refine T.F__law_alike.ok sc__law_alike (fun vs H Q E h => ?_) (fun cdv A outer s H vs Q E hr h => ?_)
  · obtain ⟨u, p, us, ps, rs, rfl, _⟩ := h; rfl
  · obtain ⟨u, p, us, ps, rs, rfl, hu | hu, hp, hW, hL, ok, hn, q⟩ := h
    · refine ⟨_, (pss_cons (ps_if (pt_cmpR op_ne (pe_callB call_len_seq (by rfl) T.n_len (by decide +kernel) (pa_cons (pv 0) pa_nil)) (pe_callB call_len_seq (by rfl) T.n_len (by decide +kernel) (pa_cons (pv 1) pa_nil)) (nomark _)) (pss_one (ps_ret (pe_bl))) pss_nil)
      (pss_cons (ps_for PassesOwn.never rfl (pi_range1 (by rfl) T.n_range (pa_cons (pe_callB call_len_seq (by rfl) T.n_len (by decide +kernel) (pa_cons (pv 1) pa_nil)) pa_nil)) (pg_name (i := 2) sc__law_alike.nd rfl (.inl rfl)) (pss_one (ps_if (pt_not (pt_val (pe_call (ok__law_same T 1) (hr.mono (by omega)) (by rfl) T.g__law_same T.F__law_same.kp T.b__law_same .nil pass0 (pa_cons (pe_call (ok__law_fields T) (hr.mono (by omega)) (by rfl) T.g__law_fields T.F__law_fields.kp T.b__law_fields .nil pass0 (pa_cons (pe_ix ix_list (pv 0) (pv 2) (fun _ _ => rfl)) pa_nil)) (pa_cons (pe_call (ok__law_words T) (hr.mono (by omega)) (by rfl) T.g__law_words T.F__law_words.kp T.b__law_words .nil pass0 (pa_cons (pe_ix ix_list (pv 1) (pv 2) (fun _ _ => rfl)) pa_nil)) pa_nil))))) (pss_one (ps_ret (pe_bl))) pss_nil)))
      (pss_one (ps_ret (pe_bl))))), ?_⟩
      refine ⟨_, rfl, _, _, rfl, .inl hu, _, rfl, _, _, rfl, .inl hp, rfl, _, rfl, iteN (fun c => ?_) (fun _ => ?_)⟩
      · exact absurd (by rw [hW.1, hL.1]) c
      have hl := hL.1
      refine ⟨_, rfl, _, _, rfl, .inl hp, _, rfl, by omega, by omega, for_range (lo := 0) (n := ps.length) (fun i σ H' => ∃ x2, σ = [some (.ref u), some (.ref p), x2] ∧ Same H H') ⟨_, rfl, Same.refl H⟩ ?_ ?_⟩
      · rintro i σ H1 hi ⟨x2, rfl, s1⟩
        have hl := hL.1
        obtain ⟨x, r, ex, er, wx⟩ := hW.at (i := i) (by omega)
        obtain ⟨y, r', ey, er', ly⟩ := hL.at (i := i) (by omega)
        obtain rfl : r = r' := Option.some.inj (er.symm.trans er')
        have okr := (ok r (List.mem_of_getElem? er)).lt
        have ax : atI us (0 + (i : Int)) = some (.ref x) := by rw [Int.zero_add]; exact atI_nat ex
        have ay : atI ps (0 + (i : Int)) = some (.ref y) := by rw [Int.zero_add]; exact atI_nat ey
        refine ⟨_, rfl, _, rfl, _, _, _, _, rfl, rfl, s1.seq hu, ax, x, _, _, _, _, rfl, wx.same s1, fun r1 hr1 => ?_⟩
        have u1 := same_new (o := .lst [.str (levn r.a), .str (levn r.b), .str (levn r.c), .bl r.e]) hr1
        have s2 := s1.trans u1
        refine ⟨_, rfl, _, rfl, _, _, _, _, rfl, rfl, s2.seq hp, ay, y, _, _, _, _, rfl, okr.1, okr.2.1, okr.2.2, SqL.of (s2 _ _ ly), fun r2 H2 s3 hr2 h2 => ?_⟩
        refine ⟨y, _, _, (.list [.str (levn r.a), .str (levn r.b), .str (levn r.c), .bool r.e]), (.list [.str (levn r.a), .str (levn r.b), .str (levn r.c), .bool r.e]), rfl, Dn.lst ?_ (SqL.of (s3 _ _ upd_same)) (.cons (.str _) (.cons (.str _) (.cons (.str _) (.cons (.bl _) .nil)))), Dn.lst ?_ (SqL.of h2) (.cons (.str _) (.cons (.str _) (.cons (.str _) (.cons (.bl _) .nil)))), _, rfl, iteNo nsame ⟨_, rfl, s2.trans s3⟩⟩
        · exact (ne_of_none (s1 _ _ ly) hr1).symm
        · exact (ne_of_none (s2 _ _ ly) hr2).symm
      · rintro σ H1 ⟨x2, rfl, s1⟩
        exact q H1 s1
    · refine ⟨_, (pss_cons (ps_if (pt_cmpR op_ne (pe_callB call_len_seq (by rfl) T.n_len (by decide +kernel) (pa_cons (pv 0) pa_nil)) (pe_callB call_len_seq (by rfl) T.n_len (by decide +kernel) (pa_cons (pv 1) pa_nil)) (nomark _)) (pss_one (ps_ret (pe_bl))) pss_nil)
      (pss_cons (ps_for PassesOwn.never rfl (pi_range1 (by rfl) T.n_range (pa_cons (pe_callB call_len_seq (by rfl) T.n_len (by decide +kernel) (pa_cons (pv 1) pa_nil)) pa_nil)) (pg_name (i := 2) sc__law_alike.nd rfl (.inl rfl)) (pss_one (ps_if (pt_not (pt_val (pe_call (ok__law_same T 1) (hr.mono (by omega)) (by rfl) T.g__law_same T.F__law_same.kp T.b__law_same .nil pass0 (pa_cons (pe_call (ok__law_fields T) (hr.mono (by omega)) (by rfl) T.g__law_fields T.F__law_fields.kp T.b__law_fields .nil pass0 (pa_cons (pe_ix ix_tup (pv 0) (pv 2) (fun _ _ => rfl)) pa_nil)) (pa_cons (pe_call (ok__law_words T) (hr.mono (by omega)) (by rfl) T.g__law_words T.F__law_words.kp T.b__law_words .nil pass0 (pa_cons (pe_ix ix_list (pv 1) (pv 2) (fun _ _ => rfl)) pa_nil)) pa_nil))))) (pss_one (ps_ret (pe_bl))) pss_nil)))
      (pss_one (ps_ret (pe_bl))))), ?_⟩
      refine ⟨_, rfl, _, _, rfl, .inr hu, _, rfl, _, _, rfl, .inl hp, rfl, _, rfl, iteN (fun c => ?_) (fun _ => ?_)⟩
      · exact absurd (by rw [hW.1, hL.1]) c
      have hl := hL.1
      refine ⟨_, rfl, _, _, rfl, .inl hp, _, rfl, by omega, by omega, for_range (lo := 0) (n := ps.length) (fun i σ H' => ∃ x2, σ = [some (.ref u), some (.ref p), x2] ∧ Same H H') ⟨_, rfl, Same.refl H⟩ ?_ ?_⟩
      · rintro i σ H1 hi ⟨x2, rfl, s1⟩
        have hl := hL.1
        obtain ⟨x, r, ex, er, wx⟩ := hW.at (i := i) (by omega)
        obtain ⟨y, r', ey, er', ly⟩ := hL.at (i := i) (by omega)
        obtain rfl : r = r' := Option.some.inj (er.symm.trans er')
        have okr := (ok r (List.mem_of_getElem? er)).lt
        have ax : atI us (0 + (i : Int)) = some (.ref x) := by rw [Int.zero_add]; exact atI_nat ex
        have ay : atI ps (0 + (i : Int)) = some (.ref y) := by rw [Int.zero_add]; exact atI_nat ey
        refine ⟨_, rfl, _, rfl, _, _, _, _, rfl, rfl, same_sqT s1 hu, ax, x, _, _, _, _, rfl, wx.same s1, fun r1 hr1 => ?_⟩
        have u1 := same_new (o := .lst [.str (levn r.a), .str (levn r.b), .str (levn r.c), .bl r.e]) hr1
        have s2 := s1.trans u1
        refine ⟨_, rfl, _, rfl, _, _, _, _, rfl, rfl, s2.seq hp, ay, y, _, _, _, _, rfl, okr.1, okr.2.1, okr.2.2, SqL.of (s2 _ _ ly), fun r2 H2 s3 hr2 h2 => ?_⟩
        refine ⟨y, _, _, (.list [.str (levn r.a), .str (levn r.b), .str (levn r.c), .bool r.e]), (.list [.str (levn r.a), .str (levn r.b), .str (levn r.c), .bool r.e]), rfl, Dn.lst ?_ (SqL.of (s3 _ _ upd_same)) (.cons (.str _) (.cons (.str _) (.cons (.str _) (.cons (.bl _) .nil)))), Dn.lst ?_ (SqL.of h2) (.cons (.str _) (.cons (.str _) (.cons (.str _) (.cons (.bl _) .nil)))), _, rfl, iteNo nsame ⟨_, rfl, s2.trans s3⟩⟩
        · exact (ne_of_none (s1 _ _ ly) hr1).symm
        · exact (ne_of_none (s2 _ _ ly) hr2).symm
      · rintro σ H1 ⟨x2, rfl, s1⟩
        exact q H1 s1
end
end My

namespace My
open PySem L2
def spLaw (K : PySem.W.Frag) : Sp := fun vs H Q _ => ∃ (a : Addr) (ns : List Int), vs = [.ref a] ∧ SqL K H a (ns.map V.int) ∧ ns.length ≤ 63 ∧ ∀ H', Q (.bl true) H'
structure Fc (C : Addr) (rs : List Rk) (t p v u : Addr) (ps ks us : List V) (H : Hp) : Prop where
  np : p ≠ t
  nv : v ≠ t
  nu : u ≠ t
  pu : p ≠ u
  vu : v ≠ u
  pv : p ≠ v
  hp : H p = some (.lst ps)
  lp : All2 (LwAt H) ps rs
  hv : H v = some (.lst ks)
  lv : All2 (LwAt H) ks (leftR leR rs)
  hu : H u = some (.lst us)
  lu : All2 (WyAt C H) us rs
theorem Fc.same {C : Addr} {rs : List Rk} {t p v u : Addr} {ps ks us : List V} {H H' : Hp} (f : Fc C rs t p v u ps ks us H) (s : Same H H') : Fc C rs t p v u ps ks us H' :=
  ⟨f.np, f.nv, f.nu, f.pu, f.vu, f.pv, s _ _ f.hp, lw_same f.lp s, s _ _ f.hv, lw_same f.lv s, s _ _ f.hu, wy_same f.lu s⟩
theorem Fc.but {K : PySem.W.Frag} {C : Addr} {rs : List Rk} {d t p v u : Addr} {ps ks us : List V} {H H' : Hp} (f : Fc C rs t p v u ps ks us H) (D : Dr K H d t) (b : But t H H') : Fc C rs t p v u ps ks us H' :=
  ⟨f.np, f.nv, f.nu, f.pu, f.vu, f.pv, b _ _ f.np f.hp, lw_but f.lp D b, b _ _ f.nv f.hv, lw_but f.lv D b, b _ _ f.nu f.hu, wy_but f.lu D b⟩
theorem isTup {K : PySem.W.Frag} {H : Hp} {z : Addr} {ws : List V} (h : H z = some (.tup ws)) : TyX K H (.ref z) (.type "tuple") := .base (.tup h)
section
variable {P : Program} {w : World} {K : PySem.W.Frag} {mg : Str → Option Value} {base : Heap}
set_option maxHeartbeats 16000000 in
theorem ok_law (T : Txt K mg) : FnOk P w K mg base CX0 12 T.a_law T.fd_law ["_law_script"] (spLaw K) := by
  refine T.F_law.ok sc_law (fun vs H Q E h => ?_) (fun cdv A outer s H vs Q E hr h => ?_)
  · obtain ⟨a, ns, rfl, _⟩ := h; rfl
  · obtain ⟨a0, ns, rfl, hS, hlen, q⟩ := h
    refine ⟨_, (pss_cons (ps_set (i := 1) sc_law.nd rfl (.inl rfl) (pe_call (ok__law_draws T) (hr.mono (by omega)) (by rfl) T.g__law_draws T.F__law_draws.kp T.b__law_draws .nil pass0 (pa_cons (pv 0) pa_nil)))
      (pss_cons (ps_set (i := 2) sc_law.nd rfl (.inl rfl) (pe_lst (pa_cons (pe_int) pa_nil)))
      (pss_cons (ps_set (i := 3) sc_law.nd rfl (.inl rfl) (pe_call (ok__law_row T) (hr.mono (by omega)) (by rfl) T.g__law_row T.F__law_row.kp T.b__law_row .nil pass0 (pa_cons (pv 1) (pa_cons (pv 2) pa_nil))))
      (pss_cons (ps_set (i := 4) sc_law.nd rfl (.inl rfl) (pe_call (ok__law_left T) (hr.mono (by omega)) (by rfl) T.g__law_left T.F__law_left.kp T.b__law_left .nil pass0 (pa_cons (pv 3) pa_nil)))
      (pss_cons (ps_setLc (i := 5) (own := [("_law_ranks", 6)]) (g := (gName 6)) (by rfl) sc_law.nd rfl rfl (sw_true rfl rfl rfl (by decide +kernel)) (pi_list (pv 3)) (blkOk_by (own := [("_law_ranks", 6)]) (N := ["_law_script", "_law_draws_here", "_law_at", "_law_row_here", "_law_due", "_law_ways", "_law_ranks", "_law_told", "_law_again", "_law_further"]) (sc := defScope S_law) (by decide +kernel)) (fun _ _ _ _ _ => (pg_name (i := 6) sc_law.nd rfl (.inl rfl))) (fun _ _ _ _ _ => pts_nil) (fun _ _ _ _ _ => (pe_call (ok__law_way_made T) (hr.mono (by omega)) (by rfl) T.g__law_way_made T.F__law_way_made.kp T.b__law_way_made .nil pass0 (pa_cons (pv 6) pa_nil))))
      (C8.pss_cut (ps_if (pt_cmpR op_eq (pe_call (ok__law_take T) (hr.mono (by omega)) (by rfl) T.g__law_take T.F__law_take.kp T.b__law_take .nil pass0 (pa_cons (pv 1) (pa_cons (pv 2) (pa_cons (pe_int) pa_nil)))) (pe_int) (nomark _)) (pss_one (ps_set (i := 7) sc_law.nd rfl (.inl rfl) (pe_call (ok_trimmed T) (hr.mono (by omega)) (by rfl) T.g_trimmed T.F_trimmed.kp T.b_trimmed .nil pass0 (pa_cons (pe_callTy call_tuple_of (by rfl) T.n_tuple (by decide +kernel) (pa_cons (pv 5) pa_nil)) pa_nil)))) (pss_one (ps_set (i := 7) sc_law.nd rfl (.inl rfl) (pe_call (ok_trimmed T) (hr.mono (by omega)) (by rfl) T.g_trimmed T.F_trimmed.kp T.b_trimmed .nil pass0 (pa_cons (pv 5) pa_nil)))))
      (pss_cons (ps_if (PW.pt (pw_or (pt_not (pt_val (pe_callB call_isi (by rfl) T.n_isinstance (by decide +kernel) (pa_cons (pv 7) (pa_cons (pe_bltn (v := .ty "tuple") (by rfl) T.n_tuple (by decide +kernel) rfl) pa_nil))))) (pw_or (pt_not (pt_val (pe_call (ok__law_alike T) (hr.mono (by omega)) (by rfl) T.g__law_alike T.F__law_alike.kp T.b__law_alike .nil pass0 (pa_cons (pv 7) (pa_cons (pv 4) pa_nil))))) (pw_or1 (pt_not (pt_val (pe_call (ok__law_alike T) (hr.mono (by omega)) (by rfl) T.g__law_alike T.F__law_alike.kp T.b__law_alike .nil pass0 (pa_cons (pv 5) (pa_cons (pv 3) pa_nil))))))))) (pss_one (ps_ret (pe_bl))) pss_nil)
      (pss_cons (ps_set (i := 8) sc_law.nd rfl (.inl rfl) (pe_call (ok_trimmed T) (hr.mono (by omega)) (by rfl) T.g_trimmed T.F_trimmed.kp T.b_trimmed .nil pass0 (pa_cons (pv 7) pa_nil)))
      (pss_cons (ps_if (PW.pt (pw_or (pt_not (pt_val (pe_callB call_isi (by rfl) T.n_isinstance (by decide +kernel) (pa_cons (pv 8) (pa_cons (pe_bltn (v := .ty "tuple") (by rfl) T.n_tuple (by decide +kernel) rfl) pa_nil))))) (pw_or (pt_not (pt_val (pe_call (ok__law_alike T) (hr.mono (by omega)) (by rfl) T.g__law_alike T.F__law_alike.kp T.b__law_alike .nil pass0 (pa_cons (pv 8) (pa_cons (pv 4) pa_nil))))) (pw_or1 (pt_not (pt_val (pe_call (ok__law_alike T) (hr.mono (by omega)) (by rfl) T.g__law_alike T.F__law_alike.kp T.b__law_alike .nil pass0 (pa_cons (pv 7) (pa_cons (pv 4) pa_nil))))))))) (pss_one (ps_ret (pe_bl))) pss_nil)
      (pss_cons (ps_set (i := 9) sc_law.nd rfl (.inl rfl) (pe_call (ok__law_way T) (hr.mono (by omega)) (by rfl) T.g__law_way T.F__law_way.kp T.b__law_way .nil pass0 (pa_cons (pv 1) (pa_cons (pv 2) pa_nil))))
      (pss_cons (ps_expr (pe_bm PySem.F.plainAttrs_list PySem.F.slot_list_append PySem.F.type_list_append mt_append (pv 5) (pa_cons (pe_call (ok__law_way_made T) (hr.mono (by omega)) (by rfl) T.g__law_way_made T.F__law_way_made.kp T.b__law_way_made .nil pass0 (pa_cons (pv 9) pa_nil)) pa_nil)))
      (pss_cons (ps_expr (pe_bm PySem.F.plainAttrs_list PySem.F.slot_list_append PySem.F.type_list_append mt_append (pv 3) (pa_cons (pv 9) pa_nil)))
      (pss_cons (ps_if (pt_not (pt_val (pe_call (ok__law_alike T) (hr.mono (by omega)) (by rfl) T.g__law_alike T.F__law_alike.kp T.b__law_alike .nil pass0 (pa_cons (pv 7) (pa_cons (pv 4) pa_nil))))) (pss_one (ps_ret (pe_bl))) pss_nil)
      (pss_one (ps_ret (pe_and (pe_call (ok__law_alike T) (hr.mono (by omega)) (by rfl) T.g__law_alike T.F__law_alike.kp T.b__law_alike .nil pass0 (pa_cons (pe_call (ok_trimmed T) (hr.mono (by omega)) (by rfl) T.g_trimmed T.F_trimmed.kp T.b_trimmed .nil pass0 (pa_cons (pv 5) pa_nil)) (pa_cons (pe_call (ok__law_left T) (hr.mono (by omega)) (by rfl) T.g__law_left T.F__law_left.kp T.b__law_left .nil pass0 (pa_cons (pv 3) pa_nil)) pa_nil))) (pe_one (pe_call (ok__law_alike T) (hr.mono (by omega)) (by rfl) T.g__law_alike T.F__law_alike.kp T.b__law_alike .nil pass0 (pa_cons (pv 5) (pa_cons (pv 3) pa_nil)))))))))))))))))))), ?_⟩
    refine ⟨_, rfl, a0, ns, rfl, hS, hlen, fun d zs H1 s1 nd hd => ?_⟩
    refine ⟨Nat.le_of_lt (small1000 (by decide)), fun t hat => ?_⟩
    have D0 : Dr K (upd H1 t (.lst [.int 0])) d t := ⟨⟨zs, same_new hat _ _ hd⟩, ⟨0, upd_same⟩, ne_of_none hd hat⟩
    refine ⟨_, rfl, _, rfl, d, t, rfl, D0, fun p ps rs H2 ok n5 D2 b2 hp0 hp lp => ?_⟩
    have np : p ≠ t := D0.na hp0
    refine ⟨_, rfl, p, ps, rs, rfl, SqL.of hp, lp, by omega, fun v ks H3 s3 hv0 hv lv => ?_⟩
    have D3 := D2.same s3
    have nv : v ≠ t := D2.na hv0
    have hp3 := s3 _ _ hp
    have lp3 := lw_same lp s3
    have lv3 := lw_same lv s3
    refine ⟨_, rfl, p, rfl, ⟨_, SqL.of hp3⟩, fun u hu0 => lc_list (K := K) (a := p) (xs := ps) (fun i H' => ∃ us, Same H3 H' ∧ H' u = some (.lst us) ∧ All2 (WyAt T.c_Way H') us (rs.take i))
      ⟨[], same_new hu0, upd_same, by rw [List.take_zero]; exact All2.nil⟩ (fun i H' _ ⟨us, s, _⟩ => SqL.of (s _ _ hp3)) ?_ ?_⟩
    · rintro i x H4 hx ⟨us, s4, hu4, lu4⟩
      obtain ⟨y, r, rfl, er, wy⟩ := lp3.get hx
      refine ⟨rfl, _, rfl, y, _, _, _, _, rfl, ok r (List.mem_of_getElem? er), SqL.of (s4 _ _ wy), fun z H5 s5 nz wz => ?_⟩
      have hu5 := s5 _ _ hu4
      have il := (List.getElem?_eq_some_iff.mp er).1
      refine ⟨us, hu5, Nat.lt_of_le_of_lt (by rw [lu4.1, List.length_take]; omega : _ ≤ 1000) (by decide), us ++ [.ref z], same_mut (s4.trans s5) hu0, upd_same, ?_⟩
      rw [List.take_succ, er]
      exact wy_mut hu5 ((wy_same lu4 s5).app (r := r) wz)
    rintro H4 ⟨us, s4, hu4, lu4⟩
    rw [lp.1, List.take_length] at lu4
    have F4 : Fc T.c_Way rs t p v u ps ks us H4 := ⟨np, nv, D3.na hu0, ne_of_none hp3 hu0, ne_of_none hv hu0, ne_of_none hp hv0, s4 _ _ hp3, lw_same lp3 s4, s4 _ _ hv, lw_same lv3 s4, hu4, lu4⟩
    have D4 := D3.same s4
    have okl : ∀ r ∈ leftR leR rs, Rk.Ok r := fun r h => ok r (left_mem h)
    have ll : (leftR leR rs).length ≤ 100 := Nat.le_trans (keep_len _) (by omega)
    refine ⟨fun σ' H' => ∃ x6 z ws, σ' = [some (.ref a0), some (.ref d), some (.ref t), some (.ref p), some (.ref v), some (.ref u), x6, some (.ref z), none, none] ∧ Dr K H' d t ∧ z ≠ t ∧ Fc T.c_Way rs t p v u ps ks us H' ∧ H' z = some (.tup ws) ∧ All2 (WyAt T.c_Way H') ws (leftR leR rs), ?_, ?_⟩
    · refine ⟨_, rfl, _, rfl, d, t, 3, rfl, D4, by decide, fun r H5 _ _ D5 b5 => ?_⟩
      have F5 := F4.but D4 b5
      refine ⟨rfl, _, rfl, iteD (fun k => ?_) (fun k => ?_)⟩
      · refine ⟨_, rfl, u, us, rfl, .inl ⟨SqL.of F5.hu, fun l hl => ?_⟩⟩
        have s6 := same_new (o := .tup us) hl
        have F6 := F5.same s6
        refine ⟨l, us, rs, rfl, .inr (.inl (.inl upd_same)), F6.lu, ok, by omega, fun z ws H7 s7 nz hz lz => ?_⟩
        exact ⟨_, z, ws, rfl, (D5.same s6).same s7, (D5.same s6).na nz, F6.same s7, hz, wy_same lz s7⟩
      · refine ⟨_, rfl, u, us, rs, rfl, .inl (SqL.of F5.hu), F5.lu, ok, by omega, fun z ws H7 s7 nz hz lz => ?_⟩
        exact ⟨_, z, ws, rfl, D5.same s7, D5.na nz, F5.same s7, hz, wy_same lz s7⟩
    rintro σ' H5 ⟨x6, z, ws, rfl, D5, nz, F5, hz5, lz5⟩
    refine ⟨_, rfl, _, _, _, _, true, rfl, ClsV.ty _, isTup hz5, kit_ty (by decide +kernel), _, rfl, iteF ?_⟩
    refine ⟨_, rfl, _, rfl, z, v, ws, ks, _, rfl, .inr (.inl (.inl hz5)), SqL.of F5.hv, lz5, F5.lv, okl, ll, fun H6 s6 => ⟨_, rfl, iteF ?_⟩⟩
    have F6 := F5.same s6
    refine ⟨_, rfl, _, rfl, u, p, us, ps, rs, rfl, .inl (SqL.of F6.hu), SqL.of F6.hp, F6.lu, F6.lp, ok, by omega, fun H7 s7 => ⟨_, rfl, iteF ?_⟩⟩
    have s67 := s6.trans s7
    have F7 := F5.same s67
    have lz7 := wy_same lz5 s67
    have hz7 := s67 _ _ hz5
    have D7 := D5.same s67
    refine ⟨_, rfl, z, ws, _, rfl, .inr (.inl (.inl hz7)), lz7, okl, ll, fun y xs H8 s8 ny hy ly => ?_⟩
    rw [left_left] at ly
    refine ⟨_, rfl, _, _, _, _, true, rfl, ClsV.ty _, isTup hy, kit_ty (by decide +kernel), _, rfl, iteF ?_⟩
    have F8 := F7.same s8
    have ly8 := wy_same ly s8
    refine ⟨_, rfl, _, rfl, y, v, xs, ks, _, rfl, .inr (.inl (.inl hy)), SqL.of F8.hv, ly8, F8.lv, okl, ll, fun H9 s9 => ⟨_, rfl, iteF ?_⟩⟩
    have s89 := s8.trans s9
    have F9 := F7.same s89
    have lz9 := wy_same lz7 s89
    have hz9 := s89 _ _ hz7
    refine ⟨_, rfl, _, rfl, z, v, ws, ks, _, rfl, .inr (.inl (.inl hz9)), SqL.of F9.hv, lz9, F9.lv, okl, ll, fun H10 s10 => ⟨_, rfl, iteF ?_⟩⟩
    have F10 := F9.same s10
    have lz10 := wy_same lz9 s10
    have hz10 := s10 _ _ hz9
    have D10 := (D7.same s89).same s10
    refine ⟨_, rfl, _, rfl, d, t, rfl, D10, fun f a b c e H11 A1 D11 b11 nf hf => ?_⟩
    have F11 := F10.but D10 b11
    have lz11 := wy_but lz10 D10 b11
    have hz11 := b11 _ _ nz hz10
    refine ⟨_, rfl, .inl ⟨rfl, _, SqL.of F11.hu⟩, _, rfl, f, a, b, c, e, rfl, A1, SqL.of hf, fun x H12 s12 nx wx => ?_⟩
    have F12 := F11.same s12
    have lz12 := wy_same lz11 s12
    have hz12 := s12 _ _ hz11
    have hf12 := s12 _ _ hf
    have ul : us.length ≤ 5 := by rw [F12.lu.1]; exact n5
    have pl : ps.length ≤ 5 := by rw [F12.lp.1]; exact n5
    have okf : ∀ r ∈ rs ++ [⟨a, b, c, e⟩], Rk.Ok r := fun r hr => by
      rcases List.mem_append.mp hr with y | y
      · exact ok r y
      · rw [List.mem_singleton.mp y]; exact A1
    refine ⟨_, _, _, rfl, rfl, F12.hu, Nat.lt_of_le_of_lt (by omega : _ ≤ 1000) (by decide), ?_⟩
    have zu : z ≠ u := by rintro rfl; rw [F12.hu] at hz12; cases hz12
    have zp : z ≠ p := by rintro rfl; rw [F12.hp] at hz12; cases hz12
    have fu : f ≠ u := row_ne (r := ⟨a, b, c, e⟩) F12.hu F12.lu hf12
    have hp13 : (upd H12 u (.lst (us ++ [.ref x]))) p = some (.lst ps) := (upd_ne F12.pu).trans F12.hp
    have hv13 : (upd H12 u (.lst (us ++ [.ref x]))) v = some (.lst ks) := (upd_ne F12.vu).trans F12.hv
    have hz13 : (upd H12 u (.lst (us ++ [.ref x]))) z = some (.tup ws) := (upd_ne zu).trans hz12
    have hu13 : (upd H12 u (.lst (us ++ [.ref x]))) u = some (.lst (us ++ [.ref x])) := upd_same
    have hf13 : LwAt (upd H12 u (.lst (us ++ [.ref x]))) f ⟨a, b, c, e⟩ := (upd_ne fu).trans hf12
    have lp13 := row_mut (o := .lst (us ++ [.ref x])) F12.hu F12.lu F12.lp
    have lv13 := row_mut (o := .lst (us ++ [.ref x])) F12.hu F12.lu F12.lv
    have lz13 := wy_mut (o := .lst (us ++ [.ref x])) F12.hu lz12
    have lu13 := wy_mut (o := .lst (us ++ [.ref x])) F12.hu (F12.lu.app (r := ⟨a, b, c, e⟩) wx)
    have pu := F12.pu
    have pv := F12.pv
    clear F4 F5 F6 F7 F8 F9 F10 F11 F12
    revert hp13 hv13 hz13 hu13 hf13 lp13 lv13 lz13 lu13
    generalize upd H12 u (.lst (us ++ [.ref x])) = H13
    intro hp13 hv13 hz13 hu13 hf13 lp13 lv13 lz13 lu13
    refine ⟨_, rfl, .inl ⟨rfl, _, SqL.of hp13⟩, _, rfl, _, _, _, rfl, rfl, hp13, Nat.lt_of_le_of_lt (by omega : _ ≤ 1000) (by decide), ?_⟩
    have hp14 : (upd H13 p (.lst (ps ++ [.ref f]))) p = some (.lst (ps ++ [.ref f])) := upd_same
    have hv14 : (upd H13 p (.lst (ps ++ [.ref f]))) v = some (.lst ks) := (upd_ne pv.symm).trans hv13
    have hz14 : (upd H13 p (.lst (ps ++ [.ref f]))) z = some (.tup ws) := (upd_ne zp).trans hz13
    have hu14 : (upd H13 p (.lst (ps ++ [.ref f]))) u = some (.lst (us ++ [.ref x])) := (upd_ne pu.symm).trans hu13
    have lp14 := row_mut (o := .lst (ps ++ [.ref f])) hp13 lp13 (lp13.app hf13)
    have lv14 := row_mut (o := .lst (ps ++ [.ref f])) hp13 lp13 lv13
    have lz14 := wy_mut (o := .lst (ps ++ [.ref f])) hp13 lz13
    have lu14 := wy_mut (o := .lst (ps ++ [.ref f])) hp13 lu13
    revert hp14 hv14 hz14 hu14 lp14 lv14 lz14 lu14
    generalize upd H13 p (.lst (ps ++ [.ref f])) = H14
    intro hp14 hv14 hz14 hu14 lp14 lv14 lz14 lu14
    refine ⟨_, rfl, _, rfl, z, v, ws, ks, _, rfl, .inr (.inl (.inl hz14)), SqL.of hv14, lz14, lv14, okl, ll, fun H15 s15 => ⟨_, rfl, iteF ?_⟩⟩
    have rl : (rs ++ [(⟨a, b, c, e⟩ : Rk)]).length ≤ 100 := by rw [List.length_append, List.length_singleton]; omega
    refine ⟨_, rfl, u, _, _, rfl, .inl (SqL.of (s15 _ _ hu14)), wy_same lu14 s15, okf, rl, fun m ms H16 s16 nm hm lm => ?_⟩
    have s116 := s15.trans s16
    refine ⟨_, rfl, p, _, _, rfl, SqL.of (s116 _ _ hp14), lw_same lp14 s116, rl, fun k kl H17 s17 nk hk lk => ?_⟩
    refine ⟨m, k, ms, kl, _, rfl, .inr (.inl (.inl (s17 _ _ hm))), SqL.of hk, wy_same (wy_same lm s16) s17, lw_same lk s17, fun r h => okf r (left_mem h), Nat.le_trans (keep_len _) rl, fun H18 s18 => ⟨_, rfl, iteT ?_⟩⟩
    have s19 := (s116.trans s17).trans s18
    exact ⟨_, rfl, _, rfl, u, p, _, _, _, rfl, .inl (SqL.of (s19 _ _ hu14)), SqL.of (s19 _ _ hp14), wy_same lu14 s19, lw_same lp14 s19, okf, rl, fun H20 _ => q H20⟩
end
end My

namespace My
open PySem L2
theorem all_mk {l : PySem.W.OpenLaw} {w : World} {K : PySem.W.Frag} {h : Heap} {mg : Str → Option Value} {fa : Addr} (X : K.In h) (G : h.Ns mainGlobals mg) (hfa : mg "law" = some (.ref fa))
    {c_Way : Addr}
    {f_rank : Addr} {od_rank an_rank : Option Addr} {sl_rank : Array (Option Value)} {oc_rank kV_rank dc_rank pm_rank cd_rank ct_rank : Value}
    {f_Way_init : Addr} {od_Way_init an_Way_init : Option Addr} {sl_Way_init : Array (Option Value)} {oc_Way_init dc_Way_init pm_Way_init cd_Way_init ct_Way_init : Value}
    {dt_Way_init : Addr} {odt_Way_init : Option Addr} {cdt_Way_init : Value} {ndt_Way_init : Nat} {sdt_Way_init : Array (Option Value)} {tt_Way_init_0 : Tok} {tt_Way_init_1 : Tok} {tt_Way_init_2 : Tok}
    {kd_Way_init : Addr} 
    {f_Way_eq : Addr} {od_Way_eq an_Way_eq : Option Addr} {sl_Way_eq : Array (Option Value)} {oc_Way_eq kV_Way_eq dc_Way_eq pm_Way_eq cd_Way_eq ct_Way_eq : Value}
    {f_Way_le : Addr} {od_Way_le an_Way_le : Option Addr} {sl_Way_le : Array (Option Value)} {oc_Way_le kV_Way_le dc_Way_le pm_Way_le cd_Way_le ct_Way_le : Value}
    {f_trimmed : Addr} {od_trimmed an_trimmed : Option Addr} {sl_trimmed : Array (Option Value)} {oc_trimmed kV_trimmed dc_trimmed pm_trimmed cd_trimmed ct_trimmed : Value}
    {f__law_draws : Addr} {od__law_draws an__law_draws : Option Addr} {sl__law_draws : Array (Option Value)} {oc__law_draws kV__law_draws dc__law_draws pm__law_draws cd__law_draws ct__law_draws : Value}
    {f__law_take : Addr} {od__law_take an__law_take : Option Addr} {sl__law_take : Array (Option Value)} {oc__law_take kV__law_take dc__law_take pm__law_take cd__law_take ct__law_take : Value}
    {f__law_same : Addr} {od__law_same an__law_same : Option Addr} {sl__law_same : Array (Option Value)} {oc__law_same kV__law_same dc__law_same pm__law_same cd__law_same ct__law_same : Value}
    {f__law_way : Addr} {od__law_way an__law_way : Option Addr} {sl__law_way : Array (Option Value)} {oc__law_way kV__law_way dc__law_way pm__law_way cd__law_way ct__law_way : Value}
    {f__law_way_made : Addr} {od__law_way_made an__law_way_made : Option Addr} {sl__law_way_made : Array (Option Value)} {oc__law_way_made kV__law_way_made dc__law_way_made pm__law_way_made cd__law_way_made ct__law_way_made : Value}
    {f__law_adjusted : Addr} {od__law_adjusted an__law_adjusted : Option Addr} {sl__law_adjusted : Array (Option Value)} {oc__law_adjusted kV__law_adjusted dc__law_adjusted pm__law_adjusted cd__law_adjusted ct__law_adjusted : Value}
    {f__law_second : Addr} {od__law_second an__law_second : Option Addr} {sl__law_second : Array (Option Value)} {oc__law_second kV__law_second dc__law_second pm__law_second cd__law_second ct__law_second : Value}
    {f__law_below : Addr} {od__law_below an__law_below : Option Addr} {sl__law_below : Array (Option Value)} {oc__law_below kV__law_below dc__law_below pm__law_below cd__law_below ct__law_below : Value}
    {f__law_fields : Addr} {od__law_fields an__law_fields : Option Addr} {sl__law_fields : Array (Option Value)} {oc__law_fields kV__law_fields dc__law_fields pm__law_fields cd__law_fields ct__law_fields : Value}
    {f__law_words : Addr} {od__law_words an__law_words : Option Addr} {sl__law_words : Array (Option Value)} {oc__law_words kV__law_words dc__law_words pm__law_words cd__law_words ct__law_words : Value}
    {f__law_row : Addr} {od__law_row an__law_row : Option Addr} {sl__law_row : Array (Option Value)} {oc__law_row kV__law_row dc__law_row pm__law_row cd__law_row ct__law_row : Value}
    {f__law_left : Addr} {od__law_left an__law_left : Option Addr} {sl__law_left : Array (Option Value)} {oc__law_left kV__law_left dc__law_left pm__law_left cd__law_left ct__law_left : Value}
    {f__law_alike : Addr} {od__law_alike an__law_alike : Option Addr} {sl__law_alike : Array (Option Value)} {oc__law_alike kV__law_alike dc__law_alike pm__law_alike cd__law_alike ct__law_alike : Value}
    {f_law : Addr} {od_law an_law : Option Addr} {sl_law : Array (Option Value)} {oc_law kV_law dc_law pm_law cd_law ct_law : Value}
    {q_LEVELS : Addr} {oq_LEVELS : Option Addr} {nq_LEVELS : Nat} {slq_LEVELS : Array (Option Value)} {t_LEVELS_0 : Tok} {t_LEVELS_1 : Tok} {t_LEVELS_2 : Tok} {t_LEVELS_3 : Tok}
    (gc_Way : PySem.W.nsIn K mainGlobals "Way" = some (some (.ref c_Way)))
    (a_rank : PySem.W.nsIn K mainGlobals "rank" = some (some (.ref f_rank)))
    (l_rank : K.lookup f_rank = some ⟨oc_rank, od_rank, .func (PySem.W.fnOf "rank" "rank" (defArgs S_rank) (defBody S_rank) (defScope S_rank) .none kV_rank dc_rank pm_rank an_rank cd_rank ct_rank), sl_rank⟩)
    (c_rank : PySem.W.codeIn K cd_rank "rank" = true)
    (k_rank : PySem.W.keepIn K (.ref f_rank) = true)
    (a_Way_init : PySem.W.findIn K (.ref c_Way) "__init__" = some (some (.ref f_Way_init)))
    (l_Way_init : K.lookup f_Way_init = some ⟨oc_Way_init, od_Way_init, .func (PySem.W.fnOf "__init__" "Way.__init__" (defArgs S_Way_init) (defBody S_Way_init) (defScope S_Way_init) (.ref dt_Way_init) (.ref kd_Way_init) dc_Way_init pm_Way_init an_Way_init cd_Way_init ct_Way_init), sl_Way_init⟩)
    (c_Way_init : PySem.W.codeIn K cd_Way_init "Way.__init__" = true)
    (k_Way_init : PySem.W.keepIn K (.ref f_Way_init) = true)
    (lt_Way_init : K.lookup dt_Way_init = some ⟨cdt_Way_init, odt_Way_init, .seq #[.str "none" tt_Way_init_0, .str "none" tt_Way_init_1, .str "none" tt_Way_init_2] ndt_Way_init, sdt_Way_init⟩)
    (nk_Way_init_early : PySem.W.nsIn K kd_Way_init "early" = some (some (.bool false)))
    (a_Way_eq : PySem.W.findIn K (.ref c_Way) "__eq__" = some (some (.ref f_Way_eq)))
    (l_Way_eq : K.lookup f_Way_eq = some ⟨oc_Way_eq, od_Way_eq, .func (PySem.W.fnOf "__eq__" "Way.__eq__" (defArgs S_Way_eq) (defBody S_Way_eq) (defScope S_Way_eq) .none kV_Way_eq dc_Way_eq pm_Way_eq an_Way_eq cd_Way_eq ct_Way_eq), sl_Way_eq⟩)
    (c_Way_eq : PySem.W.codeIn K cd_Way_eq "Way.__eq__" = true)
    (k_Way_eq : PySem.W.keepIn K (.ref f_Way_eq) = true)
    (a_Way_le : PySem.W.findIn K (.ref c_Way) "__le__" = some (some (.ref f_Way_le)))
    (l_Way_le : K.lookup f_Way_le = some ⟨oc_Way_le, od_Way_le, .func (PySem.W.fnOf "__le__" "Way.__le__" (defArgs S_Way_le) (defBody S_Way_le) (defScope S_Way_le) .none kV_Way_le dc_Way_le pm_Way_le an_Way_le cd_Way_le ct_Way_le), sl_Way_le⟩)
    (c_Way_le : PySem.W.codeIn K cd_Way_le "Way.__le__" = true)
    (k_Way_le : PySem.W.keepIn K (.ref f_Way_le) = true)
    (a_trimmed : PySem.W.nsIn K mainGlobals "trimmed" = some (some (.ref f_trimmed)))
    (l_trimmed : K.lookup f_trimmed = some ⟨oc_trimmed, od_trimmed, .func (PySem.W.fnOf "trimmed" "trimmed" (defArgs S_trimmed) (defBody S_trimmed) (defScope S_trimmed) .none kV_trimmed dc_trimmed pm_trimmed an_trimmed cd_trimmed ct_trimmed), sl_trimmed⟩)
    (c_trimmed : PySem.W.codeIn K cd_trimmed "trimmed" = true)
    (k_trimmed : PySem.W.keepIn K (.ref f_trimmed) = true)
    (a__law_draws : PySem.W.nsIn K mainGlobals "_law_draws" = some (some (.ref f__law_draws)))
    (l__law_draws : K.lookup f__law_draws = some ⟨oc__law_draws, od__law_draws, .func (PySem.W.fnOf "_law_draws" "_law_draws" (defArgs S__law_draws) (defBody S__law_draws) (defScope S__law_draws) .none kV__law_draws dc__law_draws pm__law_draws an__law_draws cd__law_draws ct__law_draws), sl__law_draws⟩)
    (c__law_draws : PySem.W.codeIn K cd__law_draws "_law_draws" = true)
    (k__law_draws : PySem.W.keepIn K (.ref f__law_draws) = true)
    (a__law_take : PySem.W.nsIn K mainGlobals "_law_take" = some (some (.ref f__law_take)))
    (l__law_take : K.lookup f__law_take = some ⟨oc__law_take, od__law_take, .func (PySem.W.fnOf "_law_take" "_law_take" (defArgs S__law_take) (defBody S__law_take) (defScope S__law_take) .none kV__law_take dc__law_take pm__law_take an__law_take cd__law_take ct__law_take), sl__law_take⟩)
    (c__law_take : PySem.W.codeIn K cd__law_take "_law_take" = true)
    (k__law_take : PySem.W.keepIn K (.ref f__law_take) = true)
    (a__law_same : PySem.W.nsIn K mainGlobals "_law_same" = some (some (.ref f__law_same)))
    (l__law_same : K.lookup f__law_same = some ⟨oc__law_same, od__law_same, .func (PySem.W.fnOf "_law_same" "_law_same" (defArgs S__law_same) (defBody S__law_same) (defScope S__law_same) .none kV__law_same dc__law_same pm__law_same an__law_same cd__law_same ct__law_same), sl__law_same⟩)
    (c__law_same : PySem.W.codeIn K cd__law_same "_law_same" = true)
    (k__law_same : PySem.W.keepIn K (.ref f__law_same) = true)
    (a__law_way : PySem.W.nsIn K mainGlobals "_law_way" = some (some (.ref f__law_way)))
    (l__law_way : K.lookup f__law_way = some ⟨oc__law_way, od__law_way, .func (PySem.W.fnOf "_law_way" "_law_way" (defArgs S__law_way) (defBody S__law_way) (defScope S__law_way) .none kV__law_way dc__law_way pm__law_way an__law_way cd__law_way ct__law_way), sl__law_way⟩)
    (c__law_way : PySem.W.codeIn K cd__law_way "_law_way" = true)
    (k__law_way : PySem.W.keepIn K (.ref f__law_way) = true)
    (a__law_way_made : PySem.W.nsIn K mainGlobals "_law_way_made" = some (some (.ref f__law_way_made)))
    (l__law_way_made : K.lookup f__law_way_made = some ⟨oc__law_way_made, od__law_way_made, .func (PySem.W.fnOf "_law_way_made" "_law_way_made" (defArgs S__law_way_made) (defBody S__law_way_made) (defScope S__law_way_made) .none kV__law_way_made dc__law_way_made pm__law_way_made an__law_way_made cd__law_way_made ct__law_way_made), sl__law_way_made⟩)
    (c__law_way_made : PySem.W.codeIn K cd__law_way_made "_law_way_made" = true)
    (k__law_way_made : PySem.W.keepIn K (.ref f__law_way_made) = true)
    (a__law_adjusted : PySem.W.nsIn K mainGlobals "_law_adjusted" = some (some (.ref f__law_adjusted)))
    (l__law_adjusted : K.lookup f__law_adjusted = some ⟨oc__law_adjusted, od__law_adjusted, .func (PySem.W.fnOf "_law_adjusted" "_law_adjusted" (defArgs S__law_adjusted) (defBody S__law_adjusted) (defScope S__law_adjusted) .none kV__law_adjusted dc__law_adjusted pm__law_adjusted an__law_adjusted cd__law_adjusted ct__law_adjusted), sl__law_adjusted⟩)
    (c__law_adjusted : PySem.W.codeIn K cd__law_adjusted "_law_adjusted" = true)
    (k__law_adjusted : PySem.W.keepIn K (.ref f__law_adjusted) = true)
    (a__law_second : PySem.W.nsIn K mainGlobals "_law_second" = some (some (.ref f__law_second)))
    (l__law_second : K.lookup f__law_second = some ⟨oc__law_second, od__law_second, .func (PySem.W.fnOf "_law_second" "_law_second" (defArgs S__law_second) (defBody S__law_second) (defScope S__law_second) .none kV__law_second dc__law_second pm__law_second an__law_second cd__law_second ct__law_second), sl__law_second⟩)
    (c__law_second : PySem.W.codeIn K cd__law_second "_law_second" = true)
    (k__law_second : PySem.W.keepIn K (.ref f__law_second) = true)
    (a__law_below : PySem.W.nsIn K mainGlobals "_law_below" = some (some (.ref f__law_below)))
    (l__law_below : K.lookup f__law_below = some ⟨oc__law_below, od__law_below, .func (PySem.W.fnOf "_law_below" "_law_below" (defArgs S__law_below) (defBody S__law_below) (defScope S__law_below) .none kV__law_below dc__law_below pm__law_below an__law_below cd__law_below ct__law_below), sl__law_below⟩)
    (c__law_below : PySem.W.codeIn K cd__law_below "_law_below" = true)
    (k__law_below : PySem.W.keepIn K (.ref f__law_below) = true)
    (a__law_fields : PySem.W.nsIn K mainGlobals "_law_fields" = some (some (.ref f__law_fields)))
    (l__law_fields : K.lookup f__law_fields = some ⟨oc__law_fields, od__law_fields, .func (PySem.W.fnOf "_law_fields" "_law_fields" (defArgs S__law_fields) (defBody S__law_fields) (defScope S__law_fields) .none kV__law_fields dc__law_fields pm__law_fields an__law_fields cd__law_fields ct__law_fields), sl__law_fields⟩)
    (c__law_fields : PySem.W.codeIn K cd__law_fields "_law_fields" = true)
    (k__law_fields : PySem.W.keepIn K (.ref f__law_fields) = true)
    (a__law_words : PySem.W.nsIn K mainGlobals "_law_words" = some (some (.ref f__law_words)))
    (l__law_words : K.lookup f__law_words = some ⟨oc__law_words, od__law_words, .func (PySem.W.fnOf "_law_words" "_law_words" (defArgs S__law_words) (defBody S__law_words) (defScope S__law_words) .none kV__law_words dc__law_words pm__law_words an__law_words cd__law_words ct__law_words), sl__law_words⟩)
    (c__law_words : PySem.W.codeIn K cd__law_words "_law_words" = true)
    (k__law_words : PySem.W.keepIn K (.ref f__law_words) = true)
    (a__law_row : PySem.W.nsIn K mainGlobals "_law_row" = some (some (.ref f__law_row)))
    (l__law_row : K.lookup f__law_row = some ⟨oc__law_row, od__law_row, .func (PySem.W.fnOf "_law_row" "_law_row" (defArgs S__law_row) (defBody S__law_row) (defScope S__law_row) .none kV__law_row dc__law_row pm__law_row an__law_row cd__law_row ct__law_row), sl__law_row⟩)
    (c__law_row : PySem.W.codeIn K cd__law_row "_law_row" = true)
    (k__law_row : PySem.W.keepIn K (.ref f__law_row) = true)
    (a__law_left : PySem.W.nsIn K mainGlobals "_law_left" = some (some (.ref f__law_left)))
    (l__law_left : K.lookup f__law_left = some ⟨oc__law_left, od__law_left, .func (PySem.W.fnOf "_law_left" "_law_left" (defArgs S__law_left) (defBody S__law_left) (defScope S__law_left) .none kV__law_left dc__law_left pm__law_left an__law_left cd__law_left ct__law_left), sl__law_left⟩)
    (c__law_left : PySem.W.codeIn K cd__law_left "_law_left" = true)
    (k__law_left : PySem.W.keepIn K (.ref f__law_left) = true)
    (a__law_alike : PySem.W.nsIn K mainGlobals "_law_alike" = some (some (.ref f__law_alike)))
    (l__law_alike : K.lookup f__law_alike = some ⟨oc__law_alike, od__law_alike, .func (PySem.W.fnOf "_law_alike" "_law_alike" (defArgs S__law_alike) (defBody S__law_alike) (defScope S__law_alike) .none kV__law_alike dc__law_alike pm__law_alike an__law_alike cd__law_alike ct__law_alike), sl__law_alike⟩)
    (c__law_alike : PySem.W.codeIn K cd__law_alike "_law_alike" = true)
    (k__law_alike : PySem.W.keepIn K (.ref f__law_alike) = true)
    (a_law : PySem.W.nsIn K mainGlobals "law" = some (some (.ref f_law)))
    (l_law : K.lookup f_law = some ⟨oc_law, od_law, .func (PySem.W.fnOf "law" "law" (defArgs S_law) (defBody S_law) (defScope S_law) .none kV_law dc_law pm_law an_law cd_law ct_law), sl_law⟩)
    (c_law : PySem.W.codeIn K cd_law "law" = true)
    (k_law : PySem.W.keepIn K (.ref f_law) = true)
    (z_bool : PySem.W.nsIn K mainGlobals "bool" = some none)
    (z_enumerate : PySem.W.nsIn K mainGlobals "enumerate" = some none)
    (z_int : PySem.W.nsIn K mainGlobals "int" = some none)
    (z_isinstance : PySem.W.nsIn K mainGlobals "isinstance" = some none)
    (z_len : PySem.W.nsIn K mainGlobals "len" = some none)
    (z_list : PySem.W.nsIn K mainGlobals "list" = some none)
    (z_range : PySem.W.nsIn K mainGlobals "range" = some none)
    (z_str : PySem.W.nsIn K mainGlobals "str" = some none)
    (z_tuple : PySem.W.nsIn K mainGlobals "tuple" = some none)
    (aq_LEVELS : PySem.W.nsIn K mainGlobals "LEVELS" = some (some (.ref q_LEVELS)))
    (lq_LEVELS : K.lookup q_LEVELS = some ⟨.type "tuple", oq_LEVELS, .seq #[.str "none" t_LEVELS_0, .str "one" t_LEVELS_1, .str "most" t_LEVELS_2, .str "all" t_LEVELS_3] nq_LEVELS, slq_LEVELS⟩)
    (pg_Way : PySem.W.plainGet K c_Way Str.empty = true)
    (hd_Way : PySem.W.hasDictIn K c_Way = true)
    (po_Way : PySem.W.plainOver K c_Way = true)
    (sa_Way : PySem.W.findIn K (.ref c_Way) "__setattr__" = some (some (.builtin "object.__setattr__")))
    (kc_Way : PySem.W.keepIn K (.ref c_Way) = true)
    (i_Way_init : PySem.W.isFn K (.ref f_Way_init) = true)
    (mk_Way : PySem.W.makesIn K c_Way = true)
    (i_Way_eq : PySem.W.isFn K (.ref f_Way_eq) = true)
    (i_Way_le : PySem.W.isFn K (.ref f_Way_le) = true)
    (hca_Way : PySem.W.findIn K (.ref c_Way) "__class__" = some (some (.builtin "object.__class__")))
    (hcn_Way : PySem.W.specialIn K (.builtin "object.__class__") "__get__" = some (some (.builtin "getset_descriptor.__get__")))
    (hct_Way : PySem.W.takesIn K (.builtin "object.__class__") = some true)
    (hcm_Way : PySem.W.mroIn K c_Way (.type "object") = some true)
    (no_Way_held : PySem.W.findIn K (.ref c_Way) "held" = some none)
    (no_Way_owned : PySem.W.findIn K (.ref c_Way) "owned" = some none)
    (no_Way_seen : PySem.W.findIn K (.ref c_Way) "seen" = some none)
    (no_Way_early : PySem.W.findIn K (.ref c_Way) "early" = some none)
    : ∃ fd : FuncData, (∀ (s : Shared) (v : Value), BindsTo s fd ⟨[v], []⟩ [("_law_script", v)]) ∧ ∀ base : Heap, K.In base → base.Ns mainGlobals mg → FnOk l.prog w K mg base CX0 12 fa fd ["_law_script"] (spLaw K) := by
  have e := hfa.symm.trans (PySem.W.mg_of X G a_law)
  cases e
  have FD_Way_init : FunD K "__init__" "Way.__init__" (defArgs S_Way_init) (defBody S_Way_init) (defScope S_Way_init) [.str "none", .str "none", .str "none"] [("early", .bl false)] f_Way_init (PySem.W.fnOf "__init__" "Way.__init__" (defArgs S_Way_init) (defBody S_Way_init) (defScope S_Way_init) (.ref dt_Way_init) (.ref kd_Way_init) dc_Way_init pm_Way_init an_Way_init cd_Way_init ct_Way_init) := ⟨⟨_, _, _, _, _, _, _, _, _, _, rfl, l_Way_init, c_Way_init, .inr ⟨by simp, dt_Way_init, _, [.str "none" tt_Way_init_0, .str "none" tt_Way_init_1, .str "none" tt_Way_init_2], _, rfl, lt_Way_init, rfl, (.cons ⟨_, rfl⟩ (.cons ⟨_, rfl⟩ (.cons ⟨_, rfl⟩ .nil)))⟩, .inr ⟨kd_Way_init, rfl, fun q hq => by
      simp only [List.mem_cons, List.not_mem_nil, or_false] at hq
      rcases hq with rfl
      · exact ⟨_, nk_Way_init_early, rfl⟩⟩⟩, k_Way_init⟩
  have Hkb_Way_init_4_early : KBn K (PySem.W.fnOf "__init__" "Way.__init__" (defArgs S_Way_init) (defBody S_Way_init) (defScope S_Way_init) (.ref dt_Way_init) (.ref kd_Way_init) dc_Way_init pm_Way_init an_Way_init cd_Way_init ct_Way_init) ["self", "held", "owned", "seen", "early"] 4 ["early"] (fun us ws => us ++ ws) (fun vs zs => vs ++ zs) := by
    obtain ⟨its, mv, h⟩ := FunD.kbinds (ps := ["self", "held", "owned", "seen", "early"]) FD_Way_init 4 ["early"] [] (fun us its mv ws => us ++ ws) (by simp) (by simp) (by simp) (fun r1 r2 r3 r4 => r1.append r4) (fun T D doc pm an cdv ct us its mv ws l1 l2 l3 l4 => match us, ws, mv, its, l1, l4, l3, l2 with | [_, _, _, _], [_], [], [_, _, _], _, _, _, _ => ⟨_, rfl, rfl⟩)
    exact h
  let T : Txt K mg := {
    a_rank := f_rank,
    fd_rank := _,
    F_rank := fun_mk (st := S_rank) l_rank c_rank k_rank,
    b_rank := (fun_mk (st := S_rank) l_rank c_rank k_rank).binds (ps := ["level"]) fun _ _ _ _ _ _ us hl => match us, hl with | [_], _ => rfl,
    g_rank := PySem.W.mg_of X G a_rank,
    a_Way_init := f_Way_init,
    fd_Way_init := _,
    F_Way_init := FD_Way_init,
    a_Way_eq := f_Way_eq,
    fd_Way_eq := _,
    F_Way_eq := fun_mk (st := S_Way_eq) l_Way_eq c_Way_eq k_Way_eq,
    b_Way_eq := (fun_mk (st := S_Way_eq) l_Way_eq c_Way_eq k_Way_eq).binds (ps := ["self", "other"]) fun _ _ _ _ _ _ us hl => match us, hl with | [_, _], _ => rfl,
    a_Way_le := f_Way_le,
    fd_Way_le := _,
    F_Way_le := fun_mk (st := S_Way_le) l_Way_le c_Way_le k_Way_le,
    b_Way_le := (fun_mk (st := S_Way_le) l_Way_le c_Way_le k_Way_le).binds (ps := ["self", "other"]) fun _ _ _ _ _ _ us hl => match us, hl with | [_, _], _ => rfl,
    a_trimmed := f_trimmed,
    fd_trimmed := _,
    F_trimmed := fun_mk (st := S_trimmed) l_trimmed c_trimmed k_trimmed,
    b_trimmed := (fun_mk (st := S_trimmed) l_trimmed c_trimmed k_trimmed).binds (ps := ["ways"]) fun _ _ _ _ _ _ us hl => match us, hl with | [_], _ => rfl,
    g_trimmed := PySem.W.mg_of X G a_trimmed,
    a__law_draws := f__law_draws,
    fd__law_draws := _,
    F__law_draws := fun_mk (st := S__law_draws) l__law_draws c__law_draws k__law_draws,
    b__law_draws := (fun_mk (st := S__law_draws) l__law_draws c__law_draws k__law_draws).binds (ps := ["_law_script"]) fun _ _ _ _ _ _ us hl => match us, hl with | [_], _ => rfl,
    g__law_draws := PySem.W.mg_of X G a__law_draws,
    a__law_take := f__law_take,
    fd__law_take := _,
    F__law_take := fun_mk (st := S__law_take) l__law_take c__law_take k__law_take,
    b__law_take := (fun_mk (st := S__law_take) l__law_take c__law_take k__law_take).binds (ps := ["_law_draws_here", "_law_at", "_law_size"]) fun _ _ _ _ _ _ us hl => match us, hl with | [_, _, _], _ => rfl,
    g__law_take := PySem.W.mg_of X G a__law_take,
    a__law_same := f__law_same,
    fd__law_same := _,
    F__law_same := fun_mk (st := S__law_same) l__law_same c__law_same k__law_same,
    b__law_same := (fun_mk (st := S__law_same) l__law_same c__law_same k__law_same).binds (ps := ["_law_actual", "_law_expected"]) fun _ _ _ _ _ _ us hl => match us, hl with | [_, _], _ => rfl,
    g__law_same := PySem.W.mg_of X G a__law_same,
    a__law_way := f__law_way,
    fd__law_way := _,
    F__law_way := fun_mk (st := S__law_way) l__law_way c__law_way k__law_way,
    b__law_way := (fun_mk (st := S__law_way) l__law_way c__law_way k__law_way).binds (ps := ["_law_draws_here", "_law_at"]) fun _ _ _ _ _ _ us hl => match us, hl with | [_, _], _ => rfl,
    g__law_way := PySem.W.mg_of X G a__law_way,
    a__law_way_made := f__law_way_made,
    fd__law_way_made := _,
    F__law_way_made := fun_mk (st := S__law_way_made) l__law_way_made c__law_way_made k__law_way_made,
    b__law_way_made := (fun_mk (st := S__law_way_made) l__law_way_made c__law_way_made k__law_way_made).binds (ps := ["_law_way_here"]) fun _ _ _ _ _ _ us hl => match us, hl with | [_], _ => rfl,
    g__law_way_made := PySem.W.mg_of X G a__law_way_made,
    a__law_adjusted := f__law_adjusted,
    fd__law_adjusted := _,
    F__law_adjusted := fun_mk (st := S__law_adjusted) l__law_adjusted c__law_adjusted k__law_adjusted,
    b__law_adjusted := (fun_mk (st := S__law_adjusted) l__law_adjusted c__law_adjusted k__law_adjusted).binds (ps := ["_law_ranks"]) fun _ _ _ _ _ _ us hl => match us, hl with | [_], _ => rfl,
    g__law_adjusted := PySem.W.mg_of X G a__law_adjusted,
    a__law_second := f__law_second,
    fd__law_second := _,
    F__law_second := fun_mk (st := S__law_second) l__law_second c__law_second k__law_second,
    b__law_second := (fun_mk (st := S__law_second) l__law_second c__law_second k__law_second).binds (ps := ["_law_draws_here", "_law_at", "_law_first"]) fun _ _ _ _ _ _ us hl => match us, hl with | [_, _, _], _ => rfl,
    g__law_second := PySem.W.mg_of X G a__law_second,
    a__law_below := f__law_below,
    fd__law_below := _,
    F__law_below := fun_mk (st := S__law_below) l__law_below c__law_below k__law_below,
    b__law_below := (fun_mk (st := S__law_below) l__law_below c__law_below k__law_below).binds (ps := ["_law_one", "_law_two"]) fun _ _ _ _ _ _ us hl => match us, hl with | [_, _], _ => rfl,
    g__law_below := PySem.W.mg_of X G a__law_below,
    a__law_fields := f__law_fields,
    fd__law_fields := _,
    F__law_fields := fun_mk (st := S__law_fields) l__law_fields c__law_fields k__law_fields,
    b__law_fields := (fun_mk (st := S__law_fields) l__law_fields c__law_fields k__law_fields).binds (ps := ["_law_way_here"]) fun _ _ _ _ _ _ us hl => match us, hl with | [_], _ => rfl,
    g__law_fields := PySem.W.mg_of X G a__law_fields,
    a__law_words := f__law_words,
    fd__law_words := _,
    F__law_words := fun_mk (st := S__law_words) l__law_words c__law_words k__law_words,
    b__law_words := (fun_mk (st := S__law_words) l__law_words c__law_words k__law_words).binds (ps := ["_law_ranks"]) fun _ _ _ _ _ _ us hl => match us, hl with | [_], _ => rfl,
    g__law_words := PySem.W.mg_of X G a__law_words,
    a__law_row := f__law_row,
    fd__law_row := _,
    F__law_row := fun_mk (st := S__law_row) l__law_row c__law_row k__law_row,
    b__law_row := (fun_mk (st := S__law_row) l__law_row c__law_row k__law_row).binds (ps := ["_law_draws_here", "_law_at"]) fun _ _ _ _ _ _ us hl => match us, hl with | [_, _], _ => rfl,
    g__law_row := PySem.W.mg_of X G a__law_row,
    a__law_left := f__law_left,
    fd__law_left := _,
    F__law_left := fun_mk (st := S__law_left) l__law_left c__law_left k__law_left,
    b__law_left := (fun_mk (st := S__law_left) l__law_left c__law_left k__law_left).binds (ps := ["_law_row_here"]) fun _ _ _ _ _ _ us hl => match us, hl with | [_], _ => rfl,
    g__law_left := PySem.W.mg_of X G a__law_left,
    a__law_alike := f__law_alike,
    fd__law_alike := _,
    F__law_alike := fun_mk (st := S__law_alike) l__law_alike c__law_alike k__law_alike,
    b__law_alike := (fun_mk (st := S__law_alike) l__law_alike c__law_alike k__law_alike).binds (ps := ["_law_ways", "_law_row_here"]) fun _ _ _ _ _ _ us hl => match us, hl with | [_, _], _ => rfl,
    g__law_alike := PySem.W.mg_of X G a__law_alike,
    a_law := fa,
    fd_law := _,
    F_law := fun_mk (st := S_law) l_law c_law k_law,
    b_law := (fun_mk (st := S_law) l_law c_law k_law).binds (ps := ["_law_script"]) fun _ _ _ _ _ _ us hl => match us, hl with | [_], _ => rfl,
    g_law := PySem.W.mg_of X G a_law,
    n_bool := PySem.W.mg_none_of X G z_bool,
    n_enumerate := PySem.W.mg_none_of X G z_enumerate,
    n_int := PySem.W.mg_none_of X G z_int,
    n_isinstance := PySem.W.mg_none_of X G z_isinstance,
    n_len := PySem.W.mg_none_of X G z_len,
    n_list := PySem.W.mg_none_of X G z_list,
    n_range := PySem.W.mg_none_of X G z_range,
    n_str := PySem.W.mg_none_of X G z_str,
    n_tuple := PySem.W.mg_none_of X G z_tuple,
    k_LEVELS := q_LEVELS,
    g_LEVELS := PySem.W.mg_of X G aq_LEVELS,
    q_LEVELS := fun H => .inr ⟨_, _, _, lq_LEVELS, rfl, rfl, by show 4 ≤ sizeLine; decide, (.cons ⟨_, rfl⟩ (.cons ⟨_, rfl⟩ (.cons ⟨_, rfl⟩ (.cons ⟨_, rfl⟩ .nil))))⟩,
    c_Way := c_Way,
    g_Way := PySem.W.mg_of X G gc_Way,
    cl_Way := ⟨pg_Way, hd_Way, po_Way, sa_Way⟩,
    mk_Way := ⟨mk_Way, a_Way_init, i_Way_init, kc_Way⟩,
    m_Way_eq := ⟨a_Way_eq, i_Way_eq, k_Way_eq⟩,
    m_Way_le := ⟨a_Way_le, i_Way_le, k_Way_le⟩,
    ti_Way := fun _ _ _ _ h => .ins h ⟨pg_Way, hd_Way, po_Way, sa_Way⟩ hca_Way hcn_Way hct_Way hcm_Way,
    kk_Way := if_pos (beq_self_eq_true _),
    no_Way_held := no_Way_held,
    no_Way_owned := no_Way_owned,
    no_Way_seen := no_Way_seen,
    no_Way_early := no_Way_early,
    kb_Way_init_4_early := Hkb_Way_init_4_early }
  exact ⟨T.fd_law, fun s v => .of_eq rfl, fun base _ _ => ok_law T⟩
end My
open PySem PySem.W PyProof.Rows in
set_option maxRecDepth 100000 in
set_option maxHeartbeats 0 in
theorem PySem.Challenge.cw_weblocks_k08_trimmed_ways_holds : PySem.Challenge.rw_weblocks_k08_trimmed_ways.Holds := by
  w_on; o_law; k_head; (case hw => w_witness2)
  k_fill
  refine L2.walk_of (l := PySem.Challenge.rw_weblocks_k08_trimmed_ways) (n := 63) (k := 12) (x := "_law_script") (CX := fun _ => L2.CX0) (sp := fun w => My.spLaw _) rfl (by decide) rfl ⟨rfl, by decide, by decide⟩ (fun w h Y => PySem.W.kIn_of Y) ?F (fun _ _ a ns hl _ hS => ⟨a, ns, rfl, hS, hl, fun _ => rfl⟩) (fun _ _ _ _ _ h => h)
  case F =>
    intro w mg fa h KX G hmg
    refine' My.all_mk KX G hmg ?gc_Way ?a_rank ?l_rank ?c_rank ?k_rank ?a_Way_init ?l_Way_init ?c_Way_init ?k_Way_init ?lt_Way_init ?nk_Way_init_early ?a_Way_eq ?l_Way_eq ?c_Way_eq ?k_Way_eq ?a_Way_le ?l_Way_le ?c_Way_le ?k_Way_le ?a_trimmed ?l_trimmed ?c_trimmed ?k_trimmed ?a__law_draws ?l__law_draws ?c__law_draws ?k__law_draws ?a__law_take ?l__law_take ?c__law_take ?k__law_take ?a__law_same ?l__law_same ?c__law_same ?k__law_same ?a__law_way ?l__law_way ?c__law_way ?k__law_way ?a__law_way_made ?l__law_way_made ?c__law_way_made ?k__law_way_made ?a__law_adjusted ?l__law_adjusted ?c__law_adjusted ?k__law_adjusted ?a__law_second ?l__law_second ?c__law_second ?k__law_second ?a__law_below ?l__law_below ?c__law_below ?k__law_below ?a__law_fields ?l__law_fields ?c__law_fields ?k__law_fields ?a__law_words ?l__law_words ?c__law_words ?k__law_words ?a__law_row ?l__law_row ?c__law_row ?k__law_row ?a__law_left ?l__law_left ?c__law_left ?k__law_left ?a__law_alike ?l__law_alike ?c__law_alike ?k__law_alike ?a_law ?l_law ?c_law ?k_law ?z_bool ?z_enumerate ?z_int ?z_isinstance ?z_len ?z_list ?z_range ?z_str ?z_tuple ?aq_LEVELS ?lq_LEVELS ?pg_Way ?hd_Way ?po_Way ?sa_Way ?kc_Way ?i_Way_init ?mk_Way ?i_Way_eq ?i_Way_le ?hca_Way ?hcn_Way ?hct_Way ?hcm_Way ?no_Way_held ?no_Way_owned ?no_Way_seen ?no_Way_early
    (case gc_Way => k_is)
    (case a_rank => k_is)
    (case l_rank => k_is)
    (case c_rank => k_is)
    (case k_rank => k_is)
    (case a_Way_init => k_is)
    (case l_Way_init => k_is)
    (case c_Way_init => k_is)
    (case k_Way_init => k_is)
    (case lt_Way_init => k_is)
    (case nk_Way_init_early => k_is)
    (case a_Way_eq => k_is)
    (case l_Way_eq => k_is)
    (case c_Way_eq => k_is)
    (case k_Way_eq => k_is)
    (case a_Way_le => k_is)
    (case l_Way_le => k_is)
    (case c_Way_le => k_is)
    (case k_Way_le => k_is)
    (case a_trimmed => k_is)
    (case l_trimmed => k_is)
    (case c_trimmed => k_is)
    (case k_trimmed => k_is)
    (case a__law_draws => k_is)
    (case l__law_draws => k_is)
    (case c__law_draws => k_is)
    (case k__law_draws => k_is)
    (case a__law_take => k_is)
    (case l__law_take => k_is)
    (case c__law_take => k_is)
    (case k__law_take => k_is)
    (case a__law_same => k_is)
    (case l__law_same => k_is)
    (case c__law_same => k_is)
    (case k__law_same => k_is)
    (case a__law_way => k_is)
    (case l__law_way => k_is)
    (case c__law_way => k_is)
    (case k__law_way => k_is)
    (case a__law_way_made => k_is)
    (case l__law_way_made => k_is)
    (case c__law_way_made => k_is)
    (case k__law_way_made => k_is)
    (case a__law_adjusted => k_is)
    (case l__law_adjusted => k_is)
    (case c__law_adjusted => k_is)
    (case k__law_adjusted => k_is)
    (case a__law_second => k_is)
    (case l__law_second => k_is)
    (case c__law_second => k_is)
    (case k__law_second => k_is)
    (case a__law_below => k_is)
    (case l__law_below => k_is)
    (case c__law_below => k_is)
    (case k__law_below => k_is)
    (case a__law_fields => k_is)
    (case l__law_fields => k_is)
    (case c__law_fields => k_is)
    (case k__law_fields => k_is)
    (case a__law_words => k_is)
    (case l__law_words => k_is)
    (case c__law_words => k_is)
    (case k__law_words => k_is)
    (case a__law_row => k_is)
    (case l__law_row => k_is)
    (case c__law_row => k_is)
    (case k__law_row => k_is)
    (case a__law_left => k_is)
    (case l__law_left => k_is)
    (case c__law_left => k_is)
    (case k__law_left => k_is)
    (case a__law_alike => k_is)
    (case l__law_alike => k_is)
    (case c__law_alike => k_is)
    (case k__law_alike => k_is)
    (case a_law => k_is)
    (case l_law => k_is)
    (case c_law => k_is)
    (case k_law => k_is)
    (case z_bool => k_is)
    (case z_enumerate => k_is)
    (case z_int => k_is)
    (case z_isinstance => k_is)
    (case z_len => k_is)
    (case z_list => k_is)
    (case z_range => k_is)
    (case z_str => k_is)
    (case z_tuple => k_is)
    (case aq_LEVELS => k_is)
    (case lq_LEVELS => k_is)
    (case pg_Way => k_is)
    (case hd_Way => k_is)
    (case po_Way => k_is)
    (case sa_Way => k_is)
    (case kc_Way => k_is)
    (case i_Way_init => k_is)
    (case mk_Way => k_is)
    (case i_Way_eq => k_is)
    (case i_Way_le => k_is)
    (case hca_Way => k_is)
    (case hcn_Way => k_is)
    (case hct_Way => k_is)
    (case hcm_Way => k_is)
    (case no_Way_held => k_is)
    (case no_Way_owned => k_is)
    (case no_Way_seen => k_is)
    (case no_Way_early => k_is)
#print axioms PySem.Challenge.cw_weblocks_k08_trimmed_ways_holds
