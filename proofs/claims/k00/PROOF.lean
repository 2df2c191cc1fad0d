import PyProof.Rows.All
import Wide.All
import OpenK.AllK
import Wide.FinOn
import HandS.ForMost
import KE.GoesMore
import HandS.Codes
import HandS.IsInst
import HandS.Defaults
import HandS.MakeKw
import HandS.MakeKwOnly
import HandS.SlotsOwn
import HandS.ForExc
import HandS.ExcIs
import HandS.ExcField
import HandS.CallSlots
import KE.KExcIs
import KE.KExcSuper
import KE.KExcMake
import KE.RegKSuper
import HandS.ClsMeth
import HandS.HotCalls
import PySem.Challenge.RW_weblocks_k00_levels
set_option Elab.async false
set_option linter.all false
set_option maxRecDepth 100000
set_option maxHeartbeats 4000000
local macro_rules | `(tactic| walk_at "sd") => `(tactic| first | assumption | omega | decide | rfl | (refine And.intro ?_ ?_ <;> walk_at "sd") | (show _ < PySem.sizeLine; exact Nat.lt_of_le_of_lt (by omega : _ ≤ 100000) (by decide)) | (show _ ≤ PySem.sizeLine; exact Nat.le_trans (by omega : _ ≤ 100000) (by decide)))
local macro_rules | `(tactic| walk_at "hl") => `(tactic| first | assumption | exact L2.upd_same | (refine (L2.upd_ne ?_).trans ?_; (walk_at "ne"); (walk_at "hl")))
local macro_rules | `(tactic| walk_at "ne") => `(tactic| first | assumption | (apply Ne.symm; assumption) | (refine L2.ne_of_none ?_ (by assumption); walk_at "hl") | (apply Ne.symm; refine L2.ne_of_none ?_ (by assumption); walk_at "hl") | (refine L2.ne_of (o := L2.HO.lst _) (u := L2.HO.tup _) ?_ ?_ (by intro z; cases z) <;> walk_at "hl"))
local macro_rules | `(tactic| walk_at "sq") => `(tactic| first | assumption | exact .inl (.inl (by walk_at "hl")) | exact .inl (.inl (.inl (by walk_at "hl"))) | exact .inr (.inl (.inl (by walk_at "hl"))) | exact .inl (by assumption) | exact .inr (by assumption))
local macro_rules | `(tactic| walk_at "at") => `(tactic| first | assumption | exact rfl | exact L2.atI_nat (j := 0) rfl | exact L2.atI_nat (j := 1) rfl | exact L2.atI_nat (j := 2) rfl | exact L2.atI_nat (j := 3) rfl | exact L2.atI_nat rfl | exact L2.atI_nat (by assumption))
local macro_rules | `(tactic| walk_at "r1") => `(tactic| first
  | (refine ⟨_, rfl, ?_⟩)
  | (refine ⟨_, _, rfl, rfl, ?_⟩)
  | (refine ⟨_, _, _, _, rfl, rfl, (by walk_at "sq"), (by walk_at "at"), ?_⟩)
  | (refine ⟨_, _, rfl, (by walk_at "sq"), ?_⟩)
  | (refine ⟨.inl ⟨rfl, _, L2.SqL.of (by walk_at "hl")⟩, ?_⟩)
  | (refine ⟨_, _, _, rfl, rfl, (by walk_at "hl"), (by walk_at "sd"), ?_⟩)
  | (refine ⟨_, _, _, _, rfl, rfl, (by walk_at "hl"), rfl, ?_⟩)
  | (refine And.intro (by walk_at "sd") ?_)
  | (refine .inl ⟨_, rfl, ?_⟩))
local macro_rules | `(tactic| walk_at "rd") => `(tactic| repeat walk_at "r1")
/-! ### enumerate over a tuple -/
namespace PySem
open AutoSeq1 (wpAny_loadPart')
set_option maxHeartbeats 1000000 in
theorem meets_enumerate_newT (l : Addr) (items : Array Value) :
    Meets (Builtin.«enumerate.__new__» ⟨[.type "enumerate", .ref l], []⟩) (fun _ R s => s.heap.IsTuple l items ∧
      R (.ok (.ret (.ref (s.heap.push { cls := .type "tuple_iterator", data := .fields #[.ref l, .int 0 0] }).objs.size)))
        { s with heap := (s.heap.push { cls := .type "tuple_iterator", data := .fields #[.ref l, .int 0 0] }).push { cls := .type "enumerate", data := .fields #[.none, .bool false, .ref s.heap.objs.size, rawInt 0, .none, .none] } }) :=
  .of_wp fun prog w A R s h => by
    obtain ⟨hp, g, d, tk, os⟩ := s; obtain ⟨hL, h⟩ := h
    have hsub := sub_enumerate
    wp_walk using wpAny_pyIter_tuple hL
    refine wpAny_stack_any fun st => wpAny_pure ?_
    split
    · rename_i c _ _ _ _ _
      cases (c == Value.type "enumerate")
      · wp_walk using wpAny_pyIter_tuple hL
        exact ⟨_, rfl, h⟩
      · wp_walk using wpAny_pyIter_tuple hL
        exact ⟨_, rfl, h⟩
    · wp_walk using wpAny_pyIter_tuple hL
      exact ⟨_, rfl, h⟩
section
variable {prog : Program} {w : World} {A : Around} {E : Value → Shared → Prop} {s : Shared}
theorem call_enumerate_tup {l : Addr} {items : Array Value} {Q : Value → Shared → Prop} (hL : s.heap.IsTuple l items)
    (h : ∀ h', IsEnum h' (s.heap.objs.size + 1) s.heap.objs.size 0 .none → h'.IsTupleIter s.heap.objs.size l 0 → h'.objs.size = s.heap.objs.size + 2 →
      (∀ b o, s.heap.get? b = some o → h'.get? b = some o) → Q (.ref (s.heap.objs.size + 1)) { s with heap := h' }) :
    wpAny (model prog w) A (call (.type "enumerate") [.ref l]) Q E s := by
  refine callType_new F.called_enumerate (by decide) (F.typeCall_enumerate_1 _) (F.newCall_enumerate_1 _) (fun obj => F.args_object_init_2 obj _) F.entry_enumerate_new
    (meets_enumerate_newT l items) ⟨hL, ?_⟩
  have hz : (s.heap.push { cls := .type "tuple_iterator", data := .fields #[.ref l, .int 0 0] }).objs.size = s.heap.objs.size + 1 := Heap.size_push ..
  show _ ∧ _
  rw [hz]
  have he : IsEnum ((s.heap.push { cls := .type "tuple_iterator", data := .fields #[.ref l, .int 0 0] }).push
      { cls := .type "enumerate", data := .fields #[.none, .bool false, .ref s.heap.objs.size, rawInt 0, .none, .none] }) (s.heap.objs.size + 1) s.heap.objs.size 0 .none := by
    have := Heap.get?_push_size (s.heap.push { cls := .type "tuple_iterator", data := .fields #[.ref l, .int 0 0] })
      (o := { cls := .type "enumerate", data := .fields #[.none, .bool false, .ref s.heap.objs.size, rawInt 0, .none, .none] }) rfl
    rw [hz] at this; exact this
  refine ⟨⟨_, he, rfl⟩, h _ he ⟨_, Heap.get?_push_of_some _ (Heap.get?_push_size _ rfl), rfl, rfl⟩ (by rw [Heap.size_push, hz]) fun b o x => Heap.get?_push_of_some _ (Heap.get?_push_of_some _ x)⟩
/-- next of an enumerate whose tuple is at its end -/
theorem wpAny_pyNext_enum_endU {e it l : Addr} {i : Nat} {items : Array Value} {old : Value} {Q : Option Value → Shared → Prop} (hh : A.handled = none) (he : IsEnum s.heap e it i old)
    (hit : s.heap.IsTupleIter it l i) (hl : s.heap.IsTuple l items) (hx : items[i]? = none) (hQ : ∀ h', Heap.ExtBut it s.heap h' → Q none { s with heap := h' }) : wpAny (model prog w) A (pyNext (.ref e)) Q E s := by
  have hT : s.TypeIs (.ref e) "enumerate" := ⟨_, he, rfl⟩
  unfold pyNext
  refine wpAny_bind (wpAny_attempt (wpAny_callSpecial?_slot (name := Str.ofString "__next__") hT F.slot_enumerate_next (wpAny_call_entry F.slot_enumerate_next hT F.entry_enumerate_next ?_ (F.args_enumerate_next_1 _))))
  show wpAny _ _ (field (.ref e) 2 >>= _) _ _ _
  refine wpAny_bind (wpAny_field he rfl (x := .ref it) rfl (wpAny_bind (wpAny_nextOf_tuple_end hh hit hl hx fun h' x he' ⟨o, ho, hc⟩ => ?_)))
  exact wpAny_bind (wpAny_isInstance (T := "StopIteration") (b := true) ⟨o, ho, hc⟩ isSubtype_stop (wpAny_pure (hQ _ he')))
end
end PySem
namespace L2
open PySem PySem.Spec PyProof.Rows
/-- the tuple at a, each item in a new pair -/
def ItuE (K : PySem.W.Frag) (a : Addr) : It :=
  ⟨fun i H => ∃ (xs : List V) (x : V), SqT K H a xs ∧ xs[i]? = some x, fun i H v H' => ∃ T x, v = .ref T ∧ H T = none ∧ H' = upd H T (.tup [.int (i : Nat), x]) ∧ ∀ xs, SqT K H a xs → xs[i]? = some x, fun i H => ∃ xs : List V, SqT K H a xs ∧ xs.length ≤ i⟩
theorem turn_enumT {P : Program} {w : World} {K : PySem.W.Frag} {elts : List Expr} {kk : Nat} {tpos : Pos} (a e it : Addr) :
    Turn P w K (.Tuple elts kk tpos) (ItuE K a) [e, it] e (fun i h => (∃ old, IsEnum h e it ((i : Nat) : Int) old) ∧ h.IsTupleIter it a i ∧ e ≠ it ∧ a ≠ it ∧ a ≠ e) where
  mem := by simp
  obj := fun i h st b hb => by
    obtain ⟨⟨old, he⟩, ⟨o, ho, hc, hd⟩, _⟩ := st
    have e' : b = e ∨ b = it := by simpa using hb
    rcases e' with z | z
    · rw [z]; exact ⟨_, he, fun v q => nomatch q⟩
    · rw [z]; exact ⟨o, ho, fun v q => by rw [hd] at q; cases q⟩
  keep := fun i h h' st k => let ⟨⟨old, he⟩, hi, hne⟩ := st; ⟨⟨old, k e (by simp) _ he⟩, hi.at fun o q => k it (by simp) o q, hne⟩
  item := by
    intro X hP hw hK hc i pins s σ H E I hf st hg
    subst hP hw hK
    obtain ⟨⟨old, he⟩, hit, hne, hai, hae⟩ := st
    obtain ⟨xs, x, hq, hx⟩ := hg
    obtain ⟨its, rv, p, hz⟩ := I.tuple hq
    obtain ⟨u, hu, ru⟩ := rv.get hx
    have hel : e < s.heap.objs.size := Heap.lt_size he
    have hil : it < s.heap.objs.size := by obtain ⟨_, q, _⟩ := hit; exact Heap.lt_size q
    have hlen : i < its.toArray.size := by
      have := (List.getElem?_eq_some_iff.mp hu).1
      simpa using this
    have hT0 : s.heap.IsTuple a its.toArray := p
    refine wpAny_pyNext_enum_itemD (Draws.tuple (prog := X.prog) (w := X.w) (A := X.A.in1) (show X.A.in1.handled = none from I.ok.hd hc) it a hai its.toArray) he ⟨hit, hT0⟩ hlen hne (by simp [hne, Ne.symm hae]) fun y h' tk hy ho hst' hT hsz hk => ?_
    have ey : y = u := by
      have q : its[i]? = some y := by simpa using hy
      exact Option.some.inj (q.symm.trans hu)
    subst ey
    obtain ⟨hit', _⟩ := hst'
    refine ⟨_, rfl, wpAny_letOwnedTupleGo_enum (s := { s with heap := h', toks := tk + 1 }) ho fun h'' he' sb => ?_⟩
    have hT2 : h''.get? s.heap.objs.size = some { cls := .type "tuple", data := .seq #[.int i tk, y] } := (sb.2 _ (Nat.ne_of_gt hel)).trans hT
    have new : ObjOk X.prog X.w (upd H s.heap.objs.size (.tup [.int (i : Nat), x])) h'' s.heap.objs.size (.tup [.int (i : Nat), x]) :=
      ⟨by show 2 ≤ sizeLine; decide, [.int i tk, y], .cons ⟨_, rfl⟩ (.cons ru .nil), ⟨_, hT2, rfl, _, rfl⟩⟩
    have I1 : Inv X pins σ (upd H s.heap.objs.size (.tup [.int (i : Nat), x])) { s with heap := h'', toks := tk + 1 } :=
      I.turnedNew (ch := [e, it]) (fun b ob hb q => (sb.2 b (fun z => hb (by simp [z]))).trans (hk b ob (fun z => hb (by simp [z])) (fun z => hb (by simp [z])) q)) hf (Nat.le_refl _) new
    refine ⟨.ref s.heap.objs.size, _, I1, rfl, ⟨_, x, rfl, I.hok.fresh (Nat.le_refl _), rfl, fun ys hy => by rw [I.tuple_inj hy hq]; exact hx⟩, ⟨⟨y, ?_⟩, hit'.at fun o q => (sb.2 it (Ne.symm hne)).trans q, hne, hai, hae⟩, fun b hb => ?_⟩
    · have e1 : ((i + 1 : Nat) : Int) = (i : Int) + 1 := by omega
      rw [e1]; exact he'
    · have hb' : b < s.heap.objs.size := by
        have e' : b = e ∨ b = it := by simpa using hb
        rcases e' with z | z
        · rw [z]; exact hel
        · rw [z]; exact hil
      rw [upd_ne (Nat.ne_of_lt hb')]
      exact (hf b hb).1
  done := by
    intro X hP hw hK hc i pins s σ H E I hf st hg
    subst hP hw hK
    obtain ⟨⟨old, he⟩, hit, hne, hai, hae⟩ := st
    obtain ⟨xs, hq, hx⟩ := hg
    obtain ⟨its, rv, p, hz⟩ := I.tuple hq
    obtain ⟨f0, f1, f2, f3, f4, f5⟩ := hf it (by simp)
    have hl := rv.length
    have hT0 : s.heap.IsTuple a its.toArray := p
    exact wpAny_pyNext_enum_endU (I.ok.hd hc) he hit hT0 (by simp; omega) fun h' eb => ⟨rfl, I.turned (t' := s.toks) (fun b o hb q => eb b o hb q) f0 f1 f3 f4 f5⟩
  self := fun A i s Q E st h => let ⟨⟨_, he⟩, _⟩ := st; wpAny_pyIter_enum he h
def iEnumT (K : PySem.W.Frag) (ta : TA) : TI := fun σ H R => ta σ H fun vs H1 => ∃ a xs, vs = [.ref a] ∧ SqT K H1 a xs ∧ R (ItuE K a) H1
theorem pi_enumT {X : Cx} {e : Expr} {ta : TA} {p pos tpos : Pos} {elts : List Expr} {kk : Nat} (hg : Gl X "enumerate") (hm : X.mg "enumerate" = none) (ha : PA X [e] ta) (hs : starEach [e] X.env = [(false, eval e X.env)] := by rfl) :
    PI X (.Tuple elts kk tpos) (.Call (.Name "enumerate" p) [e] [] pos) (iEnumT X.K ta) := by
  refine ⟨fun pins s σ H R I h => ?_⟩
  refine Call_ (ld_blt I hg hm boot_enumerate (PyProof.Rows.callWith_type1 (thn (ha.run pos pins s σ H _ I h) fun us s1 ⟨vs, H1, I1, r1, q1⟩ => ?_) hs rfl))
  obtain ⟨a, xs, ex, hq, q⟩ := q1
  subst ex
  cases r1 with
  | cons r rr =>
    cases rr
    cases r
    obtain ⟨its, rv, p', hz⟩ := I1.tuple hq
    have hT0 : s1.heap.IsTuple a its.toArray := p'
    have hal : a < s1.heap.objs.size := by obtain ⟨_, q, _⟩ := hT0; exact Heap.lt_size q
    refine call_enumerate_tup hT0 fun h' he hit hsz hk => wpAny_pyIter_enum he ?_
    have I2 : Inv X pins σ H1 { s1 with heap := h' } := I1.kept (t' := s1.toks) hk
    refine ⟨s1.heap.objs.size + 1, [s1.heap.objs.size + 1, s1.heap.objs.size], _, _, H1, rfl, I2, turn_enumT a (s1.heap.objs.size + 1) s1.heap.objs.size, ⟨⟨.none, he⟩, hit, Nat.succ_ne_self _, Nat.ne_of_lt hal, Nat.ne_of_lt (Nat.lt_succ_of_lt hal)⟩, fun b hb => ?_, q⟩
    have e' : b = s1.heap.objs.size + 1 ∨ b = s1.heap.objs.size := by simpa using hb
    have hle : s1.heap.objs.size ≤ b := by
      rcases e' with z | z
      · rw [z]; exact Nat.le_add_right _ _
      · rw [z]; exact Nat.le_refl _
    exact I1.fpOk hle (I1.hok.fresh hle)
end L2
namespace L2
open PySem PySem.Spec PyProof.Rows
theorem for_enumT {K : PySem.W.Frag} {a : Addr} {xs : List V} {g : TG} {tb : TS} {D : Ends} {σ : St} {H : Hp} (Pv : Nat → St → Hp → Prop) (h0 : Pv 0 σ H) (hl : ∀ i σ H, i ≤ xs.length → Pv i σ H → SqT K H a xs)
    (hs : ∀ i x σ H T, xs[i]? = some x → Pv i σ H → H T = none → g (.ref T) σ (upd H T (.tup [.int (i : Nat), x])) fun σ2 H2 => tb { D with nx := Pv (i + 1), ct := Pv (i + 1), bk := D.nx } σ2 H2)
    (hd : ∀ σ H, Pv xs.length σ H → D.nx σ H) :
    ∃ W : Nat → Nat → St → Hp → Prop, (∃ m, W 0 m σ H) ∧ ∀ i m σ H, W i m σ H →
      ((ItuE K a).stop i H ∧ D.nx σ H) ∨ ((ItuE K a).go i H ∧ ∃ N : St → Hp → Prop, (∀ σ' H', N σ' H' → ∃ m', m' < m ∧ W (i + 1) m' σ' H') ∧ ∀ x H', (ItuE K a).yld i H x H' → g x σ H' fun σ2 H2 => tb { D with nx := N, ct := N, bk := D.nx } σ2 H2) := by
  refine ⟨fun i m σ H => m = xs.length - i ∧ i ≤ xs.length ∧ Pv i σ H, ⟨xs.length, by simp, Nat.zero_le _, h0⟩, fun i m σ H hW => ?_⟩
  obtain ⟨em, hi, p⟩ := hW
  have q := hl i σ H hi p
  by_cases hlt : i < xs.length
  · refine .inr ⟨⟨xs, xs[i], q, List.getElem?_eq_getElem hlt⟩, Pv (i + 1), fun σ' H' p' => ⟨xs.length - (i + 1), by omega, rfl, hlt, p'⟩, fun x H' y => ?_⟩
    obtain ⟨T, x', ev, nT, eH, hx⟩ := y
    subst ev eH
    exact hs i x' σ H T (hx xs q) p nT
  · have ei : i = xs.length := by omega
    subst ei
    exact .inl ⟨⟨xs, q, Nat.le_refl _⟩, hd σ H p⟩
end L2

namespace L2
open PySem PySem.Spec PyProof.Rows
/-! ### o.m(e, .., k = v, ..) -/
def tMethN (C : Addr) (m : Str) (n j : Nat) (sp : Sp) (gV : List V → List V → List V) (E : XK) (ta : TE) (t tk : TA) : TE := fun σ H Q => ta σ H fun x H1 => ∃ a dx fs, x = .ref a ∧ H1 a = some (.ins C dx fs) ∧ fs.lookup m = none ∧
  t σ H1 fun vs H2 => tk σ H2 fun zs H3 => vs.length + 1 = n ∧ zs.length = j ∧ sp (gV (x :: vs) zs) H3 Q E
section
variable {X : Cx} {CX : CXT} {k n : Nat} {f C : Addr} {fd : FuncData} {ps ks : List Str} {sp : Sp} {E : XK} {m : Str} {pos apos : Pos} {e o : Expr} {es : List Expr} {kws : List Keyword} {ta : TE} {t tk : TA} {g : List Value → List Value → List Value} {gV : List V → List V → List V}
theorem pe_methN {pl : Sem Bool} (he : PE X o ta) (c : Cls X.K C) (hm : Meth X.K C m f) (F : FnOk X.prog X.w X.K X.mg X.base CX k f fd ps sp) (hr : Room k X.A) (hb : KBn X.K fd ps n ks g gV) (hx : Passes CX X E) (ha : PA X (e :: es) t) (hkw : PK X kws tk)
    (hall : (backToKw pos (keywordEach kws X.env)).all (·.1.isSome) = true := by rfl) (hks : (backToKw pos (keywordEach kws X.env)).filterMap (·.1) = ks := by rfl)
    (hst : starEach (e :: es) X.env = (false, eval e X.env) :: starEach es X.env := by rfl)
    (hpl : ((backTo pos (starEach (e :: es) X.env)).any (·.1) || (backToKw pos (keywordEach kws X.env)).any (·.1.isNone)) = false := by rfl)
    (ht : eval (.Call (.Attribute o m apos) (e :: es) kws pos) X.env = (do
      let ov ← eval o X.env
      standAt apos.atName
      let (f, first) ← holding [ov] (getMethod ov m pl)
      callWith pos f first (backTo pos (starEach (e :: es) X.env)) (backToKw pos (keywordEach kws X.env))) := by rfl) :
    PE X (.Call (.Attribute o m apos) (e :: es) kws pos) (tMethN C m n ks.length sp gV E ta t tk) := by
  refine ⟨fun pins s σ H Q I h => PySem.W.methodCall_KW (pl := pl) (thn (he.run pins s σ H _ I h) fun u s1 ⟨x, H1, I1, rx, a, dx, fs, ex, ea, l, q⟩ => ?_) ht⟩
  subst ex
  obtain rfl : u = Value.ref a := rx
  refine getmeth_ok I1 ea c hm l ?_
  refine PySem.W.callWith_KW (first := [.ref a]) (h₀ := X.base) I.ok.mod.kin hm.kp hall (thn (ha.run pos pins s1 σ H1 _ I1 q) fun us s2 ⟨vs, H2, I2, r, q2⟩ => ?_) hpl hst
  refine thn (hkw.run pos pins s2 σ H2 _ I2 q2) fun ws s3 ⟨zs, H3, I3, rz, l1, l2, q3⟩ => ⟨I3.kIn, ?_⟩
  rw [hks]
  exact run_fnN (us := .ref a :: us) (vs := .ref a :: vs) F hr hb hx I3 (.cons rfl r) rz l1 l2 q3
end
section
variable {P : Program} {w : World} {K : PySem.W.Frag} {mg : Str → Option Value} {base : Heap} {x qual : Str} {params : Arguments} {body : List Stmt} {scope : Scope} {dvs : List V} {kws : List (Str × V)} {f : Addr} {fd : FuncData}
/-- a def with defaults that lets nothing out -/
theorem FunD.ok0 {N ps : List Str} {k : Nat} {sp : Sp} (F : FunD K x qual params body scope dvs kws f fd) (S : FnScope N ps scope) (len : ∀ vs H Q E, sp vs H Q E → vs.length = ps.length)
    (hb : ∀ (cdv : Value) (A : Around) (outer : List Env) (s : Shared) (H : Hp) (vs : List V) (Q : VK) (E : XK), Room k (A.deeper (envOfC qual scope s.heap.objs.size f cdv)) → sp vs H Q E →
      ∃ t, PSs (cxOf CX0 P w K mg base N qual scope f cdv A outer s H E).nox body t ∧ t { nx := fun _ H' => Q .non H', rt := Q } (start N vs) H) : FnOk P w K mg base CX0 (k + 1) f fd ps sp :=
  F.ok S len fun cdv A outer s H vs Q E hr h => (hb cdv A outer s H vs Q E hr h).elim fun t ⟨h1, h2⟩ => ⟨t, h1.nox, h2⟩
end
end L2

namespace L2
open PySem PySem.Spec PyProof.Rows
/-! ### x op y by an own def of the class of both -/
def rOwnI (C : Addr) (sp : Sp) (E : XK) : R2 := fun x y H Q => ∃ a dx fs b dy gs, x = .ref a ∧ y = .ref b ∧ H a = some (.ins C dx fs) ∧ H b = some (.ins C dy gs) ∧ sp [x, y] H Q E
section
variable {X : Cx} {CX : CXT} {n : Nat} {C g : Addr} {fd : FuncData} {ps : List Str} {sp : Sp} {E : XK}
theorem op_cmpI {op : CmpOp} (hop : ∀ a b, compareOp op a b = richCompare op a b) (hs : PySem.W.findIn X.K (.ref C) (cmpInfo op).2.1 = some (some (.ref g))) (hf : PySem.W.isFn X.K (.ref g) = true)
    (F : FnOk X.prog X.w X.K X.mg X.base CX n g fd ps sp) (hr : Room n X.A) (hb : Binds X.K fd ps []) (hx : Passes CX X E) : OpR X (compareOp op) (rOwnI C sp E) := by
  intro pins s σ H x y v u Q I rx ry h
  obtain ⟨a, dx, fs, b, dy, gs, rfl, rfl, ha, hb', q⟩ := h
  cases rx
  cases ry
  obtain ⟨mA, J, _⟩ := ins_get I.hok ha
  obtain ⟨mB, J', _⟩ := ins_get I.hok hb'
  obtain ⟨od, J, _⟩ := J.look
  obtain ⟨od', J', _⟩ := J'.look
  obtain ⟨m, hF⟩ := I.fr
  rw [hop]
  refine PySem.W.cmp_K (op := op) (tb := .ref C) hr.units0 hF I.ok.mod.kin J J'.type (by simp [PySem.W.notFirst]) hs hf ?_
  refine wpAny_mono (run_fn (us := [.ref a, .ref b]) (vs := [.ref a, .ref b]) (dvs := []) F hr hb .nil hx I (.cons rfl (.cons rfl .nil)) q) (fun w s' z => ?_) fun _ _ x => x
  obtain ⟨z', H', I', rz, qz⟩ := z
  exact SlX.cmpback rz ⟨z', H', I', rz, qz⟩
theorem op_binI {op : Operator} (hc : PySem.W.selfFirst X.K C = true) (hs : PySem.W.findIn X.K (.ref C) (PySem.dunder op.info.2) = some (some (.ref g))) (hf : PySem.W.isFn X.K (.ref g) = true)
    (F : FnOk X.prog X.w X.K X.mg X.base CX n g fd ps sp) (hr : Room n X.A) (hb : Binds X.K fd ps []) (hx : Passes CX X E) : OpR X (binaryOp op) (rOwnI C sp E) := by
  intro pins s σ H x y v u Q I rx ry h
  obtain ⟨a, dx, fs, b, dy, gs, rfl, rfl, ha, hb', q⟩ := h
  cases rx
  cases ry
  obtain ⟨mA, J, _⟩ := ins_get I.hok ha
  obtain ⟨mB, J', _⟩ := ins_get I.hok hb'
  obtain ⟨od, J, _⟩ := J.look
  obtain ⟨od', J', _⟩ := J'.look
  obtain ⟨m, hF⟩ := I.fr
  refine PySem.W.binop_K (op := op) hF I.ok.mod.kin J J'.type hc hs hf ?_
  refine wpAny_mono (run_fn (us := [.ref a, .ref b]) (vs := [.ref a, .ref b]) (dvs := []) F hr hb .nil hx I (.cons rfl (.cons rfl .nil)) q) (fun w s' z => ?_) fun _ _ x => x
  obtain ⟨z', H', I', rz, qz⟩ := z
  exact SlX.cmpback rz ⟨z', H', I', rz, qz⟩
end
end L2

/-! ### errors whose __init__ says super().__init__(text) and stores one field -/
namespace PySem
namespace WX
open PySem.W PySem.Calls PyProof.Rows PySem.HandSPX
def iB (fl tx : Str) (q1 q2 q3 q4 q5 q6 q7 q8 q9 q10 : Pos) (j : Nat) : List Stmt :=
  [.Expr (.Call (.Attribute (.Call (.Name "super" q1) [] [] q2) "__init__" q3) [.Constant (.str tx) j q4] [] q5) q6, .Assign [.Attribute (.Name "self" q7) fl q8] (.Name fl q9) q10]
/-- what the top has written of the class cn, at C, and of its __init__, at fI -/
structure ExcTxt (P : Program) (K : Frag) (mg : Str → Option Value) (cn fl : Str) (C : Addr) where
  gC : mg cn = some (.ref C)
  cls : ∃ nm q N bs bm sn sub ab col dd k0 k1 k2 k3 k5, K.lookup C = some (excClassObj nm q C N bs bm true sn sub ab col dd k0 k1 k2 k3 k5 "ValueError.__new__") ∧ refsVE bm = true
  sa : findIn K (.ref C) "__setattr__" = some (some (.builtin "object.__setattr__"))
  ga : findIn K (.ref C) "__getattribute__" = some (some (.builtin "BaseException.__getattribute__"))
  gg : findIn K (.ref C) "__getattr__" = some none
  noN : findIn K (.ref C) fl = some none
  kC : keepIn K (.ref C) = true
  exC : subIn K (.ref C) (.type "BaseException") = some true
  tyC : typeIn K (.ref C) = some (.type "type")
  hdC : hasDictIn K C = true
  fI : Addr
  qual : Str
  tx : Str
  S : Stmt
  oc : Value
  od : Option Addr
  kV : Value
  doc : Value
  pm : Value
  an : Option Addr
  cda : Addr
  ct : Value
  osl : Array (Option Value)
  cc : Addr
  cl : Value
  cld : Option Addr
  csl : Array (Option Value)
  ccl : Value
  cdd : Option Addr
  vs : Array Value
  ccs : Array (Option Value)
  file : Str
  tf : Tok
  q1 : Pos
  q2 : Pos
  q3 : Pos
  q4 : Pos
  q5 : Pos
  q6 : Pos
  q7 : Pos
  q8 : Pos
  q9 : Pos
  q10 : Pos
  j : Nat
  pl : Sem Bool
  iC : findIn K (.ref C) "__init__" = some (some (.ref fI))
  tI : typeIn K (.ref fI) = some (.type "function")
  lI : K.lookup fI = some ⟨oc, od, .func (ksFn "__init__" qual (L2.defArgs S) (L2.defBody S) (L2.defScope S) .none kV doc pm an (.ref cda) ct cc), osl⟩
  cI : codeIn K (.ref cda) qual = true
  lcc : K.lookup cc = some ⟨cl, cld, .cell (some (.ref C)), csl⟩
  lcd : K.lookup cda = some ⟨ccl, cdd, .fields vs, ccs⟩
  hvs : vs[2]? = some (.str file tf)
  hfile : ((P.main.file : Str) == file) = true
  hpar : ∃ ar : Arg, ((L2.defArgs S).posonlyargs ++ (L2.defArgs S).args).head? = some ar ∧ ar.arg = "self"
  hbody : L2.defBody S = iB fl tx q1 q2 q3 q4 q5 q6 q7 q8 q9 q10 j
  hbind : ∀ x v : Value, bindArgs (ksFn "__init__" qual (L2.defArgs S) (L2.defBody S) (L2.defScope S) .none kV doc pm an (.ref cda) ct cc) ⟨[x, v], []⟩ = pure [(("self" : Str), x), (fl, v)]
  hev : ∀ L f : Addr, eval (.Call (.Attribute (.Call (.Name "super" q1) [] [] q2) "__init__" q3) [.Constant (.str tx) j q4] [] q5) (ksEnv qual (L2.defScope S) L f (.ref cda) cc) = (do
      let ov ← attributeBase (.Call (.Name "super" q1) [] [] q2) "__init__" (ksEnv qual (L2.defScope S) L f (.ref cda) cc) (eval (.Call (.Name "super" q1) [] [] q2) (ksEnv qual (L2.defScope S) L f (.ref cda) cc))
      standAt q3.atName
      let (g, first) ← holding [ov] (getMethod ov "__init__" pl)
      callWith q5 g first (backTo q5 (starEach [.Constant (.str tx) j q4] (ksEnv qual (L2.defScope S) L f (.ref cda) cc))) [])
  hk : (L2.defScope S).kind = .function
  hco : (L2.defScope S).isCoroutine = false
  hgen : (L2.defScope S).isGenerator = false
  hks : (L2.defScope S).names.lookup ("super" : Str) = some .globalImplicit
  hkc : (L2.defScope S).names.lookup ("__class__" : Str) = some .free
  hself : (L2.defScope S).names.lookup ("self" : Str) = some .local
  hfl : (L2.defScope S).names.lookup fl = some .local
  hcell : ∀ y ∈ (L2.defScope S).names, y.2 ≠ .cell
  nf : ("self" : Str) ≠ fl ∧ (fl == ("__debug__" : Str)) = false
  top : (P.main.scope.names.lookup ("super" : Str)).isSome = false
  sup : mg "super" = none
  opq : nsIn K cStatics "thirdparty.any" = some none
  nxt : ks_superIn K C C "__init__" = some (some (.builtin "ValueError.__init__"))
  slf : mroIn K C (.ref C) = some true
  sub : subIn K (.ref C) (.type "ValueError") = some true
section
variable {P : Program} {w : World} {A : Around} {E : Value → Shared → Prop} {R : Result → Shared → Prop} {s : Shared} {K : Frag} {mg : Str → Option Value} {cn fl : Str} {C : Addr}
/-- the method-wrapper of ValueError.__init__ called -/
theorem call_mw {h : Heap} {g : Array GenState} {d : Drawn} {t : Nat} {os : OsState} {nm q : Str} {N : Addr} {bs bm : List Value} {hdct : Bool} {sn : List Str} {sub : List Value} {ab : Bool} {col : Option Bool} {dd : Option Addr} {k0 k1 k2 k3 k5 : Option Value} {u e t0 : Addr} {rest : List Value} {Q : Value → Shared → Prop}
    (hC : h.get? C = some (excClassObj nm q C N bs bm hdct sn sub ab col dd k0 k1 k2 k3 k5 "ValueError.__new__")) (he : h.get? e = some (excO C t0)) (hu : h.get? u = some (kxs_mw "ValueError.__init__" e)) (hrest : rest.length ≤ sizeLine)
    (hq : ∀ h' t1, (∀ b o, b ≠ e → h.get? b = some o → h'.get? b = some o) → h'.get? e = some (excO C t1) → Q .none ⟨h', g, d, t, os⟩) :
    wpAny (model P w) A (call (.ref u) rest) Q E ⟨h, g, d, t, os⟩ := by
  refine wpAny_call (codeAny_of_tree ?_)
  show wpAny _ A.in1 (callAny (.ref u) ⟨rest, []⟩) _ _ _
  simp only [callAny]
  refine wpAny_bind (wpAny_load hu ?_)
  simp only [kxs_mw, show (Value.type "method-wrapper" == Value.type "method" || Value.type "method-wrapper" == Value.type "builtin_function_or_method" || Value.type "method-wrapper" == Value.type "method-wrapper") = true by decide, if_true]
  refine KFB.if_so (by decide) (wpAny_bind (check_bound_init PySem.F.excBase_ValueError.toExcCallFacts hC he rfl (wpAny_bind (wpAny_pure (wpAny_pure ?_)))))
  refine ⟨plainId_quiet PySem.F.excBase_ValueError.init.plain _, codeAny_builtin PySem.F.excBase_ValueError.initEntry ?_⟩
  exact exc_init_tree (cls := .ref C) (t0 := t0) (dv := none) (c2 := .none) (c3 := .none) (b4 := .bool false) he hrest fun h' k e' _ => hq h' _ k e'
/-- what __init__ leaves of a fresh exception at x -/
structure InitEnd (h h' : Heap) (x C dx : Addr) (fl : Str) (v : Value) : Prop where
  keep : ∀ b o, b ≠ x → h.get? b = some o → h'.get? b = some o
  obj : ∃ t1 : Addr, h'.get? x = some { cls := .ref C, dict := some dx, data := .fields #[.ref t1, .none, .none, .none, .bool false, .none] }
  dbig : h.objs.size ≤ dx
  dne : dx ≠ x
  ns : h'.Ns1 dx (fun y => if y = fl then some v else none)
theorem x_init (T : ExcTxt P K mg cn fl C) {x t0 : Addr} {v : Value} (X : K.In s.heap) (hlim : s.heap.NoLimit) (hG : s.heap.Ns mainGlobals mg) (hB : ∃ mb, s.heap.Ns builtinsNs mb ∧ ∀ y : Str, y ≠ "__name__" → mb y = bootBuiltins y)
    (hx : s.heap.get? x = some (excO C t0)) (hnx : K.lookup x = none) (hroom : A.depth < recursionLimit)
    (hq : ∀ h' tk dx, InitEnd s.heap h' x C dx fl v → R (.ok (.ret .none)) { s with heap := h', toks := tk }) :
    codeAny (model P w) A (.call (.ref T.fI) ⟨[.ref x, v], []⟩) R s := by
  obtain ⟨nm, q, N, bs, bm, sn, sub, ab, col, dd, k0, k1, k2, k3, k5, hC, hbm⟩ := T.cls
  have hcl : clsIn K C = some { name := nm, bases := bs, mro := .ref C :: bm, ns := N, qualname := q, hasDict := true, slotNames := sn, subclasses := sub, abstract := ab, collection := col, hasDel := false } := by unfold clsIn; rw [hC] <;> rfl
  have hxC : x ≠ C := fun z => by
    have e1 := X _ _ hC
    rw [← z, hx] at e1
    have e2 := congrArg (fun o : Option Obj => o.map (·.data)) e1
    simp [excO, excClassObj] at e2
  have ho := T.lI
  refine ks_codeAny_call_defAt (fd := ksFn "__init__" T.qual (L2.defArgs T.S) (L2.defBody T.S) (L2.defScope T.S) .none T.kV T.doc T.pm T.an (.ref T.cda) T.ct T.cc) (body := L2.defBody T.S) (binds := [("self", .ref x), (fl, v)])
    hroom (X _ _ ho) rfl hlim (codeRec_of X T.cI) rfl (BindsTo.of_eq (T.hbind _ _)) T.hcell ?hloc (fun h₁ hns hk₁ => ?_) T.hco T.hgen T.hk
  case hloc =>
    intro y hy
    simp only [List.mem_cons, List.not_mem_nil, or_false] at hy
    rcases hy with rfl | rfl
    · exact T.hself
    · exact T.hfl
  have X₁ : K.In h₁ := X.keeps hk₁
  have hx₁ := hk₁ _ _ hx
  have ms : (fun y : Str => ([("self", Value.ref x), (fl, v)] : List (Str × Value)).reverse.lookup y) "self" = some (.ref x) := by
    have z : (("self" : Str) == fl) = false := by simpa using T.nf.1
    simp [List.lookup, z]
  have mf : (fun y : Str => ([("self", Value.ref x), (fl, v)] : List (Str × Value)).reverse.lookup y) fl = some v := by simp [List.lookup]
  show wpAt _ (A.deeper (ksEnv T.qual (L2.defScope T.S) s.heap.objs.size T.fI (.ref T.cda) T.cc)) (.func (L2.defBody T.S) (ksEnv T.qual (L2.defScope T.S) s.heap.objs.size T.fI (.ref T.cda) T.cc)) (execs (L2.defBody T.S) (ksEnv T.qual (L2.defScope T.S) s.heap.objs.size T.fI (.ref T.cda) T.cc)) _ _ _
  rw [T.hbody]
  refine ks_wpAt_execs_cons (ks_wpAt_Expr_any (ks_wpAt_MethodCall ?_ (T.hev _ _)) (by unfold interactive; show ((L2.defScope T.S).kind == .module && _) = false; rw [T.hk]; rfl))
  obtain ⟨ar, hp, har⟩ := T.hpar
  obtain ⟨mb, hB1, hB2⟩ := hB
  refine ks_wpAt_super_base T.hks T.hkc (by decide +kernel) rfl (hk₁ _ _ (X _ _ ho)) rfl hp rfl (hk₁ _ _ (X _ _ T.lcd)) rfl T.hvs T.hfile T.top ?_
  refine ks_loadName_global T.hk T.hks (loadGlobal_builtin (hG.keeps hk₁) T.sup (hB1.keeps hk₁) ((hB2 _ (by decide +kernel)).trans PyProof.Rows.Boot.«super») ⟨rfl, ?_⟩)
  refine wpAny_loadName_free T.hk T.hkc rfl ⟨_, X₁ _ _ T.lcc, rfl⟩ ?_
  rw [har]
  refine wpAny_loadName_local T.hk T.hself hns ms ?_
  refine ks_wpAny_isType_cls (X₁ _ _ hC) rfl ⟨rfl, ?_⟩
  refine ks_wpAny_call_super (X₁ _ _ hC) rfl hx₁ rfl (fun c e => by cases e) (looks_mroIn X₁ T.slf) (fun h₂ e₂ k₂ => ?_)
  have X₂ : K.In h₂ := X₁.keeps k₂
  have hx₂ := k₂ _ _ hx₁
  have I₂ : InstAt h₂ x (excO C t0) C none := ⟨hx₂, rfl, rfl, trivial⟩
  have hnxt : alongIn K "__init__" (((Value.ref C :: bm).dropWhile (· != .ref C)).drop 1) = some (some (.builtin "ValueError.__init__")) := by
    have z := T.nxt
    unfold ks_superIn at z
    rw [hcl] at z
    exact z
  refine kxs_getMethod kxs_ValueError e₂ (looks_opaque X₂ T.opq) (l₀ := Value.ref C :: bm) (fun A Q E s k q => wpAny_bind ((looks_clsIn X₂ hcl) A _ E s k (wpAny_pure q))) rfl X₂ hnxt (I₂.type.andThen (looks_subIn X₂ T.sub)) hxC (by decide +kernel) ?_
  have k₃ : ∀ b o, h₂.get? b = some o → (h₂.push (kxs_mw "ValueError.__init__" x)).get? b = some o := fun b o e => Heap.get?_push_of_some _ e
  refine kxs_callWith (i := "ValueError.__init__") (x := x) rfl (evalArgs_plain (spliced_more (wpAny_Constant_str (spliced_none ?_))))
  refine ⟨Heap.get?_push_at rfl rfl, ?_⟩
  refine call_mw (k₃ _ _ (X₂ _ _ hC)) (k₃ _ _ hx₂) (Heap.get?_push_at rfl rfl) (by show 1 ≤ sizeLine; decide) fun h₄ t1 k₄ hx₄ => ?_
  have k14 : ∀ b o, b ≠ x → h₁.get? b = some o → h₄.get? b = some o := fun b o hb e => k₄ b o hb (k₃ _ _ (k₂ _ _ e))
  have hxL : s.heap.objs.size ≠ x := Nat.ne_of_gt (Heap.lt_size hx)
  have hns₄ : h₄.Ns s.heap.objs.size (fun y : Str => ([("self", Value.ref x), (fl, v)] : List (Str × Value)).reverse.lookup y) := by
    obtain ⟨oL, es, ep, hL, r⟩ := hns
    exact ⟨oL, es, ep, k14 _ _ hxL hL, r⟩
  have X₄ : K.In h₄ := fun b o e => k14 b o (fun z => by rw [z, hnx] at e; cases e) (X₁ _ _ e)
  refine ks_wpAt_execs_cons (ks_wpAt_Assign_Attr (wpAt_of_wpAny (wpAny_Name (wpAny_loadName_local T.hk T.hfl hns₄ mf ?_) T.nf.2)))
  refine wpAny_Name (wpAny_loadName_local T.hk T.hself hns₄ ms ?_)
  refine set_plain X₄ (ox := excO C t1) (od := none) ⟨hx₄, rfl, rfl, trivial⟩ T.sa ?_
  refine exc_osa X₄ hx₄ hcl (show refsVE (.ref C :: bm) = true from hbm) rfl T.noN (fun h₅ tk₅ dx k₅ dn dne hx₅ hn₅ => ?_)
  exact wpAt_of_wpAny (wpAny_execs_nil (hq h₅ tk₅ dx ⟨fun b o hb e => k₅ b o hb (k14 b o hb (hk₁ b o e)), ⟨t1, hx₅⟩, Nat.le_trans (Nat.le_of_lt hns₄.lt) dn, dne, hn₅⟩))
/-- a made error -/
structure OwnMade (h h' : Heap) (e C d : Addr) (fl : Str) (v : Value) : Prop where
  keep : ∀ b o, h.get? b = some o → h'.get? b = some o
  new : h.objs.size ≤ e
  obj : ∃ oe vs, h'.get? e = some oe ∧ oe.cls = .ref C ∧ oe.dict = some d ∧ oe.data = .fields vs ∧ vs[1]? = some .none
  dbig : h.objs.size ≤ d
  dne : d ≠ e
  ns : h'.Ns1 d (fun y => if y = fl then some v else none)
theorem x_made (T : ExcTxt P K mg cn fl C) {v : Value} (X : K.In s.heap) (hlim : s.heap.NoLimit) (hG : s.heap.Ns mainGlobals mg) (hB : ∃ mb, s.heap.Ns builtinsNs mb ∧ ∀ y : Str, y ≠ "__name__" → mb y = bootBuiltins y) (hroom : A.depth + 1 < recursionLimit)
    (hq : ∀ h' tk e d, OwnMade s.heap h' e C d fl v → R (.ok (.ret (.ref e))) { s with heap := h', toks := tk }) :
    codeAny (model P w) A (.call (.ref C) ⟨[v], []⟩) R s := by
  obtain ⟨nm, q, N, bs, bm, sn, sub, ab, col, dd, k0, k1, k2, k3, k5, hC, hbm⟩ := T.cls
  obtain ⟨hp, g, dr, tk, os⟩ := s
  have k : ∀ b o, hp.get? b = some o → ((hp.push (kdv_tup [v])).push (excO C hp.objs.size)).get? b = some o := fun b o e => Heap.get?_push_of_some _ (Heap.get?_push_of_some _ e)
  have hget : ((hp.push (kdv_tup [v])).push (excO C hp.objs.size)).get? (hp.objs.size + 1) = some (excO C hp.objs.size) := by heap_get
  have hnx : K.lookup (hp.objs.size + 1) = none := by
    cases e : K.lookup (hp.objs.size + 1) with
    | none => rfl
    | some o => exact absurd (Nat.lt_of_succ_lt (Heap.lt_size (show hp.get? (hp.objs.size + 1) = some o from X _ _ e))) (Nat.lt_irrefl _)
  obtain ⟨mb, hB1, hB2⟩ := hB
  refine call_own PySem.F.excBase_ValueError (fun X => refsVE_contains X bm hbm) (X _ _ hC) (looks_findIn X T.iC) (fun self => bind_fn X self T.tI) (by show 1 ≤ sizeLine; decide) ?_
  refine x_init (s := ⟨(hp.push (kdv_tup [v])).push (excO C hp.objs.size), g, dr, tk, os⟩) T (X.keeps k) (hlim.keeps k) (hG.keeps k) ⟨mb, hB1.keeps k, hB2⟩ hget hnx (show A.depth + 1 < recursionLimit from hroom) fun h' tk' dx ⟨k', ⟨t1, hx⟩, dn, dne, hns⟩ => ?_
  have old : ∀ b o, hp.get? b = some o → h'.get? b = some o := fun b o e => k' b o (Nat.ne_of_lt (Nat.lt_succ_of_lt (Heap.lt_size e))) (k b o e)
  have z : hp.objs.size + 1 + 1 ≤ dx := by
    first
      | (simpa only [Heap.size_push] using dn)
      | exact dn
      | (have q := dn; rw [Heap.size_push, Heap.size_push] at q; exact q)
  exact ⟨rfl, hq h' tk' (hp.objs.size + 1) dx ⟨old, Nat.le_succ _, ⟨_, _, hx, rfl, rfl, rfl, rfl⟩, Nat.le_trans (Nat.le_trans (Nat.le_succ _) (Nat.le_succ _)) z, dne, hns⟩⟩
end
end WX
end PySem
namespace L2
open PySem PySem.Spec PyProof.Rows
theorem relO_x {v : V} {v' : Value} (fl : Str) (r : RelV v v') (f : Str) : RelO (List.lookup f [(fl, v)]) (if f = fl then some v' else none) := by
  by_cases hw : f = fl
  · subst hw
    rw [if_pos rfl, show List.lookup f [(f, v)] = some v by simp [List.lookup]]
    exact r
  · rw [if_neg hw, show List.lookup f [(fl, v)] = none by simp [List.lookup, show (f == fl) = false by simpa using hw]]
    trivial
section
variable {X : Cx} {C : Addr} {cn fl : Str}
/-- cn(e) -/
def tMkX (C : Addr) (fl : Str) (ta : TA) : St → Hp → XK → Prop := fun σ H Q => ta σ H fun vs H1 => ∃ v, vs = [v] ∧ ∀ d, H1 d = none → Q (.ref C) (some d) (upd H1 d (.xd [(fl, v)]))
theorem pmk_x {a : Expr} {ta : TA} {p pos : Pos} {k : Nat} (T : PySem.WX.ExcTxt X.prog X.K X.mg cn fl C) (hr : Room k X.A) (ha : PA X [a] ta) (hg : Gl X cn := by rfl) (hdb : (cn == ("__debug__" : Str)) = false := by decide)
    (he : starEach (a :: []) X.env = (false, eval a X.env) :: starEach [] X.env := by rfl) (hpl : (backTo pos (starEach [] X.env)).any (·.1) = false := by rfl) :
    PMk X (.Call (.Name cn p) [a] [] pos) (tMkX C fl ta) := by
  intro pins s σ H Q I h
  refine wpAny_Call_Name_kw (ld_glob I hg T.gC ?_ hdb)
  refine PySem.W.callWith_K (h₀ := X.base) I.ok.mod.kin T.kC (thn (ha.run pos pins s σ H _ I h) fun us s1 hh => ?_) he hpl
  obtain ⟨vs, H1, I1, r1, v, ev, q1⟩ := hh
  subst ev
  refine ⟨I1.kIn, ?_⟩
  cases r1 with
  | cons rv rn =>
    rename_i v' us'
    cases rn
    show wpAny _ _ (call (.ref C) [v']) _ _ _
    have hlim := I1.nolimit
    have hG := I1.mod.glob.keeps I1.bk
    obtain ⟨mb, hB1, hB2⟩ := I1.mod.blt
    have hB1' := hB1.keeps I1.bk
    obtain ⟨hp, g, dr, tk, os⟩ := s1
    refine wpAny_call (PySem.WX.x_made T I1.kIn hlim hG ⟨mb, hB1', hB2⟩ (by have := hr.dp; omega) fun h' tk' e d M => ?_)
    show MkP X pins σ Q (.ref e) ⟨h', g, dr, tk', os⟩
    obtain ⟨oe, fv, hoe, hc, hd, hdat, h1⟩ := M.obj
    obtain ⟨G', g1, g2⟩ := restrict h' fun b => decide (b ≠ e)
    have gk : ∀ b, b ≠ e → G'.get? b = h'.get? b := fun b hb => g1 b (decide_eq_true hb)
    have ge : G'.get? e = none := g2 e (by simp)
    have old : ∀ b o, hp.get? b = some o → G'.get? b = some o := fun b o q => (gk b (Nat.ne_of_lt (Nat.lt_of_lt_of_le (Heap.lt_size q) M.new))).trans (M.keep b o q)
    have ob : ObjOk X.prog X.w (upd H1 d (.xd [(fl, v)])) G' d (.xd [(fl, v)]) := ⟨_, M.ns.at (fun o q => (gk d M.dne).trans q), fun f => relO_x fl rv f⟩
    have J : Inv X pins σ (upd H1 d (.xd [(fl, v)])) ⟨G', g, dr, tk', os⟩ := I1.laid (t' := tk') old M.dbig ob
    refine ⟨e, oe, fv, ⟨G', g, dr, tk', os⟩, _, .ref C, some d, rfl, J, fun b o q => ?_, ge, hoe, ⟨hc, hd⟩, hdat, h1, ?_, rfl, I1.bare, raises_own T.exC T.tyC, q1 d (I1.hok.fresh M.dbig)⟩
    · by_cases hb : b = e
      · have q' : G'.get? b = some o := q
        rw [hb, ge] at q'; cases q'
      · exact (gk b hb).symm.trans q
    · rw [upd_ne (Ne.symm M.dne)]
      exact I1.hok.fresh M.new
/-- raise cn(e) -/
def tRaiseX (C : Addr) (fl : Str) (W : WX) (ta : TA) : TS := fun _ σ H => tMkX C fl ta σ H fun cls d H' => W cls d σ H'
theorem ps_raiseX {a : Expr} {ta : TA} {W : WX} {p pos pos2 : Pos} {k : Nat} (hc : X.calm = true) (T : PySem.WX.ExcTxt X.prog X.K X.mg cn fl C) (hr : Room k X.A) (tk : Takes X W) (ha : PA X [a] ta) (hg : Gl X cn := by rfl) (hdb : (cn == ("__debug__" : Str)) = false := by decide)
    (he : starEach (a :: []) X.env = (false, eval a X.env) :: starEach [] X.env := by rfl) (hpl : (backTo pos (starEach [] X.env)).any (·.1) = false := by rfl) :
    PS X (.Raise (some (.Call (.Name cn p) [a] [] pos)) none pos2) (tRaiseX C fl W ta) := ps_raise hc tk (pmk_x T hr ha hg hdb he hpl)
end
end L2

namespace L2
open PySem PySem.Spec PyProof.Rows
/-! ### in an except suite: isinstance(e, c) and e.f, e an own error with a dict -/
structure XC (K : PySem.W.Frag) (D : Addr) : Prop where
  ga : PySem.W.findIn K (.ref D) "__getattribute__" = some (some (.builtin "BaseException.__getattribute__"))
  gg : PySem.W.findIn K (.ref D) "__getattr__" = some none
  hs : PySem.W.subIn K (.ref D) (.type "BaseException") = some true
  hd : PySem.W.hasDictIn K D = true
  ha : PySem.W.findIn K (.ref D) "__class__" = some (some (.builtin "object.__class__"))
  hn : PySem.W.specialIn K (.builtin "object.__class__") "__get__" = some (some (.builtin "getset_descriptor.__get__"))
  ht : PySem.W.takesIn K (.builtin "object.__class__") = some true
  hm : PySem.W.mroIn K D (.type "object") = some true
def rIsX (K : PySem.W.Frag) (a : Addr) (cls : Value) (d : Option Addr) : List V → Hp → VK → Prop := fun xs H Q => ∃ (D dd : Addr) (fs : List (Str × V)) (c : V) (cv : Value) (b : Bool), cls = .ref D ∧ d = some dd ∧ H dd = some (.xd fs) ∧ XC K D ∧ xs = [.ref a, c] ∧ ClsV c cv ∧ PySem.W.kitOne K (.ref D) cv = some b ∧ Q (.bl b) H
theorem call_isX {X : Cx} {a : Addr} {oe : Obj} {cls : Value} {d : Option Addr} {pn : List (Addr × Obj)} (hz : Zc cls d oe) (hf : ∃ vs, oe.data = .fields vs) : CallR (X.suite a ((a, oe) :: pn)) (.builtin "isinstance") (rIsX X.K a cls d) := by
  intro pins s σ H xs us Q I r h
  obtain ⟨D, dd, fs, c, cv, b, rfl, rfl, hdd, C, rfl, hcv, e, q⟩ := h
  cases r with
  | cons rx rr =>
    cases rr with
    | cons rt rr =>
      cases rr
      cases rx
      have ec := hcv.eq rt
      subst ec
      obtain ⟨hget, _⟩ := I.pin (a, oe) (List.mem_append.mpr (.inl List.mem_cons_self))
      obtain ⟨vs, hv⟩ := hf
      have hx : ObjOk X.prog X.w H s.heap dd (.xd fs) := I.hok dd _ hdd
      obtain ⟨mA, hns, hr⟩ := hx
      obtain ⟨od, ho, hl⟩ := lookIn_ns hns
      have J : PySem.W.InstAt s.heap a oe D (some od) := ⟨hget, hz.1, by unfold PySem.W.notCls; rw [hv] <;> rfl, by rw [hz.2]; exact ho⟩
      obtain ⟨cd, hc, _⟩ := PySem.W.any_some C.hd
      exact PySem.W.kia_one (PySem.W.kitx_exc (by rw [hc]; rfl) C.ga C.gg C.hs C.ha C.hn C.ht C.hm) I.kIn J e (fun z => nomatch z) fun tk => ⟨.bl b, H, I.kept (t' := tk) fun _ _ z => z, rfl, q⟩
/-- e.f: the reading names the class -/
def tXfX (K : PySem.W.Frag) (a : Addr) (cls : Value) (d : Option Addr) (f : Str) (te : TE) : TE := fun σ H Q => te σ H fun x H1 => x = .ref a ∧ ∃ (C dd : Addr) (fs : List (Str × V)) (v : V), cls = .ref C ∧ XC K C ∧ PySem.W.findIn K (.ref C) f = some none ∧ d = some dd ∧ H1 dd = some (.xd fs) ∧ fs.lookup f = some v ∧ Q v H1
theorem pe_xfX {X : Cx} {a : Addr} {oe : Obj} {cls : Value} {d : Option Addr} {pn : List (Addr × Obj)} {e : Expr} {te : TE} {pos : Pos} {n : Str}
    (hz : Zc cls d oe) (hf : ∃ vs, oe.data = .fields vs) (he : PE (X.suite a ((a, oe) :: pn)) e te) (hb : attributeBase e n X.env (eval e X.env) = eval e X.env := by rfl) :
    PE (X.suite a ((a, oe) :: pn)) (.Attribute e n pos) (tXfX X.K a cls d n te) := by
  refine ⟨fun pins s σ H Q I h => ?_⟩
  refine attr_of hb (thn (he.run pins s σ H _ I h) fun u s1 hh => ?_)
  obtain ⟨x, H1, I1, rx, ex, C, dd, fs, v, ec, T, hno, ed, ea, l, q⟩ := hh
  subst ex
  obtain rfl : u = Value.ref a := rx
  subst ec
  subst ed
  obtain ⟨ha, _⟩ := I1.pin (a, oe) (List.mem_append_left _ List.mem_cons_self)
  obtain ⟨vs, hd⟩ := hf
  have hx : ObjOk X.prog X.w H1 s1.heap dd (.xd fs) := I1.hok dd _ ea
  obtain ⟨mA, hns, hr⟩ := hx
  obtain ⟨od, ho, hl⟩ := lookIn_ns hns
  obtain ⟨u, hu, ru⟩ := RelO.some_of (v := v) (o := mA n) (by rw [← l]; exact hr n)
  have J : PySem.W.InstAt s1.heap a oe C (some od) := ⟨ha, hz.1, by unfold PySem.W.notCls; rw [hd] <;> rfl, by rw [hz.2]; exact ho⟩
  exact HandSPX.exc_get I1.kIn J T.ga T.gg T.hs (PySem.W.findObj_own T.hd hno rfl (by rw [hl, hu])) (handed_of ru) ⟨v, H1, I1.tok _, ru, q⟩
/-! ### calls in a try's body: the way out sees the slots -/
def tMethW (C : Addr) (m : Str) (sp : Sp) (dvs : List V) (E : St → XK) (ta : TE) (t : TA) : TE := fun σ H Q => tMeth C m sp dvs (E σ) ta t σ H Q
section
variable {X : Cx} {CX : CXT} {k : Nat} {f C : Addr} {fd : FuncData} {ps : List Str} {sp : Sp} {dvs : List V} {ds : List Value} {E : St → XK} {x m : Str} {p pos apos : Pos} {e o : Expr} {es : List Expr} {ta : TE} {t : TA}
theorem pe_methW {pl : Sem Bool} (he : PE X o ta) (c : Cls X.K C) (hm : Meth X.K C m f) (F : FnOk X.prog X.w X.K X.mg X.base CX k f fd ps sp) (hr : Room k X.A) (hb : Binds X.K fd ps ds) (hd : Vals dvs ds) (hx : ∀ σ, PassesAt CX X σ (E σ)) (ha : PA X (e :: es) t)
    (hst : starEach (e :: es) X.env = (false, eval e X.env) :: starEach es X.env := by rfl) (hpl : (backTo pos (starEach es X.env)).any (·.1) = false := by rfl)
    (ht : eval (.Call (.Attribute o m apos) (e :: es) [] pos) X.env = (do
      let ov ← eval o X.env
      standAt apos.atName
      let (f, first) ← holding [ov] (getMethod ov m pl)
      callWith pos f first (backTo pos (starEach (e :: es) X.env)) (backToKw pos (keywordEach [] X.env))) := by rfl) :
    PE X (.Call (.Attribute o m apos) (e :: es) [] pos) (tMethW C m sp dvs E ta t) := by
  refine ⟨fun pins s σ H Q I h => ?_⟩
  refine PySem.W.methodCall_KW (pl := pl) (thn (he.run pins s σ H _ I h) fun u s1 ⟨x, H1, I1, rx, a, dx, fs, ex, ea, l, q⟩ => ?_) ht
  subst ex
  obtain rfl : u = Value.ref a := rx
  refine getmeth_ok I1 ea c hm l ?_
  refine PySem.W.callWith_K (first := [.ref a]) (h₀ := X.base) I.ok.mod.kin hm.kp (thn (ha.run pos pins s1 σ H1 _ I1 q) fun us s2 ⟨vs, H2, I2, r, q2⟩ => ⟨I2.kIn, ?_⟩) hst hpl
  exact run_fnSD (us := .ref a :: us) (vs := .ref a :: vs) F hr hb hd (hx σ) I2 (.cons rfl r) q2
end
end L2

namespace L2
open PySem PySem.Spec PyProof.Rows
/-- a def that raises nothing where nothing may be raised -/
theorem FnOk.calm {P : Program} {w : World} {K : PySem.W.Frag} {mg : Str → Option Value} {base : Heap} {k : Nat} {f : Addr} {fd : FuncData} {ps : List Str} {sp : Sp} (F : FnOk P w K mg base (L2.CX P w) k f fd ps sp) :
    FnOk P w K mg base CX0 k f fd ps (fun vs H Q _ => sp vs H Q fun _ _ _ => False) :=
  ⟨fun vs H Q _ h => F.len vs H Q _ h, fun A outer s H args us vs Q _ hr he hb hv hs => codeAny_mono (F.run A outer s H args us vs Q _ hr he hb hv hs) fun r s' hq => by
    cases r with
    | error e =>
      obtain ⟨_, _, _, _, _, _, _, _, _, _, _, _, h⟩ := hq
      exact h.elim
    | ok fl =>
      cases fl with
      | ret u => exact hq
      | next => exact hq
      | brk => exact hq
      | cont => exact hq⟩
/-- the way out of a def as its own caller's -/
theorem passX {X : Cx} {E : XK} (tk : Takes X (fun cls d _ H => E cls d H)) : Passes (L2.CX X.prog X.w) X E := passes_call tk fun _ _ _ _ h => h
end L2

namespace L2
open PySem PySem.Spec PyProof.Rows L2H
/-! ### a def that is handed the exception of the except suite it is called from: p, its place and its object, is known -/
structure FnE (P : Program) (w : World) (K : PySem.W.Frag) (mg : Str → Option Value) (base : Heap) (CX : CXT) (k : Nat) (f : Addr) (fd : FuncData) (ps : List Str) (sp : Sp) (p : Addr × Obj) : Prop where
  len : ∀ vs H Q E, sp vs H Q E → vs.length = ps.length
  run : ∀ (A : Around) (outer : List Env) (s : Shared) (H : Hp) (args : Args) (us : List Value) (vs : List V) (Q : VK) (E : XK), RoomH k A → PinOk outer H s p → Env0 P w K mg base A outer s H → BindsTo s fd args (ps.zip us) → Vals vs us → sp vs H Q E →
    codeAny (model P w) A (.call (.ref f) args) (CR CX outer P w H s Q E) s
section
variable {P : Program} {w : World} {K : PySem.W.Frag} {mg : Str → Option Value} {base : Heap} {k : Nat} {f : Addr} {fd : FuncData} {x qual : Str} {st : Stmt} {N ps : List Str} {sp : Sp} {p : Addr × Obj}
theorem Fun.okE (F : Fun K x qual st f fd) (S : FnScope N ps (defScope st)) (len : ∀ vs H Q E, sp vs H Q E → vs.length = ps.length)
    (body : ∀ (cdv : Value) (A : Around) (outer : List Env) (s : Shared) (H : Hp) (vs : List V) (Q : VK) (E : XK), RoomH k (A.deeper (envOfC qual (defScope st) s.heap.objs.size f cdv)) → sp vs H Q E →
      ∃ t, PSs (cxH CX0 P w K mg base N qual (defScope st) f cdv A outer s H E p) (defBody st) t ∧ t { nx := fun _ H' => Q .non H', rt := Q } (start N vs) H) : FnE P w K mg base CX0 (k + 1) f fd ps sp p := by
  obtain ⟨oc, od, kV, doc, pm, an, cdv, ct, osl, rfl, lk, hcd⟩ := F.ex
  refine ⟨len, fun A outer s H args us vs Q E hr hpin e0 hb r hsp => ?_⟩
  have inK : K.In s.heap := e0.mod.kin.keeps fun b o e => (e0.bs b o e).1
  have lim : s.heap.NoLimit := e0.mod.nolimit.keeps fun b o e => (e0.bs b o e).1
  have kinds : ∀ y ∈ ps.zip us, (defScope st).names.lookup y.1 = some .local ∨ ((defScope st).names.lookup y.1 = some .cell ∧ ((cellsFrom (s.heap.objs.size + 1) (defScope st).names []).lookup y.1).isSome = true) := fun ⟨n, v⟩ hy =>
    (S.par n (List.of_mem_zip hy).1).elim .inl fun q => .inr ⟨q, PySem.W.cellsFrom_some _ _ _ (.inl q)⟩
  refine codeAny_call_function hr.depth (inK _ _ lk) rfl S.co S.gen rfl (PySem.W.codeRec_of inK hcd) (hb _ _ _ _ (wpAny_newFunctionEnv_cells S.kind kinds fun env he s1 y => ?_))
  subst he
  obtain ⟨t, ht, hq⟩ := body cdv A outer s H vs Q E (hr.deeper _) hsp
  refine ⟨lim.keeps y.toInCall.keep, codeAny_func (wpAny_mono (ht.run [] s1 (start N vs) H _ (inv_startH S hpin e0 (len _ _ _ _ hsp) r y) hq) (fun fl s' hs => ?_) fun e s' hs => hs)⟩
  match fl, hs with
  | .ret u, ⟨v, σ', H', J, rv, q⟩ => exact ⟨v, H', J.os, J.bare, J.base, J.hok, rv, q⟩
  | .next, ⟨σ', H', J, q⟩ => exact ⟨V.non, H', J.os, J.bare, J.base, J.hok, rfl, q⟩
  | .brk, ⟨_, _, _, q⟩ => exact False.elim q
  | .cont, ⟨_, _, _, q⟩ => exact False.elim q
end
section
variable {X : Cx} {CX : CXT} {k : Nat} {f : Addr} {fd : FuncData} {ps : List Str} {sp : Sp} {E : XK} {p : Addr × Obj} {x : Str} {q pos : Pos} {e : Expr} {es : List Expr} {t : TA}
theorem pe_callE (F : FnE X.prog X.w X.K X.mg X.base CX k f fd ps sp p) (hr : RoomH k X.A) (hp : p ∈ X.pn) (hg : Gl X x) (hm : X.mg x = some (.ref f)) (hk : PySem.W.keepIn X.K (.ref f) = true) (hb : Binds X.K fd ps []) (hx : Passes CX X E)
    (ha : PA X (e :: es) t) (hdb : (x == ("__debug__" : Str)) = false := by decide) (he : starEach (e :: es) X.env = (false, eval e X.env) :: starEach es X.env := by rfl) (hpl : (backTo pos (starEach es X.env)).any (·.1) = false := by rfl) :
    PE X (.Call (.Name x q) (e :: es) [] pos) (tCall sp [] E t) := by
  refine ⟨fun pins s σ H Q I h => ?_⟩
  refine wpAny_Call_Name_kw (ld_glob I hg hm ?_ hdb)
  refine PySem.W.callWith_K (h₀ := X.base) I.ok.mod.kin hk (thn (ha.run pos pins s σ H _ I h) fun us s1 ⟨vs, H1, I1, r, q⟩ => ⟨I1.kIn, ?_⟩) he hpl
  have q : sp vs H1 Q E := by simpa using q
  have hl : us.length = ps.length := by rw [← r.length]; exact F.len _ _ _ _ q
  have b := hb s1 us I1.kIn (by rw [List.append_nil]; exact hl)
  rw [List.append_nil] at b
  have P1 := I1.pin p (List.mem_append_left _ hp)
  have hpin : PinOk X.stack H1 s1 p := ⟨P1.1, P1.2.1, fun hm => (List.mem_cons.mp (I1.stkSub p.1 hm)).elim P1.2.2.1 P1.2.2.2.1, P1.2.2.2.2⟩
  refine wpAny_call (codeAny_mono (F.run X.A X.stack s1 H1 ⟨us, []⟩ us vs Q E hr hpin I1.env0 b r q) fun r s' hq => ?_)
  match r, hq with
  | .error e, hq => exact hx pins σ H1 s1 e s' I1 hq
  | .ok (.ret u), hq => exact I1.after hq
/-- isinstance(e, c), e the pinned exception -/
theorem call_isP {a : Addr} {oe : Obj} {cls : Value} {d : Option Addr} (hp : (a, oe) ∈ X.pn) (hz : Zc cls d oe) (hf : ∃ vs, oe.data = .fields vs) : CallR X (.builtin "isinstance") (rIsX X.K a cls d) := by
  intro pins s σ H xs us Q I r h
  obtain ⟨D, dd, fs, c, cv, b, rfl, rfl, hdd, C, rfl, hcv, e, q⟩ := h
  cases r with
  | cons rx rr =>
    cases rr with
    | cons rt rr =>
      cases rr
      cases rx
      have ec := hcv.eq rt
      subst ec
      obtain ⟨hget, _⟩ := I.pin (a, oe) (List.mem_append_left _ hp)
      obtain ⟨vs, hv⟩ := hf
      have hx : ObjOk X.prog X.w H s.heap dd (.xd fs) := I.hok dd _ hdd
      obtain ⟨mA, hns, hr⟩ := hx
      obtain ⟨od, ho, hl⟩ := lookIn_ns hns
      have J : PySem.W.InstAt s.heap a oe D (some od) := ⟨hget, hz.1, by unfold PySem.W.notCls; rw [hv] <;> rfl, by rw [hz.2]; exact ho⟩
      obtain ⟨cd, hc, _⟩ := PySem.W.any_some C.hd
      exact PySem.W.kia_one (PySem.W.kitx_exc (by rw [hc]; rfl) C.ga C.gg C.hs C.ha C.hn C.ht C.hm) I.kIn J e (fun z => nomatch z) fun tk => ⟨.bl b, H, I.kept (t' := tk) fun _ _ z => z, rfl, q⟩
/-- e.f, e the pinned exception -/
theorem pe_xfP {a : Addr} {oe : Obj} {cls : Value} {d : Option Addr} {ex : Expr} {te : TE} {n : Str} {apos : Pos} (hp : (a, oe) ∈ X.pn) (hz : Zc cls d oe) (hf : ∃ vs, oe.data = .fields vs) (he : PE X ex te) (hb : attributeBase ex n X.env (eval ex X.env) = eval ex X.env := by rfl) :
    PE X (.Attribute ex n apos) (tXfX X.K a cls d n te) := by
  refine ⟨fun pins s σ H Q I h => ?_⟩
  refine attr_of hb (thn (he.run pins s σ H _ I h) fun u s1 hh => ?_)
  obtain ⟨x, H1, I1, rx, ex, C, dd, fs, v, ec, T, hno, ed, ea, l, q⟩ := hh
  subst ex
  obtain rfl : u = Value.ref a := rx
  subst ec
  subst ed
  obtain ⟨ha, _⟩ := I1.pin (a, oe) (List.mem_append_left _ hp)
  obtain ⟨vs, hd⟩ := hf
  have hx : ObjOk X.prog X.w H1 s1.heap dd (.xd fs) := I1.hok dd _ ea
  obtain ⟨mA, hns, hr⟩ := hx
  obtain ⟨od, ho, hl⟩ := lookIn_ns hns
  obtain ⟨u, hu, ru⟩ := RelO.some_of (v := v) (o := mA n) (by rw [← l]; exact hr n)
  have J : PySem.W.InstAt s1.heap a oe C (some od) := ⟨ha, hz.1, by unfold PySem.W.notCls; rw [hd] <;> rfl, by rw [hz.2]; exact ho⟩
  exact HandSPX.exc_get I1.kIn J T.ga T.gg T.hs (PySem.W.findObj_own T.hd hno rfl (by rw [hl, hu])) (handed_of ru) ⟨v, H1, I1.tok _, ru, q⟩
end
end L2
namespace L2
/-- a built-in's method, the fragment named (for suites and a try's body, whose context names what the reading may not) -/
theorem pe_bmK {X : Cx} {K : PySem.W.Frag} {ex : PySem.Expr} {T : String} {r : V → List V → Hp → VK → Prop} {to : TE} {t : TA} (hK : X.K = K) (h : PE X ex (tBM X.K T r to t)) : PE X ex (tBM K T r to t) := hK ▸ h
end L2
namespace L2
open PySem
theorem room_suite {k j : Nat} {A A' : Around} (hr : Room k A) (h : j ≤ k) (e1 : A'.depth = A.depth) (e2 : A'.units = A.units) : L2H.RoomH j A' := ⟨by have := hr.dp; rw [e1]; omega, by have := hr.un; rw [e2]; omega⟩
end L2

namespace My
open PySem L2
abbrev PP : Program := PySem.Challenge.pw_weblocks_k00_levels
def topS (i : Nat) : Stmt := PySem.Challenge.pw_weblocks_k00_levels.main.body.getD i (.Pass ⟨0, 0, 0, 0⟩)
abbrev S_rank : Stmt := topS 12
abbrev S_needed : Stmt := topS 13
abbrev S__law_draws : Stmt := topS 15
abbrev S__law_take : Stmt := topS 16
abbrev S__law_same : Stmt := topS 17
abbrev S__law_asks : Stmt := topS 18
abbrev S__law_place : Stmt := topS 19
abbrev S__law_word : Stmt := topS 20
abbrev S__law_refusal : Stmt := topS 21
abbrev S__law_told : Stmt := topS 22
abbrev S_law : Stmt := topS 23
abbrev S_BadLevel_init : Stmt := inClass (topS 2) 0
theorem sc_rank : FnScope ["level", "place", "word"] ["level"] (defScope S_rank) := ⟨rfl, rfl, rfl, by decide +kernel, rfl, by decide +kernel, by decide +kernel⟩
theorem sc_needed : FnScope ["level", "parents", "place"] ["level", "parents"] (defScope S_needed) := ⟨rfl, rfl, rfl, by decide +kernel, rfl, by decide +kernel, by decide +kernel⟩
theorem sc__law_draws : FnScope ["_law_script", "_law_draws_here", "_law_cell", "_law_rest", "_law_k", "_law_mixed"] ["_law_script"] (defScope S__law_draws) := ⟨rfl, rfl, rfl, by decide +kernel, rfl, by decide +kernel, by decide +kernel⟩
theorem sc__law_take : FnScope ["_law_draws_here", "_law_at", "_law_size"] ["_law_draws_here", "_law_at", "_law_size"] (defScope S__law_take) := ⟨rfl, rfl, rfl, by decide +kernel, rfl, by decide +kernel, by decide +kernel⟩
theorem sc__law_same : FnScope ["_law_actual", "_law_expected", "_law_k"] ["_law_actual", "_law_expected"] (defScope S__law_same) := ⟨rfl, rfl, rfl, by decide +kernel, rfl, by decide +kernel, by decide +kernel⟩
theorem sc__law_asks : FnScope ["_law_place_here", "_law_parents"] ["_law_place_here", "_law_parents"] (defScope S__law_asks) := ⟨rfl, rfl, rfl, by decide +kernel, rfl, by decide +kernel, by decide +kernel⟩
theorem sc__law_place : FnScope ["_law_word_here", "_law_words", "_law_k"] ["_law_word_here"] (defScope S__law_place) := ⟨rfl, rfl, rfl, by decide +kernel, rfl, by decide +kernel, by decide +kernel⟩
theorem sc__law_word : FnScope ["_law_draws_here", "_law_at", "_law_words", "_law_letters", "_law_word_here", "_law_other", "_law_drawn", "_law_k", "_law_forms"] ["_law_draws_here", "_law_at"] (defScope S__law_word) := ⟨rfl, rfl, rfl, by decide +kernel, rfl, by decide +kernel, by decide +kernel⟩
theorem sc__law_refusal : FnScope ["_law_error", "_law_names"] ["_law_error"] (defScope S__law_refusal) := ⟨rfl, rfl, rfl, by decide +kernel, rfl, by decide +kernel, by decide +kernel⟩
theorem sc__law_told : FnScope ["_law_word_here", "_law_parents", "_law_told_here", "e"] ["_law_word_here", "_law_parents"] (defScope S__law_told) := ⟨rfl, rfl, rfl, by decide +kernel, rfl, by decide +kernel, by decide +kernel⟩
theorem sc_law : FnScope ["_law_script", "_law_draws_here", "_law_at", "_law_words", "_law_turn", "_law_word_here", "_law_parents", "_law_k", "_law_place_here", "_law_due"] ["_law_script"] (defScope S_law) := ⟨rfl, rfl, rfl, by decide +kernel, rfl, by decide +kernel, by decide +kernel⟩
structure Txt (K : PySem.W.Frag) (mg : Str → Option Value) where
  a_rank : Addr
  fd_rank : FuncData
  F_rank : Fun K "rank" "rank" S_rank a_rank fd_rank
  b_rank : Binds K fd_rank ["level"] []
  g_rank : mg "rank" = some (.ref a_rank)
  a_needed : Addr
  fd_needed : FuncData
  F_needed : Fun K "needed" "needed" S_needed a_needed fd_needed
  b_needed : Binds K fd_needed ["level", "parents"] []
  g_needed : mg "needed" = some (.ref a_needed)
  a__law_draws : Addr
  fd__law_draws : FuncData
  F__law_draws : Fun K "_law_draws" "_law_draws" S__law_draws a__law_draws fd__law_draws
  b__law_draws : Binds K fd__law_draws ["_law_script"] []
  g__law_draws : mg "_law_draws" = some (.ref a__law_draws)
  a__law_take : Addr
  fd__law_take : FuncData
  F__law_take : Fun K "_law_take" "_law_take" S__law_take a__law_take fd__law_take
  b__law_take : Binds K fd__law_take ["_law_draws_here", "_law_at", "_law_size"] []
  g__law_take : mg "_law_take" = some (.ref a__law_take)
  a__law_same : Addr
  fd__law_same : FuncData
  F__law_same : Fun K "_law_same" "_law_same" S__law_same a__law_same fd__law_same
  b__law_same : Binds K fd__law_same ["_law_actual", "_law_expected"] []
  g__law_same : mg "_law_same" = some (.ref a__law_same)
  a__law_asks : Addr
  fd__law_asks : FuncData
  F__law_asks : Fun K "_law_asks" "_law_asks" S__law_asks a__law_asks fd__law_asks
  b__law_asks : Binds K fd__law_asks ["_law_place_here", "_law_parents"] []
  g__law_asks : mg "_law_asks" = some (.ref a__law_asks)
  a__law_place : Addr
  fd__law_place : FuncData
  F__law_place : Fun K "_law_place" "_law_place" S__law_place a__law_place fd__law_place
  b__law_place : Binds K fd__law_place ["_law_word_here"] []
  g__law_place : mg "_law_place" = some (.ref a__law_place)
  a__law_word : Addr
  fd__law_word : FuncData
  F__law_word : Fun K "_law_word" "_law_word" S__law_word a__law_word fd__law_word
  b__law_word : Binds K fd__law_word ["_law_draws_here", "_law_at"] []
  g__law_word : mg "_law_word" = some (.ref a__law_word)
  a__law_refusal : Addr
  fd__law_refusal : FuncData
  F__law_refusal : Fun K "_law_refusal" "_law_refusal" S__law_refusal a__law_refusal fd__law_refusal
  b__law_refusal : Binds K fd__law_refusal ["_law_error"] []
  g__law_refusal : mg "_law_refusal" = some (.ref a__law_refusal)
  a__law_told : Addr
  fd__law_told : FuncData
  F__law_told : Fun K "_law_told" "_law_told" S__law_told a__law_told fd__law_told
  b__law_told : Binds K fd__law_told ["_law_word_here", "_law_parents"] []
  g__law_told : mg "_law_told" = some (.ref a__law_told)
  a_law : Addr
  fd_law : FuncData
  F_law : Fun K "law" "law" S_law a_law fd_law
  b_law : Binds K fd_law ["_law_script"] []
  g_law : mg "law" = some (.ref a_law)
  n_ValueError : mg "ValueError" = none
  n_bool : mg "bool" = none
  n_enumerate : mg "enumerate" = none
  n_int : mg "int" = none
  n_isinstance : mg "isinstance" = none
  n_len : mg "len" = none
  n_list : mg "list" = none
  n_max : mg "max" = none
  n_range : mg "range" = none
  n_str : mg "str" = none
  n_tuple : mg "tuple" = none
  k_LEVELS : Addr
  g_LEVELS : mg "LEVELS" = some (.ref k_LEVELS)
  q_LEVELS : ∀ H : Hp, SqT K H k_LEVELS [.str "none", .str "one", .str "most", .str "all"]
  c_BadLevel : Addr
  g_BadLevel : mg "BadLevel" = some (.ref c_BadLevel)
  c_WebError : Addr
  g_WebError : mg "WebError" = some (.ref c_WebError)
  c_BadText : Addr
  g_BadText : mg "BadText" = some (.ref c_BadText)
  c_Refused : Addr
  g_Refused : mg "Refused" = some (.ref c_Refused)
  c_UnknownMark : Addr
  g_UnknownMark : mg "UnknownMark" = some (.ref c_UnknownMark)
  c_BadShape : Addr
  g_BadShape : mg "BadShape" = some (.ref c_BadShape)
  c_NoThing : Addr
  g_NoThing : mg "NoThing" = some (.ref c_NoThing)
  c_BadStep : Addr
  g_BadStep : mg "BadStep" = some (.ref c_BadStep)
  c_TooLarge : Addr
  g_TooLarge : mg "TooLarge" = some (.ref c_TooLarge)
  x_BadLevel : PySem.WX.ExcTxt PP K mg "BadLevel" "level" c_BadLevel
  xc_BadLevel : XC K c_BadLevel
  xn_BadLevel : PySem.W.findIn K (.ref c_BadLevel) "level" = some none
  em_BadLevel_WebError : PySem.W.exmOne K (.ref c_BadLevel) (.ref c_WebError) = some true
  kt_BadLevel_BadText : PySem.W.kitOne K (.ref c_BadLevel) (.ref c_BadText) = some false
  kt_BadLevel_Refused : PySem.W.kitOne K (.ref c_BadLevel) (.ref c_Refused) = some false
  kt_BadLevel_UnknownMark : PySem.W.kitOne K (.ref c_BadLevel) (.ref c_UnknownMark) = some false
  kt_BadLevel_BadLevel : PySem.W.kitOne K (.ref c_BadLevel) (.ref c_BadLevel) = some true
  kt_BadLevel_ValueError : PySem.W.kitOne K (.ref c_BadLevel) (.type "ValueError") = some true
  kt_BadLevel_BadShape : PySem.W.kitOne K (.ref c_BadLevel) (.ref c_BadShape) = some false
  kt_BadLevel_NoThing : PySem.W.kitOne K (.ref c_BadLevel) (.ref c_NoThing) = some false
  kt_BadLevel_BadStep : PySem.W.kitOne K (.ref c_BadLevel) (.ref c_BadStep) = some false
  kt_BadLevel_TooLarge : PySem.W.kitOne K (.ref c_BadLevel) (.ref c_TooLarge) = some false
end My
namespace My
open PySem L2
/-! ### heaps: all but a as it was -/
def But (a : Addr) (H H' : Hp) : Prop := ∀ b o, b ≠ a → H b = some o → H' b = some o
theorem But.refl (a : Addr) (H : Hp) : But a H H := fun _ _ _ h => h
theorem But.trans {a : Addr} {H H1 H2 : Hp} (x : But a H H1) (y : But a H1 H2) : But a H H2 := fun b o n h => y b o n (x b o n h)
theorem But.of_same {a : Addr} {H H' : Hp} (s : Same H H') : But a H H' := fun b o _ h => s b o h
theorem But.upd {a : Addr} {H : Hp} {o : HO} : But a H (upd H a o) := fun b u n h => by rw [upd_ne n]; exact h
theorem same_new {H : Hp} {p : Addr} {o : HO} (h : H p = none) : Same H (upd H p o) := fun b x e => by
  rw [upd_ne (ne_of_none e h)]; exact e
theorem But.new {a p : Addr} {H : Hp} {o : HO} (h : H p = none) : But a H (L2.upd H p o) := But.of_same (same_new h)
/-- an object that H does not know may change -/
theorem same_mut {H H' : Hp} {p : Addr} {o : HO} (e : Same H H') (h : H p = none) : Same H (upd H' p o) := fun a u ha => by
  rw [upd_ne (ne_of_none ha h)]; exact e a u ha
theorem But.mut {a p : Addr} {H H' : Hp} {o : HO} (e : But a H H') (h : H p = none) : But a H (L2.upd H' p o) := fun b u n hb => by
  rw [upd_ne (ne_of_none hb h)]; exact e b u n hb
theorem But.free {a p : Addr} {H H' : Hp} (e : But a H H') (n : p ≠ a) (h : H' p = none) : H p = none := by
  cases q : H p with
  | none => rfl
  | some o => rw [e p o n q] at h; cases h
theorem But.sqL {K : PySem.W.Frag} {a d : Addr} {H H' : Hp} {xs : List V} (e : But a H H') (n : d ≠ a) (h : SqL K H d xs) : SqL K H' d xs := by
  rcases h with (h | ⟨o, h⟩) | h
  · exact .inl (.inl (e _ _ n h))
  · exact .inl (.inr ⟨o, e _ _ n h⟩)
  · exact .inr h
theorem But.sqT {K : PySem.W.Frag} {a d : Addr} {H H' : Hp} {xs : List V} (e : But a H H') (n : d ≠ a) (h : SqT K H d xs) : SqT K H' d xs := by
  rcases h with (h | ⟨o, h⟩) | h
  · exact .inl (.inl (e _ _ n h))
  · exact .inl (.inr ⟨o, e _ _ n h⟩)
  · exact .inr h
theorem same_sqT {K : PySem.W.Frag} {d : Addr} {H H' : Hp} {xs : List V} (e : Same H H') (h : SqT K H d xs) : SqT K H' d xs := by
  rcases h with (h | ⟨o, h⟩) | h
  · exact .inl (.inl (e _ _ h))
  · exact .inl (.inr ⟨o, e _ _ h⟩)
  · exact .inr h
theorem same_make {H H5 : Hp} {x dx C : Addr} (nx : H x = none) (nd : H dx = none) (b : But x (L2.upd (L2.upd H dx (.own x)) x (.ins C dx [])) H5) : Same H H5 := fun y o h =>
  b y o (ne_of_none h nx) (by rw [upd_ne (ne_of_none h nx), upd_ne (ne_of_none h nd)]; exact h)
/-! ### tests -/
theorem iteD {c A B : Prop} [Decidable c] (h1 : c → A) (h2 : ¬ c → B) : if decide c = true then A else B := by
  by_cases h : c
  · rw [decide_eq_true h]; exact iteT (h1 h)
  · rw [decide_eq_false h]; exact iteF (h2 h)
theorem iteN {c A B : Prop} [Decidable c] (h1 : ¬ c → A) (h2 : c → B) : if (!decide c) = true then A else B := by
  by_cases h : c
  · rw [decide_eq_true h]; exact iteF (h2 h)
  · rw [decide_eq_false h]; exact iteT (h1 h)
theorem iteB {b : Bool} {A B : Prop} (h1 : b = true → A) (h2 : b = false → B) : if b = true then A else B := by
  cases b with
  | true => exact iteT (h1 rfl)
  | false => exact iteF (h2 rfl)
theorem iteYes {b : Bool} {A B : Prop} (h : b = true) (h1 : A) : if b = true then A else B := by rw [h]; exact iteT h1
theorem iteNo {b : Bool} {A B : Prop} (h : b = false) (h1 : B) : if b = true then A else B := by rw [h]; exact iteF h1
/-! ### lists -/
theorem ints_app (zs : List Int) (z : Int) : (zs.map V.int) ++ [V.int z] = (zs ++ [z]).map V.int := by rw [List.map_append]; rfl
theorem at_ok {xs : List V} {i : Int} (h0 : 0 ≤ i) (h1 : i < xs.length) : ∃ v, atI xs i = some v ∧ v ∈ xs := by
  obtain ⟨j, rfl⟩ := Int.eq_ofNat_of_zero_le h0
  have hj : j < xs.length := by omega
  exact ⟨xs[j], atI_nat (List.getElem?_eq_getElem hj), List.getElem_mem hj⟩
theorem get_int {ns : List Int} {i : Nat} {y : V} (h : (ns.map V.int)[i]? = some y) : ∃ z, ns[i]? = some z ∧ y = .int z := by
  rw [List.getElem?_map] at h
  cases e : ns[i]? with
  | none => rw [e] at h; cases h
  | some z => rw [e] at h; exact ⟨z, rfl, (Option.some.inj h).symm⟩
end My
namespace L2
open PySem
/-! ### rules whose reading names K itself (in a comprehension's block) -/
theorem ixLK {X : Cx} {K : PySem.W.Frag} (h : X.K = K) : IxR X (rIxL K) := h ▸ ix_list
theorem ixTK {X : Cx} {K : PySem.W.Frag} (h : X.K = K) : IxR X (rIxT K) := h ▸ ix_tup
theorem inK {X : Cx} {K : PySem.W.Frag} (h : X.K = K) : OpR X (compareOp .In) (rIn K false) := h ▸ op_in_seq
theorem ninK {X : Cx} {K : PySem.W.Frag} (h : X.K = K) : OpR X (compareOp .NotIn) (rIn K true) := h ▸ op_notIn_seq
theorem pe_fldK {X : Cx} {K : PySem.W.Frag} {e : Expr} {f : Str} {pos : Pos} {ta : TE} (h : X.K = K) (he : PE X e ta) (hb : attributeBase e f X.env (eval e X.env) = eval e X.env) : PE X (.Attribute e f pos) (tFld K ta f) := h ▸ pe_fld he hb
end L2

namespace My
open PySem L2
/-- the draws at d, the place at a -/
structure Dr (K : PySem.W.Frag) (H : Hp) (d a : Addr) : Prop where
  ds : ∃ ns : List Int, H d = some (.lst (ns.map V.int))
  pl : ∃ k : Nat, H a = some (.lst [.int k])
  ne : d ≠ a
theorem Dr.but {K : PySem.W.Frag} {H H' : Hp} {d a : Addr} (x : Dr K H d a) (e : But a H H') (pl : ∃ k : Nat, H' a = some (.lst [.int k])) : Dr K H' d a :=
  ⟨x.ds.elim fun ns h => ⟨ns, e _ _ x.ne h⟩, pl, x.ne⟩
theorem Dr.same {K : PySem.W.Frag} {H H' : Hp} {d a : Addr} (x : Dr K H d a) (e : Same H H') : Dr K H' d a :=
  x.but (But.of_same e) (x.pl.elim fun k h => ⟨k, e _ _ h⟩)
/-- another object is changed -/
theorem Dr.other {K : PySem.W.Frag} {H H' : Hp} {d a p : Addr} (x : Dr K H d a) (e : But p H H') (n1 : d ≠ p) (n2 : a ≠ p) : Dr K H' d a :=
  ⟨x.ds.elim fun ns h => ⟨ns, e _ _ n1 h⟩, x.pl.elim fun k h => ⟨k, e _ _ n2 h⟩, x.ne⟩
theorem Dr.nd {K : PySem.W.Frag} {H : Hp} {d a p : Addr} (x : Dr K H d a) (h : H p = none) : d ≠ p := ne_of_none x.ds.choose_spec h
theorem Dr.na {K : PySem.W.Frag} {H : Hp} {d a p : Addr} (x : Dr K H d a) (h : H p = none) : p ≠ a := (ne_of_none x.pl.choose_spec h).symm
def spTake (K : PySem.W.Frag) : Sp := fun vs H Q _ => ∃ (d a : Addr) (size : Int), vs = [.ref d, .ref a, .int size] ∧ Dr K H d a ∧ 0 < size ∧
  ∀ (r : Int) (H' : Hp), 0 ≤ r → r < size → Dr K H' d a → But a H H' → Q (.int r) H'
section
variable {P : Program} {w : World} {K : PySem.W.Frag} {mg : Str → Option Value} {base : Heap}
theorem ok__law_take (T : Txt K mg) : FnOk P w K mg base CX0 1 T.a__law_take T.fd__law_take ["_law_draws_here", "_law_at", "_law_size"] (spTake K) := by
  refine T.F__law_take.ok sc__law_take (fun vs H Q E h => ?_) (fun cdv A outer s H vs Q E hr h => ?_)
  · obtain ⟨d, a, size, rfl, _⟩ := h; rfl
  · obtain ⟨d, a, size, rfl, D, hs, q⟩ := h
    obtain ⟨ns, hd0⟩ := D.ds
    have hd : SqL K H d (ns.map V.int) := SqL.of hd0
    obtain ⟨k, hk⟩ := D.pl
    have hb : But a H (upd H a (.lst [.int (k + 1 : Nat)])) := But.upd
    have D' : Dr K (upd H a (.lst [.int (k + 1 : Nat)])) d a := D.but hb ⟨_, upd_same⟩
    have hd' := hb.sqL D.ne hd
    refine ⟨_, (pss_cons (ps_asg (pe_op op_add (pe_ix ix_list (pv 1) (pe_int) (fun _ _ => rfl)) (pe_int)) (pg_sub (pv 1) (pe_int) set_list))
      (pss_cons (ps_if (pt_cmpR op_gt (pe_ix ix_list (pv 1) (pe_int) (fun _ _ => rfl)) (pe_callB call_len_seq (by rfl) T.n_len (by decide +kernel) (pa_cons (pv 0) pa_nil)) (nomark _)) (pss_one (ps_ret (pe_int))) pss_nil)
      (pss_one (ps_ret (pe_op op_mod (pe_callTy call_int1 (by rfl) T.n_int (by decide +kernel) (pa_cons (pe_ix ix_list (pv 0) (pe_op op_sub (pe_ix ix_list (pv 1) (pe_int) (fun _ _ => rfl)) (pe_int)) (fun _ _ => rfl)) pa_nil)) (pv 2)))))), ?_⟩
    walk_at "rd"

    refine iteD (fun c => ?_) (fun c => ?_)
    · exact q 0 _ (Int.le_refl _) hs D' hb
    · rw [List.length_map] at c
      have hl : k < ns.length := by omega
      refine ⟨_, rfl, _, rfl, _, _, _, _, rfl, rfl, SqL.of upd_same, atI_nat (j := 0) rfl, _, _, rfl, rfl, _, _, _, _, rfl, rfl, hd', at_of (j := k) (by omega) (by rw [List.getElem?_map, List.getElem?_eq_getElem hl]; rfl), ?_⟩
      walk_at "rd"
      exact q _ _ (Int.emod_nonneg _ (by omega)) (Int.emod_lt_of_pos _ hs) D' hb
end
end My

namespace My
open PySem L2
def spDraws (K : PySem.W.Frag) : Sp := fun vs H Q _ => ∃ (a : Addr) (ns : List Int), vs = [.ref a] ∧ SqL K H a (ns.map V.int) ∧ ns.length ≤ 63 ∧
  ∀ (p : Addr) (zs : List Int) (H' : Hp), Same H H' → H p = none → H' p = some (.lst (zs.map V.int)) → Q (.ref p) H'
section
variable {P : Program} {w : World} {K : PySem.W.Frag} {mg : Str → Option Value} {base : Heap}
theorem ok__law_draws (T : Txt K mg) : FnOk P w K mg base CX0 1 T.a__law_draws T.fd__law_draws ["_law_script"] (spDraws K) := by
  refine T.F__law_draws.ok sc__law_draws (fun vs H Q E h => ?_) (fun cdv A outer s H vs Q E hr h => ?_)
  · obtain ⟨a, ns, rfl, _⟩ := h; rfl
  · obtain ⟨a, ns, rfl, hS, hlen, q⟩ := h
    refine ⟨_, (pss_cons (ps_set (i := 1) sc__law_draws.nd rfl (.inl rfl) (pe_lst pa_nil))
      (pss_cons (ps_for PassesOwn.never rfl (pi_list (pv 0)) (pg_name (i := 2) sc__law_draws.nd rfl (.inl rfl)) (pss_one (ps_if (pt_cmpR op_ge (pv 2) (pe_op op_pow (pe_int) (pe_int)) (nomark _)) (pss_cons (ps_set (i := 3) sc__law_draws.nd rfl (.inl rfl) (pe_callTy call_int1 (by rfl) T.n_int (by decide +kernel) (pa_cons (pv 2) pa_nil)))
      (pss_one (ps_for PassesOwn.never rfl (pi_range1 (by rfl) T.n_range (pa_cons (pe_int) pa_nil)) (pg_name (i := 4) sc__law_draws.nd rfl (.inl rfl)) (pss_one (ps_if (pt_cmpR op_gt (pv 3) (pe_int) (nomark _)) (pss_cons (ps_expr (pe_bm PySem.F.plainAttrs_list PySem.F.slot_list_append PySem.F.type_list_append mt_append (pv 1) (pa_cons (pe_op op_mod (pe_callTy call_int1 (by rfl) T.n_int (by decide +kernel) (pa_cons (pv 3) pa_nil)) (pe_int)) pa_nil)))
      (pss_one (ps_set (i := 3) sc__law_draws.nd rfl (.inl rfl) (pe_op op_fdiv (pv 3) (pe_int))))) pss_nil))))) (pss_cons (ps_set (i := 5) sc__law_draws.nd rfl (.inl rfl) (pe_op op_mod (pe_callTy call_int1 (by rfl) T.n_int (by decide +kernel) (pa_cons (pe_op op_add (pe_op op_mul (pv 2) (pe_int)) (pe_int)) pa_nil)) (pe_int)))
      (pss_cons (ps_expr (pe_bm PySem.F.plainAttrs_list PySem.F.slot_list_append PySem.F.type_list_append mt_append (pv 1) (pa_cons (pv 5) pa_nil)))
      (pss_one (ps_expr (pe_bm PySem.F.plainAttrs_list PySem.F.slot_list_append PySem.F.type_list_append mt_append (pv 1) (pa_cons (pe_op op_mod (pe_callTy call_int1 (by rfl) T.n_int (by decide +kernel) (pa_cons (pe_op op_add (pe_op op_add (pe_op op_mul (pv 5) (pv 5)) (pe_op op_mul (pe_int) (pv 5))) (pe_op op_mul (pe_int) (pe_callB call_len_seq (by rfl) T.n_len (by decide +kernel) (pa_cons (pv 1) pa_nil)))) pa_nil)) (pe_int)) pa_nil)))))))))
      (pss_one (ps_ret (pv 1))))), ?_⟩
    refine ⟨Nat.zero_le _, fun p hp => ?_⟩
    have s0 : Same H (upd H p (.lst [])) := same_new hp
    refine ⟨_, rfl, a, rfl, ⟨_, s0.seq hS⟩, for_list (K := K) (a := a) (xs := ns.map V.int) (fun i σ H' => ∃ (zs : List Int) (x2 x3 x4 x5 : Option V), σ = [some (.ref a), some (.ref p), x2, x3, x4, x5] ∧ Same H H' ∧ H' p = some (.lst (zs.map V.int)) ∧ zs.length ≤ 60 * i)
      ⟨[], _, _, _, _, rfl, s0, upd_same, Nat.zero_le _⟩ (fun i σ H' _ ⟨_, _, _, _, _, _, s1, _⟩ => s1.seq hS) ?_ ?_⟩
    · rintro i y σ H1 hi ⟨zs, x2, x3, x4, x5, rfl, s1, h1, hz⟩
      have hi63 : i < ns.length := by
        have z := (List.getElem?_eq_some_iff.mp hi).1
        rw [List.length_map] at z
        exact z
      obtain ⟨c, hc, rfl⟩ := get_int hi
      refine ⟨_, rfl, _, _, rfl, rfl, ⟨by decide, by decide, by decide⟩, ?_⟩
      walk_at "rd"
      refine iteD (fun c1 => ?_) (fun c1 => ?_)
      · refine ⟨_, rfl, .inl ⟨_, rfl, ?_⟩⟩
        refine ⟨60, rfl, by decide, by decide, for_range (lo := 0) (n := 60) (fun j σ H' => ∃ (zs : List Int) (r : Int) (x4 : Option V), σ = [some (.ref a), some (.ref p), some (.int c), some (.int r), x4, x5] ∧ Same H H' ∧ H' p = some (.lst (zs.map V.int)) ∧ zs.length ≤ 60 * i + j)
          ⟨zs, c, x4, rfl, s1, h1, hz⟩ ?_ ?_⟩
        · rintro j σ H2 hj ⟨zs, r, x4, rfl, s2, h2, hz2⟩
          walk_at "rd"
          refine iteD (fun c2 => ?_) (fun c2 => ?_)
          · refine ⟨_, rfl, .inl ⟨rfl, _, SqL.of h2⟩, _, rfl, .inl ⟨_, rfl, _, _, rfl, rfl, (by show (0 : Int) < 1000; decide), _, _, _, rfl, rfl, h2, by rw [List.length_map]; exact Nat.lt_of_le_of_lt (by omega : _ ≤ 100000) (by decide), ?_⟩⟩
            refine ⟨_, rfl, _, _, rfl, rfl, ⟨by decide, by decide⟩, ?_⟩
            exact ⟨zs ++ [r % 1000], _, _, rfl, same_mut s2 hp, by rw [upd_same, ints_app], by rw [List.length_append, List.length_singleton]; omega⟩
          · exact ⟨zs, r, _, rfl, s2, h2, by omega⟩
        · rintro σ H2 ⟨zs, r, x4, rfl, s2, h2, hz2⟩
          exact ⟨zs, _, _, _, _, rfl, s2, h2, by omega⟩
      · refine ⟨_, rfl, _, _, rfl, rfl, .inr ⟨by decide, by decide⟩, _, _, rfl, rfl, .inl ⟨_, rfl, _, _, rfl, rfl, (by show (0 : Int) < 9973; decide), ?_⟩⟩
        have hm0 : 0 ≤ (c * 48271 + 12345) % 9973 := Int.emod_nonneg _ (by decide)
        have hm1 : (c * 48271 + 12345) % 9973 < 9973 := Int.emod_lt_of_pos _ (by decide)
        refine ⟨_, rfl, .inl ⟨rfl, _, SqL.of h1⟩, _, rfl, _, _, _, rfl, rfl, h1, by rw [List.length_map]; exact Nat.lt_of_le_of_lt (by omega : _ ≤ 100000) (by decide), ?_⟩
        refine ⟨_, rfl, .inl ⟨rfl, _, SqL.of upd_same⟩, _, rfl, _, rfl, _, _, rfl, rfl, .inl ⟨by omega, by omega⟩, _, rfl, _, _, rfl, rfl, .inl ⟨by decide, by decide⟩, _, _, rfl, rfl, _, rfl, _, _, rfl, .inl (SqL.of upd_same), _, _, rfl, rfl, .inl ⟨by decide, by decide⟩, _, _, rfl, rfl, .inl ⟨_, rfl, _, _, rfl, rfl, (by show (0 : Int) < 9949; decide), ?_⟩⟩
        refine ⟨_, _, _, rfl, rfl, upd_same, by rw [List.length_append, List.length_map]; exact Nat.lt_of_le_of_lt (by simp; omega : _ ≤ 100000) (by decide), ?_⟩
        rw [ints_app, ints_app, upd_upd]
        exact ⟨_, _, _, _, _, rfl, same_mut s1 hp, upd_same, by simp; omega⟩
    · rintro σ H1 ⟨zs, x2, x3, x4, x5, rfl, s1, h1, hz⟩
      exact ⟨_, rfl, q p zs H1 s1 hp h1⟩
end
end My

namespace My
open PySem L2
/-! ### plain data -/
inductive Sc : V → PyData → Prop
  | non : Sc .non .none
  | bl (b : Bool) : Sc (.bl b) (.bool b)
  | int (i : Int) : Sc (.int i) (.int i)
  | str (z : Str) : Sc (.str z) (.str z)
/-- a list that stays where x alone is changed; a tuple likewise -/
def SL (K : PySem.W.Frag) (x : Addr) (H : Hp) (a : Addr) (xs : List V) : Prop := (a ≠ x ∧ SqL K H a xs) ∨ ∀ H', SqL K H' a xs
def SU (K : PySem.W.Frag) (x : Addr) (H : Hp) (a : Addr) (xs : List V) : Prop := (a ≠ x ∧ SqT K H a xs) ∨ ∀ H', SqT K H' a xs
section
variable {K : PySem.W.Frag} {x : Addr} {H H' : Hp} {a : Addr} {xs : List V}
theorem SL.sq (h : SL K x H a xs) : SqL K H a xs := by
  rcases h with h | h
  · exact h.2
  · exact h H
theorem SU.sq (h : SU K x H a xs) : SqT K H a xs := by
  rcases h with h | h
  · exact h.2
  · exact h H
theorem SL.but (h : SL K x H a xs) (e : But x H H') : SL K x H' a xs := by
  rcases h with ⟨n, h⟩ | h
  · exact .inl ⟨n, e.sqL n h⟩
  · exact .inr h
theorem SU.but (h : SU K x H a xs) (e : But x H H') : SU K x H' a xs := by
  rcases h with ⟨n, h⟩ | h
  · exact .inl ⟨n, e.sqT n h⟩
  · exact .inr h
theorem tyL (h : SqL K H a xs) : TyX K H (.ref a) (.type "list") := by
  rcases h with (h | ⟨o, h⟩) | ⟨o, its, n, h, c, _⟩
  · exact .base (.lst h)
  · exact .base (.frz h)
  · exact .kList h c
theorem tyT (h : SqT K H a xs) : TyX K H (.ref a) (.type "tuple") := by
  rcases h with (h | ⟨o, h⟩) | ⟨o, its, n, h, c, _⟩
  · exact .base (.tup h)
  · exact .fTuple h
  · exact .kTuple h c
end
/-- data of depth n at most -/
def Dn (K : PySem.W.Frag) (x : Addr) (H : Hp) : Nat → V → PyData → Prop
  | 0, v, d => Sc v d
  | n + 1, v, d => Sc v d ∨ (∃ a xs ds, v = .ref a ∧ d = .list ds ∧ SL K x H a xs ∧ xs.length ≤ 100000 ∧ Paired (Dn K x H n) xs ds) ∨ ∃ a xs ds, v = .ref a ∧ d = .tuple ds ∧ SU K x H a xs ∧ xs.length ≤ 100000 ∧ Paired (Dn K x H n) xs ds
theorem Dn.sc {K : PySem.W.Frag} {x : Addr} {H : Hp} {v : V} {d : PyData} (h : Sc v d) : ∀ n, Dn K x H n v d
  | 0 => h
  | _ + 1 => .inl h
theorem Dn.but {K : PySem.W.Frag} {x : Addr} {H H' : Hp} (e : But x H H') : ∀ {n : Nat} {v : V} {d : PyData}, Dn K x H n v d → Dn K x H' n v d
  | 0, _, _, h => h
  | n + 1, v, d, h => by
    rcases h with h | ⟨a, xs, ds, rfl, rfl, h, hz, p⟩ | ⟨a, xs, ds, rfl, rfl, h, hz, p⟩
    · exact .inl h
    · exact .inr (.inl ⟨a, xs, ds, rfl, rfl, h.but e, hz, L2.Paired.mapP p fun _ _ z => Dn.but e z⟩)
    · exact .inr (.inr ⟨a, xs, ds, rfl, rfl, h.but e, hz, L2.Paired.mapP p fun _ _ z => Dn.but e z⟩)
theorem Dn.lst {K : PySem.W.Frag} {x : Addr} {H : Hp} {n : Nat} {a : Addr} {xs : List V} {ds : List PyData} (ne : a ≠ x) (h : SqL K H a xs) (p : Paired (Dn K x H n) xs ds) (hz : xs.length ≤ 100000 := by simp) : Dn K x H (n + 1) (.ref a) (.list ds) :=
  .inr (.inl ⟨a, xs, ds, rfl, rfl, .inl ⟨ne, h⟩, hz, p⟩)
theorem Dn.tup {K : PySem.W.Frag} {x : Addr} {H : Hp} {n : Nat} {a : Addr} {xs : List V} {ds : List PyData} (ne : a ≠ x) (h : SqT K H a xs) (p : Paired (Dn K x H n) xs ds) (hz : xs.length ≤ 100000 := by simp) : Dn K x H (n + 1) (.ref a) (.tuple ds) :=
  .inr (.inr ⟨a, xs, ds, rfl, rfl, .inl ⟨ne, h⟩, hz, p⟩)
theorem Dn.int {K : PySem.W.Frag} {x : Addr} {H : Hp} (i : Int) {n : Nat} : Dn K x H n (.int i) (.int i) := Dn.sc (.int i) n
theorem Dn.str {K : PySem.W.Frag} {x : Addr} {H : Hp} (i : Str) {n : Nat} : Dn K x H n (.str i) (.str i) := Dn.sc (.str i) n
theorem Dn.bl {K : PySem.W.Frag} {x : Addr} {H : Hp} (i : Bool) {n : Nat} : Dn K x H n (.bl i) (.bool i) := Dn.sc (.bl i) n
theorem Dn.non {K : PySem.W.Frag} {x : Addr} {H : Hp} {n : Nat} : Dn K x H n .non .none := Dn.sc .non n
theorem Dn.up {K : PySem.W.Frag} {x : Addr} {H : Hp} : ∀ {n : Nat} {v : V} {d : PyData}, Dn K x H n v d → Dn K x H (n + 1) v d
  | 0, _, _, h => .inl h
  | n + 1, v, d, h => by
    rcases h with h | ⟨a, xs, ds, rfl, rfl, h, hz, p⟩ | ⟨a, xs, ds, rfl, rfl, h, hz, p⟩
    · exact .inl h
    · exact .inr (.inl ⟨a, xs, ds, rfl, rfl, h, hz, L2.Paired.mapP p fun _ _ z => Dn.up z⟩)
    · exact .inr (.inr ⟨a, xs, ds, rfl, rfl, h, hz, L2.Paired.mapP p fun _ _ z => Dn.up z⟩)
theorem pair_get {α β : Type} {F : α → β → Prop} : ∀ {l : List α} {m : List β} {i : Nat} {x : α}, Paired F l m → l[i]? = some x → ∃ y, m[i]? = some y ∧ F x y
  | _, _, _, _, .nil, e => by simp at e
  | _, _, 0, _, .cons r _, e => by simp at e; subst e; exact ⟨_, rfl, r⟩
  | _, _, i + 1, x, .cons _ t, e => by
    obtain ⟨y, h1, h2⟩ := pair_get (i := i) (x := x) t (by simpa using e)
    exact ⟨y, by simpa using h1, h2⟩
theorem pair_len {α β : Type} {F : α → β → Prop} : ∀ {l : List α} {m : List β}, Paired F l m → l.length = m.length
  | _, _, .nil => rfl
  | _, _, .cons _ t => by rw [List.length_cons, List.length_cons, pair_len t]
noncomputable def sameD (d e : PyData) : Bool := @decide (d = e) (Classical.propDecidable _)
theorem same_yes {d e : PyData} (h : d = e) : sameD d e = true := by unfold sameD; exact @decide_eq_true _ (Classical.propDecidable _) h
theorem same_no {d e : PyData} (h : d ≠ e) : sameD d e = false := by unfold sameD; exact @decide_eq_false _ (Classical.propDecidable _) h
theorem same_iff {d e : PyData} : sameD d e = true ↔ d = e := by
  constructor
  · intro h
    by_cases q : d = e
    · exact q
    · rw [same_no q] at h; cases h
  · exact same_yes
theorem same_of {p : Prop} [Decidable p] {d e : PyData} (h : d = e ↔ p) : sameD d e = decide p := by
  by_cases q : p
  · rw [decide_eq_true q, same_yes (h.mpr q)]
  · rw [decide_eq_false q, same_no (fun z => q (h.mp z))]
def spSame (K : PySem.W.Frag) (n : Nat) : Sp := fun vs H Q _ => ∃ (x : Addr) (v1 v2 : V) (d1 d2 : PyData), vs = [v1, v2] ∧ Dn K x H n v1 d1 ∧ Dn K x H n v2 d2 ∧ Q (.bl (sameD d1 d2)) H
end My
local macro_rules | `(tactic| walk_at "ty") => `(tactic| first | exact .base (.int _) | exact .base (.bl _) | exact .base .non | exact .base (.str _) | exact My.tyL (by assumption) | exact My.tyT (by assumption))
local macro_rules | `(tactic| walk_at "is") => `(tactic| first | refine ⟨_, _, _, _, true, rfl, L2.ClsV.ty _, (by walk_at "ty"), L2.kit_ty (by decide +kernel), ?_⟩ | refine ⟨_, _, _, _, false, rfl, L2.ClsV.ty _, (by walk_at "ty"), L2.kit_ty (by decide +kernel), ?_⟩)
local macro_rules | `(tactic| walk_at "ri") => `(tactic| repeat (first | walk_at "is" | refine ⟨_, rfl, ?_⟩ | refine ⟨rfl, ?_⟩))
namespace My
open PySem L2
theorem same_bl (a b : Bool) : sameD (.bool a) (.bool b) = decide (V.bl a = V.bl b) := same_of ⟨fun h => by cases h; rfl, fun h => by cases h; rfl⟩
theorem same_int (a b : Int) : sameD (.int a) (.int b) = decide (V.int a = V.int b) := same_of ⟨fun h => by cases h; rfl, fun h => by cases h; rfl⟩
theorem same_str (a b : Str) : sameD (.str a) (.str b) = decide (V.str a = V.str b) := same_of ⟨fun h => by cases h; rfl, fun h => by cases h; rfl⟩
theorem same_non : sameD .none .none = true := same_yes rfl
theorem same_lst (a b : List PyData) : sameD (.list a) (.list b) = true ↔ a = b := same_iff.trans ⟨fun h => by cases h; rfl, fun h => by cases h; rfl⟩
theorem same_tup (a b : List PyData) : sameD (.tuple a) (.tuple b) = true ↔ a = b := same_iff.trans ⟨fun h => by cases h; rfl, fun h => by cases h; rfl⟩
section
variable {P : Program} {w : World} {K : PySem.W.Frag} {mg : Str → Option Value} {base : Heap}
set_option maxHeartbeats 8000000 in
theorem ok__law_same (T : Txt K mg) : ∀ n, FnOk P w K mg base CX0 (n + 1) T.a__law_same T.fd__law_same ["_law_actual", "_law_expected"] (spSame K n)
  | 0 => by
    refine T.F__law_same.ok sc__law_same (fun vs H Q E h => ?_) (fun cdv A outer s H vs Q E hr h => ?_)
    · obtain ⟨x, v1, v2, d1, d2, rfl, _⟩ := h; rfl
    · obtain ⟨x, v1, v2, d1, d2, rfl, h1, h2, q⟩ := h
      refine ⟨_, (pss_cons (ps_if (PW.pt (pw_or (pt_val (pe_callB call_isi (by rfl) T.n_isinstance (by decide +kernel) (pa_cons (pv 0) (pa_cons (pe_bltn (v := .ty "bool") (by rfl) T.n_bool (by decide +kernel) rfl) pa_nil)))) (pw_or1 (pt_val (pe_callB call_isi (by rfl) T.n_isinstance (by decide +kernel) (pa_cons (pv 1) (pa_cons (pe_bltn (v := .ty "bool") (by rfl) T.n_bool (by decide +kernel) rfl) pa_nil))))))) (pss_one (ps_ret (pe_and (pe_callB call_isi (by rfl) T.n_isinstance (by decide +kernel) (pa_cons (pv 0) (pa_cons (pe_bltn (v := .ty "bool") (by rfl) T.n_bool (by decide +kernel) rfl) pa_nil))) (pe_and (pe_callB call_isi (by rfl) T.n_isinstance (by decide +kernel) (pa_cons (pv 1) (pa_cons (pe_bltn (v := .ty "bool") (by rfl) T.n_bool (by decide +kernel) rfl) pa_nil))) (pe_one (pe_cmpR op_eq (pv 0) (pv 1) (nomark _))))))) pss_nil)
      (pss_cons (ps_if (PW.pt (pw_or (pt_cmpR op_isN (pv 0) (pe_non) (nomark _)) (pw_or1 (pt_cmpR op_isN (pv 1) (pe_non) (nomark _))))) (pss_one (ps_ret (pe_and (pe_cmpR op_isN (pv 0) (pe_non) (nomark _)) (pe_one (pe_cmpR op_isN (pv 1) (pe_non) (nomark _)))))) pss_nil)
      (pss_cons (ps_if (pt_val (pe_callB call_isi (by rfl) T.n_isinstance (by decide +kernel) (pa_cons (pv 1) (pa_cons (pe_bltn (v := .ty "int") (by rfl) T.n_int (by decide +kernel) rfl) pa_nil)))) (pss_one (ps_ret (pe_and (pe_callB call_isi (by rfl) T.n_isinstance (by decide +kernel) (pa_cons (pv 0) (pa_cons (pe_bltn (v := .ty "int") (by rfl) T.n_int (by decide +kernel) rfl) pa_nil))) (pe_one (pe_cmpR op_eq (pv 0) (pv 1) (nomark _)))))) pss_nil)
      (pss_cons (ps_if (pt_val (pe_callB call_isi (by rfl) T.n_isinstance (by decide +kernel) (pa_cons (pv 1) (pa_cons (pe_bltn (v := .ty "str") (by rfl) T.n_str (by decide +kernel) rfl) pa_nil)))) (pss_one (ps_ret (pe_and (pe_callB call_isi (by rfl) T.n_isinstance (by decide +kernel) (pa_cons (pv 0) (pa_cons (pe_bltn (v := .ty "str") (by rfl) T.n_str (by decide +kernel) rfl) pa_nil))) (pe_one (pe_cmpR op_eq (pv 0) (pv 1) (nomark _)))))) pss_nil)
      (pss_cons (ps_if (PW.pt (pw_and (pt_val (pe_callB call_isi (by rfl) T.n_isinstance (by decide +kernel) (pa_cons (pv 1) (pa_cons (pe_bltn (v := .ty "tuple") (by rfl) T.n_tuple (by decide +kernel) rfl) pa_nil)))) (pw_and1 (pt_not (pt_val (pe_callB call_isi (by rfl) T.n_isinstance (by decide +kernel) (pa_cons (pv 0) (pa_cons (pe_bltn (v := .ty "tuple") (by rfl) T.n_tuple (by decide +kernel) rfl) pa_nil)))))))) (pss_one (ps_ret (pe_bl))) pss_nil)
      (pss_cons (ps_if (PW.pt (pw_and (pt_val (pe_callB call_isi (by rfl) T.n_isinstance (by decide +kernel) (pa_cons (pv 1) (pa_cons (pe_bltn (v := .ty "list") (by rfl) T.n_list (by decide +kernel) rfl) pa_nil)))) (pw_and1 (pt_not (pt_val (pe_callB call_isi (by rfl) T.n_isinstance (by decide +kernel) (pa_cons (pv 0) (pa_cons (pe_bltn (v := .ty "list") (by rfl) T.n_list (by decide +kernel) rfl) pa_nil)))))))) (pss_one (ps_ret (pe_bl))) pss_nil)
      (pss_cons (ps_if (pt_cmpR op_ne (pe_callB call_len_seq (by rfl) T.n_len (by decide +kernel) (pa_cons (pv 0) pa_nil)) (pe_callB call_len_seq (by rfl) T.n_len (by decide +kernel) (pa_cons (pv 1) pa_nil)) (nomark _)) (pss_one (ps_ret (pe_bl))) pss_nil)
      (pss_cons ps_never
      (pss_one (ps_ret (pe_bl))))))))))), ?_⟩
      cases h1 <;> cases h2
      all_goals walk_at "ri"
      all_goals first | (rw [same_no (by intro z; cases z)] at q; exact q) | (rw [same_bl] at q; exact q) | (rw [same_int] at q; exact q) | (rw [same_str] at q; exact q) | (rw [same_non] at q; exact q)
  | n + 1 => by
    refine T.F__law_same.ok sc__law_same (fun vs H Q E h => ?_) (fun cdv A outer s H vs Q E hr h => ?_)
    · obtain ⟨x, v1, v2, d1, d2, rfl, _⟩ := h; rfl
    · obtain ⟨x, v1, v2, d1, d2, rfl, h1, h2, q⟩ := h
      refine ⟨_, (pss_cons (ps_if (PW.pt (pw_or (pt_val (pe_callB call_isi (by rfl) T.n_isinstance (by decide +kernel) (pa_cons (pv 0) (pa_cons (pe_bltn (v := .ty "bool") (by rfl) T.n_bool (by decide +kernel) rfl) pa_nil)))) (pw_or1 (pt_val (pe_callB call_isi (by rfl) T.n_isinstance (by decide +kernel) (pa_cons (pv 1) (pa_cons (pe_bltn (v := .ty "bool") (by rfl) T.n_bool (by decide +kernel) rfl) pa_nil))))))) (pss_one (ps_ret (pe_and (pe_callB call_isi (by rfl) T.n_isinstance (by decide +kernel) (pa_cons (pv 0) (pa_cons (pe_bltn (v := .ty "bool") (by rfl) T.n_bool (by decide +kernel) rfl) pa_nil))) (pe_and (pe_callB call_isi (by rfl) T.n_isinstance (by decide +kernel) (pa_cons (pv 1) (pa_cons (pe_bltn (v := .ty "bool") (by rfl) T.n_bool (by decide +kernel) rfl) pa_nil))) (pe_one (pe_cmpR op_eq (pv 0) (pv 1) (nomark _))))))) pss_nil)
      (pss_cons (ps_if (PW.pt (pw_or (pt_cmpR op_isN (pv 0) (pe_non) (nomark _)) (pw_or1 (pt_cmpR op_isN (pv 1) (pe_non) (nomark _))))) (pss_one (ps_ret (pe_and (pe_cmpR op_isN (pv 0) (pe_non) (nomark _)) (pe_one (pe_cmpR op_isN (pv 1) (pe_non) (nomark _)))))) pss_nil)
      (pss_cons (ps_if (pt_val (pe_callB call_isi (by rfl) T.n_isinstance (by decide +kernel) (pa_cons (pv 1) (pa_cons (pe_bltn (v := .ty "int") (by rfl) T.n_int (by decide +kernel) rfl) pa_nil)))) (pss_one (ps_ret (pe_and (pe_callB call_isi (by rfl) T.n_isinstance (by decide +kernel) (pa_cons (pv 0) (pa_cons (pe_bltn (v := .ty "int") (by rfl) T.n_int (by decide +kernel) rfl) pa_nil))) (pe_one (pe_cmpR op_eq (pv 0) (pv 1) (nomark _)))))) pss_nil)
      (pss_cons (ps_if (pt_val (pe_callB call_isi (by rfl) T.n_isinstance (by decide +kernel) (pa_cons (pv 1) (pa_cons (pe_bltn (v := .ty "str") (by rfl) T.n_str (by decide +kernel) rfl) pa_nil)))) (pss_one (ps_ret (pe_and (pe_callB call_isi (by rfl) T.n_isinstance (by decide +kernel) (pa_cons (pv 0) (pa_cons (pe_bltn (v := .ty "str") (by rfl) T.n_str (by decide +kernel) rfl) pa_nil))) (pe_one (pe_cmpR op_eq (pv 0) (pv 1) (nomark _)))))) pss_nil)
      (pss_cons (ps_if (PW.pt (pw_and (pt_val (pe_callB call_isi (by rfl) T.n_isinstance (by decide +kernel) (pa_cons (pv 1) (pa_cons (pe_bltn (v := .ty "tuple") (by rfl) T.n_tuple (by decide +kernel) rfl) pa_nil)))) (pw_and1 (pt_not (pt_val (pe_callB call_isi (by rfl) T.n_isinstance (by decide +kernel) (pa_cons (pv 0) (pa_cons (pe_bltn (v := .ty "tuple") (by rfl) T.n_tuple (by decide +kernel) rfl) pa_nil)))))))) (pss_one (ps_ret (pe_bl))) pss_nil)
      (pss_cons (ps_if (PW.pt (pw_and (pt_val (pe_callB call_isi (by rfl) T.n_isinstance (by decide +kernel) (pa_cons (pv 1) (pa_cons (pe_bltn (v := .ty "list") (by rfl) T.n_list (by decide +kernel) rfl) pa_nil)))) (pw_and1 (pt_not (pt_val (pe_callB call_isi (by rfl) T.n_isinstance (by decide +kernel) (pa_cons (pv 0) (pa_cons (pe_bltn (v := .ty "list") (by rfl) T.n_list (by decide +kernel) rfl) pa_nil)))))))) (pss_one (ps_ret (pe_bl))) pss_nil)
      (pss_cons (ps_if (pt_cmpR op_ne (pe_callB call_len_seq (by rfl) T.n_len (by decide +kernel) (pa_cons (pv 0) pa_nil)) (pe_callB call_len_seq (by rfl) T.n_len (by decide +kernel) (pa_cons (pv 1) pa_nil)) (nomark _)) (pss_one (ps_ret (pe_bl))) pss_nil)
      (pss_cons (ps_for PassesOwn.never rfl (pi_range1 (by rfl) T.n_range (pa_cons (pe_callB call_len_seq (by rfl) T.n_len (by decide +kernel) (pa_cons (pv 1) pa_nil)) pa_nil)) (pg_name (i := 2) sc__law_same.nd rfl (.inl rfl)) (pss_one (ps_if (pt_not (pt_val (pe_call (ok__law_same T n) (hr.mono (by omega)) (by rfl) T.g__law_same T.F__law_same.kp T.b__law_same .nil pass0 (pa_cons (pe_ix ix_seq (pv 0) (pv 2) (fun _ _ => rfl)) (pa_cons (pe_ix ix_seq (pv 1) (pv 2) (fun _ _ => rfl)) pa_nil))))) (pss_one (ps_ret (pe_bl))) pss_nil)))
      (pss_one (ps_ret (pe_bl))))))))))), ?_⟩
      rcases h1 with h1 | ⟨a1, xs1, ds1, rfl, rfl, h1, z1, p1⟩ | ⟨a1, xs1, ds1, rfl, rfl, h1, z1, p1⟩ <;> rcases h2 with h2 | ⟨a2, xs2, ds2, rfl, rfl, h2, z2, p2⟩ | ⟨a2, xs2, ds2, rfl, rfl, h2, z2, p2⟩
      · cases h1 <;> cases h2
        all_goals walk_at "ri"
        all_goals first | (rw [same_no (by intro z; cases z)] at q; exact q) | (rw [same_bl] at q; exact q) | (rw [same_int] at q; exact q) | (rw [same_str] at q; exact q) | (rw [same_non] at q; exact q)
      · have t2 := h2.sq
        cases h1
        all_goals (walk_at "ri"; rw [same_no (by intro z; cases z)] at q; exact q)
      · have t2 := h2.sq
        cases h1
        all_goals (walk_at "ri"; rw [same_no (by intro z; cases z)] at q; exact q)
      · have t1 := h1.sq
        cases h2
        all_goals (walk_at "ri"; rw [same_no (by intro z; cases z)] at q; exact q)
      · have t1 := h1.sq
        have t2 := h2.sq
        walk_at "ri"
        refine ⟨_, _, rfl, .inl t1, _, rfl, _, _, rfl, .inl t2, rfl, _, rfl, ?_⟩
        have l1 := pair_len p1
        have l2 := pair_len p2
        refine iteN (fun c => ?_) (fun c => ?_)
        · rw [same_no (by intro z; cases z; exact c (by rw [l1, l2]))] at q; exact q
        have c' : xs1.length = xs2.length := by have := V.int.inj c; omega
        refine ⟨_, rfl, _, _, rfl, .inl t2, _, rfl, by omega, by omega, for_range (lo := 0) (n := _) (fun j σ H' => ∃ x2, σ = [some (.ref a1), some (.ref a2), x2] ∧ H' = H ∧ ds1.take j = ds2.take j) ⟨_, rfl, rfl, rfl⟩ ?_ ?_⟩
        · rintro j σ H1 hj ⟨x2, rfl, rfl, et⟩
          have j2 : j < xs2.length := by omega
          have j1 : j < xs1.length := by omega
          obtain ⟨e1, g1, r1⟩ := pair_get p1 (List.getElem?_eq_getElem j1)
          obtain ⟨e2, g2, r2⟩ := pair_get p2 (List.getElem?_eq_getElem j2)
          refine ⟨_, rfl, _, rfl, .inl ⟨_, _, _, _, rfl, rfl, t1, at_of (j := j) (by omega) (List.getElem?_eq_getElem j1), ?_⟩⟩
          refine ⟨_, rfl, _, rfl, .inl ⟨_, _, _, _, rfl, rfl, t2, at_of (j := j) (by omega) (List.getElem?_eq_getElem j2), ?_⟩⟩
          refine ⟨x, _, _, e1, e2, rfl, r1, r2, _, rfl, ?_⟩
          refine iteB (fun b => ?_) (fun b => ?_)
          · have ne : e1 ≠ e2 := fun h => by rw [same_yes h] at b; cases b
            rw [same_no (by intro z; cases z; rw [g1] at g2; exact ne (Option.some.inj g2))] at q; exact q
          · have ee : e1 = e2 := by
              apply same_iff.mp
              cases h : sameD e1 e2 with
              | true => rfl
              | false => rw [h] at b; cases b
            subst ee
            exact ⟨_, rfl, rfl, by rw [List.take_add_one, List.take_add_one, et, g1, g2]⟩
        · rintro σ H1 ⟨x2, rfl, rfl, et⟩
          have ed : ds1 = ds2 := by
            rw [List.take_of_length_le (by omega), List.take_of_length_le (by omega)] at et
            exact et
          subst ed
          rw [same_yes rfl] at q; exact q
      · have t1 := h1.sq
        have t2 := h2.sq
        walk_at "ri"
        rw [same_no (by intro z; cases z)] at q; exact q
      · have t1 := h1.sq
        cases h2
        all_goals (walk_at "ri"; rw [same_no (by intro z; cases z)] at q; exact q)
      · have t1 := h1.sq
        have t2 := h2.sq
        walk_at "ri"
        rw [same_no (by intro z; cases z)] at q; exact q
      · have t1 := h1.sq
        have t2 := h2.sq
        walk_at "ri"
        refine ⟨_, _, rfl, .inr t1, _, rfl, _, _, rfl, .inr t2, rfl, _, rfl, ?_⟩
        have l1 := pair_len p1
        have l2 := pair_len p2
        refine iteN (fun c => ?_) (fun c => ?_)
        · rw [same_no (by intro z; cases z; exact c (by rw [l1, l2]))] at q; exact q
        have c' : xs1.length = xs2.length := by have := V.int.inj c; omega
        refine ⟨_, rfl, _, _, rfl, .inr t2, _, rfl, by omega, by omega, for_range (lo := 0) (n := _) (fun j σ H' => ∃ x2, σ = [some (.ref a1), some (.ref a2), x2] ∧ H' = H ∧ ds1.take j = ds2.take j) ⟨_, rfl, rfl, rfl⟩ ?_ ?_⟩
        · rintro j σ H1 hj ⟨x2, rfl, rfl, et⟩
          have j2 : j < xs2.length := by omega
          have j1 : j < xs1.length := by omega
          obtain ⟨e1, g1, r1⟩ := pair_get p1 (List.getElem?_eq_getElem j1)
          obtain ⟨e2, g2, r2⟩ := pair_get p2 (List.getElem?_eq_getElem j2)
          refine ⟨_, rfl, _, rfl, .inr (.inl ⟨_, _, _, _, rfl, rfl, t1, at_of (j := j) (by omega) (List.getElem?_eq_getElem j1), ?_⟩)⟩
          refine ⟨_, rfl, _, rfl, .inr (.inl ⟨_, _, _, _, rfl, rfl, t2, at_of (j := j) (by omega) (List.getElem?_eq_getElem j2), ?_⟩)⟩
          refine ⟨x, _, _, e1, e2, rfl, r1, r2, _, rfl, ?_⟩
          refine iteB (fun b => ?_) (fun b => ?_)
          · have ne : e1 ≠ e2 := fun h => by rw [same_yes h] at b; cases b
            rw [same_no (by intro z; cases z; rw [g1] at g2; exact ne (Option.some.inj g2))] at q; exact q
          · have ee : e1 = e2 := by
              apply same_iff.mp
              cases h : sameD e1 e2 with
              | true => rfl
              | false => rw [h] at b; cases b
            subst ee
            exact ⟨_, rfl, rfl, by rw [List.take_add_one, List.take_add_one, et, g1, g2]⟩
        · rintro σ H1 ⟨x2, rfl, rfl, et⟩
          have ed : ds1 = ds2 := by
            rw [List.take_of_length_le (by omega), List.take_of_length_le (by omega)] at et
            exact et
          subst ed
          rw [same_yes rfl] at q; exact q
end
theorem nsame {d : PyData} : (!sameD d d) = false := by rw [same_yes rfl]; rfl
end My

namespace My
open PySem L2
/-! ### the levels -/
def lev : List Str := ["none", "one", "most", "all"]
def levV : List V := [.str "none", .str "one", .str "most", .str "all"]
theorem levV_eq : levV = lev.map V.str := rfl
theorem lev_nd : lev.Nodup := by decide +kernel
theorem lev_inj {i j : Nat} {z : Str} (h : lev[i]? = some z) (h' : lev[j]? = some z) : i = j := nd_ix lev_nd h h'
theorem lev_lt {i : Nat} {z : Str} (h : lev[i]? = some z) : i < 4 := (List.getElem?_eq_some_iff.mp h).1
/-- what level i asks of n parents -/
def need (i : Nat) (n : Int) : Int := if i = 0 then 0 else if i = 1 then 1 else if i = 2 then n / 2 + 1 else if n > 1 then n else 1
/-- the place of a word, or -1 -/
def placeOf (z : Str) : Int := if z = "none" then 0 else if z = "one" then 1 else if z = "most" then 2 else if z = "all" then 3 else -1
theorem place_lev {i : Nat} {z : Str} (h : lev[i]? = some z) : placeOf z = i := by
  have hi := lev_lt h
  rcases (by omega : i = 0 ∨ i = 1 ∨ i = 2 ∨ i = 3) with rfl | rfl | rfl | rfl
  all_goals (obtain rfl : _ = z := Option.some.inj h; decide +kernel)
theorem lev_at {i : Nat} (h : i < 4) : ∃ z, lev[i]? = some z := ⟨lev[i]'h, List.getElem?_eq_getElem h⟩
def permB (a b c : Nat) (e : Bool) (h o s n : Int) (l : Bool) : Bool := !(e && l) && (decide (need a n ≤ h) && (decide (need b n ≤ o) && decide (need c n ≤ s)))
end My

namespace My
open PySem L2
/-! ### words that may be levels -/
def lvl (z : Str) : Option Nat := if z = "none" then some 0 else if z = "one" then some 1 else if z = "most" then some 2 else if z = "all" then some 3 else none
theorem lvl_get {z : Str} {i : Nat} (h : lvl z = some i) : lev[i]? = some z := by
  unfold lvl at h
  split at h
  · cases h; subst_vars; rfl
  · split at h
    · cases h; subst_vars; rfl
    · split at h
      · cases h; subst_vars; rfl
      · split at h
        · cases h; subst_vars; rfl
        · cases h
theorem lvl_lt {z : Str} {i : Nat} (h : lvl z = some i) : i < 4 := lev_lt (lvl_get h)
theorem lvl_of {z : Str} {i : Nat} (h : lev[i]? = some z) : lvl z = some i := by
  have hi := lev_lt h
  rcases (by omega : i = 0 ∨ i = 1 ∨ i = 2 ∨ i = 3) with rfl | rfl | rfl | rfl
  all_goals (obtain rfl : _ = z := Option.some.inj h; decide +kernel)
theorem lvl_no {z : Str} (h : lvl z = none) {i : Nat} {y : Str} (hy : lev[i]? = some y) : y ≠ z := fun e => by
  subst e
  rw [lvl_of hy] at h
  cases h
theorem place_some {z : Str} {i : Nat} (h : lvl z = some i) : placeOf z = i := place_lev (lvl_get h)
theorem place_none {z : Str} (h : lvl z = none) : placeOf z = -1 := by
  have h0 := lvl_no h (i := 0) rfl
  have h1 := lvl_no h (i := 1) rfl
  have h2 := lvl_no h (i := 2) rfl
  have h3 := lvl_no h (i := 3) rfl
  unfold placeOf
  rw [if_neg (fun z => h0 z.symm), if_neg (fun z => h1 z.symm), if_neg (fun z => h2 z.symm), if_neg (fun z => h3 z.symm)]
end My

namespace My
open PySem L2
/-- rank of a word: a level's place, or BadLevel -/
def spRankX (X : Addr) : Sp := fun vs H Q E => ∃ (z : Str), vs = [.str z] ∧ (∀ i, lvl z = some i → ∀ H', Same H H' → Q (.int i) H') ∧
  (lvl z = none → ∀ H' d, Same H H' → H d = none → H' d = some (.xd [("level", .str z)]) → E (.ref X) (some d) H')
section
variable {w : World} {K : PySem.W.Frag} {mg : Str → Option Value} {base : Heap}
theorem ok_rank (T : Txt K mg) : FnOk PP w K mg base (L2.CX PP w) 1 T.a_rank T.fd_rank ["level"] (spRankX T.c_BadLevel) := by
  refine T.F_rank.okX sc_rank (fun vs H Q E h => ?_) (fun cdv A outer s H vs Q E hr h => ?_)
  · obtain ⟨z, rfl, _⟩ := h; rfl
  · obtain ⟨z, rfl, q, qx⟩ := h
    refine ⟨_, (pss_cons (ps_for (passes_of rfl) rfl (pi_enumT (by rfl) T.n_enumerate (pa_cons (pe_glob (v := .ref T.k_LEVELS) (by rfl) T.g_LEVELS rfl) pa_nil)) (pg_tup rfl (pgs_cons (pg_name (i := 1) sc_rank.nd rfl (.inl rfl)) (pgs_cons (pg_name (i := 2) sc_rank.nd rfl (.inl rfl)) pgs_nil))) (pss_one (ps_if (pt_cmpR op_eq (pv 2) (pv 0) (nomark _)) (pss_one (ps_ret (pv 1))) pss_nil)))
      (pss_one (ps_raiseX rfl T.x_BadLevel hr (takes_of rfl rfl rfl rfl) (pa_cons (pv 0) pa_nil)))), ?_⟩
    refine ⟨T.k_LEVELS, levV, rfl, T.q_LEVELS _, for_enumT (K := K) (a := T.k_LEVELS) (xs := levV) (fun j σ H' => ∃ x1 x2, σ = [some (.str z), x1, x2] ∧ Same H H' ∧ ∀ l, l < j → lev[l]? ≠ some z) ⟨_, _, rfl, Same.refl H, fun l h => absurd h (Nat.not_lt_zero _)⟩ (fun _ _ H' _ _ => T.q_LEVELS H') ?_ ?_⟩
    · rintro j x σ H1 t hx ⟨x1, x2, rfl, s1, ne⟩ ht
      rw [levV_eq, List.getElem?_map] at hx
      cases e : lev[j]? with
      | none => rw [e] at hx; cases hx
      | some y =>
        rw [e] at hx
        obtain rfl : V.str y = x := Option.some.inj hx
        have s2 : Same H1 (upd H1 t (.tup [.int j, .str y])) := same_new ht
        refine ⟨t, _, rfl, .inl (.inl upd_same), rfl, _, _, rfl, _, _, rfl, rfl, ?_⟩
        refine ⟨_, rfl, _, rfl, rfl, _, rfl, ?_⟩
        refine iteD (fun c => ?_) (fun c => ?_)
        · have ey : y = z := V.str.inj c
          subst ey
          exact ⟨_, rfl, q _ (lvl_of e) _ (s1.trans s2)⟩
        · refine ⟨_, _, rfl, s1.trans s2, fun l hl => ?_⟩
          rcases Nat.lt_succ_iff_lt_or_eq.mp hl with h | h
          · exact ne l h
          · subst h
            exact fun h => c (by rw [e] at h; rw [Option.some.inj h])
    · rintro σ H1 ⟨x1, x2, rfl, s1, ne⟩
      have hn : lvl z = none := by
        cases e : lvl z with
        | none => rfl
        | some i => exact absurd (lvl_get e) (ne i (lvl_lt e))
      exact ⟨_, rfl, _, rfl, fun d hd => qx hn _ d (s1.trans (same_new hd)) (s1.free hd) upd_same⟩
end
end My

namespace My
open PySem L2
def spNeedX (X : Addr) : Sp := fun vs H Q E => ∃ (z : Str) (n : Int), vs = [.str z, .int n] ∧ (∀ i, lvl z = some i → ∀ H', Same H H' → Q (.int (need i n)) H') ∧
  (lvl z = none → ∀ H' d, Same H H' → H d = none → H' d = some (.xd [("level", .str z)]) → E (.ref X) (some d) H')
def spAsks : Sp := fun vs H Q _ => ∃ (i : Nat) (n : Int), vs = [.int i, .int n] ∧ i < 4 ∧ Q (.int (need i n)) H
def spPlace : Sp := fun vs H Q _ => ∃ z : Str, vs = [.str z] ∧ (∀ i, lvl z = some i → ∀ H', Same H H' → Q (.int i) H') ∧ (lvl z = none → ∀ H', Same H H' → Q (.int (-1)) H')
def spRef (C a : Addr) (cls : Value) (d : Option Addr) : Sp := fun vs H Q _ => ∃ dd wd, vs = [.ref a] ∧ cls = .ref C ∧ d = some dd ∧ H dd = some (.xd [("level", .str wd)]) ∧
  ∀ r l H', Same H H' → H r = none → H l = none → H' l = some (.lst [.str "ValueError"]) → H' r = some (.tup [.ref l, .str wd]) → Q (.ref r) H'
def spTold : Sp := fun vs H Q _ => ∃ (z : Str) (n : Int), vs = [.str z, .int n] ∧ (∀ i, lvl z = some i → ∀ r H', Same H H' → H r = none → H' r = some (.lst [.int i, .int (need i n)]) → Q (.ref r) H') ∧
  (lvl z = none → ∀ r r1 l1 r2 l2 H', Same H H' → H r = none → H r1 = none → H l1 = none → H r2 = none → H l2 = none → H' r = some (.lst [.ref r1, .ref r2]) → H' r1 = some (.tup [.ref l1, .str z]) → H' l1 = some (.lst [.str "ValueError"]) → H' r2 = some (.tup [.ref l2, .str z]) → H' l2 = some (.lst [.str "ValueError"]) → Q (.ref r) H')
section
variable {w : World} {K : PySem.W.Frag} {mg : Str → Option Value} {base : Heap}
theorem ok_needed (T : Txt K mg) : FnOk PP w K mg base (L2.CX PP w) 2 T.a_needed T.fd_needed ["level", "parents"] (spNeedX T.c_BadLevel) := by
  refine T.F_needed.okX sc_needed (fun vs H Q E h => ?_) (fun cdv A outer s H vs Q E hr h => ?_)
  · obtain ⟨z, n, rfl, _⟩ := h; rfl
  · obtain ⟨z, n, rfl, q, qx⟩ := h
    refine ⟨_, (pss_cons (ps_set (i := 2) sc_needed.nd rfl (.inl rfl) (pe_call (ok_rank T) (hr.mono (by omega)) (by rfl) T.g_rank T.F_rank.kp T.b_rank .nil (passes_call (takes_of rfl rfl rfl rfl) (fun _ _ _ _ h => h)) (pa_cons (pv 0) pa_nil)))
      (pss_cons (ps_if (pt_cmpR op_eq (pv 2) (pe_int) (nomark _)) (pss_one (ps_ret (pe_int))) pss_nil)
      (pss_cons (ps_if (pt_cmpR op_eq (pv 2) (pe_int) (nomark _)) (pss_one (ps_ret (pe_int))) pss_nil)
      (pss_cons (ps_if (pt_cmpR op_eq (pv 2) (pe_int) (nomark _)) (pss_one (ps_ret (pe_op op_add (pe_op op_fdiv (pv 1) (pe_int)) (pe_int)))) pss_nil)
      (pss_one (ps_ret (pe_callB (call_max2 rfl) (by rfl) T.n_max (by decide +kernel) (pa_cons (pe_int) (pa_cons (pv 1) pa_nil))))))))), ?_⟩
    refine ⟨_, rfl, z, rfl, fun i hi H1 s1 => ?_, fun hn H1 d s1 nd hd => qx hn H1 d s1 nd hd⟩
    have q1 := q i hi H1 s1
    unfold need at q1
    refine ⟨_, rfl, rfl, _, rfl, ?_⟩
    refine iteD (fun c => ?_) (fun c => ?_)
    · rw [if_pos (by have := V.int.inj c; omega)] at q1; exact q1
    rw [if_neg (by intro h; exact c (by rw [h]; rfl))] at q1
    refine ⟨_, rfl, rfl, _, rfl, ?_⟩
    refine iteD (fun c => ?_) (fun c => ?_)
    · rw [if_pos (by have := V.int.inj c; omega)] at q1; exact q1
    rw [if_neg (by intro h; exact c (by rw [h]; rfl))] at q1
    refine ⟨_, rfl, rfl, _, rfl, ?_⟩
    refine iteD (fun c => ?_) (fun c => ?_)
    · rw [if_pos (by have := V.int.inj c; omega)] at q1
      exact ⟨_, rfl, _, _, rfl, rfl, ⟨by decide, by decide⟩, _, _, rfl, rfl, q1⟩
    rw [if_neg (by intro h; exact c (by rw [h]; rfl))] at q1
    exact ⟨_, rfl, _, _, rfl, q1⟩
theorem ok__law_asks (T : Txt K mg) : FnOk PP w K mg base CX0 1 T.a__law_asks T.fd__law_asks ["_law_place_here", "_law_parents"] spAsks := by
  refine T.F__law_asks.ok sc__law_asks (fun vs H Q E h => ?_) (fun cdv A outer s H vs Q E hr h => ?_)
  · obtain ⟨i, n, rfl, _⟩ := h; rfl
  · obtain ⟨i, n, rfl, hi, q⟩ := h
    refine ⟨_, (pss_cons (ps_if (pt_cmpR op_eq (pv 0) (pe_int) (nomark _)) (pss_one (ps_ret (pe_int))) pss_nil)
      (pss_cons (ps_if (pt_cmpR op_eq (pv 0) (pe_int) (nomark _)) (pss_one (ps_ret (pe_op op_add (pe_op op_fdiv (pv 1) (pe_int)) (pe_int)))) pss_nil)
      (pss_cons (ps_if (PW.pt (pw_and (pt_cmpR op_eq (pv 0) (pe_int) (nomark _)) (pw_and1 (pt_cmpR op_gt (pv 1) (pe_int) (nomark _))))) (pss_one (ps_ret (pv 1))) pss_nil)
      (pss_one (ps_ret (pe_int)))))), ?_⟩
    unfold need at q
    refine ⟨_, rfl, rfl, _, rfl, iteD (fun c => ?_) (fun c => ?_)⟩
    · rw [if_pos (by have := V.int.inj c; omega)] at q; exact q
    rw [if_neg (by intro h; exact c (by rw [h]; rfl))] at q
    refine ⟨_, rfl, rfl, _, rfl, iteD (fun c2 => ?_) (fun c2 => ?_)⟩
    · have e : i = 2 := by have := V.int.inj c2; omega
      rw [if_neg (by omega), if_pos e] at q
      exact ⟨_, rfl, _, _, rfl, rfl, ⟨by decide, by decide⟩, _, _, rfl, rfl, q⟩
    have e2 : ¬ i = 2 := by intro h; exact c2 (by rw [h]; rfl)
    refine ⟨_, rfl, rfl, _, rfl, iteD (fun c3 => ?_) (fun c3 => ?_)⟩
    · have e : i = 3 := by have := V.int.inj c3; omega
      subst e
      have q : Q (.int (if n > 1 then n else 1)) H := q
      refine ⟨_, rfl, _, _, rfl, rfl, _, rfl, iteD (fun c4 => ?_) (fun c4 => ?_)⟩
      · rw [if_pos (by omega)] at q
        exact ⟨_, rfl, q⟩
      · rw [if_neg (by omega)] at q
        exact q
    · have e : i = 1 := by
        have : ¬ i = 3 := by intro h; exact c3 (by rw [h]; rfl)
        have : ¬ i = 0 := by intro h; exact c (by rw [h]; rfl)
        omega
      rw [if_pos e] at q
      exact iteF q
theorem ok__law_place (T : Txt K mg) : FnOk PP w K mg base CX0 1 T.a__law_place T.fd__law_place ["_law_word_here"] spPlace := by
  refine T.F__law_place.ok sc__law_place (fun vs H Q E h => ?_) (fun cdv A outer s H vs Q E hr h => ?_)
  · obtain ⟨z, rfl, _⟩ := h; rfl
  · obtain ⟨z, rfl, q, qn⟩ := h
    refine ⟨_, (pss_cons (ps_set (i := 1) sc__law_place.nd rfl (.inl rfl) (pe_lst (pa_cons (pe_str) (pa_cons (pe_str) (pa_cons (pe_str) (pa_cons (pe_str) pa_nil))))))
      (pss_cons (ps_for PassesOwn.never rfl (pi_range1 (by rfl) T.n_range (pa_cons (pe_int) pa_nil)) (pg_name (i := 2) sc__law_place.nd rfl (.inl rfl)) (pss_one (ps_if (pt_cmpR op_eq (pe_ix ix_list (pv 1) (pv 2) (fun _ _ => rfl)) (pv 0) (nomark _)) (pss_one (ps_ret (pv 2))) pss_nil)))
      (pss_one (ps_ret (pe_un un_neg (pe_int)))))), ?_⟩
    refine ⟨by show 4 ≤ sizeLine; decide, fun p hp => ?_⟩
    have s1 := same_new (o := .lst levV) hp
    have W1 : (upd H p (.lst levV)) p = some (.lst levV) := upd_same
    refine ⟨4, rfl, by decide, by decide, for_range (lo := 0) (n := 4) (fun j σ H' => ∃ x2, σ = [some (.str z), some (.ref p), x2] ∧ H' = upd H p (.lst levV) ∧ ∀ l y, l < j → lev[l]? = some y → y ≠ z) ⟨_, rfl, rfl, fun l y h => absurd h (Nat.not_lt_zero _)⟩ ?_ ?_⟩
    · rintro j σ H1 hj ⟨x2, rfl, rfl, ih⟩
      have ej : (0 + (j : Int)) = ((j : Nat) : Int) := by omega
      rw [ej]
      obtain ⟨y, hy⟩ : ∃ y, lev[j]? = some y := ⟨_, List.getElem?_eq_getElem (by exact hj)⟩
      refine ⟨_, rfl, _, rfl, _, _, _, _, rfl, rfl, SqL.of W1, at_of (j := j) rfl (by rw [levV_eq, List.getElem?_map, hy]; rfl), _, rfl, rfl, _, rfl, iteD (fun c => ?_) (fun c => ?_)⟩
      · have c : y = z := V.str.inj c
        subst c
        exact ⟨_, rfl, q j (lvl_of hy) _ s1⟩
      · refine ⟨_, rfl, rfl, fun l u hl hu => ?_⟩
        rcases Nat.lt_or_ge l j with h | h
        · exact ih l u h hu
        · have : l = j := by omega
          subst this
          rw [hy] at hu
          cases hu
          exact fun e => c (by rw [e])
    · rintro σ H1 ⟨x2, rfl, rfl, ih⟩
      have hn : lvl z = none := by
        cases e : lvl z with
        | none => rfl
        | some i => exact absurd rfl (ih i z (lvl_lt e) (lvl_get e))
      exact ⟨1, rfl, qn hn _ s1⟩
theorem ok__law_refusal (T : Txt K mg) (a : Addr) (oe : Obj) (cls : Value) (d : Option Addr) (hz : Zc cls d oe) (hf : ∃ vs, oe.data = .fields vs) : FnE PP w K mg base CX0 1 T.a__law_refusal T.fd__law_refusal ["_law_error"] (spRef T.c_BadLevel a cls d) (a, oe) := by
  refine T.F__law_refusal.okE sc__law_refusal (fun vs H Q E h => ?_) (fun cdv A outer s H vs Q E hr h => ?_)
  · obtain ⟨dd, wd, rfl, _⟩ := h; rfl
  · obtain ⟨dd, wd, rfl, rfl, rfl, hd, q⟩ := h
    refine ⟨_, (pss_cons (ps_set (i := 1) sc__law_refusal.nd rfl (.inl rfl) (pe_lst pa_nil))
      (pss_cons (ps_if (pt_val (pe_callB (call_isP List.mem_cons_self hz hf) (by rfl) T.n_isinstance (by decide +kernel) (pa_cons (pv 0) (pa_cons (pe_bltn (v := .ty "ValueError") (by rfl) T.n_ValueError (by decide +kernel) rfl) pa_nil)))) (pss_one (ps_expr (pe_bm PySem.F.plainAttrs_list PySem.F.slot_list_append PySem.F.type_list_append mt_append (pv 1) (pa_cons (pe_str) pa_nil)))) pss_nil)
      (pss_cons (ps_if (PW.pt (pw_or (pt_val (pe_callB (call_isP List.mem_cons_self hz hf) (by rfl) T.n_isinstance (by decide +kernel) (pa_cons (pv 0) (pa_cons (pe_glob (v := .ref T.c_BadShape) (by rfl) T.g_BadShape rfl) pa_nil)))) (pw_or (pt_val (pe_callB (call_isP List.mem_cons_self hz hf) (by rfl) T.n_isinstance (by decide +kernel) (pa_cons (pv 0) (pa_cons (pe_glob (v := .ref T.c_UnknownMark) (by rfl) T.g_UnknownMark rfl) pa_nil)))) (pw_or1 (pt_val (pe_callB (call_isP List.mem_cons_self hz hf) (by rfl) T.n_isinstance (by decide +kernel) (pa_cons (pv 0) (pa_cons (pe_glob (v := .ref T.c_BadStep) (by rfl) T.g_BadStep rfl) pa_nil)))))))) (pss_one (ps_expr (pe_bm PySem.F.plainAttrs_list PySem.F.slot_list_append PySem.F.type_list_append mt_append (pv 1) (pa_cons (pe_str) pa_nil)))) pss_nil)
      (pss_cons (ps_if (PW.pt (pw_or (pt_val (pe_callB (call_isP List.mem_cons_self hz hf) (by rfl) T.n_isinstance (by decide +kernel) (pa_cons (pv 0) (pa_cons (pe_glob (v := .ref T.c_BadText) (by rfl) T.g_BadText rfl) pa_nil)))) (pw_or (pt_val (pe_callB (call_isP List.mem_cons_self hz hf) (by rfl) T.n_isinstance (by decide +kernel) (pa_cons (pv 0) (pa_cons (pe_glob (v := .ref T.c_NoThing) (by rfl) T.g_NoThing rfl) pa_nil)))) (pw_or1 (pt_val (pe_callB (call_isP List.mem_cons_self hz hf) (by rfl) T.n_isinstance (by decide +kernel) (pa_cons (pv 0) (pa_cons (pe_glob (v := .ref T.c_TooLarge) (by rfl) T.g_TooLarge rfl) pa_nil)))))))) (pss_one (ps_expr (pe_bm PySem.F.plainAttrs_list PySem.F.slot_list_append PySem.F.type_list_append mt_append (pv 1) (pa_cons (pe_str) pa_nil)))) pss_nil)
      (pss_cons (ps_if (PW.pt (pw_or (pt_val (pe_callB (call_isP List.mem_cons_self hz hf) (by rfl) T.n_isinstance (by decide +kernel) (pa_cons (pv 0) (pa_cons (pe_glob (v := .ref T.c_Refused) (by rfl) T.g_Refused rfl) pa_nil)))) (pw_or1 (pt_not (pt_val (pe_callB (call_isP List.mem_cons_self hz hf) (by rfl) T.n_isinstance (by decide +kernel) (pa_cons (pv 0) (pa_cons (pe_glob (v := .ref T.c_BadLevel) (by rfl) T.g_BadLevel rfl) pa_nil)))))))) (pss_cons (ps_expr (pe_bm PySem.F.plainAttrs_list PySem.F.slot_list_append PySem.F.type_list_append mt_append (pv 1) (pa_cons (pe_str) pa_nil)))
      (pss_one (ps_ret (pe_tup (pa_cons (pv 1) (pa_cons (pe_str) pa_nil)))))) pss_nil)
      (pss_one (ps_ret (pe_tup (pa_cons (pv 1) (pa_cons (pe_xfP List.mem_cons_self hz hf (pv 0)) pa_nil)))))))))), ?_⟩
    refine ⟨Nat.zero_le _, fun l hl => ?_⟩
    have s1 := same_new (o := .lst []) hl
    have hd1 := s1 _ _ hd
    refine ⟨_, rfl, _, dd, _, _, _, true, rfl, rfl, hd1, T.xc_BadLevel, rfl, ClsV.ty _, T.kt_BadLevel_ValueError, _, rfl, iteT ?_⟩
    refine ⟨_, rfl, .inl ⟨rfl, _, SqL.of upd_same⟩, _, _, _, rfl, rfl, upd_same, by show 0 < sizeLine; decide, ?_⟩
    rw [upd_upd]
    have s2 := same_new (o := .lst [.str "ValueError"]) hl
    have hd2 := s2 _ _ hd
    have l2 : (upd H l (.lst [.str "ValueError"])) l = some (.lst [.str "ValueError"]) := upd_same
    change tSeq _ _ _ _ (upd H l (.lst [.str "ValueError"]))
    refine ⟨_, rfl, _, dd, _, _, _, false, rfl, rfl, hd2, T.xc_BadLevel, rfl, ClsV.own _, T.kt_BadLevel_BadShape, _, rfl, iteF ?_⟩
    refine ⟨_, rfl, _, dd, _, _, _, false, rfl, rfl, hd2, T.xc_BadLevel, rfl, ClsV.own _, T.kt_BadLevel_UnknownMark, _, rfl, iteF ?_⟩
    refine ⟨_, rfl, _, dd, _, _, _, false, rfl, rfl, hd2, T.xc_BadLevel, rfl, ClsV.own _, T.kt_BadLevel_BadStep, _, rfl, iteF ?_⟩
    refine ⟨_, rfl, _, dd, _, _, _, false, rfl, rfl, hd2, T.xc_BadLevel, rfl, ClsV.own _, T.kt_BadLevel_BadText, _, rfl, iteF ?_⟩
    refine ⟨_, rfl, _, dd, _, _, _, false, rfl, rfl, hd2, T.xc_BadLevel, rfl, ClsV.own _, T.kt_BadLevel_NoThing, _, rfl, iteF ?_⟩
    refine ⟨_, rfl, _, dd, _, _, _, false, rfl, rfl, hd2, T.xc_BadLevel, rfl, ClsV.own _, T.kt_BadLevel_TooLarge, _, rfl, iteF ?_⟩
    refine ⟨_, rfl, _, dd, _, _, _, false, rfl, rfl, hd2, T.xc_BadLevel, rfl, ClsV.own _, T.kt_BadLevel_Refused, _, rfl, iteF ?_⟩
    refine ⟨_, rfl, _, dd, _, _, _, true, rfl, rfl, hd2, T.xc_BadLevel, rfl, ClsV.own _, T.kt_BadLevel_BadLevel, _, rfl, iteF ?_⟩
    refine ⟨_, rfl, _, rfl, rfl, _, dd, _, _, rfl, T.xc_BadLevel, T.xn_BadLevel, rfl, hd2, rfl, by show 2 ≤ sizeLine; decide, fun r hr => ?_⟩
    exact q r l _ (s2.trans (same_new hr)) (s2.free hr) hl (same_new hr _ _ l2) upd_same
theorem ok__law_told (T : Txt K mg) : FnOk PP w K mg base CX0 4 T.a__law_told T.fd__law_told ["_law_word_here", "_law_parents"] spTold := by
  refine T.F__law_told.ok sc__law_told (fun vs H Q E h => ?_) (fun cdv A outer s H vs Q E hr h => ?_)
  · obtain ⟨z, n, rfl, _⟩ := h; rfl
  · obtain ⟨z, n, rfl, qy, qn⟩ := h
    refine ⟨_, (pss_cons (ps_set (i := 2) sc__law_told.nd rfl (.inl rfl) (pe_lst pa_nil))
      (pss_cons (ps_try_as (i := 3) rfl rfl sc__law_told.nd rfl rfl ⟨rfl, by decide, .inl T.g_WebError⟩ takes0 (fun W pn xe tk po => (pss_one (ps_expr (pe_bmK (K := K) rfl (pe_bm PySem.F.plainAttrs_list PySem.F.slot_list_append PySem.F.type_list_append mt_append (pv 2) (pa_cons (pe_callS (ok_rank T) (hr.mono (by omega)) (by rfl) T.g_rank T.F_rank.kp T.b_rank (fun σ => passAt tk σ) (pa_cons (pv 0) pa_nil)) pa_nil)))))) (fun a oe cls d pn hz hf => (pss_one (ps_expr (pe_bmK (K := K) rfl (pe_bm PySem.F.plainAttrs_list PySem.F.slot_list_append PySem.F.type_list_append mt_append (pv 2) (pa_cons (pe_callE (E := E0) (ok__law_refusal T a oe cls d hz hf) (room_suite hr (by omega) rfl rfl) List.mem_cons_self (by rfl) T.g__law_refusal T.F__law_refusal.kp T.b__law_refusal pass0 (pa_cons (pv 3) pa_nil)) pa_nil)))))))
      (pss_cons (ps_try_as (i := 3) rfl rfl sc__law_told.nd rfl rfl ⟨rfl, by decide, .inl T.g_WebError⟩ takes0 (fun W pn xe tk po => (pss_one (ps_expr (pe_bmK (K := K) rfl (pe_bm PySem.F.plainAttrs_list PySem.F.slot_list_append PySem.F.type_list_append mt_append (pv 2) (pa_cons (pe_callS (ok_needed T) (hr.mono (by omega)) (by rfl) T.g_needed T.F_needed.kp T.b_needed (fun σ => passAt tk σ) (pa_cons (pv 0) (pa_cons (pv 1) pa_nil))) pa_nil)))))) (fun a oe cls d pn hz hf => (pss_one (ps_expr (pe_bmK (K := K) rfl (pe_bm PySem.F.plainAttrs_list PySem.F.slot_list_append PySem.F.type_list_append mt_append (pv 2) (pa_cons (pe_callE (E := E0) (ok__law_refusal T a oe cls d hz hf) (room_suite hr (by omega) rfl rfl) List.mem_cons_self (by rfl) T.g__law_refusal T.F__law_refusal.kp T.b__law_refusal pass0 (pa_cons (pv 3) pa_nil)) pa_nil)))))))
      (pss_one (ps_ret (pv 2)))))), ?_⟩
    refine ⟨Nat.zero_le _, fun p hp => ?_⟩
    have s1 := same_new (o := .lst []) hp
    have h1 : (upd H p (.lst [])) p = some (.lst []) := upd_same
    change tSeq _ _ _ _ (upd H p (.lst []))
    cases e : lvl z with
    | some i =>
      refine ⟨_, rfl, .inl ⟨rfl, _, SqL.of h1⟩, _, rfl, z, rfl, fun j hj H1 s2 => ?_, fun hn => absurd hn (by rw [e]; simp)⟩
      obtain rfl : i = j := Option.some.inj (e.symm.trans hj)
      refine ⟨_, _, _, rfl, rfl, s2 _ _ h1, by show 0 < sizeLine; decide, ?_⟩
      have t2 := same_mut (o := .lst [.int i]) (s1.trans s2) hp
      refine ⟨_, rfl, .inl ⟨rfl, _, SqL.of upd_same⟩, _, rfl, _, rfl, z, n, rfl, fun j hj H2 s3 => ?_, fun hn => absurd hn (by rw [e]; simp)⟩
      obtain rfl : i = j := Option.some.inj (e.symm.trans hj)
      refine ⟨_, _, _, rfl, rfl, s3 _ _ upd_same, by show 1 < sizeLine; decide, ?_⟩
      have t3 := same_mut (o := .lst [.int i, .int (need i n)]) (t2.trans s3) hp
      exact ⟨_, rfl, qy i e p _ t3 hp upd_same⟩
    | none =>
      refine ⟨_, rfl, .inl ⟨rfl, _, SqL.of h1⟩, _, rfl, z, rfl, fun j hj => absurd hj (by rw [e]; simp), fun _ H1 d s2 nd hd => ⟨true, T.em_BadLevel_WebError, fun _ a0 ha0 => ?_, fun z => nomatch z⟩⟩
      refine ⟨_, rfl, .inl ⟨rfl, _, SqL.of (s2 _ _ h1)⟩, _, rfl, d, z, rfl, rfl, rfl, hd, fun r1 l1 H2 s3 nr1 nl1 hl1 hr1 => ⟨_, _, _, rfl, rfl, s3 _ _ (s2 _ _ h1), by show 0 < sizeLine; decide, ?_⟩⟩
      have t1 := s1.trans s2
      have t2 := same_mut (o := .lst [.ref r1]) (t1.trans s3) hp
      have hr1' : (upd H2 p (.lst [.ref r1])) r1 = some (.tup [.ref l1, .str z]) := by rw [upd_ne (ne_of_none (s2 _ _ h1) nr1).symm]; exact hr1
      have hl1' : (upd H2 p (.lst [.ref r1])) l1 = some (.lst [.str "ValueError"]) := by rw [upd_ne (ne_of_none (s2 _ _ h1) nl1).symm]; exact hl1
      have hp2 : (upd H2 p (.lst [.ref r1])) p = some (.lst [.ref r1]) := upd_same
      have f1 := t1.free nr1
      have f2 := t1.free nl1
      refine ⟨_, rfl, .inl ⟨rfl, _, SqL.of hp2⟩, _, rfl, _, rfl, z, n, rfl, fun j hj => absurd hj (by rw [e]; simp), fun _ H3 d3 s4 nd3 hd3 => ⟨true, T.em_BadLevel_WebError, fun _ a0 ha0 => ?_, fun z => nomatch z⟩⟩
      refine ⟨_, rfl, .inl ⟨rfl, _, SqL.of (s4 _ _ hp2)⟩, _, rfl, d3, z, rfl, rfl, rfl, hd3, fun r2 l2 H4 s5 nr2 nl2 hl2 hr2 => ⟨_, _, _, rfl, rfl, s5 _ _ (s4 _ _ hp2), by show 1 < sizeLine; decide, ?_⟩⟩
      have t4 := t2.trans s4
      have t5 := same_mut (o := .lst [.ref r1, .ref r2]) (t4.trans s5) hp
      have n1 : r1 ≠ p := (ne_of_none (s2 _ _ h1) nr1).symm
      have n2 : l1 ≠ p := (ne_of_none (s2 _ _ h1) nl1).symm
      have n3 : r2 ≠ p := (ne_of_none (s4 _ _ hp2) nr2).symm
      have n4 : l2 ≠ p := (ne_of_none (s4 _ _ hp2) nl2).symm
      exact ⟨_, rfl, qn e p r1 l1 r2 l2 _ t5 hp f1 f2 (t4.free nr2) (t4.free nl2) upd_same (by rw [upd_ne n1]; exact s5 _ _ (s4 _ _ hr1')) (by rw [upd_ne n2]; exact s5 _ _ (s4 _ _ hl1')) (by rw [upd_ne n3]; exact hr2) (by rw [upd_ne n4]; exact hl2)⟩
end
end My

namespace My
open PySem L2
def spWord (K : PySem.W.Frag) : Sp := fun vs H Q _ => ∃ (d t : Addr), vs = [.ref d, .ref t] ∧ Dr K H d t ∧ ∀ (z : Str) H', Dr K H' d t → But t H H' → Q (.str z) H'
def abc : Str := "abcdefghijklmnopqrstuvwxyz"
theorem abc_len : abc.cps.toList.length = 26 := by decide +kernel
theorem abc_at {i : Int} (h0 : 0 ≤ i) (h1 : i < 26) : ∃ c, atI abc.cps.toList i = some c := by
  obtain ⟨j, rfl⟩ := Int.eq_ofNat_of_zero_le h0
  have hj : j < abc.cps.toList.length := by rw [abc_len]; omega
  exact ⟨_, atI_nat (List.getElem?_eq_getElem hj)⟩
theorem slen_app (x y : Str) : (x ++ y).length = x.length + y.length := by
  show (x.cps ++ y.cps).size = x.cps.size + y.cps.size
  simp
theorem cutS_len (z : Str) (lo hi : Option Int) : (cutS z lo hi).length ≤ z.length := by
  show (List.toArray _).size ≤ z.cps.size
  rw [List.size_toArray, List.length_take, List.length_drop, Array.length_toList]
  omega
theorem lev_str {v : V} (h : v ∈ levV) : ∃ z : Str, v = .str z ∧ z.length ≤ 5 := by
  unfold levV at h
  simp only [List.mem_cons, List.not_mem_nil, or_false] at h
  rcases h with rfl | rfl | rfl | rfl <;> exact ⟨_, rfl, by decide +kernel⟩
section
variable {P : Program} {w : World} {K : PySem.W.Frag} {mg : Str → Option Value} {base : Heap}
theorem ok__law_word (T : Txt K mg) : FnOk P w K mg base CX0 2 T.a__law_word T.fd__law_word ["_law_draws_here", "_law_at"] (spWord K) := by
  refine T.F__law_word.ok sc__law_word (fun vs H Q E h => ?_) (fun cdv A outer s H vs Q E hr h => ?_)
  · obtain ⟨d, t, rfl, _⟩ := h; rfl
  · obtain ⟨d, t, rfl, D, q⟩ := h
    refine ⟨_, (pss_cons (ps_set (i := 2) sc__law_word.nd rfl (.inl rfl) (pe_lst (pa_cons (pe_str) (pa_cons (pe_str) (pa_cons (pe_str) (pa_cons (pe_str) pa_nil))))))
      (pss_cons (ps_set (i := 3) sc__law_word.nd rfl (.inl rfl) (pe_str))
      (pss_cons (ps_set (i := 4) sc__law_word.nd rfl (.inl rfl) (pe_ix ix_list (pv 2) (pe_call (ok__law_take T) (hr.mono (by omega)) (by rfl) T.g__law_take T.F__law_take.kp T.b__law_take .nil pass0 (pa_cons (pv 0) (pa_cons (pv 1) (pa_cons (pe_int) pa_nil)))) (fun _ _ => rfl)))
      (pss_cons (ps_set (i := 5) sc__law_word.nd rfl (.inl rfl) (pe_ix ix_list (pv 2) (pe_call (ok__law_take T) (hr.mono (by omega)) (by rfl) T.g__law_take T.F__law_take.kp T.b__law_take .nil pass0 (pa_cons (pv 0) (pa_cons (pv 1) (pa_cons (pe_int) pa_nil)))) (fun _ _ => rfl)))
      (pss_cons (ps_set (i := 6) sc__law_word.nd rfl (.inl rfl) (pe_str))
      (pss_cons (ps_for PassesOwn.never rfl (pi_range1 (by rfl) T.n_range (pa_cons (pe_call (ok__law_take T) (hr.mono (by omega)) (by rfl) T.g__law_take T.F__law_take.kp T.b__law_take .nil pass0 (pa_cons (pv 0) (pa_cons (pv 1) (pa_cons (pe_int) pa_nil)))) pa_nil)) (pg_name (i := 7) sc__law_word.nd rfl (.inl rfl)) (pss_one (ps_set (i := 6) sc__law_word.nd rfl (.inl rfl) (pe_op op_add_str (pv 6) (pe_ix ix_str (pv 3) (pe_call (ok__law_take T) (hr.mono (by omega)) (by rfl) T.g__law_take T.F__law_take.kp T.b__law_take .nil pass0 (pa_cons (pv 0) (pa_cons (pv 1) (pa_cons (pe_int) pa_nil)))) (fun _ _ => rfl))))))
      (pss_cons (ps_set (i := 8) sc__law_word.nd rfl (.inl rfl) (pe_lst (pa_cons (pv 4) (pa_cons (pv 4) (pa_cons (pv 4) (pa_cons (pe_str) (pa_cons (pe_upper (pv 4)) (pa_cons (pe_op op_add_str (pe_upper (pe_slice sl_str (pv 4) po_none (po_some (pe_int)))) (pe_slice sl_str (pv 4) (po_some (pe_int)) po_none)) (pa_cons (pe_op op_add_str (pv 4) (pe_str)) (pa_cons (pe_op op_add_str (pv 4) (pe_str)) (pa_cons (pe_op op_add_str (pe_str) (pv 4)) pa_nil)))))))))))
      (pss_cons (ps_set (i := 8) sc__law_word.nd rfl (.inl rfl) (pe_op op_cat (pv 8) (pe_lst (pa_cons (pe_slice sl_str (pv 4) po_none (po_some (pe_op op_sub (pe_callB call_len_str (by rfl) T.n_len (by decide +kernel) (pa_cons (pv 4) pa_nil)) (pe_int)))) (pa_cons (pe_op op_add_str (pv 4) (pv 5)) (pa_cons (pv 6) pa_nil))))))
      (pss_one (ps_ret (pe_ix ix_list (pv 8) (pe_call (ok__law_take T) (hr.mono (by omega)) (by rfl) T.g__law_take T.F__law_take.kp T.b__law_take .nil pass0 (pa_cons (pv 0) (pa_cons (pv 1) (pa_cons (pe_int) pa_nil)))) (fun _ _ => rfl)))))))))))), ?_⟩
    have big : 1000 ≤ sizeLine := by decide
    refine ⟨by show 4 ≤ sizeLine; decide, fun m hm => ?_⟩
    have s1 := same_new (o := .lst levV) hm
    have nm : m ≠ t := D.na hm
    refine ⟨_, rfl, _, rfl, _, rfl, d, t, 4, rfl, D.same s1, by decide, fun r H1 h0 h1 D1 b1 => ?_⟩
    obtain ⟨v, hv, mv⟩ := at_ok (xs := levV) h0 h1
    obtain ⟨z, rfl, hz⟩ := lev_str mv
    have m1 := b1 _ _ nm upd_same
    refine ⟨_, _, _, _, rfl, rfl, SqL.of m1, hv, ?_⟩
    have bA : But t H H1 := (But.of_same s1).trans b1
    refine ⟨_, rfl, _, rfl, _, rfl, d, t, 4, rfl, D1, by decide, fun r' H1' h0' h1' D1' b1' => ?_⟩
    obtain ⟨v', hv', mv'⟩ := at_ok (xs := levV) h0' h1'
    obtain ⟨z', rfl, hz'⟩ := lev_str mv'
    refine ⟨_, _, _, _, rfl, rfl, SqL.of (b1' _ _ nm m1), hv', ?_⟩
    have bA' := bA.trans b1'
    refine ⟨_, rfl, _, rfl, d, t, 7, rfl, D1', by decide, fun r2 H2 g0 g1 D2 b2 => ?_⟩
    obtain ⟨n, rfl⟩ := Int.eq_ofNat_of_zero_le g0
    refine ⟨_, rfl, by omega, by omega, for_range (lo := 0) (n := n) (fun j σ H' => ∃ (y : Str) (x7 : Option V), σ = [some (.ref d), some (.ref t), some (.ref m), some (.str abc), some (.str z), some (.str z'), some (.str y), x7, none] ∧ y.length ≤ j ∧ Dr K H' d t ∧ But t H H')
      ⟨"", _, rfl, by decide +kernel, D2, bA'.trans b2⟩ ?_ ?_⟩
    · rintro j σ H3 hj ⟨y, x7, rfl, ly, D3, b3⟩
      refine ⟨_, rfl, _, rfl, _, rfl, _, rfl, d, t, 26, rfl, D3, by decide, fun r4 H4 k0 k1 D4 b4 => ?_⟩
      obtain ⟨cc, hc⟩ := abc_at k0 k1
      refine ⟨_, _, cc, rfl, rfl, by decide +kernel, hc, _, _, rfl, rfl, ?_, ?_⟩
      · exact Nat.le_trans (by show y.length + 1 ≤ 1000; omega) (by decide)
      · exact ⟨_, _, rfl, by rw [slen_app]; exact Nat.succ_le_succ ly, D4, b3.trans b4⟩
    · rintro σ H3 ⟨y, x7, rfl, ly, D3, b3⟩
      have zl : z.length ≤ sizeLine := Nat.le_trans (m := 1000) (by omega) big
      have up := PyProof.Rows.len_upper
      have e1 : ((" " : Str)).length = 1 := by decide +kernel
      have e2 : (("s" : Str)).length = 1 := by decide +kernel
      have c1 := cutS_len z none (some 1)
      have c2 := cutS_len z (some 1) none
      have u1 := up (cutS z none (some 1))
      refine ⟨_, rfl, _, rfl, _, rfl, _, rfl, ⟨_, rfl⟩, _, rfl, rfl, by omega, _, rfl, _, rfl, _, rfl, zl, ⟨_, rfl⟩, _, rfl, rfl, by omega, _, rfl, _, rfl, _, rfl, zl, _, _, rfl, rfl, Nat.le_trans (m := 1000) (by omega) big, _, rfl, _, _, rfl, rfl, Nat.le_trans (m := 1000) (by omega) big, _, rfl, _, _, rfl, rfl, Nat.le_trans (m := 1000) (by omega) big, _, rfl, _, _, rfl, rfl, Nat.le_trans (m := 1000) (by omega) big, by show 9 ≤ sizeLine; decide, fun f hf => ?_⟩
      have s4 := same_new (o := .lst [.str z, .str z, .str z, .str "", .str (PySem.Txt.upper z), .str (PySem.Txt.upper (cutS z none (some 1)) ++ cutS z (some 1) none), .str (z ++ (" " : Str)), .str (z ++ ("s" : Str)), .str ((" " : Str) ++ z)]) hf
      refine ⟨_, rfl, _, rfl, _, rfl, _, rfl, zl, _, _, rfl, rfl, _, rfl, _, rfl, zl, _, rfl, _, rfl, _, _, rfl, rfl, Nat.le_trans (m := 1000) (by omega) big, _, rfl, by show 3 ≤ sizeLine; decide, fun g hg => ?_⟩
      have s5 := same_new (o := .lst [.str (cutS z none (some ((z.length : Int) - 1))), .str (z ++ z'), .str y]) hg
      refine ⟨f, g, _, _, rfl, rfl, s5 _ _ upd_same, upd_same, by show 9 + 3 ≤ sizeLine; decide, fun k hk => ?_⟩
      have D4 := (D3.same s4).same s5
      have s6 := same_new (o := .lst ([.str z, .str z, .str z, .str "", .str (PySem.Txt.upper z), .str (PySem.Txt.upper (cutS z none (some 1)) ++ cutS z (some 1) none), .str (z ++ (" " : Str)), .str (z ++ ("s" : Str)), .str ((" " : Str) ++ z)] ++ [.str (cutS z none (some ((z.length : Int) - 1))), .str (z ++ z'), .str y])) hk
      have nk : k ≠ t := D4.na hk
      refine ⟨_, rfl, _, rfl, _, rfl, d, t, 12, rfl, D4.same s6, by decide, fun r5 H5 k0 k1 D5 b5 => ?_⟩
      obtain ⟨XS, eX⟩ : ∃ XS : List V, XS = [V.str z, V.str z, V.str z, V.str "", V.str (PySem.Txt.upper z), V.str (PySem.Txt.upper (cutS z none (some 1)) ++ cutS z (some 1) none), V.str (z ++ (" " : Str)), V.str (z ++ ("s" : Str)), V.str ((" " : Str) ++ z)] ++ [V.str (cutS z none (some ((z.length : Int) - 1))), V.str (z ++ z'), V.str y] := ⟨_, rfl⟩
      obtain ⟨v, hv, mv⟩ := at_ok (xs := XS) k0 (by rw [eX]; exact k1)
      rw [eX] at hv mv
      refine ⟨_, _, _, _, rfl, rfl, SqL.of (b5 _ _ nk upd_same), hv, ?_⟩
      have bZ : But t H H5 := (((b3.trans (But.of_same s4)).trans (But.of_same s5)).trans (But.of_same s6)).trans b5
      simp only [List.cons_append, List.nil_append, List.mem_cons, List.not_mem_nil, or_false] at mv
      rcases mv with rfl | rfl | rfl | rfl | rfl | rfl | rfl | rfl | rfl | rfl | rfl | rfl <;> exact q _ _ D5 bZ
end
end My

namespace My
open PySem L2
def spLaw (K : PySem.W.Frag) : Sp := fun vs H Q _ => ∃ (a : Addr) (ns : List Int), vs = [.ref a] ∧ SqL K H a (ns.map V.int) ∧ ns.length ≤ 63 ∧ ∀ H', Q (.bl true) H'
section
variable {w : World} {K : PySem.W.Frag} {mg : Str → Option Value} {base : Heap}
set_option maxHeartbeats 16000000 in
theorem ok_law (T : Txt K mg) : FnOk PP w K mg base CX0 12 T.a_law T.fd_law ["_law_script"] (spLaw K) := by
  refine T.F_law.ok sc_law (fun vs H Q E h => ?_) (fun cdv A outer s H vs Q E hr h => ?_)
  · obtain ⟨a, ns, rfl, _⟩ := h; rfl
  · obtain ⟨a0, ns, rfl, hS, hlen, q⟩ := h
    refine ⟨_, (pss_cons (ps_set (i := 1) sc_law.nd rfl (.inl rfl) (pe_call (ok__law_draws T) (hr.mono (by omega)) (by rfl) T.g__law_draws T.F__law_draws.kp T.b__law_draws .nil pass0 (pa_cons (pv 0) pa_nil)))
      (pss_cons (ps_set (i := 2) sc_law.nd rfl (.inl rfl) (pe_lst (pa_cons (pe_int) pa_nil)))
      (pss_cons (ps_set (i := 3) sc_law.nd rfl (.inl rfl) (pe_lst (pa_cons (pe_str) (pa_cons (pe_str) (pa_cons (pe_str) (pa_cons (pe_str) pa_nil))))))
      (pss_cons (ps_if (pt_not (pt_val (pe_call (ok__law_same T 3) (hr.mono (by omega)) (by rfl) T.g__law_same T.F__law_same.kp T.b__law_same .nil pass0 (pa_cons (pe_glob (v := .ref T.k_LEVELS) (by rfl) T.g_LEVELS rfl) (pa_cons (pe_tup (pa_cons (pe_str) (pa_cons (pe_str) (pa_cons (pe_str) (pa_cons (pe_str) pa_nil))))) pa_nil))))) (pss_one (ps_ret (pe_bl))) pss_nil)
      (pss_cons (ps_for PassesOwn.never rfl (pi_range1 (by rfl) T.n_range (pa_cons (pe_int) pa_nil)) (pg_name (i := 4) sc_law.nd rfl (.inl rfl)) (pss_cons (ps_set (i := 5) sc_law.nd rfl (.inl rfl) (pe_call (ok__law_word T) (hr.mono (by omega)) (by rfl) T.g__law_word T.F__law_word.kp T.b__law_word .nil pass0 (pa_cons (pv 1) (pa_cons (pv 2) pa_nil))))
      (pss_cons (ps_set (i := 6) sc_law.nd rfl (.inl rfl) (pe_call (ok__law_take T) (hr.mono (by omega)) (by rfl) T.g__law_take T.F__law_take.kp T.b__law_take .nil pass0 (pa_cons (pv 1) (pa_cons (pv 2) (pa_cons (pe_int) pa_nil)))))
      (C8.pss_cut (ps_if (pt_cmpR op_eq (pe_call (ok__law_take T) (hr.mono (by omega)) (by rfl) T.g__law_take T.F__law_take.kp T.b__law_take .nil pass0 (pa_cons (pv 1) (pa_cons (pv 2) (pa_cons (pe_int) pa_nil)))) (pe_int) (nomark _)) (pss_one (ps_set (i := 6) sc_law.nd rfl (.inl rfl) (pe_op op_add (pe_op op_add (pe_op op_mul (pe_call (ok__law_take T) (hr.mono (by omega)) (by rfl) T.g__law_take T.F__law_take.kp T.b__law_take .nil pass0 (pa_cons (pv 1) (pa_cons (pv 2) (pa_cons (pe_int) pa_nil)))) (pe_op op_pow (pe_int) (pe_int))) (pe_op op_mul (pe_call (ok__law_take T) (hr.mono (by omega)) (by rfl) T.g__law_take T.F__law_take.kp T.b__law_take .nil pass0 (pa_cons (pv 1) (pa_cons (pv 2) (pa_cons (pe_int) pa_nil)))) (pe_int))) (pv 6)))) pss_nil)
      (pss_cons (ps_for PassesOwn.never rfl (pi_range1 (by rfl) T.n_range (pa_cons (pe_int) pa_nil)) (pg_name (i := 7) sc_law.nd rfl (.inl rfl)) (pss_cons (ps_if (pt_not (pt_val (pe_call (ok__law_same T 3) (hr.mono (by omega)) (by rfl) T.g__law_same T.F__law_same.kp T.b__law_same .nil pass0 (pa_cons (pe_call ((ok_rank T).calm) (hr.mono (by omega)) (by rfl) T.g_rank T.F_rank.kp T.b_rank .nil pass0 (pa_cons (pe_ix ix_list (pv 3) (pv 7) (fun _ _ => rfl)) pa_nil)) (pa_cons (pv 7) pa_nil))))) (pss_one (ps_ret (pe_bl))) pss_nil)
      (pss_one (ps_if (pt_not (pt_val (pe_call (ok__law_same T 3) (hr.mono (by omega)) (by rfl) T.g__law_same T.F__law_same.kp T.b__law_same .nil pass0 (pa_cons (pe_call ((ok_needed T).calm) (hr.mono (by omega)) (by rfl) T.g_needed T.F_needed.kp T.b_needed .nil pass0 (pa_cons (pe_ix ix_list (pv 3) (pv 7) (fun _ _ => rfl)) (pa_cons (pv 6) pa_nil))) (pa_cons (pe_call (ok__law_asks T) (hr.mono (by omega)) (by rfl) T.g__law_asks T.F__law_asks.kp T.b__law_asks .nil pass0 (pa_cons (pv 7) (pa_cons (pv 6) pa_nil))) pa_nil))))) (pss_one (ps_ret (pe_bl))) pss_nil))))
      (pss_cons (ps_set (i := 8) sc_law.nd rfl (.inl rfl) (pe_call (ok__law_place T) (hr.mono (by omega)) (by rfl) T.g__law_place T.F__law_place.kp T.b__law_place .nil pass0 (pa_cons (pv 5) pa_nil)))
      (pss_cons (ps_set (i := 9) sc_law.nd rfl (.inl rfl) (pe_lst (pa_cons (pe_tup (pa_cons (pe_lst (pa_cons (pe_str) pa_nil)) (pa_cons (pv 5) pa_nil))) (pa_cons (pe_tup (pa_cons (pe_lst (pa_cons (pe_str) pa_nil)) (pa_cons (pv 5) pa_nil))) pa_nil))))
      (C8.pss_cut (ps_if (pt_cmpR op_ge (pv 8) (pe_int) (nomark _)) (pss_one (ps_set (i := 9) sc_law.nd rfl (.inl rfl) (pe_lst (pa_cons (pv 8) (pa_cons (pe_call (ok__law_asks T) (hr.mono (by omega)) (by rfl) T.g__law_asks T.F__law_asks.kp T.b__law_asks .nil pass0 (pa_cons (pv 8) (pa_cons (pv 6) pa_nil))) pa_nil))))) pss_nil)
      (pss_one (ps_if (pt_not (pt_val (pe_call (ok__law_same T 3) (hr.mono (by omega)) (by rfl) T.g__law_same T.F__law_same.kp T.b__law_same .nil pass0 (pa_cons (pe_call (ok__law_told T) (hr.mono (by omega)) (by rfl) T.g__law_told T.F__law_told.kp T.b__law_told .nil pass0 (pa_cons (pv 5) (pa_cons (pv 6) pa_nil))) (pa_cons (pv 9) pa_nil))))) (pss_one (ps_ret (pe_bl))) pss_nil))))))))))
      (pss_one (ps_ret (pe_bl)))))))), ?_⟩
    refine ⟨_, rfl, a0, ns, rfl, hS, hlen, fun d zs H1 s1 nd hd => ?_⟩
    refine ⟨Nat.le_of_lt (small1000 (by decide)), fun t hat => ?_⟩
    have D0 : Dr K (upd H1 t (.lst [.int 0])) d t := ⟨⟨zs, same_new hat _ _ hd⟩, ⟨0, upd_same⟩, ne_of_none hd hat⟩
    refine ⟨by show 4 ≤ sizeLine; decide, fun l hl => ?_⟩
    have nl : l ≠ t := D0.na hl
    have D0' := D0.same (same_new (o := .lst levV) hl)
    have l0 : (upd (upd H1 t (.lst [.int 0])) l (.lst levV)) l = some (.lst levV) := upd_same
    refine ⟨by show 4 ≤ sizeLine; decide, fun u hu => ⟨T.k_LEVELS + u + 1, _, _, .tuple [.str "none", .str "one", .str "most", .str "all"], .tuple [.str "none", .str "one", .str "most", .str "all"], rfl,
      Dn.tup (Nat.ne_of_lt (Nat.lt_succ_of_le (Nat.le_add_right _ _))) (T.q_LEVELS _) (.cons (.str _) (.cons (.str _) (.cons (.str _) (.cons (.str _) .nil)))), Dn.tup (Nat.ne_of_lt (Nat.lt_succ_of_le (Nat.le_add_left _ _))) (SqT.of upd_same) (.cons (.str _) (.cons (.str _) (.cons (.str _) (.cons (.str _) .nil)))), _, rfl, iteNo nsame ?_⟩⟩
    have su := same_new (o := .tup [.str "none", .str "one", .str "most", .str "all"]) hu
    refine ⟨6, rfl, by decide, by decide, for_range (lo := 0) (n := 6) (fun j σ H' => ∃ x4 x5 x6 x7 x8 x9, σ = [some (.ref a0), some (.ref d), some (.ref t), some (.ref l), x4, x5, x6, x7, x8, x9] ∧ Dr K H' d t ∧ H' l = some (.lst levV)) ⟨_, _, _, _, _, _, rfl, D0'.same su, su _ _ l0⟩ ?_ ?_⟩
    · rintro j σ H2 hj ⟨x4, x5, x6, x7, x8, x9, rfl, D2, hl2⟩
      refine ⟨_, rfl, _, rfl, d, t, rfl, D2, fun z H3 D3 b3 => ?_⟩
      refine ⟨_, rfl, _, rfl, d, t, 5, rfl, D3, by decide, fun n0 H4 n00 n01 D4 b4 => ?_⟩
      have hl4 := b4 _ _ nl (b3 _ _ nl hl2)
      refine ⟨fun σ' H' => ∃ n : Int, σ' = [some (.ref a0), some (.ref d), some (.ref t), some (.ref l), some (.int (0 + (j : Int))), some (.str z), some (.int n), x7, x8, x9] ∧ Dr K H' d t ∧ H' l = some (.lst levV), ?_, ?_⟩
      · refine ⟨_, rfl, _, rfl, d, t, 2, rfl, D4, by decide, fun r0 H5 _ _ D5 b5 => ⟨rfl, _, rfl, iteD (fun c => ?_) (fun c => ?_)⟩⟩
        · refine ⟨_, rfl, _, rfl, d, t, 1000, rfl, D5, by decide, fun r1 H6 r10 r11 D6 b6 => ⟨_, _, rfl, rfl, ⟨by decide, by decide, by decide⟩, _, _, rfl, rfl, .inl ⟨by omega, by omega⟩, ?_⟩⟩
          refine ⟨_, rfl, _, rfl, d, t, 1000, rfl, D6, by decide, fun r2 H7 r20 r21 D7 b7 => ⟨_, _, rfl, rfl, .inl ⟨by omega, by omega⟩, _, _, rfl, rfl, _, rfl, _, _, rfl, rfl, ?_⟩⟩
          exact ⟨_, rfl, D7, b7 _ _ nl (b6 _ _ nl (b5 _ _ nl hl4))⟩
        · exact ⟨_, rfl, D5, b5 _ _ nl hl4⟩
      rintro σ' H5 ⟨n, rfl, D5, hl5⟩
      refine ⟨4, rfl, by decide, by decide, for_range (lo := 0) (n := 4) (fun k σ H' => ∃ x7, σ = [some (.ref a0), some (.ref d), some (.ref t), some (.ref l), some (.int (0 + (j : Int))), some (.str z), some (.int n), x7, x8, x9] ∧ Same H5 H') ⟨_, rfl, Same.refl _⟩ ?_ ?_⟩
      · rintro k σ H6 hk ⟨x7, rfl, s6⟩
        have ek : (0 + (k : Int)) = ((k : Nat) : Int) := by omega
        rw [ek]
        obtain ⟨y, hy⟩ : ∃ y, lev[k]? = some y := ⟨_, List.getElem?_eq_getElem (by exact hk)⟩
        have ly := lvl_of hy
        have ay : atI levV ((k : Nat) : Int) = some (.str y) := at_of (j := k) rfl (by rw [levV_eq, List.getElem?_map, hy]; rfl)
        refine ⟨_, rfl, _, rfl, _, _, _, _, rfl, rfl, SqL.of (s6 _ _ hl5), ay, y, rfl, fun i hi H7 s7 => ?_, fun hn => absurd hn (by rw [ly]; simp)⟩
        obtain rfl : k = i := Option.some.inj (ly.symm.trans hi)
        refine ⟨_, rfl, t, _, _, .int _, .int _, rfl, .int _, .int _, _, rfl, iteNo nsame ?_⟩
        have t7 := s6.trans s7
        refine ⟨_, rfl, _, rfl, _, _, _, _, rfl, rfl, SqL.of (t7 _ _ hl5), ay, _, rfl, y, n, rfl, fun i hi H8 s8 => ?_, fun hn => absurd hn (by rw [ly]; simp)⟩
        obtain rfl : k = i := Option.some.inj (ly.symm.trans hi)
        refine ⟨_, rfl, _, rfl, k, n, rfl, hk, t, _, _, .int _, .int _, rfl, .int _, .int _, _, rfl, iteNo nsame ?_⟩
        exact ⟨_, rfl, t7.trans s8⟩
      · rintro σ H6 ⟨x7, rfl, s6⟩
        have D6 := D5.same s6
        have hl6 := s6 _ _ hl5
        cases e : lvl z with
        | some i =>
          have i4 := lvl_lt e
          refine ⟨_, rfl, z, rfl, fun i' hi H7 s7 => ?_, fun hn => absurd hn (by rw [e]; simp)⟩
          obtain rfl : i = i' := Option.some.inj (e.symm.trans hi)
          have D7 := D6.same s7
          refine ⟨by show 1 ≤ sizeLine; decide, fun l1 nl1 => ⟨_, rfl, by show 2 ≤ sizeLine; decide, fun u1 nu1 => ⟨by show 1 ≤ sizeLine; decide, fun l2 nl2 => ⟨_, rfl, by show 2 ≤ sizeLine; decide, fun u2 nu2 => ⟨by show 2 ≤ sizeLine; decide, fun r nr => ?_⟩⟩⟩⟩⟩
          have sA := ((((same_new (o := .lst [.str "ValueError"]) nl1).trans (same_new (o := .tup [.ref l1, .str z]) nu1)).trans (same_new (o := .lst [.str "ValueError"]) nl2)).trans (same_new (o := .tup [.ref l2, .str z]) nu2)).trans (same_new (o := .lst [.ref u1, .ref u2]) nr)
          have D8 := D7.same sA
          have hl8 := sA _ _ (s7 _ _ hl6)
          refine ⟨fun σ' H' => ∃ r, σ' = [some (.ref a0), some (.ref d), some (.ref t), some (.ref l), some (.int (0 + (j : Int))), some (.str z), some (.int n), x7, some (.int (i : Nat)), some (.ref r)] ∧ Dr K H' d t ∧ H' l = some (.lst levV) ∧ r ≠ t ∧ H' r = some (.lst [.int (i : Nat), .int (need i n)]), ?_, ?_⟩
          · refine ⟨_, rfl, _, _, rfl, rfl, _, rfl, iteD (fun c => ?_) (fun c => absurd (Int.ofNat_nonneg i) c)⟩
            refine ⟨_, rfl, _, rfl, _, rfl, i, n, rfl, i4, by show 2 ≤ sizeLine; decide, fun r2 nr2 => ?_⟩
            exact ⟨_, rfl, D8.same (same_new nr2), same_new nr2 _ _ hl8, D8.na nr2, upd_same⟩
          rintro σ' H9 ⟨r, rfl, D9, hl9, nrt, hr9⟩
          refine ⟨_, rfl, _, rfl, z, n, rfl, fun i' hi r3 H10 s10 nr3 hr3 => ?_, fun hn => absurd hn (by rw [e]; simp)⟩
          obtain rfl : i = i' := Option.some.inj (e.symm.trans hi)
          refine ⟨_, rfl, t, _, _, .list [.int i, .int (need i n)], .list [.int i, .int (need i n)], rfl, Dn.lst (D9.na nr3) (SqL.of hr3) (.cons (.int _) (.cons (.int _) .nil)), Dn.lst nrt (SqL.of (s10 _ _ hr9)) (.cons (.int _) (.cons (.int _) .nil)), _, rfl, iteNo nsame ?_⟩
          exact ⟨_, _, _, _, _, _, rfl, D9.same s10, s10 _ _ hl9⟩
        | none =>
          refine ⟨_, rfl, z, rfl, fun i' hi => absurd hi (by rw [e]; simp), fun _ H7 s7 => ?_⟩
          have D7 := D6.same s7
          refine ⟨by show 1 ≤ sizeLine; decide, fun l1 nl1 => ⟨_, rfl, by show 2 ≤ sizeLine; decide, fun u1 nu1 => ⟨by show 1 ≤ sizeLine; decide, fun l2 nl2 => ⟨_, rfl, by show 2 ≤ sizeLine; decide, fun u2 nu2 => ⟨by show 2 ≤ sizeLine; decide, fun r nr => ?_⟩⟩⟩⟩⟩
          have q1 := same_new (o := .lst [.str "ValueError"]) nl1
          have q2 := same_new (o := .tup [.ref l1, .str z]) nu1
          have q3 := same_new (o := .lst [.str "ValueError"]) nl2
          have q4 := same_new (o := .tup [.ref l2, .str z]) nu2
          have q5 := same_new (o := .lst [.ref u1, .ref u2]) nr
          have g1 := q5 _ _ (q4 _ _ (q3 _ _ (q2 _ _ upd_same)))
          have g2 := q5 _ _ (q4 _ _ (q3 _ _ upd_same))
          have g3 := q5 _ _ (q4 _ _ upd_same)
          have g4 := q5 _ _ upd_same
          have E1 := D7.na nl1
          have E2 := (D7.same q1).na nu1
          have E3 := ((D7.same q1).same q2).na nl2
          have E4 := (((D7.same q1).same q2).same q3).na nu2
          have E5 := ((((D7.same q1).same q2).same q3).same q4).na nr
          have D8 := ((((D7.same q1).same q2).same q3).same q4).same q5
          have hl8 := q5 _ _ (q4 _ _ (q3 _ _ (q2 _ _ (q1 _ _ (s7 _ _ hl6)))))
          refine ⟨fun σ' H' => σ' = [some (.ref a0), some (.ref d), some (.ref t), some (.ref l), some (.int (0 + (j : Int))), some (.str z), some (.int n), x7, some (.int (-1)), some (.ref r)] ∧ Dr K H' d t ∧ H' l = some (.lst levV) ∧ H' l1 = some (.lst [.str "ValueError"]) ∧ H' u1 = some (.tup [.ref l1, .str z]) ∧ H' l2 = some (.lst [.str "ValueError"]) ∧ H' u2 = some (.tup [.ref l2, .str z]) ∧ H' r = some (.lst [.ref u1, .ref u2]), ?_, ?_⟩
          · refine ⟨_, rfl, _, _, rfl, rfl, _, rfl, iteD (fun c => absurd c (by decide)) (fun c => ?_)⟩
            exact ⟨rfl, D8, hl8, g1, g2, g3, g4, upd_same⟩
          rintro σ' H9 ⟨rfl, D9, hl9, g1, g2, g3, g4, g5⟩
          refine ⟨_, rfl, _, rfl, z, n, rfl, fun i' hi => absurd hi (by rw [e]; simp), fun _ r0 r1 k1 r2 k2 H10 s10 f0 f1 f2 f3 f4 h0 h1 h2 h3 h4 => ?_⟩
          refine ⟨_, rfl, t, _, _, .list [.tuple [.list [.str "ValueError"], .str z], .tuple [.list [.str "ValueError"], .str z]], .list [.tuple [.list [.str "ValueError"], .str z], .tuple [.list [.str "ValueError"], .str z]], rfl,
            Dn.lst (D9.na f0) (SqL.of h0) (.cons (Dn.tup (D9.na f1) (SqT.of h1) (.cons (Dn.lst (D9.na f2) (SqL.of h2) (.cons (.str _) .nil)) (.cons (.str _) .nil))) (.cons (Dn.tup (D9.na f3) (SqT.of h3) (.cons (Dn.lst (D9.na f4) (SqL.of h4) (.cons (.str _) .nil)) (.cons (.str _) .nil))) .nil)),
            Dn.lst E5 (SqL.of (s10 _ _ g5)) (.cons (Dn.tup E2 (SqT.of (s10 _ _ g2)) (.cons (Dn.lst E1 (SqL.of (s10 _ _ g1)) (.cons (.str _) .nil)) (.cons (.str _) .nil))) (.cons (Dn.tup E4 (SqT.of (s10 _ _ g4)) (.cons (Dn.lst E3 (SqL.of (s10 _ _ g3)) (.cons (.str _) .nil)) (.cons (.str _) .nil))) .nil)), _, rfl, iteNo nsame ?_⟩
          exact ⟨_, _, _, _, _, _, rfl, D9.same s10, s10 _ _ hl9⟩
    · rintro σ H2 ⟨x4, x5, x6, x7, x8, x9, rfl, D2, hl2⟩
      exact q H2
end
end My

namespace My
open PySem L2
theorem all_mk {w : World} {K : PySem.W.Frag} {h : Heap} {mg : Str → Option Value} {fa : Addr} (X : K.In h) (G : h.Ns mainGlobals mg) (hfa : mg "law" = some (.ref fa))
    {f_rank : Addr} {od_rank an_rank : Option Addr} {sl_rank : Array (Option Value)} {oc_rank kV_rank dc_rank pm_rank cd_rank ct_rank : Value}
    {f_needed : Addr} {od_needed an_needed : Option Addr} {sl_needed : Array (Option Value)} {oc_needed kV_needed dc_needed pm_needed cd_needed ct_needed : Value}
    {f__law_draws : Addr} {od__law_draws an__law_draws : Option Addr} {sl__law_draws : Array (Option Value)} {oc__law_draws kV__law_draws dc__law_draws pm__law_draws cd__law_draws ct__law_draws : Value}
    {f__law_take : Addr} {od__law_take an__law_take : Option Addr} {sl__law_take : Array (Option Value)} {oc__law_take kV__law_take dc__law_take pm__law_take cd__law_take ct__law_take : Value}
    {f__law_same : Addr} {od__law_same an__law_same : Option Addr} {sl__law_same : Array (Option Value)} {oc__law_same kV__law_same dc__law_same pm__law_same cd__law_same ct__law_same : Value}
    {f__law_asks : Addr} {od__law_asks an__law_asks : Option Addr} {sl__law_asks : Array (Option Value)} {oc__law_asks kV__law_asks dc__law_asks pm__law_asks cd__law_asks ct__law_asks : Value}
    {f__law_place : Addr} {od__law_place an__law_place : Option Addr} {sl__law_place : Array (Option Value)} {oc__law_place kV__law_place dc__law_place pm__law_place cd__law_place ct__law_place : Value}
    {f__law_word : Addr} {od__law_word an__law_word : Option Addr} {sl__law_word : Array (Option Value)} {oc__law_word kV__law_word dc__law_word pm__law_word cd__law_word ct__law_word : Value}
    {f__law_refusal : Addr} {od__law_refusal an__law_refusal : Option Addr} {sl__law_refusal : Array (Option Value)} {oc__law_refusal kV__law_refusal dc__law_refusal pm__law_refusal cd__law_refusal ct__law_refusal : Value}
    {f__law_told : Addr} {od__law_told an__law_told : Option Addr} {sl__law_told : Array (Option Value)} {oc__law_told kV__law_told dc__law_told pm__law_told cd__law_told ct__law_told : Value}
    {f_law : Addr} {od_law an_law : Option Addr} {sl_law : Array (Option Value)} {oc_law kV_law dc_law pm_law cd_law ct_law : Value}
    {q_LEVELS : Addr} {oq_LEVELS : Option Addr} {nq_LEVELS : Nat} {slq_LEVELS : Array (Option Value)} {t_LEVELS_0 : Tok} {t_LEVELS_1 : Tok} {t_LEVELS_2 : Tok} {t_LEVELS_3 : Tok}
    {c_BadLevel : Addr}
    {c_WebError : Addr}
    {c_BadText : Addr}
    {c_Refused : Addr}
    {c_UnknownMark : Addr}
    {c_BadShape : Addr}
    {c_NoThing : Addr}
    {c_BadStep : Addr}
    {c_TooLarge : Addr}
    {nm_BadLevel q_BadLevel : Str} {N_BadLevel : Addr} {bs_BadLevel : List Value} {sn_BadLevel : List Str} {sub_BadLevel : List Value} {ab_BadLevel : Bool} {col_BadLevel : Option Bool} {dd_BadLevel : Option Addr} {m0_BadLevel m1_BadLevel m2_BadLevel m3_BadLevel m5_BadLevel : Option Value}
    {f_BadLevel cda_BadLevel cc_BadLevel : Addr} {od_BadLevel an_BadLevel cld_BadLevel cdd_BadLevel : Option Addr} {osl_BadLevel csl_BadLevel ccs_BadLevel : Array (Option Value)} {oc_BadLevel kV_BadLevel dc_BadLevel pm_BadLevel ct_BadLevel cl_BadLevel ccl_BadLevel : Value} {vs_BadLevel : Array Value} {file_BadLevel : Str} {tf_BadLevel : Tok}
    (a_rank : PySem.W.nsIn K mainGlobals "rank" = some (some (.ref f_rank)))
    (l_rank : K.lookup f_rank = some ⟨oc_rank, od_rank, .func (PySem.W.fnOf "rank" "rank" (defArgs S_rank) (defBody S_rank) (defScope S_rank) .none kV_rank dc_rank pm_rank an_rank cd_rank ct_rank), sl_rank⟩)
    (c_rank : PySem.W.codeIn K cd_rank "rank" = true)
    (k_rank : PySem.W.keepIn K (.ref f_rank) = true)
    (a_needed : PySem.W.nsIn K mainGlobals "needed" = some (some (.ref f_needed)))
    (l_needed : K.lookup f_needed = some ⟨oc_needed, od_needed, .func (PySem.W.fnOf "needed" "needed" (defArgs S_needed) (defBody S_needed) (defScope S_needed) .none kV_needed dc_needed pm_needed an_needed cd_needed ct_needed), sl_needed⟩)
    (c_needed : PySem.W.codeIn K cd_needed "needed" = true)
    (k_needed : PySem.W.keepIn K (.ref f_needed) = true)
    (a__law_draws : PySem.W.nsIn K mainGlobals "_law_draws" = some (some (.ref f__law_draws)))
    (l__law_draws : K.lookup f__law_draws = some ⟨oc__law_draws, od__law_draws, .func (PySem.W.fnOf "_law_draws" "_law_draws" (defArgs S__law_draws) (defBody S__law_draws) (defScope S__law_draws) .none kV__law_draws dc__law_draws pm__law_draws an__law_draws cd__law_draws ct__law_draws), sl__law_draws⟩)
    (c__law_draws : PySem.W.codeIn K cd__law_draws "_law_draws" = true)
    (k__law_draws : PySem.W.keepIn K (.ref f__law_draws) = true)
    (a__law_take : PySem.W.nsIn K mainGlobals "_law_take" = some (some (.ref f__law_take)))
    (l__law_take : K.lookup f__law_take = some ⟨oc__law_take, od__law_take, .func (PySem.W.fnOf "_law_take" "_law_take" (defArgs S__law_take) (defBody S__law_take) (defScope S__law_take) .none kV__law_take dc__law_take pm__law_take an__law_take cd__law_take ct__law_take), sl__law_take⟩)
    (c__law_take : PySem.W.codeIn K cd__law_take "_law_take" = true)
    (k__law_take : PySem.W.keepIn K (.ref f__law_take) = true)
    (a__law_same : PySem.W.nsIn K mainGlobals "_law_same" = some (some (.ref f__law_same)))
    (l__law_same : K.lookup f__law_same = some ⟨oc__law_same, od__law_same, .func (PySem.W.fnOf "_law_same" "_law_same" (defArgs S__law_same) (defBody S__law_same) (defScope S__law_same) .none kV__law_same dc__law_same pm__law_same an__law_same cd__law_same ct__law_same), sl__law_same⟩)
    (c__law_same : PySem.W.codeIn K cd__law_same "_law_same" = true)
    (k__law_same : PySem.W.keepIn K (.ref f__law_same) = true)
    (a__law_asks : PySem.W.nsIn K mainGlobals "_law_asks" = some (some (.ref f__law_asks)))
    (l__law_asks : K.lookup f__law_asks = some ⟨oc__law_asks, od__law_asks, .func (PySem.W.fnOf "_law_asks" "_law_asks" (defArgs S__law_asks) (defBody S__law_asks) (defScope S__law_asks) .none kV__law_asks dc__law_asks pm__law_asks an__law_asks cd__law_asks ct__law_asks), sl__law_asks⟩)
    (c__law_asks : PySem.W.codeIn K cd__law_asks "_law_asks" = true)
    (k__law_asks : PySem.W.keepIn K (.ref f__law_asks) = true)
    (a__law_place : PySem.W.nsIn K mainGlobals "_law_place" = some (some (.ref f__law_place)))
    (l__law_place : K.lookup f__law_place = some ⟨oc__law_place, od__law_place, .func (PySem.W.fnOf "_law_place" "_law_place" (defArgs S__law_place) (defBody S__law_place) (defScope S__law_place) .none kV__law_place dc__law_place pm__law_place an__law_place cd__law_place ct__law_place), sl__law_place⟩)
    (c__law_place : PySem.W.codeIn K cd__law_place "_law_place" = true)
    (k__law_place : PySem.W.keepIn K (.ref f__law_place) = true)
    (a__law_word : PySem.W.nsIn K mainGlobals "_law_word" = some (some (.ref f__law_word)))
    (l__law_word : K.lookup f__law_word = some ⟨oc__law_word, od__law_word, .func (PySem.W.fnOf "_law_word" "_law_word" (defArgs S__law_word) (defBody S__law_word) (defScope S__law_word) .none kV__law_word dc__law_word pm__law_word an__law_word cd__law_word ct__law_word), sl__law_word⟩)
    (c__law_word : PySem.W.codeIn K cd__law_word "_law_word" = true)
    (k__law_word : PySem.W.keepIn K (.ref f__law_word) = true)
    (a__law_refusal : PySem.W.nsIn K mainGlobals "_law_refusal" = some (some (.ref f__law_refusal)))
    (l__law_refusal : K.lookup f__law_refusal = some ⟨oc__law_refusal, od__law_refusal, .func (PySem.W.fnOf "_law_refusal" "_law_refusal" (defArgs S__law_refusal) (defBody S__law_refusal) (defScope S__law_refusal) .none kV__law_refusal dc__law_refusal pm__law_refusal an__law_refusal cd__law_refusal ct__law_refusal), sl__law_refusal⟩)
    (c__law_refusal : PySem.W.codeIn K cd__law_refusal "_law_refusal" = true)
    (k__law_refusal : PySem.W.keepIn K (.ref f__law_refusal) = true)
    (a__law_told : PySem.W.nsIn K mainGlobals "_law_told" = some (some (.ref f__law_told)))
    (l__law_told : K.lookup f__law_told = some ⟨oc__law_told, od__law_told, .func (PySem.W.fnOf "_law_told" "_law_told" (defArgs S__law_told) (defBody S__law_told) (defScope S__law_told) .none kV__law_told dc__law_told pm__law_told an__law_told cd__law_told ct__law_told), sl__law_told⟩)
    (c__law_told : PySem.W.codeIn K cd__law_told "_law_told" = true)
    (k__law_told : PySem.W.keepIn K (.ref f__law_told) = true)
    (a_law : PySem.W.nsIn K mainGlobals "law" = some (some (.ref f_law)))
    (l_law : K.lookup f_law = some ⟨oc_law, od_law, .func (PySem.W.fnOf "law" "law" (defArgs S_law) (defBody S_law) (defScope S_law) .none kV_law dc_law pm_law an_law cd_law ct_law), sl_law⟩)
    (c_law : PySem.W.codeIn K cd_law "law" = true)
    (k_law : PySem.W.keepIn K (.ref f_law) = true)
    (z_ValueError : PySem.W.nsIn K mainGlobals "ValueError" = some none)
    (z_bool : PySem.W.nsIn K mainGlobals "bool" = some none)
    (z_enumerate : PySem.W.nsIn K mainGlobals "enumerate" = some none)
    (z_int : PySem.W.nsIn K mainGlobals "int" = some none)
    (z_isinstance : PySem.W.nsIn K mainGlobals "isinstance" = some none)
    (z_len : PySem.W.nsIn K mainGlobals "len" = some none)
    (z_list : PySem.W.nsIn K mainGlobals "list" = some none)
    (z_max : PySem.W.nsIn K mainGlobals "max" = some none)
    (z_range : PySem.W.nsIn K mainGlobals "range" = some none)
    (z_str : PySem.W.nsIn K mainGlobals "str" = some none)
    (z_tuple : PySem.W.nsIn K mainGlobals "tuple" = some none)
    (aq_LEVELS : PySem.W.nsIn K mainGlobals "LEVELS" = some (some (.ref q_LEVELS)))
    (lq_LEVELS : K.lookup q_LEVELS = some ⟨.type "tuple", oq_LEVELS, .seq #[.str "none" t_LEVELS_0, .str "one" t_LEVELS_1, .str "most" t_LEVELS_2, .str "all" t_LEVELS_3] nq_LEVELS, slq_LEVELS⟩)
    (gc_BadLevel : PySem.W.nsIn K mainGlobals "BadLevel" = some (some (.ref c_BadLevel)))
    (gc_WebError : PySem.W.nsIn K mainGlobals "WebError" = some (some (.ref c_WebError)))
    (gc_BadText : PySem.W.nsIn K mainGlobals "BadText" = some (some (.ref c_BadText)))
    (gc_Refused : PySem.W.nsIn K mainGlobals "Refused" = some (some (.ref c_Refused)))
    (gc_UnknownMark : PySem.W.nsIn K mainGlobals "UnknownMark" = some (some (.ref c_UnknownMark)))
    (gc_BadShape : PySem.W.nsIn K mainGlobals "BadShape" = some (some (.ref c_BadShape)))
    (gc_NoThing : PySem.W.nsIn K mainGlobals "NoThing" = some (some (.ref c_NoThing)))
    (gc_BadStep : PySem.W.nsIn K mainGlobals "BadStep" = some (some (.ref c_BadStep)))
    (gc_TooLarge : PySem.W.nsIn K mainGlobals "TooLarge" = some (some (.ref c_TooLarge)))
    (wb_WebError : PySem.W.subIn K (.ref c_WebError) (.type "BaseException") = some true)
    (wd_WebError : PySem.W.hasDictIn K c_WebError = true)
    (wt_WebError : PySem.W.typeIn K (.ref c_WebError) = some (.type "type"))
    (xz_super : PySem.W.nsIn K mainGlobals "super" = some none)
    (x_opq : PySem.W.nsIn K cStatics "thirdparty.any" = some none)
    (x_hn : PySem.W.specialIn K (.builtin "object.__class__") "__get__" = some (some (.builtin "getset_descriptor.__get__")))
    (x_ht : PySem.W.takesIn K (.builtin "object.__class__") = some true)
    (xl_BadLevel : K.lookup c_BadLevel = some (excClassObj nm_BadLevel q_BadLevel c_BadLevel N_BadLevel bs_BadLevel [.ref c_WebError, .type "ValueError", .type "Exception", .type "BaseException", .type "object"] true sn_BadLevel sub_BadLevel ab_BadLevel col_BadLevel dd_BadLevel m0_BadLevel m1_BadLevel m2_BadLevel m3_BadLevel m5_BadLevel "ValueError.__new__"))
    (xsa_BadLevel : PySem.W.findIn K (.ref c_BadLevel) "__setattr__" = some (some (.builtin "object.__setattr__")))
    (xga_BadLevel : PySem.W.findIn K (.ref c_BadLevel) "__getattribute__" = some (some (.builtin "BaseException.__getattribute__")))
    (xgg_BadLevel : PySem.W.findIn K (.ref c_BadLevel) "__getattr__" = some none)
    (xno_BadLevel : PySem.W.findIn K (.ref c_BadLevel) "level" = some none)
    (xk_BadLevel : PySem.W.keepIn K (.ref c_BadLevel) = true)
    (xb_BadLevel : PySem.W.subIn K (.ref c_BadLevel) (.type "BaseException") = some true)
    (xt_BadLevel : PySem.W.typeIn K (.ref c_BadLevel) = some (.type "type"))
    (xd_BadLevel : PySem.W.hasDictIn K c_BadLevel = true)
    (xi_BadLevel : PySem.W.findIn K (.ref c_BadLevel) "__init__" = some (some (.ref f_BadLevel)))
    (xf_BadLevel : PySem.W.typeIn K (.ref f_BadLevel) = some (.type "function"))
    (xfl_BadLevel : K.lookup f_BadLevel = some ⟨oc_BadLevel, od_BadLevel, .func (PySem.W.ksFn "__init__" "BadLevel.__init__" (defArgs S_BadLevel_init) (defBody S_BadLevel_init) (defScope S_BadLevel_init) .none kV_BadLevel dc_BadLevel pm_BadLevel an_BadLevel (.ref cda_BadLevel) ct_BadLevel cc_BadLevel), osl_BadLevel⟩)
    (xci_BadLevel : PySem.W.codeIn K (.ref cda_BadLevel) "BadLevel.__init__" = true)
    (xcc_BadLevel : K.lookup cc_BadLevel = some ⟨cl_BadLevel, cld_BadLevel, .cell (some (.ref c_BadLevel)), csl_BadLevel⟩)
    (xcd_BadLevel : K.lookup cda_BadLevel = some ⟨ccl_BadLevel, cdd_BadLevel, .fields vs_BadLevel, ccs_BadLevel⟩)
    (xvs_BadLevel : vs_BadLevel[2]? = some (.str file_BadLevel tf_BadLevel))
    (xfi_BadLevel : ((PP.main.file : Str) == file_BadLevel) = true)
    (xnx_BadLevel : PySem.W.ks_superIn K c_BadLevel c_BadLevel "__init__" = some (some (.builtin "ValueError.__init__")))
    (xsl_BadLevel : PySem.W.mroIn K c_BadLevel (.ref c_BadLevel) = some true)
    (xsu_BadLevel : PySem.W.subIn K (.ref c_BadLevel) (.type "ValueError") = some true)
    (xha_BadLevel : PySem.W.findIn K (.ref c_BadLevel) "__class__" = some (some (.builtin "object.__class__")))
    (xhm_BadLevel : PySem.W.mroIn K c_BadLevel (.type "object") = some true)
    (ws_BadLevel_WebError : PySem.W.subIn K (.ref c_BadLevel) (.ref c_WebError) = some true)
    (kt_BadLevel_BadText : PySem.W.kitOne K (.ref c_BadLevel) (.ref c_BadText) = some false)
    (kt_BadLevel_Refused : PySem.W.kitOne K (.ref c_BadLevel) (.ref c_Refused) = some false)
    (kt_BadLevel_UnknownMark : PySem.W.kitOne K (.ref c_BadLevel) (.ref c_UnknownMark) = some false)
    (kt_BadLevel_BadLevel : PySem.W.kitOne K (.ref c_BadLevel) (.ref c_BadLevel) = some true)
    (kt_BadLevel_ValueError : PySem.W.kitOne K (.ref c_BadLevel) (.type "ValueError") = some true)
    (kt_BadLevel_BadShape : PySem.W.kitOne K (.ref c_BadLevel) (.ref c_BadShape) = some false)
    (kt_BadLevel_NoThing : PySem.W.kitOne K (.ref c_BadLevel) (.ref c_NoThing) = some false)
    (kt_BadLevel_BadStep : PySem.W.kitOne K (.ref c_BadLevel) (.ref c_BadStep) = some false)
    (kt_BadLevel_TooLarge : PySem.W.kitOne K (.ref c_BadLevel) (.ref c_TooLarge) = some false)
    : ∃ fd : FuncData, (∀ (s : Shared) (v : Value), BindsTo s fd ⟨[v], []⟩ [("_law_script", v)]) ∧ ∀ base : Heap, K.In base → base.Ns mainGlobals mg → FnOk PP w K mg base CX0 12 fa fd ["_law_script"] (spLaw K) := by
  have e := hfa.symm.trans (PySem.W.mg_of X G a_law)
  cases e
  have XT_BadLevel : PySem.WX.ExcTxt PP K mg "BadLevel" "level" c_BadLevel := { gC := PySem.W.mg_of X G gc_BadLevel, cls := ⟨nm_BadLevel, q_BadLevel, N_BadLevel, bs_BadLevel, _, sn_BadLevel, sub_BadLevel, ab_BadLevel, col_BadLevel, dd_BadLevel, m0_BadLevel, m1_BadLevel, m2_BadLevel, m3_BadLevel, m5_BadLevel, xl_BadLevel, rfl⟩, sa := xsa_BadLevel, ga := xga_BadLevel, gg := xgg_BadLevel, noN := xno_BadLevel, kC := xk_BadLevel, exC := xb_BadLevel, tyC := xt_BadLevel, hdC := xd_BadLevel, fI := f_BadLevel, qual := "BadLevel.__init__", tx := _, S := S_BadLevel_init, oc := oc_BadLevel, od := od_BadLevel, kV := kV_BadLevel, doc := dc_BadLevel, pm := pm_BadLevel, an := an_BadLevel, cda := cda_BadLevel, ct := ct_BadLevel, osl := osl_BadLevel, cc := cc_BadLevel, cl := cl_BadLevel, cld := cld_BadLevel, csl := csl_BadLevel, ccl := ccl_BadLevel, cdd := cdd_BadLevel, vs := vs_BadLevel, ccs := ccs_BadLevel, file := file_BadLevel, tf := tf_BadLevel, q1 := _, q2 := _, q3 := _, q4 := _, q5 := _, q6 := _, q7 := _, q8 := _, q9 := _, q10 := _, j := _, pl := _, iC := xi_BadLevel, tI := xf_BadLevel, lI := xfl_BadLevel, cI := xci_BadLevel, lcc := xcc_BadLevel, lcd := xcd_BadLevel, hvs := xvs_BadLevel, hfile := xfi_BadLevel, hpar := ⟨_, rfl, rfl⟩, hbody := rfl, hbind := fun _ _ => rfl, hev := fun _ _ => rfl, hk := rfl, hco := rfl, hgen := rfl, hks := rfl, hkc := rfl, hself := rfl, hfl := rfl, hcell := by decide +kernel, nf := by decide +kernel, top := by decide +kernel, sup := PySem.W.mg_none_of X G xz_super, opq := x_opq, nxt := xnx_BadLevel, slf := xsl_BadLevel, sub := xsu_BadLevel }
  let T : Txt K mg := {
    a_rank := f_rank,
    fd_rank := _,
    F_rank := fun_mk (st := S_rank) l_rank c_rank k_rank,
    b_rank := (fun_mk (st := S_rank) l_rank c_rank k_rank).binds (ps := ["level"]) fun _ _ _ _ _ _ us hl => match us, hl with | [_], _ => rfl,
    g_rank := PySem.W.mg_of X G a_rank,
    a_needed := f_needed,
    fd_needed := _,
    F_needed := fun_mk (st := S_needed) l_needed c_needed k_needed,
    b_needed := (fun_mk (st := S_needed) l_needed c_needed k_needed).binds (ps := ["level", "parents"]) fun _ _ _ _ _ _ us hl => match us, hl with | [_, _], _ => rfl,
    g_needed := PySem.W.mg_of X G a_needed,
    a__law_draws := f__law_draws,
    fd__law_draws := _,
    F__law_draws := fun_mk (st := S__law_draws) l__law_draws c__law_draws k__law_draws,
    b__law_draws := (fun_mk (st := S__law_draws) l__law_draws c__law_draws k__law_draws).binds (ps := ["_law_script"]) fun _ _ _ _ _ _ us hl => match us, hl with | [_], _ => rfl,
    g__law_draws := PySem.W.mg_of X G a__law_draws,
    a__law_take := f__law_take,
    fd__law_take := _,
    F__law_take := fun_mk (st := S__law_take) l__law_take c__law_take k__law_take,
    b__law_take := (fun_mk (st := S__law_take) l__law_take c__law_take k__law_take).binds (ps := ["_law_draws_here", "_law_at", "_law_size"]) fun _ _ _ _ _ _ us hl => match us, hl with | [_, _, _], _ => rfl,
    g__law_take := PySem.W.mg_of X G a__law_take,
    a__law_same := f__law_same,
    fd__law_same := _,
    F__law_same := fun_mk (st := S__law_same) l__law_same c__law_same k__law_same,
    b__law_same := (fun_mk (st := S__law_same) l__law_same c__law_same k__law_same).binds (ps := ["_law_actual", "_law_expected"]) fun _ _ _ _ _ _ us hl => match us, hl with | [_, _], _ => rfl,
    g__law_same := PySem.W.mg_of X G a__law_same,
    a__law_asks := f__law_asks,
    fd__law_asks := _,
    F__law_asks := fun_mk (st := S__law_asks) l__law_asks c__law_asks k__law_asks,
    b__law_asks := (fun_mk (st := S__law_asks) l__law_asks c__law_asks k__law_asks).binds (ps := ["_law_place_here", "_law_parents"]) fun _ _ _ _ _ _ us hl => match us, hl with | [_, _], _ => rfl,
    g__law_asks := PySem.W.mg_of X G a__law_asks,
    a__law_place := f__law_place,
    fd__law_place := _,
    F__law_place := fun_mk (st := S__law_place) l__law_place c__law_place k__law_place,
    b__law_place := (fun_mk (st := S__law_place) l__law_place c__law_place k__law_place).binds (ps := ["_law_word_here"]) fun _ _ _ _ _ _ us hl => match us, hl with | [_], _ => rfl,
    g__law_place := PySem.W.mg_of X G a__law_place,
    a__law_word := f__law_word,
    fd__law_word := _,
    F__law_word := fun_mk (st := S__law_word) l__law_word c__law_word k__law_word,
    b__law_word := (fun_mk (st := S__law_word) l__law_word c__law_word k__law_word).binds (ps := ["_law_draws_here", "_law_at"]) fun _ _ _ _ _ _ us hl => match us, hl with | [_, _], _ => rfl,
    g__law_word := PySem.W.mg_of X G a__law_word,
    a__law_refusal := f__law_refusal,
    fd__law_refusal := _,
    F__law_refusal := fun_mk (st := S__law_refusal) l__law_refusal c__law_refusal k__law_refusal,
    b__law_refusal := (fun_mk (st := S__law_refusal) l__law_refusal c__law_refusal k__law_refusal).binds (ps := ["_law_error"]) fun _ _ _ _ _ _ us hl => match us, hl with | [_], _ => rfl,
    g__law_refusal := PySem.W.mg_of X G a__law_refusal,
    a__law_told := f__law_told,
    fd__law_told := _,
    F__law_told := fun_mk (st := S__law_told) l__law_told c__law_told k__law_told,
    b__law_told := (fun_mk (st := S__law_told) l__law_told c__law_told k__law_told).binds (ps := ["_law_word_here", "_law_parents"]) fun _ _ _ _ _ _ us hl => match us, hl with | [_, _], _ => rfl,
    g__law_told := PySem.W.mg_of X G a__law_told,
    a_law := fa,
    fd_law := _,
    F_law := fun_mk (st := S_law) l_law c_law k_law,
    b_law := (fun_mk (st := S_law) l_law c_law k_law).binds (ps := ["_law_script"]) fun _ _ _ _ _ _ us hl => match us, hl with | [_], _ => rfl,
    g_law := PySem.W.mg_of X G a_law,
    n_ValueError := PySem.W.mg_none_of X G z_ValueError,
    n_bool := PySem.W.mg_none_of X G z_bool,
    n_enumerate := PySem.W.mg_none_of X G z_enumerate,
    n_int := PySem.W.mg_none_of X G z_int,
    n_isinstance := PySem.W.mg_none_of X G z_isinstance,
    n_len := PySem.W.mg_none_of X G z_len,
    n_list := PySem.W.mg_none_of X G z_list,
    n_max := PySem.W.mg_none_of X G z_max,
    n_range := PySem.W.mg_none_of X G z_range,
    n_str := PySem.W.mg_none_of X G z_str,
    n_tuple := PySem.W.mg_none_of X G z_tuple,
    k_LEVELS := q_LEVELS,
    g_LEVELS := PySem.W.mg_of X G aq_LEVELS,
    q_LEVELS := fun H => .inr ⟨_, _, _, lq_LEVELS, rfl, rfl, by show 4 ≤ sizeLine; decide, (.cons ⟨_, rfl⟩ (.cons ⟨_, rfl⟩ (.cons ⟨_, rfl⟩ (.cons ⟨_, rfl⟩ .nil))))⟩,
    c_BadLevel := c_BadLevel,
    g_BadLevel := PySem.W.mg_of X G gc_BadLevel,
    c_WebError := c_WebError,
    g_WebError := PySem.W.mg_of X G gc_WebError,
    c_BadText := c_BadText,
    g_BadText := PySem.W.mg_of X G gc_BadText,
    c_Refused := c_Refused,
    g_Refused := PySem.W.mg_of X G gc_Refused,
    c_UnknownMark := c_UnknownMark,
    g_UnknownMark := PySem.W.mg_of X G gc_UnknownMark,
    c_BadShape := c_BadShape,
    g_BadShape := PySem.W.mg_of X G gc_BadShape,
    c_NoThing := c_NoThing,
    g_NoThing := PySem.W.mg_of X G gc_NoThing,
    c_BadStep := c_BadStep,
    g_BadStep := PySem.W.mg_of X G gc_BadStep,
    c_TooLarge := c_TooLarge,
    g_TooLarge := PySem.W.mg_of X G gc_TooLarge,
    em_BadLevel_WebError := PySem.W.exm_ref wb_WebError wd_WebError wt_WebError ws_BadLevel_WebError,
    kt_BadLevel_BadText := kt_BadLevel_BadText,
    kt_BadLevel_Refused := kt_BadLevel_Refused,
    kt_BadLevel_UnknownMark := kt_BadLevel_UnknownMark,
    kt_BadLevel_BadLevel := kt_BadLevel_BadLevel,
    kt_BadLevel_ValueError := kt_BadLevel_ValueError,
    kt_BadLevel_BadShape := kt_BadLevel_BadShape,
    kt_BadLevel_NoThing := kt_BadLevel_NoThing,
    kt_BadLevel_BadStep := kt_BadLevel_BadStep,
    kt_BadLevel_TooLarge := kt_BadLevel_TooLarge,
    x_BadLevel := XT_BadLevel,
    xc_BadLevel := ⟨xga_BadLevel, xgg_BadLevel, xb_BadLevel, xd_BadLevel, xha_BadLevel, x_hn, x_ht, xhm_BadLevel⟩,
    xn_BadLevel := xno_BadLevel }
  exact ⟨T.fd_law, fun s v => .of_eq rfl, fun base _ _ => ok_law T⟩
end My
open PySem PySem.W PyProof.Rows in
set_option maxRecDepth 100000 in
set_option maxHeartbeats 0 in
theorem PySem.Challenge.cw_weblocks_k00_levels_holds : PySem.Challenge.rw_weblocks_k00_levels.Holds := by
  w_on; o_law; k_head; (case hw => w_witness2)
  k_fill
  refine L2.walk_of (l := PySem.Challenge.rw_weblocks_k00_levels) (n := 63) (k := 12) (x := "_law_script") (CX := fun _ => L2.CX0) (sp := fun w => My.spLaw _) rfl (by decide) rfl ⟨rfl, by decide, by decide⟩ (fun w h Y => PySem.W.kIn_of Y) ?F (fun _ _ a ns hl _ hS => ⟨a, ns, rfl, hS, hl, fun _ => rfl⟩) (fun _ _ _ _ _ h => h)
  case F =>
    intro w mg fa h KX G hmg
    refine' My.all_mk KX G hmg ?a_rank ?l_rank ?c_rank ?k_rank ?a_needed ?l_needed ?c_needed ?k_needed ?a__law_draws ?l__law_draws ?c__law_draws ?k__law_draws ?a__law_take ?l__law_take ?c__law_take ?k__law_take ?a__law_same ?l__law_same ?c__law_same ?k__law_same ?a__law_asks ?l__law_asks ?c__law_asks ?k__law_asks ?a__law_place ?l__law_place ?c__law_place ?k__law_place ?a__law_word ?l__law_word ?c__law_word ?k__law_word ?a__law_refusal ?l__law_refusal ?c__law_refusal ?k__law_refusal ?a__law_told ?l__law_told ?c__law_told ?k__law_told ?a_law ?l_law ?c_law ?k_law ?z_ValueError ?z_bool ?z_enumerate ?z_int ?z_isinstance ?z_len ?z_list ?z_max ?z_range ?z_str ?z_tuple ?aq_LEVELS ?lq_LEVELS ?gc_BadLevel ?gc_WebError ?gc_BadText ?gc_Refused ?gc_UnknownMark ?gc_BadShape ?gc_NoThing ?gc_BadStep ?gc_TooLarge ?wb_WebError ?wd_WebError ?wt_WebError ?xz_super ?x_opq ?x_hn ?x_ht ?xl_BadLevel ?xsa_BadLevel ?xga_BadLevel ?xgg_BadLevel ?xno_BadLevel ?xk_BadLevel ?xb_BadLevel ?xt_BadLevel ?xd_BadLevel ?xi_BadLevel ?xf_BadLevel ?xfl_BadLevel ?xci_BadLevel ?xcc_BadLevel ?xcd_BadLevel ?xvs_BadLevel ?xfi_BadLevel ?xnx_BadLevel ?xsl_BadLevel ?xsu_BadLevel ?xha_BadLevel ?xhm_BadLevel ?ws_BadLevel_WebError ?kt_BadLevel_BadText ?kt_BadLevel_Refused ?kt_BadLevel_UnknownMark ?kt_BadLevel_BadLevel ?kt_BadLevel_ValueError ?kt_BadLevel_BadShape ?kt_BadLevel_NoThing ?kt_BadLevel_BadStep ?kt_BadLevel_TooLarge
    (case a_rank => k_is)
    (case l_rank => k_is)
    (case c_rank => k_is)
    (case k_rank => k_is)
    (case a_needed => k_is)
    (case l_needed => k_is)
    (case c_needed => k_is)
    (case k_needed => k_is)
    (case a__law_draws => k_is)
    (case l__law_draws => k_is)
    (case c__law_draws => k_is)
    (case k__law_draws => k_is)
    (case a__law_take => k_is)
    (case l__law_take => k_is)
    (case c__law_take => k_is)
    (case k__law_take => k_is)
    (case a__law_same => k_is)
    (case l__law_same => k_is)
    (case c__law_same => k_is)
    (case k__law_same => k_is)
    (case a__law_asks => k_is)
    (case l__law_asks => k_is)
    (case c__law_asks => k_is)
    (case k__law_asks => k_is)
    (case a__law_place => k_is)
    (case l__law_place => k_is)
    (case c__law_place => k_is)
    (case k__law_place => k_is)
    (case a__law_word => k_is)
    (case l__law_word => k_is)
    (case c__law_word => k_is)
    (case k__law_word => k_is)
    (case a__law_refusal => k_is)
    (case l__law_refusal => k_is)
    (case c__law_refusal => k_is)
    (case k__law_refusal => k_is)
    (case a__law_told => k_is)
    (case l__law_told => k_is)
    (case c__law_told => k_is)
    (case k__law_told => k_is)
    (case a_law => k_is)
    (case l_law => k_is)
    (case c_law => k_is)
    (case k_law => k_is)
    (case z_ValueError => k_is)
    (case z_bool => k_is)
    (case z_enumerate => k_is)
    (case z_int => k_is)
    (case z_isinstance => k_is)
    (case z_len => k_is)
    (case z_list => k_is)
    (case z_max => k_is)
    (case z_range => k_is)
    (case z_str => k_is)
    (case z_tuple => k_is)
    (case aq_LEVELS => k_is)
    (case lq_LEVELS => k_is)
    (case gc_BadLevel => k_is)
    (case gc_WebError => k_is)
    (case gc_BadText => k_is)
    (case gc_Refused => k_is)
    (case gc_UnknownMark => k_is)
    (case gc_BadShape => k_is)
    (case gc_NoThing => k_is)
    (case gc_BadStep => k_is)
    (case gc_TooLarge => k_is)
    (case wb_WebError => k_is)
    (case wd_WebError => k_is)
    (case wt_WebError => k_is)
    (case xz_super => k_is)
    (case x_opq => k_is)
    (case x_hn => k_is)
    (case x_ht => k_is)
    (case xl_BadLevel => k_is)
    (case xsa_BadLevel => k_is)
    (case xga_BadLevel => k_is)
    (case xgg_BadLevel => k_is)
    (case xno_BadLevel => k_is)
    (case xk_BadLevel => k_is)
    (case xb_BadLevel => k_is)
    (case xt_BadLevel => k_is)
    (case xd_BadLevel => k_is)
    (case xi_BadLevel => k_is)
    (case xf_BadLevel => k_is)
    (case xfl_BadLevel => k_is)
    (case xci_BadLevel => k_is)
    (case xcc_BadLevel => k_is)
    (case xcd_BadLevel => k_is)
    (case xvs_BadLevel => rfl)
    (case xfi_BadLevel => first | rfl | decide +kernel)
    (case xnx_BadLevel => ks_is)
    (case xsl_BadLevel => k_is)
    (case xsu_BadLevel => k_is)
    (case xha_BadLevel => k_is)
    (case xhm_BadLevel => k_is)
    (case ws_BadLevel_WebError => k_is)
    (case kt_BadLevel_BadText => kit_is)
    (case kt_BadLevel_Refused => kit_is)
    (case kt_BadLevel_UnknownMark => kit_is)
    (case kt_BadLevel_BadLevel => kit_is)
    (case kt_BadLevel_ValueError => kit_is)
    (case kt_BadLevel_BadShape => kit_is)
    (case kt_BadLevel_NoThing => kit_is)
    (case kt_BadLevel_BadStep => kit_is)
    (case kt_BadLevel_TooLarge => kit_is)
#print axioms PySem.Challenge.cw_weblocks_k00_levels_holds
