import PyProof.Rows.All
import Wide.All
import OpenK.AllK
import Wide.FinOn
import HandS.ForMost
import KE.GoesMore
import HandS.Codes
import HandS.IsInst
import HandS.Defaults
import HandS.MakeKw
import HandS.MakeKwOnly
import HandS.SlotsOwn
import HandS.ForExc
import HandS.ExcIs
import HandS.ExcField
import HandS.CallSlots
import KE.KExcIs
import KE.KExcSuper
import KE.KExcMake
import KE.RegKSuper
import HandS.ClsMeth
import KE.KCallOwn
import HandS.IterVal
import KE.KOwnIter
import HandS.Star
import KE.KOpsOwn
import HandS.Property
import KE.KStar
import PySem.Challenge.RW_weblocks_k16_program_parts
set_option Elab.async false
set_option linter.all false
set_option maxRecDepth 100000
set_option maxHeartbeats 4000000
local macro_rules | `(tactic| walk_at "sd") => `(tactic| first | assumption | omega | decide | rfl | (refine And.intro ?_ ?_ <;> walk_at "sd") | (show _ < PySem.sizeLine; exact Nat.lt_of_le_of_lt (by omega : _ ≤ 100000) (by decide)) | (show _ ≤ PySem.sizeLine; exact Nat.le_trans (by omega : _ ≤ 100000) (by decide)))
local macro_rules | `(tactic| walk_at "hl") => `(tactic| first | assumption | exact L2.upd_same | (refine (L2.upd_ne ?_).trans ?_; (walk_at "ne"); (walk_at "hl")))
local macro_rules | `(tactic| walk_at "ne") => `(tactic| first | assumption | (apply Ne.symm; assumption) | (refine L2.ne_of_none ?_ (by assumption); walk_at "hl") | (apply Ne.symm; refine L2.ne_of_none ?_ (by assumption); walk_at "hl") | (refine L2.ne_of (o := L2.HO.lst _) (u := L2.HO.tup _) ?_ ?_ (by intro z; cases z) <;> walk_at "hl"))
local macro_rules | `(tactic| walk_at "sq") => `(tactic| first | assumption | exact .inl (.inl (by walk_at "hl")) | exact .inl (.inl (.inl (by walk_at "hl"))) | exact .inr (.inl (.inl (by walk_at "hl"))) | exact .inl (by assumption) | exact .inr (by assumption))
local macro_rules | `(tactic| walk_at "at") => `(tactic| first | assumption | exact rfl | exact L2.atI_nat (j := 0) rfl | exact L2.atI_nat (j := 1) rfl | exact L2.atI_nat (j := 2) rfl | exact L2.atI_nat (j := 3) rfl | exact L2.atI_nat rfl | exact L2.atI_nat (by assumption))
local macro_rules | `(tactic| walk_at "r1") => `(tactic| first
  | (refine ⟨_, rfl, ?_⟩)
  | (refine ⟨_, _, rfl, rfl, ?_⟩)
  | (refine ⟨_, _, _, _, rfl, rfl, (by walk_at "sq"), (by walk_at "at"), ?_⟩)
  | (refine ⟨_, _, rfl, (by walk_at "sq"), ?_⟩)
  | (refine ⟨.inl ⟨rfl, _, L2.SqL.of (by walk_at "hl")⟩, ?_⟩)
  | (refine ⟨_, _, _, rfl, rfl, (by walk_at "hl"), (by walk_at "sd"), ?_⟩)
  | (refine ⟨_, _, _, _, rfl, rfl, (by walk_at "hl"), rfl, ?_⟩)
  | (refine And.intro (by walk_at "sd") ?_)
  | (refine .inl ⟨_, rfl, ?_⟩))
local macro_rules | `(tactic| walk_at "rd") => `(tactic| repeat walk_at "r1")
/-! ### enumerate over a tuple -/
namespace PySem
open AutoSeq1 (wpAny_loadPart')
set_option maxHeartbeats 1000000 in
theorem meets_enumerate_newT (l : Addr) (items : Array Value) :
    Meets (Builtin.«enumerate.__new__» ⟨[.type "enumerate", .ref l], []⟩) (fun _ R s => s.heap.IsTuple l items ∧
      R (.ok (.ret (.ref (s.heap.push { cls := .type "tuple_iterator", data := .fields #[.ref l, .int 0 0] }).objs.size)))
        { s with heap := (s.heap.push { cls := .type "tuple_iterator", data := .fields #[.ref l, .int 0 0] }).push { cls := .type "enumerate", data := .fields #[.none, .bool false, .ref s.heap.objs.size, rawInt 0, .none, .none] } }) :=
  .of_wp fun prog w A R s h => by
    obtain ⟨hp, g, d, tk, os⟩ := s; obtain ⟨hL, h⟩ := h
    have hsub := sub_enumerate
    wp_walk using wpAny_pyIter_tuple hL
    refine wpAny_stack_any fun st => wpAny_pure ?_
    split
    · rename_i c _ _ _ _ _
      cases (c == Value.type "enumerate")
      · wp_walk using wpAny_pyIter_tuple hL
        exact ⟨_, rfl, h⟩
      · wp_walk using wpAny_pyIter_tuple hL
        exact ⟨_, rfl, h⟩
    · wp_walk using wpAny_pyIter_tuple hL
      exact ⟨_, rfl, h⟩
section
variable {prog : Program} {w : World} {A : Around} {E : Value → Shared → Prop} {s : Shared}
theorem call_enumerate_tup {l : Addr} {items : Array Value} {Q : Value → Shared → Prop} (hL : s.heap.IsTuple l items)
    (h : ∀ h', IsEnum h' (s.heap.objs.size + 1) s.heap.objs.size 0 .none → h'.IsTupleIter s.heap.objs.size l 0 → h'.objs.size = s.heap.objs.size + 2 →
      (∀ b o, s.heap.get? b = some o → h'.get? b = some o) → Q (.ref (s.heap.objs.size + 1)) { s with heap := h' }) :
    wpAny (model prog w) A (call (.type "enumerate") [.ref l]) Q E s := by
  refine callType_new F.called_enumerate (by decide) (F.typeCall_enumerate_1 _) (F.newCall_enumerate_1 _) (fun obj => F.args_object_init_2 obj _) F.entry_enumerate_new
    (meets_enumerate_newT l items) ⟨hL, ?_⟩
  have hz : (s.heap.push { cls := .type "tuple_iterator", data := .fields #[.ref l, .int 0 0] }).objs.size = s.heap.objs.size + 1 := Heap.size_push ..
  show _ ∧ _
  rw [hz]
  have he : IsEnum ((s.heap.push { cls := .type "tuple_iterator", data := .fields #[.ref l, .int 0 0] }).push
      { cls := .type "enumerate", data := .fields #[.none, .bool false, .ref s.heap.objs.size, rawInt 0, .none, .none] }) (s.heap.objs.size + 1) s.heap.objs.size 0 .none := by
    have := Heap.get?_push_size (s.heap.push { cls := .type "tuple_iterator", data := .fields #[.ref l, .int 0 0] })
      (o := { cls := .type "enumerate", data := .fields #[.none, .bool false, .ref s.heap.objs.size, rawInt 0, .none, .none] }) rfl
    rw [hz] at this; exact this
  refine ⟨⟨_, he, rfl⟩, h _ he ⟨_, Heap.get?_push_of_some _ (Heap.get?_push_size _ rfl), rfl, rfl⟩ (by rw [Heap.size_push, hz]) fun b o x => Heap.get?_push_of_some _ (Heap.get?_push_of_some _ x)⟩
/-- next of an enumerate whose tuple is at its end -/
theorem wpAny_pyNext_enum_endU {e it l : Addr} {i : Nat} {items : Array Value} {old : Value} {Q : Option Value → Shared → Prop} (hh : A.handled = none) (he : IsEnum s.heap e it i old)
    (hit : s.heap.IsTupleIter it l i) (hl : s.heap.IsTuple l items) (hx : items[i]? = none) (hQ : ∀ h', Heap.ExtBut it s.heap h' → Q none { s with heap := h' }) : wpAny (model prog w) A (pyNext (.ref e)) Q E s := by
  have hT : s.TypeIs (.ref e) "enumerate" := ⟨_, he, rfl⟩
  unfold pyNext
  refine wpAny_bind (wpAny_attempt (wpAny_callSpecial?_slot (name := Str.ofString "__next__") hT F.slot_enumerate_next (wpAny_call_entry F.slot_enumerate_next hT F.entry_enumerate_next ?_ (F.args_enumerate_next_1 _))))
  show wpAny _ _ (field (.ref e) 2 >>= _) _ _ _
  refine wpAny_bind (wpAny_field he rfl (x := .ref it) rfl (wpAny_bind (wpAny_nextOf_tuple_end hh hit hl hx fun h' x he' ⟨o, ho, hc⟩ => ?_)))
  exact wpAny_bind (wpAny_isInstance (T := "StopIteration") (b := true) ⟨o, ho, hc⟩ isSubtype_stop (wpAny_pure (hQ _ he')))
end
end PySem
namespace L2
open PySem PySem.Spec PyProof.Rows
/-- the tuple at a, each item in a new pair -/
def ItuE (K : PySem.W.Frag) (a : Addr) : It :=
  ⟨fun i H => ∃ (xs : List V) (x : V), SqT K H a xs ∧ xs[i]? = some x, fun i H v H' => ∃ T x, v = .ref T ∧ H T = none ∧ H' = upd H T (.tup [.int (i : Nat), x]) ∧ ∀ xs, SqT K H a xs → xs[i]? = some x, fun i H => ∃ xs : List V, SqT K H a xs ∧ xs.length ≤ i⟩
theorem turn_enumT {P : Program} {w : World} {K : PySem.W.Frag} {elts : List Expr} {kk : Nat} {tpos : Pos} (a e it : Addr) :
    Turn P w K (.Tuple elts kk tpos) (ItuE K a) [e, it] e (fun i h => (∃ old, IsEnum h e it ((i : Nat) : Int) old) ∧ h.IsTupleIter it a i ∧ e ≠ it ∧ a ≠ it ∧ a ≠ e) where
  mem := by simp
  obj := fun i h st b hb => by
    obtain ⟨⟨old, he⟩, ⟨o, ho, hc, hd⟩, _⟩ := st
    have e' : b = e ∨ b = it := by simpa using hb
    rcases e' with z | z
    · rw [z]; exact ⟨_, he, fun v q => nomatch q⟩
    · rw [z]; exact ⟨o, ho, fun v q => by rw [hd] at q; cases q⟩
  keep := fun i h h' st k => let ⟨⟨old, he⟩, hi, hne⟩ := st; ⟨⟨old, k e (by simp) _ he⟩, hi.at fun o q => k it (by simp) o q, hne⟩
  item := by
    intro X hP hw hK hc i pins s σ H E I hf st hg
    subst hP hw hK
    obtain ⟨⟨old, he⟩, hit, hne, hai, hae⟩ := st
    obtain ⟨xs, x, hq, hx⟩ := hg
    obtain ⟨its, rv, p, hz⟩ := I.tuple hq
    obtain ⟨u, hu, ru⟩ := rv.get hx
    have hel : e < s.heap.objs.size := Heap.lt_size he
    have hil : it < s.heap.objs.size := by obtain ⟨_, q, _⟩ := hit; exact Heap.lt_size q
    have hlen : i < its.toArray.size := by
      have := (List.getElem?_eq_some_iff.mp hu).1
      simpa using this
    have hT0 : s.heap.IsTuple a its.toArray := p
    refine wpAny_pyNext_enum_itemD (Draws.tuple (prog := X.prog) (w := X.w) (A := X.A.in1) (show X.A.in1.handled = none from I.ok.hd hc) it a hai its.toArray) he ⟨hit, hT0⟩ hlen hne (by simp [hne, Ne.symm hae]) fun y h' tk hy ho hst' hT hsz hk => ?_
    have ey : y = u := by
      have q : its[i]? = some y := by simpa using hy
      exact Option.some.inj (q.symm.trans hu)
    subst ey
    obtain ⟨hit', _⟩ := hst'
    refine ⟨_, rfl, wpAny_letOwnedTupleGo_enum (s := { s with heap := h', toks := tk + 1 }) ho fun h'' he' sb => ?_⟩
    have hT2 : h''.get? s.heap.objs.size = some { cls := .type "tuple", data := .seq #[.int i tk, y] } := (sb.2 _ (Nat.ne_of_gt hel)).trans hT
    have new : ObjOk X.prog X.w (upd H s.heap.objs.size (.tup [.int (i : Nat), x])) h'' s.heap.objs.size (.tup [.int (i : Nat), x]) :=
      ⟨by show 2 ≤ sizeLine; decide, [.int i tk, y], .cons ⟨_, rfl⟩ (.cons ru .nil), ⟨_, hT2, rfl, _, rfl⟩⟩
    have I1 : Inv X pins σ (upd H s.heap.objs.size (.tup [.int (i : Nat), x])) { s with heap := h'', toks := tk + 1 } :=
      I.turnedNew (ch := [e, it]) (fun b ob hb q => (sb.2 b (fun z => hb (by simp [z]))).trans (hk b ob (fun z => hb (by simp [z])) (fun z => hb (by simp [z])) q)) hf (Nat.le_refl _) new
    refine ⟨.ref s.heap.objs.size, _, I1, rfl, ⟨_, x, rfl, I.hok.fresh (Nat.le_refl _), rfl, fun ys hy => by rw [I.tuple_inj hy hq]; exact hx⟩, ⟨⟨y, ?_⟩, hit'.at fun o q => (sb.2 it (Ne.symm hne)).trans q, hne, hai, hae⟩, fun b hb => ?_⟩
    · have e1 : ((i + 1 : Nat) : Int) = (i : Int) + 1 := by omega
      rw [e1]; exact he'
    · have hb' : b < s.heap.objs.size := by
        have e' : b = e ∨ b = it := by simpa using hb
        rcases e' with z | z
        · rw [z]; exact hel
        · rw [z]; exact hil
      rw [upd_ne (Nat.ne_of_lt hb')]
      exact (hf b hb).1
  done := by
    intro X hP hw hK hc i pins s σ H E I hf st hg
    subst hP hw hK
    obtain ⟨⟨old, he⟩, hit, hne, hai, hae⟩ := st
    obtain ⟨xs, hq, hx⟩ := hg
    obtain ⟨its, rv, p, hz⟩ := I.tuple hq
    obtain ⟨f0, f1, f2, f3, f4, f5⟩ := hf it (by simp)
    have hl := rv.length
    have hT0 : s.heap.IsTuple a its.toArray := p
    exact wpAny_pyNext_enum_endU (I.ok.hd hc) he hit hT0 (by simp; omega) fun h' eb => ⟨rfl, I.turned (t' := s.toks) (fun b o hb q => eb b o hb q) f0 f1 f3 f4 f5⟩
  self := fun A i s Q E st h => let ⟨⟨_, he⟩, _⟩ := st; wpAny_pyIter_enum he h
def iEnumT (K : PySem.W.Frag) (ta : TA) : TI := fun σ H R => ta σ H fun vs H1 => ∃ a xs, vs = [.ref a] ∧ SqT K H1 a xs ∧ R (ItuE K a) H1
theorem pi_enumT {X : Cx} {e : Expr} {ta : TA} {p pos tpos : Pos} {elts : List Expr} {kk : Nat} (hg : Gl X "enumerate") (hm : X.mg "enumerate" = none) (ha : PA X [e] ta) (hs : starEach [e] X.env = [(false, eval e X.env)] := by rfl) :
    PI X (.Tuple elts kk tpos) (.Call (.Name "enumerate" p) [e] [] pos) (iEnumT X.K ta) := by
  refine ⟨fun pins s σ H R I h => ?_⟩
  refine Call_ (ld_blt I hg hm boot_enumerate (PyProof.Rows.callWith_type1 (thn (ha.run pos pins s σ H _ I h) fun us s1 ⟨vs, H1, I1, r1, q1⟩ => ?_) hs rfl))
  obtain ⟨a, xs, ex, hq, q⟩ := q1
  subst ex
  cases r1 with
  | cons r rr =>
    cases rr
    cases r
    obtain ⟨its, rv, p', hz⟩ := I1.tuple hq
    have hT0 : s1.heap.IsTuple a its.toArray := p'
    have hal : a < s1.heap.objs.size := by obtain ⟨_, q, _⟩ := hT0; exact Heap.lt_size q
    refine call_enumerate_tup hT0 fun h' he hit hsz hk => wpAny_pyIter_enum he ?_
    have I2 : Inv X pins σ H1 { s1 with heap := h' } := I1.kept (t' := s1.toks) hk
    refine ⟨s1.heap.objs.size + 1, [s1.heap.objs.size + 1, s1.heap.objs.size], _, _, H1, rfl, I2, turn_enumT a (s1.heap.objs.size + 1) s1.heap.objs.size, ⟨⟨.none, he⟩, hit, Nat.succ_ne_self _, Nat.ne_of_lt hal, Nat.ne_of_lt (Nat.lt_succ_of_lt hal)⟩, fun b hb => ?_, q⟩
    have e' : b = s1.heap.objs.size + 1 ∨ b = s1.heap.objs.size := by simpa using hb
    have hle : s1.heap.objs.size ≤ b := by
      rcases e' with z | z
      · rw [z]; exact Nat.le_add_right _ _
      · rw [z]; exact Nat.le_refl _
    exact I1.fpOk hle (I1.hok.fresh hle)
end L2
namespace L2
open PySem PySem.Spec PyProof.Rows
theorem for_enumT {K : PySem.W.Frag} {a : Addr} {xs : List V} {g : TG} {tb : TS} {D : Ends} {σ : St} {H : Hp} (Pv : Nat → St → Hp → Prop) (h0 : Pv 0 σ H) (hl : ∀ i σ H, i ≤ xs.length → Pv i σ H → SqT K H a xs)
    (hs : ∀ i x σ H T, xs[i]? = some x → Pv i σ H → H T = none → g (.ref T) σ (upd H T (.tup [.int (i : Nat), x])) fun σ2 H2 => tb { D with nx := Pv (i + 1), ct := Pv (i + 1), bk := D.nx } σ2 H2)
    (hd : ∀ σ H, Pv xs.length σ H → D.nx σ H) :
    ∃ W : Nat → Nat → St → Hp → Prop, (∃ m, W 0 m σ H) ∧ ∀ i m σ H, W i m σ H →
      ((ItuE K a).stop i H ∧ D.nx σ H) ∨ ((ItuE K a).go i H ∧ ∃ N : St → Hp → Prop, (∀ σ' H', N σ' H' → ∃ m', m' < m ∧ W (i + 1) m' σ' H') ∧ ∀ x H', (ItuE K a).yld i H x H' → g x σ H' fun σ2 H2 => tb { D with nx := N, ct := N, bk := D.nx } σ2 H2) := by
  refine ⟨fun i m σ H => m = xs.length - i ∧ i ≤ xs.length ∧ Pv i σ H, ⟨xs.length, by simp, Nat.zero_le _, h0⟩, fun i m σ H hW => ?_⟩
  obtain ⟨em, hi, p⟩ := hW
  have q := hl i σ H hi p
  by_cases hlt : i < xs.length
  · refine .inr ⟨⟨xs, xs[i], q, List.getElem?_eq_getElem hlt⟩, Pv (i + 1), fun σ' H' p' => ⟨xs.length - (i + 1), by omega, rfl, hlt, p'⟩, fun x H' y => ?_⟩
    obtain ⟨T, x', ev, nT, eH, hx⟩ := y
    subst ev eH
    exact hs i x' σ H T (hx xs q) p nT
  · have ei : i = xs.length := by omega
    subst ei
    exact .inl ⟨⟨xs, q, Nat.le_refl _⟩, hd σ H p⟩
end L2

namespace L2
open PySem PySem.Spec PyProof.Rows
/-! ### o.m(e, .., k = v, ..) -/
def tMethN (C : Addr) (m : Str) (n j : Nat) (sp : Sp) (gV : List V → List V → List V) (E : XK) (ta : TE) (t tk : TA) : TE := fun σ H Q => ta σ H fun x H1 => ∃ a dx fs, x = .ref a ∧ H1 a = some (.ins C dx fs) ∧ fs.lookup m = none ∧
  t σ H1 fun vs H2 => tk σ H2 fun zs H3 => vs.length + 1 = n ∧ zs.length = j ∧ sp (gV (x :: vs) zs) H3 Q E
section
variable {X : Cx} {CX : CXT} {k n : Nat} {f C : Addr} {fd : FuncData} {ps ks : List Str} {sp : Sp} {E : XK} {m : Str} {pos apos : Pos} {e o : Expr} {es : List Expr} {kws : List Keyword} {ta : TE} {t tk : TA} {g : List Value → List Value → List Value} {gV : List V → List V → List V}
theorem pe_methN {pl : Sem Bool} (he : PE X o ta) (c : Cls X.K C) (hm : Meth X.K C m f) (F : FnOk X.prog X.w X.K X.mg X.base CX k f fd ps sp) (hr : Room k X.A) (hb : KBn X.K fd ps n ks g gV) (hx : Passes CX X E) (ha : PA X (e :: es) t) (hkw : PK X kws tk)
    (hall : (backToKw pos (keywordEach kws X.env)).all (·.1.isSome) = true := by rfl) (hks : (backToKw pos (keywordEach kws X.env)).filterMap (·.1) = ks := by rfl)
    (hst : starEach (e :: es) X.env = (false, eval e X.env) :: starEach es X.env := by rfl)
    (hpl : ((backTo pos (starEach (e :: es) X.env)).any (·.1) || (backToKw pos (keywordEach kws X.env)).any (·.1.isNone)) = false := by rfl)
    (ht : eval (.Call (.Attribute o m apos) (e :: es) kws pos) X.env = (do
      let ov ← eval o X.env
      standAt apos.atName
      let (f, first) ← holding [ov] (getMethod ov m pl)
      callWith pos f first (backTo pos (starEach (e :: es) X.env)) (backToKw pos (keywordEach kws X.env))) := by rfl) :
    PE X (.Call (.Attribute o m apos) (e :: es) kws pos) (tMethN C m n ks.length sp gV E ta t tk) := by
  refine ⟨fun pins s σ H Q I h => PySem.W.methodCall_KW (pl := pl) (thn (he.run pins s σ H _ I h) fun u s1 ⟨x, H1, I1, rx, a, dx, fs, ex, ea, l, q⟩ => ?_) ht⟩
  subst ex
  obtain rfl : u = Value.ref a := rx
  refine getmeth_ok I1 ea c hm l ?_
  refine PySem.W.callWith_KW (first := [.ref a]) (h₀ := X.base) I.ok.mod.kin hm.kp hall (thn (ha.run pos pins s1 σ H1 _ I1 q) fun us s2 ⟨vs, H2, I2, r, q2⟩ => ?_) hpl hst
  refine thn (hkw.run pos pins s2 σ H2 _ I2 q2) fun ws s3 ⟨zs, H3, I3, rz, l1, l2, q3⟩ => ⟨I3.kIn, ?_⟩
  rw [hks]
  exact run_fnN (us := .ref a :: us) (vs := .ref a :: vs) F hr hb hx I3 (.cons rfl r) rz l1 l2 q3
end
section
variable {P : Program} {w : World} {K : PySem.W.Frag} {mg : Str → Option Value} {base : Heap} {x qual : Str} {params : Arguments} {body : List Stmt} {scope : Scope} {dvs : List V} {kws : List (Str × V)} {f : Addr} {fd : FuncData}
/-- a def with defaults that lets nothing out -/
theorem FunD.ok0 {N ps : List Str} {k : Nat} {sp : Sp} (F : FunD K x qual params body scope dvs kws f fd) (S : FnScope N ps scope) (len : ∀ vs H Q E, sp vs H Q E → vs.length = ps.length)
    (hb : ∀ (cdv : Value) (A : Around) (outer : List Env) (s : Shared) (H : Hp) (vs : List V) (Q : VK) (E : XK), Room k (A.deeper (envOfC qual scope s.heap.objs.size f cdv)) → sp vs H Q E →
      ∃ t, PSs (cxOf CX0 P w K mg base N qual scope f cdv A outer s H E).nox body t ∧ t { nx := fun _ H' => Q .non H', rt := Q } (start N vs) H) : FnOk P w K mg base CX0 (k + 1) f fd ps sp :=
  F.ok S len fun cdv A outer s H vs Q E hr h => (hb cdv A outer s H vs Q E hr h).elim fun t ⟨h1, h2⟩ => ⟨t, h1.nox, h2⟩
end
end L2

namespace L2
open PySem PySem.Spec PyProof.Rows
/-! ### x op y by an own def of the class of both -/
def rOwnI (C : Addr) (sp : Sp) (E : XK) : R2 := fun x y H Q => ∃ a dx fs b dy gs, x = .ref a ∧ y = .ref b ∧ H a = some (.ins C dx fs) ∧ H b = some (.ins C dy gs) ∧ sp [x, y] H Q E
section
variable {X : Cx} {CX : CXT} {n : Nat} {C g : Addr} {fd : FuncData} {ps : List Str} {sp : Sp} {E : XK}
theorem op_cmpI {op : CmpOp} (hop : ∀ a b, compareOp op a b = richCompare op a b) (hs : PySem.W.findIn X.K (.ref C) (cmpInfo op).2.1 = some (some (.ref g))) (hf : PySem.W.isFn X.K (.ref g) = true)
    (F : FnOk X.prog X.w X.K X.mg X.base CX n g fd ps sp) (hr : Room n X.A) (hb : Binds X.K fd ps []) (hx : Passes CX X E) : OpR X (compareOp op) (rOwnI C sp E) := by
  intro pins s σ H x y v u Q I rx ry h
  obtain ⟨a, dx, fs, b, dy, gs, rfl, rfl, ha, hb', q⟩ := h
  cases rx
  cases ry
  obtain ⟨mA, J, _⟩ := ins_get I.hok ha
  obtain ⟨mB, J', _⟩ := ins_get I.hok hb'
  obtain ⟨od, J, _⟩ := J.look
  obtain ⟨od', J', _⟩ := J'.look
  obtain ⟨m, hF⟩ := I.fr
  rw [hop]
  refine PySem.W.cmp_K (op := op) (tb := .ref C) hr.units0 hF I.ok.mod.kin J J'.type (by simp [PySem.W.notFirst]) hs hf ?_
  refine wpAny_mono (run_fn (us := [.ref a, .ref b]) (vs := [.ref a, .ref b]) (dvs := []) F hr hb .nil hx I (.cons rfl (.cons rfl .nil)) q) (fun w s' z => ?_) fun _ _ x => x
  obtain ⟨z', H', I', rz, qz⟩ := z
  exact SlX.cmpback rz ⟨z', H', I', rz, qz⟩
theorem op_binI {op : Operator} (hc : PySem.W.selfFirst X.K C = true) (hs : PySem.W.findIn X.K (.ref C) (PySem.dunder op.info.2) = some (some (.ref g))) (hf : PySem.W.isFn X.K (.ref g) = true)
    (F : FnOk X.prog X.w X.K X.mg X.base CX n g fd ps sp) (hr : Room n X.A) (hb : Binds X.K fd ps []) (hx : Passes CX X E) : OpR X (binaryOp op) (rOwnI C sp E) := by
  intro pins s σ H x y v u Q I rx ry h
  obtain ⟨a, dx, fs, b, dy, gs, rfl, rfl, ha, hb', q⟩ := h
  cases rx
  cases ry
  obtain ⟨mA, J, _⟩ := ins_get I.hok ha
  obtain ⟨mB, J', _⟩ := ins_get I.hok hb'
  obtain ⟨od, J, _⟩ := J.look
  obtain ⟨od', J', _⟩ := J'.look
  obtain ⟨m, hF⟩ := I.fr
  refine PySem.W.binop_K (op := op) hF I.ok.mod.kin J J'.type hc hs hf ?_
  refine wpAny_mono (run_fn (us := [.ref a, .ref b]) (vs := [.ref a, .ref b]) (dvs := []) F hr hb .nil hx I (.cons rfl (.cons rfl .nil)) q) (fun w s' z => ?_) fun _ _ x => x
  obtain ⟨z', H', I', rz, qz⟩ := z
  exact SlX.cmpback rz ⟨z', H', I', rz, qz⟩
end
end L2

/-! ### errors whose __init__ says super().__init__(text) and stores one field -/
namespace PySem
namespace WX
open PySem.W PySem.Calls PyProof.Rows PySem.HandSPX
def iB (fl tx : Str) (q1 q2 q3 q4 q5 q6 q7 q8 q9 q10 : Pos) (j : Nat) : List Stmt :=
  [.Expr (.Call (.Attribute (.Call (.Name "super" q1) [] [] q2) "__init__" q3) [.Constant (.str tx) j q4] [] q5) q6, .Assign [.Attribute (.Name "self" q7) fl q8] (.Name fl q9) q10]
/-- what the top has written of the class cn, at C, and of its __init__, at fI -/
structure ExcTxt (P : Program) (K : Frag) (mg : Str → Option Value) (cn fl : Str) (C : Addr) where
  gC : mg cn = some (.ref C)
  cls : ∃ nm q N bs bm sn sub ab col dd k0 k1 k2 k3 k5, K.lookup C = some (excClassObj nm q C N bs bm true sn sub ab col dd k0 k1 k2 k3 k5 "ValueError.__new__") ∧ refsVE bm = true
  sa : findIn K (.ref C) "__setattr__" = some (some (.builtin "object.__setattr__"))
  ga : findIn K (.ref C) "__getattribute__" = some (some (.builtin "BaseException.__getattribute__"))
  gg : findIn K (.ref C) "__getattr__" = some none
  noN : findIn K (.ref C) fl = some none
  kC : keepIn K (.ref C) = true
  exC : subIn K (.ref C) (.type "BaseException") = some true
  tyC : typeIn K (.ref C) = some (.type "type")
  hdC : hasDictIn K C = true
  fI : Addr
  qual : Str
  tx : Str
  S : Stmt
  oc : Value
  od : Option Addr
  kV : Value
  doc : Value
  pm : Value
  an : Option Addr
  cda : Addr
  ct : Value
  osl : Array (Option Value)
  cc : Addr
  cl : Value
  cld : Option Addr
  csl : Array (Option Value)
  ccl : Value
  cdd : Option Addr
  vs : Array Value
  ccs : Array (Option Value)
  file : Str
  tf : Tok
  q1 : Pos
  q2 : Pos
  q3 : Pos
  q4 : Pos
  q5 : Pos
  q6 : Pos
  q7 : Pos
  q8 : Pos
  q9 : Pos
  q10 : Pos
  j : Nat
  pl : Sem Bool
  iC : findIn K (.ref C) "__init__" = some (some (.ref fI))
  tI : typeIn K (.ref fI) = some (.type "function")
  lI : K.lookup fI = some ⟨oc, od, .func (ksFn "__init__" qual (L2.defArgs S) (L2.defBody S) (L2.defScope S) .none kV doc pm an (.ref cda) ct cc), osl⟩
  cI : codeIn K (.ref cda) qual = true
  lcc : K.lookup cc = some ⟨cl, cld, .cell (some (.ref C)), csl⟩
  lcd : K.lookup cda = some ⟨ccl, cdd, .fields vs, ccs⟩
  hvs : vs[2]? = some (.str file tf)
  hfile : ((P.main.file : Str) == file) = true
  hpar : ∃ ar : Arg, ((L2.defArgs S).posonlyargs ++ (L2.defArgs S).args).head? = some ar ∧ ar.arg = "self"
  hbody : L2.defBody S = iB fl tx q1 q2 q3 q4 q5 q6 q7 q8 q9 q10 j
  hbind : ∀ x v : Value, bindArgs (ksFn "__init__" qual (L2.defArgs S) (L2.defBody S) (L2.defScope S) .none kV doc pm an (.ref cda) ct cc) ⟨[x, v], []⟩ = pure [(("self" : Str), x), (fl, v)]
  hev : ∀ L f : Addr, eval (.Call (.Attribute (.Call (.Name "super" q1) [] [] q2) "__init__" q3) [.Constant (.str tx) j q4] [] q5) (ksEnv qual (L2.defScope S) L f (.ref cda) cc) = (do
      let ov ← attributeBase (.Call (.Name "super" q1) [] [] q2) "__init__" (ksEnv qual (L2.defScope S) L f (.ref cda) cc) (eval (.Call (.Name "super" q1) [] [] q2) (ksEnv qual (L2.defScope S) L f (.ref cda) cc))
      standAt q3.atName
      let (g, first) ← holding [ov] (getMethod ov "__init__" pl)
      callWith q5 g first (backTo q5 (starEach [.Constant (.str tx) j q4] (ksEnv qual (L2.defScope S) L f (.ref cda) cc))) [])
  hk : (L2.defScope S).kind = .function
  hco : (L2.defScope S).isCoroutine = false
  hgen : (L2.defScope S).isGenerator = false
  hks : (L2.defScope S).names.lookup ("super" : Str) = some .globalImplicit
  hkc : (L2.defScope S).names.lookup ("__class__" : Str) = some .free
  hself : (L2.defScope S).names.lookup ("self" : Str) = some .local
  hfl : (L2.defScope S).names.lookup fl = some .local
  hcell : ∀ y ∈ (L2.defScope S).names, y.2 ≠ .cell
  nf : ("self" : Str) ≠ fl ∧ (fl == ("__debug__" : Str)) = false
  top : (P.main.scope.names.lookup ("super" : Str)).isSome = false
  sup : mg "super" = none
  opq : nsIn K cStatics "thirdparty.any" = some none
  nxt : ks_superIn K C C "__init__" = some (some (.builtin "ValueError.__init__"))
  slf : mroIn K C (.ref C) = some true
  sub : subIn K (.ref C) (.type "ValueError") = some true
section
variable {P : Program} {w : World} {A : Around} {E : Value → Shared → Prop} {R : Result → Shared → Prop} {s : Shared} {K : Frag} {mg : Str → Option Value} {cn fl : Str} {C : Addr}
/-- the method-wrapper of ValueError.__init__ called -/
theorem call_mw {h : Heap} {g : Array GenState} {d : Drawn} {t : Nat} {os : OsState} {nm q : Str} {N : Addr} {bs bm : List Value} {hdct : Bool} {sn : List Str} {sub : List Value} {ab : Bool} {col : Option Bool} {dd : Option Addr} {k0 k1 k2 k3 k5 : Option Value} {u e t0 : Addr} {rest : List Value} {Q : Value → Shared → Prop}
    (hC : h.get? C = some (excClassObj nm q C N bs bm hdct sn sub ab col dd k0 k1 k2 k3 k5 "ValueError.__new__")) (he : h.get? e = some (excO C t0)) (hu : h.get? u = some (kxs_mw "ValueError.__init__" e)) (hrest : rest.length ≤ sizeLine)
    (hq : ∀ h' t1, (∀ b o, b ≠ e → h.get? b = some o → h'.get? b = some o) → h'.get? e = some (excO C t1) → Q .none ⟨h', g, d, t, os⟩) :
    wpAny (model P w) A (call (.ref u) rest) Q E ⟨h, g, d, t, os⟩ := by
  refine wpAny_call (codeAny_of_tree ?_)
  show wpAny _ A.in1 (callAny (.ref u) ⟨rest, []⟩) _ _ _
  simp only [callAny]
  refine wpAny_bind (wpAny_load hu ?_)
  simp only [kxs_mw, show (Value.type "method-wrapper" == Value.type "method" || Value.type "method-wrapper" == Value.type "builtin_function_or_method" || Value.type "method-wrapper" == Value.type "method-wrapper") = true by decide, if_true]
  refine KFB.if_so (by decide) (wpAny_bind (check_bound_init PySem.F.excBase_ValueError.toExcCallFacts hC he rfl (wpAny_bind (wpAny_pure (wpAny_pure ?_)))))
  refine ⟨plainId_quiet PySem.F.excBase_ValueError.init.plain _, codeAny_builtin PySem.F.excBase_ValueError.initEntry ?_⟩
  exact exc_init_tree (cls := .ref C) (t0 := t0) (dv := none) (c2 := .none) (c3 := .none) (b4 := .bool false) he hrest fun h' k e' _ => hq h' _ k e'
/-- what __init__ leaves of a fresh exception at x -/
structure InitEnd (h h' : Heap) (x C dx : Addr) (fl : Str) (v : Value) : Prop where
  keep : ∀ b o, b ≠ x → h.get? b = some o → h'.get? b = some o
  obj : ∃ t1 : Addr, h'.get? x = some { cls := .ref C, dict := some dx, data := .fields #[.ref t1, .none, .none, .none, .bool false, .none] }
  dbig : h.objs.size ≤ dx
  dne : dx ≠ x
  ns : h'.Ns1 dx (fun y => if y = fl then some v else none)
theorem x_init (T : ExcTxt P K mg cn fl C) {x t0 : Addr} {v : Value} (X : K.In s.heap) (hlim : s.heap.NoLimit) (hG : s.heap.Ns mainGlobals mg) (hB : ∃ mb, s.heap.Ns builtinsNs mb ∧ ∀ y : Str, y ≠ "__name__" → mb y = bootBuiltins y)
    (hx : s.heap.get? x = some (excO C t0)) (hnx : K.lookup x = none) (hroom : A.depth < recursionLimit)
    (hq : ∀ h' tk dx, InitEnd s.heap h' x C dx fl v → R (.ok (.ret .none)) { s with heap := h', toks := tk }) :
    codeAny (model P w) A (.call (.ref T.fI) ⟨[.ref x, v], []⟩) R s := by
  obtain ⟨nm, q, N, bs, bm, sn, sub, ab, col, dd, k0, k1, k2, k3, k5, hC, hbm⟩ := T.cls
  have hcl : clsIn K C = some { name := nm, bases := bs, mro := .ref C :: bm, ns := N, qualname := q, hasDict := true, slotNames := sn, subclasses := sub, abstract := ab, collection := col, hasDel := false } := by unfold clsIn; rw [hC] <;> rfl
  have hxC : x ≠ C := fun z => by
    have e1 := X _ _ hC
    rw [← z, hx] at e1
    have e2 := congrArg (fun o : Option Obj => o.map (·.data)) e1
    simp [excO, excClassObj] at e2
  have ho := T.lI
  refine ks_codeAny_call_defAt (fd := ksFn "__init__" T.qual (L2.defArgs T.S) (L2.defBody T.S) (L2.defScope T.S) .none T.kV T.doc T.pm T.an (.ref T.cda) T.ct T.cc) (body := L2.defBody T.S) (binds := [("self", .ref x), (fl, v)])
    hroom (X _ _ ho) rfl hlim (codeRec_of X T.cI) rfl (BindsTo.of_eq (T.hbind _ _)) T.hcell ?hloc (fun h₁ hns hk₁ => ?_) T.hco T.hgen T.hk
  case hloc =>
    intro y hy
    simp only [List.mem_cons, List.not_mem_nil, or_false] at hy
    rcases hy with rfl | rfl
    · exact T.hself
    · exact T.hfl
  have X₁ : K.In h₁ := X.keeps hk₁
  have hx₁ := hk₁ _ _ hx
  have ms : (fun y : Str => ([("self", Value.ref x), (fl, v)] : List (Str × Value)).reverse.lookup y) "self" = some (.ref x) := by
    have z : (("self" : Str) == fl) = false := by simpa using T.nf.1
    simp [List.lookup, z]
  have mf : (fun y : Str => ([("self", Value.ref x), (fl, v)] : List (Str × Value)).reverse.lookup y) fl = some v := by simp [List.lookup]
  show wpAt _ (A.deeper (ksEnv T.qual (L2.defScope T.S) s.heap.objs.size T.fI (.ref T.cda) T.cc)) (.func (L2.defBody T.S) (ksEnv T.qual (L2.defScope T.S) s.heap.objs.size T.fI (.ref T.cda) T.cc)) (execs (L2.defBody T.S) (ksEnv T.qual (L2.defScope T.S) s.heap.objs.size T.fI (.ref T.cda) T.cc)) _ _ _
  rw [T.hbody]
  refine ks_wpAt_execs_cons (ks_wpAt_Expr_any (ks_wpAt_MethodCall ?_ (T.hev _ _)) (by unfold interactive; show ((L2.defScope T.S).kind == .module && _) = false; rw [T.hk]; rfl))
  obtain ⟨ar, hp, har⟩ := T.hpar
  obtain ⟨mb, hB1, hB2⟩ := hB
  refine ks_wpAt_super_base T.hks T.hkc (by decide +kernel) rfl (hk₁ _ _ (X _ _ ho)) rfl hp rfl (hk₁ _ _ (X _ _ T.lcd)) rfl T.hvs T.hfile T.top ?_
  refine ks_loadName_global T.hk T.hks (loadGlobal_builtin (hG.keeps hk₁) T.sup (hB1.keeps hk₁) ((hB2 _ (by decide +kernel)).trans PyProof.Rows.Boot.«super») ⟨rfl, ?_⟩)
  refine wpAny_loadName_free T.hk T.hkc rfl ⟨_, X₁ _ _ T.lcc, rfl⟩ ?_
  rw [har]
  refine wpAny_loadName_local T.hk T.hself hns ms ?_
  refine ks_wpAny_isType_cls (X₁ _ _ hC) rfl ⟨rfl, ?_⟩
  refine ks_wpAny_call_super (X₁ _ _ hC) rfl hx₁ rfl (fun c e => by cases e) (looks_mroIn X₁ T.slf) (fun h₂ e₂ k₂ => ?_)
  have X₂ : K.In h₂ := X₁.keeps k₂
  have hx₂ := k₂ _ _ hx₁
  have I₂ : InstAt h₂ x (excO C t0) C none := ⟨hx₂, rfl, rfl, trivial⟩
  have hnxt : alongIn K "__init__" (((Value.ref C :: bm).dropWhile (· != .ref C)).drop 1) = some (some (.builtin "ValueError.__init__")) := by
    have z := T.nxt
    unfold ks_superIn at z
    rw [hcl] at z
    exact z
  refine kxs_getMethod kxs_ValueError e₂ (looks_opaque X₂ T.opq) (l₀ := Value.ref C :: bm) (fun A Q E s k q => wpAny_bind ((looks_clsIn X₂ hcl) A _ E s k (wpAny_pure q))) rfl X₂ hnxt (I₂.type.andThen (looks_subIn X₂ T.sub)) hxC (by decide +kernel) ?_
  have k₃ : ∀ b o, h₂.get? b = some o → (h₂.push (kxs_mw "ValueError.__init__" x)).get? b = some o := fun b o e => Heap.get?_push_of_some _ e
  refine kxs_callWith (i := "ValueError.__init__") (x := x) rfl (evalArgs_plain (spliced_more (wpAny_Constant_str (spliced_none ?_))))
  refine ⟨Heap.get?_push_at rfl rfl, ?_⟩
  refine call_mw (k₃ _ _ (X₂ _ _ hC)) (k₃ _ _ hx₂) (Heap.get?_push_at rfl rfl) (by show 1 ≤ sizeLine; decide) fun h₄ t1 k₄ hx₄ => ?_
  have k14 : ∀ b o, b ≠ x → h₁.get? b = some o → h₄.get? b = some o := fun b o hb e => k₄ b o hb (k₃ _ _ (k₂ _ _ e))
  have hxL : s.heap.objs.size ≠ x := Nat.ne_of_gt (Heap.lt_size hx)
  have hns₄ : h₄.Ns s.heap.objs.size (fun y : Str => ([("self", Value.ref x), (fl, v)] : List (Str × Value)).reverse.lookup y) := by
    obtain ⟨oL, es, ep, hL, r⟩ := hns
    exact ⟨oL, es, ep, k14 _ _ hxL hL, r⟩
  have X₄ : K.In h₄ := fun b o e => k14 b o (fun z => by rw [z, hnx] at e; cases e) (X₁ _ _ e)
  refine ks_wpAt_execs_cons (ks_wpAt_Assign_Attr (wpAt_of_wpAny (wpAny_Name (wpAny_loadName_local T.hk T.hfl hns₄ mf ?_) T.nf.2)))
  refine wpAny_Name (wpAny_loadName_local T.hk T.hself hns₄ ms ?_)
  refine set_plain X₄ (ox := excO C t1) (od := none) ⟨hx₄, rfl, rfl, trivial⟩ T.sa ?_
  refine exc_osa X₄ hx₄ hcl (show refsVE (.ref C :: bm) = true from hbm) rfl T.noN (fun h₅ tk₅ dx k₅ dn dne hx₅ hn₅ => ?_)
  exact wpAt_of_wpAny (wpAny_execs_nil (hq h₅ tk₅ dx ⟨fun b o hb e => k₅ b o hb (k14 b o hb (hk₁ b o e)), ⟨t1, hx₅⟩, Nat.le_trans (Nat.le_of_lt hns₄.lt) dn, dne, hn₅⟩))
/-- a made error -/
structure OwnMade (h h' : Heap) (e C d : Addr) (fl : Str) (v : Value) : Prop where
  keep : ∀ b o, h.get? b = some o → h'.get? b = some o
  new : h.objs.size ≤ e
  obj : ∃ oe vs, h'.get? e = some oe ∧ oe.cls = .ref C ∧ oe.dict = some d ∧ oe.data = .fields vs ∧ vs[1]? = some .none
  dbig : h.objs.size ≤ d
  dne : d ≠ e
  ns : h'.Ns1 d (fun y => if y = fl then some v else none)
theorem x_made (T : ExcTxt P K mg cn fl C) {v : Value} (X : K.In s.heap) (hlim : s.heap.NoLimit) (hG : s.heap.Ns mainGlobals mg) (hB : ∃ mb, s.heap.Ns builtinsNs mb ∧ ∀ y : Str, y ≠ "__name__" → mb y = bootBuiltins y) (hroom : A.depth + 1 < recursionLimit)
    (hq : ∀ h' tk e d, OwnMade s.heap h' e C d fl v → R (.ok (.ret (.ref e))) { s with heap := h', toks := tk }) :
    codeAny (model P w) A (.call (.ref C) ⟨[v], []⟩) R s := by
  obtain ⟨nm, q, N, bs, bm, sn, sub, ab, col, dd, k0, k1, k2, k3, k5, hC, hbm⟩ := T.cls
  obtain ⟨hp, g, dr, tk, os⟩ := s
  have k : ∀ b o, hp.get? b = some o → ((hp.push (kdv_tup [v])).push (excO C hp.objs.size)).get? b = some o := fun b o e => Heap.get?_push_of_some _ (Heap.get?_push_of_some _ e)
  have hget : ((hp.push (kdv_tup [v])).push (excO C hp.objs.size)).get? (hp.objs.size + 1) = some (excO C hp.objs.size) := by heap_get
  have hnx : K.lookup (hp.objs.size + 1) = none := by
    cases e : K.lookup (hp.objs.size + 1) with
    | none => rfl
    | some o => exact absurd (Nat.lt_of_succ_lt (Heap.lt_size (show hp.get? (hp.objs.size + 1) = some o from X _ _ e))) (Nat.lt_irrefl _)
  obtain ⟨mb, hB1, hB2⟩ := hB
  refine call_own PySem.F.excBase_ValueError (fun X => refsVE_contains X bm hbm) (X _ _ hC) (looks_findIn X T.iC) (fun self => bind_fn X self T.tI) (by show 1 ≤ sizeLine; decide) ?_
  refine x_init (s := ⟨(hp.push (kdv_tup [v])).push (excO C hp.objs.size), g, dr, tk, os⟩) T (X.keeps k) (hlim.keeps k) (hG.keeps k) ⟨mb, hB1.keeps k, hB2⟩ hget hnx (show A.depth + 1 < recursionLimit from hroom) fun h' tk' dx ⟨k', ⟨t1, hx⟩, dn, dne, hns⟩ => ?_
  have old : ∀ b o, hp.get? b = some o → h'.get? b = some o := fun b o e => k' b o (Nat.ne_of_lt (Nat.lt_succ_of_lt (Heap.lt_size e))) (k b o e)
  have z : hp.objs.size + 1 + 1 ≤ dx := by
    first
      | (simpa only [Heap.size_push] using dn)
      | exact dn
      | (have q := dn; rw [Heap.size_push, Heap.size_push] at q; exact q)
  exact ⟨rfl, hq h' tk' (hp.objs.size + 1) dx ⟨old, Nat.le_succ _, ⟨_, _, hx, rfl, rfl, rfl, rfl⟩, Nat.le_trans (Nat.le_trans (Nat.le_succ _) (Nat.le_succ _)) z, dne, hns⟩⟩
end
end WX
end PySem
namespace L2
open PySem PySem.Spec PyProof.Rows
theorem relO_x {v : V} {v' : Value} (fl : Str) (r : RelV v v') (f : Str) : RelO (List.lookup f [(fl, v)]) (if f = fl then some v' else none) := by
  by_cases hw : f = fl
  · subst hw
    rw [if_pos rfl, show List.lookup f [(f, v)] = some v by simp [List.lookup]]
    exact r
  · rw [if_neg hw, show List.lookup f [(fl, v)] = none by simp [List.lookup, show (f == fl) = false by simpa using hw]]
    trivial
section
variable {X : Cx} {C : Addr} {cn fl : Str}
/-- cn(e) -/
def tMkX (C : Addr) (fl : Str) (ta : TA) : St → Hp → XK → Prop := fun σ H Q => ta σ H fun vs H1 => ∃ v, vs = [v] ∧ ∀ d, H1 d = none → Q (.ref C) (some d) (upd H1 d (.xd [(fl, v)]))
theorem pmk_x {a : Expr} {ta : TA} {p pos : Pos} {k : Nat} (T : PySem.WX.ExcTxt X.prog X.K X.mg cn fl C) (hr : Room k X.A) (ha : PA X [a] ta) (hg : Gl X cn := by rfl) (hdb : (cn == ("__debug__" : Str)) = false := by decide)
    (he : starEach (a :: []) X.env = (false, eval a X.env) :: starEach [] X.env := by rfl) (hpl : (backTo pos (starEach [] X.env)).any (·.1) = false := by rfl) :
    PMk X (.Call (.Name cn p) [a] [] pos) (tMkX C fl ta) := by
  intro pins s σ H Q I h
  refine wpAny_Call_Name_kw (ld_glob I hg T.gC ?_ hdb)
  refine PySem.W.callWith_K (h₀ := X.base) I.ok.mod.kin T.kC (thn (ha.run pos pins s σ H _ I h) fun us s1 hh => ?_) he hpl
  obtain ⟨vs, H1, I1, r1, v, ev, q1⟩ := hh
  subst ev
  refine ⟨I1.kIn, ?_⟩
  cases r1 with
  | cons rv rn =>
    rename_i v' us'
    cases rn
    show wpAny _ _ (call (.ref C) [v']) _ _ _
    have hlim := I1.nolimit
    have hG := I1.mod.glob.keeps I1.bk
    obtain ⟨mb, hB1, hB2⟩ := I1.mod.blt
    have hB1' := hB1.keeps I1.bk
    obtain ⟨hp, g, dr, tk, os⟩ := s1
    refine wpAny_call (PySem.WX.x_made T I1.kIn hlim hG ⟨mb, hB1', hB2⟩ (by have := hr.dp; omega) fun h' tk' e d M => ?_)
    show MkP X pins σ Q (.ref e) ⟨h', g, dr, tk', os⟩
    obtain ⟨oe, fv, hoe, hc, hd, hdat, h1⟩ := M.obj
    obtain ⟨G', g1, g2⟩ := restrict h' fun b => decide (b ≠ e)
    have gk : ∀ b, b ≠ e → G'.get? b = h'.get? b := fun b hb => g1 b (decide_eq_true hb)
    have ge : G'.get? e = none := g2 e (by simp)
    have old : ∀ b o, hp.get? b = some o → G'.get? b = some o := fun b o q => (gk b (Nat.ne_of_lt (Nat.lt_of_lt_of_le (Heap.lt_size q) M.new))).trans (M.keep b o q)
    have ob : ObjOk X.prog X.w (upd H1 d (.xd [(fl, v)])) G' d (.xd [(fl, v)]) := ⟨_, M.ns.at (fun o q => (gk d M.dne).trans q), fun f => relO_x fl rv f⟩
    have J : Inv X pins σ (upd H1 d (.xd [(fl, v)])) ⟨G', g, dr, tk', os⟩ := I1.laid (t' := tk') old M.dbig ob
    refine ⟨e, oe, fv, ⟨G', g, dr, tk', os⟩, _, .ref C, some d, rfl, J, fun b o q => ?_, ge, hoe, ⟨hc, hd⟩, hdat, h1, ?_, rfl, I1.bare, raises_own T.exC T.tyC, q1 d (I1.hok.fresh M.dbig)⟩
    · by_cases hb : b = e
      · have q' : G'.get? b = some o := q
        rw [hb, ge] at q'; cases q'
      · exact (gk b hb).symm.trans q
    · rw [upd_ne (Ne.symm M.dne)]
      exact I1.hok.fresh M.new
/-- raise cn(e) -/
def tRaiseX (C : Addr) (fl : Str) (W : WX) (ta : TA) : TS := fun _ σ H => tMkX C fl ta σ H fun cls d H' => W cls d σ H'
theorem ps_raiseX {a : Expr} {ta : TA} {W : WX} {p pos pos2 : Pos} {k : Nat} (hc : X.calm = true) (T : PySem.WX.ExcTxt X.prog X.K X.mg cn fl C) (hr : Room k X.A) (tk : Takes X W) (ha : PA X [a] ta) (hg : Gl X cn := by rfl) (hdb : (cn == ("__debug__" : Str)) = false := by decide)
    (he : starEach (a :: []) X.env = (false, eval a X.env) :: starEach [] X.env := by rfl) (hpl : (backTo pos (starEach [] X.env)).any (·.1) = false := by rfl) :
    PS X (.Raise (some (.Call (.Name cn p) [a] [] pos)) none pos2) (tRaiseX C fl W ta) := ps_raise hc tk (pmk_x T hr ha hg hdb he hpl)
end
end L2

namespace L2
open PySem PySem.Spec PyProof.Rows
/-! ### in an except suite: isinstance(e, c) and e.f, e an own error with a dict -/
structure XC (K : PySem.W.Frag) (D : Addr) : Prop where
  ga : PySem.W.findIn K (.ref D) "__getattribute__" = some (some (.builtin "BaseException.__getattribute__"))
  gg : PySem.W.findIn K (.ref D) "__getattr__" = some none
  hs : PySem.W.subIn K (.ref D) (.type "BaseException") = some true
  hd : PySem.W.hasDictIn K D = true
  ha : PySem.W.findIn K (.ref D) "__class__" = some (some (.builtin "object.__class__"))
  hn : PySem.W.specialIn K (.builtin "object.__class__") "__get__" = some (some (.builtin "getset_descriptor.__get__"))
  ht : PySem.W.takesIn K (.builtin "object.__class__") = some true
  hm : PySem.W.mroIn K D (.type "object") = some true
def rIsX (K : PySem.W.Frag) (a : Addr) (cls : Value) (d : Option Addr) : List V → Hp → VK → Prop := fun xs H Q => ∃ (D dd : Addr) (fs : List (Str × V)) (c : V) (cv : Value) (b : Bool), cls = .ref D ∧ d = some dd ∧ H dd = some (.xd fs) ∧ XC K D ∧ xs = [.ref a, c] ∧ ClsV c cv ∧ PySem.W.kitOne K (.ref D) cv = some b ∧ Q (.bl b) H
theorem call_isX {X : Cx} {a : Addr} {oe : Obj} {cls : Value} {d : Option Addr} {pn : List (Addr × Obj)} (hz : Zc cls d oe) (hf : ∃ vs, oe.data = .fields vs) : CallR (X.suite a ((a, oe) :: pn)) (.builtin "isinstance") (rIsX X.K a cls d) := by
  intro pins s σ H xs us Q I r h
  obtain ⟨D, dd, fs, c, cv, b, rfl, rfl, hdd, C, rfl, hcv, e, q⟩ := h
  cases r with
  | cons rx rr =>
    cases rr with
    | cons rt rr =>
      cases rr
      cases rx
      have ec := hcv.eq rt
      subst ec
      obtain ⟨hget, _⟩ := I.pin (a, oe) (List.mem_append.mpr (.inl List.mem_cons_self))
      obtain ⟨vs, hv⟩ := hf
      have hx : ObjOk X.prog X.w H s.heap dd (.xd fs) := I.hok dd _ hdd
      obtain ⟨mA, hns, hr⟩ := hx
      obtain ⟨od, ho, hl⟩ := lookIn_ns hns
      have J : PySem.W.InstAt s.heap a oe D (some od) := ⟨hget, hz.1, by unfold PySem.W.notCls; rw [hv] <;> rfl, by rw [hz.2]; exact ho⟩
      obtain ⟨cd, hc, _⟩ := PySem.W.any_some C.hd
      exact PySem.W.kia_one (PySem.W.kitx_exc (by rw [hc]; rfl) C.ga C.gg C.hs C.ha C.hn C.ht C.hm) I.kIn J e (fun z => nomatch z) fun tk => ⟨.bl b, H, I.kept (t' := tk) fun _ _ z => z, rfl, q⟩
/-- e.f: the reading names the class -/
def tXfX (K : PySem.W.Frag) (a : Addr) (cls : Value) (d : Option Addr) (f : Str) (te : TE) : TE := fun σ H Q => te σ H fun x H1 => x = .ref a ∧ ∃ (C dd : Addr) (fs : List (Str × V)) (v : V), cls = .ref C ∧ XC K C ∧ PySem.W.findIn K (.ref C) f = some none ∧ d = some dd ∧ H1 dd = some (.xd fs) ∧ fs.lookup f = some v ∧ Q v H1
theorem pe_xfX {X : Cx} {a : Addr} {oe : Obj} {cls : Value} {d : Option Addr} {pn : List (Addr × Obj)} {e : Expr} {te : TE} {pos : Pos} {n : Str}
    (hz : Zc cls d oe) (hf : ∃ vs, oe.data = .fields vs) (he : PE (X.suite a ((a, oe) :: pn)) e te) (hb : attributeBase e n X.env (eval e X.env) = eval e X.env := by rfl) :
    PE (X.suite a ((a, oe) :: pn)) (.Attribute e n pos) (tXfX X.K a cls d n te) := by
  refine ⟨fun pins s σ H Q I h => ?_⟩
  refine attr_of hb (thn (he.run pins s σ H _ I h) fun u s1 hh => ?_)
  obtain ⟨x, H1, I1, rx, ex, C, dd, fs, v, ec, T, hno, ed, ea, l, q⟩ := hh
  subst ex
  obtain rfl : u = Value.ref a := rx
  subst ec
  subst ed
  obtain ⟨ha, _⟩ := I1.pin (a, oe) (List.mem_append_left _ List.mem_cons_self)
  obtain ⟨vs, hd⟩ := hf
  have hx : ObjOk X.prog X.w H1 s1.heap dd (.xd fs) := I1.hok dd _ ea
  obtain ⟨mA, hns, hr⟩ := hx
  obtain ⟨od, ho, hl⟩ := lookIn_ns hns
  obtain ⟨u, hu, ru⟩ := RelO.some_of (v := v) (o := mA n) (by rw [← l]; exact hr n)
  have J : PySem.W.InstAt s1.heap a oe C (some od) := ⟨ha, hz.1, by unfold PySem.W.notCls; rw [hd] <;> rfl, by rw [hz.2]; exact ho⟩
  exact HandSPX.exc_get I1.kIn J T.ga T.gg T.hs (PySem.W.findObj_own T.hd hno rfl (by rw [hl, hu])) (handed_of ru) ⟨v, H1, I1.tok _, ru, q⟩
/-! ### calls in a try's body: the way out sees the slots -/
def tMethW (C : Addr) (m : Str) (sp : Sp) (dvs : List V) (E : St → XK) (ta : TE) (t : TA) : TE := fun σ H Q => tMeth C m sp dvs (E σ) ta t σ H Q
section
variable {X : Cx} {CX : CXT} {k : Nat} {f C : Addr} {fd : FuncData} {ps : List Str} {sp : Sp} {dvs : List V} {ds : List Value} {E : St → XK} {x m : Str} {p pos apos : Pos} {e o : Expr} {es : List Expr} {ta : TE} {t : TA}
theorem pe_methW {pl : Sem Bool} (he : PE X o ta) (c : Cls X.K C) (hm : Meth X.K C m f) (F : FnOk X.prog X.w X.K X.mg X.base CX k f fd ps sp) (hr : Room k X.A) (hb : Binds X.K fd ps ds) (hd : Vals dvs ds) (hx : ∀ σ, PassesAt CX X σ (E σ)) (ha : PA X (e :: es) t)
    (hst : starEach (e :: es) X.env = (false, eval e X.env) :: starEach es X.env := by rfl) (hpl : (backTo pos (starEach es X.env)).any (·.1) = false := by rfl)
    (ht : eval (.Call (.Attribute o m apos) (e :: es) [] pos) X.env = (do
      let ov ← eval o X.env
      standAt apos.atName
      let (f, first) ← holding [ov] (getMethod ov m pl)
      callWith pos f first (backTo pos (starEach (e :: es) X.env)) (backToKw pos (keywordEach [] X.env))) := by rfl) :
    PE X (.Call (.Attribute o m apos) (e :: es) [] pos) (tMethW C m sp dvs E ta t) := by
  refine ⟨fun pins s σ H Q I h => ?_⟩
  refine PySem.W.methodCall_KW (pl := pl) (thn (he.run pins s σ H _ I h) fun u s1 ⟨x, H1, I1, rx, a, dx, fs, ex, ea, l, q⟩ => ?_) ht
  subst ex
  obtain rfl : u = Value.ref a := rx
  refine getmeth_ok I1 ea c hm l ?_
  refine PySem.W.callWith_K (first := [.ref a]) (h₀ := X.base) I.ok.mod.kin hm.kp (thn (ha.run pos pins s1 σ H1 _ I1 q) fun us s2 ⟨vs, H2, I2, r, q2⟩ => ⟨I2.kIn, ?_⟩) hst hpl
  exact run_fnSD (us := .ref a :: us) (vs := .ref a :: vs) F hr hb hd (hx σ) I2 (.cons rfl r) q2
end
end L2

namespace L2
open PySem PySem.Spec PyProof.Rows
/-- a def that raises nothing where nothing may be raised -/
theorem FnOk.calm {P : Program} {w : World} {K : PySem.W.Frag} {mg : Str → Option Value} {base : Heap} {k : Nat} {f : Addr} {fd : FuncData} {ps : List Str} {sp : Sp} (F : FnOk P w K mg base (L2.CX P w) k f fd ps sp) :
    FnOk P w K mg base CX0 k f fd ps (fun vs H Q _ => sp vs H Q fun _ _ _ => False) :=
  ⟨fun vs H Q _ h => F.len vs H Q _ h, fun A outer s H args us vs Q _ hr he hb hv hs => codeAny_mono (F.run A outer s H args us vs Q _ hr he hb hv hs) fun r s' hq => by
    cases r with
    | error e =>
      obtain ⟨_, _, _, _, _, _, _, _, _, _, _, _, h⟩ := hq
      exact h.elim
    | ok fl =>
      cases fl with
      | ret u => exact hq
      | next => exact hq
      | brk => exact hq
      | cont => exact hq⟩
/-- the way out of a def as its own caller's -/
theorem passX {X : Cx} {E : XK} (tk : Takes X (fun cls d _ H => E cls d H)) : Passes (L2.CX X.prog X.w) X E := passes_call tk fun _ _ _ _ h => h
end L2

namespace L2
open PySem PySem.Spec PyProof.Rows
/-! ### own objects where a built-in asks them: o[k], x in o, len(o), str(o), for x in o, C.m(..) of a staticmethod -/
section
variable {X : Cx} {CX : CXT} {k : Nat} {f C a dx : Addr} {fs : List (Str × V)} {fd : FuncData} {ps : List Str} {sp : Sp} {E : XK} {pins : List (Addr × Obj)} {σ : St} {H : Hp} {s : Shared} {Q : VK} {us : List Value} {vs : List V}
/-- a def's call from within a built-in -/
theorem run_sub {A1 : Around} (hf : A1.frames = some X.stack) (F : FnOk X.prog X.w X.K X.mg X.base CX k f fd ps sp) (hr : Room k A1) (hb : Binds X.K fd ps []) (hx : Passes CX X E) (I : Inv X pins σ H s) (r : Vals vs us) (h : sp vs H Q E) :
    wpAny (model X.prog X.w) A1 (call (.ref f) us) (EP X pins σ Q) X.xe s := by
  have hl : (us ++ []).length = ps.length := by rw [List.append_nil, ← r.length]; exact F.len _ _ _ _ h
  have e := I.env0
  have bt := hb s us I.kIn hl
  rw [List.append_nil] at bt
  refine wpAny_call (codeAny_mono (F.run A1 X.stack s H ⟨us, []⟩ us vs Q E hr ⟨hf, e.mod, e.bs, e.bsz, e.funs, e.frf, e.hok, e.bare⟩ bt r h) fun r s' hq => ?_)
  match r, hq with
  | .error e, hq => exact hx pins σ H s e s' I hq
  | .ok (.ret u), hq => exact I.after hq
theorem stack_of (I : Inv X pins σ H s) : X.A.frames = some X.stack := I.env0.frames
theorem inst_of (I : Inv X pins σ H s) (h : H a = some (.ins C dx fs)) : ∃ ox od, PySem.W.InstAt s.heap a ox C (some od) := by
  obtain ⟨mA, J, _⟩ := ins_get I.hok h
  obtain ⟨od, J, _⟩ := J.look
  exact ⟨_, od, J⟩
/-- o[k] by the class's own def -/
def rGetI (C : Addr) (sp : Sp) (E : XK) : R2 := fun x y H Q => ∃ a dx fs, x = .ref a ∧ H a = some (.ins C dx fs) ∧ sp [x, y] H Q E
theorem pe_getI {ea eb : Expr} {ta tb : TE} {pos : Pos} (m : Meth X.K C "__getitem__" f) (hfi : PySem.W.fnIn X.K f = true) (F : FnOk X.prog X.w X.K X.mg X.base CX k f fd ps sp) (hr : Room (k + 1) X.A) (hb : Binds X.K fd ps []) (hx : Passes CX X E)
    (ha : PE X ea ta) (hbe : PE X eb tb) (hsl : ∀ (x : Addr) (i : Value), subscripted eb true (.ref x) i = runValue (.builtin "lifetime.subscript" ⟨[.ref x, i], []⟩) := by intro _ _; with_unfolding_all rfl) : PE X (.Subscript ea eb pos) (tOp (rGetI C sp E) ta tb) := by
  refine ⟨fun pins s σ H Q I h => ?_⟩
  refine Subscript_ (binT ha hbe I h fun v u s2 x y H2 I2 rx ry q => ?_)
  obtain ⟨a, dx, fs, rfl, ho, q⟩ := q
  cases rx
  obtain ⟨ox, od, J⟩ := inst_of I2 ho
  obtain ⟨mf, hF⟩ := I2.fr
  exact PySem.W.sub_K hF I2.ok.mod.kin J m.at_ hfi m.fn (run_sub (A1 := X.A.in1) (us := [.ref a, u]) (vs := [.ref a, y]) (stack_of I2) F hr.in1 hb hx I2 (.cons rfl (.cons ry .nil)) q) (hsl a u)
/-- x in o, x not in o -/
def rInI (C : Addr) (sp : Sp) (E : XK) (neg : Bool) : R2 := fun x y H Q => ∃ a dx fs, y = .ref a ∧ H a = some (.ins C dx fs) ∧ sp [y, x] H (fun v H' => ∃ b : Bool, v = .bl b ∧ Q (.bl (if neg then !b else b)) H') E
theorem truth_bl {A : Around} {E' : Value → Shared → Prop} {b : Bool} {s : Shared} {Qb : Bool → Shared → Prop} (h : Qb b s) : wpAny (model X.prog X.w) A (truthy (.bool b)) Qb E' s := by
  unfold truthy
  exact wpAny_pure h
theorem op_inI (m : Meth X.K C "__contains__" f) (F : FnOk X.prog X.w X.K X.mg X.base CX k f fd ps sp) (hr : Room k X.A) (hb : Binds X.K fd ps []) (hx : Passes CX X E) : OpR X (compareOp .In) (rInI C sp E false) := by
  intro pins s σ H x y v u Q I rx ry h
  obtain ⟨a, dx, fs, rfl, ho, q⟩ := h
  cases ry
  obtain ⟨ox, od, J⟩ := inst_of I ho
  obtain ⟨mf, hF⟩ := I.fr
  refine PySem.W.in_K hF I.ok.mod.kin J m.at_ m.fn (thn (run_sub (us := [.ref a, v]) (vs := [.ref a, x]) (stack_of I) F hr hb hx I (.cons rfl (.cons rx .nil)) q) fun r s' z => ?_)
  obtain ⟨z1, H1, I1, r1, b, rfl, q1⟩ := z
  cases r1
  exact truth_bl ⟨.bl b, H1, I1, rfl, q1⟩
theorem op_ninI (m : Meth X.K C "__contains__" f) (F : FnOk X.prog X.w X.K X.mg X.base CX k f fd ps sp) (hr : Room k X.A) (hb : Binds X.K fd ps []) (hx : Passes CX X E) : OpR X (compareOp .NotIn) (rInI C sp E true) := by
  intro pins s σ H x y v u Q I rx ry h
  obtain ⟨a, dx, fs, rfl, ho, q⟩ := h
  cases ry
  obtain ⟨ox, od, J⟩ := inst_of I ho
  obtain ⟨mf, hF⟩ := I.fr
  refine PySem.W.notIn_K hF I.ok.mod.kin J m.at_ m.fn (thn (run_sub (us := [.ref a, v]) (vs := [.ref a, x]) (stack_of I) F hr hb hx I (.cons rfl (.cons rx .nil)) q) fun r s' z => ?_)
  obtain ⟨z1, H1, I1, r1, b, rfl, q1⟩ := z
  cases r1
  exact truth_bl ⟨.bl (!b), H1, I1, rfl, q1⟩
/-- len(o) -/
def rLenI (C : Addr) (sp : Sp) (E : XK) : List V → Hp → VK → Prop := fun xs H Q => ∃ a dx fs, xs = [.ref a] ∧ H a = some (.ins C dx fs) ∧ sp [.ref a] H (fun v H' => ∃ n : Int, v = .int n ∧ 0 ≤ n ∧ n < 2 ^ 63 ∧ Q (.int n) H') E
theorem call_lenI (m : Meth X.K C "__len__" f) (F : FnOk X.prog X.w X.K X.mg X.base CX k f fd ps sp) (hr : Room (k + 1) X.A) (hb : Binds X.K fd ps []) (hx : Passes CX X E) : CallR X (.builtin "len") (rLenI C sp E) := by
  intro pins s σ H xs us Q I r h
  obtain ⟨a, dx, fs, rfl, ho, q⟩ := h
  obtain ⟨u, rfl, ru⟩ := vals1 r
  cases ru
  obtain ⟨ox, od, J⟩ := inst_of I ho
  obtain ⟨mf, hF⟩ := I.fr
  refine PySem.W.len_K hF I.ok.mod.kin J m.at_ m.fn (thn (run_sub (A1 := X.A.in1) (us := [.ref a]) (vs := [.ref a]) (stack_of I) F hr.in1 hb hx I (.cons rfl .nil) q) fun r s' z => ?_)
  obtain ⟨z1, H1, I1, r1, n, rfl, h0, h1, q1⟩ := z
  obtain ⟨t, rfl⟩ := r1
  exact ⟨⟨h0, h1⟩, .int n, H1, I1.tok _, ⟨_, rfl⟩, q1⟩
/-- str(o) -/
def rStrI (C : Addr) (sp : Sp) (E : XK) : List V → Hp → VK → Prop := fun xs H Q => ∃ a dx fs, xs = [.ref a] ∧ H a = some (.ins C dx fs) ∧ sp [.ref a] H (fun v H' => ∃ z : Str, v = .str z ∧ Q (.str z) H') E
theorem call_strI (m : Meth X.K C "__str__" f) (F : FnOk X.prog X.w X.K X.mg X.base CX k f fd ps sp) (hr : Room (k + 2) X.A) (hb : Binds X.K fd ps []) (hx : Passes CX X E) : CallR X (.type "str") (rStrI C sp E) := by
  intro pins s σ H xs us Q I r h
  obtain ⟨a, dx, fs, rfl, ho, q⟩ := h
  obtain ⟨u, rfl, ru⟩ := vals1 r
  cases ru
  obtain ⟨ox, od, J⟩ := inst_of I ho
  have hr2 : Room k X.A.in1.in1 := hr.in1.in1
  refine PySem.W.kso_call hr2.units0 I.kIn J m.at_ m.fn (thn (run_sub (A1 := X.A.in1.in1) (us := [.ref a]) (vs := [.ref a]) (stack_of I) F hr2 hb hx I (.cons rfl .nil) q) fun r s' z => ?_)
  obtain ⟨z1, H1, I1, r1, y, rfl, q1⟩ := z
  obtain ⟨t, rfl⟩ := r1
  exact ⟨.str y, H1, I1, ⟨_, rfl⟩, q1⟩
end
/-! ### a staticmethod through its class -/
structure SMet (K : PySem.W.Frag) (C : Addr) (mc : Value) (m : Str) (p g : Addr) : Prop where
  at_ : PySem.W.findCls K (.ref C) mc m = some (.get (.builtin "staticmethod.__get__") (.ref p) .none (.ref C))
  rc : ∃ rest, PySem.W.recIn K p "staticmethod" = some (.ref g :: rest)
  kp : PySem.W.keepIn K (.ref g) = true
def tSMeth (C : Addr) (sp : Sp) (E : XK) (ta : TE) (t : TA) : TE := fun σ H Q => ta σ H fun x H1 => x = .ref C ∧ t σ H1 fun vs H2 => sp vs H2 Q E
section
variable {X : Cx} {CX : CXT} {k : Nat} {C p g : Addr} {mc : Value} {fd : FuncData} {ps : List Str} {sp : Sp} {E : XK} {o e : Expr} {es : List Expr} {m : Str} {pos apos : Pos} {ta : TE} {t : TA} {pl : Sem Bool}
theorem getsm_ok {pins : List (Addr × Obj)} {σ : St} {H : Hp} {s : Shared} {A : Around} {E' : Value → Shared → Prop} {Q : Value × List Value → Shared → Prop} (I : Inv X pins σ H s) (r : ClX.CRead X.K C mc) (c : SMet X.K C mc m p g)
    (h : ∀ s', Inv X pins σ H s' → Q (.ref g, []) s') : wpAny (model X.prog X.w) A (getMethod (.ref C) m pl) Q E' s := by
  obtain ⟨rest, hp⟩ := c.rc
  refine PySem.W.method_cls I.kIn r.ga (PySem.W.cls_bind I.kIn r.rd c.at_ (wpAny_call ?_))
  exact PySem.W.sm_get (s := { s with toks := s.toks + 1 }) I.kIn hp (PySem.W.handed_on rfl (h _ (I.tok _)))
theorem pe_smeth (he : PE X o ta) (r : ClX.CRead X.K C mc) (c : SMet X.K C mc m p g) (F : FnOk X.prog X.w X.K X.mg X.base CX k g fd ps sp) (hr : Room k X.A) (hb : Binds X.K fd ps []) (hx : Passes CX X E) (ha : PA X (e :: es) t)
    (hst : starEach (e :: es) X.env = (false, eval e X.env) :: starEach es X.env := by rfl) (hpl : (backTo pos (starEach es X.env)).any (·.1) = false := by rfl)
    (ht : eval (.Call (.Attribute o m apos) (e :: es) [] pos) X.env = (do
      let ov ← eval o X.env
      standAt apos.atName
      let (f, first) ← holding [ov] (getMethod ov m pl)
      callWith pos f first (backTo pos (starEach (e :: es) X.env)) (backToKw pos (keywordEach [] X.env))) := by rfl) :
    PE X (.Call (.Attribute o m apos) (e :: es) [] pos) (tSMeth C sp E ta t) := by
  refine ⟨fun pins s σ H Q I h => PySem.W.methodCall_KW (pl := pl) (thn (he.run pins s σ H _ I h) fun u s1 ⟨x, H1, I1, rx, ex, q⟩ => ?_) ht⟩
  subst ex
  obtain rfl : u = Value.ref C := rx
  refine getsm_ok I1 r c fun s2 I2 => ?_
  refine PySem.W.callWith_K (first := []) (h₀ := X.base) I.ok.mod.kin c.kp (thn (ha.run pos pins s2 σ H1 _ I2 q) fun us s3 ⟨vs, H2, I3, rv, q2⟩ => ⟨I3.kIn, ?_⟩) hst hpl
  exact run_sub (us := us) (vs := vs) (stack_of I3) F hr hb hx I3 rv q2
/-- the same in a try's body: the way out sees the slots -/
def tSMethW (C : Addr) (sp : Sp) (E : St → XK) (ta : TE) (t : TA) : TE := fun σ H Q => tSMeth C sp (E σ) ta t σ H Q
theorem pe_smethW {E : St → XK} (he : PE X o ta) (r : ClX.CRead X.K C mc) (c : SMet X.K C mc m p g) (F : FnOk X.prog X.w X.K X.mg X.base CX k g fd ps sp) (hr : Room k X.A) (hb : Binds X.K fd ps []) (hx : ∀ σ, PassesAt CX X σ (E σ)) (ha : PA X (e :: es) t)
    (hst : starEach (e :: es) X.env = (false, eval e X.env) :: starEach es X.env := by rfl) (hpl : (backTo pos (starEach es X.env)).any (·.1) = false := by rfl)
    (ht : eval (.Call (.Attribute o m apos) (e :: es) [] pos) X.env = (do
      let ov ← eval o X.env
      standAt apos.atName
      let (f, first) ← holding [ov] (getMethod ov m pl)
      callWith pos f first (backTo pos (starEach (e :: es) X.env)) (backToKw pos (keywordEach [] X.env))) := by rfl) :
    PE X (.Call (.Attribute o m apos) (e :: es) [] pos) (tSMethW C sp E ta t) := by
  refine ⟨fun pins s σ H Q I h => PySem.W.methodCall_KW (pl := pl) (thn (he.run pins s σ H _ I h) fun u s1 ⟨x, H1, I1, rx, ex, q⟩ => ?_) ht⟩
  subst ex
  obtain rfl : u = Value.ref C := rx
  refine getsm_ok I1 r c fun s2 I2 => ?_
  refine PySem.W.callWith_K (first := []) (h₀ := X.base) I.ok.mod.kin c.kp (thn (ha.run pos pins s2 σ H1 _ I2 q) fun us s3 ⟨vs, H2, I3, rv, q2⟩ => ⟨I3.kIn, ?_⟩) hst hpl
  exact run_fnSD (us := us) (vs := vs) F hr hb .nil (hx σ) I3 rv (by rw [List.append_nil]; exact q2)
end
end L2

namespace L2
open PySem PySem.Spec PyProof.Rows
/-! ### for x in o, o's __iter__ gives iter(o.f), f a list -/
section
variable {P : Program} {w : World} {K : PySem.W.Frag} {mg : Str → Option Value} {base : Heap} {x qual : Str} {st : Stmt} {f : Addr} {fd : FuncData} {N ps : List Str} {k : Nat}
/-- one call of a def, told from its state -/
theorem fn_here {A : Around} {outer : List Env} {s : Shared} {H : Hp} {us : List Value} {vs : List V} {Q : VK} {E : XK} (F : Fun K x qual st f fd) (S : FnScope N ps (defScope st)) (hb : Binds K fd ps []) (hr : Room (k + 1) A) (e0 : Env0 P w K mg base A outer s H)
    (r : Vals vs us) (hl : vs.length = ps.length)
    (body : ∀ cdv, Room k (A.deeper (envOfC qual (defScope st) s.heap.objs.size f cdv)) → ∃ t, PSs (cxOf CX0 P w K mg base N qual (defScope st) f cdv A outer s H E).nox (defBody st) t ∧ t { nx := fun _ H' => Q .non H', rt := Q } (start N vs) H) :
    codeAny (model P w) A (.call (.ref f) ⟨us, []⟩) (CR CX0 outer P w H s Q E) s := by
  obtain ⟨oc, od, kV, doc, pm, an, cdv, ct, osl, rfl, lk, hcd⟩ := F.ex
  have KX : K.In s.heap := PySem.W.Frag.In.keeps e0.mod.kin (fun b o q => (e0.bs b o q).1)
  have NL : s.heap.NoLimit := Heap.NoLimit.keeps e0.mod.nolimit (fun b o q => (e0.bs b o q).1)
  have lu : (us ++ []).length = ps.length := by rw [List.append_nil, ← r.length, hl]
  have bt := hb s us KX lu
  rw [List.append_nil] at bt
  obtain ⟨t, ht, hq⟩ := body cdv (hr.deeper _)
  refine codeAny_call_function hr.depth (KX _ _ lk) rfl S.co S.gen rfl (PySem.W.codeRec_of KX hcd) (bt _ _ _ _ (wpAny_newFunctionEnv_cells S.kind ?_ ?_))
  · intro y hy
    have m := (List.of_mem_zip (a := y.1) (b := y.2) hy).1
    exact (S.par y.1 m).elim .inl fun z => .inr ⟨z, PySem.W.cellsFrom_some _ _ _ (.inl z)⟩
  · intro env he s1 ic
    subst he
    have I : Inv (cxOf CX0 P w K mg base N qual (defScope st) f cdv A outer s H E) [] (start N vs) H s1 := inv_start S hr.hd e0 hl r ic
    refine ⟨NL.keeps ic.toInCall.keep, codeAny_func (wpAny_mono (ht.nox.run [] s1 (start N vs) H _ I hq) (fun fl s' z => ?_) fun _ _ z => z)⟩
    match fl, z with
    | .ret u, ⟨v, _, H', J, rv, q⟩ => exact ⟨v, H', J.os, J.bare, J.base, J.hok, rv, q⟩
    | .next, ⟨_, H', J, q⟩ => exact ⟨V.non, H', J.os, J.bare, J.base, J.hok, rfl, q⟩
    | .brk, ⟨_, _, _, q⟩ => exact q.elim
    | .cont, ⟨_, _, _, q⟩ => exact q.elim
/-- what such an __iter__ promises: a new iterator of the list, younger than the call -/
def IterOk (P : Program) (w : World) (K : PySem.W.Frag) (mg : Str → Option Value) (base : Heap) (k : Nat) (g C : Addr) (fl : Str) : Prop :=
  ∀ (A : Around) (outer : List Env) (s : Shared) (H : Hp) (a dx l : Addr) (fs : List (Str × V)) (xs : List V) (Q : VK) (E : XK), Room k A → Env0 P w K mg base A outer s H → H a = some (.ins C dx fs) → fs.lookup fl = some (.ref l) → SqL K H l xs →
    (∀ it, H it = none → s.heap.objs.size ≤ it → Q (.ref it) (upd H it (ItO l it 0))) → codeAny (model P w) A (.call (.ref g) ⟨[.ref a], []⟩) (CR CX0 outer P w H s Q E) s
end
def iOwn (K : PySem.W.Frag) (C : Addr) (f : Str) (tl : TE) : TI := fun σ H R => tl σ H fun x H1 => ∃ (a dx l : Addr) (fs : List (Str × V)) (xs : List V), x = .ref a ∧ H1 a = some (.ins C dx fs) ∧ fs.lookup f = some (.ref l) ∧ SqL K H1 l xs ∧ R (Itl K l) H1
section
variable {X : Cx} {tg o : Expr} {tl : TE} {k : Nat} {g C : Addr} {fl : Str}
theorem pi_own (m : Meth X.K C "__iter__" g) (F : IterOk X.prog X.w X.K X.mg X.base k g C fl) (hr : Room k X.A) (ho : PE X o tl) : PI X tg o (iOwn X.K C fl tl) := by
  refine ⟨fun pins s σ H R I h => thn (ho.run pins s σ H _ I h) fun v s1 ⟨x, H1, I1, r1, a, dx, l, fs, xs, ex, ha, hf, hq, q⟩ => ?_⟩
  subst ex
  cases r1
  obtain ⟨ox, od, J⟩ := inst_of I1 ha
  obtain ⟨mf, hF⟩ := I1.fr
  refine PySem.W.owit_iter hF I1.ok.mod.kin J m.at_ m.fn (wpAny_call (codeAny_mono (F X.A X.stack s1 H1 a dx l fs xs (fun v H2 => ∃ it, v = .ref it ∧ H1 it = none ∧ s1.heap.objs.size ≤ it ∧ H2 = upd H1 it (ItO l it 0)) E0 hr I1.env0 ha hf hq fun it n1 n2 => ⟨it, rfl, n1, n2, rfl⟩) fun r s' z => ?_))
  match r, z with
  | .error _, z => exact z.elim
  | .ok (.ret u), z =>
    obtain ⟨v2, H2, I2, r2, it, rfl, n1, n2, rfl⟩ := I1.after z
    cases r2
    have eo := itO_get I2 upd_same
    have hT : s'.TypeIs (.ref it) "list_iterator" := ⟨_, eo, rfl⟩
    have I3 := ItX.inv_drop I2 (a := it) (by rw [upd_same]; rfl)
    rw [ItX.dropH_upd n1] at I3
    refine wpAny_specialOf (name := Str.ofString "__next__") hT slot_listiter_next.lookup ?_
    refine ⟨it, [it], _, _, H1, rfl, I3, turn_list l it, ⟨_, eo, rfl, rfl⟩, fun b hb => ?_, q⟩
    obtain rfl : b = it := by simpa using hb
    exact I1.fpOk n2 n1
end
end L2

namespace L2
open PySem PySem.Spec PyProof.Rows
/-! ### defs with *rest, instances made by C(), C(*a), C(*a, *b) -/
/-- what a def with ps and *pv binds -/
def StarB (fd : FuncData) (ps : List Str) (pv : Str) : Prop := ∀ us rest : List Value, us.length = ps.length → bindArgs fd ⟨us ++ rest, []⟩ = (newTuple rest >>= fun t => pure (ps.zip us ++ [(pv, t)]))
/-- its promise: from that of its body, the rest as a new tuple -/
def spStar (n : Nat) (sp : Sp) : Sp := fun vs H Q E => ∃ ws rest, vs = ws ++ rest ∧ ws.length = n ∧ rest.length ≤ sizeLine ∧ ∀ p, H p = none → sp (ws ++ [V.ref p]) (upd H p (.tup rest)) Q E
section
variable {P : Program} {w : World} {K : PySem.W.Frag} {mg : Str → Option Value} {base : Heap} {x qual : Str} {st : Stmt} {f : Addr} {fd : FuncData} {N ps : List Str} {pv : Str} {k : Nat} {sp : Sp}
theorem Fun.starX (F : Fun K x qual st f fd) (S : FnScope N (ps ++ [pv]) (defScope st)) (hb : StarB fd ps pv)
    (body : ∀ (cdv : Value) (A : Around) (outer : List Env) (s : Shared) (H : Hp) (vs : List V) (Q : VK) (E : XK), Room k (A.deeper (envOfC qual (defScope st) s.heap.objs.size f cdv)) → sp vs H Q E →
      ∃ t, PSs (cxOf (L2.CX P w) P w K mg base N qual (defScope st) f cdv A outer s H E) (defBody st) t ∧ t { nx := fun _ H' => Q .non H', rt := Q } (start N vs) H) : FnR P w K mg base (L2.CX P w) (k + 1) f (spStar ps.length sp) := by
  obtain ⟨oc, od, kV, doc, pm, an, cdv, ct, osl, rfl, lk, hcd⟩ := F.ex
  exact StX.fn_star lk hcd S StX.cxUp hb fun A outer s H vs Q E hr h => body cdv A outer s H vs Q E hr h
theorem FnR.calm (F : FnR P w K mg base (L2.CX P w) k f sp) : FnR P w K mg base CX0 k f (fun vs H Q _ => sp vs H Q fun _ _ _ => False) := fun A outer s H us vs Q _ hr e0 r h =>
  codeAny_mono (F A outer s H us vs Q _ hr e0 r h) fun r s' hq => by
    match r, hq with
    | .error _, ⟨_, _, _, _, _, _, _, _, _, _, _, _, z⟩ => exact z.elim
    | .ok (.ret _), hq => exact hq
end
/-- two starred arguments -/
theorem evalArgs_two {M : Model} {A : Around} {E : Value → Shared → Prop} {s : Shared} {f : Value} {a b : Bool × Sem Value} {rest : List (Bool × Sem Value)} {Q : Args → Shared → Prop} (h : wpAny M A (spliced (a :: b :: rest)) (fun vs s' => Q ⟨vs, []⟩ s') E s) : wpAny M A (evalArgs f true (a :: b :: rest) []) Q E s := by
  obtain ⟨a1, a2⟩ := a
  unfold evalArgs
  cases a1
  · show wpAny M A (spliced ((false, a2) :: b :: rest) >>= _) Q E s
    exact wpAny_bind (wpAny_mono h (fun vs s' q => wpAny_holding (wpAny_bind (wpAny_pure (wpAny_bind (wpAny_pure (wpAny_pure q)))))) fun _ _ z => z)
  · show wpAny M A (spliced ((true, a2) :: b :: rest) >>= _) Q E s
    exact wpAny_bind (wpAny_mono h (fun vs s' q => wpAny_holding (wpAny_bind (wpAny_pure (wpAny_bind (wpAny_pure (wpAny_pure q)))))) fun _ _ z => z)
section
variable {X : Cx} {CX : CXT} {k : Nat} {f C : Addr} {sp : Sp} {E : XK} {x : Str} {e e1 e2 : Expr} {es : List Expr} {te : TE} {t : TA} {p q1 q2 pos : Pos}
theorem pe_makeR0 (M : Mk X.K C f) (F : FnR X.prog X.w X.K X.mg X.base CX k f sp) (hr : Room (k + 1) X.A) (hg : Gl X x) (hm : X.mg x = some (.ref C)) (hx : Passes CX X E) (hdb : (x == ("__debug__" : Str)) = false := by decide) :
    PE X (.Call (.Name x p) [] [] pos) (StX.tMakeR C sp E tNil) := by
  refine ⟨fun pins s σ H Q I h => wpAny_Call_Name_kw (ld_glob I hg hm ?_ hdb)⟩
  exact PySem.W.callWith_K0 I.kIn M.kp (StX.run_makeR (us := []) (vs := []) M F hr hx I .nil h)
/-- C(*e): the reading -/
def tMakeS (K : PySem.W.Frag) (C : Addr) (sp : Sp) (E : XK) (te : TE) : TE := fun σ H Q => te σ H fun y H1 => ∃ a xs, y = V.ref a ∧ (SqT K H1 a xs ∨ SqL K H1 a xs) ∧ ∀ x dx, H1 x = none → H1 dx = none → dx ≠ x → sp (V.ref x :: xs) (upd (upd H1 dx (.own x)) x (.ins C dx [])) (fun v H2 => v = .non ∧ Q (.ref x) H2) E
theorem pe_makeS1 (M : Mk X.K C f) (F : FnR X.prog X.w X.K X.mg X.base CX k f sp) (hr : Room (k + 1) X.A) (hg : Gl X x) (hm : X.mg x = some (.ref C)) (hx : Passes CX X E) (he : PE X e te) (hdb : (x == ("__debug__" : Str)) = false := by decide)
    (hst : starEach [.Starred e q1] X.env = [(true, eval e X.env)] := by rfl) : PE X (.Call (.Name x p) [.Starred e q1] [] pos) (tMakeS X.K C sp E te) := by
  refine ⟨fun pins s σ H Q I h => wpAny_Call_Name_kw (ld_glob I hg hm (PySem.W.callWith_S (h₀ := X.base) I.ok.mod.kin M.kp (thn (he.run pins s σ H _ I h) fun v s1 ⟨y, H1, I1, ry, a, xs, ey, hxs, q⟩ => ?_) hst) hdb)⟩
  subst ey
  cases ry
  exact StX.star_any I1 hxs fun us s2 I2 rv => ⟨I2.kIn, StX.run_makeR (us := us) (vs := xs) M F hr hx I2 rv q⟩
/-- C(*a, *b) -/
theorem pe_makeS2 (M : Mk X.K C f) (F : FnR X.prog X.w X.K X.mg X.base CX k f sp) (hr : Room (k + 1) X.A) (hg : Gl X x) (hm : X.mg x = some (.ref C)) (hx : Passes CX X E) (ha : PA X [.Starred e1 q1, .Starred e2 q2] t) (hdb : (x == ("__debug__" : Str)) = false := by decide)
    (hst : starEach [.Starred e1 q1, .Starred e2 q2] X.env = [(true, eval e1 X.env), (true, eval e2 X.env)] := by rfl) : PE X (.Call (.Name x p) [.Starred e1 q1, .Starred e2 q2] [] pos) (StX.tMakeR C sp E t) := by
  refine ⟨fun pins s σ H Q I h => wpAny_Call_Name_kw (ld_glob I hg hm ?_ hdb)⟩
  have z := thn (ha.run pos pins s σ H _ I h) (Q' := fun us s1 => X.K.In s1.heap ∧ wpAny (model X.prog X.w) X.A (call (.ref C) ([] ++ us)) (EP X pins σ Q) X.xe s1) fun us s1 ⟨vs, H1, I1, r, q⟩ => ⟨I1.kIn, StX.run_makeR (us := us) (vs := vs) M F hr hx I1 r q⟩
  show wpAny _ _ (callWith pos (.ref C) [] (backTo pos (starEach [.Starred e1 q1, .Starred e2 q2] X.env)) []) _ _ _
  rw [hst] at z ⊢
  exact PySem.W.ks_call rfl (PySem.W.keeps_K M.kp) (evalArgs_two z)
end
/-! ### o + y by the class's own def, y an instance of the class, a list or a tuple -/
def Opd (K : PySem.W.Frag) (C : Addr) (H : Hp) (y : V) : Prop := (∃ b dy gs, y = .ref b ∧ H b = some (.ins C dy gs)) ∨ ∃ b xs, y = .ref b ∧ (SqL K H b xs ∨ SqT K H b xs)
def rOpI (K : PySem.W.Frag) (C : Addr) (sp : Sp) (E : XK) : R2 := fun x y H Q => ∃ a dx fs, x = .ref a ∧ H a = some (.ins C dx fs) ∧ Opd K C H y ∧ sp [x, y] H Q E
/-- what the top must have: the two defs, and of lists and tuples -/
structure OpF (K : PySem.W.Frag) (C : Addr) (nm : String) (g : Addr) : Prop where
  first : PySem.W.selfFirst K C = true
  at_ : PySem.W.findIn K (.ref C) (PySem.dunder nm) = some (some (.ref g))
  fn : PySem.W.isFn K (.ref g) = true
  rev : ∃ rc, PySem.W.findIn K (.ref C) (PySem.dunderR nm) = some rc ∧ (rc = none ∨ ∃ h : Addr, rc = some (.ref h))
  lst : ∃ fo ro, PySem.W.findIn K (.type "list") (PySem.dunder nm) = some fo ∧ PySem.W.findIn K (.type "list") (PySem.dunderR nm) = some ro ∧ PySem.W.subIn K (.type "list") (.ref C) = some false
  tup : ∃ fo ro, PySem.W.findIn K (.type "tuple") (PySem.dunder nm) = some fo ∧ PySem.W.findIn K (.type "tuple") (PySem.dunderR nm) = some ro ∧ PySem.W.subIn K (.type "tuple") (.ref C) = some false
section
variable {prog : Program} {w : World} {A : Around} {E : Value → Shared → Prop} {s : Shared} {K : PySem.W.Frag} {x C L f : Addr} {h₀ : Heap} {m : Str → Option Value} {ox : Obj} {od : Option Obj} {T : String}
/-- the library's row for an operand of a built-in type, told of what a look at its type gives -/
theorem binL {op : Operator} {b : Value} {fo ro rc : Option Value} {Q : Value → Shared → Prop} (F : Fr h₀ L s.heap m) (X₀ : K.In h₀) (I : PySem.W.InstAt s.heap x ox C od) (hb : PySem.W.Looks (model prog w) s.heap (typeOf b) (.type T)) (hc : PySem.W.selfFirst K C = true)
    (hs : PySem.W.findIn K (.ref C) (PySem.dunder op.info.2) = some (some (.ref f))) (hf : PySem.W.isFn K (.ref f) = true) (hr : PySem.W.findIn K (.ref C) (dunderR op.info.2) = some rc) (hp : rc = none ∨ ∃ g : Addr, rc = some (.ref g))
    (h1 : PySem.W.findIn K (.type T) (PySem.dunder op.info.2) = some fo) (h2 : PySem.W.findIn K (.type T) (dunderR op.info.2) = some ro) (hsub : PySem.W.subIn K (.type T) (.ref C) = some false)
    (h : wpAny (model prog w) A (call (.ref f) [.ref x, b]) (PySem.W.CmpBack Q) E s) : wpAny (model prog w) A (binaryOp op (.ref x) b) Q E s := by
  have X := X₀.keeps F.keep
  obtain ⟨cd, rest, hcd, hm⟩ := PySem.W.ksp_first hc
  rcases hi : op.info with ⟨sym, nm'⟩
  rw [hi] at hs hr h1 h2; dsimp only at hs hr h1 h2
  have one := PySem.W.ksp_try X I hs hf h
  obtain ⟨hh, gg, dd, tt, os⟩ := s
  have La := I.type (M := model prog w)
  have Lc := PySem.W.fills_K (M := model prog w) X hcd hm hs
  have Ld := PySem.W.ksp_fillsT (M := model prog w) X h1 h2
  have Le : PySem.W.Looks (model prog w) hh (isSubtype (.type T) (.ref C)) false := PySem.W.looks_subIn X hsub
  have Lf := PySem.W.ksp_inPy (M := model prog w) X hs hr hp
  have Lg : PySem.W.Looks (model prog w) hh (numberSlotInPython (.type T) nm') false := PySem.W.Looks.of_pure rfl
  have Lh : PySem.W.Looks (model prog w) hh (typeLookup (.type T) (dunderR nm')) ro := PySem.W.looks_findIn X h2
  revert Ld
  generalize ((fo.isSome && !isSeqSlot fo) || (ro.isSome && !isSeqSlot ro)) = right
  intro Ld
  have hne : (Value.ref C == Value.type T) = false := Bool.eq_false_iff.mpr fun q => by cases beq_iff_eq.mp q
  simp only [binaryOp, hi]
  refine wpAny_holding (wpAny_bind ?_)
  unfold binaryOp1
  refine wpAny_bind (La.at (wpAny_bind (hb.at (wpAny_bind (Lc.at ?_)))))
  simp only [hne, Bool.false_eq_true, if_false]
  cases right <;> (ksp_lk; refine wpAny_mono one (fun r s' hr' => ?_) (fun _ _ e => e); obtain ⟨v, rfl, hq⟩ := hr'; ksp_lk; exact hq)
end
section
variable {X : Cx} {CX : CXT} {n : Nat} {C g : Addr} {fd : FuncData} {ps : List Str} {sp : Sp} {E : XK}
theorem op_binO {op : Operator} (T : OpF X.K C op.info.2 g) (F : FnOk X.prog X.w X.K X.mg X.base CX n g fd ps sp) (hr : Room n X.A) (hb : Binds X.K fd ps []) (hx : Passes CX X E) : OpR X (binaryOp op) (rOpI X.K C sp E) := by
  intro pins s σ H x y v u Q I rx ry h
  obtain ⟨a, dx, fs, rfl, ho, hy, q⟩ := h
  cases rx
  obtain ⟨ox, od, J⟩ := inst_of I ho
  obtain ⟨mf, hF⟩ := I.fr
  have go := thn (run_sub (us := [.ref a, u]) (vs := [.ref a, y]) (stack_of I) F hr hb hx I (.cons rfl (.cons ry .nil)) q) (Q' := PySem.W.CmpBack (EP X pins σ Q)) fun w s' ⟨z', H', I', rz, qz⟩ => SlX.cmpback rz ⟨z', H', I', rz, qz⟩
  rcases hy with ⟨b, dy, gs, rfl, hb'⟩ | ⟨b, xs, rfl, hq⟩
  · cases ry
    obtain ⟨oy, od', J'⟩ := inst_of I hb'
    exact PySem.W.binop_K (op := op) hF I.ok.mod.kin J J'.type T.first T.at_ T.fn go
  · cases ry
    obtain ⟨rc, r1, r2⟩ := T.rev
    rcases hq with hq | hq
    · obtain ⟨fo, ro, t1, t2, t3⟩ := T.lst
      obtain ⟨its, rv, pl, hz⟩ := I.list hq
      obtain ⟨o, ho, hc, _⟩ := pl.isList
      exact binL hF I.ok.mod.kin J (fun A Q E s k z => wpAny_typeOf_ref (k _ _ ho) (by rw [hc]; exact z)) T.first T.at_ T.fn r1 r2 t1 t2 t3 go
    · obtain ⟨fo, ro, t1, t2, t3⟩ := T.tup
      obtain ⟨its, rv, ⟨o, ho, hc, _⟩, hz⟩ := I.tuple hq
      exact binL hF I.ok.mod.kin J (fun A Q E s k z => wpAny_typeOf_ref (k _ _ ho) (by rw [hc]; exact z)) T.first T.at_ T.fn r1 r2 t1 t2 t3 go
end
end L2

namespace My
open PySem L2
abbrev PP : Program := PySem.Challenge.pw_weblocks_k16_program_parts
def topS (i : Nat) : Stmt := PySem.Challenge.pw_weblocks_k16_program_parts.main.body.getD i (.Pass ⟨0, 0, 0, 0⟩)
abbrev S_sound_step : Stmt := topS 9
abbrev S_Program_init : Stmt := inClass (topS 11) 0
abbrev S_Program_iter : Stmt := inClass (topS 11) 2
abbrev S_Program_eq : Stmt := inClass (topS 11) 3
abbrev S_Program_add : Stmt := inClass (topS 11) 4
abbrev S_Program_things : Stmt := inClass (topS 11) 8
abbrev S_Program_mode_of : Stmt := inClass (topS 11) 9
abbrev S_Program_begin : Stmt := inClass (topS 11) 10
abbrev S__law_draws : Stmt := topS 13
abbrev S__law_take : Stmt := topS 14
abbrev S__law_same : Stmt := topS 15
abbrev S__law_things_of : Stmt := topS 16
abbrev S__law_mode : Stmt := topS 17
abbrev S__law_refused : Stmt := topS 18
abbrev S__law_parts : Stmt := topS 19
abbrev S_law : Stmt := topS 20
abbrev S_TooLarge_init : Stmt := inClass (topS 3) 0
theorem sc_sound_step : FnScope ["step", "deed", "thing"] ["step"] (defScope S_sound_step) := ⟨rfl, rfl, rfl, by decide +kernel, rfl, by decide +kernel, by decide +kernel⟩
theorem sc_Program_init : FnScope ["self", "steps", "step"] ["self", "steps"] (defScope S_Program_init) := ⟨rfl, rfl, rfl, by decide +kernel, rfl, by decide +kernel, by decide +kernel⟩
theorem sc_Program_iter : FnScope ["self"] ["self"] (defScope S_Program_iter) := ⟨rfl, rfl, rfl, by decide +kernel, rfl, by decide +kernel, by decide +kernel⟩
theorem sc_Program_eq : FnScope ["self", "other"] ["self", "other"] (defScope S_Program_eq) := ⟨rfl, rfl, rfl, by decide +kernel, rfl, by decide +kernel, by decide +kernel⟩
theorem sc_Program_add : FnScope ["self", "other"] ["self", "other"] (defScope S_Program_add) := ⟨rfl, rfl, rfl, by decide +kernel, rfl, by decide +kernel, by decide +kernel⟩
theorem sc_Program_things : FnScope ["self", "found", "deed", "thing"] ["self"] (defScope S_Program_things) := ⟨rfl, rfl, rfl, by decide +kernel, rfl, by decide +kernel, by decide +kernel⟩
theorem sc_Program_mode_of : FnScope ["self", "thing", "deed", "other"] ["self", "thing"] (defScope S_Program_mode_of) := ⟨rfl, rfl, rfl, by decide +kernel, rfl, by decide +kernel, by decide +kernel⟩
theorem sc_Program_begin : FnScope ["self", "count", "first"] ["self", "count"] (defScope S_Program_begin) := ⟨rfl, rfl, rfl, by decide +kernel, rfl, by decide +kernel, by decide +kernel⟩
theorem sc__law_draws : FnScope ["_law_script", "_law_draws_here", "_law_cell", "_law_rest", "_law_k", "_law_mixed"] ["_law_script"] (defScope S__law_draws) := ⟨rfl, rfl, rfl, by decide +kernel, rfl, by decide +kernel, by decide +kernel⟩
theorem sc__law_take : FnScope ["_law_draws_here", "_law_at", "_law_size"] ["_law_draws_here", "_law_at", "_law_size"] (defScope S__law_take) := ⟨rfl, rfl, rfl, by decide +kernel, rfl, by decide +kernel, by decide +kernel⟩
theorem sc__law_same : FnScope ["_law_actual", "_law_expected", "_law_k"] ["_law_actual", "_law_expected"] (defScope S__law_same) := ⟨rfl, rfl, rfl, by decide +kernel, rfl, by decide +kernel, by decide +kernel⟩
theorem sc__law_things_of : FnScope ["_law_steps", "_law_things", "_law_step"] ["_law_steps"] (defScope S__law_things_of) := ⟨rfl, rfl, rfl, by decide +kernel, rfl, by decide +kernel, by decide +kernel⟩
theorem sc__law_mode : FnScope ["_law_steps", "_law_thing", "_law_step"] ["_law_steps", "_law_thing"] (defScope S__law_mode) := ⟨rfl, rfl, rfl, by decide +kernel, rfl, by decide +kernel, by decide +kernel⟩
theorem sc__law_refused : FnScope ["_law_program", "_law_count", "e"] ["_law_program", "_law_count"] (defScope S__law_refused) := ⟨rfl, rfl, rfl, by decide +kernel, rfl, by decide +kernel, by decide +kernel⟩
theorem sc__law_parts : FnScope ["_law_program", "_law_steps", "_law_factor", "_law_k", "_law_count", "_law_first", "_law_step"] ["_law_program", "_law_steps", "_law_factor"] (defScope S__law_parts) := ⟨rfl, rfl, rfl, by decide +kernel, rfl, by decide +kernel, by decide +kernel⟩
theorem sc_law : FnScope ["_law_script", "_law_draws_here", "_law_at", "_law_factor", "_law_steps", "_law_k", "_law_thing", "_law_cut", "_law_program", "_law_joined"] ["_law_script"] (defScope S_law) := ⟨rfl, rfl, rfl, by decide +kernel, rfl, by decide +kernel, by decide +kernel⟩
structure Txt (K : PySem.W.Frag) (mg : Str → Option Value) where
  a_sound_step : Addr
  fd_sound_step : FuncData
  F_sound_step : Fun K "sound_step" "sound_step" S_sound_step a_sound_step fd_sound_step
  b_sound_step : Binds K fd_sound_step ["step"] []
  g_sound_step : mg "sound_step" = some (.ref a_sound_step)
  a_Program_init : Addr
  fd_Program_init : FuncData
  F_Program_init : Fun K "__init__" "Program.__init__" S_Program_init a_Program_init fd_Program_init
  bs_Program_init : StarB fd_Program_init ["self"] "steps"
  a_Program_iter : Addr
  fd_Program_iter : FuncData
  F_Program_iter : Fun K "__iter__" "Program.__iter__" S_Program_iter a_Program_iter fd_Program_iter
  b_Program_iter : Binds K fd_Program_iter ["self"] []
  a_Program_eq : Addr
  fd_Program_eq : FuncData
  F_Program_eq : Fun K "__eq__" "Program.__eq__" S_Program_eq a_Program_eq fd_Program_eq
  b_Program_eq : Binds K fd_Program_eq ["self", "other"] []
  a_Program_add : Addr
  fd_Program_add : FuncData
  F_Program_add : Fun K "__add__" "Program.__add__" S_Program_add a_Program_add fd_Program_add
  b_Program_add : Binds K fd_Program_add ["self", "other"] []
  a_Program_things : Addr
  fd_Program_things : FuncData
  F_Program_things : Fun K "things" "Program.things" S_Program_things a_Program_things fd_Program_things
  b_Program_things : Binds K fd_Program_things ["self"] []
  a_Program_mode_of : Addr
  fd_Program_mode_of : FuncData
  F_Program_mode_of : Fun K "mode_of" "Program.mode_of" S_Program_mode_of a_Program_mode_of fd_Program_mode_of
  b_Program_mode_of : Binds K fd_Program_mode_of ["self", "thing"] []
  a_Program_begin : Addr
  fd_Program_begin : FuncData
  F_Program_begin : Fun K "begin" "Program.begin" S_Program_begin a_Program_begin fd_Program_begin
  b_Program_begin : Binds K fd_Program_begin ["self", "count"] []
  a__law_draws : Addr
  fd__law_draws : FuncData
  F__law_draws : Fun K "_law_draws" "_law_draws" S__law_draws a__law_draws fd__law_draws
  b__law_draws : Binds K fd__law_draws ["_law_script"] []
  g__law_draws : mg "_law_draws" = some (.ref a__law_draws)
  a__law_take : Addr
  fd__law_take : FuncData
  F__law_take : Fun K "_law_take" "_law_take" S__law_take a__law_take fd__law_take
  b__law_take : Binds K fd__law_take ["_law_draws_here", "_law_at", "_law_size"] []
  g__law_take : mg "_law_take" = some (.ref a__law_take)
  a__law_same : Addr
  fd__law_same : FuncData
  F__law_same : Fun K "_law_same" "_law_same" S__law_same a__law_same fd__law_same
  b__law_same : Binds K fd__law_same ["_law_actual", "_law_expected"] []
  g__law_same : mg "_law_same" = some (.ref a__law_same)
  a__law_things_of : Addr
  fd__law_things_of : FuncData
  F__law_things_of : Fun K "_law_things_of" "_law_things_of" S__law_things_of a__law_things_of fd__law_things_of
  b__law_things_of : Binds K fd__law_things_of ["_law_steps"] []
  g__law_things_of : mg "_law_things_of" = some (.ref a__law_things_of)
  a__law_mode : Addr
  fd__law_mode : FuncData
  F__law_mode : Fun K "_law_mode" "_law_mode" S__law_mode a__law_mode fd__law_mode
  b__law_mode : Binds K fd__law_mode ["_law_steps", "_law_thing"] []
  g__law_mode : mg "_law_mode" = some (.ref a__law_mode)
  a__law_refused : Addr
  fd__law_refused : FuncData
  F__law_refused : Fun K "_law_refused" "_law_refused" S__law_refused a__law_refused fd__law_refused
  b__law_refused : Binds K fd__law_refused ["_law_program", "_law_count"] []
  g__law_refused : mg "_law_refused" = some (.ref a__law_refused)
  a__law_parts : Addr
  fd__law_parts : FuncData
  F__law_parts : Fun K "_law_parts" "_law_parts" S__law_parts a__law_parts fd__law_parts
  b__law_parts : Binds K fd__law_parts ["_law_program", "_law_steps", "_law_factor"] []
  g__law_parts : mg "_law_parts" = some (.ref a__law_parts)
  a_law : Addr
  fd_law : FuncData
  F_law : Fun K "law" "law" S_law a_law fd_law
  b_law : Binds K fd_law ["_law_script"] []
  g_law : mg "law" = some (.ref a_law)
  n_ValueError : mg "ValueError" = none
  n_bool : mg "bool" = none
  n_int : mg "int" = none
  n_isinstance : mg "isinstance" = none
  n_iter : mg "iter" = none
  n_len : mg "len" = none
  n_list : mg "list" = none
  n_property : mg "property" = none
  n_range : mg "range" = none
  n_str : mg "str" = none
  n_tuple : mg "tuple" = none
  k_DEEDS : Addr
  g_DEEDS : mg "DEEDS" = some (.ref k_DEEDS)
  q_DEEDS : ∀ H : Hp, SqT K H k_DEEDS [.str "own", .str "share", .str "drop"]
  c_Program : Addr
  g_Program : mg "Program" = some (.ref c_Program)
  cl_Program : Cls K c_Program
  mk_Program : Mk K c_Program a_Program_init
  m_Program_iter : Meth K c_Program "__iter__" a_Program_iter
  m_Program_eq : Meth K c_Program "__eq__" a_Program_eq
  m_Program_add : Meth K c_Program "__add__" a_Program_add
  p_Program_things : Addr
  pr_Program_things : PropOf K c_Program "things" p_Program_things a_Program_things
  m_Program_mode_of : Meth K c_Program "mode_of" a_Program_mode_of
  m_Program_begin : Meth K c_Program "begin" a_Program_begin
  ti_Program : ∀ (H : Hp) (a dx : Addr) (fs : List (Str × V)), H a = some (.ins c_Program dx fs) → TyOf K H (.ref a) (.ref c_Program)
  kk_Program : PySem.W.kitOne K (.ref c_Program) (.ref c_Program) = some true
  ko_Program_list : PySem.W.kitOne K (.ref c_Program) (.type "list") = some false
  ko_Program_tuple : PySem.W.kitOne K (.ref c_Program) (.type "tuple") = some false
  of_Program_add : OpF K c_Program "add" a_Program_add
  no_Program__steps : NoAttr K c_Program "_steps"
  c_TooLarge : Addr
  g_TooLarge : mg "TooLarge" = some (.ref c_TooLarge)
  c_WebError : Addr
  g_WebError : mg "WebError" = some (.ref c_WebError)
  c_BadStep : Addr
  g_BadStep : mg "BadStep" = some (.ref c_BadStep)
  c_Refused : Addr
  g_Refused : mg "Refused" = some (.ref c_Refused)
  x_TooLarge : PySem.WX.ExcTxt PP K mg "TooLarge" "most" c_TooLarge
  xc_TooLarge : XC K c_TooLarge
  xn_TooLarge : PySem.W.findIn K (.ref c_TooLarge) "most" = some none
  em_TooLarge_WebError : PySem.W.exmOne K (.ref c_TooLarge) (.ref c_WebError) = some true
  kt_TooLarge_Refused : PySem.W.kitOne K (.ref c_TooLarge) (.ref c_Refused) = some false
  kt_TooLarge_BadStep : PySem.W.kitOne K (.ref c_TooLarge) (.ref c_BadStep) = some false
  kt_TooLarge_ValueError : PySem.W.kitOne K (.ref c_TooLarge) (.type "ValueError") = some true
  kt_TooLarge_TooLarge : PySem.W.kitOne K (.ref c_TooLarge) (.ref c_TooLarge) = some true
end My
namespace My
open PySem L2
/-! ### heaps: all but a as it was -/
def But (a : Addr) (H H' : Hp) : Prop := ∀ b o, b ≠ a → H b = some o → H' b = some o
theorem But.refl (a : Addr) (H : Hp) : But a H H := fun _ _ _ h => h
theorem But.trans {a : Addr} {H H1 H2 : Hp} (x : But a H H1) (y : But a H1 H2) : But a H H2 := fun b o n h => y b o n (x b o n h)
theorem But.of_same {a : Addr} {H H' : Hp} (s : Same H H') : But a H H' := fun b o _ h => s b o h
theorem But.upd {a : Addr} {H : Hp} {o : HO} : But a H (upd H a o) := fun b u n h => by rw [upd_ne n]; exact h
theorem same_new {H : Hp} {p : Addr} {o : HO} (h : H p = none) : Same H (upd H p o) := fun b x e => by
  rw [upd_ne (ne_of_none e h)]; exact e
theorem But.new {a p : Addr} {H : Hp} {o : HO} (h : H p = none) : But a H (L2.upd H p o) := But.of_same (same_new h)
/-- an object that H does not know may change -/
theorem same_mut {H H' : Hp} {p : Addr} {o : HO} (e : Same H H') (h : H p = none) : Same H (upd H' p o) := fun a u ha => by
  rw [upd_ne (ne_of_none ha h)]; exact e a u ha
theorem But.mut {a p : Addr} {H H' : Hp} {o : HO} (e : But a H H') (h : H p = none) : But a H (L2.upd H' p o) := fun b u n hb => by
  rw [upd_ne (ne_of_none hb h)]; exact e b u n hb
theorem But.free {a p : Addr} {H H' : Hp} (e : But a H H') (n : p ≠ a) (h : H' p = none) : H p = none := by
  cases q : H p with
  | none => rfl
  | some o => rw [e p o n q] at h; cases h
theorem But.sqL {K : PySem.W.Frag} {a d : Addr} {H H' : Hp} {xs : List V} (e : But a H H') (n : d ≠ a) (h : SqL K H d xs) : SqL K H' d xs := by
  rcases h with (h | ⟨o, h⟩) | h
  · exact .inl (.inl (e _ _ n h))
  · exact .inl (.inr ⟨o, e _ _ n h⟩)
  · exact .inr h
theorem But.sqT {K : PySem.W.Frag} {a d : Addr} {H H' : Hp} {xs : List V} (e : But a H H') (n : d ≠ a) (h : SqT K H d xs) : SqT K H' d xs := by
  rcases h with (h | ⟨o, h⟩) | h
  · exact .inl (.inl (e _ _ n h))
  · exact .inl (.inr ⟨o, e _ _ n h⟩)
  · exact .inr h
theorem same_sqT {K : PySem.W.Frag} {d : Addr} {H H' : Hp} {xs : List V} (e : Same H H') (h : SqT K H d xs) : SqT K H' d xs := by
  rcases h with (h | ⟨o, h⟩) | h
  · exact .inl (.inl (e _ _ h))
  · exact .inl (.inr ⟨o, e _ _ h⟩)
  · exact .inr h
theorem same_make {H H5 : Hp} {x dx C : Addr} (nx : H x = none) (nd : H dx = none) (b : But x (L2.upd (L2.upd H dx (.own x)) x (.ins C dx [])) H5) : Same H H5 := fun y o h =>
  b y o (ne_of_none h nx) (by rw [upd_ne (ne_of_none h nx), upd_ne (ne_of_none h nd)]; exact h)
/-! ### tests -/
theorem iteD {c A B : Prop} [Decidable c] (h1 : c → A) (h2 : ¬ c → B) : if decide c = true then A else B := by
  by_cases h : c
  · rw [decide_eq_true h]; exact iteT (h1 h)
  · rw [decide_eq_false h]; exact iteF (h2 h)
theorem iteN {c A B : Prop} [Decidable c] (h1 : ¬ c → A) (h2 : c → B) : if (!decide c) = true then A else B := by
  by_cases h : c
  · rw [decide_eq_true h]; exact iteF (h2 h)
  · rw [decide_eq_false h]; exact iteT (h1 h)
theorem iteB {b : Bool} {A B : Prop} (h1 : b = true → A) (h2 : b = false → B) : if b = true then A else B := by
  cases b with
  | true => exact iteT (h1 rfl)
  | false => exact iteF (h2 rfl)
theorem iteYes {b : Bool} {A B : Prop} (h : b = true) (h1 : A) : if b = true then A else B := by rw [h]; exact iteT h1
theorem iteNo {b : Bool} {A B : Prop} (h : b = false) (h1 : B) : if b = true then A else B := by rw [h]; exact iteF h1
/-! ### lists -/
theorem ints_app (zs : List Int) (z : Int) : (zs.map V.int) ++ [V.int z] = (zs ++ [z]).map V.int := by rw [List.map_append]; rfl
theorem at_ok {xs : List V} {i : Int} (h0 : 0 ≤ i) (h1 : i < xs.length) : ∃ v, atI xs i = some v ∧ v ∈ xs := by
  obtain ⟨j, rfl⟩ := Int.eq_ofNat_of_zero_le h0
  have hj : j < xs.length := by omega
  exact ⟨xs[j], atI_nat (List.getElem?_eq_getElem hj), List.getElem_mem hj⟩
theorem get_int {ns : List Int} {i : Nat} {y : V} (h : (ns.map V.int)[i]? = some y) : ∃ z, ns[i]? = some z ∧ y = .int z := by
  rw [List.getElem?_map] at h
  cases e : ns[i]? with
  | none => rw [e] at h; cases h
  | some z => rw [e] at h; exact ⟨z, rfl, (Option.some.inj h).symm⟩
end My
namespace L2
open PySem
/-! ### rules whose reading names K itself (in a comprehension's block) -/
theorem ixLK {X : Cx} {K : PySem.W.Frag} (h : X.K = K) : IxR X (rIxL K) := h ▸ ix_list
theorem ixTK {X : Cx} {K : PySem.W.Frag} (h : X.K = K) : IxR X (rIxT K) := h ▸ ix_tup
theorem inK {X : Cx} {K : PySem.W.Frag} (h : X.K = K) : OpR X (compareOp .In) (rIn K false) := h ▸ op_in_seq
theorem ninK {X : Cx} {K : PySem.W.Frag} (h : X.K = K) : OpR X (compareOp .NotIn) (rIn K true) := h ▸ op_notIn_seq
theorem pe_fldK {X : Cx} {K : PySem.W.Frag} {e : Expr} {f : Str} {pos : Pos} {ta : TE} (h : X.K = K) (he : PE X e ta) (hb : attributeBase e f X.env (eval e X.env) = eval e X.env) : PE X (.Attribute e f pos) (tFld K ta f) := h ▸ pe_fld he hb
end L2

namespace My
open PySem L2
/-- the draws at d, the place at a -/
structure Dr (K : PySem.W.Frag) (H : Hp) (d a : Addr) : Prop where
  ds : ∃ ns : List Int, H d = some (.lst (ns.map V.int))
  pl : ∃ k : Nat, H a = some (.lst [.int k])
  ne : d ≠ a
theorem Dr.but {K : PySem.W.Frag} {H H' : Hp} {d a : Addr} (x : Dr K H d a) (e : But a H H') (pl : ∃ k : Nat, H' a = some (.lst [.int k])) : Dr K H' d a :=
  ⟨x.ds.elim fun ns h => ⟨ns, e _ _ x.ne h⟩, pl, x.ne⟩
theorem Dr.same {K : PySem.W.Frag} {H H' : Hp} {d a : Addr} (x : Dr K H d a) (e : Same H H') : Dr K H' d a :=
  x.but (But.of_same e) (x.pl.elim fun k h => ⟨k, e _ _ h⟩)
/-- another object is changed -/
theorem Dr.other {K : PySem.W.Frag} {H H' : Hp} {d a p : Addr} (x : Dr K H d a) (e : But p H H') (n1 : d ≠ p) (n2 : a ≠ p) : Dr K H' d a :=
  ⟨x.ds.elim fun ns h => ⟨ns, e _ _ n1 h⟩, x.pl.elim fun k h => ⟨k, e _ _ n2 h⟩, x.ne⟩
theorem Dr.nd {K : PySem.W.Frag} {H : Hp} {d a p : Addr} (x : Dr K H d a) (h : H p = none) : d ≠ p := ne_of_none x.ds.choose_spec h
theorem Dr.na {K : PySem.W.Frag} {H : Hp} {d a p : Addr} (x : Dr K H d a) (h : H p = none) : p ≠ a := (ne_of_none x.pl.choose_spec h).symm
def spTake (K : PySem.W.Frag) : Sp := fun vs H Q _ => ∃ (d a : Addr) (size : Int), vs = [.ref d, .ref a, .int size] ∧ Dr K H d a ∧ 0 < size ∧
  ∀ (r : Int) (H' : Hp), 0 ≤ r → r < size → Dr K H' d a → But a H H' → Q (.int r) H'
section
variable {P : Program} {w : World} {K : PySem.W.Frag} {mg : Str → Option Value} {base : Heap}
theorem ok__law_take (T : Txt K mg) : FnOk P w K mg base CX0 1 T.a__law_take T.fd__law_take ["_law_draws_here", "_law_at", "_law_size"] (spTake K) := by
  refine T.F__law_take.ok sc__law_take (fun vs H Q E h => ?_) (fun cdv A outer s H vs Q E hr h => ?_)
  · obtain ⟨d, a, size, rfl, _⟩ := h; rfl
  · obtain ⟨d, a, size, rfl, D, hs, q⟩ := h
    obtain ⟨ns, hd0⟩ := D.ds
    have hd : SqL K H d (ns.map V.int) := SqL.of hd0
    obtain ⟨k, hk⟩ := D.pl
    have hb : But a H (upd H a (.lst [.int (k + 1 : Nat)])) := But.upd
    have D' : Dr K (upd H a (.lst [.int (k + 1 : Nat)])) d a := D.but hb ⟨_, upd_same⟩
    have hd' := hb.sqL D.ne hd
    refine ⟨_, (pss_cons (ps_asg (pe_op op_add (pe_ix ix_list (pv 1) (pe_int) (fun _ _ => rfl)) (pe_int)) (pg_sub (pv 1) (pe_int) set_list))
      (pss_cons (ps_if (pt_cmpR op_gt (pe_ix ix_list (pv 1) (pe_int) (fun _ _ => rfl)) (pe_callB call_len_seq (by rfl) T.n_len (by decide +kernel) (pa_cons (pv 0) pa_nil)) (nomark _)) (pss_one (ps_ret (pe_int))) pss_nil)
      (pss_one (ps_ret (pe_op op_mod (pe_callTy call_int1 (by rfl) T.n_int (by decide +kernel) (pa_cons (pe_ix ix_list (pv 0) (pe_op op_sub (pe_ix ix_list (pv 1) (pe_int) (fun _ _ => rfl)) (pe_int)) (fun _ _ => rfl)) pa_nil)) (pv 2)))))), ?_⟩
    walk_at "rd"

    refine iteD (fun c => ?_) (fun c => ?_)
    · exact q 0 _ (Int.le_refl _) hs D' hb
    · rw [List.length_map] at c
      have hl : k < ns.length := by omega
      refine ⟨_, rfl, _, rfl, _, _, _, _, rfl, rfl, SqL.of upd_same, atI_nat (j := 0) rfl, _, _, rfl, rfl, _, _, _, _, rfl, rfl, hd', at_of (j := k) (by omega) (by rw [List.getElem?_map, List.getElem?_eq_getElem hl]; rfl), ?_⟩
      walk_at "rd"
      exact q _ _ (Int.emod_nonneg _ (by omega)) (Int.emod_lt_of_pos _ hs) D' hb
end
end My

namespace My
open PySem L2
def spDraws (K : PySem.W.Frag) : Sp := fun vs H Q _ => ∃ (a : Addr) (ns : List Int), vs = [.ref a] ∧ SqL K H a (ns.map V.int) ∧ ns.length ≤ 63 ∧
  ∀ (p : Addr) (zs : List Int) (H' : Hp), Same H H' → H p = none → H' p = some (.lst (zs.map V.int)) → Q (.ref p) H'
section
variable {P : Program} {w : World} {K : PySem.W.Frag} {mg : Str → Option Value} {base : Heap}
theorem ok__law_draws (T : Txt K mg) : FnOk P w K mg base CX0 1 T.a__law_draws T.fd__law_draws ["_law_script"] (spDraws K) := by
  refine T.F__law_draws.ok sc__law_draws (fun vs H Q E h => ?_) (fun cdv A outer s H vs Q E hr h => ?_)
  · obtain ⟨a, ns, rfl, _⟩ := h; rfl
  · obtain ⟨a, ns, rfl, hS, hlen, q⟩ := h
    refine ⟨_, (pss_cons (ps_set (i := 1) sc__law_draws.nd rfl (.inl rfl) (pe_lst pa_nil))
      (pss_cons (ps_for PassesOwn.never rfl (pi_list (pv 0)) (pg_name (i := 2) sc__law_draws.nd rfl (.inl rfl)) (pss_one (ps_if (pt_cmpR op_ge (pv 2) (pe_op op_pow (pe_int) (pe_int)) (nomark _)) (pss_cons (ps_set (i := 3) sc__law_draws.nd rfl (.inl rfl) (pe_callTy call_int1 (by rfl) T.n_int (by decide +kernel) (pa_cons (pv 2) pa_nil)))
      (pss_one (ps_for PassesOwn.never rfl (pi_range1 (by rfl) T.n_range (pa_cons (pe_int) pa_nil)) (pg_name (i := 4) sc__law_draws.nd rfl (.inl rfl)) (pss_one (ps_if (pt_cmpR op_gt (pv 3) (pe_int) (nomark _)) (pss_cons (ps_expr (pe_bm PySem.F.plainAttrs_list PySem.F.slot_list_append PySem.F.type_list_append mt_append (pv 1) (pa_cons (pe_op op_mod (pe_callTy call_int1 (by rfl) T.n_int (by decide +kernel) (pa_cons (pv 3) pa_nil)) (pe_int)) pa_nil)))
      (pss_one (ps_set (i := 3) sc__law_draws.nd rfl (.inl rfl) (pe_op op_fdiv (pv 3) (pe_int))))) pss_nil))))) (pss_cons (ps_set (i := 5) sc__law_draws.nd rfl (.inl rfl) (pe_op op_mod (pe_callTy call_int1 (by rfl) T.n_int (by decide +kernel) (pa_cons (pe_op op_add (pe_op op_mul (pv 2) (pe_int)) (pe_int)) pa_nil)) (pe_int)))
      (pss_cons (ps_expr (pe_bm PySem.F.plainAttrs_list PySem.F.slot_list_append PySem.F.type_list_append mt_append (pv 1) (pa_cons (pv 5) pa_nil)))
      (pss_one (ps_expr (pe_bm PySem.F.plainAttrs_list PySem.F.slot_list_append PySem.F.type_list_append mt_append (pv 1) (pa_cons (pe_op op_mod (pe_callTy call_int1 (by rfl) T.n_int (by decide +kernel) (pa_cons (pe_op op_add (pe_op op_add (pe_op op_mul (pv 5) (pv 5)) (pe_op op_mul (pe_int) (pv 5))) (pe_op op_mul (pe_int) (pe_callB call_len_seq (by rfl) T.n_len (by decide +kernel) (pa_cons (pv 1) pa_nil)))) pa_nil)) (pe_int)) pa_nil)))))))))
      (pss_one (ps_ret (pv 1))))), ?_⟩
    refine ⟨Nat.zero_le _, fun p hp => ?_⟩
    have s0 : Same H (upd H p (.lst [])) := same_new hp
    refine ⟨_, rfl, a, rfl, ⟨_, s0.seq hS⟩, for_list (K := K) (a := a) (xs := ns.map V.int) (fun i σ H' => ∃ (zs : List Int) (x2 x3 x4 x5 : Option V), σ = [some (.ref a), some (.ref p), x2, x3, x4, x5] ∧ Same H H' ∧ H' p = some (.lst (zs.map V.int)) ∧ zs.length ≤ 60 * i)
      ⟨[], _, _, _, _, rfl, s0, upd_same, Nat.zero_le _⟩ (fun i σ H' _ ⟨_, _, _, _, _, _, s1, _⟩ => s1.seq hS) ?_ ?_⟩
    · rintro i y σ H1 hi ⟨zs, x2, x3, x4, x5, rfl, s1, h1, hz⟩
      have hi63 : i < ns.length := by
        have z := (List.getElem?_eq_some_iff.mp hi).1
        rw [List.length_map] at z
        exact z
      obtain ⟨c, hc, rfl⟩ := get_int hi
      refine ⟨_, rfl, _, _, rfl, rfl, ⟨by decide, by decide, by decide⟩, ?_⟩
      walk_at "rd"
      refine iteD (fun c1 => ?_) (fun c1 => ?_)
      · refine ⟨_, rfl, .inl ⟨_, rfl, ?_⟩⟩
        refine ⟨60, rfl, by decide, by decide, for_range (lo := 0) (n := 60) (fun j σ H' => ∃ (zs : List Int) (r : Int) (x4 : Option V), σ = [some (.ref a), some (.ref p), some (.int c), some (.int r), x4, x5] ∧ Same H H' ∧ H' p = some (.lst (zs.map V.int)) ∧ zs.length ≤ 60 * i + j)
          ⟨zs, c, x4, rfl, s1, h1, hz⟩ ?_ ?_⟩
        · rintro j σ H2 hj ⟨zs, r, x4, rfl, s2, h2, hz2⟩
          walk_at "rd"
          refine iteD (fun c2 => ?_) (fun c2 => ?_)
          · refine ⟨_, rfl, .inl ⟨rfl, _, SqL.of h2⟩, _, rfl, .inl ⟨_, rfl, _, _, rfl, rfl, (by show (0 : Int) < 1000; decide), _, _, _, rfl, rfl, h2, by rw [List.length_map]; exact Nat.lt_of_le_of_lt (by omega : _ ≤ 100000) (by decide), ?_⟩⟩
            refine ⟨_, rfl, _, _, rfl, rfl, ⟨by decide, by decide⟩, ?_⟩
            exact ⟨zs ++ [r % 1000], _, _, rfl, same_mut s2 hp, by rw [upd_same, ints_app], by rw [List.length_append, List.length_singleton]; omega⟩
          · exact ⟨zs, r, _, rfl, s2, h2, by omega⟩
        · rintro σ H2 ⟨zs, r, x4, rfl, s2, h2, hz2⟩
          exact ⟨zs, _, _, _, _, rfl, s2, h2, by omega⟩
      · refine ⟨_, rfl, _, _, rfl, rfl, .inr ⟨by decide, by decide⟩, _, _, rfl, rfl, .inl ⟨_, rfl, _, _, rfl, rfl, (by show (0 : Int) < 9973; decide), ?_⟩⟩
        have hm0 : 0 ≤ (c * 48271 + 12345) % 9973 := Int.emod_nonneg _ (by decide)
        have hm1 : (c * 48271 + 12345) % 9973 < 9973 := Int.emod_lt_of_pos _ (by decide)
        refine ⟨_, rfl, .inl ⟨rfl, _, SqL.of h1⟩, _, rfl, _, _, _, rfl, rfl, h1, by rw [List.length_map]; exact Nat.lt_of_le_of_lt (by omega : _ ≤ 100000) (by decide), ?_⟩
        refine ⟨_, rfl, .inl ⟨rfl, _, SqL.of upd_same⟩, _, rfl, _, rfl, _, _, rfl, rfl, .inl ⟨by omega, by omega⟩, _, rfl, _, _, rfl, rfl, .inl ⟨by decide, by decide⟩, _, _, rfl, rfl, _, rfl, _, _, rfl, .inl (SqL.of upd_same), _, _, rfl, rfl, .inl ⟨by decide, by decide⟩, _, _, rfl, rfl, .inl ⟨_, rfl, _, _, rfl, rfl, (by show (0 : Int) < 9949; decide), ?_⟩⟩
        refine ⟨_, _, _, rfl, rfl, upd_same, by rw [List.length_append, List.length_map]; exact Nat.lt_of_le_of_lt (by simp; omega : _ ≤ 100000) (by decide), ?_⟩
        rw [ints_app, ints_app, upd_upd]
        exact ⟨_, _, _, _, _, rfl, same_mut s1 hp, upd_same, by simp; omega⟩
    · rintro σ H1 ⟨zs, x2, x3, x4, x5, rfl, s1, h1, hz⟩
      exact ⟨_, rfl, q p zs H1 s1 hp h1⟩
end
end My

namespace My
open PySem L2
/-! ### plain data -/
inductive Sc : V → PyData → Prop
  | non : Sc .non .none
  | bl (b : Bool) : Sc (.bl b) (.bool b)
  | int (i : Int) : Sc (.int i) (.int i)
  | str (z : Str) : Sc (.str z) (.str z)
/-- a list that stays where x alone is changed; a tuple likewise -/
def SL (K : PySem.W.Frag) (x : Addr) (H : Hp) (a : Addr) (xs : List V) : Prop := (a ≠ x ∧ SqL K H a xs) ∨ ∀ H', SqL K H' a xs
def SU (K : PySem.W.Frag) (x : Addr) (H : Hp) (a : Addr) (xs : List V) : Prop := (a ≠ x ∧ SqT K H a xs) ∨ ∀ H', SqT K H' a xs
section
variable {K : PySem.W.Frag} {x : Addr} {H H' : Hp} {a : Addr} {xs : List V}
theorem SL.sq (h : SL K x H a xs) : SqL K H a xs := by
  rcases h with h | h
  · exact h.2
  · exact h H
theorem SU.sq (h : SU K x H a xs) : SqT K H a xs := by
  rcases h with h | h
  · exact h.2
  · exact h H
theorem SL.but (h : SL K x H a xs) (e : But x H H') : SL K x H' a xs := by
  rcases h with ⟨n, h⟩ | h
  · exact .inl ⟨n, e.sqL n h⟩
  · exact .inr h
theorem SU.but (h : SU K x H a xs) (e : But x H H') : SU K x H' a xs := by
  rcases h with ⟨n, h⟩ | h
  · exact .inl ⟨n, e.sqT n h⟩
  · exact .inr h
theorem tyL (h : SqL K H a xs) : TyX K H (.ref a) (.type "list") := by
  rcases h with (h | ⟨o, h⟩) | ⟨o, its, n, h, c, _⟩
  · exact .base (.lst h)
  · exact .base (.frz h)
  · exact .kList h c
theorem tyT (h : SqT K H a xs) : TyX K H (.ref a) (.type "tuple") := by
  rcases h with (h | ⟨o, h⟩) | ⟨o, its, n, h, c, _⟩
  · exact .base (.tup h)
  · exact .fTuple h
  · exact .kTuple h c
end
/-- data of depth n at most -/
def Dn (K : PySem.W.Frag) (x : Addr) (H : Hp) : Nat → V → PyData → Prop
  | 0, v, d => Sc v d
  | n + 1, v, d => Sc v d ∨ (∃ a xs ds, v = .ref a ∧ d = .list ds ∧ SL K x H a xs ∧ xs.length ≤ 100000 ∧ Paired (Dn K x H n) xs ds) ∨ ∃ a xs ds, v = .ref a ∧ d = .tuple ds ∧ SU K x H a xs ∧ xs.length ≤ 100000 ∧ Paired (Dn K x H n) xs ds
theorem Dn.sc {K : PySem.W.Frag} {x : Addr} {H : Hp} {v : V} {d : PyData} (h : Sc v d) : ∀ n, Dn K x H n v d
  | 0 => h
  | _ + 1 => .inl h
theorem Dn.but {K : PySem.W.Frag} {x : Addr} {H H' : Hp} (e : But x H H') : ∀ {n : Nat} {v : V} {d : PyData}, Dn K x H n v d → Dn K x H' n v d
  | 0, _, _, h => h
  | n + 1, v, d, h => by
    rcases h with h | ⟨a, xs, ds, rfl, rfl, h, hz, p⟩ | ⟨a, xs, ds, rfl, rfl, h, hz, p⟩
    · exact .inl h
    · exact .inr (.inl ⟨a, xs, ds, rfl, rfl, h.but e, hz, L2.Paired.mapP p fun _ _ z => Dn.but e z⟩)
    · exact .inr (.inr ⟨a, xs, ds, rfl, rfl, h.but e, hz, L2.Paired.mapP p fun _ _ z => Dn.but e z⟩)
theorem Dn.lst {K : PySem.W.Frag} {x : Addr} {H : Hp} {n : Nat} {a : Addr} {xs : List V} {ds : List PyData} (ne : a ≠ x) (h : SqL K H a xs) (p : Paired (Dn K x H n) xs ds) (hz : xs.length ≤ 100000 := by simp) : Dn K x H (n + 1) (.ref a) (.list ds) :=
  .inr (.inl ⟨a, xs, ds, rfl, rfl, .inl ⟨ne, h⟩, hz, p⟩)
theorem Dn.tup {K : PySem.W.Frag} {x : Addr} {H : Hp} {n : Nat} {a : Addr} {xs : List V} {ds : List PyData} (ne : a ≠ x) (h : SqT K H a xs) (p : Paired (Dn K x H n) xs ds) (hz : xs.length ≤ 100000 := by simp) : Dn K x H (n + 1) (.ref a) (.tuple ds) :=
  .inr (.inr ⟨a, xs, ds, rfl, rfl, .inl ⟨ne, h⟩, hz, p⟩)
theorem Dn.int {K : PySem.W.Frag} {x : Addr} {H : Hp} (i : Int) {n : Nat} : Dn K x H n (.int i) (.int i) := Dn.sc (.int i) n
theorem Dn.str {K : PySem.W.Frag} {x : Addr} {H : Hp} (i : Str) {n : Nat} : Dn K x H n (.str i) (.str i) := Dn.sc (.str i) n
theorem Dn.bl {K : PySem.W.Frag} {x : Addr} {H : Hp} (i : Bool) {n : Nat} : Dn K x H n (.bl i) (.bool i) := Dn.sc (.bl i) n
theorem Dn.non {K : PySem.W.Frag} {x : Addr} {H : Hp} {n : Nat} : Dn K x H n .non .none := Dn.sc .non n
theorem Dn.up {K : PySem.W.Frag} {x : Addr} {H : Hp} : ∀ {n : Nat} {v : V} {d : PyData}, Dn K x H n v d → Dn K x H (n + 1) v d
  | 0, _, _, h => .inl h
  | n + 1, v, d, h => by
    rcases h with h | ⟨a, xs, ds, rfl, rfl, h, hz, p⟩ | ⟨a, xs, ds, rfl, rfl, h, hz, p⟩
    · exact .inl h
    · exact .inr (.inl ⟨a, xs, ds, rfl, rfl, h, hz, L2.Paired.mapP p fun _ _ z => Dn.up z⟩)
    · exact .inr (.inr ⟨a, xs, ds, rfl, rfl, h, hz, L2.Paired.mapP p fun _ _ z => Dn.up z⟩)
theorem pair_get {α β : Type} {F : α → β → Prop} : ∀ {l : List α} {m : List β} {i : Nat} {x : α}, Paired F l m → l[i]? = some x → ∃ y, m[i]? = some y ∧ F x y
  | _, _, _, _, .nil, e => by simp at e
  | _, _, 0, _, .cons r _, e => by simp at e; subst e; exact ⟨_, rfl, r⟩
  | _, _, i + 1, x, .cons _ t, e => by
    obtain ⟨y, h1, h2⟩ := pair_get (i := i) (x := x) t (by simpa using e)
    exact ⟨y, by simpa using h1, h2⟩
theorem pair_len {α β : Type} {F : α → β → Prop} : ∀ {l : List α} {m : List β}, Paired F l m → l.length = m.length
  | _, _, .nil => rfl
  | _, _, .cons _ t => by rw [List.length_cons, List.length_cons, pair_len t]
noncomputable def sameD (d e : PyData) : Bool := @decide (d = e) (Classical.propDecidable _)
theorem same_yes {d e : PyData} (h : d = e) : sameD d e = true := by unfold sameD; exact @decide_eq_true _ (Classical.propDecidable _) h
theorem same_no {d e : PyData} (h : d ≠ e) : sameD d e = false := by unfold sameD; exact @decide_eq_false _ (Classical.propDecidable _) h
theorem same_iff {d e : PyData} : sameD d e = true ↔ d = e := by
  constructor
  · intro h
    by_cases q : d = e
    · exact q
    · rw [same_no q] at h; cases h
  · exact same_yes
theorem same_of {p : Prop} [Decidable p] {d e : PyData} (h : d = e ↔ p) : sameD d e = decide p := by
  by_cases q : p
  · rw [decide_eq_true q, same_yes (h.mpr q)]
  · rw [decide_eq_false q, same_no (fun z => q (h.mp z))]
def spSame (K : PySem.W.Frag) (n : Nat) : Sp := fun vs H Q _ => ∃ (x : Addr) (v1 v2 : V) (d1 d2 : PyData), vs = [v1, v2] ∧ Dn K x H n v1 d1 ∧ Dn K x H n v2 d2 ∧ Q (.bl (sameD d1 d2)) H
end My
local macro_rules | `(tactic| walk_at "ty") => `(tactic| first | exact .base (.int _) | exact .base (.bl _) | exact .base .non | exact .base (.str _) | exact My.tyL (by assumption) | exact My.tyT (by assumption))
local macro_rules | `(tactic| walk_at "is") => `(tactic| first | refine ⟨_, _, _, _, true, rfl, L2.ClsV.ty _, (by walk_at "ty"), L2.kit_ty (by decide +kernel), ?_⟩ | refine ⟨_, _, _, _, false, rfl, L2.ClsV.ty _, (by walk_at "ty"), L2.kit_ty (by decide +kernel), ?_⟩)
local macro_rules | `(tactic| walk_at "ri") => `(tactic| repeat (first | walk_at "is" | refine ⟨_, rfl, ?_⟩ | refine ⟨rfl, ?_⟩))
namespace My
open PySem L2
theorem same_bl (a b : Bool) : sameD (.bool a) (.bool b) = decide (V.bl a = V.bl b) := same_of ⟨fun h => by cases h; rfl, fun h => by cases h; rfl⟩
theorem same_int (a b : Int) : sameD (.int a) (.int b) = decide (V.int a = V.int b) := same_of ⟨fun h => by cases h; rfl, fun h => by cases h; rfl⟩
theorem same_str (a b : Str) : sameD (.str a) (.str b) = decide (V.str a = V.str b) := same_of ⟨fun h => by cases h; rfl, fun h => by cases h; rfl⟩
theorem same_non : sameD .none .none = true := same_yes rfl
theorem same_lst (a b : List PyData) : sameD (.list a) (.list b) = true ↔ a = b := same_iff.trans ⟨fun h => by cases h; rfl, fun h => by cases h; rfl⟩
theorem same_tup (a b : List PyData) : sameD (.tuple a) (.tuple b) = true ↔ a = b := same_iff.trans ⟨fun h => by cases h; rfl, fun h => by cases h; rfl⟩
section
variable {P : Program} {w : World} {K : PySem.W.Frag} {mg : Str → Option Value} {base : Heap}
set_option maxHeartbeats 8000000 in
theorem ok__law_same (T : Txt K mg) : ∀ n, FnOk P w K mg base CX0 (n + 1) T.a__law_same T.fd__law_same ["_law_actual", "_law_expected"] (spSame K n)
  | 0 => by
    refine T.F__law_same.ok sc__law_same (fun vs H Q E h => ?_) (fun cdv A outer s H vs Q E hr h => ?_)
    · obtain ⟨x, v1, v2, d1, d2, rfl, _⟩ := h; rfl
    · obtain ⟨x, v1, v2, d1, d2, rfl, h1, h2, q⟩ := h
      refine ⟨_, (pss_cons (ps_if (PW.pt (pw_or (pt_val (pe_callB call_isi (by rfl) T.n_isinstance (by decide +kernel) (pa_cons (pv 0) (pa_cons (pe_bltn (v := .ty "bool") (by rfl) T.n_bool (by decide +kernel) rfl) pa_nil)))) (pw_or1 (pt_val (pe_callB call_isi (by rfl) T.n_isinstance (by decide +kernel) (pa_cons (pv 1) (pa_cons (pe_bltn (v := .ty "bool") (by rfl) T.n_bool (by decide +kernel) rfl) pa_nil))))))) (pss_one (ps_ret (pe_and (pe_callB call_isi (by rfl) T.n_isinstance (by decide +kernel) (pa_cons (pv 0) (pa_cons (pe_bltn (v := .ty "bool") (by rfl) T.n_bool (by decide +kernel) rfl) pa_nil))) (pe_and (pe_callB call_isi (by rfl) T.n_isinstance (by decide +kernel) (pa_cons (pv 1) (pa_cons (pe_bltn (v := .ty "bool") (by rfl) T.n_bool (by decide +kernel) rfl) pa_nil))) (pe_one (pe_cmpR op_eq (pv 0) (pv 1) (nomark _))))))) pss_nil)
      (pss_cons (ps_if (PW.pt (pw_or (pt_cmpR op_isN (pv 0) (pe_non) (nomark _)) (pw_or1 (pt_cmpR op_isN (pv 1) (pe_non) (nomark _))))) (pss_one (ps_ret (pe_and (pe_cmpR op_isN (pv 0) (pe_non) (nomark _)) (pe_one (pe_cmpR op_isN (pv 1) (pe_non) (nomark _)))))) pss_nil)
      (pss_cons (ps_if (pt_val (pe_callB call_isi (by rfl) T.n_isinstance (by decide +kernel) (pa_cons (pv 1) (pa_cons (pe_bltn (v := .ty "int") (by rfl) T.n_int (by decide +kernel) rfl) pa_nil)))) (pss_one (ps_ret (pe_and (pe_callB call_isi (by rfl) T.n_isinstance (by decide +kernel) (pa_cons (pv 0) (pa_cons (pe_bltn (v := .ty "int") (by rfl) T.n_int (by decide +kernel) rfl) pa_nil))) (pe_one (pe_cmpR op_eq (pv 0) (pv 1) (nomark _)))))) pss_nil)
      (pss_cons (ps_if (pt_val (pe_callB call_isi (by rfl) T.n_isinstance (by decide +kernel) (pa_cons (pv 1) (pa_cons (pe_bltn (v := .ty "str") (by rfl) T.n_str (by decide +kernel) rfl) pa_nil)))) (pss_one (ps_ret (pe_and (pe_callB call_isi (by rfl) T.n_isinstance (by decide +kernel) (pa_cons (pv 0) (pa_cons (pe_bltn (v := .ty "str") (by rfl) T.n_str (by decide +kernel) rfl) pa_nil))) (pe_one (pe_cmpR op_eq (pv 0) (pv 1) (nomark _)))))) pss_nil)
      (pss_cons (ps_if (PW.pt (pw_and (pt_val (pe_callB call_isi (by rfl) T.n_isinstance (by decide +kernel) (pa_cons (pv 1) (pa_cons (pe_bltn (v := .ty "tuple") (by rfl) T.n_tuple (by decide +kernel) rfl) pa_nil)))) (pw_and1 (pt_not (pt_val (pe_callB call_isi (by rfl) T.n_isinstance (by decide +kernel) (pa_cons (pv 0) (pa_cons (pe_bltn (v := .ty "tuple") (by rfl) T.n_tuple (by decide +kernel) rfl) pa_nil)))))))) (pss_one (ps_ret (pe_bl))) pss_nil)
      (pss_cons (ps_if (PW.pt (pw_and (pt_val (pe_callB call_isi (by rfl) T.n_isinstance (by decide +kernel) (pa_cons (pv 1) (pa_cons (pe_bltn (v := .ty "list") (by rfl) T.n_list (by decide +kernel) rfl) pa_nil)))) (pw_and1 (pt_not (pt_val (pe_callB call_isi (by rfl) T.n_isinstance (by decide +kernel) (pa_cons (pv 0) (pa_cons (pe_bltn (v := .ty "list") (by rfl) T.n_list (by decide +kernel) rfl) pa_nil)))))))) (pss_one (ps_ret (pe_bl))) pss_nil)
      (pss_cons (ps_if (pt_cmpR op_ne (pe_callB call_len_seq (by rfl) T.n_len (by decide +kernel) (pa_cons (pv 0) pa_nil)) (pe_callB call_len_seq (by rfl) T.n_len (by decide +kernel) (pa_cons (pv 1) pa_nil)) (nomark _)) (pss_one (ps_ret (pe_bl))) pss_nil)
      (pss_cons ps_never
      (pss_one (ps_ret (pe_bl))))))))))), ?_⟩
      cases h1 <;> cases h2
      all_goals walk_at "ri"
      all_goals first | (rw [same_no (by intro z; cases z)] at q; exact q) | (rw [same_bl] at q; exact q) | (rw [same_int] at q; exact q) | (rw [same_str] at q; exact q) | (rw [same_non] at q; exact q)
  | n + 1 => by
    refine T.F__law_same.ok sc__law_same (fun vs H Q E h => ?_) (fun cdv A outer s H vs Q E hr h => ?_)
    · obtain ⟨x, v1, v2, d1, d2, rfl, _⟩ := h; rfl
    · obtain ⟨x, v1, v2, d1, d2, rfl, h1, h2, q⟩ := h
      refine ⟨_, (pss_cons (ps_if (PW.pt (pw_or (pt_val (pe_callB call_isi (by rfl) T.n_isinstance (by decide +kernel) (pa_cons (pv 0) (pa_cons (pe_bltn (v := .ty "bool") (by rfl) T.n_bool (by decide +kernel) rfl) pa_nil)))) (pw_or1 (pt_val (pe_callB call_isi (by rfl) T.n_isinstance (by decide +kernel) (pa_cons (pv 1) (pa_cons (pe_bltn (v := .ty "bool") (by rfl) T.n_bool (by decide +kernel) rfl) pa_nil))))))) (pss_one (ps_ret (pe_and (pe_callB call_isi (by rfl) T.n_isinstance (by decide +kernel) (pa_cons (pv 0) (pa_cons (pe_bltn (v := .ty "bool") (by rfl) T.n_bool (by decide +kernel) rfl) pa_nil))) (pe_and (pe_callB call_isi (by rfl) T.n_isinstance (by decide +kernel) (pa_cons (pv 1) (pa_cons (pe_bltn (v := .ty "bool") (by rfl) T.n_bool (by decide +kernel) rfl) pa_nil))) (pe_one (pe_cmpR op_eq (pv 0) (pv 1) (nomark _))))))) pss_nil)
      (pss_cons (ps_if (PW.pt (pw_or (pt_cmpR op_isN (pv 0) (pe_non) (nomark _)) (pw_or1 (pt_cmpR op_isN (pv 1) (pe_non) (nomark _))))) (pss_one (ps_ret (pe_and (pe_cmpR op_isN (pv 0) (pe_non) (nomark _)) (pe_one (pe_cmpR op_isN (pv 1) (pe_non) (nomark _)))))) pss_nil)
      (pss_cons (ps_if (pt_val (pe_callB call_isi (by rfl) T.n_isinstance (by decide +kernel) (pa_cons (pv 1) (pa_cons (pe_bltn (v := .ty "int") (by rfl) T.n_int (by decide +kernel) rfl) pa_nil)))) (pss_one (ps_ret (pe_and (pe_callB call_isi (by rfl) T.n_isinstance (by decide +kernel) (pa_cons (pv 0) (pa_cons (pe_bltn (v := .ty "int") (by rfl) T.n_int (by decide +kernel) rfl) pa_nil))) (pe_one (pe_cmpR op_eq (pv 0) (pv 1) (nomark _)))))) pss_nil)
      (pss_cons (ps_if (pt_val (pe_callB call_isi (by rfl) T.n_isinstance (by decide +kernel) (pa_cons (pv 1) (pa_cons (pe_bltn (v := .ty "str") (by rfl) T.n_str (by decide +kernel) rfl) pa_nil)))) (pss_one (ps_ret (pe_and (pe_callB call_isi (by rfl) T.n_isinstance (by decide +kernel) (pa_cons (pv 0) (pa_cons (pe_bltn (v := .ty "str") (by rfl) T.n_str (by decide +kernel) rfl) pa_nil))) (pe_one (pe_cmpR op_eq (pv 0) (pv 1) (nomark _)))))) pss_nil)
      (pss_cons (ps_if (PW.pt (pw_and (pt_val (pe_callB call_isi (by rfl) T.n_isinstance (by decide +kernel) (pa_cons (pv 1) (pa_cons (pe_bltn (v := .ty "tuple") (by rfl) T.n_tuple (by decide +kernel) rfl) pa_nil)))) (pw_and1 (pt_not (pt_val (pe_callB call_isi (by rfl) T.n_isinstance (by decide +kernel) (pa_cons (pv 0) (pa_cons (pe_bltn (v := .ty "tuple") (by rfl) T.n_tuple (by decide +kernel) rfl) pa_nil)))))))) (pss_one (ps_ret (pe_bl))) pss_nil)
      (pss_cons (ps_if (PW.pt (pw_and (pt_val (pe_callB call_isi (by rfl) T.n_isinstance (by decide +kernel) (pa_cons (pv 1) (pa_cons (pe_bltn (v := .ty "list") (by rfl) T.n_list (by decide +kernel) rfl) pa_nil)))) (pw_and1 (pt_not (pt_val (pe_callB call_isi (by rfl) T.n_isinstance (by decide +kernel) (pa_cons (pv 0) (pa_cons (pe_bltn (v := .ty "list") (by rfl) T.n_list (by decide +kernel) rfl) pa_nil)))))))) (pss_one (ps_ret (pe_bl))) pss_nil)
      (pss_cons (ps_if (pt_cmpR op_ne (pe_callB call_len_seq (by rfl) T.n_len (by decide +kernel) (pa_cons (pv 0) pa_nil)) (pe_callB call_len_seq (by rfl) T.n_len (by decide +kernel) (pa_cons (pv 1) pa_nil)) (nomark _)) (pss_one (ps_ret (pe_bl))) pss_nil)
      (pss_cons (ps_for PassesOwn.never rfl (pi_range1 (by rfl) T.n_range (pa_cons (pe_callB call_len_seq (by rfl) T.n_len (by decide +kernel) (pa_cons (pv 1) pa_nil)) pa_nil)) (pg_name (i := 2) sc__law_same.nd rfl (.inl rfl)) (pss_one (ps_if (pt_not (pt_val (pe_call (ok__law_same T n) (hr.mono (by omega)) (by rfl) T.g__law_same T.F__law_same.kp T.b__law_same .nil pass0 (pa_cons (pe_ix ix_seq (pv 0) (pv 2) (fun _ _ => rfl)) (pa_cons (pe_ix ix_seq (pv 1) (pv 2) (fun _ _ => rfl)) pa_nil))))) (pss_one (ps_ret (pe_bl))) pss_nil)))
      (pss_one (ps_ret (pe_bl))))))))))), ?_⟩
      rcases h1 with h1 | ⟨a1, xs1, ds1, rfl, rfl, h1, z1, p1⟩ | ⟨a1, xs1, ds1, rfl, rfl, h1, z1, p1⟩ <;> rcases h2 with h2 | ⟨a2, xs2, ds2, rfl, rfl, h2, z2, p2⟩ | ⟨a2, xs2, ds2, rfl, rfl, h2, z2, p2⟩
      · cases h1 <;> cases h2
        all_goals walk_at "ri"
        all_goals first | (rw [same_no (by intro z; cases z)] at q; exact q) | (rw [same_bl] at q; exact q) | (rw [same_int] at q; exact q) | (rw [same_str] at q; exact q) | (rw [same_non] at q; exact q)
      · have t2 := h2.sq
        cases h1
        all_goals (walk_at "ri"; rw [same_no (by intro z; cases z)] at q; exact q)
      · have t2 := h2.sq
        cases h1
        all_goals (walk_at "ri"; rw [same_no (by intro z; cases z)] at q; exact q)
      · have t1 := h1.sq
        cases h2
        all_goals (walk_at "ri"; rw [same_no (by intro z; cases z)] at q; exact q)
      · have t1 := h1.sq
        have t2 := h2.sq
        walk_at "ri"
        refine ⟨_, _, rfl, .inl t1, _, rfl, _, _, rfl, .inl t2, rfl, _, rfl, ?_⟩
        have l1 := pair_len p1
        have l2 := pair_len p2
        refine iteN (fun c => ?_) (fun c => ?_)
        · rw [same_no (by intro z; cases z; exact c (by rw [l1, l2]))] at q; exact q
        have c' : xs1.length = xs2.length := by have := V.int.inj c; omega
        refine ⟨_, rfl, _, _, rfl, .inl t2, _, rfl, by omega, by omega, for_range (lo := 0) (n := _) (fun j σ H' => ∃ x2, σ = [some (.ref a1), some (.ref a2), x2] ∧ H' = H ∧ ds1.take j = ds2.take j) ⟨_, rfl, rfl, rfl⟩ ?_ ?_⟩
        · rintro j σ H1 hj ⟨x2, rfl, rfl, et⟩
          have j2 : j < xs2.length := by omega
          have j1 : j < xs1.length := by omega
          obtain ⟨e1, g1, r1⟩ := pair_get p1 (List.getElem?_eq_getElem j1)
          obtain ⟨e2, g2, r2⟩ := pair_get p2 (List.getElem?_eq_getElem j2)
          refine ⟨_, rfl, _, rfl, .inl ⟨_, _, _, _, rfl, rfl, t1, at_of (j := j) (by omega) (List.getElem?_eq_getElem j1), ?_⟩⟩
          refine ⟨_, rfl, _, rfl, .inl ⟨_, _, _, _, rfl, rfl, t2, at_of (j := j) (by omega) (List.getElem?_eq_getElem j2), ?_⟩⟩
          refine ⟨x, _, _, e1, e2, rfl, r1, r2, _, rfl, ?_⟩
          refine iteB (fun b => ?_) (fun b => ?_)
          · have ne : e1 ≠ e2 := fun h => by rw [same_yes h] at b; cases b
            rw [same_no (by intro z; cases z; rw [g1] at g2; exact ne (Option.some.inj g2))] at q; exact q
          · have ee : e1 = e2 := by
              apply same_iff.mp
              cases h : sameD e1 e2 with
              | true => rfl
              | false => rw [h] at b; cases b
            subst ee
            exact ⟨_, rfl, rfl, by rw [List.take_add_one, List.take_add_one, et, g1, g2]⟩
        · rintro σ H1 ⟨x2, rfl, rfl, et⟩
          have ed : ds1 = ds2 := by
            rw [List.take_of_length_le (by omega), List.take_of_length_le (by omega)] at et
            exact et
          subst ed
          rw [same_yes rfl] at q; exact q
      · have t1 := h1.sq
        have t2 := h2.sq
        walk_at "ri"
        rw [same_no (by intro z; cases z)] at q; exact q
      · have t1 := h1.sq
        cases h2
        all_goals (walk_at "ri"; rw [same_no (by intro z; cases z)] at q; exact q)
      · have t1 := h1.sq
        have t2 := h2.sq
        walk_at "ri"
        rw [same_no (by intro z; cases z)] at q; exact q
      · have t1 := h1.sq
        have t2 := h2.sq
        walk_at "ri"
        refine ⟨_, _, rfl, .inr t1, _, rfl, _, _, rfl, .inr t2, rfl, _, rfl, ?_⟩
        have l1 := pair_len p1
        have l2 := pair_len p2
        refine iteN (fun c => ?_) (fun c => ?_)
        · rw [same_no (by intro z; cases z; exact c (by rw [l1, l2]))] at q; exact q
        have c' : xs1.length = xs2.length := by have := V.int.inj c; omega
        refine ⟨_, rfl, _, _, rfl, .inr t2, _, rfl, by omega, by omega, for_range (lo := 0) (n := _) (fun j σ H' => ∃ x2, σ = [some (.ref a1), some (.ref a2), x2] ∧ H' = H ∧ ds1.take j = ds2.take j) ⟨_, rfl, rfl, rfl⟩ ?_ ?_⟩
        · rintro j σ H1 hj ⟨x2, rfl, rfl, et⟩
          have j2 : j < xs2.length := by omega
          have j1 : j < xs1.length := by omega
          obtain ⟨e1, g1, r1⟩ := pair_get p1 (List.getElem?_eq_getElem j1)
          obtain ⟨e2, g2, r2⟩ := pair_get p2 (List.getElem?_eq_getElem j2)
          refine ⟨_, rfl, _, rfl, .inr (.inl ⟨_, _, _, _, rfl, rfl, t1, at_of (j := j) (by omega) (List.getElem?_eq_getElem j1), ?_⟩)⟩
          refine ⟨_, rfl, _, rfl, .inr (.inl ⟨_, _, _, _, rfl, rfl, t2, at_of (j := j) (by omega) (List.getElem?_eq_getElem j2), ?_⟩)⟩
          refine ⟨x, _, _, e1, e2, rfl, r1, r2, _, rfl, ?_⟩
          refine iteB (fun b => ?_) (fun b => ?_)
          · have ne : e1 ≠ e2 := fun h => by rw [same_yes h] at b; cases b
            rw [same_no (by intro z; cases z; rw [g1] at g2; exact ne (Option.some.inj g2))] at q; exact q
          · have ee : e1 = e2 := by
              apply same_iff.mp
              cases h : sameD e1 e2 with
              | true => rfl
              | false => rw [h] at b; cases b
            subst ee
            exact ⟨_, rfl, rfl, by rw [List.take_add_one, List.take_add_one, et, g1, g2]⟩
        · rintro σ H1 ⟨x2, rfl, rfl, et⟩
          have ed : ds1 = ds2 := by
            rw [List.take_of_length_le (by omega), List.take_of_length_le (by omega)] at et
            exact et
          subst ed
          rw [same_yes rfl] at q; exact q
end
theorem nsame {d : PyData} : (!sameD d d) = false := by rw [same_yes rfl]; rfl
end My

namespace My
open PySem L2
/-! ### steps, programs -/
abbrev Stp := Str × Int
def StpAt (H : Hp) (v : V) (s : Stp) : Prop := ∃ t, v = .ref t ∧ H t = some (.tup [.str s.1, .int s.2])
abbrev Stps (H : Hp) (vs : List V) (ss : List Stp) : Prop := Paired (StpAt H) vs ss
/-- tuples stay -/
def TKeep (H H' : Hp) : Prop := ∀ t xs, H t = some (.tup xs) → H' t = some (.tup xs)
theorem TKeep.refl (H : Hp) : TKeep H H := fun _ _ h => h
theorem TKeep.trans {H H1 H2 : Hp} (a : TKeep H H1) (b : TKeep H1 H2) : TKeep H H2 := fun t xs h => b t xs (a t xs h)
theorem TKeep.same {H H' : Hp} (s : Same H H') : TKeep H H' := fun t xs h => s t _ h
theorem TKeep.but {x : Addr} {H H' : Hp} (b : But x H H') (n : ∀ xs, H x ≠ some (.tup xs)) : TKeep H H' := fun t xs h => b t _ (fun e => n xs (e ▸ h)) h
theorem Stps.keep {H H' : Hp} {vs : List V} {ss : List Stp} (h : Stps H vs ss) (k : TKeep H H') : Stps H' vs ss := L2.Paired.mapP h fun _ _ ⟨t, e, q⟩ => ⟨t, e, k t _ q⟩
theorem Stps.same {H H' : Hp} {vs : List V} {ss : List Stp} (h : Stps H vs ss) (s : Same H H') : Stps H' vs ss := h.keep (.same s)
theorem pair_app {α β : Type} {F : α → β → Prop} : ∀ {l l' : List α} {m m' : List β}, Paired F l m → Paired F l' m' → Paired F (l ++ l') (m ++ m')
  | _, _, _, _, .nil, q => q
  | _, _, _, _, .cons r t, q => .cons r (pair_app t q)
theorem pair_take {α β : Type} {F : α → β → Prop} : ∀ {l : List α} {m : List β} (n : Nat), Paired F l m → Paired F (l.take n) (m.take n)
  | _, _, 0, _ => .nil
  | _, _, _ + 1, .nil => .nil
  | _, _, n + 1, .cons r t => .cons r (pair_take n t)
theorem pair_drop {α β : Type} {F : α → β → Prop} : ∀ {l : List α} {m : List β} (n : Nat), Paired F l m → Paired F (l.drop n) (m.drop n)
  | _, _, 0, h => h
  | _, _, _ + 1, .nil => .nil
  | _, _, n + 1, .cons _ t => pair_drop n t
def goodS (s : Stp) : Prop := (s.1 = "own" ∨ s.1 = "share" ∨ s.1 = "drop") ∧ 0 ≤ s.2
def deedsV : List V := [.str "own", .str "share", .str "drop"]
theorem inDeeds {z : Str} (h : z = "own" ∨ z = "share" ∨ z = "drop") : inV (.str z) deedsV = true := by rcases h with rfl | rfl | rfl <;> decide +kernel
/-- a program of the class at C -/
def Pg (C : Addr) (H : Hp) (x : Addr) (ss : List Stp) : Prop := ∃ dx l vs, H x = some (.ins C dx [("_steps", .ref l)]) ∧ H l = some (.lst vs) ∧ Stps H vs ss ∧ vs.length ≤ 1000
theorem Pg.same {C : Addr} {H H' : Hp} {x : Addr} {ss : List Stp} (h : Pg C H x ss) (s : Same H H') : Pg C H' x ss := let ⟨dx, l, vs, a, b, c, d⟩ := h; ⟨dx, l, vs, s _ _ a, s _ _ b, c.same s, d⟩
theorem steps_look (l : Addr) : ([("_steps", V.ref l)] : List (Str × V)).lookup ("_steps" : Str) = some (.ref l) := by rfl
/-- the data of steps -/
def stpD (s : Stp) : PyData := .tuple [.str s.1, .int s.2]
theorem stpD_inj {a b : Stp} (h : stpD a = stpD b) : a = b := by
  unfold stpD at h
  simp only [PyData.tuple.injEq, List.cons.injEq, PyData.str.injEq, PyData.int.injEq, and_true] at h
  exact Prod.ext h.1 h.2
theorem stpsD_inj : ∀ {a b : List Stp}, a.map stpD = b.map stpD → a = b
  | [], [], _ => rfl
  | [], _ :: _, h => by simp at h
  | _ :: _, [], h => by simp at h
  | x :: a, y :: b, h => by
    simp only [List.map_cons, List.cons.injEq] at h
    rw [stpD_inj h.1, stpsD_inj h.2]
theorem stpsDn {K : PySem.W.Frag} {x : Addr} {H : Hp} {vs : List V} {ss : List Stp} (h : Stps H vs ss) (n : ∀ xs, H x ≠ some (.tup xs)) : Paired (Dn K x H 1) vs (ss.map stpD) := by
  induction h with
  | nil => exact .nil
  | cons r t ih =>
    obtain ⟨t, rfl, e⟩ := r
    exact .cons (Dn.tup (fun q => n _ (q ▸ e)) (SqT.of e) (.cons (.str _) (.cons (.int _) .nil))) ih
theorem stpsDL {K : PySem.W.Frag} {x l : Addr} {H : Hp} {vs : List V} {ss : List Stp} (hl : H l = some (.lst vs)) (h : Stps H vs ss) (nl : l ≠ x) (n : ∀ xs, H x ≠ some (.tup xs)) (hz : vs.length ≤ 100000) : Dn K x H 2 (.ref l) (.list (ss.map stpD)) :=
  Dn.lst nl (SqL.of hl) (stpsDn h n) hz
end My

namespace My
open PySem L2
def spSound : Sp := fun vs H Q _ => ∃ (t : Addr) (s : Stp), vs = [.ref t] ∧ H t = some (.tup [.str s.1, .int s.2]) ∧ goodS s ∧ ∀ p, H p = none → Q (.ref p) (upd H p (.tup [.str s.1, .int s.2]))
def spPInit (C : Addr) : Sp := fun vs H Q _ => ∃ (x dx p : Addr) (us : List V) (ss : List Stp), vs = [.ref x, .ref p] ∧ H x = some (.ins C dx []) ∧ H p = some (.tup us) ∧ Stps H us ss ∧ us.length ≤ 1000 ∧ (∀ s ∈ ss, goodS s) ∧
  ∀ H' l vs', But x H H' → H' x = some (.ins C dx [("_steps", .ref l)]) → H l = none → H' l = some (.lst vs') → Stps H' vs' ss → vs'.length = us.length → Q .non H'
/-- what C(..) asks, of the new instance at x -/
theorem init_pg {C x dx : Addr} {H : Hp} {us : List V} {ss : List Stp} {Q : VK} {E : XK} (hx : H x = some (.ins C dx [])) (hs : Stps H us ss) (hl : us.length ≤ 1000) (hg : ∀ s ∈ ss, goodS s)
    (q : ∀ H', But x H H' → Pg C H' x ss → Q .non H') : spStar 1 (spPInit C) (.ref x :: us) H Q E :=
  ⟨[.ref x], us, rfl, rfl, Nat.le_trans hl (by decide), fun p np => ⟨x, dx, p, us, ss, rfl, same_new np _ _ hx, upd_same, hs.same (same_new np), hl, hg, fun H' l vs' b h1 _ h2 h3 h4 =>
    q H' (fun y o n h => b y o n (same_new np _ _ h)) ⟨dx, l, vs', h1, h2, h3, by omega⟩⟩⟩
section
variable {w : World} {K : PySem.W.Frag} {mg : Str → Option Value} {base : Heap}
theorem ok_sound_step (T : Txt K mg) : FnOk PP w K mg base CX0 1 T.a_sound_step T.fd_sound_step ["step"] spSound := by
  refine T.F_sound_step.ok sc_sound_step (fun vs H Q E h => ?_) (fun cdv A outer s H vs Q E hr h => ?_)
  · obtain ⟨t, s, rfl, _⟩ := h; rfl
  · obtain ⟨t, s, rfl, ht, hg, q⟩ := h
    refine ⟨_, (pss_cons (ps_asg (pv 0) (pg_tup rfl (pgs_cons (pg_name (i := 1) sc_sound_step.nd rfl (.inl rfl)) (pgs_cons (pg_name (i := 2) sc_sound_step.nd rfl (.inl rfl)) pgs_nil))))
      (pss_cons (ps_if (PW.pt (pw_or (pt_cmpR op_notIn_seq (pv 1) (pe_glob (v := .ref T.k_DEEDS) (by rfl) T.g_DEEDS rfl) (by with_unfolding_all rfl)) (pw_or1 (pt_cmpR op_lt (pv 2) (pe_int) (nomark _))))) (pss_one (ps_never)) pss_nil)
      (pss_one (ps_ret (pe_tup (pa_cons (pv 1) (pa_cons (pv 2) pa_nil))))))), ?_⟩
    refine ⟨_, rfl, t, _, rfl, SqT.of ht, rfl, _, _, rfl, _, _, rfl, rfl, ?_⟩
    refine ⟨_, rfl, _, _, rfl, .inr (T.q_DEEDS _), rfl, rfl, _, rfl, iteNo (by rw [show [V.str "own", .str "share", .str "drop"] = deedsV from rfl, inDeeds hg.1]; rfl) ?_⟩
    refine ⟨_, rfl, _, _, rfl, rfl, _, rfl, iteNo (decide_eq_false (by have := hg.2; omega)) ?_⟩
    exact ⟨_, rfl, _, rfl, by show 2 ≤ sizeLine; decide, fun p hp => q p hp⟩
theorem ok_Program_init (T : Txt K mg) : FnR PP w K mg base CX0 3 T.a_Program_init (fun vs H Q _ => spStar 1 (spPInit T.c_Program) vs H Q fun _ _ _ => False) := by
  refine FnR.calm (Fun.starX (k := 2) (ps := ["self"]) T.F_Program_init sc_Program_init T.bs_Program_init fun cdv A outer s H vs Q E hr h => ?_)
  obtain ⟨x, dx, p, us, ss, rfl, hx, hp, hs, hl, hg, q⟩ := h
  refine ⟨_, (pss_one (ps_fld (pv 0) (pe_lc (own := [("step", 2)]) (g := (gName 2)) (by rfl) sc_Program_init.nd (pi_tup (pv 1)) (blkOk_by (own := [("step", 2)]) (N := ["self", "steps", "step"]) (sc := defScope S_Program_init) (by decide +kernel)) (fun _ _ _ _ _ => (pg_name (i := 2) sc_Program_init.nd rfl (.inl rfl))) (fun _ _ _ _ _ => pts_nil) (fun _ _ _ _ _ => (pe_call (ok_sound_step T) (hr.mono (by omega)) (by rfl) T.g_sound_step T.F_sound_step.kp T.b_sound_step .nil pass0 (pa_cons (pv 2) pa_nil)))) rfl)), ?_⟩
  have lss := pair_len hs
  refine ⟨_, rfl, p, rfl, ⟨_, SqT.of hp⟩, fun D hD => ?_⟩
  have nxD : x ≠ D := ne_of_none hx hD
  have npD : p ≠ D := ne_of_none hp hD
  refine lc_tup (K := K) (a := p) (xs := us) (fun i H' => ∃ vs', Same H H' ∧ H' D = some (.lst vs') ∧ Stps H' vs' (ss.take i) ∧ vs'.length = i) ⟨[], same_new hD, upd_same, .nil, rfl⟩ (fun i H' _ ⟨_, s1, _⟩ => SqT.of (s1 _ _ hp)) ?_ ?_
  · rintro i v H1 hv ⟨vs', s1, h1, st1, l1⟩
    obtain ⟨y, hy, t, rfl, ht⟩ := pair_get hs hv
    have hi := (List.getElem?_eq_some_iff.mp hv).1
    refine ⟨rfl, _, rfl, t, y, rfl, s1 _ _ ht, hg y (List.mem_of_getElem? hy), fun u nu => ?_⟩
    have s2 := same_new (o := .tup [.str y.1, .int y.2]) nu
    refine ⟨_, s2 _ _ h1, Nat.lt_of_le_of_lt (by omega : _ ≤ 1000) (by decide), vs' ++ [.ref u], same_mut (s1.trans s2) hD, upd_same, ?_, by rw [List.length_append, l1]; rfl⟩
    have nuD : u ≠ D := (ne_of_none h1 nu).symm
    rw [List.take_add_one, hy]
    refine pair_app (Stps.keep st1 fun a xs e => ?_) (.cons ⟨u, rfl, by rw [upd_ne nuD]; exact upd_same⟩ .nil)
    rw [upd_ne (fun z => by rw [z, h1] at e; cases e)]
    exact s2 _ _ e
  · rintro H1 ⟨vs', s1, h1, st1, l1⟩
    rw [List.take_of_length_le (by omega)] at st1
    refine ⟨_, rfl, x, _, dx, _, rfl, s1 _ _ hx, T.cl_Program, T.no_Program__steps, by show 0 < 1000; decide, ?_⟩
    have hx1 := s1 _ _ hx
    refine q _ D vs' (fun y o n h => by rw [upd_ne n]; exact s1 _ _ h) upd_same hD (by rw [upd_ne nxD.symm]; exact h1) (Stps.keep st1 fun a xs e => ?_) l1
    rw [upd_ne (fun z => by rw [z, hx1] at e; cases e)]
    exact e
end
end My

namespace My
open PySem L2
/-! ### lists of ints: in, flat; slices -/
theorem flat_ints (ns : List Int) : (ns.map V.int).all flatV = true := by
  rw [List.all_eq_true]
  intro v h
  obtain ⟨n, _, rfl⟩ := List.mem_map.mp h
  rfl
theorem in_ints (n : Int) (ns : List Int) : inV (.int n) (ns.map V.int) = decide (n ∈ ns) := by
  unfold inV
  rw [List.any_map, Bool.eq_iff_iff, List.any_eq_true, decide_eq_true_iff]
  constructor
  · rintro ⟨m, h, e⟩
    have e : (m == n) = true := e
    rw [← beq_iff_eq.mp e]; exact h
  · intro h
    exact ⟨n, h, by show (n == n) = true; simp⟩
theorem cut_to (xs : List V) (n : Nat) : cutV xs none (some (n : Int)) = xs.take n := by
  unfold cutV HT.sIx
  simp only [List.drop_zero, Nat.sub_zero]
  have h0 : ¬ (n : Int) < 0 := by omega
  simp only [h0, if_false]
  by_cases h : n ≤ xs.length
  · congr 1
    omega
  · rw [List.take_of_length_le (by omega), List.take_of_length_le (by omega)]
theorem cut_from (xs : List V) (n : Nat) : cutV xs (some (n : Int)) none = xs.drop n := by
  unfold cutV HT.sIx
  have h0 : ¬ (n : Int) < 0 := by omega
  simp only [h0, if_false]
  by_cases h : n ≤ xs.length
  · rw [List.take_of_length_le (by rw [List.length_drop]; omega)]
    congr 1
    omega
  · rw [List.drop_eq_nil_of_le (by omega), List.drop_eq_nil_of_le (by omega), List.take_nil]
end My

namespace My
open PySem L2
/-! ### what programs answer -/
def thingsOf (ss : List Stp) : List Int := ss.foldl (fun (acc : List Int) (s : Stp) => if s.1 ≠ ("drop" : Str) ∧ s.2 ∉ acc then acc ++ [s.2] else acc) []
theorem things_take {ss : List Stp} {i : Nat} {s : Stp} (h : ss[i]? = some s) : thingsOf (ss.take (i + 1)) = if s.1 ≠ ("drop" : Str) ∧ s.2 ∉ thingsOf (ss.take i) then thingsOf (ss.take i) ++ [s.2] else thingsOf (ss.take i) := by
  unfold thingsOf
  rw [List.take_add_one, h, List.foldl_append]
  rfl
theorem things_len (ss : List Stp) : ∀ i, (thingsOf (ss.take i)).length ≤ i
  | 0 => Nat.le_refl _
  | i + 1 => by
    have ih := things_len ss i
    cases h : ss[i]? with
    | none => rw [List.take_add_one, h, Option.toList_none, List.append_nil]; omega
    | some s => rw [things_take h]; split <;> first | (rw [List.length_append, List.length_singleton]; omega) | omega
def modeOf (ss : List Stp) (n : Int) : Str := match ss.find? (fun s : Stp => decide (s.2 = n) && !decide (s.1 = ("drop" : Str))) with | some s => s.1 | none => ""
theorem mode_at {ss : List Stp} {n : Int} {i : Nat} {s : Stp} (h : ss[i]? = some s) (hb : ∀ (j : Nat) (r : Stp), j < i → ss[j]? = some r → ¬ (r.2 = n ∧ r.1 ≠ ("drop" : Str))) (hs : s.2 = n ∧ s.1 ≠ "drop") : modeOf ss n = s.1 := by
  have hi := (List.getElem?_eq_some_iff.mp h).1
  have e : ss.find? (fun s : Stp => decide (s.2 = n) && !decide (s.1 = ("drop" : Str))) = some s := by
    rw [List.find?_eq_some_iff_getElem]
    refine ⟨by rw [decide_eq_true hs.1, decide_eq_false hs.2]; rfl, i, hi, (List.getElem?_eq_some_iff.mp h).2, fun j hj => ?_⟩
    have q := hb j ss[j] hj (List.getElem?_eq_getElem _)
    by_cases q1 : (ss[j]).2 = n
    · have q2 : (ss[j]).1 = "drop" := Classical.not_not.mp fun z => q ⟨q1, z⟩
      rw [decide_eq_true q2]; simp
    · rw [decide_eq_false q1]; rfl
  unfold modeOf
  rw [e]
theorem mode_no {ss : List Stp} {n : Int} (hb : ∀ (j : Nat) (r : Stp), ss[j]? = some r → ¬ (r.2 = n ∧ r.1 ≠ ("drop" : Str))) : modeOf ss n = "" := by
  have e : ss.find? (fun s : Stp => decide (s.2 = n) && !decide (s.1 = ("drop" : Str))) = none := by
    rw [List.find?_eq_none]
    intro s hs
    obtain ⟨j, hj⟩ := List.mem_iff_getElem?.mp hs
    have q := hb j s hj
    by_cases q1 : s.2 = n
    · have q2 : s.1 = "drop" := Classical.not_not.mp fun z => q ⟨q1, z⟩
      rw [decide_eq_true q2]; simp
    · rw [decide_eq_false q1]; simp
  unfold modeOf
  rw [e]
theorem eqv_stp (a b : Stp) : PyData.eqv (stpD a) (stpD b) = decide (a = b) := by
  unfold stpD
  simp only [PyData.eqv, PyData.eqvAll, Bool.and_true]
  rw [Bool.eq_iff_iff, Bool.and_eq_true, beq_iff_eq, beq_iff_eq, decide_eq_true_iff]
  exact ⟨fun h => Prod.ext h.1 h.2, fun h => by rw [h]; exact ⟨rfl, rfl⟩⟩
theorem eqv_stps : ∀ a b : List Stp, PyData.eqvAll (a.map stpD) (b.map stpD) = decide (a = b)
  | [], [] => by simp [PyData.eqvAll]
  | [], _ :: _ => by simp [PyData.eqvAll]
  | _ :: _, [] => by simp [PyData.eqvAll]
  | x :: a, y :: b => by
    simp only [List.map_cons, PyData.eqvAll, eqv_stp, eqv_stps a b]
    rw [Bool.eq_iff_iff, Bool.and_eq_true, decide_eq_true_iff, decide_eq_true_iff, decide_eq_true_iff]
    simp
theorem stp_ok {s : Stp} (h : goodS s) : PyData.canLay0 (stpD s) = true := by
  unfold stpD
  have : PyData.strOk s.1 = true := by rcases h.1 with e | e | e <;> (rw [e]; decide +kernel)
  simp [PyData.canLay0, PyData.canLayAll0, this]
theorem stps_shaped {ss : List Stp} (h : ∀ s ∈ ss, goodS s) : SeqAt.shaped (.list (ss.map stpD)) = true := by
  have h1 : ∀ l : List Stp, (∀ s ∈ l, goodS s) → PyData.canLayAll0 (l.map stpD) = true := fun l => by
    induction l with
    | nil => intro _; rfl
    | cons a r ih => intro q; rw [List.map_cons, PyData.canLayAll0, stp_ok (q a (by simp)), ih fun s hs => q s (by simp [hs])]; rfl
  have h2 : ∀ l : List Stp, PyData.depthAll (l.map stpD) ≤ 1 := fun l => by
    induction l with
    | nil => exact Nat.zero_le _
    | cons a r ih =>
      rw [List.map_cons, PyData.depthAll]
      have : PyData.depth (stpD a) = 1 := by unfold stpD; simp [PyData.depth, PyData.depthAll]
      omega
  unfold SeqAt.shaped
  rw [PyData.canLay0, h1 ss h, PyData.depth, Bool.true_and, decide_eq_true_iff]
  have := h2 ss
  omega
theorem stpsDp {K : PySem.W.Frag} {H : Hp} : ∀ {vs : List V} {ss : List Stp}, Stps H vs ss → DpAll K H vs (ss.map stpD)
  | _, _, .nil => .nil
  | _, _, .cons ⟨_, e, h⟩ t => by
    subst e
    exact .cons (.tup (SqT.of h) (.cons (.str _) (.cons (.int _) .nil))) (stpsDp t)
def spPEq (C : Addr) : Sp := fun vs H Q _ => ∃ (x y : Addr) (ss tt : List Stp), vs = [.ref x, .ref y] ∧ Pg C H x ss ∧ Pg C H y tt ∧ (∀ s ∈ ss, goodS s) ∧ (∀ s ∈ tt, goodS s) ∧ Q (.bl (decide (ss = tt))) H
/-- the right operand of +: its steps -/
def Rgt (K : PySem.W.Frag) (C : Addr) (H : Hp) (y : Addr) (tt : List Stp) : Prop := Pg C H y tt ∨ ∃ us, (SqL K H y us ∨ SqT K H y us) ∧ Stps H us tt
def spPAdd (K : PySem.W.Frag) (C : Addr) : Sp := fun vs H Q _ => ∃ (x y : Addr) (ss tt : List Stp), vs = [.ref x, .ref y] ∧ Pg C H x ss ∧ Rgt K C H y tt ∧ ss.length + tt.length ≤ 1000 ∧ (∀ s ∈ ss ++ tt, goodS s) ∧
  ∀ z H', Same H H' → H z = none → Pg C H' z (ss ++ tt) → Q (.ref z) H'
def spThings (C : Addr) : Sp := fun vs H Q _ => ∃ (x : Addr) (ss : List Stp), vs = [.ref x] ∧ Pg C H x ss ∧ ∀ t H', Same H H' → H t = none → H' t = some (.tup ((thingsOf ss).map V.int)) → Q (.ref t) H'
def spMode (C : Addr) : Sp := fun vs H Q _ => ∃ (x : Addr) (n : Int) (ss : List Stp), vs = [.ref x, .int n] ∧ Pg C H x ss ∧ Q (.str (modeOf ss n)) H
def spBegin (C X : Addr) : Sp := fun vs H Q E => ∃ (x : Addr) (n : Int) (ss : List Stp), vs = [.ref x, .int n] ∧ Pg C H x ss ∧ (∀ s ∈ ss, goodS s) ∧
  (∀ m : Nat, n = m → m ≤ ss.length → ∀ z H', Same H H' → H z = none → Pg C H' z (ss.take m) → Q (.ref z) H') ∧
  (n < 0 ∨ (ss.length : Int) < n → ∀ H' d, Same H H' → H d = none → H' d = some (.xd [("most", .int ss.length)]) → E (.ref X) (some d) H')
section
variable {w : World} {K : PySem.W.Frag} {mg : Str → Option Value} {base : Heap}
theorem ok_Program_iter (T : Txt K mg) : IterOk PP w K mg base 1 T.a_Program_iter T.c_Program "_steps" := fun A outer s H a dx l fs xs Q E hr e0 ha hf hq q => by
  refine fn_here T.F_Program_iter sc_Program_iter T.b_Program_iter hr e0 (vs := [.ref a]) (.cons rfl .nil) rfl fun cdv hr => ⟨_, (pss_one (ps_ret (pe_callB ItX.call_iterN (by rfl) T.n_iter (by decide +kernel) (pa_cons (pe_fld (pv 0) rfl) pa_nil)))), ?_⟩
  exact ⟨_, rfl, a, _, dx, _, _, rfl, ha, T.cl_Program, T.no_Program__steps, hf, l, xs, rfl, hq, fun it n1 n2 => q it n1 n2⟩
theorem ok_Program_eq (T : Txt K mg) : FnOk PP w K mg base CX0 1 T.a_Program_eq T.fd_Program_eq ["self", "other"] (spPEq T.c_Program) := by
  refine T.F_Program_eq.ok sc_Program_eq (fun vs H Q E h => ?_) (fun cdv A outer s H vs Q E hr h => ?_)
  · obtain ⟨x, y, ss, tt, rfl, _⟩ := h; rfl
  · obtain ⟨x, y, ss, tt, rfl, ⟨dx, l, us, hx, hl, hs, _⟩, ⟨dy, m, vs, hy, hm, ht, _⟩, gs, gt, q⟩ := h
    refine ⟨_, (pss_one (ps_ret (pe_and (pe_callB call_isi (by rfl) T.n_isinstance (by decide +kernel) (pa_cons (pv 1) (pa_cons (pe_glob (v := .ref T.c_Program) (by rfl) T.g_Program rfl) pa_nil))) (pe_one (pe_cmpR (op_eqD hr.units) (pe_fld (pv 0) rfl) (pe_fld (pv 1) rfl) (nomark _)))))), ?_⟩
    refine ⟨_, rfl, _, _, _, _, true, rfl, ClsV.own _, .base (T.ti_Program _ _ _ _ hy), T.kk_Program, _, rfl, iteT ?_⟩
    refine ⟨_, rfl, x, _, dx, _, _, rfl, hx, T.cl_Program, T.no_Program__steps, steps_look l, _, rfl, y, _, dy, _, _, rfl, hy, T.cl_Program, T.no_Program__steps, steps_look m, _, _, .lst (SqL.of hl) (stpsDp hs), .lst (SqL.of hm) (stpsDp ht), stps_shaped gs, stps_shaped gt, ?_⟩
    rw [PyData.eqv, eqv_stps]
    exact q
theorem ok_Program_add (T : Txt K mg) : FnOk PP w K mg base CX0 5 T.a_Program_add T.fd_Program_add ["self", "other"] (spPAdd K T.c_Program) := by
  refine T.F_Program_add.ok sc_Program_add (fun vs H Q E h => ?_) (fun cdv A outer s H vs Q E hr h => ?_)
  · obtain ⟨x, y, ss, tt, rfl, _⟩ := h; rfl
  · obtain ⟨x, y, ss, tt, rfl, ⟨dx, l, us, hx, hl, hs, _⟩, hy, hz, hg, q⟩ := h
    refine ⟨_, (pss_cons (ps_if (pt_val (pe_callB call_isiT (by rfl) T.n_isinstance (by decide +kernel) (pa_cons (pv 1) (pa_cons (pe_tup (pa_cons (pe_bltn (v := .ty "list") (by rfl) T.n_list (by decide +kernel) rfl) (pa_cons (pe_bltn (v := .ty "tuple") (by rfl) T.n_tuple (by decide +kernel) rfl) pa_nil))) pa_nil)))) (pss_one (ps_ret (pe_makeS2 T.mk_Program (ok_Program_init T) (hr.mono (by omega)) (by rfl) T.g_Program pass0 (StX.pa_star (pe_fld (pv 0) rfl) (StX.pa_star (pv 1) pa_nil))))) pss_nil)
      (pss_cons (ps_if (pt_val (pe_callB call_isi (by rfl) T.n_isinstance (by decide +kernel) (pa_cons (pv 1) (pa_cons (pe_glob (v := .ref T.c_Program) (by rfl) T.g_Program rfl) pa_nil)))) (pss_one (ps_ret (pe_makeS2 T.mk_Program (ok_Program_init T) (hr.mono (by omega)) (by rfl) T.g_Program pass0 (StX.pa_star (pe_fld (pv 0) rfl) (StX.pa_star (pe_fld (pv 1) rfl) pa_nil))))) pss_nil)
      (pss_one ps_never))), ?_⟩
    refine ⟨_, rfl, by show 2 ≤ sizeLine; decide, fun c hc => ?_⟩
    have s1 := same_new (o := .tup [.ty "list", .ty "tuple"]) hc
    have ls := pair_len hs
    rcases hy with ⟨dy, m, vs, hy, hm, ht, _⟩ | ⟨vs, hy, ht⟩
    · have lt := pair_len ht
      refine ⟨_, _, _, _, _, false, rfl, upd_same, .cons (.ty _) (.cons (.ty _) .nil), .base (T.ti_Program _ _ _ _ (s1 _ _ hy)), kitAny_cons T.ko_Program_list (fun _ => kitAny_cons T.ko_Program_tuple (fun _ => rfl) (fun z => nomatch z)) (fun z => nomatch z), _, rfl, iteF ?_⟩
      refine ⟨_, rfl, _, _, _, _, true, rfl, ClsV.own _, .base (T.ti_Program _ _ _ _ (s1 _ _ hy)), T.kk_Program, _, rfl, iteT ?_⟩
      refine ⟨_, rfl, x, _, dx, _, _, rfl, s1 _ _ hx, T.cl_Program, T.no_Program__steps, steps_look l, l, us, rfl, .inr (SqL.of (s1 _ _ hl)), _, rfl, y, _, dy, _, _, rfl, s1 _ _ hy, T.cl_Program, T.no_Program__steps, steps_look m, m, vs, rfl, .inr (SqL.of (s1 _ _ hm)), ?_⟩
      intro z dz nz ndz _
      refine init_pg (us := us ++ (vs ++ [])) (ss := ss ++ tt) upd_same ?_ (by rw [List.length_append, List.length_append]; simp; omega) hg fun H8 b8 p8 => ⟨rfl, q z H8 (s1.trans (same_make nz ndz b8)) (s1.free nz) p8⟩
      rw [List.append_nil]
      have s2 := s1.trans (same_make (C := T.c_Program) nz ndz (But.refl z _))
      exact pair_app (hs.same s2) (ht.same s2)
    · have lt := pair_len ht
      have hT : ∃ tn, TyX K (upd H c (.tup [.ty "list", .ty "tuple"])) (.ref y) (.type tn) ∧ PySem.W.kitAny K (.type tn) [.type "list", .type "tuple"] = some true := by
        rcases hy with hy | hy
        · exact ⟨"list", tyL (s1.seq hy), kitAny_cons (b := true) (r := true) (kit_ty (by decide +kernel)) (fun z => nomatch z) fun _ => rfl⟩
        · exact ⟨"tuple", tyT (same_sqT s1 hy), kitAny_cons (b := false) (kit_ty (by decide +kernel)) (fun _ => kitAny_cons (b := true) (r := true) (kit_ty (by decide +kernel)) (fun z => nomatch z) fun _ => rfl) (fun z => nomatch z)⟩
      obtain ⟨tn, t1, t2⟩ := hT
      refine ⟨_, _, _, _, _, true, rfl, upd_same, .cons (.ty _) (.cons (.ty _) .nil), t1, t2, _, rfl, iteT ?_⟩
      refine ⟨_, rfl, x, _, dx, _, _, rfl, s1 _ _ hx, T.cl_Program, T.no_Program__steps, steps_look l, l, us, rfl, .inr (SqL.of (s1 _ _ hl)), _, rfl, y, vs, rfl, hy.elim (fun h => .inr (s1.seq h)) (fun h => .inl (same_sqT s1 h)), ?_⟩
      intro z dz nz ndz _
      refine init_pg (us := us ++ (vs ++ [])) (ss := ss ++ tt) upd_same ?_ (by rw [List.length_append, List.length_append]; simp; omega) hg fun H8 b8 p8 => ⟨rfl, q z H8 (s1.trans (same_make nz ndz b8)) (s1.free nz) p8⟩
      rw [List.append_nil]
      have s2 := s1.trans (same_make (C := T.c_Program) nz ndz (But.refl z _))
      exact pair_app (hs.same s2) (ht.same s2)
theorem ok_Program_things (T : Txt K mg) : FnOk PP w K mg base CX0 1 T.a_Program_things T.fd_Program_things ["self"] (spThings T.c_Program) := by
  refine T.F_Program_things.ok sc_Program_things (fun vs H Q E h => ?_) (fun cdv A outer s H vs Q E hr h => ?_)
  · obtain ⟨x, ss, rfl, _⟩ := h; rfl
  · obtain ⟨x, ss, rfl, ⟨dx, l, us, hx, hl, hs, hz⟩, q⟩ := h
    refine ⟨_, (pss_cons (ps_set (i := 1) sc_Program_things.nd rfl (.inl rfl) (pe_lst pa_nil))
      (pss_cons (ps_for PassesOwn.never rfl (pi_list (pe_fld (pv 0) rfl)) (pg_tup rfl (pgs_cons (pg_name (i := 2) sc_Program_things.nd rfl (.inl rfl)) (pgs_cons (pg_name (i := 3) sc_Program_things.nd rfl (.inl rfl)) pgs_nil))) (pss_one (ps_if (PW.pt (pw_and (pt_cmpR op_ne (pv 2) (pe_str) (nomark _)) (pw_and1 (pt_cmpR op_notIn_seq (pv 3) (pv 1) (by with_unfolding_all rfl))))) (pss_one (ps_expr (pe_bm PySem.F.plainAttrs_list PySem.F.slot_list_append PySem.F.type_list_append mt_append (pv 1) (pa_cons (pv 3) pa_nil)))) pss_nil)))
      (pss_one (ps_ret (pe_callTy call_tuple_of (by rfl) T.n_tuple (by decide +kernel) (pa_cons (pv 1) pa_nil)))))), ?_⟩
    refine ⟨Nat.zero_le _, fun f nf => ?_⟩
    have s1 := same_new (o := .lst []) nf
    have ls := pair_len hs
    refine ⟨_, rfl, x, _, dx, _, _, rfl, s1 _ _ hx, T.cl_Program, T.no_Program__steps, steps_look l, l, rfl, ⟨_, SqL.of (s1 _ _ hl)⟩, for_list (K := K) (a := l) (xs := us) (fun i σ H' => ∃ x2 x3, σ = [some (.ref x), some (.ref f), x2, x3] ∧ Same H H' ∧ H' f = some (.lst ((thingsOf (ss.take i)).map V.int)))
      ⟨_, _, rfl, s1, upd_same⟩ (fun i σ H' _ ⟨_, _, _, s2, _⟩ => SqL.of (s2 _ _ hl)) ?_ ?_⟩
    · rintro i v σ H2 hv ⟨x2, x3, rfl, s2, hf⟩
      obtain ⟨y, hy, t, rfl, ht⟩ := pair_get hs hv
      have hi := (List.getElem?_eq_some_iff.mp hv).1
      have hlen := things_len ss i
      refine ⟨t, _, rfl, SqT.of (s2 _ _ ht), rfl, _, _, rfl, _, _, rfl, rfl, ?_⟩
      refine ⟨_, rfl, rfl, _, rfl, iteN (fun c => ?_) (fun c => ?_)⟩
      · refine ⟨_, rfl, _, rfl, f, _, rfl, .inl (SqL.of hf), rfl, flat_ints _, _, rfl, ?_⟩
        rw [show (if true = true then !inV (V.int y.2) ((thingsOf (ss.take i)).map V.int) else inV (V.int y.2) ((thingsOf (ss.take i)).map V.int)) = !decide (y.2 ∈ thingsOf (ss.take i)) by rw [if_pos rfl, in_ints]]
        refine iteN (fun c2 => ?_) (fun c2 => ?_)
        · refine ⟨_, rfl, .inl ⟨rfl, _, SqL.of hf⟩, _, rfl, f, _, _, rfl, rfl, hf, by rw [List.length_map]; exact Nat.lt_of_le_of_lt (by omega : _ ≤ 1000) (by decide), ?_⟩
          refine ⟨_, _, rfl, same_mut s2 nf, ?_⟩
          rw [upd_same, ints_app, things_take hy, if_pos ⟨fun z => c (by rw [z]), c2⟩]
        · exact ⟨_, _, rfl, s2, by rw [things_take hy, if_neg (fun z => z.2 c2)]; exact hf⟩
      · exact ⟨_, _, rfl, s2, by rw [things_take hy, if_neg (fun z => z.1 (V.str.inj c))]; exact hf⟩
    · rintro σ H2 ⟨x2, x3, rfl, s2, hf⟩
      rw [List.take_of_length_le (by omega)] at hf
      exact ⟨_, rfl, f, _, rfl, .inl ⟨SqL.of hf, fun t nt => q t _ (s2.trans (same_new nt)) (s2.free nt) upd_same⟩⟩
theorem ok_Program_mode_of (T : Txt K mg) : FnOk PP w K mg base CX0 1 T.a_Program_mode_of T.fd_Program_mode_of ["self", "thing"] (spMode T.c_Program) := by
  refine T.F_Program_mode_of.ok sc_Program_mode_of (fun vs H Q E h => ?_) (fun cdv A outer s H vs Q E hr h => ?_)
  · obtain ⟨x, n, ss, rfl, _⟩ := h; rfl
  · obtain ⟨x, n, ss, rfl, ⟨dx, l, us, hx, hl, hs, hz⟩, q⟩ := h
    refine ⟨_, (pss_cons (ps_for PassesOwn.never rfl (pi_list (pe_fld (pv 0) rfl)) (pg_tup rfl (pgs_cons (pg_name (i := 2) sc_Program_mode_of.nd rfl (.inl rfl)) (pgs_cons (pg_name (i := 3) sc_Program_mode_of.nd rfl (.inl rfl)) pgs_nil))) (pss_one (ps_if (PW.pt (pw_and (pt_cmpR op_eq (pv 3) (pv 1) (nomark _)) (pw_and1 (pt_cmpR op_ne (pv 2) (pe_str) (nomark _))))) (pss_one (ps_ret (pv 2))) pss_nil)))
      (pss_one (ps_ret (pe_str)))), ?_⟩
    have ls := pair_len hs
    refine ⟨_, rfl, x, _, dx, _, _, rfl, hx, T.cl_Program, T.no_Program__steps, steps_look l, l, rfl, ⟨_, SqL.of hl⟩, for_list (K := K) (a := l) (xs := us) (fun i σ H' => ∃ x2 x3, σ = [some (.ref x), some (.int n), x2, x3] ∧ H' = H ∧ ∀ (j : Nat) (r : Stp), j < i → ss[j]? = some r → ¬ (r.2 = n ∧ r.1 ≠ ("drop" : Str)))
      ⟨_, _, rfl, rfl, fun j r h => absurd h (Nat.not_lt_zero _)⟩ (fun i σ H' _ ⟨_, _, _, e, _⟩ => e ▸ SqL.of hl) ?_ ?_⟩
    · rintro i v σ H2 hv ⟨x2, x3, rfl, rfl, nb⟩
      obtain ⟨y, hy, t, rfl, ht⟩ := pair_get hs hv
      refine ⟨t, _, rfl, SqT.of ht, rfl, _, _, rfl, _, _, rfl, rfl, ?_⟩
      have step : ¬ (y.2 = n ∧ y.1 ≠ "drop") → ∀ (j : Nat) (r : Stp), j < i + 1 → ss[j]? = some r → ¬ (r.2 = n ∧ r.1 ≠ ("drop" : Str)) := fun c j r hj hr => by
        rcases Nat.lt_succ_iff_lt_or_eq.mp hj with h | h
        · exact nb j r h hr
        · subst h; rw [hy] at hr; rw [← Option.some.inj hr]; exact c
      refine ⟨_, rfl, _, rfl, rfl, _, rfl, iteD (fun c => ?_) (fun c => ?_)⟩
      · refine ⟨_, rfl, rfl, _, rfl, iteN (fun c2 => ?_) (fun c2 => ?_)⟩
        · rw [mode_at hy nb ⟨V.int.inj c, fun z => c2 (by rw [z])⟩] at q
          exact ⟨_, rfl, q⟩
        · exact ⟨_, _, rfl, rfl, step fun z => z.2 (V.str.inj c2)⟩
      · exact ⟨_, _, rfl, rfl, step fun z => c (by rw [z.1])⟩
    · rintro σ H2 ⟨x2, x3, rfl, rfl, nb⟩
      rw [mode_no fun j r hr => nb j r (by have := (List.getElem?_eq_some_iff.mp hr).1; omega) hr] at q
      exact q
theorem ok_Program_begin (T : Txt K mg) : FnOk PP w K mg base (L2.CX PP w) 5 T.a_Program_begin T.fd_Program_begin ["self", "count"] (spBegin T.c_Program T.c_TooLarge) := by
  refine T.F_Program_begin.okX sc_Program_begin (fun vs H Q E h => ?_) (fun cdv A outer s H vs Q E hr h => ?_)
  · obtain ⟨x, n, ss, rfl, _⟩ := h; rfl
  · obtain ⟨x, n, ss, rfl, ⟨dx, l, us, hx, hl, hs, hz⟩, hg, q, qx⟩ := h
    refine ⟨_, (pss_cons (ps_if (pt_not (pt_chain op_le op_le (pe_int) (pv 1) (pe_callB call_len_seq (by rfl) T.n_len (by decide +kernel) (pa_cons (pe_fld (pv 0) rfl) pa_nil)))) (pss_one (ps_raiseX rfl T.x_TooLarge hr (takes_of rfl rfl rfl rfl) (pa_cons (pe_callB call_len_seq (by rfl) T.n_len (by decide +kernel) (pa_cons (pe_fld (pv 0) rfl) pa_nil)) pa_nil))) pss_nil)
      (pss_cons (ps_set (i := 2) sc_Program_begin.nd rfl (.inl rfl) (pe_slice sl_list (pe_fld (pv 0) rfl) po_none (po_some (pv 1))))
      (pss_one (ps_ret (pe_makeS1 T.mk_Program (ok_Program_init T) (hr.mono (by omega)) (by rfl) T.g_Program pass0 (pv 2)))))), ?_⟩
    have ls := pair_len hs
    have rs : n < 0 ∨ (ss.length : Int) < n → ∀ d, H d = none → E (.ref T.c_TooLarge) (some d) (upd H d (.xd [("most", .int us.length)])) := fun h d hd => qx h _ d (same_new hd) hd (by rw [upd_same, ls])
    refine ⟨_, rfl, _, _, rfl, rfl, _, rfl, iteD (fun c => ?_) (fun c => ?_)⟩
    · refine ⟨_, rfl, x, _, dx, _, _, rfl, hx, T.cl_Program, T.no_Program__steps, steps_look l, l, _, rfl, .inl (SqL.of hl), _, _, rfl, rfl, _, rfl, iteN (fun c2 => ?_) (fun c2 => ?_)⟩
      · exact ⟨_, rfl, x, _, dx, _, _, rfl, hx, T.cl_Program, T.no_Program__steps, steps_look l, l, _, rfl, .inl (SqL.of hl), _, rfl, fun d hd => rs (.inr (by omega)) d hd⟩
      · obtain ⟨m, rfl⟩ := Int.eq_ofNat_of_zero_le c
        refine ⟨_, rfl, x, _, dx, _, _, rfl, hx, T.cl_Program, T.no_Program__steps, steps_look l, _, rfl, _, rfl, l, _, rfl, SqL.of hl, fun f nf => ?_⟩
        rw [cut_to us m]
        have s1 := same_new (o := .lst (us.take m)) nf
        refine ⟨_, rfl, f, _, rfl, .inr (SqL.of upd_same), fun z dz nz ndz _ => ?_⟩
        have s2 := s1.trans (same_make (C := T.c_Program) nz ndz (But.refl z _))
        exact init_pg (ss := ss.take m) upd_same (pair_take m (hs.same s2)) (by rw [List.length_take]; omega) (fun s h => hg s (List.mem_of_mem_take h)) fun H8 b8 p8 => ⟨rfl, q m rfl (by omega) z H8 (s1.trans (same_make nz ndz b8)) (s1.free nz) p8⟩
    · exact ⟨_, rfl, iteYes rfl ⟨_, rfl, x, _, dx, _, _, rfl, hx, T.cl_Program, T.no_Program__steps, steps_look l, l, _, rfl, .inl (SqL.of hl), _, rfl, fun d hd => rs (.inl (by omega)) d hd⟩⟩
end
end My

namespace My
open PySem L2
theorem Pg.nt {C : Addr} {H : Hp} {x : Addr} {ss : List Stp} (h : Pg C H x ss) : ∀ xs, H x ≠ some (.tup xs) := fun xs e => by
  obtain ⟨_, _, _, h, _⟩ := h
  rw [h] at e; cases e
theorem intsP {K : PySem.W.Frag} {x : Addr} {H : Hp} (n : Nat) : ∀ ns : List Int, Paired (Dn K x H n) (ns.map V.int) (ns.map PyData.int)
  | [] => .nil
  | i :: r => .cons (.int i) (intsP n r)
theorem intsT {K : PySem.W.Frag} {x t : Addr} {H : Hp} {ns : List Int} (h : H t = some (.tup (ns.map V.int))) (n : t ≠ x) (hz : ns.length ≤ 100000) {k : Nat} : Dn K x H (k + 1) (.ref t) (.tuple (ns.map PyData.int)) :=
  Dn.tup n (SqT.of h) (intsP k ns) (by rw [List.length_map]; exact hz)
def spThingsL (K : PySem.W.Frag) : Sp := fun vs H Q _ => ∃ (u : Addr) (us : List V) (ss : List Stp), vs = [.ref u] ∧ SqL K H u us ∧ Stps H us ss ∧ us.length ≤ 1000 ∧ ∀ r H', Same H H' → H r = none → H' r = some (.lst ((thingsOf ss).map V.int)) → Q (.ref r) H'
def spModeL (K : PySem.W.Frag) : Sp := fun vs H Q _ => ∃ (u : Addr) (n : Int) (us : List V) (ss : List Stp), vs = [.ref u, .int n] ∧ SqL K H u us ∧ Stps H us ss ∧ Q (.str (modeOf ss n)) H
def spRefused (C : Addr) : Sp := fun vs H Q _ => ∃ (x : Addr) (n : Int) (ss : List Stp), vs = [.ref x, .int n] ∧ Pg C H x ss ∧ (∀ s ∈ ss, goodS s) ∧ (n < 0 ∨ (ss.length : Int) < n) ∧ ∀ r H', Same H H' → H r = none → H' r = some (.lst [.str "TooLarge", .int ss.length]) → Q (.ref r) H'
def spParts (K : PySem.W.Frag) (C : Addr) : Sp := fun vs H Q _ => ∃ (x u : Addr) (f : Int) (us : List V) (ss : List Stp), vs = [.ref x, .ref u, .int f] ∧ Pg C H x ss ∧ H u = some (.lst us) ∧ Stps H us ss ∧ us.length ≤ 100 ∧ (∀ s ∈ ss, goodS s) ∧ 1 ≤ f ∧ f < 2000000 ∧
  ∀ H', Same H H' → Q (.bl true) H'
section
variable {w : World} {K : PySem.W.Frag} {mg : Str → Option Value} {base : Heap}
theorem ok__law_things_of (T : Txt K mg) : FnOk PP w K mg base CX0 1 T.a__law_things_of T.fd__law_things_of ["_law_steps"] (spThingsL K) := by
  refine T.F__law_things_of.ok sc__law_things_of (fun vs H Q E h => ?_) (fun cdv A outer s H vs Q E hr h => ?_)
  · obtain ⟨u, us, ss, rfl, _⟩ := h; rfl
  · obtain ⟨u, us, ss, rfl, hu, hs, hz, q⟩ := h
    refine ⟨_, (pss_cons (ps_set (i := 1) sc__law_things_of.nd rfl (.inl rfl) (pe_lst pa_nil))
      (pss_cons (ps_for PassesOwn.never rfl (pi_list (pv 0)) (pg_name (i := 2) sc__law_things_of.nd rfl (.inl rfl)) (pss_one (ps_if (PW.pt (pw_and (pt_cmpR op_ne (pe_ix ix_tup (pv 2) (pe_int) (fun _ _ => rfl)) (pe_str) (nomark _)) (pw_and1 (pt_cmpR op_notIn_seq (pe_ix ix_tup (pv 2) (pe_int) (fun _ _ => rfl)) (pv 1) (by with_unfolding_all rfl))))) (pss_one (ps_expr (pe_bm PySem.F.plainAttrs_list PySem.F.slot_list_append PySem.F.type_list_append mt_append (pv 1) (pa_cons (pe_ix ix_tup (pv 2) (pe_int) (fun _ _ => rfl)) pa_nil)))) pss_nil)))
      (pss_one (ps_ret (pv 1))))), ?_⟩
    refine ⟨Nat.zero_le _, fun f nf => ?_⟩
    have s1 := same_new (o := .lst []) nf
    have ls := pair_len hs
    refine ⟨_, rfl, u, rfl, ⟨_, s1.seq hu⟩, for_list (K := K) (a := u) (xs := us) (fun i σ H' => ∃ x2, σ = [some (.ref u), some (.ref f), x2] ∧ Same H H' ∧ H' f = some (.lst ((thingsOf (ss.take i)).map V.int)))
      ⟨_, rfl, s1, upd_same⟩ (fun i σ H' _ ⟨_, _, s2, _⟩ => s2.seq hu) ?_ ?_⟩
    · rintro i v σ H2 hv ⟨x2, rfl, s2, hf⟩
      obtain ⟨y, hy, t, rfl, ht⟩ := pair_get hs hv
      have ht2 := SqT.of (K := K) (s2 _ _ ht)
      have hi := (List.getElem?_eq_some_iff.mp hv).1
      have hlen := things_len ss i
      refine ⟨_, rfl, t, _, _, _, rfl, rfl, ht2, at_of (j := 0) rfl rfl, rfl, _, rfl, iteN (fun c => ?_) (fun c => ?_)⟩
      · refine ⟨_, rfl, t, _, _, _, rfl, rfl, ht2, at_of (j := 1) rfl rfl, _, rfl, f, _, rfl, .inl (SqL.of hf), rfl, flat_ints _, _, rfl, ?_⟩
        rw [show (if true = true then !inV (V.int y.2) ((thingsOf (ss.take i)).map V.int) else inV (V.int y.2) ((thingsOf (ss.take i)).map V.int)) = !decide (y.2 ∈ thingsOf (ss.take i)) by rw [if_pos rfl, in_ints]]
        refine iteN (fun c2 => ?_) (fun c2 => ?_)
        · refine ⟨_, rfl, .inl ⟨rfl, _, SqL.of hf⟩, _, rfl, t, _, _, _, rfl, rfl, ht2, at_of (j := 1) rfl rfl, f, _, _, rfl, rfl, hf, by rw [List.length_map]; exact Nat.lt_of_le_of_lt (by omega : _ ≤ 1000) (by decide), ?_⟩
          refine ⟨_, rfl, same_mut s2 nf, ?_⟩
          rw [upd_same, ints_app, things_take hy, if_pos ⟨fun z => c (by rw [z]), c2⟩]
        · exact ⟨_, rfl, s2, by rw [things_take hy, if_neg (fun z => z.2 c2)]; exact hf⟩
      · exact ⟨_, rfl, s2, by rw [things_take hy, if_neg (fun z => z.1 (V.str.inj c))]; exact hf⟩
    · rintro σ H2 ⟨x2, rfl, s2, hf⟩
      rw [List.take_of_length_le (by omega)] at hf
      exact ⟨_, rfl, q f H2 s2 nf hf⟩
theorem ok__law_mode (T : Txt K mg) : FnOk PP w K mg base CX0 1 T.a__law_mode T.fd__law_mode ["_law_steps", "_law_thing"] (spModeL K) := by
  refine T.F__law_mode.ok sc__law_mode (fun vs H Q E h => ?_) (fun cdv A outer s H vs Q E hr h => ?_)
  · obtain ⟨u, n, us, ss, rfl, _⟩ := h; rfl
  · obtain ⟨u, n, us, ss, rfl, hu, hs, q⟩ := h
    refine ⟨_, (pss_cons (ps_for PassesOwn.never rfl (pi_list (pv 0)) (pg_name (i := 2) sc__law_mode.nd rfl (.inl rfl)) (pss_one (ps_if (PW.pt (pw_and (pt_cmpR op_ne (pe_ix ix_tup (pv 2) (pe_int) (fun _ _ => rfl)) (pe_str) (nomark _)) (pw_and1 (pt_cmpR op_eq (pe_ix ix_tup (pv 2) (pe_int) (fun _ _ => rfl)) (pv 1) (nomark _))))) (pss_one (ps_ret (pe_ix ix_tup (pv 2) (pe_int) (fun _ _ => rfl)))) pss_nil)))
      (pss_one (ps_ret (pe_str)))), ?_⟩
    have ls := pair_len hs
    refine ⟨_, rfl, u, rfl, ⟨_, hu⟩, for_list (K := K) (a := u) (xs := us) (fun i σ H' => ∃ x2, σ = [some (.ref u), some (.int n), x2] ∧ H' = H ∧ ∀ (j : Nat) (r : Stp), j < i → ss[j]? = some r → ¬ (r.2 = n ∧ r.1 ≠ ("drop" : Str)))
      ⟨_, rfl, rfl, fun j r h => absurd h (Nat.not_lt_zero _)⟩ (fun i σ H' _ ⟨_, _, e, _⟩ => e ▸ hu) ?_ ?_⟩
    · rintro i v σ H2 hv ⟨x2, rfl, rfl, nb⟩
      obtain ⟨y, hy, t, rfl, ht⟩ := pair_get hs hv
      have ht2 := SqT.of (K := K) ht
      have step : ¬ (y.2 = n ∧ y.1 ≠ ("drop" : Str)) → ∀ (j : Nat) (r : Stp), j < i + 1 → ss[j]? = some r → ¬ (r.2 = n ∧ r.1 ≠ ("drop" : Str)) := fun c j r hj hr => by
        rcases Nat.lt_succ_iff_lt_or_eq.mp hj with h | h
        · exact nb j r h hr
        · subst h; rw [hy] at hr; rw [← Option.some.inj hr]; exact c
      refine ⟨_, rfl, t, _, _, _, rfl, rfl, ht2, at_of (j := 0) rfl rfl, rfl, _, rfl, iteN (fun c => ?_) (fun c => ?_)⟩
      · refine ⟨_, rfl, t, _, _, _, rfl, rfl, ht2, at_of (j := 1) rfl rfl, _, rfl, rfl, _, rfl, iteD (fun c2 => ?_) (fun c2 => ?_)⟩
        · rw [mode_at hy nb ⟨V.int.inj c2, fun z => c (by rw [z])⟩] at q
          exact ⟨_, rfl, t, _, _, _, rfl, rfl, ht2, at_of (j := 0) rfl rfl, q⟩
        · exact ⟨_, rfl, rfl, step fun z => c2 (by rw [z.1])⟩
      · exact ⟨_, rfl, rfl, step fun z => z.2 (V.str.inj c)⟩
    · rintro σ H2 ⟨x2, rfl, rfl, nb⟩
      rw [mode_no fun j r hr => nb j r (by have := (List.getElem?_eq_some_iff.mp hr).1; omega) hr] at q
      exact q
theorem ok__law_refused (T : Txt K mg) : FnOk PP w K mg base CX0 7 T.a__law_refused T.fd__law_refused ["_law_program", "_law_count"] (spRefused T.c_Program) := by
  refine T.F__law_refused.ok sc__law_refused (fun vs H Q E h => ?_) (fun cdv A outer s H vs Q E hr h => ?_)
  · obtain ⟨x, n, ss, rfl, _⟩ := h; rfl
  · obtain ⟨x, n, ss, rfl, hp, hg, hn, q⟩ := h
    obtain ⟨dx, l, us, hx, _⟩ := id hp
    refine ⟨_, (pss_cons (ps_try_as (i := 2) rfl rfl sc__law_refused.nd rfl rfl ⟨rfl, by decide, .inl T.g_WebError⟩ takes0 (fun W pn xe tk po => (pss_one (ps_expr (pe_methW (pv 0) T.cl_Program T.m_Program_begin (ok_Program_begin T) (hr.mono (by omega)) T.b_Program_begin .nil (fun σ => passAt tk σ) (pa_cons (pv 1) pa_nil))))) (fun a oe cls d pn hz hf => (pss_cons (ps_if (PW.pt (pw_or (pt_val (pe_callB (call_isX hz hf) (by rfl) T.n_isinstance (by decide +kernel) (pa_cons (pv 2) (pa_cons (pe_glob (v := .ref T.c_Refused) (by rfl) T.g_Refused rfl) pa_nil)))) (pw_or (pt_val (pe_callB (call_isX hz hf) (by rfl) T.n_isinstance (by decide +kernel) (pa_cons (pv 2) (pa_cons (pe_glob (v := .ref T.c_BadStep) (by rfl) T.g_BadStep rfl) pa_nil)))) (pw_or1 (pt_not (pt_val (pe_callB (call_isX hz hf) (by rfl) T.n_isinstance (by decide +kernel) (pa_cons (pv 2) (pa_cons (pe_bltn (v := .ty "ValueError") (by rfl) T.n_ValueError (by decide +kernel) rfl) pa_nil))))))))) (pss_one (ps_ret (pe_lst (pa_cons (pe_str) pa_nil)))) pss_nil)
      (pss_one (ps_if (pt_val (pe_callB (call_isX hz hf) (by rfl) T.n_isinstance (by decide +kernel) (pa_cons (pv 2) (pa_cons (pe_glob (v := .ref T.c_TooLarge) (by rfl) T.g_TooLarge rfl) pa_nil)))) (pss_one (ps_ret (pe_lst (pa_cons (pe_str) (pa_cons (pe_xfX hz hf (pv 2)) pa_nil))))) pss_nil)))))
      (pss_one (ps_ret (pe_lst pa_nil)))), ?_⟩
    refine ⟨_, rfl, x, dx, _, rfl, hx, rfl, _, rfl, x, n, ss, rfl, hp, hg, fun m e hm => ?_, fun _ H1 d s1 nd hd => ⟨true, T.em_TooLarge_WebError, fun _ a0 ha0 => ?_, fun z => nomatch z⟩⟩
    · omega
    · refine ⟨_, rfl, _, d, _, _, _, false, rfl, rfl, hd, T.xc_TooLarge, rfl, ClsV.own _, T.kt_TooLarge_Refused, _, rfl, iteF ?_⟩
      refine ⟨_, rfl, _, d, _, _, _, false, rfl, rfl, hd, T.xc_TooLarge, rfl, ClsV.own _, T.kt_TooLarge_BadStep, _, rfl, iteF ?_⟩
      refine ⟨_, rfl, _, d, _, _, _, true, rfl, rfl, hd, T.xc_TooLarge, rfl, ClsV.ty _, T.kt_TooLarge_ValueError, _, rfl, iteNo rfl ?_⟩
      refine ⟨_, rfl, _, d, _, _, _, true, rfl, rfl, hd, T.xc_TooLarge, rfl, ClsV.own _, T.kt_TooLarge_TooLarge, _, rfl, iteT ?_⟩
      refine ⟨_, rfl, rfl, _, d, _, _, rfl, T.xc_TooLarge, T.xn_TooLarge, rfl, hd, rfl, by show 2 ≤ sizeLine; decide, fun r hr => ?_⟩
      exact q r _ (s1.trans (same_new hr)) (s1.free hr) upd_same
end
end My

namespace My
open PySem L2
section
variable {w : World} {K : PySem.W.Frag} {mg : Str → Option Value} {base : Heap}
set_option maxHeartbeats 16000000 in
theorem ok__law_parts (T : Txt K mg) : FnOk PP w K mg base CX0 9 T.a__law_parts T.fd__law_parts ["_law_program", "_law_steps", "_law_factor"] (spParts K T.c_Program) := by
  refine T.F__law_parts.ok sc__law_parts (fun vs H Q E h => ?_) (fun cdv A outer s H vs Q E hr h => ?_)
  · obtain ⟨x, u, f, us, ss, rfl, _⟩ := h; rfl
  · obtain ⟨x, u, f, us, ss, rfl, hp, hu, hs, hz, hg, f1, f2, q⟩ := h
    refine ⟨_, (pss_cons (ps_if (pt_not (pt_val (pe_call (ok__law_same T 2) (hr.mono (by omega)) (by rfl) T.g__law_same T.F__law_same.kp T.b__law_same .nil pass0 (pa_cons (pe_prop (pv 0) T.cl_Program T.pr_Program_things (ok_Program_things T) (hr.mono (by omega)) T.b_Program_things .nil pass0 rfl) (pa_cons (pe_callTy call_tuple_of (by rfl) T.n_tuple (by decide +kernel) (pa_cons (pe_call (ok__law_things_of T) (hr.mono (by omega)) (by rfl) T.g__law_things_of T.F__law_things_of.kp T.b__law_things_of .nil pass0 (pa_cons (pv 1) pa_nil)) pa_nil)) pa_nil))))) (pss_one (ps_ret (pe_bl))) pss_nil)
      (pss_cons (ps_for PassesOwn.never rfl (pi_range1 (by rfl) T.n_range (pa_cons (pe_int) pa_nil)) (pg_name (i := 3) sc__law_parts.nd rfl (.inl rfl)) (pss_one (ps_if (pt_not (pt_val (pe_call (ok__law_same T 2) (hr.mono (by omega)) (by rfl) T.g__law_same T.F__law_same.kp T.b__law_same .nil pass0 (pa_cons (pe_meth (pv 0) T.cl_Program T.m_Program_mode_of (ok_Program_mode_of T) (hr.mono (by omega)) T.b_Program_mode_of .nil pass0 (pa_cons (pe_op op_mul (pv 3) (pv 2)) pa_nil)) (pa_cons (pe_call (ok__law_mode T) (hr.mono (by omega)) (by rfl) T.g__law_mode T.F__law_mode.kp T.b__law_mode .nil pass0 (pa_cons (pv 1) (pa_cons (pe_op op_mul (pv 3) (pv 2)) pa_nil))) pa_nil))))) (pss_one (ps_ret (pe_bl))) pss_nil)))
      (pss_cons (ps_for PassesOwn.never rfl (pi_range1 (by rfl) T.n_range (pa_cons (pe_op op_add (pe_callB call_len_seq (by rfl) T.n_len (by decide +kernel) (pa_cons (pv 1) pa_nil)) (pe_int)) pa_nil)) (pg_name (i := 4) sc__law_parts.nd rfl (.inl rfl)) (pss_cons (ps_set (i := 5) sc__law_parts.nd rfl (.inl rfl) (pe_meth (pv 0) T.cl_Program T.m_Program_begin ((ok_Program_begin T).calm) (hr.mono (by omega)) T.b_Program_begin .nil pass0 (pa_cons (pv 4) pa_nil)))
      (pss_cons (ps_if (PW.pt (pw_or (pt_not (pt_val (pe_callB call_isi (by rfl) T.n_isinstance (by decide +kernel) (pa_cons (pv 5) (pa_cons (pe_glob (v := .ref T.c_Program) (by rfl) T.g_Program rfl) pa_nil))))) (pw_or1 (pt_not (pt_val (pe_call (ok__law_same T 2) (hr.mono (by omega)) (by rfl) T.g__law_same T.F__law_same.kp T.b__law_same .nil pass0 (pa_cons (pe_lc (own := [("_law_step", 6)]) (g := (gName 6)) (by rfl) sc__law_parts.nd (pi_own T.m_Program_iter (ok_Program_iter T) (hr.mono (by omega)) (pv 5)) (blkOk_by (own := [("_law_step", 6)]) (N := ["_law_program", "_law_steps", "_law_factor", "_law_k", "_law_count", "_law_first", "_law_step"]) (sc := defScope S__law_parts) (by decide +kernel)) (fun _ _ _ _ _ => (pg_name (i := 6) sc__law_parts.nd rfl (.inl rfl))) (fun _ _ _ _ _ => pts_nil) (fun _ _ _ _ _ => (pv 6))) (pa_cons (pe_slice sl_list (pv 1) po_none (po_some (pv 4))) pa_nil)))))))) (pss_one (ps_ret (pe_bl))) pss_nil)
      (pss_cons (ps_if (PW.pt (pw_or (pt_not (pt_val (pe_call (ok__law_same T 2) (hr.mono (by omega)) (by rfl) T.g__law_same T.F__law_same.kp T.b__law_same .nil pass0 (pa_cons (pe_cmpR (op_cmpI (fun _ _ => rfl) T.m_Program_eq.at_ T.m_Program_eq.fn (ok_Program_eq T) (hr.mono (by omega)) T.b_Program_eq pass0) (pv 5) (pe_op (op_binO T.of_Program_add (ok_Program_add T) (hr.mono (by omega)) T.b_Program_add pass0) (pe_makeR0 T.mk_Program (ok_Program_init T) (hr.mono (by omega)) (by rfl) T.g_Program pass0) (pe_slice sl_list (pv 1) po_none (po_some (pv 4)))) (nomark _)) (pa_cons (pe_bl) pa_nil))))) (pw_or1 (pt_not (pt_val (pe_call (ok__law_same T 2) (hr.mono (by omega)) (by rfl) T.g__law_same T.F__law_same.kp T.b__law_same .nil pass0 (pa_cons (pe_cmpR (op_cmpI (fun _ _ => rfl) T.m_Program_eq.at_ T.m_Program_eq.fn (ok_Program_eq T) (hr.mono (by omega)) T.b_Program_eq pass0) (pv 5) (pv 0) (nomark _)) (pa_cons (pe_cmpR op_eq (pv 4) (pe_callB call_len_seq (by rfl) T.n_len (by decide +kernel) (pa_cons (pv 1) pa_nil)) (nomark _)) pa_nil)))))))) (pss_one (ps_ret (pe_bl))) pss_nil)
      (pss_one (ps_if (pt_not (pt_val (pe_call (ok__law_same T 2) (hr.mono (by omega)) (by rfl) T.g__law_same T.F__law_same.kp T.b__law_same .nil pass0 (pa_cons (pe_prop (pv 5) T.cl_Program T.pr_Program_things (ok_Program_things T) (hr.mono (by omega)) T.b_Program_things .nil pass0 rfl) (pa_cons (pe_callTy call_tuple_of (by rfl) T.n_tuple (by decide +kernel) (pa_cons (pe_call (ok__law_things_of T) (hr.mono (by omega)) (by rfl) T.g__law_things_of T.F__law_things_of.kp T.b__law_things_of .nil pass0 (pa_cons (pe_slice sl_list (pv 1) po_none (po_some (pv 4))) pa_nil)) pa_nil)) pa_nil))))) (pss_one (ps_ret (pe_bl))) pss_nil))))))
      (pss_cons (ps_for PassesOwn.never rfl (pi_list (pe_lst (pa_cons (pe_op op_sub (pe_int) (pe_int)) (pa_cons (pe_op op_add (pe_callB call_len_seq (by rfl) T.n_len (by decide +kernel) (pa_cons (pv 1) pa_nil)) (pe_int)) (pa_cons (pe_op op_add (pe_callB call_len_seq (by rfl) T.n_len (by decide +kernel) (pa_cons (pv 1) pa_nil)) (pv 2)) (pa_cons (pe_op op_sub (pe_int) (pv 2)) pa_nil)))))) (pg_name (i := 4) sc__law_parts.nd rfl (.inl rfl)) (pss_one (ps_if (pt_not (pt_val (pe_call (ok__law_same T 2) (hr.mono (by omega)) (by rfl) T.g__law_same T.F__law_same.kp T.b__law_same .nil pass0 (pa_cons (pe_call (ok__law_refused T) (hr.mono (by omega)) (by rfl) T.g__law_refused T.F__law_refused.kp T.b__law_refused .nil pass0 (pa_cons (pv 0) (pa_cons (pv 4) pa_nil))) (pa_cons (pe_lst (pa_cons (pe_str) (pa_cons (pe_callB call_len_seq (by rfl) T.n_len (by decide +kernel) (pa_cons (pv 1) pa_nil)) pa_nil))) pa_nil))))) (pss_one (ps_ret (pe_bl))) pss_nil)))
      (pss_one (ps_ret (pe_call (ok__law_same T 2) (hr.mono (by omega)) (by rfl) T.g__law_same T.F__law_same.kp T.b__law_same .nil pass0 (pa_cons (pe_lc (own := [("_law_step", 6)]) (g := (gName 6)) (by rfl) sc__law_parts.nd (pi_own T.m_Program_iter (ok_Program_iter T) (hr.mono (by omega)) (pv 0)) (blkOk_by (own := [("_law_step", 6)]) (N := ["_law_program", "_law_steps", "_law_factor", "_law_k", "_law_count", "_law_first", "_law_step"]) (sc := defScope S__law_parts) (by decide +kernel)) (fun _ _ _ _ _ => (pg_name (i := 6) sc__law_parts.nd rfl (.inl rfl))) (fun _ _ _ _ _ => pts_nil) (fun _ _ _ _ _ => (pv 6))) (pa_cons (pv 1) pa_nil))))))))), ?_⟩
    have ls := pair_len hs
    obtain ⟨dx, l, vs, hx, hl, hv, hvl⟩ := id hp
    have lv := pair_len hv
    have nux : u ≠ x := ne_of hu hx (by intro z; cases z)
    -- things
    refine ⟨_, rfl, x, dx, _, rfl, hx, x, ss, rfl, hp, fun t H1 s1 nt ht => ?_⟩
    refine ⟨_, rfl, u, us, ss, rfl, SqL.of (s1 _ _ hu), hs.same s1, by omega, fun r H2 s2 nr hr => ?_⟩
    refine ⟨r, _, rfl, .inl ⟨SqL.of hr, fun t2 nt2 => ?_⟩⟩
    have s3 := same_new (o := .tup ((thingsOf ss).map V.int)) nt2
    have s13 := (s1.trans s2).trans s3
    have tls : (thingsOf ss).length ≤ 100000 := by
      have := things_len ss ss.length
      rw [List.take_length] at this
      omega
    refine ⟨x, _, _, .tuple ((thingsOf ss).map PyData.int), .tuple ((thingsOf ss).map PyData.int), rfl, intsT (s3 _ _ (s2 _ _ ht)) (fun e => by rw [e, hx] at nt; cases nt) tls, intsT upd_same (ne_of_none ((s1.trans s2) _ _ hx) nt2).symm tls, _, rfl, iteNo nsame ?_⟩
    -- modes
    refine ⟨6, rfl, by decide, by decide, for_range (lo := 0) (n := 6) (fun j σ H' => ∃ x3, σ = [some (.ref x), some (.ref u), some (.int f), x3, none, none, none] ∧ Same H H') ⟨_, rfl, s13⟩ ?_ ?_⟩
    · rintro j σ H4 hj ⟨x3, rfl, s4⟩
      refine ⟨_, rfl, x, dx, _, rfl, s4 _ _ hx, rfl, _, rfl, _, rfl, _, _, rfl, rfl, .inl ⟨by omega, by omega⟩, x, _, ss, rfl, hp.same s4, ?_⟩
      refine ⟨_, rfl, _, rfl, _, rfl, _, _, rfl, rfl, .inl ⟨by omega, by omega⟩, u, _, us, ss, rfl, SqL.of (s4 _ _ hu), hs.same s4, ?_⟩
      exact ⟨x, _, _, .str _, .str _, rfl, .str _, .str _, _, rfl, iteNo nsame ⟨_, rfl, s4⟩⟩
    rintro σ H4 ⟨x3, rfl, s4⟩
    -- beginnings
    refine ⟨_, rfl, u, _, rfl, .inl (SqL.of (s4 _ _ hu)), _, _, rfl, rfl, _, rfl, by omega, by omega, for_range (lo := 0) (n := us.length + 1) (fun j σ H' => ∃ x4 x5 x6, σ = [some (.ref x), some (.ref u), some (.int f), x3, x4, x5, x6] ∧ Same H H') ⟨_, _, _, rfl, s4⟩ ?_ ?_⟩
    · rintro m σ H5 hm ⟨x4, x5, x6, rfl, s5⟩
      have em : (0 : Int) + (m : Int) = (m : Int) := by omega
      rw [em]
      refine ⟨_, rfl, x, dx, _, rfl, s5 _ _ hx, rfl, _, rfl, x, _, ss, rfl, hp.same s5, hg, fun m' e hm' z H6 s6 nz hz6 => ?_, fun e => ?_⟩
      rotate_left
      · omega
      obtain rfl : m = m' := by omega
      have s56 := s5.trans s6
      obtain ⟨dz, k, ws, hz1, hk, hw, hwl⟩ := id hz6
      have lw := pair_len hw
      have gz : ∀ s ∈ ss.take m, goodS s := fun s h => hg s (List.mem_of_mem_take h)
      -- isinstance
      refine ⟨_, rfl, _, _, _, _, true, rfl, ClsV.own _, .base (T.ti_Program _ _ _ _ hz1), T.kk_Program, _, rfl, iteNo rfl ?_⟩
      -- the steps of the beginning
      refine ⟨_, rfl, z, dz, k, _, ws, rfl, hz1, steps_look k, SqL.of hk, fun D nD => ?_⟩
      refine lc_list (K := K) (a := k) (xs := ws) (fun i H' => Same H6 H' ∧ H' D = some (.lst (ws.take i))) ⟨same_new nD, upd_same⟩ (fun i H' _ ⟨s, _⟩ => SqL.of (s _ _ hk)) ?_ ?_
      · rintro i v H7 hv7 ⟨s7, h7⟩
        refine ⟨rfl, _, rfl, _, h7, Nat.lt_of_le_of_lt (by rw [List.length_take]; omega : _ ≤ 1000) (by decide), same_mut s7 nD, ?_⟩
        rw [upd_same, List.take_add_one, hv7]; rfl
      rintro H7 ⟨s7, h7⟩
      rw [List.take_length] at h7
      have t7 := s56.trans s7
      refine ⟨_, rfl, _, rfl, _, rfl, u, _, rfl, SqL.of (t7 _ _ hu), fun c nc => ?_⟩
      rw [cut_to us m]
      have s8 := same_new (o := .lst (us.take m)) nc
      have t8 := t7.trans s8
      have hx8 := t8 _ _ hx
      have hs8 := pair_take m (hs.same t8)
      have nx8 : ∀ xs, upd H7 c (.lst (us.take m)) x ≠ some (.tup xs) := fun xs e => by rw [hx8] at e; cases e
      refine ⟨x, _, _, .list ((ss.take m).map stpD), .list ((ss.take m).map stpD), rfl, stpsDL (s8 _ _ h7) (hw.same (s7.trans s8)) (fun e => by rw [e, s56 _ _ hx] at nD; cases nD) nx8 (by omega), stpsDL upd_same hs8 (ne_of_none (t7 _ _ hx) nc).symm nx8 (by rw [List.length_take]; omega), _, rfl, iteNo nsame ?_⟩
      -- == of the one made of the steps
      refine ⟨_, rfl, fun p0 d0 np nd0 _ => init_pg (us := []) (ss := []) upd_same .nil (Nat.zero_le _) (fun s h => by cases h) fun H9 b9 p9 => ⟨rfl, ?_⟩⟩
      have t9 := t8.trans (same_make np nd0 b9)
      have u9 := s8.trans (same_make np nd0 b9)
      refine ⟨_, rfl, _, rfl, _, rfl, u, _, rfl, SqL.of (t9 _ _ hu), fun c2 nc2 => ?_⟩
      rw [cut_to us m]
      have s10 := same_new (o := .lst (us.take m)) nc2
      have t10 := t9.trans s10
      obtain ⟨d9, l9, v9, e9, _⟩ := id (p9.same s10)
      refine ⟨p0, _, _, rfl, e9, .inr ⟨c2, _, rfl, .inl (SqL.of upd_same)⟩, p0, c2, [], ss.take m, rfl, p9.same s10, .inr ⟨_, .inl (SqL.of upd_same), pair_take m (hs.same t10)⟩, by simp; omega, by simpa using gz, fun p2 H11 s11 np2 hp2 => ?_⟩
      have u11 := ((s7.trans u9).trans s10).trans s11
      have z11 := hz6.same u11
      obtain ⟨dz2, l2, v2, e2, _⟩ := id hp2
      refine ⟨z, _, _, p2, _, _, rfl, rfl, u11 _ _ hz1, e2, z, p2, ss.take m, ss.take m, rfl, z11, by simpa using hp2, gz, gz, ?_⟩
      refine ⟨x, _, _, .bool _, .bool true, rfl, .bl _, .bl _, _, rfl, iteNo (by rw [decide_eq_true rfl]; exact nsame) ?_⟩
      have t11 := s56.trans u11
      -- == of the whole
      refine ⟨_, rfl, _, rfl, z, _, _, x, _, _, rfl, rfl, u11 _ _ hz1, t11 _ _ hx, z, x, ss.take m, ss, rfl, z11, hp.same t11, gz, hg, ?_⟩
      refine ⟨_, rfl, _, rfl, u, _, rfl, .inl (SqL.of (t11 _ _ hu)), rfl, ?_⟩
      have ed : decide (ss.take m = ss) = decide (V.int (m : Nat) = V.int (us.length : Nat)) := by
        by_cases h : m = us.length
        · rw [decide_eq_true (by rw [h, ls]; exact List.take_length), decide_eq_true (by rw [h])]
        · rw [decide_eq_false (fun e => h (by have := congrArg List.length e; rw [List.length_take] at this; omega)), decide_eq_false (fun e => h (by injection e with e; omega))]
      refine ⟨x, _, _, .bool _, .bool _, rfl, .bl _, .bl _, _, rfl, iteNo (by rw [ed]; exact nsame) ?_⟩
      -- its things
      refine ⟨_, rfl, z, _, _, rfl, u11 _ _ hz1, z, ss.take m, rfl, z11, fun t H12 s12 nt ht => ?_⟩
      have t12 := t11.trans s12
      refine ⟨_, rfl, _, rfl, _, rfl, u, _, rfl, SqL.of (t12 _ _ hu), fun c3 nc3 => ?_⟩
      rw [cut_to us m]
      have s13 := same_new (o := .lst (us.take m)) nc3
      have t13 := t12.trans s13
      refine ⟨c3, us.take m, ss.take m, rfl, SqL.of upd_same, pair_take m (hs.same t13), by rw [List.length_take]; omega, fun r H14 s14 nr hr => ?_⟩
      have t14 := t13.trans s14
      refine ⟨r, _, rfl, .inl ⟨SqL.of hr, fun t2 nt2 => ?_⟩⟩
      have s15 := same_new (o := .tup ((thingsOf (ss.take m)).map V.int)) nt2
      have t15 := t14.trans s15
      have tlm : (thingsOf (ss.take m)).length ≤ 100000 := by have := things_len ss m; omega
      refine ⟨x, _, _, .tuple ((thingsOf (ss.take m)).map PyData.int), .tuple ((thingsOf (ss.take m)).map PyData.int), rfl, intsT (s15 _ _ (s14 _ _ (s13 _ _ ht))) (fun e => by rw [e, t11 _ _ hx] at nt; cases nt) tlm, intsT upd_same (ne_of_none (t14 _ _ hx) nt2).symm tlm, _, rfl, iteNo nsame ?_⟩
      exact ⟨_, _, _, rfl, t15⟩
    rintro σ H5 ⟨x4, x5, x6, rfl, s5⟩
    -- refusals
    refine ⟨_, _, rfl, rfl, _, rfl, u, _, rfl, .inl (SqL.of (s5 _ _ hu)), _, _, rfl, rfl, _, rfl, u, _, rfl, .inl (SqL.of (s5 _ _ hu)), _, rfl, _, _, rfl, rfl, _, rfl, _, _, rfl, rfl, by show 4 ≤ sizeLine; decide, fun L nL => ?_⟩
    have s6 := s5.trans (same_new (o := .lst [.int (0 - 1), .int ((us.length : Nat) + 1), .int ((us.length : Nat) + f), .int (0 - f)]) nL)
    refine ⟨L, rfl, ⟨_, SqL.of upd_same⟩, for_list (K := K) (a := L) (xs := [.int (0 - 1), .int ((us.length : Nat) + 1), .int ((us.length : Nat) + f), .int (0 - f)]) (fun i σ H' => ∃ x4, σ = [some (.ref x), some (.ref u), some (.int f), x3, x4, x5, x6] ∧ Same H H' ∧ H' L = some (.lst [.int (0 - 1), .int ((us.length : Nat) + 1), .int ((us.length : Nat) + f), .int (0 - f)]))
      ⟨_, rfl, s6, upd_same⟩ (fun i σ H' _ ⟨_, _, _, h⟩ => SqL.of h) ?_ ?_⟩
    · rintro i v σ H7 hv7 ⟨x4, rfl, s7, hL7⟩
      obtain ⟨n, rfl, hn⟩ : ∃ n : Int, v = .int n ∧ (n < 0 ∨ (ss.length : Int) < n) := by
        have m := List.mem_of_getElem? hv7
        simp only [List.mem_cons, List.not_mem_nil, or_false] at m
        rcases m with rfl | rfl | rfl | rfl
        · exact ⟨_, rfl, .inl (by omega)⟩
        · exact ⟨_, rfl, .inr (by omega)⟩
        · exact ⟨_, rfl, .inr (by omega)⟩
        · exact ⟨_, rfl, .inl (by omega)⟩
      refine ⟨_, rfl, _, rfl, x, n, ss, rfl, hp.same s7, hg, hn, fun r H8 s8 nr hr => ?_⟩
      have t8 := s7.trans s8
      refine ⟨_, rfl, u, _, rfl, .inl (SqL.of (t8 _ _ hu)), by show 2 ≤ sizeLine; decide, fun r2 nr2 => ?_⟩
      have s9 := same_new (o := .lst [.str "TooLarge", .int (us.length : Nat)]) nr2
      refine ⟨x, _, _, .list [.str "TooLarge", .int (ss.length : Nat)], .list [.str "TooLarge", .int (us.length : Nat)], rfl, (Dn.lst (fun e => by rw [e, s7 _ _ hx] at nr; cases nr) (SqL.of (s9 _ _ hr)) (.cons (.str _) (.cons (.int _) .nil))), Dn.lst (ne_of_none (t8 _ _ hx) nr2).symm (SqL.of upd_same) (.cons (.str _) (.cons (.int _) .nil)), _, rfl, iteNo (by rw [ls]; exact nsame) ?_⟩
      exact ⟨_, rfl, t8.trans s9, (s8.trans s9) _ _ hL7⟩
    rintro σ H7 ⟨x4, rfl, s7, _⟩
    -- the program stays
    obtain ⟨dx7, l7, v7, hx7, hl7, hs7, hz7⟩ := id (hp.same s7)
    refine ⟨_, rfl, x, dx7, l7, _, v7, rfl, hx7, steps_look l7, SqL.of hl7, fun D nD => ?_⟩
    refine lc_list (K := K) (a := l7) (xs := v7) (fun i H' => Same H7 H' ∧ H' D = some (.lst (v7.take i))) ⟨same_new nD, upd_same⟩ (fun i H' _ ⟨s, _⟩ => SqL.of (s _ _ hl7)) ?_ ?_
    · rintro i v H8 hv8 ⟨s8, h8⟩
      refine ⟨rfl, _, rfl, _, h8, Nat.lt_of_le_of_lt (by rw [List.length_take]; omega : _ ≤ 1000) (by decide), same_mut s8 nD, ?_⟩
      rw [upd_same, List.take_add_one, hv8]; rfl
    rintro H8 ⟨s8, h8⟩
    rw [List.take_length] at h8
    have t8 := s7.trans s8
    have hx8 := t8 _ _ hx
    have nx8 : ∀ xs, H8 x ≠ some (.tup xs) := fun xs e => by rw [hx8] at e; cases e
    have qq := q H8 t8
    refine ⟨_, rfl, x, _, _, .list (ss.map stpD), .list (ss.map stpD), rfl, stpsDL h8 (hs7.same s8) (fun e => by rw [e, hx7] at nD; cases nD) nx8 (by omega), stpsDL (t8 _ _ hu) (hs.same t8) nux nx8 (by omega), ?_⟩
    rw [same_yes rfl]
    exact qq
end
end My

namespace My
open PySem L2
def spLaw (K : PySem.W.Frag) : Sp := fun vs H Q _ => ∃ (a : Addr) (ns : List Int), vs = [.ref a] ∧ SqL K H a (ns.map V.int) ∧ ns.length ≤ 63 ∧ ∀ H', Q (.bl true) H'
def deeds6 : List V := [.str "own", .str "share", .str "drop", .str "share", .str "own", .str "drop"]
theorem deeds6_ok {v : V} (h : v ∈ deeds6) : ∃ z : Str, v = .str z ∧ (z = "own" ∨ z = "share" ∨ z = "drop") := by
  unfold deeds6 at h
  simp only [List.mem_cons, List.not_mem_nil, or_false] at h
  rcases h with rfl | rfl | rfl | rfl | rfl | rfl <;> exact ⟨_, rfl, by simp⟩
section
variable {w : World} {K : PySem.W.Frag} {mg : Str → Option Value} {base : Heap}
set_option maxHeartbeats 16000000 in
theorem ok_law (T : Txt K mg) : FnOk PP w K mg base CX0 12 T.a_law T.fd_law ["_law_script"] (spLaw K) := by
  refine T.F_law.ok sc_law (fun vs H Q E h => ?_) (fun cdv A outer s H vs Q E hr h => ?_)
  · obtain ⟨a, ns, rfl, _⟩ := h; rfl
  · obtain ⟨a0, ns, rfl, hS, hlen, q⟩ := h
    refine ⟨_, (pss_cons (ps_set (i := 1) sc_law.nd rfl (.inl rfl) (pe_call (ok__law_draws T) (hr.mono (by omega)) (by rfl) T.g__law_draws T.F__law_draws.kp T.b__law_draws .nil pass0 (pa_cons (pv 0) pa_nil)))
      (pss_cons (ps_set (i := 2) sc_law.nd rfl (.inl rfl) (pe_lst (pa_cons (pe_int) pa_nil)))
      (pss_cons (ps_set (i := 3) sc_law.nd rfl (.inl rfl) (pe_int))
      (C8.pss_cut (ps_if (pt_cmpR op_eq (pe_call (ok__law_take T) (hr.mono (by omega)) (by rfl) T.g__law_take T.F__law_take.kp T.b__law_take .nil pass0 (pa_cons (pv 1) (pa_cons (pv 2) (pa_cons (pe_int) pa_nil)))) (pe_int) (nomark _)) (pss_one (ps_set (i := 3) sc_law.nd rfl (.inl rfl) (pe_op op_add (pe_op op_add (pe_int) (pe_op op_mul (pe_call (ok__law_take T) (hr.mono (by omega)) (by rfl) T.g__law_take T.F__law_take.kp T.b__law_take .nil pass0 (pa_cons (pv 1) (pa_cons (pv 2) (pa_cons (pe_int) pa_nil)))) (pe_int))) (pe_call (ok__law_take T) (hr.mono (by omega)) (by rfl) T.g__law_take T.F__law_take.kp T.b__law_take .nil pass0 (pa_cons (pv 1) (pa_cons (pv 2) (pa_cons (pe_int) pa_nil))))))) pss_nil)
      (pss_cons (ps_set (i := 4) sc_law.nd rfl (.inl rfl) (pe_lst pa_nil))
      (pss_cons (ps_for PassesOwn.never rfl (pi_range1 (by rfl) T.n_range (pa_cons (pe_ix ix_list (pe_lst (pa_cons (pe_int) (pa_cons (pe_int) (pa_cons (pe_int) (pa_cons (pe_int) (pa_cons (pe_int) (pa_cons (pe_int) (pa_cons (pe_int) (pa_cons (pe_int) (pa_cons (pe_int) pa_nil)))))))))) (pe_call (ok__law_take T) (hr.mono (by omega)) (by rfl) T.g__law_take T.F__law_take.kp T.b__law_take .nil pass0 (pa_cons (pv 1) (pa_cons (pv 2) (pa_cons (pe_int) pa_nil)))) (fun _ _ => rfl)) pa_nil)) (pg_name (i := 5) sc_law.nd rfl (.inl rfl)) (pss_cons (ps_set (i := 6) sc_law.nd rfl (.inl rfl) (pe_op op_mul (pe_call (ok__law_take T) (hr.mono (by omega)) (by rfl) T.g__law_take T.F__law_take.kp T.b__law_take .nil pass0 (pa_cons (pv 1) (pa_cons (pv 2) (pa_cons (pe_int) pa_nil)))) (pv 3)))
      (pss_one (ps_expr (pe_bm PySem.F.plainAttrs_list PySem.F.slot_list_append PySem.F.type_list_append mt_append (pv 4) (pa_cons (pe_tup (pa_cons (pe_ix ix_list (pe_lst (pa_cons (pe_str) (pa_cons (pe_str) (pa_cons (pe_str) (pa_cons (pe_str) (pa_cons (pe_str) (pa_cons (pe_str) pa_nil))))))) (pe_call (ok__law_take T) (hr.mono (by omega)) (by rfl) T.g__law_take T.F__law_take.kp T.b__law_take .nil pass0 (pa_cons (pv 1) (pa_cons (pv 2) (pa_cons (pe_int) pa_nil)))) (fun _ _ => rfl)) (pa_cons (pv 6) pa_nil))) pa_nil))))))
      (pss_cons (ps_set (i := 7) sc_law.nd rfl (.inl rfl) (pe_call (ok__law_take T) (hr.mono (by omega)) (by rfl) T.g__law_take T.F__law_take.kp T.b__law_take .nil pass0 (pa_cons (pv 1) (pa_cons (pv 2) (pa_cons (pe_op op_add (pe_callB call_len_seq (by rfl) T.n_len (by decide +kernel) (pa_cons (pv 4) pa_nil)) (pe_int)) pa_nil)))))
      (pss_cons (ps_set (i := 8) sc_law.nd rfl (.inl rfl) (pe_op (op_binO T.of_Program_add (ok_Program_add T) (hr.mono (by omega)) T.b_Program_add pass0) (pe_makeR0 T.mk_Program (ok_Program_init T) (hr.mono (by omega)) (by rfl) T.g_Program pass0) (pv 4)))
      (pss_cons (ps_if (pt_not (pt_val (pe_call (ok__law_parts T) (hr.mono (by omega)) (by rfl) T.g__law_parts T.F__law_parts.kp T.b__law_parts .nil pass0 (pa_cons (pv 8) (pa_cons (pv 4) (pa_cons (pv 3) pa_nil)))))) (pss_one (ps_ret (pe_bl))) pss_nil)
      (pss_cons (ps_set (i := 9) sc_law.nd rfl (.inl rfl) (pe_op (op_binO T.of_Program_add (ok_Program_add T) (hr.mono (by omega)) T.b_Program_add pass0) (pe_op (op_binO T.of_Program_add (ok_Program_add T) (hr.mono (by omega)) T.b_Program_add pass0) (pe_makeR0 T.mk_Program (ok_Program_init T) (hr.mono (by omega)) (by rfl) T.g_Program pass0) (pe_slice sl_list (pv 4) po_none (po_some (pv 7)))) (pe_op (op_binO T.of_Program_add (ok_Program_add T) (hr.mono (by omega)) T.b_Program_add pass0) (pe_makeR0 T.mk_Program (ok_Program_init T) (hr.mono (by omega)) (by rfl) T.g_Program pass0) (pe_slice sl_list (pv 4) (po_some (pv 7)) po_none))))
      (pss_one (ps_ret (pe_and (pe_call (ok__law_parts T) (hr.mono (by omega)) (by rfl) T.g__law_parts T.F__law_parts.kp T.b__law_parts .nil pass0 (pa_cons (pv 9) (pa_cons (pv 4) (pa_cons (pv 3) pa_nil)))) (pe_one (pe_call (ok__law_parts T) (hr.mono (by omega)) (by rfl) T.g__law_parts T.F__law_parts.kp T.b__law_parts .nil pass0 (pa_cons (pv 8) (pa_cons (pv 4) (pa_cons (pv 3) pa_nil)))))))))))))))))), ?_⟩
    refine ⟨_, rfl, a0, ns, rfl, hS, hlen, fun d zs H1 s1 nd hd => ?_⟩
    refine ⟨by show 1 ≤ sizeLine; decide, fun t hat => ?_⟩
    have D0 : Dr K (upd H1 t (.lst [.int 0])) d t := ⟨⟨zs, same_new hat _ _ hd⟩, ⟨0, upd_same⟩, ne_of_none hd hat⟩
    revert D0
    generalize upd H1 t (.lst [.int 0]) = H2
    intro D0
    -- the factor
    refine ⟨fun σ' H' => ∃ f : Int, σ' = [some (.ref a0), some (.ref d), some (.ref t), some (.int f), none, none, none, none, none, none] ∧ 1 ≤ f ∧ f < 2000000 ∧ Dr K H' d t, ?_, ?_⟩
    · refine ⟨_, rfl, _, rfl, d, t, 4, rfl, D0, by decide, fun r1 H3 h10 h11 D3 b3 => ⟨rfl, _, rfl, iteD (fun c => ?_) (fun c => ?_)⟩⟩
      · refine ⟨_, rfl, _, rfl, d, t, 1000, rfl, D3, by decide, fun r2 H4 h20 h21 D4 b4 => ⟨_, _, rfl, rfl, .inr ⟨by decide, by decide⟩, _, _, rfl, rfl, _, rfl, _, rfl, d, t, 999, rfl, D4, by decide, fun r3 H5 h30 h31 D5 b5 => ⟨_, _, rfl, rfl, _, rfl, ?_, ?_, D5⟩⟩⟩
        · omega
        · omega
      · exact ⟨1, rfl, by decide, by decide, D3⟩
    rintro σ' H3 ⟨f, rfl, f1, f2, D3⟩
    refine ⟨Nat.zero_le _, fun u nu => ?_⟩
    have s4 := same_new (o := .lst []) nu
    have nut : u ≠ t := D3.na nu
    refine ⟨by show 9 ≤ sizeLine; decide, fun m nm => ?_⟩
    have s5 := same_new (o := .lst [.int 3, .int 5, .int 8, .int 4, .int 2, .int 6, .int 0, .int 1, .int 7]) nm
    have nmt : m ≠ t := (D3.same s4).na nm
    refine ⟨_, rfl, _, rfl, d, t, 9, rfl, (D3.same s4).same s5, by decide, fun r1 H6 h10 h11 D6 b6 => ?_⟩
    obtain ⟨v, hv, mv⟩ := at_ok (xs := [.int 3, .int 5, .int 8, .int 4, .int 2, .int 6, .int 0, .int 1, .int 7]) h10 h11
    obtain ⟨n, rfl, hn⟩ : ∃ n : Nat, v = .int n ∧ n ≤ 8 := by
      simp only [List.mem_cons, List.not_mem_nil, or_false] at mv
      rcases mv with rfl | rfl | rfl | rfl | rfl | rfl | rfl | rfl | rfl
      · exact ⟨3, rfl, by decide⟩
      · exact ⟨5, rfl, by decide⟩
      · exact ⟨8, rfl, by decide⟩
      · exact ⟨4, rfl, by decide⟩
      · exact ⟨2, rfl, by decide⟩
      · exact ⟨6, rfl, by decide⟩
      · exact ⟨0, rfl, by decide⟩
      · exact ⟨1, rfl, by decide⟩
      · exact ⟨7, rfl, by decide⟩
    refine ⟨_, _, _, _, rfl, rfl, SqL.of (b6 _ _ nmt upd_same), hv, _, rfl, by omega, by omega, for_range (lo := 0) (n := n) (fun j σ H' => ∃ x5 x6 us ss, σ = [some (.ref a0), some (.ref d), some (.ref t), some (.int f), some (.ref u), x5, x6, none, none, none] ∧ Dr K H' d t ∧ H' u = some (.lst us) ∧ Stps H' us ss ∧ us.length = j ∧ ∀ s ∈ ss, goodS s)
      ⟨_, _, [], [], rfl, D6, b6 _ _ nut (s5 _ _ upd_same), .nil, rfl, fun s h => by cases h⟩ ?_ ?_⟩
    · rintro j σ H7 hj ⟨x5, x6, us, ss, rfl, D7, hu, hs, lu, hg⟩
      refine ⟨_, rfl, _, rfl, d, t, 5, rfl, D7, by decide, fun r2 H8 h20 h21 D8 b8 => ⟨_, rfl, _, _, rfl, rfl, .inl ⟨by omega, by omega⟩, ?_⟩⟩
      have p8 : 0 ≤ r2 * f := Int.mul_nonneg h20 (by omega)
      have hu8 := b8 _ _ nut hu
      have nt7 : ∀ xs, H7 t ≠ some (.tup xs) := fun xs e => by have := D7.pl.choose_spec; rw [this] at e; cases e
      have hs8 := hs.keep (.but b8 nt7)
      refine ⟨_, rfl, .inl ⟨rfl, _, SqL.of hu8⟩, by show 6 ≤ sizeLine; decide, fun c nc => ?_⟩
      have s9 := same_new (o := .lst deeds6) nc
      have nct : c ≠ t := D8.na nc
      refine ⟨_, rfl, _, rfl, d, t, 6, rfl, D8.same s9, by decide, fun r3 H10 h30 h31 D10 b10 => ?_⟩
      obtain ⟨v, hv, mv⟩ := at_ok (xs := deeds6) h30 h31
      obtain ⟨z, rfl, hz⟩ := deeds6_ok mv
      have hu10 := b10 _ _ nut (s9 _ _ hu8)
      have nt9 : ∀ xs, upd H8 c (.lst deeds6) t ≠ some (.tup xs) := fun xs e => by have := (D8.same s9).pl.choose_spec; rw [this] at e; cases e
      have hs10 := (hs8.same s9).keep (.but b10 nt9)
      refine ⟨_, _, _, _, rfl, rfl, SqL.of (b10 _ _ nct upd_same), hv, _, rfl, by show 2 ≤ sizeLine; decide, fun e ne => ?_⟩
      have s11 := same_new (o := .tup [.str z, .int (r2 * f)]) ne
      have D11 := D10.same s11
      have hu11 := s11 _ _ hu10
      have nue : u ≠ e := ne_of_none hu10 ne
      refine ⟨_, _, _, rfl, rfl, hu11, Nat.lt_of_le_of_lt (by omega : _ ≤ 1000) (by decide), ?_⟩
      refine ⟨_, _, us ++ [.ref e], ss ++ [(z, r2 * f)], rfl, D11.other But.upd (D3.nd nu) nut.symm, upd_same, ?_, by rw [List.length_append, lu]; rfl, ?_⟩
      · refine pair_app (hs10.same s11 |>.keep fun a xs h => ?_) (.cons ⟨e, rfl, by rw [upd_ne nue.symm]; exact upd_same⟩ .nil)
        rw [upd_ne (fun q => by rw [q, hu11] at h; cases h)]; exact h
      · intro s hs
        rcases List.mem_append.mp hs with h | h
        · exact hg s h
        · rw [List.mem_singleton.mp h]; exact ⟨hz, p8⟩
    rintro σ H7 ⟨x5, x6, us, ss, rfl, D7, hu, hs, lu, hg⟩
    have ls := pair_len hs
    refine ⟨_, rfl, _, rfl, _, rfl, u, _, rfl, .inl (SqL.of hu), _, _, rfl, rfl, d, t, _, rfl, D7, by omega, fun r2 H8 h20 h21 D8 b8 => ?_⟩
    obtain ⟨c, rfl⟩ := Int.eq_ofNat_of_zero_le h20
    have nt7 : ∀ xs, H7 t ≠ some (.tup xs) := fun xs e => by have := D7.pl.choose_spec; rw [this] at e; cases e
    have hu8 := b8 _ _ nut hu
    have hs8 := hs.keep (.but b8 nt7)
    -- the program
    refine fun p0 d0 np nd0 _ => init_pg (us := []) (ss := []) upd_same .nil (Nat.zero_le _) (fun s h => by cases h) fun H9 b9 p9 => ⟨rfl, ?_⟩
    have s9 := same_make np nd0 b9
    obtain ⟨dd, ll, vv, e9, _⟩ := id p9
    refine ⟨_, rfl, p0, _, _, rfl, e9, .inr ⟨u, _, rfl, .inl (SqL.of (s9 _ _ hu8))⟩, p0, u, [], ss, rfl, p9, .inr ⟨_, .inl (SqL.of (s9 _ _ hu8)), hs8.same s9⟩, by simp; omega, by simpa using hg, fun p H10 s10 np1 hp => ?_⟩
    have hp : Pg T.c_Program H10 p ss := by simpa using hp
    have t10 := s9.trans s10
    refine ⟨_, rfl, _, rfl, _, rfl, p, u, f, us, ss, rfl, hp, t10 _ _ hu8, hs8.same t10, by omega, hg, f1, f2, fun H11 s11 => ⟨_, rfl, iteNo rfl ?_⟩⟩
    have t11 := t10.trans s11
    -- the joined one
    refine fun p1 d1 np1 nd1 _ => init_pg (us := []) (ss := []) upd_same .nil (Nat.zero_le _) (fun s h => by cases h) fun H12 b12 p12 => ⟨rfl, ?_⟩
    have s12 := same_make np1 nd1 b12
    have t12 := t11.trans s12
    refine ⟨_, rfl, _, rfl, _, rfl, u, _, rfl, SqL.of (t12 _ _ hu8), fun c1 nc1 => ?_⟩
    rw [cut_to us c]
    have s13 := same_new (o := .lst (us.take c)) nc1
    have t13 := t12.trans s13
    obtain ⟨_, _, _, e13, _⟩ := id (p12.same s13)
    refine ⟨p1, _, _, rfl, e13, .inr ⟨c1, _, rfl, .inl (SqL.of upd_same)⟩, p1, c1, [], ss.take c, rfl, p12.same s13, .inr ⟨_, .inl (SqL.of upd_same), pair_take c (hs8.same t13)⟩, by simp; omega, by simpa using fun s h => hg s (List.mem_of_mem_take h), fun p2 H14 s14 np2 hp2 => ?_⟩
    have hp2 : Pg T.c_Program H14 p2 (ss.take c) := by simpa using hp2
    have t14 := t13.trans s14
    refine fun p3 d3 np3 nd3 _ => init_pg (us := []) (ss := []) upd_same .nil (Nat.zero_le _) (fun s h => by cases h) fun H15 b15 p15 => ⟨rfl, ?_⟩
    have s15 := same_make np3 nd3 b15
    have t15 := t14.trans s15
    refine ⟨_, rfl, _, rfl, _, rfl, u, _, rfl, SqL.of (t15 _ _ hu8), fun c2 nc2 => ?_⟩
    rw [cut_from us c]
    have s16 := same_new (o := .lst (us.drop c)) nc2
    have t16 := t15.trans s16
    obtain ⟨_, _, _, e16, _⟩ := id (p15.same s16)
    refine ⟨p3, _, _, rfl, e16, .inr ⟨c2, _, rfl, .inl (SqL.of upd_same)⟩, p3, c2, [], ss.drop c, rfl, p15.same s16, .inr ⟨_, .inl (SqL.of upd_same), pair_drop c (hs8.same t16)⟩, by simp; omega, by simpa using fun s h => hg s (List.mem_of_mem_drop h), fun p4 H17 s17 np4 hp4 => ?_⟩
    have hp4 : Pg T.c_Program H17 p4 (ss.drop c) := by simpa using hp4
    have t17 := t16.trans s17
    have u17 := (s15.trans s16).trans s17
    obtain ⟨_, _, _, e2, _⟩ := id (hp2.same u17)
    obtain ⟨_, _, _, e4, _⟩ := id hp4
    refine ⟨p2, _, _, rfl, e2, .inl ⟨p4, _, _, rfl, e4⟩, p2, p4, ss.take c, ss.drop c, rfl, hp2.same u17, .inl hp4, by simp; omega, by rw [List.take_append_drop]; exact hg, fun p5 H18 s18 np5 hp5 => ?_⟩
    rw [List.take_append_drop] at hp5
    have t18 := t17.trans s18
    refine ⟨_, rfl, _, rfl, _, rfl, p5, u, f, us, ss, rfl, hp5, t18 _ _ hu8, hs8.same t18, by omega, hg, f1, f2, fun H19 s19 => ⟨_, rfl, iteT ?_⟩⟩
    have t19 := t18.trans s19
    have v19 := (((((s11.trans s12).trans s13).trans s14).trans u17).trans s18).trans s19
    exact ⟨_, rfl, _, rfl, _, rfl, p, u, f, us, ss, rfl, hp.same v19, t19 _ _ hu8, hs8.same t19, by omega, hg, f1, f2, fun H20 _ => q H20⟩
end
end My

namespace My
open PySem L2
theorem all_mk {w : World} {K : PySem.W.Frag} {h : Heap} {mg : Str → Option Value} {fa : Addr} (X : K.In h) (G : h.Ns mainGlobals mg) (hfa : mg "law" = some (.ref fa))
    {c_Program : Addr}
    {f_sound_step : Addr} {od_sound_step an_sound_step : Option Addr} {sl_sound_step : Array (Option Value)} {oc_sound_step kV_sound_step dc_sound_step pm_sound_step cd_sound_step ct_sound_step : Value}
    {f_Program_init : Addr} {od_Program_init an_Program_init : Option Addr} {sl_Program_init : Array (Option Value)} {oc_Program_init kV_Program_init dc_Program_init pm_Program_init cd_Program_init ct_Program_init : Value}
    {f_Program_iter : Addr} {od_Program_iter an_Program_iter : Option Addr} {sl_Program_iter : Array (Option Value)} {oc_Program_iter kV_Program_iter dc_Program_iter pm_Program_iter cd_Program_iter ct_Program_iter : Value}
    {f_Program_eq : Addr} {od_Program_eq an_Program_eq : Option Addr} {sl_Program_eq : Array (Option Value)} {oc_Program_eq kV_Program_eq dc_Program_eq pm_Program_eq cd_Program_eq ct_Program_eq : Value}
    {f_Program_add : Addr} {od_Program_add an_Program_add : Option Addr} {sl_Program_add : Array (Option Value)} {oc_Program_add kV_Program_add dc_Program_add pm_Program_add cd_Program_add ct_Program_add : Value}
    {f_Program_things : Addr} {od_Program_things an_Program_things : Option Addr} {sl_Program_things : Array (Option Value)} {oc_Program_things kV_Program_things dc_Program_things pm_Program_things cd_Program_things ct_Program_things : Value}
    {p_Program_things : Addr} {rs_Program_things : List Value}
    {f_Program_mode_of : Addr} {od_Program_mode_of an_Program_mode_of : Option Addr} {sl_Program_mode_of : Array (Option Value)} {oc_Program_mode_of kV_Program_mode_of dc_Program_mode_of pm_Program_mode_of cd_Program_mode_of ct_Program_mode_of : Value}
    {f_Program_begin : Addr} {od_Program_begin an_Program_begin : Option Addr} {sl_Program_begin : Array (Option Value)} {oc_Program_begin kV_Program_begin dc_Program_begin pm_Program_begin cd_Program_begin ct_Program_begin : Value}
    {f__law_draws : Addr} {od__law_draws an__law_draws : Option Addr} {sl__law_draws : Array (Option Value)} {oc__law_draws kV__law_draws dc__law_draws pm__law_draws cd__law_draws ct__law_draws : Value}
    {f__law_take : Addr} {od__law_take an__law_take : Option Addr} {sl__law_take : Array (Option Value)} {oc__law_take kV__law_take dc__law_take pm__law_take cd__law_take ct__law_take : Value}
    {f__law_same : Addr} {od__law_same an__law_same : Option Addr} {sl__law_same : Array (Option Value)} {oc__law_same kV__law_same dc__law_same pm__law_same cd__law_same ct__law_same : Value}
    {f__law_things_of : Addr} {od__law_things_of an__law_things_of : Option Addr} {sl__law_things_of : Array (Option Value)} {oc__law_things_of kV__law_things_of dc__law_things_of pm__law_things_of cd__law_things_of ct__law_things_of : Value}
    {f__law_mode : Addr} {od__law_mode an__law_mode : Option Addr} {sl__law_mode : Array (Option Value)} {oc__law_mode kV__law_mode dc__law_mode pm__law_mode cd__law_mode ct__law_mode : Value}
    {f__law_refused : Addr} {od__law_refused an__law_refused : Option Addr} {sl__law_refused : Array (Option Value)} {oc__law_refused kV__law_refused dc__law_refused pm__law_refused cd__law_refused ct__law_refused : Value}
    {f__law_parts : Addr} {od__law_parts an__law_parts : Option Addr} {sl__law_parts : Array (Option Value)} {oc__law_parts kV__law_parts dc__law_parts pm__law_parts cd__law_parts ct__law_parts : Value}
    {f_law : Addr} {od_law an_law : Option Addr} {sl_law : Array (Option Value)} {oc_law kV_law dc_law pm_law cd_law ct_law : Value}
    {q_DEEDS : Addr} {oq_DEEDS : Option Addr} {nq_DEEDS : Nat} {slq_DEEDS : Array (Option Value)} {t_DEEDS_0 : Tok} {t_DEEDS_1 : Tok} {t_DEEDS_2 : Tok}
    {fl_Program_add rl_Program_add ft_Program_add rt_Program_add : Option Value}
    {ra_Program_add : Addr}
    {c_TooLarge : Addr}
    {c_WebError : Addr}
    {c_BadStep : Addr}
    {c_Refused : Addr}
    {nm_TooLarge q_TooLarge : Str} {N_TooLarge : Addr} {bs_TooLarge : List Value} {sn_TooLarge : List Str} {sub_TooLarge : List Value} {ab_TooLarge : Bool} {col_TooLarge : Option Bool} {dd_TooLarge : Option Addr} {m0_TooLarge m1_TooLarge m2_TooLarge m3_TooLarge m5_TooLarge : Option Value}
    {f_TooLarge cda_TooLarge cc_TooLarge : Addr} {od_TooLarge an_TooLarge cld_TooLarge cdd_TooLarge : Option Addr} {osl_TooLarge csl_TooLarge ccs_TooLarge : Array (Option Value)} {oc_TooLarge kV_TooLarge dc_TooLarge pm_TooLarge ct_TooLarge cl_TooLarge ccl_TooLarge : Value} {vs_TooLarge : Array Value} {file_TooLarge : Str} {tf_TooLarge : Tok}
    (gc_Program : PySem.W.nsIn K mainGlobals "Program" = some (some (.ref c_Program)))
    (a_sound_step : PySem.W.nsIn K mainGlobals "sound_step" = some (some (.ref f_sound_step)))
    (l_sound_step : K.lookup f_sound_step = some ⟨oc_sound_step, od_sound_step, .func (PySem.W.fnOf "sound_step" "sound_step" (defArgs S_sound_step) (defBody S_sound_step) (defScope S_sound_step) .none kV_sound_step dc_sound_step pm_sound_step an_sound_step cd_sound_step ct_sound_step), sl_sound_step⟩)
    (c_sound_step : PySem.W.codeIn K cd_sound_step "sound_step" = true)
    (k_sound_step : PySem.W.keepIn K (.ref f_sound_step) = true)
    (a_Program_init : PySem.W.findIn K (.ref c_Program) "__init__" = some (some (.ref f_Program_init)))
    (l_Program_init : K.lookup f_Program_init = some ⟨oc_Program_init, od_Program_init, .func (PySem.W.fnOf "__init__" "Program.__init__" (defArgs S_Program_init) (defBody S_Program_init) (defScope S_Program_init) .none kV_Program_init dc_Program_init pm_Program_init an_Program_init cd_Program_init ct_Program_init), sl_Program_init⟩)
    (c_Program_init : PySem.W.codeIn K cd_Program_init "Program.__init__" = true)
    (k_Program_init : PySem.W.keepIn K (.ref f_Program_init) = true)
    (a_Program_iter : PySem.W.findIn K (.ref c_Program) "__iter__" = some (some (.ref f_Program_iter)))
    (l_Program_iter : K.lookup f_Program_iter = some ⟨oc_Program_iter, od_Program_iter, .func (PySem.W.fnOf "__iter__" "Program.__iter__" (defArgs S_Program_iter) (defBody S_Program_iter) (defScope S_Program_iter) .none kV_Program_iter dc_Program_iter pm_Program_iter an_Program_iter cd_Program_iter ct_Program_iter), sl_Program_iter⟩)
    (c_Program_iter : PySem.W.codeIn K cd_Program_iter "Program.__iter__" = true)
    (k_Program_iter : PySem.W.keepIn K (.ref f_Program_iter) = true)
    (a_Program_eq : PySem.W.findIn K (.ref c_Program) "__eq__" = some (some (.ref f_Program_eq)))
    (l_Program_eq : K.lookup f_Program_eq = some ⟨oc_Program_eq, od_Program_eq, .func (PySem.W.fnOf "__eq__" "Program.__eq__" (defArgs S_Program_eq) (defBody S_Program_eq) (defScope S_Program_eq) .none kV_Program_eq dc_Program_eq pm_Program_eq an_Program_eq cd_Program_eq ct_Program_eq), sl_Program_eq⟩)
    (c_Program_eq : PySem.W.codeIn K cd_Program_eq "Program.__eq__" = true)
    (k_Program_eq : PySem.W.keepIn K (.ref f_Program_eq) = true)
    (a_Program_add : PySem.W.findIn K (.ref c_Program) "__add__" = some (some (.ref f_Program_add)))
    (l_Program_add : K.lookup f_Program_add = some ⟨oc_Program_add, od_Program_add, .func (PySem.W.fnOf "__add__" "Program.__add__" (defArgs S_Program_add) (defBody S_Program_add) (defScope S_Program_add) .none kV_Program_add dc_Program_add pm_Program_add an_Program_add cd_Program_add ct_Program_add), sl_Program_add⟩)
    (c_Program_add : PySem.W.codeIn K cd_Program_add "Program.__add__" = true)
    (k_Program_add : PySem.W.keepIn K (.ref f_Program_add) = true)
    (pa_Program_things : PySem.W.findIn K (.ref c_Program) "things" = some (some (.ref p_Program_things)))
    (pr_Program_things : PySem.W.recIn K p_Program_things "property" = some (.ref f_Program_things :: rs_Program_things))
    (pg_Program_things : PySem.W.specialIn K (.ref p_Program_things) "__get__" = some (some (.builtin "property.__get__")))
    (pt_Program_things : PySem.W.takesIn K (.ref p_Program_things) = some true)
    (l_Program_things : K.lookup f_Program_things = some ⟨oc_Program_things, od_Program_things, .func (PySem.W.fnOf "things" "Program.things" (defArgs S_Program_things) (defBody S_Program_things) (defScope S_Program_things) .none kV_Program_things dc_Program_things pm_Program_things an_Program_things cd_Program_things ct_Program_things), sl_Program_things⟩)
    (c_Program_things : PySem.W.codeIn K cd_Program_things "Program.things" = true)
    (k_Program_things : PySem.W.keepIn K (.ref f_Program_things) = true)
    (a_Program_mode_of : PySem.W.findIn K (.ref c_Program) "mode_of" = some (some (.ref f_Program_mode_of)))
    (l_Program_mode_of : K.lookup f_Program_mode_of = some ⟨oc_Program_mode_of, od_Program_mode_of, .func (PySem.W.fnOf "mode_of" "Program.mode_of" (defArgs S_Program_mode_of) (defBody S_Program_mode_of) (defScope S_Program_mode_of) .none kV_Program_mode_of dc_Program_mode_of pm_Program_mode_of an_Program_mode_of cd_Program_mode_of ct_Program_mode_of), sl_Program_mode_of⟩)
    (c_Program_mode_of : PySem.W.codeIn K cd_Program_mode_of "Program.mode_of" = true)
    (k_Program_mode_of : PySem.W.keepIn K (.ref f_Program_mode_of) = true)
    (a_Program_begin : PySem.W.findIn K (.ref c_Program) "begin" = some (some (.ref f_Program_begin)))
    (l_Program_begin : K.lookup f_Program_begin = some ⟨oc_Program_begin, od_Program_begin, .func (PySem.W.fnOf "begin" "Program.begin" (defArgs S_Program_begin) (defBody S_Program_begin) (defScope S_Program_begin) .none kV_Program_begin dc_Program_begin pm_Program_begin an_Program_begin cd_Program_begin ct_Program_begin), sl_Program_begin⟩)
    (c_Program_begin : PySem.W.codeIn K cd_Program_begin "Program.begin" = true)
    (k_Program_begin : PySem.W.keepIn K (.ref f_Program_begin) = true)
    (a__law_draws : PySem.W.nsIn K mainGlobals "_law_draws" = some (some (.ref f__law_draws)))
    (l__law_draws : K.lookup f__law_draws = some ⟨oc__law_draws, od__law_draws, .func (PySem.W.fnOf "_law_draws" "_law_draws" (defArgs S__law_draws) (defBody S__law_draws) (defScope S__law_draws) .none kV__law_draws dc__law_draws pm__law_draws an__law_draws cd__law_draws ct__law_draws), sl__law_draws⟩)
    (c__law_draws : PySem.W.codeIn K cd__law_draws "_law_draws" = true)
    (k__law_draws : PySem.W.keepIn K (.ref f__law_draws) = true)
    (a__law_take : PySem.W.nsIn K mainGlobals "_law_take" = some (some (.ref f__law_take)))
    (l__law_take : K.lookup f__law_take = some ⟨oc__law_take, od__law_take, .func (PySem.W.fnOf "_law_take" "_law_take" (defArgs S__law_take) (defBody S__law_take) (defScope S__law_take) .none kV__law_take dc__law_take pm__law_take an__law_take cd__law_take ct__law_take), sl__law_take⟩)
    (c__law_take : PySem.W.codeIn K cd__law_take "_law_take" = true)
    (k__law_take : PySem.W.keepIn K (.ref f__law_take) = true)
    (a__law_same : PySem.W.nsIn K mainGlobals "_law_same" = some (some (.ref f__law_same)))
    (l__law_same : K.lookup f__law_same = some ⟨oc__law_same, od__law_same, .func (PySem.W.fnOf "_law_same" "_law_same" (defArgs S__law_same) (defBody S__law_same) (defScope S__law_same) .none kV__law_same dc__law_same pm__law_same an__law_same cd__law_same ct__law_same), sl__law_same⟩)
    (c__law_same : PySem.W.codeIn K cd__law_same "_law_same" = true)
    (k__law_same : PySem.W.keepIn K (.ref f__law_same) = true)
    (a__law_things_of : PySem.W.nsIn K mainGlobals "_law_things_of" = some (some (.ref f__law_things_of)))
    (l__law_things_of : K.lookup f__law_things_of = some ⟨oc__law_things_of, od__law_things_of, .func (PySem.W.fnOf "_law_things_of" "_law_things_of" (defArgs S__law_things_of) (defBody S__law_things_of) (defScope S__law_things_of) .none kV__law_things_of dc__law_things_of pm__law_things_of an__law_things_of cd__law_things_of ct__law_things_of), sl__law_things_of⟩)
    (c__law_things_of : PySem.W.codeIn K cd__law_things_of "_law_things_of" = true)
    (k__law_things_of : PySem.W.keepIn K (.ref f__law_things_of) = true)
    (a__law_mode : PySem.W.nsIn K mainGlobals "_law_mode" = some (some (.ref f__law_mode)))
    (l__law_mode : K.lookup f__law_mode = some ⟨oc__law_mode, od__law_mode, .func (PySem.W.fnOf "_law_mode" "_law_mode" (defArgs S__law_mode) (defBody S__law_mode) (defScope S__law_mode) .none kV__law_mode dc__law_mode pm__law_mode an__law_mode cd__law_mode ct__law_mode), sl__law_mode⟩)
    (c__law_mode : PySem.W.codeIn K cd__law_mode "_law_mode" = true)
    (k__law_mode : PySem.W.keepIn K (.ref f__law_mode) = true)
    (a__law_refused : PySem.W.nsIn K mainGlobals "_law_refused" = some (some (.ref f__law_refused)))
    (l__law_refused : K.lookup f__law_refused = some ⟨oc__law_refused, od__law_refused, .func (PySem.W.fnOf "_law_refused" "_law_refused" (defArgs S__law_refused) (defBody S__law_refused) (defScope S__law_refused) .none kV__law_refused dc__law_refused pm__law_refused an__law_refused cd__law_refused ct__law_refused), sl__law_refused⟩)
    (c__law_refused : PySem.W.codeIn K cd__law_refused "_law_refused" = true)
    (k__law_refused : PySem.W.keepIn K (.ref f__law_refused) = true)
    (a__law_parts : PySem.W.nsIn K mainGlobals "_law_parts" = some (some (.ref f__law_parts)))
    (l__law_parts : K.lookup f__law_parts = some ⟨oc__law_parts, od__law_parts, .func (PySem.W.fnOf "_law_parts" "_law_parts" (defArgs S__law_parts) (defBody S__law_parts) (defScope S__law_parts) .none kV__law_parts dc__law_parts pm__law_parts an__law_parts cd__law_parts ct__law_parts), sl__law_parts⟩)
    (c__law_parts : PySem.W.codeIn K cd__law_parts "_law_parts" = true)
    (k__law_parts : PySem.W.keepIn K (.ref f__law_parts) = true)
    (a_law : PySem.W.nsIn K mainGlobals "law" = some (some (.ref f_law)))
    (l_law : K.lookup f_law = some ⟨oc_law, od_law, .func (PySem.W.fnOf "law" "law" (defArgs S_law) (defBody S_law) (defScope S_law) .none kV_law dc_law pm_law an_law cd_law ct_law), sl_law⟩)
    (c_law : PySem.W.codeIn K cd_law "law" = true)
    (k_law : PySem.W.keepIn K (.ref f_law) = true)
    (z_ValueError : PySem.W.nsIn K mainGlobals "ValueError" = some none)
    (z_bool : PySem.W.nsIn K mainGlobals "bool" = some none)
    (z_int : PySem.W.nsIn K mainGlobals "int" = some none)
    (z_isinstance : PySem.W.nsIn K mainGlobals "isinstance" = some none)
    (z_iter : PySem.W.nsIn K mainGlobals "iter" = some none)
    (z_len : PySem.W.nsIn K mainGlobals "len" = some none)
    (z_list : PySem.W.nsIn K mainGlobals "list" = some none)
    (z_property : PySem.W.nsIn K mainGlobals "property" = some none)
    (z_range : PySem.W.nsIn K mainGlobals "range" = some none)
    (z_str : PySem.W.nsIn K mainGlobals "str" = some none)
    (z_tuple : PySem.W.nsIn K mainGlobals "tuple" = some none)
    (aq_DEEDS : PySem.W.nsIn K mainGlobals "DEEDS" = some (some (.ref q_DEEDS)))
    (lq_DEEDS : K.lookup q_DEEDS = some ⟨.type "tuple", oq_DEEDS, .seq #[.str "own" t_DEEDS_0, .str "share" t_DEEDS_1, .str "drop" t_DEEDS_2] nq_DEEDS, slq_DEEDS⟩)
    (pg_Program : PySem.W.plainGet K c_Program Str.empty = true)
    (hd_Program : PySem.W.hasDictIn K c_Program = true)
    (po_Program : PySem.W.plainOver K c_Program = true)
    (sa_Program : PySem.W.findIn K (.ref c_Program) "__setattr__" = some (some (.builtin "object.__setattr__")))
    (kc_Program : PySem.W.keepIn K (.ref c_Program) = true)
    (i_Program_init : PySem.W.isFn K (.ref f_Program_init) = true)
    (mk_Program : PySem.W.makesIn K c_Program = true)
    (i_Program_iter : PySem.W.isFn K (.ref f_Program_iter) = true)
    (i_Program_eq : PySem.W.isFn K (.ref f_Program_eq) = true)
    (i_Program_add : PySem.W.isFn K (.ref f_Program_add) = true)
    (i_Program_mode_of : PySem.W.isFn K (.ref f_Program_mode_of) = true)
    (i_Program_begin : PySem.W.isFn K (.ref f_Program_begin) = true)
    (hca_Program : PySem.W.findIn K (.ref c_Program) "__class__" = some (some (.builtin "object.__class__")))
    (hcn_Program : PySem.W.specialIn K (.builtin "object.__class__") "__get__" = some (some (.builtin "getset_descriptor.__get__")))
    (hct_Program : PySem.W.takesIn K (.builtin "object.__class__") = some true)
    (hcm_Program : PySem.W.mroIn K c_Program (.type "object") = some true)
    (ko_Program_list : PySem.W.kitOne K (.ref c_Program) (.type "list") = some false)
    (ko_Program_tuple : PySem.W.kitOne K (.ref c_Program) (.type "tuple") = some false)
    (sf_Program : PySem.W.selfFirst K c_Program = true)
    (or_Program_add : PySem.W.findIn K (.ref c_Program) "__radd__" = some (some (.ref ra_Program_add)))
    (ola_Program_add : PySem.W.findIn K (.type "list") "__add__" = some fl_Program_add)
    (olr_Program_add : PySem.W.findIn K (.type "list") "__radd__" = some rl_Program_add)
    (ols_Program_add : PySem.W.subIn K (.type "list") (.ref c_Program) = some false)
    (ota_Program_add : PySem.W.findIn K (.type "tuple") "__add__" = some ft_Program_add)
    (otr_Program_add : PySem.W.findIn K (.type "tuple") "__radd__" = some rt_Program_add)
    (ots_Program_add : PySem.W.subIn K (.type "tuple") (.ref c_Program) = some false)
    (no_Program__steps : PySem.W.findIn K (.ref c_Program) "_steps" = some none)
    (gc_TooLarge : PySem.W.nsIn K mainGlobals "TooLarge" = some (some (.ref c_TooLarge)))
    (gc_WebError : PySem.W.nsIn K mainGlobals "WebError" = some (some (.ref c_WebError)))
    (gc_BadStep : PySem.W.nsIn K mainGlobals "BadStep" = some (some (.ref c_BadStep)))
    (gc_Refused : PySem.W.nsIn K mainGlobals "Refused" = some (some (.ref c_Refused)))
    (wb_WebError : PySem.W.subIn K (.ref c_WebError) (.type "BaseException") = some true)
    (wd_WebError : PySem.W.hasDictIn K c_WebError = true)
    (wt_WebError : PySem.W.typeIn K (.ref c_WebError) = some (.type "type"))
    (xz_super : PySem.W.nsIn K mainGlobals "super" = some none)
    (x_opq : PySem.W.nsIn K cStatics "thirdparty.any" = some none)
    (x_hn : PySem.W.specialIn K (.builtin "object.__class__") "__get__" = some (some (.builtin "getset_descriptor.__get__")))
    (x_ht : PySem.W.takesIn K (.builtin "object.__class__") = some true)
    (xl_TooLarge : K.lookup c_TooLarge = some (excClassObj nm_TooLarge q_TooLarge c_TooLarge N_TooLarge bs_TooLarge [.ref c_WebError, .type "ValueError", .type "Exception", .type "BaseException", .type "object"] true sn_TooLarge sub_TooLarge ab_TooLarge col_TooLarge dd_TooLarge m0_TooLarge m1_TooLarge m2_TooLarge m3_TooLarge m5_TooLarge "ValueError.__new__"))
    (xsa_TooLarge : PySem.W.findIn K (.ref c_TooLarge) "__setattr__" = some (some (.builtin "object.__setattr__")))
    (xga_TooLarge : PySem.W.findIn K (.ref c_TooLarge) "__getattribute__" = some (some (.builtin "BaseException.__getattribute__")))
    (xgg_TooLarge : PySem.W.findIn K (.ref c_TooLarge) "__getattr__" = some none)
    (xno_TooLarge : PySem.W.findIn K (.ref c_TooLarge) "most" = some none)
    (xk_TooLarge : PySem.W.keepIn K (.ref c_TooLarge) = true)
    (xb_TooLarge : PySem.W.subIn K (.ref c_TooLarge) (.type "BaseException") = some true)
    (xt_TooLarge : PySem.W.typeIn K (.ref c_TooLarge) = some (.type "type"))
    (xd_TooLarge : PySem.W.hasDictIn K c_TooLarge = true)
    (xi_TooLarge : PySem.W.findIn K (.ref c_TooLarge) "__init__" = some (some (.ref f_TooLarge)))
    (xf_TooLarge : PySem.W.typeIn K (.ref f_TooLarge) = some (.type "function"))
    (xfl_TooLarge : K.lookup f_TooLarge = some ⟨oc_TooLarge, od_TooLarge, .func (PySem.W.ksFn "__init__" "TooLarge.__init__" (defArgs S_TooLarge_init) (defBody S_TooLarge_init) (defScope S_TooLarge_init) .none kV_TooLarge dc_TooLarge pm_TooLarge an_TooLarge (.ref cda_TooLarge) ct_TooLarge cc_TooLarge), osl_TooLarge⟩)
    (xci_TooLarge : PySem.W.codeIn K (.ref cda_TooLarge) "TooLarge.__init__" = true)
    (xcc_TooLarge : K.lookup cc_TooLarge = some ⟨cl_TooLarge, cld_TooLarge, .cell (some (.ref c_TooLarge)), csl_TooLarge⟩)
    (xcd_TooLarge : K.lookup cda_TooLarge = some ⟨ccl_TooLarge, cdd_TooLarge, .fields vs_TooLarge, ccs_TooLarge⟩)
    (xvs_TooLarge : vs_TooLarge[2]? = some (.str file_TooLarge tf_TooLarge))
    (xfi_TooLarge : ((PP.main.file : Str) == file_TooLarge) = true)
    (xnx_TooLarge : PySem.W.ks_superIn K c_TooLarge c_TooLarge "__init__" = some (some (.builtin "ValueError.__init__")))
    (xsl_TooLarge : PySem.W.mroIn K c_TooLarge (.ref c_TooLarge) = some true)
    (xsu_TooLarge : PySem.W.subIn K (.ref c_TooLarge) (.type "ValueError") = some true)
    (xha_TooLarge : PySem.W.findIn K (.ref c_TooLarge) "__class__" = some (some (.builtin "object.__class__")))
    (xhm_TooLarge : PySem.W.mroIn K c_TooLarge (.type "object") = some true)
    (ws_TooLarge_WebError : PySem.W.subIn K (.ref c_TooLarge) (.ref c_WebError) = some true)
    (kt_TooLarge_Refused : PySem.W.kitOne K (.ref c_TooLarge) (.ref c_Refused) = some false)
    (kt_TooLarge_BadStep : PySem.W.kitOne K (.ref c_TooLarge) (.ref c_BadStep) = some false)
    (kt_TooLarge_ValueError : PySem.W.kitOne K (.ref c_TooLarge) (.type "ValueError") = some true)
    (kt_TooLarge_TooLarge : PySem.W.kitOne K (.ref c_TooLarge) (.ref c_TooLarge) = some true)
    : ∃ fd : FuncData, (∀ (s : Shared) (v : Value), BindsTo s fd ⟨[v], []⟩ [("_law_script", v)]) ∧ ∀ base : Heap, K.In base → base.Ns mainGlobals mg → FnOk PP w K mg base CX0 12 fa fd ["_law_script"] (spLaw K) := by
  have e := hfa.symm.trans (PySem.W.mg_of X G a_law)
  cases e
  have XT_TooLarge : PySem.WX.ExcTxt PP K mg "TooLarge" "most" c_TooLarge := { gC := PySem.W.mg_of X G gc_TooLarge, cls := ⟨nm_TooLarge, q_TooLarge, N_TooLarge, bs_TooLarge, _, sn_TooLarge, sub_TooLarge, ab_TooLarge, col_TooLarge, dd_TooLarge, m0_TooLarge, m1_TooLarge, m2_TooLarge, m3_TooLarge, m5_TooLarge, xl_TooLarge, rfl⟩, sa := xsa_TooLarge, ga := xga_TooLarge, gg := xgg_TooLarge, noN := xno_TooLarge, kC := xk_TooLarge, exC := xb_TooLarge, tyC := xt_TooLarge, hdC := xd_TooLarge, fI := f_TooLarge, qual := "TooLarge.__init__", tx := _, S := S_TooLarge_init, oc := oc_TooLarge, od := od_TooLarge, kV := kV_TooLarge, doc := dc_TooLarge, pm := pm_TooLarge, an := an_TooLarge, cda := cda_TooLarge, ct := ct_TooLarge, osl := osl_TooLarge, cc := cc_TooLarge, cl := cl_TooLarge, cld := cld_TooLarge, csl := csl_TooLarge, ccl := ccl_TooLarge, cdd := cdd_TooLarge, vs := vs_TooLarge, ccs := ccs_TooLarge, file := file_TooLarge, tf := tf_TooLarge, q1 := _, q2 := _, q3 := _, q4 := _, q5 := _, q6 := _, q7 := _, q8 := _, q9 := _, q10 := _, j := _, pl := _, iC := xi_TooLarge, tI := xf_TooLarge, lI := xfl_TooLarge, cI := xci_TooLarge, lcc := xcc_TooLarge, lcd := xcd_TooLarge, hvs := xvs_TooLarge, hfile := xfi_TooLarge, hpar := ⟨_, rfl, rfl⟩, hbody := rfl, hbind := fun _ _ => rfl, hev := fun _ _ => rfl, hk := rfl, hco := rfl, hgen := rfl, hks := rfl, hkc := rfl, hself := rfl, hfl := rfl, hcell := by decide +kernel, nf := by decide +kernel, top := by decide +kernel, sup := PySem.W.mg_none_of X G xz_super, opq := x_opq, nxt := xnx_TooLarge, slf := xsl_TooLarge, sub := xsu_TooLarge }
  let T : Txt K mg := {
    a_sound_step := f_sound_step,
    fd_sound_step := _,
    F_sound_step := fun_mk (st := S_sound_step) l_sound_step c_sound_step k_sound_step,
    b_sound_step := (fun_mk (st := S_sound_step) l_sound_step c_sound_step k_sound_step).binds (ps := ["step"]) fun _ _ _ _ _ _ us hl => match us, hl with | [_], _ => rfl,
    g_sound_step := PySem.W.mg_of X G a_sound_step,
    a_Program_init := f_Program_init,
    fd_Program_init := _,
    F_Program_init := fun_mk (st := S_Program_init) l_Program_init c_Program_init k_Program_init,
    bs_Program_init := StX.bind_star1 (B := fun us => bindArgs (PySem.W.fnOf "__init__" "Program.__init__" (defArgs S_Program_init) (defBody S_Program_init) (defScope S_Program_init) .none kV_Program_init dc_Program_init pm_Program_init an_Program_init cd_Program_init ct_Program_init) ⟨us, []⟩) (fun a => rfl) (fun a r rs => rfl),
    a_Program_iter := f_Program_iter,
    fd_Program_iter := _,
    F_Program_iter := fun_mk (st := S_Program_iter) l_Program_iter c_Program_iter k_Program_iter,
    b_Program_iter := (fun_mk (st := S_Program_iter) l_Program_iter c_Program_iter k_Program_iter).binds (ps := ["self"]) fun _ _ _ _ _ _ us hl => match us, hl with | [_], _ => rfl,
    a_Program_eq := f_Program_eq,
    fd_Program_eq := _,
    F_Program_eq := fun_mk (st := S_Program_eq) l_Program_eq c_Program_eq k_Program_eq,
    b_Program_eq := (fun_mk (st := S_Program_eq) l_Program_eq c_Program_eq k_Program_eq).binds (ps := ["self", "other"]) fun _ _ _ _ _ _ us hl => match us, hl with | [_, _], _ => rfl,
    a_Program_add := f_Program_add,
    fd_Program_add := _,
    F_Program_add := fun_mk (st := S_Program_add) l_Program_add c_Program_add k_Program_add,
    b_Program_add := (fun_mk (st := S_Program_add) l_Program_add c_Program_add k_Program_add).binds (ps := ["self", "other"]) fun _ _ _ _ _ _ us hl => match us, hl with | [_, _], _ => rfl,
    a_Program_things := f_Program_things,
    fd_Program_things := _,
    F_Program_things := fun_mk (st := S_Program_things) l_Program_things c_Program_things k_Program_things,
    b_Program_things := (fun_mk (st := S_Program_things) l_Program_things c_Program_things k_Program_things).binds (ps := ["self"]) fun _ _ _ _ _ _ us hl => match us, hl with | [_], _ => rfl,
    a_Program_mode_of := f_Program_mode_of,
    fd_Program_mode_of := _,
    F_Program_mode_of := fun_mk (st := S_Program_mode_of) l_Program_mode_of c_Program_mode_of k_Program_mode_of,
    b_Program_mode_of := (fun_mk (st := S_Program_mode_of) l_Program_mode_of c_Program_mode_of k_Program_mode_of).binds (ps := ["self", "thing"]) fun _ _ _ _ _ _ us hl => match us, hl with | [_, _], _ => rfl,
    a_Program_begin := f_Program_begin,
    fd_Program_begin := _,
    F_Program_begin := fun_mk (st := S_Program_begin) l_Program_begin c_Program_begin k_Program_begin,
    b_Program_begin := (fun_mk (st := S_Program_begin) l_Program_begin c_Program_begin k_Program_begin).binds (ps := ["self", "count"]) fun _ _ _ _ _ _ us hl => match us, hl with | [_, _], _ => rfl,
    a__law_draws := f__law_draws,
    fd__law_draws := _,
    F__law_draws := fun_mk (st := S__law_draws) l__law_draws c__law_draws k__law_draws,
    b__law_draws := (fun_mk (st := S__law_draws) l__law_draws c__law_draws k__law_draws).binds (ps := ["_law_script"]) fun _ _ _ _ _ _ us hl => match us, hl with | [_], _ => rfl,
    g__law_draws := PySem.W.mg_of X G a__law_draws,
    a__law_take := f__law_take,
    fd__law_take := _,
    F__law_take := fun_mk (st := S__law_take) l__law_take c__law_take k__law_take,
    b__law_take := (fun_mk (st := S__law_take) l__law_take c__law_take k__law_take).binds (ps := ["_law_draws_here", "_law_at", "_law_size"]) fun _ _ _ _ _ _ us hl => match us, hl with | [_, _, _], _ => rfl,
    g__law_take := PySem.W.mg_of X G a__law_take,
    a__law_same := f__law_same,
    fd__law_same := _,
    F__law_same := fun_mk (st := S__law_same) l__law_same c__law_same k__law_same,
    b__law_same := (fun_mk (st := S__law_same) l__law_same c__law_same k__law_same).binds (ps := ["_law_actual", "_law_expected"]) fun _ _ _ _ _ _ us hl => match us, hl with | [_, _], _ => rfl,
    g__law_same := PySem.W.mg_of X G a__law_same,
    a__law_things_of := f__law_things_of,
    fd__law_things_of := _,
    F__law_things_of := fun_mk (st := S__law_things_of) l__law_things_of c__law_things_of k__law_things_of,
    b__law_things_of := (fun_mk (st := S__law_things_of) l__law_things_of c__law_things_of k__law_things_of).binds (ps := ["_law_steps"]) fun _ _ _ _ _ _ us hl => match us, hl with | [_], _ => rfl,
    g__law_things_of := PySem.W.mg_of X G a__law_things_of,
    a__law_mode := f__law_mode,
    fd__law_mode := _,
    F__law_mode := fun_mk (st := S__law_mode) l__law_mode c__law_mode k__law_mode,
    b__law_mode := (fun_mk (st := S__law_mode) l__law_mode c__law_mode k__law_mode).binds (ps := ["_law_steps", "_law_thing"]) fun _ _ _ _ _ _ us hl => match us, hl with | [_, _], _ => rfl,
    g__law_mode := PySem.W.mg_of X G a__law_mode,
    a__law_refused := f__law_refused,
    fd__law_refused := _,
    F__law_refused := fun_mk (st := S__law_refused) l__law_refused c__law_refused k__law_refused,
    b__law_refused := (fun_mk (st := S__law_refused) l__law_refused c__law_refused k__law_refused).binds (ps := ["_law_program", "_law_count"]) fun _ _ _ _ _ _ us hl => match us, hl with | [_, _], _ => rfl,
    g__law_refused := PySem.W.mg_of X G a__law_refused,
    a__law_parts := f__law_parts,
    fd__law_parts := _,
    F__law_parts := fun_mk (st := S__law_parts) l__law_parts c__law_parts k__law_parts,
    b__law_parts := (fun_mk (st := S__law_parts) l__law_parts c__law_parts k__law_parts).binds (ps := ["_law_program", "_law_steps", "_law_factor"]) fun _ _ _ _ _ _ us hl => match us, hl with | [_, _, _], _ => rfl,
    g__law_parts := PySem.W.mg_of X G a__law_parts,
    a_law := fa,
    fd_law := _,
    F_law := fun_mk (st := S_law) l_law c_law k_law,
    b_law := (fun_mk (st := S_law) l_law c_law k_law).binds (ps := ["_law_script"]) fun _ _ _ _ _ _ us hl => match us, hl with | [_], _ => rfl,
    g_law := PySem.W.mg_of X G a_law,
    n_ValueError := PySem.W.mg_none_of X G z_ValueError,
    n_bool := PySem.W.mg_none_of X G z_bool,
    n_int := PySem.W.mg_none_of X G z_int,
    n_isinstance := PySem.W.mg_none_of X G z_isinstance,
    n_iter := PySem.W.mg_none_of X G z_iter,
    n_len := PySem.W.mg_none_of X G z_len,
    n_list := PySem.W.mg_none_of X G z_list,
    n_property := PySem.W.mg_none_of X G z_property,
    n_range := PySem.W.mg_none_of X G z_range,
    n_str := PySem.W.mg_none_of X G z_str,
    n_tuple := PySem.W.mg_none_of X G z_tuple,
    k_DEEDS := q_DEEDS,
    g_DEEDS := PySem.W.mg_of X G aq_DEEDS,
    q_DEEDS := fun H => .inr ⟨_, _, _, lq_DEEDS, rfl, rfl, by show 3 ≤ sizeLine; decide, (.cons ⟨_, rfl⟩ (.cons ⟨_, rfl⟩ (.cons ⟨_, rfl⟩ .nil)))⟩,
    c_Program := c_Program,
    g_Program := PySem.W.mg_of X G gc_Program,
    cl_Program := ⟨pg_Program, hd_Program, po_Program, sa_Program⟩,
    mk_Program := ⟨mk_Program, a_Program_init, i_Program_init, kc_Program⟩,
    m_Program_iter := ⟨a_Program_iter, i_Program_iter, k_Program_iter⟩,
    m_Program_eq := ⟨a_Program_eq, i_Program_eq, k_Program_eq⟩,
    m_Program_add := ⟨a_Program_add, i_Program_add, k_Program_add⟩,
    p_Program_things := p_Program_things,
    pr_Program_things := ⟨pa_Program_things, pg_Program_things, pt_Program_things, ⟨_, pr_Program_things⟩⟩,
    m_Program_mode_of := ⟨a_Program_mode_of, i_Program_mode_of, k_Program_mode_of⟩,
    m_Program_begin := ⟨a_Program_begin, i_Program_begin, k_Program_begin⟩,
    ti_Program := fun _ _ _ _ h => .ins h ⟨pg_Program, hd_Program, po_Program, sa_Program⟩ hca_Program hcn_Program hct_Program hcm_Program,
    kk_Program := if_pos (beq_self_eq_true _),
    ko_Program_list := ko_Program_list,
    ko_Program_tuple := ko_Program_tuple,
    of_Program_add := ⟨sf_Program, a_Program_add, i_Program_add, ⟨_, or_Program_add, .inr ⟨_, rfl⟩⟩, ⟨_, _, ola_Program_add, olr_Program_add, ols_Program_add⟩, ⟨_, _, ota_Program_add, otr_Program_add, ots_Program_add⟩⟩,
    no_Program__steps := no_Program__steps,
    c_TooLarge := c_TooLarge,
    g_TooLarge := PySem.W.mg_of X G gc_TooLarge,
    c_WebError := c_WebError,
    g_WebError := PySem.W.mg_of X G gc_WebError,
    c_BadStep := c_BadStep,
    g_BadStep := PySem.W.mg_of X G gc_BadStep,
    c_Refused := c_Refused,
    g_Refused := PySem.W.mg_of X G gc_Refused,
    em_TooLarge_WebError := PySem.W.exm_ref wb_WebError wd_WebError wt_WebError ws_TooLarge_WebError,
    kt_TooLarge_Refused := kt_TooLarge_Refused,
    kt_TooLarge_BadStep := kt_TooLarge_BadStep,
    kt_TooLarge_ValueError := kt_TooLarge_ValueError,
    kt_TooLarge_TooLarge := kt_TooLarge_TooLarge,
    x_TooLarge := XT_TooLarge,
    xc_TooLarge := ⟨xga_TooLarge, xgg_TooLarge, xb_TooLarge, xd_TooLarge, xha_TooLarge, x_hn, x_ht, xhm_TooLarge⟩,
    xn_TooLarge := xno_TooLarge }
  exact ⟨T.fd_law, fun s v => .of_eq rfl, fun base _ _ => ok_law T⟩
end My
open PySem PySem.W PyProof.Rows in
set_option maxRecDepth 100000 in
set_option maxHeartbeats 0 in
theorem PySem.Challenge.cw_weblocks_k16_program_parts_holds : PySem.Challenge.rw_weblocks_k16_program_parts.Holds := by
  w_on; o_law; k_head; (case hw => w_witness2)
  k_fill
  refine L2.walk_of (l := PySem.Challenge.rw_weblocks_k16_program_parts) (n := 63) (k := 12) (x := "_law_script") (CX := fun _ => L2.CX0) (sp := fun w => My.spLaw _) rfl (by decide) rfl ⟨rfl, by decide, by decide⟩ (fun w h Y => PySem.W.kIn_of Y) ?F (fun _ _ a ns hl _ hS => ⟨a, ns, rfl, hS, hl, fun _ => rfl⟩) (fun _ _ _ _ _ h => h)
  case F =>
    intro w mg fa h KX G hmg
    refine' My.all_mk KX G hmg ?gc_Program ?a_sound_step ?l_sound_step ?c_sound_step ?k_sound_step ?a_Program_init ?l_Program_init ?c_Program_init ?k_Program_init ?a_Program_iter ?l_Program_iter ?c_Program_iter ?k_Program_iter ?a_Program_eq ?l_Program_eq ?c_Program_eq ?k_Program_eq ?a_Program_add ?l_Program_add ?c_Program_add ?k_Program_add ?pa_Program_things ?pr_Program_things ?pg_Program_things ?pt_Program_things ?l_Program_things ?c_Program_things ?k_Program_things ?a_Program_mode_of ?l_Program_mode_of ?c_Program_mode_of ?k_Program_mode_of ?a_Program_begin ?l_Program_begin ?c_Program_begin ?k_Program_begin ?a__law_draws ?l__law_draws ?c__law_draws ?k__law_draws ?a__law_take ?l__law_take ?c__law_take ?k__law_take ?a__law_same ?l__law_same ?c__law_same ?k__law_same ?a__law_things_of ?l__law_things_of ?c__law_things_of ?k__law_things_of ?a__law_mode ?l__law_mode ?c__law_mode ?k__law_mode ?a__law_refused ?l__law_refused ?c__law_refused ?k__law_refused ?a__law_parts ?l__law_parts ?c__law_parts ?k__law_parts ?a_law ?l_law ?c_law ?k_law ?z_ValueError ?z_bool ?z_int ?z_isinstance ?z_iter ?z_len ?z_list ?z_property ?z_range ?z_str ?z_tuple ?aq_DEEDS ?lq_DEEDS ?pg_Program ?hd_Program ?po_Program ?sa_Program ?kc_Program ?i_Program_init ?mk_Program ?i_Program_iter ?i_Program_eq ?i_Program_add ?i_Program_mode_of ?i_Program_begin ?hca_Program ?hcn_Program ?hct_Program ?hcm_Program ?ko_Program_list ?ko_Program_tuple ?sf_Program ?or_Program_add ?ola_Program_add ?olr_Program_add ?ols_Program_add ?ota_Program_add ?otr_Program_add ?ots_Program_add ?no_Program__steps ?gc_TooLarge ?gc_WebError ?gc_BadStep ?gc_Refused ?wb_WebError ?wd_WebError ?wt_WebError ?xz_super ?x_opq ?x_hn ?x_ht ?xl_TooLarge ?xsa_TooLarge ?xga_TooLarge ?xgg_TooLarge ?xno_TooLarge ?xk_TooLarge ?xb_TooLarge ?xt_TooLarge ?xd_TooLarge ?xi_TooLarge ?xf_TooLarge ?xfl_TooLarge ?xci_TooLarge ?xcc_TooLarge ?xcd_TooLarge ?xvs_TooLarge ?xfi_TooLarge ?xnx_TooLarge ?xsl_TooLarge ?xsu_TooLarge ?xha_TooLarge ?xhm_TooLarge ?ws_TooLarge_WebError ?kt_TooLarge_Refused ?kt_TooLarge_BadStep ?kt_TooLarge_ValueError ?kt_TooLarge_TooLarge
    (case gc_Program => k_is)
    (case a_sound_step => k_is)
    (case l_sound_step => k_is)
    (case c_sound_step => k_is)
    (case k_sound_step => k_is)
    (case a_Program_init => k_is)
    (case l_Program_init => k_is)
    (case c_Program_init => k_is)
    (case k_Program_init => k_is)
    (case a_Program_iter => k_is)
    (case l_Program_iter => k_is)
    (case c_Program_iter => k_is)
    (case k_Program_iter => k_is)
    (case a_Program_eq => k_is)
    (case l_Program_eq => k_is)
    (case c_Program_eq => k_is)
    (case k_Program_eq => k_is)
    (case a_Program_add => k_is)
    (case l_Program_add => k_is)
    (case c_Program_add => k_is)
    (case k_Program_add => k_is)
    (case pa_Program_things => k_is)
    (case pr_Program_things => k_is)
    (case pg_Program_things => k_is)
    (case pt_Program_things => k_is)
    (case l_Program_things => k_is)
    (case c_Program_things => k_is)
    (case k_Program_things => k_is)
    (case a_Program_mode_of => k_is)
    (case l_Program_mode_of => k_is)
    (case c_Program_mode_of => k_is)
    (case k_Program_mode_of => k_is)
    (case a_Program_begin => k_is)
    (case l_Program_begin => k_is)
    (case c_Program_begin => k_is)
    (case k_Program_begin => k_is)
    (case a__law_draws => k_is)
    (case l__law_draws => k_is)
    (case c__law_draws => k_is)
    (case k__law_draws => k_is)
    (case a__law_take => k_is)
    (case l__law_take => k_is)
    (case c__law_take => k_is)
    (case k__law_take => k_is)
    (case a__law_same => k_is)
    (case l__law_same => k_is)
    (case c__law_same => k_is)
    (case k__law_same => k_is)
    (case a__law_things_of => k_is)
    (case l__law_things_of => k_is)
    (case c__law_things_of => k_is)
    (case k__law_things_of => k_is)
    (case a__law_mode => k_is)
    (case l__law_mode => k_is)
    (case c__law_mode => k_is)
    (case k__law_mode => k_is)
    (case a__law_refused => k_is)
    (case l__law_refused => k_is)
    (case c__law_refused => k_is)
    (case k__law_refused => k_is)
    (case a__law_parts => k_is)
    (case l__law_parts => k_is)
    (case c__law_parts => k_is)
    (case k__law_parts => k_is)
    (case a_law => k_is)
    (case l_law => k_is)
    (case c_law => k_is)
    (case k_law => k_is)
    (case z_ValueError => k_is)
    (case z_bool => k_is)
    (case z_int => k_is)
    (case z_isinstance => k_is)
    (case z_iter => k_is)
    (case z_len => k_is)
    (case z_list => k_is)
    (case z_property => k_is)
    (case z_range => k_is)
    (case z_str => k_is)
    (case z_tuple => k_is)
    (case aq_DEEDS => k_is)
    (case lq_DEEDS => k_is)
    (case pg_Program => k_is)
    (case hd_Program => k_is)
    (case po_Program => k_is)
    (case sa_Program => k_is)
    (case kc_Program => k_is)
    (case i_Program_init => k_is)
    (case mk_Program => k_is)
    (case i_Program_iter => k_is)
    (case i_Program_eq => k_is)
    (case i_Program_add => k_is)
    (case i_Program_mode_of => k_is)
    (case i_Program_begin => k_is)
    (case hca_Program => k_is)
    (case hcn_Program => k_is)
    (case hct_Program => k_is)
    (case hcm_Program => k_is)
    (case ko_Program_list => kit_is)
    (case ko_Program_tuple => kit_is)
    (case sf_Program => k_is)
    (case or_Program_add => k_is)
    (case ola_Program_add => k_is)
    (case olr_Program_add => k_is)
    (case ols_Program_add => k_is)
    (case ota_Program_add => k_is)
    (case otr_Program_add => k_is)
    (case ots_Program_add => k_is)
    (case no_Program__steps => k_is)
    (case gc_TooLarge => k_is)
    (case gc_WebError => k_is)
    (case gc_BadStep => k_is)
    (case gc_Refused => k_is)
    (case wb_WebError => k_is)
    (case wd_WebError => k_is)
    (case wt_WebError => k_is)
    (case xz_super => k_is)
    (case x_opq => k_is)
    (case x_hn => k_is)
    (case x_ht => k_is)
    (case xl_TooLarge => k_is)
    (case xsa_TooLarge => k_is)
    (case xga_TooLarge => k_is)
    (case xgg_TooLarge => k_is)
    (case xno_TooLarge => k_is)
    (case xk_TooLarge => k_is)
    (case xb_TooLarge => k_is)
    (case xt_TooLarge => k_is)
    (case xd_TooLarge => k_is)
    (case xi_TooLarge => k_is)
    (case xf_TooLarge => k_is)
    (case xfl_TooLarge => k_is)
    (case xci_TooLarge => k_is)
    (case xcc_TooLarge => k_is)
    (case xcd_TooLarge => k_is)
    (case xvs_TooLarge => rfl)
    (case xfi_TooLarge => first | rfl | decide +kernel)
    (case xnx_TooLarge => ks_is)
    (case xsl_TooLarge => k_is)
    (case xsu_TooLarge => k_is)
    (case xha_TooLarge => k_is)
    (case xhm_TooLarge => k_is)
    (case ws_TooLarge_WebError => k_is)
    (case kt_TooLarge_Refused => kit_is)
    (case kt_TooLarge_BadStep => kit_is)
    (case kt_TooLarge_ValueError => kit_is)
    (case kt_TooLarge_TooLarge => kit_is)
#print axioms PySem.Challenge.cw_weblocks_k16_program_parts_holds
