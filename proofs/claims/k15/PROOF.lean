import PyProof.Rows.All
import Wide.All
import OpenK.AllK
import Wide.FinOn
import HandS.ForMost
import KE.GoesMore
import HandS.Codes
import HandS.IsInst
import HandS.Defaults
import HandS.MakeKw
import HandS.MakeKwOnly
import HandS.SlotsOwn
import HandS.ForExc
import HandS.ExcIs
import HandS.ExcField
import HandS.CallSlots
import KE.KExcIs
import KE.KExcSuper
import KE.KExcMake
import KE.RegKSuper
import HandS.ClsMeth
import KE.KCallOwn
import HandS.IterVal
import KE.KOwnIter
import HandS.Star
import KE.KOpsOwn
import HandS.Property
import KE.KStar
import HandS.Text
import HandS.StrMore
import HandS.Steps
import HandS.TryOnly
import HandS.Exc
import HandS.ExcOwn
import HandS.Comp
import HandS.OwnIter
import PyProof.StrLawsChain
import PyProof.Rows.StrItems
import PySem.Challenge.RW_weblocks_k15_program_sums
set_option Elab.async false
set_option linter.all false
set_option maxRecDepth 100000
set_option maxHeartbeats 4000000
local macro_rules | `(tactic| walk_at "sd") => `(tactic| first | assumption | omega | decide | rfl | (refine And.intro ?_ ?_ <;> walk_at "sd") | (show _ < PySem.sizeLine; exact Nat.lt_of_le_of_lt (by omega : _ ≤ 100000) (by decide)) | (show _ ≤ PySem.sizeLine; exact Nat.le_trans (by omega : _ ≤ 100000) (by decide)))
local macro_rules | `(tactic| walk_at "hl") => `(tactic| first | assumption | exact L2.upd_same | (refine (L2.upd_ne ?_).trans ?_; (walk_at "ne"); (walk_at "hl")))
local macro_rules | `(tactic| walk_at "ne") => `(tactic| first | assumption | (apply Ne.symm; assumption) | (refine L2.ne_of_none ?_ (by assumption); walk_at "hl") | (apply Ne.symm; refine L2.ne_of_none ?_ (by assumption); walk_at "hl") | (refine L2.ne_of (o := L2.HO.lst _) (u := L2.HO.tup _) ?_ ?_ (by intro z; cases z) <;> walk_at "hl"))
local macro_rules | `(tactic| walk_at "sq") => `(tactic| first | assumption | exact .inl (.inl (by walk_at "hl")) | exact .inl (.inl (.inl (by walk_at "hl"))) | exact .inr (.inl (.inl (by walk_at "hl"))) | exact .inl (by assumption) | exact .inr (by assumption))
local macro_rules | `(tactic| walk_at "at") => `(tactic| first | assumption | exact rfl | exact L2.atI_nat (j := 0) rfl | exact L2.atI_nat (j := 1) rfl | exact L2.atI_nat (j := 2) rfl | exact L2.atI_nat (j := 3) rfl | exact L2.atI_nat rfl | exact L2.atI_nat (by assumption))
local macro_rules | `(tactic| walk_at "r1") => `(tactic| first
  | (refine ⟨_, rfl, ?_⟩)
  | (refine ⟨_, _, rfl, rfl, ?_⟩)
  | (refine ⟨_, _, _, _, rfl, rfl, (by walk_at "sq"), (by walk_at "at"), ?_⟩)
  | (refine ⟨_, _, rfl, (by walk_at "sq"), ?_⟩)
  | (refine ⟨.inl ⟨rfl, _, L2.SqL.of (by walk_at "hl")⟩, ?_⟩)
  | (refine ⟨_, _, _, rfl, rfl, (by walk_at "hl"), (by walk_at "sd"), ?_⟩)
  | (refine ⟨_, _, _, _, rfl, rfl, (by walk_at "hl"), rfl, ?_⟩)
  | (refine And.intro (by walk_at "sd") ?_)
  | (refine .inl ⟨_, rfl, ?_⟩))
local macro_rules | `(tactic| walk_at "rd") => `(tactic| repeat walk_at "r1")
/-! ### enumerate over a tuple -/
namespace PySem
open AutoSeq1 (wpAny_loadPart')
set_option maxHeartbeats 1000000 in
theorem meets_enumerate_newT (l : Addr) (items : Array Value) :
    Meets (Builtin.«enumerate.__new__» ⟨[.type "enumerate", .ref l], []⟩) (fun _ R s => s.heap.IsTuple l items ∧
      R (.ok (.ret (.ref (s.heap.push { cls := .type "tuple_iterator", data := .fields #[.ref l, .int 0 0] }).objs.size)))
        { s with heap := (s.heap.push { cls := .type "tuple_iterator", data := .fields #[.ref l, .int 0 0] }).push { cls := .type "enumerate", data := .fields #[.none, .bool false, .ref s.heap.objs.size, rawInt 0, .none, .none] } }) :=
  .of_wp fun prog w A R s h => by
    obtain ⟨hp, g, d, tk, os⟩ := s; obtain ⟨hL, h⟩ := h
    have hsub := sub_enumerate
    wp_walk using wpAny_pyIter_tuple hL
    refine wpAny_stack_any fun st => wpAny_pure ?_
    split
    · rename_i c _ _ _ _ _
      cases (c == Value.type "enumerate")
      · wp_walk using wpAny_pyIter_tuple hL
        exact ⟨_, rfl, h⟩
      · wp_walk using wpAny_pyIter_tuple hL
        exact ⟨_, rfl, h⟩
    · wp_walk using wpAny_pyIter_tuple hL
      exact ⟨_, rfl, h⟩
section
variable {prog : Program} {w : World} {A : Around} {E : Value → Shared → Prop} {s : Shared}
theorem call_enumerate_tup {l : Addr} {items : Array Value} {Q : Value → Shared → Prop} (hL : s.heap.IsTuple l items)
    (h : ∀ h', IsEnum h' (s.heap.objs.size + 1) s.heap.objs.size 0 .none → h'.IsTupleIter s.heap.objs.size l 0 → h'.objs.size = s.heap.objs.size + 2 →
      (∀ b o, s.heap.get? b = some o → h'.get? b = some o) → Q (.ref (s.heap.objs.size + 1)) { s with heap := h' }) :
    wpAny (model prog w) A (call (.type "enumerate") [.ref l]) Q E s := by
  refine callType_new F.called_enumerate (by decide) (F.typeCall_enumerate_1 _) (F.newCall_enumerate_1 _) (fun obj => F.args_object_init_2 obj _) F.entry_enumerate_new
    (meets_enumerate_newT l items) ⟨hL, ?_⟩
  have hz : (s.heap.push { cls := .type "tuple_iterator", data := .fields #[.ref l, .int 0 0] }).objs.size = s.heap.objs.size + 1 := Heap.size_push ..
  show _ ∧ _
  rw [hz]
  have he : IsEnum ((s.heap.push { cls := .type "tuple_iterator", data := .fields #[.ref l, .int 0 0] }).push
      { cls := .type "enumerate", data := .fields #[.none, .bool false, .ref s.heap.objs.size, rawInt 0, .none, .none] }) (s.heap.objs.size + 1) s.heap.objs.size 0 .none := by
    have := Heap.get?_push_size (s.heap.push { cls := .type "tuple_iterator", data := .fields #[.ref l, .int 0 0] })
      (o := { cls := .type "enumerate", data := .fields #[.none, .bool false, .ref s.heap.objs.size, rawInt 0, .none, .none] }) rfl
    rw [hz] at this; exact this
  refine ⟨⟨_, he, rfl⟩, h _ he ⟨_, Heap.get?_push_of_some _ (Heap.get?_push_size _ rfl), rfl, rfl⟩ (by rw [Heap.size_push, hz]) fun b o x => Heap.get?_push_of_some _ (Heap.get?_push_of_some _ x)⟩
/-- next of an enumerate whose tuple is at its end -/
theorem wpAny_pyNext_enum_endU {e it l : Addr} {i : Nat} {items : Array Value} {old : Value} {Q : Option Value → Shared → Prop} (hh : A.handled = none) (he : IsEnum s.heap e it i old)
    (hit : s.heap.IsTupleIter it l i) (hl : s.heap.IsTuple l items) (hx : items[i]? = none) (hQ : ∀ h', Heap.ExtBut it s.heap h' → Q none { s with heap := h' }) : wpAny (model prog w) A (pyNext (.ref e)) Q E s := by
  have hT : s.TypeIs (.ref e) "enumerate" := ⟨_, he, rfl⟩
  unfold pyNext
  refine wpAny_bind (wpAny_attempt (wpAny_callSpecial?_slot (name := Str.ofString "__next__") hT F.slot_enumerate_next (wpAny_call_entry F.slot_enumerate_next hT F.entry_enumerate_next ?_ (F.args_enumerate_next_1 _))))
  show wpAny _ _ (field (.ref e) 2 >>= _) _ _ _
  refine wpAny_bind (wpAny_field he rfl (x := .ref it) rfl (wpAny_bind (wpAny_nextOf_tuple_end hh hit hl hx fun h' x he' ⟨o, ho, hc⟩ => ?_)))
  exact wpAny_bind (wpAny_isInstance (T := "StopIteration") (b := true) ⟨o, ho, hc⟩ isSubtype_stop (wpAny_pure (hQ _ he')))
end
end PySem
namespace L2
open PySem PySem.Spec PyProof.Rows
/-- the tuple at a, each item in a new pair -/
def ItuE (K : PySem.W.Frag) (a : Addr) : It :=
  ⟨fun i H => ∃ (xs : List V) (x : V), SqT K H a xs ∧ xs[i]? = some x, fun i H v H' => ∃ T x, v = .ref T ∧ H T = none ∧ H' = upd H T (.tup [.int (i : Nat), x]) ∧ ∀ xs, SqT K H a xs → xs[i]? = some x, fun i H => ∃ xs : List V, SqT K H a xs ∧ xs.length ≤ i⟩
theorem turn_enumT {P : Program} {w : World} {K : PySem.W.Frag} {elts : List Expr} {kk : Nat} {tpos : Pos} (a e it : Addr) :
    Turn P w K (.Tuple elts kk tpos) (ItuE K a) [e, it] e (fun i h => (∃ old, IsEnum h e it ((i : Nat) : Int) old) ∧ h.IsTupleIter it a i ∧ e ≠ it ∧ a ≠ it ∧ a ≠ e) where
  mem := by simp
  obj := fun i h st b hb => by
    obtain ⟨⟨old, he⟩, ⟨o, ho, hc, hd⟩, _⟩ := st
    have e' : b = e ∨ b = it := by simpa using hb
    rcases e' with z | z
    · rw [z]; exact ⟨_, he, fun v q => nomatch q⟩
    · rw [z]; exact ⟨o, ho, fun v q => by rw [hd] at q; cases q⟩
  keep := fun i h h' st k => let ⟨⟨old, he⟩, hi, hne⟩ := st; ⟨⟨old, k e (by simp) _ he⟩, hi.at fun o q => k it (by simp) o q, hne⟩
  item := by
    intro X hP hw hK hc i pins s σ H E I hf st hg
    subst hP hw hK
    obtain ⟨⟨old, he⟩, hit, hne, hai, hae⟩ := st
    obtain ⟨xs, x, hq, hx⟩ := hg
    obtain ⟨its, rv, p, hz⟩ := I.tuple hq
    obtain ⟨u, hu, ru⟩ := rv.get hx
    have hel : e < s.heap.objs.size := Heap.lt_size he
    have hil : it < s.heap.objs.size := by obtain ⟨_, q, _⟩ := hit; exact Heap.lt_size q
    have hlen : i < its.toArray.size := by
      have := (List.getElem?_eq_some_iff.mp hu).1
      simpa using this
    have hT0 : s.heap.IsTuple a its.toArray := p
    refine wpAny_pyNext_enum_itemD (Draws.tuple (prog := X.prog) (w := X.w) (A := X.A.in1) (show X.A.in1.handled = none from I.ok.hd hc) it a hai its.toArray) he ⟨hit, hT0⟩ hlen hne (by simp [hne, Ne.symm hae]) fun y h' tk hy ho hst' hT hsz hk => ?_
    have ey : y = u := by
      have q : its[i]? = some y := by simpa using hy
      exact Option.some.inj (q.symm.trans hu)
    subst ey
    obtain ⟨hit', _⟩ := hst'
    refine ⟨_, rfl, wpAny_letOwnedTupleGo_enum (s := { s with heap := h', toks := tk + 1 }) ho fun h'' he' sb => ?_⟩
    have hT2 : h''.get? s.heap.objs.size = some { cls := .type "tuple", data := .seq #[.int i tk, y] } := (sb.2 _ (Nat.ne_of_gt hel)).trans hT
    have new : ObjOk X.prog X.w (upd H s.heap.objs.size (.tup [.int (i : Nat), x])) h'' s.heap.objs.size (.tup [.int (i : Nat), x]) :=
      ⟨by show 2 ≤ sizeLine; decide, [.int i tk, y], .cons ⟨_, rfl⟩ (.cons ru .nil), ⟨_, hT2, rfl, _, rfl⟩⟩
    have I1 : Inv X pins σ (upd H s.heap.objs.size (.tup [.int (i : Nat), x])) { s with heap := h'', toks := tk + 1 } :=
      I.turnedNew (ch := [e, it]) (fun b ob hb q => (sb.2 b (fun z => hb (by simp [z]))).trans (hk b ob (fun z => hb (by simp [z])) (fun z => hb (by simp [z])) q)) hf (Nat.le_refl _) new
    refine ⟨.ref s.heap.objs.size, _, I1, rfl, ⟨_, x, rfl, I.hok.fresh (Nat.le_refl _), rfl, fun ys hy => by rw [I.tuple_inj hy hq]; exact hx⟩, ⟨⟨y, ?_⟩, hit'.at fun o q => (sb.2 it (Ne.symm hne)).trans q, hne, hai, hae⟩, fun b hb => ?_⟩
    · have e1 : ((i + 1 : Nat) : Int) = (i : Int) + 1 := by omega
      rw [e1]; exact he'
    · have hb' : b < s.heap.objs.size := by
        have e' : b = e ∨ b = it := by simpa using hb
        rcases e' with z | z
        · rw [z]; exact hel
        · rw [z]; exact hil
      rw [upd_ne (Nat.ne_of_lt hb')]
      exact (hf b hb).1
  done := by
    intro X hP hw hK hc i pins s σ H E I hf st hg
    subst hP hw hK
    obtain ⟨⟨old, he⟩, hit, hne, hai, hae⟩ := st
    obtain ⟨xs, hq, hx⟩ := hg
    obtain ⟨its, rv, p, hz⟩ := I.tuple hq
    obtain ⟨f0, f1, f2, f3, f4, f5⟩ := hf it (by simp)
    have hl := rv.length
    have hT0 : s.heap.IsTuple a its.toArray := p
    exact wpAny_pyNext_enum_endU (I.ok.hd hc) he hit hT0 (by simp; omega) fun h' eb => ⟨rfl, I.turned (t' := s.toks) (fun b o hb q => eb b o hb q) f0 f1 f3 f4 f5⟩
  self := fun A i s Q E st h => let ⟨⟨_, he⟩, _⟩ := st; wpAny_pyIter_enum he h
def iEnumT (K : PySem.W.Frag) (ta : TA) : TI := fun σ H R => ta σ H fun vs H1 => ∃ a xs, vs = [.ref a] ∧ SqT K H1 a xs ∧ R (ItuE K a) H1
theorem pi_enumT {X : Cx} {e : Expr} {ta : TA} {p pos tpos : Pos} {elts : List Expr} {kk : Nat} (hg : Gl X "enumerate") (hm : X.mg "enumerate" = none) (ha : PA X [e] ta) (hs : starEach [e] X.env = [(false, eval e X.env)] := by rfl) :
    PI X (.Tuple elts kk tpos) (.Call (.Name "enumerate" p) [e] [] pos) (iEnumT X.K ta) := by
  refine ⟨fun pins s σ H R I h => ?_⟩
  refine Call_ (ld_blt I hg hm boot_enumerate (PyProof.Rows.callWith_type1 (thn (ha.run pos pins s σ H _ I h) fun us s1 ⟨vs, H1, I1, r1, q1⟩ => ?_) hs rfl))
  obtain ⟨a, xs, ex, hq, q⟩ := q1
  subst ex
  cases r1 with
  | cons r rr =>
    cases rr
    cases r
    obtain ⟨its, rv, p', hz⟩ := I1.tuple hq
    have hT0 : s1.heap.IsTuple a its.toArray := p'
    have hal : a < s1.heap.objs.size := by obtain ⟨_, q, _⟩ := hT0; exact Heap.lt_size q
    refine call_enumerate_tup hT0 fun h' he hit hsz hk => wpAny_pyIter_enum he ?_
    have I2 : Inv X pins σ H1 { s1 with heap := h' } := I1.kept (t' := s1.toks) hk
    refine ⟨s1.heap.objs.size + 1, [s1.heap.objs.size + 1, s1.heap.objs.size], _, _, H1, rfl, I2, turn_enumT a (s1.heap.objs.size + 1) s1.heap.objs.size, ⟨⟨.none, he⟩, hit, Nat.succ_ne_self _, Nat.ne_of_lt hal, Nat.ne_of_lt (Nat.lt_succ_of_lt hal)⟩, fun b hb => ?_, q⟩
    have e' : b = s1.heap.objs.size + 1 ∨ b = s1.heap.objs.size := by simpa using hb
    have hle : s1.heap.objs.size ≤ b := by
      rcases e' with z | z
      · rw [z]; exact Nat.le_add_right _ _
      · rw [z]; exact Nat.le_refl _
    exact I1.fpOk hle (I1.hok.fresh hle)
end L2
namespace L2
open PySem PySem.Spec PyProof.Rows
theorem for_enumT {K : PySem.W.Frag} {a : Addr} {xs : List V} {g : TG} {tb : TS} {D : Ends} {σ : St} {H : Hp} (Pv : Nat → St → Hp → Prop) (h0 : Pv 0 σ H) (hl : ∀ i σ H, i ≤ xs.length → Pv i σ H → SqT K H a xs)
    (hs : ∀ i x σ H T, xs[i]? = some x → Pv i σ H → H T = none → g (.ref T) σ (upd H T (.tup [.int (i : Nat), x])) fun σ2 H2 => tb { D with nx := Pv (i + 1), ct := Pv (i + 1), bk := D.nx } σ2 H2)
    (hd : ∀ σ H, Pv xs.length σ H → D.nx σ H) :
    ∃ W : Nat → Nat → St → Hp → Prop, (∃ m, W 0 m σ H) ∧ ∀ i m σ H, W i m σ H →
      ((ItuE K a).stop i H ∧ D.nx σ H) ∨ ((ItuE K a).go i H ∧ ∃ N : St → Hp → Prop, (∀ σ' H', N σ' H' → ∃ m', m' < m ∧ W (i + 1) m' σ' H') ∧ ∀ x H', (ItuE K a).yld i H x H' → g x σ H' fun σ2 H2 => tb { D with nx := N, ct := N, bk := D.nx } σ2 H2) := by
  refine ⟨fun i m σ H => m = xs.length - i ∧ i ≤ xs.length ∧ Pv i σ H, ⟨xs.length, by simp, Nat.zero_le _, h0⟩, fun i m σ H hW => ?_⟩
  obtain ⟨em, hi, p⟩ := hW
  have q := hl i σ H hi p
  by_cases hlt : i < xs.length
  · refine .inr ⟨⟨xs, xs[i], q, List.getElem?_eq_getElem hlt⟩, Pv (i + 1), fun σ' H' p' => ⟨xs.length - (i + 1), by omega, rfl, hlt, p'⟩, fun x H' y => ?_⟩
    obtain ⟨T, x', ev, nT, eH, hx⟩ := y
    subst ev eH
    exact hs i x' σ H T (hx xs q) p nT
  · have ei : i = xs.length := by omega
    subst ei
    exact .inl ⟨⟨xs, q, Nat.le_refl _⟩, hd σ H p⟩
end L2

namespace L2
open PySem PySem.Spec PyProof.Rows
/-! ### o.m(e, .., k = v, ..) -/
def tMethN (C : Addr) (m : Str) (n j : Nat) (sp : Sp) (gV : List V → List V → List V) (E : XK) (ta : TE) (t tk : TA) : TE := fun σ H Q => ta σ H fun x H1 => ∃ a dx fs, x = .ref a ∧ H1 a = some (.ins C dx fs) ∧ fs.lookup m = none ∧
  t σ H1 fun vs H2 => tk σ H2 fun zs H3 => vs.length + 1 = n ∧ zs.length = j ∧ sp (gV (x :: vs) zs) H3 Q E
section
variable {X : Cx} {CX : CXT} {k n : Nat} {f C : Addr} {fd : FuncData} {ps ks : List Str} {sp : Sp} {E : XK} {m : Str} {pos apos : Pos} {e o : Expr} {es : List Expr} {kws : List Keyword} {ta : TE} {t tk : TA} {g : List Value → List Value → List Value} {gV : List V → List V → List V}
theorem pe_methN {pl : Sem Bool} (he : PE X o ta) (c : Cls X.K C) (hm : Meth X.K C m f) (F : FnOk X.prog X.w X.K X.mg X.base CX k f fd ps sp) (hr : Room k X.A) (hb : KBn X.K fd ps n ks g gV) (hx : Passes CX X E) (ha : PA X (e :: es) t) (hkw : PK X kws tk)
    (hall : (backToKw pos (keywordEach kws X.env)).all (·.1.isSome) = true := by rfl) (hks : (backToKw pos (keywordEach kws X.env)).filterMap (·.1) = ks := by rfl)
    (hst : starEach (e :: es) X.env = (false, eval e X.env) :: starEach es X.env := by rfl)
    (hpl : ((backTo pos (starEach (e :: es) X.env)).any (·.1) || (backToKw pos (keywordEach kws X.env)).any (·.1.isNone)) = false := by rfl)
    (ht : eval (.Call (.Attribute o m apos) (e :: es) kws pos) X.env = (do
      let ov ← eval o X.env
      standAt apos.atName
      let (f, first) ← holding [ov] (getMethod ov m pl)
      callWith pos f first (backTo pos (starEach (e :: es) X.env)) (backToKw pos (keywordEach kws X.env))) := by rfl) :
    PE X (.Call (.Attribute o m apos) (e :: es) kws pos) (tMethN C m n ks.length sp gV E ta t tk) := by
  refine ⟨fun pins s σ H Q I h => PySem.W.methodCall_KW (pl := pl) (thn (he.run pins s σ H _ I h) fun u s1 ⟨x, H1, I1, rx, a, dx, fs, ex, ea, l, q⟩ => ?_) ht⟩
  subst ex
  obtain rfl : u = Value.ref a := rx
  refine getmeth_ok I1 ea c hm l ?_
  refine PySem.W.callWith_KW (first := [.ref a]) (h₀ := X.base) I.ok.mod.kin hm.kp hall (thn (ha.run pos pins s1 σ H1 _ I1 q) fun us s2 ⟨vs, H2, I2, r, q2⟩ => ?_) hpl hst
  refine thn (hkw.run pos pins s2 σ H2 _ I2 q2) fun ws s3 ⟨zs, H3, I3, rz, l1, l2, q3⟩ => ⟨I3.kIn, ?_⟩
  rw [hks]
  exact run_fnN (us := .ref a :: us) (vs := .ref a :: vs) F hr hb hx I3 (.cons rfl r) rz l1 l2 q3
end
section
variable {P : Program} {w : World} {K : PySem.W.Frag} {mg : Str → Option Value} {base : Heap} {x qual : Str} {params : Arguments} {body : List Stmt} {scope : Scope} {dvs : List V} {kws : List (Str × V)} {f : Addr} {fd : FuncData}
/-- a def with defaults that lets nothing out -/
theorem FunD.ok0 {N ps : List Str} {k : Nat} {sp : Sp} (F : FunD K x qual params body scope dvs kws f fd) (S : FnScope N ps scope) (len : ∀ vs H Q E, sp vs H Q E → vs.length = ps.length)
    (hb : ∀ (cdv : Value) (A : Around) (outer : List Env) (s : Shared) (H : Hp) (vs : List V) (Q : VK) (E : XK), Room k (A.deeper (envOfC qual scope s.heap.objs.size f cdv)) → sp vs H Q E →
      ∃ t, PSs (cxOf CX0 P w K mg base N qual scope f cdv A outer s H E).nox body t ∧ t { nx := fun _ H' => Q .non H', rt := Q } (start N vs) H) : FnOk P w K mg base CX0 (k + 1) f fd ps sp :=
  F.ok S len fun cdv A outer s H vs Q E hr h => (hb cdv A outer s H vs Q E hr h).elim fun t ⟨h1, h2⟩ => ⟨t, h1.nox, h2⟩
end
end L2

namespace L2
open PySem PySem.Spec PyProof.Rows
/-! ### x op y by an own def of the class of both -/
def rOwnI (C : Addr) (sp : Sp) (E : XK) : R2 := fun x y H Q => ∃ a dx fs b dy gs, x = .ref a ∧ y = .ref b ∧ H a = some (.ins C dx fs) ∧ H b = some (.ins C dy gs) ∧ sp [x, y] H Q E
section
variable {X : Cx} {CX : CXT} {n : Nat} {C g : Addr} {fd : FuncData} {ps : List Str} {sp : Sp} {E : XK}
theorem op_cmpI {op : CmpOp} (hop : ∀ a b, compareOp op a b = richCompare op a b) (hs : PySem.W.findIn X.K (.ref C) (cmpInfo op).2.1 = some (some (.ref g))) (hf : PySem.W.isFn X.K (.ref g) = true)
    (F : FnOk X.prog X.w X.K X.mg X.base CX n g fd ps sp) (hr : Room n X.A) (hb : Binds X.K fd ps []) (hx : Passes CX X E) : OpR X (compareOp op) (rOwnI C sp E) := by
  intro pins s σ H x y v u Q I rx ry h
  obtain ⟨a, dx, fs, b, dy, gs, rfl, rfl, ha, hb', q⟩ := h
  cases rx
  cases ry
  obtain ⟨mA, J, _⟩ := ins_get I.hok ha
  obtain ⟨mB, J', _⟩ := ins_get I.hok hb'
  obtain ⟨od, J, _⟩ := J.look
  obtain ⟨od', J', _⟩ := J'.look
  obtain ⟨m, hF⟩ := I.fr
  rw [hop]
  refine PySem.W.cmp_K (op := op) (tb := .ref C) hr.units0 hF I.ok.mod.kin J J'.type (by simp [PySem.W.notFirst]) hs hf ?_
  refine wpAny_mono (run_fn (us := [.ref a, .ref b]) (vs := [.ref a, .ref b]) (dvs := []) F hr hb .nil hx I (.cons rfl (.cons rfl .nil)) q) (fun w s' z => ?_) fun _ _ x => x
  obtain ⟨z', H', I', rz, qz⟩ := z
  exact SlX.cmpback rz ⟨z', H', I', rz, qz⟩
theorem op_binI {op : Operator} (hc : PySem.W.selfFirst X.K C = true) (hs : PySem.W.findIn X.K (.ref C) (PySem.dunder op.info.2) = some (some (.ref g))) (hf : PySem.W.isFn X.K (.ref g) = true)
    (F : FnOk X.prog X.w X.K X.mg X.base CX n g fd ps sp) (hr : Room n X.A) (hb : Binds X.K fd ps []) (hx : Passes CX X E) : OpR X (binaryOp op) (rOwnI C sp E) := by
  intro pins s σ H x y v u Q I rx ry h
  obtain ⟨a, dx, fs, b, dy, gs, rfl, rfl, ha, hb', q⟩ := h
  cases rx
  cases ry
  obtain ⟨mA, J, _⟩ := ins_get I.hok ha
  obtain ⟨mB, J', _⟩ := ins_get I.hok hb'
  obtain ⟨od, J, _⟩ := J.look
  obtain ⟨od', J', _⟩ := J'.look
  obtain ⟨m, hF⟩ := I.fr
  refine PySem.W.binop_K (op := op) hF I.ok.mod.kin J J'.type hc hs hf ?_
  refine wpAny_mono (run_fn (us := [.ref a, .ref b]) (vs := [.ref a, .ref b]) (dvs := []) F hr hb .nil hx I (.cons rfl (.cons rfl .nil)) q) (fun w s' z => ?_) fun _ _ x => x
  obtain ⟨z', H', I', rz, qz⟩ := z
  exact SlX.cmpback rz ⟨z', H', I', rz, qz⟩
end
end L2

/-! ### errors whose __init__ says super().__init__(text) and stores one field -/
namespace PySem
namespace WX
open PySem.W PySem.Calls PyProof.Rows PySem.HandSPX
def iB (fl tx : Str) (q1 q2 q3 q4 q5 q6 q7 q8 q9 q10 : Pos) (j : Nat) : List Stmt :=
  [.Expr (.Call (.Attribute (.Call (.Name "super" q1) [] [] q2) "__init__" q3) [.Constant (.str tx) j q4] [] q5) q6, .Assign [.Attribute (.Name "self" q7) fl q8] (.Name fl q9) q10]
/-- what the top has written of the class cn, at C, and of its __init__, at fI -/
structure ExcTxt (P : Program) (K : Frag) (mg : Str → Option Value) (cn fl : Str) (C : Addr) where
  gC : mg cn = some (.ref C)
  cls : ∃ nm q N bs bm sn sub ab col dd k0 k1 k2 k3 k5, K.lookup C = some (excClassObj nm q C N bs bm true sn sub ab col dd k0 k1 k2 k3 k5 "ValueError.__new__") ∧ refsVE bm = true
  sa : findIn K (.ref C) "__setattr__" = some (some (.builtin "object.__setattr__"))
  ga : findIn K (.ref C) "__getattribute__" = some (some (.builtin "BaseException.__getattribute__"))
  gg : findIn K (.ref C) "__getattr__" = some none
  noN : findIn K (.ref C) fl = some none
  kC : keepIn K (.ref C) = true
  exC : subIn K (.ref C) (.type "BaseException") = some true
  tyC : typeIn K (.ref C) = some (.type "type")
  hdC : hasDictIn K C = true
  fI : Addr
  qual : Str
  tx : Str
  S : Stmt
  oc : Value
  od : Option Addr
  kV : Value
  doc : Value
  pm : Value
  an : Option Addr
  cda : Addr
  ct : Value
  osl : Array (Option Value)
  cc : Addr
  cl : Value
  cld : Option Addr
  csl : Array (Option Value)
  ccl : Value
  cdd : Option Addr
  vs : Array Value
  ccs : Array (Option Value)
  file : Str
  tf : Tok
  q1 : Pos
  q2 : Pos
  q3 : Pos
  q4 : Pos
  q5 : Pos
  q6 : Pos
  q7 : Pos
  q8 : Pos
  q9 : Pos
  q10 : Pos
  j : Nat
  pl : Sem Bool
  iC : findIn K (.ref C) "__init__" = some (some (.ref fI))
  tI : typeIn K (.ref fI) = some (.type "function")
  lI : K.lookup fI = some ⟨oc, od, .func (ksFn "__init__" qual (L2.defArgs S) (L2.defBody S) (L2.defScope S) .none kV doc pm an (.ref cda) ct cc), osl⟩
  cI : codeIn K (.ref cda) qual = true
  lcc : K.lookup cc = some ⟨cl, cld, .cell (some (.ref C)), csl⟩
  lcd : K.lookup cda = some ⟨ccl, cdd, .fields vs, ccs⟩
  hvs : vs[2]? = some (.str file tf)
  hfile : ((P.main.file : Str) == file) = true
  hpar : ∃ ar : Arg, ((L2.defArgs S).posonlyargs ++ (L2.defArgs S).args).head? = some ar ∧ ar.arg = "self"
  hbody : L2.defBody S = iB fl tx q1 q2 q3 q4 q5 q6 q7 q8 q9 q10 j
  hbind : ∀ x v : Value, bindArgs (ksFn "__init__" qual (L2.defArgs S) (L2.defBody S) (L2.defScope S) .none kV doc pm an (.ref cda) ct cc) ⟨[x, v], []⟩ = pure [(("self" : Str), x), (fl, v)]
  hev : ∀ L f : Addr, eval (.Call (.Attribute (.Call (.Name "super" q1) [] [] q2) "__init__" q3) [.Constant (.str tx) j q4] [] q5) (ksEnv qual (L2.defScope S) L f (.ref cda) cc) = (do
      let ov ← attributeBase (.Call (.Name "super" q1) [] [] q2) "__init__" (ksEnv qual (L2.defScope S) L f (.ref cda) cc) (eval (.Call (.Name "super" q1) [] [] q2) (ksEnv qual (L2.defScope S) L f (.ref cda) cc))
      standAt q3.atName
      let (g, first) ← holding [ov] (getMethod ov "__init__" pl)
      callWith q5 g first (backTo q5 (starEach [.Constant (.str tx) j q4] (ksEnv qual (L2.defScope S) L f (.ref cda) cc))) [])
  hk : (L2.defScope S).kind = .function
  hco : (L2.defScope S).isCoroutine = false
  hgen : (L2.defScope S).isGenerator = false
  hks : (L2.defScope S).names.lookup ("super" : Str) = some .globalImplicit
  hkc : (L2.defScope S).names.lookup ("__class__" : Str) = some .free
  hself : (L2.defScope S).names.lookup ("self" : Str) = some .local
  hfl : (L2.defScope S).names.lookup fl = some .local
  hcell : ∀ y ∈ (L2.defScope S).names, y.2 ≠ .cell
  nf : ("self" : Str) ≠ fl ∧ (fl == ("__debug__" : Str)) = false
  top : (P.main.scope.names.lookup ("super" : Str)).isSome = false
  sup : mg "super" = none
  opq : nsIn K cStatics "thirdparty.any" = some none
  nxt : ks_superIn K C C "__init__" = some (some (.builtin "ValueError.__init__"))
  slf : mroIn K C (.ref C) = some true
  sub : subIn K (.ref C) (.type "ValueError") = some true
section
variable {P : Program} {w : World} {A : Around} {E : Value → Shared → Prop} {R : Result → Shared → Prop} {s : Shared} {K : Frag} {mg : Str → Option Value} {cn fl : Str} {C : Addr}
/-- the method-wrapper of ValueError.__init__ called -/
theorem call_mw {h : Heap} {g : Array GenState} {d : Drawn} {t : Nat} {os : OsState} {nm q : Str} {N : Addr} {bs bm : List Value} {hdct : Bool} {sn : List Str} {sub : List Value} {ab : Bool} {col : Option Bool} {dd : Option Addr} {k0 k1 k2 k3 k5 : Option Value} {u e t0 : Addr} {rest : List Value} {Q : Value → Shared → Prop}
    (hC : h.get? C = some (excClassObj nm q C N bs bm hdct sn sub ab col dd k0 k1 k2 k3 k5 "ValueError.__new__")) (he : h.get? e = some (excO C t0)) (hu : h.get? u = some (kxs_mw "ValueError.__init__" e)) (hrest : rest.length ≤ sizeLine)
    (hq : ∀ h' t1, (∀ b o, b ≠ e → h.get? b = some o → h'.get? b = some o) → h'.get? e = some (excO C t1) → Q .none ⟨h', g, d, t, os⟩) :
    wpAny (model P w) A (call (.ref u) rest) Q E ⟨h, g, d, t, os⟩ := by
  refine wpAny_call (codeAny_of_tree ?_)
  show wpAny _ A.in1 (callAny (.ref u) ⟨rest, []⟩) _ _ _
  simp only [callAny]
  refine wpAny_bind (wpAny_load hu ?_)
  simp only [kxs_mw, show (Value.type "method-wrapper" == Value.type "method" || Value.type "method-wrapper" == Value.type "builtin_function_or_method" || Value.type "method-wrapper" == Value.type "method-wrapper") = true by decide, if_true]
  refine KFB.if_so (by decide) (wpAny_bind (check_bound_init PySem.F.excBase_ValueError.toExcCallFacts hC he rfl (wpAny_bind (wpAny_pure (wpAny_pure ?_)))))
  refine ⟨plainId_quiet PySem.F.excBase_ValueError.init.plain _, codeAny_builtin PySem.F.excBase_ValueError.initEntry ?_⟩
  exact exc_init_tree (cls := .ref C) (t0 := t0) (dv := none) (c2 := .none) (c3 := .none) (b4 := .bool false) he hrest fun h' k e' _ => hq h' _ k e'
/-- what __init__ leaves of a fresh exception at x -/
structure InitEnd (h h' : Heap) (x C dx : Addr) (fl : Str) (v : Value) : Prop where
  keep : ∀ b o, b ≠ x → h.get? b = some o → h'.get? b = some o
  obj : ∃ t1 : Addr, h'.get? x = some { cls := .ref C, dict := some dx, data := .fields #[.ref t1, .none, .none, .none, .bool false, .none] }
  dbig : h.objs.size ≤ dx
  dne : dx ≠ x
  ns : h'.Ns1 dx (fun y => if y = fl then some v else none)
theorem x_init (T : ExcTxt P K mg cn fl C) {x t0 : Addr} {v : Value} (X : K.In s.heap) (hlim : s.heap.NoLimit) (hG : s.heap.Ns mainGlobals mg) (hB : ∃ mb, s.heap.Ns builtinsNs mb ∧ ∀ y : Str, y ≠ "__name__" → mb y = bootBuiltins y)
    (hx : s.heap.get? x = some (excO C t0)) (hnx : K.lookup x = none) (hroom : A.depth < recursionLimit)
    (hq : ∀ h' tk dx, InitEnd s.heap h' x C dx fl v → R (.ok (.ret .none)) { s with heap := h', toks := tk }) :
    codeAny (model P w) A (.call (.ref T.fI) ⟨[.ref x, v], []⟩) R s := by
  obtain ⟨nm, q, N, bs, bm, sn, sub, ab, col, dd, k0, k1, k2, k3, k5, hC, hbm⟩ := T.cls
  have hcl : clsIn K C = some { name := nm, bases := bs, mro := .ref C :: bm, ns := N, qualname := q, hasDict := true, slotNames := sn, subclasses := sub, abstract := ab, collection := col, hasDel := false } := by unfold clsIn; rw [hC] <;> rfl
  have hxC : x ≠ C := fun z => by
    have e1 := X _ _ hC
    rw [← z, hx] at e1
    have e2 := congrArg (fun o : Option Obj => o.map (·.data)) e1
    simp [excO, excClassObj] at e2
  have ho := T.lI
  refine ks_codeAny_call_defAt (fd := ksFn "__init__" T.qual (L2.defArgs T.S) (L2.defBody T.S) (L2.defScope T.S) .none T.kV T.doc T.pm T.an (.ref T.cda) T.ct T.cc) (body := L2.defBody T.S) (binds := [("self", .ref x), (fl, v)])
    hroom (X _ _ ho) rfl hlim (codeRec_of X T.cI) rfl (BindsTo.of_eq (T.hbind _ _)) T.hcell ?hloc (fun h₁ hns hk₁ => ?_) T.hco T.hgen T.hk
  case hloc =>
    intro y hy
    simp only [List.mem_cons, List.not_mem_nil, or_false] at hy
    rcases hy with rfl | rfl
    · exact T.hself
    · exact T.hfl
  have X₁ : K.In h₁ := X.keeps hk₁
  have hx₁ := hk₁ _ _ hx
  have ms : (fun y : Str => ([("self", Value.ref x), (fl, v)] : List (Str × Value)).reverse.lookup y) "self" = some (.ref x) := by
    have z : (("self" : Str) == fl) = false := by simpa using T.nf.1
    simp [List.lookup, z]
  have mf : (fun y : Str => ([("self", Value.ref x), (fl, v)] : List (Str × Value)).reverse.lookup y) fl = some v := by simp [List.lookup]
  show wpAt _ (A.deeper (ksEnv T.qual (L2.defScope T.S) s.heap.objs.size T.fI (.ref T.cda) T.cc)) (.func (L2.defBody T.S) (ksEnv T.qual (L2.defScope T.S) s.heap.objs.size T.fI (.ref T.cda) T.cc)) (execs (L2.defBody T.S) (ksEnv T.qual (L2.defScope T.S) s.heap.objs.size T.fI (.ref T.cda) T.cc)) _ _ _
  rw [T.hbody]
  refine ks_wpAt_execs_cons (ks_wpAt_Expr_any (ks_wpAt_MethodCall ?_ (T.hev _ _)) (by unfold interactive; show ((L2.defScope T.S).kind == .module && _) = false; rw [T.hk]; rfl))
  obtain ⟨ar, hp, har⟩ := T.hpar
  obtain ⟨mb, hB1, hB2⟩ := hB
  refine ks_wpAt_super_base T.hks T.hkc (by decide +kernel) rfl (hk₁ _ _ (X _ _ ho)) rfl hp rfl (hk₁ _ _ (X _ _ T.lcd)) rfl T.hvs T.hfile T.top ?_
  refine ks_loadName_global T.hk T.hks (loadGlobal_builtin (hG.keeps hk₁) T.sup (hB1.keeps hk₁) ((hB2 _ (by decide +kernel)).trans PyProof.Rows.Boot.«super») ⟨rfl, ?_⟩)
  refine wpAny_loadName_free T.hk T.hkc rfl ⟨_, X₁ _ _ T.lcc, rfl⟩ ?_
  rw [har]
  refine wpAny_loadName_local T.hk T.hself hns ms ?_
  refine ks_wpAny_isType_cls (X₁ _ _ hC) rfl ⟨rfl, ?_⟩
  refine ks_wpAny_call_super (X₁ _ _ hC) rfl hx₁ rfl (fun c e => by cases e) (looks_mroIn X₁ T.slf) (fun h₂ e₂ k₂ => ?_)
  have X₂ : K.In h₂ := X₁.keeps k₂
  have hx₂ := k₂ _ _ hx₁
  have I₂ : InstAt h₂ x (excO C t0) C none := ⟨hx₂, rfl, rfl, trivial⟩
  have hnxt : alongIn K "__init__" (((Value.ref C :: bm).dropWhile (· != .ref C)).drop 1) = some (some (.builtin "ValueError.__init__")) := by
    have z := T.nxt
    unfold ks_superIn at z
    rw [hcl] at z
    exact z
  refine kxs_getMethod kxs_ValueError e₂ (looks_opaque X₂ T.opq) (l₀ := Value.ref C :: bm) (fun A Q E s k q => wpAny_bind ((looks_clsIn X₂ hcl) A _ E s k (wpAny_pure q))) rfl X₂ hnxt (I₂.type.andThen (looks_subIn X₂ T.sub)) hxC (by decide +kernel) ?_
  have k₃ : ∀ b o, h₂.get? b = some o → (h₂.push (kxs_mw "ValueError.__init__" x)).get? b = some o := fun b o e => Heap.get?_push_of_some _ e
  refine kxs_callWith (i := "ValueError.__init__") (x := x) rfl (evalArgs_plain (spliced_more (wpAny_Constant_str (spliced_none ?_))))
  refine ⟨Heap.get?_push_at rfl rfl, ?_⟩
  refine call_mw (k₃ _ _ (X₂ _ _ hC)) (k₃ _ _ hx₂) (Heap.get?_push_at rfl rfl) (by show 1 ≤ sizeLine; decide) fun h₄ t1 k₄ hx₄ => ?_
  have k14 : ∀ b o, b ≠ x → h₁.get? b = some o → h₄.get? b = some o := fun b o hb e => k₄ b o hb (k₃ _ _ (k₂ _ _ e))
  have hxL : s.heap.objs.size ≠ x := Nat.ne_of_gt (Heap.lt_size hx)
  have hns₄ : h₄.Ns s.heap.objs.size (fun y : Str => ([("self", Value.ref x), (fl, v)] : List (Str × Value)).reverse.lookup y) := by
    obtain ⟨oL, es, ep, hL, r⟩ := hns
    exact ⟨oL, es, ep, k14 _ _ hxL hL, r⟩
  have X₄ : K.In h₄ := fun b o e => k14 b o (fun z => by rw [z, hnx] at e; cases e) (X₁ _ _ e)
  refine ks_wpAt_execs_cons (ks_wpAt_Assign_Attr (wpAt_of_wpAny (wpAny_Name (wpAny_loadName_local T.hk T.hfl hns₄ mf ?_) T.nf.2)))
  refine wpAny_Name (wpAny_loadName_local T.hk T.hself hns₄ ms ?_)
  refine set_plain X₄ (ox := excO C t1) (od := none) ⟨hx₄, rfl, rfl, trivial⟩ T.sa ?_
  refine exc_osa X₄ hx₄ hcl (show refsVE (.ref C :: bm) = true from hbm) rfl T.noN (fun h₅ tk₅ dx k₅ dn dne hx₅ hn₅ => ?_)
  exact wpAt_of_wpAny (wpAny_execs_nil (hq h₅ tk₅ dx ⟨fun b o hb e => k₅ b o hb (k14 b o hb (hk₁ b o e)), ⟨t1, hx₅⟩, Nat.le_trans (Nat.le_of_lt hns₄.lt) dn, dne, hn₅⟩))
/-- a made error -/
structure OwnMade (h h' : Heap) (e C d : Addr) (fl : Str) (v : Value) : Prop where
  keep : ∀ b o, h.get? b = some o → h'.get? b = some o
  new : h.objs.size ≤ e
  obj : ∃ oe vs, h'.get? e = some oe ∧ oe.cls = .ref C ∧ oe.dict = some d ∧ oe.data = .fields vs ∧ vs[1]? = some .none
  dbig : h.objs.size ≤ d
  dne : d ≠ e
  ns : h'.Ns1 d (fun y => if y = fl then some v else none)
theorem x_made (T : ExcTxt P K mg cn fl C) {v : Value} (X : K.In s.heap) (hlim : s.heap.NoLimit) (hG : s.heap.Ns mainGlobals mg) (hB : ∃ mb, s.heap.Ns builtinsNs mb ∧ ∀ y : Str, y ≠ "__name__" → mb y = bootBuiltins y) (hroom : A.depth + 1 < recursionLimit)
    (hq : ∀ h' tk e d, OwnMade s.heap h' e C d fl v → R (.ok (.ret (.ref e))) { s with heap := h', toks := tk }) :
    codeAny (model P w) A (.call (.ref C) ⟨[v], []⟩) R s := by
  obtain ⟨nm, q, N, bs, bm, sn, sub, ab, col, dd, k0, k1, k2, k3, k5, hC, hbm⟩ := T.cls
  obtain ⟨hp, g, dr, tk, os⟩ := s
  have k : ∀ b o, hp.get? b = some o → ((hp.push (kdv_tup [v])).push (excO C hp.objs.size)).get? b = some o := fun b o e => Heap.get?_push_of_some _ (Heap.get?_push_of_some _ e)
  have hget : ((hp.push (kdv_tup [v])).push (excO C hp.objs.size)).get? (hp.objs.size + 1) = some (excO C hp.objs.size) := by heap_get
  have hnx : K.lookup (hp.objs.size + 1) = none := by
    cases e : K.lookup (hp.objs.size + 1) with
    | none => rfl
    | some o => exact absurd (Nat.lt_of_succ_lt (Heap.lt_size (show hp.get? (hp.objs.size + 1) = some o from X _ _ e))) (Nat.lt_irrefl _)
  obtain ⟨mb, hB1, hB2⟩ := hB
  refine call_own PySem.F.excBase_ValueError (fun X => refsVE_contains X bm hbm) (X _ _ hC) (looks_findIn X T.iC) (fun self => bind_fn X self T.tI) (by show 1 ≤ sizeLine; decide) ?_
  refine x_init (s := ⟨(hp.push (kdv_tup [v])).push (excO C hp.objs.size), g, dr, tk, os⟩) T (X.keeps k) (hlim.keeps k) (hG.keeps k) ⟨mb, hB1.keeps k, hB2⟩ hget hnx (show A.depth + 1 < recursionLimit from hroom) fun h' tk' dx ⟨k', ⟨t1, hx⟩, dn, dne, hns⟩ => ?_
  have old : ∀ b o, hp.get? b = some o → h'.get? b = some o := fun b o e => k' b o (Nat.ne_of_lt (Nat.lt_succ_of_lt (Heap.lt_size e))) (k b o e)
  have z : hp.objs.size + 1 + 1 ≤ dx := by
    first
      | (simpa only [Heap.size_push] using dn)
      | exact dn
      | (have q := dn; rw [Heap.size_push, Heap.size_push] at q; exact q)
  exact ⟨rfl, hq h' tk' (hp.objs.size + 1) dx ⟨old, Nat.le_succ _, ⟨_, _, hx, rfl, rfl, rfl, rfl⟩, Nat.le_trans (Nat.le_trans (Nat.le_succ _) (Nat.le_succ _)) z, dne, hns⟩⟩
end
end WX
end PySem
namespace L2
open PySem PySem.Spec PyProof.Rows
theorem relO_x {v : V} {v' : Value} (fl : Str) (r : RelV v v') (f : Str) : RelO (List.lookup f [(fl, v)]) (if f = fl then some v' else none) := by
  by_cases hw : f = fl
  · subst hw
    rw [if_pos rfl, show List.lookup f [(f, v)] = some v by simp [List.lookup]]
    exact r
  · rw [if_neg hw, show List.lookup f [(fl, v)] = none by simp [List.lookup, show (f == fl) = false by simpa using hw]]
    trivial
section
variable {X : Cx} {C : Addr} {cn fl : Str}
/-- cn(e) -/
def tMkX (C : Addr) (fl : Str) (ta : TA) : St → Hp → XK → Prop := fun σ H Q => ta σ H fun vs H1 => ∃ v, vs = [v] ∧ ∀ d, H1 d = none → Q (.ref C) (some d) (upd H1 d (.xd [(fl, v)]))
theorem pmk_x {a : Expr} {ta : TA} {p pos : Pos} {k : Nat} (T : PySem.WX.ExcTxt X.prog X.K X.mg cn fl C) (hr : Room k X.A) (ha : PA X [a] ta) (hg : Gl X cn := by rfl) (hdb : (cn == ("__debug__" : Str)) = false := by decide)
    (he : starEach (a :: []) X.env = (false, eval a X.env) :: starEach [] X.env := by rfl) (hpl : (backTo pos (starEach [] X.env)).any (·.1) = false := by rfl) :
    PMk X (.Call (.Name cn p) [a] [] pos) (tMkX C fl ta) := by
  intro pins s σ H Q I h
  refine wpAny_Call_Name_kw (ld_glob I hg T.gC ?_ hdb)
  refine PySem.W.callWith_K (h₀ := X.base) I.ok.mod.kin T.kC (thn (ha.run pos pins s σ H _ I h) fun us s1 hh => ?_) he hpl
  obtain ⟨vs, H1, I1, r1, v, ev, q1⟩ := hh
  subst ev
  refine ⟨I1.kIn, ?_⟩
  cases r1 with
  | cons rv rn =>
    rename_i v' us'
    cases rn
    show wpAny _ _ (call (.ref C) [v']) _ _ _
    have hlim := I1.nolimit
    have hG := I1.mod.glob.keeps I1.bk
    obtain ⟨mb, hB1, hB2⟩ := I1.mod.blt
    have hB1' := hB1.keeps I1.bk
    obtain ⟨hp, g, dr, tk, os⟩ := s1
    refine wpAny_call (PySem.WX.x_made T I1.kIn hlim hG ⟨mb, hB1', hB2⟩ (by have := hr.dp; omega) fun h' tk' e d M => ?_)
    show MkP X pins σ Q (.ref e) ⟨h', g, dr, tk', os⟩
    obtain ⟨oe, fv, hoe, hc, hd, hdat, h1⟩ := M.obj
    obtain ⟨G', g1, g2⟩ := restrict h' fun b => decide (b ≠ e)
    have gk : ∀ b, b ≠ e → G'.get? b = h'.get? b := fun b hb => g1 b (decide_eq_true hb)
    have ge : G'.get? e = none := g2 e (by simp)
    have old : ∀ b o, hp.get? b = some o → G'.get? b = some o := fun b o q => (gk b (Nat.ne_of_lt (Nat.lt_of_lt_of_le (Heap.lt_size q) M.new))).trans (M.keep b o q)
    have ob : ObjOk X.prog X.w (upd H1 d (.xd [(fl, v)])) G' d (.xd [(fl, v)]) := ⟨_, M.ns.at (fun o q => (gk d M.dne).trans q), fun f => relO_x fl rv f⟩
    have J : Inv X pins σ (upd H1 d (.xd [(fl, v)])) ⟨G', g, dr, tk', os⟩ := I1.laid (t' := tk') old M.dbig ob
    refine ⟨e, oe, fv, ⟨G', g, dr, tk', os⟩, _, .ref C, some d, rfl, J, fun b o q => ?_, ge, hoe, ⟨hc, hd⟩, hdat, h1, ?_, rfl, I1.bare, raises_own T.exC T.tyC, q1 d (I1.hok.fresh M.dbig)⟩
    · by_cases hb : b = e
      · have q' : G'.get? b = some o := q
        rw [hb, ge] at q'; cases q'
      · exact (gk b hb).symm.trans q
    · rw [upd_ne (Ne.symm M.dne)]
      exact I1.hok.fresh M.new
/-- raise cn(e) -/
def tRaiseX (C : Addr) (fl : Str) (W : WX) (ta : TA) : TS := fun _ σ H => tMkX C fl ta σ H fun cls d H' => W cls d σ H'
theorem ps_raiseX {a : Expr} {ta : TA} {W : WX} {p pos pos2 : Pos} {k : Nat} (hc : X.calm = true) (T : PySem.WX.ExcTxt X.prog X.K X.mg cn fl C) (hr : Room k X.A) (tk : Takes X W) (ha : PA X [a] ta) (hg : Gl X cn := by rfl) (hdb : (cn == ("__debug__" : Str)) = false := by decide)
    (he : starEach (a :: []) X.env = (false, eval a X.env) :: starEach [] X.env := by rfl) (hpl : (backTo pos (starEach [] X.env)).any (·.1) = false := by rfl) :
    PS X (.Raise (some (.Call (.Name cn p) [a] [] pos)) none pos2) (tRaiseX C fl W ta) := ps_raise hc tk (pmk_x T hr ha hg hdb he hpl)
end
end L2

namespace L2
open PySem PySem.Spec PyProof.Rows
/-! ### in an except suite: isinstance(e, c) and e.f, e an own error with a dict -/
structure XC (K : PySem.W.Frag) (D : Addr) : Prop where
  ga : PySem.W.findIn K (.ref D) "__getattribute__" = some (some (.builtin "BaseException.__getattribute__"))
  gg : PySem.W.findIn K (.ref D) "__getattr__" = some none
  hs : PySem.W.subIn K (.ref D) (.type "BaseException") = some true
  hd : PySem.W.hasDictIn K D = true
  ha : PySem.W.findIn K (.ref D) "__class__" = some (some (.builtin "object.__class__"))
  hn : PySem.W.specialIn K (.builtin "object.__class__") "__get__" = some (some (.builtin "getset_descriptor.__get__"))
  ht : PySem.W.takesIn K (.builtin "object.__class__") = some true
  hm : PySem.W.mroIn K D (.type "object") = some true
def rIsX (K : PySem.W.Frag) (a : Addr) (cls : Value) (d : Option Addr) : List V → Hp → VK → Prop := fun xs H Q => ∃ (D dd : Addr) (fs : List (Str × V)) (c : V) (cv : Value) (b : Bool), cls = .ref D ∧ d = some dd ∧ H dd = some (.xd fs) ∧ XC K D ∧ xs = [.ref a, c] ∧ ClsV c cv ∧ PySem.W.kitOne K (.ref D) cv = some b ∧ Q (.bl b) H
theorem call_isX {X : Cx} {a : Addr} {oe : Obj} {cls : Value} {d : Option Addr} {pn : List (Addr × Obj)} (hz : Zc cls d oe) (hf : ∃ vs, oe.data = .fields vs) : CallR (X.suite a ((a, oe) :: pn)) (.builtin "isinstance") (rIsX X.K a cls d) := by
  intro pins s σ H xs us Q I r h
  obtain ⟨D, dd, fs, c, cv, b, rfl, rfl, hdd, C, rfl, hcv, e, q⟩ := h
  cases r with
  | cons rx rr =>
    cases rr with
    | cons rt rr =>
      cases rr
      cases rx
      have ec := hcv.eq rt
      subst ec
      obtain ⟨hget, _⟩ := I.pin (a, oe) (List.mem_append.mpr (.inl List.mem_cons_self))
      obtain ⟨vs, hv⟩ := hf
      have hx : ObjOk X.prog X.w H s.heap dd (.xd fs) := I.hok dd _ hdd
      obtain ⟨mA, hns, hr⟩ := hx
      obtain ⟨od, ho, hl⟩ := lookIn_ns hns
      have J : PySem.W.InstAt s.heap a oe D (some od) := ⟨hget, hz.1, by unfold PySem.W.notCls; rw [hv] <;> rfl, by rw [hz.2]; exact ho⟩
      obtain ⟨cd, hc, _⟩ := PySem.W.any_some C.hd
      exact PySem.W.kia_one (PySem.W.kitx_exc (by rw [hc]; rfl) C.ga C.gg C.hs C.ha C.hn C.ht C.hm) I.kIn J e (fun z => nomatch z) fun tk => ⟨.bl b, H, I.kept (t' := tk) fun _ _ z => z, rfl, q⟩
/-- e.f: the reading names the class -/
def tXfX (K : PySem.W.Frag) (a : Addr) (cls : Value) (d : Option Addr) (f : Str) (te : TE) : TE := fun σ H Q => te σ H fun x H1 => x = .ref a ∧ ∃ (C dd : Addr) (fs : List (Str × V)) (v : V), cls = .ref C ∧ XC K C ∧ PySem.W.findIn K (.ref C) f = some none ∧ d = some dd ∧ H1 dd = some (.xd fs) ∧ fs.lookup f = some v ∧ Q v H1
theorem pe_xfX {X : Cx} {a : Addr} {oe : Obj} {cls : Value} {d : Option Addr} {pn : List (Addr × Obj)} {e : Expr} {te : TE} {pos : Pos} {n : Str}
    (hz : Zc cls d oe) (hf : ∃ vs, oe.data = .fields vs) (he : PE (X.suite a ((a, oe) :: pn)) e te) (hb : attributeBase e n X.env (eval e X.env) = eval e X.env := by rfl) :
    PE (X.suite a ((a, oe) :: pn)) (.Attribute e n pos) (tXfX X.K a cls d n te) := by
  refine ⟨fun pins s σ H Q I h => ?_⟩
  refine attr_of hb (thn (he.run pins s σ H _ I h) fun u s1 hh => ?_)
  obtain ⟨x, H1, I1, rx, ex, C, dd, fs, v, ec, T, hno, ed, ea, l, q⟩ := hh
  subst ex
  obtain rfl : u = Value.ref a := rx
  subst ec
  subst ed
  obtain ⟨ha, _⟩ := I1.pin (a, oe) (List.mem_append_left _ List.mem_cons_self)
  obtain ⟨vs, hd⟩ := hf
  have hx : ObjOk X.prog X.w H1 s1.heap dd (.xd fs) := I1.hok dd _ ea
  obtain ⟨mA, hns, hr⟩ := hx
  obtain ⟨od, ho, hl⟩ := lookIn_ns hns
  obtain ⟨u, hu, ru⟩ := RelO.some_of (v := v) (o := mA n) (by rw [← l]; exact hr n)
  have J : PySem.W.InstAt s1.heap a oe C (some od) := ⟨ha, hz.1, by unfold PySem.W.notCls; rw [hd] <;> rfl, by rw [hz.2]; exact ho⟩
  exact HandSPX.exc_get I1.kIn J T.ga T.gg T.hs (PySem.W.findObj_own T.hd hno rfl (by rw [hl, hu])) (handed_of ru) ⟨v, H1, I1.tok _, ru, q⟩
/-! ### calls in a try's body: the way out sees the slots -/
def tMethW (C : Addr) (m : Str) (sp : Sp) (dvs : List V) (E : St → XK) (ta : TE) (t : TA) : TE := fun σ H Q => tMeth C m sp dvs (E σ) ta t σ H Q
section
variable {X : Cx} {CX : CXT} {k : Nat} {f C : Addr} {fd : FuncData} {ps : List Str} {sp : Sp} {dvs : List V} {ds : List Value} {E : St → XK} {x m : Str} {p pos apos : Pos} {e o : Expr} {es : List Expr} {ta : TE} {t : TA}
theorem pe_methW {pl : Sem Bool} (he : PE X o ta) (c : Cls X.K C) (hm : Meth X.K C m f) (F : FnOk X.prog X.w X.K X.mg X.base CX k f fd ps sp) (hr : Room k X.A) (hb : Binds X.K fd ps ds) (hd : Vals dvs ds) (hx : ∀ σ, PassesAt CX X σ (E σ)) (ha : PA X (e :: es) t)
    (hst : starEach (e :: es) X.env = (false, eval e X.env) :: starEach es X.env := by rfl) (hpl : (backTo pos (starEach es X.env)).any (·.1) = false := by rfl)
    (ht : eval (.Call (.Attribute o m apos) (e :: es) [] pos) X.env = (do
      let ov ← eval o X.env
      standAt apos.atName
      let (f, first) ← holding [ov] (getMethod ov m pl)
      callWith pos f first (backTo pos (starEach (e :: es) X.env)) (backToKw pos (keywordEach [] X.env))) := by rfl) :
    PE X (.Call (.Attribute o m apos) (e :: es) [] pos) (tMethW C m sp dvs E ta t) := by
  refine ⟨fun pins s σ H Q I h => ?_⟩
  refine PySem.W.methodCall_KW (pl := pl) (thn (he.run pins s σ H _ I h) fun u s1 ⟨x, H1, I1, rx, a, dx, fs, ex, ea, l, q⟩ => ?_) ht
  subst ex
  obtain rfl : u = Value.ref a := rx
  refine getmeth_ok I1 ea c hm l ?_
  refine PySem.W.callWith_K (first := [.ref a]) (h₀ := X.base) I.ok.mod.kin hm.kp (thn (ha.run pos pins s1 σ H1 _ I1 q) fun us s2 ⟨vs, H2, I2, r, q2⟩ => ⟨I2.kIn, ?_⟩) hst hpl
  exact run_fnSD (us := .ref a :: us) (vs := .ref a :: vs) F hr hb hd (hx σ) I2 (.cons rfl r) q2
end
end L2

namespace L2
open PySem PySem.Spec PyProof.Rows
/-- a def that raises nothing where nothing may be raised -/
theorem FnOk.calm {P : Program} {w : World} {K : PySem.W.Frag} {mg : Str → Option Value} {base : Heap} {k : Nat} {f : Addr} {fd : FuncData} {ps : List Str} {sp : Sp} (F : FnOk P w K mg base (L2.CX P w) k f fd ps sp) :
    FnOk P w K mg base CX0 k f fd ps (fun vs H Q _ => sp vs H Q fun _ _ _ => False) :=
  ⟨fun vs H Q _ h => F.len vs H Q _ h, fun A outer s H args us vs Q _ hr he hb hv hs => codeAny_mono (F.run A outer s H args us vs Q _ hr he hb hv hs) fun r s' hq => by
    cases r with
    | error e =>
      obtain ⟨_, _, _, _, _, _, _, _, _, _, _, _, h⟩ := hq
      exact h.elim
    | ok fl =>
      cases fl with
      | ret u => exact hq
      | next => exact hq
      | brk => exact hq
      | cont => exact hq⟩
/-- the way out of a def as its own caller's -/
theorem passX {X : Cx} {E : XK} (tk : Takes X (fun cls d _ H => E cls d H)) : Passes (L2.CX X.prog X.w) X E := passes_call tk fun _ _ _ _ h => h
end L2

namespace L2
open PySem
def gSeq (K : PySem.W.Frag) (n : Nat) (t : TGs) : TG := fun v σ H Q => gTup K n t v σ H Q ∨ gLst K n t v σ H Q
theorem pg_seq {X : Cx} {es : List Expr} {k : Nat} {t : TGs} {n : Nat} {pos : Pos} (hc : X.calm = true) (h : PGs X es t)
    (hn : (assignEach es X.env).length = n := by rfl) (hst : (assignEach es X.env).findIdx? (·.1) = none := by rfl) : PG X (.Tuple es k pos) (gSeq X.K n t) :=
  ⟨fun pins s σ H v u Q I r hw => hw.elim (fun w => (pg_tup hc h hn hst).run pins s σ H v u Q I r w) (fun w => (pg_lst hc h hn hst).run pins s σ H v u Q I r w)⟩
end L2
namespace L2
open PySem
theorem gSeq_of {K : PySem.W.Frag} {n : Nat} {t : TGs} {p : Addr} {xs : List V} {σ : L2.St} {H : Hp} {Q : L2.St → Hp → Prop} (h : H p = some (.tup xs) ∨ H p = some (.lst xs)) (hn : xs.length = n) (q : t xs σ H Q) : gSeq K n t (.ref p) σ H Q := by
  rcases h with h | h
  · exact .inl ⟨p, xs, rfl, SqT.of h, hn, q⟩
  · exact .inr ⟨p, xs, rfl, SqL.of h, hn, q⟩
end L2

namespace L2
open PySem PySem.Spec PyProof.Rows
/-! ### own objects where a built-in asks them: o[k], x in o, len(o), str(o), for x in o, C.m(..) of a staticmethod -/
section
variable {X : Cx} {CX : CXT} {k : Nat} {f C a dx : Addr} {fs : List (Str × V)} {fd : FuncData} {ps : List Str} {sp : Sp} {E : XK} {pins : List (Addr × Obj)} {σ : St} {H : Hp} {s : Shared} {Q : VK} {us : List Value} {vs : List V}
/-- a def's call from within a built-in -/
theorem run_sub {A1 : Around} (hf : A1.frames = some X.stack) (F : FnOk X.prog X.w X.K X.mg X.base CX k f fd ps sp) (hr : Room k A1) (hb : Binds X.K fd ps []) (hx : Passes CX X E) (I : Inv X pins σ H s) (r : Vals vs us) (h : sp vs H Q E) :
    wpAny (model X.prog X.w) A1 (call (.ref f) us) (EP X pins σ Q) X.xe s := by
  have hl : (us ++ []).length = ps.length := by rw [List.append_nil, ← r.length]; exact F.len _ _ _ _ h
  have e := I.env0
  have bt := hb s us I.kIn hl
  rw [List.append_nil] at bt
  refine wpAny_call (codeAny_mono (F.run A1 X.stack s H ⟨us, []⟩ us vs Q E hr ⟨hf, e.mod, e.bs, e.bsz, e.funs, e.frf, e.hok, e.bare⟩ bt r h) fun r s' hq => ?_)
  match r, hq with
  | .error e, hq => exact hx pins σ H s e s' I hq
  | .ok (.ret u), hq => exact I.after hq
theorem stack_of (I : Inv X pins σ H s) : X.A.frames = some X.stack := I.env0.frames
theorem inst_of (I : Inv X pins σ H s) (h : H a = some (.ins C dx fs)) : ∃ ox od, PySem.W.InstAt s.heap a ox C (some od) := by
  obtain ⟨mA, J, _⟩ := ins_get I.hok h
  obtain ⟨od, J, _⟩ := J.look
  exact ⟨_, od, J⟩
/-- o[k] by the class's own def -/
def rGetI (C : Addr) (sp : Sp) (E : XK) : R2 := fun x y H Q => ∃ a dx fs, x = .ref a ∧ H a = some (.ins C dx fs) ∧ sp [x, y] H Q E
theorem pe_getI {ea eb : Expr} {ta tb : TE} {pos : Pos} (m : Meth X.K C "__getitem__" f) (hfi : PySem.W.fnIn X.K f = true) (F : FnOk X.prog X.w X.K X.mg X.base CX k f fd ps sp) (hr : Room (k + 1) X.A) (hb : Binds X.K fd ps []) (hx : Passes CX X E)
    (ha : PE X ea ta) (hbe : PE X eb tb) (hsl : ∀ (x : Addr) (i : Value), subscripted eb true (.ref x) i = runValue (.builtin "lifetime.subscript" ⟨[.ref x, i], []⟩) := by intro _ _; with_unfolding_all rfl) : PE X (.Subscript ea eb pos) (tOp (rGetI C sp E) ta tb) := by
  refine ⟨fun pins s σ H Q I h => ?_⟩
  refine Subscript_ (binT ha hbe I h fun v u s2 x y H2 I2 rx ry q => ?_)
  obtain ⟨a, dx, fs, rfl, ho, q⟩ := q
  cases rx
  obtain ⟨ox, od, J⟩ := inst_of I2 ho
  obtain ⟨mf, hF⟩ := I2.fr
  exact PySem.W.sub_K hF I2.ok.mod.kin J m.at_ hfi m.fn (run_sub (A1 := X.A.in1) (us := [.ref a, u]) (vs := [.ref a, y]) (stack_of I2) F hr.in1 hb hx I2 (.cons rfl (.cons ry .nil)) q) (hsl a u)
/-- x in o, x not in o -/
def rInI (C : Addr) (sp : Sp) (E : XK) (neg : Bool) : R2 := fun x y H Q => ∃ a dx fs, y = .ref a ∧ H a = some (.ins C dx fs) ∧ sp [y, x] H (fun v H' => ∃ b : Bool, v = .bl b ∧ Q (.bl (if neg then !b else b)) H') E
theorem truth_bl {A : Around} {E' : Value → Shared → Prop} {b : Bool} {s : Shared} {Qb : Bool → Shared → Prop} (h : Qb b s) : wpAny (model X.prog X.w) A (truthy (.bool b)) Qb E' s := by
  unfold truthy
  exact wpAny_pure h
theorem op_inI (m : Meth X.K C "__contains__" f) (F : FnOk X.prog X.w X.K X.mg X.base CX k f fd ps sp) (hr : Room k X.A) (hb : Binds X.K fd ps []) (hx : Passes CX X E) : OpR X (compareOp .In) (rInI C sp E false) := by
  intro pins s σ H x y v u Q I rx ry h
  obtain ⟨a, dx, fs, rfl, ho, q⟩ := h
  cases ry
  obtain ⟨ox, od, J⟩ := inst_of I ho
  obtain ⟨mf, hF⟩ := I.fr
  refine PySem.W.in_K hF I.ok.mod.kin J m.at_ m.fn (thn (run_sub (us := [.ref a, v]) (vs := [.ref a, x]) (stack_of I) F hr hb hx I (.cons rfl (.cons rx .nil)) q) fun r s' z => ?_)
  obtain ⟨z1, H1, I1, r1, b, rfl, q1⟩ := z
  cases r1
  exact truth_bl ⟨.bl b, H1, I1, rfl, q1⟩
theorem op_ninI (m : Meth X.K C "__contains__" f) (F : FnOk X.prog X.w X.K X.mg X.base CX k f fd ps sp) (hr : Room k X.A) (hb : Binds X.K fd ps []) (hx : Passes CX X E) : OpR X (compareOp .NotIn) (rInI C sp E true) := by
  intro pins s σ H x y v u Q I rx ry h
  obtain ⟨a, dx, fs, rfl, ho, q⟩ := h
  cases ry
  obtain ⟨ox, od, J⟩ := inst_of I ho
  obtain ⟨mf, hF⟩ := I.fr
  refine PySem.W.notIn_K hF I.ok.mod.kin J m.at_ m.fn (thn (run_sub (us := [.ref a, v]) (vs := [.ref a, x]) (stack_of I) F hr hb hx I (.cons rfl (.cons rx .nil)) q) fun r s' z => ?_)
  obtain ⟨z1, H1, I1, r1, b, rfl, q1⟩ := z
  cases r1
  exact truth_bl ⟨.bl (!b), H1, I1, rfl, q1⟩
/-- len(o) -/
def rLenI (C : Addr) (sp : Sp) (E : XK) : List V → Hp → VK → Prop := fun xs H Q => ∃ a dx fs, xs = [.ref a] ∧ H a = some (.ins C dx fs) ∧ sp [.ref a] H (fun v H' => ∃ n : Int, v = .int n ∧ 0 ≤ n ∧ n < 2 ^ 63 ∧ Q (.int n) H') E
theorem call_lenI (m : Meth X.K C "__len__" f) (F : FnOk X.prog X.w X.K X.mg X.base CX k f fd ps sp) (hr : Room (k + 1) X.A) (hb : Binds X.K fd ps []) (hx : Passes CX X E) : CallR X (.builtin "len") (rLenI C sp E) := by
  intro pins s σ H xs us Q I r h
  obtain ⟨a, dx, fs, rfl, ho, q⟩ := h
  obtain ⟨u, rfl, ru⟩ := vals1 r
  cases ru
  obtain ⟨ox, od, J⟩ := inst_of I ho
  obtain ⟨mf, hF⟩ := I.fr
  refine PySem.W.len_K hF I.ok.mod.kin J m.at_ m.fn (thn (run_sub (A1 := X.A.in1) (us := [.ref a]) (vs := [.ref a]) (stack_of I) F hr.in1 hb hx I (.cons rfl .nil) q) fun r s' z => ?_)
  obtain ⟨z1, H1, I1, r1, n, rfl, h0, h1, q1⟩ := z
  obtain ⟨t, rfl⟩ := r1
  exact ⟨⟨h0, h1⟩, .int n, H1, I1.tok _, ⟨_, rfl⟩, q1⟩
/-- str(o) -/
def rStrI (C : Addr) (sp : Sp) (E : XK) : List V → Hp → VK → Prop := fun xs H Q => ∃ a dx fs, xs = [.ref a] ∧ H a = some (.ins C dx fs) ∧ sp [.ref a] H (fun v H' => ∃ z : Str, v = .str z ∧ Q (.str z) H') E
theorem call_strI (m : Meth X.K C "__str__" f) (F : FnOk X.prog X.w X.K X.mg X.base CX k f fd ps sp) (hr : Room (k + 2) X.A) (hb : Binds X.K fd ps []) (hx : Passes CX X E) : CallR X (.type "str") (rStrI C sp E) := by
  intro pins s σ H xs us Q I r h
  obtain ⟨a, dx, fs, rfl, ho, q⟩ := h
  obtain ⟨u, rfl, ru⟩ := vals1 r
  cases ru
  obtain ⟨ox, od, J⟩ := inst_of I ho
  have hr2 : Room k X.A.in1.in1 := hr.in1.in1
  refine PySem.W.kso_call hr2.units0 I.kIn J m.at_ m.fn (thn (run_sub (A1 := X.A.in1.in1) (us := [.ref a]) (vs := [.ref a]) (stack_of I) F hr2 hb hx I (.cons rfl .nil) q) fun r s' z => ?_)
  obtain ⟨z1, H1, I1, r1, y, rfl, q1⟩ := z
  obtain ⟨t, rfl⟩ := r1
  exact ⟨.str y, H1, I1, ⟨_, rfl⟩, q1⟩
end
/-! ### a staticmethod through its class -/
structure SMet (K : PySem.W.Frag) (C : Addr) (mc : Value) (m : Str) (p g : Addr) : Prop where
  at_ : PySem.W.findCls K (.ref C) mc m = some (.get (.builtin "staticmethod.__get__") (.ref p) .none (.ref C))
  rc : ∃ rest, PySem.W.recIn K p "staticmethod" = some (.ref g :: rest)
  kp : PySem.W.keepIn K (.ref g) = true
def tSMeth (C : Addr) (sp : Sp) (E : XK) (ta : TE) (t : TA) : TE := fun σ H Q => ta σ H fun x H1 => x = .ref C ∧ t σ H1 fun vs H2 => sp vs H2 Q E
section
variable {X : Cx} {CX : CXT} {k : Nat} {C p g : Addr} {mc : Value} {fd : FuncData} {ps : List Str} {sp : Sp} {E : XK} {o e : Expr} {es : List Expr} {m : Str} {pos apos : Pos} {ta : TE} {t : TA} {pl : Sem Bool}
theorem getsm_ok {pins : List (Addr × Obj)} {σ : St} {H : Hp} {s : Shared} {A : Around} {E' : Value → Shared → Prop} {Q : Value × List Value → Shared → Prop} (I : Inv X pins σ H s) (r : ClX.CRead X.K C mc) (c : SMet X.K C mc m p g)
    (h : ∀ s', Inv X pins σ H s' → Q (.ref g, []) s') : wpAny (model X.prog X.w) A (getMethod (.ref C) m pl) Q E' s := by
  obtain ⟨rest, hp⟩ := c.rc
  refine PySem.W.method_cls I.kIn r.ga (PySem.W.cls_bind I.kIn r.rd c.at_ (wpAny_call ?_))
  exact PySem.W.sm_get (s := { s with toks := s.toks + 1 }) I.kIn hp (PySem.W.handed_on rfl (h _ (I.tok _)))
theorem pe_smeth (he : PE X o ta) (r : ClX.CRead X.K C mc) (c : SMet X.K C mc m p g) (F : FnOk X.prog X.w X.K X.mg X.base CX k g fd ps sp) (hr : Room k X.A) (hb : Binds X.K fd ps []) (hx : Passes CX X E) (ha : PA X (e :: es) t)
    (hst : starEach (e :: es) X.env = (false, eval e X.env) :: starEach es X.env := by rfl) (hpl : (backTo pos (starEach es X.env)).any (·.1) = false := by rfl)
    (ht : eval (.Call (.Attribute o m apos) (e :: es) [] pos) X.env = (do
      let ov ← eval o X.env
      standAt apos.atName
      let (f, first) ← holding [ov] (getMethod ov m pl)
      callWith pos f first (backTo pos (starEach (e :: es) X.env)) (backToKw pos (keywordEach [] X.env))) := by rfl) :
    PE X (.Call (.Attribute o m apos) (e :: es) [] pos) (tSMeth C sp E ta t) := by
  refine ⟨fun pins s σ H Q I h => PySem.W.methodCall_KW (pl := pl) (thn (he.run pins s σ H _ I h) fun u s1 ⟨x, H1, I1, rx, ex, q⟩ => ?_) ht⟩
  subst ex
  obtain rfl : u = Value.ref C := rx
  refine getsm_ok I1 r c fun s2 I2 => ?_
  refine PySem.W.callWith_K (first := []) (h₀ := X.base) I.ok.mod.kin c.kp (thn (ha.run pos pins s2 σ H1 _ I2 q) fun us s3 ⟨vs, H2, I3, rv, q2⟩ => ⟨I3.kIn, ?_⟩) hst hpl
  exact run_sub (us := us) (vs := vs) (stack_of I3) F hr hb hx I3 rv q2
/-- the same in a try's body: the way out sees the slots -/
def tSMethW (C : Addr) (sp : Sp) (E : St → XK) (ta : TE) (t : TA) : TE := fun σ H Q => tSMeth C sp (E σ) ta t σ H Q
theorem pe_smethW {E : St → XK} (he : PE X o ta) (r : ClX.CRead X.K C mc) (c : SMet X.K C mc m p g) (F : FnOk X.prog X.w X.K X.mg X.base CX k g fd ps sp) (hr : Room k X.A) (hb : Binds X.K fd ps []) (hx : ∀ σ, PassesAt CX X σ (E σ)) (ha : PA X (e :: es) t)
    (hst : starEach (e :: es) X.env = (false, eval e X.env) :: starEach es X.env := by rfl) (hpl : (backTo pos (starEach es X.env)).any (·.1) = false := by rfl)
    (ht : eval (.Call (.Attribute o m apos) (e :: es) [] pos) X.env = (do
      let ov ← eval o X.env
      standAt apos.atName
      let (f, first) ← holding [ov] (getMethod ov m pl)
      callWith pos f first (backTo pos (starEach (e :: es) X.env)) (backToKw pos (keywordEach [] X.env))) := by rfl) :
    PE X (.Call (.Attribute o m apos) (e :: es) [] pos) (tSMethW C sp E ta t) := by
  refine ⟨fun pins s σ H Q I h => PySem.W.methodCall_KW (pl := pl) (thn (he.run pins s σ H _ I h) fun u s1 ⟨x, H1, I1, rx, ex, q⟩ => ?_) ht⟩
  subst ex
  obtain rfl : u = Value.ref C := rx
  refine getsm_ok I1 r c fun s2 I2 => ?_
  refine PySem.W.callWith_K (first := []) (h₀ := X.base) I.ok.mod.kin c.kp (thn (ha.run pos pins s2 σ H1 _ I2 q) fun us s3 ⟨vs, H2, I3, rv, q2⟩ => ⟨I3.kIn, ?_⟩) hst hpl
  exact run_fnSD (us := us) (vs := vs) F hr hb .nil (hx σ) I3 rv (by rw [List.append_nil]; exact q2)
end
end L2

namespace L2
open PySem PySem.Spec PyProof.Rows
/-! ### for x in o, o's __iter__ gives iter(o.f), f a list -/
section
variable {P : Program} {w : World} {K : PySem.W.Frag} {mg : Str → Option Value} {base : Heap} {x qual : Str} {st : Stmt} {f : Addr} {fd : FuncData} {N ps : List Str} {k : Nat}
/-- one call of a def, told from its state -/
theorem fn_here {A : Around} {outer : List Env} {s : Shared} {H : Hp} {us : List Value} {vs : List V} {Q : VK} {E : XK} (F : Fun K x qual st f fd) (S : FnScope N ps (defScope st)) (hb : Binds K fd ps []) (hr : Room (k + 1) A) (e0 : Env0 P w K mg base A outer s H)
    (r : Vals vs us) (hl : vs.length = ps.length)
    (body : ∀ cdv, Room k (A.deeper (envOfC qual (defScope st) s.heap.objs.size f cdv)) → ∃ t, PSs (cxOf CX0 P w K mg base N qual (defScope st) f cdv A outer s H E).nox (defBody st) t ∧ t { nx := fun _ H' => Q .non H', rt := Q } (start N vs) H) :
    codeAny (model P w) A (.call (.ref f) ⟨us, []⟩) (CR CX0 outer P w H s Q E) s := by
  obtain ⟨oc, od, kV, doc, pm, an, cdv, ct, osl, rfl, lk, hcd⟩ := F.ex
  have KX : K.In s.heap := PySem.W.Frag.In.keeps e0.mod.kin (fun b o q => (e0.bs b o q).1)
  have NL : s.heap.NoLimit := Heap.NoLimit.keeps e0.mod.nolimit (fun b o q => (e0.bs b o q).1)
  have lu : (us ++ []).length = ps.length := by rw [List.append_nil, ← r.length, hl]
  have bt := hb s us KX lu
  rw [List.append_nil] at bt
  obtain ⟨t, ht, hq⟩ := body cdv (hr.deeper _)
  refine codeAny_call_function hr.depth (KX _ _ lk) rfl S.co S.gen rfl (PySem.W.codeRec_of KX hcd) (bt _ _ _ _ (wpAny_newFunctionEnv_cells S.kind ?_ ?_))
  · intro y hy
    have m := (List.of_mem_zip (a := y.1) (b := y.2) hy).1
    exact (S.par y.1 m).elim .inl fun z => .inr ⟨z, PySem.W.cellsFrom_some _ _ _ (.inl z)⟩
  · intro env he s1 ic
    subst he
    have I : Inv (cxOf CX0 P w K mg base N qual (defScope st) f cdv A outer s H E) [] (start N vs) H s1 := inv_start S hr.hd e0 hl r ic
    refine ⟨NL.keeps ic.toInCall.keep, codeAny_func (wpAny_mono (ht.nox.run [] s1 (start N vs) H _ I hq) (fun fl s' z => ?_) fun _ _ z => z)⟩
    match fl, z with
    | .ret u, ⟨v, _, H', J, rv, q⟩ => exact ⟨v, H', J.os, J.bare, J.base, J.hok, rv, q⟩
    | .next, ⟨_, H', J, q⟩ => exact ⟨V.non, H', J.os, J.bare, J.base, J.hok, rfl, q⟩
    | .brk, ⟨_, _, _, q⟩ => exact q.elim
    | .cont, ⟨_, _, _, q⟩ => exact q.elim
/-- what such an __iter__ promises: a new iterator of the list, younger than the call -/
def IterOk (P : Program) (w : World) (K : PySem.W.Frag) (mg : Str → Option Value) (base : Heap) (k : Nat) (g C : Addr) (fl : Str) : Prop :=
  ∀ (A : Around) (outer : List Env) (s : Shared) (H : Hp) (a dx l : Addr) (fs : List (Str × V)) (xs : List V) (Q : VK) (E : XK), Room k A → Env0 P w K mg base A outer s H → H a = some (.ins C dx fs) → fs.lookup fl = some (.ref l) → SqL K H l xs →
    (∀ it, H it = none → s.heap.objs.size ≤ it → Q (.ref it) (upd H it (ItO l it 0))) → codeAny (model P w) A (.call (.ref g) ⟨[.ref a], []⟩) (CR CX0 outer P w H s Q E) s
end
def iOwn (K : PySem.W.Frag) (C : Addr) (f : Str) (tl : TE) : TI := fun σ H R => tl σ H fun x H1 => ∃ (a dx l : Addr) (fs : List (Str × V)) (xs : List V), x = .ref a ∧ H1 a = some (.ins C dx fs) ∧ fs.lookup f = some (.ref l) ∧ SqL K H1 l xs ∧ R (Itl K l) H1
section
variable {X : Cx} {tg o : Expr} {tl : TE} {k : Nat} {g C : Addr} {fl : Str}
theorem pi_own (m : Meth X.K C "__iter__" g) (F : IterOk X.prog X.w X.K X.mg X.base k g C fl) (hr : Room k X.A) (ho : PE X o tl) : PI X tg o (iOwn X.K C fl tl) := by
  refine ⟨fun pins s σ H R I h => thn (ho.run pins s σ H _ I h) fun v s1 ⟨x, H1, I1, r1, a, dx, l, fs, xs, ex, ha, hf, hq, q⟩ => ?_⟩
  subst ex
  cases r1
  obtain ⟨ox, od, J⟩ := inst_of I1 ha
  obtain ⟨mf, hF⟩ := I1.fr
  refine PySem.W.owit_iter hF I1.ok.mod.kin J m.at_ m.fn (wpAny_call (codeAny_mono (F X.A X.stack s1 H1 a dx l fs xs (fun v H2 => ∃ it, v = .ref it ∧ H1 it = none ∧ s1.heap.objs.size ≤ it ∧ H2 = upd H1 it (ItO l it 0)) E0 hr I1.env0 ha hf hq fun it n1 n2 => ⟨it, rfl, n1, n2, rfl⟩) fun r s' z => ?_))
  match r, z with
  | .error _, z => exact z.elim
  | .ok (.ret u), z =>
    obtain ⟨v2, H2, I2, r2, it, rfl, n1, n2, rfl⟩ := I1.after z
    cases r2
    have eo := itO_get I2 upd_same
    have hT : s'.TypeIs (.ref it) "list_iterator" := ⟨_, eo, rfl⟩
    have I3 := ItX.inv_drop I2 (a := it) (by rw [upd_same]; rfl)
    rw [ItX.dropH_upd n1] at I3
    refine wpAny_specialOf (name := Str.ofString "__next__") hT slot_listiter_next.lookup ?_
    refine ⟨it, [it], _, _, H1, rfl, I3, turn_list l it, ⟨_, eo, rfl, rfl⟩, fun b hb => ?_, q⟩
    obtain rfl : b = it := by simpa using hb
    exact I1.fpOk n2 n1
end
end L2

namespace L2
open PySem PySem.Spec PyProof.Rows
/-! ### defs with *rest, instances made by C(), C(*a), C(*a, *b) -/
/-- what a def with ps and *pv binds -/
def StarB (fd : FuncData) (ps : List Str) (pv : Str) : Prop := ∀ us rest : List Value, us.length = ps.length → bindArgs fd ⟨us ++ rest, []⟩ = (newTuple rest >>= fun t => pure (ps.zip us ++ [(pv, t)]))
/-- its promise: from that of its body, the rest as a new tuple -/
def spStar (n : Nat) (sp : Sp) : Sp := fun vs H Q E => ∃ ws rest, vs = ws ++ rest ∧ ws.length = n ∧ rest.length ≤ sizeLine ∧ ∀ p, H p = none → sp (ws ++ [V.ref p]) (upd H p (.tup rest)) Q E
section
variable {P : Program} {w : World} {K : PySem.W.Frag} {mg : Str → Option Value} {base : Heap} {x qual : Str} {st : Stmt} {f : Addr} {fd : FuncData} {N ps : List Str} {pv : Str} {k : Nat} {sp : Sp}
theorem Fun.starX (F : Fun K x qual st f fd) (S : FnScope N (ps ++ [pv]) (defScope st)) (hb : StarB fd ps pv)
    (body : ∀ (cdv : Value) (A : Around) (outer : List Env) (s : Shared) (H : Hp) (vs : List V) (Q : VK) (E : XK), Room k (A.deeper (envOfC qual (defScope st) s.heap.objs.size f cdv)) → sp vs H Q E →
      ∃ t, PSs (cxOf (L2.CX P w) P w K mg base N qual (defScope st) f cdv A outer s H E) (defBody st) t ∧ t { nx := fun _ H' => Q .non H', rt := Q } (start N vs) H) : FnR P w K mg base (L2.CX P w) (k + 1) f (spStar ps.length sp) := by
  obtain ⟨oc, od, kV, doc, pm, an, cdv, ct, osl, rfl, lk, hcd⟩ := F.ex
  exact StX.fn_star lk hcd S StX.cxUp hb fun A outer s H vs Q E hr h => body cdv A outer s H vs Q E hr h
theorem FnR.calm (F : FnR P w K mg base (L2.CX P w) k f sp) : FnR P w K mg base CX0 k f (fun vs H Q _ => sp vs H Q fun _ _ _ => False) := fun A outer s H us vs Q _ hr e0 r h =>
  codeAny_mono (F A outer s H us vs Q _ hr e0 r h) fun r s' hq => by
    match r, hq with
    | .error _, ⟨_, _, _, _, _, _, _, _, _, _, _, _, z⟩ => exact z.elim
    | .ok (.ret _), hq => exact hq
end
/-- two starred arguments -/
theorem evalArgs_two {M : Model} {A : Around} {E : Value → Shared → Prop} {s : Shared} {f : Value} {a b : Bool × Sem Value} {rest : List (Bool × Sem Value)} {Q : Args → Shared → Prop} (h : wpAny M A (spliced (a :: b :: rest)) (fun vs s' => Q ⟨vs, []⟩ s') E s) : wpAny M A (evalArgs f true (a :: b :: rest) []) Q E s := by
  obtain ⟨a1, a2⟩ := a
  unfold evalArgs
  cases a1
  · show wpAny M A (spliced ((false, a2) :: b :: rest) >>= _) Q E s
    exact wpAny_bind (wpAny_mono h (fun vs s' q => wpAny_holding (wpAny_bind (wpAny_pure (wpAny_bind (wpAny_pure (wpAny_pure q)))))) fun _ _ z => z)
  · show wpAny M A (spliced ((true, a2) :: b :: rest) >>= _) Q E s
    exact wpAny_bind (wpAny_mono h (fun vs s' q => wpAny_holding (wpAny_bind (wpAny_pure (wpAny_bind (wpAny_pure (wpAny_pure q)))))) fun _ _ z => z)
section
variable {X : Cx} {CX : CXT} {k : Nat} {f C : Addr} {sp : Sp} {E : XK} {x : Str} {e e1 e2 : Expr} {es : List Expr} {te : TE} {t : TA} {p q1 q2 pos : Pos}
theorem pe_makeR0 (M : Mk X.K C f) (F : FnR X.prog X.w X.K X.mg X.base CX k f sp) (hr : Room (k + 1) X.A) (hg : Gl X x) (hm : X.mg x = some (.ref C)) (hx : Passes CX X E) (hdb : (x == ("__debug__" : Str)) = false := by decide) :
    PE X (.Call (.Name x p) [] [] pos) (StX.tMakeR C sp E tNil) := by
  refine ⟨fun pins s σ H Q I h => wpAny_Call_Name_kw (ld_glob I hg hm ?_ hdb)⟩
  exact PySem.W.callWith_K0 I.kIn M.kp (StX.run_makeR (us := []) (vs := []) M F hr hx I .nil h)
/-- C(*e): the reading -/
def tMakeS (K : PySem.W.Frag) (C : Addr) (sp : Sp) (E : XK) (te : TE) : TE := fun σ H Q => te σ H fun y H1 => ∃ a xs, y = V.ref a ∧ (SqT K H1 a xs ∨ SqL K H1 a xs) ∧ ∀ x dx, H1 x = none → H1 dx = none → dx ≠ x → sp (V.ref x :: xs) (upd (upd H1 dx (.own x)) x (.ins C dx [])) (fun v H2 => v = .non ∧ Q (.ref x) H2) E
theorem pe_makeS1 (M : Mk X.K C f) (F : FnR X.prog X.w X.K X.mg X.base CX k f sp) (hr : Room (k + 1) X.A) (hg : Gl X x) (hm : X.mg x = some (.ref C)) (hx : Passes CX X E) (he : PE X e te) (hdb : (x == ("__debug__" : Str)) = false := by decide)
    (hst : starEach [.Starred e q1] X.env = [(true, eval e X.env)] := by rfl) : PE X (.Call (.Name x p) [.Starred e q1] [] pos) (tMakeS X.K C sp E te) := by
  refine ⟨fun pins s σ H Q I h => wpAny_Call_Name_kw (ld_glob I hg hm (PySem.W.callWith_S (h₀ := X.base) I.ok.mod.kin M.kp (thn (he.run pins s σ H _ I h) fun v s1 ⟨y, H1, I1, ry, a, xs, ey, hxs, q⟩ => ?_) hst) hdb)⟩
  subst ey
  cases ry
  exact StX.star_any I1 hxs fun us s2 I2 rv => ⟨I2.kIn, StX.run_makeR (us := us) (vs := xs) M F hr hx I2 rv q⟩
/-- C(*a, *b) -/
theorem pe_makeS2 (M : Mk X.K C f) (F : FnR X.prog X.w X.K X.mg X.base CX k f sp) (hr : Room (k + 1) X.A) (hg : Gl X x) (hm : X.mg x = some (.ref C)) (hx : Passes CX X E) (ha : PA X [.Starred e1 q1, .Starred e2 q2] t) (hdb : (x == ("__debug__" : Str)) = false := by decide)
    (hst : starEach [.Starred e1 q1, .Starred e2 q2] X.env = [(true, eval e1 X.env), (true, eval e2 X.env)] := by rfl) : PE X (.Call (.Name x p) [.Starred e1 q1, .Starred e2 q2] [] pos) (StX.tMakeR C sp E t) := by
  refine ⟨fun pins s σ H Q I h => wpAny_Call_Name_kw (ld_glob I hg hm ?_ hdb)⟩
  have z := thn (ha.run pos pins s σ H _ I h) (Q' := fun us s1 => X.K.In s1.heap ∧ wpAny (model X.prog X.w) X.A (call (.ref C) ([] ++ us)) (EP X pins σ Q) X.xe s1) fun us s1 ⟨vs, H1, I1, r, q⟩ => ⟨I1.kIn, StX.run_makeR (us := us) (vs := vs) M F hr hx I1 r q⟩
  show wpAny _ _ (callWith pos (.ref C) [] (backTo pos (starEach [.Starred e1 q1, .Starred e2 q2] X.env)) []) _ _ _
  rw [hst] at z ⊢
  exact PySem.W.ks_call rfl (PySem.W.keeps_K M.kp) (evalArgs_two z)
end
/-! ### o + y by the class's own def, y an instance of the class, a list or a tuple -/
def Opd (K : PySem.W.Frag) (C : Addr) (H : Hp) (y : V) : Prop := (∃ b dy gs, y = .ref b ∧ H b = some (.ins C dy gs)) ∨ ∃ b xs, y = .ref b ∧ (SqL K H b xs ∨ SqT K H b xs)
def rOpI (K : PySem.W.Frag) (C : Addr) (sp : Sp) (E : XK) : R2 := fun x y H Q => ∃ a dx fs, x = .ref a ∧ H a = some (.ins C dx fs) ∧ Opd K C H y ∧ sp [x, y] H Q E
/-- what the top must have: the two defs, and of lists and tuples -/
structure OpF (K : PySem.W.Frag) (C : Addr) (nm : String) (g : Addr) : Prop where
  first : PySem.W.selfFirst K C = true
  at_ : PySem.W.findIn K (.ref C) (PySem.dunder nm) = some (some (.ref g))
  fn : PySem.W.isFn K (.ref g) = true
  rev : ∃ rc, PySem.W.findIn K (.ref C) (PySem.dunderR nm) = some rc ∧ (rc = none ∨ ∃ h : Addr, rc = some (.ref h))
  lst : ∃ fo ro, PySem.W.findIn K (.type "list") (PySem.dunder nm) = some fo ∧ PySem.W.findIn K (.type "list") (PySem.dunderR nm) = some ro ∧ PySem.W.subIn K (.type "list") (.ref C) = some false
  tup : ∃ fo ro, PySem.W.findIn K (.type "tuple") (PySem.dunder nm) = some fo ∧ PySem.W.findIn K (.type "tuple") (PySem.dunderR nm) = some ro ∧ PySem.W.subIn K (.type "tuple") (.ref C) = some false
section
variable {prog : Program} {w : World} {A : Around} {E : Value → Shared → Prop} {s : Shared} {K : PySem.W.Frag} {x C L f : Addr} {h₀ : Heap} {m : Str → Option Value} {ox : Obj} {od : Option Obj} {T : String}
/-- the library's row for an operand of a built-in type, told of what a look at its type gives -/
theorem binL {op : Operator} {b : Value} {fo ro rc : Option Value} {Q : Value → Shared → Prop} (F : Fr h₀ L s.heap m) (X₀ : K.In h₀) (I : PySem.W.InstAt s.heap x ox C od) (hb : PySem.W.Looks (model prog w) s.heap (typeOf b) (.type T)) (hc : PySem.W.selfFirst K C = true)
    (hs : PySem.W.findIn K (.ref C) (PySem.dunder op.info.2) = some (some (.ref f))) (hf : PySem.W.isFn K (.ref f) = true) (hr : PySem.W.findIn K (.ref C) (dunderR op.info.2) = some rc) (hp : rc = none ∨ ∃ g : Addr, rc = some (.ref g))
    (h1 : PySem.W.findIn K (.type T) (PySem.dunder op.info.2) = some fo) (h2 : PySem.W.findIn K (.type T) (dunderR op.info.2) = some ro) (hsub : PySem.W.subIn K (.type T) (.ref C) = some false)
    (h : wpAny (model prog w) A (call (.ref f) [.ref x, b]) (PySem.W.CmpBack Q) E s) : wpAny (model prog w) A (binaryOp op (.ref x) b) Q E s := by
  have X := X₀.keeps F.keep
  obtain ⟨cd, rest, hcd, hm⟩ := PySem.W.ksp_first hc
  rcases hi : op.info with ⟨sym, nm'⟩
  rw [hi] at hs hr h1 h2; dsimp only at hs hr h1 h2
  have one := PySem.W.ksp_try X I hs hf h
  obtain ⟨hh, gg, dd, tt, os⟩ := s
  have La := I.type (M := model prog w)
  have Lc := PySem.W.fills_K (M := model prog w) X hcd hm hs
  have Ld := PySem.W.ksp_fillsT (M := model prog w) X h1 h2
  have Le : PySem.W.Looks (model prog w) hh (isSubtype (.type T) (.ref C)) false := PySem.W.looks_subIn X hsub
  have Lf := PySem.W.ksp_inPy (M := model prog w) X hs hr hp
  have Lg : PySem.W.Looks (model prog w) hh (numberSlotInPython (.type T) nm') false := PySem.W.Looks.of_pure rfl
  have Lh : PySem.W.Looks (model prog w) hh (typeLookup (.type T) (dunderR nm')) ro := PySem.W.looks_findIn X h2
  revert Ld
  generalize ((fo.isSome && !isSeqSlot fo) || (ro.isSome && !isSeqSlot ro)) = right
  intro Ld
  have hne : (Value.ref C == Value.type T) = false := Bool.eq_false_iff.mpr fun q => by cases beq_iff_eq.mp q
  simp only [binaryOp, hi]
  refine wpAny_holding (wpAny_bind ?_)
  unfold binaryOp1
  refine wpAny_bind (La.at (wpAny_bind (hb.at (wpAny_bind (Lc.at ?_)))))
  simp only [hne, Bool.false_eq_true, if_false]
  cases right <;> (ksp_lk; refine wpAny_mono one (fun r s' hr' => ?_) (fun _ _ e => e); obtain ⟨v, rfl, hq⟩ := hr'; ksp_lk; exact hq)
end
section
variable {X : Cx} {CX : CXT} {n : Nat} {C g : Addr} {fd : FuncData} {ps : List Str} {sp : Sp} {E : XK}
theorem op_binO {op : Operator} (T : OpF X.K C op.info.2 g) (F : FnOk X.prog X.w X.K X.mg X.base CX n g fd ps sp) (hr : Room n X.A) (hb : Binds X.K fd ps []) (hx : Passes CX X E) : OpR X (binaryOp op) (rOpI X.K C sp E) := by
  intro pins s σ H x y v u Q I rx ry h
  obtain ⟨a, dx, fs, rfl, ho, hy, q⟩ := h
  cases rx
  obtain ⟨ox, od, J⟩ := inst_of I ho
  obtain ⟨mf, hF⟩ := I.fr
  have go := thn (run_sub (us := [.ref a, u]) (vs := [.ref a, y]) (stack_of I) F hr hb hx I (.cons rfl (.cons ry .nil)) q) (Q' := PySem.W.CmpBack (EP X pins σ Q)) fun w s' ⟨z', H', I', rz, qz⟩ => SlX.cmpback rz ⟨z', H', I', rz, qz⟩
  rcases hy with ⟨b, dy, gs, rfl, hb'⟩ | ⟨b, xs, rfl, hq⟩
  · cases ry
    obtain ⟨oy, od', J'⟩ := inst_of I hb'
    exact PySem.W.binop_K (op := op) hF I.ok.mod.kin J J'.type T.first T.at_ T.fn go
  · cases ry
    obtain ⟨rc, r1, r2⟩ := T.rev
    rcases hq with hq | hq
    · obtain ⟨fo, ro, t1, t2, t3⟩ := T.lst
      obtain ⟨its, rv, pl, hz⟩ := I.list hq
      obtain ⟨o, ho, hc, _⟩ := pl.isList
      exact binL hF I.ok.mod.kin J (fun A Q E s k z => wpAny_typeOf_ref (k _ _ ho) (by rw [hc]; exact z)) T.first T.at_ T.fn r1 r2 t1 t2 t3 go
    · obtain ⟨fo, ro, t1, t2, t3⟩ := T.tup
      obtain ⟨its, rv, ⟨o, ho, hc, _⟩, hz⟩ := I.tuple hq
      exact binL hF I.ok.mod.kin J (fun A Q E s k z => wpAny_typeOf_ref (k _ _ ho) (by rw [hc]; exact z)) T.first T.at_ T.fn r1 r2 t1 t2 t3 go
end
end L2

namespace L2
open PySem PySem.Spec PyProof.Rows
section
variable {prog : Program} {w : World} {A : Around} {E : Value → Shared → Prop} {s : Shared} {K : PySem.W.Frag} {x C L f f0 : Addr} {h₀ : Heap} {m : Str → Option Value} {ox : Obj} {od : Option Obj} {T : String}
/-- a + o, a of a built-in type that fills no number slot: o's own reflected def -/
theorem binR {op : Operator} {a : Value} {fo ro : Option Value} {Q : Value → Shared → Prop} (F : Fr h₀ L s.heap m) (X₀ : K.In h₀) (I : PySem.W.InstAt s.heap x ox C od) (ha : PySem.W.Looks (model prog w) s.heap (typeOf a) (.type T)) (hc : PySem.W.selfFirst K C = true)
    (hs : PySem.W.findIn K (.ref C) (PySem.dunder op.info.2) = some (some (.ref f0))) (hr : PySem.W.findIn K (.ref C) (dunderR op.info.2) = some (some (.ref f))) (hf : PySem.W.isFn K (.ref f) = true)
    (h1 : PySem.W.findIn K (.type T) (PySem.dunder op.info.2) = some fo) (h2 : PySem.W.findIn K (.type T) (dunderR op.info.2) = some ro) (hl : ((fo.isSome && !isSeqSlot fo) || (ro.isSome && !isSeqSlot ro)) = false)
    (h : wpAny (model prog w) A (call (.ref f) [.ref x, a]) (PySem.W.CmpBack Q) E s) : wpAny (model prog w) A (binaryOp op a (.ref x)) Q E s := by
  have X := X₀.keeps F.keep
  obtain ⟨cd, rest, hcd, hm⟩ := PySem.W.ksp_first hc
  rcases hi : op.info with ⟨sym, nm'⟩
  rw [hi] at hs hr h1 h2; dsimp only at hs hr h1 h2
  have one := PySem.W.ksp_try X I hr hf h
  obtain ⟨hh, gg, dd, tt, os⟩ := s
  have La := I.type (M := model prog w)
  have Lc := PySem.W.fills_K (M := model prog w) X hcd hm hs
  have Ld := PySem.W.ksp_fillsT (M := model prog w) X h1 h2
  rw [hl] at Ld
  have hne : (Value.type T == Value.ref C) = false := Bool.eq_false_iff.mpr fun q => by cases beq_iff_eq.mp q
  simp only [binaryOp, hi]
  refine wpAny_holding (wpAny_bind ?_)
  unfold binaryOp1
  refine wpAny_bind (ha.at (wpAny_bind (La.at (wpAny_bind (Ld.at ?_)))))
  simp only [hne, Bool.false_eq_true, if_false]
  ksp_lk
  refine wpAny_mono one (fun r s' hr' => ?_) (fun _ _ e => e)
  obtain ⟨v, rfl, hq⟩ := hr'
  ksp_lk
  exact hq
end
/-- what list and tuple look like to + -/
structure SeqAdd (K : PySem.W.Frag) : Prop where
  la : PySem.W.findIn K (.type "list") "__add__" = some (some (.builtin "list.__add__"))
  lr : PySem.W.findIn K (.type "list") "__radd__" = some none
  ta : PySem.W.findIn K (.type "tuple") "__add__" = some (some (.builtin "tuple.__add__"))
  tr : PySem.W.findIn K (.type "tuple") "__radd__" = some none
def rOpR (K : PySem.W.Frag) (C : Addr) (sp : Sp) (E : XK) : R2 := fun x y H Q => ∃ b dy gs p xs, y = .ref b ∧ H b = some (.ins C dy gs) ∧ x = .ref p ∧ (SqL K H p xs ∨ SqT K H p xs) ∧ sp [y, x] H Q E
def ipOwn (C : Addr) (sp : Sp) (E : XK) : TIp := fun x y H Q => ∃ a dx fs, x = .ref a ∧ H a = some (.ins C dx fs) ∧ sp [x, y] H Q E
section
variable {X : Cx} {CX : CXT} {n : Nat} {C g g0 : Addr} {fd : FuncData} {ps : List Str} {sp : Sp} {E : XK}
theorem op_radd (S : SeqAdd X.K) (hc : PySem.W.selfFirst X.K C = true) (m0 : Meth X.K C "__add__" g0) (m : Meth X.K C "__radd__" g) (F : FnOk X.prog X.w X.K X.mg X.base CX n g fd ps sp) (hr : Room n X.A) (hb : Binds X.K fd ps []) (hx : Passes CX X E) : OpR X (binaryOp .Add) (rOpR X.K C sp E) := by
  intro pins s σ H x y v u Q I rx ry h
  obtain ⟨b, dy, gs, p, xs, rfl, ho, rfl, hq, q⟩ := h
  cases ry
  cases rx
  obtain ⟨ox, od, J⟩ := inst_of I ho
  obtain ⟨mf, hF⟩ := I.fr
  have go := thn (run_sub (us := [.ref b, .ref p]) (vs := [.ref b, .ref p]) (stack_of I) F hr hb hx I (.cons rfl (.cons rfl .nil)) q) (Q' := PySem.W.CmpBack (EP X pins σ Q)) fun w s' ⟨z', H', I', rz, qz⟩ => SlX.cmpback rz ⟨z', H', I', rz, qz⟩
  rcases hq with hq | hq
  · obtain ⟨its, rv, pl, hz⟩ := I.list hq
    obtain ⟨o, ho, hc', _⟩ := pl.isList
    exact binR (op := .Add) hF I.ok.mod.kin J (fun A Q E s k z => wpAny_typeOf_ref (k _ _ ho) (by rw [hc']; exact z)) hc m0.at_ m.at_ m.fn S.la S.lr (by decide +kernel) go
  · obtain ⟨its, rv, ⟨o, ho, hc', _⟩, hz⟩ := I.tuple hq
    exact binR (op := .Add) hF I.ok.mod.kin J (fun A Q E s k z => wpAny_typeOf_ref (k _ _ ho) (by rw [hc']; exact z)) hc m0.at_ m.at_ m.fn S.ta S.tr (by decide +kernel) go
theorem ip_own (hc : PySem.W.selfFirst X.K C = true) (m : Meth X.K C "__iadd__" g) (F : FnOk X.prog X.w X.K X.mg X.base CX n g fd ps sp) (hr : Room n X.A) (hb : Binds X.K fd ps []) (hx : Passes CX X E) : PIp X .Add (ipOwn C sp E) := by
  intro pins s σ H x y v u Q I rx ry h
  obtain ⟨a, dx, fs, rfl, ho, q⟩ := h
  cases rx
  obtain ⟨ox, od, J⟩ := inst_of I ho
  obtain ⟨mf, hF⟩ := I.fr
  have go := thn (run_sub (us := [.ref a, u]) (vs := [.ref a, y]) (stack_of I) F hr hb hx I (.cons rfl (.cons ry .nil)) q) (Q' := PySem.W.CmpBack (EP X pins σ Q)) fun w s' ⟨z', H', I', rz, qz⟩ => SlX.cmpback rz ⟨z', H', I', rz, qz⟩
  exact PySem.W.ksp_inplace (op := .Add) hF I.ok.mod.kin J hc m.at_ m.fn go
end
end L2

namespace PySem
namespace HandSPX
open PySem PySem.Spec
/-- it leaves the def, its flight whatever it is -/
theorem leaves_anyZ {M : Model} {A : Around} {E : Value → Shared → Prop} {s : Shared} {Z : Obj → Prop} {base : Heap} {env : Env} {outer : List Env} {L e : Addr} {fl : Value} {Q : Unit → Shared → Prop} (hZ : Steady Z)
    (hfr : A.frames = some (env :: outer)) (hf : env.frame = some L) (hkb : base.StaysIn s.heap) (hen : base.get? e = none) (hl : s.heap.FunFrames base (env :: outer)) (ht : TracedZ s.heap base e Z fl)
    (hQ : ∀ h', FlyingZ base outer e Z h' → s.heap.UpToSlots h' → Q () { s with heap := h' }) : wpAny M A (leaving env (.ref e)) Q E s := by
  by_cases hfl : fl = rawInt L
  · subst hfl
    exact leaves_heldZ hf ⟨hkb, hen, hl, ht⟩ hQ
  obtain ⟨oe, vs, T, oT, ts, he, hz, hd, h1, hnT, hTe, hT, hdT, h3⟩ := ht
  unfold leaving noteFrame
  simp only [hf]
  refine wpAny_bind (wpAny_bind (wpAny_field he hd h1 ?_))
  rw [if_pos (show (Value.ref T != Value.none) = true from by simp)]
  refine wpAny_bind (wpAny_field hT hdT h3 ?_)
  rw [if_neg (show ¬ ((fl == rawInt L) = true) from by simp [hfl])]
  refine wpAny_bind (wpAny_setField hT hdT (Array.getElem?_eq_some_iff.mp h3).1 ?_)
  have other : ∀ b, b ≠ T → (s.heap.update T (Obj.mapFields (·.setIfInBounds 3 Value.none))).get? b = s.heap.get? b := fun b hb => Heap.get?_update_other _ _ (Ne.symm hb)
  have noRecord : ∀ b o, s.heap.get? b = some o → (∀ vs, o.data ≠ .fields vs) → b ≠ T := fun b o hb hnf q => by
    rw [q, hT] at hb; injection hb with hb; subst hb; exact hnf ts hdT
  refine wpAny_newEntryZ hZ hfr (hl.of_keeps fun b o hb hnf => ⟨o, (other b (noRecord b o hb hnf)).trans hb, rfl⟩) hf ((other e (Ne.symm hTe)).trans he)
    (fun b o hbo => (other b fun q => by rw [q, hnT] at hbo; cases hbo).trans (hkb b o hbo)) hen hd (Array.getElem?_eq_some_iff.mp h1).1 hz fun h' hL => ?_
  obtain ⟨x1, ⟨_, _, x2⟩, x3, x4⟩ := hL
  exact hQ h' ⟨x1, hen, x2, x3⟩ fun b o hb hnf => x4 b o ((other b (noRecord b o hb hnf)).trans hb) hnf
end HandSPX
end PySem
namespace L2
open PySem PySem.Spec PyProof.Rows
theorem noteFrame_as {e1 e2 : Env} (h : e1.frame = e2.frame) (x : Value) : noteFrame x e1 = noteFrame x e2 := by
  unfold noteFrame PySem.frameOf
  rw [h]
section
variable {X : Cx} {pins : List (Addr × Obj)} {σ : St} {H : Hp} {sI s s' : Shared} {B : Heap} {E : XK}
theorem leaveAny (hs : X.stack = X.env :: X.outer) (hf : X.env.frame = some X.env.locals) (hex : X.ex = []) {E₁ : Value → Shared → Prop} {a : Addr} {cls : Value} {d : Option Addr} {fl : Value}
    (I : Inv X pins σ H sI) (nb : ∀ b o, sI.heap.get? b = some o → b ∉ frs X.stack → B.get? b = some o) (up : sI.heap.UpToSlots s'.heap) (hB : B.StaysIn s'.heap) (hn : B.get? a = none) (hl : s'.heap.FunFrames B X.stack) (ht : HandSPX.TracedZ s'.heap B a (Zc cls d) fl)
    (na : H a = none) (os : s'.os = sI.os) (ag : AllBare s'.gens) (hE : E cls d H) :
    wpAny (model X.prog X.w) X.A (leaving X.env (.ref a)) (fun _ s'' => CX X.prog X.w X.outer X.H_0 X.s_0 E (.ref a) s'') E₁ s' := by
  have hfr : X.A.frames = some (X.env :: X.outer) := by rw [I.ok.frames, hs]
  have nst : ∀ b o, X.s_0.heap.get? b = some o → b ∉ X.fs → b ∉ frs X.stack := fun b o e hb hm => by
    rcases List.mem_cons.mp (I.stkSub b hm) with z | z
    · have h1 := Heap.lt_size e
      have h2 := I.ok.above
      rw [z] at h1
      exact absurd (Nat.lt_of_lt_of_le h1 h2) (Nat.lt_irrefl _)
    · exact hb z
  have hex' : ∀ b, b ∉ X.ex := fun b hb => by rw [hex] at hb; cases hb
  have hokB := I.inGround nb
  rw [hs] at hl
  refine HandSPX.leaves_anyZ Zc.steady hfr hf hB hn hl ht fun h' fl up' => ?_
  refine ⟨a, B, H, cls, d, rfl, fl, hokB, ⟨fun b o e n hb => nb b o (I.base.keep b o e n hb (hex' b)) (nst b o e hb), fun b o e hb => ?_, fun b o e n => I.base.free b o e n (hex' b), fun b o e hb => ?_, I.base.tups, I.base.frzs, I.base.tbls⟩,
    na, os.trans I.os, ag, hE⟩
  · obtain ⟨_, o₀, e₀, hnf⟩ := I.ok.funs.mem hb
    rw [e] at e₀; cases e₀
    obtain ⟨sl, e1⟩ := I.base.slot b o e (I.ok.frf b hb) hb (hex' b)
    obtain ⟨sl2, e2⟩ := up b _ e1 hnf
    obtain ⟨sl3, e3⟩ := up' b _ e2 hnf
    exact ⟨sl3, e3⟩
  · obtain ⟨o', e1⟩ := I.base.there b o e (hex' b)
    exact ⟨o', nb b o' e1 (nst b o e hb)⟩
/-- a call's exception, its parts -/
theorem of_callF (I : Inv X pins σ H s) {u : Value} (c : CX X.prog X.w X.stack H s E u s') : ∃ (a : Addr) (B : Heap) (sI : Shared) (H' : Hp) (cls : Value) (d : Option Addr), u = .ref a ∧ Inv X pins σ H' sI ∧ (∀ b o, sI.heap.get? b = some o → b ∉ frs X.stack → B.get? b = some o) ∧ sI.heap.UpToSlots s'.heap ∧
    HandSPX.FlyingZ B X.stack a (Zc cls d) s'.heap ∧ H' a = none ∧ s'.os = sI.os ∧ AllBare s'.gens ∧ E cls d H' := by
  obtain ⟨a, B, H', cls, d, rfl, fl, hok, ub, na, os, ag, hE⟩ := c
  obtain ⟨G, g1, g2⟩ := restrict s'.heap fun b => (B.get? b).isSome || decide (b ∈ frs X.stack)
  have st : B.StaysIn s'.heap := fl.1
  have gB : ∀ b o, B.get? b = some o → G.get? b = some o := fun b o e => by
    rw [g1 b (by simp [e])]
    exact st b o e
  have gF : ∀ b, b ∈ frs X.stack → G.get? b = s'.heap.get? b := fun b hb => g1 b (by simp [hb])
  have og : ∀ b o, G.get? b = some o → s'.heap.get? b = some o ∧ ((B.get? b).isSome = true ∨ b ∈ frs X.stack) := fun b o e => by
    cases q : ((B.get? b).isSome || decide (b ∈ frs X.stack)) with
    | false => rw [g2 b q] at e; cases e
    | true =>
      rw [g1 b q] at e
      exact ⟨e, by simpa [Bool.or_eq_true] using q⟩
  refine ⟨a, B, { s with heap := G, gens := s'.gens, drawn := s'.drawn, toks := s'.toks }, H', cls, d, rfl, ?_, fun b o e hb => ?_, Heap.UpToSlots.of_keeps fun b o e => (og b o e).1, fl, na, os, ag, hE⟩
  · refine I.call (ch := []) ⟨fun b o e n hb _ => gB b o (ub.keep b o e n hb), fun b o e n hb _ => ?_, fun b o e n _ => ub.free b o e n, fun b o e _ => ?_, ub.tups, ub.frzs, ub.tbls⟩ (hok.kept gB) ag (fun _ z => nomatch z)
    · obtain ⟨sl, q⟩ := ub.slot b o e hb
      exact ⟨sl, by rw [gF b hb]; exact q⟩
    · by_cases hb : b ∈ frs X.stack
      · obtain ⟨sl, q⟩ := ub.slot b o e hb
        exact ⟨_, by rw [gF b hb]; exact q⟩
      · obtain ⟨o', q⟩ := ub.there b o e hb
        exact ⟨o', gB b o' q⟩
  · obtain ⟨e', h⟩ := og b o e
    rcases h with h | h
    · obtain ⟨o', q⟩ := Option.isSome_iff_exists.mp h
      have z := st b o' q
      rw [e'] at z; cases z
      exact q
    · exact absurd h hb
theorem funFrames_hide {B h h' : Heap} {C : Addr} (k : ∀ b, b ≠ C → h'.get? b = h.get? b) : ∀ {l : List Env}, h.FunFrames B l → C ∉ frs l → h'.FunFrames (PySem.W.hideAll B [C]) l
  | [], _, _ => trivial
  | env :: l, hh, hC => by
    obtain ⟨hk, ⟨L, o, hf, hn, ho, hd⟩, hr⟩ := hh
    have m : L ∈ frs (env :: l) := List.mem_filterMap.mpr ⟨env, List.mem_cons_self, hf⟩
    have nL : L ≠ C := fun e => hC (e ▸ m)
    refine ⟨hk, ⟨L, o, hf, ?_, (k L nL).trans ho, hd⟩, funFrames_hide k hr fun z => hC ?_⟩
    · cases q : (PySem.W.hideAll B [C]).get? L with
      | none => rfl
      | some u => rw [PySem.W.of_hideAll _ q] at hn; cases hn
    · obtain ⟨e, he, q⟩ := List.mem_filterMap.mp z
      exact List.mem_filterMap.mpr ⟨e, List.mem_cons_of_mem _ he, q⟩
theorem Inv.reXe (I : Inv X pins σ H s) (xb : Value → Shared → Prop) : Inv { X with xe := xb } pins σ H s :=
  ⟨⟨I.ok.mod, I.ok.kind, I.ok.glob, I.ok.blt, I.ok.above, I.ok.inj, I.ok.has, I.ok.cab, I.ok.hd, I.ok.frames, I.ok.stk, I.ok.exf, I.ok.bs, I.ok.bsz, I.ok.noex, I.ok.exfs, I.ok.funs, I.ok.frf⟩, I.os, I.bare, I.base, I.loc, I.cell, I.free, I.freeC, I.pin, I.hok, I.len⟩
end
end L2

namespace L2
open PySem PySem.Spec PyProof.Rows
section
variable {X : Cx} {E : XK}
/-- what a call in the block lets out goes out of the comprehension and out of the def -/
theorem blk_passes {pins : List (Addr × Obj)} {σ : St} {H3 : Hp} {s3 : Shared} {scope : Scope} {ce : Env} {fp : List Addr} {use : Option (Value → Sem Unit)} {Qf : Value → Shared → Prop} {acc : Value} {E₁ : Value → Shared → Prop}
    (hs : X.stack = X.env :: X.outer) (hf : X.env.frame = some X.env.locals) (hex : X.ex = [])
    (hx : X.xe = fun e s' => wpAny (model X.prog X.w) X.A (leaving X.env e) (fun _ s'' => CX X.prog X.w X.outer X.H_0 X.s_0 E e s'') E₁ s')
    (I3 : Inv X pins σ H3 s3) (f3 : ∀ b ∈ fp, FpOk X pins H3 b ∧ b < s3.heap.objs.size) (cL : ce.locals = s3.heap.objs.size) (cF : ce.frame = X.env.frame) :
    Passes (CX X.prog X.w) { X.blk s3 H3 scope ce fp with xe := notedBy (model X.prog X.w) X.A ce fun e s' => compPost (model X.prog X.w) X.A X.xe use Qf acc s3.heap.objs.size (.error e) s' } E := by
  intro pinsB σB H s e s' I c
  obtain ⟨a, B, sI, H', cls, d, rfl, Ib, nb, up, fl, na, os, ag, hE⟩ := of_callF I c
  have nb : ∀ b o, sI.heap.get? b = some o → b ∉ frs X.stack → B.get? b = some o := nb
  have fl : HandSPX.FlyingZ B X.stack a (Zc cls d) s'.heap := fl
  generalize hC : s3.heap.objs.size = C at cL
  have hfr : X.A.frames = some (X.env :: X.outer) := by rw [I3.ok.frames, hs]
  show wpAny (model X.prog X.w) X.A (noteFrame (.ref a) ce) (fun _ s'' => compPost (model X.prog X.w) X.A X.xe use Qf acc C (.error (.ref a)) s'') _ s'
  rw [noteFrame_as cF]
  rw [hs] at fl
  refine HandSPX.looks_onZ Zc.steady hfr hf fl fun h1 held up1 => ?_
  have I1 : Inv _ pinsB σB H' { s' with heap := h1 } := Ib.landed (s' := { s' with heap := h1 }) nb held.1 (Heap.UpToSlots.trans up up1) os ag
  obtain ⟨m, hn, _⟩ := I1.loc
  have hn : h1.Ns ce.locals m := hn
  rw [cL] at hn
  have nC : H' C = none := by
    have z : H' ce.locals = none := Ib.free
    rw [cL] at z; exact z
  have IX : Inv X pins σ H' sI := I3.call' (ch := fp) Ib.os Ib.base Ib.hok Ib.bare fun b hb => ⟨(f3 b hb).1.2.2.2.1, (f3 b hb).1.2.1, (f3 b hb).1.2.2.2.2.1, (f3 b hb).1.2.2.2.2.2⟩
  obtain ⟨f0, f1, f2, f3', f4, f5⟩ := I3.fpOk (b := C) (Nat.le_of_eq hC) nC
  have I2 : Inv X pins σ H' { sI with heap := PySem.W.hideAll sI.heap [C], toks := sI.toks } := IX.turned (it := C) (fun b o hb e => PySem.W.hideAll_get _ e (by simpa using hb)) f0 f1 f3' f4 f5
  have nhide : ∀ {h : Heap} {b : Addr} {o : Obj}, (PySem.W.hideAll h [C]).get? b = some o → b ≠ C := fun {h b o} e z => by
    rw [PySem.W.hideAll_none (b := b) [C] (by simp [z])] at e; cases e
  have hCs : C ∉ frs X.stack := fun z => by
    rcases List.mem_cons.mp (I3.stkSub C z) with e | e
    · exact f1 e
    · exact f2 e
  have fin : ∃ m, h1.Ns C m ∧ ∀ h', Heap.SameBut C h1 h' → ∀ cenv : Env, cenv.locals = C → wpAny (model X.prog X.w) X.A (PySem.passOn "comprehension.variables-let-go" (.ref a) cenv : Sem Value) (fun _ _ => False) X.xe { s' with heap := h' } := by
    refine ⟨m, hn, fun h' sb cenv _ => ?_⟩
    obtain ⟨kB, hen, hl, oe, vs, T, oT, ts, he, hz, hd, e1, hnT, hTe, hT, hdT, e3⟩ := held
    obtain ⟨oC, es, ep, gC, dC, _⟩ := hn
    have naC : a ≠ C := fun z => by rw [z, gC] at he; cases he; rw [dC] at hd; cases hd
    have nTC : T ≠ C := fun z => by rw [z, gC] at hT; cases hT; rw [dC] at hdT; cases hdT
    have he' : h'.get? a = some oe := (sb.2 a naC).trans he
    have hT' : h'.get? T = some oT := (sb.2 T nTC).trans hT
    have hnB : ∀ b, B.get? b = none → (PySem.W.hideAll B [C]).get? b = none := fun b e => by
      cases q : (PySem.W.hideAll B [C]).get? b with
      | none => rfl
      | some u => rw [PySem.W.of_hideAll _ q] at e; cases e
    have kB' : (PySem.W.hideAll B [C]).StaysIn h' := fun b o e => (sb.2 b (nhide e)).trans (kB b o (PySem.W.of_hideAll _ e))
    have hl' : h'.FunFrames (PySem.W.hideAll B [C]) (X.env :: X.outer) := funFrames_hide sb.2 hl (by rw [← hs]; exact hCs)
    have ht' : HandSPX.TracedZ h' (PySem.W.hideAll B [C]) a (Zc cls d) (rawInt X.env.locals) := ⟨oe, vs, T, oT, ts, he', hz, hd, e1, hnB T hnT, hTe, hT', hdT, e3⟩
    unfold PySem.passOn
    refine wpAny_bind (wpAny_field he' hd e1 ?_)
    rw [if_neg (show ¬ ((Value.ref T == Value.none) = true) from by simp)]
    refine wpAny_bind (HandSPX.setFlight_anyZ kB' hl' ht' fun h2 k1 k2 k3 k4 => wpAny_throw ?_)
    rw [hx]
    refine leaveAny hs hf hex I2 (fun b o e hb => ?_) (fun b o e hnf => ?_) k1 (hnB a hen) (by rw [hs]; exact k2) k3 na os ag hE
    · exact PySem.W.hideAll_get _ (nb b o (PySem.W.of_hideAll _ e) hb) (by simpa using nhide e)
    · have nb' := nhide e
      obtain ⟨sl1, q1⟩ := up b o (PySem.W.of_hideAll _ e) hnf
      obtain ⟨sl2, q2⟩ := up1 b _ q1 hnf
      obtain ⟨sl3, q3⟩ := k4 b _ ((sb.2 b nb').trans q2) hnf
      exact ⟨sl3, q3⟩
  cases use <;> exact fin
theorem lc_coreX {pins : List (Addr × Obj)} {s : Shared} {σ : St} {H : Hp} {Q : VK} {elt tg iter : Expr} {ifs : List Expr} {scope : Scope} {own : List (Str × Nat)} {pos pos' : Pos} {wi : TI} {g : TG} {tt : TT} {te : TE} {use : Option (Value → Sem Unit)} {Qf : Value → Shared → Prop} {E₁ : Value → Shared → Prop}
    (hst : X.stack = X.env :: X.outer) (hfm : X.env.frame = some X.env.locals) (hex : X.ex = [])
    (hx : X.xe = fun e s' => wpAny (model X.prog X.w) X.A (leaving X.env e) (fun _ s'' => CX X.prog X.w X.outer X.H_0 X.s_0 E e s'') E₁ s')
    (hc : X.calm = true) (hN : X.N.Nodup) (I : Inv X pins σ H s) (hi : PI X tg iter wi) (ok : BlkOk X.N X.env.scope scope own)
    (hg : ∀ (s : Shared) (H : Hp) (C : Addr) (cl : List (Str × Addr)) (fp : List Addr) (xb : Value → Shared → Prop), PG { X.blk s H scope (compEnvC scope cl C X.env) fp with xe := xb } tg g) (ht : ∀ (s : Shared) (H : Hp) (C : Addr) (cl : List (Str × Addr)) (fp : List Addr) (xb : Value → Shared → Prop), PTs { X.blk s H scope (compEnvC scope cl C X.env) fp with xe := xb } ifs tt)
    (he : ∀ (s : Shared) (H : Hp) (C : Addr) (cl : List (Str × Addr)) (fp : List Addr) (xb : Value → Shared → Prop), Passes (CX X.prog X.w) { X.blk s H scope (compEnvC scope cl C X.env) fp with xe := xb } E → PE { X.blk s H scope (compEnvC scope cl C X.env) fp with xe := xb } elt te) (hs : ∀ x, foldedSetIterable iter X.env x = pure x)
    (h : tLc wi g tt te (own.map (·.2)) σ H Q)
    (hRR : ∀ D C s' m H', Inv X pins σ H' s' → Q (.ref D) H' → s'.heap.Ns C m → FpOk X pins H' C → compPost (model X.prog X.w) X.A X.xe use Qf (.ref D) C (.ok .next) s') :
    wpAny (model X.prog X.w) X.A (comprehension (.ListComp elt [⟨tg, iter, ifs, 0⟩] scope pos) scope X.env pos' (newList []) false (eval iter X.env) use) Qf X.xe s := by
  have hfree : ∀ y ∈ scope.names, y.2 = .free → ∃ c, X.env.cells.lookup y.1 = some c := fun y hy e => by
    rcases ok.free y hy e with k | k
    · exact I.ok.has _ (.inl k)
    · exact I.ok.has _ (.inr k)
  refine wpAny_comprehension_free (use := use) rfl hs (closure_ok hfree) ok.kind (fun y hy e => by rw [ok.uniq y hy, e])
    (thn (hi.run pins s σ H _ I h) fun xv s1 hxv => thn hxv fun itv s2 h2 => ?_)
  obtain ⟨it, fp, tn, J, H2, e, I2, T, st2, f2, q⟩ := h2
  subst e
  refine wpAny_newObj_type (newEnv_comp ?_) (by show 0 ≤ sizeLine; decide)
  generalize hD : s2.heap.objs.size = D
  have hDn : H2 D = none := I2.hok.fresh (Nat.le_of_eq hD)
  obtain ⟨W, ⟨m0, w0⟩, turn⟩ := q D hDn
  -- the new list
  generalize hs3 : ({ s2 with heap := s2.heap.push { cls := .type "list", data := .seq ([] : List Value).toArray } } : Shared) = s3
  have I3 : Inv X pins σ (upd H2 D (.lst [])) s3 := by
    rw [← hs3]
    refine I2.laid (t' := s2.toks) (fun b o e => Heap.get?_push_of_some _ e) (Nat.le_of_eq hD) ⟨Nat.zero_le _, [], 0, .nil, ?_⟩
    rw [← hD]
    exact Heap.get?_push_size _ rfl
  have h3 : s3.heap = s2.heap.push { cls := .type "list", data := .seq ([] : List Value).toArray } := by rw [← hs3]
  have sz : ∀ b ∈ fp, b < s2.heap.objs.size := fun b hb => by
    obtain ⟨o, e, _⟩ := T.obj _ _ st2 b hb
    exact Heap.lt_size e
  have f3 : ∀ b ∈ fp, FpOk X pins (upd H2 D (.lst [])) b ∧ b < s3.heap.objs.size := fun b hb => by
    have hlt := sz b hb
    refine ⟨⟨?_, (f2 b hb).2⟩, by rw [h3, Heap.size_push]; exact Nat.lt_succ_of_lt hlt⟩
    rw [upd_ne (by rw [← hD]; exact Nat.ne_of_lt hlt)]
    exact (f2 b hb).1
  have st3 : tn 0 s3.heap := T.keep _ _ _ st2 fun b _ o e => by rw [h3]; exact Heap.get?_push_of_some _ e
  have I4 := block_start I3 ok hN f3
  have pg := hg s3 (upd H2 D (.lst [])) s3.heap.objs.size (cellsFrom (s3.heap.objs.size + 1) scope.names (cloFrom X.env.cells scope.names [])) fp
  have pt := ht s3 (upd H2 D (.lst [])) s3.heap.objs.size (cellsFrom (s3.heap.objs.size + 1) scope.names (cloFrom X.env.cells scope.names [])) fp
  have pe := he s3 (upd H2 D (.lst [])) s3.heap.objs.size (cellsFrom (s3.heap.objs.size + 1) scope.names (cloFrom X.env.cells scope.names [])) fp
  show codeAny _ _ (.compStart (.ListComp elt [⟨tg, iter, ifs, 0⟩] scope pos) 0 (.ref it) (.ref D) (compEnvC scope (cellsFrom (s3.heap.objs.size + 1) scope.names (cloFrom X.env.cells scope.names [])) s3.heap.objs.size X.env)) (compPost (model X.prog X.w) X.A X.xe use Qf (.ref D) s3.heap.objs.size) { s3 with heap := pushCells (s3.heap.push { cls := .type "dict", data := .dict #[] }) scope.names }
  have nfp : ∀ b ∈ fp, (upd H2 D (.lst [])) b = none := fun b hb => (f3 b hb).1.1
  have cF : (compEnvC scope (cellsFrom (s3.heap.objs.size + 1) scope.names (cloFrom X.env.cells scope.names [])) s3.heap.objs.size X.env).frame = X.env.frame := rfl
  generalize hce : compEnvC scope (cellsFrom (s3.heap.objs.size + 1) scope.names (cloFrom X.env.cells scope.names [])) s3.heap.objs.size X.env = ce at I4 pg pt pe cF ⊢
  have cL : ce.locals = s3.heap.objs.size := by subst hce; rfl
  generalize hH3 : upd H2 D (.lst []) = H3 at I3 I4 pg pt pe w0 nfp f3
  have ps := blk_passes (use := use) (Qf := Qf) (acc := .ref D) (scope := scope) (fp := fp) hst hfm hex hx I3 f3 cL cF
  replace pg := pg (notedBy (model X.prog X.w) X.A ce fun e s' => compPost (model X.prog X.w) X.A X.xe use Qf (.ref D) s3.heap.objs.size (.error e) s')
  replace pt := pt (notedBy (model X.prog X.w) X.A ce fun e s' => compPost (model X.prog X.w) X.A X.xe use Qf (.ref D) s3.heap.objs.size (.error e) s')
  replace pe := pe _ ps
  replace I4 := I4.reXe (notedBy (model X.prog X.w) X.A ce fun e s' => compPost (model X.prog X.w) X.A X.xe use Qf (.ref D) s3.heap.objs.size (.error e) s')
  generalize hXB : ({ X.blk s3 H3 scope ce fp with xe := notedBy (model X.prog X.w) X.A ce fun e s' => compPost (model X.prog X.w) X.A X.xe use Qf (.ref D) s3.heap.objs.size (.error e) s' } : Cx) = XB at pg pt pe I4
  have eP : XB.prog = X.prog := by subst hXB; rfl
  have eW : XB.w = X.w := by subst hXB; rfl
  have eK : XB.K = X.K := by subst hXB; rfl
  have eC : XB.calm = true := by subst hXB; exact hc
  have eE : XB.env = ce := by subst hXB; rfl
  have eA : XB.A = X.A := by subst hXB; rfl
  have eX : XB.xe = notedBy (model X.prog X.w) X.A ce fun e s' => compPost (model X.prog X.w) X.A X.xe use Qf (.ref D) s3.heap.objs.size (.error e) s' := by subst hXB; rfl
  generalize hs4 : ({ s3 with heap := pushCells (s3.heap.push { cls := .type "dict", data := .dict #[] }) scope.names } : Shared) = s4 at I4 ⊢
  have st4 : tn 0 s4.heap := T.keep _ _ _ st3 fun b _ o e => by rw [← hs4]; exact pushCells_keeps _ _ _ _ (Heap.get?_push_of_some _ e)
  have stat : ∀ {σ' : St} {H' : Hp} {s' : Shared}, Inv XB [] σ' H' s' → (∀ b ∈ fp, H' b = none) → ∀ b ∈ fp, FpOk XB [] H' b := fun {σ' H' s'} I' hn b hb => by
    subst hXB
    exact ⟨hn b hb, (I'.ok.exf b hb).1, I'.ok.exfs b hb, .inl hb, fun x c e => (I'.ok.exf b hb).2 x c e, fun p hp => absurd (show p ∈ ([] : List (Addr × Obj)) ++ [] from hp) (by simp)⟩
  have loop : codeAny (model X.prog X.w) X.A (.compLoop (.ListComp elt [⟨tg, iter, ifs, 0⟩] scope pos) 0 (.ref it) (.ref D) ce) (compPost (model X.prog X.w) X.A X.xe use Qf (.ref D) s3.heap.objs.size) s4 := by
    refine compLoop_any (fun n s' => ∃ i H', Inv XB [] (wipe σ (own.map (·.2))) H' s' ∧ tn i s'.heap ∧ (∀ b ∈ fp, H' b = none) ∧ W i n H') ?_ m0 ⟨0, H3, I4, st4, nfp, w0⟩
    rintro n s5 ⟨i, H5, I5, st5, n5, w5⟩
    rcases turn i n H5 w5 with ⟨stop, qq⟩ | ⟨go, Nx, hNx, step⟩
    · have td := T.done XB eP eW eK eC i [] s5 _ H5 (fun _ _ => False) I5 (stat I5 n5) st5 stop
      rw [eA] at td
      refine thnF td fun r s6 ⟨hr, I6⟩ => ?_
      subst hr
      have I6' : Inv { X.blk s3 H3 scope ce fp with xe := notedBy (model X.prog X.w) X.A ce fun e s' => compPost (model X.prog X.w) X.A X.xe use Qf (.ref D) s3.heap.objs.size (.error e) s' } [] (wipe σ (own.map (·.2))) H5 s6 := by rw [hXB]; exact I6
      -- back in the def's context
      have I7 : Inv X pins σ H5 s6 := I3.call' (ch := fp) I6'.os I6'.base I6'.hok I6'.bare fun b hb => ⟨(f3 b hb).1.2.2.2.1, (f3 b hb).1.2.1, (f3 b hb).1.2.2.2.2.1, (f3 b hb).1.2.2.2.2.2⟩
      have nC : H5 s3.heap.objs.size = none := by
        have z : H5 ce.locals = none := I6'.free
        rw [cL] at z
        exact z
      obtain ⟨m, hn, _⟩ := I6'.loc
      have hn : s6.heap.Ns ce.locals m := hn
      rw [cL] at hn
      exact hRR D s3.heap.objs.size s6 m H5 I7 qq hn (I3.fpOk (Nat.le_refl _) nC)
    · have ti := T.item XB eP eW eK eC i [] s5 _ H5 (fun _ _ => False) I5 (stat I5 n5) st5 go
      rw [eA] at ti
      refine thnF ti fun r s6 ⟨u, hr, h6⟩ => ?_
      subst hr
      refine thnF h6 fun _ s7 ⟨x, H7, I7, r7, y7, st7, n7⟩ => ?_
      have I7' := I7.pinned (stat I7 n7) (T.obj _ _ st7)
      have pg' := pg.run _ s7 _ H7 x u _ I7' r7 (step x H7 y7)
      rw [eP, eW, eA, eE, eX] at pg'
      refine thn pg' fun _ s8 ⟨σ8, H8, I8, hw8, q8⟩ => ?_
      have pt' := pt.run _ s8 σ8 H8 _ I8 q8
      rw [eP, eW, eA, eE, eX] at pt'
      refine thn pt' fun b s9 ⟨H9, I9, q9⟩ => ?_
      -- the turn's end
      have fin : ∀ {s' : Shared} {H' : Hp}, Inv XB ([] ++ pinsAt fp s7.heap) σ8 H' s' → Nx H' → ∃ m, m < n ∧ ∃ i H', Inv XB [] (wipe σ (own.map (·.2))) H' s' ∧ tn i s'.heap ∧ (∀ b ∈ fp, H' b = none) ∧ W i m H' := fun {s' H'} I' nx => by
        obtain ⟨m', hm, w'⟩ := hNx H' nx
        have pin' : ∀ b ∈ fp, ∀ o, s7.heap.get? b = some o → s'.heap.get? b = some o ∧ H' b = none := fun b hb o e =>
          let z := I'.pin (b, o) (List.mem_append_right _ (List.mem_append_right _ (mem_pinsAt hb e)))
          ⟨z.1, z.2.1⟩
        have hl : (wipe σ (own.map (·.2))).length = σ8.length := by rw [← hw8, wipe_length]
        refine ⟨m', hm, i + 1, H', (I'.unpinned (pins := [])).weak hl (fun j v e => ?_), T.keep _ _ _ st7 fun b hb o e => (pin' b hb o e).1, fun b hb => ?_, w'⟩
        · rw [← hw8] at e
          exact (wipe_some e).1
        · obtain ⟨o, e, _⟩ := T.obj _ _ st7 b hb
          exact (pin' b hb o e).2
      cases b with
      | false =>
        simp only [Bool.false_eq_true, if_false] at q9 ⊢
        exact fin I9 q9
      | true =>
        simp only [if_true] at q9 ⊢
        have pe' := pe.run _ s9 σ8 H9 _ I9 q9
        rw [eP, eW, eA, eE, eX] at pe'
        refine thn pe' fun z s10 ⟨yv, H10, I10, r10, acc, hD10, hz10, nx⟩ => ?_
        have ap : wpAny (model XB.prog XB.w) XB.A (call (.builtin "list.append") [.ref D, z]) (fun _ s' => ∃ m, m < n ∧ ∃ i H', Inv XB [] (wipe σ (own.map (·.2))) H' s' ∧ tn i s'.heap ∧ (∀ b ∈ fp, H' b = none) ∧ W i m H')
            (notedBy (model X.prog X.w) X.A ce fun e s' => compPost (model X.prog X.w) X.A X.xe use Qf (.ref D) s3.heap.objs.size (.error e) s') s10 := app_ok (X := XB) I10 hD10 hz10 r10 fun s11 I11 => fin I11 nx
        rw [eP, eW, eA] at ap
        exact ap
  exact codeAny_compStart_list loop (T.self X.A 0 _ _ _ st4 loop)
/-- [f(x) for x in ..], f(x) may raise what the def may raise -/
theorem pe_lcX {elt tg iter : Expr} {ifs : List Expr} {scope : Scope} {own : List (Str × Nat)} {pos : Pos} {wi : TI} {g : TG} {tt : TT} {te : TE} {E₁ : Value → Shared → Prop}
    (hst : X.stack = X.env :: X.outer) (hfm : X.env.frame = some X.env.locals) (hex : X.ex = [])
    (hx : X.xe = fun e s' => wpAny (model X.prog X.w) X.A (leaving X.env e) (fun _ s'' => CX X.prog X.w X.outer X.H_0 X.s_0 E e s'') E₁ s')
    (hc : X.calm = true) (hN : X.N.Nodup) (hi : PI X tg iter wi) (ok : BlkOk X.N X.env.scope scope own)
    (hg : ∀ (s : Shared) (H : Hp) (C : Addr) (cl : List (Str × Addr)) (fp : List Addr) (xb : Value → Shared → Prop), PG { X.blk s H scope (compEnvC scope cl C X.env) fp with xe := xb } tg g) (ht : ∀ (s : Shared) (H : Hp) (C : Addr) (cl : List (Str × Addr)) (fp : List Addr) (xb : Value → Shared → Prop), PTs { X.blk s H scope (compEnvC scope cl C X.env) fp with xe := xb } ifs tt)
    (he : ∀ (s : Shared) (H : Hp) (C : Addr) (cl : List (Str × Addr)) (fp : List Addr) (xb : Value → Shared → Prop), Passes (CX X.prog X.w) { X.blk s H scope (compEnvC scope cl C X.env) fp with xe := xb } E → PE { X.blk s H scope (compEnvC scope cl C X.env) fp with xe := xb } elt te)
    (hs : ∀ x, foldedSetIterable iter X.env x = pure x := by intro _; rfl) : PE X (.ListComp elt [⟨tg, iter, ifs, 0⟩] scope pos) (tLc wi g tt te (own.map (·.2))) := by
  refine ⟨fun pins s σ H Q I h => ?_⟩
  rw [eval_ListComp]
  refine lc_coreX hst hfm hex hx hc hN I hi ok hg ht he hs h fun D C s' m H' I' q hn f => ⟨m, hn, fun h'' sb => ?_⟩
  obtain ⟨f0, f1, f2, f3, f4, f5⟩ := f
  exact ⟨.ref D, H', I'.turned (t' := s'.toks) (fun b o hb e => (sb.2 b hb).trans e) f0 f1 f3 f4 f5, rfl, q⟩
end
end L2

namespace L2
open PySem PySem.Spec PyProof.Rows
/-! ### list(o), o's __iter__ gives iter(o.f), f a list, and __len__ is a def -/
section
variable {X : Cx} {pins : List (Addr × Obj)} {σ : St}
theorem listI_loop {A1 : Around} {q it l : Addr} {xs : List V} {H0 : Hp} {Rs : Result → Shared → Prop} (hh : A1.in1.handled = none) (hz : xs.length ≤ sizeLine) (nq : H0 q = none) (nit : H0 it = none) (nqi : q ≠ it) (nl : l ≠ q) (hl : SqL X.K H0 l xs)
    (hf : ∀ H', H' it = none → FpOk X pins H' it) (hdone : ∀ s, Inv X pins σ (upd H0 q (.lst xs)) s → Rs (.ok (.ret .none)) s) :
    ∀ (m i : Nat) (s : Shared), xs.length - i = m → i ≤ xs.length → Inv X pins σ (upd H0 q (.lst (xs.take i))) s → s.heap.IsListIter it l i → codeAny (model X.prog X.w) A1 (.builtin "list.extend.loop" ⟨[.ref q, .ref it, .none], []⟩) Rs s := by
  have nitq : ∀ o, (upd H0 q o) it = none := fun o => by rw [upd_ne nqi.symm]; exact nit
  have hlq : ∀ o, SqL X.K (upd H0 q o) l xs := fun o => by
    rcases hl with (h | ⟨o', h⟩) | h
    · exact .inl (.inl (by rw [upd_ne nl]; exact h))
    · exact .inl (.inr ⟨o', by rw [upd_ne nl]; exact h⟩)
    · exact .inr h
  intro m
  induction m with
  | zero =>
    intro i s hm hi I st
    have e : i = xs.length := by omega
    subst e
    obtain ⟨its, rv, pl, _⟩ := I.list (hlq _)
    refine codeAny_builtin PySem.F.entry_extend_loop ?_
    rw [Around.under_plainId PySem.F.plain_extend_loop _]
    show wpAny _ A1.in1 (pyNext (.ref it) >>= _) _ _ s
    obtain ⟨f0, f1, f2, f3, f4, f5⟩ := hf _ (nitq (.lst xs))
    refine wpAny_bind (wpAny_pyNext_list_end hh st pl.isList (by have := rv.length; simp; omega) fun h' he' => wpAny_pure (hdone _ ?_))
    rw [List.take_length] at I
    exact I.turned (it := it) (t' := s.toks) (fun b o hb e => he' b o hb e) (nitq _) f1 f3 f4 f5
  | succ m ih =>
    intro i s hm hi I st
    have hlt : i < xs.length := by omega
    obtain ⟨its, rv, pl, _⟩ := I.list (hlq _)
    have hx : xs[i]? = some xs[i] := List.getElem?_eq_getElem hlt
    obtain ⟨u, hu, ri⟩ := rv.get hx
    refine codeAny_builtin PySem.F.entry_extend_loop ?_
    rw [Around.under_plainId PySem.F.plain_extend_loop _]
    show wpAny _ A1.in1 (pyNext (.ref it) >>= _) _ _ s
    obtain ⟨f0, f1, f2, f3, f4, f5⟩ := hf _ (nitq (.lst (xs.take i)))
    refine wpAny_bind (wpAny_pyNext_list_item st pl.isList (x := u) (by simpa using hu) fun h' hit' hs' => ?_)
    have I' := I.turned (it := it) (h' := h') (t' := s.toks) (fun b o hb e => hs'.extBut b o hb e) (nitq _) f1 f3 f4 f5
    show wpAny _ A1.in1 (updateSeq q (·.push u) >>= _) _ _ _
    obtain ⟨z, its2, k, r2, hl2, e⟩ := I'.lstM upd_same
    refine wpAny_bind (wpAny_updateSeq e rfl (wpAny_pure ⟨plainId_quiet PySem.F.plain_extend_loop _, ?_⟩) (by rw [List.size_toArray]; rw [List.length_take] at hl2; omega) (by show (its2.toArray.push u).size ≤ sizeLine + 1; rw [Array.size_push, List.size_toArray]; rw [List.length_take] at hl2; omega))
    refine ih (i + 1) _ (by omega) hlt ?_ (hit'.at fun o e => (Heap.get?_update_other _ _ nqi).trans e)
    have I2 := I'.lset (f := (·.push u)) (its' := its2 ++ [u]) (t' := s.toks) upd_same e (by simp) (r2.append (.cons ri .nil)) (by rw [List.length_append, List.length_take]; show _ + 1 ≤ _; omega)
    rw [upd_upd] at I2
    rw [List.take_add_one, hx]
    exact I2
variable {CI CL : CXT} {k : Nat} {g fL C : Addr} {fl : Str} {fdL : FuncData} {psL : List Str} {spL : Sp} {EL : XK}
def rListI (K : PySem.W.Frag) (C : Addr) (fl : Str) (spL : Sp) (EL : XK) : List V → Hp → VK → Prop := fun vs H Q => ∃ (a dx l : Addr) (fs : List (Str × V)) (xs : List V), vs = [.ref a] ∧ H a = some (.ins C dx fs) ∧ fs.lookup fl = some (.ref l) ∧ SqL K H l xs ∧ xs.length ≤ 1000 ∧
  (∀ q, H q = none → spL [.ref a] (upd H q (.lst [])) (fun v H' => (∃ n : Nat, v = .int (n : Int) ∧ n ≤ 1000) ∧ H' = upd H q (.lst [])) EL) ∧ ∀ q, H q = none → Q (.ref q) (upd H q (.lst xs))
theorem call_listI (m : Meth X.K C "__iter__" g) (FI : IterOk X.prog X.w X.K X.mg X.base k g C fl) (ml : Meth X.K C "__len__" fL) (FL : FnOk X.prog X.w X.K X.mg X.base CX0 k fL fdL psL spL) (bL : Binds X.K fdL psL []) (hc : X.calm = true) (hr : Room (k + 4) X.A) :
    CallR X (.type "list") (rListI X.K C fl spL E0) := by
  intro pins s σ H vs us Q I rv h
  obtain ⟨a, dx, l, fs, xs, rfl, ha, hfl, hl, hz, hsp, hq⟩ := h
  obtain ⟨u, rfl, ru⟩ := rv.one
  cases ru
  have sb : Sub X (k + 2) X.A.in1.in1 := (Sub.in1 (Sub.in1 (⟨hr, rfl⟩ : Sub X (k + 4) X.A)))
  refine callType_codes (Q₁ := fun obj s₁ => obj = .ref s.heap.objs.size ∧ s₁ = { s with heap := s.heap.push { cls := .type "list", data := .seq #[] } }) PySem.F.called_list (PySem.F.typeCall_list_1 _) PySem.F.entry_list_init
    (code_list_new _ ⟨rfl, rfl⟩) fun obj s₁ h₁ => ?_
  obtain ⟨rfl, rfl⟩ := h₁
  have hS : (s.heap.push { cls := .type "list", data := .seq #[] }).get? s.heap.objs.size = some { cls := .type "list", data := .seq #[] } := Heap.get?_push_size _ rfl
  refine ⟨⟨_, hS, rfl⟩, PySem.F.args_list_init_2 _ _, ?_⟩
  have fr : H s.heap.objs.size = none := I.hok.fresh (Nat.le_refl _)
  have I1 : Inv X pins σ (upd H s.heap.objs.size (.lst [])) { s with heap := s.heap.push { cls := .type "list", data := .seq #[] } } := I.lnew (its := []) (t' := s.toks) .nil (Nat.zero_le _)
  show wpAny _ _ (do let old ← Builtin.List.listItems (.ref s.heap.objs.size); Builtin.List.listUpdate (.ref s.heap.objs.size) (fun _ => #[]); letGo old.toList.reverse; Builtin.List.listExtendWith (.ref s.heap.objs.size) (.ref a) .none) _ _ _
  refine wpAny_bind ?_
  unfold Builtin.List.listItems
  refine wpAny_bind (wpAny_seqItems hS rfl (wpAny_pure ?_))
  show wpAny _ _ (updateSeq s.heap.objs.size (fun _ => #[]) >>= fun _ => letGo (#[] : Array Value).toList.reverse >>= fun _ => Builtin.List.listExtendWith (.ref s.heap.objs.size) (.ref a) .none) _ _ _
  refine wpAny_bind (wpAny_updateSeq hS rfl ?_)
  have I2 := I1.lset (f := fun _ => #[]) (its := []) (its' := []) (ys := []) (t' := s.toks) upd_same hS rfl .nil (Nat.zero_le _)
  rw [upd_upd] at I2
  refine wpAny_bind (wpAny_letGo ?_)
  have nlq : l ≠ s.heap.objs.size := fun z => by
    obtain ⟨its, rv, pl, _⟩ := I.list hl
    obtain ⟨o, ho, _⟩ := pl.isList
    have := Heap.lt_size ho
    rw [z] at this
    exact absurd this (Nat.lt_irrefl _)
  have hQ := hq _ fr
  have hL := hsp _ fr
  revert I2 fr nlq hQ hL
  generalize s.heap.objs.size = q
  generalize ({ s with heap := _, toks := _ } : Shared) = s2
  intro fr I2 nlq hQ hL
  have naq : a ≠ q := ne_of_none ha fr
  have ha2 : (upd H q (.lst [])) a = some (.ins C dx fs) := by rw [upd_ne naq]; exact ha
  obtain ⟨ox, od, J⟩ := inst_of I2 ha2
  obtain ⟨mf, hF⟩ := I2.fr
  unfold Builtin.List.listExtendWith
  refine wpAny_bind (J.type.here ?_)
  have h1 : Builtin.List.listSameRef (.ref q) (.ref a) = false := by simp [Builtin.List.listSameRef, naq.symm]
  have h2 : (Value.ref C == Value.type "list") = false := rfl
  have h3 : (Value.ref C == Value.type "tuple") = false := rfl
  simp only [h1, h2, h3, Bool.or_false, Bool.false_eq_true, if_false]
  have e0 : Env0 X.prog X.w X.K X.mg X.base X.A.in1.in1 X.stack s2 (upd H q (.lst [])) := by
    have e := I2.env0
    exact ⟨by rw [sb.fr]; exact e.frames, e.mod, e.bs, e.bsz, e.funs, e.frf, e.hok, e.bare⟩
  have hl2 : SqL X.K (upd H q (.lst [])) l xs := by
    rcases hl with (h | ⟨o', h⟩) | h
    · exact .inl (.inl (by rw [upd_ne nlq]; exact h))
    · exact .inl (.inr ⟨o', by rw [upd_ne nlq]; exact h⟩)
    · exact .inr h
  refine wpAny_bind (PySem.W.owit_iter hF I2.ok.mod.kin J m.at_ m.fn (wpAny_call (codeAny_mono (FI X.A.in1.in1 X.stack s2 (upd H q (.lst [])) a dx l fs xs (fun v H2 => ∃ it, v = .ref it ∧ (upd H q (.lst [])) it = none ∧ s2.heap.objs.size ≤ it ∧ H2 = upd (upd H q (.lst [])) it (ItO l it 0)) E0 (sb.room.mono (by omega)) e0 ha2 hfl hl2 fun it n1 n2 => ⟨it, rfl, n1, n2, rfl⟩) fun r s' z => ?_)))
  match r, z with
  | .error _, z => exact z.elim
  | .ok (.ret u), z =>
    obtain ⟨v2, H2, I3, r2, it, rfl, n1, n2, rfl⟩ := I2.after z
    cases r2
    have eo := itO_get I3 upd_same
    have hT : s'.TypeIs (.ref it) "list_iterator" := ⟨_, eo, rfl⟩
    have I4 := ItX.inv_drop I3 (a := it) (by rw [upd_same]; rfl)
    rw [ItX.dropH_upd n1] at I4
    refine wpAny_specialOf (name := Str.ofString "__next__") hT slot_listiter_next.lookup ?_
    obtain ⟨ox4, od4, J4⟩ := inst_of I4 ha2
    show wpAny (model X.prog X.w) X.A.in1.in1 (do
            let room ← holding [Value.ref it] (Builtin.List.listLengthHint (Value.ref a))
            _) _ _ s'
    refine wpAny_bind (wpAny_holding ?_)
    unfold Builtin.List.listLengthHint
    refine wpAny_bind (wpAny_bind (J4.type.here ((PySem.W.looks_findIn I4.kIn ml.at_).here ?_)))
    refine PySem.W.KFB.if_not rfl ?_
    refine wpAny_ite_split (fun _ => ?_) (fun hab => absurd rfl hab)
    refine wpAny_bind (wpAny_rule ?_)
    obtain ⟨mf4, hF4⟩ := I4.fr
    have fpI : FpOk X pins (upd H q (.lst [])) it := I2.fpOk n2 n1
    have oI : ∀ b ∈ [it], ∃ o, s'.heap.get? b = some o ∧ ∀ v, o.data ≠ .cell v := fun b hb => by
      obtain rfl : b = it := by simpa using hb
      exact ⟨_, eo, fun v z => nomatch z⟩
    have I4n : Inv X.nox (pins ++ pinsAt [it] s'.heap) σ (upd H q (.lst [])) s' := (I4.pinned (fp := [it]) (fun b hb => by rw [List.mem_singleton.mp hb]; exact fpI) oI).wish _
    have lenq : wpAny (model X.prog X.w) X.A.in1.in1 (call (.builtin "len") [.ref a]) (fun nv s6 => ∃ (n : Nat) (t : Tok), nv = .int (n : Int) t ∧ n ≤ 1000 ∧ Inv X pins σ (upd H q (.lst [])) s6 ∧ s6.heap.IsListIter it l 0) (fun _ _ => False) s' := by
      refine PySem.W.len_K hF4 I4.ok.mod.kin J4 ml.at_ ml.fn (thn (run_sub (X := X.nox) (A1 := X.A.in1.in1.in1) (us := [.ref a]) (vs := [.ref a]) (stack_of I4) FL ((sb.room.mono (by omega)).in1 (k := k)) bL pass0 I4n (.cons rfl .nil) hL) fun r s5 z => ?_)
      obtain ⟨z1, H1, I5, r1, ⟨n, rfl, hn⟩, rfl⟩ := z
      obtain ⟨t, rfl⟩ := r1
      have g5 := (I5.pin (it, _) (List.mem_append_right _ (List.mem_append_right _ (mem_pinsAt (List.mem_singleton.mpr rfl) eo)))).1
      exact ⟨⟨by omega, by omega⟩, n, _, rfl, hn, (I5.unwish.unpinned (pins := pins)).tok _, ⟨_, g5, rfl, rfl⟩⟩
    refine wpAny_bind (wpAny_attempt (thnF lenq fun nv s6 h6 => ?_))
    obtain ⟨n, t, rfl, hn, I6, st6⟩ := h6
    have hbig : Builtin.List.listTooLong ((n : Int)).toNat = false := by
      unfold Builtin.List.listTooLong
      rw [Int.toNat_natCast]
      have : 1000 < sizeLine := by decide
      exact decide_eq_false (by omega)
    refine wpAny_bind (wpAny_pure ?_)
    refine PySem.W.KFB.if_not hbig (wpAny_pure ?_)
    have big : 1000 < sizeLine := by decide
    have nqi : q ≠ it := fun z => by
      rw [← z, upd_same] at n1; cases n1
    have nitH : H it = none := by rw [upd_ne nqi.symm] at n1; exact n1
    have loop : ∀ s7, Inv X pins σ (upd H q (.lst [])) s7 → s7.heap.IsListIter it l 0 → codeAny (model X.prog X.w) X.A.in1 (.builtin "list.extend.loop" ⟨[.ref q, .ref it, .none], []⟩) (wants (fun r s₂ => r = .none ∧ EP X pins σ Q (.ref q) s₂) X.xe) s7 := fun s7 I7 st7 =>
      listI_loop (A1 := X.A.in1) (H0 := H) (by exact I7.ok.hd hc) (by omega) fr nitH nqi nlq hl (fun H' nH => ⟨nH, fpI.2⟩) (fun s8 I8 => ⟨rfl, .ref q, _, I8, rfl, hQ⟩) xs.length 0 s7 (by omega) (Nat.zero_le _) (by rw [List.take_zero]; exact I7) st7
    refine wpAny_ite_split (fun _ => ?_) (fun _ => wpAny_pure ⟨plainId_quiet PySem.F.plain_extend_loop _, loop s6 I6 st6⟩)
    refine wpAny_bind (wpAny_rule ?_)
    refine wpAny_bind ?_
    obtain ⟨z3, its3, k3, r3, hl3, e3⟩ := I6.lstM upd_same
    cases r3
    show wpAny _ _ (updateSeq q (·.push .none) >>= fun _ => updateSeq q (·.pop)) _ _ _
    refine wpAny_bind (wpAny_updateSeq e3 rfl ?_)
    have I7 := I6.lset (f := (·.push Value.none)) (its' := [Value.none]) (ys := [.non]) (t' := s6.toks) upd_same e3 (by simp) (.cons rfl .nil) (by rw [List.length_singleton, sizeLine_eq]; decide)
    obtain ⟨z4, its4, k4, r4, hl4, e4⟩ := I7.lstM upd_same
    obtain ⟨u4, rfl, ru4⟩ := r4.one
    refine wpAny_updateSeq e4 rfl ?_ (by show 1 ≤ sizeLine; rw [sizeLine_eq]; decide) (by show 0 ≤ sizeLine + 1; exact Nat.zero_le _)
    have I8 := I7.lset (f := (·.pop)) (its := [u4]) (its' := []) (ys := []) (t' := s6.toks) upd_same e4 (by rfl) .nil (Nat.zero_le _)
    rw [upd_upd, upd_upd] at I8
    refine wpAny_pure ⟨plainId_quiet PySem.F.plain_extend_loop _, loop _ I8 (st6.at fun o e => ?_)⟩
    exact (Heap.get?_update_other _ _ nqi).trans ((Heap.get?_update_other _ _ nqi).trans e)
end
end L2

namespace My
open PySem L2
abbrev PP : Program := PySem.Challenge.pw_weblocks_k15_program_sums
def topS (i : Nat) : Stmt := PySem.Challenge.pw_weblocks_k15_program_sums.main.body.getD i (.Pass ⟨0, 0, 0, 0⟩)
abbrev S_sound_step : Stmt := topS 10
abbrev S_Program_init : Stmt := inClass (topS 12) 0
abbrev S_Program_len : Stmt := inClass (topS 12) 1
abbrev S_Program_iter : Stmt := inClass (topS 12) 2
abbrev S_Program_eq : Stmt := inClass (topS 12) 3
abbrev S_Program_add : Stmt := inClass (topS 12) 4
abbrev S_Program_iadd : Stmt := inClass (topS 12) 5
abbrev S_Program_radd : Stmt := inClass (topS 12) 6
abbrev S__law_draws : Stmt := topS 14
abbrev S__law_take : Stmt := topS 15
abbrev S__law_same : Stmt := topS 16
abbrev S__law_step : Stmt := topS 17
abbrev S__law_bad_step : Stmt := topS 18
abbrev S__law_is : Stmt := topS 19
abbrev S__law_handed : Stmt := topS 20
abbrev S__law_sum : Stmt := topS 21
abbrev S__law_refused : Stmt := topS 22
abbrev S__law_in_place : Stmt := topS 23
abbrev S_law : Stmt := topS 24
abbrev S_BadStep_init : Stmt := inClass (topS 4) 0
theorem sc_sound_step : FnScope ["step", "deed", "thing"] ["step"] (defScope S_sound_step) := ⟨rfl, rfl, rfl, by decide +kernel, rfl, by decide +kernel, by decide +kernel⟩
theorem sc_Program_init : FnScope ["self", "steps", "step"] ["self", "steps"] (defScope S_Program_init) := ⟨rfl, rfl, rfl, by decide +kernel, rfl, by decide +kernel, by decide +kernel⟩
theorem sc_Program_len : FnScope ["self"] ["self"] (defScope S_Program_len) := ⟨rfl, rfl, rfl, by decide +kernel, rfl, by decide +kernel, by decide +kernel⟩
theorem sc_Program_iter : FnScope ["self"] ["self"] (defScope S_Program_iter) := ⟨rfl, rfl, rfl, by decide +kernel, rfl, by decide +kernel, by decide +kernel⟩
theorem sc_Program_eq : FnScope ["self", "other"] ["self", "other"] (defScope S_Program_eq) := ⟨rfl, rfl, rfl, by decide +kernel, rfl, by decide +kernel, by decide +kernel⟩
theorem sc_Program_add : FnScope ["self", "other"] ["self", "other"] (defScope S_Program_add) := ⟨rfl, rfl, rfl, by decide +kernel, rfl, by decide +kernel, by decide +kernel⟩
theorem sc_Program_iadd : FnScope ["self", "other"] ["self", "other"] (defScope S_Program_iadd) := ⟨rfl, rfl, rfl, by decide +kernel, rfl, by decide +kernel, by decide +kernel⟩
theorem sc_Program_radd : FnScope ["self", "other"] ["self", "other"] (defScope S_Program_radd) := ⟨rfl, rfl, rfl, by decide +kernel, rfl, by decide +kernel, by decide +kernel⟩
theorem sc__law_draws : FnScope ["_law_script", "_law_draws_here", "_law_cell", "_law_rest", "_law_k", "_law_mixed"] ["_law_script"] (defScope S__law_draws) := ⟨rfl, rfl, rfl, by decide +kernel, rfl, by decide +kernel, by decide +kernel⟩
theorem sc__law_take : FnScope ["_law_draws_here", "_law_at", "_law_size"] ["_law_draws_here", "_law_at", "_law_size"] (defScope S__law_take) := ⟨rfl, rfl, rfl, by decide +kernel, rfl, by decide +kernel, by decide +kernel⟩
theorem sc__law_same : FnScope ["_law_actual", "_law_expected", "_law_k"] ["_law_actual", "_law_expected"] (defScope S__law_same) := ⟨rfl, rfl, rfl, by decide +kernel, rfl, by decide +kernel, by decide +kernel⟩
theorem sc__law_step : FnScope ["_law_draws_here", "_law_at", "_law_thing"] ["_law_draws_here", "_law_at"] (defScope S__law_step) := ⟨rfl, rfl, rfl, by decide +kernel, rfl, by decide +kernel, by decide +kernel⟩
theorem sc__law_bad_step : FnScope ["_law_draws_here", "_law_at", "_law_step_here", "_law_form", "_law_deeds"] ["_law_draws_here", "_law_at", "_law_step_here"] (defScope S__law_bad_step) := ⟨rfl, rfl, rfl, by decide +kernel, rfl, by decide +kernel, by decide +kernel⟩
theorem sc__law_is : FnScope ["_law_program", "_law_steps", "_law_step_here"] ["_law_program", "_law_steps"] (defScope S__law_is) := ⟨rfl, rfl, rfl, by decide +kernel, rfl, by decide +kernel, by decide +kernel⟩
theorem sc__law_handed : FnScope ["_law_steps", "_law_lists", "_law_step_here"] ["_law_steps", "_law_lists"] (defScope S__law_handed) := ⟨rfl, rfl, rfl, by decide +kernel, rfl, by decide +kernel, by decide +kernel⟩
theorem sc__law_sum : FnScope ["_law_form", "_law_program", "_law_row"] ["_law_form", "_law_program", "_law_row"] (defScope S__law_sum) := ⟨rfl, rfl, rfl, by decide +kernel, rfl, by decide +kernel, by decide +kernel⟩
theorem sc__law_refused : FnScope ["_law_form", "_law_program", "_law_row", "e"] ["_law_form", "_law_program", "_law_row"] (defScope S__law_refused) := ⟨rfl, rfl, rfl, by decide +kernel, rfl, by decide +kernel, by decide +kernel⟩
theorem sc__law_in_place : FnScope ["_law_program", "_law_other", "_law_row", "_law_one", "_law_two", "_law_name", "_law_longer"] ["_law_program", "_law_other", "_law_row", "_law_one", "_law_two"] (defScope S__law_in_place) := ⟨rfl, rfl, rfl, by decide +kernel, rfl, by decide +kernel, by decide +kernel⟩
theorem sc_law : FnScope ["_law_script", "_law_draws_here", "_law_at", "_law_one", "_law_k", "_law_two", "_law_lists", "_law_program", "_law_other", "_law_row", "_law_form", "_law_due", "_law_place", "_law_bad", "_law_spoilt"] ["_law_script"] (defScope S_law) := ⟨rfl, rfl, rfl, by decide +kernel, rfl, by decide +kernel, by decide +kernel⟩
structure Txt (K : PySem.W.Frag) (mg : Str → Option Value) where
  a_sound_step : Addr
  fd_sound_step : FuncData
  F_sound_step : Fun K "sound_step" "sound_step" S_sound_step a_sound_step fd_sound_step
  b_sound_step : Binds K fd_sound_step ["step"] []
  g_sound_step : mg "sound_step" = some (.ref a_sound_step)
  a_Program_init : Addr
  fd_Program_init : FuncData
  F_Program_init : Fun K "__init__" "Program.__init__" S_Program_init a_Program_init fd_Program_init
  bs_Program_init : StarB fd_Program_init ["self"] "steps"
  a_Program_len : Addr
  fd_Program_len : FuncData
  F_Program_len : Fun K "__len__" "Program.__len__" S_Program_len a_Program_len fd_Program_len
  b_Program_len : Binds K fd_Program_len ["self"] []
  a_Program_iter : Addr
  fd_Program_iter : FuncData
  F_Program_iter : Fun K "__iter__" "Program.__iter__" S_Program_iter a_Program_iter fd_Program_iter
  b_Program_iter : Binds K fd_Program_iter ["self"] []
  a_Program_eq : Addr
  fd_Program_eq : FuncData
  F_Program_eq : Fun K "__eq__" "Program.__eq__" S_Program_eq a_Program_eq fd_Program_eq
  b_Program_eq : Binds K fd_Program_eq ["self", "other"] []
  a_Program_add : Addr
  fd_Program_add : FuncData
  F_Program_add : Fun K "__add__" "Program.__add__" S_Program_add a_Program_add fd_Program_add
  b_Program_add : Binds K fd_Program_add ["self", "other"] []
  a_Program_iadd : Addr
  fd_Program_iadd : FuncData
  F_Program_iadd : Fun K "__iadd__" "Program.__iadd__" S_Program_iadd a_Program_iadd fd_Program_iadd
  b_Program_iadd : Binds K fd_Program_iadd ["self", "other"] []
  a_Program_radd : Addr
  fd_Program_radd : FuncData
  F_Program_radd : Fun K "__radd__" "Program.__radd__" S_Program_radd a_Program_radd fd_Program_radd
  b_Program_radd : Binds K fd_Program_radd ["self", "other"] []
  a__law_draws : Addr
  fd__law_draws : FuncData
  F__law_draws : Fun K "_law_draws" "_law_draws" S__law_draws a__law_draws fd__law_draws
  b__law_draws : Binds K fd__law_draws ["_law_script"] []
  g__law_draws : mg "_law_draws" = some (.ref a__law_draws)
  a__law_take : Addr
  fd__law_take : FuncData
  F__law_take : Fun K "_law_take" "_law_take" S__law_take a__law_take fd__law_take
  b__law_take : Binds K fd__law_take ["_law_draws_here", "_law_at", "_law_size"] []
  g__law_take : mg "_law_take" = some (.ref a__law_take)
  a__law_same : Addr
  fd__law_same : FuncData
  F__law_same : Fun K "_law_same" "_law_same" S__law_same a__law_same fd__law_same
  b__law_same : Binds K fd__law_same ["_law_actual", "_law_expected"] []
  g__law_same : mg "_law_same" = some (.ref a__law_same)
  a__law_step : Addr
  fd__law_step : FuncData
  F__law_step : Fun K "_law_step" "_law_step" S__law_step a__law_step fd__law_step
  b__law_step : Binds K fd__law_step ["_law_draws_here", "_law_at"] []
  g__law_step : mg "_law_step" = some (.ref a__law_step)
  a__law_bad_step : Addr
  fd__law_bad_step : FuncData
  F__law_bad_step : Fun K "_law_bad_step" "_law_bad_step" S__law_bad_step a__law_bad_step fd__law_bad_step
  b__law_bad_step : Binds K fd__law_bad_step ["_law_draws_here", "_law_at", "_law_step_here"] []
  g__law_bad_step : mg "_law_bad_step" = some (.ref a__law_bad_step)
  a__law_is : Addr
  fd__law_is : FuncData
  F__law_is : Fun K "_law_is" "_law_is" S__law_is a__law_is fd__law_is
  b__law_is : Binds K fd__law_is ["_law_program", "_law_steps"] []
  g__law_is : mg "_law_is" = some (.ref a__law_is)
  a__law_handed : Addr
  fd__law_handed : FuncData
  F__law_handed : Fun K "_law_handed" "_law_handed" S__law_handed a__law_handed fd__law_handed
  b__law_handed : Binds K fd__law_handed ["_law_steps", "_law_lists"] []
  g__law_handed : mg "_law_handed" = some (.ref a__law_handed)
  a__law_sum : Addr
  fd__law_sum : FuncData
  F__law_sum : Fun K "_law_sum" "_law_sum" S__law_sum a__law_sum fd__law_sum
  b__law_sum : Binds K fd__law_sum ["_law_form", "_law_program", "_law_row"] []
  g__law_sum : mg "_law_sum" = some (.ref a__law_sum)
  a__law_refused : Addr
  fd__law_refused : FuncData
  F__law_refused : Fun K "_law_refused" "_law_refused" S__law_refused a__law_refused fd__law_refused
  b__law_refused : Binds K fd__law_refused ["_law_form", "_law_program", "_law_row"] []
  g__law_refused : mg "_law_refused" = some (.ref a__law_refused)
  a__law_in_place : Addr
  fd__law_in_place : FuncData
  F__law_in_place : Fun K "_law_in_place" "_law_in_place" S__law_in_place a__law_in_place fd__law_in_place
  b__law_in_place : Binds K fd__law_in_place ["_law_program", "_law_other", "_law_row", "_law_one", "_law_two"] []
  g__law_in_place : mg "_law_in_place" = some (.ref a__law_in_place)
  a_law : Addr
  fd_law : FuncData
  F_law : Fun K "law" "law" S_law a_law fd_law
  b_law : Binds K fd_law ["_law_script"] []
  g_law : mg "law" = some (.ref a_law)
  n_ValueError : mg "ValueError" = none
  n_bool : mg "bool" = none
  n_int : mg "int" = none
  n_isinstance : mg "isinstance" = none
  n_iter : mg "iter" = none
  n_len : mg "len" = none
  n_list : mg "list" = none
  n_range : mg "range" = none
  n_str : mg "str" = none
  n_tuple : mg "tuple" = none
  k_DEEDS : Addr
  g_DEEDS : mg "DEEDS" = some (.ref k_DEEDS)
  q_DEEDS : ∀ H : Hp, SqT K H k_DEEDS [.str "own", .str "share", .str "drop"]
  sq_add : SeqAdd K
  c_Program : Addr
  g_Program : mg "Program" = some (.ref c_Program)
  cl_Program : Cls K c_Program
  mk_Program : Mk K c_Program a_Program_init
  m_Program_len : Meth K c_Program "__len__" a_Program_len
  m_Program_iter : Meth K c_Program "__iter__" a_Program_iter
  m_Program_eq : Meth K c_Program "__eq__" a_Program_eq
  m_Program_add : Meth K c_Program "__add__" a_Program_add
  m_Program_iadd : Meth K c_Program "__iadd__" a_Program_iadd
  m_Program_radd : Meth K c_Program "__radd__" a_Program_radd
  ti_Program : ∀ (H : Hp) (a dx : Addr) (fs : List (Str × V)), H a = some (.ins c_Program dx fs) → TyOf K H (.ref a) (.ref c_Program)
  kk_Program : PySem.W.kitOne K (.ref c_Program) (.ref c_Program) = some true
  ko_Program_list : PySem.W.kitOne K (.ref c_Program) (.type "list") = some false
  ko_Program_tuple : PySem.W.kitOne K (.ref c_Program) (.type "tuple") = some false
  of_Program_add : OpF K c_Program "add" a_Program_add
  no_Program__steps : NoAttr K c_Program "_steps"
  c_BadStep : Addr
  g_BadStep : mg "BadStep" = some (.ref c_BadStep)
  c_WebError : Addr
  g_WebError : mg "WebError" = some (.ref c_WebError)
  c_Refused : Addr
  g_Refused : mg "Refused" = some (.ref c_Refused)
  c_NoThing : Addr
  g_NoThing : mg "NoThing" = some (.ref c_NoThing)
  x_BadStep : PySem.WX.ExcTxt PP K mg "BadStep" "step" c_BadStep
  xc_BadStep : XC K c_BadStep
  xn_BadStep : PySem.W.findIn K (.ref c_BadStep) "step" = some none
  em_BadStep_WebError : PySem.W.exmOne K (.ref c_BadStep) (.ref c_WebError) = some true
  kt_BadStep_Refused : PySem.W.kitOne K (.ref c_BadStep) (.ref c_Refused) = some false
  kt_BadStep_NoThing : PySem.W.kitOne K (.ref c_BadStep) (.ref c_NoThing) = some false
  kt_BadStep_BadStep : PySem.W.kitOne K (.ref c_BadStep) (.ref c_BadStep) = some true
  kt_BadStep_ValueError : PySem.W.kitOne K (.ref c_BadStep) (.type "ValueError") = some true
end My
namespace My
open PySem L2
/-! ### heaps: all but a as it was -/
def But (a : Addr) (H H' : Hp) : Prop := ∀ b o, b ≠ a → H b = some o → H' b = some o
theorem But.refl (a : Addr) (H : Hp) : But a H H := fun _ _ _ h => h
theorem But.trans {a : Addr} {H H1 H2 : Hp} (x : But a H H1) (y : But a H1 H2) : But a H H2 := fun b o n h => y b o n (x b o n h)
theorem But.of_same {a : Addr} {H H' : Hp} (s : Same H H') : But a H H' := fun b o _ h => s b o h
theorem But.upd {a : Addr} {H : Hp} {o : HO} : But a H (upd H a o) := fun b u n h => by rw [upd_ne n]; exact h
theorem same_new {H : Hp} {p : Addr} {o : HO} (h : H p = none) : Same H (upd H p o) := fun b x e => by
  rw [upd_ne (ne_of_none e h)]; exact e
theorem But.new {a p : Addr} {H : Hp} {o : HO} (h : H p = none) : But a H (L2.upd H p o) := But.of_same (same_new h)
/-- an object that H does not know may change -/
theorem same_mut {H H' : Hp} {p : Addr} {o : HO} (e : Same H H') (h : H p = none) : Same H (upd H' p o) := fun a u ha => by
  rw [upd_ne (ne_of_none ha h)]; exact e a u ha
theorem But.mut {a p : Addr} {H H' : Hp} {o : HO} (e : But a H H') (h : H p = none) : But a H (L2.upd H' p o) := fun b u n hb => by
  rw [upd_ne (ne_of_none hb h)]; exact e b u n hb
theorem But.free {a p : Addr} {H H' : Hp} (e : But a H H') (n : p ≠ a) (h : H' p = none) : H p = none := by
  cases q : H p with
  | none => rfl
  | some o => rw [e p o n q] at h; cases h
theorem But.sqL {K : PySem.W.Frag} {a d : Addr} {H H' : Hp} {xs : List V} (e : But a H H') (n : d ≠ a) (h : SqL K H d xs) : SqL K H' d xs := by
  rcases h with (h | ⟨o, h⟩) | h
  · exact .inl (.inl (e _ _ n h))
  · exact .inl (.inr ⟨o, e _ _ n h⟩)
  · exact .inr h
theorem But.sqT {K : PySem.W.Frag} {a d : Addr} {H H' : Hp} {xs : List V} (e : But a H H') (n : d ≠ a) (h : SqT K H d xs) : SqT K H' d xs := by
  rcases h with (h | ⟨o, h⟩) | h
  · exact .inl (.inl (e _ _ n h))
  · exact .inl (.inr ⟨o, e _ _ n h⟩)
  · exact .inr h
theorem same_sqT {K : PySem.W.Frag} {d : Addr} {H H' : Hp} {xs : List V} (e : Same H H') (h : SqT K H d xs) : SqT K H' d xs := by
  rcases h with (h | ⟨o, h⟩) | h
  · exact .inl (.inl (e _ _ h))
  · exact .inl (.inr ⟨o, e _ _ h⟩)
  · exact .inr h
theorem same_make {H H5 : Hp} {x dx C : Addr} (nx : H x = none) (nd : H dx = none) (b : But x (L2.upd (L2.upd H dx (.own x)) x (.ins C dx [])) H5) : Same H H5 := fun y o h =>
  b y o (ne_of_none h nx) (by rw [upd_ne (ne_of_none h nx), upd_ne (ne_of_none h nd)]; exact h)
/-! ### tests -/
theorem iteD {c A B : Prop} [Decidable c] (h1 : c → A) (h2 : ¬ c → B) : if decide c = true then A else B := by
  by_cases h : c
  · rw [decide_eq_true h]; exact iteT (h1 h)
  · rw [decide_eq_false h]; exact iteF (h2 h)
theorem iteN {c A B : Prop} [Decidable c] (h1 : ¬ c → A) (h2 : c → B) : if (!decide c) = true then A else B := by
  by_cases h : c
  · rw [decide_eq_true h]; exact iteF (h2 h)
  · rw [decide_eq_false h]; exact iteT (h1 h)
theorem iteB {b : Bool} {A B : Prop} (h1 : b = true → A) (h2 : b = false → B) : if b = true then A else B := by
  cases b with
  | true => exact iteT (h1 rfl)
  | false => exact iteF (h2 rfl)
theorem iteYes {b : Bool} {A B : Prop} (h : b = true) (h1 : A) : if b = true then A else B := by rw [h]; exact iteT h1
theorem iteNo {b : Bool} {A B : Prop} (h : b = false) (h1 : B) : if b = true then A else B := by rw [h]; exact iteF h1
/-! ### lists -/
theorem ints_app (zs : List Int) (z : Int) : (zs.map V.int) ++ [V.int z] = (zs ++ [z]).map V.int := by rw [List.map_append]; rfl
theorem at_ok {xs : List V} {i : Int} (h0 : 0 ≤ i) (h1 : i < xs.length) : ∃ v, atI xs i = some v ∧ v ∈ xs := by
  obtain ⟨j, rfl⟩ := Int.eq_ofNat_of_zero_le h0
  have hj : j < xs.length := by omega
  exact ⟨xs[j], atI_nat (List.getElem?_eq_getElem hj), List.getElem_mem hj⟩
theorem get_int {ns : List Int} {i : Nat} {y : V} (h : (ns.map V.int)[i]? = some y) : ∃ z, ns[i]? = some z ∧ y = .int z := by
  rw [List.getElem?_map] at h
  cases e : ns[i]? with
  | none => rw [e] at h; cases h
  | some z => rw [e] at h; exact ⟨z, rfl, (Option.some.inj h).symm⟩
end My
namespace L2
open PySem
/-! ### rules whose reading names K itself (in a comprehension's block) -/
theorem ixLK {X : Cx} {K : PySem.W.Frag} (h : X.K = K) : IxR X (rIxL K) := h ▸ ix_list
theorem ixTK {X : Cx} {K : PySem.W.Frag} (h : X.K = K) : IxR X (rIxT K) := h ▸ ix_tup
theorem inK {X : Cx} {K : PySem.W.Frag} (h : X.K = K) : OpR X (compareOp .In) (rIn K false) := h ▸ op_in_seq
theorem ninK {X : Cx} {K : PySem.W.Frag} (h : X.K = K) : OpR X (compareOp .NotIn) (rIn K true) := h ▸ op_notIn_seq
theorem pe_fldK {X : Cx} {K : PySem.W.Frag} {e : Expr} {f : Str} {pos : Pos} {ta : TE} (h : X.K = K) (he : PE X e ta) (hb : attributeBase e f X.env (eval e X.env) = eval e X.env) : PE X (.Attribute e f pos) (tFld K ta f) := h ▸ pe_fld he hb
end L2

namespace My
open PySem L2
/-- the draws at d, the place at a -/
structure Dr (K : PySem.W.Frag) (H : Hp) (d a : Addr) : Prop where
  ds : ∃ ns : List Int, H d = some (.lst (ns.map V.int))
  pl : ∃ k : Nat, H a = some (.lst [.int k])
  ne : d ≠ a
theorem Dr.but {K : PySem.W.Frag} {H H' : Hp} {d a : Addr} (x : Dr K H d a) (e : But a H H') (pl : ∃ k : Nat, H' a = some (.lst [.int k])) : Dr K H' d a :=
  ⟨x.ds.elim fun ns h => ⟨ns, e _ _ x.ne h⟩, pl, x.ne⟩
theorem Dr.same {K : PySem.W.Frag} {H H' : Hp} {d a : Addr} (x : Dr K H d a) (e : Same H H') : Dr K H' d a :=
  x.but (But.of_same e) (x.pl.elim fun k h => ⟨k, e _ _ h⟩)
/-- another object is changed -/
theorem Dr.other {K : PySem.W.Frag} {H H' : Hp} {d a p : Addr} (x : Dr K H d a) (e : But p H H') (n1 : d ≠ p) (n2 : a ≠ p) : Dr K H' d a :=
  ⟨x.ds.elim fun ns h => ⟨ns, e _ _ n1 h⟩, x.pl.elim fun k h => ⟨k, e _ _ n2 h⟩, x.ne⟩
theorem Dr.nd {K : PySem.W.Frag} {H : Hp} {d a p : Addr} (x : Dr K H d a) (h : H p = none) : d ≠ p := ne_of_none x.ds.choose_spec h
theorem Dr.na {K : PySem.W.Frag} {H : Hp} {d a p : Addr} (x : Dr K H d a) (h : H p = none) : p ≠ a := (ne_of_none x.pl.choose_spec h).symm
def spTake (K : PySem.W.Frag) : Sp := fun vs H Q _ => ∃ (d a : Addr) (size : Int), vs = [.ref d, .ref a, .int size] ∧ Dr K H d a ∧ 0 < size ∧
  ∀ (r : Int) (H' : Hp), 0 ≤ r → r < size → Dr K H' d a → But a H H' → Q (.int r) H'
section
variable {P : Program} {w : World} {K : PySem.W.Frag} {mg : Str → Option Value} {base : Heap}
theorem ok__law_take (T : Txt K mg) : FnOk P w K mg base CX0 1 T.a__law_take T.fd__law_take ["_law_draws_here", "_law_at", "_law_size"] (spTake K) := by
  refine T.F__law_take.ok sc__law_take (fun vs H Q E h => ?_) (fun cdv A outer s H vs Q E hr h => ?_)
  · obtain ⟨d, a, size, rfl, _⟩ := h; rfl
  · obtain ⟨d, a, size, rfl, D, hs, q⟩ := h
    obtain ⟨ns, hd0⟩ := D.ds
    have hd : SqL K H d (ns.map V.int) := SqL.of hd0
    obtain ⟨k, hk⟩ := D.pl
    have hb : But a H (upd H a (.lst [.int (k + 1 : Nat)])) := But.upd
    have D' : Dr K (upd H a (.lst [.int (k + 1 : Nat)])) d a := D.but hb ⟨_, upd_same⟩
    have hd' := hb.sqL D.ne hd
    refine ⟨_, (pss_cons (ps_asg (pe_op op_add (pe_ix ix_list (pv 1) (pe_int) (fun _ _ => rfl)) (pe_int)) (pg_sub (pv 1) (pe_int) set_list))
      (pss_cons (ps_if (pt_cmpR op_gt (pe_ix ix_list (pv 1) (pe_int) (fun _ _ => rfl)) (pe_callB call_len_seq (by rfl) T.n_len (by decide +kernel) (pa_cons (pv 0) pa_nil)) (nomark _)) (pss_one (ps_ret (pe_int))) pss_nil)
      (pss_one (ps_ret (pe_op op_mod (pe_callTy call_int1 (by rfl) T.n_int (by decide +kernel) (pa_cons (pe_ix ix_list (pv 0) (pe_op op_sub (pe_ix ix_list (pv 1) (pe_int) (fun _ _ => rfl)) (pe_int)) (fun _ _ => rfl)) pa_nil)) (pv 2)))))), ?_⟩
    walk_at "rd"

    refine iteD (fun c => ?_) (fun c => ?_)
    · exact q 0 _ (Int.le_refl _) hs D' hb
    · rw [List.length_map] at c
      have hl : k < ns.length := by omega
      refine ⟨_, rfl, _, rfl, _, _, _, _, rfl, rfl, SqL.of upd_same, atI_nat (j := 0) rfl, _, _, rfl, rfl, _, _, _, _, rfl, rfl, hd', at_of (j := k) (by omega) (by rw [List.getElem?_map, List.getElem?_eq_getElem hl]; rfl), ?_⟩
      walk_at "rd"
      exact q _ _ (Int.emod_nonneg _ (by omega)) (Int.emod_lt_of_pos _ hs) D' hb
end
end My

namespace My
open PySem L2
def spDraws (K : PySem.W.Frag) : Sp := fun vs H Q _ => ∃ (a : Addr) (ns : List Int), vs = [.ref a] ∧ SqL K H a (ns.map V.int) ∧ ns.length ≤ 63 ∧
  ∀ (p : Addr) (zs : List Int) (H' : Hp), Same H H' → H p = none → H' p = some (.lst (zs.map V.int)) → Q (.ref p) H'
section
variable {P : Program} {w : World} {K : PySem.W.Frag} {mg : Str → Option Value} {base : Heap}
theorem ok__law_draws (T : Txt K mg) : FnOk P w K mg base CX0 1 T.a__law_draws T.fd__law_draws ["_law_script"] (spDraws K) := by
  refine T.F__law_draws.ok sc__law_draws (fun vs H Q E h => ?_) (fun cdv A outer s H vs Q E hr h => ?_)
  · obtain ⟨a, ns, rfl, _⟩ := h; rfl
  · obtain ⟨a, ns, rfl, hS, hlen, q⟩ := h
    refine ⟨_, (pss_cons (ps_set (i := 1) sc__law_draws.nd rfl (.inl rfl) (pe_lst pa_nil))
      (pss_cons (ps_for PassesOwn.never rfl (pi_list (pv 0)) (pg_name (i := 2) sc__law_draws.nd rfl (.inl rfl)) (pss_one (ps_if (pt_cmpR op_ge (pv 2) (pe_op op_pow (pe_int) (pe_int)) (nomark _)) (pss_cons (ps_set (i := 3) sc__law_draws.nd rfl (.inl rfl) (pe_callTy call_int1 (by rfl) T.n_int (by decide +kernel) (pa_cons (pv 2) pa_nil)))
      (pss_one (ps_for PassesOwn.never rfl (pi_range1 (by rfl) T.n_range (pa_cons (pe_int) pa_nil)) (pg_name (i := 4) sc__law_draws.nd rfl (.inl rfl)) (pss_one (ps_if (pt_cmpR op_gt (pv 3) (pe_int) (nomark _)) (pss_cons (ps_expr (pe_bm PySem.F.plainAttrs_list PySem.F.slot_list_append PySem.F.type_list_append mt_append (pv 1) (pa_cons (pe_op op_mod (pe_callTy call_int1 (by rfl) T.n_int (by decide +kernel) (pa_cons (pv 3) pa_nil)) (pe_int)) pa_nil)))
      (pss_one (ps_set (i := 3) sc__law_draws.nd rfl (.inl rfl) (pe_op op_fdiv (pv 3) (pe_int))))) pss_nil))))) (pss_cons (ps_set (i := 5) sc__law_draws.nd rfl (.inl rfl) (pe_op op_mod (pe_callTy call_int1 (by rfl) T.n_int (by decide +kernel) (pa_cons (pe_op op_add (pe_op op_mul (pv 2) (pe_int)) (pe_int)) pa_nil)) (pe_int)))
      (pss_cons (ps_expr (pe_bm PySem.F.plainAttrs_list PySem.F.slot_list_append PySem.F.type_list_append mt_append (pv 1) (pa_cons (pv 5) pa_nil)))
      (pss_one (ps_expr (pe_bm PySem.F.plainAttrs_list PySem.F.slot_list_append PySem.F.type_list_append mt_append (pv 1) (pa_cons (pe_op op_mod (pe_callTy call_int1 (by rfl) T.n_int (by decide +kernel) (pa_cons (pe_op op_add (pe_op op_add (pe_op op_mul (pv 5) (pv 5)) (pe_op op_mul (pe_int) (pv 5))) (pe_op op_mul (pe_int) (pe_callB call_len_seq (by rfl) T.n_len (by decide +kernel) (pa_cons (pv 1) pa_nil)))) pa_nil)) (pe_int)) pa_nil)))))))))
      (pss_one (ps_ret (pv 1))))), ?_⟩
    refine ⟨Nat.zero_le _, fun p hp => ?_⟩
    have s0 : Same H (upd H p (.lst [])) := same_new hp
    refine ⟨_, rfl, a, rfl, ⟨_, s0.seq hS⟩, for_list (K := K) (a := a) (xs := ns.map V.int) (fun i σ H' => ∃ (zs : List Int) (x2 x3 x4 x5 : Option V), σ = [some (.ref a), some (.ref p), x2, x3, x4, x5] ∧ Same H H' ∧ H' p = some (.lst (zs.map V.int)) ∧ zs.length ≤ 60 * i)
      ⟨[], _, _, _, _, rfl, s0, upd_same, Nat.zero_le _⟩ (fun i σ H' _ ⟨_, _, _, _, _, _, s1, _⟩ => s1.seq hS) ?_ ?_⟩
    · rintro i y σ H1 hi ⟨zs, x2, x3, x4, x5, rfl, s1, h1, hz⟩
      have hi63 : i < ns.length := by
        have z := (List.getElem?_eq_some_iff.mp hi).1
        rw [List.length_map] at z
        exact z
      obtain ⟨c, hc, rfl⟩ := get_int hi
      refine ⟨_, rfl, _, _, rfl, rfl, ⟨by decide, by decide, by decide⟩, ?_⟩
      walk_at "rd"
      refine iteD (fun c1 => ?_) (fun c1 => ?_)
      · refine ⟨_, rfl, .inl ⟨_, rfl, ?_⟩⟩
        refine ⟨60, rfl, by decide, by decide, for_range (lo := 0) (n := 60) (fun j σ H' => ∃ (zs : List Int) (r : Int) (x4 : Option V), σ = [some (.ref a), some (.ref p), some (.int c), some (.int r), x4, x5] ∧ Same H H' ∧ H' p = some (.lst (zs.map V.int)) ∧ zs.length ≤ 60 * i + j)
          ⟨zs, c, x4, rfl, s1, h1, hz⟩ ?_ ?_⟩
        · rintro j σ H2 hj ⟨zs, r, x4, rfl, s2, h2, hz2⟩
          walk_at "rd"
          refine iteD (fun c2 => ?_) (fun c2 => ?_)
          · refine ⟨_, rfl, .inl ⟨rfl, _, SqL.of h2⟩, _, rfl, .inl ⟨_, rfl, _, _, rfl, rfl, (by show (0 : Int) < 1000; decide), _, _, _, rfl, rfl, h2, by rw [List.length_map]; exact Nat.lt_of_le_of_lt (by omega : _ ≤ 100000) (by decide), ?_⟩⟩
            refine ⟨_, rfl, _, _, rfl, rfl, ⟨by decide, by decide⟩, ?_⟩
            exact ⟨zs ++ [r % 1000], _, _, rfl, same_mut s2 hp, by rw [upd_same, ints_app], by rw [List.length_append, List.length_singleton]; omega⟩
          · exact ⟨zs, r, _, rfl, s2, h2, by omega⟩
        · rintro σ H2 ⟨zs, r, x4, rfl, s2, h2, hz2⟩
          exact ⟨zs, _, _, _, _, rfl, s2, h2, by omega⟩
      · refine ⟨_, rfl, _, _, rfl, rfl, .inr ⟨by decide, by decide⟩, _, _, rfl, rfl, .inl ⟨_, rfl, _, _, rfl, rfl, (by show (0 : Int) < 9973; decide), ?_⟩⟩
        have hm0 : 0 ≤ (c * 48271 + 12345) % 9973 := Int.emod_nonneg _ (by decide)
        have hm1 : (c * 48271 + 12345) % 9973 < 9973 := Int.emod_lt_of_pos _ (by decide)
        refine ⟨_, rfl, .inl ⟨rfl, _, SqL.of h1⟩, _, rfl, _, _, _, rfl, rfl, h1, by rw [List.length_map]; exact Nat.lt_of_le_of_lt (by omega : _ ≤ 100000) (by decide), ?_⟩
        refine ⟨_, rfl, .inl ⟨rfl, _, SqL.of upd_same⟩, _, rfl, _, rfl, _, _, rfl, rfl, .inl ⟨by omega, by omega⟩, _, rfl, _, _, rfl, rfl, .inl ⟨by decide, by decide⟩, _, _, rfl, rfl, _, rfl, _, _, rfl, .inl (SqL.of upd_same), _, _, rfl, rfl, .inl ⟨by decide, by decide⟩, _, _, rfl, rfl, .inl ⟨_, rfl, _, _, rfl, rfl, (by show (0 : Int) < 9949; decide), ?_⟩⟩
        refine ⟨_, _, _, rfl, rfl, upd_same, by rw [List.length_append, List.length_map]; exact Nat.lt_of_le_of_lt (by simp; omega : _ ≤ 100000) (by decide), ?_⟩
        rw [ints_app, ints_app, upd_upd]
        exact ⟨_, _, _, _, _, rfl, same_mut s1 hp, upd_same, by simp; omega⟩
    · rintro σ H1 ⟨zs, x2, x3, x4, x5, rfl, s1, h1, hz⟩
      exact ⟨_, rfl, q p zs H1 s1 hp h1⟩
end
end My

namespace My
open PySem L2
/-! ### plain data -/
inductive Sc : V → PyData → Prop
  | non : Sc .non .none
  | bl (b : Bool) : Sc (.bl b) (.bool b)
  | int (i : Int) : Sc (.int i) (.int i)
  | str (z : Str) : Sc (.str z) (.str z)
/-- a list that stays where x alone is changed; a tuple likewise -/
def SL (K : PySem.W.Frag) (x : Addr) (H : Hp) (a : Addr) (xs : List V) : Prop := (a ≠ x ∧ SqL K H a xs) ∨ ∀ H', SqL K H' a xs
def SU (K : PySem.W.Frag) (x : Addr) (H : Hp) (a : Addr) (xs : List V) : Prop := (a ≠ x ∧ SqT K H a xs) ∨ ∀ H', SqT K H' a xs
section
variable {K : PySem.W.Frag} {x : Addr} {H H' : Hp} {a : Addr} {xs : List V}
theorem SL.sq (h : SL K x H a xs) : SqL K H a xs := by
  rcases h with h | h
  · exact h.2
  · exact h H
theorem SU.sq (h : SU K x H a xs) : SqT K H a xs := by
  rcases h with h | h
  · exact h.2
  · exact h H
theorem SL.but (h : SL K x H a xs) (e : But x H H') : SL K x H' a xs := by
  rcases h with ⟨n, h⟩ | h
  · exact .inl ⟨n, e.sqL n h⟩
  · exact .inr h
theorem SU.but (h : SU K x H a xs) (e : But x H H') : SU K x H' a xs := by
  rcases h with ⟨n, h⟩ | h
  · exact .inl ⟨n, e.sqT n h⟩
  · exact .inr h
theorem tyL (h : SqL K H a xs) : TyX K H (.ref a) (.type "list") := by
  rcases h with (h | ⟨o, h⟩) | ⟨o, its, n, h, c, _⟩
  · exact .base (.lst h)
  · exact .base (.frz h)
  · exact .kList h c
theorem tyT (h : SqT K H a xs) : TyX K H (.ref a) (.type "tuple") := by
  rcases h with (h | ⟨o, h⟩) | ⟨o, its, n, h, c, _⟩
  · exact .base (.tup h)
  · exact .fTuple h
  · exact .kTuple h c
end
/-- data of depth n at most -/
def Dn (K : PySem.W.Frag) (x : Addr) (H : Hp) : Nat → V → PyData → Prop
  | 0, v, d => Sc v d
  | n + 1, v, d => Sc v d ∨ (∃ a xs ds, v = .ref a ∧ d = .list ds ∧ SL K x H a xs ∧ xs.length ≤ 100000 ∧ Paired (Dn K x H n) xs ds) ∨ ∃ a xs ds, v = .ref a ∧ d = .tuple ds ∧ SU K x H a xs ∧ xs.length ≤ 100000 ∧ Paired (Dn K x H n) xs ds
theorem Dn.sc {K : PySem.W.Frag} {x : Addr} {H : Hp} {v : V} {d : PyData} (h : Sc v d) : ∀ n, Dn K x H n v d
  | 0 => h
  | _ + 1 => .inl h
theorem Dn.but {K : PySem.W.Frag} {x : Addr} {H H' : Hp} (e : But x H H') : ∀ {n : Nat} {v : V} {d : PyData}, Dn K x H n v d → Dn K x H' n v d
  | 0, _, _, h => h
  | n + 1, v, d, h => by
    rcases h with h | ⟨a, xs, ds, rfl, rfl, h, hz, p⟩ | ⟨a, xs, ds, rfl, rfl, h, hz, p⟩
    · exact .inl h
    · exact .inr (.inl ⟨a, xs, ds, rfl, rfl, h.but e, hz, L2.Paired.mapP p fun _ _ z => Dn.but e z⟩)
    · exact .inr (.inr ⟨a, xs, ds, rfl, rfl, h.but e, hz, L2.Paired.mapP p fun _ _ z => Dn.but e z⟩)
theorem Dn.lst {K : PySem.W.Frag} {x : Addr} {H : Hp} {n : Nat} {a : Addr} {xs : List V} {ds : List PyData} (ne : a ≠ x) (h : SqL K H a xs) (p : Paired (Dn K x H n) xs ds) (hz : xs.length ≤ 100000 := by simp) : Dn K x H (n + 1) (.ref a) (.list ds) :=
  .inr (.inl ⟨a, xs, ds, rfl, rfl, .inl ⟨ne, h⟩, hz, p⟩)
theorem Dn.tup {K : PySem.W.Frag} {x : Addr} {H : Hp} {n : Nat} {a : Addr} {xs : List V} {ds : List PyData} (ne : a ≠ x) (h : SqT K H a xs) (p : Paired (Dn K x H n) xs ds) (hz : xs.length ≤ 100000 := by simp) : Dn K x H (n + 1) (.ref a) (.tuple ds) :=
  .inr (.inr ⟨a, xs, ds, rfl, rfl, .inl ⟨ne, h⟩, hz, p⟩)
theorem Dn.int {K : PySem.W.Frag} {x : Addr} {H : Hp} (i : Int) {n : Nat} : Dn K x H n (.int i) (.int i) := Dn.sc (.int i) n
theorem Dn.str {K : PySem.W.Frag} {x : Addr} {H : Hp} (i : Str) {n : Nat} : Dn K x H n (.str i) (.str i) := Dn.sc (.str i) n
theorem Dn.bl {K : PySem.W.Frag} {x : Addr} {H : Hp} (i : Bool) {n : Nat} : Dn K x H n (.bl i) (.bool i) := Dn.sc (.bl i) n
theorem Dn.non {K : PySem.W.Frag} {x : Addr} {H : Hp} {n : Nat} : Dn K x H n .non .none := Dn.sc .non n
theorem Dn.up {K : PySem.W.Frag} {x : Addr} {H : Hp} : ∀ {n : Nat} {v : V} {d : PyData}, Dn K x H n v d → Dn K x H (n + 1) v d
  | 0, _, _, h => .inl h
  | n + 1, v, d, h => by
    rcases h with h | ⟨a, xs, ds, rfl, rfl, h, hz, p⟩ | ⟨a, xs, ds, rfl, rfl, h, hz, p⟩
    · exact .inl h
    · exact .inr (.inl ⟨a, xs, ds, rfl, rfl, h, hz, L2.Paired.mapP p fun _ _ z => Dn.up z⟩)
    · exact .inr (.inr ⟨a, xs, ds, rfl, rfl, h, hz, L2.Paired.mapP p fun _ _ z => Dn.up z⟩)
theorem pair_get {α β : Type} {F : α → β → Prop} : ∀ {l : List α} {m : List β} {i : Nat} {x : α}, Paired F l m → l[i]? = some x → ∃ y, m[i]? = some y ∧ F x y
  | _, _, _, _, .nil, e => by simp at e
  | _, _, 0, _, .cons r _, e => by simp at e; subst e; exact ⟨_, rfl, r⟩
  | _, _, i + 1, x, .cons _ t, e => by
    obtain ⟨y, h1, h2⟩ := pair_get (i := i) (x := x) t (by simpa using e)
    exact ⟨y, by simpa using h1, h2⟩
theorem pair_len {α β : Type} {F : α → β → Prop} : ∀ {l : List α} {m : List β}, Paired F l m → l.length = m.length
  | _, _, .nil => rfl
  | _, _, .cons _ t => by rw [List.length_cons, List.length_cons, pair_len t]
noncomputable def sameD (d e : PyData) : Bool := @decide (d = e) (Classical.propDecidable _)
theorem same_yes {d e : PyData} (h : d = e) : sameD d e = true := by unfold sameD; exact @decide_eq_true _ (Classical.propDecidable _) h
theorem same_no {d e : PyData} (h : d ≠ e) : sameD d e = false := by unfold sameD; exact @decide_eq_false _ (Classical.propDecidable _) h
theorem same_iff {d e : PyData} : sameD d e = true ↔ d = e := by
  constructor
  · intro h
    by_cases q : d = e
    · exact q
    · rw [same_no q] at h; cases h
  · exact same_yes
theorem same_of {p : Prop} [Decidable p] {d e : PyData} (h : d = e ↔ p) : sameD d e = decide p := by
  by_cases q : p
  · rw [decide_eq_true q, same_yes (h.mpr q)]
  · rw [decide_eq_false q, same_no (fun z => q (h.mp z))]
def spSame (K : PySem.W.Frag) (n : Nat) : Sp := fun vs H Q _ => ∃ (x : Addr) (v1 v2 : V) (d1 d2 : PyData), vs = [v1, v2] ∧ Dn K x H n v1 d1 ∧ Dn K x H n v2 d2 ∧ Q (.bl (sameD d1 d2)) H
end My
local macro_rules | `(tactic| walk_at "ty") => `(tactic| first | exact .base (.int _) | exact .base (.bl _) | exact .base .non | exact .base (.str _) | exact My.tyL (by assumption) | exact My.tyT (by assumption))
local macro_rules | `(tactic| walk_at "is") => `(tactic| first | refine ⟨_, _, _, _, true, rfl, L2.ClsV.ty _, (by walk_at "ty"), L2.kit_ty (by decide +kernel), ?_⟩ | refine ⟨_, _, _, _, false, rfl, L2.ClsV.ty _, (by walk_at "ty"), L2.kit_ty (by decide +kernel), ?_⟩)
local macro_rules | `(tactic| walk_at "ri") => `(tactic| repeat (first | walk_at "is" | refine ⟨_, rfl, ?_⟩ | refine ⟨rfl, ?_⟩))
namespace My
open PySem L2
theorem same_bl (a b : Bool) : sameD (.bool a) (.bool b) = decide (V.bl a = V.bl b) := same_of ⟨fun h => by cases h; rfl, fun h => by cases h; rfl⟩
theorem same_int (a b : Int) : sameD (.int a) (.int b) = decide (V.int a = V.int b) := same_of ⟨fun h => by cases h; rfl, fun h => by cases h; rfl⟩
theorem same_str (a b : Str) : sameD (.str a) (.str b) = decide (V.str a = V.str b) := same_of ⟨fun h => by cases h; rfl, fun h => by cases h; rfl⟩
theorem same_non : sameD .none .none = true := same_yes rfl
theorem same_lst (a b : List PyData) : sameD (.list a) (.list b) = true ↔ a = b := same_iff.trans ⟨fun h => by cases h; rfl, fun h => by cases h; rfl⟩
theorem same_tup (a b : List PyData) : sameD (.tuple a) (.tuple b) = true ↔ a = b := same_iff.trans ⟨fun h => by cases h; rfl, fun h => by cases h; rfl⟩
section
variable {P : Program} {w : World} {K : PySem.W.Frag} {mg : Str → Option Value} {base : Heap}
set_option maxHeartbeats 8000000 in
theorem ok__law_same (T : Txt K mg) : ∀ n, FnOk P w K mg base CX0 (n + 1) T.a__law_same T.fd__law_same ["_law_actual", "_law_expected"] (spSame K n)
  | 0 => by
    refine T.F__law_same.ok sc__law_same (fun vs H Q E h => ?_) (fun cdv A outer s H vs Q E hr h => ?_)
    · obtain ⟨x, v1, v2, d1, d2, rfl, _⟩ := h; rfl
    · obtain ⟨x, v1, v2, d1, d2, rfl, h1, h2, q⟩ := h
      refine ⟨_, (pss_cons (ps_if (PW.pt (pw_or (pt_val (pe_callB call_isi (by rfl) T.n_isinstance (by decide +kernel) (pa_cons (pv 0) (pa_cons (pe_bltn (v := .ty "bool") (by rfl) T.n_bool (by decide +kernel) rfl) pa_nil)))) (pw_or1 (pt_val (pe_callB call_isi (by rfl) T.n_isinstance (by decide +kernel) (pa_cons (pv 1) (pa_cons (pe_bltn (v := .ty "bool") (by rfl) T.n_bool (by decide +kernel) rfl) pa_nil))))))) (pss_one (ps_ret (pe_and (pe_callB call_isi (by rfl) T.n_isinstance (by decide +kernel) (pa_cons (pv 0) (pa_cons (pe_bltn (v := .ty "bool") (by rfl) T.n_bool (by decide +kernel) rfl) pa_nil))) (pe_and (pe_callB call_isi (by rfl) T.n_isinstance (by decide +kernel) (pa_cons (pv 1) (pa_cons (pe_bltn (v := .ty "bool") (by rfl) T.n_bool (by decide +kernel) rfl) pa_nil))) (pe_one (pe_cmpR op_eq (pv 0) (pv 1) (nomark _))))))) pss_nil)
      (pss_cons (ps_if (PW.pt (pw_or (pt_cmpR op_isN (pv 0) (pe_non) (nomark _)) (pw_or1 (pt_cmpR op_isN (pv 1) (pe_non) (nomark _))))) (pss_one (ps_ret (pe_and (pe_cmpR op_isN (pv 0) (pe_non) (nomark _)) (pe_one (pe_cmpR op_isN (pv 1) (pe_non) (nomark _)))))) pss_nil)
      (pss_cons (ps_if (pt_val (pe_callB call_isi (by rfl) T.n_isinstance (by decide +kernel) (pa_cons (pv 1) (pa_cons (pe_bltn (v := .ty "int") (by rfl) T.n_int (by decide +kernel) rfl) pa_nil)))) (pss_one (ps_ret (pe_and (pe_callB call_isi (by rfl) T.n_isinstance (by decide +kernel) (pa_cons (pv 0) (pa_cons (pe_bltn (v := .ty "int") (by rfl) T.n_int (by decide +kernel) rfl) pa_nil))) (pe_one (pe_cmpR op_eq (pv 0) (pv 1) (nomark _)))))) pss_nil)
      (pss_cons (ps_if (pt_val (pe_callB call_isi (by rfl) T.n_isinstance (by decide +kernel) (pa_cons (pv 1) (pa_cons (pe_bltn (v := .ty "str") (by rfl) T.n_str (by decide +kernel) rfl) pa_nil)))) (pss_one (ps_ret (pe_and (pe_callB call_isi (by rfl) T.n_isinstance (by decide +kernel) (pa_cons (pv 0) (pa_cons (pe_bltn (v := .ty "str") (by rfl) T.n_str (by decide +kernel) rfl) pa_nil))) (pe_one (pe_cmpR op_eq (pv 0) (pv 1) (nomark _)))))) pss_nil)
      (pss_cons (ps_if (PW.pt (pw_and (pt_val (pe_callB call_isi (by rfl) T.n_isinstance (by decide +kernel) (pa_cons (pv 1) (pa_cons (pe_bltn (v := .ty "tuple") (by rfl) T.n_tuple (by decide +kernel) rfl) pa_nil)))) (pw_and1 (pt_not (pt_val (pe_callB call_isi (by rfl) T.n_isinstance (by decide +kernel) (pa_cons (pv 0) (pa_cons (pe_bltn (v := .ty "tuple") (by rfl) T.n_tuple (by decide +kernel) rfl) pa_nil)))))))) (pss_one (ps_ret (pe_bl))) pss_nil)
      (pss_cons (ps_if (PW.pt (pw_and (pt_val (pe_callB call_isi (by rfl) T.n_isinstance (by decide +kernel) (pa_cons (pv 1) (pa_cons (pe_bltn (v := .ty "list") (by rfl) T.n_list (by decide +kernel) rfl) pa_nil)))) (pw_and1 (pt_not (pt_val (pe_callB call_isi (by rfl) T.n_isinstance (by decide +kernel) (pa_cons (pv 0) (pa_cons (pe_bltn (v := .ty "list") (by rfl) T.n_list (by decide +kernel) rfl) pa_nil)))))))) (pss_one (ps_ret (pe_bl))) pss_nil)
      (pss_cons (ps_if (pt_cmpR op_ne (pe_callB call_len_seq (by rfl) T.n_len (by decide +kernel) (pa_cons (pv 0) pa_nil)) (pe_callB call_len_seq (by rfl) T.n_len (by decide +kernel) (pa_cons (pv 1) pa_nil)) (nomark _)) (pss_one (ps_ret (pe_bl))) pss_nil)
      (pss_cons ps_never
      (pss_one (ps_ret (pe_bl))))))))))), ?_⟩
      cases h1 <;> cases h2
      all_goals walk_at "ri"
      all_goals first | (rw [same_no (by intro z; cases z)] at q; exact q) | (rw [same_bl] at q; exact q) | (rw [same_int] at q; exact q) | (rw [same_str] at q; exact q) | (rw [same_non] at q; exact q)
  | n + 1 => by
    refine T.F__law_same.ok sc__law_same (fun vs H Q E h => ?_) (fun cdv A outer s H vs Q E hr h => ?_)
    · obtain ⟨x, v1, v2, d1, d2, rfl, _⟩ := h; rfl
    · obtain ⟨x, v1, v2, d1, d2, rfl, h1, h2, q⟩ := h
      refine ⟨_, (pss_cons (ps_if (PW.pt (pw_or (pt_val (pe_callB call_isi (by rfl) T.n_isinstance (by decide +kernel) (pa_cons (pv 0) (pa_cons (pe_bltn (v := .ty "bool") (by rfl) T.n_bool (by decide +kernel) rfl) pa_nil)))) (pw_or1 (pt_val (pe_callB call_isi (by rfl) T.n_isinstance (by decide +kernel) (pa_cons (pv 1) (pa_cons (pe_bltn (v := .ty "bool") (by rfl) T.n_bool (by decide +kernel) rfl) pa_nil))))))) (pss_one (ps_ret (pe_and (pe_callB call_isi (by rfl) T.n_isinstance (by decide +kernel) (pa_cons (pv 0) (pa_cons (pe_bltn (v := .ty "bool") (by rfl) T.n_bool (by decide +kernel) rfl) pa_nil))) (pe_and (pe_callB call_isi (by rfl) T.n_isinstance (by decide +kernel) (pa_cons (pv 1) (pa_cons (pe_bltn (v := .ty "bool") (by rfl) T.n_bool (by decide +kernel) rfl) pa_nil))) (pe_one (pe_cmpR op_eq (pv 0) (pv 1) (nomark _))))))) pss_nil)
      (pss_cons (ps_if (PW.pt (pw_or (pt_cmpR op_isN (pv 0) (pe_non) (nomark _)) (pw_or1 (pt_cmpR op_isN (pv 1) (pe_non) (nomark _))))) (pss_one (ps_ret (pe_and (pe_cmpR op_isN (pv 0) (pe_non) (nomark _)) (pe_one (pe_cmpR op_isN (pv 1) (pe_non) (nomark _)))))) pss_nil)
      (pss_cons (ps_if (pt_val (pe_callB call_isi (by rfl) T.n_isinstance (by decide +kernel) (pa_cons (pv 1) (pa_cons (pe_bltn (v := .ty "int") (by rfl) T.n_int (by decide +kernel) rfl) pa_nil)))) (pss_one (ps_ret (pe_and (pe_callB call_isi (by rfl) T.n_isinstance (by decide +kernel) (pa_cons (pv 0) (pa_cons (pe_bltn (v := .ty "int") (by rfl) T.n_int (by decide +kernel) rfl) pa_nil))) (pe_one (pe_cmpR op_eq (pv 0) (pv 1) (nomark _)))))) pss_nil)
      (pss_cons (ps_if (pt_val (pe_callB call_isi (by rfl) T.n_isinstance (by decide +kernel) (pa_cons (pv 1) (pa_cons (pe_bltn (v := .ty "str") (by rfl) T.n_str (by decide +kernel) rfl) pa_nil)))) (pss_one (ps_ret (pe_and (pe_callB call_isi (by rfl) T.n_isinstance (by decide +kernel) (pa_cons (pv 0) (pa_cons (pe_bltn (v := .ty "str") (by rfl) T.n_str (by decide +kernel) rfl) pa_nil))) (pe_one (pe_cmpR op_eq (pv 0) (pv 1) (nomark _)))))) pss_nil)
      (pss_cons (ps_if (PW.pt (pw_and (pt_val (pe_callB call_isi (by rfl) T.n_isinstance (by decide +kernel) (pa_cons (pv 1) (pa_cons (pe_bltn (v := .ty "tuple") (by rfl) T.n_tuple (by decide +kernel) rfl) pa_nil)))) (pw_and1 (pt_not (pt_val (pe_callB call_isi (by rfl) T.n_isinstance (by decide +kernel) (pa_cons (pv 0) (pa_cons (pe_bltn (v := .ty "tuple") (by rfl) T.n_tuple (by decide +kernel) rfl) pa_nil)))))))) (pss_one (ps_ret (pe_bl))) pss_nil)
      (pss_cons (ps_if (PW.pt (pw_and (pt_val (pe_callB call_isi (by rfl) T.n_isinstance (by decide +kernel) (pa_cons (pv 1) (pa_cons (pe_bltn (v := .ty "list") (by rfl) T.n_list (by decide +kernel) rfl) pa_nil)))) (pw_and1 (pt_not (pt_val (pe_callB call_isi (by rfl) T.n_isinstance (by decide +kernel) (pa_cons (pv 0) (pa_cons (pe_bltn (v := .ty "list") (by rfl) T.n_list (by decide +kernel) rfl) pa_nil)))))))) (pss_one (ps_ret (pe_bl))) pss_nil)
      (pss_cons (ps_if (pt_cmpR op_ne (pe_callB call_len_seq (by rfl) T.n_len (by decide +kernel) (pa_cons (pv 0) pa_nil)) (pe_callB call_len_seq (by rfl) T.n_len (by decide +kernel) (pa_cons (pv 1) pa_nil)) (nomark _)) (pss_one (ps_ret (pe_bl))) pss_nil)
      (pss_cons (ps_for PassesOwn.never rfl (pi_range1 (by rfl) T.n_range (pa_cons (pe_callB call_len_seq (by rfl) T.n_len (by decide +kernel) (pa_cons (pv 1) pa_nil)) pa_nil)) (pg_name (i := 2) sc__law_same.nd rfl (.inl rfl)) (pss_one (ps_if (pt_not (pt_val (pe_call (ok__law_same T n) (hr.mono (by omega)) (by rfl) T.g__law_same T.F__law_same.kp T.b__law_same .nil pass0 (pa_cons (pe_ix ix_seq (pv 0) (pv 2) (fun _ _ => rfl)) (pa_cons (pe_ix ix_seq (pv 1) (pv 2) (fun _ _ => rfl)) pa_nil))))) (pss_one (ps_ret (pe_bl))) pss_nil)))
      (pss_one (ps_ret (pe_bl))))))))))), ?_⟩
      rcases h1 with h1 | ⟨a1, xs1, ds1, rfl, rfl, h1, z1, p1⟩ | ⟨a1, xs1, ds1, rfl, rfl, h1, z1, p1⟩ <;> rcases h2 with h2 | ⟨a2, xs2, ds2, rfl, rfl, h2, z2, p2⟩ | ⟨a2, xs2, ds2, rfl, rfl, h2, z2, p2⟩
      · cases h1 <;> cases h2
        all_goals walk_at "ri"
        all_goals first | (rw [same_no (by intro z; cases z)] at q; exact q) | (rw [same_bl] at q; exact q) | (rw [same_int] at q; exact q) | (rw [same_str] at q; exact q) | (rw [same_non] at q; exact q)
      · have t2 := h2.sq
        cases h1
        all_goals (walk_at "ri"; rw [same_no (by intro z; cases z)] at q; exact q)
      · have t2 := h2.sq
        cases h1
        all_goals (walk_at "ri"; rw [same_no (by intro z; cases z)] at q; exact q)
      · have t1 := h1.sq
        cases h2
        all_goals (walk_at "ri"; rw [same_no (by intro z; cases z)] at q; exact q)
      · have t1 := h1.sq
        have t2 := h2.sq
        walk_at "ri"
        refine ⟨_, _, rfl, .inl t1, _, rfl, _, _, rfl, .inl t2, rfl, _, rfl, ?_⟩
        have l1 := pair_len p1
        have l2 := pair_len p2
        refine iteN (fun c => ?_) (fun c => ?_)
        · rw [same_no (by intro z; cases z; exact c (by rw [l1, l2]))] at q; exact q
        have c' : xs1.length = xs2.length := by have := V.int.inj c; omega
        refine ⟨_, rfl, _, _, rfl, .inl t2, _, rfl, by omega, by omega, for_range (lo := 0) (n := _) (fun j σ H' => ∃ x2, σ = [some (.ref a1), some (.ref a2), x2] ∧ H' = H ∧ ds1.take j = ds2.take j) ⟨_, rfl, rfl, rfl⟩ ?_ ?_⟩
        · rintro j σ H1 hj ⟨x2, rfl, rfl, et⟩
          have j2 : j < xs2.length := by omega
          have j1 : j < xs1.length := by omega
          obtain ⟨e1, g1, r1⟩ := pair_get p1 (List.getElem?_eq_getElem j1)
          obtain ⟨e2, g2, r2⟩ := pair_get p2 (List.getElem?_eq_getElem j2)
          refine ⟨_, rfl, _, rfl, .inl ⟨_, _, _, _, rfl, rfl, t1, at_of (j := j) (by omega) (List.getElem?_eq_getElem j1), ?_⟩⟩
          refine ⟨_, rfl, _, rfl, .inl ⟨_, _, _, _, rfl, rfl, t2, at_of (j := j) (by omega) (List.getElem?_eq_getElem j2), ?_⟩⟩
          refine ⟨x, _, _, e1, e2, rfl, r1, r2, _, rfl, ?_⟩
          refine iteB (fun b => ?_) (fun b => ?_)
          · have ne : e1 ≠ e2 := fun h => by rw [same_yes h] at b; cases b
            rw [same_no (by intro z; cases z; rw [g1] at g2; exact ne (Option.some.inj g2))] at q; exact q
          · have ee : e1 = e2 := by
              apply same_iff.mp
              cases h : sameD e1 e2 with
              | true => rfl
              | false => rw [h] at b; cases b
            subst ee
            exact ⟨_, rfl, rfl, by rw [List.take_add_one, List.take_add_one, et, g1, g2]⟩
        · rintro σ H1 ⟨x2, rfl, rfl, et⟩
          have ed : ds1 = ds2 := by
            rw [List.take_of_length_le (by omega), List.take_of_length_le (by omega)] at et
            exact et
          subst ed
          rw [same_yes rfl] at q; exact q
      · have t1 := h1.sq
        have t2 := h2.sq
        walk_at "ri"
        rw [same_no (by intro z; cases z)] at q; exact q
      · have t1 := h1.sq
        cases h2
        all_goals (walk_at "ri"; rw [same_no (by intro z; cases z)] at q; exact q)
      · have t1 := h1.sq
        have t2 := h2.sq
        walk_at "ri"
        rw [same_no (by intro z; cases z)] at q; exact q
      · have t1 := h1.sq
        have t2 := h2.sq
        walk_at "ri"
        refine ⟨_, _, rfl, .inr t1, _, rfl, _, _, rfl, .inr t2, rfl, _, rfl, ?_⟩
        have l1 := pair_len p1
        have l2 := pair_len p2
        refine iteN (fun c => ?_) (fun c => ?_)
        · rw [same_no (by intro z; cases z; exact c (by rw [l1, l2]))] at q; exact q
        have c' : xs1.length = xs2.length := by have := V.int.inj c; omega
        refine ⟨_, rfl, _, _, rfl, .inr t2, _, rfl, by omega, by omega, for_range (lo := 0) (n := _) (fun j σ H' => ∃ x2, σ = [some (.ref a1), some (.ref a2), x2] ∧ H' = H ∧ ds1.take j = ds2.take j) ⟨_, rfl, rfl, rfl⟩ ?_ ?_⟩
        · rintro j σ H1 hj ⟨x2, rfl, rfl, et⟩
          have j2 : j < xs2.length := by omega
          have j1 : j < xs1.length := by omega
          obtain ⟨e1, g1, r1⟩ := pair_get p1 (List.getElem?_eq_getElem j1)
          obtain ⟨e2, g2, r2⟩ := pair_get p2 (List.getElem?_eq_getElem j2)
          refine ⟨_, rfl, _, rfl, .inr (.inl ⟨_, _, _, _, rfl, rfl, t1, at_of (j := j) (by omega) (List.getElem?_eq_getElem j1), ?_⟩)⟩
          refine ⟨_, rfl, _, rfl, .inr (.inl ⟨_, _, _, _, rfl, rfl, t2, at_of (j := j) (by omega) (List.getElem?_eq_getElem j2), ?_⟩)⟩
          refine ⟨x, _, _, e1, e2, rfl, r1, r2, _, rfl, ?_⟩
          refine iteB (fun b => ?_) (fun b => ?_)
          · have ne : e1 ≠ e2 := fun h => by rw [same_yes h] at b; cases b
            rw [same_no (by intro z; cases z; rw [g1] at g2; exact ne (Option.some.inj g2))] at q; exact q
          · have ee : e1 = e2 := by
              apply same_iff.mp
              cases h : sameD e1 e2 with
              | true => rfl
              | false => rw [h] at b; cases b
            subst ee
            exact ⟨_, rfl, rfl, by rw [List.take_add_one, List.take_add_one, et, g1, g2]⟩
        · rintro σ H1 ⟨x2, rfl, rfl, et⟩
          have ed : ds1 = ds2 := by
            rw [List.take_of_length_le (by omega), List.take_of_length_le (by omega)] at et
            exact et
          subst ed
          rw [same_yes rfl] at q; exact q
end
theorem nsame {d : PyData} : (!sameD d d) = false := by rw [same_yes rfl]; rfl
end My

namespace My
open PySem L2
/-! ### steps, programs -/
abbrev Stp := Str × Int
def StpAt (H : Hp) (v : V) (s : Stp) : Prop := ∃ t, v = .ref t ∧ H t = some (.tup [.str s.1, .int s.2])
abbrev Stps (H : Hp) (vs : List V) (ss : List Stp) : Prop := Paired (StpAt H) vs ss
/-- tuples stay -/
def TKeep (H H' : Hp) : Prop := ∀ t xs, H t = some (.tup xs) → H' t = some (.tup xs)
theorem TKeep.refl (H : Hp) : TKeep H H := fun _ _ h => h
theorem TKeep.trans {H H1 H2 : Hp} (a : TKeep H H1) (b : TKeep H1 H2) : TKeep H H2 := fun t xs h => b t xs (a t xs h)
theorem TKeep.same {H H' : Hp} (s : Same H H') : TKeep H H' := fun t xs h => s t _ h
theorem TKeep.but {x : Addr} {H H' : Hp} (b : But x H H') (n : ∀ xs, H x ≠ some (.tup xs)) : TKeep H H' := fun t xs h => b t _ (fun e => n xs (e ▸ h)) h
theorem Stps.keep {H H' : Hp} {vs : List V} {ss : List Stp} (h : Stps H vs ss) (k : TKeep H H') : Stps H' vs ss := L2.Paired.mapP h fun _ _ ⟨t, e, q⟩ => ⟨t, e, k t _ q⟩
theorem Stps.same {H H' : Hp} {vs : List V} {ss : List Stp} (h : Stps H vs ss) (s : Same H H') : Stps H' vs ss := h.keep (.same s)
theorem pair_app {α β : Type} {F : α → β → Prop} : ∀ {l l' : List α} {m m' : List β}, Paired F l m → Paired F l' m' → Paired F (l ++ l') (m ++ m')
  | _, _, _, _, .nil, q => q
  | _, _, _, _, .cons r t, q => .cons r (pair_app t q)
theorem pair_take {α β : Type} {F : α → β → Prop} : ∀ {l : List α} {m : List β} (n : Nat), Paired F l m → Paired F (l.take n) (m.take n)
  | _, _, 0, _ => .nil
  | _, _, _ + 1, .nil => .nil
  | _, _, n + 1, .cons r t => .cons r (pair_take n t)
theorem pair_drop {α β : Type} {F : α → β → Prop} : ∀ {l : List α} {m : List β} (n : Nat), Paired F l m → Paired F (l.drop n) (m.drop n)
  | _, _, 0, h => h
  | _, _, _ + 1, .nil => .nil
  | _, _, n + 1, .cons _ t => pair_drop n t
def goodS (s : Stp) : Prop := (s.1 = "own" ∨ s.1 = "share" ∨ s.1 = "drop") ∧ 0 ≤ s.2
def deedsV : List V := [.str "own", .str "share", .str "drop"]
theorem inDeeds {z : Str} (h : z = "own" ∨ z = "share" ∨ z = "drop") : inV (.str z) deedsV = true := by rcases h with rfl | rfl | rfl <;> decide +kernel
/-- a program of the class at C -/
def Pg (C : Addr) (H : Hp) (x : Addr) (ss : List Stp) : Prop := ∃ dx l vs, H x = some (.ins C dx [("_steps", .ref l)]) ∧ H l = some (.lst vs) ∧ Stps H vs ss ∧ vs.length ≤ 1000
theorem Pg.same {C : Addr} {H H' : Hp} {x : Addr} {ss : List Stp} (h : Pg C H x ss) (s : Same H H') : Pg C H' x ss := let ⟨dx, l, vs, a, b, c, d⟩ := h; ⟨dx, l, vs, s _ _ a, s _ _ b, c.same s, d⟩
theorem steps_look (l : Addr) : ([("_steps", V.ref l)] : List (Str × V)).lookup ("_steps" : Str) = some (.ref l) := by rfl
/-- the data of steps -/
def stpD (s : Stp) : PyData := .tuple [.str s.1, .int s.2]
theorem stpD_inj {a b : Stp} (h : stpD a = stpD b) : a = b := by
  unfold stpD at h
  simp only [PyData.tuple.injEq, List.cons.injEq, PyData.str.injEq, PyData.int.injEq, and_true] at h
  exact Prod.ext h.1 h.2
theorem stpsD_inj : ∀ {a b : List Stp}, a.map stpD = b.map stpD → a = b
  | [], [], _ => rfl
  | [], _ :: _, h => by simp at h
  | _ :: _, [], h => by simp at h
  | x :: a, y :: b, h => by
    simp only [List.map_cons, List.cons.injEq] at h
    rw [stpD_inj h.1, stpsD_inj h.2]
theorem stpsDn {K : PySem.W.Frag} {x : Addr} {H : Hp} {vs : List V} {ss : List Stp} (h : Stps H vs ss) (n : ∀ xs, H x ≠ some (.tup xs)) : Paired (Dn K x H 1) vs (ss.map stpD) := by
  induction h with
  | nil => exact .nil
  | cons r t ih =>
    obtain ⟨t, rfl, e⟩ := r
    exact .cons (Dn.tup (fun q => n _ (q ▸ e)) (SqT.of e) (.cons (.str _) (.cons (.int _) .nil))) ih
theorem stpsDL {K : PySem.W.Frag} {x l : Addr} {H : Hp} {vs : List V} {ss : List Stp} (hl : H l = some (.lst vs)) (h : Stps H vs ss) (nl : l ≠ x) (n : ∀ xs, H x ≠ some (.tup xs)) (hz : vs.length ≤ 100000) : Dn K x H 2 (.ref l) (.list (ss.map stpD)) :=
  Dn.lst nl (SqL.of hl) (stpsDn h n) hz
end My

namespace My
open PySem L2
instance (s : Stp) : Decidable (goodS s) := by unfold goodS; exact inferInstance
/-- a step, in a tuple or in a list -/
def StpV (H : Hp) (v : V) (s : Stp) : Prop := ∃ p, v = .ref p ∧ (H p = some (.tup [.str s.1, .int s.2]) ∨ H p = some (.lst [.str s.1, .int s.2]))
abbrev StpsV (H : Hp) (vs : List V) (ss : List Stp) : Prop := Paired (StpV H) vs ss
theorem StpV.same {H H' : Hp} {v : V} {s : Stp} (h : StpV H v s) (e : Same H H') : StpV H' v s := by
  obtain ⟨p, a, b | b⟩ := h
  · exact ⟨p, a, .inl (e _ _ b)⟩
  · exact ⟨p, a, .inr (e _ _ b)⟩
theorem stpsV_same {H H' : Hp} {vs : List V} {ss : List Stp} (h : StpsV H vs ss) (e : Same H H') : StpsV H' vs ss := L2.Paired.mapP h fun _ _ x => x.same e
theorem Stps.toV {H : Hp} {vs : List V} {ss : List Stp} (h : Stps H vs ss) : StpsV H vs ss := L2.Paired.mapP h fun _ _ ⟨t, e, q⟩ => ⟨t, e, .inl q⟩
def firstBad (ss : List Stp) : Option Stp := ss.find? fun s => decide (¬ goodS s)
theorem no_bad {ss : List Stp} : firstBad ss = none ↔ ∀ s ∈ ss, goodS s := by
  unfold firstBad
  rw [List.find?_eq_none]
  simp
theorem bad_not {ss : List Stp} {s : Stp} (h : firstBad ss = some s) : ¬ goodS s := by
  have := List.find?_some h
  simpa using this
theorem bad_at {ss : List Stp} {i : Nat} {s : Stp} (hi : ss[i]? = some s) (hb : ¬ goodS s) (hg : ∀ r ∈ ss.take i, goodS r) : firstBad ss = some s := by
  unfold firstBad
  have e : ss = ss.take i ++ s :: ss.drop (i + 1) := by
    obtain ⟨h1, h2⟩ := List.getElem?_eq_some_iff.mp hi
    rw [← h2, ← List.drop_eq_getElem_cons h1, List.take_append_drop]
  rw [e, List.find?_append, List.find?_eq_none.mpr (by intro r hr; simpa using hg r hr)]
  simp [List.find?_cons, hb]
/-- what a spoilt step raises -/
abbrev BadE (X : Addr) (H : Hp) (E : XK) (s : Stp) : Prop := ∀ H' d q, Same H H' → H d = none → H q = none → H' d = some (.xd [("step", .ref q)]) → H' q = some (.tup [.str s.1, .int s.2]) → E (.ref X) (some d) H'
def spSoundX (X : Addr) : Sp := fun vs H Q E => ∃ (v : V) (s : Stp), vs = [v] ∧ StpV H v s ∧ (goodS s → ∀ p, H p = none → Q (.ref p) (upd H p (.tup [.str s.1, .int s.2]))) ∧ (¬ goodS s → BadE X H E s)
def spPInitX (C X : Addr) : Sp := fun vs H Q E => ∃ (x dx p : Addr) (us : List V) (ss : List Stp), vs = [.ref x, .ref p] ∧ H x = some (.ins C dx []) ∧ H p = some (.tup us) ∧ StpsV H us ss ∧ us.length ≤ 1000 ∧
  (firstBad ss = none → ∀ H' l vs', But x H H' → H' x = some (.ins C dx [("_steps", .ref l)]) → H l = none → H' l = some (.lst vs') → Stps H' vs' ss → vs'.length = us.length → Q .non H') ∧
  (∀ s, firstBad ss = some s → BadE X H E s)
theorem inDeeds_iff (z : Str) : inV (.str z) deedsV = true ↔ (z = "own" ∨ z = "share" ∨ z = "drop") := by
  constructor
  · intro h
    unfold inV deedsV at h
    simp [eqV] at h
    rcases h with h | h | h
    · exact .inl h.symm
    · exact .inr (.inl h.symm)
    · exact .inr (.inr h.symm)
  · exact inDeeds
/-- what C(..) asks, of the new instance at x -/
theorem init_pgX {C X x dx : Addr} {H : Hp} {us : List V} {ss : List Stp} {Q : VK} {E : XK} (hx : H x = some (.ins C dx [])) (hs : StpsV H us ss) (hl : us.length ≤ 1000)
    (q : firstBad ss = none → ∀ H', But x H H' → Pg C H' x ss → Q .non H') (qb : ∀ s, firstBad ss = some s → BadE X H E s) : spStar 1 (spPInitX C X) (.ref x :: us) H Q E :=
  ⟨[.ref x], us, rfl, rfl, Nat.le_trans hl (by decide), fun p np => ⟨x, dx, p, us, ss, rfl, same_new np _ _ hx, upd_same, stpsV_same hs (same_new np), hl, fun hb H' l vs' b h1 _ h2 h3 h4 =>
    q hb H' (fun y o n h => b y o n (same_new np _ _ h)) ⟨dx, l, vs', h1, h2, h3, by omega⟩, fun s hb H' d q s' nd nq => qb s hb H' d q ((same_new np).trans s') ((same_new np).free nd) ((same_new np).free nq)⟩⟩
section
variable {w : World} {K : PySem.W.Frag} {mg : Str → Option Value} {base : Heap}
theorem ok_sound_step (T : Txt K mg) : FnOk PP w K mg base (L2.CX PP w) 2 T.a_sound_step T.fd_sound_step ["step"] (spSoundX T.c_BadStep) := by
  refine T.F_sound_step.okX sc_sound_step (fun vs H Q E h => ?_) (fun cdv A outer s H vs Q E hr h => ?_)
  · obtain ⟨v, s, rfl, _⟩ := h; rfl
  · obtain ⟨v, sp, rfl, ⟨p, rfl, hp⟩, qg, qb⟩ := h
    refine ⟨_, (pss_cons (ps_asg (pv 0) (pg_seq rfl (pgs_cons (pg_name (i := 1) sc_sound_step.nd rfl (.inl rfl)) (pgs_cons (pg_name (i := 2) sc_sound_step.nd rfl (.inl rfl)) pgs_nil))))
      (pss_cons (ps_if (PW.pt (pw_or (pt_cmpR op_notIn_seq (pv 1) (pe_glob (v := .ref T.k_DEEDS) (by rfl) T.g_DEEDS rfl) (by with_unfolding_all rfl)) (pw_or1 (pt_cmpR op_lt (pv 2) (pe_int) (nomark _))))) (pss_one (ps_raiseX rfl T.x_BadStep hr (takes_of rfl rfl rfl rfl) (pa_cons (pe_tup (pa_cons (pv 1) (pa_cons (pv 2) pa_nil))) pa_nil))) pss_nil)
      (pss_one (ps_ret (pe_tup (pa_cons (pv 1) (pa_cons (pv 2) pa_nil))))))), ?_⟩
    have bad : ¬ goodS sp → ∀ q, H q = none → ∀ d, (upd H q (.tup [.str sp.1, .int sp.2])) d = none → E (.ref T.c_BadStep) (some d) (upd (upd H q (.tup [.str sp.1, .int sp.2])) d (.xd [("step", .ref q)])) := fun hb q hq d hd =>
      qb hb _ d q ((same_new hq).trans (same_new hd)) ((same_new hq).free hd) hq upd_same (same_new hd _ _ upd_same)
    refine ⟨_, rfl, gSeq_of hp rfl ⟨_, _, rfl, _, _, rfl, rfl, ?_⟩⟩
    refine ⟨_, rfl, _, _, rfl, .inr (T.q_DEEDS _), rfl, rfl, _, rfl, ?_⟩
    rw [show [V.str "own", .str "share", .str "drop"] = deedsV from rfl]
    by_cases kd : sp.1 = "own" ∨ sp.1 = "share" ∨ sp.1 = "drop"
    · refine iteNo (by rw [inDeeds kd]; rfl) ?_
      refine ⟨_, rfl, _, _, rfl, rfl, _, rfl, iteD (fun c => ?_) (fun c => ?_)⟩
      · exact ⟨_, rfl, _, rfl, by show 2 ≤ sizeLine; decide, fun q hq => ⟨_, rfl, fun d hd => bad (fun h => by have := h.2; omega) q hq d hd⟩⟩
      · exact ⟨_, rfl, _, rfl, by show 2 ≤ sizeLine; decide, fun q hq => qg ⟨kd, by omega⟩ q hq⟩
    · refine iteYes (by rw [Bool.eq_false_iff.mpr (fun z => kd ((inDeeds_iff sp.1).mp z))]; rfl) ?_
      exact ⟨_, rfl, _, rfl, by show 2 ≤ sizeLine; decide, fun q hq => ⟨_, rfl, fun d hd => bad (fun h => kd h.1) q hq d hd⟩⟩
theorem ok_Program_init (T : Txt K mg) : FnR PP w K mg base (L2.CX PP w) 4 T.a_Program_init (spStar 1 (spPInitX T.c_Program T.c_BadStep)) := by
  refine Fun.starX (k := 3) (ps := ["self"]) T.F_Program_init sc_Program_init T.bs_Program_init fun cdv A outer s H vs Q E hr h => ?_
  obtain ⟨x, dx, p, us, ss, rfl, hx, hp, hs, hl, q, qb⟩ := h
  refine ⟨_, (pss_one (ps_fld (pv 0) (pe_lcX (own := [("step", 2)]) (g := (gName 2)) rfl rfl rfl rfl (by rfl) sc_Program_init.nd (pi_tup (pv 1)) (blkOk_by (own := [("step", 2)]) (N := ["self", "steps", "step"]) (sc := defScope S_Program_init) (by decide +kernel)) (fun _ _ _ _ _ _ => (pg_name (i := 2) sc_Program_init.nd rfl (.inl rfl))) (fun _ _ _ _ _ _ => pts_nil) (fun _ _ _ _ _ _ hp => (pe_call (ok_sound_step T) (hr.mono (by omega)) (by rfl) T.g_sound_step T.F_sound_step.kp T.b_sound_step .nil hp (pa_cons (pv 2) pa_nil)))) rfl)), ?_⟩
  have lss := pair_len hs
  refine ⟨_, rfl, p, rfl, ⟨_, SqT.of hp⟩, fun D hD => ?_⟩
  have nxD : x ≠ D := ne_of_none hx hD
  have npD : p ≠ D := ne_of_none hp hD
  refine lc_tup (K := K) (a := p) (xs := us) (fun i H' => ∃ vs', Same H H' ∧ H' D = some (.lst vs') ∧ Stps H' vs' (ss.take i) ∧ vs'.length = i ∧ ∀ s ∈ ss.take i, goodS s) ⟨[], same_new hD, upd_same, .nil, rfl, fun s h => by rw [List.take_zero] at h; cases h⟩ (fun i H' _ ⟨_, s1, _⟩ => SqT.of (s1 _ _ hp)) ?_ ?_
  · rintro i v H1 hv ⟨vs', s1, h1, st1, l1, g1⟩
    obtain ⟨y, hy, hV⟩ := pair_get hs hv
    have hi := (List.getElem?_eq_some_iff.mp hv).1
    refine ⟨rfl, _, rfl, v, y, rfl, hV.same s1, fun gy u nu => ?_, fun by_ H' d q s' nd nq => qb y (bad_at hy by_ g1) H' d q (s1.trans s') (s1.free nd) (s1.free nq)⟩
    have s2 := same_new (o := .tup [.str y.1, .int y.2]) nu
    refine ⟨_, s2 _ _ h1, Nat.lt_of_le_of_lt (by omega : _ ≤ 1000) (by decide), vs' ++ [.ref u], same_mut (s1.trans s2) hD, upd_same, ?_, by rw [List.length_append, l1]; rfl, ?_⟩
    · have nuD : u ≠ D := (ne_of_none h1 nu).symm
      rw [List.take_add_one, hy]
      refine pair_app (Stps.keep st1 fun a xs e => ?_) (.cons ⟨u, rfl, by rw [upd_ne nuD]; exact upd_same⟩ .nil)
      rw [upd_ne (fun z => by rw [z, h1] at e; cases e)]
      exact s2 _ _ e
    · rw [List.take_add_one, hy]
      intro s hs'
      rcases List.mem_append.mp hs' with h | h
      · exact g1 s h
      · rw [List.mem_singleton.mp h]; exact gy
  · rintro H1 ⟨vs', s1, h1, st1, l1, g1⟩
    rw [List.take_of_length_le (by omega)] at st1 g1
    refine ⟨_, rfl, x, _, dx, _, rfl, s1 _ _ hx, T.cl_Program, T.no_Program__steps, by show 0 < 1000; decide, ?_⟩
    have hx1 := s1 _ _ hx
    refine q (no_bad.mpr g1) _ D vs' (fun y o n h => by rw [upd_ne n]; exact s1 _ _ h) upd_same hD (by rw [upd_ne nxD.symm]; exact h1) (Stps.keep st1 fun a xs e => ?_) l1
    rw [upd_ne (fun z => by rw [z, hx1] at e; cases e)]
    exact e
end
end My

namespace My
open PySem L2
/-! ### lists of ints: in, flat; slices -/
theorem flat_ints (ns : List Int) : (ns.map V.int).all flatV = true := by
  rw [List.all_eq_true]
  intro v h
  obtain ⟨n, _, rfl⟩ := List.mem_map.mp h
  rfl
theorem in_ints (n : Int) (ns : List Int) : inV (.int n) (ns.map V.int) = decide (n ∈ ns) := by
  unfold inV
  rw [List.any_map, Bool.eq_iff_iff, List.any_eq_true, decide_eq_true_iff]
  constructor
  · rintro ⟨m, h, e⟩
    have e : (m == n) = true := e
    rw [← beq_iff_eq.mp e]; exact h
  · intro h
    exact ⟨n, h, by show (n == n) = true; simp⟩
theorem cut_to (xs : List V) (n : Nat) : cutV xs none (some (n : Int)) = xs.take n := by
  unfold cutV HT.sIx
  simp only [List.drop_zero, Nat.sub_zero]
  have h0 : ¬ (n : Int) < 0 := by omega
  simp only [h0, if_false]
  by_cases h : n ≤ xs.length
  · congr 1
    omega
  · rw [List.take_of_length_le (by omega), List.take_of_length_le (by omega)]
theorem cut_from (xs : List V) (n : Nat) : cutV xs (some (n : Int)) none = xs.drop n := by
  unfold cutV HT.sIx
  have h0 : ¬ (n : Int) < 0 := by omega
  simp only [h0, if_false]
  by_cases h : n ≤ xs.length
  · rw [List.take_of_length_le (by rw [List.length_drop]; omega)]
    congr 1
    omega
  · rw [List.drop_eq_nil_of_le (by omega), List.drop_eq_nil_of_le (by omega), List.take_nil]
end My

namespace My
open PySem L2
theorem Dr.nt {K : PySem.W.Frag} {H : Hp} {d t : Addr} (D : Dr K H d t) : ∀ xs, H t ≠ some (.tup xs) := fun xs e => by have := D.pl.choose_spec; rw [this] at e; cases e
def spLStep (K : PySem.W.Frag) : Sp := fun vs H Q _ => ∃ (d t : Addr), vs = [.ref d, .ref t] ∧ Dr K H d t ∧ ∀ (r : Addr) (s : Stp) H', goodS s → Dr K H' d t → But t H H' → H r = none → H' r = some (.tup [.str s.1, .int s.2]) → Q (.ref r) H'
def spLBad (K : PySem.W.Frag) : Sp := fun vs H Q _ => ∃ (d t p : Addr) (s : Stp), vs = [.ref d, .ref t, .ref p] ∧ Dr K H d t ∧ H p = some (.tup [.str s.1, .int s.2]) ∧ goodS s ∧ ∀ (r : Addr) (s' : Stp) H', ¬ goodS s' → Dr K H' d t → But t H H' → H r = none → H' r = some (.tup [.str s'.1, .int s'.2]) → Q (.ref r) H'
def badWords (z : Str) : List Str := [PySem.Txt.upper z, "", z ++ (" " : Str), z ++ ("s" : Str), "lock", cutS z none (some 1), (" " : Str) ++ z]
theorem bad_words {z : Str} (h : z = "own" ∨ z = "share" ∨ z = "drop") : ∀ y ∈ badWords z, ¬ (y = "own" ∨ y = "share" ∨ y = "drop") := by
  rcases h with rfl | rfl | rfl <;> decide +kernel
theorem deed_len {z : Str} (h : z = "own" ∨ z = "share" ∨ z = "drop") : z.length ≤ 5 ∧ 1 ≤ z.length := by rcases h with rfl | rfl | rfl <;> decide +kernel
section
variable {w : World} {K : PySem.W.Frag} {mg : Str → Option Value} {base : Heap}
theorem ok__law_step (T : Txt K mg) : FnOk PP w K mg base CX0 2 T.a__law_step T.fd__law_step ["_law_draws_here", "_law_at"] (spLStep K) := by
  refine T.F__law_step.ok sc__law_step (fun vs H Q E h => ?_) (fun cdv A outer s H vs Q E hr h => ?_)
  · obtain ⟨d, t, rfl, _⟩ := h; rfl
  · obtain ⟨d, t, rfl, D, q⟩ := h
    refine ⟨_, (pss_cons (ps_set (i := 2) sc__law_step.nd rfl (.inl rfl) (pe_call (ok__law_take T) (hr.mono (by omega)) (by rfl) T.g__law_take T.F__law_take.kp T.b__law_take .nil pass0 (pa_cons (pv 0) (pa_cons (pv 1) (pa_cons (pe_int) pa_nil)))))
      (C8.pss_cut (ps_if (pt_cmpR op_eq (pe_call (ok__law_take T) (hr.mono (by omega)) (by rfl) T.g__law_take T.F__law_take.kp T.b__law_take .nil pass0 (pa_cons (pv 0) (pa_cons (pv 1) (pa_cons (pe_int) pa_nil)))) (pe_int) (nomark _)) (pss_one (ps_set (i := 2) sc__law_step.nd rfl (.inl rfl) (pe_op op_add (pe_op op_add (pe_op op_mul (pe_call (ok__law_take T) (hr.mono (by omega)) (by rfl) T.g__law_take T.F__law_take.kp T.b__law_take .nil pass0 (pa_cons (pv 0) (pa_cons (pv 1) (pa_cons (pe_int) pa_nil)))) (pe_op op_pow (pe_int) (pe_int))) (pe_op op_mul (pe_call (ok__law_take T) (hr.mono (by omega)) (by rfl) T.g__law_take T.F__law_take.kp T.b__law_take .nil pass0 (pa_cons (pv 0) (pa_cons (pv 1) (pa_cons (pe_int) pa_nil)))) (pe_int))) (pv 2)))) pss_nil)
      (pss_one (ps_ret (pe_tup (pa_cons (pe_ix ix_list (pe_lst (pa_cons (pe_str) (pa_cons (pe_str) (pa_cons (pe_str) pa_nil)))) (pe_call (ok__law_take T) (hr.mono (by omega)) (by rfl) T.g__law_take T.F__law_take.kp T.b__law_take .nil pass0 (pa_cons (pv 0) (pa_cons (pv 1) (pa_cons (pe_int) pa_nil)))) (fun _ _ => rfl)) (pa_cons (pv 2) pa_nil))))))), ?_⟩
    refine ⟨_, rfl, _, rfl, d, t, 6, rfl, D, by decide, fun r1 H1 h10 h11 D1 b1 => ?_⟩
    refine ⟨fun σ' H' => ∃ n : Int, σ' = [some (.ref d), some (.ref t), some (.int n)] ∧ 0 ≤ n ∧ Dr K H' d t ∧ But t H H', ?_, ?_⟩
    · refine ⟨_, rfl, _, rfl, d, t, 5, rfl, D1, by decide, fun r2 H2 h20 h21 D2 b2 => ⟨rfl, _, rfl, iteD (fun c => ?_) (fun c => ?_)⟩⟩
      · refine ⟨_, rfl, _, rfl, d, t, 1000, rfl, D2, by decide, fun r3 H3 h30 h31 D3 b3 => ⟨_, _, rfl, rfl, ⟨by decide, by decide, by decide⟩, _, _, rfl, rfl, .inr ⟨by decide, by decide⟩, _, rfl, _, rfl, d, t, 1000, rfl, D3, by decide, fun r4 H4 h40 h41 D4 b4 => ⟨_, _, rfl, rfl, .inr ⟨by decide, by decide⟩, _, _, rfl, rfl, _, rfl, _, _, rfl, rfl, _, rfl, ?_, D4, ((b1.trans b2).trans b3).trans b4⟩⟩⟩
        show 0 ≤ r3 * 1000000 + r4 * 1000 + r1
        omega
      · exact ⟨_, rfl, h10, D2, b1.trans b2⟩
    rintro σ' H4 ⟨n, rfl, n0, D4, b4⟩
    refine ⟨by show 3 ≤ sizeLine; decide, fun m hm => ?_⟩
    have s5 := same_new (o := .lst deedsV) hm
    have nmt : m ≠ t := D4.na hm
    refine ⟨_, rfl, _, rfl, d, t, 3, rfl, D4.same s5, by decide, fun r5 H5 h50 h51 D5 b5 => ?_⟩
    obtain ⟨v, hv, mv⟩ := at_ok (xs := deedsV) h50 h51
    obtain ⟨z, rfl, hz⟩ : ∃ z : Str, v = .str z ∧ (z = "own" ∨ z = "share" ∨ z = "drop") := by
      unfold deedsV at mv
      simp only [List.mem_cons, List.not_mem_nil, or_false] at mv
      rcases mv with rfl | rfl | rfl <;> exact ⟨_, rfl, by simp⟩
    refine ⟨_, _, _, _, rfl, rfl, SqL.of (b5 _ _ nmt upd_same), hv, _, rfl, by show 2 ≤ sizeLine; decide, fun u hu => ?_⟩
    have c5 : But t H H5 := (b4.trans (But.of_same s5)).trans b5
    exact q u (z, n) _ ⟨hz, n0⟩ (D5.same (same_new hu)) (c5.trans (But.of_same (same_new hu))) (c5.free (D5.na hu) hu) upd_same
theorem ok__law_bad_step (T : Txt K mg) : FnOk PP w K mg base CX0 2 T.a__law_bad_step T.fd__law_bad_step ["_law_draws_here", "_law_at", "_law_step_here"] (spLBad K) := by
  refine T.F__law_bad_step.ok sc__law_bad_step (fun vs H Q E h => ?_) (fun cdv A outer s H vs Q E hr h => ?_)
  · obtain ⟨d, t, p, s, rfl, _⟩ := h; rfl
  · obtain ⟨d, t, p, ⟨z, n⟩, rfl, D, hp, gs, q⟩ := h
    refine ⟨_, (pss_cons (ps_set (i := 3) sc__law_bad_step.nd rfl (.inl rfl) (pe_call (ok__law_take T) (hr.mono (by omega)) (by rfl) T.g__law_take T.F__law_take.kp T.b__law_take .nil pass0 (pa_cons (pv 0) (pa_cons (pv 1) (pa_cons (pe_int) pa_nil)))))
      (pss_cons (ps_set (i := 4) sc__law_bad_step.nd rfl (.inl rfl) (pe_lst (pa_cons (pe_upper (pe_ix ix_tup (pv 2) (pe_int) (fun _ _ => rfl))) (pa_cons (pe_str) (pa_cons (pe_op op_add_str (pe_ix ix_tup (pv 2) (pe_int) (fun _ _ => rfl)) (pe_str)) (pa_cons (pe_op op_add_str (pe_ix ix_tup (pv 2) (pe_int) (fun _ _ => rfl)) (pe_str)) (pa_cons (pe_str) (pa_cons (pe_slice sl_str (pe_ix ix_tup (pv 2) (pe_int) (fun _ _ => rfl)) po_none (po_some (pe_int))) (pa_cons (pe_op op_add_str (pe_str) (pe_ix ix_tup (pv 2) (pe_int) (fun _ _ => rfl))) pa_nil)))))))))
      (pss_cons (ps_if (pt_cmpR op_lt (pv 3) (pe_int) (nomark _)) (pss_one (ps_ret (pe_tup (pa_cons (pe_ix ix_list (pv 4) (pv 3) (fun _ _ => rfl)) (pa_cons (pe_ix ix_tup (pv 2) (pe_int) (fun _ _ => rfl)) pa_nil))))) pss_nil)
      (pss_one (ps_ret (pe_tup (pa_cons (pe_ix ix_tup (pv 2) (pe_int) (fun _ _ => rfl)) (pa_cons (pe_op op_sub (pe_op op_sub (pe_int) (pe_int)) (pe_ix ix_tup (pv 2) (pe_int) (fun _ _ => rfl))) pa_nil)))))))), ?_⟩
    have npt : p ≠ t := fun e => D.nt _ (e ▸ hp)
    refine ⟨_, rfl, _, rfl, d, t, 10, rfl, D, by decide, fun f H1 f0 f1 D1 b1 => ?_⟩
    have hp1 : H1 p = some (.tup [.str z, .int n]) := b1 _ _ npt hp
    have hz : z = "own" ∨ z = "share" ∨ z = "drop" := gs.1
    have zl := deed_len hz
    have big : 90000 < sizeLine := by decide
    have e1 : ((" " : Str)).length = 1 := by decide +kernel
    have e2 : (("s" : Str)).length = 1 := by decide +kernel
    refine ⟨_, rfl, _, _, _, _, rfl, rfl, SqT.of hp1, at_of (j := 0) rfl rfl, ⟨_, rfl⟩, _, rfl, rfl, by omega, _, rfl, _, _, _, _, rfl, rfl, SqT.of hp1, at_of (j := 0) rfl rfl, _, _, rfl, rfl, by omega, _, rfl, _, _, _, _, rfl, rfl, SqT.of hp1, at_of (j := 0) rfl rfl, _, _, rfl, rfl, by omega, _, rfl, _, _, _, _, rfl, rfl, SqT.of hp1, at_of (j := 0) rfl rfl, _, rfl, _, rfl, by omega, _, rfl, _, _, _, _, rfl, rfl, SqT.of hp1, at_of (j := 0) rfl rfl, _, _, rfl, rfl, by omega, by show 7 ≤ sizeLine; decide, fun l hl => ?_⟩
    have s2 := same_new (o := .lst ((badWords z).map V.str)) hl
    have hp2 := s2 _ _ hp1
    have c2 : But t H (upd H1 l (.lst ((badWords z).map V.str))) := b1.trans (But.of_same s2)
    have D2 := D1.same s2
    refine ⟨_, rfl, _, _, rfl, rfl, _, rfl, iteD (fun c => ?_) (fun c => ?_)⟩
    · obtain ⟨v, hv, mv⟩ := at_ok (xs := (badWords z).map V.str) f0 (by rw [List.length_map]; exact c)
      obtain ⟨y, my, rfl⟩ := List.mem_map.mp mv
      refine ⟨_, rfl, _, rfl, _, _, _, _, rfl, rfl, SqL.of upd_same, hv, _, rfl, _, _, _, _, rfl, rfl, SqT.of hp2, at_of (j := 1) rfl rfl, by show 2 ≤ sizeLine; decide, fun r hr => ?_⟩
      exact q r (y, n) _ (fun h => bad_words hz y my h.1) (D2.same (same_new hr)) (c2.trans (But.of_same (same_new hr))) (c2.free (D2.na hr) hr) upd_same
    · refine ⟨_, rfl, _, _, _, _, rfl, rfl, SqT.of hp2, at_of (j := 0) rfl rfl, _, _, rfl, rfl, _, rfl, _, _, _, _, rfl, rfl, SqT.of hp2, at_of (j := 1) rfl rfl, _, _, rfl, rfl, by show 2 ≤ sizeLine; decide, fun r hr => ?_⟩
      refine q r (z, 0 - 1 - n) _ (fun h => ?_) (D2.same (same_new hr)) (c2.trans (But.of_same (same_new hr))) (c2.free (D2.na hr) hr) upd_same
      have h1 : (0 : Int) ≤ 0 - 1 - n := h.2
      have h2 : (0 : Int) ≤ n := gs.2
      omega
end
end My

namespace My
open PySem L2
/-! ### what programs answer -/
def thingsOf (ss : List Stp) : List Int := ss.foldl (fun (acc : List Int) (s : Stp) => if s.1 ≠ ("drop" : Str) ∧ s.2 ∉ acc then acc ++ [s.2] else acc) []
theorem things_take {ss : List Stp} {i : Nat} {s : Stp} (h : ss[i]? = some s) : thingsOf (ss.take (i + 1)) = if s.1 ≠ ("drop" : Str) ∧ s.2 ∉ thingsOf (ss.take i) then thingsOf (ss.take i) ++ [s.2] else thingsOf (ss.take i) := by
  unfold thingsOf
  rw [List.take_add_one, h, List.foldl_append]
  rfl
theorem things_len (ss : List Stp) : ∀ i, (thingsOf (ss.take i)).length ≤ i
  | 0 => Nat.le_refl _
  | i + 1 => by
    have ih := things_len ss i
    cases h : ss[i]? with
    | none => rw [List.take_add_one, h, Option.toList_none, List.append_nil]; omega
    | some s => rw [things_take h]; split <;> first | (rw [List.length_append, List.length_singleton]; omega) | omega
def modeOf (ss : List Stp) (n : Int) : Str := match ss.find? (fun s : Stp => decide (s.2 = n) && !decide (s.1 = ("drop" : Str))) with | some s => s.1 | none => ""
theorem mode_at {ss : List Stp} {n : Int} {i : Nat} {s : Stp} (h : ss[i]? = some s) (hb : ∀ (j : Nat) (r : Stp), j < i → ss[j]? = some r → ¬ (r.2 = n ∧ r.1 ≠ ("drop" : Str))) (hs : s.2 = n ∧ s.1 ≠ "drop") : modeOf ss n = s.1 := by
  have hi := (List.getElem?_eq_some_iff.mp h).1
  have e : ss.find? (fun s : Stp => decide (s.2 = n) && !decide (s.1 = ("drop" : Str))) = some s := by
    rw [List.find?_eq_some_iff_getElem]
    refine ⟨by rw [decide_eq_true hs.1, decide_eq_false hs.2]; rfl, i, hi, (List.getElem?_eq_some_iff.mp h).2, fun j hj => ?_⟩
    have q := hb j ss[j] hj (List.getElem?_eq_getElem _)
    by_cases q1 : (ss[j]).2 = n
    · have q2 : (ss[j]).1 = "drop" := Classical.not_not.mp fun z => q ⟨q1, z⟩
      rw [decide_eq_true q2]; simp
    · rw [decide_eq_false q1]; rfl
  unfold modeOf
  rw [e]
theorem mode_no {ss : List Stp} {n : Int} (hb : ∀ (j : Nat) (r : Stp), ss[j]? = some r → ¬ (r.2 = n ∧ r.1 ≠ ("drop" : Str))) : modeOf ss n = "" := by
  have e : ss.find? (fun s : Stp => decide (s.2 = n) && !decide (s.1 = ("drop" : Str))) = none := by
    rw [List.find?_eq_none]
    intro s hs
    obtain ⟨j, hj⟩ := List.mem_iff_getElem?.mp hs
    have q := hb j s hj
    by_cases q1 : s.2 = n
    · have q2 : s.1 = "drop" := Classical.not_not.mp fun z => q ⟨q1, z⟩
      rw [decide_eq_true q2]; simp
    · rw [decide_eq_false q1]; simp
  unfold modeOf
  rw [e]
theorem eqv_stp (a b : Stp) : PyData.eqv (stpD a) (stpD b) = decide (a = b) := by
  unfold stpD
  simp only [PyData.eqv, PyData.eqvAll, Bool.and_true]
  rw [Bool.eq_iff_iff, Bool.and_eq_true, beq_iff_eq, beq_iff_eq, decide_eq_true_iff]
  exact ⟨fun h => Prod.ext h.1 h.2, fun h => by rw [h]; exact ⟨rfl, rfl⟩⟩
theorem eqv_stps : ∀ a b : List Stp, PyData.eqvAll (a.map stpD) (b.map stpD) = decide (a = b)
  | [], [] => by simp [PyData.eqvAll]
  | [], _ :: _ => by simp [PyData.eqvAll]
  | _ :: _, [] => by simp [PyData.eqvAll]
  | x :: a, y :: b => by
    simp only [List.map_cons, PyData.eqvAll, eqv_stp, eqv_stps a b]
    rw [Bool.eq_iff_iff, Bool.and_eq_true, decide_eq_true_iff, decide_eq_true_iff, decide_eq_true_iff]
    simp
theorem stp_ok {s : Stp} (h : goodS s) : PyData.canLay0 (stpD s) = true := by
  unfold stpD
  have : PyData.strOk s.1 = true := by rcases h.1 with e | e | e <;> (rw [e]; decide +kernel)
  simp [PyData.canLay0, PyData.canLayAll0, this]
theorem stps_shaped {ss : List Stp} (h : ∀ s ∈ ss, goodS s) : SeqAt.shaped (.list (ss.map stpD)) = true := by
  have h1 : ∀ l : List Stp, (∀ s ∈ l, goodS s) → PyData.canLayAll0 (l.map stpD) = true := fun l => by
    induction l with
    | nil => intro _; rfl
    | cons a r ih => intro q; rw [List.map_cons, PyData.canLayAll0, stp_ok (q a (by simp)), ih fun s hs => q s (by simp [hs])]; rfl
  have h2 : ∀ l : List Stp, PyData.depthAll (l.map stpD) ≤ 1 := fun l => by
    induction l with
    | nil => exact Nat.zero_le _
    | cons a r ih =>
      rw [List.map_cons, PyData.depthAll]
      have : PyData.depth (stpD a) = 1 := by unfold stpD; simp [PyData.depth, PyData.depthAll]
      omega
  unfold SeqAt.shaped
  rw [PyData.canLay0, h1 ss h, PyData.depth, Bool.true_and, decide_eq_true_iff]
  have := h2 ss
  omega
theorem stpsDp {K : PySem.W.Frag} {H : Hp} : ∀ {vs : List V} {ss : List Stp}, Stps H vs ss → DpAll K H vs (ss.map stpD)
  | _, _, .nil => .nil
  | _, _, .cons ⟨_, e, h⟩ t => by
    subst e
    exact .cons (.tup (SqT.of h) (.cons (.str _) (.cons (.int _) .nil))) (stpsDp t)
def spPEq (C : Addr) : Sp := fun vs H Q _ => ∃ (x y : Addr) (ss tt : List Stp), vs = [.ref x, .ref y] ∧ Pg C H x ss ∧ Pg C H y tt ∧ (∀ s ∈ ss, goodS s) ∧ (∀ s ∈ tt, goodS s) ∧ Q (.bl (decide (ss = tt))) H
/-- the right operand of +: its steps -/
def Rgt (K : PySem.W.Frag) (C : Addr) (H : Hp) (y : Addr) (tt : List Stp) : Prop := Pg C H y tt ∨ ∃ us, (SqL K H y us ∨ SqT K H y us) ∧ Stps H us tt
def spPAdd (K : PySem.W.Frag) (C : Addr) : Sp := fun vs H Q _ => ∃ (x y : Addr) (ss tt : List Stp), vs = [.ref x, .ref y] ∧ Pg C H x ss ∧ Rgt K C H y tt ∧ ss.length + tt.length ≤ 1000 ∧ (∀ s ∈ ss ++ tt, goodS s) ∧
  ∀ z H', Same H H' → H z = none → Pg C H' z (ss ++ tt) → Q (.ref z) H'
def spThings (C : Addr) : Sp := fun vs H Q _ => ∃ (x : Addr) (ss : List Stp), vs = [.ref x] ∧ Pg C H x ss ∧ ∀ t H', Same H H' → H t = none → H' t = some (.tup ((thingsOf ss).map V.int)) → Q (.ref t) H'
def spMode (C : Addr) : Sp := fun vs H Q _ => ∃ (x : Addr) (n : Int) (ss : List Stp), vs = [.ref x, .int n] ∧ Pg C H x ss ∧ Q (.str (modeOf ss n)) H
def spBegin (C X : Addr) : Sp := fun vs H Q E => ∃ (x : Addr) (n : Int) (ss : List Stp), vs = [.ref x, .int n] ∧ Pg C H x ss ∧ (∀ s ∈ ss, goodS s) ∧
  (∀ m : Nat, n = m → m ≤ ss.length → ∀ z H', Same H H' → H z = none → Pg C H' z (ss.take m) → Q (.ref z) H') ∧
  (n < 0 ∨ (ss.length : Int) < n → ∀ H' d, Same H H' → H d = none → H' d = some (.xd [("most", .int ss.length)]) → E (.ref X) (some d) H')
section
variable {w : World} {K : PySem.W.Frag} {mg : Str → Option Value} {base : Heap}
theorem ok_Program_iter (T : Txt K mg) : IterOk PP w K mg base 1 T.a_Program_iter T.c_Program "_steps" := fun A outer s H a dx l fs xs Q E hr e0 ha hf hq q => by
  refine fn_here T.F_Program_iter sc_Program_iter T.b_Program_iter hr e0 (vs := [.ref a]) (.cons rfl .nil) rfl fun cdv hr => ⟨_, (pss_one (ps_ret (pe_callB ItX.call_iterN (by rfl) T.n_iter (by decide +kernel) (pa_cons (pe_fld (pv 0) rfl) pa_nil)))), ?_⟩
  exact ⟨_, rfl, a, _, dx, _, _, rfl, ha, T.cl_Program, T.no_Program__steps, hf, l, xs, rfl, hq, fun it n1 n2 => q it n1 n2⟩
theorem ok_Program_eq (T : Txt K mg) : FnOk PP w K mg base CX0 1 T.a_Program_eq T.fd_Program_eq ["self", "other"] (spPEq T.c_Program) := by
  refine T.F_Program_eq.ok sc_Program_eq (fun vs H Q E h => ?_) (fun cdv A outer s H vs Q E hr h => ?_)
  · obtain ⟨x, y, ss, tt, rfl, _⟩ := h; rfl
  · obtain ⟨x, y, ss, tt, rfl, ⟨dx, l, us, hx, hl, hs, _⟩, ⟨dy, m, vs, hy, hm, ht, _⟩, gs, gt, q⟩ := h
    refine ⟨_, (pss_one (ps_ret (pe_and (pe_callB call_isi (by rfl) T.n_isinstance (by decide +kernel) (pa_cons (pv 1) (pa_cons (pe_glob (v := .ref T.c_Program) (by rfl) T.g_Program rfl) pa_nil))) (pe_one (pe_cmpR (op_eqD hr.units) (pe_fld (pv 0) rfl) (pe_fld (pv 1) rfl) (nomark _)))))), ?_⟩
    refine ⟨_, rfl, _, _, _, _, true, rfl, ClsV.own _, .base (T.ti_Program _ _ _ _ hy), T.kk_Program, _, rfl, iteT ?_⟩
    refine ⟨_, rfl, x, _, dx, _, _, rfl, hx, T.cl_Program, T.no_Program__steps, steps_look l, _, rfl, y, _, dy, _, _, rfl, hy, T.cl_Program, T.no_Program__steps, steps_look m, _, _, .lst (SqL.of hl) (stpsDp hs), .lst (SqL.of hm) (stpsDp ht), stps_shaped gs, stps_shaped gt, ?_⟩
    rw [PyData.eqv, eqv_stps]
    exact q
end
end My

namespace My
open PySem L2
theorem bad_app {ss tt : List Stp} (h : ∀ s ∈ ss, goodS s) : firstBad (ss ++ tt) = firstBad tt := by
  unfold firstBad
  rw [List.find?_append, show List.find? (fun s => decide (¬ goodS s)) ss = none from no_bad.mpr h]
  rfl
theorem bad_pre {ss tt : List Stp} (h : ∀ s ∈ ss, goodS s) : firstBad (tt ++ ss) = firstBad tt := by
  unfold firstBad
  rw [List.find?_append, show List.find? (fun s => decide (¬ goodS s)) ss = none from no_bad.mpr h]
  cases List.find? (fun s => decide (¬ goodS s)) tt <;> rfl
/-- what may stand beside a program -/
def RowX (K : PySem.W.Frag) (H : Hp) (y : Addr) (tt : List Stp) : Prop := ∃ vs, (SqL K H y vs ∨ SqT K H y vs) ∧ StpsV H vs tt
def RgtX (K : PySem.W.Frag) (C : Addr) (H : Hp) (y : Addr) (tt : List Stp) : Prop := (Pg C H y tt ∧ ∀ s ∈ tt, goodS s) ∨ RowX K H y tt
def spPAddX (K : PySem.W.Frag) (C X : Addr) : Sp := fun vs H Q E => ∃ (x y : Addr) (ss tt : List Stp), vs = [.ref x, .ref y] ∧ Pg C H x ss ∧ (∀ s ∈ ss, goodS s) ∧ RgtX K C H y tt ∧ ss.length + tt.length ≤ 1000 ∧
  (firstBad tt = none → ∀ z H', Same H H' → H z = none → Pg C H' z (ss ++ tt) → Q (.ref z) H') ∧ (∀ s, firstBad tt = some s → BadE X H E s)
def spPRaddX (K : PySem.W.Frag) (C X : Addr) : Sp := fun vs H Q E => ∃ (x y : Addr) (ss tt : List Stp), vs = [.ref x, .ref y] ∧ Pg C H x ss ∧ (∀ s ∈ ss, goodS s) ∧ RowX K H y tt ∧ ss.length + tt.length ≤ 1000 ∧
  (firstBad tt = none → ∀ z H', Same H H' → H z = none → Pg C H' z (tt ++ ss) → Q (.ref z) H') ∧ (∀ s, firstBad tt = some s → BadE X H E s)
section
variable {w : World} {K : PySem.W.Frag} {mg : Str → Option Value} {base : Heap}
theorem ok_Program_add (T : Txt K mg) : FnOk PP w K mg base (L2.CX PP w) 6 T.a_Program_add T.fd_Program_add ["self", "other"] (spPAddX K T.c_Program T.c_BadStep) := by
  refine T.F_Program_add.okX sc_Program_add (fun vs H Q E h => ?_) (fun cdv A outer s H vs Q E hr h => ?_)
  · obtain ⟨x, y, ss, tt, rfl, _⟩ := h; rfl
  · obtain ⟨x, y, ss, tt, rfl, ⟨dx, l, us, hx, hl, hs, _⟩, hgs, hy, hz, q, qb⟩ := h
    refine ⟨_, (pss_cons (ps_if (pt_val (pe_callB call_isiT (by rfl) T.n_isinstance (by decide +kernel) (pa_cons (pv 1) (pa_cons (pe_tup (pa_cons (pe_bltn (v := .ty "list") (by rfl) T.n_list (by decide +kernel) rfl) (pa_cons (pe_bltn (v := .ty "tuple") (by rfl) T.n_tuple (by decide +kernel) rfl) pa_nil))) pa_nil)))) (pss_one (ps_ret (pe_makeS2 T.mk_Program (ok_Program_init T) (hr.mono (by omega)) (by rfl) T.g_Program (passes_call (takes_of rfl rfl rfl rfl) (fun _ _ _ _ h => h)) (StX.pa_star (pe_fld (pv 0) rfl) (StX.pa_star (pv 1) pa_nil))))) pss_nil)
      (pss_cons (ps_if (pt_val (pe_callB call_isi (by rfl) T.n_isinstance (by decide +kernel) (pa_cons (pv 1) (pa_cons (pe_glob (v := .ref T.c_Program) (by rfl) T.g_Program rfl) pa_nil)))) (pss_one (ps_ret (pe_makeS2 T.mk_Program (ok_Program_init T) (hr.mono (by omega)) (by rfl) T.g_Program (passes_call (takes_of rfl rfl rfl rfl) (fun _ _ _ _ h => h)) (StX.pa_star (pe_fld (pv 0) rfl) (StX.pa_star (pe_fld (pv 1) rfl) pa_nil))))) pss_nil)
      (pss_one ps_never))), ?_⟩
    refine ⟨_, rfl, by show 2 ≤ sizeLine; decide, fun c hc => ?_⟩
    have s1 := same_new (o := .tup [.ty "list", .ty "tuple"]) hc
    have ls := pair_len hs
    rcases hy with ⟨⟨dy, m, vs, hy, hm, ht, _⟩, hgt⟩ | ⟨vs, hy, ht⟩
    · have lt := pair_len ht
      refine ⟨_, _, _, _, _, false, rfl, upd_same, .cons (.ty _) (.cons (.ty _) .nil), .base (T.ti_Program _ _ _ _ (s1 _ _ hy)), kitAny_cons T.ko_Program_list (fun _ => kitAny_cons T.ko_Program_tuple (fun _ => rfl) (fun z => nomatch z)) (fun z => nomatch z), _, rfl, iteF ?_⟩
      refine ⟨_, rfl, _, _, _, _, true, rfl, ClsV.own _, .base (T.ti_Program _ _ _ _ (s1 _ _ hy)), T.kk_Program, _, rfl, iteT ?_⟩
      refine ⟨_, rfl, x, _, dx, _, _, rfl, s1 _ _ hx, T.cl_Program, T.no_Program__steps, steps_look l, l, us, rfl, .inr (SqL.of (s1 _ _ hl)), _, rfl, y, _, dy, _, _, rfl, s1 _ _ hy, T.cl_Program, T.no_Program__steps, steps_look m, m, vs, rfl, .inr (SqL.of (s1 _ _ hm)), ?_⟩
      intro z dz nz ndz _
      have s2 := s1.trans (same_make (C := T.c_Program) nz ndz (But.refl z _))
      refine init_pgX (us := us ++ (vs ++ [])) (ss := ss ++ tt) upd_same ?_ (by rw [List.length_append, List.length_append]; simp; omega) (fun hb H8 b8 p8 => ⟨rfl, q (bad_app hgs ▸ hb) z H8 (s1.trans (same_make nz ndz b8)) (s1.free nz) p8⟩) fun s' hb H' d q' s3 nd nq => qb s' (bad_app hgs ▸ hb) H' d q' (s2.trans s3) (s2.free nd) (s2.free nq)
      rw [List.append_nil]
      exact pair_app (hs.same s2).toV (ht.same s2).toV
    · have lt := pair_len ht
      have hT : ∃ tn, TyX K (upd H c (.tup [.ty "list", .ty "tuple"])) (.ref y) (.type tn) ∧ PySem.W.kitAny K (.type tn) [.type "list", .type "tuple"] = some true := by
        rcases hy with hy | hy
        · exact ⟨"list", tyL (s1.seq hy), kitAny_cons (b := true) (r := true) (kit_ty (by decide +kernel)) (fun z => nomatch z) fun _ => rfl⟩
        · exact ⟨"tuple", tyT (same_sqT s1 hy), kitAny_cons (b := false) (kit_ty (by decide +kernel)) (fun _ => kitAny_cons (b := true) (r := true) (kit_ty (by decide +kernel)) (fun z => nomatch z) fun _ => rfl) (fun z => nomatch z)⟩
      obtain ⟨tn, t1, t2⟩ := hT
      refine ⟨_, _, _, _, _, true, rfl, upd_same, .cons (.ty _) (.cons (.ty _) .nil), t1, t2, _, rfl, iteT ?_⟩
      refine ⟨_, rfl, x, _, dx, _, _, rfl, s1 _ _ hx, T.cl_Program, T.no_Program__steps, steps_look l, l, us, rfl, .inr (SqL.of (s1 _ _ hl)), _, rfl, y, vs, rfl, hy.elim (fun h => .inr (s1.seq h)) (fun h => .inl (same_sqT s1 h)), ?_⟩
      intro z dz nz ndz _
      have s2 := s1.trans (same_make (C := T.c_Program) nz ndz (But.refl z _))
      refine init_pgX (us := us ++ (vs ++ [])) (ss := ss ++ tt) upd_same ?_ (by rw [List.length_append, List.length_append]; simp; omega) (fun hb H8 b8 p8 => ⟨rfl, q (bad_app hgs ▸ hb) z H8 (s1.trans (same_make nz ndz b8)) (s1.free nz) p8⟩) fun s' hb H' d q' s3 nd nq => qb s' (bad_app hgs ▸ hb) H' d q' (s2.trans s3) (s2.free nd) (s2.free nq)
      rw [List.append_nil]
      exact pair_app (hs.same s2).toV (stpsV_same ht s2)
theorem ok_Program_radd (T : Txt K mg) : FnOk PP w K mg base (L2.CX PP w) 6 T.a_Program_radd T.fd_Program_radd ["self", "other"] (spPRaddX K T.c_Program T.c_BadStep) := by
  refine T.F_Program_radd.okX sc_Program_radd (fun vs H Q E h => ?_) (fun cdv A outer s H vs Q E hr h => ?_)
  · obtain ⟨x, y, ss, tt, rfl, _⟩ := h; rfl
  · obtain ⟨x, y, ss, tt, rfl, ⟨dx, l, us, hx, hl, hs, _⟩, hgs, ⟨vs, hy, ht⟩, hz, q, qb⟩ := h
    refine ⟨_, (pss_cons (ps_if (pt_val (pe_callB call_isiT (by rfl) T.n_isinstance (by decide +kernel) (pa_cons (pv 1) (pa_cons (pe_tup (pa_cons (pe_bltn (v := .ty "list") (by rfl) T.n_list (by decide +kernel) rfl) (pa_cons (pe_bltn (v := .ty "tuple") (by rfl) T.n_tuple (by decide +kernel) rfl) pa_nil))) pa_nil)))) (pss_one (ps_ret (pe_makeS2 T.mk_Program (ok_Program_init T) (hr.mono (by omega)) (by rfl) T.g_Program (passes_call (takes_of rfl rfl rfl rfl) (fun _ _ _ _ h => h)) (StX.pa_star (pv 1) (StX.pa_star (pe_fld (pv 0) rfl) pa_nil))))) pss_nil)
      (pss_one ps_never)), ?_⟩
    refine ⟨_, rfl, by show 2 ≤ sizeLine; decide, fun c hc => ?_⟩
    have s1 := same_new (o := .tup [.ty "list", .ty "tuple"]) hc
    have ls := pair_len hs
    have lt := pair_len ht
    have hT : ∃ tn, TyX K (upd H c (.tup [.ty "list", .ty "tuple"])) (.ref y) (.type tn) ∧ PySem.W.kitAny K (.type tn) [.type "list", .type "tuple"] = some true := by
      rcases hy with hy | hy
      · exact ⟨"list", tyL (s1.seq hy), kitAny_cons (b := true) (r := true) (kit_ty (by decide +kernel)) (fun z => nomatch z) fun _ => rfl⟩
      · exact ⟨"tuple", tyT (same_sqT s1 hy), kitAny_cons (b := false) (kit_ty (by decide +kernel)) (fun _ => kitAny_cons (b := true) (r := true) (kit_ty (by decide +kernel)) (fun z => nomatch z) fun _ => rfl) (fun z => nomatch z)⟩
    obtain ⟨tn, t1, t2⟩ := hT
    refine ⟨_, _, _, _, _, true, rfl, upd_same, .cons (.ty _) (.cons (.ty _) .nil), t1, t2, _, rfl, iteT ?_⟩
    refine ⟨_, rfl, y, vs, rfl, hy.elim (fun h => .inr (s1.seq h)) (fun h => .inl (same_sqT s1 h)), _, rfl, x, _, dx, _, _, rfl, s1 _ _ hx, T.cl_Program, T.no_Program__steps, steps_look l, l, us, rfl, .inr (SqL.of (s1 _ _ hl)), ?_⟩
    intro z dz nz ndz _
    have s2 := s1.trans (same_make (C := T.c_Program) nz ndz (But.refl z _))
    refine init_pgX (us := vs ++ (us ++ [])) (ss := tt ++ ss) upd_same ?_ (by rw [List.length_append, List.length_append]; simp; omega) (fun hb H8 b8 p8 => ⟨rfl, q (bad_pre hgs ▸ hb) z H8 (s1.trans (same_make nz ndz b8)) (s1.free nz) p8⟩) fun s' hb H' d q' s3 nd nq => qb s' (bad_pre hgs ▸ hb) H' d q' (s2.trans s3) (s2.free nd) (s2.free nq)
    rw [List.append_nil]
    exact pair_app (stpsV_same ht s2) (hs.same s2).toV
theorem ok_Program_iadd (T : Txt K mg) : FnOk PP w K mg base (L2.CX PP w) 8 T.a_Program_iadd T.fd_Program_iadd ["self", "other"] (spPAddX K T.c_Program T.c_BadStep) := by
  refine T.F_Program_iadd.okX sc_Program_iadd (fun vs H Q E h => ?_) (fun cdv A outer s H vs Q E hr h => ?_)
  · obtain ⟨x, y, ss, tt, rfl, _⟩ := h; rfl
  · obtain ⟨x, y, ss, tt, rfl, hx, hgs, hy, hz, q, qb⟩ := h
    refine ⟨_, (pss_one (ps_ret (pe_op (op_binO T.of_Program_add (ok_Program_add T) (hr.mono (by omega)) T.b_Program_add (passes_call (takes_of rfl rfl rfl rfl) (fun _ _ _ _ h => h))) (pv 0) (pv 1)))), ?_⟩
    obtain ⟨_, _, _, ex, _⟩ := id hx
    refine ⟨_, rfl, _, rfl, x, _, _, rfl, ex, ?_, x, y, ss, tt, rfl, hx, hgs, hy, hz, q, qb⟩
    rcases hy with ⟨⟨dy, m, vs, hy, _⟩, _⟩ | ⟨vs, hy, _⟩
    · exact .inl ⟨y, _, _, rfl, hy⟩
    · exact .inr ⟨y, vs, rfl, hy⟩
end
end My

namespace My
open PySem L2
def spPLen (C : Addr) : Sp := fun vs H Q _ => ∃ (x : Addr) (ss : List Stp), vs = [.ref x] ∧ Pg C H x ss ∧ Q (.int (ss.length : Nat)) H
theorem same_steps (a b : List Stp) : sameD (.list (b.map stpD)) (.list (a.map stpD)) = decide (b = a) :=
  same_of ⟨fun h => by injection h with h; exact stpsD_inj h, fun h => by rw [h]⟩
def spIs (C : Addr) : Sp := fun vs H Q _ => ∃ (x u : Addr) (us : List V) (ss tt : List Stp), vs = [.ref x, .ref u] ∧ Pg C H x tt ∧ H u = some (.lst us) ∧ Stps H us ss ∧ us.length ≤ 1000 ∧ ∀ H', Same H H' → Q (.bl (decide (tt = ss))) H'
/-- a row that is handed over: all lists or all the same tuples -/
def spHandedB (K : PySem.W.Frag) : Sp := fun vs H Q _ => ∃ (u : Addr) (b : Bool) (us : List V) (ss : List Stp), vs = [.ref u, .bl b] ∧ H u = some (.lst us) ∧ Stps H us ss ∧ us.length ≤ 100 ∧
  ∀ r ws H', Same H H' → H r = none → H' r = some (.lst ws) → StpsV H' ws ss → (∀ x, (∀ xs, H' x ≠ some (.tup xs)) → H x ≠ none → Paired (Dn K x H' 1) ws (ss.map fun s => if b then .list [.str s.1, .int s.2] else stpD s)) → Q (.ref r) H'
def sumOf (f : Int) (ss tt : List Stp) : List Stp := if f = 1 ∨ f = 3 then tt ++ ss else ss ++ tt
def spSum (K : PySem.W.Frag) (C X : Addr) : Sp := fun vs H Q E => ∃ (f : Int) (x y : Addr) (us : List V) (ss tt : List Stp), vs = [.int f, .ref x, .ref y] ∧ 0 ≤ f ∧ f < 5 ∧ Pg C H x ss ∧ (∀ s ∈ ss, goodS s) ∧ H y = some (.lst us) ∧ StpsV H us tt ∧ ss.length + tt.length ≤ 1000 ∧
  (firstBad tt = none → ∀ z H', Same H H' → H z = none → Pg C H' z (sumOf f ss tt) → Q (.ref z) H') ∧ (∀ s, firstBad tt = some s → BadE X H E s)
def spRefusedX (K : PySem.W.Frag) (C : Addr) : Sp := fun vs H Q _ => ∃ (f : Int) (x y : Addr) (us : List V) (ss tt : List Stp) (s : Stp), vs = [.int f, .ref x, .ref y] ∧ 0 ≤ f ∧ f < 5 ∧ Pg C H x ss ∧ (∀ s ∈ ss, goodS s) ∧ H y = some (.lst us) ∧ StpsV H us tt ∧ ss.length + tt.length ≤ 1000 ∧ firstBad tt = some s ∧
  ∀ r q H', Same H H' → H r = none → H q = none → H' q = some (.tup [.str s.1, .int s.2]) → H' r = some (.lst [.str "BadStep", .ref q]) → Q (.ref r) H'
theorem row_same {K : PySem.W.Frag} {H H' : Hp} {y : Addr} {tt : List Stp} (h : RowX K H y tt) (e : Same H H') : RowX K H' y tt := by
  obtain ⟨vs, h1, h2⟩ := h
  exact ⟨vs, h1.elim (fun h => .inl (e.seq h)) (fun h => .inr (same_sqT e h)), stpsV_same h2 e⟩
section
variable {w : World} {K : PySem.W.Frag} {mg : Str → Option Value} {base : Heap}
theorem ok_Program_len (T : Txt K mg) : FnOk PP w K mg base CX0 1 T.a_Program_len T.fd_Program_len ["self"] (spPLen T.c_Program) := by
  refine T.F_Program_len.ok sc_Program_len (fun vs H Q E h => ?_) (fun cdv A outer s H vs Q E hr h => ?_)
  · obtain ⟨x, ss, rfl, _⟩ := h; rfl
  · obtain ⟨x, ss, rfl, ⟨dx, l, us, hx, hl, hs, hz⟩, q⟩ := h
    refine ⟨_, (pss_one (ps_ret (pe_callB call_len_seq (by rfl) T.n_len (by decide +kernel) (pa_cons (pe_fld (pv 0) rfl) pa_nil)))), ?_⟩
    rw [← pair_len hs] at q
    exact ⟨_, rfl, x, _, dx, _, _, rfl, hx, T.cl_Program, T.no_Program__steps, steps_look l, l, _, rfl, .inl (SqL.of hl), q⟩
theorem ok__law_is (T : Txt K mg) : FnOk PP w K mg base CX0 5 T.a__law_is T.fd__law_is ["_law_program", "_law_steps"] (spIs T.c_Program) := by
  refine T.F__law_is.ok sc__law_is (fun vs H Q E h => ?_) (fun cdv A outer s H vs Q E hr h => ?_)
  · obtain ⟨x, u, us, ss, tt, rfl, _⟩ := h; rfl
  · obtain ⟨x, u, us, ss, tt, rfl, hp, hu, hs, hz, q⟩ := h
    refine ⟨_, (pss_cons (ps_if (PW.pt (pw_or (pt_not (pt_val (pe_callB call_isi (by rfl) T.n_isinstance (by decide +kernel) (pa_cons (pv 0) (pa_cons (pe_glob (v := .ref T.c_Program) (by rfl) T.g_Program rfl) pa_nil))))) (pw_or1 (pt_not (pt_val (pe_call (ok__law_same T 2) (hr.mono (by omega)) (by rfl) T.g__law_same T.F__law_same.kp T.b__law_same .nil pass0 (pa_cons (pe_callB (call_lenI T.m_Program_len (ok_Program_len T) (hr.mono (by omega)) T.b_Program_len pass0) (by rfl) T.n_len (by decide +kernel) (pa_cons (pv 0) pa_nil)) (pa_cons (pe_callB call_len_seq (by rfl) T.n_len (by decide +kernel) (pa_cons (pv 1) pa_nil)) pa_nil)))))))) (pss_one (ps_ret (pe_bl))) pss_nil)
      (pss_one (ps_ret (pe_call (ok__law_same T 2) (hr.mono (by omega)) (by rfl) T.g__law_same T.F__law_same.kp T.b__law_same .nil pass0 (pa_cons (pe_lc (own := [("_law_step_here", 2)]) (g := (gName 2)) (by rfl) sc__law_is.nd (pi_own T.m_Program_iter (ok_Program_iter T) (hr.mono (by omega)) (pv 0)) (blkOk_by (own := [("_law_step_here", 2)]) (N := ["_law_program", "_law_steps", "_law_step_here"]) (sc := defScope S__law_is) (by decide +kernel)) (fun _ _ _ _ _ => (pg_name (i := 2) sc__law_is.nd rfl (.inl rfl))) (fun _ _ _ _ _ => pts_nil) (fun _ _ _ _ _ => (pv 2))) (pa_cons (pv 1) pa_nil)))))), ?_⟩
    obtain ⟨dx, l, vs, hx, hl, ht, hz2⟩ := id hp
    have ls := pair_len hs
    have lt := pair_len ht
    have nxt : ∀ xs, H x ≠ some (.tup xs) := fun xs e => by rw [hx] at e; cases e
    refine ⟨_, rfl, _, _, _, _, true, rfl, ClsV.own _, .base (T.ti_Program _ _ _ _ hx), T.kk_Program, _, rfl, iteNo rfl ?_⟩
    refine ⟨_, rfl, x, dx, _, rfl, hx, x, tt, rfl, hp, ⟨_, rfl, by omega, by omega, ?_⟩⟩
    refine ⟨_, rfl, u, _, rfl, .inl (SqL.of hu), x, _, _, .int _, .int _, rfl, Dn.int _, Dn.int _, _, rfl, ?_⟩
    by_cases e : tt.length = us.length
    · refine iteNo (by rw [e]; exact nsame) ?_
      refine ⟨_, rfl, x, dx, l, _, vs, rfl, hx, steps_look l, SqL.of hl, fun D nD => ?_⟩
      refine lc_list (K := K) (a := l) (xs := vs) (fun i H' => Same H H' ∧ H' D = some (.lst (vs.take i))) ⟨same_new nD, upd_same⟩ (fun i H' _ ⟨s, _⟩ => SqL.of (s _ _ hl)) ?_ ?_
      · rintro i v H7 hv7 ⟨s7, h7⟩
        refine ⟨rfl, _, rfl, _, h7, Nat.lt_of_le_of_lt (by rw [List.length_take]; omega : _ ≤ 1000) (by decide), same_mut s7 nD, ?_⟩
        rw [upd_same, List.take_add_one, hv7]; rfl
      rintro H7 ⟨s7, h7⟩
      rw [List.take_length] at h7
      have nx7 : ∀ xs, H7 x ≠ some (.tup xs) := fun xs e => by rw [s7 _ _ hx] at e; cases e
      have nux : u ≠ x := fun z => by rw [z, hx] at hu; cases hu
      refine ⟨_, rfl, x, _, _, _, _, rfl, stpsDL h7 (ht.same s7) (ne_of_none hx nD).symm nx7 (by omega), stpsDL (s7 _ _ hu) (hs.same s7) nux nx7 (by omega), ?_⟩
      rw [same_steps]
      exact q H7 s7
    · refine iteYes (by rw [same_no (fun z => e (by injection z with z; omega))]; rfl) ?_
      have := q H fun _ _ h => h
      rw [decide_eq_false (fun z => e (by rw [z]; omega))] at this
      exact this
theorem ok__law_handed (T : Txt K mg) : FnOk PP w K mg base CX0 1 T.a__law_handed T.fd__law_handed ["_law_steps", "_law_lists"] (spHandedB K) := by
  refine T.F__law_handed.ok sc__law_handed (fun vs H Q E h => ?_) (fun cdv A outer s H vs Q E hr h => ?_)
  · obtain ⟨u, b, us, ss, rfl, _⟩ := h; rfl
  · obtain ⟨u, b, us, ss, rfl, hu, hs, hz, q⟩ := h
    refine ⟨_, (pss_cons (ps_if (pt_val (pv 1)) (pss_one (ps_ret (pe_lc (own := [("_law_step_here", 2)]) (g := (gName 2)) (by rfl) sc__law_handed.nd (pi_list (pv 0)) (blkOk_by (own := [("_law_step_here", 2)]) (N := ["_law_steps", "_law_lists", "_law_step_here"]) (sc := defScope S__law_handed) (by decide +kernel)) (fun _ _ _ _ _ => (pg_name (i := 2) sc__law_handed.nd rfl (.inl rfl))) (fun _ _ _ _ _ => pts_nil) (fun _ _ _ _ _ => (pe_lst (pa_cons (pe_ix (ixTK (K := K) rfl) (pv 2) (pe_int) (fun _ _ => rfl)) (pa_cons (pe_ix (ixTK (K := K) rfl) (pv 2) (pe_int) (fun _ _ => rfl)) pa_nil))))))) pss_nil)
      (pss_one (ps_ret (pe_callTy call_list_of (by rfl) T.n_list (by decide +kernel) (pa_cons (pv 0) pa_nil))))), ?_⟩
    have big : 90000 < sizeLine := by decide
    refine ⟨_, rfl, _, rfl, ?_⟩
    cases b with
    | true =>
      refine iteT ⟨_, rfl, u, rfl, ⟨_, SqL.of hu⟩, fun D nD => ?_⟩
      refine lc_list (K := K) (a := u) (xs := us) (fun i H' => ∃ ws, Same H H' ∧ H' D = some (.lst ws) ∧ ws.length = i ∧ Paired (fun v (s : Stp) => ∃ p, v = V.ref p ∧ p ≠ D ∧ H p = none ∧ H' p = some (.lst [.str s.1, .int s.2])) ws (ss.take i)) ⟨[], same_new nD, upd_same, rfl, .nil⟩ (fun i H' _ ⟨_, s, _⟩ => SqL.of (s _ _ hu)) ?_ ?_
      · rintro i v H1 hv ⟨ws, s1, h1, lw, pw⟩
        obtain ⟨y, hy, t, rfl, ht⟩ := pair_get hs hv
        have hi := (List.getElem?_eq_some_iff.mp hv).1
        have ht1 := s1 _ _ ht
        refine ⟨rfl, _, rfl, _, _, _, _, rfl, rfl, SqT.of ht1, at_of (j := 0) rfl rfl, _, rfl, _, _, _, _, rfl, rfl, SqT.of ht1, at_of (j := 1) rfl rfl, by show 2 ≤ sizeLine; decide, fun p hp => ?_⟩
        have s2 := same_new (o := .lst [.str y.1, .int y.2]) hp
        have npD : p ≠ D := (ne_of_none h1 hp).symm
        refine ⟨ws, s2 _ _ h1, by omega, ws ++ [.ref p], same_mut (s1.trans s2) nD, upd_same, by rw [List.length_append, lw]; rfl, ?_⟩
        rw [List.take_add_one, hy]
        refine pair_app (L2.Paired.mapP pw fun _ _ ⟨p', e, n1, n2, h'⟩ => ⟨p', e, n1, n2, by rw [upd_ne n1]; exact s2 _ _ h'⟩) (.cons ⟨p, rfl, npD, s1.free hp, by rw [upd_ne npD]; exact upd_same⟩ .nil)
      · rintro H1 ⟨ws, s1, h1, lw, pw⟩
        rw [List.take_of_length_le (by rw [← pair_len hs]; exact Nat.le_refl _)] at pw
        refine q D ws H1 s1 nD h1 (L2.Paired.mapP pw fun _ _ ⟨p', e, _, _, h'⟩ => ⟨p', e, .inr h'⟩) fun x nx hx => ?_
        clear h1 lw q hs
        induction pw with
        | nil => exact .nil
        | cons a r ih =>
          obtain ⟨p', rfl, _, n2, h'⟩ := a
          exact .cons (Dn.lst (fun z => hx (z ▸ n2)) (SqL.of h') (.cons (.str _) (.cons (.int _) .nil))) ih
    | false =>
      refine iteF ⟨_, rfl, u, us, rfl, .inl (SqL.of hu), fun l hl => ?_⟩
      exact q l us _ (same_new hl) hl upd_same (hs.same (same_new hl)).toV fun x nx _ => stpsDn (hs.same (same_new hl)) nx
theorem ok__law_sum (T : Txt K mg) : FnOk PP w K mg base (L2.CX PP w) 10 T.a__law_sum T.fd__law_sum ["_law_form", "_law_program", "_law_row"] (spSum K T.c_Program T.c_BadStep) := by
  refine T.F__law_sum.okX sc__law_sum (fun vs H Q E h => ?_) (fun cdv A outer s H vs Q E hr h => ?_)
  · obtain ⟨f, x, y, us, ss, tt, rfl, _⟩ := h; rfl
  · obtain ⟨f, x, y, us, ss, tt, rfl, f0, f1, hp, hg, hy, ht, hz, q, qb⟩ := h
    refine ⟨_, (pss_cons (ps_if (pt_cmpR op_eq (pv 0) (pe_int) (nomark _)) (pss_one (ps_ret (pe_op (op_binO T.of_Program_add (ok_Program_add T) (hr.mono (by omega)) T.b_Program_add (passes_call (takes_of rfl rfl rfl rfl) (fun _ _ _ _ h => h))) (pv 1) (pv 2)))) pss_nil)
      (pss_cons (ps_if (pt_cmpR op_eq (pv 0) (pe_int) (nomark _)) (pss_one (ps_ret (pe_op (op_radd T.sq_add T.of_Program_add.first T.m_Program_add T.m_Program_radd (ok_Program_radd T) (hr.mono (by omega)) T.b_Program_radd (passes_call (takes_of rfl rfl rfl rfl) (fun _ _ _ _ h => h))) (pv 2) (pv 1)))) pss_nil)
      (pss_cons (ps_if (pt_cmpR op_eq (pv 0) (pe_int) (nomark _)) (pss_one (ps_ret (pe_op (op_binO T.of_Program_add (ok_Program_add T) (hr.mono (by omega)) T.b_Program_add (passes_call (takes_of rfl rfl rfl rfl) (fun _ _ _ _ h => h))) (pv 1) (pe_callTy call_tuple_of (by rfl) T.n_tuple (by decide +kernel) (pa_cons (pv 2) pa_nil))))) pss_nil)
      (pss_cons (ps_if (pt_cmpR op_eq (pv 0) (pe_int) (nomark _)) (pss_one (ps_ret (pe_op (op_radd T.sq_add T.of_Program_add.first T.m_Program_add T.m_Program_radd (ok_Program_radd T) (hr.mono (by omega)) T.b_Program_radd (passes_call (takes_of rfl rfl rfl rfl) (fun _ _ _ _ h => h))) (pe_callTy call_tuple_of (by rfl) T.n_tuple (by decide +kernel) (pa_cons (pv 2) pa_nil)) (pv 1)))) pss_nil)
      (pss_cons (ps_aug (i := 1) sc__law_sum.nd rfl (.inl rfl) (pv 2) (ip_own T.of_Program_add.first T.m_Program_iadd (ok_Program_iadd T) (hr.mono (by omega)) T.b_Program_iadd (passes_call (takes_of rfl rfl rfl rfl) (fun _ _ _ _ h => h))))
      (pss_one (ps_ret (pv 1)))))))), ?_⟩
    obtain ⟨dx, l, vs, hx, _⟩ := id hp
    have row : RowX K H y tt := ⟨us, .inl (SqL.of hy), ht⟩
    have big : 90000 < sizeLine := by decide
    have lt := pair_len ht
    refine ⟨_, rfl, rfl, _, rfl, iteD (fun c => ?_) (fun c0 => ?_)⟩
    · have e : sumOf f ss tt = ss ++ tt := if_neg (by rw [V.int.inj c]; decide)
      rw [e] at q
      exact ⟨_, rfl, _, rfl, x, _, _, rfl, hx, .inr ⟨y, us, rfl, .inl (SqL.of hy)⟩, x, y, ss, tt, rfl, hp, hg, .inr row, hz, q, qb⟩
    refine ⟨_, rfl, rfl, _, rfl, iteD (fun c => ?_) (fun c1 => ?_)⟩
    · have e : sumOf f ss tt = tt ++ ss := if_pos (.inl (V.int.inj c))
      rw [e] at q
      exact ⟨_, rfl, _, rfl, x, dx, _, y, us, rfl, hx, rfl, .inl (SqL.of hy), x, y, ss, tt, rfl, hp, hg, row, hz, q, qb⟩
    refine ⟨_, rfl, rfl, _, rfl, iteD (fun c => ?_) (fun c2 => ?_)⟩
    · have e : sumOf f ss tt = ss ++ tt := if_neg (by rw [V.int.inj c]; decide)
      rw [e] at q
      refine ⟨_, rfl, _, rfl, y, _, rfl, .inl ⟨SqL.of hy, fun c' hc' => ?_⟩⟩
      have s1 := same_new (o := .tup us) hc'
      exact ⟨x, _, _, rfl, s1 _ _ hx, .inr ⟨c', us, rfl, .inr (SqT.of upd_same)⟩, x, c', ss, tt, rfl, hp.same s1, hg, .inr ⟨us, .inr (SqT.of upd_same), stpsV_same ht s1⟩, hz, fun hb z H' s' nz => q hb z H' (s1.trans s') (s1.free nz), fun s' hb H' d q' s2 nd nq => qb s' hb H' d q' (s1.trans s2) (s1.free nd) (s1.free nq)⟩
    refine ⟨_, rfl, rfl, _, rfl, iteD (fun c => ?_) (fun c3 => ?_)⟩
    · have e : sumOf f ss tt = tt ++ ss := if_pos (.inr (V.int.inj c))
      rw [e] at q
      refine ⟨_, rfl, y, _, rfl, .inl ⟨SqL.of hy, fun c' hc' => ?_⟩⟩
      have s1 := same_new (o := .tup us) hc'
      exact ⟨_, rfl, x, dx, _, c', us, rfl, s1 _ _ hx, rfl, .inr (SqT.of upd_same), x, c', ss, tt, rfl, hp.same s1, hg, ⟨us, .inr (SqT.of upd_same), stpsV_same ht s1⟩, hz, fun hb z H' s' nz => q hb z H' (s1.trans s') (s1.free nz), fun s' hb H' d q' s2 nd nq => qb s' hb H' d q' (s1.trans s2) (s1.free nd) (s1.free nq)⟩
    have e : sumOf f ss tt = ss ++ tt := if_neg (fun h => h.elim (fun z => c1 (congrArg V.int z)) fun z => c3 (congrArg V.int z))
    rw [e] at q
    exact ⟨_, rfl, _, rfl, x, dx, _, rfl, hx, x, y, ss, tt, rfl, hp, hg, .inr row, hz, fun hb z H' s' nz hz' => ⟨_, rfl, q hb z H' s' nz hz'⟩, qb⟩
theorem ok__law_refused (T : Txt K mg) : FnOk PP w K mg base CX0 12 T.a__law_refused T.fd__law_refused ["_law_form", "_law_program", "_law_row"] (spRefusedX K T.c_Program) := by
  refine T.F__law_refused.ok sc__law_refused (fun vs H Q E h => ?_) (fun cdv A outer s H vs Q E hr h => ?_)
  · obtain ⟨f, x, y, us, ss, tt, s, rfl, _⟩ := h; rfl
  · obtain ⟨f, x, y, us, ss, tt, sb, rfl, f0, f1, hp, hg, hy, ht, hz, hb0, q⟩ := h
    refine ⟨_, (pss_cons (ps_try_as (i := 3) rfl rfl sc__law_refused.nd rfl rfl ⟨rfl, by decide, .inl T.g_WebError⟩ takes0 (fun W pn xe tk po => (pss_one (ps_expr (pe_callS (ok__law_sum T) (hr.mono (by omega)) (by rfl) T.g__law_sum T.F__law_sum.kp T.b__law_sum (fun σ => passAt tk σ) (pa_cons (pv 0) (pa_cons (pv 1) (pa_cons (pv 2) pa_nil))))))) (fun a oe cls d pn hz hf => (pss_cons (ps_if (PW.pt (pw_or (pt_val (pe_callB (call_isX hz hf) (by rfl) T.n_isinstance (by decide +kernel) (pa_cons (pv 3) (pa_cons (pe_glob (v := .ref T.c_Refused) (by rfl) T.g_Refused rfl) pa_nil)))) (pw_or (pt_val (pe_callB (call_isX hz hf) (by rfl) T.n_isinstance (by decide +kernel) (pa_cons (pv 3) (pa_cons (pe_glob (v := .ref T.c_NoThing) (by rfl) T.g_NoThing rfl) pa_nil)))) (pw_or1 (pt_not (pt_val (pe_callB (call_isX hz hf) (by rfl) T.n_isinstance (by decide +kernel) (pa_cons (pv 3) (pa_cons (pe_bltn (v := .ty "ValueError") (by rfl) T.n_ValueError (by decide +kernel) rfl) pa_nil))))))))) (pss_one (ps_ret (pe_lst (pa_cons (pe_str) pa_nil)))) pss_nil)
      (pss_one (ps_if (pt_val (pe_callB (call_isX hz hf) (by rfl) T.n_isinstance (by decide +kernel) (pa_cons (pv 3) (pa_cons (pe_glob (v := .ref T.c_BadStep) (by rfl) T.g_BadStep rfl) pa_nil)))) (pss_one (ps_ret (pe_lst (pa_cons (pe_str) (pa_cons (pe_xfX hz hf (pv 3)) pa_nil))))) pss_nil)))))
      (pss_one (ps_ret (pe_lst pa_nil)))), ?_⟩
    refine ⟨_, rfl, _, rfl, _, rfl, f, x, y, us, ss, tt, rfl, f0, f1, hp, hg, hy, ht, hz, (fun hb => by rw [hb0] at hb; cases hb), fun st hb H1 d p s1 nd np hd1 hp1 => ⟨true, T.em_BadStep_WebError, fun _ a0 ha0 => ?_, fun z => nomatch z⟩⟩
    rw [hb0] at hb
    obtain rfl := Option.some.inj hb
    refine ⟨_, rfl, _, d, _, _, _, false, rfl, rfl, hd1, T.xc_BadStep, rfl, ClsV.own _, T.kt_BadStep_Refused, _, rfl, iteF ?_⟩
    refine ⟨_, rfl, _, d, _, _, _, false, rfl, rfl, hd1, T.xc_BadStep, rfl, ClsV.own _, T.kt_BadStep_NoThing, _, rfl, iteF ?_⟩
    refine ⟨_, rfl, _, d, _, _, _, true, rfl, rfl, hd1, T.xc_BadStep, rfl, ClsV.ty _, T.kt_BadStep_ValueError, _, rfl, iteNo rfl ?_⟩
    refine ⟨_, rfl, _, d, _, _, _, true, rfl, rfl, hd1, T.xc_BadStep, rfl, ClsV.own _, T.kt_BadStep_BadStep, _, rfl, iteT ?_⟩
    refine ⟨_, rfl, rfl, _, d, _, _, rfl, T.xc_BadStep, T.xn_BadStep, rfl, hd1, rfl, by show 2 ≤ sizeLine; decide, fun r hr => ?_⟩
    exact q r p _ (s1.trans (same_new hr)) (s1.free hr) np (same_new hr _ _ hp1) upd_same
end
end My

namespace My
open PySem L2
theorem opd_of {K : PySem.W.Frag} {C : Addr} {H : Hp} {y : Addr} {tt : List Stp} (h : RgtX K C H y tt) : Opd K C H (.ref y) := by
  rcases h with ⟨⟨dy, m, vs, hy, _⟩, _⟩ | ⟨vs, hy, _⟩
  · exact .inl ⟨y, _, _, rfl, hy⟩
  · exact .inr ⟨y, vs, rfl, hy⟩
def spInPlace (K : PySem.W.Frag) (C : Addr) : Sp := fun vs H Q _ => ∃ (x y r S1 S2 : Addr) (us1 us2 ws : List V) (ss tt : List Stp), vs = [.ref x, .ref y, .ref r, .ref S1, .ref S2] ∧ Pg C H x ss ∧ Pg C H y tt ∧ (∀ s ∈ ss, goodS s) ∧ (∀ s ∈ tt, goodS s) ∧ H r = some (.lst ws) ∧ StpsV H ws tt ∧
  H S1 = some (.lst us1) ∧ Stps H us1 ss ∧ H S2 = some (.lst us2) ∧ Stps H us2 tt ∧ ss.length ≤ 10 ∧ tt.length ≤ 10 ∧ ∀ H', Same H H' → Q (.bl true) H'
section
variable {w : World} {K : PySem.W.Frag} {mg : Str → Option Value} {base : Heap}
theorem ok__law_in_place (T : Txt K mg) : FnOk PP w K mg base CX0 12 T.a__law_in_place T.fd__law_in_place ["_law_program", "_law_other", "_law_row", "_law_one", "_law_two"] (spInPlace K T.c_Program) := by
  refine T.F__law_in_place.ok sc__law_in_place (fun vs H Q E h => ?_) (fun cdv A outer s H vs Q E hr h => ?_)
  · obtain ⟨x, y, r, S1, S2, us1, us2, ws, ss, tt, rfl, _⟩ := h; rfl
  · obtain ⟨x, y, r, S1, S2, us1, us2, ws, ss, tt, rfl, hx, hy, gs, gt, hr0, hw, h1, st1, h2, st2, l1, l2, q⟩ := h
    refine ⟨_, (pss_cons (ps_set (i := 5) sc__law_in_place.nd rfl (.inl rfl) (pv 0))
      (pss_cons (ps_aug (i := 5) sc__law_in_place.nd rfl (.inl rfl) (pv 1) (ip_own T.of_Program_add.first T.m_Program_iadd ((ok_Program_iadd T).calm) (hr.mono (by omega)) T.b_Program_iadd pass0))
      (pss_cons (ps_if (PW.pt (pw_or (pt_not (pt_val (pe_call (ok__law_is T) (hr.mono (by omega)) (by rfl) T.g__law_is T.F__law_is.kp T.b__law_is .nil pass0 (pa_cons (pv 5) (pa_cons (pe_op op_cat (pv 3) (pv 4)) pa_nil))))) (pw_or (pt_not (pt_val (pe_call (ok__law_is T) (hr.mono (by omega)) (by rfl) T.g__law_is T.F__law_is.kp T.b__law_is .nil pass0 (pa_cons (pv 0) (pa_cons (pv 3) pa_nil))))) (pw_or1 (pt_not (pt_val (pe_call (ok__law_is T) (hr.mono (by omega)) (by rfl) T.g__law_is T.F__law_is.kp T.b__law_is .nil pass0 (pa_cons (pv 1) (pa_cons (pv 4) pa_nil))))))))) (pss_one (ps_ret (pe_bl))) pss_nil)
      (pss_cons (ps_set (i := 6) sc__law_in_place.nd rfl (.inl rfl) (pv 5))
      (pss_cons (ps_aug (i := 5) sc__law_in_place.nd rfl (.inl rfl) (pv 2) (ip_own T.of_Program_add.first T.m_Program_iadd ((ok_Program_iadd T).calm) (hr.mono (by omega)) T.b_Program_iadd pass0))
      (pss_cons (ps_if (PW.pt (pw_or (pt_not (pt_val (pe_call (ok__law_is T) (hr.mono (by omega)) (by rfl) T.g__law_is T.F__law_is.kp T.b__law_is .nil pass0 (pa_cons (pv 5) (pa_cons (pe_op op_cat (pe_op op_cat (pv 3) (pv 4)) (pv 4)) pa_nil))))) (pw_or1 (pt_not (pt_val (pe_call (ok__law_is T) (hr.mono (by omega)) (by rfl) T.g__law_is T.F__law_is.kp T.b__law_is .nil pass0 (pa_cons (pv 6) (pa_cons (pe_op op_cat (pv 3) (pv 4)) pa_nil)))))))) (pss_one (ps_ret (pe_bl))) pss_nil)
      (pss_cons (ps_aug (i := 5) sc__law_in_place.nd rfl (.inl rfl) (pe_callTy call_tuple_of (by rfl) T.n_tuple (by decide +kernel) (pa_cons (pv 2) pa_nil)) (ip_own T.of_Program_add.first T.m_Program_iadd ((ok_Program_iadd T).calm) (hr.mono (by omega)) T.b_Program_iadd pass0))
      (pss_cons (ps_if (PW.pt (pw_or (pt_not (pt_val (pe_call (ok__law_is T) (hr.mono (by omega)) (by rfl) T.g__law_is T.F__law_is.kp T.b__law_is .nil pass0 (pa_cons (pv 5) (pa_cons (pe_op op_cat (pe_op op_cat (pe_op op_cat (pv 3) (pv 4)) (pv 4)) (pv 4)) pa_nil))))) (pw_or1 (pt_not (pt_val (pe_call (ok__law_is T) (hr.mono (by omega)) (by rfl) T.g__law_is T.F__law_is.kp T.b__law_is .nil pass0 (pa_cons (pv 6) (pa_cons (pe_op op_cat (pv 3) (pv 4)) pa_nil)))))))) (pss_one (ps_ret (pe_bl))) pss_nil)
      (pss_cons (ps_aug (i := 5) sc__law_in_place.nd rfl (.inl rfl) (pe_lst pa_nil) (ip_own T.of_Program_add.first T.m_Program_iadd ((ok_Program_iadd T).calm) (hr.mono (by omega)) T.b_Program_iadd pass0))
      (pss_cons (ps_aug (i := 5) sc__law_in_place.nd rfl (.inl rfl) (pe_tup pa_nil) (ip_own T.of_Program_add.first T.m_Program_iadd ((ok_Program_iadd T).calm) (hr.mono (by omega)) T.b_Program_iadd pass0))
      (pss_one (ps_ret (pe_and (pe_call (ok__law_is T) (hr.mono (by omega)) (by rfl) T.g__law_is T.F__law_is.kp T.b__law_is .nil pass0 (pa_cons (pv 5) (pa_cons (pe_op op_cat (pe_op op_cat (pe_op op_cat (pv 3) (pv 4)) (pv 4)) (pv 4)) pa_nil))) (pe_and (pe_call (ok__law_is T) (hr.mono (by omega)) (by rfl) T.g__law_is T.F__law_is.kp T.b__law_is .nil pass0 (pa_cons (pv 0) (pa_cons (pv 3) pa_nil))) (pe_one (pe_call (ok__law_is T) (hr.mono (by omega)) (by rfl) T.g__law_is T.F__law_is.kp T.b__law_is .nil pass0 (pa_cons (pv 1) (pa_cons (pv 4) pa_nil)))))))))))))))))), ?_⟩
    have nbt : firstBad tt = none := no_bad.mpr gt
    have lu1 := pair_len st1
    have lu2 := pair_len st2
    have big : 90000 < sizeLine := by decide
    have gst : ∀ s ∈ ss ++ tt, goodS s := fun s h => (List.mem_append.mp h).elim (gs s) (gt s)
    have row : RowX K H r tt := ⟨ws, .inl (SqL.of hr0), hw⟩
    -- name = program; name += other
    refine ⟨_, rfl, _, rfl, _, rfl, ?_⟩
    obtain ⟨dx, _, _, ex, _⟩ := id hx
    refine ⟨x, dx, _, rfl, ex, x, y, ss, tt, rfl, hx, gs, .inl ⟨hy, gt⟩, by omega, (fun _ z H1_ e1 nz hz => ?_), (fun s' hb => by rw [nbt] at hb; cases hb)⟩
    refine ⟨_, rfl, _, rfl, _, rfl, S1, S2, _, _, rfl, rfl, (e1 _ _ h1), (e1 _ _ h2), by (try simp only [List.length_append]); omega, fun c1 nc1 => ?_⟩
    have e2 := same_new (o := .lst (us1 ++ us2)) nc1
    have hc1 : (upd H1_ c1 (.lst (us1 ++ us2))) c1 = some (.lst (us1 ++ us2)) := upd_same
    have stc1 : Stps (upd H1_ c1 (.lst (us1 ++ us2))) (us1 ++ us2) (ss ++ tt) := pair_app ((st1.same e1).same e2) ((st2.same e1).same e2)
    revert e2 hc1 stc1
    generalize upd H1_ c1 (.lst (us1 ++ us2)) = H2_
    intro e2 hc1 stc1
    refine ⟨z, c1, (us1 ++ us2), (ss ++ tt), (ss ++ tt), rfl, (hz.same e2), hc1, stc1, by (try simp only [List.length_append]); omega, fun H3_ e3 => ?_⟩
    rw [decide_eq_true rfl]
    refine ⟨_, rfl, iteNo rfl ?_⟩
    refine ⟨_, rfl, _, rfl, x, S1, us1, ss, ss, rfl, (hx.same ((e1.trans e2).trans e3)), (((e1.trans e2).trans e3) _ _ h1), (st1.same ((e1.trans e2).trans e3)), by (try simp only [List.length_append]); omega, fun H4_ e4 => ?_⟩
    rw [decide_eq_true rfl]
    refine ⟨_, rfl, iteNo rfl ?_⟩
    refine ⟨_, rfl, _, rfl, y, S2, us2, tt, tt, rfl, (hy.same (((e1.trans e2).trans e3).trans e4)), ((((e1.trans e2).trans e3).trans e4) _ _ h2), (st2.same (((e1.trans e2).trans e3).trans e4)), by (try simp only [List.length_append]); omega, fun H5_ e5 => ?_⟩
    rw [decide_eq_true rfl]
    refine ⟨_, rfl, iteNo rfl ?_⟩
    refine ⟨_, rfl, _, rfl, _, rfl, ?_⟩
    obtain ⟨_, _, _, qz2, _⟩ := id (hz.same (((e2.trans e3).trans e4).trans e5))
    refine ⟨z, _, _, rfl, qz2, z, r, (ss ++ tt), tt, rfl, (hz.same (((e2.trans e3).trans e4).trans e5)), gst, .inr (row_same row ((((e1.trans e2).trans e3).trans e4).trans e5)), by (try simp only [List.length_append, List.length_nil]); omega, (fun _ z2 H6_ e6 nz2 hz2 => ?_), (fun s' hb => by rw [nbt] at hb; cases hb)⟩
    have gst2 : ∀ s ∈ ss ++ tt ++ tt, goodS s := fun s h => (List.mem_append.mp h).elim (gst s) (gt s)
    refine ⟨_, rfl, _, rfl, _, rfl, S1, S2, _, _, rfl, rfl, ((((((e1.trans e2).trans e3).trans e4).trans e5).trans e6) _ _ h1), ((((((e1.trans e2).trans e3).trans e4).trans e5).trans e6) _ _ h2), by (try simp only [List.length_append]); omega, fun c2 nc2 => ?_⟩
    have e7 := same_new (o := .lst (us1 ++ us2)) nc2
    have hc2 : (upd H6_ c2 (.lst (us1 ++ us2))) c2 = some (.lst (us1 ++ us2)) := upd_same
    have stc2 : Stps (upd H6_ c2 (.lst (us1 ++ us2))) (us1 ++ us2) (ss ++ tt) := pair_app ((st1.same (((((e1.trans e2).trans e3).trans e4).trans e5).trans e6)).same e7) ((st2.same (((((e1.trans e2).trans e3).trans e4).trans e5).trans e6)).same e7)
    revert e7 hc2 stc2
    generalize upd H6_ c2 (.lst (us1 ++ us2)) = H7_
    intro e7 hc2 stc2
    refine ⟨_, rfl, c2, S2, _, _, rfl, rfl, hc2, (((((((e1.trans e2).trans e3).trans e4).trans e5).trans e6).trans e7) _ _ h2), by (try simp only [List.length_append]); omega, fun c3 nc3 => ?_⟩
    have e8 := same_new (o := .lst ((us1 ++ us2) ++ us2)) nc3
    have hc3 : (upd H7_ c3 (.lst ((us1 ++ us2) ++ us2))) c3 = some (.lst ((us1 ++ us2) ++ us2)) := upd_same
    have stc3 : Stps (upd H7_ c3 (.lst ((us1 ++ us2) ++ us2))) ((us1 ++ us2) ++ us2) ((ss ++ tt) ++ tt) := pair_app (stc2.same e8) ((st2.same ((((((e1.trans e2).trans e3).trans e4).trans e5).trans e6).trans e7)).same e8)
    revert e8 hc3 stc3
    generalize upd H7_ c3 (.lst ((us1 ++ us2) ++ us2)) = H8_
    intro e8 hc3 stc3
    refine ⟨z2, c3, ((us1 ++ us2) ++ us2), ((ss ++ tt) ++ tt), ((ss ++ tt) ++ tt), rfl, (hz2.same (e7.trans e8)), hc3, stc3, by (try simp only [List.length_append]); omega, fun H9_ e9 => ?_⟩
    rw [decide_eq_true rfl]
    refine ⟨_, rfl, iteNo rfl ?_⟩
    refine ⟨_, rfl, _, rfl, _, rfl, S1, S2, _, _, rfl, rfl, (((((((((e1.trans e2).trans e3).trans e4).trans e5).trans e6).trans e7).trans e8).trans e9) _ _ h1), (((((((((e1.trans e2).trans e3).trans e4).trans e5).trans e6).trans e7).trans e8).trans e9) _ _ h2), by (try simp only [List.length_append]); omega, fun c4 nc4 => ?_⟩
    have e10 := same_new (o := .lst (us1 ++ us2)) nc4
    have hc4 : (upd H9_ c4 (.lst (us1 ++ us2))) c4 = some (.lst (us1 ++ us2)) := upd_same
    have stc4 : Stps (upd H9_ c4 (.lst (us1 ++ us2))) (us1 ++ us2) (ss ++ tt) := pair_app ((st1.same ((((((((e1.trans e2).trans e3).trans e4).trans e5).trans e6).trans e7).trans e8).trans e9)).same e10) ((st2.same ((((((((e1.trans e2).trans e3).trans e4).trans e5).trans e6).trans e7).trans e8).trans e9)).same e10)
    revert e10 hc4 stc4
    generalize upd H9_ c4 (.lst (us1 ++ us2)) = H10_
    intro e10 hc4 stc4
    refine ⟨z, c4, (us1 ++ us2), (ss ++ tt), (ss ++ tt), rfl, (hz.same ((((((((e2.trans e3).trans e4).trans e5).trans e6).trans e7).trans e8).trans e9).trans e10)), hc4, stc4, by (try simp only [List.length_append]); omega, fun H11_ e11 => ?_⟩
    rw [decide_eq_true rfl]
    refine ⟨_, rfl, iteNo rfl ?_⟩
    refine ⟨_, rfl, _, rfl, r, _, rfl, .inl ⟨SqL.of (((((((((((e1.trans e2).trans e3).trans e4).trans e5).trans e6).trans e7).trans e8).trans e9).trans e10).trans e11) _ _ hr0), fun c0 nc0 => ?_⟩⟩
    have e12 := same_new (o := .tup ws) nc0
    have row2 : RowX K (upd H11_ c0 (.tup ws)) c0 tt := ⟨ws, .inr (SqT.of upd_same), stpsV_same (stpsV_same hw ((((((((((e1.trans e2).trans e3).trans e4).trans e5).trans e6).trans e7).trans e8).trans e9).trans e10).trans e11)) e12⟩
    revert e12 row2
    generalize upd H11_ c0 (.tup ws) = H12_
    intro e12 row2
    obtain ⟨_, _, _, qz3, _⟩ := id (hz2.same (((((e7.trans e8).trans e9).trans e10).trans e11).trans e12))
    refine ⟨z2, _, _, rfl, qz3, z2, c0, (ss ++ tt ++ tt), tt, rfl, (hz2.same (((((e7.trans e8).trans e9).trans e10).trans e11).trans e12)), gst2, .inr row2, by (try simp only [List.length_append, List.length_nil]); omega, (fun _ z3 H13_ e13 nz3 hz3 => ?_), (fun s' hb => by rw [nbt] at hb; cases hb)⟩
    have gst3 : ∀ s ∈ ss ++ tt ++ tt ++ tt, goodS s := fun s h => (List.mem_append.mp h).elim (gst2 s) (gt s)
    refine ⟨_, rfl, _, rfl, _, rfl, S1, S2, _, _, rfl, rfl, (((((((((((((e1.trans e2).trans e3).trans e4).trans e5).trans e6).trans e7).trans e8).trans e9).trans e10).trans e11).trans e12).trans e13) _ _ h1), (((((((((((((e1.trans e2).trans e3).trans e4).trans e5).trans e6).trans e7).trans e8).trans e9).trans e10).trans e11).trans e12).trans e13) _ _ h2), by (try simp only [List.length_append]); omega, fun c5 nc5 => ?_⟩
    have e14 := same_new (o := .lst (us1 ++ us2)) nc5
    have hc5 : (upd H13_ c5 (.lst (us1 ++ us2))) c5 = some (.lst (us1 ++ us2)) := upd_same
    have stc5 : Stps (upd H13_ c5 (.lst (us1 ++ us2))) (us1 ++ us2) (ss ++ tt) := pair_app ((st1.same ((((((((((((e1.trans e2).trans e3).trans e4).trans e5).trans e6).trans e7).trans e8).trans e9).trans e10).trans e11).trans e12).trans e13)).same e14) ((st2.same ((((((((((((e1.trans e2).trans e3).trans e4).trans e5).trans e6).trans e7).trans e8).trans e9).trans e10).trans e11).trans e12).trans e13)).same e14)
    revert e14 hc5 stc5
    generalize upd H13_ c5 (.lst (us1 ++ us2)) = H14_
    intro e14 hc5 stc5
    refine ⟨_, rfl, c5, S2, _, _, rfl, rfl, hc5, ((((((((((((((e1.trans e2).trans e3).trans e4).trans e5).trans e6).trans e7).trans e8).trans e9).trans e10).trans e11).trans e12).trans e13).trans e14) _ _ h2), by (try simp only [List.length_append]); omega, fun c6 nc6 => ?_⟩
    have e15 := same_new (o := .lst ((us1 ++ us2) ++ us2)) nc6
    have hc6 : (upd H14_ c6 (.lst ((us1 ++ us2) ++ us2))) c6 = some (.lst ((us1 ++ us2) ++ us2)) := upd_same
    have stc6 : Stps (upd H14_ c6 (.lst ((us1 ++ us2) ++ us2))) ((us1 ++ us2) ++ us2) ((ss ++ tt) ++ tt) := pair_app (stc5.same e15) ((st2.same (((((((((((((e1.trans e2).trans e3).trans e4).trans e5).trans e6).trans e7).trans e8).trans e9).trans e10).trans e11).trans e12).trans e13).trans e14)).same e15)
    revert e15 hc6 stc6
    generalize upd H14_ c6 (.lst ((us1 ++ us2) ++ us2)) = H15_
    intro e15 hc6 stc6
    refine ⟨_, rfl, c6, S2, _, _, rfl, rfl, hc6, (((((((((((((((e1.trans e2).trans e3).trans e4).trans e5).trans e6).trans e7).trans e8).trans e9).trans e10).trans e11).trans e12).trans e13).trans e14).trans e15) _ _ h2), by (try simp only [List.length_append]); omega, fun c7 nc7 => ?_⟩
    have e16 := same_new (o := .lst (((us1 ++ us2) ++ us2) ++ us2)) nc7
    have hc7 : (upd H15_ c7 (.lst (((us1 ++ us2) ++ us2) ++ us2))) c7 = some (.lst (((us1 ++ us2) ++ us2) ++ us2)) := upd_same
    have stc7 : Stps (upd H15_ c7 (.lst (((us1 ++ us2) ++ us2) ++ us2))) (((us1 ++ us2) ++ us2) ++ us2) (((ss ++ tt) ++ tt) ++ tt) := pair_app (stc6.same e16) ((st2.same ((((((((((((((e1.trans e2).trans e3).trans e4).trans e5).trans e6).trans e7).trans e8).trans e9).trans e10).trans e11).trans e12).trans e13).trans e14).trans e15)).same e16)
    revert e16 hc7 stc7
    generalize upd H15_ c7 (.lst (((us1 ++ us2) ++ us2) ++ us2)) = H16_
    intro e16 hc7 stc7
    refine ⟨z3, c7, (((us1 ++ us2) ++ us2) ++ us2), (((ss ++ tt) ++ tt) ++ tt), (((ss ++ tt) ++ tt) ++ tt), rfl, (hz3.same ((e14.trans e15).trans e16)), hc7, stc7, by (try simp only [List.length_append]); omega, fun H17_ e17 => ?_⟩
    rw [decide_eq_true rfl]
    refine ⟨_, rfl, iteNo rfl ?_⟩
    refine ⟨_, rfl, _, rfl, _, rfl, S1, S2, _, _, rfl, rfl, (((((((((((((((((e1.trans e2).trans e3).trans e4).trans e5).trans e6).trans e7).trans e8).trans e9).trans e10).trans e11).trans e12).trans e13).trans e14).trans e15).trans e16).trans e17) _ _ h1), (((((((((((((((((e1.trans e2).trans e3).trans e4).trans e5).trans e6).trans e7).trans e8).trans e9).trans e10).trans e11).trans e12).trans e13).trans e14).trans e15).trans e16).trans e17) _ _ h2), by (try simp only [List.length_append]); omega, fun c8 nc8 => ?_⟩
    have e18 := same_new (o := .lst (us1 ++ us2)) nc8
    have hc8 : (upd H17_ c8 (.lst (us1 ++ us2))) c8 = some (.lst (us1 ++ us2)) := upd_same
    have stc8 : Stps (upd H17_ c8 (.lst (us1 ++ us2))) (us1 ++ us2) (ss ++ tt) := pair_app ((st1.same ((((((((((((((((e1.trans e2).trans e3).trans e4).trans e5).trans e6).trans e7).trans e8).trans e9).trans e10).trans e11).trans e12).trans e13).trans e14).trans e15).trans e16).trans e17)).same e18) ((st2.same ((((((((((((((((e1.trans e2).trans e3).trans e4).trans e5).trans e6).trans e7).trans e8).trans e9).trans e10).trans e11).trans e12).trans e13).trans e14).trans e15).trans e16).trans e17)).same e18)
    revert e18 hc8 stc8
    generalize upd H17_ c8 (.lst (us1 ++ us2)) = H18_
    intro e18 hc8 stc8
    refine ⟨z, c8, (us1 ++ us2), (ss ++ tt), (ss ++ tt), rfl, (hz.same ((((((((((((((((e2.trans e3).trans e4).trans e5).trans e6).trans e7).trans e8).trans e9).trans e10).trans e11).trans e12).trans e13).trans e14).trans e15).trans e16).trans e17).trans e18)), hc8, stc8, by (try simp only [List.length_append]); omega, fun H19_ e19 => ?_⟩
    rw [decide_eq_true rfl]
    refine ⟨_, rfl, iteNo rfl ?_⟩
    have nb0 : firstBad ([] : List Stp) = none := rfl
    refine ⟨_, rfl, Nat.zero_le _, fun c_z4 nc_z4 => ?_⟩
    have e20 := same_new (o := .lst []) nc_z4
    have rwz4 : RowX K (upd H19_ c_z4 (.lst [])) c_z4 [] := ⟨[], .inl (SqL.of upd_same), .nil⟩
    revert e20 rwz4
    generalize upd H19_ c_z4 (.lst []) = H20_
    intro e20 rwz4
    obtain ⟨_, _, _, qz4, _⟩ := id (hz3.same ((((((e14.trans e15).trans e16).trans e17).trans e18).trans e19).trans e20))
    refine ⟨z3, _, _, rfl, qz4, z3, c_z4, (ss ++ tt ++ tt ++ tt), [], rfl, (hz3.same ((((((e14.trans e15).trans e16).trans e17).trans e18).trans e19).trans e20)), gst3, .inr rwz4, by (try simp only [List.length_append, List.length_nil]); omega, (fun _ z4 H21_ e21 nz4 hz4 => ?_), (fun s' hb => by rw [nb0] at hb; cases hb)⟩
    rw [List.append_nil] at hz4
    refine ⟨_, rfl, Nat.zero_le _, fun c_z5 nc_z5 => ?_⟩
    have e22 := same_new (o := .tup []) nc_z5
    have rwz5 : RowX K (upd H21_ c_z5 (.tup [])) c_z5 [] := ⟨[], .inr (SqT.of upd_same), .nil⟩
    revert e22 rwz5
    generalize upd H21_ c_z5 (.tup []) = H22_
    intro e22 rwz5
    obtain ⟨_, _, _, qz5, _⟩ := id (hz4.same e22)
    refine ⟨z4, _, _, rfl, qz5, z4, c_z5, (ss ++ tt ++ tt ++ tt), [], rfl, (hz4.same e22), gst3, .inr rwz5, by (try simp only [List.length_append, List.length_nil]); omega, (fun _ z5 H23_ e23 nz5 hz5 => ?_), (fun s' hb => by rw [nb0] at hb; cases hb)⟩
    rw [List.append_nil] at hz5
    refine ⟨_, rfl, _, rfl, _, rfl, S1, S2, _, _, rfl, rfl, (((((((((((((((((((((((e1.trans e2).trans e3).trans e4).trans e5).trans e6).trans e7).trans e8).trans e9).trans e10).trans e11).trans e12).trans e13).trans e14).trans e15).trans e16).trans e17).trans e18).trans e19).trans e20).trans e21).trans e22).trans e23) _ _ h1), (((((((((((((((((((((((e1.trans e2).trans e3).trans e4).trans e5).trans e6).trans e7).trans e8).trans e9).trans e10).trans e11).trans e12).trans e13).trans e14).trans e15).trans e16).trans e17).trans e18).trans e19).trans e20).trans e21).trans e22).trans e23) _ _ h2), by (try simp only [List.length_append]); omega, fun c9 nc9 => ?_⟩
    have e24 := same_new (o := .lst (us1 ++ us2)) nc9
    have hc9 : (upd H23_ c9 (.lst (us1 ++ us2))) c9 = some (.lst (us1 ++ us2)) := upd_same
    have stc9 : Stps (upd H23_ c9 (.lst (us1 ++ us2))) (us1 ++ us2) (ss ++ tt) := pair_app ((st1.same ((((((((((((((((((((((e1.trans e2).trans e3).trans e4).trans e5).trans e6).trans e7).trans e8).trans e9).trans e10).trans e11).trans e12).trans e13).trans e14).trans e15).trans e16).trans e17).trans e18).trans e19).trans e20).trans e21).trans e22).trans e23)).same e24) ((st2.same ((((((((((((((((((((((e1.trans e2).trans e3).trans e4).trans e5).trans e6).trans e7).trans e8).trans e9).trans e10).trans e11).trans e12).trans e13).trans e14).trans e15).trans e16).trans e17).trans e18).trans e19).trans e20).trans e21).trans e22).trans e23)).same e24)
    revert e24 hc9 stc9
    generalize upd H23_ c9 (.lst (us1 ++ us2)) = H24_
    intro e24 hc9 stc9
    refine ⟨_, rfl, c9, S2, _, _, rfl, rfl, hc9, ((((((((((((((((((((((((e1.trans e2).trans e3).trans e4).trans e5).trans e6).trans e7).trans e8).trans e9).trans e10).trans e11).trans e12).trans e13).trans e14).trans e15).trans e16).trans e17).trans e18).trans e19).trans e20).trans e21).trans e22).trans e23).trans e24) _ _ h2), by (try simp only [List.length_append]); omega, fun c10 nc10 => ?_⟩
    have e25 := same_new (o := .lst ((us1 ++ us2) ++ us2)) nc10
    have hc10 : (upd H24_ c10 (.lst ((us1 ++ us2) ++ us2))) c10 = some (.lst ((us1 ++ us2) ++ us2)) := upd_same
    have stc10 : Stps (upd H24_ c10 (.lst ((us1 ++ us2) ++ us2))) ((us1 ++ us2) ++ us2) ((ss ++ tt) ++ tt) := pair_app (stc9.same e25) ((st2.same (((((((((((((((((((((((e1.trans e2).trans e3).trans e4).trans e5).trans e6).trans e7).trans e8).trans e9).trans e10).trans e11).trans e12).trans e13).trans e14).trans e15).trans e16).trans e17).trans e18).trans e19).trans e20).trans e21).trans e22).trans e23).trans e24)).same e25)
    revert e25 hc10 stc10
    generalize upd H24_ c10 (.lst ((us1 ++ us2) ++ us2)) = H25_
    intro e25 hc10 stc10
    refine ⟨_, rfl, c10, S2, _, _, rfl, rfl, hc10, (((((((((((((((((((((((((e1.trans e2).trans e3).trans e4).trans e5).trans e6).trans e7).trans e8).trans e9).trans e10).trans e11).trans e12).trans e13).trans e14).trans e15).trans e16).trans e17).trans e18).trans e19).trans e20).trans e21).trans e22).trans e23).trans e24).trans e25) _ _ h2), by (try simp only [List.length_append]); omega, fun c11 nc11 => ?_⟩
    have e26 := same_new (o := .lst (((us1 ++ us2) ++ us2) ++ us2)) nc11
    have hc11 : (upd H25_ c11 (.lst (((us1 ++ us2) ++ us2) ++ us2))) c11 = some (.lst (((us1 ++ us2) ++ us2) ++ us2)) := upd_same
    have stc11 : Stps (upd H25_ c11 (.lst (((us1 ++ us2) ++ us2) ++ us2))) (((us1 ++ us2) ++ us2) ++ us2) (((ss ++ tt) ++ tt) ++ tt) := pair_app (stc10.same e26) ((st2.same ((((((((((((((((((((((((e1.trans e2).trans e3).trans e4).trans e5).trans e6).trans e7).trans e8).trans e9).trans e10).trans e11).trans e12).trans e13).trans e14).trans e15).trans e16).trans e17).trans e18).trans e19).trans e20).trans e21).trans e22).trans e23).trans e24).trans e25)).same e26)
    revert e26 hc11 stc11
    generalize upd H25_ c11 (.lst (((us1 ++ us2) ++ us2) ++ us2)) = H26_
    intro e26 hc11 stc11
    refine ⟨z5, c11, (((us1 ++ us2) ++ us2) ++ us2), (((ss ++ tt) ++ tt) ++ tt), (((ss ++ tt) ++ tt) ++ tt), rfl, (hz5.same ((e24.trans e25).trans e26)), hc11, stc11, by (try simp only [List.length_append]); omega, fun H27_ e27 => ?_⟩
    rw [decide_eq_true rfl]
    refine ⟨_, rfl, iteT ?_⟩
    refine ⟨_, rfl, _, rfl, x, S1, us1, ss, ss, rfl, (hx.same ((((((((((((((((((((((((((e1.trans e2).trans e3).trans e4).trans e5).trans e6).trans e7).trans e8).trans e9).trans e10).trans e11).trans e12).trans e13).trans e14).trans e15).trans e16).trans e17).trans e18).trans e19).trans e20).trans e21).trans e22).trans e23).trans e24).trans e25).trans e26).trans e27)), (((((((((((((((((((((((((((e1.trans e2).trans e3).trans e4).trans e5).trans e6).trans e7).trans e8).trans e9).trans e10).trans e11).trans e12).trans e13).trans e14).trans e15).trans e16).trans e17).trans e18).trans e19).trans e20).trans e21).trans e22).trans e23).trans e24).trans e25).trans e26).trans e27) _ _ h1), (st1.same ((((((((((((((((((((((((((e1.trans e2).trans e3).trans e4).trans e5).trans e6).trans e7).trans e8).trans e9).trans e10).trans e11).trans e12).trans e13).trans e14).trans e15).trans e16).trans e17).trans e18).trans e19).trans e20).trans e21).trans e22).trans e23).trans e24).trans e25).trans e26).trans e27)), by (try simp only [List.length_append]); omega, fun H28_ e28 => ?_⟩
    rw [decide_eq_true rfl]
    refine ⟨_, rfl, iteT ?_⟩
    refine ⟨_, rfl, _, rfl, y, S2, us2, tt, tt, rfl, (hy.same (((((((((((((((((((((((((((e1.trans e2).trans e3).trans e4).trans e5).trans e6).trans e7).trans e8).trans e9).trans e10).trans e11).trans e12).trans e13).trans e14).trans e15).trans e16).trans e17).trans e18).trans e19).trans e20).trans e21).trans e22).trans e23).trans e24).trans e25).trans e26).trans e27).trans e28)), ((((((((((((((((((((((((((((e1.trans e2).trans e3).trans e4).trans e5).trans e6).trans e7).trans e8).trans e9).trans e10).trans e11).trans e12).trans e13).trans e14).trans e15).trans e16).trans e17).trans e18).trans e19).trans e20).trans e21).trans e22).trans e23).trans e24).trans e25).trans e26).trans e27).trans e28) _ _ h2), (st2.same (((((((((((((((((((((((((((e1.trans e2).trans e3).trans e4).trans e5).trans e6).trans e7).trans e8).trans e9).trans e10).trans e11).trans e12).trans e13).trans e14).trans e15).trans e16).trans e17).trans e18).trans e19).trans e20).trans e21).trans e22).trans e23).trans e24).trans e25).trans e26).trans e27).trans e28)), by omega, fun H29_ e29 => ?_⟩
    rw [decide_eq_true rfl]
    exact q _ ((((((((((((((((((((((((((((e1.trans e2).trans e3).trans e4).trans e5).trans e6).trans e7).trans e8).trans e9).trans e10).trans e11).trans e12).trans e13).trans e14).trans e15).trans e16).trans e17).trans e18).trans e19).trans e20).trans e21).trans e22).trans e23).trans e24).trans e25).trans e26).trans e27).trans e28).trans e29)
end
end My

namespace My
open PySem L2
def spLaw (K : PySem.W.Frag) : Sp := fun vs H Q _ => ∃ (a : Addr) (ns : List Int), vs = [.ref a] ∧ SqL K H a (ns.map V.int) ∧ ns.length ≤ 63 ∧ ∀ H', Q (.bl true) H'
theorem Pg.but {K : PySem.W.Frag} {C : Addr} {H H' : Hp} {d t x : Addr} {ss : List Stp} (h : Pg C H x ss) (D : Dr K H d t) (b : But t H H') : Pg C H' x ss := by
  obtain ⟨dx, l, vs, a, c, e, f⟩ := h
  obtain ⟨k, hk⟩ := D.pl
  have nx : x ≠ t := fun z => by rw [z, hk] at a; cases a
  have nl : l ≠ t := fun z => by
    rw [z, hk] at c
    injection c with c
    injection c with c
    cases e with
    | nil => cases c
    | cons a1 _ =>
      obtain ⟨p, ep, _⟩ := a1
      rw [ep] at c
      injection c with c _
      cases c
  exact ⟨dx, l, vs, b _ _ nx a, b _ _ nl c, e.keep (.but b D.nt), f⟩
theorem stpsV_but {K : PySem.W.Frag} {H H' : Hp} {d t : Addr} {vs : List V} {ss : List Stp} (h : StpsV H vs ss) (D : Dr K H d t) (b : But t H H') : StpsV H' vs ss := by
  obtain ⟨k, hk⟩ := D.pl
  refine L2.Paired.mapP h fun v s ⟨p, e, hp⟩ => ⟨p, e, ?_⟩
  have np : p ≠ t := fun z => by
    rw [z, hk] at hp
    rcases hp with hp | hp
    · cases hp
    · injection hp with hp
      injection hp with hp
      injection hp with h1 h2
      cases h1
  exact hp.imp (b _ _ np) (b _ _ np)
theorem bad_mid {a c : List Stp} {s : Stp} (ha : ∀ x ∈ a, goodS x) (hs : ¬ goodS s) : firstBad (a ++ [s] ++ c) = some s := by
  rw [List.append_assoc, bad_app ha]
  unfold firstBad
  simp [hs]
structure W5 (K : PySem.W.Frag) (C : Addr) (H : Hp) (d t x y r S1 S2 : Addr) (us1 us2 ws : List V) (ss tt : List Stp) : Prop where
  dr : Dr K H d t
  hx : Pg C H x ss
  hy : Pg C H y tt
  h1 : H S1 = some (.lst us1)
  st1 : Stps H us1 ss
  h2 : H S2 = some (.lst us2)
  st2 : Stps H us2 tt
  hr0 : H r = some (.lst ws)
  hw : StpsV H ws tt
  n1 : S1 ≠ t
  n2 : S2 ≠ t
  n3 : r ≠ t
theorem W5.but {K : PySem.W.Frag} {C : Addr} {H H' : Hp} {d t x y r S1 S2 : Addr} {us1 us2 ws : List V} {ss tt : List Stp} (w : W5 K C H d t x y r S1 S2 us1 us2 ws ss tt) (b : But t H H') (D : Dr K H' d t) : W5 K C H' d t x y r S1 S2 us1 us2 ws ss tt :=
  ⟨D, w.hx.but w.dr b, w.hy.but w.dr b, b _ _ w.n1 w.h1, w.st1.keep (.but b w.dr.nt), b _ _ w.n2 w.h2, w.st2.keep (.but b w.dr.nt), b _ _ w.n3 w.hr0, stpsV_but w.hw w.dr b, w.n1, w.n2, w.n3⟩
theorem W5.same {K : PySem.W.Frag} {C : Addr} {H H' : Hp} {d t x y r S1 S2 : Addr} {us1 us2 ws : List V} {ss tt : List Stp} (w : W5 K C H d t x y r S1 S2 us1 us2 ws ss tt) (e : Same H H') : W5 K C H' d t x y r S1 S2 us1 us2 ws ss tt := w.but (But.of_same e) (w.dr.same e)
section
variable {w : World} {K : PySem.W.Frag} {mg : Str → Option Value} {base : Heap}
set_option maxHeartbeats 16000000 in
theorem ok_law (T : Txt K mg) : FnOk PP w K mg base CX0 16 T.a_law T.fd_law ["_law_script"] (spLaw K) := by
  refine T.F_law.ok sc_law (fun vs H Q E h => ?_) (fun cdv A outer s H vs Q E hr h => ?_)
  · obtain ⟨a, ns, rfl, _⟩ := h; rfl
  · obtain ⟨a0, ns, rfl, hS, hlen, q⟩ := h
    refine ⟨_, (pss_cons (ps_set (i := 1) sc_law.nd rfl (.inr rfl) (pe_call (ok__law_draws T) (hr.mono (by omega)) (by rfl) T.g__law_draws T.F__law_draws.kp T.b__law_draws .nil pass0 (pa_cons (pv 0) pa_nil)))
      (pss_cons (ps_set (i := 2) sc_law.nd rfl (.inr rfl) (pe_lst (pa_cons (pe_int) pa_nil)))
      (pss_cons (ps_setLc (i := 3) (own := [("_law_k", 4)]) (g := (gName 4)) (by rfl) sc_law.nd rfl rfl (sw_true rfl rfl rfl (by decide +kernel)) (pi_range1 (by rfl) T.n_range (pa_cons (pe_ix ix_list (pe_lst (pa_cons (pe_int) (pa_cons (pe_int) (pa_cons (pe_int) (pa_cons (pe_int) (pa_cons (pe_int) pa_nil)))))) (pe_call (ok__law_take T) (hr.mono (by omega)) (by rfl) T.g__law_take T.F__law_take.kp T.b__law_take .nil pass0 (pa_cons (pv 1) (pa_cons (pv 2) (pa_cons (pe_int) pa_nil)))) (fun _ _ => rfl)) pa_nil)) (blkOk_by (own := [("_law_k", 4)]) (N := ["_law_script", "_law_draws_here", "_law_at", "_law_one", "_law_k", "_law_two", "_law_lists", "_law_program", "_law_other", "_law_row", "_law_form", "_law_due", "_law_place", "_law_bad", "_law_spoilt"]) (sc := defScope S_law) (by decide +kernel)) (fun _ _ _ _ _ => (pg_name (i := 4) sc_law.nd rfl (.inl rfl))) (fun _ _ _ _ _ => pts_nil) (fun _ _ _ _ _ => (pe_call (ok__law_step T) (hr.mono (by omega)) (by rfl) T.g__law_step T.F__law_step.kp T.b__law_step .nil pass0 (pa_cons (pv 1) (pa_cons (pv 2) pa_nil)))))
      (pss_cons (ps_setLc (i := 5) (own := [("_law_k", 4)]) (g := (gName 4)) (by rfl) sc_law.nd rfl rfl (sw_true rfl rfl rfl (by decide +kernel)) (pi_range1 (by rfl) T.n_range (pa_cons (pe_ix ix_list (pe_lst (pa_cons (pe_int) (pa_cons (pe_int) (pa_cons (pe_int) (pa_cons (pe_int) (pa_cons (pe_int) pa_nil)))))) (pe_call (ok__law_take T) (hr.mono (by omega)) (by rfl) T.g__law_take T.F__law_take.kp T.b__law_take .nil pass0 (pa_cons (pv 1) (pa_cons (pv 2) (pa_cons (pe_int) pa_nil)))) (fun _ _ => rfl)) pa_nil)) (blkOk_by (own := [("_law_k", 4)]) (N := ["_law_script", "_law_draws_here", "_law_at", "_law_one", "_law_k", "_law_two", "_law_lists", "_law_program", "_law_other", "_law_row", "_law_form", "_law_due", "_law_place", "_law_bad", "_law_spoilt"]) (sc := defScope S_law) (by decide +kernel)) (fun _ _ _ _ _ => (pg_name (i := 4) sc_law.nd rfl (.inl rfl))) (fun _ _ _ _ _ => pts_nil) (fun _ _ _ _ _ => (pe_call (ok__law_step T) (hr.mono (by omega)) (by rfl) T.g__law_step T.F__law_step.kp T.b__law_step .nil pass0 (pa_cons (pv 1) (pa_cons (pv 2) pa_nil)))))
      (C8.pss_cut (ps_if (pt_cmpR op_eq (pe_call (ok__law_take T) (hr.mono (by omega)) (by rfl) T.g__law_take T.F__law_take.kp T.b__law_take .nil pass0 (pa_cons (pv 1) (pa_cons (pv 2) (pa_cons (pe_int) pa_nil)))) (pe_int) (nomark _)) (pss_one (ps_set (i := 5) sc_law.nd rfl (.inl rfl) (pe_callTy call_list_of (by rfl) T.n_list (by decide +kernel) (pa_cons (pv 3) pa_nil)))) pss_nil)
      (pss_cons (ps_set (i := 6) sc_law.nd rfl (.inl rfl) (pe_cmpR op_eq (pe_call (ok__law_take T) (hr.mono (by omega)) (by rfl) T.g__law_take T.F__law_take.kp T.b__law_take .nil pass0 (pa_cons (pv 1) (pa_cons (pv 2) (pa_cons (pe_int) pa_nil)))) (pe_int) (nomark _)))
      (pss_cons (ps_set (i := 7) sc_law.nd rfl (.inl rfl) (pe_op (op_binO T.of_Program_add ((ok_Program_add T).calm) (hr.mono (by omega)) T.b_Program_add pass0) (pe_makeR0 T.mk_Program ((ok_Program_init T).calm) (hr.mono (by omega)) (by rfl) T.g_Program pass0) (pv 3)))
      (pss_cons (ps_set (i := 8) sc_law.nd rfl (.inl rfl) (pe_op (op_binO T.of_Program_add ((ok_Program_add T).calm) (hr.mono (by omega)) T.b_Program_add pass0) (pe_makeR0 T.mk_Program ((ok_Program_init T).calm) (hr.mono (by omega)) (by rfl) T.g_Program pass0) (pv 5)))
      (pss_cons (ps_set (i := 9) sc_law.nd rfl (.inl rfl) (pe_call (ok__law_handed T) (hr.mono (by omega)) (by rfl) T.g__law_handed T.F__law_handed.kp T.b__law_handed .nil pass0 (pa_cons (pv 5) (pa_cons (pv 6) pa_nil))))
      (pss_cons (ps_if (PW.pt (pw_or (pt_not (pt_val (pe_call (ok__law_is T) (hr.mono (by omega)) (by rfl) T.g__law_is T.F__law_is.kp T.b__law_is .nil pass0 (pa_cons (pv 7) (pa_cons (pv 3) pa_nil))))) (pw_or (pt_not (pt_val (pe_call (ok__law_is T) (hr.mono (by omega)) (by rfl) T.g__law_is T.F__law_is.kp T.b__law_is .nil pass0 (pa_cons (pe_op (op_binO T.of_Program_add ((ok_Program_add T).calm) (hr.mono (by omega)) T.b_Program_add pass0) (pv 7) (pv 8)) (pa_cons (pe_op op_cat (pv 3) (pv 5)) pa_nil))))) (pw_or1 (pt_not (pt_val (pe_call (ok__law_is T) (hr.mono (by omega)) (by rfl) T.g__law_is T.F__law_is.kp T.b__law_is .nil pass0 (pa_cons (pe_op (op_binO T.of_Program_add ((ok_Program_add T).calm) (hr.mono (by omega)) T.b_Program_add pass0) (pv 8) (pv 7)) (pa_cons (pe_op op_cat (pv 5) (pv 3)) pa_nil))))))))) (pss_one (ps_ret (pe_bl))) pss_nil)
      (pss_cons (ps_for PassesOwn.never rfl (pi_range1 (by rfl) T.n_range (pa_cons (pe_int) pa_nil)) (pg_name (i := 10) sc_law.nd rfl (.inl rfl)) (pss_cons (ps_set (i := 11) sc_law.nd rfl (.inl rfl) (pe_op op_cat (pv 3) (pv 5)))
      (C8.pss_cut (ps_if (PW.pt (pw_or (pt_cmpR op_eq (pv 10) (pe_int) (nomark _)) (pw_or1 (pt_cmpR op_eq (pv 10) (pe_int) (nomark _))))) (pss_one (ps_set (i := 11) sc_law.nd rfl (.inl rfl) (pe_op op_cat (pv 5) (pv 3)))) pss_nil)
      (pss_one (ps_if (PW.pt (pw_or (pt_not (pt_val (pe_call (ok__law_is T) (hr.mono (by omega)) (by rfl) T.g__law_is T.F__law_is.kp T.b__law_is .nil pass0 (pa_cons (pe_call ((ok__law_sum T).calm) (hr.mono (by omega)) (by rfl) T.g__law_sum T.F__law_sum.kp T.b__law_sum .nil pass0 (pa_cons (pv 10) (pa_cons (pv 7) (pa_cons (pv 9) pa_nil)))) (pa_cons (pv 11) pa_nil))))) (pw_or1 (pt_not (pt_val (pe_call (ok__law_is T) (hr.mono (by omega)) (by rfl) T.g__law_is T.F__law_is.kp T.b__law_is .nil pass0 (pa_cons (pv 7) (pa_cons (pv 3) pa_nil)))))))) (pss_one (ps_ret (pe_bl))) pss_nil)))))
      (pss_cons (ps_if (PW.pt (pw_or (pt_not (pt_val (pe_call (ok__law_is T) (hr.mono (by omega)) (by rfl) T.g__law_is T.F__law_is.kp T.b__law_is .nil pass0 (pa_cons (pe_op (op_binO T.of_Program_add ((ok_Program_add T).calm) (hr.mono (by omega)) T.b_Program_add pass0) (pe_op (op_radd T.sq_add T.of_Program_add.first T.m_Program_add T.m_Program_radd ((ok_Program_radd T).calm) (hr.mono (by omega)) T.b_Program_radd pass0) (pv 9) (pv 7)) (pv 8)) (pa_cons (pe_op op_cat (pe_op op_cat (pv 5) (pv 3)) (pv 5)) pa_nil))))) (pw_or1 (pt_not (pt_val (pe_call (ok__law_is T) (hr.mono (by omega)) (by rfl) T.g__law_is T.F__law_is.kp T.b__law_is .nil pass0 (pa_cons (pe_op (op_binO T.of_Program_add ((ok_Program_add T).calm) (hr.mono (by omega)) T.b_Program_add pass0) (pv 7) (pe_op (op_radd T.sq_add T.of_Program_add.first T.m_Program_add T.m_Program_radd ((ok_Program_radd T).calm) (hr.mono (by omega)) T.b_Program_radd pass0) (pv 9) (pv 7))) (pa_cons (pe_op op_cat (pe_op op_cat (pv 3) (pv 5)) (pv 3)) pa_nil)))))))) (pss_one (ps_ret (pe_bl))) pss_nil)
      (pss_cons (ps_if (PW.pt (pw_or (pt_not (pt_val (pe_call (ok__law_in_place T) (hr.mono (by omega)) (by rfl) T.g__law_in_place T.F__law_in_place.kp T.b__law_in_place .nil pass0 (pa_cons (pv 7) (pa_cons (pv 8) (pa_cons (pv 9) (pa_cons (pv 3) (pa_cons (pv 5) pa_nil)))))))) (pw_or1 (pt_not (pt_val (pe_call (ok__law_same T 2) (hr.mono (by omega)) (by rfl) T.g__law_same T.F__law_same.kp T.b__law_same .nil pass0 (pa_cons (pv 9) (pa_cons (pe_call (ok__law_handed T) (hr.mono (by omega)) (by rfl) T.g__law_handed T.F__law_handed.kp T.b__law_handed .nil pass0 (pa_cons (pv 5) (pa_cons (pv 6) pa_nil))) pa_nil)))))))) (pss_one (ps_ret (pe_bl))) pss_nil)
      (C8.pss_cut (ps_if (PW.pt (pw_and (pt_cmpR op_gt (pe_callB call_len_seq (by rfl) T.n_len (by decide +kernel) (pa_cons (pv 5) pa_nil)) (pe_int) (nomark _)) (pw_and1 (pt_cmpR op_ne (pe_call (ok__law_take T) (hr.mono (by omega)) (by rfl) T.g__law_take T.F__law_take.kp T.b__law_take .nil pass0 (pa_cons (pv 1) (pa_cons (pv 2) (pa_cons (pe_int) pa_nil)))) (pe_int) (nomark _))))) (pss_cons (ps_set (i := 12) sc_law.nd rfl (.inl rfl) (pe_call (ok__law_take T) (hr.mono (by omega)) (by rfl) T.g__law_take T.F__law_take.kp T.b__law_take .nil pass0 (pa_cons (pv 1) (pa_cons (pv 2) (pa_cons (pe_callB call_len_seq (by rfl) T.n_len (by decide +kernel) (pa_cons (pv 5) pa_nil)) pa_nil)))))
      (pss_cons (ps_set (i := 13) sc_law.nd rfl (.inl rfl) (pe_call (ok__law_bad_step T) (hr.mono (by omega)) (by rfl) T.g__law_bad_step T.F__law_bad_step.kp T.b__law_bad_step .nil pass0 (pa_cons (pv 1) (pa_cons (pv 2) (pa_cons (pe_ix ix_list (pv 5) (pv 12) (fun _ _ => rfl)) pa_nil)))))
      (pss_cons (ps_set (i := 14) sc_law.nd rfl (.inl rfl) (pe_call (ok__law_handed T) (hr.mono (by omega)) (by rfl) T.g__law_handed T.F__law_handed.kp T.b__law_handed .nil pass0 (pa_cons (pe_op op_cat (pe_op op_cat (pe_slice sl_list (pv 5) po_none (po_some (pv 12))) (pe_lst (pa_cons (pv 13) pa_nil))) (pe_slice sl_list (pv 5) (po_some (pe_op op_add (pv 12) (pe_int))) po_none)) (pa_cons (pv 6) pa_nil))))
      (pss_one (ps_for PassesOwn.never rfl (pi_range1 (by rfl) T.n_range (pa_cons (pe_int) pa_nil)) (pg_name (i := 10) sc_law.nd rfl (.inl rfl)) (pss_one (ps_if (PW.pt (pw_or (pt_not (pt_val (pe_call (ok__law_same T 2) (hr.mono (by omega)) (by rfl) T.g__law_same T.F__law_same.kp T.b__law_same .nil pass0 (pa_cons (pe_call (ok__law_refused T) (hr.mono (by omega)) (by rfl) T.g__law_refused T.F__law_refused.kp T.b__law_refused .nil pass0 (pa_cons (pv 10) (pa_cons (pv 7) (pa_cons (pv 14) pa_nil)))) (pa_cons (pe_lst (pa_cons (pe_str) (pa_cons (pv 13) pa_nil))) pa_nil))))) (pw_or1 (pt_not (pt_val (pe_call (ok__law_is T) (hr.mono (by omega)) (by rfl) T.g__law_is T.F__law_is.kp T.b__law_is .nil pass0 (pa_cons (pv 7) (pa_cons (pv 3) pa_nil)))))))) (pss_one (ps_ret (pe_bl))) pss_nil))))))) pss_nil)
      (pss_one (ps_ret (pe_and (pe_call (ok__law_is T) (hr.mono (by omega)) (by rfl) T.g__law_is T.F__law_is.kp T.b__law_is .nil pass0 (pa_cons (pv 7) (pa_cons (pv 3) pa_nil))) (pe_and (pe_call (ok__law_is T) (hr.mono (by omega)) (by rfl) T.g__law_is T.F__law_is.kp T.b__law_is .nil pass0 (pa_cons (pv 8) (pa_cons (pv 5) pa_nil))) (pe_one (pe_call (ok__law_same T 2) (hr.mono (by omega)) (by rfl) T.g__law_same T.F__law_same.kp T.b__law_same .nil pass0 (pa_cons (pe_cmpR (op_cmpI (fun _ _ => rfl) T.m_Program_eq.at_ T.m_Program_eq.fn (ok_Program_eq T) (hr.mono (by omega)) T.b_Program_eq pass0) (pe_op (op_binO T.of_Program_add ((ok_Program_add T).calm) (hr.mono (by omega)) T.b_Program_add pass0) (pv 7) (pv 8)) (pe_op (op_binO T.of_Program_add ((ok_Program_add T).calm) (hr.mono (by omega)) T.b_Program_add pass0) (pv 7) (pv 9)) (nomark _)) (pa_cons (pe_bl) pa_nil)))))))))))))))))))))), ?_⟩
    have big : 90000 < sizeLine := by decide
    refine ⟨_, rfl, a0, ns, rfl, hS, hlen, fun d zs H1 s1 nd hd => ?_⟩
    refine ⟨by show 1 ≤ sizeLine; decide, fun t hat => ?_⟩
    have D0 : Dr K (upd H1 t (.lst [.int 0])) d t := ⟨⟨zs, same_new hat _ _ hd⟩, ⟨0, upd_same⟩, ne_of_none hd hat⟩
    revert D0
    generalize upd H1 t (.lst [.int 0]) = H2
    intro D0
    -- a row of steps
    refine ⟨by show 5 ≤ sizeLine; decide, fun m1 hm1 => ?_⟩
    have sm1 := same_new (o := .lst [.int 2, .int 1, .int 3, .int 0, .int 4]) hm1
    have nm1 : m1 ≠ t := D0.na hm1
    refine ⟨_, rfl, _, rfl, d, t, 5, rfl, D0.same sm1, by decide, fun r1 H51 i1 j1 D51 b51 => ?_⟩
    obtain ⟨v1, hv1, mv1⟩ := at_ok (xs := [.int 2, .int 1, .int 3, .int 0, .int 4]) i1 j1
    obtain ⟨n1, rfl, hn1⟩ : ∃ n : Nat, v1 = .int n ∧ n ≤ 4 := by
      simp only [List.mem_cons, List.not_mem_nil, or_false] at mv1
      rcases mv1 with rfl | rfl | rfl | rfl | rfl
      · exact ⟨2, rfl, by decide⟩
      · exact ⟨1, rfl, by decide⟩
      · exact ⟨3, rfl, by decide⟩
      · exact ⟨0, rfl, by decide⟩
      · exact ⟨4, rfl, by decide⟩
    refine ⟨_, _, _, _, rfl, rfl, SqL.of (b51 _ _ nm1 upd_same), hv1, _, rfl, by omega, by omega, fun S1 hS1 => ?_⟩
    have nS1 : S1 ≠ t := D51.na hS1
    refine lc_range (lo := 0) (n := n1) (fun i H' => ∃ us ss, Dr K H' d t ∧ But t H51 H' ∧ H' S1 = some (.lst us) ∧ us.length = i ∧ Stps H' us ss ∧ ∀ s ∈ ss, goodS s) ⟨[], [], D51.same (same_new hS1), But.of_same (same_new hS1), upd_same, rfl, .nil, fun v h => by cases h⟩ ?_ ?_
    · rintro i H6 hi ⟨us, ss, D6, b6, hS6, lu, st, hg⟩
      refine ⟨rfl, _, rfl, _, rfl, d, t, rfl, D6, fun u sj H7 gj D7 b7 nu hu => ?_⟩
      have hS7 := b7 _ _ nS1 hS6
      have nuS : u ≠ S1 := fun e => by rw [e, hS7] at hu; cases hu
      refine ⟨us, hS7, by omega, us ++ [.ref u], ss ++ [sj], D7.other But.upd (D51.nd hS1) nS1.symm, (b6.trans b7).mut hS1, upd_same, by rw [List.length_append, lu]; rfl, ?_, ?_⟩
      · refine pair_app ((st.keep (.but b7 D6.nt)).keep fun a xs e => ?_) (.cons ⟨u, rfl, by rw [upd_ne nuS]; exact hu⟩ .nil)
        rw [upd_ne (fun z => by rw [z, hS7] at e; cases e)]
        exact e
      · intro s hs
        rcases List.mem_append.mp hs with hs | hs
        · exact hg s hs
        · rw [List.mem_singleton.mp hs]; exact gj
    rintro H6 ⟨us1, ss, D6, b6, h1, lu1, st1, gs⟩
    -- a row of steps
    refine ⟨by show 5 ≤ sizeLine; decide, fun m2 hm2 => ?_⟩
    have sm2 := same_new (o := .lst [.int 1, .int 2, .int 3, .int 0, .int 4]) hm2
    have nm2 : m2 ≠ t := D6.na hm2
    refine ⟨_, rfl, _, rfl, d, t, 5, rfl, D6.same sm2, by decide, fun r2 H52 i2 j2 D52 b52 => ?_⟩
    obtain ⟨v2, hv2, mv2⟩ := at_ok (xs := [.int 1, .int 2, .int 3, .int 0, .int 4]) i2 j2
    obtain ⟨n2, rfl, hn2⟩ : ∃ n : Nat, v2 = .int n ∧ n ≤ 4 := by
      simp only [List.mem_cons, List.not_mem_nil, or_false] at mv2
      rcases mv2 with rfl | rfl | rfl | rfl | rfl
      · exact ⟨1, rfl, by decide⟩
      · exact ⟨2, rfl, by decide⟩
      · exact ⟨3, rfl, by decide⟩
      · exact ⟨0, rfl, by decide⟩
      · exact ⟨4, rfl, by decide⟩
    refine ⟨_, _, _, _, rfl, rfl, SqL.of (b52 _ _ nm2 upd_same), hv2, _, rfl, by omega, by omega, fun S2 hS2 => ?_⟩
    have nS2 : S2 ≠ t := D52.na hS2
    refine lc_range (lo := 0) (n := n2) (fun i H' => ∃ us ss, Dr K H' d t ∧ But t H52 H' ∧ H' S2 = some (.lst us) ∧ us.length = i ∧ Stps H' us ss ∧ ∀ s ∈ ss, goodS s) ⟨[], [], D52.same (same_new hS2), But.of_same (same_new hS2), upd_same, rfl, .nil, fun v h => by cases h⟩ ?_ ?_
    · rintro i H6 hi ⟨us, ss, D6, b6, hS6, lu, st, hg⟩
      refine ⟨rfl, _, rfl, _, rfl, d, t, rfl, D6, fun u sj H7 gj D7 b7 nu hu => ?_⟩
      have hS7 := b7 _ _ nS2 hS6
      have nuS : u ≠ S2 := fun e => by rw [e, hS7] at hu; cases hu
      refine ⟨us, hS7, by omega, us ++ [.ref u], ss ++ [sj], D7.other But.upd (D52.nd hS2) nS2.symm, (b6.trans b7).mut hS2, upd_same, by rw [List.length_append, lu]; rfl, ?_, ?_⟩
      · refine pair_app ((st.keep (.but b7 D6.nt)).keep fun a xs e => ?_) (.cons ⟨u, rfl, by rw [upd_ne nuS]; exact hu⟩ .nil)
        rw [upd_ne (fun z => by rw [z, hS7] at e; cases e)]
        exact e
      · intro s hs
        rcases List.mem_append.mp hs with hs | hs
        · exact hg s hs
        · rw [List.mem_singleton.mp hs]; exact gj
    rintro H7 ⟨us20, tt0, D7, b7, h20, lu20, st20, gt0⟩
    have c7 : But t H6 H7 := ((But.of_same sm2).trans b52).trans b7
    have h17 := c7 _ _ nS1 h1
    have st17 := st1.keep (.but c7 D6.nt)
    have ls1 := pair_len st1
    have ls20 := pair_len st20
    -- perhaps the first one again
    refine ⟨fun σ' H' => ∃ (S2' : Addr) (us2 : List V) (tt : List Stp), σ' = [some (.ref a0), some (.ref d), some (.ref t), some (.ref S1), none, some (.ref S2'), none, none, none, none, none, none, none, none, none] ∧ Dr K H' d t ∧ H' S1 = some (.lst us1) ∧ Stps H' us1 ss ∧ S2' ≠ t ∧ H' S2' = some (.lst us2) ∧ Stps H' us2 tt ∧ (∀ s ∈ tt, goodS s) ∧ us2.length ≤ 4, ?_, ?_⟩
    · refine ⟨_, rfl, _, rfl, d, t, 5, rfl, D7, by decide, fun r8 H8 _ _ D8 b8 => ⟨rfl, _, rfl, iteD (fun c => ?_) (fun c => ?_)⟩⟩
      · refine ⟨_, rfl, S1, us1, rfl, .inl (SqL.of (b8 _ _ nS1 h17)), fun l hl => ?_⟩
        have s9 := same_new (o := .lst us1) hl
        have st18 := (st17.keep (.but b8 D7.nt)).same s9
        exact ⟨l, us1, ss, rfl, D8.same s9, s9 _ _ (b8 _ _ nS1 h17), st18, D8.na hl, upd_same, st18, gs, by omega⟩
      · exact ⟨S2, us20, tt0, rfl, D8, b8 _ _ nS1 h17, st17.keep (.but b8 D7.nt), nS2, b8 _ _ nS2 h20, st20.keep (.but b8 D7.nt), gt0, by omega⟩
    rintro σ' H8 ⟨S2', us2, tt, rfl, D8, h18, st18, nS2', h28, st28, gt, lu2⟩
    clear h20 st20 gt0 lu20 ls20 h17 st17 c7 b7 D7 h1 st1 D6 b6 b52 b51 sm1 sm2
    have ls2 := pair_len st28
    refine ⟨_, rfl, _, rfl, d, t, 2, rfl, D8, by decide, fun r9 H_ _ _ D9 b9 => ⟨rfl, ?_⟩⟩
    have h1 := b9 _ _ nS1 h18
    have st1 := st18.keep (.but b9 D8.nt)
    have h2 := b9 _ _ nS2' h28
    have st2 := st28.keep (.but b9 D8.nt)
    generalize hlb : decide (V.int r9 = V.int 0) = lb
    clear h18 st18 h28 st28 D8 b9
    have gst : ∀ s ∈ ss ++ tt, goodS s := fun s h => (List.mem_append.mp h).elim (gs s) (gt s)
    have gts : ∀ s ∈ tt ++ ss, goodS s := fun s h => (List.mem_append.mp h).elim (gt s) (gs s)
    have nbs : firstBad ss = none := no_bad.mpr gs
    have nbt : firstBad tt = none := no_bad.mpr gt
    have nbts : firstBad (tt ++ ss) = none := no_bad.mpr gts
    refine fun p_x d_x np_x nd_x _ => init_pgX (us := []) (ss := []) upd_same .nil (Nat.zero_le _) (fun _ H1_ b1 pp_x => ⟨rfl, ?_⟩) (fun s hb => by cases hb)
    have e1 := same_make np_x nd_x b1
    obtain ⟨_, _, _, q_x, _⟩ := id pp_x
    refine ⟨_, rfl, p_x, _, _, rfl, q_x, .inr ⟨S1, _, rfl, .inl (SqL.of (e1 _ _ h1))⟩, p_x, S1, [], ss, rfl, pp_x, (fun s h => by cases h), .inr ⟨_, .inl (SqL.of (e1 _ _ h1)), (st1.same e1).toV⟩, by (try simp only [List.length_append, List.length_nil]); omega, (fun _ x H2_ e2 nx hx => ?_), (fun s' hb => by rw [nbs] at hb; cases hb)⟩
    rw [List.nil_append] at hx
    refine fun p_y d_y np_y nd_y _ => init_pgX (us := []) (ss := []) upd_same .nil (Nat.zero_le _) (fun _ H3_ b3 pp_y => ⟨rfl, ?_⟩) (fun s hb => by cases hb)
    have e3 := same_make np_y nd_y b3
    obtain ⟨_, _, _, q_y, _⟩ := id pp_y
    refine ⟨_, rfl, p_y, _, _, rfl, q_y, .inr ⟨S2', _, rfl, .inl (SqL.of (((e1.trans e2).trans e3) _ _ h2))⟩, p_y, S2', [], tt, rfl, pp_y, (fun s h => by cases h), .inr ⟨_, .inl (SqL.of (((e1.trans e2).trans e3) _ _ h2)), (st2.same ((e1.trans e2).trans e3)).toV⟩, by (try simp only [List.length_append, List.length_nil]); omega, (fun _ y H4_ e4 ny hy => ?_), (fun s' hb => by rw [nbt] at hb; cases hb)⟩
    rw [List.nil_append] at hy
    have ht_ : H4_ t ≠ none := by rw [(D9.same (((e1.trans e2).trans e3).trans e4)).pl.choose_spec]; exact Option.some_ne_none _
    refine ⟨_, rfl, _, rfl, S2', lb, us2, tt, rfl, ((((e1.trans e2).trans e3).trans e4) _ _ h2), (st2.same (((e1.trans e2).trans e3).trans e4)), by omega, fun r ws H5_ e5 nr hr0 hw hdn => ?_⟩
    have nrt : r ≠ t := (D9.same (((e1.trans e2).trans e3).trans e4)).na nr
    have lws := pair_len hw
    have row : RowX K H5_ r tt := ⟨ws, .inl (SqL.of hr0), hw⟩
    refine ⟨_, rfl, _, rfl, x, S1, us1, ss, ss, rfl, (hx.same ((e3.trans e4).trans e5)), (((((e1.trans e2).trans e3).trans e4).trans e5) _ _ h1), (st1.same ((((e1.trans e2).trans e3).trans e4).trans e5)), by (try simp only [List.length_append]); omega, fun H6_ e6 => ?_⟩
    rw [decide_eq_true rfl]
    refine ⟨_, rfl, iteNo rfl ?_⟩
    obtain ⟨_, _, _, q_zA, _⟩ := id (hx.same (((e3.trans e4).trans e5).trans e6))
    refine ⟨_, rfl, _, rfl, x, _, _, rfl, q_zA, opd_of (tt := tt) (.inl ⟨(hy.same (e5.trans e6)), gt⟩), x, y, ss, tt, rfl, (hx.same (((e3.trans e4).trans e5).trans e6)), gs, (.inl ⟨(hy.same (e5.trans e6)), gt⟩), by (try simp only [List.length_append, List.length_nil]); omega, (fun _ zA H7_ e7 nzA hzA => ?_), (fun s' hb => by rw [nbt] at hb; cases hb)⟩
    refine ⟨_, rfl, _, rfl, S1, S2', _, _, rfl, rfl, (((((((e1.trans e2).trans e3).trans e4).trans e5).trans e6).trans e7) _ _ h1), (((((((e1.trans e2).trans e3).trans e4).trans e5).trans e6).trans e7) _ _ h2), by (try simp only [List.length_append]); omega, fun c1 nc1 => ?_⟩
    have e8 := same_new (o := .lst (us1 ++ us2)) nc1
    have hc1 : (upd H7_ c1 (.lst (us1 ++ us2))) c1 = some (.lst (us1 ++ us2)) := upd_same
    have stc1 : Stps (upd H7_ c1 (.lst (us1 ++ us2))) (us1 ++ us2) (ss ++ tt) := pair_app ((st1.same ((((((e1.trans e2).trans e3).trans e4).trans e5).trans e6).trans e7)).same e8) ((st2.same ((((((e1.trans e2).trans e3).trans e4).trans e5).trans e6).trans e7)).same e8)
    revert e8 hc1 stc1
    generalize upd H7_ c1 (.lst (us1 ++ us2)) = H8_
    intro e8 hc1 stc1
    refine ⟨zA, c1, (us1 ++ us2), (ss ++ tt), (ss ++ tt), rfl, (hzA.same e8), hc1, stc1, by (try simp only [List.length_append]); omega, fun H9_ e9 => ?_⟩
    rw [decide_eq_true rfl]
    refine ⟨_, rfl, iteNo rfl ?_⟩
    obtain ⟨_, _, _, q_zB, _⟩ := id (hy.same ((((e5.trans e6).trans e7).trans e8).trans e9))
    refine ⟨_, rfl, _, rfl, y, _, _, rfl, q_zB, opd_of (tt := ss) (.inl ⟨(hx.same ((((((e3.trans e4).trans e5).trans e6).trans e7).trans e8).trans e9)), gs⟩), y, x, tt, ss, rfl, (hy.same ((((e5.trans e6).trans e7).trans e8).trans e9)), gt, (.inl ⟨(hx.same ((((((e3.trans e4).trans e5).trans e6).trans e7).trans e8).trans e9)), gs⟩), by (try simp only [List.length_append, List.length_nil]); omega, (fun _ zB H10_ e10 nzB hzB => ?_), (fun s' hb => by rw [nbs] at hb; cases hb)⟩
    refine ⟨_, rfl, _, rfl, S2', S1, _, _, rfl, rfl, ((((((((((e1.trans e2).trans e3).trans e4).trans e5).trans e6).trans e7).trans e8).trans e9).trans e10) _ _ h2), ((((((((((e1.trans e2).trans e3).trans e4).trans e5).trans e6).trans e7).trans e8).trans e9).trans e10) _ _ h1), by (try simp only [List.length_append]); omega, fun c2 nc2 => ?_⟩
    have e11 := same_new (o := .lst (us2 ++ us1)) nc2
    have hc2 : (upd H10_ c2 (.lst (us2 ++ us1))) c2 = some (.lst (us2 ++ us1)) := upd_same
    have stc2 : Stps (upd H10_ c2 (.lst (us2 ++ us1))) (us2 ++ us1) (tt ++ ss) := pair_app ((st2.same (((((((((e1.trans e2).trans e3).trans e4).trans e5).trans e6).trans e7).trans e8).trans e9).trans e10)).same e11) ((st1.same (((((((((e1.trans e2).trans e3).trans e4).trans e5).trans e6).trans e7).trans e8).trans e9).trans e10)).same e11)
    revert e11 hc2 stc2
    generalize upd H10_ c2 (.lst (us2 ++ us1)) = H11_
    intro e11 hc2 stc2
    refine ⟨zB, c2, (us2 ++ us1), (tt ++ ss), (tt ++ ss), rfl, (hzB.same e11), hc2, stc2, by (try simp only [List.length_append]); omega, fun H12_ e12 => ?_⟩
    rw [decide_eq_true rfl]
    refine ⟨_, rfl, iteNo rfl ?_⟩
    refine ⟨_, rfl, by decide, by decide, for_range (lo := 0) (n := 5) (fun i σ' H' => ∃ (x10 x11 : Option V), σ' = [some (.ref a0), some (.ref d), some (.ref t), some (.ref S1), none, some (.ref S2'), some (.bl lb), some (.ref x), some (.ref y), some (.ref r), x10, x11, none, none, none] ∧ Same H12_ H') ⟨_, _, rfl, fun _ _ h => h⟩ ?_ ?_⟩
    · rintro i σ' H13_ hi ⟨x10, x11, rfl, e13⟩
      rw [Int.zero_add]
      refine ⟨_, rfl, _, rfl, S1, S2', _, _, rfl, rfl, (((((((((((((e1.trans e2).trans e3).trans e4).trans e5).trans e6).trans e7).trans e8).trans e9).trans e10).trans e11).trans e12).trans e13) _ _ h1), (((((((((((((e1.trans e2).trans e3).trans e4).trans e5).trans e6).trans e7).trans e8).trans e9).trans e10).trans e11).trans e12).trans e13) _ _ h2), by (try simp only [List.length_append]); omega, fun c3 nc3 => ?_⟩
      have e14 := same_new (o := .lst (us1 ++ us2)) nc3
      have hc3 : (upd H13_ c3 (.lst (us1 ++ us2))) c3 = some (.lst (us1 ++ us2)) := upd_same
      have stc3 : Stps (upd H13_ c3 (.lst (us1 ++ us2))) (us1 ++ us2) (ss ++ tt) := pair_app ((st1.same ((((((((((((e1.trans e2).trans e3).trans e4).trans e5).trans e6).trans e7).trans e8).trans e9).trans e10).trans e11).trans e12).trans e13)).same e14) ((st2.same ((((((((((((e1.trans e2).trans e3).trans e4).trans e5).trans e6).trans e7).trans e8).trans e9).trans e10).trans e11).trans e12).trans e13)).same e14)
      revert e14 hc3 stc3
      generalize upd H13_ c3 (.lst (us1 ++ us2)) = H14_
      intro e14 hc3 stc3
      refine ⟨fun σ' H' => ∃ (cd : Addr) (usd : List V), σ' = [some (.ref a0), some (.ref d), some (.ref t), some (.ref S1), none, some (.ref S2'), some (.bl lb), some (.ref x), some (.ref y), some (.ref r), some (.int (i : Int)), some (.ref cd), none, none, none] ∧ Same H14_ H' ∧ H' cd = some (.lst usd) ∧ Stps H' usd (sumOf (i : Int) ss tt) ∧ usd.length ≤ 1000, ?_, ?_⟩
      · refine ⟨_, rfl, rfl, _, rfl, iteD (fun c => ?_) (fun c => ?_)⟩
        · refine ⟨_, rfl, _, rfl, S2', S1, _, _, rfl, rfl, ((((((((((((((e1.trans e2).trans e3).trans e4).trans e5).trans e6).trans e7).trans e8).trans e9).trans e10).trans e11).trans e12).trans e13).trans e14) _ _ h2), ((((((((((((((e1.trans e2).trans e3).trans e4).trans e5).trans e6).trans e7).trans e8).trans e9).trans e10).trans e11).trans e12).trans e13).trans e14) _ _ h1), by (try simp only [List.length_append, List.length_nil]); omega, fun cc ncc => ?_⟩
          have sc := same_new (o := .lst (us2 ++ us1)) ncc
          have es : sumOf (i : Int) ss tt = tt ++ ss := if_pos (.inl (V.int.inj c))
          rw [es]
          exact ⟨cc, us2 ++ us1, rfl, sc, upd_same, pair_app ((st2.same (((((((((((((e1.trans e2).trans e3).trans e4).trans e5).trans e6).trans e7).trans e8).trans e9).trans e10).trans e11).trans e12).trans e13).trans e14)).same sc) ((st1.same (((((((((((((e1.trans e2).trans e3).trans e4).trans e5).trans e6).trans e7).trans e8).trans e9).trans e10).trans e11).trans e12).trans e13).trans e14)).same sc), by (try simp only [List.length_append, List.length_nil]); omega⟩
        · refine ⟨_, rfl, rfl, _, rfl, iteD (fun c2 => ?_) (fun c2 => ?_)⟩
          · refine ⟨_, rfl, _, rfl, S2', S1, _, _, rfl, rfl, ((((((((((((((e1.trans e2).trans e3).trans e4).trans e5).trans e6).trans e7).trans e8).trans e9).trans e10).trans e11).trans e12).trans e13).trans e14) _ _ h2), ((((((((((((((e1.trans e2).trans e3).trans e4).trans e5).trans e6).trans e7).trans e8).trans e9).trans e10).trans e11).trans e12).trans e13).trans e14) _ _ h1), by (try simp only [List.length_append, List.length_nil]); omega, fun cc ncc => ?_⟩
            have sc := same_new (o := .lst (us2 ++ us1)) ncc
            have es : sumOf (i : Int) ss tt = tt ++ ss := if_pos (.inr (V.int.inj c2))
            rw [es]
            exact ⟨cc, us2 ++ us1, rfl, sc, upd_same, pair_app ((st2.same (((((((((((((e1.trans e2).trans e3).trans e4).trans e5).trans e6).trans e7).trans e8).trans e9).trans e10).trans e11).trans e12).trans e13).trans e14)).same sc) ((st1.same (((((((((((((e1.trans e2).trans e3).trans e4).trans e5).trans e6).trans e7).trans e8).trans e9).trans e10).trans e11).trans e12).trans e13).trans e14)).same sc), by (try simp only [List.length_append, List.length_nil]); omega⟩
          · have es : sumOf (i : Int) ss tt = ss ++ tt := if_neg (fun h => h.elim (fun z => c (congrArg V.int z)) fun z => c2 (congrArg V.int z))
            rw [es]
            exact ⟨c3, _, rfl, fun _ _ h => h, hc3, stc3, by (try simp only [List.length_append, List.length_nil]); omega⟩
      rintro σ' H15_ ⟨cd, usd, rfl, e15, hcd, stcd, lcd⟩
      refine ⟨_, rfl, _, rfl, _, rfl, (i : Int), x, r, ws, ss, tt, rfl, by omega, by omega, (hx.same ((((((((((((e3.trans e4).trans e5).trans e6).trans e7).trans e8).trans e9).trans e10).trans e11).trans e12).trans e13).trans e14).trans e15)), gs, ((((((((((e6.trans e7).trans e8).trans e9).trans e10).trans e11).trans e12).trans e13).trans e14).trans e15) _ _ hr0), (stpsV_same hw (((((((((e6.trans e7).trans e8).trans e9).trans e10).trans e11).trans e12).trans e13).trans e14).trans e15)), by (try simp only [List.length_append, List.length_nil]); omega, (fun _ zS H16_ e16 nzS hzS => ?_), (fun s' hb => by rw [nbt] at hb; cases hb)⟩
      refine ⟨_, rfl, zS, cd, usd, (sumOf (i : Int) ss tt), (sumOf (i : Int) ss tt), rfl, hzS, (e16 _ _ hcd), (stcd.same e16), by (try simp only [List.length_append]); omega, fun H17_ e17 => ?_⟩
      rw [decide_eq_true rfl]
      refine ⟨_, rfl, iteNo rfl ?_⟩
      refine ⟨_, rfl, _, rfl, x, S1, us1, ss, ss, rfl, (hx.same ((((((((((((((e3.trans e4).trans e5).trans e6).trans e7).trans e8).trans e9).trans e10).trans e11).trans e12).trans e13).trans e14).trans e15).trans e16).trans e17)), (((((((((((((((((e1.trans e2).trans e3).trans e4).trans e5).trans e6).trans e7).trans e8).trans e9).trans e10).trans e11).trans e12).trans e13).trans e14).trans e15).trans e16).trans e17) _ _ h1), (st1.same ((((((((((((((((e1.trans e2).trans e3).trans e4).trans e5).trans e6).trans e7).trans e8).trans e9).trans e10).trans e11).trans e12).trans e13).trans e14).trans e15).trans e16).trans e17)), by (try simp only [List.length_append]); omega, fun H18_ e18 => ?_⟩
      rw [decide_eq_true rfl]
      refine ⟨_, rfl, iteNo rfl ?_⟩
      exact ⟨_, _, rfl, (((((e13.trans e14).trans e15).trans e16).trans e17).trans e18)⟩
    rintro σ' H13_ ⟨x10, x11, rfl, e13⟩
    obtain ⟨_, _, _, q_zC, _⟩ := id (hx.same ((((((((((e3.trans e4).trans e5).trans e6).trans e7).trans e8).trans e9).trans e10).trans e11).trans e12).trans e13))
    refine ⟨_, rfl, _, rfl, x, _, _, r, ws, rfl, q_zC, rfl, .inl (SqL.of ((((((((e6.trans e7).trans e8).trans e9).trans e10).trans e11).trans e12).trans e13) _ _ hr0)), x, r, ss, tt, rfl, (hx.same ((((((((((e3.trans e4).trans e5).trans e6).trans e7).trans e8).trans e9).trans e10).trans e11).trans e12).trans e13)), gs, (row_same row (((((((e6.trans e7).trans e8).trans e9).trans e10).trans e11).trans e12).trans e13)), by (try simp only [List.length_append, List.length_nil]); omega, (fun _ zC H14_ e14 nzC hzC => ?_), (fun s' hb => by rw [nbt] at hb; cases hb)⟩
    obtain ⟨_, _, _, q_zD, _⟩ := id hzC
    refine ⟨_, rfl, zC, _, _, rfl, q_zD, opd_of (tt := tt) (.inl ⟨(hy.same (((((((((e5.trans e6).trans e7).trans e8).trans e9).trans e10).trans e11).trans e12).trans e13).trans e14)), gt⟩), zC, y, (tt ++ ss), tt, rfl, hzC, gts, (.inl ⟨(hy.same (((((((((e5.trans e6).trans e7).trans e8).trans e9).trans e10).trans e11).trans e12).trans e13).trans e14)), gt⟩), by (try simp only [List.length_append, List.length_nil]); omega, (fun _ zD H15_ e15 nzD hzD => ?_), (fun s' hb => by rw [nbt] at hb; cases hb)⟩
    refine ⟨_, rfl, _, rfl, S2', S1, _, _, rfl, rfl, (((((((((((((((e1.trans e2).trans e3).trans e4).trans e5).trans e6).trans e7).trans e8).trans e9).trans e10).trans e11).trans e12).trans e13).trans e14).trans e15) _ _ h2), (((((((((((((((e1.trans e2).trans e3).trans e4).trans e5).trans e6).trans e7).trans e8).trans e9).trans e10).trans e11).trans e12).trans e13).trans e14).trans e15) _ _ h1), by (try simp only [List.length_append]); omega, fun c4 nc4 => ?_⟩
    have e16 := same_new (o := .lst (us2 ++ us1)) nc4
    have hc4 : (upd H15_ c4 (.lst (us2 ++ us1))) c4 = some (.lst (us2 ++ us1)) := upd_same
    have stc4 : Stps (upd H15_ c4 (.lst (us2 ++ us1))) (us2 ++ us1) (tt ++ ss) := pair_app ((st2.same ((((((((((((((e1.trans e2).trans e3).trans e4).trans e5).trans e6).trans e7).trans e8).trans e9).trans e10).trans e11).trans e12).trans e13).trans e14).trans e15)).same e16) ((st1.same ((((((((((((((e1.trans e2).trans e3).trans e4).trans e5).trans e6).trans e7).trans e8).trans e9).trans e10).trans e11).trans e12).trans e13).trans e14).trans e15)).same e16)
    revert e16 hc4 stc4
    generalize upd H15_ c4 (.lst (us2 ++ us1)) = H16_
    intro e16 hc4 stc4
    refine ⟨_, rfl, c4, S2', _, _, rfl, rfl, hc4, ((((((((((((((((e1.trans e2).trans e3).trans e4).trans e5).trans e6).trans e7).trans e8).trans e9).trans e10).trans e11).trans e12).trans e13).trans e14).trans e15).trans e16) _ _ h2), by (try simp only [List.length_append]); omega, fun c5 nc5 => ?_⟩
    have e17 := same_new (o := .lst ((us2 ++ us1) ++ us2)) nc5
    have hc5 : (upd H16_ c5 (.lst ((us2 ++ us1) ++ us2))) c5 = some (.lst ((us2 ++ us1) ++ us2)) := upd_same
    have stc5 : Stps (upd H16_ c5 (.lst ((us2 ++ us1) ++ us2))) ((us2 ++ us1) ++ us2) ((tt ++ ss) ++ tt) := pair_app (stc4.same e17) ((st2.same (((((((((((((((e1.trans e2).trans e3).trans e4).trans e5).trans e6).trans e7).trans e8).trans e9).trans e10).trans e11).trans e12).trans e13).trans e14).trans e15).trans e16)).same e17)
    revert e17 hc5 stc5
    generalize upd H16_ c5 (.lst ((us2 ++ us1) ++ us2)) = H17_
    intro e17 hc5 stc5
    refine ⟨zD, c5, ((us2 ++ us1) ++ us2), ((tt ++ ss) ++ tt), ((tt ++ ss) ++ tt), rfl, (hzD.same (e16.trans e17)), hc5, stc5, by (try simp only [List.length_append]); omega, fun H18_ e18 => ?_⟩
    rw [decide_eq_true rfl]
    refine ⟨_, rfl, iteNo rfl ?_⟩
    obtain ⟨_, _, _, q_zE, _⟩ := id (hx.same (((((((((((((((e3.trans e4).trans e5).trans e6).trans e7).trans e8).trans e9).trans e10).trans e11).trans e12).trans e13).trans e14).trans e15).trans e16).trans e17).trans e18))
    refine ⟨_, rfl, _, rfl, _, rfl, x, _, _, r, ws, rfl, q_zE, rfl, .inl (SqL.of (((((((((((((e6.trans e7).trans e8).trans e9).trans e10).trans e11).trans e12).trans e13).trans e14).trans e15).trans e16).trans e17).trans e18) _ _ hr0)), x, r, ss, tt, rfl, (hx.same (((((((((((((((e3.trans e4).trans e5).trans e6).trans e7).trans e8).trans e9).trans e10).trans e11).trans e12).trans e13).trans e14).trans e15).trans e16).trans e17).trans e18)), gs, (row_same row ((((((((((((e6.trans e7).trans e8).trans e9).trans e10).trans e11).trans e12).trans e13).trans e14).trans e15).trans e16).trans e17).trans e18)), by (try simp only [List.length_append, List.length_nil]); omega, (fun _ zE H19_ e19 nzE hzE => ?_), (fun s' hb => by rw [nbt] at hb; cases hb)⟩
    obtain ⟨_, _, _, q_zF, _⟩ := id (hx.same ((((((((((((((((e3.trans e4).trans e5).trans e6).trans e7).trans e8).trans e9).trans e10).trans e11).trans e12).trans e13).trans e14).trans e15).trans e16).trans e17).trans e18).trans e19))
    refine ⟨x, _, _, rfl, q_zF, opd_of (tt := (tt ++ ss)) (.inl ⟨hzE, gts⟩), x, zE, ss, (tt ++ ss), rfl, (hx.same ((((((((((((((((e3.trans e4).trans e5).trans e6).trans e7).trans e8).trans e9).trans e10).trans e11).trans e12).trans e13).trans e14).trans e15).trans e16).trans e17).trans e18).trans e19)), gs, (.inl ⟨hzE, gts⟩), by (try simp only [List.length_append, List.length_nil]); omega, (fun _ zF H20_ e20 nzF hzF => ?_), (fun s' hb => by rw [nbts] at hb; cases hb)⟩
    rw [← List.append_assoc] at hzF
    refine ⟨_, rfl, _, rfl, S1, S2', _, _, rfl, rfl, ((((((((((((((((((((e1.trans e2).trans e3).trans e4).trans e5).trans e6).trans e7).trans e8).trans e9).trans e10).trans e11).trans e12).trans e13).trans e14).trans e15).trans e16).trans e17).trans e18).trans e19).trans e20) _ _ h1), ((((((((((((((((((((e1.trans e2).trans e3).trans e4).trans e5).trans e6).trans e7).trans e8).trans e9).trans e10).trans e11).trans e12).trans e13).trans e14).trans e15).trans e16).trans e17).trans e18).trans e19).trans e20) _ _ h2), by (try simp only [List.length_append]); omega, fun c6 nc6 => ?_⟩
    have e21 := same_new (o := .lst (us1 ++ us2)) nc6
    have hc6 : (upd H20_ c6 (.lst (us1 ++ us2))) c6 = some (.lst (us1 ++ us2)) := upd_same
    have stc6 : Stps (upd H20_ c6 (.lst (us1 ++ us2))) (us1 ++ us2) (ss ++ tt) := pair_app ((st1.same (((((((((((((((((((e1.trans e2).trans e3).trans e4).trans e5).trans e6).trans e7).trans e8).trans e9).trans e10).trans e11).trans e12).trans e13).trans e14).trans e15).trans e16).trans e17).trans e18).trans e19).trans e20)).same e21) ((st2.same (((((((((((((((((((e1.trans e2).trans e3).trans e4).trans e5).trans e6).trans e7).trans e8).trans e9).trans e10).trans e11).trans e12).trans e13).trans e14).trans e15).trans e16).trans e17).trans e18).trans e19).trans e20)).same e21)
    revert e21 hc6 stc6
    generalize upd H20_ c6 (.lst (us1 ++ us2)) = H21_
    intro e21 hc6 stc6
    refine ⟨_, rfl, c6, S1, _, _, rfl, rfl, hc6, (((((((((((((((((((((e1.trans e2).trans e3).trans e4).trans e5).trans e6).trans e7).trans e8).trans e9).trans e10).trans e11).trans e12).trans e13).trans e14).trans e15).trans e16).trans e17).trans e18).trans e19).trans e20).trans e21) _ _ h1), by (try simp only [List.length_append]); omega, fun c7 nc7 => ?_⟩
    have e22 := same_new (o := .lst ((us1 ++ us2) ++ us1)) nc7
    have hc7 : (upd H21_ c7 (.lst ((us1 ++ us2) ++ us1))) c7 = some (.lst ((us1 ++ us2) ++ us1)) := upd_same
    have stc7 : Stps (upd H21_ c7 (.lst ((us1 ++ us2) ++ us1))) ((us1 ++ us2) ++ us1) ((ss ++ tt) ++ ss) := pair_app (stc6.same e22) ((st1.same ((((((((((((((((((((e1.trans e2).trans e3).trans e4).trans e5).trans e6).trans e7).trans e8).trans e9).trans e10).trans e11).trans e12).trans e13).trans e14).trans e15).trans e16).trans e17).trans e18).trans e19).trans e20).trans e21)).same e22)
    revert e22 hc7 stc7
    generalize upd H21_ c7 (.lst ((us1 ++ us2) ++ us1)) = H22_
    intro e22 hc7 stc7
    refine ⟨zF, c7, ((us1 ++ us2) ++ us1), ((ss ++ tt) ++ ss), ((ss ++ tt) ++ ss), rfl, (hzF.same (e21.trans e22)), hc7, stc7, by (try simp only [List.length_append]); omega, fun H23_ e23 => ?_⟩
    rw [decide_eq_true rfl]
    refine ⟨_, rfl, iteNo rfl ?_⟩
    refine ⟨_, rfl, _, rfl, _, rfl, _, rfl, _, rfl, x, y, r, S1, S2', us1, us2, ws, ss, tt, rfl, (hx.same ((((((((((((((((((((e3.trans e4).trans e5).trans e6).trans e7).trans e8).trans e9).trans e10).trans e11).trans e12).trans e13).trans e14).trans e15).trans e16).trans e17).trans e18).trans e19).trans e20).trans e21).trans e22).trans e23)), (hy.same ((((((((((((((((((e5.trans e6).trans e7).trans e8).trans e9).trans e10).trans e11).trans e12).trans e13).trans e14).trans e15).trans e16).trans e17).trans e18).trans e19).trans e20).trans e21).trans e22).trans e23)), gs, gt, ((((((((((((((((((e6.trans e7).trans e8).trans e9).trans e10).trans e11).trans e12).trans e13).trans e14).trans e15).trans e16).trans e17).trans e18).trans e19).trans e20).trans e21).trans e22).trans e23) _ _ hr0), (stpsV_same hw (((((((((((((((((e6.trans e7).trans e8).trans e9).trans e10).trans e11).trans e12).trans e13).trans e14).trans e15).trans e16).trans e17).trans e18).trans e19).trans e20).trans e21).trans e22).trans e23)), (((((((((((((((((((((((e1.trans e2).trans e3).trans e4).trans e5).trans e6).trans e7).trans e8).trans e9).trans e10).trans e11).trans e12).trans e13).trans e14).trans e15).trans e16).trans e17).trans e18).trans e19).trans e20).trans e21).trans e22).trans e23) _ _ h1), (st1.same ((((((((((((((((((((((e1.trans e2).trans e3).trans e4).trans e5).trans e6).trans e7).trans e8).trans e9).trans e10).trans e11).trans e12).trans e13).trans e14).trans e15).trans e16).trans e17).trans e18).trans e19).trans e20).trans e21).trans e22).trans e23)), (((((((((((((((((((((((e1.trans e2).trans e3).trans e4).trans e5).trans e6).trans e7).trans e8).trans e9).trans e10).trans e11).trans e12).trans e13).trans e14).trans e15).trans e16).trans e17).trans e18).trans e19).trans e20).trans e21).trans e22).trans e23) _ _ h2), (st2.same ((((((((((((((((((((((e1.trans e2).trans e3).trans e4).trans e5).trans e6).trans e7).trans e8).trans e9).trans e10).trans e11).trans e12).trans e13).trans e14).trans e15).trans e16).trans e17).trans e18).trans e19).trans e20).trans e21).trans e22).trans e23)), by omega, by omega, fun H24_ e24 => ⟨_, rfl, iteNo rfl ?_⟩⟩
    have htR : H24_ t ≠ none := by rw [(D9.same (((((((((((((((((((((((e1.trans e2).trans e3).trans e4).trans e5).trans e6).trans e7).trans e8).trans e9).trans e10).trans e11).trans e12).trans e13).trans e14).trans e15).trans e16).trans e17).trans e18).trans e19).trans e20).trans e21).trans e22).trans e23).trans e24)).pl.choose_spec]; exact Option.some_ne_none _
    refine ⟨_, rfl, _, rfl, _, rfl, S2', lb, us2, tt, rfl, ((((((((((((((((((((((((e1.trans e2).trans e3).trans e4).trans e5).trans e6).trans e7).trans e8).trans e9).trans e10).trans e11).trans e12).trans e13).trans e14).trans e15).trans e16).trans e17).trans e18).trans e19).trans e20).trans e21).trans e22).trans e23).trans e24) _ _ h2), (st2.same (((((((((((((((((((((((e1.trans e2).trans e3).trans e4).trans e5).trans e6).trans e7).trans e8).trans e9).trans e10).trans e11).trans e12).trans e13).trans e14).trans e15).trans e16).trans e17).trans e18).trans e19).trans e20).trans e21).trans e22).trans e23).trans e24)), by omega, fun r2' ws2 H25_ e25 nr2 hr2 hw2 hdn2 => ?_⟩
    have nr2t : r2' ≠ t := (D9.same (((((((((((((((((((((((e1.trans e2).trans e3).trans e4).trans e5).trans e6).trans e7).trans e8).trans e9).trans e10).trans e11).trans e12).trans e13).trans e14).trans e15).trans e16).trans e17).trans e18).trans e19).trans e20).trans e21).trans e22).trans e23).trans e24)).na nr2
    have lws2 := pair_len hw2
    have ntR := (D9.same ((((((((((((((((((((((((e1.trans e2).trans e3).trans e4).trans e5).trans e6).trans e7).trans e8).trans e9).trans e10).trans e11).trans e12).trans e13).trans e14).trans e15).trans e16).trans e17).trans e18).trans e19).trans e20).trans e21).trans e22).trans e23).trans e24).trans e25)).nt
    refine ⟨t, .ref r, .ref r2', _, _, rfl, Dn.lst nrt (SqL.of ((((((((((((((((((((e6.trans e7).trans e8).trans e9).trans e10).trans e11).trans e12).trans e13).trans e14).trans e15).trans e16).trans e17).trans e18).trans e19).trans e20).trans e21).trans e22).trans e23).trans e24).trans e25) _ _ hr0)) (L2.Paired.mapP (hdn t (D9.same ((((e1.trans e2).trans e3).trans e4).trans e5)).nt ht_) fun _ _ h => h.but (But.of_same (((((((((((((((((((e6.trans e7).trans e8).trans e9).trans e10).trans e11).trans e12).trans e13).trans e14).trans e15).trans e16).trans e17).trans e18).trans e19).trans e20).trans e21).trans e22).trans e23).trans e24).trans e25))) (by omega), Dn.lst nr2t (SqL.of hr2) (hdn2 t ntR htR) (by omega), _, rfl, iteNo nsame ?_⟩
    have W : W5 K T.c_Program H25_ d t x y r S1 S2' us1 us2 ws ss tt := ⟨D9.same ((((((((((((((((((((((((e1.trans e2).trans e3).trans e4).trans e5).trans e6).trans e7).trans e8).trans e9).trans e10).trans e11).trans e12).trans e13).trans e14).trans e15).trans e16).trans e17).trans e18).trans e19).trans e20).trans e21).trans e22).trans e23).trans e24).trans e25), (hx.same ((((((((((((((((((((((e3.trans e4).trans e5).trans e6).trans e7).trans e8).trans e9).trans e10).trans e11).trans e12).trans e13).trans e14).trans e15).trans e16).trans e17).trans e18).trans e19).trans e20).trans e21).trans e22).trans e23).trans e24).trans e25)), (hy.same ((((((((((((((((((((e5.trans e6).trans e7).trans e8).trans e9).trans e10).trans e11).trans e12).trans e13).trans e14).trans e15).trans e16).trans e17).trans e18).trans e19).trans e20).trans e21).trans e22).trans e23).trans e24).trans e25)), (((((((((((((((((((((((((e1.trans e2).trans e3).trans e4).trans e5).trans e6).trans e7).trans e8).trans e9).trans e10).trans e11).trans e12).trans e13).trans e14).trans e15).trans e16).trans e17).trans e18).trans e19).trans e20).trans e21).trans e22).trans e23).trans e24).trans e25) _ _ h1), (st1.same ((((((((((((((((((((((((e1.trans e2).trans e3).trans e4).trans e5).trans e6).trans e7).trans e8).trans e9).trans e10).trans e11).trans e12).trans e13).trans e14).trans e15).trans e16).trans e17).trans e18).trans e19).trans e20).trans e21).trans e22).trans e23).trans e24).trans e25)), (((((((((((((((((((((((((e1.trans e2).trans e3).trans e4).trans e5).trans e6).trans e7).trans e8).trans e9).trans e10).trans e11).trans e12).trans e13).trans e14).trans e15).trans e16).trans e17).trans e18).trans e19).trans e20).trans e21).trans e22).trans e23).trans e24).trans e25) _ _ h2), (st2.same ((((((((((((((((((((((((e1.trans e2).trans e3).trans e4).trans e5).trans e6).trans e7).trans e8).trans e9).trans e10).trans e11).trans e12).trans e13).trans e14).trans e15).trans e16).trans e17).trans e18).trans e19).trans e20).trans e21).trans e22).trans e23).trans e24).trans e25)), ((((((((((((((((((((e6.trans e7).trans e8).trans e9).trans e10).trans e11).trans e12).trans e13).trans e14).trans e15).trans e16).trans e17).trans e18).trans e19).trans e20).trans e21).trans e22).trans e23).trans e24).trans e25) _ _ hr0), (stpsV_same hw (((((((((((((((((((e6.trans e7).trans e8).trans e9).trans e10).trans e11).trans e12).trans e13).trans e14).trans e15).trans e16).trans e17).trans e18).trans e19).trans e20).trans e21).trans e22).trans e23).trans e24).trans e25)), nS1, nS2', nrt⟩
    clear hdn hdn2
    refine ⟨fun σ' H' => ∃ (x10 x11 x12 x13 x14 : Option V), σ' = [some (.ref a0), some (.ref d), some (.ref t), some (.ref S1), none, some (.ref S2'), some (.bl lb), some (.ref x), some (.ref y), some (.ref r), x10, x11, x12, x13, x14] ∧ W5 K T.c_Program H' d t x y r S1 S2' us1 us2 ws ss tt, ?_, ?_⟩
    · refine ⟨_, rfl, S2', _, rfl, .inl (SqL.of W.h2), _, _, rfl, rfl, _, rfl, iteD (fun c => ?_) (fun c => ⟨_, _, _, _, _, rfl, W⟩)⟩
      refine ⟨_, rfl, _, rfl, d, t, 3, rfl, W.dr, by decide, fun ra Ha _ _ Da ba => ⟨rfl, _, rfl, iteN (fun c2 => ?_) (fun c2 => ⟨_, _, _, _, _, rfl, W.but ba Da⟩)⟩⟩
      have Wa := W.but ba Da
      refine ⟨_, rfl, _, rfl, _, rfl, S2', _, rfl, .inl (SqL.of Wa.h2), d, t, _, rfl, Wa.dr, by omega, fun pl Hb p0 p1 Db bb => ?_⟩
      have Wb := Wa.but bb Db
      obtain ⟨j, rfl⟩ := Int.eq_ofNat_of_zero_le p0
      have hj : j < us2.length := by omega
      have gj : us2[j]? = some us2[j] := List.getElem?_eq_getElem hj
      obtain ⟨sj, hsj, p, ep, hp⟩ := pair_get Wb.st2 gj
      rw [ep] at gj
      refine ⟨_, rfl, _, rfl, _, rfl, _, rfl, _, _, _, _, rfl, rfl, SqL.of Wb.h2, atI_nat gj, d, t, p, sj, rfl, Wb.dr, hp, gt sj (List.mem_of_getElem? hsj), fun rb sb Hc nsb Dc bc nrb hrb => ?_⟩
      have Wc := Wb.but bc Dc
      -- the spoilt row
      refine ⟨_, rfl, _, rfl, _, rfl, S2', _, rfl, SqL.of Wc.h2, fun a1 n1' => ?_⟩
      rw [cut_to us2 j]
      have s1' := same_new (o := .lst (us2.take j)) n1'
      refine ⟨_, rfl, by show 1 ≤ sizeLine; decide, fun a2 n2' => ?_⟩
      have s2' := same_new (o := .lst [.ref rb]) n2'
      have z1 := List.length_take_le j us2
      refine ⟨a1, a2, _, _, rfl, rfl, s2' _ _ upd_same, upd_same, by show _ + 1 ≤ _; omega, fun a3 n3' => ?_⟩
      have s3' := same_new (o := .lst (us2.take j ++ [.ref rb])) n3'
      have t3' := (s1'.trans s2').trans s3'
      refine ⟨_, rfl, _, rfl, _, _, rfl, rfl, _, rfl, S2', _, rfl, SqL.of (t3' _ _ Wc.h2), fun a4 n4' => ?_⟩
      rw [show ((j : Int) + 1) = ((j + 1 : Nat) : Int) by omega, cut_from us2 (j + 1)]
      have s4' := same_new (o := .lst (us2.drop (j + 1))) n4'
      have z2 : (us2.drop (j + 1)).length = us2.length - (j + 1) := List.length_drop
      refine ⟨a3, a4, _, _, rfl, rfl, s4' _ _ upd_same, upd_same, by rw [List.length_append]; show _ + 1 + _ ≤ _; omega, fun a5 n5' => ?_⟩
      have s5' := same_new (o := .lst (us2.take j ++ [.ref rb] ++ us2.drop (j + 1))) n5'
      have t5' := (t3'.trans s4').trans s5'
      have W5' := Wc.same t5'
      have stB : Stps _ (us2.take j ++ [.ref rb] ++ us2.drop (j + 1)) (tt.take j ++ [sb] ++ tt.drop (j + 1)) := pair_app (pair_app (pair_take j W5'.st2) (.cons ⟨rb, rfl, t5' _ _ hrb⟩ .nil)) (pair_drop (j + 1) W5'.st2)
      have hfb : firstBad (tt.take j ++ [sb] ++ tt.drop (j + 1)) = some sb := bad_mid (fun s h => gt s (List.mem_of_mem_take h)) nsb
      have lB : (us2.take j ++ [V.ref rb] ++ us2.drop (j + 1)).length ≤ 10 := by rw [List.length_append, List.length_append]; show _ + 1 + _ ≤ _; omega
      have lB2 := pair_len stB
      refine ⟨_, rfl, a5, lb, _, _, rfl, upd_same, stB, by omega, fun rs wss Hd sd nrs hrs hws _ => ?_⟩
      have Wd := W5'.same sd
      have hrbd := (t5'.trans sd) _ _ hrb
      have lwss := pair_len hws
      refine ⟨_, rfl, by decide, by decide, for_range (lo := 0) (n := 5) (fun i σ' H' => ∃ (x10 : Option V), σ' = [some (.ref a0), some (.ref d), some (.ref t), some (.ref S1), none, some (.ref S2'), some (.bl lb), some (.ref x), some (.ref y), some (.ref r), x10, x11, some (.int (j : Int)), some (.ref rb), some (.ref rs)] ∧ Same Hd H') ⟨_, rfl, fun _ _ h => h⟩ ?_ ?_⟩
      · rintro i σ' He hi ⟨x10', rfl, se⟩
        rw [Int.zero_add]
        have We := Wd.same se
        refine ⟨_, rfl, _, rfl, _, rfl, (i : Int), x, rs, wss, ss, _, sb, rfl, by omega, by omega, We.hx, gs, se _ _ hrs, stpsV_same hws se, by omega, hfb, fun rr qq Hf sf nrr nqq hqq hrr => ?_⟩
        have Wf := We.same sf
        refine ⟨_, rfl, by show 2 ≤ sizeLine; decide, fun cb ncb => ?_⟩
        have sg := same_new (o := .lst [.str "BadStep", .ref rb]) ncb
        have Wg := Wf.same sg
        have nrrt : rr ≠ t := We.dr.na nrr
        have ncbt : cb ≠ t := Wf.dr.na ncb
        have dtp : ∀ o, (upd Hf cb (.lst [.str "BadStep", .ref rb])) o = some (.tup [.str sb.1, .int sb.2]) → Dn K t (upd Hf cb (.lst [.str "BadStep", .ref rb])) 1 (.ref o) (stpD sb) := fun o ho => Dn.tup (fun z => Wg.dr.nt _ (z ▸ ho)) (SqT.of ho) (.cons (.str _) (.cons (.int _) .nil))
        refine ⟨t, .ref rr, .ref cb, .list [.str "BadStep", stpD sb], .list [.str "BadStep", stpD sb], rfl, Dn.lst nrrt (SqL.of (sg _ _ hrr)) (.cons (.str _) (.cons (dtp _ (sg _ _ hqq)) .nil)), Dn.lst ncbt (SqL.of upd_same) (.cons (.str _) (.cons (dtp _ (((se.trans sf).trans sg) _ _ hrbd)) .nil)), _, rfl, iteNo nsame ?_⟩
        refine ⟨_, rfl, _, rfl, x, S1, us1, ss, ss, rfl, Wg.hx, Wg.h1, Wg.st1, by omega, fun Hh sh => ?_⟩
        rw [decide_eq_true rfl]
        exact ⟨_, rfl, iteNo rfl ⟨_, rfl, ((se.trans sf).trans sg).trans sh⟩⟩
      · rintro σ' He ⟨x10', rfl, se⟩
        exact ⟨_, _, _, _, _, rfl, Wd.same se⟩
    rintro σ' Hi_ ⟨x10', x11', x12', x13', x14', rfl, Wi⟩
    refine ⟨_, rfl, _, rfl, x, S1, us1, ss, ss, rfl, Wi.hx, Wi.h1, Wi.st1, by omega, fun Hj sj => ?_⟩
    have Wj := Wi.same sj
    rw [decide_eq_true rfl]
    refine ⟨_, rfl, iteT ?_⟩
    refine ⟨_, rfl, _, rfl, y, S2', us2, tt, tt, rfl, Wj.hy, Wj.h2, Wj.st2, by omega, fun Hk sk => ?_⟩
    have Wk := Wj.same sk
    rw [decide_eq_true rfl]
    refine ⟨_, rfl, iteT ?_⟩
    obtain ⟨_, _, _, qx, _⟩ := id Wk.hx
    refine ⟨_, rfl, _, rfl, x, _, _, rfl, qx, opd_of (tt := tt) (.inl ⟨Wk.hy, gt⟩), x, y, ss, tt, rfl, Wk.hx, gs, .inl ⟨Wk.hy, gt⟩, by omega, (fun _ zX Hl sl nzX hzX => ?_), (fun s' hb => by rw [nbt] at hb; cases hb)⟩
    have Wl := Wk.same sl
    obtain ⟨_, _, _, qx2, _⟩ := id Wl.hx
    have rowl : RowX K Hl r tt := ⟨ws, .inl (SqL.of Wl.hr0), Wl.hw⟩
    refine ⟨_, rfl, _, rfl, x, _, _, rfl, qx2, opd_of (tt := tt) (.inr rowl), x, r, ss, tt, rfl, Wl.hx, gs, .inr rowl, by omega, (fun _ zY Hm sm nzY hzY => ?_), (fun s' hb => by rw [nbt] at hb; cases hb)⟩
    have hzX' := hzX.same sm
    obtain ⟨_, _, _, qX, _⟩ := id hzX'
    obtain ⟨_, _, _, qY, _⟩ := id hzY
    refine ⟨zX, _, _, zY, _, _, rfl, rfl, qX, qY, zX, zY, ss ++ tt, ss ++ tt, rfl, hzX', hzY, gst, gst, ?_⟩
    refine ⟨t, _, _, .bool _, .bool _, rfl, Dn.bl _, Dn.bl _, ?_⟩
    rw [decide_eq_true rfl, same_yes rfl]
    exact q _
end
end My

namespace My
open PySem L2
theorem all_mk {w : World} {K : PySem.W.Frag} {h : Heap} {mg : Str → Option Value} {fa : Addr} (X : K.In h) (G : h.Ns mainGlobals mg) (hfa : mg "law" = some (.ref fa))
    {c_Program : Addr}
    {f_sound_step : Addr} {od_sound_step an_sound_step : Option Addr} {sl_sound_step : Array (Option Value)} {oc_sound_step kV_sound_step dc_sound_step pm_sound_step cd_sound_step ct_sound_step : Value}
    {f_Program_init : Addr} {od_Program_init an_Program_init : Option Addr} {sl_Program_init : Array (Option Value)} {oc_Program_init kV_Program_init dc_Program_init pm_Program_init cd_Program_init ct_Program_init : Value}
    {f_Program_len : Addr} {od_Program_len an_Program_len : Option Addr} {sl_Program_len : Array (Option Value)} {oc_Program_len kV_Program_len dc_Program_len pm_Program_len cd_Program_len ct_Program_len : Value}
    {f_Program_iter : Addr} {od_Program_iter an_Program_iter : Option Addr} {sl_Program_iter : Array (Option Value)} {oc_Program_iter kV_Program_iter dc_Program_iter pm_Program_iter cd_Program_iter ct_Program_iter : Value}
    {f_Program_eq : Addr} {od_Program_eq an_Program_eq : Option Addr} {sl_Program_eq : Array (Option Value)} {oc_Program_eq kV_Program_eq dc_Program_eq pm_Program_eq cd_Program_eq ct_Program_eq : Value}
    {f_Program_add : Addr} {od_Program_add an_Program_add : Option Addr} {sl_Program_add : Array (Option Value)} {oc_Program_add kV_Program_add dc_Program_add pm_Program_add cd_Program_add ct_Program_add : Value}
    {f_Program_iadd : Addr} {od_Program_iadd an_Program_iadd : Option Addr} {sl_Program_iadd : Array (Option Value)} {oc_Program_iadd kV_Program_iadd dc_Program_iadd pm_Program_iadd cd_Program_iadd ct_Program_iadd : Value}
    {f_Program_radd : Addr} {od_Program_radd an_Program_radd : Option Addr} {sl_Program_radd : Array (Option Value)} {oc_Program_radd kV_Program_radd dc_Program_radd pm_Program_radd cd_Program_radd ct_Program_radd : Value}
    {f__law_draws : Addr} {od__law_draws an__law_draws : Option Addr} {sl__law_draws : Array (Option Value)} {oc__law_draws kV__law_draws dc__law_draws pm__law_draws cd__law_draws ct__law_draws : Value}
    {f__law_take : Addr} {od__law_take an__law_take : Option Addr} {sl__law_take : Array (Option Value)} {oc__law_take kV__law_take dc__law_take pm__law_take cd__law_take ct__law_take : Value}
    {f__law_same : Addr} {od__law_same an__law_same : Option Addr} {sl__law_same : Array (Option Value)} {oc__law_same kV__law_same dc__law_same pm__law_same cd__law_same ct__law_same : Value}
    {f__law_step : Addr} {od__law_step an__law_step : Option Addr} {sl__law_step : Array (Option Value)} {oc__law_step kV__law_step dc__law_step pm__law_step cd__law_step ct__law_step : Value}
    {f__law_bad_step : Addr} {od__law_bad_step an__law_bad_step : Option Addr} {sl__law_bad_step : Array (Option Value)} {oc__law_bad_step kV__law_bad_step dc__law_bad_step pm__law_bad_step cd__law_bad_step ct__law_bad_step : Value}
    {f__law_is : Addr} {od__law_is an__law_is : Option Addr} {sl__law_is : Array (Option Value)} {oc__law_is kV__law_is dc__law_is pm__law_is cd__law_is ct__law_is : Value}
    {f__law_handed : Addr} {od__law_handed an__law_handed : Option Addr} {sl__law_handed : Array (Option Value)} {oc__law_handed kV__law_handed dc__law_handed pm__law_handed cd__law_handed ct__law_handed : Value}
    {f__law_sum : Addr} {od__law_sum an__law_sum : Option Addr} {sl__law_sum : Array (Option Value)} {oc__law_sum kV__law_sum dc__law_sum pm__law_sum cd__law_sum ct__law_sum : Value}
    {f__law_refused : Addr} {od__law_refused an__law_refused : Option Addr} {sl__law_refused : Array (Option Value)} {oc__law_refused kV__law_refused dc__law_refused pm__law_refused cd__law_refused ct__law_refused : Value}
    {f__law_in_place : Addr} {od__law_in_place an__law_in_place : Option Addr} {sl__law_in_place : Array (Option Value)} {oc__law_in_place kV__law_in_place dc__law_in_place pm__law_in_place cd__law_in_place ct__law_in_place : Value}
    {f_law : Addr} {od_law an_law : Option Addr} {sl_law : Array (Option Value)} {oc_law kV_law dc_law pm_law cd_law ct_law : Value}
    {q_DEEDS : Addr} {oq_DEEDS : Option Addr} {nq_DEEDS : Nat} {slq_DEEDS : Array (Option Value)} {t_DEEDS_0 : Tok} {t_DEEDS_1 : Tok} {t_DEEDS_2 : Tok}
    {fl_Program_add rl_Program_add ft_Program_add rt_Program_add : Option Value}
    {ra_Program_add : Addr}
    {c_BadStep : Addr}
    {c_WebError : Addr}
    {c_Refused : Addr}
    {c_NoThing : Addr}
    {nm_BadStep q_BadStep : Str} {N_BadStep : Addr} {bs_BadStep : List Value} {sn_BadStep : List Str} {sub_BadStep : List Value} {ab_BadStep : Bool} {col_BadStep : Option Bool} {dd_BadStep : Option Addr} {m0_BadStep m1_BadStep m2_BadStep m3_BadStep m5_BadStep : Option Value}
    {f_BadStep cda_BadStep cc_BadStep : Addr} {od_BadStep an_BadStep cld_BadStep cdd_BadStep : Option Addr} {osl_BadStep csl_BadStep ccs_BadStep : Array (Option Value)} {oc_BadStep kV_BadStep dc_BadStep pm_BadStep ct_BadStep cl_BadStep ccl_BadStep : Value} {vs_BadStep : Array Value} {file_BadStep : Str} {tf_BadStep : Tok}
    (gc_Program : PySem.W.nsIn K mainGlobals "Program" = some (some (.ref c_Program)))
    (a_sound_step : PySem.W.nsIn K mainGlobals "sound_step" = some (some (.ref f_sound_step)))
    (l_sound_step : K.lookup f_sound_step = some ⟨oc_sound_step, od_sound_step, .func (PySem.W.fnOf "sound_step" "sound_step" (defArgs S_sound_step) (defBody S_sound_step) (defScope S_sound_step) .none kV_sound_step dc_sound_step pm_sound_step an_sound_step cd_sound_step ct_sound_step), sl_sound_step⟩)
    (c_sound_step : PySem.W.codeIn K cd_sound_step "sound_step" = true)
    (k_sound_step : PySem.W.keepIn K (.ref f_sound_step) = true)
    (a_Program_init : PySem.W.findIn K (.ref c_Program) "__init__" = some (some (.ref f_Program_init)))
    (l_Program_init : K.lookup f_Program_init = some ⟨oc_Program_init, od_Program_init, .func (PySem.W.fnOf "__init__" "Program.__init__" (defArgs S_Program_init) (defBody S_Program_init) (defScope S_Program_init) .none kV_Program_init dc_Program_init pm_Program_init an_Program_init cd_Program_init ct_Program_init), sl_Program_init⟩)
    (c_Program_init : PySem.W.codeIn K cd_Program_init "Program.__init__" = true)
    (k_Program_init : PySem.W.keepIn K (.ref f_Program_init) = true)
    (a_Program_len : PySem.W.findIn K (.ref c_Program) "__len__" = some (some (.ref f_Program_len)))
    (l_Program_len : K.lookup f_Program_len = some ⟨oc_Program_len, od_Program_len, .func (PySem.W.fnOf "__len__" "Program.__len__" (defArgs S_Program_len) (defBody S_Program_len) (defScope S_Program_len) .none kV_Program_len dc_Program_len pm_Program_len an_Program_len cd_Program_len ct_Program_len), sl_Program_len⟩)
    (c_Program_len : PySem.W.codeIn K cd_Program_len "Program.__len__" = true)
    (k_Program_len : PySem.W.keepIn K (.ref f_Program_len) = true)
    (a_Program_iter : PySem.W.findIn K (.ref c_Program) "__iter__" = some (some (.ref f_Program_iter)))
    (l_Program_iter : K.lookup f_Program_iter = some ⟨oc_Program_iter, od_Program_iter, .func (PySem.W.fnOf "__iter__" "Program.__iter__" (defArgs S_Program_iter) (defBody S_Program_iter) (defScope S_Program_iter) .none kV_Program_iter dc_Program_iter pm_Program_iter an_Program_iter cd_Program_iter ct_Program_iter), sl_Program_iter⟩)
    (c_Program_iter : PySem.W.codeIn K cd_Program_iter "Program.__iter__" = true)
    (k_Program_iter : PySem.W.keepIn K (.ref f_Program_iter) = true)
    (a_Program_eq : PySem.W.findIn K (.ref c_Program) "__eq__" = some (some (.ref f_Program_eq)))
    (l_Program_eq : K.lookup f_Program_eq = some ⟨oc_Program_eq, od_Program_eq, .func (PySem.W.fnOf "__eq__" "Program.__eq__" (defArgs S_Program_eq) (defBody S_Program_eq) (defScope S_Program_eq) .none kV_Program_eq dc_Program_eq pm_Program_eq an_Program_eq cd_Program_eq ct_Program_eq), sl_Program_eq⟩)
    (c_Program_eq : PySem.W.codeIn K cd_Program_eq "Program.__eq__" = true)
    (k_Program_eq : PySem.W.keepIn K (.ref f_Program_eq) = true)
    (a_Program_add : PySem.W.findIn K (.ref c_Program) "__add__" = some (some (.ref f_Program_add)))
    (l_Program_add : K.lookup f_Program_add = some ⟨oc_Program_add, od_Program_add, .func (PySem.W.fnOf "__add__" "Program.__add__" (defArgs S_Program_add) (defBody S_Program_add) (defScope S_Program_add) .none kV_Program_add dc_Program_add pm_Program_add an_Program_add cd_Program_add ct_Program_add), sl_Program_add⟩)
    (c_Program_add : PySem.W.codeIn K cd_Program_add "Program.__add__" = true)
    (k_Program_add : PySem.W.keepIn K (.ref f_Program_add) = true)
    (a_Program_iadd : PySem.W.findIn K (.ref c_Program) "__iadd__" = some (some (.ref f_Program_iadd)))
    (l_Program_iadd : K.lookup f_Program_iadd = some ⟨oc_Program_iadd, od_Program_iadd, .func (PySem.W.fnOf "__iadd__" "Program.__iadd__" (defArgs S_Program_iadd) (defBody S_Program_iadd) (defScope S_Program_iadd) .none kV_Program_iadd dc_Program_iadd pm_Program_iadd an_Program_iadd cd_Program_iadd ct_Program_iadd), sl_Program_iadd⟩)
    (c_Program_iadd : PySem.W.codeIn K cd_Program_iadd "Program.__iadd__" = true)
    (k_Program_iadd : PySem.W.keepIn K (.ref f_Program_iadd) = true)
    (a_Program_radd : PySem.W.findIn K (.ref c_Program) "__radd__" = some (some (.ref f_Program_radd)))
    (l_Program_radd : K.lookup f_Program_radd = some ⟨oc_Program_radd, od_Program_radd, .func (PySem.W.fnOf "__radd__" "Program.__radd__" (defArgs S_Program_radd) (defBody S_Program_radd) (defScope S_Program_radd) .none kV_Program_radd dc_Program_radd pm_Program_radd an_Program_radd cd_Program_radd ct_Program_radd), sl_Program_radd⟩)
    (c_Program_radd : PySem.W.codeIn K cd_Program_radd "Program.__radd__" = true)
    (k_Program_radd : PySem.W.keepIn K (.ref f_Program_radd) = true)
    (a__law_draws : PySem.W.nsIn K mainGlobals "_law_draws" = some (some (.ref f__law_draws)))
    (l__law_draws : K.lookup f__law_draws = some ⟨oc__law_draws, od__law_draws, .func (PySem.W.fnOf "_law_draws" "_law_draws" (defArgs S__law_draws) (defBody S__law_draws) (defScope S__law_draws) .none kV__law_draws dc__law_draws pm__law_draws an__law_draws cd__law_draws ct__law_draws), sl__law_draws⟩)
    (c__law_draws : PySem.W.codeIn K cd__law_draws "_law_draws" = true)
    (k__law_draws : PySem.W.keepIn K (.ref f__law_draws) = true)
    (a__law_take : PySem.W.nsIn K mainGlobals "_law_take" = some (some (.ref f__law_take)))
    (l__law_take : K.lookup f__law_take = some ⟨oc__law_take, od__law_take, .func (PySem.W.fnOf "_law_take" "_law_take" (defArgs S__law_take) (defBody S__law_take) (defScope S__law_take) .none kV__law_take dc__law_take pm__law_take an__law_take cd__law_take ct__law_take), sl__law_take⟩)
    (c__law_take : PySem.W.codeIn K cd__law_take "_law_take" = true)
    (k__law_take : PySem.W.keepIn K (.ref f__law_take) = true)
    (a__law_same : PySem.W.nsIn K mainGlobals "_law_same" = some (some (.ref f__law_same)))
    (l__law_same : K.lookup f__law_same = some ⟨oc__law_same, od__law_same, .func (PySem.W.fnOf "_law_same" "_law_same" (defArgs S__law_same) (defBody S__law_same) (defScope S__law_same) .none kV__law_same dc__law_same pm__law_same an__law_same cd__law_same ct__law_same), sl__law_same⟩)
    (c__law_same : PySem.W.codeIn K cd__law_same "_law_same" = true)
    (k__law_same : PySem.W.keepIn K (.ref f__law_same) = true)
    (a__law_step : PySem.W.nsIn K mainGlobals "_law_step" = some (some (.ref f__law_step)))
    (l__law_step : K.lookup f__law_step = some ⟨oc__law_step, od__law_step, .func (PySem.W.fnOf "_law_step" "_law_step" (defArgs S__law_step) (defBody S__law_step) (defScope S__law_step) .none kV__law_step dc__law_step pm__law_step an__law_step cd__law_step ct__law_step), sl__law_step⟩)
    (c__law_step : PySem.W.codeIn K cd__law_step "_law_step" = true)
    (k__law_step : PySem.W.keepIn K (.ref f__law_step) = true)
    (a__law_bad_step : PySem.W.nsIn K mainGlobals "_law_bad_step" = some (some (.ref f__law_bad_step)))
    (l__law_bad_step : K.lookup f__law_bad_step = some ⟨oc__law_bad_step, od__law_bad_step, .func (PySem.W.fnOf "_law_bad_step" "_law_bad_step" (defArgs S__law_bad_step) (defBody S__law_bad_step) (defScope S__law_bad_step) .none kV__law_bad_step dc__law_bad_step pm__law_bad_step an__law_bad_step cd__law_bad_step ct__law_bad_step), sl__law_bad_step⟩)
    (c__law_bad_step : PySem.W.codeIn K cd__law_bad_step "_law_bad_step" = true)
    (k__law_bad_step : PySem.W.keepIn K (.ref f__law_bad_step) = true)
    (a__law_is : PySem.W.nsIn K mainGlobals "_law_is" = some (some (.ref f__law_is)))
    (l__law_is : K.lookup f__law_is = some ⟨oc__law_is, od__law_is, .func (PySem.W.fnOf "_law_is" "_law_is" (defArgs S__law_is) (defBody S__law_is) (defScope S__law_is) .none kV__law_is dc__law_is pm__law_is an__law_is cd__law_is ct__law_is), sl__law_is⟩)
    (c__law_is : PySem.W.codeIn K cd__law_is "_law_is" = true)
    (k__law_is : PySem.W.keepIn K (.ref f__law_is) = true)
    (a__law_handed : PySem.W.nsIn K mainGlobals "_law_handed" = some (some (.ref f__law_handed)))
    (l__law_handed : K.lookup f__law_handed = some ⟨oc__law_handed, od__law_handed, .func (PySem.W.fnOf "_law_handed" "_law_handed" (defArgs S__law_handed) (defBody S__law_handed) (defScope S__law_handed) .none kV__law_handed dc__law_handed pm__law_handed an__law_handed cd__law_handed ct__law_handed), sl__law_handed⟩)
    (c__law_handed : PySem.W.codeIn K cd__law_handed "_law_handed" = true)
    (k__law_handed : PySem.W.keepIn K (.ref f__law_handed) = true)
    (a__law_sum : PySem.W.nsIn K mainGlobals "_law_sum" = some (some (.ref f__law_sum)))
    (l__law_sum : K.lookup f__law_sum = some ⟨oc__law_sum, od__law_sum, .func (PySem.W.fnOf "_law_sum" "_law_sum" (defArgs S__law_sum) (defBody S__law_sum) (defScope S__law_sum) .none kV__law_sum dc__law_sum pm__law_sum an__law_sum cd__law_sum ct__law_sum), sl__law_sum⟩)
    (c__law_sum : PySem.W.codeIn K cd__law_sum "_law_sum" = true)
    (k__law_sum : PySem.W.keepIn K (.ref f__law_sum) = true)
    (a__law_refused : PySem.W.nsIn K mainGlobals "_law_refused" = some (some (.ref f__law_refused)))
    (l__law_refused : K.lookup f__law_refused = some ⟨oc__law_refused, od__law_refused, .func (PySem.W.fnOf "_law_refused" "_law_refused" (defArgs S__law_refused) (defBody S__law_refused) (defScope S__law_refused) .none kV__law_refused dc__law_refused pm__law_refused an__law_refused cd__law_refused ct__law_refused), sl__law_refused⟩)
    (c__law_refused : PySem.W.codeIn K cd__law_refused "_law_refused" = true)
    (k__law_refused : PySem.W.keepIn K (.ref f__law_refused) = true)
    (a__law_in_place : PySem.W.nsIn K mainGlobals "_law_in_place" = some (some (.ref f__law_in_place)))
    (l__law_in_place : K.lookup f__law_in_place = some ⟨oc__law_in_place, od__law_in_place, .func (PySem.W.fnOf "_law_in_place" "_law_in_place" (defArgs S__law_in_place) (defBody S__law_in_place) (defScope S__law_in_place) .none kV__law_in_place dc__law_in_place pm__law_in_place an__law_in_place cd__law_in_place ct__law_in_place), sl__law_in_place⟩)
    (c__law_in_place : PySem.W.codeIn K cd__law_in_place "_law_in_place" = true)
    (k__law_in_place : PySem.W.keepIn K (.ref f__law_in_place) = true)
    (a_law : PySem.W.nsIn K mainGlobals "law" = some (some (.ref f_law)))
    (l_law : K.lookup f_law = some ⟨oc_law, od_law, .func (PySem.W.fnOf "law" "law" (defArgs S_law) (defBody S_law) (defScope S_law) .none kV_law dc_law pm_law an_law cd_law ct_law), sl_law⟩)
    (c_law : PySem.W.codeIn K cd_law "law" = true)
    (k_law : PySem.W.keepIn K (.ref f_law) = true)
    (z_ValueError : PySem.W.nsIn K mainGlobals "ValueError" = some none)
    (z_bool : PySem.W.nsIn K mainGlobals "bool" = some none)
    (z_int : PySem.W.nsIn K mainGlobals "int" = some none)
    (z_isinstance : PySem.W.nsIn K mainGlobals "isinstance" = some none)
    (z_iter : PySem.W.nsIn K mainGlobals "iter" = some none)
    (z_len : PySem.W.nsIn K mainGlobals "len" = some none)
    (z_list : PySem.W.nsIn K mainGlobals "list" = some none)
    (z_range : PySem.W.nsIn K mainGlobals "range" = some none)
    (z_str : PySem.W.nsIn K mainGlobals "str" = some none)
    (z_tuple : PySem.W.nsIn K mainGlobals "tuple" = some none)
    (aq_DEEDS : PySem.W.nsIn K mainGlobals "DEEDS" = some (some (.ref q_DEEDS)))
    (lq_DEEDS : K.lookup q_DEEDS = some ⟨.type "tuple", oq_DEEDS, .seq #[.str "own" t_DEEDS_0, .str "share" t_DEEDS_1, .str "drop" t_DEEDS_2] nq_DEEDS, slq_DEEDS⟩)
    (xla : PySem.W.findIn K (.type "list") "__add__" = some (some (.builtin "list.__add__")))
    (xlr : PySem.W.findIn K (.type "list") "__radd__" = some none)
    (xta : PySem.W.findIn K (.type "tuple") "__add__" = some (some (.builtin "tuple.__add__")))
    (xtr : PySem.W.findIn K (.type "tuple") "__radd__" = some none)
    (pg_Program : PySem.W.plainGet K c_Program Str.empty = true)
    (hd_Program : PySem.W.hasDictIn K c_Program = true)
    (po_Program : PySem.W.plainOver K c_Program = true)
    (sa_Program : PySem.W.findIn K (.ref c_Program) "__setattr__" = some (some (.builtin "object.__setattr__")))
    (kc_Program : PySem.W.keepIn K (.ref c_Program) = true)
    (i_Program_init : PySem.W.isFn K (.ref f_Program_init) = true)
    (mk_Program : PySem.W.makesIn K c_Program = true)
    (i_Program_len : PySem.W.isFn K (.ref f_Program_len) = true)
    (i_Program_iter : PySem.W.isFn K (.ref f_Program_iter) = true)
    (i_Program_eq : PySem.W.isFn K (.ref f_Program_eq) = true)
    (i_Program_add : PySem.W.isFn K (.ref f_Program_add) = true)
    (i_Program_iadd : PySem.W.isFn K (.ref f_Program_iadd) = true)
    (i_Program_radd : PySem.W.isFn K (.ref f_Program_radd) = true)
    (hca_Program : PySem.W.findIn K (.ref c_Program) "__class__" = some (some (.builtin "object.__class__")))
    (hcn_Program : PySem.W.specialIn K (.builtin "object.__class__") "__get__" = some (some (.builtin "getset_descriptor.__get__")))
    (hct_Program : PySem.W.takesIn K (.builtin "object.__class__") = some true)
    (hcm_Program : PySem.W.mroIn K c_Program (.type "object") = some true)
    (ko_Program_list : PySem.W.kitOne K (.ref c_Program) (.type "list") = some false)
    (ko_Program_tuple : PySem.W.kitOne K (.ref c_Program) (.type "tuple") = some false)
    (sf_Program : PySem.W.selfFirst K c_Program = true)
    (or_Program_add : PySem.W.findIn K (.ref c_Program) "__radd__" = some (some (.ref ra_Program_add)))
    (ola_Program_add : PySem.W.findIn K (.type "list") "__add__" = some fl_Program_add)
    (olr_Program_add : PySem.W.findIn K (.type "list") "__radd__" = some rl_Program_add)
    (ols_Program_add : PySem.W.subIn K (.type "list") (.ref c_Program) = some false)
    (ota_Program_add : PySem.W.findIn K (.type "tuple") "__add__" = some ft_Program_add)
    (otr_Program_add : PySem.W.findIn K (.type "tuple") "__radd__" = some rt_Program_add)
    (ots_Program_add : PySem.W.subIn K (.type "tuple") (.ref c_Program) = some false)
    (no_Program__steps : PySem.W.findIn K (.ref c_Program) "_steps" = some none)
    (gc_BadStep : PySem.W.nsIn K mainGlobals "BadStep" = some (some (.ref c_BadStep)))
    (gc_WebError : PySem.W.nsIn K mainGlobals "WebError" = some (some (.ref c_WebError)))
    (gc_Refused : PySem.W.nsIn K mainGlobals "Refused" = some (some (.ref c_Refused)))
    (gc_NoThing : PySem.W.nsIn K mainGlobals "NoThing" = some (some (.ref c_NoThing)))
    (wb_WebError : PySem.W.subIn K (.ref c_WebError) (.type "BaseException") = some true)
    (wd_WebError : PySem.W.hasDictIn K c_WebError = true)
    (wt_WebError : PySem.W.typeIn K (.ref c_WebError) = some (.type "type"))
    (xz_super : PySem.W.nsIn K mainGlobals "super" = some none)
    (x_opq : PySem.W.nsIn K cStatics "thirdparty.any" = some none)
    (x_hn : PySem.W.specialIn K (.builtin "object.__class__") "__get__" = some (some (.builtin "getset_descriptor.__get__")))
    (x_ht : PySem.W.takesIn K (.builtin "object.__class__") = some true)
    (xl_BadStep : K.lookup c_BadStep = some (excClassObj nm_BadStep q_BadStep c_BadStep N_BadStep bs_BadStep [.ref c_WebError, .type "ValueError", .type "Exception", .type "BaseException", .type "object"] true sn_BadStep sub_BadStep ab_BadStep col_BadStep dd_BadStep m0_BadStep m1_BadStep m2_BadStep m3_BadStep m5_BadStep "ValueError.__new__"))
    (xsa_BadStep : PySem.W.findIn K (.ref c_BadStep) "__setattr__" = some (some (.builtin "object.__setattr__")))
    (xga_BadStep : PySem.W.findIn K (.ref c_BadStep) "__getattribute__" = some (some (.builtin "BaseException.__getattribute__")))
    (xgg_BadStep : PySem.W.findIn K (.ref c_BadStep) "__getattr__" = some none)
    (xno_BadStep : PySem.W.findIn K (.ref c_BadStep) "step" = some none)
    (xk_BadStep : PySem.W.keepIn K (.ref c_BadStep) = true)
    (xb_BadStep : PySem.W.subIn K (.ref c_BadStep) (.type "BaseException") = some true)
    (xt_BadStep : PySem.W.typeIn K (.ref c_BadStep) = some (.type "type"))
    (xd_BadStep : PySem.W.hasDictIn K c_BadStep = true)
    (xi_BadStep : PySem.W.findIn K (.ref c_BadStep) "__init__" = some (some (.ref f_BadStep)))
    (xf_BadStep : PySem.W.typeIn K (.ref f_BadStep) = some (.type "function"))
    (xfl_BadStep : K.lookup f_BadStep = some ⟨oc_BadStep, od_BadStep, .func (PySem.W.ksFn "__init__" "BadStep.__init__" (defArgs S_BadStep_init) (defBody S_BadStep_init) (defScope S_BadStep_init) .none kV_BadStep dc_BadStep pm_BadStep an_BadStep (.ref cda_BadStep) ct_BadStep cc_BadStep), osl_BadStep⟩)
    (xci_BadStep : PySem.W.codeIn K (.ref cda_BadStep) "BadStep.__init__" = true)
    (xcc_BadStep : K.lookup cc_BadStep = some ⟨cl_BadStep, cld_BadStep, .cell (some (.ref c_BadStep)), csl_BadStep⟩)
    (xcd_BadStep : K.lookup cda_BadStep = some ⟨ccl_BadStep, cdd_BadStep, .fields vs_BadStep, ccs_BadStep⟩)
    (xvs_BadStep : vs_BadStep[2]? = some (.str file_BadStep tf_BadStep))
    (xfi_BadStep : ((PP.main.file : Str) == file_BadStep) = true)
    (xnx_BadStep : PySem.W.ks_superIn K c_BadStep c_BadStep "__init__" = some (some (.builtin "ValueError.__init__")))
    (xsl_BadStep : PySem.W.mroIn K c_BadStep (.ref c_BadStep) = some true)
    (xsu_BadStep : PySem.W.subIn K (.ref c_BadStep) (.type "ValueError") = some true)
    (xha_BadStep : PySem.W.findIn K (.ref c_BadStep) "__class__" = some (some (.builtin "object.__class__")))
    (xhm_BadStep : PySem.W.mroIn K c_BadStep (.type "object") = some true)
    (ws_BadStep_WebError : PySem.W.subIn K (.ref c_BadStep) (.ref c_WebError) = some true)
    (kt_BadStep_Refused : PySem.W.kitOne K (.ref c_BadStep) (.ref c_Refused) = some false)
    (kt_BadStep_NoThing : PySem.W.kitOne K (.ref c_BadStep) (.ref c_NoThing) = some false)
    (kt_BadStep_BadStep : PySem.W.kitOne K (.ref c_BadStep) (.ref c_BadStep) = some true)
    (kt_BadStep_ValueError : PySem.W.kitOne K (.ref c_BadStep) (.type "ValueError") = some true)
    : ∃ fd : FuncData, (∀ (s : Shared) (v : Value), BindsTo s fd ⟨[v], []⟩ [("_law_script", v)]) ∧ ∀ base : Heap, K.In base → base.Ns mainGlobals mg → FnOk PP w K mg base CX0 16 fa fd ["_law_script"] (spLaw K) := by
  have e := hfa.symm.trans (PySem.W.mg_of X G a_law)
  cases e
  have XT_BadStep : PySem.WX.ExcTxt PP K mg "BadStep" "step" c_BadStep := { gC := PySem.W.mg_of X G gc_BadStep, cls := ⟨nm_BadStep, q_BadStep, N_BadStep, bs_BadStep, _, sn_BadStep, sub_BadStep, ab_BadStep, col_BadStep, dd_BadStep, m0_BadStep, m1_BadStep, m2_BadStep, m3_BadStep, m5_BadStep, xl_BadStep, rfl⟩, sa := xsa_BadStep, ga := xga_BadStep, gg := xgg_BadStep, noN := xno_BadStep, kC := xk_BadStep, exC := xb_BadStep, tyC := xt_BadStep, hdC := xd_BadStep, fI := f_BadStep, qual := "BadStep.__init__", tx := _, S := S_BadStep_init, oc := oc_BadStep, od := od_BadStep, kV := kV_BadStep, doc := dc_BadStep, pm := pm_BadStep, an := an_BadStep, cda := cda_BadStep, ct := ct_BadStep, osl := osl_BadStep, cc := cc_BadStep, cl := cl_BadStep, cld := cld_BadStep, csl := csl_BadStep, ccl := ccl_BadStep, cdd := cdd_BadStep, vs := vs_BadStep, ccs := ccs_BadStep, file := file_BadStep, tf := tf_BadStep, q1 := _, q2 := _, q3 := _, q4 := _, q5 := _, q6 := _, q7 := _, q8 := _, q9 := _, q10 := _, j := _, pl := _, iC := xi_BadStep, tI := xf_BadStep, lI := xfl_BadStep, cI := xci_BadStep, lcc := xcc_BadStep, lcd := xcd_BadStep, hvs := xvs_BadStep, hfile := xfi_BadStep, hpar := ⟨_, rfl, rfl⟩, hbody := rfl, hbind := fun _ _ => rfl, hev := fun _ _ => rfl, hk := rfl, hco := rfl, hgen := rfl, hks := rfl, hkc := rfl, hself := rfl, hfl := rfl, hcell := by decide +kernel, nf := by decide +kernel, top := by decide +kernel, sup := PySem.W.mg_none_of X G xz_super, opq := x_opq, nxt := xnx_BadStep, slf := xsl_BadStep, sub := xsu_BadStep }
  let T : Txt K mg := {
    a_sound_step := f_sound_step,
    fd_sound_step := _,
    F_sound_step := fun_mk (st := S_sound_step) l_sound_step c_sound_step k_sound_step,
    b_sound_step := (fun_mk (st := S_sound_step) l_sound_step c_sound_step k_sound_step).binds (ps := ["step"]) fun _ _ _ _ _ _ us hl => match us, hl with | [_], _ => rfl,
    g_sound_step := PySem.W.mg_of X G a_sound_step,
    a_Program_init := f_Program_init,
    fd_Program_init := _,
    F_Program_init := fun_mk (st := S_Program_init) l_Program_init c_Program_init k_Program_init,
    bs_Program_init := StX.bind_star1 (B := fun us => bindArgs (PySem.W.fnOf "__init__" "Program.__init__" (defArgs S_Program_init) (defBody S_Program_init) (defScope S_Program_init) .none kV_Program_init dc_Program_init pm_Program_init an_Program_init cd_Program_init ct_Program_init) ⟨us, []⟩) (fun a => rfl) (fun a r rs => rfl),
    a_Program_len := f_Program_len,
    fd_Program_len := _,
    F_Program_len := fun_mk (st := S_Program_len) l_Program_len c_Program_len k_Program_len,
    b_Program_len := (fun_mk (st := S_Program_len) l_Program_len c_Program_len k_Program_len).binds (ps := ["self"]) fun _ _ _ _ _ _ us hl => match us, hl with | [_], _ => rfl,
    a_Program_iter := f_Program_iter,
    fd_Program_iter := _,
    F_Program_iter := fun_mk (st := S_Program_iter) l_Program_iter c_Program_iter k_Program_iter,
    b_Program_iter := (fun_mk (st := S_Program_iter) l_Program_iter c_Program_iter k_Program_iter).binds (ps := ["self"]) fun _ _ _ _ _ _ us hl => match us, hl with | [_], _ => rfl,
    a_Program_eq := f_Program_eq,
    fd_Program_eq := _,
    F_Program_eq := fun_mk (st := S_Program_eq) l_Program_eq c_Program_eq k_Program_eq,
    b_Program_eq := (fun_mk (st := S_Program_eq) l_Program_eq c_Program_eq k_Program_eq).binds (ps := ["self", "other"]) fun _ _ _ _ _ _ us hl => match us, hl with | [_, _], _ => rfl,
    a_Program_add := f_Program_add,
    fd_Program_add := _,
    F_Program_add := fun_mk (st := S_Program_add) l_Program_add c_Program_add k_Program_add,
    b_Program_add := (fun_mk (st := S_Program_add) l_Program_add c_Program_add k_Program_add).binds (ps := ["self", "other"]) fun _ _ _ _ _ _ us hl => match us, hl with | [_, _], _ => rfl,
    a_Program_iadd := f_Program_iadd,
    fd_Program_iadd := _,
    F_Program_iadd := fun_mk (st := S_Program_iadd) l_Program_iadd c_Program_iadd k_Program_iadd,
    b_Program_iadd := (fun_mk (st := S_Program_iadd) l_Program_iadd c_Program_iadd k_Program_iadd).binds (ps := ["self", "other"]) fun _ _ _ _ _ _ us hl => match us, hl with | [_, _], _ => rfl,
    a_Program_radd := f_Program_radd,
    fd_Program_radd := _,
    F_Program_radd := fun_mk (st := S_Program_radd) l_Program_radd c_Program_radd k_Program_radd,
    b_Program_radd := (fun_mk (st := S_Program_radd) l_Program_radd c_Program_radd k_Program_radd).binds (ps := ["self", "other"]) fun _ _ _ _ _ _ us hl => match us, hl with | [_, _], _ => rfl,
    a__law_draws := f__law_draws,
    fd__law_draws := _,
    F__law_draws := fun_mk (st := S__law_draws) l__law_draws c__law_draws k__law_draws,
    b__law_draws := (fun_mk (st := S__law_draws) l__law_draws c__law_draws k__law_draws).binds (ps := ["_law_script"]) fun _ _ _ _ _ _ us hl => match us, hl with | [_], _ => rfl,
    g__law_draws := PySem.W.mg_of X G a__law_draws,
    a__law_take := f__law_take,
    fd__law_take := _,
    F__law_take := fun_mk (st := S__law_take) l__law_take c__law_take k__law_take,
    b__law_take := (fun_mk (st := S__law_take) l__law_take c__law_take k__law_take).binds (ps := ["_law_draws_here", "_law_at", "_law_size"]) fun _ _ _ _ _ _ us hl => match us, hl with | [_, _, _], _ => rfl,
    g__law_take := PySem.W.mg_of X G a__law_take,
    a__law_same := f__law_same,
    fd__law_same := _,
    F__law_same := fun_mk (st := S__law_same) l__law_same c__law_same k__law_same,
    b__law_same := (fun_mk (st := S__law_same) l__law_same c__law_same k__law_same).binds (ps := ["_law_actual", "_law_expected"]) fun _ _ _ _ _ _ us hl => match us, hl with | [_, _], _ => rfl,
    g__law_same := PySem.W.mg_of X G a__law_same,
    a__law_step := f__law_step,
    fd__law_step := _,
    F__law_step := fun_mk (st := S__law_step) l__law_step c__law_step k__law_step,
    b__law_step := (fun_mk (st := S__law_step) l__law_step c__law_step k__law_step).binds (ps := ["_law_draws_here", "_law_at"]) fun _ _ _ _ _ _ us hl => match us, hl with | [_, _], _ => rfl,
    g__law_step := PySem.W.mg_of X G a__law_step,
    a__law_bad_step := f__law_bad_step,
    fd__law_bad_step := _,
    F__law_bad_step := fun_mk (st := S__law_bad_step) l__law_bad_step c__law_bad_step k__law_bad_step,
    b__law_bad_step := (fun_mk (st := S__law_bad_step) l__law_bad_step c__law_bad_step k__law_bad_step).binds (ps := ["_law_draws_here", "_law_at", "_law_step_here"]) fun _ _ _ _ _ _ us hl => match us, hl with | [_, _, _], _ => rfl,
    g__law_bad_step := PySem.W.mg_of X G a__law_bad_step,
    a__law_is := f__law_is,
    fd__law_is := _,
    F__law_is := fun_mk (st := S__law_is) l__law_is c__law_is k__law_is,
    b__law_is := (fun_mk (st := S__law_is) l__law_is c__law_is k__law_is).binds (ps := ["_law_program", "_law_steps"]) fun _ _ _ _ _ _ us hl => match us, hl with | [_, _], _ => rfl,
    g__law_is := PySem.W.mg_of X G a__law_is,
    a__law_handed := f__law_handed,
    fd__law_handed := _,
    F__law_handed := fun_mk (st := S__law_handed) l__law_handed c__law_handed k__law_handed,
    b__law_handed := (fun_mk (st := S__law_handed) l__law_handed c__law_handed k__law_handed).binds (ps := ["_law_steps", "_law_lists"]) fun _ _ _ _ _ _ us hl => match us, hl with | [_, _], _ => rfl,
    g__law_handed := PySem.W.mg_of X G a__law_handed,
    a__law_sum := f__law_sum,
    fd__law_sum := _,
    F__law_sum := fun_mk (st := S__law_sum) l__law_sum c__law_sum k__law_sum,
    b__law_sum := (fun_mk (st := S__law_sum) l__law_sum c__law_sum k__law_sum).binds (ps := ["_law_form", "_law_program", "_law_row"]) fun _ _ _ _ _ _ us hl => match us, hl with | [_, _, _], _ => rfl,
    g__law_sum := PySem.W.mg_of X G a__law_sum,
    a__law_refused := f__law_refused,
    fd__law_refused := _,
    F__law_refused := fun_mk (st := S__law_refused) l__law_refused c__law_refused k__law_refused,
    b__law_refused := (fun_mk (st := S__law_refused) l__law_refused c__law_refused k__law_refused).binds (ps := ["_law_form", "_law_program", "_law_row"]) fun _ _ _ _ _ _ us hl => match us, hl with | [_, _, _], _ => rfl,
    g__law_refused := PySem.W.mg_of X G a__law_refused,
    a__law_in_place := f__law_in_place,
    fd__law_in_place := _,
    F__law_in_place := fun_mk (st := S__law_in_place) l__law_in_place c__law_in_place k__law_in_place,
    b__law_in_place := (fun_mk (st := S__law_in_place) l__law_in_place c__law_in_place k__law_in_place).binds (ps := ["_law_program", "_law_other", "_law_row", "_law_one", "_law_two"]) fun _ _ _ _ _ _ us hl => match us, hl with | [_, _, _, _, _], _ => rfl,
    g__law_in_place := PySem.W.mg_of X G a__law_in_place,
    a_law := fa,
    fd_law := _,
    F_law := fun_mk (st := S_law) l_law c_law k_law,
    b_law := (fun_mk (st := S_law) l_law c_law k_law).binds (ps := ["_law_script"]) fun _ _ _ _ _ _ us hl => match us, hl with | [_], _ => rfl,
    g_law := PySem.W.mg_of X G a_law,
    n_ValueError := PySem.W.mg_none_of X G z_ValueError,
    n_bool := PySem.W.mg_none_of X G z_bool,
    n_int := PySem.W.mg_none_of X G z_int,
    n_isinstance := PySem.W.mg_none_of X G z_isinstance,
    n_iter := PySem.W.mg_none_of X G z_iter,
    n_len := PySem.W.mg_none_of X G z_len,
    n_list := PySem.W.mg_none_of X G z_list,
    n_range := PySem.W.mg_none_of X G z_range,
    n_str := PySem.W.mg_none_of X G z_str,
    n_tuple := PySem.W.mg_none_of X G z_tuple,
    k_DEEDS := q_DEEDS,
    g_DEEDS := PySem.W.mg_of X G aq_DEEDS,
    q_DEEDS := fun H => .inr ⟨_, _, _, lq_DEEDS, rfl, rfl, by show 3 ≤ sizeLine; decide, (.cons ⟨_, rfl⟩ (.cons ⟨_, rfl⟩ (.cons ⟨_, rfl⟩ .nil)))⟩,
    sq_add := ⟨xla, xlr, xta, xtr⟩,
    c_Program := c_Program,
    g_Program := PySem.W.mg_of X G gc_Program,
    cl_Program := ⟨pg_Program, hd_Program, po_Program, sa_Program⟩,
    mk_Program := ⟨mk_Program, a_Program_init, i_Program_init, kc_Program⟩,
    m_Program_len := ⟨a_Program_len, i_Program_len, k_Program_len⟩,
    m_Program_iter := ⟨a_Program_iter, i_Program_iter, k_Program_iter⟩,
    m_Program_eq := ⟨a_Program_eq, i_Program_eq, k_Program_eq⟩,
    m_Program_add := ⟨a_Program_add, i_Program_add, k_Program_add⟩,
    m_Program_iadd := ⟨a_Program_iadd, i_Program_iadd, k_Program_iadd⟩,
    m_Program_radd := ⟨a_Program_radd, i_Program_radd, k_Program_radd⟩,
    ti_Program := fun _ _ _ _ h => .ins h ⟨pg_Program, hd_Program, po_Program, sa_Program⟩ hca_Program hcn_Program hct_Program hcm_Program,
    kk_Program := if_pos (beq_self_eq_true _),
    ko_Program_list := ko_Program_list,
    ko_Program_tuple := ko_Program_tuple,
    of_Program_add := ⟨sf_Program, a_Program_add, i_Program_add, ⟨_, or_Program_add, .inr ⟨_, rfl⟩⟩, ⟨_, _, ola_Program_add, olr_Program_add, ols_Program_add⟩, ⟨_, _, ota_Program_add, otr_Program_add, ots_Program_add⟩⟩,
    no_Program__steps := no_Program__steps,
    c_BadStep := c_BadStep,
    g_BadStep := PySem.W.mg_of X G gc_BadStep,
    c_WebError := c_WebError,
    g_WebError := PySem.W.mg_of X G gc_WebError,
    c_Refused := c_Refused,
    g_Refused := PySem.W.mg_of X G gc_Refused,
    c_NoThing := c_NoThing,
    g_NoThing := PySem.W.mg_of X G gc_NoThing,
    em_BadStep_WebError := PySem.W.exm_ref wb_WebError wd_WebError wt_WebError ws_BadStep_WebError,
    kt_BadStep_Refused := kt_BadStep_Refused,
    kt_BadStep_NoThing := kt_BadStep_NoThing,
    kt_BadStep_BadStep := kt_BadStep_BadStep,
    kt_BadStep_ValueError := kt_BadStep_ValueError,
    x_BadStep := XT_BadStep,
    xc_BadStep := ⟨xga_BadStep, xgg_BadStep, xb_BadStep, xd_BadStep, xha_BadStep, x_hn, x_ht, xhm_BadStep⟩,
    xn_BadStep := xno_BadStep }
  exact ⟨T.fd_law, fun s v => .of_eq rfl, fun base _ _ => ok_law T⟩
end My
open PySem PySem.W PyProof.Rows in
set_option maxRecDepth 100000 in
set_option maxHeartbeats 0 in
theorem PySem.Challenge.cw_weblocks_k15_program_sums_holds : PySem.Challenge.rw_weblocks_k15_program_sums.Holds := by
  w_on; o_law; k_head; (case hw => w_witness2)
  k_fill
  refine L2.walk_of (l := PySem.Challenge.rw_weblocks_k15_program_sums) (n := 63) (k := 16) (x := "_law_script") (CX := fun _ => L2.CX0) (sp := fun w => My.spLaw _) rfl (by decide) rfl ⟨rfl, by decide, by decide⟩ (fun w h Y => PySem.W.kIn_of Y) ?F (fun _ _ a ns hl _ hS => ⟨a, ns, rfl, hS, hl, fun _ => rfl⟩) (fun _ _ _ _ _ h => h)
  case F =>
    intro w mg fa h KX G hmg
    refine' My.all_mk KX G hmg ?gc_Program ?a_sound_step ?l_sound_step ?c_sound_step ?k_sound_step ?a_Program_init ?l_Program_init ?c_Program_init ?k_Program_init ?a_Program_len ?l_Program_len ?c_Program_len ?k_Program_len ?a_Program_iter ?l_Program_iter ?c_Program_iter ?k_Program_iter ?a_Program_eq ?l_Program_eq ?c_Program_eq ?k_Program_eq ?a_Program_add ?l_Program_add ?c_Program_add ?k_Program_add ?a_Program_iadd ?l_Program_iadd ?c_Program_iadd ?k_Program_iadd ?a_Program_radd ?l_Program_radd ?c_Program_radd ?k_Program_radd ?a__law_draws ?l__law_draws ?c__law_draws ?k__law_draws ?a__law_take ?l__law_take ?c__law_take ?k__law_take ?a__law_same ?l__law_same ?c__law_same ?k__law_same ?a__law_step ?l__law_step ?c__law_step ?k__law_step ?a__law_bad_step ?l__law_bad_step ?c__law_bad_step ?k__law_bad_step ?a__law_is ?l__law_is ?c__law_is ?k__law_is ?a__law_handed ?l__law_handed ?c__law_handed ?k__law_handed ?a__law_sum ?l__law_sum ?c__law_sum ?k__law_sum ?a__law_refused ?l__law_refused ?c__law_refused ?k__law_refused ?a__law_in_place ?l__law_in_place ?c__law_in_place ?k__law_in_place ?a_law ?l_law ?c_law ?k_law ?z_ValueError ?z_bool ?z_int ?z_isinstance ?z_iter ?z_len ?z_list ?z_range ?z_str ?z_tuple ?aq_DEEDS ?lq_DEEDS ?xla ?xlr ?xta ?xtr ?pg_Program ?hd_Program ?po_Program ?sa_Program ?kc_Program ?i_Program_init ?mk_Program ?i_Program_len ?i_Program_iter ?i_Program_eq ?i_Program_add ?i_Program_iadd ?i_Program_radd ?hca_Program ?hcn_Program ?hct_Program ?hcm_Program ?ko_Program_list ?ko_Program_tuple ?sf_Program ?or_Program_add ?ola_Program_add ?olr_Program_add ?ols_Program_add ?ota_Program_add ?otr_Program_add ?ots_Program_add ?no_Program__steps ?gc_BadStep ?gc_WebError ?gc_Refused ?gc_NoThing ?wb_WebError ?wd_WebError ?wt_WebError ?xz_super ?x_opq ?x_hn ?x_ht ?xl_BadStep ?xsa_BadStep ?xga_BadStep ?xgg_BadStep ?xno_BadStep ?xk_BadStep ?xb_BadStep ?xt_BadStep ?xd_BadStep ?xi_BadStep ?xf_BadStep ?xfl_BadStep ?xci_BadStep ?xcc_BadStep ?xcd_BadStep ?xvs_BadStep ?xfi_BadStep ?xnx_BadStep ?xsl_BadStep ?xsu_BadStep ?xha_BadStep ?xhm_BadStep ?ws_BadStep_WebError ?kt_BadStep_Refused ?kt_BadStep_NoThing ?kt_BadStep_BadStep ?kt_BadStep_ValueError
    (case gc_Program => k_is)
    (case a_sound_step => k_is)
    (case l_sound_step => k_is)
    (case c_sound_step => k_is)
    (case k_sound_step => k_is)
    (case a_Program_init => k_is)
    (case l_Program_init => k_is)
    (case c_Program_init => k_is)
    (case k_Program_init => k_is)
    (case a_Program_len => k_is)
    (case l_Program_len => k_is)
    (case c_Program_len => k_is)
    (case k_Program_len => k_is)
    (case a_Program_iter => k_is)
    (case l_Program_iter => k_is)
    (case c_Program_iter => k_is)
    (case k_Program_iter => k_is)
    (case a_Program_eq => k_is)
    (case l_Program_eq => k_is)
    (case c_Program_eq => k_is)
    (case k_Program_eq => k_is)
    (case a_Program_add => k_is)
    (case l_Program_add => k_is)
    (case c_Program_add => k_is)
    (case k_Program_add => k_is)
    (case a_Program_iadd => k_is)
    (case l_Program_iadd => k_is)
    (case c_Program_iadd => k_is)
    (case k_Program_iadd => k_is)
    (case a_Program_radd => k_is)
    (case l_Program_radd => k_is)
    (case c_Program_radd => k_is)
    (case k_Program_radd => k_is)
    (case a__law_draws => k_is)
    (case l__law_draws => k_is)
    (case c__law_draws => k_is)
    (case k__law_draws => k_is)
    (case a__law_take => k_is)
    (case l__law_take => k_is)
    (case c__law_take => k_is)
    (case k__law_take => k_is)
    (case a__law_same => k_is)
    (case l__law_same => k_is)
    (case c__law_same => k_is)
    (case k__law_same => k_is)
    (case a__law_step => k_is)
    (case l__law_step => k_is)
    (case c__law_step => k_is)
    (case k__law_step => k_is)
    (case a__law_bad_step => k_is)
    (case l__law_bad_step => k_is)
    (case c__law_bad_step => k_is)
    (case k__law_bad_step => k_is)
    (case a__law_is => k_is)
    (case l__law_is => k_is)
    (case c__law_is => k_is)
    (case k__law_is => k_is)
    (case a__law_handed => k_is)
    (case l__law_handed => k_is)
    (case c__law_handed => k_is)
    (case k__law_handed => k_is)
    (case a__law_sum => k_is)
    (case l__law_sum => k_is)
    (case c__law_sum => k_is)
    (case k__law_sum => k_is)
    (case a__law_refused => k_is)
    (case l__law_refused => k_is)
    (case c__law_refused => k_is)
    (case k__law_refused => k_is)
    (case a__law_in_place => k_is)
    (case l__law_in_place => k_is)
    (case c__law_in_place => k_is)
    (case k__law_in_place => k_is)
    (case a_law => k_is)
    (case l_law => k_is)
    (case c_law => k_is)
    (case k_law => k_is)
    (case z_ValueError => k_is)
    (case z_bool => k_is)
    (case z_int => k_is)
    (case z_isinstance => k_is)
    (case z_iter => k_is)
    (case z_len => k_is)
    (case z_list => k_is)
    (case z_range => k_is)
    (case z_str => k_is)
    (case z_tuple => k_is)
    (case aq_DEEDS => k_is)
    (case lq_DEEDS => k_is)
    (case xla => k_is)
    (case xlr => k_is)
    (case xta => k_is)
    (case xtr => k_is)
    (case pg_Program => k_is)
    (case hd_Program => k_is)
    (case po_Program => k_is)
    (case sa_Program => k_is)
    (case kc_Program => k_is)
    (case i_Program_init => k_is)
    (case mk_Program => k_is)
    (case i_Program_len => k_is)
    (case i_Program_iter => k_is)
    (case i_Program_eq => k_is)
    (case i_Program_add => k_is)
    (case i_Program_iadd => k_is)
    (case i_Program_radd => k_is)
    (case hca_Program => k_is)
    (case hcn_Program => k_is)
    (case hct_Program => k_is)
    (case hcm_Program => k_is)
    (case ko_Program_list => kit_is)
    (case ko_Program_tuple => kit_is)
    (case sf_Program => k_is)
    (case or_Program_add => k_is)
    (case ola_Program_add => k_is)
    (case olr_Program_add => k_is)
    (case ols_Program_add => k_is)
    (case ota_Program_add => k_is)
    (case otr_Program_add => k_is)
    (case ots_Program_add => k_is)
    (case no_Program__steps => k_is)
    (case gc_BadStep => k_is)
    (case gc_WebError => k_is)
    (case gc_Refused => k_is)
    (case gc_NoThing => k_is)
    (case wb_WebError => k_is)
    (case wd_WebError => k_is)
    (case wt_WebError => k_is)
    (case xz_super => k_is)
    (case x_opq => k_is)
    (case x_hn => k_is)
    (case x_ht => k_is)
    (case xl_BadStep => k_is)
    (case xsa_BadStep => k_is)
    (case xga_BadStep => k_is)
    (case xgg_BadStep => k_is)
    (case xno_BadStep => k_is)
    (case xk_BadStep => k_is)
    (case xb_BadStep => k_is)
    (case xt_BadStep => k_is)
    (case xd_BadStep => k_is)
    (case xi_BadStep => k_is)
    (case xf_BadStep => k_is)
    (case xfl_BadStep => k_is)
    (case xci_BadStep => k_is)
    (case xcc_BadStep => k_is)
    (case xcd_BadStep => k_is)
    (case xvs_BadStep => rfl)
    (case xfi_BadStep => first | rfl | decide +kernel)
    (case xnx_BadStep => ks_is)
    (case xsl_BadStep => k_is)
    (case xsu_BadStep => k_is)
    (case xha_BadStep => k_is)
    (case xhm_BadStep => k_is)
    (case ws_BadStep_WebError => k_is)
    (case kt_BadStep_Refused => kit_is)
    (case kt_BadStep_NoThing => kit_is)
    (case kt_BadStep_BadStep => kit_is)
    (case kt_BadStep_ValueError => kit_is)
#print axioms PySem.Challenge.cw_weblocks_k15_program_sums_holds
