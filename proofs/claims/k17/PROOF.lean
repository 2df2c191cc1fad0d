import PyProof.Rows.All
import Wide.All
import OpenK.AllK
import Wide.FinOn
import HandS.ForMost
import KE.GoesMore
import HandS.Codes
import HandS.IsInst
import HandS.Defaults
import HandS.MakeKw
import HandS.MakeKwOnly
import HandS.SlotsOwn
import HandS.ForExc
import HandS.ExcIs
import HandS.ExcField
import HandS.CallSlots
import KE.KExcIs
import KE.KExcSuper
import KE.KExcMake
import KE.RegKSuper
import HandS.ClsMeth
import KE.KCallOwn
import HandS.IterVal
import KE.KOwnIter
import HandS.Star
import KE.KOpsOwn
import HandS.Property
import KE.KStar
import HandS.Text
import HandS.StrMore
import HandS.Steps
import HandS.FStr
import PyProof.StrLawsChain
import PyProof.Rows.StrItems
import PyProof.Rows.StrSplitAre
import KE.IntTextText
import HandS.Iter
import PySem.Challenge.RW_weblocks_k17_program_texts
set_option Elab.async false
set_option linter.all false
set_option maxRecDepth 100000
set_option maxHeartbeats 4000000
local macro_rules | `(tactic| walk_at "sd") => `(tactic| first | assumption | omega | decide | rfl | (refine And.intro ?_ ?_ <;> walk_at "sd") | (show _ < PySem.sizeLine; exact Nat.lt_of_le_of_lt (by omega : _ ≤ 100000) (by decide)) | (show _ ≤ PySem.sizeLine; exact Nat.le_trans (by omega : _ ≤ 100000) (by decide)))
local macro_rules | `(tactic| walk_at "hl") => `(tactic| first | assumption | exact L2.upd_same | (refine (L2.upd_ne ?_).trans ?_; (walk_at "ne"); (walk_at "hl")))
local macro_rules | `(tactic| walk_at "ne") => `(tactic| first | assumption | (apply Ne.symm; assumption) | (refine L2.ne_of_none ?_ (by assumption); walk_at "hl") | (apply Ne.symm; refine L2.ne_of_none ?_ (by assumption); walk_at "hl") | (refine L2.ne_of (o := L2.HO.lst _) (u := L2.HO.tup _) ?_ ?_ (by intro z; cases z) <;> walk_at "hl"))
local macro_rules | `(tactic| walk_at "sq") => `(tactic| first | assumption | exact .inl (.inl (by walk_at "hl")) | exact .inl (.inl (.inl (by walk_at "hl"))) | exact .inr (.inl (.inl (by walk_at "hl"))) | exact .inl (by assumption) | exact .inr (by assumption))
local macro_rules | `(tactic| walk_at "at") => `(tactic| first | assumption | exact rfl | exact L2.atI_nat (j := 0) rfl | exact L2.atI_nat (j := 1) rfl | exact L2.atI_nat (j := 2) rfl | exact L2.atI_nat (j := 3) rfl | exact L2.atI_nat rfl | exact L2.atI_nat (by assumption))
local macro_rules | `(tactic| walk_at "r1") => `(tactic| first
  | (refine ⟨_, rfl, ?_⟩)
  | (refine ⟨_, _, rfl, rfl, ?_⟩)
  | (refine ⟨_, _, _, _, rfl, rfl, (by walk_at "sq"), (by walk_at "at"), ?_⟩)
  | (refine ⟨_, _, rfl, (by walk_at "sq"), ?_⟩)
  | (refine ⟨.inl ⟨rfl, _, L2.SqL.of (by walk_at "hl")⟩, ?_⟩)
  | (refine ⟨_, _, _, rfl, rfl, (by walk_at "hl"), (by walk_at "sd"), ?_⟩)
  | (refine ⟨_, _, _, _, rfl, rfl, (by walk_at "hl"), rfl, ?_⟩)
  | (refine And.intro (by walk_at "sd") ?_)
  | (refine .inl ⟨_, rfl, ?_⟩))
local macro_rules | `(tactic| walk_at "rd") => `(tactic| repeat walk_at "r1")
/-! ### enumerate over a tuple -/
namespace PySem
open AutoSeq1 (wpAny_loadPart')
set_option maxHeartbeats 1000000 in
theorem meets_enumerate_newT (l : Addr) (items : Array Value) :
    Meets (Builtin.«enumerate.__new__» ⟨[.type "enumerate", .ref l], []⟩) (fun _ R s => s.heap.IsTuple l items ∧
      R (.ok (.ret (.ref (s.heap.push { cls := .type "tuple_iterator", data := .fields #[.ref l, .int 0 0] }).objs.size)))
        { s with heap := (s.heap.push { cls := .type "tuple_iterator", data := .fields #[.ref l, .int 0 0] }).push { cls := .type "enumerate", data := .fields #[.none, .bool false, .ref s.heap.objs.size, rawInt 0, .none, .none] } }) :=
  .of_wp fun prog w A R s h => by
    obtain ⟨hp, g, d, tk, os⟩ := s; obtain ⟨hL, h⟩ := h
    have hsub := sub_enumerate
    wp_walk using wpAny_pyIter_tuple hL
    refine wpAny_stack_any fun st => wpAny_pure ?_
    split
    · rename_i c _ _ _ _ _
      cases (c == Value.type "enumerate")
      · wp_walk using wpAny_pyIter_tuple hL
        exact ⟨_, rfl, h⟩
      · wp_walk using wpAny_pyIter_tuple hL
        exact ⟨_, rfl, h⟩
    · wp_walk using wpAny_pyIter_tuple hL
      exact ⟨_, rfl, h⟩
section
variable {prog : Program} {w : World} {A : Around} {E : Value → Shared → Prop} {s : Shared}
theorem call_enumerate_tup {l : Addr} {items : Array Value} {Q : Value → Shared → Prop} (hL : s.heap.IsTuple l items)
    (h : ∀ h', IsEnum h' (s.heap.objs.size + 1) s.heap.objs.size 0 .none → h'.IsTupleIter s.heap.objs.size l 0 → h'.objs.size = s.heap.objs.size + 2 →
      (∀ b o, s.heap.get? b = some o → h'.get? b = some o) → Q (.ref (s.heap.objs.size + 1)) { s with heap := h' }) :
    wpAny (model prog w) A (call (.type "enumerate") [.ref l]) Q E s := by
  refine callType_new F.called_enumerate (by decide) (F.typeCall_enumerate_1 _) (F.newCall_enumerate_1 _) (fun obj => F.args_object_init_2 obj _) F.entry_enumerate_new
    (meets_enumerate_newT l items) ⟨hL, ?_⟩
  have hz : (s.heap.push { cls := .type "tuple_iterator", data := .fields #[.ref l, .int 0 0] }).objs.size = s.heap.objs.size + 1 := Heap.size_push ..
  show _ ∧ _
  rw [hz]
  have he : IsEnum ((s.heap.push { cls := .type "tuple_iterator", data := .fields #[.ref l, .int 0 0] }).push
      { cls := .type "enumerate", data := .fields #[.none, .bool false, .ref s.heap.objs.size, rawInt 0, .none, .none] }) (s.heap.objs.size + 1) s.heap.objs.size 0 .none := by
    have := Heap.get?_push_size (s.heap.push { cls := .type "tuple_iterator", data := .fields #[.ref l, .int 0 0] })
      (o := { cls := .type "enumerate", data := .fields #[.none, .bool false, .ref s.heap.objs.size, rawInt 0, .none, .none] }) rfl
    rw [hz] at this; exact this
  refine ⟨⟨_, he, rfl⟩, h _ he ⟨_, Heap.get?_push_of_some _ (Heap.get?_push_size _ rfl), rfl, rfl⟩ (by rw [Heap.size_push, hz]) fun b o x => Heap.get?_push_of_some _ (Heap.get?_push_of_some _ x)⟩
/-- next of an enumerate whose tuple is at its end -/
theorem wpAny_pyNext_enum_endU {e it l : Addr} {i : Nat} {items : Array Value} {old : Value} {Q : Option Value → Shared → Prop} (hh : A.handled = none) (he : IsEnum s.heap e it i old)
    (hit : s.heap.IsTupleIter it l i) (hl : s.heap.IsTuple l items) (hx : items[i]? = none) (hQ : ∀ h', Heap.ExtBut it s.heap h' → Q none { s with heap := h' }) : wpAny (model prog w) A (pyNext (.ref e)) Q E s := by
  have hT : s.TypeIs (.ref e) "enumerate" := ⟨_, he, rfl⟩
  unfold pyNext
  refine wpAny_bind (wpAny_attempt (wpAny_callSpecial?_slot (name := Str.ofString "__next__") hT F.slot_enumerate_next (wpAny_call_entry F.slot_enumerate_next hT F.entry_enumerate_next ?_ (F.args_enumerate_next_1 _))))
  show wpAny _ _ (field (.ref e) 2 >>= _) _ _ _
  refine wpAny_bind (wpAny_field he rfl (x := .ref it) rfl (wpAny_bind (wpAny_nextOf_tuple_end hh hit hl hx fun h' x he' ⟨o, ho, hc⟩ => ?_)))
  exact wpAny_bind (wpAny_isInstance (T := "StopIteration") (b := true) ⟨o, ho, hc⟩ isSubtype_stop (wpAny_pure (hQ _ he')))
end
end PySem
namespace L2
open PySem PySem.Spec PyProof.Rows
/-- the tuple at a, each item in a new pair -/
def ItuE (K : PySem.W.Frag) (a : Addr) : It :=
  ⟨fun i H => ∃ (xs : List V) (x : V), SqT K H a xs ∧ xs[i]? = some x, fun i H v H' => ∃ T x, v = .ref T ∧ H T = none ∧ H' = upd H T (.tup [.int (i : Nat), x]) ∧ ∀ xs, SqT K H a xs → xs[i]? = some x, fun i H => ∃ xs : List V, SqT K H a xs ∧ xs.length ≤ i⟩
theorem turn_enumT {P : Program} {w : World} {K : PySem.W.Frag} {elts : List Expr} {kk : Nat} {tpos : Pos} (a e it : Addr) :
    Turn P w K (.Tuple elts kk tpos) (ItuE K a) [e, it] e (fun i h => (∃ old, IsEnum h e it ((i : Nat) : Int) old) ∧ h.IsTupleIter it a i ∧ e ≠ it ∧ a ≠ it ∧ a ≠ e) where
  mem := by simp
  obj := fun i h st b hb => by
    obtain ⟨⟨old, he⟩, ⟨o, ho, hc, hd⟩, _⟩ := st
    have e' : b = e ∨ b = it := by simpa using hb
    rcases e' with z | z
    · rw [z]; exact ⟨_, he, fun v q => nomatch q⟩
    · rw [z]; exact ⟨o, ho, fun v q => by rw [hd] at q; cases q⟩
  keep := fun i h h' st k => let ⟨⟨old, he⟩, hi, hne⟩ := st; ⟨⟨old, k e (by simp) _ he⟩, hi.at fun o q => k it (by simp) o q, hne⟩
  item := by
    intro X hP hw hK hc i pins s σ H E I hf st hg
    subst hP hw hK
    obtain ⟨⟨old, he⟩, hit, hne, hai, hae⟩ := st
    obtain ⟨xs, x, hq, hx⟩ := hg
    obtain ⟨its, rv, p, hz⟩ := I.tuple hq
    obtain ⟨u, hu, ru⟩ := rv.get hx
    have hel : e < s.heap.objs.size := Heap.lt_size he
    have hil : it < s.heap.objs.size := by obtain ⟨_, q, _⟩ := hit; exact Heap.lt_size q
    have hlen : i < its.toArray.size := by
      have := (List.getElem?_eq_some_iff.mp hu).1
      simpa using this
    have hT0 : s.heap.IsTuple a its.toArray := p
    refine wpAny_pyNext_enum_itemD (Draws.tuple (prog := X.prog) (w := X.w) (A := X.A.in1) (show X.A.in1.handled = none from I.ok.hd hc) it a hai its.toArray) he ⟨hit, hT0⟩ hlen hne (by simp [hne, Ne.symm hae]) fun y h' tk hy ho hst' hT hsz hk => ?_
    have ey : y = u := by
      have q : its[i]? = some y := by simpa using hy
      exact Option.some.inj (q.symm.trans hu)
    subst ey
    obtain ⟨hit', _⟩ := hst'
    refine ⟨_, rfl, wpAny_letOwnedTupleGo_enum (s := { s with heap := h', toks := tk + 1 }) ho fun h'' he' sb => ?_⟩
    have hT2 : h''.get? s.heap.objs.size = some { cls := .type "tuple", data := .seq #[.int i tk, y] } := (sb.2 _ (Nat.ne_of_gt hel)).trans hT
    have new : ObjOk X.prog X.w (upd H s.heap.objs.size (.tup [.int (i : Nat), x])) h'' s.heap.objs.size (.tup [.int (i : Nat), x]) :=
      ⟨by show 2 ≤ sizeLine; decide, [.int i tk, y], .cons ⟨_, rfl⟩ (.cons ru .nil), ⟨_, hT2, rfl, _, rfl⟩⟩
    have I1 : Inv X pins σ (upd H s.heap.objs.size (.tup [.int (i : Nat), x])) { s with heap := h'', toks := tk + 1 } :=
      I.turnedNew (ch := [e, it]) (fun b ob hb q => (sb.2 b (fun z => hb (by simp [z]))).trans (hk b ob (fun z => hb (by simp [z])) (fun z => hb (by simp [z])) q)) hf (Nat.le_refl _) new
    refine ⟨.ref s.heap.objs.size, _, I1, rfl, ⟨_, x, rfl, I.hok.fresh (Nat.le_refl _), rfl, fun ys hy => by rw [I.tuple_inj hy hq]; exact hx⟩, ⟨⟨y, ?_⟩, hit'.at fun o q => (sb.2 it (Ne.symm hne)).trans q, hne, hai, hae⟩, fun b hb => ?_⟩
    · have e1 : ((i + 1 : Nat) : Int) = (i : Int) + 1 := by omega
      rw [e1]; exact he'
    · have hb' : b < s.heap.objs.size := by
        have e' : b = e ∨ b = it := by simpa using hb
        rcases e' with z | z
        · rw [z]; exact hel
        · rw [z]; exact hil
      rw [upd_ne (Nat.ne_of_lt hb')]
      exact (hf b hb).1
  done := by
    intro X hP hw hK hc i pins s σ H E I hf st hg
    subst hP hw hK
    obtain ⟨⟨old, he⟩, hit, hne, hai, hae⟩ := st
    obtain ⟨xs, hq, hx⟩ := hg
    obtain ⟨its, rv, p, hz⟩ := I.tuple hq
    obtain ⟨f0, f1, f2, f3, f4, f5⟩ := hf it (by simp)
    have hl := rv.length
    have hT0 : s.heap.IsTuple a its.toArray := p
    exact wpAny_pyNext_enum_endU (I.ok.hd hc) he hit hT0 (by simp; omega) fun h' eb => ⟨rfl, I.turned (t' := s.toks) (fun b o hb q => eb b o hb q) f0 f1 f3 f4 f5⟩
  self := fun A i s Q E st h => let ⟨⟨_, he⟩, _⟩ := st; wpAny_pyIter_enum he h
def iEnumT (K : PySem.W.Frag) (ta : TA) : TI := fun σ H R => ta σ H fun vs H1 => ∃ a xs, vs = [.ref a] ∧ SqT K H1 a xs ∧ R (ItuE K a) H1
theorem pi_enumT {X : Cx} {e : Expr} {ta : TA} {p pos tpos : Pos} {elts : List Expr} {kk : Nat} (hg : Gl X "enumerate") (hm : X.mg "enumerate" = none) (ha : PA X [e] ta) (hs : starEach [e] X.env = [(false, eval e X.env)] := by rfl) :
    PI X (.Tuple elts kk tpos) (.Call (.Name "enumerate" p) [e] [] pos) (iEnumT X.K ta) := by
  refine ⟨fun pins s σ H R I h => ?_⟩
  refine Call_ (ld_blt I hg hm boot_enumerate (PyProof.Rows.callWith_type1 (thn (ha.run pos pins s σ H _ I h) fun us s1 ⟨vs, H1, I1, r1, q1⟩ => ?_) hs rfl))
  obtain ⟨a, xs, ex, hq, q⟩ := q1
  subst ex
  cases r1 with
  | cons r rr =>
    cases rr
    cases r
    obtain ⟨its, rv, p', hz⟩ := I1.tuple hq
    have hT0 : s1.heap.IsTuple a its.toArray := p'
    have hal : a < s1.heap.objs.size := by obtain ⟨_, q, _⟩ := hT0; exact Heap.lt_size q
    refine call_enumerate_tup hT0 fun h' he hit hsz hk => wpAny_pyIter_enum he ?_
    have I2 : Inv X pins σ H1 { s1 with heap := h' } := I1.kept (t' := s1.toks) hk
    refine ⟨s1.heap.objs.size + 1, [s1.heap.objs.size + 1, s1.heap.objs.size], _, _, H1, rfl, I2, turn_enumT a (s1.heap.objs.size + 1) s1.heap.objs.size, ⟨⟨.none, he⟩, hit, Nat.succ_ne_self _, Nat.ne_of_lt hal, Nat.ne_of_lt (Nat.lt_succ_of_lt hal)⟩, fun b hb => ?_, q⟩
    have e' : b = s1.heap.objs.size + 1 ∨ b = s1.heap.objs.size := by simpa using hb
    have hle : s1.heap.objs.size ≤ b := by
      rcases e' with z | z
      · rw [z]; exact Nat.le_add_right _ _
      · rw [z]; exact Nat.le_refl _
    exact I1.fpOk hle (I1.hok.fresh hle)
end L2
namespace L2
open PySem PySem.Spec PyProof.Rows
theorem for_enumT {K : PySem.W.Frag} {a : Addr} {xs : List V} {g : TG} {tb : TS} {D : Ends} {σ : St} {H : Hp} (Pv : Nat → St → Hp → Prop) (h0 : Pv 0 σ H) (hl : ∀ i σ H, i ≤ xs.length → Pv i σ H → SqT K H a xs)
    (hs : ∀ i x σ H T, xs[i]? = some x → Pv i σ H → H T = none → g (.ref T) σ (upd H T (.tup [.int (i : Nat), x])) fun σ2 H2 => tb { D with nx := Pv (i + 1), ct := Pv (i + 1), bk := D.nx } σ2 H2)
    (hd : ∀ σ H, Pv xs.length σ H → D.nx σ H) :
    ∃ W : Nat → Nat → St → Hp → Prop, (∃ m, W 0 m σ H) ∧ ∀ i m σ H, W i m σ H →
      ((ItuE K a).stop i H ∧ D.nx σ H) ∨ ((ItuE K a).go i H ∧ ∃ N : St → Hp → Prop, (∀ σ' H', N σ' H' → ∃ m', m' < m ∧ W (i + 1) m' σ' H') ∧ ∀ x H', (ItuE K a).yld i H x H' → g x σ H' fun σ2 H2 => tb { D with nx := N, ct := N, bk := D.nx } σ2 H2) := by
  refine ⟨fun i m σ H => m = xs.length - i ∧ i ≤ xs.length ∧ Pv i σ H, ⟨xs.length, by simp, Nat.zero_le _, h0⟩, fun i m σ H hW => ?_⟩
  obtain ⟨em, hi, p⟩ := hW
  have q := hl i σ H hi p
  by_cases hlt : i < xs.length
  · refine .inr ⟨⟨xs, xs[i], q, List.getElem?_eq_getElem hlt⟩, Pv (i + 1), fun σ' H' p' => ⟨xs.length - (i + 1), by omega, rfl, hlt, p'⟩, fun x H' y => ?_⟩
    obtain ⟨T, x', ev, nT, eH, hx⟩ := y
    subst ev eH
    exact hs i x' σ H T (hx xs q) p nT
  · have ei : i = xs.length := by omega
    subst ei
    exact .inl ⟨⟨xs, q, Nat.le_refl _⟩, hd σ H p⟩
end L2

namespace L2
open PySem PySem.Spec PyProof.Rows
/-! ### o.m(e, .., k = v, ..) -/
def tMethN (C : Addr) (m : Str) (n j : Nat) (sp : Sp) (gV : List V → List V → List V) (E : XK) (ta : TE) (t tk : TA) : TE := fun σ H Q => ta σ H fun x H1 => ∃ a dx fs, x = .ref a ∧ H1 a = some (.ins C dx fs) ∧ fs.lookup m = none ∧
  t σ H1 fun vs H2 => tk σ H2 fun zs H3 => vs.length + 1 = n ∧ zs.length = j ∧ sp (gV (x :: vs) zs) H3 Q E
section
variable {X : Cx} {CX : CXT} {k n : Nat} {f C : Addr} {fd : FuncData} {ps ks : List Str} {sp : Sp} {E : XK} {m : Str} {pos apos : Pos} {e o : Expr} {es : List Expr} {kws : List Keyword} {ta : TE} {t tk : TA} {g : List Value → List Value → List Value} {gV : List V → List V → List V}
theorem pe_methN {pl : Sem Bool} (he : PE X o ta) (c : Cls X.K C) (hm : Meth X.K C m f) (F : FnOk X.prog X.w X.K X.mg X.base CX k f fd ps sp) (hr : Room k X.A) (hb : KBn X.K fd ps n ks g gV) (hx : Passes CX X E) (ha : PA X (e :: es) t) (hkw : PK X kws tk)
    (hall : (backToKw pos (keywordEach kws X.env)).all (·.1.isSome) = true := by rfl) (hks : (backToKw pos (keywordEach kws X.env)).filterMap (·.1) = ks := by rfl)
    (hst : starEach (e :: es) X.env = (false, eval e X.env) :: starEach es X.env := by rfl)
    (hpl : ((backTo pos (starEach (e :: es) X.env)).any (·.1) || (backToKw pos (keywordEach kws X.env)).any (·.1.isNone)) = false := by rfl)
    (ht : eval (.Call (.Attribute o m apos) (e :: es) kws pos) X.env = (do
      let ov ← eval o X.env
      standAt apos.atName
      let (f, first) ← holding [ov] (getMethod ov m pl)
      callWith pos f first (backTo pos (starEach (e :: es) X.env)) (backToKw pos (keywordEach kws X.env))) := by rfl) :
    PE X (.Call (.Attribute o m apos) (e :: es) kws pos) (tMethN C m n ks.length sp gV E ta t tk) := by
  refine ⟨fun pins s σ H Q I h => PySem.W.methodCall_KW (pl := pl) (thn (he.run pins s σ H _ I h) fun u s1 ⟨x, H1, I1, rx, a, dx, fs, ex, ea, l, q⟩ => ?_) ht⟩
  subst ex
  obtain rfl : u = Value.ref a := rx
  refine getmeth_ok I1 ea c hm l ?_
  refine PySem.W.callWith_KW (first := [.ref a]) (h₀ := X.base) I.ok.mod.kin hm.kp hall (thn (ha.run pos pins s1 σ H1 _ I1 q) fun us s2 ⟨vs, H2, I2, r, q2⟩ => ?_) hpl hst
  refine thn (hkw.run pos pins s2 σ H2 _ I2 q2) fun ws s3 ⟨zs, H3, I3, rz, l1, l2, q3⟩ => ⟨I3.kIn, ?_⟩
  rw [hks]
  exact run_fnN (us := .ref a :: us) (vs := .ref a :: vs) F hr hb hx I3 (.cons rfl r) rz l1 l2 q3
end
section
variable {P : Program} {w : World} {K : PySem.W.Frag} {mg : Str → Option Value} {base : Heap} {x qual : Str} {params : Arguments} {body : List Stmt} {scope : Scope} {dvs : List V} {kws : List (Str × V)} {f : Addr} {fd : FuncData}
/-- a def with defaults that lets nothing out -/
theorem FunD.ok0 {N ps : List Str} {k : Nat} {sp : Sp} (F : FunD K x qual params body scope dvs kws f fd) (S : FnScope N ps scope) (len : ∀ vs H Q E, sp vs H Q E → vs.length = ps.length)
    (hb : ∀ (cdv : Value) (A : Around) (outer : List Env) (s : Shared) (H : Hp) (vs : List V) (Q : VK) (E : XK), Room k (A.deeper (envOfC qual scope s.heap.objs.size f cdv)) → sp vs H Q E →
      ∃ t, PSs (cxOf CX0 P w K mg base N qual scope f cdv A outer s H E).nox body t ∧ t { nx := fun _ H' => Q .non H', rt := Q } (start N vs) H) : FnOk P w K mg base CX0 (k + 1) f fd ps sp :=
  F.ok S len fun cdv A outer s H vs Q E hr h => (hb cdv A outer s H vs Q E hr h).elim fun t ⟨h1, h2⟩ => ⟨t, h1.nox, h2⟩
end
end L2

namespace L2
open PySem PySem.Spec PyProof.Rows
/-! ### x op y by an own def of the class of both -/
def rOwnI (C : Addr) (sp : Sp) (E : XK) : R2 := fun x y H Q => ∃ a dx fs b dy gs, x = .ref a ∧ y = .ref b ∧ H a = some (.ins C dx fs) ∧ H b = some (.ins C dy gs) ∧ sp [x, y] H Q E
section
variable {X : Cx} {CX : CXT} {n : Nat} {C g : Addr} {fd : FuncData} {ps : List Str} {sp : Sp} {E : XK}
theorem op_cmpI {op : CmpOp} (hop : ∀ a b, compareOp op a b = richCompare op a b) (hs : PySem.W.findIn X.K (.ref C) (cmpInfo op).2.1 = some (some (.ref g))) (hf : PySem.W.isFn X.K (.ref g) = true)
    (F : FnOk X.prog X.w X.K X.mg X.base CX n g fd ps sp) (hr : Room n X.A) (hb : Binds X.K fd ps []) (hx : Passes CX X E) : OpR X (compareOp op) (rOwnI C sp E) := by
  intro pins s σ H x y v u Q I rx ry h
  obtain ⟨a, dx, fs, b, dy, gs, rfl, rfl, ha, hb', q⟩ := h
  cases rx
  cases ry
  obtain ⟨mA, J, _⟩ := ins_get I.hok ha
  obtain ⟨mB, J', _⟩ := ins_get I.hok hb'
  obtain ⟨od, J, _⟩ := J.look
  obtain ⟨od', J', _⟩ := J'.look
  obtain ⟨m, hF⟩ := I.fr
  rw [hop]
  refine PySem.W.cmp_K (op := op) (tb := .ref C) hr.units0 hF I.ok.mod.kin J J'.type (by simp [PySem.W.notFirst]) hs hf ?_
  refine wpAny_mono (run_fn (us := [.ref a, .ref b]) (vs := [.ref a, .ref b]) (dvs := []) F hr hb .nil hx I (.cons rfl (.cons rfl .nil)) q) (fun w s' z => ?_) fun _ _ x => x
  obtain ⟨z', H', I', rz, qz⟩ := z
  exact SlX.cmpback rz ⟨z', H', I', rz, qz⟩
theorem op_binI {op : Operator} (hc : PySem.W.selfFirst X.K C = true) (hs : PySem.W.findIn X.K (.ref C) (PySem.dunder op.info.2) = some (some (.ref g))) (hf : PySem.W.isFn X.K (.ref g) = true)
    (F : FnOk X.prog X.w X.K X.mg X.base CX n g fd ps sp) (hr : Room n X.A) (hb : Binds X.K fd ps []) (hx : Passes CX X E) : OpR X (binaryOp op) (rOwnI C sp E) := by
  intro pins s σ H x y v u Q I rx ry h
  obtain ⟨a, dx, fs, b, dy, gs, rfl, rfl, ha, hb', q⟩ := h
  cases rx
  cases ry
  obtain ⟨mA, J, _⟩ := ins_get I.hok ha
  obtain ⟨mB, J', _⟩ := ins_get I.hok hb'
  obtain ⟨od, J, _⟩ := J.look
  obtain ⟨od', J', _⟩ := J'.look
  obtain ⟨m, hF⟩ := I.fr
  refine PySem.W.binop_K (op := op) hF I.ok.mod.kin J J'.type hc hs hf ?_
  refine wpAny_mono (run_fn (us := [.ref a, .ref b]) (vs := [.ref a, .ref b]) (dvs := []) F hr hb .nil hx I (.cons rfl (.cons rfl .nil)) q) (fun w s' z => ?_) fun _ _ x => x
  obtain ⟨z', H', I', rz, qz⟩ := z
  exact SlX.cmpback rz ⟨z', H', I', rz, qz⟩
end
end L2

/-! ### errors whose __init__ says super().__init__(text) and stores one field -/
namespace PySem
namespace WX
open PySem.W PySem.Calls PyProof.Rows PySem.HandSPX
def iB (fl tx : Str) (q1 q2 q3 q4 q5 q6 q7 q8 q9 q10 : Pos) (j : Nat) : List Stmt :=
  [.Expr (.Call (.Attribute (.Call (.Name "super" q1) [] [] q2) "__init__" q3) [.Constant (.str tx) j q4] [] q5) q6, .Assign [.Attribute (.Name "self" q7) fl q8] (.Name fl q9) q10]
/-- what the top has written of the class cn, at C, and of its __init__, at fI -/
structure ExcTxt (P : Program) (K : Frag) (mg : Str → Option Value) (cn fl : Str) (C : Addr) where
  gC : mg cn = some (.ref C)
  cls : ∃ nm q N bs bm sn sub ab col dd k0 k1 k2 k3 k5, K.lookup C = some (excClassObj nm q C N bs bm true sn sub ab col dd k0 k1 k2 k3 k5 "ValueError.__new__") ∧ refsVE bm = true
  sa : findIn K (.ref C) "__setattr__" = some (some (.builtin "object.__setattr__"))
  ga : findIn K (.ref C) "__getattribute__" = some (some (.builtin "BaseException.__getattribute__"))
  gg : findIn K (.ref C) "__getattr__" = some none
  noN : findIn K (.ref C) fl = some none
  kC : keepIn K (.ref C) = true
  exC : subIn K (.ref C) (.type "BaseException") = some true
  tyC : typeIn K (.ref C) = some (.type "type")
  hdC : hasDictIn K C = true
  fI : Addr
  qual : Str
  tx : Str
  S : Stmt
  oc : Value
  od : Option Addr
  kV : Value
  doc : Value
  pm : Value
  an : Option Addr
  cda : Addr
  ct : Value
  osl : Array (Option Value)
  cc : Addr
  cl : Value
  cld : Option Addr
  csl : Array (Option Value)
  ccl : Value
  cdd : Option Addr
  vs : Array Value
  ccs : Array (Option Value)
  file : Str
  tf : Tok
  q1 : Pos
  q2 : Pos
  q3 : Pos
  q4 : Pos
  q5 : Pos
  q6 : Pos
  q7 : Pos
  q8 : Pos
  q9 : Pos
  q10 : Pos
  j : Nat
  pl : Sem Bool
  iC : findIn K (.ref C) "__init__" = some (some (.ref fI))
  tI : typeIn K (.ref fI) = some (.type "function")
  lI : K.lookup fI = some ⟨oc, od, .func (ksFn "__init__" qual (L2.defArgs S) (L2.defBody S) (L2.defScope S) .none kV doc pm an (.ref cda) ct cc), osl⟩
  cI : codeIn K (.ref cda) qual = true
  lcc : K.lookup cc = some ⟨cl, cld, .cell (some (.ref C)), csl⟩
  lcd : K.lookup cda = some ⟨ccl, cdd, .fields vs, ccs⟩
  hvs : vs[2]? = some (.str file tf)
  hfile : ((P.main.file : Str) == file) = true
  hpar : ∃ ar : Arg, ((L2.defArgs S).posonlyargs ++ (L2.defArgs S).args).head? = some ar ∧ ar.arg = "self"
  hbody : L2.defBody S = iB fl tx q1 q2 q3 q4 q5 q6 q7 q8 q9 q10 j
  hbind : ∀ x v : Value, bindArgs (ksFn "__init__" qual (L2.defArgs S) (L2.defBody S) (L2.defScope S) .none kV doc pm an (.ref cda) ct cc) ⟨[x, v], []⟩ = pure [(("self" : Str), x), (fl, v)]
  hev : ∀ L f : Addr, eval (.Call (.Attribute (.Call (.Name "super" q1) [] [] q2) "__init__" q3) [.Constant (.str tx) j q4] [] q5) (ksEnv qual (L2.defScope S) L f (.ref cda) cc) = (do
      let ov ← attributeBase (.Call (.Name "super" q1) [] [] q2) "__init__" (ksEnv qual (L2.defScope S) L f (.ref cda) cc) (eval (.Call (.Name "super" q1) [] [] q2) (ksEnv qual (L2.defScope S) L f (.ref cda) cc))
      standAt q3.atName
      let (g, first) ← holding [ov] (getMethod ov "__init__" pl)
      callWith q5 g first (backTo q5 (starEach [.Constant (.str tx) j q4] (ksEnv qual (L2.defScope S) L f (.ref cda) cc))) [])
  hk : (L2.defScope S).kind = .function
  hco : (L2.defScope S).isCoroutine = false
  hgen : (L2.defScope S).isGenerator = false
  hks : (L2.defScope S).names.lookup ("super" : Str) = some .globalImplicit
  hkc : (L2.defScope S).names.lookup ("__class__" : Str) = some .free
  hself : (L2.defScope S).names.lookup ("self" : Str) = some .local
  hfl : (L2.defScope S).names.lookup fl = some .local
  hcell : ∀ y ∈ (L2.defScope S).names, y.2 ≠ .cell
  nf : ("self" : Str) ≠ fl ∧ (fl == ("__debug__" : Str)) = false
  top : (P.main.scope.names.lookup ("super" : Str)).isSome = false
  sup : mg "super" = none
  opq : nsIn K cStatics "thirdparty.any" = some none
  nxt : ks_superIn K C C "__init__" = some (some (.builtin "ValueError.__init__"))
  slf : mroIn K C (.ref C) = some true
  sub : subIn K (.ref C) (.type "ValueError") = some true
section
variable {P : Program} {w : World} {A : Around} {E : Value → Shared → Prop} {R : Result → Shared → Prop} {s : Shared} {K : Frag} {mg : Str → Option Value} {cn fl : Str} {C : Addr}
/-- the method-wrapper of ValueError.__init__ called -/
theorem call_mw {h : Heap} {g : Array GenState} {d : Drawn} {t : Nat} {os : OsState} {nm q : Str} {N : Addr} {bs bm : List Value} {hdct : Bool} {sn : List Str} {sub : List Value} {ab : Bool} {col : Option Bool} {dd : Option Addr} {k0 k1 k2 k3 k5 : Option Value} {u e t0 : Addr} {rest : List Value} {Q : Value → Shared → Prop}
    (hC : h.get? C = some (excClassObj nm q C N bs bm hdct sn sub ab col dd k0 k1 k2 k3 k5 "ValueError.__new__")) (he : h.get? e = some (excO C t0)) (hu : h.get? u = some (kxs_mw "ValueError.__init__" e)) (hrest : rest.length ≤ sizeLine)
    (hq : ∀ h' t1, (∀ b o, b ≠ e → h.get? b = some o → h'.get? b = some o) → h'.get? e = some (excO C t1) → Q .none ⟨h', g, d, t, os⟩) :
    wpAny (model P w) A (call (.ref u) rest) Q E ⟨h, g, d, t, os⟩ := by
  refine wpAny_call (codeAny_of_tree ?_)
  show wpAny _ A.in1 (callAny (.ref u) ⟨rest, []⟩) _ _ _
  simp only [callAny]
  refine wpAny_bind (wpAny_load hu ?_)
  simp only [kxs_mw, show (Value.type "method-wrapper" == Value.type "method" || Value.type "method-wrapper" == Value.type "builtin_function_or_method" || Value.type "method-wrapper" == Value.type "method-wrapper") = true by decide, if_true]
  refine KFB.if_so (by decide) (wpAny_bind (check_bound_init PySem.F.excBase_ValueError.toExcCallFacts hC he rfl (wpAny_bind (wpAny_pure (wpAny_pure ?_)))))
  refine ⟨plainId_quiet PySem.F.excBase_ValueError.init.plain _, codeAny_builtin PySem.F.excBase_ValueError.initEntry ?_⟩
  exact exc_init_tree (cls := .ref C) (t0 := t0) (dv := none) (c2 := .none) (c3 := .none) (b4 := .bool false) he hrest fun h' k e' _ => hq h' _ k e'
/-- what __init__ leaves of a fresh exception at x -/
structure InitEnd (h h' : Heap) (x C dx : Addr) (fl : Str) (v : Value) : Prop where
  keep : ∀ b o, b ≠ x → h.get? b = some o → h'.get? b = some o
  obj : ∃ t1 : Addr, h'.get? x = some { cls := .ref C, dict := some dx, data := .fields #[.ref t1, .none, .none, .none, .bool false, .none] }
  dbig : h.objs.size ≤ dx
  dne : dx ≠ x
  ns : h'.Ns1 dx (fun y => if y = fl then some v else none)
theorem x_init (T : ExcTxt P K mg cn fl C) {x t0 : Addr} {v : Value} (X : K.In s.heap) (hlim : s.heap.NoLimit) (hG : s.heap.Ns mainGlobals mg) (hB : ∃ mb, s.heap.Ns builtinsNs mb ∧ ∀ y : Str, y ≠ "__name__" → mb y = bootBuiltins y)
    (hx : s.heap.get? x = some (excO C t0)) (hnx : K.lookup x = none) (hroom : A.depth < recursionLimit)
    (hq : ∀ h' tk dx, InitEnd s.heap h' x C dx fl v → R (.ok (.ret .none)) { s with heap := h', toks := tk }) :
    codeAny (model P w) A (.call (.ref T.fI) ⟨[.ref x, v], []⟩) R s := by
  obtain ⟨nm, q, N, bs, bm, sn, sub, ab, col, dd, k0, k1, k2, k3, k5, hC, hbm⟩ := T.cls
  have hcl : clsIn K C = some { name := nm, bases := bs, mro := .ref C :: bm, ns := N, qualname := q, hasDict := true, slotNames := sn, subclasses := sub, abstract := ab, collection := col, hasDel := false } := by unfold clsIn; rw [hC] <;> rfl
  have hxC : x ≠ C := fun z => by
    have e1 := X _ _ hC
    rw [← z, hx] at e1
    have e2 := congrArg (fun o : Option Obj => o.map (·.data)) e1
    simp [excO, excClassObj] at e2
  have ho := T.lI
  refine ks_codeAny_call_defAt (fd := ksFn "__init__" T.qual (L2.defArgs T.S) (L2.defBody T.S) (L2.defScope T.S) .none T.kV T.doc T.pm T.an (.ref T.cda) T.ct T.cc) (body := L2.defBody T.S) (binds := [("self", .ref x), (fl, v)])
    hroom (X _ _ ho) rfl hlim (codeRec_of X T.cI) rfl (BindsTo.of_eq (T.hbind _ _)) T.hcell ?hloc (fun h₁ hns hk₁ => ?_) T.hco T.hgen T.hk
  case hloc =>
    intro y hy
    simp only [List.mem_cons, List.not_mem_nil, or_false] at hy
    rcases hy with rfl | rfl
    · exact T.hself
    · exact T.hfl
  have X₁ : K.In h₁ := X.keeps hk₁
  have hx₁ := hk₁ _ _ hx
  have ms : (fun y : Str => ([("self", Value.ref x), (fl, v)] : List (Str × Value)).reverse.lookup y) "self" = some (.ref x) := by
    have z : (("self" : Str) == fl) = false := by simpa using T.nf.1
    simp [List.lookup, z]
  have mf : (fun y : Str => ([("self", Value.ref x), (fl, v)] : List (Str × Value)).reverse.lookup y) fl = some v := by simp [List.lookup]
  show wpAt _ (A.deeper (ksEnv T.qual (L2.defScope T.S) s.heap.objs.size T.fI (.ref T.cda) T.cc)) (.func (L2.defBody T.S) (ksEnv T.qual (L2.defScope T.S) s.heap.objs.size T.fI (.ref T.cda) T.cc)) (execs (L2.defBody T.S) (ksEnv T.qual (L2.defScope T.S) s.heap.objs.size T.fI (.ref T.cda) T.cc)) _ _ _
  rw [T.hbody]
  refine ks_wpAt_execs_cons (ks_wpAt_Expr_any (ks_wpAt_MethodCall ?_ (T.hev _ _)) (by unfold interactive; show ((L2.defScope T.S).kind == .module && _) = false; rw [T.hk]; rfl))
  obtain ⟨ar, hp, har⟩ := T.hpar
  obtain ⟨mb, hB1, hB2⟩ := hB
  refine ks_wpAt_super_base T.hks T.hkc (by decide +kernel) rfl (hk₁ _ _ (X _ _ ho)) rfl hp rfl (hk₁ _ _ (X _ _ T.lcd)) rfl T.hvs T.hfile T.top ?_
  refine ks_loadName_global T.hk T.hks (loadGlobal_builtin (hG.keeps hk₁) T.sup (hB1.keeps hk₁) ((hB2 _ (by decide +kernel)).trans PyProof.Rows.Boot.«super») ⟨rfl, ?_⟩)
  refine wpAny_loadName_free T.hk T.hkc rfl ⟨_, X₁ _ _ T.lcc, rfl⟩ ?_
  rw [har]
  refine wpAny_loadName_local T.hk T.hself hns ms ?_
  refine ks_wpAny_isType_cls (X₁ _ _ hC) rfl ⟨rfl, ?_⟩
  refine ks_wpAny_call_super (X₁ _ _ hC) rfl hx₁ rfl (fun c e => by cases e) (looks_mroIn X₁ T.slf) (fun h₂ e₂ k₂ => ?_)
  have X₂ : K.In h₂ := X₁.keeps k₂
  have hx₂ := k₂ _ _ hx₁
  have I₂ : InstAt h₂ x (excO C t0) C none := ⟨hx₂, rfl, rfl, trivial⟩
  have hnxt : alongIn K "__init__" (((Value.ref C :: bm).dropWhile (· != .ref C)).drop 1) = some (some (.builtin "ValueError.__init__")) := by
    have z := T.nxt
    unfold ks_superIn at z
    rw [hcl] at z
    exact z
  refine kxs_getMethod kxs_ValueError e₂ (looks_opaque X₂ T.opq) (l₀ := Value.ref C :: bm) (fun A Q E s k q => wpAny_bind ((looks_clsIn X₂ hcl) A _ E s k (wpAny_pure q))) rfl X₂ hnxt (I₂.type.andThen (looks_subIn X₂ T.sub)) hxC (by decide +kernel) ?_
  have k₃ : ∀ b o, h₂.get? b = some o → (h₂.push (kxs_mw "ValueError.__init__" x)).get? b = some o := fun b o e => Heap.get?_push_of_some _ e
  refine kxs_callWith (i := "ValueError.__init__") (x := x) rfl (evalArgs_plain (spliced_more (wpAny_Constant_str (spliced_none ?_))))
  refine ⟨Heap.get?_push_at rfl rfl, ?_⟩
  refine call_mw (k₃ _ _ (X₂ _ _ hC)) (k₃ _ _ hx₂) (Heap.get?_push_at rfl rfl) (by show 1 ≤ sizeLine; decide) fun h₄ t1 k₄ hx₄ => ?_
  have k14 : ∀ b o, b ≠ x → h₁.get? b = some o → h₄.get? b = some o := fun b o hb e => k₄ b o hb (k₃ _ _ (k₂ _ _ e))
  have hxL : s.heap.objs.size ≠ x := Nat.ne_of_gt (Heap.lt_size hx)
  have hns₄ : h₄.Ns s.heap.objs.size (fun y : Str => ([("self", Value.ref x), (fl, v)] : List (Str × Value)).reverse.lookup y) := by
    obtain ⟨oL, es, ep, hL, r⟩ := hns
    exact ⟨oL, es, ep, k14 _ _ hxL hL, r⟩
  have X₄ : K.In h₄ := fun b o e => k14 b o (fun z => by rw [z, hnx] at e; cases e) (X₁ _ _ e)
  refine ks_wpAt_execs_cons (ks_wpAt_Assign_Attr (wpAt_of_wpAny (wpAny_Name (wpAny_loadName_local T.hk T.hfl hns₄ mf ?_) T.nf.2)))
  refine wpAny_Name (wpAny_loadName_local T.hk T.hself hns₄ ms ?_)
  refine set_plain X₄ (ox := excO C t1) (od := none) ⟨hx₄, rfl, rfl, trivial⟩ T.sa ?_
  refine exc_osa X₄ hx₄ hcl (show refsVE (.ref C :: bm) = true from hbm) rfl T.noN (fun h₅ tk₅ dx k₅ dn dne hx₅ hn₅ => ?_)
  exact wpAt_of_wpAny (wpAny_execs_nil (hq h₅ tk₅ dx ⟨fun b o hb e => k₅ b o hb (k14 b o hb (hk₁ b o e)), ⟨t1, hx₅⟩, Nat.le_trans (Nat.le_of_lt hns₄.lt) dn, dne, hn₅⟩))
/-- a made error -/
structure OwnMade (h h' : Heap) (e C d : Addr) (fl : Str) (v : Value) : Prop where
  keep : ∀ b o, h.get? b = some o → h'.get? b = some o
  new : h.objs.size ≤ e
  obj : ∃ oe vs, h'.get? e = some oe ∧ oe.cls = .ref C ∧ oe.dict = some d ∧ oe.data = .fields vs ∧ vs[1]? = some .none
  dbig : h.objs.size ≤ d
  dne : d ≠ e
  ns : h'.Ns1 d (fun y => if y = fl then some v else none)
theorem x_made (T : ExcTxt P K mg cn fl C) {v : Value} (X : K.In s.heap) (hlim : s.heap.NoLimit) (hG : s.heap.Ns mainGlobals mg) (hB : ∃ mb, s.heap.Ns builtinsNs mb ∧ ∀ y : Str, y ≠ "__name__" → mb y = bootBuiltins y) (hroom : A.depth + 1 < recursionLimit)
    (hq : ∀ h' tk e d, OwnMade s.heap h' e C d fl v → R (.ok (.ret (.ref e))) { s with heap := h', toks := tk }) :
    codeAny (model P w) A (.call (.ref C) ⟨[v], []⟩) R s := by
  obtain ⟨nm, q, N, bs, bm, sn, sub, ab, col, dd, k0, k1, k2, k3, k5, hC, hbm⟩ := T.cls
  obtain ⟨hp, g, dr, tk, os⟩ := s
  have k : ∀ b o, hp.get? b = some o → ((hp.push (kdv_tup [v])).push (excO C hp.objs.size)).get? b = some o := fun b o e => Heap.get?_push_of_some _ (Heap.get?_push_of_some _ e)
  have hget : ((hp.push (kdv_tup [v])).push (excO C hp.objs.size)).get? (hp.objs.size + 1) = some (excO C hp.objs.size) := by heap_get
  have hnx : K.lookup (hp.objs.size + 1) = none := by
    cases e : K.lookup (hp.objs.size + 1) with
    | none => rfl
    | some o => exact absurd (Nat.lt_of_succ_lt (Heap.lt_size (show hp.get? (hp.objs.size + 1) = some o from X _ _ e))) (Nat.lt_irrefl _)
  obtain ⟨mb, hB1, hB2⟩ := hB
  refine call_own PySem.F.excBase_ValueError (fun X => refsVE_contains X bm hbm) (X _ _ hC) (looks_findIn X T.iC) (fun self => bind_fn X self T.tI) (by show 1 ≤ sizeLine; decide) ?_
  refine x_init (s := ⟨(hp.push (kdv_tup [v])).push (excO C hp.objs.size), g, dr, tk, os⟩) T (X.keeps k) (hlim.keeps k) (hG.keeps k) ⟨mb, hB1.keeps k, hB2⟩ hget hnx (show A.depth + 1 < recursionLimit from hroom) fun h' tk' dx ⟨k', ⟨t1, hx⟩, dn, dne, hns⟩ => ?_
  have old : ∀ b o, hp.get? b = some o → h'.get? b = some o := fun b o e => k' b o (Nat.ne_of_lt (Nat.lt_succ_of_lt (Heap.lt_size e))) (k b o e)
  have z : hp.objs.size + 1 + 1 ≤ dx := by
    first
      | (simpa only [Heap.size_push] using dn)
      | exact dn
      | (have q := dn; rw [Heap.size_push, Heap.size_push] at q; exact q)
  exact ⟨rfl, hq h' tk' (hp.objs.size + 1) dx ⟨old, Nat.le_succ _, ⟨_, _, hx, rfl, rfl, rfl, rfl⟩, Nat.le_trans (Nat.le_trans (Nat.le_succ _) (Nat.le_succ _)) z, dne, hns⟩⟩
end
end WX
end PySem
namespace L2
open PySem PySem.Spec PyProof.Rows
theorem relO_x {v : V} {v' : Value} (fl : Str) (r : RelV v v') (f : Str) : RelO (List.lookup f [(fl, v)]) (if f = fl then some v' else none) := by
  by_cases hw : f = fl
  · subst hw
    rw [if_pos rfl, show List.lookup f [(f, v)] = some v by simp [List.lookup]]
    exact r
  · rw [if_neg hw, show List.lookup f [(fl, v)] = none by simp [List.lookup, show (f == fl) = false by simpa using hw]]
    trivial
section
variable {X : Cx} {C : Addr} {cn fl : Str}
/-- cn(e) -/
def tMkX (C : Addr) (fl : Str) (ta : TA) : St → Hp → XK → Prop := fun σ H Q => ta σ H fun vs H1 => ∃ v, vs = [v] ∧ ∀ d, H1 d = none → Q (.ref C) (some d) (upd H1 d (.xd [(fl, v)]))
theorem pmk_x {a : Expr} {ta : TA} {p pos : Pos} {k : Nat} (T : PySem.WX.ExcTxt X.prog X.K X.mg cn fl C) (hr : Room k X.A) (ha : PA X [a] ta) (hg : Gl X cn := by rfl) (hdb : (cn == ("__debug__" : Str)) = false := by decide)
    (he : starEach (a :: []) X.env = (false, eval a X.env) :: starEach [] X.env := by rfl) (hpl : (backTo pos (starEach [] X.env)).any (·.1) = false := by rfl) :
    PMk X (.Call (.Name cn p) [a] [] pos) (tMkX C fl ta) := by
  intro pins s σ H Q I h
  refine wpAny_Call_Name_kw (ld_glob I hg T.gC ?_ hdb)
  refine PySem.W.callWith_K (h₀ := X.base) I.ok.mod.kin T.kC (thn (ha.run pos pins s σ H _ I h) fun us s1 hh => ?_) he hpl
  obtain ⟨vs, H1, I1, r1, v, ev, q1⟩ := hh
  subst ev
  refine ⟨I1.kIn, ?_⟩
  cases r1 with
  | cons rv rn =>
    rename_i v' us'
    cases rn
    show wpAny _ _ (call (.ref C) [v']) _ _ _
    have hlim := I1.nolimit
    have hG := I1.mod.glob.keeps I1.bk
    obtain ⟨mb, hB1, hB2⟩ := I1.mod.blt
    have hB1' := hB1.keeps I1.bk
    obtain ⟨hp, g, dr, tk, os⟩ := s1
    refine wpAny_call (PySem.WX.x_made T I1.kIn hlim hG ⟨mb, hB1', hB2⟩ (by have := hr.dp; omega) fun h' tk' e d M => ?_)
    show MkP X pins σ Q (.ref e) ⟨h', g, dr, tk', os⟩
    obtain ⟨oe, fv, hoe, hc, hd, hdat, h1⟩ := M.obj
    obtain ⟨G', g1, g2⟩ := restrict h' fun b => decide (b ≠ e)
    have gk : ∀ b, b ≠ e → G'.get? b = h'.get? b := fun b hb => g1 b (decide_eq_true hb)
    have ge : G'.get? e = none := g2 e (by simp)
    have old : ∀ b o, hp.get? b = some o → G'.get? b = some o := fun b o q => (gk b (Nat.ne_of_lt (Nat.lt_of_lt_of_le (Heap.lt_size q) M.new))).trans (M.keep b o q)
    have ob : ObjOk X.prog X.w (upd H1 d (.xd [(fl, v)])) G' d (.xd [(fl, v)]) := ⟨_, M.ns.at (fun o q => (gk d M.dne).trans q), fun f => relO_x fl rv f⟩
    have J : Inv X pins σ (upd H1 d (.xd [(fl, v)])) ⟨G', g, dr, tk', os⟩ := I1.laid (t' := tk') old M.dbig ob
    refine ⟨e, oe, fv, ⟨G', g, dr, tk', os⟩, _, .ref C, some d, rfl, J, fun b o q => ?_, ge, hoe, ⟨hc, hd⟩, hdat, h1, ?_, rfl, I1.bare, raises_own T.exC T.tyC, q1 d (I1.hok.fresh M.dbig)⟩
    · by_cases hb : b = e
      · have q' : G'.get? b = some o := q
        rw [hb, ge] at q'; cases q'
      · exact (gk b hb).symm.trans q
    · rw [upd_ne (Ne.symm M.dne)]
      exact I1.hok.fresh M.new
/-- raise cn(e) -/
def tRaiseX (C : Addr) (fl : Str) (W : WX) (ta : TA) : TS := fun _ σ H => tMkX C fl ta σ H fun cls d H' => W cls d σ H'
theorem ps_raiseX {a : Expr} {ta : TA} {W : WX} {p pos pos2 : Pos} {k : Nat} (hc : X.calm = true) (T : PySem.WX.ExcTxt X.prog X.K X.mg cn fl C) (hr : Room k X.A) (tk : Takes X W) (ha : PA X [a] ta) (hg : Gl X cn := by rfl) (hdb : (cn == ("__debug__" : Str)) = false := by decide)
    (he : starEach (a :: []) X.env = (false, eval a X.env) :: starEach [] X.env := by rfl) (hpl : (backTo pos (starEach [] X.env)).any (·.1) = false := by rfl) :
    PS X (.Raise (some (.Call (.Name cn p) [a] [] pos)) none pos2) (tRaiseX C fl W ta) := ps_raise hc tk (pmk_x T hr ha hg hdb he hpl)
end
end L2

namespace L2
open PySem PySem.Spec PyProof.Rows
/-! ### in an except suite: isinstance(e, c) and e.f, e an own error with a dict -/
structure XC (K : PySem.W.Frag) (D : Addr) : Prop where
  ga : PySem.W.findIn K (.ref D) "__getattribute__" = some (some (.builtin "BaseException.__getattribute__"))
  gg : PySem.W.findIn K (.ref D) "__getattr__" = some none
  hs : PySem.W.subIn K (.ref D) (.type "BaseException") = some true
  hd : PySem.W.hasDictIn K D = true
  ha : PySem.W.findIn K (.ref D) "__class__" = some (some (.builtin "object.__class__"))
  hn : PySem.W.specialIn K (.builtin "object.__class__") "__get__" = some (some (.builtin "getset_descriptor.__get__"))
  ht : PySem.W.takesIn K (.builtin "object.__class__") = some true
  hm : PySem.W.mroIn K D (.type "object") = some true
def rIsX (K : PySem.W.Frag) (a : Addr) (cls : Value) (d : Option Addr) : List V → Hp → VK → Prop := fun xs H Q => ∃ (D dd : Addr) (fs : List (Str × V)) (c : V) (cv : Value) (b : Bool), cls = .ref D ∧ d = some dd ∧ H dd = some (.xd fs) ∧ XC K D ∧ xs = [.ref a, c] ∧ ClsV c cv ∧ PySem.W.kitOne K (.ref D) cv = some b ∧ Q (.bl b) H
theorem call_isX {X : Cx} {a : Addr} {oe : Obj} {cls : Value} {d : Option Addr} {pn : List (Addr × Obj)} (hz : Zc cls d oe) (hf : ∃ vs, oe.data = .fields vs) : CallR (X.suite a ((a, oe) :: pn)) (.builtin "isinstance") (rIsX X.K a cls d) := by
  intro pins s σ H xs us Q I r h
  obtain ⟨D, dd, fs, c, cv, b, rfl, rfl, hdd, C, rfl, hcv, e, q⟩ := h
  cases r with
  | cons rx rr =>
    cases rr with
    | cons rt rr =>
      cases rr
      cases rx
      have ec := hcv.eq rt
      subst ec
      obtain ⟨hget, _⟩ := I.pin (a, oe) (List.mem_append.mpr (.inl List.mem_cons_self))
      obtain ⟨vs, hv⟩ := hf
      have hx : ObjOk X.prog X.w H s.heap dd (.xd fs) := I.hok dd _ hdd
      obtain ⟨mA, hns, hr⟩ := hx
      obtain ⟨od, ho, hl⟩ := lookIn_ns hns
      have J : PySem.W.InstAt s.heap a oe D (some od) := ⟨hget, hz.1, by unfold PySem.W.notCls; rw [hv] <;> rfl, by rw [hz.2]; exact ho⟩
      obtain ⟨cd, hc, _⟩ := PySem.W.any_some C.hd
      exact PySem.W.kia_one (PySem.W.kitx_exc (by rw [hc]; rfl) C.ga C.gg C.hs C.ha C.hn C.ht C.hm) I.kIn J e (fun z => nomatch z) fun tk => ⟨.bl b, H, I.kept (t' := tk) fun _ _ z => z, rfl, q⟩
/-- e.f: the reading names the class -/
def tXfX (K : PySem.W.Frag) (a : Addr) (cls : Value) (d : Option Addr) (f : Str) (te : TE) : TE := fun σ H Q => te σ H fun x H1 => x = .ref a ∧ ∃ (C dd : Addr) (fs : List (Str × V)) (v : V), cls = .ref C ∧ XC K C ∧ PySem.W.findIn K (.ref C) f = some none ∧ d = some dd ∧ H1 dd = some (.xd fs) ∧ fs.lookup f = some v ∧ Q v H1
theorem pe_xfX {X : Cx} {a : Addr} {oe : Obj} {cls : Value} {d : Option Addr} {pn : List (Addr × Obj)} {e : Expr} {te : TE} {pos : Pos} {n : Str}
    (hz : Zc cls d oe) (hf : ∃ vs, oe.data = .fields vs) (he : PE (X.suite a ((a, oe) :: pn)) e te) (hb : attributeBase e n X.env (eval e X.env) = eval e X.env := by rfl) :
    PE (X.suite a ((a, oe) :: pn)) (.Attribute e n pos) (tXfX X.K a cls d n te) := by
  refine ⟨fun pins s σ H Q I h => ?_⟩
  refine attr_of hb (thn (he.run pins s σ H _ I h) fun u s1 hh => ?_)
  obtain ⟨x, H1, I1, rx, ex, C, dd, fs, v, ec, T, hno, ed, ea, l, q⟩ := hh
  subst ex
  obtain rfl : u = Value.ref a := rx
  subst ec
  subst ed
  obtain ⟨ha, _⟩ := I1.pin (a, oe) (List.mem_append_left _ List.mem_cons_self)
  obtain ⟨vs, hd⟩ := hf
  have hx : ObjOk X.prog X.w H1 s1.heap dd (.xd fs) := I1.hok dd _ ea
  obtain ⟨mA, hns, hr⟩ := hx
  obtain ⟨od, ho, hl⟩ := lookIn_ns hns
  obtain ⟨u, hu, ru⟩ := RelO.some_of (v := v) (o := mA n) (by rw [← l]; exact hr n)
  have J : PySem.W.InstAt s1.heap a oe C (some od) := ⟨ha, hz.1, by unfold PySem.W.notCls; rw [hd] <;> rfl, by rw [hz.2]; exact ho⟩
  exact HandSPX.exc_get I1.kIn J T.ga T.gg T.hs (PySem.W.findObj_own T.hd hno rfl (by rw [hl, hu])) (handed_of ru) ⟨v, H1, I1.tok _, ru, q⟩
/-! ### calls in a try's body: the way out sees the slots -/
def tMethW (C : Addr) (m : Str) (sp : Sp) (dvs : List V) (E : St → XK) (ta : TE) (t : TA) : TE := fun σ H Q => tMeth C m sp dvs (E σ) ta t σ H Q
section
variable {X : Cx} {CX : CXT} {k : Nat} {f C : Addr} {fd : FuncData} {ps : List Str} {sp : Sp} {dvs : List V} {ds : List Value} {E : St → XK} {x m : Str} {p pos apos : Pos} {e o : Expr} {es : List Expr} {ta : TE} {t : TA}
theorem pe_methW {pl : Sem Bool} (he : PE X o ta) (c : Cls X.K C) (hm : Meth X.K C m f) (F : FnOk X.prog X.w X.K X.mg X.base CX k f fd ps sp) (hr : Room k X.A) (hb : Binds X.K fd ps ds) (hd : Vals dvs ds) (hx : ∀ σ, PassesAt CX X σ (E σ)) (ha : PA X (e :: es) t)
    (hst : starEach (e :: es) X.env = (false, eval e X.env) :: starEach es X.env := by rfl) (hpl : (backTo pos (starEach es X.env)).any (·.1) = false := by rfl)
    (ht : eval (.Call (.Attribute o m apos) (e :: es) [] pos) X.env = (do
      let ov ← eval o X.env
      standAt apos.atName
      let (f, first) ← holding [ov] (getMethod ov m pl)
      callWith pos f first (backTo pos (starEach (e :: es) X.env)) (backToKw pos (keywordEach [] X.env))) := by rfl) :
    PE X (.Call (.Attribute o m apos) (e :: es) [] pos) (tMethW C m sp dvs E ta t) := by
  refine ⟨fun pins s σ H Q I h => ?_⟩
  refine PySem.W.methodCall_KW (pl := pl) (thn (he.run pins s σ H _ I h) fun u s1 ⟨x, H1, I1, rx, a, dx, fs, ex, ea, l, q⟩ => ?_) ht
  subst ex
  obtain rfl : u = Value.ref a := rx
  refine getmeth_ok I1 ea c hm l ?_
  refine PySem.W.callWith_K (first := [.ref a]) (h₀ := X.base) I.ok.mod.kin hm.kp (thn (ha.run pos pins s1 σ H1 _ I1 q) fun us s2 ⟨vs, H2, I2, r, q2⟩ => ⟨I2.kIn, ?_⟩) hst hpl
  exact run_fnSD (us := .ref a :: us) (vs := .ref a :: vs) F hr hb hd (hx σ) I2 (.cons rfl r) q2
end
end L2

namespace L2
open PySem PySem.Spec PyProof.Rows
/-- a def that raises nothing where nothing may be raised -/
theorem FnOk.calm {P : Program} {w : World} {K : PySem.W.Frag} {mg : Str → Option Value} {base : Heap} {k : Nat} {f : Addr} {fd : FuncData} {ps : List Str} {sp : Sp} (F : FnOk P w K mg base (L2.CX P w) k f fd ps sp) :
    FnOk P w K mg base CX0 k f fd ps (fun vs H Q _ => sp vs H Q fun _ _ _ => False) :=
  ⟨fun vs H Q _ h => F.len vs H Q _ h, fun A outer s H args us vs Q _ hr he hb hv hs => codeAny_mono (F.run A outer s H args us vs Q _ hr he hb hv hs) fun r s' hq => by
    cases r with
    | error e =>
      obtain ⟨_, _, _, _, _, _, _, _, _, _, _, _, h⟩ := hq
      exact h.elim
    | ok fl =>
      cases fl with
      | ret u => exact hq
      | next => exact hq
      | brk => exact hq
      | cont => exact hq⟩
/-- the way out of a def as its own caller's -/
theorem passX {X : Cx} {E : XK} (tk : Takes X (fun cls d _ H => E cls d H)) : Passes (L2.CX X.prog X.w) X E := passes_call tk fun _ _ _ _ h => h
end L2

namespace L2
open PySem PySem.Spec PyProof.Rows
/-! ### own objects where a built-in asks them: o[k], x in o, len(o), str(o), for x in o, C.m(..) of a staticmethod -/
section
variable {X : Cx} {CX : CXT} {k : Nat} {f C a dx : Addr} {fs : List (Str × V)} {fd : FuncData} {ps : List Str} {sp : Sp} {E : XK} {pins : List (Addr × Obj)} {σ : St} {H : Hp} {s : Shared} {Q : VK} {us : List Value} {vs : List V}
/-- a def's call from within a built-in -/
theorem run_sub {A1 : Around} (hf : A1.frames = some X.stack) (F : FnOk X.prog X.w X.K X.mg X.base CX k f fd ps sp) (hr : Room k A1) (hb : Binds X.K fd ps []) (hx : Passes CX X E) (I : Inv X pins σ H s) (r : Vals vs us) (h : sp vs H Q E) :
    wpAny (model X.prog X.w) A1 (call (.ref f) us) (EP X pins σ Q) X.xe s := by
  have hl : (us ++ []).length = ps.length := by rw [List.append_nil, ← r.length]; exact F.len _ _ _ _ h
  have e := I.env0
  have bt := hb s us I.kIn hl
  rw [List.append_nil] at bt
  refine wpAny_call (codeAny_mono (F.run A1 X.stack s H ⟨us, []⟩ us vs Q E hr ⟨hf, e.mod, e.bs, e.bsz, e.funs, e.frf, e.hok, e.bare⟩ bt r h) fun r s' hq => ?_)
  match r, hq with
  | .error e, hq => exact hx pins σ H s e s' I hq
  | .ok (.ret u), hq => exact I.after hq
theorem stack_of (I : Inv X pins σ H s) : X.A.frames = some X.stack := I.env0.frames
theorem inst_of (I : Inv X pins σ H s) (h : H a = some (.ins C dx fs)) : ∃ ox od, PySem.W.InstAt s.heap a ox C (some od) := by
  obtain ⟨mA, J, _⟩ := ins_get I.hok h
  obtain ⟨od, J, _⟩ := J.look
  exact ⟨_, od, J⟩
/-- o[k] by the class's own def -/
def rGetI (C : Addr) (sp : Sp) (E : XK) : R2 := fun x y H Q => ∃ a dx fs, x = .ref a ∧ H a = some (.ins C dx fs) ∧ sp [x, y] H Q E
theorem pe_getI {ea eb : Expr} {ta tb : TE} {pos : Pos} (m : Meth X.K C "__getitem__" f) (hfi : PySem.W.fnIn X.K f = true) (F : FnOk X.prog X.w X.K X.mg X.base CX k f fd ps sp) (hr : Room (k + 1) X.A) (hb : Binds X.K fd ps []) (hx : Passes CX X E)
    (ha : PE X ea ta) (hbe : PE X eb tb) (hsl : ∀ (x : Addr) (i : Value), subscripted eb true (.ref x) i = runValue (.builtin "lifetime.subscript" ⟨[.ref x, i], []⟩) := by intro _ _; with_unfolding_all rfl) : PE X (.Subscript ea eb pos) (tOp (rGetI C sp E) ta tb) := by
  refine ⟨fun pins s σ H Q I h => ?_⟩
  refine Subscript_ (binT ha hbe I h fun v u s2 x y H2 I2 rx ry q => ?_)
  obtain ⟨a, dx, fs, rfl, ho, q⟩ := q
  cases rx
  obtain ⟨ox, od, J⟩ := inst_of I2 ho
  obtain ⟨mf, hF⟩ := I2.fr
  exact PySem.W.sub_K hF I2.ok.mod.kin J m.at_ hfi m.fn (run_sub (A1 := X.A.in1) (us := [.ref a, u]) (vs := [.ref a, y]) (stack_of I2) F hr.in1 hb hx I2 (.cons rfl (.cons ry .nil)) q) (hsl a u)
/-- x in o, x not in o -/
def rInI (C : Addr) (sp : Sp) (E : XK) (neg : Bool) : R2 := fun x y H Q => ∃ a dx fs, y = .ref a ∧ H a = some (.ins C dx fs) ∧ sp [y, x] H (fun v H' => ∃ b : Bool, v = .bl b ∧ Q (.bl (if neg then !b else b)) H') E
theorem truth_bl {A : Around} {E' : Value → Shared → Prop} {b : Bool} {s : Shared} {Qb : Bool → Shared → Prop} (h : Qb b s) : wpAny (model X.prog X.w) A (truthy (.bool b)) Qb E' s := by
  unfold truthy
  exact wpAny_pure h
theorem op_inI (m : Meth X.K C "__contains__" f) (F : FnOk X.prog X.w X.K X.mg X.base CX k f fd ps sp) (hr : Room k X.A) (hb : Binds X.K fd ps []) (hx : Passes CX X E) : OpR X (compareOp .In) (rInI C sp E false) := by
  intro pins s σ H x y v u Q I rx ry h
  obtain ⟨a, dx, fs, rfl, ho, q⟩ := h
  cases ry
  obtain ⟨ox, od, J⟩ := inst_of I ho
  obtain ⟨mf, hF⟩ := I.fr
  refine PySem.W.in_K hF I.ok.mod.kin J m.at_ m.fn (thn (run_sub (us := [.ref a, v]) (vs := [.ref a, x]) (stack_of I) F hr hb hx I (.cons rfl (.cons rx .nil)) q) fun r s' z => ?_)
  obtain ⟨z1, H1, I1, r1, b, rfl, q1⟩ := z
  cases r1
  exact truth_bl ⟨.bl b, H1, I1, rfl, q1⟩
theorem op_ninI (m : Meth X.K C "__contains__" f) (F : FnOk X.prog X.w X.K X.mg X.base CX k f fd ps sp) (hr : Room k X.A) (hb : Binds X.K fd ps []) (hx : Passes CX X E) : OpR X (compareOp .NotIn) (rInI C sp E true) := by
  intro pins s σ H x y v u Q I rx ry h
  obtain ⟨a, dx, fs, rfl, ho, q⟩ := h
  cases ry
  obtain ⟨ox, od, J⟩ := inst_of I ho
  obtain ⟨mf, hF⟩ := I.fr
  refine PySem.W.notIn_K hF I.ok.mod.kin J m.at_ m.fn (thn (run_sub (us := [.ref a, v]) (vs := [.ref a, x]) (stack_of I) F hr hb hx I (.cons rfl (.cons rx .nil)) q) fun r s' z => ?_)
  obtain ⟨z1, H1, I1, r1, b, rfl, q1⟩ := z
  cases r1
  exact truth_bl ⟨.bl (!b), H1, I1, rfl, q1⟩
/-- len(o) -/
def rLenI (C : Addr) (sp : Sp) (E : XK) : List V → Hp → VK → Prop := fun xs H Q => ∃ a dx fs, xs = [.ref a] ∧ H a = some (.ins C dx fs) ∧ sp [.ref a] H (fun v H' => ∃ n : Int, v = .int n ∧ 0 ≤ n ∧ n < 2 ^ 63 ∧ Q (.int n) H') E
theorem call_lenI (m : Meth X.K C "__len__" f) (F : FnOk X.prog X.w X.K X.mg X.base CX k f fd ps sp) (hr : Room (k + 1) X.A) (hb : Binds X.K fd ps []) (hx : Passes CX X E) : CallR X (.builtin "len") (rLenI C sp E) := by
  intro pins s σ H xs us Q I r h
  obtain ⟨a, dx, fs, rfl, ho, q⟩ := h
  obtain ⟨u, rfl, ru⟩ := vals1 r
  cases ru
  obtain ⟨ox, od, J⟩ := inst_of I ho
  obtain ⟨mf, hF⟩ := I.fr
  refine PySem.W.len_K hF I.ok.mod.kin J m.at_ m.fn (thn (run_sub (A1 := X.A.in1) (us := [.ref a]) (vs := [.ref a]) (stack_of I) F hr.in1 hb hx I (.cons rfl .nil) q) fun r s' z => ?_)
  obtain ⟨z1, H1, I1, r1, n, rfl, h0, h1, q1⟩ := z
  obtain ⟨t, rfl⟩ := r1
  exact ⟨⟨h0, h1⟩, .int n, H1, I1.tok _, ⟨_, rfl⟩, q1⟩
/-- str(o) -/
def rStrI (C : Addr) (sp : Sp) (E : XK) : List V → Hp → VK → Prop := fun xs H Q => ∃ a dx fs, xs = [.ref a] ∧ H a = some (.ins C dx fs) ∧ sp [.ref a] H (fun v H' => ∃ z : Str, v = .str z ∧ Q (.str z) H') E
theorem call_strI (m : Meth X.K C "__str__" f) (F : FnOk X.prog X.w X.K X.mg X.base CX k f fd ps sp) (hr : Room (k + 2) X.A) (hb : Binds X.K fd ps []) (hx : Passes CX X E) : CallR X (.type "str") (rStrI C sp E) := by
  intro pins s σ H xs us Q I r h
  obtain ⟨a, dx, fs, rfl, ho, q⟩ := h
  obtain ⟨u, rfl, ru⟩ := vals1 r
  cases ru
  obtain ⟨ox, od, J⟩ := inst_of I ho
  have hr2 : Room k X.A.in1.in1 := hr.in1.in1
  refine PySem.W.kso_call hr2.units0 I.kIn J m.at_ m.fn (thn (run_sub (A1 := X.A.in1.in1) (us := [.ref a]) (vs := [.ref a]) (stack_of I) F hr2 hb hx I (.cons rfl .nil) q) fun r s' z => ?_)
  obtain ⟨z1, H1, I1, r1, y, rfl, q1⟩ := z
  obtain ⟨t, rfl⟩ := r1
  exact ⟨.str y, H1, I1, ⟨_, rfl⟩, q1⟩
end
/-! ### a staticmethod through its class -/
structure SMet (K : PySem.W.Frag) (C : Addr) (mc : Value) (m : Str) (p g : Addr) : Prop where
  at_ : PySem.W.findCls K (.ref C) mc m = some (.get (.builtin "staticmethod.__get__") (.ref p) .none (.ref C))
  rc : ∃ rest, PySem.W.recIn K p "staticmethod" = some (.ref g :: rest)
  kp : PySem.W.keepIn K (.ref g) = true
def tSMeth (C : Addr) (sp : Sp) (E : XK) (ta : TE) (t : TA) : TE := fun σ H Q => ta σ H fun x H1 => x = .ref C ∧ t σ H1 fun vs H2 => sp vs H2 Q E
section
variable {X : Cx} {CX : CXT} {k : Nat} {C p g : Addr} {mc : Value} {fd : FuncData} {ps : List Str} {sp : Sp} {E : XK} {o e : Expr} {es : List Expr} {m : Str} {pos apos : Pos} {ta : TE} {t : TA} {pl : Sem Bool}
theorem getsm_ok {pins : List (Addr × Obj)} {σ : St} {H : Hp} {s : Shared} {A : Around} {E' : Value → Shared → Prop} {Q : Value × List Value → Shared → Prop} (I : Inv X pins σ H s) (r : ClX.CRead X.K C mc) (c : SMet X.K C mc m p g)
    (h : ∀ s', Inv X pins σ H s' → Q (.ref g, []) s') : wpAny (model X.prog X.w) A (getMethod (.ref C) m pl) Q E' s := by
  obtain ⟨rest, hp⟩ := c.rc
  refine PySem.W.method_cls I.kIn r.ga (PySem.W.cls_bind I.kIn r.rd c.at_ (wpAny_call ?_))
  exact PySem.W.sm_get (s := { s with toks := s.toks + 1 }) I.kIn hp (PySem.W.handed_on rfl (h _ (I.tok _)))
theorem pe_smeth (he : PE X o ta) (r : ClX.CRead X.K C mc) (c : SMet X.K C mc m p g) (F : FnOk X.prog X.w X.K X.mg X.base CX k g fd ps sp) (hr : Room k X.A) (hb : Binds X.K fd ps []) (hx : Passes CX X E) (ha : PA X (e :: es) t)
    (hst : starEach (e :: es) X.env = (false, eval e X.env) :: starEach es X.env := by rfl) (hpl : (backTo pos (starEach es X.env)).any (·.1) = false := by rfl)
    (ht : eval (.Call (.Attribute o m apos) (e :: es) [] pos) X.env = (do
      let ov ← eval o X.env
      standAt apos.atName
      let (f, first) ← holding [ov] (getMethod ov m pl)
      callWith pos f first (backTo pos (starEach (e :: es) X.env)) (backToKw pos (keywordEach [] X.env))) := by rfl) :
    PE X (.Call (.Attribute o m apos) (e :: es) [] pos) (tSMeth C sp E ta t) := by
  refine ⟨fun pins s σ H Q I h => PySem.W.methodCall_KW (pl := pl) (thn (he.run pins s σ H _ I h) fun u s1 ⟨x, H1, I1, rx, ex, q⟩ => ?_) ht⟩
  subst ex
  obtain rfl : u = Value.ref C := rx
  refine getsm_ok I1 r c fun s2 I2 => ?_
  refine PySem.W.callWith_K (first := []) (h₀ := X.base) I.ok.mod.kin c.kp (thn (ha.run pos pins s2 σ H1 _ I2 q) fun us s3 ⟨vs, H2, I3, rv, q2⟩ => ⟨I3.kIn, ?_⟩) hst hpl
  exact run_sub (us := us) (vs := vs) (stack_of I3) F hr hb hx I3 rv q2
/-- the same in a try's body: the way out sees the slots -/
def tSMethW (C : Addr) (sp : Sp) (E : St → XK) (ta : TE) (t : TA) : TE := fun σ H Q => tSMeth C sp (E σ) ta t σ H Q
theorem pe_smethW {E : St → XK} (he : PE X o ta) (r : ClX.CRead X.K C mc) (c : SMet X.K C mc m p g) (F : FnOk X.prog X.w X.K X.mg X.base CX k g fd ps sp) (hr : Room k X.A) (hb : Binds X.K fd ps []) (hx : ∀ σ, PassesAt CX X σ (E σ)) (ha : PA X (e :: es) t)
    (hst : starEach (e :: es) X.env = (false, eval e X.env) :: starEach es X.env := by rfl) (hpl : (backTo pos (starEach es X.env)).any (·.1) = false := by rfl)
    (ht : eval (.Call (.Attribute o m apos) (e :: es) [] pos) X.env = (do
      let ov ← eval o X.env
      standAt apos.atName
      let (f, first) ← holding [ov] (getMethod ov m pl)
      callWith pos f first (backTo pos (starEach (e :: es) X.env)) (backToKw pos (keywordEach [] X.env))) := by rfl) :
    PE X (.Call (.Attribute o m apos) (e :: es) [] pos) (tSMethW C sp E ta t) := by
  refine ⟨fun pins s σ H Q I h => PySem.W.methodCall_KW (pl := pl) (thn (he.run pins s σ H _ I h) fun u s1 ⟨x, H1, I1, rx, ex, q⟩ => ?_) ht⟩
  subst ex
  obtain rfl : u = Value.ref C := rx
  refine getsm_ok I1 r c fun s2 I2 => ?_
  refine PySem.W.callWith_K (first := []) (h₀ := X.base) I.ok.mod.kin c.kp (thn (ha.run pos pins s2 σ H1 _ I2 q) fun us s3 ⟨vs, H2, I3, rv, q2⟩ => ⟨I3.kIn, ?_⟩) hst hpl
  exact run_fnSD (us := us) (vs := vs) F hr hb .nil (hx σ) I3 rv (by rw [List.append_nil]; exact q2)
end
end L2

namespace L2
open PySem PySem.Spec PyProof.Rows
/-! ### for x in o, o's __iter__ gives iter(o.f), f a list -/
section
variable {P : Program} {w : World} {K : PySem.W.Frag} {mg : Str → Option Value} {base : Heap} {x qual : Str} {st : Stmt} {f : Addr} {fd : FuncData} {N ps : List Str} {k : Nat}
/-- one call of a def, told from its state -/
theorem fn_here {A : Around} {outer : List Env} {s : Shared} {H : Hp} {us : List Value} {vs : List V} {Q : VK} {E : XK} (F : Fun K x qual st f fd) (S : FnScope N ps (defScope st)) (hb : Binds K fd ps []) (hr : Room (k + 1) A) (e0 : Env0 P w K mg base A outer s H)
    (r : Vals vs us) (hl : vs.length = ps.length)
    (body : ∀ cdv, Room k (A.deeper (envOfC qual (defScope st) s.heap.objs.size f cdv)) → ∃ t, PSs (cxOf CX0 P w K mg base N qual (defScope st) f cdv A outer s H E).nox (defBody st) t ∧ t { nx := fun _ H' => Q .non H', rt := Q } (start N vs) H) :
    codeAny (model P w) A (.call (.ref f) ⟨us, []⟩) (CR CX0 outer P w H s Q E) s := by
  obtain ⟨oc, od, kV, doc, pm, an, cdv, ct, osl, rfl, lk, hcd⟩ := F.ex
  have KX : K.In s.heap := PySem.W.Frag.In.keeps e0.mod.kin (fun b o q => (e0.bs b o q).1)
  have NL : s.heap.NoLimit := Heap.NoLimit.keeps e0.mod.nolimit (fun b o q => (e0.bs b o q).1)
  have lu : (us ++ []).length = ps.length := by rw [List.append_nil, ← r.length, hl]
  have bt := hb s us KX lu
  rw [List.append_nil] at bt
  obtain ⟨t, ht, hq⟩ := body cdv (hr.deeper _)
  refine codeAny_call_function hr.depth (KX _ _ lk) rfl S.co S.gen rfl (PySem.W.codeRec_of KX hcd) (bt _ _ _ _ (wpAny_newFunctionEnv_cells S.kind ?_ ?_))
  · intro y hy
    have m := (List.of_mem_zip (a := y.1) (b := y.2) hy).1
    exact (S.par y.1 m).elim .inl fun z => .inr ⟨z, PySem.W.cellsFrom_some _ _ _ (.inl z)⟩
  · intro env he s1 ic
    subst he
    have I : Inv (cxOf CX0 P w K mg base N qual (defScope st) f cdv A outer s H E) [] (start N vs) H s1 := inv_start S hr.hd e0 hl r ic
    refine ⟨NL.keeps ic.toInCall.keep, codeAny_func (wpAny_mono (ht.nox.run [] s1 (start N vs) H _ I hq) (fun fl s' z => ?_) fun _ _ z => z)⟩
    match fl, z with
    | .ret u, ⟨v, _, H', J, rv, q⟩ => exact ⟨v, H', J.os, J.bare, J.base, J.hok, rv, q⟩
    | .next, ⟨_, H', J, q⟩ => exact ⟨V.non, H', J.os, J.bare, J.base, J.hok, rfl, q⟩
    | .brk, ⟨_, _, _, q⟩ => exact q.elim
    | .cont, ⟨_, _, _, q⟩ => exact q.elim
/-- what such an __iter__ promises: a new iterator of the list, younger than the call -/
def IterOk (P : Program) (w : World) (K : PySem.W.Frag) (mg : Str → Option Value) (base : Heap) (k : Nat) (g C : Addr) (fl : Str) : Prop :=
  ∀ (A : Around) (outer : List Env) (s : Shared) (H : Hp) (a dx l : Addr) (fs : List (Str × V)) (xs : List V) (Q : VK) (E : XK), Room k A → Env0 P w K mg base A outer s H → H a = some (.ins C dx fs) → fs.lookup fl = some (.ref l) → SqL K H l xs →
    (∀ it, H it = none → s.heap.objs.size ≤ it → Q (.ref it) (upd H it (ItO l it 0))) → codeAny (model P w) A (.call (.ref g) ⟨[.ref a], []⟩) (CR CX0 outer P w H s Q E) s
end
def iOwn (K : PySem.W.Frag) (C : Addr) (f : Str) (tl : TE) : TI := fun σ H R => tl σ H fun x H1 => ∃ (a dx l : Addr) (fs : List (Str × V)) (xs : List V), x = .ref a ∧ H1 a = some (.ins C dx fs) ∧ fs.lookup f = some (.ref l) ∧ SqL K H1 l xs ∧ R (Itl K l) H1
section
variable {X : Cx} {tg o : Expr} {tl : TE} {k : Nat} {g C : Addr} {fl : Str}
theorem pi_own (m : Meth X.K C "__iter__" g) (F : IterOk X.prog X.w X.K X.mg X.base k g C fl) (hr : Room k X.A) (ho : PE X o tl) : PI X tg o (iOwn X.K C fl tl) := by
  refine ⟨fun pins s σ H R I h => thn (ho.run pins s σ H _ I h) fun v s1 ⟨x, H1, I1, r1, a, dx, l, fs, xs, ex, ha, hf, hq, q⟩ => ?_⟩
  subst ex
  cases r1
  obtain ⟨ox, od, J⟩ := inst_of I1 ha
  obtain ⟨mf, hF⟩ := I1.fr
  refine PySem.W.owit_iter hF I1.ok.mod.kin J m.at_ m.fn (wpAny_call (codeAny_mono (F X.A X.stack s1 H1 a dx l fs xs (fun v H2 => ∃ it, v = .ref it ∧ H1 it = none ∧ s1.heap.objs.size ≤ it ∧ H2 = upd H1 it (ItO l it 0)) E0 hr I1.env0 ha hf hq fun it n1 n2 => ⟨it, rfl, n1, n2, rfl⟩) fun r s' z => ?_))
  match r, z with
  | .error _, z => exact z.elim
  | .ok (.ret u), z =>
    obtain ⟨v2, H2, I2, r2, it, rfl, n1, n2, rfl⟩ := I1.after z
    cases r2
    have eo := itO_get I2 upd_same
    have hT : s'.TypeIs (.ref it) "list_iterator" := ⟨_, eo, rfl⟩
    have I3 := ItX.inv_drop I2 (a := it) (by rw [upd_same]; rfl)
    rw [ItX.dropH_upd n1] at I3
    refine wpAny_specialOf (name := Str.ofString "__next__") hT slot_listiter_next.lookup ?_
    refine ⟨it, [it], _, _, H1, rfl, I3, turn_list l it, ⟨_, eo, rfl, rfl⟩, fun b hb => ?_, q⟩
    obtain rfl : b = it := by simpa using hb
    exact I1.fpOk n2 n1
end
end L2

namespace L2
open PySem PySem.Spec PyProof.Rows
/-! ### defs with *rest, instances made by C(), C(*a), C(*a, *b) -/
/-- what a def with ps and *pv binds -/
def StarB (fd : FuncData) (ps : List Str) (pv : Str) : Prop := ∀ us rest : List Value, us.length = ps.length → bindArgs fd ⟨us ++ rest, []⟩ = (newTuple rest >>= fun t => pure (ps.zip us ++ [(pv, t)]))
/-- its promise: from that of its body, the rest as a new tuple -/
def spStar (n : Nat) (sp : Sp) : Sp := fun vs H Q E => ∃ ws rest, vs = ws ++ rest ∧ ws.length = n ∧ rest.length ≤ sizeLine ∧ ∀ p, H p = none → sp (ws ++ [V.ref p]) (upd H p (.tup rest)) Q E
section
variable {P : Program} {w : World} {K : PySem.W.Frag} {mg : Str → Option Value} {base : Heap} {x qual : Str} {st : Stmt} {f : Addr} {fd : FuncData} {N ps : List Str} {pv : Str} {k : Nat} {sp : Sp}
theorem Fun.starX (F : Fun K x qual st f fd) (S : FnScope N (ps ++ [pv]) (defScope st)) (hb : StarB fd ps pv)
    (body : ∀ (cdv : Value) (A : Around) (outer : List Env) (s : Shared) (H : Hp) (vs : List V) (Q : VK) (E : XK), Room k (A.deeper (envOfC qual (defScope st) s.heap.objs.size f cdv)) → sp vs H Q E →
      ∃ t, PSs (cxOf (L2.CX P w) P w K mg base N qual (defScope st) f cdv A outer s H E) (defBody st) t ∧ t { nx := fun _ H' => Q .non H', rt := Q } (start N vs) H) : FnR P w K mg base (L2.CX P w) (k + 1) f (spStar ps.length sp) := by
  obtain ⟨oc, od, kV, doc, pm, an, cdv, ct, osl, rfl, lk, hcd⟩ := F.ex
  exact StX.fn_star lk hcd S StX.cxUp hb fun A outer s H vs Q E hr h => body cdv A outer s H vs Q E hr h
theorem FnR.calm (F : FnR P w K mg base (L2.CX P w) k f sp) : FnR P w K mg base CX0 k f (fun vs H Q _ => sp vs H Q fun _ _ _ => False) := fun A outer s H us vs Q _ hr e0 r h =>
  codeAny_mono (F A outer s H us vs Q _ hr e0 r h) fun r s' hq => by
    match r, hq with
    | .error _, ⟨_, _, _, _, _, _, _, _, _, _, _, _, z⟩ => exact z.elim
    | .ok (.ret _), hq => exact hq
end
/-- two starred arguments -/
theorem evalArgs_two {M : Model} {A : Around} {E : Value → Shared → Prop} {s : Shared} {f : Value} {a b : Bool × Sem Value} {rest : List (Bool × Sem Value)} {Q : Args → Shared → Prop} (h : wpAny M A (spliced (a :: b :: rest)) (fun vs s' => Q ⟨vs, []⟩ s') E s) : wpAny M A (evalArgs f true (a :: b :: rest) []) Q E s := by
  obtain ⟨a1, a2⟩ := a
  unfold evalArgs
  cases a1
  · show wpAny M A (spliced ((false, a2) :: b :: rest) >>= _) Q E s
    exact wpAny_bind (wpAny_mono h (fun vs s' q => wpAny_holding (wpAny_bind (wpAny_pure (wpAny_bind (wpAny_pure (wpAny_pure q)))))) fun _ _ z => z)
  · show wpAny M A (spliced ((true, a2) :: b :: rest) >>= _) Q E s
    exact wpAny_bind (wpAny_mono h (fun vs s' q => wpAny_holding (wpAny_bind (wpAny_pure (wpAny_bind (wpAny_pure (wpAny_pure q)))))) fun _ _ z => z)
section
variable {X : Cx} {CX : CXT} {k : Nat} {f C : Addr} {sp : Sp} {E : XK} {x : Str} {e e1 e2 : Expr} {es : List Expr} {te : TE} {t : TA} {p q1 q2 pos : Pos}
theorem pe_makeR0 (M : Mk X.K C f) (F : FnR X.prog X.w X.K X.mg X.base CX k f sp) (hr : Room (k + 1) X.A) (hg : Gl X x) (hm : X.mg x = some (.ref C)) (hx : Passes CX X E) (hdb : (x == ("__debug__" : Str)) = false := by decide) :
    PE X (.Call (.Name x p) [] [] pos) (StX.tMakeR C sp E tNil) := by
  refine ⟨fun pins s σ H Q I h => wpAny_Call_Name_kw (ld_glob I hg hm ?_ hdb)⟩
  exact PySem.W.callWith_K0 I.kIn M.kp (StX.run_makeR (us := []) (vs := []) M F hr hx I .nil h)
/-- C(*e): the reading -/
def tMakeS (K : PySem.W.Frag) (C : Addr) (sp : Sp) (E : XK) (te : TE) : TE := fun σ H Q => te σ H fun y H1 => ∃ a xs, y = V.ref a ∧ (SqT K H1 a xs ∨ SqL K H1 a xs) ∧ ∀ x dx, H1 x = none → H1 dx = none → dx ≠ x → sp (V.ref x :: xs) (upd (upd H1 dx (.own x)) x (.ins C dx [])) (fun v H2 => v = .non ∧ Q (.ref x) H2) E
theorem pe_makeS1 (M : Mk X.K C f) (F : FnR X.prog X.w X.K X.mg X.base CX k f sp) (hr : Room (k + 1) X.A) (hg : Gl X x) (hm : X.mg x = some (.ref C)) (hx : Passes CX X E) (he : PE X e te) (hdb : (x == ("__debug__" : Str)) = false := by decide)
    (hst : starEach [.Starred e q1] X.env = [(true, eval e X.env)] := by rfl) : PE X (.Call (.Name x p) [.Starred e q1] [] pos) (tMakeS X.K C sp E te) := by
  refine ⟨fun pins s σ H Q I h => wpAny_Call_Name_kw (ld_glob I hg hm (PySem.W.callWith_S (h₀ := X.base) I.ok.mod.kin M.kp (thn (he.run pins s σ H _ I h) fun v s1 ⟨y, H1, I1, ry, a, xs, ey, hxs, q⟩ => ?_) hst) hdb)⟩
  subst ey
  cases ry
  exact StX.star_any I1 hxs fun us s2 I2 rv => ⟨I2.kIn, StX.run_makeR (us := us) (vs := xs) M F hr hx I2 rv q⟩
/-- C(*a, *b) -/
theorem pe_makeS2 (M : Mk X.K C f) (F : FnR X.prog X.w X.K X.mg X.base CX k f sp) (hr : Room (k + 1) X.A) (hg : Gl X x) (hm : X.mg x = some (.ref C)) (hx : Passes CX X E) (ha : PA X [.Starred e1 q1, .Starred e2 q2] t) (hdb : (x == ("__debug__" : Str)) = false := by decide)
    (hst : starEach [.Starred e1 q1, .Starred e2 q2] X.env = [(true, eval e1 X.env), (true, eval e2 X.env)] := by rfl) : PE X (.Call (.Name x p) [.Starred e1 q1, .Starred e2 q2] [] pos) (StX.tMakeR C sp E t) := by
  refine ⟨fun pins s σ H Q I h => wpAny_Call_Name_kw (ld_glob I hg hm ?_ hdb)⟩
  have z := thn (ha.run pos pins s σ H _ I h) (Q' := fun us s1 => X.K.In s1.heap ∧ wpAny (model X.prog X.w) X.A (call (.ref C) ([] ++ us)) (EP X pins σ Q) X.xe s1) fun us s1 ⟨vs, H1, I1, r, q⟩ => ⟨I1.kIn, StX.run_makeR (us := us) (vs := vs) M F hr hx I1 r q⟩
  show wpAny _ _ (callWith pos (.ref C) [] (backTo pos (starEach [.Starred e1 q1, .Starred e2 q2] X.env)) []) _ _ _
  rw [hst] at z ⊢
  exact PySem.W.ks_call rfl (PySem.W.keeps_K M.kp) (evalArgs_two z)
end
/-! ### o + y by the class's own def, y an instance of the class, a list or a tuple -/
def Opd (K : PySem.W.Frag) (C : Addr) (H : Hp) (y : V) : Prop := (∃ b dy gs, y = .ref b ∧ H b = some (.ins C dy gs)) ∨ ∃ b xs, y = .ref b ∧ (SqL K H b xs ∨ SqT K H b xs)
def rOpI (K : PySem.W.Frag) (C : Addr) (sp : Sp) (E : XK) : R2 := fun x y H Q => ∃ a dx fs, x = .ref a ∧ H a = some (.ins C dx fs) ∧ Opd K C H y ∧ sp [x, y] H Q E
/-- what the top must have: the two defs, and of lists and tuples -/
structure OpF (K : PySem.W.Frag) (C : Addr) (nm : String) (g : Addr) : Prop where
  first : PySem.W.selfFirst K C = true
  at_ : PySem.W.findIn K (.ref C) (PySem.dunder nm) = some (some (.ref g))
  fn : PySem.W.isFn K (.ref g) = true
  rev : ∃ rc, PySem.W.findIn K (.ref C) (PySem.dunderR nm) = some rc ∧ (rc = none ∨ ∃ h : Addr, rc = some (.ref h))
  lst : ∃ fo ro, PySem.W.findIn K (.type "list") (PySem.dunder nm) = some fo ∧ PySem.W.findIn K (.type "list") (PySem.dunderR nm) = some ro ∧ PySem.W.subIn K (.type "list") (.ref C) = some false
  tup : ∃ fo ro, PySem.W.findIn K (.type "tuple") (PySem.dunder nm) = some fo ∧ PySem.W.findIn K (.type "tuple") (PySem.dunderR nm) = some ro ∧ PySem.W.subIn K (.type "tuple") (.ref C) = some false
section
variable {prog : Program} {w : World} {A : Around} {E : Value → Shared → Prop} {s : Shared} {K : PySem.W.Frag} {x C L f : Addr} {h₀ : Heap} {m : Str → Option Value} {ox : Obj} {od : Option Obj} {T : String}
/-- the library's row for an operand of a built-in type, told of what a look at its type gives -/
theorem binL {op : Operator} {b : Value} {fo ro rc : Option Value} {Q : Value → Shared → Prop} (F : Fr h₀ L s.heap m) (X₀ : K.In h₀) (I : PySem.W.InstAt s.heap x ox C od) (hb : PySem.W.Looks (model prog w) s.heap (typeOf b) (.type T)) (hc : PySem.W.selfFirst K C = true)
    (hs : PySem.W.findIn K (.ref C) (PySem.dunder op.info.2) = some (some (.ref f))) (hf : PySem.W.isFn K (.ref f) = true) (hr : PySem.W.findIn K (.ref C) (dunderR op.info.2) = some rc) (hp : rc = none ∨ ∃ g : Addr, rc = some (.ref g))
    (h1 : PySem.W.findIn K (.type T) (PySem.dunder op.info.2) = some fo) (h2 : PySem.W.findIn K (.type T) (dunderR op.info.2) = some ro) (hsub : PySem.W.subIn K (.type T) (.ref C) = some false)
    (h : wpAny (model prog w) A (call (.ref f) [.ref x, b]) (PySem.W.CmpBack Q) E s) : wpAny (model prog w) A (binaryOp op (.ref x) b) Q E s := by
  have X := X₀.keeps F.keep
  obtain ⟨cd, rest, hcd, hm⟩ := PySem.W.ksp_first hc
  rcases hi : op.info with ⟨sym, nm'⟩
  rw [hi] at hs hr h1 h2; dsimp only at hs hr h1 h2
  have one := PySem.W.ksp_try X I hs hf h
  obtain ⟨hh, gg, dd, tt, os⟩ := s
  have La := I.type (M := model prog w)
  have Lc := PySem.W.fills_K (M := model prog w) X hcd hm hs
  have Ld := PySem.W.ksp_fillsT (M := model prog w) X h1 h2
  have Le : PySem.W.Looks (model prog w) hh (isSubtype (.type T) (.ref C)) false := PySem.W.looks_subIn X hsub
  have Lf := PySem.W.ksp_inPy (M := model prog w) X hs hr hp
  have Lg : PySem.W.Looks (model prog w) hh (numberSlotInPython (.type T) nm') false := PySem.W.Looks.of_pure rfl
  have Lh : PySem.W.Looks (model prog w) hh (typeLookup (.type T) (dunderR nm')) ro := PySem.W.looks_findIn X h2
  revert Ld
  generalize ((fo.isSome && !isSeqSlot fo) || (ro.isSome && !isSeqSlot ro)) = right
  intro Ld
  have hne : (Value.ref C == Value.type T) = false := Bool.eq_false_iff.mpr fun q => by cases beq_iff_eq.mp q
  simp only [binaryOp, hi]
  refine wpAny_holding (wpAny_bind ?_)
  unfold binaryOp1
  refine wpAny_bind (La.at (wpAny_bind (hb.at (wpAny_bind (Lc.at ?_)))))
  simp only [hne, Bool.false_eq_true, if_false]
  cases right <;> (ksp_lk; refine wpAny_mono one (fun r s' hr' => ?_) (fun _ _ e => e); obtain ⟨v, rfl, hq⟩ := hr'; ksp_lk; exact hq)
end
section
variable {X : Cx} {CX : CXT} {n : Nat} {C g : Addr} {fd : FuncData} {ps : List Str} {sp : Sp} {E : XK}
theorem op_binO {op : Operator} (T : OpF X.K C op.info.2 g) (F : FnOk X.prog X.w X.K X.mg X.base CX n g fd ps sp) (hr : Room n X.A) (hb : Binds X.K fd ps []) (hx : Passes CX X E) : OpR X (binaryOp op) (rOpI X.K C sp E) := by
  intro pins s σ H x y v u Q I rx ry h
  obtain ⟨a, dx, fs, rfl, ho, hy, q⟩ := h
  cases rx
  obtain ⟨ox, od, J⟩ := inst_of I ho
  obtain ⟨mf, hF⟩ := I.fr
  have go := thn (run_sub (us := [.ref a, u]) (vs := [.ref a, y]) (stack_of I) F hr hb hx I (.cons rfl (.cons ry .nil)) q) (Q' := PySem.W.CmpBack (EP X pins σ Q)) fun w s' ⟨z', H', I', rz, qz⟩ => SlX.cmpback rz ⟨z', H', I', rz, qz⟩
  rcases hy with ⟨b, dy, gs, rfl, hb'⟩ | ⟨b, xs, rfl, hq⟩
  · cases ry
    obtain ⟨oy, od', J'⟩ := inst_of I hb'
    exact PySem.W.binop_K (op := op) hF I.ok.mod.kin J J'.type T.first T.at_ T.fn go
  · cases ry
    obtain ⟨rc, r1, r2⟩ := T.rev
    rcases hq with hq | hq
    · obtain ⟨fo, ro, t1, t2, t3⟩ := T.lst
      obtain ⟨its, rv, pl, hz⟩ := I.list hq
      obtain ⟨o, ho, hc, _⟩ := pl.isList
      exact binL hF I.ok.mod.kin J (fun A Q E s k z => wpAny_typeOf_ref (k _ _ ho) (by rw [hc]; exact z)) T.first T.at_ T.fn r1 r2 t1 t2 t3 go
    · obtain ⟨fo, ro, t1, t2, t3⟩ := T.tup
      obtain ⟨its, rv, ⟨o, ho, hc, _⟩, hz⟩ := I.tuple hq
      exact binL hF I.ok.mod.kin J (fun A Q E s k z => wpAny_typeOf_ref (k _ _ ho) (by rw [hc]; exact z)) T.first T.at_ T.fn r1 r2 t1 t2 t3 go
end
end L2

namespace My
open PySem L2
abbrev PP : Program := PySem.Challenge.pw_weblocks_k17_program_texts
def topS (i : Nat) : Stmt := PySem.Challenge.pw_weblocks_k17_program_texts.main.body.getD i (.Pass ⟨0, 0, 0, 0⟩)
abbrev S_sound_step : Stmt := topS 12
abbrev S_number_of : Stmt := topS 13
abbrev S_Program_init : Stmt := inClass (topS 14) 0
abbrev S_Program_iter : Stmt := inClass (topS 14) 2
abbrev S_Program_eq : Stmt := inClass (topS 14) 3
abbrev S_Program_add : Stmt := inClass (topS 14) 4
abbrev S_Program_str : Stmt := inClass (topS 14) 7
abbrev S_Program_read : Stmt := inClass (topS 14) 11
abbrev S__law_draws : Stmt := topS 16
abbrev S__law_take : Stmt := topS 17
abbrev S__law_same : Stmt := topS 18
abbrev S__law_step : Stmt := topS 19
abbrev S__law_text : Stmt := topS 20
abbrev S__law_number_word : Stmt := topS 21
abbrev S__law_deed : Stmt := topS 22
abbrev S__law_spoilt : Stmt := topS 23
abbrev S__law_told : Stmt := topS 24
abbrev S_law : Stmt := topS 25
abbrev S_BadText_init : Stmt := inClass (topS 7) 0
theorem sc_sound_step : FnScope ["step", "deed", "thing"] ["step"] (defScope S_sound_step) := ⟨rfl, rfl, rfl, by decide +kernel, rfl, by decide +kernel, by decide +kernel⟩
theorem sc_number_of : FnScope ["word", "sign"] ["word"] (defScope S_number_of) := ⟨rfl, rfl, rfl, by decide +kernel, rfl, by decide +kernel, by decide +kernel⟩
theorem sc_Program_init : FnScope ["self", "steps", "step"] ["self", "steps"] (defScope S_Program_init) := ⟨rfl, rfl, rfl, by decide +kernel, rfl, by decide +kernel, by decide +kernel⟩
theorem sc_Program_iter : FnScope ["self"] ["self"] (defScope S_Program_iter) := ⟨rfl, rfl, rfl, by decide +kernel, rfl, by decide +kernel, by decide +kernel⟩
theorem sc_Program_eq : FnScope ["self", "other"] ["self", "other"] (defScope S_Program_eq) := ⟨rfl, rfl, rfl, by decide +kernel, rfl, by decide +kernel, by decide +kernel⟩
theorem sc_Program_add : FnScope ["self", "other"] ["self", "other"] (defScope S_Program_add) := ⟨rfl, rfl, rfl, by decide +kernel, rfl, by decide +kernel, by decide +kernel⟩
theorem sc_Program_str : FnScope ["self", "deed", "thing"] ["self"] (defScope S_Program_str) := ⟨rfl, rfl, rfl, by decide +kernel, rfl, by decide +kernel, by decide +kernel⟩
theorem sc_Program_read : FnScope ["text", "steps", "part", "words"] ["text"] (defScope S_Program_read) := ⟨rfl, rfl, rfl, by decide +kernel, rfl, by decide +kernel, by decide +kernel⟩
theorem sc__law_draws : FnScope ["_law_script", "_law_draws_here", "_law_cell", "_law_rest", "_law_k", "_law_mixed"] ["_law_script"] (defScope S__law_draws) := ⟨rfl, rfl, rfl, by decide +kernel, rfl, by decide +kernel, by decide +kernel⟩
theorem sc__law_take : FnScope ["_law_draws_here", "_law_at", "_law_size"] ["_law_draws_here", "_law_at", "_law_size"] (defScope S__law_take) := ⟨rfl, rfl, rfl, by decide +kernel, rfl, by decide +kernel, by decide +kernel⟩
theorem sc__law_same : FnScope ["_law_actual", "_law_expected", "_law_k"] ["_law_actual", "_law_expected"] (defScope S__law_same) := ⟨rfl, rfl, rfl, by decide +kernel, rfl, by decide +kernel, by decide +kernel⟩
theorem sc__law_step : FnScope ["_law_draws_here", "_law_at", "_law_thing", "_law_size"] ["_law_draws_here", "_law_at"] (defScope S__law_step) := ⟨rfl, rfl, rfl, by decide +kernel, rfl, by decide +kernel, by decide +kernel⟩
theorem sc__law_text : FnScope ["_law_steps", "_law_step_here"] ["_law_steps"] (defScope S__law_text) := ⟨rfl, rfl, rfl, by decide +kernel, rfl, by decide +kernel, by decide +kernel⟩
theorem sc__law_number_word : FnScope ["_law_form", "_law_thing", "_law_digits", "_law_forms"] ["_law_form", "_law_thing"] (defScope S__law_number_word) := ⟨rfl, rfl, rfl, by decide +kernel, rfl, by decide +kernel, by decide +kernel⟩
theorem sc__law_deed : FnScope ["_law_form", "_law_deed_here"] ["_law_form", "_law_deed_here"] (defScope S__law_deed) := ⟨rfl, rfl, rfl, by decide +kernel, rfl, by decide +kernel, by decide +kernel⟩
theorem sc__law_spoilt : FnScope ["_law_spoil", "_law_steps", "_law_kind", "_law_form", "_law_place", "_law_deed_here", "_law_number", "_law_before", "_law_after", "_law_other", "_law_end"] ["_law_spoil", "_law_steps"] (defScope S__law_spoilt) := ⟨rfl, rfl, rfl, by decide +kernel, rfl, by decide +kernel, by decide +kernel⟩
theorem sc__law_told : FnScope ["_law_text_here", "_law_program", "e", "_law_step_here"] ["_law_text_here"] (defScope S__law_told) := ⟨rfl, rfl, rfl, by decide +kernel, rfl, by decide +kernel, by decide +kernel⟩
theorem sc_law : FnScope ["_law_script", "_law_draws_here", "_law_at", "_law_spoils", "_law_k", "_law_steps", "_law_program", "_law_text_here", "_law_spoil"] ["_law_script"] (defScope S_law) := ⟨rfl, rfl, rfl, by decide +kernel, rfl, by decide +kernel, by decide +kernel⟩
structure Txt (K : PySem.W.Frag) (mg : Str → Option Value) where
  a_sound_step : Addr
  fd_sound_step : FuncData
  F_sound_step : Fun K "sound_step" "sound_step" S_sound_step a_sound_step fd_sound_step
  b_sound_step : Binds K fd_sound_step ["step"] []
  g_sound_step : mg "sound_step" = some (.ref a_sound_step)
  a_number_of : Addr
  fd_number_of : FuncData
  F_number_of : Fun K "number_of" "number_of" S_number_of a_number_of fd_number_of
  b_number_of : Binds K fd_number_of ["word"] []
  g_number_of : mg "number_of" = some (.ref a_number_of)
  a_Program_init : Addr
  fd_Program_init : FuncData
  F_Program_init : Fun K "__init__" "Program.__init__" S_Program_init a_Program_init fd_Program_init
  bs_Program_init : StarB fd_Program_init ["self"] "steps"
  a_Program_iter : Addr
  fd_Program_iter : FuncData
  F_Program_iter : Fun K "__iter__" "Program.__iter__" S_Program_iter a_Program_iter fd_Program_iter
  b_Program_iter : Binds K fd_Program_iter ["self"] []
  a_Program_eq : Addr
  fd_Program_eq : FuncData
  F_Program_eq : Fun K "__eq__" "Program.__eq__" S_Program_eq a_Program_eq fd_Program_eq
  b_Program_eq : Binds K fd_Program_eq ["self", "other"] []
  a_Program_add : Addr
  fd_Program_add : FuncData
  F_Program_add : Fun K "__add__" "Program.__add__" S_Program_add a_Program_add fd_Program_add
  b_Program_add : Binds K fd_Program_add ["self", "other"] []
  a_Program_str : Addr
  fd_Program_str : FuncData
  F_Program_str : Fun K "__str__" "Program.__str__" S_Program_str a_Program_str fd_Program_str
  b_Program_str : Binds K fd_Program_str ["self"] []
  a_Program_read : Addr
  fd_Program_read : FuncData
  F_Program_read : Fun K "read" "Program.read" S_Program_read a_Program_read fd_Program_read
  b_Program_read : Binds K fd_Program_read ["text"] []
  a__law_draws : Addr
  fd__law_draws : FuncData
  F__law_draws : Fun K "_law_draws" "_law_draws" S__law_draws a__law_draws fd__law_draws
  b__law_draws : Binds K fd__law_draws ["_law_script"] []
  g__law_draws : mg "_law_draws" = some (.ref a__law_draws)
  a__law_take : Addr
  fd__law_take : FuncData
  F__law_take : Fun K "_law_take" "_law_take" S__law_take a__law_take fd__law_take
  b__law_take : Binds K fd__law_take ["_law_draws_here", "_law_at", "_law_size"] []
  g__law_take : mg "_law_take" = some (.ref a__law_take)
  a__law_same : Addr
  fd__law_same : FuncData
  F__law_same : Fun K "_law_same" "_law_same" S__law_same a__law_same fd__law_same
  b__law_same : Binds K fd__law_same ["_law_actual", "_law_expected"] []
  g__law_same : mg "_law_same" = some (.ref a__law_same)
  a__law_step : Addr
  fd__law_step : FuncData
  F__law_step : Fun K "_law_step" "_law_step" S__law_step a__law_step fd__law_step
  b__law_step : Binds K fd__law_step ["_law_draws_here", "_law_at"] []
  g__law_step : mg "_law_step" = some (.ref a__law_step)
  a__law_text : Addr
  fd__law_text : FuncData
  F__law_text : Fun K "_law_text" "_law_text" S__law_text a__law_text fd__law_text
  b__law_text : Binds K fd__law_text ["_law_steps"] []
  g__law_text : mg "_law_text" = some (.ref a__law_text)
  a__law_number_word : Addr
  fd__law_number_word : FuncData
  F__law_number_word : Fun K "_law_number_word" "_law_number_word" S__law_number_word a__law_number_word fd__law_number_word
  b__law_number_word : Binds K fd__law_number_word ["_law_form", "_law_thing"] []
  g__law_number_word : mg "_law_number_word" = some (.ref a__law_number_word)
  a__law_deed : Addr
  fd__law_deed : FuncData
  F__law_deed : Fun K "_law_deed" "_law_deed" S__law_deed a__law_deed fd__law_deed
  b__law_deed : Binds K fd__law_deed ["_law_form", "_law_deed_here"] []
  g__law_deed : mg "_law_deed" = some (.ref a__law_deed)
  a__law_spoilt : Addr
  fd__law_spoilt : FuncData
  F__law_spoilt : Fun K "_law_spoilt" "_law_spoilt" S__law_spoilt a__law_spoilt fd__law_spoilt
  b__law_spoilt : Binds K fd__law_spoilt ["_law_spoil", "_law_steps"] []
  g__law_spoilt : mg "_law_spoilt" = some (.ref a__law_spoilt)
  a__law_told : Addr
  fd__law_told : FuncData
  F__law_told : Fun K "_law_told" "_law_told" S__law_told a__law_told fd__law_told
  b__law_told : Binds K fd__law_told ["_law_text_here"] []
  g__law_told : mg "_law_told" = some (.ref a__law_told)
  a_law : Addr
  fd_law : FuncData
  F_law : Fun K "law" "law" S_law a_law fd_law
  b_law : Binds K fd_law ["_law_script"] []
  g_law : mg "law" = some (.ref a_law)
  n_ValueError : mg "ValueError" = none
  n_bool : mg "bool" = none
  n_int : mg "int" = none
  n_isinstance : mg "isinstance" = none
  n_iter : mg "iter" = none
  n_len : mg "len" = none
  n_list : mg "list" = none
  n_range : mg "range" = none
  n_staticmethod : mg "staticmethod" = none
  n_str : mg "str" = none
  n_tuple : mg "tuple" = none
  k_DEEDS : Addr
  g_DEEDS : mg "DEEDS" = some (.ref k_DEEDS)
  q_DEEDS : ∀ H : Hp, SqT K H k_DEEDS [.str "own", .str "share", .str "drop"]
  tk_DIGITS : Tok
  g_DIGITS : mg "DIGITS" = some (.str "0123456789" tk_DIGITS)
  c_Program : Addr
  g_Program : mg "Program" = some (.ref c_Program)
  cl_Program : Cls K c_Program
  mk_Program : Mk K c_Program a_Program_init
  m_Program_iter : Meth K c_Program "__iter__" a_Program_iter
  m_Program_eq : Meth K c_Program "__eq__" a_Program_eq
  m_Program_add : Meth K c_Program "__add__" a_Program_add
  m_Program_str : Meth K c_Program "__str__" a_Program_str
  p_Program_read : Addr
  sm_Program_read : SMet K c_Program (.type "type") "read" p_Program_read a_Program_read
  cr_Program : ClX.CRead K c_Program (.type "type")
  ti_Program : ∀ (H : Hp) (a dx : Addr) (fs : List (Str × V)), H a = some (.ins c_Program dx fs) → TyOf K H (.ref a) (.ref c_Program)
  kk_Program : PySem.W.kitOne K (.ref c_Program) (.ref c_Program) = some true
  ko_Program_list : PySem.W.kitOne K (.ref c_Program) (.type "list") = some false
  ko_Program_tuple : PySem.W.kitOne K (.ref c_Program) (.type "tuple") = some false
  of_Program_add : OpF K c_Program "add" a_Program_add
  no_Program__steps : NoAttr K c_Program "_steps"
  c_BadText : Addr
  g_BadText : mg "BadText" = some (.ref c_BadText)
  c_WebError : Addr
  g_WebError : mg "WebError" = some (.ref c_WebError)
  c_BadStep : Addr
  g_BadStep : mg "BadStep" = some (.ref c_BadStep)
  c_Refused : Addr
  g_Refused : mg "Refused" = some (.ref c_Refused)
  c_NoThing : Addr
  g_NoThing : mg "NoThing" = some (.ref c_NoThing)
  c_TooLarge : Addr
  g_TooLarge : mg "TooLarge" = some (.ref c_TooLarge)
  c_BadLevel : Addr
  g_BadLevel : mg "BadLevel" = some (.ref c_BadLevel)
  x_BadText : PySem.WX.ExcTxt PP K mg "BadText" "line" c_BadText
  xc_BadText : XC K c_BadText
  xn_BadText : PySem.W.findIn K (.ref c_BadText) "line" = some none
  em_BadText_WebError : PySem.W.exmOne K (.ref c_BadText) (.ref c_WebError) = some true
  kt_BadText_Refused : PySem.W.kitOne K (.ref c_BadText) (.ref c_Refused) = some false
  kt_BadText_NoThing : PySem.W.kitOne K (.ref c_BadText) (.ref c_NoThing) = some false
  kt_BadText_TooLarge : PySem.W.kitOne K (.ref c_BadText) (.ref c_TooLarge) = some false
  kt_BadText_BadLevel : PySem.W.kitOne K (.ref c_BadText) (.ref c_BadLevel) = some false
  kt_BadText_BadText : PySem.W.kitOne K (.ref c_BadText) (.ref c_BadText) = some true
  kt_BadText_ValueError : PySem.W.kitOne K (.ref c_BadText) (.type "ValueError") = some true
  kt_BadText_BadStep : PySem.W.kitOne K (.ref c_BadText) (.ref c_BadStep) = some false
end My
namespace My
open PySem L2
/-! ### heaps: all but a as it was -/
def But (a : Addr) (H H' : Hp) : Prop := ∀ b o, b ≠ a → H b = some o → H' b = some o
theorem But.refl (a : Addr) (H : Hp) : But a H H := fun _ _ _ h => h
theorem But.trans {a : Addr} {H H1 H2 : Hp} (x : But a H H1) (y : But a H1 H2) : But a H H2 := fun b o n h => y b o n (x b o n h)
theorem But.of_same {a : Addr} {H H' : Hp} (s : Same H H') : But a H H' := fun b o _ h => s b o h
theorem But.upd {a : Addr} {H : Hp} {o : HO} : But a H (upd H a o) := fun b u n h => by rw [upd_ne n]; exact h
theorem same_new {H : Hp} {p : Addr} {o : HO} (h : H p = none) : Same H (upd H p o) := fun b x e => by
  rw [upd_ne (ne_of_none e h)]; exact e
theorem But.new {a p : Addr} {H : Hp} {o : HO} (h : H p = none) : But a H (L2.upd H p o) := But.of_same (same_new h)
/-- an object that H does not know may change -/
theorem same_mut {H H' : Hp} {p : Addr} {o : HO} (e : Same H H') (h : H p = none) : Same H (upd H' p o) := fun a u ha => by
  rw [upd_ne (ne_of_none ha h)]; exact e a u ha
theorem But.mut {a p : Addr} {H H' : Hp} {o : HO} (e : But a H H') (h : H p = none) : But a H (L2.upd H' p o) := fun b u n hb => by
  rw [upd_ne (ne_of_none hb h)]; exact e b u n hb
theorem But.free {a p : Addr} {H H' : Hp} (e : But a H H') (n : p ≠ a) (h : H' p = none) : H p = none := by
  cases q : H p with
  | none => rfl
  | some o => rw [e p o n q] at h; cases h
theorem But.sqL {K : PySem.W.Frag} {a d : Addr} {H H' : Hp} {xs : List V} (e : But a H H') (n : d ≠ a) (h : SqL K H d xs) : SqL K H' d xs := by
  rcases h with (h | ⟨o, h⟩) | h
  · exact .inl (.inl (e _ _ n h))
  · exact .inl (.inr ⟨o, e _ _ n h⟩)
  · exact .inr h
theorem But.sqT {K : PySem.W.Frag} {a d : Addr} {H H' : Hp} {xs : List V} (e : But a H H') (n : d ≠ a) (h : SqT K H d xs) : SqT K H' d xs := by
  rcases h with (h | ⟨o, h⟩) | h
  · exact .inl (.inl (e _ _ n h))
  · exact .inl (.inr ⟨o, e _ _ n h⟩)
  · exact .inr h
theorem same_sqT {K : PySem.W.Frag} {d : Addr} {H H' : Hp} {xs : List V} (e : Same H H') (h : SqT K H d xs) : SqT K H' d xs := by
  rcases h with (h | ⟨o, h⟩) | h
  · exact .inl (.inl (e _ _ h))
  · exact .inl (.inr ⟨o, e _ _ h⟩)
  · exact .inr h
theorem same_make {H H5 : Hp} {x dx C : Addr} (nx : H x = none) (nd : H dx = none) (b : But x (L2.upd (L2.upd H dx (.own x)) x (.ins C dx [])) H5) : Same H H5 := fun y o h =>
  b y o (ne_of_none h nx) (by rw [upd_ne (ne_of_none h nx), upd_ne (ne_of_none h nd)]; exact h)
/-! ### tests -/
theorem iteD {c A B : Prop} [Decidable c] (h1 : c → A) (h2 : ¬ c → B) : if decide c = true then A else B := by
  by_cases h : c
  · rw [decide_eq_true h]; exact iteT (h1 h)
  · rw [decide_eq_false h]; exact iteF (h2 h)
theorem iteN {c A B : Prop} [Decidable c] (h1 : ¬ c → A) (h2 : c → B) : if (!decide c) = true then A else B := by
  by_cases h : c
  · rw [decide_eq_true h]; exact iteF (h2 h)
  · rw [decide_eq_false h]; exact iteT (h1 h)
theorem iteB {b : Bool} {A B : Prop} (h1 : b = true → A) (h2 : b = false → B) : if b = true then A else B := by
  cases b with
  | true => exact iteT (h1 rfl)
  | false => exact iteF (h2 rfl)
theorem iteYes {b : Bool} {A B : Prop} (h : b = true) (h1 : A) : if b = true then A else B := by rw [h]; exact iteT h1
theorem iteNo {b : Bool} {A B : Prop} (h : b = false) (h1 : B) : if b = true then A else B := by rw [h]; exact iteF h1
/-! ### lists -/
theorem ints_app (zs : List Int) (z : Int) : (zs.map V.int) ++ [V.int z] = (zs ++ [z]).map V.int := by rw [List.map_append]; rfl
theorem at_ok {xs : List V} {i : Int} (h0 : 0 ≤ i) (h1 : i < xs.length) : ∃ v, atI xs i = some v ∧ v ∈ xs := by
  obtain ⟨j, rfl⟩ := Int.eq_ofNat_of_zero_le h0
  have hj : j < xs.length := by omega
  exact ⟨xs[j], atI_nat (List.getElem?_eq_getElem hj), List.getElem_mem hj⟩
theorem get_int {ns : List Int} {i : Nat} {y : V} (h : (ns.map V.int)[i]? = some y) : ∃ z, ns[i]? = some z ∧ y = .int z := by
  rw [List.getElem?_map] at h
  cases e : ns[i]? with
  | none => rw [e] at h; cases h
  | some z => rw [e] at h; exact ⟨z, rfl, (Option.some.inj h).symm⟩
end My
namespace L2
open PySem
/-! ### rules whose reading names K itself (in a comprehension's block) -/
theorem ixLK {X : Cx} {K : PySem.W.Frag} (h : X.K = K) : IxR X (rIxL K) := h ▸ ix_list
theorem ixTK {X : Cx} {K : PySem.W.Frag} (h : X.K = K) : IxR X (rIxT K) := h ▸ ix_tup
theorem inK {X : Cx} {K : PySem.W.Frag} (h : X.K = K) : OpR X (compareOp .In) (rIn K false) := h ▸ op_in_seq
theorem ninK {X : Cx} {K : PySem.W.Frag} (h : X.K = K) : OpR X (compareOp .NotIn) (rIn K true) := h ▸ op_notIn_seq
theorem pe_fldK {X : Cx} {K : PySem.W.Frag} {e : Expr} {f : Str} {pos : Pos} {ta : TE} (h : X.K = K) (he : PE X e ta) (hb : attributeBase e f X.env (eval e X.env) = eval e X.env) : PE X (.Attribute e f pos) (tFld K ta f) := h ▸ pe_fld he hb
end L2

namespace My
open PySem L2
/-- the draws at d, the place at a -/
structure Dr (K : PySem.W.Frag) (H : Hp) (d a : Addr) : Prop where
  ds : ∃ ns : List Int, H d = some (.lst (ns.map V.int))
  pl : ∃ k : Nat, H a = some (.lst [.int k])
  ne : d ≠ a
theorem Dr.but {K : PySem.W.Frag} {H H' : Hp} {d a : Addr} (x : Dr K H d a) (e : But a H H') (pl : ∃ k : Nat, H' a = some (.lst [.int k])) : Dr K H' d a :=
  ⟨x.ds.elim fun ns h => ⟨ns, e _ _ x.ne h⟩, pl, x.ne⟩
theorem Dr.same {K : PySem.W.Frag} {H H' : Hp} {d a : Addr} (x : Dr K H d a) (e : Same H H') : Dr K H' d a :=
  x.but (But.of_same e) (x.pl.elim fun k h => ⟨k, e _ _ h⟩)
/-- another object is changed -/
theorem Dr.other {K : PySem.W.Frag} {H H' : Hp} {d a p : Addr} (x : Dr K H d a) (e : But p H H') (n1 : d ≠ p) (n2 : a ≠ p) : Dr K H' d a :=
  ⟨x.ds.elim fun ns h => ⟨ns, e _ _ n1 h⟩, x.pl.elim fun k h => ⟨k, e _ _ n2 h⟩, x.ne⟩
theorem Dr.nd {K : PySem.W.Frag} {H : Hp} {d a p : Addr} (x : Dr K H d a) (h : H p = none) : d ≠ p := ne_of_none x.ds.choose_spec h
theorem Dr.na {K : PySem.W.Frag} {H : Hp} {d a p : Addr} (x : Dr K H d a) (h : H p = none) : p ≠ a := (ne_of_none x.pl.choose_spec h).symm
def spTake (K : PySem.W.Frag) : Sp := fun vs H Q _ => ∃ (d a : Addr) (size : Int), vs = [.ref d, .ref a, .int size] ∧ Dr K H d a ∧ 0 < size ∧
  ∀ (r : Int) (H' : Hp), 0 ≤ r → r < size → Dr K H' d a → But a H H' → Q (.int r) H'
section
variable {P : Program} {w : World} {K : PySem.W.Frag} {mg : Str → Option Value} {base : Heap}
theorem ok__law_take (T : Txt K mg) : FnOk P w K mg base CX0 1 T.a__law_take T.fd__law_take ["_law_draws_here", "_law_at", "_law_size"] (spTake K) := by
  refine T.F__law_take.ok sc__law_take (fun vs H Q E h => ?_) (fun cdv A outer s H vs Q E hr h => ?_)
  · obtain ⟨d, a, size, rfl, _⟩ := h; rfl
  · obtain ⟨d, a, size, rfl, D, hs, q⟩ := h
    obtain ⟨ns, hd0⟩ := D.ds
    have hd : SqL K H d (ns.map V.int) := SqL.of hd0
    obtain ⟨k, hk⟩ := D.pl
    have hb : But a H (upd H a (.lst [.int (k + 1 : Nat)])) := But.upd
    have D' : Dr K (upd H a (.lst [.int (k + 1 : Nat)])) d a := D.but hb ⟨_, upd_same⟩
    have hd' := hb.sqL D.ne hd
    refine ⟨_, (pss_cons (ps_asg (pe_op op_add (pe_ix ix_list (pv 1) (pe_int) (fun _ _ => rfl)) (pe_int)) (pg_sub (pv 1) (pe_int) set_list))
      (pss_cons (ps_if (pt_cmpR op_gt (pe_ix ix_list (pv 1) (pe_int) (fun _ _ => rfl)) (pe_callB call_len_seq (by rfl) T.n_len (by decide +kernel) (pa_cons (pv 0) pa_nil)) (nomark _)) (pss_one (ps_ret (pe_int))) pss_nil)
      (pss_one (ps_ret (pe_op op_mod (pe_callTy call_int1 (by rfl) T.n_int (by decide +kernel) (pa_cons (pe_ix ix_list (pv 0) (pe_op op_sub (pe_ix ix_list (pv 1) (pe_int) (fun _ _ => rfl)) (pe_int)) (fun _ _ => rfl)) pa_nil)) (pv 2)))))), ?_⟩
    walk_at "rd"

    refine iteD (fun c => ?_) (fun c => ?_)
    · exact q 0 _ (Int.le_refl _) hs D' hb
    · rw [List.length_map] at c
      have hl : k < ns.length := by omega
      refine ⟨_, rfl, _, rfl, _, _, _, _, rfl, rfl, SqL.of upd_same, atI_nat (j := 0) rfl, _, _, rfl, rfl, _, _, _, _, rfl, rfl, hd', at_of (j := k) (by omega) (by rw [List.getElem?_map, List.getElem?_eq_getElem hl]; rfl), ?_⟩
      walk_at "rd"
      exact q _ _ (Int.emod_nonneg _ (by omega)) (Int.emod_lt_of_pos _ hs) D' hb
end
end My

namespace My
open PySem L2
def spDraws (K : PySem.W.Frag) : Sp := fun vs H Q _ => ∃ (a : Addr) (ns : List Int), vs = [.ref a] ∧ SqL K H a (ns.map V.int) ∧ ns.length ≤ 63 ∧
  ∀ (p : Addr) (zs : List Int) (H' : Hp), Same H H' → H p = none → H' p = some (.lst (zs.map V.int)) → Q (.ref p) H'
section
variable {P : Program} {w : World} {K : PySem.W.Frag} {mg : Str → Option Value} {base : Heap}
theorem ok__law_draws (T : Txt K mg) : FnOk P w K mg base CX0 1 T.a__law_draws T.fd__law_draws ["_law_script"] (spDraws K) := by
  refine T.F__law_draws.ok sc__law_draws (fun vs H Q E h => ?_) (fun cdv A outer s H vs Q E hr h => ?_)
  · obtain ⟨a, ns, rfl, _⟩ := h; rfl
  · obtain ⟨a, ns, rfl, hS, hlen, q⟩ := h
    refine ⟨_, (pss_cons (ps_set (i := 1) sc__law_draws.nd rfl (.inl rfl) (pe_lst pa_nil))
      (pss_cons (ps_for PassesOwn.never rfl (pi_list (pv 0)) (pg_name (i := 2) sc__law_draws.nd rfl (.inl rfl)) (pss_one (ps_if (pt_cmpR op_ge (pv 2) (pe_op op_pow (pe_int) (pe_int)) (nomark _)) (pss_cons (ps_set (i := 3) sc__law_draws.nd rfl (.inl rfl) (pe_callTy call_int1 (by rfl) T.n_int (by decide +kernel) (pa_cons (pv 2) pa_nil)))
      (pss_one (ps_for PassesOwn.never rfl (pi_range1 (by rfl) T.n_range (pa_cons (pe_int) pa_nil)) (pg_name (i := 4) sc__law_draws.nd rfl (.inl rfl)) (pss_one (ps_if (pt_cmpR op_gt (pv 3) (pe_int) (nomark _)) (pss_cons (ps_expr (pe_bm PySem.F.plainAttrs_list PySem.F.slot_list_append PySem.F.type_list_append mt_append (pv 1) (pa_cons (pe_op op_mod (pe_callTy call_int1 (by rfl) T.n_int (by decide +kernel) (pa_cons (pv 3) pa_nil)) (pe_int)) pa_nil)))
      (pss_one (ps_set (i := 3) sc__law_draws.nd rfl (.inl rfl) (pe_op op_fdiv (pv 3) (pe_int))))) pss_nil))))) (pss_cons (ps_set (i := 5) sc__law_draws.nd rfl (.inl rfl) (pe_op op_mod (pe_callTy call_int1 (by rfl) T.n_int (by decide +kernel) (pa_cons (pe_op op_add (pe_op op_mul (pv 2) (pe_int)) (pe_int)) pa_nil)) (pe_int)))
      (pss_cons (ps_expr (pe_bm PySem.F.plainAttrs_list PySem.F.slot_list_append PySem.F.type_list_append mt_append (pv 1) (pa_cons (pv 5) pa_nil)))
      (pss_one (ps_expr (pe_bm PySem.F.plainAttrs_list PySem.F.slot_list_append PySem.F.type_list_append mt_append (pv 1) (pa_cons (pe_op op_mod (pe_callTy call_int1 (by rfl) T.n_int (by decide +kernel) (pa_cons (pe_op op_add (pe_op op_add (pe_op op_mul (pv 5) (pv 5)) (pe_op op_mul (pe_int) (pv 5))) (pe_op op_mul (pe_int) (pe_callB call_len_seq (by rfl) T.n_len (by decide +kernel) (pa_cons (pv 1) pa_nil)))) pa_nil)) (pe_int)) pa_nil)))))))))
      (pss_one (ps_ret (pv 1))))), ?_⟩
    refine ⟨Nat.zero_le _, fun p hp => ?_⟩
    have s0 : Same H (upd H p (.lst [])) := same_new hp
    refine ⟨_, rfl, a, rfl, ⟨_, s0.seq hS⟩, for_list (K := K) (a := a) (xs := ns.map V.int) (fun i σ H' => ∃ (zs : List Int) (x2 x3 x4 x5 : Option V), σ = [some (.ref a), some (.ref p), x2, x3, x4, x5] ∧ Same H H' ∧ H' p = some (.lst (zs.map V.int)) ∧ zs.length ≤ 60 * i)
      ⟨[], _, _, _, _, rfl, s0, upd_same, Nat.zero_le _⟩ (fun i σ H' _ ⟨_, _, _, _, _, _, s1, _⟩ => s1.seq hS) ?_ ?_⟩
    · rintro i y σ H1 hi ⟨zs, x2, x3, x4, x5, rfl, s1, h1, hz⟩
      have hi63 : i < ns.length := by
        have z := (List.getElem?_eq_some_iff.mp hi).1
        rw [List.length_map] at z
        exact z
      obtain ⟨c, hc, rfl⟩ := get_int hi
      refine ⟨_, rfl, _, _, rfl, rfl, ⟨by decide, by decide, by decide⟩, ?_⟩
      walk_at "rd"
      refine iteD (fun c1 => ?_) (fun c1 => ?_)
      · refine ⟨_, rfl, .inl ⟨_, rfl, ?_⟩⟩
        refine ⟨60, rfl, by decide, by decide, for_range (lo := 0) (n := 60) (fun j σ H' => ∃ (zs : List Int) (r : Int) (x4 : Option V), σ = [some (.ref a), some (.ref p), some (.int c), some (.int r), x4, x5] ∧ Same H H' ∧ H' p = some (.lst (zs.map V.int)) ∧ zs.length ≤ 60 * i + j)
          ⟨zs, c, x4, rfl, s1, h1, hz⟩ ?_ ?_⟩
        · rintro j σ H2 hj ⟨zs, r, x4, rfl, s2, h2, hz2⟩
          walk_at "rd"
          refine iteD (fun c2 => ?_) (fun c2 => ?_)
          · refine ⟨_, rfl, .inl ⟨rfl, _, SqL.of h2⟩, _, rfl, .inl ⟨_, rfl, _, _, rfl, rfl, (by show (0 : Int) < 1000; decide), _, _, _, rfl, rfl, h2, by rw [List.length_map]; exact Nat.lt_of_le_of_lt (by omega : _ ≤ 100000) (by decide), ?_⟩⟩
            refine ⟨_, rfl, _, _, rfl, rfl, ⟨by decide, by decide⟩, ?_⟩
            exact ⟨zs ++ [r % 1000], _, _, rfl, same_mut s2 hp, by rw [upd_same, ints_app], by rw [List.length_append, List.length_singleton]; omega⟩
          · exact ⟨zs, r, _, rfl, s2, h2, by omega⟩
        · rintro σ H2 ⟨zs, r, x4, rfl, s2, h2, hz2⟩
          exact ⟨zs, _, _, _, _, rfl, s2, h2, by omega⟩
      · refine ⟨_, rfl, _, _, rfl, rfl, .inr ⟨by decide, by decide⟩, _, _, rfl, rfl, .inl ⟨_, rfl, _, _, rfl, rfl, (by show (0 : Int) < 9973; decide), ?_⟩⟩
        have hm0 : 0 ≤ (c * 48271 + 12345) % 9973 := Int.emod_nonneg _ (by decide)
        have hm1 : (c * 48271 + 12345) % 9973 < 9973 := Int.emod_lt_of_pos _ (by decide)
        refine ⟨_, rfl, .inl ⟨rfl, _, SqL.of h1⟩, _, rfl, _, _, _, rfl, rfl, h1, by rw [List.length_map]; exact Nat.lt_of_le_of_lt (by omega : _ ≤ 100000) (by decide), ?_⟩
        refine ⟨_, rfl, .inl ⟨rfl, _, SqL.of upd_same⟩, _, rfl, _, rfl, _, _, rfl, rfl, .inl ⟨by omega, by omega⟩, _, rfl, _, _, rfl, rfl, .inl ⟨by decide, by decide⟩, _, _, rfl, rfl, _, rfl, _, _, rfl, .inl (SqL.of upd_same), _, _, rfl, rfl, .inl ⟨by decide, by decide⟩, _, _, rfl, rfl, .inl ⟨_, rfl, _, _, rfl, rfl, (by show (0 : Int) < 9949; decide), ?_⟩⟩
        refine ⟨_, _, _, rfl, rfl, upd_same, by rw [List.length_append, List.length_map]; exact Nat.lt_of_le_of_lt (by simp; omega : _ ≤ 100000) (by decide), ?_⟩
        rw [ints_app, ints_app, upd_upd]
        exact ⟨_, _, _, _, _, rfl, same_mut s1 hp, upd_same, by simp; omega⟩
    · rintro σ H1 ⟨zs, x2, x3, x4, x5, rfl, s1, h1, hz⟩
      exact ⟨_, rfl, q p zs H1 s1 hp h1⟩
end
end My

namespace My
open PySem L2
/-! ### plain data -/
inductive Sc : V → PyData → Prop
  | non : Sc .non .none
  | bl (b : Bool) : Sc (.bl b) (.bool b)
  | int (i : Int) : Sc (.int i) (.int i)
  | str (z : Str) : Sc (.str z) (.str z)
/-- a list that stays where x alone is changed; a tuple likewise -/
def SL (K : PySem.W.Frag) (x : Addr) (H : Hp) (a : Addr) (xs : List V) : Prop := (a ≠ x ∧ SqL K H a xs) ∨ ∀ H', SqL K H' a xs
def SU (K : PySem.W.Frag) (x : Addr) (H : Hp) (a : Addr) (xs : List V) : Prop := (a ≠ x ∧ SqT K H a xs) ∨ ∀ H', SqT K H' a xs
section
variable {K : PySem.W.Frag} {x : Addr} {H H' : Hp} {a : Addr} {xs : List V}
theorem SL.sq (h : SL K x H a xs) : SqL K H a xs := by
  rcases h with h | h
  · exact h.2
  · exact h H
theorem SU.sq (h : SU K x H a xs) : SqT K H a xs := by
  rcases h with h | h
  · exact h.2
  · exact h H
theorem SL.but (h : SL K x H a xs) (e : But x H H') : SL K x H' a xs := by
  rcases h with ⟨n, h⟩ | h
  · exact .inl ⟨n, e.sqL n h⟩
  · exact .inr h
theorem SU.but (h : SU K x H a xs) (e : But x H H') : SU K x H' a xs := by
  rcases h with ⟨n, h⟩ | h
  · exact .inl ⟨n, e.sqT n h⟩
  · exact .inr h
theorem tyL (h : SqL K H a xs) : TyX K H (.ref a) (.type "list") := by
  rcases h with (h | ⟨o, h⟩) | ⟨o, its, n, h, c, _⟩
  · exact .base (.lst h)
  · exact .base (.frz h)
  · exact .kList h c
theorem tyT (h : SqT K H a xs) : TyX K H (.ref a) (.type "tuple") := by
  rcases h with (h | ⟨o, h⟩) | ⟨o, its, n, h, c, _⟩
  · exact .base (.tup h)
  · exact .fTuple h
  · exact .kTuple h c
end
/-- data of depth n at most -/
def Dn (K : PySem.W.Frag) (x : Addr) (H : Hp) : Nat → V → PyData → Prop
  | 0, v, d => Sc v d
  | n + 1, v, d => Sc v d ∨ (∃ a xs ds, v = .ref a ∧ d = .list ds ∧ SL K x H a xs ∧ xs.length ≤ 100000 ∧ Paired (Dn K x H n) xs ds) ∨ ∃ a xs ds, v = .ref a ∧ d = .tuple ds ∧ SU K x H a xs ∧ xs.length ≤ 100000 ∧ Paired (Dn K x H n) xs ds
theorem Dn.sc {K : PySem.W.Frag} {x : Addr} {H : Hp} {v : V} {d : PyData} (h : Sc v d) : ∀ n, Dn K x H n v d
  | 0 => h
  | _ + 1 => .inl h
theorem Dn.but {K : PySem.W.Frag} {x : Addr} {H H' : Hp} (e : But x H H') : ∀ {n : Nat} {v : V} {d : PyData}, Dn K x H n v d → Dn K x H' n v d
  | 0, _, _, h => h
  | n + 1, v, d, h => by
    rcases h with h | ⟨a, xs, ds, rfl, rfl, h, hz, p⟩ | ⟨a, xs, ds, rfl, rfl, h, hz, p⟩
    · exact .inl h
    · exact .inr (.inl ⟨a, xs, ds, rfl, rfl, h.but e, hz, L2.Paired.mapP p fun _ _ z => Dn.but e z⟩)
    · exact .inr (.inr ⟨a, xs, ds, rfl, rfl, h.but e, hz, L2.Paired.mapP p fun _ _ z => Dn.but e z⟩)
theorem Dn.lst {K : PySem.W.Frag} {x : Addr} {H : Hp} {n : Nat} {a : Addr} {xs : List V} {ds : List PyData} (ne : a ≠ x) (h : SqL K H a xs) (p : Paired (Dn K x H n) xs ds) (hz : xs.length ≤ 100000 := by simp) : Dn K x H (n + 1) (.ref a) (.list ds) :=
  .inr (.inl ⟨a, xs, ds, rfl, rfl, .inl ⟨ne, h⟩, hz, p⟩)
theorem Dn.tup {K : PySem.W.Frag} {x : Addr} {H : Hp} {n : Nat} {a : Addr} {xs : List V} {ds : List PyData} (ne : a ≠ x) (h : SqT K H a xs) (p : Paired (Dn K x H n) xs ds) (hz : xs.length ≤ 100000 := by simp) : Dn K x H (n + 1) (.ref a) (.tuple ds) :=
  .inr (.inr ⟨a, xs, ds, rfl, rfl, .inl ⟨ne, h⟩, hz, p⟩)
theorem Dn.int {K : PySem.W.Frag} {x : Addr} {H : Hp} (i : Int) {n : Nat} : Dn K x H n (.int i) (.int i) := Dn.sc (.int i) n
theorem Dn.str {K : PySem.W.Frag} {x : Addr} {H : Hp} (i : Str) {n : Nat} : Dn K x H n (.str i) (.str i) := Dn.sc (.str i) n
theorem Dn.bl {K : PySem.W.Frag} {x : Addr} {H : Hp} (i : Bool) {n : Nat} : Dn K x H n (.bl i) (.bool i) := Dn.sc (.bl i) n
theorem Dn.non {K : PySem.W.Frag} {x : Addr} {H : Hp} {n : Nat} : Dn K x H n .non .none := Dn.sc .non n
theorem Dn.up {K : PySem.W.Frag} {x : Addr} {H : Hp} : ∀ {n : Nat} {v : V} {d : PyData}, Dn K x H n v d → Dn K x H (n + 1) v d
  | 0, _, _, h => .inl h
  | n + 1, v, d, h => by
    rcases h with h | ⟨a, xs, ds, rfl, rfl, h, hz, p⟩ | ⟨a, xs, ds, rfl, rfl, h, hz, p⟩
    · exact .inl h
    · exact .inr (.inl ⟨a, xs, ds, rfl, rfl, h, hz, L2.Paired.mapP p fun _ _ z => Dn.up z⟩)
    · exact .inr (.inr ⟨a, xs, ds, rfl, rfl, h, hz, L2.Paired.mapP p fun _ _ z => Dn.up z⟩)
theorem pair_get {α β : Type} {F : α → β → Prop} : ∀ {l : List α} {m : List β} {i : Nat} {x : α}, Paired F l m → l[i]? = some x → ∃ y, m[i]? = some y ∧ F x y
  | _, _, _, _, .nil, e => by simp at e
  | _, _, 0, _, .cons r _, e => by simp at e; subst e; exact ⟨_, rfl, r⟩
  | _, _, i + 1, x, .cons _ t, e => by
    obtain ⟨y, h1, h2⟩ := pair_get (i := i) (x := x) t (by simpa using e)
    exact ⟨y, by simpa using h1, h2⟩
theorem pair_len {α β : Type} {F : α → β → Prop} : ∀ {l : List α} {m : List β}, Paired F l m → l.length = m.length
  | _, _, .nil => rfl
  | _, _, .cons _ t => by rw [List.length_cons, List.length_cons, pair_len t]
noncomputable def sameD (d e : PyData) : Bool := @decide (d = e) (Classical.propDecidable _)
theorem same_yes {d e : PyData} (h : d = e) : sameD d e = true := by unfold sameD; exact @decide_eq_true _ (Classical.propDecidable _) h
theorem same_no {d e : PyData} (h : d ≠ e) : sameD d e = false := by unfold sameD; exact @decide_eq_false _ (Classical.propDecidable _) h
theorem same_iff {d e : PyData} : sameD d e = true ↔ d = e := by
  constructor
  · intro h
    by_cases q : d = e
    · exact q
    · rw [same_no q] at h; cases h
  · exact same_yes
theorem same_of {p : Prop} [Decidable p] {d e : PyData} (h : d = e ↔ p) : sameD d e = decide p := by
  by_cases q : p
  · rw [decide_eq_true q, same_yes (h.mpr q)]
  · rw [decide_eq_false q, same_no (fun z => q (h.mp z))]
def spSame (K : PySem.W.Frag) (n : Nat) : Sp := fun vs H Q _ => ∃ (x : Addr) (v1 v2 : V) (d1 d2 : PyData), vs = [v1, v2] ∧ Dn K x H n v1 d1 ∧ Dn K x H n v2 d2 ∧ Q (.bl (sameD d1 d2)) H
end My
local macro_rules | `(tactic| walk_at "ty") => `(tactic| first | exact .base (.int _) | exact .base (.bl _) | exact .base .non | exact .base (.str _) | exact My.tyL (by assumption) | exact My.tyT (by assumption))
local macro_rules | `(tactic| walk_at "is") => `(tactic| first | refine ⟨_, _, _, _, true, rfl, L2.ClsV.ty _, (by walk_at "ty"), L2.kit_ty (by decide +kernel), ?_⟩ | refine ⟨_, _, _, _, false, rfl, L2.ClsV.ty _, (by walk_at "ty"), L2.kit_ty (by decide +kernel), ?_⟩)
local macro_rules | `(tactic| walk_at "ri") => `(tactic| repeat (first | walk_at "is" | refine ⟨_, rfl, ?_⟩ | refine ⟨rfl, ?_⟩))
namespace My
open PySem L2
theorem same_bl (a b : Bool) : sameD (.bool a) (.bool b) = decide (V.bl a = V.bl b) := same_of ⟨fun h => by cases h; rfl, fun h => by cases h; rfl⟩
theorem same_int (a b : Int) : sameD (.int a) (.int b) = decide (V.int a = V.int b) := same_of ⟨fun h => by cases h; rfl, fun h => by cases h; rfl⟩
theorem same_str (a b : Str) : sameD (.str a) (.str b) = decide (V.str a = V.str b) := same_of ⟨fun h => by cases h; rfl, fun h => by cases h; rfl⟩
theorem same_non : sameD .none .none = true := same_yes rfl
theorem same_lst (a b : List PyData) : sameD (.list a) (.list b) = true ↔ a = b := same_iff.trans ⟨fun h => by cases h; rfl, fun h => by cases h; rfl⟩
theorem same_tup (a b : List PyData) : sameD (.tuple a) (.tuple b) = true ↔ a = b := same_iff.trans ⟨fun h => by cases h; rfl, fun h => by cases h; rfl⟩
section
variable {P : Program} {w : World} {K : PySem.W.Frag} {mg : Str → Option Value} {base : Heap}
set_option maxHeartbeats 8000000 in
theorem ok__law_same (T : Txt K mg) : ∀ n, FnOk P w K mg base CX0 (n + 1) T.a__law_same T.fd__law_same ["_law_actual", "_law_expected"] (spSame K n)
  | 0 => by
    refine T.F__law_same.ok sc__law_same (fun vs H Q E h => ?_) (fun cdv A outer s H vs Q E hr h => ?_)
    · obtain ⟨x, v1, v2, d1, d2, rfl, _⟩ := h; rfl
    · obtain ⟨x, v1, v2, d1, d2, rfl, h1, h2, q⟩ := h
      refine ⟨_, (pss_cons (ps_if (PW.pt (pw_or (pt_val (pe_callB call_isi (by rfl) T.n_isinstance (by decide +kernel) (pa_cons (pv 0) (pa_cons (pe_bltn (v := .ty "bool") (by rfl) T.n_bool (by decide +kernel) rfl) pa_nil)))) (pw_or1 (pt_val (pe_callB call_isi (by rfl) T.n_isinstance (by decide +kernel) (pa_cons (pv 1) (pa_cons (pe_bltn (v := .ty "bool") (by rfl) T.n_bool (by decide +kernel) rfl) pa_nil))))))) (pss_one (ps_ret (pe_and (pe_callB call_isi (by rfl) T.n_isinstance (by decide +kernel) (pa_cons (pv 0) (pa_cons (pe_bltn (v := .ty "bool") (by rfl) T.n_bool (by decide +kernel) rfl) pa_nil))) (pe_and (pe_callB call_isi (by rfl) T.n_isinstance (by decide +kernel) (pa_cons (pv 1) (pa_cons (pe_bltn (v := .ty "bool") (by rfl) T.n_bool (by decide +kernel) rfl) pa_nil))) (pe_one (pe_cmpR op_eq (pv 0) (pv 1) (nomark _))))))) pss_nil)
      (pss_cons (ps_if (PW.pt (pw_or (pt_cmpR op_isN (pv 0) (pe_non) (nomark _)) (pw_or1 (pt_cmpR op_isN (pv 1) (pe_non) (nomark _))))) (pss_one (ps_ret (pe_and (pe_cmpR op_isN (pv 0) (pe_non) (nomark _)) (pe_one (pe_cmpR op_isN (pv 1) (pe_non) (nomark _)))))) pss_nil)
      (pss_cons (ps_if (pt_val (pe_callB call_isi (by rfl) T.n_isinstance (by decide +kernel) (pa_cons (pv 1) (pa_cons (pe_bltn (v := .ty "int") (by rfl) T.n_int (by decide +kernel) rfl) pa_nil)))) (pss_one (ps_ret (pe_and (pe_callB call_isi (by rfl) T.n_isinstance (by decide +kernel) (pa_cons (pv 0) (pa_cons (pe_bltn (v := .ty "int") (by rfl) T.n_int (by decide +kernel) rfl) pa_nil))) (pe_one (pe_cmpR op_eq (pv 0) (pv 1) (nomark _)))))) pss_nil)
      (pss_cons (ps_if (pt_val (pe_callB call_isi (by rfl) T.n_isinstance (by decide +kernel) (pa_cons (pv 1) (pa_cons (pe_bltn (v := .ty "str") (by rfl) T.n_str (by decide +kernel) rfl) pa_nil)))) (pss_one (ps_ret (pe_and (pe_callB call_isi (by rfl) T.n_isinstance (by decide +kernel) (pa_cons (pv 0) (pa_cons (pe_bltn (v := .ty "str") (by rfl) T.n_str (by decide +kernel) rfl) pa_nil))) (pe_one (pe_cmpR op_eq (pv 0) (pv 1) (nomark _)))))) pss_nil)
      (pss_cons (ps_if (PW.pt (pw_and (pt_val (pe_callB call_isi (by rfl) T.n_isinstance (by decide +kernel) (pa_cons (pv 1) (pa_cons (pe_bltn (v := .ty "tuple") (by rfl) T.n_tuple (by decide +kernel) rfl) pa_nil)))) (pw_and1 (pt_not (pt_val (pe_callB call_isi (by rfl) T.n_isinstance (by decide +kernel) (pa_cons (pv 0) (pa_cons (pe_bltn (v := .ty "tuple") (by rfl) T.n_tuple (by decide +kernel) rfl) pa_nil)))))))) (pss_one (ps_ret (pe_bl))) pss_nil)
      (pss_cons (ps_if (PW.pt (pw_and (pt_val (pe_callB call_isi (by rfl) T.n_isinstance (by decide +kernel) (pa_cons (pv 1) (pa_cons (pe_bltn (v := .ty "list") (by rfl) T.n_list (by decide +kernel) rfl) pa_nil)))) (pw_and1 (pt_not (pt_val (pe_callB call_isi (by rfl) T.n_isinstance (by decide +kernel) (pa_cons (pv 0) (pa_cons (pe_bltn (v := .ty "list") (by rfl) T.n_list (by decide +kernel) rfl) pa_nil)))))))) (pss_one (ps_ret (pe_bl))) pss_nil)
      (pss_cons (ps_if (pt_cmpR op_ne (pe_callB call_len_seq (by rfl) T.n_len (by decide +kernel) (pa_cons (pv 0) pa_nil)) (pe_callB call_len_seq (by rfl) T.n_len (by decide +kernel) (pa_cons (pv 1) pa_nil)) (nomark _)) (pss_one (ps_ret (pe_bl))) pss_nil)
      (pss_cons ps_never
      (pss_one (ps_ret (pe_bl))))))))))), ?_⟩
      cases h1 <;> cases h2
      all_goals walk_at "ri"
      all_goals first | (rw [same_no (by intro z; cases z)] at q; exact q) | (rw [same_bl] at q; exact q) | (rw [same_int] at q; exact q) | (rw [same_str] at q; exact q) | (rw [same_non] at q; exact q)
  | n + 1 => by
    refine T.F__law_same.ok sc__law_same (fun vs H Q E h => ?_) (fun cdv A outer s H vs Q E hr h => ?_)
    · obtain ⟨x, v1, v2, d1, d2, rfl, _⟩ := h; rfl
    · obtain ⟨x, v1, v2, d1, d2, rfl, h1, h2, q⟩ := h
      refine ⟨_, (pss_cons (ps_if (PW.pt (pw_or (pt_val (pe_callB call_isi (by rfl) T.n_isinstance (by decide +kernel) (pa_cons (pv 0) (pa_cons (pe_bltn (v := .ty "bool") (by rfl) T.n_bool (by decide +kernel) rfl) pa_nil)))) (pw_or1 (pt_val (pe_callB call_isi (by rfl) T.n_isinstance (by decide +kernel) (pa_cons (pv 1) (pa_cons (pe_bltn (v := .ty "bool") (by rfl) T.n_bool (by decide +kernel) rfl) pa_nil))))))) (pss_one (ps_ret (pe_and (pe_callB call_isi (by rfl) T.n_isinstance (by decide +kernel) (pa_cons (pv 0) (pa_cons (pe_bltn (v := .ty "bool") (by rfl) T.n_bool (by decide +kernel) rfl) pa_nil))) (pe_and (pe_callB call_isi (by rfl) T.n_isinstance (by decide +kernel) (pa_cons (pv 1) (pa_cons (pe_bltn (v := .ty "bool") (by rfl) T.n_bool (by decide +kernel) rfl) pa_nil))) (pe_one (pe_cmpR op_eq (pv 0) (pv 1) (nomark _))))))) pss_nil)
      (pss_cons (ps_if (PW.pt (pw_or (pt_cmpR op_isN (pv 0) (pe_non) (nomark _)) (pw_or1 (pt_cmpR op_isN (pv 1) (pe_non) (nomark _))))) (pss_one (ps_ret (pe_and (pe_cmpR op_isN (pv 0) (pe_non) (nomark _)) (pe_one (pe_cmpR op_isN (pv 1) (pe_non) (nomark _)))))) pss_nil)
      (pss_cons (ps_if (pt_val (pe_callB call_isi (by rfl) T.n_isinstance (by decide +kernel) (pa_cons (pv 1) (pa_cons (pe_bltn (v := .ty "int") (by rfl) T.n_int (by decide +kernel) rfl) pa_nil)))) (pss_one (ps_ret (pe_and (pe_callB call_isi (by rfl) T.n_isinstance (by decide +kernel) (pa_cons (pv 0) (pa_cons (pe_bltn (v := .ty "int") (by rfl) T.n_int (by decide +kernel) rfl) pa_nil))) (pe_one (pe_cmpR op_eq (pv 0) (pv 1) (nomark _)))))) pss_nil)
      (pss_cons (ps_if (pt_val (pe_callB call_isi (by rfl) T.n_isinstance (by decide +kernel) (pa_cons (pv 1) (pa_cons (pe_bltn (v := .ty "str") (by rfl) T.n_str (by decide +kernel) rfl) pa_nil)))) (pss_one (ps_ret (pe_and (pe_callB call_isi (by rfl) T.n_isinstance (by decide +kernel) (pa_cons (pv 0) (pa_cons (pe_bltn (v := .ty "str") (by rfl) T.n_str (by decide +kernel) rfl) pa_nil))) (pe_one (pe_cmpR op_eq (pv 0) (pv 1) (nomark _)))))) pss_nil)
      (pss_cons (ps_if (PW.pt (pw_and (pt_val (pe_callB call_isi (by rfl) T.n_isinstance (by decide +kernel) (pa_cons (pv 1) (pa_cons (pe_bltn (v := .ty "tuple") (by rfl) T.n_tuple (by decide +kernel) rfl) pa_nil)))) (pw_and1 (pt_not (pt_val (pe_callB call_isi (by rfl) T.n_isinstance (by decide +kernel) (pa_cons (pv 0) (pa_cons (pe_bltn (v := .ty "tuple") (by rfl) T.n_tuple (by decide +kernel) rfl) pa_nil)))))))) (pss_one (ps_ret (pe_bl))) pss_nil)
      (pss_cons (ps_if (PW.pt (pw_and (pt_val (pe_callB call_isi (by rfl) T.n_isinstance (by decide +kernel) (pa_cons (pv 1) (pa_cons (pe_bltn (v := .ty "list") (by rfl) T.n_list (by decide +kernel) rfl) pa_nil)))) (pw_and1 (pt_not (pt_val (pe_callB call_isi (by rfl) T.n_isinstance (by decide +kernel) (pa_cons (pv 0) (pa_cons (pe_bltn (v := .ty "list") (by rfl) T.n_list (by decide +kernel) rfl) pa_nil)))))))) (pss_one (ps_ret (pe_bl))) pss_nil)
      (pss_cons (ps_if (pt_cmpR op_ne (pe_callB call_len_seq (by rfl) T.n_len (by decide +kernel) (pa_cons (pv 0) pa_nil)) (pe_callB call_len_seq (by rfl) T.n_len (by decide +kernel) (pa_cons (pv 1) pa_nil)) (nomark _)) (pss_one (ps_ret (pe_bl))) pss_nil)
      (pss_cons (ps_for PassesOwn.never rfl (pi_range1 (by rfl) T.n_range (pa_cons (pe_callB call_len_seq (by rfl) T.n_len (by decide +kernel) (pa_cons (pv 1) pa_nil)) pa_nil)) (pg_name (i := 2) sc__law_same.nd rfl (.inl rfl)) (pss_one (ps_if (pt_not (pt_val (pe_call (ok__law_same T n) (hr.mono (by omega)) (by rfl) T.g__law_same T.F__law_same.kp T.b__law_same .nil pass0 (pa_cons (pe_ix ix_seq (pv 0) (pv 2) (fun _ _ => rfl)) (pa_cons (pe_ix ix_seq (pv 1) (pv 2) (fun _ _ => rfl)) pa_nil))))) (pss_one (ps_ret (pe_bl))) pss_nil)))
      (pss_one (ps_ret (pe_bl))))))))))), ?_⟩
      rcases h1 with h1 | ⟨a1, xs1, ds1, rfl, rfl, h1, z1, p1⟩ | ⟨a1, xs1, ds1, rfl, rfl, h1, z1, p1⟩ <;> rcases h2 with h2 | ⟨a2, xs2, ds2, rfl, rfl, h2, z2, p2⟩ | ⟨a2, xs2, ds2, rfl, rfl, h2, z2, p2⟩
      · cases h1 <;> cases h2
        all_goals walk_at "ri"
        all_goals first | (rw [same_no (by intro z; cases z)] at q; exact q) | (rw [same_bl] at q; exact q) | (rw [same_int] at q; exact q) | (rw [same_str] at q; exact q) | (rw [same_non] at q; exact q)
      · have t2 := h2.sq
        cases h1
        all_goals (walk_at "ri"; rw [same_no (by intro z; cases z)] at q; exact q)
      · have t2 := h2.sq
        cases h1
        all_goals (walk_at "ri"; rw [same_no (by intro z; cases z)] at q; exact q)
      · have t1 := h1.sq
        cases h2
        all_goals (walk_at "ri"; rw [same_no (by intro z; cases z)] at q; exact q)
      · have t1 := h1.sq
        have t2 := h2.sq
        walk_at "ri"
        refine ⟨_, _, rfl, .inl t1, _, rfl, _, _, rfl, .inl t2, rfl, _, rfl, ?_⟩
        have l1 := pair_len p1
        have l2 := pair_len p2
        refine iteN (fun c => ?_) (fun c => ?_)
        · rw [same_no (by intro z; cases z; exact c (by rw [l1, l2]))] at q; exact q
        have c' : xs1.length = xs2.length := by have := V.int.inj c; omega
        refine ⟨_, rfl, _, _, rfl, .inl t2, _, rfl, by omega, by omega, for_range (lo := 0) (n := _) (fun j σ H' => ∃ x2, σ = [some (.ref a1), some (.ref a2), x2] ∧ H' = H ∧ ds1.take j = ds2.take j) ⟨_, rfl, rfl, rfl⟩ ?_ ?_⟩
        · rintro j σ H1 hj ⟨x2, rfl, rfl, et⟩
          have j2 : j < xs2.length := by omega
          have j1 : j < xs1.length := by omega
          obtain ⟨e1, g1, r1⟩ := pair_get p1 (List.getElem?_eq_getElem j1)
          obtain ⟨e2, g2, r2⟩ := pair_get p2 (List.getElem?_eq_getElem j2)
          refine ⟨_, rfl, _, rfl, .inl ⟨_, _, _, _, rfl, rfl, t1, at_of (j := j) (by omega) (List.getElem?_eq_getElem j1), ?_⟩⟩
          refine ⟨_, rfl, _, rfl, .inl ⟨_, _, _, _, rfl, rfl, t2, at_of (j := j) (by omega) (List.getElem?_eq_getElem j2), ?_⟩⟩
          refine ⟨x, _, _, e1, e2, rfl, r1, r2, _, rfl, ?_⟩
          refine iteB (fun b => ?_) (fun b => ?_)
          · have ne : e1 ≠ e2 := fun h => by rw [same_yes h] at b; cases b
            rw [same_no (by intro z; cases z; rw [g1] at g2; exact ne (Option.some.inj g2))] at q; exact q
          · have ee : e1 = e2 := by
              apply same_iff.mp
              cases h : sameD e1 e2 with
              | true => rfl
              | false => rw [h] at b; cases b
            subst ee
            exact ⟨_, rfl, rfl, by rw [List.take_add_one, List.take_add_one, et, g1, g2]⟩
        · rintro σ H1 ⟨x2, rfl, rfl, et⟩
          have ed : ds1 = ds2 := by
            rw [List.take_of_length_le (by omega), List.take_of_length_le (by omega)] at et
            exact et
          subst ed
          rw [same_yes rfl] at q; exact q
      · have t1 := h1.sq
        have t2 := h2.sq
        walk_at "ri"
        rw [same_no (by intro z; cases z)] at q; exact q
      · have t1 := h1.sq
        cases h2
        all_goals (walk_at "ri"; rw [same_no (by intro z; cases z)] at q; exact q)
      · have t1 := h1.sq
        have t2 := h2.sq
        walk_at "ri"
        rw [same_no (by intro z; cases z)] at q; exact q
      · have t1 := h1.sq
        have t2 := h2.sq
        walk_at "ri"
        refine ⟨_, _, rfl, .inr t1, _, rfl, _, _, rfl, .inr t2, rfl, _, rfl, ?_⟩
        have l1 := pair_len p1
        have l2 := pair_len p2
        refine iteN (fun c => ?_) (fun c => ?_)
        · rw [same_no (by intro z; cases z; exact c (by rw [l1, l2]))] at q; exact q
        have c' : xs1.length = xs2.length := by have := V.int.inj c; omega
        refine ⟨_, rfl, _, _, rfl, .inr t2, _, rfl, by omega, by omega, for_range (lo := 0) (n := _) (fun j σ H' => ∃ x2, σ = [some (.ref a1), some (.ref a2), x2] ∧ H' = H ∧ ds1.take j = ds2.take j) ⟨_, rfl, rfl, rfl⟩ ?_ ?_⟩
        · rintro j σ H1 hj ⟨x2, rfl, rfl, et⟩
          have j2 : j < xs2.length := by omega
          have j1 : j < xs1.length := by omega
          obtain ⟨e1, g1, r1⟩ := pair_get p1 (List.getElem?_eq_getElem j1)
          obtain ⟨e2, g2, r2⟩ := pair_get p2 (List.getElem?_eq_getElem j2)
          refine ⟨_, rfl, _, rfl, .inr (.inl ⟨_, _, _, _, rfl, rfl, t1, at_of (j := j) (by omega) (List.getElem?_eq_getElem j1), ?_⟩)⟩
          refine ⟨_, rfl, _, rfl, .inr (.inl ⟨_, _, _, _, rfl, rfl, t2, at_of (j := j) (by omega) (List.getElem?_eq_getElem j2), ?_⟩)⟩
          refine ⟨x, _, _, e1, e2, rfl, r1, r2, _, rfl, ?_⟩
          refine iteB (fun b => ?_) (fun b => ?_)
          · have ne : e1 ≠ e2 := fun h => by rw [same_yes h] at b; cases b
            rw [same_no (by intro z; cases z; rw [g1] at g2; exact ne (Option.some.inj g2))] at q; exact q
          · have ee : e1 = e2 := by
              apply same_iff.mp
              cases h : sameD e1 e2 with
              | true => rfl
              | false => rw [h] at b; cases b
            subst ee
            exact ⟨_, rfl, rfl, by rw [List.take_add_one, List.take_add_one, et, g1, g2]⟩
        · rintro σ H1 ⟨x2, rfl, rfl, et⟩
          have ed : ds1 = ds2 := by
            rw [List.take_of_length_le (by omega), List.take_of_length_le (by omega)] at et
            exact et
          subst ed
          rw [same_yes rfl] at q; exact q
end
theorem nsame {d : PyData} : (!sameD d d) = false := by rw [same_yes rfl]; rfl
end My

namespace My
open PySem L2
/-! ### steps, programs -/
abbrev Stp := Str × Int
def StpAt (H : Hp) (v : V) (s : Stp) : Prop := ∃ t, v = .ref t ∧ H t = some (.tup [.str s.1, .int s.2])
abbrev Stps (H : Hp) (vs : List V) (ss : List Stp) : Prop := Paired (StpAt H) vs ss
/-- tuples stay -/
def TKeep (H H' : Hp) : Prop := ∀ t xs, H t = some (.tup xs) → H' t = some (.tup xs)
theorem TKeep.refl (H : Hp) : TKeep H H := fun _ _ h => h
theorem TKeep.trans {H H1 H2 : Hp} (a : TKeep H H1) (b : TKeep H1 H2) : TKeep H H2 := fun t xs h => b t xs (a t xs h)
theorem TKeep.same {H H' : Hp} (s : Same H H') : TKeep H H' := fun t xs h => s t _ h
theorem TKeep.but {x : Addr} {H H' : Hp} (b : But x H H') (n : ∀ xs, H x ≠ some (.tup xs)) : TKeep H H' := fun t xs h => b t _ (fun e => n xs (e ▸ h)) h
theorem Stps.keep {H H' : Hp} {vs : List V} {ss : List Stp} (h : Stps H vs ss) (k : TKeep H H') : Stps H' vs ss := L2.Paired.mapP h fun _ _ ⟨t, e, q⟩ => ⟨t, e, k t _ q⟩
theorem Stps.same {H H' : Hp} {vs : List V} {ss : List Stp} (h : Stps H vs ss) (s : Same H H') : Stps H' vs ss := h.keep (.same s)
theorem pair_app {α β : Type} {F : α → β → Prop} : ∀ {l l' : List α} {m m' : List β}, Paired F l m → Paired F l' m' → Paired F (l ++ l') (m ++ m')
  | _, _, _, _, .nil, q => q
  | _, _, _, _, .cons r t, q => .cons r (pair_app t q)
theorem pair_take {α β : Type} {F : α → β → Prop} : ∀ {l : List α} {m : List β} (n : Nat), Paired F l m → Paired F (l.take n) (m.take n)
  | _, _, 0, _ => .nil
  | _, _, _ + 1, .nil => .nil
  | _, _, n + 1, .cons r t => .cons r (pair_take n t)
theorem pair_drop {α β : Type} {F : α → β → Prop} : ∀ {l : List α} {m : List β} (n : Nat), Paired F l m → Paired F (l.drop n) (m.drop n)
  | _, _, 0, h => h
  | _, _, _ + 1, .nil => .nil
  | _, _, n + 1, .cons _ t => pair_drop n t
def goodS (s : Stp) : Prop := (s.1 = "own" ∨ s.1 = "share" ∨ s.1 = "drop") ∧ 0 ≤ s.2
def deedsV : List V := [.str "own", .str "share", .str "drop"]
theorem inDeeds {z : Str} (h : z = "own" ∨ z = "share" ∨ z = "drop") : inV (.str z) deedsV = true := by rcases h with rfl | rfl | rfl <;> decide +kernel
/-- a program of the class at C -/
def Pg (C : Addr) (H : Hp) (x : Addr) (ss : List Stp) : Prop := ∃ dx l vs, H x = some (.ins C dx [("_steps", .ref l)]) ∧ H l = some (.lst vs) ∧ Stps H vs ss ∧ vs.length ≤ 1000
theorem Pg.same {C : Addr} {H H' : Hp} {x : Addr} {ss : List Stp} (h : Pg C H x ss) (s : Same H H') : Pg C H' x ss := let ⟨dx, l, vs, a, b, c, d⟩ := h; ⟨dx, l, vs, s _ _ a, s _ _ b, c.same s, d⟩
theorem steps_look (l : Addr) : ([("_steps", V.ref l)] : List (Str × V)).lookup ("_steps" : Str) = some (.ref l) := by rfl
/-- the data of steps -/
def stpD (s : Stp) : PyData := .tuple [.str s.1, .int s.2]
theorem stpD_inj {a b : Stp} (h : stpD a = stpD b) : a = b := by
  unfold stpD at h
  simp only [PyData.tuple.injEq, List.cons.injEq, PyData.str.injEq, PyData.int.injEq, and_true] at h
  exact Prod.ext h.1 h.2
theorem stpsD_inj : ∀ {a b : List Stp}, a.map stpD = b.map stpD → a = b
  | [], [], _ => rfl
  | [], _ :: _, h => by simp at h
  | _ :: _, [], h => by simp at h
  | x :: a, y :: b, h => by
    simp only [List.map_cons, List.cons.injEq] at h
    rw [stpD_inj h.1, stpsD_inj h.2]
theorem stpsDn {K : PySem.W.Frag} {x : Addr} {H : Hp} {vs : List V} {ss : List Stp} (h : Stps H vs ss) (n : ∀ xs, H x ≠ some (.tup xs)) : Paired (Dn K x H 1) vs (ss.map stpD) := by
  induction h with
  | nil => exact .nil
  | cons r t ih =>
    obtain ⟨t, rfl, e⟩ := r
    exact .cons (Dn.tup (fun q => n _ (q ▸ e)) (SqT.of e) (.cons (.str _) (.cons (.int _) .nil))) ih
theorem stpsDL {K : PySem.W.Frag} {x l : Addr} {H : Hp} {vs : List V} {ss : List Stp} (hl : H l = some (.lst vs)) (h : Stps H vs ss) (nl : l ≠ x) (n : ∀ xs, H x ≠ some (.tup xs)) (hz : vs.length ≤ 100000) : Dn K x H 2 (.ref l) (.list (ss.map stpD)) :=
  Dn.lst nl (SqL.of hl) (stpsDn h n) hz
end My

namespace My
open PySem L2
def spSound : Sp := fun vs H Q _ => ∃ (t : Addr) (s : Stp), vs = [.ref t] ∧ H t = some (.tup [.str s.1, .int s.2]) ∧ goodS s ∧ ∀ p, H p = none → Q (.ref p) (upd H p (.tup [.str s.1, .int s.2]))
def spPInit (C : Addr) : Sp := fun vs H Q _ => ∃ (x dx p : Addr) (us : List V) (ss : List Stp), vs = [.ref x, .ref p] ∧ H x = some (.ins C dx []) ∧ H p = some (.tup us) ∧ Stps H us ss ∧ us.length ≤ 1000 ∧ (∀ s ∈ ss, goodS s) ∧
  ∀ H' l vs', But x H H' → H' x = some (.ins C dx [("_steps", .ref l)]) → H l = none → H' l = some (.lst vs') → Stps H' vs' ss → vs'.length = us.length → Q .non H'
/-- what C(..) asks, of the new instance at x -/
theorem init_pg {C x dx : Addr} {H : Hp} {us : List V} {ss : List Stp} {Q : VK} {E : XK} (hx : H x = some (.ins C dx [])) (hs : Stps H us ss) (hl : us.length ≤ 1000) (hg : ∀ s ∈ ss, goodS s)
    (q : ∀ H', But x H H' → Pg C H' x ss → Q .non H') : spStar 1 (spPInit C) (.ref x :: us) H Q E :=
  ⟨[.ref x], us, rfl, rfl, Nat.le_trans hl (by decide), fun p np => ⟨x, dx, p, us, ss, rfl, same_new np _ _ hx, upd_same, hs.same (same_new np), hl, hg, fun H' l vs' b h1 _ h2 h3 h4 =>
    q H' (fun y o n h => b y o n (same_new np _ _ h)) ⟨dx, l, vs', h1, h2, h3, by omega⟩⟩⟩
section
variable {w : World} {K : PySem.W.Frag} {mg : Str → Option Value} {base : Heap}
theorem ok_sound_step (T : Txt K mg) : FnOk PP w K mg base CX0 1 T.a_sound_step T.fd_sound_step ["step"] spSound := by
  refine T.F_sound_step.ok sc_sound_step (fun vs H Q E h => ?_) (fun cdv A outer s H vs Q E hr h => ?_)
  · obtain ⟨t, s, rfl, _⟩ := h; rfl
  · obtain ⟨t, s, rfl, ht, hg, q⟩ := h
    refine ⟨_, (pss_cons (ps_asg (pv 0) (pg_tup rfl (pgs_cons (pg_name (i := 1) sc_sound_step.nd rfl (.inl rfl)) (pgs_cons (pg_name (i := 2) sc_sound_step.nd rfl (.inl rfl)) pgs_nil))))
      (pss_cons (ps_if (PW.pt (pw_or (pt_cmpR op_notIn_seq (pv 1) (pe_glob (v := .ref T.k_DEEDS) (by rfl) T.g_DEEDS rfl) (by with_unfolding_all rfl)) (pw_or1 (pt_cmpR op_lt (pv 2) (pe_int) (nomark _))))) (pss_one (ps_never)) pss_nil)
      (pss_one (ps_ret (pe_tup (pa_cons (pv 1) (pa_cons (pv 2) pa_nil))))))), ?_⟩
    refine ⟨_, rfl, t, _, rfl, SqT.of ht, rfl, _, _, rfl, _, _, rfl, rfl, ?_⟩
    refine ⟨_, rfl, _, _, rfl, .inr (T.q_DEEDS _), rfl, rfl, _, rfl, iteNo (by rw [show [V.str "own", .str "share", .str "drop"] = deedsV from rfl, inDeeds hg.1]; rfl) ?_⟩
    refine ⟨_, rfl, _, _, rfl, rfl, _, rfl, iteNo (decide_eq_false (by have := hg.2; omega)) ?_⟩
    exact ⟨_, rfl, _, rfl, by show 2 ≤ sizeLine; decide, fun p hp => q p hp⟩
theorem ok_Program_init (T : Txt K mg) : FnR PP w K mg base CX0 3 T.a_Program_init (fun vs H Q _ => spStar 1 (spPInit T.c_Program) vs H Q fun _ _ _ => False) := by
  refine FnR.calm (Fun.starX (k := 2) (ps := ["self"]) T.F_Program_init sc_Program_init T.bs_Program_init fun cdv A outer s H vs Q E hr h => ?_)
  obtain ⟨x, dx, p, us, ss, rfl, hx, hp, hs, hl, hg, q⟩ := h
  refine ⟨_, (pss_one (ps_fld (pv 0) (pe_lc (own := [("step", 2)]) (g := (gName 2)) (by rfl) sc_Program_init.nd (pi_tup (pv 1)) (blkOk_by (own := [("step", 2)]) (N := ["self", "steps", "step"]) (sc := defScope S_Program_init) (by decide +kernel)) (fun _ _ _ _ _ => (pg_name (i := 2) sc_Program_init.nd rfl (.inl rfl))) (fun _ _ _ _ _ => pts_nil) (fun _ _ _ _ _ => (pe_call (ok_sound_step T) (hr.mono (by omega)) (by rfl) T.g_sound_step T.F_sound_step.kp T.b_sound_step .nil pass0 (pa_cons (pv 2) pa_nil)))) rfl)), ?_⟩
  have lss := pair_len hs
  refine ⟨_, rfl, p, rfl, ⟨_, SqT.of hp⟩, fun D hD => ?_⟩
  have nxD : x ≠ D := ne_of_none hx hD
  have npD : p ≠ D := ne_of_none hp hD
  refine lc_tup (K := K) (a := p) (xs := us) (fun i H' => ∃ vs', Same H H' ∧ H' D = some (.lst vs') ∧ Stps H' vs' (ss.take i) ∧ vs'.length = i) ⟨[], same_new hD, upd_same, .nil, rfl⟩ (fun i H' _ ⟨_, s1, _⟩ => SqT.of (s1 _ _ hp)) ?_ ?_
  · rintro i v H1 hv ⟨vs', s1, h1, st1, l1⟩
    obtain ⟨y, hy, t, rfl, ht⟩ := pair_get hs hv
    have hi := (List.getElem?_eq_some_iff.mp hv).1
    refine ⟨rfl, _, rfl, t, y, rfl, s1 _ _ ht, hg y (List.mem_of_getElem? hy), fun u nu => ?_⟩
    have s2 := same_new (o := .tup [.str y.1, .int y.2]) nu
    refine ⟨_, s2 _ _ h1, Nat.lt_of_le_of_lt (by omega : _ ≤ 1000) (by decide), vs' ++ [.ref u], same_mut (s1.trans s2) hD, upd_same, ?_, by rw [List.length_append, l1]; rfl⟩
    have nuD : u ≠ D := (ne_of_none h1 nu).symm
    rw [List.take_add_one, hy]
    refine pair_app (Stps.keep st1 fun a xs e => ?_) (.cons ⟨u, rfl, by rw [upd_ne nuD]; exact upd_same⟩ .nil)
    rw [upd_ne (fun z => by rw [z, h1] at e; cases e)]
    exact s2 _ _ e
  · rintro H1 ⟨vs', s1, h1, st1, l1⟩
    rw [List.take_of_length_le (by omega)] at st1
    refine ⟨_, rfl, x, _, dx, _, rfl, s1 _ _ hx, T.cl_Program, T.no_Program__steps, by show 0 < 1000; decide, ?_⟩
    have hx1 := s1 _ _ hx
    refine q _ D vs' (fun y o n h => by rw [upd_ne n]; exact s1 _ _ h) upd_same hD (by rw [upd_ne nxD.symm]; exact h1) (Stps.keep st1 fun a xs e => ?_) l1
    rw [upd_ne (fun z => by rw [z, hx1] at e; cases e)]
    exact e
end
end My

namespace My
open PySem L2
/-! ### lists of ints: in, flat; slices -/
theorem flat_ints (ns : List Int) : (ns.map V.int).all flatV = true := by
  rw [List.all_eq_true]
  intro v h
  obtain ⟨n, _, rfl⟩ := List.mem_map.mp h
  rfl
theorem in_ints (n : Int) (ns : List Int) : inV (.int n) (ns.map V.int) = decide (n ∈ ns) := by
  unfold inV
  rw [List.any_map, Bool.eq_iff_iff, List.any_eq_true, decide_eq_true_iff]
  constructor
  · rintro ⟨m, h, e⟩
    have e : (m == n) = true := e
    rw [← beq_iff_eq.mp e]; exact h
  · intro h
    exact ⟨n, h, by show (n == n) = true; simp⟩
theorem cut_to (xs : List V) (n : Nat) : cutV xs none (some (n : Int)) = xs.take n := by
  unfold cutV HT.sIx
  simp only [List.drop_zero, Nat.sub_zero]
  have h0 : ¬ (n : Int) < 0 := by omega
  simp only [h0, if_false]
  by_cases h : n ≤ xs.length
  · congr 1
    omega
  · rw [List.take_of_length_le (by omega), List.take_of_length_le (by omega)]
theorem cut_from (xs : List V) (n : Nat) : cutV xs (some (n : Int)) none = xs.drop n := by
  unfold cutV HT.sIx
  have h0 : ¬ (n : Int) < 0 := by omega
  simp only [h0, if_false]
  by_cases h : n ≤ xs.length
  · rw [List.take_of_length_le (by rw [List.length_drop]; omega)]
    congr 1
    omega
  · rw [List.drop_eq_nil_of_le (by omega), List.drop_eq_nil_of_le (by omega), List.take_nil]
end My

namespace My
open PySem L2
/-! ### what programs answer -/
def thingsOf (ss : List Stp) : List Int := ss.foldl (fun (acc : List Int) (s : Stp) => if s.1 ≠ ("drop" : Str) ∧ s.2 ∉ acc then acc ++ [s.2] else acc) []
theorem things_take {ss : List Stp} {i : Nat} {s : Stp} (h : ss[i]? = some s) : thingsOf (ss.take (i + 1)) = if s.1 ≠ ("drop" : Str) ∧ s.2 ∉ thingsOf (ss.take i) then thingsOf (ss.take i) ++ [s.2] else thingsOf (ss.take i) := by
  unfold thingsOf
  rw [List.take_add_one, h, List.foldl_append]
  rfl
theorem things_len (ss : List Stp) : ∀ i, (thingsOf (ss.take i)).length ≤ i
  | 0 => Nat.le_refl _
  | i + 1 => by
    have ih := things_len ss i
    cases h : ss[i]? with
    | none => rw [List.take_add_one, h, Option.toList_none, List.append_nil]; omega
    | some s => rw [things_take h]; split <;> first | (rw [List.length_append, List.length_singleton]; omega) | omega
def modeOf (ss : List Stp) (n : Int) : Str := match ss.find? (fun s : Stp => decide (s.2 = n) && !decide (s.1 = ("drop" : Str))) with | some s => s.1 | none => ""
theorem mode_at {ss : List Stp} {n : Int} {i : Nat} {s : Stp} (h : ss[i]? = some s) (hb : ∀ (j : Nat) (r : Stp), j < i → ss[j]? = some r → ¬ (r.2 = n ∧ r.1 ≠ ("drop" : Str))) (hs : s.2 = n ∧ s.1 ≠ "drop") : modeOf ss n = s.1 := by
  have hi := (List.getElem?_eq_some_iff.mp h).1
  have e : ss.find? (fun s : Stp => decide (s.2 = n) && !decide (s.1 = ("drop" : Str))) = some s := by
    rw [List.find?_eq_some_iff_getElem]
    refine ⟨by rw [decide_eq_true hs.1, decide_eq_false hs.2]; rfl, i, hi, (List.getElem?_eq_some_iff.mp h).2, fun j hj => ?_⟩
    have q := hb j ss[j] hj (List.getElem?_eq_getElem _)
    by_cases q1 : (ss[j]).2 = n
    · have q2 : (ss[j]).1 = "drop" := Classical.not_not.mp fun z => q ⟨q1, z⟩
      rw [decide_eq_true q2]; simp
    · rw [decide_eq_false q1]; rfl
  unfold modeOf
  rw [e]
theorem mode_no {ss : List Stp} {n : Int} (hb : ∀ (j : Nat) (r : Stp), ss[j]? = some r → ¬ (r.2 = n ∧ r.1 ≠ ("drop" : Str))) : modeOf ss n = "" := by
  have e : ss.find? (fun s : Stp => decide (s.2 = n) && !decide (s.1 = ("drop" : Str))) = none := by
    rw [List.find?_eq_none]
    intro s hs
    obtain ⟨j, hj⟩ := List.mem_iff_getElem?.mp hs
    have q := hb j s hj
    by_cases q1 : s.2 = n
    · have q2 : s.1 = "drop" := Classical.not_not.mp fun z => q ⟨q1, z⟩
      rw [decide_eq_true q2]; simp
    · rw [decide_eq_false q1]; simp
  unfold modeOf
  rw [e]
theorem eqv_stp (a b : Stp) : PyData.eqv (stpD a) (stpD b) = decide (a = b) := by
  unfold stpD
  simp only [PyData.eqv, PyData.eqvAll, Bool.and_true]
  rw [Bool.eq_iff_iff, Bool.and_eq_true, beq_iff_eq, beq_iff_eq, decide_eq_true_iff]
  exact ⟨fun h => Prod.ext h.1 h.2, fun h => by rw [h]; exact ⟨rfl, rfl⟩⟩
theorem eqv_stps : ∀ a b : List Stp, PyData.eqvAll (a.map stpD) (b.map stpD) = decide (a = b)
  | [], [] => by simp [PyData.eqvAll]
  | [], _ :: _ => by simp [PyData.eqvAll]
  | _ :: _, [] => by simp [PyData.eqvAll]
  | x :: a, y :: b => by
    simp only [List.map_cons, PyData.eqvAll, eqv_stp, eqv_stps a b]
    rw [Bool.eq_iff_iff, Bool.and_eq_true, decide_eq_true_iff, decide_eq_true_iff, decide_eq_true_iff]
    simp
theorem stp_ok {s : Stp} (h : goodS s) : PyData.canLay0 (stpD s) = true := by
  unfold stpD
  have : PyData.strOk s.1 = true := by rcases h.1 with e | e | e <;> (rw [e]; decide +kernel)
  simp [PyData.canLay0, PyData.canLayAll0, this]
theorem stps_shaped {ss : List Stp} (h : ∀ s ∈ ss, goodS s) : SeqAt.shaped (.list (ss.map stpD)) = true := by
  have h1 : ∀ l : List Stp, (∀ s ∈ l, goodS s) → PyData.canLayAll0 (l.map stpD) = true := fun l => by
    induction l with
    | nil => intro _; rfl
    | cons a r ih => intro q; rw [List.map_cons, PyData.canLayAll0, stp_ok (q a (by simp)), ih fun s hs => q s (by simp [hs])]; rfl
  have h2 : ∀ l : List Stp, PyData.depthAll (l.map stpD) ≤ 1 := fun l => by
    induction l with
    | nil => exact Nat.zero_le _
    | cons a r ih =>
      rw [List.map_cons, PyData.depthAll]
      have : PyData.depth (stpD a) = 1 := by unfold stpD; simp [PyData.depth, PyData.depthAll]
      omega
  unfold SeqAt.shaped
  rw [PyData.canLay0, h1 ss h, PyData.depth, Bool.true_and, decide_eq_true_iff]
  have := h2 ss
  omega
theorem stpsDp {K : PySem.W.Frag} {H : Hp} : ∀ {vs : List V} {ss : List Stp}, Stps H vs ss → DpAll K H vs (ss.map stpD)
  | _, _, .nil => .nil
  | _, _, .cons ⟨_, e, h⟩ t => by
    subst e
    exact .cons (.tup (SqT.of h) (.cons (.str _) (.cons (.int _) .nil))) (stpsDp t)
def spPEq (C : Addr) : Sp := fun vs H Q _ => ∃ (x y : Addr) (ss tt : List Stp), vs = [.ref x, .ref y] ∧ Pg C H x ss ∧ Pg C H y tt ∧ (∀ s ∈ ss, goodS s) ∧ (∀ s ∈ tt, goodS s) ∧ Q (.bl (decide (ss = tt))) H
/-- the right operand of +: its steps -/
def Rgt (K : PySem.W.Frag) (C : Addr) (H : Hp) (y : Addr) (tt : List Stp) : Prop := Pg C H y tt ∨ ∃ us, (SqL K H y us ∨ SqT K H y us) ∧ Stps H us tt
def spPAdd (K : PySem.W.Frag) (C : Addr) : Sp := fun vs H Q _ => ∃ (x y : Addr) (ss tt : List Stp), vs = [.ref x, .ref y] ∧ Pg C H x ss ∧ Rgt K C H y tt ∧ ss.length + tt.length ≤ 1000 ∧ (∀ s ∈ ss ++ tt, goodS s) ∧
  ∀ z H', Same H H' → H z = none → Pg C H' z (ss ++ tt) → Q (.ref z) H'
def spThings (C : Addr) : Sp := fun vs H Q _ => ∃ (x : Addr) (ss : List Stp), vs = [.ref x] ∧ Pg C H x ss ∧ ∀ t H', Same H H' → H t = none → H' t = some (.tup ((thingsOf ss).map V.int)) → Q (.ref t) H'
def spMode (C : Addr) : Sp := fun vs H Q _ => ∃ (x : Addr) (n : Int) (ss : List Stp), vs = [.ref x, .int n] ∧ Pg C H x ss ∧ Q (.str (modeOf ss n)) H
def spBegin (C X : Addr) : Sp := fun vs H Q E => ∃ (x : Addr) (n : Int) (ss : List Stp), vs = [.ref x, .int n] ∧ Pg C H x ss ∧ (∀ s ∈ ss, goodS s) ∧
  (∀ m : Nat, n = m → m ≤ ss.length → ∀ z H', Same H H' → H z = none → Pg C H' z (ss.take m) → Q (.ref z) H') ∧
  (n < 0 ∨ (ss.length : Int) < n → ∀ H' d, Same H H' → H d = none → H' d = some (.xd [("most", .int ss.length)]) → E (.ref X) (some d) H')
section
variable {w : World} {K : PySem.W.Frag} {mg : Str → Option Value} {base : Heap}
theorem ok_Program_iter (T : Txt K mg) : IterOk PP w K mg base 1 T.a_Program_iter T.c_Program "_steps" := fun A outer s H a dx l fs xs Q E hr e0 ha hf hq q => by
  refine fn_here T.F_Program_iter sc_Program_iter T.b_Program_iter hr e0 (vs := [.ref a]) (.cons rfl .nil) rfl fun cdv hr => ⟨_, (pss_one (ps_ret (pe_callB ItX.call_iterN (by rfl) T.n_iter (by decide +kernel) (pa_cons (pe_fld (pv 0) rfl) pa_nil)))), ?_⟩
  exact ⟨_, rfl, a, _, dx, _, _, rfl, ha, T.cl_Program, T.no_Program__steps, hf, l, xs, rfl, hq, fun it n1 n2 => q it n1 n2⟩
theorem ok_Program_eq (T : Txt K mg) : FnOk PP w K mg base CX0 1 T.a_Program_eq T.fd_Program_eq ["self", "other"] (spPEq T.c_Program) := by
  refine T.F_Program_eq.ok sc_Program_eq (fun vs H Q E h => ?_) (fun cdv A outer s H vs Q E hr h => ?_)
  · obtain ⟨x, y, ss, tt, rfl, _⟩ := h; rfl
  · obtain ⟨x, y, ss, tt, rfl, ⟨dx, l, us, hx, hl, hs, _⟩, ⟨dy, m, vs, hy, hm, ht, _⟩, gs, gt, q⟩ := h
    refine ⟨_, (pss_one (ps_ret (pe_and (pe_callB call_isi (by rfl) T.n_isinstance (by decide +kernel) (pa_cons (pv 1) (pa_cons (pe_glob (v := .ref T.c_Program) (by rfl) T.g_Program rfl) pa_nil))) (pe_one (pe_cmpR (op_eqD hr.units) (pe_fld (pv 0) rfl) (pe_fld (pv 1) rfl) (nomark _)))))), ?_⟩
    refine ⟨_, rfl, _, _, _, _, true, rfl, ClsV.own _, .base (T.ti_Program _ _ _ _ hy), T.kk_Program, _, rfl, iteT ?_⟩
    refine ⟨_, rfl, x, _, dx, _, _, rfl, hx, T.cl_Program, T.no_Program__steps, steps_look l, _, rfl, y, _, dy, _, _, rfl, hy, T.cl_Program, T.no_Program__steps, steps_look m, _, _, .lst (SqL.of hl) (stpsDp hs), .lst (SqL.of hm) (stpsDp ht), stps_shaped gs, stps_shaped gt, ?_⟩
    rw [PyData.eqv, eqv_stps]
    exact q
theorem ok_Program_add (T : Txt K mg) : FnOk PP w K mg base CX0 5 T.a_Program_add T.fd_Program_add ["self", "other"] (spPAdd K T.c_Program) := by
  refine T.F_Program_add.ok sc_Program_add (fun vs H Q E h => ?_) (fun cdv A outer s H vs Q E hr h => ?_)
  · obtain ⟨x, y, ss, tt, rfl, _⟩ := h; rfl
  · obtain ⟨x, y, ss, tt, rfl, ⟨dx, l, us, hx, hl, hs, _⟩, hy, hz, hg, q⟩ := h
    refine ⟨_, (pss_cons (ps_if (pt_val (pe_callB call_isiT (by rfl) T.n_isinstance (by decide +kernel) (pa_cons (pv 1) (pa_cons (pe_tup (pa_cons (pe_bltn (v := .ty "list") (by rfl) T.n_list (by decide +kernel) rfl) (pa_cons (pe_bltn (v := .ty "tuple") (by rfl) T.n_tuple (by decide +kernel) rfl) pa_nil))) pa_nil)))) (pss_one (ps_ret (pe_makeS2 T.mk_Program (ok_Program_init T) (hr.mono (by omega)) (by rfl) T.g_Program pass0 (StX.pa_star (pe_fld (pv 0) rfl) (StX.pa_star (pv 1) pa_nil))))) pss_nil)
      (pss_cons (ps_if (pt_val (pe_callB call_isi (by rfl) T.n_isinstance (by decide +kernel) (pa_cons (pv 1) (pa_cons (pe_glob (v := .ref T.c_Program) (by rfl) T.g_Program rfl) pa_nil)))) (pss_one (ps_ret (pe_makeS2 T.mk_Program (ok_Program_init T) (hr.mono (by omega)) (by rfl) T.g_Program pass0 (StX.pa_star (pe_fld (pv 0) rfl) (StX.pa_star (pe_fld (pv 1) rfl) pa_nil))))) pss_nil)
      (pss_one ps_never))), ?_⟩
    refine ⟨_, rfl, by show 2 ≤ sizeLine; decide, fun c hc => ?_⟩
    have s1 := same_new (o := .tup [.ty "list", .ty "tuple"]) hc
    have ls := pair_len hs
    rcases hy with ⟨dy, m, vs, hy, hm, ht, _⟩ | ⟨vs, hy, ht⟩
    · have lt := pair_len ht
      refine ⟨_, _, _, _, _, false, rfl, upd_same, .cons (.ty _) (.cons (.ty _) .nil), .base (T.ti_Program _ _ _ _ (s1 _ _ hy)), kitAny_cons T.ko_Program_list (fun _ => kitAny_cons T.ko_Program_tuple (fun _ => rfl) (fun z => nomatch z)) (fun z => nomatch z), _, rfl, iteF ?_⟩
      refine ⟨_, rfl, _, _, _, _, true, rfl, ClsV.own _, .base (T.ti_Program _ _ _ _ (s1 _ _ hy)), T.kk_Program, _, rfl, iteT ?_⟩
      refine ⟨_, rfl, x, _, dx, _, _, rfl, s1 _ _ hx, T.cl_Program, T.no_Program__steps, steps_look l, l, us, rfl, .inr (SqL.of (s1 _ _ hl)), _, rfl, y, _, dy, _, _, rfl, s1 _ _ hy, T.cl_Program, T.no_Program__steps, steps_look m, m, vs, rfl, .inr (SqL.of (s1 _ _ hm)), ?_⟩
      intro z dz nz ndz _
      refine init_pg (us := us ++ (vs ++ [])) (ss := ss ++ tt) upd_same ?_ (by rw [List.length_append, List.length_append]; simp; omega) hg fun H8 b8 p8 => ⟨rfl, q z H8 (s1.trans (same_make nz ndz b8)) (s1.free nz) p8⟩
      rw [List.append_nil]
      have s2 := s1.trans (same_make (C := T.c_Program) nz ndz (But.refl z _))
      exact pair_app (hs.same s2) (ht.same s2)
    · have lt := pair_len ht
      have hT : ∃ tn, TyX K (upd H c (.tup [.ty "list", .ty "tuple"])) (.ref y) (.type tn) ∧ PySem.W.kitAny K (.type tn) [.type "list", .type "tuple"] = some true := by
        rcases hy with hy | hy
        · exact ⟨"list", tyL (s1.seq hy), kitAny_cons (b := true) (r := true) (kit_ty (by decide +kernel)) (fun z => nomatch z) fun _ => rfl⟩
        · exact ⟨"tuple", tyT (same_sqT s1 hy), kitAny_cons (b := false) (kit_ty (by decide +kernel)) (fun _ => kitAny_cons (b := true) (r := true) (kit_ty (by decide +kernel)) (fun z => nomatch z) fun _ => rfl) (fun z => nomatch z)⟩
      obtain ⟨tn, t1, t2⟩ := hT
      refine ⟨_, _, _, _, _, true, rfl, upd_same, .cons (.ty _) (.cons (.ty _) .nil), t1, t2, _, rfl, iteT ?_⟩
      refine ⟨_, rfl, x, _, dx, _, _, rfl, s1 _ _ hx, T.cl_Program, T.no_Program__steps, steps_look l, l, us, rfl, .inr (SqL.of (s1 _ _ hl)), _, rfl, y, vs, rfl, hy.elim (fun h => .inr (s1.seq h)) (fun h => .inl (same_sqT s1 h)), ?_⟩
      intro z dz nz ndz _
      refine init_pg (us := us ++ (vs ++ [])) (ss := ss ++ tt) upd_same ?_ (by rw [List.length_append, List.length_append]; simp; omega) hg fun H8 b8 p8 => ⟨rfl, q z H8 (s1.trans (same_make nz ndz b8)) (s1.free nz) p8⟩
      rw [List.append_nil]
      have s2 := s1.trans (same_make (C := T.c_Program) nz ndz (But.refl z _))
      exact pair_app (hs.same s2) (ht.same s2)
end
end My

namespace L2
open PySem
theorem for_str {z : Str} {g : TG} {tb : TS} {D : Ends} {σ : L2.St} {H : Hp} (Pv : Nat → L2.St → Hp → Prop) (h0 : Pv 0 σ H)
    (hs : ∀ i c σ H, (TL.tl z)[i]? = some c → Pv i σ H → g (.str ⟨#[c]⟩) σ H fun σ2 H2 => tb { D with nx := Pv (i + 1), ct := Pv (i + 1), bk := D.nx } σ2 H2) (hd : ∀ σ H, Pv z.length σ H → D.nx σ H) :
    ∃ W : Nat → Nat → L2.St → Hp → Prop, (∃ m, W 0 m σ H) ∧ ∀ i m σ H, W i m σ H →
      ((Its z).stop i H ∧ D.nx σ H) ∨ ((Its z).go i H ∧ ∃ N : L2.St → Hp → Prop, (∀ σ' H', N σ' H' → ∃ m', m' < m ∧ W (i + 1) m' σ' H') ∧ ∀ x H', (Its z).yld i H x H' → g x σ H' fun σ2 H2 => tb { D with nx := N, ct := N, bk := D.nx } σ2 H2) := by
  refine ⟨fun i m σ H => m = z.length - i ∧ i ≤ z.length ∧ Pv i σ H, ⟨z.length, by simp, Nat.zero_le _, h0⟩, ?_⟩
  rintro i m σ H ⟨rfl, hi, p⟩
  by_cases hlt : i < z.length
  · refine .inr ⟨hlt, Pv (i + 1), fun σ' H' p' => ⟨z.length - (i + 1), by omega, rfl, hlt, p'⟩, fun x H' y => ?_⟩
    obtain ⟨e, c, hc, ex⟩ := y
    subst e ex
    exact hs i c σ _ (by show z.cps.toList[i]? = some c; rw [Array.getElem?_toList]; exact hc) p
  · have e : i = z.length := by omega
    subst e
    exact .inl ⟨Nat.le_refl _, hd σ H p⟩
end L2
namespace L2
open PySem
theorem pg_tupK {X : Cx} {K : PySem.W.Frag} {es : List Expr} {k : Nat} {t : TGs} {n : Nat} {pos : Pos} (hK : X.K = K) (hc : X.calm = true) (h : PGs X es t)
    (hn : (assignEach es X.env).length = n := by rfl) (hst : (assignEach es X.env).findIdx? (·.1) = none := by rfl) : PG X (.Tuple es k pos) (gTup K n t) := hK ▸ pg_tup hc h hn hst
end L2

namespace My
open PySem L2
/-! ### texts of programs, as lists of signs -/
inductive Q7 where
  | d (p : List Nat) | n0 | z | m (c : Nat) | c | r
  deriving DecidableEq
def deedL : List (List Nat) := [[111, 119, 110], [115, 104, 97, 114, 101], [100, 114, 111, 112]]
def stepQ : Q7 → Nat → Q7
  | .d p, x => if deedL.any (fun w => (p ++ [x]).isPrefixOf w) then .d (p ++ [x]) else if x = 32 ∧ p ∈ deedL then .n0 else .r
  | .n0, x => if x = 48 then .z else if 49 ≤ x ∧ x ≤ 57 then .m 1 else .r
  | .z, x => if x = 44 then .c else .r
  | .m k, x => if 48 ≤ x ∧ x ≤ 57 then (if k < 9 then .m (k + 1) else .r) else if x = 44 then .c else .r
  | .c, x => if x = 32 then .d [] else .r
  | .r, _ => .r
def run (q : Q7) (l : List Nat) : Q7 := l.foldl stepQ q
def okQ (q : Q7) : Bool := match q with | .z => true | .m _ => true | _ => false
theorem run_app (q : Q7) (a b : List Nat) : run q (a ++ b) = run (run q a) b := List.foldl_append
theorem run_r : ∀ l, run .r l = .r
  | [] => rfl
  | _ :: l => run_r l
theorem run_num : ∀ (k n : Nat), n ≤ k → 1 ≤ n → (TL.numL n).length ≤ 9 → run .n0 (TL.numL n) = .m (TL.numL n).length
  | 0, n, h, h1, _ => by omega
  | k + 1, n, h, h1, hl => by
    by_cases h10 : n < 10
    · rw [TL.numL_lt h10]
      show (if 48 + n = 48 then Q7.z else if 49 ≤ 48 + n ∧ 48 + n ≤ 57 then .m 1 else .r) = .m 1
      rw [if_neg (by omega), if_pos (by omega)]
    · have h10 : 10 ≤ n := by omega
      rw [TL.numL_step h10] at hl ⊢
      rw [List.length_append] at hl ⊢
      simp only [List.length_cons, List.length_nil] at hl ⊢
      rw [run_app, run_num k (n / 10) (by omega) (by omega) (by omega)]
      show (if 48 ≤ 48 + n % 10 ∧ 48 + n % 10 ≤ 57 then (if (TL.numL (n / 10)).length < 9 then Q7.m ((TL.numL (n / 10)).length + 1) else .r) else if 48 + n % 10 = 44 then .c else .r) = _
      rw [if_pos (by omega), if_pos (by omega)]
/-- the state behind a number -/
def numQ (n : Nat) : Q7 := if n = 0 then .z else .m (TL.numL n).length
theorem run_nat {n : Nat} (h : n < 10 ^ 9) : run .n0 (TL.numL n) = numQ n := by
  unfold numQ
  by_cases h0 : n = 0
  · rw [if_pos h0, h0]; decide +kernel
  · rw [if_neg h0]; exact run_num n n (Nat.le_refl _) (by omega) (TL.numL_len (by decide) h)
theorem okQ_num (n : Nat) : okQ (numQ n) = true := by unfold numQ; split <;> rfl
/-- behind a number: no sign but a figure and a comma -/
theorem num_then {n x : Nat} (h : x < 48 ∨ 57 < x) (h2 : x ≠ 44) (l : List Nat) : run (numQ n) (x :: l) = .r := by
  unfold numQ
  split
  · show run (if x = 44 then Q7.c else .r) l = .r
    rw [if_neg h2]; exact run_r l
  · show run (if 48 ≤ x ∧ x ≤ 57 then _ else if x = 44 then Q7.c else .r) l = .r
    rw [if_neg (by omega), if_neg h2]; exact run_r l
theorem num_comma (n : Nat) (l : List Nat) : run (numQ n) (44 :: l) = run .c l := by
  unfold numQ
  split
  · rfl
  · rfl
theorem num_more {n : Nat} (h : n < 10 ^ 9) {l : List Nat} (hd : NumText.AllDigits l) (hl : (TL.numL n).length + l.length = 10) (r : List Nat) : run (numQ n) (l ++ r) = .r := by
  have h9 := TL.numL_len (n := n) (k := 9) (by decide) h
  unfold numQ
  split
  · rename_i h0
    rcases l with _ | ⟨x, l⟩
    · simp at hl; omega
    · have hx : 48 ≤ x ∧ x ≤ 57 := hd x List.mem_cons_self
      show run (if x = 44 then Q7.c else .r) (l ++ r) = .r
      rw [if_neg (by omega)]; exact run_r _
  · have key : ∀ (l : List Nat) (k : Nat), NumText.AllDigits l → k + l.length = 10 → k ≤ 9 → run (.m k) (l ++ r) = .r := by
      intro l
      induction l with
      | nil => intro k _ h1 h2; simp at h1; omega
      | cons x l ih =>
        intro k hd h1 h2
        have hx : 48 ≤ x ∧ x ≤ 57 := hd x List.mem_cons_self
        show run (if 48 ≤ x ∧ x ≤ 57 then (if k < 9 then .m (k + 1) else .r) else if x = 44 then Q7.c else .r) (l ++ r) = .r
        rw [if_pos hx]
        split
        · exact ih (k + 1) (fun y hy => hd y (List.mem_cons_of_mem _ hy)) (by simp at h1; omega) (by omega)
        · exact run_r _
    exact key l _ hd hl h9
theorem zero_digit {x : Nat} (h : 48 ≤ x ∧ x ≤ 57) (l : List Nat) : run .z (x :: l) = .r := by
  show run (if x = 44 then Q7.c else .r) l = .r
  rw [if_neg (by omega)]; exact run_r _
end My

namespace My
open PySem L2
def dgS (n : Nat) : Str := Str.ofString (toString ((n : Nat) : Int))
theorem tl_dg (n : Nat) : TL.tl (dgS n) = TL.numL n := TL.tl_num n
theorem dg_inj {a b : Nat} (h : dgS a = dgS b) : a = b := by
  refine TL.numL_inj ?_
  rw [← tl_dg, ← tl_dg, h]
def goodT (s : Stp) : Prop := goodS s ∧ s.2 < 10 ^ 9
def stepS (s : Stp) : Str := s.1 ++ (" " : Str) ++ dgS s.2.toNat
def textS (ss : List Stp) : Str := Str.join ", " (ss.map stepS)
theorem tl_sp : TL.tl " " = [32] := by decide +kernel
theorem tl_cm : TL.tl ", " = [44, 32] := by decide +kernel
theorem tl_own : TL.tl "own" = [111, 119, 110] := by decide +kernel
theorem tl_share : TL.tl "share" = [115, 104, 97, 114, 101] := by decide +kernel
theorem tl_drop : TL.tl "drop" = [100, 114, 111, 112] := by decide +kernel
theorem tl_stepS (s : Stp) : TL.tl (stepS s) = TL.tl s.1 ++ 32 :: TL.numL s.2.toNat := by
  unfold stepS
  rw [TL.tl_append, TL.tl_append, tl_sp, tl_dg, List.append_assoc]; rfl
theorem deed_run {z : Str} (h : z = "own" ∨ z = "share" ∨ z = "drop") (l : List Nat) : run (.d []) (TL.tl z ++ 32 :: l) = run .n0 l := by
  rcases h with rfl | rfl | rfl
  · rw [tl_own]; rfl
  · rw [tl_share]; rfl
  · rw [tl_drop]; rfl
theorem deed_st {z : Str} (h : z = "own" ∨ z = "share" ∨ z = "drop") : run (.d []) (TL.tl z) = .d (TL.tl z) ∧ TL.tl z ∈ deedL := by
  rcases h with rfl | rfl | rfl
  · rw [tl_own]; exact ⟨rfl, by decide⟩
  · rw [tl_share]; exact ⟨rfl, by decide⟩
  · rw [tl_drop]; exact ⟨rfl, by decide⟩
theorem toNat_lt {s : Stp} (h : goodT s) : s.2.toNat < 10 ^ 9 := by have := h.2; have := h.1.2; omega
theorem run_step {s : Stp} (h : goodT s) (l : List Nat) : run (.d []) (TL.tl (stepS s) ++ l) = run (numQ s.2.toNat) l := by
  rw [tl_stepS, List.append_assoc, List.cons_append, deed_run h.1.1, run_app, run_nat (toNat_lt h)]
theorem tl_text (ss : List Stp) : TL.tl (textS ss) = TL.joinL [44, 32] (ss.map fun s => TL.tl (stepS s)) := by
  unfold textS
  rw [TL.tl_join, tl_cm, List.map_map]; rfl
theorem run_text : ∀ {ss : List Stp}, ss ≠ [] → (∀ s ∈ ss, goodT s) → ∃ n, n < 10 ^ 9 ∧ run (.d []) (TL.tl (textS ss)) = numQ n
  | [], h, _ => absurd rfl h
  | [s], _, hg => by
    refine ⟨s.2.toNat, toNat_lt (hg s List.mem_cons_self), ?_⟩
    have := run_step (hg s List.mem_cons_self) []
    rw [List.append_nil] at this
    rw [tl_text]
    exact this
  | s :: s' :: r, _, hg => by
    obtain ⟨n, hn, e⟩ := run_text (ss := s' :: r) (by simp) fun x hx => hg x (List.mem_cons_of_mem _ hx)
    refine ⟨n, hn, ?_⟩
    rw [tl_text] at e ⊢
    show run (.d []) (TL.tl (stepS s) ++ ([44, 32] ++ TL.joinL [44, 32] ((s' :: r).map fun s => TL.tl (stepS s)))) = _
    rw [run_step (hg s List.mem_cons_self)]
    show run (numQ s.2.toNat) (44 :: 32 :: _) = _
    rw [num_comma]
    exact e
theorem run_before {ss : List Stp} (h : ss ≠ []) (hg : ∀ s ∈ ss, goodT s) : run (.d []) (TL.tl (textS ss ++ (", " : Str))) = .d [] := by
  obtain ⟨n, _, e⟩ := run_text h hg
  rw [TL.tl_append, run_app, e, tl_cm, num_comma]
  rfl
theorem text_nil : textS [] = "" := rfl
/-- a text that no program has -/
def BadT (t : Str) : Prop := t ≠ "" ∧ okQ (run (.d []) (TL.tl t)) = false
theorem BadT.no {t : Str} (h : BadT t) : ∀ ss, (∀ s ∈ ss, goodT s) → t ≠ textS ss := by
  intro ss hg e
  rcases ss with _ | ⟨s, r⟩
  · exact h.1 e
  · obtain ⟨n, _, e1⟩ := run_text (ss := s :: r) (by simp) hg
    have := h.2
    rw [e, e1, okQ_num] at this
    cases this
theorem step_free {s : Stp} (h : goodT s) : 44 ∉ TL.tl (stepS s) := by
  rw [tl_stepS]
  intro m
  rcases List.mem_append.mp m with m | m
  · rcases h.1.1 with e | e | e <;> rw [e] at m <;> revert m
    · rw [tl_own]; decide
    · rw [tl_share]; decide
    · rw [tl_drop]; decide
  · rcases List.mem_cons.mp m with m | m
    · cases m
    · exact TL.numL_free (by omega) m
theorem split_text {ss : List Stp} (h : ss ≠ []) (hg : ∀ s ∈ ss, goodT s) : PySem.Txt.split (textS ss) ", " = ss.map stepS := by
  unfold textS
  rw [← TL.join_eq]
  refine TL.split_join (s := 44) (S := [32]) tl_cm (by decide +kernel) (by simpa using h) fun p hp => ?_
  obtain ⟨s, hs, rfl⟩ := List.mem_map.mp hp
  exact step_free (hg s hs)
theorem deed_free {z : Str} (h : z = "own" ∨ z = "share" ∨ z = "drop") : 32 ∉ TL.tl z := by
  rcases h with rfl | rfl | rfl
  · rw [tl_own]; decide
  · rw [tl_share]; decide
  · rw [tl_drop]; decide
theorem join_two (a b : Str) : Str.join " " [a, b] = a ++ (" " : Str) ++ b := by
  refine TL.ext_tl ?_
  rw [TL.tl_join, TL.tl_append, TL.tl_append]
  show TL.tl a ++ (TL.tl " " ++ TL.tl b) = _
  rw [List.append_assoc]
theorem split_step {s : Stp} (h : goodT s) : PySem.Txt.split (stepS s) " " = [s.1, dgS s.2.toNat] := by
  unfold stepS
  rw [← join_two, ← TL.join_eq]
  refine TL.split_join (s := 32) (S := []) tl_sp (by decide +kernel) (by simp) fun p hp => ?_
  simp only [List.mem_cons, List.not_mem_nil, or_false] at hp
  rcases hp with rfl | rfl
  · exact deed_free h.1.1
  · rw [tl_dg]; exact TL.numL_free (by omega)
theorem part_of {p z : Str} {n : Nat} (h : PySem.Txt.split p " " = [z, dgS n]) : p = stepS (z, (n : Int)) := by
  have := StrLaws.join_split p " "
  rw [h, join_two] at this
  exact this.symm
theorem val_lt : ∀ (cs : List Nat) (a : Nat), NumText.AllDigits cs → cs.foldl (fun acc c => acc * 10 + (c - 48)) a < (a + 1) * 10 ^ cs.length
  | [], a, _ => by simp
  | c :: cs, a, h => by
    have hc : 48 ≤ c ∧ c ≤ 57 := h c List.mem_cons_self
    have ih := val_lt cs (a * 10 + (c - 48)) fun x hx => h x (List.mem_cons_of_mem _ hx)
    show cs.foldl _ (a * 10 + (c - 48)) < _
    refine Nat.lt_of_lt_of_le ih ?_
    rw [List.length_cons, Nat.pow_succ, Nat.mul_comm (10 ^ cs.length) 10, ← Nat.mul_assoc]
    exact Nat.mul_le_mul_right _ (by omega)
theorem canon {w : Str} (hd : NumText.AllDigits (TL.tl w)) (h1 : 1 ≤ w.length) (h9 : w.length ≤ 9) (h : w.length = 1 ∨ ∃ c r, TL.tl w = c :: r ∧ c ≠ 48) : ∃ n : Nat, n < 10 ^ 9 ∧ w = dgS n ∧ PySem.intText? w = some (n : Int) := by
  have hne : TL.tl w ≠ [] := fun z => by rw [TL.len_tl, z] at h1; simp at h1
  have fin : ∀ n : Nat, n < 10 ^ 9 → w = dgS n → ∃ n : Nat, n < 10 ^ 9 ∧ w = dgS n ∧ PySem.intText? w = some (n : Int) := fun n hn e => ⟨n, hn, e, by
    rw [e]
    exact TL.int_num (Nat.le_trans (TL.numL_len (k := 9) (by decide) hn) (by decide))⟩
  refine fin (NumText.digitsVal (TL.tl w)) ?_ ?_
  · have := val_lt (TL.tl w) 0 hd
    rw [← TL.len_tl] at this
    have h2 : (0 + 1) * 10 ^ w.length ≤ 10 ^ 9 := by rw [Nat.zero_add, Nat.one_mul]; exact Nat.pow_le_pow_right (by decide) h9
    exact Nat.lt_of_lt_of_le this h2
  · refine TL.ext_tl ?_
    rw [tl_dg]
    unfold TL.numL
    rw [NumText.toDigits_digitsVal (w.length - 1) (TL.tl w) (by rw [← TL.len_tl]; omega) hd ?_, List.map_map]
    · symm
      have : ∀ l : List Nat, NumText.AllDigits l → l.map (Char.toNat ∘ Char.ofNat) = l := by
        intro l
        induction l with
        | nil => intro _; rfl
        | cons x l ih =>
          intro hd
          have hx : 48 ≤ x ∧ x ≤ 57 := hd x List.mem_cons_self
          rw [List.map_cons, ih fun y hy => hd y (List.mem_cons_of_mem _ hy)]
          have : (Char.ofNat x).toNat = x := by
            have : ∀ k, k < 10 → (Char.ofNat (48 + k)).toNat = 48 + k := by decide
            have := this (x - 48) (by omega)
            rwa [show 48 + (x - 48) = x by omega] at this
          show (Char.ofNat x).toNat :: l = x :: l
          rw [this]
      exact this _ hd
    · rcases h with h | ⟨c, r, e, hc⟩
      · exact .inl (by omega)
      · refine .inr ⟨c, r, e, ?_⟩
        have : 48 ≤ c ∧ c ≤ 57 := hd c (by rw [e]; exact List.mem_cons_self)
        omega
theorem dg_len {n : Nat} (h : n < 10 ^ 9) : 1 ≤ (dgS n).length ∧ (dgS n).length ≤ 9 := by
  rw [TL.len_tl, tl_dg]
  have := List.length_pos_iff.mpr (TL.numL_ne n)
  have := TL.numL_len (n := n) (k := 9) (by decide) h
  omega
theorem dg_digits (n : Nat) : NumText.AllDigits (TL.tl (dgS n)) := by rw [tl_dg]; exact TL.numL_digits n
theorem dg_head {n : Nat} (h : n < 10 ^ 9) {r : List Nat} (e : TL.tl (dgS n) = 48 :: r) : r = [] := by
  rcases r with _ | ⟨x, r⟩
  · rfl
  · have hd := dg_digits n
    have hx : 48 ≤ x ∧ x ≤ 57 := hd x (by rw [e]; simp)
    have h1 := run_nat h
    rw [← tl_dg, e] at h1
    have h2 : run .n0 (48 :: x :: r) = .r := zero_digit hx r
    rw [h2] at h1
    have := okQ_num n
    rw [← h1] at this
    cases this
end My

namespace My
open PySem L2
def spNum : Sp := fun vs H Q _ => ∃ (z : Str), vs = [.str z] ∧ z.length ≤ 90000 ∧ (∀ n : Nat, n < 10 ^ 9 → z = dgS n → Q (.int (n : Nat)) H) ∧ ((∀ n : Nat, n < 10 ^ 9 → z ≠ dgS n) → Q (.int (-1)) H)
theorem digit_mem {c : Nat} : c ∈ ("0123456789" : Str).cps.toList ↔ 48 ≤ c ∧ c ≤ 57 := by
  rw [show ("0123456789" : Str).cps.toList = [48, 49, 50, 51, 52, 53, 54, 55, 56, 57] by decide +kernel]
  simp only [List.mem_cons, List.not_mem_nil, or_false]
  omega
section
variable {w : World} {K : PySem.W.Frag} {mg : Str → Option Value} {base : Heap}
theorem ok_number_of (T : Txt K mg) : FnOk PP w K mg base CX0 1 T.a_number_of T.fd_number_of ["word"] spNum := by
  refine T.F_number_of.ok sc_number_of (fun vs H Q E h => ?_) (fun cdv A outer s H vs Q E hr h => ?_)
  · obtain ⟨z, rfl, _⟩ := h; rfl
  · obtain ⟨z, rfl, hz, hy, hn⟩ := h
    refine ⟨_, (pss_cons (ps_if (pt_not (pt_chain op_le op_le (pe_int) (pe_callB call_len_str (by rfl) T.n_len (by decide +kernel) (pa_cons (pv 0) pa_nil)) (pe_int))) (pss_one (ps_ret (pe_un un_neg (pe_int)))) pss_nil)
      (pss_cons (ps_for PassesOwn.never rfl (pi_str (pv 0)) (pg_name (i := 1) sc_number_of.nd rfl (.inl rfl)) (pss_one (ps_if (pt_cmpR op_notInS (pv 1) (pe_glob (v := .str "0123456789") (by rfl) T.g_DIGITS ⟨_, rfl⟩) (by with_unfolding_all rfl)) (pss_one (ps_ret (pe_un un_neg (pe_int)))) pss_nil)))
      (pss_cons (ps_if (PW.pt (pw_and (pt_cmpR op_eq (pe_ix ix_str (pv 0) (pe_int) (fun _ _ => rfl)) (pe_str) (nomark _)) (pw_and1 (pt_cmpR op_gt (pe_callB call_len_str (by rfl) T.n_len (by decide +kernel) (pa_cons (pv 0) pa_nil)) (pe_int) (nomark _))))) (pss_one (ps_ret (pe_un un_neg (pe_int)))) pss_nil)
      (pss_one (ps_ret (pe_callTy call_int_str (by rfl) T.n_int (by decide +kernel) (pa_cons (pv 0) pa_nil))))))), ?_⟩
    have big : 90000 < sizeLine := by decide
    by_cases k1 : 1 ≤ z.length
    case neg => exact ⟨_, rfl, z, rfl, by omega, _, _, rfl, rfl, _, rfl, iteNo (decide_eq_false (by omega)) ⟨_, rfl, iteYes rfl ⟨_, rfl, hn fun n hl e => k1 (e ▸ (dg_len hl).1)⟩⟩⟩
    refine ⟨_, rfl, z, rfl, by omega, _, _, rfl, rfl, _, rfl, iteYes (decide_eq_true (by omega)) ⟨_, _, rfl, rfl, _, rfl, ?_⟩⟩
    by_cases k9 : z.length ≤ 9
    case neg => exact iteYes (by rw [decide_eq_false (by omega)]; rfl) ⟨_, rfl, hn fun n hl e => k9 (e ▸ (dg_len hl).2)⟩
    refine iteNo (by rw [decide_eq_true (by omega)]; rfl) ?_
    refine ⟨_, rfl, z, rfl, for_str (z := z) (fun i σ H' => ∃ x1, H' = H ∧ σ = [some (.str z), x1] ∧ ∀ j, j < i → ∀ c, (TL.tl z)[j]? = some c → 48 ≤ c ∧ c ≤ 57) ⟨_, rfl, rfl, fun j hj => absurd hj (Nat.not_lt_zero _)⟩ ?_ ?_⟩
    · rintro i c σ H' hc ⟨x1, rfl, rfl, hp⟩
      refine ⟨_, rfl, c, _, rfl, rfl, _, rfl, iteN (fun h => ?_) (fun h => ?_)⟩
      · refine ⟨_, rfl, hn fun n hl e => h (digit_mem.mpr ?_)⟩
        subst e
        exact dg_digits n c (List.mem_of_getElem? hc)
      · refine ⟨_, rfl, rfl, fun j hj c' hc' => ?_⟩
        by_cases e : j = i
        · subst e
          rw [hc] at hc'
          exact Option.some.inj hc' ▸ digit_mem.mp h
        · exact hp j (by omega) c' hc'
    · rintro σ H' ⟨x1, rfl, rfl, hp⟩
      have hd : NumText.AllDigits (TL.tl z) := fun c hc => by
        obtain ⟨j, hj, e⟩ := List.getElem_of_mem hc
        exact hp j (by rw [TL.len_tl]; exact hj) c (by rw [List.getElem?_eq_getElem hj, e])
      have hl0 : 0 < (TL.tl z).length := by rw [← TL.len_tl]; omega
      obtain ⟨c, r, ecr⟩ : ∃ c r, TL.tl z = c :: r := by
        cases e : TL.tl z with
        | nil => rw [e] at hl0; cases hl0
        | cons c r => exact ⟨c, r, rfl⟩
      have hat : atI z.cps.toList 0 = some c := atI_nat (j := 0) (by rw [show z.cps.toList = c :: r from ecr]; rfl)
      refine ⟨_, rfl, z, 0, c, rfl, rfl, by omega, hat, rfl, _, rfl, iteD (fun k => ?_) (fun k => ?_)⟩
      · have ec : c = 48 := by
          have k := V.str.inj k
          have k2 : TL.tl (⟨#[c]⟩ : Str) = TL.tl "0" := by rw [k]
          have k3 : TL.tl "0" = [48] := by decide +kernel
          rw [k3] at k2
          exact (List.cons.inj k2).1
        refine ⟨_, rfl, z, rfl, by omega, _, _, rfl, rfl, _, rfl, iteD (fun k2 => ?_) (fun k2 => ?_)⟩
        · refine ⟨_, rfl, hn fun n hl e => ?_⟩
          have er : r = [] := dg_head hl (by rw [← e, ecr, ec])
          have := TL.len_tl z
          rw [ecr, er] at this
          simp at this
          omega
        · obtain ⟨n, hn1, e, hi⟩ := canon hd k1 k9 (.inl (by omega))
          exact ⟨_, rfl, z, _, rfl, hi, by omega, hy n hn1 e⟩
      · have ec : c ≠ 48 := fun e => k (by rw [e]; exact congrArg V.str (TL.ext_tl (show [48] = TL.tl "0" by decide +kernel)))
        obtain ⟨n, hn1, e, hi⟩ := canon hd k1 k9 (.inr ⟨c, r, ecr, ec⟩)
        exact ⟨_, rfl, z, _, rfl, hi, by omega, hy n hn1 e⟩
end
end My

namespace My
open PySem L2
theorem log_ok {n : Int} (h0 : 0 ≤ n) (h : n < 10 ^ 9) : n.natAbs.log2 < 1920 := by
  have h1 : n.natAbs < 2 ^ 30 := by omega
  by_cases z : n.natAbs = 0
  · rw [z]; decide
  · exact Nat.lt_trans ((Nat.log2_lt z).mpr h1) (by decide)
theorem cat_step {z : Str} {n : Int} (h : 0 ≤ n) : ((Str.empty ++ z) ++ (" " : Str)) ++ Str.ofString (toString n) = stepS (z, n) := by
  unfold stepS dgS
  rw [show ((n.toNat : Nat) : Int) = n by omega]
  refine TL.ext_tl ?_
  simp only [TL.tl_append]
  rfl
theorem cat_step2 {z : Str} {n : Int} (h : 0 ≤ n) : (z ++ (" " : Str)) ++ Str.ofString (toString n) = stepS (z, n) := by
  unfold stepS dgS
  rw [show ((n.toNat : Nat) : Int) = n by omega]
theorem len_app (a b : Str) : (a ++ b).length = a.length + b.length := by rw [TL.len_tl, TL.tl_append, List.length_append, ← TL.len_tl, ← TL.len_tl]
theorem deed_len {z : Str} (h : z = "own" ∨ z = "share" ∨ z = "drop") : z.length ≤ 5 ∧ 1 ≤ z.length := by rcases h with rfl | rfl | rfl <;> decide +kernel
theorem step_len {s : Stp} (h : goodT s) : (stepS s).length ≤ 15 := by
  unfold stepS
  rw [len_app, len_app]
  have := (deed_len h.1.1).1
  have := (dg_len (toNat_lt h)).2
  have : (" " : Str).length = 1 := by decide +kernel
  omega
theorem sum_len : ∀ {ss : List Stp}, (∀ s ∈ ss, goodT s) → ((ss.map stepS).map (·.length)).sum ≤ 15 * ss.length
  | [], _ => Nat.zero_le _
  | s :: r, h => by
    have h1 := step_len (h s List.mem_cons_self)
    have h2 := sum_len (ss := r) fun x hx => h x (List.mem_cons_of_mem _ hx)
    simp only [List.map_cons, List.sum_cons, List.length_cons]
    omega
theorem join_len (y : Str) : ∀ ps : List Str, (Str.join y ps).length ≤ (ps.map (·.length)).sum + ps.length * y.length
  | [] => Nat.zero_le _
  | [p] => by show p.length ≤ _; simp
  | p :: q :: r => by
    have ih := join_len y (q :: r)
    rw [TL.len_tl, TL.tl_join] at ih ⊢
    show (TL.tl p ++ (TL.tl y ++ TL.joinL (TL.tl y) ((q :: r).map TL.tl))).length ≤ _
    rw [List.length_append, List.length_append, ← TL.len_tl, ← TL.len_tl]
    simp only [List.map_cons, List.sum_cons, List.length_cons, Nat.add_mul, Nat.one_mul] at ih ⊢
    omega
theorem text_len {ss : List Stp} (h : ∀ s ∈ ss, goodT s) : (textS ss).length ≤ 17 * ss.length := by
  have h1 := join_len ", " (ss.map stepS)
  have h2 := sum_len h
  rw [List.length_map, show (", " : Str).length = 2 by decide +kernel] at h1
  unfold textS
  omega
theorem strs_map (l : List Stp) : (l.map fun s => V.str (stepS s)) = (l.map stepS).map V.str := by rw [List.map_map]; rfl
def spPStr (C : Addr) : Sp := fun vs H Q _ => ∃ (x : Addr) (ss : List Stp), vs = [.ref x] ∧ Pg C H x ss ∧ (∀ s ∈ ss, goodT s) ∧ ss.length ≤ 100 ∧ ∀ H', Same H H' → Q (.str (textS ss)) H'
def spLText : Sp := fun vs H Q _ => ∃ (u : Addr) (us : List V) (ss : List Stp), vs = [.ref u] ∧ H u = some (.lst us) ∧ Stps H us ss ∧ (∀ s ∈ ss, goodT s) ∧ ss.length ≤ 100 ∧ ∀ H', Same H H' → Q (.str (textS ss)) H'
section
variable {w : World} {K : PySem.W.Frag} {mg : Str → Option Value} {base : Heap}
theorem ok_Program_str (T : Txt K mg) : FnOk PP w K mg base CX0 1 T.a_Program_str T.fd_Program_str ["self"] (spPStr T.c_Program) := by
  refine T.F_Program_str.ok sc_Program_str (fun vs H Q E h => ?_) (fun cdv A outer s H vs Q E hr h => ?_)
  · obtain ⟨x, ss, rfl, _⟩ := h; rfl
  · obtain ⟨x, ss, rfl, ⟨dx, l, us, hx, hl, hs, hz⟩, hg, hn, q⟩ := h
    refine ⟨_, (pss_one (ps_ret (pe_join (pe_str) (pe_lc (own := [("deed", 1), ("thing", 2)]) (g := (gTup K 2 (gCons (gName 1) (gCons (gName 2) gNil)))) (by rfl) sc_Program_str.nd (pi_list (pe_fld (pv 0) rfl)) (blkOk_by (own := [("deed", 1), ("thing", 2)]) (N := ["self", "deed", "thing"]) (sc := defScope S_Program_str) (by decide +kernel)) (fun _ _ _ _ _ => (pg_tupK (K := K) rfl rfl (pgs_cons (pg_name (i := 1) sc_Program_str.nd rfl (.inl rfl)) (pgs_cons (pg_name (i := 2) sc_Program_str.nd rfl (.inl rfl)) pgs_nil)))) (fun _ _ _ _ _ => pts_nil) (fun _ _ _ _ _ => (pe_joined (.cons (pe_fmt (pv 1)) (.cons (pe_str) (.cons (pe_fmt (pv 2)) .nil))))))))), ?_⟩
    have big : 90000 < sizeLine := by decide
    have lu := pair_len hs
    refine ⟨⟨_, rfl⟩, _, rfl, x, _, dx, _, _, rfl, hx, T.cl_Program, T.no_Program__steps, steps_look l, l, rfl, ⟨_, SqL.of hl⟩, fun D hD => ?_⟩
    refine lc_list (K := K) (a := l) (xs := us) (g := gTup K 2 (gCons (gName 1) (gCons (gName 2) gNil))) (te := fun σ H Q => tJs [tFmt (tVar 1), tC (.str " "), tFmt (tVar 2)] Str.empty σ H fun out H1 => Q (.str out) H1) (fun i H' => Same H H' ∧ H' D = some (.lst (((ss.take i).map stepS).map V.str)))
      ⟨same_new hD, upd_same⟩ (fun i H' _ h => SqL.of (h.1 _ _ hl)) ?_ ?_
    · rintro i v H1 hv ⟨s1, h1⟩
      obtain ⟨y, hy, t, rfl, ht⟩ := pair_get hs hv
      have gy := hg y (List.mem_of_getElem? hy)
      have z1 := deed_len gy.1.1
      have z2 := dg_len (toNat_lt gy)
      have z3 : (" " : Str).length = 1 := by decide +kernel
      have z4 : Str.empty.length = 0 := rfl
      have ey : Str.ofString (toString y.2) = dgS y.2.toNat := by unfold dgS; rw [show ((y.2.toNat : Nat) : Int) = y.2 by have := gy.1.2; omega]
      refine ⟨t, _, rfl, SqT.of (s1 _ _ ht), rfl, _, _, rfl, _, _, rfl, rfl, rfl, _, rfl, .inl ⟨_, rfl, by omega, _, rfl, by rw [len_app]; omega, _, rfl, by rw [len_app, len_app]; omega, _, rfl, .inr ⟨_, rfl, log_ok gy.1.2 gy.2, _, rfl, by rw [len_app, len_app, len_app, ey]; omega, _, h1, ?_, ?_, ?_⟩⟩⟩
      · rw [List.length_map, List.length_map, List.length_take]; omega
      · exact same_mut s1 hD
      · rw [upd_same, cat_step gy.1.2, List.take_add_one, hy, List.map_append, List.map_append]; rfl
    · rintro H1 ⟨s1, h1⟩
      rw [lu, List.take_length] at h1
      have z := sum_len hg
      refine ⟨_, D, ss.map stepS, rfl, rfl, .inl (SqL.of h1), ?_, ?_⟩
      · rw [List.length_map, show (", " : Str).length = 2 by decide +kernel]; omega
      · rw [TL.join_eq]; exact q _ s1
theorem ok__law_text (T : Txt K mg) : FnOk PP w K mg base CX0 1 T.a__law_text T.fd__law_text ["_law_steps"] spLText := by
  refine T.F__law_text.ok sc__law_text (fun vs H Q E h => ?_) (fun cdv A outer s H vs Q E hr h => ?_)
  · obtain ⟨u, us, ss, rfl, _⟩ := h; rfl
  · obtain ⟨u, us, ss, rfl, hu, hs, hg, hn, q⟩ := h
    refine ⟨_, (pss_one (ps_ret (pe_join (pe_str) (pe_lc (own := [("_law_step_here", 1)]) (g := (gName 1)) (by rfl) sc__law_text.nd (pi_list (pv 0)) (blkOk_by (own := [("_law_step_here", 1)]) (N := ["_law_steps", "_law_step_here"]) (sc := defScope S__law_text) (by decide +kernel)) (fun _ _ _ _ _ => (pg_name (i := 1) sc__law_text.nd rfl (.inl rfl))) (fun _ _ _ _ _ => pts_nil) (fun _ _ _ _ _ => (pe_op op_add_str (pe_op op_add_str (pe_ix (ixTK (K := K) rfl) (pv 1) (pe_int) (fun _ _ => rfl)) (pe_str)) (pe_callTy call_str_int (by rfl) T.n_str (by decide +kernel) (pa_cons (pe_ix (ixTK (K := K) rfl) (pv 1) (pe_int) (fun _ _ => rfl)) pa_nil)))))))), ?_⟩
    have big : 90000 < sizeLine := by decide
    have lu := pair_len hs
    refine ⟨⟨_, rfl⟩, _, rfl, u, rfl, ⟨_, SqL.of hu⟩, fun D hD => lc_list (K := K) (a := u) (xs := us) (fun i H' => Same H H' ∧ H' D = some (.lst (((ss.take i).map stepS).map V.str)))
      ⟨same_new hD, upd_same⟩ (fun i H' _ h => SqL.of (h.1 _ _ hu)) ?_ ?_⟩
    · rintro i v H1 hv ⟨s1, h1⟩
      obtain ⟨y, hy, t, rfl, ht⟩ := pair_get hs hv
      have gy := hg y (List.mem_of_getElem? hy)
      have z1 := deed_len gy.1.1
      have z2 := dg_len (toNat_lt gy)
      have z3 : (" " : Str).length = 1 := by decide +kernel
      have ey : Str.ofString (toString y.2) = dgS y.2.toNat := by unfold dgS; rw [show ((y.2.toNat : Nat) : Int) = y.2 by have := gy.1.2; omega]
      have ht := s1 _ _ ht
      refine ⟨rfl, _, rfl, _, _, _, _, rfl, rfl, SqT.of ht, at_of (j := 0) rfl rfl, _, _, rfl, rfl, by omega, _, rfl, _, _, _, _, rfl, rfl, SqT.of ht, at_of (j := 1) rfl rfl, _, rfl, log_ok gy.1.2 gy.2, _, _, rfl, rfl, by rw [len_app, ey]; omega, _, h1, ?_, ?_, ?_⟩
      · rw [List.length_map, List.length_map, List.length_take]; omega
      · exact same_mut s1 hD
      · rw [upd_same, cat_step2 gy.1.2, List.take_add_one, hy, List.map_append, List.map_append]; rfl
    · rintro H1 ⟨s1, h1⟩
      rw [lu, List.take_length] at h1
      have z := sum_len hg
      refine ⟨_, D, ss.map stepS, rfl, rfl, .inl (SqL.of h1), ?_, ?_⟩
      · rw [List.length_map, show (", " : Str).length = 2 by decide +kernel]; omega
      · rw [TL.join_eq]; exact q _ s1
end
end My

namespace My
open PySem L2
def spPRead (C X : Addr) : Sp := fun vs H Q E => ∃ (t : Str), vs = [.str t] ∧ t.length ≤ 900 ∧
  (∀ ss, (∀ s ∈ ss, goodT s) → t = textS ss → ∀ x H', Same H H' → H x = none → Pg C H' x ss → Q (.ref x) H') ∧
  ((∀ ss, (∀ s ∈ ss, goodT s) → t ≠ textS ss) → ∀ H' d, Same H H' → H d = none → H' d = some (.xd [("line", .int 1)]) → E (.ref X) (some d) H')
theorem inDeeds_iff (z : Str) : inV (.str z) deedsV = true ↔ (z = "own" ∨ z = "share" ∨ z = "drop") := by
  constructor
  · intro h
    unfold inV deedsV at h
    simp [eqV] at h
    rcases h with h | h | h
    · exact .inl h.symm
    · exact .inr (.inl h.symm)
    · exact .inr (.inr h.symm)
  · exact inDeeds
theorem part_le {t p sep : Str} (h : p ∈ PySem.Txt.split t sep) : p.length ≤ t.length := by
  have e := StrLaws.join_split t sep
  have : ∀ (ps : List Str), p ∈ ps → p.length ≤ (Str.join sep ps).length := by
    intro ps
    induction ps with
    | nil => intro h; cases h
    | cons a r ih =>
      intro h
      rcases r with _ | ⟨b, r⟩
      · rw [List.mem_singleton.mp h]; exact Nat.le_refl _
      · have ej : (Str.join sep (a :: b :: r)).length = a.length + (sep.length + (Str.join sep (b :: r)).length) := by
          rw [TL.len_tl, TL.tl_join]
          show (TL.tl a ++ (TL.tl sep ++ TL.joinL (TL.tl sep) ((b :: r).map TL.tl))).length = _
          rw [List.length_append, List.length_append, ← TL.tl_join, ← TL.len_tl, ← TL.len_tl, ← TL.len_tl]
        rcases List.mem_cons.mp h with h | h
        · rw [h]; omega
        · have := ih h; omega
  have := this _ h
  rw [e] at this
  exact this
theorem bad_part {t p : Str} (ht : t ≠ "") (hp : p ∈ PySem.Txt.split t ", ") (h : ∀ s, goodT s → p ≠ stepS s) : ∀ ss, (∀ s ∈ ss, goodT s) → t ≠ textS ss := by
  intro ss hg e
  rcases ss with _ | ⟨s, r⟩
  · exact ht e
  · rw [e, split_text (by simp) hg] at hp
    obtain ⟨s', hs, e'⟩ := List.mem_map.mp hp
    exact h s' (hg s' hs) e'.symm
section
variable {w : World} {K : PySem.W.Frag} {mg : Str → Option Value} {base : Heap}
theorem ok_Program_read (T : Txt K mg) : FnOk PP w K mg base (L2.CX PP w) 5 T.a_Program_read T.fd_Program_read ["text"] (spPRead T.c_Program T.c_BadText) := by
  refine T.F_Program_read.okX sc_Program_read (fun vs H Q E h => ?_) (fun cdv A outer s H vs Q E hr h => ?_)
  · obtain ⟨t, rfl, _⟩ := h; rfl
  · obtain ⟨t, rfl, lt, hy, hn⟩ := h
    refine ⟨_, (pss_cons (ps_set (i := 1) sc_Program_read.nd rfl (.inl rfl) (pe_lst pa_nil))
      (pss_cons (ps_if (pt_cmpR op_eq (pv 0) (pe_str) (nomark _)) (pss_one (ps_ret (pe_makeR0 T.mk_Program (ok_Program_init T) (hr.mono (by omega)) (by rfl) T.g_Program pass0))) pss_nil)
      (pss_cons (ps_for (passes_of rfl) rfl (pi_list (pe_split (pv 0) (pe_str))) (pg_name (i := 2) sc_Program_read.nd rfl (.inl rfl)) (pss_cons (ps_set (i := 3) sc_Program_read.nd rfl (.inl rfl) (pe_split (pv 2) (pe_str)))
      (pss_cons (ps_if (PW.pt (pw_or (pt_cmpR op_ne (pe_callB call_len_seq (by rfl) T.n_len (by decide +kernel) (pa_cons (pv 3) pa_nil)) (pe_int) (nomark _)) (pw_or (pt_cmpR op_notIn_seq (pe_ix ix_list (pv 3) (pe_int) (fun _ _ => rfl)) (pe_glob (v := .ref T.k_DEEDS) (by rfl) T.g_DEEDS rfl) (by with_unfolding_all rfl)) (pw_or1 (pt_cmpR op_lt (pe_call (ok_number_of T) (hr.mono (by omega)) (by rfl) T.g_number_of T.F_number_of.kp T.b_number_of .nil pass0 (pa_cons (pe_ix ix_list (pv 3) (pe_int) (fun _ _ => rfl)) pa_nil)) (pe_int) (nomark _)))))) (pss_one (ps_raiseX rfl T.x_BadText hr (takes_of rfl rfl rfl rfl) (pa_cons (pe_int) pa_nil))) pss_nil)
      (pss_one (ps_expr (pe_bm PySem.F.plainAttrs_list PySem.F.slot_list_append PySem.F.type_list_append mt_append (pv 1) (pa_cons (pe_tup (pa_cons (pe_ix ix_list (pv 3) (pe_int) (fun _ _ => rfl)) (pa_cons (pe_call (ok_number_of T) (hr.mono (by omega)) (by rfl) T.g_number_of T.F_number_of.kp T.b_number_of .nil pass0 (pa_cons (pe_ix ix_list (pv 3) (pe_int) (fun _ _ => rfl)) pa_nil)) pa_nil))) pa_nil)))))))
      (pss_one (ps_ret (pe_makeS1 T.mk_Program (ok_Program_init T) (hr.mono (by omega)) (by rfl) T.g_Program pass0 (pv 1))))))), ?_⟩
    have big : 90000 < sizeLine := by decide
    have bad : (∀ ss, (∀ s ∈ ss, goodT s) → t ≠ textS ss) → ∀ H', Same H H' → ∀ d, H' d = none → E (.ref T.c_BadText) (some d) (upd H' d (.xd [("line", .int 1)])) := fun h H' s' d hd => hn h _ d (s'.trans (same_new hd)) (s'.free hd) upd_same
    refine ⟨Nat.zero_le _, fun l hl => ?_⟩
    have s1 := same_new (o := .lst ([] : List V)) hl
    refine ⟨_, rfl, rfl, _, rfl, iteD (fun c => ?_) (fun c => ?_)⟩
    · have et : t = "" := V.str.inj c
      exact fun z dz nz ndz _ => init_pg (us := []) (ss := []) upd_same .nil (Nat.zero_le _) (fun s h => by cases h) fun H2 b2 p2 => ⟨rfl, hy [] (fun s h => by cases h) et z H2 (s1.trans (same_make nz ndz b2)) (s1.free nz) p2⟩
    · have et : t ≠ "" := fun z => c (by rw [z])
      have l1 : (PySem.Txt.split t ", ").length ≤ t.length + 2 := PyProof.Rows.split_le t ", "
      refine ⟨_, rfl, ⟨_, rfl⟩, _, _, rfl, rfl, by decide +kernel, by omega, fun p hp => ?_⟩
      have s2 := same_new (o := .lst ((PySem.Txt.split t ", ").map V.str)) hp
      have nlp : l ≠ p := ne_of_none (upd_same (H := H) (a := l) (o := .lst [])) hp
      have pH := s1.free hp
      refine ⟨p, rfl, ⟨_, SqL.of upd_same⟩, for_list (K := K) (a := p) (xs := (PySem.Txt.split t ", ").map V.str) (fun i σ H' => ∃ (us : List V) (ss : List Stp) (x2 x3 : Option V), σ = [some (.str t), some (.ref l), x2, x3] ∧ Same H H' ∧ H' p = some (.lst ((PySem.Txt.split t ", ").map V.str)) ∧ H' l = some (.lst us) ∧ Stps H' us ss ∧ (∀ s ∈ ss, goodT s) ∧ ss.length = i ∧ (PySem.Txt.split t ", ").take i = ss.map stepS)
        ⟨[], [], _, _, rfl, s1.trans s2, upd_same, s2 _ _ upd_same, .nil, (fun s h => by cases h), rfl, rfl⟩ (fun i σ H' _ h => by obtain ⟨_, _, _, _, _, _, h, _⟩ := h; exact SqL.of h) ?_ ?_⟩
      · rintro i v σ H1 hv ⟨us, ss, x2, x3, rfl, t1, hp1, hl1, st1, hg1, li, tk⟩
        obtain ⟨y, hy1, rfl⟩ : ∃ y, (PySem.Txt.split t ", ")[i]? = some y ∧ v = .str y := by
          rw [List.getElem?_map] at hv
          cases e : (PySem.Txt.split t ", ")[i]? with
          | none => rw [e] at hv; cases hv
          | some y => rw [e] at hv; exact ⟨y, rfl, (Option.some.inj hv).symm⟩
        have my := List.mem_of_getElem? hy1
        have il := (List.getElem?_eq_some_iff.mp hy1).1
        have ly : y.length ≤ t.length := part_le my
        have l2 : (PySem.Txt.split y " ").length ≤ y.length + 2 := PyProof.Rows.split_le y " "
        have bad1 : (∀ s, goodT s → y ≠ stepS s) → ∀ H', Same H1 H' → ∀ d, H' d = none → E (.ref T.c_BadText) (some d) (upd H' d (.xd [("line", .int 1)])) := fun h H' s' d hd => bad (bad_part et my h) H' (t1.trans s') d hd
        refine ⟨_, rfl, ⟨_, rfl⟩, _, _, rfl, rfl, by decide +kernel, by omega, fun q hq => ?_⟩
        have s3 := same_new (o := .lst ((PySem.Txt.split y " ").map V.str)) hq
        refine ⟨_, rfl, q, _, rfl, .inl (SqL.of upd_same), rfl, _, rfl, ?_⟩
        by_cases k2 : (PySem.Txt.split y " ").length = 2
        case neg =>
          refine iteYes (by rw [List.length_map]; simp; omega) ⟨_, rfl, fun d hd => bad1 (fun s gs e => k2 ?_) _ s3 d hd⟩
          rw [e, split_step gs]; rfl
        refine iteNo (by rw [List.length_map, k2]; rfl) ?_
        obtain ⟨w0, w1, ew⟩ : ∃ w0 w1, PySem.Txt.split y " " = [w0, w1] := by
          match PySem.Txt.split y " ", k2 with
          | [w0, w1], _ => exact ⟨_, _, rfl⟩
        rw [ew] at s3 ⊢
        have lw1 : w1.length ≤ y.length := part_le (sep := " ") (by rw [ew]; simp)
        refine ⟨_, rfl, q, _, _, _, rfl, rfl, SqL.of upd_same, at_of (j := 0) rfl rfl, _, _, rfl, .inr (T.q_DEEDS _), rfl, rfl, _, rfl, ?_⟩
        rw [show [V.str "own", .str "share", .str "drop"] = deedsV from rfl]
        by_cases kd : w0 = "own" ∨ w0 = "share" ∨ w0 = "drop"
        case neg =>
          refine iteYes (by rw [Bool.eq_false_iff.mpr (fun z => kd ((inDeeds_iff w0).mp z))]; rfl) ⟨_, rfl, fun d hd => bad1 (fun s gs e => kd ?_) _ s3 d hd⟩
          rw [e, split_step gs] at ew
          rw [← (List.cons.inj ew).1]
          exact gs.1.1
        refine iteNo (by rw [inDeeds kd]; rfl) ?_
        refine ⟨_, rfl, q, _, _, _, rfl, rfl, SqL.of upd_same, at_of (j := 1) rfl rfl, w1, rfl, by omega, fun n hn1 ew1 => ?_, fun hno => ?_⟩
        · refine ⟨_, _, rfl, rfl, _, rfl, iteNo (decide_eq_false (by omega)) ?_⟩
          refine ⟨_, rfl, .inl ⟨rfl, _, SqL.of (s3 _ _ hl1)⟩, _, rfl, q, _, _, _, rfl, rfl, SqL.of upd_same, at_of (j := 0) rfl rfl, _, rfl, q, _, _, _, rfl, rfl, SqL.of upd_same, at_of (j := 1) rfl rfl, w1, rfl, by omega, fun n' hn1' ew1' => ?_, fun hno => absurd ew1 (hno n hn1)⟩
          obtain rfl : n = n' := dg_inj (ew1.symm.trans ew1')
          refine ⟨by show 2 ≤ sizeLine; decide, fun u hu => ?_⟩
          have s4 := same_new (o := .tup [.str w0, .int (n : Nat)]) hu
          have t4 := s3.trans s4
          have hl4 := t4 _ _ hl1
          have lus := pair_len st1
          refine ⟨_, _, _, rfl, rfl, hl4, by omega, ?_⟩
          have nul : u ≠ l := (ne_of_none (s3 _ _ hl1) hu).symm
          have eu : stepS (w0, (n : Int)) = y := by rw [ew1] at ew; exact (part_of ew).symm
          refine ⟨us ++ [.ref u], ss ++ [(w0, (n : Int))], _, _, rfl, same_mut (t1.trans t4) hl, by rw [upd_ne nlp.symm]; exact t4 _ _ hp1, upd_same, ?_, ?_, by rw [List.length_append, li]; rfl, ?_⟩
          · refine pair_app ((st1.same t4).keep fun a xs e => ?_) (.cons ⟨u, rfl, by rw [upd_ne nul]; exact upd_same⟩ .nil)
            rw [upd_ne (fun z => by rw [z, hl4] at e; cases e)]
            exact e
          · intro s hs
            rcases List.mem_append.mp hs with hs | hs
            · exact hg1 s hs
            · rw [List.mem_singleton.mp hs]
              exact ⟨⟨kd, by show (0 : Int) ≤ (n : Int); omega⟩, by show (n : Int) < 10 ^ 9; omega⟩
          · rw [List.take_add_one, hy1, tk, List.map_append, List.map_singleton, eu]; rfl
        · refine ⟨_, _, rfl, rfl, _, rfl, iteYes rfl ⟨_, rfl, fun d hd => bad1 (fun s gs e => ?_) _ s3 d hd⟩⟩
          rw [e, split_step gs] at ew
          exact hno _ (toNat_lt gs) (List.cons.inj (List.cons.inj ew).2).1.symm
      · rintro σ H1 ⟨us, ss, x2, x3, rfl, t1, hp1, hl1, st1, hg1, li, tk⟩
        rw [List.length_map] at li
        rw [List.length_map, List.take_length] at tk
        have ett : t = textS ss := by
          unfold textS
          rw [← tk]
          exact (StrLaws.join_split t ", ").symm
        have lus := pair_len st1
        refine ⟨_, rfl, l, _, rfl, .inr (SqL.of hl1), fun z dz nz ndz _ => ?_⟩
        exact init_pg (ss := ss) upd_same (st1.same (same_make (C := T.c_Program) nz ndz (But.refl z _))) (by omega) (fun s h => (hg1 s h).1) fun H8 b8 p8 => ⟨rfl, hy ss hg1 ett z H8 (t1.trans (same_make nz ndz b8)) (t1.free nz) p8⟩
end
end My

namespace My
open PySem L2
def spTold (C : Addr) : Sp := fun vs H Q _ => ∃ (t : Str), vs = [.str t] ∧ t.length ≤ 900 ∧
  (∀ ss, (∀ s ∈ ss, goodT s) → t = textS ss → ∀ r us H', Same H H' → H r = none → H' r = some (.lst us) → Stps H' us ss → Q (.ref r) H') ∧
  ((∀ ss, (∀ s ∈ ss, goodT s) → t ≠ textS ss) → ∀ r H', Same H H' → H r = none → H' r = some (.lst [.str "BadText", .int 1]) → Q (.ref r) H')
section
variable {w : World} {K : PySem.W.Frag} {mg : Str → Option Value} {base : Heap}
theorem ok__law_told (T : Txt K mg) : FnOk PP w K mg base CX0 7 T.a__law_told T.fd__law_told ["_law_text_here"] (spTold T.c_Program) := by
  refine T.F__law_told.ok sc__law_told (fun vs H Q E h => ?_) (fun cdv A outer s H vs Q E hr h => ?_)
  · obtain ⟨t, rfl, _⟩ := h; rfl
  · obtain ⟨t, rfl, lt, q, qb⟩ := h
    refine ⟨_, (pss_cons (ps_try_as (i := 2) rfl rfl sc__law_told.nd rfl rfl ⟨rfl, by decide, .inl T.g_WebError⟩ takes0 (fun W pn xe tk po => (pss_one (ps_set (i := 1) sc__law_told.nd rfl (.inl rfl) (pe_smethW (pe_glob (v := .ref T.c_Program) (by rfl) T.g_Program rfl) T.cr_Program T.sm_Program_read (ok_Program_read T) (hr.mono (by omega)) T.b_Program_read (fun σ => passAt tk σ) (pa_cons (pv 0) pa_nil))))) (fun a oe cls d pn hz hf => (pss_cons (ps_if (PW.pt (pw_or (pt_val (pe_callB (call_isX hz hf) (by rfl) T.n_isinstance (by decide +kernel) (pa_cons (pv 2) (pa_cons (pe_glob (v := .ref T.c_Refused) (by rfl) T.g_Refused rfl) pa_nil)))) (pw_or (pt_val (pe_callB (call_isX hz hf) (by rfl) T.n_isinstance (by decide +kernel) (pa_cons (pv 2) (pa_cons (pe_glob (v := .ref T.c_NoThing) (by rfl) T.g_NoThing rfl) pa_nil)))) (pw_or (pt_val (pe_callB (call_isX hz hf) (by rfl) T.n_isinstance (by decide +kernel) (pa_cons (pv 2) (pa_cons (pe_glob (v := .ref T.c_TooLarge) (by rfl) T.g_TooLarge rfl) pa_nil)))) (pw_or1 (pt_val (pe_callB (call_isX hz hf) (by rfl) T.n_isinstance (by decide +kernel) (pa_cons (pv 2) (pa_cons (pe_glob (v := .ref T.c_BadLevel) (by rfl) T.g_BadLevel rfl) pa_nil))))))))) (pss_one (ps_ret (pe_lst (pa_cons (pe_str) pa_nil)))) pss_nil)
      (pss_cons (ps_if (PW.pt (pw_and (pt_val (pe_callB (call_isX hz hf) (by rfl) T.n_isinstance (by decide +kernel) (pa_cons (pv 2) (pa_cons (pe_glob (v := .ref T.c_BadText) (by rfl) T.g_BadText rfl) pa_nil)))) (pw_and (pt_val (pe_callB (call_isX hz hf) (by rfl) T.n_isinstance (by decide +kernel) (pa_cons (pv 2) (pa_cons (pe_bltn (v := .ty "ValueError") (by rfl) T.n_ValueError (by decide +kernel) rfl) pa_nil)))) (pw_and1 (pt_not (pt_val (pe_callB (call_isX hz hf) (by rfl) T.n_isinstance (by decide +kernel) (pa_cons (pv 2) (pa_cons (pe_glob (v := .ref T.c_BadStep) (by rfl) T.g_BadStep rfl) pa_nil))))))))) (pss_one (ps_ret (pe_lst (pa_cons (pe_str) (pa_cons (pe_xfX hz hf (pv 2)) pa_nil))))) pss_nil)
      (pss_one (ps_ret (pe_lst (pa_cons (pe_str) pa_nil))))))))
      (pss_one (ps_ret (pe_lc (own := [("_law_step_here", 3)]) (g := (gName 3)) (by rfl) sc__law_told.nd (pi_own T.m_Program_iter (ok_Program_iter T) (hr.mono (by omega)) (pv 1)) (blkOk_by (own := [("_law_step_here", 3)]) (N := ["_law_text_here", "_law_program", "e", "_law_step_here"]) (sc := defScope S__law_told) (by decide +kernel)) (fun _ _ _ _ _ => (pg_name (i := 3) sc__law_told.nd rfl (.inl rfl))) (fun _ _ _ _ _ => pts_nil) (fun _ _ _ _ _ => (pv 3)))))), ?_⟩
    refine ⟨rfl, _, rfl, t, rfl, lt, fun ss hg et x H1 s1 nx hx => ?_, fun hno H1 d s1 hd hd1 => ⟨true, T.em_BadText_WebError, fun _ a0 ha0 => ?_, fun z => nomatch z⟩⟩
    · obtain ⟨dx, l, us, hx1, hl, hs, hz⟩ := hx
      refine ⟨_, rfl, x, dx, l, _, us, rfl, hx1, steps_look l, SqL.of hl, fun D nD => ?_⟩
      refine lc_list (K := K) (a := l) (xs := us) (fun i H' => Same H1 H' ∧ H' D = some (.lst (us.take i))) ⟨same_new nD, upd_same⟩ (fun i H' _ ⟨s, _⟩ => SqL.of (s _ _ hl)) ?_ ?_
      · rintro i v H7 hv7 ⟨s7, h7⟩
        refine ⟨rfl, _, rfl, _, h7, Nat.lt_of_le_of_lt (by rw [List.length_take]; omega : _ ≤ 1000) (by decide), same_mut s7 nD, ?_⟩
        rw [upd_same, List.take_add_one, hv7]; rfl
      rintro H7 ⟨s7, h7⟩
      rw [List.take_length] at h7
      exact q ss hg et D us H7 (s1.trans s7) (s1.free nD) h7 (hs.same s7)
    · refine ⟨_, rfl, _, d, _, _, _, false, rfl, rfl, hd1, T.xc_BadText, rfl, ClsV.own _, T.kt_BadText_Refused, _, rfl, iteF ?_⟩
      refine ⟨_, rfl, _, d, _, _, _, false, rfl, rfl, hd1, T.xc_BadText, rfl, ClsV.own _, T.kt_BadText_NoThing, _, rfl, iteF ?_⟩
      refine ⟨_, rfl, _, d, _, _, _, false, rfl, rfl, hd1, T.xc_BadText, rfl, ClsV.own _, T.kt_BadText_TooLarge, _, rfl, iteF ?_⟩
      refine ⟨_, rfl, _, d, _, _, _, false, rfl, rfl, hd1, T.xc_BadText, rfl, ClsV.own _, T.kt_BadText_BadLevel, _, rfl, iteF ?_⟩
      refine ⟨_, rfl, _, d, _, _, _, true, rfl, rfl, hd1, T.xc_BadText, rfl, ClsV.own _, T.kt_BadText_BadText, _, rfl, iteT ?_⟩
      refine ⟨_, rfl, _, d, _, _, _, true, rfl, rfl, hd1, T.xc_BadText, rfl, ClsV.ty _, T.kt_BadText_ValueError, _, rfl, iteT ?_⟩
      refine ⟨_, rfl, _, d, _, _, _, false, rfl, rfl, hd1, T.xc_BadText, rfl, ClsV.own _, T.kt_BadText_BadStep, _, rfl, iteYes rfl ?_⟩
      refine ⟨_, rfl, rfl, _, d, _, _, rfl, T.xc_BadText, T.xn_BadText, rfl, hd1, rfl, by show 2 ≤ sizeLine; decide, fun r hr => ?_⟩
      exact qb hno r _ (s1.trans (same_new hr)) (s1.free hr) upd_same
end
end My

namespace My
open PySem L2
def spLStep (K : PySem.W.Frag) : Sp := fun vs H Q _ => ∃ (d t : Addr), vs = [.ref d, .ref t] ∧ Dr K H d t ∧ ∀ (r : Addr) (s : Stp) H', goodT s → Dr K H' d t → But t H H' → H r = none → H' r = some (.tup [.str s.1, .int s.2]) → Q (.ref r) H'
/-- a word that spoils a step -/
def BadD (z : Str) : Prop := (∀ l, run (.d []) (TL.tl z ++ 32 :: l) = .r) ∧ z.length ≤ 20
def spLDeed : Sp := fun vs H Q _ => ∃ (f : Int) (z : Str), vs = [.int f, .str z] ∧ 0 ≤ f ∧ f < 9 ∧ (z = "own" ∨ z = "share" ∨ z = "drop") ∧ ∀ y H', BadD y → Same H H' → Q (.str y) H'
def BadN (z : Str) : Prop := ((∀ l, run .n0 (TL.tl z ++ l) = .r) ∨ z = "") ∧ z.length ≤ 30
def spLNum : Sp := fun vs H Q _ => ∃ (f n : Int), vs = [.int f, .int n] ∧ 0 ≤ f ∧ f < 9 ∧ 0 ≤ n ∧ n < 10 ^ 9 ∧ ∀ y H', BadN y → Same H H' → Q (.str y) H'
theorem BadD.of {z : Str} (h : run (.d []) (TL.tl z ++ [32]) = .r ∧ z.length ≤ 20) : BadD z := ⟨fun l => by
  rw [show TL.tl z ++ 32 :: l = (TL.tl z ++ [32]) ++ l by simp, run_app, h.1]; exact run_r l, h.2⟩
def deedsBad (z : Str) : List Str := [PySem.Txt.upper z, PySem.Txt.upper (cutS z none (some 1)) ++ cutS z (some 1) none, (" " : Str) ++ z, z ++ ("s" : Str), cutS z none (some ((z.length : Int) - 1)), "lock", "", "owned", z ++ ("," : Str)]
theorem deeds_bad {z : Str} (h : z = "own" ∨ z = "share" ∨ z = "drop") : ∀ y ∈ deedsBad z, BadD y := by
  have key : ∀ y ∈ deedsBad z, run (.d []) (TL.tl y ++ [32]) = .r ∧ y.length ≤ 20 := by
    rcases h with rfl | rfl | rfl <;> decide +kernel
  exact fun y hy => BadD.of (key y hy)
theorem run_c {q : Q7} {x : Nat} {l : List Nat} : run q (x :: l) = run (stepQ q x) l := rfl
theorem tl0 : TL.tl "0" = [48] := by decide +kernel
theorem tl_m : TL.tl "-" = [45] := by decide +kernel
theorem tl_p : TL.tl "+" = [43] := by decide +kernel
theorem tl_a : TL.tl "a" = [97] := by decide +kernel
theorem tl_u : TL.tl "_1" = [95, 49] := by decide +kernel
theorem tl00 : TL.tl "00" = [48, 48] := by decide +kernel
theorem tl_dot : TL.tl "." = [46] := by decide +kernel
theorem tl_zeros : TL.tl "0000000000" = List.replicate 10 48 := by decide +kernel
def numsBad (z : Str) : List Str := ([("0" : Str) ++ z, ("-" : Str) ++ z, ("+" : Str) ++ z, z ++ cutS ("0000000000" : Str) (some (z.length : Int)) none, z ++ ("a" : Str), "", z ++ ("_1" : Str)] : List Str) ++ [("00" : Str) ++ z, cutS z none (some 1) ++ ("." : Str) ++ z]
theorem tl_cut_to (z : Str) (n : Nat) : TL.tl (cutS z none (some (n : Int))) = (TL.tl z).take n := by
  show (((TL.tl z).drop (HT.sIx z.length 0 none)).take (HT.sIx z.length z.length (some (n : Int)) - HT.sIx z.length 0 none)) = _
  rw [HT.sIx_none, HT.sIx_nat, List.drop_zero, Nat.sub_zero, TL.len_tl]
  by_cases h : n ≤ (TL.tl z).length
  · rw [Nat.min_eq_left h]
  · rw [Nat.min_eq_right (by omega), List.take_length, List.take_of_length_le (by omega)]
theorem tl_cut_from (z : Str) (n : Nat) : TL.tl (cutS z (some (n : Int)) none) = (TL.tl z).drop n := by
  show (((TL.tl z).drop (HT.sIx z.length 0 (some (n : Int)))).take (HT.sIx z.length z.length none - HT.sIx z.length 0 (some (n : Int)))) = _
  rw [HT.sIx_none, HT.sIx_nat, TL.len_tl]
  by_cases h : n ≤ (TL.tl z).length
  · rw [Nat.min_eq_left h, List.take_of_length_le (by rw [List.length_drop]; omega)]
  · rw [Nat.min_eq_right (by omega), List.drop_length, List.take_nil, List.drop_of_length_le (by omega)]
theorem nums_bad {n : Nat} (h : n < 10 ^ 9) : ∀ y ∈ numsBad (dgS n), BadN y := by
  have hl := dg_len h
  have hd := dg_digits n
  obtain ⟨x, r, ex⟩ : ∃ x r, TL.tl (dgS n) = x :: r := by
    cases e : TL.tl (dgS n) with
    | nil => have := TL.len_tl (dgS n); rw [e] at this; simp at this; omega
    | cons x r => exact ⟨x, r, rfl⟩
  have hx : 48 ≤ x ∧ x ≤ 57 := hd x (by rw [ex]; exact List.mem_cons_self)
  have hr : ∀ l, run .n0 (TL.tl (dgS n) ++ l) = run (numQ n) l := fun l => by rw [run_app, tl_dg, run_nat h]
  intro y hy
  unfold numsBad at hy
  simp only [List.cons_append, List.nil_append, List.mem_cons, List.not_mem_nil, or_false] at hy
  rcases hy with rfl | rfl | rfl | rfl | rfl | rfl | rfl | rfl | rfl
  · refine ⟨.inl fun l => ?_, by rw [len_app, show ("0" : Str).length = 1 by decide +kernel]; omega⟩
    rw [TL.tl_append, tl0, ex]
    exact zero_digit hx _
  · refine ⟨.inl fun l => ?_, by rw [len_app, show ("-" : Str).length = 1 by decide +kernel]; omega⟩
    rw [TL.tl_append, tl_m]
    exact run_r _
  · refine ⟨.inl fun l => ?_, by rw [len_app, show ("+" : Str).length = 1 by decide +kernel]; omega⟩
    rw [TL.tl_append, tl_p]
    exact run_r _
  · have hc := cutS_length ("0000000000" : Str) (some ((dgS n).length : Int)) none
    rw [show ("0000000000" : Str).length = 10 by decide +kernel] at hc
    refine ⟨.inl fun l => ?_, by rw [len_app]; omega⟩
    rw [TL.tl_append, List.append_assoc, hr, tl_cut_from, tl_zeros]
    refine num_more h (fun c hc => ?_) ?_ l
    · have := List.mem_of_mem_drop hc
      rw [List.mem_replicate] at this
      omega
    · rw [List.length_drop, List.length_replicate, ← tl_dg, ← TL.len_tl]; omega
  · refine ⟨.inl fun l => ?_, by rw [len_app, show ("a" : Str).length = 1 by decide +kernel]; omega⟩
    rw [TL.tl_append, tl_a, List.append_assoc, hr]
    exact num_then (by omega) (by omega) _
  · exact ⟨.inr rfl, by decide +kernel⟩
  · refine ⟨.inl fun l => ?_, by rw [len_app, show ("_1" : Str).length = 2 by decide +kernel]; omega⟩
    rw [TL.tl_append, tl_u, List.append_assoc, hr]
    exact num_then (by omega) (by omega) _
  · refine ⟨.inl fun l => ?_, by rw [len_app, show ("00" : Str).length = 2 by decide +kernel]; omega⟩
    rw [TL.tl_append, tl00]
    exact run_r _
  · have hc := cutS_length (dgS n) none (some 1)
    refine ⟨.inl fun l => ?_, by rw [len_app, len_app, show ("." : Str).length = 1 by decide +kernel]; omega⟩
    rw [TL.tl_append, TL.tl_append, tl_dot, show (some 1 : Option Int) = some ((1 : Nat) : Int) from rfl, tl_cut_to, ex]
    show run (stepQ (stepQ .n0 x) 46) _ = .r
    have : stepQ (stepQ .n0 x) 46 = .r := by
      have : ∀ k, k < 10 → stepQ (stepQ .n0 (48 + k)) 46 = .r := by decide
      have := this (x - 48) (by omega)
      rwa [show 48 + (x - 48) = x by omega] at this
    rw [this]; exact run_r _
section
variable {w : World} {K : PySem.W.Frag} {mg : Str → Option Value} {base : Heap}
theorem ok__law_step (T : Txt K mg) : FnOk PP w K mg base CX0 2 T.a__law_step T.fd__law_step ["_law_draws_here", "_law_at"] (spLStep K) := by
  refine T.F__law_step.ok sc__law_step (fun vs H Q E h => ?_) (fun cdv A outer s H vs Q E hr h => ?_)
  · obtain ⟨d, t, rfl, _⟩ := h; rfl
  · obtain ⟨d, t, rfl, D, q⟩ := h
    refine ⟨_, (pss_cons (ps_set (i := 2) sc__law_step.nd rfl (.inl rfl) (pe_call (ok__law_take T) (hr.mono (by omega)) (by rfl) T.g__law_take T.F__law_take.kp T.b__law_take .nil pass0 (pa_cons (pv 0) (pa_cons (pv 1) (pa_cons (pe_int) pa_nil)))))
      (pss_cons (ps_set (i := 3) sc__law_step.nd rfl (.inl rfl) (pe_call (ok__law_take T) (hr.mono (by omega)) (by rfl) T.g__law_take T.F__law_take.kp T.b__law_take .nil pass0 (pa_cons (pv 0) (pa_cons (pv 1) (pa_cons (pe_int) pa_nil)))))
      (C8.pss_cut (ps_if (pt_cmpR op_gt (pv 3) (pe_int) (nomark _)) (pss_one (ps_set (i := 2) sc__law_step.nd rfl (.inl rfl) (pe_op op_add (pe_op op_add (pe_op op_mul (pe_call (ok__law_take T) (hr.mono (by omega)) (by rfl) T.g__law_take T.F__law_take.kp T.b__law_take .nil pass0 (pa_cons (pv 0) (pa_cons (pv 1) (pa_cons (pe_int) pa_nil)))) (pe_op op_pow (pe_int) (pe_int))) (pe_op op_mul (pe_call (ok__law_take T) (hr.mono (by omega)) (by rfl) T.g__law_take T.F__law_take.kp T.b__law_take .nil pass0 (pa_cons (pv 0) (pa_cons (pv 1) (pa_cons (pe_int) pa_nil)))) (pe_int))) (pv 2)))) pss_nil)
      (C8.pss_cut (ps_if (pt_cmpR op_eq (pv 3) (pe_int) (nomark _)) (pss_one (ps_set (i := 2) sc__law_step.nd rfl (.inl rfl) (pe_op op_sub (pe_op op_sub (pe_op op_pow (pe_int) (pe_int)) (pe_int)) (pe_op op_mod (pe_callTy call_int1 (by rfl) T.n_int (by decide +kernel) (pa_cons (pv 2) pa_nil)) (pe_op op_mul (pe_int) (pe_op op_pow (pe_int) (pe_int))))))) pss_nil)
      (pss_one (ps_ret (pe_tup (pa_cons (pe_ix ix_list (pe_lst (pa_cons (pe_str) (pa_cons (pe_str) (pa_cons (pe_str) pa_nil)))) (pe_call (ok__law_take T) (hr.mono (by omega)) (by rfl) T.g__law_take T.F__law_take.kp T.b__law_take .nil pass0 (pa_cons (pv 0) (pa_cons (pv 1) (pa_cons (pe_int) pa_nil)))) (fun _ _ => rfl)) (pa_cons (pv 2) pa_nil))))))))), ?_⟩
    refine ⟨_, rfl, _, rfl, d, t, 6, rfl, D, by decide, fun r1 H1 h10 h11 D1 b1 => ?_⟩
    refine ⟨_, rfl, _, rfl, d, t, 6, rfl, D1, by decide, fun r2 H2 h20 h21 D2 b2 => ?_⟩
    refine ⟨fun σ' H' => ∃ n : Int, σ' = [some (.ref d), some (.ref t), some (.int n), some (.int r2)] ∧ 0 ≤ n ∧ n < 10 ^ 9 ∧ Dr K H' d t ∧ But t H H', ?_, ?_⟩
    · refine ⟨_, rfl, _, _, rfl, rfl, _, rfl, iteD (fun c => ?_) (fun c => ?_)⟩
      · refine ⟨_, rfl, _, rfl, d, t, 1000, rfl, D2, by decide, fun r3 H3 h30 h31 D3 b3 => ⟨_, _, rfl, rfl, ⟨by decide, by decide, by decide⟩, _, _, rfl, rfl, .inr ⟨by decide, by decide⟩, _, rfl, _, rfl, d, t, 1000, rfl, D3, by decide, fun r4 H4 h40 h41 D4 b4 => ⟨_, _, rfl, rfl, .inr ⟨by decide, by decide⟩, _, _, rfl, rfl, _, rfl, _, _, rfl, rfl, _, rfl, ?_, ?_, D4, ((b1.trans b2).trans b3).trans b4⟩⟩⟩
        · show 0 ≤ r3 * 1000000 + r4 * 1000 + r1
          omega
        · show r3 * 1000000 + r4 * 1000 + r1 < 10 ^ 9
          omega
      · exact ⟨_, rfl, h10, by omega, D2, b1.trans b2⟩
    rintro σ' H3 ⟨n, rfl, n0, n1, D3, b3⟩
    refine ⟨fun σ' H' => ∃ n : Int, σ' = [some (.ref d), some (.ref t), some (.int n), some (.int r2)] ∧ 0 ≤ n ∧ n < 10 ^ 9 ∧ Dr K H' d t ∧ But t H H', ?_, ?_⟩
    · refine ⟨_, rfl, rfl, _, rfl, iteD (fun c => ?_) (fun c => ?_)⟩
      · refine ⟨_, _, rfl, rfl, ⟨by decide, by decide, by decide⟩, _, _, rfl, rfl, _, rfl, .inl ⟨_, rfl, _, _, rfl, rfl, ⟨by decide, by decide, by decide⟩, _, _, rfl, rfl, .inl ⟨by decide, by decide⟩, _, _, rfl, rfl, by show (0 : Int) < 900000000; decide, _, _, rfl, rfl, _, rfl, ?_, ?_, D3, b3⟩⟩
        · show (0 : Int) ≤ 1000000000 - 1 - n % 900000000
          omega
        · show (1000000000 : Int) - 1 - n % 900000000 < 10 ^ 9
          omega
      · exact ⟨_, rfl, n0, n1, D3, b3⟩
    rintro σ' H4 ⟨n, rfl, n0, n1, D4, b4⟩
    refine ⟨by show 3 ≤ sizeLine; decide, fun m hm => ?_⟩
    have s5 := same_new (o := .lst deedsV) hm
    have nmt : m ≠ t := D4.na hm
    refine ⟨_, rfl, _, rfl, d, t, 3, rfl, D4.same s5, by decide, fun r5 H5 h50 h51 D5 b5 => ?_⟩
    obtain ⟨v, hv, mv⟩ := at_ok (xs := deedsV) h50 h51
    obtain ⟨z, rfl, hz⟩ : ∃ z : Str, v = .str z ∧ (z = "own" ∨ z = "share" ∨ z = "drop") := by
      unfold deedsV at mv
      simp only [List.mem_cons, List.not_mem_nil, or_false] at mv
      rcases mv with rfl | rfl | rfl <;> exact ⟨_, rfl, by simp⟩
    refine ⟨_, _, _, _, rfl, rfl, SqL.of (b5 _ _ nmt upd_same), hv, _, rfl, by show 2 ≤ sizeLine; decide, fun u hu => ?_⟩
    have c5 : But t H H5 := (b4.trans (But.of_same s5)).trans b5
    exact q u (z, n) _ ⟨⟨hz, n0⟩, n1⟩ (D5.same (same_new hu)) (c5.trans (But.of_same (same_new hu))) (c5.free (D5.na hu) hu) upd_same
theorem ok__law_deed (T : Txt K mg) : FnOk PP w K mg base CX0 1 T.a__law_deed T.fd__law_deed ["_law_form", "_law_deed_here"] spLDeed := by
  refine T.F__law_deed.ok sc__law_deed (fun vs H Q E h => ?_) (fun cdv A outer s H vs Q E hr h => ?_)
  · obtain ⟨f, z, rfl, _⟩ := h; rfl
  · obtain ⟨f, z, rfl, f0, f1, hz, q⟩ := h
    refine ⟨_, (pss_one (ps_ret (pe_ix ix_list (pe_lst (pa_cons (pe_upper (pv 1)) (pa_cons (pe_op op_add_str (pe_upper (pe_slice sl_str (pv 1) po_none (po_some (pe_int)))) (pe_slice sl_str (pv 1) (po_some (pe_int)) po_none)) (pa_cons (pe_op op_add_str (pe_str) (pv 1)) (pa_cons (pe_op op_add_str (pv 1) (pe_str)) (pa_cons (pe_slice sl_str (pv 1) po_none (po_some (pe_op op_sub (pe_callB call_len_str (by rfl) T.n_len (by decide +kernel) (pa_cons (pv 1) pa_nil)) (pe_int)))) (pa_cons (pe_str) (pa_cons (pe_str) (pa_cons (pe_str) (pa_cons (pe_op op_add_str (pv 1) (pe_str)) pa_nil)))))))))) (pv 0) (fun _ _ => rfl)))), ?_⟩
    have big : 90000 < sizeLine := by decide
    have zl := deed_len hz
    have e1 : ((" " : Str)).length = 1 := by decide +kernel
    have e2 : (("s" : Str)).length = 1 := by decide +kernel
    have e3 : (("," : Str)).length = 1 := by decide +kernel
    have up := PyProof.Rows.len_upper
    have c1 := cutS_length z none (some 1)
    have c2 := cutS_length z (some 1) none
    have u1 := up (cutS z none (some 1))
    refine ⟨_, rfl, ⟨_, rfl⟩, _, rfl, rfl, by omega, _, rfl, _, rfl, _, rfl, by omega, ⟨_, rfl⟩, _, rfl, rfl, by omega, _, rfl, _, rfl, _, rfl, by omega, _, _, rfl, rfl, by omega, _, rfl, _, _, rfl, rfl, by omega, _, rfl, _, _, rfl, rfl, by omega, _, rfl, _, rfl, _, rfl, by omega, _, _, rfl, rfl, _, rfl, _, rfl, by omega, _, rfl, _, _, rfl, rfl, by omega, by show 9 ≤ sizeLine; decide, fun p hp => ?_⟩
    obtain ⟨v, hv, mv⟩ := at_ok (xs := (deedsBad z).map V.str) f0 (by rw [List.length_map]; exact f1)
    obtain ⟨y, my, rfl⟩ := List.mem_map.mp mv
    exact ⟨_, rfl, _, _, _, _, rfl, rfl, SqL.of upd_same, hv, q y _ (deeds_bad hz y my) (same_new hp)⟩
theorem ok__law_number_word (T : Txt K mg) : FnOk PP w K mg base CX0 1 T.a__law_number_word T.fd__law_number_word ["_law_form", "_law_thing"] spLNum := by
  refine T.F__law_number_word.ok sc__law_number_word (fun vs H Q E h => ?_) (fun cdv A outer s H vs Q E hr h => ?_)
  · obtain ⟨f, n, rfl, _⟩ := h; rfl
  · obtain ⟨f, n, rfl, f0, f1, n0, n1, q⟩ := h
    refine ⟨_, (pss_cons (ps_set (i := 2) sc__law_number_word.nd rfl (.inl rfl) (pe_callTy call_str_int (by rfl) T.n_str (by decide +kernel) (pa_cons (pv 1) pa_nil)))
      (pss_cons (ps_set (i := 3) sc__law_number_word.nd rfl (.inl rfl) (pe_lst (pa_cons (pe_op op_add_str (pe_str) (pv 2)) (pa_cons (pe_op op_add_str (pe_str) (pv 2)) (pa_cons (pe_op op_add_str (pe_str) (pv 2)) (pa_cons (pe_op op_add_str (pv 2) (pe_slice sl_str (pe_str) (po_some (pe_callB call_len_str (by rfl) T.n_len (by decide +kernel) (pa_cons (pv 2) pa_nil))) po_none)) (pa_cons (pe_op op_add_str (pv 2) (pe_str)) (pa_cons (pe_str) (pa_cons (pe_op op_add_str (pv 2) (pe_str)) pa_nil)))))))))
      (pss_one (ps_ret (pe_ix ix_list (pe_op op_cat (pv 3) (pe_lst (pa_cons (pe_op op_add_str (pe_str) (pv 2)) (pa_cons (pe_op op_add_str (pe_op op_add_str (pe_slice sl_str (pv 2) po_none (po_some (pe_int))) (pe_str)) (pv 2)) pa_nil)))) (pv 0) (fun _ _ => rfl)))))), ?_⟩
    obtain ⟨m, rfl⟩ := Int.eq_ofNat_of_zero_le n0
    have hm : m < 10 ^ 9 := by omega
    refine ⟨_, rfl, _, rfl, log_ok n0 n1, ?_⟩
    have zl := dg_len hm
    unfold dgS at zl
    have nb := nums_bad hm
    unfold dgS at nb
    revert zl nb
    generalize Str.ofString (toString ((m : Nat) : Int)) = z
    intro zl nb
    have big : 90000 < sizeLine := by decide
    have e1 : (("0" : Str)).length = 1 := by decide +kernel
    have e2 : (("-" : Str)).length = 1 := by decide +kernel
    have e3 : (("+" : Str)).length = 1 := by decide +kernel
    have e4 : (("a" : Str)).length = 1 := by decide +kernel
    have e5 : (("_1" : Str)).length = 2 := by decide +kernel
    have e6 : (("00" : Str)).length = 2 := by decide +kernel
    have e7 : (("." : Str)).length = 1 := by decide +kernel
    have e8 : (("0000000000" : Str)).length = 10 := by decide +kernel
    have c1 := cutS_length z none (some 1)
    have c2 := cutS_length ("0000000000" : Str) (some (z.length : Int)) none
    refine ⟨_, rfl, _, _, rfl, rfl, by omega, _, rfl, _, _, rfl, rfl, by omega, _, rfl, _, _, rfl, rfl, by omega, _, rfl, _, rfl, z, rfl, by omega, _, rfl, _, rfl, by omega, _, _, rfl, rfl, by omega, _, rfl, _, _, rfl, rfl, by omega, _, rfl, _, _, rfl, rfl, by omega, by show 7 ≤ sizeLine; decide, fun p hp => ?_⟩
    have s1 := same_new (o := .lst [.str (("0" : Str) ++ z), .str (("-" : Str) ++ z), .str (("+" : Str) ++ z), .str (z ++ cutS ("0000000000" : Str) (some (z.length : Int)) none), .str (z ++ ("a" : Str)), .str "", .str (z ++ ("_1" : Str))]) hp
    refine ⟨_, rfl, _, rfl, _, _, rfl, rfl, by omega, _, rfl, _, rfl, _, rfl, by omega, _, _, rfl, rfl, by omega, _, rfl, _, _, rfl, rfl, by rw [len_app]; omega, by show 2 ≤ sizeLine; decide, fun p2 hp2 => ?_⟩
    have s2 := same_new (o := .lst [.str (("00" : Str) ++ z), .str (cutS z none (some 1) ++ ("." : Str) ++ z)]) hp2
    refine ⟨p, p2, _, _, rfl, rfl, s2 _ _ upd_same, upd_same, by show 7 + 2 ≤ sizeLine; decide, fun p3 hp3 => ?_⟩
    obtain ⟨v, hv, mv⟩ := at_ok (xs := (numsBad z).map V.str) f0 (by rw [List.length_map]; exact f1)
    obtain ⟨y, my, rfl⟩ := List.mem_map.mp mv
    exact ⟨_, rfl, _, _, _, _, rfl, rfl, SqL.of upd_same, hv, q y _ (nb y my) ((s1.trans s2).trans (same_new hp3))⟩
end
end My

namespace My
open PySem L2
theorem bad_of {t : Str} {b y : List Nat} (e : TL.tl t = b ++ y) (hb : run (.d []) b = .d []) (hy : y ≠ []) (h : okQ (run (.d []) y) = false) : BadT t := by
  refine ⟨fun z => ?_, by rw [e, run_app, hb]; exact h⟩
  rw [z, show TL.tl "" = [] from rfl] at e
  exact hy (List.append_eq_nil_iff.mp e.symm).2
theorem okr {y : List Nat} (h : run (.d []) y = .r) : okQ (run (.d []) y) = false := by rw [h]; rfl
/-- what stands behind the spoilt step -/
def Aft (A : Str) : Prop := (TL.tl A = [] ∨ ∃ l, TL.tl A = 44 :: l) ∧ A.length ≤ 120
def Bef (B : Str) : Prop := run (.d []) (TL.tl B) = .d [] ∧ B.length ≤ 120
theorem tl_nil_ne {z : Str} (h : z = "own" ∨ z = "share" ∨ z = "drop") (l : List Nat) : TL.tl z ++ l ≠ [] := fun e => by
  have := (List.append_eq_nil_iff.mp e).1
  rcases h with rfl | rfl | rfl
  · rw [tl_own] at this; cases this
  · rw [tl_share] at this; cases this
  · rw [tl_drop] at this; cases this
theorem bad0 {B z W A : Str} (hB : Bef B) (hA : Aft A) (hz : z = "own" ∨ z = "share" ∨ z = "drop") (hW : BadN W) : BadT (B ++ z ++ (" " : Str) ++ W ++ A) := by
  refine bad_of (b := TL.tl B) (y := TL.tl z ++ 32 :: (TL.tl W ++ TL.tl A)) (by simp only [TL.tl_append, tl_sp, List.append_assoc]; rfl) hB.1 (tl_nil_ne hz _) ?_
  rw [deed_run hz]
  rcases hW.1 with h | h
  · rw [h]; rfl
  · rw [h, show TL.tl "" = [] from rfl, List.nil_append]
    rcases hA.1 with e | ⟨l, e⟩
    · rw [e]; rfl
    · rw [e, show run .n0 (44 :: l) = .r from run_r l]; rfl
theorem bad1 {B W D A : Str} (hB : Bef B) (hW : BadD W) : BadT (B ++ W ++ (" " : Str) ++ D ++ A) := by
  refine bad_of (b := TL.tl B) (y := TL.tl W ++ 32 :: (TL.tl D ++ TL.tl A)) (by simp only [TL.tl_append, tl_sp, List.append_assoc]; rfl) hB.1 (by simp) ?_
  rw [hW.1]; rfl
def seps2 : List Str := ["  ", "", "\t", "\n", ",", ", ", "=", ":", " a "]
theorem bad2 {B z A : Str} {n : Nat} (hB : Bef B) (hz : z = "own" ∨ z = "share" ∨ z = "drop") : ∀ s ∈ seps2, BadT (B ++ z ++ s ++ dgS n ++ A) ∧ s.length ≤ 20 := by
  have dec : ∀ s ∈ seps2, s = "" ∨ run (.d []) (TL.tl z ++ TL.tl s) = .r := by
    rcases hz with rfl | rfl | rfl <;> decide +kernel
  have len : ∀ s ∈ seps2, s.length ≤ 20 := by decide +kernel
  intro s hs
  refine ⟨?_, len s hs⟩
  refine bad_of (b := TL.tl B) (y := TL.tl z ++ (TL.tl s ++ (TL.tl (dgS n) ++ TL.tl A))) (by simp only [TL.tl_append, List.append_assoc]) hB.1 (tl_nil_ne hz _) (okr ?_)
  rcases dec s hs with e | e
  · rw [e, show TL.tl "" = [] from rfl, List.nil_append]
    have hd := dg_digits n
    have hne := TL.numL_ne n
    rw [← tl_dg] at hne
    revert hd hne
    generalize TL.tl (dgS n) = l
    intro hd hne
    rcases l with _ | ⟨x, r⟩
    · exact absurd rfl hne
    · have hx : 48 ≤ x ∧ x ≤ 57 := hd x List.mem_cons_self
      have key : ∀ k, k < 10 → stepQ (.d (TL.tl z)) (48 + k) = .r := by rcases hz with rfl | rfl | rfl <;> decide +kernel
      have kx := key (x - 48) (by omega)
      rw [show 48 + (x - 48) = x by omega] at kx
      rw [run_app, (deed_st hz).1]
      show run (stepQ (.d (TL.tl z)) x) _ = .r
      rw [kx]; exact run_r _
  · rw [← List.append_assoc, run_app, e]; exact run_r _
def ends3 : List Str := [" 1", " own", "  ", " a", ";", " own 1", " ,", "\n", "\t"]
theorem bad3 {B z A : Str} {n : Nat} (hn : n < 10 ^ 9) (hB : Bef B) (hz : z = "own" ∨ z = "share" ∨ z = "drop") : ∀ s ∈ ends3, BadT (B ++ z ++ (" " : Str) ++ dgS n ++ s ++ A) ∧ s.length ≤ 20 := by
  have dec : ∀ s ∈ ends3, ∃ x ∈ [32, 59, 10, 9], (TL.tl s).head? = some x := by decide +kernel
  have len : ∀ s ∈ ends3, s.length ≤ 20 := by decide +kernel
  intro s hs
  refine ⟨?_, len s hs⟩
  refine bad_of (b := TL.tl B) (y := TL.tl z ++ 32 :: (TL.tl (dgS n) ++ (TL.tl s ++ TL.tl A))) (by simp only [TL.tl_append, tl_sp, List.append_assoc]; rfl) hB.1 (tl_nil_ne hz _) (okr ?_)
  obtain ⟨x, hx, e⟩ := dec s hs
  obtain ⟨r, e⟩ : ∃ r, TL.tl s = x :: r := by
    cases h : TL.tl s with
    | nil => rw [h] at e; cases e
    | cons y r => rw [h] at e; exact ⟨r, by rw [Option.some.inj e]⟩
  rw [deed_run hz, run_app, tl_dg, run_nat hn, e]
  simp only [List.mem_cons, List.not_mem_nil, or_false] at hx
  exact num_then (by omega) (by omega) _
def seps4 : List Str := [",", ";", " , ", ",  ", " ", "", "; ", "\n", ",\n"]
theorem bad4 {B z A : Str} {n : Nat} (hn : n < 10 ^ 9) (hB : Bef B) (hz : z = "own" ∨ z = "share" ∨ z = "drop") : ∀ s ∈ seps4, BadT (B ++ z ++ (" " : Str) ++ dgS n ++ s ++ ("own 1" : Str) ++ A) ∧ s.length ≤ 20 := by
  have dec : ∀ s ∈ seps4, (∃ x ∈ [59, 32, 111, 10], (TL.tl s ++ TL.tl "own 1").head? = some x) ∨ ((TL.tl s ++ TL.tl "own 1").head? = some 44 ∧ run .c (TL.tl s ++ TL.tl "own 1").tail = .r) := by decide +kernel
  have len : ∀ s ∈ seps4, s.length ≤ 20 := by decide +kernel
  intro s hs
  refine ⟨?_, len s hs⟩
  refine bad_of (b := TL.tl B) (y := TL.tl z ++ 32 :: (TL.tl (dgS n) ++ ((TL.tl s ++ TL.tl "own 1") ++ TL.tl A))) (by simp only [TL.tl_append, tl_sp, List.append_assoc]; rfl) hB.1 (tl_nil_ne hz _) (okr ?_)
  rw [deed_run hz, run_app, tl_dg, run_nat hn]
  rcases dec s hs with ⟨x, hx, e⟩ | ⟨e, e2⟩
  · cases h : TL.tl s ++ TL.tl "own 1" with
    | nil => rw [h] at e; cases e
    | cons y r =>
      rw [h] at e
      have e : y = x := Option.some.inj e
      rw [e]
      simp only [List.mem_cons, List.not_mem_nil, or_false] at hx
      exact num_then (by omega) (by omega) _
  · cases h : TL.tl s ++ TL.tl "own 1" with
    | nil => rw [h] at e; cases e
    | cons y r =>
      rw [h] at e e2
      have e : y = 44 := Option.some.inj e
      have e2 : run .c r = .r := e2
      rw [e, List.cons_append, num_comma, run_app, e2]
      exact run_r _
def ends5 : List Str := ["\n", " ", ",", ", ", "\t", ";", "\n\n", ",,", "  "]
theorem bad5a {t : Str} : ∀ s ∈ ends5, BadT (s ++ t) ∧ s.length ≤ 20 := by
  have dec : ∀ s ∈ ends5, run (.d []) (TL.tl s) = .r ∧ TL.tl s ≠ [] ∧ s.length ≤ 20 := by decide +kernel
  intro s hs
  obtain ⟨h1, h2, h3⟩ := dec s hs
  refine ⟨bad_of (b := []) (y := TL.tl s ++ TL.tl t) (by rw [TL.tl_append]; rfl) rfl (fun e => h2 (List.append_eq_nil_iff.mp e).1) (okr ?_), h3⟩
  rw [run_app, h1]; exact run_r _
theorem bad5b {ss : List Stp} (h : ss ≠ []) (hg : ∀ s ∈ ss, goodT s) : ∀ s ∈ ends5, BadT (textS ss ++ s) ∧ s.length ≤ 20 := by
  obtain ⟨n, hn, e⟩ := run_text h hg
  have dec : ∀ s ∈ ends5, ((∃ x ∈ [32, 59, 10, 9], (TL.tl s).head? = some x) ∨ ((TL.tl s).head? = some 44 ∧ okQ (run .c (TL.tl s).tail) = false)) ∧ s.length ≤ 20 := by decide +kernel
  intro s hs
  obtain ⟨h1, h2⟩ := dec s hs
  refine ⟨bad_of (b := []) (y := TL.tl (textS ss) ++ TL.tl s) (by rw [TL.tl_append]; rfl) rfl (fun z => ?_) ?_, h2⟩
  · have z := (List.append_eq_nil_iff.mp z).2
    rw [z] at h1
    rcases h1 with ⟨_, _, h1⟩ | ⟨h1, _⟩ <;> cases h1
  · rw [run_app, e]
    rcases h1 with ⟨x, hx, e1⟩ | ⟨e1, e2⟩
    · cases h : TL.tl s with
      | nil => rw [h] at e1; cases e1
      | cons y r =>
        rw [h] at e1
        have e1 : y = x := Option.some.inj e1
        rw [e1]
        simp only [List.mem_cons, List.not_mem_nil, or_false] at hx
        rw [num_then (by omega) (by omega)]; rfl
    · cases h : TL.tl s with
      | nil => rw [h] at e1; cases e1
      | cons y r =>
        rw [h] at e1 e2
        have e1 : y = 44 := Option.some.inj e1
        rw [e1, num_comma]; exact e2
theorem bef_no : Bef "" := ⟨rfl, by decide +kernel⟩
theorem aft_no : Aft "" := ⟨.inl rfl, by decide +kernel⟩
theorem bef_yes {ss : List Stp} (h : ss ≠ []) (hg : ∀ s ∈ ss, goodT s) (hl : ss.length ≤ 6) : Bef (textS ss ++ (", " : Str)) := by
  refine ⟨run_before h hg, ?_⟩
  have := text_len hg
  rw [len_app, show (", " : Str).length = 2 by decide +kernel]
  omega
theorem aft_yes {ss : List Stp} (hg : ∀ s ∈ ss, goodT s) (hl : ss.length ≤ 6) : Aft ((", " : Str) ++ textS ss) := by
  refine ⟨.inr ⟨32 :: TL.tl (textS ss), by rw [TL.tl_append, tl_cm]; rfl⟩, ?_⟩
  have := text_len hg
  rw [len_app, show (", " : Str).length = 2 by decide +kernel]
  omega
end My

namespace My
open PySem L2
def spSpoilt : Sp := fun vs H Q _ => ∃ (a u : Addr) (k f p : Int) (us : List V) (ss : List Stp), vs = [.ref a, .ref u] ∧ H a = some (.lst [.int k, .int f, .int p]) ∧ 0 ≤ k ∧ k < 6 ∧ 0 ≤ f ∧ f < 9 ∧ 0 ≤ p ∧ p < 12 ∧ H u = some (.lst us) ∧ Stps H us ss ∧ ss ≠ [] ∧ (∀ s ∈ ss, goodT s) ∧ ss.length ≤ 6 ∧
  ∀ t H', BadT t → t.length ≤ 400 → Same H H' → Q (.str t) H'
section
variable {w : World} {K : PySem.W.Frag} {mg : Str → Option Value} {base : Heap}
theorem ok__law_spoilt (T : Txt K mg) : FnOk PP w K mg base CX0 3 T.a__law_spoilt T.fd__law_spoilt ["_law_spoil", "_law_steps"] spSpoilt := by
  refine T.F__law_spoilt.ok sc__law_spoilt (fun vs H Q E h => ?_) (fun cdv A outer s H vs Q E hr h => ?_)
  · obtain ⟨a, u, k, f, p, us, ss, rfl, _⟩ := h; rfl
  · obtain ⟨a, u, k, f, p, us, ss, rfl, ha, k0, k1, f0, f1, p0, p1, hu, hs, hne, hg, hl, q⟩ := h
    refine ⟨_, (pss_cons (ps_set (i := 2) sc__law_spoilt.nd rfl (.inl rfl) (pe_ix ix_list (pv 0) (pe_int) (fun _ _ => rfl)))
      (pss_cons (ps_set (i := 3) sc__law_spoilt.nd rfl (.inl rfl) (pe_ix ix_list (pv 0) (pe_int) (fun _ _ => rfl)))
      (pss_cons (ps_set (i := 4) sc__law_spoilt.nd rfl (.inl rfl) (pe_op op_mod (pe_callTy call_int1 (by rfl) T.n_int (by decide +kernel) (pa_cons (pe_ix ix_list (pv 0) (pe_int) (fun _ _ => rfl)) pa_nil)) (pe_callB call_len_seq (by rfl) T.n_len (by decide +kernel) (pa_cons (pv 1) pa_nil))))
      (pss_cons (ps_set (i := 5) sc__law_spoilt.nd rfl (.inl rfl) (pe_ix ix_tup (pe_ix ix_list (pv 1) (pv 4) (fun _ _ => rfl)) (pe_int) (fun _ _ => rfl)))
      (pss_cons (ps_set (i := 6) sc__law_spoilt.nd rfl (.inl rfl) (pe_callTy call_str_int (by rfl) T.n_str (by decide +kernel) (pa_cons (pe_ix ix_tup (pe_ix ix_list (pv 1) (pv 4) (fun _ _ => rfl)) (pe_int) (fun _ _ => rfl)) pa_nil)))
      (pss_cons (ps_set (i := 7) sc__law_spoilt.nd rfl (.inl rfl) (pe_call (ok__law_text T) (hr.mono (by omega)) (by rfl) T.g__law_text T.F__law_text.kp T.b__law_text .nil pass0 (pa_cons (pe_slice sl_list (pv 1) po_none (po_some (pv 4))) pa_nil)))
      (C8.pss_cut (ps_if (pt_cmpR op_gt (pv 4) (pe_int) (nomark _)) (pss_one (ps_set (i := 7) sc__law_spoilt.nd rfl (.inl rfl) (pe_op op_add_str (pv 7) (pe_str)))) pss_nil)
      (pss_cons (ps_set (i := 8) sc__law_spoilt.nd rfl (.inl rfl) (pe_call (ok__law_text T) (hr.mono (by omega)) (by rfl) T.g__law_text T.F__law_text.kp T.b__law_text .nil pass0 (pa_cons (pe_slice sl_list (pv 1) (po_some (pe_op op_add (pv 4) (pe_int))) po_none) pa_nil)))
      (C8.pss_cut (ps_if (pt_cmpR op_lt (pe_op op_add (pv 4) (pe_int)) (pe_callB call_len_seq (by rfl) T.n_len (by decide +kernel) (pa_cons (pv 1) pa_nil)) (nomark _)) (pss_one (ps_set (i := 8) sc__law_spoilt.nd rfl (.inl rfl) (pe_op op_add_str (pe_str) (pv 8)))) pss_nil)
      (pss_cons (ps_if (pt_cmpR op_eq (pv 2) (pe_int) (nomark _)) (pss_one (ps_ret (pe_op op_add_str (pe_op op_add_str (pe_op op_add_str (pe_op op_add_str (pv 7) (pv 5)) (pe_str)) (pe_call (ok__law_number_word T) (hr.mono (by omega)) (by rfl) T.g__law_number_word T.F__law_number_word.kp T.b__law_number_word .nil pass0 (pa_cons (pv 3) (pa_cons (pe_ix ix_tup (pe_ix ix_list (pv 1) (pv 4) (fun _ _ => rfl)) (pe_int) (fun _ _ => rfl)) pa_nil)))) (pv 8)))) pss_nil)
      (pss_cons (ps_if (pt_cmpR op_eq (pv 2) (pe_int) (nomark _)) (pss_one (ps_ret (pe_op op_add_str (pe_op op_add_str (pe_op op_add_str (pe_op op_add_str (pv 7) (pe_call (ok__law_deed T) (hr.mono (by omega)) (by rfl) T.g__law_deed T.F__law_deed.kp T.b__law_deed .nil pass0 (pa_cons (pv 3) (pa_cons (pv 5) pa_nil)))) (pe_str)) (pv 6)) (pv 8)))) pss_nil)
      (pss_cons (ps_if (pt_cmpR op_eq (pv 2) (pe_int) (nomark _)) (pss_one (ps_ret (pe_op op_add_str (pe_op op_add_str (pe_op op_add_str (pe_op op_add_str (pv 7) (pv 5)) (pe_ix ix_list (pe_lst (pa_cons (pe_str) (pa_cons (pe_str) (pa_cons (pe_str) (pa_cons (pe_str) (pa_cons (pe_str) (pa_cons (pe_str) (pa_cons (pe_str) (pa_cons (pe_str) (pa_cons (pe_str) pa_nil)))))))))) (pv 3) (fun _ _ => rfl))) (pv 6)) (pv 8)))) pss_nil)
      (pss_cons (ps_if (pt_cmpR op_eq (pv 2) (pe_int) (nomark _)) (pss_one (ps_ret (pe_op op_add_str (pe_op op_add_str (pe_op op_add_str (pe_op op_add_str (pe_op op_add_str (pv 7) (pv 5)) (pe_str)) (pv 6)) (pe_ix ix_list (pe_lst (pa_cons (pe_str) (pa_cons (pe_str) (pa_cons (pe_str) (pa_cons (pe_str) (pa_cons (pe_str) (pa_cons (pe_str) (pa_cons (pe_str) (pa_cons (pe_str) (pa_cons (pe_str) pa_nil)))))))))) (pv 3) (fun _ _ => rfl))) (pv 8)))) pss_nil)
      (pss_cons (ps_if (pt_cmpR op_eq (pv 2) (pe_int) (nomark _)) (pss_cons (ps_set (i := 9) sc__law_spoilt.nd rfl (.inl rfl) (pe_ix ix_list (pe_lst (pa_cons (pe_str) (pa_cons (pe_str) (pa_cons (pe_str) (pa_cons (pe_str) (pa_cons (pe_str) (pa_cons (pe_str) (pa_cons (pe_str) (pa_cons (pe_str) (pa_cons (pe_str) pa_nil)))))))))) (pv 3) (fun _ _ => rfl)))
      (pss_one (ps_ret (pe_op op_add_str (pe_op op_add_str (pe_op op_add_str (pe_op op_add_str (pe_op op_add_str (pe_op op_add_str (pv 7) (pv 5)) (pe_str)) (pv 6)) (pv 9)) (pe_str)) (pv 8))))) pss_nil)
      (pss_cons (ps_set (i := 10) sc__law_spoilt.nd rfl (.inl rfl) (pe_ix ix_list (pe_lst (pa_cons (pe_str) (pa_cons (pe_str) (pa_cons (pe_str) (pa_cons (pe_str) (pa_cons (pe_str) (pa_cons (pe_str) (pa_cons (pe_str) (pa_cons (pe_str) (pa_cons (pe_str) pa_nil)))))))))) (pv 3) (fun _ _ => rfl)))
      (pss_cons (ps_if (pt_cmpR op_gt (pe_ix ix_list (pv 0) (pe_int) (fun _ _ => rfl)) (pe_int) (nomark _)) (pss_one (ps_ret (pe_op op_add_str (pv 10) (pe_call (ok__law_text T) (hr.mono (by omega)) (by rfl) T.g__law_text T.F__law_text.kp T.b__law_text .nil pass0 (pa_cons (pv 1) pa_nil))))) pss_nil)
      (pss_one (ps_ret (pe_op op_add_str (pe_call (ok__law_text T) (hr.mono (by omega)) (by rfl) T.g__law_text T.F__law_text.kp T.b__law_text .nil pass0 (pa_cons (pv 1) pa_nil)) (pv 10)))))))))))))))))))), ?_⟩
    have big : 90000 < sizeLine := by decide
    have lu := pair_len hs
    have lp : 0 < ss.length := List.length_pos_iff.mpr hne
    refine ⟨_, rfl, _, _, _, _, rfl, rfl, SqL.of ha, at_of (j := 0) rfl rfl, ?_⟩
    refine ⟨_, rfl, _, _, _, _, rfl, rfl, SqL.of ha, at_of (j := 1) rfl rfl, ?_⟩
    refine ⟨_, rfl, _, _, _, _, rfl, rfl, SqL.of ha, at_of (j := 2) rfl rfl, .inl ⟨_, rfl, _, rfl, u, _, rfl, .inl (SqL.of hu), _, _, rfl, rfl, by show (0 : Int) < (us.length : Nat); omega, ?_⟩⟩
    obtain ⟨j, ej⟩ := Int.eq_ofNat_of_zero_le (Int.emod_nonneg p (show ((us.length : Nat) : Int) ≠ 0 by omega))
    have hj0 := Int.emod_lt_of_pos p (show (0 : Int) < (us.length : Nat) by omega)
    have ej : p % ((us.length : Nat) : Int) = (j : Int) := ej
    rw [ej] at hj0
    have hj : j < us.length := by omega
    have gv : us[j]? = some us[j] := List.getElem?_eq_getElem hj
    obtain ⟨sj, hsj, t, etj, ht⟩ := pair_get hs gv
    rw [etj] at gv
    have gj := hg sj (List.mem_of_getElem? hsj)
    obtain ⟨z, n⟩ := sj
    obtain ⟨n, rfl⟩ := Int.eq_ofNat_of_zero_le gj.1.2
    have hz : z = "own" ∨ z = "share" ∨ z = "drop" := gj.1.1
    have hn : n < 10 ^ 9 := by have : ((n : Nat) : Int) < 10 ^ 9 := gj.2; omega
    show gName 4 (V.int (p % ((us.length : Nat) : Int))) _ _ _
    rw [ej]
    have at_j : atI us (j : Int) = some (.ref t) := atI_nat gv
    -- the deed and the number
    refine ⟨_, rfl, _, rfl, _, _, _, _, rfl, rfl, SqL.of hu, at_j, _, _, _, _, rfl, rfl, SqT.of ht, at_of (j := 0) rfl rfl, ?_⟩
    refine ⟨_, rfl, _, rfl, _, _, _, _, rfl, rfl, SqL.of hu, at_j, _, _, _, _, rfl, rfl, SqT.of ht, at_of (j := 1) rfl rfl, _, rfl, log_ok gj.1.2 gj.2, ?_⟩
    show gName 6 (V.str (dgS n)) _ _ _
    -- the text before
    have gt1 : ∀ s ∈ ss.take j, goodT s := fun s h => hg s (List.mem_of_mem_take h)
    have gt2 : ∀ s ∈ ss.drop (j + 1), goodT s := fun s h => hg s (List.mem_of_mem_drop h)
    have tl1 := text_len gt1
    have tl2 := text_len gt2
    rw [List.length_take] at tl1
    rw [List.length_drop] at tl2
    have ec : (", " : Str).length = 2 := by decide +kernel
    refine ⟨_, rfl, _, rfl, _, rfl, u, _, rfl, SqL.of hu, fun c1 n1 => ?_⟩
    rw [cut_to us j]
    have s1 := same_new (o := .lst (us.take j)) n1
    refine ⟨c1, _, ss.take j, rfl, upd_same, pair_take j (hs.same s1), gt1, by rw [List.length_take]; omega, fun H2 s2 => ?_⟩
    have t2 := s1.trans s2
    refine ⟨fun σ' H' => ∃ B : Str, σ' = [some (.ref a), some (.ref u), some (.int k), some (.int f), some (.int (j : Int)), some (.str z), some (.str (dgS n)), some (.str B), none, none, none] ∧ Bef B ∧ Same H H', ?_, ?_⟩
    · refine ⟨_, rfl, _, _, rfl, rfl, _, rfl, iteD (fun c => ?_) (fun c => ?_)⟩
      · refine ⟨_, rfl, _, _, rfl, rfl, by omega, _, rfl, bef_yes (fun e => ?_) gt1 (by rw [List.length_take]; omega), t2⟩
        have := congrArg List.length e
        rw [List.length_take, List.length_nil] at this
        omega
      · have ej0 : j = 0 := by omega
        subst ej0
        exact ⟨_, rfl, bef_no, t2⟩
    rintro σ' H3 ⟨B, rfl, hB, t3⟩
    have hu3 := t3 _ _ hu
    refine ⟨_, rfl, _, rfl, _, _, rfl, rfl, _, rfl, u, _, rfl, SqL.of hu3, fun c2 n2 => ?_⟩
    rw [show ((j : Int) + 1) = ((j + 1 : Nat) : Int) by omega, cut_from us (j + 1)]
    have s4 := same_new (o := .lst (us.drop (j + 1))) n2
    refine ⟨c2, _, ss.drop (j + 1), rfl, upd_same, pair_drop (j + 1) (hs.same (t3.trans s4)), gt2, by rw [List.length_drop]; omega, fun H5 s5 => ?_⟩
    have t5 := (t3.trans s4).trans s5
    refine ⟨fun σ' H' => ∃ A : Str, σ' = [some (.ref a), some (.ref u), some (.int k), some (.int f), some (.int (j : Int)), some (.str z), some (.str (dgS n)), some (.str B), some (.str A), none, none] ∧ Aft A ∧ Same H H', ?_, ?_⟩
    · refine ⟨_, rfl, _, _, rfl, rfl, _, rfl, u, _, rfl, .inl (SqL.of (t5 _ _ hu)), _, _, rfl, rfl, _, rfl, iteD (fun c => ?_) (fun c => ?_)⟩
      · exact ⟨_, rfl, _, _, rfl, rfl, by omega, _, rfl, aft_yes gt2 (by rw [List.length_drop]; omega), t5⟩
      · have e0 : ss.drop (j + 1) = [] := List.drop_eq_nil_of_le (by omega)
        rw [e0]
        exact ⟨_, rfl, aft_no, t5⟩
    rintro σ' H6 ⟨A, rfl, hA, t6⟩
    have hu6 := t6 _ _ hu
    have ht6 := t6 _ _ ht
    have lB := hB.2
    have lA := hA.2
    have lz := deed_len hz
    have ln := dg_len hn
    have e1 : ((" " : Str)).length = 1 := by decide +kernel
    clear t2 t3 t5 hu3 tl1 tl2 gt1 gt2 s1 s2 s4 s5
    -- kind 0
    refine ⟨_, rfl, rfl, _, rfl, iteD (fun c => ?_) (fun c0 => ?_)⟩
    · refine ⟨_, rfl, _, rfl, _, _, rfl, rfl, by omega, _, _, rfl, rfl, by rw [len_app]; omega, _, rfl, _, rfl, _, rfl, _, _, _, _, rfl, rfl, SqL.of hu6, at_j, _, _, _, _, rfl, rfl, SqT.of ht6, at_of (j := 1) rfl rfl, f, _, rfl, f0, f1, gj.1.2, gj.2, fun y H7 hy s7 => ?_⟩
      have ly := hy.2
      refine ⟨_, _, rfl, rfl, by rw [len_app, len_app]; omega, _, rfl, _, _, rfl, rfl, by rw [len_app, len_app, len_app]; omega, ?_⟩
      exact q _ H7 (bad0 hB hA hz hy) (by rw [len_app, len_app, len_app, len_app]; omega) (t6.trans s7)
    -- kind 1
    refine ⟨_, rfl, rfl, _, rfl, iteD (fun c => ?_) (fun c1 => ?_)⟩
    · refine ⟨_, rfl, _, rfl, _, rfl, f, z, rfl, f0, f1, hz, fun y H7 hy s7 => ?_⟩
      have ly := hy.2
      refine ⟨_, _, rfl, rfl, by omega, _, _, rfl, rfl, by rw [len_app]; omega, _, rfl, _, _, rfl, rfl, by rw [len_app, len_app]; omega, _, rfl, _, _, rfl, rfl, by rw [len_app, len_app, len_app]; omega, ?_⟩
      exact q _ H7 (bad1 hB hy) (by rw [len_app, len_app, len_app, len_app]; omega) (t6.trans s7)
    -- kind 2
    refine ⟨_, rfl, rfl, _, rfl, iteD (fun c => ?_) (fun c2 => ?_)⟩
    · refine ⟨_, rfl, _, rfl, _, _, rfl, rfl, by omega, by show 9 ≤ sizeLine; decide, fun p hp => ?_⟩
      obtain ⟨v, hv, mv⟩ := at_ok (xs := seps2.map V.str) f0 (by rw [List.length_map]; exact f1)
      obtain ⟨y, my, rfl⟩ := List.mem_map.mp mv
      obtain ⟨hb, ly⟩ := bad2 (A := A) (n := n) hB hz y my
      refine ⟨_, rfl, _, _, _, _, rfl, rfl, SqL.of upd_same, hv, _, _, rfl, rfl, by rw [len_app]; omega, _, rfl, _, _, rfl, rfl, by rw [len_app, len_app]; omega, _, rfl, _, _, rfl, rfl, by rw [len_app, len_app, len_app]; omega, ?_⟩
      exact q _ _ hb (by rw [len_app, len_app, len_app, len_app]; omega) (t6.trans (same_new hp))
    -- kind 3
    refine ⟨_, rfl, rfl, _, rfl, iteD (fun c => ?_) (fun c3 => ?_)⟩
    · refine ⟨_, rfl, _, rfl, _, _, rfl, rfl, by omega, _, _, rfl, rfl, by rw [len_app]; omega, _, rfl, _, _, rfl, rfl, by rw [len_app, len_app]; omega, by show 9 ≤ sizeLine; decide, fun p hp => ?_⟩
      obtain ⟨v, hv, mv⟩ := at_ok (xs := ends3.map V.str) f0 (by rw [List.length_map]; exact f1)
      obtain ⟨y, my, rfl⟩ := List.mem_map.mp mv
      obtain ⟨hb, ly⟩ := bad3 (A := A) hn hB hz y my
      refine ⟨_, rfl, _, _, _, _, rfl, rfl, SqL.of upd_same, hv, _, _, rfl, rfl, by rw [len_app, len_app, len_app]; omega, _, rfl, _, _, rfl, rfl, by rw [len_app, len_app, len_app, len_app]; omega, ?_⟩
      exact q _ _ hb (by rw [len_app, len_app, len_app, len_app, len_app]; omega) (t6.trans (same_new hp))
    -- kind 4
    refine ⟨_, rfl, rfl, _, rfl, iteD (fun c => ?_) (fun c4 => ?_)⟩
    · refine ⟨by show 9 ≤ sizeLine; decide, fun p hp => ?_⟩
      obtain ⟨v, hv, mv⟩ := at_ok (xs := seps4.map V.str) f0 (by rw [List.length_map]; exact f1)
      obtain ⟨y, my, rfl⟩ := List.mem_map.mp mv
      obtain ⟨hb, ly⟩ := bad4 (A := A) hn hB hz y my
      have e5 : (("own 1" : Str)).length = 5 := by decide +kernel
      refine ⟨_, rfl, _, _, _, _, rfl, rfl, SqL.of upd_same, hv, ?_⟩
      refine ⟨_, rfl, _, rfl, _, _, rfl, rfl, by omega, _, _, rfl, rfl, by rw [len_app]; omega, _, rfl, _, _, rfl, rfl, by rw [len_app, len_app]; omega, _, rfl, _, _, rfl, rfl, by rw [len_app, len_app, len_app]; omega, _, _, rfl, rfl, by rw [len_app, len_app, len_app, len_app]; omega, _, rfl, _, _, rfl, rfl, by rw [len_app, len_app, len_app, len_app, len_app]; omega, ?_⟩
      exact q _ _ hb (by rw [len_app, len_app, len_app, len_app, len_app, len_app]; omega) (t6.trans (same_new hp))
    -- the ends
    refine ⟨by show 9 ≤ sizeLine; decide, fun p2 hp => ?_⟩
    have s7 := same_new (o := .lst (ends5.map V.str)) hp
    have t7 := t6.trans s7
    obtain ⟨v, hv, mv⟩ := at_ok (xs := ends5.map V.str) f0 (by rw [List.length_map]; exact f1)
    obtain ⟨y, my, rfl⟩ := List.mem_map.mp mv
    refine ⟨_, rfl, _, _, _, _, rfl, rfl, SqL.of upd_same, hv, ?_⟩
    have lt := text_len hg
    refine ⟨_, rfl, _, _, _, _, rfl, rfl, SqL.of (t7 _ _ ha), at_of (j := 2) rfl rfl, _, _, rfl, rfl, _, rfl, iteD (fun c => ?_) (fun c => ?_)⟩
    · obtain ⟨hb, ly⟩ := bad5a (t := textS ss) y my
      refine ⟨_, rfl, _, rfl, u, us, ss, rfl, t7 _ _ hu, hs.same t7, hg, by omega, fun H8 s8 => ?_⟩
      exact ⟨_, _, rfl, rfl, by omega, q _ _ hb (by rw [len_app]; omega) (t7.trans s8)⟩
    · obtain ⟨hb, ly⟩ := bad5b hne hg y my
      refine ⟨_, rfl, u, us, ss, rfl, t7 _ _ hu, hs.same t7, hg, by omega, fun H8 s8 => ?_⟩
      exact ⟨_, rfl, _, _, rfl, rfl, by omega, q _ _ hb (by rw [len_app]; omega) (t7.trans s8)⟩
end
end My

namespace My
open PySem L2
def spLaw (K : PySem.W.Frag) : Sp := fun vs H Q _ => ∃ (a : Addr) (ns : List Int), vs = [.ref a] ∧ SqL K H a (ns.map V.int) ∧ ns.length ≤ 63 ∧ ∀ H', Q (.bl true) H'
def SpAt (H : Hp) (t D : Addr) (v : V) : Prop := ∃ (a : Addr) (k f p : Int), v = .ref a ∧ a ≠ t ∧ a ≠ D ∧ H a = some (.lst [.int k, .int f, .int p]) ∧ 0 ≤ k ∧ k < 6 ∧ 0 ≤ f ∧ f < 9 ∧ 0 ≤ p ∧ p < 12
theorem SpAt.but {H H' : Hp} {t D : Addr} {v : V} (h : SpAt H t D v) (b : But t H H') : SpAt H' t D v := by
  obtain ⟨a, k, f, p, e, n1, n2, ha, r⟩ := h
  exact ⟨a, k, f, p, e, n1, n2, b _ _ n1 ha, r⟩
theorem SpAt.mut {H : Hp} {t D : Addr} {v : V} {o : HO} (h : SpAt H t D v) : SpAt (upd H D o) t D v := by
  obtain ⟨a, k, f, p, e, n1, n2, ha, r⟩ := h
  exact ⟨a, k, f, p, e, n1, n2, by rw [upd_ne n2]; exact ha, r⟩
theorem Dr.nt {K : PySem.W.Frag} {H : Hp} {d t : Addr} (D : Dr K H d t) : ∀ xs, H t ≠ some (.tup xs) := fun xs e => by have := D.pl.choose_spec; rw [this] at e; cases e
theorem step_inj {a b : Stp} (ha : goodT a) (hb : goodT b) (h : stepS a = stepS b) : a = b := by
  have h1 := split_step ha
  rw [h, split_step hb] at h1
  have e1 := (List.cons.inj h1).1
  have e2 := dg_inj (List.cons.inj (List.cons.inj h1).2).1
  have := ha.1.2
  have := hb.1.2
  exact Prod.ext e1.symm (by omega)
theorem steps_inj : ∀ {a b : List Stp}, (∀ s ∈ a, goodT s) → (∀ s ∈ b, goodT s) → a.map stepS = b.map stepS → a = b
  | [], [], _, _, _ => rfl
  | [], _ :: _, _, _, h => by cases h
  | _ :: _, [], _, _, h => by cases h
  | x :: a, y :: b, ha, hb, h => by
    obtain ⟨h1, h2⟩ := List.cons.inj h
    rw [step_inj (ha x List.mem_cons_self) (hb y List.mem_cons_self) h1, steps_inj (fun s h => ha s (List.mem_cons_of_mem _ h)) (fun s h => hb s (List.mem_cons_of_mem _ h)) h2]
theorem text_ne {ss : List Stp} (h : ss ≠ []) (hg : ∀ s ∈ ss, goodT s) : textS ss ≠ "" := fun e => by
  obtain ⟨n, _, e1⟩ := run_text h hg
  rw [e] at e1
  have := okQ_num n
  rw [← e1] at this
  cases this
theorem text_inj {a b : List Stp} (ha : ∀ s ∈ a, goodT s) (hb : ∀ s ∈ b, goodT s) (h : textS a = textS b) : a = b := by
  by_cases e1 : a = []
  · by_cases e2 : b = []
    · rw [e1, e2]
    · subst e1
      exact absurd h.symm (text_ne e2 hb)
  · by_cases e2 : b = []
    · subst e2
      exact absurd h (text_ne e1 ha)
    · refine steps_inj ha hb ?_
      rw [← split_text e1 ha, ← split_text e2 hb, h]
section
variable {w : World} {K : PySem.W.Frag} {mg : Str → Option Value} {base : Heap}
set_option maxHeartbeats 16000000 in
theorem ok_law (T : Txt K mg) : FnOk PP w K mg base CX0 12 T.a_law T.fd_law ["_law_script"] (spLaw K) := by
  refine T.F_law.ok sc_law (fun vs H Q E h => ?_) (fun cdv A outer s H vs Q E hr h => ?_)
  · obtain ⟨a, ns, rfl, _⟩ := h; rfl
  · obtain ⟨a0, ns, rfl, hS, hlen, q⟩ := h
    refine ⟨_, (pss_cons (ps_set (i := 1) sc_law.nd rfl (.inr rfl) (pe_call (ok__law_draws T) (hr.mono (by omega)) (by rfl) T.g__law_draws T.F__law_draws.kp T.b__law_draws .nil pass0 (pa_cons (pv 0) pa_nil)))
      (pss_cons (ps_set (i := 2) sc_law.nd rfl (.inr rfl) (pe_lst (pa_cons (pe_int) pa_nil)))
      (pss_cons (ps_setLc (i := 3) (own := [("_law_k", 4)]) (g := (gName 4)) (by rfl) sc_law.nd rfl rfl (sw_true rfl rfl rfl (by decide +kernel)) (pi_range1 (by rfl) T.n_range (pa_cons (pe_int) pa_nil)) (blkOk_by (own := [("_law_k", 4)]) (N := ["_law_script", "_law_draws_here", "_law_at", "_law_spoils", "_law_k", "_law_steps", "_law_program", "_law_text_here", "_law_spoil"]) (sc := defScope S_law) (by decide +kernel)) (fun _ _ _ _ _ => (pg_name (i := 4) sc_law.nd rfl (.inl rfl))) (fun _ _ _ _ _ => pts_nil) (fun _ _ _ _ _ => (pe_lst (pa_cons (pe_call (ok__law_take T) (hr.mono (by omega)) (by rfl) T.g__law_take T.F__law_take.kp T.b__law_take .nil pass0 (pa_cons (pv 1) (pa_cons (pv 2) (pa_cons (pe_int) pa_nil)))) (pa_cons (pe_call (ok__law_take T) (hr.mono (by omega)) (by rfl) T.g__law_take T.F__law_take.kp T.b__law_take .nil pass0 (pa_cons (pv 1) (pa_cons (pv 2) (pa_cons (pe_int) pa_nil)))) (pa_cons (pe_call (ok__law_take T) (hr.mono (by omega)) (by rfl) T.g__law_take T.F__law_take.kp T.b__law_take .nil pass0 (pa_cons (pv 1) (pa_cons (pv 2) (pa_cons (pe_int) pa_nil)))) pa_nil))))))
      (pss_cons (ps_setLc (i := 5) (own := [("_law_k", 4)]) (g := (gName 4)) (by rfl) sc_law.nd rfl rfl (sw_true rfl rfl rfl (by decide +kernel)) (pi_range1 (by rfl) T.n_range (pa_cons (pe_ix ix_list (pe_lst (pa_cons (pe_int) (pa_cons (pe_int) (pa_cons (pe_int) (pa_cons (pe_int) (pa_cons (pe_int) (pa_cons (pe_int) (pa_cons (pe_int) pa_nil)))))))) (pe_call (ok__law_take T) (hr.mono (by omega)) (by rfl) T.g__law_take T.F__law_take.kp T.b__law_take .nil pass0 (pa_cons (pv 1) (pa_cons (pv 2) (pa_cons (pe_int) pa_nil)))) (fun _ _ => rfl)) pa_nil)) (blkOk_by (own := [("_law_k", 4)]) (N := ["_law_script", "_law_draws_here", "_law_at", "_law_spoils", "_law_k", "_law_steps", "_law_program", "_law_text_here", "_law_spoil"]) (sc := defScope S_law) (by decide +kernel)) (fun _ _ _ _ _ => (pg_name (i := 4) sc_law.nd rfl (.inl rfl))) (fun _ _ _ _ _ => pts_nil) (fun _ _ _ _ _ => (pe_call (ok__law_step T) (hr.mono (by omega)) (by rfl) T.g__law_step T.F__law_step.kp T.b__law_step .nil pass0 (pa_cons (pv 1) (pa_cons (pv 2) pa_nil)))))
      (pss_cons (ps_set (i := 6) sc_law.nd rfl (.inl rfl) (pe_op (op_binO T.of_Program_add (ok_Program_add T) (hr.mono (by omega)) T.b_Program_add pass0) (pe_makeR0 T.mk_Program (ok_Program_init T) (hr.mono (by omega)) (by rfl) T.g_Program pass0) (pv 5)))
      (pss_cons (ps_set (i := 7) sc_law.nd rfl (.inl rfl) (pe_callTy (call_strI T.m_Program_str (ok_Program_str T) (hr.mono (by omega)) T.b_Program_str pass0) (by rfl) T.n_str (by decide +kernel) (pa_cons (pv 6) pa_nil)))
      (pss_cons (ps_if (PW.pt (pw_or (pt_not (pt_val (pe_call (ok__law_same T 2) (hr.mono (by omega)) (by rfl) T.g__law_same T.F__law_same.kp T.b__law_same .nil pass0 (pa_cons (pv 7) (pa_cons (pe_call (ok__law_text T) (hr.mono (by omega)) (by rfl) T.g__law_text T.F__law_text.kp T.b__law_text .nil pass0 (pa_cons (pv 5) pa_nil)) pa_nil))))) (pw_or1 (pt_not (pt_val (pe_call (ok__law_same T 2) (hr.mono (by omega)) (by rfl) T.g__law_same T.F__law_same.kp T.b__law_same .nil pass0 (pa_cons (pe_call (ok__law_told T) (hr.mono (by omega)) (by rfl) T.g__law_told T.F__law_told.kp T.b__law_told .nil pass0 (pa_cons (pv 7) pa_nil)) (pa_cons (pv 5) pa_nil)))))))) (pss_one (ps_ret (pe_bl))) pss_nil)
      (pss_cons (ps_if (pt_not (pt_val (pe_call (ok__law_same T 2) (hr.mono (by omega)) (by rfl) T.g__law_same T.F__law_same.kp T.b__law_same .nil pass0 (pa_cons (pe_cmpR (op_cmpI (fun _ _ => rfl) T.m_Program_eq.at_ T.m_Program_eq.fn (ok_Program_eq T) (hr.mono (by omega)) T.b_Program_eq pass0) (pe_smeth (pe_glob (v := .ref T.c_Program) (by rfl) T.g_Program rfl) T.cr_Program T.sm_Program_read ((ok_Program_read T).calm) (hr.mono (by omega)) T.b_Program_read pass0 (pa_cons (pv 7) pa_nil)) (pv 6) (nomark _)) (pa_cons (pe_bl) pa_nil))))) (pss_one (ps_ret (pe_bl))) pss_nil)
      (C8.pss_cut (ps_if (pt_cmpR op_gt (pe_callB call_len_seq (by rfl) T.n_len (by decide +kernel) (pa_cons (pv 5) pa_nil)) (pe_int) (nomark _)) (pss_one (ps_for PassesOwn.never rfl (pi_list (pv 3)) (pg_name (i := 8) sc_law.nd rfl (.inl rfl)) (pss_one (ps_if (pt_not (pt_val (pe_call (ok__law_same T 2) (hr.mono (by omega)) (by rfl) T.g__law_same T.F__law_same.kp T.b__law_same .nil pass0 (pa_cons (pe_call (ok__law_told T) (hr.mono (by omega)) (by rfl) T.g__law_told T.F__law_told.kp T.b__law_told .nil pass0 (pa_cons (pe_call (ok__law_spoilt T) (hr.mono (by omega)) (by rfl) T.g__law_spoilt T.F__law_spoilt.kp T.b__law_spoilt .nil pass0 (pa_cons (pv 8) (pa_cons (pv 5) pa_nil))) pa_nil)) (pa_cons (pe_lst (pa_cons (pe_str) (pa_cons (pe_int) pa_nil))) pa_nil))))) (pss_one (ps_ret (pe_bl))) pss_nil)))) pss_nil)
      (pss_one (ps_ret (pe_and (pe_call (ok__law_same T 2) (hr.mono (by omega)) (by rfl) T.g__law_same T.F__law_same.kp T.b__law_same .nil pass0 (pa_cons (pe_call (ok__law_told T) (hr.mono (by omega)) (by rfl) T.g__law_told T.F__law_told.kp T.b__law_told .nil pass0 (pa_cons (pe_call (ok__law_text T) (hr.mono (by omega)) (by rfl) T.g__law_text T.F__law_text.kp T.b__law_text .nil pass0 (pa_cons (pv 5) pa_nil)) pa_nil)) (pa_cons (pv 5) pa_nil))) (pe_one (pe_call (ok__law_same T 2) (hr.mono (by omega)) (by rfl) T.g__law_same T.F__law_same.kp T.b__law_same .nil pass0 (pa_cons (pe_call (ok__law_told T) (hr.mono (by omega)) (by rfl) T.g__law_told T.F__law_told.kp T.b__law_told .nil pass0 (pa_cons (pe_str) pa_nil)) (pa_cons (pe_lst pa_nil) pa_nil)))))))))))))))), ?_⟩
    have big : 90000 < sizeLine := by decide
    refine ⟨_, rfl, a0, ns, rfl, hS, hlen, fun d zs H1 s1 nd hd => ?_⟩
    refine ⟨by show 1 ≤ sizeLine; decide, fun t hat => ?_⟩
    have D0 : Dr K (upd H1 t (.lst [.int 0])) d t := ⟨⟨zs, same_new hat _ _ hd⟩, ⟨0, upd_same⟩, ne_of_none hd hat⟩
    revert D0
    generalize upd H1 t (.lst [.int 0]) = H2
    intro D0
    -- the spoils
    refine ⟨_, rfl, by decide, by decide, fun P hP => ?_⟩
    have nPt : P ≠ t := D0.na hP
    refine lc_range (lo := 0) (n := 3) (fun i H' => ∃ vs, Dr K H' d t ∧ H' P = some (.lst vs) ∧ vs.length = i ∧ ∀ v ∈ vs, SpAt H' t P v) ⟨[], D0.same (same_new hP), upd_same, rfl, fun v h => by cases h⟩ ?_ ?_
    · rintro i H3 hi ⟨vs, D3, hP3, lv, sv⟩
      refine ⟨rfl, _, rfl, _, rfl, d, t, 6, rfl, D3, by decide, fun k H4 k0 k1 D4 b4 => ?_⟩
      refine ⟨_, rfl, _, rfl, d, t, 9, rfl, D4, by decide, fun f H5 f0 f1 D5 b5 => ?_⟩
      refine ⟨_, rfl, _, rfl, d, t, 12, rfl, D5, by decide, fun p H6 p0 p1 D6 b6 => ?_⟩
      refine ⟨by show 3 ≤ sizeLine; decide, fun u hu => ?_⟩
      have su := same_new (o := .lst [.int k, .int f, .int p]) hu
      have bb := ((b4.trans b5).trans b6).trans (But.of_same (a := t) su)
      have hP6 := bb _ _ nPt hP3
      have nuP : u ≠ P := (ne_of_none (((b4.trans b5).trans b6) _ _ nPt hP3) hu).symm
      refine ⟨vs, hP6, by omega, vs ++ [.ref u], (D6.same su).other But.upd (D0.nd hP) nPt.symm, upd_same, by rw [List.length_append, lv]; rfl, fun v hv => ?_⟩
      rcases List.mem_append.mp hv with hv | hv
      · exact ((sv v hv).but bb).mut
      · rw [List.mem_singleton.mp hv]
        exact SpAt.mut ⟨u, k, f, p, rfl, D6.na hu, nuP, upd_same, k0, k1, f0, f1, p0, p1⟩
    rintro H3 ⟨vs, D3, hP3, lv, sv⟩
    -- the steps
    refine ⟨by show 7 ≤ sizeLine; decide, fun m hm => ?_⟩
    have s4 := same_new (o := .lst [.int 2, .int 1, .int 3, .int 0, .int 5, .int 4, .int 6]) hm
    have nmt : m ≠ t := D3.na hm
    refine ⟨_, rfl, _, rfl, d, t, 7, rfl, D3.same s4, by decide, fun r1 H5 h10 h11 D5 b5 => ?_⟩
    obtain ⟨v, hv, mv⟩ := at_ok (xs := [.int 2, .int 1, .int 3, .int 0, .int 5, .int 4, .int 6]) h10 h11
    obtain ⟨n, rfl, hn⟩ : ∃ n : Nat, v = .int n ∧ n ≤ 6 := by
      simp only [List.mem_cons, List.not_mem_nil, or_false] at mv
      rcases mv with rfl | rfl | rfl | rfl | rfl | rfl | rfl
      · exact ⟨2, rfl, by decide⟩
      · exact ⟨1, rfl, by decide⟩
      · exact ⟨3, rfl, by decide⟩
      · exact ⟨0, rfl, by decide⟩
      · exact ⟨5, rfl, by decide⟩
      · exact ⟨4, rfl, by decide⟩
      · exact ⟨6, rfl, by decide⟩
    have c5 : But t H3 H5 := (But.of_same s4).trans b5
    have hP5 := c5 _ _ nPt hP3
    have sv5 : ∀ v ∈ vs, SpAt H5 t P v := fun v h => (sv v h).but c5
    refine ⟨_, _, _, _, rfl, rfl, SqL.of (b5 _ _ nmt upd_same), hv, _, rfl, by omega, by omega, fun S hS => ?_⟩
    have nSt : S ≠ t := D5.na hS
    refine lc_range (lo := 0) (n := n) (fun i H' => ∃ us ss, Dr K H' d t ∧ But t H5 H' ∧ H' S = some (.lst us) ∧ us.length = i ∧ Stps H' us ss ∧ ∀ s ∈ ss, goodT s) ⟨[], [], D5.same (same_new hS), But.of_same (same_new hS), upd_same, rfl, .nil, fun v h => by cases h⟩ ?_ ?_
    · rintro i H6 hi ⟨us, ss, D6, b6, hS6, lu, st, hg⟩
      refine ⟨rfl, _, rfl, _, rfl, d, t, rfl, D6, fun u sj H7 gj D7 b7 nu hu => ?_⟩
      have hS7 := b7 _ _ nSt hS6
      have nuS : u ≠ S := fun e => by rw [e, hS7] at hu; cases hu
      refine ⟨us, hS7, by omega, us ++ [.ref u], ss ++ [sj], D7.other But.upd (D5.nd hS) nSt.symm, (b6.trans b7).mut hS, upd_same, by rw [List.length_append, lu]; rfl, ?_, ?_⟩
      · refine pair_app ((st.keep (.but b7 D6.nt)).keep fun a xs e => ?_) (.cons ⟨u, rfl, by rw [upd_ne nuS]; exact hu⟩ .nil)
        rw [upd_ne (fun z => by rw [z, hS7] at e; cases e)]
        exact e
      · intro s hs
        rcases List.mem_append.mp hs with hs | hs
        · exact hg s hs
        · rw [List.mem_singleton.mp hs]; exact gj
    rintro H6 ⟨us, ss, D6, b6, hS6, lu, st6, hg⟩
    have hP6 := b6 _ _ nPt hP5
    have sv6 : ∀ v ∈ vs, SpAt H6 t P v := fun v h => (sv5 v h).but b6
    have ls : us.length = ss.length := pair_len st6
    have hg0 : ∀ s ∈ ss, goodS s := fun s h => (hg s h).1
    clear sv5 sv hP5 hP3
    -- the program
    refine fun p0 d0 np0 nd0 _ => init_pg (us := []) (ss := []) upd_same .nil (Nat.zero_le _) (fun s h => by cases h) fun H9 b9 p9 => ⟨rfl, ?_⟩
    have s9 := same_make np0 nd0 b9
    obtain ⟨_, _, _, e9, _⟩ := id p9
    refine ⟨_, rfl, p0, _, _, rfl, e9, .inr ⟨S, _, rfl, .inl (SqL.of (s9 _ _ hS6))⟩, p0, S, [], ss, rfl, p9, .inr ⟨_, .inl (SqL.of (s9 _ _ hS6)), st6.same s9⟩, by simp; omega, by simpa using hg0, fun p H10 s10 np1 hp => ?_⟩
    have hp : Pg T.c_Program H10 p ss := by simpa using hp
    have t10 := s9.trans s10
    obtain ⟨_, _, _, e10, _⟩ := id hp
    have tlen := text_len hg
    refine ⟨_, rfl, p, _, _, rfl, e10, p, ss, rfl, hp, hg, by omega, fun H11 s11 => ⟨_, rfl, ?_⟩⟩
    have t11 := t10.trans s11
    have dS : ∀ H', Same H6 H' → Dn K t H' 2 (.ref S) (.list (ss.map stpD)) := fun H' s' => stpsDL (s' _ _ hS6) (st6.same s') nSt (D6.same s').nt (by omega)
    refine ⟨_, rfl, _, rfl, S, us, ss, rfl, t11 _ _ hS6, st6.same t11, hg, by omega, fun H12 s12 => ⟨t, _, _, .str _, .str _, rfl, Dn.str _, Dn.str _, _, rfl, iteNo nsame ?_⟩⟩
    have t12 := t11.trans s12
    refine ⟨_, rfl, textS ss, rfl, by omega, fun ss' hg' ee r us' H13 s13 nr hr st => ?_, fun hno => absurd rfl (hno ss hg)⟩
    obtain rfl := text_inj hg hg' ee
    have t13 := t12.trans s13
    have nrt : r ≠ t := (D6.same t12).na nr
    refine ⟨_, rfl, t, .ref r, .ref S, _, _, rfl, stpsDL hr st nrt (D6.same t13).nt (by rw [pair_len st]; omega), dS H13 t13, _, rfl, iteNo nsame ?_⟩
    -- Program.read
    refine ⟨rfl, _, rfl, textS ss, rfl, by omega, fun ss' hg' ee y H14 s14 ny hy => ?_, fun hno => absurd rfl (hno ss hg)⟩
    obtain rfl := text_inj hg hg' ee
    have hp14 := hp.same (((s11.trans s12).trans s13).trans s14)
    obtain ⟨_, _, _, e14, _⟩ := id hp14
    obtain ⟨_, _, _, f14, _⟩ := id hy
    refine ⟨_, rfl, y, _, _, p, _, _, rfl, rfl, f14, e14, y, p, ss, ss, rfl, hy, hp14, hg0, hg0, ?_⟩
    refine ⟨t, _, _, .bool _, .bool _, rfl, Dn.bl _, Dn.bl _, _, rfl, iteNo (by rw [decide_eq_true rfl]; exact nsame) ?_⟩
    have t14 := t13.trans s14
    refine ⟨fun σ' H' => ∃ x8, σ' = [some (.ref a0), some (.ref d), some (.ref t), some (.ref P), none, some (.ref S), some (.ref p), some (.str (textS ss)), x8] ∧ Same H6 H', ?_, ?_⟩
    · refine ⟨_, rfl, S, _, rfl, .inl (SqL.of (t14 _ _ hS6)), _, _, rfl, rfl, _, rfl, iteD (fun c => ?_) (fun c => ?_)⟩
      · have hne : ss ≠ [] := fun e => by rw [ls, e] at c; simp at c
        refine ⟨_, rfl, P, rfl, ⟨_, SqL.of (t14 _ _ hP6)⟩, for_list (K := K) (a := P) (xs := vs) (fun i σ H' => ∃ x8, σ = [some (.ref a0), some (.ref d), some (.ref t), some (.ref P), none, some (.ref S), some (.ref p), some (.str (textS ss)), x8] ∧ Same H6 H')
          ⟨_, rfl, t14⟩ (fun i σ H' _ ⟨_, _, s'⟩ => SqL.of (s' _ _ hP6)) ?_ ?_⟩
        · rintro i v σ H15 hv ⟨x8, rfl, s15⟩
          obtain ⟨a, k, f, p', rfl, na, _, ha, k0, k1, f0, f1, p0, p1⟩ := sv6 v (List.mem_of_getElem? hv)
          refine ⟨_, rfl, _, rfl, a, S, k, f, p', us, ss, rfl, s15 _ _ ha, k0, k1, f0, f1, p0, p1, s15 _ _ hS6, st6.same s15, hne, hg, by omega, fun tt H16 hb ltt s16 => ?_⟩
          refine ⟨tt, rfl, by omega, fun ss' hg' ee => absurd ee (hb.no ss' hg'), fun _ r H17 s17 nr hr => ⟨by show 2 ≤ sizeLine; decide, fun c hc => ?_⟩⟩
          have t17 := (s15.trans s16).trans s17
          have s18 := same_new (o := .lst [.str "BadText", .int 1]) hc
          have nrt : r ≠ t := (D6.same (s15.trans s16)).na nr
          have nct : c ≠ t := (D6.same t17).na hc
          exact ⟨t, .ref r, .ref c, .list [.str "BadText", .int 1], .list [.str "BadText", .int 1], rfl, Dn.lst nrt (SqL.of (s18 _ _ hr)) (.cons (.str _) (.cons (.int _) .nil)), Dn.lst nct (SqL.of upd_same) (.cons (.str _) (.cons (.int _) .nil)), _, rfl, iteNo nsame ⟨_, rfl, t17.trans s18⟩⟩
        · rintro σ H15 ⟨x8, rfl, s15⟩
          exact ⟨_, rfl, s15⟩
      · exact ⟨_, rfl, t14⟩
    rintro σ' H15 ⟨x8, rfl, s15⟩
    refine ⟨_, rfl, S, us, ss, rfl, s15 _ _ hS6, st6.same s15, hg, by omega, fun H16 s16 => ?_⟩
    have t16 := s15.trans s16
    refine ⟨textS ss, rfl, by omega, fun ss' hg' ee r us' H17 s17 nr hr st => ?_, fun hno => absurd rfl (hno ss hg)⟩
    obtain rfl := text_inj hg hg' ee
    have t17 := t16.trans s17
    have nrt : r ≠ t := (D6.same t16).na nr
    refine ⟨_, rfl, t, .ref r, .ref S, _, _, rfl, stpsDL hr st nrt (D6.same t17).nt (by rw [pair_len st]; omega), dS H17 t17, ?_⟩
    rw [same_yes rfl]
    refine ⟨_, rfl, iteT ?_⟩
    have none_good : ∀ s ∈ ([] : List Stp), goodT s := fun s h => by cases h
    refine ⟨"", rfl, by decide +kernel, fun ss' hg' ee r2 us2 H18 s18 nr2 hr2 st2 => ?_, fun hno => absurd text_nil.symm (hno [] none_good)⟩
    obtain rfl : ([] : List Stp) = ss' := text_inj none_good hg' ee
    refine ⟨Nat.zero_le _, fun c hc => ?_⟩
    have s19 := same_new (o := .lst []) hc
    have t18 := t17.trans s18
    have nr2t : r2 ≠ t := (D6.same t17).na nr2
    have nct : c ≠ t := (D6.same t18).na hc
    have e2 : us2 = [] := List.length_eq_zero_iff.mp (pair_len st2)
    subst e2
    refine ⟨t, .ref r2, .ref c, .list [], .list [], rfl, Dn.lst nr2t (SqL.of (s19 _ _ hr2)) .nil, Dn.lst nct (SqL.of upd_same) .nil, ?_⟩
    rw [same_yes rfl]
    exact q _
end
end My

namespace My
open PySem L2
theorem all_mk {w : World} {K : PySem.W.Frag} {h : Heap} {mg : Str → Option Value} {fa : Addr} (X : K.In h) (G : h.Ns mainGlobals mg) (hfa : mg "law" = some (.ref fa))
    {c_Program : Addr}
    {f_sound_step : Addr} {od_sound_step an_sound_step : Option Addr} {sl_sound_step : Array (Option Value)} {oc_sound_step kV_sound_step dc_sound_step pm_sound_step cd_sound_step ct_sound_step : Value}
    {f_number_of : Addr} {od_number_of an_number_of : Option Addr} {sl_number_of : Array (Option Value)} {oc_number_of kV_number_of dc_number_of pm_number_of cd_number_of ct_number_of : Value}
    {f_Program_init : Addr} {od_Program_init an_Program_init : Option Addr} {sl_Program_init : Array (Option Value)} {oc_Program_init kV_Program_init dc_Program_init pm_Program_init cd_Program_init ct_Program_init : Value}
    {f_Program_iter : Addr} {od_Program_iter an_Program_iter : Option Addr} {sl_Program_iter : Array (Option Value)} {oc_Program_iter kV_Program_iter dc_Program_iter pm_Program_iter cd_Program_iter ct_Program_iter : Value}
    {f_Program_eq : Addr} {od_Program_eq an_Program_eq : Option Addr} {sl_Program_eq : Array (Option Value)} {oc_Program_eq kV_Program_eq dc_Program_eq pm_Program_eq cd_Program_eq ct_Program_eq : Value}
    {f_Program_add : Addr} {od_Program_add an_Program_add : Option Addr} {sl_Program_add : Array (Option Value)} {oc_Program_add kV_Program_add dc_Program_add pm_Program_add cd_Program_add ct_Program_add : Value}
    {f_Program_str : Addr} {od_Program_str an_Program_str : Option Addr} {sl_Program_str : Array (Option Value)} {oc_Program_str kV_Program_str dc_Program_str pm_Program_str cd_Program_str ct_Program_str : Value}
    {f_Program_read : Addr} {od_Program_read an_Program_read : Option Addr} {sl_Program_read : Array (Option Value)} {oc_Program_read kV_Program_read dc_Program_read pm_Program_read cd_Program_read ct_Program_read : Value}
    {p_Program_read : Addr} {rs_Program_read : List Value}
    {f__law_draws : Addr} {od__law_draws an__law_draws : Option Addr} {sl__law_draws : Array (Option Value)} {oc__law_draws kV__law_draws dc__law_draws pm__law_draws cd__law_draws ct__law_draws : Value}
    {f__law_take : Addr} {od__law_take an__law_take : Option Addr} {sl__law_take : Array (Option Value)} {oc__law_take kV__law_take dc__law_take pm__law_take cd__law_take ct__law_take : Value}
    {f__law_same : Addr} {od__law_same an__law_same : Option Addr} {sl__law_same : Array (Option Value)} {oc__law_same kV__law_same dc__law_same pm__law_same cd__law_same ct__law_same : Value}
    {f__law_step : Addr} {od__law_step an__law_step : Option Addr} {sl__law_step : Array (Option Value)} {oc__law_step kV__law_step dc__law_step pm__law_step cd__law_step ct__law_step : Value}
    {f__law_text : Addr} {od__law_text an__law_text : Option Addr} {sl__law_text : Array (Option Value)} {oc__law_text kV__law_text dc__law_text pm__law_text cd__law_text ct__law_text : Value}
    {f__law_number_word : Addr} {od__law_number_word an__law_number_word : Option Addr} {sl__law_number_word : Array (Option Value)} {oc__law_number_word kV__law_number_word dc__law_number_word pm__law_number_word cd__law_number_word ct__law_number_word : Value}
    {f__law_deed : Addr} {od__law_deed an__law_deed : Option Addr} {sl__law_deed : Array (Option Value)} {oc__law_deed kV__law_deed dc__law_deed pm__law_deed cd__law_deed ct__law_deed : Value}
    {f__law_spoilt : Addr} {od__law_spoilt an__law_spoilt : Option Addr} {sl__law_spoilt : Array (Option Value)} {oc__law_spoilt kV__law_spoilt dc__law_spoilt pm__law_spoilt cd__law_spoilt ct__law_spoilt : Value}
    {f__law_told : Addr} {od__law_told an__law_told : Option Addr} {sl__law_told : Array (Option Value)} {oc__law_told kV__law_told dc__law_told pm__law_told cd__law_told ct__law_told : Value}
    {f_law : Addr} {od_law an_law : Option Addr} {sl_law : Array (Option Value)} {oc_law kV_law dc_law pm_law cd_law ct_law : Value}
    {q_DEEDS : Addr} {oq_DEEDS : Option Addr} {nq_DEEDS : Nat} {slq_DEEDS : Array (Option Value)} {t_DEEDS_0 : Tok} {t_DEEDS_1 : Tok} {t_DEEDS_2 : Tok}
    {tq_DIGITS : Tok}
    {fl_Program_add rl_Program_add ft_Program_add rt_Program_add : Option Value}
    {ra_Program_add : Addr}
    {c_BadText : Addr}
    {c_WebError : Addr}
    {c_BadStep : Addr}
    {c_Refused : Addr}
    {c_NoThing : Addr}
    {c_TooLarge : Addr}
    {c_BadLevel : Addr}
    {nm_BadText q_BadText : Str} {N_BadText : Addr} {bs_BadText : List Value} {sn_BadText : List Str} {sub_BadText : List Value} {ab_BadText : Bool} {col_BadText : Option Bool} {dd_BadText : Option Addr} {m0_BadText m1_BadText m2_BadText m3_BadText m5_BadText : Option Value}
    {f_BadText cda_BadText cc_BadText : Addr} {od_BadText an_BadText cld_BadText cdd_BadText : Option Addr} {osl_BadText csl_BadText ccs_BadText : Array (Option Value)} {oc_BadText kV_BadText dc_BadText pm_BadText ct_BadText cl_BadText ccl_BadText : Value} {vs_BadText : Array Value} {file_BadText : Str} {tf_BadText : Tok}
    (gc_Program : PySem.W.nsIn K mainGlobals "Program" = some (some (.ref c_Program)))
    (a_sound_step : PySem.W.nsIn K mainGlobals "sound_step" = some (some (.ref f_sound_step)))
    (l_sound_step : K.lookup f_sound_step = some ⟨oc_sound_step, od_sound_step, .func (PySem.W.fnOf "sound_step" "sound_step" (defArgs S_sound_step) (defBody S_sound_step) (defScope S_sound_step) .none kV_sound_step dc_sound_step pm_sound_step an_sound_step cd_sound_step ct_sound_step), sl_sound_step⟩)
    (c_sound_step : PySem.W.codeIn K cd_sound_step "sound_step" = true)
    (k_sound_step : PySem.W.keepIn K (.ref f_sound_step) = true)
    (a_number_of : PySem.W.nsIn K mainGlobals "number_of" = some (some (.ref f_number_of)))
    (l_number_of : K.lookup f_number_of = some ⟨oc_number_of, od_number_of, .func (PySem.W.fnOf "number_of" "number_of" (defArgs S_number_of) (defBody S_number_of) (defScope S_number_of) .none kV_number_of dc_number_of pm_number_of an_number_of cd_number_of ct_number_of), sl_number_of⟩)
    (c_number_of : PySem.W.codeIn K cd_number_of "number_of" = true)
    (k_number_of : PySem.W.keepIn K (.ref f_number_of) = true)
    (a_Program_init : PySem.W.findIn K (.ref c_Program) "__init__" = some (some (.ref f_Program_init)))
    (l_Program_init : K.lookup f_Program_init = some ⟨oc_Program_init, od_Program_init, .func (PySem.W.fnOf "__init__" "Program.__init__" (defArgs S_Program_init) (defBody S_Program_init) (defScope S_Program_init) .none kV_Program_init dc_Program_init pm_Program_init an_Program_init cd_Program_init ct_Program_init), sl_Program_init⟩)
    (c_Program_init : PySem.W.codeIn K cd_Program_init "Program.__init__" = true)
    (k_Program_init : PySem.W.keepIn K (.ref f_Program_init) = true)
    (a_Program_iter : PySem.W.findIn K (.ref c_Program) "__iter__" = some (some (.ref f_Program_iter)))
    (l_Program_iter : K.lookup f_Program_iter = some ⟨oc_Program_iter, od_Program_iter, .func (PySem.W.fnOf "__iter__" "Program.__iter__" (defArgs S_Program_iter) (defBody S_Program_iter) (defScope S_Program_iter) .none kV_Program_iter dc_Program_iter pm_Program_iter an_Program_iter cd_Program_iter ct_Program_iter), sl_Program_iter⟩)
    (c_Program_iter : PySem.W.codeIn K cd_Program_iter "Program.__iter__" = true)
    (k_Program_iter : PySem.W.keepIn K (.ref f_Program_iter) = true)
    (a_Program_eq : PySem.W.findIn K (.ref c_Program) "__eq__" = some (some (.ref f_Program_eq)))
    (l_Program_eq : K.lookup f_Program_eq = some ⟨oc_Program_eq, od_Program_eq, .func (PySem.W.fnOf "__eq__" "Program.__eq__" (defArgs S_Program_eq) (defBody S_Program_eq) (defScope S_Program_eq) .none kV_Program_eq dc_Program_eq pm_Program_eq an_Program_eq cd_Program_eq ct_Program_eq), sl_Program_eq⟩)
    (c_Program_eq : PySem.W.codeIn K cd_Program_eq "Program.__eq__" = true)
    (k_Program_eq : PySem.W.keepIn K (.ref f_Program_eq) = true)
    (a_Program_add : PySem.W.findIn K (.ref c_Program) "__add__" = some (some (.ref f_Program_add)))
    (l_Program_add : K.lookup f_Program_add = some ⟨oc_Program_add, od_Program_add, .func (PySem.W.fnOf "__add__" "Program.__add__" (defArgs S_Program_add) (defBody S_Program_add) (defScope S_Program_add) .none kV_Program_add dc_Program_add pm_Program_add an_Program_add cd_Program_add ct_Program_add), sl_Program_add⟩)
    (c_Program_add : PySem.W.codeIn K cd_Program_add "Program.__add__" = true)
    (k_Program_add : PySem.W.keepIn K (.ref f_Program_add) = true)
    (a_Program_str : PySem.W.findIn K (.ref c_Program) "__str__" = some (some (.ref f_Program_str)))
    (l_Program_str : K.lookup f_Program_str = some ⟨oc_Program_str, od_Program_str, .func (PySem.W.fnOf "__str__" "Program.__str__" (defArgs S_Program_str) (defBody S_Program_str) (defScope S_Program_str) .none kV_Program_str dc_Program_str pm_Program_str an_Program_str cd_Program_str ct_Program_str), sl_Program_str⟩)
    (c_Program_str : PySem.W.codeIn K cd_Program_str "Program.__str__" = true)
    (k_Program_str : PySem.W.keepIn K (.ref f_Program_str) = true)
    (sf_Program_read : PySem.W.findCls K (.ref c_Program) (.type "type") "read" = some (.get (.builtin "staticmethod.__get__") (.ref p_Program_read) .none (.ref c_Program)))
    (sr_Program_read : PySem.W.recIn K p_Program_read "staticmethod" = some (.ref f_Program_read :: rs_Program_read))
    (l_Program_read : K.lookup f_Program_read = some ⟨oc_Program_read, od_Program_read, .func (PySem.W.fnOf "read" "Program.read" (defArgs S_Program_read) (defBody S_Program_read) (defScope S_Program_read) .none kV_Program_read dc_Program_read pm_Program_read an_Program_read cd_Program_read ct_Program_read), sl_Program_read⟩)
    (c_Program_read : PySem.W.codeIn K cd_Program_read "Program.read" = true)
    (k_Program_read : PySem.W.keepIn K (.ref f_Program_read) = true)
    (a__law_draws : PySem.W.nsIn K mainGlobals "_law_draws" = some (some (.ref f__law_draws)))
    (l__law_draws : K.lookup f__law_draws = some ⟨oc__law_draws, od__law_draws, .func (PySem.W.fnOf "_law_draws" "_law_draws" (defArgs S__law_draws) (defBody S__law_draws) (defScope S__law_draws) .none kV__law_draws dc__law_draws pm__law_draws an__law_draws cd__law_draws ct__law_draws), sl__law_draws⟩)
    (c__law_draws : PySem.W.codeIn K cd__law_draws "_law_draws" = true)
    (k__law_draws : PySem.W.keepIn K (.ref f__law_draws) = true)
    (a__law_take : PySem.W.nsIn K mainGlobals "_law_take" = some (some (.ref f__law_take)))
    (l__law_take : K.lookup f__law_take = some ⟨oc__law_take, od__law_take, .func (PySem.W.fnOf "_law_take" "_law_take" (defArgs S__law_take) (defBody S__law_take) (defScope S__law_take) .none kV__law_take dc__law_take pm__law_take an__law_take cd__law_take ct__law_take), sl__law_take⟩)
    (c__law_take : PySem.W.codeIn K cd__law_take "_law_take" = true)
    (k__law_take : PySem.W.keepIn K (.ref f__law_take) = true)
    (a__law_same : PySem.W.nsIn K mainGlobals "_law_same" = some (some (.ref f__law_same)))
    (l__law_same : K.lookup f__law_same = some ⟨oc__law_same, od__law_same, .func (PySem.W.fnOf "_law_same" "_law_same" (defArgs S__law_same) (defBody S__law_same) (defScope S__law_same) .none kV__law_same dc__law_same pm__law_same an__law_same cd__law_same ct__law_same), sl__law_same⟩)
    (c__law_same : PySem.W.codeIn K cd__law_same "_law_same" = true)
    (k__law_same : PySem.W.keepIn K (.ref f__law_same) = true)
    (a__law_step : PySem.W.nsIn K mainGlobals "_law_step" = some (some (.ref f__law_step)))
    (l__law_step : K.lookup f__law_step = some ⟨oc__law_step, od__law_step, .func (PySem.W.fnOf "_law_step" "_law_step" (defArgs S__law_step) (defBody S__law_step) (defScope S__law_step) .none kV__law_step dc__law_step pm__law_step an__law_step cd__law_step ct__law_step), sl__law_step⟩)
    (c__law_step : PySem.W.codeIn K cd__law_step "_law_step" = true)
    (k__law_step : PySem.W.keepIn K (.ref f__law_step) = true)
    (a__law_text : PySem.W.nsIn K mainGlobals "_law_text" = some (some (.ref f__law_text)))
    (l__law_text : K.lookup f__law_text = some ⟨oc__law_text, od__law_text, .func (PySem.W.fnOf "_law_text" "_law_text" (defArgs S__law_text) (defBody S__law_text) (defScope S__law_text) .none kV__law_text dc__law_text pm__law_text an__law_text cd__law_text ct__law_text), sl__law_text⟩)
    (c__law_text : PySem.W.codeIn K cd__law_text "_law_text" = true)
    (k__law_text : PySem.W.keepIn K (.ref f__law_text) = true)
    (a__law_number_word : PySem.W.nsIn K mainGlobals "_law_number_word" = some (some (.ref f__law_number_word)))
    (l__law_number_word : K.lookup f__law_number_word = some ⟨oc__law_number_word, od__law_number_word, .func (PySem.W.fnOf "_law_number_word" "_law_number_word" (defArgs S__law_number_word) (defBody S__law_number_word) (defScope S__law_number_word) .none kV__law_number_word dc__law_number_word pm__law_number_word an__law_number_word cd__law_number_word ct__law_number_word), sl__law_number_word⟩)
    (c__law_number_word : PySem.W.codeIn K cd__law_number_word "_law_number_word" = true)
    (k__law_number_word : PySem.W.keepIn K (.ref f__law_number_word) = true)
    (a__law_deed : PySem.W.nsIn K mainGlobals "_law_deed" = some (some (.ref f__law_deed)))
    (l__law_deed : K.lookup f__law_deed = some ⟨oc__law_deed, od__law_deed, .func (PySem.W.fnOf "_law_deed" "_law_deed" (defArgs S__law_deed) (defBody S__law_deed) (defScope S__law_deed) .none kV__law_deed dc__law_deed pm__law_deed an__law_deed cd__law_deed ct__law_deed), sl__law_deed⟩)
    (c__law_deed : PySem.W.codeIn K cd__law_deed "_law_deed" = true)
    (k__law_deed : PySem.W.keepIn K (.ref f__law_deed) = true)
    (a__law_spoilt : PySem.W.nsIn K mainGlobals "_law_spoilt" = some (some (.ref f__law_spoilt)))
    (l__law_spoilt : K.lookup f__law_spoilt = some ⟨oc__law_spoilt, od__law_spoilt, .func (PySem.W.fnOf "_law_spoilt" "_law_spoilt" (defArgs S__law_spoilt) (defBody S__law_spoilt) (defScope S__law_spoilt) .none kV__law_spoilt dc__law_spoilt pm__law_spoilt an__law_spoilt cd__law_spoilt ct__law_spoilt), sl__law_spoilt⟩)
    (c__law_spoilt : PySem.W.codeIn K cd__law_spoilt "_law_spoilt" = true)
    (k__law_spoilt : PySem.W.keepIn K (.ref f__law_spoilt) = true)
    (a__law_told : PySem.W.nsIn K mainGlobals "_law_told" = some (some (.ref f__law_told)))
    (l__law_told : K.lookup f__law_told = some ⟨oc__law_told, od__law_told, .func (PySem.W.fnOf "_law_told" "_law_told" (defArgs S__law_told) (defBody S__law_told) (defScope S__law_told) .none kV__law_told dc__law_told pm__law_told an__law_told cd__law_told ct__law_told), sl__law_told⟩)
    (c__law_told : PySem.W.codeIn K cd__law_told "_law_told" = true)
    (k__law_told : PySem.W.keepIn K (.ref f__law_told) = true)
    (a_law : PySem.W.nsIn K mainGlobals "law" = some (some (.ref f_law)))
    (l_law : K.lookup f_law = some ⟨oc_law, od_law, .func (PySem.W.fnOf "law" "law" (defArgs S_law) (defBody S_law) (defScope S_law) .none kV_law dc_law pm_law an_law cd_law ct_law), sl_law⟩)
    (c_law : PySem.W.codeIn K cd_law "law" = true)
    (k_law : PySem.W.keepIn K (.ref f_law) = true)
    (z_ValueError : PySem.W.nsIn K mainGlobals "ValueError" = some none)
    (z_bool : PySem.W.nsIn K mainGlobals "bool" = some none)
    (z_int : PySem.W.nsIn K mainGlobals "int" = some none)
    (z_isinstance : PySem.W.nsIn K mainGlobals "isinstance" = some none)
    (z_iter : PySem.W.nsIn K mainGlobals "iter" = some none)
    (z_len : PySem.W.nsIn K mainGlobals "len" = some none)
    (z_list : PySem.W.nsIn K mainGlobals "list" = some none)
    (z_range : PySem.W.nsIn K mainGlobals "range" = some none)
    (z_staticmethod : PySem.W.nsIn K mainGlobals "staticmethod" = some none)
    (z_str : PySem.W.nsIn K mainGlobals "str" = some none)
    (z_tuple : PySem.W.nsIn K mainGlobals "tuple" = some none)
    (aq_DEEDS : PySem.W.nsIn K mainGlobals "DEEDS" = some (some (.ref q_DEEDS)))
    (lq_DEEDS : K.lookup q_DEEDS = some ⟨.type "tuple", oq_DEEDS, .seq #[.str "own" t_DEEDS_0, .str "share" t_DEEDS_1, .str "drop" t_DEEDS_2] nq_DEEDS, slq_DEEDS⟩)
    (aq_DIGITS : PySem.W.nsIn K mainGlobals "DIGITS" = some (some (.str "0123456789" tq_DIGITS)))
    (pg_Program : PySem.W.plainGet K c_Program Str.empty = true)
    (hd_Program : PySem.W.hasDictIn K c_Program = true)
    (po_Program : PySem.W.plainOver K c_Program = true)
    (sa_Program : PySem.W.findIn K (.ref c_Program) "__setattr__" = some (some (.builtin "object.__setattr__")))
    (kc_Program : PySem.W.keepIn K (.ref c_Program) = true)
    (i_Program_init : PySem.W.isFn K (.ref f_Program_init) = true)
    (mk_Program : PySem.W.makesIn K c_Program = true)
    (i_Program_iter : PySem.W.isFn K (.ref f_Program_iter) = true)
    (i_Program_eq : PySem.W.isFn K (.ref f_Program_eq) = true)
    (i_Program_add : PySem.W.isFn K (.ref f_Program_add) = true)
    (i_Program_str : PySem.W.isFn K (.ref f_Program_str) = true)
    (rdc_Program : PySem.W.readsIn K c_Program (.type "type") = true)
    (gac_Program : PySem.W.specialIn K (.ref c_Program) "__getattribute__" = some (some (.builtin "type.__getattribute__")))
    (hca_Program : PySem.W.findIn K (.ref c_Program) "__class__" = some (some (.builtin "object.__class__")))
    (hcn_Program : PySem.W.specialIn K (.builtin "object.__class__") "__get__" = some (some (.builtin "getset_descriptor.__get__")))
    (hct_Program : PySem.W.takesIn K (.builtin "object.__class__") = some true)
    (hcm_Program : PySem.W.mroIn K c_Program (.type "object") = some true)
    (ko_Program_list : PySem.W.kitOne K (.ref c_Program) (.type "list") = some false)
    (ko_Program_tuple : PySem.W.kitOne K (.ref c_Program) (.type "tuple") = some false)
    (sf_Program : PySem.W.selfFirst K c_Program = true)
    (or_Program_add : PySem.W.findIn K (.ref c_Program) "__radd__" = some (some (.ref ra_Program_add)))
    (ola_Program_add : PySem.W.findIn K (.type "list") "__add__" = some fl_Program_add)
    (olr_Program_add : PySem.W.findIn K (.type "list") "__radd__" = some rl_Program_add)
    (ols_Program_add : PySem.W.subIn K (.type "list") (.ref c_Program) = some false)
    (ota_Program_add : PySem.W.findIn K (.type "tuple") "__add__" = some ft_Program_add)
    (otr_Program_add : PySem.W.findIn K (.type "tuple") "__radd__" = some rt_Program_add)
    (ots_Program_add : PySem.W.subIn K (.type "tuple") (.ref c_Program) = some false)
    (no_Program__steps : PySem.W.findIn K (.ref c_Program) "_steps" = some none)
    (gc_BadText : PySem.W.nsIn K mainGlobals "BadText" = some (some (.ref c_BadText)))
    (gc_WebError : PySem.W.nsIn K mainGlobals "WebError" = some (some (.ref c_WebError)))
    (gc_BadStep : PySem.W.nsIn K mainGlobals "BadStep" = some (some (.ref c_BadStep)))
    (gc_Refused : PySem.W.nsIn K mainGlobals "Refused" = some (some (.ref c_Refused)))
    (gc_NoThing : PySem.W.nsIn K mainGlobals "NoThing" = some (some (.ref c_NoThing)))
    (gc_TooLarge : PySem.W.nsIn K mainGlobals "TooLarge" = some (some (.ref c_TooLarge)))
    (gc_BadLevel : PySem.W.nsIn K mainGlobals "BadLevel" = some (some (.ref c_BadLevel)))
    (wb_WebError : PySem.W.subIn K (.ref c_WebError) (.type "BaseException") = some true)
    (wd_WebError : PySem.W.hasDictIn K c_WebError = true)
    (wt_WebError : PySem.W.typeIn K (.ref c_WebError) = some (.type "type"))
    (xz_super : PySem.W.nsIn K mainGlobals "super" = some none)
    (x_opq : PySem.W.nsIn K cStatics "thirdparty.any" = some none)
    (x_hn : PySem.W.specialIn K (.builtin "object.__class__") "__get__" = some (some (.builtin "getset_descriptor.__get__")))
    (x_ht : PySem.W.takesIn K (.builtin "object.__class__") = some true)
    (xl_BadText : K.lookup c_BadText = some (excClassObj nm_BadText q_BadText c_BadText N_BadText bs_BadText [.ref c_WebError, .type "ValueError", .type "Exception", .type "BaseException", .type "object"] true sn_BadText sub_BadText ab_BadText col_BadText dd_BadText m0_BadText m1_BadText m2_BadText m3_BadText m5_BadText "ValueError.__new__"))
    (xsa_BadText : PySem.W.findIn K (.ref c_BadText) "__setattr__" = some (some (.builtin "object.__setattr__")))
    (xga_BadText : PySem.W.findIn K (.ref c_BadText) "__getattribute__" = some (some (.builtin "BaseException.__getattribute__")))
    (xgg_BadText : PySem.W.findIn K (.ref c_BadText) "__getattr__" = some none)
    (xno_BadText : PySem.W.findIn K (.ref c_BadText) "line" = some none)
    (xk_BadText : PySem.W.keepIn K (.ref c_BadText) = true)
    (xb_BadText : PySem.W.subIn K (.ref c_BadText) (.type "BaseException") = some true)
    (xt_BadText : PySem.W.typeIn K (.ref c_BadText) = some (.type "type"))
    (xd_BadText : PySem.W.hasDictIn K c_BadText = true)
    (xi_BadText : PySem.W.findIn K (.ref c_BadText) "__init__" = some (some (.ref f_BadText)))
    (xf_BadText : PySem.W.typeIn K (.ref f_BadText) = some (.type "function"))
    (xfl_BadText : K.lookup f_BadText = some ⟨oc_BadText, od_BadText, .func (PySem.W.ksFn "__init__" "BadText.__init__" (defArgs S_BadText_init) (defBody S_BadText_init) (defScope S_BadText_init) .none kV_BadText dc_BadText pm_BadText an_BadText (.ref cda_BadText) ct_BadText cc_BadText), osl_BadText⟩)
    (xci_BadText : PySem.W.codeIn K (.ref cda_BadText) "BadText.__init__" = true)
    (xcc_BadText : K.lookup cc_BadText = some ⟨cl_BadText, cld_BadText, .cell (some (.ref c_BadText)), csl_BadText⟩)
    (xcd_BadText : K.lookup cda_BadText = some ⟨ccl_BadText, cdd_BadText, .fields vs_BadText, ccs_BadText⟩)
    (xvs_BadText : vs_BadText[2]? = some (.str file_BadText tf_BadText))
    (xfi_BadText : ((PP.main.file : Str) == file_BadText) = true)
    (xnx_BadText : PySem.W.ks_superIn K c_BadText c_BadText "__init__" = some (some (.builtin "ValueError.__init__")))
    (xsl_BadText : PySem.W.mroIn K c_BadText (.ref c_BadText) = some true)
    (xsu_BadText : PySem.W.subIn K (.ref c_BadText) (.type "ValueError") = some true)
    (xha_BadText : PySem.W.findIn K (.ref c_BadText) "__class__" = some (some (.builtin "object.__class__")))
    (xhm_BadText : PySem.W.mroIn K c_BadText (.type "object") = some true)
    (ws_BadText_WebError : PySem.W.subIn K (.ref c_BadText) (.ref c_WebError) = some true)
    (kt_BadText_Refused : PySem.W.kitOne K (.ref c_BadText) (.ref c_Refused) = some false)
    (kt_BadText_NoThing : PySem.W.kitOne K (.ref c_BadText) (.ref c_NoThing) = some false)
    (kt_BadText_TooLarge : PySem.W.kitOne K (.ref c_BadText) (.ref c_TooLarge) = some false)
    (kt_BadText_BadLevel : PySem.W.kitOne K (.ref c_BadText) (.ref c_BadLevel) = some false)
    (kt_BadText_BadText : PySem.W.kitOne K (.ref c_BadText) (.ref c_BadText) = some true)
    (kt_BadText_ValueError : PySem.W.kitOne K (.ref c_BadText) (.type "ValueError") = some true)
    (kt_BadText_BadStep : PySem.W.kitOne K (.ref c_BadText) (.ref c_BadStep) = some false)
    : ∃ fd : FuncData, (∀ (s : Shared) (v : Value), BindsTo s fd ⟨[v], []⟩ [("_law_script", v)]) ∧ ∀ base : Heap, K.In base → base.Ns mainGlobals mg → FnOk PP w K mg base CX0 12 fa fd ["_law_script"] (spLaw K) := by
  have e := hfa.symm.trans (PySem.W.mg_of X G a_law)
  cases e
  have XT_BadText : PySem.WX.ExcTxt PP K mg "BadText" "line" c_BadText := { gC := PySem.W.mg_of X G gc_BadText, cls := ⟨nm_BadText, q_BadText, N_BadText, bs_BadText, _, sn_BadText, sub_BadText, ab_BadText, col_BadText, dd_BadText, m0_BadText, m1_BadText, m2_BadText, m3_BadText, m5_BadText, xl_BadText, rfl⟩, sa := xsa_BadText, ga := xga_BadText, gg := xgg_BadText, noN := xno_BadText, kC := xk_BadText, exC := xb_BadText, tyC := xt_BadText, hdC := xd_BadText, fI := f_BadText, qual := "BadText.__init__", tx := _, S := S_BadText_init, oc := oc_BadText, od := od_BadText, kV := kV_BadText, doc := dc_BadText, pm := pm_BadText, an := an_BadText, cda := cda_BadText, ct := ct_BadText, osl := osl_BadText, cc := cc_BadText, cl := cl_BadText, cld := cld_BadText, csl := csl_BadText, ccl := ccl_BadText, cdd := cdd_BadText, vs := vs_BadText, ccs := ccs_BadText, file := file_BadText, tf := tf_BadText, q1 := _, q2 := _, q3 := _, q4 := _, q5 := _, q6 := _, q7 := _, q8 := _, q9 := _, q10 := _, j := _, pl := _, iC := xi_BadText, tI := xf_BadText, lI := xfl_BadText, cI := xci_BadText, lcc := xcc_BadText, lcd := xcd_BadText, hvs := xvs_BadText, hfile := xfi_BadText, hpar := ⟨_, rfl, rfl⟩, hbody := rfl, hbind := fun _ _ => rfl, hev := fun _ _ => rfl, hk := rfl, hco := rfl, hgen := rfl, hks := rfl, hkc := rfl, hself := rfl, hfl := rfl, hcell := by decide +kernel, nf := by decide +kernel, top := by decide +kernel, sup := PySem.W.mg_none_of X G xz_super, opq := x_opq, nxt := xnx_BadText, slf := xsl_BadText, sub := xsu_BadText }
  let T : Txt K mg := {
    a_sound_step := f_sound_step,
    fd_sound_step := _,
    F_sound_step := fun_mk (st := S_sound_step) l_sound_step c_sound_step k_sound_step,
    b_sound_step := (fun_mk (st := S_sound_step) l_sound_step c_sound_step k_sound_step).binds (ps := ["step"]) fun _ _ _ _ _ _ us hl => match us, hl with | [_], _ => rfl,
    g_sound_step := PySem.W.mg_of X G a_sound_step,
    a_number_of := f_number_of,
    fd_number_of := _,
    F_number_of := fun_mk (st := S_number_of) l_number_of c_number_of k_number_of,
    b_number_of := (fun_mk (st := S_number_of) l_number_of c_number_of k_number_of).binds (ps := ["word"]) fun _ _ _ _ _ _ us hl => match us, hl with | [_], _ => rfl,
    g_number_of := PySem.W.mg_of X G a_number_of,
    a_Program_init := f_Program_init,
    fd_Program_init := _,
    F_Program_init := fun_mk (st := S_Program_init) l_Program_init c_Program_init k_Program_init,
    bs_Program_init := StX.bind_star1 (B := fun us => bindArgs (PySem.W.fnOf "__init__" "Program.__init__" (defArgs S_Program_init) (defBody S_Program_init) (defScope S_Program_init) .none kV_Program_init dc_Program_init pm_Program_init an_Program_init cd_Program_init ct_Program_init) ⟨us, []⟩) (fun a => rfl) (fun a r rs => rfl),
    a_Program_iter := f_Program_iter,
    fd_Program_iter := _,
    F_Program_iter := fun_mk (st := S_Program_iter) l_Program_iter c_Program_iter k_Program_iter,
    b_Program_iter := (fun_mk (st := S_Program_iter) l_Program_iter c_Program_iter k_Program_iter).binds (ps := ["self"]) fun _ _ _ _ _ _ us hl => match us, hl with | [_], _ => rfl,
    a_Program_eq := f_Program_eq,
    fd_Program_eq := _,
    F_Program_eq := fun_mk (st := S_Program_eq) l_Program_eq c_Program_eq k_Program_eq,
    b_Program_eq := (fun_mk (st := S_Program_eq) l_Program_eq c_Program_eq k_Program_eq).binds (ps := ["self", "other"]) fun _ _ _ _ _ _ us hl => match us, hl with | [_, _], _ => rfl,
    a_Program_add := f_Program_add,
    fd_Program_add := _,
    F_Program_add := fun_mk (st := S_Program_add) l_Program_add c_Program_add k_Program_add,
    b_Program_add := (fun_mk (st := S_Program_add) l_Program_add c_Program_add k_Program_add).binds (ps := ["self", "other"]) fun _ _ _ _ _ _ us hl => match us, hl with | [_, _], _ => rfl,
    a_Program_str := f_Program_str,
    fd_Program_str := _,
    F_Program_str := fun_mk (st := S_Program_str) l_Program_str c_Program_str k_Program_str,
    b_Program_str := (fun_mk (st := S_Program_str) l_Program_str c_Program_str k_Program_str).binds (ps := ["self"]) fun _ _ _ _ _ _ us hl => match us, hl with | [_], _ => rfl,
    a_Program_read := f_Program_read,
    fd_Program_read := _,
    F_Program_read := fun_mk (st := S_Program_read) l_Program_read c_Program_read k_Program_read,
    b_Program_read := (fun_mk (st := S_Program_read) l_Program_read c_Program_read k_Program_read).binds (ps := ["text"]) fun _ _ _ _ _ _ us hl => match us, hl with | [_], _ => rfl,
    a__law_draws := f__law_draws,
    fd__law_draws := _,
    F__law_draws := fun_mk (st := S__law_draws) l__law_draws c__law_draws k__law_draws,
    b__law_draws := (fun_mk (st := S__law_draws) l__law_draws c__law_draws k__law_draws).binds (ps := ["_law_script"]) fun _ _ _ _ _ _ us hl => match us, hl with | [_], _ => rfl,
    g__law_draws := PySem.W.mg_of X G a__law_draws,
    a__law_take := f__law_take,
    fd__law_take := _,
    F__law_take := fun_mk (st := S__law_take) l__law_take c__law_take k__law_take,
    b__law_take := (fun_mk (st := S__law_take) l__law_take c__law_take k__law_take).binds (ps := ["_law_draws_here", "_law_at", "_law_size"]) fun _ _ _ _ _ _ us hl => match us, hl with | [_, _, _], _ => rfl,
    g__law_take := PySem.W.mg_of X G a__law_take,
    a__law_same := f__law_same,
    fd__law_same := _,
    F__law_same := fun_mk (st := S__law_same) l__law_same c__law_same k__law_same,
    b__law_same := (fun_mk (st := S__law_same) l__law_same c__law_same k__law_same).binds (ps := ["_law_actual", "_law_expected"]) fun _ _ _ _ _ _ us hl => match us, hl with | [_, _], _ => rfl,
    g__law_same := PySem.W.mg_of X G a__law_same,
    a__law_step := f__law_step,
    fd__law_step := _,
    F__law_step := fun_mk (st := S__law_step) l__law_step c__law_step k__law_step,
    b__law_step := (fun_mk (st := S__law_step) l__law_step c__law_step k__law_step).binds (ps := ["_law_draws_here", "_law_at"]) fun _ _ _ _ _ _ us hl => match us, hl with | [_, _], _ => rfl,
    g__law_step := PySem.W.mg_of X G a__law_step,
    a__law_text := f__law_text,
    fd__law_text := _,
    F__law_text := fun_mk (st := S__law_text) l__law_text c__law_text k__law_text,
    b__law_text := (fun_mk (st := S__law_text) l__law_text c__law_text k__law_text).binds (ps := ["_law_steps"]) fun _ _ _ _ _ _ us hl => match us, hl with | [_], _ => rfl,
    g__law_text := PySem.W.mg_of X G a__law_text,
    a__law_number_word := f__law_number_word,
    fd__law_number_word := _,
    F__law_number_word := fun_mk (st := S__law_number_word) l__law_number_word c__law_number_word k__law_number_word,
    b__law_number_word := (fun_mk (st := S__law_number_word) l__law_number_word c__law_number_word k__law_number_word).binds (ps := ["_law_form", "_law_thing"]) fun _ _ _ _ _ _ us hl => match us, hl with | [_, _], _ => rfl,
    g__law_number_word := PySem.W.mg_of X G a__law_number_word,
    a__law_deed := f__law_deed,
    fd__law_deed := _,
    F__law_deed := fun_mk (st := S__law_deed) l__law_deed c__law_deed k__law_deed,
    b__law_deed := (fun_mk (st := S__law_deed) l__law_deed c__law_deed k__law_deed).binds (ps := ["_law_form", "_law_deed_here"]) fun _ _ _ _ _ _ us hl => match us, hl with | [_, _], _ => rfl,
    g__law_deed := PySem.W.mg_of X G a__law_deed,
    a__law_spoilt := f__law_spoilt,
    fd__law_spoilt := _,
    F__law_spoilt := fun_mk (st := S__law_spoilt) l__law_spoilt c__law_spoilt k__law_spoilt,
    b__law_spoilt := (fun_mk (st := S__law_spoilt) l__law_spoilt c__law_spoilt k__law_spoilt).binds (ps := ["_law_spoil", "_law_steps"]) fun _ _ _ _ _ _ us hl => match us, hl with | [_, _], _ => rfl,
    g__law_spoilt := PySem.W.mg_of X G a__law_spoilt,
    a__law_told := f__law_told,
    fd__law_told := _,
    F__law_told := fun_mk (st := S__law_told) l__law_told c__law_told k__law_told,
    b__law_told := (fun_mk (st := S__law_told) l__law_told c__law_told k__law_told).binds (ps := ["_law_text_here"]) fun _ _ _ _ _ _ us hl => match us, hl with | [_], _ => rfl,
    g__law_told := PySem.W.mg_of X G a__law_told,
    a_law := fa,
    fd_law := _,
    F_law := fun_mk (st := S_law) l_law c_law k_law,
    b_law := (fun_mk (st := S_law) l_law c_law k_law).binds (ps := ["_law_script"]) fun _ _ _ _ _ _ us hl => match us, hl with | [_], _ => rfl,
    g_law := PySem.W.mg_of X G a_law,
    n_ValueError := PySem.W.mg_none_of X G z_ValueError,
    n_bool := PySem.W.mg_none_of X G z_bool,
    n_int := PySem.W.mg_none_of X G z_int,
    n_isinstance := PySem.W.mg_none_of X G z_isinstance,
    n_iter := PySem.W.mg_none_of X G z_iter,
    n_len := PySem.W.mg_none_of X G z_len,
    n_list := PySem.W.mg_none_of X G z_list,
    n_range := PySem.W.mg_none_of X G z_range,
    n_staticmethod := PySem.W.mg_none_of X G z_staticmethod,
    n_str := PySem.W.mg_none_of X G z_str,
    n_tuple := PySem.W.mg_none_of X G z_tuple,
    k_DEEDS := q_DEEDS,
    g_DEEDS := PySem.W.mg_of X G aq_DEEDS,
    q_DEEDS := fun H => .inr ⟨_, _, _, lq_DEEDS, rfl, rfl, by show 3 ≤ sizeLine; decide, (.cons ⟨_, rfl⟩ (.cons ⟨_, rfl⟩ (.cons ⟨_, rfl⟩ .nil)))⟩,
    tk_DIGITS := tq_DIGITS,
    g_DIGITS := PySem.W.mg_of X G aq_DIGITS,
    c_Program := c_Program,
    g_Program := PySem.W.mg_of X G gc_Program,
    cl_Program := ⟨pg_Program, hd_Program, po_Program, sa_Program⟩,
    mk_Program := ⟨mk_Program, a_Program_init, i_Program_init, kc_Program⟩,
    m_Program_iter := ⟨a_Program_iter, i_Program_iter, k_Program_iter⟩,
    m_Program_eq := ⟨a_Program_eq, i_Program_eq, k_Program_eq⟩,
    m_Program_add := ⟨a_Program_add, i_Program_add, k_Program_add⟩,
    m_Program_str := ⟨a_Program_str, i_Program_str, k_Program_str⟩,
    p_Program_read := p_Program_read,
    sm_Program_read := ⟨sf_Program_read, ⟨_, sr_Program_read⟩, k_Program_read⟩,
    cr_Program := ⟨rdc_Program, gac_Program⟩,
    ti_Program := fun _ _ _ _ h => .ins h ⟨pg_Program, hd_Program, po_Program, sa_Program⟩ hca_Program hcn_Program hct_Program hcm_Program,
    kk_Program := if_pos (beq_self_eq_true _),
    ko_Program_list := ko_Program_list,
    ko_Program_tuple := ko_Program_tuple,
    of_Program_add := ⟨sf_Program, a_Program_add, i_Program_add, ⟨_, or_Program_add, .inr ⟨_, rfl⟩⟩, ⟨_, _, ola_Program_add, olr_Program_add, ols_Program_add⟩, ⟨_, _, ota_Program_add, otr_Program_add, ots_Program_add⟩⟩,
    no_Program__steps := no_Program__steps,
    c_BadText := c_BadText,
    g_BadText := PySem.W.mg_of X G gc_BadText,
    c_WebError := c_WebError,
    g_WebError := PySem.W.mg_of X G gc_WebError,
    c_BadStep := c_BadStep,
    g_BadStep := PySem.W.mg_of X G gc_BadStep,
    c_Refused := c_Refused,
    g_Refused := PySem.W.mg_of X G gc_Refused,
    c_NoThing := c_NoThing,
    g_NoThing := PySem.W.mg_of X G gc_NoThing,
    c_TooLarge := c_TooLarge,
    g_TooLarge := PySem.W.mg_of X G gc_TooLarge,
    c_BadLevel := c_BadLevel,
    g_BadLevel := PySem.W.mg_of X G gc_BadLevel,
    em_BadText_WebError := PySem.W.exm_ref wb_WebError wd_WebError wt_WebError ws_BadText_WebError,
    kt_BadText_Refused := kt_BadText_Refused,
    kt_BadText_NoThing := kt_BadText_NoThing,
    kt_BadText_TooLarge := kt_BadText_TooLarge,
    kt_BadText_BadLevel := kt_BadText_BadLevel,
    kt_BadText_BadText := kt_BadText_BadText,
    kt_BadText_ValueError := kt_BadText_ValueError,
    kt_BadText_BadStep := kt_BadText_BadStep,
    x_BadText := XT_BadText,
    xc_BadText := ⟨xga_BadText, xgg_BadText, xb_BadText, xd_BadText, xha_BadText, x_hn, x_ht, xhm_BadText⟩,
    xn_BadText := xno_BadText }
  exact ⟨T.fd_law, fun s v => .of_eq rfl, fun base _ _ => ok_law T⟩
end My
open PySem PySem.W PyProof.Rows in
set_option maxRecDepth 100000 in
set_option maxHeartbeats 0 in
theorem PySem.Challenge.cw_weblocks_k17_program_texts_holds : PySem.Challenge.rw_weblocks_k17_program_texts.Holds := by
  w_on; o_law; k_head; (case hw => w_witness2)
  k_fill
  refine L2.walk_of (l := PySem.Challenge.rw_weblocks_k17_program_texts) (n := 63) (k := 12) (x := "_law_script") (CX := fun _ => L2.CX0) (sp := fun w => My.spLaw _) rfl (by decide) rfl ⟨rfl, by decide, by decide⟩ (fun w h Y => PySem.W.kIn_of Y) ?F (fun _ _ a ns hl _ hS => ⟨a, ns, rfl, hS, hl, fun _ => rfl⟩) (fun _ _ _ _ _ h => h)
  case F =>
    intro w mg fa h KX G hmg
    refine' My.all_mk KX G hmg ?gc_Program ?a_sound_step ?l_sound_step ?c_sound_step ?k_sound_step ?a_number_of ?l_number_of ?c_number_of ?k_number_of ?a_Program_init ?l_Program_init ?c_Program_init ?k_Program_init ?a_Program_iter ?l_Program_iter ?c_Program_iter ?k_Program_iter ?a_Program_eq ?l_Program_eq ?c_Program_eq ?k_Program_eq ?a_Program_add ?l_Program_add ?c_Program_add ?k_Program_add ?a_Program_str ?l_Program_str ?c_Program_str ?k_Program_str ?sf_Program_read ?sr_Program_read ?l_Program_read ?c_Program_read ?k_Program_read ?a__law_draws ?l__law_draws ?c__law_draws ?k__law_draws ?a__law_take ?l__law_take ?c__law_take ?k__law_take ?a__law_same ?l__law_same ?c__law_same ?k__law_same ?a__law_step ?l__law_step ?c__law_step ?k__law_step ?a__law_text ?l__law_text ?c__law_text ?k__law_text ?a__law_number_word ?l__law_number_word ?c__law_number_word ?k__law_number_word ?a__law_deed ?l__law_deed ?c__law_deed ?k__law_deed ?a__law_spoilt ?l__law_spoilt ?c__law_spoilt ?k__law_spoilt ?a__law_told ?l__law_told ?c__law_told ?k__law_told ?a_law ?l_law ?c_law ?k_law ?z_ValueError ?z_bool ?z_int ?z_isinstance ?z_iter ?z_len ?z_list ?z_range ?z_staticmethod ?z_str ?z_tuple ?aq_DEEDS ?lq_DEEDS ?aq_DIGITS ?pg_Program ?hd_Program ?po_Program ?sa_Program ?kc_Program ?i_Program_init ?mk_Program ?i_Program_iter ?i_Program_eq ?i_Program_add ?i_Program_str ?rdc_Program ?gac_Program ?hca_Program ?hcn_Program ?hct_Program ?hcm_Program ?ko_Program_list ?ko_Program_tuple ?sf_Program ?or_Program_add ?ola_Program_add ?olr_Program_add ?ols_Program_add ?ota_Program_add ?otr_Program_add ?ots_Program_add ?no_Program__steps ?gc_BadText ?gc_WebError ?gc_BadStep ?gc_Refused ?gc_NoThing ?gc_TooLarge ?gc_BadLevel ?wb_WebError ?wd_WebError ?wt_WebError ?xz_super ?x_opq ?x_hn ?x_ht ?xl_BadText ?xsa_BadText ?xga_BadText ?xgg_BadText ?xno_BadText ?xk_BadText ?xb_BadText ?xt_BadText ?xd_BadText ?xi_BadText ?xf_BadText ?xfl_BadText ?xci_BadText ?xcc_BadText ?xcd_BadText ?xvs_BadText ?xfi_BadText ?xnx_BadText ?xsl_BadText ?xsu_BadText ?xha_BadText ?xhm_BadText ?ws_BadText_WebError ?kt_BadText_Refused ?kt_BadText_NoThing ?kt_BadText_TooLarge ?kt_BadText_BadLevel ?kt_BadText_BadText ?kt_BadText_ValueError ?kt_BadText_BadStep
    (case gc_Program => k_is)
    (case a_sound_step => k_is)
    (case l_sound_step => k_is)
    (case c_sound_step => k_is)
    (case k_sound_step => k_is)
    (case a_number_of => k_is)
    (case l_number_of => k_is)
    (case c_number_of => k_is)
    (case k_number_of => k_is)
    (case a_Program_init => k_is)
    (case l_Program_init => k_is)
    (case c_Program_init => k_is)
    (case k_Program_init => k_is)
    (case a_Program_iter => k_is)
    (case l_Program_iter => k_is)
    (case c_Program_iter => k_is)
    (case k_Program_iter => k_is)
    (case a_Program_eq => k_is)
    (case l_Program_eq => k_is)
    (case c_Program_eq => k_is)
    (case k_Program_eq => k_is)
    (case a_Program_add => k_is)
    (case l_Program_add => k_is)
    (case c_Program_add => k_is)
    (case k_Program_add => k_is)
    (case a_Program_str => k_is)
    (case l_Program_str => k_is)
    (case c_Program_str => k_is)
    (case k_Program_str => k_is)
    (case sf_Program_read => k_is)
    (case sr_Program_read => k_is)
    (case l_Program_read => k_is)
    (case c_Program_read => k_is)
    (case k_Program_read => k_is)
    (case a__law_draws => k_is)
    (case l__law_draws => k_is)
    (case c__law_draws => k_is)
    (case k__law_draws => k_is)
    (case a__law_take => k_is)
    (case l__law_take => k_is)
    (case c__law_take => k_is)
    (case k__law_take => k_is)
    (case a__law_same => k_is)
    (case l__law_same => k_is)
    (case c__law_same => k_is)
    (case k__law_same => k_is)
    (case a__law_step => k_is)
    (case l__law_step => k_is)
    (case c__law_step => k_is)
    (case k__law_step => k_is)
    (case a__law_text => k_is)
    (case l__law_text => k_is)
    (case c__law_text => k_is)
    (case k__law_text => k_is)
    (case a__law_number_word => k_is)
    (case l__law_number_word => k_is)
    (case c__law_number_word => k_is)
    (case k__law_number_word => k_is)
    (case a__law_deed => k_is)
    (case l__law_deed => k_is)
    (case c__law_deed => k_is)
    (case k__law_deed => k_is)
    (case a__law_spoilt => k_is)
    (case l__law_spoilt => k_is)
    (case c__law_spoilt => k_is)
    (case k__law_spoilt => k_is)
    (case a__law_told => k_is)
    (case l__law_told => k_is)
    (case c__law_told => k_is)
    (case k__law_told => k_is)
    (case a_law => k_is)
    (case l_law => k_is)
    (case c_law => k_is)
    (case k_law => k_is)
    (case z_ValueError => k_is)
    (case z_bool => k_is)
    (case z_int => k_is)
    (case z_isinstance => k_is)
    (case z_iter => k_is)
    (case z_len => k_is)
    (case z_list => k_is)
    (case z_range => k_is)
    (case z_staticmethod => k_is)
    (case z_str => k_is)
    (case z_tuple => k_is)
    (case aq_DEEDS => k_is)
    (case lq_DEEDS => k_is)
    (case aq_DIGITS => k_is)
    (case pg_Program => k_is)
    (case hd_Program => k_is)
    (case po_Program => k_is)
    (case sa_Program => k_is)
    (case kc_Program => k_is)
    (case i_Program_init => k_is)
    (case mk_Program => k_is)
    (case i_Program_iter => k_is)
    (case i_Program_eq => k_is)
    (case i_Program_add => k_is)
    (case i_Program_str => k_is)
    (case rdc_Program => k_is)
    (case gac_Program => k_is)
    (case hca_Program => k_is)
    (case hcn_Program => k_is)
    (case hct_Program => k_is)
    (case hcm_Program => k_is)
    (case ko_Program_list => kit_is)
    (case ko_Program_tuple => kit_is)
    (case sf_Program => k_is)
    (case or_Program_add => k_is)
    (case ola_Program_add => k_is)
    (case olr_Program_add => k_is)
    (case ols_Program_add => k_is)
    (case ota_Program_add => k_is)
    (case otr_Program_add => k_is)
    (case ots_Program_add => k_is)
    (case no_Program__steps => k_is)
    (case gc_BadText => k_is)
    (case gc_WebError => k_is)
    (case gc_BadStep => k_is)
    (case gc_Refused => k_is)
    (case gc_NoThing => k_is)
    (case gc_TooLarge => k_is)
    (case gc_BadLevel => k_is)
    (case wb_WebError => k_is)
    (case wd_WebError => k_is)
    (case wt_WebError => k_is)
    (case xz_super => k_is)
    (case x_opq => k_is)
    (case x_hn => k_is)
    (case x_ht => k_is)
    (case xl_BadText => k_is)
    (case xsa_BadText => k_is)
    (case xga_BadText => k_is)
    (case xgg_BadText => k_is)
    (case xno_BadText => k_is)
    (case xk_BadText => k_is)
    (case xb_BadText => k_is)
    (case xt_BadText => k_is)
    (case xd_BadText => k_is)
    (case xi_BadText => k_is)
    (case xf_BadText => k_is)
    (case xfl_BadText => k_is)
    (case xci_BadText => k_is)
    (case xcc_BadText => k_is)
    (case xcd_BadText => k_is)
    (case xvs_BadText => rfl)
    (case xfi_BadText => first | rfl | decide +kernel)
    (case xnx_BadText => ks_is)
    (case xsl_BadText => k_is)
    (case xsu_BadText => k_is)
    (case xha_BadText => k_is)
    (case xhm_BadText => k_is)
    (case ws_BadText_WebError => k_is)
    (case kt_BadText_Refused => kit_is)
    (case kt_BadText_NoThing => kit_is)
    (case kt_BadText_TooLarge => kit_is)
    (case kt_BadText_BadLevel => kit_is)
    (case kt_BadText_BadText => kit_is)
    (case kt_BadText_ValueError => kit_is)
    (case kt_BadText_BadStep => kit_is)
#print axioms PySem.Challenge.cw_weblocks_k17_program_texts_holds
