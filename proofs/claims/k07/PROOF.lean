import PyProof.Rows.All
import Wide.All
import OpenK.AllK
import Wide.FinOn
import HandS.ForMost
import KE.GoesMore
import HandS.Codes
import HandS.IsInst
import HandS.Defaults
import HandS.MakeKw
import HandS.MakeKwOnly
import HandS.SlotsOwn
import HandS.ForExc
import HandS.ExcIs
import HandS.ExcField
import HandS.CallSlots
import KE.KExcIs
import KE.KExcSuper
import KE.KExcMake
import KE.RegKSuper
import HandS.ClsMeth
import KE.KCallOwn
import HandS.IterVal
import KE.KOwnIter
import HandS.ReplaceLit
import HandS.Text
import PyProof.StrLawsChain
import PyProof.Rows.StrItems
import PyProof.Rows.StrSplitAre
import HandS.Property
import HandS.StrMore
import PySem.Challenge.RW_weblocks_k07_way_texts
set_option Elab.async false
set_option linter.all false
set_option maxRecDepth 100000
set_option maxHeartbeats 4000000
local macro_rules | `(tactic| walk_at "sd") => `(tactic| first | assumption | omega | decide | rfl | (refine And.intro ?_ ?_ <;> walk_at "sd") | (show _ < PySem.sizeLine; exact Nat.lt_of_le_of_lt (by omega : _ ≤ 100000) (by decide)) | (show _ ≤ PySem.sizeLine; exact Nat.le_trans (by omega : _ ≤ 100000) (by decide)))
local macro_rules | `(tactic| walk_at "hl") => `(tactic| first | assumption | exact L2.upd_same | (refine (L2.upd_ne ?_).trans ?_; (walk_at "ne"); (walk_at "hl")))
local macro_rules | `(tactic| walk_at "ne") => `(tactic| first | assumption | (apply Ne.symm; assumption) | (refine L2.ne_of_none ?_ (by assumption); walk_at "hl") | (apply Ne.symm; refine L2.ne_of_none ?_ (by assumption); walk_at "hl") | (refine L2.ne_of (o := L2.HO.lst _) (u := L2.HO.tup _) ?_ ?_ (by intro z; cases z) <;> walk_at "hl"))
local macro_rules | `(tactic| walk_at "sq") => `(tactic| first | assumption | exact .inl (.inl (by walk_at "hl")) | exact .inl (.inl (.inl (by walk_at "hl"))) | exact .inr (.inl (.inl (by walk_at "hl"))) | exact .inl (by assumption) | exact .inr (by assumption))
local macro_rules | `(tactic| walk_at "at") => `(tactic| first | assumption | exact rfl | exact L2.atI_nat (j := 0) rfl | exact L2.atI_nat (j := 1) rfl | exact L2.atI_nat (j := 2) rfl | exact L2.atI_nat (j := 3) rfl | exact L2.atI_nat rfl | exact L2.atI_nat (by assumption))
local macro_rules | `(tactic| walk_at "r1") => `(tactic| first
  | (refine ⟨_, rfl, ?_⟩)
  | (refine ⟨_, _, rfl, rfl, ?_⟩)
  | (refine ⟨_, _, _, _, rfl, rfl, (by walk_at "sq"), (by walk_at "at"), ?_⟩)
  | (refine ⟨_, _, rfl, (by walk_at "sq"), ?_⟩)
  | (refine ⟨.inl ⟨rfl, _, L2.SqL.of (by walk_at "hl")⟩, ?_⟩)
  | (refine ⟨_, _, _, rfl, rfl, (by walk_at "hl"), (by walk_at "sd"), ?_⟩)
  | (refine ⟨_, _, _, _, rfl, rfl, (by walk_at "hl"), rfl, ?_⟩)
  | (refine And.intro (by walk_at "sd") ?_)
  | (refine .inl ⟨_, rfl, ?_⟩))
local macro_rules | `(tactic| walk_at "rd") => `(tactic| repeat walk_at "r1")
/-! ### enumerate over a tuple -/
namespace PySem
open AutoSeq1 (wpAny_loadPart')
set_option maxHeartbeats 1000000 in
theorem meets_enumerate_newT (l : Addr) (items : Array Value) :
    Meets (Builtin.«enumerate.__new__» ⟨[.type "enumerate", .ref l], []⟩) (fun _ R s => s.heap.IsTuple l items ∧
      R (.ok (.ret (.ref (s.heap.push { cls := .type "tuple_iterator", data := .fields #[.ref l, .int 0 0] }).objs.size)))
        { s with heap := (s.heap.push { cls := .type "tuple_iterator", data := .fields #[.ref l, .int 0 0] }).push { cls := .type "enumerate", data := .fields #[.none, .bool false, .ref s.heap.objs.size, rawInt 0, .none, .none] } }) :=
  .of_wp fun prog w A R s h => by
    obtain ⟨hp, g, d, tk, os⟩ := s; obtain ⟨hL, h⟩ := h
    have hsub := sub_enumerate
    wp_walk using wpAny_pyIter_tuple hL
    refine wpAny_stack_any fun st => wpAny_pure ?_
    split
    · rename_i c _ _ _ _ _
      cases (c == Value.type "enumerate")
      · wp_walk using wpAny_pyIter_tuple hL
        exact ⟨_, rfl, h⟩
      · wp_walk using wpAny_pyIter_tuple hL
        exact ⟨_, rfl, h⟩
    · wp_walk using wpAny_pyIter_tuple hL
      exact ⟨_, rfl, h⟩
section
variable {prog : Program} {w : World} {A : Around} {E : Value → Shared → Prop} {s : Shared}
theorem call_enumerate_tup {l : Addr} {items : Array Value} {Q : Value → Shared → Prop} (hL : s.heap.IsTuple l items)
    (h : ∀ h', IsEnum h' (s.heap.objs.size + 1) s.heap.objs.size 0 .none → h'.IsTupleIter s.heap.objs.size l 0 → h'.objs.size = s.heap.objs.size + 2 →
      (∀ b o, s.heap.get? b = some o → h'.get? b = some o) → Q (.ref (s.heap.objs.size + 1)) { s with heap := h' }) :
    wpAny (model prog w) A (call (.type "enumerate") [.ref l]) Q E s := by
  refine callType_new F.called_enumerate (by decide) (F.typeCall_enumerate_1 _) (F.newCall_enumerate_1 _) (fun obj => F.args_object_init_2 obj _) F.entry_enumerate_new
    (meets_enumerate_newT l items) ⟨hL, ?_⟩
  have hz : (s.heap.push { cls := .type "tuple_iterator", data := .fields #[.ref l, .int 0 0] }).objs.size = s.heap.objs.size + 1 := Heap.size_push ..
  show _ ∧ _
  rw [hz]
  have he : IsEnum ((s.heap.push { cls := .type "tuple_iterator", data := .fields #[.ref l, .int 0 0] }).push
      { cls := .type "enumerate", data := .fields #[.none, .bool false, .ref s.heap.objs.size, rawInt 0, .none, .none] }) (s.heap.objs.size + 1) s.heap.objs.size 0 .none := by
    have := Heap.get?_push_size (s.heap.push { cls := .type "tuple_iterator", data := .fields #[.ref l, .int 0 0] })
      (o := { cls := .type "enumerate", data := .fields #[.none, .bool false, .ref s.heap.objs.size, rawInt 0, .none, .none] }) rfl
    rw [hz] at this; exact this
  refine ⟨⟨_, he, rfl⟩, h _ he ⟨_, Heap.get?_push_of_some _ (Heap.get?_push_size _ rfl), rfl, rfl⟩ (by rw [Heap.size_push, hz]) fun b o x => Heap.get?_push_of_some _ (Heap.get?_push_of_some _ x)⟩
/-- next of an enumerate whose tuple is at its end -/
theorem wpAny_pyNext_enum_endU {e it l : Addr} {i : Nat} {items : Array Value} {old : Value} {Q : Option Value → Shared → Prop} (hh : A.handled = none) (he : IsEnum s.heap e it i old)
    (hit : s.heap.IsTupleIter it l i) (hl : s.heap.IsTuple l items) (hx : items[i]? = none) (hQ : ∀ h', Heap.ExtBut it s.heap h' → Q none { s with heap := h' }) : wpAny (model prog w) A (pyNext (.ref e)) Q E s := by
  have hT : s.TypeIs (.ref e) "enumerate" := ⟨_, he, rfl⟩
  unfold pyNext
  refine wpAny_bind (wpAny_attempt (wpAny_callSpecial?_slot (name := Str.ofString "__next__") hT F.slot_enumerate_next (wpAny_call_entry F.slot_enumerate_next hT F.entry_enumerate_next ?_ (F.args_enumerate_next_1 _))))
  show wpAny _ _ (field (.ref e) 2 >>= _) _ _ _
  refine wpAny_bind (wpAny_field he rfl (x := .ref it) rfl (wpAny_bind (wpAny_nextOf_tuple_end hh hit hl hx fun h' x he' ⟨o, ho, hc⟩ => ?_)))
  exact wpAny_bind (wpAny_isInstance (T := "StopIteration") (b := true) ⟨o, ho, hc⟩ isSubtype_stop (wpAny_pure (hQ _ he')))
end
end PySem
namespace L2
open PySem PySem.Spec PyProof.Rows
/-- the tuple at a, each item in a new pair -/
def ItuE (K : PySem.W.Frag) (a : Addr) : It :=
  ⟨fun i H => ∃ (xs : List V) (x : V), SqT K H a xs ∧ xs[i]? = some x, fun i H v H' => ∃ T x, v = .ref T ∧ H T = none ∧ H' = upd H T (.tup [.int (i : Nat), x]) ∧ ∀ xs, SqT K H a xs → xs[i]? = some x, fun i H => ∃ xs : List V, SqT K H a xs ∧ xs.length ≤ i⟩
theorem turn_enumT {P : Program} {w : World} {K : PySem.W.Frag} {elts : List Expr} {kk : Nat} {tpos : Pos} (a e it : Addr) :
    Turn P w K (.Tuple elts kk tpos) (ItuE K a) [e, it] e (fun i h => (∃ old, IsEnum h e it ((i : Nat) : Int) old) ∧ h.IsTupleIter it a i ∧ e ≠ it ∧ a ≠ it ∧ a ≠ e) where
  mem := by simp
  obj := fun i h st b hb => by
    obtain ⟨⟨old, he⟩, ⟨o, ho, hc, hd⟩, _⟩ := st
    have e' : b = e ∨ b = it := by simpa using hb
    rcases e' with z | z
    · rw [z]; exact ⟨_, he, fun v q => nomatch q⟩
    · rw [z]; exact ⟨o, ho, fun v q => by rw [hd] at q; cases q⟩
  keep := fun i h h' st k => let ⟨⟨old, he⟩, hi, hne⟩ := st; ⟨⟨old, k e (by simp) _ he⟩, hi.at fun o q => k it (by simp) o q, hne⟩
  item := by
    intro X hP hw hK hc i pins s σ H E I hf st hg
    subst hP hw hK
    obtain ⟨⟨old, he⟩, hit, hne, hai, hae⟩ := st
    obtain ⟨xs, x, hq, hx⟩ := hg
    obtain ⟨its, rv, p, hz⟩ := I.tuple hq
    obtain ⟨u, hu, ru⟩ := rv.get hx
    have hel : e < s.heap.objs.size := Heap.lt_size he
    have hil : it < s.heap.objs.size := by obtain ⟨_, q, _⟩ := hit; exact Heap.lt_size q
    have hlen : i < its.toArray.size := by
      have := (List.getElem?_eq_some_iff.mp hu).1
      simpa using this
    have hT0 : s.heap.IsTuple a its.toArray := p
    refine wpAny_pyNext_enum_itemD (Draws.tuple (prog := X.prog) (w := X.w) (A := X.A.in1) (show X.A.in1.handled = none from I.ok.hd hc) it a hai its.toArray) he ⟨hit, hT0⟩ hlen hne (by simp [hne, Ne.symm hae]) fun y h' tk hy ho hst' hT hsz hk => ?_
    have ey : y = u := by
      have q : its[i]? = some y := by simpa using hy
      exact Option.some.inj (q.symm.trans hu)
    subst ey
    obtain ⟨hit', _⟩ := hst'
    refine ⟨_, rfl, wpAny_letOwnedTupleGo_enum (s := { s with heap := h', toks := tk + 1 }) ho fun h'' he' sb => ?_⟩
    have hT2 : h''.get? s.heap.objs.size = some { cls := .type "tuple", data := .seq #[.int i tk, y] } := (sb.2 _ (Nat.ne_of_gt hel)).trans hT
    have new : ObjOk X.prog X.w (upd H s.heap.objs.size (.tup [.int (i : Nat), x])) h'' s.heap.objs.size (.tup [.int (i : Nat), x]) :=
      ⟨by show 2 ≤ sizeLine; decide, [.int i tk, y], .cons ⟨_, rfl⟩ (.cons ru .nil), ⟨_, hT2, rfl, _, rfl⟩⟩
    have I1 : Inv X pins σ (upd H s.heap.objs.size (.tup [.int (i : Nat), x])) { s with heap := h'', toks := tk + 1 } :=
      I.turnedNew (ch := [e, it]) (fun b ob hb q => (sb.2 b (fun z => hb (by simp [z]))).trans (hk b ob (fun z => hb (by simp [z])) (fun z => hb (by simp [z])) q)) hf (Nat.le_refl _) new
    refine ⟨.ref s.heap.objs.size, _, I1, rfl, ⟨_, x, rfl, I.hok.fresh (Nat.le_refl _), rfl, fun ys hy => by rw [I.tuple_inj hy hq]; exact hx⟩, ⟨⟨y, ?_⟩, hit'.at fun o q => (sb.2 it (Ne.symm hne)).trans q, hne, hai, hae⟩, fun b hb => ?_⟩
    · have e1 : ((i + 1 : Nat) : Int) = (i : Int) + 1 := by omega
      rw [e1]; exact he'
    · have hb' : b < s.heap.objs.size := by
        have e' : b = e ∨ b = it := by simpa using hb
        rcases e' with z | z
        · rw [z]; exact hel
        · rw [z]; exact hil
      rw [upd_ne (Nat.ne_of_lt hb')]
      exact (hf b hb).1
  done := by
    intro X hP hw hK hc i pins s σ H E I hf st hg
    subst hP hw hK
    obtain ⟨⟨old, he⟩, hit, hne, hai, hae⟩ := st
    obtain ⟨xs, hq, hx⟩ := hg
    obtain ⟨its, rv, p, hz⟩ := I.tuple hq
    obtain ⟨f0, f1, f2, f3, f4, f5⟩ := hf it (by simp)
    have hl := rv.length
    have hT0 : s.heap.IsTuple a its.toArray := p
    exact wpAny_pyNext_enum_endU (I.ok.hd hc) he hit hT0 (by simp; omega) fun h' eb => ⟨rfl, I.turned (t' := s.toks) (fun b o hb q => eb b o hb q) f0 f1 f3 f4 f5⟩
  self := fun A i s Q E st h => let ⟨⟨_, he⟩, _⟩ := st; wpAny_pyIter_enum he h
def iEnumT (K : PySem.W.Frag) (ta : TA) : TI := fun σ H R => ta σ H fun vs H1 => ∃ a xs, vs = [.ref a] ∧ SqT K H1 a xs ∧ R (ItuE K a) H1
theorem pi_enumT {X : Cx} {e : Expr} {ta : TA} {p pos tpos : Pos} {elts : List Expr} {kk : Nat} (hg : Gl X "enumerate") (hm : X.mg "enumerate" = none) (ha : PA X [e] ta) (hs : starEach [e] X.env = [(false, eval e X.env)] := by rfl) :
    PI X (.Tuple elts kk tpos) (.Call (.Name "enumerate" p) [e] [] pos) (iEnumT X.K ta) := by
  refine ⟨fun pins s σ H R I h => ?_⟩
  refine Call_ (ld_blt I hg hm boot_enumerate (PyProof.Rows.callWith_type1 (thn (ha.run pos pins s σ H _ I h) fun us s1 ⟨vs, H1, I1, r1, q1⟩ => ?_) hs rfl))
  obtain ⟨a, xs, ex, hq, q⟩ := q1
  subst ex
  cases r1 with
  | cons r rr =>
    cases rr
    cases r
    obtain ⟨its, rv, p', hz⟩ := I1.tuple hq
    have hT0 : s1.heap.IsTuple a its.toArray := p'
    have hal : a < s1.heap.objs.size := by obtain ⟨_, q, _⟩ := hT0; exact Heap.lt_size q
    refine call_enumerate_tup hT0 fun h' he hit hsz hk => wpAny_pyIter_enum he ?_
    have I2 : Inv X pins σ H1 { s1 with heap := h' } := I1.kept (t' := s1.toks) hk
    refine ⟨s1.heap.objs.size + 1, [s1.heap.objs.size + 1, s1.heap.objs.size], _, _, H1, rfl, I2, turn_enumT a (s1.heap.objs.size + 1) s1.heap.objs.size, ⟨⟨.none, he⟩, hit, Nat.succ_ne_self _, Nat.ne_of_lt hal, Nat.ne_of_lt (Nat.lt_succ_of_lt hal)⟩, fun b hb => ?_, q⟩
    have e' : b = s1.heap.objs.size + 1 ∨ b = s1.heap.objs.size := by simpa using hb
    have hle : s1.heap.objs.size ≤ b := by
      rcases e' with z | z
      · rw [z]; exact Nat.le_add_right _ _
      · rw [z]; exact Nat.le_refl _
    exact I1.fpOk hle (I1.hok.fresh hle)
end L2
namespace L2
open PySem PySem.Spec PyProof.Rows
theorem for_enumT {K : PySem.W.Frag} {a : Addr} {xs : List V} {g : TG} {tb : TS} {D : Ends} {σ : St} {H : Hp} (Pv : Nat → St → Hp → Prop) (h0 : Pv 0 σ H) (hl : ∀ i σ H, i ≤ xs.length → Pv i σ H → SqT K H a xs)
    (hs : ∀ i x σ H T, xs[i]? = some x → Pv i σ H → H T = none → g (.ref T) σ (upd H T (.tup [.int (i : Nat), x])) fun σ2 H2 => tb { D with nx := Pv (i + 1), ct := Pv (i + 1), bk := D.nx } σ2 H2)
    (hd : ∀ σ H, Pv xs.length σ H → D.nx σ H) :
    ∃ W : Nat → Nat → St → Hp → Prop, (∃ m, W 0 m σ H) ∧ ∀ i m σ H, W i m σ H →
      ((ItuE K a).stop i H ∧ D.nx σ H) ∨ ((ItuE K a).go i H ∧ ∃ N : St → Hp → Prop, (∀ σ' H', N σ' H' → ∃ m', m' < m ∧ W (i + 1) m' σ' H') ∧ ∀ x H', (ItuE K a).yld i H x H' → g x σ H' fun σ2 H2 => tb { D with nx := N, ct := N, bk := D.nx } σ2 H2) := by
  refine ⟨fun i m σ H => m = xs.length - i ∧ i ≤ xs.length ∧ Pv i σ H, ⟨xs.length, by simp, Nat.zero_le _, h0⟩, fun i m σ H hW => ?_⟩
  obtain ⟨em, hi, p⟩ := hW
  have q := hl i σ H hi p
  by_cases hlt : i < xs.length
  · refine .inr ⟨⟨xs, xs[i], q, List.getElem?_eq_getElem hlt⟩, Pv (i + 1), fun σ' H' p' => ⟨xs.length - (i + 1), by omega, rfl, hlt, p'⟩, fun x H' y => ?_⟩
    obtain ⟨T, x', ev, nT, eH, hx⟩ := y
    subst ev eH
    exact hs i x' σ H T (hx xs q) p nT
  · have ei : i = xs.length := by omega
    subst ei
    exact .inl ⟨⟨xs, q, Nat.le_refl _⟩, hd σ H p⟩
end L2

namespace L2
open PySem PySem.Spec PyProof.Rows
/-! ### o.m(e, .., k = v, ..) -/
def tMethN (C : Addr) (m : Str) (n j : Nat) (sp : Sp) (gV : List V → List V → List V) (E : XK) (ta : TE) (t tk : TA) : TE := fun σ H Q => ta σ H fun x H1 => ∃ a dx fs, x = .ref a ∧ H1 a = some (.ins C dx fs) ∧ fs.lookup m = none ∧
  t σ H1 fun vs H2 => tk σ H2 fun zs H3 => vs.length + 1 = n ∧ zs.length = j ∧ sp (gV (x :: vs) zs) H3 Q E
section
variable {X : Cx} {CX : CXT} {k n : Nat} {f C : Addr} {fd : FuncData} {ps ks : List Str} {sp : Sp} {E : XK} {m : Str} {pos apos : Pos} {e o : Expr} {es : List Expr} {kws : List Keyword} {ta : TE} {t tk : TA} {g : List Value → List Value → List Value} {gV : List V → List V → List V}
theorem pe_methN {pl : Sem Bool} (he : PE X o ta) (c : Cls X.K C) (hm : Meth X.K C m f) (F : FnOk X.prog X.w X.K X.mg X.base CX k f fd ps sp) (hr : Room k X.A) (hb : KBn X.K fd ps n ks g gV) (hx : Passes CX X E) (ha : PA X (e :: es) t) (hkw : PK X kws tk)
    (hall : (backToKw pos (keywordEach kws X.env)).all (·.1.isSome) = true := by rfl) (hks : (backToKw pos (keywordEach kws X.env)).filterMap (·.1) = ks := by rfl)
    (hst : starEach (e :: es) X.env = (false, eval e X.env) :: starEach es X.env := by rfl)
    (hpl : ((backTo pos (starEach (e :: es) X.env)).any (·.1) || (backToKw pos (keywordEach kws X.env)).any (·.1.isNone)) = false := by rfl)
    (ht : eval (.Call (.Attribute o m apos) (e :: es) kws pos) X.env = (do
      let ov ← eval o X.env
      standAt apos.atName
      let (f, first) ← holding [ov] (getMethod ov m pl)
      callWith pos f first (backTo pos (starEach (e :: es) X.env)) (backToKw pos (keywordEach kws X.env))) := by rfl) :
    PE X (.Call (.Attribute o m apos) (e :: es) kws pos) (tMethN C m n ks.length sp gV E ta t tk) := by
  refine ⟨fun pins s σ H Q I h => PySem.W.methodCall_KW (pl := pl) (thn (he.run pins s σ H _ I h) fun u s1 ⟨x, H1, I1, rx, a, dx, fs, ex, ea, l, q⟩ => ?_) ht⟩
  subst ex
  obtain rfl : u = Value.ref a := rx
  refine getmeth_ok I1 ea c hm l ?_
  refine PySem.W.callWith_KW (first := [.ref a]) (h₀ := X.base) I.ok.mod.kin hm.kp hall (thn (ha.run pos pins s1 σ H1 _ I1 q) fun us s2 ⟨vs, H2, I2, r, q2⟩ => ?_) hpl hst
  refine thn (hkw.run pos pins s2 σ H2 _ I2 q2) fun ws s3 ⟨zs, H3, I3, rz, l1, l2, q3⟩ => ⟨I3.kIn, ?_⟩
  rw [hks]
  exact run_fnN (us := .ref a :: us) (vs := .ref a :: vs) F hr hb hx I3 (.cons rfl r) rz l1 l2 q3
end
section
variable {P : Program} {w : World} {K : PySem.W.Frag} {mg : Str → Option Value} {base : Heap} {x qual : Str} {params : Arguments} {body : List Stmt} {scope : Scope} {dvs : List V} {kws : List (Str × V)} {f : Addr} {fd : FuncData}
/-- a def with defaults that lets nothing out -/
theorem FunD.ok0 {N ps : List Str} {k : Nat} {sp : Sp} (F : FunD K x qual params body scope dvs kws f fd) (S : FnScope N ps scope) (len : ∀ vs H Q E, sp vs H Q E → vs.length = ps.length)
    (hb : ∀ (cdv : Value) (A : Around) (outer : List Env) (s : Shared) (H : Hp) (vs : List V) (Q : VK) (E : XK), Room k (A.deeper (envOfC qual scope s.heap.objs.size f cdv)) → sp vs H Q E →
      ∃ t, PSs (cxOf CX0 P w K mg base N qual scope f cdv A outer s H E).nox body t ∧ t { nx := fun _ H' => Q .non H', rt := Q } (start N vs) H) : FnOk P w K mg base CX0 (k + 1) f fd ps sp :=
  F.ok S len fun cdv A outer s H vs Q E hr h => (hb cdv A outer s H vs Q E hr h).elim fun t ⟨h1, h2⟩ => ⟨t, h1.nox, h2⟩
end
end L2

namespace L2
open PySem PySem.Spec PyProof.Rows
/-! ### x op y by an own def of the class of both -/
def rOwnI (C : Addr) (sp : Sp) (E : XK) : R2 := fun x y H Q => ∃ a dx fs b dy gs, x = .ref a ∧ y = .ref b ∧ H a = some (.ins C dx fs) ∧ H b = some (.ins C dy gs) ∧ sp [x, y] H Q E
section
variable {X : Cx} {CX : CXT} {n : Nat} {C g : Addr} {fd : FuncData} {ps : List Str} {sp : Sp} {E : XK}
theorem op_cmpI {op : CmpOp} (hop : ∀ a b, compareOp op a b = richCompare op a b) (hs : PySem.W.findIn X.K (.ref C) (cmpInfo op).2.1 = some (some (.ref g))) (hf : PySem.W.isFn X.K (.ref g) = true)
    (F : FnOk X.prog X.w X.K X.mg X.base CX n g fd ps sp) (hr : Room n X.A) (hb : Binds X.K fd ps []) (hx : Passes CX X E) : OpR X (compareOp op) (rOwnI C sp E) := by
  intro pins s σ H x y v u Q I rx ry h
  obtain ⟨a, dx, fs, b, dy, gs, rfl, rfl, ha, hb', q⟩ := h
  cases rx
  cases ry
  obtain ⟨mA, J, _⟩ := ins_get I.hok ha
  obtain ⟨mB, J', _⟩ := ins_get I.hok hb'
  obtain ⟨od, J, _⟩ := J.look
  obtain ⟨od', J', _⟩ := J'.look
  obtain ⟨m, hF⟩ := I.fr
  rw [hop]
  refine PySem.W.cmp_K (op := op) (tb := .ref C) hr.units0 hF I.ok.mod.kin J J'.type (by simp [PySem.W.notFirst]) hs hf ?_
  refine wpAny_mono (run_fn (us := [.ref a, .ref b]) (vs := [.ref a, .ref b]) (dvs := []) F hr hb .nil hx I (.cons rfl (.cons rfl .nil)) q) (fun w s' z => ?_) fun _ _ x => x
  obtain ⟨z', H', I', rz, qz⟩ := z
  exact SlX.cmpback rz ⟨z', H', I', rz, qz⟩
theorem op_binI {op : Operator} (hc : PySem.W.selfFirst X.K C = true) (hs : PySem.W.findIn X.K (.ref C) (PySem.dunder op.info.2) = some (some (.ref g))) (hf : PySem.W.isFn X.K (.ref g) = true)
    (F : FnOk X.prog X.w X.K X.mg X.base CX n g fd ps sp) (hr : Room n X.A) (hb : Binds X.K fd ps []) (hx : Passes CX X E) : OpR X (binaryOp op) (rOwnI C sp E) := by
  intro pins s σ H x y v u Q I rx ry h
  obtain ⟨a, dx, fs, b, dy, gs, rfl, rfl, ha, hb', q⟩ := h
  cases rx
  cases ry
  obtain ⟨mA, J, _⟩ := ins_get I.hok ha
  obtain ⟨mB, J', _⟩ := ins_get I.hok hb'
  obtain ⟨od, J, _⟩ := J.look
  obtain ⟨od', J', _⟩ := J'.look
  obtain ⟨m, hF⟩ := I.fr
  refine PySem.W.binop_K (op := op) hF I.ok.mod.kin J J'.type hc hs hf ?_
  refine wpAny_mono (run_fn (us := [.ref a, .ref b]) (vs := [.ref a, .ref b]) (dvs := []) F hr hb .nil hx I (.cons rfl (.cons rfl .nil)) q) (fun w s' z => ?_) fun _ _ x => x
  obtain ⟨z', H', I', rz, qz⟩ := z
  exact SlX.cmpback rz ⟨z', H', I', rz, qz⟩
end
end L2

/-! ### errors whose __init__ says super().__init__(text) and stores one field -/
namespace PySem
namespace WX
open PySem.W PySem.Calls PyProof.Rows PySem.HandSPX
def iB (fl tx : Str) (q1 q2 q3 q4 q5 q6 q7 q8 q9 q10 : Pos) (j : Nat) : List Stmt :=
  [.Expr (.Call (.Attribute (.Call (.Name "super" q1) [] [] q2) "__init__" q3) [.Constant (.str tx) j q4] [] q5) q6, .Assign [.Attribute (.Name "self" q7) fl q8] (.Name fl q9) q10]
/-- what the top has written of the class cn, at C, and of its __init__, at fI -/
structure ExcTxt (P : Program) (K : Frag) (mg : Str → Option Value) (cn fl : Str) (C : Addr) where
  gC : mg cn = some (.ref C)
  cls : ∃ nm q N bs bm sn sub ab col dd k0 k1 k2 k3 k5, K.lookup C = some (excClassObj nm q C N bs bm true sn sub ab col dd k0 k1 k2 k3 k5 "ValueError.__new__") ∧ refsVE bm = true
  sa : findIn K (.ref C) "__setattr__" = some (some (.builtin "object.__setattr__"))
  ga : findIn K (.ref C) "__getattribute__" = some (some (.builtin "BaseException.__getattribute__"))
  gg : findIn K (.ref C) "__getattr__" = some none
  noN : findIn K (.ref C) fl = some none
  kC : keepIn K (.ref C) = true
  exC : subIn K (.ref C) (.type "BaseException") = some true
  tyC : typeIn K (.ref C) = some (.type "type")
  hdC : hasDictIn K C = true
  fI : Addr
  qual : Str
  tx : Str
  S : Stmt
  oc : Value
  od : Option Addr
  kV : Value
  doc : Value
  pm : Value
  an : Option Addr
  cda : Addr
  ct : Value
  osl : Array (Option Value)
  cc : Addr
  cl : Value
  cld : Option Addr
  csl : Array (Option Value)
  ccl : Value
  cdd : Option Addr
  vs : Array Value
  ccs : Array (Option Value)
  file : Str
  tf : Tok
  q1 : Pos
  q2 : Pos
  q3 : Pos
  q4 : Pos
  q5 : Pos
  q6 : Pos
  q7 : Pos
  q8 : Pos
  q9 : Pos
  q10 : Pos
  j : Nat
  pl : Sem Bool
  iC : findIn K (.ref C) "__init__" = some (some (.ref fI))
  tI : typeIn K (.ref fI) = some (.type "function")
  lI : K.lookup fI = some ⟨oc, od, .func (ksFn "__init__" qual (L2.defArgs S) (L2.defBody S) (L2.defScope S) .none kV doc pm an (.ref cda) ct cc), osl⟩
  cI : codeIn K (.ref cda) qual = true
  lcc : K.lookup cc = some ⟨cl, cld, .cell (some (.ref C)), csl⟩
  lcd : K.lookup cda = some ⟨ccl, cdd, .fields vs, ccs⟩
  hvs : vs[2]? = some (.str file tf)
  hfile : ((P.main.file : Str) == file) = true
  hpar : ∃ ar : Arg, ((L2.defArgs S).posonlyargs ++ (L2.defArgs S).args).head? = some ar ∧ ar.arg = "self"
  hbody : L2.defBody S = iB fl tx q1 q2 q3 q4 q5 q6 q7 q8 q9 q10 j
  hbind : ∀ x v : Value, bindArgs (ksFn "__init__" qual (L2.defArgs S) (L2.defBody S) (L2.defScope S) .none kV doc pm an (.ref cda) ct cc) ⟨[x, v], []⟩ = pure [(("self" : Str), x), (fl, v)]
  hev : ∀ L f : Addr, eval (.Call (.Attribute (.Call (.Name "super" q1) [] [] q2) "__init__" q3) [.Constant (.str tx) j q4] [] q5) (ksEnv qual (L2.defScope S) L f (.ref cda) cc) = (do
      let ov ← attributeBase (.Call (.Name "super" q1) [] [] q2) "__init__" (ksEnv qual (L2.defScope S) L f (.ref cda) cc) (eval (.Call (.Name "super" q1) [] [] q2) (ksEnv qual (L2.defScope S) L f (.ref cda) cc))
      standAt q3.atName
      let (g, first) ← holding [ov] (getMethod ov "__init__" pl)
      callWith q5 g first (backTo q5 (starEach [.Constant (.str tx) j q4] (ksEnv qual (L2.defScope S) L f (.ref cda) cc))) [])
  hk : (L2.defScope S).kind = .function
  hco : (L2.defScope S).isCoroutine = false
  hgen : (L2.defScope S).isGenerator = false
  hks : (L2.defScope S).names.lookup ("super" : Str) = some .globalImplicit
  hkc : (L2.defScope S).names.lookup ("__class__" : Str) = some .free
  hself : (L2.defScope S).names.lookup ("self" : Str) = some .local
  hfl : (L2.defScope S).names.lookup fl = some .local
  hcell : ∀ y ∈ (L2.defScope S).names, y.2 ≠ .cell
  nf : ("self" : Str) ≠ fl ∧ (fl == ("__debug__" : Str)) = false
  top : (P.main.scope.names.lookup ("super" : Str)).isSome = false
  sup : mg "super" = none
  opq : nsIn K cStatics "thirdparty.any" = some none
  nxt : ks_superIn K C C "__init__" = some (some (.builtin "ValueError.__init__"))
  slf : mroIn K C (.ref C) = some true
  sub : subIn K (.ref C) (.type "ValueError") = some true
section
variable {P : Program} {w : World} {A : Around} {E : Value → Shared → Prop} {R : Result → Shared → Prop} {s : Shared} {K : Frag} {mg : Str → Option Value} {cn fl : Str} {C : Addr}
/-- the method-wrapper of ValueError.__init__ called -/
theorem call_mw {h : Heap} {g : Array GenState} {d : Drawn} {t : Nat} {os : OsState} {nm q : Str} {N : Addr} {bs bm : List Value} {hdct : Bool} {sn : List Str} {sub : List Value} {ab : Bool} {col : Option Bool} {dd : Option Addr} {k0 k1 k2 k3 k5 : Option Value} {u e t0 : Addr} {rest : List Value} {Q : Value → Shared → Prop}
    (hC : h.get? C = some (excClassObj nm q C N bs bm hdct sn sub ab col dd k0 k1 k2 k3 k5 "ValueError.__new__")) (he : h.get? e = some (excO C t0)) (hu : h.get? u = some (kxs_mw "ValueError.__init__" e)) (hrest : rest.length ≤ sizeLine)
    (hq : ∀ h' t1, (∀ b o, b ≠ e → h.get? b = some o → h'.get? b = some o) → h'.get? e = some (excO C t1) → Q .none ⟨h', g, d, t, os⟩) :
    wpAny (model P w) A (call (.ref u) rest) Q E ⟨h, g, d, t, os⟩ := by
  refine wpAny_call (codeAny_of_tree ?_)
  show wpAny _ A.in1 (callAny (.ref u) ⟨rest, []⟩) _ _ _
  simp only [callAny]
  refine wpAny_bind (wpAny_load hu ?_)
  simp only [kxs_mw, show (Value.type "method-wrapper" == Value.type "method" || Value.type "method-wrapper" == Value.type "builtin_function_or_method" || Value.type "method-wrapper" == Value.type "method-wrapper") = true by decide, if_true]
  refine KFB.if_so (by decide) (wpAny_bind (check_bound_init PySem.F.excBase_ValueError.toExcCallFacts hC he rfl (wpAny_bind (wpAny_pure (wpAny_pure ?_)))))
  refine ⟨plainId_quiet PySem.F.excBase_ValueError.init.plain _, codeAny_builtin PySem.F.excBase_ValueError.initEntry ?_⟩
  exact exc_init_tree (cls := .ref C) (t0 := t0) (dv := none) (c2 := .none) (c3 := .none) (b4 := .bool false) he hrest fun h' k e' _ => hq h' _ k e'
/-- what __init__ leaves of a fresh exception at x -/
structure InitEnd (h h' : Heap) (x C dx : Addr) (fl : Str) (v : Value) : Prop where
  keep : ∀ b o, b ≠ x → h.get? b = some o → h'.get? b = some o
  obj : ∃ t1 : Addr, h'.get? x = some { cls := .ref C, dict := some dx, data := .fields #[.ref t1, .none, .none, .none, .bool false, .none] }
  dbig : h.objs.size ≤ dx
  dne : dx ≠ x
  ns : h'.Ns1 dx (fun y => if y = fl then some v else none)
theorem x_init (T : ExcTxt P K mg cn fl C) {x t0 : Addr} {v : Value} (X : K.In s.heap) (hlim : s.heap.NoLimit) (hG : s.heap.Ns mainGlobals mg) (hB : ∃ mb, s.heap.Ns builtinsNs mb ∧ ∀ y : Str, y ≠ "__name__" → mb y = bootBuiltins y)
    (hx : s.heap.get? x = some (excO C t0)) (hnx : K.lookup x = none) (hroom : A.depth < recursionLimit)
    (hq : ∀ h' tk dx, InitEnd s.heap h' x C dx fl v → R (.ok (.ret .none)) { s with heap := h', toks := tk }) :
    codeAny (model P w) A (.call (.ref T.fI) ⟨[.ref x, v], []⟩) R s := by
  obtain ⟨nm, q, N, bs, bm, sn, sub, ab, col, dd, k0, k1, k2, k3, k5, hC, hbm⟩ := T.cls
  have hcl : clsIn K C = some { name := nm, bases := bs, mro := .ref C :: bm, ns := N, qualname := q, hasDict := true, slotNames := sn, subclasses := sub, abstract := ab, collection := col, hasDel := false } := by unfold clsIn; rw [hC] <;> rfl
  have hxC : x ≠ C := fun z => by
    have e1 := X _ _ hC
    rw [← z, hx] at e1
    have e2 := congrArg (fun o : Option Obj => o.map (·.data)) e1
    simp [excO, excClassObj] at e2
  have ho := T.lI
  refine ks_codeAny_call_defAt (fd := ksFn "__init__" T.qual (L2.defArgs T.S) (L2.defBody T.S) (L2.defScope T.S) .none T.kV T.doc T.pm T.an (.ref T.cda) T.ct T.cc) (body := L2.defBody T.S) (binds := [("self", .ref x), (fl, v)])
    hroom (X _ _ ho) rfl hlim (codeRec_of X T.cI) rfl (BindsTo.of_eq (T.hbind _ _)) T.hcell ?hloc (fun h₁ hns hk₁ => ?_) T.hco T.hgen T.hk
  case hloc =>
    intro y hy
    simp only [List.mem_cons, List.not_mem_nil, or_false] at hy
    rcases hy with rfl | rfl
    · exact T.hself
    · exact T.hfl
  have X₁ : K.In h₁ := X.keeps hk₁
  have hx₁ := hk₁ _ _ hx
  have ms : (fun y : Str => ([("self", Value.ref x), (fl, v)] : List (Str × Value)).reverse.lookup y) "self" = some (.ref x) := by
    have z : (("self" : Str) == fl) = false := by simpa using T.nf.1
    simp [List.lookup, z]
  have mf : (fun y : Str => ([("self", Value.ref x), (fl, v)] : List (Str × Value)).reverse.lookup y) fl = some v := by simp [List.lookup]
  show wpAt _ (A.deeper (ksEnv T.qual (L2.defScope T.S) s.heap.objs.size T.fI (.ref T.cda) T.cc)) (.func (L2.defBody T.S) (ksEnv T.qual (L2.defScope T.S) s.heap.objs.size T.fI (.ref T.cda) T.cc)) (execs (L2.defBody T.S) (ksEnv T.qual (L2.defScope T.S) s.heap.objs.size T.fI (.ref T.cda) T.cc)) _ _ _
  rw [T.hbody]
  refine ks_wpAt_execs_cons (ks_wpAt_Expr_any (ks_wpAt_MethodCall ?_ (T.hev _ _)) (by unfold interactive; show ((L2.defScope T.S).kind == .module && _) = false; rw [T.hk]; rfl))
  obtain ⟨ar, hp, har⟩ := T.hpar
  obtain ⟨mb, hB1, hB2⟩ := hB
  refine ks_wpAt_super_base T.hks T.hkc (by decide +kernel) rfl (hk₁ _ _ (X _ _ ho)) rfl hp rfl (hk₁ _ _ (X _ _ T.lcd)) rfl T.hvs T.hfile T.top ?_
  refine ks_loadName_global T.hk T.hks (loadGlobal_builtin (hG.keeps hk₁) T.sup (hB1.keeps hk₁) ((hB2 _ (by decide +kernel)).trans PyProof.Rows.Boot.«super») ⟨rfl, ?_⟩)
  refine wpAny_loadName_free T.hk T.hkc rfl ⟨_, X₁ _ _ T.lcc, rfl⟩ ?_
  rw [har]
  refine wpAny_loadName_local T.hk T.hself hns ms ?_
  refine ks_wpAny_isType_cls (X₁ _ _ hC) rfl ⟨rfl, ?_⟩
  refine ks_wpAny_call_super (X₁ _ _ hC) rfl hx₁ rfl (fun c e => by cases e) (looks_mroIn X₁ T.slf) (fun h₂ e₂ k₂ => ?_)
  have X₂ : K.In h₂ := X₁.keeps k₂
  have hx₂ := k₂ _ _ hx₁
  have I₂ : InstAt h₂ x (excO C t0) C none := ⟨hx₂, rfl, rfl, trivial⟩
  have hnxt : alongIn K "__init__" (((Value.ref C :: bm).dropWhile (· != .ref C)).drop 1) = some (some (.builtin "ValueError.__init__")) := by
    have z := T.nxt
    unfold ks_superIn at z
    rw [hcl] at z
    exact z
  refine kxs_getMethod kxs_ValueError e₂ (looks_opaque X₂ T.opq) (l₀ := Value.ref C :: bm) (fun A Q E s k q => wpAny_bind ((looks_clsIn X₂ hcl) A _ E s k (wpAny_pure q))) rfl X₂ hnxt (I₂.type.andThen (looks_subIn X₂ T.sub)) hxC (by decide +kernel) ?_
  have k₃ : ∀ b o, h₂.get? b = some o → (h₂.push (kxs_mw "ValueError.__init__" x)).get? b = some o := fun b o e => Heap.get?_push_of_some _ e
  refine kxs_callWith (i := "ValueError.__init__") (x := x) rfl (evalArgs_plain (spliced_more (wpAny_Constant_str (spliced_none ?_))))
  refine ⟨Heap.get?_push_at rfl rfl, ?_⟩
  refine call_mw (k₃ _ _ (X₂ _ _ hC)) (k₃ _ _ hx₂) (Heap.get?_push_at rfl rfl) (by show 1 ≤ sizeLine; decide) fun h₄ t1 k₄ hx₄ => ?_
  have k14 : ∀ b o, b ≠ x → h₁.get? b = some o → h₄.get? b = some o := fun b o hb e => k₄ b o hb (k₃ _ _ (k₂ _ _ e))
  have hxL : s.heap.objs.size ≠ x := Nat.ne_of_gt (Heap.lt_size hx)
  have hns₄ : h₄.Ns s.heap.objs.size (fun y : Str => ([("self", Value.ref x), (fl, v)] : List (Str × Value)).reverse.lookup y) := by
    obtain ⟨oL, es, ep, hL, r⟩ := hns
    exact ⟨oL, es, ep, k14 _ _ hxL hL, r⟩
  have X₄ : K.In h₄ := fun b o e => k14 b o (fun z => by rw [z, hnx] at e; cases e) (X₁ _ _ e)
  refine ks_wpAt_execs_cons (ks_wpAt_Assign_Attr (wpAt_of_wpAny (wpAny_Name (wpAny_loadName_local T.hk T.hfl hns₄ mf ?_) T.nf.2)))
  refine wpAny_Name (wpAny_loadName_local T.hk T.hself hns₄ ms ?_)
  refine set_plain X₄ (ox := excO C t1) (od := none) ⟨hx₄, rfl, rfl, trivial⟩ T.sa ?_
  refine exc_osa X₄ hx₄ hcl (show refsVE (.ref C :: bm) = true from hbm) rfl T.noN (fun h₅ tk₅ dx k₅ dn dne hx₅ hn₅ => ?_)
  exact wpAt_of_wpAny (wpAny_execs_nil (hq h₅ tk₅ dx ⟨fun b o hb e => k₅ b o hb (k14 b o hb (hk₁ b o e)), ⟨t1, hx₅⟩, Nat.le_trans (Nat.le_of_lt hns₄.lt) dn, dne, hn₅⟩))
/-- a made error -/
structure OwnMade (h h' : Heap) (e C d : Addr) (fl : Str) (v : Value) : Prop where
  keep : ∀ b o, h.get? b = some o → h'.get? b = some o
  new : h.objs.size ≤ e
  obj : ∃ oe vs, h'.get? e = some oe ∧ oe.cls = .ref C ∧ oe.dict = some d ∧ oe.data = .fields vs ∧ vs[1]? = some .none
  dbig : h.objs.size ≤ d
  dne : d ≠ e
  ns : h'.Ns1 d (fun y => if y = fl then some v else none)
theorem x_made (T : ExcTxt P K mg cn fl C) {v : Value} (X : K.In s.heap) (hlim : s.heap.NoLimit) (hG : s.heap.Ns mainGlobals mg) (hB : ∃ mb, s.heap.Ns builtinsNs mb ∧ ∀ y : Str, y ≠ "__name__" → mb y = bootBuiltins y) (hroom : A.depth + 1 < recursionLimit)
    (hq : ∀ h' tk e d, OwnMade s.heap h' e C d fl v → R (.ok (.ret (.ref e))) { s with heap := h', toks := tk }) :
    codeAny (model P w) A (.call (.ref C) ⟨[v], []⟩) R s := by
  obtain ⟨nm, q, N, bs, bm, sn, sub, ab, col, dd, k0, k1, k2, k3, k5, hC, hbm⟩ := T.cls
  obtain ⟨hp, g, dr, tk, os⟩ := s
  have k : ∀ b o, hp.get? b = some o → ((hp.push (kdv_tup [v])).push (excO C hp.objs.size)).get? b = some o := fun b o e => Heap.get?_push_of_some _ (Heap.get?_push_of_some _ e)
  have hget : ((hp.push (kdv_tup [v])).push (excO C hp.objs.size)).get? (hp.objs.size + 1) = some (excO C hp.objs.size) := by heap_get
  have hnx : K.lookup (hp.objs.size + 1) = none := by
    cases e : K.lookup (hp.objs.size + 1) with
    | none => rfl
    | some o => exact absurd (Nat.lt_of_succ_lt (Heap.lt_size (show hp.get? (hp.objs.size + 1) = some o from X _ _ e))) (Nat.lt_irrefl _)
  obtain ⟨mb, hB1, hB2⟩ := hB
  refine call_own PySem.F.excBase_ValueError (fun X => refsVE_contains X bm hbm) (X _ _ hC) (looks_findIn X T.iC) (fun self => bind_fn X self T.tI) (by show 1 ≤ sizeLine; decide) ?_
  refine x_init (s := ⟨(hp.push (kdv_tup [v])).push (excO C hp.objs.size), g, dr, tk, os⟩) T (X.keeps k) (hlim.keeps k) (hG.keeps k) ⟨mb, hB1.keeps k, hB2⟩ hget hnx (show A.depth + 1 < recursionLimit from hroom) fun h' tk' dx ⟨k', ⟨t1, hx⟩, dn, dne, hns⟩ => ?_
  have old : ∀ b o, hp.get? b = some o → h'.get? b = some o := fun b o e => k' b o (Nat.ne_of_lt (Nat.lt_succ_of_lt (Heap.lt_size e))) (k b o e)
  have z : hp.objs.size + 1 + 1 ≤ dx := by
    first
      | (simpa only [Heap.size_push] using dn)
      | exact dn
      | (have q := dn; rw [Heap.size_push, Heap.size_push] at q; exact q)
  exact ⟨rfl, hq h' tk' (hp.objs.size + 1) dx ⟨old, Nat.le_succ _, ⟨_, _, hx, rfl, rfl, rfl, rfl⟩, Nat.le_trans (Nat.le_trans (Nat.le_succ _) (Nat.le_succ _)) z, dne, hns⟩⟩
end
end WX
end PySem
namespace L2
open PySem PySem.Spec PyProof.Rows
theorem relO_x {v : V} {v' : Value} (fl : Str) (r : RelV v v') (f : Str) : RelO (List.lookup f [(fl, v)]) (if f = fl then some v' else none) := by
  by_cases hw : f = fl
  · subst hw
    rw [if_pos rfl, show List.lookup f [(f, v)] = some v by simp [List.lookup]]
    exact r
  · rw [if_neg hw, show List.lookup f [(fl, v)] = none by simp [List.lookup, show (f == fl) = false by simpa using hw]]
    trivial
section
variable {X : Cx} {C : Addr} {cn fl : Str}
/-- cn(e) -/
def tMkX (C : Addr) (fl : Str) (ta : TA) : St → Hp → XK → Prop := fun σ H Q => ta σ H fun vs H1 => ∃ v, vs = [v] ∧ ∀ d, H1 d = none → Q (.ref C) (some d) (upd H1 d (.xd [(fl, v)]))
theorem pmk_x {a : Expr} {ta : TA} {p pos : Pos} {k : Nat} (T : PySem.WX.ExcTxt X.prog X.K X.mg cn fl C) (hr : Room k X.A) (ha : PA X [a] ta) (hg : Gl X cn := by rfl) (hdb : (cn == ("__debug__" : Str)) = false := by decide)
    (he : starEach (a :: []) X.env = (false, eval a X.env) :: starEach [] X.env := by rfl) (hpl : (backTo pos (starEach [] X.env)).any (·.1) = false := by rfl) :
    PMk X (.Call (.Name cn p) [a] [] pos) (tMkX C fl ta) := by
  intro pins s σ H Q I h
  refine wpAny_Call_Name_kw (ld_glob I hg T.gC ?_ hdb)
  refine PySem.W.callWith_K (h₀ := X.base) I.ok.mod.kin T.kC (thn (ha.run pos pins s σ H _ I h) fun us s1 hh => ?_) he hpl
  obtain ⟨vs, H1, I1, r1, v, ev, q1⟩ := hh
  subst ev
  refine ⟨I1.kIn, ?_⟩
  cases r1 with
  | cons rv rn =>
    rename_i v' us'
    cases rn
    show wpAny _ _ (call (.ref C) [v']) _ _ _
    have hlim := I1.nolimit
    have hG := I1.mod.glob.keeps I1.bk
    obtain ⟨mb, hB1, hB2⟩ := I1.mod.blt
    have hB1' := hB1.keeps I1.bk
    obtain ⟨hp, g, dr, tk, os⟩ := s1
    refine wpAny_call (PySem.WX.x_made T I1.kIn hlim hG ⟨mb, hB1', hB2⟩ (by have := hr.dp; omega) fun h' tk' e d M => ?_)
    show MkP X pins σ Q (.ref e) ⟨h', g, dr, tk', os⟩
    obtain ⟨oe, fv, hoe, hc, hd, hdat, h1⟩ := M.obj
    obtain ⟨G', g1, g2⟩ := restrict h' fun b => decide (b ≠ e)
    have gk : ∀ b, b ≠ e → G'.get? b = h'.get? b := fun b hb => g1 b (decide_eq_true hb)
    have ge : G'.get? e = none := g2 e (by simp)
    have old : ∀ b o, hp.get? b = some o → G'.get? b = some o := fun b o q => (gk b (Nat.ne_of_lt (Nat.lt_of_lt_of_le (Heap.lt_size q) M.new))).trans (M.keep b o q)
    have ob : ObjOk X.prog X.w (upd H1 d (.xd [(fl, v)])) G' d (.xd [(fl, v)]) := ⟨_, M.ns.at (fun o q => (gk d M.dne).trans q), fun f => relO_x fl rv f⟩
    have J : Inv X pins σ (upd H1 d (.xd [(fl, v)])) ⟨G', g, dr, tk', os⟩ := I1.laid (t' := tk') old M.dbig ob
    refine ⟨e, oe, fv, ⟨G', g, dr, tk', os⟩, _, .ref C, some d, rfl, J, fun b o q => ?_, ge, hoe, ⟨hc, hd⟩, hdat, h1, ?_, rfl, I1.bare, raises_own T.exC T.tyC, q1 d (I1.hok.fresh M.dbig)⟩
    · by_cases hb : b = e
      · have q' : G'.get? b = some o := q
        rw [hb, ge] at q'; cases q'
      · exact (gk b hb).symm.trans q
    · rw [upd_ne (Ne.symm M.dne)]
      exact I1.hok.fresh M.new
/-- raise cn(e) -/
def tRaiseX (C : Addr) (fl : Str) (W : WX) (ta : TA) : TS := fun _ σ H => tMkX C fl ta σ H fun cls d H' => W cls d σ H'
theorem ps_raiseX {a : Expr} {ta : TA} {W : WX} {p pos pos2 : Pos} {k : Nat} (hc : X.calm = true) (T : PySem.WX.ExcTxt X.prog X.K X.mg cn fl C) (hr : Room k X.A) (tk : Takes X W) (ha : PA X [a] ta) (hg : Gl X cn := by rfl) (hdb : (cn == ("__debug__" : Str)) = false := by decide)
    (he : starEach (a :: []) X.env = (false, eval a X.env) :: starEach [] X.env := by rfl) (hpl : (backTo pos (starEach [] X.env)).any (·.1) = false := by rfl) :
    PS X (.Raise (some (.Call (.Name cn p) [a] [] pos)) none pos2) (tRaiseX C fl W ta) := ps_raise hc tk (pmk_x T hr ha hg hdb he hpl)
end
end L2

namespace L2
open PySem PySem.Spec PyProof.Rows
/-! ### in an except suite: isinstance(e, c) and e.f, e an own error with a dict -/
structure XC (K : PySem.W.Frag) (D : Addr) : Prop where
  ga : PySem.W.findIn K (.ref D) "__getattribute__" = some (some (.builtin "BaseException.__getattribute__"))
  gg : PySem.W.findIn K (.ref D) "__getattr__" = some none
  hs : PySem.W.subIn K (.ref D) (.type "BaseException") = some true
  hd : PySem.W.hasDictIn K D = true
  ha : PySem.W.findIn K (.ref D) "__class__" = some (some (.builtin "object.__class__"))
  hn : PySem.W.specialIn K (.builtin "object.__class__") "__get__" = some (some (.builtin "getset_descriptor.__get__"))
  ht : PySem.W.takesIn K (.builtin "object.__class__") = some true
  hm : PySem.W.mroIn K D (.type "object") = some true
def rIsX (K : PySem.W.Frag) (a : Addr) (cls : Value) (d : Option Addr) : List V → Hp → VK → Prop := fun xs H Q => ∃ (D dd : Addr) (fs : List (Str × V)) (c : V) (cv : Value) (b : Bool), cls = .ref D ∧ d = some dd ∧ H dd = some (.xd fs) ∧ XC K D ∧ xs = [.ref a, c] ∧ ClsV c cv ∧ PySem.W.kitOne K (.ref D) cv = some b ∧ Q (.bl b) H
theorem call_isX {X : Cx} {a : Addr} {oe : Obj} {cls : Value} {d : Option Addr} {pn : List (Addr × Obj)} (hz : Zc cls d oe) (hf : ∃ vs, oe.data = .fields vs) : CallR (X.suite a ((a, oe) :: pn)) (.builtin "isinstance") (rIsX X.K a cls d) := by
  intro pins s σ H xs us Q I r h
  obtain ⟨D, dd, fs, c, cv, b, rfl, rfl, hdd, C, rfl, hcv, e, q⟩ := h
  cases r with
  | cons rx rr =>
    cases rr with
    | cons rt rr =>
      cases rr
      cases rx
      have ec := hcv.eq rt
      subst ec
      obtain ⟨hget, _⟩ := I.pin (a, oe) (List.mem_append.mpr (.inl List.mem_cons_self))
      obtain ⟨vs, hv⟩ := hf
      have hx : ObjOk X.prog X.w H s.heap dd (.xd fs) := I.hok dd _ hdd
      obtain ⟨mA, hns, hr⟩ := hx
      obtain ⟨od, ho, hl⟩ := lookIn_ns hns
      have J : PySem.W.InstAt s.heap a oe D (some od) := ⟨hget, hz.1, by unfold PySem.W.notCls; rw [hv] <;> rfl, by rw [hz.2]; exact ho⟩
      obtain ⟨cd, hc, _⟩ := PySem.W.any_some C.hd
      exact PySem.W.kia_one (PySem.W.kitx_exc (by rw [hc]; rfl) C.ga C.gg C.hs C.ha C.hn C.ht C.hm) I.kIn J e (fun z => nomatch z) fun tk => ⟨.bl b, H, I.kept (t' := tk) fun _ _ z => z, rfl, q⟩
/-- e.f: the reading names the class -/
def tXfX (K : PySem.W.Frag) (a : Addr) (cls : Value) (d : Option Addr) (f : Str) (te : TE) : TE := fun σ H Q => te σ H fun x H1 => x = .ref a ∧ ∃ (C dd : Addr) (fs : List (Str × V)) (v : V), cls = .ref C ∧ XC K C ∧ PySem.W.findIn K (.ref C) f = some none ∧ d = some dd ∧ H1 dd = some (.xd fs) ∧ fs.lookup f = some v ∧ Q v H1
theorem pe_xfX {X : Cx} {a : Addr} {oe : Obj} {cls : Value} {d : Option Addr} {pn : List (Addr × Obj)} {e : Expr} {te : TE} {pos : Pos} {n : Str}
    (hz : Zc cls d oe) (hf : ∃ vs, oe.data = .fields vs) (he : PE (X.suite a ((a, oe) :: pn)) e te) (hb : attributeBase e n X.env (eval e X.env) = eval e X.env := by rfl) :
    PE (X.suite a ((a, oe) :: pn)) (.Attribute e n pos) (tXfX X.K a cls d n te) := by
  refine ⟨fun pins s σ H Q I h => ?_⟩
  refine attr_of hb (thn (he.run pins s σ H _ I h) fun u s1 hh => ?_)
  obtain ⟨x, H1, I1, rx, ex, C, dd, fs, v, ec, T, hno, ed, ea, l, q⟩ := hh
  subst ex
  obtain rfl : u = Value.ref a := rx
  subst ec
  subst ed
  obtain ⟨ha, _⟩ := I1.pin (a, oe) (List.mem_append_left _ List.mem_cons_self)
  obtain ⟨vs, hd⟩ := hf
  have hx : ObjOk X.prog X.w H1 s1.heap dd (.xd fs) := I1.hok dd _ ea
  obtain ⟨mA, hns, hr⟩ := hx
  obtain ⟨od, ho, hl⟩ := lookIn_ns hns
  obtain ⟨u, hu, ru⟩ := RelO.some_of (v := v) (o := mA n) (by rw [← l]; exact hr n)
  have J : PySem.W.InstAt s1.heap a oe C (some od) := ⟨ha, hz.1, by unfold PySem.W.notCls; rw [hd] <;> rfl, by rw [hz.2]; exact ho⟩
  exact HandSPX.exc_get I1.kIn J T.ga T.gg T.hs (PySem.W.findObj_own T.hd hno rfl (by rw [hl, hu])) (handed_of ru) ⟨v, H1, I1.tok _, ru, q⟩
/-! ### calls in a try's body: the way out sees the slots -/
def tMethW (C : Addr) (m : Str) (sp : Sp) (dvs : List V) (E : St → XK) (ta : TE) (t : TA) : TE := fun σ H Q => tMeth C m sp dvs (E σ) ta t σ H Q
section
variable {X : Cx} {CX : CXT} {k : Nat} {f C : Addr} {fd : FuncData} {ps : List Str} {sp : Sp} {dvs : List V} {ds : List Value} {E : St → XK} {x m : Str} {p pos apos : Pos} {e o : Expr} {es : List Expr} {ta : TE} {t : TA}
theorem pe_methW {pl : Sem Bool} (he : PE X o ta) (c : Cls X.K C) (hm : Meth X.K C m f) (F : FnOk X.prog X.w X.K X.mg X.base CX k f fd ps sp) (hr : Room k X.A) (hb : Binds X.K fd ps ds) (hd : Vals dvs ds) (hx : ∀ σ, PassesAt CX X σ (E σ)) (ha : PA X (e :: es) t)
    (hst : starEach (e :: es) X.env = (false, eval e X.env) :: starEach es X.env := by rfl) (hpl : (backTo pos (starEach es X.env)).any (·.1) = false := by rfl)
    (ht : eval (.Call (.Attribute o m apos) (e :: es) [] pos) X.env = (do
      let ov ← eval o X.env
      standAt apos.atName
      let (f, first) ← holding [ov] (getMethod ov m pl)
      callWith pos f first (backTo pos (starEach (e :: es) X.env)) (backToKw pos (keywordEach [] X.env))) := by rfl) :
    PE X (.Call (.Attribute o m apos) (e :: es) [] pos) (tMethW C m sp dvs E ta t) := by
  refine ⟨fun pins s σ H Q I h => ?_⟩
  refine PySem.W.methodCall_KW (pl := pl) (thn (he.run pins s σ H _ I h) fun u s1 ⟨x, H1, I1, rx, a, dx, fs, ex, ea, l, q⟩ => ?_) ht
  subst ex
  obtain rfl : u = Value.ref a := rx
  refine getmeth_ok I1 ea c hm l ?_
  refine PySem.W.callWith_K (first := [.ref a]) (h₀ := X.base) I.ok.mod.kin hm.kp (thn (ha.run pos pins s1 σ H1 _ I1 q) fun us s2 ⟨vs, H2, I2, r, q2⟩ => ⟨I2.kIn, ?_⟩) hst hpl
  exact run_fnSD (us := .ref a :: us) (vs := .ref a :: vs) F hr hb hd (hx σ) I2 (.cons rfl r) q2
end
end L2

namespace L2
open PySem PySem.Spec PyProof.Rows
/-- a def that raises nothing where nothing may be raised -/
theorem FnOk.calm {P : Program} {w : World} {K : PySem.W.Frag} {mg : Str → Option Value} {base : Heap} {k : Nat} {f : Addr} {fd : FuncData} {ps : List Str} {sp : Sp} (F : FnOk P w K mg base (L2.CX P w) k f fd ps sp) :
    FnOk P w K mg base CX0 k f fd ps (fun vs H Q _ => sp vs H Q fun _ _ _ => False) :=
  ⟨fun vs H Q _ h => F.len vs H Q _ h, fun A outer s H args us vs Q _ hr he hb hv hs => codeAny_mono (F.run A outer s H args us vs Q _ hr he hb hv hs) fun r s' hq => by
    cases r with
    | error e =>
      obtain ⟨_, _, _, _, _, _, _, _, _, _, _, _, h⟩ := hq
      exact h.elim
    | ok fl =>
      cases fl with
      | ret u => exact hq
      | next => exact hq
      | brk => exact hq
      | cont => exact hq⟩
/-- the way out of a def as its own caller's -/
theorem passX {X : Cx} {E : XK} (tk : Takes X (fun cls d _ H => E cls d H)) : Passes (L2.CX X.prog X.w) X E := passes_call tk fun _ _ _ _ h => h
end L2

namespace CwR
open PySem PySem.Spec PyProof.Rows L2
/-- if e op <int>: a written int puts a token out, so that e.replace of written texts may stand in the suite -/
theorem ps_ifT {X : Cx} {op : CmpOp} {r : R2} {a : Expr} {ta : TE} {k : Int} {j : Nat} {p pos pos2 : Pos} {sa sb : List Stmt} {t u : TS} (ho : OpR X (compareOp op) r) (ha : PE X a ta) (hm : behindInMarks op (.Constant (.int k) j p) = false) (hs : PSsT X sa t) (hb : PSs X sb u) :
    PS X (.If (.Compare a [op] [.Constant (.int k) j p] pos) sa sb pos2) (tIfS (tTest (tOp r ta (tC (.int k)))) t u) := by
  refine ⟨fun pins s σ H D I h => ?_⟩
  refine wpAny_If (wpAny_isTrue_Compare1 (thn (ha.run pins s σ H _ I h) fun v s1 ⟨x, H1, I1, r1, q1⟩ => ?_) hm)
  refine wpAny_Constant_int ?_
  refine wpAny_mono (PySem.wpAny_toks_of (n := 1) (by show 1 ≤ s1.toks + 1; omega) (ho pins { s1 with toks := s1.toks + 1 } σ H1 x (.int k) v _ _ (I1.tok _) r1 ⟨_, rfl⟩ q1)) (fun c s3 q => ?_) fun _ _ z => z.2
  obtain ⟨h0, z, H3, I3, r3, b, e, q3⟩ := q
  subst e
  cases r3
  refine wpAny_truthy_bool ?_
  cases b with
  | true => exact hs pins s3 σ H3 D h0 I3 q3
  | false => exact hb.run pins s3 σ H3 D I3 q3
end CwR

namespace L2
open PySem PySem.Spec PyProof.Rows
/-! ### own objects where a built-in asks them: o[k], x in o, len(o), str(o), for x in o, C.m(..) of a staticmethod -/
section
variable {X : Cx} {CX : CXT} {k : Nat} {f C a dx : Addr} {fs : List (Str × V)} {fd : FuncData} {ps : List Str} {sp : Sp} {E : XK} {pins : List (Addr × Obj)} {σ : St} {H : Hp} {s : Shared} {Q : VK} {us : List Value} {vs : List V}
/-- a def's call from within a built-in -/
theorem run_sub {A1 : Around} (hf : A1.frames = some X.stack) (F : FnOk X.prog X.w X.K X.mg X.base CX k f fd ps sp) (hr : Room k A1) (hb : Binds X.K fd ps []) (hx : Passes CX X E) (I : Inv X pins σ H s) (r : Vals vs us) (h : sp vs H Q E) :
    wpAny (model X.prog X.w) A1 (call (.ref f) us) (EP X pins σ Q) X.xe s := by
  have hl : (us ++ []).length = ps.length := by rw [List.append_nil, ← r.length]; exact F.len _ _ _ _ h
  have e := I.env0
  have bt := hb s us I.kIn hl
  rw [List.append_nil] at bt
  refine wpAny_call (codeAny_mono (F.run A1 X.stack s H ⟨us, []⟩ us vs Q E hr ⟨hf, e.mod, e.bs, e.bsz, e.funs, e.frf, e.hok, e.bare⟩ bt r h) fun r s' hq => ?_)
  match r, hq with
  | .error e, hq => exact hx pins σ H s e s' I hq
  | .ok (.ret u), hq => exact I.after hq
theorem stack_of (I : Inv X pins σ H s) : X.A.frames = some X.stack := I.env0.frames
theorem inst_of (I : Inv X pins σ H s) (h : H a = some (.ins C dx fs)) : ∃ ox od, PySem.W.InstAt s.heap a ox C (some od) := by
  obtain ⟨mA, J, _⟩ := ins_get I.hok h
  obtain ⟨od, J, _⟩ := J.look
  exact ⟨_, od, J⟩
/-- o[k] by the class's own def -/
def rGetI (C : Addr) (sp : Sp) (E : XK) : R2 := fun x y H Q => ∃ a dx fs, x = .ref a ∧ H a = some (.ins C dx fs) ∧ sp [x, y] H Q E
theorem pe_getI {ea eb : Expr} {ta tb : TE} {pos : Pos} (m : Meth X.K C "__getitem__" f) (hfi : PySem.W.fnIn X.K f = true) (F : FnOk X.prog X.w X.K X.mg X.base CX k f fd ps sp) (hr : Room (k + 1) X.A) (hb : Binds X.K fd ps []) (hx : Passes CX X E)
    (ha : PE X ea ta) (hbe : PE X eb tb) (hsl : ∀ (x : Addr) (i : Value), subscripted eb true (.ref x) i = runValue (.builtin "lifetime.subscript" ⟨[.ref x, i], []⟩) := by intro _ _; with_unfolding_all rfl) : PE X (.Subscript ea eb pos) (tOp (rGetI C sp E) ta tb) := by
  refine ⟨fun pins s σ H Q I h => ?_⟩
  refine Subscript_ (binT ha hbe I h fun v u s2 x y H2 I2 rx ry q => ?_)
  obtain ⟨a, dx, fs, rfl, ho, q⟩ := q
  cases rx
  obtain ⟨ox, od, J⟩ := inst_of I2 ho
  obtain ⟨mf, hF⟩ := I2.fr
  exact PySem.W.sub_K hF I2.ok.mod.kin J m.at_ hfi m.fn (run_sub (A1 := X.A.in1) (us := [.ref a, u]) (vs := [.ref a, y]) (stack_of I2) F hr.in1 hb hx I2 (.cons rfl (.cons ry .nil)) q) (hsl a u)
/-- x in o, x not in o -/
def rInI (C : Addr) (sp : Sp) (E : XK) (neg : Bool) : R2 := fun x y H Q => ∃ a dx fs, y = .ref a ∧ H a = some (.ins C dx fs) ∧ sp [y, x] H (fun v H' => ∃ b : Bool, v = .bl b ∧ Q (.bl (if neg then !b else b)) H') E
theorem truth_bl {A : Around} {E' : Value → Shared → Prop} {b : Bool} {s : Shared} {Qb : Bool → Shared → Prop} (h : Qb b s) : wpAny (model X.prog X.w) A (truthy (.bool b)) Qb E' s := by
  unfold truthy
  exact wpAny_pure h
theorem op_inI (m : Meth X.K C "__contains__" f) (F : FnOk X.prog X.w X.K X.mg X.base CX k f fd ps sp) (hr : Room k X.A) (hb : Binds X.K fd ps []) (hx : Passes CX X E) : OpR X (compareOp .In) (rInI C sp E false) := by
  intro pins s σ H x y v u Q I rx ry h
  obtain ⟨a, dx, fs, rfl, ho, q⟩ := h
  cases ry
  obtain ⟨ox, od, J⟩ := inst_of I ho
  obtain ⟨mf, hF⟩ := I.fr
  refine PySem.W.in_K hF I.ok.mod.kin J m.at_ m.fn (thn (run_sub (us := [.ref a, v]) (vs := [.ref a, x]) (stack_of I) F hr hb hx I (.cons rfl (.cons rx .nil)) q) fun r s' z => ?_)
  obtain ⟨z1, H1, I1, r1, b, rfl, q1⟩ := z
  cases r1
  exact truth_bl ⟨.bl b, H1, I1, rfl, q1⟩
theorem op_ninI (m : Meth X.K C "__contains__" f) (F : FnOk X.prog X.w X.K X.mg X.base CX k f fd ps sp) (hr : Room k X.A) (hb : Binds X.K fd ps []) (hx : Passes CX X E) : OpR X (compareOp .NotIn) (rInI C sp E true) := by
  intro pins s σ H x y v u Q I rx ry h
  obtain ⟨a, dx, fs, rfl, ho, q⟩ := h
  cases ry
  obtain ⟨ox, od, J⟩ := inst_of I ho
  obtain ⟨mf, hF⟩ := I.fr
  refine PySem.W.notIn_K hF I.ok.mod.kin J m.at_ m.fn (thn (run_sub (us := [.ref a, v]) (vs := [.ref a, x]) (stack_of I) F hr hb hx I (.cons rfl (.cons rx .nil)) q) fun r s' z => ?_)
  obtain ⟨z1, H1, I1, r1, b, rfl, q1⟩ := z
  cases r1
  exact truth_bl ⟨.bl (!b), H1, I1, rfl, q1⟩
/-- len(o) -/
def rLenI (C : Addr) (sp : Sp) (E : XK) : List V → Hp → VK → Prop := fun xs H Q => ∃ a dx fs, xs = [.ref a] ∧ H a = some (.ins C dx fs) ∧ sp [.ref a] H (fun v H' => ∃ n : Int, v = .int n ∧ 0 ≤ n ∧ n < 2 ^ 63 ∧ Q (.int n) H') E
theorem call_lenI (m : Meth X.K C "__len__" f) (F : FnOk X.prog X.w X.K X.mg X.base CX k f fd ps sp) (hr : Room (k + 1) X.A) (hb : Binds X.K fd ps []) (hx : Passes CX X E) : CallR X (.builtin "len") (rLenI C sp E) := by
  intro pins s σ H xs us Q I r h
  obtain ⟨a, dx, fs, rfl, ho, q⟩ := h
  obtain ⟨u, rfl, ru⟩ := vals1 r
  cases ru
  obtain ⟨ox, od, J⟩ := inst_of I ho
  obtain ⟨mf, hF⟩ := I.fr
  refine PySem.W.len_K hF I.ok.mod.kin J m.at_ m.fn (thn (run_sub (A1 := X.A.in1) (us := [.ref a]) (vs := [.ref a]) (stack_of I) F hr.in1 hb hx I (.cons rfl .nil) q) fun r s' z => ?_)
  obtain ⟨z1, H1, I1, r1, n, rfl, h0, h1, q1⟩ := z
  obtain ⟨t, rfl⟩ := r1
  exact ⟨⟨h0, h1⟩, .int n, H1, I1.tok _, ⟨_, rfl⟩, q1⟩
/-- str(o) -/
def rStrI (C : Addr) (sp : Sp) (E : XK) : List V → Hp → VK → Prop := fun xs H Q => ∃ a dx fs, xs = [.ref a] ∧ H a = some (.ins C dx fs) ∧ sp [.ref a] H (fun v H' => ∃ z : Str, v = .str z ∧ Q (.str z) H') E
theorem call_strI (m : Meth X.K C "__str__" f) (F : FnOk X.prog X.w X.K X.mg X.base CX k f fd ps sp) (hr : Room (k + 2) X.A) (hb : Binds X.K fd ps []) (hx : Passes CX X E) : CallR X (.type "str") (rStrI C sp E) := by
  intro pins s σ H xs us Q I r h
  obtain ⟨a, dx, fs, rfl, ho, q⟩ := h
  obtain ⟨u, rfl, ru⟩ := vals1 r
  cases ru
  obtain ⟨ox, od, J⟩ := inst_of I ho
  have hr2 : Room k X.A.in1.in1 := hr.in1.in1
  refine PySem.W.kso_call hr2.units0 I.kIn J m.at_ m.fn (thn (run_sub (A1 := X.A.in1.in1) (us := [.ref a]) (vs := [.ref a]) (stack_of I) F hr2 hb hx I (.cons rfl .nil) q) fun r s' z => ?_)
  obtain ⟨z1, H1, I1, r1, y, rfl, q1⟩ := z
  obtain ⟨t, rfl⟩ := r1
  exact ⟨.str y, H1, I1, ⟨_, rfl⟩, q1⟩
end
/-! ### a staticmethod through its class -/
structure SMet (K : PySem.W.Frag) (C : Addr) (mc : Value) (m : Str) (p g : Addr) : Prop where
  at_ : PySem.W.findCls K (.ref C) mc m = some (.get (.builtin "staticmethod.__get__") (.ref p) .none (.ref C))
  rc : ∃ rest, PySem.W.recIn K p "staticmethod" = some (.ref g :: rest)
  kp : PySem.W.keepIn K (.ref g) = true
def tSMeth (C : Addr) (sp : Sp) (E : XK) (ta : TE) (t : TA) : TE := fun σ H Q => ta σ H fun x H1 => x = .ref C ∧ t σ H1 fun vs H2 => sp vs H2 Q E
section
variable {X : Cx} {CX : CXT} {k : Nat} {C p g : Addr} {mc : Value} {fd : FuncData} {ps : List Str} {sp : Sp} {E : XK} {o e : Expr} {es : List Expr} {m : Str} {pos apos : Pos} {ta : TE} {t : TA} {pl : Sem Bool}
theorem getsm_ok {pins : List (Addr × Obj)} {σ : St} {H : Hp} {s : Shared} {A : Around} {E' : Value → Shared → Prop} {Q : Value × List Value → Shared → Prop} (I : Inv X pins σ H s) (r : ClX.CRead X.K C mc) (c : SMet X.K C mc m p g)
    (h : ∀ s', Inv X pins σ H s' → Q (.ref g, []) s') : wpAny (model X.prog X.w) A (getMethod (.ref C) m pl) Q E' s := by
  obtain ⟨rest, hp⟩ := c.rc
  refine PySem.W.method_cls I.kIn r.ga (PySem.W.cls_bind I.kIn r.rd c.at_ (wpAny_call ?_))
  exact PySem.W.sm_get (s := { s with toks := s.toks + 1 }) I.kIn hp (PySem.W.handed_on rfl (h _ (I.tok _)))
theorem pe_smeth (he : PE X o ta) (r : ClX.CRead X.K C mc) (c : SMet X.K C mc m p g) (F : FnOk X.prog X.w X.K X.mg X.base CX k g fd ps sp) (hr : Room k X.A) (hb : Binds X.K fd ps []) (hx : Passes CX X E) (ha : PA X (e :: es) t)
    (hst : starEach (e :: es) X.env = (false, eval e X.env) :: starEach es X.env := by rfl) (hpl : (backTo pos (starEach es X.env)).any (·.1) = false := by rfl)
    (ht : eval (.Call (.Attribute o m apos) (e :: es) [] pos) X.env = (do
      let ov ← eval o X.env
      standAt apos.atName
      let (f, first) ← holding [ov] (getMethod ov m pl)
      callWith pos f first (backTo pos (starEach (e :: es) X.env)) (backToKw pos (keywordEach [] X.env))) := by rfl) :
    PE X (.Call (.Attribute o m apos) (e :: es) [] pos) (tSMeth C sp E ta t) := by
  refine ⟨fun pins s σ H Q I h => PySem.W.methodCall_KW (pl := pl) (thn (he.run pins s σ H _ I h) fun u s1 ⟨x, H1, I1, rx, ex, q⟩ => ?_) ht⟩
  subst ex
  obtain rfl : u = Value.ref C := rx
  refine getsm_ok I1 r c fun s2 I2 => ?_
  refine PySem.W.callWith_K (first := []) (h₀ := X.base) I.ok.mod.kin c.kp (thn (ha.run pos pins s2 σ H1 _ I2 q) fun us s3 ⟨vs, H2, I3, rv, q2⟩ => ⟨I3.kIn, ?_⟩) hst hpl
  exact run_sub (us := us) (vs := vs) (stack_of I3) F hr hb hx I3 rv q2
/-- the same in a try's body: the way out sees the slots -/
def tSMethW (C : Addr) (sp : Sp) (E : St → XK) (ta : TE) (t : TA) : TE := fun σ H Q => tSMeth C sp (E σ) ta t σ H Q
theorem pe_smethW {E : St → XK} (he : PE X o ta) (r : ClX.CRead X.K C mc) (c : SMet X.K C mc m p g) (F : FnOk X.prog X.w X.K X.mg X.base CX k g fd ps sp) (hr : Room k X.A) (hb : Binds X.K fd ps []) (hx : ∀ σ, PassesAt CX X σ (E σ)) (ha : PA X (e :: es) t)
    (hst : starEach (e :: es) X.env = (false, eval e X.env) :: starEach es X.env := by rfl) (hpl : (backTo pos (starEach es X.env)).any (·.1) = false := by rfl)
    (ht : eval (.Call (.Attribute o m apos) (e :: es) [] pos) X.env = (do
      let ov ← eval o X.env
      standAt apos.atName
      let (f, first) ← holding [ov] (getMethod ov m pl)
      callWith pos f first (backTo pos (starEach (e :: es) X.env)) (backToKw pos (keywordEach [] X.env))) := by rfl) :
    PE X (.Call (.Attribute o m apos) (e :: es) [] pos) (tSMethW C sp E ta t) := by
  refine ⟨fun pins s σ H Q I h => PySem.W.methodCall_KW (pl := pl) (thn (he.run pins s σ H _ I h) fun u s1 ⟨x, H1, I1, rx, ex, q⟩ => ?_) ht⟩
  subst ex
  obtain rfl : u = Value.ref C := rx
  refine getsm_ok I1 r c fun s2 I2 => ?_
  refine PySem.W.callWith_K (first := []) (h₀ := X.base) I.ok.mod.kin c.kp (thn (ha.run pos pins s2 σ H1 _ I2 q) fun us s3 ⟨vs, H2, I3, rv, q2⟩ => ⟨I3.kIn, ?_⟩) hst hpl
  exact run_fnSD (us := us) (vs := vs) F hr hb .nil (hx σ) I3 rv (by rw [List.append_nil]; exact q2)
end
end L2

namespace My
open PySem L2
abbrev PP : Program := PySem.Challenge.pw_weblocks_k07_way_texts
def topS (i : Nat) : Stmt := PySem.Challenge.pw_weblocks_k07_way_texts.main.body.getD i (.Pass ⟨0, 0, 0, 0⟩)
abbrev S_rank : Stmt := topS 9
abbrev S_Way_init : Stmt := inClass (topS 13) 1
abbrev S_Way_eq : Stmt := inClass (topS 13) 5
abbrev S_Way_str : Stmt := inClass (topS 13) 10
abbrev S_Way_read : Stmt := inClass (topS 13) 11
abbrev S_way_of : Stmt := topS 14
abbrev S__law_draws : Stmt := topS 16
abbrev S__law_take : Stmt := topS 17
abbrev S__law_same : Stmt := topS 18
abbrev S__law_adjusted : Stmt := topS 19
abbrev S__law_fields : Stmt := topS 20
abbrev S__law_words : Stmt := topS 21
abbrev S__law_form : Stmt := topS 22
abbrev S__law_due : Stmt := topS 23
abbrev S__law_changed : Stmt := topS 24
abbrev S__law_told : Stmt := topS 25
abbrev S_law : Stmt := topS 26
abbrev S_BadText_init : Stmt := inClass (topS 5) 0
theorem sc_rank : FnScope ["level", "place", "word"] ["level"] (defScope S_rank) := ⟨rfl, rfl, rfl, by decide +kernel, rfl, by decide +kernel, by decide +kernel⟩
theorem sc_Way_init : FnScope ["self", "held", "owned", "seen", "early", "by_held", "by_owned", "by_seen"] ["self", "held", "owned", "seen", "early"] (defScope S_Way_init) := ⟨rfl, rfl, rfl, by decide +kernel, rfl, by decide +kernel, by decide +kernel⟩
theorem sc_Way_eq : FnScope ["self", "other"] ["self", "other"] (defScope S_Way_eq) := ⟨rfl, rfl, rfl, by decide +kernel, rfl, by decide +kernel, by decide +kernel⟩
theorem sc_Way_str : FnScope ["self", "words"] ["self"] (defScope S_Way_str) := ⟨rfl, rfl, rfl, by decide +kernel, rfl, by decide +kernel, by decide +kernel⟩
theorem sc_Way_read : FnScope ["text"] ["text"] (defScope S_Way_read) := ⟨rfl, rfl, rfl, by decide +kernel, rfl, by decide +kernel, by decide +kernel⟩
theorem sc_way_of : FnScope ["words", "line", "early", "word"] ["words", "line"] (defScope S_way_of) := ⟨rfl, rfl, rfl, by decide +kernel, rfl, by decide +kernel, by decide +kernel⟩
theorem sc__law_draws : FnScope ["_law_script", "_law_draws_here", "_law_cell", "_law_rest", "_law_k", "_law_mixed"] ["_law_script"] (defScope S__law_draws) := ⟨rfl, rfl, rfl, by decide +kernel, rfl, by decide +kernel, by decide +kernel⟩
theorem sc__law_take : FnScope ["_law_draws_here", "_law_at", "_law_size"] ["_law_draws_here", "_law_at", "_law_size"] (defScope S__law_take) := ⟨rfl, rfl, rfl, by decide +kernel, rfl, by decide +kernel, by decide +kernel⟩
theorem sc__law_same : FnScope ["_law_actual", "_law_expected", "_law_k"] ["_law_actual", "_law_expected"] (defScope S__law_same) := ⟨rfl, rfl, rfl, by decide +kernel, rfl, by decide +kernel, by decide +kernel⟩
theorem sc__law_adjusted : FnScope ["_law_ranks", "_law_held", "_law_seen"] ["_law_ranks"] (defScope S__law_adjusted) := ⟨rfl, rfl, rfl, by decide +kernel, rfl, by decide +kernel, by decide +kernel⟩
theorem sc__law_fields : FnScope ["_law_way"] ["_law_way"] (defScope S__law_fields) := ⟨rfl, rfl, rfl, by decide +kernel, rfl, by decide +kernel, by decide +kernel⟩
theorem sc__law_words : FnScope ["_law_ranks", "_law_words_here"] ["_law_ranks"] (defScope S__law_words) := ⟨rfl, rfl, rfl, by decide +kernel, rfl, by decide +kernel, by decide +kernel⟩
theorem sc__law_form : FnScope ["_law_ranks", "_law_words_here", "_law_text"] ["_law_ranks"] (defScope S__law_form) := ⟨rfl, rfl, rfl, by decide +kernel, rfl, by decide +kernel, by decide +kernel⟩
theorem sc__law_due : FnScope ["_law_text", "_law_held", "_law_owned", "_law_seen", "_law_flag"] ["_law_text"] (defScope S__law_due) := ⟨rfl, rfl, rfl, by decide +kernel, rfl, by decide +kernel, by decide +kernel⟩
theorem sc__law_changed : FnScope ["_law_draws_here", "_law_at", "_law_text", "_law_words_here", "_law_change", "_law_place", "_law_other", "_law_menu", "_law_word"] ["_law_draws_here", "_law_at", "_law_text"] (defScope S__law_changed) := ⟨rfl, rfl, rfl, by decide +kernel, rfl, by decide +kernel, by decide +kernel⟩
theorem sc__law_told : FnScope ["_law_text", "_law_way", "e"] ["_law_text"] (defScope S__law_told) := ⟨rfl, rfl, rfl, by decide +kernel, rfl, by decide +kernel, by decide +kernel⟩
theorem sc_law : FnScope ["_law_script", "_law_draws_here", "_law_at", "_law_words_here", "_law_turn", "_law_ranks", "_law_way", "_law_told_here", "_law_text", "_law_changed_here"] ["_law_script"] (defScope S_law) := ⟨rfl, rfl, rfl, by decide +kernel, rfl, by decide +kernel, by decide +kernel⟩
structure Txt (K : PySem.W.Frag) (mg : Str → Option Value) where
  a_rank : Addr
  fd_rank : FuncData
  F_rank : Fun K "rank" "rank" S_rank a_rank fd_rank
  b_rank : Binds K fd_rank ["level"] []
  g_rank : mg "rank" = some (.ref a_rank)
  a_Way_init : Addr
  fd_Way_init : FuncData
  F_Way_init : FunD K "__init__" "Way.__init__" (defArgs S_Way_init) (defBody S_Way_init) (defScope S_Way_init) [.str "none", .str "none", .str "none"] [("early", .bl false)] a_Way_init fd_Way_init
  a_Way_eq : Addr
  fd_Way_eq : FuncData
  F_Way_eq : Fun K "__eq__" "Way.__eq__" S_Way_eq a_Way_eq fd_Way_eq
  b_Way_eq : Binds K fd_Way_eq ["self", "other"] []
  a_Way_str : Addr
  fd_Way_str : FuncData
  F_Way_str : Fun K "__str__" "Way.__str__" S_Way_str a_Way_str fd_Way_str
  b_Way_str : Binds K fd_Way_str ["self"] []
  a_Way_read : Addr
  fd_Way_read : FuncData
  F_Way_read : Fun K "read" "Way.read" S_Way_read a_Way_read fd_Way_read
  b_Way_read : Binds K fd_Way_read ["text"] []
  a_way_of : Addr
  fd_way_of : FuncData
  F_way_of : Fun K "way_of" "way_of" S_way_of a_way_of fd_way_of
  b_way_of : Binds K fd_way_of ["words", "line"] []
  g_way_of : mg "way_of" = some (.ref a_way_of)
  a__law_draws : Addr
  fd__law_draws : FuncData
  F__law_draws : Fun K "_law_draws" "_law_draws" S__law_draws a__law_draws fd__law_draws
  b__law_draws : Binds K fd__law_draws ["_law_script"] []
  g__law_draws : mg "_law_draws" = some (.ref a__law_draws)
  a__law_take : Addr
  fd__law_take : FuncData
  F__law_take : Fun K "_law_take" "_law_take" S__law_take a__law_take fd__law_take
  b__law_take : Binds K fd__law_take ["_law_draws_here", "_law_at", "_law_size"] []
  g__law_take : mg "_law_take" = some (.ref a__law_take)
  a__law_same : Addr
  fd__law_same : FuncData
  F__law_same : Fun K "_law_same" "_law_same" S__law_same a__law_same fd__law_same
  b__law_same : Binds K fd__law_same ["_law_actual", "_law_expected"] []
  g__law_same : mg "_law_same" = some (.ref a__law_same)
  a__law_adjusted : Addr
  fd__law_adjusted : FuncData
  F__law_adjusted : Fun K "_law_adjusted" "_law_adjusted" S__law_adjusted a__law_adjusted fd__law_adjusted
  b__law_adjusted : Binds K fd__law_adjusted ["_law_ranks"] []
  g__law_adjusted : mg "_law_adjusted" = some (.ref a__law_adjusted)
  a__law_fields : Addr
  fd__law_fields : FuncData
  F__law_fields : Fun K "_law_fields" "_law_fields" S__law_fields a__law_fields fd__law_fields
  b__law_fields : Binds K fd__law_fields ["_law_way"] []
  g__law_fields : mg "_law_fields" = some (.ref a__law_fields)
  a__law_words : Addr
  fd__law_words : FuncData
  F__law_words : Fun K "_law_words" "_law_words" S__law_words a__law_words fd__law_words
  b__law_words : Binds K fd__law_words ["_law_ranks"] []
  g__law_words : mg "_law_words" = some (.ref a__law_words)
  a__law_form : Addr
  fd__law_form : FuncData
  F__law_form : Fun K "_law_form" "_law_form" S__law_form a__law_form fd__law_form
  b__law_form : Binds K fd__law_form ["_law_ranks"] []
  g__law_form : mg "_law_form" = some (.ref a__law_form)
  a__law_due : Addr
  fd__law_due : FuncData
  F__law_due : Fun K "_law_due" "_law_due" S__law_due a__law_due fd__law_due
  b__law_due : Binds K fd__law_due ["_law_text"] []
  g__law_due : mg "_law_due" = some (.ref a__law_due)
  a__law_changed : Addr
  fd__law_changed : FuncData
  F__law_changed : Fun K "_law_changed" "_law_changed" S__law_changed a__law_changed fd__law_changed
  b__law_changed : Binds K fd__law_changed ["_law_draws_here", "_law_at", "_law_text"] []
  g__law_changed : mg "_law_changed" = some (.ref a__law_changed)
  a__law_told : Addr
  fd__law_told : FuncData
  F__law_told : Fun K "_law_told" "_law_told" S__law_told a__law_told fd__law_told
  b__law_told : Binds K fd__law_told ["_law_text"] []
  g__law_told : mg "_law_told" = some (.ref a__law_told)
  a_law : Addr
  fd_law : FuncData
  F_law : Fun K "law" "law" S_law a_law fd_law
  b_law : Binds K fd_law ["_law_script"] []
  g_law : mg "law" = some (.ref a_law)
  n_ValueError : mg "ValueError" = none
  n_bool : mg "bool" = none
  n_enumerate : mg "enumerate" = none
  n_int : mg "int" = none
  n_isinstance : mg "isinstance" = none
  n_len : mg "len" = none
  n_list : mg "list" = none
  n_range : mg "range" = none
  n_staticmethod : mg "staticmethod" = none
  n_str : mg "str" = none
  n_tuple : mg "tuple" = none
  k_LEVELS : Addr
  g_LEVELS : mg "LEVELS" = some (.ref k_LEVELS)
  q_LEVELS : ∀ H : Hp, SqT K H k_LEVELS [.str "none", .str "one", .str "most", .str "all"]
  c_Way : Addr
  g_Way : mg "Way" = some (.ref c_Way)
  cl_Way : Cls K c_Way
  mk_Way : Mk K c_Way a_Way_init
  m_Way_eq : Meth K c_Way "__eq__" a_Way_eq
  m_Way_str : Meth K c_Way "__str__" a_Way_str
  p_Way_read : Addr
  sm_Way_read : SMet K c_Way (.type "type") "read" p_Way_read a_Way_read
  cr_Way : ClX.CRead K c_Way (.type "type")
  ti_Way : ∀ (H : Hp) (a dx : Addr) (fs : List (Str × V)), H a = some (.ins c_Way dx fs) → TyOf K H (.ref a) (.ref c_Way)
  kk_Way : PySem.W.kitOne K (.ref c_Way) (.ref c_Way) = some true
  no_Way_held : NoAttr K c_Way "held"
  no_Way_owned : NoAttr K c_Way "owned"
  no_Way_seen : NoAttr K c_Way "seen"
  no_Way_early : NoAttr K c_Way "early"
  kb_Way_init_4_early : KBn K fd_Way_init ["self", "held", "owned", "seen", "early"] 4 ["early"] (fun us ws => us ++ ws) (fun vs zs => vs ++ zs)
  c_BadText : Addr
  g_BadText : mg "BadText" = some (.ref c_BadText)
  c_WebError : Addr
  g_WebError : mg "WebError" = some (.ref c_WebError)
  c_BadLevel : Addr
  g_BadLevel : mg "BadLevel" = some (.ref c_BadLevel)
  c_Refused : Addr
  g_Refused : mg "Refused" = some (.ref c_Refused)
  c_UnknownMark : Addr
  g_UnknownMark : mg "UnknownMark" = some (.ref c_UnknownMark)
  x_BadText : PySem.WX.ExcTxt PP K mg "BadText" "line" c_BadText
  xc_BadText : XC K c_BadText
  xn_BadText : PySem.W.findIn K (.ref c_BadText) "line" = some none
  em_BadText_WebError : PySem.W.exmOne K (.ref c_BadText) (.ref c_WebError) = some true
  kt_BadText_BadText : PySem.W.kitOne K (.ref c_BadText) (.ref c_BadText) = some true
  kt_BadText_Refused : PySem.W.kitOne K (.ref c_BadText) (.ref c_Refused) = some false
  kt_BadText_UnknownMark : PySem.W.kitOne K (.ref c_BadText) (.ref c_UnknownMark) = some false
  kt_BadText_BadLevel : PySem.W.kitOne K (.ref c_BadText) (.ref c_BadLevel) = some false
  kt_BadText_ValueError : PySem.W.kitOne K (.ref c_BadText) (.type "ValueError") = some true
end My
namespace My
open PySem L2
/-! ### heaps: all but a as it was -/
def But (a : Addr) (H H' : Hp) : Prop := ∀ b o, b ≠ a → H b = some o → H' b = some o
theorem But.refl (a : Addr) (H : Hp) : But a H H := fun _ _ _ h => h
theorem But.trans {a : Addr} {H H1 H2 : Hp} (x : But a H H1) (y : But a H1 H2) : But a H H2 := fun b o n h => y b o n (x b o n h)
theorem But.of_same {a : Addr} {H H' : Hp} (s : Same H H') : But a H H' := fun b o _ h => s b o h
theorem But.upd {a : Addr} {H : Hp} {o : HO} : But a H (upd H a o) := fun b u n h => by rw [upd_ne n]; exact h
theorem same_new {H : Hp} {p : Addr} {o : HO} (h : H p = none) : Same H (upd H p o) := fun b x e => by
  rw [upd_ne (ne_of_none e h)]; exact e
theorem But.new {a p : Addr} {H : Hp} {o : HO} (h : H p = none) : But a H (L2.upd H p o) := But.of_same (same_new h)
/-- an object that H does not know may change -/
theorem same_mut {H H' : Hp} {p : Addr} {o : HO} (e : Same H H') (h : H p = none) : Same H (upd H' p o) := fun a u ha => by
  rw [upd_ne (ne_of_none ha h)]; exact e a u ha
theorem But.mut {a p : Addr} {H H' : Hp} {o : HO} (e : But a H H') (h : H p = none) : But a H (L2.upd H' p o) := fun b u n hb => by
  rw [upd_ne (ne_of_none hb h)]; exact e b u n hb
theorem But.free {a p : Addr} {H H' : Hp} (e : But a H H') (n : p ≠ a) (h : H' p = none) : H p = none := by
  cases q : H p with
  | none => rfl
  | some o => rw [e p o n q] at h; cases h
theorem But.sqL {K : PySem.W.Frag} {a d : Addr} {H H' : Hp} {xs : List V} (e : But a H H') (n : d ≠ a) (h : SqL K H d xs) : SqL K H' d xs := by
  rcases h with (h | ⟨o, h⟩) | h
  · exact .inl (.inl (e _ _ n h))
  · exact .inl (.inr ⟨o, e _ _ n h⟩)
  · exact .inr h
theorem But.sqT {K : PySem.W.Frag} {a d : Addr} {H H' : Hp} {xs : List V} (e : But a H H') (n : d ≠ a) (h : SqT K H d xs) : SqT K H' d xs := by
  rcases h with (h | ⟨o, h⟩) | h
  · exact .inl (.inl (e _ _ n h))
  · exact .inl (.inr ⟨o, e _ _ n h⟩)
  · exact .inr h
theorem same_sqT {K : PySem.W.Frag} {d : Addr} {H H' : Hp} {xs : List V} (e : Same H H') (h : SqT K H d xs) : SqT K H' d xs := by
  rcases h with (h | ⟨o, h⟩) | h
  · exact .inl (.inl (e _ _ h))
  · exact .inl (.inr ⟨o, e _ _ h⟩)
  · exact .inr h
theorem same_make {H H5 : Hp} {x dx C : Addr} (nx : H x = none) (nd : H dx = none) (b : But x (L2.upd (L2.upd H dx (.own x)) x (.ins C dx [])) H5) : Same H H5 := fun y o h =>
  b y o (ne_of_none h nx) (by rw [upd_ne (ne_of_none h nx), upd_ne (ne_of_none h nd)]; exact h)
/-! ### tests -/
theorem iteD {c A B : Prop} [Decidable c] (h1 : c → A) (h2 : ¬ c → B) : if decide c = true then A else B := by
  by_cases h : c
  · rw [decide_eq_true h]; exact iteT (h1 h)
  · rw [decide_eq_false h]; exact iteF (h2 h)
theorem iteN {c A B : Prop} [Decidable c] (h1 : ¬ c → A) (h2 : c → B) : if (!decide c) = true then A else B := by
  by_cases h : c
  · rw [decide_eq_true h]; exact iteF (h2 h)
  · rw [decide_eq_false h]; exact iteT (h1 h)
theorem iteB {b : Bool} {A B : Prop} (h1 : b = true → A) (h2 : b = false → B) : if b = true then A else B := by
  cases b with
  | true => exact iteT (h1 rfl)
  | false => exact iteF (h2 rfl)
theorem iteYes {b : Bool} {A B : Prop} (h : b = true) (h1 : A) : if b = true then A else B := by rw [h]; exact iteT h1
theorem iteNo {b : Bool} {A B : Prop} (h : b = false) (h1 : B) : if b = true then A else B := by rw [h]; exact iteF h1
/-! ### lists -/
theorem ints_app (zs : List Int) (z : Int) : (zs.map V.int) ++ [V.int z] = (zs ++ [z]).map V.int := by rw [List.map_append]; rfl
theorem at_ok {xs : List V} {i : Int} (h0 : 0 ≤ i) (h1 : i < xs.length) : ∃ v, atI xs i = some v ∧ v ∈ xs := by
  obtain ⟨j, rfl⟩ := Int.eq_ofNat_of_zero_le h0
  have hj : j < xs.length := by omega
  exact ⟨xs[j], atI_nat (List.getElem?_eq_getElem hj), List.getElem_mem hj⟩
theorem get_int {ns : List Int} {i : Nat} {y : V} (h : (ns.map V.int)[i]? = some y) : ∃ z, ns[i]? = some z ∧ y = .int z := by
  rw [List.getElem?_map] at h
  cases e : ns[i]? with
  | none => rw [e] at h; cases h
  | some z => rw [e] at h; exact ⟨z, rfl, (Option.some.inj h).symm⟩
end My
namespace L2
open PySem
/-! ### rules whose reading names K itself (in a comprehension's block) -/
theorem ixLK {X : Cx} {K : PySem.W.Frag} (h : X.K = K) : IxR X (rIxL K) := h ▸ ix_list
theorem ixTK {X : Cx} {K : PySem.W.Frag} (h : X.K = K) : IxR X (rIxT K) := h ▸ ix_tup
theorem inK {X : Cx} {K : PySem.W.Frag} (h : X.K = K) : OpR X (compareOp .In) (rIn K false) := h ▸ op_in_seq
theorem ninK {X : Cx} {K : PySem.W.Frag} (h : X.K = K) : OpR X (compareOp .NotIn) (rIn K true) := h ▸ op_notIn_seq
theorem pe_fldK {X : Cx} {K : PySem.W.Frag} {e : Expr} {f : Str} {pos : Pos} {ta : TE} (h : X.K = K) (he : PE X e ta) (hb : attributeBase e f X.env (eval e X.env) = eval e X.env) : PE X (.Attribute e f pos) (tFld K ta f) := h ▸ pe_fld he hb
end L2

namespace My
open PySem L2
/-- the draws at d, the place at a -/
structure Dr (K : PySem.W.Frag) (H : Hp) (d a : Addr) : Prop where
  ds : ∃ ns : List Int, H d = some (.lst (ns.map V.int))
  pl : ∃ k : Nat, H a = some (.lst [.int k])
  ne : d ≠ a
theorem Dr.but {K : PySem.W.Frag} {H H' : Hp} {d a : Addr} (x : Dr K H d a) (e : But a H H') (pl : ∃ k : Nat, H' a = some (.lst [.int k])) : Dr K H' d a :=
  ⟨x.ds.elim fun ns h => ⟨ns, e _ _ x.ne h⟩, pl, x.ne⟩
theorem Dr.same {K : PySem.W.Frag} {H H' : Hp} {d a : Addr} (x : Dr K H d a) (e : Same H H') : Dr K H' d a :=
  x.but (But.of_same e) (x.pl.elim fun k h => ⟨k, e _ _ h⟩)
/-- another object is changed -/
theorem Dr.other {K : PySem.W.Frag} {H H' : Hp} {d a p : Addr} (x : Dr K H d a) (e : But p H H') (n1 : d ≠ p) (n2 : a ≠ p) : Dr K H' d a :=
  ⟨x.ds.elim fun ns h => ⟨ns, e _ _ n1 h⟩, x.pl.elim fun k h => ⟨k, e _ _ n2 h⟩, x.ne⟩
theorem Dr.nd {K : PySem.W.Frag} {H : Hp} {d a p : Addr} (x : Dr K H d a) (h : H p = none) : d ≠ p := ne_of_none x.ds.choose_spec h
theorem Dr.na {K : PySem.W.Frag} {H : Hp} {d a p : Addr} (x : Dr K H d a) (h : H p = none) : p ≠ a := (ne_of_none x.pl.choose_spec h).symm
def spTake (K : PySem.W.Frag) : Sp := fun vs H Q _ => ∃ (d a : Addr) (size : Int), vs = [.ref d, .ref a, .int size] ∧ Dr K H d a ∧ 0 < size ∧
  ∀ (r : Int) (H' : Hp), 0 ≤ r → r < size → Dr K H' d a → But a H H' → Q (.int r) H'
section
variable {P : Program} {w : World} {K : PySem.W.Frag} {mg : Str → Option Value} {base : Heap}
theorem ok__law_take (T : Txt K mg) : FnOk P w K mg base CX0 1 T.a__law_take T.fd__law_take ["_law_draws_here", "_law_at", "_law_size"] (spTake K) := by
  refine T.F__law_take.ok sc__law_take (fun vs H Q E h => ?_) (fun cdv A outer s H vs Q E hr h => ?_)
  · obtain ⟨d, a, size, rfl, _⟩ := h; rfl
  · obtain ⟨d, a, size, rfl, D, hs, q⟩ := h
    obtain ⟨ns, hd0⟩ := D.ds
    have hd : SqL K H d (ns.map V.int) := SqL.of hd0
    obtain ⟨k, hk⟩ := D.pl
    have hb : But a H (upd H a (.lst [.int (k + 1 : Nat)])) := But.upd
    have D' : Dr K (upd H a (.lst [.int (k + 1 : Nat)])) d a := D.but hb ⟨_, upd_same⟩
    have hd' := hb.sqL D.ne hd
    refine ⟨_, (pss_cons (ps_asg (pe_op op_add (pe_ix ix_list (pv 1) (pe_int) (fun _ _ => rfl)) (pe_int)) (pg_sub (pv 1) (pe_int) set_list))
      (pss_cons (ps_if (pt_cmpR op_gt (pe_ix ix_list (pv 1) (pe_int) (fun _ _ => rfl)) (pe_callB call_len_seq (by rfl) T.n_len (by decide +kernel) (pa_cons (pv 0) pa_nil)) (nomark _)) (pss_one (ps_ret (pe_int))) pss_nil)
      (pss_one (ps_ret (pe_op op_mod (pe_callTy call_int1 (by rfl) T.n_int (by decide +kernel) (pa_cons (pe_ix ix_list (pv 0) (pe_op op_sub (pe_ix ix_list (pv 1) (pe_int) (fun _ _ => rfl)) (pe_int)) (fun _ _ => rfl)) pa_nil)) (pv 2)))))), ?_⟩
    walk_at "rd"

    refine iteD (fun c => ?_) (fun c => ?_)
    · exact q 0 _ (Int.le_refl _) hs D' hb
    · rw [List.length_map] at c
      have hl : k < ns.length := by omega
      refine ⟨_, rfl, _, rfl, _, _, _, _, rfl, rfl, SqL.of upd_same, atI_nat (j := 0) rfl, _, _, rfl, rfl, _, _, _, _, rfl, rfl, hd', at_of (j := k) (by omega) (by rw [List.getElem?_map, List.getElem?_eq_getElem hl]; rfl), ?_⟩
      walk_at "rd"
      exact q _ _ (Int.emod_nonneg _ (by omega)) (Int.emod_lt_of_pos _ hs) D' hb
end
end My

namespace My
open PySem L2
def spDraws (K : PySem.W.Frag) : Sp := fun vs H Q _ => ∃ (a : Addr) (ns : List Int), vs = [.ref a] ∧ SqL K H a (ns.map V.int) ∧ ns.length ≤ 63 ∧
  ∀ (p : Addr) (zs : List Int) (H' : Hp), Same H H' → H p = none → H' p = some (.lst (zs.map V.int)) → Q (.ref p) H'
section
variable {P : Program} {w : World} {K : PySem.W.Frag} {mg : Str → Option Value} {base : Heap}
theorem ok__law_draws (T : Txt K mg) : FnOk P w K mg base CX0 1 T.a__law_draws T.fd__law_draws ["_law_script"] (spDraws K) := by
  refine T.F__law_draws.ok sc__law_draws (fun vs H Q E h => ?_) (fun cdv A outer s H vs Q E hr h => ?_)
  · obtain ⟨a, ns, rfl, _⟩ := h; rfl
  · obtain ⟨a, ns, rfl, hS, hlen, q⟩ := h
    refine ⟨_, (pss_cons (ps_set (i := 1) sc__law_draws.nd rfl (.inl rfl) (pe_lst pa_nil))
      (pss_cons (ps_for PassesOwn.never rfl (pi_list (pv 0)) (pg_name (i := 2) sc__law_draws.nd rfl (.inl rfl)) (pss_one (ps_if (pt_cmpR op_ge (pv 2) (pe_op op_pow (pe_int) (pe_int)) (nomark _)) (pss_cons (ps_set (i := 3) sc__law_draws.nd rfl (.inl rfl) (pe_callTy call_int1 (by rfl) T.n_int (by decide +kernel) (pa_cons (pv 2) pa_nil)))
      (pss_one (ps_for PassesOwn.never rfl (pi_range1 (by rfl) T.n_range (pa_cons (pe_int) pa_nil)) (pg_name (i := 4) sc__law_draws.nd rfl (.inl rfl)) (pss_one (ps_if (pt_cmpR op_gt (pv 3) (pe_int) (nomark _)) (pss_cons (ps_expr (pe_bm PySem.F.plainAttrs_list PySem.F.slot_list_append PySem.F.type_list_append mt_append (pv 1) (pa_cons (pe_op op_mod (pe_callTy call_int1 (by rfl) T.n_int (by decide +kernel) (pa_cons (pv 3) pa_nil)) (pe_int)) pa_nil)))
      (pss_one (ps_set (i := 3) sc__law_draws.nd rfl (.inl rfl) (pe_op op_fdiv (pv 3) (pe_int))))) pss_nil))))) (pss_cons (ps_set (i := 5) sc__law_draws.nd rfl (.inl rfl) (pe_op op_mod (pe_callTy call_int1 (by rfl) T.n_int (by decide +kernel) (pa_cons (pe_op op_add (pe_op op_mul (pv 2) (pe_int)) (pe_int)) pa_nil)) (pe_int)))
      (pss_cons (ps_expr (pe_bm PySem.F.plainAttrs_list PySem.F.slot_list_append PySem.F.type_list_append mt_append (pv 1) (pa_cons (pv 5) pa_nil)))
      (pss_one (ps_expr (pe_bm PySem.F.plainAttrs_list PySem.F.slot_list_append PySem.F.type_list_append mt_append (pv 1) (pa_cons (pe_op op_mod (pe_callTy call_int1 (by rfl) T.n_int (by decide +kernel) (pa_cons (pe_op op_add (pe_op op_add (pe_op op_mul (pv 5) (pv 5)) (pe_op op_mul (pe_int) (pv 5))) (pe_op op_mul (pe_int) (pe_callB call_len_seq (by rfl) T.n_len (by decide +kernel) (pa_cons (pv 1) pa_nil)))) pa_nil)) (pe_int)) pa_nil)))))))))
      (pss_one (ps_ret (pv 1))))), ?_⟩
    refine ⟨Nat.zero_le _, fun p hp => ?_⟩
    have s0 : Same H (upd H p (.lst [])) := same_new hp
    refine ⟨_, rfl, a, rfl, ⟨_, s0.seq hS⟩, for_list (K := K) (a := a) (xs := ns.map V.int) (fun i σ H' => ∃ (zs : List Int) (x2 x3 x4 x5 : Option V), σ = [some (.ref a), some (.ref p), x2, x3, x4, x5] ∧ Same H H' ∧ H' p = some (.lst (zs.map V.int)) ∧ zs.length ≤ 60 * i)
      ⟨[], _, _, _, _, rfl, s0, upd_same, Nat.zero_le _⟩ (fun i σ H' _ ⟨_, _, _, _, _, _, s1, _⟩ => s1.seq hS) ?_ ?_⟩
    · rintro i y σ H1 hi ⟨zs, x2, x3, x4, x5, rfl, s1, h1, hz⟩
      have hi63 : i < ns.length := by
        have z := (List.getElem?_eq_some_iff.mp hi).1
        rw [List.length_map] at z
        exact z
      obtain ⟨c, hc, rfl⟩ := get_int hi
      refine ⟨_, rfl, _, _, rfl, rfl, ⟨by decide, by decide, by decide⟩, ?_⟩
      walk_at "rd"
      refine iteD (fun c1 => ?_) (fun c1 => ?_)
      · refine ⟨_, rfl, .inl ⟨_, rfl, ?_⟩⟩
        refine ⟨60, rfl, by decide, by decide, for_range (lo := 0) (n := 60) (fun j σ H' => ∃ (zs : List Int) (r : Int) (x4 : Option V), σ = [some (.ref a), some (.ref p), some (.int c), some (.int r), x4, x5] ∧ Same H H' ∧ H' p = some (.lst (zs.map V.int)) ∧ zs.length ≤ 60 * i + j)
          ⟨zs, c, x4, rfl, s1, h1, hz⟩ ?_ ?_⟩
        · rintro j σ H2 hj ⟨zs, r, x4, rfl, s2, h2, hz2⟩
          walk_at "rd"
          refine iteD (fun c2 => ?_) (fun c2 => ?_)
          · refine ⟨_, rfl, .inl ⟨rfl, _, SqL.of h2⟩, _, rfl, .inl ⟨_, rfl, _, _, rfl, rfl, (by show (0 : Int) < 1000; decide), _, _, _, rfl, rfl, h2, by rw [List.length_map]; exact Nat.lt_of_le_of_lt (by omega : _ ≤ 100000) (by decide), ?_⟩⟩
            refine ⟨_, rfl, _, _, rfl, rfl, ⟨by decide, by decide⟩, ?_⟩
            exact ⟨zs ++ [r % 1000], _, _, rfl, same_mut s2 hp, by rw [upd_same, ints_app], by rw [List.length_append, List.length_singleton]; omega⟩
          · exact ⟨zs, r, _, rfl, s2, h2, by omega⟩
        · rintro σ H2 ⟨zs, r, x4, rfl, s2, h2, hz2⟩
          exact ⟨zs, _, _, _, _, rfl, s2, h2, by omega⟩
      · refine ⟨_, rfl, _, _, rfl, rfl, .inr ⟨by decide, by decide⟩, _, _, rfl, rfl, .inl ⟨_, rfl, _, _, rfl, rfl, (by show (0 : Int) < 9973; decide), ?_⟩⟩
        have hm0 : 0 ≤ (c * 48271 + 12345) % 9973 := Int.emod_nonneg _ (by decide)
        have hm1 : (c * 48271 + 12345) % 9973 < 9973 := Int.emod_lt_of_pos _ (by decide)
        refine ⟨_, rfl, .inl ⟨rfl, _, SqL.of h1⟩, _, rfl, _, _, _, rfl, rfl, h1, by rw [List.length_map]; exact Nat.lt_of_le_of_lt (by omega : _ ≤ 100000) (by decide), ?_⟩
        refine ⟨_, rfl, .inl ⟨rfl, _, SqL.of upd_same⟩, _, rfl, _, rfl, _, _, rfl, rfl, .inl ⟨by omega, by omega⟩, _, rfl, _, _, rfl, rfl, .inl ⟨by decide, by decide⟩, _, _, rfl, rfl, _, rfl, _, _, rfl, .inl (SqL.of upd_same), _, _, rfl, rfl, .inl ⟨by decide, by decide⟩, _, _, rfl, rfl, .inl ⟨_, rfl, _, _, rfl, rfl, (by show (0 : Int) < 9949; decide), ?_⟩⟩
        refine ⟨_, _, _, rfl, rfl, upd_same, by rw [List.length_append, List.length_map]; exact Nat.lt_of_le_of_lt (by simp; omega : _ ≤ 100000) (by decide), ?_⟩
        rw [ints_app, ints_app, upd_upd]
        exact ⟨_, _, _, _, _, rfl, same_mut s1 hp, upd_same, by simp; omega⟩
    · rintro σ H1 ⟨zs, x2, x3, x4, x5, rfl, s1, h1, hz⟩
      exact ⟨_, rfl, q p zs H1 s1 hp h1⟩
end
end My

namespace My
open PySem L2
/-! ### plain data -/
inductive Sc : V → PyData → Prop
  | non : Sc .non .none
  | bl (b : Bool) : Sc (.bl b) (.bool b)
  | int (i : Int) : Sc (.int i) (.int i)
  | str (z : Str) : Sc (.str z) (.str z)
/-- a list that stays where x alone is changed; a tuple likewise -/
def SL (K : PySem.W.Frag) (x : Addr) (H : Hp) (a : Addr) (xs : List V) : Prop := (a ≠ x ∧ SqL K H a xs) ∨ ∀ H', SqL K H' a xs
def SU (K : PySem.W.Frag) (x : Addr) (H : Hp) (a : Addr) (xs : List V) : Prop := (a ≠ x ∧ SqT K H a xs) ∨ ∀ H', SqT K H' a xs
section
variable {K : PySem.W.Frag} {x : Addr} {H H' : Hp} {a : Addr} {xs : List V}
theorem SL.sq (h : SL K x H a xs) : SqL K H a xs := by
  rcases h with h | h
  · exact h.2
  · exact h H
theorem SU.sq (h : SU K x H a xs) : SqT K H a xs := by
  rcases h with h | h
  · exact h.2
  · exact h H
theorem SL.but (h : SL K x H a xs) (e : But x H H') : SL K x H' a xs := by
  rcases h with ⟨n, h⟩ | h
  · exact .inl ⟨n, e.sqL n h⟩
  · exact .inr h
theorem SU.but (h : SU K x H a xs) (e : But x H H') : SU K x H' a xs := by
  rcases h with ⟨n, h⟩ | h
  · exact .inl ⟨n, e.sqT n h⟩
  · exact .inr h
theorem tyL (h : SqL K H a xs) : TyX K H (.ref a) (.type "list") := by
  rcases h with (h | ⟨o, h⟩) | ⟨o, its, n, h, c, _⟩
  · exact .base (.lst h)
  · exact .base (.frz h)
  · exact .kList h c
theorem tyT (h : SqT K H a xs) : TyX K H (.ref a) (.type "tuple") := by
  rcases h with (h | ⟨o, h⟩) | ⟨o, its, n, h, c, _⟩
  · exact .base (.tup h)
  · exact .fTuple h
  · exact .kTuple h c
end
/-- data of depth n at most -/
def Dn (K : PySem.W.Frag) (x : Addr) (H : Hp) : Nat → V → PyData → Prop
  | 0, v, d => Sc v d
  | n + 1, v, d => Sc v d ∨ (∃ a xs ds, v = .ref a ∧ d = .list ds ∧ SL K x H a xs ∧ xs.length ≤ 100000 ∧ Paired (Dn K x H n) xs ds) ∨ ∃ a xs ds, v = .ref a ∧ d = .tuple ds ∧ SU K x H a xs ∧ xs.length ≤ 100000 ∧ Paired (Dn K x H n) xs ds
theorem Dn.sc {K : PySem.W.Frag} {x : Addr} {H : Hp} {v : V} {d : PyData} (h : Sc v d) : ∀ n, Dn K x H n v d
  | 0 => h
  | _ + 1 => .inl h
theorem Dn.but {K : PySem.W.Frag} {x : Addr} {H H' : Hp} (e : But x H H') : ∀ {n : Nat} {v : V} {d : PyData}, Dn K x H n v d → Dn K x H' n v d
  | 0, _, _, h => h
  | n + 1, v, d, h => by
    rcases h with h | ⟨a, xs, ds, rfl, rfl, h, hz, p⟩ | ⟨a, xs, ds, rfl, rfl, h, hz, p⟩
    · exact .inl h
    · exact .inr (.inl ⟨a, xs, ds, rfl, rfl, h.but e, hz, L2.Paired.mapP p fun _ _ z => Dn.but e z⟩)
    · exact .inr (.inr ⟨a, xs, ds, rfl, rfl, h.but e, hz, L2.Paired.mapP p fun _ _ z => Dn.but e z⟩)
theorem Dn.lst {K : PySem.W.Frag} {x : Addr} {H : Hp} {n : Nat} {a : Addr} {xs : List V} {ds : List PyData} (ne : a ≠ x) (h : SqL K H a xs) (p : Paired (Dn K x H n) xs ds) (hz : xs.length ≤ 100000 := by simp) : Dn K x H (n + 1) (.ref a) (.list ds) :=
  .inr (.inl ⟨a, xs, ds, rfl, rfl, .inl ⟨ne, h⟩, hz, p⟩)
theorem Dn.tup {K : PySem.W.Frag} {x : Addr} {H : Hp} {n : Nat} {a : Addr} {xs : List V} {ds : List PyData} (ne : a ≠ x) (h : SqT K H a xs) (p : Paired (Dn K x H n) xs ds) (hz : xs.length ≤ 100000 := by simp) : Dn K x H (n + 1) (.ref a) (.tuple ds) :=
  .inr (.inr ⟨a, xs, ds, rfl, rfl, .inl ⟨ne, h⟩, hz, p⟩)
theorem Dn.int {K : PySem.W.Frag} {x : Addr} {H : Hp} (i : Int) {n : Nat} : Dn K x H n (.int i) (.int i) := Dn.sc (.int i) n
theorem Dn.str {K : PySem.W.Frag} {x : Addr} {H : Hp} (i : Str) {n : Nat} : Dn K x H n (.str i) (.str i) := Dn.sc (.str i) n
theorem Dn.bl {K : PySem.W.Frag} {x : Addr} {H : Hp} (i : Bool) {n : Nat} : Dn K x H n (.bl i) (.bool i) := Dn.sc (.bl i) n
theorem Dn.non {K : PySem.W.Frag} {x : Addr} {H : Hp} {n : Nat} : Dn K x H n .non .none := Dn.sc .non n
theorem Dn.up {K : PySem.W.Frag} {x : Addr} {H : Hp} : ∀ {n : Nat} {v : V} {d : PyData}, Dn K x H n v d → Dn K x H (n + 1) v d
  | 0, _, _, h => .inl h
  | n + 1, v, d, h => by
    rcases h with h | ⟨a, xs, ds, rfl, rfl, h, hz, p⟩ | ⟨a, xs, ds, rfl, rfl, h, hz, p⟩
    · exact .inl h
    · exact .inr (.inl ⟨a, xs, ds, rfl, rfl, h, hz, L2.Paired.mapP p fun _ _ z => Dn.up z⟩)
    · exact .inr (.inr ⟨a, xs, ds, rfl, rfl, h, hz, L2.Paired.mapP p fun _ _ z => Dn.up z⟩)
theorem pair_get {α β : Type} {F : α → β → Prop} : ∀ {l : List α} {m : List β} {i : Nat} {x : α}, Paired F l m → l[i]? = some x → ∃ y, m[i]? = some y ∧ F x y
  | _, _, _, _, .nil, e => by simp at e
  | _, _, 0, _, .cons r _, e => by simp at e; subst e; exact ⟨_, rfl, r⟩
  | _, _, i + 1, x, .cons _ t, e => by
    obtain ⟨y, h1, h2⟩ := pair_get (i := i) (x := x) t (by simpa using e)
    exact ⟨y, by simpa using h1, h2⟩
theorem pair_len {α β : Type} {F : α → β → Prop} : ∀ {l : List α} {m : List β}, Paired F l m → l.length = m.length
  | _, _, .nil => rfl
  | _, _, .cons _ t => by rw [List.length_cons, List.length_cons, pair_len t]
noncomputable def sameD (d e : PyData) : Bool := @decide (d = e) (Classical.propDecidable _)
theorem same_yes {d e : PyData} (h : d = e) : sameD d e = true := by unfold sameD; exact @decide_eq_true _ (Classical.propDecidable _) h
theorem same_no {d e : PyData} (h : d ≠ e) : sameD d e = false := by unfold sameD; exact @decide_eq_false _ (Classical.propDecidable _) h
theorem same_iff {d e : PyData} : sameD d e = true ↔ d = e := by
  constructor
  · intro h
    by_cases q : d = e
    · exact q
    · rw [same_no q] at h; cases h
  · exact same_yes
theorem same_of {p : Prop} [Decidable p] {d e : PyData} (h : d = e ↔ p) : sameD d e = decide p := by
  by_cases q : p
  · rw [decide_eq_true q, same_yes (h.mpr q)]
  · rw [decide_eq_false q, same_no (fun z => q (h.mp z))]
def spSame (K : PySem.W.Frag) (n : Nat) : Sp := fun vs H Q _ => ∃ (x : Addr) (v1 v2 : V) (d1 d2 : PyData), vs = [v1, v2] ∧ Dn K x H n v1 d1 ∧ Dn K x H n v2 d2 ∧ Q (.bl (sameD d1 d2)) H
end My
local macro_rules | `(tactic| walk_at "ty") => `(tactic| first | exact .base (.int _) | exact .base (.bl _) | exact .base .non | exact .base (.str _) | exact My.tyL (by assumption) | exact My.tyT (by assumption))
local macro_rules | `(tactic| walk_at "is") => `(tactic| first | refine ⟨_, _, _, _, true, rfl, L2.ClsV.ty _, (by walk_at "ty"), L2.kit_ty (by decide +kernel), ?_⟩ | refine ⟨_, _, _, _, false, rfl, L2.ClsV.ty _, (by walk_at "ty"), L2.kit_ty (by decide +kernel), ?_⟩)
local macro_rules | `(tactic| walk_at "ri") => `(tactic| repeat (first | walk_at "is" | refine ⟨_, rfl, ?_⟩ | refine ⟨rfl, ?_⟩))
namespace My
open PySem L2
theorem same_bl (a b : Bool) : sameD (.bool a) (.bool b) = decide (V.bl a = V.bl b) := same_of ⟨fun h => by cases h; rfl, fun h => by cases h; rfl⟩
theorem same_int (a b : Int) : sameD (.int a) (.int b) = decide (V.int a = V.int b) := same_of ⟨fun h => by cases h; rfl, fun h => by cases h; rfl⟩
theorem same_str (a b : Str) : sameD (.str a) (.str b) = decide (V.str a = V.str b) := same_of ⟨fun h => by cases h; rfl, fun h => by cases h; rfl⟩
theorem same_non : sameD .none .none = true := same_yes rfl
theorem same_lst (a b : List PyData) : sameD (.list a) (.list b) = true ↔ a = b := same_iff.trans ⟨fun h => by cases h; rfl, fun h => by cases h; rfl⟩
theorem same_tup (a b : List PyData) : sameD (.tuple a) (.tuple b) = true ↔ a = b := same_iff.trans ⟨fun h => by cases h; rfl, fun h => by cases h; rfl⟩
section
variable {P : Program} {w : World} {K : PySem.W.Frag} {mg : Str → Option Value} {base : Heap}
set_option maxHeartbeats 8000000 in
theorem ok__law_same (T : Txt K mg) : ∀ n, FnOk P w K mg base CX0 (n + 1) T.a__law_same T.fd__law_same ["_law_actual", "_law_expected"] (spSame K n)
  | 0 => by
    refine T.F__law_same.ok sc__law_same (fun vs H Q E h => ?_) (fun cdv A outer s H vs Q E hr h => ?_)
    · obtain ⟨x, v1, v2, d1, d2, rfl, _⟩ := h; rfl
    · obtain ⟨x, v1, v2, d1, d2, rfl, h1, h2, q⟩ := h
      refine ⟨_, (pss_cons (ps_if (PW.pt (pw_or (pt_val (pe_callB call_isi (by rfl) T.n_isinstance (by decide +kernel) (pa_cons (pv 0) (pa_cons (pe_bltn (v := .ty "bool") (by rfl) T.n_bool (by decide +kernel) rfl) pa_nil)))) (pw_or1 (pt_val (pe_callB call_isi (by rfl) T.n_isinstance (by decide +kernel) (pa_cons (pv 1) (pa_cons (pe_bltn (v := .ty "bool") (by rfl) T.n_bool (by decide +kernel) rfl) pa_nil))))))) (pss_one (ps_ret (pe_and (pe_callB call_isi (by rfl) T.n_isinstance (by decide +kernel) (pa_cons (pv 0) (pa_cons (pe_bltn (v := .ty "bool") (by rfl) T.n_bool (by decide +kernel) rfl) pa_nil))) (pe_and (pe_callB call_isi (by rfl) T.n_isinstance (by decide +kernel) (pa_cons (pv 1) (pa_cons (pe_bltn (v := .ty "bool") (by rfl) T.n_bool (by decide +kernel) rfl) pa_nil))) (pe_one (pe_cmpR op_eq (pv 0) (pv 1) (nomark _))))))) pss_nil)
      (pss_cons (ps_if (PW.pt (pw_or (pt_cmpR op_isN (pv 0) (pe_non) (nomark _)) (pw_or1 (pt_cmpR op_isN (pv 1) (pe_non) (nomark _))))) (pss_one (ps_ret (pe_and (pe_cmpR op_isN (pv 0) (pe_non) (nomark _)) (pe_one (pe_cmpR op_isN (pv 1) (pe_non) (nomark _)))))) pss_nil)
      (pss_cons (ps_if (pt_val (pe_callB call_isi (by rfl) T.n_isinstance (by decide +kernel) (pa_cons (pv 1) (pa_cons (pe_bltn (v := .ty "int") (by rfl) T.n_int (by decide +kernel) rfl) pa_nil)))) (pss_one (ps_ret (pe_and (pe_callB call_isi (by rfl) T.n_isinstance (by decide +kernel) (pa_cons (pv 0) (pa_cons (pe_bltn (v := .ty "int") (by rfl) T.n_int (by decide +kernel) rfl) pa_nil))) (pe_one (pe_cmpR op_eq (pv 0) (pv 1) (nomark _)))))) pss_nil)
      (pss_cons (ps_if (pt_val (pe_callB call_isi (by rfl) T.n_isinstance (by decide +kernel) (pa_cons (pv 1) (pa_cons (pe_bltn (v := .ty "str") (by rfl) T.n_str (by decide +kernel) rfl) pa_nil)))) (pss_one (ps_ret (pe_and (pe_callB call_isi (by rfl) T.n_isinstance (by decide +kernel) (pa_cons (pv 0) (pa_cons (pe_bltn (v := .ty "str") (by rfl) T.n_str (by decide +kernel) rfl) pa_nil))) (pe_one (pe_cmpR op_eq (pv 0) (pv 1) (nomark _)))))) pss_nil)
      (pss_cons (ps_if (PW.pt (pw_and (pt_val (pe_callB call_isi (by rfl) T.n_isinstance (by decide +kernel) (pa_cons (pv 1) (pa_cons (pe_bltn (v := .ty "tuple") (by rfl) T.n_tuple (by decide +kernel) rfl) pa_nil)))) (pw_and1 (pt_not (pt_val (pe_callB call_isi (by rfl) T.n_isinstance (by decide +kernel) (pa_cons (pv 0) (pa_cons (pe_bltn (v := .ty "tuple") (by rfl) T.n_tuple (by decide +kernel) rfl) pa_nil)))))))) (pss_one (ps_ret (pe_bl))) pss_nil)
      (pss_cons (ps_if (PW.pt (pw_and (pt_val (pe_callB call_isi (by rfl) T.n_isinstance (by decide +kernel) (pa_cons (pv 1) (pa_cons (pe_bltn (v := .ty "list") (by rfl) T.n_list (by decide +kernel) rfl) pa_nil)))) (pw_and1 (pt_not (pt_val (pe_callB call_isi (by rfl) T.n_isinstance (by decide +kernel) (pa_cons (pv 0) (pa_cons (pe_bltn (v := .ty "list") (by rfl) T.n_list (by decide +kernel) rfl) pa_nil)))))))) (pss_one (ps_ret (pe_bl))) pss_nil)
      (pss_cons (ps_if (pt_cmpR op_ne (pe_callB call_len_seq (by rfl) T.n_len (by decide +kernel) (pa_cons (pv 0) pa_nil)) (pe_callB call_len_seq (by rfl) T.n_len (by decide +kernel) (pa_cons (pv 1) pa_nil)) (nomark _)) (pss_one (ps_ret (pe_bl))) pss_nil)
      (pss_cons ps_never
      (pss_one (ps_ret (pe_bl))))))))))), ?_⟩
      cases h1 <;> cases h2
      all_goals walk_at "ri"
      all_goals first | (rw [same_no (by intro z; cases z)] at q; exact q) | (rw [same_bl] at q; exact q) | (rw [same_int] at q; exact q) | (rw [same_str] at q; exact q) | (rw [same_non] at q; exact q)
  | n + 1 => by
    refine T.F__law_same.ok sc__law_same (fun vs H Q E h => ?_) (fun cdv A outer s H vs Q E hr h => ?_)
    · obtain ⟨x, v1, v2, d1, d2, rfl, _⟩ := h; rfl
    · obtain ⟨x, v1, v2, d1, d2, rfl, h1, h2, q⟩ := h
      refine ⟨_, (pss_cons (ps_if (PW.pt (pw_or (pt_val (pe_callB call_isi (by rfl) T.n_isinstance (by decide +kernel) (pa_cons (pv 0) (pa_cons (pe_bltn (v := .ty "bool") (by rfl) T.n_bool (by decide +kernel) rfl) pa_nil)))) (pw_or1 (pt_val (pe_callB call_isi (by rfl) T.n_isinstance (by decide +kernel) (pa_cons (pv 1) (pa_cons (pe_bltn (v := .ty "bool") (by rfl) T.n_bool (by decide +kernel) rfl) pa_nil))))))) (pss_one (ps_ret (pe_and (pe_callB call_isi (by rfl) T.n_isinstance (by decide +kernel) (pa_cons (pv 0) (pa_cons (pe_bltn (v := .ty "bool") (by rfl) T.n_bool (by decide +kernel) rfl) pa_nil))) (pe_and (pe_callB call_isi (by rfl) T.n_isinstance (by decide +kernel) (pa_cons (pv 1) (pa_cons (pe_bltn (v := .ty "bool") (by rfl) T.n_bool (by decide +kernel) rfl) pa_nil))) (pe_one (pe_cmpR op_eq (pv 0) (pv 1) (nomark _))))))) pss_nil)
      (pss_cons (ps_if (PW.pt (pw_or (pt_cmpR op_isN (pv 0) (pe_non) (nomark _)) (pw_or1 (pt_cmpR op_isN (pv 1) (pe_non) (nomark _))))) (pss_one (ps_ret (pe_and (pe_cmpR op_isN (pv 0) (pe_non) (nomark _)) (pe_one (pe_cmpR op_isN (pv 1) (pe_non) (nomark _)))))) pss_nil)
      (pss_cons (ps_if (pt_val (pe_callB call_isi (by rfl) T.n_isinstance (by decide +kernel) (pa_cons (pv 1) (pa_cons (pe_bltn (v := .ty "int") (by rfl) T.n_int (by decide +kernel) rfl) pa_nil)))) (pss_one (ps_ret (pe_and (pe_callB call_isi (by rfl) T.n_isinstance (by decide +kernel) (pa_cons (pv 0) (pa_cons (pe_bltn (v := .ty "int") (by rfl) T.n_int (by decide +kernel) rfl) pa_nil))) (pe_one (pe_cmpR op_eq (pv 0) (pv 1) (nomark _)))))) pss_nil)
      (pss_cons (ps_if (pt_val (pe_callB call_isi (by rfl) T.n_isinstance (by decide +kernel) (pa_cons (pv 1) (pa_cons (pe_bltn (v := .ty "str") (by rfl) T.n_str (by decide +kernel) rfl) pa_nil)))) (pss_one (ps_ret (pe_and (pe_callB call_isi (by rfl) T.n_isinstance (by decide +kernel) (pa_cons (pv 0) (pa_cons (pe_bltn (v := .ty "str") (by rfl) T.n_str (by decide +kernel) rfl) pa_nil))) (pe_one (pe_cmpR op_eq (pv 0) (pv 1) (nomark _)))))) pss_nil)
      (pss_cons (ps_if (PW.pt (pw_and (pt_val (pe_callB call_isi (by rfl) T.n_isinstance (by decide +kernel) (pa_cons (pv 1) (pa_cons (pe_bltn (v := .ty "tuple") (by rfl) T.n_tuple (by decide +kernel) rfl) pa_nil)))) (pw_and1 (pt_not (pt_val (pe_callB call_isi (by rfl) T.n_isinstance (by decide +kernel) (pa_cons (pv 0) (pa_cons (pe_bltn (v := .ty "tuple") (by rfl) T.n_tuple (by decide +kernel) rfl) pa_nil)))))))) (pss_one (ps_ret (pe_bl))) pss_nil)
      (pss_cons (ps_if (PW.pt (pw_and (pt_val (pe_callB call_isi (by rfl) T.n_isinstance (by decide +kernel) (pa_cons (pv 1) (pa_cons (pe_bltn (v := .ty "list") (by rfl) T.n_list (by decide +kernel) rfl) pa_nil)))) (pw_and1 (pt_not (pt_val (pe_callB call_isi (by rfl) T.n_isinstance (by decide +kernel) (pa_cons (pv 0) (pa_cons (pe_bltn (v := .ty "list") (by rfl) T.n_list (by decide +kernel) rfl) pa_nil)))))))) (pss_one (ps_ret (pe_bl))) pss_nil)
      (pss_cons (ps_if (pt_cmpR op_ne (pe_callB call_len_seq (by rfl) T.n_len (by decide +kernel) (pa_cons (pv 0) pa_nil)) (pe_callB call_len_seq (by rfl) T.n_len (by decide +kernel) (pa_cons (pv 1) pa_nil)) (nomark _)) (pss_one (ps_ret (pe_bl))) pss_nil)
      (pss_cons (ps_for PassesOwn.never rfl (pi_range1 (by rfl) T.n_range (pa_cons (pe_callB call_len_seq (by rfl) T.n_len (by decide +kernel) (pa_cons (pv 1) pa_nil)) pa_nil)) (pg_name (i := 2) sc__law_same.nd rfl (.inl rfl)) (pss_one (ps_if (pt_not (pt_val (pe_call (ok__law_same T n) (hr.mono (by omega)) (by rfl) T.g__law_same T.F__law_same.kp T.b__law_same .nil pass0 (pa_cons (pe_ix ix_seq (pv 0) (pv 2) (fun _ _ => rfl)) (pa_cons (pe_ix ix_seq (pv 1) (pv 2) (fun _ _ => rfl)) pa_nil))))) (pss_one (ps_ret (pe_bl))) pss_nil)))
      (pss_one (ps_ret (pe_bl))))))))))), ?_⟩
      rcases h1 with h1 | ⟨a1, xs1, ds1, rfl, rfl, h1, z1, p1⟩ | ⟨a1, xs1, ds1, rfl, rfl, h1, z1, p1⟩ <;> rcases h2 with h2 | ⟨a2, xs2, ds2, rfl, rfl, h2, z2, p2⟩ | ⟨a2, xs2, ds2, rfl, rfl, h2, z2, p2⟩
      · cases h1 <;> cases h2
        all_goals walk_at "ri"
        all_goals first | (rw [same_no (by intro z; cases z)] at q; exact q) | (rw [same_bl] at q; exact q) | (rw [same_int] at q; exact q) | (rw [same_str] at q; exact q) | (rw [same_non] at q; exact q)
      · have t2 := h2.sq
        cases h1
        all_goals (walk_at "ri"; rw [same_no (by intro z; cases z)] at q; exact q)
      · have t2 := h2.sq
        cases h1
        all_goals (walk_at "ri"; rw [same_no (by intro z; cases z)] at q; exact q)
      · have t1 := h1.sq
        cases h2
        all_goals (walk_at "ri"; rw [same_no (by intro z; cases z)] at q; exact q)
      · have t1 := h1.sq
        have t2 := h2.sq
        walk_at "ri"
        refine ⟨_, _, rfl, .inl t1, _, rfl, _, _, rfl, .inl t2, rfl, _, rfl, ?_⟩
        have l1 := pair_len p1
        have l2 := pair_len p2
        refine iteN (fun c => ?_) (fun c => ?_)
        · rw [same_no (by intro z; cases z; exact c (by rw [l1, l2]))] at q; exact q
        have c' : xs1.length = xs2.length := by have := V.int.inj c; omega
        refine ⟨_, rfl, _, _, rfl, .inl t2, _, rfl, by omega, by omega, for_range (lo := 0) (n := _) (fun j σ H' => ∃ x2, σ = [some (.ref a1), some (.ref a2), x2] ∧ H' = H ∧ ds1.take j = ds2.take j) ⟨_, rfl, rfl, rfl⟩ ?_ ?_⟩
        · rintro j σ H1 hj ⟨x2, rfl, rfl, et⟩
          have j2 : j < xs2.length := by omega
          have j1 : j < xs1.length := by omega
          obtain ⟨e1, g1, r1⟩ := pair_get p1 (List.getElem?_eq_getElem j1)
          obtain ⟨e2, g2, r2⟩ := pair_get p2 (List.getElem?_eq_getElem j2)
          refine ⟨_, rfl, _, rfl, .inl ⟨_, _, _, _, rfl, rfl, t1, at_of (j := j) (by omega) (List.getElem?_eq_getElem j1), ?_⟩⟩
          refine ⟨_, rfl, _, rfl, .inl ⟨_, _, _, _, rfl, rfl, t2, at_of (j := j) (by omega) (List.getElem?_eq_getElem j2), ?_⟩⟩
          refine ⟨x, _, _, e1, e2, rfl, r1, r2, _, rfl, ?_⟩
          refine iteB (fun b => ?_) (fun b => ?_)
          · have ne : e1 ≠ e2 := fun h => by rw [same_yes h] at b; cases b
            rw [same_no (by intro z; cases z; rw [g1] at g2; exact ne (Option.some.inj g2))] at q; exact q
          · have ee : e1 = e2 := by
              apply same_iff.mp
              cases h : sameD e1 e2 with
              | true => rfl
              | false => rw [h] at b; cases b
            subst ee
            exact ⟨_, rfl, rfl, by rw [List.take_add_one, List.take_add_one, et, g1, g2]⟩
        · rintro σ H1 ⟨x2, rfl, rfl, et⟩
          have ed : ds1 = ds2 := by
            rw [List.take_of_length_le (by omega), List.take_of_length_le (by omega)] at et
            exact et
          subst ed
          rw [same_yes rfl] at q; exact q
      · have t1 := h1.sq
        have t2 := h2.sq
        walk_at "ri"
        rw [same_no (by intro z; cases z)] at q; exact q
      · have t1 := h1.sq
        cases h2
        all_goals (walk_at "ri"; rw [same_no (by intro z; cases z)] at q; exact q)
      · have t1 := h1.sq
        have t2 := h2.sq
        walk_at "ri"
        rw [same_no (by intro z; cases z)] at q; exact q
      · have t1 := h1.sq
        have t2 := h2.sq
        walk_at "ri"
        refine ⟨_, _, rfl, .inr t1, _, rfl, _, _, rfl, .inr t2, rfl, _, rfl, ?_⟩
        have l1 := pair_len p1
        have l2 := pair_len p2
        refine iteN (fun c => ?_) (fun c => ?_)
        · rw [same_no (by intro z; cases z; exact c (by rw [l1, l2]))] at q; exact q
        have c' : xs1.length = xs2.length := by have := V.int.inj c; omega
        refine ⟨_, rfl, _, _, rfl, .inr t2, _, rfl, by omega, by omega, for_range (lo := 0) (n := _) (fun j σ H' => ∃ x2, σ = [some (.ref a1), some (.ref a2), x2] ∧ H' = H ∧ ds1.take j = ds2.take j) ⟨_, rfl, rfl, rfl⟩ ?_ ?_⟩
        · rintro j σ H1 hj ⟨x2, rfl, rfl, et⟩
          have j2 : j < xs2.length := by omega
          have j1 : j < xs1.length := by omega
          obtain ⟨e1, g1, r1⟩ := pair_get p1 (List.getElem?_eq_getElem j1)
          obtain ⟨e2, g2, r2⟩ := pair_get p2 (List.getElem?_eq_getElem j2)
          refine ⟨_, rfl, _, rfl, .inr (.inl ⟨_, _, _, _, rfl, rfl, t1, at_of (j := j) (by omega) (List.getElem?_eq_getElem j1), ?_⟩)⟩
          refine ⟨_, rfl, _, rfl, .inr (.inl ⟨_, _, _, _, rfl, rfl, t2, at_of (j := j) (by omega) (List.getElem?_eq_getElem j2), ?_⟩)⟩
          refine ⟨x, _, _, e1, e2, rfl, r1, r2, _, rfl, ?_⟩
          refine iteB (fun b => ?_) (fun b => ?_)
          · have ne : e1 ≠ e2 := fun h => by rw [same_yes h] at b; cases b
            rw [same_no (by intro z; cases z; rw [g1] at g2; exact ne (Option.some.inj g2))] at q; exact q
          · have ee : e1 = e2 := by
              apply same_iff.mp
              cases h : sameD e1 e2 with
              | true => rfl
              | false => rw [h] at b; cases b
            subst ee
            exact ⟨_, rfl, rfl, by rw [List.take_add_one, List.take_add_one, et, g1, g2]⟩
        · rintro σ H1 ⟨x2, rfl, rfl, et⟩
          have ed : ds1 = ds2 := by
            rw [List.take_of_length_le (by omega), List.take_of_length_le (by omega)] at et
            exact et
          subst ed
          rw [same_yes rfl] at q; exact q
end
theorem nsame {d : PyData} : (!sameD d d) = false := by rw [same_yes rfl]; rfl
end My

namespace My
open PySem L2
/-! ### the levels -/
def lev : List Str := ["none", "one", "most", "all"]
def levV : List V := [.str "none", .str "one", .str "most", .str "all"]
theorem levV_eq : levV = lev.map V.str := rfl
theorem lev_nd : lev.Nodup := by decide +kernel
theorem lev_inj {i j : Nat} {z : Str} (h : lev[i]? = some z) (h' : lev[j]? = some z) : i = j := nd_ix lev_nd h h'
theorem lev_lt {i : Nat} {z : Str} (h : lev[i]? = some z) : i < 4 := (List.getElem?_eq_some_iff.mp h).1
/-- what level i asks of n parents -/
def need (i : Nat) (n : Int) : Int := if i = 0 then 0 else if i = 1 then 1 else if i = 2 then n / 2 + 1 else if n > 1 then n else 1
/-- the place of a word, or -1 -/
def placeOf (z : Str) : Int := if z = "none" then 0 else if z = "one" then 1 else if z = "most" then 2 else if z = "all" then 3 else -1
theorem place_lev {i : Nat} {z : Str} (h : lev[i]? = some z) : placeOf z = i := by
  have hi := lev_lt h
  rcases (by omega : i = 0 ∨ i = 1 ∨ i = 2 ∨ i = 3) with rfl | rfl | rfl | rfl
  all_goals (obtain rfl : _ = z := Option.some.inj h; decide +kernel)
theorem lev_at {i : Nat} (h : i < 4) : ∃ z, lev[i]? = some z := ⟨lev[i]'h, List.getElem?_eq_getElem h⟩
def permB (a b c : Nat) (e : Bool) (h o s n : Int) (l : Bool) : Bool := !(e && l) && (decide (need a n ≤ h) && (decide (need b n ≤ o) && decide (need c n ≤ s)))
end My

namespace My
open PySem L2
/-- rank of a level -/
def spRank : Sp := fun vs H Q _ => ∃ (z : Str) (i : Nat), vs = [.str z] ∧ lev[i]? = some z ∧ ∀ H', Same H H' → Q (.int i) H'
section
variable {P : Program} {w : World} {K : PySem.W.Frag} {mg : Str → Option Value} {base : Heap}
theorem ok_rank (T : Txt K mg) : FnOk P w K mg base CX0 1 T.a_rank T.fd_rank ["level"] spRank := by
  refine T.F_rank.ok sc_rank (fun vs H Q E h => ?_) (fun cdv A outer s H vs Q E hr h => ?_)
  · obtain ⟨z, i, rfl, _⟩ := h; rfl
  · obtain ⟨z, i, rfl, hi, q⟩ := h
    refine ⟨_, (pss_cons (ps_for PassesOwn.never rfl (pi_enumT (by rfl) T.n_enumerate (pa_cons (pe_glob (v := .ref T.k_LEVELS) (by rfl) T.g_LEVELS rfl) pa_nil)) (pg_tup rfl (pgs_cons (pg_name (i := 1) sc_rank.nd rfl (.inl rfl)) (pgs_cons (pg_name (i := 2) sc_rank.nd rfl (.inl rfl)) pgs_nil))) (pss_one (ps_if (pt_cmpR op_eq (pv 2) (pv 0) (nomark _)) (pss_one (ps_ret (pv 1))) pss_nil)))
      (pss_one (ps_never))), ?_⟩
    refine ⟨T.k_LEVELS, levV, rfl, T.q_LEVELS _, for_enumT (K := K) (a := T.k_LEVELS) (xs := levV) (fun j σ H' => ∃ x1 x2, σ = [some (.str z), x1, x2] ∧ Same H H' ∧ ∀ l, l < j → l ≠ i) ⟨_, _, rfl, Same.refl H, fun l h => absurd h (Nat.not_lt_zero _)⟩ (fun _ _ H' _ _ => T.q_LEVELS H') ?_ ?_⟩
    · rintro j x σ H1 t hx ⟨x1, x2, rfl, s1, ne⟩ ht
      rw [levV_eq, List.getElem?_map] at hx
      cases e : lev[j]? with
      | none => rw [e] at hx; cases hx
      | some y =>
        rw [e] at hx
        obtain rfl : V.str y = x := Option.some.inj hx
        have s2 : Same H1 (upd H1 t (.tup [.int j, .str y])) := same_new ht
        refine ⟨t, _, rfl, .inl (.inl upd_same), rfl, _, _, rfl, _, _, rfl, rfl, ?_⟩
        refine ⟨_, rfl, _, rfl, rfl, _, rfl, ?_⟩
        refine iteD (fun c => ?_) (fun c => ?_)
        · have ey : y = z := V.str.inj c
          subst ey
          obtain rfl := lev_inj e hi
          exact ⟨_, rfl, q _ (s1.trans s2)⟩
        · refine ⟨_, _, rfl, s1.trans s2, fun l hl => ?_⟩
          rcases Nat.lt_succ_iff_lt_or_eq.mp hl with h | h
          · exact ne l h
          · subst h
            exact fun h => c (by rw [← h, e] at hi; rw [Option.some.inj hi])
    · rintro σ H1 ⟨x1, x2, rfl, s1, ne⟩
      exact ne i (lev_lt hi) rfl
end
end My

namespace My
open PySem L2
/-! ### ways -/
def levn (i : Nat) : Str := lev.getD i ""
theorem levn_get {i : Nat} (h : i < 4) : lev[i]? = some (levn i) := by
  unfold levn
  rw [List.getD_eq_getElem?_getD, List.getElem?_eq_getElem (by exact h)]
  rfl
theorem levV_at {i : Nat} (h : i < 4) : levV[i]? = some (.str (levn i)) := by rw [levV_eq, List.getElem?_map, levn_get h]; rfl
theorem levn_inj {i j : Nat} (hi : i < 4) (hj : j < 4) (h : levn i = levn j) : i = j := lev_inj (levn_get hi) (h ▸ levn_get hj)
def wayF (a b c : Nat) (e : Bool) : List (Str × V) := [("held", .str (levn a)), ("owned", .str (levn b)), ("seen", .str (levn c)), ("early", .bl e)]
theorem putF_len (f : Str) (v : V) : ∀ fs : List (Str × V), (putF f v fs).length ≤ fs.length + 1
  | [] => Nat.le_refl _
  | (g, x) :: r => by
    simp only [putF]
    split
    · exact Nat.le_succ _
    · rw [List.length_cons, List.length_cons]
      exact Nat.succ_le_succ (putF_len f v r)
theorem wayF_put (a b c : Nat) (e : Bool) : putF "early" (.bl e) (putF "seen" (.str (levn c)) (putF "owned" (.str (levn b)) (putF "held" (.str (levn a)) []))) = wayF a b c e := by
  simp only [putF]
  rw [if_neg (by decide +kernel : ¬ ("held" : Str) = "owned")]
  simp only [putF]
  rw [if_neg (by decide +kernel : ¬ ("held" : Str) = "seen"), if_neg (by decide +kernel : ¬ ("owned" : Str) = "seen")]
  simp only [putF]
  rw [if_neg (by decide +kernel : ¬ ("held" : Str) = "early"), if_neg (by decide +kernel : ¬ ("owned" : Str) = "early"), if_neg (by decide +kernel : ¬ ("seen" : Str) = "early")]
  rfl
theorem wayF_held (a b c : Nat) (e : Bool) : (wayF a b c e).lookup ("held" : Str) = some (.str (levn a)) := by rw [← wayF_put, lookup_putF, if_neg (by decide +kernel), lookup_putF, if_neg (by decide +kernel), lookup_putF, if_neg (by decide +kernel), lookup_putF, if_pos rfl]
theorem wayF_owned (a b c : Nat) (e : Bool) : (wayF a b c e).lookup ("owned" : Str) = some (.str (levn b)) := by rw [← wayF_put, lookup_putF, if_neg (by decide +kernel), lookup_putF, if_neg (by decide +kernel), lookup_putF, if_pos rfl]
theorem wayF_seen (a b c : Nat) (e : Bool) : (wayF a b c e).lookup ("seen" : Str) = some (.str (levn c)) := by rw [← wayF_put, lookup_putF, if_neg (by decide +kernel), lookup_putF, if_pos rfl]
theorem wayF_early (a b c : Nat) (e : Bool) : (wayF a b c e).lookup ("early" : Str) = some (.bl e) := by rw [← wayF_put, lookup_putF, if_pos rfl]
theorem wayF_no (a b c : Nat) (e : Bool) {m : Str} (h1 : ¬ m = "early") (h2 : ¬ m = "seen") (h3 : ¬ m = "owned") (h4 : ¬ m = "held") : (wayF a b c e).lookup m = none := by
  rw [← wayF_put, lookup_putF, if_neg h1, lookup_putF, if_neg h2, lookup_putF, if_neg h3, lookup_putF, if_neg h4]; rfl
/-- a way of the class at C stands at x -/
def Wy (C : Addr) (H : Hp) (x : Addr) (a b c : Nat) (e : Bool) : Prop := ∃ dx, H x = some (.ins C dx (wayF a b c e))
theorem Wy.same {C : Addr} {H H' : Hp} {x : Addr} {a b c : Nat} {e : Bool} (h : Wy C H x a b c e) (s : Same H H') : Wy C H' x a b c e := h.elim fun dx h => ⟨dx, s _ _ h⟩
theorem Wy.but {C : Addr} {H H' : Hp} {x y : Addr} {a b c : Nat} {e : Bool} (h : Wy C H x a b c e) (s : But y H H') (n : x ≠ y) : Wy C H' x a b c e := h.elim fun dx h => ⟨dx, s _ _ n h⟩
def spWayInit (C : Addr) : Sp := fun vs H Q _ => ∃ (x dx : Addr) (a b c : Nat) (e : Bool), vs = [.ref x, .str (levn a), .str (levn b), .str (levn c), .bl e] ∧ a < 4 ∧ b < 4 ∧ c < 4 ∧ H x = some (.ins C dx []) ∧
  ∀ H', But x H H' → H' x = some (.ins C dx (wayF (max a b) b (max c (max a b)) e)) → Q .non H'
section
variable {P : Program} {w : World} {K : PySem.W.Frag} {mg : Str → Option Value} {base : Heap}
theorem ok_Way_init (T : Txt K mg) : FnOk P w K mg base CX0 2 T.a_Way_init T.fd_Way_init ["self", "held", "owned", "seen", "early"] (spWayInit T.c_Way) := by
  refine T.F_Way_init.ok0 sc_Way_init (fun vs H Q E h => ?_) (fun cdv A outer s H vs Q E hr h => ?_)
  · obtain ⟨x, dx, a, b, c, e, rfl, _⟩ := h; rfl
  · obtain ⟨x, dx, a, b, c, e, rfl, ha, hb, hc, hx, q⟩ := h
    refine ⟨_, (pss_cons (ps_set (i := 5) sc_Way_init.nd rfl (.inl rfl) (pe_call (ok_rank T) (hr.mono (by omega)) (by rfl) T.g_rank T.F_rank.kp T.b_rank .nil pass0 (pa_cons (pv 1) pa_nil)))
      (pss_cons (ps_set (i := 6) sc_Way_init.nd rfl (.inl rfl) (pe_call (ok_rank T) (hr.mono (by omega)) (by rfl) T.g_rank T.F_rank.kp T.b_rank .nil pass0 (pa_cons (pv 2) pa_nil)))
      (pss_cons (ps_set (i := 7) sc_Way_init.nd rfl (.inl rfl) (pe_call (ok_rank T) (hr.mono (by omega)) (by rfl) T.g_rank T.F_rank.kp T.b_rank .nil pass0 (pa_cons (pv 3) pa_nil)))
      (C8.pss_cut (ps_if (pt_cmpR op_lt (pv 5) (pv 6) (nomark _)) (pss_one (ps_set (i := 5) sc_Way_init.nd rfl (.inl rfl) (pv 6))) pss_nil)
      (C8.pss_cut (ps_if (pt_cmpR op_lt (pv 7) (pv 5) (nomark _)) (pss_one (ps_set (i := 7) sc_Way_init.nd rfl (.inl rfl) (pv 5))) pss_nil)
      (pss_cons (ps_fld (pv 0) (pe_ix ix_tup (pe_glob (v := .ref T.k_LEVELS) (by rfl) T.g_LEVELS rfl) (pv 5) (fun _ _ => rfl)) rfl)
      (pss_cons (ps_fld (pv 0) (pe_ix ix_tup (pe_glob (v := .ref T.k_LEVELS) (by rfl) T.g_LEVELS rfl) (pv 6) (fun _ _ => rfl)) rfl)
      (pss_cons (ps_fld (pv 0) (pe_ix ix_tup (pe_glob (v := .ref T.k_LEVELS) (by rfl) T.g_LEVELS rfl) (pv 7) (fun _ _ => rfl)) rfl)
      (pss_one (ps_fld (pv 0) (pv 4) rfl)))))))))), ?_⟩
    refine ⟨_, rfl, _, a, rfl, levn_get ha, fun H1 s1 => ?_⟩
    refine ⟨_, rfl, _, b, rfl, levn_get hb, fun H2 s2 => ?_⟩
    refine ⟨_, rfl, _, c, rfl, levn_get hc, fun H3 s3 => ?_⟩
    have sx : Same H H3 := (s1.trans s2).trans s3
    have hx3 := sx _ _ hx
    -- by_held
    refine ⟨fun σ' H' => H' = H3 ∧ σ' = [some (.ref x), some (.str (levn a)), some (.str (levn b)), some (.str (levn c)), some (.bl e), some (.int (max a b : Nat)), some (.int b), some (.int c)], ?_, ?_⟩
    · walk_at "rd"
      refine iteD (fun k => ?_) (fun k => ?_)
      · exact ⟨_, rfl, rfl, by rw [Nat.max_eq_right (by omega)]; try rfl⟩
      · exact ⟨rfl, by rw [Nat.max_eq_left (by omega)]; try rfl⟩
    rintro σ' H' ⟨rfl, rfl⟩
    refine ⟨fun σ' H'' => H'' = H' ∧ σ' = [some (.ref x), some (.str (levn a)), some (.str (levn b)), some (.str (levn c)), some (.bl e), some (.int (max a b : Nat)), some (.int b), some (.int (max c (max a b) : Nat))], ?_, ?_⟩
    · walk_at "rd"
      refine iteD (fun k => ?_) (fun k => ?_)
      · exact ⟨_, rfl, rfl, by rw [Nat.max_eq_right (by omega : c ≤ max a b)]; try rfl⟩
      · exact ⟨rfl, by rw [Nat.max_eq_left (by omega : max a b ≤ c)]; try rfl⟩
    rintro σ' H'' ⟨rfl, rfl⟩
    refine ⟨_, rfl, _, _, _, _, rfl, rfl, T.q_LEVELS _, at_of (j := max a b) rfl (levV_at (by omega)), _, rfl, x, T.c_Way, dx, _, rfl, hx3, T.cl_Way, T.no_Way_held, by show 0 < 1000; decide, ?_⟩
    refine ⟨_, rfl, _, _, _, _, rfl, rfl, T.q_LEVELS _, at_of (j := b) rfl (levV_at hb), _, rfl, x, T.c_Way, dx, _, rfl, upd_same, T.cl_Way, T.no_Way_owned, by show 1 < 1000; decide, ?_⟩
    refine ⟨_, rfl, _, _, _, _, rfl, rfl, T.q_LEVELS _, at_of (j := max c (max a b)) rfl (levV_at (by omega)), _, rfl, x, T.c_Way, dx, _, rfl, upd_same, T.cl_Way, T.no_Way_seen, ?_, ?_⟩
    · exact Nat.lt_of_le_of_lt (putF_len _ _ _) (by show 2 < 1000; decide)
    refine ⟨_, rfl, _, rfl, x, T.c_Way, dx, _, rfl, upd_same, T.cl_Way, T.no_Way_early, ?_, ?_⟩
    · exact Nat.lt_of_le_of_lt (putF_len _ _ _) (Nat.lt_of_le_of_lt (Nat.succ_le_succ (putF_len _ _ _)) (by show 3 < 1000; decide))
    rw [upd_upd, upd_upd, upd_upd, wayF_put]
    exact q _ (fun y o n h => by rw [upd_ne n]; exact sx _ _ h) upd_same
end
end My

namespace My
open PySem L2
def leB (a b c : Nat) (e : Bool) (a' b' c' : Nat) (e' : Bool) : Bool := !(e' && !e) && (decide (a' ≤ a) && (decide (b' ≤ b) && decide (c' ≤ c)))
def eqB (a b c : Nat) (e : Bool) (a' b' c' : Nat) (e' : Bool) : Bool := decide (a = a') && (decide (b = b') && (decide (c = c') && decide (e = e')))
/-- two ways compared by f -/
def spTwo (C : Addr) (f : Nat → Nat → Nat → Bool → Nat → Nat → Nat → Bool → Bool) : Sp := fun vs H Q _ => ∃ (x y : Addr) (a b c : Nat) (e : Bool) (a' b' c' : Nat) (e' : Bool), vs = [.ref x, .ref y] ∧ Wy C H x a b c e ∧ Wy C H y a' b' c' e' ∧
  a < 4 ∧ b < 4 ∧ c < 4 ∧ a' < 4 ∧ b' < 4 ∧ c' < 4 ∧ ∀ H', Same H H' → Q (.bl (f a b c e a' b' c' e')) H'
def spHigher : Sp := fun vs H Q _ => ∃ (a b : Nat), vs = [.str (levn a), .str (levn b)] ∧ a < 4 ∧ b < 4 ∧ ∀ H', Same H H' → Q (.str (levn (max a b))) H'
def spAnd (C : Addr) : Sp := fun vs H Q _ => ∃ (x y : Addr) (a b c : Nat) (e : Bool) (a' b' c' : Nat) (e' : Bool), vs = [.ref x, .ref y] ∧ Wy C H x a b c e ∧ Wy C H y a' b' c' e' ∧
  a < 4 ∧ b < 4 ∧ c < 4 ∧ a' < 4 ∧ b' < 4 ∧ c' < 4 ∧ ∀ z H', Same H H' → H z = none → Wy C H' z (max (max a a') (max b b')) (max b b') (max (max c c') (max (max a a') (max b b'))) (e || e') → Q (.ref z) H'
theorem dec_str {a b : Nat} (ha : a < 4) (hb : b < 4) : decide (V.str (levn a) = V.str (levn b)) = decide (a = b) := by
  by_cases h : a = b
  · rw [decide_eq_true h, decide_eq_true (by rw [h])]
  · rw [decide_eq_false h, decide_eq_false (fun z => h (levn_inj ha hb (V.str.inj z)))]
theorem dec_bl {a b : Bool} : decide (V.bl a = V.bl b) = decide (a = b) := by cases a <;> cases b <;> rfl
section
variable {P : Program} {w : World} {K : PySem.W.Frag} {mg : Str → Option Value} {base : Heap}
theorem ok_Way_eq (T : Txt K mg) : FnOk P w K mg base CX0 1 T.a_Way_eq T.fd_Way_eq ["self", "other"] (spTwo T.c_Way eqB) := by
  refine T.F_Way_eq.ok sc_Way_eq (fun vs H Q E h => ?_) (fun cdv A outer s H vs Q E hr h => ?_)
  · obtain ⟨x, y, a, b, c, e, a', b', c', e', rfl, _⟩ := h; rfl
  · obtain ⟨x, y, a, b, c, e, a', b', c', e', rfl, ⟨dx, hx⟩, ⟨dy, hy⟩, ha, hb, hc, ha', hb', hc', q⟩ := h
    have q1 := q H (Same.refl H)
    unfold eqB at q1
    refine ⟨_, (pss_one (ps_ret (pe_and (pe_callB call_isi (by rfl) T.n_isinstance (by decide +kernel) (pa_cons (pv 1) (pa_cons (pe_glob (v := .ref T.c_Way) (by rfl) T.g_Way rfl) pa_nil))) (pe_and (pe_cmpR op_eq (pe_fld (pv 0) rfl) (pe_fld (pv 1) rfl) (nomark _)) (pe_and (pe_cmpR op_eq (pe_fld (pv 0) rfl) (pe_fld (pv 1) rfl) (nomark _)) (pe_and (pe_cmpR op_eq (pe_fld (pv 0) rfl) (pe_fld (pv 1) rfl) (nomark _)) (pe_one (pe_cmpR op_eq (pe_fld (pv 0) rfl) (pe_fld (pv 1) rfl) (nomark _))))))))), ?_⟩
    refine ⟨_, rfl, _, _, _, _, true, rfl, ClsV.own _, .base (T.ti_Way _ _ _ _ hy), T.kk_Way, _, rfl, iteT ?_⟩
    refine ⟨_, rfl, x, _, dx, _, _, rfl, hx, T.cl_Way, T.no_Way_held, wayF_held _ _ _ _, _, rfl, y, _, dy, _, _, rfl, hy, T.cl_Way, T.no_Way_held, wayF_held _ _ _ _, rfl, _, rfl, ?_⟩
    rw [dec_str ha ha']
    refine iteD (fun k1 => ?_) (fun k1 => ?_)
    · rw [decide_eq_true k1] at q1
      refine ⟨_, rfl, x, _, dx, _, _, rfl, hx, T.cl_Way, T.no_Way_owned, wayF_owned _ _ _ _, _, rfl, y, _, dy, _, _, rfl, hy, T.cl_Way, T.no_Way_owned, wayF_owned _ _ _ _, rfl, _, rfl, ?_⟩
      rw [dec_str hb hb']
      refine iteD (fun k2 => ?_) (fun k2 => ?_)
      · rw [decide_eq_true k2] at q1
        refine ⟨_, rfl, x, _, dx, _, _, rfl, hx, T.cl_Way, T.no_Way_seen, wayF_seen _ _ _ _, _, rfl, y, _, dy, _, _, rfl, hy, T.cl_Way, T.no_Way_seen, wayF_seen _ _ _ _, rfl, _, rfl, ?_⟩
        rw [dec_str hc hc']
        refine iteD (fun k3 => ?_) (fun k3 => ?_)
        · rw [decide_eq_true k3] at q1
          refine ⟨_, rfl, x, _, dx, _, _, rfl, hx, T.cl_Way, T.no_Way_early, wayF_early _ _ _ _, _, rfl, y, _, dy, _, _, rfl, hy, T.cl_Way, T.no_Way_early, wayF_early _ _ _ _, rfl, ?_⟩
          rw [dec_bl]
          exact q1
        · rw [decide_eq_false k3] at q1; exact q1
      · rw [decide_eq_false k2] at q1; exact q1
    · rw [decide_eq_false k1] at q1; exact q1
end
end My

namespace My
open PySem L2
/-! ### the law's own ways: ranks and a flag in a list -/
abbrev LwO (a b c : Nat) (e : Bool) : HO := .lst [.int a, .int b, .int c, .bl e]
def Adj (a b c : Nat) : Prop := b ≤ a ∧ a ≤ c ∧ c < 4
def spAdj (K : PySem.W.Frag) : Sp := fun vs H Q _ => ∃ (p : Addr) (a b c : Nat) (e : Bool), vs = [.ref p] ∧ a < 4 ∧ b < 4 ∧ c < 4 ∧ SqL K H p [.int a, .int b, .int c, .bl e] ∧ ∀ r, H r = none → Q (.ref r) (upd H r (LwO (max a b) b (max c (max a b)) e))
def spFields (C : Addr) : Sp := fun vs H Q _ => ∃ (x : Addr) (a b c : Nat) (e : Bool), vs = [.ref x] ∧ Wy C H x a b c e ∧ ∀ r, H r = none → Q (.ref r) (upd H r (.lst [.str (levn a), .str (levn b), .str (levn c), .bl e]))
def spWords (K : PySem.W.Frag) : Sp := fun vs H Q _ => ∃ (p : Addr) (a b c : Nat) (e : Bool), vs = [.ref p] ∧ a < 4 ∧ b < 4 ∧ c < 4 ∧ SqL K H p [.int a, .int b, .int c, .bl e] ∧ ∀ r H', Same H H' → H r = none → H' r = some (.lst [.str (levn a), .str (levn b), .str (levn c), .bl e]) → Q (.ref r) H'
section
variable {P : Program} {w : World} {K : PySem.W.Frag} {mg : Str → Option Value} {base : Heap}
theorem ok__law_adjusted (T : Txt K mg) : FnOk P w K mg base CX0 1 T.a__law_adjusted T.fd__law_adjusted ["_law_ranks"] (spAdj K) := by
  refine T.F__law_adjusted.ok sc__law_adjusted (fun vs H Q E h => ?_) (fun cdv A outer s H vs Q E hr h => ?_)
  · obtain ⟨p, a, b, c, e, rfl, _⟩ := h; rfl
  · obtain ⟨p, a, b, c, e, rfl, ha, hb, hc, hp, q⟩ := h
    refine ⟨_, (pss_cons (ps_set (i := 1) sc__law_adjusted.nd rfl (.inl rfl) (pe_ix ix_list (pv 0) (pe_int) (fun _ _ => rfl)))
      (C8.pss_cut (ps_if (pt_cmpR op_lt (pv 1) (pe_ix ix_list (pv 0) (pe_int) (fun _ _ => rfl)) (nomark _)) (pss_one (ps_set (i := 1) sc__law_adjusted.nd rfl (.inl rfl) (pe_ix ix_list (pv 0) (pe_int) (fun _ _ => rfl)))) pss_nil)
      (pss_cons (ps_set (i := 2) sc__law_adjusted.nd rfl (.inl rfl) (pe_ix ix_list (pv 0) (pe_int) (fun _ _ => rfl)))
      (C8.pss_cut (ps_if (pt_cmpR op_lt (pv 2) (pv 1) (nomark _)) (pss_one (ps_set (i := 2) sc__law_adjusted.nd rfl (.inl rfl) (pv 1))) pss_nil)
      (pss_one (ps_ret (pe_lst (pa_cons (pv 1) (pa_cons (pe_ix ix_list (pv 0) (pe_int) (fun _ _ => rfl)) (pa_cons (pv 2) (pa_cons (pe_ix ix_list (pv 0) (pe_int) (fun _ _ => rfl)) pa_nil))))))))))), ?_⟩
    refine ⟨_, rfl, _, _, _, _, rfl, rfl, hp, at_of (j := 0) rfl rfl, ?_⟩
    refine ⟨fun σ' H' => H' = H ∧ σ' = [some (.ref p), some (.int (max a b : Nat)), none], ?_, ?_⟩
    · refine ⟨_, rfl, _, rfl, _, _, _, _, rfl, rfl, hp, at_of (j := 1) rfl rfl, _, _, rfl, rfl, _, rfl, iteD (fun k => ?_) (fun k => ?_)⟩
      · exact ⟨_, rfl, _, _, _, _, rfl, rfl, hp, at_of (j := 1) rfl rfl, rfl, by rw [Nat.max_eq_right (by omega)]; try rfl⟩
      · exact ⟨rfl, by rw [Nat.max_eq_left (by omega)]; try rfl⟩
    rintro σ' H' ⟨rfl, rfl⟩
    refine ⟨_, rfl, _, _, _, _, rfl, rfl, hp, at_of (j := 2) rfl rfl, ?_⟩
    refine ⟨fun σ' H'' => H'' = H' ∧ σ' = [some (.ref p), some (.int (max a b : Nat)), some (.int (max c (max a b) : Nat))], ?_, ?_⟩
    · refine ⟨_, rfl, _, rfl, _, _, rfl, rfl, _, rfl, iteD (fun k => ?_) (fun k => ?_)⟩
      · exact ⟨_, rfl, rfl, by rw [Nat.max_eq_right (by omega : c ≤ max a b)]; try rfl⟩
      · exact ⟨rfl, by rw [Nat.max_eq_left (by omega : max a b ≤ c)]; try rfl⟩
    rintro σ' H'' ⟨rfl, rfl⟩
    refine ⟨_, rfl, _, rfl, _, _, _, _, rfl, rfl, hp, at_of (j := 1) rfl rfl, _, rfl, _, rfl, _, _, _, _, rfl, rfl, hp, at_of (j := 3) rfl rfl, by show 4 ≤ sizeLine; decide, fun r hr => ?_⟩
    exact q r hr
theorem ok__law_fields (T : Txt K mg) : FnOk P w K mg base CX0 1 T.a__law_fields T.fd__law_fields ["_law_way"] (spFields T.c_Way) := by
  refine T.F__law_fields.ok sc__law_fields (fun vs H Q E h => ?_) (fun cdv A outer s H vs Q E hr h => ?_)
  · obtain ⟨p, a, b, c, e, rfl, _⟩ := h; rfl
  · obtain ⟨x, a, b, c, e, rfl, ⟨dx, hx⟩, q⟩ := h
    refine ⟨_, (pss_one (ps_ret (pe_lst (pa_cons (pe_fld (pv 0) rfl) (pa_cons (pe_fld (pv 0) rfl) (pa_cons (pe_fld (pv 0) rfl) (pa_cons (pe_fld (pv 0) rfl) pa_nil))))))), ?_⟩
    refine ⟨_, rfl, x, T.c_Way, dx, _, _, rfl, hx, T.cl_Way, T.no_Way_held, wayF_held _ _ _ _, _, rfl, x, T.c_Way, dx, _, _, rfl, hx, T.cl_Way, T.no_Way_owned, wayF_owned _ _ _ _, _, rfl, x, T.c_Way, dx, _, _, rfl, hx, T.cl_Way, T.no_Way_seen, wayF_seen _ _ _ _,
      _, rfl, x, T.c_Way, dx, _, _, rfl, hx, T.cl_Way, T.no_Way_early, wayF_early _ _ _ _, by show 4 ≤ sizeLine; decide, fun r hr => q r hr⟩
theorem ok__law_words (T : Txt K mg) : FnOk P w K mg base CX0 1 T.a__law_words T.fd__law_words ["_law_ranks"] (spWords K) := by
  refine T.F__law_words.ok sc__law_words (fun vs H Q E h => ?_) (fun cdv A outer s H vs Q E hr h => ?_)
  · obtain ⟨p, a, b, c, e, rfl, _⟩ := h; rfl
  · obtain ⟨p, a, b, c, e, rfl, ha, hb, hc, hp, q⟩ := h
    refine ⟨_, (pss_cons (ps_set (i := 1) sc__law_words.nd rfl (.inl rfl) (pe_lst (pa_cons (pe_str) (pa_cons (pe_str) (pa_cons (pe_str) (pa_cons (pe_str) pa_nil))))))
      (pss_one (ps_ret (pe_lst (pa_cons (pe_ix ix_list (pv 1) (pe_ix ix_list (pv 0) (pe_int) (fun _ _ => rfl)) (fun _ _ => rfl)) (pa_cons (pe_ix ix_list (pv 1) (pe_ix ix_list (pv 0) (pe_int) (fun _ _ => rfl)) (fun _ _ => rfl)) (pa_cons (pe_ix ix_list (pv 1) (pe_ix ix_list (pv 0) (pe_int) (fun _ _ => rfl)) (fun _ _ => rfl)) (pa_cons (pe_ix ix_list (pv 0) (pe_int) (fun _ _ => rfl)) pa_nil)))))))), ?_⟩
    refine ⟨by show 4 ≤ sizeLine; decide, fun pw hw => ?_⟩
    have s1 := same_new (o := .lst levV) hw
    have W1 : (upd H pw (.lst levV)) pw = some (.lst levV) := upd_same
    have hp1 := s1.seq hp
    refine ⟨_, rfl, _, rfl, _, _, _, _, rfl, rfl, hp1, at_of (j := 0) rfl rfl, _, _, _, _, rfl, rfl, SqL.of W1, at_of (j := a) rfl (levV_at ha), ?_⟩
    refine ⟨_, rfl, _, rfl, _, _, _, _, rfl, rfl, hp1, at_of (j := 1) rfl rfl, _, _, _, _, rfl, rfl, SqL.of W1, at_of (j := b) rfl (levV_at hb), ?_⟩
    refine ⟨_, rfl, _, rfl, _, _, _, _, rfl, rfl, hp1, at_of (j := 2) rfl rfl, _, _, _, _, rfl, rfl, SqL.of W1, at_of (j := c) rfl (levV_at hc), ?_⟩
    refine ⟨_, rfl, _, _, _, _, rfl, rfl, hp1, at_of (j := 3) rfl rfl, by show 4 ≤ sizeLine; decide, fun r hr => ?_⟩
    exact q r _ (s1.trans (same_new hr)) (s1.free hr) upd_same
end
end My

namespace My
open PySem L2
/-! ### texts of ways -/
def formS (a b c : Nat) (e : Bool) : Str := if e then ("held " : Str) ++ levn a ++ (" owned " : Str) ++ levn b ++ (" seen " : Str) ++ levn c ++ (" early" : Str) else ("held " : Str) ++ levn a ++ (" owned " : Str) ++ levn b ++ (" seen " : Str) ++ levn c
def wdsS (a b c : Nat) (e : Bool) : List Str := ([("held" : Str), levn a, ("owned" : Str), levn b, ("seen" : Str), levn c] : List Str) ++ (if e then [("early" : Str)] else [])
theorem join_form (a b c : Nat) (e : Bool) : Str.join " " (wdsS a b c e) = formS a b c e := by
  have h1 : TL.tl "held " = TL.tl "held" ++ TL.tl " " := by decide +kernel
  have h2 : TL.tl " owned " = TL.tl " " ++ (TL.tl "owned" ++ TL.tl " ") := by decide +kernel
  have h3 : TL.tl " seen " = TL.tl " " ++ (TL.tl "seen" ++ TL.tl " ") := by decide +kernel
  have h4 : TL.tl " early" = TL.tl " " ++ TL.tl "early" := by decide +kernel
  refine TL.ext_tl ?_
  rw [TL.tl_join]
  unfold wdsS formS
  cases e <;> simp only [if_true, if_false, Bool.false_eq_true, List.append_nil, List.cons_append, List.nil_append, List.map, TL.joinL, TL.tl_append, h1, h2, h3, h4, List.append_assoc]
theorem levn_free : ∀ a, a < 4 → 32 ∉ TL.tl (levn a) := by decide +kernel
theorem split_form (a : Nat) (ha : a < 4) (b : Nat) (hb : b < 4) (c : Nat) (hc : c < 4) (e : Bool) : Txt.split (formS a b c e) " " = wdsS a b c e := by
  rw [← join_form a b c e, ← TL.join_eq]
  refine TL.split_join (s := 32) (S := []) (by decide +kernel) (by decide +kernel) (by unfold wdsS; simp) fun p hp => ?_
  have k1 : 32 ∉ TL.tl "held" := by decide +kernel
  have k2 : 32 ∉ TL.tl "owned" := by decide +kernel
  have k3 : 32 ∉ TL.tl "seen" := by decide +kernel
  have k4 : 32 ∉ TL.tl "early" := by decide +kernel
  unfold wdsS at hp
  have hp : p = "held" ∨ p = levn a ∨ p = "owned" ∨ p = levn b ∨ p = "seen" ∨ p = levn c ∨ p = "early" := by
    revert hp; cases e <;> simp <;> intro hp <;> (try rcases hp with h | h | h | h | h | h | h) <;> (try rcases hp with h | h | h | h | h | h) <;> simp [*]
  rcases hp with rfl | rfl | rfl | rfl | rfl | rfl | rfl <;> first | assumption | exact levn_free _ ‹_›
theorem wds_sum : ∀ a, a < 4 → ∀ b, b < 4 → ∀ c, c < 4 → ∀ e, ((wdsS a b c e).map (·.length)).sum + (wdsS a b c e).length * (" " : Str).length ≤ 16777216 := by decide +kernel
theorem form_len : ∀ a, a < 4 → ∀ b, b < 4 → ∀ c, c < 4 → ∀ e, (formS a b c e).length ≤ 100 := by decide +kernel
theorem wds_inj {a b c a' b' c' : Nat} {e e' : Bool} (ha : a < 4) (hb : b < 4) (hc : c < 4) (ha' : a' < 4) (hb' : b' < 4) (hc' : c' < 4) (h : wdsS a b c e = wdsS a' b' c' e') : a = a' ∧ b = b' ∧ c = c' ∧ e = e' := by
  unfold wdsS at h
  have h := List.append_inj h rfl
  have h1 := h.1
  simp only [List.cons.injEq, and_true, true_and] at h1
  refine ⟨levn_inj ha ha' h1.1, levn_inj hb hb' h1.2.1, levn_inj hc hc' h1.2.2, ?_⟩
  have h2 := h.2
  cases e <;> cases e' <;> first | rfl | (exact absurd h2 (by simp))
def Fm (t : Str) (a b c : Nat) (e : Bool) : Prop := a < 4 ∧ b < 4 ∧ c < 4 ∧ t = formS a b c e
theorem Fm.inj {t : Str} {a b c a' b' c' : Nat} {e e' : Bool} (h : Fm t a b c e) (h' : Fm t a' b' c' e') : a = a' ∧ b = b' ∧ c = c' ∧ e = e' := by
  obtain ⟨h1, h2, h3, rfl⟩ := h
  obtain ⟨h4, h5, h6, h7⟩ := h'
  refine wds_inj h1 h2 h3 h4 h5 h6 ?_
  rw [← split_form a h1 b h2 c h3 e, ← split_form a' h4 b' h5 c' h6 e', h7]
theorem Fm.of_split {t : Str} {a b c : Nat} {e : Bool} (ha : a < 4) (hb : b < 4) (hc : c < 4) (h : Txt.split t " " = wdsS a b c e) : Fm t a b c e := by
  refine ⟨ha, hb, hc, ?_⟩
  rw [← join_form a b c e, ← h]
  exact (StrLaws.join_split t " ").symm
abbrev WdL (a b c : Nat) (e : Bool) : List V := [.str (levn a), .str (levn b), .str (levn c), .bl e]
open Classical in
noncomputable def toldV (t : Str) : List V := if h : ∃ x : Nat × Nat × Nat × Bool, Fm t x.1 x.2.1 x.2.2.1 x.2.2.2 then WdL (max h.choose.1 h.choose.2.1) h.choose.2.1 (max h.choose.2.2.1 (max h.choose.1 h.choose.2.1)) h.choose.2.2.2 else [.str "BadText", .int 1]
theorem toldV_yes {t : Str} {a b c : Nat} {e : Bool} (h : Fm t a b c e) : toldV t = WdL (max a b) b (max c (max a b)) e := by
  have hx : ∃ x : Nat × Nat × Nat × Bool, Fm t x.1 x.2.1 x.2.2.1 x.2.2.2 := ⟨(a, b, c, e), h⟩
  unfold toldV
  rw [dif_pos hx]
  obtain ⟨e1, e2, e3, e4⟩ := hx.choose_spec.inj h
  rw [e1, e2, e3, e4]
theorem toldV_no {t : Str} (h : ∀ a b c e, ¬ Fm t a b c e) : toldV t = [.str "BadText", .int 1] := by
  unfold toldV
  exact dif_neg fun ⟨x, hx⟩ => h _ _ _ _ hx
theorem inLev (u : Str) : inV (.str u) levV = true ↔ ∃ a, a < 4 ∧ u = levn a := by
  constructor
  · intro h
    unfold inV levV at h
    simp [eqV] at h
    rcases h with h | h | h | h
    · exact ⟨0, by decide, h.symm⟩
    · exact ⟨1, by decide, h.symm⟩
    · exact ⟨2, by decide, h.symm⟩
    · exact ⟨3, by decide, h.symm⟩
  · rintro ⟨a, ha, rfl⟩
    rcases (by omega : a = 0 ∨ a = 1 ∨ a = 2 ∨ a = 3) with rfl | rfl | rfl | rfl <;> decide +kernel
def spStr (C : Addr) : Sp := fun vs H Q _ => ∃ (x : Addr) (a b c : Nat) (e : Bool), vs = [.ref x] ∧ Wy C H x a b c e ∧ a < 4 ∧ b < 4 ∧ c < 4 ∧ ∀ H', Same H H' → Q (.str (formS a b c e)) H'
section
variable {P : Program} {w : World} {K : PySem.W.Frag} {mg : Str → Option Value} {base : Heap}
theorem ok_Way_str (T : Txt K mg) : FnOk P w K mg base CX0 1 T.a_Way_str T.fd_Way_str ["self"] (spStr T.c_Way) := by
  refine T.F_Way_str.ok sc_Way_str (fun vs H Q E h => ?_) (fun cdv A outer s H vs Q E hr h => ?_)
  · obtain ⟨x, a, b, c, e, rfl, _⟩ := h; rfl
  · obtain ⟨x, a, b, c, e, rfl, ⟨dx, hx⟩, ha, hb, hc, q⟩ := h
    refine ⟨_, (pss_cons (ps_set (i := 1) sc_Way_str.nd rfl (.inl rfl) (pe_lst (pa_cons (pe_str) (pa_cons (pe_fld (pv 0) rfl) (pa_cons (pe_str) (pa_cons (pe_fld (pv 0) rfl) (pa_cons (pe_str) (pa_cons (pe_fld (pv 0) rfl) pa_nil))))))))
      (pss_cons (ps_if (pt_val (pe_fld (pv 0) rfl)) (pss_one (ps_expr (pe_bm PySem.F.plainAttrs_list PySem.F.slot_list_append PySem.F.type_list_append mt_append (pv 1) (pa_cons (pe_str) pa_nil)))) pss_nil)
      (pss_one (ps_ret (pe_join (pe_str) (pv 1)))))), ?_⟩
    refine ⟨_, rfl, x, _, dx, _, _, rfl, hx, T.cl_Way, T.no_Way_held, wayF_held _ _ _ _, _, rfl, x, _, dx, _, _, rfl, hx, T.cl_Way, T.no_Way_owned, wayF_owned _ _ _ _, _, rfl, x, _, dx, _, _, rfl, hx, T.cl_Way, T.no_Way_seen, wayF_seen _ _ _ _, by show 6 ≤ sizeLine; decide, fun l hl => ?_⟩
    have s1 := same_new (o := .lst [.str "held", .str (levn a), .str "owned", .str (levn b), .str "seen", .str (levn c)]) hl
    have fl := form_len a ha b hb c hc
    refine ⟨_, rfl, x, _, dx, _, _, rfl, s1 _ _ hx, T.cl_Way, T.no_Way_early, wayF_early _ _ _ _, _, rfl, ?_⟩
    cases e with
    | true =>
      refine ⟨_, rfl, .inl ⟨rfl, _, SqL.of upd_same⟩, _, _, _, rfl, rfl, upd_same, by show 6 < sizeLine; decide, ?_⟩
      rw [upd_upd]
      refine ⟨⟨_, rfl⟩, _, rfl, _, _, wdsS a b c true, rfl, rfl, .inl (SqL.of upd_same), wds_sum _ ha _ hb _ hc _, ?_⟩
      rw [TL.join_eq, join_form]
      exact q _ (same_new hl)
    | false =>
      refine ⟨⟨_, rfl⟩, _, rfl, _, _, wdsS a b c false, rfl, rfl, .inl (SqL.of upd_same), wds_sum _ ha _ hb _ hc _, ?_⟩
      rw [TL.join_eq, join_form]
      exact q _ s1
end
end My

namespace My
open PySem L2
def isWds (ws : List Str) : Prop := ∃ a b c e, a < 4 ∧ b < 4 ∧ c < 4 ∧ ws = wdsS a b c e
def spWayOf (C X : Addr) : Sp := fun vs H Q E => ∃ (p : Addr) (ws : List Str) (n : Int), vs = [.ref p, .int n] ∧ H p = some (.lst (ws.map V.str)) ∧ ws.length ≤ 100000 ∧
  (∀ a b c e, a < 4 → b < 4 → c < 4 → ws = wdsS a b c e → ∀ x H', Same H H' → H x = none → Wy C H' x (max a b) b (max c (max a b)) e → Q (.ref x) H') ∧
  (¬ isWds ws → ∀ H' d, Same H H' → H d = none → H' d = some (.xd [("line", .int n)]) → E (.ref X) (some d) H')
theorem six {ws : List Str} (h : ws.length = 6) : ∃ w0 w1 w2 w3 w4 w5 : Str, ws = [w0, w1, w2, w3, w4, w5] := by
  match ws, h with
  | [w0, w1, w2, w3, w4, w5], _ => exact ⟨_, _, _, _, _, _, rfl⟩
theorem seven {ws : List Str} (h : ws.length = 7) : ∃ w0 w1 w2 w3 w4 w5 w6, ws = [w0, w1, w2, w3, w4, w5, w6] := by
  match ws, h with
  | [w0, w1, w2, w3, w4, w5, w6], _ => exact ⟨_, _, _, _, _, _, _, rfl⟩
def spRead (C X : Addr) : Sp := fun vs H Q E => ∃ (t : Str), vs = [.str t] ∧ t.length ≤ 90000 ∧
  (∀ a b c e, Fm t a b c e → ∀ x H', Same H H' → H x = none → Wy C H' x (max a b) b (max c (max a b)) e → Q (.ref x) H') ∧
  ((∀ a b c e, ¬ Fm t a b c e) → ∀ H' d, Same H H' → H d = none → H' d = some (.xd [("line", .int 1)]) → E (.ref X) (some d) H')
def tlE (e : Bool) : List Str := if e then [("early" : Str)] else []
theorem not_len {ws : List Str} (h6 : ws.length ≠ 6) (h7 : ¬ (ws.length = 7 ∧ ws[6]? = some ("early" : Str))) : ¬ isWds ws := by
  rintro ⟨a, b, c, e, _, _, _, rfl⟩
  cases e with
  | true => exact h7 ⟨rfl, rfl⟩
  | false => exact h6 rfl
section
variable {w : World} {K : PySem.W.Frag} {mg : Str → Option Value} {base : Heap}
theorem ok_way_of (T : Txt K mg) : FnOk PP w K mg base (L2.CX PP w) 4 T.a_way_of T.fd_way_of ["words", "line"] (spWayOf T.c_Way T.c_BadText) := by
  refine T.F_way_of.okX sc_way_of (fun vs H Q E h => ?_) (fun cdv A outer s H vs Q E hr h => ?_)
  · obtain ⟨p, ws, n, rfl, _⟩ := h; rfl
  · obtain ⟨p, ws, n, rfl, hp, lw, hy, hn⟩ := h
    refine ⟨_, (C8.pss_cut (ps_set (i := 2) sc_way_of.nd rfl (.inl rfl) (pe_and (pe_cmpR op_eq (pe_callB call_len_seq (by rfl) T.n_len (by decide +kernel) (pa_cons (pv 0) pa_nil)) (pe_int) (nomark _)) (pe_one (pe_cmpR op_eq (pe_ix ix_list (pv 0) (pe_int) (fun _ _ => rfl)) (pe_str) (nomark _)))))
      (C8.pss_cut (ps_if (PW.pt (pw_and (pt_cmpR op_ne (pe_callB call_len_seq (by rfl) T.n_len (by decide +kernel) (pa_cons (pv 0) pa_nil)) (pe_int) (nomark _)) (pw_and1 (pt_not (pt_val (pv 2)))))) (pss_one (ps_raiseX rfl T.x_BadText hr (takes_of rfl rfl rfl rfl) (pa_cons (pv 1) pa_nil))) pss_nil)
      (pss_cons (ps_if (PW.pt (pw_or (pt_cmpR op_ne (pe_ix ix_list (pv 0) (pe_int) (fun _ _ => rfl)) (pe_str) (nomark _)) (pw_or (pt_cmpR op_ne (pe_ix ix_list (pv 0) (pe_int) (fun _ _ => rfl)) (pe_str) (nomark _)) (pw_or1 (pt_cmpR op_ne (pe_ix ix_list (pv 0) (pe_int) (fun _ _ => rfl)) (pe_str) (nomark _)))))) (pss_one (ps_raiseX rfl T.x_BadText hr (takes_of rfl rfl rfl rfl) (pa_cons (pv 1) pa_nil))) pss_nil)
      (pss_cons (ps_for (passes_of rfl) rfl (pi_tup (pe_tup (pa_cons (pe_ix ix_list (pv 0) (pe_int) (fun _ _ => rfl)) (pa_cons (pe_ix ix_list (pv 0) (pe_int) (fun _ _ => rfl)) (pa_cons (pe_ix ix_list (pv 0) (pe_int) (fun _ _ => rfl)) pa_nil))))) (pg_name (i := 3) sc_way_of.nd rfl (.inl rfl)) (pss_one (ps_if (pt_cmpR op_notIn_seq (pv 3) (pe_glob (v := .ref T.k_LEVELS) (by rfl) T.g_LEVELS rfl) (by with_unfolding_all rfl)) (pss_one (ps_raiseX rfl T.x_BadText hr (takes_of rfl rfl rfl rfl) (pa_cons (pv 1) pa_nil))) pss_nil)))
      (pss_one (ps_ret (pe_makeN T.mk_Way (ok_Way_init T) (hr.mono (by omega)) (by rfl) T.g_Way T.kb_Way_init_4_early pass0 (pa_cons (pe_ix ix_list (pv 0) (pe_int) (fun _ _ => rfl)) (pa_cons (pe_ix ix_list (pv 0) (pe_int) (fun _ _ => rfl)) (pa_cons (pe_ix ix_list (pv 0) (pe_int) (fun _ _ => rfl)) pa_nil))) (pk_cons (pv 2) pk_nil)))))))), ?_⟩
    have bad : ¬ isWds ws → ∀ H', Same H H' → ∀ d, H' d = none → E (.ref T.c_BadText) (some d) (upd H' d (.xd [("line", .int n)])) := fun h H' s' d hd => hn h _ d (s'.trans (same_new hd)) (s'.free hd) upd_same
    obtain ⟨e, he⟩ : ∃ e : Bool, (e = true ↔ (ws.length = 7 ∧ ws[6]? = some ("early" : Str))) := ⟨decide (ws.length = 7 ∧ ws[6]? = some ("early" : Str)), by simp⟩
    refine ⟨fun σ' H' => H' = H ∧ σ' = [some (.ref p), some (.int n), some (.bl e), none], ?_, ?_⟩
    · refine ⟨_, rfl, p, _, rfl, .inl (SqL.of hp), rfl, _, rfl, iteD (fun k => ?_) (fun k => ?_)⟩
      · have k7 : ws.length = 7 := by have z := V.int.inj k; rw [List.length_map] at z; omega
        obtain ⟨w0, w1, w2, w3, w4, w5, w6, rfl⟩ := seven k7
        refine ⟨_, rfl, p, _, _, _, rfl, rfl, SqL.of hp, at_of (j := 6) rfl rfl, rfl, rfl, ?_⟩
        have ee : decide (V.str w6 = V.str "early") = e := by
          rw [Bool.eq_iff_iff, he, decide_eq_true_iff]
          constructor
          · intro z; exact ⟨rfl, by rw [V.str.inj z]; rfl⟩
          · rintro ⟨_, z⟩; have z : some w6 = some ("early" : Str) := z; rw [Option.some.inj z]
        subst ee
        rfl
      · have k7 : ¬ ws.length = 7 := fun z => k (by rw [List.length_map, z]; rfl)
        have ee : e = false := by cases e with | false => rfl | true => exact absurd (he.mp rfl).1 k7
        rw [ee]
        exact ⟨rfl, rfl⟩
    rintro σ' H' ⟨rfl, rfl⟩
    refine ⟨fun σ' H1 => H1 = H' ∧ σ' = [some (.ref p), some (.int n), some (.bl e), none] ∧ ∃ w0 w1 w2 w3 w4 w5, ws = [w0, w1, w2, w3, w4, w5] ++ tlE e, ?_, ?_⟩
    · refine ⟨_, rfl, p, _, rfl, .inl (SqL.of hp), rfl, _, rfl, ?_⟩
      by_cases k : ws.length = 6
      · obtain ⟨w0, w1, w2, w3, w4, w5, rfl⟩ := six k
        refine iteNo rfl (iteF ⟨rfl, rfl, w0, w1, w2, w3, w4, w5, ?_⟩)
        cases e with
        | false => rfl
        | true => exact absurd (he.mp rfl).1 (by simp)
      · refine iteYes (by rw [List.length_map]; simp; omega) ⟨_, rfl, _, rfl, ?_⟩
        cases e with
        | true =>
          obtain ⟨k7, k8⟩ := he.mp rfl
          obtain ⟨w0, w1, w2, w3, w4, w5, w6, rfl⟩ := seven k7
          have k8 : some w6 = some ("early" : Str) := k8
          exact iteF ⟨rfl, rfl, w0, w1, w2, w3, w4, w5, by rw [Option.some.inj k8]; rfl⟩
        | false =>
          refine iteT ⟨_, rfl, _, rfl, fun d hd => bad (not_len k (fun z => by have := he.mpr z; simp at this)) _ (Same.refl _) d hd⟩
    rintro σ' H1 ⟨rfl, rfl, w0, w1, w2, w3, w4, w5, ew⟩
    have g : ∀ (i : Nat) (u : Str), [w0, w1, w2, w3, w4, w5][i]? = some u → atI (ws.map V.str) (i : Int) = some (.str u) := fun i u h => at_of rfl (by
      rw [List.getElem?_map, ew, List.getElem?_append_left (List.getElem?_eq_some_iff.mp h).1, h]; rfl)
    have nt : ∀ {a b c f}, a < 4 → b < 4 → c < 4 → ws = wdsS a b c f → w0 = "held" ∧ w1 = levn a ∧ w2 = "owned" ∧ w3 = levn b ∧ w4 = "seen" ∧ w5 = levn c := fun {a b c f} _ _ _ h => by
      rw [ew] at h
      unfold wdsS at h
      have h1 := (List.append_inj h rfl).1
      simpa using h1
    refine ⟨_, rfl, p, _, _, _, rfl, rfl, SqL.of hp, g 0 _ rfl, rfl, _, rfl, ?_⟩
    by_cases q0 : w0 = "held"
    rotate_left
    · refine iteYes (by simp [q0]) ⟨_, rfl, _, rfl, fun d hd => bad (fun ⟨a, b, c, f, h1, h2, h3, h⟩ => q0 (nt h1 h2 h3 h).1) _ (Same.refl _) d hd⟩
    refine iteNo (by simp [q0]) ⟨_, rfl, p, _, _, _, rfl, rfl, SqL.of hp, g 2 _ rfl, rfl, _, rfl, ?_⟩
    by_cases q2 : w2 = "owned"
    rotate_left
    · refine iteYes (by simp [q2]) ⟨_, rfl, _, rfl, fun d hd => bad (fun ⟨a, b, c, f, h1, h2, h3, h⟩ => q2 (nt h1 h2 h3 h).2.2.1) _ (Same.refl _) d hd⟩
    refine iteNo (by simp [q2]) ⟨_, rfl, p, _, _, _, rfl, rfl, SqL.of hp, g 4 _ rfl, rfl, _, rfl, ?_⟩
    by_cases q4 : w4 = "seen"
    rotate_left
    · refine iteYes (by simp [q4]) ⟨_, rfl, _, rfl, fun d hd => bad (fun ⟨a, b, c, f, h1, h2, h3, h⟩ => q4 (nt h1 h2 h3 h).2.2.2.2.1) _ (Same.refl _) d hd⟩
    refine iteNo (by simp [q4]) ?_
    refine ⟨_, rfl, p, _, _, _, rfl, rfl, SqL.of hp, g 1 _ rfl, _, rfl, p, _, _, _, rfl, rfl, SqL.of hp, g 3 _ rfl, _, rfl, p, _, _, _, rfl, rfl, SqL.of hp, g 5 _ rfl, by show 3 ≤ sizeLine; decide, fun t ht => ?_⟩
    have st := same_new (o := .tup [.str w1, .str w3, .str w5]) ht
    refine ⟨t, rfl, ⟨_, SqT.of upd_same⟩, for_tup (K := K) (a := t) (xs := [.str w1, .str w3, .str w5]) (fun i σ H' => ∃ x3, σ = [some (.ref p), some (.int n), some (.bl e), x3] ∧ Same H1 H' ∧ H' t = some (.tup [.str w1, .str w3, .str w5]) ∧ ∀ j u, j < i → [w1, w3, w5][j]? = some u → ∃ a, a < 4 ∧ u = levn a)
      ⟨_, rfl, st, upd_same, fun j u h => absurd h (Nat.not_lt_zero _)⟩ (fun i σ H' _ ⟨_, _, _, h, _⟩ => SqT.of h) ?_ ?_⟩
    · rintro i v σ H2 hv ⟨x3, rfl, s2, h2, ih⟩
      obtain ⟨u, hu, rfl⟩ : ∃ u, [w1, w3, w5][i]? = some u ∧ v = .str u := by
        have e3 : ([.str w1, .str w3, .str w5] : List V) = [w1, w3, w5].map V.str := rfl
        rw [e3, List.getElem?_map] at hv
        cases hx : [w1, w3, w5][i]? with
        | none => rw [hx] at hv; cases hv
        | some u => rw [hx] at hv; exact ⟨u, rfl, (Option.some.inj hv).symm⟩
      refine ⟨_, rfl, _, _, rfl, .inr (T.q_LEVELS _), rfl, rfl, _, rfl, ?_⟩
      by_cases k : inV (.str u) levV = true
      · refine iteNo (by show (!inV (.str u) levV) = false; rw [k]; rfl) ⟨_, rfl, s2, h2, fun j z hj hz => ?_⟩
        rcases Nat.lt_or_ge j i with hj | hj
        · exact ih j z hj hz
        · have : j = i := by omega
          subst this
          rw [hu] at hz
          cases hz
          exact (inLev u).mp k
      · refine iteYes (by simp only [Bool.not_eq_true] at k; show (!inV (.str u) levV) = true; rw [k]; rfl) ⟨_, rfl, _, rfl, fun d hd => bad (fun ⟨a, b, c, f, k1, k2, k3, h⟩ => ?_) _ s2 d hd⟩
        obtain ⟨_, e1, _, e3, _, e5⟩ := nt k1 k2 k3 h
        refine k ((inLev u).mpr ?_)
        have hi := (List.getElem?_eq_some_iff.mp hu).1
        have hi : i < 3 := hi
        rcases (by omega : i = 0 ∨ i = 1 ∨ i = 2) with rfl | rfl | rfl
        · cases hu; exact ⟨a, k1, e1⟩
        · cases hu; exact ⟨b, k2, e3⟩
        · cases hu; exact ⟨c, k3, e5⟩
    · rintro σ H2 ⟨x3, rfl, s2, h2, ih⟩
      obtain ⟨a, ha, rfl⟩ := ih 0 w1 (by show 0 < 3; decide) rfl
      obtain ⟨b, hb, rfl⟩ := ih 1 w3 (by show 1 < 3; decide) rfl
      obtain ⟨c, hc, rfl⟩ := ih 2 w5 (by show 2 < 3; decide) rfl
      have hp2 := s2 _ _ hp
      refine ⟨_, rfl, p, _, _, _, rfl, rfl, SqL.of hp2, g 1 _ rfl, _, rfl, p, _, _, _, rfl, rfl, SqL.of hp2, g 3 _ rfl, _, rfl, p, _, _, _, rfl, rfl, SqL.of hp2, g 5 _ rfl, ?_⟩
      refine ⟨_, rfl, rfl, rfl, fun x dx nx ndx ne => ⟨x, dx, a, b, c, e, rfl, ha, hb, hc, upd_same, fun H8 b8 hx8 => ⟨rfl, ?_⟩⟩⟩
      exact hy a b c e ha hb hc (by rw [ew, q0, q2, q4]; rfl) x H8 (s2.trans (same_make nx ndx b8)) (s2.free nx) ⟨dx, hx8⟩
theorem ok_Way_read (T : Txt K mg) : FnOk PP w K mg base (L2.CX PP w) 5 T.a_Way_read T.fd_Way_read ["text"] (spRead T.c_Way T.c_BadText) := by
  refine T.F_Way_read.okX sc_Way_read (fun vs H Q E h => ?_) (fun cdv A outer s H vs Q E hr h => ?_)
  · obtain ⟨t, rfl, _⟩ := h; rfl
  · obtain ⟨t, rfl, lt, hy, hn⟩ := h
    refine ⟨_, (pss_one (ps_ret (pe_call (ok_way_of T) (hr.mono (by omega)) (by rfl) T.g_way_of T.F_way_of.kp T.b_way_of .nil (passes_call (takes_of rfl rfl rfl rfl) (fun _ _ _ _ h => h)) (pa_cons (pe_split (pv 0) (pe_str)) (pa_cons (pe_int) pa_nil))))), ?_⟩
    have l1 : (Txt.split t " ").length ≤ t.length + 2 := PyProof.Rows.split_le t " "
    refine ⟨_, rfl, ⟨_, rfl⟩, _, _, rfl, rfl, by decide +kernel, Nat.le_trans (by omega : t.length + 2 ≤ 90002) (by decide), fun p hp => ?_⟩
    have s1 := same_new (o := .lst ((Txt.split t " ").map V.str)) hp
    refine ⟨p, Txt.split t " ", 1, rfl, upd_same, by omega, fun a b c e ha hb hc h x H' s' nx hx => hy a b c e (Fm.of_split ha hb hc h) x H' (s1.trans s') (s1.free nx) hx, fun h H' d s' nd hd => hn (fun a b c e f => h ⟨a, b, c, e, f.1, f.2.1, f.2.2.1, ?_⟩) H' d (s1.trans s') (s1.free nd) hd⟩
    rw [f.2.2.2]
    exact split_form a f.1 b f.2.1 c f.2.2.1 e
end
end My

namespace My
open PySem L2
def spForm (K : PySem.W.Frag) : Sp := fun vs H Q _ => ∃ (p : Addr) (a b c : Nat) (e : Bool), vs = [.ref p] ∧ a < 4 ∧ b < 4 ∧ c < 4 ∧ SqL K H p [.int a, .int b, .int c, .bl e] ∧ ∀ H', Same H H' → Q (.str (formS a b c e)) H'
def spDue : Sp := fun vs H Q _ => ∃ t : Str, vs = [.str t] ∧ ∀ r H', Same H H' → H r = none → H' r = some (.lst (toldV t)) → Q (.ref r) H'
def spTold : Sp := fun vs H Q _ => ∃ t : Str, vs = [.str t] ∧ t.length ≤ 90000 ∧ ∀ r H', Same H H' → H r = none → H' r = some (.lst (toldV t)) → Q (.ref r) H'
theorem small_app : ∀ a, a < 4 → ∀ b, b < 4 → ∀ c, c < 4 → (("held " : Str) ++ levn a ++ (" owned " : Str) ++ levn b ++ (" seen " : Str) ++ levn c).length ≤ 90 := by decide +kernel
theorem slen_app (x y : Str) : (x ++ y).length = x.length + y.length := by
  show (x.cps ++ y.cps).size = x.cps.size + y.cps.size
  simp
section
variable {P : Program} {w : World} {K : PySem.W.Frag} {mg : Str → Option Value} {base : Heap}
theorem ok__law_form (T : Txt K mg) : FnOk P w K mg base CX0 1 T.a__law_form T.fd__law_form ["_law_ranks"] (spForm K) := by
  refine T.F__law_form.ok sc__law_form (fun vs H Q E h => ?_) (fun cdv A outer s H vs Q E hr h => ?_)
  · obtain ⟨p, a, b, c, e, rfl, _⟩ := h; rfl
  · obtain ⟨p, a, b, c, e, rfl, ha, hb, hc, hp, q⟩ := h
    refine ⟨_, (pss_cons (ps_set (i := 1) sc__law_form.nd rfl (.inl rfl) (pe_lst (pa_cons (pe_str) (pa_cons (pe_str) (pa_cons (pe_str) (pa_cons (pe_str) pa_nil))))))
      (pss_cons (ps_set (i := 2) sc__law_form.nd rfl (.inl rfl) (pe_op op_add_str (pe_op op_add_str (pe_op op_add_str (pe_op op_add_str (pe_op op_add_str (pe_str) (pe_ix ix_list (pv 1) (pe_ix ix_list (pv 0) (pe_int) (fun _ _ => rfl)) (fun _ _ => rfl))) (pe_str)) (pe_ix ix_list (pv 1) (pe_ix ix_list (pv 0) (pe_int) (fun _ _ => rfl)) (fun _ _ => rfl))) (pe_str)) (pe_ix ix_list (pv 1) (pe_ix ix_list (pv 0) (pe_int) (fun _ _ => rfl)) (fun _ _ => rfl))))
      (pss_cons (ps_if (pt_val (pe_ix ix_list (pv 0) (pe_int) (fun _ _ => rfl))) (pss_one (ps_ret (pe_op op_add_str (pv 2) (pe_str)))) pss_nil)
      (pss_one (ps_ret (pv 2)))))), ?_⟩
    refine ⟨by show 4 ≤ sizeLine; decide, fun l hl => ?_⟩
    have s1 := same_new (o := .lst levV) hl
    have W1 : (upd H l (.lst levV)) l = some (.lst levV) := upd_same
    have hp1 := s1.seq hp
    have z := small_app a ha b hb c hc
    have z1 := z
    simp only [slen_app] at z1
    have big : 1000 ≤ sizeLine := by decide
    have big2 : ∀ n, n ≤ 1000 → n ≤ 16777216 := fun n h => by omega
    refine ⟨_, rfl, _, rfl, _, _, _, _, rfl, rfl, hp1, at_of (j := 0) rfl rfl, _, _, _, _, rfl, rfl, SqL.of W1, at_of (j := a) rfl (levV_at ha), _, _, rfl, rfl, Nat.le_trans (m := 1000) (by (try simp only [slen_app]); omega) big, _, _, rfl, rfl, Nat.le_trans (m := 1000) (by (try simp only [slen_app]); omega) big, _, rfl, _, rfl, _, _, _, _, rfl, rfl, hp1, at_of (j := 1) rfl rfl, _, _, _, _, rfl, rfl, SqL.of W1, at_of (j := b) rfl (levV_at hb), _, _, rfl, rfl, Nat.le_trans (m := 1000) (by (try simp only [slen_app]); omega) big, _, _, rfl, rfl, Nat.le_trans (m := 1000) (by (try simp only [slen_app]); omega) big, _, rfl, _, rfl, _, _, _, _, rfl, rfl, hp1, at_of (j := 2) rfl rfl, _, _, _, _, rfl, rfl, SqL.of W1, at_of (j := c) rfl (levV_at hc), _, _, rfl, rfl, Nat.le_trans (m := 1000) (by (try simp only [slen_app]); omega) big, ?_⟩
    refine ⟨_, rfl, _, _, _, _, rfl, rfl, hp1, at_of (j := 3) rfl rfl, _, rfl, ?_⟩
    cases e with
    | true =>
      have z2 : ((" early" : Str)).length ≤ 10 := by decide +kernel
      exact iteT ⟨_, rfl, _, _, rfl, rfl, Nat.le_trans (m := 1000) (by omega) big, q _ s1⟩
    | false => exact iteF ⟨_, rfl, q _ s1⟩
theorem ok__law_due (T : Txt K mg) : FnOk P w K mg base CX0 2 T.a__law_due T.fd__law_due ["_law_text"] spDue := by
  refine T.F__law_due.ok sc__law_due (fun vs H Q E h => ?_) (fun cdv A outer s H vs Q E hr h => ?_)
  · obtain ⟨t, rfl, _⟩ := h; rfl
  · obtain ⟨t, rfl, q⟩ := h
    refine ⟨_, (pss_cons (ps_for PassesOwn.never rfl (pi_range1 (by rfl) T.n_range (pa_cons (pe_int) pa_nil)) (pg_name (i := 1) sc__law_due.nd rfl (.inl rfl)) (pss_one (ps_for PassesOwn.never rfl (pi_range1 (by rfl) T.n_range (pa_cons (pe_int) pa_nil)) (pg_name (i := 2) sc__law_due.nd rfl (.inl rfl)) (pss_one (ps_for PassesOwn.never rfl (pi_range1 (by rfl) T.n_range (pa_cons (pe_int) pa_nil)) (pg_name (i := 3) sc__law_due.nd rfl (.inl rfl)) (pss_one (ps_for PassesOwn.never rfl (pi_list (pe_lst (pa_cons (pe_bl) (pa_cons (pe_bl) pa_nil)))) (pg_name (i := 4) sc__law_due.nd rfl (.inl rfl)) (pss_one (ps_if (pt_cmpR op_eq (pv 0) (pe_call (ok__law_form T) (hr.mono (by omega)) (by rfl) T.g__law_form T.F__law_form.kp T.b__law_form .nil pass0 (pa_cons (pe_lst (pa_cons (pv 1) (pa_cons (pv 2) (pa_cons (pv 3) (pa_cons (pv 4) pa_nil))))) pa_nil)) (nomark _)) (pss_one (ps_ret (pe_call (ok__law_words T) (hr.mono (by omega)) (by rfl) T.g__law_words T.F__law_words.kp T.b__law_words .nil pass0 (pa_cons (pe_call (ok__law_adjusted T) (hr.mono (by omega)) (by rfl) T.g__law_adjusted T.F__law_adjusted.kp T.b__law_adjusted .nil pass0 (pa_cons (pe_lst (pa_cons (pv 1) (pa_cons (pv 2) (pa_cons (pv 3) (pa_cons (pv 4) pa_nil))))) pa_nil)) pa_nil)))) pss_nil)))))))))
      (pss_one (ps_ret (pe_lst (pa_cons (pe_str) (pa_cons (pe_int) pa_nil)))))), ?_⟩
    refine ⟨4, rfl, by decide, by decide, for_range (lo := 0) (n := 4) (fun i σ H' => ∃ x1 x2 x3 x4, σ = [some (.str t), x1, x2, x3, x4] ∧ Same H H' ∧ ∀ a b c e, Fm t a b c e → ¬ a < i) ⟨_, _, _, _, rfl, Same.refl H, fun _ _ _ _ _ => Nat.not_lt_zero _⟩ ?_ ?_⟩
    · rintro i σ H1 hi ⟨x1, x2, x3, x4, rfl, s1, n1⟩
      refine ⟨4, rfl, by decide, by decide, for_range (lo := 0) (n := 4) (fun j σ H' => ∃ x2 x3 x4, σ = [some (.str t), some (.int (0 + (i : Int))), x2, x3, x4] ∧ Same H H' ∧ ∀ a b c e, Fm t a b c e → ¬ (a = i ∧ b < j)) ⟨_, _, _, rfl, s1, fun _ _ _ _ _ => by omega⟩ ?_ ?_⟩
      · rintro j σ H2 hj ⟨x2, x3, x4, rfl, s2, n2⟩
        refine ⟨4, rfl, by decide, by decide, for_range (lo := 0) (n := 4) (fun k σ H' => ∃ x3 x4, σ = [some (.str t), some (.int (0 + (i : Int))), some (.int (0 + (j : Int))), x3, x4] ∧ Same H H' ∧ ∀ a b c e, Fm t a b c e → ¬ (a = i ∧ b = j ∧ c < k)) ⟨_, _, rfl, s2, fun _ _ _ _ _ => by omega⟩ ?_ ?_⟩
        · rintro k σ H3 hk ⟨x3, x4, rfl, s3, n3⟩
          refine ⟨by show 2 ≤ sizeLine; decide, fun L hL => ?_⟩
          have s4 := same_new (o := .lst [.bl false, .bl true]) hL
          refine ⟨L, rfl, ⟨_, SqL.of upd_same⟩, for_list (K := K) (a := L) (xs := [.bl false, .bl true]) (fun m σ H' => ∃ x4, σ = [some (.str t), some (.int (0 + (i : Int))), some (.int (0 + (j : Int))), some (.int (0 + (k : Int))), x4] ∧ Same H H' ∧ H' L = some (.lst [.bl false, .bl true]) ∧ ∀ (m' : Nat) (e : Bool), m' < m → [false, true][m']? = some e → ¬ Fm t i j k e)
            ⟨_, rfl, s3.trans s4, upd_same, fun _ _ h => absurd h (Nat.not_lt_zero _)⟩ (fun m σ H' _ ⟨_, _, _, h, _⟩ => SqL.of h) ?_ ?_⟩
          · rintro m v σ H4 hv ⟨x4, rfl, s4, h4, n4⟩
            obtain ⟨e, he, rfl⟩ : ∃ e : Bool, [false, true][m]? = some e ∧ v = .bl e := by
              have e3 : ([.bl false, .bl true] : List V) = [false, true].map V.bl := rfl
              rw [e3, List.getElem?_map] at hv
              cases hx : [false, true][m]? with
              | none => rw [hx] at hv; cases hv
              | some u => rw [hx] at hv; exact ⟨u, rfl, (Option.some.inj hv).symm⟩
            have ei : (0 + (i : Int)) = ((i : Nat) : Int) := by omega
            have ej : (0 + (j : Int)) = ((j : Nat) : Int) := by omega
            have ek : (0 + (k : Int)) = ((k : Nat) : Int) := by omega
            rw [ei, ej, ek]
            refine ⟨_, rfl, _, rfl, _, rfl, _, rfl, _, rfl, by show 4 ≤ sizeLine; decide, fun u hu => ⟨u, i, j, k, e, rfl, hi, hj, hk, SqL.of upd_same, fun H5 s5 => ⟨rfl, _, rfl, iteD (fun g => ?_) (fun g => ?_)⟩⟩⟩
            · have s6 := s4.trans ((same_new hu).trans s5)
              refine ⟨_, rfl, _, rfl, _, rfl, _, rfl, by show 4 ≤ sizeLine; decide, fun u2 hu2 => ⟨u2, i, j, k, e, rfl, hi, hj, hk, SqL.of upd_same, fun r hr => ⟨r, max i j, j, max k (max i j), e, rfl, by omega, hj, by omega, SqL.of upd_same, fun r2 H6 s7 nr2 hr2 => ?_⟩⟩⟩
              have s8 := (s6.trans (same_new (o := LwO i j k e) hu2)).trans (same_new (o := LwO (max i j) j (max k (max i j)) e) hr)
              refine q r2 H6 (s8.trans s7) (s8.free nr2) ?_
              rw [toldV_yes ⟨hi, hj, hk, V.str.inj g⟩]
              exact hr2
            · refine ⟨_, rfl, s4.trans ((same_new hu).trans s5), ((same_new hu).trans s5) _ _ h4, fun m' e' hm he' => ?_⟩
              rcases Nat.lt_or_ge m' m with h | h
              · exact n4 m' e' h he'
              · have : m' = m := by omega
                subst this
                rw [he] at he'
                cases he'
                exact fun f => g (by rw [f.2.2.2])
          · rintro σ H4 ⟨x4, rfl, s4, h4, n4⟩
            refine ⟨_, _, rfl, s4, fun a b c e f h => ?_⟩
            by_cases hc : c = k
            · have hh := h.1; have h2 := h.2.1
              subst hc hh h2
              exact n4 (if e then 1 else 0) e (by cases e <;> decide) (by cases e <;> rfl) f
            · exact n3 a b c e f ⟨h.1, h.2.1, by have := h.2.2; omega⟩
        · rintro σ H3 ⟨x3, x4, rfl, s3, n3⟩
          refine ⟨_, _, _, rfl, s3, fun a b c e f h => ?_⟩
          by_cases hb : b = j
          · exact n3 a b c e f ⟨h.1, hb, f.2.2.1⟩
          · exact n2 a b c e f ⟨h.1, by have := h.2; omega⟩
      · rintro σ H2 ⟨x2, x3, x4, rfl, s2, n2⟩
        refine ⟨_, _, _, _, rfl, s2, fun a b c e f h => ?_⟩
        by_cases ha : a = i
        · exact n2 a b c e f ⟨ha, f.2.1⟩
        · exact n1 a b c e f (by omega)
    · rintro σ H1 ⟨x1, x2, x3, x4, rfl, s1, n1⟩
      refine ⟨by show 2 ≤ sizeLine; decide, fun r hr => q r _ (s1.trans (same_new hr)) (s1.free hr) ?_⟩
      rw [toldV_no (fun a b c e f => n1 a b c e f f.1)]
      exact upd_same
end
section
variable {w : World} {K : PySem.W.Frag} {mg : Str → Option Value} {base : Heap}
theorem ok__law_told (T : Txt K mg) : FnOk PP w K mg base CX0 6 T.a__law_told T.fd__law_told ["_law_text"] spTold := by
  refine T.F__law_told.ok sc__law_told (fun vs H Q E h => ?_) (fun cdv A outer s H vs Q E hr h => ?_)
  · obtain ⟨t, rfl, _⟩ := h; rfl
  · obtain ⟨t, rfl, lt, q⟩ := h
    refine ⟨_, (pss_cons (ps_try_as (i := 2) rfl rfl sc__law_told.nd rfl rfl ⟨rfl, by decide, .inl T.g_WebError⟩ takes0 (fun W pn xe tk po => (pss_one (ps_set (i := 1) sc__law_told.nd rfl (.inl rfl) (pe_smethW (pe_glob (v := .ref T.c_Way) (by rfl) T.g_Way rfl) T.cr_Way T.sm_Way_read (ok_Way_read T) (hr.mono (by omega)) T.b_Way_read (fun σ => passAt tk σ) (pa_cons (pv 0) pa_nil))))) (fun a oe cls d pn hz hf => (pss_cons (ps_if (PW.pt (pw_or (pt_val (pe_callB (call_isX hz hf) (by rfl) T.n_isinstance (by decide +kernel) (pa_cons (pv 2) (pa_cons (pe_glob (v := .ref T.c_BadLevel) (by rfl) T.g_BadLevel rfl) pa_nil)))) (pw_or (pt_val (pe_callB (call_isX hz hf) (by rfl) T.n_isinstance (by decide +kernel) (pa_cons (pv 2) (pa_cons (pe_glob (v := .ref T.c_Refused) (by rfl) T.g_Refused rfl) pa_nil)))) (pw_or1 (pt_val (pe_callB (call_isX hz hf) (by rfl) T.n_isinstance (by decide +kernel) (pa_cons (pv 2) (pa_cons (pe_glob (v := .ref T.c_UnknownMark) (by rfl) T.g_UnknownMark rfl) pa_nil)))))))) (pss_one (ps_ret (pe_lst (pa_cons (pe_str) pa_nil)))) pss_nil)
      (pss_cons (ps_if (PW.pt (pw_and (pt_val (pe_callB (call_isX hz hf) (by rfl) T.n_isinstance (by decide +kernel) (pa_cons (pv 2) (pa_cons (pe_glob (v := .ref T.c_BadText) (by rfl) T.g_BadText rfl) pa_nil)))) (pw_and1 (pt_val (pe_callB (call_isX hz hf) (by rfl) T.n_isinstance (by decide +kernel) (pa_cons (pv 2) (pa_cons (pe_bltn (v := .ty "ValueError") (by rfl) T.n_ValueError (by decide +kernel) rfl) pa_nil))))))) (pss_one (ps_ret (pe_lst (pa_cons (pe_str) (pa_cons (pe_xfX hz hf (pv 2)) pa_nil))))) pss_nil)
      (pss_one (ps_ret (pe_lst (pa_cons (pe_str) pa_nil))))))))
      (pss_one (ps_ret (pe_call (ok__law_fields T) (hr.mono (by omega)) (by rfl) T.g__law_fields T.F__law_fields.kp T.b__law_fields .nil pass0 (pa_cons (pv 1) pa_nil))))), ?_⟩
    refine ⟨rfl, _, rfl, t, rfl, lt, fun a b c e f x H1 s1 nx hx => ?_, fun hno H1 d s1 hd hd1 => ⟨true, T.em_BadText_WebError, fun _ a0 ha0 => ?_, fun z => nomatch z⟩⟩
    · refine ⟨_, rfl, x, _, _, _, _, rfl, hx, fun r hr => q r _ (s1.trans (same_new hr)) (s1.free hr) ?_⟩
      rw [toldV_yes f]
      exact upd_same
    · refine ⟨_, rfl, _, d, _, _, _, false, rfl, rfl, hd1, T.xc_BadText, rfl, ClsV.own _, T.kt_BadText_BadLevel, _, rfl, iteF ?_⟩
      refine ⟨_, rfl, _, d, _, _, _, false, rfl, rfl, hd1, T.xc_BadText, rfl, ClsV.own _, T.kt_BadText_Refused, _, rfl, iteF ?_⟩
      refine ⟨_, rfl, _, d, _, _, _, false, rfl, rfl, hd1, T.xc_BadText, rfl, ClsV.own _, T.kt_BadText_UnknownMark, _, rfl, iteF ?_⟩
      refine ⟨_, rfl, _, d, _, _, _, true, rfl, rfl, hd1, T.xc_BadText, rfl, ClsV.own _, T.kt_BadText_BadText, _, rfl, iteT ?_⟩
      refine ⟨_, rfl, _, d, _, _, _, true, rfl, rfl, hd1, T.xc_BadText, rfl, ClsV.ty _, T.kt_BadText_ValueError, _, rfl, iteT ?_⟩
      refine ⟨_, rfl, rfl, _, d, _, _, rfl, T.xc_BadText, T.xn_BadText, rfl, hd1, rfl, by show 2 ≤ sizeLine; decide, fun r hr => ?_⟩
      refine q r _ (s1.trans (same_new hr)) (s1.free hr) ?_
      rw [toldV_no hno]
      exact upd_same
end
end My

namespace My
open PySem L2
/-! ### lists of ints: in, flat; slices -/
theorem flat_ints (ns : List Int) : (ns.map V.int).all flatV = true := by
  rw [List.all_eq_true]
  intro v h
  obtain ⟨n, _, rfl⟩ := List.mem_map.mp h
  rfl
theorem in_ints (n : Int) (ns : List Int) : inV (.int n) (ns.map V.int) = decide (n ∈ ns) := by
  unfold inV
  rw [List.any_map, Bool.eq_iff_iff, List.any_eq_true, decide_eq_true_iff]
  constructor
  · rintro ⟨m, h, e⟩
    have e : (m == n) = true := e
    rw [← beq_iff_eq.mp e]; exact h
  · intro h
    exact ⟨n, h, by show (n == n) = true; simp⟩
theorem cut_to (xs : List V) (n : Nat) : cutV xs none (some (n : Int)) = xs.take n := by
  unfold cutV HT.sIx
  simp only [List.drop_zero, Nat.sub_zero]
  have h0 : ¬ (n : Int) < 0 := by omega
  simp only [h0, if_false]
  by_cases h : n ≤ xs.length
  · congr 1
    omega
  · rw [List.take_of_length_le (by omega), List.take_of_length_le (by omega)]
theorem cut_from (xs : List V) (n : Nat) : cutV xs (some (n : Int)) none = xs.drop n := by
  unfold cutV HT.sIx
  have h0 : ¬ (n : Int) < 0 := by omega
  simp only [h0, if_false]
  by_cases h : n ≤ xs.length
  · rw [List.take_of_length_le (by rw [List.length_drop]; omega)]
    congr 1
    omega
  · rw [List.drop_eq_nil_of_le (by omega), List.drop_eq_nil_of_le (by omega), List.take_nil]
end My

namespace My
open PySem L2
def WB (ws : List Str) : Prop := ws.length ≤ 104 ∧ ∀ w ∈ ws, w.length ≤ 300
theorem WB.sum {ws : List Str} (h : WB ws) : (ws.map (·.length)).sum ≤ 300 * ws.length := by
  have : ∀ ws : List Str, (∀ w ∈ ws, w.length ≤ 300) → (ws.map (·.length)).sum ≤ 300 * ws.length := by
    intro ws
    induction ws with
    | nil => intro _; exact Nat.le_refl _
    | cons a l ih =>
      intro h
      have h1 := h a (List.mem_cons_self ..)
      have h2 := ih fun w hw => h w (List.mem_cons_of_mem _ hw)
      rw [List.map_cons, List.sum_cons, List.length_cons]
      omega
  exact this ws h.2
theorem WB.join {ws : List Str} (h : WB ws) : (Txt.join " " ws).length ≤ 31400 := by
  rw [TL.join_eq]
  cases ws with
  | nil => decide +kernel
  | cons a l =>
    rw [PyProof.Rows.len_join_cons]
    have h1 := h.sum
    have h2 := h.1
    have e : (" " : Str).length = 1 := by decide +kernel
    rw [e]
    rw [List.length_cons] at h1 h2
    omega
theorem WB.room {ws : List Str} (h : WB ws) : (ws.map (·.length)).sum + ws.length * (" " : Str).length ≤ 16777216 := by
  have h1 := h.sum
  have h2 := h.1
  have e : (" " : Str).length = 1 := by decide +kernel
  rw [e]
  omega
theorem WB.split {z : Str} (h : z.length ≤ 100) : WB (Txt.split z " ") := by
  refine ⟨Nat.le_trans (PyProof.Rows.split_le z " ") (by omega), fun w hw => ?_⟩
  have := PyProof.Rows.part_short hw
  omega
theorem cutS_len (z : Str) (lo hi : Option Int) : (cutS z lo hi).length ≤ z.length := by
  show (List.toArray _).size ≤ z.cps.size
  rw [List.size_toArray, List.length_take, List.length_drop, Array.length_toList]
  omega
abbrev menuO : HO := .lst [.str "none", .str "one", .str "most", .str "all", .str "early", .str "", .str "held", .str "late"]
theorem menu_str {v : V} (h : v ∈ ([.str "none", .str "one", .str "most", .str "all", .str "early", .str "", .str "held", .str "late"] : List V)) : ∃ z : Str, v = .str z ∧ z.length ≤ 5 := by
  simp only [List.mem_cons, List.not_mem_nil, or_false] at h
  rcases h with rfl | rfl | rfl | rfl | rfl | rfl | rfl | rfl <;> exact ⟨_, rfl, by decide +kernel⟩
theorem ixN_nat {n i : Nat} (h : i < n) : ixN n ((i : Nat) : Int) = some i := by
  unfold ixN
  first | (simp; omega) | (have h0 : ¬ ((i : Nat) : Int) < 0 := by omega
                           simp [h0]; omega)
theorem WB.sub {ws ys : List Str} (h : WB ws) (l : ys.length ≤ 104) (m : ∀ w ∈ ys, w ∈ ws) : WB ys := ⟨l, fun w hw => h.2 w (m w hw)⟩
theorem WB.set {ws : List Str} {i : Nat} {u : Str} (h : WB ws) (hu : u.length ≤ 300) : WB (ws.set i u) := by
  refine ⟨by rw [List.length_set]; exact h.1, fun w hw => ?_⟩
  rcases List.mem_or_eq_of_mem_set hw with k | rfl
  · exact h.2 w k
  · exact hu
theorem WB.at {ws : List Str} {i : Nat} (h : WB ws) (hi : i < ws.length) : ∃ u, ws[i]? = some u ∧ atI (ws.map V.str) ((i : Nat) : Int) = some (.str u) ∧ u.length ≤ 300 := by
  obtain ⟨u, hu⟩ : ∃ u, ws[i]? = some u := ⟨_, List.getElem?_eq_getElem hi⟩
  exact ⟨u, hu, at_of rfl (by rw [List.getElem?_map, hu]; rfl), h.2 u (List.mem_of_getElem? hu)⟩
structure Chg (K : PySem.W.Frag) (H H' : Hp) (d t l m : Addr) (ws : List Str) : Prop where
  D : Dr K H' d t
  b : But t H H'
  hl : H' l = some (.lst (ws.map V.str))
  hm : H' m = some menuO
  W : WB ws
theorem Chg.set {K : PySem.W.Frag} {H H' : Hp} {d t l m : Addr} {ws : List Str} {i : Nat} {u : Str} (C : Chg K H H' d t l m ws) (fl : H l = none) (nl : l ≠ t) (nm : l ≠ m) (nd : d ≠ l) (hu : u.length ≤ 300) : Chg K H (upd H' l (.lst ((ws.map V.str).set i (.str u)))) d t l m (ws.set i u) :=
  ⟨C.D.other But.upd nd nl.symm, C.b.mut fl, by rw [upd_same, List.map_set], by rw [upd_ne nm.symm]; exact C.hm, C.W.set hu⟩
theorem Chg.take {K : PySem.W.Frag} {H H' H2 : Hp} {d t l m : Addr} {ws : List Str} (C : Chg K H H' d t l m ws) (nl : l ≠ t) (nm : m ≠ t) (D : Dr K H2 d t) (b : But t H' H2) : Chg K H H2 d t l m ws :=
  ⟨D, C.b.trans b, b _ _ nl C.hl, b _ _ nm C.hm, C.W⟩
theorem Chg.same {K : PySem.W.Frag} {H H' H2 : Hp} {d t l m : Addr} {ws : List Str} (C : Chg K H H' d t l m ws) (s : Same H' H2) : Chg K H H2 d t l m ws :=
  ⟨C.D.same s, C.b.trans (But.of_same s), s _ _ C.hl, s _ _ C.hm, C.W⟩
def spChg (K : PySem.W.Frag) : Sp := fun vs H Q _ => ∃ (d t : Addr) (z : Str), vs = [.ref d, .ref t, .str z] ∧ Dr K H d t ∧ z.length ≤ 100 ∧ ∀ (y : Str) H', y.length ≤ 90000 → Dr K H' d t → But t H H' → Q (.str y) H'
section
variable {P : Program} {w : World} {K : PySem.W.Frag} {mg : Str → Option Value} {base : Heap}
theorem ok__law_changed (T : Txt K mg) : FnOk P w K mg base CX0 2 T.a__law_changed T.fd__law_changed ["_law_draws_here", "_law_at", "_law_text"] (spChg K) := by
  refine T.F__law_changed.ok sc__law_changed (fun vs H Q E h => ?_) (fun cdv A outer s H vs Q E hr h => ?_)
  · obtain ⟨d, t, z, rfl, _⟩ := h; rfl
  · obtain ⟨d, t, z, rfl, D, hz, q⟩ := h
    refine ⟨_, (pss_cons (ps_set (i := 3) sc__law_changed.nd rfl (.inl rfl) (pe_split (pv 2) (pe_str)))
      (pss_cons (ps_set (i := 4) sc__law_changed.nd rfl (.inl rfl) (pe_call (ok__law_take T) (hr.mono (by omega)) (by rfl) T.g__law_take T.F__law_take.kp T.b__law_take .nil pass0 (pa_cons (pv 0) (pa_cons (pv 1) (pa_cons (pe_int) pa_nil)))))
      (pss_cons (ps_set (i := 5) sc__law_changed.nd rfl (.inl rfl) (pe_call (ok__law_take T) (hr.mono (by omega)) (by rfl) T.g__law_take T.F__law_take.kp T.b__law_take .nil pass0 (pa_cons (pv 0) (pa_cons (pv 1) (pa_cons (pe_callB call_len_seq (by rfl) T.n_len (by decide +kernel) (pa_cons (pv 3) pa_nil)) pa_nil)))))
      (pss_cons (ps_set (i := 6) sc__law_changed.nd rfl (.inl rfl) (pe_call (ok__law_take T) (hr.mono (by omega)) (by rfl) T.g__law_take T.F__law_take.kp T.b__law_take .nil pass0 (pa_cons (pv 0) (pa_cons (pv 1) (pa_cons (pe_callB call_len_seq (by rfl) T.n_len (by decide +kernel) (pa_cons (pv 3) pa_nil)) pa_nil)))))
      (pss_cons (ps_set (i := 7) sc__law_changed.nd rfl (.inl rfl) (pe_lst (pa_cons (pe_str) (pa_cons (pe_str) (pa_cons (pe_str) (pa_cons (pe_str) (pa_cons (pe_str) (pa_cons (pe_str) (pa_cons (pe_str) (pa_cons (pe_str) pa_nil))))))))))
      (pss_cons (ps_set (i := 8) sc__law_changed.nd rfl (.inl rfl) (pe_ix ix_list (pv 3) (pv 5) (fun _ _ => rfl)))
      (pss_cons (ps_if (pt_cmpR op_eq (pv 4) (pe_int) (nomark _)) (pss_one (ps_ret (pe_join (pe_str) (pe_op op_cat (pe_slice sl_list (pv 3) po_none (po_some (pv 5))) (pe_slice sl_list (pv 3) (po_some (pe_op op_add (pv 5) (pe_int))) po_none))))) pss_nil)
      (pss_cons (ps_if (pt_cmpR op_eq (pv 4) (pe_int) (nomark _)) (pss_one (ps_ret (pe_join (pe_str) (pe_op op_cat (pe_op op_cat (pe_slice sl_list (pv 3) po_none (po_some (pv 5))) (pe_lst (pa_cons (pv 8) (pa_cons (pv 8) pa_nil)))) (pe_slice sl_list (pv 3) (po_some (pe_op op_add (pv 5) (pe_int))) po_none))))) pss_nil)
      (C8.pss_cut (ps_if (pt_cmpR op_eq (pv 4) (pe_int) (nomark _)) (pss_cons (ps_asg (pe_ix ix_list (pv 3) (pv 6) (fun _ _ => rfl)) (pg_sub (pv 3) (pv 5) set_list))
      (pss_one (ps_asg (pv 8) (pg_sub (pv 3) (pv 6) set_list)))) pss_nil)
      (C8.pss_cut (ps_if (pt_cmpR op_eq (pv 4) (pe_int) (nomark _)) (pss_one (ps_asg (pe_upper (pv 8)) (pg_sub (pv 3) (pv 5) set_list))) pss_nil)
      (C8.pss_cut (ps_if (pt_cmpR op_eq (pv 4) (pe_int) (nomark _)) (pss_one (ps_asg (pe_slice sl_str (pv 8) po_none (po_some (pe_op op_sub (pe_callB call_len_str (by rfl) T.n_len (by decide +kernel) (pa_cons (pv 8) pa_nil)) (pe_int)))) (pg_sub (pv 3) (pv 5) set_list))) pss_nil)
      (C8.pss_cut (ps_if (pt_cmpR op_eq (pv 4) (pe_int) (nomark _)) (pss_one (ps_asg (pe_ix ix_list (pv 7) (pe_call (ok__law_take T) (hr.mono (by omega)) (by rfl) T.g__law_take T.F__law_take.kp T.b__law_take .nil pass0 (pa_cons (pv 0) (pa_cons (pv 1) (pa_cons (pe_int) pa_nil)))) (fun _ _ => rfl)) (pg_sub (pv 3) (pv 5) set_list))) pss_nil)
      (pss_cons (ps_if (pt_cmpR op_eq (pv 4) (pe_int) (nomark _)) (pss_one (ps_ret (pe_op op_add_str (pv 2) (pe_str)))) pss_nil)
      (pss_cons (ps_if (pt_cmpR op_eq (pv 4) (pe_int) (nomark _)) (pss_one (ps_ret (pe_op op_add_str (pe_op op_add_str (pe_join (pe_str) (pe_slice sl_list (pv 3) po_none (po_some (pv 5)))) (pe_str)) (pe_join (pe_str) (pe_slice sl_list (pv 3) (po_some (pv 5)) po_none))))) pss_nil)
      (pss_cons (ps_if (pt_cmpR op_eq (pv 4) (pe_int) (nomark _)) (pss_one (ps_ret (pe_ix ix_list (pe_lst (pa_cons (pe_op op_add_str (pe_str) (pv 2)) (pa_cons (pe_op op_add_str (pv 2) (pe_str)) pa_nil))) (pe_op op_mod (pe_callTy call_int1 (by rfl) T.n_int (by decide +kernel) (pa_cons (pv 6) pa_nil)) (pe_int)) (fun _ _ => rfl)))) pss_nil)
      (pss_cons (ps_if (pt_cmpR op_eq (pv 4) (pe_int) (nomark _)) (pss_one (ps_ret (pe_ix ix_list (pe_lst (pa_cons (pe_op op_add_str (pv 2) (pe_str)) (pa_cons (pe_op op_add_str (pe_str) (pv 2)) (pa_cons (pe_str) pa_nil)))) (pe_op op_mod (pe_callTy call_int1 (by rfl) T.n_int (by decide +kernel) (pa_cons (pv 6) pa_nil)) (pe_int)) (fun _ _ => rfl)))) pss_nil)
      (pss_cons (CwR.ps_ifT op_eq (pv 4) (nomark _) (CwR.psst_one (CwR.pst_ret (CwR.pet_replC (pv 2)))) pss_nil)
      (pss_one (ps_ret (pe_join (pe_str) (pv 3))))))))))))))))))))), ?_⟩
    obtain ⟨ws, ews⟩ : ∃ ws, ws = Txt.split z " " := ⟨_, rfl⟩
    have W : WB ws := ews ▸ WB.split hz
    have l1 : ws.length ≤ 102 := by rw [ews]; exact Nat.le_trans (PyProof.Rows.split_le z " ") (by omega)
    have np : 1 ≤ ws.length := by rw [ews]; exact PyProof.Rows.split_pos z " "
    have big : 1000 ≤ sizeLine := by decide
    refine ⟨_, rfl, ⟨_, rfl⟩, _, _, rfl, rfl, by decide +kernel, Nat.le_trans (m := 1000) (by omega) big, fun l hl => ?_⟩
    rw [← ews]
    have s1 := same_new (o := .lst (ws.map V.str)) hl
    have nl : l ≠ t := D.na hl
    refine ⟨_, rfl, _, rfl, d, t, 14, rfl, D.same s1, by decide, fun ch H1 _ _ D1 b1 => ?_⟩
    have hl1 := b1 _ _ nl upd_same
    have b1 := (But.of_same s1).trans b1
    have ln : (0 : Int) < (((ws.map V.str).length : Nat) : Int) := by rw [List.length_map]; omega
    refine ⟨_, rfl, _, rfl, _, rfl, l, _, rfl, .inl (SqL.of hl1), d, t, _, rfl, D1, ln, fun pl H2 p0 p1 D2 b2 => ?_⟩
    have hl2 := b2 _ _ nl hl1
    have b2 := b1.trans b2
    refine ⟨_, rfl, _, rfl, _, rfl, l, _, rfl, .inl (SqL.of hl2), d, t, _, rfl, D2, ln, fun ot H3 o0 o1 D3 b3 => ?_⟩
    have hl3 := b3 _ _ nl hl2
    have b3 := b2.trans b3
    rw [List.length_map] at p1 o1
    obtain ⟨pl, rfl⟩ := Int.eq_ofNat_of_zero_le p0
    obtain ⟨ot, rfl⟩ := Int.eq_ofNat_of_zero_le o0
    have p1 : pl < ws.length := by omega
    have o1 : ot < ws.length := by omega
    obtain ⟨wd, hwd⟩ : ∃ wd, ws[pl]? = some wd := ⟨_, List.getElem?_eq_getElem p1⟩
    obtain ⟨wo, hwo⟩ : ∃ wo, ws[ot]? = some wo := ⟨_, List.getElem?_eq_getElem o1⟩
    have lwd : wd.length ≤ 100 := by
      have h := List.mem_of_getElem? hwd
      rw [ews] at h
      have := PyProof.Rows.part_short h
      omega
    have lwo := W.2 wo (List.mem_of_getElem? hwo)
    have ap : atI (ws.map V.str) ((pl : Nat) : Int) = some (.str wd) := at_of rfl (by rw [List.getElem?_map, hwd]; rfl)
    have ao : atI (ws.map V.str) ((ot : Nat) : Int) = some (.str wo) := at_of rfl (by rw [List.getElem?_map, hwo]; rfl)
    refine ⟨by show 8 ≤ sizeLine; decide, fun m hm => ?_⟩
    have s4 := same_new (o := .lst [.str "none", .str "one", .str "most", .str "all", .str "early", .str "", .str "held", .str "late"]) hm
    have nm : m ≠ t := D3.na hm
    have hl4 := s4 _ _ hl3
    have hm4 : (upd H3 m (.lst [.str "none", .str "one", .str "most", .str "all", .str "early", .str "", .str "held", .str "late"])) m = some (.lst [.str "none", .str "one", .str "most", .str "all", .str "early", .str "", .str "held", .str "late"]) := upd_same
    have D4 := D3.same s4
    have b4 := b3.trans (But.of_same s4)
    have fm : H m = none := b3.free nm hm
    have nlm : l ≠ m := ne_of_none hl3 hm
    revert s4 hl4 hm4 D4 b4
    generalize upd H3 m (.lst [.str "none", .str "one", .str "most", .str "all", .str "early", .str "", .str "held", .str "late"]) = H4
    intro s4 hl4 hm4 D4 b4
    refine ⟨_, rfl, _, rfl, _, _, _, _, rfl, rfl, SqL.of hl4, ap, ?_⟩
    have C : Chg K H H4 d t l m ws := ⟨D4, b4, hl4, hm4, W⟩
    have c1 : cutV (ws.map V.str) none (some ((pl : Nat) : Int)) = (ws.take pl).map V.str := by rw [cut_to, List.map_take]
    have c2 : cutV (ws.map V.str) (some (((pl : Nat) : Int) + 1)) none = (ws.drop (pl + 1)).map V.str := by rw [show ((pl : Nat) : Int) + 1 = ((pl + 1 : Nat) : Int) by omega, cut_from, List.map_drop]
    have t1 : (ws.take pl).length ≤ 102 := by rw [List.length_take]; omega
    have t2 : (ws.drop (pl + 1)).length ≤ 102 := by rw [List.length_drop]; omega
    have t3 : (ws.take pl).length + (ws.drop (pl + 1)).length ≤ 102 := by rw [List.length_take, List.length_drop]; omega
    refine ⟨_, rfl, rfl, _, rfl, iteD (fun c => ?_) (fun c => ?_)⟩
    · refine ⟨⟨_, rfl⟩, _, rfl, _, rfl, _, rfl, l, _, rfl, SqL.of hl4, fun a1 n1 => ?_⟩
      rw [c1]
      have s5 := same_new (o := .lst ((ws.take pl).map V.str)) n1
      refine ⟨_, rfl, _, rfl, _, _, rfl, rfl, _, rfl, l, _, rfl, SqL.of (s5 _ _ hl4), fun a2 n2 => ?_⟩
      rw [c2]
      have s6 := same_new (o := .lst ((ws.drop (pl + 1)).map V.str)) n2
      refine ⟨a1, a2, _, _, rfl, rfl, s6 _ _ upd_same, upd_same, Nat.le_trans (m := 1000) (by rw [List.length_map, List.length_map]; omega) big, fun a3 n3 => ?_⟩
      have W9 : WB (ws.take pl ++ ws.drop (pl + 1)) := W.sub (by rw [List.length_append]; omega) (fun u hu => by
        rcases List.mem_append.mp hu with h | h
        · exact List.mem_of_mem_take h
        · exact List.mem_of_mem_drop h)
      refine ⟨_, a3, ws.take pl ++ ws.drop (pl + 1), rfl, rfl, .inl (SqL.of (by rw [upd_same, List.map_append])), W9.room, ?_⟩
      have C9 := C.same ((s5.trans s6).trans (same_new (o := .lst (List.map V.str (ws.take pl) ++ List.map V.str (ws.drop (pl + 1)))) n3))
      exact q _ _ (Nat.le_trans W9.join (by decide)) C9.D C9.b
    clear c
    refine ⟨_, rfl, rfl, _, rfl, iteD (fun c => ?_) (fun c => ?_)⟩
    · refine ⟨⟨_, rfl⟩, _, rfl, _, rfl, _, rfl, l, _, rfl, SqL.of hl4, fun a1 n1 => ?_⟩
      rw [c1]
      have s5 := same_new (o := .lst ((ws.take pl).map V.str)) n1
      refine ⟨_, rfl, _, rfl, by show 2 ≤ sizeLine; decide, fun a4 n4 => ?_⟩
      have s7 := same_new (o := .lst [.str wd, .str wd]) n4
      refine ⟨a1, a4, _, _, rfl, rfl, s7 _ _ upd_same, upd_same, Nat.le_trans (m := 1000) (by rw [List.length_map]; show _ + 2 ≤ 1000; omega) big, fun a5 n5 => ?_⟩
      have s8 := same_new (o := .lst ((ws.take pl).map V.str ++ [.str wd, .str wd])) n5
      refine ⟨_, rfl, _, rfl, _, _, rfl, rfl, _, rfl, l, _, rfl, SqL.of (s8 _ _ (s7 _ _ (s5 _ _ hl4))), fun a2 n2 => ?_⟩
      rw [c2]
      have s6 := same_new (o := .lst ((ws.drop (pl + 1)).map V.str)) n2
      refine ⟨a5, a2, _, _, rfl, rfl, s6 _ _ upd_same, upd_same, Nat.le_trans (m := 1000) (by rw [List.length_append, List.length_map, List.length_map]; show _ + 2 + _ ≤ 1000; omega) big, fun a3 n3 => ?_⟩
      have W9 : WB (ws.take pl ++ [wd, wd] ++ ws.drop (pl + 1)) := W.sub (by rw [List.length_append, List.length_append]; show _ + 2 + _ ≤ 104; omega) (fun u hu => by
        rcases List.mem_append.mp hu with h | h
        · rcases List.mem_append.mp h with h | h
          · exact List.mem_of_mem_take h
          · have h : u = wd := by simpa using h
            rw [h]; exact List.mem_of_getElem? hwd
        · exact List.mem_of_mem_drop h)
      refine ⟨_, a3, ws.take pl ++ [wd, wd] ++ ws.drop (pl + 1), rfl, rfl, .inl (SqL.of (by rw [upd_same, List.map_append, List.map_append]; rfl)), W9.room, ?_⟩
      have C9 := C.same ((((s5.trans s7).trans s8).trans s6).trans (same_new (o := .lst (List.map V.str (ws.take pl) ++ [.str wd, .str wd] ++ List.map V.str (ws.drop (pl + 1)))) n3))
      exact q _ _ (Nat.le_trans W9.join (by decide)) C9.D C9.b
    clear c
    obtain ⟨ws', ew, C⟩ : ∃ ws', ws'.length = ws.length ∧ Chg K H H4 d t l m ws' := ⟨ws, rfl, C⟩
    have ndl : d ≠ l := D.nd hl
    clear hl1 hl2 hl3 hl4 hm4 D4 b4 s4
    revert C
    generalize H4 = H5
    intro C
    refine ⟨fun σ' H' => σ' = [some (.ref d), some (.ref t), some (.str z), some (.ref l), some (.int ch), some (.int (pl : Nat)), some (.int (ot : Nat)), some (.ref m), some (.str wd)] ∧ ∃ ws', ws'.length = ws.length ∧ Chg K H H' d t l m ws', ?_, ?_⟩
    · refine ⟨_, rfl, rfl, _, rfl, iteD (fun c => ?_) (fun c => ⟨rfl, ws', ew, C⟩)⟩
      obtain ⟨u, hu, au, lu⟩ := C.W.at (i := ot) (by omega)
      refine ⟨_, rfl, _, rfl, _, _, _, _, rfl, rfl, SqL.of C.hl, au, _, rfl, _, rfl, _, _, _, pl, rfl, rfl, C.hl, ixN_nat (by rw [List.length_map]; omega), ?_⟩
      have C6 := C.set (i := pl) hl nl nlm ndl lu
      refine ⟨_, rfl, _, rfl, _, rfl, _, _, _, ot, rfl, rfl, C6.hl, ixN_nat (by rw [List.length_map, List.length_set]; omega), ?_⟩
      exact ⟨rfl, _, by rw [List.length_set, List.length_set]; exact ew, C6.set (i := ot) hl nl nlm ndl (by omega)⟩
    clear C ew ws' H5
    rintro σ' H5 ⟨rfl, ws', ew, C⟩
    refine ⟨fun σ' H' => σ' = [some (.ref d), some (.ref t), some (.str z), some (.ref l), some (.int ch), some (.int (pl : Nat)), some (.int (ot : Nat)), some (.ref m), some (.str wd)] ∧ ∃ ws', ws'.length = ws.length ∧ Chg K H H' d t l m ws', ?_, ?_⟩
    · refine ⟨_, rfl, rfl, _, rfl, iteD (fun c => ?_) (fun c => ⟨rfl, ws', ew, C⟩)⟩
      refine ⟨_, rfl, ⟨_, rfl⟩, _, rfl, rfl, by omega, _, rfl, _, rfl, _, _, _, pl, rfl, rfl, C.hl, ixN_nat (by rw [List.length_map]; omega), ?_⟩
      exact ⟨rfl, _, by rw [List.length_set]; exact ew, C.set (i := pl) hl nl nlm ndl (by have := PyProof.Rows.len_upper wd; omega)⟩
    clear C ew ws' H5
    rintro σ' H5 ⟨rfl, ws', ew, C⟩
    refine ⟨fun σ' H' => σ' = [some (.ref d), some (.ref t), some (.str z), some (.ref l), some (.int ch), some (.int (pl : Nat)), some (.int (ot : Nat)), some (.ref m), some (.str wd)] ∧ ∃ ws', ws'.length = ws.length ∧ Chg K H H' d t l m ws', ?_, ?_⟩
    · refine ⟨_, rfl, rfl, _, rfl, iteD (fun c => ?_) (fun c => ⟨rfl, ws', ew, C⟩)⟩
      have zl : wd.length ≤ sizeLine := Nat.le_trans (m := 1000) (by omega) big
      refine ⟨_, rfl, _, rfl, _, rfl, zl, _, _, rfl, rfl, _, rfl, _, rfl, zl, _, rfl, _, rfl, _, _, _, pl, rfl, rfl, C.hl, ixN_nat (by rw [List.length_map]; omega), ?_⟩
      exact ⟨rfl, _, by rw [List.length_set]; exact ew, C.set (i := pl) hl nl nlm ndl (Nat.le_trans (cutS_len _ _ _) (by omega))⟩
    clear C ew ws' H5
    rintro σ' H5 ⟨rfl, ws', ew, C⟩
    refine ⟨fun σ' H' => σ' = [some (.ref d), some (.ref t), some (.str z), some (.ref l), some (.int ch), some (.int (pl : Nat)), some (.int (ot : Nat)), some (.ref m), some (.str wd)] ∧ ∃ ws', ws'.length = ws.length ∧ Chg K H H' d t l m ws', ?_, ?_⟩
    · refine ⟨_, rfl, rfl, _, rfl, iteD (fun c => ?_) (fun c => ⟨rfl, ws', ew, C⟩)⟩
      refine ⟨_, rfl, _, rfl, _, rfl, d, t, 8, rfl, C.D, by decide, fun r H6 r0 r1 D6 b6 => ?_⟩
      have C6 := C.take nl nm D6 b6
      obtain ⟨v, hv, mv⟩ := at_ok (xs := [.str "none", .str "one", .str "most", .str "all", .str "early", .str "", .str "held", .str "late"]) r0 r1
      obtain ⟨u, rfl, lu⟩ := menu_str mv
      refine ⟨_, _, _, _, rfl, rfl, SqL.of C6.hm, hv, _, rfl, _, rfl, _, _, _, pl, rfl, rfl, C6.hl, ixN_nat (by rw [List.length_map]; omega), ?_⟩
      exact ⟨rfl, _, by rw [List.length_set]; exact ew, C6.set (i := pl) hl nl nlm ndl (by omega)⟩
    clear C ew ws' H5
    rintro σ' H5 ⟨rfl, ws', ew, C⟩
    refine ⟨_, rfl, rfl, _, rfl, iteD (fun c => ?_) (fun c => ?_)⟩
    · have z2 : ((" early" : Str)).length ≤ 10 := by decide +kernel
      exact ⟨_, rfl, _, _, rfl, rfl, Nat.le_trans (m := 1000) (by omega) big, q _ _ (by rw [slen_app]; omega) C.D C.b⟩
    clear c
    refine ⟨_, rfl, rfl, _, rfl, iteD (fun c => ?_) (fun c => ?_)⟩
    · have c1' : cutV (ws'.map V.str) none (some ((pl : Nat) : Int)) = (ws'.take pl).map V.str := by rw [cut_to, List.map_take]
      have c2' : cutV (ws'.map V.str) (some ((pl : Nat) : Int)) none = (ws'.drop pl).map V.str := by rw [cut_from, List.map_drop]
      have W1 : WB (ws'.take pl) := C.W.sub (by rw [List.length_take]; have := C.W.1; omega) (fun _ h => List.mem_of_mem_take h)
      have W2 : WB (ws'.drop pl) := C.W.sub (by rw [List.length_drop]; have := C.W.1; omega) (fun _ h => List.mem_of_mem_drop h)
      have j1 := W1.join
      have j2 := W2.join
      have z2 : (("  " : Str)).length = 2 := by decide +kernel
      have bigg : 90000 ≤ sizeLine := by decide
      refine ⟨⟨_, rfl⟩, _, rfl, _, rfl, _, rfl, l, _, rfl, SqL.of C.hl, fun a1 n1 => ?_⟩
      rw [c1']
      have s5 := same_new (o := .lst ((ws'.take pl).map V.str)) n1
      refine ⟨_, a1, ws'.take pl, rfl, rfl, .inl (SqL.of upd_same), W1.room, _, _, rfl, rfl, Nat.le_trans (m := 90000) (by omega) bigg, ⟨_, rfl⟩, _, rfl, _, rfl, _, rfl, l, _, rfl, SqL.of (s5 _ _ C.hl), fun a2 n2 => ?_⟩
      rw [c2']
      have C9 := (C.same s5).same (same_new (o := .lst ((ws'.drop pl).map V.str)) n2)
      refine ⟨_, a2, ws'.drop pl, rfl, rfl, .inl (SqL.of upd_same), W2.room, _, _, rfl, rfl, Nat.le_trans (m := 90000) (by rw [slen_app]; omega) bigg, ?_⟩
      exact q _ _ (by rw [slen_app, slen_app]; omega) C9.D C9.b
    clear c
    refine ⟨_, rfl, rfl, _, rfl, iteD (fun c => ?_) (fun c => ?_)⟩
    · have z2 : ((" " : Str)).length = 1 := by decide +kernel
      have k0 : (0 : Int) ≤ ((ot : Nat) : Int) % 2 := Int.emod_nonneg _ (by decide)
      have k1 : ((ot : Nat) : Int) % 2 < 2 := Int.emod_lt_of_pos _ (by decide)
      obtain ⟨v, hv, mv⟩ := at_ok (xs := [.str ((" " : Str) ++ z), .str (z ++ (" " : Str))]) k0 k1
      refine ⟨_, rfl, _, _, rfl, rfl, Nat.le_trans (m := 1000) (by omega) big, _, rfl, _, _, rfl, rfl, Nat.le_trans (m := 1000) (by omega) big, by show 2 ≤ sizeLine; decide, fun a1 n1 => ?_⟩
      have C9 := C.same (same_new (o := .lst [.str ((" " : Str) ++ z), .str (z ++ (" " : Str))]) n1)
      refine ⟨_, rfl, .inl ⟨_, rfl, _, _, rfl, rfl, by show (0 : Int) < _; decide, _, _, _, _, rfl, rfl, SqL.of upd_same, hv, ?_⟩⟩
      simp only [List.mem_cons, List.not_mem_nil, or_false] at mv
      rcases mv with rfl | rfl <;> exact q _ _ (by (try rw [slen_app]); omega) C9.D C9.b
    clear c
    refine ⟨_, rfl, rfl, _, rfl, iteD (fun c => ?_) (fun c => ?_)⟩
    · have z2 : (("\n" : Str)).length = 1 := by decide +kernel
      have z3 : (("" : Str)).length = 0 := by decide +kernel
      have k0 : (0 : Int) ≤ ((ot : Nat) : Int) % 3 := Int.emod_nonneg _ (by decide)
      have k1 : ((ot : Nat) : Int) % 3 < 3 := Int.emod_lt_of_pos _ (by decide)
      obtain ⟨v, hv, mv⟩ := at_ok (xs := [.str (z ++ ("\n" : Str)), .str (("\n" : Str) ++ z), .str (("" : Str))]) k0 k1
      refine ⟨_, rfl, _, _, rfl, rfl, Nat.le_trans (m := 1000) (by omega) big, _, rfl, _, _, rfl, rfl, Nat.le_trans (m := 1000) (by omega) big, by show 3 ≤ sizeLine; decide, fun a1 n1 => ?_⟩
      have C9 := C.same (same_new (o := .lst [.str (z ++ ("\n" : Str)), .str (("\n" : Str) ++ z), .str (("" : Str))]) n1)
      refine ⟨_, rfl, .inl ⟨_, rfl, _, _, rfl, rfl, by show (0 : Int) < _; decide, _, _, _, _, rfl, rfl, SqL.of upd_same, hv, ?_⟩⟩
      simp only [List.mem_cons, List.not_mem_nil, or_false] at mv
      rcases mv with rfl | rfl | rfl <;> exact q _ _ (by (try rw [slen_app]); omega) C9.D C9.b
    clear c
    refine ⟨_, rfl, rfl, _, rfl, iteD (fun c => ?_) (fun c => ?_)⟩
    · have e : ("\t" : Str).length = 1 := by decide +kernel
      have h := TK.replace_len z " " "\t"
      rw [e] at h
      exact ⟨_, rfl, _, rfl, by rw [e]; omega, q _ _ (by omega) C.D C.b⟩
    clear c
    exact ⟨⟨_, rfl⟩, _, rfl, _, _, ws', rfl, rfl, .inl (SqL.of C.hl), C.W.room, q _ _ (Nat.le_trans C.W.join (by decide)) C.D C.b⟩
end
end My

namespace My
open PySem L2
def spLaw (K : PySem.W.Frag) : Sp := fun vs H Q _ => ∃ (a : Addr) (ns : List Int), vs = [.ref a] ∧ SqL K H a (ns.map V.int) ∧ ns.length ≤ 63 ∧ ∀ H', Q (.bl true) H'
theorem toldV_dn (K : PySem.W.Frag) (x : Addr) (H : Hp) (t : Str) : ∃ ds, Paired (Dn K x H 0) (toldV t) ds ∧ (toldV t).length ≤ 100000 := by
  unfold toldV
  split
  · exact ⟨_, .cons (.str _) (.cons (.str _) (.cons (.str _) (.cons (.bl _) .nil))), by show 4 ≤ 100000; decide⟩
  · exact ⟨_, .cons (.str _) (.cons (.int _) .nil), by show 2 ≤ 100000; decide⟩
section
variable {w : World} {K : PySem.W.Frag} {mg : Str → Option Value} {base : Heap}
set_option maxHeartbeats 16000000 in
theorem ok_law (T : Txt K mg) : FnOk PP w K mg base CX0 12 T.a_law T.fd_law ["_law_script"] (spLaw K) := by
  refine T.F_law.ok sc_law (fun vs H Q E h => ?_) (fun cdv A outer s H vs Q E hr h => ?_)
  · obtain ⟨a, ns, rfl, _⟩ := h; rfl
  · obtain ⟨a0, ns, rfl, hS, hlen, q⟩ := h
    refine ⟨_, (pss_cons (ps_set (i := 1) sc_law.nd rfl (.inl rfl) (pe_call (ok__law_draws T) (hr.mono (by omega)) (by rfl) T.g__law_draws T.F__law_draws.kp T.b__law_draws .nil pass0 (pa_cons (pv 0) pa_nil)))
      (pss_cons (ps_set (i := 2) sc_law.nd rfl (.inl rfl) (pe_lst (pa_cons (pe_int) pa_nil)))
      (pss_cons (ps_set (i := 3) sc_law.nd rfl (.inl rfl) (pe_lst (pa_cons (pe_str) (pa_cons (pe_str) (pa_cons (pe_str) (pa_cons (pe_str) pa_nil))))))
      (pss_cons (ps_for PassesOwn.never rfl (pi_range1 (by rfl) T.n_range (pa_cons (pe_int) pa_nil)) (pg_name (i := 4) sc_law.nd rfl (.inl rfl)) (pss_cons (ps_set (i := 5) sc_law.nd rfl (.inl rfl) (pe_lst (pa_cons (pe_call (ok__law_take T) (hr.mono (by omega)) (by rfl) T.g__law_take T.F__law_take.kp T.b__law_take .nil pass0 (pa_cons (pv 1) (pa_cons (pv 2) (pa_cons (pe_int) pa_nil)))) (pa_cons (pe_call (ok__law_take T) (hr.mono (by omega)) (by rfl) T.g__law_take T.F__law_take.kp T.b__law_take .nil pass0 (pa_cons (pv 1) (pa_cons (pv 2) (pa_cons (pe_int) pa_nil)))) (pa_cons (pe_call (ok__law_take T) (hr.mono (by omega)) (by rfl) T.g__law_take T.F__law_take.kp T.b__law_take .nil pass0 (pa_cons (pv 1) (pa_cons (pv 2) (pa_cons (pe_int) pa_nil)))) (pa_cons (pe_cmpR op_eq (pe_call (ok__law_take T) (hr.mono (by omega)) (by rfl) T.g__law_take T.F__law_take.kp T.b__law_take .nil pass0 (pa_cons (pv 1) (pa_cons (pv 2) (pa_cons (pe_int) pa_nil)))) (pe_int) (nomark _)) pa_nil))))))
      (pss_cons (ps_set (i := 6) sc_law.nd rfl (.inl rfl) (pe_makeN T.mk_Way (ok_Way_init T) (hr.mono (by omega)) (by rfl) T.g_Way T.kb_Way_init_4_early pass0 (pa_cons (pe_ix ix_list (pv 3) (pe_ix ix_list (pv 5) (pe_int) (fun _ _ => rfl)) (fun _ _ => rfl)) (pa_cons (pe_ix ix_list (pv 3) (pe_ix ix_list (pv 5) (pe_int) (fun _ _ => rfl)) (fun _ _ => rfl)) (pa_cons (pe_ix ix_list (pv 3) (pe_ix ix_list (pv 5) (pe_int) (fun _ _ => rfl)) (fun _ _ => rfl)) pa_nil))) (pk_cons (pe_ix ix_list (pv 5) (pe_int) (fun _ _ => rfl)) pk_nil)))
      (pss_cons (ps_set (i := 7) sc_law.nd rfl (.inl rfl) (pe_callTy (call_strI T.m_Way_str (ok_Way_str T) (hr.mono (by omega)) T.b_Way_str pass0) (by rfl) T.n_str (by decide +kernel) (pa_cons (pv 6) pa_nil)))
      (pss_cons (ps_if (pt_not (pt_val (pe_call (ok__law_same T 1) (hr.mono (by omega)) (by rfl) T.g__law_same T.F__law_same.kp T.b__law_same .nil pass0 (pa_cons (pv 7) (pa_cons (pe_call (ok__law_form T) (hr.mono (by omega)) (by rfl) T.g__law_form T.F__law_form.kp T.b__law_form .nil pass0 (pa_cons (pe_call (ok__law_adjusted T) (hr.mono (by omega)) (by rfl) T.g__law_adjusted T.F__law_adjusted.kp T.b__law_adjusted .nil pass0 (pa_cons (pv 5) pa_nil)) pa_nil)) pa_nil))))) (pss_one (ps_ret (pe_bl))) pss_nil)
      (pss_cons (ps_if (pt_not (pt_val (pe_call (ok__law_same T 1) (hr.mono (by omega)) (by rfl) T.g__law_same T.F__law_same.kp T.b__law_same .nil pass0 (pa_cons (pe_cmpR (op_cmpI (fun _ _ => rfl) T.m_Way_eq.at_ T.m_Way_eq.fn (ok_Way_eq T) (hr.mono (by omega)) T.b_Way_eq pass0) (pe_smeth (pe_glob (v := .ref T.c_Way) (by rfl) T.g_Way rfl) T.cr_Way T.sm_Way_read ((ok_Way_read T).calm) (hr.mono (by omega)) T.b_Way_read pass0 (pa_cons (pv 7) pa_nil)) (pv 6) (nomark _)) (pa_cons (pe_bl) pa_nil))))) (pss_one (ps_ret (pe_bl))) pss_nil)
      (pss_cons (ps_set (i := 8) sc_law.nd rfl (.inl rfl) (pe_call (ok__law_form T) (hr.mono (by omega)) (by rfl) T.g__law_form T.F__law_form.kp T.b__law_form .nil pass0 (pa_cons (pv 5) pa_nil)))
      (pss_cons (ps_if (pt_not (pt_val (pe_call (ok__law_same T 1) (hr.mono (by omega)) (by rfl) T.g__law_same T.F__law_same.kp T.b__law_same .nil pass0 (pa_cons (pe_call (ok__law_told T) (hr.mono (by omega)) (by rfl) T.g__law_told T.F__law_told.kp T.b__law_told .nil pass0 (pa_cons (pv 8) pa_nil)) (pa_cons (pe_call (ok__law_words T) (hr.mono (by omega)) (by rfl) T.g__law_words T.F__law_words.kp T.b__law_words .nil pass0 (pa_cons (pe_call (ok__law_adjusted T) (hr.mono (by omega)) (by rfl) T.g__law_adjusted T.F__law_adjusted.kp T.b__law_adjusted .nil pass0 (pa_cons (pv 5) pa_nil)) pa_nil)) pa_nil))))) (pss_one (ps_ret (pe_bl))) pss_nil)
      (pss_cons (ps_set (i := 9) sc_law.nd rfl (.inl rfl) (pe_call (ok__law_changed T) (hr.mono (by omega)) (by rfl) T.g__law_changed T.F__law_changed.kp T.b__law_changed .nil pass0 (pa_cons (pv 1) (pa_cons (pv 2) (pa_cons (pv 8) pa_nil)))))
      (pss_cons (ps_if (pt_not (pt_val (pe_call (ok__law_same T 1) (hr.mono (by omega)) (by rfl) T.g__law_same T.F__law_same.kp T.b__law_same .nil pass0 (pa_cons (pe_call (ok__law_told T) (hr.mono (by omega)) (by rfl) T.g__law_told T.F__law_told.kp T.b__law_told .nil pass0 (pa_cons (pv 9) pa_nil)) (pa_cons (pe_call (ok__law_due T) (hr.mono (by omega)) (by rfl) T.g__law_due T.F__law_due.kp T.b__law_due .nil pass0 (pa_cons (pv 9) pa_nil)) pa_nil))))) (pss_one (ps_ret (pe_bl))) pss_nil)
      (pss_one (ps_if (pt_not (pt_val (pe_call (ok__law_same T 1) (hr.mono (by omega)) (by rfl) T.g__law_same T.F__law_same.kp T.b__law_same .nil pass0 (pa_cons (pe_call (ok__law_told T) (hr.mono (by omega)) (by rfl) T.g__law_told T.F__law_told.kp T.b__law_told .nil pass0 (pa_cons (pv 7) pa_nil)) (pa_cons (pe_call (ok__law_words T) (hr.mono (by omega)) (by rfl) T.g__law_words T.F__law_words.kp T.b__law_words .nil pass0 (pa_cons (pe_call (ok__law_adjusted T) (hr.mono (by omega)) (by rfl) T.g__law_adjusted T.F__law_adjusted.kp T.b__law_adjusted .nil pass0 (pa_cons (pv 5) pa_nil)) pa_nil)) pa_nil))))) (pss_one (ps_ret (pe_bl))) pss_nil))))))))))))
      (pss_one (ps_ret (pe_bl))))))), ?_⟩
    refine ⟨_, rfl, a0, ns, rfl, hS, hlen, fun d zs H1 s1 nd hd => ?_⟩
    refine ⟨Nat.le_of_lt (small1000 (by decide)), fun t hat => ?_⟩
    have D0 : Dr K (upd H1 t (.lst [.int 0])) d t := ⟨⟨zs, same_new hat _ _ hd⟩, ⟨0, upd_same⟩, ne_of_none hd hat⟩
    refine ⟨by show 4 ≤ sizeLine; decide, fun l hl => ?_⟩
    have nl : l ≠ t := D0.na hl
    have D0' := D0.same (same_new (o := .lst levV) hl)
    refine ⟨4, rfl, by decide, by decide, for_range (lo := 0) (n := 4) (fun j σ H' => ∃ x4 x5 x6 x7 x8 x9, σ = [some (.ref a0), some (.ref d), some (.ref t), some (.ref l), x4, x5, x6, x7, x8, x9] ∧ Dr K H' d t ∧ H' l = some (.lst levV)) ⟨_, _, _, _, _, _, rfl, D0', upd_same⟩ ?_ ?_⟩
    · rintro j σ H2 hj ⟨x4, x5, x6, x7, x8, x9, rfl, D2, hl2⟩
      refine ⟨_, rfl, _, rfl, d, t, 4, rfl, D2, by decide, fun r1 H3 h10 h11 D3 b3 => ?_⟩
      refine ⟨_, rfl, _, rfl, d, t, 4, rfl, D3, by decide, fun r2 H4 h20 h21 D4 b4 => ?_⟩
      refine ⟨_, rfl, _, rfl, d, t, 4, rfl, D4, by decide, fun r3 H5 h30 h31 D5 b5 => ?_⟩
      refine ⟨_, rfl, _, rfl, d, t, 2, rfl, D5, by decide, fun r4 H6 _ _ D6 b6 => ⟨rfl, by show 4 ≤ sizeLine; decide, fun p hp => ?_⟩⟩
      obtain ⟨a, rfl⟩ := Int.eq_ofNat_of_zero_le h10
      obtain ⟨b, rfl⟩ := Int.eq_ofNat_of_zero_le h20
      obtain ⟨c, rfl⟩ := Int.eq_ofNat_of_zero_le h30
      obtain ⟨e, ee⟩ : ∃ e, e = decide (V.int r4 = V.int 1) := ⟨_, rfl⟩
      rw [← ee]
      have ha : a < 4 := by omega
      have hb : b < 4 := by omega
      have hc : c < 4 := by omega
      have npt : p ≠ t := D6.na hp
      have hl6 := (((b3.trans b4).trans b5).trans b6) _ _ nl hl2
      have s7 := same_new (o := LwO a b c e) hp
      have D7 := D6.same s7
      have hl7 := s7 _ _ hl6
      have hp7 : (upd H6 p (LwO a b c e)) p = some (LwO a b c e) := upd_same
      change gName 5 (.ref p) _ (upd H6 p (LwO a b c e)) _
      clear hl6 s7 D6 hp
      revert D7 hl7 hp7
      generalize upd H6 p (LwO a b c e) = H7
      intro D7 hl7 hp7
      refine ⟨_, rfl, _, rfl, _, _, _, _, rfl, rfl, SqL.of hp7, at_of (j := 0) rfl rfl, _, _, _, _, rfl, rfl, SqL.of hl7, at_of (j := a) rfl (levV_at ha), ?_⟩
      refine ⟨_, rfl, _, rfl, _, _, _, _, rfl, rfl, SqL.of hp7, at_of (j := 1) rfl rfl, _, _, _, _, rfl, rfl, SqL.of hl7, at_of (j := b) rfl (levV_at hb), ?_⟩
      refine ⟨_, rfl, _, rfl, _, _, _, _, rfl, rfl, SqL.of hp7, at_of (j := 2) rfl rfl, _, _, _, _, rfl, rfl, SqL.of hl7, at_of (j := c) rfl (levV_at hc), ?_⟩
      refine ⟨_, rfl, _, _, _, _, rfl, rfl, SqL.of hp7, at_of (j := 3) rfl rfl, rfl, rfl, fun x dx nx ndx ne => ⟨x, dx, a, b, c, e, rfl, ha, hb, hc, upd_same, fun H8 b8 hx8 => ⟨rfl, ?_⟩⟩⟩
      have s8 := same_make nx ndx b8
      have ha' : max a b < 4 := by omega
      have hc' : max c (max a b) < 4 := by omega
      have m1 : max (max a b) b = max a b := by omega
      have m2 : max (max c (max a b)) (max a b) = max c (max a b) := by omega
      have F1 : Fm (formS a b c e) a b c e := ⟨ha, hb, hc, rfl⟩
      have F2 : Fm (formS (max a b) b (max c (max a b)) e) (max a b) b (max c (max a b)) e := ⟨ha', hb, hc', rfl⟩
      have f1 := form_len a ha b hb c hc e
      have f2 := form_len _ ha' b hb _ hc' e
      have D8 := D7.same s8
      have hp8 := s8 _ _ hp7
      have hl8 := s8 _ _ hl7
      have nxt : x ≠ t := D7.na nx
      refine ⟨_, rfl, x, dx, _, rfl, hx8, x, max a b, b, max c (max a b), e, rfl, ⟨dx, hx8⟩, ha', hb, hc', fun H9 s9 => ⟨_, rfl, ?_⟩⟩
      refine ⟨_, rfl, _, rfl, p, a, b, c, e, rfl, ha, hb, hc, SqL.of (s9 _ _ hp8), fun u hu => ⟨u, max a b, b, max c (max a b), e, rfl, ha', hb, hc', SqL.of upd_same, fun H10 s10 => ⟨t, _, _, .str _, .str _, rfl, .str _, .str _, _, rfl, iteNo nsame ?_⟩⟩⟩
      have t10 := s9.trans ((same_new hu).trans s10)
      refine ⟨rfl, _, rfl, formS (max a b) b (max c (max a b)) e, rfl, by omega, fun a1 b1 c1 e1 f y H11 s11 ny hy => ?_, fun no _ _ _ _ _ => no _ _ _ _ F2⟩
      obtain ⟨rfl, rfl, rfl, rfl⟩ := f.inj F2
      rw [m1, m2] at hy
      obtain ⟨dy, hy⟩ := hy
      have t11 := t10.trans s11
      refine ⟨_, rfl, y, dy, _, x, dx, _, rfl, rfl, hy, t11 _ _ hx8, y, x, _, _, _, _, _, _, _, _, rfl, ⟨dy, hy⟩, ⟨dx, t11 _ _ hx8⟩, ha', hb, hc', ha', hb, hc', fun H12 s12 => ?_⟩
      have e0 : eqB (max a b1) b1 (max c (max a b1)) e1 (max a b1) b1 (max c (max a b1)) e1 = true := by unfold eqB; simp
      rw [e0]
      refine ⟨t, _, _, .bool true, .bool true, rfl, .bl _, .bl _, _, rfl, iteNo nsame ?_⟩
      have t12 := t11.trans s12
      have D12 := D8.same t12
      have hp12 := t12 _ _ hp8
      refine ⟨_, rfl, p, a, b1, c, e1, rfl, ha, hb, hc, SqL.of hp12, fun H13 s13 => ?_⟩
      have D13 := D12.same s13
      have hp13 := s13 _ _ hp12
      refine ⟨_, rfl, formS a b1 c e1, rfl, by omega, fun r1 H14 s14 n14 h14 => ⟨_, rfl, p, a, b1, c, e1, rfl, ha, hb, hc, SqL.of (s14 _ _ hp13), fun u1 hu1 => ⟨u1, max a b1, b1, max c (max a b1), e1, rfl, ha', hb, hc', SqL.of upd_same, fun r2 H15 s15 n15 h15 => ?_⟩⟩⟩
      rw [toldV_yes F1] at h14
      have t15 := (same_new (o := LwO (max a b1) b1 (max c (max a b1)) e1) hu1).trans s15
      have D14 := D13.same s14
      refine ⟨t, _, _, .list [.str (levn (max a b1)), .str (levn b1), .str (levn (max c (max a b1))), .bool e1], .list [.str (levn (max a b1)), .str (levn b1), .str (levn (max c (max a b1))), .bool e1], rfl,
        Dn.lst (D13.na n14) (SqL.of (t15 _ _ h14)) (.cons (.str _) (.cons (.str _) (.cons (.str _) (.cons (.bl _) .nil)))), Dn.lst ((D14.same (same_new (o := LwO (max a b1) b1 (max c (max a b1)) e1) hu1)).na n15) (SqL.of h15) (.cons (.str _) (.cons (.str _) (.cons (.str _) (.cons (.bl _) .nil)))), _, rfl, iteNo nsame ?_⟩
      have D15 := D14.same t15
      refine ⟨_, rfl, _, rfl, _, rfl, d, t, formS a b1 c e1, rfl, D15, f1, fun y9 H16 ly D16 b16 => ?_⟩
      have hp16 := b16 _ _ npt (t15 _ _ (s14 _ _ hp13))
      have hl16 := b16 _ _ nl (t15 _ _ (s14 _ _ (s13 _ _ (t12 _ _ hl8))))
      refine ⟨_, rfl, y9, rfl, ly, fun r3 H17 s17 n17 h17 => ⟨_, rfl, y9, rfl, fun r4 H18 s18 n18 h18 => ?_⟩⟩
      have D17 := D16.same s17
      obtain ⟨ds, pd, ln⟩ := toldV_dn K t H18 y9
      refine ⟨t, _, _, .list ds, .list ds, rfl, Dn.lst (D16.na n17) (SqL.of (s18 _ _ h17)) pd ln, Dn.lst (D17.na n18) (SqL.of h18) pd ln, _, rfl, iteNo nsame ?_⟩
      have D18 := D17.same s18
      have hp18 := s18 _ _ (s17 _ _ hp16)
      have hl18 := s18 _ _ (s17 _ _ hl16)
      refine ⟨_, rfl, _, rfl, by omega, fun r1 H14 s14 n14 h14 => ⟨_, rfl, p, a, b1, c, e1, rfl, ha, hb, hc, SqL.of (s14 _ _ hp18), fun u1 hu1 => ⟨u1, max a b1, b1, max c (max a b1), e1, rfl, ha', hb, hc', SqL.of upd_same, fun r2 H15 s15 n15 h15 => ?_⟩⟩⟩
      rw [toldV_yes F2, m1, m2] at h14
      have t15 := (same_new (o := LwO (max a b1) b1 (max c (max a b1)) e1) hu1).trans s15
      have D14 := D18.same s14
      refine ⟨t, _, _, .list [.str (levn (max a b1)), .str (levn b1), .str (levn (max c (max a b1))), .bool e1], .list [.str (levn (max a b1)), .str (levn b1), .str (levn (max c (max a b1))), .bool e1], rfl,
        Dn.lst (D18.na n14) (SqL.of (t15 _ _ h14)) (.cons (.str _) (.cons (.str _) (.cons (.str _) (.cons (.bl _) .nil)))), Dn.lst ((D14.same (same_new (o := LwO (max a b1) b1 (max c (max a b1)) e1) hu1)).na n15) (SqL.of h15) (.cons (.str _) (.cons (.str _) (.cons (.str _) (.cons (.bl _) .nil)))), _, rfl, iteNo nsame ?_⟩
      exact ⟨_, _, _, _, _, _, rfl, D14.same t15, t15 _ _ (s14 _ _ hl18)⟩
    · rintro σ H2 ⟨x4, x5, x6, x7, x8, x9, rfl, D2, hl2⟩
      exact q H2
end
end My

namespace My
open PySem L2
theorem all_mk {w : World} {K : PySem.W.Frag} {h : Heap} {mg : Str → Option Value} {fa : Addr} (X : K.In h) (G : h.Ns mainGlobals mg) (hfa : mg "law" = some (.ref fa))
    {c_Way : Addr}
    {f_rank : Addr} {od_rank an_rank : Option Addr} {sl_rank : Array (Option Value)} {oc_rank kV_rank dc_rank pm_rank cd_rank ct_rank : Value}
    {f_Way_init : Addr} {od_Way_init an_Way_init : Option Addr} {sl_Way_init : Array (Option Value)} {oc_Way_init dc_Way_init pm_Way_init cd_Way_init ct_Way_init : Value}
    {dt_Way_init : Addr} {odt_Way_init : Option Addr} {cdt_Way_init : Value} {ndt_Way_init : Nat} {sdt_Way_init : Array (Option Value)} {tt_Way_init_0 : Tok} {tt_Way_init_1 : Tok} {tt_Way_init_2 : Tok}
    {kd_Way_init : Addr} 
    {f_Way_eq : Addr} {od_Way_eq an_Way_eq : Option Addr} {sl_Way_eq : Array (Option Value)} {oc_Way_eq kV_Way_eq dc_Way_eq pm_Way_eq cd_Way_eq ct_Way_eq : Value}
    {f_Way_str : Addr} {od_Way_str an_Way_str : Option Addr} {sl_Way_str : Array (Option Value)} {oc_Way_str kV_Way_str dc_Way_str pm_Way_str cd_Way_str ct_Way_str : Value}
    {f_Way_read : Addr} {od_Way_read an_Way_read : Option Addr} {sl_Way_read : Array (Option Value)} {oc_Way_read kV_Way_read dc_Way_read pm_Way_read cd_Way_read ct_Way_read : Value}
    {p_Way_read : Addr} {rs_Way_read : List Value}
    {f_way_of : Addr} {od_way_of an_way_of : Option Addr} {sl_way_of : Array (Option Value)} {oc_way_of kV_way_of dc_way_of pm_way_of cd_way_of ct_way_of : Value}
    {f__law_draws : Addr} {od__law_draws an__law_draws : Option Addr} {sl__law_draws : Array (Option Value)} {oc__law_draws kV__law_draws dc__law_draws pm__law_draws cd__law_draws ct__law_draws : Value}
    {f__law_take : Addr} {od__law_take an__law_take : Option Addr} {sl__law_take : Array (Option Value)} {oc__law_take kV__law_take dc__law_take pm__law_take cd__law_take ct__law_take : Value}
    {f__law_same : Addr} {od__law_same an__law_same : Option Addr} {sl__law_same : Array (Option Value)} {oc__law_same kV__law_same dc__law_same pm__law_same cd__law_same ct__law_same : Value}
    {f__law_adjusted : Addr} {od__law_adjusted an__law_adjusted : Option Addr} {sl__law_adjusted : Array (Option Value)} {oc__law_adjusted kV__law_adjusted dc__law_adjusted pm__law_adjusted cd__law_adjusted ct__law_adjusted : Value}
    {f__law_fields : Addr} {od__law_fields an__law_fields : Option Addr} {sl__law_fields : Array (Option Value)} {oc__law_fields kV__law_fields dc__law_fields pm__law_fields cd__law_fields ct__law_fields : Value}
    {f__law_words : Addr} {od__law_words an__law_words : Option Addr} {sl__law_words : Array (Option Value)} {oc__law_words kV__law_words dc__law_words pm__law_words cd__law_words ct__law_words : Value}
    {f__law_form : Addr} {od__law_form an__law_form : Option Addr} {sl__law_form : Array (Option Value)} {oc__law_form kV__law_form dc__law_form pm__law_form cd__law_form ct__law_form : Value}
    {f__law_due : Addr} {od__law_due an__law_due : Option Addr} {sl__law_due : Array (Option Value)} {oc__law_due kV__law_due dc__law_due pm__law_due cd__law_due ct__law_due : Value}
    {f__law_changed : Addr} {od__law_changed an__law_changed : Option Addr} {sl__law_changed : Array (Option Value)} {oc__law_changed kV__law_changed dc__law_changed pm__law_changed cd__law_changed ct__law_changed : Value}
    {f__law_told : Addr} {od__law_told an__law_told : Option Addr} {sl__law_told : Array (Option Value)} {oc__law_told kV__law_told dc__law_told pm__law_told cd__law_told ct__law_told : Value}
    {f_law : Addr} {od_law an_law : Option Addr} {sl_law : Array (Option Value)} {oc_law kV_law dc_law pm_law cd_law ct_law : Value}
    {q_LEVELS : Addr} {oq_LEVELS : Option Addr} {nq_LEVELS : Nat} {slq_LEVELS : Array (Option Value)} {t_LEVELS_0 : Tok} {t_LEVELS_1 : Tok} {t_LEVELS_2 : Tok} {t_LEVELS_3 : Tok}
    {c_BadText : Addr}
    {c_WebError : Addr}
    {c_BadLevel : Addr}
    {c_Refused : Addr}
    {c_UnknownMark : Addr}
    {nm_BadText q_BadText : Str} {N_BadText : Addr} {bs_BadText : List Value} {sn_BadText : List Str} {sub_BadText : List Value} {ab_BadText : Bool} {col_BadText : Option Bool} {dd_BadText : Option Addr} {m0_BadText m1_BadText m2_BadText m3_BadText m5_BadText : Option Value}
    {f_BadText cda_BadText cc_BadText : Addr} {od_BadText an_BadText cld_BadText cdd_BadText : Option Addr} {osl_BadText csl_BadText ccs_BadText : Array (Option Value)} {oc_BadText kV_BadText dc_BadText pm_BadText ct_BadText cl_BadText ccl_BadText : Value} {vs_BadText : Array Value} {file_BadText : Str} {tf_BadText : Tok}
    (gc_Way : PySem.W.nsIn K mainGlobals "Way" = some (some (.ref c_Way)))
    (a_rank : PySem.W.nsIn K mainGlobals "rank" = some (some (.ref f_rank)))
    (l_rank : K.lookup f_rank = some ⟨oc_rank, od_rank, .func (PySem.W.fnOf "rank" "rank" (defArgs S_rank) (defBody S_rank) (defScope S_rank) .none kV_rank dc_rank pm_rank an_rank cd_rank ct_rank), sl_rank⟩)
    (c_rank : PySem.W.codeIn K cd_rank "rank" = true)
    (k_rank : PySem.W.keepIn K (.ref f_rank) = true)
    (a_Way_init : PySem.W.findIn K (.ref c_Way) "__init__" = some (some (.ref f_Way_init)))
    (l_Way_init : K.lookup f_Way_init = some ⟨oc_Way_init, od_Way_init, .func (PySem.W.fnOf "__init__" "Way.__init__" (defArgs S_Way_init) (defBody S_Way_init) (defScope S_Way_init) (.ref dt_Way_init) (.ref kd_Way_init) dc_Way_init pm_Way_init an_Way_init cd_Way_init ct_Way_init), sl_Way_init⟩)
    (c_Way_init : PySem.W.codeIn K cd_Way_init "Way.__init__" = true)
    (k_Way_init : PySem.W.keepIn K (.ref f_Way_init) = true)
    (lt_Way_init : K.lookup dt_Way_init = some ⟨cdt_Way_init, odt_Way_init, .seq #[.str "none" tt_Way_init_0, .str "none" tt_Way_init_1, .str "none" tt_Way_init_2] ndt_Way_init, sdt_Way_init⟩)
    (nk_Way_init_early : PySem.W.nsIn K kd_Way_init "early" = some (some (.bool false)))
    (a_Way_eq : PySem.W.findIn K (.ref c_Way) "__eq__" = some (some (.ref f_Way_eq)))
    (l_Way_eq : K.lookup f_Way_eq = some ⟨oc_Way_eq, od_Way_eq, .func (PySem.W.fnOf "__eq__" "Way.__eq__" (defArgs S_Way_eq) (defBody S_Way_eq) (defScope S_Way_eq) .none kV_Way_eq dc_Way_eq pm_Way_eq an_Way_eq cd_Way_eq ct_Way_eq), sl_Way_eq⟩)
    (c_Way_eq : PySem.W.codeIn K cd_Way_eq "Way.__eq__" = true)
    (k_Way_eq : PySem.W.keepIn K (.ref f_Way_eq) = true)
    (a_Way_str : PySem.W.findIn K (.ref c_Way) "__str__" = some (some (.ref f_Way_str)))
    (l_Way_str : K.lookup f_Way_str = some ⟨oc_Way_str, od_Way_str, .func (PySem.W.fnOf "__str__" "Way.__str__" (defArgs S_Way_str) (defBody S_Way_str) (defScope S_Way_str) .none kV_Way_str dc_Way_str pm_Way_str an_Way_str cd_Way_str ct_Way_str), sl_Way_str⟩)
    (c_Way_str : PySem.W.codeIn K cd_Way_str "Way.__str__" = true)
    (k_Way_str : PySem.W.keepIn K (.ref f_Way_str) = true)
    (sf_Way_read : PySem.W.findCls K (.ref c_Way) (.type "type") "read" = some (.get (.builtin "staticmethod.__get__") (.ref p_Way_read) .none (.ref c_Way)))
    (sr_Way_read : PySem.W.recIn K p_Way_read "staticmethod" = some (.ref f_Way_read :: rs_Way_read))
    (l_Way_read : K.lookup f_Way_read = some ⟨oc_Way_read, od_Way_read, .func (PySem.W.fnOf "read" "Way.read" (defArgs S_Way_read) (defBody S_Way_read) (defScope S_Way_read) .none kV_Way_read dc_Way_read pm_Way_read an_Way_read cd_Way_read ct_Way_read), sl_Way_read⟩)
    (c_Way_read : PySem.W.codeIn K cd_Way_read "Way.read" = true)
    (k_Way_read : PySem.W.keepIn K (.ref f_Way_read) = true)
    (a_way_of : PySem.W.nsIn K mainGlobals "way_of" = some (some (.ref f_way_of)))
    (l_way_of : K.lookup f_way_of = some ⟨oc_way_of, od_way_of, .func (PySem.W.fnOf "way_of" "way_of" (defArgs S_way_of) (defBody S_way_of) (defScope S_way_of) .none kV_way_of dc_way_of pm_way_of an_way_of cd_way_of ct_way_of), sl_way_of⟩)
    (c_way_of : PySem.W.codeIn K cd_way_of "way_of" = true)
    (k_way_of : PySem.W.keepIn K (.ref f_way_of) = true)
    (a__law_draws : PySem.W.nsIn K mainGlobals "_law_draws" = some (some (.ref f__law_draws)))
    (l__law_draws : K.lookup f__law_draws = some ⟨oc__law_draws, od__law_draws, .func (PySem.W.fnOf "_law_draws" "_law_draws" (defArgs S__law_draws) (defBody S__law_draws) (defScope S__law_draws) .none kV__law_draws dc__law_draws pm__law_draws an__law_draws cd__law_draws ct__law_draws), sl__law_draws⟩)
    (c__law_draws : PySem.W.codeIn K cd__law_draws "_law_draws" = true)
    (k__law_draws : PySem.W.keepIn K (.ref f__law_draws) = true)
    (a__law_take : PySem.W.nsIn K mainGlobals "_law_take" = some (some (.ref f__law_take)))
    (l__law_take : K.lookup f__law_take = some ⟨oc__law_take, od__law_take, .func (PySem.W.fnOf "_law_take" "_law_take" (defArgs S__law_take) (defBody S__law_take) (defScope S__law_take) .none kV__law_take dc__law_take pm__law_take an__law_take cd__law_take ct__law_take), sl__law_take⟩)
    (c__law_take : PySem.W.codeIn K cd__law_take "_law_take" = true)
    (k__law_take : PySem.W.keepIn K (.ref f__law_take) = true)
    (a__law_same : PySem.W.nsIn K mainGlobals "_law_same" = some (some (.ref f__law_same)))
    (l__law_same : K.lookup f__law_same = some ⟨oc__law_same, od__law_same, .func (PySem.W.fnOf "_law_same" "_law_same" (defArgs S__law_same) (defBody S__law_same) (defScope S__law_same) .none kV__law_same dc__law_same pm__law_same an__law_same cd__law_same ct__law_same), sl__law_same⟩)
    (c__law_same : PySem.W.codeIn K cd__law_same "_law_same" = true)
    (k__law_same : PySem.W.keepIn K (.ref f__law_same) = true)
    (a__law_adjusted : PySem.W.nsIn K mainGlobals "_law_adjusted" = some (some (.ref f__law_adjusted)))
    (l__law_adjusted : K.lookup f__law_adjusted = some ⟨oc__law_adjusted, od__law_adjusted, .func (PySem.W.fnOf "_law_adjusted" "_law_adjusted" (defArgs S__law_adjusted) (defBody S__law_adjusted) (defScope S__law_adjusted) .none kV__law_adjusted dc__law_adjusted pm__law_adjusted an__law_adjusted cd__law_adjusted ct__law_adjusted), sl__law_adjusted⟩)
    (c__law_adjusted : PySem.W.codeIn K cd__law_adjusted "_law_adjusted" = true)
    (k__law_adjusted : PySem.W.keepIn K (.ref f__law_adjusted) = true)
    (a__law_fields : PySem.W.nsIn K mainGlobals "_law_fields" = some (some (.ref f__law_fields)))
    (l__law_fields : K.lookup f__law_fields = some ⟨oc__law_fields, od__law_fields, .func (PySem.W.fnOf "_law_fields" "_law_fields" (defArgs S__law_fields) (defBody S__law_fields) (defScope S__law_fields) .none kV__law_fields dc__law_fields pm__law_fields an__law_fields cd__law_fields ct__law_fields), sl__law_fields⟩)
    (c__law_fields : PySem.W.codeIn K cd__law_fields "_law_fields" = true)
    (k__law_fields : PySem.W.keepIn K (.ref f__law_fields) = true)
    (a__law_words : PySem.W.nsIn K mainGlobals "_law_words" = some (some (.ref f__law_words)))
    (l__law_words : K.lookup f__law_words = some ⟨oc__law_words, od__law_words, .func (PySem.W.fnOf "_law_words" "_law_words" (defArgs S__law_words) (defBody S__law_words) (defScope S__law_words) .none kV__law_words dc__law_words pm__law_words an__law_words cd__law_words ct__law_words), sl__law_words⟩)
    (c__law_words : PySem.W.codeIn K cd__law_words "_law_words" = true)
    (k__law_words : PySem.W.keepIn K (.ref f__law_words) = true)
    (a__law_form : PySem.W.nsIn K mainGlobals "_law_form" = some (some (.ref f__law_form)))
    (l__law_form : K.lookup f__law_form = some ⟨oc__law_form, od__law_form, .func (PySem.W.fnOf "_law_form" "_law_form" (defArgs S__law_form) (defBody S__law_form) (defScope S__law_form) .none kV__law_form dc__law_form pm__law_form an__law_form cd__law_form ct__law_form), sl__law_form⟩)
    (c__law_form : PySem.W.codeIn K cd__law_form "_law_form" = true)
    (k__law_form : PySem.W.keepIn K (.ref f__law_form) = true)
    (a__law_due : PySem.W.nsIn K mainGlobals "_law_due" = some (some (.ref f__law_due)))
    (l__law_due : K.lookup f__law_due = some ⟨oc__law_due, od__law_due, .func (PySem.W.fnOf "_law_due" "_law_due" (defArgs S__law_due) (defBody S__law_due) (defScope S__law_due) .none kV__law_due dc__law_due pm__law_due an__law_due cd__law_due ct__law_due), sl__law_due⟩)
    (c__law_due : PySem.W.codeIn K cd__law_due "_law_due" = true)
    (k__law_due : PySem.W.keepIn K (.ref f__law_due) = true)
    (a__law_changed : PySem.W.nsIn K mainGlobals "_law_changed" = some (some (.ref f__law_changed)))
    (l__law_changed : K.lookup f__law_changed = some ⟨oc__law_changed, od__law_changed, .func (PySem.W.fnOf "_law_changed" "_law_changed" (defArgs S__law_changed) (defBody S__law_changed) (defScope S__law_changed) .none kV__law_changed dc__law_changed pm__law_changed an__law_changed cd__law_changed ct__law_changed), sl__law_changed⟩)
    (c__law_changed : PySem.W.codeIn K cd__law_changed "_law_changed" = true)
    (k__law_changed : PySem.W.keepIn K (.ref f__law_changed) = true)
    (a__law_told : PySem.W.nsIn K mainGlobals "_law_told" = some (some (.ref f__law_told)))
    (l__law_told : K.lookup f__law_told = some ⟨oc__law_told, od__law_told, .func (PySem.W.fnOf "_law_told" "_law_told" (defArgs S__law_told) (defBody S__law_told) (defScope S__law_told) .none kV__law_told dc__law_told pm__law_told an__law_told cd__law_told ct__law_told), sl__law_told⟩)
    (c__law_told : PySem.W.codeIn K cd__law_told "_law_told" = true)
    (k__law_told : PySem.W.keepIn K (.ref f__law_told) = true)
    (a_law : PySem.W.nsIn K mainGlobals "law" = some (some (.ref f_law)))
    (l_law : K.lookup f_law = some ⟨oc_law, od_law, .func (PySem.W.fnOf "law" "law" (defArgs S_law) (defBody S_law) (defScope S_law) .none kV_law dc_law pm_law an_law cd_law ct_law), sl_law⟩)
    (c_law : PySem.W.codeIn K cd_law "law" = true)
    (k_law : PySem.W.keepIn K (.ref f_law) = true)
    (z_ValueError : PySem.W.nsIn K mainGlobals "ValueError" = some none)
    (z_bool : PySem.W.nsIn K mainGlobals "bool" = some none)
    (z_enumerate : PySem.W.nsIn K mainGlobals "enumerate" = some none)
    (z_int : PySem.W.nsIn K mainGlobals "int" = some none)
    (z_isinstance : PySem.W.nsIn K mainGlobals "isinstance" = some none)
    (z_len : PySem.W.nsIn K mainGlobals "len" = some none)
    (z_list : PySem.W.nsIn K mainGlobals "list" = some none)
    (z_range : PySem.W.nsIn K mainGlobals "range" = some none)
    (z_staticmethod : PySem.W.nsIn K mainGlobals "staticmethod" = some none)
    (z_str : PySem.W.nsIn K mainGlobals "str" = some none)
    (z_tuple : PySem.W.nsIn K mainGlobals "tuple" = some none)
    (aq_LEVELS : PySem.W.nsIn K mainGlobals "LEVELS" = some (some (.ref q_LEVELS)))
    (lq_LEVELS : K.lookup q_LEVELS = some ⟨.type "tuple", oq_LEVELS, .seq #[.str "none" t_LEVELS_0, .str "one" t_LEVELS_1, .str "most" t_LEVELS_2, .str "all" t_LEVELS_3] nq_LEVELS, slq_LEVELS⟩)
    (pg_Way : PySem.W.plainGet K c_Way Str.empty = true)
    (hd_Way : PySem.W.hasDictIn K c_Way = true)
    (po_Way : PySem.W.plainOver K c_Way = true)
    (sa_Way : PySem.W.findIn K (.ref c_Way) "__setattr__" = some (some (.builtin "object.__setattr__")))
    (kc_Way : PySem.W.keepIn K (.ref c_Way) = true)
    (i_Way_init : PySem.W.isFn K (.ref f_Way_init) = true)
    (mk_Way : PySem.W.makesIn K c_Way = true)
    (i_Way_eq : PySem.W.isFn K (.ref f_Way_eq) = true)
    (i_Way_str : PySem.W.isFn K (.ref f_Way_str) = true)
    (rdc_Way : PySem.W.readsIn K c_Way (.type "type") = true)
    (gac_Way : PySem.W.specialIn K (.ref c_Way) "__getattribute__" = some (some (.builtin "type.__getattribute__")))
    (hca_Way : PySem.W.findIn K (.ref c_Way) "__class__" = some (some (.builtin "object.__class__")))
    (hcn_Way : PySem.W.specialIn K (.builtin "object.__class__") "__get__" = some (some (.builtin "getset_descriptor.__get__")))
    (hct_Way : PySem.W.takesIn K (.builtin "object.__class__") = some true)
    (hcm_Way : PySem.W.mroIn K c_Way (.type "object") = some true)
    (no_Way_held : PySem.W.findIn K (.ref c_Way) "held" = some none)
    (no_Way_owned : PySem.W.findIn K (.ref c_Way) "owned" = some none)
    (no_Way_seen : PySem.W.findIn K (.ref c_Way) "seen" = some none)
    (no_Way_early : PySem.W.findIn K (.ref c_Way) "early" = some none)
    (gc_BadText : PySem.W.nsIn K mainGlobals "BadText" = some (some (.ref c_BadText)))
    (gc_WebError : PySem.W.nsIn K mainGlobals "WebError" = some (some (.ref c_WebError)))
    (gc_BadLevel : PySem.W.nsIn K mainGlobals "BadLevel" = some (some (.ref c_BadLevel)))
    (gc_Refused : PySem.W.nsIn K mainGlobals "Refused" = some (some (.ref c_Refused)))
    (gc_UnknownMark : PySem.W.nsIn K mainGlobals "UnknownMark" = some (some (.ref c_UnknownMark)))
    (wb_WebError : PySem.W.subIn K (.ref c_WebError) (.type "BaseException") = some true)
    (wd_WebError : PySem.W.hasDictIn K c_WebError = true)
    (wt_WebError : PySem.W.typeIn K (.ref c_WebError) = some (.type "type"))
    (xz_super : PySem.W.nsIn K mainGlobals "super" = some none)
    (x_opq : PySem.W.nsIn K cStatics "thirdparty.any" = some none)
    (x_hn : PySem.W.specialIn K (.builtin "object.__class__") "__get__" = some (some (.builtin "getset_descriptor.__get__")))
    (x_ht : PySem.W.takesIn K (.builtin "object.__class__") = some true)
    (xl_BadText : K.lookup c_BadText = some (excClassObj nm_BadText q_BadText c_BadText N_BadText bs_BadText [.ref c_WebError, .type "ValueError", .type "Exception", .type "BaseException", .type "object"] true sn_BadText sub_BadText ab_BadText col_BadText dd_BadText m0_BadText m1_BadText m2_BadText m3_BadText m5_BadText "ValueError.__new__"))
    (xsa_BadText : PySem.W.findIn K (.ref c_BadText) "__setattr__" = some (some (.builtin "object.__setattr__")))
    (xga_BadText : PySem.W.findIn K (.ref c_BadText) "__getattribute__" = some (some (.builtin "BaseException.__getattribute__")))
    (xgg_BadText : PySem.W.findIn K (.ref c_BadText) "__getattr__" = some none)
    (xno_BadText : PySem.W.findIn K (.ref c_BadText) "line" = some none)
    (xk_BadText : PySem.W.keepIn K (.ref c_BadText) = true)
    (xb_BadText : PySem.W.subIn K (.ref c_BadText) (.type "BaseException") = some true)
    (xt_BadText : PySem.W.typeIn K (.ref c_BadText) = some (.type "type"))
    (xd_BadText : PySem.W.hasDictIn K c_BadText = true)
    (xi_BadText : PySem.W.findIn K (.ref c_BadText) "__init__" = some (some (.ref f_BadText)))
    (xf_BadText : PySem.W.typeIn K (.ref f_BadText) = some (.type "function"))
    (xfl_BadText : K.lookup f_BadText = some ⟨oc_BadText, od_BadText, .func (PySem.W.ksFn "__init__" "BadText.__init__" (defArgs S_BadText_init) (defBody S_BadText_init) (defScope S_BadText_init) .none kV_BadText dc_BadText pm_BadText an_BadText (.ref cda_BadText) ct_BadText cc_BadText), osl_BadText⟩)
    (xci_BadText : PySem.W.codeIn K (.ref cda_BadText) "BadText.__init__" = true)
    (xcc_BadText : K.lookup cc_BadText = some ⟨cl_BadText, cld_BadText, .cell (some (.ref c_BadText)), csl_BadText⟩)
    (xcd_BadText : K.lookup cda_BadText = some ⟨ccl_BadText, cdd_BadText, .fields vs_BadText, ccs_BadText⟩)
    (xvs_BadText : vs_BadText[2]? = some (.str file_BadText tf_BadText))
    (xfi_BadText : ((PP.main.file : Str) == file_BadText) = true)
    (xnx_BadText : PySem.W.ks_superIn K c_BadText c_BadText "__init__" = some (some (.builtin "ValueError.__init__")))
    (xsl_BadText : PySem.W.mroIn K c_BadText (.ref c_BadText) = some true)
    (xsu_BadText : PySem.W.subIn K (.ref c_BadText) (.type "ValueError") = some true)
    (xha_BadText : PySem.W.findIn K (.ref c_BadText) "__class__" = some (some (.builtin "object.__class__")))
    (xhm_BadText : PySem.W.mroIn K c_BadText (.type "object") = some true)
    (ws_BadText_WebError : PySem.W.subIn K (.ref c_BadText) (.ref c_WebError) = some true)
    (kt_BadText_BadText : PySem.W.kitOne K (.ref c_BadText) (.ref c_BadText) = some true)
    (kt_BadText_Refused : PySem.W.kitOne K (.ref c_BadText) (.ref c_Refused) = some false)
    (kt_BadText_UnknownMark : PySem.W.kitOne K (.ref c_BadText) (.ref c_UnknownMark) = some false)
    (kt_BadText_BadLevel : PySem.W.kitOne K (.ref c_BadText) (.ref c_BadLevel) = some false)
    (kt_BadText_ValueError : PySem.W.kitOne K (.ref c_BadText) (.type "ValueError") = some true)
    : ∃ fd : FuncData, (∀ (s : Shared) (v : Value), BindsTo s fd ⟨[v], []⟩ [("_law_script", v)]) ∧ ∀ base : Heap, K.In base → base.Ns mainGlobals mg → FnOk PP w K mg base CX0 12 fa fd ["_law_script"] (spLaw K) := by
  have e := hfa.symm.trans (PySem.W.mg_of X G a_law)
  cases e
  have FD_Way_init : FunD K "__init__" "Way.__init__" (defArgs S_Way_init) (defBody S_Way_init) (defScope S_Way_init) [.str "none", .str "none", .str "none"] [("early", .bl false)] f_Way_init (PySem.W.fnOf "__init__" "Way.__init__" (defArgs S_Way_init) (defBody S_Way_init) (defScope S_Way_init) (.ref dt_Way_init) (.ref kd_Way_init) dc_Way_init pm_Way_init an_Way_init cd_Way_init ct_Way_init) := ⟨⟨_, _, _, _, _, _, _, _, _, _, rfl, l_Way_init, c_Way_init, .inr ⟨by simp, dt_Way_init, _, [.str "none" tt_Way_init_0, .str "none" tt_Way_init_1, .str "none" tt_Way_init_2], _, rfl, lt_Way_init, rfl, (.cons ⟨_, rfl⟩ (.cons ⟨_, rfl⟩ (.cons ⟨_, rfl⟩ .nil)))⟩, .inr ⟨kd_Way_init, rfl, fun q hq => by
      simp only [List.mem_cons, List.not_mem_nil, or_false] at hq
      rcases hq with rfl
      · exact ⟨_, nk_Way_init_early, rfl⟩⟩⟩, k_Way_init⟩
  have Hkb_Way_init_4_early : KBn K (PySem.W.fnOf "__init__" "Way.__init__" (defArgs S_Way_init) (defBody S_Way_init) (defScope S_Way_init) (.ref dt_Way_init) (.ref kd_Way_init) dc_Way_init pm_Way_init an_Way_init cd_Way_init ct_Way_init) ["self", "held", "owned", "seen", "early"] 4 ["early"] (fun us ws => us ++ ws) (fun vs zs => vs ++ zs) := by
    obtain ⟨its, mv, h⟩ := FunD.kbinds (ps := ["self", "held", "owned", "seen", "early"]) FD_Way_init 4 ["early"] [] (fun us its mv ws => us ++ ws) (by simp) (by simp) (by simp) (fun r1 r2 r3 r4 => r1.append r4) (fun T D doc pm an cdv ct us its mv ws l1 l2 l3 l4 => match us, ws, mv, its, l1, l4, l3, l2 with | [_, _, _, _], [_], [], [_, _, _], _, _, _, _ => ⟨_, rfl, rfl⟩)
    exact h
  have XT_BadText : PySem.WX.ExcTxt PP K mg "BadText" "line" c_BadText := { gC := PySem.W.mg_of X G gc_BadText, cls := ⟨nm_BadText, q_BadText, N_BadText, bs_BadText, _, sn_BadText, sub_BadText, ab_BadText, col_BadText, dd_BadText, m0_BadText, m1_BadText, m2_BadText, m3_BadText, m5_BadText, xl_BadText, rfl⟩, sa := xsa_BadText, ga := xga_BadText, gg := xgg_BadText, noN := xno_BadText, kC := xk_BadText, exC := xb_BadText, tyC := xt_BadText, hdC := xd_BadText, fI := f_BadText, qual := "BadText.__init__", tx := _, S := S_BadText_init, oc := oc_BadText, od := od_BadText, kV := kV_BadText, doc := dc_BadText, pm := pm_BadText, an := an_BadText, cda := cda_BadText, ct := ct_BadText, osl := osl_BadText, cc := cc_BadText, cl := cl_BadText, cld := cld_BadText, csl := csl_BadText, ccl := ccl_BadText, cdd := cdd_BadText, vs := vs_BadText, ccs := ccs_BadText, file := file_BadText, tf := tf_BadText, q1 := _, q2 := _, q3 := _, q4 := _, q5 := _, q6 := _, q7 := _, q8 := _, q9 := _, q10 := _, j := _, pl := _, iC := xi_BadText, tI := xf_BadText, lI := xfl_BadText, cI := xci_BadText, lcc := xcc_BadText, lcd := xcd_BadText, hvs := xvs_BadText, hfile := xfi_BadText, hpar := ⟨_, rfl, rfl⟩, hbody := rfl, hbind := fun _ _ => rfl, hev := fun _ _ => rfl, hk := rfl, hco := rfl, hgen := rfl, hks := rfl, hkc := rfl, hself := rfl, hfl := rfl, hcell := by decide +kernel, nf := by decide +kernel, top := by decide +kernel, sup := PySem.W.mg_none_of X G xz_super, opq := x_opq, nxt := xnx_BadText, slf := xsl_BadText, sub := xsu_BadText }
  let T : Txt K mg := {
    a_rank := f_rank,
    fd_rank := _,
    F_rank := fun_mk (st := S_rank) l_rank c_rank k_rank,
    b_rank := (fun_mk (st := S_rank) l_rank c_rank k_rank).binds (ps := ["level"]) fun _ _ _ _ _ _ us hl => match us, hl with | [_], _ => rfl,
    g_rank := PySem.W.mg_of X G a_rank,
    a_Way_init := f_Way_init,
    fd_Way_init := _,
    F_Way_init := FD_Way_init,
    a_Way_eq := f_Way_eq,
    fd_Way_eq := _,
    F_Way_eq := fun_mk (st := S_Way_eq) l_Way_eq c_Way_eq k_Way_eq,
    b_Way_eq := (fun_mk (st := S_Way_eq) l_Way_eq c_Way_eq k_Way_eq).binds (ps := ["self", "other"]) fun _ _ _ _ _ _ us hl => match us, hl with | [_, _], _ => rfl,
    a_Way_str := f_Way_str,
    fd_Way_str := _,
    F_Way_str := fun_mk (st := S_Way_str) l_Way_str c_Way_str k_Way_str,
    b_Way_str := (fun_mk (st := S_Way_str) l_Way_str c_Way_str k_Way_str).binds (ps := ["self"]) fun _ _ _ _ _ _ us hl => match us, hl with | [_], _ => rfl,
    a_Way_read := f_Way_read,
    fd_Way_read := _,
    F_Way_read := fun_mk (st := S_Way_read) l_Way_read c_Way_read k_Way_read,
    b_Way_read := (fun_mk (st := S_Way_read) l_Way_read c_Way_read k_Way_read).binds (ps := ["text"]) fun _ _ _ _ _ _ us hl => match us, hl with | [_], _ => rfl,
    a_way_of := f_way_of,
    fd_way_of := _,
    F_way_of := fun_mk (st := S_way_of) l_way_of c_way_of k_way_of,
    b_way_of := (fun_mk (st := S_way_of) l_way_of c_way_of k_way_of).binds (ps := ["words", "line"]) fun _ _ _ _ _ _ us hl => match us, hl with | [_, _], _ => rfl,
    g_way_of := PySem.W.mg_of X G a_way_of,
    a__law_draws := f__law_draws,
    fd__law_draws := _,
    F__law_draws := fun_mk (st := S__law_draws) l__law_draws c__law_draws k__law_draws,
    b__law_draws := (fun_mk (st := S__law_draws) l__law_draws c__law_draws k__law_draws).binds (ps := ["_law_script"]) fun _ _ _ _ _ _ us hl => match us, hl with | [_], _ => rfl,
    g__law_draws := PySem.W.mg_of X G a__law_draws,
    a__law_take := f__law_take,
    fd__law_take := _,
    F__law_take := fun_mk (st := S__law_take) l__law_take c__law_take k__law_take,
    b__law_take := (fun_mk (st := S__law_take) l__law_take c__law_take k__law_take).binds (ps := ["_law_draws_here", "_law_at", "_law_size"]) fun _ _ _ _ _ _ us hl => match us, hl with | [_, _, _], _ => rfl,
    g__law_take := PySem.W.mg_of X G a__law_take,
    a__law_same := f__law_same,
    fd__law_same := _,
    F__law_same := fun_mk (st := S__law_same) l__law_same c__law_same k__law_same,
    b__law_same := (fun_mk (st := S__law_same) l__law_same c__law_same k__law_same).binds (ps := ["_law_actual", "_law_expected"]) fun _ _ _ _ _ _ us hl => match us, hl with | [_, _], _ => rfl,
    g__law_same := PySem.W.mg_of X G a__law_same,
    a__law_adjusted := f__law_adjusted,
    fd__law_adjusted := _,
    F__law_adjusted := fun_mk (st := S__law_adjusted) l__law_adjusted c__law_adjusted k__law_adjusted,
    b__law_adjusted := (fun_mk (st := S__law_adjusted) l__law_adjusted c__law_adjusted k__law_adjusted).binds (ps := ["_law_ranks"]) fun _ _ _ _ _ _ us hl => match us, hl with | [_], _ => rfl,
    g__law_adjusted := PySem.W.mg_of X G a__law_adjusted,
    a__law_fields := f__law_fields,
    fd__law_fields := _,
    F__law_fields := fun_mk (st := S__law_fields) l__law_fields c__law_fields k__law_fields,
    b__law_fields := (fun_mk (st := S__law_fields) l__law_fields c__law_fields k__law_fields).binds (ps := ["_law_way"]) fun _ _ _ _ _ _ us hl => match us, hl with | [_], _ => rfl,
    g__law_fields := PySem.W.mg_of X G a__law_fields,
    a__law_words := f__law_words,
    fd__law_words := _,
    F__law_words := fun_mk (st := S__law_words) l__law_words c__law_words k__law_words,
    b__law_words := (fun_mk (st := S__law_words) l__law_words c__law_words k__law_words).binds (ps := ["_law_ranks"]) fun _ _ _ _ _ _ us hl => match us, hl with | [_], _ => rfl,
    g__law_words := PySem.W.mg_of X G a__law_words,
    a__law_form := f__law_form,
    fd__law_form := _,
    F__law_form := fun_mk (st := S__law_form) l__law_form c__law_form k__law_form,
    b__law_form := (fun_mk (st := S__law_form) l__law_form c__law_form k__law_form).binds (ps := ["_law_ranks"]) fun _ _ _ _ _ _ us hl => match us, hl with | [_], _ => rfl,
    g__law_form := PySem.W.mg_of X G a__law_form,
    a__law_due := f__law_due,
    fd__law_due := _,
    F__law_due := fun_mk (st := S__law_due) l__law_due c__law_due k__law_due,
    b__law_due := (fun_mk (st := S__law_due) l__law_due c__law_due k__law_due).binds (ps := ["_law_text"]) fun _ _ _ _ _ _ us hl => match us, hl with | [_], _ => rfl,
    g__law_due := PySem.W.mg_of X G a__law_due,
    a__law_changed := f__law_changed,
    fd__law_changed := _,
    F__law_changed := fun_mk (st := S__law_changed) l__law_changed c__law_changed k__law_changed,
    b__law_changed := (fun_mk (st := S__law_changed) l__law_changed c__law_changed k__law_changed).binds (ps := ["_law_draws_here", "_law_at", "_law_text"]) fun _ _ _ _ _ _ us hl => match us, hl with | [_, _, _], _ => rfl,
    g__law_changed := PySem.W.mg_of X G a__law_changed,
    a__law_told := f__law_told,
    fd__law_told := _,
    F__law_told := fun_mk (st := S__law_told) l__law_told c__law_told k__law_told,
    b__law_told := (fun_mk (st := S__law_told) l__law_told c__law_told k__law_told).binds (ps := ["_law_text"]) fun _ _ _ _ _ _ us hl => match us, hl with | [_], _ => rfl,
    g__law_told := PySem.W.mg_of X G a__law_told,
    a_law := fa,
    fd_law := _,
    F_law := fun_mk (st := S_law) l_law c_law k_law,
    b_law := (fun_mk (st := S_law) l_law c_law k_law).binds (ps := ["_law_script"]) fun _ _ _ _ _ _ us hl => match us, hl with | [_], _ => rfl,
    g_law := PySem.W.mg_of X G a_law,
    n_ValueError := PySem.W.mg_none_of X G z_ValueError,
    n_bool := PySem.W.mg_none_of X G z_bool,
    n_enumerate := PySem.W.mg_none_of X G z_enumerate,
    n_int := PySem.W.mg_none_of X G z_int,
    n_isinstance := PySem.W.mg_none_of X G z_isinstance,
    n_len := PySem.W.mg_none_of X G z_len,
    n_list := PySem.W.mg_none_of X G z_list,
    n_range := PySem.W.mg_none_of X G z_range,
    n_staticmethod := PySem.W.mg_none_of X G z_staticmethod,
    n_str := PySem.W.mg_none_of X G z_str,
    n_tuple := PySem.W.mg_none_of X G z_tuple,
    k_LEVELS := q_LEVELS,
    g_LEVELS := PySem.W.mg_of X G aq_LEVELS,
    q_LEVELS := fun H => .inr ⟨_, _, _, lq_LEVELS, rfl, rfl, by show 4 ≤ sizeLine; decide, (.cons ⟨_, rfl⟩ (.cons ⟨_, rfl⟩ (.cons ⟨_, rfl⟩ (.cons ⟨_, rfl⟩ .nil))))⟩,
    c_Way := c_Way,
    g_Way := PySem.W.mg_of X G gc_Way,
    cl_Way := ⟨pg_Way, hd_Way, po_Way, sa_Way⟩,
    mk_Way := ⟨mk_Way, a_Way_init, i_Way_init, kc_Way⟩,
    m_Way_eq := ⟨a_Way_eq, i_Way_eq, k_Way_eq⟩,
    m_Way_str := ⟨a_Way_str, i_Way_str, k_Way_str⟩,
    p_Way_read := p_Way_read,
    sm_Way_read := ⟨sf_Way_read, ⟨_, sr_Way_read⟩, k_Way_read⟩,
    cr_Way := ⟨rdc_Way, gac_Way⟩,
    ti_Way := fun _ _ _ _ h => .ins h ⟨pg_Way, hd_Way, po_Way, sa_Way⟩ hca_Way hcn_Way hct_Way hcm_Way,
    kk_Way := if_pos (beq_self_eq_true _),
    no_Way_held := no_Way_held,
    no_Way_owned := no_Way_owned,
    no_Way_seen := no_Way_seen,
    no_Way_early := no_Way_early,
    kb_Way_init_4_early := Hkb_Way_init_4_early,
    c_BadText := c_BadText,
    g_BadText := PySem.W.mg_of X G gc_BadText,
    c_WebError := c_WebError,
    g_WebError := PySem.W.mg_of X G gc_WebError,
    c_BadLevel := c_BadLevel,
    g_BadLevel := PySem.W.mg_of X G gc_BadLevel,
    c_Refused := c_Refused,
    g_Refused := PySem.W.mg_of X G gc_Refused,
    c_UnknownMark := c_UnknownMark,
    g_UnknownMark := PySem.W.mg_of X G gc_UnknownMark,
    em_BadText_WebError := PySem.W.exm_ref wb_WebError wd_WebError wt_WebError ws_BadText_WebError,
    kt_BadText_BadText := kt_BadText_BadText,
    kt_BadText_Refused := kt_BadText_Refused,
    kt_BadText_UnknownMark := kt_BadText_UnknownMark,
    kt_BadText_BadLevel := kt_BadText_BadLevel,
    kt_BadText_ValueError := kt_BadText_ValueError,
    x_BadText := XT_BadText,
    xc_BadText := ⟨xga_BadText, xgg_BadText, xb_BadText, xd_BadText, xha_BadText, x_hn, x_ht, xhm_BadText⟩,
    xn_BadText := xno_BadText }
  exact ⟨T.fd_law, fun s v => .of_eq rfl, fun base _ _ => ok_law T⟩
end My
open PySem PySem.W PyProof.Rows in
set_option maxRecDepth 100000 in
set_option maxHeartbeats 0 in
theorem PySem.Challenge.cw_weblocks_k07_way_texts_holds : PySem.Challenge.rw_weblocks_k07_way_texts.Holds := by
  w_on; o_law; k_head; (case hw => w_witness2)
  k_fill
  refine L2.walk_of (l := PySem.Challenge.rw_weblocks_k07_way_texts) (n := 63) (k := 12) (x := "_law_script") (CX := fun _ => L2.CX0) (sp := fun w => My.spLaw _) rfl (by decide) rfl ⟨rfl, by decide, by decide⟩ (fun w h Y => PySem.W.kIn_of Y) ?F (fun _ _ a ns hl _ hS => ⟨a, ns, rfl, hS, hl, fun _ => rfl⟩) (fun _ _ _ _ _ h => h)
  case F =>
    intro w mg fa h KX G hmg
    refine' My.all_mk KX G hmg ?gc_Way ?a_rank ?l_rank ?c_rank ?k_rank ?a_Way_init ?l_Way_init ?c_Way_init ?k_Way_init ?lt_Way_init ?nk_Way_init_early ?a_Way_eq ?l_Way_eq ?c_Way_eq ?k_Way_eq ?a_Way_str ?l_Way_str ?c_Way_str ?k_Way_str ?sf_Way_read ?sr_Way_read ?l_Way_read ?c_Way_read ?k_Way_read ?a_way_of ?l_way_of ?c_way_of ?k_way_of ?a__law_draws ?l__law_draws ?c__law_draws ?k__law_draws ?a__law_take ?l__law_take ?c__law_take ?k__law_take ?a__law_same ?l__law_same ?c__law_same ?k__law_same ?a__law_adjusted ?l__law_adjusted ?c__law_adjusted ?k__law_adjusted ?a__law_fields ?l__law_fields ?c__law_fields ?k__law_fields ?a__law_words ?l__law_words ?c__law_words ?k__law_words ?a__law_form ?l__law_form ?c__law_form ?k__law_form ?a__law_due ?l__law_due ?c__law_due ?k__law_due ?a__law_changed ?l__law_changed ?c__law_changed ?k__law_changed ?a__law_told ?l__law_told ?c__law_told ?k__law_told ?a_law ?l_law ?c_law ?k_law ?z_ValueError ?z_bool ?z_enumerate ?z_int ?z_isinstance ?z_len ?z_list ?z_range ?z_staticmethod ?z_str ?z_tuple ?aq_LEVELS ?lq_LEVELS ?pg_Way ?hd_Way ?po_Way ?sa_Way ?kc_Way ?i_Way_init ?mk_Way ?i_Way_eq ?i_Way_str ?rdc_Way ?gac_Way ?hca_Way ?hcn_Way ?hct_Way ?hcm_Way ?no_Way_held ?no_Way_owned ?no_Way_seen ?no_Way_early ?gc_BadText ?gc_WebError ?gc_BadLevel ?gc_Refused ?gc_UnknownMark ?wb_WebError ?wd_WebError ?wt_WebError ?xz_super ?x_opq ?x_hn ?x_ht ?xl_BadText ?xsa_BadText ?xga_BadText ?xgg_BadText ?xno_BadText ?xk_BadText ?xb_BadText ?xt_BadText ?xd_BadText ?xi_BadText ?xf_BadText ?xfl_BadText ?xci_BadText ?xcc_BadText ?xcd_BadText ?xvs_BadText ?xfi_BadText ?xnx_BadText ?xsl_BadText ?xsu_BadText ?xha_BadText ?xhm_BadText ?ws_BadText_WebError ?kt_BadText_BadText ?kt_BadText_Refused ?kt_BadText_UnknownMark ?kt_BadText_BadLevel ?kt_BadText_ValueError
    (case gc_Way => k_is)
    (case a_rank => k_is)
    (case l_rank => k_is)
    (case c_rank => k_is)
    (case k_rank => k_is)
    (case a_Way_init => k_is)
    (case l_Way_init => k_is)
    (case c_Way_init => k_is)
    (case k_Way_init => k_is)
    (case lt_Way_init => k_is)
    (case nk_Way_init_early => k_is)
    (case a_Way_eq => k_is)
    (case l_Way_eq => k_is)
    (case c_Way_eq => k_is)
    (case k_Way_eq => k_is)
    (case a_Way_str => k_is)
    (case l_Way_str => k_is)
    (case c_Way_str => k_is)
    (case k_Way_str => k_is)
    (case sf_Way_read => k_is)
    (case sr_Way_read => k_is)
    (case l_Way_read => k_is)
    (case c_Way_read => k_is)
    (case k_Way_read => k_is)
    (case a_way_of => k_is)
    (case l_way_of => k_is)
    (case c_way_of => k_is)
    (case k_way_of => k_is)
    (case a__law_draws => k_is)
    (case l__law_draws => k_is)
    (case c__law_draws => k_is)
    (case k__law_draws => k_is)
    (case a__law_take => k_is)
    (case l__law_take => k_is)
    (case c__law_take => k_is)
    (case k__law_take => k_is)
    (case a__law_same => k_is)
    (case l__law_same => k_is)
    (case c__law_same => k_is)
    (case k__law_same => k_is)
    (case a__law_adjusted => k_is)
    (case l__law_adjusted => k_is)
    (case c__law_adjusted => k_is)
    (case k__law_adjusted => k_is)
    (case a__law_fields => k_is)
    (case l__law_fields => k_is)
    (case c__law_fields => k_is)
    (case k__law_fields => k_is)
    (case a__law_words => k_is)
    (case l__law_words => k_is)
    (case c__law_words => k_is)
    (case k__law_words => k_is)
    (case a__law_form => k_is)
    (case l__law_form => k_is)
    (case c__law_form => k_is)
    (case k__law_form => k_is)
    (case a__law_due => k_is)
    (case l__law_due => k_is)
    (case c__law_due => k_is)
    (case k__law_due => k_is)
    (case a__law_changed => k_is)
    (case l__law_changed => k_is)
    (case c__law_changed => k_is)
    (case k__law_changed => k_is)
    (case a__law_told => k_is)
    (case l__law_told => k_is)
    (case c__law_told => k_is)
    (case k__law_told => k_is)
    (case a_law => k_is)
    (case l_law => k_is)
    (case c_law => k_is)
    (case k_law => k_is)
    (case z_ValueError => k_is)
    (case z_bool => k_is)
    (case z_enumerate => k_is)
    (case z_int => k_is)
    (case z_isinstance => k_is)
    (case z_len => k_is)
    (case z_list => k_is)
    (case z_range => k_is)
    (case z_staticmethod => k_is)
    (case z_str => k_is)
    (case z_tuple => k_is)
    (case aq_LEVELS => k_is)
    (case lq_LEVELS => k_is)
    (case pg_Way => k_is)
    (case hd_Way => k_is)
    (case po_Way => k_is)
    (case sa_Way => k_is)
    (case kc_Way => k_is)
    (case i_Way_init => k_is)
    (case mk_Way => k_is)
    (case i_Way_eq => k_is)
    (case i_Way_str => k_is)
    (case rdc_Way => k_is)
    (case gac_Way => k_is)
    (case hca_Way => k_is)
    (case hcn_Way => k_is)
    (case hct_Way => k_is)
    (case hcm_Way => k_is)
    (case no_Way_held => k_is)
    (case no_Way_owned => k_is)
    (case no_Way_seen => k_is)
    (case no_Way_early => k_is)
    (case gc_BadText => k_is)
    (case gc_WebError => k_is)
    (case gc_BadLevel => k_is)
    (case gc_Refused => k_is)
    (case gc_UnknownMark => k_is)
    (case wb_WebError => k_is)
    (case wd_WebError => k_is)
    (case wt_WebError => k_is)
    (case xz_super => k_is)
    (case x_opq => k_is)
    (case x_hn => k_is)
    (case x_ht => k_is)
    (case xl_BadText => k_is)
    (case xsa_BadText => k_is)
    (case xga_BadText => k_is)
    (case xgg_BadText => k_is)
    (case xno_BadText => k_is)
    (case xk_BadText => k_is)
    (case xb_BadText => k_is)
    (case xt_BadText => k_is)
    (case xd_BadText => k_is)
    (case xi_BadText => k_is)
    (case xf_BadText => k_is)
    (case xfl_BadText => k_is)
    (case xci_BadText => k_is)
    (case xcc_BadText => k_is)
    (case xcd_BadText => k_is)
    (case xvs_BadText => rfl)
    (case xfi_BadText => first | rfl | decide +kernel)
    (case xnx_BadText => ks_is)
    (case xsl_BadText => k_is)
    (case xsu_BadText => k_is)
    (case xha_BadText => k_is)
    (case xhm_BadText => k_is)
    (case ws_BadText_WebError => k_is)
    (case kt_BadText_BadText => kit_is)
    (case kt_BadText_Refused => kit_is)
    (case kt_BadText_UnknownMark => kit_is)
    (case kt_BadText_BadLevel => kit_is)
    (case kt_BadText_ValueError => kit_is)
#print axioms PySem.Challenge.cw_weblocks_k07_way_texts_holds
