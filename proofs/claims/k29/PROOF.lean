import PyProof.Rows.All
import Wide.All
import OpenK.AllK
import Wide.FinOn
import HandS.ForMost
import KE.GoesMore
import HandS.Codes
import HandS.IsInst
import HandS.Defaults
import HandS.MakeKw
import HandS.MakeKwOnly
import HandS.Deep
import HandS.DictTup
import HandS.Remove
import HandS.Conv
import HandS.DeepEq
import KE.DataFind
import HandS.Rev
import HandS.ForDict
import HandS.WordsExc
import HandS.Style
import PySem.Challenge.RW_weblocks_k29_forward_order
set_option Elab.async false
set_option linter.all false
set_option maxRecDepth 100000
set_option maxHeartbeats 4000000
local macro_rules | `(tactic| walk_at "sd") => `(tactic| first | assumption | omega | decide | rfl | (refine And.intro ?_ ?_ <;> walk_at "sd") | (show _ < PySem.sizeLine; exact Nat.lt_of_le_of_lt (by omega : _ ≤ 100000) (by decide)) | (show _ ≤ PySem.sizeLine; exact Nat.le_trans (by omega : _ ≤ 100000) (by decide)))
local macro_rules | `(tactic| walk_at "hl") => `(tactic| first | assumption | exact L2.upd_same | (refine (L2.upd_ne ?_).trans ?_; (walk_at "ne"); (walk_at "hl")))
local macro_rules | `(tactic| walk_at "ne") => `(tactic| first | assumption | (apply Ne.symm; assumption) | (refine L2.ne_of_none ?_ (by assumption); walk_at "hl") | (apply Ne.symm; refine L2.ne_of_none ?_ (by assumption); walk_at "hl") | (refine L2.ne_of (o := L2.HO.lst _) (u := L2.HO.tup _) ?_ ?_ (by intro z; cases z) <;> walk_at "hl"))
local macro_rules | `(tactic| walk_at "sq") => `(tactic| first | assumption | exact .inl (.inl (by walk_at "hl")) | exact .inl (.inl (.inl (by walk_at "hl"))) | exact .inr (.inl (.inl (by walk_at "hl"))) | exact .inl (by assumption) | exact .inr (by assumption))
local macro_rules | `(tactic| walk_at "at") => `(tactic| first | assumption | exact rfl | exact L2.atI_nat (j := 0) rfl | exact L2.atI_nat (j := 1) rfl | exact L2.atI_nat (j := 2) rfl | exact L2.atI_nat (j := 3) rfl | exact L2.atI_nat rfl | exact L2.atI_nat (by assumption))
local macro_rules | `(tactic| walk_at "r1") => `(tactic| first
  | (refine ⟨_, rfl, ?_⟩)
  | (refine ⟨_, _, rfl, rfl, ?_⟩)
  | (refine ⟨_, _, _, _, rfl, rfl, (by walk_at "sq"), (by walk_at "at"), ?_⟩)
  | (refine ⟨_, _, rfl, (by walk_at "sq"), ?_⟩)
  | (refine ⟨.inl ⟨rfl, _, L2.SqL.of (by walk_at "hl")⟩, ?_⟩)
  | (refine ⟨_, _, _, rfl, rfl, (by walk_at "hl"), (by walk_at "sd"), ?_⟩)
  | (refine ⟨_, _, _, _, rfl, rfl, (by walk_at "hl"), rfl, ?_⟩)
  | (refine And.intro (by walk_at "sd") ?_)
  | (refine .inl ⟨_, rfl, ?_⟩))
local macro_rules | `(tactic| walk_at "rd") => `(tactic| repeat walk_at "r1")
/-! ### enumerate over a tuple -/
namespace PySem
open AutoSeq1 (wpAny_loadPart')
set_option maxHeartbeats 1000000 in
theorem meets_enumerate_newT (l : Addr) (items : Array Value) :
    Meets (Builtin.«enumerate.__new__» ⟨[.type "enumerate", .ref l], []⟩) (fun _ R s => s.heap.IsTuple l items ∧
      R (.ok (.ret (.ref (s.heap.push { cls := .type "tuple_iterator", data := .fields #[.ref l, .int 0 0] }).objs.size)))
        { s with heap := (s.heap.push { cls := .type "tuple_iterator", data := .fields #[.ref l, .int 0 0] }).push { cls := .type "enumerate", data := .fields #[.none, .bool false, .ref s.heap.objs.size, rawInt 0, .none, .none] } }) :=
  .of_wp fun prog w A R s h => by
    obtain ⟨hp, g, d, tk, os⟩ := s; obtain ⟨hL, h⟩ := h
    have hsub := sub_enumerate
    wp_walk using wpAny_pyIter_tuple hL
    refine wpAny_stack_any fun st => wpAny_pure ?_
    split
    · rename_i c _ _ _ _ _
      cases (c == Value.type "enumerate")
      · wp_walk using wpAny_pyIter_tuple hL
        exact ⟨_, rfl, h⟩
      · wp_walk using wpAny_pyIter_tuple hL
        exact ⟨_, rfl, h⟩
    · wp_walk using wpAny_pyIter_tuple hL
      exact ⟨_, rfl, h⟩
section
variable {prog : Program} {w : World} {A : Around} {E : Value → Shared → Prop} {s : Shared}
theorem call_enumerate_tup {l : Addr} {items : Array Value} {Q : Value → Shared → Prop} (hL : s.heap.IsTuple l items)
    (h : ∀ h', IsEnum h' (s.heap.objs.size + 1) s.heap.objs.size 0 .none → h'.IsTupleIter s.heap.objs.size l 0 → h'.objs.size = s.heap.objs.size + 2 →
      (∀ b o, s.heap.get? b = some o → h'.get? b = some o) → Q (.ref (s.heap.objs.size + 1)) { s with heap := h' }) :
    wpAny (model prog w) A (call (.type "enumerate") [.ref l]) Q E s := by
  refine callType_new F.called_enumerate (by decide) (F.typeCall_enumerate_1 _) (F.newCall_enumerate_1 _) (fun obj => F.args_object_init_2 obj _) F.entry_enumerate_new
    (meets_enumerate_newT l items) ⟨hL, ?_⟩
  have hz : (s.heap.push { cls := .type "tuple_iterator", data := .fields #[.ref l, .int 0 0] }).objs.size = s.heap.objs.size + 1 := Heap.size_push ..
  show _ ∧ _
  rw [hz]
  have he : IsEnum ((s.heap.push { cls := .type "tuple_iterator", data := .fields #[.ref l, .int 0 0] }).push
      { cls := .type "enumerate", data := .fields #[.none, .bool false, .ref s.heap.objs.size, rawInt 0, .none, .none] }) (s.heap.objs.size + 1) s.heap.objs.size 0 .none := by
    have := Heap.get?_push_size (s.heap.push { cls := .type "tuple_iterator", data := .fields #[.ref l, .int 0 0] })
      (o := { cls := .type "enumerate", data := .fields #[.none, .bool false, .ref s.heap.objs.size, rawInt 0, .none, .none] }) rfl
    rw [hz] at this; exact this
  refine ⟨⟨_, he, rfl⟩, h _ he ⟨_, Heap.get?_push_of_some _ (Heap.get?_push_size _ rfl), rfl, rfl⟩ (by rw [Heap.size_push, hz]) fun b o x => Heap.get?_push_of_some _ (Heap.get?_push_of_some _ x)⟩
/-- next of an enumerate whose tuple is at its end -/
theorem wpAny_pyNext_enum_endU {e it l : Addr} {i : Nat} {items : Array Value} {old : Value} {Q : Option Value → Shared → Prop} (hh : A.handled = none) (he : IsEnum s.heap e it i old)
    (hit : s.heap.IsTupleIter it l i) (hl : s.heap.IsTuple l items) (hx : items[i]? = none) (hQ : ∀ h', Heap.ExtBut it s.heap h' → Q none { s with heap := h' }) : wpAny (model prog w) A (pyNext (.ref e)) Q E s := by
  have hT : s.TypeIs (.ref e) "enumerate" := ⟨_, he, rfl⟩
  unfold pyNext
  refine wpAny_bind (wpAny_attempt (wpAny_callSpecial?_slot (name := Str.ofString "__next__") hT F.slot_enumerate_next (wpAny_call_entry F.slot_enumerate_next hT F.entry_enumerate_next ?_ (F.args_enumerate_next_1 _))))
  show wpAny _ _ (field (.ref e) 2 >>= _) _ _ _
  refine wpAny_bind (wpAny_field he rfl (x := .ref it) rfl (wpAny_bind (wpAny_nextOf_tuple_end hh hit hl hx fun h' x he' ⟨o, ho, hc⟩ => ?_)))
  exact wpAny_bind (wpAny_isInstance (T := "StopIteration") (b := true) ⟨o, ho, hc⟩ isSubtype_stop (wpAny_pure (hQ _ he')))
end
end PySem
namespace L2
open PySem PySem.Spec PyProof.Rows
/-- the tuple at a, each item in a new pair -/
def ItuE (K : PySem.W.Frag) (a : Addr) : It :=
  ⟨fun i H => ∃ (xs : List V) (x : V), SqT K H a xs ∧ xs[i]? = some x, fun i H v H' => ∃ T x, v = .ref T ∧ H T = none ∧ H' = upd H T (.tup [.int (i : Nat), x]) ∧ ∀ xs, SqT K H a xs → xs[i]? = some x, fun i H => ∃ xs : List V, SqT K H a xs ∧ xs.length ≤ i⟩
theorem turn_enumT {P : Program} {w : World} {K : PySem.W.Frag} {elts : List Expr} {kk : Nat} {tpos : Pos} (a e it : Addr) :
    Turn P w K (.Tuple elts kk tpos) (ItuE K a) [e, it] e (fun i h => (∃ old, IsEnum h e it ((i : Nat) : Int) old) ∧ h.IsTupleIter it a i ∧ e ≠ it ∧ a ≠ it ∧ a ≠ e) where
  mem := by simp
  obj := fun i h st b hb => by
    obtain ⟨⟨old, he⟩, ⟨o, ho, hc, hd⟩, _⟩ := st
    have e' : b = e ∨ b = it := by simpa using hb
    rcases e' with z | z
    · rw [z]; exact ⟨_, he, fun v q => nomatch q⟩
    · rw [z]; exact ⟨o, ho, fun v q => by rw [hd] at q; cases q⟩
  keep := fun i h h' st k => let ⟨⟨old, he⟩, hi, hne⟩ := st; ⟨⟨old, k e (by simp) _ he⟩, hi.at fun o q => k it (by simp) o q, hne⟩
  item := by
    intro X hP hw hK hc i pins s σ H E I hf st hg
    subst hP hw hK
    obtain ⟨⟨old, he⟩, hit, hne, hai, hae⟩ := st
    obtain ⟨xs, x, hq, hx⟩ := hg
    obtain ⟨its, rv, p, hz⟩ := I.tuple hq
    obtain ⟨u, hu, ru⟩ := rv.get hx
    have hel : e < s.heap.objs.size := Heap.lt_size he
    have hil : it < s.heap.objs.size := by obtain ⟨_, q, _⟩ := hit; exact Heap.lt_size q
    have hlen : i < its.toArray.size := by
      have := (List.getElem?_eq_some_iff.mp hu).1
      simpa using this
    have hT0 : s.heap.IsTuple a its.toArray := p
    refine wpAny_pyNext_enum_itemD (Draws.tuple (prog := X.prog) (w := X.w) (A := X.A.in1) (show X.A.in1.handled = none from I.ok.hd hc) it a hai its.toArray) he ⟨hit, hT0⟩ hlen hne (by simp [hne, Ne.symm hae]) fun y h' tk hy ho hst' hT hsz hk => ?_
    have ey : y = u := by
      have q : its[i]? = some y := by simpa using hy
      exact Option.some.inj (q.symm.trans hu)
    subst ey
    obtain ⟨hit', _⟩ := hst'
    refine ⟨_, rfl, wpAny_letOwnedTupleGo_enum (s := { s with heap := h', toks := tk + 1 }) ho fun h'' he' sb => ?_⟩
    have hT2 : h''.get? s.heap.objs.size = some { cls := .type "tuple", data := .seq #[.int i tk, y] } := (sb.2 _ (Nat.ne_of_gt hel)).trans hT
    have new : ObjOk X.prog X.w (upd H s.heap.objs.size (.tup [.int (i : Nat), x])) h'' s.heap.objs.size (.tup [.int (i : Nat), x]) :=
      ⟨by show 2 ≤ sizeLine; decide, [.int i tk, y], .cons ⟨_, rfl⟩ (.cons ru .nil), ⟨_, hT2, rfl, _, rfl⟩⟩
    have I1 : Inv X pins σ (upd H s.heap.objs.size (.tup [.int (i : Nat), x])) { s with heap := h'', toks := tk + 1 } :=
      I.turnedNew (ch := [e, it]) (fun b ob hb q => (sb.2 b (fun z => hb (by simp [z]))).trans (hk b ob (fun z => hb (by simp [z])) (fun z => hb (by simp [z])) q)) hf (Nat.le_refl _) new
    refine ⟨.ref s.heap.objs.size, _, I1, rfl, ⟨_, x, rfl, I.hok.fresh (Nat.le_refl _), rfl, fun ys hy => by rw [I.tuple_inj hy hq]; exact hx⟩, ⟨⟨y, ?_⟩, hit'.at fun o q => (sb.2 it (Ne.symm hne)).trans q, hne, hai, hae⟩, fun b hb => ?_⟩
    · have e1 : ((i + 1 : Nat) : Int) = (i : Int) + 1 := by omega
      rw [e1]; exact he'
    · have hb' : b < s.heap.objs.size := by
        have e' : b = e ∨ b = it := by simpa using hb
        rcases e' with z | z
        · rw [z]; exact hel
        · rw [z]; exact hil
      rw [upd_ne (Nat.ne_of_lt hb')]
      exact (hf b hb).1
  done := by
    intro X hP hw hK hc i pins s σ H E I hf st hg
    subst hP hw hK
    obtain ⟨⟨old, he⟩, hit, hne, hai, hae⟩ := st
    obtain ⟨xs, hq, hx⟩ := hg
    obtain ⟨its, rv, p, hz⟩ := I.tuple hq
    obtain ⟨f0, f1, f2, f3, f4, f5⟩ := hf it (by simp)
    have hl := rv.length
    have hT0 : s.heap.IsTuple a its.toArray := p
    exact wpAny_pyNext_enum_endU (I.ok.hd hc) he hit hT0 (by simp; omega) fun h' eb => ⟨rfl, I.turned (t' := s.toks) (fun b o hb q => eb b o hb q) f0 f1 f3 f4 f5⟩
  self := fun A i s Q E st h => let ⟨⟨_, he⟩, _⟩ := st; wpAny_pyIter_enum he h
def iEnumT (K : PySem.W.Frag) (ta : TA) : TI := fun σ H R => ta σ H fun vs H1 => ∃ a xs, vs = [.ref a] ∧ SqT K H1 a xs ∧ R (ItuE K a) H1
theorem pi_enumT {X : Cx} {e : Expr} {ta : TA} {p pos tpos : Pos} {elts : List Expr} {kk : Nat} (hg : Gl X "enumerate") (hm : X.mg "enumerate" = none) (ha : PA X [e] ta) (hs : starEach [e] X.env = [(false, eval e X.env)] := by rfl) :
    PI X (.Tuple elts kk tpos) (.Call (.Name "enumerate" p) [e] [] pos) (iEnumT X.K ta) := by
  refine ⟨fun pins s σ H R I h => ?_⟩
  refine Call_ (ld_blt I hg hm boot_enumerate (PyProof.Rows.callWith_type1 (thn (ha.run pos pins s σ H _ I h) fun us s1 ⟨vs, H1, I1, r1, q1⟩ => ?_) hs rfl))
  obtain ⟨a, xs, ex, hq, q⟩ := q1
  subst ex
  cases r1 with
  | cons r rr =>
    cases rr
    cases r
    obtain ⟨its, rv, p', hz⟩ := I1.tuple hq
    have hT0 : s1.heap.IsTuple a its.toArray := p'
    have hal : a < s1.heap.objs.size := by obtain ⟨_, q, _⟩ := hT0; exact Heap.lt_size q
    refine call_enumerate_tup hT0 fun h' he hit hsz hk => wpAny_pyIter_enum he ?_
    have I2 : Inv X pins σ H1 { s1 with heap := h' } := I1.kept (t' := s1.toks) hk
    refine ⟨s1.heap.objs.size + 1, [s1.heap.objs.size + 1, s1.heap.objs.size], _, _, H1, rfl, I2, turn_enumT a (s1.heap.objs.size + 1) s1.heap.objs.size, ⟨⟨.none, he⟩, hit, Nat.succ_ne_self _, Nat.ne_of_lt hal, Nat.ne_of_lt (Nat.lt_succ_of_lt hal)⟩, fun b hb => ?_, q⟩
    have e' : b = s1.heap.objs.size + 1 ∨ b = s1.heap.objs.size := by simpa using hb
    have hle : s1.heap.objs.size ≤ b := by
      rcases e' with z | z
      · rw [z]; exact Nat.le_add_right _ _
      · rw [z]; exact Nat.le_refl _
    exact I1.fpOk hle (I1.hok.fresh hle)
end L2
namespace L2
open PySem PySem.Spec PyProof.Rows
theorem for_enumT {K : PySem.W.Frag} {a : Addr} {xs : List V} {g : TG} {tb : TS} {D : Ends} {σ : St} {H : Hp} (Pv : Nat → St → Hp → Prop) (h0 : Pv 0 σ H) (hl : ∀ i σ H, i ≤ xs.length → Pv i σ H → SqT K H a xs)
    (hs : ∀ i x σ H T, xs[i]? = some x → Pv i σ H → H T = none → g (.ref T) σ (upd H T (.tup [.int (i : Nat), x])) fun σ2 H2 => tb { D with nx := Pv (i + 1), ct := Pv (i + 1), bk := D.nx } σ2 H2)
    (hd : ∀ σ H, Pv xs.length σ H → D.nx σ H) :
    ∃ W : Nat → Nat → St → Hp → Prop, (∃ m, W 0 m σ H) ∧ ∀ i m σ H, W i m σ H →
      ((ItuE K a).stop i H ∧ D.nx σ H) ∨ ((ItuE K a).go i H ∧ ∃ N : St → Hp → Prop, (∀ σ' H', N σ' H' → ∃ m', m' < m ∧ W (i + 1) m' σ' H') ∧ ∀ x H', (ItuE K a).yld i H x H' → g x σ H' fun σ2 H2 => tb { D with nx := N, ct := N, bk := D.nx } σ2 H2) := by
  refine ⟨fun i m σ H => m = xs.length - i ∧ i ≤ xs.length ∧ Pv i σ H, ⟨xs.length, by simp, Nat.zero_le _, h0⟩, fun i m σ H hW => ?_⟩
  obtain ⟨em, hi, p⟩ := hW
  have q := hl i σ H hi p
  by_cases hlt : i < xs.length
  · refine .inr ⟨⟨xs, xs[i], q, List.getElem?_eq_getElem hlt⟩, Pv (i + 1), fun σ' H' p' => ⟨xs.length - (i + 1), by omega, rfl, hlt, p'⟩, fun x H' y => ?_⟩
    obtain ⟨T, x', ev, nT, eH, hx⟩ := y
    subst ev eH
    exact hs i x' σ H T (hx xs q) p nT
  · have ei : i = xs.length := by omega
    subst ei
    exact .inl ⟨⟨xs, q, Nat.le_refl _⟩, hd σ H p⟩
end L2

namespace L2
open PySem PySem.Spec PyProof.Rows
/-! ### edges: pairs of ints, in a list, a tuple or as the keys of a dict -/
def edD (e : Int × Int) : PyData := .tuple [.int e.1, .int e.2]
theorem edD_lay (e : Int × Int) : (edD e).canLay0 = true := by simp [edD, PyData.canLay0, PyData.canLayAll0]
theorem edD_depth (e : Int × Int) : (edD e).depth = 1 := by simp [edD, PyData.depth, PyData.depthAll]
theorem edDs_lay : ∀ es : List (Int × Int), PyData.canLayAll0 (es.map edD) = true
  | [] => rfl
  | e :: r => by simp [PyData.canLayAll0, edD_lay, edDs_lay r]
theorem edDs_depth : ∀ es : List (Int × Int), PyData.depthAll (es.map edD) ≤ 1
  | [] => Nat.zero_le _
  | e :: r => by
    have := edDs_depth r
    simp only [List.map_cons, PyData.depthAll, edD_depth]
    omega
theorem edD_eqv (e f : Int × Int) : PyData.eqv (edD e) (edD f) = decide (e = f) := by
  obtain ⟨a, b⟩ := e
  obtain ⟨c, d⟩ := f
  simp only [edD, PyData.eqv, PyData.eqvAll]
  by_cases h1 : a = c <;> by_cases h2 : b = d <;> simp [h1, h2]
def EdV (H : Hp) (v : V) (e : Int × Int) : Prop := ∃ p, v = .ref p ∧ H p = some (.tup [.int e.1, .int e.2])
def keyE (e : Int × Int) : List Key := [.inl e.1, .inl e.2]
def Edg (K : PySem.W.Frag) (H : Hp) (y : V) (es : List (Int × Int)) : Prop :=
  (∃ a vs, y = .ref a ∧ (SqL K H a vs ∨ SqT K H a vs) ∧ Paired (EdV H) vs es) ∨ ∃ a kvs, y = .ref a ∧ H a = some (.dT kvs) ∧ kvs.map (·.1) = es.map keyE
def rInE (K : PySem.W.Frag) (neg : Bool) : R2 := fun x y H Q => ∃ (e : Int × Int) (es : List (Int × Int)), EdV H x e ∧ Edg K H y es ∧ Q (.bl (if neg then !decide (e ∈ es) else decide (e ∈ es))) H
theorem edD_shaped (e : Int × Int) : SeqAt.shaped (edD e) = true := by
  have h := edD_depth e
  show ((edD e).canLay0 && decide ((edD e).depth ≤ 64)) = true
  rw [Bool.and_eq_true]
  exact ⟨edD_lay e, decide_eq_true (by omega)⟩
theorem any_edD (e : Int × Int) : ∀ es : List (Int × Int), ((es.map edD).any fun z => PyData.eqv z (edD e)) = decide (e ∈ es)
  | [] => by simp
  | f :: r => by
    rw [List.map_cons, List.any_cons, any_edD e r, edD_eqv]
    by_cases h : f = e
    · subst h; simp
    · have h' : ¬ e = f := fun z => h z.symm
      simp [h, h']
theorem EdV.dp {K : PySem.W.Frag} {H : Hp} {v : V} {e : Int × Int} (h : EdV H v e) : Dp K H v (edD e) := by
  obtain ⟨p, rfl, hp⟩ := h
  exact .tup (.inl (.inl hp)) (.cons (.int _) (.cons (.int _) .nil))
theorem EdV.dps {K : PySem.W.Frag} {H : Hp} : ∀ {vs : List V} {es : List (Int × Int)}, Paired (EdV H) vs es → DpAll K H vs (es.map edD)
  | _, _, .nil => .nil
  | _, _, .cons a b => .cons a.dp (EdV.dps b)
theorem keyE_inj {e f : Int × Int} (h : keyE e = keyE f) : e = f := by
  unfold keyE at h
  simp only [List.cons.injEq, Sum.inl.injEq, and_true] at h
  exact Prod.ext h.1 h.2
theorem val_keyE {kvs : List (List Key × V)} {es : List (Int × Int)} (h : kvs.map (·.1) = es.map keyE) (e : Int × Int) : (valV kvs (keyE e)).isSome = decide (e ∈ es) := by
  unfold valV
  rw [Option.isSome_map, Bool.eq_iff_iff, List.find?_isSome, decide_eq_true_iff]
  constructor
  · rintro ⟨kv, hk, e1⟩
    have e1 : kv.1 = keyE e := of_decide_eq_true e1
    have m : kv.1 ∈ kvs.map (·.1) := List.mem_map_of_mem hk
    rw [h, e1] at m
    obtain ⟨f, hf, ef⟩ := List.mem_map.mp m
    rw [← keyE_inj ef]; exact hf
  · intro he
    have m : keyE e ∈ kvs.map (·.1) := by rw [h]; exact List.mem_map_of_mem he
    obtain ⟨kv, hk, ek⟩ := List.mem_map.mp m
    exact ⟨kv, hk, decide_eq_true ek⟩
theorem room_ed {X : Cx} (hu : X.A.units + 65 < cLine) (e : Int × Int) (es : List (Int × Int)) : X.A.units + 1 + min (PyData.depthAll (es.map edD)) (edD e).depth < cLine := by
  rw [edD_depth]; have := Nat.min_le_right (PyData.depthAll (es.map edD)) 1; omega
theorem op_inE {X : Cx} (hu : X.A.units + 65 < cLine) : OpR X (compareOp .In) (rInE X.K false) := by
  intro pins s σ H x y v u Q I rx ry h
  obtain ⟨e, es, he, hy, q⟩ := h
  have q : Q (.bl (decide (e ∈ es))) H := q
  rcases hy with ⟨a, vs, rfl, sq, pr⟩ | ⟨a, kvs, rfl, ha, hk⟩
  · obtain ⟨as, r1⟩ := Dp.reads I (edD e) x v he.dp rx
    rw [← any_edD] at q
    rcases sq with sq | sq
    · obtain ⟨bs, r2⟩ := Dp.reads I (.list (es.map edD)) (.ref a) u (.lst sq (EdV.dps pr)) ry
      exact SeqAt.in_list_reads r2 r1 (edDs_lay es) (edD_lay e) (room_ed hu e es) ⟨.bl _, H, I, rfl, q⟩
    · obtain ⟨bs, r2⟩ := Dp.reads I (.tuple (es.map edD)) (.ref a) u (.tup sq (EdV.dps pr)) ry
      exact SeqAt.in_tuple_reads r2 r1 (edDs_lay es) (edD_lay e) (room_ed hu e es) ⟨.bl _, H, I, rfl, q⟩
  · obtain ⟨p, rfl, hp⟩ := he
    obtain rfl : u = Value.ref a := ry
    rw [← val_keyE hk] at q
    exact d_in (by omega) I (.inr ⟨kvs, keyE e, p, .inl ha, rfl, hp, rfl⟩) rx fun s3 I3 => ⟨.bl _, H, I3, rfl, q⟩
theorem op_ninE {X : Cx} (hu : X.A.units + 65 < cLine) : OpR X (compareOp .NotIn) (rInE X.K true) := by
  intro pins s σ H x y v u Q I rx ry h
  obtain ⟨e, es, he, hy, q⟩ := h
  have q : Q (.bl (!decide (e ∈ es))) H := q
  rcases hy with ⟨a, vs, rfl, sq, pr⟩ | ⟨a, kvs, rfl, ha, hk⟩
  · obtain ⟨as, r1⟩ := Dp.reads I (edD e) x v he.dp rx
    rw [← any_edD] at q
    rcases sq with sq | sq
    · obtain ⟨bs, r2⟩ := Dp.reads I (.list (es.map edD)) (.ref a) u (.lst sq (EdV.dps pr)) ry
      exact SeqAt.notIn_list_reads r2 r1 (edDs_lay es) (edD_lay e) (room_ed hu e es) ⟨.bl _, H, I, rfl, q⟩
    · obtain ⟨bs, r2⟩ := Dp.reads I (.tuple (es.map edD)) (.ref a) u (.tup sq (EdV.dps pr)) ry
      exact SeqAt.notIn_tuple_reads r2 r1 (edDs_lay es) (edD_lay e) (room_ed hu e es) ⟨.bl _, H, I, rfl, q⟩
  · obtain ⟨p, rfl, hp⟩ := he
    obtain rfl : u = Value.ref a := ry
    rw [← val_keyE hk] at q
    exact d_notIn (by omega) I (.inr ⟨kvs, keyE e, p, .inl ha, rfl, hp, rfl⟩) rx fun s3 I3 => ⟨.bl _, H, I3, rfl, q⟩
end L2
namespace L2
open PySem
theorem hu65 {k : Nat} {A : Around} (r : Room k A) : A.units + 65 < cLine := by have := r.un; omega
theorem inEK {X : Cx} {K : PySem.W.Frag} (h : X.K = K) (hu : X.A.units + 65 < cLine) : OpR X (compareOp .In) (rInE K false) := h ▸ op_inE hu
theorem ninEK {X : Cx} {K : PySem.W.Frag} (h : X.K = K) (hu : X.A.units + 65 < cLine) : OpR X (compareOp .NotIn) (rInE K true) := h ▸ op_ninE hu
theorem anyK {X : Cx} {K : PySem.W.Frag} (h : X.K = K) (hc : X.calm = true) : CallR X (.builtin "any") (rAny K) := h ▸ cr_any hc
theorem pi_listK {X : Cx} {K : PySem.W.Frag} {tg l : Expr} {tl : TE} (h : X.K = K) (hl : PE X l tl) : PI X tg l (iList K tl) := h ▸ pi_list hl
end L2
namespace L2
open PySem
theorem lenK {X : Cx} {K : PySem.W.Frag} (h : X.K = K) : CallR X (.builtin "len") (fun xs H Q => ∃ p ys, xs = [V.ref p] ∧ (SqL K H p ys ∨ SqT K H p ys) ∧ Q (.int ((ys.length : Nat) : Int)) H) := h ▸ call_len_seq
end L2

namespace L2
open PySem PySem.Spec PyProof.Rows
theorem eqDK {X : Cx} {K : PySem.W.Frag} (h : X.K = K) (hu : X.A.units + 64 < cLine) : OpR X (compareOp .Eq) (rEqD K) := h ▸ op_eqD hu
theorem neDK {X : Cx} {K : PySem.W.Frag} (h : X.K = K) (hu : X.A.units + 64 < cLine) : OpR X (compareOp .NotEq) (rNeD K) := h ▸ op_neD hu
theorem edDs_plain (es : List (Int × Int)) : PyData.plainAll (es.map edD) = true := by
  induction es with
  | nil => rfl
  | cons e r ih =>
    show (PyData.plain (edD e) && PyData.plainAll (r.map edD)) = true
    rw [ih, Bool.and_true]; rfl
theorem place_ed {e : Int × Int} : ∀ {es : List (Int × Int)} {j : Nat}, es[j]? = some e → (∀ m, m < j → es[m]? ≠ some e) → SeqAt.dataPlace (es.map edD) (edD e) = some j
  | [], j, h, _ => by simp at h
  | f :: r, 0, h, _ => by
    have h : f = e := Option.some.inj h
    unfold SeqAt.dataPlace
    rw [List.map_cons, List.findIdx?_cons, edD_eqv, h]
    simp
  | f :: r, j + 1, h, hn => by
    have hne : f ≠ e := fun z => hn 0 (Nat.succ_pos _) (by rw [z]; rfl)
    have ih := place_ed (es := r) (j := j) h (fun m hm => hn (m + 1) (Nat.succ_lt_succ hm))
    unfold SeqAt.dataPlace at ih ⊢
    rw [List.map_cons, List.findIdx?_cons, edD_eqv, ih]
    simp [hne]
/-- o.remove(e): lists of pairs, the pair being there -/
def tRemE (K : PySem.W.Frag) (to te : TE) : TE := fun σ H Q => to σ H fun x H1 => tyV K "list" x H1 ∧ te σ H1 fun y H2 => ∃ (l : Addr) (vs : List V) (es : List (Int × Int)) (e : Int × Int) (j : Nat), x = .ref l ∧ H2 l = some (.lst vs) ∧ Paired (EdV H2) vs es ∧ EdV H2 y e ∧
  es[j]? = some e ∧ (∀ m, m < j → es[m]? ≠ some e) ∧ Q .non (upd H2 l (.lst (vs.eraseIdx j)))
section
variable {X : Cx} {o e : Expr} {to te : TE} {apos cpos : Pos}
theorem pe_remE (hu : X.A.units + 65 < cLine) (ho : PE X o to) (he : PE X e te) (hbase : attributeBase o "remove" X.env (eval o X.env) = eval o X.env := by rfl)
    (hfew : ((backTo cpos (starEach [e] X.env)).all (fun x => !x.1) && (backToKw cpos (keywordEach [] X.env)).all (fun x => x.1.isSome)
      && decide (([e] : List Expr).length + ([] : List Keyword).length + (if ([] : List Keyword).isEmpty then 0 else 1) < 30)) = true := by rfl)
    (hline : (apos.endLine == cpos.line) = true := by rfl) (hs : starEach [e] X.env = (false, eval e X.env) :: starEach [] X.env := by rfl) (hplain : (backTo cpos (starEach [] X.env)).any (·.1) = false := by rfl) :
    PE X (.Call (.Attribute o "remove" apos) [e] [] cpos) (tRemE X.K to te) := by
  refine ⟨fun pins s σ H Q I h => ?_⟩
  refine wpAny_Call_method_late hbase hfew hline rfl (thn (ho.run pins s σ H _ I h) fun v s1 ⟨x, H1, I1, r1, ty, q1⟩ => ?_)
  obtain ⟨h1, h2⟩ := tyV_is I1 r1 ty
  refine ⟨"list", _, PySem.F.plainAttrs_list, PySem.F.slot_list_remove, PySem.F.type_list_remove, h1, h2, ?_⟩
  rw [hs]
  refine Calls.callWith_builtin (by show (false || (backTo cpos (starEach [] X.env)).any (·.1)) = false; rw [hplain] <;> rfl) (Calls.evalArgs_plain ?_)
  show wpAny _ _ (spliced ((false, eval e X.env) :: backTo cpos (starEach [] X.env))) _ _ s1
  refine Calls.spliced_cons (thn (he.run pins s1 σ H1 _ I1 q1) fun u s2 ⟨y, H2, I2, ry, q2⟩ => ?_)
  refine Calls.spliced_nil ?_
  obtain ⟨l, vs, es, p, j, ex, hH, pr, hy, hj, hn, q⟩ := q2
  subst ex
  cases (show v = Value.ref l from r1)
  obtain ⟨z, its, n, r, hl, e0⟩ := I2.lstM hH
  obtain ⟨as, rs⟩ := Dp.readsAll I2 (es.map edD) vs its (EdV.dps pr) r
  obtain ⟨bs, rx⟩ := Dp.reads I2 (edD p) y u hy.dp ry
  have hsz : its.toArray.size ≤ sizeLine := by rw [List.size_toArray, ← hl]; exact z
  refine SeqAt.remove_list_data (vs := its.toArray) (j := j) ⟨_, e0, rfl, _, rfl⟩ rs rx (edDs_plain es) rfl (room_ed hu p es) (place_ed hj hn) hsz ?_
  refine ⟨.non, _, I2.lset (its' := its.eraseIdx j) hH e0 ?_ (r.eraseIdx j) ?_, rfl, q⟩
  · show its.toArray.eraseIdxIfInBounds j = (its.eraseIdx j).toArray
    rw [List.eraseIdxIfInBounds_toArray]
  · have := List.length_eraseIdx_le vs j
    omega
end
end L2

namespace My
open PySem L2
abbrev PP : Program := PySem.Challenge.pw_weblocks_k29_forward_order
def topS (i : Nat) : Stmt := PySem.Challenge.pw_weblocks_k29_forward_order.main.body.getD i (.Pass ⟨0, 0, 0, 0⟩)
abbrev S_forward_order : Stmt := topS 1
abbrev S__law_draws : Stmt := topS 3
abbrev S__law_take : Stmt := topS 4
abbrev S__law_same : Stmt := topS 5
abbrev S__law_nodes : Stmt := topS 6
abbrev S__law_order : Stmt := topS 7
abbrev S__law_forward : Stmt := topS 8
abbrev S__law_due_order : Stmt := topS 9
abbrev S_law : Stmt := topS 10
theorem sc_forward_order : FnScope ["nodes", "edges", "left", "found", "free", "node", "other"] ["nodes", "edges"] (defScope S_forward_order) := ⟨rfl, rfl, rfl, by decide +kernel, rfl, by decide +kernel, by decide +kernel⟩
theorem sc__law_draws : FnScope ["_law_script", "_law_draws_here", "_law_cell", "_law_rest", "_law_k", "_law_mixed"] ["_law_script"] (defScope S__law_draws) := ⟨rfl, rfl, rfl, by decide +kernel, rfl, by decide +kernel, by decide +kernel⟩
theorem sc__law_take : FnScope ["_law_draws_here", "_law_at", "_law_size"] ["_law_draws_here", "_law_at", "_law_size"] (defScope S__law_take) := ⟨rfl, rfl, rfl, by decide +kernel, rfl, by decide +kernel, by decide +kernel⟩
theorem sc__law_same : FnScope ["_law_actual", "_law_expected", "_law_k"] ["_law_actual", "_law_expected"] (defScope S__law_same) := ⟨rfl, rfl, rfl, by decide +kernel, rfl, by decide +kernel, by decide +kernel⟩
theorem sc__law_nodes : FnScope ["_law_draws_here", "_law_at", "_law_count", "_law_nodes_here", "_law_node", "_law_k"] ["_law_draws_here", "_law_at", "_law_count"] (defScope S__law_nodes) := ⟨rfl, rfl, rfl, by decide +kernel, rfl, by decide +kernel, by decide +kernel⟩
theorem sc__law_order : FnScope ["_law_draws_here", "_law_at", "_law_count", "_law_left", "_law_order_here", "_law_k", "_law_pick"] ["_law_draws_here", "_law_at", "_law_count"] (defScope S__law_order) := ⟨rfl, rfl, rfl, by decide +kernel, rfl, by decide +kernel, by decide +kernel⟩
theorem sc__law_forward : FnScope ["_law_draws_here", "_law_at", "_law_nodes_here", "_law_count", "_law_order_here", "_law_k", "_law_chance", "_law_edges", "_law_j"] ["_law_draws_here", "_law_at", "_law_nodes_here"] (defScope S__law_forward) := ⟨rfl, rfl, rfl, by decide +kernel, rfl, by decide +kernel, by decide +kernel⟩
theorem sc__law_due_order : FnScope ["_law_nodes_here", "_law_edges", "_law_left", "_law_order_here", "_law_k", "_law_free", "_law_x", "_law_y"] ["_law_nodes_here", "_law_edges"] (defScope S__law_due_order) := ⟨rfl, rfl, rfl, by decide +kernel, rfl, by decide +kernel, by decide +kernel⟩
theorem sc_law : FnScope ["_law_script", "_law_draws_here", "_law_at", "_law_nodes_here", "_law_edges", "_law_listed", "_law_count", "_law_turn", "_law_due", "_law_given", "_law_table", "_law_edge", "_law_told", "_law_order_here", "_law_one", "_law_two", "_law_gone"] ["_law_script"] (defScope S_law) := ⟨rfl, rfl, rfl, by decide +kernel, rfl, by decide +kernel, by decide +kernel⟩
structure Txt (K : PySem.W.Frag) (mg : Str → Option Value) where
  a_forward_order : Addr
  fd_forward_order : FuncData
  F_forward_order : Fun K "forward_order" "forward_order" S_forward_order a_forward_order fd_forward_order
  b_forward_order : Binds K fd_forward_order ["nodes", "edges"] []
  g_forward_order : mg "forward_order" = some (.ref a_forward_order)
  a__law_draws : Addr
  fd__law_draws : FuncData
  F__law_draws : Fun K "_law_draws" "_law_draws" S__law_draws a__law_draws fd__law_draws
  b__law_draws : Binds K fd__law_draws ["_law_script"] []
  g__law_draws : mg "_law_draws" = some (.ref a__law_draws)
  a__law_take : Addr
  fd__law_take : FuncData
  F__law_take : Fun K "_law_take" "_law_take" S__law_take a__law_take fd__law_take
  b__law_take : Binds K fd__law_take ["_law_draws_here", "_law_at", "_law_size"] []
  g__law_take : mg "_law_take" = some (.ref a__law_take)
  a__law_same : Addr
  fd__law_same : FuncData
  F__law_same : Fun K "_law_same" "_law_same" S__law_same a__law_same fd__law_same
  b__law_same : Binds K fd__law_same ["_law_actual", "_law_expected"] []
  g__law_same : mg "_law_same" = some (.ref a__law_same)
  a__law_nodes : Addr
  fd__law_nodes : FuncData
  F__law_nodes : Fun K "_law_nodes" "_law_nodes" S__law_nodes a__law_nodes fd__law_nodes
  b__law_nodes : Binds K fd__law_nodes ["_law_draws_here", "_law_at", "_law_count"] []
  g__law_nodes : mg "_law_nodes" = some (.ref a__law_nodes)
  a__law_order : Addr
  fd__law_order : FuncData
  F__law_order : Fun K "_law_order" "_law_order" S__law_order a__law_order fd__law_order
  b__law_order : Binds K fd__law_order ["_law_draws_here", "_law_at", "_law_count"] []
  g__law_order : mg "_law_order" = some (.ref a__law_order)
  a__law_forward : Addr
  fd__law_forward : FuncData
  F__law_forward : Fun K "_law_forward" "_law_forward" S__law_forward a__law_forward fd__law_forward
  b__law_forward : Binds K fd__law_forward ["_law_draws_here", "_law_at", "_law_nodes_here"] []
  g__law_forward : mg "_law_forward" = some (.ref a__law_forward)
  a__law_due_order : Addr
  fd__law_due_order : FuncData
  F__law_due_order : Fun K "_law_due_order" "_law_due_order" S__law_due_order a__law_due_order fd__law_due_order
  b__law_due_order : Binds K fd__law_due_order ["_law_nodes_here", "_law_edges"] []
  g__law_due_order : mg "_law_due_order" = some (.ref a__law_due_order)
  a_law : Addr
  fd_law : FuncData
  F_law : Fun K "law" "law" S_law a_law fd_law
  b_law : Binds K fd_law ["_law_script"] []
  g_law : mg "law" = some (.ref a_law)
  n_any : mg "any" = none
  n_bool : mg "bool" = none
  n_int : mg "int" = none
  n_isinstance : mg "isinstance" = none
  n_len : mg "len" = none
  n_list : mg "list" = none
  n_range : mg "range" = none
  n_str : mg "str" = none
  n_tuple : mg "tuple" = none
end My
namespace My
open PySem L2
/-! ### heaps: all but a as it was -/
def But (a : Addr) (H H' : Hp) : Prop := ∀ b o, b ≠ a → H b = some o → H' b = some o
theorem But.refl (a : Addr) (H : Hp) : But a H H := fun _ _ _ h => h
theorem But.trans {a : Addr} {H H1 H2 : Hp} (x : But a H H1) (y : But a H1 H2) : But a H H2 := fun b o n h => y b o n (x b o n h)
theorem But.of_same {a : Addr} {H H' : Hp} (s : Same H H') : But a H H' := fun b o _ h => s b o h
theorem But.upd {a : Addr} {H : Hp} {o : HO} : But a H (upd H a o) := fun b u n h => by rw [upd_ne n]; exact h
theorem same_new {H : Hp} {p : Addr} {o : HO} (h : H p = none) : Same H (upd H p o) := fun b x e => by
  rw [upd_ne (ne_of_none e h)]; exact e
theorem But.new {a p : Addr} {H : Hp} {o : HO} (h : H p = none) : But a H (L2.upd H p o) := But.of_same (same_new h)
/-- an object that H does not know may change -/
theorem same_mut {H H' : Hp} {p : Addr} {o : HO} (e : Same H H') (h : H p = none) : Same H (upd H' p o) := fun a u ha => by
  rw [upd_ne (ne_of_none ha h)]; exact e a u ha
theorem But.mut {a p : Addr} {H H' : Hp} {o : HO} (e : But a H H') (h : H p = none) : But a H (L2.upd H' p o) := fun b u n hb => by
  rw [upd_ne (ne_of_none hb h)]; exact e b u n hb
theorem But.free {a p : Addr} {H H' : Hp} (e : But a H H') (n : p ≠ a) (h : H' p = none) : H p = none := by
  cases q : H p with
  | none => rfl
  | some o => rw [e p o n q] at h; cases h
theorem But.sqL {K : PySem.W.Frag} {a d : Addr} {H H' : Hp} {xs : List V} (e : But a H H') (n : d ≠ a) (h : SqL K H d xs) : SqL K H' d xs := by
  rcases h with (h | ⟨o, h⟩) | h
  · exact .inl (.inl (e _ _ n h))
  · exact .inl (.inr ⟨o, e _ _ n h⟩)
  · exact .inr h
theorem But.sqT {K : PySem.W.Frag} {a d : Addr} {H H' : Hp} {xs : List V} (e : But a H H') (n : d ≠ a) (h : SqT K H d xs) : SqT K H' d xs := by
  rcases h with (h | ⟨o, h⟩) | h
  · exact .inl (.inl (e _ _ n h))
  · exact .inl (.inr ⟨o, e _ _ n h⟩)
  · exact .inr h
theorem same_sqT {K : PySem.W.Frag} {d : Addr} {H H' : Hp} {xs : List V} (e : Same H H') (h : SqT K H d xs) : SqT K H' d xs := by
  rcases h with (h | ⟨o, h⟩) | h
  · exact .inl (.inl (e _ _ h))
  · exact .inl (.inr ⟨o, e _ _ h⟩)
  · exact .inr h
theorem same_make {H H5 : Hp} {x dx C : Addr} (nx : H x = none) (nd : H dx = none) (b : But x (L2.upd (L2.upd H dx (.own x)) x (.ins C dx [])) H5) : Same H H5 := fun y o h =>
  b y o (ne_of_none h nx) (by rw [upd_ne (ne_of_none h nx), upd_ne (ne_of_none h nd)]; exact h)
/-! ### tests -/
theorem iteD {c A B : Prop} [Decidable c] (h1 : c → A) (h2 : ¬ c → B) : if decide c = true then A else B := by
  by_cases h : c
  · rw [decide_eq_true h]; exact iteT (h1 h)
  · rw [decide_eq_false h]; exact iteF (h2 h)
theorem iteN {c A B : Prop} [Decidable c] (h1 : ¬ c → A) (h2 : c → B) : if (!decide c) = true then A else B := by
  by_cases h : c
  · rw [decide_eq_true h]; exact iteF (h2 h)
  · rw [decide_eq_false h]; exact iteT (h1 h)
theorem iteB {b : Bool} {A B : Prop} (h1 : b = true → A) (h2 : b = false → B) : if b = true then A else B := by
  cases b with
  | true => exact iteT (h1 rfl)
  | false => exact iteF (h2 rfl)
theorem iteYes {b : Bool} {A B : Prop} (h : b = true) (h1 : A) : if b = true then A else B := by rw [h]; exact iteT h1
theorem iteNo {b : Bool} {A B : Prop} (h : b = false) (h1 : B) : if b = true then A else B := by rw [h]; exact iteF h1
/-! ### lists -/
theorem ints_app (zs : List Int) (z : Int) : (zs.map V.int) ++ [V.int z] = (zs ++ [z]).map V.int := by rw [List.map_append]; rfl
theorem at_ok {xs : List V} {i : Int} (h0 : 0 ≤ i) (h1 : i < xs.length) : ∃ v, atI xs i = some v ∧ v ∈ xs := by
  obtain ⟨j, rfl⟩ := Int.eq_ofNat_of_zero_le h0
  have hj : j < xs.length := by omega
  exact ⟨xs[j], atI_nat (List.getElem?_eq_getElem hj), List.getElem_mem hj⟩
theorem get_int {ns : List Int} {i : Nat} {y : V} (h : (ns.map V.int)[i]? = some y) : ∃ z, ns[i]? = some z ∧ y = .int z := by
  rw [List.getElem?_map] at h
  cases e : ns[i]? with
  | none => rw [e] at h; cases h
  | some z => rw [e] at h; exact ⟨z, rfl, (Option.some.inj h).symm⟩
end My
namespace L2
open PySem
/-! ### rules whose reading names K itself (in a comprehension's block) -/
theorem ixLK {X : Cx} {K : PySem.W.Frag} (h : X.K = K) : IxR X (rIxL K) := h ▸ ix_list
theorem ixTK {X : Cx} {K : PySem.W.Frag} (h : X.K = K) : IxR X (rIxT K) := h ▸ ix_tup
theorem inK {X : Cx} {K : PySem.W.Frag} (h : X.K = K) : OpR X (compareOp .In) (rIn K false) := h ▸ op_in_seq
theorem ninK {X : Cx} {K : PySem.W.Frag} (h : X.K = K) : OpR X (compareOp .NotIn) (rIn K true) := h ▸ op_notIn_seq
theorem pe_fldK {X : Cx} {K : PySem.W.Frag} {e : Expr} {f : Str} {pos : Pos} {ta : TE} (h : X.K = K) (he : PE X e ta) (hb : attributeBase e f X.env (eval e X.env) = eval e X.env) : PE X (.Attribute e f pos) (tFld K ta f) := h ▸ pe_fld he hb
end L2

namespace My
open PySem L2
/-- the draws at d, the place at a -/
structure Dr (K : PySem.W.Frag) (H : Hp) (d a : Addr) : Prop where
  ds : ∃ ns : List Int, H d = some (.lst (ns.map V.int))
  pl : ∃ k : Nat, H a = some (.lst [.int k])
  ne : d ≠ a
theorem Dr.but {K : PySem.W.Frag} {H H' : Hp} {d a : Addr} (x : Dr K H d a) (e : But a H H') (pl : ∃ k : Nat, H' a = some (.lst [.int k])) : Dr K H' d a :=
  ⟨x.ds.elim fun ns h => ⟨ns, e _ _ x.ne h⟩, pl, x.ne⟩
theorem Dr.same {K : PySem.W.Frag} {H H' : Hp} {d a : Addr} (x : Dr K H d a) (e : Same H H') : Dr K H' d a :=
  x.but (But.of_same e) (x.pl.elim fun k h => ⟨k, e _ _ h⟩)
/-- another object is changed -/
theorem Dr.other {K : PySem.W.Frag} {H H' : Hp} {d a p : Addr} (x : Dr K H d a) (e : But p H H') (n1 : d ≠ p) (n2 : a ≠ p) : Dr K H' d a :=
  ⟨x.ds.elim fun ns h => ⟨ns, e _ _ n1 h⟩, x.pl.elim fun k h => ⟨k, e _ _ n2 h⟩, x.ne⟩
theorem Dr.nd {K : PySem.W.Frag} {H : Hp} {d a p : Addr} (x : Dr K H d a) (h : H p = none) : d ≠ p := ne_of_none x.ds.choose_spec h
theorem Dr.na {K : PySem.W.Frag} {H : Hp} {d a p : Addr} (x : Dr K H d a) (h : H p = none) : p ≠ a := (ne_of_none x.pl.choose_spec h).symm
def spTake (K : PySem.W.Frag) : Sp := fun vs H Q _ => ∃ (d a : Addr) (size : Int), vs = [.ref d, .ref a, .int size] ∧ Dr K H d a ∧ 0 < size ∧
  ∀ (r : Int) (H' : Hp), 0 ≤ r → r < size → Dr K H' d a → But a H H' → Q (.int r) H'
section
variable {P : Program} {w : World} {K : PySem.W.Frag} {mg : Str → Option Value} {base : Heap}
theorem ok__law_take (T : Txt K mg) : FnOk P w K mg base CX0 1 T.a__law_take T.fd__law_take ["_law_draws_here", "_law_at", "_law_size"] (spTake K) := by
  refine T.F__law_take.ok sc__law_take (fun vs H Q E h => ?_) (fun cdv A outer s H vs Q E hr h => ?_)
  · obtain ⟨d, a, size, rfl, _⟩ := h; rfl
  · obtain ⟨d, a, size, rfl, D, hs, q⟩ := h
    obtain ⟨ns, hd0⟩ := D.ds
    have hd : SqL K H d (ns.map V.int) := SqL.of hd0
    obtain ⟨k, hk⟩ := D.pl
    have hb : But a H (upd H a (.lst [.int (k + 1 : Nat)])) := But.upd
    have D' : Dr K (upd H a (.lst [.int (k + 1 : Nat)])) d a := D.but hb ⟨_, upd_same⟩
    have hd' := hb.sqL D.ne hd
    refine ⟨_, (pss_cons (ps_asg (pe_op op_add (pe_ix ix_list (pv 1) (pe_int) (fun _ _ => rfl)) (pe_int)) (pg_sub (pv 1) (pe_int) set_list))
      (pss_cons (ps_if (pt_cmpR op_gt (pe_ix ix_list (pv 1) (pe_int) (fun _ _ => rfl)) (pe_callB call_len_seq (by rfl) T.n_len (by decide +kernel) (pa_cons (pv 0) pa_nil)) (nomark _)) (pss_one (ps_ret (pe_int))) pss_nil)
      (pss_one (ps_ret (pe_op op_mod (pe_callTy call_int1 (by rfl) T.n_int (by decide +kernel) (pa_cons (pe_ix ix_list (pv 0) (pe_op op_sub (pe_ix ix_list (pv 1) (pe_int) (fun _ _ => rfl)) (pe_int)) (fun _ _ => rfl)) pa_nil)) (pv 2)))))), ?_⟩
    walk_at "rd"

    refine iteD (fun c => ?_) (fun c => ?_)
    · exact q 0 _ (Int.le_refl _) hs D' hb
    · rw [List.length_map] at c
      have hl : k < ns.length := by omega
      refine ⟨_, rfl, _, rfl, _, _, _, _, rfl, rfl, SqL.of upd_same, atI_nat (j := 0) rfl, _, _, rfl, rfl, _, _, _, _, rfl, rfl, hd', at_of (j := k) (by omega) (by rw [List.getElem?_map, List.getElem?_eq_getElem hl]; rfl), ?_⟩
      walk_at "rd"
      exact q _ _ (Int.emod_nonneg _ (by omega)) (Int.emod_lt_of_pos _ hs) D' hb
end
end My

namespace My
open PySem L2
def spDraws (K : PySem.W.Frag) : Sp := fun vs H Q _ => ∃ (a : Addr) (ns : List Int), vs = [.ref a] ∧ SqL K H a (ns.map V.int) ∧ ns.length ≤ 63 ∧
  ∀ (p : Addr) (zs : List Int) (H' : Hp), Same H H' → H p = none → H' p = some (.lst (zs.map V.int)) → Q (.ref p) H'
section
variable {P : Program} {w : World} {K : PySem.W.Frag} {mg : Str → Option Value} {base : Heap}
theorem ok__law_draws (T : Txt K mg) : FnOk P w K mg base CX0 1 T.a__law_draws T.fd__law_draws ["_law_script"] (spDraws K) := by
  refine T.F__law_draws.ok sc__law_draws (fun vs H Q E h => ?_) (fun cdv A outer s H vs Q E hr h => ?_)
  · obtain ⟨a, ns, rfl, _⟩ := h; rfl
  · obtain ⟨a, ns, rfl, hS, hlen, q⟩ := h
    refine ⟨_, (pss_cons (ps_set (i := 1) sc__law_draws.nd rfl (.inl rfl) (pe_lst pa_nil))
      (pss_cons (ps_for PassesOwn.never rfl (pi_list (pv 0)) (pg_name (i := 2) sc__law_draws.nd rfl (.inl rfl)) (pss_one (ps_if (pt_cmpR op_ge (pv 2) (pe_op op_pow (pe_int) (pe_int)) (nomark _)) (pss_cons (ps_set (i := 3) sc__law_draws.nd rfl (.inl rfl) (pe_callTy call_int1 (by rfl) T.n_int (by decide +kernel) (pa_cons (pv 2) pa_nil)))
      (pss_one (ps_for PassesOwn.never rfl (pi_range1 (by rfl) T.n_range (pa_cons (pe_int) pa_nil)) (pg_name (i := 4) sc__law_draws.nd rfl (.inl rfl)) (pss_one (ps_if (pt_cmpR op_gt (pv 3) (pe_int) (nomark _)) (pss_cons (ps_expr (pe_bm PySem.F.plainAttrs_list PySem.F.slot_list_append PySem.F.type_list_append mt_append (pv 1) (pa_cons (pe_op op_mod (pe_callTy call_int1 (by rfl) T.n_int (by decide +kernel) (pa_cons (pv 3) pa_nil)) (pe_int)) pa_nil)))
      (pss_one (ps_set (i := 3) sc__law_draws.nd rfl (.inl rfl) (pe_op op_fdiv (pv 3) (pe_int))))) pss_nil))))) (pss_cons (ps_set (i := 5) sc__law_draws.nd rfl (.inl rfl) (pe_op op_mod (pe_callTy call_int1 (by rfl) T.n_int (by decide +kernel) (pa_cons (pe_op op_add (pe_op op_mul (pv 2) (pe_int)) (pe_int)) pa_nil)) (pe_int)))
      (pss_cons (ps_expr (pe_bm PySem.F.plainAttrs_list PySem.F.slot_list_append PySem.F.type_list_append mt_append (pv 1) (pa_cons (pv 5) pa_nil)))
      (pss_one (ps_expr (pe_bm PySem.F.plainAttrs_list PySem.F.slot_list_append PySem.F.type_list_append mt_append (pv 1) (pa_cons (pe_op op_mod (pe_callTy call_int1 (by rfl) T.n_int (by decide +kernel) (pa_cons (pe_op op_add (pe_op op_add (pe_op op_mul (pv 5) (pv 5)) (pe_op op_mul (pe_int) (pv 5))) (pe_op op_mul (pe_int) (pe_callB call_len_seq (by rfl) T.n_len (by decide +kernel) (pa_cons (pv 1) pa_nil)))) pa_nil)) (pe_int)) pa_nil)))))))))
      (pss_one (ps_ret (pv 1))))), ?_⟩
    refine ⟨Nat.zero_le _, fun p hp => ?_⟩
    have s0 : Same H (upd H p (.lst [])) := same_new hp
    refine ⟨_, rfl, a, rfl, ⟨_, s0.seq hS⟩, for_list (K := K) (a := a) (xs := ns.map V.int) (fun i σ H' => ∃ (zs : List Int) (x2 x3 x4 x5 : Option V), σ = [some (.ref a), some (.ref p), x2, x3, x4, x5] ∧ Same H H' ∧ H' p = some (.lst (zs.map V.int)) ∧ zs.length ≤ 60 * i)
      ⟨[], _, _, _, _, rfl, s0, upd_same, Nat.zero_le _⟩ (fun i σ H' _ ⟨_, _, _, _, _, _, s1, _⟩ => s1.seq hS) ?_ ?_⟩
    · rintro i y σ H1 hi ⟨zs, x2, x3, x4, x5, rfl, s1, h1, hz⟩
      have hi63 : i < ns.length := by
        have z := (List.getElem?_eq_some_iff.mp hi).1
        rw [List.length_map] at z
        exact z
      obtain ⟨c, hc, rfl⟩ := get_int hi
      refine ⟨_, rfl, _, _, rfl, rfl, ⟨by decide, by decide, by decide⟩, ?_⟩
      walk_at "rd"
      refine iteD (fun c1 => ?_) (fun c1 => ?_)
      · refine ⟨_, rfl, .inl ⟨_, rfl, ?_⟩⟩
        refine ⟨60, rfl, by decide, by decide, for_range (lo := 0) (n := 60) (fun j σ H' => ∃ (zs : List Int) (r : Int) (x4 : Option V), σ = [some (.ref a), some (.ref p), some (.int c), some (.int r), x4, x5] ∧ Same H H' ∧ H' p = some (.lst (zs.map V.int)) ∧ zs.length ≤ 60 * i + j)
          ⟨zs, c, x4, rfl, s1, h1, hz⟩ ?_ ?_⟩
        · rintro j σ H2 hj ⟨zs, r, x4, rfl, s2, h2, hz2⟩
          walk_at "rd"
          refine iteD (fun c2 => ?_) (fun c2 => ?_)
          · refine ⟨_, rfl, .inl ⟨rfl, _, SqL.of h2⟩, _, rfl, .inl ⟨_, rfl, _, _, rfl, rfl, (by show (0 : Int) < 1000; decide), _, _, _, rfl, rfl, h2, by rw [List.length_map]; exact Nat.lt_of_le_of_lt (by omega : _ ≤ 100000) (by decide), ?_⟩⟩
            refine ⟨_, rfl, _, _, rfl, rfl, ⟨by decide, by decide⟩, ?_⟩
            exact ⟨zs ++ [r % 1000], _, _, rfl, same_mut s2 hp, by rw [upd_same, ints_app], by rw [List.length_append, List.length_singleton]; omega⟩
          · exact ⟨zs, r, _, rfl, s2, h2, by omega⟩
        · rintro σ H2 ⟨zs, r, x4, rfl, s2, h2, hz2⟩
          exact ⟨zs, _, _, _, _, rfl, s2, h2, by omega⟩
      · refine ⟨_, rfl, _, _, rfl, rfl, .inr ⟨by decide, by decide⟩, _, _, rfl, rfl, .inl ⟨_, rfl, _, _, rfl, rfl, (by show (0 : Int) < 9973; decide), ?_⟩⟩
        have hm0 : 0 ≤ (c * 48271 + 12345) % 9973 := Int.emod_nonneg _ (by decide)
        have hm1 : (c * 48271 + 12345) % 9973 < 9973 := Int.emod_lt_of_pos _ (by decide)
        refine ⟨_, rfl, .inl ⟨rfl, _, SqL.of h1⟩, _, rfl, _, _, _, rfl, rfl, h1, by rw [List.length_map]; exact Nat.lt_of_le_of_lt (by omega : _ ≤ 100000) (by decide), ?_⟩
        refine ⟨_, rfl, .inl ⟨rfl, _, SqL.of upd_same⟩, _, rfl, _, rfl, _, _, rfl, rfl, .inl ⟨by omega, by omega⟩, _, rfl, _, _, rfl, rfl, .inl ⟨by decide, by decide⟩, _, _, rfl, rfl, _, rfl, _, _, rfl, .inl (SqL.of upd_same), _, _, rfl, rfl, .inl ⟨by decide, by decide⟩, _, _, rfl, rfl, .inl ⟨_, rfl, _, _, rfl, rfl, (by show (0 : Int) < 9949; decide), ?_⟩⟩
        refine ⟨_, _, _, rfl, rfl, upd_same, by rw [List.length_append, List.length_map]; exact Nat.lt_of_le_of_lt (by simp; omega : _ ≤ 100000) (by decide), ?_⟩
        rw [ints_app, ints_app, upd_upd]
        exact ⟨_, _, _, _, _, rfl, same_mut s1 hp, upd_same, by simp; omega⟩
    · rintro σ H1 ⟨zs, x2, x3, x4, x5, rfl, s1, h1, hz⟩
      exact ⟨_, rfl, q p zs H1 s1 hp h1⟩
end
end My

namespace My
open PySem L2
/-! ### plain data -/
inductive Sc : V → PyData → Prop
  | non : Sc .non .none
  | bl (b : Bool) : Sc (.bl b) (.bool b)
  | int (i : Int) : Sc (.int i) (.int i)
  | str (z : Str) : Sc (.str z) (.str z)
/-- a list that stays where x alone is changed; a tuple likewise -/
def SL (K : PySem.W.Frag) (x : Addr) (H : Hp) (a : Addr) (xs : List V) : Prop := (a ≠ x ∧ SqL K H a xs) ∨ ∀ H', SqL K H' a xs
def SU (K : PySem.W.Frag) (x : Addr) (H : Hp) (a : Addr) (xs : List V) : Prop := (a ≠ x ∧ SqT K H a xs) ∨ ∀ H', SqT K H' a xs
section
variable {K : PySem.W.Frag} {x : Addr} {H H' : Hp} {a : Addr} {xs : List V}
theorem SL.sq (h : SL K x H a xs) : SqL K H a xs := by
  rcases h with h | h
  · exact h.2
  · exact h H
theorem SU.sq (h : SU K x H a xs) : SqT K H a xs := by
  rcases h with h | h
  · exact h.2
  · exact h H
theorem SL.but (h : SL K x H a xs) (e : But x H H') : SL K x H' a xs := by
  rcases h with ⟨n, h⟩ | h
  · exact .inl ⟨n, e.sqL n h⟩
  · exact .inr h
theorem SU.but (h : SU K x H a xs) (e : But x H H') : SU K x H' a xs := by
  rcases h with ⟨n, h⟩ | h
  · exact .inl ⟨n, e.sqT n h⟩
  · exact .inr h
theorem tyL (h : SqL K H a xs) : TyX K H (.ref a) (.type "list") := by
  rcases h with (h | ⟨o, h⟩) | ⟨o, its, n, h, c, _⟩
  · exact .base (.lst h)
  · exact .base (.frz h)
  · exact .kList h c
theorem tyT (h : SqT K H a xs) : TyX K H (.ref a) (.type "tuple") := by
  rcases h with (h | ⟨o, h⟩) | ⟨o, its, n, h, c, _⟩
  · exact .base (.tup h)
  · exact .fTuple h
  · exact .kTuple h c
end
/-- data of depth n at most -/
def Dn (K : PySem.W.Frag) (x : Addr) (H : Hp) : Nat → V → PyData → Prop
  | 0, v, d => Sc v d
  | n + 1, v, d => Sc v d ∨ (∃ a xs ds, v = .ref a ∧ d = .list ds ∧ SL K x H a xs ∧ xs.length ≤ 100000 ∧ Paired (Dn K x H n) xs ds) ∨ ∃ a xs ds, v = .ref a ∧ d = .tuple ds ∧ SU K x H a xs ∧ xs.length ≤ 100000 ∧ Paired (Dn K x H n) xs ds
theorem Dn.sc {K : PySem.W.Frag} {x : Addr} {H : Hp} {v : V} {d : PyData} (h : Sc v d) : ∀ n, Dn K x H n v d
  | 0 => h
  | _ + 1 => .inl h
theorem Dn.but {K : PySem.W.Frag} {x : Addr} {H H' : Hp} (e : But x H H') : ∀ {n : Nat} {v : V} {d : PyData}, Dn K x H n v d → Dn K x H' n v d
  | 0, _, _, h => h
  | n + 1, v, d, h => by
    rcases h with h | ⟨a, xs, ds, rfl, rfl, h, hz, p⟩ | ⟨a, xs, ds, rfl, rfl, h, hz, p⟩
    · exact .inl h
    · exact .inr (.inl ⟨a, xs, ds, rfl, rfl, h.but e, hz, L2.Paired.mapP p fun _ _ z => Dn.but e z⟩)
    · exact .inr (.inr ⟨a, xs, ds, rfl, rfl, h.but e, hz, L2.Paired.mapP p fun _ _ z => Dn.but e z⟩)
theorem Dn.lst {K : PySem.W.Frag} {x : Addr} {H : Hp} {n : Nat} {a : Addr} {xs : List V} {ds : List PyData} (ne : a ≠ x) (h : SqL K H a xs) (p : Paired (Dn K x H n) xs ds) (hz : xs.length ≤ 100000 := by simp) : Dn K x H (n + 1) (.ref a) (.list ds) :=
  .inr (.inl ⟨a, xs, ds, rfl, rfl, .inl ⟨ne, h⟩, hz, p⟩)
theorem Dn.tup {K : PySem.W.Frag} {x : Addr} {H : Hp} {n : Nat} {a : Addr} {xs : List V} {ds : List PyData} (ne : a ≠ x) (h : SqT K H a xs) (p : Paired (Dn K x H n) xs ds) (hz : xs.length ≤ 100000 := by simp) : Dn K x H (n + 1) (.ref a) (.tuple ds) :=
  .inr (.inr ⟨a, xs, ds, rfl, rfl, .inl ⟨ne, h⟩, hz, p⟩)
theorem Dn.int {K : PySem.W.Frag} {x : Addr} {H : Hp} (i : Int) {n : Nat} : Dn K x H n (.int i) (.int i) := Dn.sc (.int i) n
theorem Dn.str {K : PySem.W.Frag} {x : Addr} {H : Hp} (i : Str) {n : Nat} : Dn K x H n (.str i) (.str i) := Dn.sc (.str i) n
theorem Dn.bl {K : PySem.W.Frag} {x : Addr} {H : Hp} (i : Bool) {n : Nat} : Dn K x H n (.bl i) (.bool i) := Dn.sc (.bl i) n
theorem Dn.non {K : PySem.W.Frag} {x : Addr} {H : Hp} {n : Nat} : Dn K x H n .non .none := Dn.sc .non n
theorem Dn.up {K : PySem.W.Frag} {x : Addr} {H : Hp} : ∀ {n : Nat} {v : V} {d : PyData}, Dn K x H n v d → Dn K x H (n + 1) v d
  | 0, _, _, h => .inl h
  | n + 1, v, d, h => by
    rcases h with h | ⟨a, xs, ds, rfl, rfl, h, hz, p⟩ | ⟨a, xs, ds, rfl, rfl, h, hz, p⟩
    · exact .inl h
    · exact .inr (.inl ⟨a, xs, ds, rfl, rfl, h, hz, L2.Paired.mapP p fun _ _ z => Dn.up z⟩)
    · exact .inr (.inr ⟨a, xs, ds, rfl, rfl, h, hz, L2.Paired.mapP p fun _ _ z => Dn.up z⟩)
theorem pair_get {α β : Type} {F : α → β → Prop} : ∀ {l : List α} {m : List β} {i : Nat} {x : α}, Paired F l m → l[i]? = some x → ∃ y, m[i]? = some y ∧ F x y
  | _, _, _, _, .nil, e => by simp at e
  | _, _, 0, _, .cons r _, e => by simp at e; subst e; exact ⟨_, rfl, r⟩
  | _, _, i + 1, x, .cons _ t, e => by
    obtain ⟨y, h1, h2⟩ := pair_get (i := i) (x := x) t (by simpa using e)
    exact ⟨y, by simpa using h1, h2⟩
theorem pair_len {α β : Type} {F : α → β → Prop} : ∀ {l : List α} {m : List β}, Paired F l m → l.length = m.length
  | _, _, .nil => rfl
  | _, _, .cons _ t => by rw [List.length_cons, List.length_cons, pair_len t]
noncomputable def sameD (d e : PyData) : Bool := @decide (d = e) (Classical.propDecidable _)
theorem same_yes {d e : PyData} (h : d = e) : sameD d e = true := by unfold sameD; exact @decide_eq_true _ (Classical.propDecidable _) h
theorem same_no {d e : PyData} (h : d ≠ e) : sameD d e = false := by unfold sameD; exact @decide_eq_false _ (Classical.propDecidable _) h
theorem same_iff {d e : PyData} : sameD d e = true ↔ d = e := by
  constructor
  · intro h
    by_cases q : d = e
    · exact q
    · rw [same_no q] at h; cases h
  · exact same_yes
theorem same_of {p : Prop} [Decidable p] {d e : PyData} (h : d = e ↔ p) : sameD d e = decide p := by
  by_cases q : p
  · rw [decide_eq_true q, same_yes (h.mpr q)]
  · rw [decide_eq_false q, same_no (fun z => q (h.mp z))]
def spSame (K : PySem.W.Frag) (n : Nat) : Sp := fun vs H Q _ => ∃ (x : Addr) (v1 v2 : V) (d1 d2 : PyData), vs = [v1, v2] ∧ Dn K x H n v1 d1 ∧ Dn K x H n v2 d2 ∧ Q (.bl (sameD d1 d2)) H
end My
local macro_rules | `(tactic| walk_at "ty") => `(tactic| first | exact .base (.int _) | exact .base (.bl _) | exact .base .non | exact .base (.str _) | exact My.tyL (by assumption) | exact My.tyT (by assumption))
local macro_rules | `(tactic| walk_at "is") => `(tactic| first | refine ⟨_, _, _, _, true, rfl, L2.ClsV.ty _, (by walk_at "ty"), L2.kit_ty (by decide +kernel), ?_⟩ | refine ⟨_, _, _, _, false, rfl, L2.ClsV.ty _, (by walk_at "ty"), L2.kit_ty (by decide +kernel), ?_⟩)
local macro_rules | `(tactic| walk_at "ri") => `(tactic| repeat (first | walk_at "is" | refine ⟨_, rfl, ?_⟩ | refine ⟨rfl, ?_⟩))
namespace My
open PySem L2
theorem same_bl (a b : Bool) : sameD (.bool a) (.bool b) = decide (V.bl a = V.bl b) := same_of ⟨fun h => by cases h; rfl, fun h => by cases h; rfl⟩
theorem same_int (a b : Int) : sameD (.int a) (.int b) = decide (V.int a = V.int b) := same_of ⟨fun h => by cases h; rfl, fun h => by cases h; rfl⟩
theorem same_str (a b : Str) : sameD (.str a) (.str b) = decide (V.str a = V.str b) := same_of ⟨fun h => by cases h; rfl, fun h => by cases h; rfl⟩
theorem same_non : sameD .none .none = true := same_yes rfl
theorem same_lst (a b : List PyData) : sameD (.list a) (.list b) = true ↔ a = b := same_iff.trans ⟨fun h => by cases h; rfl, fun h => by cases h; rfl⟩
theorem same_tup (a b : List PyData) : sameD (.tuple a) (.tuple b) = true ↔ a = b := same_iff.trans ⟨fun h => by cases h; rfl, fun h => by cases h; rfl⟩
section
variable {P : Program} {w : World} {K : PySem.W.Frag} {mg : Str → Option Value} {base : Heap}
set_option maxHeartbeats 8000000 in
theorem ok__law_same (T : Txt K mg) : ∀ n, FnOk P w K mg base CX0 (n + 1) T.a__law_same T.fd__law_same ["_law_actual", "_law_expected"] (spSame K n)
  | 0 => by
    refine T.F__law_same.ok sc__law_same (fun vs H Q E h => ?_) (fun cdv A outer s H vs Q E hr h => ?_)
    · obtain ⟨x, v1, v2, d1, d2, rfl, _⟩ := h; rfl
    · obtain ⟨x, v1, v2, d1, d2, rfl, h1, h2, q⟩ := h
      refine ⟨_, (pss_cons (ps_if (PW.pt (pw_or (pt_val (pe_callB call_isi (by rfl) T.n_isinstance (by decide +kernel) (pa_cons (pv 0) (pa_cons (pe_bltn (v := .ty "bool") (by rfl) T.n_bool (by decide +kernel) rfl) pa_nil)))) (pw_or1 (pt_val (pe_callB call_isi (by rfl) T.n_isinstance (by decide +kernel) (pa_cons (pv 1) (pa_cons (pe_bltn (v := .ty "bool") (by rfl) T.n_bool (by decide +kernel) rfl) pa_nil))))))) (pss_one (ps_ret (pe_and (pe_callB call_isi (by rfl) T.n_isinstance (by decide +kernel) (pa_cons (pv 0) (pa_cons (pe_bltn (v := .ty "bool") (by rfl) T.n_bool (by decide +kernel) rfl) pa_nil))) (pe_and (pe_callB call_isi (by rfl) T.n_isinstance (by decide +kernel) (pa_cons (pv 1) (pa_cons (pe_bltn (v := .ty "bool") (by rfl) T.n_bool (by decide +kernel) rfl) pa_nil))) (pe_one (pe_cmpR op_eq (pv 0) (pv 1) (nomark _))))))) pss_nil)
      (pss_cons (ps_if (PW.pt (pw_or (pt_cmpR op_isN (pv 0) (pe_non) (nomark _)) (pw_or1 (pt_cmpR op_isN (pv 1) (pe_non) (nomark _))))) (pss_one (ps_ret (pe_and (pe_cmpR op_isN (pv 0) (pe_non) (nomark _)) (pe_one (pe_cmpR op_isN (pv 1) (pe_non) (nomark _)))))) pss_nil)
      (pss_cons (ps_if (pt_val (pe_callB call_isi (by rfl) T.n_isinstance (by decide +kernel) (pa_cons (pv 1) (pa_cons (pe_bltn (v := .ty "int") (by rfl) T.n_int (by decide +kernel) rfl) pa_nil)))) (pss_one (ps_ret (pe_and (pe_callB call_isi (by rfl) T.n_isinstance (by decide +kernel) (pa_cons (pv 0) (pa_cons (pe_bltn (v := .ty "int") (by rfl) T.n_int (by decide +kernel) rfl) pa_nil))) (pe_one (pe_cmpR op_eq (pv 0) (pv 1) (nomark _)))))) pss_nil)
      (pss_cons (ps_if (pt_val (pe_callB call_isi (by rfl) T.n_isinstance (by decide +kernel) (pa_cons (pv 1) (pa_cons (pe_bltn (v := .ty "str") (by rfl) T.n_str (by decide +kernel) rfl) pa_nil)))) (pss_one (ps_ret (pe_and (pe_callB call_isi (by rfl) T.n_isinstance (by decide +kernel) (pa_cons (pv 0) (pa_cons (pe_bltn (v := .ty "str") (by rfl) T.n_str (by decide +kernel) rfl) pa_nil))) (pe_one (pe_cmpR op_eq (pv 0) (pv 1) (nomark _)))))) pss_nil)
      (pss_cons (ps_if (PW.pt (pw_and (pt_val (pe_callB call_isi (by rfl) T.n_isinstance (by decide +kernel) (pa_cons (pv 1) (pa_cons (pe_bltn (v := .ty "tuple") (by rfl) T.n_tuple (by decide +kernel) rfl) pa_nil)))) (pw_and1 (pt_not (pt_val (pe_callB call_isi (by rfl) T.n_isinstance (by decide +kernel) (pa_cons (pv 0) (pa_cons (pe_bltn (v := .ty "tuple") (by rfl) T.n_tuple (by decide +kernel) rfl) pa_nil)))))))) (pss_one (ps_ret (pe_bl))) pss_nil)
      (pss_cons (ps_if (PW.pt (pw_and (pt_val (pe_callB call_isi (by rfl) T.n_isinstance (by decide +kernel) (pa_cons (pv 1) (pa_cons (pe_bltn (v := .ty "list") (by rfl) T.n_list (by decide +kernel) rfl) pa_nil)))) (pw_and1 (pt_not (pt_val (pe_callB call_isi (by rfl) T.n_isinstance (by decide +kernel) (pa_cons (pv 0) (pa_cons (pe_bltn (v := .ty "list") (by rfl) T.n_list (by decide +kernel) rfl) pa_nil)))))))) (pss_one (ps_ret (pe_bl))) pss_nil)
      (pss_cons (ps_if (pt_cmpR op_ne (pe_callB call_len_seq (by rfl) T.n_len (by decide +kernel) (pa_cons (pv 0) pa_nil)) (pe_callB call_len_seq (by rfl) T.n_len (by decide +kernel) (pa_cons (pv 1) pa_nil)) (nomark _)) (pss_one (ps_ret (pe_bl))) pss_nil)
      (pss_cons ps_never
      (pss_one (ps_ret (pe_bl))))))))))), ?_⟩
      cases h1 <;> cases h2
      all_goals walk_at "ri"
      all_goals first | (rw [same_no (by intro z; cases z)] at q; exact q) | (rw [same_bl] at q; exact q) | (rw [same_int] at q; exact q) | (rw [same_str] at q; exact q) | (rw [same_non] at q; exact q)
  | n + 1 => by
    refine T.F__law_same.ok sc__law_same (fun vs H Q E h => ?_) (fun cdv A outer s H vs Q E hr h => ?_)
    · obtain ⟨x, v1, v2, d1, d2, rfl, _⟩ := h; rfl
    · obtain ⟨x, v1, v2, d1, d2, rfl, h1, h2, q⟩ := h
      refine ⟨_, (pss_cons (ps_if (PW.pt (pw_or (pt_val (pe_callB call_isi (by rfl) T.n_isinstance (by decide +kernel) (pa_cons (pv 0) (pa_cons (pe_bltn (v := .ty "bool") (by rfl) T.n_bool (by decide +kernel) rfl) pa_nil)))) (pw_or1 (pt_val (pe_callB call_isi (by rfl) T.n_isinstance (by decide +kernel) (pa_cons (pv 1) (pa_cons (pe_bltn (v := .ty "bool") (by rfl) T.n_bool (by decide +kernel) rfl) pa_nil))))))) (pss_one (ps_ret (pe_and (pe_callB call_isi (by rfl) T.n_isinstance (by decide +kernel) (pa_cons (pv 0) (pa_cons (pe_bltn (v := .ty "bool") (by rfl) T.n_bool (by decide +kernel) rfl) pa_nil))) (pe_and (pe_callB call_isi (by rfl) T.n_isinstance (by decide +kernel) (pa_cons (pv 1) (pa_cons (pe_bltn (v := .ty "bool") (by rfl) T.n_bool (by decide +kernel) rfl) pa_nil))) (pe_one (pe_cmpR op_eq (pv 0) (pv 1) (nomark _))))))) pss_nil)
      (pss_cons (ps_if (PW.pt (pw_or (pt_cmpR op_isN (pv 0) (pe_non) (nomark _)) (pw_or1 (pt_cmpR op_isN (pv 1) (pe_non) (nomark _))))) (pss_one (ps_ret (pe_and (pe_cmpR op_isN (pv 0) (pe_non) (nomark _)) (pe_one (pe_cmpR op_isN (pv 1) (pe_non) (nomark _)))))) pss_nil)
      (pss_cons (ps_if (pt_val (pe_callB call_isi (by rfl) T.n_isinstance (by decide +kernel) (pa_cons (pv 1) (pa_cons (pe_bltn (v := .ty "int") (by rfl) T.n_int (by decide +kernel) rfl) pa_nil)))) (pss_one (ps_ret (pe_and (pe_callB call_isi (by rfl) T.n_isinstance (by decide +kernel) (pa_cons (pv 0) (pa_cons (pe_bltn (v := .ty "int") (by rfl) T.n_int (by decide +kernel) rfl) pa_nil))) (pe_one (pe_cmpR op_eq (pv 0) (pv 1) (nomark _)))))) pss_nil)
      (pss_cons (ps_if (pt_val (pe_callB call_isi (by rfl) T.n_isinstance (by decide +kernel) (pa_cons (pv 1) (pa_cons (pe_bltn (v := .ty "str") (by rfl) T.n_str (by decide +kernel) rfl) pa_nil)))) (pss_one (ps_ret (pe_and (pe_callB call_isi (by rfl) T.n_isinstance (by decide +kernel) (pa_cons (pv 0) (pa_cons (pe_bltn (v := .ty "str") (by rfl) T.n_str (by decide +kernel) rfl) pa_nil))) (pe_one (pe_cmpR op_eq (pv 0) (pv 1) (nomark _)))))) pss_nil)
      (pss_cons (ps_if (PW.pt (pw_and (pt_val (pe_callB call_isi (by rfl) T.n_isinstance (by decide +kernel) (pa_cons (pv 1) (pa_cons (pe_bltn (v := .ty "tuple") (by rfl) T.n_tuple (by decide +kernel) rfl) pa_nil)))) (pw_and1 (pt_not (pt_val (pe_callB call_isi (by rfl) T.n_isinstance (by decide +kernel) (pa_cons (pv 0) (pa_cons (pe_bltn (v := .ty "tuple") (by rfl) T.n_tuple (by decide +kernel) rfl) pa_nil)))))))) (pss_one (ps_ret (pe_bl))) pss_nil)
      (pss_cons (ps_if (PW.pt (pw_and (pt_val (pe_callB call_isi (by rfl) T.n_isinstance (by decide +kernel) (pa_cons (pv 1) (pa_cons (pe_bltn (v := .ty "list") (by rfl) T.n_list (by decide +kernel) rfl) pa_nil)))) (pw_and1 (pt_not (pt_val (pe_callB call_isi (by rfl) T.n_isinstance (by decide +kernel) (pa_cons (pv 0) (pa_cons (pe_bltn (v := .ty "list") (by rfl) T.n_list (by decide +kernel) rfl) pa_nil)))))))) (pss_one (ps_ret (pe_bl))) pss_nil)
      (pss_cons (ps_if (pt_cmpR op_ne (pe_callB call_len_seq (by rfl) T.n_len (by decide +kernel) (pa_cons (pv 0) pa_nil)) (pe_callB call_len_seq (by rfl) T.n_len (by decide +kernel) (pa_cons (pv 1) pa_nil)) (nomark _)) (pss_one (ps_ret (pe_bl))) pss_nil)
      (pss_cons (ps_for PassesOwn.never rfl (pi_range1 (by rfl) T.n_range (pa_cons (pe_callB call_len_seq (by rfl) T.n_len (by decide +kernel) (pa_cons (pv 1) pa_nil)) pa_nil)) (pg_name (i := 2) sc__law_same.nd rfl (.inl rfl)) (pss_one (ps_if (pt_not (pt_val (pe_call (ok__law_same T n) (hr.mono (by omega)) (by rfl) T.g__law_same T.F__law_same.kp T.b__law_same .nil pass0 (pa_cons (pe_ix ix_seq (pv 0) (pv 2) (fun _ _ => rfl)) (pa_cons (pe_ix ix_seq (pv 1) (pv 2) (fun _ _ => rfl)) pa_nil))))) (pss_one (ps_ret (pe_bl))) pss_nil)))
      (pss_one (ps_ret (pe_bl))))))))))), ?_⟩
      rcases h1 with h1 | ⟨a1, xs1, ds1, rfl, rfl, h1, z1, p1⟩ | ⟨a1, xs1, ds1, rfl, rfl, h1, z1, p1⟩ <;> rcases h2 with h2 | ⟨a2, xs2, ds2, rfl, rfl, h2, z2, p2⟩ | ⟨a2, xs2, ds2, rfl, rfl, h2, z2, p2⟩
      · cases h1 <;> cases h2
        all_goals walk_at "ri"
        all_goals first | (rw [same_no (by intro z; cases z)] at q; exact q) | (rw [same_bl] at q; exact q) | (rw [same_int] at q; exact q) | (rw [same_str] at q; exact q) | (rw [same_non] at q; exact q)
      · have t2 := h2.sq
        cases h1
        all_goals (walk_at "ri"; rw [same_no (by intro z; cases z)] at q; exact q)
      · have t2 := h2.sq
        cases h1
        all_goals (walk_at "ri"; rw [same_no (by intro z; cases z)] at q; exact q)
      · have t1 := h1.sq
        cases h2
        all_goals (walk_at "ri"; rw [same_no (by intro z; cases z)] at q; exact q)
      · have t1 := h1.sq
        have t2 := h2.sq
        walk_at "ri"
        refine ⟨_, _, rfl, .inl t1, _, rfl, _, _, rfl, .inl t2, rfl, _, rfl, ?_⟩
        have l1 := pair_len p1
        have l2 := pair_len p2
        refine iteN (fun c => ?_) (fun c => ?_)
        · rw [same_no (by intro z; cases z; exact c (by rw [l1, l2]))] at q; exact q
        have c' : xs1.length = xs2.length := by have := V.int.inj c; omega
        refine ⟨_, rfl, _, _, rfl, .inl t2, _, rfl, by omega, by omega, for_range (lo := 0) (n := _) (fun j σ H' => ∃ x2, σ = [some (.ref a1), some (.ref a2), x2] ∧ H' = H ∧ ds1.take j = ds2.take j) ⟨_, rfl, rfl, rfl⟩ ?_ ?_⟩
        · rintro j σ H1 hj ⟨x2, rfl, rfl, et⟩
          have j2 : j < xs2.length := by omega
          have j1 : j < xs1.length := by omega
          obtain ⟨e1, g1, r1⟩ := pair_get p1 (List.getElem?_eq_getElem j1)
          obtain ⟨e2, g2, r2⟩ := pair_get p2 (List.getElem?_eq_getElem j2)
          refine ⟨_, rfl, _, rfl, .inl ⟨_, _, _, _, rfl, rfl, t1, at_of (j := j) (by omega) (List.getElem?_eq_getElem j1), ?_⟩⟩
          refine ⟨_, rfl, _, rfl, .inl ⟨_, _, _, _, rfl, rfl, t2, at_of (j := j) (by omega) (List.getElem?_eq_getElem j2), ?_⟩⟩
          refine ⟨x, _, _, e1, e2, rfl, r1, r2, _, rfl, ?_⟩
          refine iteB (fun b => ?_) (fun b => ?_)
          · have ne : e1 ≠ e2 := fun h => by rw [same_yes h] at b; cases b
            rw [same_no (by intro z; cases z; rw [g1] at g2; exact ne (Option.some.inj g2))] at q; exact q
          · have ee : e1 = e2 := by
              apply same_iff.mp
              cases h : sameD e1 e2 with
              | true => rfl
              | false => rw [h] at b; cases b
            subst ee
            exact ⟨_, rfl, rfl, by rw [List.take_add_one, List.take_add_one, et, g1, g2]⟩
        · rintro σ H1 ⟨x2, rfl, rfl, et⟩
          have ed : ds1 = ds2 := by
            rw [List.take_of_length_le (by omega), List.take_of_length_le (by omega)] at et
            exact et
          subst ed
          rw [same_yes rfl] at q; exact q
      · have t1 := h1.sq
        have t2 := h2.sq
        walk_at "ri"
        rw [same_no (by intro z; cases z)] at q; exact q
      · have t1 := h1.sq
        cases h2
        all_goals (walk_at "ri"; rw [same_no (by intro z; cases z)] at q; exact q)
      · have t1 := h1.sq
        have t2 := h2.sq
        walk_at "ri"
        rw [same_no (by intro z; cases z)] at q; exact q
      · have t1 := h1.sq
        have t2 := h2.sq
        walk_at "ri"
        refine ⟨_, _, rfl, .inr t1, _, rfl, _, _, rfl, .inr t2, rfl, _, rfl, ?_⟩
        have l1 := pair_len p1
        have l2 := pair_len p2
        refine iteN (fun c => ?_) (fun c => ?_)
        · rw [same_no (by intro z; cases z; exact c (by rw [l1, l2]))] at q; exact q
        have c' : xs1.length = xs2.length := by have := V.int.inj c; omega
        refine ⟨_, rfl, _, _, rfl, .inr t2, _, rfl, by omega, by omega, for_range (lo := 0) (n := _) (fun j σ H' => ∃ x2, σ = [some (.ref a1), some (.ref a2), x2] ∧ H' = H ∧ ds1.take j = ds2.take j) ⟨_, rfl, rfl, rfl⟩ ?_ ?_⟩
        · rintro j σ H1 hj ⟨x2, rfl, rfl, et⟩
          have j2 : j < xs2.length := by omega
          have j1 : j < xs1.length := by omega
          obtain ⟨e1, g1, r1⟩ := pair_get p1 (List.getElem?_eq_getElem j1)
          obtain ⟨e2, g2, r2⟩ := pair_get p2 (List.getElem?_eq_getElem j2)
          refine ⟨_, rfl, _, rfl, .inr (.inl ⟨_, _, _, _, rfl, rfl, t1, at_of (j := j) (by omega) (List.getElem?_eq_getElem j1), ?_⟩)⟩
          refine ⟨_, rfl, _, rfl, .inr (.inl ⟨_, _, _, _, rfl, rfl, t2, at_of (j := j) (by omega) (List.getElem?_eq_getElem j2), ?_⟩)⟩
          refine ⟨x, _, _, e1, e2, rfl, r1, r2, _, rfl, ?_⟩
          refine iteB (fun b => ?_) (fun b => ?_)
          · have ne : e1 ≠ e2 := fun h => by rw [same_yes h] at b; cases b
            rw [same_no (by intro z; cases z; rw [g1] at g2; exact ne (Option.some.inj g2))] at q; exact q
          · have ee : e1 = e2 := by
              apply same_iff.mp
              cases h : sameD e1 e2 with
              | true => rfl
              | false => rw [h] at b; cases b
            subst ee
            exact ⟨_, rfl, rfl, by rw [List.take_add_one, List.take_add_one, et, g1, g2]⟩
        · rintro σ H1 ⟨x2, rfl, rfl, et⟩
          have ed : ds1 = ds2 := by
            rw [List.take_of_length_le (by omega), List.take_of_length_le (by omega)] at et
            exact et
          subst ed
          rw [same_yes rfl] at q; exact q
end
theorem nsame {d : PyData} : (!sameD d d) = false := by rw [same_yes rfl]; rfl
end My

namespace My
open PySem L2
theorem EdV.same {H H' : Hp} {v : V} {e : Int × Int} (h : EdV H v e) (s : Same H H') : EdV H' v e := let ⟨p, a, b⟩ := h; ⟨p, a, s _ _ b⟩
theorem edvs_same {H H' : Hp} (s : Same H H') : ∀ {vs : List V} {es : List (Int × Int)}, Paired (EdV H) vs es → Paired (EdV H') vs es
  | _, _, .nil => .nil
  | _, _, .cons a b => .cons (EdV.same a s) (edvs_same s b)
theorem edg_same {K : PySem.W.Frag} {H H' : Hp} {y : V} {es : List (Int × Int)} (s : Same H H') (h : Edg K H y es) : Edg K H' y es := by
  rcases h with ⟨a, vs, rfl, sq, pr⟩ | ⟨a, kvs, rfl, ha, hk⟩
  · refine .inl ⟨a, vs, rfl, ?_, edvs_same s pr⟩
    rcases sq with sq | sq
    · exact .inl (s.seq sq)
    · exact .inr ((But.of_same (a := a + 1) s).sqT (Nat.ne_of_lt (Nat.lt_succ_self a)) sq)
  · exact .inr ⟨a, kvs, rfl, s _ _ ha, hk⟩
def into (es : List (Int × Int)) (ls : List Int) (x : Int) : Bool := ls.any fun y => decide ((y, x) ∈ es)
def freeOf (es : List (Int × Int)) (ls : List Int) : List Int := ls.filter fun x => !into es ls x
/-- any([(y, x) in edges for y in left]), left at i2, edges at i1, x at i5, y at i6 -/
theorem any_in {K : PySem.W.Frag} {y : V} {x0 x3 x4 x6 : Option V} {l : Addr} {x : Int} {ls : List Int} {es : List (Int × Int)} {H : Hp} {Q : VK} (hl : H l = some (.lst (ls.map V.int))) (hz : ls.length ≤ 1000) (he : Edg K H y es)
    (q : ∀ H', Same H H' → Q (.bl (into es ls x)) H') :
    tCB (rAny K) (tCons (tLc (iList K (tVar 2)) (gName 6) tYes (tOp (rInE K false) (tTup (tCons (tVar 6) (tCons (tVar 5) tNil))) (tVar 1)) [6]) tNil) [x0, some y, some (.ref l), x3, x4, some (.int x), x6] H Q := by
  have big : 1000 < sizeLine := by decide
  refine ⟨_, rfl, l, rfl, ⟨_, SqL.of hl⟩, fun D hD => lc_list (K := K) (a := l) (xs := ls.map V.int) (fun i H' => Same H H' ∧ H' D = some (.lst ((ls.take i).map fun y => V.bl (decide ((y, x) ∈ es))))) ⟨same_new hD, upd_same⟩ (fun i H' _ h => SqL.of (h.1 _ _ hl)) ?_ ?_⟩
  · rintro i v H1 hv ⟨s1, hD1⟩
    rw [List.getElem?_map] at hv
    cases e : ls[i]? with
    | none => rw [e] at hv; cases hv
    | some y1 =>
      rw [e] at hv
      obtain rfl : V.int y1 = v := Option.some.inj hv
      refine ⟨rfl, ?_⟩
      unfold tYes
      refine iteT ⟨_, rfl, _, rfl, by show 2 ≤ sizeLine; decide, fun u hu => ⟨_, rfl, (y1, x), es, ⟨u, rfl, upd_same⟩, edg_same (s1.trans (same_new hu)) he, _, same_new hu _ _ hD1, ?_, ?_, ?_⟩⟩
      · rw [List.length_map, List.length_take]; omega
      · exact same_mut (s1.trans (same_new hu)) hD
      · rw [upd_same, List.take_succ, e]
        simp
  · rintro H1 ⟨s1, hD1⟩
    rw [List.length_map, List.take_length] at hD1
    refine ⟨D, ls.map fun y => decide ((y, x) ∈ es), rfl, SqL.of (by rw [hD1, List.map_map]; rfl), ?_⟩
    rw [List.any_map]
    exact q H1 s1
theorem filter_take_succ {α : Type} (f : α → Bool) {ls : List α} {i : Nat} {x : α} (h : ls[i]? = some x) : (ls.take (i + 1)).filter f = (ls.take i).filter f ++ if f x then [x] else [] := by
  rw [List.take_succ, h]
  simp [List.filter_append, List.filter_cons]
/-- [x for x in left if not any([(y, x) in edges for y in left])] -/
theorem free_lc {K : PySem.W.Frag} {y : V} {x0 x3 x4 x5 x6 : Option V} {l : Addr} {ls : List Int} {es : List (Int × Int)} {H : Hp} {Q : VK} (hl : H l = some (.lst (ls.map V.int))) (hz : ls.length ≤ 1000) (he : Edg K H y es)
    (q : ∀ D H', Same H H' → H D = none → H' D = some (.lst ((freeOf es ls).map V.int)) → Q (.ref D) H') :
    tLc (iList K (tVar 2)) (gName 5) (tNot (tB (tCB (rAny K) (tCons (tLc (iList K (tVar 2)) (gName 6) tYes (tOp (rInE K false) (tTup (tCons (tVar 6) (tCons (tVar 5) tNil))) (tVar 1)) [6]) tNil)))) (tVar 5) [5] [x0, some y, some (.ref l), x3, x4, x5, x6] H Q := by
  have big : 1000 < sizeLine := by decide
  refine ⟨_, rfl, l, rfl, ⟨_, SqL.of hl⟩, fun D hD => lc_list (K := K) (a := l) (xs := ls.map V.int) (fun i H' => Same H H' ∧ H' D = some (.lst (((ls.take i).filter fun x => !into es ls x).map V.int))) ⟨same_new hD, upd_same⟩ (fun i H' _ h => SqL.of (h.1 _ _ hl)) ?_ ?_⟩
  · rintro i v H1 hv ⟨s1, hD1⟩
    rw [List.getElem?_map] at hv
    cases e : ls[i]? with
    | none => rw [e] at hv; cases hv
    | some x1 =>
      rw [e] at hv
      obtain rfl : V.int x1 = v := Option.some.inj hv
      refine ⟨rfl, ?_⟩
      refine any_in (x0 := x0) (y := y) (x3 := x3) (x4 := x4) (x6 := x6) (l := l) (x := x1) (ls := ls) (es := es) (s1 _ _ hl) hz (edg_same s1 he) fun H2 s2 => ⟨_, rfl, ?_⟩
      have t2 := s1.trans s2
      cases k : into es ls x1 with
      | true =>
        refine iteF ⟨t2, ?_⟩
        rw [filter_take_succ _ e, k, s2 _ _ hD1]
        simp
      | false =>
        refine iteT ⟨_, rfl, _, s2 _ _ hD1, ?_, same_mut t2 hD, ?_⟩
        · rw [List.length_map]
          have := List.length_filter_le (fun x => !into es ls x) (ls.take i)
          rw [List.length_take] at this
          omega
        · rw [upd_same, filter_take_succ _ e, k]
          simp
  · rintro H1 ⟨s1, hD1⟩
    rw [List.length_map, List.take_length] at hD1
    exact q D H1 s1 hD hD1
end My

namespace My
open PySem L2
theorem asgS {te : TE} {σ : L2.St} {H : Hp} {j : Nat} {u : TS} {D : Ends} (h : te σ H fun v H1 => u D (σ.set j (some v)) H1) : tSeq (tAsg te (gName j)) u D σ H := h
def fo (es : List (Int × Int)) : Nat → List Int → List Int → List Int
  | 0, _, found => found
  | n + 1, left, found => if left = [] then found else match freeOf es left with
    | [] => []
    | x :: _ => fo es n (left.erase x) (found ++ [x])
def spFO (K : PySem.W.Frag) : Sp := fun vs H Q _ => ∃ (a : Addr) (y : V) (ns : List Int) (es : List (Int × Int)), vs = [.ref a, y] ∧ (SqL K H a (ns.map V.int) ∨ SqT K H a (ns.map V.int)) ∧ ns.length ≤ 1000 ∧ Edg K H y es ∧
  ∀ r H', Same H H' → H r = none → H' r = some (.tup ((fo es (ns.length + 1) ns []).map V.int)) → Q (.ref r) H'
section
variable {P : Program} {w : World} {K : PySem.W.Frag} {mg : Str → Option Value} {base : Heap}
theorem ok_forward_order (T : Txt K mg) : FnOk P w K mg base CX0 2 T.a_forward_order T.fd_forward_order ["nodes", "edges"] (spFO K) := by
  refine T.F_forward_order.ok sc_forward_order (fun vs H Q E h => ?_) (fun cdv A outer s H vs Q E hr h => ?_)
  · obtain ⟨a, y, ns, es, rfl, _⟩ := h; rfl
  · obtain ⟨a, y, ns, es, rfl, hS, hz, hE, q⟩ := h
    refine ⟨_, (pss_cons (ps_set (i := 2) sc_forward_order.nd rfl (.inr rfl) (pe_callTy call_list_of (by rfl) T.n_list (by decide +kernel) (pa_cons (pv 0) pa_nil)))
      (pss_cons (ps_set (i := 3) sc_forward_order.nd rfl (.inl rfl) (pe_lst pa_nil))
      (pss_cons (ps_while PassesOwn.never (pt_cmpR op_gt (pe_callB call_len_seq (by rfl) T.n_len (by decide +kernel) (pa_cons (pv 2) pa_nil)) (pe_int) (nomark _)) (pss_cons (ps_setLc (i := 4) (own := [("node", 5)]) (g := (gName 5)) (by rfl) sc_forward_order.nd rfl rfl (sw_true rfl rfl rfl (by decide +kernel)) (pi_list (pv 2)) (blkOk_by (own := [("node", 5)]) (N := ["nodes", "edges", "left", "found", "free", "node", "other"]) (sc := defScope S_forward_order) (by decide +kernel)) (fun _ _ _ _ _ => (pg_name (i := 5) sc_forward_order.nd rfl (.inr rfl))) (fun _ _ _ _ _ => (pts_one (pt_not (pt_val (pe_callB (anyK (K := K) rfl rfl) (by rfl) T.n_any (by decide +kernel) (pa_cons (pe_lc (own := [("other", 6)]) (g := (gName 6)) (by rfl) sc_forward_order.nd (pi_listK (K := K) rfl (pv 2)) (by refine blkOk_by (own := [("other", 6)]) (N := ["nodes", "edges", "left", "found", "free", "node", "other"]) ?_; change blkC _ (relS _ (defScope S_forward_order)) _ _ = true; decide +kernel) (fun _ _ _ _ _ => (pg_name (i := 6) sc_forward_order.nd rfl (by first | exact .inl rfl | exact .inr rfl))) (fun _ _ _ _ _ => pts_nil) (fun _ _ _ _ _ => (pe_cmpR (inEK (K := K) rfl (hu65 hr)) (pe_tup (pa_cons (pv 6) (pa_cons (pv 5) pa_nil))) (pv 1) (by with_unfolding_all rfl)))) pa_nil)))))) (fun _ _ _ _ _ => (pv 5)))
      (pss_cons (ps_if (pt_cmpR op_eq (pe_callB call_len_seq (by rfl) T.n_len (by decide +kernel) (pa_cons (pv 4) pa_nil)) (pe_int) (nomark _)) (pss_one (ps_ret (pe_tup pa_nil))) pss_nil)
      (pss_cons (ps_expr (pe_bm PySem.F.plainAttrs_list PySem.F.slot_list_append PySem.F.type_list_append mt_append (pv 3) (pa_cons (pe_ix ix_list (pv 4) (pe_int) (fun _ _ => rfl)) pa_nil)))
      (pss_one (ps_expr (pe_remX rfl takes0 (pv 2) (pe_ix ix_list (pv 4) (pe_int) (fun _ _ => rfl)))))))))
      (pss_one (ps_ret (pe_callTy call_tuple_of (by rfl) T.n_tuple (by decide +kernel) (pa_cons (pv 3) pa_nil))))))), ?_⟩
    refine ⟨_, rfl, a, _, rfl, hS, fun l hl => ?_⟩
    have s1 := same_new (o := .lst (ns.map V.int)) hl
    refine ⟨Nat.zero_le _, fun f hf => ?_⟩
    have s2 := same_new (o := .lst ([] : List V)) hf
    have nlf : l ≠ f := ne_of_none (upd_same (H := H) (a := l) (o := .lst (ns.map V.int))) hf
    have fH := s1.free hf
    refine ⟨fun m σ H' => ∃ (ls fs : List Int) (x4 x5 x6 : Option V), σ = [some (.ref a), some y, some (.ref l), some (.ref f), x4, x5, x6] ∧ m = ls.length ∧ fs.length + ls.length ≤ 1000 ∧ Same H H' ∧ H' l = some (.lst (ls.map V.int)) ∧ H' f = some (.lst (fs.map V.int)) ∧
      ∀ r H'', Same H H'' → H r = none → H'' r = some (.tup ((fo es (ls.length + 1) ls fs).map V.int)) → Q (.ref r) H'', ⟨_, ns, [], _, _, _, rfl, rfl, by simpa using hz, s1.trans s2, s2 _ _ upd_same, upd_same, q⟩, ?_⟩
    rintro m σ H1 ⟨ls, fs, x4, x5, x6, rfl, rfl, hz1, t1, hl1, hf1, qq⟩
    have big : 1000 < sizeLine := by decide
    refine ⟨_, rfl, l, _, rfl, .inl (SqL.of hl1), _, _, rfl, rfl, _, rfl, iteD (fun c => ?_) (fun c => ?_)⟩
    · have hne : ls ≠ [] := fun z => by rw [z] at c; simp at c
      refine ⟨_, fun σ' H' h => h, ?_⟩
      refine asgS (free_lc (ls := ls) (es := es) hl1 (by omega) (edg_same t1 hE) fun D H2 s3 nD hD => ?_)
      have t2 := t1.trans s3
      refine ⟨_, rfl, D, _, rfl, .inl (SqL.of hD), rfl, _, rfl, iteD (fun c2 => ?_) (fun c2 => ?_)⟩
      · have e0 : freeOf es ls = [] := by
          have := V.int.inj c2
          rw [List.length_map] at this
          exact List.length_eq_zero_iff.mp (by omega)
        refine ⟨Nat.zero_le _, fun r hr => qq r _ (t2.trans (same_new hr)) (t2.free hr) ?_⟩
        have : fo es (ls.length + 1) ls fs = [] := by
          show (if ls = [] then fs else match freeOf es ls with | [] => [] | x :: _ => fo es ls.length (ls.erase x) (fs ++ [x])) = []
          rw [if_neg hne, e0]
        rw [this]
        exact upd_same
      · cases e0 : freeOf es ls with
        | nil => exact absurd (by rw [e0]; rfl) c2
        | cons x rest =>
          rw [e0] at hD
          have mx : x ∈ ls := (List.mem_filter.mp (show x ∈ freeOf es ls by rw [e0]; exact List.mem_cons_self)).1
          have hl2 := s3 _ _ hl1
          have hf2 := s3 _ _ hf1
          have nDf : D ≠ f := (ne_of_none hf1 nD).symm
          have nDl : D ≠ l := (ne_of_none hl1 nD).symm
          refine ⟨_, rfl, .inl ⟨rfl, _, SqL.of hf2⟩, _, rfl, _, _, _, _, rfl, rfl, SqL.of hD, at_of (j := 0) rfl rfl, _, _, _, rfl, rfl, hf2, by rw [List.length_map]; omega, ?_⟩
          have hl3 : (upd H2 f (.lst (fs.map V.int ++ [.int x]))) l = some (.lst (ls.map V.int)) := by rw [upd_ne nlf]; exact hl2
          have hD3 : (upd H2 f (.lst (fs.map V.int ++ [.int x]))) D = some (.lst (List.map V.int (x :: rest))) := by rw [upd_ne nDf]; exact hD
          refine ⟨_, rfl, .inl ⟨rfl, _, SqL.of hl3⟩, _, rfl, _, _, _, _, rfl, rfl, SqL.of hD3, at_of (j := 0) rfl rfl, l, ls, x, rfl, rfl, hl3, fun _ => ?_, fun nx => absurd mx nx⟩
          have le : (ls.erase x).length = ls.length - 1 := List.length_erase_of_mem mx
          have lp : 0 < ls.length := List.length_pos_iff.mpr hne
          refine ⟨_, ?_, ls.erase x, fs ++ [x], _, _, _, rfl, rfl, by rw [List.length_append, le]; show _ + 1 + _ ≤ _; omega, same_mut (same_mut t2 fH) hl, upd_same, by rw [upd_ne nlf.symm, upd_same, List.map_append]; rfl, fun r H'' s'' nr hr => qq r H'' s'' nr ?_⟩
          · omega
          · rw [hr]
            have e1 : (ls.erase x).length + 1 = ls.length := by omega
            rw [e1]
            show _ = some (HO.tup (List.map V.int (if ls = [] then fs else match freeOf es ls with | [] => [] | x :: _ => fo es ls.length (ls.erase x) (fs ++ [x]))))
            rw [if_neg hne, e0]
    · have e0 : ls = [] := by
        rcases ls with _ | ⟨x, r⟩
        · rfl
        · exact absurd (by simp) c
      refine ⟨_, rfl, f, _, rfl, .inl ⟨SqL.of hf1, fun r hr => qq r _ (t1.trans (same_new hr)) (t1.free hr) ?_⟩⟩
      rw [e0]
      exact upd_same
end
end My

namespace My
open PySem L2
def spNodes (K : PySem.W.Frag) : Sp := fun vs H Q _ => ∃ (d t : Addr) (n : Nat), vs = [.ref d, .ref t, .int (n : Nat)] ∧ n ≤ 7 ∧ Dr K H d t ∧ ∀ (r : Addr) (ns : List Int) H', ns.length = n → ns.Pairwise (· < ·) → Dr K H' d t → But t H H' → H r = none → H' r = some (.lst (ns.map V.int)) → Q (.ref r) H'
section
variable {P : Program} {w : World} {K : PySem.W.Frag} {mg : Str → Option Value} {base : Heap}
theorem ok__law_nodes (T : Txt K mg) : FnOk P w K mg base CX0 2 T.a__law_nodes T.fd__law_nodes ["_law_draws_here", "_law_at", "_law_count"] (spNodes K) := by
  refine T.F__law_nodes.ok sc__law_nodes (fun vs H Q E h => ?_) (fun cdv A outer s H vs Q E hr h => ?_)
  · obtain ⟨d, t, n, rfl, _⟩ := h; rfl
  · obtain ⟨d, t, n, rfl, hn, D, q⟩ := h
    refine ⟨_, (pss_cons (ps_set (i := 3) sc__law_nodes.nd rfl (.inl rfl) (pe_lst pa_nil))
      (pss_cons (ps_set (i := 4) sc__law_nodes.nd rfl (.inl rfl) (pe_call (ok__law_take T) (hr.mono (by omega)) (by rfl) T.g__law_take T.F__law_take.kp T.b__law_take .nil pass0 (pa_cons (pv 0) (pa_cons (pv 1) (pa_cons (pe_int) pa_nil)))))
      (pss_cons (ps_for PassesOwn.never rfl (pi_range1 (by rfl) T.n_range (pa_cons (pv 2) pa_nil)) (pg_name (i := 5) sc__law_nodes.nd rfl (.inl rfl)) (pss_cons (ps_expr (pe_bm PySem.F.plainAttrs_list PySem.F.slot_list_append PySem.F.type_list_append mt_append (pv 3) (pa_cons (pv 4) pa_nil)))
      (pss_one (ps_set (i := 4) sc__law_nodes.nd rfl (.inl rfl) (pe_op op_add (pv 4) (pe_ix ix_list (pe_lst (pa_cons (pe_int) (pa_cons (pe_int) (pa_cons (pe_int) (pa_cons (pe_int) (pa_cons (pe_int) (pa_cons (pe_int) pa_nil))))))) (pe_call (ok__law_take T) (hr.mono (by omega)) (by rfl) T.g__law_take T.F__law_take.kp T.b__law_take .nil pass0 (pa_cons (pv 0) (pa_cons (pv 1) (pa_cons (pe_int) pa_nil)))) (fun _ _ => rfl)))))))
      (pss_one (ps_ret (pv 3)))))), ?_⟩
    refine ⟨Nat.zero_le _, fun l hl => ?_⟩
    have s1 := same_new (o := .lst ([] : List V)) hl
    have nl : l ≠ t := D.na hl
    have ndl : d ≠ l := D.nd hl
    refine ⟨_, rfl, _, rfl, d, t, 3, rfl, D.same s1, by decide, fun r0 H1 h0 h1 D1 b1 => ?_⟩
    have l1 := b1 _ _ nl upd_same
    have c1 : But t H H1 := (But.of_same s1).trans b1
    refine ⟨_, rfl, _, rfl, by omega, by omega, for_range (lo := 0) (n := n) (fun k σ H' => ∃ (ns : List Int) (x : Int) (x5 : Option V), σ = [some (.ref d), some (.ref t), some (.int (n : Nat)), some (.ref l), some (.int x), x5] ∧ ns.length = k ∧ ns.Pairwise (· < ·) ∧ (∀ y ∈ ns, y < x) ∧ Dr K H' d t ∧ But t H H' ∧ H' l = some (.lst (ns.map V.int)))
      ⟨[], r0, _, rfl, rfl, .nil, fun _ h => absurd h List.not_mem_nil, D1, c1, l1⟩ ?_ ?_⟩
    · rintro k σ H2 hk ⟨ns, x, x5, rfl, en, pw, lt, D2, b2, l2⟩
      refine ⟨_, rfl, .inl ⟨rfl, _, SqL.of l2⟩, _, rfl, _, _, _, rfl, rfl, l2, Nat.lt_of_le_of_lt (m := 7) (by rw [List.length_map]; omega) (by decide), ?_⟩
      have D3 := D2.other (But.upd (a := l) (H := H2) (o := .lst (ns.map V.int ++ [.int x]))) ndl nl.symm
      have b3 := b2.mut (o := .lst (ns.map V.int ++ [.int x])) hl
      refine ⟨_, rfl, by show 6 ≤ sizeLine; decide, fun u hu => ?_⟩
      have s4 := same_new (o := .lst [.int 1, .int 2, .int 1, .int 9, .int 1000, .int 100000]) hu
      have nu : u ≠ t := D3.na hu
      refine ⟨_, rfl, _, rfl, d, t, 6, rfl, D3.same s4, by decide, fun r H5 r0 r1 D5 b5 => ?_⟩
      obtain ⟨v, hv, mv⟩ := at_ok (xs := [.int 1, .int 2, .int 1, .int 9, .int 1000, .int 100000]) r0 r1
      obtain ⟨g, rfl, hg⟩ : ∃ g : Int, v = .int g ∧ 0 < g := by
        simp only [List.mem_cons, List.not_mem_nil, or_false] at mv
        rcases mv with rfl | rfl | rfl | rfl | rfl | rfl <;> exact ⟨_, rfl, by decide⟩
      refine ⟨_, _, _, _, rfl, rfl, SqL.of (b5 _ _ nu upd_same), hv, _, _, rfl, rfl, ?_⟩
      refine ⟨ns ++ [x], _, _, rfl, by rw [List.length_append, en]; rfl, ?_, ?_, D5, (b3.trans (But.of_same s4)).trans b5, ?_⟩
      · rw [List.pairwise_append]
        exact ⟨pw, List.pairwise_singleton _ _, fun y hy z hz => by rw [List.mem_singleton.mp hz]; exact lt y hy⟩
      · intro y hy
        rcases List.mem_append.mp hy with h | h
        · have := lt y h; omega
        · have := List.mem_singleton.mp h; omega
      · rw [List.map_append]
        exact b5 _ _ nl (s4 _ _ upd_same)
    · rintro σ H2 ⟨ns, x, x5, rfl, en, pw, lt, D2, b2, l2⟩
      exact ⟨_, rfl, q l ns H2 en pw D2 b2 hl l2⟩
end
end My

namespace My
open PySem L2
theorem filt_take {α : Type} (f : α → Bool) {ls : List α} {i : Nat} {x : α} (h : ls[i]? = some x) : (ls.take (i + 1)).filter f = (ls.take i).filter f ++ if f x then [x] else [] := filter_take_succ f h
/-- len([y for y in left if (y, x) in edges]) == 0 -/
theorem len_in {K : PySem.W.Frag} {y : V} {x0 x3 x4 x5 x7 : Option V} {l : Addr} {x : Int} {ls : List Int} {es : List (Int × Int)} {H : Hp} {Q : VK} (hl : H l = some (.lst (ls.map V.int))) (hz : ls.length ≤ 1000) (he : Edg K H y es)
    (q : ∀ H', Same H H' → Q (.bl (!into es ls x)) H') :
    tOp rEq (tCB (fun xs H Q => ∃ p ys, xs = [V.ref p] ∧ (SqL K H p ys ∨ SqT K H p ys) ∧ Q (V.int ((ys.length : Nat) : Int)) H) (tCons (tLc (iList K (tVar 2)) (gName 7) (tTest (tOp (rInE K false) (tTup (tCons (tVar 7) (tCons (tVar 6) tNil))) (tVar 1))) (tVar 7) [7]) tNil)) (tC (V.int 0)) [x0, some y, some (.ref l), x3, x4, x5, some (.int x), x7] H Q := by
  have big : 1000 < sizeLine := by decide
  refine ⟨_, rfl, l, rfl, ⟨_, SqL.of hl⟩, fun D hD => lc_list (K := K) (a := l) (xs := ls.map V.int) (fun i H' => Same H H' ∧ H' D = some (.lst (((ls.take i).filter fun y => decide ((y, x) ∈ es)).map V.int))) ⟨same_new hD, upd_same⟩ (fun i H' _ h => SqL.of (h.1 _ _ hl)) ?_ ?_⟩
  · rintro i v H1 hv ⟨s1, hD1⟩
    rw [List.getElem?_map] at hv
    cases e : ls[i]? with
    | none => rw [e] at hv; cases hv
    | some y1 =>
      rw [e] at hv
      obtain rfl : V.int y1 = v := Option.some.inj hv
      refine ⟨rfl, ?_⟩
      refine ⟨_, rfl, _, rfl, by show 2 ≤ sizeLine; decide, fun u hu => ⟨_, rfl, (y1, x), es, ⟨u, rfl, upd_same⟩, edg_same (s1.trans (same_new hu)) he, _, rfl, ?_⟩⟩
      have t2 := s1.trans (same_new (o := .tup [.int y1, .int x]) hu)
      have hD2 := same_new (o := .tup [.int y1, .int x]) hu _ _ hD1
      by_cases k : (y1, x) ∈ es
      · refine iteYes (by simp [k]) ⟨_, rfl, _, hD2, ?_, same_mut t2 hD, ?_⟩
        · rw [List.length_map]
          have := List.length_filter_le (fun y => decide ((y, x) ∈ es)) (ls.take i)
          rw [List.length_take] at this
          omega
        · rw [upd_same, filt_take _ e]
          simp [k]
      · refine iteNo (by simp [k]) ⟨t2, ?_⟩
        rw [filt_take _ e, hD2]
        simp [k]
  · rintro H1 ⟨s1, hD1⟩
    rw [List.length_map, List.take_length] at hD1
    refine ⟨D, _, rfl, .inl (SqL.of hD1), rfl, ?_⟩
    have eb : decide (V.int (((((ls.filter fun y => decide ((y, x) ∈ es)).map V.int).length : Nat)) : Int) = V.int 0) = !into es ls x := by
      rw [List.length_map]
      unfold into
      rw [Bool.eq_iff_iff, decide_eq_true_iff]
      constructor
      · intro h
        have h := V.int.inj h
        have h : (ls.filter fun y => decide ((y, x) ∈ es)) = [] := List.length_eq_zero_iff.mp (by omega)
        rw [List.filter_eq_nil_iff] at h
        simpa using h
      · intro h
        have h : (ls.filter fun y => decide ((y, x) ∈ es)) = [] := by
          rw [List.filter_eq_nil_iff]
          simpa using h
        rw [h]; rfl
    rw [eb]
    exact q H1 s1
/-- [x for x in left if len([y for y in left if (y, x) in edges]) == 0] -/
theorem free_lc2 {K : PySem.W.Frag} {y : V} {x0 x3 x4 x5 x6 x7 : Option V} {l : Addr} {ls : List Int} {es : List (Int × Int)} {H : Hp} {Q : VK} (hl : H l = some (.lst (ls.map V.int))) (hz : ls.length ≤ 1000) (he : Edg K H y es)
    (q : ∀ D H', Same H H' → H D = none → H' D = some (.lst ((freeOf es ls).map V.int)) → Q (.ref D) H') :
    tLc (iList K (tVar 2)) (gName 6) (tTest (tOp rEq (tCB (fun xs H Q => ∃ p ys, xs = [V.ref p] ∧ (SqL K H p ys ∨ SqT K H p ys) ∧ Q (V.int ((ys.length : Nat) : Int)) H) (tCons (tLc (iList K (tVar 2)) (gName 7) (tTest (tOp (rInE K false) (tTup (tCons (tVar 7) (tCons (tVar 6) tNil))) (tVar 1))) (tVar 7) [7]) tNil)) (tC (V.int 0)))) (tVar 6) [6] [x0, some y, some (.ref l), x3, x4, x5, x6, x7] H Q := by
  have big : 1000 < sizeLine := by decide
  refine ⟨_, rfl, l, rfl, ⟨_, SqL.of hl⟩, fun D hD => lc_list (K := K) (a := l) (xs := ls.map V.int) (fun i H' => Same H H' ∧ H' D = some (.lst (((ls.take i).filter fun x => !into es ls x).map V.int))) ⟨same_new hD, upd_same⟩ (fun i H' _ h => SqL.of (h.1 _ _ hl)) ?_ ?_⟩
  · rintro i v H1 hv ⟨s1, hD1⟩
    rw [List.getElem?_map] at hv
    cases e : ls[i]? with
    | none => rw [e] at hv; cases hv
    | some x1 =>
      rw [e] at hv
      obtain rfl : V.int x1 = v := Option.some.inj hv
      refine ⟨rfl, ?_⟩
      refine len_in (x0 := x0) (y := y) (x3 := x3) (x4 := x4) (x5 := x5) (x7 := x7) (l := l) (x := x1) (ls := ls) (es := es) (s1 _ _ hl) hz (edg_same s1 he) fun H2 s2 => ⟨_, rfl, ?_⟩
      have t2 := s1.trans s2
      cases k : into es ls x1 with
      | true =>
        refine iteF ⟨t2, ?_⟩
        rw [filter_take_succ _ e, k, s2 _ _ hD1]
        simp
      | false =>
        refine iteT ⟨_, rfl, _, s2 _ _ hD1, ?_, same_mut t2 hD, ?_⟩
        · rw [List.length_map]
          have := List.length_filter_le (fun x => !into es ls x) (ls.take i)
          rw [List.length_take] at this
          omega
        · rw [upd_same, filter_take_succ _ e, k]
          simp
  · rintro H1 ⟨s1, hD1⟩
    rw [List.length_map, List.take_length] at hD1
    exact q D H1 s1 hD hD1
end My

namespace My
open PySem L2
theorem fo_step {es : List (Int × Int)} {ls fs : List Int} {x : Int} {rest : List Int} (hne : ls ≠ []) (e0 : freeOf es ls = x :: rest) : fo es (ls.length + 1) ls fs = fo es ((ls.erase x).length + 1) (ls.erase x) (fs ++ [x]) := by
  have mx : x ∈ ls := (List.mem_filter.mp (show x ∈ freeOf es ls by rw [e0]; exact List.mem_cons_self)).1
  have le : (ls.erase x).length = ls.length - 1 := List.length_erase_of_mem mx
  have lp : 0 < ls.length := List.length_pos_iff.mpr hne
  have e1 : (ls.erase x).length + 1 = ls.length := by omega
  rw [e1]
  show (if ls = [] then fs else match freeOf es ls with | [] => [] | x :: _ => fo es ls.length (ls.erase x) (fs ++ [x])) = _
  rw [if_neg hne, e0]
theorem fo_stuck {es : List (Int × Int)} {ls fs : List Int} (hne : ls ≠ []) (e0 : freeOf es ls = []) : fo es (ls.length + 1) ls fs = [] := by
  show (if ls = [] then fs else match freeOf es ls with | [] => [] | x :: _ => fo es ls.length (ls.erase x) (fs ++ [x])) = _
  rw [if_neg hne, e0]
section
variable {P : Program} {w : World} {K : PySem.W.Frag} {mg : Str → Option Value} {base : Heap}
theorem ok__law_due_order (T : Txt K mg) : FnOk P w K mg base CX0 2 T.a__law_due_order T.fd__law_due_order ["_law_nodes_here", "_law_edges"] (spFO K) := by
  refine T.F__law_due_order.ok sc__law_due_order (fun vs H Q E h => ?_) (fun cdv A outer s H vs Q E hr h => ?_)
  · obtain ⟨a, y, ns, es, rfl, _⟩ := h; rfl
  · obtain ⟨a, y, ns, es, rfl, hS, hz, hE, q⟩ := h
    refine ⟨_, (pss_cons (ps_set (i := 2) sc__law_due_order.nd rfl (.inr rfl) (pe_callTy call_list_of (by rfl) T.n_list (by decide +kernel) (pa_cons (pv 0) pa_nil)))
      (pss_cons (ps_set (i := 3) sc__law_due_order.nd rfl (.inl rfl) (pe_lst pa_nil))
      (pss_cons (ps_for PassesOwn.never rfl (pi_range1 (by rfl) T.n_range (pa_cons (pe_callB call_len_seq (by rfl) T.n_len (by decide +kernel) (pa_cons (pv 0) pa_nil)) pa_nil)) (pg_name (i := 4) sc__law_due_order.nd rfl (.inl rfl)) (pss_cons (ps_setLc (i := 5) (own := [("_law_x", 6)]) (g := (gName 6)) (by rfl) sc__law_due_order.nd rfl rfl (sw_true rfl rfl rfl (by decide +kernel)) (pi_list (pv 2)) (blkOk_by (own := [("_law_x", 6)]) (N := ["_law_nodes_here", "_law_edges", "_law_left", "_law_order_here", "_law_k", "_law_free", "_law_x", "_law_y"]) (sc := defScope S__law_due_order) (by decide +kernel)) (fun _ _ _ _ _ => (pg_name (i := 6) sc__law_due_order.nd rfl (.inr rfl))) (fun _ _ _ _ _ => (pts_one (pt_cmpR op_eq (pe_callB (lenK (K := K) rfl) (by rfl) T.n_len (by decide +kernel) (pa_cons (pe_lc (own := [("_law_y", 7)]) (g := (gName 7)) (by rfl) sc__law_due_order.nd (pi_listK (K := K) rfl (pv 2)) (by refine blkOk_by (own := [("_law_y", 7)]) (N := ["_law_nodes_here", "_law_edges", "_law_left", "_law_order_here", "_law_k", "_law_free", "_law_x", "_law_y"]) ?_; change blkC _ (relS _ (defScope S__law_due_order)) _ _ = true; decide +kernel) (fun _ _ _ _ _ => (pg_name (i := 7) sc__law_due_order.nd rfl (by first | exact .inl rfl | exact .inr rfl))) (fun _ _ _ _ _ => (pts_one (pt_cmpR (inEK (K := K) rfl (hu65 hr)) (pe_tup (pa_cons (pv 7) (pa_cons (pv 6) pa_nil))) (pv 1) (by with_unfolding_all rfl)))) (fun _ _ _ _ _ => (pv 7))) pa_nil)) (pe_int) (nomark _)))) (fun _ _ _ _ _ => (pv 6)))
      (pss_one (ps_if (pt_cmpR op_gt (pe_callB call_len_seq (by rfl) T.n_len (by decide +kernel) (pa_cons (pv 5) pa_nil)) (pe_int) (nomark _)) (pss_cons (ps_expr (pe_bm PySem.F.plainAttrs_list PySem.F.slot_list_append PySem.F.type_list_append mt_append (pv 3) (pa_cons (pe_ix ix_list (pv 5) (pe_int) (fun _ _ => rfl)) pa_nil)))
      (pss_one (ps_expr (pe_remX rfl takes0 (pv 2) (pe_ix ix_list (pv 5) (pe_int) (fun _ _ => rfl)))))) pss_nil))))
      (pss_cons (ps_if (pt_cmpR op_gt (pe_callB call_len_seq (by rfl) T.n_len (by decide +kernel) (pa_cons (pv 2) pa_nil)) (pe_int) (nomark _)) (pss_one (ps_ret (pe_tup pa_nil))) pss_nil)
      (pss_one (ps_ret (pe_callTy call_tuple_of (by rfl) T.n_tuple (by decide +kernel) (pa_cons (pv 3) pa_nil)))))))), ?_⟩
    refine ⟨_, rfl, a, _, rfl, hS, fun l hl => ?_⟩
    have s1 := same_new (o := .lst (ns.map V.int)) hl
    refine ⟨Nat.zero_le _, fun f hf => ?_⟩
    have s2 := same_new (o := .lst ([] : List V)) hf
    have nlf : l ≠ f := ne_of_none (upd_same (H := H) (a := l) (o := .lst (ns.map V.int))) hf
    have fH := s1.free hf
    have big : 1000 < sizeLine := by decide
    have hS2 : SqL K (upd (upd H l (.lst (ns.map V.int))) f (.lst [])) a (ns.map V.int) ∨ SqT K (upd (upd H l (.lst (ns.map V.int))) f (.lst [])) a (ns.map V.int) := hS.elim (fun h => .inl ((s1.trans s2).seq h)) (fun h => .inr ((But.of_same (a := a + 1) (s1.trans s2)).sqT (Nat.ne_of_lt (Nat.lt_succ_self a)) h))
    refine ⟨_, rfl, a, _, rfl, hS2, _, rfl, by omega, by rw [List.length_map]; omega, for_range (lo := 0) (n := _) (fun k σ H' => ∃ (ls fs : List Int) (x4 x5 x6 x7 : Option V), σ = [some (.ref a), some y, some (.ref l), some (.ref f), x4, x5, x6, x7] ∧ fs.length + ls.length ≤ 1000 ∧ Same H H' ∧ H' l = some (.lst (ls.map V.int)) ∧ H' f = some (.lst (fs.map V.int)) ∧
      fo es (ns.length + 1) ns [] = fo es (ls.length + 1) ls fs ∧ (ls.length + k = ns.length ∨ (freeOf es ls = [] ∧ ls ≠ []))) ⟨ns, [], _, _, _, _, rfl, by simpa using hz, s1.trans s2, s2 _ _ upd_same, upd_same, rfl, .inl rfl⟩ ?_ ?_⟩
    · rintro k σ H1 hk ⟨ls, fs, x4, x5, x6, x7, rfl, hz1, t1, hl1, hf1, ef, hc⟩
      rw [List.length_map] at hk
      have hk : k < ns.length := by omega
      have hne : ls ≠ [] := by
        rcases hc with h | h
        · intro z; rw [z] at h; simp at h; omega
        · exact h.2
      refine asgS (free_lc2 (ls := ls) (es := es) hl1 (by omega) (edg_same t1 hE) fun D H2 s3 nD hD => ?_)
      have t2 := t1.trans s3
      have hl2 := s3 _ _ hl1
      have hf2 := s3 _ _ hf1
      refine ⟨_, rfl, D, _, rfl, .inl (SqL.of hD), _, _, rfl, rfl, _, rfl, iteD (fun c2 => ?_) (fun c2 => ?_)⟩
      · cases e0 : freeOf es ls with
        | nil => rw [e0] at c2; exact absurd c2 (by decide)
        | cons x rest =>
          rw [e0] at hD
          have mx : x ∈ ls := (List.mem_filter.mp (show x ∈ freeOf es ls by rw [e0]; exact List.mem_cons_self)).1
          have nDf : D ≠ f := (ne_of_none hf1 nD).symm
          refine ⟨_, rfl, .inl ⟨rfl, _, SqL.of hf2⟩, _, rfl, _, _, _, _, rfl, rfl, SqL.of hD, at_of (j := 0) rfl rfl, _, _, _, rfl, rfl, hf2, by rw [List.length_map]; omega, ?_⟩
          have hl3 : (upd H2 f (.lst (fs.map V.int ++ [.int x]))) l = some (.lst (ls.map V.int)) := by rw [upd_ne nlf]; exact hl2
          have hD3 : (upd H2 f (.lst (fs.map V.int ++ [.int x]))) D = some (.lst (List.map V.int (x :: rest))) := by rw [upd_ne nDf]; exact hD
          refine ⟨_, rfl, .inl ⟨rfl, _, SqL.of hl3⟩, _, rfl, _, _, _, _, rfl, rfl, SqL.of hD3, at_of (j := 0) rfl rfl, l, ls, x, rfl, rfl, hl3, fun _ => ?_, fun nx => absurd mx nx⟩
          have le : (ls.erase x).length = ls.length - 1 := List.length_erase_of_mem mx
          have lp : 0 < ls.length := List.length_pos_iff.mpr hne
          refine ⟨ls.erase x, fs ++ [x], _, _, _, _, rfl, by rw [List.length_append, le]; show _ + 1 + _ ≤ _; omega, same_mut (same_mut t2 fH) hl, upd_same, by rw [upd_ne nlf.symm, upd_same, List.map_append]; rfl, ef.trans (fo_step hne e0), ?_⟩
          rcases hc with h | h
          · exact .inl (by omega)
          · rw [h.1] at e0; cases e0
      · have e0 : freeOf es ls = [] := by
          cases e0 : freeOf es ls with
          | nil => rfl
          | cons x rest => exact absurd (by rw [e0]; simp) c2
        exact ⟨ls, fs, _, _, _, _, rfl, hz1, t2, hl2, hf2, ef, .inr ⟨e0, hne⟩⟩
    · rintro σ H1 ⟨ls, fs, x4, x5, x6, x7, rfl, hz1, t1, hl1, hf1, ef, hc⟩
      rw [ef] at q
      refine ⟨_, rfl, l, _, rfl, .inl (SqL.of hl1), _, _, rfl, rfl, _, rfl, iteD (fun c => ?_) (fun c => ?_)⟩
      · have hne : ls ≠ [] := fun z => by rw [z] at c; simp at c
        have e0 : freeOf es ls = [] := by
          rcases hc with h | h
          · rw [Int.toNat_natCast, List.length_map] at h
            exact absurd (List.length_eq_zero_iff.mp (by omega)) hne
          · exact h.1
        rw [fo_stuck hne e0] at q
        exact ⟨Nat.zero_le _, fun r hr => q r _ (t1.trans (same_new hr)) (t1.free hr) upd_same⟩
      · have e0 : ls = [] := by
          rcases ls with _ | ⟨x, r⟩
          · rfl
          · exact absurd (by simp) c
        subst e0
        exact ⟨_, rfl, f, _, rfl, .inl ⟨SqL.of hf1, fun r hr => q r _ (t1.trans (same_new hr)) (t1.free hr) upd_same⟩⟩
end
end My

namespace My
open PySem L2
/-! ### lists of ints: in, flat; slices -/
theorem flat_ints (ns : List Int) : (ns.map V.int).all flatV = true := by
  rw [List.all_eq_true]
  intro v h
  obtain ⟨n, _, rfl⟩ := List.mem_map.mp h
  rfl
theorem in_ints (n : Int) (ns : List Int) : inV (.int n) (ns.map V.int) = decide (n ∈ ns) := by
  unfold inV
  rw [List.any_map, Bool.eq_iff_iff, List.any_eq_true, decide_eq_true_iff]
  constructor
  · rintro ⟨m, h, e⟩
    have e : (m == n) = true := e
    rw [← beq_iff_eq.mp e]; exact h
  · intro h
    exact ⟨n, h, by show (n == n) = true; simp⟩
theorem cut_to (xs : List V) (n : Nat) : cutV xs none (some (n : Int)) = xs.take n := by
  unfold cutV HT.sIx
  simp only [List.drop_zero, Nat.sub_zero]
  have h0 : ¬ (n : Int) < 0 := by omega
  simp only [h0, if_false]
  by_cases h : n ≤ xs.length
  · congr 1
    omega
  · rw [List.take_of_length_le (by omega), List.take_of_length_le (by omega)]
theorem cut_from (xs : List V) (n : Nat) : cutV xs (some (n : Int)) none = xs.drop n := by
  unfold cutV HT.sIx
  have h0 : ¬ (n : Int) < 0 := by omega
  simp only [h0, if_false]
  by_cases h : n ≤ xs.length
  · rw [List.take_of_length_le (by rw [List.length_drop]; omega)]
    congr 1
    omega
  · rw [List.drop_eq_nil_of_le (by omega), List.drop_eq_nil_of_le (by omega), List.take_nil]
end My

namespace My
open PySem L2
def rgI (n : Nat) : List Int := (List.range n).map fun i : Nat => (i : Int)
theorem rgI_V (n : Nat) : rgV 0 (n : Int) = (rgI n).map V.int := by
  unfold rgV rgI
  rw [List.map_map]
  simp
theorem rgI_nodup (n : Nat) : (rgI n).Nodup := by
  unfold rgI
  rw [List.nodup_iff_pairwise_ne, List.pairwise_map]
  exact (List.nodup_range (n := n)).imp fun h e => h (by omega)
theorem rgI_mem {n : Nat} {x : Int} (h : x ∈ rgI n) : 0 ≤ x ∧ x < n := by
  unfold rgI at h
  obtain ⟨i, hi, rfl⟩ := List.mem_map.mp h
  have := List.mem_range.mp hi
  omega
def spOrder (K : PySem.W.Frag) : Sp := fun vs H Q _ => ∃ (d t : Addr) (n : Nat), vs = [.ref d, .ref t, .int (n : Nat)] ∧ n ≤ 1000 ∧ Dr K H d t ∧ ∀ (r : Addr) (os : List Int) H', os.Perm (rgI n) → Dr K H' d t → But t H H' → H r = none → H' r = some (.lst (os.map V.int)) → Q (.ref r) H'
theorem pick_perm {os ls : List Int} {p : Nat} {x : Int} (h : ls[p]? = some x) : ((os ++ [x]) ++ (ls.take p ++ ls.drop (p + 1))).Perm (os ++ ls) := by
  rw [List.append_assoc]
  refine List.Perm.append_left os ?_
  obtain ⟨hp, e⟩ := List.getElem?_eq_some_iff.mp h
  have e2 : ls = ls.take p ++ x :: ls.drop (p + 1) := by rw [← e, ← List.drop_eq_getElem_cons hp, List.take_append_drop]
  conv => rhs; rw [e2]
  exact (List.perm_middle (l₁ := ls.take p) (l₂ := ls.drop (p + 1)) (a := x)).symm
section
variable {P : Program} {w : World} {K : PySem.W.Frag} {mg : Str → Option Value} {base : Heap}
theorem ok__law_order (T : Txt K mg) : FnOk P w K mg base CX0 2 T.a__law_order T.fd__law_order ["_law_draws_here", "_law_at", "_law_count"] (spOrder K) := by
  refine T.F__law_order.ok sc__law_order (fun vs H Q E h => ?_) (fun cdv A outer s H vs Q E hr h => ?_)
  · obtain ⟨d, t, n, rfl, _⟩ := h; rfl
  · obtain ⟨d, t, n, rfl, hn, D, q⟩ := h
    refine ⟨_, (pss_cons (ps_set (i := 3) sc__law_order.nd rfl (.inl rfl) (pe_listRg rfl (by rfl) T.n_list (prg_1 (by rfl) T.n_range (pv 2))))
      (pss_cons (ps_set (i := 4) sc__law_order.nd rfl (.inl rfl) (pe_lst pa_nil))
      (pss_cons (ps_for PassesOwn.never rfl (pi_range1 (by rfl) T.n_range (pa_cons (pv 2) pa_nil)) (pg_name (i := 5) sc__law_order.nd rfl (.inl rfl)) (pss_cons (ps_set (i := 6) sc__law_order.nd rfl (.inl rfl) (pe_call (ok__law_take T) (hr.mono (by omega)) (by rfl) T.g__law_take T.F__law_take.kp T.b__law_take .nil pass0 (pa_cons (pv 0) (pa_cons (pv 1) (pa_cons (pe_callB call_len_seq (by rfl) T.n_len (by decide +kernel) (pa_cons (pv 3) pa_nil)) pa_nil)))))
      (pss_cons (ps_expr (pe_bm PySem.F.plainAttrs_list PySem.F.slot_list_append PySem.F.type_list_append mt_append (pv 4) (pa_cons (pe_ix ix_list (pv 3) (pv 6) (fun _ _ => rfl)) pa_nil)))
      (pss_one (ps_set (i := 3) sc__law_order.nd rfl (.inl rfl) (pe_op op_cat (pe_slice sl_list (pv 3) po_none (po_some (pv 6))) (pe_slice sl_list (pv 3) (po_some (pe_op op_add (pv 6) (pe_int))) po_none)))))))
      (pss_one (ps_ret (pv 4)))))), ?_⟩
    refine ⟨_, rfl, n, rfl, RgOk.of_le (by omega) (by omega) (by omega) (by omega), fun l0 hl0 => ?_⟩
    rw [rgI_V]
    have s1 := same_new (o := .lst ((rgI n).map V.int)) hl0
    refine ⟨Nat.zero_le _, fun f hf => ?_⟩
    have s2 := same_new (o := .lst ([] : List V)) hf
    have nft : f ≠ t := (D.same s1).na hf
    have nlt : l0 ≠ t := D.na hl0
    have ndf : d ≠ f := (D.same s1).nd hf
    have fH := s1.free hf
    refine ⟨_, rfl, _, rfl, by omega, by omega, for_range (lo := 0) (n := n) (fun k σ H' => ∃ (l : Addr) (ls os : List Int) (x5 x6 : Option V), σ = [some (.ref d), some (.ref t), some (.int (n : Nat)), some (.ref l), some (.ref f), x5, x6] ∧ l ≠ t ∧ l ≠ f ∧ H l = none ∧ os.length = k ∧ (os ++ ls).Perm (rgI n) ∧ Dr K H' d t ∧ But t H H' ∧ H' l = some (.lst (ls.map V.int)) ∧ H' f = some (.lst (os.map V.int)))
      ⟨l0, rgI n, [], _, _, rfl, nlt, ne_of_none (upd_same (H := H) (a := l0) (o := .lst ((rgI n).map V.int))) hf, hl0, rfl, List.Perm.refl _, (D.same s1).same s2, But.of_same (s1.trans s2), s2 _ _ upd_same, upd_same⟩ ?_ ?_⟩
    · rintro k σ H2 hk ⟨l, ls, os, x5, x6, rfl, nl, nlf, lH, ek, pm, D2, b2, l2, f2⟩
      have hlen : os.length + ls.length = n := by
        have := pm.length_eq
        rw [List.length_append] at this
        simpa [rgI] using this
      have hpos : 0 < ls.length := by omega
      refine ⟨_, rfl, _, rfl, _, rfl, l, _, rfl, .inl (SqL.of l2), d, t, _, rfl, D2, by rw [List.length_map]; omega, fun r H3 r0 r1 D3 b3 => ?_⟩
      rw [List.length_map] at r1
      obtain ⟨p, rfl⟩ := Int.eq_ofNat_of_zero_le r0
      have hp : p < ls.length := by omega
      have gp : ls[p]? = some ls[p] := List.getElem?_eq_getElem hp
      generalize ls[p] = x at gp
      have l3 := b3 _ _ nl l2
      have f3 := b3 _ _ nft f2
      have big : 1000 < sizeLine := by decide
      refine ⟨_, rfl, .inl ⟨rfl, _, SqL.of f3⟩, _, rfl, _, rfl, _, _, _, _, rfl, rfl, SqL.of l3, atI_nat (by rw [List.getElem?_map, gp]; rfl), _, _, _, rfl, rfl, f3, by rw [List.length_map]; omega, ?_⟩
      have D4 := D3.other (But.upd (a := f) (H := H3) (o := .lst (os.map V.int ++ [.int x]))) ndf nft.symm
      have b4 : But t H (upd H3 f (.lst (os.map V.int ++ [.int x]))) := (b2.trans b3).mut fH
      have l4 : (upd H3 f (.lst (os.map V.int ++ [.int x]))) l = some (.lst (ls.map V.int)) := by rw [upd_ne nlf]; exact l3
      have f4 : (upd H3 f (.lst (os.map V.int ++ [.int x]))) f = some (.lst ((os ++ [x]).map V.int)) := by rw [upd_same, List.map_append]; rfl
      revert D4 b4 l4 f4
      generalize upd H3 f (.lst (os.map V.int ++ [.int x])) = H4
      intro D4 b4 l4 f4
      refine ⟨_, rfl, _, rfl, _, rfl, l, _, rfl, SqL.of l4, fun c1 n1 => ?_⟩
      rw [cut_to (ls.map V.int) p, ← List.map_take]
      have s5 := same_new (o := .lst ((ls.take p).map V.int)) n1
      refine ⟨_, rfl, _, rfl, _, _, rfl, rfl, _, rfl, l, _, rfl, SqL.of (s5 _ _ l4), fun c2 n2 => ?_⟩
      rw [show ((p : Int) + 1) = ((p + 1 : Nat) : Int) by omega, cut_from (ls.map V.int) (p + 1), ← List.map_drop]
      have s6 := same_new (o := .lst ((ls.drop (p + 1)).map V.int)) n2
      have n1H : H c1 = none := b4.free (D4.na n1) n1
      have z1 := List.length_take_le p ls
      have z2 : (ls.drop (p + 1)).length = ls.length - (p + 1) := List.length_drop
      refine ⟨c1, c2, _, _, rfl, rfl, s6 _ _ upd_same, upd_same, by rw [List.length_map, List.length_map]; omega, fun c3 n3 => ?_⟩
      rw [← List.map_append]
      have s7 := same_new (o := .lst ((ls.take p ++ ls.drop (p + 1)).map V.int)) n3
      have t7 := (s5.trans s6).trans s7
      have n3H : H c3 = none := b4.free (((D4.same s5).same s6).na n3) ((s5.trans s6).free n3)
      exact ⟨c3, _, os ++ [x], _, _, rfl, ((D4.same s5).same s6).na n3, (ne_of_none ((s5.trans s6) _ _ f4) n3).symm, n3H, by rw [List.length_append, ek]; rfl, (pick_perm gp).trans pm, D4.same t7, b4.trans (But.of_same t7), upd_same, t7 _ _ f4⟩
    · rintro σ H2 ⟨l, ls, os, x5, x6, rfl, nl, nlf, lH, ek, pm, D2, b2, l2, f2⟩
      have hlen : os.length + ls.length = n := by
        have := pm.length_eq
        rw [List.length_append] at this
        simpa [rgI] using this
      have e0 : ls = [] := List.length_eq_zero_iff.mp (by omega)
      subst e0
      rw [List.append_nil] at pm
      exact ⟨_, rfl, q f os H2 pm D2 b2 fH f2⟩
end
end My

namespace My
open PySem L2
theorem edv_but {H H' : Hp} {t : Addr} {v : V} {e : Int × Int} (b : But t H H') (nt : ∀ xs, H t ≠ some (.tup xs)) (h : EdV H v e) : EdV H' v e := by
  obtain ⟨p, rfl, hp⟩ := h
  exact ⟨p, rfl, b _ _ (fun z => nt _ (z ▸ hp)) hp⟩
theorem edvs_but {H H' : Hp} {t : Addr} (b : But t H H') (nt : ∀ xs, H t ≠ some (.tup xs)) : ∀ {vs : List V} {es : List (Int × Int)}, Paired (EdV H) vs es → Paired (EdV H') vs es
  | _, _, .nil => .nil
  | _, _, .cons h r => .cons (edv_but b nt h) (edvs_but b nt r)
theorem Dr.nt {K : PySem.W.Frag} {H : Hp} {d t : Addr} (D : Dr K H d t) : ∀ xs, H t ≠ some (.tup xs) := fun xs e => by have := D.pl.choose_spec; rw [this] at e; cases e
theorem pair_append {α β : Type} {F : α → β → Prop} {l1 : List α} {m1 : List β} {l2 : List α} {m2 : List β} (h : Paired F l1 m1) (h2 : Paired F l2 m2) : Paired F (l1 ++ l2) (m1 ++ m2) := by
  induction h with
  | nil => exact h2
  | cons h r ih => exact .cons h ih
theorem pair_rev {α β : Type} {F : α → β → Prop} {l : List α} {m : List β} (h : Paired F l m) : Paired F l.reverse m.reverse := by
  induction h with
  | nil => exact .nil
  | cons h r ih =>
    rw [List.reverse_cons, List.reverse_cons]
    exact pair_append ih (.cons h .nil)
/-- the world of the law between two turns -/
structure Wd (K : PySem.W.Frag) (H : Hp) (d t N E L : Addr) (ns : List Int) (es : List (Int × Int)) : Prop where
  dr : Dr K H d t
  hn : H N = some (.lst (ns.map V.int))
  nN : N ≠ t
  he : ∃ vs, H E = some (.lst vs) ∧ Paired (EdV H) vs es
  nE : E ≠ t
  hl : ∃ vs, H L = some (.lst vs) ∧ Paired (EdV H) vs es
  nL : L ≠ t
  nLE : L ≠ E
  nLN : L ≠ N
  nd : es.Nodup
  ndL : L ≠ d
theorem Wd.but {K : PySem.W.Frag} {H H' : Hp} {d t N E L : Addr} {ns : List Int} {es : List (Int × Int)} (x : Wd K H d t N E L ns es) (b : But t H H') (D : Dr K H' d t) : Wd K H' d t N E L ns es :=
  ⟨D, b _ _ x.nN x.hn, x.nN, x.he.elim fun vs h => ⟨vs, b _ _ x.nE h.1, edvs_but b x.dr.nt h.2⟩, x.nE, x.hl.elim fun vs h => ⟨vs, b _ _ x.nL h.1, edvs_but b x.dr.nt h.2⟩, x.nL, x.nLE, x.nLN, x.nd, x.ndL⟩
theorem Wd.same {K : PySem.W.Frag} {H H' : Hp} {d t N E L : Addr} {ns : List Int} {es : List (Int × Int)} (x : Wd K H d t N E L ns es) (s : Same H H') : Wd K H' d t N E L ns es := x.but (But.of_same s) (x.dr.same s)
theorem Wd.edE {K : PySem.W.Frag} {H : Hp} {d t N E L : Addr} {ns : List Int} {es : List (Int × Int)} (x : Wd K H d t N E L ns es) : Edg K H (.ref E) es := x.he.elim fun vs h => .inl ⟨E, vs, rfl, .inl (SqL.of h.1), h.2⟩
theorem Wd.edL {K : PySem.W.Frag} {H : Hp} {d t N E L : Addr} {ns : List Int} {es : List (Int × Int)} (x : Wd K H d t N E L ns es) : Edg K H (.ref L) es := x.hl.elim fun vs h => .inl ⟨L, vs, rfl, .inl (SqL.of h.1), h.2⟩
def spLaw (K : PySem.W.Frag) : Sp := fun vs H Q _ => ∃ (a : Addr) (ns : List Int), vs = [.ref a] ∧ SqL K H a (ns.map V.int) ∧ ns.length ≤ 63 ∧ ∀ H', Q (.bl true) H'
/-- data of a pair, for _law_same -/
theorem EdV.dn {K : PySem.W.Frag} {x : Addr} {H : Hp} {v : V} {e : Int × Int} (nx : ∀ xs, H x ≠ some (.tup xs)) (h : EdV H v e) : Dn K x H 1 v (edD e) := by
  obtain ⟨p, rfl, hp⟩ := h
  exact Dn.tup (fun z => nx _ (z ▸ hp)) (.inl (.inl hp)) (.cons (.int _) (.cons (.int _) .nil))
theorem EdV.dns {K : PySem.W.Frag} {x : Addr} {H : Hp} (nx : ∀ xs, H x ≠ some (.tup xs)) : ∀ {vs : List V} {es : List (Int × Int)}, Paired (EdV H) vs es → Paired (Dn K x H 1) vs (es.map edD)
  | _, _, .nil => .nil
  | _, _, .cons h r => .cons (EdV.dn nx h) (EdV.dns nx r)
theorem ints_dn {K : PySem.W.Frag} {x : Addr} {H : Hp} {n : Nat} : ∀ ns : List Int, Paired (Dn K x H n) (ns.map V.int) (ns.map PyData.int)
  | [] => .nil
  | i :: r => .cons (.int i) (ints_dn r)
theorem putK_new {α : Type} [DecidableEq α] {kvs : List (α × V)} {k : α} {v : V} (h : k ∉ kvs.map (·.1)) : putK kvs k v = kvs ++ [(k, v)] := by
  unfold putK
  rw [if_neg]
  rw [List.any_eq_true]
  rintro ⟨kv, hk, e⟩
  exact h (List.mem_map.mpr ⟨kv, hk, of_decide_eq_true e⟩)
theorem filter_erase {e : Int × Int} : ∀ {es : List (Int × Int)} {j : Nat}, es.Nodup → es[j]? = some e → (es.filter fun f => !decide (f = e)) = es.eraseIdx j ∧ ∀ m, m < j → es[m]? ≠ some e
  | [], j, _, h => by simp at h
  | f :: r, 0, nd, h => by
    obtain rfl : f = e := Option.some.inj h
    have hf := (List.nodup_cons.mp nd).1
    refine ⟨?_, fun m hm => absurd hm (Nat.not_lt_zero _)⟩
    rw [List.filter_cons_of_neg (by simp)]
    show _ = r
    rw [List.filter_eq_self]
    intro g hg
    simp only [Bool.not_eq_true', decide_eq_false_iff_not]
    rintro rfl
    exact hf hg
  | f :: r, j + 1, nd, h => by
    obtain ⟨hf, nd'⟩ := List.nodup_cons.mp nd
    have h : r[j]? = some e := h
    have hne : f ≠ e := fun z => hf (z ▸ List.mem_of_getElem? h)
    obtain ⟨h1, h2⟩ := filter_erase nd' h
    refine ⟨?_, fun m hm => ?_⟩
    · rw [List.filter_cons_of_pos (by simp [hne]), h1]; rfl
    · cases m with
      | zero => exact fun z => hne (Option.some.inj z)
      | succ m => exact h2 m (Nat.lt_of_succ_lt_succ hm)
theorem pair_erase {α β : Type} {F : α → β → Prop} : ∀ {l : List α} {m : List β} (j : Nat), Paired F l m → Paired F (l.eraseIdx j) (m.eraseIdx j)
  | _, _, _, .nil => .nil
  | _, _, 0, .cons h r => r
  | _, _, j + 1, .cons h r => .cons h (pair_erase j r)
end My

namespace My
open PySem L2
def Up (o : List Int) (k j : Nat) (es : List (Int × Int)) : Prop := es.Nodup ∧ es.length ≤ 7 * k + j ∧ ∀ e ∈ es, ∃ j' k', o[j']? = some e.1 ∧ o[k']? = some e.2 ∧ (k' < k ∨ k' = k ∧ j' < j)
theorem nodup_at {o : List Int} (h : o.Nodup) {i j : Nat} {x : Int} (hi : o[i]? = some x) (hj : o[j]? = some x) : i = j := by
  obtain ⟨h1, e1⟩ := List.getElem?_eq_some_iff.mp hi
  exact (List.getElem?_inj h1 h).mp (hi.trans hj.symm)
theorem Up.skip {o : List Int} {k j : Nat} {es : List (Int × Int)} (h : Up o k j es) : Up o k (j + 1) es :=
  ⟨h.1, by have := h.2.1; omega, fun e he => by obtain ⟨j', k', a, b, c⟩ := h.2.2 e he; exact ⟨j', k', a, b, by omega⟩⟩
theorem Up.add {o : List Int} {k j : Nat} {es : List (Int × Int)} {x y : Int} (ho : o.Nodup) (hx : o[j]? = some x) (hy : o[k]? = some y) (h : Up o k j es) : Up o k (j + 1) (es ++ [(x, y)]) := by
  refine ⟨?_, by have := h.2.1; rw [List.length_append]; show _ + 1 ≤ _; omega, fun e he => ?_⟩
  · rw [List.nodup_append]
    refine ⟨h.1, by simp, fun a ha b hb => ?_⟩
    rw [List.mem_singleton.mp hb]
    rintro rfl
    obtain ⟨j', k', a1, b1, c⟩ := h.2.2 _ ha
    have e1 := nodup_at ho a1 hx
    have e2 := nodup_at ho b1 hy
    omega
  · rcases List.mem_append.mp he with he | he
    · obtain ⟨j', k', a, b, c⟩ := h.2.2 e he
      exact ⟨j', k', a, b, by omega⟩
    · rw [List.mem_singleton.mp he]
      exact ⟨j, k, hx, hy, by omega⟩
theorem Up.next {o : List Int} {k j : Nat} {es : List (Int × Int)} (hj : j ≤ k) (hk : k ≤ 7) (h : Up o k j es) : Up o (k + 1) 0 es :=
  ⟨h.1, by have := h.2.1; omega, fun e he => by obtain ⟨j', k', a, b, c⟩ := h.2.2 e he; exact ⟨j', k', a, b, by omega⟩⟩
def pickN (ns : List Int) (o : Int) : Int := ns.getD (ns.length - 1 - o).toNat 0
theorem pickN_get {ns : List Int} {o : Int} (h0 : 0 ≤ o) (h1 : o < ns.length) : ns[(ns.length - 1 - o).toNat]? = some (pickN ns o) := by
  unfold pickN
  have : (ns.length - 1 - o).toNat < ns.length := by omega
  rw [List.getD_eq_getElem?_getD, List.getElem?_eq_getElem this]; rfl
theorem nodup_lt {ns : List Int} (h : ns.Pairwise (· < ·)) : ns.Nodup := h.imp fun h e => by omega
theorem picks_nodup {ns os : List Int} (hn : ns.Pairwise (· < ·)) (hp : os.Perm (rgI ns.length)) : (os.map (pickN ns)).Nodup := by
  have h1 : os.Nodup := hp.nodup_iff.mpr (rgI_nodup _)
  have h2 : ∀ x ∈ os, 0 ≤ x ∧ x < ns.length := fun x hx => rgI_mem (hp.mem_iff.mp hx)
  rw [List.nodup_iff_pairwise_ne, List.pairwise_map]
  refine List.Pairwise.imp_of_mem (fun {a b} ha hb hne e => ?_) h1
  obtain ⟨a0, a1⟩ := h2 a ha
  obtain ⟨b0, b1⟩ := h2 b hb
  have ga := pickN_get a0 a1
  have gb := pickN_get b0 b1
  rw [e] at ga
  have := nodup_at (nodup_lt hn) ga gb
  omega
def spForward (K : PySem.W.Frag) : Sp := fun vs H Q _ => ∃ (d t a : Addr) (ns : List Int), vs = [.ref d, .ref t, .ref a] ∧ ns.length ≤ 7 ∧ ns.Pairwise (· < ·) ∧ H a = some (.lst (ns.map V.int)) ∧ a ≠ t ∧ Dr K H d t ∧
  ∀ (r : Addr) (vs : List V) (es : List (Int × Int)) H', es.Nodup → es.length ≤ 100 → Dr K H' d t → But t H H' → H r = none → H' r = some (.lst vs) → Paired (EdV H') vs es → Q (.ref r) H'
section
variable {P : Program} {w : World} {K : PySem.W.Frag} {mg : Str → Option Value} {base : Heap}
theorem ok__law_forward (T : Txt K mg) : FnOk P w K mg base CX0 3 T.a__law_forward T.fd__law_forward ["_law_draws_here", "_law_at", "_law_nodes_here"] (spForward K) := by
  refine T.F__law_forward.ok sc__law_forward (fun vs H Q E h => ?_) (fun cdv A outer s H vs Q E hr h => ?_)
  · obtain ⟨d, t, a, ns, rfl, _⟩ := h; rfl
  · obtain ⟨d, t, a, ns, rfl, hn, hs, hS, na, D, q⟩ := h
    refine ⟨_, (pss_cons (ps_set (i := 3) sc__law_forward.nd rfl (.inr rfl) (pe_callB call_len_seq (by rfl) T.n_len (by decide +kernel) (pa_cons (pv 2) pa_nil)))
      (pss_cons (ps_setLc (i := 4) (own := [("_law_k", 5)]) (g := (gName 5)) (by rfl) sc__law_forward.nd rfl rfl (sw_true rfl rfl rfl (by decide +kernel)) (pi_list (pe_call (ok__law_order T) (hr.mono (by omega)) (by rfl) T.g__law_order T.F__law_order.kp T.b__law_order .nil pass0 (pa_cons (pv 0) (pa_cons (pv 1) (pa_cons (pv 3) pa_nil))))) (blkOk_by (own := [("_law_k", 5)]) (N := ["_law_draws_here", "_law_at", "_law_nodes_here", "_law_count", "_law_order_here", "_law_k", "_law_chance", "_law_edges", "_law_j"]) (sc := defScope S__law_forward) (by decide +kernel)) (fun _ _ _ _ _ => (pg_name (i := 5) sc__law_forward.nd rfl (.inl rfl))) (fun _ _ _ _ _ => pts_nil) (fun _ _ _ _ _ => (pe_ix (ixLK (K := K) rfl) (pv 2) (pe_op op_sub (pe_op op_sub (pv 3) (pe_int)) (pv 5)) (fun _ _ => rfl))))
      (pss_cons (ps_set (i := 6) sc__law_forward.nd rfl (.inl rfl) (pe_ix ix_list (pe_lst (pa_cons (pe_int) (pa_cons (pe_int) (pa_cons (pe_int) (pa_cons (pe_int) pa_nil))))) (pe_call (ok__law_take T) (hr.mono (by omega)) (by rfl) T.g__law_take T.F__law_take.kp T.b__law_take .nil pass0 (pa_cons (pv 0) (pa_cons (pv 1) (pa_cons (pe_int) pa_nil)))) (fun _ _ => rfl)))
      (pss_cons (ps_set (i := 7) sc__law_forward.nd rfl (.inl rfl) (pe_lst pa_nil))
      (pss_cons (ps_for PassesOwn.never rfl (pi_range1 (by rfl) T.n_range (pa_cons (pv 3) pa_nil)) (pg_name (i := 5) sc__law_forward.nd rfl (.inl rfl)) (pss_one (ps_for PassesOwn.never rfl (pi_range1 (by rfl) T.n_range (pa_cons (pv 5) pa_nil)) (pg_name (i := 8) sc__law_forward.nd rfl (.inl rfl)) (pss_one (ps_if (PW.pt (pw_and (pt_cmpR op_eq (pe_op op_add (pv 8) (pe_int)) (pv 5) (nomark _)) (pw_and1 (pt_cmpR op_ne (pe_call (ok__law_take T) (hr.mono (by omega)) (by rfl) T.g__law_take T.F__law_take.kp T.b__law_take .nil pass0 (pa_cons (pv 0) (pa_cons (pv 1) (pa_cons (pe_int) pa_nil)))) (pe_int) (nomark _))))) (pss_one (ps_expr (pe_bm PySem.F.plainAttrs_list PySem.F.slot_list_append PySem.F.type_list_append mt_append (pv 7) (pa_cons (pe_tup (pa_cons (pe_ix ix_list (pv 4) (pv 8) (fun _ _ => rfl)) (pa_cons (pe_ix ix_list (pv 4) (pv 5) (fun _ _ => rfl)) pa_nil))) pa_nil)))) (pss_one (ps_if (pt_cmpR op_eq (pe_call (ok__law_take T) (hr.mono (by omega)) (by rfl) T.g__law_take T.F__law_take.kp T.b__law_take .nil pass0 (pa_cons (pv 0) (pa_cons (pv 1) (pa_cons (pv 6) pa_nil)))) (pe_op op_sub (pv 6) (pe_int)) (nomark _)) (pss_one (ps_expr (pe_bm PySem.F.plainAttrs_list PySem.F.slot_list_append PySem.F.type_list_append mt_append (pv 7) (pa_cons (pe_tup (pa_cons (pe_ix ix_list (pv 4) (pv 8) (fun _ _ => rfl)) (pa_cons (pe_ix ix_list (pv 4) (pv 5) (fun _ _ => rfl)) pa_nil))) pa_nil)))) pss_nil)))))))
      (pss_cons (ps_if (pt_cmpR op_eq (pe_call (ok__law_take T) (hr.mono (by omega)) (by rfl) T.g__law_take T.F__law_take.kp T.b__law_take .nil pass0 (pa_cons (pv 0) (pa_cons (pv 1) (pa_cons (pe_int) pa_nil)))) (pe_int) (nomark _)) (pss_one (ps_set (i := 7) sc__law_forward.nd rfl (.inl rfl) (pe_revL (pv 7)))) pss_nil)
      (pss_one (ps_ret (pv 7))))))))), ?_⟩
    refine ⟨_, rfl, a, _, rfl, .inl (SqL.of hS), ?_⟩
    rw [List.length_map]
    refine ⟨_, rfl, _, rfl, _, rfl, d, t, ns.length, rfl, by omega, D, fun r0 os H1 pm D1 b1 nr0 h0 => ⟨r0, rfl, ⟨_, SqL.of h0⟩, fun o ho => ?_⟩⟩
    have nr0t : r0 ≠ t := D.na nr0
    have not_ : o ≠ t := D1.na ho
    have eos : os.length = ns.length := by have := pm.length_eq; simpa [rgI] using this
    have hS1 := b1 _ _ na hS
    refine lc_list (K := K) (a := r0) (xs := os.map V.int) (fun i H' => Same H1 H' ∧ H' o = some (.lst ((os.take i).map fun x => V.int (pickN ns x)))) ⟨same_new ho, upd_same⟩ (fun i H' _ h => SqL.of (h.1 _ _ h0)) ?_ ?_
    · rintro i v H2 hv ⟨s2, h2⟩
      obtain ⟨x, hx, rfl⟩ := get_int hv
      obtain ⟨x0, x1⟩ := rgI_mem (pm.mem_iff.mp (List.mem_of_getElem? hx))
      have hat : atI (ns.map V.int) ((ns.length : Nat) - 1 - x) = some (V.int (pickN ns x)) := by
        rw [show ((ns.length : Nat) - 1 - x : Int) = (((ns.length : Nat) - 1 - x : Int).toNat : Int) by omega]
        exact atI_nat (by rw [List.getElem?_map, pickN_get x0 x1]; rfl)
      have big : 1000 < sizeLine := by decide
      refine ⟨rfl, _, rfl, _, rfl, _, _, rfl, rfl, _, rfl, _, _, rfl, rfl, _, _, _, _, rfl, rfl, SqL.of (s2 _ _ hS1), hat, _, h2, by rw [List.length_map, List.length_take]; omega, same_mut s2 ho, ?_⟩
      rw [upd_same, List.take_add_one, hx, List.map_append]; rfl
    rintro H2 ⟨s2, h2⟩
    rw [List.length_map, List.take_length] at h2
    have h2 : H2 o = some (.lst ((os.map (pickN ns)).map V.int)) := by rw [h2, List.map_map]; rfl
    have nd := picks_nodup hs pm
    have eol : (os.map (pickN ns)).length = ns.length := by rw [List.length_map]; exact eos
    revert nd eol h2
    generalize os.map (pickN ns) = ol
    intro h2 nd eol
    have D2 := D1.same s2
    have b2 : But t H H2 := b1.trans (But.of_same s2)
    have nH : H o = none := b1.free not_ ho
    refine ⟨by show 4 ≤ sizeLine; decide, fun m hm => ?_⟩
    have s3 := same_new (o := .lst [.int 3, .int 2, .int 1, .int 5]) hm
    have nmt : m ≠ t := D2.na hm
    refine ⟨_, rfl, _, rfl, d, t, 4, rfl, D2.same s3, by decide, fun r H4 r0 r1 D4 b4 => ?_⟩
    obtain ⟨v, hv, mv⟩ := at_ok (xs := [.int 3, .int 2, .int 1, .int 5]) r0 r1
    obtain ⟨g, rfl, hg⟩ : ∃ g : Int, v = .int g ∧ 0 < g := by
      simp only [List.mem_cons, List.not_mem_nil, or_false] at mv
      rcases mv with rfl | rfl | rfl | rfl <;> exact ⟨_, rfl, by decide⟩
    refine ⟨_, _, _, _, rfl, rfl, SqL.of (b4 _ _ nmt upd_same), hv, ?_⟩
    have o4 := b4 _ _ not_ (s3 _ _ h2)
    have c4 : But t H H4 := (b2.trans (But.of_same s3)).trans b4
    refine ⟨Nat.zero_le _, fun e he => ?_⟩
    have s5 := same_new (o := .lst ([] : List V)) he
    have net : e ≠ t := D4.na he
    have nde : d ≠ e := D4.nd he
    have noe : o ≠ e := ne_of_none o4 he
    have eH : H e = none := c4.free net he
    refine ⟨_, rfl, _, rfl, by omega, by omega, for_range (lo := 0) (n := ns.length) (fun k σ H' => ∃ (vs : List V) (es : List (Int × Int)) (x5 x8 : Option V), σ = [some (.ref d), some (.ref t), some (.ref a), some (.int (ns.length : Nat)), some (.ref o), x5, some (.int g), some (.ref e), x8] ∧ Dr K H' d t ∧ But t H H' ∧ H' o = some (.lst (ol.map V.int)) ∧ H' e = some (.lst vs) ∧ Paired (EdV H') vs es ∧ Up ol k 0 es)
      ⟨[], [], _, _, rfl, D4.same s5, c4.trans (But.of_same s5), s5 _ _ o4, upd_same, .nil, .nil, Nat.zero_le _, fun _ h => absurd h List.not_mem_nil⟩ ?_ ?_⟩
    · rintro k σ H6 hk ⟨vs0, es0, x5, x8, rfl, D6, b6, o6, e6, p6, u6⟩
      have hk7 : k < 7 := by omega
      rw [Int.zero_add]
      refine ⟨_, rfl, _, rfl, by omega, by omega, for_range (lo := 0) (n := k) (fun j σ H' => ∃ (vs : List V) (es : List (Int × Int)) (x8 : Option V), σ = [some (.ref d), some (.ref t), some (.ref a), some (.int (ns.length : Nat)), some (.ref o), some (.int (k : Int)), some (.int g), some (.ref e), x8] ∧ Dr K H' d t ∧ But t H H' ∧ H' o = some (.lst (ol.map V.int)) ∧ H' e = some (.lst vs) ∧ Paired (EdV H') vs es ∧ Up ol k j es)
        ⟨vs0, es0, _, rfl, D6, b6, o6, e6, p6, u6⟩ ?_ ?_⟩
      · rintro j σ H7 hj ⟨vs, es, x8', rfl, D7, b7, o7, e7, p7, u7⟩
        have big : 1000 < sizeLine := by decide
        have gl := u7.2.1
        have gj : ol[j]? = some ol[j] := List.getElem?_eq_getElem (by omega)
        have gk : ol[k]? = some ol[k] := List.getElem?_eq_getElem (by omega)
        revert gj gk
        generalize ol[j] = xj
        generalize ol[k] = xk
        intro gj gk
        have at_j : atI (ol.map V.int) (j : Int) = some (V.int xj) := atI_nat (by rw [List.getElem?_map, gj]; rfl)
        have at_k : atI (ol.map V.int) (k : Int) = some (V.int xk) := atI_nat (by rw [List.getElem?_map, gk]; rfl)
        rw [Int.zero_add]
        refine ⟨_, rfl, _, _, rfl, rfl, _, rfl, rfl, _, rfl, iteD (fun c => ?_) (fun c => ?_)⟩
        · refine ⟨_, rfl, _, rfl, d, t, 3, rfl, D7, by decide, fun r8 H8 _ _ D8 b8 => ⟨rfl, _, rfl, iteN (fun c2 => ?_) (fun c2 => ?_)⟩⟩
          · skip
            have b8' := b7.trans b8
            have o8 := b8 _ _ not_ o7
            have e8 := b8 _ _ net e7
            have p8 := edvs_but b8 D7.nt p7
            refine ⟨_, rfl, .inl ⟨rfl, _, SqL.of e8⟩, _, rfl, _, rfl, _, _, _, _, rfl, rfl, SqL.of o8, at_j, _, rfl, _, rfl, _, _, _, _, rfl, rfl, SqL.of o8, at_k, by show 2 ≤ sizeLine; decide, fun u hu => ?_⟩
            have su := same_new (o := .tup [.int xj, .int xk]) hu
            have eu := su _ _ e8
            refine ⟨_, _, _, rfl, rfl, eu, by rw [pair_len p7]; omega, ?_⟩
            have bu : But e (upd H8 u (.tup [.int xj, .int xk])) (upd (upd H8 u (.tup [.int xj, .int xk])) e (.lst (vs ++ [.ref u]))) := But.upd
            have ne_tup : ∀ xs, (upd H8 u (.tup [.int xj, .int xk])) e ≠ some (.tup xs) := fun xs z => by rw [eu] at z; cases z
            have pu : Paired (EdV (upd H8 u (.tup [.int xj, .int xk]))) (vs ++ [.ref u]) (es ++ [(xj, xk)]) := pair_append (edvs_same su p8) (.cons ⟨u, rfl, upd_same⟩ .nil)
            exact ⟨vs ++ [.ref u], es ++ [(xj, xk)], _, rfl, (D8.same su).other bu nde net.symm, (b8'.trans (But.of_same su)).mut eH, by rw [upd_ne noe]; exact su _ _ o8, upd_same, edvs_but bu ne_tup pu, u7.add nd gj gk⟩
          · skip
            refine ⟨_, rfl, _, rfl, _, rfl, d, t, g, rfl, D8, hg, fun r9 H9 _ _ D9 bb9 => ⟨_, rfl, _, _, rfl, rfl, rfl, _, rfl, iteD (fun c3 => ?_) (fun c3 => ?_)⟩⟩
            · have b9 : But t H7 H9 := (b8).trans bb9
              have b9' := b7.trans b9
              have o9 := b9 _ _ not_ o7
              have e9 := b9 _ _ net e7
              have p9 := edvs_but b9 D7.nt p7
              refine ⟨_, rfl, .inl ⟨rfl, _, SqL.of e9⟩, _, rfl, _, rfl, _, _, _, _, rfl, rfl, SqL.of o9, at_j, _, rfl, _, rfl, _, _, _, _, rfl, rfl, SqL.of o9, at_k, by show 2 ≤ sizeLine; decide, fun u hu => ?_⟩
              have su := same_new (o := .tup [.int xj, .int xk]) hu
              have eu := su _ _ e9
              refine ⟨_, _, _, rfl, rfl, eu, by rw [pair_len p7]; omega, ?_⟩
              have bu : But e (upd H9 u (.tup [.int xj, .int xk])) (upd (upd H9 u (.tup [.int xj, .int xk])) e (.lst (vs ++ [.ref u]))) := But.upd
              have ne_tup : ∀ xs, (upd H9 u (.tup [.int xj, .int xk])) e ≠ some (.tup xs) := fun xs z => by rw [eu] at z; cases z
              have pu : Paired (EdV (upd H9 u (.tup [.int xj, .int xk]))) (vs ++ [.ref u]) (es ++ [(xj, xk)]) := pair_append (edvs_same su p9) (.cons ⟨u, rfl, upd_same⟩ .nil)
              exact ⟨vs ++ [.ref u], es ++ [(xj, xk)], _, rfl, (D9.same su).other bu nde net.symm, (b9'.trans (But.of_same su)).mut eH, by rw [upd_ne noe]; exact su _ _ o9, upd_same, edvs_but bu ne_tup pu, u7.add nd gj gk⟩
            · have b9 : But t H7 H9 := (b8).trans bb9
              exact ⟨vs, es, _, rfl, D9, b7.trans b9, b9 _ _ not_ o7, b9 _ _ net e7, edvs_but b9 D7.nt p7, u7.skip⟩
        · skip
          refine ⟨_, rfl, _, rfl, _, rfl, d, t, g, rfl, D7, hg, fun r8 H8 _ _ D8 bb8 => ⟨_, rfl, _, _, rfl, rfl, rfl, _, rfl, iteD (fun c3 => ?_) (fun c3 => ?_)⟩⟩
          · have b8 : But t H7 H8 := bb8
            have b8' := b7.trans b8
            have o8 := b8 _ _ not_ o7
            have e8 := b8 _ _ net e7
            have p8 := edvs_but b8 D7.nt p7
            refine ⟨_, rfl, .inl ⟨rfl, _, SqL.of e8⟩, _, rfl, _, rfl, _, _, _, _, rfl, rfl, SqL.of o8, at_j, _, rfl, _, rfl, _, _, _, _, rfl, rfl, SqL.of o8, at_k, by show 2 ≤ sizeLine; decide, fun u hu => ?_⟩
            have su := same_new (o := .tup [.int xj, .int xk]) hu
            have eu := su _ _ e8
            refine ⟨_, _, _, rfl, rfl, eu, by rw [pair_len p7]; omega, ?_⟩
            have bu : But e (upd H8 u (.tup [.int xj, .int xk])) (upd (upd H8 u (.tup [.int xj, .int xk])) e (.lst (vs ++ [.ref u]))) := But.upd
            have ne_tup : ∀ xs, (upd H8 u (.tup [.int xj, .int xk])) e ≠ some (.tup xs) := fun xs z => by rw [eu] at z; cases z
            have pu : Paired (EdV (upd H8 u (.tup [.int xj, .int xk]))) (vs ++ [.ref u]) (es ++ [(xj, xk)]) := pair_append (edvs_same su p8) (.cons ⟨u, rfl, upd_same⟩ .nil)
            exact ⟨vs ++ [.ref u], es ++ [(xj, xk)], _, rfl, (D8.same su).other bu nde net.symm, (b8'.trans (But.of_same su)).mut eH, by rw [upd_ne noe]; exact su _ _ o8, upd_same, edvs_but bu ne_tup pu, u7.add nd gj gk⟩
          · have b8 : But t H7 H8 := bb8
            exact ⟨vs, es, _, rfl, D8, b7.trans b8, b8 _ _ not_ o7, b8 _ _ net e7, edvs_but b8 D7.nt p7, u7.skip⟩
      · rintro σ H7 ⟨vs, es, x8', rfl, D7, b7, o7, e7, p7, u7⟩
        exact ⟨vs, es, _, _, rfl, D7, b7, o7, e7, p7, u7.next (Nat.le_refl _) (by omega)⟩
    · rintro σ H6 ⟨vs, es, x5, x8, rfl, D6, b6, o6, e6, p6, u6⟩
      have gl := u6.2.1
      refine ⟨_, rfl, _, rfl, d, t, 2, rfl, D6, by decide, fun r H7 _ _ D7 b7 => ⟨rfl, _, rfl, iteD (fun c => ?_) (fun c => ?_)⟩⟩
      · refine ⟨_, rfl, e, vs, rfl, SqL.of (b7 _ _ net e6), fun z hz => ?_⟩
        have sz := same_new (o := .lst vs.reverse) hz
        have nzt : z ≠ t := D7.na hz
        exact ⟨_, rfl, q z vs.reverse es.reverse _ (by rw [List.nodup_iff_pairwise_ne, List.pairwise_reverse]; exact (List.nodup_iff_pairwise_ne.mp u6.1).imp fun h => h.symm) (by rw [List.length_reverse]; omega) (D7.same sz) ((b6.trans b7).trans (But.of_same sz)) ((b6.trans b7).free nzt hz) upd_same (pair_rev (edvs_same sz (edvs_but b7 D6.nt p6)))⟩
      · exact ⟨_, rfl, q e vs es H7 u6.1 (by omega) D7 (b6.trans b7) eH (b7 _ _ net e6) (edvs_but b7 D6.nt p6)⟩
end
end My

namespace My
open PySem L2
section
variable {P : Program} {w : World} {K : PySem.W.Frag} {mg : Str → Option Value} {base : Heap}
theorem fo_len (es : List (Int × Int)) : ∀ (n : Nat) (ls fs : List Int), (fo es n ls fs).length ≤ fs.length + n
  | 0, ls, fs => Nat.le_refl _
  | n + 1, ls, fs => by
    show (if ls = [] then fs else match freeOf es ls with | [] => [] | x :: _ => fo es n (ls.erase x) (fs ++ [x])).length ≤ _
    split
    · omega
    · split
      · exact Nat.zero_le _
      · rename_i x r e
        have := fo_len es n (ls.erase x) (fs ++ [x])
        rw [List.length_append] at this
        simp only [List.length_cons, List.length_nil] at this
        omega
theorem keys_ed {H : Hp} : ∀ {kvs : List (List Key × V)} {bs : List Addr} {es : List (Int × Int)}, Paired (fun p b => H b = some (.tup (p.1.map kV))) kvs bs → kvs.map (·.1) = es.map keyE → Paired (EdV H) (bs.map V.ref) es
  | _, _, [], .nil, _ => .nil
  | _, _, e :: r, .nil, h => by cases h
  | _, _, [], .cons _ _, h => by cases h
  | (k, v) :: kvs, b :: bs, e :: r, .cons h1 h2, h => by
    obtain ⟨e1, e2⟩ := List.cons.inj h
    have e1 : k = keyE e := e1
    subst e1
    exact .cons ⟨b, rfl, h1⟩ (keys_ed h2 e2)
theorem Wd.add {K : PySem.W.Frag} {H : Hp} {d t N E L E2 u : Addr} {ns : List Int} {es : List (Int × Int)} {e : Int × Int} {vE vL : List V} (x : Wd K H d t N E L ns es) (hE2 : H E2 = some (.lst vE)) (pE2 : Paired (EdV H) vE (es ++ [e])) (nE2 : E2 ≠ t) (nLE2 : L ≠ E2)
    (hL : H L = some (.lst vL)) (pL : Paired (EdV H) vL es) (hu : EdV H (.ref u) e) (ne : e ∉ es) : Wd K (upd H L (.lst (vL ++ [.ref u]))) d t N E2 L ns (es ++ [e]) := by
  have b : But L H (upd H L (.lst (vL ++ [.ref u]))) := But.upd
  have nt : ∀ xs, H L ≠ some (.tup xs) := fun xs z => by rw [hL] at z; cases z
  refine ⟨x.dr.other b (fun z => ?_) x.nL.symm, by rw [upd_ne x.nLN.symm]; exact x.hn, x.nN, ⟨vE, by rw [upd_ne nLE2.symm]; exact hE2, edvs_but b nt pE2⟩, nE2, ⟨_, upd_same, edvs_but b nt (pair_append pL (.cons hu .nil))⟩, x.nL, nLE2, x.nLN, ?_, x.ndL⟩
  · exact x.ndL z.symm
  · rw [List.nodup_append]
    exact ⟨x.nd, by simp, fun a ha c hc => by rw [List.mem_singleton.mp hc]; rintro rfl; exact ne ha⟩
theorem Wd.cut {K : PySem.W.Frag} {H : Hp} {d t N E L E2 : Addr} {ns : List Int} {es : List (Int × Int)} {e : Int × Int} {vE vL : List V} {j : Nat} (x : Wd K H d t N E L ns es) (hE2 : H E2 = some (.lst vE)) (pE2 : Paired (EdV H) vE (es.filter fun f => !decide (f = e))) (nE2 : E2 ≠ t) (nLE2 : L ≠ E2)
    (hL : H L = some (.lst vL)) (pL : Paired (EdV H) vL es) (hj : es[j]? = some e) : Wd K (upd H L (.lst (vL.eraseIdx j))) d t N E2 L ns (es.filter fun f => !decide (f = e)) := by
  have b : But L H (upd H L (.lst (vL.eraseIdx j))) := But.upd
  have nt : ∀ xs, H L ≠ some (.tup xs) := fun xs z => by rw [hL] at z; cases z
  refine ⟨x.dr.other b (fun z => x.ndL z.symm) x.nL.symm, by rw [upd_ne x.nLN.symm]; exact x.hn, x.nN, ⟨vE, by rw [upd_ne nLE2.symm]; exact hE2, edvs_but b nt pE2⟩, nE2, ⟨_, upd_same, ?_⟩, x.nL, nLE2, x.nLN, x.nd.filter _, x.ndL⟩
  rw [(filter_erase x.nd hj).1]
  exact edvs_but b nt (pair_erase j pL)
theorem not_in_take {es : List (Int × Int)} {i : Nat} {e : Int × Int} (h : es.Nodup) (hi : es[i]? = some e) : e ∉ es.take i := by
  intro m
  obtain ⟨j, hj, e1⟩ := List.getElem_of_mem m
  rw [List.length_take] at hj
  rw [List.getElem_take] at e1
  obtain ⟨h1, e2⟩ := List.getElem?_eq_some_iff.mp hi
  have h2 : es[j]? = es[i]? := by rw [hi, List.getElem?_eq_getElem (by omega), e1]
  have := (List.getElem?_inj (by omega) h).mp h2
  omega
set_option maxHeartbeats 16000000 in
theorem ok_law (T : Txt K mg) : FnOk P w K mg base CX0 12 T.a_law T.fd_law ["_law_script"] (spLaw K) := by
  refine T.F_law.ok sc_law (fun vs H Q E h => ?_) (fun cdv A outer s H vs Q E hr h => ?_)
  · obtain ⟨a, ns, rfl, _⟩ := h; rfl
  · obtain ⟨a0, ns0, rfl, hS, hlen, q⟩ := h
    refine ⟨_, (pss_cons (ps_set (i := 1) sc_law.nd rfl (.inl rfl) (pe_call (ok__law_draws T) (hr.mono (by omega)) (by rfl) T.g__law_draws T.F__law_draws.kp T.b__law_draws .nil pass0 (pa_cons (pv 0) pa_nil)))
      (pss_cons (ps_set (i := 2) sc_law.nd rfl (.inl rfl) (pe_lst (pa_cons (pe_int) pa_nil)))
      (pss_cons (ps_set (i := 3) sc_law.nd rfl (.inl rfl) (pe_call (ok__law_nodes T) (hr.mono (by omega)) (by rfl) T.g__law_nodes T.F__law_nodes.kp T.b__law_nodes .nil pass0 (pa_cons (pv 1) (pa_cons (pv 2) (pa_cons (pe_ix ix_list (pe_lst (pa_cons (pe_int) (pa_cons (pe_int) (pa_cons (pe_int) (pa_cons (pe_int) (pa_cons (pe_int) (pa_cons (pe_int) (pa_cons (pe_int) (pa_cons (pe_int) pa_nil))))))))) (pe_call (ok__law_take T) (hr.mono (by omega)) (by rfl) T.g__law_take T.F__law_take.kp T.b__law_take .nil pass0 (pa_cons (pv 1) (pa_cons (pv 2) (pa_cons (pe_int) pa_nil)))) (fun _ _ => rfl)) pa_nil)))))
      (pss_cons (ps_set (i := 4) sc_law.nd rfl (.inl rfl) (pe_call (ok__law_forward T) (hr.mono (by omega)) (by rfl) T.g__law_forward T.F__law_forward.kp T.b__law_forward .nil pass0 (pa_cons (pv 1) (pa_cons (pv 2) (pa_cons (pv 3) pa_nil)))))
      (pss_cons (ps_set (i := 5) sc_law.nd rfl (.inl rfl) (pe_callTy call_list_of (by rfl) T.n_list (by decide +kernel) (pa_cons (pv 4) pa_nil)))
      (pss_cons (ps_set (i := 6) sc_law.nd rfl (.inl rfl) (pe_callB call_len_seq (by rfl) T.n_len (by decide +kernel) (pa_cons (pv 3) pa_nil)))
      (pss_cons (ps_for PassesOwn.never rfl (pi_range1 (by rfl) T.n_range (pa_cons (pe_int) pa_nil)) (pg_name (i := 7) sc_law.nd rfl (.inl rfl)) (pss_cons (ps_set (i := 8) sc_law.nd rfl (.inl rfl) (pe_call (ok__law_due_order T) (hr.mono (by omega)) (by rfl) T.g__law_due_order T.F__law_due_order.kp T.b__law_due_order .nil pass0 (pa_cons (pv 3) (pa_cons (pv 4) pa_nil))))
      (pss_cons (ps_set (i := 9) sc_law.nd rfl (.inl rfl) (pe_callTy call_list_of (by rfl) T.n_list (by decide +kernel) (pa_cons (pv 3) pa_nil)))
      (pss_cons (ps_set (i := 10) sc_law.nd rfl (.inl rfl) (pe_dnewT))
      (pss_cons (ps_for PassesOwn.never rfl (pi_list (pv 4)) (pg_name (i := 11) sc_law.nd rfl (.inl rfl)) (pss_one (ps_dput (hu_of hr) (pv 10) (pv 11) (pe_call (ok__law_take T) (hr.mono (by omega)) (by rfl) T.g__law_take T.F__law_take.kp T.b__law_take .nil pass0 (pa_cons (pv 1) (pa_cons (pv 2) (pa_cons (pe_int) pa_nil)))) rfl)))
      (pss_cons (ps_set (i := 12) sc_law.nd rfl (.inl rfl) (pe_lst (pa_cons (pe_call (ok_forward_order T) (hr.mono (by omega)) (by rfl) T.g_forward_order T.F_forward_order.kp T.b_forward_order .nil pass0 (pa_cons (pv 9) (pa_cons (pv 5) pa_nil))) (pa_cons (pe_call (ok_forward_order T) (hr.mono (by omega)) (by rfl) T.g_forward_order T.F_forward_order.kp T.b_forward_order .nil pass0 (pa_cons (pe_callTy call_tuple_of (by rfl) T.n_tuple (by decide +kernel) (pa_cons (pv 3) pa_nil)) (pa_cons (pv 10) pa_nil))) (pa_cons (pe_call (ok_forward_order T) (hr.mono (by omega)) (by rfl) T.g_forward_order T.F_forward_order.kp T.b_forward_order .nil pass0 (pa_cons (pv 9) (pa_cons (pe_callTy call_tuple_of (by rfl) T.n_tuple (by decide +kernel) (pa_cons (pv 4) pa_nil)) pa_nil))) pa_nil)))))
      (pss_cons (ps_for PassesOwn.never rfl (pi_list (pv 12)) (pg_name (i := 13) sc_law.nd rfl (.inl rfl)) (pss_one (ps_if (pt_not (pt_val (pe_call (ok__law_same T 2) (hr.mono (by omega)) (by rfl) T.g__law_same T.F__law_same.kp T.b__law_same .nil pass0 (pa_cons (pv 13) (pa_cons (pv 8) pa_nil))))) (pss_one (ps_ret (pe_bl))) pss_nil)))
      (pss_cons (ps_if (PW.pt (pw_or (pt_not (pt_val (pe_call (ok__law_same T 2) (hr.mono (by omega)) (by rfl) T.g__law_same T.F__law_same.kp T.b__law_same .nil pass0 (pa_cons (pv 9) (pa_cons (pv 3) pa_nil))))) (pw_or (pt_not (pt_val (pe_call (ok__law_same T 2) (hr.mono (by omega)) (by rfl) T.g__law_same T.F__law_same.kp T.b__law_same .nil pass0 (pa_cons (pv 5) (pa_cons (pv 4) pa_nil))))) (pw_or1 (pt_not (pt_val (pe_call (ok__law_same T 2) (hr.mono (by omega)) (by rfl) T.g__law_same T.F__law_same.kp T.b__law_same .nil pass0 (pa_cons (pe_callTy (call_list_dT rfl) (by rfl) T.n_list (by decide +kernel) (pa_cons (pv 10) pa_nil)) (pa_cons (pv 4) pa_nil))))))))) (pss_one (ps_ret (pe_bl))) pss_nil)
      (pss_one (ps_if (PW.pt (pw_and (pt_cmpR op_eq (pe_op op_mod (pv 7) (pe_int)) (pe_int) (nomark _)) (pw_and1 (pt_cmpR op_gt (pv 6) (pe_int) (nomark _))))) (pss_cons (ps_set (i := 14) sc_law.nd rfl (.inl rfl) (pe_ix ix_list (pv 3) (pe_call (ok__law_take T) (hr.mono (by omega)) (by rfl) T.g__law_take T.F__law_take.kp T.b__law_take .nil pass0 (pa_cons (pv 1) (pa_cons (pv 2) (pa_cons (pv 6) pa_nil)))) (fun _ _ => rfl)))
      (pss_cons (ps_set (i := 15) sc_law.nd rfl (.inl rfl) (pe_ix ix_list (pv 3) (pe_op op_mod (pe_callTy call_int1 (by rfl) T.n_int (by decide +kernel) (pa_cons (pe_op op_sub (pe_op op_sub (pe_op op_mul (pe_int) (pv 6)) (pe_int)) (pe_call (ok__law_take T) (hr.mono (by omega)) (by rfl) T.g__law_take T.F__law_take.kp T.b__law_take .nil pass0 (pa_cons (pv 1) (pa_cons (pv 2) (pa_cons (pv 6) pa_nil))))) pa_nil)) (pv 6)) (fun _ _ => rfl)))
      (pss_one (ps_if (PW.pt (pw_and (pt_cmpR op_ne (pv 14) (pv 15) (nomark _)) (pw_and1 (pt_cmpR (ninEK (K := K) rfl (hu65 hr)) (pe_tup (pa_cons (pv 14) (pa_cons (pv 15) pa_nil))) (pv 4) (by with_unfolding_all rfl))))) (pss_cons (ps_set (i := 4) sc_law.nd rfl (.inl rfl) (pe_op op_cat (pv 4) (pe_lst (pa_cons (pe_tup (pa_cons (pv 14) (pa_cons (pv 15) pa_nil))) pa_nil))))
      (pss_one (ps_expr (pe_bm PySem.F.plainAttrs_list PySem.F.slot_list_append PySem.F.type_list_append mt_append (pv 5) (pa_cons (pe_tup (pa_cons (pv 14) (pa_cons (pv 15) pa_nil))) pa_nil))))) pss_nil)))) (pss_one (ps_if (pt_cmpR op_gt (pe_callB call_len_seq (by rfl) T.n_len (by decide +kernel) (pa_cons (pv 4) pa_nil)) (pe_int) (nomark _)) (pss_cons (ps_set (i := 16) sc_law.nd rfl (.inr rfl) (pe_ix ix_list (pv 4) (pe_call (ok__law_take T) (hr.mono (by omega)) (by rfl) T.g__law_take T.F__law_take.kp T.b__law_take .nil pass0 (pa_cons (pv 1) (pa_cons (pv 2) (pa_cons (pe_callB call_len_seq (by rfl) T.n_len (by decide +kernel) (pa_cons (pv 4) pa_nil)) pa_nil)))) (fun _ _ => rfl)))
      (pss_cons (ps_setLc (i := 4) (own := [("_law_edge", 11)]) (g := (gName 11)) (by rfl) sc_law.nd rfl rfl (sw_true rfl rfl rfl (by decide +kernel)) (pi_list (pv 4)) (blkOk_by (own := [("_law_edge", 11)]) (N := ["_law_script", "_law_draws_here", "_law_at", "_law_nodes_here", "_law_edges", "_law_listed", "_law_count", "_law_turn", "_law_due", "_law_given", "_law_table", "_law_edge", "_law_told", "_law_order_here", "_law_one", "_law_two", "_law_gone"]) (sc := defScope S_law) (by decide +kernel)) (fun _ _ _ _ _ => (pg_name (i := 11) sc_law.nd rfl (.inl rfl))) (fun _ _ _ _ _ => (pts_one (pt_cmpR (neDK (K := K) rfl hr.units) (pv 11) (pv 16) (nomark _)))) (fun _ _ _ _ _ => (pv 11)))
      (pss_one (ps_expr (pe_remE (hu65 hr) (pv 5) (pv 16)))))) pss_nil))))))))))))
      (pss_one (ps_ret (pe_bl)))))))))), ?_⟩
    refine ⟨_, rfl, a0, ns0, rfl, hS, hlen, fun d zs H1 s1 nd hd => ?_⟩
    refine ⟨by show 1 ≤ sizeLine; decide, fun t hat => ?_⟩
    have D0 : Dr K (upd H1 t (.lst [.int 0])) d t := ⟨⟨zs, same_new hat _ _ hd⟩, ⟨0, upd_same⟩, ne_of_none hd hat⟩
    revert D0
    generalize upd H1 t (.lst [.int 0]) = H2
    intro D0
    refine ⟨_, rfl, _, rfl, by show 8 ≤ sizeLine; decide, fun m hm => ?_⟩
    have s3 := same_new (o := .lst [.int 4, .int 3, .int 5, .int 2, .int 6, .int 7, .int 1, .int 0]) hm
    have nmt : m ≠ t := D0.na hm
    refine ⟨_, rfl, _, rfl, d, t, 8, rfl, D0.same s3, by decide, fun r H3 r0 r1 D3 b3 => ?_⟩
    obtain ⟨v, hv, mv⟩ := at_ok (xs := [.int 4, .int 3, .int 5, .int 2, .int 6, .int 7, .int 1, .int 0]) r0 r1
    obtain ⟨n, rfl, hn⟩ : ∃ n : Nat, v = .int n ∧ n ≤ 7 := by
      simp only [List.mem_cons, List.not_mem_nil, or_false] at mv
      rcases mv with rfl | rfl | rfl | rfl | rfl | rfl | rfl | rfl
      · exact ⟨4, rfl, by decide⟩
      · exact ⟨3, rfl, by decide⟩
      · exact ⟨5, rfl, by decide⟩
      · exact ⟨2, rfl, by decide⟩
      · exact ⟨6, rfl, by decide⟩
      · exact ⟨7, rfl, by decide⟩
      · exact ⟨1, rfl, by decide⟩
      · exact ⟨0, rfl, by decide⟩
    refine ⟨_, _, _, _, rfl, rfl, SqL.of (b3 _ _ nmt upd_same), hv, d, t, n, rfl, hn, D3, fun N ns H4 en pw D4 b4 nN hN => ?_⟩
    have nNt : N ≠ t := D3.na nN
    refine ⟨_, rfl, _, rfl, _, rfl, d, t, N, ns, rfl, by omega, pw, hN, nNt, D4, fun E0 vs0 es0 H5 nd0 ln0 D5 b5 nE0 hE0 pE0 => ?_⟩
    have nEt : E0 ≠ t := D4.na nE0
    have nNE : N ≠ E0 := ne_of_none hN nE0
    refine ⟨_, rfl, E0, vs0, rfl, .inl (SqL.of hE0), fun L hL => ?_⟩
    have s6 := same_new (o := .lst vs0) hL
    have nLt : L ≠ t := D5.na hL
    have W6 : Wd K (upd H5 L (.lst vs0)) d t N E0 L ns es0 := ⟨D5.same s6, s6 _ _ (b5 _ _ nNt hN), nNt, ⟨vs0, s6 _ _ hE0, edvs_same s6 pE0⟩, nEt, ⟨vs0, upd_same, edvs_same s6 pE0⟩, nLt, (ne_of_none hE0 hL).symm, (ne_of_none (b5 _ _ nNt hN) hL).symm, nd0, (D5.nd hL).symm⟩
    revert W6
    generalize upd H5 L (.lst vs0) = H6
    intro W6
    refine ⟨_, rfl, N, _, rfl, .inl (SqL.of W6.hn), ?_⟩
    rw [List.length_map]
    refine ⟨_, rfl, by decide, by decide, for_range (lo := 0) (n := 4) (fun k σ H' => ∃ (E : Addr) (es : List (Int × Int)) (x7 x8 x9 x10 x11 x12 x13 x14 x15 x16 : Option V), σ = [some (.ref a0), some (.ref d), some (.ref t), some (.ref N), some (.ref E), some (.ref L), some (.int (ns.length : Nat)), x7, x8, x9, x10, x11, x12, x13, x14, x15, x16] ∧ Wd K H' d t N E L ns es ∧ es.length ≤ 100 + k)
      ⟨E0, es0, _, _, _, _, _, _, _, _, _, _, rfl, W6, by omega⟩ ?_ ?_⟩
    · rintro k σ H7 hk ⟨E, es, x7, x8, x9, x10, x11, x12, x13, x14, x15, x16, rfl, W7, ln⟩
      have big : 1000 < sizeLine := by decide
      -- the due order
      refine ⟨_, rfl, _, rfl, N, .ref E, ns, es, rfl, .inl (SqL.of W7.hn), by omega, W7.edE, fun du H8 s8 ndu hdu => ?_⟩
      have W8 := W7.same s8
      refine ⟨_, rfl, N, _, rfl, .inl (SqL.of W8.hn), fun g hg => ?_⟩
      have s9 := same_new (o := .lst (ns.map V.int)) hg
      have W9 := W8.same s9
      have du9 := s9 _ _ hdu
      have g9 : (upd H8 g (.lst (ns.map V.int))) g = some (.lst (ns.map V.int)) := upd_same
      have ngt : g ≠ t := W8.dr.na hg
      revert W9 du9 g9
      generalize upd H8 g (.lst (ns.map V.int)) = H9
      intro W9 du9 g9
      have nut : du ≠ t := W7.dr.na ndu
      -- the table
      refine fun tb htb => ?_
      have s10 := same_new (o := .dT []) htb
      have W10 := W9.same s10
      have ntt : tb ≠ t := W9.dr.na htb
      have ndt : d ≠ tb := W9.dr.nd htb
      obtain ⟨vE, hE9, pE9⟩ := W9.he
      have hE := s10 _ _ hE9
      have lE := pair_len pE9
      refine ⟨_, rfl, E, rfl, ⟨_, SqL.of hE⟩, for_list (K := K) (a := E) (xs := vE) (fun i σ H' => ∃ (x11 : Option V) (kvs : List (List Key × V)), σ = [some (.ref a0), some (.ref d), some (.ref t), some (.ref N), some (.ref E), some (.ref L), some (.int (ns.length : Nat)), some (.int (0 + (k : Int))), some (.ref du), some (.ref g), some (.ref tb), x11, x12, x13, x14, x15, x16] ∧ Dr K H' d t ∧ But t H9 H' ∧ H' tb = some (.dT kvs) ∧ kvs.map (·.1) = (es.take i).map keyE)
        ⟨_, [], rfl, W10.dr, But.of_same s10, upd_same, rfl⟩ (fun i σ H' _ ⟨_, _, _, _, b, _⟩ => ?_) ?_ ?_⟩
      · exact SqL.of (b _ _ W9.nE hE9)
      · rintro i v σ H11 hv ⟨x11', kvs, rfl, D11, b11, t11, k11⟩
        obtain ⟨e, he, p, rfl, hp⟩ := pair_get pE9 hv
        have npt : p ≠ t := fun z => W9.dr.nt _ (z ▸ hp)
        refine ⟨_, rfl, _, rfl, d, t, 2, rfl, D11, by decide, fun r H12 _ _ D12 b12 => ?_⟩
        have lk : kvs.length = (es.take i).length := by have := congrArg List.length k11; simpa using this
        refine ⟨_, rfl, _, rfl, tb, _, rfl, DPut.t (k := keyE e) (b12 _ _ ntt t11) (b12 _ _ npt (b11 _ _ npt hp)) (by rw [lk, List.length_take]; omega), ?_⟩
        rw [putK_new (by rw [k11]; intro z; obtain ⟨f, hf, ef⟩ := List.mem_map.mp z; exact not_in_take W9.nd he (keyE_inj ef ▸ hf))]
        refine ⟨_, kvs ++ [(keyE e, .int r)], rfl, D12.other But.upd ndt ntt.symm, (b11.trans b12).mut htb, upd_same, ?_⟩
        rw [List.map_append, k11, List.take_add_one, he, List.map_append]; rfl
      · rintro σ H11 ⟨x11', kvs, rfl, D11, b11, t11, k11⟩
        rw [lE, List.take_length] at k11
        have W11 := W9.but b11 D11
        have g11 := b11 _ _ ngt g9
        have du11 := b11 _ _ nut du9
        clear W6 W7 W8 W9 W10
        -- the answers
        refine ⟨_, rfl, _, rfl, g, .ref L, ns, es, rfl, .inl (SqL.of g11), by omega, W11.edL, fun r1 H12 s12 n1 h1 => ?_⟩
        have W12 := W11.same s12
        refine ⟨_, rfl, N, _, rfl, .inl ⟨SqL.of W12.hn, fun c hc => ?_⟩⟩
        have s13 := same_new (o := .tup (ns.map V.int)) hc
        have W13 := W12.same s13
        have t13 := (s12.trans s13) _ _ t11
        refine ⟨_, rfl, c, .ref tb, ns, es, rfl, .inr (.inl (.inl upd_same)), by omega, .inr ⟨tb, kvs, rfl, t13, k11⟩, fun r2 H14 s14 n2 h2 => ?_⟩
        have W14 := W13.same s14
        have u14 := (s12.trans s13).trans s14
        obtain ⟨vE', hE', pE'⟩ := W14.he
        refine ⟨_, rfl, _, rfl, E, _, rfl, .inl ⟨SqL.of hE', fun c2 hc2 => ?_⟩⟩
        have s15 := same_new (o := .tup vE') hc2
        have u15 := u14.trans s15
        refine ⟨g, .ref c2, ns, es, rfl, .inl (SqL.of (u15 _ _ g11)), by omega, .inl ⟨c2, vE', rfl, .inr (.inl (.inl upd_same)), edvs_same s15 pE'⟩, fun r3 H16 s16 n3 h3 => ?_⟩
        have u16 := u15.trans s16
        refine ⟨by show 3 ≤ sizeLine; decide, fun to hto => ?_⟩
        have s17 := same_new (o := .lst [.ref r1, .ref r2, .ref r3]) hto
        have u17 := u16.trans s17
        have W17 := W11.same u17
        have h1 := (((s13.trans s14).trans s15).trans (s16.trans s17)) _ _ h1
        have h2 := (s15.trans (s16.trans s17)) _ _ h2
        have h3 := s17 _ _ h3
        have g17 := u17 _ _ g11
        have t17 := u17 _ _ t11
        have d17 := u17 _ _ du11
        have o17 : (upd H16 to (.lst [.ref r1, .ref r2, .ref r3])) to = some (.lst [.ref r1, .ref r2, .ref r3]) := upd_same
        revert W17 h1 h2 h3 g17 t17 d17 o17
        generalize upd H16 to (.lst [.ref r1, .ref r2, .ref r3]) = H17
        intro W17 h1 h2 h3 g17 t17 d17 o17
        have lf := fo_len es (ns.length + 1) ns []
        have dt : ∀ r, H17 r = some (.tup ((fo es (ns.length + 1) ns []).map V.int)) → Dn K t H17 2 (.ref r) (.tuple ((fo es (ns.length + 1) ns []).map PyData.int)) := fun r h =>
          Dn.tup (fun z => W17.dr.nt _ (z ▸ h)) (.inl (.inl h)) (ints_dn _) (by rw [List.length_map]; show _ ≤ _; simp at lf; omega)
        have not_t : to ≠ t := fun z => by
          obtain ⟨_, z2⟩ := W17.dr.pl
          rw [z, z2] at o17; cases o17
        refine ⟨_, rfl, to, rfl, ⟨_, SqL.of o17⟩, for_list (K := K) (a := to) (xs := [.ref r1, .ref r2, .ref r3]) (fun i σ H' => ∃ x13, H' = H17 ∧ σ = [some (.ref a0), some (.ref d), some (.ref t), some (.ref N), some (.ref E), some (.ref L), some (.int (ns.length : Nat)), some (.int (0 + (k : Int))), some (.ref du), some (.ref g), some (.ref tb), x11', some (.ref to), x13, x14, x15, x16])
          ⟨_, rfl, rfl⟩ (fun i σ H' _ ⟨_, e, _⟩ => by rw [e]; exact SqL.of o17) ?_ ?_⟩
        · rintro i v σ H18 hv ⟨x13', rfl, rfl⟩
          obtain ⟨r, rfl, hr'⟩ : ∃ r, v = V.ref r ∧ H18 r = some (.tup ((fo es (ns.length + 1) ns []).map V.int)) := by
            have := List.mem_of_getElem? hv
            simp only [List.mem_cons, List.not_mem_nil, or_false] at this
            rcases this with rfl | rfl | rfl
            · exact ⟨_, rfl, h1⟩
            · exact ⟨_, rfl, h2⟩
            · exact ⟨_, rfl, h3⟩
          exact ⟨_, rfl, _, rfl, t, .ref r, .ref du, _, _, rfl, dt r hr', dt du d17, _, rfl, iteNo nsame ⟨_, rfl, rfl⟩⟩
        · rintro σ H18 ⟨x13', rfl, rfl⟩
          have dl : ∀ r, r ≠ t → H18 r = some (.lst (ns.map V.int)) → Dn K t H18 2 (.ref r) (.list (ns.map PyData.int)) := fun r n h => Dn.lst n (SqL.of h) (ints_dn ns) (by rw [List.length_map]; omega)
          have de : ∀ (H : Hp) r vs, (∀ xs, H t ≠ some (.tup xs)) → r ≠ t → H r = some (.lst vs) → Paired (EdV H) vs es → Dn K t H 2 (.ref r) (.list (es.map edD)) := fun H r vs nt n h p => Dn.lst n (SqL.of h) (EdV.dns nt p) (by rw [pair_len p]; omega)
          obtain ⟨vE18, hE18, pE18⟩ := W17.he
          obtain ⟨vL18, hL18, pL18⟩ := W17.hl
          refine ⟨_, rfl, _, rfl, t, .ref g, .ref N, _, _, rfl, dl g ngt g17, dl N W17.nN W17.hn, _, rfl, iteNo nsame ?_⟩
          refine ⟨_, rfl, _, rfl, t, .ref L, .ref E, _, _, rfl, de _ L _ W17.dr.nt W17.nL hL18 pL18, de _ E _ W17.dr.nt W17.nE hE18 pE18, _, rfl, iteNo nsame ?_⟩
          refine ⟨_, rfl, tb, kvs, rfl, .inl t17, fun p bs np ik => ?_⟩
          have s19 := same_new (o := .lst (bs.map V.ref)) np
          have W19 := W17.same s19
          have npt : p ≠ t := W17.dr.na np
          have pk := keys_ed ik k11
          refine ⟨_, rfl, t, .ref p, .ref E, _, _, rfl, de _ p _ W19.dr.nt npt upd_same (edvs_same s19 pk), de _ E _ W19.dr.nt W19.nE (s19 _ _ hE18) (edvs_same s19 pE18), _, rfl, iteNo nsame ?_⟩
          have lE : vE18.length = es.length := pair_len pE18
          obtain ⟨vE, hE, pE, lE⟩ : ∃ vE, (upd H18 p (.lst (bs.map V.ref))) E = some (.lst vE) ∧ Paired (EdV (upd H18 p (.lst (bs.map V.ref)))) vE es ∧ vE.length = es.length := ⟨_, s19 _ _ hE18, edvs_same s19 pE18, lE⟩
          revert W19 hE pE
          generalize upd H18 p (.lst (bs.map V.ref)) = H19
          intro W19 hE pE
          clear dl de hE18 pE18 hL18 pL18 W17 pk
          refine ⟨_, rfl, _, _, rfl, rfl, by show (0 : Int) < 2; decide, rfl, _, rfl, iteD (fun c => ?_) (fun c => ?_)⟩
          · refine ⟨_, rfl, _, _, rfl, rfl, _, rfl, iteD (fun c2 => ?_) (fun c2 => ?_)⟩
            · -- one more edge
              refine ⟨_, rfl, _, rfl, _, rfl, _, rfl, d, t, _, rfl, W19.dr, by omega, fun r H20 r0 r1 D20 b20 => ?_⟩
              have W20 := W19.but b20 D20
              obtain ⟨v1, hv1, mv1⟩ := at_ok (xs := ns.map V.int) r0 (by rw [List.length_map]; omega)
              obtain ⟨x1, _, rfl⟩ := List.mem_map.mp mv1
              refine ⟨_, _, _, _, rfl, rfl, SqL.of W20.hn, hv1, ?_⟩
              refine ⟨_, rfl, _, rfl, _, _, rfl, rfl, .inl ⟨by decide, by omega⟩, _, _, rfl, rfl, _, rfl, _, rfl, _, rfl, d, t, _, rfl, D20, by omega, fun r' H21 r0' r1' D21 b21 => ?_⟩
              have W21 := W20.but b21 D21
              obtain ⟨v2, hv2, mv2⟩ := at_ok (xs := ns.map V.int) (i := (2 * ((ns.length : Nat) : Int) - 2 - r') % ((ns.length : Nat) : Int)) (Int.emod_nonneg _ (by omega)) (by rw [List.length_map]; exact Int.emod_lt_of_pos _ (by omega))
              obtain ⟨x2, _, rfl⟩ := List.mem_map.mp mv2
              refine ⟨_, _, rfl, rfl, .inl ⟨_, rfl, _, rfl, _, _, rfl, rfl, by omega, _, _, _, _, rfl, rfl, SqL.of W21.hn, hv2, ?_⟩⟩
              refine ⟨_, rfl, _, rfl, rfl, _, rfl, iteN (fun c3 => ?_) (fun c3 => ?_)⟩
              · refine ⟨_, rfl, _, rfl, by show 2 ≤ sizeLine; decide, fun u hu => ?_⟩
                have su := same_new (o := .tup [.int x1, .int x2]) hu
                have W22 := W21.same su
                refine ⟨_, rfl, (x1, x2), es, ⟨u, rfl, upd_same⟩, W22.edE, _, rfl, iteN (fun c4 => ?_) (fun c4 => ?_)⟩
                · revert W22
                  generalize upd H21 u (.tup [.int x1, .int x2]) = H22
                  intro W22
                  refine ⟨_, rfl, _, rfl, _, rfl, by show 2 ≤ sizeLine; decide, fun u2 hu2 => ⟨by show 1 ≤ sizeLine; decide, fun l2 hl2 => ?_⟩⟩
                  have s23 := same_new (o := .tup [.int x1, .int x2]) hu2
                  have s24 := same_new (o := .lst [.ref u2]) hl2
                  obtain ⟨vE', hE', pE'⟩ := (W22.same s23).same s24 |>.he
                  have lE' := pair_len pE'
                  refine ⟨E, l2, vE', [.ref u2], rfl, rfl, hE', upd_same, by rw [lE']; show _ + 1 ≤ _; omega, fun E2 hE2 => ?_⟩
                  have s25 := same_new (o := .lst (vE' ++ [.ref u2])) hE2
                  have W25 := ((W22.same s23).same s24).same s25
                  have nE2t : E2 ≠ t := ((W22.same s23).same s24).dr.na hE2
                  obtain ⟨vL, hL, pL⟩ := ((W22.same s23).same s24).hl
                  have nLE2 : L ≠ E2 := ne_of_none hL hE2
                  refine ⟨_, rfl, .inl ⟨rfl, _, SqL.of (s25 _ _ hL)⟩, _, rfl, _, rfl, by show 2 ≤ sizeLine; decide, fun u3 hu3 => ?_⟩
                  have s26 := same_new (o := .tup [.int x1, .int x2]) hu3
                  have t26 := s25.trans s26
                  refine ⟨_, _, _, rfl, rfl, t26 _ _ hL, by rw [pair_len pL]; omega, ?_⟩
                  refine ⟨E2, es ++ [(x1, x2)], _, _, _, _, _, _, _, _, _, _, rfl, (W25.same s26).add (s26 _ _ upd_same) (pair_append (edvs_same t26 pE') (.cons ⟨u2, rfl, t26 _ _ (s24 _ _ upd_same)⟩ .nil)) nE2t nLE2 (t26 _ _ hL) (edvs_same t26 pL) ⟨u3, rfl, upd_same⟩ c4, ?_⟩
                  rw [List.length_append]; show _ + 1 ≤ _; omega
                · exact ⟨E, es, _, _, _, _, _, _, _, _, _, _, rfl, W22, by omega⟩
              · exact ⟨E, es, _, _, _, _, _, _, _, _, _, _, rfl, W21, by omega⟩
            · skip
              refine ⟨_, rfl, E, _, rfl, .inl (SqL.of hE), _, _, rfl, rfl, _, rfl, iteD (fun c5 => ?_) (fun c5 => ?_)⟩
              · have hpos : 0 < vE.length := by omega
                refine ⟨_, rfl, _, rfl, _, rfl, _, rfl, E, _, rfl, .inl (SqL.of hE), d, t, _, rfl, W19.dr, by omega, fun r H20 r0 r1 D20 b20 => ?_⟩
                have W20 := W19.but b20 D20
                have hE20 := b20 _ _ W19.nE hE
                have pE20 := edvs_but b20 W19.dr.nt pE
                obtain ⟨j, rfl⟩ := Int.eq_ofNat_of_zero_le r0
                have hj : j < vE.length := by omega
                have gj : vE[j]? = some vE[j] := List.getElem?_eq_getElem hj
                obtain ⟨e, he, hve⟩ := pair_get pE20 gj
                revert gj hve
                generalize vE[j] = gv
                intro gj hve
                refine ⟨_, _, _, _, rfl, rfl, SqL.of hE20, atI_nat gj, ?_⟩
                obtain ⟨vL, hL, pL⟩ := W20.hl
                refine ⟨_, rfl, E, rfl, ⟨_, SqL.of hE20⟩, fun E2 hE2 => lc_list (K := K) (a := E) (xs := vE) (fun i H' => ∃ ws, Same H20 H' ∧ H' E2 = some (.lst ws) ∧ Paired (EdV H') ws ((es.take i).filter fun f => !decide (f = e)))
                  ⟨[], same_new hE2, upd_same, .nil⟩ (fun i H' _ ⟨_, s, _⟩ => SqL.of (s _ _ hE20)) ?_ ?_⟩
                · rintro i v H21 hv ⟨ws, s21, h21, p21⟩
                  obtain ⟨f, hf, hvf⟩ := pair_get pE20 hv
                  refine ⟨rfl, _, rfl, _, rfl, edD f, edD e, (EdV.same hvf s21).dp, (EdV.same hve s21).dp, edD_shaped _, edD_shaped _, ?_⟩
                  rw [edD_eqv]
                  refine ⟨_, rfl, iteN (fun c6 => ?_) (fun c6 => ?_)⟩
                  · have nt : ∀ xs, H21 E2 ≠ some (.tup xs) := fun xs z => by rw [h21] at z; cases z
                    refine ⟨_, rfl, ws, h21, ?_, ws ++ [v], same_mut s21 hE2, upd_same, ?_⟩
                    · rw [pair_len p21]
                      have := List.length_filter_le (fun f => !decide (f = e)) (es.take i)
                      rw [List.length_take] at this
                      omega
                    · rw [filter_take_succ _ hf, if_pos (by simp [c6])]
                      exact edvs_but But.upd nt (pair_append p21 (.cons (EdV.same hvf s21) .nil))
                  · refine ⟨ws, s21, h21, ?_⟩
                    rw [filter_take_succ _ hf, if_neg (by simp [c6]), List.append_nil]
                    exact p21
                · rintro H21 ⟨ws, s21, h21, p21⟩
                  rw [pair_len pE20, List.take_length] at p21
                  have W21 := W20.same s21
                  have nE2t : E2 ≠ t := D20.na hE2
                  have nLE2 : L ≠ E2 := ne_of_none hL hE2
                  refine ⟨_, rfl, .inl ⟨rfl, _, SqL.of (s21 _ _ hL)⟩, _, rfl, L, vL, es, e, j, rfl, s21 _ _ hL, edvs_same s21 pL, EdV.same hve s21, he, (filter_erase W20.nd he).2, ?_⟩
                  have lw := List.length_filter_le (fun f => !decide (f = e)) es
                  exact ⟨E2, _, _, _, _, _, _, _, _, _, _, _, rfl, W21.cut h21 p21 nE2t nLE2 (s21 _ _ hL) (edvs_same s21 pL) he, by omega⟩
              · exact ⟨E, es, _, _, _, _, _, _, _, _, _, _, rfl, W19, by omega⟩
          · skip
            refine ⟨_, rfl, E, _, rfl, .inl (SqL.of hE), _, _, rfl, rfl, _, rfl, iteD (fun c5 => ?_) (fun c5 => ?_)⟩
            · have hpos : 0 < vE.length := by omega
              refine ⟨_, rfl, _, rfl, _, rfl, _, rfl, E, _, rfl, .inl (SqL.of hE), d, t, _, rfl, W19.dr, by omega, fun r H20 r0 r1 D20 b20 => ?_⟩
              have W20 := W19.but b20 D20
              have hE20 := b20 _ _ W19.nE hE
              have pE20 := edvs_but b20 W19.dr.nt pE
              obtain ⟨j, rfl⟩ := Int.eq_ofNat_of_zero_le r0
              have hj : j < vE.length := by omega
              have gj : vE[j]? = some vE[j] := List.getElem?_eq_getElem hj
              obtain ⟨e, he, hve⟩ := pair_get pE20 gj
              revert gj hve
              generalize vE[j] = gv
              intro gj hve
              refine ⟨_, _, _, _, rfl, rfl, SqL.of hE20, atI_nat gj, ?_⟩
              obtain ⟨vL, hL, pL⟩ := W20.hl
              refine ⟨_, rfl, E, rfl, ⟨_, SqL.of hE20⟩, fun E2 hE2 => lc_list (K := K) (a := E) (xs := vE) (fun i H' => ∃ ws, Same H20 H' ∧ H' E2 = some (.lst ws) ∧ Paired (EdV H') ws ((es.take i).filter fun f => !decide (f = e)))
                ⟨[], same_new hE2, upd_same, .nil⟩ (fun i H' _ ⟨_, s, _⟩ => SqL.of (s _ _ hE20)) ?_ ?_⟩
              · rintro i v H21 hv ⟨ws, s21, h21, p21⟩
                obtain ⟨f, hf, hvf⟩ := pair_get pE20 hv
                refine ⟨rfl, _, rfl, _, rfl, edD f, edD e, (EdV.same hvf s21).dp, (EdV.same hve s21).dp, edD_shaped _, edD_shaped _, ?_⟩
                rw [edD_eqv]
                refine ⟨_, rfl, iteN (fun c6 => ?_) (fun c6 => ?_)⟩
                · have nt : ∀ xs, H21 E2 ≠ some (.tup xs) := fun xs z => by rw [h21] at z; cases z
                  refine ⟨_, rfl, ws, h21, ?_, ws ++ [v], same_mut s21 hE2, upd_same, ?_⟩
                  · rw [pair_len p21]
                    have := List.length_filter_le (fun f => !decide (f = e)) (es.take i)
                    rw [List.length_take] at this
                    omega
                  · rw [filter_take_succ _ hf, if_pos (by simp [c6])]
                    exact edvs_but But.upd nt (pair_append p21 (.cons (EdV.same hvf s21) .nil))
                · refine ⟨ws, s21, h21, ?_⟩
                  rw [filter_take_succ _ hf, if_neg (by simp [c6]), List.append_nil]
                  exact p21
              · rintro H21 ⟨ws, s21, h21, p21⟩
                rw [pair_len pE20, List.take_length] at p21
                have W21 := W20.same s21
                have nE2t : E2 ≠ t := D20.na hE2
                have nLE2 : L ≠ E2 := ne_of_none hL hE2
                refine ⟨_, rfl, .inl ⟨rfl, _, SqL.of (s21 _ _ hL)⟩, _, rfl, L, vL, es, e, j, rfl, s21 _ _ hL, edvs_same s21 pL, EdV.same hve s21, he, (filter_erase W20.nd he).2, ?_⟩
                have lw := List.length_filter_le (fun f => !decide (f = e)) es
                exact ⟨E2, _, _, _, _, _, _, _, _, _, _, _, rfl, W21.cut h21 p21 nE2t nLE2 (s21 _ _ hL) (edvs_same s21 pL) he, by omega⟩
            · exact ⟨E, es, _, _, _, _, _, _, _, _, _, _, rfl, W19, by omega⟩
    · rintro σ H7 ⟨E, es, x7, x8, x9, x10, x11, x12, x13, x14, x15, x16, rfl, W7, ln⟩
      exact q _
end
end My

namespace My
open PySem L2
theorem all_mk {l : PySem.W.OpenLaw} {w : World} {K : PySem.W.Frag} {h : Heap} {mg : Str → Option Value} {fa : Addr} (X : K.In h) (G : h.Ns mainGlobals mg) (hfa : mg "law" = some (.ref fa))
    {f_forward_order : Addr} {od_forward_order an_forward_order : Option Addr} {sl_forward_order : Array (Option Value)} {oc_forward_order kV_forward_order dc_forward_order pm_forward_order cd_forward_order ct_forward_order : Value}
    {f__law_draws : Addr} {od__law_draws an__law_draws : Option Addr} {sl__law_draws : Array (Option Value)} {oc__law_draws kV__law_draws dc__law_draws pm__law_draws cd__law_draws ct__law_draws : Value}
    {f__law_take : Addr} {od__law_take an__law_take : Option Addr} {sl__law_take : Array (Option Value)} {oc__law_take kV__law_take dc__law_take pm__law_take cd__law_take ct__law_take : Value}
    {f__law_same : Addr} {od__law_same an__law_same : Option Addr} {sl__law_same : Array (Option Value)} {oc__law_same kV__law_same dc__law_same pm__law_same cd__law_same ct__law_same : Value}
    {f__law_nodes : Addr} {od__law_nodes an__law_nodes : Option Addr} {sl__law_nodes : Array (Option Value)} {oc__law_nodes kV__law_nodes dc__law_nodes pm__law_nodes cd__law_nodes ct__law_nodes : Value}
    {f__law_order : Addr} {od__law_order an__law_order : Option Addr} {sl__law_order : Array (Option Value)} {oc__law_order kV__law_order dc__law_order pm__law_order cd__law_order ct__law_order : Value}
    {f__law_forward : Addr} {od__law_forward an__law_forward : Option Addr} {sl__law_forward : Array (Option Value)} {oc__law_forward kV__law_forward dc__law_forward pm__law_forward cd__law_forward ct__law_forward : Value}
    {f__law_due_order : Addr} {od__law_due_order an__law_due_order : Option Addr} {sl__law_due_order : Array (Option Value)} {oc__law_due_order kV__law_due_order dc__law_due_order pm__law_due_order cd__law_due_order ct__law_due_order : Value}
    {f_law : Addr} {od_law an_law : Option Addr} {sl_law : Array (Option Value)} {oc_law kV_law dc_law pm_law cd_law ct_law : Value}
    (a_forward_order : PySem.W.nsIn K mainGlobals "forward_order" = some (some (.ref f_forward_order)))
    (l_forward_order : K.lookup f_forward_order = some ⟨oc_forward_order, od_forward_order, .func (PySem.W.fnOf "forward_order" "forward_order" (defArgs S_forward_order) (defBody S_forward_order) (defScope S_forward_order) .none kV_forward_order dc_forward_order pm_forward_order an_forward_order cd_forward_order ct_forward_order), sl_forward_order⟩)
    (c_forward_order : PySem.W.codeIn K cd_forward_order "forward_order" = true)
    (k_forward_order : PySem.W.keepIn K (.ref f_forward_order) = true)
    (a__law_draws : PySem.W.nsIn K mainGlobals "_law_draws" = some (some (.ref f__law_draws)))
    (l__law_draws : K.lookup f__law_draws = some ⟨oc__law_draws, od__law_draws, .func (PySem.W.fnOf "_law_draws" "_law_draws" (defArgs S__law_draws) (defBody S__law_draws) (defScope S__law_draws) .none kV__law_draws dc__law_draws pm__law_draws an__law_draws cd__law_draws ct__law_draws), sl__law_draws⟩)
    (c__law_draws : PySem.W.codeIn K cd__law_draws "_law_draws" = true)
    (k__law_draws : PySem.W.keepIn K (.ref f__law_draws) = true)
    (a__law_take : PySem.W.nsIn K mainGlobals "_law_take" = some (some (.ref f__law_take)))
    (l__law_take : K.lookup f__law_take = some ⟨oc__law_take, od__law_take, .func (PySem.W.fnOf "_law_take" "_law_take" (defArgs S__law_take) (defBody S__law_take) (defScope S__law_take) .none kV__law_take dc__law_take pm__law_take an__law_take cd__law_take ct__law_take), sl__law_take⟩)
    (c__law_take : PySem.W.codeIn K cd__law_take "_law_take" = true)
    (k__law_take : PySem.W.keepIn K (.ref f__law_take) = true)
    (a__law_same : PySem.W.nsIn K mainGlobals "_law_same" = some (some (.ref f__law_same)))
    (l__law_same : K.lookup f__law_same = some ⟨oc__law_same, od__law_same, .func (PySem.W.fnOf "_law_same" "_law_same" (defArgs S__law_same) (defBody S__law_same) (defScope S__law_same) .none kV__law_same dc__law_same pm__law_same an__law_same cd__law_same ct__law_same), sl__law_same⟩)
    (c__law_same : PySem.W.codeIn K cd__law_same "_law_same" = true)
    (k__law_same : PySem.W.keepIn K (.ref f__law_same) = true)
    (a__law_nodes : PySem.W.nsIn K mainGlobals "_law_nodes" = some (some (.ref f__law_nodes)))
    (l__law_nodes : K.lookup f__law_nodes = some ⟨oc__law_nodes, od__law_nodes, .func (PySem.W.fnOf "_law_nodes" "_law_nodes" (defArgs S__law_nodes) (defBody S__law_nodes) (defScope S__law_nodes) .none kV__law_nodes dc__law_nodes pm__law_nodes an__law_nodes cd__law_nodes ct__law_nodes), sl__law_nodes⟩)
    (c__law_nodes : PySem.W.codeIn K cd__law_nodes "_law_nodes" = true)
    (k__law_nodes : PySem.W.keepIn K (.ref f__law_nodes) = true)
    (a__law_order : PySem.W.nsIn K mainGlobals "_law_order" = some (some (.ref f__law_order)))
    (l__law_order : K.lookup f__law_order = some ⟨oc__law_order, od__law_order, .func (PySem.W.fnOf "_law_order" "_law_order" (defArgs S__law_order) (defBody S__law_order) (defScope S__law_order) .none kV__law_order dc__law_order pm__law_order an__law_order cd__law_order ct__law_order), sl__law_order⟩)
    (c__law_order : PySem.W.codeIn K cd__law_order "_law_order" = true)
    (k__law_order : PySem.W.keepIn K (.ref f__law_order) = true)
    (a__law_forward : PySem.W.nsIn K mainGlobals "_law_forward" = some (some (.ref f__law_forward)))
    (l__law_forward : K.lookup f__law_forward = some ⟨oc__law_forward, od__law_forward, .func (PySem.W.fnOf "_law_forward" "_law_forward" (defArgs S__law_forward) (defBody S__law_forward) (defScope S__law_forward) .none kV__law_forward dc__law_forward pm__law_forward an__law_forward cd__law_forward ct__law_forward), sl__law_forward⟩)
    (c__law_forward : PySem.W.codeIn K cd__law_forward "_law_forward" = true)
    (k__law_forward : PySem.W.keepIn K (.ref f__law_forward) = true)
    (a__law_due_order : PySem.W.nsIn K mainGlobals "_law_due_order" = some (some (.ref f__law_due_order)))
    (l__law_due_order : K.lookup f__law_due_order = some ⟨oc__law_due_order, od__law_due_order, .func (PySem.W.fnOf "_law_due_order" "_law_due_order" (defArgs S__law_due_order) (defBody S__law_due_order) (defScope S__law_due_order) .none kV__law_due_order dc__law_due_order pm__law_due_order an__law_due_order cd__law_due_order ct__law_due_order), sl__law_due_order⟩)
    (c__law_due_order : PySem.W.codeIn K cd__law_due_order "_law_due_order" = true)
    (k__law_due_order : PySem.W.keepIn K (.ref f__law_due_order) = true)
    (a_law : PySem.W.nsIn K mainGlobals "law" = some (some (.ref f_law)))
    (l_law : K.lookup f_law = some ⟨oc_law, od_law, .func (PySem.W.fnOf "law" "law" (defArgs S_law) (defBody S_law) (defScope S_law) .none kV_law dc_law pm_law an_law cd_law ct_law), sl_law⟩)
    (c_law : PySem.W.codeIn K cd_law "law" = true)
    (k_law : PySem.W.keepIn K (.ref f_law) = true)
    (z_any : PySem.W.nsIn K mainGlobals "any" = some none)
    (z_bool : PySem.W.nsIn K mainGlobals "bool" = some none)
    (z_int : PySem.W.nsIn K mainGlobals "int" = some none)
    (z_isinstance : PySem.W.nsIn K mainGlobals "isinstance" = some none)
    (z_len : PySem.W.nsIn K mainGlobals "len" = some none)
    (z_list : PySem.W.nsIn K mainGlobals "list" = some none)
    (z_range : PySem.W.nsIn K mainGlobals "range" = some none)
    (z_str : PySem.W.nsIn K mainGlobals "str" = some none)
    (z_tuple : PySem.W.nsIn K mainGlobals "tuple" = some none)
    : ∃ fd : FuncData, (∀ (s : Shared) (v : Value), BindsTo s fd ⟨[v], []⟩ [("_law_script", v)]) ∧ ∀ base : Heap, K.In base → base.Ns mainGlobals mg → FnOk l.prog w K mg base CX0 12 fa fd ["_law_script"] (spLaw K) := by
  have e := hfa.symm.trans (PySem.W.mg_of X G a_law)
  cases e
  let T : Txt K mg := {
    a_forward_order := f_forward_order,
    fd_forward_order := _,
    F_forward_order := fun_mk (st := S_forward_order) l_forward_order c_forward_order k_forward_order,
    b_forward_order := (fun_mk (st := S_forward_order) l_forward_order c_forward_order k_forward_order).binds (ps := ["nodes", "edges"]) fun _ _ _ _ _ _ us hl => match us, hl with | [_, _], _ => rfl,
    g_forward_order := PySem.W.mg_of X G a_forward_order,
    a__law_draws := f__law_draws,
    fd__law_draws := _,
    F__law_draws := fun_mk (st := S__law_draws) l__law_draws c__law_draws k__law_draws,
    b__law_draws := (fun_mk (st := S__law_draws) l__law_draws c__law_draws k__law_draws).binds (ps := ["_law_script"]) fun _ _ _ _ _ _ us hl => match us, hl with | [_], _ => rfl,
    g__law_draws := PySem.W.mg_of X G a__law_draws,
    a__law_take := f__law_take,
    fd__law_take := _,
    F__law_take := fun_mk (st := S__law_take) l__law_take c__law_take k__law_take,
    b__law_take := (fun_mk (st := S__law_take) l__law_take c__law_take k__law_take).binds (ps := ["_law_draws_here", "_law_at", "_law_size"]) fun _ _ _ _ _ _ us hl => match us, hl with | [_, _, _], _ => rfl,
    g__law_take := PySem.W.mg_of X G a__law_take,
    a__law_same := f__law_same,
    fd__law_same := _,
    F__law_same := fun_mk (st := S__law_same) l__law_same c__law_same k__law_same,
    b__law_same := (fun_mk (st := S__law_same) l__law_same c__law_same k__law_same).binds (ps := ["_law_actual", "_law_expected"]) fun _ _ _ _ _ _ us hl => match us, hl with | [_, _], _ => rfl,
    g__law_same := PySem.W.mg_of X G a__law_same,
    a__law_nodes := f__law_nodes,
    fd__law_nodes := _,
    F__law_nodes := fun_mk (st := S__law_nodes) l__law_nodes c__law_nodes k__law_nodes,
    b__law_nodes := (fun_mk (st := S__law_nodes) l__law_nodes c__law_nodes k__law_nodes).binds (ps := ["_law_draws_here", "_law_at", "_law_count"]) fun _ _ _ _ _ _ us hl => match us, hl with | [_, _, _], _ => rfl,
    g__law_nodes := PySem.W.mg_of X G a__law_nodes,
    a__law_order := f__law_order,
    fd__law_order := _,
    F__law_order := fun_mk (st := S__law_order) l__law_order c__law_order k__law_order,
    b__law_order := (fun_mk (st := S__law_order) l__law_order c__law_order k__law_order).binds (ps := ["_law_draws_here", "_law_at", "_law_count"]) fun _ _ _ _ _ _ us hl => match us, hl with | [_, _, _], _ => rfl,
    g__law_order := PySem.W.mg_of X G a__law_order,
    a__law_forward := f__law_forward,
    fd__law_forward := _,
    F__law_forward := fun_mk (st := S__law_forward) l__law_forward c__law_forward k__law_forward,
    b__law_forward := (fun_mk (st := S__law_forward) l__law_forward c__law_forward k__law_forward).binds (ps := ["_law_draws_here", "_law_at", "_law_nodes_here"]) fun _ _ _ _ _ _ us hl => match us, hl with | [_, _, _], _ => rfl,
    g__law_forward := PySem.W.mg_of X G a__law_forward,
    a__law_due_order := f__law_due_order,
    fd__law_due_order := _,
    F__law_due_order := fun_mk (st := S__law_due_order) l__law_due_order c__law_due_order k__law_due_order,
    b__law_due_order := (fun_mk (st := S__law_due_order) l__law_due_order c__law_due_order k__law_due_order).binds (ps := ["_law_nodes_here", "_law_edges"]) fun _ _ _ _ _ _ us hl => match us, hl with | [_, _], _ => rfl,
    g__law_due_order := PySem.W.mg_of X G a__law_due_order,
    a_law := fa,
    fd_law := _,
    F_law := fun_mk (st := S_law) l_law c_law k_law,
    b_law := (fun_mk (st := S_law) l_law c_law k_law).binds (ps := ["_law_script"]) fun _ _ _ _ _ _ us hl => match us, hl with | [_], _ => rfl,
    g_law := PySem.W.mg_of X G a_law,
    n_any := PySem.W.mg_none_of X G z_any,
    n_bool := PySem.W.mg_none_of X G z_bool,
    n_int := PySem.W.mg_none_of X G z_int,
    n_isinstance := PySem.W.mg_none_of X G z_isinstance,
    n_len := PySem.W.mg_none_of X G z_len,
    n_list := PySem.W.mg_none_of X G z_list,
    n_range := PySem.W.mg_none_of X G z_range,
    n_str := PySem.W.mg_none_of X G z_str,
    n_tuple := PySem.W.mg_none_of X G z_tuple }
  exact ⟨T.fd_law, fun s v => .of_eq rfl, fun base _ _ => ok_law T⟩
end My
open PySem PySem.W PyProof.Rows in
set_option maxRecDepth 100000 in
set_option maxHeartbeats 0 in
theorem PySem.Challenge.cw_weblocks_k29_forward_order_holds : PySem.Challenge.rw_weblocks_k29_forward_order.Holds := by
  w_on; o_law; k_head; (case hw => w_witness2)
  k_fill
  refine L2.walk_of (l := PySem.Challenge.rw_weblocks_k29_forward_order) (n := 63) (k := 12) (x := "_law_script") (CX := fun _ => L2.CX0) (sp := fun w => My.spLaw _) rfl (by decide) rfl ⟨rfl, by decide, by decide⟩ (fun w h Y => PySem.W.kIn_of Y) ?F (fun _ _ a ns hl _ hS => ⟨a, ns, rfl, hS, hl, fun _ => rfl⟩) (fun _ _ _ _ _ h => h)
  case F =>
    intro w mg fa h KX G hmg
    refine' My.all_mk KX G hmg ?a_forward_order ?l_forward_order ?c_forward_order ?k_forward_order ?a__law_draws ?l__law_draws ?c__law_draws ?k__law_draws ?a__law_take ?l__law_take ?c__law_take ?k__law_take ?a__law_same ?l__law_same ?c__law_same ?k__law_same ?a__law_nodes ?l__law_nodes ?c__law_nodes ?k__law_nodes ?a__law_order ?l__law_order ?c__law_order ?k__law_order ?a__law_forward ?l__law_forward ?c__law_forward ?k__law_forward ?a__law_due_order ?l__law_due_order ?c__law_due_order ?k__law_due_order ?a_law ?l_law ?c_law ?k_law ?z_any ?z_bool ?z_int ?z_isinstance ?z_len ?z_list ?z_range ?z_str ?z_tuple
    (case a_forward_order => k_is)
    (case l_forward_order => k_is)
    (case c_forward_order => k_is)
    (case k_forward_order => k_is)
    (case a__law_draws => k_is)
    (case l__law_draws => k_is)
    (case c__law_draws => k_is)
    (case k__law_draws => k_is)
    (case a__law_take => k_is)
    (case l__law_take => k_is)
    (case c__law_take => k_is)
    (case k__law_take => k_is)
    (case a__law_same => k_is)
    (case l__law_same => k_is)
    (case c__law_same => k_is)
    (case k__law_same => k_is)
    (case a__law_nodes => k_is)
    (case l__law_nodes => k_is)
    (case c__law_nodes => k_is)
    (case k__law_nodes => k_is)
    (case a__law_order => k_is)
    (case l__law_order => k_is)
    (case c__law_order => k_is)
    (case k__law_order => k_is)
    (case a__law_forward => k_is)
    (case l__law_forward => k_is)
    (case c__law_forward => k_is)
    (case k__law_forward => k_is)
    (case a__law_due_order => k_is)
    (case l__law_due_order => k_is)
    (case c__law_due_order => k_is)
    (case k__law_due_order => k_is)
    (case a_law => k_is)
    (case l_law => k_is)
    (case c_law => k_is)
    (case k_law => k_is)
    (case z_any => k_is)
    (case z_bool => k_is)
    (case z_int => k_is)
    (case z_isinstance => k_is)
    (case z_len => k_is)
    (case z_list => k_is)
    (case z_range => k_is)
    (case z_str => k_is)
    (case z_tuple => k_is)
#print axioms PySem.Challenge.cw_weblocks_k29_forward_order_holds
