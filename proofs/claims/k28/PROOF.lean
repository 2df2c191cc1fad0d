import PyProof.Rows.All
import Wide.All
import OpenK.AllK
import Wide.FinOn
import HandS.ForMost
import KE.GoesMore
import HandS.Codes
import HandS.IsInst
import HandS.Defaults
import HandS.MakeKw
import HandS.MakeKwOnly
import HandS.Deep
import HandS.DictTup
import HandS.Remove
import HandS.Conv
import HandS.DeepEq
import KE.DataFind
import HandS.Rev
import HandS.ForDict
import HandS.WordsExc
import HandS.Style
import PySem.Challenge.RW_weblocks_k28_shortest_ring
set_option Elab.async false
set_option linter.all false
set_option maxRecDepth 100000
set_option maxHeartbeats 4000000
local macro_rules | `(tactic| walk_at "sd") => `(tactic| first | assumption | omega | decide | rfl | (refine And.intro ?_ ?_ <;> walk_at "sd") | (show _ < PySem.sizeLine; exact Nat.lt_of_le_of_lt (by omega : _ ≤ 100000) (by decide)) | (show _ ≤ PySem.sizeLine; exact Nat.le_trans (by omega : _ ≤ 100000) (by decide)))
local macro_rules | `(tactic| walk_at "hl") => `(tactic| first | assumption | exact L2.upd_same | (refine (L2.upd_ne ?_).trans ?_; (walk_at "ne"); (walk_at "hl")))
local macro_rules | `(tactic| walk_at "ne") => `(tactic| first | assumption | (apply Ne.symm; assumption) | (refine L2.ne_of_none ?_ (by assumption); walk_at "hl") | (apply Ne.symm; refine L2.ne_of_none ?_ (by assumption); walk_at "hl") | (refine L2.ne_of (o := L2.HO.lst _) (u := L2.HO.tup _) ?_ ?_ (by intro z; cases z) <;> walk_at "hl"))
local macro_rules | `(tactic| walk_at "sq") => `(tactic| first | assumption | exact .inl (.inl (by walk_at "hl")) | exact .inl (.inl (.inl (by walk_at "hl"))) | exact .inr (.inl (.inl (by walk_at "hl"))) | exact .inl (by assumption) | exact .inr (by assumption))
local macro_rules | `(tactic| walk_at "at") => `(tactic| first | assumption | exact rfl | exact L2.atI_nat (j := 0) rfl | exact L2.atI_nat (j := 1) rfl | exact L2.atI_nat (j := 2) rfl | exact L2.atI_nat (j := 3) rfl | exact L2.atI_nat rfl | exact L2.atI_nat (by assumption))
local macro_rules | `(tactic| walk_at "r1") => `(tactic| first
  | (refine ⟨_, rfl, ?_⟩)
  | (refine ⟨_, _, rfl, rfl, ?_⟩)
  | (refine ⟨_, _, _, _, rfl, rfl, (by walk_at "sq"), (by walk_at "at"), ?_⟩)
  | (refine ⟨_, _, rfl, (by walk_at "sq"), ?_⟩)
  | (refine ⟨.inl ⟨rfl, _, L2.SqL.of (by walk_at "hl")⟩, ?_⟩)
  | (refine ⟨_, _, _, rfl, rfl, (by walk_at "hl"), (by walk_at "sd"), ?_⟩)
  | (refine ⟨_, _, _, _, rfl, rfl, (by walk_at "hl"), rfl, ?_⟩)
  | (refine And.intro (by walk_at "sd") ?_)
  | (refine .inl ⟨_, rfl, ?_⟩))
local macro_rules | `(tactic| walk_at "rd") => `(tactic| repeat walk_at "r1")
/-! ### enumerate over a tuple -/
namespace PySem
open AutoSeq1 (wpAny_loadPart')
set_option maxHeartbeats 1000000 in
theorem meets_enumerate_newT (l : Addr) (items : Array Value) :
    Meets (Builtin.«enumerate.__new__» ⟨[.type "enumerate", .ref l], []⟩) (fun _ R s => s.heap.IsTuple l items ∧
      R (.ok (.ret (.ref (s.heap.push { cls := .type "tuple_iterator", data := .fields #[.ref l, .int 0 0] }).objs.size)))
        { s with heap := (s.heap.push { cls := .type "tuple_iterator", data := .fields #[.ref l, .int 0 0] }).push { cls := .type "enumerate", data := .fields #[.none, .bool false, .ref s.heap.objs.size, rawInt 0, .none, .none] } }) :=
  .of_wp fun prog w A R s h => by
    obtain ⟨hp, g, d, tk, os⟩ := s; obtain ⟨hL, h⟩ := h
    have hsub := sub_enumerate
    wp_walk using wpAny_pyIter_tuple hL
    refine wpAny_stack_any fun st => wpAny_pure ?_
    split
    · rename_i c _ _ _ _ _
      cases (c == Value.type "enumerate")
      · wp_walk using wpAny_pyIter_tuple hL
        exact ⟨_, rfl, h⟩
      · wp_walk using wpAny_pyIter_tuple hL
        exact ⟨_, rfl, h⟩
    · wp_walk using wpAny_pyIter_tuple hL
      exact ⟨_, rfl, h⟩
section
variable {prog : Program} {w : World} {A : Around} {E : Value → Shared → Prop} {s : Shared}
theorem call_enumerate_tup {l : Addr} {items : Array Value} {Q : Value → Shared → Prop} (hL : s.heap.IsTuple l items)
    (h : ∀ h', IsEnum h' (s.heap.objs.size + 1) s.heap.objs.size 0 .none → h'.IsTupleIter s.heap.objs.size l 0 → h'.objs.size = s.heap.objs.size + 2 →
      (∀ b o, s.heap.get? b = some o → h'.get? b = some o) → Q (.ref (s.heap.objs.size + 1)) { s with heap := h' }) :
    wpAny (model prog w) A (call (.type "enumerate") [.ref l]) Q E s := by
  refine callType_new F.called_enumerate (by decide) (F.typeCall_enumerate_1 _) (F.newCall_enumerate_1 _) (fun obj => F.args_object_init_2 obj _) F.entry_enumerate_new
    (meets_enumerate_newT l items) ⟨hL, ?_⟩
  have hz : (s.heap.push { cls := .type "tuple_iterator", data := .fields #[.ref l, .int 0 0] }).objs.size = s.heap.objs.size + 1 := Heap.size_push ..
  show _ ∧ _
  rw [hz]
  have he : IsEnum ((s.heap.push { cls := .type "tuple_iterator", data := .fields #[.ref l, .int 0 0] }).push
      { cls := .type "enumerate", data := .fields #[.none, .bool false, .ref s.heap.objs.size, rawInt 0, .none, .none] }) (s.heap.objs.size + 1) s.heap.objs.size 0 .none := by
    have := Heap.get?_push_size (s.heap.push { cls := .type "tuple_iterator", data := .fields #[.ref l, .int 0 0] })
      (o := { cls := .type "enumerate", data := .fields #[.none, .bool false, .ref s.heap.objs.size, rawInt 0, .none, .none] }) rfl
    rw [hz] at this; exact this
  refine ⟨⟨_, he, rfl⟩, h _ he ⟨_, Heap.get?_push_of_some _ (Heap.get?_push_size _ rfl), rfl, rfl⟩ (by rw [Heap.size_push, hz]) fun b o x => Heap.get?_push_of_some _ (Heap.get?_push_of_some _ x)⟩
/-- next of an enumerate whose tuple is at its end -/
theorem wpAny_pyNext_enum_endU {e it l : Addr} {i : Nat} {items : Array Value} {old : Value} {Q : Option Value → Shared → Prop} (hh : A.handled = none) (he : IsEnum s.heap e it i old)
    (hit : s.heap.IsTupleIter it l i) (hl : s.heap.IsTuple l items) (hx : items[i]? = none) (hQ : ∀ h', Heap.ExtBut it s.heap h' → Q none { s with heap := h' }) : wpAny (model prog w) A (pyNext (.ref e)) Q E s := by
  have hT : s.TypeIs (.ref e) "enumerate" := ⟨_, he, rfl⟩
  unfold pyNext
  refine wpAny_bind (wpAny_attempt (wpAny_callSpecial?_slot (name := Str.ofString "__next__") hT F.slot_enumerate_next (wpAny_call_entry F.slot_enumerate_next hT F.entry_enumerate_next ?_ (F.args_enumerate_next_1 _))))
  show wpAny _ _ (field (.ref e) 2 >>= _) _ _ _
  refine wpAny_bind (wpAny_field he rfl (x := .ref it) rfl (wpAny_bind (wpAny_nextOf_tuple_end hh hit hl hx fun h' x he' ⟨o, ho, hc⟩ => ?_)))
  exact wpAny_bind (wpAny_isInstance (T := "StopIteration") (b := true) ⟨o, ho, hc⟩ isSubtype_stop (wpAny_pure (hQ _ he')))
end
end PySem
namespace L2
open PySem PySem.Spec PyProof.Rows
/-- the tuple at a, each item in a new pair -/
def ItuE (K : PySem.W.Frag) (a : Addr) : It :=
  ⟨fun i H => ∃ (xs : List V) (x : V), SqT K H a xs ∧ xs[i]? = some x, fun i H v H' => ∃ T x, v = .ref T ∧ H T = none ∧ H' = upd H T (.tup [.int (i : Nat), x]) ∧ ∀ xs, SqT K H a xs → xs[i]? = some x, fun i H => ∃ xs : List V, SqT K H a xs ∧ xs.length ≤ i⟩
theorem turn_enumT {P : Program} {w : World} {K : PySem.W.Frag} {elts : List Expr} {kk : Nat} {tpos : Pos} (a e it : Addr) :
    Turn P w K (.Tuple elts kk tpos) (ItuE K a) [e, it] e (fun i h => (∃ old, IsEnum h e it ((i : Nat) : Int) old) ∧ h.IsTupleIter it a i ∧ e ≠ it ∧ a ≠ it ∧ a ≠ e) where
  mem := by simp
  obj := fun i h st b hb => by
    obtain ⟨⟨old, he⟩, ⟨o, ho, hc, hd⟩, _⟩ := st
    have e' : b = e ∨ b = it := by simpa using hb
    rcases e' with z | z
    · rw [z]; exact ⟨_, he, fun v q => nomatch q⟩
    · rw [z]; exact ⟨o, ho, fun v q => by rw [hd] at q; cases q⟩
  keep := fun i h h' st k => let ⟨⟨old, he⟩, hi, hne⟩ := st; ⟨⟨old, k e (by simp) _ he⟩, hi.at fun o q => k it (by simp) o q, hne⟩
  item := by
    intro X hP hw hK hc i pins s σ H E I hf st hg
    subst hP hw hK
    obtain ⟨⟨old, he⟩, hit, hne, hai, hae⟩ := st
    obtain ⟨xs, x, hq, hx⟩ := hg
    obtain ⟨its, rv, p, hz⟩ := I.tuple hq
    obtain ⟨u, hu, ru⟩ := rv.get hx
    have hel : e < s.heap.objs.size := Heap.lt_size he
    have hil : it < s.heap.objs.size := by obtain ⟨_, q, _⟩ := hit; exact Heap.lt_size q
    have hlen : i < its.toArray.size := by
      have := (List.getElem?_eq_some_iff.mp hu).1
      simpa using this
    have hT0 : s.heap.IsTuple a its.toArray := p
    refine wpAny_pyNext_enum_itemD (Draws.tuple (prog := X.prog) (w := X.w) (A := X.A.in1) (show X.A.in1.handled = none from I.ok.hd hc) it a hai its.toArray) he ⟨hit, hT0⟩ hlen hne (by simp [hne, Ne.symm hae]) fun y h' tk hy ho hst' hT hsz hk => ?_
    have ey : y = u := by
      have q : its[i]? = some y := by simpa using hy
      exact Option.some.inj (q.symm.trans hu)
    subst ey
    obtain ⟨hit', _⟩ := hst'
    refine ⟨_, rfl, wpAny_letOwnedTupleGo_enum (s := { s with heap := h', toks := tk + 1 }) ho fun h'' he' sb => ?_⟩
    have hT2 : h''.get? s.heap.objs.size = some { cls := .type "tuple", data := .seq #[.int i tk, y] } := (sb.2 _ (Nat.ne_of_gt hel)).trans hT
    have new : ObjOk X.prog X.w (upd H s.heap.objs.size (.tup [.int (i : Nat), x])) h'' s.heap.objs.size (.tup [.int (i : Nat), x]) :=
      ⟨by show 2 ≤ sizeLine; decide, [.int i tk, y], .cons ⟨_, rfl⟩ (.cons ru .nil), ⟨_, hT2, rfl, _, rfl⟩⟩
    have I1 : Inv X pins σ (upd H s.heap.objs.size (.tup [.int (i : Nat), x])) { s with heap := h'', toks := tk + 1 } :=
      I.turnedNew (ch := [e, it]) (fun b ob hb q => (sb.2 b (fun z => hb (by simp [z]))).trans (hk b ob (fun z => hb (by simp [z])) (fun z => hb (by simp [z])) q)) hf (Nat.le_refl _) new
    refine ⟨.ref s.heap.objs.size, _, I1, rfl, ⟨_, x, rfl, I.hok.fresh (Nat.le_refl _), rfl, fun ys hy => by rw [I.tuple_inj hy hq]; exact hx⟩, ⟨⟨y, ?_⟩, hit'.at fun o q => (sb.2 it (Ne.symm hne)).trans q, hne, hai, hae⟩, fun b hb => ?_⟩
    · have e1 : ((i + 1 : Nat) : Int) = (i : Int) + 1 := by omega
      rw [e1]; exact he'
    · have hb' : b < s.heap.objs.size := by
        have e' : b = e ∨ b = it := by simpa using hb
        rcases e' with z | z
        · rw [z]; exact hel
        · rw [z]; exact hil
      rw [upd_ne (Nat.ne_of_lt hb')]
      exact (hf b hb).1
  done := by
    intro X hP hw hK hc i pins s σ H E I hf st hg
    subst hP hw hK
    obtain ⟨⟨old, he⟩, hit, hne, hai, hae⟩ := st
    obtain ⟨xs, hq, hx⟩ := hg
    obtain ⟨its, rv, p, hz⟩ := I.tuple hq
    obtain ⟨f0, f1, f2, f3, f4, f5⟩ := hf it (by simp)
    have hl := rv.length
    have hT0 : s.heap.IsTuple a its.toArray := p
    exact wpAny_pyNext_enum_endU (I.ok.hd hc) he hit hT0 (by simp; omega) fun h' eb => ⟨rfl, I.turned (t' := s.toks) (fun b o hb q => eb b o hb q) f0 f1 f3 f4 f5⟩
  self := fun A i s Q E st h => let ⟨⟨_, he⟩, _⟩ := st; wpAny_pyIter_enum he h
def iEnumT (K : PySem.W.Frag) (ta : TA) : TI := fun σ H R => ta σ H fun vs H1 => ∃ a xs, vs = [.ref a] ∧ SqT K H1 a xs ∧ R (ItuE K a) H1
theorem pi_enumT {X : Cx} {e : Expr} {ta : TA} {p pos tpos : Pos} {elts : List Expr} {kk : Nat} (hg : Gl X "enumerate") (hm : X.mg "enumerate" = none) (ha : PA X [e] ta) (hs : starEach [e] X.env = [(false, eval e X.env)] := by rfl) :
    PI X (.Tuple elts kk tpos) (.Call (.Name "enumerate" p) [e] [] pos) (iEnumT X.K ta) := by
  refine ⟨fun pins s σ H R I h => ?_⟩
  refine Call_ (ld_blt I hg hm boot_enumerate (PyProof.Rows.callWith_type1 (thn (ha.run pos pins s σ H _ I h) fun us s1 ⟨vs, H1, I1, r1, q1⟩ => ?_) hs rfl))
  obtain ⟨a, xs, ex, hq, q⟩ := q1
  subst ex
  cases r1 with
  | cons r rr =>
    cases rr
    cases r
    obtain ⟨its, rv, p', hz⟩ := I1.tuple hq
    have hT0 : s1.heap.IsTuple a its.toArray := p'
    have hal : a < s1.heap.objs.size := by obtain ⟨_, q, _⟩ := hT0; exact Heap.lt_size q
    refine call_enumerate_tup hT0 fun h' he hit hsz hk => wpAny_pyIter_enum he ?_
    have I2 : Inv X pins σ H1 { s1 with heap := h' } := I1.kept (t' := s1.toks) hk
    refine ⟨s1.heap.objs.size + 1, [s1.heap.objs.size + 1, s1.heap.objs.size], _, _, H1, rfl, I2, turn_enumT a (s1.heap.objs.size + 1) s1.heap.objs.size, ⟨⟨.none, he⟩, hit, Nat.succ_ne_self _, Nat.ne_of_lt hal, Nat.ne_of_lt (Nat.lt_succ_of_lt hal)⟩, fun b hb => ?_, q⟩
    have e' : b = s1.heap.objs.size + 1 ∨ b = s1.heap.objs.size := by simpa using hb
    have hle : s1.heap.objs.size ≤ b := by
      rcases e' with z | z
      · rw [z]; exact Nat.le_add_right _ _
      · rw [z]; exact Nat.le_refl _
    exact I1.fpOk hle (I1.hok.fresh hle)
end L2
namespace L2
open PySem PySem.Spec PyProof.Rows
theorem for_enumT {K : PySem.W.Frag} {a : Addr} {xs : List V} {g : TG} {tb : TS} {D : Ends} {σ : St} {H : Hp} (Pv : Nat → St → Hp → Prop) (h0 : Pv 0 σ H) (hl : ∀ i σ H, i ≤ xs.length → Pv i σ H → SqT K H a xs)
    (hs : ∀ i x σ H T, xs[i]? = some x → Pv i σ H → H T = none → g (.ref T) σ (upd H T (.tup [.int (i : Nat), x])) fun σ2 H2 => tb { D with nx := Pv (i + 1), ct := Pv (i + 1), bk := D.nx } σ2 H2)
    (hd : ∀ σ H, Pv xs.length σ H → D.nx σ H) :
    ∃ W : Nat → Nat → St → Hp → Prop, (∃ m, W 0 m σ H) ∧ ∀ i m σ H, W i m σ H →
      ((ItuE K a).stop i H ∧ D.nx σ H) ∨ ((ItuE K a).go i H ∧ ∃ N : St → Hp → Prop, (∀ σ' H', N σ' H' → ∃ m', m' < m ∧ W (i + 1) m' σ' H') ∧ ∀ x H', (ItuE K a).yld i H x H' → g x σ H' fun σ2 H2 => tb { D with nx := N, ct := N, bk := D.nx } σ2 H2) := by
  refine ⟨fun i m σ H => m = xs.length - i ∧ i ≤ xs.length ∧ Pv i σ H, ⟨xs.length, by simp, Nat.zero_le _, h0⟩, fun i m σ H hW => ?_⟩
  obtain ⟨em, hi, p⟩ := hW
  have q := hl i σ H hi p
  by_cases hlt : i < xs.length
  · refine .inr ⟨⟨xs, xs[i], q, List.getElem?_eq_getElem hlt⟩, Pv (i + 1), fun σ' H' p' => ⟨xs.length - (i + 1), by omega, rfl, hlt, p'⟩, fun x H' y => ?_⟩
    obtain ⟨T, x', ev, nT, eH, hx⟩ := y
    subst ev eH
    exact hs i x' σ H T (hx xs q) p nT
  · have ei : i = xs.length := by omega
    subst ei
    exact .inl ⟨⟨xs, q, Nat.le_refl _⟩, hd σ H p⟩
end L2

namespace L2
open PySem PySem.Spec PyProof.Rows
/-! ### edges: pairs of ints, in a list, a tuple or as the keys of a dict -/
def edD (e : Int × Int) : PyData := .tuple [.int e.1, .int e.2]
theorem edD_lay (e : Int × Int) : (edD e).canLay0 = true := by simp [edD, PyData.canLay0, PyData.canLayAll0]
theorem edD_depth (e : Int × Int) : (edD e).depth = 1 := by simp [edD, PyData.depth, PyData.depthAll]
theorem edDs_lay : ∀ es : List (Int × Int), PyData.canLayAll0 (es.map edD) = true
  | [] => rfl
  | e :: r => by simp [PyData.canLayAll0, edD_lay, edDs_lay r]
theorem edDs_depth : ∀ es : List (Int × Int), PyData.depthAll (es.map edD) ≤ 1
  | [] => Nat.zero_le _
  | e :: r => by
    have := edDs_depth r
    simp only [List.map_cons, PyData.depthAll, edD_depth]
    omega
theorem edD_eqv (e f : Int × Int) : PyData.eqv (edD e) (edD f) = decide (e = f) := by
  obtain ⟨a, b⟩ := e
  obtain ⟨c, d⟩ := f
  simp only [edD, PyData.eqv, PyData.eqvAll]
  by_cases h1 : a = c <;> by_cases h2 : b = d <;> simp [h1, h2]
def EdV (H : Hp) (v : V) (e : Int × Int) : Prop := ∃ p, v = .ref p ∧ H p = some (.tup [.int e.1, .int e.2])
def keyE (e : Int × Int) : List Key := [.inl e.1, .inl e.2]
def Edg (K : PySem.W.Frag) (H : Hp) (y : V) (es : List (Int × Int)) : Prop :=
  (∃ a vs, y = .ref a ∧ (SqL K H a vs ∨ SqT K H a vs) ∧ Paired (EdV H) vs es) ∨ ∃ a kvs, y = .ref a ∧ H a = some (.dT kvs) ∧ kvs.map (·.1) = es.map keyE
def rInE (K : PySem.W.Frag) (neg : Bool) : R2 := fun x y H Q => ∃ (e : Int × Int) (es : List (Int × Int)), EdV H x e ∧ Edg K H y es ∧ Q (.bl (if neg then !decide (e ∈ es) else decide (e ∈ es))) H
theorem edD_shaped (e : Int × Int) : SeqAt.shaped (edD e) = true := by
  have h := edD_depth e
  show ((edD e).canLay0 && decide ((edD e).depth ≤ 64)) = true
  rw [Bool.and_eq_true]
  exact ⟨edD_lay e, decide_eq_true (by omega)⟩
theorem any_edD (e : Int × Int) : ∀ es : List (Int × Int), ((es.map edD).any fun z => PyData.eqv z (edD e)) = decide (e ∈ es)
  | [] => by simp
  | f :: r => by
    rw [List.map_cons, List.any_cons, any_edD e r, edD_eqv]
    by_cases h : f = e
    · subst h; simp
    · have h' : ¬ e = f := fun z => h z.symm
      simp [h, h']
theorem EdV.dp {K : PySem.W.Frag} {H : Hp} {v : V} {e : Int × Int} (h : EdV H v e) : Dp K H v (edD e) := by
  obtain ⟨p, rfl, hp⟩ := h
  exact .tup (.inl (.inl hp)) (.cons (.int _) (.cons (.int _) .nil))
theorem EdV.dps {K : PySem.W.Frag} {H : Hp} : ∀ {vs : List V} {es : List (Int × Int)}, Paired (EdV H) vs es → DpAll K H vs (es.map edD)
  | _, _, .nil => .nil
  | _, _, .cons a b => .cons a.dp (EdV.dps b)
theorem keyE_inj {e f : Int × Int} (h : keyE e = keyE f) : e = f := by
  unfold keyE at h
  simp only [List.cons.injEq, Sum.inl.injEq, and_true] at h
  exact Prod.ext h.1 h.2
theorem val_keyE {kvs : List (List Key × V)} {es : List (Int × Int)} (h : kvs.map (·.1) = es.map keyE) (e : Int × Int) : (valV kvs (keyE e)).isSome = decide (e ∈ es) := by
  unfold valV
  rw [Option.isSome_map, Bool.eq_iff_iff, List.find?_isSome, decide_eq_true_iff]
  constructor
  · rintro ⟨kv, hk, e1⟩
    have e1 : kv.1 = keyE e := of_decide_eq_true e1
    have m : kv.1 ∈ kvs.map (·.1) := List.mem_map_of_mem hk
    rw [h, e1] at m
    obtain ⟨f, hf, ef⟩ := List.mem_map.mp m
    rw [← keyE_inj ef]; exact hf
  · intro he
    have m : keyE e ∈ kvs.map (·.1) := by rw [h]; exact List.mem_map_of_mem he
    obtain ⟨kv, hk, ek⟩ := List.mem_map.mp m
    exact ⟨kv, hk, decide_eq_true ek⟩
theorem room_ed {X : Cx} (hu : X.A.units + 65 < cLine) (e : Int × Int) (es : List (Int × Int)) : X.A.units + 1 + min (PyData.depthAll (es.map edD)) (edD e).depth < cLine := by
  rw [edD_depth]; have := Nat.min_le_right (PyData.depthAll (es.map edD)) 1; omega
theorem op_inE {X : Cx} (hu : X.A.units + 65 < cLine) : OpR X (compareOp .In) (rInE X.K false) := by
  intro pins s σ H x y v u Q I rx ry h
  obtain ⟨e, es, he, hy, q⟩ := h
  have q : Q (.bl (decide (e ∈ es))) H := q
  rcases hy with ⟨a, vs, rfl, sq, pr⟩ | ⟨a, kvs, rfl, ha, hk⟩
  · obtain ⟨as, r1⟩ := Dp.reads I (edD e) x v he.dp rx
    rw [← any_edD] at q
    rcases sq with sq | sq
    · obtain ⟨bs, r2⟩ := Dp.reads I (.list (es.map edD)) (.ref a) u (.lst sq (EdV.dps pr)) ry
      exact SeqAt.in_list_reads r2 r1 (edDs_lay es) (edD_lay e) (room_ed hu e es) ⟨.bl _, H, I, rfl, q⟩
    · obtain ⟨bs, r2⟩ := Dp.reads I (.tuple (es.map edD)) (.ref a) u (.tup sq (EdV.dps pr)) ry
      exact SeqAt.in_tuple_reads r2 r1 (edDs_lay es) (edD_lay e) (room_ed hu e es) ⟨.bl _, H, I, rfl, q⟩
  · obtain ⟨p, rfl, hp⟩ := he
    obtain rfl : u = Value.ref a := ry
    rw [← val_keyE hk] at q
    exact d_in (by omega) I (.inr ⟨kvs, keyE e, p, .inl ha, rfl, hp, rfl⟩) rx fun s3 I3 => ⟨.bl _, H, I3, rfl, q⟩
theorem op_ninE {X : Cx} (hu : X.A.units + 65 < cLine) : OpR X (compareOp .NotIn) (rInE X.K true) := by
  intro pins s σ H x y v u Q I rx ry h
  obtain ⟨e, es, he, hy, q⟩ := h
  have q : Q (.bl (!decide (e ∈ es))) H := q
  rcases hy with ⟨a, vs, rfl, sq, pr⟩ | ⟨a, kvs, rfl, ha, hk⟩
  · obtain ⟨as, r1⟩ := Dp.reads I (edD e) x v he.dp rx
    rw [← any_edD] at q
    rcases sq with sq | sq
    · obtain ⟨bs, r2⟩ := Dp.reads I (.list (es.map edD)) (.ref a) u (.lst sq (EdV.dps pr)) ry
      exact SeqAt.notIn_list_reads r2 r1 (edDs_lay es) (edD_lay e) (room_ed hu e es) ⟨.bl _, H, I, rfl, q⟩
    · obtain ⟨bs, r2⟩ := Dp.reads I (.tuple (es.map edD)) (.ref a) u (.tup sq (EdV.dps pr)) ry
      exact SeqAt.notIn_tuple_reads r2 r1 (edDs_lay es) (edD_lay e) (room_ed hu e es) ⟨.bl _, H, I, rfl, q⟩
  · obtain ⟨p, rfl, hp⟩ := he
    obtain rfl : u = Value.ref a := ry
    rw [← val_keyE hk] at q
    exact d_notIn (by omega) I (.inr ⟨kvs, keyE e, p, .inl ha, rfl, hp, rfl⟩) rx fun s3 I3 => ⟨.bl _, H, I3, rfl, q⟩
end L2
namespace L2
open PySem
theorem hu65 {k : Nat} {A : Around} (r : Room k A) : A.units + 65 < cLine := by have := r.un; omega
theorem inEK {X : Cx} {K : PySem.W.Frag} (h : X.K = K) (hu : X.A.units + 65 < cLine) : OpR X (compareOp .In) (rInE K false) := h ▸ op_inE hu
theorem ninEK {X : Cx} {K : PySem.W.Frag} (h : X.K = K) (hu : X.A.units + 65 < cLine) : OpR X (compareOp .NotIn) (rInE K true) := h ▸ op_ninE hu
theorem anyK {X : Cx} {K : PySem.W.Frag} (h : X.K = K) (hc : X.calm = true) : CallR X (.builtin "any") (rAny K) := h ▸ cr_any hc
theorem pi_listK {X : Cx} {K : PySem.W.Frag} {tg l : Expr} {tl : TE} (h : X.K = K) (hl : PE X l tl) : PI X tg l (iList K tl) := h ▸ pi_list hl
end L2
namespace L2
open PySem
theorem lenK {X : Cx} {K : PySem.W.Frag} (h : X.K = K) : CallR X (.builtin "len") (fun xs H Q => ∃ p ys, xs = [V.ref p] ∧ (SqL K H p ys ∨ SqT K H p ys) ∧ Q (.int ((ys.length : Nat) : Int)) H) := h ▸ call_len_seq
end L2

namespace L2
open PySem PySem.Spec PyProof.Rows
theorem eqDK {X : Cx} {K : PySem.W.Frag} (h : X.K = K) (hu : X.A.units + 64 < cLine) : OpR X (compareOp .Eq) (rEqD K) := h ▸ op_eqD hu
theorem neDK {X : Cx} {K : PySem.W.Frag} (h : X.K = K) (hu : X.A.units + 64 < cLine) : OpR X (compareOp .NotEq) (rNeD K) := h ▸ op_neD hu
theorem edDs_plain (es : List (Int × Int)) : PyData.plainAll (es.map edD) = true := by
  induction es with
  | nil => rfl
  | cons e r ih =>
    show (PyData.plain (edD e) && PyData.plainAll (r.map edD)) = true
    rw [ih, Bool.and_true]; rfl
theorem place_ed {e : Int × Int} : ∀ {es : List (Int × Int)} {j : Nat}, es[j]? = some e → (∀ m, m < j → es[m]? ≠ some e) → SeqAt.dataPlace (es.map edD) (edD e) = some j
  | [], j, h, _ => by simp at h
  | f :: r, 0, h, _ => by
    have h : f = e := Option.some.inj h
    unfold SeqAt.dataPlace
    rw [List.map_cons, List.findIdx?_cons, edD_eqv, h]
    simp
  | f :: r, j + 1, h, hn => by
    have hne : f ≠ e := fun z => hn 0 (Nat.succ_pos _) (by rw [z]; rfl)
    have ih := place_ed (es := r) (j := j) h (fun m hm => hn (m + 1) (Nat.succ_lt_succ hm))
    unfold SeqAt.dataPlace at ih ⊢
    rw [List.map_cons, List.findIdx?_cons, edD_eqv, ih]
    simp [hne]
/-- o.remove(e): lists of pairs, the pair being there -/
def tRemE (K : PySem.W.Frag) (to te : TE) : TE := fun σ H Q => to σ H fun x H1 => tyV K "list" x H1 ∧ te σ H1 fun y H2 => ∃ (l : Addr) (vs : List V) (es : List (Int × Int)) (e : Int × Int) (j : Nat), x = .ref l ∧ H2 l = some (.lst vs) ∧ Paired (EdV H2) vs es ∧ EdV H2 y e ∧
  es[j]? = some e ∧ (∀ m, m < j → es[m]? ≠ some e) ∧ Q .non (upd H2 l (.lst (vs.eraseIdx j)))
section
variable {X : Cx} {o e : Expr} {to te : TE} {apos cpos : Pos}
theorem pe_remE (hu : X.A.units + 65 < cLine) (ho : PE X o to) (he : PE X e te) (hbase : attributeBase o "remove" X.env (eval o X.env) = eval o X.env := by rfl)
    (hfew : ((backTo cpos (starEach [e] X.env)).all (fun x => !x.1) && (backToKw cpos (keywordEach [] X.env)).all (fun x => x.1.isSome)
      && decide (([e] : List Expr).length + ([] : List Keyword).length + (if ([] : List Keyword).isEmpty then 0 else 1) < 30)) = true := by rfl)
    (hline : (apos.endLine == cpos.line) = true := by rfl) (hs : starEach [e] X.env = (false, eval e X.env) :: starEach [] X.env := by rfl) (hplain : (backTo cpos (starEach [] X.env)).any (·.1) = false := by rfl) :
    PE X (.Call (.Attribute o "remove" apos) [e] [] cpos) (tRemE X.K to te) := by
  refine ⟨fun pins s σ H Q I h => ?_⟩
  refine wpAny_Call_method_late hbase hfew hline rfl (thn (ho.run pins s σ H _ I h) fun v s1 ⟨x, H1, I1, r1, ty, q1⟩ => ?_)
  obtain ⟨h1, h2⟩ := tyV_is I1 r1 ty
  refine ⟨"list", _, PySem.F.plainAttrs_list, PySem.F.slot_list_remove, PySem.F.type_list_remove, h1, h2, ?_⟩
  rw [hs]
  refine Calls.callWith_builtin (by show (false || (backTo cpos (starEach [] X.env)).any (·.1)) = false; rw [hplain] <;> rfl) (Calls.evalArgs_plain ?_)
  show wpAny _ _ (spliced ((false, eval e X.env) :: backTo cpos (starEach [] X.env))) _ _ s1
  refine Calls.spliced_cons (thn (he.run pins s1 σ H1 _ I1 q1) fun u s2 ⟨y, H2, I2, ry, q2⟩ => ?_)
  refine Calls.spliced_nil ?_
  obtain ⟨l, vs, es, p, j, ex, hH, pr, hy, hj, hn, q⟩ := q2
  subst ex
  cases (show v = Value.ref l from r1)
  obtain ⟨z, its, n, r, hl, e0⟩ := I2.lstM hH
  obtain ⟨as, rs⟩ := Dp.readsAll I2 (es.map edD) vs its (EdV.dps pr) r
  obtain ⟨bs, rx⟩ := Dp.reads I2 (edD p) y u hy.dp ry
  have hsz : its.toArray.size ≤ sizeLine := by rw [List.size_toArray, ← hl]; exact z
  refine SeqAt.remove_list_data (vs := its.toArray) (j := j) ⟨_, e0, rfl, _, rfl⟩ rs rx (edDs_plain es) rfl (room_ed hu p es) (place_ed hj hn) hsz ?_
  refine ⟨.non, _, I2.lset (its' := its.eraseIdx j) hH e0 ?_ (r.eraseIdx j) ?_, rfl, q⟩
  · show its.toArray.eraseIdxIfInBounds j = (its.eraseIdx j).toArray
    rw [List.eraseIdxIfInBounds_toArray]
  · have := List.length_eraseIdx_le vs j
    omega
end
end L2

namespace L2
open PySem PySem.Spec PyProof.Rows
/-! ### for x in s, s a list or a tuple -/
def iSq (K : PySem.W.Frag) (tl : TE) : TI := fun σ H R => tl σ H fun x H1 => ∃ a, x = .ref a ∧ (((∃ xs, SqL K H1 a xs) ∧ R (Itl K a) H1) ∨ ((∃ xs, SqT K H1 a xs) ∧ R (Itt K a) H1))
theorem pi_sq {X : Cx} {tg l : Expr} {tl : TE} (hl : PE X l tl) : PI X tg l (iSq X.K tl) := by
  refine ⟨fun pins s σ H R I h => ?_⟩
  refine thn (hl.run pins s σ H _ I h) fun v s1 ⟨x, H1, I1, r1, q1⟩ => ?_
  obtain ⟨a, e, q1⟩ := q1
  subst e
  cases r1
  rcases q1 with ⟨⟨xs, hq⟩, q⟩ | ⟨⟨xs, hq⟩, q⟩
  · obtain ⟨its, rv, p, hz⟩ := I1.list hq
    refine wpAny_pyIter_list p.isList ?_
    refine ⟨s1.heap.objs.size, [s1.heap.objs.size], _, _, H1, rfl, I1.kept (t' := s1.toks) fun b o e => Heap.get?_push_of_some _ e, turn_list a _, ⟨_, Heap.get?_push_size _ rfl, rfl, rfl⟩, fun b hb => ?_, q⟩
    have e : b = s1.heap.objs.size := by simpa using hb
    subst e
    exact I1.fpOk (Nat.le_refl _) (I1.hok.fresh (Nat.le_refl _))
  · obtain ⟨its, rv, p, hz⟩ := I1.tuple hq
    refine wpAny_pyIter_tuple (show s1.heap.IsTuple a its.toArray from p) ?_
    refine ⟨s1.heap.objs.size, [s1.heap.objs.size], _, _, H1, rfl, I1.kept (t' := s1.toks) fun b o e => Heap.get?_push_of_some _ e, turn_tuple a _, ⟨_, Heap.get?_push_size _ rfl, rfl, rfl⟩, fun b hb => ?_, q⟩
    have e : b = s1.heap.objs.size := by simpa using hb
    subst e
    exact I1.fpOk (Nat.le_refl _) (I1.hok.fresh (Nat.le_refl _))
theorem pi_sqK {X : Cx} {K : PySem.W.Frag} {tg l : Expr} {tl : TE} (h : X.K = K) (hl : PE X l tl) : PI X tg l (iSq K tl) := h ▸ pi_sq hl
theorem minK {X : Cx} {K : PySem.W.Frag} (h : X.K = K) (hc : X.calm = true) : CallR X (.builtin "min") (rMin K) := h ▸ cr_min hc
/-- the walk of a list or a tuple, one proof for both -/
def SqS (K : PySem.W.Frag) (H : Hp) (a : Addr) (xs : List V) : Prop := SqL K H a xs ∨ SqT K H a xs
theorem for_sq {K : PySem.W.Frag} {a : Addr} {xs : List V} {g : TG} {tb : TS} {D : Ends} {σ : L2.St} {H0 H : Hp} (hS : SqS K H0 a xs) (Pv : Nat → L2.St → Hp → Prop) (h0 : Pv 0 σ H)
    (hl : ∀ i σ H', i ≤ xs.length → Pv i σ H' → (SqL K H0 a xs → SqL K H' a xs) ∧ (SqT K H0 a xs → SqT K H' a xs))
    (hs : ∀ i x σ H, xs[i]? = some x → Pv i σ H → g x σ H fun σ2 H2 => tb { D with nx := Pv (i + 1), ct := Pv (i + 1), bk := D.nx } σ2 H2) (hd : ∀ σ H, Pv xs.length σ H → D.nx σ H) :
    ((∃ ys, SqL K H a ys) ∧ ∃ W : Nat → Nat → L2.St → Hp → Prop, (∃ m, W 0 m σ H) ∧ ∀ i m σ H, W i m σ H →
      ((Itl K a).stop i H ∧ D.nx σ H) ∨ ((Itl K a).go i H ∧ ∃ N : L2.St → Hp → Prop, (∀ σ' H', N σ' H' → ∃ m', m' < m ∧ W (i + 1) m' σ' H') ∧ ∀ x H', (Itl K a).yld i H x H' → g x σ H' fun σ2 H2 => tb { D with nx := N, ct := N, bk := D.nx } σ2 H2)) ∨
    ((∃ ys, SqT K H a ys) ∧ ∃ W : Nat → Nat → L2.St → Hp → Prop, (∃ m, W 0 m σ H) ∧ ∀ i m σ H, W i m σ H →
      ((Itt K a).stop i H ∧ D.nx σ H) ∨ ((Itt K a).go i H ∧ ∃ N : L2.St → Hp → Prop, (∀ σ' H', N σ' H' → ∃ m', m' < m ∧ W (i + 1) m' σ' H') ∧ ∀ x H', (Itt K a).yld i H x H' → g x σ H' fun σ2 H2 => tb { D with nx := N, ct := N, bk := D.nx } σ2 H2)) := by
  rcases hS with hS | hS
  · exact .inl ⟨⟨_, (hl 0 σ H (Nat.zero_le _) h0).1 hS⟩, for_list Pv h0 (fun i σ H' hi p => (hl i σ H' hi p).1 hS) hs hd⟩
  · exact .inr ⟨⟨_, (hl 0 σ H (Nat.zero_le _) h0).2 hS⟩, for_tup Pv h0 (fun i σ H' hi p => (hl i σ H' hi p).2 hS) hs hd⟩
theorem lc_sq {K : PySem.W.Frag} {a : Addr} {xs : List V} {g : TG} {tt : TT} {te : TE} {vs : List Nat} {σ : L2.St} {H0 H1 : Hp} {Q : Addr → Hp → Prop} (hS : SqS K H0 a xs) (h1 : (SqL K H0 a xs → SqL K H1 a xs) ∧ (SqT K H0 a xs → SqT K H1 a xs)) (Pv : Addr → Nat → Hp → Prop) (h0 : ∀ D, H1 D = none → Pv D 0 (upd H1 D (.lst [])))
    (hl : ∀ D i H', H1 D = none → i ≤ xs.length → Pv D i H' → (SqL K H0 a xs → SqL K H' a xs) ∧ (SqT K H0 a xs → SqT K H' a xs))
    (hs : ∀ D, H1 D = none → ∀ i x H, xs[i]? = some x → Pv D i H → g x (wipe σ vs) H fun σ2 H2 => wipe σ2 vs = wipe σ vs ∧ tt σ2 H2 fun b H3 =>
      if b = true then te σ2 H3 fun y H4 => ∃ acc, H4 D = some (.lst acc) ∧ acc.length < sizeLine ∧ Pv D (i + 1) (upd H4 D (.lst (acc ++ [y]))) else Pv D (i + 1) H3) (hd : ∀ D, H1 D = none → ∀ H, Pv D xs.length H → Q D H) :
    ((∃ ys, SqL K H1 a ys) ∧ ∀ D, H1 D = none → ∃ W : Nat → Nat → Hp → Prop, (∃ m, W 0 m (upd H1 D (.lst []))) ∧ ∀ i m H, W i m H →
      ((Itl K a).stop i H ∧ Q D H) ∨ ((Itl K a).go i H ∧ ∃ Nx : Hp → Prop, (∀ H', Nx H' → ∃ m', m' < m ∧ W (i + 1) m' H') ∧ ∀ x H', (Itl K a).yld i H x H' → g x (wipe σ vs) H' fun σ2 H2 => wipe σ2 vs = wipe σ vs ∧ tt σ2 H2 fun b H3 =>
        if b = true then te σ2 H3 fun y H4 => ∃ acc, H4 D = some (.lst acc) ∧ acc.length < sizeLine ∧ Nx (upd H4 D (.lst (acc ++ [y]))) else Nx H3)) ∨
    ((∃ ys, SqT K H1 a ys) ∧ ∀ D, H1 D = none → ∃ W : Nat → Nat → Hp → Prop, (∃ m, W 0 m (upd H1 D (.lst []))) ∧ ∀ i m H, W i m H →
      ((Itt K a).stop i H ∧ Q D H) ∨ ((Itt K a).go i H ∧ ∃ Nx : Hp → Prop, (∀ H', Nx H' → ∃ m', m' < m ∧ W (i + 1) m' H') ∧ ∀ x H', (Itt K a).yld i H x H' → g x (wipe σ vs) H' fun σ2 H2 => wipe σ2 vs = wipe σ vs ∧ tt σ2 H2 fun b H3 =>
        if b = true then te σ2 H3 fun y H4 => ∃ acc, H4 D = some (.lst acc) ∧ acc.length < sizeLine ∧ Nx (upd H4 D (.lst (acc ++ [y]))) else Nx H3)) := by
  rcases hS with hS | hS
  · exact .inl ⟨⟨_, h1.1 hS⟩, fun D hD => lc_list (K := K) (a := a) (Pv D) (h0 D hD) (fun i H' hi p => (hl D i H' hD hi p).1 hS) (fun i x H => hs D hD i x H) (hd D hD)⟩
  · exact .inr ⟨⟨_, h1.2 hS⟩, fun D hD => lc_tup (K := K) (a := a) (Pv D) (h0 D hD) (fun i H' hi p => (hl D i H' hD hi p).2 hS) (fun i x H => hs D hD i x H) (hd D hD)⟩
end L2

namespace L2
open PySem PySem.Spec PyProof.Rows
section
variable {X : Cx} {a b c d : Expr} {ta tb tc td : TE} {pos : Pos}
/-- a op b op' c op'' d -/
def tChain3 (r r' r'' : R2) (ta tb tc td : TE) : TE := fun σ H Q => ta σ H fun x H1 => tb σ H1 fun y H2 => r x y H2 fun z H3 => ∃ k, z = .bl k ∧
  (if k = true then tc σ H3 fun v H4 => r' y v H4 fun z' H5 => ∃ k', z' = .bl k' ∧ (if k' = true then td σ H5 fun u H6 => r'' v u H6 Q else Q (.bl false) H5) else Q (.bl false) H3)
theorem pe_chain3 {op op' op'' : CmpOp} {r r' r'' : R2} (ho : OpR X (compareOp op) r) (ho' : OpR X (compareOp op') r') (ho'' : OpR X (compareOp op'') r'') (ha : PE X a ta) (hb : PE X b tb) (hc : PE X c tc) (hd : PE X d td)
    (hm : lastMarks [op, op', op''] [b, c, d] = false := by with_unfolding_all rfl) : PE X (.Compare a [op, op', op''] [b, c, d] pos) (tChain3 r r' r'' ta tb tc td) := by
  refine ⟨fun pins s σ H Q I h => ?_⟩
  refine Compare_chain (thn (ha.run pins s σ H _ I h) fun v s1 ⟨x, H1, I1, r1, q1⟩ => chain_link (thn (hb.run pins s1 σ H1 _ I1 q1) fun u s2 ⟨y, H2, I2, r2, q2⟩ =>
    thn (ho pins s2 σ H2 x y v u _ I2 r1 r2 q2) fun d s3 ⟨z, H3, I3, r3, k, e, q3⟩ => ?_)) hm
  subst e
  cases r3
  refine wpAny_truthy_bool ?_
  cases k with
  | false => exact ite_ff ⟨.bl false, H3, I3, rfl, q3⟩
  | true =>
    refine ite_tt (chain_link (thn (hc.run pins s3 σ H3 _ I3 q3) fun w' s4 ⟨z', H4, I4, r4, q4⟩ => thn (ho' pins s4 σ H4 y z' u w' _ I4 r2 r4 q4) fun d5 s5 ⟨z5, H5, I5, r5, k', e5, q5⟩ => ?_))
    subst e5
    cases r5
    refine wpAny_truthy_bool ?_
    cases k' with
    | false => exact ite_ff ⟨.bl false, H5, I5, rfl, q5⟩
    | true => exact ite_tt (chain_last (thn (hd.run pins s5 σ H5 _ I5 q5) fun w6 s6 ⟨z6, H6, I6, r6, q6⟩ => ho'' pins s6 σ H6 z' z6 w' w6 Q I6 r4 r6 q6))
end
end L2
namespace L2
open PySem PySem.Spec PyProof.Rows
def rInKd (neg : Bool) : R2 := fun x y H Q => ∃ a o, y = .ref a ∧ DGet H a x o ∧ Q (.bl (if neg then !o.isSome else o.isSome)) H
theorem op_inKd {X : Cx} (hu : X.A.units + 1 < cLine) : OpR X (compareOp .In) (rInKd false) := by
  intro pins s σ H x y v u Q I rx ry h
  obtain ⟨a, o, rfl, g, q⟩ := h
  cases ry
  exact d_in hu I g rx fun s3 I3 => ⟨.bl o.isSome, H, I3, rfl, q⟩
theorem op_ninKd {X : Cx} (hu : X.A.units + 1 < cLine) : OpR X (compareOp .NotIn) (rInKd true) := by
  intro pins s σ H x y v u Q I rx ry h
  obtain ⟨a, o, rfl, g, q⟩ := h
  cases ry
  exact d_notIn hu I g rx fun s3 I3 => ⟨.bl (!o.isSome), H, I3, rfl, q⟩
end L2

namespace My
open PySem L2
abbrev PP : Program := PySem.Challenge.pw_weblocks_k28_shortest_ring
def topS (i : Nat) : Stmt := PySem.Challenge.pw_weblocks_k28_shortest_ring.main.body.getD i (.Pass ⟨0, 0, 0, 0⟩)
abbrev S_distances : Stmt := topS 1
abbrev S_ring_from : Stmt := topS 2
abbrev S_shortest_ring : Stmt := topS 3
abbrev S__law_draws : Stmt := topS 5
abbrev S__law_take : Stmt := topS 6
abbrev S__law_same : Stmt := topS 7
abbrev S__law_nodes : Stmt := topS 8
abbrev S__law_order : Stmt := topS 9
abbrev S__law_graph : Stmt := topS 10
abbrev S__law_longer : Stmt := topS 11
abbrev S__law_least_ring : Stmt := topS 12
abbrev S_law : Stmt := topS 13
theorem sc_distances : FnScope ["goal", "nodes", "edges", "found", "layer", "steps", "further", "node", "other"] ["goal", "nodes", "edges"] (defScope S_distances) := ⟨rfl, rfl, rfl, by decide +kernel, rfl, by decide +kernel, by decide +kernel⟩
theorem sc_ring_from : FnScope ["first", "nodes", "edges", "found", "lengths", "node", "left", "length", "ring"] ["first", "nodes", "edges"] (defScope S_ring_from) := ⟨rfl, rfl, rfl, by decide +kernel, rfl, by decide +kernel, by decide +kernel⟩
theorem sc_shortest_ring : FnScope ["nodes", "edges", "best", "first", "ring"] ["nodes", "edges"] (defScope S_shortest_ring) := ⟨rfl, rfl, rfl, by decide +kernel, rfl, by decide +kernel, by decide +kernel⟩
theorem sc__law_draws : FnScope ["_law_script", "_law_draws_here", "_law_cell", "_law_rest", "_law_k", "_law_mixed"] ["_law_script"] (defScope S__law_draws) := ⟨rfl, rfl, rfl, by decide +kernel, rfl, by decide +kernel, by decide +kernel⟩
theorem sc__law_take : FnScope ["_law_draws_here", "_law_at", "_law_size"] ["_law_draws_here", "_law_at", "_law_size"] (defScope S__law_take) := ⟨rfl, rfl, rfl, by decide +kernel, rfl, by decide +kernel, by decide +kernel⟩
theorem sc__law_same : FnScope ["_law_actual", "_law_expected", "_law_k"] ["_law_actual", "_law_expected"] (defScope S__law_same) := ⟨rfl, rfl, rfl, by decide +kernel, rfl, by decide +kernel, by decide +kernel⟩
theorem sc__law_nodes : FnScope ["_law_draws_here", "_law_at", "_law_count", "_law_nodes_here", "_law_node", "_law_k"] ["_law_draws_here", "_law_at", "_law_count"] (defScope S__law_nodes) := ⟨rfl, rfl, rfl, by decide +kernel, rfl, by decide +kernel, by decide +kernel⟩
theorem sc__law_order : FnScope ["_law_draws_here", "_law_at", "_law_count", "_law_left", "_law_order_here", "_law_k", "_law_pick"] ["_law_draws_here", "_law_at", "_law_count"] (defScope S__law_order) := ⟨rfl, rfl, rfl, by decide +kernel, rfl, by decide +kernel, by decide +kernel⟩
theorem sc__law_graph : FnScope ["_law_draws_here", "_law_at", "_law_nodes_here", "_law_count", "_law_order_here", "_law_k", "_law_edges", "_law_size", "_law_pair", "_law_chance", "_law_one", "_law_two"] ["_law_draws_here", "_law_at", "_law_nodes_here"] (defScope S__law_graph) := ⟨rfl, rfl, rfl, by decide +kernel, rfl, by decide +kernel, by decide +kernel⟩
theorem sc__law_longer : FnScope ["_law_table", "_law_near", "_law_size", "_law_further", "_law_x", "_law_row", "_law_z", "_law_y"] ["_law_table", "_law_near"] (defScope S__law_longer) := ⟨rfl, rfl, rfl, by decide +kernel, rfl, by decide +kernel, by decide +kernel⟩
theorem sc__law_least_ring : FnScope ["_law_nodes_here", "_law_edges", "_law_size", "_law_near", "_law_x", "_law_y", "_law_tables", "_law_k", "_law_length", "_law_closed", "_law_ring", "_law_table", "_law_able"] ["_law_nodes_here", "_law_edges"] (defScope S__law_least_ring) := ⟨rfl, rfl, rfl, by decide +kernel, rfl, by decide +kernel, by decide +kernel⟩
theorem sc_law : FnScope ["_law_script", "_law_draws_here", "_law_at", "_law_nodes_here", "_law_edges", "_law_listed", "_law_turn", "_law_due", "_law_given", "_law_table", "_law_edge", "_law_told", "_law_ring", "_law_place", "_law_gone", "_law_pair"] ["_law_script"] (defScope S_law) := ⟨rfl, rfl, rfl, by decide +kernel, rfl, by decide +kernel, by decide +kernel⟩
structure Txt (K : PySem.W.Frag) (mg : Str → Option Value) where
  a_distances : Addr
  fd_distances : FuncData
  F_distances : Fun K "distances" "distances" S_distances a_distances fd_distances
  b_distances : Binds K fd_distances ["goal", "nodes", "edges"] []
  g_distances : mg "distances" = some (.ref a_distances)
  a_ring_from : Addr
  fd_ring_from : FuncData
  F_ring_from : Fun K "ring_from" "ring_from" S_ring_from a_ring_from fd_ring_from
  b_ring_from : Binds K fd_ring_from ["first", "nodes", "edges"] []
  g_ring_from : mg "ring_from" = some (.ref a_ring_from)
  a_shortest_ring : Addr
  fd_shortest_ring : FuncData
  F_shortest_ring : Fun K "shortest_ring" "shortest_ring" S_shortest_ring a_shortest_ring fd_shortest_ring
  b_shortest_ring : Binds K fd_shortest_ring ["nodes", "edges"] []
  g_shortest_ring : mg "shortest_ring" = some (.ref a_shortest_ring)
  a__law_draws : Addr
  fd__law_draws : FuncData
  F__law_draws : Fun K "_law_draws" "_law_draws" S__law_draws a__law_draws fd__law_draws
  b__law_draws : Binds K fd__law_draws ["_law_script"] []
  g__law_draws : mg "_law_draws" = some (.ref a__law_draws)
  a__law_take : Addr
  fd__law_take : FuncData
  F__law_take : Fun K "_law_take" "_law_take" S__law_take a__law_take fd__law_take
  b__law_take : Binds K fd__law_take ["_law_draws_here", "_law_at", "_law_size"] []
  g__law_take : mg "_law_take" = some (.ref a__law_take)
  a__law_same : Addr
  fd__law_same : FuncData
  F__law_same : Fun K "_law_same" "_law_same" S__law_same a__law_same fd__law_same
  b__law_same : Binds K fd__law_same ["_law_actual", "_law_expected"] []
  g__law_same : mg "_law_same" = some (.ref a__law_same)
  a__law_nodes : Addr
  fd__law_nodes : FuncData
  F__law_nodes : Fun K "_law_nodes" "_law_nodes" S__law_nodes a__law_nodes fd__law_nodes
  b__law_nodes : Binds K fd__law_nodes ["_law_draws_here", "_law_at", "_law_count"] []
  g__law_nodes : mg "_law_nodes" = some (.ref a__law_nodes)
  a__law_order : Addr
  fd__law_order : FuncData
  F__law_order : Fun K "_law_order" "_law_order" S__law_order a__law_order fd__law_order
  b__law_order : Binds K fd__law_order ["_law_draws_here", "_law_at", "_law_count"] []
  g__law_order : mg "_law_order" = some (.ref a__law_order)
  a__law_graph : Addr
  fd__law_graph : FuncData
  F__law_graph : Fun K "_law_graph" "_law_graph" S__law_graph a__law_graph fd__law_graph
  b__law_graph : Binds K fd__law_graph ["_law_draws_here", "_law_at", "_law_nodes_here"] []
  g__law_graph : mg "_law_graph" = some (.ref a__law_graph)
  a__law_longer : Addr
  fd__law_longer : FuncData
  F__law_longer : Fun K "_law_longer" "_law_longer" S__law_longer a__law_longer fd__law_longer
  b__law_longer : Binds K fd__law_longer ["_law_table", "_law_near"] []
  g__law_longer : mg "_law_longer" = some (.ref a__law_longer)
  a__law_least_ring : Addr
  fd__law_least_ring : FuncData
  F__law_least_ring : Fun K "_law_least_ring" "_law_least_ring" S__law_least_ring a__law_least_ring fd__law_least_ring
  b__law_least_ring : Binds K fd__law_least_ring ["_law_nodes_here", "_law_edges"] []
  g__law_least_ring : mg "_law_least_ring" = some (.ref a__law_least_ring)
  a_law : Addr
  fd_law : FuncData
  F_law : Fun K "law" "law" S_law a_law fd_law
  b_law : Binds K fd_law ["_law_script"] []
  g_law : mg "law" = some (.ref a_law)
  n_any : mg "any" = none
  n_bool : mg "bool" = none
  n_int : mg "int" = none
  n_isinstance : mg "isinstance" = none
  n_len : mg "len" = none
  n_list : mg "list" = none
  n_min : mg "min" = none
  n_range : mg "range" = none
  n_str : mg "str" = none
  n_tuple : mg "tuple" = none
end My
namespace My
open PySem L2
/-! ### heaps: all but a as it was -/
def But (a : Addr) (H H' : Hp) : Prop := ∀ b o, b ≠ a → H b = some o → H' b = some o
theorem But.refl (a : Addr) (H : Hp) : But a H H := fun _ _ _ h => h
theorem But.trans {a : Addr} {H H1 H2 : Hp} (x : But a H H1) (y : But a H1 H2) : But a H H2 := fun b o n h => y b o n (x b o n h)
theorem But.of_same {a : Addr} {H H' : Hp} (s : Same H H') : But a H H' := fun b o _ h => s b o h
theorem But.upd {a : Addr} {H : Hp} {o : HO} : But a H (upd H a o) := fun b u n h => by rw [upd_ne n]; exact h
theorem same_new {H : Hp} {p : Addr} {o : HO} (h : H p = none) : Same H (upd H p o) := fun b x e => by
  rw [upd_ne (ne_of_none e h)]; exact e
theorem But.new {a p : Addr} {H : Hp} {o : HO} (h : H p = none) : But a H (L2.upd H p o) := But.of_same (same_new h)
/-- an object that H does not know may change -/
theorem same_mut {H H' : Hp} {p : Addr} {o : HO} (e : Same H H') (h : H p = none) : Same H (upd H' p o) := fun a u ha => by
  rw [upd_ne (ne_of_none ha h)]; exact e a u ha
theorem But.mut {a p : Addr} {H H' : Hp} {o : HO} (e : But a H H') (h : H p = none) : But a H (L2.upd H' p o) := fun b u n hb => by
  rw [upd_ne (ne_of_none hb h)]; exact e b u n hb
theorem But.free {a p : Addr} {H H' : Hp} (e : But a H H') (n : p ≠ a) (h : H' p = none) : H p = none := by
  cases q : H p with
  | none => rfl
  | some o => rw [e p o n q] at h; cases h
theorem But.sqL {K : PySem.W.Frag} {a d : Addr} {H H' : Hp} {xs : List V} (e : But a H H') (n : d ≠ a) (h : SqL K H d xs) : SqL K H' d xs := by
  rcases h with (h | ⟨o, h⟩) | h
  · exact .inl (.inl (e _ _ n h))
  · exact .inl (.inr ⟨o, e _ _ n h⟩)
  · exact .inr h
theorem But.sqT {K : PySem.W.Frag} {a d : Addr} {H H' : Hp} {xs : List V} (e : But a H H') (n : d ≠ a) (h : SqT K H d xs) : SqT K H' d xs := by
  rcases h with (h | ⟨o, h⟩) | h
  · exact .inl (.inl (e _ _ n h))
  · exact .inl (.inr ⟨o, e _ _ n h⟩)
  · exact .inr h
theorem same_sqT {K : PySem.W.Frag} {d : Addr} {H H' : Hp} {xs : List V} (e : Same H H') (h : SqT K H d xs) : SqT K H' d xs := by
  rcases h with (h | ⟨o, h⟩) | h
  · exact .inl (.inl (e _ _ h))
  · exact .inl (.inr ⟨o, e _ _ h⟩)
  · exact .inr h
theorem same_make {H H5 : Hp} {x dx C : Addr} (nx : H x = none) (nd : H dx = none) (b : But x (L2.upd (L2.upd H dx (.own x)) x (.ins C dx [])) H5) : Same H H5 := fun y o h =>
  b y o (ne_of_none h nx) (by rw [upd_ne (ne_of_none h nx), upd_ne (ne_of_none h nd)]; exact h)
/-! ### tests -/
theorem iteD {c A B : Prop} [Decidable c] (h1 : c → A) (h2 : ¬ c → B) : if decide c = true then A else B := by
  by_cases h : c
  · rw [decide_eq_true h]; exact iteT (h1 h)
  · rw [decide_eq_false h]; exact iteF (h2 h)
theorem iteN {c A B : Prop} [Decidable c] (h1 : ¬ c → A) (h2 : c → B) : if (!decide c) = true then A else B := by
  by_cases h : c
  · rw [decide_eq_true h]; exact iteF (h2 h)
  · rw [decide_eq_false h]; exact iteT (h1 h)
theorem iteB {b : Bool} {A B : Prop} (h1 : b = true → A) (h2 : b = false → B) : if b = true then A else B := by
  cases b with
  | true => exact iteT (h1 rfl)
  | false => exact iteF (h2 rfl)
theorem iteYes {b : Bool} {A B : Prop} (h : b = true) (h1 : A) : if b = true then A else B := by rw [h]; exact iteT h1
theorem iteNo {b : Bool} {A B : Prop} (h : b = false) (h1 : B) : if b = true then A else B := by rw [h]; exact iteF h1
/-! ### lists -/
theorem ints_app (zs : List Int) (z : Int) : (zs.map V.int) ++ [V.int z] = (zs ++ [z]).map V.int := by rw [List.map_append]; rfl
theorem at_ok {xs : List V} {i : Int} (h0 : 0 ≤ i) (h1 : i < xs.length) : ∃ v, atI xs i = some v ∧ v ∈ xs := by
  obtain ⟨j, rfl⟩ := Int.eq_ofNat_of_zero_le h0
  have hj : j < xs.length := by omega
  exact ⟨xs[j], atI_nat (List.getElem?_eq_getElem hj), List.getElem_mem hj⟩
theorem get_int {ns : List Int} {i : Nat} {y : V} (h : (ns.map V.int)[i]? = some y) : ∃ z, ns[i]? = some z ∧ y = .int z := by
  rw [List.getElem?_map] at h
  cases e : ns[i]? with
  | none => rw [e] at h; cases h
  | some z => rw [e] at h; exact ⟨z, rfl, (Option.some.inj h).symm⟩
end My
namespace L2
open PySem
/-! ### rules whose reading names K itself (in a comprehension's block) -/
theorem ixLK {X : Cx} {K : PySem.W.Frag} (h : X.K = K) : IxR X (rIxL K) := h ▸ ix_list
theorem ixTK {X : Cx} {K : PySem.W.Frag} (h : X.K = K) : IxR X (rIxT K) := h ▸ ix_tup
theorem inK {X : Cx} {K : PySem.W.Frag} (h : X.K = K) : OpR X (compareOp .In) (rIn K false) := h ▸ op_in_seq
theorem ninK {X : Cx} {K : PySem.W.Frag} (h : X.K = K) : OpR X (compareOp .NotIn) (rIn K true) := h ▸ op_notIn_seq
theorem pe_fldK {X : Cx} {K : PySem.W.Frag} {e : Expr} {f : Str} {pos : Pos} {ta : TE} (h : X.K = K) (he : PE X e ta) (hb : attributeBase e f X.env (eval e X.env) = eval e X.env) : PE X (.Attribute e f pos) (tFld K ta f) := h ▸ pe_fld he hb
end L2

namespace My
open PySem L2
/-- the draws at d, the place at a -/
structure Dr (K : PySem.W.Frag) (H : Hp) (d a : Addr) : Prop where
  ds : ∃ ns : List Int, H d = some (.lst (ns.map V.int))
  pl : ∃ k : Nat, H a = some (.lst [.int k])
  ne : d ≠ a
theorem Dr.but {K : PySem.W.Frag} {H H' : Hp} {d a : Addr} (x : Dr K H d a) (e : But a H H') (pl : ∃ k : Nat, H' a = some (.lst [.int k])) : Dr K H' d a :=
  ⟨x.ds.elim fun ns h => ⟨ns, e _ _ x.ne h⟩, pl, x.ne⟩
theorem Dr.same {K : PySem.W.Frag} {H H' : Hp} {d a : Addr} (x : Dr K H d a) (e : Same H H') : Dr K H' d a :=
  x.but (But.of_same e) (x.pl.elim fun k h => ⟨k, e _ _ h⟩)
/-- another object is changed -/
theorem Dr.other {K : PySem.W.Frag} {H H' : Hp} {d a p : Addr} (x : Dr K H d a) (e : But p H H') (n1 : d ≠ p) (n2 : a ≠ p) : Dr K H' d a :=
  ⟨x.ds.elim fun ns h => ⟨ns, e _ _ n1 h⟩, x.pl.elim fun k h => ⟨k, e _ _ n2 h⟩, x.ne⟩
theorem Dr.nd {K : PySem.W.Frag} {H : Hp} {d a p : Addr} (x : Dr K H d a) (h : H p = none) : d ≠ p := ne_of_none x.ds.choose_spec h
theorem Dr.na {K : PySem.W.Frag} {H : Hp} {d a p : Addr} (x : Dr K H d a) (h : H p = none) : p ≠ a := (ne_of_none x.pl.choose_spec h).symm
def spTake (K : PySem.W.Frag) : Sp := fun vs H Q _ => ∃ (d a : Addr) (size : Int), vs = [.ref d, .ref a, .int size] ∧ Dr K H d a ∧ 0 < size ∧
  ∀ (r : Int) (H' : Hp), 0 ≤ r → r < size → Dr K H' d a → But a H H' → Q (.int r) H'
section
variable {P : Program} {w : World} {K : PySem.W.Frag} {mg : Str → Option Value} {base : Heap}
theorem ok__law_take (T : Txt K mg) : FnOk P w K mg base CX0 1 T.a__law_take T.fd__law_take ["_law_draws_here", "_law_at", "_law_size"] (spTake K) := by
  refine T.F__law_take.ok sc__law_take (fun vs H Q E h => ?_) (fun cdv A outer s H vs Q E hr h => ?_)
  · obtain ⟨d, a, size, rfl, _⟩ := h; rfl
  · obtain ⟨d, a, size, rfl, D, hs, q⟩ := h
    obtain ⟨ns, hd0⟩ := D.ds
    have hd : SqL K H d (ns.map V.int) := SqL.of hd0
    obtain ⟨k, hk⟩ := D.pl
    have hb : But a H (upd H a (.lst [.int (k + 1 : Nat)])) := But.upd
    have D' : Dr K (upd H a (.lst [.int (k + 1 : Nat)])) d a := D.but hb ⟨_, upd_same⟩
    have hd' := hb.sqL D.ne hd
    refine ⟨_, (pss_cons (ps_asg (pe_op op_add (pe_ix ix_list (pv 1) (pe_int) (fun _ _ => rfl)) (pe_int)) (pg_sub (pv 1) (pe_int) set_list))
      (pss_cons (ps_if (pt_cmpR op_gt (pe_ix ix_list (pv 1) (pe_int) (fun _ _ => rfl)) (pe_callB call_len_seq (by rfl) T.n_len (by decide +kernel) (pa_cons (pv 0) pa_nil)) (nomark _)) (pss_one (ps_ret (pe_int))) pss_nil)
      (pss_one (ps_ret (pe_op op_mod (pe_callTy call_int1 (by rfl) T.n_int (by decide +kernel) (pa_cons (pe_ix ix_list (pv 0) (pe_op op_sub (pe_ix ix_list (pv 1) (pe_int) (fun _ _ => rfl)) (pe_int)) (fun _ _ => rfl)) pa_nil)) (pv 2)))))), ?_⟩
    walk_at "rd"

    refine iteD (fun c => ?_) (fun c => ?_)
    · exact q 0 _ (Int.le_refl _) hs D' hb
    · rw [List.length_map] at c
      have hl : k < ns.length := by omega
      refine ⟨_, rfl, _, rfl, _, _, _, _, rfl, rfl, SqL.of upd_same, atI_nat (j := 0) rfl, _, _, rfl, rfl, _, _, _, _, rfl, rfl, hd', at_of (j := k) (by omega) (by rw [List.getElem?_map, List.getElem?_eq_getElem hl]; rfl), ?_⟩
      walk_at "rd"
      exact q _ _ (Int.emod_nonneg _ (by omega)) (Int.emod_lt_of_pos _ hs) D' hb
end
end My

namespace My
open PySem L2
def spDraws (K : PySem.W.Frag) : Sp := fun vs H Q _ => ∃ (a : Addr) (ns : List Int), vs = [.ref a] ∧ SqL K H a (ns.map V.int) ∧ ns.length ≤ 63 ∧
  ∀ (p : Addr) (zs : List Int) (H' : Hp), Same H H' → H p = none → H' p = some (.lst (zs.map V.int)) → Q (.ref p) H'
section
variable {P : Program} {w : World} {K : PySem.W.Frag} {mg : Str → Option Value} {base : Heap}
theorem ok__law_draws (T : Txt K mg) : FnOk P w K mg base CX0 1 T.a__law_draws T.fd__law_draws ["_law_script"] (spDraws K) := by
  refine T.F__law_draws.ok sc__law_draws (fun vs H Q E h => ?_) (fun cdv A outer s H vs Q E hr h => ?_)
  · obtain ⟨a, ns, rfl, _⟩ := h; rfl
  · obtain ⟨a, ns, rfl, hS, hlen, q⟩ := h
    refine ⟨_, (pss_cons (ps_set (i := 1) sc__law_draws.nd rfl (.inl rfl) (pe_lst pa_nil))
      (pss_cons (ps_for PassesOwn.never rfl (pi_list (pv 0)) (pg_name (i := 2) sc__law_draws.nd rfl (.inl rfl)) (pss_one (ps_if (pt_cmpR op_ge (pv 2) (pe_op op_pow (pe_int) (pe_int)) (nomark _)) (pss_cons (ps_set (i := 3) sc__law_draws.nd rfl (.inl rfl) (pe_callTy call_int1 (by rfl) T.n_int (by decide +kernel) (pa_cons (pv 2) pa_nil)))
      (pss_one (ps_for PassesOwn.never rfl (pi_range1 (by rfl) T.n_range (pa_cons (pe_int) pa_nil)) (pg_name (i := 4) sc__law_draws.nd rfl (.inl rfl)) (pss_one (ps_if (pt_cmpR op_gt (pv 3) (pe_int) (nomark _)) (pss_cons (ps_expr (pe_bm PySem.F.plainAttrs_list PySem.F.slot_list_append PySem.F.type_list_append mt_append (pv 1) (pa_cons (pe_op op_mod (pe_callTy call_int1 (by rfl) T.n_int (by decide +kernel) (pa_cons (pv 3) pa_nil)) (pe_int)) pa_nil)))
      (pss_one (ps_set (i := 3) sc__law_draws.nd rfl (.inl rfl) (pe_op op_fdiv (pv 3) (pe_int))))) pss_nil))))) (pss_cons (ps_set (i := 5) sc__law_draws.nd rfl (.inl rfl) (pe_op op_mod (pe_callTy call_int1 (by rfl) T.n_int (by decide +kernel) (pa_cons (pe_op op_add (pe_op op_mul (pv 2) (pe_int)) (pe_int)) pa_nil)) (pe_int)))
      (pss_cons (ps_expr (pe_bm PySem.F.plainAttrs_list PySem.F.slot_list_append PySem.F.type_list_append mt_append (pv 1) (pa_cons (pv 5) pa_nil)))
      (pss_one (ps_expr (pe_bm PySem.F.plainAttrs_list PySem.F.slot_list_append PySem.F.type_list_append mt_append (pv 1) (pa_cons (pe_op op_mod (pe_callTy call_int1 (by rfl) T.n_int (by decide +kernel) (pa_cons (pe_op op_add (pe_op op_add (pe_op op_mul (pv 5) (pv 5)) (pe_op op_mul (pe_int) (pv 5))) (pe_op op_mul (pe_int) (pe_callB call_len_seq (by rfl) T.n_len (by decide +kernel) (pa_cons (pv 1) pa_nil)))) pa_nil)) (pe_int)) pa_nil)))))))))
      (pss_one (ps_ret (pv 1))))), ?_⟩
    refine ⟨Nat.zero_le _, fun p hp => ?_⟩
    have s0 : Same H (upd H p (.lst [])) := same_new hp
    refine ⟨_, rfl, a, rfl, ⟨_, s0.seq hS⟩, for_list (K := K) (a := a) (xs := ns.map V.int) (fun i σ H' => ∃ (zs : List Int) (x2 x3 x4 x5 : Option V), σ = [some (.ref a), some (.ref p), x2, x3, x4, x5] ∧ Same H H' ∧ H' p = some (.lst (zs.map V.int)) ∧ zs.length ≤ 60 * i)
      ⟨[], _, _, _, _, rfl, s0, upd_same, Nat.zero_le _⟩ (fun i σ H' _ ⟨_, _, _, _, _, _, s1, _⟩ => s1.seq hS) ?_ ?_⟩
    · rintro i y σ H1 hi ⟨zs, x2, x3, x4, x5, rfl, s1, h1, hz⟩
      have hi63 : i < ns.length := by
        have z := (List.getElem?_eq_some_iff.mp hi).1
        rw [List.length_map] at z
        exact z
      obtain ⟨c, hc, rfl⟩ := get_int hi
      refine ⟨_, rfl, _, _, rfl, rfl, ⟨by decide, by decide, by decide⟩, ?_⟩
      walk_at "rd"
      refine iteD (fun c1 => ?_) (fun c1 => ?_)
      · refine ⟨_, rfl, .inl ⟨_, rfl, ?_⟩⟩
        refine ⟨60, rfl, by decide, by decide, for_range (lo := 0) (n := 60) (fun j σ H' => ∃ (zs : List Int) (r : Int) (x4 : Option V), σ = [some (.ref a), some (.ref p), some (.int c), some (.int r), x4, x5] ∧ Same H H' ∧ H' p = some (.lst (zs.map V.int)) ∧ zs.length ≤ 60 * i + j)
          ⟨zs, c, x4, rfl, s1, h1, hz⟩ ?_ ?_⟩
        · rintro j σ H2 hj ⟨zs, r, x4, rfl, s2, h2, hz2⟩
          walk_at "rd"
          refine iteD (fun c2 => ?_) (fun c2 => ?_)
          · refine ⟨_, rfl, .inl ⟨rfl, _, SqL.of h2⟩, _, rfl, .inl ⟨_, rfl, _, _, rfl, rfl, (by show (0 : Int) < 1000; decide), _, _, _, rfl, rfl, h2, by rw [List.length_map]; exact Nat.lt_of_le_of_lt (by omega : _ ≤ 100000) (by decide), ?_⟩⟩
            refine ⟨_, rfl, _, _, rfl, rfl, ⟨by decide, by decide⟩, ?_⟩
            exact ⟨zs ++ [r % 1000], _, _, rfl, same_mut s2 hp, by rw [upd_same, ints_app], by rw [List.length_append, List.length_singleton]; omega⟩
          · exact ⟨zs, r, _, rfl, s2, h2, by omega⟩
        · rintro σ H2 ⟨zs, r, x4, rfl, s2, h2, hz2⟩
          exact ⟨zs, _, _, _, _, rfl, s2, h2, by omega⟩
      · refine ⟨_, rfl, _, _, rfl, rfl, .inr ⟨by decide, by decide⟩, _, _, rfl, rfl, .inl ⟨_, rfl, _, _, rfl, rfl, (by show (0 : Int) < 9973; decide), ?_⟩⟩
        have hm0 : 0 ≤ (c * 48271 + 12345) % 9973 := Int.emod_nonneg _ (by decide)
        have hm1 : (c * 48271 + 12345) % 9973 < 9973 := Int.emod_lt_of_pos _ (by decide)
        refine ⟨_, rfl, .inl ⟨rfl, _, SqL.of h1⟩, _, rfl, _, _, _, rfl, rfl, h1, by rw [List.length_map]; exact Nat.lt_of_le_of_lt (by omega : _ ≤ 100000) (by decide), ?_⟩
        refine ⟨_, rfl, .inl ⟨rfl, _, SqL.of upd_same⟩, _, rfl, _, rfl, _, _, rfl, rfl, .inl ⟨by omega, by omega⟩, _, rfl, _, _, rfl, rfl, .inl ⟨by decide, by decide⟩, _, _, rfl, rfl, _, rfl, _, _, rfl, .inl (SqL.of upd_same), _, _, rfl, rfl, .inl ⟨by decide, by decide⟩, _, _, rfl, rfl, .inl ⟨_, rfl, _, _, rfl, rfl, (by show (0 : Int) < 9949; decide), ?_⟩⟩
        refine ⟨_, _, _, rfl, rfl, upd_same, by rw [List.length_append, List.length_map]; exact Nat.lt_of_le_of_lt (by simp; omega : _ ≤ 100000) (by decide), ?_⟩
        rw [ints_app, ints_app, upd_upd]
        exact ⟨_, _, _, _, _, rfl, same_mut s1 hp, upd_same, by simp; omega⟩
    · rintro σ H1 ⟨zs, x2, x3, x4, x5, rfl, s1, h1, hz⟩
      exact ⟨_, rfl, q p zs H1 s1 hp h1⟩
end
end My

namespace My
open PySem L2
/-! ### plain data -/
inductive Sc : V → PyData → Prop
  | non : Sc .non .none
  | bl (b : Bool) : Sc (.bl b) (.bool b)
  | int (i : Int) : Sc (.int i) (.int i)
  | str (z : Str) : Sc (.str z) (.str z)
/-- a list that stays where x alone is changed; a tuple likewise -/
def SL (K : PySem.W.Frag) (x : Addr) (H : Hp) (a : Addr) (xs : List V) : Prop := (a ≠ x ∧ SqL K H a xs) ∨ ∀ H', SqL K H' a xs
def SU (K : PySem.W.Frag) (x : Addr) (H : Hp) (a : Addr) (xs : List V) : Prop := (a ≠ x ∧ SqT K H a xs) ∨ ∀ H', SqT K H' a xs
section
variable {K : PySem.W.Frag} {x : Addr} {H H' : Hp} {a : Addr} {xs : List V}
theorem SL.sq (h : SL K x H a xs) : SqL K H a xs := by
  rcases h with h | h
  · exact h.2
  · exact h H
theorem SU.sq (h : SU K x H a xs) : SqT K H a xs := by
  rcases h with h | h
  · exact h.2
  · exact h H
theorem SL.but (h : SL K x H a xs) (e : But x H H') : SL K x H' a xs := by
  rcases h with ⟨n, h⟩ | h
  · exact .inl ⟨n, e.sqL n h⟩
  · exact .inr h
theorem SU.but (h : SU K x H a xs) (e : But x H H') : SU K x H' a xs := by
  rcases h with ⟨n, h⟩ | h
  · exact .inl ⟨n, e.sqT n h⟩
  · exact .inr h
theorem tyL (h : SqL K H a xs) : TyX K H (.ref a) (.type "list") := by
  rcases h with (h | ⟨o, h⟩) | ⟨o, its, n, h, c, _⟩
  · exact .base (.lst h)
  · exact .base (.frz h)
  · exact .kList h c
theorem tyT (h : SqT K H a xs) : TyX K H (.ref a) (.type "tuple") := by
  rcases h with (h | ⟨o, h⟩) | ⟨o, its, n, h, c, _⟩
  · exact .base (.tup h)
  · exact .fTuple h
  · exact .kTuple h c
end
/-- data of depth n at most -/
def Dn (K : PySem.W.Frag) (x : Addr) (H : Hp) : Nat → V → PyData → Prop
  | 0, v, d => Sc v d
  | n + 1, v, d => Sc v d ∨ (∃ a xs ds, v = .ref a ∧ d = .list ds ∧ SL K x H a xs ∧ xs.length ≤ 100000 ∧ Paired (Dn K x H n) xs ds) ∨ ∃ a xs ds, v = .ref a ∧ d = .tuple ds ∧ SU K x H a xs ∧ xs.length ≤ 100000 ∧ Paired (Dn K x H n) xs ds
theorem Dn.sc {K : PySem.W.Frag} {x : Addr} {H : Hp} {v : V} {d : PyData} (h : Sc v d) : ∀ n, Dn K x H n v d
  | 0 => h
  | _ + 1 => .inl h
theorem Dn.but {K : PySem.W.Frag} {x : Addr} {H H' : Hp} (e : But x H H') : ∀ {n : Nat} {v : V} {d : PyData}, Dn K x H n v d → Dn K x H' n v d
  | 0, _, _, h => h
  | n + 1, v, d, h => by
    rcases h with h | ⟨a, xs, ds, rfl, rfl, h, hz, p⟩ | ⟨a, xs, ds, rfl, rfl, h, hz, p⟩
    · exact .inl h
    · exact .inr (.inl ⟨a, xs, ds, rfl, rfl, h.but e, hz, L2.Paired.mapP p fun _ _ z => Dn.but e z⟩)
    · exact .inr (.inr ⟨a, xs, ds, rfl, rfl, h.but e, hz, L2.Paired.mapP p fun _ _ z => Dn.but e z⟩)
theorem Dn.lst {K : PySem.W.Frag} {x : Addr} {H : Hp} {n : Nat} {a : Addr} {xs : List V} {ds : List PyData} (ne : a ≠ x) (h : SqL K H a xs) (p : Paired (Dn K x H n) xs ds) (hz : xs.length ≤ 100000 := by simp) : Dn K x H (n + 1) (.ref a) (.list ds) :=
  .inr (.inl ⟨a, xs, ds, rfl, rfl, .inl ⟨ne, h⟩, hz, p⟩)
theorem Dn.tup {K : PySem.W.Frag} {x : Addr} {H : Hp} {n : Nat} {a : Addr} {xs : List V} {ds : List PyData} (ne : a ≠ x) (h : SqT K H a xs) (p : Paired (Dn K x H n) xs ds) (hz : xs.length ≤ 100000 := by simp) : Dn K x H (n + 1) (.ref a) (.tuple ds) :=
  .inr (.inr ⟨a, xs, ds, rfl, rfl, .inl ⟨ne, h⟩, hz, p⟩)
theorem Dn.int {K : PySem.W.Frag} {x : Addr} {H : Hp} (i : Int) {n : Nat} : Dn K x H n (.int i) (.int i) := Dn.sc (.int i) n
theorem Dn.str {K : PySem.W.Frag} {x : Addr} {H : Hp} (i : Str) {n : Nat} : Dn K x H n (.str i) (.str i) := Dn.sc (.str i) n
theorem Dn.bl {K : PySem.W.Frag} {x : Addr} {H : Hp} (i : Bool) {n : Nat} : Dn K x H n (.bl i) (.bool i) := Dn.sc (.bl i) n
theorem Dn.non {K : PySem.W.Frag} {x : Addr} {H : Hp} {n : Nat} : Dn K x H n .non .none := Dn.sc .non n
theorem Dn.up {K : PySem.W.Frag} {x : Addr} {H : Hp} : ∀ {n : Nat} {v : V} {d : PyData}, Dn K x H n v d → Dn K x H (n + 1) v d
  | 0, _, _, h => .inl h
  | n + 1, v, d, h => by
    rcases h with h | ⟨a, xs, ds, rfl, rfl, h, hz, p⟩ | ⟨a, xs, ds, rfl, rfl, h, hz, p⟩
    · exact .inl h
    · exact .inr (.inl ⟨a, xs, ds, rfl, rfl, h, hz, L2.Paired.mapP p fun _ _ z => Dn.up z⟩)
    · exact .inr (.inr ⟨a, xs, ds, rfl, rfl, h, hz, L2.Paired.mapP p fun _ _ z => Dn.up z⟩)
theorem pair_get {α β : Type} {F : α → β → Prop} : ∀ {l : List α} {m : List β} {i : Nat} {x : α}, Paired F l m → l[i]? = some x → ∃ y, m[i]? = some y ∧ F x y
  | _, _, _, _, .nil, e => by simp at e
  | _, _, 0, _, .cons r _, e => by simp at e; subst e; exact ⟨_, rfl, r⟩
  | _, _, i + 1, x, .cons _ t, e => by
    obtain ⟨y, h1, h2⟩ := pair_get (i := i) (x := x) t (by simpa using e)
    exact ⟨y, by simpa using h1, h2⟩
theorem pair_len {α β : Type} {F : α → β → Prop} : ∀ {l : List α} {m : List β}, Paired F l m → l.length = m.length
  | _, _, .nil => rfl
  | _, _, .cons _ t => by rw [List.length_cons, List.length_cons, pair_len t]
noncomputable def sameD (d e : PyData) : Bool := @decide (d = e) (Classical.propDecidable _)
theorem same_yes {d e : PyData} (h : d = e) : sameD d e = true := by unfold sameD; exact @decide_eq_true _ (Classical.propDecidable _) h
theorem same_no {d e : PyData} (h : d ≠ e) : sameD d e = false := by unfold sameD; exact @decide_eq_false _ (Classical.propDecidable _) h
theorem same_iff {d e : PyData} : sameD d e = true ↔ d = e := by
  constructor
  · intro h
    by_cases q : d = e
    · exact q
    · rw [same_no q] at h; cases h
  · exact same_yes
theorem same_of {p : Prop} [Decidable p] {d e : PyData} (h : d = e ↔ p) : sameD d e = decide p := by
  by_cases q : p
  · rw [decide_eq_true q, same_yes (h.mpr q)]
  · rw [decide_eq_false q, same_no (fun z => q (h.mp z))]
def spSame (K : PySem.W.Frag) (n : Nat) : Sp := fun vs H Q _ => ∃ (x : Addr) (v1 v2 : V) (d1 d2 : PyData), vs = [v1, v2] ∧ Dn K x H n v1 d1 ∧ Dn K x H n v2 d2 ∧ Q (.bl (sameD d1 d2)) H
end My
local macro_rules | `(tactic| walk_at "ty") => `(tactic| first | exact .base (.int _) | exact .base (.bl _) | exact .base .non | exact .base (.str _) | exact My.tyL (by assumption) | exact My.tyT (by assumption))
local macro_rules | `(tactic| walk_at "is") => `(tactic| first | refine ⟨_, _, _, _, true, rfl, L2.ClsV.ty _, (by walk_at "ty"), L2.kit_ty (by decide +kernel), ?_⟩ | refine ⟨_, _, _, _, false, rfl, L2.ClsV.ty _, (by walk_at "ty"), L2.kit_ty (by decide +kernel), ?_⟩)
local macro_rules | `(tactic| walk_at "ri") => `(tactic| repeat (first | walk_at "is" | refine ⟨_, rfl, ?_⟩ | refine ⟨rfl, ?_⟩))
namespace My
open PySem L2
theorem same_bl (a b : Bool) : sameD (.bool a) (.bool b) = decide (V.bl a = V.bl b) := same_of ⟨fun h => by cases h; rfl, fun h => by cases h; rfl⟩
theorem same_int (a b : Int) : sameD (.int a) (.int b) = decide (V.int a = V.int b) := same_of ⟨fun h => by cases h; rfl, fun h => by cases h; rfl⟩
theorem same_str (a b : Str) : sameD (.str a) (.str b) = decide (V.str a = V.str b) := same_of ⟨fun h => by cases h; rfl, fun h => by cases h; rfl⟩
theorem same_non : sameD .none .none = true := same_yes rfl
theorem same_lst (a b : List PyData) : sameD (.list a) (.list b) = true ↔ a = b := same_iff.trans ⟨fun h => by cases h; rfl, fun h => by cases h; rfl⟩
theorem same_tup (a b : List PyData) : sameD (.tuple a) (.tuple b) = true ↔ a = b := same_iff.trans ⟨fun h => by cases h; rfl, fun h => by cases h; rfl⟩
section
variable {P : Program} {w : World} {K : PySem.W.Frag} {mg : Str → Option Value} {base : Heap}
set_option maxHeartbeats 8000000 in
theorem ok__law_same (T : Txt K mg) : ∀ n, FnOk P w K mg base CX0 (n + 1) T.a__law_same T.fd__law_same ["_law_actual", "_law_expected"] (spSame K n)
  | 0 => by
    refine T.F__law_same.ok sc__law_same (fun vs H Q E h => ?_) (fun cdv A outer s H vs Q E hr h => ?_)
    · obtain ⟨x, v1, v2, d1, d2, rfl, _⟩ := h; rfl
    · obtain ⟨x, v1, v2, d1, d2, rfl, h1, h2, q⟩ := h
      refine ⟨_, (pss_cons (ps_if (PW.pt (pw_or (pt_val (pe_callB call_isi (by rfl) T.n_isinstance (by decide +kernel) (pa_cons (pv 0) (pa_cons (pe_bltn (v := .ty "bool") (by rfl) T.n_bool (by decide +kernel) rfl) pa_nil)))) (pw_or1 (pt_val (pe_callB call_isi (by rfl) T.n_isinstance (by decide +kernel) (pa_cons (pv 1) (pa_cons (pe_bltn (v := .ty "bool") (by rfl) T.n_bool (by decide +kernel) rfl) pa_nil))))))) (pss_one (ps_ret (pe_and (pe_callB call_isi (by rfl) T.n_isinstance (by decide +kernel) (pa_cons (pv 0) (pa_cons (pe_bltn (v := .ty "bool") (by rfl) T.n_bool (by decide +kernel) rfl) pa_nil))) (pe_and (pe_callB call_isi (by rfl) T.n_isinstance (by decide +kernel) (pa_cons (pv 1) (pa_cons (pe_bltn (v := .ty "bool") (by rfl) T.n_bool (by decide +kernel) rfl) pa_nil))) (pe_one (pe_cmpR op_eq (pv 0) (pv 1) (nomark _))))))) pss_nil)
      (pss_cons (ps_if (PW.pt (pw_or (pt_cmpR op_isN (pv 0) (pe_non) (nomark _)) (pw_or1 (pt_cmpR op_isN (pv 1) (pe_non) (nomark _))))) (pss_one (ps_ret (pe_and (pe_cmpR op_isN (pv 0) (pe_non) (nomark _)) (pe_one (pe_cmpR op_isN (pv 1) (pe_non) (nomark _)))))) pss_nil)
      (pss_cons (ps_if (pt_val (pe_callB call_isi (by rfl) T.n_isinstance (by decide +kernel) (pa_cons (pv 1) (pa_cons (pe_bltn (v := .ty "int") (by rfl) T.n_int (by decide +kernel) rfl) pa_nil)))) (pss_one (ps_ret (pe_and (pe_callB call_isi (by rfl) T.n_isinstance (by decide +kernel) (pa_cons (pv 0) (pa_cons (pe_bltn (v := .ty "int") (by rfl) T.n_int (by decide +kernel) rfl) pa_nil))) (pe_one (pe_cmpR op_eq (pv 0) (pv 1) (nomark _)))))) pss_nil)
      (pss_cons (ps_if (pt_val (pe_callB call_isi (by rfl) T.n_isinstance (by decide +kernel) (pa_cons (pv 1) (pa_cons (pe_bltn (v := .ty "str") (by rfl) T.n_str (by decide +kernel) rfl) pa_nil)))) (pss_one (ps_ret (pe_and (pe_callB call_isi (by rfl) T.n_isinstance (by decide +kernel) (pa_cons (pv 0) (pa_cons (pe_bltn (v := .ty "str") (by rfl) T.n_str (by decide +kernel) rfl) pa_nil))) (pe_one (pe_cmpR op_eq (pv 0) (pv 1) (nomark _)))))) pss_nil)
      (pss_cons (ps_if (PW.pt (pw_and (pt_val (pe_callB call_isi (by rfl) T.n_isinstance (by decide +kernel) (pa_cons (pv 1) (pa_cons (pe_bltn (v := .ty "tuple") (by rfl) T.n_tuple (by decide +kernel) rfl) pa_nil)))) (pw_and1 (pt_not (pt_val (pe_callB call_isi (by rfl) T.n_isinstance (by decide +kernel) (pa_cons (pv 0) (pa_cons (pe_bltn (v := .ty "tuple") (by rfl) T.n_tuple (by decide +kernel) rfl) pa_nil)))))))) (pss_one (ps_ret (pe_bl))) pss_nil)
      (pss_cons (ps_if (PW.pt (pw_and (pt_val (pe_callB call_isi (by rfl) T.n_isinstance (by decide +kernel) (pa_cons (pv 1) (pa_cons (pe_bltn (v := .ty "list") (by rfl) T.n_list (by decide +kernel) rfl) pa_nil)))) (pw_and1 (pt_not (pt_val (pe_callB call_isi (by rfl) T.n_isinstance (by decide +kernel) (pa_cons (pv 0) (pa_cons (pe_bltn (v := .ty "list") (by rfl) T.n_list (by decide +kernel) rfl) pa_nil)))))))) (pss_one (ps_ret (pe_bl))) pss_nil)
      (pss_cons (ps_if (pt_cmpR op_ne (pe_callB call_len_seq (by rfl) T.n_len (by decide +kernel) (pa_cons (pv 0) pa_nil)) (pe_callB call_len_seq (by rfl) T.n_len (by decide +kernel) (pa_cons (pv 1) pa_nil)) (nomark _)) (pss_one (ps_ret (pe_bl))) pss_nil)
      (pss_cons ps_never
      (pss_one (ps_ret (pe_bl))))))))))), ?_⟩
      cases h1 <;> cases h2
      all_goals walk_at "ri"
      all_goals first | (rw [same_no (by intro z; cases z)] at q; exact q) | (rw [same_bl] at q; exact q) | (rw [same_int] at q; exact q) | (rw [same_str] at q; exact q) | (rw [same_non] at q; exact q)
  | n + 1 => by
    refine T.F__law_same.ok sc__law_same (fun vs H Q E h => ?_) (fun cdv A outer s H vs Q E hr h => ?_)
    · obtain ⟨x, v1, v2, d1, d2, rfl, _⟩ := h; rfl
    · obtain ⟨x, v1, v2, d1, d2, rfl, h1, h2, q⟩ := h
      refine ⟨_, (pss_cons (ps_if (PW.pt (pw_or (pt_val (pe_callB call_isi (by rfl) T.n_isinstance (by decide +kernel) (pa_cons (pv 0) (pa_cons (pe_bltn (v := .ty "bool") (by rfl) T.n_bool (by decide +kernel) rfl) pa_nil)))) (pw_or1 (pt_val (pe_callB call_isi (by rfl) T.n_isinstance (by decide +kernel) (pa_cons (pv 1) (pa_cons (pe_bltn (v := .ty "bool") (by rfl) T.n_bool (by decide +kernel) rfl) pa_nil))))))) (pss_one (ps_ret (pe_and (pe_callB call_isi (by rfl) T.n_isinstance (by decide +kernel) (pa_cons (pv 0) (pa_cons (pe_bltn (v := .ty "bool") (by rfl) T.n_bool (by decide +kernel) rfl) pa_nil))) (pe_and (pe_callB call_isi (by rfl) T.n_isinstance (by decide +kernel) (pa_cons (pv 1) (pa_cons (pe_bltn (v := .ty "bool") (by rfl) T.n_bool (by decide +kernel) rfl) pa_nil))) (pe_one (pe_cmpR op_eq (pv 0) (pv 1) (nomark _))))))) pss_nil)
      (pss_cons (ps_if (PW.pt (pw_or (pt_cmpR op_isN (pv 0) (pe_non) (nomark _)) (pw_or1 (pt_cmpR op_isN (pv 1) (pe_non) (nomark _))))) (pss_one (ps_ret (pe_and (pe_cmpR op_isN (pv 0) (pe_non) (nomark _)) (pe_one (pe_cmpR op_isN (pv 1) (pe_non) (nomark _)))))) pss_nil)
      (pss_cons (ps_if (pt_val (pe_callB call_isi (by rfl) T.n_isinstance (by decide +kernel) (pa_cons (pv 1) (pa_cons (pe_bltn (v := .ty "int") (by rfl) T.n_int (by decide +kernel) rfl) pa_nil)))) (pss_one (ps_ret (pe_and (pe_callB call_isi (by rfl) T.n_isinstance (by decide +kernel) (pa_cons (pv 0) (pa_cons (pe_bltn (v := .ty "int") (by rfl) T.n_int (by decide +kernel) rfl) pa_nil))) (pe_one (pe_cmpR op_eq (pv 0) (pv 1) (nomark _)))))) pss_nil)
      (pss_cons (ps_if (pt_val (pe_callB call_isi (by rfl) T.n_isinstance (by decide +kernel) (pa_cons (pv 1) (pa_cons (pe_bltn (v := .ty "str") (by rfl) T.n_str (by decide +kernel) rfl) pa_nil)))) (pss_one (ps_ret (pe_and (pe_callB call_isi (by rfl) T.n_isinstance (by decide +kernel) (pa_cons (pv 0) (pa_cons (pe_bltn (v := .ty "str") (by rfl) T.n_str (by decide +kernel) rfl) pa_nil))) (pe_one (pe_cmpR op_eq (pv 0) (pv 1) (nomark _)))))) pss_nil)
      (pss_cons (ps_if (PW.pt (pw_and (pt_val (pe_callB call_isi (by rfl) T.n_isinstance (by decide +kernel) (pa_cons (pv 1) (pa_cons (pe_bltn (v := .ty "tuple") (by rfl) T.n_tuple (by decide +kernel) rfl) pa_nil)))) (pw_and1 (pt_not (pt_val (pe_callB call_isi (by rfl) T.n_isinstance (by decide +kernel) (pa_cons (pv 0) (pa_cons (pe_bltn (v := .ty "tuple") (by rfl) T.n_tuple (by decide +kernel) rfl) pa_nil)))))))) (pss_one (ps_ret (pe_bl))) pss_nil)
      (pss_cons (ps_if (PW.pt (pw_and (pt_val (pe_callB call_isi (by rfl) T.n_isinstance (by decide +kernel) (pa_cons (pv 1) (pa_cons (pe_bltn (v := .ty "list") (by rfl) T.n_list (by decide +kernel) rfl) pa_nil)))) (pw_and1 (pt_not (pt_val (pe_callB call_isi (by rfl) T.n_isinstance (by decide +kernel) (pa_cons (pv 0) (pa_cons (pe_bltn (v := .ty "list") (by rfl) T.n_list (by decide +kernel) rfl) pa_nil)))))))) (pss_one (ps_ret (pe_bl))) pss_nil)
      (pss_cons (ps_if (pt_cmpR op_ne (pe_callB call_len_seq (by rfl) T.n_len (by decide +kernel) (pa_cons (pv 0) pa_nil)) (pe_callB call_len_seq (by rfl) T.n_len (by decide +kernel) (pa_cons (pv 1) pa_nil)) (nomark _)) (pss_one (ps_ret (pe_bl))) pss_nil)
      (pss_cons (ps_for PassesOwn.never rfl (pi_range1 (by rfl) T.n_range (pa_cons (pe_callB call_len_seq (by rfl) T.n_len (by decide +kernel) (pa_cons (pv 1) pa_nil)) pa_nil)) (pg_name (i := 2) sc__law_same.nd rfl (.inl rfl)) (pss_one (ps_if (pt_not (pt_val (pe_call (ok__law_same T n) (hr.mono (by omega)) (by rfl) T.g__law_same T.F__law_same.kp T.b__law_same .nil pass0 (pa_cons (pe_ix ix_seq (pv 0) (pv 2) (fun _ _ => rfl)) (pa_cons (pe_ix ix_seq (pv 1) (pv 2) (fun _ _ => rfl)) pa_nil))))) (pss_one (ps_ret (pe_bl))) pss_nil)))
      (pss_one (ps_ret (pe_bl))))))))))), ?_⟩
      rcases h1 with h1 | ⟨a1, xs1, ds1, rfl, rfl, h1, z1, p1⟩ | ⟨a1, xs1, ds1, rfl, rfl, h1, z1, p1⟩ <;> rcases h2 with h2 | ⟨a2, xs2, ds2, rfl, rfl, h2, z2, p2⟩ | ⟨a2, xs2, ds2, rfl, rfl, h2, z2, p2⟩
      · cases h1 <;> cases h2
        all_goals walk_at "ri"
        all_goals first | (rw [same_no (by intro z; cases z)] at q; exact q) | (rw [same_bl] at q; exact q) | (rw [same_int] at q; exact q) | (rw [same_str] at q; exact q) | (rw [same_non] at q; exact q)
      · have t2 := h2.sq
        cases h1
        all_goals (walk_at "ri"; rw [same_no (by intro z; cases z)] at q; exact q)
      · have t2 := h2.sq
        cases h1
        all_goals (walk_at "ri"; rw [same_no (by intro z; cases z)] at q; exact q)
      · have t1 := h1.sq
        cases h2
        all_goals (walk_at "ri"; rw [same_no (by intro z; cases z)] at q; exact q)
      · have t1 := h1.sq
        have t2 := h2.sq
        walk_at "ri"
        refine ⟨_, _, rfl, .inl t1, _, rfl, _, _, rfl, .inl t2, rfl, _, rfl, ?_⟩
        have l1 := pair_len p1
        have l2 := pair_len p2
        refine iteN (fun c => ?_) (fun c => ?_)
        · rw [same_no (by intro z; cases z; exact c (by rw [l1, l2]))] at q; exact q
        have c' : xs1.length = xs2.length := by have := V.int.inj c; omega
        refine ⟨_, rfl, _, _, rfl, .inl t2, _, rfl, by omega, by omega, for_range (lo := 0) (n := _) (fun j σ H' => ∃ x2, σ = [some (.ref a1), some (.ref a2), x2] ∧ H' = H ∧ ds1.take j = ds2.take j) ⟨_, rfl, rfl, rfl⟩ ?_ ?_⟩
        · rintro j σ H1 hj ⟨x2, rfl, rfl, et⟩
          have j2 : j < xs2.length := by omega
          have j1 : j < xs1.length := by omega
          obtain ⟨e1, g1, r1⟩ := pair_get p1 (List.getElem?_eq_getElem j1)
          obtain ⟨e2, g2, r2⟩ := pair_get p2 (List.getElem?_eq_getElem j2)
          refine ⟨_, rfl, _, rfl, .inl ⟨_, _, _, _, rfl, rfl, t1, at_of (j := j) (by omega) (List.getElem?_eq_getElem j1), ?_⟩⟩
          refine ⟨_, rfl, _, rfl, .inl ⟨_, _, _, _, rfl, rfl, t2, at_of (j := j) (by omega) (List.getElem?_eq_getElem j2), ?_⟩⟩
          refine ⟨x, _, _, e1, e2, rfl, r1, r2, _, rfl, ?_⟩
          refine iteB (fun b => ?_) (fun b => ?_)
          · have ne : e1 ≠ e2 := fun h => by rw [same_yes h] at b; cases b
            rw [same_no (by intro z; cases z; rw [g1] at g2; exact ne (Option.some.inj g2))] at q; exact q
          · have ee : e1 = e2 := by
              apply same_iff.mp
              cases h : sameD e1 e2 with
              | true => rfl
              | false => rw [h] at b; cases b
            subst ee
            exact ⟨_, rfl, rfl, by rw [List.take_add_one, List.take_add_one, et, g1, g2]⟩
        · rintro σ H1 ⟨x2, rfl, rfl, et⟩
          have ed : ds1 = ds2 := by
            rw [List.take_of_length_le (by omega), List.take_of_length_le (by omega)] at et
            exact et
          subst ed
          rw [same_yes rfl] at q; exact q
      · have t1 := h1.sq
        have t2 := h2.sq
        walk_at "ri"
        rw [same_no (by intro z; cases z)] at q; exact q
      · have t1 := h1.sq
        cases h2
        all_goals (walk_at "ri"; rw [same_no (by intro z; cases z)] at q; exact q)
      · have t1 := h1.sq
        have t2 := h2.sq
        walk_at "ri"
        rw [same_no (by intro z; cases z)] at q; exact q
      · have t1 := h1.sq
        have t2 := h2.sq
        walk_at "ri"
        refine ⟨_, _, rfl, .inr t1, _, rfl, _, _, rfl, .inr t2, rfl, _, rfl, ?_⟩
        have l1 := pair_len p1
        have l2 := pair_len p2
        refine iteN (fun c => ?_) (fun c => ?_)
        · rw [same_no (by intro z; cases z; exact c (by rw [l1, l2]))] at q; exact q
        have c' : xs1.length = xs2.length := by have := V.int.inj c; omega
        refine ⟨_, rfl, _, _, rfl, .inr t2, _, rfl, by omega, by omega, for_range (lo := 0) (n := _) (fun j σ H' => ∃ x2, σ = [some (.ref a1), some (.ref a2), x2] ∧ H' = H ∧ ds1.take j = ds2.take j) ⟨_, rfl, rfl, rfl⟩ ?_ ?_⟩
        · rintro j σ H1 hj ⟨x2, rfl, rfl, et⟩
          have j2 : j < xs2.length := by omega
          have j1 : j < xs1.length := by omega
          obtain ⟨e1, g1, r1⟩ := pair_get p1 (List.getElem?_eq_getElem j1)
          obtain ⟨e2, g2, r2⟩ := pair_get p2 (List.getElem?_eq_getElem j2)
          refine ⟨_, rfl, _, rfl, .inr (.inl ⟨_, _, _, _, rfl, rfl, t1, at_of (j := j) (by omega) (List.getElem?_eq_getElem j1), ?_⟩)⟩
          refine ⟨_, rfl, _, rfl, .inr (.inl ⟨_, _, _, _, rfl, rfl, t2, at_of (j := j) (by omega) (List.getElem?_eq_getElem j2), ?_⟩)⟩
          refine ⟨x, _, _, e1, e2, rfl, r1, r2, _, rfl, ?_⟩
          refine iteB (fun b => ?_) (fun b => ?_)
          · have ne : e1 ≠ e2 := fun h => by rw [same_yes h] at b; cases b
            rw [same_no (by intro z; cases z; rw [g1] at g2; exact ne (Option.some.inj g2))] at q; exact q
          · have ee : e1 = e2 := by
              apply same_iff.mp
              cases h : sameD e1 e2 with
              | true => rfl
              | false => rw [h] at b; cases b
            subst ee
            exact ⟨_, rfl, rfl, by rw [List.take_add_one, List.take_add_one, et, g1, g2]⟩
        · rintro σ H1 ⟨x2, rfl, rfl, et⟩
          have ed : ds1 = ds2 := by
            rw [List.take_of_length_le (by omega), List.take_of_length_le (by omega)] at et
            exact et
          subst ed
          rw [same_yes rfl] at q; exact q
end
theorem nsame {d : PyData} : (!sameD d d) = false := by rw [same_yes rfl]; rfl
end My

namespace My
open PySem L2
/-! ### lists of ints: in, flat; slices -/
theorem flat_ints (ns : List Int) : (ns.map V.int).all flatV = true := by
  rw [List.all_eq_true]
  intro v h
  obtain ⟨n, _, rfl⟩ := List.mem_map.mp h
  rfl
theorem in_ints (n : Int) (ns : List Int) : inV (.int n) (ns.map V.int) = decide (n ∈ ns) := by
  unfold inV
  rw [List.any_map, Bool.eq_iff_iff, List.any_eq_true, decide_eq_true_iff]
  constructor
  · rintro ⟨m, h, e⟩
    have e : (m == n) = true := e
    rw [← beq_iff_eq.mp e]; exact h
  · intro h
    exact ⟨n, h, by show (n == n) = true; simp⟩
theorem cut_to (xs : List V) (n : Nat) : cutV xs none (some (n : Int)) = xs.take n := by
  unfold cutV HT.sIx
  simp only [List.drop_zero, Nat.sub_zero]
  have h0 : ¬ (n : Int) < 0 := by omega
  simp only [h0, if_false]
  by_cases h : n ≤ xs.length
  · congr 1
    omega
  · rw [List.take_of_length_le (by omega), List.take_of_length_le (by omega)]
theorem cut_from (xs : List V) (n : Nat) : cutV xs (some (n : Int)) none = xs.drop n := by
  unfold cutV HT.sIx
  have h0 : ¬ (n : Int) < 0 := by omega
  simp only [h0, if_false]
  by_cases h : n ≤ xs.length
  · rw [List.take_of_length_le (by rw [List.length_drop]; omega)]
    congr 1
    omega
  · rw [List.drop_eq_nil_of_le (by omega), List.drop_eq_nil_of_le (by omega), List.take_nil]
end My

namespace My
open PySem L2
theorem EdV.same {H H' : Hp} {v : V} {e : Int × Int} (h : EdV H v e) (s : Same H H') : EdV H' v e := let ⟨p, a, b⟩ := h; ⟨p, a, s _ _ b⟩
theorem edvs_same {H H' : Hp} (s : Same H H') : ∀ {vs : List V} {es : List (Int × Int)}, Paired (EdV H) vs es → Paired (EdV H') vs es
  | _, _, .nil => .nil
  | _, _, .cons a b => .cons (EdV.same a s) (edvs_same s b)
theorem edg_same {K : PySem.W.Frag} {H H' : Hp} {y : V} {es : List (Int × Int)} (s : Same H H') (h : Edg K H y es) : Edg K H' y es := by
  rcases h with ⟨a, vs, rfl, sq, pr⟩ | ⟨a, kvs, rfl, ha, hk⟩
  · refine .inl ⟨a, vs, rfl, ?_, edvs_same s pr⟩
    rcases sq with sq | sq
    · exact .inl (s.seq sq)
    · exact .inr ((But.of_same (a := a + 1) s).sqT (Nat.ne_of_lt (Nat.lt_succ_self a)) sq)
  · exact .inr ⟨a, kvs, rfl, s _ _ ha, hk⟩
theorem filter_take_succ {α : Type} (f : α → Bool) {ls : List α} {i : Nat} {x : α} (h : ls[i]? = some x) : (ls.take (i + 1)).filter f = (ls.take i).filter f ++ if f x then [x] else [] := by
  rw [List.take_succ, h]
  simp [List.filter_append, List.filter_cons]
theorem asgS {te : TE} {σ : L2.St} {H : Hp} {j : Nat} {u : TS} {D : Ends} (h : te σ H fun v H1 => u D (σ.set j (some v)) H1) : tSeq (tAsg te (gName j)) u D σ H := h
end My

namespace My
open PySem L2
/-! ### walks and rings, plain -/
abbrev Eds := List (Int × Int)
/-- a walk of k edges from x to y -/
def Wl (es : Eds) : Nat → Int → Int → Prop
  | 0, x, y => x = y
  | k + 1, x, z => ∃ y, Wl es k x y ∧ (y, z) ∈ es
/-- a walk of k edges from x to g, no node below g -/
def Wr (ns : List Int) (es : Eds) (g : Int) : Nat → Int → Prop
  | 0, x => x = g
  | k + 1, x => x ∈ ns ∧ g ≤ x ∧ ∃ y, (x, y) ∈ es ∧ Wr ns es g k y
def Ds (ns : List Int) (es : Eds) (g : Int) (k : Nat) (x : Int) : Prop := Wr ns es g k x ∧ ∀ j, j < k → ¬ Wr ns es g j x
def IsFirst (ns : List Int) (p : Int → Prop) (y : Int) : Prop := ∃ i : Nat, ns[i]? = some y ∧ p y ∧ ∀ (j : Nat) (z : Int), j < i → ns[j]? = some z → ¬ p z
inductive Chain (ns : List Int) (p : Nat → Int → Int → Prop) : Nat → Int → List Int → Prop
  | nil (x : Int) : Chain ns p 0 x []
  | cons {k : Nat} {x y : Int} {r : List Int} : IsFirst ns (p (k + 1) x) y → Chain ns p k y r → Chain ns p (k + 1) x (y :: r)
theorem IsFirst.uniq {ns : List Int} {p : Int → Prop} {y z : Int} (h : IsFirst ns p y) (h' : IsFirst ns p z) : y = z := by
  obtain ⟨i, hi, py, ni⟩ := h
  obtain ⟨j, hj, pz, nj⟩ := h'
  rcases Nat.lt_trichotomy i j with l | l | l
  · exact absurd py (nj i y l hi)
  · subst l; rw [hi] at hj; exact Option.some.inj hj
  · exact absurd pz (ni j z l hj)
theorem IsFirst.congr {ns : List Int} {p q : Int → Prop} {y : Int} (h : IsFirst ns p y) (e : ∀ x, p x ↔ q x) : IsFirst ns q y := by
  obtain ⟨i, hi, py, ni⟩ := h
  exact ⟨i, hi, (e y).mp py, fun j z hj hz c => ni j z hj hz ((e z).mpr c)⟩
theorem Chain.len {ns : List Int} {p : Nat → Int → Int → Prop} {k : Nat} {x : Int} {r : List Int} (h : Chain ns p k x r) : r.length = k := by
  induction h with
  | nil => rfl
  | cons _ _ ih => rw [List.length_cons, ih]
theorem Wl.app {es : Eds} {i : Nat} {x y : Int} (h : Wl es i x y) : ∀ {j : Nat} {z : Int}, Wl es j y z → Wl es (i + j) x z
  | 0, z, h' => by obtain rfl : y = z := h'; exact h
  | j + 1, z, ⟨u, h1, h2⟩ => ⟨u, Wl.app h h1, h2⟩
theorem Wl.one {es : Eds} {x y : Int} (h : (x, y) ∈ es) : Wl es 1 x y := ⟨x, rfl, h⟩
theorem Wl.head {es : Eds} : ∀ {k : Nat} {x z : Int}, Wl es (k + 1) x z → ∃ y, (x, y) ∈ es ∧ Wl es k y z
  | 0, x, z, ⟨y, h1, h2⟩ => ⟨z, by obtain rfl : x = y := h1; exact h2, rfl⟩
  | k + 1, x, z, ⟨y, h1, h2⟩ => by
    obtain ⟨u, a, b⟩ := Wl.head h1
    exact ⟨u, a, ⟨y, b, h2⟩⟩
theorem Wr.wl {ns : List Int} {es : Eds} {g : Int} : ∀ {k : Nat} {x : Int}, Wr ns es g k x → Wl es k x g
  | 0, x, h => h
  | k + 1, x, ⟨_, _, y, h1, h2⟩ => by
    have := Wl.app (Wl.one h1) (Wr.wl h2)
    rwa [Nat.add_comm] at this
theorem Ds.uniq {ns : List Int} {es : Eds} {g : Int} {k j : Nat} {x : Int} (h : Ds ns es g k x) (h' : Ds ns es g j x) : k = j := by
  rcases Nat.lt_trichotomy k j with l | l | l
  · exact absurd h.1 (h'.2 k l)
  · exact l
  · exact absurd h'.1 (h.2 j l)
theorem Wr.ds {ns : List Int} {es : Eds} {g : Int} {x : Int} : ∀ {k : Nat}, Wr ns es g k x → ∃ j, j ≤ k ∧ Ds ns es g j x := by
  intro k
  induction k using Nat.strongRecOn with
  | _ k ih =>
    intro h
    by_cases c : ∃ j, j < k ∧ Wr ns es g j x
    · obtain ⟨j, hj, h'⟩ := c
      obtain ⟨i, hi, d⟩ := ih j hj h'
      exact ⟨i, by omega, d⟩
    · exact ⟨k, Nat.le_refl _, h, fun j hj h' => c ⟨j, hj, h'⟩⟩
/-- the next on a shortest way -/
theorem Ds.next {ns : List Int} {es : Eds} {g : Int} {k : Nat} {x : Int} (h : Ds ns es g (k + 1) x) : ∃ y, (x, y) ∈ es ∧ Ds ns es g k y := by
  obtain ⟨⟨hx, gx, y, e, w⟩, mn⟩ := h
  exact ⟨y, e, w, fun j hj w' => mn (j + 1) (by omega) ⟨hx, gx, y, e, w'⟩⟩
theorem Ds.of_next {ns : List Int} {es : Eds} {g : Int} {k : Nat} {x y : Int} (hx : x ∈ ns) (gx : g ≤ x) (e : (x, y) ∈ es) (h : Ds ns es g k y) (mn : ∀ j, j ≤ k → ¬ Wr ns es g j x) : Ds ns es g (k + 1) x :=
  ⟨⟨hx, gx, y, e, h.1⟩, fun j hj => mn j (by omega)⟩
theorem nodup_le : ∀ {l m : List Int}, l.Nodup → (∀ x ∈ l, x ∈ m) → l.length ≤ m.length
  | [], m, _, _ => Nat.zero_le _
  | x :: l, m, nd, h => by
    obtain ⟨nx, nd'⟩ := List.nodup_cons.mp nd
    have hm := h x List.mem_cons_self
    have := nodup_le (l := l) (m := m.erase x) nd' fun y hy => (List.mem_erase_of_ne (show y ≠ x from fun z => nx (by rw [← z]; exact hy))).mpr (h y (List.mem_cons_of_mem _ hy))
    rw [List.length_erase_of_mem hm] at this
    have : 0 < m.length := List.length_pos_of_mem hm
    rw [List.length_cons]; omega
theorem Ds.path {ns : List Int} {es : Eds} {g : Int} (hg : g ∈ ns) : ∀ {k : Nat} {x : Int}, Ds ns es g k x → ∃ l : List Int, l.length = k + 1 ∧ l.Nodup ∧ (∀ y ∈ l, y ∈ ns) ∧ ∀ y ∈ l, ∃ j, j ≤ k ∧ Ds ns es g j y
  | 0, x, h => ⟨[x], rfl, by simp, fun y hy => by rw [List.mem_singleton.mp hy, show x = g from h.1]; exact hg, fun y hy => ⟨0, Nat.le_refl _, by rw [List.mem_singleton.mp hy]; exact h⟩⟩
  | k + 1, x, h => by
    obtain ⟨y, e, d⟩ := h.next
    obtain ⟨l, h1, h2, h3, h4⟩ := Ds.path hg d
    refine ⟨x :: l, by rw [List.length_cons, h1], List.nodup_cons.mpr ⟨fun m => ?_, h2⟩, ?_, ?_⟩
    · obtain ⟨j, hj, dj⟩ := h4 x m
      have := dj.uniq h
      omega
    · intro z hz
      rcases List.mem_cons.mp hz with rfl | hz
      · exact h.1.1
      · exact h3 z hz
    · intro z hz
      rcases List.mem_cons.mp hz with rfl | hz
      · exact ⟨k + 1, Nat.le_refl _, h⟩
      · obtain ⟨j, hj, dj⟩ := h4 z hz
        exact ⟨j, by omega, dj⟩
theorem Ds.lt {ns : List Int} {es : Eds} {g : Int} (hg : g ∈ ns) {k : Nat} {x : Int} (h : Ds ns es g k x) : k < ns.length := by
  obtain ⟨l, h1, h2, h3, _⟩ := h.path hg
  have := nodup_le h2 h3
  omega
/-- what ring_from(g) gives -/
def Rf (ns : List Int) (es : Eds) (g : Int) (rs : List Int) : Prop :=
  (rs = [] ∧ ∀ y k, y ∈ ns → y ≠ g → (g, y) ∈ es → ¬ Ds ns es g k y) ∨
  ∃ (m : Nat) (r : List Int), rs = g :: r ∧ 0 < m ∧ (∃ y ∈ ns, (g, y) ∈ es ∧ Ds ns es g m y) ∧ (∀ y k, y ∈ ns → y ≠ g → (g, y) ∈ es → Ds ns es g k y → m ≤ k) ∧ Chain ns (fun k x y => Ds ns es g k y ∧ (x, y) ∈ es) m g r
/-- what the law gives -/
def Lr (ns : List Int) (es : Eds) (ls : List Int) : Prop :=
  (ls = [] ∧ ∀ L, 2 ≤ L → L ≤ ns.length → ∀ x ∈ ns, ¬ Wl es L x x) ∨
  ∃ (L : Nat) (x : Int) (r : List Int), ls = x :: r ∧ 2 ≤ L ∧ L ≤ ns.length ∧ IsFirst ns (fun x => Wl es L x x) x ∧ (∀ L', 2 ≤ L' → L' < L → ∀ x ∈ ns, ¬ Wl es L' x x) ∧ Chain ns (fun k u y => (u, y) ∈ es ∧ Wl es k y x) (L - 1) x r
def pick1 (b r : List Int) : List Int := if 0 < r.length ∧ (b.length = 0 ∨ r.length < b.length) then r else b
theorem pick_a {rss : List (List Int)} {n : Nat} : ∀ {b : List Int}, (b = [] ∨ n < b.length) → (∀ r ∈ rss, r = [] ∨ n < r.length) → (rss.foldl pick1 b = [] ∨ n < (rss.foldl pick1 b).length) := by
  induction rss with
  | nil => exact fun h _ => h
  | cons r rss ih =>
    intro b h h'
    rw [List.foldl_cons]
    refine ih ?_ fun r hr => h' r (List.mem_cons_of_mem _ hr)
    unfold pick1
    split
    · exact h' r List.mem_cons_self
    · exact h
theorem pick_b {rss : List (List Int)} {b : List Int} (hb : b ≠ []) (h : ∀ r ∈ rss, r = [] ∨ b.length ≤ r.length) : rss.foldl pick1 b = b := by
  induction rss with
  | nil => rfl
  | cons r rss ih =>
    rw [List.foldl_cons]
    have : pick1 b r = b := by
      unfold pick1
      refine if_neg fun c => ?_
      rcases h r List.mem_cons_self with e | e
      · rw [e] at c; exact absurd c.1 (by simp)
      · rcases c.2 with z | z
        · exact hb (List.length_eq_zero_iff.mp z)
        · omega
    rw [this]
    exact ih fun r hr => h r (List.mem_cons_of_mem _ hr)
theorem pick_nil {rss : List (List Int)} (h : ∀ r ∈ rss, r = []) : rss.foldl pick1 [] = [] := by
  induction rss with
  | nil => rfl
  | cons r rss ih =>
    rw [List.foldl_cons, h r List.mem_cons_self]
    exact ih fun r hr => h r (List.mem_cons_of_mem _ hr)
theorem pick_at {rss : List (List Int)} {i : Nat} {r : List Int} (hi : rss[i]? = some r) (hr : r ≠ []) (h1 : ∀ j s, j < i → rss[j]? = some s → s = [] ∨ r.length < s.length) (h2 : ∀ s ∈ rss, s = [] ∨ r.length ≤ s.length) : rss.foldl pick1 [] = r := by
  obtain ⟨hi', e⟩ := List.getElem?_eq_some_iff.mp hi
  have e2 : rss = rss.take i ++ r :: rss.drop (i + 1) := by rw [← e, ← List.drop_eq_getElem_cons hi', List.take_append_drop]
  rw [e2, List.foldl_append, List.foldl_cons]
  have ha := pick_a (rss := rss.take i) (n := r.length) (b := []) (.inl rfl) fun s hs => by
    obtain ⟨j, hj, ej⟩ := List.getElem_of_mem hs
    rw [List.length_take] at hj
    rw [List.getElem_take] at ej
    exact h1 j s (by omega) (by rw [List.getElem?_eq_getElem (by omega), ej])
  have : pick1 ((rss.take i).foldl pick1 []) r = r := by
    generalize (rss.take i).foldl pick1 [] = b0 at ha
    unfold pick1
    refine if_pos ⟨List.length_pos_iff.mpr hr, ?_⟩
    rcases ha with h | h
    · exact .inl (by rw [h]; rfl)
    · exact .inr h
  rw [this]
  exact pick_b hr fun s hs => h2 s (List.mem_of_mem_drop hs)
structure Gr (ns : List Int) (es : Eds) : Prop where
  up : ns.Pairwise (· < ·)
  ed : ∀ e ∈ es, e.1 ∈ ns ∧ e.2 ∈ ns ∧ e.1 ≠ e.2
theorem pair_at {α β : Type} {F : α → β → Prop} : ∀ {l : List α} {m : List β} {i : Nat} {x : α}, Paired F l m → l[i]? = some x → ∃ y, m[i]? = some y ∧ F x y
  | _, _, 0, _, .cons h r, e => ⟨_, rfl, by rw [← Option.some.inj e]; exact h⟩
  | _, _, i + 1, _, .cons h r, e => pair_at (i := i) r e
theorem pair_at2 {α β : Type} {F : α → β → Prop} : ∀ {l : List α} {m : List β} {i : Nat} {y : β}, Paired F l m → m[i]? = some y → ∃ x, l[i]? = some x ∧ F x y
  | _, _, 0, _, .cons h r, e => ⟨_, rfl, by rw [← Option.some.inj e]; exact h⟩
  | _, _, i + 1, _, .cons h r, e => pair_at2 (i := i) r e
/-- a ring of the program is a closed walk -/
theorem Rf.closed {ns : List Int} {es : Eds} {g : Int} {rs : List Int} (hg : g ∈ ns) (h : Rf ns es g rs) : rs = [] ∨ (2 ≤ rs.length ∧ rs.length ≤ ns.length ∧ Wl es rs.length g g) := by
  rcases h with ⟨e, _⟩ | ⟨m, r, e, hm, ⟨y, hy, ey, dy⟩, _, c⟩
  · exact .inl e
  · have := dy.lt hg
    have l : rs.length = m + 1 := by rw [e, List.length_cons, c.len]
    refine .inr ⟨by omega, by omega, ?_⟩
    rw [l, Nat.add_comm]
    exact Wl.app (Wl.one ey) dy.1.wl
theorem ring_eq {ns : List Int} {es : Eds} {rss : List (List Int)} {ls : List Int} (G : Gr ns es) (hp : Paired (Rf ns es) ns rss) (hl : Lr ns es ls) : rss.foldl pick1 [] = ls := by
  have shut : ∀ i s, rss[i]? = some s → ∃ g, ns[i]? = some g ∧ (s = [] ∨ (2 ≤ s.length ∧ s.length ≤ ns.length ∧ Wl es s.length g g)) := fun i s hi => by
    obtain ⟨g, hg, rf⟩ := pair_at2 hp hi
    exact ⟨g, hg, rf.closed (List.mem_of_getElem? hg)⟩
  rcases hl with ⟨rfl, no⟩ | ⟨L, x0, r, rfl, h2, hn, fs, mn, ch⟩
  · refine pick_nil fun s hs => ?_
    obtain ⟨i, hi, e⟩ := List.getElem_of_mem hs
    obtain ⟨g, hg, c⟩ := shut i s (by rw [List.getElem?_eq_getElem hi, e])
    rcases c with c | ⟨c1, c2, c3⟩
    · exact c
    · exact absurd c3 (no _ c1 c2 g (List.mem_of_getElem? hg))
  · obtain ⟨i0, hi0, w0, first⟩ := id fs
    have m0 : x0 ∈ ns := List.mem_of_getElem? hi0
    -- no closed walk is shorter
    have least : ∀ L' x, 1 ≤ L' → L' < L → ¬ Wl es L' x x := fun L' x h1 h3 w => by
      obtain ⟨k, rfl⟩ : ∃ k, L' = k + 1 := ⟨L' - 1, by omega⟩
      obtain ⟨y, e, _⟩ := Wl.head w
      have hx := (G.ed _ e).1
      by_cases c : k = 0
      · subst c
        obtain ⟨u, e1, e2⟩ := w
        obtain rfl : x = u := e1
        exact (G.ed _ e2).2.2 rfl
      · exact mn (k + 1) (by omega) h3 x hx w
    have above : ∀ y, y ∈ ns → Wl es L y y → x0 ≤ y := fun y hy w => by
      obtain ⟨j, hj, e⟩ := List.getElem_of_mem hy
      have hj' : ns[j]? = some y := by rw [List.getElem?_eq_getElem hj, e]
      have hji : ¬ j < i0 := fun c => first j y c hj' w
      obtain ⟨hi, e0⟩ := List.getElem?_eq_some_iff.mp hi0
      by_cases c : j = i0
      · subst c; rw [hi0] at hj'; exact Int.le_of_eq (Option.some.inj hj')
      · have := List.pairwise_iff_getElem.mp G.up i0 j hi hj (by omega)
        rw [e, e0] at this
        omega
    -- within a shortest closed walk at x0 all is above x0
    have back : ∀ k y, k ≤ L → Wl es k y x0 → Wl es (L - k) x0 y → Wr ns es x0 k y := by
      intro k
      induction k with
      | zero => intro y _ w _; exact w
      | succ k ih =>
        intro y hk w w'
        obtain ⟨z, e, w1⟩ := Wl.head w
        have hy := (G.ed _ e).1
        refine ⟨hy, above y hy ?_, z, e, ih z (by omega) w1 ?_⟩
        · have := Wl.app w w'
          rwa [show k + 1 + (L - (k + 1)) = L by omega] at this
        · have := Wl.app w' (Wl.one e)
          rwa [show L - (k + 1) + 1 = L - k by omega] at this
    have dist : ∀ k y, k < L → Wl es (L - k) x0 y → (Ds ns es x0 k y ↔ Wl es k y x0) := fun k y hk w => by
      refine ⟨fun d => d.1.wl, fun w' => ⟨back k y (by omega) w' w, fun j hj wr => ?_⟩⟩
      exact least (L - k + j) x0 (by omega) (by omega) (Wl.app w wr.wl)
    -- the chain
    have chain : ∀ k u s, k < L → Wl es (L - 1 - k) x0 u → Chain ns (fun k u y => (u, y) ∈ es ∧ Wl es k y x0) k u s → ∀ s', Chain ns (fun k x y => Ds ns es x0 k y ∧ (x, y) ∈ es) k u s' → s' = s := by
      intro k
      induction k with
      | zero => intro u s _ _ c s' c'; cases c; cases c'; rfl
      | succ k ih =>
        intro u s hk w c s' c'
        cases c with
        | @cons _ _ y r1 f1 c1 =>
          cases c' with
          | @cons _ _ y' r1' f1' c1' =>
            have f2 := f1'.congr (q := fun y => (u, y) ∈ es ∧ Wl es (k + 1) y x0) fun z => by
              constructor
              · rintro ⟨d, e⟩; exact ⟨e, d.1.wl⟩
              · rintro ⟨e, w1⟩
                refine ⟨(dist (k + 1) z hk ?_).mpr w1, e⟩
                have := Wl.app w (Wl.one e)
                rwa [show L - 1 - (k + 1) + 1 = L - (k + 1) by omega] at this
            obtain rfl := f1.uniq f2
            obtain ⟨_, _, ⟨e, _⟩, _⟩ := f1
            have := Wl.app w (Wl.one e)
            rw [show L - 1 - (k + 1) + 1 = L - 1 - k by omega] at this
            rw [ih y r1 (by omega) this c1 r1' c1']
    -- the program at x0
    obtain ⟨r0, hr0, rf⟩ := pair_at hp hi0
    have e0 : r0 = x0 :: r := by
      obtain ⟨y1, ey1, w1⟩ : ∃ y, (x0, y) ∈ es ∧ Wl es (L - 1) y x0 := by
        have : Wl es (L - 1 + 1) x0 x0 := by rwa [show L - 1 + 1 = L by omega]
        exact Wl.head this
      have d1 : Ds ns es x0 (L - 1) y1 := (dist (L - 1) y1 (by omega) (by rw [show L - (L - 1) = 1 by omega]; exact Wl.one ey1)).mpr w1
      have ny1 : y1 ≠ x0 := fun z => (G.ed _ ey1).2.2 z.symm
      have my1 := (G.ed _ ey1).2.1
      rcases rf with ⟨_, no⟩ | ⟨m, r', rfl, hm, ⟨y, hy, ey, dy⟩, least', c⟩
      · exact absurd d1 (no y1 _ my1 ny1 ey1)
      · have l1 := least' y1 _ my1 ny1 ey1 d1
        have l2 : ¬ (1 + m < L) := fun c => least (1 + m) x0 (by omega) c (Wl.app (Wl.one ey) dy.1.wl)
        obtain rfl : m = L - 1 := by omega
        rw [chain (L - 1) x0 r (by omega) (by rw [show L - 1 - (L - 1) = 0 by omega]; rfl) ch r' c]
    subst e0
    have lr : (x0 :: r).length = L := by rw [List.length_cons, ch.len]; omega
    refine pick_at hr0 (List.cons_ne_nil _ _) (fun j s hj hs => ?_) (fun s hs => ?_)
    · obtain ⟨g, hg, c⟩ := shut j s hs
      rcases c with c | ⟨c1, c2, c3⟩
      · exact .inl c
      · refine .inr ?_
        rw [lr]
        refine Nat.lt_of_le_of_ne (Nat.le_of_not_lt fun z => least _ _ (by omega) z c3) fun z => ?_
        exact first j g hj hg (by rw [z]; exact c3)
    · obtain ⟨i, hi, e⟩ := List.getElem_of_mem hs
      obtain ⟨g, hg, c⟩ := shut i s (by rw [List.getElem?_eq_getElem hi, e])
      rcases c with c | ⟨c1, c2, c3⟩
      · exact .inl c
      · refine .inr ?_
        rw [lr]
        exact Nat.le_of_not_lt fun z => least _ _ (by omega) z c3
end My

namespace My
open PySem L2
def Fd (ns : List Int) (es : Eds) (g : Int) (kvs : List (Key × V)) : Prop := ∀ x v, valV kvs (.inl x) = some v ↔ ∃ k : Nat, v = .int k ∧ Ds ns es g k x
def nearB (es : Eds) (ls : List Int) (x : Int) : Bool := ls.any fun y => decide ((x, y) ∈ es)
def spDist (K : PySem.W.Frag) : Sp := fun vs H Q _ => ∃ (g : Int) (a : Addr) (y : V) (ns : List Int) (es : Eds), vs = [.int g, .ref a, y] ∧ SqS K H a (ns.map V.int) ∧ ns.length ≤ 100 ∧ g ∈ ns ∧ Edg K H y es ∧
  ∀ f kvs H', Same H H' → H f = none → H' f = some (.dK kvs) → Fd ns es g kvs → Q (.ref f) H'
theorem sqS_same {K : PySem.W.Frag} {H H' : Hp} {a : Addr} {xs : List V} (s : Same H H') : (SqL K H a xs → SqL K H' a xs) ∧ (SqT K H a xs → SqT K H' a xs) :=
  ⟨fun h => s.seq h, fun h => (But.of_same (a := a + 1) s).sqT (Nat.ne_of_lt (Nat.lt_succ_self a)) h⟩
theorem SqS_same {K : PySem.W.Frag} {H H' : Hp} {a : Addr} {xs : List V} (h : SqS K H a xs) (s : Same H H') : SqS K H' a xs := h.elim (fun h => .inl ((sqS_same s).1 h)) (fun h => .inr ((sqS_same s).2 h))
/-- any([(x, y) in edges for y in layer]) -/
theorem any_out {K : PySem.W.Frag} {y : V} {x0 x1 x3 x5 x6 x8 : Option V} {l : Addr} {x : Int} {ls : List Int} {es : Eds} {H : Hp} {Q : VK} (hl : H l = some (.lst (ls.map V.int))) (hz : ls.length ≤ 1000) (he : Edg K H y es)
    (q : ∀ H', Same H H' → Q (.bl (nearB es ls x)) H') :
    tCB (rAny K) (tCons (tLc (iList K (tVar 4)) (gName 8) tYes (tOp (rInE K false) (tTup (tCons (tVar 7) (tCons (tVar 8) tNil))) (tVar 2)) [8]) tNil) [x0, x1, some y, x3, some (.ref l), x5, x6, some (.int x), x8] H Q := by
  have big : 1000 < sizeLine := by decide
  refine ⟨_, rfl, l, rfl, ⟨_, SqL.of hl⟩, fun D hD => lc_list (K := K) (a := l) (xs := ls.map V.int) (fun i H' => Same H H' ∧ H' D = some (.lst ((ls.take i).map fun y => V.bl (decide ((x, y) ∈ es))))) ⟨same_new hD, upd_same⟩ (fun i H' _ h => SqL.of (h.1 _ _ hl)) ?_ ?_⟩
  · rintro i v H1 hv ⟨s1, hD1⟩
    rw [List.getElem?_map] at hv
    cases e : ls[i]? with
    | none => rw [e] at hv; cases hv
    | some y1 =>
      rw [e] at hv
      obtain rfl : V.int y1 = v := Option.some.inj hv
      refine ⟨rfl, ?_⟩
      unfold tYes
      refine iteT ⟨_, rfl, _, rfl, by show 2 ≤ sizeLine; decide, fun u hu => ⟨_, rfl, (x, y1), es, ⟨u, rfl, upd_same⟩, edg_same (s1.trans (same_new hu)) he, _, same_new hu _ _ hD1, ?_, ?_, ?_⟩⟩
      · rw [List.length_map, List.length_take]; omega
      · exact same_mut (s1.trans (same_new hu)) hD
      · rw [upd_same, List.take_succ, e]
        simp
  · rintro H1 ⟨s1, hD1⟩
    rw [List.length_map, List.take_length] at hD1
    refine ⟨D, ls.map fun y => decide ((x, y) ∈ es), rfl, SqL.of (by rw [hD1, List.map_map]; rfl), ?_⟩
    rw [List.any_map]
    exact q H1 s1
def Fk (ns : List Int) (es : Eds) (g : Int) (s : Nat) (kvs : List (Key × V)) : Prop := ∀ x v, valV kvs (.inl x) = some v ↔ ∃ k : Nat, k ≤ s ∧ v = .int k ∧ Ds ns es g k x
def nextB (es : Eds) (g : Int) (kvs : List (Key × V)) (ls : List Int) (x : Int) : Bool := decide (g ≤ x) && (!(valV kvs (.inl x)).isSome && nearB es ls x)
theorem get_int' {ns : List Int} {i : Nat} {v : V} (h : (ns.map V.int)[i]? = some v) : ∃ x, ns[i]? = some x ∧ v = .int x := by
  rw [List.getElem?_map] at h
  cases e : ns[i]? with
  | none => rw [e] at h; cases h
  | some y => rw [e] at h; exact ⟨y, rfl, (Option.some.inj h).symm⟩
theorem Fk.none {ns : List Int} {es : Eds} {g : Int} {s : Nat} {kvs : List (Key × V)} (h : Fk ns es g s kvs) {x : Int} : (valV kvs (.inl x)).isSome = false ↔ ∀ k, k ≤ s → ¬ Ds ns es g k x := by
  constructor
  · intro e k hk d
    have := (h x (.int k)).mpr ⟨k, hk, rfl, d⟩
    rw [this] at e; cases e
  · intro no
    cases e : valV kvs (.inl x) with
    | none => rfl
    | some v =>
      obtain ⟨k, hk, _, d⟩ := (h x v).mp e
      exact absurd d (no k hk)
theorem next_iff {ns : List Int} {es : Eds} {g : Int} {s : Nat} {kvs : List (Key × V)} {ls : List Int} (h : Fk ns es g s kvs) (hl : ∀ x, x ∈ ls ↔ Ds ns es g s x) (x : Int) : x ∈ ns.filter (nextB es g kvs ls) ↔ Ds ns es g (s + 1) x := by
  rw [List.mem_filter]
  unfold nextB nearB
  rw [Bool.and_eq_true, Bool.and_eq_true, decide_eq_true_iff, Bool.not_eq_true', h.none, List.any_eq_true]
  constructor
  · rintro ⟨hx, gx, no, y, hy, e⟩
    refine Ds.of_next hx gx (of_decide_eq_true e) ((hl y).mp hy) fun j hj w => ?_
    obtain ⟨i, hi, d⟩ := w.ds
    exact no i (by omega) d
  · intro d
    obtain ⟨y, e, dy⟩ := d.next
    refine ⟨d.1.1, d.1.2.1, fun k hk dk => ?_, y, (hl y).mpr dy, decide_eq_true e⟩
    have := dk.uniq d
    omega
section
variable {P : Program} {w : World} {K : PySem.W.Frag} {mg : Str → Option Value} {base : Heap}
theorem ok_distances (T : Txt K mg) : FnOk P w K mg base CX0 2 T.a_distances T.fd_distances ["goal", "nodes", "edges"] (spDist K) := by
  refine T.F_distances.ok sc_distances (fun vs H Q E h => ?_) (fun cdv A outer s H vs Q E hr h => ?_)
  · obtain ⟨g, a, y, ns, es, rfl, _⟩ := h; rfl
  · obtain ⟨g, a, y, ns, es, rfl, hS, hz, hg, hE, q⟩ := h
    refine ⟨_, (pss_cons (ps_set (i := 3) sc_distances.nd rfl (.inl rfl) (pe_disp (pps_cons (pv 0) (pe_int) pps_nil) rfl rfl (by simp) (by decide)))
      (pss_cons (ps_set (i := 4) sc_distances.nd rfl (.inl rfl) (pe_lst (pa_cons (pv 0) pa_nil)))
      (pss_cons (ps_set (i := 5) sc_distances.nd rfl (.inl rfl) (pe_int))
      (pss_cons (ps_while PassesOwn.never (pt_cmpR op_gt (pe_callB call_len_seq (by rfl) T.n_len (by decide +kernel) (pa_cons (pv 4) pa_nil)) (pe_int) (nomark _)) (pss_cons (ps_aug (i := 5) sc_distances.nd rfl (.inl rfl) (pe_int) ip_add)
      (pss_cons (ps_set (i := 6) sc_distances.nd rfl (.inl rfl) (pe_lst pa_nil))
      (pss_cons (ps_for PassesOwn.never rfl (pi_sqK (K := K) rfl (pv 1)) (pg_name (i := 7) sc_distances.nd rfl (.inr rfl)) (pss_one (ps_if (PW.pt (pw_and (pt_cmpR op_ge (pv 7) (pv 0) (nomark _)) (pw_and (pt_cmpR (op_ninKd (hu_of hr)) (pv 7) (pv 3) (by with_unfolding_all rfl)) (pw_and1 (pt_val (pe_callB (anyK (K := K) rfl rfl) (by rfl) T.n_any (by decide +kernel) (pa_cons (pe_lc (own := [("other", 8)]) (g := (gName 8)) (by rfl) sc_distances.nd (pi_list (pv 4)) (blkOk_by (own := [("other", 8)]) (N := ["goal", "nodes", "edges", "found", "layer", "steps", "further", "node", "other"]) (sc := defScope S_distances) (by decide +kernel)) (fun _ _ _ _ _ => (pg_name (i := 8) sc_distances.nd rfl (by first | exact .inl rfl | exact .inr rfl))) (fun _ _ _ _ _ => pts_nil) (fun _ _ _ _ _ => (pe_cmpR (inEK (K := K) rfl (hu65 hr)) (pe_tup (pa_cons (pv 7) (pa_cons (pv 8) pa_nil))) (pv 2) (by with_unfolding_all rfl)))) pa_nil))))))) (pss_one (ps_expr (pe_bm PySem.F.plainAttrs_list PySem.F.slot_list_append PySem.F.type_list_append mt_append (pv 6) (pa_cons (pv 7) pa_nil)))) pss_nil)))
      (pss_cons (ps_for PassesOwn.never rfl (pi_list (pv 6)) (pg_name (i := 7) sc_distances.nd rfl (.inr rfl)) (pss_one (ps_dput (hu_of hr) (pv 3) (pv 7) (pv 5) rfl)))
      (pss_one (ps_set (i := 4) sc_distances.nd rfl (.inl rfl) (pv 6))))))))
      (pss_one (ps_ret (pv 3))))))), ?_⟩
    have big : 100000 < sizeLine := by decide
    refine fun f hf => ⟨_, rfl, upd_same, [(.inl g, .int 0)], rfl, by show 1 ≤ 15; decide, ?_⟩
    have sf : Same H (upd (upd H f (.dK [])) f (.dK (mergeK [] [(.inl g, .int 0)]))) := same_mut (same_new hf) hf
    have hf1 : (upd (upd H f (.dK [])) f (.dK (mergeK [] [(.inl g, .int 0)]))) f = some (.dK [(.inl g, .int 0)]) := upd_same
    revert sf hf1
    generalize upd (upd H f (.dK [])) f (.dK (mergeK [] [(.inl g, .int 0)])) = H1
    intro sf hf1
    refine ⟨_, rfl, by show 1 ≤ sizeLine; decide, fun la hla => ?_⟩
    have s1 := same_new (o := .lst [.int g]) hla
    refine ⟨fun m σ H' => ∃ (la : Addr) (ls : List Int) (kvs : List (Key × V)) (s : Nat) (x6 x7 x8 : Option V), σ = [some (.int g), some (.ref a), some y, some (.ref f), some (.ref la), some (.int (s : Nat)), x6, x7, x8] ∧ m = ns.length + 1 - s ∧ s ≤ ns.length ∧ Same H H' ∧ H' la = some (.lst (ls.map V.int)) ∧ H' f = some (.dK kvs) ∧
      Fk ns es g s kvs ∧ (∀ x, x ∈ ls ↔ Ds ns es g s x) ∧ ls.length ≤ 1 + ns.length ∧ kvs.length ≤ 1 + s * ns.length, ⟨_, la, [g], _, 0, _, _, _, rfl, rfl, Nat.zero_le _, sf.trans s1, upd_same, s1 _ _ hf1, ?_, ?_, ?_, ?_⟩, ?_⟩
    · intro x v
      by_cases c : x = g
      · subst c
        rw [valV_pos rfl]
        constructor
        · intro h; exact ⟨0, Nat.le_refl _, (Option.some.inj h).symm, rfl, fun j hj => absurd hj (Nat.not_lt_zero _)⟩
        · rintro ⟨k, hk, rfl, d⟩
          obtain rfl : k = 0 := by omega
          rfl
      · rw [valV_neg (fun z => c (Sum.inl.inj z).symm)]
        constructor
        · intro h; cases h
        · rintro ⟨k, hk, rfl, d⟩
          obtain rfl : k = 0 := by omega
          exact absurd d.1 c
    · intro x
      rw [List.mem_singleton]
      exact ⟨fun h => ⟨h, fun j hj => absurd hj (Nat.not_lt_zero _)⟩, fun h => h.1⟩
    · show 1 ≤ 1 + ns.length; omega
    · show 1 ≤ 1 + 0 * ns.length; omega
    rintro m σ H2 ⟨la, ls, kvs, s, x6, x7, x8, rfl, rfl, hs, t2, hla2, hf2, fk, hl, ll, lk⟩
    refine ⟨_, rfl, la, _, rfl, .inl (SqL.of hla2), _, _, rfl, rfl, _, rfl, iteD (fun c => ?_) (fun c => ?_)⟩
    · have hne : ls ≠ [] := fun z => by rw [z] at c; simp at c
      obtain ⟨x0, hx0⟩ := List.exists_mem_of_ne_nil ls hne
      have slt : s < ns.length := ((hl x0).mp hx0).lt hg
      refine ⟨_, fun σ' H' h => h, ?_⟩
      refine ⟨_, rfl, _, _, rfl, rfl, Nat.zero_le _, fun fu hfu => ?_⟩
      have s3 := same_new (o := .lst ([] : List V)) hfu
      have nfu : H fu = none := t2.free hfu
      have nff : f ≠ fu := ne_of_none hf2 hfu
      have nlf : la ≠ fu := ne_of_none hla2 hfu
      have t3 := t2.trans s3
      have hla3 := s3 _ _ hla2
      have hf3 := s3 _ _ hf2
      refine ⟨_, rfl, a, rfl, for_sq (K := K) (a := a) (xs := ns.map V.int) hS (fun i σ H' => ∃ x7 x8, σ = [some (.int g), some (.ref a), some y, some (.ref f), some (.ref la), some (.int ((s : Nat) + 1 : Int)), some (.ref fu), x7, x8] ∧ Same H2 H' ∧ H' fu = some (.lst (((ns.take i).filter (nextB es g kvs ls)).map V.int)))
        ⟨_, _, rfl, s3, upd_same⟩ (fun i σ H' _ ⟨_, _, _, s, _⟩ => sqS_same (t2.trans s)) ?_ ?_⟩
      · rintro i v σ H4 hv ⟨x7', x8', rfl, s4, hfu4⟩
        obtain ⟨x, hx, rfl⟩ := get_int' hv
        have t4 := t2.trans s4
        have stay : nextB es g kvs ls x = false → ∀ H5, Same H4 H5 → ∃ x7 x8, ([some (.int g), some (.ref a), some y, some (.ref f), some (.ref la), some (.int ((s : Nat) + 1 : Int)), some (.ref fu), some (.int x), x8'] : L2.St) = [some (.int g), some (.ref a), some y, some (.ref f), some (.ref la), some (.int ((s : Nat) + 1 : Int)), some (.ref fu), x7, x8] ∧ Same H2 H5 ∧ H5 fu = some (.lst (((ns.take (i + 1)).filter (nextB es g kvs ls)).map V.int)) := fun e H5 s5 => by
          refine ⟨_, _, rfl, s4.trans s5, ?_⟩
          rw [filter_take_succ _ hx, e, s5 _ _ hfu4]
          simp
        refine ⟨_, rfl, _, rfl, _, _, rfl, rfl, _, rfl, iteD (fun c1 => ?_) (fun c1 => stay (by unfold nextB; rw [decide_eq_false c1]; rfl) H4 fun _ _ h => h)⟩
        refine ⟨_, rfl, _, rfl, f, _, rfl, DGet.k (k := .inl x) (s4 _ _ hf2), _, rfl, ?_⟩
        cases c2 : (valV kvs (.inl x)).isSome with
        | true => exact iteF (stay (by unfold nextB; rw [c2, Bool.not_true, Bool.false_and, Bool.and_false]) H4 fun _ _ h => h)
        | false =>
          refine iteT (any_out (ls := ls) (es := es) (s4 _ _ hla2) (by omega) (edg_same t4 hE) fun H5 s5 => ⟨_, rfl, ?_⟩)
          cases c3 : nearB es ls x with
          | false => exact iteF (stay (by unfold nextB; rw [c3, Bool.and_false, Bool.and_false]) H5 s5)
          | true =>
            have e : nextB es g kvs ls x = true := by unfold nextB; rw [c2, c3, decide_eq_true c1]; rfl
            have hfu5 := s5 _ _ hfu4
            refine iteT ⟨_, rfl, .inl ⟨rfl, _, SqL.of hfu5⟩, _, rfl, _, _, _, rfl, rfl, hfu5, ?_, ?_⟩
            · have := List.length_filter_le (nextB es g kvs ls) (ns.take i)
              rw [List.length_take] at this
              rw [List.length_map]; omega
            · refine ⟨_, _, rfl, same_mut (s4.trans s5) hfu, ?_⟩
              rw [upd_same, filter_take_succ _ hx, e]
              simp
      · rintro σ H4 ⟨x7', x8', rfl, s4, hfu4⟩
        rw [List.length_map, List.take_length] at hfu4
        have t4 := t2.trans s4
        have nx := next_iff (ns := ns) fk hl
        have lf := List.length_filter_le (nextB es g kvs ls) ns
        revert hfu4 nx lf
        generalize ns.filter (nextB es g kvs ls) = fs
        intro hfu4 nx lf
        have hf4 := s4 _ _ hf2
        refine ⟨_, rfl, fu, rfl, ⟨_, SqL.of hfu4⟩, for_list (K := K) (a := fu) (xs := fs.map V.int) (fun i σ H' => ∃ x7 kvs', σ = [some (.int g), some (.ref a), some y, some (.ref f), some (.ref la), some (.int ((s : Nat) + 1 : Int)), some (.ref fu), x7, x8'] ∧ Same H H' ∧ H' fu = some (.lst (fs.map V.int)) ∧ H' f = some (.dK kvs') ∧ kvs'.length ≤ kvs.length + i ∧
            ∀ x, valV kvs' (.inl x) = if x ∈ fs.take i then some (.int ((s : Nat) + 1 : Int)) else valV kvs (.inl x))
          ⟨_, kvs, rfl, t4, hfu4, hf4, Nat.le_refl _, fun x => by simp⟩ (fun i σ H' _ ⟨_, _, _, _, h, _⟩ => SqL.of h) ?_ ?_⟩
        · rintro i v σ H5 hv ⟨x7'', kvs', rfl, t5, hfu5, hf5, l5, v5⟩
          obtain ⟨x, hx, rfl⟩ := get_int' hv
          have hi : i < fs.length := (List.getElem?_eq_some_iff.mp hx).1
          have sq : s * ns.length ≤ 100 * 100 := Nat.mul_le_mul (by omega) hz
          refine ⟨_, rfl, _, rfl, _, rfl, f, _, rfl, DPut.k (k := .inl x) hf5 (by omega), ?_⟩
          refine ⟨_, _, rfl, same_mut t5 hf, ?_, upd_same, ?_, fun z => ?_⟩
          · rw [upd_ne nff.symm]; exact hfu5
          · have := length_putK kvs' (.inl x) (V.int ((s : Nat) + 1 : Int)); omega
          · rw [valV_put, v5 z, List.take_add_one, hx]
            by_cases e : z = x
            · subst e; simp
            · have e2 : ¬ (Sum.inl z : Key) = Sum.inl x := fun c => e (Sum.inl.inj c)
              rw [if_neg e2]
              simp [e]
        · rintro σ H5 ⟨x7'', kvs', rfl, t5, hfu5, hf5, l5, v5⟩
          rw [List.length_map] at l5 v5
          rw [List.take_length] at v5
          refine ⟨_, rfl, ns.length + 1 - (s + 1), by omega, fu, fs, kvs', s + 1, _, _, _, rfl, rfl, by omega, t5, hfu5, hf5, fun x v => ?_, nx, by omega, ?_⟩
          · rw [v5 x]
            by_cases e : x ∈ fs
            · rw [if_pos e]
              have d := (nx x).mp e
              constructor
              · intro h; exact ⟨s + 1, Nat.le_refl _, (Option.some.inj h).symm, d⟩
              · rintro ⟨k, _, rfl, d'⟩
                rw [d'.uniq d]; rfl
            · rw [if_neg e, fk x v]
              constructor
              · rintro ⟨k, h1, h2, h3⟩; exact ⟨k, by omega, h2, h3⟩
              · rintro ⟨k, h1, h2, h3⟩
                refine ⟨k, Nat.le_of_not_lt fun c => e ((nx x).mpr ?_), h2, h3⟩
                rwa [show k = s + 1 by omega] at h3
          · rw [Nat.succ_mul]; omega
    · refine ⟨_, rfl, q f kvs H2 t2 hf hf2 fun x v => ?_⟩
      have e0 : ls = [] := by
        rcases ls with _ | ⟨x, r⟩
        · rfl
        · exact absurd (by simp) c
      subst e0
      have none : ∀ k x, s ≤ k → ¬ Ds ns es g k x := by
        intro k
        induction k with
        | zero => intro x h d; obtain rfl : s = 0 := by omega
                  exact absurd ((hl x).mpr d) List.not_mem_nil
        | succ k ih =>
          intro x h d
          by_cases e : s = k + 1
          · subst e; exact absurd ((hl x).mpr d) List.not_mem_nil
          · obtain ⟨y, _, dy⟩ := d.next
            exact ih y (by omega) dy
      rw [fk x v]
      constructor
      · rintro ⟨k, _, e, d⟩; exact ⟨k, e, d⟩
      · rintro ⟨k, e, d⟩
        exact ⟨k, Nat.le_of_not_lt fun h => none k x (by omega) d, e, d⟩
end
end My

namespace My
open PySem L2
def spRF (K : PySem.W.Frag) : Sp := fun vs H Q _ => ∃ (g : Int) (a : Addr) (y : V) (ns : List Int) (es : Eds), vs = [.int g, .ref a, y] ∧ SqS K H a (ns.map V.int) ∧ ns.length ≤ 100 ∧ g ∈ ns ∧ Edg K H y es ∧
  ∀ r rs H', Same H H' → H r = none → H' r = some (.tup (rs.map V.int)) → Rf ns es g rs → Q (.ref r) H'
def lenP (kvs : List (Key × V)) (g : Int) (es : Eds) (x : Int) : Bool := (valV kvs (.inl x)).isSome && (!decide (x = g) && decide ((g, x) ∈ es))
def dval (kvs : List (Key × V)) (x : Int) : Int := match valV kvs (.inl x) with
  | some (.int k) => k
  | _ => 0
theorem Fd.some {ns : List Int} {es : Eds} {g : Int} {kvs : List (Key × V)} (h : Fd ns es g kvs) {x : Int} (e : (valV kvs (.inl x)).isSome = true) : ∃ k : Nat, valV kvs (.inl x) = some (.int k) ∧ dval kvs x = k ∧ Ds ns es g k x := by
  cases e1 : valV kvs (.inl x) with
  | none => rw [e1] at e; cases e
  | some v =>
    obtain ⟨k, rfl, d⟩ := (h x v).mp e1
    exact ⟨k, rfl, by unfold dval; rw [e1], d⟩
theorem Fd.none {ns : List Int} {es : Eds} {g : Int} {kvs : List (Key × V)} (h : Fd ns es g kvs) {x : Int} (e : (valV kvs (.inl x)).isSome = false) (k : Nat) : ¬ Ds ns es g k x := fun d => by
  rw [(h x _).mpr ⟨k, rfl, d⟩] at e; cases e
section
variable {P : Program} {w : World} {K : PySem.W.Frag} {mg : Str → Option Value} {base : Heap}
theorem ok_ring_from (T : Txt K mg) : FnOk P w K mg base CX0 3 T.a_ring_from T.fd_ring_from ["first", "nodes", "edges"] (spRF K) := by
  refine T.F_ring_from.ok sc_ring_from (fun vs H Q E h => ?_) (fun cdv A outer s H vs Q E hr h => ?_)
  · obtain ⟨g, a, y, ns, es, rfl, _⟩ := h; rfl
  · obtain ⟨g, a, y, ns, es, rfl, hS, hz, hg, hE, q⟩ := h
    refine ⟨_, (pss_cons (ps_set (i := 3) sc_ring_from.nd rfl (.inr rfl) (pe_call (ok_distances T) (hr.mono (by omega)) (by rfl) T.g_distances T.F_distances.kp T.b_distances .nil pass0 (pa_cons (pv 0) (pa_cons (pv 1) (pa_cons (pv 2) pa_nil)))))
      (pss_cons (ps_setLc (i := 4) (own := [("node", 5)]) (g := (gName 5)) (by rfl) sc_ring_from.nd rfl rfl (sw_true rfl rfl rfl (by decide +kernel)) (pi_sqK (K := K) rfl (pv 1)) (blkOk_by (own := [("node", 5)]) (N := ["first", "nodes", "edges", "found", "lengths", "node", "left", "length", "ring"]) (sc := defScope S_ring_from) (by decide +kernel)) (fun _ _ _ _ _ => (pg_name (i := 5) sc_ring_from.nd rfl (by first | exact .inl rfl | exact .inr rfl))) (fun _ _ _ _ _ => (pts_one (PW.pt (pw_and (pt_cmpR (op_inKd (hu_of hr)) (pv 5) (pv 3) (by with_unfolding_all rfl)) (pw_and (pt_cmpR op_ne (pv 5) (pv 0) (nomark _)) (pw_and1 (pt_cmpR (inEK (K := K) rfl (hu65 hr)) (pe_tup (pa_cons (pv 0) (pa_cons (pv 5) pa_nil))) (pv 2) (by with_unfolding_all rfl)))))))) (fun _ _ _ _ _ => (pe_dget (hu_of hr) (pv 3) (pv 5) (fun _ _ => rfl))))
      (pss_cons (ps_if (pt_cmpR op_eq (pe_callB call_len_seq (by rfl) T.n_len (by decide +kernel) (pa_cons (pv 4) pa_nil)) (pe_int) (nomark _)) (pss_one (ps_ret (pe_tup pa_nil))) pss_nil)
      (pss_cons (ps_set (i := 6) sc_ring_from.nd rfl (.inl rfl) (pe_callB (minK (K := K) rfl rfl) (by rfl) T.n_min (by decide +kernel) (pa_cons (pe_lc (own := [("length", 7)]) (g := (gName 7)) (by rfl) sc_ring_from.nd (pi_list (pv 4)) (blkOk_by (own := [("length", 7)]) (N := ["first", "nodes", "edges", "found", "lengths", "node", "left", "length", "ring"]) (sc := defScope S_ring_from) (by decide +kernel)) (fun _ _ _ _ _ => (pg_name (i := 7) sc_ring_from.nd rfl (by first | exact .inl rfl | exact .inr rfl))) (fun _ _ _ _ _ => pts_nil) (fun _ _ _ _ _ => (pe_callTy call_int1 (by rfl) T.n_int (by decide +kernel) (pa_cons (pv 7) pa_nil)))) pa_nil)))
      (pss_cons (ps_set (i := 8) sc_ring_from.nd rfl (.inl rfl) (pe_lst (pa_cons (pv 0) pa_nil)))
      (pss_cons (ps_while PassesOwn.never (pt_cmpR op_gt (pv 6) (pe_int) (nomark _)) (pss_cons (ps_for PassesOwn.never rfl (pi_sqK (K := K) rfl (pv 1)) (pg_name (i := 5) sc_ring_from.nd rfl (.inl rfl)) (pss_one (ps_if (PW.pt (pw_and (pt_cmpR (op_inKd (hu_of hr)) (pv 5) (pv 3) (by with_unfolding_all rfl)) (pw_and (pt_cmpR op_eq (pe_dget (hu_of hr) (pv 3) (pv 5) (fun _ _ => rfl)) (pv 6) (nomark _)) (pw_and1 (pt_cmpR (inEK (K := K) rfl (hu65 hr)) (pe_tup (pa_cons (pe_ix ix_list (pv 8) (pe_un un_neg (pe_int)) (fun _ _ => rfl)) (pa_cons (pv 5) pa_nil))) (pv 2) (by with_unfolding_all rfl)))))) (pss_cons (ps_expr (pe_bm PySem.F.plainAttrs_list PySem.F.slot_list_append PySem.F.type_list_append mt_append (pv 8) (pa_cons (pv 5) pa_nil)))
      (pss_one ps_break)) pss_nil)))
      (pss_one (ps_aug (i := 6) sc_ring_from.nd rfl (.inl rfl) (pe_int) ip_sub))))
      (pss_one (ps_ret (pe_callTy call_tuple_of (by rfl) T.n_tuple (by decide +kernel) (pa_cons (pv 8) pa_nil)))))))))), ?_⟩
    have big : 100000 < sizeLine := by decide
    refine ⟨_, rfl, _, rfl, _, rfl, g, a, y, ns, es, rfl, hS, hz, hg, hE, fun f kvs H1 s1 nf hf fd => ?_⟩
    refine ⟨_, rfl, a, rfl, lc_sq (K := K) (a := a) (xs := ns.map V.int) (H0 := H) hS (sqS_same s1) (fun D i H' => Same H1 H' ∧ H' D = some (.lst ((((ns.take i).filter (lenP kvs g es)).map (dval kvs)).map V.int)))
      (fun D hD => ⟨same_new hD, upd_same⟩) (fun D i H' _ _ h => sqS_same (s1.trans h.1)) ?_ ?_⟩
    · rintro D hD i v H2 hv ⟨s2, h2⟩
      obtain ⟨x, hx, rfl⟩ := get_int' hv
      refine ⟨rfl, ?_⟩
      have hf2 := s2 _ _ hf
      have stay : lenP kvs g es x = false → ∀ H3, Same H2 H3 → Same H1 H3 ∧ H3 D = some (.lst ((((ns.take (i + 1)).filter (lenP kvs g es)).map (dval kvs)).map V.int)) := fun e H3 s3 => by
        refine ⟨s2.trans s3, ?_⟩
        rw [filter_take_succ _ hx, e, s3 _ _ h2]
        simp
      refine ⟨_, rfl, _, rfl, f, _, rfl, DGet.k (k := .inl x) hf2, _, rfl, ?_⟩
      cases c1 : (valV kvs (.inl x)).isSome with
      | false => exact iteF (iteF (stay (by unfold lenP; rw [c1]; rfl) H2 fun _ _ h => h))
      | true =>
        refine iteT ⟨_, rfl, _, rfl, rfl, _, rfl, iteN (fun c2 => ?_) (fun c2 => iteF (stay (by unfold lenP; rw [V.int.inj c2, decide_eq_true rfl, Bool.not_true, Bool.false_and, Bool.and_false]) H2 fun _ _ h => h))⟩
        have c2 : ¬ x = g := fun z => c2 (by rw [z])
        refine ⟨_, rfl, _, rfl, by show 2 ≤ sizeLine; decide, fun u hu => ⟨_, rfl, (g, x), es, ⟨u, rfl, upd_same⟩, edg_same ((s1.trans s2).trans (same_new hu)) hE, _, rfl, ?_⟩⟩
        have su := same_new (o := .tup [.int g, .int x]) hu
        by_cases c3 : (g, x) ∈ es
        · refine iteYes (by simp [c3]) ?_
          have e : lenP kvs g es x = true := by unfold lenP; rw [c1, decide_eq_false c2, decide_eq_true c3]; rfl
          obtain ⟨k, ek, dk, _⟩ := fd.some c1
          refine ⟨_, rfl, _, rfl, f, _, rfl, ek ▸ DGet.k (k := .inl x) (su _ _ hf2), _, su _ _ h2, ?_, same_mut (s2.trans su) hD, ?_⟩
          · have := List.length_filter_le (lenP kvs g es) (ns.take i)
            rw [List.length_take] at this
            rw [List.length_map, List.length_map]; omega
          · rw [upd_same, filter_take_succ _ hx, e, if_pos rfl, List.map_append, List.map_append, ← dk]; rfl
        · exact iteNo (by simp [c3]) (stay (by unfold lenP; rw [decide_eq_false c3, Bool.and_false, Bool.and_false]) _ su)
    · rintro D hD H2 ⟨s2, h2⟩
      rw [List.length_map, List.take_length] at h2
      have t2 := s1.trans s2
      have mlen : ∀ l, l ∈ (ns.filter (lenP kvs g es)).map (dval kvs) ↔ ∃ (x : Int) (k : Nat), l = k ∧ x ∈ ns ∧ x ≠ g ∧ (g, x) ∈ es ∧ Ds ns es g k x := fun l => by
        rw [List.mem_map]
        constructor
        · rintro ⟨x, hx, rfl⟩
          obtain ⟨hx, px⟩ := List.mem_filter.mp hx
          unfold lenP at px
          rw [Bool.and_eq_true, Bool.and_eq_true, Bool.not_eq_true', decide_eq_false_iff_not, decide_eq_true_iff] at px
          obtain ⟨k, _, e, d⟩ := fd.some px.1
          exact ⟨x, k, e, hx, px.2.1, px.2.2, d⟩
        · rintro ⟨x, k, rfl, hx, ng, e, d⟩
          have ev := (fd x _).mpr ⟨k, rfl, d⟩
          refine ⟨x, List.mem_filter.mpr ⟨hx, ?_⟩, by unfold dval; rw [ev]⟩
          unfold lenP
          rw [ev, decide_eq_false ng, decide_eq_true e]; rfl
      have ll : ((ns.filter (lenP kvs g es)).map (dval kvs)).length ≤ 100 := by
        rw [List.length_map]; have := List.length_filter_le (lenP kvs g es) ns; omega
      revert h2 mlen ll
      generalize (ns.filter (lenP kvs g es)).map (dval kvs) = lens
      intro h2 mlen ll
      have hf2 := s2 _ _ hf
      refine ⟨_, rfl, D, _, rfl, .inl (SqL.of h2), rfl, _, rfl, iteD (fun c2 => ?_) (fun c2 => ?_)⟩
      · have e0 : lens = [] := by
          have := V.int.inj c2
          rw [List.length_map] at this
          exact List.length_eq_zero_iff.mp (by omega)
        subst e0
        refine ⟨Nat.zero_le _, fun r hr => q r [] _ (t2.trans (same_new hr)) (t2.free hr) upd_same (.inl ⟨rfl, fun y k hy ng e d => ?_⟩)⟩
        exact absurd ((mlen k).mpr ⟨y, k, rfl, hy, ng, e, d⟩) List.not_mem_nil
      have ne0 : 0 < lens.length := by
        rcases lens with _ | ⟨_, _⟩
        · exact absurd rfl c2
        · exact Nat.succ_pos _
      refine ⟨_, rfl, D, rfl, ⟨_, SqL.of h2⟩, fun D2 hD2 => lc_list (K := K) (a := D) (xs := lens.map V.int) (fun i H' => Same H2 H' ∧ H' D2 = some (.lst ((lens.take i).map V.int))) ⟨same_new hD2, upd_same⟩ (fun i H' _ h => SqL.of (h.1 _ _ h2)) ?_ ?_⟩
      · rintro i v H3 hv ⟨s3, h3⟩
        obtain ⟨x, hx, rfl⟩ := get_int' hv
        refine ⟨rfl, ?_⟩
        unfold tYes
        refine iteT ⟨_, rfl, .inl ⟨_, rfl, _, h3, ?_, same_mut s3 hD2, ?_⟩⟩
        · rw [List.length_map, List.length_take]; omega
        · rw [upd_same, List.take_add_one, hx, List.map_append]; rfl
      rintro H3 ⟨s3, h3⟩
      rw [List.length_map, List.take_length] at h3
      refine ⟨D2, lens, rfl, SqL.of h3, ne0, fun mm mem least => ?_⟩
      obtain ⟨y0, m, rfl, hy0, ny0, ey0, dy0⟩ := (mlen mm).mp mem
      have mpos : 0 < m := Nat.pos_of_ne_zero fun z => ny0 (by rw [z] at dy0; exact dy0.1)
      have mlt := dy0.lt hg
      have t3 := t2.trans s3
      have hf3 := s3 _ _ hf2
      refine ⟨_, rfl, by show 1 ≤ sizeLine; decide, fun rg hrg => ?_⟩
      have s4 := same_new (o := .lst [.int g]) hrg
      have nrg : H rg = none := t3.free hrg
      have nfr : f ≠ rg := ne_of_none hf3 hrg
      refine ⟨fun mu σ H' => ∃ (j : Nat) (pre r1 : List Int) (u : Int) (x5 x7 : Option V), σ = [some (.int g), some (.ref a), some y, some (.ref f), some (.ref D), x5, some (.int (j : Nat)), x7, some (.ref rg)] ∧ mu = j ∧ Same H H' ∧ H' f = some (.dK kvs) ∧ H' rg = some (.lst ((pre ++ [u]).map V.int)) ∧ pre ++ [u] = g :: r1 ∧ r1.length + j = m ∧
          (0 < j → ∃ z, Ds ns es g j z ∧ (u, z) ∈ es) ∧ ∀ r2, Chain ns (fun k x y => Ds ns es g k y ∧ (x, y) ∈ es) j u r2 → Chain ns (fun k x y => Ds ns es g k y ∧ (x, y) ∈ es) m g (r1 ++ r2),
        ⟨_, m, [], [], g, _, _, rfl, rfl, t3.trans s4, s4 _ _ hf3, upd_same, rfl, by simp, fun _ => ⟨y0, dy0, ey0⟩, fun r2 h => h⟩, ?_⟩
      rintro j σ H5 ⟨j0, pre, r1, u, x5, x7, rfl, rfl, t5, hf5, hr5, er, lr, nxt, ch⟩
      have lpre : (pre ++ [u]).length = r1.length + 1 := by rw [er]; rfl
      refine ⟨_, rfl, _, _, rfl, rfl, _, rfl, iteD (fun c => ?_) (fun c => ?_)⟩
      · obtain ⟨j, rfl⟩ : ∃ i, j = i + 1 := ⟨j - 1, by omega⟩
        obtain ⟨z0, dz0, ez0⟩ := nxt (Nat.succ_pos _)
        have hlast : atI ((pre ++ [u]).map V.int) (-1) = some (.int u) := by rw [List.map_append]; exact atI_last _ _
        refine ⟨_, fun σ' H' h => h, ?_⟩
        refine ⟨_, rfl, a, rfl, for_sq (K := K) (a := a) (xs := ns.map V.int) (H0 := H) hS (fun i σ H' => ∃ x5, σ = [some (.int g), some (.ref a), some y, some (.ref f), some (.ref D), x5, some (.int ((j + 1 : Nat) : Int)), x7, some (.ref rg)] ∧ Same H5 H' ∧ ∀ (i' : Nat) (z : Int), i' < i → ns[i']? = some z → ¬ (Ds ns es g (j + 1) z ∧ (u, z) ∈ es))
          ⟨_, rfl, fun _ _ h => h, fun i' z h => absurd h (Nat.not_lt_zero _)⟩ (fun i σ H' _ ⟨_, _, s, _⟩ => sqS_same (t5.trans s)) ?_ ?_⟩
        · rintro i v σ H6 hv ⟨x5', rfl, s6, no⟩
          obtain ⟨x, hx, rfl⟩ := get_int' hv
          have hf6 := s6 _ _ hf5
          have hr6 := s6 _ _ hr5
          have stay : ¬ (Ds ns es g (j + 1) x ∧ (u, x) ∈ es) → ∀ H7, Same H6 H7 → ∃ x5, ([some (.int g), some (.ref a), some y, some (.ref f), some (.ref D), some (.int x), some (.int ((j + 1 : Nat) : Int)), x7, some (.ref rg)] : L2.St) = [some (.int g), some (.ref a), some y, some (.ref f), some (.ref D), x5, some (.int ((j + 1 : Nat) : Int)), x7, some (.ref rg)] ∧ Same H5 H7 ∧ ∀ (i' : Nat) (z : Int), i' < i + 1 → ns[i']? = some z → ¬ (Ds ns es g (j + 1) z ∧ (u, z) ∈ es) := fun e H7 s7 => by
            refine ⟨_, rfl, s6.trans s7, fun i' z hi' hz' => ?_⟩
            by_cases ei : i' = i
            · subst ei; rw [hx] at hz'; rw [← Option.some.inj hz']; exact e
            · exact no i' z (by omega) hz'
          refine ⟨_, rfl, _, rfl, f, _, rfl, DGet.k (k := .inl x) hf6, _, rfl, ?_⟩
          cases c1 : (valV kvs (.inl x)).isSome with
          | false => exact iteF (stay (fun h => fd.none c1 _ h.1) H6 fun _ _ h => h)
          | true =>
            obtain ⟨k, ek, dk, dd⟩ := fd.some c1
            refine iteT ⟨_, rfl, _, rfl, f, _, rfl, ek ▸ DGet.k (k := .inl x) hf6, _, rfl, rfl, _, rfl, iteD (fun c2 => ?_) (fun c2 => stay (fun h => c2 ?_) H6 fun _ _ h => h)⟩
            · have c2 : k = j + 1 := by have := V.int.inj c2; omega
              subst c2
              refine ⟨_, rfl, _, rfl, _, _, _, _, rfl, rfl, SqL.of hr6, hlast, _, rfl, by show 2 ≤ sizeLine; decide, fun t ht => ⟨_, rfl, (u, x), es, ⟨t, rfl, upd_same⟩, edg_same ((t5.trans s6).trans (same_new ht)) hE, _, rfl, ?_⟩⟩
              have st := same_new (o := .tup [.int u, .int x]) ht
              by_cases c3 : (u, x) ∈ es
              · refine iteYes (by simp [c3]) ?_
                have hr7 := st _ _ hr6
                refine ⟨_, rfl, .inl ⟨rfl, _, SqL.of hr7⟩, _, rfl, _, _, _, rfl, rfl, hr7, by rw [List.length_map, lpre]; omega, ?_⟩
                refine ⟨_, rfl, _, _, rfl, rfl, ?_⟩
                have first : IsFirst ns (fun y => Ds ns es g (j + 1) y ∧ (u, y) ∈ es) x := ⟨i, hx, ⟨dd, c3⟩, no⟩
                refine ⟨j, Nat.lt_succ_self _, j, pre ++ [u], r1 ++ [x], x, some (.int x), x7, ?_, rfl, same_mut ((t5.trans s6).trans st) nrg, ?_, ?_, ?_, ?_, fun hj => ?_, fun r2 h2 => ?_⟩
                · show ([some (.int g), some (.ref a), some y, some (.ref f), some (.ref D), some (.int x), some (.int (((j + 1 : Nat) : Int) - 1)), x7, some (.ref rg)] : L2.St) = _
                  rw [show (((j + 1 : Nat) : Int) - 1) = (j : Nat) by omega]
                · rw [upd_ne nfr]; exact st _ _ hf6
                · rw [upd_same, List.map_append (l₁ := pre ++ [u])]; rfl
                · rw [er]; rfl
                · rw [List.length_append]; show r1.length + 1 + j = m; omega
                · obtain ⟨i, rfl⟩ : ∃ i, j = i + 1 := ⟨j - 1, by omega⟩
                  obtain ⟨z, ez, dz⟩ := dd.next
                  exact ⟨z, dz, ez⟩
                · rw [List.append_assoc]
                  exact ch (x :: r2) (.cons first h2)
              · exact iteNo (by simp [c3]) (stay (fun h => c3 h.2) _ st)
            · rw [dd.uniq h.1]
        · rintro σ H6 ⟨x5', rfl, s6, no⟩
          exfalso
          obtain ⟨i, hi, e⟩ := List.getElem_of_mem dz0.1.1
          exact no i z0 (by rw [List.length_map]; exact hi) (by rw [List.getElem?_eq_getElem hi, e]) ⟨dz0, ez0⟩
      · obtain rfl : j = 0 := by omega
        refine ⟨_, rfl, rg, _, rfl, .inl ⟨SqL.of hr5, fun r hr => q r (g :: r1) _ (t5.trans (same_new hr)) (t5.free hr) (by rw [← er]; exact upd_same) (.inr ⟨m, r1, rfl, mpos, ⟨y0, hy0, ey0, dy0⟩, fun y' k h1 h2 h3 d => ?_, ?_⟩)⟩⟩
        · have := least (k : Int) ((mlen k).mpr ⟨y', k, rfl, h1, h2, h3, d⟩)
          omega
        · have := ch [] (.nil u)
          rwa [List.append_nil] at this
end
end My

namespace My
open PySem L2
def spSR (K : PySem.W.Frag) : Sp := fun vs H Q _ => ∃ (a : Addr) (y : V) (ns : List Int) (es : Eds), vs = [.ref a, y] ∧ SqS K H a (ns.map V.int) ∧ ns.length ≤ 100 ∧ Edg K H y es ∧
  ∀ r rss H', Same H H' → H r = none → H' r = some (.tup ((rss.foldl pick1 []).map V.int)) → Paired (Rf ns es) ns rss → Q (.ref r) H'
theorem pair_snoc {α β : Type} {F : α → β → Prop} {l : List α} {m : List β} {x : α} {y : β} (h : Paired F l m) (h2 : F x y) : Paired F (l ++ [x]) (m ++ [y]) := by
  induction h with
  | nil => exact .cons h2 .nil
  | cons h r ih => exact .cons h ih
section
variable {P : Program} {w : World} {K : PySem.W.Frag} {mg : Str → Option Value} {base : Heap}
theorem ok_shortest_ring (T : Txt K mg) : FnOk P w K mg base CX0 4 T.a_shortest_ring T.fd_shortest_ring ["nodes", "edges"] (spSR K) := by
  refine T.F_shortest_ring.ok sc_shortest_ring (fun vs H Q E h => ?_) (fun cdv A outer s H vs Q E hr h => ?_)
  · obtain ⟨a, y, ns, es, rfl, _⟩ := h; rfl
  · obtain ⟨a, y, ns, es, rfl, hS, hz, hE, q⟩ := h
    refine ⟨_, (pss_cons (ps_set (i := 2) sc_shortest_ring.nd rfl (.inl rfl) (pe_tup pa_nil))
      (pss_cons (ps_for PassesOwn.never rfl (pi_sqK (K := K) rfl (pv 0)) (pg_name (i := 3) sc_shortest_ring.nd rfl (.inl rfl)) (pss_cons (ps_set (i := 4) sc_shortest_ring.nd rfl (.inl rfl) (pe_call (ok_ring_from T) (hr.mono (by omega)) (by rfl) T.g_ring_from T.F_ring_from.kp T.b_ring_from .nil pass0 (pa_cons (pv 3) (pa_cons (pv 0) (pa_cons (pv 1) pa_nil)))))
      (pss_one (ps_if (PW.pt (pw_and (pt_cmpR op_gt (pe_callB call_len_seq (by rfl) T.n_len (by decide +kernel) (pa_cons (pv 4) pa_nil)) (pe_int) (nomark _)) (pw_and1 (PW.pt (pw_or (pt_cmpR op_eq (pe_callB call_len_seq (by rfl) T.n_len (by decide +kernel) (pa_cons (pv 2) pa_nil)) (pe_int) (nomark _)) (pw_or1 (pt_cmpR op_lt (pe_callB call_len_seq (by rfl) T.n_len (by decide +kernel) (pa_cons (pv 4) pa_nil)) (pe_callB call_len_seq (by rfl) T.n_len (by decide +kernel) (pa_cons (pv 2) pa_nil)) (nomark _)))))))) (pss_one (ps_set (i := 2) sc_shortest_ring.nd rfl (.inl rfl) (pv 4))) pss_nil))))
      (pss_one (ps_ret (pv 2))))), ?_⟩
    refine ⟨Nat.zero_le _, fun b0 hb0 => ?_⟩
    have s1 := same_new (o := .tup ([] : List V)) hb0
    refine ⟨_, rfl, a, rfl, for_sq (K := K) (a := a) (xs := ns.map V.int) (H0 := H) hS (fun i σ H' => ∃ b rss x3 x4, σ = [some (.ref a), some y, some (.ref b), x3, x4] ∧ Same H H' ∧ H b = none ∧ H' b = some (.tup ((rss.foldl pick1 []).map V.int)) ∧ Paired (Rf ns es) (ns.take i) rss)
      ⟨b0, [], _, _, rfl, s1, hb0, upd_same, .nil⟩ (fun i σ H' _ ⟨_, _, _, _, _, s, _⟩ => sqS_same s) ?_ ?_⟩
    · rintro i v σ H2 hv ⟨b, rss, x3, x4, rfl, t2, nb, hb, pr⟩
      obtain ⟨x, hx, rfl⟩ := get_int' hv
      refine ⟨_, rfl, _, rfl, _, rfl, x, a, y, ns, es, rfl, SqS_same hS t2, hz, List.mem_of_getElem? hx, edg_same t2 hE, fun r rs H3 s3 nr hr' rf => ?_⟩
      have t3 := t2.trans s3
      have pr' : Paired (Rf ns es) (ns.take (i + 1)) (rss ++ [rs]) := by rw [List.take_add_one, hx]; exact pair_snoc pr rf
      have hb3 := s3 _ _ hb
      have ef : (rss ++ [rs]).foldl pick1 [] = pick1 (rss.foldl pick1 []) rs := by rw [List.foldl_append]; rfl
      revert hb3 ef
      generalize rss.foldl pick1 [] = bs
      intro hb3 ef
      have keep : ¬ (0 < rs.length ∧ (bs.length = 0 ∨ rs.length < bs.length)) → ∃ b' rss x3 x4, ([some (.ref a), some y, some (.ref b), some (.int x), some (.ref r)] : L2.St) = [some (.ref a), some y, some (.ref b'), x3, x4] ∧ Same H H3 ∧ H b' = none ∧ H3 b' = some (.tup ((rss.foldl pick1 []).map V.int)) ∧ Paired (Rf ns es) (ns.take (i + 1)) rss := fun c =>
        ⟨b, _, _, _, rfl, t3, nb, by rw [ef]; unfold pick1; rw [if_neg c]; exact hb3, pr'⟩
      have take : (0 < rs.length ∧ (bs.length = 0 ∨ rs.length < bs.length)) → ∃ b rss x3 x4, ([some (.ref a), some y, some (.ref r), some (.int x), some (.ref r)] : L2.St) = [some (.ref a), some y, some (.ref b), x3, x4] ∧ Same H H3 ∧ H b = none ∧ H3 b = some (.tup ((rss.foldl pick1 []).map V.int)) ∧ Paired (Rf ns es) (ns.take (i + 1)) rss := fun c =>
        ⟨r, _, _, _, rfl, t3, t2.free nr, by rw [ef]; unfold pick1; rw [if_pos c]; exact hr', pr'⟩
      have l1 : (rs.map V.int).length = rs.length := List.length_map ..
      have l2 : (bs.map V.int).length = bs.length := List.length_map ..
      refine ⟨_, rfl, r, _, rfl, .inr (SqT.of hr'), _, _, rfl, rfl, _, rfl, iteD (fun c1 => ?_) (fun c1 => iteF (keep (fun h => c1 (by omega))))⟩
      refine ⟨_, rfl, b, _, rfl, .inr (SqT.of hb3), rfl, _, rfl, iteD (fun c2 => ?_) (fun c2 => ?_)⟩
      · have := V.int.inj c2
        exact iteT ⟨_, rfl, take ⟨by omega, .inl (by omega)⟩⟩
      · have c2 : bs.length ≠ 0 := fun z => c2 (by rw [l2, z]; rfl)
        refine ⟨_, rfl, r, _, rfl, .inr (SqT.of hr'), _, rfl, b, _, rfl, .inr (SqT.of hb3), _, _, rfl, rfl, _, rfl, iteD (fun c3 => ?_) (fun c3 => ?_)⟩
        · exact ⟨_, rfl, take ⟨by omega, .inr (by omega)⟩⟩
        · exact keep (fun h => by omega)
    · rintro σ H2 ⟨b, rss, x3, x4, rfl, t2, nb, hb, pr⟩
      rw [List.length_map, List.take_length] at pr
      exact ⟨_, rfl, q b rss H2 t2 nb hb pr⟩
end
end My

namespace My
open PySem L2
/-- a square table of truths -/
def Mat (H : Hp) (a : Addr) (f : Nat → Nat → Bool) (n : Nat) : Prop := ∃ rows : List Addr, rows.length = n ∧ H a = some (.lst (rows.map V.ref)) ∧ ∀ (i : Nat) (p : Addr), rows[i]? = some p → H p = some (.lst ((List.range n).map fun j => V.bl (f i j)))
theorem Mat.same {H H' : Hp} {a : Addr} {f : Nat → Nat → Bool} {n : Nat} (h : Mat H a f n) (s : Same H H') : Mat H' a f n := by
  obtain ⟨rows, l, ha, hp⟩ := h
  exact ⟨rows, l, s _ _ ha, fun i p e => s _ _ (hp i p e)⟩
theorem row_at {n : Nat} {g : Nat → V} {j : Nat} (h : j < n) : atI ((List.range n).map g) (j : Int) = some (g j) := atI_nat (by rw [List.getElem?_map, List.getElem?_range h]; rfl)
theorem Mat.row {H : Hp} {a : Addr} {f : Nat → Nat → Bool} {n : Nat} (h : Mat H a f n) {i : Nat} (hi : i < n) : ∃ xs p, H a = some (.lst xs) ∧ atI xs (i : Int) = some (.ref p) ∧ H p = some (.lst ((List.range n).map fun j => V.bl (f i j))) := by
  obtain ⟨rows, l, ha, hp⟩ := h
  have gi : rows[i]? = some rows[i] := List.getElem?_eq_getElem (by omega)
  exact ⟨_, rows[i], ha, atI_nat (by rw [List.getElem?_map, gi]; rfl), hp i _ gi⟩
def spLonger (K : PySem.W.Frag) : Sp := fun vs H Q _ => ∃ (a b : Addr) (f g : Nat → Nat → Bool) (n : Nat), vs = [.ref a, .ref b] ∧ n ≤ 100 ∧ Mat H a f n ∧ Mat H b g n ∧
  ∀ r H', Same H H' → H r = none → Mat H' r (fun x z => (List.range n).any fun y => f x y && g y z) n → Q (.ref r) H'
section
variable {P : Program} {w : World} {K : PySem.W.Frag} {mg : Str → Option Value} {base : Heap}
theorem ok__law_longer (T : Txt K mg) : FnOk P w K mg base CX0 2 T.a__law_longer T.fd__law_longer ["_law_table", "_law_near"] (spLonger K) := by
  refine T.F__law_longer.ok sc__law_longer (fun vs H Q E h => ?_) (fun cdv A outer s H vs Q E hr h => ?_)
  · obtain ⟨a, b, f, g, n, rfl, _⟩ := h; rfl
  · obtain ⟨a, b, f, g, n, rfl, hn, ha, hb, q⟩ := h
    refine ⟨_, (pss_cons (ps_set (i := 2) sc__law_longer.nd rfl (.inl rfl) (pe_callB call_len_seq (by rfl) T.n_len (by decide +kernel) (pa_cons (pv 1) pa_nil)))
      (pss_cons (ps_set (i := 3) sc__law_longer.nd rfl (.inl rfl) (pe_lst pa_nil))
      (pss_cons (ps_for PassesOwn.never rfl (pi_range1 (by rfl) T.n_range (pa_cons (pv 2) pa_nil)) (pg_name (i := 4) sc__law_longer.nd rfl (.inr rfl)) (pss_cons (ps_set (i := 5) sc__law_longer.nd rfl (.inl rfl) (pe_lst pa_nil))
      (pss_cons (ps_for PassesOwn.never rfl (pi_range1 (by rfl) T.n_range (pa_cons (pv 2) pa_nil)) (pg_name (i := 6) sc__law_longer.nd rfl (.inr rfl)) (pss_one (ps_expr (pe_bm PySem.F.plainAttrs_list PySem.F.slot_list_append PySem.F.type_list_append mt_append (pv 5) (pa_cons (pe_cmpR op_gt (pe_callB call_len_seq (by rfl) T.n_len (by decide +kernel) (pa_cons (pe_lc (own := [("_law_y", 7)]) (g := (gName 7)) (by rfl) sc__law_longer.nd (pi_range1 (by rfl) T.n_range (pa_cons (pv 2) pa_nil)) (blkOk_by (own := [("_law_y", 7)]) (N := ["_law_table", "_law_near", "_law_size", "_law_further", "_law_x", "_law_row", "_law_z", "_law_y"]) (sc := defScope S__law_longer) (by decide +kernel)) (fun _ _ _ _ _ => (pg_name (i := 7) sc__law_longer.nd rfl (by first | exact .inl rfl | exact .inr rfl))) (fun _ _ _ _ _ => (pts_one (PW.pt (pw_and (pt_val (pe_ix (ixLK (K := K) rfl) (pe_ix (ixLK (K := K) rfl) (pv 0) (pv 4) (fun _ _ => rfl)) (pv 7) (fun _ _ => rfl))) (pw_and1 (pt_val (pe_ix (ixLK (K := K) rfl) (pe_ix (ixLK (K := K) rfl) (pv 1) (pv 7) (fun _ _ => rfl)) (pv 6) (fun _ _ => rfl)))))))) (fun _ _ _ _ _ => (pv 7))) pa_nil)) (pe_int) (nomark _)) pa_nil)))))
      (pss_one (ps_expr (pe_bm PySem.F.plainAttrs_list PySem.F.slot_list_append PySem.F.type_list_append mt_append (pv 3) (pa_cons (pv 5) pa_nil)))))))
      (pss_one (ps_ret (pv 3)))))), ?_⟩
    have big : 1000 < sizeLine := by decide
    obtain ⟨rb, lb, eb, _⟩ := id hb
    refine ⟨_, rfl, b, _, rfl, .inl (SqL.of eb), ?_⟩
    rw [List.length_map, lb]
    refine ⟨Nat.zero_le _, fun fu hfu => ?_⟩
    have s1 := same_new (o := .lst ([] : List V)) hfu
    refine ⟨_, rfl, _, rfl, by omega, by omega, for_range (lo := 0) (n := n) (fun k σ H' => ∃ (rows : List Addr) (x4 x5 x6 x7 : Option V), σ = [some (.ref a), some (.ref b), some (.int (n : Nat)), some (.ref fu), x4, x5, x6, x7] ∧ Same H H' ∧ rows.length = k ∧ H' fu = some (.lst (rows.map V.ref)) ∧
        ∀ (i : Nat) (p : Addr), rows[i]? = some p → p ≠ fu ∧ H' p = some (.lst ((List.range n).map fun j => V.bl ((List.range n).any fun y => f i y && g y j))))
      ⟨[], _, _, _, _, rfl, s1, rfl, upd_same, fun i p h => by cases h⟩ ?_ ?_⟩
    · rintro k σ H2 hk ⟨rows, x4, x5, x6, x7, rfl, t2, lr, hfu2, hrows⟩
      have hk : k < n := by omega
      rw [Int.zero_add]
      refine ⟨Nat.zero_le _, fun ro hro => ?_⟩
      have s3 := same_new (o := .lst ([] : List V)) hro
      have nrf : ro ≠ fu := (ne_of_none hfu2 hro).symm
      refine ⟨_, rfl, _, rfl, by omega, by omega, for_range (lo := 0) (n := n) (fun z σ H' => ∃ (x6 x7 : Option V), σ = [some (.ref a), some (.ref b), some (.int (n : Nat)), some (.ref fu), some (.int (k : Int)), some (.ref ro), x6, x7] ∧ Same H2 H' ∧ H' ro = some (.lst ((List.range z).map fun j => V.bl ((List.range n).any fun y => f k y && g y j))))
        ⟨_, _, rfl, s3, upd_same⟩ ?_ ?_⟩
      · rintro z σ H4 hz ⟨x6', x7', rfl, s4, hro4⟩
        have hz : z < n := by omega
        rw [Int.zero_add]
        have t4 := t2.trans s4
        refine ⟨_, rfl, .inl ⟨rfl, _, SqL.of hro4⟩, _, rfl, _, rfl, by omega, by omega, fun D hD => lc_range (lo := 0) (n := n) (fun i H' => Same H4 H' ∧ H' D = some (.lst (((List.range i).filter fun y => f k y && g y z).map fun y : Nat => V.int (y : Int)))) ⟨same_new hD, upd_same⟩ ?_ ?_⟩
        · rintro i H5 hi ⟨s5, h5⟩
          rw [Int.zero_add]
          refine ⟨rfl, ?_⟩
          have t5 := t4.trans s5
          obtain ⟨xs1, p1, a1, a2, a3⟩ := (ha.same t5).row hk
          obtain ⟨xs2, p2, b1, b2, b3⟩ := (hb.same t5).row hi
          have stay : (f k i && g i z) = false → Same H4 H5 ∧ H5 D = some (.lst (((List.range (i + 1)).filter fun y => f k y && g y z).map fun y : Nat => V.int (y : Int))) := fun e => by
            refine ⟨s5, ?_⟩
            rw [List.range_succ, List.filter_append, List.filter_cons_of_neg (by rw [e]; decide), List.filter_nil, List.append_nil]; exact h5
          refine ⟨_, rfl, _, rfl, _, _, _, _, rfl, rfl, SqL.of a1, a2, _, rfl, _, _, _, _, rfl, rfl, SqL.of a3, row_at hi, _, rfl, ?_⟩
          cases c1 : f k i with
          | false => exact iteF (iteF (stay (by rw [c1]; rfl)))
          | true =>
            refine iteT ⟨_, rfl, _, rfl, _, _, _, _, rfl, rfl, SqL.of b1, b2, _, rfl, _, _, _, _, rfl, rfl, SqL.of b3, row_at hz, _, rfl, ?_⟩
            cases c2 : g i z with
            | false => exact iteF (stay (by rw [c2, Bool.and_false]))
            | true =>
              refine iteT ⟨_, rfl, _, h5, ?_, same_mut s5 hD, ?_⟩
              · have := List.length_filter_le (fun y => f k y && g y z) (List.range i)
                rw [List.length_range] at this
                rw [List.length_map]; omega
              · rw [upd_same, List.range_succ, List.filter_append, List.filter_cons_of_pos (by rw [c1, c2]; rfl), List.filter_nil, List.map_append]; rfl
        · rintro H5 ⟨s5, h5⟩
          have e : decide ((0 : Int) < ((((List.range n).filter fun y => f k y && g y z).map fun y : Nat => V.int (y : Int)).length : Nat)) = (List.range n).any fun y => f k y && g y z := by
            rw [List.length_map, Bool.eq_iff_iff, decide_eq_true_iff, List.any_eq_true]
            constructor
            · intro h
              obtain ⟨x, hx⟩ := List.exists_mem_of_length_pos (show 0 < ((List.range n).filter fun y => f k y && g y z).length by omega)
              exact ⟨x, (List.mem_filter.mp hx).1, (List.mem_filter.mp hx).2⟩
            · rintro ⟨x, h1, h2⟩
              have := List.length_pos_of_mem (List.mem_filter.mpr ⟨h1, h2⟩ : x ∈ (List.range n).filter fun y => f k y && g y z)
              omega
          have hro5 := s5 _ _ hro4
          refine ⟨D, _, rfl, .inl (SqL.of h5), _, _, rfl, rfl, _, _, _, rfl, rfl, hro5, by rw [List.length_map, List.length_range]; omega, ?_⟩
          refine ⟨_, _, rfl, same_mut (s4.trans s5) hro, ?_⟩
          rw [upd_same, List.range_succ, List.map_append, List.map_cons, List.map_nil, ← e]
      · rintro σ H4 ⟨x6', x7', rfl, s4, hro4⟩
        have hfu4 := s4 _ _ hfu2
        refine ⟨_, rfl, .inl ⟨rfl, _, SqL.of hfu4⟩, _, rfl, _, _, _, rfl, rfl, hfu4, by rw [List.length_map]; omega, ?_⟩
        refine ⟨rows ++ [ro], _, _, _, _, rfl, same_mut (t2.trans s4) hfu, by rw [List.length_append, lr]; rfl, by rw [upd_same, List.map_append]; rfl, fun i p e => ?_⟩
        by_cases c : i < rows.length
        · rw [List.getElem?_append_left c] at e
          obtain ⟨n1, h1⟩ := hrows i p e
          exact ⟨n1, by rw [upd_ne n1]; exact s4 _ _ h1⟩
        · rw [List.getElem?_append_right (by omega)] at e
          obtain ⟨hi, e1⟩ := List.getElem?_eq_some_iff.mp e
          have hi : i - rows.length < 1 := hi
          obtain rfl : i = k := by omega
          have e2 : i - rows.length = 0 := by omega
          rw [e2] at e
          obtain rfl : ro = p := Option.some.inj e
          exact ⟨nrf, by rw [upd_ne nrf]; exact hro4⟩
    · rintro σ H2 ⟨rows, x4, x5, x6, x7, rfl, t2, lr, hfu2, hrows⟩
      exact ⟨_, rfl, q fu H2 t2 hfu ⟨rows, by simpa using lr, hfu2, fun i p e => (hrows i p e).2⟩⟩
end
end My

namespace My
open PySem L2
def nd (ns : List Int) (i : Nat) : Int := ns.getD i 0
def nr (ns : List Int) (es : Eds) (i j : Nat) : Bool := decide ((nd ns i, nd ns j) ∈ es)
def tb (ns : List Int) (es : Eds) : Nat → Nat → Nat → Bool
  | 0 => nr ns es
  | k + 1 => fun i j => (List.range ns.length).any fun y => tb ns es k i y && nr ns es y j
theorem nd_get {ns : List Int} {i : Nat} (h : i < ns.length) : ns[i]? = some (nd ns i) := by
  unfold nd; rw [List.getD_eq_getElem?_getD, List.getElem?_eq_getElem h]; rfl
theorem nd_of {ns : List Int} {i : Nat} {x : Int} (h : ns[i]? = some x) : nd ns i = x := by
  unfold nd; rw [List.getD_eq_getElem?_getD, h]; rfl
theorem nd_mem {ns : List Int} {x : Int} (h : x ∈ ns) : ∃ i, i < ns.length ∧ nd ns i = x := by
  obtain ⟨i, hi, e⟩ := List.getElem_of_mem h
  exact ⟨i, hi, nd_of (by rw [List.getElem?_eq_getElem hi, e])⟩
theorem tb_iff {ns : List Int} {es : Eds} (G : Gr ns es) : ∀ {k i j : Nat}, i < ns.length → j < ns.length → (tb ns es k i j = true ↔ Wl es (k + 1) (nd ns i) (nd ns j))
  | 0, i, j, hi, hj => by
    show decide ((nd ns i, nd ns j) ∈ es) = true ↔ _
    rw [decide_eq_true_iff]
    exact ⟨fun h => ⟨_, rfl, h⟩, fun ⟨y, e, h⟩ => by rw [show nd ns i = y from e]; exact h⟩
  | k + 1, i, j, hi, hj => by
    rw [show tb ns es (k + 1) i j = (List.range ns.length).any fun y => tb ns es k i y && nr ns es y j from rfl, List.any_eq_true]
    constructor
    · rintro ⟨y, hy, e⟩
      rw [Bool.and_eq_true] at e
      have hy := List.mem_range.mp hy
      obtain ⟨u, e1, e2⟩ := (tb_iff (k := 0) G hy hj).mp e.2
      exact ⟨nd ns y, (tb_iff G hi hy).mp e.1, by rw [show nd ns y = u from e1]; exact e2⟩
    · rintro ⟨y, h1, h2⟩
      obtain ⟨m, hm, e⟩ := nd_mem (G.ed _ h2).1
      have e : nd ns m = y := e
      refine ⟨m, List.mem_range.mpr hm, ?_⟩
      rw [Bool.and_eq_true]
      exact ⟨(tb_iff G hi hm).mpr (by rw [e]; exact h1), (tb_iff (k := 0) G hm hj).mpr ⟨_, rfl, by rw [e]; exact h2⟩⟩
theorem map_nd {β : Type} (ns : List Int) (F : Int → β) : ns.map F = (List.range ns.length).map fun j => F (nd ns j) := by
  refine List.ext_getElem? fun i => ?_
  rw [List.getElem?_map, List.getElem?_map]
  by_cases h : i < ns.length
  · rw [nd_get h, List.getElem?_range h]; rfl
  · rw [List.getElem?_eq_none (by omega), List.getElem?_eq_none (by rw [List.length_range]; omega)]; rfl
theorem first_range {n : Nat} {p : Nat → Bool} {x : Nat} {r : List Nat} (h : (List.range n).filter p = x :: r) : x < n ∧ p x = true ∧ ∀ j, j < x → p j = false := by
  rw [List.filter_eq_cons_iff] at h
  obtain ⟨l1, l2, e, h1, h2, _⟩ := h
  have hlen : l1.length < n := by
    have := congrArg List.length e
    rw [List.length_range, List.length_append, List.length_cons] at this
    omega
  have at_ : ∀ j, j < n → (l1 ++ x :: l2)[j]? = some j := fun j hj => by rw [← e, List.getElem?_range hj]
  have hx : x = l1.length := by
    have := at_ l1.length hlen
    rw [List.getElem?_append_right (Nat.le_refl _), Nat.sub_self] at this
    exact Option.some.inj this
  refine ⟨by omega, h2, fun j hj => ?_⟩
  have := at_ j (by omega)
  rw [List.getElem?_append_left (by omega)] at this
  simpa using h1 j (List.mem_of_getElem? this)
theorem first_some {n : Nat} {p : Nat → Bool} {x : Nat} (h : x < n) (hp : p x = true) : ∃ y r, (List.range n).filter p = y :: r := by
  cases e : (List.range n).filter p with
  | nil => exact absurd (e ▸ List.mem_filter.mpr ⟨List.mem_range.mpr h, hp⟩) List.not_mem_nil
  | cons y r => exact ⟨y, r, rfl⟩
theorem Mat.mut {H : Hp} {a x : Addr} {f : Nat → Nat → Bool} {n : Nat} {ts : List Addr} {o : HO} (h : Mat H a f n) (na : a ≠ x) (hx : H x = some (.lst (ts.map V.ref))) (ne : ts ≠ []) : Mat (upd H x o) a f n := by
  obtain ⟨rows, l, ha, hp⟩ := h
  refine ⟨rows, l, by rw [upd_ne na]; exact ha, fun i p e => ?_⟩
  have e1 := hp i p e
  have hi : i < n := by rw [← l]; exact (List.getElem?_eq_some_iff.mp e).1
  rw [upd_ne fun z => ?_]
  · exact e1
  · rw [z, hx] at e1
    have e2 := HO.lst.inj (Option.some.inj e1)
    obtain ⟨t, r, rfl⟩ := List.exists_cons_of_ne_nil ne
    obtain ⟨m, rfl⟩ : ∃ m, n = m + 1 := ⟨n - 1, by omega⟩
    rw [List.range_succ_eq_map, List.map_cons, List.map_cons] at e2
    cases (List.cons.inj e2).1
def spLR (K : PySem.W.Frag) : Sp := fun vs H Q _ => ∃ (a : Addr) (y : V) (ns : List Int) (es : Eds), vs = [.ref a, y] ∧ H a = some (.lst (ns.map V.int)) ∧ ns.length ≤ 100 ∧ Gr ns es ∧ Edg K H y es ∧
  ∀ r ls H', Same H H' → H r = none → H' r = some (.tup (ls.map V.int)) → Lr ns es ls → Q (.ref r) H'
/-- [(x, z) in edges for z in nodes] -/
theorem near_row {K : PySem.W.Frag} {a : Addr} {y : V} {x : Int} {ns : List Int} {es : Eds} {x2 x3 x5 x6 x7 x8 x9 x10 x11 x12 : Option V} {H1 : Hp} {Q : VK} (hS : H1 a = some (.lst (ns.map V.int))) (hz : ns.length ≤ 100) (hE : Edg K H1 y es)
    (q : ∀ ro H2, Same H1 H2 → H1 ro = none → H2 ro = some (.lst (ns.map fun z => V.bl (decide ((x, z) ∈ es)))) → Q (.ref ro) H2) :
    tLc (iList K (tVar 0)) (gName 5) tYes (tOp (rInE K false) (tTup (tCons (tVar 4) (tCons (tVar 5) tNil))) (tVar 1)) [5] [some (.ref a), some y, x2, x3, some (.int x), x5, x6, x7, x8, x9, x10, x11, x12] H1 Q := by
  have big : 1000 < sizeLine := by decide
  refine ⟨_, rfl, a, rfl, ⟨_, SqL.of hS⟩, fun ro hro => lc_list (K := K) (a := a) (xs := ns.map V.int) (fun j H' => Same H1 H' ∧ H' ro = some (.lst ((ns.take j).map fun z => V.bl (decide ((x, z) ∈ es))))) ⟨same_new hro, upd_same⟩ (fun i H' _ h => SqL.of (h.1 _ _ hS)) ?_ ?_⟩
  · rintro j v H2 hv ⟨s2, h2⟩
    obtain ⟨z, hzz, rfl⟩ := get_int' hv
    have hj : j < ns.length := (List.getElem?_eq_some_iff.mp hzz).1
    refine ⟨rfl, ?_⟩
    unfold tYes
    refine iteT ⟨_, rfl, _, rfl, by show 2 ≤ sizeLine; decide, fun u hu => ⟨_, rfl, (x, z), es, ⟨u, rfl, upd_same⟩, edg_same (s2.trans (same_new hu)) hE, _, same_new hu _ _ h2, ?_, same_mut (s2.trans (same_new hu)) hro, ?_⟩⟩
    · rw [List.length_map, List.length_take]; omega
    · rw [upd_same, List.take_add_one, hzz, List.map_append]; rfl
  · rintro H2 ⟨s2, h2⟩
    rw [List.length_map, List.take_length] at h2
    exact q ro H2 s2 hro h2
section
variable {P : Program} {w : World} {K : PySem.W.Frag} {mg : Str → Option Value} {base : Heap}
theorem ok__law_least_ring (T : Txt K mg) : FnOk P w K mg base CX0 3 T.a__law_least_ring T.fd__law_least_ring ["_law_nodes_here", "_law_edges"] (spLR K) := by
  refine T.F__law_least_ring.ok sc__law_least_ring (fun vs H Q E h => ?_) (fun cdv A outer s H vs Q E hr h => ?_)
  · obtain ⟨a, y, ns, es, rfl, _⟩ := h; rfl
  · obtain ⟨a, y, ns, es, rfl, hS, hz, G, hE, q⟩ := h
    refine ⟨_, (pss_cons (ps_set (i := 2) sc__law_least_ring.nd rfl (.inl rfl) (pe_callB call_len_seq (by rfl) T.n_len (by decide +kernel) (pa_cons (pv 0) pa_nil)))
      (pss_cons (ps_set (i := 3) sc__law_least_ring.nd rfl (.inr rfl) (pe_lc (own := [("_law_x", 4)]) (g := (gName 4)) (by rfl) sc__law_least_ring.nd (pi_list (pv 0)) (blkOk_by (own := [("_law_x", 4)]) (N := ["_law_nodes_here", "_law_edges", "_law_size", "_law_near", "_law_x", "_law_y", "_law_tables", "_law_k", "_law_length", "_law_closed", "_law_ring", "_law_table", "_law_able"]) (sc := defScope S__law_least_ring) (by decide +kernel)) (fun _ _ _ _ _ => (pg_name (i := 4) sc__law_least_ring.nd rfl (by first | exact .inl rfl | exact .inr rfl))) (fun _ _ _ _ _ => pts_nil) (fun _ _ _ _ _ => (pe_lc (own := [("_law_y", 5)]) (g := (gName 5)) (by rfl) sc__law_least_ring.nd (pi_listK (K := K) rfl (pv 0)) (by refine blkOk_by (own := [("_law_y", 5)]) (N := ["_law_nodes_here", "_law_edges", "_law_size", "_law_near", "_law_x", "_law_y", "_law_tables", "_law_k", "_law_length", "_law_closed", "_law_ring", "_law_table", "_law_able"]) ?_; change blkC _ (relS _ (defScope S__law_least_ring)) _ _ = true; decide +kernel) (fun _ _ _ _ _ => (pg_name (i := 5) sc__law_least_ring.nd rfl (by first | exact .inl rfl | exact .inr rfl))) (fun _ _ _ _ _ => pts_nil) (fun _ _ _ _ _ => (pe_cmpR (inEK (K := K) rfl (hu65 hr)) (pe_tup (pa_cons (pv 4) (pa_cons (pv 5) pa_nil))) (pv 1) (by with_unfolding_all rfl)))))))
      (pss_cons (ps_set (i := 6) sc__law_least_ring.nd rfl (.inr rfl) (pe_lst (pa_cons (pv 3) pa_nil)))
      (pss_cons (ps_for PassesOwn.never rfl (pi_range1 (by rfl) T.n_range (pa_cons (pe_op op_sub (pv 2) (pe_int)) pa_nil)) (pg_name (i := 7) sc__law_least_ring.nd rfl (.inr rfl)) (pss_one (ps_expr (pe_bm PySem.F.plainAttrs_list PySem.F.slot_list_append PySem.F.type_list_append mt_append (pv 6) (pa_cons (pe_call (ok__law_longer T) (hr.mono (by omega)) (by rfl) T.g__law_longer T.F__law_longer.kp T.b__law_longer .nil pass0 (pa_cons (pe_ix ix_list (pv 6) (pv 7) (fun _ _ => rfl)) (pa_cons (pv 3) pa_nil))) pa_nil)))))
      (pss_cons (ps_for PassesOwn.never rfl (pi_range2 (by rfl) T.n_range (pa_cons (pe_int) (pa_cons (pe_op op_add (pv 2) (pe_int)) pa_nil))) (pg_name (i := 8) sc__law_least_ring.nd rfl (.inr rfl)) (pss_cons (ps_setLc (i := 9) (own := [("_law_x", 4)]) (g := (gName 4)) (by rfl) sc__law_least_ring.nd rfl rfl (sw_true rfl rfl rfl (by decide +kernel)) (pi_range1 (by rfl) T.n_range (pa_cons (pv 2) pa_nil)) (blkOk_by (own := [("_law_x", 4)]) (N := ["_law_nodes_here", "_law_edges", "_law_size", "_law_near", "_law_x", "_law_y", "_law_tables", "_law_k", "_law_length", "_law_closed", "_law_ring", "_law_table", "_law_able"]) (sc := defScope S__law_least_ring) (by decide +kernel)) (fun _ _ _ _ _ => (pg_name (i := 4) sc__law_least_ring.nd rfl (by first | exact .inl rfl | exact .inr rfl))) (fun _ _ _ _ _ => (pts_one (pt_val (pe_ix (ixLK (K := K) rfl) (pe_ix (ixLK (K := K) rfl) (pe_ix (ixLK (K := K) rfl) (pv 6) (pe_op op_sub (pv 8) (pe_int)) (fun _ _ => rfl)) (pv 4) (fun _ _ => rfl)) (pv 4) (fun _ _ => rfl))))) (fun _ _ _ _ _ => (pv 4)))
      (pss_one (ps_if (pt_cmpR op_gt (pe_callB call_len_seq (by rfl) T.n_len (by decide +kernel) (pa_cons (pv 9) pa_nil)) (pe_int) (nomark _)) (pss_cons (ps_set (i := 10) sc__law_least_ring.nd rfl (.inr rfl) (pe_lst (pa_cons (pe_ix ix_list (pv 9) (pe_int) (fun _ _ => rfl)) pa_nil)))
      (pss_cons (ps_for PassesOwn.never rfl (pi_range1 (by rfl) T.n_range (pa_cons (pe_op op_sub (pv 8) (pe_int)) pa_nil)) (pg_name (i := 7) sc__law_least_ring.nd rfl (.inr rfl)) (pss_cons (ps_set (i := 11) sc__law_least_ring.nd rfl (.inr rfl) (pe_ix ix_list (pv 6) (pe_op op_sub (pe_op op_sub (pv 8) (pe_int)) (pv 7)) (fun _ _ => rfl)))
      (pss_cons (ps_setLc (i := 12) (own := [("_law_y", 5)]) (g := (gName 5)) (by rfl) sc__law_least_ring.nd rfl rfl (sw_true rfl rfl rfl (by decide +kernel)) (pi_range1 (by rfl) T.n_range (pa_cons (pv 2) pa_nil)) (blkOk_by (own := [("_law_y", 5)]) (N := ["_law_nodes_here", "_law_edges", "_law_size", "_law_near", "_law_x", "_law_y", "_law_tables", "_law_k", "_law_length", "_law_closed", "_law_ring", "_law_table", "_law_able"]) (sc := defScope S__law_least_ring) (by decide +kernel)) (fun _ _ _ _ _ => (pg_name (i := 5) sc__law_least_ring.nd rfl (by first | exact .inl rfl | exact .inr rfl))) (fun _ _ _ _ _ => (pts_one (PW.pt (pw_and (pt_val (pe_ix (ixLK (K := K) rfl) (pe_ix (ixLK (K := K) rfl) (pv 3) (pe_ix (ixLK (K := K) rfl) (pv 10) (pv 7) (fun _ _ => rfl)) (fun _ _ => rfl)) (pv 5) (fun _ _ => rfl))) (pw_and1 (pt_val (pe_ix (ixLK (K := K) rfl) (pe_ix (ixLK (K := K) rfl) (pv 11) (pv 5) (fun _ _ => rfl)) (pe_ix (ixLK (K := K) rfl) (pv 10) (pe_int) (fun _ _ => rfl)) (fun _ _ => rfl)))))))) (fun _ _ _ _ _ => (pv 5)))
      (pss_one (ps_expr (pe_bm PySem.F.plainAttrs_list PySem.F.slot_list_append PySem.F.type_list_append mt_append (pv 10) (pa_cons (pe_ix ix_list (pv 12) (pe_int) (fun _ _ => rfl)) pa_nil)))))))
      (pss_one (ps_ret (pe_callTy call_tuple_of (by rfl) T.n_tuple (by decide +kernel) (pa_cons (pe_lc (own := [("_law_x", 4)]) (g := (gName 4)) (by rfl) sc__law_least_ring.nd (pi_list (pv 10)) (blkOk_by (own := [("_law_x", 4)]) (N := ["_law_nodes_here", "_law_edges", "_law_size", "_law_near", "_law_x", "_law_y", "_law_tables", "_law_k", "_law_length", "_law_closed", "_law_ring", "_law_table", "_law_able"]) (sc := defScope S__law_least_ring) (by decide +kernel)) (fun _ _ _ _ _ => (pg_name (i := 4) sc__law_least_ring.nd rfl (by first | exact .inl rfl | exact .inr rfl))) (fun _ _ _ _ _ => pts_nil) (fun _ _ _ _ _ => (pe_ix (ixLK (K := K) rfl) (pv 0) (pv 4) (fun _ _ => rfl)))) pa_nil)))))) pss_nil))))
      (pss_one (ps_ret (pe_tup pa_nil)))))))), ?_⟩
    have big : 1000 < sizeLine := by decide
    refine ⟨_, rfl, a, _, rfl, .inl (SqL.of hS), ?_⟩
    rw [List.length_map]
    -- near
    refine ⟨_, rfl, a, rfl, ⟨_, SqL.of hS⟩, fun D hD => lc_list (K := K) (a := a) (xs := ns.map V.int) (fun i H' => ∃ rows : List Addr, Same H H' ∧ rows.length = i ∧ H' D = some (.lst (rows.map V.ref)) ∧ ∀ (j : Nat) (p : Addr), rows[j]? = some p → p ≠ D ∧ H' p = some (.lst ((List.range ns.length).map fun k => V.bl (tb ns es 0 j k))))
      ⟨[], same_new hD, rfl, upd_same, fun j p h => by cases h⟩ (fun i H' _ ⟨_, s, _⟩ => SqL.of (s _ _ hS)) ?_ ?_⟩
    · rintro i v H1 hv ⟨rows, s1, lr, hD1, hrows⟩
      obtain ⟨x, hx, rfl⟩ := get_int' hv
      refine ⟨rfl, ?_⟩
      unfold tYes
      refine iteT ?_
      refine near_row (x := x) (s1 _ _ hS) hz (edg_same s1 hE) fun ro H2 s2 hro h2 => ?_
      · rw [map_nd] at h2
        have hi : i < ns.length := (List.getElem?_eq_some_iff.mp hx).1
        have nro : ro ≠ D := (ne_of_none hD1 hro).symm
        refine ⟨_, s2 _ _ hD1, by rw [List.length_map]; omega, rows ++ [ro], same_mut (s1.trans s2) hD, by rw [List.length_append, lr]; rfl, by rw [upd_same, List.map_append]; rfl, fun j p e => ?_⟩
        by_cases c : j < rows.length
        · rw [List.getElem?_append_left c] at e
          obtain ⟨n1, h1⟩ := hrows j p e
          exact ⟨n1, by rw [upd_ne n1]; exact s2 _ _ h1⟩
        · rw [List.getElem?_append_right (by omega)] at e
          obtain ⟨hi', e1⟩ := List.getElem?_eq_some_iff.mp e
          have hi' : j - rows.length < 1 := hi'
          obtain rfl : j = i := by omega
          have e2 : j - rows.length = 0 := by omega
          rw [e2] at e
          obtain rfl : ro = p := Option.some.inj e
          refine ⟨nro, ?_⟩
          rw [upd_ne nro, h2, ← nd_of hx]; rfl
    rintro H1 ⟨rows, s1, lr, hD1, hrows⟩
    rw [List.length_map] at lr
    have near1 : Mat H1 D (tb ns es 0) ns.length := ⟨rows, lr, hD1, fun i p e => (hrows i p e).2⟩
    clear hrows lr
    -- the tables
    refine ⟨_, rfl, by show 1 ≤ sizeLine; decide, fun tA htA => ?_⟩
    have s2 := same_new (o := .lst [.ref D]) htA
    have nDt : D ≠ tA := ne_of_none hD1 htA
    refine ⟨_, rfl, _, _, rfl, rfl, _, rfl, by omega, by omega, for_range (lo := 0) (n := ((ns.length : Nat) - 1 : Int).toNat) (fun k σ H' => ∃ (ts : List Addr) (x4 x5 x7 x8 x9 x10 x11 x12 : Option V), σ = [some (.ref a), some y, some (.int (ns.length : Nat)), some (.ref D), x4, x5, some (.ref tA), x7, x8, x9, x10, x11, x12] ∧ Same H H' ∧ ts.length = k + 1 ∧ H' tA = some (.lst (ts.map V.ref)) ∧
        Mat H' D (tb ns es 0) ns.length ∧ ∀ (i : Nat) (p : Addr), ts[i]? = some p → p ≠ tA ∧ Mat H' p (tb ns es i) ns.length)
      ⟨[D], _, _, _, _, _, _, _, _, rfl, s1.trans s2, rfl, upd_same, near1.same s2, fun i p e => ?_⟩ ?_ ?_⟩
    · obtain ⟨hi, e1⟩ := List.getElem?_eq_some_iff.mp e
      have hi : i < 1 := hi
      obtain rfl : i = 0 := by omega
      obtain rfl : D = p := Option.some.inj e
      exact ⟨nDt, near1.same s2⟩
    · rintro k σ H3 hk ⟨ts, x4, x5, x7, x8, x9, x10, x11, x12, rfl, t3, lt, hT, hN, hM⟩
      have gk : ts[k]? = some ts[k] := List.getElem?_eq_getElem (by omega)
      rw [Int.zero_add]
      refine ⟨_, rfl, .inl ⟨rfl, _, SqL.of hT⟩, _, rfl, _, rfl, _, _, _, _, rfl, rfl, SqL.of hT, atI_nat (by rw [List.getElem?_map, gk]; rfl), _, rfl, ts[k], D, tb ns es k, tb ns es 0, ns.length, rfl, hz, (hM k _ gk).2, hN, fun r H4 s4 nr' mr => ?_⟩
      have hT4 := s4 _ _ hT
      have nrt : r ≠ tA := (ne_of_none hT nr').symm
      have ne : ts ≠ [] := fun z => by rw [z] at lt; cases lt
      refine ⟨_, _, _, rfl, rfl, hT4, by rw [List.length_map]; omega, ts ++ [r], _, _, _, _, _, _, _, _, rfl, same_mut (t3.trans s4) (s1.free htA), by rw [List.length_append, lt]; rfl, by rw [upd_same, List.map_append]; rfl, (hN.same s4).mut nDt hT4 ne, fun i p e => ?_⟩
      by_cases c : i < ts.length
      · rw [List.getElem?_append_left c] at e
        obtain ⟨n1, h1⟩ := hM i p e
        exact ⟨n1, (h1.same s4).mut n1 hT4 ne⟩
      · rw [List.getElem?_append_right (by omega)] at e
        obtain ⟨hi', e1⟩ := List.getElem?_eq_some_iff.mp e
        have hi' : i - ts.length < 1 := hi'
        obtain rfl : i = k + 1 := by omega
        have e2 : k + 1 - ts.length = 0 := by omega
        rw [e2] at e
        obtain rfl : r = p := Option.some.inj e
        exact ⟨nrt, mr.mut nrt hT4 ne⟩
    rintro σ H3 ⟨ts, x4, x5, x7, x8, x9, x10, x11, x12, rfl, t3, lt, hT, hN, hM⟩
    -- the lengths
    refine ⟨_, rfl, _, _, rfl, rfl, _, _, rfl, ⟨by omega, by omega, by omega, by omega⟩, for_range (lo := 2) (n := ((ns.length : Nat) + 1 - 2 : Int).toNat) (fun i σ H' => ∃ (x4 x5 x7 x8 x9 x10 x11 x12 : Option V), σ = [some (.ref a), some y, some (.int (ns.length : Nat)), some (.ref D), x4, x5, some (.ref tA), x7, x8, x9, x10, x11, x12] ∧ Same H3 H' ∧
        ∀ L, 2 ≤ L → L < 2 + i → ∀ x ∈ ns, ¬ Wl es L x x)
      ⟨_, _, _, _, _, _, _, _, rfl, fun _ _ h => h, fun L h1 h2 => by omega⟩ ?_ ?_⟩
    · rintro i σ H4 hi ⟨x4, x5, x7, x8, x9, x10, x11, x12, rfl, s4, no⟩
      have iL : 2 + i ≤ ns.length := by omega
      have t4 := t3.trans s4
      have lt' : ts.length = ns.length := by omega
      have tab : ∀ (j : Nat) (H' : Hp), j < ns.length → Same H3 H' → ∃ p, atI (ts.map V.ref) (j : Int) = some (.ref p) ∧ H' tA = some (.lst (ts.map V.ref)) ∧ Mat H' p (tb ns es j) ns.length := fun j H' hj s => by
        have gj : ts[j]? = some ts[j] := List.getElem?_eq_getElem (by omega)
        exact ⟨ts[j], atI_nat (by rw [List.getElem?_map, gj]; rfl), s _ _ hT, (hM j _ gj).2.same s⟩
      -- closed
      refine ⟨_, rfl, _, rfl, by omega, by omega, fun C hC => lc_range (lo := 0) (n := ns.length) (fun x H' => Same H4 H' ∧ H' C = some (.lst (((List.range x).filter fun x => tb ns es (1 + i) x x).map fun y : Nat => V.int (y : Int)))) ⟨same_new hC, upd_same⟩ ?_ ?_⟩
      · rintro x H5 hx ⟨s5, h5⟩
        rw [Int.zero_add]
        refine ⟨rfl, ?_⟩
        obtain ⟨p, e1, e2, m1⟩ := tab (1 + i) H5 (by omega) (s4.trans s5)
        obtain ⟨xs, p2, b1, b2, b3⟩ := m1.row hx
        refine ⟨_, rfl, _, rfl, _, _, rfl, rfl, _, _, _, _, rfl, rfl, SqL.of e2, ?_, _, rfl, _, _, _, _, rfl, rfl, SqL.of b1, b2, _, rfl, _, _, _, _, rfl, rfl, SqL.of b3, row_at hx, _, rfl, ?_⟩
        · rw [show (2 + (i : Int) - 1) = ((1 + i : Nat) : Int) by omega]; exact e1
        · cases c : tb ns es (1 + i) x x with
          | false =>
            refine iteF ⟨s5, ?_⟩
            rw [List.range_succ, List.filter_append, List.filter_cons_of_neg (by rw [c]; decide), List.filter_nil, List.append_nil]; exact h5
          | true =>
            refine iteT ⟨_, rfl, _, h5, ?_, same_mut s5 hC, ?_⟩
            · have := List.length_filter_le (fun x => tb ns es (1 + i) x x) (List.range x)
              rw [List.length_range] at this
              rw [List.length_map]; omega
            · rw [upd_same, List.range_succ, List.filter_append, List.filter_cons_of_pos (by rw [c]), List.filter_nil, List.map_append]; rfl
      rintro H5 ⟨s5, h5⟩
      have sH5 := s4.trans s5
      refine ⟨_, rfl, C, _, rfl, .inl (SqL.of h5), _, _, rfl, rfl, _, rfl, iteD (fun c => ?_) (fun c => ?_)⟩
      · -- a ring
        cases ec : (List.range ns.length).filter fun x => tb ns es (1 + i) x x with
        | nil => rw [ec] at c; exact absurd c (by decide)
        | cons x0 rest =>
          obtain ⟨hx0, tx0, fx0⟩ := first_range ec
          rw [ec] at h5
          have w0 : Wl es (2 + i) (nd ns x0) (nd ns x0) := by
            have := (tb_iff G hx0 hx0).mp tx0
            rwa [show 1 + i + 1 = 2 + i by omega] at this
          have first0 : IsFirst ns (fun x => Wl es (2 + i) x x) (nd ns x0) := ⟨x0, nd_get hx0, w0, fun j z hj hz' w => by
            have := fx0 j hj
            rw [← nd_of hz', show 2 + i = 1 + i + 1 by omega, ← tb_iff G (by omega) (by omega), this] at w
            cases w⟩
          refine ⟨_, rfl, _, _, _, _, rfl, rfl, SqL.of h5, at_of (j := 0) rfl rfl, by show 1 ≤ sizeLine; decide, fun rg hrg => ?_⟩
          have s6 := same_new (o := .lst [.int (x0 : Int)]) hrg
          let PL : Nat → Int → Int → Prop := fun k u y => (u, y) ∈ es ∧ Wl es k y (nd ns x0)
          refine ⟨_, rfl, _, _, rfl, rfl, _, rfl, by omega, by omega, for_range (lo := 0) (n := (2 + (i : Int) - 1).toNat) (fun k σ H' => ∃ (rs : List Nat) (u : Nat) (r1 : List Int) (x5 x7 x11 x12 : Option V), σ = [some (.ref a), some y, some (.int (ns.length : Nat)), some (.ref D), x4, x5, some (.ref tA), x7, some (.int (2 + (i : Int))), some (.ref C), some (.ref rg), x11, x12] ∧ Same H5 H' ∧ H' rg = some (.lst (rs.map fun y : Nat => V.int (y : Int))) ∧ rs.length = k + 1 ∧ rs[0]? = some x0 ∧ rs[k]? = some u ∧ (∀ z ∈ rs, z < ns.length) ∧ rs.map (nd ns) = nd ns x0 :: r1 ∧
              Wl es (2 + i - k) (nd ns u) (nd ns x0) ∧ ∀ r2, Chain ns PL (1 + i - k) (nd ns u) r2 → Chain ns PL (1 + i) (nd ns x0) (r1 ++ r2))
            ⟨[x0], x0, [], _, _, _, _, rfl, s6, upd_same, rfl, rfl, rfl, fun z hz' => by rw [List.mem_singleton.mp hz']; exact hx0, rfl, w0, fun r2 h => h⟩ ?_ ?_⟩
          · rintro k σ H7 hk ⟨rs, u, r1, x5, x7, x11, x12, rfl, s7, h7, lrs, g0, gk, small, emap, wu, ch⟩
            have hk : k ≤ i := by omega
            have hu : u < ns.length := small u (List.mem_of_getElem? gk)
            have at0 : atI (rs.map fun y : Nat => V.int (y : Int)) 0 = some (.int (x0 : Int)) := atI_nat (j := 0) (by rw [List.getElem?_map, g0]; rfl)
            have atk : atI (rs.map fun y : Nat => V.int (y : Int)) (k : Int) = some (.int (u : Int)) := atI_nat (by rw [List.getElem?_map, gk]; rfl)
            rw [Int.zero_add]
            obtain ⟨p, e1, e2, m1⟩ := tab (i - k) H7 (by omega) (sH5.trans s7)
            refine ⟨_, rfl, _, rfl, _, _, rfl, rfl, _, rfl, _, _, rfl, rfl, _, _, _, _, rfl, rfl, SqL.of e2, (by rw [show (2 + (i : Int) - 2 - (k : Int)) = ((i - k : Nat) : Int) by omega]; exact e1), ?_⟩
            refine ⟨_, rfl, _, rfl, by omega, by omega, fun A2 hA2 => lc_range (lo := 0) (n := ns.length) (fun x H' => Same H7 H' ∧ H' A2 = some (.lst (((List.range x).filter fun x => tb ns es 0 u x && tb ns es (i - k) x x0).map fun y : Nat => V.int (y : Int)))) ⟨same_new hA2, upd_same⟩ ?_ ?_⟩
            · rintro x H8 hx ⟨s8, h8⟩
              rw [Int.zero_add]
              refine ⟨rfl, ?_⟩
              have u8 := (sH5.trans s7).trans s8
              obtain ⟨xs1, p1, a1, a2, a3⟩ := (hN.same u8).row hu
              obtain ⟨xs2, p2, b1, b2, b3⟩ := (m1.same s8).row hx
              have h78 := s8 _ _ h7
              have stay : (tb ns es 0 u x && tb ns es (i - k) x x0) = false → Same H7 H8 ∧ H8 A2 = some (.lst (((List.range (x + 1)).filter fun x => tb ns es 0 u x && tb ns es (i - k) x x0).map fun y : Nat => V.int (y : Int))) := fun e => by
                refine ⟨s8, ?_⟩
                rw [List.range_succ, List.filter_append, List.filter_cons_of_neg (by rw [e]; decide), List.filter_nil, List.append_nil]; exact h8
              refine ⟨_, rfl, _, rfl, _, rfl, _, _, _, _, rfl, rfl, SqL.of h78, atk, _, _, _, _, rfl, rfl, SqL.of a1, a2, _, rfl, _, _, _, _, rfl, rfl, SqL.of a3, row_at hx, _, rfl, ?_⟩
              cases c1 : tb ns es 0 u x with
              | false => exact iteF (iteF (stay (by rw [c1]; rfl)))
              | true =>
                refine iteT ⟨_, rfl, _, rfl, _, _, _, _, rfl, rfl, SqL.of b1, b2, _, rfl, _, _, _, _, rfl, rfl, SqL.of h78, at0, _, _, _, _, rfl, rfl, SqL.of b3, row_at hx0, _, rfl, ?_⟩
                cases c2 : tb ns es (i - k) x x0 with
                | false => exact iteF (stay (by rw [c2, Bool.and_false]))
                | true =>
                  refine iteT ⟨_, rfl, _, h8, ?_, same_mut s8 hA2, ?_⟩
                  · have := List.length_filter_le (fun x => tb ns es 0 u x && tb ns es (i - k) x x0) (List.range x)
                    rw [List.length_range] at this
                    rw [List.length_map]; omega
                  · rw [upd_same, List.range_succ, List.filter_append, List.filter_cons_of_pos (by rw [c1, c2]; rfl), List.filter_nil, List.map_append]; rfl
            · rintro H8 ⟨s8, h8⟩
              obtain ⟨z, ez, wz⟩ : ∃ z, (nd ns u, z) ∈ es ∧ Wl es (1 + i - k) z (nd ns x0) := Wl.head (by rwa [show 1 + i - k + 1 = 2 + i - k by omega])
              obtain ⟨m, hm, em⟩ := nd_mem (G.ed _ ez).2.1
              have em : nd ns m = z := em
              have pm : (tb ns es 0 u m && tb ns es (i - k) m x0) = true := by
                rw [Bool.and_eq_true]
                exact ⟨(tb_iff G hu hm).mpr ⟨_, rfl, by rw [em]; exact ez⟩, (tb_iff G hm hx0).mpr (by rw [em, show i - k + 1 = 1 + i - k by omega]; exact wz)⟩
              obtain ⟨y0, rr, ea⟩ := first_some (p := fun x => tb ns es 0 u x && tb ns es (i - k) x x0) hm pm
              obtain ⟨hy0, ty0, fy0⟩ := first_range ea
              rw [ea] at h8
              have h78 := s8 _ _ h7
              have conv : ∀ z, z < ns.length → ((tb ns es 0 u z && tb ns es (i - k) z x0) = true ↔ (nd ns u, nd ns z) ∈ es ∧ Wl es (1 + i - k) (nd ns z) (nd ns x0)) := fun z hz' => by
                rw [Bool.and_eq_true, tb_iff G hu hz', tb_iff G hz' hx0, show i - k + 1 = 1 + i - k by omega]
                refine and_congr ⟨fun ⟨v, e, h⟩ => by rw [show nd ns u = v from e]; exact h, fun h => ⟨_, rfl, h⟩⟩ Iff.rfl
              obtain ⟨ey, wy⟩ := (conv y0 hy0).mp ty0
              have fst : IsFirst ns (PL (1 + i - k) (nd ns u)) (nd ns y0) := ⟨y0, nd_get hy0, ⟨ey, wy⟩, fun j z hj hz' hp => by
                have hj' : j < ns.length := by omega
                rw [← nd_of hz'] at hp
                have := (conv j hj').mpr hp
                rw [fy0 j hj] at this
                cases this⟩
              refine ⟨_, rfl, .inl ⟨rfl, _, SqL.of h78⟩, _, rfl, _, _, _, _, rfl, rfl, SqL.of h8, at_of (j := 0) rfl rfl, _, _, _, rfl, rfl, h78, by rw [List.length_map]; omega, ?_⟩
              refine ⟨rs ++ [y0], y0, r1 ++ [nd ns y0], _, _, _, _, rfl, same_mut (s7.trans s8) hrg, by rw [upd_same, List.map_append]; rfl, by rw [List.length_append, lrs]; rfl, by rw [List.getElem?_append_left (by omega)]; exact g0, by rw [List.getElem?_append_right (by omega), show k + 1 - rs.length = 0 by omega]; rfl, fun z hz' => ?_, by rw [List.map_append, emap]; rfl, by rw [show 2 + i - (k + 1) = 1 + i - k by omega]; exact wy, fun r2 h2 => ?_⟩
              · rcases List.mem_append.mp hz' with h | h
                · exact small z h
                · rw [List.mem_singleton.mp h]; exact hy0
              · rw [List.append_assoc]
                refine ch (nd ns y0 :: r2) ?_
                obtain ⟨j, ej⟩ : ∃ j, 1 + i - k = j + 1 := ⟨i - k, by omega⟩
                rw [ej] at fst ⊢
                rw [show 1 + i - (k + 1) = j by omega] at h2
                exact .cons fst h2
          · rintro σ H7 ⟨rs, u, r1, x5, x7, x11, x12, rfl, s7, h7, lrs, g0, gk, small, emap, wu, ch⟩
            have t7 := (t3.trans sH5).trans s7
            refine ⟨_, rfl, rg, rfl, ⟨_, SqL.of h7⟩, fun F hF => lc_list (K := K) (a := rg) (xs := rs.map fun y : Nat => V.int (y : Int)) (fun j H' => Same H7 H' ∧ H' F = some (.lst (((rs.take j).map (nd ns)).map V.int))) ⟨same_new hF, upd_same⟩ (fun j H' _ h => SqL.of (h.1 _ _ h7)) ?_ ?_⟩
            · rintro j v H8 hv ⟨s8, h8⟩
              rw [List.getElem?_map] at hv
              cases e : rs[j]? with
              | none => rw [e] at hv; cases hv
              | some z =>
                rw [e] at hv
                obtain rfl : V.int (z : Int) = v := Option.some.inj hv
                have hzl := small z (List.mem_of_getElem? e)
                have hj : j < rs.length := (List.getElem?_eq_some_iff.mp e).1
                refine ⟨rfl, ?_⟩
                unfold tYes
                refine iteT ⟨_, rfl, _, rfl, _, _, _, _, rfl, rfl, SqL.of ((t7.trans s8) _ _ hS), atI_nat (by rw [List.getElem?_map, nd_get hzl]; rfl), _, h8, ?_, same_mut s8 hF, ?_⟩
                · rw [List.length_map, List.length_map, List.length_take]; omega
                · rw [upd_same, List.take_add_one, e, List.map_append, List.map_append]; rfl
            · rintro H8 ⟨s8, h8⟩
              rw [List.length_map, List.take_length] at h8
              have t8 := t7.trans s8
              refine ⟨F, _, rfl, .inl ⟨SqL.of h8, fun r hr => q r (rs.map (nd ns)) _ (t8.trans (same_new hr)) (t8.free hr) upd_same (.inr ⟨2 + i, nd ns x0, r1, emap, by omega, iL, first0, no, ?_⟩)⟩⟩
              have := ch [] (by rw [show 1 + i - (2 + (i : Int) - 1).toNat = 0 by omega]; exact .nil _)
              rw [List.append_nil] at this
              rw [show 2 + i - 1 = 1 + i by omega]
              exact this
      · refine ⟨_, _, _, _, _, _, _, _, rfl, sH5, fun L h1 h2 x hx w => ?_⟩
        by_cases e : L < 2 + i
        · exact no L h1 e x hx w
        · obtain rfl : L = 2 + i := by omega
          obtain ⟨m, hm, em⟩ := nd_mem hx
          rw [← em, show 2 + i = 1 + i + 1 by omega, ← tb_iff G hm hm] at w
          obtain ⟨y', r', e'⟩ := first_some (p := fun x => tb ns es (1 + i) x x) hm w
          exact c (by rw [e', List.length_map, List.length_cons]; omega)
    · rintro σ H4 ⟨x4, x5, x7, x8, x9, x10, x11, x12, rfl, s4, no⟩
      refine ⟨Nat.zero_le _, fun r hr => q r [] _ ((t3.trans s4).trans (same_new hr)) ((t3.trans s4).free hr) upd_same (.inl ⟨rfl, fun L h1 h2 => no L h1 (by omega)⟩)⟩
end
end My

namespace My
open PySem L2
def spNodes (K : PySem.W.Frag) : Sp := fun vs H Q _ => ∃ (d t : Addr) (n : Nat), vs = [.ref d, .ref t, .int (n : Nat)] ∧ n ≤ 7 ∧ Dr K H d t ∧ ∀ (r : Addr) (ns : List Int) H', ns.length = n → ns.Pairwise (· < ·) → Dr K H' d t → But t H H' → H r = none → H' r = some (.lst (ns.map V.int)) → Q (.ref r) H'
section
variable {P : Program} {w : World} {K : PySem.W.Frag} {mg : Str → Option Value} {base : Heap}
theorem ok__law_nodes (T : Txt K mg) : FnOk P w K mg base CX0 2 T.a__law_nodes T.fd__law_nodes ["_law_draws_here", "_law_at", "_law_count"] (spNodes K) := by
  refine T.F__law_nodes.ok sc__law_nodes (fun vs H Q E h => ?_) (fun cdv A outer s H vs Q E hr h => ?_)
  · obtain ⟨d, t, n, rfl, _⟩ := h; rfl
  · obtain ⟨d, t, n, rfl, hn, D, q⟩ := h
    refine ⟨_, (pss_cons (ps_set (i := 3) sc__law_nodes.nd rfl (.inl rfl) (pe_lst pa_nil))
      (pss_cons (ps_set (i := 4) sc__law_nodes.nd rfl (.inl rfl) (pe_call (ok__law_take T) (hr.mono (by omega)) (by rfl) T.g__law_take T.F__law_take.kp T.b__law_take .nil pass0 (pa_cons (pv 0) (pa_cons (pv 1) (pa_cons (pe_int) pa_nil)))))
      (pss_cons (ps_for PassesOwn.never rfl (pi_range1 (by rfl) T.n_range (pa_cons (pv 2) pa_nil)) (pg_name (i := 5) sc__law_nodes.nd rfl (.inl rfl)) (pss_cons (ps_expr (pe_bm PySem.F.plainAttrs_list PySem.F.slot_list_append PySem.F.type_list_append mt_append (pv 3) (pa_cons (pv 4) pa_nil)))
      (pss_one (ps_set (i := 4) sc__law_nodes.nd rfl (.inl rfl) (pe_op op_add (pv 4) (pe_ix ix_list (pe_lst (pa_cons (pe_int) (pa_cons (pe_int) (pa_cons (pe_int) (pa_cons (pe_int) (pa_cons (pe_int) (pa_cons (pe_int) pa_nil))))))) (pe_call (ok__law_take T) (hr.mono (by omega)) (by rfl) T.g__law_take T.F__law_take.kp T.b__law_take .nil pass0 (pa_cons (pv 0) (pa_cons (pv 1) (pa_cons (pe_int) pa_nil)))) (fun _ _ => rfl)))))))
      (pss_one (ps_ret (pv 3)))))), ?_⟩
    refine ⟨Nat.zero_le _, fun l hl => ?_⟩
    have s1 := same_new (o := .lst ([] : List V)) hl
    have nl : l ≠ t := D.na hl
    have ndl : d ≠ l := D.nd hl
    refine ⟨_, rfl, _, rfl, d, t, 3, rfl, D.same s1, by decide, fun r0 H1 h0 h1 D1 b1 => ?_⟩
    have l1 := b1 _ _ nl upd_same
    have c1 : But t H H1 := (But.of_same s1).trans b1
    refine ⟨_, rfl, _, rfl, by omega, by omega, for_range (lo := 0) (n := n) (fun k σ H' => ∃ (ns : List Int) (x : Int) (x5 : Option V), σ = [some (.ref d), some (.ref t), some (.int (n : Nat)), some (.ref l), some (.int x), x5] ∧ ns.length = k ∧ ns.Pairwise (· < ·) ∧ (∀ y ∈ ns, y < x) ∧ Dr K H' d t ∧ But t H H' ∧ H' l = some (.lst (ns.map V.int)))
      ⟨[], r0, _, rfl, rfl, .nil, fun _ h => absurd h List.not_mem_nil, D1, c1, l1⟩ ?_ ?_⟩
    · rintro k σ H2 hk ⟨ns, x, x5, rfl, en, pw, lt, D2, b2, l2⟩
      refine ⟨_, rfl, .inl ⟨rfl, _, SqL.of l2⟩, _, rfl, _, _, _, rfl, rfl, l2, Nat.lt_of_le_of_lt (m := 7) (by rw [List.length_map]; omega) (by decide), ?_⟩
      have D3 := D2.other (But.upd (a := l) (H := H2) (o := .lst (ns.map V.int ++ [.int x]))) ndl nl.symm
      have b3 := b2.mut (o := .lst (ns.map V.int ++ [.int x])) hl
      refine ⟨_, rfl, by show 6 ≤ sizeLine; decide, fun u hu => ?_⟩
      have s4 := same_new (o := .lst [.int 1, .int 2, .int 1, .int 9, .int 1000, .int 100000]) hu
      have nu : u ≠ t := D3.na hu
      refine ⟨_, rfl, _, rfl, d, t, 6, rfl, D3.same s4, by decide, fun r H5 r0 r1 D5 b5 => ?_⟩
      obtain ⟨v, hv, mv⟩ := at_ok (xs := [.int 1, .int 2, .int 1, .int 9, .int 1000, .int 100000]) r0 r1
      obtain ⟨g, rfl, hg⟩ : ∃ g : Int, v = .int g ∧ 0 < g := by
        simp only [List.mem_cons, List.not_mem_nil, or_false] at mv
        rcases mv with rfl | rfl | rfl | rfl | rfl | rfl <;> exact ⟨_, rfl, by decide⟩
      refine ⟨_, _, _, _, rfl, rfl, SqL.of (b5 _ _ nu upd_same), hv, _, _, rfl, rfl, ?_⟩
      refine ⟨ns ++ [x], _, _, rfl, by rw [List.length_append, en]; rfl, ?_, ?_, D5, (b3.trans (But.of_same s4)).trans b5, ?_⟩
      · rw [List.pairwise_append]
        exact ⟨pw, List.pairwise_singleton _ _, fun y hy z hz => by rw [List.mem_singleton.mp hz]; exact lt y hy⟩
      · intro y hy
        rcases List.mem_append.mp hy with h | h
        · have := lt y h; omega
        · have := List.mem_singleton.mp h; omega
      · rw [List.map_append]
        exact b5 _ _ nl (s4 _ _ upd_same)
    · rintro σ H2 ⟨ns, x, x5, rfl, en, pw, lt, D2, b2, l2⟩
      exact ⟨_, rfl, q l ns H2 en pw D2 b2 hl l2⟩
end
end My

namespace My
open PySem L2
def rgI (n : Nat) : List Int := (List.range n).map fun i : Nat => (i : Int)
theorem rgI_V (n : Nat) : rgV 0 (n : Int) = (rgI n).map V.int := by
  unfold rgV rgI
  rw [List.map_map]
  simp
theorem rgI_nodup (n : Nat) : (rgI n).Nodup := by
  unfold rgI
  rw [List.nodup_iff_pairwise_ne, List.pairwise_map]
  exact (List.nodup_range (n := n)).imp fun h e => h (by omega)
theorem rgI_mem {n : Nat} {x : Int} (h : x ∈ rgI n) : 0 ≤ x ∧ x < n := by
  unfold rgI at h
  obtain ⟨i, hi, rfl⟩ := List.mem_map.mp h
  have := List.mem_range.mp hi
  omega
def spOrder (K : PySem.W.Frag) : Sp := fun vs H Q _ => ∃ (d t : Addr) (n : Nat), vs = [.ref d, .ref t, .int (n : Nat)] ∧ n ≤ 1000 ∧ Dr K H d t ∧ ∀ (r : Addr) (os : List Int) H', os.Perm (rgI n) → Dr K H' d t → But t H H' → H r = none → H' r = some (.lst (os.map V.int)) → Q (.ref r) H'
theorem pick_perm {os ls : List Int} {p : Nat} {x : Int} (h : ls[p]? = some x) : ((os ++ [x]) ++ (ls.take p ++ ls.drop (p + 1))).Perm (os ++ ls) := by
  rw [List.append_assoc]
  refine List.Perm.append_left os ?_
  obtain ⟨hp, e⟩ := List.getElem?_eq_some_iff.mp h
  have e2 : ls = ls.take p ++ x :: ls.drop (p + 1) := by rw [← e, ← List.drop_eq_getElem_cons hp, List.take_append_drop]
  conv => rhs; rw [e2]
  exact (List.perm_middle (l₁ := ls.take p) (l₂ := ls.drop (p + 1)) (a := x)).symm
section
variable {P : Program} {w : World} {K : PySem.W.Frag} {mg : Str → Option Value} {base : Heap}
theorem ok__law_order (T : Txt K mg) : FnOk P w K mg base CX0 2 T.a__law_order T.fd__law_order ["_law_draws_here", "_law_at", "_law_count"] (spOrder K) := by
  refine T.F__law_order.ok sc__law_order (fun vs H Q E h => ?_) (fun cdv A outer s H vs Q E hr h => ?_)
  · obtain ⟨d, t, n, rfl, _⟩ := h; rfl
  · obtain ⟨d, t, n, rfl, hn, D, q⟩ := h
    refine ⟨_, (pss_cons (ps_set (i := 3) sc__law_order.nd rfl (.inl rfl) (pe_listRg rfl (by rfl) T.n_list (prg_1 (by rfl) T.n_range (pv 2))))
      (pss_cons (ps_set (i := 4) sc__law_order.nd rfl (.inl rfl) (pe_lst pa_nil))
      (pss_cons (ps_for PassesOwn.never rfl (pi_range1 (by rfl) T.n_range (pa_cons (pv 2) pa_nil)) (pg_name (i := 5) sc__law_order.nd rfl (.inl rfl)) (pss_cons (ps_set (i := 6) sc__law_order.nd rfl (.inl rfl) (pe_call (ok__law_take T) (hr.mono (by omega)) (by rfl) T.g__law_take T.F__law_take.kp T.b__law_take .nil pass0 (pa_cons (pv 0) (pa_cons (pv 1) (pa_cons (pe_callB call_len_seq (by rfl) T.n_len (by decide +kernel) (pa_cons (pv 3) pa_nil)) pa_nil)))))
      (pss_cons (ps_expr (pe_bm PySem.F.plainAttrs_list PySem.F.slot_list_append PySem.F.type_list_append mt_append (pv 4) (pa_cons (pe_ix ix_list (pv 3) (pv 6) (fun _ _ => rfl)) pa_nil)))
      (pss_one (ps_set (i := 3) sc__law_order.nd rfl (.inl rfl) (pe_op op_cat (pe_slice sl_list (pv 3) po_none (po_some (pv 6))) (pe_slice sl_list (pv 3) (po_some (pe_op op_add (pv 6) (pe_int))) po_none)))))))
      (pss_one (ps_ret (pv 4)))))), ?_⟩
    refine ⟨_, rfl, n, rfl, RgOk.of_le (by omega) (by omega) (by omega) (by omega), fun l0 hl0 => ?_⟩
    rw [rgI_V]
    have s1 := same_new (o := .lst ((rgI n).map V.int)) hl0
    refine ⟨Nat.zero_le _, fun f hf => ?_⟩
    have s2 := same_new (o := .lst ([] : List V)) hf
    have nft : f ≠ t := (D.same s1).na hf
    have nlt : l0 ≠ t := D.na hl0
    have ndf : d ≠ f := (D.same s1).nd hf
    have fH := s1.free hf
    refine ⟨_, rfl, _, rfl, by omega, by omega, for_range (lo := 0) (n := n) (fun k σ H' => ∃ (l : Addr) (ls os : List Int) (x5 x6 : Option V), σ = [some (.ref d), some (.ref t), some (.int (n : Nat)), some (.ref l), some (.ref f), x5, x6] ∧ l ≠ t ∧ l ≠ f ∧ H l = none ∧ os.length = k ∧ (os ++ ls).Perm (rgI n) ∧ Dr K H' d t ∧ But t H H' ∧ H' l = some (.lst (ls.map V.int)) ∧ H' f = some (.lst (os.map V.int)))
      ⟨l0, rgI n, [], _, _, rfl, nlt, ne_of_none (upd_same (H := H) (a := l0) (o := .lst ((rgI n).map V.int))) hf, hl0, rfl, List.Perm.refl _, (D.same s1).same s2, But.of_same (s1.trans s2), s2 _ _ upd_same, upd_same⟩ ?_ ?_⟩
    · rintro k σ H2 hk ⟨l, ls, os, x5, x6, rfl, nl, nlf, lH, ek, pm, D2, b2, l2, f2⟩
      have hlen : os.length + ls.length = n := by
        have := pm.length_eq
        rw [List.length_append] at this
        simpa [rgI] using this
      have hpos : 0 < ls.length := by omega
      refine ⟨_, rfl, _, rfl, _, rfl, l, _, rfl, .inl (SqL.of l2), d, t, _, rfl, D2, by rw [List.length_map]; omega, fun r H3 r0 r1 D3 b3 => ?_⟩
      rw [List.length_map] at r1
      obtain ⟨p, rfl⟩ := Int.eq_ofNat_of_zero_le r0
      have hp : p < ls.length := by omega
      have gp : ls[p]? = some ls[p] := List.getElem?_eq_getElem hp
      generalize ls[p] = x at gp
      have l3 := b3 _ _ nl l2
      have f3 := b3 _ _ nft f2
      have big : 1000 < sizeLine := by decide
      refine ⟨_, rfl, .inl ⟨rfl, _, SqL.of f3⟩, _, rfl, _, rfl, _, _, _, _, rfl, rfl, SqL.of l3, atI_nat (by rw [List.getElem?_map, gp]; rfl), _, _, _, rfl, rfl, f3, by rw [List.length_map]; omega, ?_⟩
      have D4 := D3.other (But.upd (a := f) (H := H3) (o := .lst (os.map V.int ++ [.int x]))) ndf nft.symm
      have b4 : But t H (upd H3 f (.lst (os.map V.int ++ [.int x]))) := (b2.trans b3).mut fH
      have l4 : (upd H3 f (.lst (os.map V.int ++ [.int x]))) l = some (.lst (ls.map V.int)) := by rw [upd_ne nlf]; exact l3
      have f4 : (upd H3 f (.lst (os.map V.int ++ [.int x]))) f = some (.lst ((os ++ [x]).map V.int)) := by rw [upd_same, List.map_append]; rfl
      revert D4 b4 l4 f4
      generalize upd H3 f (.lst (os.map V.int ++ [.int x])) = H4
      intro D4 b4 l4 f4
      refine ⟨_, rfl, _, rfl, _, rfl, l, _, rfl, SqL.of l4, fun c1 n1 => ?_⟩
      rw [cut_to (ls.map V.int) p, ← List.map_take]
      have s5 := same_new (o := .lst ((ls.take p).map V.int)) n1
      refine ⟨_, rfl, _, rfl, _, _, rfl, rfl, _, rfl, l, _, rfl, SqL.of (s5 _ _ l4), fun c2 n2 => ?_⟩
      rw [show ((p : Int) + 1) = ((p + 1 : Nat) : Int) by omega, cut_from (ls.map V.int) (p + 1), ← List.map_drop]
      have s6 := same_new (o := .lst ((ls.drop (p + 1)).map V.int)) n2
      have n1H : H c1 = none := b4.free (D4.na n1) n1
      have z1 := List.length_take_le p ls
      have z2 : (ls.drop (p + 1)).length = ls.length - (p + 1) := List.length_drop
      refine ⟨c1, c2, _, _, rfl, rfl, s6 _ _ upd_same, upd_same, by rw [List.length_map, List.length_map]; omega, fun c3 n3 => ?_⟩
      rw [← List.map_append]
      have s7 := same_new (o := .lst ((ls.take p ++ ls.drop (p + 1)).map V.int)) n3
      have t7 := (s5.trans s6).trans s7
      have n3H : H c3 = none := b4.free (((D4.same s5).same s6).na n3) ((s5.trans s6).free n3)
      exact ⟨c3, _, os ++ [x], _, _, rfl, ((D4.same s5).same s6).na n3, (ne_of_none ((s5.trans s6) _ _ f4) n3).symm, n3H, by rw [List.length_append, ek]; rfl, (pick_perm gp).trans pm, D4.same t7, b4.trans (But.of_same t7), upd_same, t7 _ _ f4⟩
    · rintro σ H2 ⟨l, ls, os, x5, x6, rfl, nl, nlf, lH, ek, pm, D2, b2, l2, f2⟩
      have hlen : os.length + ls.length = n := by
        have := pm.length_eq
        rw [List.length_append] at this
        simpa [rgI] using this
      have e0 : ls = [] := List.length_eq_zero_iff.mp (by omega)
      subst e0
      rw [List.append_nil] at pm
      exact ⟨_, rfl, q f os H2 pm D2 b2 fH f2⟩
end
end My

namespace My
open PySem L2
theorem edv_but {H H' : Hp} {t : Addr} {v : V} {e : Int × Int} (b : But t H H') (nt : ∀ xs, H t ≠ some (.tup xs)) (h : EdV H v e) : EdV H' v e := by
  obtain ⟨p, rfl, hp⟩ := h
  exact ⟨p, rfl, b _ _ (fun z => nt _ (z ▸ hp)) hp⟩
theorem edvs_but {H H' : Hp} {t : Addr} (b : But t H H') (nt : ∀ xs, H t ≠ some (.tup xs)) : ∀ {vs : List V} {es : List (Int × Int)}, Paired (EdV H) vs es → Paired (EdV H') vs es
  | _, _, .nil => .nil
  | _, _, .cons h r => .cons (edv_but b nt h) (edvs_but b nt r)
theorem Dr.nt {K : PySem.W.Frag} {H : Hp} {d t : Addr} (D : Dr K H d t) : ∀ xs, H t ≠ some (.tup xs) := fun xs e => by have := D.pl.choose_spec; rw [this] at e; cases e
theorem pair_append {α β : Type} {F : α → β → Prop} {l1 : List α} {m1 : List β} {l2 : List α} {m2 : List β} (h : Paired F l1 m1) (h2 : Paired F l2 m2) : Paired F (l1 ++ l2) (m1 ++ m2) := by
  induction h with
  | nil => exact h2
  | cons h r ih => exact .cons h ih
theorem pair_rev {α β : Type} {F : α → β → Prop} {l : List α} {m : List β} (h : Paired F l m) : Paired F l.reverse m.reverse := by
  induction h with
  | nil => exact .nil
  | cons h r ih =>
    rw [List.reverse_cons, List.reverse_cons]
    exact pair_append ih (.cons h .nil)
/-- the world of the law between two turns -/
structure Wd (K : PySem.W.Frag) (H : Hp) (d t N E L : Addr) (ns : List Int) (es : List (Int × Int)) : Prop where
  dr : Dr K H d t
  hn : H N = some (.lst (ns.map V.int))
  nN : N ≠ t
  he : ∃ vs, H E = some (.lst vs) ∧ Paired (EdV H) vs es
  nE : E ≠ t
  hl : ∃ vs, H L = some (.lst vs) ∧ Paired (EdV H) vs es
  nL : L ≠ t
  nLE : L ≠ E
  nLN : L ≠ N
  nd : es.Nodup
  ndL : L ≠ d
theorem Wd.but {K : PySem.W.Frag} {H H' : Hp} {d t N E L : Addr} {ns : List Int} {es : List (Int × Int)} (x : Wd K H d t N E L ns es) (b : But t H H') (D : Dr K H' d t) : Wd K H' d t N E L ns es :=
  ⟨D, b _ _ x.nN x.hn, x.nN, x.he.elim fun vs h => ⟨vs, b _ _ x.nE h.1, edvs_but b x.dr.nt h.2⟩, x.nE, x.hl.elim fun vs h => ⟨vs, b _ _ x.nL h.1, edvs_but b x.dr.nt h.2⟩, x.nL, x.nLE, x.nLN, x.nd, x.ndL⟩
theorem Wd.same {K : PySem.W.Frag} {H H' : Hp} {d t N E L : Addr} {ns : List Int} {es : List (Int × Int)} (x : Wd K H d t N E L ns es) (s : Same H H') : Wd K H' d t N E L ns es := x.but (But.of_same s) (x.dr.same s)
theorem Wd.edE {K : PySem.W.Frag} {H : Hp} {d t N E L : Addr} {ns : List Int} {es : List (Int × Int)} (x : Wd K H d t N E L ns es) : Edg K H (.ref E) es := x.he.elim fun vs h => .inl ⟨E, vs, rfl, .inl (SqL.of h.1), h.2⟩
theorem Wd.edL {K : PySem.W.Frag} {H : Hp} {d t N E L : Addr} {ns : List Int} {es : List (Int × Int)} (x : Wd K H d t N E L ns es) : Edg K H (.ref L) es := x.hl.elim fun vs h => .inl ⟨L, vs, rfl, .inl (SqL.of h.1), h.2⟩
def spLaw (K : PySem.W.Frag) : Sp := fun vs H Q _ => ∃ (a : Addr) (ns : List Int), vs = [.ref a] ∧ SqL K H a (ns.map V.int) ∧ ns.length ≤ 63 ∧ ∀ H', Q (.bl true) H'
/-- data of a pair, for _law_same -/
theorem EdV.dn {K : PySem.W.Frag} {x : Addr} {H : Hp} {v : V} {e : Int × Int} (nx : ∀ xs, H x ≠ some (.tup xs)) (h : EdV H v e) : Dn K x H 1 v (edD e) := by
  obtain ⟨p, rfl, hp⟩ := h
  exact Dn.tup (fun z => nx _ (z ▸ hp)) (.inl (.inl hp)) (.cons (.int _) (.cons (.int _) .nil))
theorem EdV.dns {K : PySem.W.Frag} {x : Addr} {H : Hp} (nx : ∀ xs, H x ≠ some (.tup xs)) : ∀ {vs : List V} {es : List (Int × Int)}, Paired (EdV H) vs es → Paired (Dn K x H 1) vs (es.map edD)
  | _, _, .nil => .nil
  | _, _, .cons h r => .cons (EdV.dn nx h) (EdV.dns nx r)
theorem ints_dn {K : PySem.W.Frag} {x : Addr} {H : Hp} {n : Nat} : ∀ ns : List Int, Paired (Dn K x H n) (ns.map V.int) (ns.map PyData.int)
  | [] => .nil
  | i :: r => .cons (.int i) (ints_dn r)
theorem putK_new {α : Type} [DecidableEq α] {kvs : List (α × V)} {k : α} {v : V} (h : k ∉ kvs.map (·.1)) : putK kvs k v = kvs ++ [(k, v)] := by
  unfold putK
  rw [if_neg]
  rw [List.any_eq_true]
  rintro ⟨kv, hk, e⟩
  exact h (List.mem_map.mpr ⟨kv, hk, of_decide_eq_true e⟩)
theorem filter_erase {e : Int × Int} : ∀ {es : List (Int × Int)} {j : Nat}, es.Nodup → es[j]? = some e → (es.filter fun f => !decide (f = e)) = es.eraseIdx j ∧ ∀ m, m < j → es[m]? ≠ some e
  | [], j, _, h => by simp at h
  | f :: r, 0, nd, h => by
    obtain rfl : f = e := Option.some.inj h
    have hf := (List.nodup_cons.mp nd).1
    refine ⟨?_, fun m hm => absurd hm (Nat.not_lt_zero _)⟩
    rw [List.filter_cons_of_neg (by simp)]
    show _ = r
    rw [List.filter_eq_self]
    intro g hg
    simp only [Bool.not_eq_true', decide_eq_false_iff_not]
    rintro rfl
    exact hf hg
  | f :: r, j + 1, nd, h => by
    obtain ⟨hf, nd'⟩ := List.nodup_cons.mp nd
    have h : r[j]? = some e := h
    have hne : f ≠ e := fun z => hf (z ▸ List.mem_of_getElem? h)
    obtain ⟨h1, h2⟩ := filter_erase nd' h
    refine ⟨?_, fun m hm => ?_⟩
    · rw [List.filter_cons_of_pos (by simp [hne]), h1]; rfl
    · cases m with
      | zero => exact fun z => hne (Option.some.inj z)
      | succ m => exact h2 m (Nat.lt_of_succ_lt_succ hm)
theorem pair_erase {α β : Type} {F : α → β → Prop} : ∀ {l : List α} {m : List β} (j : Nat), Paired F l m → Paired F (l.eraseIdx j) (m.eraseIdx j)
  | _, _, _, .nil => .nil
  | _, _, 0, .cons h r => r
  | _, _, j + 1, .cons h r => .cons h (pair_erase j r)
end My

namespace My
open PySem L2
def GE (ns : List Int) (n : Nat) (es : Eds) : Prop := es.Nodup ∧ (∀ e ∈ es, e.1 ∈ ns ∧ e.2 ∈ ns ∧ e.1 ≠ e.2) ∧ es.length ≤ n
theorem GE.nil (ns : List Int) : GE ns 0 [] := ⟨.nil, fun _ h => absurd h List.not_mem_nil, Nat.le_refl _⟩
theorem GE.mono {ns : List Int} {n m : Nat} {es : Eds} (h : GE ns n es) (l : n ≤ m) : GE ns m es := ⟨h.1, h.2.1, Nat.le_trans h.2.2 l⟩
theorem GE.add {ns : List Int} {n : Nat} {es : Eds} {x y : Int} (h : GE ns n es) (hx : x ∈ ns) (hy : y ∈ ns) (ne : x ≠ y) (no : (x, y) ∉ es) : GE ns (n + 1) (es ++ [(x, y)]) := by
  refine ⟨?_, fun e he => ?_, by have := h.2.2; rw [List.length_append]; show _ + 1 ≤ _; omega⟩
  · rw [List.nodup_append]
    exact ⟨h.1, by simp, fun a ha b hb => by rw [List.mem_singleton.mp hb]; rintro rfl; exact no ha⟩
  · rcases List.mem_append.mp he with h' | h'
    · exact h.2.1 e h'
    · rw [List.mem_singleton.mp h']; exact ⟨hx, hy, ne⟩
theorem GE.rev {ns : List Int} {n : Nat} {es : Eds} (h : GE ns n es) : GE ns n es.reverse :=
  ⟨by rw [List.nodup_iff_pairwise_ne, List.pairwise_reverse]; exact (List.nodup_iff_pairwise_ne.mp h.1).imp fun h => h.symm, fun e he => h.2.1 e (List.mem_reverse.mp he), by rw [List.length_reverse]; exact h.2.2⟩
theorem GE.gr {ns : List Int} {n : Nat} {es : Eds} (h : GE ns n es) (up : ns.Pairwise (· < ·)) : Gr ns es := ⟨up, h.2.1⟩
theorem nodup_at {o : List Int} (h : o.Nodup) {i j : Nat} {x : Int} (hi : o[i]? = some x) (hj : o[j]? = some x) : i = j := by
  obtain ⟨h1, e1⟩ := List.getElem?_eq_some_iff.mp hi
  exact (List.getElem?_inj h1 h).mp (hi.trans hj.symm)
theorem nodup_lt {ns : List Int} (h : ns.Pairwise (· < ·)) : ns.Nodup := h.imp fun h e => by omega
theorem picks_nodup {ns os : List Int} (hn : ns.Pairwise (· < ·)) (hp : os.Perm (rgI ns.length)) : (os.map fun x => nd ns x.toNat).Nodup := by
  have h1 : os.Nodup := hp.nodup_iff.mpr (rgI_nodup _)
  have h2 : ∀ x ∈ os, 0 ≤ x ∧ x < ns.length := fun x hx => rgI_mem (hp.mem_iff.mp hx)
  rw [List.nodup_iff_pairwise_ne, List.pairwise_map]
  refine List.Pairwise.imp_of_mem (fun {a b} ha hb hne e => ?_) h1
  obtain ⟨a0, a1⟩ := h2 a ha
  obtain ⟨b0, b1⟩ := h2 b hb
  have ga := nd_get (ns := ns) (i := a.toNat) (by omega)
  have gb := nd_get (ns := ns) (i := b.toNat) (by omega)
  rw [e] at ga
  have := nodup_at (nodup_lt hn) ga gb
  omega
def spGraph (K : PySem.W.Frag) : Sp := fun vs H Q _ => ∃ (d t a : Addr) (ns : List Int), vs = [.ref d, .ref t, .ref a] ∧ ns.length ≤ 7 ∧ ns.Pairwise (· < ·) ∧ H a = some (.lst (ns.map V.int)) ∧ a ≠ t ∧ Dr K H d t ∧
  ∀ (r : Addr) (vs : List V) (es : Eds) H', GE ns 100 es → Dr K H' d t → But t H H' → H r = none → H' r = some (.lst vs) → Paired (EdV H') vs es → Q (.ref r) H'
/-- an edge more in the list at e -/
theorem ed_put {K : PySem.W.Frag} {H H1 : Hp} {d t e u : Addr} {vs : List V} {es : Eds} {x : Int × Int} (D : Dr K H1 d t) (b : But t H H1) (eH : H e = none) (nde : d ≠ e) (net : e ≠ t) (he : H1 e = some (.lst vs)) (p : Paired (EdV H1) vs es) (hu : EdV H1 (.ref u) x) :
    Dr K (upd H1 e (.lst (vs ++ [.ref u]))) d t ∧ But t H (upd H1 e (.lst (vs ++ [.ref u]))) ∧ Paired (EdV (upd H1 e (.lst (vs ++ [.ref u])))) (vs ++ [.ref u]) (es ++ [x]) := by
  have bu : But e H1 (upd H1 e (.lst (vs ++ [.ref u]))) := But.upd
  have ne_tup : ∀ xs, H1 e ≠ some (.tup xs) := fun xs z => by rw [he] at z; cases z
  exact ⟨D.other bu nde net.symm, b.mut eH, edvs_but bu ne_tup (pair_append p (.cons hu .nil))⟩
section
variable {P : Program} {w : World} {K : PySem.W.Frag} {mg : Str → Option Value} {base : Heap}
theorem ok__law_graph (T : Txt K mg) : FnOk P w K mg base CX0 3 T.a__law_graph T.fd__law_graph ["_law_draws_here", "_law_at", "_law_nodes_here"] (spGraph K) := by
  refine T.F__law_graph.ok sc__law_graph (fun vs H Q E h => ?_) (fun cdv A outer s H vs Q E hr h => ?_)
  · obtain ⟨d, t, a, ns, rfl, _⟩ := h; rfl
  · obtain ⟨d, t, a, ns, rfl, hn, hs, hS, na, D, q⟩ := h
    refine ⟨_, (pss_cons (ps_set (i := 3) sc__law_graph.nd rfl (.inl rfl) (pe_callB call_len_seq (by rfl) T.n_len (by decide +kernel) (pa_cons (pv 2) pa_nil)))
      (pss_cons (ps_setLc (i := 4) (own := [("_law_k", 5)]) (g := (gName 5)) (by rfl) sc__law_graph.nd rfl rfl (sw_true rfl rfl rfl (by decide +kernel)) (pi_list (pe_call (ok__law_order T) (hr.mono (by omega)) (by rfl) T.g__law_order T.F__law_order.kp T.b__law_order .nil pass0 (pa_cons (pv 0) (pa_cons (pv 1) (pa_cons (pv 3) pa_nil))))) (blkOk_by (own := [("_law_k", 5)]) (N := ["_law_draws_here", "_law_at", "_law_nodes_here", "_law_count", "_law_order_here", "_law_k", "_law_edges", "_law_size", "_law_pair", "_law_chance", "_law_one", "_law_two"]) (sc := defScope S__law_graph) (by decide +kernel)) (fun _ _ _ _ _ => (pg_name (i := 5) sc__law_graph.nd rfl (by first | exact .inl rfl | exact .inr rfl))) (fun _ _ _ _ _ => pts_nil) (fun _ _ _ _ _ => (pe_ix (ixLK (K := K) rfl) (pv 2) (pv 5) (fun _ _ => rfl))))
      (pss_cons (ps_set (i := 6) sc__law_graph.nd rfl (.inl rfl) (pe_lst pa_nil))
      (C8.pss_cut (ps_if (pt_cmpR op_gt (pv 3) (pe_int) (nomark _)) (pss_cons (ps_set (i := 7) sc__law_graph.nd rfl (.inl rfl) (pe_op op_sub (pv 3) (pe_call (ok__law_take T) (hr.mono (by omega)) (by rfl) T.g__law_take T.F__law_take.kp T.b__law_take .nil pass0 (pa_cons (pv 0) (pa_cons (pv 1) (pa_cons (pe_op op_sub (pv 3) (pe_int)) pa_nil))))))
      (C8.pss_cut (ps_if (pt_cmpR op_ne (pe_call (ok__law_take T) (hr.mono (by omega)) (by rfl) T.g__law_take T.F__law_take.kp T.b__law_take .nil pass0 (pa_cons (pv 0) (pa_cons (pv 1) (pa_cons (pe_int) pa_nil)))) (pe_int) (nomark _)) (pss_one (ps_for PassesOwn.never rfl (pi_range1 (by rfl) T.n_range (pa_cons (pv 7) pa_nil)) (pg_name (i := 5) sc__law_graph.nd rfl (.inl rfl)) (pss_one (ps_expr (pe_bm PySem.F.plainAttrs_list PySem.F.slot_list_append PySem.F.type_list_append mt_append (pv 6) (pa_cons (pe_tup (pa_cons (pe_ix ix_list (pv 4) (pv 5) (fun _ _ => rfl)) (pa_cons (pe_ix ix_list (pv 4) (pe_op op_mod (pe_callTy call_int1 (by rfl) T.n_int (by decide +kernel) (pa_cons (pe_op op_add (pv 5) (pe_int)) pa_nil)) (pv 7)) (fun _ _ => rfl)) pa_nil))) pa_nil)))))) pss_nil)
      (pss_one (ps_if (pt_cmpR op_eq (pe_call (ok__law_take T) (hr.mono (by omega)) (by rfl) T.g__law_take T.F__law_take.kp T.b__law_take .nil pass0 (pa_cons (pv 0) (pa_cons (pv 1) (pa_cons (pe_int) pa_nil)))) (pe_int) (nomark _)) (pss_one (ps_for PassesOwn.never rfl (pi_list (pe_lst (pa_cons (pe_tup (pa_cons (pe_ix ix_list (pv 4) (pe_op op_sub (pv 3) (pe_int)) (fun _ _ => rfl)) (pa_cons (pe_ix ix_list (pv 4) (pe_op op_sub (pv 3) (pe_int)) (fun _ _ => rfl)) pa_nil))) (pa_cons (pe_tup (pa_cons (pe_ix ix_list (pv 4) (pe_op op_sub (pv 3) (pe_int)) (fun _ _ => rfl)) (pa_cons (pe_ix ix_list (pv 4) (pe_op op_sub (pv 3) (pe_int)) (fun _ _ => rfl)) pa_nil))) pa_nil)))) (pg_name (i := 8) sc__law_graph.nd rfl (.inl rfl)) (pss_one (ps_if (pt_cmpR (ninEK (K := K) rfl (hu65 hr)) (pv 8) (pv 6) (by with_unfolding_all rfl)) (pss_one (ps_expr (pe_bm PySem.F.plainAttrs_list PySem.F.slot_list_append PySem.F.type_list_append mt_append (pv 6) (pa_cons (pv 8) pa_nil)))) pss_nil)))) pss_nil)))) pss_nil)
      (pss_cons (ps_set (i := 9) sc__law_graph.nd rfl (.inl rfl) (pe_ix ix_list (pe_lst (pa_cons (pe_int) (pa_cons (pe_int) (pa_cons (pe_int) (pa_cons (pe_int) pa_nil))))) (pe_call (ok__law_take T) (hr.mono (by omega)) (by rfl) T.g__law_take T.F__law_take.kp T.b__law_take .nil pass0 (pa_cons (pv 0) (pa_cons (pv 1) (pa_cons (pe_int) pa_nil)))) (fun _ _ => rfl)))
      (pss_cons (ps_for PassesOwn.never rfl (pi_list (pv 2)) (pg_name (i := 10) sc__law_graph.nd rfl (.inl rfl)) (pss_one (ps_for PassesOwn.never rfl (pi_list (pv 2)) (pg_name (i := 11) sc__law_graph.nd rfl (.inl rfl)) (pss_one (ps_if (PW.pt (pw_and (pt_cmpR op_ne (pv 10) (pv 11) (nomark _)) (pw_and (pt_cmpR (ninEK (K := K) rfl (hu65 hr)) (pe_tup (pa_cons (pv 10) (pa_cons (pv 11) pa_nil))) (pv 6) (by with_unfolding_all rfl)) (pw_and1 (pt_cmpR op_eq (pe_call (ok__law_take T) (hr.mono (by omega)) (by rfl) T.g__law_take T.F__law_take.kp T.b__law_take .nil pass0 (pa_cons (pv 0) (pa_cons (pv 1) (pa_cons (pv 9) pa_nil)))) (pe_op op_sub (pv 9) (pe_int)) (nomark _)))))) (pss_one (ps_expr (pe_bm PySem.F.plainAttrs_list PySem.F.slot_list_append PySem.F.type_list_append mt_append (pv 6) (pa_cons (pe_tup (pa_cons (pv 10) (pa_cons (pv 11) pa_nil))) pa_nil)))) pss_nil)))))
      (pss_cons (ps_if (pt_cmpR op_eq (pe_call (ok__law_take T) (hr.mono (by omega)) (by rfl) T.g__law_take T.F__law_take.kp T.b__law_take .nil pass0 (pa_cons (pv 0) (pa_cons (pv 1) (pa_cons (pe_int) pa_nil)))) (pe_int) (nomark _)) (pss_one (ps_set (i := 6) sc__law_graph.nd rfl (.inl rfl) (pe_revL (pv 6)))) pss_nil)
      (pss_one (ps_ret (pv 6)))))))))), ?_⟩
    have big : 1000 < sizeLine := by decide
    refine ⟨_, rfl, a, _, rfl, .inl (SqL.of hS), ?_⟩
    rw [List.length_map]
    refine ⟨_, rfl, _, rfl, _, rfl, d, t, ns.length, rfl, by omega, D, fun r0 os H1 pm D1 b1 nr0 h0 => ⟨r0, rfl, ⟨_, SqL.of h0⟩, fun o ho => ?_⟩⟩
    have nr0t : r0 ≠ t := D.na nr0
    have not_ : o ≠ t := D1.na ho
    have eos : os.length = ns.length := by have := pm.length_eq; simpa [rgI] using this
    have hS1 := b1 _ _ na hS
    refine lc_list (K := K) (a := r0) (xs := os.map V.int) (fun i H' => Same H1 H' ∧ H' o = some (.lst ((os.take i).map fun x => V.int (nd ns x.toNat)))) ⟨same_new ho, upd_same⟩ (fun i H' _ h => SqL.of (h.1 _ _ h0)) ?_ ?_
    · rintro i v H2 hv ⟨s2, h2⟩
      obtain ⟨x, hx, rfl⟩ := get_int hv
      obtain ⟨x0, x1⟩ := rgI_mem (pm.mem_iff.mp (List.mem_of_getElem? hx))
      have hat : atI (ns.map V.int) x = some (V.int (nd ns x.toNat)) := by
        conv => lhs; rw [show x = (x.toNat : Int) by omega]
        exact atI_nat (by rw [List.getElem?_map, nd_get (by omega)]; rfl)
      have hi : i < os.length := (List.getElem?_eq_some_iff.mp hx).1
      refine ⟨rfl, ?_⟩
      unfold tYes
      refine iteT ⟨_, rfl, _, rfl, _, _, _, _, rfl, rfl, SqL.of (s2 _ _ hS1), hat, _, h2, by rw [List.length_map, List.length_take]; omega, same_mut s2 ho, ?_⟩
      rw [upd_same, List.take_add_one, hx, List.map_append]; rfl
    rintro H2 ⟨s2, h2⟩
    rw [List.length_map, List.take_length] at h2
    have h2 : H2 o = some (.lst ((os.map fun x => nd ns x.toNat).map V.int)) := by rw [h2, List.map_map]; rfl
    have ndo := picks_nodup hs pm
    have eol : (os.map fun x => nd ns x.toNat).length = ns.length := by rw [List.length_map]; exact eos
    have oin : ∀ y ∈ (os.map fun x => nd ns x.toNat), y ∈ ns := fun y hy => by
      obtain ⟨x, hx, rfl⟩ := List.mem_map.mp hy
      obtain ⟨x0, x1⟩ := rgI_mem (pm.mem_iff.mp hx)
      exact List.mem_of_getElem? (nd_get (i := x.toNat) (by omega))
    revert ndo eol h2 oin
    generalize (os.map fun x => nd ns x.toNat) = ol
    intro h2 ndo eol oin
    have D2 := D1.same s2
    have b2 : But t H H2 := b1.trans (But.of_same s2)
    have nH : H o = none := b1.free not_ ho
    refine ⟨Nat.zero_le _, fun e he => ?_⟩
    have s3 := same_new (o := .lst ([] : List V)) he
    have net : e ≠ t := D2.na he
    have nde : d ≠ e := D2.nd he
    have noe : o ≠ e := ne_of_none h2 he
    have eH : H e = none := b2.free net he
    have nae : a ≠ e := ne_of_none (b2 _ _ na hS) he
    -- the ring, the pair
    have at_ : ∀ (j : Int) (h0 : 0 ≤ j) (h1 : j < ns.length), atI (ol.map V.int) j = some (V.int (nd ol j.toNat)) ∧ nd ol j.toNat ∈ ns := fun j h0 h1 => by
      have g := nd_get (ns := ol) (i := j.toNat) (by omega)
      refine ⟨?_, oin _ (List.mem_of_getElem? g)⟩
      conv => lhs; rw [show j = (j.toNat : Int) by omega]
      exact atI_nat (by rw [List.getElem?_map, g]; rfl)
    have uniq : ∀ i j : Int, 0 ≤ i → 0 ≤ j → i < ns.length → j < ns.length → i ≠ j → nd ol i.toNat ≠ nd ol j.toNat := fun i j h1 h2 h3 h4 ne z => by
      have g1 := nd_get (ns := ol) (i := i.toNat) (by omega)
      have g2 := nd_get (ns := ol) (i := j.toNat) (by omega)
      rw [z] at g1
      have := nodup_at ndo g1 g2
      omega
    refine ⟨fun σ H' => ∃ (vs : List V) (es : Eds) (x5 x7 x8 x9 x10 x11 : Option V), σ = [some (.ref d), some (.ref t), some (.ref a), some (.int (ns.length : Nat)), some (.ref o), x5, some (.ref e), x7, x8, x9, x10, x11] ∧ Dr K H' d t ∧ But t H H' ∧ H' e = some (.lst vs) ∧ Paired (EdV H') vs es ∧ GE ns 9 es, ?_, ?_⟩
    · refine ⟨_, rfl, _, _, rfl, rfl, _, rfl, iteD (fun c => ?_) (fun c => ?_)⟩
      · refine ⟨_, rfl, _, rfl, _, rfl, _, rfl, _, _, rfl, rfl, d, t, _, rfl, D2.same s3, by omega, fun r H4 r0 r1 D4 b4 => ⟨((ns.length : Nat) : Int), r, rfl, rfl, ?_⟩⟩
        have c4 : But t H H4 := (b2.trans (But.of_same s3)).trans b4
        have o4 := b4 _ _ not_ (s3 _ _ h2)
        have e4 := b4 _ _ net (upd_same (H := H2) (a := e) (o := .lst []))
        obtain ⟨sz, hsz⟩ := Int.eq_ofNat_of_zero_le (show 0 ≤ ((ns.length : Nat) : Int) - r by omega)
        have hsz2 : 2 ≤ sz := by omega
        have hsz7 : sz ≤ ns.length := by omega
        refine ⟨fun σ H' => ∃ (vs : List V) (es : Eds) (x5 : Option V), σ = [some (.ref d), some (.ref t), some (.ref a), some (.int (ns.length : Nat)), some (.ref o), x5, some (.ref e), some (.int (((ns.length : Nat) : Int) - r)), none, none, none, none] ∧ Dr K H' d t ∧ But t H H' ∧ H' o = some (.lst (ol.map V.int)) ∧ H' e = some (.lst vs) ∧ Paired (EdV H') vs es ∧ GE ns 7 es, ?_, ?_⟩
        · refine ⟨_, rfl, _, rfl, d, t, 4, rfl, D4, by decide, fun r' H5 _ _ D5 b5 => ⟨rfl, _, rfl, iteN (fun c2 => ?_) (fun c2 => ?_)⟩⟩
          · refine ⟨_, rfl, _, rfl, by omega, by omega, for_range (lo := 0) (n := (((ns.length : Nat) : Int) - r).toNat) (fun k σ H' => ∃ (vs : List V) (es : Eds) (x5 : Option V), σ = [some (.ref d), some (.ref t), some (.ref a), some (.int (ns.length : Nat)), some (.ref o), x5, some (.ref e), some (.int (((ns.length : Nat) : Int) - r)), none, none, none, none] ∧ Dr K H' d t ∧ But t H H' ∧ H' o = some (.lst (ol.map V.int)) ∧ H' e = some (.lst vs) ∧ Paired (EdV H') vs es ∧ GE ns k es ∧ es.map Prod.fst = ol.take k)
              ⟨[], [], _, rfl, D5, c4.trans b5, b5 _ _ not_ o4, b5 _ _ net e4, .nil, GE.nil ns, rfl⟩ ?_ ?_⟩
            · rintro k σ H6 hk ⟨vs, es, x5, rfl, D6, b6, o6, e6, p6, g6, f6⟩
              rw [Int.zero_add]
              have hk : k < sz := by omega
              have m0 : 0 ≤ ((k : Int) + 1) % (((ns.length : Nat) : Int) - r) := Int.emod_nonneg _ (by omega)
              have m1 : ((k : Int) + 1) % (((ns.length : Nat) : Int) - r) < sz := by rw [← hsz]; exact Int.emod_lt_of_pos _ (by omega)
              have m2 : (k : Int) ≠ ((k : Int) + 1) % (((ns.length : Nat) : Int) - r) := fun z => by
                by_cases q : k + 1 < sz
                · rw [Int.emod_eq_of_lt (by omega) (by omega)] at z; omega
                · rw [show (k : Int) + 1 = (((ns.length : Nat) : Int) - r) by omega, Int.emod_self] at z; omega
              obtain ⟨a1, i1⟩ := at_ (k : Int) (by omega) (by omega)
              obtain ⟨a2, i2⟩ := at_ _ m0 (by omega)
              have ln : es.length = k := by have := congrArg List.length f6; rw [List.length_map, List.length_take] at this; omega
              refine ⟨_, rfl, .inl ⟨rfl, _, SqL.of e6⟩, _, rfl, _, rfl, _, _, _, _, rfl, rfl, SqL.of o6, a1, _, rfl, _, rfl, _, _, rfl, rfl, .inl ⟨_, rfl, _, rfl, _, _, rfl, rfl, by omega, _, _, _, _, rfl, rfl, SqL.of o6, a2, by show 2 ≤ sizeLine; decide, fun u hu => ?_⟩⟩
              have su := same_new (o := .tup [.int (nd ol (k : Int).toNat), .int (nd ol (((k : Int) + 1) % (((ns.length : Nat) : Int) - r)).toNat)]) hu
              refine ⟨_, _, _, rfl, rfl, su _ _ e6, by rw [pair_len p6]; omega, ?_⟩
              obtain ⟨d7, b7, p7⟩ := ed_put (x := (nd ol (k : Int).toNat, nd ol (((k : Int) + 1) % (((ns.length : Nat) : Int) - r)).toNat)) (D6.same su) (b6.trans (But.of_same su)) eH nde net (su _ _ e6) (edvs_same su p6) ⟨u, rfl, upd_same⟩
              refine ⟨_, _, _, rfl, d7, b7, by rw [upd_ne noe]; exact su _ _ o6, upd_same, p7, g6.add i1 i2 (uniq _ _ (by omega) m0 (by omega) (by omega) m2) (fun z => ?_), ?_⟩
              · have : nd ol (k : Int).toNat ∈ ol.take k := by rw [← f6]; exact List.mem_map_of_mem (f := Prod.fst) z
                obtain ⟨j, hj, ej⟩ := List.getElem_of_mem this
                rw [List.length_take] at hj
                rw [List.getElem_take] at ej
                have g1 : ol[j]? = some (nd ol (k : Int).toNat) := by rw [List.getElem?_eq_getElem (by omega), ej]
                have := nodup_at ndo g1 (nd_get (by omega))
                omega
              · rw [List.map_append, f6, List.take_add_one, nd_get (ns := ol) (i := k) (by omega)]; rfl
            · rintro σ H6 ⟨vs, es, x5, rfl, D6, b6, o6, e6, p6, g6, f6⟩
              exact ⟨vs, es, _, rfl, D6, b6, o6, e6, p6, g6.mono (by omega)⟩
          · exact ⟨[], [], _, rfl, D5, c4.trans b5, b5 _ _ not_ o4, b5 _ _ net e4, .nil, (GE.nil ns).mono (by omega)⟩
        · rintro σ H5 ⟨vs, es, x5, rfl, D5, b5, o5, e5, p5, g5⟩
          refine ⟨_, rfl, _, rfl, d, t, 2, rfl, D5, by decide, fun r' H6 _ _ D6 b6 => ⟨rfl, _, rfl, iteD (fun c2 => ?_) (fun c2 => ?_)⟩⟩
          · have o6 := b6 _ _ not_ o5
            have e6 := b6 _ _ net e5
            have p6 := edvs_but b6 D5.nt p5
            obtain ⟨a1, i1⟩ := at_ ((ns.length : Nat) - 2 : Int) (by omega) (by omega)
            obtain ⟨a2, i2⟩ := at_ ((ns.length : Nat) - 1 : Int) (by omega) (by omega)
            have u12 := uniq ((ns.length : Nat) - 2 : Int) ((ns.length : Nat) - 1 : Int) (by omega) (by omega) (by omega) (by omega) (by omega)
            revert a1 i1 a2 i2 u12
            generalize nd ol ((ns.length : Nat) - 2 : Int).toNat = y1
            generalize nd ol ((ns.length : Nat) - 1 : Int).toNat = y2
            intro a1 i1 a2 i2 u12
            refine ⟨_, rfl, _, rfl, _, _, rfl, rfl, _, _, _, _, rfl, rfl, SqL.of o6, a1, _, rfl, _, rfl, _, _, rfl, rfl, _, _, _, _, rfl, rfl, SqL.of o6, a2, by show 2 ≤ sizeLine; decide, fun u1 hu1 => ?_⟩
            have s7 := same_new (o := .tup [.int y1, .int y2]) hu1
            refine ⟨_, rfl, _, rfl, _, _, rfl, rfl, _, _, _, _, rfl, rfl, SqL.of (s7 _ _ o6), a2, _, rfl, _, rfl, _, _, rfl, rfl, _, _, _, _, rfl, rfl, SqL.of (s7 _ _ o6), a1, by show 2 ≤ sizeLine; decide, fun u2 hu2 => ?_⟩
            have s8 := same_new (o := .tup [.int y2, .int y1]) hu2
            refine ⟨by show 2 ≤ sizeLine; decide, fun l hl => ?_⟩
            have s9 := same_new (o := .lst [.ref u1, .ref u2]) hl
            have t9 := (s7.trans s8).trans s9
            have hu1' := (s8.trans s9) _ _ (upd_same (H := H6) (a := u1) (o := .tup [.int y1, .int y2]))
            have hu2' := s9 _ _ (upd_same (H := upd H6 u1 (.tup [.int y1, .int y2])) (a := u2) (o := .tup [.int y2, .int y1]))
            have hl' : (upd (upd (upd H6 u1 (.tup [.int y1, .int y2])) u2 (.tup [.int y2, .int y1])) l (.lst [.ref u1, .ref u2])) l = some (.lst [.ref u1, .ref u2]) := upd_same
            have nlt : l ≠ t := ((D6.same s7).same s8).na hl
            have nle : l ≠ e := (ne_of_none ((s7.trans s8) _ _ e6) hl).symm
            have D9 := D6.same t9
            have b9 := (b5.trans b6).trans (But.of_same t9)
            have e9 := t9 _ _ e6
            have p9 := edvs_same t9 p6
            revert hu1' hu2' hl' D9 b9 e9 p9
            generalize upd (upd (upd H6 u1 (.tup [.int y1, .int y2])) u2 (.tup [.int y2, .int y1])) l (.lst [.ref u1, .ref u2]) = H9
            intro hu1' hu2' hl' D9 b9 e9 p9
            refine ⟨l, rfl, ⟨_, SqL.of hl'⟩, for_list (K := K) (a := l) (xs := [.ref u1, .ref u2]) (fun i σ H' => ∃ (vs : List V) (es : Eds) (x8 : Option V), σ = [some (.ref d), some (.ref t), some (.ref a), some (.int (ns.length : Nat)), some (.ref o), x5, some (.ref e), some (.int (((ns.length : Nat) : Int) - r)), x8, none, none, none] ∧ Dr K H' d t ∧ But t H H' ∧ H' l = some (.lst [.ref u1, .ref u2]) ∧ H' u1 = some (.tup [.int y1, .int y2]) ∧ H' u2 = some (.tup [.int y2, .int y1]) ∧ H' e = some (.lst vs) ∧ Paired (EdV H') vs es ∧ GE ns (7 + i) es)
              ⟨vs, es, _, rfl, D9, b9, hl', hu1', hu2', e9, p9, g5⟩ (fun i σ H' _ ⟨_, _, _, _, _, _, h, _⟩ => SqL.of h) ?_ ?_⟩
            · rintro i v σ H10 hv ⟨vs, es, x8, rfl, D10, b10, l10, v1, v2, e10, p10, g10⟩
              have hi : i < 2 := (List.getElem?_eq_some_iff.mp hv).1
              obtain ⟨u, y, z, rfl, hu, hy, hz, nyz⟩ : ∃ u y z, v = .ref u ∧ H10 u = some (.tup [.int y, .int z]) ∧ y ∈ ns ∧ z ∈ ns ∧ y ≠ z := by
                have := List.mem_of_getElem? hv
                simp only [List.mem_cons, List.not_mem_nil, or_false] at this
                rcases this with rfl | rfl
                · exact ⟨_, _, _, rfl, v1, i1, i2, u12⟩
                · exact ⟨_, _, _, rfl, v2, i2, i1, u12.symm⟩
              refine ⟨_, rfl, _, rfl, (y, z), es, ⟨u, rfl, hu⟩, .inl ⟨e, vs, rfl, .inl (SqL.of e10), p10⟩, _, rfl, iteN (fun c3 => ?_) (fun c3 => ?_)⟩
              · refine ⟨_, rfl, .inl ⟨rfl, _, SqL.of e10⟩, _, rfl, _, _, _, rfl, rfl, e10, by have := g10.2.2; rw [pair_len p10]; omega, ?_⟩
                obtain ⟨d7, b7, p7⟩ := ed_put (x := (y, z)) D10 b10 eH nde net e10 p10 ⟨u, rfl, hu⟩
                have nt : ∀ q xs, H10 q = some (.tup xs) → q ≠ e := fun q xs h1 h2 => by rw [h2, e10] at h1; cases h1
                exact ⟨_, _, _, rfl, d7, b7, by rw [upd_ne nle]; exact l10, by rw [upd_ne (nt _ _ v1)]; exact v1, by rw [upd_ne (nt _ _ v2)]; exact v2, upd_same, p7, g10.add hy hz nyz c3⟩
              · exact ⟨_, _, _, rfl, D10, b10, l10, v1, v2, e10, p10, g10.mono (by omega)⟩
            · rintro σ H10 ⟨vs, es, x8, rfl, D10, b10, l10, v1, v2, e10, p10, g10⟩
              exact ⟨vs, es, _, _, _, _, _, _, rfl, D10, b10, e10, p10, g10⟩
          · exact ⟨vs, es, _, _, _, _, _, _, rfl, D6, b5.trans b6, b6 _ _ net e5, edvs_but b6 D5.nt p5, g5.mono (by omega)⟩
      · exact ⟨[], [], _, _, _, _, _, _, rfl, D2.same s3, b2.trans (But.of_same s3), upd_same, .nil, (GE.nil ns).mono (by omega)⟩
    rintro σ H4 ⟨vs, es, x5, x7, x8, x9, x10, x11, rfl, D4, b4, e4, p4, g4⟩
    refine ⟨by show 4 ≤ sizeLine; decide, fun m hm => ?_⟩
    have s5 := same_new (o := .lst [.int 9, .int 3, .int 2, .int 5]) hm
    have nmt : m ≠ t := D4.na hm
    refine ⟨_, rfl, _, rfl, d, t, 4, rfl, D4.same s5, by decide, fun r H6 r0 r1 D6 b6 => ?_⟩
    obtain ⟨v, hv, mv⟩ := at_ok (xs := [.int 9, .int 3, .int 2, .int 5]) r0 r1
    obtain ⟨g, rfl, hg⟩ : ∃ g : Int, v = .int g ∧ 0 < g := by
      simp only [List.mem_cons, List.not_mem_nil, or_false] at mv
      rcases mv with rfl | rfl | rfl | rfl <;> exact ⟨_, rfl, by decide⟩
    refine ⟨_, _, _, _, rfl, rfl, SqL.of (b6 _ _ nmt upd_same), hv, ?_⟩
    have b6' : But t H H6 := (b4.trans (But.of_same s5)).trans b6
    have p6 := edvs_but b6 (D4.same s5).nt (edvs_same s5 p4)
    have e6 := b6 _ _ net (s5 _ _ e4)
    clear e4 p4
    have a_ : ∀ H', But t H H' → H' a = some (.lst (ns.map V.int)) := fun H' b => b _ _ na hS
    refine ⟨_, rfl, a, rfl, ⟨_, SqL.of (a_ _ b6')⟩, for_list (K := K) (a := a) (xs := ns.map V.int) (fun i σ H' => ∃ (vs : List V) (es : Eds) (x10 x11 : Option V), σ = [some (.ref d), some (.ref t), some (.ref a), some (.int (ns.length : Nat)), some (.ref o), x5, some (.ref e), x7, x8, some (.int g), x10, x11] ∧ Dr K H' d t ∧ But t H H' ∧ H' e = some (.lst vs) ∧ Paired (EdV H') vs es ∧ GE ns (9 + 7 * i) es)
      ⟨vs, es, _, _, rfl, D6, b6', e6, p6, g4⟩ (fun i σ H' _ ⟨_, _, _, _, _, _, b, _⟩ => SqL.of (a_ _ b)) ?_ ?_⟩
    · rintro i v σ H7 hv ⟨vs, es, x10, x11, rfl, D7, b7, e7, p7, g7⟩
      obtain ⟨x, hx, rfl⟩ := get_int hv
      have hi : i < ns.length := (List.getElem?_eq_some_iff.mp hx).1
      have mx : x ∈ ns := List.mem_of_getElem? hx
      refine ⟨_, rfl, a, rfl, ⟨_, SqL.of (a_ _ b7)⟩, for_list (K := K) (a := a) (xs := ns.map V.int) (fun j σ H' => ∃ (vs : List V) (es : Eds) (x11 : Option V), σ = [some (.ref d), some (.ref t), some (.ref a), some (.int (ns.length : Nat)), some (.ref o), x5, some (.ref e), x7, x8, some (.int g), some (.int x), x11] ∧ Dr K H' d t ∧ But t H H' ∧ H' e = some (.lst vs) ∧ Paired (EdV H') vs es ∧ GE ns (9 + 7 * i + j) es)
        ⟨vs, es, _, rfl, D7, b7, e7, p7, g7⟩ (fun i σ H' _ ⟨_, _, _, _, _, b, _⟩ => SqL.of (a_ _ b)) ?_ ?_⟩
      · rintro j v σ H8 hv ⟨vs, es, x11, rfl, D8, b8, e8, p8, g8⟩
        obtain ⟨y, hy, rfl⟩ := get_int hv
        have hj : j < ns.length := (List.getElem?_eq_some_iff.mp hy).1
        have my : y ∈ ns := List.mem_of_getElem? hy
        have gl := g8.2.2
        refine ⟨_, rfl, _, rfl, rfl, _, rfl, iteN (fun c => ?_) (fun c => ?_)⟩
        · refine ⟨_, rfl, _, rfl, by show 2 ≤ sizeLine; decide, fun u hu => ?_⟩
          have su := same_new (o := .tup [.int x, .int y]) hu
          refine ⟨_, rfl, (x, y), es, ⟨u, rfl, upd_same⟩, .inl ⟨e, vs, rfl, .inl (SqL.of (su _ _ e8)), edvs_same su p8⟩, _, rfl, iteN (fun c2 => ?_) (fun c2 => ?_)⟩
          · have e9 := su _ _ e8
            have p9 := edvs_same su p8
            have D9 := D8.same su
            have b9 := b8.trans (But.of_same su)
            revert e9 p9 D9 b9
            generalize upd H8 u (.tup [.int x, .int y]) = H9
            intro e9 p9 D9 b9
            refine ⟨_, rfl, _, rfl, _, rfl, d, t, g, rfl, D9, hg, fun r' H10 _ _ D10 b10 => ⟨_, rfl, _, _, rfl, rfl, rfl, _, rfl, iteD (fun c3 => ?_) (fun c3 => ?_)⟩⟩
            · have e10 := b10 _ _ net e9
              have p10 := edvs_but b10 D9.nt p9
              refine ⟨_, rfl, .inl ⟨rfl, _, SqL.of e10⟩, _, rfl, _, rfl, by show 2 ≤ sizeLine; decide, fun u2 hu2 => ?_⟩
              have s11 := same_new (o := .tup [.int x, .int y]) hu2
              refine ⟨_, _, _, rfl, rfl, s11 _ _ e10, by rw [pair_len p10]; omega, ?_⟩
              obtain ⟨d7, b7, p7⟩ := ed_put (x := (x, y)) (D10.same s11) ((b9.trans b10).trans (But.of_same s11)) eH nde net (s11 _ _ e10) (edvs_same s11 p10) ⟨u2, rfl, upd_same⟩
              exact ⟨_, _, _, rfl, d7, b7, upd_same, p7, g8.add mx my (fun z => c (by rw [z])) c2⟩
            · exact ⟨vs, es, _, rfl, D10, b9.trans b10, b10 _ _ net e9, edvs_but b10 D9.nt p9, g8.mono (by omega)⟩
          · exact ⟨vs, es, _, rfl, D8.same su, b8.trans (But.of_same su), su _ _ e8, edvs_same su p8, g8.mono (by omega)⟩
        · exact ⟨vs, es, _, rfl, D8, b8, e8, p8, g8.mono (by omega)⟩
      · rintro σ H8 ⟨vs, es, x11, rfl, D8, b8, e8, p8, g8⟩
        rw [List.length_map] at g8
        exact ⟨vs, es, _, _, rfl, D8, b8, e8, p8, g8.mono (by omega)⟩
    · rintro σ H7 ⟨vs, es, x10, x11, rfl, D7, b7, e7, p7, g7⟩
      rw [List.length_map] at g7
      have g7 := g7.mono (m := 100) (by omega)
      refine ⟨_, rfl, _, rfl, d, t, 2, rfl, D7, by decide, fun r H8 _ _ D8 b8 => ⟨rfl, _, rfl, iteD (fun c => ?_) (fun c => ?_)⟩⟩
      · refine ⟨_, rfl, e, vs, rfl, SqL.of (b8 _ _ net e7), fun z hz => ?_⟩
        have sz := same_new (o := .lst vs.reverse) hz
        have nzt : z ≠ t := D8.na hz
        exact ⟨_, rfl, q z vs.reverse es.reverse _ g7.rev (D8.same sz) ((b7.trans b8).trans (But.of_same sz)) ((b7.trans b8).free nzt hz) upd_same (pair_rev (edvs_same sz (edvs_but b8 D7.nt p7)))⟩
      · exact ⟨_, rfl, q e vs es H8 g7 D8 (b7.trans b8) eH (b8 _ _ net e7) (edvs_but b8 D7.nt p7)⟩
end
end My

namespace My
open PySem L2
theorem ring_edges {ns : List Int} {es : Eds} {x : Int} : ∀ {n : Nat} {u : Int} {r : List Int}, Chain ns (fun k u y => (u, y) ∈ es ∧ Wl es k y x) n u r → (∀ i y z, (u :: r)[i]? = some y → (u :: r)[i + 1]? = some z → (y, z) ∈ es) ∧ (0 < n → ∃ y, (u :: r)[n]? = some y ∧ (y, x) ∈ es) := by
  intro n u r h
  induction h with
  | nil => exact ⟨fun i y z _ h => by simp at h, fun h => absurd h (Nat.lt_irrefl _)⟩
  | @cons k u y r f c ih =>
    obtain ⟨_, _, ⟨e, wl⟩, _⟩ := f
    refine ⟨fun i a b ha hb => ?_, fun _ => ?_⟩
    · cases i with
      | zero =>
        obtain rfl : u = a := Option.some.inj ha
        obtain rfl : y = b := Option.some.inj hb
        exact e
      | succ i => exact ih.1 i a b ha hb
    · cases k with
      | zero =>
        cases c
        obtain ⟨v, e1, e2⟩ := wl
        exact ⟨y, rfl, by rw [show y = v from e1]; exact e2⟩
      | succ k =>
        obtain ⟨z, h1, h2⟩ := ih.2 (Nat.succ_pos _)
        exact ⟨z, h1, h2⟩
/-- a ring's edges, round about -/
theorem Lr.edge {ns : List Int} {es : Eds} {ls : List Int} (h : Lr ns es ls) {p : Nat} (hp : p < ls.length) : ∃ x y, ls[p]? = some x ∧ ls[(p + 1) % ls.length]? = some y ∧ (x, y) ∈ es := by
  rcases h with ⟨rfl, _⟩ | ⟨L, x0, r, rfl, h2, _, _, _, ch⟩
  · exact absurd hp (Nat.not_lt_zero _)
  · obtain ⟨c1, c2⟩ := ring_edges ch
    have ln : (x0 :: r).length = L := by rw [List.length_cons, ch.len]; omega
    rw [ln] at hp ⊢
    have gp : (x0 :: r)[p]? = some (x0 :: r)[p] := List.getElem?_eq_getElem (by omega)
    by_cases c : p + 1 < L
    · rw [Nat.mod_eq_of_lt c]
      have gq : (x0 :: r)[p + 1]? = some (x0 :: r)[p + 1] := List.getElem?_eq_getElem (by omega)
      exact ⟨_, _, gp, gq, c1 p _ _ gp gq⟩
    · obtain rfl : p = L - 1 := by omega
      obtain ⟨y, h1, h3⟩ := c2 (by omega)
      refine ⟨y, x0, h1, ?_, h3⟩
      rw [show L - 1 + 1 = L by omega, Nat.mod_self]; rfl
theorem Lr.len {ns : List Int} {es : Eds} {ls : List Int} (h : Lr ns es ls) : ls.length ≤ ns.length := by
  rcases h with ⟨rfl, _⟩ | ⟨L, x0, r, rfl, h2, h3, _, _, ch⟩
  · exact Nat.zero_le _
  · rw [List.length_cons, ch.len]; omega
theorem GE.cut {ns : List Int} {n : Nat} {es : Eds} (h : GE ns n es) (f : Int × Int → Bool) : GE ns n (es.filter f) :=
  ⟨h.1.filter _, fun e he => h.2.1 e (List.mem_filter.mp he).1, Nat.le_trans (List.length_filter_le _ _) h.2.2⟩
section
variable {P : Program} {w : World} {K : PySem.W.Frag} {mg : Str → Option Value} {base : Heap}
theorem keys_ed {H : Hp} : ∀ {kvs : List (List Key × V)} {bs : List Addr} {es : List (Int × Int)}, Paired (fun p b => H b = some (.tup (p.1.map kV))) kvs bs → kvs.map (·.1) = es.map keyE → Paired (EdV H) (bs.map V.ref) es
  | _, _, [], .nil, _ => .nil
  | _, _, e :: r, .nil, h => by cases h
  | _, _, [], .cons _ _, h => by cases h
  | (k, v) :: kvs, b :: bs, e :: r, .cons h1 h2, h => by
    obtain ⟨e1, e2⟩ := List.cons.inj h
    have e1 : k = keyE e := e1
    subst e1
    exact .cons ⟨b, rfl, h1⟩ (keys_ed h2 e2)
theorem Wd.add {K : PySem.W.Frag} {H : Hp} {d t N E L E2 u : Addr} {ns : List Int} {es : List (Int × Int)} {e : Int × Int} {vE vL : List V} (x : Wd K H d t N E L ns es) (hE2 : H E2 = some (.lst vE)) (pE2 : Paired (EdV H) vE (es ++ [e])) (nE2 : E2 ≠ t) (nLE2 : L ≠ E2)
    (hL : H L = some (.lst vL)) (pL : Paired (EdV H) vL es) (hu : EdV H (.ref u) e) (ne : e ∉ es) : Wd K (upd H L (.lst (vL ++ [.ref u]))) d t N E2 L ns (es ++ [e]) := by
  have b : But L H (upd H L (.lst (vL ++ [.ref u]))) := But.upd
  have nt : ∀ xs, H L ≠ some (.tup xs) := fun xs z => by rw [hL] at z; cases z
  refine ⟨x.dr.other b (fun z => ?_) x.nL.symm, by rw [upd_ne x.nLN.symm]; exact x.hn, x.nN, ⟨vE, by rw [upd_ne nLE2.symm]; exact hE2, edvs_but b nt pE2⟩, nE2, ⟨_, upd_same, edvs_but b nt (pair_append pL (.cons hu .nil))⟩, x.nL, nLE2, x.nLN, ?_, x.ndL⟩
  · exact x.ndL z.symm
  · rw [List.nodup_append]
    exact ⟨x.nd, by simp, fun a ha c hc => by rw [List.mem_singleton.mp hc]; rintro rfl; exact ne ha⟩
theorem Wd.cut {K : PySem.W.Frag} {H : Hp} {d t N E L E2 : Addr} {ns : List Int} {es : List (Int × Int)} {e : Int × Int} {vE vL : List V} {j : Nat} (x : Wd K H d t N E L ns es) (hE2 : H E2 = some (.lst vE)) (pE2 : Paired (EdV H) vE (es.filter fun f => !decide (f = e))) (nE2 : E2 ≠ t) (nLE2 : L ≠ E2)
    (hL : H L = some (.lst vL)) (pL : Paired (EdV H) vL es) (hj : es[j]? = some e) : Wd K (upd H L (.lst (vL.eraseIdx j))) d t N E2 L ns (es.filter fun f => !decide (f = e)) := by
  have b : But L H (upd H L (.lst (vL.eraseIdx j))) := But.upd
  have nt : ∀ xs, H L ≠ some (.tup xs) := fun xs z => by rw [hL] at z; cases z
  refine ⟨x.dr.other b (fun z => x.ndL z.symm) x.nL.symm, by rw [upd_ne x.nLN.symm]; exact x.hn, x.nN, ⟨vE, by rw [upd_ne nLE2.symm]; exact hE2, edvs_but b nt pE2⟩, nE2, ⟨_, upd_same, ?_⟩, x.nL, nLE2, x.nLN, x.nd.filter _, x.ndL⟩
  rw [(filter_erase x.nd hj).1]
  exact edvs_but b nt (pair_erase j pL)
theorem not_in_take {es : List (Int × Int)} {i : Nat} {e : Int × Int} (h : es.Nodup) (hi : es[i]? = some e) : e ∉ es.take i := by
  intro m
  obtain ⟨j, hj, e1⟩ := List.getElem_of_mem m
  rw [List.length_take] at hj
  rw [List.getElem_take] at e1
  obtain ⟨h1, e2⟩ := List.getElem?_eq_some_iff.mp hi
  have h2 : es[j]? = es[i]? := by rw [hi, List.getElem?_eq_getElem (by omega), e1]
  have := (List.getElem?_inj (by omega) h).mp h2
  omega
set_option maxHeartbeats 16000000 in
theorem ok_law (T : Txt K mg) : FnOk P w K mg base CX0 12 T.a_law T.fd_law ["_law_script"] (spLaw K) := by
  refine T.F_law.ok sc_law (fun vs H Q E h => ?_) (fun cdv A outer s H vs Q E hr h => ?_)
  · obtain ⟨a, ns, rfl, _⟩ := h; rfl
  · obtain ⟨a0, ns0, rfl, hS, hlen, q⟩ := h
    refine ⟨_, (pss_cons (ps_set (i := 1) sc_law.nd rfl (.inl rfl) (pe_call (ok__law_draws T) (hr.mono (by omega)) (by rfl) T.g__law_draws T.F__law_draws.kp T.b__law_draws .nil pass0 (pa_cons (pv 0) pa_nil)))
      (pss_cons (ps_set (i := 2) sc_law.nd rfl (.inl rfl) (pe_lst (pa_cons (pe_int) pa_nil)))
      (pss_cons (ps_set (i := 3) sc_law.nd rfl (.inl rfl) (pe_call (ok__law_nodes T) (hr.mono (by omega)) (by rfl) T.g__law_nodes T.F__law_nodes.kp T.b__law_nodes .nil pass0 (pa_cons (pv 1) (pa_cons (pv 2) (pa_cons (pe_ix ix_list (pe_lst (pa_cons (pe_int) (pa_cons (pe_int) (pa_cons (pe_int) (pa_cons (pe_int) (pa_cons (pe_int) (pa_cons (pe_int) (pa_cons (pe_int) (pa_cons (pe_int) pa_nil))))))))) (pe_call (ok__law_take T) (hr.mono (by omega)) (by rfl) T.g__law_take T.F__law_take.kp T.b__law_take .nil pass0 (pa_cons (pv 1) (pa_cons (pv 2) (pa_cons (pe_int) pa_nil)))) (fun _ _ => rfl)) pa_nil)))))
      (pss_cons (ps_set (i := 4) sc_law.nd rfl (.inl rfl) (pe_call (ok__law_graph T) (hr.mono (by omega)) (by rfl) T.g__law_graph T.F__law_graph.kp T.b__law_graph .nil pass0 (pa_cons (pv 1) (pa_cons (pv 2) (pa_cons (pv 3) pa_nil)))))
      (pss_cons (ps_set (i := 5) sc_law.nd rfl (.inl rfl) (pe_callTy call_list_of (by rfl) T.n_list (by decide +kernel) (pa_cons (pv 4) pa_nil)))
      (pss_cons (ps_for PassesOwn.never rfl (pi_range1 (by rfl) T.n_range (pa_cons (pe_int) pa_nil)) (pg_name (i := 6) sc_law.nd rfl (.inl rfl)) (pss_cons (ps_set (i := 7) sc_law.nd rfl (.inl rfl) (pe_call (ok__law_least_ring T) (hr.mono (by omega)) (by rfl) T.g__law_least_ring T.F__law_least_ring.kp T.b__law_least_ring .nil pass0 (pa_cons (pv 3) (pa_cons (pv 4) pa_nil))))
      (pss_cons (ps_set (i := 8) sc_law.nd rfl (.inl rfl) (pe_callTy call_list_of (by rfl) T.n_list (by decide +kernel) (pa_cons (pv 3) pa_nil)))
      (pss_cons (ps_set (i := 9) sc_law.nd rfl (.inl rfl) (pe_dnewT))
      (pss_cons (ps_for PassesOwn.never rfl (pi_list (pv 4)) (pg_name (i := 10) sc_law.nd rfl (.inl rfl)) (pss_one (ps_dput (hu_of hr) (pv 9) (pv 10) (pe_call (ok__law_take T) (hr.mono (by omega)) (by rfl) T.g__law_take T.F__law_take.kp T.b__law_take .nil pass0 (pa_cons (pv 1) (pa_cons (pv 2) (pa_cons (pe_int) pa_nil)))) rfl)))
      (pss_cons (ps_set (i := 11) sc_law.nd rfl (.inl rfl) (pe_lst (pa_cons (pe_call (ok_shortest_ring T) (hr.mono (by omega)) (by rfl) T.g_shortest_ring T.F_shortest_ring.kp T.b_shortest_ring .nil pass0 (pa_cons (pv 8) (pa_cons (pv 5) pa_nil))) (pa_cons (pe_call (ok_shortest_ring T) (hr.mono (by omega)) (by rfl) T.g_shortest_ring T.F_shortest_ring.kp T.b_shortest_ring .nil pass0 (pa_cons (pe_callTy call_tuple_of (by rfl) T.n_tuple (by decide +kernel) (pa_cons (pv 3) pa_nil)) (pa_cons (pv 9) pa_nil))) (pa_cons (pe_call (ok_shortest_ring T) (hr.mono (by omega)) (by rfl) T.g_shortest_ring T.F_shortest_ring.kp T.b_shortest_ring .nil pass0 (pa_cons (pv 8) (pa_cons (pe_callTy call_tuple_of (by rfl) T.n_tuple (by decide +kernel) (pa_cons (pv 4) pa_nil)) pa_nil))) pa_nil)))))
      (pss_cons (ps_for PassesOwn.never rfl (pi_list (pv 11)) (pg_name (i := 12) sc_law.nd rfl (.inl rfl)) (pss_one (ps_if (pt_not (pt_val (pe_call (ok__law_same T 2) (hr.mono (by omega)) (by rfl) T.g__law_same T.F__law_same.kp T.b__law_same .nil pass0 (pa_cons (pv 12) (pa_cons (pv 7) pa_nil))))) (pss_one (ps_ret (pe_bl))) pss_nil)))
      (pss_cons (ps_if (PW.pt (pw_or (pt_not (pt_val (pe_call (ok__law_same T 2) (hr.mono (by omega)) (by rfl) T.g__law_same T.F__law_same.kp T.b__law_same .nil pass0 (pa_cons (pv 8) (pa_cons (pv 3) pa_nil))))) (pw_or (pt_not (pt_val (pe_call (ok__law_same T 2) (hr.mono (by omega)) (by rfl) T.g__law_same T.F__law_same.kp T.b__law_same .nil pass0 (pa_cons (pv 5) (pa_cons (pv 4) pa_nil))))) (pw_or1 (pt_not (pt_val (pe_call (ok__law_same T 2) (hr.mono (by omega)) (by rfl) T.g__law_same T.F__law_same.kp T.b__law_same .nil pass0 (pa_cons (pe_callTy (call_list_dT rfl) (by rfl) T.n_list (by decide +kernel) (pa_cons (pv 9) pa_nil)) (pa_cons (pv 4) pa_nil))))))))) (pss_one (ps_ret (pe_bl))) pss_nil)
      (pss_one (ps_if (pt_cmpR op_gt (pe_callB call_len_seq (by rfl) T.n_len (by decide +kernel) (pa_cons (pv 7) pa_nil)) (pe_int) (nomark _)) (pss_cons (ps_set (i := 13) sc_law.nd rfl (.inl rfl) (pe_op op_sub (pe_op op_sub (pe_callB call_len_seq (by rfl) T.n_len (by decide +kernel) (pa_cons (pv 7) pa_nil)) (pe_int)) (pe_call (ok__law_take T) (hr.mono (by omega)) (by rfl) T.g__law_take T.F__law_take.kp T.b__law_take .nil pass0 (pa_cons (pv 1) (pa_cons (pv 2) (pa_cons (pe_callB call_len_seq (by rfl) T.n_len (by decide +kernel) (pa_cons (pv 7) pa_nil)) pa_nil))))))
      (pss_cons (ps_set (i := 14) sc_law.nd rfl (.inr rfl) (pe_tup (pa_cons (pe_ix ix_tup (pv 7) (pv 13) (fun _ _ => rfl)) (pa_cons (pe_ix ix_tup (pv 7) (pe_op op_mod (pe_callTy call_int1 (by rfl) T.n_int (by decide +kernel) (pa_cons (pe_op op_add (pv 13) (pe_int)) pa_nil)) (pe_callB call_len_seq (by rfl) T.n_len (by decide +kernel) (pa_cons (pv 7) pa_nil))) (fun _ _ => rfl)) pa_nil))))
      (pss_cons (ps_setLc (i := 4) (own := [("_law_edge", 10)]) (g := (gName 10)) (by rfl) sc_law.nd rfl rfl (sw_true rfl rfl rfl (by decide +kernel)) (pi_list (pv 4)) (blkOk_by (own := [("_law_edge", 10)]) (N := ["_law_script", "_law_draws_here", "_law_at", "_law_nodes_here", "_law_edges", "_law_listed", "_law_turn", "_law_due", "_law_given", "_law_table", "_law_edge", "_law_told", "_law_ring", "_law_place", "_law_gone", "_law_pair"]) (sc := defScope S_law) (by decide +kernel)) (fun _ _ _ _ _ => (pg_name (i := 10) sc_law.nd rfl (by first | exact .inl rfl | exact .inr rfl))) (fun _ _ _ _ _ => (pts_one (pt_cmpR (neDK (K := K) rfl hr.units) (pv 10) (pv 14) (nomark _)))) (fun _ _ _ _ _ => (pv 10)))
      (pss_one (ps_expr (pe_remE (hu65 hr) (pv 5) (pv 14))))))) (pss_one (ps_if (pt_cmpR op_gt (pe_callB call_len_seq (by rfl) T.n_len (by decide +kernel) (pa_cons (pv 3) pa_nil)) (pe_int) (nomark _)) (pss_cons (ps_set (i := 15) sc_law.nd rfl (.inl rfl) (pe_tup (pa_cons (pe_ix ix_list (pv 3) (pe_call (ok__law_take T) (hr.mono (by omega)) (by rfl) T.g__law_take T.F__law_take.kp T.b__law_take .nil pass0 (pa_cons (pv 1) (pa_cons (pv 2) (pa_cons (pe_callB call_len_seq (by rfl) T.n_len (by decide +kernel) (pa_cons (pv 3) pa_nil)) pa_nil)))) (fun _ _ => rfl)) (pa_cons (pe_ix ix_list (pv 3) (pe_op op_sub (pe_op op_sub (pe_callB call_len_seq (by rfl) T.n_len (by decide +kernel) (pa_cons (pv 3) pa_nil)) (pe_int)) (pe_call (ok__law_take T) (hr.mono (by omega)) (by rfl) T.g__law_take T.F__law_take.kp T.b__law_take .nil pass0 (pa_cons (pv 1) (pa_cons (pv 2) (pa_cons (pe_callB call_len_seq (by rfl) T.n_len (by decide +kernel) (pa_cons (pv 3) pa_nil)) pa_nil))))) (fun _ _ => rfl)) pa_nil))))
      (pss_one (ps_if (PW.pt (pw_and (pt_cmpR op_ne (pe_ix ix_tup (pv 15) (pe_int) (fun _ _ => rfl)) (pe_ix ix_tup (pv 15) (pe_int) (fun _ _ => rfl)) (nomark _)) (pw_and1 (pt_cmpR (ninEK (K := K) rfl (hu65 hr)) (pv 15) (pv 4) (by with_unfolding_all rfl))))) (pss_cons (ps_set (i := 4) sc_law.nd rfl (.inl rfl) (pe_op op_cat (pv 4) (pe_lst (pa_cons (pv 15) pa_nil))))
      (pss_one (ps_expr (pe_bm PySem.F.plainAttrs_list PySem.F.slot_list_append PySem.F.type_list_append mt_append (pv 5) (pa_cons (pv 15) pa_nil))))) pss_nil))) pss_nil))))))))))))
      (pss_one (ps_ret (pe_bl))))))))), ?_⟩
    refine ⟨_, rfl, a0, ns0, rfl, hS, hlen, fun d zs H1 s1 nd hd => ?_⟩
    refine ⟨by show 1 ≤ sizeLine; decide, fun t hat => ?_⟩
    have D0 : Dr K (upd H1 t (.lst [.int 0])) d t := ⟨⟨zs, same_new hat _ _ hd⟩, ⟨0, upd_same⟩, ne_of_none hd hat⟩
    revert D0
    generalize upd H1 t (.lst [.int 0]) = H2
    intro D0
    refine ⟨_, rfl, _, rfl, by show 8 ≤ sizeLine; decide, fun m hm => ?_⟩
    have s3 := same_new (o := .lst [.int 4, .int 3, .int 5, .int 2, .int 6, .int 7, .int 1, .int 0]) hm
    have nmt : m ≠ t := D0.na hm
    refine ⟨_, rfl, _, rfl, d, t, 8, rfl, D0.same s3, by decide, fun r H3 r0 r1 D3 b3 => ?_⟩
    obtain ⟨v, hv, mv⟩ := at_ok (xs := [.int 4, .int 3, .int 5, .int 2, .int 6, .int 7, .int 1, .int 0]) r0 r1
    obtain ⟨n, rfl, hn⟩ : ∃ n : Nat, v = .int n ∧ n ≤ 7 := by
      simp only [List.mem_cons, List.not_mem_nil, or_false] at mv
      rcases mv with rfl | rfl | rfl | rfl | rfl | rfl | rfl | rfl
      · exact ⟨4, rfl, by decide⟩
      · exact ⟨3, rfl, by decide⟩
      · exact ⟨5, rfl, by decide⟩
      · exact ⟨2, rfl, by decide⟩
      · exact ⟨6, rfl, by decide⟩
      · exact ⟨7, rfl, by decide⟩
      · exact ⟨1, rfl, by decide⟩
      · exact ⟨0, rfl, by decide⟩
    refine ⟨_, _, _, _, rfl, rfl, SqL.of (b3 _ _ nmt upd_same), hv, d, t, n, rfl, hn, D3, fun N ns H4 en pw D4 b4 nN hN => ?_⟩
    have nNt : N ≠ t := D3.na nN
    refine ⟨_, rfl, _, rfl, _, rfl, d, t, N, ns, rfl, by omega, pw, hN, nNt, D4, fun E0 vs0 es0 H5 ge0 D5 b5 nE0 hE0 pE0 => ?_⟩
    have nEt : E0 ≠ t := D4.na nE0
    have nNE : N ≠ E0 := ne_of_none hN nE0
    refine ⟨_, rfl, E0, vs0, rfl, .inl (SqL.of hE0), fun L hL => ?_⟩
    have s6 := same_new (o := .lst vs0) hL
    have nLt : L ≠ t := D5.na hL
    have W6 : Wd K (upd H5 L (.lst vs0)) d t N E0 L ns es0 := ⟨D5.same s6, s6 _ _ (b5 _ _ nNt hN), nNt, ⟨vs0, s6 _ _ hE0, edvs_same s6 pE0⟩, nEt, ⟨vs0, upd_same, edvs_same s6 pE0⟩, nLt, (ne_of_none hE0 hL).symm, (ne_of_none (b5 _ _ nNt hN) hL).symm, ge0.1, (D5.nd hL).symm⟩
    revert W6
    generalize upd H5 L (.lst vs0) = H6
    intro W6
    refine ⟨_, rfl, by decide, by decide, for_range (lo := 0) (n := 3) (fun k σ H' => ∃ (E : Addr) (es : List (Int × Int)) (x6 x7 x8 x9 x10 x11 x12 x13 x14 x15 : Option V), σ = [some (.ref a0), some (.ref d), some (.ref t), some (.ref N), some (.ref E), some (.ref L), x6, x7, x8, x9, x10, x11, x12, x13, x14, x15] ∧ Wd K H' d t N E L ns es ∧ GE ns (100 + k) es)
      ⟨E0, es0, _, _, _, _, _, _, _, _, _, _, rfl, W6, ge0⟩ ?_ ?_⟩
    · rintro k σ H7 hk ⟨E, es, x6, x7, x8, x9, x10, x11, x12, x13, x14, x15, rfl, W7, ge⟩
      have ln := ge.2.2
      have big : 1000 < sizeLine := by decide
      -- the due order
      refine ⟨_, rfl, _, rfl, N, .ref E, ns, es, rfl, W7.hn, by omega, ge.gr pw, W7.edE, fun du ls H8 s8 ndu hdu lr => ?_⟩
      have W8 := W7.same s8
      refine ⟨_, rfl, N, _, rfl, .inl (SqL.of W8.hn), fun g hg => ?_⟩
      have s9 := same_new (o := .lst (ns.map V.int)) hg
      have W9 := W8.same s9
      have du9 := s9 _ _ hdu
      have g9 : (upd H8 g (.lst (ns.map V.int))) g = some (.lst (ns.map V.int)) := upd_same
      have ngt : g ≠ t := W8.dr.na hg
      revert W9 du9 g9
      generalize upd H8 g (.lst (ns.map V.int)) = H9
      intro W9 du9 g9
      have nut : du ≠ t := W7.dr.na ndu
      -- the table
      refine fun tb htb => ?_
      have s10 := same_new (o := .dT []) htb
      have W10 := W9.same s10
      have ntt : tb ≠ t := W9.dr.na htb
      have ndt : d ≠ tb := W9.dr.nd htb
      obtain ⟨vE, hE9, pE9⟩ := W9.he
      have hE := s10 _ _ hE9
      have lE := pair_len pE9
      refine ⟨_, rfl, E, rfl, ⟨_, SqL.of hE⟩, for_list (K := K) (a := E) (xs := vE) (fun i σ H' => ∃ (x10 : Option V) (kvs : List (List Key × V)), σ = [some (.ref a0), some (.ref d), some (.ref t), some (.ref N), some (.ref E), some (.ref L), some (.int (0 + (k : Int))), some (.ref du), some (.ref g), some (.ref tb), x10, x11, x12, x13, x14, x15] ∧ Dr K H' d t ∧ But t H9 H' ∧ H' tb = some (.dT kvs) ∧ kvs.map (·.1) = (es.take i).map keyE)
        ⟨_, [], rfl, W10.dr, But.of_same s10, upd_same, rfl⟩ (fun i σ H' _ ⟨_, _, _, _, b, _⟩ => ?_) ?_ ?_⟩
      · exact SqL.of (b _ _ W9.nE hE9)
      · rintro i v σ H11 hv ⟨x10', kvs, rfl, D11, b11, t11, k11⟩
        obtain ⟨e, he, p, rfl, hp⟩ := pair_get pE9 hv
        have npt : p ≠ t := fun z => W9.dr.nt _ (z ▸ hp)
        refine ⟨_, rfl, _, rfl, d, t, 2, rfl, D11, by decide, fun r H12 _ _ D12 b12 => ?_⟩
        have lk : kvs.length = (es.take i).length := by have := congrArg List.length k11; simpa using this
        refine ⟨_, rfl, _, rfl, tb, _, rfl, DPut.t (k := keyE e) (b12 _ _ ntt t11) (b12 _ _ npt (b11 _ _ npt hp)) (by rw [lk, List.length_take]; omega), ?_⟩
        rw [putK_new (by rw [k11]; intro z; obtain ⟨f, hf, ef⟩ := List.mem_map.mp z; exact not_in_take W9.nd he (keyE_inj ef ▸ hf))]
        refine ⟨_, kvs ++ [(keyE e, .int r)], rfl, D12.other But.upd ndt ntt.symm, (b11.trans b12).mut htb, upd_same, ?_⟩
        rw [List.map_append, k11, List.take_add_one, he, List.map_append]; rfl
      · rintro σ H11 ⟨x10', kvs, rfl, D11, b11, t11, k11⟩
        rw [lE, List.take_length] at k11
        have W11 := W9.but b11 D11
        have g11 := b11 _ _ ngt g9
        have du11 := b11 _ _ nut du9
        clear W6 W7 W8 W9 W10
        -- the answers
        refine ⟨_, rfl, _, rfl, g, .ref L, ns, es, rfl, .inl (SqL.of g11), by omega, W11.edL, fun r1 rs1 H12 s12 n1 h1 rf1 => ?_⟩
        rw [ring_eq (ge.gr pw) rf1 lr] at h1
        have W12 := W11.same s12
        refine ⟨_, rfl, N, _, rfl, .inl ⟨SqL.of W12.hn, fun c hc => ?_⟩⟩
        have s13 := same_new (o := .tup (ns.map V.int)) hc
        have W13 := W12.same s13
        have t13 := (s12.trans s13) _ _ t11
        refine ⟨_, rfl, c, .ref tb, ns, es, rfl, .inr (.inl (.inl upd_same)), by omega, .inr ⟨tb, kvs, rfl, t13, k11⟩, fun r2 rs2 H14 s14 n2 h2 rf2 => ?_⟩
        rw [ring_eq (ge.gr pw) rf2 lr] at h2
        have W14 := W13.same s14
        have u14 := (s12.trans s13).trans s14
        obtain ⟨vE', hE', pE'⟩ := W14.he
        refine ⟨_, rfl, _, rfl, E, _, rfl, .inl ⟨SqL.of hE', fun c2 hc2 => ?_⟩⟩
        have s15 := same_new (o := .tup vE') hc2
        have u15 := u14.trans s15
        refine ⟨g, .ref c2, ns, es, rfl, .inl (SqL.of (u15 _ _ g11)), by omega, .inl ⟨c2, vE', rfl, .inr (.inl (.inl upd_same)), edvs_same s15 pE'⟩, fun r3 rs3 H16 s16 n3 h3 rf3 => ?_⟩
        rw [ring_eq (ge.gr pw) rf3 lr] at h3
        have u16 := u15.trans s16
        refine ⟨by show 3 ≤ sizeLine; decide, fun to hto => ?_⟩
        have s17 := same_new (o := .lst [.ref r1, .ref r2, .ref r3]) hto
        have u17 := u16.trans s17
        have W17 := W11.same u17
        have h1 := (((s13.trans s14).trans s15).trans (s16.trans s17)) _ _ h1
        have h2 := (s15.trans (s16.trans s17)) _ _ h2
        have h3 := s17 _ _ h3
        have g17 := u17 _ _ g11
        have t17 := u17 _ _ t11
        have d17 := u17 _ _ du11
        have o17 : (upd H16 to (.lst [.ref r1, .ref r2, .ref r3])) to = some (.lst [.ref r1, .ref r2, .ref r3]) := upd_same
        revert W17 h1 h2 h3 g17 t17 d17 o17
        generalize upd H16 to (.lst [.ref r1, .ref r2, .ref r3]) = H17
        intro W17 h1 h2 h3 g17 t17 d17 o17
        have lf := lr.len
        have dt : ∀ r, H17 r = some (.tup (ls.map V.int)) → Dn K t H17 2 (.ref r) (.tuple (ls.map PyData.int)) := fun r h =>
          Dn.tup (fun z => W17.dr.nt _ (z ▸ h)) (.inl (.inl h)) (ints_dn _) (by rw [List.length_map]; show _ ≤ _; omega)
        have not_t : to ≠ t := fun z => by
          obtain ⟨_, z2⟩ := W17.dr.pl
          rw [z, z2] at o17; cases o17
        refine ⟨_, rfl, to, rfl, ⟨_, SqL.of o17⟩, for_list (K := K) (a := to) (xs := [.ref r1, .ref r2, .ref r3]) (fun i σ H' => ∃ x12, H' = H17 ∧ σ = [some (.ref a0), some (.ref d), some (.ref t), some (.ref N), some (.ref E), some (.ref L), some (.int (0 + (k : Int))), some (.ref du), some (.ref g), some (.ref tb), x10', some (.ref to), x12, x13, x14, x15])
          ⟨_, rfl, rfl⟩ (fun i σ H' _ ⟨_, e, _⟩ => by rw [e]; exact SqL.of o17) ?_ ?_⟩
        · rintro i v σ H18 hv ⟨x12', rfl, rfl⟩
          obtain ⟨r, rfl, hr'⟩ : ∃ r, v = V.ref r ∧ H18 r = some (.tup (ls.map V.int)) := by
            have := List.mem_of_getElem? hv
            simp only [List.mem_cons, List.not_mem_nil, or_false] at this
            rcases this with rfl | rfl | rfl
            · exact ⟨_, rfl, h1⟩
            · exact ⟨_, rfl, h2⟩
            · exact ⟨_, rfl, h3⟩
          exact ⟨_, rfl, _, rfl, t, .ref r, .ref du, _, _, rfl, dt r hr', dt du d17, _, rfl, iteNo nsame ⟨_, rfl, rfl⟩⟩
        · rintro σ H18 ⟨x12', rfl, rfl⟩
          have dl : ∀ r, r ≠ t → H18 r = some (.lst (ns.map V.int)) → Dn K t H18 2 (.ref r) (.list (ns.map PyData.int)) := fun r n h => Dn.lst n (SqL.of h) (ints_dn ns) (by rw [List.length_map]; omega)
          have de : ∀ (H : Hp) r vs, (∀ xs, H t ≠ some (.tup xs)) → r ≠ t → H r = some (.lst vs) → Paired (EdV H) vs es → Dn K t H 2 (.ref r) (.list (es.map edD)) := fun H r vs nt n h p => Dn.lst n (SqL.of h) (EdV.dns nt p) (by rw [pair_len p]; omega)
          obtain ⟨vE18, hE18, pE18⟩ := W17.he
          obtain ⟨vL18, hL18, pL18⟩ := W17.hl
          refine ⟨_, rfl, _, rfl, t, .ref g, .ref N, _, _, rfl, dl g ngt g17, dl N W17.nN W17.hn, _, rfl, iteNo nsame ?_⟩
          refine ⟨_, rfl, _, rfl, t, .ref L, .ref E, _, _, rfl, de _ L _ W17.dr.nt W17.nL hL18 pL18, de _ E _ W17.dr.nt W17.nE hE18 pE18, _, rfl, iteNo nsame ?_⟩
          refine ⟨_, rfl, tb, kvs, rfl, .inl t17, fun p bs np ik => ?_⟩
          have s19 := same_new (o := .lst (bs.map V.ref)) np
          have W19 := W17.same s19
          have npt : p ≠ t := W17.dr.na np
          have pk := keys_ed ik k11
          refine ⟨_, rfl, t, .ref p, .ref E, _, _, rfl, de _ p _ W19.dr.nt npt upd_same (edvs_same s19 pk), de _ E _ W19.dr.nt W19.nE (s19 _ _ hE18) (edvs_same s19 pE18), _, rfl, iteNo nsame ?_⟩
          have lE : vE18.length = es.length := pair_len pE18
          have du19 := s19 _ _ d17
          obtain ⟨vE, hE, pE, lE⟩ : ∃ vE, (upd H18 p (.lst (bs.map V.ref))) E = some (.lst vE) ∧ Paired (EdV (upd H18 p (.lst (bs.map V.ref)))) vE es ∧ vE.length = es.length := ⟨_, s19 _ _ hE18, edvs_same s19 pE18, lE⟩
          revert W19 hE pE du19
          generalize upd H18 p (.lst (bs.map V.ref)) = H19
          intro W19 du19 hE pE
          clear dl de hE18 pE18 hL18 pL18 W17 pk
          have lls : (ls.map V.int).length = ls.length := List.length_map ..
          refine ⟨_, rfl, du, _, rfl, .inr (SqT.of du19), _, _, rfl, rfl, _, rfl, iteD (fun c => ?_) (fun c => ?_)⟩
          · -- an edge of the ring is gone
            have hpos : 0 < ls.length := by omega
            refine ⟨_, rfl, du, _, rfl, .inr (SqT.of du19), _, _, rfl, rfl, _, rfl, _, rfl, _, rfl, du, _, rfl, .inr (SqT.of du19), d, t, _, rfl, W19.dr, by omega, fun r H20 r0 r1 D20 b20 => ?_⟩
            have W20 := W19.but b20 D20
            have hE20 := b20 _ _ W19.nE hE
            have pE20 := edvs_but b20 W19.dr.nt pE
            have du20 := b20 _ _ nut du19
            obtain ⟨p, hp⟩ := Int.eq_ofNat_of_zero_le (show 0 ≤ ((ls.length : Nat) : Int) - 1 - r by omega)
            have hp' : p < ls.length := by omega
            obtain ⟨x, y, gx, gy, mxy⟩ := lr.edge hp'
            have ax : atI (ls.map V.int) (((ls.length : Nat) : Int) - 1 - r) = some (.int x) := by rw [hp]; exact atI_nat (by rw [List.getElem?_map, gx]; rfl)
            have ay : atI (ls.map V.int) ((((ls.length : Nat) : Int) - 1 - r + 1) % ((ls.length : Nat) : Int)) = some (.int y) := by
              rw [hp, show ((p : Int) + 1) % ((ls.length : Nat) : Int) = (((p + 1) % ls.length : Nat) : Int) from (Int.natCast_emod (p + 1) ls.length).symm]
              exact atI_nat (by rw [List.getElem?_map, gy]; rfl)
            rw [lls]
            refine ⟨_, _, rfl, rfl, ?_⟩
            refine ⟨_, rfl, _, rfl, _, _, _, _, rfl, rfl, SqT.of du20, ax, _, rfl, _, rfl, _, _, rfl, rfl, .inl ⟨_, rfl, _, rfl, du, _, rfl, .inr (SqT.of du20), _, _, rfl, rfl, by omega, ?_⟩⟩
            rw [lls]
            refine ⟨_, _, _, _, rfl, rfl, SqT.of du20, ay, by show 2 ≤ sizeLine; decide, fun u hu => ?_⟩
            have su := same_new (o := .tup [.int x, .int y]) hu
            have W21 := W20.same su
            have hE21 := su _ _ hE20
            have pE21 := edvs_same su pE20
            have hve : EdV (upd H20 u (.tup [.int x, .int y])) (.ref u) (x, y) := ⟨u, rfl, upd_same⟩
            revert W21 hE21 pE21 hve
            generalize upd H20 u (.tup [.int x, .int y]) = H21
            intro W21 hE21 pE21 hve
            obtain ⟨j, hj, ej⟩ := List.getElem_of_mem mxy
            have he : es[j]? = some (x, y) := by rw [List.getElem?_eq_getElem hj, ej]
            obtain ⟨vL, hL, pL⟩ := W21.hl
            refine ⟨_, rfl, E, rfl, ⟨_, SqL.of hE21⟩, fun E2 hE2 => lc_list (K := K) (a := E) (xs := vE) (fun i H' => ∃ ws, Same H21 H' ∧ H' E2 = some (.lst ws) ∧ Paired (EdV H') ws ((es.take i).filter fun f => !decide (f = (x, y))))
              ⟨[], same_new hE2, upd_same, .nil⟩ (fun i H' _ ⟨_, s, _⟩ => SqL.of (s _ _ hE21)) ?_ ?_⟩
            · rintro i v H22 hv ⟨ws, s22, h22, p22⟩
              obtain ⟨f, hf, hvf⟩ := pair_get pE21 hv
              refine ⟨rfl, _, rfl, _, rfl, edD f, edD (x, y), (EdV.same hvf s22).dp, (EdV.same hve s22).dp, edD_shaped _, edD_shaped _, ?_⟩
              rw [edD_eqv]
              refine ⟨_, rfl, iteN (fun c6 => ?_) (fun c6 => ?_)⟩
              · have nt : ∀ xs, H22 E2 ≠ some (.tup xs) := fun xs z => by rw [h22] at z; cases z
                refine ⟨_, rfl, ws, h22, ?_, ws ++ [v], same_mut s22 hE2, upd_same, ?_⟩
                · rw [pair_len p22]
                  have := List.length_filter_le (fun f => !decide (f = (x, y))) (es.take i)
                  rw [List.length_take] at this
                  omega
                · rw [filter_take_succ _ hf, if_pos (by simp [c6])]
                  exact edvs_but But.upd nt (pair_append p22 (.cons (EdV.same hvf s22) .nil))
              · refine ⟨ws, s22, h22, ?_⟩
                rw [filter_take_succ _ hf, if_neg (by simp [c6]), List.append_nil]
                exact p22
            · rintro H22 ⟨ws, s22, h22, p22⟩
              rw [pair_len pE21, List.take_length] at p22
              have W22 := W21.same s22
              have nE2t : E2 ≠ t := W21.dr.na hE2
              have nLE2 : L ≠ E2 := ne_of_none hL hE2
              refine ⟨_, rfl, .inl ⟨rfl, _, SqL.of (s22 _ _ hL)⟩, _, rfl, L, vL, es, (x, y), j, rfl, s22 _ _ hL, edvs_same s22 pL, EdV.same hve s22, he, (filter_erase W20.nd he).2, ?_⟩
              exact ⟨E2, _, _, _, _, _, _, _, _, _, _, _, rfl, W22.cut h22 p22 nE2t nLE2 (s22 _ _ hL) (edvs_same s22 pL) he, (ge.cut _).mono (by omega)⟩
          · skip
            have lns : (ns.map V.int).length = ns.length := List.length_map ..
            refine ⟨_, rfl, N, _, rfl, .inl (SqL.of W19.hn), _, _, rfl, rfl, _, rfl, iteD (fun c2 => ?_) (fun c2 => ?_)⟩
            · -- one more edge
              refine ⟨_, rfl, _, rfl, _, rfl, _, rfl, N, _, rfl, .inl (SqL.of W19.hn), d, t, _, rfl, W19.dr, by omega, fun r H20 r0 r1 D20 b20 => ?_⟩
              have W20 := W19.but b20 D20
              obtain ⟨v1, hv1, mv1⟩ := at_ok (xs := ns.map V.int) r0 (by omega)
              obtain ⟨x1, m1, rfl⟩ := List.mem_map.mp mv1
              refine ⟨_, _, _, _, rfl, rfl, SqL.of W20.hn, hv1, ?_⟩
              refine ⟨_, rfl, _, rfl, N, _, rfl, .inl (SqL.of W20.hn), _, _, rfl, rfl, _, rfl, _, rfl, _, rfl, N, _, rfl, .inl (SqL.of W20.hn), d, t, _, rfl, D20, by omega, fun r' H21 r0' r1' D21 b21 => ?_⟩
              have W21 := W20.but b21 D21
              obtain ⟨v2, hv2, mv2⟩ := at_ok (xs := ns.map V.int) (i := (((ns.map V.int).length : Nat) : Int) - 1 - r') (by omega) (by omega)
              obtain ⟨x2, m2, rfl⟩ := List.mem_map.mp mv2
              refine ⟨_, _, rfl, rfl, _, _, _, _, rfl, rfl, SqL.of W21.hn, hv2, by show 2 ≤ sizeLine; decide, fun u hu => ?_⟩
              have su := same_new (o := .tup [.int x1, .int x2]) hu
              have W22 := W21.same su
              have hu22 : (upd H21 u (.tup [.int x1, .int x2])) u = some (.tup [.int x1, .int x2]) := upd_same
              revert W22 hu22
              generalize upd H21 u (.tup [.int x1, .int x2]) = H22
              intro W22 hu22
              have EU : EdV H22 (.ref u) (x1, x2) := ⟨u, rfl, hu22⟩
              refine ⟨_, rfl, _, _, _, _, rfl, rfl, SqT.of hu22, at_of (j := 0) rfl rfl, _, rfl, _, _, _, _, rfl, rfl, SqT.of hu22, at_of (j := 1) rfl rfl, rfl, _, rfl, iteN (fun c3 => ?_) (fun c3 => ?_)⟩
              · refine ⟨_, rfl, _, rfl, (x1, x2), es, EU, W22.edE, _, rfl, iteN (fun c4 => ?_) (fun c4 => ?_)⟩
                · refine ⟨_, rfl, _, rfl, by show 1 ≤ sizeLine; decide, fun l2 hl2 => ?_⟩
                  have s24 := same_new (o := .lst [.ref u]) hl2
                  obtain ⟨vE', hE', pE'⟩ := (W22.same s24).he
                  have lE' := pair_len pE'
                  refine ⟨E, l2, vE', [.ref u], rfl, rfl, hE', upd_same, by rw [lE']; show _ + 1 ≤ _; omega, fun E2 hE2 => ?_⟩
                  have s25 := same_new (o := .lst (vE' ++ [.ref u])) hE2
                  have W25 := (W22.same s24).same s25
                  have nE2t : E2 ≠ t := (W22.same s24).dr.na hE2
                  obtain ⟨vL, hL, pL⟩ := (W22.same s24).hl
                  have nLE2 : L ≠ E2 := ne_of_none hL hE2
                  refine ⟨_, rfl, .inl ⟨rfl, _, SqL.of (s25 _ _ hL)⟩, _, rfl, _, _, _, rfl, rfl, s25 _ _ hL, by rw [pair_len pL]; omega, ?_⟩
                  exact ⟨E2, es ++ [(x1, x2)], _, _, _, _, _, _, _, _, _, _, rfl, W25.add upd_same (pair_append (edvs_same s25 pE') (.cons (EdV.same EU (s24.trans s25)) .nil)) nE2t nLE2 (s25 _ _ hL) (edvs_same s25 pL) (EdV.same EU (s24.trans s25)) c4, ge.add m1 m2 (fun z => c3 (by rw [z])) c4⟩
                · exact ⟨E, es, _, _, _, _, _, _, _, _, _, _, rfl, W22, ge.mono (by omega)⟩
              · exact ⟨E, es, _, _, _, _, _, _, _, _, _, _, rfl, W22, ge.mono (by omega)⟩
            · exact ⟨E, es, _, _, _, _, _, _, _, _, _, _, rfl, W19, ge.mono (by omega)⟩
    · rintro σ H7 ⟨E, es, x6, x7, x8, x9, x10, x11, x12, x13, x14, x15, rfl, W7, ge⟩
      exact q _
end
end My

namespace My
open PySem L2
theorem all_mk {l : PySem.W.OpenLaw} {w : World} {K : PySem.W.Frag} {h : Heap} {mg : Str → Option Value} {fa : Addr} (X : K.In h) (G : h.Ns mainGlobals mg) (hfa : mg "law" = some (.ref fa))
    {f_distances : Addr} {od_distances an_distances : Option Addr} {sl_distances : Array (Option Value)} {oc_distances kV_distances dc_distances pm_distances cd_distances ct_distances : Value}
    {f_ring_from : Addr} {od_ring_from an_ring_from : Option Addr} {sl_ring_from : Array (Option Value)} {oc_ring_from kV_ring_from dc_ring_from pm_ring_from cd_ring_from ct_ring_from : Value}
    {f_shortest_ring : Addr} {od_shortest_ring an_shortest_ring : Option Addr} {sl_shortest_ring : Array (Option Value)} {oc_shortest_ring kV_shortest_ring dc_shortest_ring pm_shortest_ring cd_shortest_ring ct_shortest_ring : Value}
    {f__law_draws : Addr} {od__law_draws an__law_draws : Option Addr} {sl__law_draws : Array (Option Value)} {oc__law_draws kV__law_draws dc__law_draws pm__law_draws cd__law_draws ct__law_draws : Value}
    {f__law_take : Addr} {od__law_take an__law_take : Option Addr} {sl__law_take : Array (Option Value)} {oc__law_take kV__law_take dc__law_take pm__law_take cd__law_take ct__law_take : Value}
    {f__law_same : Addr} {od__law_same an__law_same : Option Addr} {sl__law_same : Array (Option Value)} {oc__law_same kV__law_same dc__law_same pm__law_same cd__law_same ct__law_same : Value}
    {f__law_nodes : Addr} {od__law_nodes an__law_nodes : Option Addr} {sl__law_nodes : Array (Option Value)} {oc__law_nodes kV__law_nodes dc__law_nodes pm__law_nodes cd__law_nodes ct__law_nodes : Value}
    {f__law_order : Addr} {od__law_order an__law_order : Option Addr} {sl__law_order : Array (Option Value)} {oc__law_order kV__law_order dc__law_order pm__law_order cd__law_order ct__law_order : Value}
    {f__law_graph : Addr} {od__law_graph an__law_graph : Option Addr} {sl__law_graph : Array (Option Value)} {oc__law_graph kV__law_graph dc__law_graph pm__law_graph cd__law_graph ct__law_graph : Value}
    {f__law_longer : Addr} {od__law_longer an__law_longer : Option Addr} {sl__law_longer : Array (Option Value)} {oc__law_longer kV__law_longer dc__law_longer pm__law_longer cd__law_longer ct__law_longer : Value}
    {f__law_least_ring : Addr} {od__law_least_ring an__law_least_ring : Option Addr} {sl__law_least_ring : Array (Option Value)} {oc__law_least_ring kV__law_least_ring dc__law_least_ring pm__law_least_ring cd__law_least_ring ct__law_least_ring : Value}
    {f_law : Addr} {od_law an_law : Option Addr} {sl_law : Array (Option Value)} {oc_law kV_law dc_law pm_law cd_law ct_law : Value}
    (a_distances : PySem.W.nsIn K mainGlobals "distances" = some (some (.ref f_distances)))
    (l_distances : K.lookup f_distances = some ⟨oc_distances, od_distances, .func (PySem.W.fnOf "distances" "distances" (defArgs S_distances) (defBody S_distances) (defScope S_distances) .none kV_distances dc_distances pm_distances an_distances cd_distances ct_distances), sl_distances⟩)
    (c_distances : PySem.W.codeIn K cd_distances "distances" = true)
    (k_distances : PySem.W.keepIn K (.ref f_distances) = true)
    (a_ring_from : PySem.W.nsIn K mainGlobals "ring_from" = some (some (.ref f_ring_from)))
    (l_ring_from : K.lookup f_ring_from = some ⟨oc_ring_from, od_ring_from, .func (PySem.W.fnOf "ring_from" "ring_from" (defArgs S_ring_from) (defBody S_ring_from) (defScope S_ring_from) .none kV_ring_from dc_ring_from pm_ring_from an_ring_from cd_ring_from ct_ring_from), sl_ring_from⟩)
    (c_ring_from : PySem.W.codeIn K cd_ring_from "ring_from" = true)
    (k_ring_from : PySem.W.keepIn K (.ref f_ring_from) = true)
    (a_shortest_ring : PySem.W.nsIn K mainGlobals "shortest_ring" = some (some (.ref f_shortest_ring)))
    (l_shortest_ring : K.lookup f_shortest_ring = some ⟨oc_shortest_ring, od_shortest_ring, .func (PySem.W.fnOf "shortest_ring" "shortest_ring" (defArgs S_shortest_ring) (defBody S_shortest_ring) (defScope S_shortest_ring) .none kV_shortest_ring dc_shortest_ring pm_shortest_ring an_shortest_ring cd_shortest_ring ct_shortest_ring), sl_shortest_ring⟩)
    (c_shortest_ring : PySem.W.codeIn K cd_shortest_ring "shortest_ring" = true)
    (k_shortest_ring : PySem.W.keepIn K (.ref f_shortest_ring) = true)
    (a__law_draws : PySem.W.nsIn K mainGlobals "_law_draws" = some (some (.ref f__law_draws)))
    (l__law_draws : K.lookup f__law_draws = some ⟨oc__law_draws, od__law_draws, .func (PySem.W.fnOf "_law_draws" "_law_draws" (defArgs S__law_draws) (defBody S__law_draws) (defScope S__law_draws) .none kV__law_draws dc__law_draws pm__law_draws an__law_draws cd__law_draws ct__law_draws), sl__law_draws⟩)
    (c__law_draws : PySem.W.codeIn K cd__law_draws "_law_draws" = true)
    (k__law_draws : PySem.W.keepIn K (.ref f__law_draws) = true)
    (a__law_take : PySem.W.nsIn K mainGlobals "_law_take" = some (some (.ref f__law_take)))
    (l__law_take : K.lookup f__law_take = some ⟨oc__law_take, od__law_take, .func (PySem.W.fnOf "_law_take" "_law_take" (defArgs S__law_take) (defBody S__law_take) (defScope S__law_take) .none kV__law_take dc__law_take pm__law_take an__law_take cd__law_take ct__law_take), sl__law_take⟩)
    (c__law_take : PySem.W.codeIn K cd__law_take "_law_take" = true)
    (k__law_take : PySem.W.keepIn K (.ref f__law_take) = true)
    (a__law_same : PySem.W.nsIn K mainGlobals "_law_same" = some (some (.ref f__law_same)))
    (l__law_same : K.lookup f__law_same = some ⟨oc__law_same, od__law_same, .func (PySem.W.fnOf "_law_same" "_law_same" (defArgs S__law_same) (defBody S__law_same) (defScope S__law_same) .none kV__law_same dc__law_same pm__law_same an__law_same cd__law_same ct__law_same), sl__law_same⟩)
    (c__law_same : PySem.W.codeIn K cd__law_same "_law_same" = true)
    (k__law_same : PySem.W.keepIn K (.ref f__law_same) = true)
    (a__law_nodes : PySem.W.nsIn K mainGlobals "_law_nodes" = some (some (.ref f__law_nodes)))
    (l__law_nodes : K.lookup f__law_nodes = some ⟨oc__law_nodes, od__law_nodes, .func (PySem.W.fnOf "_law_nodes" "_law_nodes" (defArgs S__law_nodes) (defBody S__law_nodes) (defScope S__law_nodes) .none kV__law_nodes dc__law_nodes pm__law_nodes an__law_nodes cd__law_nodes ct__law_nodes), sl__law_nodes⟩)
    (c__law_nodes : PySem.W.codeIn K cd__law_nodes "_law_nodes" = true)
    (k__law_nodes : PySem.W.keepIn K (.ref f__law_nodes) = true)
    (a__law_order : PySem.W.nsIn K mainGlobals "_law_order" = some (some (.ref f__law_order)))
    (l__law_order : K.lookup f__law_order = some ⟨oc__law_order, od__law_order, .func (PySem.W.fnOf "_law_order" "_law_order" (defArgs S__law_order) (defBody S__law_order) (defScope S__law_order) .none kV__law_order dc__law_order pm__law_order an__law_order cd__law_order ct__law_order), sl__law_order⟩)
    (c__law_order : PySem.W.codeIn K cd__law_order "_law_order" = true)
    (k__law_order : PySem.W.keepIn K (.ref f__law_order) = true)
    (a__law_graph : PySem.W.nsIn K mainGlobals "_law_graph" = some (some (.ref f__law_graph)))
    (l__law_graph : K.lookup f__law_graph = some ⟨oc__law_graph, od__law_graph, .func (PySem.W.fnOf "_law_graph" "_law_graph" (defArgs S__law_graph) (defBody S__law_graph) (defScope S__law_graph) .none kV__law_graph dc__law_graph pm__law_graph an__law_graph cd__law_graph ct__law_graph), sl__law_graph⟩)
    (c__law_graph : PySem.W.codeIn K cd__law_graph "_law_graph" = true)
    (k__law_graph : PySem.W.keepIn K (.ref f__law_graph) = true)
    (a__law_longer : PySem.W.nsIn K mainGlobals "_law_longer" = some (some (.ref f__law_longer)))
    (l__law_longer : K.lookup f__law_longer = some ⟨oc__law_longer, od__law_longer, .func (PySem.W.fnOf "_law_longer" "_law_longer" (defArgs S__law_longer) (defBody S__law_longer) (defScope S__law_longer) .none kV__law_longer dc__law_longer pm__law_longer an__law_longer cd__law_longer ct__law_longer), sl__law_longer⟩)
    (c__law_longer : PySem.W.codeIn K cd__law_longer "_law_longer" = true)
    (k__law_longer : PySem.W.keepIn K (.ref f__law_longer) = true)
    (a__law_least_ring : PySem.W.nsIn K mainGlobals "_law_least_ring" = some (some (.ref f__law_least_ring)))
    (l__law_least_ring : K.lookup f__law_least_ring = some ⟨oc__law_least_ring, od__law_least_ring, .func (PySem.W.fnOf "_law_least_ring" "_law_least_ring" (defArgs S__law_least_ring) (defBody S__law_least_ring) (defScope S__law_least_ring) .none kV__law_least_ring dc__law_least_ring pm__law_least_ring an__law_least_ring cd__law_least_ring ct__law_least_ring), sl__law_least_ring⟩)
    (c__law_least_ring : PySem.W.codeIn K cd__law_least_ring "_law_least_ring" = true)
    (k__law_least_ring : PySem.W.keepIn K (.ref f__law_least_ring) = true)
    (a_law : PySem.W.nsIn K mainGlobals "law" = some (some (.ref f_law)))
    (l_law : K.lookup f_law = some ⟨oc_law, od_law, .func (PySem.W.fnOf "law" "law" (defArgs S_law) (defBody S_law) (defScope S_law) .none kV_law dc_law pm_law an_law cd_law ct_law), sl_law⟩)
    (c_law : PySem.W.codeIn K cd_law "law" = true)
    (k_law : PySem.W.keepIn K (.ref f_law) = true)
    (z_any : PySem.W.nsIn K mainGlobals "any" = some none)
    (z_bool : PySem.W.nsIn K mainGlobals "bool" = some none)
    (z_int : PySem.W.nsIn K mainGlobals "int" = some none)
    (z_isinstance : PySem.W.nsIn K mainGlobals "isinstance" = some none)
    (z_len : PySem.W.nsIn K mainGlobals "len" = some none)
    (z_list : PySem.W.nsIn K mainGlobals "list" = some none)
    (z_min : PySem.W.nsIn K mainGlobals "min" = some none)
    (z_range : PySem.W.nsIn K mainGlobals "range" = some none)
    (z_str : PySem.W.nsIn K mainGlobals "str" = some none)
    (z_tuple : PySem.W.nsIn K mainGlobals "tuple" = some none)
    : ∃ fd : FuncData, (∀ (s : Shared) (v : Value), BindsTo s fd ⟨[v], []⟩ [("_law_script", v)]) ∧ ∀ base : Heap, K.In base → base.Ns mainGlobals mg → FnOk l.prog w K mg base CX0 12 fa fd ["_law_script"] (spLaw K) := by
  have e := hfa.symm.trans (PySem.W.mg_of X G a_law)
  cases e
  let T : Txt K mg := {
    a_distances := f_distances,
    fd_distances := _,
    F_distances := fun_mk (st := S_distances) l_distances c_distances k_distances,
    b_distances := (fun_mk (st := S_distances) l_distances c_distances k_distances).binds (ps := ["goal", "nodes", "edges"]) fun _ _ _ _ _ _ us hl => match us, hl with | [_, _, _], _ => rfl,
    g_distances := PySem.W.mg_of X G a_distances,
    a_ring_from := f_ring_from,
    fd_ring_from := _,
    F_ring_from := fun_mk (st := S_ring_from) l_ring_from c_ring_from k_ring_from,
    b_ring_from := (fun_mk (st := S_ring_from) l_ring_from c_ring_from k_ring_from).binds (ps := ["first", "nodes", "edges"]) fun _ _ _ _ _ _ us hl => match us, hl with | [_, _, _], _ => rfl,
    g_ring_from := PySem.W.mg_of X G a_ring_from,
    a_shortest_ring := f_shortest_ring,
    fd_shortest_ring := _,
    F_shortest_ring := fun_mk (st := S_shortest_ring) l_shortest_ring c_shortest_ring k_shortest_ring,
    b_shortest_ring := (fun_mk (st := S_shortest_ring) l_shortest_ring c_shortest_ring k_shortest_ring).binds (ps := ["nodes", "edges"]) fun _ _ _ _ _ _ us hl => match us, hl with | [_, _], _ => rfl,
    g_shortest_ring := PySem.W.mg_of X G a_shortest_ring,
    a__law_draws := f__law_draws,
    fd__law_draws := _,
    F__law_draws := fun_mk (st := S__law_draws) l__law_draws c__law_draws k__law_draws,
    b__law_draws := (fun_mk (st := S__law_draws) l__law_draws c__law_draws k__law_draws).binds (ps := ["_law_script"]) fun _ _ _ _ _ _ us hl => match us, hl with | [_], _ => rfl,
    g__law_draws := PySem.W.mg_of X G a__law_draws,
    a__law_take := f__law_take,
    fd__law_take := _,
    F__law_take := fun_mk (st := S__law_take) l__law_take c__law_take k__law_take,
    b__law_take := (fun_mk (st := S__law_take) l__law_take c__law_take k__law_take).binds (ps := ["_law_draws_here", "_law_at", "_law_size"]) fun _ _ _ _ _ _ us hl => match us, hl with | [_, _, _], _ => rfl,
    g__law_take := PySem.W.mg_of X G a__law_take,
    a__law_same := f__law_same,
    fd__law_same := _,
    F__law_same := fun_mk (st := S__law_same) l__law_same c__law_same k__law_same,
    b__law_same := (fun_mk (st := S__law_same) l__law_same c__law_same k__law_same).binds (ps := ["_law_actual", "_law_expected"]) fun _ _ _ _ _ _ us hl => match us, hl with | [_, _], _ => rfl,
    g__law_same := PySem.W.mg_of X G a__law_same,
    a__law_nodes := f__law_nodes,
    fd__law_nodes := _,
    F__law_nodes := fun_mk (st := S__law_nodes) l__law_nodes c__law_nodes k__law_nodes,
    b__law_nodes := (fun_mk (st := S__law_nodes) l__law_nodes c__law_nodes k__law_nodes).binds (ps := ["_law_draws_here", "_law_at", "_law_count"]) fun _ _ _ _ _ _ us hl => match us, hl with | [_, _, _], _ => rfl,
    g__law_nodes := PySem.W.mg_of X G a__law_nodes,
    a__law_order := f__law_order,
    fd__law_order := _,
    F__law_order := fun_mk (st := S__law_order) l__law_order c__law_order k__law_order,
    b__law_order := (fun_mk (st := S__law_order) l__law_order c__law_order k__law_order).binds (ps := ["_law_draws_here", "_law_at", "_law_count"]) fun _ _ _ _ _ _ us hl => match us, hl with | [_, _, _], _ => rfl,
    g__law_order := PySem.W.mg_of X G a__law_order,
    a__law_graph := f__law_graph,
    fd__law_graph := _,
    F__law_graph := fun_mk (st := S__law_graph) l__law_graph c__law_graph k__law_graph,
    b__law_graph := (fun_mk (st := S__law_graph) l__law_graph c__law_graph k__law_graph).binds (ps := ["_law_draws_here", "_law_at", "_law_nodes_here"]) fun _ _ _ _ _ _ us hl => match us, hl with | [_, _, _], _ => rfl,
    g__law_graph := PySem.W.mg_of X G a__law_graph,
    a__law_longer := f__law_longer,
    fd__law_longer := _,
    F__law_longer := fun_mk (st := S__law_longer) l__law_longer c__law_longer k__law_longer,
    b__law_longer := (fun_mk (st := S__law_longer) l__law_longer c__law_longer k__law_longer).binds (ps := ["_law_table", "_law_near"]) fun _ _ _ _ _ _ us hl => match us, hl with | [_, _], _ => rfl,
    g__law_longer := PySem.W.mg_of X G a__law_longer,
    a__law_least_ring := f__law_least_ring,
    fd__law_least_ring := _,
    F__law_least_ring := fun_mk (st := S__law_least_ring) l__law_least_ring c__law_least_ring k__law_least_ring,
    b__law_least_ring := (fun_mk (st := S__law_least_ring) l__law_least_ring c__law_least_ring k__law_least_ring).binds (ps := ["_law_nodes_here", "_law_edges"]) fun _ _ _ _ _ _ us hl => match us, hl with | [_, _], _ => rfl,
    g__law_least_ring := PySem.W.mg_of X G a__law_least_ring,
    a_law := fa,
    fd_law := _,
    F_law := fun_mk (st := S_law) l_law c_law k_law,
    b_law := (fun_mk (st := S_law) l_law c_law k_law).binds (ps := ["_law_script"]) fun _ _ _ _ _ _ us hl => match us, hl with | [_], _ => rfl,
    g_law := PySem.W.mg_of X G a_law,
    n_any := PySem.W.mg_none_of X G z_any,
    n_bool := PySem.W.mg_none_of X G z_bool,
    n_int := PySem.W.mg_none_of X G z_int,
    n_isinstance := PySem.W.mg_none_of X G z_isinstance,
    n_len := PySem.W.mg_none_of X G z_len,
    n_list := PySem.W.mg_none_of X G z_list,
    n_min := PySem.W.mg_none_of X G z_min,
    n_range := PySem.W.mg_none_of X G z_range,
    n_str := PySem.W.mg_none_of X G z_str,
    n_tuple := PySem.W.mg_none_of X G z_tuple }
  exact ⟨T.fd_law, fun s v => .of_eq rfl, fun base _ _ => ok_law T⟩
end My
open PySem PySem.W PyProof.Rows in
set_option maxRecDepth 100000 in
set_option maxHeartbeats 0 in
theorem PySem.Challenge.cw_weblocks_k28_shortest_ring_holds : PySem.Challenge.rw_weblocks_k28_shortest_ring.Holds := by
  w_on; o_law; k_head; (case hw => w_witness2)
  k_fill
  refine L2.walk_of (l := PySem.Challenge.rw_weblocks_k28_shortest_ring) (n := 63) (k := 12) (x := "_law_script") (CX := fun _ => L2.CX0) (sp := fun w => My.spLaw _) rfl (by decide) rfl ⟨rfl, by decide, by decide⟩ (fun w h Y => PySem.W.kIn_of Y) ?F (fun _ _ a ns hl _ hS => ⟨a, ns, rfl, hS, hl, fun _ => rfl⟩) (fun _ _ _ _ _ h => h)
  case F =>
    intro w mg fa h KX G hmg
    refine' My.all_mk KX G hmg ?a_distances ?l_distances ?c_distances ?k_distances ?a_ring_from ?l_ring_from ?c_ring_from ?k_ring_from ?a_shortest_ring ?l_shortest_ring ?c_shortest_ring ?k_shortest_ring ?a__law_draws ?l__law_draws ?c__law_draws ?k__law_draws ?a__law_take ?l__law_take ?c__law_take ?k__law_take ?a__law_same ?l__law_same ?c__law_same ?k__law_same ?a__law_nodes ?l__law_nodes ?c__law_nodes ?k__law_nodes ?a__law_order ?l__law_order ?c__law_order ?k__law_order ?a__law_graph ?l__law_graph ?c__law_graph ?k__law_graph ?a__law_longer ?l__law_longer ?c__law_longer ?k__law_longer ?a__law_least_ring ?l__law_least_ring ?c__law_least_ring ?k__law_least_ring ?a_law ?l_law ?c_law ?k_law ?z_any ?z_bool ?z_int ?z_isinstance ?z_len ?z_list ?z_min ?z_range ?z_str ?z_tuple
    (case a_distances => k_is)
    (case l_distances => k_is)
    (case c_distances => k_is)
    (case k_distances => k_is)
    (case a_ring_from => k_is)
    (case l_ring_from => k_is)
    (case c_ring_from => k_is)
    (case k_ring_from => k_is)
    (case a_shortest_ring => k_is)
    (case l_shortest_ring => k_is)
    (case c_shortest_ring => k_is)
    (case k_shortest_ring => k_is)
    (case a__law_draws => k_is)
    (case l__law_draws => k_is)
    (case c__law_draws => k_is)
    (case k__law_draws => k_is)
    (case a__law_take => k_is)
    (case l__law_take => k_is)
    (case c__law_take => k_is)
    (case k__law_take => k_is)
    (case a__law_same => k_is)
    (case l__law_same => k_is)
    (case c__law_same => k_is)
    (case k__law_same => k_is)
    (case a__law_nodes => k_is)
    (case l__law_nodes => k_is)
    (case c__law_nodes => k_is)
    (case k__law_nodes => k_is)
    (case a__law_order => k_is)
    (case l__law_order => k_is)
    (case c__law_order => k_is)
    (case k__law_order => k_is)
    (case a__law_graph => k_is)
    (case l__law_graph => k_is)
    (case c__law_graph => k_is)
    (case k__law_graph => k_is)
    (case a__law_longer => k_is)
    (case l__law_longer => k_is)
    (case c__law_longer => k_is)
    (case k__law_longer => k_is)
    (case a__law_least_ring => k_is)
    (case l__law_least_ring => k_is)
    (case c__law_least_ring => k_is)
    (case k__law_least_ring => k_is)
    (case a_law => k_is)
    (case l_law => k_is)
    (case c_law => k_is)
    (case k_law => k_is)
    (case z_any => k_is)
    (case z_bool => k_is)
    (case z_int => k_is)
    (case z_isinstance => k_is)
    (case z_len => k_is)
    (case z_list => k_is)
    (case z_min => k_is)
    (case z_range => k_is)
    (case z_str => k_is)
    (case z_tuple => k_is)
#print axioms PySem.Challenge.cw_weblocks_k28_shortest_ring_holds
