import PyProof.Rows.All
import Wide.All
import OpenK.AllK
import Wide.FinOn
import HandS.ForMost
import KE.GoesMore
import HandS.Codes
import HandS.IsInst
import PySem.Challenge.RW_weblocks_k01_greatest_level
set_option Elab.async false
set_option linter.all false
set_option maxRecDepth 100000
set_option maxHeartbeats 4000000
local macro_rules | `(tactic| walk_at "sd") => `(tactic| first | assumption | omega | decide | rfl | (refine And.intro ?_ ?_ <;> walk_at "sd") | (show _ < PySem.sizeLine; exact Nat.lt_of_le_of_lt (by omega : _ ≤ 100000) (by decide)) | (show _ ≤ PySem.sizeLine; exact Nat.le_trans (by omega : _ ≤ 100000) (by decide)))
local macro_rules | `(tactic| walk_at "hl") => `(tactic| first | assumption | exact L2.upd_same | (refine (L2.upd_ne ?_).trans ?_; (walk_at "ne"); (walk_at "hl")))
local macro_rules | `(tactic| walk_at "ne") => `(tactic| first | assumption | (apply Ne.symm; assumption) | (refine L2.ne_of_none ?_ (by assumption); walk_at "hl") | (apply Ne.symm; refine L2.ne_of_none ?_ (by assumption); walk_at "hl") | (refine L2.ne_of (o := L2.HO.lst _) (u := L2.HO.tup _) ?_ ?_ (by intro z; cases z) <;> walk_at "hl"))
local macro_rules | `(tactic| walk_at "sq") => `(tactic| first | assumption | exact .inl (.inl (by walk_at "hl")) | exact .inl (.inl (.inl (by walk_at "hl"))) | exact .inr (.inl (.inl (by walk_at "hl"))) | exact .inl (by assumption) | exact .inr (by assumption))
local macro_rules | `(tactic| walk_at "at") => `(tactic| first | assumption | exact rfl | exact L2.atI_nat (j := 0) rfl | exact L2.atI_nat (j := 1) rfl | exact L2.atI_nat (j := 2) rfl | exact L2.atI_nat (j := 3) rfl | exact L2.atI_nat rfl | exact L2.atI_nat (by assumption))
local macro_rules | `(tactic| walk_at "r1") => `(tactic| first
  | (refine ⟨_, rfl, ?_⟩)
  | (refine ⟨_, _, rfl, rfl, ?_⟩)
  | (refine ⟨_, _, _, _, rfl, rfl, (by walk_at "sq"), (by walk_at "at"), ?_⟩)
  | (refine ⟨_, _, rfl, (by walk_at "sq"), ?_⟩)
  | (refine ⟨.inl ⟨rfl, _, L2.SqL.of (by walk_at "hl")⟩, ?_⟩)
  | (refine ⟨_, _, _, rfl, rfl, (by walk_at "hl"), (by walk_at "sd"), ?_⟩)
  | (refine ⟨_, _, _, _, rfl, rfl, (by walk_at "hl"), rfl, ?_⟩)
  | (refine And.intro (by walk_at "sd") ?_)
  | (refine .inl ⟨_, rfl, ?_⟩))
local macro_rules | `(tactic| walk_at "rd") => `(tactic| repeat walk_at "r1")
/-! ### enumerate over a tuple -/
namespace PySem
open AutoSeq1 (wpAny_loadPart')
set_option maxHeartbeats 1000000 in
theorem meets_enumerate_newT (l : Addr) (items : Array Value) :
    Meets (Builtin.«enumerate.__new__» ⟨[.type "enumerate", .ref l], []⟩) (fun _ R s => s.heap.IsTuple l items ∧
      R (.ok (.ret (.ref (s.heap.push { cls := .type "tuple_iterator", data := .fields #[.ref l, .int 0 0] }).objs.size)))
        { s with heap := (s.heap.push { cls := .type "tuple_iterator", data := .fields #[.ref l, .int 0 0] }).push { cls := .type "enumerate", data := .fields #[.none, .bool false, .ref s.heap.objs.size, rawInt 0, .none, .none] } }) :=
  .of_wp fun prog w A R s h => by
    obtain ⟨hp, g, d, tk, os⟩ := s; obtain ⟨hL, h⟩ := h
    have hsub := sub_enumerate
    wp_walk using wpAny_pyIter_tuple hL
    refine wpAny_stack_any fun st => wpAny_pure ?_
    split
    · rename_i c _ _ _ _ _
      cases (c == Value.type "enumerate")
      · wp_walk using wpAny_pyIter_tuple hL
        exact ⟨_, rfl, h⟩
      · wp_walk using wpAny_pyIter_tuple hL
        exact ⟨_, rfl, h⟩
    · wp_walk using wpAny_pyIter_tuple hL
      exact ⟨_, rfl, h⟩
section
variable {prog : Program} {w : World} {A : Around} {E : Value → Shared → Prop} {s : Shared}
theorem call_enumerate_tup {l : Addr} {items : Array Value} {Q : Value → Shared → Prop} (hL : s.heap.IsTuple l items)
    (h : ∀ h', IsEnum h' (s.heap.objs.size + 1) s.heap.objs.size 0 .none → h'.IsTupleIter s.heap.objs.size l 0 → h'.objs.size = s.heap.objs.size + 2 →
      (∀ b o, s.heap.get? b = some o → h'.get? b = some o) → Q (.ref (s.heap.objs.size + 1)) { s with heap := h' }) :
    wpAny (model prog w) A (call (.type "enumerate") [.ref l]) Q E s := by
  refine callType_new F.called_enumerate (by decide) (F.typeCall_enumerate_1 _) (F.newCall_enumerate_1 _) (fun obj => F.args_object_init_2 obj _) F.entry_enumerate_new
    (meets_enumerate_newT l items) ⟨hL, ?_⟩
  have hz : (s.heap.push { cls := .type "tuple_iterator", data := .fields #[.ref l, .int 0 0] }).objs.size = s.heap.objs.size + 1 := Heap.size_push ..
  show _ ∧ _
  rw [hz]
  have he : IsEnum ((s.heap.push { cls := .type "tuple_iterator", data := .fields #[.ref l, .int 0 0] }).push
      { cls := .type "enumerate", data := .fields #[.none, .bool false, .ref s.heap.objs.size, rawInt 0, .none, .none] }) (s.heap.objs.size + 1) s.heap.objs.size 0 .none := by
    have := Heap.get?_push_size (s.heap.push { cls := .type "tuple_iterator", data := .fields #[.ref l, .int 0 0] })
      (o := { cls := .type "enumerate", data := .fields #[.none, .bool false, .ref s.heap.objs.size, rawInt 0, .none, .none] }) rfl
    rw [hz] at this; exact this
  refine ⟨⟨_, he, rfl⟩, h _ he ⟨_, Heap.get?_push_of_some _ (Heap.get?_push_size _ rfl), rfl, rfl⟩ (by rw [Heap.size_push, hz]) fun b o x => Heap.get?_push_of_some _ (Heap.get?_push_of_some _ x)⟩
/-- next of an enumerate whose tuple is at its end -/
theorem wpAny_pyNext_enum_endU {e it l : Addr} {i : Nat} {items : Array Value} {old : Value} {Q : Option Value → Shared → Prop} (hh : A.handled = none) (he : IsEnum s.heap e it i old)
    (hit : s.heap.IsTupleIter it l i) (hl : s.heap.IsTuple l items) (hx : items[i]? = none) (hQ : ∀ h', Heap.ExtBut it s.heap h' → Q none { s with heap := h' }) : wpAny (model prog w) A (pyNext (.ref e)) Q E s := by
  have hT : s.TypeIs (.ref e) "enumerate" := ⟨_, he, rfl⟩
  unfold pyNext
  refine wpAny_bind (wpAny_attempt (wpAny_callSpecial?_slot (name := Str.ofString "__next__") hT F.slot_enumerate_next (wpAny_call_entry F.slot_enumerate_next hT F.entry_enumerate_next ?_ (F.args_enumerate_next_1 _))))
  show wpAny _ _ (field (.ref e) 2 >>= _) _ _ _
  refine wpAny_bind (wpAny_field he rfl (x := .ref it) rfl (wpAny_bind (wpAny_nextOf_tuple_end hh hit hl hx fun h' x he' ⟨o, ho, hc⟩ => ?_)))
  exact wpAny_bind (wpAny_isInstance (T := "StopIteration") (b := true) ⟨o, ho, hc⟩ isSubtype_stop (wpAny_pure (hQ _ he')))
end
end PySem
namespace L2
open PySem PySem.Spec PyProof.Rows
/-- the tuple at a, each item in a new pair -/
def ItuE (K : PySem.W.Frag) (a : Addr) : It :=
  ⟨fun i H => ∃ (xs : List V) (x : V), SqT K H a xs ∧ xs[i]? = some x, fun i H v H' => ∃ T x, v = .ref T ∧ H T = none ∧ H' = upd H T (.tup [.int (i : Nat), x]) ∧ ∀ xs, SqT K H a xs → xs[i]? = some x, fun i H => ∃ xs : List V, SqT K H a xs ∧ xs.length ≤ i⟩
theorem turn_enumT {P : Program} {w : World} {K : PySem.W.Frag} {elts : List Expr} {kk : Nat} {tpos : Pos} (a e it : Addr) :
    Turn P w K (.Tuple elts kk tpos) (ItuE K a) [e, it] e (fun i h => (∃ old, IsEnum h e it ((i : Nat) : Int) old) ∧ h.IsTupleIter it a i ∧ e ≠ it ∧ a ≠ it ∧ a ≠ e) where
  mem := by simp
  obj := fun i h st b hb => by
    obtain ⟨⟨old, he⟩, ⟨o, ho, hc, hd⟩, _⟩ := st
    have e' : b = e ∨ b = it := by simpa using hb
    rcases e' with z | z
    · rw [z]; exact ⟨_, he, fun v q => nomatch q⟩
    · rw [z]; exact ⟨o, ho, fun v q => by rw [hd] at q; cases q⟩
  keep := fun i h h' st k => let ⟨⟨old, he⟩, hi, hne⟩ := st; ⟨⟨old, k e (by simp) _ he⟩, hi.at fun o q => k it (by simp) o q, hne⟩
  item := by
    intro X hP hw hK hc i pins s σ H E I hf st hg
    subst hP hw hK
    obtain ⟨⟨old, he⟩, hit, hne, hai, hae⟩ := st
    obtain ⟨xs, x, hq, hx⟩ := hg
    obtain ⟨its, rv, p, hz⟩ := I.tuple hq
    obtain ⟨u, hu, ru⟩ := rv.get hx
    have hel : e < s.heap.objs.size := Heap.lt_size he
    have hil : it < s.heap.objs.size := by obtain ⟨_, q, _⟩ := hit; exact Heap.lt_size q
    have hlen : i < its.toArray.size := by
      have := (List.getElem?_eq_some_iff.mp hu).1
      simpa using this
    have hT0 : s.heap.IsTuple a its.toArray := p
    refine wpAny_pyNext_enum_itemD (Draws.tuple (prog := X.prog) (w := X.w) (A := X.A.in1) (show X.A.in1.handled = none from I.ok.hd hc) it a hai its.toArray) he ⟨hit, hT0⟩ hlen hne (by simp [hne, Ne.symm hae]) fun y h' tk hy ho hst' hT hsz hk => ?_
    have ey : y = u := by
      have q : its[i]? = some y := by simpa using hy
      exact Option.some.inj (q.symm.trans hu)
    subst ey
    obtain ⟨hit', _⟩ := hst'
    refine ⟨_, rfl, wpAny_letOwnedTupleGo_enum (s := { s with heap := h', toks := tk + 1 }) ho fun h'' he' sb => ?_⟩
    have hT2 : h''.get? s.heap.objs.size = some { cls := .type "tuple", data := .seq #[.int i tk, y] } := (sb.2 _ (Nat.ne_of_gt hel)).trans hT
    have new : ObjOk X.prog X.w (upd H s.heap.objs.size (.tup [.int (i : Nat), x])) h'' s.heap.objs.size (.tup [.int (i : Nat), x]) :=
      ⟨by show 2 ≤ sizeLine; decide, [.int i tk, y], .cons ⟨_, rfl⟩ (.cons ru .nil), ⟨_, hT2, rfl, _, rfl⟩⟩
    have I1 : Inv X pins σ (upd H s.heap.objs.size (.tup [.int (i : Nat), x])) { s with heap := h'', toks := tk + 1 } :=
      I.turnedNew (ch := [e, it]) (fun b ob hb q => (sb.2 b (fun z => hb (by simp [z]))).trans (hk b ob (fun z => hb (by simp [z])) (fun z => hb (by simp [z])) q)) hf (Nat.le_refl _) new
    refine ⟨.ref s.heap.objs.size, _, I1, rfl, ⟨_, x, rfl, I.hok.fresh (Nat.le_refl _), rfl, fun ys hy => by rw [I.tuple_inj hy hq]; exact hx⟩, ⟨⟨y, ?_⟩, hit'.at fun o q => (sb.2 it (Ne.symm hne)).trans q, hne, hai, hae⟩, fun b hb => ?_⟩
    · have e1 : ((i + 1 : Nat) : Int) = (i : Int) + 1 := by omega
      rw [e1]; exact he'
    · have hb' : b < s.heap.objs.size := by
        have e' : b = e ∨ b = it := by simpa using hb
        rcases e' with z | z
        · rw [z]; exact hel
        · rw [z]; exact hil
      rw [upd_ne (Nat.ne_of_lt hb')]
      exact (hf b hb).1
  done := by
    intro X hP hw hK hc i pins s σ H E I hf st hg
    subst hP hw hK
    obtain ⟨⟨old, he⟩, hit, hne, hai, hae⟩ := st
    obtain ⟨xs, hq, hx⟩ := hg
    obtain ⟨its, rv, p, hz⟩ := I.tuple hq
    obtain ⟨f0, f1, f2, f3, f4, f5⟩ := hf it (by simp)
    have hl := rv.length
    have hT0 : s.heap.IsTuple a its.toArray := p
    exact wpAny_pyNext_enum_endU (I.ok.hd hc) he hit hT0 (by simp; omega) fun h' eb => ⟨rfl, I.turned (t' := s.toks) (fun b o hb q => eb b o hb q) f0 f1 f3 f4 f5⟩
  self := fun A i s Q E st h => let ⟨⟨_, he⟩, _⟩ := st; wpAny_pyIter_enum he h
def iEnumT (K : PySem.W.Frag) (ta : TA) : TI := fun σ H R => ta σ H fun vs H1 => ∃ a xs, vs = [.ref a] ∧ SqT K H1 a xs ∧ R (ItuE K a) H1
theorem pi_enumT {X : Cx} {e : Expr} {ta : TA} {p pos tpos : Pos} {elts : List Expr} {kk : Nat} (hg : Gl X "enumerate") (hm : X.mg "enumerate" = none) (ha : PA X [e] ta) (hs : starEach [e] X.env = [(false, eval e X.env)] := by rfl) :
    PI X (.Tuple elts kk tpos) (.Call (.Name "enumerate" p) [e] [] pos) (iEnumT X.K ta) := by
  refine ⟨fun pins s σ H R I h => ?_⟩
  refine Call_ (ld_blt I hg hm boot_enumerate (PyProof.Rows.callWith_type1 (thn (ha.run pos pins s σ H _ I h) fun us s1 ⟨vs, H1, I1, r1, q1⟩ => ?_) hs rfl))
  obtain ⟨a, xs, ex, hq, q⟩ := q1
  subst ex
  cases r1 with
  | cons r rr =>
    cases rr
    cases r
    obtain ⟨its, rv, p', hz⟩ := I1.tuple hq
    have hT0 : s1.heap.IsTuple a its.toArray := p'
    have hal : a < s1.heap.objs.size := by obtain ⟨_, q, _⟩ := hT0; exact Heap.lt_size q
    refine call_enumerate_tup hT0 fun h' he hit hsz hk => wpAny_pyIter_enum he ?_
    have I2 : Inv X pins σ H1 { s1 with heap := h' } := I1.kept (t' := s1.toks) hk
    refine ⟨s1.heap.objs.size + 1, [s1.heap.objs.size + 1, s1.heap.objs.size], _, _, H1, rfl, I2, turn_enumT a (s1.heap.objs.size + 1) s1.heap.objs.size, ⟨⟨.none, he⟩, hit, Nat.succ_ne_self _, Nat.ne_of_lt hal, Nat.ne_of_lt (Nat.lt_succ_of_lt hal)⟩, fun b hb => ?_, q⟩
    have e' : b = s1.heap.objs.size + 1 ∨ b = s1.heap.objs.size := by simpa using hb
    have hle : s1.heap.objs.size ≤ b := by
      rcases e' with z | z
      · rw [z]; exact Nat.le_add_right _ _
      · rw [z]; exact Nat.le_refl _
    exact I1.fpOk hle (I1.hok.fresh hle)
end L2
namespace L2
open PySem PySem.Spec PyProof.Rows
theorem for_enumT {K : PySem.W.Frag} {a : Addr} {xs : List V} {g : TG} {tb : TS} {D : Ends} {σ : St} {H : Hp} (Pv : Nat → St → Hp → Prop) (h0 : Pv 0 σ H) (hl : ∀ i σ H, i ≤ xs.length → Pv i σ H → SqT K H a xs)
    (hs : ∀ i x σ H T, xs[i]? = some x → Pv i σ H → H T = none → g (.ref T) σ (upd H T (.tup [.int (i : Nat), x])) fun σ2 H2 => tb { D with nx := Pv (i + 1), ct := Pv (i + 1), bk := D.nx } σ2 H2)
    (hd : ∀ σ H, Pv xs.length σ H → D.nx σ H) :
    ∃ W : Nat → Nat → St → Hp → Prop, (∃ m, W 0 m σ H) ∧ ∀ i m σ H, W i m σ H →
      ((ItuE K a).stop i H ∧ D.nx σ H) ∨ ((ItuE K a).go i H ∧ ∃ N : St → Hp → Prop, (∀ σ' H', N σ' H' → ∃ m', m' < m ∧ W (i + 1) m' σ' H') ∧ ∀ x H', (ItuE K a).yld i H x H' → g x σ H' fun σ2 H2 => tb { D with nx := N, ct := N, bk := D.nx } σ2 H2) := by
  refine ⟨fun i m σ H => m = xs.length - i ∧ i ≤ xs.length ∧ Pv i σ H, ⟨xs.length, by simp, Nat.zero_le _, h0⟩, fun i m σ H hW => ?_⟩
  obtain ⟨em, hi, p⟩ := hW
  have q := hl i σ H hi p
  by_cases hlt : i < xs.length
  · refine .inr ⟨⟨xs, xs[i], q, List.getElem?_eq_getElem hlt⟩, Pv (i + 1), fun σ' H' p' => ⟨xs.length - (i + 1), by omega, rfl, hlt, p'⟩, fun x H' y => ?_⟩
    obtain ⟨T, x', ev, nT, eH, hx⟩ := y
    subst ev eH
    exact hs i x' σ H T (hx xs q) p nT
  · have ei : i = xs.length := by omega
    subst ei
    exact .inl ⟨⟨xs, q, Nat.le_refl _⟩, hd σ H p⟩
end L2

namespace My
open PySem L2
def topS (i : Nat) : Stmt := PySem.Challenge.pw_weblocks_k01_greatest_level.main.body.getD i (.Pass ⟨0, 0, 0, 0⟩)
abbrev S_rank : Stmt := topS 5
abbrev S_needed : Stmt := topS 6
abbrev S_greatest : Stmt := topS 7
abbrev S__law_draws : Stmt := topS 9
abbrev S__law_take : Stmt := topS 10
abbrev S__law_asks : Stmt := topS 11
abbrev S__law_place : Stmt := topS 12
abbrev S_law : Stmt := topS 13
theorem sc_rank : FnScope ["level", "place", "word"] ["level"] (defScope S_rank) := ⟨rfl, rfl, rfl, by decide +kernel, rfl, by decide +kernel, by decide +kernel⟩
theorem sc_needed : FnScope ["level", "parents", "place"] ["level", "parents"] (defScope S_needed) := ⟨rfl, rfl, rfl, by decide +kernel, rfl, by decide +kernel, by decide +kernel⟩
theorem sc_greatest : FnScope ["amount", "parents", "found", "level"] ["amount", "parents"] (defScope S_greatest) := ⟨rfl, rfl, rfl, by decide +kernel, rfl, by decide +kernel, by decide +kernel⟩
theorem sc__law_draws : FnScope ["_law_script", "_law_draws_here", "_law_cell", "_law_rest", "_law_k", "_law_mixed"] ["_law_script"] (defScope S__law_draws) := ⟨rfl, rfl, rfl, by decide +kernel, rfl, by decide +kernel, by decide +kernel⟩
theorem sc__law_take : FnScope ["_law_draws_here", "_law_at", "_law_size"] ["_law_draws_here", "_law_at", "_law_size"] (defScope S__law_take) := ⟨rfl, rfl, rfl, by decide +kernel, rfl, by decide +kernel, by decide +kernel⟩
theorem sc__law_asks : FnScope ["_law_place_here", "_law_parents"] ["_law_place_here", "_law_parents"] (defScope S__law_asks) := ⟨rfl, rfl, rfl, by decide +kernel, rfl, by decide +kernel, by decide +kernel⟩
theorem sc__law_place : FnScope ["_law_word", "_law_words", "_law_k"] ["_law_word"] (defScope S__law_place) := ⟨rfl, rfl, rfl, by decide +kernel, rfl, by decide +kernel, by decide +kernel⟩
theorem sc_law : FnScope ["_law_script", "_law_draws_here", "_law_at", "_law_turn", "_law_parents", "_law_drawn", "_law_near", "_law_amount", "_law_told", "_law_place_here", "_law_k"] ["_law_script"] (defScope S_law) := ⟨rfl, rfl, rfl, by decide +kernel, rfl, by decide +kernel, by decide +kernel⟩
structure Txt (K : PySem.W.Frag) (mg : Str → Option Value) where
  a_rank : Addr
  fd_rank : FuncData
  F_rank : Fun K "rank" "rank" S_rank a_rank fd_rank
  b_rank : Binds K fd_rank ["level"] []
  g_rank : mg "rank" = some (.ref a_rank)
  a_needed : Addr
  fd_needed : FuncData
  F_needed : Fun K "needed" "needed" S_needed a_needed fd_needed
  b_needed : Binds K fd_needed ["level", "parents"] []
  g_needed : mg "needed" = some (.ref a_needed)
  a_greatest : Addr
  fd_greatest : FuncData
  F_greatest : Fun K "greatest" "greatest" S_greatest a_greatest fd_greatest
  b_greatest : Binds K fd_greatest ["amount", "parents"] []
  g_greatest : mg "greatest" = some (.ref a_greatest)
  a__law_draws : Addr
  fd__law_draws : FuncData
  F__law_draws : Fun K "_law_draws" "_law_draws" S__law_draws a__law_draws fd__law_draws
  b__law_draws : Binds K fd__law_draws ["_law_script"] []
  g__law_draws : mg "_law_draws" = some (.ref a__law_draws)
  a__law_take : Addr
  fd__law_take : FuncData
  F__law_take : Fun K "_law_take" "_law_take" S__law_take a__law_take fd__law_take
  b__law_take : Binds K fd__law_take ["_law_draws_here", "_law_at", "_law_size"] []
  g__law_take : mg "_law_take" = some (.ref a__law_take)
  a__law_asks : Addr
  fd__law_asks : FuncData
  F__law_asks : Fun K "_law_asks" "_law_asks" S__law_asks a__law_asks fd__law_asks
  b__law_asks : Binds K fd__law_asks ["_law_place_here", "_law_parents"] []
  g__law_asks : mg "_law_asks" = some (.ref a__law_asks)
  a__law_place : Addr
  fd__law_place : FuncData
  F__law_place : Fun K "_law_place" "_law_place" S__law_place a__law_place fd__law_place
  b__law_place : Binds K fd__law_place ["_law_word"] []
  g__law_place : mg "_law_place" = some (.ref a__law_place)
  a_law : Addr
  fd_law : FuncData
  F_law : Fun K "law" "law" S_law a_law fd_law
  b_law : Binds K fd_law ["_law_script"] []
  g_law : mg "law" = some (.ref a_law)
  n_enumerate : mg "enumerate" = none
  n_int : mg "int" = none
  n_isinstance : mg "isinstance" = none
  n_len : mg "len" = none
  n_max : mg "max" = none
  n_range : mg "range" = none
  n_str : mg "str" = none
  k_LEVELS : Addr
  g_LEVELS : mg "LEVELS" = some (.ref k_LEVELS)
  q_LEVELS : ∀ H : Hp, SqT K H k_LEVELS [.str "none", .str "one", .str "most", .str "all"]
end My
namespace My
open PySem L2
/-! ### heaps: all but a as it was -/
def But (a : Addr) (H H' : Hp) : Prop := ∀ b o, b ≠ a → H b = some o → H' b = some o
theorem But.refl (a : Addr) (H : Hp) : But a H H := fun _ _ _ h => h
theorem But.trans {a : Addr} {H H1 H2 : Hp} (x : But a H H1) (y : But a H1 H2) : But a H H2 := fun b o n h => y b o n (x b o n h)
theorem But.of_same {a : Addr} {H H' : Hp} (s : Same H H') : But a H H' := fun b o _ h => s b o h
theorem But.upd {a : Addr} {H : Hp} {o : HO} : But a H (upd H a o) := fun b u n h => by rw [upd_ne n]; exact h
theorem same_new {H : Hp} {p : Addr} {o : HO} (h : H p = none) : Same H (upd H p o) := fun b x e => by
  rw [upd_ne (ne_of_none e h)]; exact e
theorem But.new {a p : Addr} {H : Hp} {o : HO} (h : H p = none) : But a H (L2.upd H p o) := But.of_same (same_new h)
/-- an object that H does not know may change -/
theorem same_mut {H H' : Hp} {p : Addr} {o : HO} (e : Same H H') (h : H p = none) : Same H (upd H' p o) := fun a u ha => by
  rw [upd_ne (ne_of_none ha h)]; exact e a u ha
theorem But.mut {a p : Addr} {H H' : Hp} {o : HO} (e : But a H H') (h : H p = none) : But a H (L2.upd H' p o) := fun b u n hb => by
  rw [upd_ne (ne_of_none hb h)]; exact e b u n hb
theorem But.free {a p : Addr} {H H' : Hp} (e : But a H H') (n : p ≠ a) (h : H' p = none) : H p = none := by
  cases q : H p with
  | none => rfl
  | some o => rw [e p o n q] at h; cases h
theorem But.sqL {K : PySem.W.Frag} {a d : Addr} {H H' : Hp} {xs : List V} (e : But a H H') (n : d ≠ a) (h : SqL K H d xs) : SqL K H' d xs := by
  rcases h with (h | ⟨o, h⟩) | h
  · exact .inl (.inl (e _ _ n h))
  · exact .inl (.inr ⟨o, e _ _ n h⟩)
  · exact .inr h
theorem But.sqT {K : PySem.W.Frag} {a d : Addr} {H H' : Hp} {xs : List V} (e : But a H H') (n : d ≠ a) (h : SqT K H d xs) : SqT K H' d xs := by
  rcases h with (h | ⟨o, h⟩) | h
  · exact .inl (.inl (e _ _ n h))
  · exact .inl (.inr ⟨o, e _ _ n h⟩)
  · exact .inr h
theorem same_sqT {K : PySem.W.Frag} {d : Addr} {H H' : Hp} {xs : List V} (e : Same H H') (h : SqT K H d xs) : SqT K H' d xs := by
  rcases h with (h | ⟨o, h⟩) | h
  · exact .inl (.inl (e _ _ h))
  · exact .inl (.inr ⟨o, e _ _ h⟩)
  · exact .inr h
/-! ### tests -/
theorem iteD {c A B : Prop} [Decidable c] (h1 : c → A) (h2 : ¬ c → B) : if decide c = true then A else B := by
  by_cases h : c
  · rw [decide_eq_true h]; exact iteT (h1 h)
  · rw [decide_eq_false h]; exact iteF (h2 h)
theorem iteN {c A B : Prop} [Decidable c] (h1 : ¬ c → A) (h2 : c → B) : if (!decide c) = true then A else B := by
  by_cases h : c
  · rw [decide_eq_true h]; exact iteF (h2 h)
  · rw [decide_eq_false h]; exact iteT (h1 h)
theorem iteB {b : Bool} {A B : Prop} (h1 : b = true → A) (h2 : b = false → B) : if b = true then A else B := by
  cases b with
  | true => exact iteT (h1 rfl)
  | false => exact iteF (h2 rfl)
theorem iteYes {b : Bool} {A B : Prop} (h : b = true) (h1 : A) : if b = true then A else B := by rw [h]; exact iteT h1
theorem iteNo {b : Bool} {A B : Prop} (h : b = false) (h1 : B) : if b = true then A else B := by rw [h]; exact iteF h1
/-! ### lists -/
theorem ints_app (zs : List Int) (z : Int) : (zs.map V.int) ++ [V.int z] = (zs ++ [z]).map V.int := by rw [List.map_append]; rfl
theorem at_ok {xs : List V} {i : Int} (h0 : 0 ≤ i) (h1 : i < xs.length) : ∃ v, atI xs i = some v ∧ v ∈ xs := by
  obtain ⟨j, rfl⟩ := Int.eq_ofNat_of_zero_le h0
  have hj : j < xs.length := by omega
  exact ⟨xs[j], atI_nat (List.getElem?_eq_getElem hj), List.getElem_mem hj⟩
theorem get_int {ns : List Int} {i : Nat} {y : V} (h : (ns.map V.int)[i]? = some y) : ∃ z, ns[i]? = some z ∧ y = .int z := by
  rw [List.getElem?_map] at h
  cases e : ns[i]? with
  | none => rw [e] at h; cases h
  | some z => rw [e] at h; exact ⟨z, rfl, (Option.some.inj h).symm⟩
end My

namespace My
open PySem L2
/-- the draws at d, the place at a -/
structure Dr (K : PySem.W.Frag) (H : Hp) (d a : Addr) : Prop where
  ds : ∃ ns : List Int, SqL K H d (ns.map V.int)
  pl : ∃ k : Nat, H a = some (.lst [.int k])
  ne : d ≠ a
theorem Dr.but {K : PySem.W.Frag} {H H' : Hp} {d a : Addr} (x : Dr K H d a) (e : But a H H') (pl : ∃ k : Nat, H' a = some (.lst [.int k])) : Dr K H' d a :=
  ⟨x.ds.elim fun ns h => ⟨ns, e.sqL x.ne h⟩, pl, x.ne⟩
theorem Dr.same {K : PySem.W.Frag} {H H' : Hp} {d a : Addr} (x : Dr K H d a) (e : Same H H') : Dr K H' d a :=
  x.but (But.of_same e) (x.pl.elim fun k h => ⟨k, e _ _ h⟩)
def spTake (K : PySem.W.Frag) : Sp := fun vs H Q _ => ∃ (d a : Addr) (size : Int), vs = [.ref d, .ref a, .int size] ∧ Dr K H d a ∧ 0 < size ∧
  ∀ (r : Int) (H' : Hp), 0 ≤ r → r < size → Dr K H' d a → But a H H' → Q (.int r) H'
section
variable {P : Program} {w : World} {K : PySem.W.Frag} {mg : Str → Option Value} {base : Heap}
theorem ok__law_take (T : Txt K mg) : FnOk P w K mg base CX0 1 T.a__law_take T.fd__law_take ["_law_draws_here", "_law_at", "_law_size"] (spTake K) := by
  refine T.F__law_take.ok sc__law_take (fun vs H Q E h => ?_) (fun cdv A outer s H vs Q E hr h => ?_)
  · obtain ⟨d, a, size, rfl, _⟩ := h; rfl
  · obtain ⟨d, a, size, rfl, D, hs, q⟩ := h
    obtain ⟨ns, hd⟩ := D.ds
    obtain ⟨k, hk⟩ := D.pl
    have hb : But a H (upd H a (.lst [.int (k + 1 : Nat)])) := But.upd
    have D' : Dr K (upd H a (.lst [.int (k + 1 : Nat)])) d a := D.but hb ⟨_, upd_same⟩
    have hd' := hb.sqL D.ne hd
    refine ⟨_, (pss_cons (ps_asg (pe_op op_add (pe_ix ix_list (pv 1) (pe_int) (fun _ _ => rfl)) (pe_int)) (pg_sub (pv 1) (pe_int) set_list))
      (pss_cons (ps_if (pt_cmpR op_gt (pe_ix ix_list (pv 1) (pe_int) (fun _ _ => rfl)) (pe_callB call_len_seq (by rfl) T.n_len (by decide +kernel) (pa_cons (pv 0) pa_nil)) (nomark _)) (pss_one (ps_ret (pe_int))) pss_nil)
      (pss_one (ps_ret (pe_op op_mod (pe_callTy call_int1 (by rfl) T.n_int (by decide +kernel) (pa_cons (pe_ix ix_list (pv 0) (pe_op op_sub (pe_ix ix_list (pv 1) (pe_int) (fun _ _ => rfl)) (pe_int)) (fun _ _ => rfl)) pa_nil)) (pv 2)))))), ?_⟩
    walk_at "rd"

    refine iteD (fun c => ?_) (fun c => ?_)
    · exact q 0 _ (Int.le_refl _) hs D' hb
    · rw [List.length_map] at c
      have hl : k < ns.length := by omega
      refine ⟨_, rfl, _, rfl, _, _, _, _, rfl, rfl, SqL.of upd_same, atI_nat (j := 0) rfl, _, _, rfl, rfl, _, _, _, _, rfl, rfl, hd', at_of (j := k) (by omega) (by rw [List.getElem?_map, List.getElem?_eq_getElem hl]; rfl), ?_⟩
      walk_at "rd"
      exact q _ _ (Int.emod_nonneg _ (by omega)) (Int.emod_lt_of_pos _ hs) D' hb
end
end My

namespace My
open PySem L2
def spDraws (K : PySem.W.Frag) : Sp := fun vs H Q _ => ∃ (a : Addr) (ns : List Int), vs = [.ref a] ∧ SqL K H a (ns.map V.int) ∧ ns.length ≤ 63 ∧
  ∀ (p : Addr) (zs : List Int) (H' : Hp), Same H H' → H p = none → H' p = some (.lst (zs.map V.int)) → Q (.ref p) H'
section
variable {P : Program} {w : World} {K : PySem.W.Frag} {mg : Str → Option Value} {base : Heap}
theorem ok__law_draws (T : Txt K mg) : FnOk P w K mg base CX0 1 T.a__law_draws T.fd__law_draws ["_law_script"] (spDraws K) := by
  refine T.F__law_draws.ok sc__law_draws (fun vs H Q E h => ?_) (fun cdv A outer s H vs Q E hr h => ?_)
  · obtain ⟨a, ns, rfl, _⟩ := h; rfl
  · obtain ⟨a, ns, rfl, hS, hlen, q⟩ := h
    refine ⟨_, (pss_cons (ps_set (i := 1) sc__law_draws.nd rfl (.inl rfl) (pe_lst pa_nil))
      (pss_cons (ps_for PassesOwn.never rfl (pi_list (pv 0)) (pg_name (i := 2) sc__law_draws.nd rfl (.inl rfl)) (pss_one (ps_if (pt_cmpR op_ge (pv 2) (pe_op op_pow (pe_int) (pe_int)) (nomark _)) (pss_cons (ps_set (i := 3) sc__law_draws.nd rfl (.inl rfl) (pe_callTy call_int1 (by rfl) T.n_int (by decide +kernel) (pa_cons (pv 2) pa_nil)))
      (pss_one (ps_for PassesOwn.never rfl (pi_range1 (by rfl) T.n_range (pa_cons (pe_int) pa_nil)) (pg_name (i := 4) sc__law_draws.nd rfl (.inl rfl)) (pss_one (ps_if (pt_cmpR op_gt (pv 3) (pe_int) (nomark _)) (pss_cons (ps_expr (pe_bm PySem.F.plainAttrs_list PySem.F.slot_list_append PySem.F.type_list_append mt_append (pv 1) (pa_cons (pe_op op_mod (pe_callTy call_int1 (by rfl) T.n_int (by decide +kernel) (pa_cons (pv 3) pa_nil)) (pe_int)) pa_nil)))
      (pss_one (ps_set (i := 3) sc__law_draws.nd rfl (.inl rfl) (pe_op op_fdiv (pv 3) (pe_int))))) pss_nil))))) (pss_cons (ps_set (i := 5) sc__law_draws.nd rfl (.inl rfl) (pe_op op_mod (pe_callTy call_int1 (by rfl) T.n_int (by decide +kernel) (pa_cons (pe_op op_add (pe_op op_mul (pv 2) (pe_int)) (pe_int)) pa_nil)) (pe_int)))
      (pss_cons (ps_expr (pe_bm PySem.F.plainAttrs_list PySem.F.slot_list_append PySem.F.type_list_append mt_append (pv 1) (pa_cons (pv 5) pa_nil)))
      (pss_one (ps_expr (pe_bm PySem.F.plainAttrs_list PySem.F.slot_list_append PySem.F.type_list_append mt_append (pv 1) (pa_cons (pe_op op_mod (pe_callTy call_int1 (by rfl) T.n_int (by decide +kernel) (pa_cons (pe_op op_add (pe_op op_add (pe_op op_mul (pv 5) (pv 5)) (pe_op op_mul (pe_int) (pv 5))) (pe_op op_mul (pe_int) (pe_callB call_len_seq (by rfl) T.n_len (by decide +kernel) (pa_cons (pv 1) pa_nil)))) pa_nil)) (pe_int)) pa_nil)))))))))
      (pss_one (ps_ret (pv 1))))), ?_⟩
    refine ⟨Nat.zero_le _, fun p hp => ?_⟩
    have s0 : Same H (upd H p (.lst [])) := same_new hp
    refine ⟨_, rfl, a, rfl, ⟨_, s0.seq hS⟩, for_list (K := K) (a := a) (xs := ns.map V.int) (fun i σ H' => ∃ (zs : List Int) (x2 x3 x4 x5 : Option V), σ = [some (.ref a), some (.ref p), x2, x3, x4, x5] ∧ Same H H' ∧ H' p = some (.lst (zs.map V.int)) ∧ zs.length ≤ 60 * i)
      ⟨[], _, _, _, _, rfl, s0, upd_same, Nat.zero_le _⟩ (fun i σ H' _ ⟨_, _, _, _, _, _, s1, _⟩ => s1.seq hS) ?_ ?_⟩
    · rintro i y σ H1 hi ⟨zs, x2, x3, x4, x5, rfl, s1, h1, hz⟩
      have hi63 : i < ns.length := by
        have z := (List.getElem?_eq_some_iff.mp hi).1
        rw [List.length_map] at z
        exact z
      obtain ⟨c, hc, rfl⟩ := get_int hi
      refine ⟨_, rfl, _, _, rfl, rfl, ⟨by decide, by decide, by decide⟩, ?_⟩
      walk_at "rd"
      refine iteD (fun c1 => ?_) (fun c1 => ?_)
      · refine ⟨_, rfl, .inl ⟨_, rfl, ?_⟩⟩
        refine ⟨60, rfl, by decide, by decide, for_range (lo := 0) (n := 60) (fun j σ H' => ∃ (zs : List Int) (r : Int) (x4 : Option V), σ = [some (.ref a), some (.ref p), some (.int c), some (.int r), x4, x5] ∧ Same H H' ∧ H' p = some (.lst (zs.map V.int)) ∧ zs.length ≤ 60 * i + j)
          ⟨zs, c, x4, rfl, s1, h1, hz⟩ ?_ ?_⟩
        · rintro j σ H2 hj ⟨zs, r, x4, rfl, s2, h2, hz2⟩
          walk_at "rd"
          refine iteD (fun c2 => ?_) (fun c2 => ?_)
          · refine ⟨_, rfl, .inl ⟨rfl, _, SqL.of h2⟩, _, rfl, .inl ⟨_, rfl, _, _, rfl, rfl, (by show (0 : Int) < 1000; decide), _, _, _, rfl, rfl, h2, by rw [List.length_map]; exact Nat.lt_of_le_of_lt (by omega : _ ≤ 100000) (by decide), ?_⟩⟩
            refine ⟨_, rfl, _, _, rfl, rfl, ⟨by decide, by decide⟩, ?_⟩
            exact ⟨zs ++ [r % 1000], _, _, rfl, same_mut s2 hp, by rw [upd_same, ints_app], by rw [List.length_append, List.length_singleton]; omega⟩
          · exact ⟨zs, r, _, rfl, s2, h2, by omega⟩
        · rintro σ H2 ⟨zs, r, x4, rfl, s2, h2, hz2⟩
          exact ⟨zs, _, _, _, _, rfl, s2, h2, by omega⟩
      · refine ⟨_, rfl, _, _, rfl, rfl, .inr ⟨by decide, by decide⟩, _, _, rfl, rfl, .inl ⟨_, rfl, _, _, rfl, rfl, (by show (0 : Int) < 9973; decide), ?_⟩⟩
        have hm0 : 0 ≤ (c * 48271 + 12345) % 9973 := Int.emod_nonneg _ (by decide)
        have hm1 : (c * 48271 + 12345) % 9973 < 9973 := Int.emod_lt_of_pos _ (by decide)
        refine ⟨_, rfl, .inl ⟨rfl, _, SqL.of h1⟩, _, rfl, _, _, _, rfl, rfl, h1, by rw [List.length_map]; exact Nat.lt_of_le_of_lt (by omega : _ ≤ 100000) (by decide), ?_⟩
        refine ⟨_, rfl, .inl ⟨rfl, _, SqL.of upd_same⟩, _, rfl, _, rfl, _, _, rfl, rfl, .inl ⟨by omega, by omega⟩, _, rfl, _, _, rfl, rfl, .inl ⟨by decide, by decide⟩, _, _, rfl, rfl, _, rfl, _, _, rfl, .inl (SqL.of upd_same), _, _, rfl, rfl, .inl ⟨by decide, by decide⟩, _, _, rfl, rfl, .inl ⟨_, rfl, _, _, rfl, rfl, (by show (0 : Int) < 9949; decide), ?_⟩⟩
        refine ⟨_, _, _, rfl, rfl, upd_same, by rw [List.length_append, List.length_map]; exact Nat.lt_of_le_of_lt (by simp; omega : _ ≤ 100000) (by decide), ?_⟩
        rw [ints_app, ints_app, upd_upd]
        exact ⟨_, _, _, _, _, rfl, same_mut s1 hp, upd_same, by simp; omega⟩
    · rintro σ H1 ⟨zs, x2, x3, x4, x5, rfl, s1, h1, hz⟩
      exact ⟨_, rfl, q p zs H1 s1 hp h1⟩
end
end My

namespace My
open PySem L2
/-! ### the levels -/
def lev : List Str := ["none", "one", "most", "all"]
def levV : List V := [.str "none", .str "one", .str "most", .str "all"]
theorem levV_eq : levV = lev.map V.str := rfl
theorem lev_nd : lev.Nodup := by decide +kernel
theorem lev_inj {i j : Nat} {z : Str} (h : lev[i]? = some z) (h' : lev[j]? = some z) : i = j := nd_ix lev_nd h h'
theorem lev_lt {i : Nat} {z : Str} (h : lev[i]? = some z) : i < 4 := (List.getElem?_eq_some_iff.mp h).1
/-- what level i asks of n parents -/
def need (i : Nat) (n : Int) : Int := if i = 0 then 0 else if i = 1 then 1 else if i = 2 then n / 2 + 1 else if n > 1 then n else 1
/-- the place of a word, or -1 -/
def placeOf (z : Str) : Int := if z = "none" then 0 else if z = "one" then 1 else if z = "most" then 2 else if z = "all" then 3 else -1
theorem place_lev {i : Nat} {z : Str} (h : lev[i]? = some z) : placeOf z = i := by
  have hi := lev_lt h
  rcases (by omega : i = 0 ∨ i = 1 ∨ i = 2 ∨ i = 3) with rfl | rfl | rfl | rfl
  all_goals (obtain rfl : _ = z := Option.some.inj h; decide +kernel)
theorem lev_at {i : Nat} (h : i < 4) : ∃ z, lev[i]? = some z := ⟨lev[i]'h, List.getElem?_eq_getElem h⟩
end My

namespace My
open PySem L2
/-- rank of a level -/
def spRank : Sp := fun vs H Q _ => ∃ (z : Str) (i : Nat), vs = [.str z] ∧ lev[i]? = some z ∧ ∀ H', Same H H' → Q (.int i) H'
def spNeeded : Sp := fun vs H Q _ => ∃ (z : Str) (i : Nat) (n : Int), vs = [.str z, .int n] ∧ lev[i]? = some z ∧ ∀ H', Same H H' → Q (.int (need i n)) H'
section
variable {P : Program} {w : World} {K : PySem.W.Frag} {mg : Str → Option Value} {base : Heap}
theorem ok_rank (T : Txt K mg) : FnOk P w K mg base CX0 1 T.a_rank T.fd_rank ["level"] spRank := by
  refine T.F_rank.ok sc_rank (fun vs H Q E h => ?_) (fun cdv A outer s H vs Q E hr h => ?_)
  · obtain ⟨z, i, rfl, _⟩ := h; rfl
  · obtain ⟨z, i, rfl, hi, q⟩ := h
    refine ⟨_, (pss_cons (ps_for PassesOwn.never rfl (pi_enumT (by rfl) T.n_enumerate (pa_cons (pe_glob (v := .ref T.k_LEVELS) (by rfl) T.g_LEVELS rfl) pa_nil)) (pg_tup rfl (pgs_cons (pg_name (i := 1) sc_rank.nd rfl (.inl rfl)) (pgs_cons (pg_name (i := 2) sc_rank.nd rfl (.inl rfl)) pgs_nil))) (pss_one (ps_if (pt_cmpR op_eq (pv 2) (pv 0) (nomark _)) (pss_one (ps_ret (pv 1))) pss_nil)))
      (pss_one (ps_never))), ?_⟩
    refine ⟨T.k_LEVELS, levV, rfl, T.q_LEVELS _, for_enumT (K := K) (a := T.k_LEVELS) (xs := levV) (fun j σ H' => ∃ x1 x2, σ = [some (.str z), x1, x2] ∧ Same H H' ∧ ∀ l, l < j → l ≠ i) ⟨_, _, rfl, Same.refl H, fun l h => absurd h (Nat.not_lt_zero _)⟩ (fun _ _ H' _ _ => T.q_LEVELS H') ?_ ?_⟩
    · rintro j x σ H1 t hx ⟨x1, x2, rfl, s1, ne⟩ ht
      rw [levV_eq, List.getElem?_map] at hx
      cases e : lev[j]? with
      | none => rw [e] at hx; cases hx
      | some y =>
        rw [e] at hx
        obtain rfl : V.str y = x := Option.some.inj hx
        have s2 : Same H1 (upd H1 t (.tup [.int j, .str y])) := same_new ht
        refine ⟨t, _, rfl, .inl (.inl upd_same), rfl, _, _, rfl, _, _, rfl, rfl, ?_⟩
        refine ⟨_, rfl, _, rfl, rfl, _, rfl, ?_⟩
        refine iteD (fun c => ?_) (fun c => ?_)
        · have ey : y = z := V.str.inj c
          subst ey
          obtain rfl := lev_inj e hi
          exact ⟨_, rfl, q _ (s1.trans s2)⟩
        · refine ⟨_, _, rfl, s1.trans s2, fun l hl => ?_⟩
          rcases Nat.lt_succ_iff_lt_or_eq.mp hl with h | h
          · exact ne l h
          · subst h
            exact fun h => c (by rw [← h, e] at hi; rw [Option.some.inj hi])
    · rintro σ H1 ⟨x1, x2, rfl, s1, ne⟩
      exact ne i (lev_lt hi) rfl
theorem ok_needed (T : Txt K mg) : FnOk P w K mg base CX0 2 T.a_needed T.fd_needed ["level", "parents"] spNeeded := by
  refine T.F_needed.ok sc_needed (fun vs H Q E h => ?_) (fun cdv A outer s H vs Q E hr h => ?_)
  · obtain ⟨z, i, n, rfl, _⟩ := h; rfl
  · obtain ⟨z, i, n, rfl, hi, q⟩ := h
    refine ⟨_, (pss_cons (ps_set (i := 2) sc_needed.nd rfl (.inl rfl) (pe_call (ok_rank T) (hr.mono (by decide)) (by rfl) T.g_rank T.F_rank.kp T.b_rank .nil pass0 (pa_cons (pv 0) pa_nil)))
      (pss_cons (ps_if (pt_cmpR op_eq (pv 2) (pe_int) (nomark _)) (pss_one (ps_ret (pe_int))) pss_nil)
      (pss_cons (ps_if (pt_cmpR op_eq (pv 2) (pe_int) (nomark _)) (pss_one (ps_ret (pe_int))) pss_nil)
      (pss_cons (ps_if (pt_cmpR op_eq (pv 2) (pe_int) (nomark _)) (pss_one (ps_ret (pe_op op_add (pe_op op_fdiv (pv 1) (pe_int)) (pe_int)))) pss_nil)
      (pss_one (ps_ret (pe_callB (call_max2 rfl) (by rfl) T.n_max (by decide +kernel) (pa_cons (pe_int) (pa_cons (pv 1) pa_nil))))))))), ?_⟩
    refine ⟨_, rfl, z, i, rfl, hi, fun H1 s1 => ?_⟩
    have q1 := q H1 s1
    unfold need at q1
    walk_at "rd"
    refine iteD (fun c => ?_) (fun c => ?_)
    · rw [if_pos (by have := V.int.inj c; omega)] at q1; exact q1
    rw [if_neg (by intro h; exact c (by rw [h]; rfl))] at q1
    walk_at "rd"
    refine iteD (fun c => ?_) (fun c => ?_)
    · rw [if_pos (by have := V.int.inj c; omega)] at q1; exact q1
    rw [if_neg (by intro h; exact c (by rw [h]; rfl))] at q1
    walk_at "rd"
    refine iteD (fun c => ?_) (fun c => ?_)
    · rw [if_pos (by have := V.int.inj c; omega)] at q1
      walk_at "rd"
      exact q1
    rw [if_neg (by intro h; exact c (by rw [h]; rfl))] at q1
    exact ⟨_, rfl, _, _, rfl, q1⟩
end
end My

namespace My
open PySem L2
theorem need0 (i : Nat) {n : Int} (h : 0 ≤ n) : 0 ≤ need i n := by
  unfold need
  repeat' split
  all_goals omega
def spGreatest : Sp := fun vs H Q _ => ∃ (m n : Int), vs = [.int m, .int n] ∧ 0 ≤ m ∧ ∀ (g : Nat) (z : Str) H', lev[g]? = some z → need g n ≤ m → (∀ j, g < j → j < 4 → m < need j n) → Same H H' → Q (.str z) H'
/-- the law's own count -/
def ask (p n : Int) : Int := if p = 0 then 0 else if p = 2 then n / 2 + 1 else if p = 3 ∧ n > 1 then n else 1
theorem ask_need (i : Nat) (n : Int) (h : i < 4) : ask i n = need i n := by
  unfold ask need
  rcases (by omega : i = 0 ∨ i = 1 ∨ i = 2 ∨ i = 3) with rfl | rfl | rfl | rfl <;> simp
def spAsks : Sp := fun vs H Q _ => ∃ (p n : Int), vs = [.int p, .int n] ∧ Q (.int (ask p n)) H
def spPlace : Sp := fun vs H Q _ => ∃ (z : Str), vs = [.str z] ∧ ∀ H', Same H H' → Q (.int (placeOf z)) H'
section
variable {P : Program} {w : World} {K : PySem.W.Frag} {mg : Str → Option Value} {base : Heap}
theorem ok_greatest (T : Txt K mg) : FnOk P w K mg base CX0 3 T.a_greatest T.fd_greatest ["amount", "parents"] spGreatest := by
  refine T.F_greatest.ok sc_greatest (fun vs H Q E h => ?_) (fun cdv A outer s H vs Q E hr h => ?_)
  · obtain ⟨m, n, rfl, _⟩ := h; rfl
  · obtain ⟨m, n, rfl, hm, q⟩ := h
    refine ⟨_, (pss_cons (ps_set (i := 2) sc_greatest.nd rfl (.inl rfl) (pe_ix ix_tup (pe_glob (v := .ref T.k_LEVELS) (by rfl) T.g_LEVELS rfl) (pe_int) (fun _ _ => rfl)))
      (pss_cons (ps_for PassesOwn.never rfl (pi_tup (pe_glob (v := .ref T.k_LEVELS) (by rfl) T.g_LEVELS rfl)) (pg_name (i := 3) sc_greatest.nd rfl (.inl rfl)) (pss_one (ps_if (pt_cmpR op_le (pe_call (ok_needed T) (hr.mono (by decide)) (by rfl) T.g_needed T.F_needed.kp T.b_needed .nil pass0 (pa_cons (pv 3) (pa_cons (pv 1) pa_nil))) (pv 0) (nomark _)) (pss_one (ps_set (i := 2) sc_greatest.nd rfl (.inl rfl) (pv 3))) pss_nil)))
      (pss_one (ps_ret (pv 2))))), ?_⟩
    refine ⟨_, _, _, _, rfl, rfl, T.q_LEVELS _, atI_nat (j := 0) rfl, ?_⟩
    refine ⟨_, rfl, ⟨_, T.q_LEVELS _⟩, for_tup (K := K) (a := T.k_LEVELS) (xs := levV) (fun j σ H' => ∃ (x3 : Option V) (g : Nat) (z : Str), σ = [some (.int m), some (.int n), some (.str z), x3] ∧ Same H H' ∧ lev[g]? = some z ∧ need g n ≤ m ∧ ∀ l, g < l → l < j → m < need l n)
      ⟨none, 0, _, rfl, Same.refl H, rfl, hm, fun l h h' => absurd h' (Nat.not_lt_zero _)⟩ (fun _ _ H' _ _ => T.q_LEVELS H') ?_ ?_⟩
    · rintro j x σ H1 hx ⟨x3, g, z, rfl, s1, hg, hn, hh⟩
      rw [levV_eq, List.getElem?_map] at hx
      cases e : lev[j]? with
      | none => rw [e] at hx; cases hx
      | some y =>
        rw [e] at hx
        obtain rfl : V.str y = x := Option.some.inj hx
        refine ⟨_, rfl, _, rfl, y, j, n, rfl, e, fun H2 s2 => ?_⟩
        walk_at "rd"
        refine iteD (fun c => ?_) (fun c => ?_)
        · exact ⟨_, rfl, _, j, y, rfl, s1.trans s2, e, c, fun l h h' => absurd h' (by omega)⟩
        · refine ⟨_, g, z, rfl, s1.trans s2, hg, hn, fun l h h' => ?_⟩
          rcases Nat.lt_succ_iff_lt_or_eq.mp h' with h1 | h1
          · exact hh l h h1
          · subst h1; omega
    · rintro σ H1 ⟨x3, g, z, rfl, s1, hg, hn, hh⟩
      exact ⟨_, rfl, q g z H1 hg hn hh s1⟩
theorem ok__law_asks (T : Txt K mg) : FnOk P w K mg base CX0 1 T.a__law_asks T.fd__law_asks ["_law_place_here", "_law_parents"] spAsks := by
  refine T.F__law_asks.ok sc__law_asks (fun vs H Q E h => ?_) (fun cdv A outer s H vs Q E hr h => ?_)
  · obtain ⟨m, n, rfl, _⟩ := h; rfl
  · obtain ⟨p, n, rfl, q⟩ := h
    unfold ask at q
    refine ⟨_, (pss_cons (ps_if (pt_cmpR op_eq (pv 0) (pe_int) (nomark _)) (pss_one (ps_ret (pe_int))) pss_nil)
      (pss_cons (ps_if (pt_cmpR op_eq (pv 0) (pe_int) (nomark _)) (pss_one (ps_ret (pe_op op_add (pe_op op_fdiv (pv 1) (pe_int)) (pe_int)))) pss_nil)
      (pss_cons (ps_if (PW.pt (pw_and (pt_cmpR op_eq (pv 0) (pe_int) (nomark _)) (pw_and1 (pt_cmpR op_gt (pv 1) (pe_int) (nomark _))))) (pss_one (ps_ret (pv 1))) pss_nil)
      (pss_one (ps_ret (pe_int)))))), ?_⟩
    walk_at "rd"
    refine iteD (fun c => ?_) (fun c => ?_)
    · rw [if_pos (V.int.inj c)] at q; exact q
    rw [if_neg (fun h => c (by rw [h]))] at q
    walk_at "rd"
    refine iteD (fun c => ?_) (fun c => ?_)
    · rw [if_pos (V.int.inj c)] at q
      walk_at "rd"
      exact q
    rw [if_neg (fun h => c (by rw [h]))] at q
    walk_at "rd"
    refine iteD (fun c => ?_) (fun c => ?_)
    · walk_at "rd"
      refine iteD (fun c2 => ?_) (fun c2 => ?_)
      · rw [if_pos ⟨V.int.inj c, c2⟩] at q; exact ⟨_, rfl, q⟩
      · rw [if_neg (fun h => c2 h.2)] at q; exact q
    · rw [if_neg (fun h => c (by rw [h.1]))] at q
      exact iteF q
theorem ok__law_place (T : Txt K mg) : FnOk P w K mg base CX0 1 T.a__law_place T.fd__law_place ["_law_word"] spPlace := by
  refine T.F__law_place.ok sc__law_place (fun vs H Q E h => ?_) (fun cdv A outer s H vs Q E hr h => ?_)
  · obtain ⟨z, rfl, _⟩ := h; rfl
  · obtain ⟨z, rfl, q⟩ := h
    refine ⟨_, (pss_cons (ps_set (i := 1) sc__law_place.nd rfl (.inl rfl) (pe_lst (pa_cons (pe_str) (pa_cons (pe_str) (pa_cons (pe_str) (pa_cons (pe_str) pa_nil))))))
      (pss_cons (ps_for PassesOwn.never rfl (pi_range1 (by rfl) T.n_range (pa_cons (pe_int) pa_nil)) (pg_name (i := 2) sc__law_place.nd rfl (.inl rfl)) (pss_one (ps_if (pt_cmpR op_eq (pe_ix ix_list (pv 1) (pv 2) (fun _ _ => rfl)) (pv 0) (nomark _)) (pss_one (ps_ret (pv 2))) pss_nil)))
      (pss_one (ps_ret (pe_un un_neg (pe_int)))))), ?_⟩
    refine ⟨by show 4 ≤ sizeLine; decide, fun p hp => ?_⟩
    have s0 : Same H (upd H p (.lst levV)) := same_new hp
    refine ⟨4, rfl, by decide, by decide, for_range (lo := 0) (n := 4) (fun j σ H' => ∃ x2, σ = [some (.str z), some (.ref p), x2] ∧ H' = upd H p (.lst levV) ∧ ∀ l y, l < j → lev[l]? = some y → y ≠ z)
      ⟨none, rfl, rfl, fun l y h => absurd h (Nat.not_lt_zero _)⟩ ?_ ?_⟩
    · rintro j σ H1 hj ⟨x2, rfl, rfl, ne⟩
      obtain ⟨y, hy⟩ := lev_at hj
      refine ⟨_, rfl, _, rfl, _, _, _, _, rfl, rfl, SqL.of upd_same, at_of (v := .str y) (j := j) (by omega) (by rw [levV_eq, List.getElem?_map, hy]; rfl), _, rfl, rfl, _, rfl, ?_⟩
      refine iteD (fun c => ?_) (fun c => ?_)
      · have ey : y = z := V.str.inj c
        subst ey
        have q1 := q _ s0
        rw [place_lev hy] at q1
        exact ⟨_, rfl, by rw [show (0 : Int) + (j : Int) = j by omega]; exact q1⟩
      · refine ⟨_, rfl, rfl, fun l y' hl hy' => ?_⟩
        rcases Nat.lt_succ_iff_lt_or_eq.mp hl with h1 | h1
        · exact ne l y' h1 hy'
        · subst h1
          rw [hy] at hy'
          rw [← Option.some.inj hy']
          exact fun e => c (by rw [e])
    · rintro σ H1 ⟨x2, rfl, rfl, ne⟩
      have q1 := q _ s0
      rw [show placeOf z = -1 by
        unfold placeOf
        rw [if_neg (fun h => ne 0 _ (by decide) rfl h.symm), if_neg (fun h => ne 1 _ (by decide) rfl h.symm), if_neg (fun h => ne 2 _ (by decide) rfl h.symm), if_neg (fun h => ne 3 _ (by decide) rfl h.symm)]] at q1
      exact ⟨_, rfl, q1⟩
end
end My

namespace My
open PySem L2
def spLaw (K : PySem.W.Frag) : Sp := fun vs H Q _ => ∃ (a : Addr) (ns : List Int), vs = [.ref a] ∧ SqL K H a (ns.map V.int) ∧ ns.length ≤ 63 ∧ ∀ H', Q (.bl true) H'
section
variable {P : Program} {w : World} {K : PySem.W.Frag} {mg : Str → Option Value} {base : Heap}
theorem ok_law (T : Txt K mg) : FnOk P w K mg base CX0 6 T.a_law T.fd_law ["_law_script"] (spLaw K) := by
  refine T.F_law.ok sc_law (fun vs H Q E h => ?_) (fun cdv A outer s H vs Q E hr h => ?_)
  · obtain ⟨a, ns, rfl, _⟩ := h; rfl
  · obtain ⟨a, ns, rfl, hS, hlen, q⟩ := h
    refine ⟨_, (pss_cons (ps_set (i := 1) sc_law.nd rfl (.inl rfl) (pe_call (ok__law_draws T) (hr.mono (by decide)) (by rfl) T.g__law_draws T.F__law_draws.kp T.b__law_draws .nil pass0 (pa_cons (pv 0) pa_nil)))
      (pss_cons (ps_set (i := 2) sc_law.nd rfl (.inl rfl) (pe_lst (pa_cons (pe_int) pa_nil)))
      (pss_cons (ps_for PassesOwn.never rfl (pi_range1 (by rfl) T.n_range (pa_cons (pe_int) pa_nil)) (pg_name (i := 3) sc_law.nd rfl (.inl rfl)) (pss_cons (ps_set (i := 4) sc_law.nd rfl (.inl rfl) (pe_call (ok__law_take T) (hr.mono (by decide)) (by rfl) T.g__law_take T.F__law_take.kp T.b__law_take .nil pass0 (pa_cons (pv 1) (pa_cons (pv 2) (pa_cons (pe_int) pa_nil)))))
      (C8.pss_cut (ps_if (pt_cmpR op_eq (pe_call (ok__law_take T) (hr.mono (by decide)) (by rfl) T.g__law_take T.F__law_take.kp T.b__law_take .nil pass0 (pa_cons (pv 1) (pa_cons (pv 2) (pa_cons (pe_int) pa_nil)))) (pe_int) (nomark _)) (pss_one (ps_set (i := 4) sc_law.nd rfl (.inl rfl) (pe_op op_add (pe_op op_add (pe_op op_mul (pe_call (ok__law_take T) (hr.mono (by decide)) (by rfl) T.g__law_take T.F__law_take.kp T.b__law_take .nil pass0 (pa_cons (pv 1) (pa_cons (pv 2) (pa_cons (pe_int) pa_nil)))) (pe_op op_pow (pe_int) (pe_int))) (pe_op op_mul (pe_call (ok__law_take T) (hr.mono (by decide)) (by rfl) T.g__law_take T.F__law_take.kp T.b__law_take .nil pass0 (pa_cons (pv 1) (pa_cons (pv 2) (pa_cons (pe_int) pa_nil)))) (pe_int))) (pv 4)))) pss_nil)
      (pss_cons (ps_set (i := 5) sc_law.nd rfl (.inl rfl) (pe_call (ok__law_take T) (hr.mono (by decide)) (by rfl) T.g__law_take T.F__law_take.kp T.b__law_take .nil pass0 (pa_cons (pv 1) (pa_cons (pv 2) (pa_cons (pe_int) pa_nil)))))
      (pss_cons (ps_set (i := 6) sc_law.nd rfl (.inl rfl) (pe_lst (pa_cons (pe_int) (pa_cons (pe_int) (pa_cons (pe_op op_fdiv (pv 4) (pe_int)) (pa_cons (pe_op op_add (pe_op op_fdiv (pv 4) (pe_int)) (pe_int)) (pa_cons (pv 4) (pa_cons (pv 5) pa_nil))))))))
      (C8.pss_cut (ps_set (i := 7) sc_law.nd rfl (.inl rfl) (pe_op op_add (pe_ix ix_list (pv 6) (pe_call (ok__law_take T) (hr.mono (by decide)) (by rfl) T.g__law_take T.F__law_take.kp T.b__law_take .nil pass0 (pa_cons (pv 1) (pa_cons (pv 2) (pa_cons (pe_int) pa_nil)))) (fun _ _ => rfl)) (pe_ix ix_list (pe_lst (pa_cons (pe_int) (pa_cons (pe_int) (pa_cons (pe_op op_sub (pe_int) (pe_int)) pa_nil)))) (pe_call (ok__law_take T) (hr.mono (by decide)) (by rfl) T.g__law_take T.F__law_take.kp T.b__law_take .nil pass0 (pa_cons (pv 1) (pa_cons (pv 2) (pa_cons (pe_int) pa_nil)))) (fun _ _ => rfl))))
      (C8.pss_cut (ps_if (pt_cmpR op_lt (pv 7) (pe_int) (nomark _)) (pss_one (ps_set (i := 7) sc_law.nd rfl (.inl rfl) (pe_int))) pss_nil)
      (pss_cons (ps_set (i := 8) sc_law.nd rfl (.inl rfl) (pe_call (ok_greatest T) (hr.mono (by decide)) (by rfl) T.g_greatest T.F_greatest.kp T.b_greatest .nil pass0 (pa_cons (pv 7) (pa_cons (pv 4) pa_nil))))
      (pss_cons (ps_if (pt_not (pt_val (pe_callB call_isi (by rfl) T.n_isinstance (by decide +kernel) (pa_cons (pv 8) (pa_cons (pe_bltn (v := .ty "str") (by rfl) T.n_str (by decide +kernel) rfl) pa_nil))))) (pss_one (ps_ret (pe_bl))) pss_nil)
      (pss_cons (ps_set (i := 9) sc_law.nd rfl (.inl rfl) (pe_call (ok__law_place T) (hr.mono (by decide)) (by rfl) T.g__law_place T.F__law_place.kp T.b__law_place .nil pass0 (pa_cons (pv 8) pa_nil)))
      (pss_cons (ps_if (PW.pt (pw_or (pt_cmpR op_lt (pv 9) (pe_int) (nomark _)) (pw_or1 (pt_cmpR op_gt (pe_call (ok__law_asks T) (hr.mono (by decide)) (by rfl) T.g__law_asks T.F__law_asks.kp T.b__law_asks .nil pass0 (pa_cons (pv 9) (pa_cons (pv 4) pa_nil))) (pv 7) (nomark _))))) (pss_one (ps_ret (pe_bl))) pss_nil)
      (pss_one (ps_for PassesOwn.never rfl (pi_range2 (by rfl) T.n_range (pa_cons (pe_op op_add (pv 9) (pe_int)) (pa_cons (pe_int) pa_nil))) (pg_name (i := 10) sc_law.nd rfl (.inl rfl)) (pss_one (ps_if (pt_cmpR op_le (pe_call (ok__law_asks T) (hr.mono (by decide)) (by rfl) T.g__law_asks T.F__law_asks.kp T.b__law_asks .nil pass0 (pa_cons (pv 10) (pa_cons (pv 4) pa_nil))) (pv 7) (nomark _)) (pss_one (ps_ret (pe_bl))) pss_nil)))))))))))))))
      (pss_one (ps_ret (pe_bl)))))), ?_⟩
    refine ⟨_, rfl, a, ns, rfl, hS, hlen, fun d zs H1 s1 nd hd => ?_⟩
    refine ⟨Nat.le_of_lt (small1000 (by decide)), fun at' hat => ?_⟩
    have D0 : Dr K (upd H1 at' (.lst [.int 0])) d at' := ⟨⟨zs, .inl (.inl (same_new hat _ _ hd))⟩, ⟨0, upd_same⟩, ne_of_none hd hat⟩
    refine ⟨8, rfl, by decide, by decide, for_range (lo := 0) (n := 8) (fun j σ H' => ∃ x3 x4 x5 x6 x7 x8 x9 x10, σ = [some (.ref a), some (.ref d), some (.ref at'), x3, x4, x5, x6, x7, x8, x9, x10] ∧ Dr K H' d at')
      ⟨_, _, _, _, _, _, _, _, rfl, D0⟩ ?_ ?_⟩
    · rintro j σ H2 hj ⟨x3, x4, x5, x6, x7, x8, x9, x10, rfl, D2⟩
      -- parents
      refine ⟨_, rfl, _, rfl, d, at', 10, rfl, D2, by decide, fun r H3 r0 r1 D3 _ => ?_⟩
      refine ⟨fun σ' H' => ∃ n : Int, 0 ≤ n ∧ σ' = [some (.ref a), some (.ref d), some (.ref at'), some (.int (0 + (j : Int))), some (.int n), x5, x6, x7, x8, x9, x10] ∧ Dr K H' d at', ?_, ?_⟩
      · refine ⟨_, rfl, _, rfl, d, at', 4, rfl, D3, by decide, fun r' H4 _ _ D4 _ => ?_⟩
        walk_at "rd"
        refine iteD (fun c => ?_) (fun c => ?_)
        · refine ⟨_, rfl, _, rfl, d, at', 1000, rfl, D4, by decide, fun r1 H5 h0 h1 D5 _ => ?_⟩
          refine ⟨_, _, rfl, rfl, ⟨by decide, by decide, by decide⟩, _, _, rfl, rfl, .inl ⟨by omega, by omega⟩, ?_⟩
          refine ⟨_, rfl, _, rfl, d, at', 1000, rfl, D5, by decide, fun r2 H6 h2 h3 D6 _ => ?_⟩
          refine ⟨_, _, rfl, rfl, .inl ⟨by omega, by omega⟩, ?_⟩
          walk_at "rd"
          refine ⟨_, ?_, rfl, D6⟩
          have e6 : (10 : Int) ^ (6 : Int).toNat = 1000000 := by decide
          rw [e6]
          omega
        · exact ⟨r, by omega, rfl, D4⟩
      rintro σ' H4 ⟨n, hn, rfl, D4⟩
      -- drawn
      refine ⟨_, rfl, _, rfl, d, at', 1000, rfl, D4, by decide, fun r5 H5 h50 _ D5 _ => ?_⟩
      -- near
      refine ⟨_, rfl, _, _, rfl, rfl, ⟨by decide, by decide⟩, _, rfl, _, _, rfl, rfl, ⟨by decide, by decide⟩, _, _, rfl, rfl, _, rfl, _, rfl, by show 6 ≤ sizeLine; decide, fun p hp => ?_⟩
      have np : p ≠ at' := (ne_of_none D5.pl.choose_spec hp).symm
      have D5' := D5.same (same_new (o := .lst [V.int 0, .int 1, .int (n / 2), .int (n / 2 + 1), .int n, .int r5]) hp)
      -- amount
      refine ⟨fun σ' H' => ∃ m : Int, σ' = [some (.ref a), some (.ref d), some (.ref at'), some (.int (0 + (j : Int))), some (.int n), some (.int r5), some (.ref p), some (.int m), x8, x9, x10] ∧ Dr K H' d at', ?_, ?_⟩
      · refine ⟨_, rfl, _, rfl, _, rfl, d, at', 6, rfl, D5', by decide, fun r6 H6 h60 h61 D6 b6 => ?_⟩
        obtain ⟨v, hv, mv⟩ := at_ok (xs := [V.int 0, .int 1, .int (n / 2), .int (n / 2 + 1), .int n, .int r5]) h60 h61
        refine ⟨_, _, _, _, rfl, rfl, b6.sqL np (SqL.of upd_same), hv, ?_⟩
        obtain ⟨i, rfl⟩ : ∃ i, v = .int i := by
          simp only [List.mem_cons, List.not_mem_nil, or_false] at mv
          rcases mv with e | e | e | e | e | e <;> exact ⟨_, e⟩
        refine ⟨_, _, rfl, rfl, by show 3 ≤ sizeLine; decide, fun p2 hp2 => ?_⟩
        have np2 : p2 ≠ at' := (ne_of_none D6.pl.choose_spec hp2).symm
        have D6' := D6.same (same_new (o := .lst [V.int 0, .int 1, .int (0 - 1)]) hp2)
        refine ⟨_, rfl, _, rfl, d, at', 3, rfl, D6', by decide, fun r7 H7 h70 h71 D7 b7 => ?_⟩
        obtain ⟨v, hv, mv⟩ := at_ok (xs := [V.int 0, .int 1, .int (0 - 1)]) h70 h71
        refine ⟨_, _, _, _, rfl, rfl, b7.sqL np2 (SqL.of upd_same), hv, ?_⟩
        obtain ⟨i2, rfl⟩ : ∃ i, v = .int i := by
          simp only [List.mem_cons, List.not_mem_nil, or_false] at mv
          rcases mv with e | e | e <;> exact ⟨_, e⟩
        exact ⟨_, _, rfl, rfl, _, rfl, D7⟩
      rintro σ' H6 ⟨m, rfl, D6⟩
      refine ⟨fun σ' H' => ∃ m : Int, 0 ≤ m ∧ σ' = [some (.ref a), some (.ref d), some (.ref at'), some (.int (0 + (j : Int))), some (.int n), some (.int r5), some (.ref p), some (.int m), x8, x9, x10] ∧ Dr K H' d at', ?_, ?_⟩
      · walk_at "rd"
        refine iteD (fun c => ?_) (fun c => ?_)
        · exact ⟨0, Int.le_refl _, rfl, D6⟩
        · exact ⟨m, by omega, rfl, D6⟩
      rintro σ' H7 ⟨m, hm, rfl, D7⟩
      -- greatest
      refine ⟨_, rfl, _, rfl, m, n, rfl, hm, fun g z H8 hg hg1 hg2 s8 => ?_⟩
      refine ⟨_, rfl, _, _, _, _, _, rfl, ClsV.ty "str", .base (.str z), kit_ty (by decide +kernel), true, rfl, iteF ?_⟩
      refine ⟨_, rfl, z, rfl, fun H9 s9 => ?_⟩
      rw [place_lev hg]
      have hg4 := lev_lt hg
      refine ⟨_, rfl, _, _, rfl, rfl, _, rfl, iteNo (decide_eq_false (by omega)) ?_⟩
      refine ⟨_, rfl, _, rfl, _, _, rfl, ?_⟩
      rw [ask_need g n hg4]
      walk_at "rd"
      refine iteD (fun c => absurd c (by omega)) (fun c => ?_)
      refine ⟨_, rfl, _, _, rfl, rfl, _, _, rfl, ⟨by omega, by omega, by decide, by decide⟩, for_range (lo := (g : Int) + 1) (n := (4 - ((g : Int) + 1)).toNat) (fun i σ H' => ∃ x10, σ = [some (.ref a), some (.ref d), some (.ref at'), some (.int (0 + (j : Int))), some (.int n), some (.int r5), some (.ref p), some (.int m), some (.str z), some (.int g), x10] ∧ H' = H9)
        ⟨_, rfl, rfl⟩ ?_ ?_⟩
      · rintro i σ H10 hi ⟨x10, rfl, rfl⟩
        refine ⟨_, rfl, _, rfl, _, _, rfl, ?_⟩
        have hlt := hg2 (g + 1 + i) (by omega) (by omega)
        rw [show ((g : Int) + 1 + (i : Int)) = ((g + 1 + i : Nat) : Int) by omega, ask_need _ n (by omega)]
        walk_at "rd"
        refine iteD (fun c => absurd c (by omega)) (fun c => ?_)
        exact ⟨_, rfl, rfl⟩
      · rintro σ H10 ⟨x10, rfl, rfl⟩
        exact ⟨_, _, _, _, _, _, _, _, rfl, (D7.same s8).same s9⟩
    · rintro σ H2 ⟨x3, x4, x5, x6, x7, x8, x9, x10, rfl, D2⟩
      exact q H2
end
end My

namespace My
open PySem L2
theorem all_mk {l : PySem.W.OpenLaw} {w : World} {K : PySem.W.Frag} {h : Heap} {mg : Str → Option Value} {fa : Addr} (X : K.In h) (G : h.Ns mainGlobals mg) (hfa : mg "law" = some (.ref fa))
    {f_rank : Addr} {od_rank an_rank : Option Addr} {sl_rank : Array (Option Value)} {oc_rank kV_rank dc_rank pm_rank cd_rank ct_rank : Value}
    {f_needed : Addr} {od_needed an_needed : Option Addr} {sl_needed : Array (Option Value)} {oc_needed kV_needed dc_needed pm_needed cd_needed ct_needed : Value}
    {f_greatest : Addr} {od_greatest an_greatest : Option Addr} {sl_greatest : Array (Option Value)} {oc_greatest kV_greatest dc_greatest pm_greatest cd_greatest ct_greatest : Value}
    {f__law_draws : Addr} {od__law_draws an__law_draws : Option Addr} {sl__law_draws : Array (Option Value)} {oc__law_draws kV__law_draws dc__law_draws pm__law_draws cd__law_draws ct__law_draws : Value}
    {f__law_take : Addr} {od__law_take an__law_take : Option Addr} {sl__law_take : Array (Option Value)} {oc__law_take kV__law_take dc__law_take pm__law_take cd__law_take ct__law_take : Value}
    {f__law_asks : Addr} {od__law_asks an__law_asks : Option Addr} {sl__law_asks : Array (Option Value)} {oc__law_asks kV__law_asks dc__law_asks pm__law_asks cd__law_asks ct__law_asks : Value}
    {f__law_place : Addr} {od__law_place an__law_place : Option Addr} {sl__law_place : Array (Option Value)} {oc__law_place kV__law_place dc__law_place pm__law_place cd__law_place ct__law_place : Value}
    {f_law : Addr} {od_law an_law : Option Addr} {sl_law : Array (Option Value)} {oc_law kV_law dc_law pm_law cd_law ct_law : Value}
    {q_LEVELS : Addr} {oq_LEVELS : Option Addr} {nq_LEVELS : Nat} {slq_LEVELS : Array (Option Value)} {t_LEVELS_0 : Tok} {t_LEVELS_1 : Tok} {t_LEVELS_2 : Tok} {t_LEVELS_3 : Tok}
    (a_rank : PySem.W.nsIn K mainGlobals "rank" = some (some (.ref f_rank)))
    (l_rank : K.lookup f_rank = some ⟨oc_rank, od_rank, .func (PySem.W.fnOf "rank" "rank" (defArgs S_rank) (defBody S_rank) (defScope S_rank) .none kV_rank dc_rank pm_rank an_rank cd_rank ct_rank), sl_rank⟩)
    (c_rank : PySem.W.codeIn K cd_rank "rank" = true)
    (k_rank : PySem.W.keepIn K (.ref f_rank) = true)
    (a_needed : PySem.W.nsIn K mainGlobals "needed" = some (some (.ref f_needed)))
    (l_needed : K.lookup f_needed = some ⟨oc_needed, od_needed, .func (PySem.W.fnOf "needed" "needed" (defArgs S_needed) (defBody S_needed) (defScope S_needed) .none kV_needed dc_needed pm_needed an_needed cd_needed ct_needed), sl_needed⟩)
    (c_needed : PySem.W.codeIn K cd_needed "needed" = true)
    (k_needed : PySem.W.keepIn K (.ref f_needed) = true)
    (a_greatest : PySem.W.nsIn K mainGlobals "greatest" = some (some (.ref f_greatest)))
    (l_greatest : K.lookup f_greatest = some ⟨oc_greatest, od_greatest, .func (PySem.W.fnOf "greatest" "greatest" (defArgs S_greatest) (defBody S_greatest) (defScope S_greatest) .none kV_greatest dc_greatest pm_greatest an_greatest cd_greatest ct_greatest), sl_greatest⟩)
    (c_greatest : PySem.W.codeIn K cd_greatest "greatest" = true)
    (k_greatest : PySem.W.keepIn K (.ref f_greatest) = true)
    (a__law_draws : PySem.W.nsIn K mainGlobals "_law_draws" = some (some (.ref f__law_draws)))
    (l__law_draws : K.lookup f__law_draws = some ⟨oc__law_draws, od__law_draws, .func (PySem.W.fnOf "_law_draws" "_law_draws" (defArgs S__law_draws) (defBody S__law_draws) (defScope S__law_draws) .none kV__law_draws dc__law_draws pm__law_draws an__law_draws cd__law_draws ct__law_draws), sl__law_draws⟩)
    (c__law_draws : PySem.W.codeIn K cd__law_draws "_law_draws" = true)
    (k__law_draws : PySem.W.keepIn K (.ref f__law_draws) = true)
    (a__law_take : PySem.W.nsIn K mainGlobals "_law_take" = some (some (.ref f__law_take)))
    (l__law_take : K.lookup f__law_take = some ⟨oc__law_take, od__law_take, .func (PySem.W.fnOf "_law_take" "_law_take" (defArgs S__law_take) (defBody S__law_take) (defScope S__law_take) .none kV__law_take dc__law_take pm__law_take an__law_take cd__law_take ct__law_take), sl__law_take⟩)
    (c__law_take : PySem.W.codeIn K cd__law_take "_law_take" = true)
    (k__law_take : PySem.W.keepIn K (.ref f__law_take) = true)
    (a__law_asks : PySem.W.nsIn K mainGlobals "_law_asks" = some (some (.ref f__law_asks)))
    (l__law_asks : K.lookup f__law_asks = some ⟨oc__law_asks, od__law_asks, .func (PySem.W.fnOf "_law_asks" "_law_asks" (defArgs S__law_asks) (defBody S__law_asks) (defScope S__law_asks) .none kV__law_asks dc__law_asks pm__law_asks an__law_asks cd__law_asks ct__law_asks), sl__law_asks⟩)
    (c__law_asks : PySem.W.codeIn K cd__law_asks "_law_asks" = true)
    (k__law_asks : PySem.W.keepIn K (.ref f__law_asks) = true)
    (a__law_place : PySem.W.nsIn K mainGlobals "_law_place" = some (some (.ref f__law_place)))
    (l__law_place : K.lookup f__law_place = some ⟨oc__law_place, od__law_place, .func (PySem.W.fnOf "_law_place" "_law_place" (defArgs S__law_place) (defBody S__law_place) (defScope S__law_place) .none kV__law_place dc__law_place pm__law_place an__law_place cd__law_place ct__law_place), sl__law_place⟩)
    (c__law_place : PySem.W.codeIn K cd__law_place "_law_place" = true)
    (k__law_place : PySem.W.keepIn K (.ref f__law_place) = true)
    (a_law : PySem.W.nsIn K mainGlobals "law" = some (some (.ref f_law)))
    (l_law : K.lookup f_law = some ⟨oc_law, od_law, .func (PySem.W.fnOf "law" "law" (defArgs S_law) (defBody S_law) (defScope S_law) .none kV_law dc_law pm_law an_law cd_law ct_law), sl_law⟩)
    (c_law : PySem.W.codeIn K cd_law "law" = true)
    (k_law : PySem.W.keepIn K (.ref f_law) = true)
    (z_enumerate : PySem.W.nsIn K mainGlobals "enumerate" = some none)
    (z_int : PySem.W.nsIn K mainGlobals "int" = some none)
    (z_isinstance : PySem.W.nsIn K mainGlobals "isinstance" = some none)
    (z_len : PySem.W.nsIn K mainGlobals "len" = some none)
    (z_max : PySem.W.nsIn K mainGlobals "max" = some none)
    (z_range : PySem.W.nsIn K mainGlobals "range" = some none)
    (z_str : PySem.W.nsIn K mainGlobals "str" = some none)
    (aq_LEVELS : PySem.W.nsIn K mainGlobals "LEVELS" = some (some (.ref q_LEVELS)))
    (lq_LEVELS : K.lookup q_LEVELS = some ⟨.type "tuple", oq_LEVELS, .seq #[.str "none" t_LEVELS_0, .str "one" t_LEVELS_1, .str "most" t_LEVELS_2, .str "all" t_LEVELS_3] nq_LEVELS, slq_LEVELS⟩)
    : ∃ fd : FuncData, (∀ (s : Shared) (v : Value), BindsTo s fd ⟨[v], []⟩ [("_law_script", v)]) ∧ ∀ base : Heap, K.In base → base.Ns mainGlobals mg → FnOk l.prog w K mg base CX0 6 fa fd ["_law_script"] (spLaw K) := by
  have e := hfa.symm.trans (PySem.W.mg_of X G a_law)
  cases e
  let T : Txt K mg := {
    a_rank := f_rank,
    fd_rank := _,
    F_rank := fun_mk (st := S_rank) l_rank c_rank k_rank,
    b_rank := (fun_mk (st := S_rank) l_rank c_rank k_rank).binds (ps := ["level"]) fun _ _ _ _ _ _ us hl => match us, hl with | [_], _ => rfl,
    g_rank := PySem.W.mg_of X G a_rank,
    a_needed := f_needed,
    fd_needed := _,
    F_needed := fun_mk (st := S_needed) l_needed c_needed k_needed,
    b_needed := (fun_mk (st := S_needed) l_needed c_needed k_needed).binds (ps := ["level", "parents"]) fun _ _ _ _ _ _ us hl => match us, hl with | [_, _], _ => rfl,
    g_needed := PySem.W.mg_of X G a_needed,
    a_greatest := f_greatest,
    fd_greatest := _,
    F_greatest := fun_mk (st := S_greatest) l_greatest c_greatest k_greatest,
    b_greatest := (fun_mk (st := S_greatest) l_greatest c_greatest k_greatest).binds (ps := ["amount", "parents"]) fun _ _ _ _ _ _ us hl => match us, hl with | [_, _], _ => rfl,
    g_greatest := PySem.W.mg_of X G a_greatest,
    a__law_draws := f__law_draws,
    fd__law_draws := _,
    F__law_draws := fun_mk (st := S__law_draws) l__law_draws c__law_draws k__law_draws,
    b__law_draws := (fun_mk (st := S__law_draws) l__law_draws c__law_draws k__law_draws).binds (ps := ["_law_script"]) fun _ _ _ _ _ _ us hl => match us, hl with | [_], _ => rfl,
    g__law_draws := PySem.W.mg_of X G a__law_draws,
    a__law_take := f__law_take,
    fd__law_take := _,
    F__law_take := fun_mk (st := S__law_take) l__law_take c__law_take k__law_take,
    b__law_take := (fun_mk (st := S__law_take) l__law_take c__law_take k__law_take).binds (ps := ["_law_draws_here", "_law_at", "_law_size"]) fun _ _ _ _ _ _ us hl => match us, hl with | [_, _, _], _ => rfl,
    g__law_take := PySem.W.mg_of X G a__law_take,
    a__law_asks := f__law_asks,
    fd__law_asks := _,
    F__law_asks := fun_mk (st := S__law_asks) l__law_asks c__law_asks k__law_asks,
    b__law_asks := (fun_mk (st := S__law_asks) l__law_asks c__law_asks k__law_asks).binds (ps := ["_law_place_here", "_law_parents"]) fun _ _ _ _ _ _ us hl => match us, hl with | [_, _], _ => rfl,
    g__law_asks := PySem.W.mg_of X G a__law_asks,
    a__law_place := f__law_place,
    fd__law_place := _,
    F__law_place := fun_mk (st := S__law_place) l__law_place c__law_place k__law_place,
    b__law_place := (fun_mk (st := S__law_place) l__law_place c__law_place k__law_place).binds (ps := ["_law_word"]) fun _ _ _ _ _ _ us hl => match us, hl with | [_], _ => rfl,
    g__law_place := PySem.W.mg_of X G a__law_place,
    a_law := fa,
    fd_law := _,
    F_law := fun_mk (st := S_law) l_law c_law k_law,
    b_law := (fun_mk (st := S_law) l_law c_law k_law).binds (ps := ["_law_script"]) fun _ _ _ _ _ _ us hl => match us, hl with | [_], _ => rfl,
    g_law := PySem.W.mg_of X G a_law,
    n_enumerate := PySem.W.mg_none_of X G z_enumerate,
    n_int := PySem.W.mg_none_of X G z_int,
    n_isinstance := PySem.W.mg_none_of X G z_isinstance,
    n_len := PySem.W.mg_none_of X G z_len,
    n_max := PySem.W.mg_none_of X G z_max,
    n_range := PySem.W.mg_none_of X G z_range,
    n_str := PySem.W.mg_none_of X G z_str,
    k_LEVELS := q_LEVELS,
    g_LEVELS := PySem.W.mg_of X G aq_LEVELS,
    q_LEVELS := fun H => .inr ⟨_, _, _, lq_LEVELS, rfl, rfl, by show 4 ≤ sizeLine; decide, (.cons ⟨_, rfl⟩ (.cons ⟨_, rfl⟩ (.cons ⟨_, rfl⟩ (.cons ⟨_, rfl⟩ .nil))))⟩ }
  exact ⟨T.fd_law, fun s v => .of_eq rfl, fun base _ _ => ok_law T⟩
end My
open PySem PySem.W PyProof.Rows in
set_option maxRecDepth 100000 in
set_option maxHeartbeats 0 in
theorem PySem.Challenge.cw_weblocks_k01_greatest_level_holds : PySem.Challenge.rw_weblocks_k01_greatest_level.Holds := by
  w_on; o_law; k_head; (case hw => w_witness2)
  k_fill
  refine L2.walk_of (l := PySem.Challenge.rw_weblocks_k01_greatest_level) (n := 63) (k := 6) (x := "_law_script") (CX := fun _ => L2.CX0) (sp := fun w => My.spLaw _) rfl (by decide) rfl ⟨rfl, by decide, by decide⟩ (fun w h Y => PySem.W.kIn_of Y) ?F (fun _ _ a ns hl _ hS => ⟨a, ns, rfl, hS, hl, fun _ => rfl⟩) (fun _ _ _ _ _ h => h)
  case F =>
    intro w mg fa h KX G hmg
    refine' My.all_mk KX G hmg ?a_rank ?l_rank ?c_rank ?k_rank ?a_needed ?l_needed ?c_needed ?k_needed ?a_greatest ?l_greatest ?c_greatest ?k_greatest ?a__law_draws ?l__law_draws ?c__law_draws ?k__law_draws ?a__law_take ?l__law_take ?c__law_take ?k__law_take ?a__law_asks ?l__law_asks ?c__law_asks ?k__law_asks ?a__law_place ?l__law_place ?c__law_place ?k__law_place ?a_law ?l_law ?c_law ?k_law ?z_enumerate ?z_int ?z_isinstance ?z_len ?z_max ?z_range ?z_str ?aq_LEVELS ?lq_LEVELS
    (case a_rank => k_is)
    (case l_rank => k_is)
    (case c_rank => k_is)
    (case k_rank => k_is)
    (case a_needed => k_is)
    (case l_needed => k_is)
    (case c_needed => k_is)
    (case k_needed => k_is)
    (case a_greatest => k_is)
    (case l_greatest => k_is)
    (case c_greatest => k_is)
    (case k_greatest => k_is)
    (case a__law_draws => k_is)
    (case l__law_draws => k_is)
    (case c__law_draws => k_is)
    (case k__law_draws => k_is)
    (case a__law_take => k_is)
    (case l__law_take => k_is)
    (case c__law_take => k_is)
    (case k__law_take => k_is)
    (case a__law_asks => k_is)
    (case l__law_asks => k_is)
    (case c__law_asks => k_is)
    (case k__law_asks => k_is)
    (case a__law_place => k_is)
    (case l__law_place => k_is)
    (case c__law_place => k_is)
    (case k__law_place => k_is)
    (case a_law => k_is)
    (case l_law => k_is)
    (case c_law => k_is)
    (case k_law => k_is)
    (case z_enumerate => k_is)
    (case z_int => k_is)
    (case z_isinstance => k_is)
    (case z_len => k_is)
    (case z_max => k_is)
    (case z_range => k_is)
    (case z_str => k_is)
    (case aq_LEVELS => k_is)
    (case lq_LEVELS => k_is)
#print axioms PySem.Challenge.cw_weblocks_k01_greatest_level_holds
