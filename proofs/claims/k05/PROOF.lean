import PyProof.Rows.All
import Wide.All
import OpenK.AllK
import Wide.FinOn
import HandS.ForMost
import PySem.Challenge.RW_stoopers_k05_whole_joins
import KE.GoesMore
import KE.GoesEnum
import KE.KDictPairs
import KE.KSortTup
import KE.KSortKey
import HandS.Sort
import HandS.SortOrd
import HandS.SortRule
import HandS.SortInts
import HandS.Set
import HandS.Strs
import HandS.SetFor
import HandS.Keys
import HandS.SortKw
import HandS.Lambda
import HandS.Defaults
import HandS.Conv
import HandS.IsInst
import HandS.Star
import HandS.TupAny
import HandS.TupLe
import HandS.Flow
import HandS.HeadHook4
import KE.KStateDown
import Lean
import HandS.Head0
import HandS.Head1
import HandS.Head2
import HandS.HeadEnd
import HandS.HeadHook1
import HandS.HeadHook2
import HandS.HeadHook3
import HandS.HeadWalk
/-! text: SBase -/
set_option Elab.async false
set_option linter.all false
set_option maxRecDepth 100000
namespace Sto
open PySem PySem.Spec PyProof.Rows L2
/-! ### the text by places -/
def topS (i : Nat) : Stmt := PySem.Challenge.pw_stoopers_k05_whole_joins.main.body.getD i (.Pass ⟨0, 0, 0, 0⟩)
abbrev s_is_int : Stmt := topS 8
abbrev s_is_from : Stmt := topS 9
abbrev s_is_height : Stmt := topS 10
abbrev s_is_tie : Stmt := topS 11
abbrev s_need_web : Stmt := topS 12
abbrev s_need_heights : Stmt := topS 13
abbrev s_tied_to : Stmt := topS 14
abbrev s_hanging : Stmt := topS 15
abbrev s_everybody : Stmt := topS 16
abbrev s_lots_of : Stmt := topS 17
abbrev s_open_at : Stmt := topS 19
abbrev s_joins : Stmt := topS 20
abbrev s_join_of : Stmt := topS 21
abbrev s_piece_of : Stmt := topS 23
abbrev s_sources_of : Stmt := topS 24
abbrev s_need_both : Stmt := topS 25
abbrev s_is_reached : Stmt := topS 26
abbrev s_fewest_by_height : Stmt := topS 27
abbrev s_joined_at : Stmt := topS 28
abbrev s_passing : Stmt := topS 29
abbrev s_can_pass : Stmt := topS 30
abbrev s_law_taken : Stmt := topS 32
abbrev s_law_pick : Stmt := topS 33
abbrev s_law_alike : Stmt := topS 34
abbrev s_law_web : Stmt := topS 35
abbrev s_law_heights : Stmt := topS 36
abbrev s_law_ties : Stmt := topS 37
abbrev s_law_parts : Stmt := topS 38
abbrev s_law_stoops : Stmt := topS 39
abbrev s_law_after : Stmt := topS 40
abbrev s_law_drawn : Stmt := topS 41
abbrev s_law_open : Stmt := topS 42
abbrev s_law_comes : Stmt := topS 43
abbrev s_law_goal : Stmt := topS 44
abbrev s_law : Stmt := topS 45
end Sto

/-! text: SEnum -/
set_option Elab.async false
set_option linter.all false
set_option maxRecDepth 100000
/-! enumerate of a tuple in a for -/
namespace Sto
open PySem PySem.Spec PyProof.Rows L2
set_option maxHeartbeats 1000000 in
theorem meets_enum1 {v : Value} {o : Obj} {H : Heap → Prop} (B : Begins v o H) :
    Meets (Builtin.«enumerate.__new__» ⟨[.type "enumerate", v], []⟩) (fun _ R s => H s.heap ∧
      R (.ok (.ret (.ref (s.heap.push o).objs.size))) { s with heap := (s.heap.push o).push { cls := .type "enumerate", data := .fields #[.none, .bool false, .ref s.heap.objs.size, rawInt 0, .none, .none] } }) :=
  .of_wp fun prog w A R s h => by
    obtain ⟨hp, g, d, tk, os⟩ := s; obtain ⟨h1, h⟩ := h
    have hsub := sub_enumerate
    have q1 : ∀ {A' : Around} {E : Value → Shared → Prop} {Q : Value → Shared → Prop}, Q (.ref hp.objs.size) ⟨hp.push o, g, d, tk, os⟩ → wpAny (model prog w) A' (pyIter v) Q E ⟨hp, g, d, tk, os⟩ :=
      fun q => B.iter prog w _ _ ⟨hp, g, d, tk, os⟩ _ h1 q
    wp_walk using q1
    refine wpAny_stack_any fun st => wpAny_pure ?_
    split
    · rename_i c _ _ _ _ _
      cases (c == Value.type "enumerate")
      · wp_walk using q1
        exact ⟨_, rfl, h⟩
      · wp_walk using q1
        exact ⟨_, rfl, h⟩
    · wp_walk using q1
      exact ⟨_, rfl, h⟩
section
variable {prog : Program} {w : World} {A : Around} {E : Value → Shared → Prop} {s : Shared}
theorem call_enum1 {v : Value} {o : Obj} {H : Heap → Prop} {Q : Value → Shared → Prop} (B : Begins v o H) (h1 : H s.heap)
    (h : ∀ h', IsEnum h' (s.heap.objs.size + 1) s.heap.objs.size 0 .none → h'.get? s.heap.objs.size = some o → h'.objs.size = s.heap.objs.size + 2 →
      (∀ b o, s.heap.get? b = some o → h'.get? b = some o) → Q (.ref (s.heap.objs.size + 1)) { s with heap := h' }) :
    wpAny (model prog w) A (call (.type "enumerate") [v]) Q E s := by
  refine callType_new F.called_enumerate (by decide) (F.typeCall_enumerate_1 _) (F.newCall_enumerate_1 _) (fun obj => F.args_object_init_2 obj _) F.entry_enumerate_new
    (meets_enum1 B) ⟨h1, ?_⟩
  have hz : (s.heap.push o).objs.size = s.heap.objs.size + 1 := Heap.size_push ..
  show _ ∧ _
  rw [hz]
  have he : IsEnum ((s.heap.push o).push { cls := .type "enumerate", data := .fields #[.none, .bool false, .ref s.heap.objs.size, rawInt 0, .none, .none] }) (s.heap.objs.size + 1) s.heap.objs.size 0 .none := by
    have := Heap.get?_push_size (s.heap.push o) (o := { cls := .type "enumerate", data := .fields #[.none, .bool false, .ref s.heap.objs.size, rawInt 0, .none, .none] }) rfl
    rw [hz] at this; exact this
  refine ⟨⟨_, he, rfl⟩, h _ he (Heap.get?_push_of_some _ (Heap.get?_push_size _ B.free)) (by rw [Heap.size_push, hz]) fun b o x => Heap.get?_push_of_some _ (Heap.get?_push_of_some _ x)⟩
end
/-- the tuple at a, each item in a new pair -/
def IteT (K : PySem.W.Frag) (a : Addr) : It :=
  ⟨fun i H => ∃ (xs : List V) (x : V), SqT K H a xs ∧ xs[i]? = some x, fun i H v H' => ∃ T x, v = .ref T ∧ H T = none ∧ H' = upd H T (.tup [.int (i : Nat), x]) ∧ ∀ xs, SqT K H a xs → xs[i]? = some x, fun i H => ∃ xs : List V, SqT K H a xs ∧ xs.length ≤ i⟩
theorem turn_enumT {P : Program} {w : World} {K : PySem.W.Frag} {elts : List Expr} {kk : Nat} {tpos : Pos} (a e it : Addr) :
    Turn P w K (.Tuple elts kk tpos) (IteT K a) [e, it] e (fun i h => (∃ old, IsEnum h e it ((i : Nat) : Int) old) ∧ h.IsTupleIter it a i ∧ e ≠ it ∧ a ≠ e ∧ a ≠ it) where
  mem := by simp
  obj := fun i h st b hb => by
    obtain ⟨⟨old, he⟩, ⟨o, ho, hc, hd⟩, _⟩ := st
    have e' : b = e ∨ b = it := by simpa using hb
    rcases e' with z | z
    · rw [z]; exact ⟨_, he, fun v q => nomatch q⟩
    · rw [z]; exact ⟨o, ho, fun v q => by rw [hd] at q; cases q⟩
  keep := fun i h h' st k => let ⟨⟨old, he⟩, hi, hne⟩ := st; ⟨⟨old, k e (by simp) _ he⟩, hi.at fun o q => k it (by simp) o q, hne⟩
  item := by
    intro X hP hw hK hc i pins s σ H E I hf st hg
    subst hP hw hK
    obtain ⟨⟨old, he⟩, hit, hne, hae, hai⟩ := st
    obtain ⟨xs, x, hq, hx⟩ := hg
    obtain ⟨its, rv, p, hz⟩ := I.tuple hq
    obtain ⟨u, hu, ru⟩ := rv.get hx
    have hel : e < s.heap.objs.size := Heap.lt_size he
    have hil : it < s.heap.objs.size := by obtain ⟨_, q, _⟩ := hit; exact Heap.lt_size q
    have hlt : i < its.toArray.size := by
      rw [List.size_toArray]
      exact (List.getElem?_eq_some_iff.mp hu).1
    have hpt : s.heap.IsTuple a its.toArray := p
    have D := Draws.tuple (prog := X.prog) (w := X.w) (A := X.A.in1) (show X.A.in1.handled = none from I.ok.hd hc) it a hai its.toArray
    refine wpAny_pyNext_enum_itemD D he ⟨hit, hpt⟩ hlt hne (by simp [hne, Ne.symm hae]) fun y h' tk hy ho hst' hT hsz hk => ?_
    have ey : y = u := by
      have hu' : its.toArray[i]? = some u := by simpa using hu
      rw [hu'] at hy
      exact (Option.some.inj hy).symm
    subst ey
    refine ⟨_, rfl, wpAny_letOwnedTupleGo_enum (s := { s with heap := h', toks := tk + 1 }) ho fun h'' he' sb => ?_⟩
    have hT2 : h''.get? s.heap.objs.size = some { cls := .type "tuple", data := .seq #[.int i tk, y] } := (sb.2 _ (Nat.ne_of_gt hel)).trans hT
    have new : ObjOk X.prog X.w (upd H s.heap.objs.size (.tup [.int (i : Nat), x])) h'' s.heap.objs.size (.tup [.int (i : Nat), x]) :=
      ⟨by show 2 ≤ sizeLine; decide, [.int i tk, y], .cons ⟨_, rfl⟩ (.cons ru .nil), ⟨_, hT2, rfl, _, rfl⟩⟩
    have I1 : Inv X pins σ (upd H s.heap.objs.size (.tup [.int (i : Nat), x])) { s with heap := h'', toks := tk + 1 } :=
      I.turnedNew (ch := [e, it]) (fun b ob hb q => (sb.2 b (fun z => hb (by simp [z]))).trans (hk b ob (fun z => hb (by simp [z])) (fun z => hb (by simp [z])) q)) hf (Nat.le_refl _) new
    refine ⟨.ref s.heap.objs.size, _, I1, rfl, ⟨_, x, rfl, I.hok.fresh (Nat.le_refl _), rfl, fun ys hy' => by rw [I.tuple_inj hy' hq]; exact hx⟩, ⟨⟨y, ?_⟩, hst'.1.at fun o q => (sb.2 it (Ne.symm hne)).trans q, hne, hae, hai⟩, fun b hb => ?_⟩
    · have e1 : ((i + 1 : Nat) : Int) = (i : Int) + 1 := by omega
      rw [e1]; exact he'
    · have hb' : b < s.heap.objs.size := by
        have e' : b = e ∨ b = it := by simpa using hb
        rcases e' with z | z
        · rw [z]; exact hel
        · rw [z]; exact hil
      rw [upd_ne (Nat.ne_of_lt hb')]
      exact (hf b hb).1
  done := by
    intro X hP hw hK hc i pins s σ H E I hf st hg
    subst hP hw hK
    obtain ⟨⟨old, he⟩, hit, hne, hae, hai⟩ := st
    obtain ⟨xs, hq, hx⟩ := hg
    obtain ⟨its, rv, p, hz⟩ := I.tuple hq
    obtain ⟨f0, f1, f2, f3, f4, f5⟩ := hf it (by simp)
    have hl := rv.length
    have hh : X.A.in1.handled = none := I.ok.hd hc
    have hT : s.TypeIs (.ref e) "enumerate" := ⟨_, he, rfl⟩
    unfold pyNext
    refine wpAny_bind (wpAny_attempt (wpAny_callSpecial?_slot (name := Str.ofString "__next__") hT F.slot_enumerate_next
      (wpAny_call_entry F.slot_enumerate_next hT F.entry_enumerate_next ?_ (F.args_enumerate_next_1 _))))
    show wpAny _ _ (field (.ref e) 2 >>= _) _ _ _
    refine wpAny_bind (wpAny_field he rfl (x := .ref it) rfl ?_)
    refine wpAny_bind (wpAny_nextOf_tuple_end hh hit (show s.heap.IsTuple a its.toArray from p) (by simp; omega) fun h' x he' hx' => ?_)
    obtain ⟨o, ho, hc'⟩ := hx'
    refine wpAny_bind (wpAny_isInstance (T := "StopIteration") (b := true) ⟨o, ho, hc'⟩ isSubtype_stop ?_)
    exact wpAny_pure ⟨rfl, I.turned (t' := s.toks) (fun b o hb q => he' b o hb q) f0 f1 f3 f4 f5⟩
  self := fun A i s Q E st h => let ⟨⟨_, he⟩, _⟩ := st; wpAny_pyIter_enum he h
def iEnumT (K : PySem.W.Frag) (ta : TA) : TI := fun σ H R => ta σ H fun vs H1 => ∃ a xs, vs = [.ref a] ∧ SqT K H1 a xs ∧ R (IteT K a) H1
theorem pi_enumT {X : Cx} {e : Expr} {ta : TA} {p pos tpos : Pos} {elts : List Expr} {kk : Nat} (hg : Gl X "enumerate") (hm : X.mg "enumerate" = none) (ha : PA X [e] ta) (hs : starEach [e] X.env = [(false, eval e X.env)] := by rfl) :
    PI X (.Tuple elts kk tpos) (.Call (.Name "enumerate" p) [e] [] pos) (iEnumT X.K ta) := by
  refine ⟨fun pins s σ H R I h => ?_⟩
  refine Call_ (ld_blt I hg hm boot_enumerate (PyProof.Rows.callWith_type1 (thn (ha.run pos pins s σ H _ I h) fun us s1 ⟨vs, H1, I1, r1, q1⟩ => ?_) hs rfl))
  obtain ⟨a, xs, ex, hq, q⟩ := q1
  subst ex
  cases r1 with
  | cons r rr =>
    cases rr
    cases r
    obtain ⟨its, rv, p', hz⟩ := I1.tuple hq
    have hpt : s1.heap.IsTuple a its.toArray := p'
    have hal : a < s1.heap.objs.size := by obtain ⟨_, q, _⟩ := hpt; exact Heap.lt_size q
    refine call_enum1 (begins_tuple a its.toArray) hpt fun h' he hit hsz hk => wpAny_pyIter_enum he ?_
    have I2 : Inv X pins σ H1 { s1 with heap := h' } := I1.kept (t' := s1.toks) hk
    refine ⟨s1.heap.objs.size + 1, [s1.heap.objs.size + 1, s1.heap.objs.size], _, _, H1, rfl, I2, turn_enumT a (s1.heap.objs.size + 1) s1.heap.objs.size, ⟨⟨.none, he⟩, ⟨_, hit, rfl, rfl⟩, Nat.succ_ne_self _, Nat.ne_of_lt (Nat.lt_succ_of_lt hal), Nat.ne_of_lt hal⟩, fun b hb => ?_, q⟩
    have e' : b = s1.heap.objs.size + 1 ∨ b = s1.heap.objs.size := by simpa using hb
    have hle : s1.heap.objs.size ≤ b := by
      rcases e' with z | z
      · rw [z]; exact Nat.le_add_right _ _
      · rw [z]; exact Nat.le_refl _
    exact I1.fpOk hle (I1.hok.fresh hle)
/-- the turns of for .., .. in enumerate(tuple) -/
theorem for_enumT {K : PySem.W.Frag} {a : Addr} {xs : List V} {g : TG} {tb : TS} {D : Ends} {σ : L2.St} {H : Hp} (Pv : Nat → L2.St → Hp → Prop) (h0 : Pv 0 σ H) (hq : ∀ i σ H, Pv i σ H → SqT K H a xs)
    (hs : ∀ i x T σ H, xs[i]? = some x → Pv i σ H → H T = none → g (.ref T) σ (upd H T (.tup [.int (i : Nat), x])) fun σ2 H2 => tb { nx := fun σ' H' => Pv (i + 1) σ' H', rt := D.rt, bk := D.nx, ct := fun σ' H' => Pv (i + 1) σ' H' } σ2 H2)
    (hd : ∀ σ H, Pv xs.length σ H → D.nx σ H) :
    ∃ W : Nat → Nat → L2.St → Hp → Prop, (∃ m, W 0 m σ H) ∧ ∀ i m σ H, W i m σ H →
      ((IteT K a).stop i H ∧ D.nx σ H) ∨ ((IteT K a).go i H ∧ ∃ Nx : L2.St → Hp → Prop, (∀ σ' H', Nx σ' H' → ∃ m', m' < m ∧ W (i + 1) m' σ' H') ∧ ∀ x H', (IteT K a).yld i H x H' → g x σ H' fun σ2 H2 => tb { nx := Nx, rt := D.rt, bk := D.nx, ct := Nx } σ2 H2) := by
  refine ⟨fun i m σ H => m = xs.length - i ∧ i ≤ xs.length ∧ Pv i σ H, ⟨xs.length, by simp, Nat.zero_le _, h0⟩, ?_⟩
  rintro i m σ H ⟨rfl, hi, p⟩
  have q := hq i σ H p
  by_cases hlt : i < xs.length
  · refine .inr ⟨⟨xs, xs[i], q, by simp [hlt]⟩, Pv (i + 1), fun σ' H' p' => ⟨xs.length - (i + 1), by omega, rfl, hlt, p'⟩, fun v H' y => ?_⟩
    obtain ⟨T, x, rfl, nT, rfl, y⟩ := y
    exact hs i x T σ H (y xs q) p nT
  · have e : i = xs.length := by omega
    subst e
    exact .inl ⟨⟨xs, q, Nat.le_refl _⟩, hd σ H p⟩
end Sto

/-! text: SRules -/
set_option Elab.async false
set_option linter.all false
set_option maxRecDepth 100000
set_option maxHeartbeats 4000000
/-! rules that the layer lacks: set of a tuple, tuple and dict by their plain objects, sorted of (int, tuple of ints) -/
namespace Sto
open PySem PySem.Spec PyProof.Rows L2
/-! ### an order: by an int, then by a list of ints -/
theorem lexLt_asym : ∀ x y : List Int, HT.lexLt x y = true → HT.lexLt y x = false
  | [], [], h => by cases h
  | [], _ :: _, _ => rfl
  | _ :: _, [], h => by cases h
  | x :: xs, y :: ys, h => by
    rw [HT.lexLt_cons] at h ⊢
    by_cases e : x = y
    · rw [if_pos e] at h
      rw [if_pos e.symm]
      exact lexLt_asym xs ys h
    · rw [if_neg e] at h
      rw [if_neg (Ne.symm e)]
      have h1 := of_decide_eq_true h
      exact decide_eq_false (by omega)
theorem lexLt_tr : ∀ x y z : List Int, HT.lexLt y x = false → HT.lexLt z y = false → HT.lexLt z x = false
  | [], _, z, _, _ => by cases z <;> rfl
  | x :: xs, [], z, h, _ => by cases h
  | x :: xs, y :: ys, [], _, h2 => by cases h2
  | x :: xs, y :: ys, z :: zs, h1, h2 => by
    rw [HT.lexLt_cons] at h1 h2 ⊢
    by_cases e1 : y = x
    · rw [if_pos e1] at h1
      by_cases e2 : z = y
      · rw [if_pos e2] at h2
        rw [if_pos (e2.trans e1)]
        exact lexLt_tr xs ys zs h1 h2
      · rw [if_neg e2] at h2
        have h3 := of_decide_eq_false h2
        rw [if_neg (by omega)]
        exact decide_eq_false (by omega)
    · rw [if_neg e1] at h1
      have h3 := of_decide_eq_false h1
      by_cases e2 : z = y
      · rw [if_neg (by omega)]
        exact decide_eq_false (by omega)
      · rw [if_neg e2] at h2
        have h4 := of_decide_eq_false h2
        rw [if_neg (by omega)]
        exact decide_eq_false (by omega)
def lexN (p q : Int × List Int) : Bool := if p.1 = q.1 then HT.lexLt p.2 q.2 else decide (p.1 < q.1)
theorem lexN_swo {α : Type} (k : α → Int × List Int) : SrtO.Swo fun v u => lexN (k v) (k u) := by
  refine ⟨fun x y h => ?_, fun x y z h1 h2 => ?_⟩
  · unfold lexN at h ⊢
    by_cases e : (k x).1 = (k y).1
    · rw [if_pos e] at h
      rw [if_pos e.symm]
      exact lexLt_asym _ _ h
    · rw [if_neg e] at h
      rw [if_neg (Ne.symm e)]
      have h1 := of_decide_eq_true h
      exact decide_eq_false (by omega)
  · unfold lexN at h1 h2 ⊢
    by_cases e1 : (k y).1 = (k x).1
    · rw [if_pos e1] at h1
      by_cases e2 : (k z).1 = (k y).1
      · rw [if_pos e2] at h2
        rw [if_pos (e2.trans e1)]
        exact lexLt_tr _ _ _ h1 h2
      · rw [if_neg e2] at h2
        have h3 := of_decide_eq_false h2
        rw [if_neg (by omega)]
        exact decide_eq_false (by omega)
    · rw [if_neg e1] at h1
      have h3 := of_decide_eq_false h1
      by_cases e2 : (k z).1 = (k y).1
      · rw [if_neg (by omega)]
        exact decide_eq_false (by omega)
      · rw [if_neg e2] at h2
        have h4 := of_decide_eq_false h2
        rw [if_neg (by omega)]
        exact decide_eq_false (by omega)
/-! ### set(t), t a tuple of ints -/
section
variable {X : Cx}
def rSetT (K : PySem.W.Frag) (w : World) : List V → Hp → VK → Prop := fun xs H Q => ∃ (p : Addr) (ns : List Int), xs = [.ref p] ∧ SqT K H p (ns.map V.int) ∧ ns.length ≤ 1000 ∧
  ∀ a c, c ≤ ns.length → H a = none → Q (.ref a) (upd H a (SetO w a (fun j => decide (j ∈ ns)) c))
theorem cr_setT (hc : X.calm = true) : CallR X (.type "set") (rSetT X.K X.w) := by
  intro pins s σ H xs us Q I r h
  obtain ⟨p, ns, rfl, hq, hl, q⟩ := h
  rw [Vals.ref1 r]
  obtain ⟨its, rv, pt, hz⟩ := I.tuple hq
  have hi : IntsAre its.toArray.toList ns := Vals.ints rv
  refine call_set_tupI ns (I.ok.hd hc) (show s.heap.IsTuple p its.toArray from pt) hi (by unfold scanBound; omega) fun h' tk c R1 hcn k => ?_
  exact ⟨.ref _, _, I.laid (t' := tk) k (Nat.le_refl _) (setO_new R1), rfl, q _ c hcn (I.hok.fresh (Nat.le_refl _))⟩
end
/-! ### a tuple by its plain object -/
def TupX (a : Addr) (xs : List V) : HO := .ext fun h => xs.length ≤ sizeLine ∧ ∃ its : List Value, Vals xs its ∧ h.get? a = some { cls := .type "tuple", data := .seq its.toArray }
theorem tupX_new {P : Program} {w : World} {H : Hp} {h : Heap} {a : Addr} {xs : List V} (hl : xs.length ≤ sizeLine) {its : List Value} (rv : Vals xs its) (ho : h.get? a = some { cls := .type "tuple", data := .seq its.toArray }) : ObjOk P w H h a (TupX a xs) :=
  ⟨⟨hl, its, rv, ho⟩, ⟨_, ho⟩, fun h1 h2 ⟨hl, its, rv, e⟩ k => ⟨hl, its, rv, k _ e⟩⟩
section
variable {X : Cx}
theorem tupX_get {pins : List (Addr × Obj)} {σ : L2.St} {H : Hp} {s : Shared} {a : Addr} {xs : List V} (I : Inv X pins σ H s) (ha : H a = some (TupX a xs)) :
    xs.length ≤ sizeLine ∧ ∃ its : List Value, Vals xs its ∧ s.heap.get? a = some { cls := .type "tuple", data := .seq its.toArray } := (I.hok a _ ha).1
/-- tuple(list), its object told -/
theorem call_tupleX : CallR X (.type "tuple") (fun xs H Q => ∃ p ys, xs = [.ref p] ∧ SqL X.K H p ys ∧ ∀ l, H l = none → Q (.ref l) (upd H l (TupX l ys))) := by
  intro pins s σ H xs us Q I r h
  obtain ⟨p, ys, rfl, hq, q⟩ := h
  rw [Vals.ref1 r]
  obtain ⟨its, rv, pl, hz⟩ := I.list hq
  refine call_tuple_list pl.isList (fun h' k => ?_) (by rw [List.size_toArray, ← rv.length]; exact hz)
  have I1 : Inv X pins σ H { s with heap := h' } := I.kept (t' := s.toks) k
  have hsz : h'.objs.size ≤ h'.objs.size := Nat.le_refl _
  exact ⟨.ref _, _, I1.laid (t' := s.toks) (fun b u e => Heap.get?_push_of_some _ e) hsz (tupX_new hz rv (Heap.get?_push_size _ rfl)), rfl, q _ (I1.hok.fresh hsz)⟩
/-- dict(t), t such a tuple of pairs -/
theorem call_dictX (hcalm : X.calm = true) : CallR X (.type "dict") (fun xs H Q => ∃ (a : Addr) (ps : List Addr) (kvs : List (Key × V)), xs = [.ref a] ∧ H a = some (TupX a (ps.map V.ref)) ∧ Paired (fun p kv => SqT X.K H p [kV kv.1, kv.2]) ps kvs ∧
    ∀ p, H p = none → Q (.ref p) (upd H p (.dK (mergeK [] kvs)))) := by
  intro pins s σ H xs us Q I r q
  obtain ⟨a, ps, kvs, rfl, hq, hp, q⟩ := q
  rw [Vals.ref1 r]
  obtain ⟨hz, its, rv, ho⟩ := tupX_get I hq
  have ei := refs_at rv
  subst ei
  rw [List.length_map] at hz
  obtain ⟨prs, rel, hl, hpr⟩ := pairs_of I hp
  -- the pairs with their key values as they stand
  have hks : ∀ j : Nat, ∃ u : Value, ∀ q', prs[j]? = some q' → ps[j]? = some (ps.getD j 0) ∧ IsTup s.heap (ps.getD j 0) #[u, q'.2] ∧ keyIs q'.1 u = true := fun j => by
    cases e : prs[j]? with
    | none => exact ⟨.none, fun q' z => by cases z⟩
    | some q0 =>
      obtain ⟨b, u, e1, e2, e3⟩ := hpr j q0 e
      refine ⟨u, fun q' z => ?_⟩
      cases z
      have eb : ps.getD j 0 = b := by rw [List.getD_eq_getElem?_getD, e1]; rfl
      rw [eb]
      exact ⟨e1, e2, e3⟩
  let us : List (Value × Value) := (List.range prs.length).map fun j => (Classical.choose (hks j), (prs.getD j (Sum.inl 0, .none)).2)
  have hus : us.length = ps.length := by
    show ((List.range prs.length).map _).length = _
    rw [List.length_map, List.length_range, hl]
  have huj : ∀ j k v, us[j]? = some (k, v) → ∃ q', prs[j]? = some q' ∧ q'.2 = v ∧ ps[j]? = some (ps.getD j 0) ∧ IsTup s.heap (ps.getD j 0) #[k, v] ∧ keyIs q'.1 k = true := fun j k v e => by
    have e0 : ((List.range prs.length).map fun j => (Classical.choose (hks j), (prs.getD j (Sum.inl 0, .none)).2))[j]? = some (k, v) := e
    rw [List.getElem?_map] at e0
    have hj : j < prs.length := by
      by_cases h : j < prs.length
      · exact h
      · rw [List.getElem?_eq_none (by rw [List.length_range]; omega)] at e0
        cases e0
    rw [List.getElem?_range hj] at e0
    have e1 := Option.some.inj e0
    have eg : prs[j]? = some prs[j] := List.getElem?_eq_getElem hj
    have ed : prs.getD j (Sum.inl 0, .none) = prs[j] := by rw [List.getD_eq_getElem?_getD, eg]; rfl
    have e2 : Classical.choose (hks j) = k := congrArg Prod.fst e1
    have e3 : prs[j].2 = v := by
      have := congrArg Prod.snd e1
      rw [← ed]
      exact this
    have c := Classical.choose_spec (hks j) prs[j] eg
    rw [e2, e3] at c
    exact ⟨prs[j], eg, e3, c⟩
  have P := PySem.PairArg.tuple (prog := X.prog) (w := X.w) a (ps.map Value.ref).toArray (fun j => ps.getD j 0) us
  refine PySem.call_dict_pairs (knd := mixKind X.prog X.w) (kvs := prs) P (I.ok.hd hcalm) ⟨⟨_, _, ho, rfl, rfl, rfl⟩, ⟨by rw [List.size_toArray, List.length_map]; exact hus.symm, fun j k v e => ?_⟩⟩ ⟨by rw [hl]; exact hus.symm, fun j k v e => ?_⟩ (by rw [hus]; exact hz) fun h' tk hd' k => ?_
  · obtain ⟨q', h1, h2, h3, h4, h5⟩ := huj j k v e
    refine ⟨?_, .inl h4⟩
    have : (ps.map Value.ref)[j]? = some (Value.ref (ps.getD j 0)) := by rw [List.getElem?_map, h3]; rfl
    simpa using this
  · obtain ⟨q', h1, h2, h3, h4, h5⟩ := huj j k v e
    exact ⟨q'.1, by rw [h1, ← h2], h5⟩
  · have hm : (s.heap.objs.size == sysModules) = false := beq_eq_false_iff_ne.mpr (Nat.ne_of_gt I.big)
    have hlen : (mergeK [] kvs).length ≤ sizeLine := by
      refine Nat.le_trans (length_mergeK kvs []) ?_
      rw [List.length_nil, Nat.zero_add, rel.length, hl]
      exact hz
    exact ⟨.ref s.heap.objs.size, upd H s.heap.objs.size (.dK (mergeK [] kvs)), I.laid (t' := tk) (fun b o e => k b o (by simp) e) (Nat.le_refl _) (show ObjOk X.prog X.w _ _ _ (.dK (mergeK [] kvs)) from ⟨hlen, hm, merged [] prs, KV.merge rel .nil, hd'⟩), rfl, q _ (I.hok.fresh (Nat.le_refl _))⟩
end
/-! ### (int, tuple of ints) in a sort -/
/-- v is a tuple of the int n and of a tuple of the ints ns -/
def IsNest (h : Heap) (v : Value) (n : Int) (ns : List Int) : Prop := ∃ (a b : Addr) (t : Tok) (its : List Value), v = .ref a ∧ IsTup h a #[.int n t, .ref b] ∧ IsTup h b its.toArray ∧ IntsAre its ns
theorem IsNest.keeps {h h' : Heap} {v : Value} {n : Int} {ns : List Int} (x : IsNest h v n ns) (k : ∀ b o, h.get? b = some o → o.cls = .type "tuple" → h'.get? b = some o) : IsNest h' v n ns := by
  obtain ⟨a, b, t, its, e, ⟨o, ho, hc, r⟩, ⟨o2, ho2, hc2, r2⟩, hi⟩ := x
  exact ⟨a, b, t, its, e, ⟨o, k _ _ ho hc, hc, r⟩, ⟨o2, k _ _ ho2 hc2, hc2, r2⟩, hi⟩
section
variable {prog : Program} {w : World} {A : Around} {E : Value → Shared → Prop} {s : Shared}
theorem nest_firsts {h : Heap} : ∀ {vs : List Value}, (∀ v ∈ vs, ∃ n ns, IsNest h v n ns) → ∃ fs : List Value, PySem.W.KatTups h vs fs ∧ fs.length = vs.length ∧ ∀ f ∈ fs, ∃ i t, f = Value.int i t
  | [], _ => ⟨[], PySem.W.KatTups.nil, rfl, fun f hf => by simp at hf⟩
  | v :: vs, x => by
    obtain ⟨fs, k, hl, hi⟩ := nest_firsts (vs := vs) fun u hu => x u (List.mem_cons_of_mem _ hu)
    obtain ⟨n, ns, a, b, t, its, rfl, ⟨o, ho, hc, m, hd⟩, _, _⟩ := x v (List.mem_cons_self ..)
    refine ⟨.int n t :: fs, PySem.W.KatTups.cons ho hc hd rfl k, by rw [List.length_cons, List.length_cons, hl], fun f hf => ?_⟩
    rcases List.mem_cons.mp hf with rfl | hf
    · exact ⟨n, t, rfl⟩
    · exact hi f hf
theorem nest_kind {vs : List Value} (h0 : 0 < vs.length) (x : ∀ v ∈ vs, ∃ n ns, IsNest s.heap v n ns) {Q : SortKind → Shared → Prop} (h : Q (tuples' true) s) : wpAny (model prog w) A (keyKind' vs.toArray) Q E s := by
  obtain ⟨fs, h1, h2, h3⟩ := nest_firsts x
  refine PySem.W.kat_kind (T := .type "int") h1 (by omega) (fun f hm => ?_) (by rfl) ?_
  · obtain ⟨i, t, rfl⟩ := h3 f hm
    exact PySem.W.Looks.now
  · have e : (Value.type "int" != Value.type "tuple") = true := by first | decide +kernel | rfl | decide
    rw [e]
    exact h
theorem tupKey_of {h : Heap} {b : Addr} {its : List Value} {ns : List Int} (x : IsTup h b its.toArray) (hi : IntsAre its ns) : IsTupleKey (intKind prog w) h ns b := by
  obtain ⟨o, ho, hc, n, hd⟩ := x
  refine ⟨o, _, n, ho, hc, hd, ?_⟩
  rw [List.toList_toArray]
  clear hd hc ho
  induction hi with
  | nil => exact .nil
  | cons k t h ih => exact .cons (intKind_is _ _ _ _) ih
theorem nest_lt (hu : A.units < cLine) {v u : Value} {n m : Int} {ns ms : List Int} (hv : IsNest s.heap v n ns) (hw : IsNest s.heap u m ms) :
    wpAny (model prog w) A (keyLt' (tuples' true) v u) (fun r s' => s' = s ∧ r = lexN (n, ns) (m, ms)) (fun _ _ => False) s := by
  obtain ⟨a, b, t, its, rfl, ⟨o, ho, hc, k, hd⟩, tb, ib⟩ := hv
  obtain ⟨a', b', t', its', rfl, ⟨o', ho', hc', k', hd'⟩, tb', ib'⟩ := hw
  refine PySem.W.kat_lt ho hd ho' hd' ?_
  show PySem.W.KatLex prog w A true (decide (2 < 2)) _ [(.int n t, .int m t'), (.ref b, .ref b')] 0 s
  refine PySem.W.kat_cons (SeqAt.EqAt.int_int n t m t' prog w _ _ ?_)
  refine PySem.W.kat_go (fun e1 => ?_) (fun e1 => ?_)
  · have ex : n = m := by simpa using e1
    have e3 : lexN (n, ns) (m, ms) = HT.lexLt ns ms := if_pos ex
    have k1 : IsTupleKey (intKind prog w) s.heap ns b := tupKey_of tb ib
    have k2 : IsTupleKey (intKind prog w) s.heap ms b' := tupKey_of tb' ib'
    refine PySem.W.kat_yes (PySem.W.kat_cons (wpAny_eqBool_tuple hu k1 k2 ?_))
    refine PySem.W.kat_go (fun e2 => ?_) (fun e2 => ?_)
    · have ey : ns = ms := of_decide_eq_true e2
      have e4 : HT.lexLt ns ms = false := by
        cases q : HT.lexLt ns ms with
        | false => rfl
        | true =>
          rw [ey] at q
          have z := lexLt_asym _ _ q
          rw [q] at z
          cases z
      exact PySem.W.kat_yes (PySem.W.kat_nil ⟨rfl, by rw [e3, e4]; rfl⟩)
    · refine PySem.W.kat_no (PySem.W.kat_one _ _ (HT.lt_tupInts tb tb' (by rw [List.toList_toArray]; exact ib) (by rw [List.toList_toArray]; exact ib') hu ?_))
      exact (show s = s ∧ HT.lexLt ns ms = lexN (n, ns) (m, ms) from ⟨rfl, e3.symm⟩)
  · have ex : ¬ n = m := by simpa using e1
    have e3 : lexN (n, ns) (m, ms) = decide (n < m) := if_neg ex
    exact PySem.W.kat_no (oneLt_int ⟨rfl, e3.symm⟩)
end
/-- sorted(xs), xs a list of tuples (int, tuple of ints); k says which -/
def rSortedN (K : PySem.W.Frag) : List V → Hp → VK → Prop := fun vs H Q => ∃ (a : Addr) (xs : List V) (k : V → Int × List Int), vs = [V.ref a] ∧ SqL K H a xs ∧ (∀ x ∈ xs, ∃ t b, x = V.ref t ∧ H t = some (.tup [.int (k x).1, .ref b]) ∧ H b = some (.tup ((k x).2.map V.int))) ∧
  ∀ ys p, SrtO.Srtd (fun x y => lexN (k x) (k y)) ys → SrtO.Stb (fun x y => lexN (k x) (k y)) ys xs → H p = none → Q (.ref p) (upd H p (.lst ys))
section
variable {X : Cx}
theorem nest_of {pins : List (Addr × Obj)} {σ : L2.St} {H : Hp} {s : Shared} (I : Inv X pins σ H s) {t b : Addr} {n : Int} {ns : List Int} (h1 : H t = some (.tup [.int n, .ref b])) (h2 : H b = some (.tup (ns.map V.int))) : IsNest s.heap (.ref t) n ns := by
  obtain ⟨_, its2, r2, ho⟩ := I.hok _ _ h1
  obtain ⟨u1, u2, rfl, ⟨t1, rfl⟩, rj⟩ := vals2 r2
  cases rj
  obtain ⟨_, its3, r3, hb⟩ := I.hok _ _ h2
  exact ⟨t, b, t1, its3, rfl, ho, hb, Vals.ints r3⟩
theorem cr_sortedN (hu : X.A.units + 2 < cLine) : CallR X (.builtin "sorted") (rSortedN X.K) := by
  intro pins s σ H vs us Q I r h
  obtain ⟨a, xs, k, rfl, hs, hx, q⟩ := h
  obtain ⟨its, rv, hl, hz⟩ := I.list hs
  rw [Vals.ref1 r]
  obtain ⟨e1, e2⟩ := refs_back rv fun x m => by
    obtain ⟨t, b, e, _⟩ := hx x m
    exact ⟨t, e⟩
  have hn : ∀ v ∈ its, IsNest s.heap v (k (backV v)).1 (k (backV v)).2 := fun v hv => by
    obtain ⟨t, rfl⟩ := e2 v hv
    have hm : V.ref t ∈ xs := by rw [e1]; exact List.mem_map.mpr ⟨_, hv, rfl⟩
    obtain ⟨t', b, e, ht, hb⟩ := hx _ hm
    cases e
    exact nest_of I ht hb
  refine SrtO.sorted_ord (ltv := fun v u => lexN (k (backV v)) (k (backV u))) (lexN_swo fun v => k (backV v)) hl.isList (by rw [← rv.length]; exact hz) (fun h2 h₁ a1 ha kk => ?_) fun out h1 h2 => ?_
  · intro h' keep
    have hn' : ∀ v ∈ its, IsNest h' v (k (backV v)).1 (k (backV v)).2 := fun v hv => (hn v hv).keeps fun b o e _ => keep b o (kk b o e).1 (kk b o e).2
    refine ⟨tuples' true, fun Q E hq => nest_kind (by omega) (fun v hv => ⟨_, _, hn' v hv⟩) hq, fun p q hp hq => ?_⟩
    exact nest_lt (s := { s with heap := h' }) (by show X.A.in1.in1.units < cLine; have : X.A.in1.in1.units = X.A.units + 1 + 1 := rfl; omega) (hn' _ hp) (hn' _ hq)
  · have h3 : ∀ u ∈ out, ∃ a, u = Value.ref a := fun u hu => e2 u (h2.perm.mem_iff.mp hu)
    have hb : SrtO.Stb (fun x y => lexN (k x) (k y)) (out.map backV) xs := by
      rw [e1]
      exact SrtO.Stb.map (lexN_swo k) backV h2
    obtain ⟨n, hn⟩ := sortedAll_at s.heap its out.toArray
    refine ⟨.ref _, upd H (s.heap.objs.size + 1) (.lst (out.map backV)), I.laid (t' := s.toks) (fun b o e => sortedAll_old e) (Nat.le_succ _) ⟨?_, out, n, vals_back h3, hn⟩, rfl, q _ _ (SrtO.srtd_map h1) hb (I.hok.fresh (Nat.le_succ _))⟩
    rw [hb.len]
    exact hz
end
end Sto

/-! text: SLam -/
set_option Elab.async false
set_option linter.all false
set_option maxRecDepth 100000
set_option maxHeartbeats 4000000
/-! sorted(xs, key=lambda ..): the lambda made, its calls, the sort by its answers -/
namespace Sto
open PySem PySem.Spec PyProof.Rows L2 LamX
/-- a lambda that captures nothing stands at f -/
def LamO (f : Addr) (q : Str) (params : Arguments) (body : Expr) (scope : Scope) (c' : Addr) : HO := .ext fun h => ∃ pm ctv : Value, h.get? f = some (PySem.W.kla_obj "<lambda>" q params body scope [] pm c' ctv)
theorem lamO_new {P : Program} {w : World} {H : Hp} {h : Heap} {f c' : Addr} {q : Str} {params : Arguments} {body : Expr} {scope : Scope} {pm ctv : Value} (ho : h.get? f = some (PySem.W.kla_obj "<lambda>" q params body scope [] pm c' ctv)) : ObjOk P w H h f (LamO f q params body scope c') :=
  ⟨⟨pm, ctv, ho⟩, ⟨_, ho⟩, fun h1 h2 ⟨pm, ctv, e⟩ k => ⟨pm, ctv, k _ e⟩⟩
section
variable {X : Cx} {pins : List (Addr × Obj)} {σ : L2.St} {H : Hp} {s : Shared}
theorem lam_new {c P : Addr} {q : Str} {params : Arguments} {body : Expr} {scope : Scope} {pos : Pos} {E : Value → Shared → Prop} {Q : Value → Shared → Prop} (I : Inv X pins σ H s) (TB : TabB X.base X.mg c P) (hcode : X.env.code = .ref c) (hq : X.env.qual ++ "<lambda>" = q)
    (hT : TabS H P q) (hdef : defaultsOf params X.env = ([], [])) (hclo : cloFrom X.env.cells scope.names [] = []) (hfree : ∀ y ∈ scope.names, y.2 = .free → ∃ c, X.env.cells.lookup y.1 = some c)
    (h : ∀ (f c' : Addr) (H1 : Hp) (s' : Shared), Inv X pins σ H1 s' → ExtN H H1 → TabS H1 P q → H f = none → H1 f = some (LamO f q params body scope c') → H1 c' = some (CodeO c' q) → Q (.ref f) s') :
    wpAny (model X.prog X.w) X.A (eval (.Lambda params body scope pos) X.env) Q E s := by
  obtain ⟨ps, hP, ht, ha⟩ := hT
  -- from the heap in which the function has just been pushed
  have fin : ∀ (c' : Addr) (pm ctv : Value) (h' : Heap) (tk : Nat) (H1 : Hp), Inv X pins σ H1 { s with heap := h'.push (PySem.W.kla_obj "<lambda>" q params body scope [] pm c' ctv), toks := tk } → ExtN H H1 → TabS H1 P q → H1 c' = some (CodeO c' q) →
      H1 h'.objs.size = none → s.heap.objs.size ≤ h'.objs.size → Q (.ref h'.objs.size) { s with heap := h'.push (PySem.W.kla_obj "<lambda>" q params body scope [] pm c' ctv), toks := tk } := by
    intro c' pm ctv h' tk H1 I1 eN T1 hc1 hn hsz
    have ho : (h'.push (PySem.W.kla_obj "<lambda>" q params body scope [] pm c' ctv)).get? h'.objs.size = some (PySem.W.kla_obj "<lambda>" q params body scope [] pm c' ctv) := Heap.get?_push_size _ rfl
    have fp : FpOk X pins H1 h'.objs.size := I.fpOk hsz hn
    have I2 := I1.take (t' := tk) (h' := h'.push (PySem.W.kla_obj "<lambda>" q params body scope [] pm c' ctv)) (it := h'.objs.size) (o := LamO h'.objs.size q params body scope c') (fun b ob _ e => e) fp (lamO_new ho)
    have ex1 : ∀ b o, H1 b = some o → upd H1 h'.objs.size (LamO h'.objs.size q params body scope c') b = some o := fun b o e => by
      rw [upd_ne (ne_of_none e hn)]
      exact e
    exact h _ c' _ _ I2 (eN.trans (ExtN.of ex1)) (T1.ext ex1) (I.hok.fresh hsz) upd_same (ex1 _ _ hc1)
  refine PySem.W.kla_eval hdef ?_
  rw [hq]
  have bP : s.heap.BuiltinsAt X.mg P := TB.bm.keeps I.bk
  have hP' : s.heap.get? P = some { cls := .none, data := .fields ps } := I.hok P _ hP
  have clo : closureFor scope X.env = pure [] := (closure_ok hfree).trans (by rw [hclo])
  cases hc : codeAmong pos ps.toList with
  | none =>
    refine PySem.W.kla_makeFunction (mg := X.mg) (c := c) (P := P) (ps := ps) clo I.ok.glob (I.mod.glob.keeps I.bk) hcode (TB.code.keeps I.bk) hP' ht hc TB.gP bP fun c' ctv h' tk hx hge hlt hrec htb => ?_
    obtain ⟨c2, oc, vs, t, e2, hoc, hd, hv⟩ := hrec
    cases e2
    have hsz : s.heap.objs.size ≤ h'.objs.size := Nat.le_trans hge (Nat.le_of_lt hlt)
    have nC : H c' = none := I.hok.fresh hge
    have I1 := inv_table (t' := tk) (q := q) (more := #[rawInt pos.line, rawInt pos.col, .ref c']) (h' := h'.push (PySem.W.kla_obj "<lambda>" q params body scope [] ((X.mg "__name__").getD .none) c' ctv)) I hP
      (fun b o hb e => Heap.get?_push_of_some _ (hx b o hb e)) (Heap.get?_push_of_some _ htb) hge ⟨oc, vs, t, Heap.get?_push_of_some _ hoc, hd, hv⟩
    have hE : ExtN H (upd (upd H P (.tbl (ps ++ #[rawInt pos.line, rawInt pos.col, .ref c']))) c' (CodeO c' q)) := fun b o e n => by
      have hb : b ≠ P := fun z => n ps (Option.some.inj (e.symm.trans (by rw [z]; exact hP)))
      rw [upd_ne (ne_of_none e nC), upd_ne hb]
      exact e
    have eL : (ps ++ #[rawInt pos.line, rawInt pos.col, .ref c']).toList = ps.toList ++ [rawInt pos.line, rawInt pos.col, .ref c'] := by simp
    refine fin c' _ ctv h' tk _ I1 hE ⟨ps ++ #[rawInt pos.line, rawInt pos.col, .ref c'], ?_, ?_, fun p' cv hcv => ?_⟩ upd_same ?_ hsz
    · rw [upd_ne (ne_of_none hP nC), upd_same]
    · rw [eL]
      exact PySem.TriplesOk_snoc _ _ _ _ ht
    · rw [eL] at hcv
      rcases among_app _ ht hcv with z | z
      · obtain ⟨c0, e1, e2⟩ := ha p' cv z
        exact ⟨c0, e1, hE _ _ e2 codeO_ne⟩
      · exact ⟨c', z, upd_same⟩
    · have n1 : h'.objs.size ≠ c' := Nat.ne_of_gt hlt
      have n2 : h'.objs.size ≠ P := Nat.ne_of_gt (Nat.lt_of_lt_of_le (Heap.lt_size hP') hsz)
      rw [upd_ne n1, upd_ne n2]
      exact I.hok.fresh hsz
  | some cv =>
    obtain ⟨c', e, hco⟩ := ha pos cv hc
    subst e
    refine PySem.W.kla_makeFunctionHit (mg := X.mg) (c := c) (P := P) (ps := ps) clo I.ok.glob (I.mod.glob.keeps I.bk) hcode (TB.code.keeps I.bk) hP' ht hc bP fun ctv h' tk hx hsz => ?_
    have I1 : Inv X pins σ H { s with heap := h'.push (PySem.W.kla_obj "<lambda>" q params body scope [] ((X.mg "__name__").getD .none) c' ctv), toks := tk } := I.kept fun b o e => Heap.get?_push_of_some _ (hx b o e)
    exact fin c' _ ctv h' tk H I1 (ExtN.refl H) ⟨ps, hP, ht, ha⟩ hco (I.hok.fresh hsz) hsz
end
/-- the lambda as a value -/
def tLamE (P : Addr) (q : Str) (params : Arguments) (body : Expr) (scope : Scope) : TE := fun _ H Q => TabS H P q ∧ ∀ (f c' : Addr) (H1 : Hp), ExtN H H1 → TabS H1 P q → H f = none → H1 f = some (LamO f q params body scope c') → H1 c' = some (CodeO c' q) → Q (.ref f) H1
theorem pe_lam {X : Cx} {c P : Addr} {q : Str} {params : Arguments} {body : Expr} {scope : Scope} {pos : Pos} (TB : TabB X.base X.mg c P) (hcode : X.env.code = .ref c) (hq : X.env.qual ++ "<lambda>" = q) (hdef : defaultsOf params X.env = ([], []))
    (hclo : cloFrom X.env.cells scope.names [] = []) (hfree : ∀ y ∈ scope.names, y.2 = .free → ∃ c, X.env.cells.lookup y.1 = some c) : PE X (.Lambda params body scope pos) (tLamE P q params body scope) :=
  ⟨fun pins s σ H Q I h => lam_new I TB hcode hq h.1 hdef hclo hfree fun f c' H1 s' I1 eN T1 hn hf hc => ⟨.ref f, H1, I1, rfl, h.2 f c' H1 eN T1 hn hf hc⟩⟩
/-! ### a call of it -/
theorem lam_run {P : Program} {w : World} {K : PySem.W.Frag} {mg : Str → Option Value} {base : Heap} {k : Nat} {f c' : Addr} {qual : Str} {params : Arguments} {body : Expr} {scope : Scope} {pm ctv : Value} {N ps : List Str} {A : Around} {outer : List Env} {s : Shared} {H : Hp} {us : List Value} {vs : List V} {Q : VK}
    (S : FnScope N ps scope) (hr : Room (k + 1) A) (e0 : Env0 P w K mg base A outer s H) (ho : s.heap.get? f = some (PySem.W.kla_obj "<lambda>" qual params body scope [] pm c' ctv)) (hcd : s.heap.CodeRec (.ref c') qual)
    (hbind : bindArgs (PySem.W.kla_fn "<lambda>" qual params body scope [] pm (.ref c') ctv) ⟨us, []⟩ = pure (ps.zip us)) (r : Vals vs us) (hl : vs.length = ps.length)
    (hbody : Room k (A.deeper (envOfC qual scope s.heap.objs.size f (.ref c'))) → ∃ t, PE (cxOf CX0 P w K mg base N qual scope f (.ref c') A outer s H E0) body t ∧ t (L2.start N vs) H Q) :
    codeAny (model P w) A (.call (.ref f) ⟨us, []⟩) (CR CX0 outer P w H s Q E0) s := by
  have lim : s.heap.NoLimit := e0.mod.nolimit.keeps fun b o e => (e0.bs b o e).1
  have hkind : ∀ y ∈ ps.zip us, scope.names.lookup y.1 = some .local ∨ (scope.names.lookup y.1 = some .cell ∧ ((cellsFrom (s.heap.objs.size + 1) scope.names []).lookup y.1).isSome = true) := fun y hy => by
    rcases S.par y.1 (List.of_mem_zip (show (y.1, y.2) ∈ ps.zip us from hy)).1 with q | q
    · exact .inl q
    · exact .inr ⟨q, PySem.W.cellsFrom_some _ _ _ (.inl q)⟩
  refine PySem.W.kla_callFunE hr.depth ho rfl S.co S.gen rfl hcd ?_
  rw [hbind]
  refine wpAny_pure (wpAny_newFunctionEnv_cells S.kind hkind fun env he s1 x => ?_)
  subst he
  refine ⟨lim.keeps x.toInCall.keep, PySem.W.kla_codeExpr ?_⟩
  obtain ⟨t, ht, hq⟩ := hbody (hr.deeper _)
  have I : Inv (cxOf CX0 P w K mg base N qual scope f (.ref c') A outer s H E0) [] (L2.start N vs) H s1 := inv_start S hr.hd e0 hl r x
  refine wpAny_mono (ht.run [] s1 (L2.start N vs) H Q I hq) (fun u s' hs => ?_) fun e s' hs => hs
  obtain ⟨v, H', J, rv, q⟩ := hs
  exact ⟨v, H', J.os, J.bare, J.base, J.hok, rv, q⟩
end Sto

/-! text: SKey -/
set_option Elab.async false
set_option linter.all false
set_option maxRecDepth 100000
set_option maxHeartbeats 4000000
/-! sorted(xs, key=f), xs tuples of ints, f a lambda that gives (len(x), x) -/
namespace Sto
open PySem PySem.Spec PyProof.Rows L2 LamX
/-- len, then the ints -/
def lenKey (ns : List Int) : Int × List Int := ((ns.length : Int), ns)
/-- what the lambda is to do, at any state -/
def LamDoes (X : Cx) (k : Nat) (f c' : Addr) (q : Str) (params : Arguments) (body : Expr) (scope : Scope) (N ps : List Str) : Prop :=
  FnScope N ps scope ∧ ps.length = 1 ∧ (∀ (pm ctv u : Value), bindArgs (PySem.W.kla_fn "<lambda>" q params body scope [] pm (.ref c') ctv) ⟨[u], []⟩ = pure (ps.zip [u])) ∧
  ∀ (A : Around) (outer : List Env) (s : Shared) (H : Hp) (t : Addr) (ns : List Int) (Q : VK), Room k (A.deeper (envOfC q scope s.heap.objs.size f (.ref c'))) → H t = some (.tup (ns.map V.int)) →
    (∀ p, H p = none → Q (.ref p) (upd H p (.tup [.int (ns.length : Int), .ref t]))) →
    ∃ te, PE (cxOf CX0 X.prog X.w X.K X.mg X.base N q scope f (.ref c') A outer s H E0) body te ∧ te (L2.start N [.ref t]) H Q
section
variable {X : Cx} {pins : List (Addr × Obj)} {σ : L2.St} {H : Hp} {s : Shared} {f c' : Addr} {q : Str} {params : Arguments} {body : Expr} {scope : Scope} {N ps : List Str} {k : Nat}
theorem lam_at (D : LamDoes X k f c' q params body scope N ps) (hr : Room (k + 3) X.A) (I : Inv X pins σ H s) (hf : H f = some (LamO f q params body scope c')) (hc : H c' = some (CodeO c' q)) {t : Addr} {ns : List Int} (ht : H t = some (.tup (ns.map V.int))) :
    wpAny (model X.prog X.w) X.A.in1.in1 (call (.ref f) [.ref t]) (fun v s' => ∃ p H', v = .ref p ∧ Inv X pins σ H' s' ∧ Un (frs X.stack) [] H H' s.heap s'.heap ∧ (∀ b o, H b = some o → H' b = some o) ∧ H' p = some (.tup [.int (ns.length : Int), .ref t])) (fun _ _ => False) s := by
  obtain ⟨S, hl, hb, hbody⟩ := D
  obtain ⟨⟨pm, ctv, ho⟩, _, _⟩ := I.hok f _ hf
  obtain ⟨⟨oc, vs, tk, hoc, hdc, hvc⟩, _, _⟩ := I.hok c' _ hc
  have hr1 : Room (k + 1) X.A.in1.in1 := hr.in1.in1
  have rc := lam_run (P := X.prog) (w := X.w) (K := X.K) (mg := X.mg) (base := X.base) (k := k) (vs := [V.ref t]) (us := [Value.ref t]) (Q := fun y H' => ∃ p, y = V.ref p ∧ H p = none ∧ H' = upd H p (.tup [.int (ns.length : Int), .ref t])) S hr1 I.env0.in1.in1 ho ⟨c', oc, vs, tk, rfl, hoc, hdc, hvc⟩ (hb pm ctv (.ref t)) (.cons rfl .nil) hl.symm fun hr' =>
    hbody _ _ s H t ns _ hr' ht fun p hp => ⟨p, rfl, hp, rfl⟩
  refine wpAny_call (codeAny_mono rc fun r s' hq => ?_)
  cases r with
  | error e => exact (show False from hq)
  | ok fl =>
    cases fl with
    | next => exact False.elim hq
    | brk => exact False.elim hq
    | cont => exact False.elim hq
    | ret u =>
      obtain ⟨y, H', os, bare, un, hok, rv, p, rfl, hp, e⟩ := hq
      cases rv
      obtain ⟨hh, g, d, t', os'⟩ := s'
      obtain rfl : os' = s.os := os
      refine ⟨p, H', rfl, I.call (h' := hh) (g' := g) (d' := d) (t' := t') (ch := []) un hok bare (fun b z => absurd z (by simp)), un, fun b o eb => ?_, ?_⟩
      · rw [e, upd_ne (ne_of_none eb hp)]
        exact eb
      · rw [e, upd_same]
/-- an untracked object of ours stays behind such a call -/
theorem own_keep {H' : Hp} {h' : Heap} {b : Addr} {o : Obj} (I : Inv X pins σ H s) (un : Un (frs X.stack) [] H H' s.heap h') (fp : FpOk X pins H b) (ho : s.heap.get? b = some o) : h'.get? b = some o ∧ FpOk X pins H' b := by
  obtain ⟨f0, f1, f2, f3, f4, f5⟩ := fp
  refine ⟨un.keep b o ho f0 (fun z => ?_) (by simp), un.free b o ho f0 (by simp), f1, f2, f3, f4, f5⟩
  rcases List.mem_cons.mp (I.stkSub b z) with e | e
  · exact f1 e
  · exact f2 e
/-- it is written -/
theorem own_turn {b : Addr} {g : Obj → Obj} (I : Inv X pins σ H s) (fp : FpOk X pins H b) : Inv X pins σ H { s with heap := s.heap.update b g } := by
  obtain ⟨f0, f1, f2, f3, f4, f5⟩ := fp
  exact I.turned (t' := s.toks) (fun c o hb e => ((Heap.SameBut.update s.heap b g).2 c hb).trans e) f0 f1 f3 f4 f5
/-- the tail of the sort: the list is filled again -/
theorem keyed_tail {A : Around} {a kS : Addr} {ks : List Value} {e e1 : Nat} {st : SortSt} {R : PySem.Fin → Shared → Prop} {E : Value → Shared → Prop} (I : Inv X pins σ H s) (fa : FpOk X pins H a) (fk : FpOk X pins H kS) (hne : kS ≠ a)
    (hk : s.heap.get? kS = some (seqObj "list" ks.toArray e)) (ha : s.heap.get? a = some (seqObj "list" #[] e1)) (hlk : ks.length ≤ sizeLine) (hz : (arrOf st).size ≤ sizeLine) (hfl : failedOf st = none)
    (h : ∀ s2 c, Inv X pins σ H s2 → s2.heap.get? a = some (seqObj "list" ((arrOf st).map (·.2)) c) → R (.done (.ret .none)) s2) : wpAny (model X.prog X.w) A (ksk_tail a false e1 (.ref kS) st) R E s := by
  have s1 := Heap.SameBut.update s.heap kS (Obj.mapSeq fun _ => (#[] : Array Value))
  have ha1 : (s.heap.update kS (Obj.mapSeq fun _ => (#[] : Array Value))).get? a = some (seqObj "list" #[] e1) := (s1.2 a hne.symm).trans ha
  have I1 := own_turn (g := Obj.mapSeq fun _ => (#[] : Array Value)) I fk
  unfold ksk_tail
  try dsimp only
  refine wpAny_bind (listUpdate_at hk rfl ?_ (by rw [List.size_toArray]; exact hlk) (Nat.zero_le _))
  refine wpAny_bind (wpAny_letGo ?_)
  refine wpAny_bind (seqEpoch_at ha1 rfl ?_)
  refine wpAny_bind (listUpdate_at ha1 rfl ?_ (Nat.zero_le _) (by
    show ((arrOf st).map (·.2)).size ≤ sizeLine + 1
    rw [Array.size_map]
    omega))
  rw [hfl]
  simp only [bne_self_eq_false, Bool.false_eq_true, if_false]
  have I2 := own_turn (s := { s with heap := s.heap.update kS (Obj.mapSeq fun _ => (#[] : Array Value)) }) (g := Obj.mapSeq fun _ => (arrOf st).map (·.2)) I1 fa
  obtain ⟨c2, hc2⟩ : ∃ c2, ((s.heap.update kS (Obj.mapSeq fun _ => (#[] : Array Value))).update a (Obj.mapSeq fun _ => (arrOf st).map (·.2))).get? a = some (seqObj "list" ((arrOf st).map (·.2)) c2) := ⟨_, get?_update_seq ha1 fun _ => (arrOf st).map (·.2)⟩
  exact wpAny_pure (h _ c2 I2 hc2)
/-- list.sort(key=f) of the list at a, which nobody else knows -/
theorem keyed_tree {a : Addr} {its : List Value} {n : Nat} {kb : Value → List Int} {R : PySem.Fin → Shared → Prop} {E : Value → Shared → Prop} (D : LamDoes X k f c' q params body scope N ps) (hr : Room (k + 3) X.A) (I : Inv X pins σ H s) (hf : H f = some (LamO f q params body scope c')) (hc : H c' = some (CodeO c' q))
    (fa : FpOk X pins H a) (ho : s.heap.get? a = some (seqObj "list" its.toArray n)) (hz : its.length ≤ sizeLine) (hx : ∀ u ∈ its, ∃ t, u = .ref t ∧ H t = some (.tup ((kb u).map V.int)))
    (h : ∀ (s2 : Shared) (H2 : Hp) (out : List Value) (c : Nat), Inv X pins σ H2 s2 → (∀ b o, H b = some o → H2 b = some o) → FpOk X pins H2 a → s2.heap.get? a = some (seqObj "list" out.toArray c) →
      SrtO.Srtd (fun v u => lexN (lenKey (kb v)) (lenKey (kb u))) out → SrtO.Stb (fun v u => lexN (lenKey (kb v)) (lenKey (kb u))) out its → R (.done (.ret .none)) s2) :
    wpAny (model X.prog X.w) X.A.in1.in1 (ksk_tree a (.ref f) false) R E s := by
  have ha : a < s.heap.objs.size := Heap.lt_size ho
  have I1 := own_turn (g := Obj.mapSeq fun _ => (#[] : Array Value)) I fa
  obtain ⟨e1, ho1⟩ : ∃ e1, (s.heap.update a (Obj.mapSeq fun _ => (#[] : Array Value))).get? a = some (seqObj "list" #[] e1) := ⟨_, get?_update_seq ho fun _ => #[]⟩
  unfold ksk_tree
  refine wpAny_bind (listItems_at ho rfl ?_)
  refine wpAny_bind (listUpdate_at ho rfl ?_ (by rw [List.size_toArray]; exact hz) (Nat.zero_le _))
  refine wpAny_bind (seqEpoch_at ho1 rfl ?_)
  refine wpAny_bind (wpAny_newTuple ?_ (by show its.length ≤ _; exact hz))
  refine wpAny_bind (wpAny_newList ?_ (Nat.zero_le _))
  refine wpAny_holding ?_
  generalize hh1 : s.heap.update a (Obj.mapSeq fun _ => (#[] : Array Value)) = h1 at I1 ho1 ⊢
  have kp : ∀ b o, h1.get? b = some o → ((h1.push (seqObj "tuple" its.toArray 0)).push (seqObj "list" #[] 0)).get? b = some o := fun b o e => Heap.get?_push_of_some _ (Heap.get?_push_of_some _ e)
  generalize hkS : (h1.push (seqObj "tuple" its.toArray 0)).objs.size = kS
  have hge : h1.objs.size ≤ kS := by
    rw [← hkS, size_push']
    exact Nat.le_succ _
  have hgk : ((h1.push (seqObj "tuple" its.toArray 0)).push (seqObj "list" #[] 0)).get? kS = some (seqObj "list" ([] : List Value).toArray 0) := by
    rw [← hkS]
    exact Heap.get?_push_size _ rfl
  have ha1 := kp _ _ ho1
  have hne : kS ≠ a := by
    have z : a < h1.objs.size := Heap.lt_size ho1
    exact Nat.ne_of_gt (Nat.lt_of_lt_of_le z hge)
  have fk : FpOk X pins H kS := I1.fpOk hge (I1.hok.fresh hge)
  have I4 : Inv X pins σ H { s with heap := (h1.push (seqObj "tuple" its.toArray 0)).push (seqObj "list" #[] 0) } := I1.kept (t' := s.toks) kp
  clear I1 ho1 kp hkS hge hh1
  generalize (h1.push (seqObj "tuple" its.toArray 0)).push (seqObj "list" #[] 0) = h4 at I4 hgk ha1 ⊢
  unfold ksk_rest
  refine wpAny_bind (wpAny_rule ?_)
  first
    | rw [List.forIn_toArray]
    | (rw [← Array.forIn_toList]; simp only [List.toList_toArray])
  refine wpAny_bind (ksk_fold (fun i s' => ∃ (H' : Hp) (ks : List Value) (e : Nat), Inv X pins σ H' s' ∧ (∀ b o, H b = some o → H' b = some o) ∧ FpOk X pins H' kS ∧ FpOk X pins H' a ∧
      s'.heap.get? kS = some (seqObj "list" ks.toArray e) ∧ s'.heap.get? a = some (seqObj "list" #[] e1) ∧ ks.length = i ∧
      ∀ (j : Nat) (v u : Value), ks[j]? = some v → its[j]? = some u → ∃ p b, v = .ref p ∧ H' p = some (.tup [.int ((kb u).length : Int), .ref b]) ∧ H' b = some (.tup ((kb u).map V.int))) its 0 { s with heap := h4 }
    ⟨H, [], 0, I4, fun _ _ e => e, fk, fa, hgk, ha1, rfl, fun j v u e => by simp at e⟩ ?step ?done)
  case step =>
    rintro j x s' hxj ⟨H', ks, e, I', sm, fk', fa', hk', ha', hl, hks⟩
    rw [Nat.zero_add] at hl
    have hj : j < its.length := (List.getElem?_eq_some_iff.mp hxj).1
    obtain ⟨t, rfl, ht⟩ := hx x (List.mem_of_getElem? hxj)
    refine wpAny_bind (wpAny_attempt (wpAny_mono (lam_at D hr I' (sm _ _ hf) (sm _ _ hc) (sm _ _ ht)) (fun v s'' he => ?_) fun _ _ hF => hF.elim))
    obtain ⟨p, H'', rfl, I'', un, sm2, hp⟩ := he
    obtain ⟨hk2, fk2⟩ := own_keep I' un fk' hk'
    obtain ⟨ha2, fa2⟩ := own_keep I' un fa' ha'
    try dsimp only
    have hsz : ks.toArray.size ≤ sizeLine := by
      rw [List.size_toArray]
      omega
    refine wpAny_bind (listUpdate_at hk2 rfl ?_ hsz (by rw [Array.size_push]; omega))
    have sb := Heap.SameBut.update s''.heap kS (Obj.mapSeq (·.push (Value.ref p)))
    have eks : ks.toArray.push (Value.ref p) = (ks ++ [Value.ref p]).toArray := by simp
    refine wpAny_pure ⟨rfl, H'', ks ++ [.ref p], _, own_turn (g := Obj.mapSeq (·.push (Value.ref p))) I'' fk2, fun b o eb => sm2 _ _ (sm _ _ eb), fk2, fa2, by
      rw [← eks]
      exact get?_update_seq hk2 (·.push (Value.ref p)), (sb.2 a hne.symm).trans ha2, by rw [List.length_append, hl, Nat.zero_add]; rfl, fun i v u ev eu => ?_⟩
    by_cases hi : i < ks.length
    · rw [List.getElem?_append_left hi] at ev
      obtain ⟨p', b', e1, e2, e3⟩ := hks i v u ev eu
      exact ⟨p', b', e1, sm2 _ _ e2, sm2 _ _ e3⟩
    · have hi2 : i < ks.length + 1 := by
        have z := (List.getElem?_eq_some_iff.mp ev).1
        rw [List.length_append] at z
        exact z
      have ei : i = j := by omega
      subst ei
      rw [List.getElem?_append_right (by omega), hl, Nat.sub_self] at ev
      have ev' : Value.ref p = v := Option.some.inj ev
      rw [hxj] at eu
      have eu' : Value.ref t = u := Option.some.inj eu
      rw [← ev', ← eu']
      exact ⟨p, t, rfl, hp, sm2 _ _ (sm _ _ ht)⟩
  case done =>
    rintro s' ⟨H', ks, e, I', sm, fk', fa', hk', ha', hl, hks⟩
    rw [Nat.zero_add] at hl
    try dsimp only
    refine wpAny_bind (listItems_at hk' rfl ?_)
    have hzl : (ks.toArray.zip its.toArray).toList = ks.zip its := by simp
    have hzs : (ks.toArray.zip its.toArray).size = its.length := by
      rw [Array.size_zip, List.size_toArray, List.size_toArray, hl, Nat.min_self]
    have fin : ∀ st' : SortSt, SrtO.Srtd (fun p q : Keyed => lexN (lenKey (kb p.2)) (lenKey (kb q.2))) (arrOf st').toList → SrtO.Stb (fun p q : Keyed => lexN (lenKey (kb p.2)) (lenKey (kb q.2))) (arrOf st').toList (ks.zip its) → failedOf st' = none →
        wpAny (model X.prog X.w) X.A.in1.in1 (ksk_tail a false e1 (.ref kS) st') R E s' := by
      intro st' h1 h2 hfl
      have hsz2 : (arrOf st').size = its.length := by
        have z := h2.len
        rw [Array.length_toList, List.length_zip, hl, Nat.min_self] at z
        exact z
      refine keyed_tail I' fa' fk' hne hk' ha' (by omega) (by omega) hfl fun s2 c I2 ha2 => ?_
      have em : ((arrOf st').map (·.2)) = ((arrOf st').toList.map (·.2)).toArray := by
        rw [← Array.toList_map, Array.toArray_toList]
      rw [em] at ha2
      refine h s2 H' _ c I2 sm fa' ha2 (SrtO.srtd_map h1) ?_
      have z := SrtO.Stb.map (lexN_swo fun u => lenKey (kb u)) (fun p : Keyed => p.2) h2
      have ez : (ks.zip its).map (fun p : Keyed => p.2) = its := List.map_snd_zip (by omega)
      rw [ez] at z
      exact z
    unfold ksk_end
    try dsimp only
    simp only [Bool.false_eq_true, if_false]
    by_cases h2 : its.toArray.size < 2
    · rw [if_pos h2, if_pos h2]
      refine wpAny_bind (wpAny_pure ?_)
      rw [StateT.run_pure]
      refine wpAny_bind (wpAny_pure ?_)
      try dsimp only
      refine fin (SortSt.mk' general' (ks.toArray.zip its.toArray) #[] 7 none) ?_ ?_ rfl
      · show SrtO.Srtd _ (ks.toArray.zip its.toArray).toList
        have hlen : (ks.zip its).length < 2 := by
          rw [List.size_toArray] at h2
          rw [List.length_zip]
          omega
        rw [hzl]
        match ks.zip its, hlen with
        | [], _ => exact List.Pairwise.nil
        | [v], _ => exact List.pairwise_singleton _ _
        | _ :: _ :: l, h => exact absurd h (by rw [List.length_cons, List.length_cons]; omega)
      · show SrtO.Stb _ (ks.toArray.zip its.toArray).toList (ks.zip its)
        rw [hzl]
        exact SrtO.Stb.refl _
    · rw [if_neg h2, if_neg h2]
      rw [List.size_toArray] at h2
      have key : ∀ p : Keyed, p ∈ ks.zip its → IsNest s'.heap p.1 ((kb p.2).length : Int) (kb p.2) := fun p hp => by
        obtain ⟨j, hj⟩ := List.getElem?_of_mem hp
        rw [List.getElem?_zip_eq_some] at hj
        obtain ⟨p', b', e1, e2, e3⟩ := hks j p.1 p.2 hj.1 hj.2
        rw [e1]
        exact nest_of I' e2 e3
      have hkn : ∀ v ∈ ks, ∃ n ns, IsNest s'.heap v n ns := fun v hv => by
        obtain ⟨j, hj⟩ := List.getElem?_of_mem hv
        have hj2 : j < its.length := by
          have := (List.getElem?_eq_some_iff.mp hj).1
          omega
        obtain ⟨p', b', e1, e2, e3⟩ := hks j v its[j] hj (List.getElem?_eq_getElem hj2)
        rw [e1]
        exact ⟨_, _, nest_of I' e2 e3⟩
      refine wpAny_bind (nest_kind (by omega) hkn ?_)
      have hu : X.A.in1.in1.units < cLine := by
        have := hr.in1.in1.units0
        exact this
      have T : SrtO.Cmp X.prog X.w X.A.in1.in1 s' (tuples' true) (fun p => p ∈ ks.zip its) (fun p q : Keyed => lexN (lenKey (kb p.2)) (lenKey (kb q.2))) := fun p q hp hq => nest_lt hu (key p hp) (key q hq)
      refine wpAny_bind (wpAny_mono (SrtO.wpS_sortO (st0 := SortSt.mk' (tuples' true) (ks.toArray.zip its.toArray) #[] 7 none)
        (Q := fun _ st' => SrtO.Srtd (fun p q : Keyed => lexN (lenKey (kb p.2)) (lenKey (kb q.2))) (arrOf st').toList ∧ SrtO.Stb (fun p q : Keyed => lexN (lenKey (kb p.2)) (lenKey (kb q.2))) (arrOf st').toList (ks.zip its) ∧ failedOf st' = none)
        (lexN_swo fun p : Keyed => lenKey (kb p.2)) T rfl (fun p hp => by
          have hp' : p ∈ (ks.toArray.zip its.toArray).toList := hp
          rw [hzl] at hp'
          exact hp') rfl rfl fun st' a1 a2 a3 => ⟨a1, by
          have a2' : SrtO.Stb _ (arrOf st').toList (ks.toArray.zip its.toArray).toList := a2
          rw [hzl] at a2'
          exact a2', a3⟩) ?_ fun _ _ e => e)
      rintro ⟨⟨⟩, st'⟩ s3 ⟨rfl, h1, h3, hfl⟩
      try dsimp only
      exact fin st' h1 h3 hfl
/-- sorted(xs, key=the lambda) -/
def rSortLam (K : PySem.W.Frag) (q : Str) (params : Arguments) (body : Expr) (scope : Scope) : List V → List V → Hp → VK → Prop := fun vs zs H Q => ∃ (a : Addr) (xs : List V) (kx : V → List Int) (f c' : Addr), vs = [V.ref a] ∧ zs = [V.ref f] ∧
  H f = some (LamO f q params body scope c') ∧ H c' = some (CodeO c' q) ∧ SqL K H a xs ∧ (∀ x ∈ xs, ∃ t, x = V.ref t ∧ H t = some (.tup ((kx x).map V.int))) ∧
  ∀ (H' : Hp) (ys : List V) (p : Addr), (∀ b o, H b = some o → H' b = some o) → SrtO.Srtd (fun x y => lexN (lenKey (kx x)) (lenKey (kx y))) ys → SrtO.Stb (fun x y => lexN (lenKey (kx x)) (lenKey (kx y))) ys xs → H p = none → H' p = some (.lst ys) → Q (.ref p) H'
end
theorem cr_sortLam {X : Cx} {k : Nat} {q : Str} {params : Arguments} {body : Expr} {scope : Scope} {N ps : List Str} (D : ∀ f c', LamDoes X k f c' q params body scope N ps) (hr : Room (k + 3) X.A) : CallRK X (.builtin "sorted") [Str.ofString "key"] (rSortLam X.K q params body scope) := by
  intro pins s σ H vs zs us ws Q I r rz h
  obtain ⟨a, xs, kx, f, c', rfl, rfl, hf, hc, hs, hx, hq⟩ := h
  obtain rfl := Vals.ref1 r
  obtain rfl := Vals.ref1 rz
  obtain ⟨its, rv, hl, hz⟩ := I.list hs
  have hzi : its.length ≤ sizeLine := by rw [← rv.length]; exact hz
  obtain ⟨e1, e2⟩ := refs_back rv fun x m => by
    obtain ⟨t, e, _⟩ := hx x m
    exact ⟨t, e⟩
  show wpAny (model X.prog X.w) X.A (call (.builtin "sorted") [.ref a] [(Str.ofString "key", .ref f)]) _ _ _
  refine call_function_entry_kw kind_sorted plain_sorted entry_sorted (ksk_s1 _ _) ?_
  unfold Builtin.«sorted»
  refine wpAny_bind (m := checkCount "sorted" 1 1 _) (wpAny_pure ?_)
  refine wpAny_bind (collect_list hl.isList ?_ hzi)
  refine wpAny_bind (wpAny_newList ?_ hzi)
  have hsz : ((s.heap.push (seqObj "list" #[] 0)).update s.heap.objs.size (Obj.mapSeq (· ++ its.toArray))).objs.size = s.heap.objs.size + 1 := by
    rw [Heap.size_update, size_push']
  have hoL : (((s.heap.push (seqObj "list" #[] 0)).update s.heap.objs.size (Obj.mapSeq (· ++ its.toArray))).push (seqObj "list" its.toArray 0)).get? (s.heap.objs.size + 1) = some (seqObj "list" its.toArray 0) := by
    rw [← hsz]; exact Heap.get?_push_size _ rfl
  have keep : ∀ b o, s.heap.get? b = some o → (((s.heap.push (seqObj "list" #[] 0)).update s.heap.objs.size (Obj.mapSeq (· ++ its.toArray))).push (seqObj "list" its.toArray 0)).get? b = some o := fun b o e => by
    have hlt : b < s.heap.objs.size := Heap.lt_size e
    refine Heap.get?_push_of_some _ ?_
    rw [Heap.get?_update_ne _ _ _ _ (Nat.ne_of_lt hlt)]
    exact Heap.get?_push_of_some _ e
  show wpAny _ _ _ _ _ { s with heap := ((s.heap.push (seqObj "list" #[] 0)).update s.heap.objs.size (Obj.mapSeq (· ++ its.toArray))).push (seqObj "list" its.toArray 0) }
  rw [hsz]
  have I1 : Inv X pins σ H { s with heap := ((s.heap.push (seqObj "list" #[] 0)).update s.heap.objs.size (Obj.mapSeq (· ++ its.toArray))).push (seqObj "list" its.toArray 0) } := I.kept (t' := s.toks) keep
  have fp : FpOk X pins H (s.heap.objs.size + 1) := I.fpOk (Nat.le_succ _) (I.hok.fresh (Nat.le_succ _))
  refine wpAny_bind (wpAny_holding (wpAny_call_entry_kw slot_list_sort ⟨_, hoL, rfl⟩ entry_list_sort ?body (ksk_l1 _ _)))
  case body =>
    show wpAny (model X.prog X.w) X.A.in1.in1 (Builtin.«list.sort» ⟨[.ref (s.heap.objs.size + 1)], [(Str.ofString "key", .ref f)]⟩) _ _ _
    rw [ksk_t1]
    refine keyed_tree (kb := fun u => kx (backV u)) (D f c') hr I1 hf hc fp hoL hzi (fun u hu => ?_) fun s2 H2 out c I2 sm fp2 ho2 h1 h2 => ⟨_, rfl, wpAny_pure ⟨_, rfl, ?_⟩⟩
    · obtain ⟨t, rfl⟩ := e2 u hu
      have hm : V.ref t ∈ xs := by rw [e1]; exact List.mem_map.mpr ⟨_, hu, rfl⟩
      obtain ⟨t', e, ht⟩ := hx _ hm
      cases e
      exact ⟨t, rfl, ht⟩
    · have h3 : ∀ u ∈ out, ∃ a, u = Value.ref a := fun u hu => e2 u (h2.perm.mem_iff.mp hu)
      have hb : SrtO.Stb (fun x y => lexN (lenKey (kx x)) (lenKey (kx y))) (out.map backV) xs := by
        rw [e1]
        exact SrtO.Stb.map (lexN_swo fun x => lenKey (kx x)) backV h2
      have hlen : (out.map backV).length ≤ sizeLine := by
        rw [hb.len]
        exact hz
      have I3 : Inv X pins σ (upd H2 (s.heap.objs.size + 1) (.lst (out.map backV))) s2 := by
        have z := I2.take (t' := s2.toks) (h' := s2.heap) (it := s.heap.objs.size + 1) (o := .lst (out.map backV)) (fun b ob _ e => e) fp2 ⟨hlen, out, c, vals_back h3, ho2⟩
        exact z
      refine ⟨.ref (s.heap.objs.size + 1), _, I3, rfl, hq _ _ _ (fun b o e => ?_) (SrtO.srtd_map h1) hb fp.1 upd_same⟩
      have e' := sm b o e
      rw [upd_ne (ne_of_none e' fp2.1)]
      exact e'
end Sto

/-! text: SData -/
set_option Elab.async false
set_option linter.all false
set_option maxRecDepth 100000
/-! what the defs share: callable defs, data in the heap, comprehensions by their data -/
namespace Sto
open PySem PySem.Spec PyProof.Rows L2
/-! ### builtins -/
theorem bo_isinstance : bootBuiltins "isinstance" = some (.builtin "isinstance") := by decide +kernel
theorem bo_sorted : bootBuiltins "sorted" = some (.builtin "sorted") := by decide +kernel
theorem bo_len : bootBuiltins "len" = some (.builtin "len") := by decide +kernel
theorem bo_all : bootBuiltins "all" = some (.builtin "all") := by decide +kernel
theorem bo_any : bootBuiltins "any" = some (.builtin "any") := by decide +kernel
theorem bo_int : bootBuiltins "int" = some (.type "int") := by decide +kernel
theorem bo_bool : bootBuiltins "bool" = some (.type "bool") := by decide +kernel
theorem bo_str : bootBuiltins "str" = some (.type "str") := by decide +kernel
theorem bo_tuple : bootBuiltins "tuple" = some (.type "tuple") := by decide +kernel
theorem bo_list : bootBuiltins "list" = some (.type "list") := by decide +kernel
theorem bo_set : bootBuiltins "set" = some (.type "set") := by decide +kernel
theorem bo_dict : bootBuiltins "dict" = some (.type "dict") := by decide +kernel
/-- the names that the text leaves to the builtins, its two constants -/
structure Tx (mg : Str → Option Value) : Prop where
  isinstance : mg "isinstance" = none
  int : mg "int" = none
  bool : mg "bool" = none
  tuple : mg "tuple" = none
  list : mg "list" = none
  str : mg "str" = none
  len : mg "len" = none
  enumerate : mg "enumerate" = none
  sorted : mg "sorted" = none
  range : mg "range" = none
  all : mg "all" = none
  any : mg "any" = none
  set : mg "set" = none
  dict : mg "dict" = none
  mp : ∃ u, mg "MOST_PERSONS" = some u ∧ RelV (.int 8) u
  mh : ∃ u, mg "MOST_HEIGHT" = some u ∧ RelV (.int 1000) u
/-! ### a def that may be called by its name -/
structure Ca (P : Program) (w : World) (K : PySem.W.Frag) (mg : Str → Option Value) (base : Heap) (k : Nat) (x : Str) (sp : Sp) : Prop where
  ex : ∃ (f : Addr) (fd : FuncData) (ps : List Str), FnOk P w K mg base CX0 k f fd ps sp ∧ mg x = some (.ref f) ∧ PySem.W.keepIn K (.ref f) = true ∧ Binds K fd ps []
/-- a def of the text, as the top has left it -/
structure Df (K : PySem.W.Frag) (mg : Str → Option Value) (x : Str) (st : Stmt) (ps : List Str) : Prop where
  ex : ∃ (f : Addr) (fd : FuncData), FunD K x x (defArgs st) (defBody st) (defScope st) [] [] f fd ∧ mg x = some (.ref f) ∧ Binds K fd ps []
section
variable {P : Program} {w : World} {K : PySem.W.Frag} {mg : Str → Option Value} {base : Heap}
theorem Df.ca {x : Str} {st : Stmt} {N ps : List Str} {k : Nat} {sp : Sp} (D : Df K mg x st ps) (S : FnScope N ps (defScope st)) (len : ∀ vs H Q E, sp vs H Q E → vs.length = ps.length)
    (hbody : ∀ (f : Addr) (cdv : Value) (A : Around) (outer : List Env) (s : Shared) (H : Hp) (vs : List V) (Q : VK) (E : XK), Room k (A.deeper (envOfC x (defScope st) s.heap.objs.size f cdv)) → sp vs H Q E →
      ∃ t, PSs (cxOf CX0 P w K mg base N x (defScope st) f cdv A outer s H E).nox (defBody st) t ∧ t { nx := fun _ H' => Q .non H', rt := Q } (L2.start N vs) H) : Ca P w K mg base (k + 1) x sp := by
  obtain ⟨f, fd, F, hm, hb⟩ := D.ex
  refine ⟨f, fd, ps, F.ok S len fun cdv A outer s H vs Q E hr h => ?_, hm, F.kp, hb⟩
  obtain ⟨t, h1, h2⟩ := hbody f cdv A outer s H vs Q E hr h
  exact ⟨t, h1.nox, h2⟩
theorem Ca.imp {x : Str} {k : Nat} {sp sp' : Sp} (c : Ca P w K mg base k x sp) (h : ∀ vs H Q E, sp' vs H Q E → sp vs H Q E) : Ca P w K mg base k x sp' := by
  obtain ⟨f, fd, ps, F, r⟩ := c.ex
  exact ⟨f, fd, ps, F.imp h, r⟩
end
theorem pe_ca {X : Cx} {k j : Nat} {x : Str} {sp : Sp} {p pos : Pos} {e : Expr} {es : List Expr} {t : TA} (c : Ca X.prog X.w X.K X.mg X.base k x sp) (hr : Room j X.A) (hk : k ≤ j) (hg : Gl X x) (ha : PA X (e :: es) t)
    (hdb : (x == ("__debug__" : Str)) = false := by decide) (he : starEach (e :: es) X.env = (false, eval e X.env) :: starEach es X.env := by rfl) (hpl : (backTo pos (starEach es X.env)).any (·.1) = false := by rfl) :
    PE X (.Call (.Name x p) (e :: es) [] pos) (tCall sp [] E0 t) := by
  obtain ⟨f, fd, ps, F, hm, kp, b⟩ := c.ex
  exact pe_call F (hr.mono hk) hg hm kp b .nil pass0 ha hdb he hpl
theorem pe_gc {X : Cx} {x : Str} {pos : Pos} {v : V} (hg : Gl X x) (h : ∃ u, X.mg x = some u ∧ RelV v u) (hd : (x == ("__debug__" : Str)) = false := by decide) : PE X (.Name x pos) (tC v) := by
  obtain ⟨u, hm, r⟩ := h
  exact pe_glob hg hm r hd
/-! ### data in the heap -/
/-- all tuples stay -/
def TSm (H H' : Hp) : Prop := ∀ b xs, H b = some (.tup xs) → H' b = some (.tup xs)
theorem tsm_of {H H' : Hp} (h : Same H H') : TSm H H' := fun b xs e => h b _ e
theorem tsm_upd {H : Hp} {D : Addr} {xs ys : List V} (h : H D = some (.lst xs)) : TSm H (upd H D (.lst ys)) := fun b zs e => by
  rw [upd_ne (fun z => by rw [z, h] at e; cases e)]
  exact e
theorem TSm.trans {H H1 H2 : Hp} (a : TSm H H1) (b : TSm H1 H2) : TSm H H2 := fun c xs e => b c xs (a c xs e)
theorem same_upd {H : Hp} {p : Addr} {o : HO} (h : H p = none) : Same H (upd H p o) := fun b x e => by
  rw [upd_ne (ne_of_none e h)]
  exact e
theorem same_lst {H0 H : Hp} {D : Addr} {ys : List V} (n : H0 D = none) (h : Same H0 H) : Same H0 (upd H D (.lst ys)) := fun b x e => by
  rw [upd_ne (ne_of_none e n)]
  exact h _ _ e
/-- v stands for x, in any heap that keeps the tuples -/
class Rep (α : Type) where
  R : Hp → V → α → Prop
  mono : ∀ {H H' : Hp} {v : V} {x : α}, TSm H H' → R H v x → R H' v x
instance : Rep Int := ⟨fun _ v x => v = .int x, fun _ h => h⟩
instance : Rep Bool := ⟨fun _ v x => v = .bl x, fun _ h => h⟩
/-- a tuple of such -/
structure Tu (α : Type) where
  xs : List α
def RTu {α : Type} [Rep α] (H : Hp) (v : V) (xs : List α) : Prop := ∃ a vs, v = .ref a ∧ H a = some (.tup vs) ∧ Paired (Rep.R H) vs xs
theorem paired_mono {α : Type} [Rep α] {H H' : Hp} (h : TSm H H') {vs : List V} {xs : List α} (p : Paired (Rep.R H) vs xs) : Paired (Rep.R H') vs xs := Paired.mapP p fun _ _ r => Rep.mono h r
instance {α : Type} [Rep α] : Rep (List α) := ⟨RTu, fun h ⟨a, vs, e, ha, p⟩ => ⟨a, vs, e, h _ _ ha, paired_mono h p⟩⟩
instance {α β : Type} [Rep α] [Rep β] : Rep (α × β) := ⟨fun H v p => ∃ a u w, v = .ref a ∧ H a = some (.tup [u, w]) ∧ Rep.R H u p.1 ∧ Rep.R H w p.2, fun h ⟨a, u, w, e, ha, r1, r2⟩ => ⟨a, u, w, e, h _ _ ha, Rep.mono h r1, Rep.mono h r2⟩⟩
abbrev Rp {α : Type} [Rep α] (H : Hp) (v : V) (x : α) : Prop := Rep.R H v x
theorem Rp.mono {α : Type} [Rep α] {H H' : Hp} {v : V} {x : α} (h : Same H H') (r : Rp H v x) : Rp H' v x := Rep.mono (tsm_of h) r
/-- a list at a of such -/
def Ls {α : Type} [Rep α] (H : Hp) (a : Addr) (xs : List α) : Prop := ∃ vs, H a = some (.lst vs) ∧ Paired (Rep.R H) vs xs
theorem Ls.mono {α : Type} [Rep α] {H H' : Hp} {a : Addr} {xs : List α} (h : Same H H') (r : Ls H a xs) : Ls H' a xs := by
  obtain ⟨vs, e, p⟩ := r
  exact ⟨vs, h _ _ e, paired_mono (tsm_of h) p⟩
theorem paired_ints {H : Hp} : ∀ {vs : List V} {ns : List Int}, Paired (Rep.R (α := Int) H) vs ns → vs = ns.map V.int
  | _, _, .nil => rfl
  | _, _, .cons h t => by
    rw [List.map_cons, paired_ints t]
    exact congrArg (fun z => z :: _) h
theorem paired_of_ints {H : Hp} : ∀ ns : List Int, Paired (Rep.R (α := Int) H) (ns.map V.int) ns
  | [] => .nil
  | n :: ns => .cons rfl (paired_of_ints ns)
theorem paired_bls {H : Hp} : ∀ {vs : List V} {ns : List Bool}, Paired (Rep.R (α := Bool) H) vs ns → vs = ns.map V.bl
  | _, _, .nil => rfl
  | _, _, .cons h t => by
    rw [List.map_cons, paired_bls t]
    exact congrArg (fun z => z :: _) h
theorem ti_iff {H : Hp} {a : Addr} {ns : List Int} : Rp H (.ref a) ns ↔ H a = some (.tup (ns.map V.int)) := by
  constructor
  · rintro ⟨b, vs, e, h, p⟩
    cases e
    rw [h, paired_ints p]
  · intro h
    exact ⟨a, _, rfl, h, paired_of_ints ns⟩
theorem rp_ref {α : Type} [Rep α] {H : Hp} {v : V} {xs : List α} (h : Rp H v xs) : ∃ a vs, v = .ref a ∧ H a = some (.tup vs) ∧ Paired (Rep.R H) vs xs := h
theorem rp_ints {H : Hp} {v : V} {ns : List Int} (h : Rp H v ns) : ∃ a, v = .ref a ∧ H a = some (.tup (ns.map V.int)) := by
  obtain ⟨a, vs, e, h, p⟩ := h
  exact ⟨a, e, by rw [h, paired_ints p]⟩
theorem ls_ints {H : Hp} {a : Addr} {ns : List Int} : Ls H a ns ↔ H a = some (.lst (ns.map V.int)) := by
  constructor
  · rintro ⟨vs, h, p⟩
    rw [h, paired_ints p]
  · intro h
    exact ⟨_, h, paired_of_ints ns⟩
theorem paired_at {α β : Type} {F : α → β → Prop} : ∀ {l : List α} {m : List β} {i : Nat} {x : α}, Paired F l m → l[i]? = some x → ∃ y, m[i]? = some y ∧ F x y
  | _, _, i, x, .nil, e => by simp at e
  | _, _, 0, x, .cons h t, e => by
    have e' := Option.some.inj e
    subst e'
    exact ⟨_, rfl, h⟩
  | _, _, i + 1, x, .cons h t, e => paired_at (i := i) t e
theorem paired_at2 {α β : Type} {F : α → β → Prop} : ∀ {l : List α} {m : List β} {i : Nat} {y : β}, Paired F l m → m[i]? = some y → ∃ x, l[i]? = some x ∧ F x y
  | _, _, i, x, .nil, e => by simp at e
  | _, _, 0, x, .cons h t, e => by
    have e' := Option.some.inj e
    subst e'
    exact ⟨_, rfl, h⟩
  | _, _, i + 1, x, .cons h t, e => paired_at2 (i := i) t e
theorem paired_app {α β : Type} {F : α → β → Prop} : ∀ {l l' : List α} {m m' : List β}, Paired F l m → Paired F l' m' → Paired F (l ++ l') (m ++ m')
  | _, _, _, _, .nil, q => q
  | _, _, _, _, .cons h t, q => .cons h (paired_app t q)
/-! ### a comprehension by its data -/
/-- the loop of a comprehension over items that come one by one: what is made -/
theorem lc_data {α β : Type} [Rep α] [Rep β] {xs : List V} {as : List α} {g : TG} {tt : TT} {te : TE} {vs : List Nat} {σ : L2.St} {H1 : Hp} {D : Addr} (p : α → Bool) (f : α → β) (hD : H1 D = none) (hz : as.length < sizeLine) (hR : Paired (Rep.R H1) xs as)
    (hs : ∀ (v : V) (x : α) (H : Hp) (kF : Hp → Prop) (kT : V → Hp → Prop), x ∈ as → Rp H v x → Same H1 H → (p x = false → ∀ H', Same H H' → kF H') → (p x = true → ∀ y H', Same H H' → Rp H' y (f x) → kT y H') →
      g v (wipe σ vs) H fun σ2 H2 => wipe σ2 vs = wipe σ vs ∧ tt σ2 H2 fun b H3 => if b = true then te σ2 H3 kT else kF H3) (i : Nat) (v : V) (H : Hp) (hv : xs[i]? = some v) (hP : Same H1 H ∧ ∃ acc, H D = some (.lst acc) ∧ Paired (Rep.R H) acc (((as.take i).filter p).map f)) :
    g v (wipe σ vs) H fun σ2 H2 => wipe σ2 vs = wipe σ vs ∧ tt σ2 H2 fun b H3 =>
      if b = true then te σ2 H3 fun y H4 => ∃ acc, H4 D = some (.lst acc) ∧ acc.length < sizeLine ∧ (Same H1 (upd H4 D (.lst (acc ++ [y]))) ∧ ∃ acc', upd H4 D (.lst (acc ++ [y])) D = some (.lst acc') ∧ Paired (Rep.R (upd H4 D (.lst (acc ++ [y])))) acc' (((as.take (i + 1)).filter p).map f))
      else (Same H1 H3 ∧ ∃ acc, H3 D = some (.lst acc) ∧ Paired (Rep.R H3) acc (((as.take (i + 1)).filter p).map f)) := by
  obtain ⟨x, hx, rx⟩ := paired_at hR hv
  obtain ⟨sm, acc, hacc, pa⟩ := hP
  have et : as.take (i + 1) = as.take i ++ [x] := by rw [List.take_add_one, hx]; rfl
  refine hs v x H _ _ (List.mem_of_getElem? hx) (Rep.mono (tsm_of sm) rx) sm (fun e H' s' => ?_) fun e y H' s' ry => ?_
  · refine ⟨sm.trans s', acc, s' _ _ hacc, ?_⟩
    have e2 : ((as.take (i + 1)).filter p).map f = ((as.take i).filter p).map f := by
      rw [et, List.filter_append]
      simp [e]
    rw [e2]
    exact paired_mono (tsm_of s') pa
  · have hl : acc.length < sizeLine := by
      have q := Paired.length pa
      rw [List.length_map] at q
      have q2 : ((as.take i).filter p).length ≤ (as.take i).length := List.length_filter_le _ _
      have q3 : (as.take i).length ≤ as.length := by rw [List.length_take]; exact Nat.min_le_right _ _
      omega
    refine ⟨acc, s' _ _ hacc, hl, same_lst hD (sm.trans s'), _, upd_same, ?_⟩
    have e2 : ((as.take (i + 1)).filter p).map f = ((as.take i).filter p).map f ++ [f x] := by
      rw [et, List.filter_append, List.map_append]
      simp [e]
    rw [e2]
    have t1 : TSm H' (upd H' D (.lst (acc ++ [y]))) := tsm_upd (s' _ _ hacc)
    exact paired_app (paired_mono ((tsm_of s').trans t1) pa) (.cons (Rep.mono t1 ry) .nil)
abbrev LcGoal (J : It) (g : TG) (tt : TT) (te : TE) (vs : List Nat) (σ : L2.St) (H1 : Hp) (D : Addr) (Qd : Hp → Prop) : Prop :=
  ∃ W : Nat → Nat → Hp → Prop, (∃ m, W 0 m (upd H1 D (.lst []))) ∧ ∀ i m H, W i m H →
      (J.stop i H ∧ Qd H) ∨ (J.go i H ∧ ∃ Nx : Hp → Prop, (∀ H', Nx H' → ∃ m', m' < m ∧ W (i + 1) m' H') ∧ ∀ x H', J.yld i H x H' → g x (wipe σ vs) H' fun σ2 H2 => wipe σ2 vs = wipe σ vs ∧ tt σ2 H2 fun b H3 =>
        if b = true then te σ2 H3 fun y H4 => ∃ acc, H4 D = some (.lst acc) ∧ acc.length < sizeLine ∧ Nx (upd H4 D (.lst (acc ++ [y]))) else Nx H3)
section
variable {α β : Type} [Rep α] [Rep β] {K : PySem.W.Frag} {a : Addr} {xs : List V} {as : List α} {g : TG} {tt : TT} {te : TE} {vs : List Nat} {σ : L2.St} {H1 : Hp} {D : Addr} {Qd : Hp → Prop}
theorem lcL (p : α → Bool) (f : α → β) (hsrc : SqL K H1 a xs) (hD : H1 D = none) (hz : as.length < sizeLine) (hR : Paired (Rep.R H1) xs as)
    (hs : ∀ (v : V) (x : α) (H : Hp) (kF : Hp → Prop) (kT : V → Hp → Prop), x ∈ as → Rp H v x → Same H1 H → (p x = false → ∀ H', Same H H' → kF H') → (p x = true → ∀ y H', Same H H' → Rp H' y (f x) → kT y H') →
      g v (wipe σ vs) H fun σ2 H2 => wipe σ2 vs = wipe σ vs ∧ tt σ2 H2 fun b H3 => if b = true then te σ2 H3 kT else kF H3) (hd : ∀ H, Same H1 H → Ls H D ((as.filter p).map f) → Qd H) : LcGoal (Itl K a) g tt te vs σ H1 D Qd := by
  refine lc_list (K := K) (a := a) (xs := xs) (fun i H => Same H1 H ∧ ∃ acc, H D = some (.lst acc) ∧ Paired (Rep.R H) acc (((as.take i).filter p).map f)) ⟨same_upd hD, [], upd_same, .nil⟩ (fun i H _ h => h.1.seq hsrc) (fun i v H hv hP => lc_data p f hD hz hR hs i v H hv hP) fun H h => ?_
  obtain ⟨s1, acc, e, pa⟩ := h
  rw [Paired.length hR, List.take_length] at pa
  exact hd H s1 ⟨acc, e, pa⟩
theorem sqT_same {H H' : Hp} (e : Same H H') (h : SqT K H a xs) : SqT K H' a xs := by
  rcases h with (h | ⟨o, h⟩) | h
  · exact .inl (.inl (e _ _ h))
  · exact .inl (.inr ⟨o, e _ _ h⟩)
  · exact .inr h
theorem lcT (p : α → Bool) (f : α → β) (hsrc : SqT K H1 a xs) (hD : H1 D = none) (hz : as.length < sizeLine) (hR : Paired (Rep.R H1) xs as)
    (hs : ∀ (v : V) (x : α) (H : Hp) (kF : Hp → Prop) (kT : V → Hp → Prop), x ∈ as → Rp H v x → Same H1 H → (p x = false → ∀ H', Same H H' → kF H') → (p x = true → ∀ y H', Same H H' → Rp H' y (f x) → kT y H') →
      g v (wipe σ vs) H fun σ2 H2 => wipe σ2 vs = wipe σ vs ∧ tt σ2 H2 fun b H3 => if b = true then te σ2 H3 kT else kF H3) (hd : ∀ H, Same H1 H → Ls H D ((as.filter p).map f) → Qd H) : LcGoal (Itt K a) g tt te vs σ H1 D Qd := by
  refine lc_tup (K := K) (a := a) (xs := xs) (fun i H => Same H1 H ∧ ∃ acc, H D = some (.lst acc) ∧ Paired (Rep.R H) acc (((as.take i).filter p).map f)) ⟨same_upd hD, [], upd_same, .nil⟩ (fun i H _ h => sqT_same h.1 hsrc) (fun i v H hv hP => lc_data p f hD hz hR hs i v H hv hP) fun H h => ?_
  obtain ⟨s1, acc, e, pa⟩ := h
  rw [Paired.length hR, List.take_length] at pa
  exact hd H s1 ⟨acc, e, pa⟩
/-- 0, 1, .. below n -/
def upto (n : Nat) : List Int := (List.range n).map fun (i : Nat) => (i : Int)
theorem upto_len (n : Nat) : (upto n).length = n := by unfold upto; rw [List.length_map, List.length_range]
theorem mem_upto {n : Nat} {x : Int} : x ∈ upto n ↔ 0 ≤ x ∧ x < n := by
  unfold upto
  rw [List.mem_map]
  constructor
  · rintro ⟨i, hi, rfl⟩
    have := List.mem_range.mp hi
    omega
  · intro h
    exact ⟨x.toNat, List.mem_range.mpr (by omega), by omega⟩
theorem upto_at {n i : Nat} (h : i < n) : (upto n)[i]? = some (i : Int) := by
  unfold upto
  rw [List.getElem?_map, List.getElem?_range h]
  rfl
theorem lcR {β : Type} [Rep β] {n : Nat} (p : Int → Bool) (f : Int → β) (hD : H1 D = none) (hz : n < sizeLine)
    (hs : ∀ (x : Int) (H : Hp) (kF : Hp → Prop) (kT : V → Hp → Prop), 0 ≤ x → x < n → Same H1 H → (p x = false → ∀ H', Same H H' → kF H') → (p x = true → ∀ y H', Same H H' → Rp H' y (f x) → kT y H') →
      g (.int x) (wipe σ vs) H fun σ2 H2 => wipe σ2 vs = wipe σ vs ∧ tt σ2 H2 fun b H3 => if b = true then te σ2 H3 kT else kF H3) (hd : ∀ H, Same H1 H → Ls H D (((upto n).filter p).map f) → Qd H) : LcGoal (Itr 0 n) g tt te vs σ H1 D Qd := by
  refine lc_range (lo := 0) (n := n) (fun i H => Same H1 H ∧ ∃ acc, H D = some (.lst acc) ∧ Paired (Rep.R H) acc ((((upto n).take i).filter p).map f)) ⟨same_upd hD, [], upd_same, .nil⟩ (fun i H hi hP => ?_) fun H h => ?_
  · have hv : ((upto n).map V.int)[i]? = some (.int (0 + (i : Nat))) := by
      rw [List.getElem?_map, upto_at hi]
      show some (V.int (i : Int)) = some (V.int (0 + (i : Int)))
      rw [Int.zero_add]
    refine lc_data (H1 := H1) (xs := (upto n).map V.int) p f hD (by rw [upto_len]; exact hz) (paired_of_ints _) (fun v x H kF kT hx rx s1 h1 h2 => ?_) i _ H hv hP
    have ev : v = .int x := rx
    subst ev
    exact hs x H kF kT (mem_upto.mp hx).1 (mem_upto.mp hx).2 s1 h1 h2
  · obtain ⟨s1, acc, e, pa⟩ := h
    have et : (upto n).take n = upto n := List.take_of_length_le (by rw [upto_len]; exact Nat.le_refl _)
    rw [et] at pa
    exact hd H s1 ⟨acc, e, pa⟩
end
theorem filter_tt {α : Type} (l : List α) : l.filter (fun _ => true) = l := by simp
end Sto

/-! text: SMath -/
set_option linter.all false
/-! the mathematics: who hangs together in a lot, found by a search and by sweeps; plain lists -/
namespace Sto
def adj (ties : List (Int × Int)) (p x : Int) : Prop := (p, x) ∈ ties ∨ (x, p) ∈ ties
theorem adj_symm {ties : List (Int × Int)} {p x : Int} (h : adj ties p x) : adj ties x p := h.symm
/-- from p along ties through the lot -/
inductive Reach (ties : List (Int × Int)) (lot : List Int) (p : Int) : Int → Prop
  | refl : Reach ties lot p p
  | step {x y : Int} : Reach ties lot p x → adj ties x y → y ∈ lot → Reach ties lot p y
section
variable {ties : List (Int × Int)} {lot : List Int} {p : Int}
theorem Reach.mem {x : Int} (h : Reach ties lot p x) : x = p ∨ x ∈ lot := by
  cases h with
  | refl => exact .inl rfl
  | step _ _ m => exact .inr m
theorem Reach.trans {x y : Int} (h : Reach ties lot p x) (k : Reach ties lot x y) : Reach ties lot p y := by
  induction k with
  | refl => exact h
  | step _ a m ih => exact ih.step a m
theorem Reach.symm {x : Int} (h : Reach ties lot p x) (hp : p ∈ lot) : Reach ties lot x p := by
  induction h with
  | refl => exact .refl
  | @step x y h1 a m ih =>
    have hx : x ∈ lot := by
      rcases h1.mem with e | e
      · rw [e]
        exact hp
      · exact e
    exact (Reach.step .refl (adj_symm a) hx).trans ih
theorem Reach.imp {lot' : List Int} (hl : ∀ x ∈ lot, x ∈ lot') {x : Int} (h : Reach ties lot p x) : Reach ties lot' p x := by
  induction h with
  | refl => exact .refl
  | step _ a m ih => exact ih.step a (hl _ m)
theorem reach_ext {lot' : List Int} (hl : ∀ x, x ∈ lot ↔ x ∈ lot') {x : Int} : Reach ties lot p x ↔ Reach ties lot' p x :=
  ⟨fun h => h.imp fun x m => (hl x).mp m, fun h => h.imp fun x m => (hl x).mpr m⟩
theorem reach_in {S : List Int} (hp : p ∈ S) (hc : ∀ x ∈ S, ∀ y, adj ties x y → y ∈ lot → y ∈ S) {x : Int} (h : Reach ties lot p x) : x ∈ S := by
  induction h with
  | refl => exact hp
  | step _ a m ih => exact hc _ ih _ a m
end
/-! ### plain lists -/
theorem nodup_len {α : Type} [DecidableEq α] : ∀ {l m : List α}, l.Nodup → (∀ x ∈ l, x ∈ m) → l.length ≤ m.length
  | [], _, _, _ => Nat.zero_le _
  | x :: l, m, hn, hs => by
    rw [List.nodup_cons] at hn
    have hx : x ∈ m := hs x List.mem_cons_self
    have ih := nodup_len (l := l) (m := m.erase x) hn.2 fun y hy => by
      have hyx : y ≠ x := fun e => hn.1 (e ▸ hy)
      exact (List.mem_erase_of_ne hyx).mpr (hs y (List.mem_cons_of_mem _ hy))
    rw [List.length_erase_of_mem hx] at ih
    have hl : 0 < m.length := List.length_pos_of_mem hx
    rw [List.length_cons]
    omega
/-- rising lists of the same members are one -/
theorem asc_unique : ∀ {l m : List Int}, l.Pairwise (· < ·) → m.Pairwise (· < ·) → (∀ x, x ∈ l ↔ x ∈ m) → l = m
  | [], [], _, _, _ => rfl
  | [], y :: m, _, _, h => absurd ((h y).mpr List.mem_cons_self) (by simp)
  | x :: l, [], _, _, h => absurd ((h x).mp List.mem_cons_self) (by simp)
  | x :: l, y :: m, hl, hm, h => by
    rw [List.pairwise_cons] at hl hm
    have e : x = y := by
      rcases List.mem_cons.mp ((h x).mp List.mem_cons_self) with e | e
      · exact e
      · rcases List.mem_cons.mp ((h y).mpr List.mem_cons_self) with e2 | e2
        · exact e2.symm
        · have h1 := hm.1 x e
          have h2 := hl.1 y e2
          omega
    subst e
    rw [asc_unique hl.2 hm.2 fun z => ?_]
    constructor
    · intro hz
      rcases List.mem_cons.mp ((h z).mp (List.mem_cons_of_mem _ hz)) with e | e
      · have := hl.1 z hz
        omega
      · exact e
    · intro hz
      rcases List.mem_cons.mp ((h z).mpr (List.mem_cons_of_mem _ hz)) with e | e
      · have := hm.1 z hz
        omega
      · exact e
/-! ### the search -/
structure HInv (ties : List (Int × Int)) (lot : List Int) (p : Int) (fs es : List Int) : Prop where
  nd : fs.Nodup
  ini : p ∈ fs
  rch : ∀ x ∈ fs, Reach ties lot p x
  sub : ∀ x ∈ es, x ∈ fs
  clo : ∀ x ∈ fs, x ∈ es ∨ ∀ y, adj ties x y → y ∈ lot → y ∈ fs
structure HMid (ties : List (Int × Int)) (lot : List Int) (p here : Int) (dn fs es : List Int) : Prop where
  nd : fs.Nodup
  ini : p ∈ fs
  rch : ∀ x ∈ fs, Reach ties lot p x
  sub : ∀ x ∈ es, x ∈ fs
  hin : here ∈ fs
  don : ∀ y ∈ dn, y ∈ lot → y ∈ fs
  clo : ∀ x ∈ fs, x = here ∨ x ∈ es ∨ ∀ y, adj ties x y → y ∈ lot → y ∈ fs
section
variable {ties : List (Int × Int)} {lot : List Int} {p here : Int} {dn fs es : List Int}
theorem HInv.start : HInv ties lot p [p] [p] :=
  ⟨by simp, by simp, fun x hx => by rw [List.mem_singleton.mp hx]; exact .refl, fun x hx => hx, fun x hx => .inl hx⟩
theorem HInv.len (h : HInv ties lot p fs es) : fs.length ≤ lot.length + 1 := by
  have := nodup_len (m := p :: lot) h.nd fun x hx => by
    rcases (h.rch x hx).mem with e | e
    · rw [e]
      exact List.mem_cons_self
    · exact List.mem_cons_of_mem _ e
  simpa using this
theorem HMid.len (h : HMid ties lot p here dn fs es) : fs.length ≤ lot.length + 1 := by
  have := nodup_len (m := p :: lot) h.nd fun x hx => by
    rcases (h.rch x hx).mem with e | e
    · rw [e]
      exact List.mem_cons_self
    · exact List.mem_cons_of_mem _ e
  simpa using this
theorem HInv.pop (h : HInv ties lot p fs (es ++ [here])) : HMid ties lot p here [] fs es :=
  ⟨h.nd, h.ini, h.rch, fun x hx => h.sub x (List.mem_append_left _ hx), h.sub here (by simp), fun y hy => by simp at hy, fun x hx => by
    rcases h.clo x hx with e | e
    · rcases List.mem_append.mp e with e | e
      · exact .inr (.inl e)
      · exact .inl (List.mem_singleton.mp e)
    · exact .inr (.inr e)⟩
theorem HMid.new {y : Int} (h : HMid ties lot p here dn fs es) (ha : adj ties here y) (hl : y ∈ lot) (hf : y ∉ fs) : HMid ties lot p here (dn ++ [y]) (fs ++ [y]) (es ++ [y]) := by
  refine ⟨?_, List.mem_append_left _ h.ini, fun x hx => ?_, fun x hx => ?_, List.mem_append_left _ h.hin, fun z hz hzl => ?_, fun x hx => ?_⟩
  · rw [List.nodup_append]
    refine ⟨h.nd, by simp, fun a ha b hb => ?_⟩
    rw [List.mem_singleton.mp hb]
    exact fun e => hf (e ▸ ha)
  · rcases List.mem_append.mp hx with e | e
    · exact h.rch x e
    · rw [List.mem_singleton.mp e]
      exact (h.rch here h.hin).step ha hl
  · rcases List.mem_append.mp hx with e | e
    · exact List.mem_append_left _ (h.sub x e)
    · exact List.mem_append_right _ e
  · rcases List.mem_append.mp hz with e | e
    · exact List.mem_append_left _ (h.don z e hzl)
    · exact List.mem_append_right _ e
  · rcases List.mem_append.mp hx with e | e
    · rcases h.clo x e with q | q | q
      · exact .inl q
      · exact .inr (.inl (List.mem_append_left _ q))
      · exact .inr (.inr fun z a m => List.mem_append_left _ (q z a m))
    · exact .inr (.inl (List.mem_append_right _ e))
theorem HMid.old {y : Int} (h : HMid ties lot p here dn fs es) (hf : y ∈ lot → y ∈ fs) : HMid ties lot p here (dn ++ [y]) fs es :=
  ⟨h.nd, h.ini, h.rch, h.sub, h.hin, fun z hz hzl => by
    rcases List.mem_append.mp hz with e | e
    · exact h.don z e hzl
    · rw [List.mem_singleton.mp e] at hzl ⊢
      exact hf hzl, h.clo⟩
theorem HMid.fin (h : HMid ties lot p here dn fs es) (hd : ∀ y, adj ties here y → y ∈ dn) : HInv ties lot p fs es :=
  ⟨h.nd, h.ini, h.rch, h.sub, fun x hx => by
    rcases h.clo x hx with q | q | q
    · subst q
      exact .inr fun y a m => h.don y (hd y a) m
    · exact .inl q
    · exact .inr q⟩
theorem HInv.fin (h : HInv ties lot p fs []) (x : Int) : x ∈ fs ↔ Reach ties lot p x :=
  ⟨h.rch x, fun r => reach_in h.ini (fun x hx y a m => by
    rcases h.clo x hx with q | q
    · simp at q
    · exact q y a m) r⟩
end
/-! ### the sweeps -/
def sw1 (lot sm : List Int) (t : Int × Int) : List Int :=
  if t.1 ∈ lot ∧ t.2 ∈ lot ∧ ¬ (decide (t.1 ∈ sm) = decide (t.2 ∈ sm)) then sm ++ [if t.1 ∈ sm then t.2 else t.1] else sm
def sweep (lot : List Int) (ties : List (Int × Int)) (sm : List Int) : List Int := ties.foldl (sw1 lot) sm
def sweeps (lot : List Int) (ties : List (Int × Int)) (sm : List Int) : Nat → List Int
  | 0 => sm
  | n + 1 => sweep lot ties (sweeps lot ties sm n)
theorem sw1_len (lot sm : List Int) (t : Int × Int) : sm.length ≤ (sw1 lot sm t).length ∧ (sw1 lot sm t).length ≤ sm.length + 1 := by
  unfold sw1
  split
  · rw [List.length_append, List.length_singleton]
    omega
  · omega
theorem sweep_len (lot : List Int) : ∀ (ties : List (Int × Int)) (sm : List Int), sm.length ≤ (sweep lot ties sm).length
  | [], _ => Nat.le_refl _
  | t :: r, sm => Nat.le_trans (sw1_len lot sm t).1 (sweep_len lot r (sw1 lot sm t))
/-- a sweep that adds nothing -/
theorem sweep_same (lot : List Int) : ∀ (ties : List (Int × Int)) (sm : List Int), (sweep lot ties sm).length = sm.length → sweep lot ties sm = sm ∧ ∀ t ∈ ties, t.1 ∈ lot → t.2 ∈ lot → (t.1 ∈ sm ↔ t.2 ∈ sm)
  | [], _, _ => ⟨rfl, fun t ht => by simp at ht⟩
  | t :: r, sm, h => by
    have h1 := sw1_len lot sm t
    have h2 := sweep_len lot r (sw1 lot sm t)
    have h3 : (sweep lot r (sw1 lot sm t)).length = sm.length := h
    have e : sw1 lot sm t = sm ∧ (t.1 ∈ lot → t.2 ∈ lot → (t.1 ∈ sm ↔ t.2 ∈ sm)) := by
      unfold sw1 at h1 h2 h3 ⊢
      split at h2
      · rename_i hc
        rw [if_pos hc] at h3
        rw [List.length_append, List.length_singleton] at h2
        omega
      · rename_i hc
        rw [if_neg hc]
        refine ⟨rfl, fun m1 m2 => ?_⟩
        by_cases q : decide (t.1 ∈ sm) = decide (t.2 ∈ sm)
        · have := decide_eq_decide.mp q
          exact this
        · exact absurd ⟨m1, m2, q⟩ hc
    have e2 : sweep lot (t :: r) sm = sweep lot r sm := by
      show sweep lot r (sw1 lot sm t) = _
      rw [e.1]
    rw [e2] at h ⊢
    obtain ⟨q1, q2⟩ := sweep_same lot r sm h
    refine ⟨q1, fun u hu => ?_⟩
    rcases List.mem_cons.mp hu with z | z
    · rw [z]
      exact e.2
    · exact q2 u z
structure SInv (ties : List (Int × Int)) (lot : List Int) (p : Int) (sm : List Int) : Prop where
  nd : sm.Nodup
  ini : p ∈ sm
  rch : ∀ x ∈ sm, Reach ties lot p x
section
variable {ties : List (Int × Int)} {lot : List Int} {p : Int} {sm : List Int}
theorem SInv.start : SInv ties lot p [p] := ⟨by simp, by simp, fun x hx => by rw [List.mem_singleton.mp hx]; exact .refl⟩
theorem SInv.sw1 {t : Int × Int} (h : SInv ties lot p sm) (ht : t ∈ ties) : SInv ties lot p (sw1 lot sm t) := by
  unfold Sto.sw1
  split
  · rename_i hc
    obtain ⟨m1, m2, m3⟩ := hc
    by_cases q : t.1 ∈ sm
    · rw [if_pos q]
      have q2 : t.2 ∉ sm := fun z => m3 (by rw [decide_eq_true q, decide_eq_true z])
      refine ⟨?_, List.mem_append_left _ h.ini, fun x hx => ?_⟩
      · rw [List.nodup_append]
        refine ⟨h.nd, by simp, fun a ha b hb => ?_⟩
        rw [List.mem_singleton.mp hb]
        exact fun e => q2 (e ▸ ha)
      · rcases List.mem_append.mp hx with e | e
        · exact h.rch x e
        · rw [List.mem_singleton.mp e]
          exact (h.rch _ q).step (.inl ht) m2
    · rw [if_neg q]
      have q2 : t.2 ∈ sm := by
        by_cases z : t.2 ∈ sm
        · exact z
        · exact absurd (by rw [decide_eq_false q, decide_eq_false z]) m3
      refine ⟨?_, List.mem_append_left _ h.ini, fun x hx => ?_⟩
      · rw [List.nodup_append]
        refine ⟨h.nd, by simp, fun a ha b hb => ?_⟩
        rw [List.mem_singleton.mp hb]
        exact fun e => q (e ▸ ha)
      · rcases List.mem_append.mp hx with e | e
        · exact h.rch x e
        · rw [List.mem_singleton.mp e]
          exact (h.rch _ q2).step (.inr ht) m1
  · exact h
theorem SInv.fold (h : SInv ties lot p sm) : ∀ (r : List (Int × Int)), (∀ t ∈ r, t ∈ ties) → SInv ties lot p (r.foldl (Sto.sw1 lot) sm) := by
  intro r
  induction r generalizing sm with
  | nil => intro _; exact h
  | cons t r ih => intro hr; exact ih (h.sw1 (hr t List.mem_cons_self)) fun u hu => hr u (List.mem_cons_of_mem _ hu)
theorem SInv.sweeps (h : SInv ties lot p sm) : ∀ n, SInv ties lot p (sweeps lot ties sm n)
  | 0 => h
  | n + 1 => (SInv.sweeps h n).fold ties fun _ z => z
theorem sweeps_or : ∀ n, sm.length + n ≤ (sweeps lot ties sm n).length ∨ ∀ t ∈ ties, t.1 ∈ lot → t.2 ∈ lot → (t.1 ∈ sweeps lot ties sm n ↔ t.2 ∈ sweeps lot ties sm n)
  | 0 => .inl (Nat.le_refl _)
  | n + 1 => by
    have hl := sweep_len lot ties (sweeps lot ties sm n)
    by_cases e : (sweep lot ties (sweeps lot ties sm n)).length = (sweeps lot ties sm n).length
    · obtain ⟨q1, q2⟩ := sweep_same lot ties _ e
      refine .inr ?_
      show ∀ t ∈ ties, t.1 ∈ lot → t.2 ∈ lot → (t.1 ∈ sweep lot ties (sweeps lot ties sm n) ↔ t.2 ∈ sweep lot ties (sweeps lot ties sm n))
      rw [q1]
      exact q2
    · rcases sweeps_or n with z | z
      · refine .inl ?_
        show _ ≤ (sweep lot ties (sweeps lot ties sm n)).length
        omega
      · -- closed already: nothing would have been added
        exfalso
        have key : ∀ r : List (Int × Int), (∀ t ∈ r, t ∈ ties) → r.foldl (Sto.sw1 lot) (sweeps lot ties sm n) = sweeps lot ties sm n := by
          intro r
          induction r with
          | nil => intro _; rfl
          | cons t r ih =>
            intro hr
            have e1 : Sto.sw1 lot (sweeps lot ties sm n) t = sweeps lot ties sm n := by
              unfold Sto.sw1
              rw [if_neg]
              rintro ⟨m1, m2, m3⟩
              exact m3 (decide_eq_decide.mpr (z t (hr t List.mem_cons_self) m1 m2))
            show r.foldl (Sto.sw1 lot) (Sto.sw1 lot (sweeps lot ties sm n) t) = _
            rw [e1]
            exact ih fun u hu => hr u (List.mem_cons_of_mem _ hu)
        have e2 := key ties fun _ z => z
        exact e (by show (ties.foldl (Sto.sw1 lot) _).length = _; rw [e2])
/-- behind so many sweeps as the rest has members: the whole part -/
theorem sweeps_fin {left : List Int} (hp : p ∈ left) (hsub : ∀ x ∈ left, x ∈ lot) (hl : ∀ t ∈ ties, t.1 ∈ lot → t.2 ∈ lot → (t.1 ∈ left ↔ t.2 ∈ left)) (x : Int) :
    x ∈ sweeps lot ties [p] left.length ↔ Reach ties lot p x := by
  have S := SInv.sweeps (SInv.start (ties := ties) (lot := lot) (p := p)) left.length
  refine ⟨S.rch x, fun r => ?_⟩
  have inL : ∀ x, Reach ties lot p x → x ∈ left := fun x r => reach_in hp (fun x hx y a m => by
    rcases a with a | a
    · exact (hl _ a (hsub x hx) m).mp hx
    · exact (hl _ a m (hsub x hx)).mpr hx) r
  rcases sweeps_or (lot := lot) (ties := ties) (sm := [p]) left.length with z | z
  · exfalso
    have := nodup_len S.nd fun y hy => inL y (S.rch y hy)
    rw [List.length_singleton] at z
    omega
  · refine reach_in S.ini (fun x hx y a m => ?_) r
    have hxl : x ∈ lot := hsub x (inL x (S.rch x hx))
    rcases a with a | a
    · exact (z _ a hxl m).mp hx
    · exact (z _ a m hxl).mpr hx
/-- what is left is closed again -/
theorem left_next {left : List Int} (hp : p ∈ left) (hsub : ∀ x ∈ left, x ∈ lot) (hl : ∀ t ∈ ties, t.1 ∈ lot → t.2 ∈ lot → (t.1 ∈ left ↔ t.2 ∈ left)) {sm : List Int} (hs : ∀ x, x ∈ sm ↔ Reach ties lot p x) :
    ∀ t ∈ ties, t.1 ∈ lot → t.2 ∈ lot → (t.1 ∈ left.filter (fun x => decide (x ∉ sm)) ↔ t.2 ∈ left.filter (fun x => decide (x ∉ sm))) := by
  intro t ht m1 m2
  have e : t.1 ∈ sm ↔ t.2 ∈ sm := by
    rw [hs, hs]
    exact ⟨fun r => r.step (.inl ht) m2, fun r => r.step (.inr ht) m1⟩
  have e2 := hl t ht m1 m2
  simp only [List.mem_filter, decide_eq_true_eq]
  rw [e2, e]
end
/-- the parts of a lot -/
def PartsOk (ties : List (Int × Int)) (lot : List Int) (L : List (List Int)) : Prop :=
  (∀ part ∈ L, ∃ p ∈ lot, ∀ x, x ∈ part ↔ Reach ties lot p x) ∧ ∀ x ∈ lot, ∃ part ∈ L, x ∈ part
theorem PartsOk.of {ties : List (Int × Int)} {lot : List Int} {L : List (List Int)} (h : PartsOk ties lot L) {part : List Int} (hm : part ∈ L) {p : Int} (hp : p ∈ part) (x : Int) : x ∈ part ↔ Reach ties lot p x := by
  obtain ⟨q, hq, e⟩ := h.1 part hm
  have r := (e p).mp hp
  rw [e]
  exact ⟨fun k => (r.symm hq).trans k, fun k => r.trans k⟩
theorem PartsOk.lot {ties : List (Int × Int)} {lot : List Int} {L : List (List Int)} (h : PartsOk ties lot L) {part : List Int} (hm : part ∈ L) {p : Int} (hp : p ∈ part) : p ∈ lot := by
  obtain ⟨q, hq, e⟩ := h.1 part hm
  rcases ((e p).mp hp).mem with z | z
  · rw [z]
    exact hq
  · exact z
/-! ### all lots -/
def subs (xs : List Int) : List (List Int) := xs.foldl (fun acc p => acc ++ acc.map (· ++ [p])) [[]]
theorem subs_fold_mem {P : Int → Bool} : ∀ (xs : List Int) (acc : List (List Int)) (l : List Int), l ∈ acc → l ++ xs.filter P ∈ xs.foldl (fun acc p => acc ++ acc.map (· ++ [p])) acc
  | [], acc, l, h => by simpa using h
  | x :: xs, acc, l, h => by
    show l ++ (x :: xs).filter P ∈ xs.foldl _ (acc ++ acc.map (· ++ [x]))
    by_cases q : P x = true
    · rw [List.filter_cons_of_pos q]
      have := subs_fold_mem (P := P) xs (acc ++ acc.map (· ++ [x])) (l ++ [x]) (List.mem_append_right _ (List.mem_map.mpr ⟨l, h, rfl⟩))
      simpa using this
    · rw [List.filter_cons_of_neg q]
      exact subs_fold_mem (P := P) xs (acc ++ acc.map (· ++ [x])) l (List.mem_append_left _ h)
theorem subs_filter (P : Int → Bool) (xs : List Int) : xs.filter P ∈ subs xs := by
  have := subs_fold_mem (P := P) xs [[]] [] (by simp)
  simpa [subs] using this
theorem subs_fold_in : ∀ (xs : List Int) (acc : List (List Int)) (S : Int → Prop) (n : Nat), (∀ l ∈ acc, l.length ≤ n ∧ ∀ x ∈ l, S x) → (∀ x ∈ xs, S x) → ∀ l ∈ xs.foldl (fun acc p => acc ++ acc.map (· ++ [p])) acc, l.length ≤ n + xs.length ∧ ∀ x ∈ l, S x
  | [], acc, S, n, h, _, l, hl => by simpa using h l hl
  | y :: xs, acc, S, n, h, hx, l, hl => by
    have := subs_fold_in xs (acc ++ acc.map (· ++ [y])) S (n + 1) (fun m hm => by
      rcases List.mem_append.mp hm with e | e
      · exact ⟨by have := (h m e).1; omega, (h m e).2⟩
      · obtain ⟨k, hk, rfl⟩ := List.mem_map.mp e
        refine ⟨by rw [List.length_append, List.length_singleton]; have := (h k hk).1; omega, fun x hx' => ?_⟩
        rcases List.mem_append.mp hx' with z | z
        · exact (h k hk).2 x z
        · rw [List.mem_singleton.mp z]
          exact hx y List.mem_cons_self) (fun x h' => hx x (List.mem_cons_of_mem _ h')) l hl
    rw [List.length_cons]
    exact ⟨by have := this.1; omega, this.2⟩
theorem subs_in {xs l : List Int} (h : l ∈ subs xs) : l.length ≤ xs.length ∧ ∀ x ∈ l, x ∈ xs := by
  have := subs_fold_in xs [[]] (fun x => x ∈ xs) 0 (fun l hl => by rw [List.mem_singleton.mp hl]; exact ⟨Nat.le_refl _, fun x hx => by simp at hx⟩) (fun x hx => hx) l h
  simpa using this
theorem subs_fold_len : ∀ (xs : List Int) (acc : List (List Int)), (xs.foldl (fun acc p => acc ++ acc.map (· ++ [p])) acc).length = acc.length * 2 ^ xs.length
  | [], acc => by simp
  | x :: xs, acc => by
    show (xs.foldl _ (acc ++ acc.map (· ++ [x]))).length = _
    rw [subs_fold_len, List.length_append, List.length_map, List.length_cons, Nat.pow_succ]
    rw [← Nat.two_mul, Nat.mul_comm 2, Nat.mul_assoc, Nat.mul_comm 2]
theorem subs_len (xs : List Int) : (subs xs).length = 2 ^ xs.length := by
  have := subs_fold_len xs [[]]
  simpa [subs] using this
end Sto

/-! text: SUse -/
set_option Elab.async false
set_option linter.all false
set_option maxRecDepth 100000
set_option maxHeartbeats 4000000
/-! helpers for the walks: in, indexing, comparison with an empty list or tuple -/
namespace Sto
open PySem PySem.Spec PyProof.Rows L2
/-! ### in, not in -/
theorem flat_ints (ns : List Int) : (ns.map V.int).all flatV = true := by
  induction ns with
  | nil => rfl
  | cons n r ih => rw [List.map_cons, List.all_cons, ih]; rfl
theorem inV_ints (p : Int) : ∀ ns : List Int, inV (.int p) (ns.map V.int) = decide (p ∈ ns)
  | [] => rfl
  | n :: r => by
    have ih := inV_ints p r
    unfold inV at ih ⊢
    rw [List.map_cons, List.any_cons, ih]
    show (n == p || decide (p ∈ r)) = decide (p ∈ n :: r)
    by_cases e : n = p
    · subst e
      simp
    · have e2 : ¬ p = n := fun z => e z.symm
      simp [e, e2]
section
variable {K : PySem.W.Frag} {H : Hp} {Q : VK} {a : Addr} {ns : List Int} {p : Int}
theorem in_ints (h : SqL K H a (ns.map V.int) ∨ SqT K H a (ns.map V.int)) (q : Q (.bl (decide (p ∈ ns))) H) : rIn K false (.int p) (.ref a) H Q :=
  ⟨a, _, rfl, h, rfl, flat_ints ns, by rw [inV_ints]; exact q⟩
theorem notin_ints (h : SqL K H a (ns.map V.int) ∨ SqT K H a (ns.map V.int)) (q : Q (.bl (!decide (p ∈ ns))) H) : rIn K true (.int p) (.ref a) H Q :=
  ⟨a, _, rfl, h, rfl, flat_ints ns, by rw [inV_ints]; exact q⟩
theorem sq_lst (h : H a = some (.lst (ns.map V.int))) : SqL K H a (ns.map V.int) ∨ SqT K H a (ns.map V.int) := .inl (SqL.of h)
theorem sq_tup (h : H a = some (.tup (ns.map V.int))) : SqL K H a (ns.map V.int) ∨ SqT K H a (ns.map V.int) := .inr (SqT.of h)
/-- the item at i -/
def ht (l : List Int) (i : Int) : Int := l.getD i.toNat 0
theorem ht_get {l : List Int} {i : Int} (h0 : 0 ≤ i) (h1 : i < l.length) : l[i.toNat]? = some (ht l i) := by
  unfold ht
  rw [List.getD_eq_getElem?_getD, List.getElem?_eq_getElem (by omega)]
  rfl
theorem ht_mem {l : List Int} {i : Int} (h0 : 0 ≤ i) (h1 : i < l.length) : ht l i ∈ l := List.mem_of_getElem? (ht_get h0 h1)
theorem atI_ht {l : List Int} {i : Int} (h0 : 0 ≤ i) (h1 : i < l.length) : atI (l.map V.int) i = some (.int (ht l i)) := by
  have e : i = ((i.toNat : Nat) : Int) := by omega
  have := atI_nat (xs := l.map V.int) (j := i.toNat) (v := .int (ht l i)) (by rw [List.getElem?_map, ht_get h0 h1]; rfl)
  rw [← e] at this
  exact this
theorem ix_ints {i : Int} (h : H a = some (.tup (ns.map V.int))) (h0 : 0 ≤ i) (h1 : i < ns.length) (q : Q (.int (ht ns i)) H) : rIxT K (.ref a) (.int i) H Q :=
  ⟨a, _, i, _, rfl, rfl, SqT.of h, atI_ht h0 h1, q⟩
end
/-! ### data, as the comparisons read it -/
class Dat (α : Type) extends Rep α where
  d : α → PyData
  n : Nat
  dp : ∀ (K : PySem.W.Frag) (H : Hp) (v : V) (x : α), R H v x → Dp K H v (d x)
  cl : ∀ x, (d x).canLay0 = true
  dn : ∀ x, (d x).depth ≤ n
instance : Dat Int := { d := .int, n := 0, dp := fun K H v x e => by have e : v = .int x := e; rw [e]; exact .int x, cl := fun _ => rfl, dn := fun _ => Nat.le_refl _ }
theorem dp_all {α : Type} [Dat α] {K : PySem.W.Frag} {H : Hp} : ∀ {vs : List V} {xs : List α}, Paired (Rep.R H) vs xs → DpAll K H vs (xs.map Dat.d)
  | _, _, .nil => .nil
  | _, _, .cons h t => .cons (Dat.dp K H _ _ h) (dp_all t)
theorem cl_all {α : Type} [Dat α] : ∀ xs : List α, PyData.canLayAll0 (xs.map Dat.d) = true
  | [] => rfl
  | x :: r => by
    show ((Dat.d x).canLay0 && PyData.canLayAll0 (r.map Dat.d)) = true
    rw [Dat.cl, cl_all r]
    rfl
theorem dn_all {α : Type} [Dat α] : ∀ xs : List α, PyData.depthAll (xs.map Dat.d) ≤ Dat.n α
  | [] => Nat.zero_le _
  | x :: r => Nat.max_le.mpr ⟨Dat.dn x, dn_all r⟩
theorem dp_tu {α : Type} [Dat α] {K : PySem.W.Frag} {H : Hp} {v : V} {xs : List α} (h : Rp H v xs) : Dp K H v (.tuple (xs.map Dat.d)) := by
  obtain ⟨a, vs, e, h, p⟩ := h
  rw [e]
  exact .tup (SqT.of h) (dp_all p)
theorem dp_pr {α β : Type} [Dat α] [Dat β] {K : PySem.W.Frag} {H : Hp} {v : V} {p : α × β} (h : Rp H v p) : Dp K H v (.tuple [Dat.d p.1, Dat.d p.2]) := by
  obtain ⟨a, u, w, e, h, r1, r2⟩ := h
  rw [e]
  exact .tup (SqT.of h) (.cons (Dat.dp K H u _ r1) (.cons (Dat.dp K H w _ r2) .nil))
theorem cl_pr {α β : Type} [Dat α] [Dat β] (p : α × β) : (PyData.tuple [Dat.d p.1, Dat.d p.2]).canLay0 = true := by
  show ((Dat.d p.1).canLay0 && ((Dat.d p.2).canLay0 && true)) = true
  rw [Dat.cl, Dat.cl]
  rfl
theorem dn_pr {α β : Type} [Dat α] [Dat β] (p : α × β) : (PyData.tuple [Dat.d p.1, Dat.d p.2]).depth ≤ max (Dat.n α) (Dat.n β) + 1 :=
  Nat.succ_le_succ (Nat.max_le.mpr ⟨Nat.le_trans (Dat.dn p.1) (Nat.le_max_left _ _), Nat.max_le.mpr ⟨Nat.le_trans (Dat.dn p.2) (Nat.le_max_right _ _), Nat.zero_le _⟩⟩)
instance {α : Type} [Dat α] : Dat (List α) where
  d := fun xs => .tuple (xs.map Dat.d)
  n := Dat.n α + 1
  dp := fun K H v xs h => dp_tu h
  cl := fun xs => cl_all xs
  dn := fun xs => Nat.succ_le_succ (dn_all xs)
instance {α β : Type} [Dat α] [Dat β] : Dat (α × β) where
  d := fun p => .tuple [Dat.d p.1, Dat.d p.2]
  n := max (Dat.n α) (Dat.n β) + 1
  dp := fun K H v p h => dp_pr h
  cl := cl_pr
  dn := dn_pr
theorem dp_ls {α : Type} [Dat α] {K : PySem.W.Frag} {H : Hp} {a : Addr} {xs : List α} (h : Ls H a xs) : Dp K H (.ref a) (.list (xs.map Dat.d)) := by
  obtain ⟨vs, e, p⟩ := h
  exact .lst (SqL.of e) (dp_all p)
theorem sh_ls {α : Type} [Dat α] (hd : Dat.n α ≤ 60) (xs : List α) : SeqAt.shaped (.list (xs.map Dat.d)) = true := by
  show ((PyData.list (xs.map Dat.d)).canLay0 && decide ((PyData.list (xs.map Dat.d)).depth ≤ 64)) = true
  have h1 : (PyData.list (xs.map Dat.d)).canLay0 = true := cl_all xs
  have h2 : (PyData.list (xs.map Dat.d)).depth ≤ 64 := by
    show PyData.depthAll (xs.map Dat.d) + 1 ≤ 64
    have := dn_all xs
    omega
  rw [h1, decide_eq_true h2]
  rfl
theorem sh_tu {α : Type} [Dat α] (hd : Dat.n α ≤ 60) (xs : List α) : SeqAt.shaped (.tuple (xs.map Dat.d)) = true := sh_ls hd xs
theorem eqvAll_nil (xs : List PyData) : PyData.eqvAll xs [] = xs.isEmpty := by cases xs <;> rfl
theorem empty_map {α β : Type} (f : α → β) (xs : List α) : (xs.map f).isEmpty = xs.isEmpty := by cases xs <;> rfl
section
variable {α : Type} [Dat α] {K : PySem.W.Frag} {H : Hp} {Q : VK} {a b : Addr} {xs : List α}
theorem eq_nilL (hd : Dat.n α ≤ 60) (h : Ls H a xs) (e : H b = some (.lst [])) (q : Q (.bl xs.isEmpty) H) : rEqD K (.ref a) (.ref b) H Q := by
  refine ⟨_, _, dp_ls h, .lst (SqL.of e) .nil, sh_ls hd xs, rfl, ?_⟩
  show Q (.bl (PyData.eqvAll (xs.map Dat.d) [])) H
  rw [eqvAll_nil, empty_map]
  exact q
theorem ne_nilL (hd : Dat.n α ≤ 60) (h : Ls H a xs) (e : H b = some (.lst [])) (q : Q (.bl (!xs.isEmpty)) H) : rNeD K (.ref a) (.ref b) H Q := by
  refine ⟨_, _, dp_ls h, .lst (SqL.of e) .nil, sh_ls hd xs, rfl, ?_⟩
  show Q (.bl (!PyData.eqvAll (xs.map Dat.d) [])) H
  rw [eqvAll_nil, empty_map]
  exact q
theorem ne_nilT (hd : Dat.n α ≤ 60) (h : Rp H (.ref a) xs) (e : Rp H (.ref b) ([] : List Int)) (q : Q (.bl (!xs.isEmpty)) H) : rNeD K (.ref a) (.ref b) H Q := by
  obtain ⟨a', vs, e1, ha, p⟩ := h
  obtain ⟨b', e2, hb⟩ := rp_ints e
  cases e1
  cases e2
  refine ⟨_, _, .tup (SqT.of ha) (dp_all p), .tup (SqT.of hb) .nil, sh_tu hd xs, rfl, ?_⟩
  show Q (.bl (!PyData.eqvAll (xs.map Dat.d) [])) H
  rw [eqvAll_nil, empty_map]
  exact q
end
/-! ### new objects -/
theorem none_of_same {H H' : Hp} {p : Addr} (h : Same H H') (n : H' p = none) : H p = none := by
  cases e : H p with
  | none => rfl
  | some o => rw [h _ _ e] at n; cases n
theorem rp_new {α : Type} [Rep α] {H : Hp} {p : Addr} {vs : List V} {xs : List α} (n : H p = none) (h : Paired (Rep.R H) vs xs) : Rp (upd H p (.tup vs)) (.ref p) xs := ⟨p, vs, rfl, upd_same, paired_mono (tsm_of (same_upd n)) h⟩
theorem ls_new {α : Type} [Rep α] {H : Hp} {p : Addr} {vs : List V} {xs : List α} (n : H p = none) (h : Paired (Rep.R H) vs xs) : Ls (upd H p (.lst vs)) p xs := ⟨vs, upd_same, paired_mono (tsm_of (same_upd n)) h⟩
/-- the persons of the open set -/
def opn (hs gs : List Int) (h : Int) : List Int := (upto hs.length).filter fun i => decide (h ≤ ht hs i) && decide (ht gs i ≤ h)
theorem mem_opn {hs gs : List Int} {h x : Int} : x ∈ opn hs gs h ↔ (0 ≤ x ∧ x < hs.length) ∧ h ≤ ht hs x ∧ ht gs x ≤ h := by
  unfold opn
  rw [List.mem_filter, mem_upto, Bool.and_eq_true, decide_eq_true_eq, decide_eq_true_eq]
theorem opn_len (hs gs : List Int) (h : Int) : (opn hs gs h).length ≤ hs.length := by
  have := List.length_filter_le (fun i => decide (h ≤ ht hs i) && decide (ht gs i ≤ h)) (upto hs.length)
  rw [upto_len] at this
  exact this
end Sto

/-! text: S1 -/
set_option Elab.async false
set_option linter.all false
set_option maxRecDepth 100000
set_option maxHeartbeats 4000000
/-! is_int, is_from, is_height, is_tie, need_web, need_heights, need_both -/
namespace Sto
open PySem PySem.Spec PyProof.Rows L2
/-- a web's data -/
structure WebOk (many : Int) (ties : List (Int × Int)) : Prop where
  lo : 1 ≤ many
  hi : many ≤ 6
  few : ties.length ≤ 100
  ok : ∀ t ∈ ties, 0 ≤ t.1 ∧ t.1 < t.2 ∧ t.2 < many
  asc : ties.Pairwise fun t u => t.1 < u.1 ∨ (t.1 = u.1 ∧ t.2 < u.2)
abbrev Wb (H : Hp) (v : V) (many : Int) (ties : List (Int × Int)) : Prop := Rp H v (many, ties)
theorem wb_open {H : Hp} {v : V} {many : Int} {ties : List (Int × Int)} (h : Wb H v many ties) : ∃ pw pt ts, v = .ref pw ∧ H pw = some (.tup [.int many, .ref pt]) ∧ H pt = some (.tup ts) ∧ Paired (Rp H) ts ties := by
  obtain ⟨pw, u1, u2, rfl, hw, e1, r2⟩ := h
  obtain rfl : u1 = .int many := e1
  obtain ⟨pt, ts, rfl, ht, pr⟩ := rp_ref r2
  exact ⟨pw, pt, ts, rfl, hw, ht, pr⟩
theorem pr_open {H : Hp} {v : V} {p : Int × Int} (h : Rp H v p) : ∃ a, v = .ref a ∧ H a = some (.tup [.int p.1, .int p.2]) := by
  obtain ⟨a, v1, v2, rfl, ha1, e1, e2⟩ := h
  obtain rfl : v1 = .int p.1 := e1
  obtain rfl : v2 = .int p.2 := e2
  exact ⟨a, rfl, ha1⟩
def sp_is_int (_ : PySem.W.Frag) : Sp := fun vs H Q _ => ∃ i : Int, vs = [.int i] ∧ Q (.bl true) H
def sp_is_from (_ : PySem.W.Frag) : Sp := fun vs H Q _ => ∃ v l m : Int, vs = [.int v, .int l, .int m] ∧ Q (.bl (decide (l ≤ v) && decide (v ≤ m))) H
def sp_is_height (_ : PySem.W.Frag) : Sp := fun vs H Q _ => ∃ v : Int, vs = [.int v] ∧ Q (.bl (decide (-1000 ≤ v) && decide (v ≤ 1000))) H
def sp_is_tie (_ : PySem.W.Frag) : Sp := fun vs H Q _ => ∃ (v : V) (a b m : Int), vs = [v, .int m] ∧ Rp H v (a, b) ∧ 0 ≤ a ∧ a < b ∧ b < m ∧ Q (.bl true) H
def sp_need_web (_ : PySem.W.Frag) : Sp := fun vs H Q _ => ∃ (v : V) (many : Int) (ties : List (Int × Int)), vs = [v] ∧ Wb H v many ties ∧ WebOk many ties ∧ ∀ H', Same H H' → Q .non H'
def HtsOk (many : Int) (hs : List Int) : Prop := (hs.length : Int) = many ∧ ∀ h ∈ hs, -1000 ≤ h ∧ h ≤ 1000
def sp_need_heights (_ : PySem.W.Frag) : Sp := fun vs H Q _ => ∃ (w v : V) (many : Int) (ties : List (Int × Int)) (hs : List Int), vs = [w, v] ∧ Wb H w many ties ∧ WebOk many ties ∧ Rp H v hs ∧ HtsOk many hs ∧ ∀ H', Same H H' → Q .non H'
def sp_need_both (_ : PySem.W.Frag) : Sp := fun vs H Q _ => ∃ (w v u : V) (many : Int) (ties : List (Int × Int)) (hs gs : List Int), vs = [w, v, u] ∧ Wb H w many ties ∧ WebOk many ties ∧ Rp H v hs ∧ HtsOk many hs ∧ Rp H u gs ∧ HtsOk many gs ∧ ∀ H', Same H H' → Q .non H'
theorem sc_is_int : FnScope ["value"] ["value"] (defScope s_is_int) := ⟨rfl, rfl, rfl, by decide +kernel, rfl, by decide +kernel, by decide +kernel⟩
theorem sc_is_from : FnScope ["value", "least", "most"] ["value", "least", "most"] (defScope s_is_from) := ⟨rfl, rfl, rfl, by decide +kernel, rfl, by decide +kernel, by decide +kernel⟩
theorem sc_is_height : FnScope ["value"] ["value"] (defScope s_is_height) := ⟨rfl, rfl, rfl, by decide +kernel, rfl, by decide +kernel, by decide +kernel⟩
theorem sc_is_tie : FnScope ["value", "many"] ["value", "many"] (defScope s_is_tie) := ⟨rfl, rfl, rfl, by decide +kernel, rfl, by decide +kernel, by decide +kernel⟩
theorem sc_need_web : FnScope ["value", "many", "ties", "index", "tie"] ["value"] (defScope s_need_web) := ⟨rfl, rfl, rfl, by decide +kernel, rfl, by decide +kernel, by decide +kernel⟩
theorem sc_need_heights : FnScope ["web", "value", "index", "height"] ["web", "value"] (defScope s_need_heights) := ⟨rfl, rfl, rfl, by decide +kernel, rfl, by decide +kernel, by decide +kernel⟩
theorem sc_need_both : FnScope ["web", "heights", "goal"] ["web", "heights", "goal"] (defScope s_need_both) := ⟨rfl, rfl, rfl, by decide +kernel, rfl, by decide +kernel, by decide +kernel⟩
section
variable {P : Program} {w : World} {K : PySem.W.Frag} {mg : Str → Option Value} {base : Heap}
theorem ca_is_int (T : Tx mg) (D : Df K mg "is_int" s_is_int ["value"]) : Ca P w K mg base 1 "is_int" (sp_is_int K) := by
  refine D.ca sc_is_int (fun vs H Q E h => ?_) (fun f cdv A outer s H vs Q E hr h => ?_)
  · obtain ⟨i, rfl, _⟩ := h
    rfl
  · obtain ⟨i, rfl, q⟩ := h
    refine ⟨_, (pss_one (ps_ret (pe_and (pe_callB call_isi (by rfl) T.isinstance bo_isinstance (pa_cons (pv 0) (pa_cons (pe_bltn (v := .ty "int") (by rfl) T.int bo_int rfl) pa_nil))) (pe_one (pe_not (pe_callB call_isi (by rfl) T.isinstance bo_isinstance (pa_cons (pv 0) (pa_cons (pe_bltn (v := .ty "bool") (by rfl) T.bool bo_bool rfl) pa_nil)))))))), ?_⟩
    refine ⟨_, rfl, .int i, .ty "int", .type "int", .type "int", true, rfl, ClsV.ty _, TyX.base (TyOf.int i), kit_ty (by decide +kernel), true, rfl, iteT ?_⟩
    exact ⟨_, rfl, .int i, .ty "bool", .type "int", .type "bool", false, rfl, ClsV.ty _, TyX.base (TyOf.int i), kit_ty (by decide +kernel), false, rfl, q⟩
theorem ca_is_from (c_is_int : Ca P w K mg base 1 "is_int" (sp_is_int K)) (T : Tx mg) (D : Df K mg "is_from" s_is_from ["value", "least", "most"]) : Ca P w K mg base 2 "is_from" (sp_is_from K) := by
  refine D.ca sc_is_from (fun vs H Q E h => ?_) (fun f cdv A outer s H vs Q E hr h => ?_)
  · obtain ⟨v, l, m, rfl, _⟩ := h
    rfl
  · obtain ⟨v, l, m, rfl, q⟩ := h
    refine ⟨_, (pss_one (ps_ret (pe_and (pe_ca c_is_int hr (by decide) (by rfl) (pa_cons (pv 0) pa_nil)) (pe_one (pe_chain op_le op_le (pv 1) (pv 0) (pv 2)))))), ?_⟩
    refine ⟨_, rfl, v, rfl, true, rfl, iteT ?_⟩
    refine ⟨_, rfl, _, rfl, l, v, rfl, rfl, _, rfl, ite2 (fun e => ?_) (fun e => ?_)⟩
    · refine ⟨_, rfl, v, m, rfl, rfl, ?_⟩
      rw [e, Bool.true_and] at q
      exact q
    · rw [show decide (l ≤ v) = false from by simpa using e, Bool.false_and] at q
      exact q
theorem ca_is_height (c_is_from : Ca P w K mg base 2 "is_from" (sp_is_from K)) (T : Tx mg) (D : Df K mg "is_height" s_is_height ["value"]) : Ca P w K mg base 3 "is_height" (sp_is_height K) := by
  refine D.ca sc_is_height (fun vs H Q E h => ?_) (fun f cdv A outer s H vs Q E hr h => ?_)
  · obtain ⟨v, rfl, _⟩ := h
    rfl
  · obtain ⟨v, rfl, q⟩ := h
    refine ⟨_, (pss_one (ps_ret (pe_ca c_is_from hr (by decide) (by rfl) (pa_cons (pv 0) (pa_cons (pe_un un_neg (pe_gc rfl T.mh)) (pa_cons (pe_gc rfl T.mh) pa_nil)))))), ?_⟩
    exact ⟨_, rfl, 1000, rfl, v, -1000, 1000, rfl, q⟩
theorem ca_is_tie (c_is_from : Ca P w K mg base 2 "is_from" (sp_is_from K)) (T : Tx mg) (D : Df K mg "is_tie" s_is_tie ["value", "many"]) : Ca P w K mg base 3 "is_tie" (sp_is_tie K) := by
  refine D.ca sc_is_tie (fun vs H Q E h => ?_) (fun f cdv A outer s H vs Q E hr h => ?_)
  · obtain ⟨v, a, b, m, rfl, _⟩ := h
    rfl
  · obtain ⟨v, a, b, m, rfl, ⟨p, u1, u2, rfl, hp, e1, e2⟩, h1, h2, h3, q⟩ := h
    obtain rfl : u1 = .int a := e1
    obtain rfl : u2 = .int b := e2
    refine ⟨_, (pss_cons (ps_if (PW.pt (pw_or (pt_not (pt_val (pe_callB call_isi (by rfl) T.isinstance bo_isinstance (pa_cons (pv 0) (pa_cons (pe_bltn (v := .ty "tuple") (by rfl) T.tuple bo_tuple rfl) pa_nil))))) (pw_or1 (pt_cmpR op_ne (pe_callB call_len_seq (by rfl) T.len bo_len (pa_cons (pv 0) pa_nil)) pe_int (nomark _)))))
        (pss_one (ps_ret pe_bl))
        pss_nil)
      (pss_one (ps_ret (pe_and (pe_ca c_is_from hr (by decide) (by rfl) (pa_cons (pe_ix ix_tup (pv 0) pe_int (fun _ _ => rfl)) (pa_cons pe_int (pa_cons (pe_op op_sub (pv 1) pe_int) pa_nil)))) (pe_and (pe_ca c_is_from hr (by decide) (by rfl) (pa_cons (pe_ix ix_tup (pv 0) pe_int (fun _ _ => rfl)) (pa_cons pe_int (pa_cons (pe_op op_sub (pv 1) pe_int) pa_nil)))) (pe_one (pe_cmpR op_lt (pe_ix ix_tup (pv 0) pe_int (fun _ _ => rfl)) (pe_ix ix_tup (pv 0) pe_int (fun _ _ => rfl)) (nomark _)))))))), ?_⟩
    refine ⟨_, rfl, .ref p, .ty "tuple", .type "tuple", .type "tuple", true, rfl, ClsV.ty _, TyX.base (TyOf.tup hp), kit_ty (by decide +kernel), true, rfl, iteF ?_⟩
    refine ⟨_, rfl, p, _, rfl, .inr (SqT.of hp), rfl, _, rfl, iteF ?_⟩
    refine ⟨_, rfl, p, _, 0, .int a, rfl, rfl, SqT.of hp, atI_nat (j := 0) rfl, _, rfl, m, 1, rfl, rfl, a, 0, m - 1, rfl, true, by rw [decide_eq_true h1, decide_eq_true (show a ≤ m - 1 by omega)]; rfl, iteT ?_⟩
    refine ⟨_, rfl, p, _, 1, .int b, rfl, rfl, SqT.of hp, atI_nat (j := 1) rfl, _, rfl, m, 1, rfl, rfl, b, 0, m - 1, rfl, true, by rw [decide_eq_true (show 0 ≤ b by omega), decide_eq_true (show b ≤ m - 1 by omega)]; rfl, iteT ?_⟩
    refine ⟨_, rfl, p, _, 0, .int a, rfl, rfl, SqT.of hp, atI_nat (j := 0) rfl, _, rfl, p, _, 1, .int b, rfl, rfl, SqT.of hp, atI_nat (j := 1) rfl, a, b, rfl, rfl, ?_⟩
    show Q (.bl (decide (a < b))) H
    rw [decide_eq_true h2]
    exact q
theorem ca_need_heights (c_is_height : Ca P w K mg base 3 "is_height" (sp_is_height K)) (T : Tx mg) (D : Df K mg "need_heights" s_need_heights ["web", "value"]) : Ca P w K mg base 4 "need_heights" (sp_need_heights K) := by
  refine D.ca sc_need_heights (fun vs H Q E h => ?_) (fun f cdv A outer s H vs Q E hr h => ?_)
  · obtain ⟨w, v, many, ties, hs, rfl, _⟩ := h
    rfl
  · obtain ⟨w, v, many, ties, hs, rfl, rw, wo, rv, ⟨hl, hb⟩, q⟩ := h
    obtain ⟨pw, pt, ts, rfl, hw, _, _⟩ := wb_open rw
    obtain ⟨p, rfl, hp⟩ := rp_ints rv
    refine ⟨_, (pss_cons (ps_if (PW.pt (pw_or (pt_not (pt_val (pe_callB call_isi (by rfl) T.isinstance bo_isinstance (pa_cons (pv 1) (pa_cons (pe_bltn (v := .ty "tuple") (by rfl) T.tuple bo_tuple rfl) pa_nil))))) (pw_or1 (pt_cmpR op_ne (pe_callB call_len_seq (by rfl) T.len bo_len (pa_cons (pv 1) pa_nil)) (pe_ix ix_tup (pv 0) pe_int (fun _ _ => rfl)) (nomark _)))))
        (pss_one ps_never)
        pss_nil)
      (pss_one (ps_for PassesOwn.never rfl (pi_enumT (by rfl) T.enumerate (pa_cons (pv 1) pa_nil)) (pg_tup rfl (pgs_cons (pg_name (i := 2) sc_need_heights.nd rfl (Or.inl rfl)) (pgs_cons (pg_name (i := 3) sc_need_heights.nd rfl (Or.inl rfl)) pgs_nil)))
        (pss_one (ps_if (pt_not (pt_val (pe_ca c_is_height hr (by decide) (by rfl) (pa_cons (pv 3) pa_nil))))
          (pss_one ps_never)
          pss_nil))))), ?_⟩
    refine ⟨_, rfl, .ref p, .ty "tuple", .type "tuple", .type "tuple", true, rfl, ClsV.ty _, TyX.base (TyOf.tup hp), kit_ty (by decide +kernel), true, rfl, iteF ?_⟩
    refine ⟨_, rfl, p, _, rfl, .inr (SqT.of hp), _, rfl, pw, _, 0, .int many, rfl, rfl, SqT.of hw, atI_nat (j := 0) rfl, rfl, _, rfl, ?_⟩
    refine iteNS (by rw [List.length_map, hl]) ?_
    refine ⟨_, rfl, p, _, rfl, SqT.of hp, for_enumT (K := K) (a := p) (xs := hs.map V.int) (fun i σ H' => Same H H' ∧ ∃ y2 y3, σ = [some (.ref pw), some (.ref p), y2, y3]) ⟨Same.refl _, _, _, rfl⟩ (fun i σ H' h => sqT_same h.1 (SqT.of hp)) ?_ fun σ H' h => q H' h.1⟩
    rintro i x t σ H' hx ⟨sm, y2, y3, rfl⟩ nt
    rw [List.getElem?_map] at hx
    obtain ⟨z, hz, rfl⟩ := Option.map_eq_some_iff.mp hx
    have hzb := hb z (List.mem_of_getElem? hz)
    refine ⟨t, _, rfl, SqT.of upd_same, rfl, _, _, rfl, _, _, rfl, rfl, ?_⟩
    refine ⟨_, rfl, z, rfl, true, by rw [decide_eq_true hzb.1, decide_eq_true hzb.2]; rfl, ?_⟩
    exact iteF ⟨sm.trans (same_upd nt), _, _, rfl⟩
theorem ca_need_web (c_is_from : Ca P w K mg base 2 "is_from" (sp_is_from K)) (c_is_tie : Ca P w K mg base 3 "is_tie" (sp_is_tie K)) (T : Tx mg) (D : Df K mg "need_web" s_need_web ["value"]) : Ca P w K mg base 4 "need_web" (sp_need_web K) := by
  refine D.ca sc_need_web (fun vs H Q E h => ?_) (fun f cdv A outer s H vs Q E hr h => ?_)
  · obtain ⟨v, many, ties, rfl, _⟩ := h
    rfl
  · obtain ⟨v, many, ties, rfl, rw, wo, q⟩ := h
    obtain ⟨pw, pt, ts, rfl, hw, ht, pr⟩ := wb_open rw
    refine ⟨_, (pss_cons (ps_if (PW.pt (pw_or (pt_not (pt_val (pe_callB call_isi (by rfl) T.isinstance bo_isinstance (pa_cons (pv 0) (pa_cons (pe_bltn (v := .ty "tuple") (by rfl) T.tuple bo_tuple rfl) pa_nil))))) (pw_or1 (pt_cmpR op_ne (pe_callB call_len_seq (by rfl) T.len bo_len (pa_cons (pv 0) pa_nil)) pe_int (nomark _)))))
        (pss_one ps_never)
        pss_nil)
      (pss_cons (ps_asg (pv 0) (pg_tup rfl (pgs_cons (pg_name (i := 1) sc_need_web.nd rfl (Or.inl rfl)) (pgs_cons (pg_name (i := 2) sc_need_web.nd rfl (Or.inl rfl)) pgs_nil))))
      (pss_cons (ps_if (PW.pt (pw_or (pt_not (pt_val (pe_ca c_is_from hr (by decide) (by rfl) (pa_cons (pv 1) (pa_cons pe_int (pa_cons (pe_gc rfl T.mp) pa_nil)))))) (pw_or1 (pt_not (pt_val (pe_callB call_isi (by rfl) T.isinstance bo_isinstance (pa_cons (pv 2) (pa_cons (pe_bltn (v := .ty "tuple") (by rfl) T.tuple bo_tuple rfl) pa_nil))))))))
        (pss_one ps_never)
        pss_nil)
      (pss_one (ps_for PassesOwn.never rfl (pi_enumT (by rfl) T.enumerate (pa_cons (pv 2) pa_nil)) (pg_tup rfl (pgs_cons (pg_name (i := 3) sc_need_web.nd rfl (Or.inl rfl)) (pgs_cons (pg_name (i := 4) sc_need_web.nd rfl (Or.inl rfl)) pgs_nil)))
        (pss_one (ps_if (PW.pt (pw_or (pt_not (pt_val (pe_ca c_is_tie hr (by decide) (by rfl) (pa_cons (pv 4) (pa_cons (pv 1) pa_nil))))) (pw_or1 (PW.pt (pw_and (pt_cmpR op_gt (pv 3) pe_int (nomark _)) (pw_and1 (pt_cmpR (op_leT hr.units0) (pv 4) (pe_ix ix_tup (pv 2) (pe_op op_sub (pv 3) pe_int) (fun _ _ => rfl)) (nomark _))))))))
          (pss_one ps_never)
          pss_nil))))))), ?_⟩
    refine ⟨_, rfl, .ref pw, .ty "tuple", .type "tuple", .type "tuple", true, rfl, ClsV.ty _, TyX.base (TyOf.tup hw), kit_ty (by decide +kernel), true, rfl, iteF ?_⟩
    refine ⟨_, rfl, pw, _, rfl, .inr (SqT.of hw), rfl, _, rfl, iteF ?_⟩
    refine ⟨_, rfl, pw, _, rfl, SqT.of hw, rfl, _, _, rfl, _, _, rfl, rfl, ?_⟩
    refine ⟨_, rfl, many, 1, 8, rfl, true, by rw [decide_eq_true wo.lo, decide_eq_true (show many ≤ 8 by have := wo.hi; omega)]; rfl, iteF ?_⟩
    refine ⟨_, rfl, .ref pt, .ty "tuple", .type "tuple", .type "tuple", true, rfl, ClsV.ty _, TyX.base (TyOf.tup ht), kit_ty (by decide +kernel), true, rfl, iteF ?_⟩
    refine ⟨_, rfl, pt, _, rfl, SqT.of ht, for_enumT (K := K) (a := pt) (xs := ts) (fun i σ H' => Same H H' ∧ ∃ y3 y4, σ = [some (.ref pw), some (.int many), some (.ref pt), y3, y4]) ⟨Same.refl _, _, _, rfl⟩ (fun i σ H' h => sqT_same h.1 (SqT.of ht)) ?_ fun σ H' h => q H' h.1⟩
    rintro i x t σ H' hx ⟨sm, y2, y3, rfl⟩ nt
    obtain ⟨tie, htie, rx⟩ := paired_at pr hx
    have rx : Rp H x tie := rx
    have ho := wo.ok tie (List.mem_of_getElem? htie)
    have sm2 := sm.trans (same_upd (o := .tup [.int (i : Nat), x]) nt)
    refine ⟨t, _, rfl, SqT.of upd_same, rfl, _, _, rfl, _, _, rfl, rfl, ?_⟩
    refine ⟨_, rfl, _, rfl, x, tie.1, tie.2, many, rfl, rx.mono sm2, ho.1, ho.2.1, ho.2.2, true, rfl, iteF ?_⟩
    refine ⟨_, rfl, i, 0, rfl, rfl, _, rfl, ite2 (fun e => ?_) (fun e => ?_)⟩
    · have hi : 0 < i := by
        have := of_decide_eq_true e
        omega
      obtain ⟨j, rfl⟩ : ∃ j, i = j + 1 := ⟨i - 1, by omega⟩
      have hil : j < ties.length := by
        have := (List.getElem?_eq_some_iff.mp htie).1
        omega
      obtain ⟨y, hy, ry⟩ := paired_at2 pr (List.getElem?_eq_getElem hil)
      have ry : Rp H y ties[j] := ry
      obtain ⟨a1, rfl, ha1⟩ := pr_open (rx.mono sm2)
      obtain ⟨a2, rfl, ha2⟩ := pr_open (ry.mono sm2)
      have hlt := List.pairwise_iff_getElem.mp wo.asc j (j + 1) hil (List.getElem?_eq_some_iff.mp htie).1 (Nat.lt_succ_self j)
      have et : ties[j + 1]'(List.getElem?_eq_some_iff.mp htie).1 = tie := (List.getElem?_eq_some_iff.mp htie).2
      rw [et] at hlt
      refine ⟨_, rfl, _, rfl, _, rfl, _, 1, rfl, rfl, pt, ts, _, _, rfl, rfl, sqT_same sm2 (SqT.of ht), ?_, a1, a2, [tie.1, tie.2], [ties[j].1, ties[j].2], rfl, rfl, SqT.of ha1, SqT.of ha2, ?_⟩
      · have ej : ((j + 1 : Nat) : Int) - 1 = (j : Int) := by omega
        rw [ej]
        exact atI_nat hy
      · refine ⟨false, ?_, iteF ⟨sm2, _, _, rfl⟩⟩
        show V.bl (if decide (tie.1 = ties[j].1) = true then (if decide (tie.2 = ties[j].2) = true then decide (2 ≤ 2) else decide (tie.2 ≤ ties[j].2)) else decide (tie.1 ≤ ties[j].1)) = V.bl false
        by_cases q1 : tie.1 = ties[j].1
        · have q2 : ¬ tie.2 = ties[j].2 := by omega
          have q3 : ¬ tie.2 ≤ ties[j].2 := by omega
          rw [decide_eq_true q1, if_pos rfl, decide_eq_false q2, if_neg Bool.false_ne_true, decide_eq_false q3]
        · have q3 : ¬ tie.1 ≤ ties[j].1 := by omega
          rw [decide_eq_false q1, if_neg Bool.false_ne_true, decide_eq_false q3]
    · exact iteF ⟨sm2, _, _, rfl⟩
theorem ca_need_both (c_need_web : Ca P w K mg base 4 "need_web" (sp_need_web K)) (c_need_heights : Ca P w K mg base 4 "need_heights" (sp_need_heights K)) (T : Tx mg) (D : Df K mg "need_both" s_need_both ["web", "heights", "goal"]) : Ca P w K mg base 5 "need_both" (sp_need_both K) := by
  refine D.ca sc_need_both (fun vs H Q E h => ?_) (fun f cdv A outer s H vs Q E hr h => ?_)
  · obtain ⟨w, v, u, many, ties, hs, gs, rfl, _⟩ := h
    rfl
  · obtain ⟨w, v, u, many, ties, hs, gs, rfl, rw, wo, rv, hv, ru, hu, q⟩ := h
    refine ⟨_, (pss_cons (ps_expr (pe_ca c_need_web hr (by decide) (by rfl) (pa_cons (pv 0) pa_nil)))
      (pss_cons (ps_expr (pe_ca c_need_heights hr (by decide) (by rfl) (pa_cons (pv 0) (pa_cons (pv 1) pa_nil))))
      (pss_one (ps_expr (pe_ca c_need_heights hr (by decide) (by rfl) (pa_cons (pv 0) (pa_cons (pv 2) pa_nil))))))), ?_⟩
    refine ⟨_, rfl, w, many, ties, rfl, rw, wo, fun H1 s1 => ?_⟩
    refine ⟨_, rfl, _, rfl, w, v, many, ties, hs, rfl, rw.mono s1, wo, rv.mono s1, hv, fun H2 s2 => ?_⟩
    exact ⟨_, rfl, _, rfl, w, u, many, ties, gs, rfl, rw.mono (s1.trans s2), wo, ru.mono (s1.trans s2), hu, fun H3 s3 => q H3 ((s1.trans s2).trans s3)⟩
end
end Sto

/-! text: S2a -/
set_option Elab.async false
set_option linter.all false
set_option maxRecDepth 100000
set_option maxHeartbeats 4000000
/-! tied_to, _law_ties, everybody, open_at, _law_open, hanging -/
namespace Sto
open PySem PySem.Spec PyProof.Rows L2
def sp_tied_to (_ : PySem.W.Frag) : Sp := fun vs H Q _ => ∃ (v : V) (p many : Int) (ties : List (Int × Int)), vs = [v, .int p] ∧ Wb H v many ties ∧ ties.length ≤ 100 ∧
  ∀ a H' (ns : List Int), Same H H' → H a = none → H' a = some (.lst (ns.map V.int)) → (∀ x, x ∈ ns ↔ adj ties p x) → ns.length ≤ 100 → Q (.ref a) H'
abbrev sp_law_ties := sp_tied_to
def sp_everybody (_ : PySem.W.Frag) : Sp := fun vs H Q _ => ∃ (v : V) (many : Int) (ties : List (Int × Int)), vs = [v] ∧ Wb H v many ties ∧ 1 ≤ many ∧ many ≤ 6 ∧
  ∀ u H', Same H H' → Rp H' u (upto many.toNat) → Q u H'
def sp_open_at (_ : PySem.W.Frag) : Sp := fun vs H Q _ => ∃ (u v : V) (hs gs : List Int) (h : Int), vs = [u, v, .int h] ∧ Rp H u hs ∧ Rp H v gs ∧ hs.length = gs.length ∧ hs.length ≤ 6 ∧
  ∀ a H', Same H H' → H a = none → H' a = some (.lst ((opn hs gs h).map V.int)) → Q (.ref a) H'
def sp_law_open (_ : PySem.W.Frag) : Sp := fun vs H Q _ => ∃ (u v : V) (hs gs : List Int) (h : Int), vs = [u, v, .int h] ∧ Rp H u hs ∧ Rp H v gs ∧ hs.length = gs.length ∧ hs.length ≤ 6 ∧
  ∀ a H', Same H H' → Rp H' (.ref a) (opn hs gs h) → Q (.ref a) H'
def sp_hanging (_ : PySem.W.Frag) : Sp := fun vs H Q _ => ∃ (v : V) (p : Int) (l : Addr) (many : Int) (ties : List (Int × Int)) (lot : List Int), vs = [v, .int p, .ref l] ∧ Wb H v many ties ∧ ties.length ≤ 100 ∧ H l = some (.lst (lot.map V.int)) ∧ lot.length ≤ 100 ∧
  ∀ u H' (ns : List Int), Same H H' → Rp H' u ns → (∀ x, x ∈ ns ↔ Reach ties lot p x) → ns.length ≤ lot.length + 1 → Q u H'
theorem le1 : 1 ≤ sizeLine := by decide
theorem le2 : 2 ≤ sizeLine := by decide
theorem adj_snoc {l : List (Int × Int)} {t : Int × Int} {p x : Int} : adj (l ++ [t]) p x ↔ adj l p x ∨ t = (p, x) ∨ t = (x, p) := by
  unfold adj
  simp only [List.mem_append, List.mem_singleton]
  constructor
  · rintro ((h | h) | (h | h))
    · exact .inl (.inl h)
    · exact .inr (.inl h.symm)
    · exact .inl (.inr h)
    · exact .inr (.inr h.symm)
  · rintro ((h | h) | (h | h))
    · exact .inl (.inl h)
    · exact .inr (.inl h)
    · exact .inl (.inr h.symm)
    · exact .inr (.inr h.symm)
theorem tie_other {t : Int × Int} {p x : Int} (h : p ∈ [t.1, t.2]) : x = t.1 + t.2 - p ↔ t = (p, x) ∨ t = (x, p) := by
  obtain ⟨a, b⟩ := t
  simp only [List.mem_cons, List.not_mem_nil, or_false, Prod.mk.injEq] at h ⊢
  omega
theorem tie_none {t : Int × Int} {p x : Int} (h : p ∉ [t.1, t.2]) : ¬ (t = (p, x) ∨ t = (x, p)) := by
  obtain ⟨a, b⟩ := t
  simp only [List.mem_cons, List.not_mem_nil, or_false, Prod.mk.injEq] at h ⊢
  omega
theorem mem_ties {ties : List (Int × Int)} {p x : Int} : x ∈ (ties.filter fun t => decide (p ∈ [t.1, t.2])).map (fun t => t.1 + t.2 - p) ↔ adj ties p x := by
  rw [List.mem_map]
  constructor
  · rintro ⟨t, ht, e⟩
    obtain ⟨h1, h2⟩ := List.mem_filter.mp ht
    rcases (tie_other (of_decide_eq_true h2)).mp e.symm with z | z
    · exact .inl (z ▸ h1)
    · exact .inr (z ▸ h1)
  · rintro (h | h)
    · exact ⟨_, List.mem_filter.mpr ⟨h, by simp⟩, by show p + x - p = x; omega⟩
    · exact ⟨_, List.mem_filter.mpr ⟨h, by simp⟩, by show x + p - p = x; omega⟩
theorem sc_tied_to : FnScope ["web", "person", "found", "one", "other"] ["web", "person"] (defScope s_tied_to) := ⟨rfl, rfl, rfl, by decide +kernel, rfl, by decide +kernel, by decide +kernel⟩
theorem sc_law_ties : FnScope ["_law_web_here", "_law_person", "_law_one", "_law_other"] ["_law_web_here", "_law_person"] (defScope s_law_ties) := ⟨rfl, rfl, rfl, by decide +kernel, rfl, by decide +kernel, by decide +kernel⟩
theorem sc_everybody : FnScope ["web"] ["web"] (defScope s_everybody) := ⟨rfl, rfl, rfl, by decide +kernel, rfl, by decide +kernel, by decide +kernel⟩
theorem sc_open_at : FnScope ["heights", "goal", "height", "one"] ["heights", "goal", "height"] (defScope s_open_at) := ⟨rfl, rfl, rfl, by decide +kernel, rfl, by decide +kernel, by decide +kernel⟩
theorem sc_law_open : FnScope ["_law_heights_here", "_law_goal_here", "_law_height", "_law_one"] ["_law_heights_here", "_law_goal_here", "_law_height"] (defScope s_law_open) := ⟨rfl, rfl, rfl, by decide +kernel, rfl, by decide +kernel, by decide +kernel⟩
theorem sc_hanging : FnScope ["web", "person", "lot", "found", "edge", "here", "other"] ["web", "person", "lot"] (defScope s_hanging) := ⟨rfl, rfl, rfl, by decide +kernel, rfl, by decide +kernel, by decide +kernel⟩
/-- the loop of the open set -/
theorem open_go {K : PySem.W.Frag} {a b : Addr} {hs gs : List Int} {h : Int} {H1 : Hp} {D : Addr} {Qd : Hp → Prop} {n : Nat} (hn : n = hs.length) (ha : H1 a = some (.tup (hs.map V.int))) (hb : H1 b = some (.tup (gs.map V.int))) (hl : hs.length = gs.length) (hz : hs.length ≤ 6) (hD : H1 D = none)
    (q : ∀ H, Same H1 H → Ls H D (opn hs gs h) → Qd H) : LcGoal (Itr 0 n) (gName 3) (tTest (tChain (rI0 fun i j => .bl (decide (j ≤ i))) (rI0 fun i j => .bl (decide (j ≤ i))) (tOp (rIxT K) (tVar 0) (tVar 3)) (tVar 2) (tOp (rIxT K) (tVar 1) (tVar 3)))) (tVar 3) [3] [some (.ref a), some (.ref b), some (.int h), none] H1 D Qd := by
  subst hn
  refine lcR (β := Int) (fun i => decide (h ≤ ht hs i) && decide (ht gs i ≤ h)) (fun x => x) hD (small1000 (by omega)) (fun x H kF kT h0 h1 s1 hF hT => ⟨rfl, ?_⟩) fun H s1 l => q H s1 (by rw [List.map_id'] at l; exact l)
  refine ⟨_, rfl, _, rfl, ix_ints (s1 _ _ ha) h0 h1 ?_⟩
  refine ⟨_, rfl, _, _, rfl, rfl, _, rfl, ite2 (fun e => ?_) (fun e => ?_)⟩
  · refine ⟨_, rfl, _, rfl, ix_ints (s1 _ _ hb) h0 (by omega) ?_⟩
    refine ⟨_, _, rfl, rfl, _, rfl, ite2 (fun e2 => ?_) (fun e2 => ?_)⟩
    · exact ⟨_, rfl, hT (by rw [e, e2]; rfl) _ _ (Same.refl _) rfl⟩
    · exact hF (by rw [Bool.and_eq_false_iff]; exact .inr (by simpa using e2)) _ (Same.refl _)
  · exact ⟨_, rfl, iteF (hF (by rw [Bool.and_eq_false_iff]; exact .inl (by simpa using e)) _ (Same.refl _))⟩
section
variable {P : Program} {w : World} {K : PySem.W.Frag} {mg : Str → Option Value} {base : Heap}
theorem ca_everybody (T : Tx mg) (D : Df K mg "everybody" s_everybody ["web"]) : Ca P w K mg base 1 "everybody" (sp_everybody K) := by
  refine D.ca sc_everybody (fun vs H Q E h => ?_) (fun f cdv A outer s H vs Q E hr h => ?_)
  · obtain ⟨v, many, ties, rfl, _⟩ := h
    rfl
  · obtain ⟨v, many, ties, rfl, rw, h1, h2, q⟩ := h
    obtain ⟨pw, pt, ts, rfl, hw, _, _⟩ := wb_open rw
    refine ⟨_, (pss_one (ps_ret (pe_tupRg rfl (by rfl) T.tuple (prg_1 (by rfl) T.range (pe_ix ix_tup (pv 0) pe_int (fun _ _ => rfl)))))), ?_⟩
    refine ⟨_, rfl, pw, _, 0, .int many, rfl, rfl, SqT.of hw, atI_nat (j := 0) rfl, many, rfl, RgOk.of_le (by omega) (by omega) (by omega) (by omega), fun u hu => ?_⟩
    have e : rgV 0 many = (upto many.toNat).map V.int := by
      unfold rgV upto
      rw [List.map_map, Int.sub_zero]
      refine List.map_congr_left fun i _ => ?_
      show V.int (0 + (i : Int)) = V.int (i : Int)
      rw [Int.zero_add]
    rw [e]
    exact q _ _ (same_upd hu) (rp_new hu (paired_of_ints _))
theorem ca_open_at (T : Tx mg) (D : Df K mg "open_at" s_open_at ["heights", "goal", "height"]) : Ca P w K mg base 1 "open_at" (sp_open_at K) := by
  refine D.ca sc_open_at (fun vs H Q E h => ?_) (fun f cdv A outer s H vs Q E hr h => ?_)
  · obtain ⟨u, v, hs, gs, h, rfl, _⟩ := h
    rfl
  · obtain ⟨u, v, hs, gs, h, rfl, ru, rv, hl, hz, q⟩ := h
    obtain ⟨a, rfl, ha⟩ := rp_ints ru
    obtain ⟨b, rfl, hb⟩ := rp_ints rv
    refine ⟨_, (pss_one (ps_ret (pe_lc (own := [("one", 3)]) (g := (gName 3)) (tt := (tTest (tChain (rI0 fun i j => .bl (decide (j ≤ i))) (rI0 fun i j => .bl (decide (j ≤ i))) (tOp (rIxT K) (tVar 0) (tVar 3)) (tVar 2) (tOp (rIxT K) (tVar 1) (tVar 3))))) (te := (tVar 3)) rfl sc_open_at.nd (pi_range1 rfl T.range (pa_cons (pe_callB call_len_seq (by rfl) T.len bo_len (pa_cons (pv 0) pa_nil)) pa_nil)) (blkOk_by (N := ["heights", "goal", "height", "one"]) (sc := (defScope s_open_at)) (by decide +kernel)) (fun _ _ _ _ _ => (pg_name (i := 3) sc_open_at.nd rfl (Or.inl rfl))) (fun _ _ _ _ _ => (pts_one (pt_chain op_ge op_ge (pe_ix ix_tup (pv 0) (pv 3) (fun _ _ => rfl)) (pv 2) (pe_ix ix_tup (pv 1) (pv 3) (fun _ _ => rfl))))) (fun _ _ _ _ _ => (pv 3))))), ?_⟩
    refine ⟨_, rfl, a, _, rfl, .inr (SqT.of ha), _, rfl, by omega, by rw [List.length_map]; omega, fun L hL => ?_⟩
    exact open_go (by rw [List.length_map]; rfl) ha hb hl hz hL fun H' s1 l => q L H' s1 hL (ls_ints.mp l)
theorem ca_law_open (T : Tx mg) (D : Df K mg "_law_open" s_law_open ["_law_heights_here", "_law_goal_here", "_law_height"]) : Ca P w K mg base 1 "_law_open" (sp_law_open K) := by
  refine D.ca sc_law_open (fun vs H Q E h => ?_) (fun f cdv A outer s H vs Q E hr h => ?_)
  · obtain ⟨u, v, hs, gs, h, rfl, _⟩ := h
    rfl
  · obtain ⟨u, v, hs, gs, h, rfl, ru, rv, hl, hz, q⟩ := h
    obtain ⟨a, rfl, ha⟩ := rp_ints ru
    obtain ⟨b, rfl, hb⟩ := rp_ints rv
    refine ⟨_, (pss_one (ps_ret (pe_callTy call_tuple_of (by rfl) T.tuple bo_tuple (pa_cons (pe_lc (own := [("_law_one", 3)]) (g := (gName 3)) (tt := (tTest (tChain (rI0 fun i j => .bl (decide (j ≤ i))) (rI0 fun i j => .bl (decide (j ≤ i))) (tOp (rIxT K) (tVar 0) (tVar 3)) (tVar 2) (tOp (rIxT K) (tVar 1) (tVar 3))))) (te := (tVar 3)) rfl sc_law_open.nd (pi_range1 rfl T.range (pa_cons (pe_callB call_len_seq (by rfl) T.len bo_len (pa_cons (pv 0) pa_nil)) pa_nil)) (blkOk_by (N := ["_law_heights_here", "_law_goal_here", "_law_height", "_law_one"]) (sc := (defScope s_law_open)) (by decide +kernel)) (fun _ _ _ _ _ => (pg_name (i := 3) sc_law_open.nd rfl (Or.inl rfl))) (fun _ _ _ _ _ => (pts_one (pt_chain op_ge op_ge (pe_ix ix_tup (pv 0) (pv 3) (fun _ _ => rfl)) (pv 2) (pe_ix ix_tup (pv 1) (pv 3) (fun _ _ => rfl))))) (fun _ _ _ _ _ => (pv 3))) pa_nil)))), ?_⟩
    refine ⟨_, rfl, a, _, rfl, .inr (SqT.of ha), _, rfl, by omega, by rw [List.length_map]; omega, fun L hL => ?_⟩
    refine open_go (by rw [List.length_map]; rfl) ha hb hl hz hL fun H' s1 l => ?_
    refine ⟨L, _, rfl, .inl ⟨SqL.of (ls_ints.mp l), fun t ht => ?_⟩⟩
    exact q _ _ (s1.trans (same_upd ht)) (rp_new ht (paired_of_ints _))
theorem ca_tied_to (T : Tx mg) (D : Df K mg "tied_to" s_tied_to ["web", "person"]) : Ca P w K mg base 1 "tied_to" (sp_tied_to K) := by
  refine D.ca sc_tied_to (fun vs H Q E h => ?_) (fun f cdv A outer s H vs Q E hr h => ?_)
  · obtain ⟨v, p, many, ties, rfl, _⟩ := h
    rfl
  · obtain ⟨v, p, many, ties, rfl, rw, hz, q⟩ := h
    obtain ⟨pw, pt, ts, rfl, hw, ht, pr⟩ := wb_open rw
    refine ⟨_, (pss_cons (ps_set (i := 2) sc_tied_to.nd rfl (Or.inl rfl) (pe_lst pa_nil))
      (pss_cons (ps_for PassesOwn.never rfl (pi_tup (pe_ix ix_tup (pv 0) pe_int (fun _ _ => rfl))) (pg_tup rfl (pgs_cons (pg_name (i := 3) sc_tied_to.nd rfl (Or.inl rfl)) (pgs_cons (pg_name (i := 4) sc_tied_to.nd rfl (Or.inl rfl)) pgs_nil)))
        (pss_one (ps_if (pt_cmpR op_in_seq (pv 1) (pe_tup (pa_cons (pv 3) (pa_cons (pv 4) pa_nil))) (by rfl))
          (pss_one (ps_expr (pe_bm PySem.F.plainAttrs_list PySem.F.slot_list_append PySem.F.type_list_append mt_append (pv 2) (pa_cons (pe_op op_sub (pe_op op_add (pv 3) (pv 4)) (pv 1)) pa_nil))))
          pss_nil)))
      (pss_one (ps_ret (pe_callB cr_sortedI (by rfl) T.sorted bo_sorted (pa_cons (pv 2) pa_nil)))))), ?_⟩
    refine ⟨Nat.zero_le _, fun L hL => ?_⟩
    have sL := same_upd (o := .lst []) hL
    refine ⟨_, rfl, pw, _, 1, .ref pt, rfl, rfl, SqT.of (sL _ _ hw), atI_nat (j := 1) rfl, pt, rfl, ⟨_, SqT.of (sL _ _ ht)⟩, ?_⟩
    refine for_tup (K := K) (a := pt) (xs := ts) (fun i σ H' => Same H H' ∧ ∃ (acc : List Int) (y3 y4 : Option V), σ = [some (.ref pw), some (.int p), some (.ref L), y3, y4] ∧ H' L = some (.lst (acc.map V.int)) ∧ acc.length ≤ i ∧ ∀ x, x ∈ acc ↔ adj (ties.take i) p x)
      ⟨sL, [], none, none, rfl, upd_same, Nat.zero_le _, fun x => by simp [adj]⟩ (fun i σ H' _ h => sqT_same h.1 (SqT.of ht)) ?_ ?_
    · rintro i x σ H' hx ⟨sm, acc, y3, y4, rfl, hacc, hal, hm⟩
      obtain ⟨tie, htie, rx⟩ := paired_at pr hx
      obtain ⟨ta, rfl, hta⟩ := pr_open (Rp.mono sm rx)
      have et : ties.take (i + 1) = ties.take i ++ [tie] := by rw [List.take_add_one, htie]; rfl
      have hil : i < ties.length := (List.getElem?_eq_some_iff.mp htie).1
      refine ⟨ta, _, rfl, SqT.of hta, rfl, _, _, rfl, _, _, rfl, rfl, ?_⟩
      refine ⟨_, rfl, _, rfl, _, rfl, le2, fun t htn => in_ints (ns := [tie.1, tie.2]) (sq_tup upd_same) ⟨_, rfl, ?_⟩⟩
      have sm2 := sm.trans (same_upd (o := .tup [.int tie.1, .int tie.2]) htn)
      have hacc2 : upd H' t (.tup [.int tie.1, .int tie.2]) L = some (.lst (acc.map V.int)) := same_upd htn _ _ hacc
      refine ite2 (fun e => ?_) (fun e => ?_)
      · have e := of_decide_eq_true e
        refine ⟨_, rfl, .inl ⟨rfl, _, SqL.of hacc2⟩, _, rfl, _, rfl, _, _, rfl, rfl, _, rfl, _, _, rfl, rfl, L, _, _, rfl, rfl, hacc2, small1000 (by rw [List.length_map]; omega), ?_⟩
        refine ⟨same_lst hL sm2, acc ++ [tie.1 + tie.2 - p], _, _, rfl, ?_, by rw [List.length_append, List.length_singleton]; omega, fun x => ?_⟩
        · rw [upd_same, List.map_append]
          rfl
        · rw [et, adj_snoc, List.mem_append, List.mem_singleton, hm, tie_other e]
      · have e : p ∉ [tie.1, tie.2] := fun z => e (decide_eq_true z)
        refine ⟨sm2, acc, _, _, rfl, hacc2, by omega, fun x => ?_⟩
        rw [et, adj_snoc, hm]
        exact ⟨.inl, fun z => z.elim id fun z => absurd z (tie_none e)⟩
    · rintro σ H' ⟨sm, acc, y3, y4, rfl, hacc, hal, hm⟩
      have hlen : ts.length = ties.length := Paired.length pr
      rw [hlen, List.take_length] at hm
      refine ⟨_, rfl, L, acc, rfl, SqL.of hacc, fun ns' u hp hpw hu => ?_⟩
      refine q u _ ns' (sm.trans (same_upd hu)) (sm.free hu) upd_same (fun x => ?_) ?_
      · rw [hp.mem_iff, hm]
      · rw [hp.length_eq]
        omega
theorem ca_law_ties (T : Tx mg) (D : Df K mg "_law_ties" s_law_ties ["_law_web_here", "_law_person"]) : Ca P w K mg base 1 "_law_ties" (sp_law_ties K) := by
  refine D.ca sc_law_ties (fun vs H Q E h => ?_) (fun f cdv A outer s H vs Q E hr h => ?_)
  · obtain ⟨v, p, many, ties, rfl, _⟩ := h
    rfl
  · obtain ⟨v, p, many, ties, rfl, rw, hz, q⟩ := h
    obtain ⟨pw, pt, ts, rfl, hw, ht, pr⟩ := wb_open rw
    refine ⟨_, (pss_one (ps_ret (pe_callB cr_sortedI (by rfl) T.sorted bo_sorted (pa_cons (pe_lc (own := [("_law_one", 2), ("_law_other", 3)]) (g := (gTup K 2 (gCons (gName 2) (gCons (gName 3) gNil)))) (tt := (tTest (tOp (rIn K false) (tVar 1) (tTup (tCons (tVar 2) (tCons (tVar 3) tNil)))))) (te := (tOp (rI0 fun i j => .int (i - j)) (tOp (rI0 fun i j => .int (i + j)) (tVar 2) (tVar 3)) (tVar 1))) rfl sc_law_ties.nd (pi_tup (pe_ix ix_tup (pv 0) pe_int (fun _ _ => rfl))) (blkOk_by (N := ["_law_web_here", "_law_person", "_law_one", "_law_other"]) (sc := (defScope s_law_ties)) (by decide +kernel)) (fun _ _ _ _ _ => (pg_tup rfl (pgs_cons (pg_name (i := 2) sc_law_ties.nd rfl (Or.inl rfl)) (pgs_cons (pg_name (i := 3) sc_law_ties.nd rfl (Or.inl rfl)) pgs_nil)))) (fun _ _ _ _ _ => (pts_one (pt_cmpR op_in_seq (pv 1) (pe_tup (pa_cons (pv 2) (pa_cons (pv 3) pa_nil))) (by rfl)))) (fun _ _ _ _ _ => (pe_op op_sub (pe_op op_add (pv 2) (pv 3)) (pv 1)))) pa_nil)))), ?_⟩
    refine ⟨_, rfl, pw, _, 1, .ref pt, rfl, rfl, SqT.of hw, atI_nat (j := 1) rfl, pt, rfl, ⟨_, SqT.of ht⟩, fun L hL => ?_⟩
    refine lcT (α := Int × Int) (β := Int) (as := ties) (fun t => decide (p ∈ [t.1, t.2])) (fun t => t.1 + t.2 - p) (SqT.of ht) hL (small1000 (by omega)) pr (fun v tie H' kF kT hmem rx s1 hF hT => ?_) fun H' s1 l => ?_
    · obtain ⟨ta, rfl, hta⟩ := pr_open rx
      refine ⟨ta, _, rfl, SqT.of hta, rfl, _, _, rfl, _, _, rfl, rfl, rfl, ?_⟩
      refine ⟨_, rfl, _, rfl, _, rfl, le2, fun t htn => in_ints (ns := [tie.1, tie.2]) (sq_tup upd_same) ⟨_, rfl, ite2 (fun e => ?_) (fun e => ?_)⟩⟩
      · exact ⟨_, rfl, _, rfl, _, _, rfl, rfl, _, rfl, _, _, rfl, rfl, hT e _ _ (same_upd htn) rfl⟩
      · exact hF (by simpa using e) _ (same_upd htn)
    · refine ⟨L, _, rfl, SqL.of (ls_ints.mp l), fun ns' u hp hpw hu => ?_⟩
      refine q u _ ns' (s1.trans (same_upd hu)) (s1.free hu) upd_same (fun x => ?_) ?_
      · rw [hp.mem_iff, mem_ties]
      · rw [hp.length_eq, List.length_map]
        exact Nat.le_trans (List.length_filter_le _ _) hz
theorem ca_hanging (c_tied_to : Ca P w K mg base 1 "tied_to" (sp_tied_to K)) (T : Tx mg) (D : Df K mg "hanging" s_hanging ["web", "person", "lot"]) : Ca P w K mg base 2 "hanging" (sp_hanging K) := by
  refine D.ca sc_hanging (fun vs H Q E h => ?_) (fun f cdv A outer s H vs Q E hr h => ?_)
  · obtain ⟨v, p, l, many, ties, lot, rfl, _⟩ := h
    rfl
  · obtain ⟨v, p, l, many, ties, lot, rfl, rw, hz, hlot, hlz, q⟩ := h
    refine ⟨_, (pss_cons (ps_par (i := 3) (j := 4) rfl sc_hanging.nd rfl rfl (by decide) rfl rfl (pa_cons (pe_lst (pa_cons (pv 1) pa_nil)) (pa_cons (pe_lst (pa_cons (pv 1) pa_nil)) pa_nil)) (by rfl))
      (pss_cons (ps_while PassesOwn.never (pt_cmpR (op_neD hr.units) (pv 4) (pe_lst pa_nil) (nomark _))
        (pss_cons (ps_set (i := 5) sc_hanging.nd rfl (Or.inl rfl) (pe_bm0 PySem.F.plainAttrs_list PySem.F.slot_list_pop PySem.F.type_list_pop mt_pop (pv 4)))
        (pss_one (ps_for PassesOwn.never rfl (pi_list (pe_ca c_tied_to hr (by decide) (by rfl) (pa_cons (pv 0) (pa_cons (pv 5) pa_nil)))) (pg_name (i := 6) sc_hanging.nd rfl (Or.inl rfl))
          (pss_one (ps_if (PW.pt (pw_and (pt_cmpR op_in_seq (pv 6) (pv 2) (by rfl)) (pw_and1 (pt_cmpR op_notIn_seq (pv 6) (pv 3) (by rfl)))))
            (pss_cons (ps_expr (pe_bm PySem.F.plainAttrs_list PySem.F.slot_list_append PySem.F.type_list_append mt_append (pv 3) (pa_cons (pv 6) pa_nil)))
            (pss_one (ps_expr (pe_bm PySem.F.plainAttrs_list PySem.F.slot_list_append PySem.F.type_list_append mt_append (pv 4) (pa_cons (pv 6) pa_nil)))))
            pss_nil))))))
      (pss_one (ps_ret (pe_callTy call_tuple_of (by rfl) T.tuple bo_tuple (pa_cons (pe_callB cr_sortedI (by rfl) T.sorted bo_sorted (pa_cons (pv 3) pa_nil)) pa_nil)))))), ?_⟩
    refine ⟨_, rfl, le1, fun f1 hf1 => ?_⟩
    refine ⟨_, rfl, le1, fun e1 he1 => ⟨_, _, rfl, ?_⟩⟩
    have s0 : Same H (upd H f1 (.lst [.int p])) := same_upd hf1
    have s1 : Same H (upd (upd H f1 (.lst [.int p])) e1 (.lst [.int p])) := s0.trans (same_upd he1)
    have he0 : H e1 = none := s0.free he1
    have hne : f1 ≠ e1 := fun z => by rw [z, upd_same] at he1; cases he1
    refine ⟨fun m σ H' => Same H H' ∧ ∃ (fs es : List Int) (y5 y6 : Option V), σ = [some v, some (.int p), some (.ref l), some (.ref f1), some (.ref e1), y5, y6] ∧ H' f1 = some (.lst (fs.map V.int)) ∧ H' e1 = some (.lst (es.map V.int)) ∧ HInv ties lot p fs es ∧ es.length + 2 * (lot.length + 1 - fs.length) ≤ m ∧ es.length ≤ fs.length,
      ⟨_, s1, [p], [p], none, none, rfl, by rw [upd_ne hne, upd_same]; rfl, by rw [upd_same]; rfl, HInv.start, Nat.le_refl _, Nat.le_refl _⟩, ?_⟩
    rintro m σ H' ⟨sm, fs, es, y5, y6, rfl, hf, he, I, hm, hef⟩
    refine ⟨_, rfl, Nat.zero_le _, fun t htn => ?_⟩
    have sT := same_upd (o := .lst []) htn
    refine ne_nilL (α := Int) (xs := es) (by decide) (ls_ints.mpr (sT _ _ he)) upd_same ⟨_, rfl, ite2 (fun e => ?_) (fun e => ?_)⟩
    · -- a turn
      obtain ⟨es', here, rfl⟩ : ∃ es' here, es = es' ++ [here] := by
        rcases List.eq_nil_or_concat es with z | ⟨a, b, z⟩
        · rw [z] at e
          cases e
        · exact ⟨a, b, by rw [z, List.concat_eq_append]⟩
      have M := I.pop
      have hfl := I.len
      rw [List.length_append, List.length_singleton] at hm hef
      refine ⟨fun σ' H2 => Same H H2 ∧ ∃ (fs es : List Int) (y5 y6 : Option V), σ' = [some v, some (.int p), some (.ref l), some (.ref f1), some (.ref e1), y5, y6] ∧ H2 f1 = some (.lst (fs.map V.int)) ∧ H2 e1 = some (.lst (es.map V.int)) ∧ HInv ties lot p fs es ∧ es.length + 2 * (lot.length + 1 - fs.length) < m ∧ es.length ≤ fs.length, ?_, ?_⟩
      · rintro σ' H2 ⟨sm, fs, es, y5, y6, e1, e2, e3, I, hlt, hle⟩
        exact ⟨_, hlt, sm, fs, es, y5, y6, e1, e2, e3, I, Nat.le_refl _, hle⟩
      · have he2 := sT _ _ he
        have hpop : ((es' ++ [here]).map V.int)[((es' ++ [here]).map V.int).length - 1]? = some (V.int here) := by simp
        refine ⟨_, rfl, .inl ⟨rfl, _, SqL.of he2⟩, e1, _, _, rfl, rfl, he2, hpop, ?_⟩
        have s2 : Same H (upd (upd H' t (.lst [])) e1 (.lst (((es' ++ [here]).map V.int).dropLast))) := same_lst he0 (sm.trans sT)
        have ed : ((es' ++ [here]).map V.int).dropLast = es'.map V.int := by rw [List.map_append]; simp
        rw [ed] at s2 ⊢
        refine ⟨_, rfl, _, rfl, v, here, many, ties, rfl, Rp.mono s2 rw, hz, fun a H3 ns s3 hna hns hadj hnl => ?_⟩
        have hf2 : upd (upd H' t (.lst [])) e1 (.lst (es'.map V.int)) f1 = some (.lst (fs.map V.int)) := by rw [upd_ne hne]; exact sT _ _ hf
        have haf : f1 ≠ a := fun z => by rw [← z, hf2] at hna; cases hna
        have hae : e1 ≠ a := fun z => by rw [← z, upd_same] at hna; cases hna
        refine ⟨a, rfl, ⟨_, SqL.of hns⟩, ?_⟩
        refine for_list (K := K) (a := a) (xs := ns.map V.int) (fun i σ H2 => Same H H2 ∧ H2 a = some (.lst (ns.map V.int)) ∧ ∃ (fs es : List Int) (y6 : Option V), σ = [some v, some (.int p), some (.ref l), some (.ref f1), some (.ref e1), some (.int here), y6] ∧ H2 f1 = some (.lst (fs.map V.int)) ∧ H2 e1 = some (.lst (es.map V.int)) ∧ HMid ties lot p here (ns.take i) fs es ∧ es.length + 2 * (lot.length + 1 - fs.length) < m ∧ es.length ≤ fs.length)
          ⟨s2.trans s3, hns, fs, es', y6, rfl, s3 _ _ hf2, s3 _ _ upd_same, M, by omega, by omega⟩ (fun i σ H2 _ h => SqL.of h.2.1) ?_ ?_
        · rintro i x σ H2 hx ⟨sm, hns, fs, es, y6, rfl, hf, he, M, hlt, hle⟩
          rw [List.getElem?_map] at hx
          obtain ⟨y, hy, rfl⟩ := Option.map_eq_some_iff.mp hx
          have hya : adj ties here y := (hadj y).mp (List.mem_of_getElem? hy)
          have et : ns.take (i + 1) = ns.take i ++ [y] := by rw [List.take_add_one, hy]; rfl
          have hfl := M.len
          refine ⟨_, rfl, _, rfl, in_ints (sq_lst (sm _ _ hlot)) ⟨_, rfl, ite2 (fun k1 => ?_) (fun k1 => ?_)⟩⟩
          · have m1 := of_decide_eq_true k1
            refine ⟨_, rfl, _, rfl, notin_ints (sq_lst hf) ⟨_, rfl, ite2 (fun e2 => ?_) (fun e2 => ?_)⟩⟩
            · have m2 : y ∉ fs := by simpa using e2
              have N := M.new hya m1 m2
              have hNl := N.len
              rw [List.length_append, List.length_singleton] at hNl
              refine ⟨_, rfl, .inl ⟨rfl, _, SqL.of hf⟩, _, rfl, f1, _, _, rfl, rfl, hf, small1000 (by rw [List.length_map]; omega), ?_⟩
              have hen : upd H2 f1 (.lst (fs.map V.int ++ [V.int y])) e1 = some (.lst (es.map V.int)) := by rw [upd_ne (Ne.symm hne)]; exact he
              refine ⟨_, rfl, .inl ⟨rfl, _, SqL.of hen⟩, _, rfl, e1, _, _, rfl, rfl, hen, small1000 (by rw [List.length_map]; omega), ?_⟩
              refine ⟨same_lst he0 (same_lst hf1 sm), ?_, fs ++ [y], es ++ [y], _, rfl, ?_, ?_, by rw [et]; exact N, ?_, ?_⟩
              · rw [upd_ne (Ne.symm hae), upd_ne (Ne.symm haf)]
                exact hns
              · rw [upd_ne hne, upd_same, List.map_append]
                rfl
              · rw [upd_same, List.map_append]
                rfl
              · rw [List.length_append, List.length_append, List.length_singleton]
                omega
              · rw [List.length_append, List.length_append, List.length_singleton]
                omega
            · have m2 : y ∈ fs := by simpa using e2
              exact ⟨sm, hns, fs, es, _, rfl, hf, he, by rw [et]; exact M.old fun _ => m2, hlt, hle⟩
          · have m1 : y ∉ lot := by simpa using k1
            exact iteF ⟨sm, hns, fs, es, _, rfl, hf, he, by rw [et]; exact M.old fun z => absurd z m1, hlt, hle⟩
        · rintro σ H2 ⟨sm, hns, fs, es, y6, rfl, hf, he, M, hlt, hle⟩
          rw [List.length_map, List.take_length] at M
          exact ⟨sm, fs, es, _, y6, rfl, hf, he, M.fin fun y hy => (hadj y).mpr hy, hlt, hle⟩
    · -- the end
      have e : es = [] := by
        cases es with
        | nil => rfl
        | cons a b => exact absurd rfl e
      subst e
      have hfl := I.len
      refine ⟨_, rfl, f1, fs, rfl, SqL.of (sT _ _ hf), fun ns' u hp hpw hu => ?_⟩
      refine ⟨u, _, rfl, .inl ⟨SqL.of upd_same, fun t2 ht2 => ?_⟩⟩
      refine q _ _ ns' (((sm.trans sT).trans (same_upd hu)).trans (same_upd ht2)) (rp_new ht2 (paired_of_ints _)) (fun x => ?_) ?_
      · rw [hp.mem_iff, I.fin]
      · rw [hp.length_eq]
        exact hfl
end
end Sto

/-! text: S2b -/
set_option Elab.async false
set_option linter.all false
set_option maxRecDepth 100000
set_option maxHeartbeats 4000000
/-! joins, piece_of, sources_of, is_reached, can_pass -/
namespace Sto
open PySem PySem.Spec PyProof.Rows L2 StX
theorem tyes {σ : L2.St} {H : Hp} {F : Bool → Hp → Prop} (h : F true H) : tYes σ H F := h
theorem ne_nil_iff {α : Type} {l : List α} : l ≠ [] ↔ ∃ x, x ∈ l := by
  cases l with
  | nil => simp
  | cons a r => simp
noncomputable def tf (p : Prop) : Bool := @decide p (Classical.propDecidable p)
theorem tf_iff {p : Prop} : tf p = true ↔ p := @decide_eq_true_iff p (Classical.propDecidable p)
theorem tf_eq {b : Bool} {p : Prop} (h : b = true ↔ p) : b = tf p := by rw [Bool.eq_iff_iff, tf_iff]; exact h
theorem tf_congr {p q : Prop} (h : p ↔ q) : tf p = tf q := by rw [Bool.eq_iff_iff, tf_iff, tf_iff]; exact h
theorem ls_bls {H : Hp} {a : Addr} {bs : List Bool} (h : Ls H a bs) : H a = some (.lst (bs.map V.bl)) := by
  obtain ⟨vs, e, p⟩ := h
  rw [e, paired_bls p]
/-- a lot's persons are all joined to a source -/
def Joined (ties : List (Int × Int)) (lot src : List Int) : Prop := ∀ p ∈ lot, ∃ x ∈ src, Reach ties (lot ++ src) p x
/-- the person's goal is reached by a source in its piece -/
def Src (ties : List (Int × Int)) (hs gs : List Int) (p : Int) : Prop := p ∈ opn hs gs (ht gs p) ∧ ∃ x, Reach ties (opn hs gs (ht gs p)) p x ∧ ht hs x = ht gs p
def Comes (ties : List (Int × Int)) (hs gs : List Int) : Prop := ∀ p : Int, 0 ≤ p → p < hs.length → Src ties hs gs p
def sp_joins (_ : PySem.W.Frag) : Sp := fun vs H Q _ => ∃ (v u : V) (b : Addr) (many : Int) (ties : List (Int × Int)) (lot src : List Int), vs = [v, u, .ref b] ∧ Wb H v many ties ∧ ties.length ≤ 100 ∧ Rp H u lot ∧ H b = some (.lst (src.map V.int)) ∧ lot.length + src.length ≤ 100 ∧
  ∀ H', Same H H' → Q (.bl (tf (Joined ties lot src))) H'
/-- the web, the heights, the goal -/
def Whg (H : Hp) (v u z : V) (many : Int) (ties : List (Int × Int)) (hs gs : List Int) : Prop := Wb H v many ties ∧ ties.length ≤ 100 ∧ Rp H u hs ∧ Rp H z gs ∧ (hs.length : Int) = many ∧ (gs.length : Int) = many ∧ 1 ≤ many ∧ many ≤ 6
theorem Whg.mono {H H' : Hp} {v u z : V} {many : Int} {ties : List (Int × Int)} {hs gs : List Int} (s : Same H H') (h : Whg H v u z many ties hs gs) : Whg H' v u z many ties hs gs :=
  ⟨Rp.mono s h.1, h.2.1, Rp.mono s h.2.2.1, Rp.mono s h.2.2.2.1, h.2.2.2.2⟩
def sp_piece_of (_ : PySem.W.Frag) : Sp := fun vs H Q _ => ∃ (v u z : V) (many : Int) (ties : List (Int × Int)) (hs gs : List Int) (p : Int), vs = [v, u, z, .int p] ∧ Whg H v u z many ties hs gs ∧ 0 ≤ p ∧ p < many ∧
  ∀ y H' (ns : List Int), Same H H' → Rp H' y ns → (∀ x, x ∈ ns ↔ p ∈ opn hs gs (ht gs p) ∧ Reach ties (opn hs gs (ht gs p)) p x) → ns.length ≤ 7 → Q y H'
def sp_sources_of (_ : PySem.W.Frag) : Sp := fun vs H Q _ => ∃ (v u z : V) (many : Int) (ties : List (Int × Int)) (hs gs : List Int) (p : Int), vs = [v, u, z, .int p] ∧ Whg H v u z many ties hs gs ∧ 0 ≤ p ∧ p < many ∧
  ∀ a H' (ns : List Int), Same H H' → Rp H' (.ref a) ns → (!ns.isEmpty) = tf (Src ties hs gs p) → Q (.ref a) H'
def sp_is_reached (_ : PySem.W.Frag) : Sp := fun vs H Q _ => ∃ (v u z : V) (many : Int) (ties : List (Int × Int)) (hs gs : List Int), vs = [v, u, z] ∧ Whg H v u z many ties hs gs ∧
  ∀ H', Same H H' → Q (.bl (tf (Comes ties hs gs))) H'
/-- a turn of the height h passes the person -/
def Pass (ties : List (Int × Int)) (hs gs : List Int) (p h : Int) : Prop := ∃ x, Reach ties (opn hs gs h) p x ∧ ht hs x = h
def sp_can_pass (_ : PySem.W.Frag) : Sp := fun vs H Q _ => ∃ (v u z : V) (many : Int) (ties : List (Int × Int)) (hs gs : List Int) (p h : Int), vs = [v, u, z, .int p, .int h] ∧ Whg H v u z many ties hs gs ∧ p ∈ opn hs gs h ∧
  ∀ H', Same H H' → Q (.bl (tf (Pass ties hs gs p h))) H'
theorem sc_joins : FnScope ["web", "some", "source", "lot", "person", "one"] ["web", "some", "source"] (defScope s_joins) := ⟨rfl, rfl, rfl, by decide +kernel, rfl, by decide +kernel, by decide +kernel⟩
theorem sc_piece_of : FnScope ["web", "heights", "goal", "person", "some"] ["web", "heights", "goal", "person"] (defScope s_piece_of) := ⟨rfl, rfl, rfl, by decide +kernel, rfl, by decide +kernel, by decide +kernel⟩
theorem sc_sources_of : FnScope ["web", "heights", "goal", "person", "one"] ["web", "heights", "goal", "person"] (defScope s_sources_of) := ⟨rfl, rfl, rfl, by decide +kernel, rfl, by decide +kernel, by decide +kernel⟩
theorem sc_is_reached : FnScope ["web", "heights", "goal", "person"] ["web", "heights", "goal"] (defScope s_is_reached) := ⟨rfl, rfl, rfl, by decide +kernel, rfl, by decide +kernel, by decide +kernel⟩
theorem sc_can_pass : FnScope ["web", "heights", "goal", "person", "height", "some", "one"] ["web", "heights", "goal", "person", "height"] (defScope s_can_pass) := ⟨rfl, rfl, rfl, by decide +kernel, rfl, by decide +kernel, by decide +kernel⟩
/-- the written scope of the outer comprehension -/
def cs_joins_71 : Scope := match defBody s_joins with
  | [_, .Return (some (.Call _ [.ListComp _ _ sc _] _ _)) _] => sc
  | _ => default
theorem mem_opn_lt {hs gs : List Int} {h x : Int} (m : x ∈ opn hs gs h) : 0 ≤ x ∧ x < hs.length := (mem_opn.mp m).1
theorem reach_opn {ties : List (Int × Int)} {hs gs : List Int} {h p x : Int} (m : p ∈ opn hs gs h) (r : Reach ties (opn hs gs h) p x) : 0 ≤ x ∧ x < hs.length := by
  rcases r.mem with e | e
  · rw [e]
    exact mem_opn_lt m
  · exact mem_opn_lt e
section
variable {P : Program} {w : World} {K : PySem.W.Frag} {mg : Str → Option Value} {base : Heap}
theorem ca_joins (c_hanging : Ca P w K mg base 2 "hanging" (sp_hanging K)) (T : Tx mg) (D : Df K mg "joins" s_joins ["web", "some", "source"]) : Ca P w K mg base 3 "joins" (sp_joins K) := by
  refine D.ca sc_joins (fun vs H Q E h => ?_) (fun f cdv A outer s H vs Q E hr h => ?_)
  · obtain ⟨v, u, b, many, ties, lot, src, rfl, _⟩ := h
    rfl
  · obtain ⟨v, u, b, many, ties, lot, src, rfl, rw, hz, ru, hb, hlen, q⟩ := h
    obtain ⟨a, rfl, ha⟩ := rp_ints ru
    refine ⟨_, (pss_cons (ps_set (i := 3) sc_joins.nd rfl (Or.inr rfl) (pe_lst (pa_star (pv 1) (pa_star (pv 2) pa_nil))))
      (pss_one (ps_ret (pe_callB (cr_all rfl) (by rfl) T.all bo_all (pa_cons (pe_lc (own := [("person", 4)]) (g := (gName 4)) (tt := tYes) (te := (tCB (rAny K) (tCons (tLc (iTup K (tCall (sp_hanging K) [] E0 (tCons (tVar 0) (tCons (tVar 4) (tCons (tVar 3) tNil))))) (gName 5) tYes (tOp (rIn K false) (tVar 5) (tVar 2)) [5]) tNil))) rfl sc_joins.nd (pi_tup (pv 1)) (blkOk_by (N := ["web", "some", "source", "lot", "person", "one"]) (sc := (defScope s_joins)) (by decide +kernel)) (fun _ _ _ _ _ => (pg_name (i := 4) sc_joins.nd rfl (Or.inl rfl))) (fun _ _ _ _ _ => pts_nil) (fun _ _ _ _ _ => (pe_callB (cr_any rfl) (by rfl) T.any bo_any (pa_cons (pe_lc (own := [("one", 5)]) (g := (gName 5)) (tt := tYes) (te := (tOp (rIn K false) (tVar 5) (tVar 2))) rfl sc_joins.nd (pi_tup (pe_ca c_hanging hr (by decide) (by rfl) (pa_cons (pv 0) (pa_cons (pv 4) (pa_cons (pv 3) pa_nil))))) (blkOk_by (N := ["web", "some", "source", "lot", "person", "one"]) (sc := (relS (cs_joins_71) (defScope s_joins))) (by decide +kernel)) (fun _ _ _ _ _ => (pg_name (i := 5) sc_joins.nd rfl (Or.inl rfl))) (fun _ _ _ _ _ => pts_nil) (fun _ _ _ _ _ => (pe_cmpR op_in_seq (pv 5) (pv 2) (by rfl)))) pa_nil)))) pa_nil))))), ?_⟩
    refine ⟨_, rfl, a, _, rfl, .inl (SqT.of ha), _, rfl, b, _, rfl, .inr (SqL.of hb), ?_⟩
    have el : lot.map V.int ++ (src.map V.int ++ []) = (lot ++ src).map V.int := by rw [List.append_nil, List.map_append]
    refine ⟨Nat.le_of_lt (small1000 (by rw [el, List.length_map, List.length_append]; omega)), fun L hL => ?_⟩
    have sL := same_upd (o := .lst (lot.map V.int ++ (src.map V.int ++ []))) hL
    refine ⟨_, rfl, a, rfl, ⟨_, SqT.of (sL _ _ ha)⟩, fun D1 hD1 => ?_⟩
    refine lcT (α := Int) (β := Bool) (as := lot) (fun _ => true) (fun p => tf (∃ x ∈ src, Reach ties (lot ++ src) p x)) (SqT.of (sL _ _ ha)) hD1 (small1000 (by omega)) (paired_of_ints _) (fun v1 x H1 kF kT hm rx s1 hF hT => ⟨rfl, ?_⟩) fun H1 s1 l => ?_
    · refine tyes (iteT ?_)
      obtain rfl : v1 = .int x := rx
      have s1' := sL.trans s1
      refine ⟨_, rfl, _, rfl, _, rfl, v, x, L, many, ties, lot ++ src, rfl, Rp.mono s1' rw, hz, s1 _ _ (by rw [upd_same, el]), by rw [List.length_append]; omega, fun u2 H2 ns s2 ru2 hns hnl => ?_⟩
      obtain ⟨t, rfl, ht⟩ := rp_ints ru2
      refine ⟨t, rfl, ⟨_, SqT.of ht⟩, fun D2 hD2 => ?_⟩
      have hb2 := s2 _ _ (s1' _ _ hb)
      rw [List.length_append] at hnl
      refine lcT (α := Int) (β := Bool) (as := ns) (fun _ => true) (fun y => decide (y ∈ src)) (SqT.of ht) hD2 (small1000 (by omega)) (paired_of_ints _) (fun v2 y H3 kF kT2 hm ry s3 hF hT2 => ⟨rfl, ?_⟩) fun H3 s3 l2 => ?_
      · refine tyes (iteT ?_)
        obtain rfl : v2 = .int y := ry
        exact ⟨_, rfl, _, rfl, in_ints (sq_lst (s3 _ _ hb2)) (hT2 rfl _ _ (Same.refl _) rfl)⟩
      · rw [filter_tt] at l2
        refine ⟨D2, _, rfl, SqL.of (ls_bls l2), hT rfl _ _ (s2.trans s3) (congrArg V.bl (tf_eq ?_))⟩
        rw [List.any_map, List.any_eq_true]
        constructor
        · rintro ⟨y, hy, e⟩
          exact ⟨y, of_decide_eq_true e, (hns y).mp hy⟩
        · rintro ⟨y, hy, r⟩
          exact ⟨y, (hns y).mpr r, decide_eq_true hy⟩
    · rw [filter_tt] at l
      refine ⟨D1, _, rfl, SqL.of (ls_bls l), ?_⟩
      rw [show ((lot.map fun p => tf (∃ x ∈ src, Reach ties (lot ++ src) p x)).all id) = tf (Joined ties lot src) from tf_eq ?_]
      · exact q _ (sL.trans s1)
      · rw [List.all_map, List.all_eq_true]
        exact ⟨fun h p hp => tf_iff.mp (h p hp), fun h p hp => tf_iff.mpr (h p hp)⟩
theorem ca_piece_of (c_open_at : Ca P w K mg base 1 "open_at" (sp_open_at K)) (c_hanging : Ca P w K mg base 2 "hanging" (sp_hanging K)) (T : Tx mg) (D : Df K mg "piece_of" s_piece_of ["web", "heights", "goal", "person"]) : Ca P w K mg base 3 "piece_of" (sp_piece_of K) := by
  refine D.ca sc_piece_of (fun vs H Q E h => ?_) (fun f cdv A outer s H vs Q E hr h => ?_)
  · obtain ⟨v, u, z, many, ties, hs, gs, p, rfl, _⟩ := h
    rfl
  · obtain ⟨v, u, z, many, ties, hs, gs, p, rfl, ⟨rw, hz, ru, rz, hh, hg, m1, m6⟩, p0, p1, q⟩ := h
    obtain ⟨b, rfl, hb⟩ := rp_ints rz
    refine ⟨_, (pss_cons (ps_set (i := 4) sc_piece_of.nd rfl (Or.inl rfl) (pe_ca c_open_at hr (by decide) (by rfl) (pa_cons (pv 1) (pa_cons (pv 2) (pa_cons (pe_ix ix_tup (pv 2) (pv 3) (fun _ _ => rfl)) pa_nil)))))
      (pss_one (ps_ret (pe_ifExp (pt_cmpR op_in_seq (pv 3) (pv 4) (by rfl)) (pe_ca c_hanging hr (by decide) (by rfl) (pa_cons (pv 0) (pa_cons (pv 3) (pa_cons (pv 4) pa_nil)))) (pe_tup pa_nil))))), ?_⟩
    refine ⟨_, rfl, _, rfl, _, rfl, _, rfl, ix_ints hb p0 (by omega) ?_⟩
    refine ⟨u, .ref b, hs, gs, ht gs p, rfl, ru, rz, by omega, by omega, fun a H1 s1 hna ha => ?_⟩
    have hol := opn_len hs gs (ht gs p)
    refine ⟨_, rfl, _, rfl, in_ints (sq_lst ha) ⟨_, rfl, ite2 (fun e => ?_) (fun e => ?_)⟩⟩
    · have e := of_decide_eq_true e
      refine ⟨_, rfl, _, rfl, _, rfl, v, p, a, many, ties, _, rfl, Rp.mono s1 rw, hz, ha, by omega, fun y H2 ns s2 ry hns hnl => ?_⟩
      exact q y H2 ns (s1.trans s2) ry (fun x => by rw [hns]; exact ⟨fun r => ⟨e, r⟩, fun r => r.2⟩) (by omega)
    · have e : p ∉ opn hs gs (ht gs p) := fun z => e (decide_eq_true z)
      refine ⟨Nat.zero_le _, fun t htn => ?_⟩
      exact q _ _ [] (s1.trans (same_upd htn)) (rp_new htn .nil) (fun x => ⟨fun z => by simp at z, fun z => absurd z.1 e⟩) (Nat.zero_le _)
theorem ca_sources_of (c_piece_of : Ca P w K mg base 3 "piece_of" (sp_piece_of K)) (T : Tx mg) (D : Df K mg "sources_of" s_sources_of ["web", "heights", "goal", "person"]) : Ca P w K mg base 4 "sources_of" (sp_sources_of K) := by
  refine D.ca sc_sources_of (fun vs H Q E h => ?_) (fun f cdv A outer s H vs Q E hr h => ?_)
  · obtain ⟨v, u, z, many, ties, hs, gs, p, rfl, _⟩ := h
    rfl
  · obtain ⟨v, u, z, many, ties, hs, gs, p, rfl, W, p0, p1, q⟩ := h
    have W' := W
    obtain ⟨rw, hz, ru, rz, hh, hg, m1, m6⟩ := W'
    obtain ⟨a, rfl, ha⟩ := rp_ints ru
    obtain ⟨b, rfl, hb⟩ := rp_ints rz
    refine ⟨_, (pss_one (ps_ret (pe_callTy call_tuple_of (by rfl) T.tuple bo_tuple (pa_cons (pe_lc (own := [("one", 4)]) (g := (gName 4)) (tt := (tTest (tOp rEq (tOp (rIxT K) (tVar 1) (tVar 4)) (tOp (rIxT K) (tVar 2) (tVar 3))))) (te := (tVar 4)) rfl sc_sources_of.nd (pi_tup (pe_ca c_piece_of hr (by decide) (by rfl) (pa_cons (pv 0) (pa_cons (pv 1) (pa_cons (pv 2) (pa_cons (pv 3) pa_nil)))))) (blkOk_by (N := ["web", "heights", "goal", "person", "one"]) (sc := (defScope s_sources_of)) (by decide +kernel)) (fun _ _ _ _ _ => (pg_name (i := 4) sc_sources_of.nd rfl (Or.inl rfl))) (fun _ _ _ _ _ => (pts_one (pt_cmpR op_eq (pe_ix ix_tup (pv 1) (pv 4) (fun _ _ => rfl)) (pe_ix ix_tup (pv 2) (pv 3) (fun _ _ => rfl)) (nomark _)))) (fun _ _ _ _ _ => (pv 4))) pa_nil)))), ?_⟩
    refine ⟨_, rfl, _, rfl, _, rfl, _, rfl, v, .ref a, .ref b, many, ties, hs, gs, p, rfl, W, p0, p1, fun y H1 ns s1 ry hns hnl => ?_⟩
    obtain ⟨t, rfl, ht'⟩ := rp_ints ry
    refine ⟨t, rfl, ⟨_, SqT.of ht'⟩, fun D1 hD1 => ?_⟩
    refine lcT (α := Int) (β := Int) (as := ns) (fun x => decide (ht hs x = ht gs p)) (fun x => x) (SqT.of ht') hD1 (small1000 (by omega)) (paired_of_ints _) (fun v1 x H2 kF kT hm rx s2 hF hT => ⟨rfl, ?_⟩) fun H2 s2 l => ?_
    · obtain rfl : v1 = .int x := rx
      obtain ⟨e1, r⟩ := (hns x).mp hm
      obtain ⟨x0, x1⟩ := reach_opn e1 r
      refine ⟨_, rfl, _, rfl, ix_ints (s2 _ _ (s1 _ _ ha)) x0 x1 ⟨_, rfl, _, rfl, ix_ints (s2 _ _ (s1 _ _ hb)) p0 (by omega) ⟨rfl, _, rfl, ?_⟩⟩⟩
      rw [dec_int]
      refine ite2 (fun e => ?_) (fun e => ?_)
      · exact ⟨_, rfl, hT (by simpa using e) _ _ (Same.refl _) rfl⟩
      · exact hF (by simpa using e) _ (Same.refl _)
    · refine ⟨D1, _, rfl, .inl ⟨SqL.of (ls_ints.mp l), fun t2 ht2 => ?_⟩⟩
      refine q _ _ _ ((s1.trans s2).trans (same_upd ht2)) (rp_new ht2 (paired_of_ints _)) (tf_eq ?_)
      rw [List.map_id', Bool.not_eq_true', List.isEmpty_eq_false_iff, ne_nil_iff]
      unfold Src
      constructor
      · rintro ⟨x, hx⟩
        obtain ⟨h1, h2⟩ := List.mem_filter.mp hx
        obtain ⟨k1, k2⟩ := (hns x).mp h1
        exact ⟨k1, x, k2, of_decide_eq_true h2⟩
      · rintro ⟨k1, x, k2, k3⟩
        exact ⟨x, List.mem_filter.mpr ⟨(hns x).mpr ⟨k1, k2⟩, decide_eq_true k3⟩⟩
theorem ca_is_reached (c_everybody : Ca P w K mg base 1 "everybody" (sp_everybody K)) (c_sources_of : Ca P w K mg base 4 "sources_of" (sp_sources_of K)) (T : Tx mg) (D : Df K mg "is_reached" s_is_reached ["web", "heights", "goal"]) : Ca P w K mg base 5 "is_reached" (sp_is_reached K) := by
  refine D.ca sc_is_reached (fun vs H Q E h => ?_) (fun f cdv A outer s H vs Q E hr h => ?_)
  · obtain ⟨v, u, z, many, ties, hs, gs, rfl, _⟩ := h
    rfl
  · obtain ⟨v, u, z, many, ties, hs, gs, rfl, W, q⟩ := h
    have W' := W
    obtain ⟨rw, hz, ru, rz, hh, hg, m1, m6⟩ := W'
    refine ⟨_, (pss_one (ps_ret (pe_callB (cr_all rfl) (by rfl) T.all bo_all (pa_cons (pe_lc (own := [("person", 3)]) (g := (gName 3)) (tt := tYes) (te := (tOp (rNeD K) (tCall (sp_sources_of K) [] E0 (tCons (tVar 0) (tCons (tVar 1) (tCons (tVar 2) (tCons (tVar 3) tNil))))) (tTup tNil))) rfl sc_is_reached.nd (pi_tup (pe_ca c_everybody hr (by decide) (by rfl) (pa_cons (pv 0) pa_nil))) (blkOk_by (N := ["web", "heights", "goal", "person"]) (sc := (defScope s_is_reached)) (by decide +kernel)) (fun _ _ _ _ _ => (pg_name (i := 3) sc_is_reached.nd rfl (Or.inl rfl))) (fun _ _ _ _ _ => pts_nil) (fun _ _ _ _ _ => (pe_cmpR (op_neD hr.units) (pe_ca c_sources_of hr (by decide) (by rfl) (pa_cons (pv 0) (pa_cons (pv 1) (pa_cons (pv 2) (pa_cons (pv 3) pa_nil))))) (pe_tup pa_nil) (nomark _)))) pa_nil)))), ?_⟩
    refine ⟨_, rfl, v, many, ties, rfl, rw, m1, m6, fun y H1 s1 ry => ?_⟩
    obtain ⟨t, rfl, ht'⟩ := rp_ints ry
    refine ⟨t, rfl, ⟨_, SqT.of ht'⟩, fun D1 hD1 => ?_⟩
    refine lcT (α := Int) (β := Bool) (as := upto many.toNat) (fun _ => true) (fun p => tf (Src ties hs gs p)) (SqT.of ht') hD1 (small1000 (by rw [upto_len]; omega)) (paired_of_ints _) (fun v1 x H2 kF kT hm rx s2 hF hT => ⟨rfl, ?_⟩) fun H2 s2 l => ?_
    · refine tyes (iteT ?_)
      obtain rfl : v1 = .int x := rx
      have hx := mem_upto.mp hm
      refine ⟨_, rfl, _, rfl, _, rfl, _, rfl, v, u, z, many, ties, hs, gs, x, rfl, W.mono (s1.trans s2), hx.1, by omega, fun a H3 ns s3 rn hns => ?_⟩
      refine ⟨Nat.zero_le _, fun t2 ht2 => ?_⟩
      have s4 := same_upd (o := .tup []) ht2
      refine ne_nilT (by decide) (Rp.mono s4 rn) (rp_new ht2 .nil) (hT rfl _ _ (s3.trans s4) (congrArg V.bl hns))
    · rw [filter_tt] at l
      refine ⟨D1, _, rfl, SqL.of (ls_bls l), ?_⟩
      rw [show (((upto many.toNat).map fun p => tf (Src ties hs gs p)).all id) = tf (Comes ties hs gs) from tf_eq ?_]
      · exact q _ (s1.trans s2)
      · rw [List.all_map, List.all_eq_true]
        constructor
        · intro h p h0 h1
          exact tf_iff.mp (h p (mem_upto.mpr ⟨h0, by omega⟩))
        · intro h p hp
          have hp := mem_upto.mp hp
          exact tf_iff.mpr (h p hp.1 (by omega))
theorem ca_can_pass (c_open_at : Ca P w K mg base 1 "open_at" (sp_open_at K)) (c_hanging : Ca P w K mg base 2 "hanging" (sp_hanging K)) (T : Tx mg) (D : Df K mg "can_pass" s_can_pass ["web", "heights", "goal", "person", "height"]) : Ca P w K mg base 3 "can_pass" (sp_can_pass K) := by
  refine D.ca sc_can_pass (fun vs H Q E h => ?_) (fun f cdv A outer s H vs Q E hr h => ?_)
  · obtain ⟨v, u, z, many, ties, hs, gs, p, h, rfl, _⟩ := h
    rfl
  · obtain ⟨v, u, z, many, ties, hs, gs, p, h, rfl, ⟨rw, hz, ru, rz, hh, hg, m1, m6⟩, hp, q⟩ := h
    have ru' := ru
    obtain ⟨a, rfl, ha⟩ := rp_ints ru'
    refine ⟨_, (pss_cons (ps_set (i := 5) sc_can_pass.nd rfl (Or.inl rfl) (pe_ca c_open_at hr (by decide) (by rfl) (pa_cons (pv 1) (pa_cons (pv 2) (pa_cons (pv 4) pa_nil)))))
      (pss_one (ps_ret (pe_callB (cr_any rfl) (by rfl) T.any bo_any (pa_cons (pe_lc (own := [("one", 6)]) (g := (gName 6)) (tt := tYes) (te := (tOp rEq (tOp (rIxT K) (tVar 1) (tVar 6)) (tVar 4))) rfl sc_can_pass.nd (pi_tup (pe_ca c_hanging hr (by decide) (by rfl) (pa_cons (pv 0) (pa_cons (pv 3) (pa_cons (pv 5) pa_nil))))) (blkOk_by (N := ["web", "heights", "goal", "person", "height", "some", "one"]) (sc := (defScope s_can_pass)) (by decide +kernel)) (fun _ _ _ _ _ => (pg_name (i := 6) sc_can_pass.nd rfl (Or.inl rfl))) (fun _ _ _ _ _ => pts_nil) (fun _ _ _ _ _ => (pe_cmpR op_eq (pe_ix ix_tup (pv 1) (pv 6) (fun _ _ => rfl)) (pv 4) (nomark _)))) pa_nil))))), ?_⟩
    refine ⟨_, rfl, _, rfl, _, rfl, .ref a, z, hs, gs, h, rfl, ru, rz, by omega, by omega, fun b H1 s1 hnb hb => ?_⟩
    have hol := opn_len hs gs h
    refine ⟨_, rfl, _, rfl, _, rfl, v, p, b, many, ties, _, rfl, Rp.mono s1 rw, hz, hb, by omega, fun y H2 ns s2 ry hns hnl => ?_⟩
    obtain ⟨t, rfl, ht'⟩ := rp_ints ry
    refine ⟨t, rfl, ⟨_, SqT.of ht'⟩, fun D1 hD1 => ?_⟩
    refine lcT (α := Int) (β := Bool) (as := ns) (fun _ => true) (fun x => decide (ht hs x = h)) (SqT.of ht') hD1 (small1000 (by omega)) (paired_of_ints _) (fun v1 x H3 kF kT hm rx s3 hF hT => ⟨rfl, ?_⟩) fun H3 s3 l => ?_
    · refine tyes (iteT ?_)
      obtain rfl : v1 = .int x := rx
      obtain ⟨x0, x1⟩ := reach_opn hp ((hns x).mp hm)
      refine ⟨_, rfl, _, rfl, ix_ints (s3 _ _ (s2 _ _ (s1 _ _ ha))) x0 x1 ⟨_, rfl, rfl, ?_⟩⟩
      rw [dec_int]
      exact hT rfl _ _ (Same.refl _) (congrArg V.bl (by rw [Bool.eq_iff_iff]; simp))
    · rw [filter_tt] at l
      refine ⟨D1, _, rfl, SqL.of (ls_bls l), ?_⟩
      rw [show ((ns.map fun x => decide (ht hs x = h)).any id) = tf (Pass ties hs gs p h) from tf_eq ?_]
      · exact q _ ((s1.trans s2).trans s3)
      · rw [List.any_map, List.any_eq_true]
        constructor
        · rintro ⟨x, hx, e⟩
          exact ⟨x, (hns x).mp hx, of_decide_eq_true e⟩
        · rintro ⟨x, hx, e⟩
          exact ⟨x, (hns x).mpr hx, decide_eq_true e⟩
end
end Sto

/-! text: S2c -/
set_option Elab.async false
set_option linter.all false
set_option maxRecDepth 100000
set_option maxHeartbeats 4000000
/-! lots_of: its lambda's table is tracked -/
namespace Sto
open PySem PySem.Spec PyProof.Rows L2 StX LamX
/-- a def of the text, its code's address known -/
structure DfC (K : PySem.W.Frag) (mg : Str → Option Value) (x : Str) (st : Stmt) (ps : List Str) : Prop where
  ex : ∃ (fd : FuncData), FunD K x x (defArgs st) (defBody st) (defScope st) [] [] (He.fAd K (x, none)) fd ∧ mg x = some (.ref (He.fAd K (x, none))) ∧ Binds K fd ps []
section
variable {P : Program} {w : World} {K : PySem.W.Frag} {mg : Str → Option Value} {base : Heap}
theorem DfC.ca {x : Str} {st : Stmt} {N ps : List Str} {k : Nat} {sp : Sp} (D : DfC K mg x st ps) (S : FnScope N ps (defScope st)) (len : ∀ vs H Q E, sp vs H Q E → vs.length = ps.length)
    (hbody : ∀ (f : Addr) (A : Around) (outer : List Env) (s : Shared) (H : Hp) (vs : List V) (Q : VK) (E : XK), Room k (A.deeper (envOfC x (defScope st) s.heap.objs.size f (.ref (He.codeOf K (x, none))))) → sp vs H Q E →
      ∃ t, PSs (cxOf CX0 P w K mg base N x (defScope st) f (.ref (He.codeOf K (x, none))) A outer s H E).nox (defBody st) t ∧ t { nx := fun _ H' => Q .non H', rt := Q } (L2.start N vs) H) : Ca P w K mg base (k + 1) x sp := by
  obtain ⟨fd, F, hm, hb⟩ := D.ex
  obtain ⟨oc, od, dV, kV, doc, pm, an, cdv, ct, osl, e, lk, hcd, _, _⟩ := F.ex
  subst e
  obtain ⟨c', rfl⟩ := He.codeIn_ref hcd
  have ec := He.codeOf_eq (p := (x, none)) lk rfl
  subst ec
  refine ⟨_, _, ps, fn_of lk hcd S len fun A outer s H vs Q E hr h => ?_, hm, F.kp, hb⟩
  obtain ⟨t, h1, h2⟩ := hbody _ A outer s H vs Q E hr h
  exact ⟨t, h1.nox, h2⟩
end
/-! ### the lambda -/
def lamOf : Arguments × Expr × Scope := match defBody s_lots_of with
  | [_, _, .Return (some (.Call _ _ [⟨_, .Lambda p b s _, _⟩] _)) _] => (p, b, s)
  | _ => default
def lamP : Arguments := lamOf.1
def lamB : Expr := lamOf.2.1
def lamS : Scope := lamOf.2.2
def qL : Str := "lots_of" ++ ".<locals>." ++ "<lambda>"
theorem lam_nofree : ∀ y ∈ lamS.names, y.2 ≠ .free := by decide +kernel
theorem sc_lam : FnScope ["lot"] ["lot"] lamS := ⟨rfl, rfl, rfl, by decide +kernel, rfl, by decide +kernel, by decide +kernel⟩
theorem lam_does {X : Cx} (T : Tx X.mg) (f c' : Addr) : LamDoes X 0 f c' qL lamP lamB lamS ["lot"] ["lot"] := by
  refine ⟨sc_lam, rfl, fun pm ctv u => rfl, fun A outer s H t ns Q hr ht q => ?_⟩
  refine ⟨_, (pe_tup (pa_cons (pe_callB call_len_seq (by rfl) T.len bo_len (pa_cons (pv 0) pa_nil)) (pa_cons (pv 0) pa_nil))), ?_⟩
  refine ⟨_, rfl, t, _, rfl, .inr (SqT.of ht), _, rfl, le2, fun p hp => ?_⟩
  rw [List.length_map]
  exact q p hp
/-! ### what a list of refs stands for -/
def kxOf (H : Hp) (v : V) : List Int := match v with
  | .ref t => (match H t with
    | some (.tup vs) => vs.map fun
      | .int i => i
      | _ => 0
    | _ => [])
  | _ => []
theorem kxOf_eq {H : Hp} {v : V} {l : List Int} (h : Rp H v l) : kxOf H v = l := by
  obtain ⟨t, rfl, ht⟩ := rp_ints h
  unfold kxOf
  simp only [ht, List.map_map]
  exact List.map_id'' (fun _ => rfl) l
theorem kx_map {H : Hp} : ∀ {vs : List V} {ls : List (List Int)}, Paired (Rep.R H) vs ls → vs.map (kxOf H) = ls
  | _, _, .nil => rfl
  | _, _, .cons h t => by rw [List.map_cons, kx_map t, kxOf_eq h]
theorem kx_mem {H : Hp} : ∀ {vs : List V} {ls : List (List Int)}, Paired (Rep.R H) vs ls → ∀ v ∈ vs, Rp H v (kxOf H v)
  | _, _, .nil, v, h => by simp at h
  | _, _, .cons h t, v, hm => by
    rcases List.mem_cons.mp hm with e | e
    · rw [e, kxOf_eq h]
      exact h
    · exact kx_mem t v e
theorem kx_paired {H : Hp} : ∀ {vs : List V}, (∀ v ∈ vs, Rp H v (kxOf H v)) → Paired (Rep.R H) vs (vs.map (kxOf H))
  | [], _ => .nil
  | v :: vs, h => .cons (h v List.mem_cons_self) (kx_paired fun u hu => h u (List.mem_cons_of_mem _ hu))
/-! ### extension but for tables -/
theorem tsm_ext {H H' : Hp} (h : ExtN H H') : TSm H H' := fun b xs e => h b _ e fun ps => by simp
theorem extN_lst {H H' : Hp} {b : Addr} {xs : List V} (h : ExtN H H') (e : H b = some (.lst xs)) : H' b = some (.lst xs) := h b _ e fun ps => by simp
theorem Rp.ext {α : Type} [Rep α] {H H' : Hp} {v : V} {x : α} (h : ExtN H H') (r : Rp H v x) : Rp H' v x := Rep.mono (tsm_ext h) r
def ltL : List Int → List Int → Bool := fun x y => lexN (lenKey x) (lenKey y)
theorem ltL_swo : SrtO.Swo ltL := lexN_swo lenKey
def sp_lots_of (_ : PySem.W.Frag) (Pt : Addr) : Sp := fun vs H Q _ => ∃ (a : Addr) (fr : List Int), vs = [.ref a] ∧ H a = some (.lst (fr.map V.int)) ∧ fr.length ≤ 6 ∧ TabS H Pt qL ∧
  ∀ p H' (ls : List (List Int)), ExtN H H' → TabS H' Pt qL → Ls H' p ls → SrtO.Srtd ltL ls → SrtO.Stb ltL ls (subs fr) → Q (.ref p) H'
theorem subs_snoc (xs : List Int) (p : Int) : subs (xs ++ [p]) = subs xs ++ (subs xs).map (· ++ [p]) := by
  unfold subs
  rw [List.foldl_append]
  rfl
theorem sc_lots_of : FnScope ["some", "found", "person", "lot"] ["some"] (defScope s_lots_of) := ⟨rfl, rfl, rfl, by decide +kernel, rfl, by decide +kernel, by decide +kernel⟩
section
variable {P : Program} {w : World} {K : PySem.W.Frag} {mg : Str → Option Value} {base : Heap}
theorem ca_lots_of {Pt : Addr} (TB : TabB base mg (He.codeOf K ("lots_of", none)) Pt) (T : Tx mg) (D : DfC K mg "lots_of" s_lots_of ["some"]) : Ca P w K mg base 4 "lots_of" (sp_lots_of K Pt) := by
  refine D.ca sc_lots_of (fun vs H Q E h => ?_) (fun f A outer s H vs Q E hr h => ?_)
  · obtain ⟨a, fr, rfl, _⟩ := h
    rfl
  · obtain ⟨a, fr, rfl, ha, hz, tS, q⟩ := h
    refine ⟨_, (pss_cons (ps_set (i := 1) sc_lots_of.nd rfl (Or.inl rfl) (pe_lst (pa_cons (pe_tup pa_nil) pa_nil)))
      (pss_cons (ps_for PassesOwn.never rfl (pi_list (pv 0)) (pg_name (i := 2) sc_lots_of.nd rfl (Or.inr rfl))
        (pss_one (ps_set (i := 1) sc_lots_of.nd rfl (Or.inl rfl) (pe_op op_cat (pv 1) (pe_lc (own := [("lot", 3)]) (g := (gName 3)) (tt := tYes) (te := (tTup (tStar K (tVar 3) (tCons (tVar 2) tNil)))) rfl sc_lots_of.nd (pi_list (pv 1)) (blkOk_by (N := ["some", "found", "person", "lot"]) (sc := (defScope s_lots_of)) (by decide +kernel)) (fun _ _ _ _ _ => (pg_name (i := 3) sc_lots_of.nd rfl (Or.inl rfl))) (fun _ _ _ _ _ => pts_nil) (fun _ _ _ _ _ => (pe_tup (pa_star (pv 3) (pa_cons (pv 2) pa_nil)))))))))
      (pss_one (ps_ret (pe_callBK (cr_sortLam (lam_does T) hr) (by rfl) T.sorted bo_sorted (pa_cons (pv 1) pa_nil) (pk_cons (pe_lam TB rfl rfl rfl rfl (fun y hy e => absurd e (lam_nofree y hy))) pk_nil)))))), ?_⟩
    refine ⟨Nat.zero_le _, fun e0 he0 => ?_⟩
    refine ⟨le1, fun L0 hL0 => ?_⟩
    have s0 := (same_upd (o := .tup []) he0).trans (same_upd (o := .lst [.ref e0]) hL0)
    have r0 : Rp (upd H e0 (.tup [])) (.ref e0) ([] : List Int) := rp_new he0 .nil
    refine ⟨_, rfl, a, rfl, ⟨_, SqL.of (s0 _ _ ha)⟩, ?_⟩
    refine for_list (K := K) (a := a) (xs := fr.map V.int) (fun i σ H' => Same H H' ∧ ∃ (L : Addr) (y2 y3 : Option V), σ = [some (.ref a), some (.ref L), y2, y3] ∧ Ls H' L (subs (fr.take i)))
      ⟨s0, L0, none, none, rfl, ls_new hL0 (.cons r0 .nil)⟩ (fun i σ H' _ h => SqL.of (h.1 _ _ ha)) ?_ ?_
    · rintro i x σ H1 hx ⟨s1, L, y2, y3, rfl, hL⟩
      rw [List.getElem?_map] at hx
      obtain ⟨p, hp, rfl⟩ := Option.map_eq_some_iff.mp hx
      have et : fr.take (i + 1) = fr.take i ++ [p] := by rw [List.take_add_one, hp]; rfl
      have hln : (subs (fr.take i)).length ≤ 64 := by
        rw [subs_len]
        have h1 : (fr.take i).length ≤ 6 := by rw [List.length_take]; omega
        exact Nat.le_trans (Nat.pow_le_pow_right (by decide) h1) (by decide)
      obtain ⟨vs, hvs, pr⟩ := hL
      refine ⟨_, rfl, _, rfl, L, rfl, ⟨_, SqL.of hvs⟩, fun D1 hD1 => ?_⟩
      refine lcL (α := List Int) (β := List Int) (as := subs (fr.take i)) (fun _ => true) (fun l => l ++ [p]) (SqL.of hvs) hD1 (small1000 (by omega)) pr (fun v l H2 kF kT hm rx s2 hF hT => ⟨rfl, tyes (iteT ?_)⟩) fun H2 s2 l => ?_
      · have hl6 : l.length ≤ 6 := by
          have := (subs_in hm).1
          rw [List.length_take] at this
          omega
        obtain ⟨t, rfl, ht'⟩ := rp_ints rx
        have el : l.map V.int ++ [V.int p] = (l ++ [p]).map V.int := by rw [List.map_append]; rfl
        refine ⟨_, rfl, t, _, rfl, .inl (SqT.of ht'), _, rfl, Nat.le_of_lt (small1000 (by rw [el, List.length_map, List.length_append, List.length_singleton]; omega)), fun t2 ht2 => hT rfl _ _ (same_upd ht2) ?_⟩
        rw [el]
        exact rp_new ht2 (paired_of_ints _)
      · rw [filter_tt] at l
        obtain ⟨ws, hws, pr2⟩ := l
        have hl2 := Paired.length pr2
        have hl1 := Paired.length pr
        rw [List.length_map] at hl2
        refine ⟨L, D1, _, _, rfl, rfl, s2 _ _ hvs, hws, Nat.le_of_lt (small1000 (by omega)), fun L2 hL2 => ?_⟩
        refine ⟨(s1.trans s2).trans (same_upd hL2), L2, _, _, rfl, ?_⟩
        rw [et, subs_snoc]
        exact ls_new hL2 (paired_app (paired_mono (tsm_of s2) pr) pr2)
    · rintro σ H1 ⟨s1, L, y2, y3, rfl, hL⟩
      rw [List.length_map, List.take_length] at hL
      obtain ⟨vs, hvs, pr⟩ := hL
      refine ⟨_, rfl, tS.ext s1, fun fl c' H2 x2 t2 hn hf hc => ?_⟩
      have pr2 : Paired (Rep.R H2) vs (subs fr) := paired_mono (tsm_ext x2) pr
      refine ⟨L, vs, kxOf H2, fl, c', rfl, rfl, hf, hc, SqL.of (extN_lst x2 hvs), fun x hx => ?_, fun H3 ys p s3 h1 h2 hp hys => ?_⟩
      · obtain ⟨t, e, ht'⟩ := rp_ints (kx_mem pr2 x hx)
        exact ⟨t, e, ht'⟩
      · have e1 : vs.map (kxOf H2) = subs fr := kx_map pr2
        refine q p H3 (ys.map (kxOf H2)) ((ExtN.of s1).trans (x2.trans (ExtN.of s3))) (t2.ext s3) ⟨ys, hys, ?_⟩ (SrtO.srtd_map (lt := ltL) h1) ?_
        · exact paired_mono (tsm_of s3) (kx_paired fun v hv => kx_mem pr2 v (h2.perm.mem_iff.mp hv))
        · rw [← e1]
          exact SrtO.Stb.map (lt := ltL) ltL_swo (kxOf H2) h2
end
end Sto

/-! text: S2d -/
set_option Elab.async false
set_option linter.all false
set_option maxRecDepth 100000
set_option maxHeartbeats 4000000
/-! join_of, joined_at, fewest_by_height, passing -/
namespace Sto
open PySem PySem.Spec PyProof.Rows L2 StX LamX
/-! ### what a join is -/
def srcs (hs gs : List Int) (h : Int) : List Int := (opn hs gs h).filter fun i => decide (ht hs i = h)
def dues (hs gs : List Int) (h : Int) : List Int := (opn hs gs h).filter fun i => decide (ht gs i = h) && !decide (ht hs i = h)
def frees (hs gs : List Int) (h : Int) : List Int := (opn hs gs h).filter fun i => !decide (ht hs i = h)
noncomputable def goodLot (ties : List (Int × Int)) (hs gs : List Int) (h : Int) (lot : List Int) : Bool := (dues hs gs h).all (fun x => decide (x ∈ lot)) && tf (Joined ties lot (srcs hs gs h))
def JoinRes (ties : List (Int × Int)) (hs gs : List Int) (h : Int) (r : Option (List Int)) : Prop :=
  (dues hs gs h = [] ∧ r = some []) ∨ (dues hs gs h ≠ [] ∧ ∃ L, SrtO.Srtd ltL L ∧ SrtO.Stb ltL L (subs (frees hs gs h)) ∧ r = L.find? (goodLot ties hs gs h))
theorem joinRes_uniq {ties : List (Int × Int)} {hs gs : List Int} {h : Int} {r r' : Option (List Int)} (a : JoinRes ties hs gs h r) (b : JoinRes ties hs gs h r') : r = r' := by
  rcases a with ⟨a1, a2⟩ | ⟨a1, L, a2, a3, a4⟩
  · rcases b with ⟨b1, b2⟩ | ⟨b1, _⟩
    · rw [a2, b2]
    · exact absurd a1 b1
  · rcases b with ⟨b1, _⟩ | ⟨b1, M, b2, b3, b4⟩
    · exact absurd b1 a1
    · have e : L = M := SrtO.stb_uniq ltL_swo a2 b2 ⟨a3.perm.trans b3.perm.symm, fun x => (a3.cls x).trans (b3.cls x).symm⟩
      rw [a4, b4, e]
theorem mem_srcs {hs gs : List Int} {h x : Int} : x ∈ srcs hs gs h ↔ x ∈ opn hs gs h ∧ ht hs x = h := by
  unfold srcs
  rw [List.mem_filter, decide_eq_true_eq]
theorem mem_dues {hs gs : List Int} {h x : Int} : x ∈ dues hs gs h ↔ x ∈ opn hs gs h ∧ ht gs x = h ∧ ht hs x ≠ h := by
  unfold dues
  rw [List.mem_filter]
  simp
theorem mem_frees {hs gs : List Int} {h x : Int} : x ∈ frees hs gs h ↔ x ∈ opn hs gs h ∧ ht hs x ≠ h := by
  unfold frees
  rw [List.mem_filter]
  simp
/-- where all goals are reached, a join is found -/
theorem joinRes_some {ties : List (Int × Int)} {hs gs : List Int} {h : Int} {r : Option (List Int)} (C : Comes ties hs gs) (a : JoinRes ties hs gs h r) : ∃ l, r = some l := by
  rcases a with ⟨a1, a2⟩ | ⟨a1, L, a2, a3, a4⟩
  · exact ⟨_, a2⟩
  · let lot := (frees hs gs h).filter fun p => tf (∃ x ∈ srcs hs gs h, Reach ties (opn hs gs h) p x)
    have hm : lot ∈ L := a3.perm.mem_iff.mpr (subs_filter _ _)
    have mem_lot : ∀ p, p ∈ lot ↔ p ∈ frees hs gs h ∧ ∃ x ∈ srcs hs gs h, Reach ties (opn hs gs h) p x := fun p => by
      show p ∈ (frees hs gs h).filter _ ↔ _
      rw [List.mem_filter, tf_iff]
    have g : goodLot ties hs gs h lot = true := by
      unfold goodLot
      rw [Bool.and_eq_true, List.all_eq_true, tf_iff]
      constructor
      · intro d hd
        obtain ⟨d1, d2, d3⟩ := mem_dues.mp hd
        refine decide_eq_true ((mem_lot d).mpr ⟨mem_frees.mpr ⟨d1, d3⟩, ?_⟩)
        obtain ⟨k1, x, k2, k3⟩ := C d (mem_opn_lt d1).1 (mem_opn_lt d1).2
        rw [d2] at k1 k2 k3
        refine ⟨x, mem_srcs.mpr ⟨?_, k3⟩, k2⟩
        rcases k2.mem with e | e
        · rw [e]
          exact k1
        · exact e
      · intro p hp
        obtain ⟨p1, x, hx, rx⟩ := (mem_lot p).mp hp
        have po := (mem_frees.mp p1).1
        refine ⟨x, hx, ?_⟩
        have key : ∀ y, Reach ties (opn hs gs h) p y → Reach ties (lot ++ srcs hs gs h) p y := by
          intro y r
          induction r with
          | refl => exact .refl
          | @step y z r1 ad hz ih =>
            refine ih.step ad ?_
            rw [List.mem_append]
            by_cases e : ht hs z = h
            · exact .inr (mem_srcs.mpr ⟨hz, e⟩)
            · refine .inl ((mem_lot z).mpr ⟨mem_frees.mpr ⟨hz, e⟩, x, hx, ?_⟩)
              exact ((r1.step ad hz).symm po).trans rx
        exact key x rx
    rw [a4]
    cases q : L.find? (goodLot ties hs gs h) with
    | some l => exact ⟨l, rfl⟩
    | none => exact absurd g (by simpa using List.find?_eq_none.mp q lot hm)
/-- an object for what is found -/
def ResO (H : Hp) (y : V) : Option (List Int) → Prop
  | none => y = .non
  | some l => Rp H y l
/-! ### the promises -/
theorem Whg.ext {H H' : Hp} {v u z : V} {many : Int} {ties : List (Int × Int)} {hs gs : List Int} (s : ExtN H H') (h : Whg H v u z many ties hs gs) : Whg H' v u z many ties hs gs :=
  ⟨Rp.ext s h.1, h.2.1, Rp.ext s h.2.2.1, Rp.ext s h.2.2.2.1, h.2.2.2.2⟩
structure Full (H : Hp) (v u z : V) (many : Int) (ties : List (Int × Int)) (hs gs : List Int) : Prop where
  w : Whg H v u z many ties hs gs
  wo : WebOk many ties
  ho : HtsOk many hs
  go : HtsOk many gs
theorem Full.mono {H H' : Hp} {v u z : V} {many : Int} {ties : List (Int × Int)} {hs gs : List Int} (s : Same H H') (h : Full H v u z many ties hs gs) : Full H' v u z many ties hs gs := ⟨h.w.mono s, h.wo, h.ho, h.go⟩
theorem Full.ext {H H' : Hp} {v u z : V} {many : Int} {ties : List (Int × Int)} {hs gs : List Int} (s : ExtN H H') (h : Full H v u z many ties hs gs) : Full H' v u z many ties hs gs := ⟨h.w.ext s, h.wo, h.ho, h.go⟩
def sp_join_of (_ : PySem.W.Frag) (Pt : Addr) : Sp := fun vs H Q _ => ∃ (v u z : V) (many : Int) (ties : List (Int × Int)) (hs gs : List Int) (h : Int), vs = [v, u, z, .int h] ∧ Whg H v u z many ties hs gs ∧ TabS H Pt qL ∧
  ∀ y H' (r : Option (List Int)), ExtN H H' → TabS H' Pt qL → ResO H' y r → JoinRes ties hs gs h r → Q y H'
def sp_joined_at (_ : PySem.W.Frag) (Pt : Addr) : Sp := fun vs H Q _ => ∃ (v u z : V) (many : Int) (ties : List (Int × Int)) (hs gs : List Int) (h : Int), vs = [v, u, z, .int h] ∧ Full H v u z many ties hs gs ∧ TabS H Pt qL ∧ -1000 ≤ h ∧ h ≤ 1000 ∧
  ∀ y H', ExtN H H' → TabS H' Pt qL → (Comes ties hs gs → ∃ r, ResO H' y r ∧ JoinRes ties hs gs h r) → (¬ Comes ties hs gs → y = .non) → Q y H'
/-- the values, each once, rising -/
def dset (hs : List Int) : List Int := ((List.range 2001).map fun (i : Nat) => (i : Int) - 1000).filter fun x => decide (x ∈ hs)
theorem dset_asc (hs : List Int) : (dset hs).Pairwise (· < ·) := by
  unfold dset
  refine List.Pairwise.filter _ (List.pairwise_map.mpr (List.Pairwise.imp (fun {a b} (h : a < b) => ?_) List.pairwise_lt_range))
  show (a : Int) - 1000 < (b : Int) - 1000
  omega
theorem mem_dset {hs : List Int} (hb : ∀ h ∈ hs, -1000 ≤ h ∧ h ≤ 1000) {x : Int} : x ∈ dset hs ↔ x ∈ hs := by
  unfold dset
  rw [List.mem_filter, decide_eq_true_eq, List.mem_map]
  constructor
  · exact fun h => h.2
  · intro h
    have := hb x h
    exact ⟨⟨(x + 1000).toNat, List.mem_range.mpr (by omega), by omega⟩, h⟩
theorem dset_eq {hs ns : List Int} (hb : ∀ h ∈ hs, -1000 ≤ h ∧ h ≤ 1000) (ha : ns.Pairwise (· < ·)) (hm : ∀ k, k ∈ ns ↔ k ∈ hs) : ns = dset hs :=
  asc_unique ha (dset_asc hs) fun x => by rw [hm, mem_dset hb]
theorem dset_len {hs : List Int} (hb : ∀ h ∈ hs, -1000 ≤ h ∧ h ≤ 1000) : (dset hs).length ≤ hs.length :=
  nodup_len ((dset_asc hs).imp fun {a b} h => by show a ≠ b; have h : a < b := h; omega) fun x hx => (mem_dset hb).mp hx
/-- sorted(set(t)) -/
theorem srtset_go {K : PySem.W.Frag} {w : World} {σ : L2.St} {H : Hp} {Q : VK} {a : Addr} {hs : List Int} {i : Nat} (hi : σ[i]? = some (some (.ref a))) (ha : H a = some (.tup (hs.map V.int))) (hl : hs.length ≤ 60) (hb : ∀ h ∈ hs, -1000 ≤ h ∧ h ≤ 1000)
    (q : ∀ p H', Same H H' → H p = none → H' p = some (.lst ((dset hs).map V.int)) → Q (.ref p) H') : (tCB (rSortedSet w) (tCons (tCB (rSetT K w) (tCons (tVar i) tNil)) tNil)) σ H Q := by
  refine ⟨_, hi, a, hs, rfl, SqT.of ha, by omega, fun b c hc hb' => ?_⟩
  refine ⟨b, _, c, rfl, upd_same, by omega, fun ns p h1 h2 h3 hp => ?_⟩
  have e : ns = dset hs := dset_eq hb h1 fun k => by rw [h2, decide_eq_true_eq]
  subst e
  exact q p _ ((same_upd hb').trans (same_upd hp)) ((same_upd hb').free hp) upd_same
def PassN (ties : List (Int × Int)) (hs gs : List Int) (p : Int) : List Int := (dset hs).filter fun o => decide (ht gs p < o) && decide (o < ht hs p)
noncomputable def passCnt (ties : List (Int × Int)) (hs gs : List Int) (p : Int) : Int := (((PassN ties hs gs p).filter fun o => tf (Pass ties hs gs p o)).length : Nat)
def sp_passing (_ : PySem.W.Frag) : Sp := fun vs H Q _ => ∃ (v u z : V) (many : Int) (ties : List (Int × Int)) (hs gs : List Int), vs = [v, u, z] ∧ Full H v u z many ties hs gs ∧
  ∀ y H', Same H H' → (Comes ties hs gs → Rp H' y ((upto hs.length).map (passCnt ties hs gs))) → (¬ Comes ties hs gs → y = .non) → Q y H'
def FewRes (H : Hp) (ties : List (Int × Int)) (hs gs : List Int) (ps : List Addr) (rs : List (Int × Int)) : Prop := Paired (fun p r => H p = some (.tup [.int r.1, .int r.2])) ps rs ∧ ∀ r ∈ rs, ∃ l, JoinRes ties hs gs r.1 (some l) ∧ r.2 = (l.length : Nat)
def sp_fewest_by_height (_ : PySem.W.Frag) (Pt : Addr) : Sp := fun vs H Q _ => ∃ (v u z : V) (many : Int) (ties : List (Int × Int)) (hs gs : List Int), vs = [v, u, z] ∧ Full H v u z many ties hs gs ∧ TabS H Pt qL ∧ Comes ties hs gs ∧
  ∀ a H' (ps : List Addr) (rs : List (Int × Int)), ExtN H H' → TabS H' Pt qL → H' a = some (TupX a (ps.map V.ref)) → FewRes H' ties hs gs ps rs → rs.map (·.1) = dset gs → Q (.ref a) H'
theorem tabS_upd {H : Hp} {P D : Addr} {q : Str} {xs ys : List V} (t : TabS H P q) (h : H D = some (.lst xs)) : TabS (upd H D (.lst ys)) P q := by
  obtain ⟨ps, h1, h2, h3⟩ := t
  refine ⟨ps, ?_, h2, fun pos cv hc => ?_⟩
  · rw [upd_ne (fun e => by rw [e, h] at h1; cases h1)]
    exact h1
  · obtain ⟨c, e1, e2⟩ := h3 pos cv hc
    refine ⟨c, e1, ?_⟩
    rw [upd_ne (fun e => by rw [e, h] at e2; cases e2)]
    exact e2
theorem extN_lstU {H0 H : Hp} {D : Addr} {ys : List V} (n : H0 D = none) (h : ExtN H0 H) : ExtN H0 (upd H D (.lst ys)) := fun b x e ne => by
  rw [upd_ne (ne_of_none e n)]
  exact h _ _ e ne
theorem find_last {α : Type} {p : α → Bool} {L : List α} {i : Nat} {x : α} (h1 : (L.take i).find? p = none) (h2 : L[i]? = some x) (h3 : p x = true) : L.find? p = some x := by
  have e : L = L.take (i + 1) ++ L.drop (i + 1) := (List.take_append_drop _ _).symm
  rw [e, List.find?_append, List.take_add_one, h2, List.find?_append, h1]
  simp [h3]
theorem find_skip {α : Type} {p : α → Bool} {L : List α} {i : Nat} {x : α} (h1 : (L.take i).find? p = none) (h2 : L[i]? = some x) (h3 : p x = false) : (L.take (i + 1)).find? p = none := by
  rw [List.take_add_one, h2, List.find?_append, h1]
  simp [h3]
theorem sc_join_of : FnScope ["web", "heights", "goal", "height", "some", "source", "due", "free", "lot", "one"] ["web", "heights", "goal", "height"] (defScope s_join_of) := ⟨rfl, rfl, rfl, by decide +kernel, rfl, by decide +kernel, by decide +kernel⟩
theorem sc_joined_at : FnScope ["web", "heights", "goal", "height"] ["web", "heights", "goal", "height"] (defScope s_joined_at) := ⟨rfl, rfl, rfl, by decide +kernel, rfl, by decide +kernel, by decide +kernel⟩
theorem sc_fewest_by_height : FnScope ["web", "heights", "goal", "height"] ["web", "heights", "goal"] (defScope s_fewest_by_height) := ⟨rfl, rfl, rfl, by decide +kernel, rfl, by decide +kernel, by decide +kernel⟩
theorem sc_passing : FnScope ["web", "heights", "goal", "found", "person", "some", "one"] ["web", "heights", "goal"] (defScope s_passing) := ⟨rfl, rfl, rfl, by decide +kernel, rfl, by decide +kernel, by decide +kernel⟩
section
variable {P : Program} {w : World} {K : PySem.W.Frag} {mg : Str → Option Value} {base : Heap}
set_option maxHeartbeats 8000000 in
theorem ca_join_of {Pt : Addr} (c_open_at : Ca P w K mg base 1 "open_at" (sp_open_at K)) (c_lots_of : Ca P w K mg base 4 "lots_of" (sp_lots_of K Pt)) (c_joins : Ca P w K mg base 3 "joins" (sp_joins K)) (T : Tx mg)
    (D : Df K mg "join_of" s_join_of ["web", "heights", "goal", "height"]) : Ca P w K mg base 5 "join_of" (sp_join_of K Pt) := by
  refine D.ca sc_join_of (fun vs H Q E h => ?_) (fun f cdv A outer s H vs Q E hr h => ?_)
  · obtain ⟨v, u, z, many, ties, hs, gs, h, rfl, _⟩ := h
    rfl
  · obtain ⟨v, u, z, many, ties, hs, gs, h, rfl, W, tS, q⟩ := h
    have W' := W
    obtain ⟨rw, hz, ru, rz, hh, hg, m1, m6⟩ := W'
    obtain ⟨a, rfl, ha⟩ := rp_ints ru
    obtain ⟨b, rfl, hb⟩ := rp_ints rz
    have hol := opn_len hs gs h
    have lt6 : ∀ (p : Int → Bool), ((opn hs gs h).filter p).length ≤ 6 := fun p => by
      have := List.length_filter_le p (opn hs gs h)
      omega
    refine ⟨_, (pss_cons (ps_set (i := 4) sc_join_of.nd rfl (Or.inl rfl) (pe_ca c_open_at hr (by decide) (by rfl) (pa_cons (pv 1) (pa_cons (pv 2) (pa_cons (pv 3) pa_nil)))))
      (pss_cons (ps_setLc (i := 5) (own := [("one", 9)]) (g := (gName 9)) (tt := (tTest (tOp rEq (tOp (rIxT K) (tVar 1) (tVar 9)) (tVar 3)))) (te := (tVar 9)) rfl sc_join_of.nd rfl rfl (sw_true rfl rfl rfl (by decide +kernel)) (pi_list (pv 4)) (blkOk_by (N := ["web", "heights", "goal", "height", "some", "source", "due", "free", "lot", "one"]) (sc := (defScope s_join_of)) (by decide +kernel)) (fun _ _ _ _ _ => (pg_name (i := 9) sc_join_of.nd rfl (Or.inl rfl))) (fun _ _ _ _ _ => (pts_one (pt_cmpR op_eq (pe_ix ix_tup (pv 1) (pv 9) (fun _ _ => rfl)) (pv 3) (nomark _)))) (fun _ _ _ _ _ => (pv 9)))
      (pss_cons (ps_setLc (i := 6) (own := [("one", 9)]) (g := (gName 9)) (tt := (tAnd (tTest (tOp rEq (tOp (rIxT K) (tVar 2) (tVar 9)) (tVar 3))) (tTest (tOp rNe (tOp (rIxT K) (tVar 1) (tVar 9)) (tVar 3))))) (te := (tVar 9)) rfl sc_join_of.nd rfl rfl (sw_true rfl rfl rfl (by decide +kernel)) (pi_list (pv 4)) (blkOk_by (N := ["web", "heights", "goal", "height", "some", "source", "due", "free", "lot", "one"]) (sc := (defScope s_join_of)) (by decide +kernel)) (fun _ _ _ _ _ => (pg_name (i := 9) sc_join_of.nd rfl (Or.inl rfl))) (fun _ _ _ _ _ => (pts_one (PW.pt (pw_and (pt_cmpR op_eq (pe_ix ix_tup (pv 2) (pv 9) (fun _ _ => rfl)) (pv 3) (nomark _)) (pw_and1 (pt_cmpR op_ne (pe_ix ix_tup (pv 1) (pv 9) (fun _ _ => rfl)) (pv 3) (nomark _))))))) (fun _ _ _ _ _ => (pv 9)))
      (pss_cons (ps_if (pt_cmpR (op_eqD hr.units) (pv 6) (pe_lst pa_nil) (nomark _))
        (pss_one (ps_ret (pe_tup pa_nil)))
        pss_nil)
      (pss_cons (ps_setLc (i := 7) (own := [("one", 9)]) (g := (gName 9)) (tt := (tTest (tOp rNe (tOp (rIxT K) (tVar 1) (tVar 9)) (tVar 3)))) (te := (tVar 9)) rfl sc_join_of.nd rfl rfl (sw_true rfl rfl rfl (by decide +kernel)) (pi_list (pv 4)) (blkOk_by (N := ["web", "heights", "goal", "height", "some", "source", "due", "free", "lot", "one"]) (sc := (defScope s_join_of)) (by decide +kernel)) (fun _ _ _ _ _ => (pg_name (i := 9) sc_join_of.nd rfl (Or.inl rfl))) (fun _ _ _ _ _ => (pts_one (pt_cmpR op_ne (pe_ix ix_tup (pv 1) (pv 9) (fun _ _ => rfl)) (pv 3) (nomark _)))) (fun _ _ _ _ _ => (pv 9)))
      (pss_cons (ps_for PassesOwn.never rfl (pi_list (pe_ca c_lots_of hr (by decide) (by rfl) (pa_cons (pv 7) pa_nil))) (pg_name (i := 8) sc_join_of.nd rfl (Or.inr rfl))
        (pss_one (ps_if (PW.pt (pw_and (pt_val (pe_callB (cr_all rfl) (by rfl) T.all bo_all (pa_cons (pe_lc (own := [("one", 9)]) (g := (gName 9)) (tt := tYes) (te := (tOp (rIn K false) (tVar 9) (tVar 8))) rfl sc_join_of.nd (pi_list (pv 6)) (blkOk_by (N := ["web", "heights", "goal", "height", "some", "source", "due", "free", "lot", "one"]) (sc := (defScope s_join_of)) (by decide +kernel)) (fun _ _ _ _ _ => (pg_name (i := 9) sc_join_of.nd rfl (Or.inl rfl))) (fun _ _ _ _ _ => pts_nil) (fun _ _ _ _ _ => (pe_cmpR op_in_seq (pv 9) (pv 8) (by rfl)))) pa_nil))) (pw_and1 (pt_val (pe_ca c_joins hr (by decide) (by rfl) (pa_cons (pv 0) (pa_cons (pv 8) (pa_cons (pv 5) pa_nil))))))))
          (pss_one (ps_ret (pv 8)))
          pss_nil)))
      (pss_one (ps_ret pe_non)))))))), ?_⟩
    refine ⟨_, rfl, _, rfl, _, rfl, .ref a, .ref b, hs, gs, h, rfl, ru, rz, by omega, by omega, fun so H1 s1 hnso hso => ?_⟩
    -- source
    refine ⟨_, rfl, so, rfl, ⟨_, SqL.of hso⟩, fun D1 hD1 => ?_⟩
    refine lcL (α := Int) (β := Int) (as := opn hs gs h) (fun i => decide (ht hs i = h)) (fun x => x) (SqL.of hso) hD1 (small1000 (by omega)) (paired_of_ints _) (fun v1 x H2 kF kT hm rx s2 hF hT => ⟨rfl, ?_⟩) fun H2 s2 l2 => ?_
    · obtain rfl : v1 = .int x := rx
      obtain ⟨x0, x1⟩ := mem_opn_lt hm
      refine ⟨_, rfl, _, rfl, ix_ints (s2 _ _ (s1 _ _ ha)) x0 x1 ⟨_, rfl, rfl, _, rfl, ?_⟩⟩
      rw [dec_int]
      exact ite2 (fun e => ⟨_, rfl, hT (by simpa using e) _ _ (Same.refl _) rfl⟩) fun e => hF (by simpa using e) _ (Same.refl _)
    rw [List.map_id'] at l2
    have l2 := ls_ints.mp l2
    have hso2 := s2 _ _ hso
    have s12 := s1.trans s2
    -- due
    refine ⟨_, rfl, so, rfl, ⟨_, SqL.of hso2⟩, fun D2 hD2 => ?_⟩
    refine lcL (α := Int) (β := Int) (as := opn hs gs h) (fun i => decide (ht gs i = h) && !decide (ht hs i = h)) (fun x => x) (SqL.of hso2) hD2 (small1000 (by omega)) (paired_of_ints _) (fun v1 x H3 kF kT hm rx s3 hF hT => ⟨rfl, ?_⟩) fun H3 s3 l3 => ?_
    · obtain rfl : v1 = .int x := rx
      obtain ⟨x0, x1⟩ := mem_opn_lt hm
      refine ⟨_, rfl, _, rfl, ix_ints (s3 _ _ (s12 _ _ hb)) x0 (by omega) ⟨_, rfl, rfl, _, rfl, ?_⟩⟩
      rw [dec_int]
      refine ite2 (fun e => ?_) fun e => iteF (hF (by rw [show decide (ht gs x = h) = false from by simpa using e]; rfl) _ (Same.refl _))
      refine ⟨_, rfl, _, rfl, ix_ints (s3 _ _ (s12 _ _ ha)) x0 x1 ⟨_, rfl, rfl, _, rfl, ?_⟩⟩
      rw [dec_int]
      have e' : decide (ht gs x = h) = true := by simpa using e
      exact ite2 (fun e2 => ⟨_, rfl, hT (by rw [e']; simpa using e2) _ _ (Same.refl _) rfl⟩) fun e2 => hF (by rw [e']; simpa using e2) _ (Same.refl _)
    rw [List.map_id'] at l3
    have s13 := s12.trans s3
    -- no due
    refine ⟨_, rfl, Nat.zero_le _, fun t ht' => ?_⟩
    have s4 := same_upd (o := .lst []) ht'
    refine eq_nilL (α := Int) (xs := dues hs gs h) (by decide) (l3.mono s4) upd_same ⟨_, rfl, ite2 (fun e => ?_) (fun e => ?_)⟩
    · have e : dues hs gs h = [] := List.isEmpty_iff.mp e
      refine ⟨Nat.zero_le _, fun t2 ht2 => ?_⟩
      have s5 := (s13.trans s4).trans (same_upd (o := .tup []) ht2)
      exact q _ _ (some []) (ExtN.of s5) (tS.ext s5) (rp_new ht2 .nil) (.inl ⟨e, rfl⟩)
    have hdn : dues hs gs h ≠ [] := fun z => e (by rw [z]; rfl)
    have s14 := s13.trans s4
    have hso4 := s4 _ _ (s3 _ _ hso2)
    -- free
    refine ⟨_, rfl, so, rfl, ⟨_, SqL.of hso4⟩, fun D3 hD3 => ?_⟩
    refine lcL (α := Int) (β := Int) (as := opn hs gs h) (fun i => !decide (ht hs i = h)) (fun x => x) (SqL.of hso4) hD3 (small1000 (by omega)) (paired_of_ints _) (fun v1 x H5 kF kT hm rx s5 hF hT => ⟨rfl, ?_⟩) fun H5 s5 l5 => ?_
    · obtain rfl : v1 = .int x := rx
      obtain ⟨x0, x1⟩ := mem_opn_lt hm
      refine ⟨_, rfl, _, rfl, ix_ints (s5 _ _ (s14 _ _ ha)) x0 x1 ⟨_, rfl, rfl, _, rfl, ?_⟩⟩
      rw [dec_int]
      exact ite2 (fun e => ⟨_, rfl, hT (by simpa using e) _ _ (Same.refl _) rfl⟩) fun e => hF (by simpa using e) _ (Same.refl _)
    rw [List.map_id'] at l5
    have l5 := ls_ints.mp l5
    have s15 := s14.trans s5
    have l3 := ls_ints.mp l3
    -- the lots
    refine ⟨_, rfl, D3, frees hs gs h, rfl, l5, lt6 _, tS.ext s15, fun LL H6 ls x6 tS6 hls srt stb => ?_⟩
    obtain ⟨vs, hvs, pr⟩ := hls
    have x06 : ExtN H H6 := (ExtN.of s15).trans x6
    have k1 : H6 D1 = some (.lst ((srcs hs gs h).map V.int)) := extN_lst x6 (s5 _ _ (s4 _ _ (s3 _ _ l2)))
    have k2 : H6 D2 = some (.lst ((dues hs gs h).map V.int)) := extN_lst x6 (s5 _ _ (s4 _ _ l3))
    refine ⟨LL, rfl, ⟨_, SqL.of hvs⟩, ?_⟩
    refine for_list (K := K) (a := LL) (xs := vs) (fun i σ H' => Same H6 H' ∧ (∃ y8 : Option V, σ = [some v, some (.ref a), some (.ref b), some (.int h), some (.ref so), some (.ref D1), some (.ref D2), some (.ref D3), y8, none]) ∧ (ls.take i).find? (goodLot ties hs gs h) = none)
      ⟨Same.refl _, ⟨none, rfl⟩, by simp⟩ (fun i σ H' _ h => SqL.of (h.1 _ _ hvs)) ?_ ?_
    · rintro i x σ H7 hx ⟨s7, ⟨y8, rfl⟩, hno⟩
      obtain ⟨l, hl, rx⟩ := paired_at pr hx
      have rx : Rp H7 x l := Rp.mono s7 rx
      obtain ⟨t, rfl, ht7⟩ := rp_ints rx
      have hl6 : l.length ≤ 6 := by
        have h1 := (subs_in (stb.perm.mem_iff.mp (List.mem_of_getElem? hl))).1
        have h2 : (frees hs gs h).length ≤ 6 := lt6 _
        omega
      refine ⟨_, rfl, D2, rfl, ⟨_, SqL.of (s7 _ _ k2)⟩, fun D4 hD4 => ?_⟩
      refine lcL (α := Int) (β := Bool) (as := dues hs gs h) (fun _ => true) (fun y => decide (y ∈ l)) (SqL.of (s7 _ _ k2)) hD4 (small1000 (Nat.le_trans (lt6 _) (by decide))) (paired_of_ints _) (fun v1 y H8 kF kT hm ry s8 hF hT => ⟨rfl, tyes (iteT ?_)⟩) fun H8 s8 l8 => ?_
      · obtain rfl : v1 = .int y := ry
        exact ⟨_, rfl, _, rfl, in_ints (sq_tup (s8 _ _ ht7)) (hT rfl _ _ (Same.refl _) rfl)⟩
      rw [filter_tt] at l8
      have s68 := s7.trans s8
      have hall : ((dues hs gs h).map fun y => decide (y ∈ l)).all id = (dues hs gs h).all fun y => decide (y ∈ l) := by rw [List.all_map]; rfl
      have hgood : goodLot ties hs gs h l = ((dues hs gs h).all (fun y => decide (y ∈ l)) && tf (Joined ties l (srcs hs gs h))) := rfl
      refine ⟨D4, _, rfl, SqL.of (ls_bls l8), _, rfl, ?_⟩
      rw [hall]
      refine ite2 (fun e1 => ?_) (fun e1 => ?_)
      · refine ⟨_, rfl, _, rfl, _, rfl, v, .ref t, D1, many, ties, l, srcs hs gs h, rfl, Rp.ext (x06.trans (ExtN.of s68)) rw, hz, Rp.mono s8 rx, s68 _ _ k1, ?_, fun H9 s9 => ⟨_, rfl, ?_⟩⟩
        · have h2 : (srcs hs gs h).length ≤ 6 := lt6 _
          omega
        have s69 := s68.trans s9
        refine ite2 (fun e2 => ?_) (fun e2 => ?_)
        · exact ⟨_, rfl, q _ H9 (some l) (x06.trans (ExtN.of s69)) (tS6.ext s69) (Rp.mono (s8.trans s9) rx) (.inr ⟨hdn, ls, srt, stb, (find_last hno hl (by rw [hgood, e1, e2]; rfl)).symm⟩)⟩
        · exact ⟨s69, ⟨_, rfl⟩, find_skip hno hl (by rw [hgood, show tf (Joined ties l (srcs hs gs h)) = false from by simpa using e2, Bool.and_false])⟩
      · exact iteF ⟨s68, ⟨_, rfl⟩, find_skip hno hl (by rw [hgood, show ((dues hs gs h).all fun y => decide (y ∈ l)) = false from Bool.not_eq_true _ ▸ e1, Bool.false_and])⟩
    · rintro σ H7 ⟨s7, ⟨y8, rfl⟩, hno⟩
      have hlen : vs.length = ls.length := Paired.length pr
      rw [hlen, List.take_length] at hno
      exact q .non H7 none (x06.trans (ExtN.of s7)) (tS6.ext s7) rfl (.inr ⟨hdn, ls, srt, stb, hno.symm⟩)
theorem ca_joined_at {Pt : Addr} (c_need_both : Ca P w K mg base 5 "need_both" (sp_need_both K)) (c_is_height : Ca P w K mg base 3 "is_height" (sp_is_height K)) (c_is_reached : Ca P w K mg base 5 "is_reached" (sp_is_reached K)) (c_join_of : Ca P w K mg base 5 "join_of" (sp_join_of K Pt)) (T : Tx mg)
    (D : Df K mg "joined_at" s_joined_at ["web", "heights", "goal", "height"]) : Ca P w K mg base 6 "joined_at" (sp_joined_at K Pt) := by
  refine D.ca sc_joined_at (fun vs H Q E h => ?_) (fun f cdv A outer s H vs Q E hr h => ?_)
  · obtain ⟨v, u, z, many, ties, hs, gs, h, rfl, _⟩ := h
    rfl
  · obtain ⟨v, u, z, many, ties, hs, gs, h, rfl, F, tS, h0, h1, q⟩ := h
    have W := F.w
    refine ⟨_, (pss_cons (ps_expr (pe_ca c_need_both hr (by decide) (by rfl) (pa_cons (pv 0) (pa_cons (pv 1) (pa_cons (pv 2) pa_nil)))))
      (pss_cons (ps_if (pt_not (pt_val (pe_ca c_is_height hr (by decide) (by rfl) (pa_cons (pv 3) pa_nil))))
        (pss_one ps_never)
        pss_nil)
      (pss_one (ps_ret (pe_ifExp (pt_val (pe_ca c_is_reached hr (by decide) (by rfl) (pa_cons (pv 0) (pa_cons (pv 1) (pa_cons (pv 2) pa_nil))))) (pe_ca c_join_of hr (by decide) (by rfl) (pa_cons (pv 0) (pa_cons (pv 1) (pa_cons (pv 2) (pa_cons (pv 3) pa_nil))))) pe_non))))), ?_⟩
    refine ⟨_, rfl, _, rfl, _, rfl, v, u, z, many, ties, hs, gs, rfl, W.1, F.wo, W.2.2.1, F.ho, W.2.2.2.1, F.go, fun H1 s1 => ?_⟩
    refine ⟨_, rfl, h, rfl, _, rfl, ?_⟩
    rw [decide_eq_true h0, decide_eq_true h1]
    refine iteF ?_
    refine ⟨_, rfl, _, rfl, _, rfl, v, u, z, many, ties, hs, gs, rfl, W.mono s1, fun H2 s2 => ⟨_, rfl, ite2 (fun e => ?_) (fun e => ?_)⟩⟩
    · have C : Comes ties hs gs := tf_iff.mp e
      refine ⟨_, rfl, _, rfl, _, rfl, _, rfl, v, u, z, many, ties, hs, gs, h, rfl, W.mono (s1.trans s2), tS.ext (s1.trans s2), fun y H3 r x3 t3 r1 r2 => ?_⟩
      exact q y H3 ((ExtN.of (s1.trans s2)).trans x3) t3 (fun _ => ⟨r, r1, r2⟩) fun nC => absurd C nC
    · have C : ¬ Comes ties hs gs := fun z => e (tf_iff.mpr z)
      exact q _ H2 (ExtN.of (s1.trans s2)) (tS.ext (s1.trans s2)) (fun z => absurd z C) fun _ => rfl
theorem ca_fewest_by_height {Pt : Addr} (c_need_both : Ca P w K mg base 5 "need_both" (sp_need_both K)) (c_is_reached : Ca P w K mg base 5 "is_reached" (sp_is_reached K)) (c_join_of : Ca P w K mg base 5 "join_of" (sp_join_of K Pt)) (T : Tx mg)
    (D : Df K mg "fewest_by_height" s_fewest_by_height ["web", "heights", "goal"]) : Ca P w K mg base 6 "fewest_by_height" (sp_fewest_by_height K Pt) := by
  refine D.ca sc_fewest_by_height (fun vs H Q E h => ?_) (fun f cdv A outer s H vs Q E hr h => ?_)
  · obtain ⟨v, u, z, many, ties, hs, gs, rfl, _⟩ := h
    rfl
  · obtain ⟨v, u, z, many, ties, hs, gs, rfl, F, tS, C, q⟩ := h
    have W := F.w
    have rz := W.2.2.2.1
    obtain ⟨b, rfl, hb⟩ := rp_ints rz
    have hgl : gs.length ≤ 6 := by
      have h1 := F.go.1
      have h2 := W.2.2.2.2.2.2.2
      omega
    refine ⟨_, (pss_cons (ps_expr (pe_ca c_need_both hr (by decide) (by rfl) (pa_cons (pv 0) (pa_cons (pv 1) (pa_cons (pv 2) pa_nil)))))
      (pss_cons (ps_if (pt_not (pt_val (pe_ca c_is_reached hr (by decide) (by rfl) (pa_cons (pv 0) (pa_cons (pv 1) (pa_cons (pv 2) pa_nil))))))
        (pss_one (ps_ret pe_non))
        pss_nil)
      (pss_one (ps_ret (pe_callTy call_tupleX (by rfl) T.tuple bo_tuple (pa_cons (pe_lc (own := [("height", 3)]) (g := (gName 3)) (tt := tYes) (te := (tTup (tCons (tVar 3) (tCons (tCB (fun xs H Q => ∃ p ys, xs = [.ref p] ∧ (SqL K H p ys ∨ SqT K H p ys) ∧ Q (.int ys.length) H) (tCons (tCall (sp_join_of K Pt) [] E0 (tCons (tVar 0) (tCons (tVar 1) (tCons (tVar 2) (tCons (tVar 3) tNil))))) tNil)) tNil)))) rfl sc_fewest_by_height.nd (pi_list (pe_callB (cr_sortedSet rfl) (by rfl) T.sorted bo_sorted (pa_cons (pe_callTy (cr_setT rfl) (by rfl) T.set bo_set (pa_cons (pv 2) pa_nil)) pa_nil))) (blkOk_by (N := ["web", "heights", "goal", "height"]) (sc := (defScope s_fewest_by_height)) (by decide +kernel)) (fun _ _ _ _ _ => (pg_name (i := 3) sc_fewest_by_height.nd rfl (Or.inl rfl))) (fun _ _ _ _ _ => pts_nil) (fun _ _ _ _ _ => (pe_tup (pa_cons (pv 3) (pa_cons (pe_callB call_len_seq (by rfl) T.len bo_len (pa_cons (pe_ca c_join_of hr (by decide) (by rfl) (pa_cons (pv 0) (pa_cons (pv 1) (pa_cons (pv 2) (pa_cons (pv 3) pa_nil))))) pa_nil)) pa_nil))))) pa_nil)))))), ?_⟩
    refine ⟨_, rfl, _, rfl, _, rfl, v, u, .ref b, many, ties, hs, gs, rfl, W.1, F.wo, W.2.2.1, F.ho, W.2.2.2.1, F.go, fun H1 s1 => ?_⟩
    refine ⟨_, rfl, _, rfl, _, rfl, v, u, .ref b, many, ties, hs, gs, rfl, W.mono s1, fun H2 s2 => ⟨_, rfl, ?_⟩⟩
    rw [tf_iff.mpr C]
    refine iteF ?_
    have s12 := s1.trans s2
    refine srtset_go (hs := gs) rfl (s12 _ _ hb) (by omega) F.go.2 fun ds H3 s3 _ hds => ?_
    have s13 := s12.trans s3
    have hdl := dset_len F.go.2
    refine ⟨ds, rfl, ⟨_, SqL.of hds⟩, fun D1 hD1 => ?_⟩
    refine lc_list (K := K) (a := ds) (xs := (dset gs).map V.int) (fun i H' => ExtN H3 H' ∧ TabS H' Pt qL ∧ ∃ (ps : List Addr) (rs : List (Int × Int)), H' D1 = some (.lst (ps.map V.ref)) ∧ FewRes H' ties hs gs ps rs ∧ rs.map (·.1) = (dset gs).take i)
      ⟨ExtN.of (same_upd hD1), ((tS.ext s13).ext (same_upd hD1)), [], [], upd_same, ⟨.nil, fun r hr => by simp at hr⟩, by simp⟩ (fun i H' _ h => SqL.of (extN_lst h.1 hds)) ?_ ?_
    · rintro i x H4 hx ⟨x4, t4, ps, rs, hps, ⟨pr, hrs⟩, efst⟩
      rw [List.getElem?_map] at hx
      obtain ⟨h, hh, rfl⟩ := Option.map_eq_some_iff.mp hx
      refine ⟨rfl, tyes (iteT ?_)⟩
      refine ⟨_, rfl, _, rfl, _, rfl, _, rfl, _, rfl, v, u, .ref b, many, ties, hs, gs, h, rfl, W.ext ((ExtN.of s13).trans x4), t4, fun y H5 r x5 t5 ro jr => ?_⟩
      obtain ⟨l, rfl⟩ := joinRes_some C jr
      obtain ⟨t, rfl, ht5⟩ := rp_ints (show Rp H5 y l from ro)
      refine ⟨t, _, rfl, .inr (SqT.of ht5), le2, fun p hp => ?_⟩
      rw [List.length_map]
      have hil : i < (dset gs).length := (List.getElem?_eq_some_iff.mp hh).1
      have hpl : ps.length = rs.length := Paired.length pr
      have hrl : rs.length = i := by
        have := congrArg List.length efst
        rw [List.length_map, List.length_take] at this
        omega
      have sp5 := same_upd (o := .tup [.int h, .int (l.length : Nat)]) hp
      have h5 := extN_lst x5 hps
      have h6 := sp5 _ _ h5
      have hD3 : H3 D1 = none := hD1
      refine ⟨ps.map V.ref, h6, small1000 (by rw [List.length_map]; omega), extN_lstU hD3 (x4.trans (x5.trans (ExtN.of sp5))), tabS_upd (t5.ext sp5) h6, ps ++ [p], rs ++ [(h, ((l.length : Nat) : Int))], ?_, ⟨?_, ?_⟩, ?_⟩
      · rw [upd_same, List.map_append]
        rfl
      · have keep : ∀ (p' : Addr) (r' : Int × Int), H4 p' = some (.tup [.int r'.1, .int r'.2]) → upd (upd H5 p (.tup [.int h, .int (l.length : Nat)])) D1 (.lst (ps.map V.ref ++ [.ref p])) p' = some (.tup [.int r'.1, .int r'.2]) := fun p' r' e => tsm_upd h6 _ _ (sp5 _ _ (tsm_ext x5 _ _ e))
        refine paired_app (Paired.mapP pr fun p' r' e => keep p' r' e) (.cons ?_ .nil)
        exact tsm_upd h6 _ _ upd_same
      · intro r hr
        rcases List.mem_append.mp hr with e | e
        · exact hrs r e
        · rw [List.mem_singleton.mp e]
          exact ⟨l, jr, rfl⟩
      · rw [List.map_append, efst, List.take_add_one, hh]
        rfl
    · rintro H4 ⟨x4, t4, ps, rs, hps, fr, efst⟩
      rw [List.length_map, List.take_length] at efst
      refine ⟨D1, _, rfl, SqL.of hps, fun p hp => ?_⟩
      have keep : Same H4 (upd H4 p (TupX p (ps.map V.ref))) := same_upd hp
      exact q p _ ps rs ((ExtN.of s13).trans (x4.trans (ExtN.of keep))) (t4.ext keep) upd_same ⟨Paired.mapP fr.1 fun p' r' e => keep _ _ e, fr.2⟩ efst
theorem ca_passing (c_need_both : Ca P w K mg base 5 "need_both" (sp_need_both K)) (c_is_reached : Ca P w K mg base 5 "is_reached" (sp_is_reached K)) (c_everybody : Ca P w K mg base 1 "everybody" (sp_everybody K)) (c_can_pass : Ca P w K mg base 3 "can_pass" (sp_can_pass K)) (T : Tx mg)
    (D : Df K mg "passing" s_passing ["web", "heights", "goal"]) : Ca P w K mg base 6 "passing" (sp_passing K) := by
  refine D.ca sc_passing (fun vs H Q E h => ?_) (fun f cdv A outer s H vs Q E hr h => ?_)
  · obtain ⟨v, u, z, many, ties, hs, gs, rfl, _⟩ := h
    rfl
  · obtain ⟨v, u, z, many, ties, hs, gs, rfl, F, q⟩ := h
    have W := F.w
    obtain ⟨a, rfl, ha⟩ := rp_ints W.2.2.1
    obtain ⟨b, rfl, hb⟩ := rp_ints W.2.2.2.1
    have W' := W
    obtain ⟨rw, hz, ru, rz, hh, hg, m1, m6⟩ := W'
    have hdl := dset_len F.ho.2
    refine ⟨_, (pss_cons (ps_expr (pe_ca c_need_both hr (by decide) (by rfl) (pa_cons (pv 0) (pa_cons (pv 1) (pa_cons (pv 2) pa_nil)))))
      (pss_cons (ps_if (pt_not (pt_val (pe_ca c_is_reached hr (by decide) (by rfl) (pa_cons (pv 0) (pa_cons (pv 1) (pa_cons (pv 2) pa_nil))))))
        (pss_one (ps_ret pe_non))
        pss_nil)
      (pss_cons (ps_set (i := 3) sc_passing.nd rfl (Or.inl rfl) (pe_lst pa_nil))
      (pss_cons (ps_for PassesOwn.never rfl (pi_tup (pe_ca c_everybody hr (by decide) (by rfl) (pa_cons (pv 0) pa_nil))) (pg_name (i := 4) sc_passing.nd rfl (Or.inr rfl))
        (pss_cons (ps_setLc (i := 5) (own := [("one", 6)]) (g := (gName 6)) (tt := (tTest (tChain (rI0 fun i j => .bl (decide (i < j))) (rI0 fun i j => .bl (decide (i < j))) (tOp (rIxT K) (tVar 2) (tVar 4)) (tVar 6) (tOp (rIxT K) (tVar 1) (tVar 4))))) (te := (tVar 6)) rfl sc_passing.nd rfl rfl (sw_true rfl rfl rfl (by decide +kernel)) (pi_list (pe_callB (cr_sortedSet rfl) (by rfl) T.sorted bo_sorted (pa_cons (pe_callTy (cr_setT rfl) (by rfl) T.set bo_set (pa_cons (pv 1) pa_nil)) pa_nil))) (blkOk_by (N := ["web", "heights", "goal", "found", "person", "some", "one"]) (sc := (defScope s_passing)) (by decide +kernel)) (fun _ _ _ _ _ => (pg_name (i := 6) sc_passing.nd rfl (Or.inl rfl))) (fun _ _ _ _ _ => (pts_one (pt_chain op_lt op_lt (pe_ix ix_tup (pv 2) (pv 4) (fun _ _ => rfl)) (pv 6) (pe_ix ix_tup (pv 1) (pv 4) (fun _ _ => rfl))))) (fun _ _ _ _ _ => (pv 6)))
        (pss_one (ps_expr (pe_bm PySem.F.plainAttrs_list PySem.F.slot_list_append PySem.F.type_list_append mt_append (pv 3) (pa_cons (pe_callB call_len_seq (by rfl) T.len bo_len (pa_cons (pe_lc (own := [("one", 6)]) (g := (gName 6)) (tt := (tB (tCall (sp_can_pass K) [] E0 (tCons (tVar 0) (tCons (tVar 1) (tCons (tVar 2) (tCons (tVar 4) (tCons (tVar 6) tNil)))))))) (te := (tVar 6)) rfl sc_passing.nd (pi_list (pv 5)) (blkOk_by (N := ["web", "heights", "goal", "found", "person", "some", "one"]) (sc := (defScope s_passing)) (by decide +kernel)) (fun _ _ _ _ _ => (pg_name (i := 6) sc_passing.nd rfl (Or.inl rfl))) (fun _ _ _ _ _ => (pts_one (pt_val (pe_ca c_can_pass hr (by decide) (by rfl) (pa_cons (pv 0) (pa_cons (pv 1) (pa_cons (pv 2) (pa_cons (pv 4) (pa_cons (pv 6) pa_nil))))))))) (fun _ _ _ _ _ => (pv 6))) pa_nil)) pa_nil))))))
      (pss_one (ps_ret (pe_callTy call_tuple_of (by rfl) T.tuple bo_tuple (pa_cons (pv 3) pa_nil)))))))), ?_⟩
    refine ⟨_, rfl, _, rfl, _, rfl, v, .ref a, .ref b, many, ties, hs, gs, rfl, W.1, F.wo, W.2.2.1, F.ho, W.2.2.2.1, F.go, fun H1 s1 => ?_⟩
    refine ⟨_, rfl, _, rfl, _, rfl, v, .ref a, .ref b, many, ties, hs, gs, rfl, W.mono s1, fun H2 s2 => ⟨_, rfl, ?_⟩⟩
    have s12 := s1.trans s2
    refine ite2 (fun e => ?_) (fun e => ?_)
    · have C : ¬ Comes ties hs gs := fun z => by rw [tf_iff.mpr z] at e; cases e
      exact q _ H2 s12 (fun z => absurd z C) fun _ => rfl
    have C : Comes ties hs gs := by
      by_cases z : Comes ties hs gs
      · exact z
      · exact absurd (by rw [show tf (Comes ties hs gs) = false from by rw [← Bool.not_eq_true, tf_iff]; exact z]; rfl) e
    refine ⟨Nat.zero_le _, fun L hL => ?_⟩
    have hL0 : H L = none := s12.free hL
    have s13 := s12.trans (same_upd (o := .lst []) hL)
    refine ⟨_, rfl, v, many, ties, rfl, Rp.mono s13 rw, m1, m6, fun ev H4 s4 rev => ?_⟩
    obtain ⟨t, rfl, hev⟩ := rp_ints rev
    refine ⟨t, rfl, ⟨_, SqT.of hev⟩, ?_⟩
    have hlu : (upto many.toNat).length ≤ 6 := by rw [upto_len]; omega
    have s14 := s13.trans s4
    refine for_tup (K := K) (a := t) (xs := (upto many.toNat).map V.int) (fun i σ H' => Same H H' ∧ H' t = some (.tup ((upto many.toNat).map V.int)) ∧ (∃ y4 y5 : Option V, σ = [some v, some (.ref a), some (.ref b), some (.ref L), y4, y5, none]) ∧ H' L = some (.lst ((((upto many.toNat).take i).map (passCnt ties hs gs)).map V.int)))
      ⟨s14, hev, ⟨none, none, rfl⟩, by rw [s4 _ _ upd_same]; simp⟩ (fun i σ H' _ h => SqT.of h.2.1) ?_ ?_
    · rintro i x σ H5 hx ⟨s5, he5, ⟨y4, y5, rfl⟩, hL5⟩
      rw [List.getElem?_map] at hx
      obtain ⟨p, hp, rfl⟩ := Option.map_eq_some_iff.mp hx
      have hpm := mem_upto.mp (List.mem_of_getElem? hp)
      have p0 := hpm.1
      have p1 : p < hs.length := by omega
      refine srtset_go (hs := hs) rfl (s5 _ _ ha) (by omega) F.ho.2 fun ds H6 s6 hds0 hds => ?_
      have s56 := s5.trans s6
      refine ⟨ds, rfl, ⟨_, SqL.of hds⟩, fun D1 hD1 => ?_⟩
      refine lcL (α := Int) (β := Int) (as := dset hs) (fun o => decide (ht gs p < o) && decide (o < ht hs p)) (fun x => x) (SqL.of hds) hD1 (small1000 (by omega)) (paired_of_ints _) (fun v1 o H7 kF kT hm rx s7 hF hT => ⟨rfl, ?_⟩) fun H7 s7 l7 => ?_
      · obtain rfl : v1 = .int o := rx
        refine ⟨_, rfl, _, rfl, ix_ints (s7 _ _ (s56 _ _ hb)) p0 (by omega) ?_⟩
        refine ⟨_, rfl, _, _, rfl, rfl, _, rfl, ite2 (fun e => ?_) (fun e => ?_)⟩
        · refine ⟨_, rfl, _, rfl, ix_ints (s7 _ _ (s56 _ _ ha)) p0 p1 ⟨_, _, rfl, rfl, _, rfl, ite2 (fun e2 => ?_) (fun e2 => ?_)⟩⟩
          · exact ⟨_, rfl, hT (by rw [e, e2]; rfl) _ _ (Same.refl _) rfl⟩
          · exact hF (by rw [Bool.and_eq_false_iff]; exact .inr (by simpa using e2)) _ (Same.refl _)
        · exact ⟨_, rfl, iteF (hF (by rw [Bool.and_eq_false_iff]; exact .inl (by simpa using e)) _ (Same.refl _))⟩
      rw [List.map_id'] at l7
      have l7 : H7 D1 = some (.lst ((PassN ties hs gs p).map V.int)) := ls_ints.mp l7
      have s57 := s56.trans s7
      have hnl : (PassN ties hs gs p).length ≤ 6 := by
        have := List.length_filter_le (fun o => decide (ht gs p < o) && decide (o < ht hs p)) (dset hs)
        unfold PassN
        omega
      have hL7 := s7 _ _ (s6 _ _ hL5)
      refine ⟨_, rfl, .inl ⟨rfl, _, SqL.of hL7⟩, ?_⟩
      refine ⟨_, rfl, D1, rfl, ⟨_, SqL.of l7⟩, fun D2 hD2 => ?_⟩
      refine lcL (α := Int) (β := Int) (as := PassN ties hs gs p) (fun o => tf (Pass ties hs gs p o)) (fun x => x) (SqL.of l7) hD2 (small1000 (by omega)) (paired_of_ints _) (fun v1 o H8 kF kT hm rx s8 hF hT => ⟨rfl, ?_⟩) fun H8 s8 l8 => ?_
      · obtain rfl : v1 = .int o := rx
        have ho := (List.mem_filter.mp hm).2
        rw [Bool.and_eq_true, decide_eq_true_eq, decide_eq_true_eq] at ho
        refine ⟨_, rfl, _, rfl, _, rfl, _, rfl, _, rfl, v, .ref a, .ref b, many, ties, hs, gs, p, o, rfl, W.mono (s57.trans s8), mem_opn.mpr ⟨⟨p0, p1⟩, by omega, by omega⟩, fun H9 s9 => ⟨_, rfl, ite2 (fun e => ?_) (fun e => ?_)⟩⟩
        · exact ⟨_, rfl, hT e _ _ s9 rfl⟩
        · exact hF (by simpa using e) _ s9
      rw [List.map_id'] at l8
      have l8 := ls_ints.mp l8
      have s58 := s57.trans s8
      have hL8 := s8 _ _ hL7
      refine ⟨D2, _, rfl, .inl (SqL.of l8), L, _, _, rfl, rfl, hL8, small1000 (by rw [List.length_map, List.length_map, List.length_take]; omega), ?_⟩
      refine ⟨same_lst hL0 s58, ?_, ⟨_, _, rfl⟩, ?_⟩
      · exact tsm_upd hL8 _ _ (s8 _ _ (s7 _ _ (s6 _ _ he5)))
      · rw [upd_same, List.take_add_one, hp, List.length_map, List.map_append, List.map_append]
        rfl
    · rintro σ H5 ⟨s5, he5, ⟨y4, y5, rfl⟩, hL5⟩
      rw [List.length_map, List.take_length] at hL5
      refine ⟨_, rfl, L, _, rfl, .inl ⟨SqL.of hL5, fun p hp => ?_⟩⟩
      refine q _ _ (s5.trans (same_upd hp)) (fun _ => ?_) fun nC => absurd C nC
      rw [show hs.length = many.toNat from by omega]
      exact rp_new hp (paired_of_ints _)
end
end Sto

/-! text: S3a -/
set_option Elab.async false
set_option linter.all false
set_option maxRecDepth 100000
set_option maxHeartbeats 4000000
/-! the script's row: _law_taken, _law_pick, _law_heights, _law_web -/
namespace Sto
open PySem PySem.Spec PyProof.Rows L2 StX
/-- the row at r: the script, the place, the seed, the rest -/
def Row (K : PySem.W.Frag) (H : Hp) (r : Addr) (S : Addr × List Int) : Prop := ∃ (pos seed rest : Int), H r = some (.lst [.ref S.1, .int pos, .int seed, .int rest]) ∧ SqL K H S.1 (S.2.map V.int) ∧ 0 ≤ pos
/-- all but the row stays -/
def Sr (r : Addr) (H H' : Hp) : Prop := ∀ b o, b ≠ r → H b = some o → H' b = some o
theorem Sr.refl (r : Addr) (H : Hp) : Sr r H H := fun _ _ _ h => h
theorem Sr.trans {r : Addr} {H H1 H2 : Hp} (a : Sr r H H1) (b : Sr r H1 H2) : Sr r H H2 := fun c o n h => b c o n (a c o n h)
theorem Sr.of {r : Addr} {H H' : Hp} (s : Same H H') : Sr r H H' := fun b o _ h => s b o h
theorem ints_ne {ns : List Int} {sc : Addr} {a b c : V} : [V.ref sc, a, b, c] ≠ ns.map V.int := by
  cases ns with
  | nil => simp
  | cons n r => simp
theorem sql_upd {K : PySem.W.Frag} {H : Hp} {r a : Addr} {xs ys zs : List V} (h : SqL K H a xs) (hr : H r = some (.lst ys)) (ne : ys ≠ xs) : SqL K (upd H r (.lst zs)) a xs := by
  rcases h with (h | ⟨o, h⟩) | h
  · refine .inl (.inl ?_)
    rw [upd_ne (fun e => by rw [e, hr] at h; exact ne (by injection h with h; injection h))]
    exact h
  · refine .inl (.inr ⟨o, ?_⟩)
    rw [upd_ne (fun e => by rw [e, hr] at h; cases h)]
    exact h
  · exact .inr h
theorem Row.same {K : PySem.W.Frag} {H H' : Hp} {r : Addr} {S : Addr × List Int} (h : Row K H r S) (s : Same H H') : Row K H' r S := by
  obtain ⟨pos, seed, rest, h1, h2, h3⟩ := h
  exact ⟨pos, seed, rest, s _ _ h1, s.seq h2, h3⟩
theorem tsm_sr {K : PySem.W.Frag} {H H' : Hp} {r : Addr} {S : Addr × List Int} (h : Row K H r S) (s : Sr r H H') : TSm H H' := fun b xs e => s b _ (fun z => by
  obtain ⟨pos, seed, rest, h1, _⟩ := h
  rw [z, h1] at e
  cases e) e
theorem Row.ne {K : PySem.W.Frag} {H : Hp} {r D : Addr} {S : Addr × List Int} (h : Row K H r S) (hD : H D = none) : D ≠ r := fun z => by
  obtain ⟨pos, seed, rest, h1, _⟩ := h
  rw [z, h1] at hD
  cases hD
theorem sr_free {r : Addr} {H H' : Hp} (s : Sr r H H') {D : Addr} (ne : D ≠ r) (h : H' D = none) : H D = none := by
  cases e : H D with
  | none => rfl
  | some o => rw [s D o ne e] at h; cases h
theorem sr_upd {r : Addr} {H0 H : Hp} {D : Addr} {o : HO} (n : H0 D = none) (h : Sr r H0 H) : Sr r H0 (upd H D o) := fun b x nb e => by
  rw [upd_ne (ne_of_none e n)]
  exact h _ _ nb e
theorem sql_other {K : PySem.W.Frag} {H : Hp} {D a : Addr} {o : HO} {xs : List V} (h : SqL K H a xs) (hD : H a ≠ none → D ≠ a) : SqL K (upd H D o) a xs := by
  rcases h with (h | ⟨u, h⟩) | h
  · refine .inl (.inl ?_)
    rw [upd_ne (fun e => hD (by rw [h]; simp) e.symm)]
    exact h
  · refine .inl (.inr ⟨u, ?_⟩)
    rw [upd_ne (fun e => hD (by rw [h]; simp) e.symm)]
    exact h
  · exact .inr h
/-- the row behind a write at an object of ours -/
theorem Row.upd {K : PySem.W.Frag} {H0 H : Hp} {r D : Addr} {S : Addr × List Int} {o : HO} (h0 : Row K H0 r S) (hD : H0 D = none) (s : Sr r H0 H) (h : Row K H r S) : Row K (upd H D o) r S := by
  have ne := h0.ne hD
  obtain ⟨pos, seed, rest, h1, h2, h3⟩ := h
  obtain ⟨_, _, _, k1, k2, _⟩ := h0
  refine ⟨pos, seed, rest, by rw [upd_ne (Ne.symm ne)]; exact h1, ?_, h3⟩
  rcases k2 with (k | ⟨u, k⟩) | k
  · have e1 : S.1 ≠ r := fun z => by
      rw [z, k1] at k
      injection k with k
      injection k with k
      exact ints_ne k
    have e2 : S.1 ≠ D := fun z => by rw [z, hD] at k; cases k
    exact .inl (.inl (by rw [upd_ne e2]; exact s _ _ e1 k))
  · have e1 : S.1 ≠ r := fun z => by
      rw [z, k1] at k
      cases k
    have e2 : S.1 ≠ D := fun z => by rw [z, hD] at k; cases k
    exact .inl (.inr ⟨u, by rw [upd_ne e2]; exact s _ _ e1 k⟩)
  · exact .inr k
def sp_law_taken (K : PySem.W.Frag) : Sp := fun vs H Q _ => ∃ (r : Addr) (S : Addr × List Int) (many : Int), vs = [.ref r, .int many] ∧ Row K H r S ∧ 0 < many ∧ many < 1000000 ∧ ∀ (z : Int) H', 0 ≤ z → z < many → Sr r H H' → Row K H' r S → Q (.int z) H'
def sp_law_pick (K : PySem.W.Frag) : Sp := fun vs H Q _ => ∃ (r t : Addr) (S : Addr × List Int) (xs : List V), vs = [.ref r, .ref t] ∧ Row K H r S ∧ ((H t = some (.lst xs) ∧ t ≠ r) ∨ H t = some (.tup xs)) ∧ 0 < xs.length ∧ xs.length < 1000000 ∧ ∀ x H', x ∈ xs → Sr r H H' → Row K H' r S → Q x H'
def sp_law_heights (K : PySem.W.Frag) : Sp := fun vs H Q _ => ∃ (r : Addr) (S : Addr × List Int) (many : Int), vs = [.ref r, .int many, .int 5] ∧ Row K H r S ∧ 1 ≤ many ∧ many ≤ 6 ∧
  ∀ v H' (hs : List Int), Sr r H H' → Row K H' r S → Rp H' v hs → (hs.length : Int) = many → (∀ h ∈ hs, -1 ≤ h ∧ h ≤ 3) → Q v H'
theorem sc_law_taken : FnScope ["_law_row", "_law_many", "_law_cell", "_law_found"] ["_law_row", "_law_many"] (defScope s_law_taken) := ⟨rfl, rfl, rfl, by decide +kernel, rfl, by decide +kernel, by decide +kernel⟩
theorem sc_law_pick : FnScope ["_law_row", "_law_things"] ["_law_row", "_law_things"] (defScope s_law_pick) := ⟨rfl, rfl, rfl, by decide +kernel, rfl, by decide +kernel, by decide +kernel⟩
theorem sc_law_heights : FnScope ["_law_row", "_law_many", "_law_high", "_law_one"] ["_law_row", "_law_many", "_law_high"] (defScope s_law_heights) := ⟨rfl, rfl, rfl, by decide +kernel, rfl, by decide +kernel, by decide +kernel⟩
theorem fmod_in {a m : Int} (h : 0 < m) : 0 ≤ a.fmod m ∧ a.fmod m < m := ⟨Int.fmod_nonneg_of_pos _ h, Int.fmod_lt_of_pos _ h⟩
section
variable {P : Program} {w : World} {K : PySem.W.Frag} {mg : Str → Option Value} {base : Heap}
theorem ca_law_taken (T : Tx mg) (D : Df K mg "_law_taken" s_law_taken ["_law_row", "_law_many"]) : Ca P w K mg base 1 "_law_taken" (sp_law_taken K) := by
  refine D.ca sc_law_taken (fun vs H Q E h => ?_) (fun f cdv A outer s H vs Q E hr h => ?_)
  · obtain ⟨r, S, many, rfl, _⟩ := h
    rfl
  · obtain ⟨r, ⟨sc, ns⟩, many, rfl, ⟨pos, seed, rest, hrow, hsc, hpos⟩, hm, hm2, q⟩ := h
    have hm0 : many ≠ 0 := by omega
    have hdv : CDivN rest many := ⟨hm0, by omega⟩
    -- writes at the row
    have fin : ∀ (pos' seed' rest' z : Int) (H' : Hp), H' = upd H r (.lst [.ref sc, .int pos', .int seed', .int rest']) → 0 ≤ pos' → 0 ≤ z → z < many → Q (.int z) H' := fun pos' seed' rest' z H' e h0 z0 z1 => by
      subst e
      exact q z _ z0 z1 (fun b o nb eb => by rw [upd_ne nb]; exact eb) ⟨pos', seed', rest', upd_same, sql_upd hsc hrow ints_ne, h0⟩
    refine ⟨_, (pss_cons (ps_if (pt_cmpR op_gt (pe_ix ix_list (pv 0) pe_int (fun _ _ => rfl)) pe_int (nomark _))
        (pss_cons (ps_set (i := 3) sc_law_taken.nd rfl (Or.inl rfl) (pe_op op_modN (pe_callTy call_int1 (by rfl) T.int bo_int (pa_cons (pe_ix ix_list (pv 0) pe_int (fun _ _ => rfl)) pa_nil)) (pv 1)))
        (pss_cons (ps_asg (pe_op op_fdivN (pe_ix ix_list (pv 0) pe_int (fun _ _ => rfl)) (pv 1)) (pg_sub (pv 0) pe_int set_list))
        (pss_one (ps_ret (pv 3)))))
        pss_nil)
      (pss_cons (ps_asg (pe_op op_add (pe_ix ix_list (pv 0) pe_int (fun _ _ => rfl)) pe_int) (pg_sub (pv 0) pe_int set_list))
      (pss_cons (ps_if (pt_cmpR op_gt (pe_ix ix_list (pv 0) pe_int (fun _ _ => rfl)) (pe_callB call_len_seq (by rfl) T.len bo_len (pa_cons (pe_ix ix_list (pv 0) pe_int (fun _ _ => rfl)) pa_nil)) (nomark _))
        (pss_cons (ps_asg (pe_op op_modN (pe_callTy call_int1 (by rfl) T.int bo_int (pa_cons (pe_op op_add (pe_op op_mul (pe_ix ix_list (pv 0) pe_int (fun _ _ => rfl)) pe_int) pe_int) pa_nil)) pe_int) (pg_sub (pv 0) pe_int set_list))
        (pss_one (ps_ret (pe_op op_modN (pe_callTy call_int1 (by rfl) T.int bo_int (pa_cons (pe_op op_fdivN (pe_ix ix_list (pv 0) pe_int (fun _ _ => rfl)) pe_int) pa_nil)) (pv 1)))))
        pss_nil)
      (pss_cons (ps_set (i := 2) sc_law_taken.nd rfl (Or.inl rfl) (pe_ix ix_list (pe_ix ix_list (pv 0) pe_int (fun _ _ => rfl)) (pe_op op_sub (pe_ix ix_list (pv 0) pe_int (fun _ _ => rfl)) pe_int) (fun _ _ => rfl)))
      (pss_cons (ps_asg (pe_op op_modN (pe_callTy call_int1 (by rfl) T.int bo_int (pa_cons (pe_op op_add (pe_op op_add (pe_op op_mul (pe_ix ix_list (pv 0) pe_int (fun _ _ => rfl)) pe_int) (pv 2)) pe_int) pa_nil)) pe_int) (pg_sub (pv 0) pe_int set_list))
      (pss_cons (ps_if (pt_cmpR op_ge (pv 2) (pe_op op_pow pe_int pe_int) (nomark _))
        (pss_one (ps_asg (pe_op op_fdivN (pv 2) (pv 1)) (pg_sub (pv 0) pe_int set_list)))
        pss_nil)
      (pss_one (ps_ret (pe_op op_modN (pe_callTy call_int1 (by rfl) T.int bo_int (pa_cons (pv 2) pa_nil)) (pv 1)))))))))), ?_⟩
    refine ⟨_, rfl, r, _, 3, .int rest, rfl, rfl, SqL.of hrow, atI_nat (j := 3) rfl, _, _, rfl, rfl, _, rfl, ite2 (fun e => ?_) (fun e => ?_)⟩
    · refine ⟨_, rfl, r, _, 3, .int rest, rfl, rfl, SqL.of hrow, atI_nat (j := 3) rfl, .inl ⟨rest, rfl, _, rfl, _, _, rfl, rfl, hm0, ?_⟩⟩
      refine ⟨_, rfl, r, _, 3, .int rest, rfl, rfl, SqL.of hrow, atI_nat (j := 3) rfl, _, rfl, _, _, rfl, rfl, hdv, ?_⟩
      refine ⟨_, rfl, r, _, 3, 3, rfl, rfl, hrow, rfl, ?_⟩
      exact ⟨_, rfl, fin pos seed _ _ _ rfl hpos (fmod_in hm).1 (fmod_in hm).2⟩
    · refine ⟨_, rfl, r, _, 1, .int pos, rfl, rfl, SqL.of hrow, atI_nat (j := 1) rfl, _, _, rfl, rfl, ?_⟩
      refine ⟨_, rfl, r, _, 1, 1, rfl, rfl, hrow, rfl, ?_⟩
      have hrow1 : upd H r (.lst [.ref sc, .int (pos + 1), .int seed, .int rest]) r = some (.lst [.ref sc, .int (pos + 1), .int seed, .int rest]) := upd_same
      have hsc1 : SqL K (upd H r (.lst [.ref sc, .int (pos + 1), .int seed, .int rest])) sc (ns.map V.int) := sql_upd hsc hrow ints_ne
      refine ⟨_, rfl, r, _, 1, .int (pos + 1), rfl, rfl, SqL.of hrow1, atI_nat (j := 1) rfl, _, rfl, r, _, 0, .ref sc, rfl, rfl, SqL.of hrow1, atI_nat (j := 0) rfl, sc, _, rfl, .inl hsc1, _, _, rfl, rfl, _, rfl, ite2 (fun e2 => ?_) (fun e2 => ?_)⟩
      · refine ⟨_, rfl, r, _, 2, .int seed, rfl, rfl, SqL.of hrow1, atI_nat (j := 2) rfl, _, _, rfl, rfl, .inr ⟨by decide, by decide⟩, _, _, rfl, rfl, .inl ⟨_, rfl, _, _, rfl, rfl, (by decide : (2147483647 : Int) ≠ 0), ?_⟩⟩
        refine ⟨_, rfl, r, _, 2, 2, rfl, rfl, hrow1, rfl, ?_⟩
        refine ⟨_, rfl, r, _, 2, _, rfl, rfl, SqL.of upd_same, atI_nat (j := 2) rfl, _, _, rfl, rfl, ⟨by decide, by decide⟩, .inl ⟨_, rfl, _, rfl, _, _, rfl, rfl, hm0, ?_⟩⟩
        exact fin (pos + 1) _ rest _ _ (by rw [upd_upd]; rfl) (by omega) (fmod_in hm).1 (fmod_in hm).2
      · have e2 : ¬ ((ns.map V.int).length : Int) < pos + 1 := fun z => e2 (decide_eq_true z)
        rw [List.length_map] at e2
        refine ⟨_, rfl, r, _, 0, .ref sc, rfl, rfl, SqL.of hrow1, atI_nat (j := 0) rfl, _, rfl, r, _, 1, .int (pos + 1), rfl, rfl, SqL.of hrow1, atI_nat (j := 1) rfl, _, _, rfl, rfl, sc, _, _, V.int (ht ns pos), rfl, rfl, hsc1, ?_, ?_⟩
        · rw [show pos + 1 - 1 = pos from by omega]
          exact atI_ht hpos (by omega)
        refine ⟨_, rfl, r, _, 2, .int seed, rfl, rfl, SqL.of hrow1, atI_nat (j := 2) rfl, _, _, rfl, rfl, .inr ⟨by decide, by decide⟩, _, rfl, _, _, rfl, rfl, _, _, rfl, rfl, .inl ⟨_, rfl, _, _, rfl, rfl, (by decide : (2147483647 : Int) ≠ 0), ?_⟩⟩
        refine ⟨_, rfl, r, _, 2, 2, rfl, rfl, hrow1, rfl, ?_⟩
        refine ⟨_, rfl, _, _, rfl, rfl, ⟨by decide, by decide, by decide⟩, _, _, rfl, rfl, _, rfl, ite2 (fun e3 => ?_) (fun e3 => ?_)⟩
        · refine ⟨_, rfl, _, rfl, _, _, rfl, rfl, ⟨hm0, by omega⟩, ?_⟩
          refine ⟨_, rfl, r, _, 3, 3, rfl, rfl, upd_same, rfl, ?_⟩
          refine ⟨_, rfl, .inl ⟨_, rfl, _, rfl, _, _, rfl, rfl, hm0, ?_⟩⟩
          exact fin (pos + 1) _ _ _ _ (by rw [upd_upd, upd_upd]; rfl) (by omega) (fmod_in hm).1 (fmod_in hm).2
        · refine ⟨_, rfl, .inl ⟨_, rfl, _, rfl, _, _, rfl, rfl, hm0, ?_⟩⟩
          exact fin (pos + 1) _ rest _ _ (by rw [upd_upd]; rfl) (by omega) (fmod_in hm).1 (fmod_in hm).2
theorem ca_law_pick (c_law_taken : Ca P w K mg base 1 "_law_taken" (sp_law_taken K)) (T : Tx mg) (D : Df K mg "_law_pick" s_law_pick ["_law_row", "_law_things"]) : Ca P w K mg base 2 "_law_pick" (sp_law_pick K) := by
  refine D.ca sc_law_pick (fun vs H Q E h => ?_) (fun f cdv A outer s H vs Q E hr h => ?_)
  · obtain ⟨r, t, S, xs, rfl, _⟩ := h
    rfl
  · obtain ⟨r, t, S, xs, rfl, R, hx, h0, h1, q⟩ := h
    refine ⟨_, (pss_one (ps_ret (pe_ix ix_seq (pv 1) (pe_ca c_law_taken hr (by decide) (by rfl) (pa_cons (pv 0) (pa_cons (pe_callB call_len_seq (by rfl) T.len bo_len (pa_cons (pv 1) pa_nil)) pa_nil))) (fun _ _ => rfl)))), ?_⟩
    refine ⟨_, rfl, _, rfl, _, rfl, t, xs, rfl, hx.elim (fun h => .inl (SqL.of h.1)) (fun h => .inr (SqT.of h)), r, S, _, rfl, R, by omega, by omega, fun z H' z0 z1 s R' => ?_⟩
    have hz : z.toNat < xs.length := by omega
    have ez : z = ((z.toNat : Nat) : Int) := by omega
    have at' : atI xs z = some xs[z.toNat] := by
      have := atI_nat (xs := xs) (j := z.toNat) (v := xs[z.toNat]) (List.getElem?_eq_getElem hz)
      rw [← ez] at this
      exact this
    have fin := q xs[z.toNat] H' (List.getElem_mem hz) s R'
    rcases hx with ⟨hx, ne⟩ | hx
    · exact .inl ⟨t, xs, z, _, rfl, rfl, SqL.of (s _ _ ne hx), at', fin⟩
    · exact .inr (.inl ⟨t, xs, z, _, rfl, rfl, SqT.of (tsm_sr R s _ _ hx), at', fin⟩)
theorem ca_law_heights (c_law_taken : Ca P w K mg base 1 "_law_taken" (sp_law_taken K)) (T : Tx mg) (D : Df K mg "_law_heights" s_law_heights ["_law_row", "_law_many", "_law_high"]) : Ca P w K mg base 2 "_law_heights" (sp_law_heights K) := by
  refine D.ca sc_law_heights (fun vs H Q E h => ?_) (fun f cdv A outer s H vs Q E hr h => ?_)
  · obtain ⟨r, S, many, rfl, _⟩ := h
    rfl
  · obtain ⟨r, S, many, rfl, R, m1, m6, q⟩ := h
    refine ⟨_, (pss_one (ps_ret (pe_callTy call_tuple_of (by rfl) T.tuple bo_tuple (pa_cons (pe_lc (own := [("_law_one", 3)]) (g := (gName 3)) (tt := tYes) (te := (tOp (rI0 fun i j => .int (i - j)) (tCall (sp_law_taken K) [] E0 (tCons (tVar 0) (tCons (tVar 2) tNil))) (tOp (rI CDivN fun i j => .int (i.fdiv j)) (tVar 2) (tC (.int 3))))) rfl sc_law_heights.nd (pi_range1 rfl T.range (pa_cons (pv 1) pa_nil)) (blkOk_by (N := ["_law_row", "_law_many", "_law_high", "_law_one"]) (sc := (defScope s_law_heights)) (by decide +kernel)) (fun _ _ _ _ _ => (pg_name (i := 3) sc_law_heights.nd rfl (Or.inl rfl))) (fun _ _ _ _ _ => pts_nil) (fun _ _ _ _ _ => (pe_op op_sub (pe_ca c_law_taken hr (by decide) (by rfl) (pa_cons (pv 0) (pa_cons (pv 2) pa_nil))) (pe_op op_fdivN (pv 2) pe_int)))) pa_nil)))), ?_⟩
    refine ⟨_, rfl, many, rfl, by omega, by omega, fun D1 hD1 => ?_⟩
    have hne : D1 ≠ r := R.ne hD1
    refine lc_range (lo := 0) (n := many.toNat) (fun i H' => Sr r H H' ∧ Row K H' r S ∧ ∃ acc : List Int, H' D1 = some (.lst (acc.map V.int)) ∧ acc.length = i ∧ ∀ z ∈ acc, -1 ≤ z ∧ z ≤ 3)
      ⟨sr_upd hD1 (Sr.refl _ _), R.same (same_upd hD1), [], upd_same, rfl, fun z hz => by simp at hz⟩ ?_ ?_
    · rintro i H1 hi ⟨s1, R1, acc, hacc, hal, hin⟩
      refine ⟨rfl, tyes (iteT ?_)⟩
      refine ⟨_, rfl, _, rfl, r, S, 5, rfl, R1, by omega, by omega, fun z H2 z0 z1 s2 R2 => ?_⟩
      refine ⟨_, rfl, 5, 3, rfl, rfl, ⟨by decide, by decide⟩, z, _, rfl, rfl, ?_⟩
      have h2 := s2 _ _ hne hacc
      refine ⟨_, h2, small1000 (by rw [List.length_map]; omega), sr_upd hD1 (s1.trans s2), R.upd hD1 (s1.trans s2) R2, acc ++ [z - 1], ?_, by rw [List.length_append, List.length_singleton, hal], fun y hy => ?_⟩
      · rw [upd_same, List.map_append]
        rfl
      · rcases List.mem_append.mp hy with e | e
        · exact hin y e
        · rw [List.mem_singleton.mp e]
          omega
    · rintro H1 ⟨s1, R1, acc, hacc, hal, hin⟩
      refine ⟨D1, _, rfl, .inl ⟨SqL.of hacc, fun p hp => ?_⟩⟩
      refine q _ _ acc (s1.trans (Sr.of (same_upd hp))) (R1.same (same_upd hp)) (rp_new hp (paired_of_ints _)) (by omega) hin
end
end Sto

/-! text: S3b -/
set_option Elab.async false
set_option linter.all false
set_option maxRecDepth 100000
set_option maxHeartbeats 4000000
/-! _law_web -/
namespace Sto
open PySem PySem.Spec PyProof.Rows L2 StX
def kOf (p : Int × Int) : List L2.Key := [Sum.inl p.1, Sum.inl p.2]
theorem kOf_inj {p q : Int × Int} (h : kOf p = kOf q) : p = q := by
  unfold kOf at h
  injection h with h1 h2
  injection h2 with h2 _
  exact Prod.ext (Sum.inl.inj h1) (Sum.inl.inj h2)
theorem put_keys {kvs : List (List L2.Key × V)} {ks : List (Int × Int)} (p : Int × Int) (v : V) (h : kvs.map (·.1) = ks.map kOf) (hn : ks.Nodup) :
    ∃ ks' : List (Int × Int), (putK kvs (kOf p) v).map (·.1) = ks'.map kOf ∧ ks'.Nodup ∧ (∀ x ∈ ks', x ∈ ks ∨ x = p) ∧ ks'.length ≤ ks.length + 1 := by
  unfold putK
  by_cases q : (kvs.any fun kv => decide (kv.1 = kOf p)) = true
  · rw [if_pos q]
    refine ⟨ks, ?_, hn, fun x hx => .inl hx, Nat.le_succ _⟩
    rw [← h, List.map_map]
    refine List.map_congr_left fun kv _ => ?_
    show (if kv.1 = kOf p then (kv.1, v) else kv).1 = kv.1
    by_cases e : kv.1 = kOf p
    · rw [if_pos e]
    · rw [if_neg e]
  · rw [if_neg q]
    refine ⟨ks ++ [p], by rw [List.map_append, List.map_append, h]; rfl, ?_, fun x hx => ?_, by rw [List.length_append, List.length_singleton]; exact Nat.le_refl _⟩
    · rw [List.nodup_append]
      refine ⟨hn, by simp, fun a ha b hb e => ?_⟩
      rw [List.mem_singleton.mp hb] at e
      rw [e] at ha
      refine q (List.any_eq_true.mpr ?_)
      have : kOf p ∈ kvs.map (·.1) := by rw [h]; exact List.mem_map.mpr ⟨p, ha, rfl⟩
      obtain ⟨kv, h1, h2⟩ := List.mem_map.mp this
      exact ⟨kv, h1, decide_eq_true h2⟩
    · rcases List.mem_append.mp hx with e | e
      · exact .inl e
      · exact .inr (List.mem_singleton.mp e)
def kp (H : Hp) (v : V) : Int × Int := match v with
  | .ref t => (match H t with
    | some (.tup [.int a, .int b]) => (a, b)
    | _ => (0, 0))
  | _ => (0, 0)
theorem kp_eq {H : Hp} {v : V} {p : Int × Int} (h : Rp H v p) : kp H v = p := by
  obtain ⟨t, rfl, ht⟩ := pr_open h
  unfold kp
  simp only [ht]
theorem kp_map {H : Hp} : ∀ {vs : List V} {ls : List (Int × Int)}, Paired (Rep.R H) vs ls → vs.map (kp H) = ls
  | _, _, .nil => rfl
  | _, _, .cons h t => by rw [List.map_cons, kp_map t, kp_eq h]
theorem kp_mem {H : Hp} : ∀ {vs : List V} {ls : List (Int × Int)}, Paired (Rep.R H) vs ls → ∀ v ∈ vs, Rp H v (kp H v)
  | _, _, .nil, v, h => by simp at h
  | _, _, .cons h t, v, hm => by
    rcases List.mem_cons.mp hm with e | e
    · rw [e, kp_eq h]
      exact h
    · exact kp_mem t v e
theorem kp_paired {H : Hp} : ∀ {vs : List V}, (∀ v ∈ vs, Rp H v (kp H v)) → Paired (Rep.R H) vs (vs.map (kp H))
  | [], _ => .nil
  | v :: vs, h => .cons (h v List.mem_cons_self) (kp_paired fun u hu => h u (List.mem_cons_of_mem _ hu))
theorem keys_pairs {H : Hp} : ∀ {kvs : List (List L2.Key × V)} {bs : List Addr} {ks : List (Int × Int)}, IsKeys H kvs bs → kvs.map (·.1) = ks.map kOf → Paired (Rep.R H) (bs.map V.ref) ks
  | _, _, [], .nil, _ => .nil
  | _, _, k :: ks, .nil, e => by simp at e
  | _, _, [], .cons h t, e => by simp at e
  | kv :: kvs, b :: bs, k :: ks, .cons h t, e => by
    rw [List.map_cons, List.map_cons] at e
    injection e with e1 e2
    refine .cons ⟨b, .int k.1, .int k.2, rfl, ?_, rfl, rfl⟩ (keys_pairs t e2)
    have h' : H b = some (.tup (kv.1.map kV)) := h
    rw [h', e1]
    rfl
theorem asc_of {l : List (Int × Int)} (h1 : l.Pairwise fun a b => SrtO.lexB b a = false) (h2 : l.Nodup) : l.Pairwise fun a b => a.1 < b.1 ∨ (a.1 = b.1 ∧ a.2 < b.2) := by
  refine (h1.and h2).imp fun {a b} h => ?_
  obtain ⟨h3, h4⟩ := h
  have h5 : ¬ (b.1 < a.1 ∨ (b.1 = a.1 ∧ b.2 < a.2)) := fun z => by rw [SrtO.lexB_iff.mpr z] at h3; cases h3
  have h6 : ¬ (a.1 = b.1 ∧ a.2 = b.2) := fun z => h4 (Prod.ext z.1 z.2)
  omega
def sp_law_web (K : PySem.W.Frag) : Sp := fun vs H Q _ => ∃ (r : Addr) (S : Addr × List Int), vs = [.ref r, .int 6, .int 4] ∧ Row K H r S ∧
  ∀ v H' (many : Int) (ties : List (Int × Int)), Sr r H H' → Row K H' r S → Wb H' v many ties → WebOk many ties → Q v H'
/-- the dict of ties as far as it stands -/
def TiesD (H : Hp) (d : Addr) (many : Int) (n : Nat) : Prop := ∃ (kvs : List (List L2.Key × V)) (ks : List (Int × Int)), H d = some (.dT kvs) ∧ kvs.map (·.1) = ks.map kOf ∧ ks.Nodup ∧ (∀ p ∈ ks, 0 ≤ p.1 ∧ p.1 < p.2 ∧ p.2 < many) ∧ ks.length ≤ n
theorem TiesD.le {H : Hp} {d : Addr} {many : Int} {n m : Nat} (h : TiesD H d many n) (l : n ≤ m) : TiesD H d many m := by
  obtain ⟨kvs, ks, h1, h2, h3, h4, h5⟩ := h
  exact ⟨kvs, ks, h1, h2, h3, h4, Nat.le_trans h5 l⟩
theorem TiesD.sr {H H' : Hp} {r d : Addr} {many : Int} {n : Nat} (h : TiesD H d many n) (s : Sr r H H') (ne : d ≠ r) : TiesD H' d many n := by
  obtain ⟨kvs, ks, h1, h2⟩ := h
  exact ⟨kvs, ks, s _ _ ne h1, h2⟩
theorem TiesD.put {H : Hp} {d b : Addr} {many : Int} {n : Nat} {p : Int × Int} {v : V} (h : TiesD H d many n) (hn : n ≤ 60) (hb : H b = some (.tup [.int p.1, .int p.2])) (ok : 0 ≤ p.1 ∧ p.1 < p.2 ∧ p.2 < many) :
    ∃ H', (∀ c o, c ≠ d → H c = some o → H' c = some o) ∧ (∃ o, H' = upd H d o) ∧ DPut H d (.ref b) v H' ∧ TiesD H' d many (n + 1) := by
  obtain ⟨kvs, ks, h1, h2, h3, h4, h5⟩ := h
  obtain ⟨ks', k1, k2, k3, k4⟩ := put_keys p v h2 h3
  have hl : kvs.length = ks.length := by
    have := congrArg List.length h2
    rwa [List.length_map, List.length_map] at this
  refine ⟨_, fun c o nc e => ?_, ⟨_, rfl⟩, DPut.t (k := kOf p) h1 hb (small1000 (by omega)), _, ks', upd_same, k1, k2, fun x hx => ?_, by omega⟩
  · rw [upd_ne nc]
    exact e
  · rcases k3 x hx with e | e
    · exact h4 x e
    · rw [e]
      exact ok
theorem sc_law_web : FnScope ["_law_row", "_law_most", "_law_more", "_law_many", "_law_ties_here", "_law_person", "_law_turn", "_law_one"] ["_law_row", "_law_most", "_law_more"] (defScope s_law_web) := ⟨rfl, rfl, rfl, by decide +kernel, rfl, by decide +kernel, by decide +kernel⟩
section
variable {P : Program} {w : World} {K : PySem.W.Frag} {mg : Str → Option Value} {base : Heap}
set_option maxHeartbeats 8000000 in
theorem ca_law_web (c_law_taken : Ca P w K mg base 1 "_law_taken" (sp_law_taken K)) (T : Tx mg) (D : Df K mg "_law_web" s_law_web ["_law_row", "_law_most", "_law_more"]) : Ca P w K mg base 2 "_law_web" (sp_law_web K) := by
  refine D.ca sc_law_web (fun vs H Q E h => ?_) (fun f cdv A outer s H vs Q E hr h => ?_)
  · obtain ⟨r, S, rfl, _⟩ := h
    rfl
  · obtain ⟨r, S, rfl, R, q⟩ := h
    have hu := hu_of hr
    refine ⟨_, (pss_cons (ps_set (i := 3) sc_law_web.nd rfl (Or.inl rfl) (pe_op op_add pe_int (pe_ca c_law_taken hr (by decide) (by rfl) (pa_cons (pv 0) (pa_cons (pv 1) pa_nil)))))
      (pss_cons (ps_set (i := 4) sc_law_web.nd rfl (Or.inl rfl) pe_dnewT)
      (pss_cons (ps_for PassesOwn.never rfl (pi_range2 rfl T.range (pa_cons pe_int (pa_cons (pv 3) pa_nil))) (pg_name (i := 5) sc_law_web.nd rfl (Or.inl rfl))
        (pss_one (ps_if (pt_cmpR op_gt (pe_ca c_law_taken hr (by decide) (by rfl) (pa_cons (pv 0) (pa_cons pe_int pa_nil))) pe_int (nomark _))
          (pss_one (ps_dput hu (pv 4) (pe_tup (pa_cons (pe_ca c_law_taken hr (by decide) (by rfl) (pa_cons (pv 0) (pa_cons (pv 5) pa_nil))) (pa_cons (pv 5) pa_nil))) pe_bl rfl))
          pss_nil)))
      (pss_cons (ps_for PassesOwn.never rfl (pi_range1 rfl T.range (pa_cons (pe_ifExp (pt_cmpR op_gt (pv 3) pe_int (nomark _)) (pe_ca c_law_taken hr (by decide) (by rfl) (pa_cons (pv 0) (pa_cons (pe_op op_add (pv 2) pe_int) pa_nil))) pe_int) pa_nil)) (pg_name (i := 6) sc_law_web.nd rfl (Or.inl rfl))
        (pss_cons (ps_set (i := 7) sc_law_web.nd rfl (Or.inl rfl) (pe_ca c_law_taken hr (by decide) (by rfl) (pa_cons (pv 0) (pa_cons (pe_op op_sub (pv 3) pe_int) pa_nil))))
        (pss_one (ps_dput hu (pv 4) (pe_tup (pa_cons (pv 7) (pa_cons (pe_op op_add (pe_op op_add (pv 7) pe_int) (pe_ca c_law_taken hr (by decide) (by rfl) (pa_cons (pv 0) (pa_cons (pe_op op_sub (pe_op op_sub (pv 3) pe_int) (pv 7)) pa_nil)))) pa_nil))) pe_bl rfl))))
      (pss_one (ps_ret (pe_tup (pa_cons (pv 3) (pa_cons (pe_callTy call_tuple_of (by rfl) T.tuple bo_tuple (pa_cons (pe_callB cr_sortedPO (by rfl) T.sorted bo_sorted (pa_cons (pe_callTy (call_list_dT rfl) (by rfl) T.list bo_list (pa_cons (pv 4) pa_nil)) pa_nil)) pa_nil)) pa_nil))))))))), ?_⟩
    refine ⟨_, rfl, _, rfl, r, S, 6, rfl, R, by decide, by decide, fun z0 H1 z1 z2 s1 R1 => ⟨_, _, rfl, rfl, ?_⟩⟩
    obtain ⟨many, hmany⟩ : ∃ many : Int, many = 1 + z0 := ⟨_, rfl⟩
    show gName 3 (V.int (1 + z0)) _ _ _
    rw [← hmany]
    refine fun d hd => ?_
    have hne : d ≠ r := R1.ne hd
    have hd0 : H d = none := sr_free s1 hne hd
    have R1' := R1.same (same_upd (o := .dT []) hd)
    refine ⟨_, rfl, 1, many, rfl, ⟨by omega, by omega, by omega, by omega⟩, ?_⟩
    -- one more tie
    have more : ∀ (H2 H3 : Hp) (n : Nat), Sr r H H2 → Row K H2 r S → (∀ c o, c ≠ d → H2 c = some o → H3 c = some o) → (∃ o, H3 = upd H2 d o) → Sr r H H3 ∧ Row K H3 r S := fun H2 H3 n s R2 _ ⟨o, e⟩ => by
      subst e
      exact ⟨sr_upd hd0 s, R.upd hd0 s R2⟩
    refine for_range (lo := 1) (n := (many - 1).toNat) (fun i σ H' => Sr r H H' ∧ Row K H' r S ∧ TiesD H' d many i ∧ ∃ y5 : Option V, σ = [some (.ref r), some (.int 6), some (.int 4), some (.int many), some (.ref d), y5, none, none])
      ⟨sr_upd hd0 s1, R1', ⟨[], [], upd_same, rfl, by simp, fun p hp => by simp at hp, Nat.le_refl _⟩, none, rfl⟩ ?_ ?_
    · rintro i σ H2 hi ⟨s2, R2, t2, y5, rfl⟩
      refine ⟨_, rfl, r, S, 7, rfl, R2, by decide, by decide, fun z H3 z0 z1 s3 R3 => ⟨_, _, rfl, rfl, _, rfl, ite2 (fun e => ?_) (fun e => ?_)⟩⟩
      · refine ⟨_, rfl, _, rfl, _, rfl, r, S, 1 + (i : Int), rfl, R3, by omega, by omega, fun y H4 y0 y1 s4 R4 => ?_⟩
        refine ⟨_, rfl, le2, fun b hb => ?_⟩
        have sb := same_upd (o := .tup [.int y, .int (1 + (i : Int))]) hb
        have s24 := (s2.trans s3).trans (s4.trans (Sr.of sb))
        have t4 := t2.sr (s3.trans (s4.trans (Sr.of sb))) hne
        obtain ⟨H5, k1, k2, k3, k4⟩ := t4.put (p := (y, 1 + (i : Int))) (v := .bl true) (by omega) upd_same ⟨y0, y1, by omega⟩
        obtain ⟨m1, m2⟩ := more _ H5 i s24 (R4.same sb) k1 k2
        exact ⟨d, H5, rfl, k3, m1, m2, k4, _, rfl⟩
      · exact ⟨s2.trans s3, R3, (t2.sr s3 hne).le (Nat.le_succ _), _, rfl⟩
    · rintro σ H2 ⟨s2, R2, t2, y5, rfl⟩
      refine ⟨_, rfl, _, _, rfl, rfl, _, rfl, ite2 (fun e => ?_) (fun e => ?_)⟩
      · have hm1 : 1 < many := of_decide_eq_true e
        refine ⟨_, rfl, _, rfl, _, _, rfl, rfl, r, S, 5, rfl, R2, by decide, by decide, fun jj H2' j0 j1 s2' R2' => ?_⟩
        have s2 := s2.trans s2'
        have R2 := R2'
        have t2 := t2.sr s2' hne
        have hj5 : jj ≤ 5 := by omega
        have hjm : 0 < jj → 1 < many := fun _ => hm1
        refine ⟨jj, rfl, by omega, by omega, ?_⟩
        refine for_range (lo := 0) (n := jj.toNat) (fun i σ H' => Sr r H H' ∧ Row K H' r S ∧ TiesD H' d many (5 + i) ∧ ∃ y6 y7 : Option V, σ = [some (.ref r), some (.int 6), some (.int 4), some (.int many), some (.ref d), y5, y6, y7])
          ⟨s2, R2, t2.le (by omega), none, none, rfl⟩ ?_ ?_
        · rintro i σ H3 hi ⟨s3, R3, t3, y6, y7, rfl⟩
          have hm1 := hjm (by omega)
          refine ⟨_, rfl, _, rfl, _, _, rfl, rfl, r, S, many - 1, rfl, R3, by omega, by omega, fun one H4 o0 o1 s4 R4 => ?_⟩
          refine ⟨_, rfl, _, rfl, _, rfl, _, _, rfl, rfl, _, rfl, _, rfl, _, _, rfl, rfl, _, rfl, _, _, rfl, rfl, r, S, many - 1 - one, rfl, R4, by omega, by omega, fun y H5 y0 y1 s5 R5 => ⟨_, _, rfl, rfl, le2, fun b hb => ?_⟩⟩
          have sb := same_upd (o := .tup [.int one, .int (one + 1 + y)]) hb
          have s35 := (s3.trans s4).trans (s5.trans (Sr.of sb))
          have t5 := t3.sr (s4.trans (s5.trans (Sr.of sb))) hne
          obtain ⟨H6, k1, k2, k3, k4⟩ := t5.put (p := (one, one + 1 + y)) (v := .bl true) (by omega) upd_same ⟨o0, by show one < one + 1 + y; omega, by show one + 1 + y < many; omega⟩
          obtain ⟨m1, m2⟩ := more _ H6 i s35 (R5.same sb) k1 k2
          exact ⟨d, H6, rfl, k3, m1, m2, k4, _, _, rfl⟩
        · rintro σ H3 ⟨s3, R3, ⟨kvs, ks, hkv, e1, nd, hok, hkl⟩, y6, y7, rfl⟩
          refine ⟨_, rfl, _, rfl, d, kvs, rfl, Rd.of hkv, fun p bs hp hk => ?_⟩
          have pr := keys_pairs hk e1
          have sp1 := same_upd (o := .lst (bs.map V.ref)) hp
          refine ⟨p, bs.map V.ref, kp H3, rfl, SqL.of upd_same, fun x hx => ?_, fun ys p2 srt stb hp2 => ?_⟩
          · obtain ⟨t, e, ht'⟩ := pr_open (kp_mem pr x hx)
            exact ⟨t, e, sp1 _ _ ht'⟩
          have sp2 := sp1.trans (same_upd (o := .lst ys) hp2)
          refine ⟨p2, ys, rfl, .inl ⟨SqL.of upd_same, fun t ht' => ⟨le2, fun t2 ht2 => ?_⟩⟩⟩
          have sp3 := sp2.trans (same_upd (o := .tup ys) ht')
          have sp4 := sp3.trans (same_upd (o := .tup [.int many, .ref t]) ht2)
          have prm : (ys.map (kp H3)).Perm ks := by
            have := stb.perm.map (kp H3)
            rwa [kp_map pr] at this
          have pys : Paired (Rep.R H3) ys (ys.map (kp H3)) := kp_paired fun v hv => kp_mem pr v (stb.perm.mem_iff.mp hv)
          refine q _ _ many (ys.map (kp H3)) (s3.trans (Sr.of sp4)) (R3.same sp4) ⟨t2, .int many, .ref t, rfl, upd_same, rfl, t, ys, rfl, same_upd ht2 _ _ upd_same, paired_mono (tsm_of sp4) pys⟩ ?_
          refine ⟨by omega, by omega, by rw [prm.length_eq]; omega, fun x hx => hok x (prm.mem_iff.mp hx), ?_⟩
          exact asc_of (List.pairwise_map.mpr srt) (prm.nodup_iff.mpr nd)
      · have j0 : (0 : Int) ≤ 0 := Int.le_refl _
        have hj5 : (0 : Int) ≤ 5 := by decide
        have hjm : 0 < (0 : Int) → 1 < many := fun z => absurd z (by decide)
        refine ⟨(0 : Int), rfl, by omega, by omega, ?_⟩
        refine for_range (lo := 0) (n := (0 : Int).toNat) (fun i σ H' => Sr r H H' ∧ Row K H' r S ∧ TiesD H' d many (5 + i) ∧ ∃ y6 y7 : Option V, σ = [some (.ref r), some (.int 6), some (.int 4), some (.int many), some (.ref d), y5, y6, y7])
          ⟨s2, R2, t2.le (by omega), none, none, rfl⟩ ?_ ?_
        · rintro i σ H3 hi ⟨s3, R3, t3, y6, y7, rfl⟩
          have hm1 := hjm (by omega)
          refine ⟨_, rfl, _, rfl, _, _, rfl, rfl, r, S, many - 1, rfl, R3, by omega, by omega, fun one H4 o0 o1 s4 R4 => ?_⟩
          refine ⟨_, rfl, _, rfl, _, rfl, _, _, rfl, rfl, _, rfl, _, rfl, _, _, rfl, rfl, _, rfl, _, _, rfl, rfl, r, S, many - 1 - one, rfl, R4, by omega, by omega, fun y H5 y0 y1 s5 R5 => ⟨_, _, rfl, rfl, le2, fun b hb => ?_⟩⟩
          have sb := same_upd (o := .tup [.int one, .int (one + 1 + y)]) hb
          have s35 := (s3.trans s4).trans (s5.trans (Sr.of sb))
          have t5 := t3.sr (s4.trans (s5.trans (Sr.of sb))) hne
          obtain ⟨H6, k1, k2, k3, k4⟩ := t5.put (p := (one, one + 1 + y)) (v := .bl true) (by omega) upd_same ⟨o0, by show one < one + 1 + y; omega, by show one + 1 + y < many; omega⟩
          obtain ⟨m1, m2⟩ := more _ H6 i s35 (R5.same sb) k1 k2
          exact ⟨d, H6, rfl, k3, m1, m2, k4, _, _, rfl⟩
        · rintro σ H3 ⟨s3, R3, ⟨kvs, ks, hkv, e1, nd, hok, hkl⟩, y6, y7, rfl⟩
          refine ⟨_, rfl, _, rfl, d, kvs, rfl, Rd.of hkv, fun p bs hp hk => ?_⟩
          have pr := keys_pairs hk e1
          have sp1 := same_upd (o := .lst (bs.map V.ref)) hp
          refine ⟨p, bs.map V.ref, kp H3, rfl, SqL.of upd_same, fun x hx => ?_, fun ys p2 srt stb hp2 => ?_⟩
          · obtain ⟨t, e, ht'⟩ := pr_open (kp_mem pr x hx)
            exact ⟨t, e, sp1 _ _ ht'⟩
          have sp2 := sp1.trans (same_upd (o := .lst ys) hp2)
          refine ⟨p2, ys, rfl, .inl ⟨SqL.of upd_same, fun t ht' => ⟨le2, fun t2 ht2 => ?_⟩⟩⟩
          have sp3 := sp2.trans (same_upd (o := .tup ys) ht')
          have sp4 := sp3.trans (same_upd (o := .tup [.int many, .ref t]) ht2)
          have prm : (ys.map (kp H3)).Perm ks := by
            have := stb.perm.map (kp H3)
            rwa [kp_map pr] at this
          have pys : Paired (Rep.R H3) ys (ys.map (kp H3)) := kp_paired fun v hv => kp_mem pr v (stb.perm.mem_iff.mp hv)
          refine q _ _ many (ys.map (kp H3)) (s3.trans (Sr.of sp4)) (R3.same sp4) ⟨t2, .int many, .ref t, rfl, upd_same, rfl, t, ys, rfl, same_upd ht2 _ _ upd_same, paired_mono (tsm_of sp4) pys⟩ ?_
          refine ⟨by omega, by omega, by rw [prm.length_eq]; omega, fun x hx => hok x (prm.mem_iff.mp hx), ?_⟩
          exact asc_of (List.pairwise_map.mpr srt) (prm.nodup_iff.mpr nd)
end
end Sto

/-! text: S3c -/
set_option Elab.async false
set_option linter.all false
set_option maxRecDepth 100000
set_option maxHeartbeats 4000000
/-! _law_stoops, _law_after, _law_drawn, _law_goal -/
namespace Sto
open PySem PySem.Spec PyProof.Rows L2 StX
/-- a web of so many persons, its ties in range -/
structure TiesIn (many : Int) (ties : List (Int × Int)) : Prop where
  lo : 1 ≤ many
  hi : many ≤ 6
  few : ties.length ≤ 100
  ok : ∀ t ∈ ties, (0 ≤ t.1 ∧ t.1 < many) ∧ 0 ≤ t.2 ∧ t.2 < many
theorem WebOk.ties {many : Int} {ties : List (Int × Int)} (h : WebOk many ties) : TiesIn many ties := ⟨h.lo, h.hi, h.few, fun t ht => by
  have := h.ok t ht
  exact ⟨⟨this.1, by omega⟩, by omega, this.2.2⟩⟩
theorem TiesIn.adj {many : Int} {ties : List (Int × Int)} (h : TiesIn many ties) {p x : Int} (a : adj ties p x) : 0 ≤ x ∧ x < many := by
  rcases a with a | a
  · exact (h.ok _ a).2
  · exact (h.ok _ a).1
def sp_law_stoops (_ : PySem.W.Frag) : Sp := fun vs H Q _ => ∃ (v u : V) (many : Int) (ties : List (Int × Int)) (hs : List Int), vs = [v, u] ∧ Wb H v many ties ∧ TiesIn many ties ∧ Rp H u hs ∧ (hs.length : Int) = many ∧
  ∀ a H' (prs : List (Int × Int)), Same H H' → H a = none → Ls H' a prs → (∀ p ∈ prs, (0 ≤ p.1 ∧ p.1 < many) ∧ 0 ≤ p.2 ∧ p.2 < many) → prs.length ≤ 600 → Q (.ref a) H'
def sp_law_after (_ : PySem.W.Frag) : Sp := fun vs H Q _ => ∃ (u z : V) (hs : List Int) (p : Int × Int), vs = [u, z] ∧ Rp H u hs ∧ Rp H z p ∧ hs.length ≤ 6 ∧ (0 ≤ p.1 ∧ p.1 < hs.length) ∧ (0 ≤ p.2 ∧ p.2 < hs.length) ∧
  ∀ y H' (gs : List Int), Same H H' → Rp H' y gs → gs.length = hs.length → (∀ g ∈ gs, g ∈ hs) → Q y H'
def sp_law_drawn (K : PySem.W.Frag) : Sp := fun vs H Q _ => ∃ (r : Addr) (S : Addr × List Int) (v u : V) (many most : Int) (ties : List (Int × Int)) (hs : List Int), vs = [.ref r, v, u, .int most] ∧ Row K H r S ∧ Wb H v many ties ∧ TiesIn many ties ∧ Rp H u hs ∧ (hs.length : Int) = many ∧ 0 ≤ most ∧ most ≤ 9 ∧
  ∀ a H' (f y : V) (gs : List Int), Sr r H H' → Row K H' r S → H' a = some (.tup [f, y]) → Rp H' y gs → gs.length = hs.length → (∀ g ∈ gs, g ∈ hs) → Q (.ref a) H'
def sp_law_goal (K : PySem.W.Frag) : Sp := fun vs H Q _ => ∃ (r : Addr) (S : Addr × List Int) (v u : V) (many : Int) (ties : List (Int × Int)) (hs : List Int), vs = [.ref r, v, u] ∧ Row K H r S ∧ Wb H v many ties ∧ TiesIn many ties ∧ Rp H u hs ∧ (hs.length : Int) = many ∧
  ∀ y H' (gs : List Int), Sr r H H' → Row K H' r S → Rp H' y gs → gs.length = hs.length → (∀ g ∈ gs, g ∈ hs) → Q y H'
theorem tnp {σ : L2.St} {H : Hp} {Q : Option Int → Hp → Prop} (h : Q none H) : tNoPart σ H Q := h
/-! ### tuples joined, cut -/
theorem catA_go {K : PySem.W.Frag} {H : Hp} {Q : VK} {a b : Addr} {xs ys : List V} (ha : H a = some (.tup xs)) (hb : H b = some (.tup ys)) (hl : xs.length + ys.length ≤ 1000) (q : ∀ c H', Same H H' → H' c = some (.tup (xs ++ ys)) → Q (.ref c) H') : rCatA K (.ref a) (.ref b) H Q := by
  refine ⟨a, b, xs, ys, rfl, rfl, SqT.of ha, SqT.of hb, Nat.le_of_lt (small1000 hl), fun e => ?_, fun _ e => ?_, fun _ _ p hp => ?_⟩
  · subst e
    exact q b H (Same.refl _) hb
  · subst e
    exact q a H (Same.refl _) (by rw [List.append_nil]; exact ha)
  · exact q p _ (same_upd hp) upd_same
theorem sl_go {K : PySem.W.Frag} {H : Hp} {Q : VK} {a : Addr} {xs : List V} {lo hi : Option Int} (ha : H a = some (.tup xs)) (q : ∀ c H', Same H H' → H' c = some (.tup (cutV xs lo hi)) → Q (.ref c) H') : rSlA K (.ref a) lo hi H Q := by
  refine ⟨a, xs, rfl, SqT.of ha, fun e => ?_, fun _ p hp => ?_⟩
  · have ec : cutV xs lo hi = xs := by
      unfold cutV
      rw [e.1, e.2, List.drop_zero, Nat.sub_zero, List.take_length]
    exact q a H (Same.refl _) (by rw [ec]; exact ha)
  · exact q p _ (same_upd hp) upd_same
theorem cut_to {xs : List Int} {p : Int} (h0 : 0 ≤ p) (h1 : p ≤ xs.length) : cutV (xs.map V.int) none (some p) = (xs.take p.toNat).map V.int := by
  unfold cutV
  have e : p = ((p.toNat : Nat) : Int) := by omega
  rw [HT.sIx_none, e, HT.sIx_nat, List.length_map, List.drop_zero, Nat.sub_zero, List.map_take, Nat.min_eq_left (by omega)]
  rw [Int.toNat_natCast]
theorem cut_from {xs : List Int} {p : Int} (h0 : 0 ≤ p) (h1 : p ≤ xs.length) : cutV (xs.map V.int) (some p) none = (xs.drop p.toNat).map V.int := by
  unfold cutV
  have e : p = ((p.toNat : Nat) : Int) := by omega
  rw [HT.sIx_none, e, HT.sIx_nat, List.length_map, Nat.min_eq_left (by omega), Int.toNat_natCast, List.map_drop]
  refine List.take_of_length_le ?_
  rw [List.length_drop, List.length_map]
  exact Nat.le_refl _
theorem sc_law_stoops : FnScope ["_law_web_here", "_law_heights_here", "_law_found", "_law_person", "_law_one"] ["_law_web_here", "_law_heights_here"] (defScope s_law_stoops) := ⟨rfl, rfl, rfl, by decide +kernel, rfl, by decide +kernel, by decide +kernel⟩
theorem sc_law_after : FnScope ["_law_heights_here", "_law_pair"] ["_law_heights_here", "_law_pair"] (defScope s_law_after) := ⟨rfl, rfl, rfl, by decide +kernel, rfl, by decide +kernel, by decide +kernel⟩
theorem sc_law_drawn : FnScope ["_law_row", "_law_web_here", "_law_heights_here", "_law_most", "_law_turn", "_law_now", "_law_found", "_law_some", "_law_pair"] ["_law_row", "_law_web_here", "_law_heights_here", "_law_most"] (defScope s_law_drawn) := ⟨rfl, rfl, rfl, by decide +kernel, rfl, by decide +kernel, by decide +kernel⟩
theorem sc_law_goal : FnScope ["_law_row", "_law_web_here", "_law_heights_here", "_law_one"] ["_law_row", "_law_web_here", "_law_heights_here"] (defScope s_law_goal) := ⟨rfl, rfl, rfl, by decide +kernel, rfl, by decide +kernel, by decide +kernel⟩
section
variable {P : Program} {w : World} {K : PySem.W.Frag} {mg : Str → Option Value} {base : Heap}
theorem ca_law_stoops (c_law_ties : Ca P w K mg base 1 "_law_ties" (sp_law_ties K)) (T : Tx mg) (D : Df K mg "_law_stoops" s_law_stoops ["_law_web_here", "_law_heights_here"]) : Ca P w K mg base 2 "_law_stoops" (sp_law_stoops K) := by
  refine D.ca sc_law_stoops (fun vs H Q E h => ?_) (fun f cdv A outer s H vs Q E hr h => ?_)
  · obtain ⟨v, u, many, ties, hs, rfl, _⟩ := h
    rfl
  · obtain ⟨v, u, many, ties, hs, rfl, rw, wo, ru, hl, q⟩ := h
    obtain ⟨a, rfl, ha⟩ := rp_ints ru
    have rw' := rw
    obtain ⟨pw, pt, ts, rfl, hw, hpt, pr⟩ := wb_open rw'
    have m1 := wo.lo
    have m6 := wo.hi
    refine ⟨_, (pss_cons (ps_set (i := 2) sc_law_stoops.nd rfl (Or.inl rfl) (pe_lst pa_nil))
      (pss_cons (ps_for PassesOwn.never rfl (pi_range1 rfl T.range (pa_cons (pe_ix ix_tup (pv 0) pe_int (fun _ _ => rfl)) pa_nil)) (pg_name (i := 3) sc_law_stoops.nd rfl (Or.inr rfl))
        (pss_one (ps_set (i := 2) sc_law_stoops.nd rfl (Or.inl rfl) (pe_op op_cat (pv 2) (pe_lc (own := [("_law_one", 4)]) (g := (gName 4)) (tt := (tTest (tOp (rI0 fun i j => .bl (decide (i < j))) (tOp (rIxT K) (tVar 1) (tVar 4)) (tOp (rIxT K) (tVar 1) (tVar 3))))) (te := (tTup (tCons (tVar 3) (tCons (tVar 4) tNil)))) rfl sc_law_stoops.nd (pi_list (pe_ca c_law_ties hr (by decide) (by rfl) (pa_cons (pv 0) (pa_cons (pv 3) pa_nil)))) (blkOk_by (N := ["_law_web_here", "_law_heights_here", "_law_found", "_law_person", "_law_one"]) (sc := (defScope s_law_stoops)) (by decide +kernel)) (fun _ _ _ _ _ => (pg_name (i := 4) sc_law_stoops.nd rfl (Or.inl rfl))) (fun _ _ _ _ _ => (pts_one (pt_cmpR op_lt (pe_ix ix_tup (pv 1) (pv 4) (fun _ _ => rfl)) (pe_ix ix_tup (pv 1) (pv 3) (fun _ _ => rfl)) (nomark _)))) (fun _ _ _ _ _ => (pe_tup (pa_cons (pv 3) (pa_cons (pv 4) pa_nil)))))))))
      (pss_one (ps_ret (pv 2))))), ?_⟩
    refine ⟨Nat.zero_le _, fun L0 hL0 => ?_⟩
    have s0 := same_upd (o := .lst []) hL0
    refine ⟨_, rfl, pw, _, 0, .int many, rfl, rfl, SqT.of (s0 _ _ hw), atI_nat (j := 0) rfl, many, rfl, by omega, by omega, ?_⟩
    refine for_range (lo := 0) (n := many.toNat) (fun i σ H' => Same H H' ∧ ∃ (L : Addr) (prs : List (Int × Int)) (y3 : Option V), σ = [some (.ref pw), some (.ref a), some (.ref L), y3, none] ∧ H L = none ∧ Ls H' L prs ∧ (∀ p ∈ prs, (0 ≤ p.1 ∧ p.1 < many) ∧ 0 ≤ p.2 ∧ p.2 < many) ∧ prs.length ≤ 100 * i)
      ⟨s0, L0, [], none, rfl, hL0, ls_new hL0 .nil, fun p hp => by simp at hp, by simp⟩ ?_ ?_
    · rintro i σ H1 hi ⟨s1, L, prs, y3, rfl, hLn, hL, hin, hpl⟩
      have p0 : 0 ≤ 0 + (i : Int) := by omega
      have p1 : 0 + (i : Int) < many := by omega
      refine ⟨_, rfl, _, rfl, _, rfl, .ref pw, 0 + (i : Int), many, ties, rfl, Rp.mono s1 rw, wo.few, fun nl H2 ns s2 hnn hns hadj hnl => ?_⟩
      refine ⟨nl, rfl, ⟨_, SqL.of hns⟩, fun D1 hD1 => ?_⟩
      refine lcL (α := Int) (β := Int × Int) (as := ns) (fun o => decide (ht hs o < ht hs (0 + (i : Int)))) (fun o => (0 + (i : Int), o)) (SqL.of hns) hD1 (small1000 (by omega)) (paired_of_ints _) (fun v1 o H3 kF kT hm rx s3 hF hT => ⟨rfl, ?_⟩) fun H3 s3 l3 => ?_
      · obtain rfl : v1 = .int o := rx
        have ho := wo.adj ((hadj o).mp hm)
        have ha3 := s3 _ _ (s2 _ _ (s1 _ _ ha))
        refine ⟨_, rfl, _, rfl, ix_ints ha3 ho.1 (by omega) ⟨_, rfl, _, rfl, ix_ints ha3 p0 (by omega) ⟨_, _, rfl, rfl, _, rfl, ite2 (fun e => ?_) (fun e => ?_)⟩⟩⟩
        · exact ⟨_, rfl, _, rfl, le2, fun t ht' => hT e _ _ (same_upd ht') ⟨t, .int (0 + (i : Int)), .int o, rfl, upd_same, rfl, rfl⟩⟩
        · exact hF (by simpa using e) _ (Same.refl _)
      · obtain ⟨vs, hvs, prr⟩ := hL
        obtain ⟨ws, hws, prr2⟩ := l3
        have e1 := Paired.length prr
        have e2 := Paired.length prr2
        have e3 : ((ns.filter fun o => decide (ht hs o < ht hs (0 + (i : Int)))).map fun o => (0 + (i : Int), o)).length ≤ 100 := by
          rw [List.length_map]
          exact Nat.le_trans (List.length_filter_le _ _) hnl
        have s13 := s1.trans (s2.trans s3)
        have hvs3 := s3 _ _ (s2 _ _ hvs)
        have i5 : i ≤ 5 := by omega
        have hpl5 : prs.length ≤ 500 := Nat.le_trans hpl (Nat.mul_le_mul_left 100 i5)
        refine ⟨L, D1, _, _, rfl, rfl, hvs3, hws, Nat.le_of_lt (small1000 (by omega)), fun L2 hL2 => ?_⟩
        refine ⟨s13.trans (same_upd hL2), L2, _, _, rfl, s13.free hL2, ls_new hL2 (paired_app (paired_mono (tsm_of (s2.trans s3)) prr) prr2), fun p hp => ?_, ?_⟩
        · rcases List.mem_append.mp hp with e | e
          · exact hin p e
          · obtain ⟨o, ho, rfl⟩ := List.mem_map.mp e
            exact ⟨⟨p0, p1⟩, wo.adj ((hadj o).mp (List.mem_filter.mp ho).1)⟩
        · rw [List.length_append, Nat.mul_succ]
          omega
    · rintro σ H1 ⟨s1, L, prs, y3, rfl, hLn, hL, hin, hpl⟩
      have i6 : many.toNat ≤ 6 := by omega
      exact ⟨_, rfl, q L H1 prs s1 hLn hL hin (Nat.le_trans hpl (Nat.mul_le_mul_left 100 i6))⟩
theorem ca_law_after (T : Tx mg) (D : Df K mg "_law_after" s_law_after ["_law_heights_here", "_law_pair"]) : Ca P w K mg base 1 "_law_after" (sp_law_after K) := by
  refine D.ca sc_law_after (fun vs H Q E h => ?_) (fun f cdv A outer s H vs Q E hr h => ?_)
  · obtain ⟨u, z, hs, p, rfl, _⟩ := h
    rfl
  · obtain ⟨u, z, hs, p, rfl, ru, rz, hl, ⟨p0, p1⟩, ⟨o0, o1⟩, q⟩ := h
    obtain ⟨a, rfl, ha⟩ := rp_ints ru
    obtain ⟨b, rfl, hb⟩ := pr_open rz
    refine ⟨_, (pss_one (ps_ret (pe_op op_catA (pe_op op_catA (pe_slice sl_tupA (pv 0) po_none (po_some (pe_ix ix_tup (pv 1) pe_int (fun _ _ => rfl)))) (pe_tup (pa_cons (pe_ix ix_tup (pv 0) (pe_ix ix_tup (pv 1) pe_int (fun _ _ => rfl)) (fun _ _ => rfl)) pa_nil))) (pe_slice sl_tupA (pv 0) (po_some (pe_op op_add (pe_ix ix_tup (pv 1) pe_int (fun _ _ => rfl)) pe_int)) po_none)))), ?_⟩
    refine ⟨_, rfl, _, rfl, b, _, 0, .int p.1, rfl, rfl, SqT.of hb, atI_nat (j := 0) rfl, p.1, rfl, ?_⟩
    refine sl_go ha fun c H1 s1 hc => ?_
    rw [cut_to p0 (by omega)] at hc
    refine ⟨_, rfl, _, rfl, b, _, 1, .int p.2, rfl, rfl, SqT.of (s1 _ _ hb), atI_nat (j := 1) rfl, ix_ints (s1 _ _ ha) o0 (by omega) ⟨le1, fun t ht' => ?_⟩⟩
    have s2 := s1.trans (same_upd (o := .tup [.int (ht hs p.2)]) ht')
    have hc2 := same_upd (o := .tup [.int (ht hs p.2)]) ht' _ _ hc
    have l1 : (hs.take p.1.toNat).length ≤ 6 := by rw [List.length_take]; omega
    have l2 : (hs.drop (p.1 + 1).toNat).length ≤ 6 := by rw [List.length_drop]; omega
    refine catA_go hc2 upd_same (by rw [List.length_map, List.length_singleton]; omega) fun c2 H2 s3 hc2' => ?_
    have s23 := s2.trans s3
    refine ⟨_, rfl, _, rfl, b, _, 0, .int p.1, rfl, rfl, SqT.of (s23 _ _ hb), atI_nat (j := 0) rfl, _, _, rfl, rfl, _, rfl, ?_⟩
    refine tnp ?_
    refine sl_go (s23 _ _ ha) fun c3 H3 s4 hc3 => ?_
    rw [cut_from (by omega) (by omega)] at hc3
    have ec : (hs.take p.1.toNat).map V.int ++ [V.int (ht hs p.2)] = (hs.take p.1.toNat ++ [ht hs p.2]).map V.int := by rw [List.map_append]; rfl
    rw [ec] at hc2'
    refine catA_go (s4 _ _ hc2') hc3 (by rw [List.length_map, List.length_map, List.length_append, List.length_singleton]; omega) fun c4 H4 s5 hc4 => ?_
    rw [← List.map_append] at hc4
    refine q _ H4 _ ((s23.trans s4).trans s5) (ti_iff.mpr hc4) ?_ fun g hg => ?_
    · rw [List.length_append, List.length_append, List.length_singleton, List.length_take, List.length_drop]
      omega
    · rcases List.mem_append.mp hg with e | e
      · rcases List.mem_append.mp e with e | e
        · exact List.mem_of_mem_take e
        · rw [List.mem_singleton.mp e]
          exact ht_mem o0 o1
      · exact List.mem_of_mem_drop e
theorem ca_law_drawn (c_law_stoops : Ca P w K mg base 2 "_law_stoops" (sp_law_stoops K)) (c_law_pick : Ca P w K mg base 2 "_law_pick" (sp_law_pick K)) (c_law_after : Ca P w K mg base 1 "_law_after" (sp_law_after K)) (T : Tx mg)
    (D : Df K mg "_law_drawn" s_law_drawn ["_law_row", "_law_web_here", "_law_heights_here", "_law_most"]) : Ca P w K mg base 3 "_law_drawn" (sp_law_drawn K) := by
  refine D.ca sc_law_drawn (fun vs H Q E h => ?_) (fun f cdv A outer s H vs Q E hr h => ?_)
  · obtain ⟨r, S, v, u, many, most, ties, hs, rfl, _⟩ := h
    rfl
  · obtain ⟨r, S, v, u, many, most, ties, hs, rfl, R, rw, wo, ru, hl, m0, m9, q⟩ := h
    have w1 := wo.lo
    have w6 := wo.hi
    refine ⟨_, (pss_cons (ps_par (i := 5) (j := 6) rfl sc_law_drawn.nd rfl rfl (by decide) rfl rfl (pa_cons (pv 2) (pa_cons (pe_tup pa_nil) pa_nil)) (by rfl))
      (pss_cons (ps_for PassesOwn.never rfl (pi_range1 rfl T.range (pa_cons (pv 3) pa_nil)) (pg_name (i := 4) sc_law_drawn.nd rfl (Or.inl rfl))
        (pss_cons (ps_set (i := 7) sc_law_drawn.nd rfl (Or.inl rfl) (pe_ca c_law_stoops hr (by decide) (by rfl) (pa_cons (pv 1) (pa_cons (pv 5) pa_nil))))
        (pss_one (ps_if (pt_cmpR (op_neD hr.units) (pv 7) (pe_lst pa_nil) (nomark _))
          (pss_cons (ps_set (i := 8) sc_law_drawn.nd rfl (Or.inl rfl) (pe_ca c_law_pick hr (by decide) (by rfl) (pa_cons (pv 0) (pa_cons (pv 7) pa_nil))))
          (pss_one (ps_par (i := 5) (j := 6) rfl sc_law_drawn.nd rfl rfl (by decide) rfl rfl (pa_cons (pe_ca c_law_after hr (by decide) (by rfl) (pa_cons (pv 5) (pa_cons (pv 8) pa_nil))) (pa_cons (pe_op op_catA (pv 6) (pe_tup (pa_cons (pv 8) pa_nil))) pa_nil)) (by rfl))))
          pss_nil))))
      (pss_one (ps_ret (pe_tup (pa_cons (pv 6) (pa_cons (pv 5) pa_nil))))))), ?_⟩
    refine ⟨_, rfl, Nat.zero_le _, fun f0 hf0 => ⟨_, _, rfl, ?_⟩⟩
    have s0 := same_upd (o := .tup []) hf0
    refine ⟨_, rfl, most, rfl, by omega, by omega, ?_⟩
    refine for_range (lo := 0) (n := most.toNat) (fun i σ H' => Sr r H H' ∧ Row K H' r S ∧ ∃ (y : V) (gs : List Int) (fo : Addr) (xs : List V) (y4 y7 y8 : Option V), σ = [some (.ref r), some v, some u, some (.int most), y4, some y, some (.ref fo), y7, y8] ∧ Rp H' y gs ∧ gs.length = hs.length ∧ (∀ g ∈ gs, g ∈ hs) ∧ H' fo = some (.tup xs) ∧ xs.length ≤ i)
      ⟨Sr.of s0, R.same s0, u, hs, f0, [], none, none, none, rfl, Rp.mono s0 ru, rfl, fun g hg => hg, upd_same, Nat.le_refl _⟩ ?_ ?_
    · rintro i σ H1 hi ⟨s1, R1, y, gs, fo, xs, y4, y7, y8, rfl, ry, gl, gin, hfo, hxl⟩
      refine ⟨_, rfl, _, rfl, v, y, many, ties, gs, rfl, Rep.mono (tsm_sr R s1) rw, wo, ry, by omega, fun L H2 prs s2 hLn hL hin hpl => ?_⟩
      have hLne : L ≠ r := R1.ne hLn
      have R2 := R1.same s2
      refine ⟨_, rfl, Nat.zero_le _, fun t ht' => ?_⟩
      have sT := same_upd (o := .lst []) ht'
      refine ne_nilL (α := Int × Int) (xs := prs) (by decide) (hL.mono sT) upd_same ⟨_, rfl, ite2 (fun e => ?_) (fun e => ?_)⟩
      · obtain ⟨vs, hvs, pr⟩ := hL
        have e0 := Paired.length pr
        have hpos : 0 < prs.length := by
          cases prs with
          | nil => cases e
          | cons a b => exact Nat.succ_pos _
        refine ⟨_, rfl, _, rfl, r, L, S, vs, rfl, R2.same sT, .inl ⟨sT _ _ hvs, hLne⟩, by omega, by omega, fun x H3 hx s3 R3 => ?_⟩
        obtain ⟨j, hj⟩ := List.mem_iff_getElem?.mp hx
        obtain ⟨p, hp, rp⟩ := paired_at pr hj
        have rp : Rp H2 x p := rp
        have hpin := hin p (List.mem_of_getElem? hp)
        have t23 : TSm H2 H3 := fun b zs e => tsm_sr (R2.same sT) s3 b zs (sT _ _ e)
        have rp3 : Rp H3 x p := Rep.mono t23 rp
        have ry3 : Rp H3 y gs := Rep.mono t23 (Rp.mono s2 ry)
        refine ⟨_, rfl, _, rfl, y, x, gs, p, rfl, ry3, rp3, by omega, ⟨hpin.1.1, by omega⟩, ⟨hpin.2.1, by omega⟩, fun y2 H4 gs2 s4 ry4 gl2 gin2 => ?_⟩
        refine ⟨_, rfl, _, rfl, le1, fun t2 ht2 => ?_⟩
        have sT2 := same_upd (o := .tup [x]) ht2
        have hfo4 : upd H4 t2 (.tup [x]) fo = some (.tup xs) := sT2 _ _ (s4 _ _ (t23 _ _ (s2 _ _ hfo)))
        refine catA_go hfo4 upd_same (by rw [List.length_singleton]; omega) fun c H5 s5 hc => ⟨_, _, rfl, ?_⟩
        have s45 := (s4.trans sT2).trans s5
        refine ⟨((s1.trans (Sr.of (s2.trans sT))).trans s3).trans (Sr.of s45), R3.same s45, y2, gs2, c, xs ++ [x], _, _, _, rfl, Rp.mono (sT2.trans s5) ry4, by omega, fun g hg => gin g (gin2 g hg), hc, ?_⟩
        rw [List.length_append, List.length_singleton]
        omega
      · exact ⟨s1.trans (Sr.of (s2.trans sT)), R2.same sT, y, gs, fo, xs, _, _, _, rfl, Rp.mono (s2.trans sT) ry, gl, gin, sT _ _ (s2 _ _ hfo), by omega⟩
    · rintro σ H1 ⟨s1, R1, y, gs, fo, xs, y4, y7, y8, rfl, ry, gl, gin, hfo, hxl⟩
      refine ⟨_, rfl, _, rfl, le2, fun t ht' => ?_⟩
      have sT := same_upd (o := .tup [.ref fo, y]) ht'
      exact q t _ (.ref fo) y gs (s1.trans (Sr.of sT)) (R1.same sT) upd_same (Rp.mono sT ry) gl gin
theorem ca_law_goal (c_law_taken : Ca P w K mg base 1 "_law_taken" (sp_law_taken K)) (c_law_drawn : Ca P w K mg base 3 "_law_drawn" (sp_law_drawn K)) (c_law_pick : Ca P w K mg base 2 "_law_pick" (sp_law_pick K)) (T : Tx mg)
    (D : Df K mg "_law_goal" s_law_goal ["_law_row", "_law_web_here", "_law_heights_here"]) : Ca P w K mg base 4 "_law_goal" (sp_law_goal K) := by
  refine D.ca sc_law_goal (fun vs H Q E h => ?_) (fun f cdv A outer s H vs Q E hr h => ?_)
  · obtain ⟨r, S, v, u, many, ties, hs, rfl, _⟩ := h
    rfl
  · obtain ⟨r, S, v, u, many, ties, hs, rfl, R, rw, wo, ru, hl, q⟩ := h
    have w1 := wo.lo
    have w6 := wo.hi
    refine ⟨_, (pss_cons (ps_if (pt_cmpR op_gt (pe_ca c_law_taken hr (by decide) (by rfl) (pa_cons (pv 0) (pa_cons pe_int pa_nil))) pe_int (nomark _))
        (pss_one (ps_ret (pe_ix ix_tup (pe_ca c_law_drawn hr (by decide) (by rfl) (pa_cons (pv 0) (pa_cons (pv 1) (pa_cons (pv 2) (pa_cons (pe_ca c_law_taken hr (by decide) (by rfl) (pa_cons (pv 0) (pa_cons pe_int pa_nil))) pa_nil))))) pe_int (fun _ _ => rfl))))
        pss_nil)
      (pss_one (ps_ret (pe_callTy call_tuple_of (by rfl) T.tuple bo_tuple (pa_cons (pe_lc (own := [("_law_one", 3)]) (g := (gName 3)) (tt := tYes) (te := (tCall (sp_law_pick K) [] E0 (tCons (tVar 0) (tCons (tVar 2) tNil)))) rfl sc_law_goal.nd (pi_tup (pv 2)) (blkOk_by (N := ["_law_row", "_law_web_here", "_law_heights_here", "_law_one"]) (sc := (defScope s_law_goal)) (by decide +kernel)) (fun _ _ _ _ _ => (pg_name (i := 3) sc_law_goal.nd rfl (Or.inl rfl))) (fun _ _ _ _ _ => pts_nil) (fun _ _ _ _ _ => (pe_ca c_law_pick hr (by decide) (by rfl) (pa_cons (pv 0) (pa_cons (pv 2) pa_nil))))) pa_nil))))), ?_⟩
    refine ⟨_, rfl, r, S, 3, rfl, R, by decide, by decide, fun z H1 z0 z1 s1 R1 => ⟨_, _, rfl, rfl, _, rfl, ite2 (fun e => ?_) (fun e => ?_)⟩⟩
    · refine ⟨_, rfl, _, rfl, _, rfl, _, rfl, r, S, 9, rfl, R1, by decide, by decide, fun z2 H2 y0 y1 s2 R2 => ?_⟩
      have t2 : TSm H H2 := tsm_sr R (s1.trans s2)
      refine ⟨r, S, v, u, many, z2, ties, hs, rfl, R2, Rep.mono t2 rw, wo, Rep.mono t2 ru, hl, y0, by omega, fun a H3 ff y gs s3 R3 ha ry gl gin => ?_⟩
      exact ⟨a, _, 1, y, rfl, rfl, SqT.of ha, atI_nat (j := 1) rfl, q y H3 gs ((s1.trans s2).trans s3) R3 ry gl gin⟩
    · obtain ⟨a, rfl, ha⟩ := rp_ints ru
      have ha1 := tsm_sr R s1 _ _ ha
      refine ⟨_, rfl, a, rfl, ⟨_, SqT.of ha1⟩, fun D1 hD1 => ?_⟩
      have hne : D1 ≠ r := R1.ne hD1
      refine lc_tup (K := K) (a := a) (xs := hs.map V.int) (fun i H' => Sr r H1 H' ∧ Row K H' r S ∧ ∃ acc : List Int, H' D1 = some (.lst (acc.map V.int)) ∧ acc.length = i ∧ ∀ g ∈ acc, g ∈ hs)
        ⟨sr_upd hD1 (Sr.refl _ _), R1.same (same_upd hD1), [], upd_same, rfl, fun z hz => by simp at hz⟩ (fun i H' _ h => SqT.of (tsm_sr R1 h.1 _ _ ha1)) ?_ ?_
      · rintro i x H2 hx ⟨s2, R2, acc, hacc, hal, hin⟩
        have hil : i < hs.length := by
          have := (List.getElem?_eq_some_iff.mp hx).1
          rwa [List.length_map] at this
        refine ⟨rfl, tyes (iteT ?_)⟩
        refine ⟨_, rfl, _, rfl, r, a, S, hs.map V.int, rfl, R2, .inr (tsm_sr R1 s2 _ _ ha1), by rw [List.length_map]; omega, by rw [List.length_map]; omega, fun y H3 hy s3 R3 => ?_⟩
        obtain ⟨g, hg, rfl⟩ := List.mem_map.mp hy
        refine ⟨_, s3 _ _ hne hacc, small1000 (by rw [List.length_map]; omega), sr_upd hD1 (s2.trans s3), R1.upd hD1 (s2.trans s3) R3, acc ++ [g], ?_, by rw [List.length_append, List.length_singleton, hal], fun z hz => ?_⟩
        · rw [upd_same, List.map_append]
          rfl
        · rcases List.mem_append.mp hz with e | e
          · exact hin z e
          · rw [List.mem_singleton.mp e]
            exact hg
      · rintro H2 ⟨s2, R2, acc, hacc, hal, hin⟩
        refine ⟨D1, _, rfl, .inl ⟨SqL.of hacc, fun p hp => ?_⟩⟩
        rw [List.length_map] at hal
        exact q _ _ acc ((s1.trans s2).trans (Sr.of (same_upd hp))) (R2.same (same_upd hp)) (rp_new hp (paired_of_ints _)) hal hin
end
end Sto

/-! text: S3d -/
set_option Elab.async false
set_option linter.all false
set_option maxRecDepth 100000
set_option maxHeartbeats 4000000
/-! _law_parts, _law_comes, _law_alike -/
namespace Sto
open PySem PySem.Spec PyProof.Rows L2 StX
def sp_law_parts (_ : PySem.W.Frag) : Sp := fun vs H Q _ => ∃ (v : V) (l : Addr) (many : Int) (ties : List (Int × Int)) (lot : List Int), vs = [v, .ref l] ∧ Wb H v many ties ∧ ties.length ≤ 100 ∧ H l = some (.tup (lot.map V.int)) ∧ lot.length ≤ 100 ∧
  ∀ a H' (L : List (List Int)), Same H H' → H a = none → Ls H' a L → PartsOk ties lot L → L.length ≤ lot.length → (∀ part ∈ L, part.length ≤ lot.length + 1) → Q (.ref a) H'
def sp_law_comes (_ : PySem.W.Frag) : Sp := fun vs H Q _ => ∃ (v u z : V) (many : Int) (ties : List (Int × Int)) (hs gs : List Int), vs = [v, u, z] ∧ Whg H v u z many ties hs gs ∧
  ∀ H', Same H H' → Q (.bl (tf (Comes ties hs gs))) H'
def sp_law_alike (_ : PySem.W.Frag) : Sp := fun vs H Q _ => ∃ a : Int, vs = [.int a, .int a] ∧ ∀ H', Same H H' → Q (.bl true) H'
def sp_law_alikeT (_ : PySem.W.Frag) : Sp := fun vs H Q _ => ∃ (u v : V) (xs : List Int), vs = [u, v] ∧ Rp H u xs ∧ Rp H v xs ∧ xs.length ≤ 1000 ∧ ∀ H', Same H H' → Q (.bl true) H'
/-- where the parts' loop stands -/
structure PInv (ties : List (Int × Int)) (lot left : List Int) (L : List (List Int)) : Prop where
  sub : ∀ x ∈ left, x ∈ lot
  clo : ∀ t ∈ ties, t.1 ∈ lot → t.2 ∈ lot → (t.1 ∈ left ↔ t.2 ∈ left)
  prt : ∀ part ∈ L, ∃ p ∈ lot, ∀ x, x ∈ part ↔ Reach ties lot p x
  all : ∀ x ∈ lot, x ∈ left ∨ ∃ part ∈ L, x ∈ part
  num : L.length + left.length ≤ lot.length
  len : ∀ part ∈ L, part.length ≤ lot.length + 1
theorem PInv.start {ties : List (Int × Int)} {lot : List Int} : PInv ties lot lot [] := ⟨fun x h => h, fun t _ h1 h2 => ⟨fun _ => h2, fun _ => h1⟩, fun p h => by simp at h, fun x h => .inl h, by simp, fun p h => by simp at h⟩
theorem PInv.fin {ties : List (Int × Int)} {lot : List Int} {L : List (List Int)} (h : PInv ties lot [] L) : PartsOk ties lot L := ⟨h.prt, fun x hx => (h.all x hx).elim (fun z => by simp at z) id⟩
theorem SInv.len {ties : List (Int × Int)} {lot sm : List Int} {p : Int} (h : SInv ties lot p sm) : sm.length ≤ lot.length + 1 := by
  have := nodup_len (m := p :: lot) h.nd fun x hx => by
    rcases (h.rch x hx).mem with e | e
    · rw [e]
      exact List.mem_cons_self
    · exact List.mem_cons_of_mem _ e
  simpa using this
theorem PInv.next {ties : List (Int × Int)} {lot rest : List Int} {L : List (List Int)} {p : Int} {sf part : List Int} (h : PInv ties lot (p :: rest) L) (hs : ∀ x, x ∈ sf ↔ Reach ties lot p x) (hp : ∀ x, x ∈ part ↔ x ∈ sf) (hl : part.length ≤ lot.length + 1) :
    PInv ties lot ((p :: rest).filter fun x => !decide (x ∈ sf)) (L ++ [part]) ∧ ((p :: rest).filter fun x => !decide (x ∈ sf)).length ≤ rest.length := by
  have hps : p ∈ sf := (hs p).mpr .refl
  have hpl : p ∈ lot := h.sub p List.mem_cons_self
  have mf : ∀ x, x ∈ ((p :: rest).filter fun x => !decide (x ∈ sf)) ↔ x ∈ (p :: rest).filter fun x => decide (x ∉ sf) := fun x => by simp
  have hlen : ((p :: rest).filter fun x => !decide (x ∈ sf)).length ≤ rest.length := by
    rw [List.filter_cons_of_neg (by simp [hps])]
    exact List.length_filter_le _ _
  refine ⟨⟨fun x hx => h.sub x (List.mem_filter.mp hx).1, fun t ht m1 m2 => ?_, fun q hq => ?_, fun x hx => ?_, ?_, fun q hq => ?_⟩, hlen⟩
  · rw [mf, mf]
    exact left_next (List.mem_cons_self (a := p) (l := rest)) h.sub h.clo hs t ht m1 m2
  · rcases List.mem_append.mp hq with e | e
    · exact h.prt q e
    · rw [List.mem_singleton.mp e]
      exact ⟨p, hpl, fun x => by rw [hp, hs]⟩
  · rcases h.all x hx with e | ⟨q, hq, e⟩
    · by_cases z : x ∈ sf
      · exact .inr ⟨part, by simp, (hp x).mpr z⟩
      · exact .inl (List.mem_filter.mpr ⟨e, by simp [z]⟩)
    · exact .inr ⟨q, List.mem_append_left _ hq, e⟩
  · have := h.num
    rw [List.length_append, List.length_singleton]
    rw [List.length_cons] at this
    omega
  · rcases List.mem_append.mp hq with e | e
    · exact h.len q e
    · rw [List.mem_singleton.mp e]
      exact hl
theorem scal_bl (a b : Bool) : scal (.bl a) (.bl b) = true := rfl
theorem dec_bl {a b : Bool} : decide (V.bl a = V.bl b) = decide (a = b) := by
  cases a <;> cases b <;> rfl
theorem sc_law_parts : FnScope ["_law_web_here", "_law_lot", "_law_found", "_law_left", "_law_some", "_law_turn", "_law_one", "_law_other", "_law_person"] ["_law_web_here", "_law_lot"] (defScope s_law_parts) := ⟨rfl, rfl, rfl, by decide +kernel, rfl, by decide +kernel, by decide +kernel⟩
theorem sc_law_comes : FnScope ["_law_web_here", "_law_heights_here", "_law_goal_here", "_law_person", "_law_some", "_law_part", "_law_one"] ["_law_web_here", "_law_heights_here", "_law_goal_here"] (defScope s_law_comes) := ⟨rfl, rfl, rfl, by decide +kernel, rfl, by decide +kernel, by decide +kernel⟩
theorem sc_law_alike : FnScope ["_law_found", "_law_due", "_law_k"] ["_law_found", "_law_due"] (defScope s_law_alike) := ⟨rfl, rfl, rfl, by decide +kernel, rfl, by decide +kernel, by decide +kernel⟩
section
variable {P : Program} {w : World} {K : PySem.W.Frag} {mg : Str → Option Value} {base : Heap}
set_option maxHeartbeats 8000000 in
theorem ca_law_parts (T : Tx mg) (D : Df K mg "_law_parts" s_law_parts ["_law_web_here", "_law_lot"]) : Ca P w K mg base 1 "_law_parts" (sp_law_parts K) := by
  refine D.ca sc_law_parts (fun vs H Q E h => ?_) (fun f cdv A outer s H vs Q E hr h => ?_)
  · obtain ⟨v, l, many, ties, lot, rfl, _⟩ := h
    rfl
  · obtain ⟨v, l, many, ties, lot, rfl, rw, hz, hlot, hlz, q⟩ := h
    have rw' := rw
    obtain ⟨pw, pt, ts, rfl, hw, hpt, pr⟩ := wb_open rw'
    refine ⟨_, (pss_cons (ps_par (i := 2) (j := 3) rfl sc_law_parts.nd rfl rfl (by decide) rfl rfl (pa_cons (pe_lst pa_nil) (pa_cons (pe_callTy call_list_of (by rfl) T.list bo_list (pa_cons (pv 1) pa_nil)) pa_nil)) (by rfl))
      (pss_cons (ps_while PassesOwn.never (pt_cmpR (op_neD hr.units) (pv 3) (pe_lst pa_nil) (nomark _))
        (pss_cons (ps_set (i := 4) sc_law_parts.nd rfl (Or.inr rfl) (pe_lst (pa_cons (pe_ix ix_list (pv 3) pe_int (fun _ _ => rfl)) pa_nil)))
        (pss_cons (ps_for PassesOwn.never rfl (pi_range1 rfl T.range (pa_cons (pe_callB call_len_seq (by rfl) T.len bo_len (pa_cons (pv 3) pa_nil)) pa_nil)) (pg_name (i := 5) sc_law_parts.nd rfl (Or.inl rfl))
          (pss_one (ps_for PassesOwn.never rfl (pi_tup (pe_ix ix_tup (pv 0) pe_int (fun _ _ => rfl))) (pg_tup rfl (pgs_cons (pg_name (i := 6) sc_law_parts.nd rfl (Or.inl rfl)) (pgs_cons (pg_name (i := 7) sc_law_parts.nd rfl (Or.inl rfl)) pgs_nil)))
            (pss_one (ps_if (PW.pt (pw_and (pt_cmpR op_in_seq (pv 6) (pv 1) (by rfl)) (pw_and (pt_cmpR op_in_seq (pv 7) (pv 1) (by rfl)) (pw_and1 (pt_cmpR op_ne (pe_cmpR op_in_seq (pv 6) (pv 4) (by rfl)) (pe_cmpR op_in_seq (pv 7) (pv 4) (by rfl)) (nomark _))))))
              (pss_one (ps_set (i := 4) sc_law_parts.nd rfl (Or.inr rfl) (pe_op op_cat (pv 4) (pe_lst (pa_cons (pe_ifExp (pt_cmpR op_in_seq (pv 6) (pv 4) (by rfl)) (pv 7) (pv 6)) pa_nil)))))
              pss_nil)))))
        (pss_cons (ps_expr (pe_bm PySem.F.plainAttrs_list PySem.F.slot_list_append PySem.F.type_list_append mt_append (pv 2) (pa_cons (pe_callTy call_tuple_of (by rfl) T.tuple bo_tuple (pa_cons (pe_callB cr_sortedI (by rfl) T.sorted bo_sorted (pa_cons (pv 4) pa_nil)) pa_nil)) pa_nil)))
        (pss_one (ps_setLc (i := 3) (own := [("_law_person", 8)]) (g := (gName 8)) (tt := (tTest (tOp (rIn K true) (tVar 8) (tVar 4)))) (te := (tVar 8)) rfl sc_law_parts.nd rfl rfl (sw_true rfl rfl rfl (by decide +kernel)) (pi_list (pv 3)) (blkOk_by (N := ["_law_web_here", "_law_lot", "_law_found", "_law_left", "_law_some", "_law_turn", "_law_one", "_law_other", "_law_person"]) (sc := (defScope s_law_parts)) (by decide +kernel)) (fun _ _ _ _ _ => (pg_name (i := 8) sc_law_parts.nd rfl (Or.inl rfl))) (fun _ _ _ _ _ => (pts_one (pt_cmpR op_notIn_seq (pv 8) (pv 4) (by rfl)))) (fun _ _ _ _ _ => (pv 8))))))))
      (pss_one (ps_ret (pv 2))))), ?_⟩
    refine ⟨Nat.zero_le _, fun F hF => ?_⟩
    have sF := same_upd (o := .lst []) hF
    refine ⟨_, rfl, l, _, rfl, .inr (SqT.of (sF _ _ hlot)), fun l0 hl0 => ⟨_, _, rfl, ?_⟩⟩
    have s0 := sF.trans (same_upd (o := .lst (lot.map V.int)) hl0)
    have ne0 : F ≠ l0 := fun z => by rw [← z, upd_same] at hl0; cases hl0
    refine ⟨fun m σ H' => Same H H' ∧ ∃ (L : List (List Int)) (left : List Int) (lf : Addr) (y4 y5 y6 y7 : Option V), σ = [some (.ref pw), some (.ref l), some (.ref F), some (.ref lf), y4, y5, y6, y7, none] ∧ Ls H' F L ∧ H' lf = some (.lst (left.map V.int)) ∧ F ≠ lf ∧ PInv ties lot left L ∧ left.length ≤ m,
      ⟨_, s0, [], lot, l0, none, none, none, none, rfl, ⟨[], by rw [upd_ne ne0, upd_same], .nil⟩, upd_same, ne0, PInv.start, Nat.le_refl _⟩, ?_⟩
    rintro m σ H1 ⟨s1, L, left, lf, y4, y5, y6, y7, rfl, hL, hlf, ne1, I, hm⟩
    refine ⟨_, rfl, Nat.zero_le _, fun t htn => ?_⟩
    have sT := same_upd (o := .lst []) htn
    refine ne_nilL (α := Int) (xs := left) (by decide) (ls_ints.mpr (sT _ _ hlf)) upd_same ⟨_, rfl, ite2 (fun e => ?_) (fun e => ?_)⟩
    · obtain ⟨p, rest, rfl⟩ : ∃ p rest, left = p :: rest := by
        cases left with
        | nil => cases e
        | cons a b => exact ⟨a, b, rfl⟩
      have hnum := I.num
      rw [List.length_cons] at hm hnum
      refine ⟨fun σ' H2 => Same H H2 ∧ ∃ (L : List (List Int)) (left : List Int) (lf : Addr) (y4 y5 y6 y7 : Option V), σ' = [some (.ref pw), some (.ref l), some (.ref F), some (.ref lf), y4, y5, y6, y7, none] ∧ Ls H2 F L ∧ H2 lf = some (.lst (left.map V.int)) ∧ F ≠ lf ∧ PInv ties lot left L ∧ left.length < m, ?_, ?_⟩
      · rintro σ' H2 ⟨sm, L, left, lf, y4, y5, y6, y7, e1, e2, e3, e4, e5, hlt⟩
        exact ⟨_, hlt, sm, L, left, lf, y4, y5, y6, y7, e1, e2, e3, e4, e5, Nat.le_refl _⟩
      have hlf1 := sT _ _ hlf
      refine ⟨_, rfl, lf, _, 0, .int p, rfl, rfl, SqL.of hlf1, atI_nat (j := 0) rfl, le1, fun s0a hs0a => ?_⟩
      have sS := sT.trans (same_upd (o := .lst [.int p]) hs0a)
      have hlf2 := sS _ _ hlf
      refine ⟨_, rfl, lf, _, rfl, .inl (SqL.of hlf2), _, rfl, by omega, by rw [List.length_map, List.length_cons]; omega, ?_⟩
      obtain ⟨Hs, eHs⟩ : ∃ Hs, Hs = upd (upd H1 t (.lst [])) s0a (.lst [.int p]) := ⟨_, rfl⟩
      have s0v : Hs s0a = some (.lst ((sweeps lot ties [p] 0).map V.int)) := by rw [eHs, upd_same]; rfl
      rw [← eHs] at sS hlf2 ⊢
      have sHs := s1.trans sS
      have S0 : SInv ties lot p [p] := SInv.start
      refine for_range (lo := 0) (n := (((List.map V.int (p :: rest)).length : Int)).toNat) (fun i σ H2 => Same Hs H2 ∧ ∃ (so : Addr) (y5 y6 y7 : Option V), σ = [some (.ref pw), some (.ref l), some (.ref F), some (.ref lf), some (.ref so), y5, y6, y7, none] ∧ H2 so = some (.lst ((sweeps lot ties [p] i).map V.int)))
        ⟨Same.refl _, s0a, y5, y6, y7, rfl, s0v⟩ ?_ ?_
      · rintro i σ H2 hi ⟨s2, so, y5, y6, y7, rfl, hso⟩
        have s02 := sHs.trans s2
        refine ⟨_, rfl, pw, _, 1, .ref pt, rfl, rfl, SqT.of (s02 _ _ hw), atI_nat (j := 1) rfl, pt, rfl, ⟨_, SqT.of (s02 _ _ hpt)⟩, ?_⟩
        refine for_tup (K := K) (a := pt) (xs := ts) (fun j σ H3 => Same Hs H3 ∧ ∃ (so : Addr) (y5 y6 y7 : Option V), σ = [some (.ref pw), some (.ref l), some (.ref F), some (.ref lf), some (.ref so), y5, y6, y7, none] ∧ H3 so = some (.lst (((ties.take j).foldl (sw1 lot) (sweeps lot ties [p] i)).map V.int)))
          ⟨s2, so, _, y6, y7, rfl, hso⟩ (fun j σ H3 _ h => SqT.of ((sHs.trans h.1) _ _ hpt)) ?_ ?_
        · rintro j x σ H3 hx ⟨s3, so, y5, y6, y7, rfl, hso⟩
          obtain ⟨tie, htie, rx⟩ := paired_at pr hx
          have s03 := sHs.trans s3
          obtain ⟨ta, rfl, hta⟩ := pr_open (Rp.mono s03 rx)
          have et : ties.take (j + 1) = ties.take j ++ [tie] := by rw [List.take_add_one, htie]; rfl
          obtain ⟨cur, ecur⟩ : ∃ cur, cur = (ties.take j).foldl (sw1 lot) (sweeps lot ties [p] i) := ⟨_, rfl⟩
          have ef : (ties.take (j + 1)).foldl (sw1 lot) (sweeps lot ties [p] i) = sw1 lot cur tie := by rw [et, List.foldl_append, ← ecur]; rfl
          rw [← ecur] at hso
          have hcl : cur.length ≤ lot.length + 1 := by
            rw [ecur]
            exact ((S0.sweeps i).fold _ fun u hu => List.mem_of_mem_take hu).len
          have hl3 := s03 _ _ hlot
          refine ⟨ta, _, rfl, SqT.of hta, rfl, _, _, rfl, _, _, rfl, rfl, ?_⟩
          refine ⟨_, rfl, _, rfl, in_ints (sq_tup hl3) ⟨_, rfl, ite2 (fun k1 => ?_) (fun k1 => ?_)⟩⟩
          · have k1 := of_decide_eq_true k1
            refine ⟨_, rfl, _, rfl, in_ints (sq_tup hl3) ⟨_, rfl, ite2 (fun k2 => ?_) (fun k2 => ?_)⟩⟩
            · have k2 := of_decide_eq_true k2
              refine ⟨_, rfl, _, rfl, in_ints (sq_lst hso) ⟨_, rfl, _, rfl, in_ints (sq_lst hso) ⟨scal_bl _ _, _, rfl, ?_⟩⟩⟩
              rw [dec_bl]
              refine ite2 (fun k3 => ?_) (fun k3 => ?_)
              · have k3 : ¬ (decide (tie.1 ∈ cur) = decide (tie.2 ∈ cur)) := by
                  intro z
                  rw [decide_eq_true z] at k3
                  cases k3
                have es : sw1 lot cur tie = cur ++ [if tie.1 ∈ cur then tie.2 else tie.1] := if_pos ⟨k1, k2, k3⟩
                refine ⟨_, rfl, _, rfl, _, rfl, in_ints (sq_lst hso) ⟨_, rfl, ite2 (fun k4 => ?_) (fun k4 => ?_)⟩⟩
                · have k4 := of_decide_eq_true k4
                  exact ⟨_, rfl, le1, fun n hn => ⟨so, n, _, _, rfl, rfl, same_upd hn _ _ hso, upd_same, Nat.le_of_lt (small1000 (by rw [List.length_map, List.length_singleton]; omega)), fun p2 hp2 => ⟨(s3.trans (same_upd hn)).trans (same_upd hp2), p2, _, _, _, rfl, by rw [ef, es, if_pos k4, upd_same, List.map_append]; rfl⟩⟩⟩
                · have k4 : ¬ tie.1 ∈ cur := fun z => k4 (decide_eq_true z)
                  exact ⟨_, rfl, le1, fun n hn => ⟨so, n, _, _, rfl, rfl, same_upd hn _ _ hso, upd_same, Nat.le_of_lt (small1000 (by rw [List.length_map, List.length_singleton]; omega)), fun p2 hp2 => ⟨(s3.trans (same_upd hn)).trans (same_upd hp2), p2, _, _, _, rfl, by rw [ef, es, if_neg k4, upd_same, List.map_append]; rfl⟩⟩⟩
              · have k3 : decide (tie.1 ∈ cur) = decide (tie.2 ∈ cur) := by
                  by_cases z : decide (tie.1 ∈ cur) = decide (tie.2 ∈ cur)
                  · exact z
                  · exact absurd (by rw [decide_eq_false z]; rfl) k3
                have es : sw1 lot cur tie = cur := if_neg fun z => z.2.2 k3
                exact ⟨s3, so, y5, _, _, rfl, by rw [ef, es]; exact hso⟩
            · have es : sw1 lot cur tie = cur := if_neg fun z => k2 (decide_eq_true z.2.1)
              exact iteF ⟨s3, so, y5, _, _, rfl, by rw [ef, es]; exact hso⟩
          · have es : sw1 lot cur tie = cur := if_neg fun z => k1 (decide_eq_true z.1)
            exact iteF ⟨s3, so, y5, _, _, rfl, by rw [ef, es]; exact hso⟩
        · rintro σ H3 ⟨s3, so, y5, y6, y7, rfl, hso⟩
          have hlen : ts.length = ties.length := Paired.length pr
          rw [hlen, List.take_length] at hso
          exact ⟨s3, so, y5, y6, y7, rfl, hso⟩
      · rintro σ H3 ⟨s3, so, y5, y6, y7, rfl, hso⟩
        have en : (((List.map V.int (p :: rest)).length : Int)).toNat = (p :: rest).length := by rw [List.length_map, Int.toNat_natCast]
        rw [en] at hso
        obtain ⟨sf, esf⟩ : ∃ sf, sf = sweeps lot ties [p] (p :: rest).length := ⟨_, rfl⟩
        rw [← esf] at hso
        have hsf : ∀ x, x ∈ sf ↔ Reach ties lot p x := fun x => by
          rw [esf]
          exact sweeps_fin (List.mem_cons_self (a := p) (l := rest)) I.sub I.clo x
        have hsl : sf.length ≤ lot.length + 1 := by
          rw [esf]
          exact (S0.sweeps _).len
        have hps : p ∈ sf := (hsf p).mpr .refl
        have s13 := sS.trans s3
        obtain ⟨vs, hvs, prL⟩ := hL
        have hF3 := s13 _ _ hvs
        have hneF : so ≠ F := fun z => by
          rw [z, hF3] at hso
          injection hso with hso
          injection hso with hso
          cases sf with
          | nil => simp at hps
          | cons a sf' =>
            rw [hso] at prL
            cases prL with
            | cons h1 h2 =>
              obtain ⟨_, _, z, _⟩ := h1
              cases z
        have hvl := Paired.length prL
        refine ⟨_, rfl, .inl ⟨rfl, _, SqL.of hF3⟩, _, rfl, so, sf, rfl, SqL.of hso, fun ns' u hp hpw hu => ?_⟩
        refine ⟨u, _, rfl, .inl ⟨SqL.of upd_same, fun t2 ht2 => ?_⟩⟩
        have s35 := (same_upd (o := .lst (ns'.map V.int)) hu).trans (same_upd (o := .tup (ns'.map V.int)) ht2)
        have hF5 := s35 _ _ hF3
        refine ⟨F, _, _, rfl, rfl, hF5, small1000 (by omega), ?_⟩
        obtain ⟨H6, e6⟩ : ∃ H6, H6 = upd (upd (upd H3 u (.lst (ns'.map V.int))) t2 (.tup (ns'.map V.int))) F (.lst (vs ++ [.ref t2])) := ⟨_, rfl⟩
        have t6 : TSm H1 H6 := by
          rw [e6]
          exact (tsm_of (s13.trans s35)).trans (tsm_upd hF5)
        have hlf6 : H6 lf = some (.lst ((p :: rest).map V.int)) := by
          rw [e6, upd_ne (Ne.symm ne1)]
          exact s35 _ _ (s3 _ _ hlf2)
        have hso6 : H6 so = some (.lst (sf.map V.int)) := by
          rw [e6, upd_ne hneF]
          exact s35 _ _ hso
        have hF6 : H6 F = some (.lst (vs ++ [.ref t2])) := by rw [e6, upd_same]
        have ht6 : H6 t2 = some (.tup (ns'.map V.int)) := by
          rw [e6]
          exact tsm_upd hF5 _ _ upd_same
        have s6 : Same H H6 := by
          rw [e6]
          exact same_lst hF ((s1.trans s13).trans s35)
        rw [← e6]
        refine ⟨_, rfl, lf, rfl, ⟨_, SqL.of hlf6⟩, fun D1 hD1 => ?_⟩
        refine lcL (α := Int) (β := Int) (as := p :: rest) (fun x => !decide (x ∈ sf)) (fun x => x) (SqL.of hlf6) hD1 (small1000 (by rw [List.length_cons]; omega)) (paired_of_ints _) (fun v1 x H7 kF kT hm rx s7 hF' hT => ⟨rfl, ?_⟩) fun H7 s7 l7 => ?_
        · obtain rfl : v1 = .int x := rx
          exact ⟨_, rfl, _, rfl, notin_ints (sq_lst (s7 _ _ hso6)) ⟨_, rfl, ite2 (fun e => ⟨_, rfl, hT e _ _ (Same.refl _) rfl⟩) fun e => hF' (by simpa using e) _ (Same.refl _)⟩⟩
        · rw [List.map_id'] at l7
          have l7 := ls_ints.mp l7
          obtain ⟨I2, hlt⟩ := I.next hsf (fun x => hp.mem_iff) (by rw [hp.length_eq]; exact hsl)
          refine ⟨s6.trans s7, L ++ [ns'], _, D1, _, _, _, _, rfl, ⟨_, s7 _ _ hF6, paired_app (paired_mono (t6.trans (tsm_of s7)) prL) (.cons (ti_iff.mpr (s7 _ _ ht6)) .nil)⟩, l7, ?_, I2, by omega⟩
          exact fun z => by rw [← z, hF6] at hD1; cases hD1
    · have e : left = [] := by
        cases left with
        | nil => rfl
        | cons a b => exact absurd rfl e
      subst e
      exact ⟨_, rfl, q F _ L (s1.trans sT) hF (hL.mono sT) I.fin (by have := I.num; simpa using this) I.len⟩
theorem ca_law_comes (c_law_open : Ca P w K mg base 1 "_law_open" (sp_law_open K)) (c_law_parts : Ca P w K mg base 1 "_law_parts" (sp_law_parts K)) (T : Tx mg) (D : Df K mg "_law_comes" s_law_comes ["_law_web_here", "_law_heights_here", "_law_goal_here"]) : Ca P w K mg base 2 "_law_comes" (sp_law_comes K) := by
  refine D.ca sc_law_comes (fun vs H Q E h => ?_) (fun f cdv A outer s H vs Q E hr h => ?_)
  · obtain ⟨v, u, z, many, ties, hs, gs, rfl, _⟩ := h
    rfl
  · obtain ⟨v, u, z, many, ties, hs, gs, rfl, W, q⟩ := h
    have W' := W
    obtain ⟨rw, hz, ru, rz, hh, hg, m1, m6⟩ := W'
    obtain ⟨a, rfl, ha⟩ := rp_ints ru
    obtain ⟨b, rfl, hb⟩ := rp_ints rz
    have rw' := rw
    obtain ⟨pw, pt, ts, rfl, hw, hpt, pr⟩ := wb_open rw'
    refine ⟨_, (pss_cons (ps_for PassesOwn.never rfl (pi_range1 rfl T.range (pa_cons (pe_ix ix_tup (pv 0) pe_int (fun _ _ => rfl)) pa_nil)) (pg_name (i := 3) sc_law_comes.nd rfl (Or.inr rfl))
        (pss_cons (ps_setLc (i := 4) (own := [("_law_part", 5)]) (g := (gName 5)) (tt := (tTest (tOp (rIn K false) (tVar 3) (tVar 5)))) (te := (tVar 5)) rfl sc_law_comes.nd rfl rfl (sw_true rfl rfl rfl (by decide +kernel)) (pi_list (pe_ca c_law_parts hr (by decide) (by rfl) (pa_cons (pv 0) (pa_cons (pe_ca c_law_open hr (by decide) (by rfl) (pa_cons (pv 1) (pa_cons (pv 2) (pa_cons (pe_ix ix_tup (pv 2) (pv 3) (fun _ _ => rfl)) pa_nil)))) pa_nil)))) (blkOk_by (N := ["_law_web_here", "_law_heights_here", "_law_goal_here", "_law_person", "_law_some", "_law_part", "_law_one"]) (sc := (defScope s_law_comes)) (by decide +kernel)) (fun _ _ _ _ _ => (pg_name (i := 5) sc_law_comes.nd rfl (Or.inl rfl))) (fun _ _ _ _ _ => (pts_one (pt_cmpR op_in_seq (pv 3) (pv 5) (by rfl)))) (fun _ _ _ _ _ => (pv 5)))
        (pss_one (ps_if (PW.pt (pw_or (pt_cmpR (op_eqD hr.units) (pv 4) (pe_lst pa_nil) (nomark _)) (pw_or1 (pt_cmpR (op_eqD hr.units) (pe_lc (own := [("_law_one", 6)]) (g := (gName 6)) (tt := (tTest (tOp rEq (tOp (rIxT K) (tVar 1) (tVar 6)) (tOp (rIxT K) (tVar 2) (tVar 3))))) (te := (tVar 6)) rfl sc_law_comes.nd (pi_tup (pe_ix ix_list (pv 4) pe_int (fun _ _ => rfl))) (blkOk_by (N := ["_law_web_here", "_law_heights_here", "_law_goal_here", "_law_person", "_law_some", "_law_part", "_law_one"]) (sc := (defScope s_law_comes)) (by decide +kernel)) (fun _ _ _ _ _ => (pg_name (i := 6) sc_law_comes.nd rfl (Or.inl rfl))) (fun _ _ _ _ _ => (pts_one (pt_cmpR op_eq (pe_ix ix_tup (pv 1) (pv 6) (fun _ _ => rfl)) (pe_ix ix_tup (pv 2) (pv 3) (fun _ _ => rfl)) (nomark _)))) (fun _ _ _ _ _ => (pv 6))) (pe_lst pa_nil) (nomark _)))))
          (pss_one (ps_ret pe_bl))
          pss_nil))))
      (pss_one (ps_ret pe_bl))), ?_⟩
    refine ⟨_, rfl, pw, _, 0, .int many, rfl, rfl, SqT.of hw, atI_nat (j := 0) rfl, many, rfl, by omega, by omega, ?_⟩
    refine for_range (lo := 0) (n := many.toNat) (fun i σ H' => Same H H' ∧ (∃ y3 y4 : Option V, σ = [some (.ref pw), some (.ref a), some (.ref b), y3, y4, none, none]) ∧ ∀ p : Int, 0 ≤ p → p < (i : Int) → Src ties hs gs p)
      ⟨Same.refl _, ⟨none, none, rfl⟩, fun p h0 h1 => absurd h1 (by omega)⟩ ?_ ?_
    · rintro i σ H1 hi ⟨s1, ⟨y3, y4, rfl⟩, hall⟩
      obtain ⟨p, ep⟩ : ∃ p : Int, p = 0 + (i : Int) := ⟨_, rfl⟩
      rw [← ep]
      have p0 : 0 ≤ p := by omega
      have p1 : p < many := by omega
      have nofin : ∀ H', Same H H' → ¬ Src ties hs gs p → Q (.bl false) H' := fun H' s n => by
        have := q H' s
        rw [show tf (Comes ties hs gs) = false from by rw [← Bool.not_eq_true, tf_iff]; exact fun C => n (C p p0 (by omega))] at this
        exact this
      refine ⟨_, rfl, _, rfl, _, rfl, _, rfl, _, rfl, ix_ints (s1 _ _ hb) p0 (by omega) ?_⟩
      refine ⟨.ref a, .ref b, hs, gs, ht gs p, rfl, Rp.mono s1 ru, Rp.mono s1 rz, by omega, by omega, fun lo H2 s2 rlo => ?_⟩
      have hol := opn_len hs gs (ht gs p)
      have s12 := s1.trans s2
      refine ⟨.ref pw, lo, many, ties, _, rfl, Rp.mono s12 rw, hz, ti_iff.mp rlo, by omega, fun pl H3 L s3 hnp hpl po hLl hLp => ?_⟩
      obtain ⟨vs, hvs, prL⟩ := hpl
      have s13 := s12.trans s3
      refine ⟨pl, rfl, ⟨_, SqL.of hvs⟩, fun D1 hD1 => ?_⟩
      refine lcL (α := List Int) (β := List Int) (as := L) (fun part => decide (p ∈ part)) (fun x => x) (SqL.of hvs) hD1 (small1000 (by omega)) prL (fun v1 part H4 kF kT hm rx s4 hF hT => ⟨rfl, ?_⟩) fun H4 s4 l4 => ?_
      · obtain ⟨t, rfl, ht'⟩ := rp_ints rx
        exact ⟨_, rfl, _, rfl, in_ints (sq_tup ht') ⟨_, rfl, ite2 (fun e => ⟨_, rfl, hT e _ _ (Same.refl _) (ti_iff.mpr ht')⟩) fun e => hF (by simpa using e) _ (Same.refl _)⟩⟩
      rw [List.map_id'] at l4
      have s14 := s13.trans s4
      refine ⟨_, rfl, Nat.zero_le _, fun t htn => ?_⟩
      have sT := same_upd (o := .lst []) htn
      have l4' := l4.mono sT
      refine eq_nilL (α := List Int) (xs := L.filter fun part => decide (p ∈ part)) (by decide) l4' upd_same ⟨_, rfl, ite2 (fun e => ?_) (fun e => ?_)⟩
      · refine iteT (nofin _ (s14.trans sT) fun S => ?_)
        obtain ⟨part, h1, h2⟩ := po.2 p S.1
        have : part ∈ L.filter fun part => decide (p ∈ part) := List.mem_filter.mpr ⟨h1, decide_eq_true h2⟩
        rw [List.isEmpty_iff.mp e] at this
        simp at this
      · obtain ⟨part, rest, efl⟩ : ∃ part rest, (L.filter fun part => decide (p ∈ part)) = part :: rest := by
          cases h : L.filter fun part => decide (p ∈ part) with
          | nil => exact absurd (by rw [h]; rfl) e
          | cons a b => exact ⟨a, b, rfl⟩
        have hmem : part ∈ L.filter fun part => decide (p ∈ part) := by rw [efl]; exact List.mem_cons_self
        obtain ⟨k1, k2⟩ := List.mem_filter.mp hmem
        have k2 := of_decide_eq_true k2
        have hpo := po.lot k1 k2
        have hx := po.of k1 k2
        have hpl := hLp part k1
        rw [efl] at l4'
        obtain ⟨ws, hws, prw⟩ := l4'
        obtain ⟨v0, hv0, rv0⟩ := paired_at2 (i := 0) prw (y := part) rfl
        obtain ⟨tp, rfl, htp⟩ := rp_ints (show Rp _ v0 part from rv0)
        refine ⟨_, rfl, D1, ws, 0, .ref tp, rfl, rfl, SqL.of hws, atI_nat (j := 0) hv0, tp, rfl, ⟨_, SqT.of htp⟩, fun D2 hD2 => ?_⟩
        refine lcT (α := Int) (β := Int) (as := part) (fun x => decide (ht hs x = ht gs p)) (fun x => x) (SqT.of htp) hD2 (small1000 (by omega)) (paired_of_ints _) (fun v1 x H5 kF kT hm rx s5 hF hT => ⟨rfl, ?_⟩) fun H5 s5 l5 => ?_
        · obtain rfl : v1 = .int x := rx
          obtain ⟨x0, x1⟩ := reach_opn hpo ((hx x).mp hm)
          have s15 := (s14.trans sT).trans s5
          refine ⟨_, rfl, _, rfl, ix_ints (s15 _ _ ha) x0 x1 ⟨_, rfl, _, rfl, ix_ints (s15 _ _ hb) p0 (by omega) ⟨rfl, _, rfl, ?_⟩⟩⟩
          rw [dec_int]
          exact ite2 (fun e => ⟨_, rfl, hT (by simpa using e) _ _ (Same.refl _) rfl⟩) fun e => hF (by simpa using e) _ (Same.refl _)
        rw [List.map_id'] at l5
        refine ⟨Nat.zero_le _, fun t2 ht2 => ?_⟩
        have sT2 := same_upd (o := .lst []) ht2
        have s16 := ((s14.trans sT).trans s5).trans sT2
        refine eq_nilL (α := Int) (xs := part.filter fun x => decide (ht hs x = ht gs p)) (by decide) (l5.mono sT2) upd_same ⟨_, rfl, ite2 (fun e2 => ?_) (fun e2 => ?_)⟩
        · refine nofin _ s16 fun S => ?_
          obtain ⟨_, x, r, ex⟩ := S
          have : x ∈ part.filter fun x => decide (ht hs x = ht gs p) := List.mem_filter.mpr ⟨(hx x).mpr r, decide_eq_true ex⟩
          rw [List.isEmpty_iff.mp e2] at this
          simp at this
        · refine ⟨s16, ⟨_, _, rfl⟩, fun p' h0 h1 => ?_⟩
          by_cases z : p' = p
          · subst z
            cases h : part.filter fun x => decide (ht hs x = ht gs p') with
            | nil => exact absurd (by rw [h]; rfl) e2
            | cons x r =>
              have hm : x ∈ part.filter fun x => decide (ht hs x = ht gs p') := by rw [h]; exact List.mem_cons_self
              obtain ⟨h1, h2⟩ := List.mem_filter.mp hm
              exact ⟨hpo, x, (hx x).mp h1, of_decide_eq_true h2⟩
          · exact hall p' h0 (by omega)
    · rintro σ H1 ⟨s1, ⟨y3, y4, rfl⟩, hall⟩
      have C : Comes ties hs gs := fun p h0 h1 => hall p h0 (by omega)
      have := q H1 s1
      rw [tf_iff.mpr C] at this
      exact this
theorem kit_tl_yes {K : PySem.W.Frag} : PySem.W.kitAny K (.type "tuple") [.type "tuple", .type "list"] = some true := kitAny_cons (b := true) (kit_ty (by decide +kernel)) (fun z => by cases z) (fun _ => rfl)
theorem kit_tl_no {K : PySem.W.Frag} : PySem.W.kitAny K (.type "int") [.type "tuple", .type "list"] = some false :=
  kitAny_cons (b := false) (kit_ty (by decide +kernel)) (fun _ => kitAny_cons (b := false) (kit_ty (by decide +kernel)) (fun _ => kitAny_nil) (fun z => by cases z)) (fun z => by cases z)
theorem ca_law_alike (T : Tx mg) (D : Df K mg "_law_alike" s_law_alike ["_law_found", "_law_due"]) : Ca P w K mg base 1 "_law_alike" (sp_law_alike K) := by
  refine D.ca sc_law_alike (fun vs H Q E h => ?_) (fun f cdv A outer s H vs Q E hr h => ?_)
  · obtain ⟨a, rfl, _⟩ := h
    rfl
  · obtain ⟨a, rfl, q⟩ := h
    refine ⟨_, (pss_cons (ps_if (pt_val (pe_callB call_isiT (by rfl) T.isinstance bo_isinstance (pa_cons (pv 1) (pa_cons (pe_tup (pa_cons (pe_bltn (v := .ty "tuple") (by rfl) T.tuple bo_tuple rfl) (pa_cons (pe_bltn (v := .ty "list") (by rfl) T.list bo_list rfl) pa_nil))) pa_nil))))
        pss_never
        pss_nil)
      (pss_cons (ps_if (PW.pt (pw_or (pt_cmpR op_isN (pv 1) pe_non (nomark _)) (pw_or1 (pt_val (pe_callB call_isi (by rfl) T.isinstance bo_isinstance (pa_cons (pv 1) (pa_cons (pe_bltn (v := .ty "str") (by rfl) T.str bo_str rfl) pa_nil)))))))
        (pss_one (ps_ret (pe_and (pe_cmpR op_eq (pv 0) (pv 1) (nomark _)) (pe_one (pe_cmpR op_eq (pe_callB call_isi (by rfl) T.isinstance bo_isinstance (pa_cons (pv 0) (pa_cons (pe_bltn (v := .ty "str") (by rfl) T.str bo_str rfl) pa_nil))) (pe_callB call_isi (by rfl) T.isinstance bo_isinstance (pa_cons (pv 1) (pa_cons (pe_bltn (v := .ty "str") (by rfl) T.str bo_str rfl) pa_nil))) (nomark _))))))
        pss_nil)
      (pss_one (ps_ret (pe_and (pe_callB call_isi (by rfl) T.isinstance bo_isinstance (pa_cons (pv 0) (pa_cons (pe_bltn (v := .ty "int") (by rfl) T.int bo_int rfl) pa_nil))) (pe_and (pe_cmpR op_eq (pe_callB call_isi (by rfl) T.isinstance bo_isinstance (pa_cons (pv 0) (pa_cons (pe_bltn (v := .ty "bool") (by rfl) T.bool bo_bool rfl) pa_nil))) (pe_callB call_isi (by rfl) T.isinstance bo_isinstance (pa_cons (pv 1) (pa_cons (pe_bltn (v := .ty "bool") (by rfl) T.bool bo_bool rfl) pa_nil))) (nomark _)) (pe_one (pe_cmpR op_eq (pv 0) (pv 1) (nomark _))))))))), ?_⟩
    refine ⟨_, rfl, le2, fun tp htp => ?_⟩
    have s1 := same_upd (o := .tup [.ty "tuple", .ty "list"]) htp
    refine ⟨.int a, tp, _, .type "int", _, false, rfl, upd_same, .cons (ClsV.ty _) (.cons (ClsV.ty _) .nil), TyX.base (TyOf.int a), kit_tl_no, false, rfl, iteF ?_⟩
    refine ⟨_, rfl, rfl, _, rfl, ite2 (fun e => absurd (of_decide_eq_true e) (by intro h; cases h)) (fun _ => ?_)⟩
    refine ⟨_, rfl, .int a, .ty "str", .type "int", .type "str", false, rfl, ClsV.ty _, TyX.base (TyOf.int a), kit_ty (by decide +kernel), false, rfl, iteF ?_⟩
    refine ⟨_, rfl, .int a, .ty "int", .type "int", .type "int", true, rfl, ClsV.ty _, TyX.base (TyOf.int a), kit_ty (by decide +kernel), true, rfl, iteT ?_⟩
    refine ⟨_, rfl, .int a, .ty "bool", .type "int", .type "bool", false, rfl, ClsV.ty _, TyX.base (TyOf.int a), kit_ty (by decide +kernel), _, rfl, .int a, .ty "bool", .type "int", .type "bool", false, rfl, ClsV.ty _, TyX.base (TyOf.int a), kit_ty (by decide +kernel), scal_bl _ _, _, rfl, ?_⟩
    rw [dec_bl]
    refine ite2 (fun _ => ?_) (fun e => absurd rfl e)
    refine ⟨_, rfl, _, rfl, rfl, ?_⟩
    rw [dec_int, beq_self_eq_true]
    exact q _ s1
theorem ca_law_alikeT (c_law_alike : Ca P w K mg base 1 "_law_alike" (sp_law_alike K)) (T : Tx mg) (D : Df K mg "_law_alike" s_law_alike ["_law_found", "_law_due"]) : Ca P w K mg base 2 "_law_alike" (sp_law_alikeT K) := by
  refine D.ca sc_law_alike (fun vs H Q E h => ?_) (fun f cdv A outer s H vs Q E hr h => ?_)
  · obtain ⟨u, v, xs, rfl, _⟩ := h
    rfl
  · obtain ⟨u, v, xs, rfl, ru, rv, hl, q⟩ := h
    obtain ⟨a, rfl, ha⟩ := rp_ints ru
    obtain ⟨b, rfl, hb⟩ := rp_ints rv
    refine ⟨_, (pss_cons (ps_if (pt_val (pe_callB call_isiT (by rfl) T.isinstance bo_isinstance (pa_cons (pv 1) (pa_cons (pe_tup (pa_cons (pe_bltn (v := .ty "tuple") (by rfl) T.tuple bo_tuple rfl) (pa_cons (pe_bltn (v := .ty "list") (by rfl) T.list bo_list rfl) pa_nil))) pa_nil))))
        (pss_cons (ps_if (PW.pt (pw_or (pt_not (pt_val (pe_callB call_isiT (by rfl) T.isinstance bo_isinstance (pa_cons (pv 0) (pa_cons (pe_tup (pa_cons (pe_bltn (v := .ty "tuple") (by rfl) T.tuple bo_tuple rfl) (pa_cons (pe_bltn (v := .ty "list") (by rfl) T.list bo_list rfl) pa_nil))) pa_nil))))) (pw_or1 (pt_cmpR op_ne (pe_callB call_isi (by rfl) T.isinstance bo_isinstance (pa_cons (pv 0) (pa_cons (pe_bltn (v := .ty "list") (by rfl) T.list bo_list rfl) pa_nil))) (pe_callB call_isi (by rfl) T.isinstance bo_isinstance (pa_cons (pv 1) (pa_cons (pe_bltn (v := .ty "list") (by rfl) T.list bo_list rfl) pa_nil))) (nomark _)))))
          (pss_one (ps_ret pe_bl))
          pss_nil)
        (pss_cons (ps_if (pt_cmpR op_ne (pe_callB call_len_seq (by rfl) T.len bo_len (pa_cons (pv 0) pa_nil)) (pe_callB call_len_seq (by rfl) T.len bo_len (pa_cons (pv 1) pa_nil)) (nomark _))
          (pss_one (ps_ret pe_bl))
          pss_nil)
        (pss_one (ps_ret (pe_cmpR (op_eqD hr.units) (pe_lc (own := [("_law_k", 2)]) (g := (gName 2)) (tt := (tNot (tB (tCall (sp_law_alike K) [] E0 (tCons (tOp (rIxT K) (tVar 0) (tVar 2)) (tCons (tOp (rIxT K) (tVar 1) (tVar 2)) tNil)))))) (te := (tVar 2)) rfl sc_law_alike.nd (pi_range1 rfl T.range (pa_cons (pe_callB call_len_seq (by rfl) T.len bo_len (pa_cons (pv 1) pa_nil)) pa_nil)) (blkOk_by (N := ["_law_found", "_law_due", "_law_k"]) (sc := (defScope s_law_alike)) (by decide +kernel)) (fun _ _ _ _ _ => (pg_name (i := 2) sc_law_alike.nd rfl (Or.inl rfl))) (fun _ _ _ _ _ => (pts_one (pt_not (pt_val (pe_ca c_law_alike hr (by decide) (by rfl) (pa_cons (pe_ix ix_tup (pv 0) (pv 2) (fun _ _ => rfl)) (pa_cons (pe_ix ix_tup (pv 1) (pv 2) (fun _ _ => rfl)) pa_nil))))))) (fun _ _ _ _ _ => (pv 2))) (pe_lst pa_nil) (nomark _))))))
        pss_nil)
      (pss_cons (ps_if (PW.pt (pw_or (pt_cmpR op_isN (pv 1) pe_non (nomark _)) (pw_or1 (pt_val (pe_callB call_isi (by rfl) T.isinstance bo_isinstance (pa_cons (pv 1) (pa_cons (pe_bltn (v := .ty "str") (by rfl) T.str bo_str rfl) pa_nil)))))))
        (pss_one (ps_ret (pe_and (pe_cmpR op_eq (pv 0) (pv 1) (nomark _)) (pe_one (pe_cmpR op_eq (pe_callB call_isi (by rfl) T.isinstance bo_isinstance (pa_cons (pv 0) (pa_cons (pe_bltn (v := .ty "str") (by rfl) T.str bo_str rfl) pa_nil))) (pe_callB call_isi (by rfl) T.isinstance bo_isinstance (pa_cons (pv 1) (pa_cons (pe_bltn (v := .ty "str") (by rfl) T.str bo_str rfl) pa_nil))) (nomark _))))))
        pss_nil)
      (pss_one (ps_ret (pe_and (pe_callB call_isi (by rfl) T.isinstance bo_isinstance (pa_cons (pv 0) (pa_cons (pe_bltn (v := .ty "int") (by rfl) T.int bo_int rfl) pa_nil))) (pe_and (pe_cmpR op_eq (pe_callB call_isi (by rfl) T.isinstance bo_isinstance (pa_cons (pv 0) (pa_cons (pe_bltn (v := .ty "bool") (by rfl) T.bool bo_bool rfl) pa_nil))) (pe_callB call_isi (by rfl) T.isinstance bo_isinstance (pa_cons (pv 1) (pa_cons (pe_bltn (v := .ty "bool") (by rfl) T.bool bo_bool rfl) pa_nil))) (nomark _)) (pe_one (pe_cmpR op_eq (pv 0) (pv 1) (nomark _))))))))), ?_⟩
    refine ⟨_, rfl, le2, fun tp htp => ?_⟩
    have s1 := same_upd (o := .tup [.ty "tuple", .ty "list"]) htp
    refine ⟨.ref b, tp, _, .type "tuple", _, true, rfl, upd_same, .cons (ClsV.ty _) (.cons (ClsV.ty _) .nil), TyX.base (TyOf.tup (s1 _ _ hb)), kit_tl_yes, true, rfl, iteT ?_⟩
    refine ⟨_, rfl, le2, fun tp2 htp2 => ?_⟩
    have s2 := s1.trans (same_upd (o := .tup [.ty "tuple", .ty "list"]) htp2)
    refine ⟨.ref a, tp2, _, .type "tuple", _, true, rfl, upd_same, .cons (ClsV.ty _) (.cons (ClsV.ty _) .nil), TyX.base (TyOf.tup (s2 _ _ ha)), kit_tl_yes, true, rfl, iteF ?_⟩
    refine ⟨_, rfl, .ref a, .ty "list", .type "tuple", .type "list", false, rfl, ClsV.ty _, TyX.base (TyOf.tup (s2 _ _ ha)), kit_ty (by decide +kernel), _, rfl, .ref b, .ty "list", .type "tuple", .type "list", false, rfl, ClsV.ty _, TyX.base (TyOf.tup (s2 _ _ hb)), kit_ty (by decide +kernel), scal_bl _ _, _, rfl, ?_⟩
    rw [dec_bl]
    refine ite2 (fun e => by cases e) (fun _ => ?_)
    refine ⟨_, rfl, a, _, rfl, .inr (SqT.of (s2 _ _ ha)), _, rfl, b, _, rfl, .inr (SqT.of (s2 _ _ hb)), rfl, _, rfl, ?_⟩
    refine ite2 (fun e => ?_) (fun _ => ?_)
    · rw [decide_eq_true rfl] at e
      cases e
    refine ⟨_, rfl, b, _, rfl, .inr (SqT.of (s2 _ _ hb)), _, rfl, by omega, by rw [List.length_map]; omega, fun D1 hD1 => ?_⟩
    rw [List.length_map, Int.toNat_natCast]
    refine lcR (β := Int) (fun _ => false) (fun x => x) hD1 (small1000 hl) (fun x H1 kF kT x0 x1 s3 hF hT => ⟨rfl, ?_⟩) fun H1 s3 l1 => ?_
    · have s23 := s2.trans s3
      refine ⟨_, rfl, _, rfl, ix_ints (s23 _ _ ha) x0 x1 ⟨_, rfl, _, rfl, ix_ints (s23 _ _ hb) x0 x1 ⟨_, rfl, fun H2 s4 => ⟨true, rfl, iteF (hF rfl _ s4)⟩⟩⟩⟩
    · rw [show ((upto xs.length).filter fun _ => false) = [] from by simp] at l1
      refine ⟨Nat.zero_le _, fun t ht' => ?_⟩
      have s4 := same_upd (o := .lst []) ht'
      exact eq_nilL (α := Int) (xs := []) (by decide) (l1.mono s4) upd_same (q _ ((s2.trans s3).trans s4))
end
end Sto

/-! text: S4 -/
set_option Elab.async false
set_option linter.all false
set_option maxRecDepth 100000
set_option maxHeartbeats 4000000
/-! what the law itself needs, ahead of its walk -/
namespace Sto
open PySem PySem.Spec PyProof.Rows L2 StX LamX
theorem le4 : 4 ≤ sizeLine := by decide
theorem tabS_sr {H H' : Hp} {P r : Addr} {q : Str} {xs : List V} (t : TabS H P q) (hr : H r = some (.lst xs)) (s : Sr r H H') : TabS H' P q := by
  obtain ⟨ps, h1, h2, h3⟩ := t
  refine ⟨ps, s _ _ (fun e => by rw [e, hr] at h1; cases h1) h1, h2, fun pos cv hc => ?_⟩
  obtain ⟨c, e1, e2⟩ := h3 pos cv hc
  exact ⟨c, e1, s _ _ (fun e => by rw [e, hr] at e2; cases e2) e2⟩
theorem Row.lst {K : PySem.W.Frag} {H : Hp} {r : Addr} {S : Addr × List Int} (h : Row K H r S) : ∃ xs, H r = some (.lst xs) := by
  obtain ⟨_, _, _, h1, _⟩ := h
  exact ⟨_, h1⟩
theorem Whg.tsm {H H' : Hp} {v u z : V} {many : Int} {ties : List (Int × Int)} {hs gs : List Int} (s : TSm H H') (h : Whg H v u z many ties hs gs) : Whg H' v u z many ties hs gs :=
  ⟨Rep.mono s h.1, h.2.1, Rep.mono s h.2.2.1, Rep.mono s h.2.2.2.1, h.2.2.2.2⟩
theorem ResO.mono {H H' : Hp} {y : V} {r : Option (List Int)} (s : TSm H H') (h : ResO H y r) : ResO H' y r := by
  cases r with
  | none => exact h
  | some l => exact Rep.mono s (show Rp H y l from h)
/-! ### the second of a pair -/
def sndOf (H : Hp) (v : V) : List Int := match v with
  | .ref t => (match H t with
    | some (.tup [_, w]) => kxOf H w
    | _ => [])
  | _ => []
theorem sndOf_eq {H : Hp} {v : V} {p : Int × List Int} (h : Rp H v p) : sndOf H v = p.2 := by
  obtain ⟨t, u, w, rfl, ht, e1, e2⟩ := h
  unfold sndOf
  simp only [ht]
  exact kxOf_eq e2
theorem snd_map {H : Hp} : ∀ {vs : List V} {ls : List (Int × List Int)}, Paired (Rep.R H) vs ls → vs.map (sndOf H) = ls.map (·.2)
  | _, _, .nil => rfl
  | _, _, .cons h t => by rw [List.map_cons, List.map_cons, snd_map t, sndOf_eq h]
theorem snd_mem {H : Hp} : ∀ {vs : List V} {ls : List (List Int)}, Paired (Rep.R H) vs (ls.map lenKey) → ∀ v ∈ vs, Rp H v (lenKey (sndOf H v))
  | _, [], .nil, v, h => by simp at h
  | _, l :: ls, .cons h t, v, hm => by
    rcases List.mem_cons.mp hm with e | e
    · rw [e, sndOf_eq h]
      exact h
    · exact snd_mem t v e
/-! ### the parts that hold a source -/
def looseF (src : List Int) (acc part : List Int) : List Int := if (part.filter fun x => decide (x ∈ src)).isEmpty then acc else acc.filter fun x => !decide (x ∈ part)
theorem looseF_len (src acc part : List Int) : (looseF src acc part).length ≤ acc.length := by
  unfold looseF
  split
  · exact Nat.le_refl _
  · exact List.length_filter_le _ _
theorem mem_looseF {src acc part : List Int} {x : Int} : x ∈ looseF src acc part ↔ x ∈ acc ∧ (x ∈ part → ¬ ∃ y ∈ part, y ∈ src) := by
  unfold looseF
  by_cases e : (part.filter fun x => decide (x ∈ src)).isEmpty = true
  · rw [if_pos e]
    refine ⟨fun h => ⟨h, fun _ ⟨y, h1, h2⟩ => ?_⟩, fun h => h.1⟩
    have hm : y ∈ part.filter fun x => decide (x ∈ src) := List.mem_filter.mpr ⟨h1, decide_eq_true h2⟩
    rw [List.isEmpty_iff.mp e] at hm
    simp at hm
  · rw [if_neg e]
    rw [List.mem_filter]
    refine ⟨fun h => ⟨h.1, fun hx => absurd hx (by simpa using h.2)⟩, fun h => ⟨h.1, ?_⟩⟩
    by_cases z : x ∈ part
    · exfalso
      refine h.2 z ?_
      cases q : part.filter fun x => decide (x ∈ src) with
      | nil => exact absurd (by rw [q]; rfl) e
      | cons y r =>
        have hm : y ∈ part.filter fun x => decide (x ∈ src) := by rw [q]; exact List.mem_cons_self
        obtain ⟨h1, h2⟩ := List.mem_filter.mp hm
        exact ⟨y, h1, of_decide_eq_true h2⟩
    · simp [z]
theorem loose_fold_len (src : List Int) : ∀ (Lp : List (List Int)) (acc : List Int), (Lp.foldl (looseF src) acc).length ≤ acc.length
  | [], _ => Nat.le_refl _
  | p :: r, acc => Nat.le_trans (loose_fold_len src r (looseF src acc p)) (looseF_len src acc p)
theorem mem_loose {src : List Int} {x : Int} : ∀ (Lp : List (List Int)) (acc : List Int), x ∈ Lp.foldl (looseF src) acc ↔ x ∈ acc ∧ ∀ part ∈ Lp, x ∈ part → ¬ ∃ y ∈ part, y ∈ src
  | [], acc => by simp
  | p :: r, acc => by
    show x ∈ r.foldl (looseF src) (looseF src acc p) ↔ _
    rw [mem_loose r, mem_looseF]
    constructor
    · rintro ⟨⟨h1, h2⟩, h3⟩
      refine ⟨h1, fun part hp => ?_⟩
      rcases List.mem_cons.mp hp with e | e
      · rw [e]
        exact h2
      · exact h3 part e
    · rintro ⟨h1, h2⟩
      exact ⟨⟨h1, h2 p List.mem_cons_self⟩, fun part hp => h2 part (List.mem_cons_of_mem _ hp)⟩
theorem loose_iff {ties : List (Int × Int)} {lot' l src : List Int} {Lp : List (List Int)} (po : PartsOk ties lot' Lp) (hm : ∀ x, x ∈ lot' ↔ x ∈ l ++ src) : Lp.foldl (looseF src) l = [] ↔ Joined ties l src := by
  constructor
  · intro h p hp
    by_cases z : ∃ x ∈ src, Reach ties (l ++ src) p x
    · exact z
    · exfalso
      have : p ∈ Lp.foldl (looseF src) l := (mem_loose Lp l).mpr ⟨hp, fun part h1 h2 ⟨y, h3, h4⟩ => z ⟨y, h4, (reach_ext hm).mp ((po.of h1 h2 y).mp h3)⟩⟩
      rw [h] at this
      simp at this
  · intro J
    cases q : Lp.foldl (looseF src) l with
    | nil => rfl
    | cons p r =>
      exfalso
      have hp : p ∈ Lp.foldl (looseF src) l := by rw [q]; exact List.mem_cons_self
      obtain ⟨h1, h2⟩ := (mem_loose Lp l).mp hp
      obtain ⟨x, h3, h4⟩ := J p h1
      obtain ⟨part, h5, h6⟩ := po.2 p ((hm p).mpr (List.mem_append_left _ h1))
      exact h2 part h5 h6 ⟨x, (po.of h5 h6 x).mpr ((reach_ext hm).mpr h4), h3⟩
/-! ### a join's length, the value in the dict -/
theorem joinRes_len {ties : List (Int × Int)} {hs gs : List Int} {h : Int} {l : List Int} (a : JoinRes ties hs gs h (some l)) : l.length ≤ hs.length := by
  rcases a with ⟨_, e⟩ | ⟨_, L, _, h2, h3⟩
  · rw [Option.some.inj e]
    exact Nat.zero_le _
  · have h4 : l ∈ subs (frees hs gs h) := h2.perm.mem_iff.mp (List.mem_of_find?_eq_some h3.symm)
    have h5 := (subs_in h4).1
    have h6 : (frees hs gs h).length ≤ (opn hs gs h).length := List.length_filter_le _ _
    have h7 := opn_len hs gs h
    omega
theorem merge_val {k : L2.Key} {v : V} : ∀ (kvs acc : List (L2.Key × V)), (∀ kv ∈ kvs, kv.1 = k → kv.2 = v) → ((∃ kv ∈ kvs, kv.1 = k) ∨ valV acc k = some v) → valV (mergeK acc kvs) k = some v
  | [], acc, _, h => by
    rcases h with ⟨kv, h, _⟩ | h
    · simp at h
    · exact h
  | kv :: r, acc, hv, h => by
    show valV (mergeK (putK acc kv.1 kv.2) r) k = some v
    refine merge_val r _ (fun kv' h' => hv kv' (List.mem_cons_of_mem _ h')) ?_
    rw [valV_put]
    by_cases e : k = kv.1
    · rw [if_pos e, hv kv List.mem_cons_self e.symm]
      exact .inr rfl
    · rw [if_neg e]
      rcases h with ⟨kv', h1, h2⟩ | h
      · rcases List.mem_cons.mp h1 with z | z
        · rw [z] at h2
          exact absurd h2.symm e
        · exact .inl ⟨kv', z, h2⟩
      · exact .inr h
theorem find_keep {α : Type} {p : α → Bool} {L : List α} {i : Nat} {x : α} (h : (L.take i).find? p = some x) : (L.take (i + 1)).find? p = some x := by
  rw [List.take_add_one, List.find?_append, h]
  rfl
theorem find_new {α : Type} {p : α → Bool} {L : List α} {i : Nat} {x : α} (h : (L.take i).find? p = none) (h2 : L[i]? = some x) (h3 : p x = true) : (L.take (i + 1)).find? p = some x := by
  rw [List.take_add_one, h2, List.find?_append, h]
  simp [h3]
theorem filt_const {α : Type} (l : List α) (c : Bool) : l.filter (fun _ => c) = if c then l else [] := by
  cases c <;> simp
/-- the lots so far, one person more -/
theorem lots_next {hs : List Int} {h p : Int} {o : List Int} {i : Nat} (hp : o[i]? = some p) :
    subs ((o.take (i + 1)).filter fun x => !decide (ht hs x = h)) = subs ((o.take i).filter fun x => !decide (ht hs x = h)) ++ ((subs ((o.take i).filter fun x => !decide (ht hs x = h))).filter fun _ => !decide (ht hs p = h)).map (· ++ [p]) := by
  rw [List.take_add_one, hp, List.filter_append, filt_const]
  by_cases e : ht hs p = h
  · simp [e]
  · simp only [Option.toList_some, e, decide_false, Bool.not_false, List.filter_cons_of_pos, List.filter_nil, if_true]
    exact subs_snoc _ _
/-- the join that the law asks for -/
theorem best_go {K : PySem.W.Frag} {σ : L2.St} {H : Hp} {Q : VK} {D2 : Addr} {bv : V} {ds lr : List Int} (h9 : σ[9]? = some (some (.ref D2))) (h12 : σ[12]? = some (some bv)) (hd : H D2 = some (.lst (ds.map V.int))) (h1 : ds ≠ [] → Rp H bv lr) (h2 : ds = [] → lr = [])
    (q : ∀ v H', Same H H' → Rp H' v lr → Q v H') : (tIf (tTest (tOp (rNeD K) (tVar 9) (tLst tNil))) (tVar 12) (tTup tNil)) σ H Q := by
  refine ⟨_, h9, Nat.zero_le _, fun t ht' => ?_⟩
  have s := same_upd (o := .lst []) ht'
  refine ne_nilL (α := Int) (xs := ds) (by decide) (ls_ints.mpr (s _ _ hd)) upd_same ⟨_, rfl, ite2 (fun e => ?_) (fun e => ?_)⟩
  · exact ⟨_, h12, q bv _ s (Rp.mono s (h1 fun z => by rw [z] at e; cases e))⟩
  · have e : ds = [] := by
      cases ds with
      | nil => rfl
      | cons a b => exact absurd rfl e
    refine ⟨Nat.zero_le _, fun t2 ht2 => ?_⟩
    have s2 := s.trans (same_upd (o := .tup []) ht2)
    exact q _ _ s2 (by rw [h2 e]; exact rp_new ht2 .nil)
/-- the dict of the lengths has the join's length -/
theorem few_go {K : PySem.W.Frag} {Pt : Addr} {σ : L2.St} {H : Hp} {Q : Bool → Hp → Prop} {v u : V} {ga D2 : Addr} {many h : Int} {ties : List (Int × Int)} {hs gs lr ds : List Int} {bv : V} (i2 : σ[2]? = some (some v)) (i3 : σ[3]? = some (some u)) (i4 : σ[4]? = some (some (.ref ga))) (i6 : σ[6]? = some (some (.int h)))
    (i9 : σ[9]? = some (some (.ref D2))) (i12 : σ[12]? = some (some bv)) (F : Full H v u (.ref ga) many ties hs gs) (tS : TabS H Pt qL) (C : Comes ties hs gs) (hd : H D2 = some (.lst (ds.map V.int))) (h1 : ds ≠ [] → Rp H bv lr) (h2 : ds = [] → lr = []) (jr : JoinRes ties hs gs h (some lr))
    (q : ∀ H', ExtN H H' → Q false H') : (tAnd (tTest (tOp (rIn K false) (tVar 6) (tVar 4))) (tTest (tOp rNe (tDGet (tCB (fun xs H Q => ∃ (a : Addr) (ps : List Addr) (kvs : List (L2.Key × V)), xs = [.ref a] ∧ H a = some (TupX a (ps.map V.ref)) ∧ Paired (fun p kv => SqT K H p [kV kv.1, kv.2]) ps kvs ∧
      ∀ p, H p = none → Q (.ref p) (upd H p (.dK (mergeK [] kvs)))) (tCons (tCall (sp_fewest_by_height K Pt) [] E0 (tCons (tVar 2) (tCons (tVar 3) (tCons (tVar 4) tNil)))) tNil)) (tVar 6))
      (tCB (fun xs H Q => ∃ p ys, xs = [.ref p] ∧ (SqL K H p ys ∨ SqT K H p ys) ∧ Q (.int ys.length) H) (tCons (tIf (tTest (tOp (rNeD K) (tVar 9) (tLst tNil))) (tVar 12) (tTup tNil)) tNil))))) σ H Q := by
  have hga := ti_iff.mp F.w.2.2.2.1
  refine ⟨_, i6, _, i4, in_ints (sq_tup hga) ⟨_, rfl, ite2 (fun e => ?_) (fun _ => q H (ExtN.refl H))⟩⟩
  have e := of_decide_eq_true e
  refine ⟨_, i2, _, i3, _, i4, v, u, .ref ga, many, ties, hs, gs, rfl, F, tS, C, fun fa H1 ps rs x1 t1 hfa fr efst => ?_⟩
  have prs : Paired (fun p (kv : L2.Key × V) => SqT K H1 p [kV kv.1, kv.2]) ps (rs.map fun r => (Sum.inl r.1, V.int r.2)) := by
    have : ∀ {ps : List Addr} {rs : List (Int × Int)}, Paired (fun p (r : Int × Int) => H1 p = some (.tup [.int r.1, .int r.2])) ps rs → Paired (fun p (kv : L2.Key × V) => SqT K H1 p [kV kv.1, kv.2]) ps (rs.map fun r => (Sum.inl r.1, V.int r.2)) := fun pr => by
      induction pr with
      | nil => exact .nil
      | cons h t ih => exact .cons (SqT.of h) ih
    exact this fr.1
  refine ⟨fa, ps, _, rfl, hfa, prs, fun dd hdd => ?_⟩
  have sd := same_upd (o := .dK (mergeK [] (rs.map fun r => ((Sum.inl r.1 : L2.Key), V.int r.2)))) hdd
  have hval : valV (mergeK [] (rs.map fun r => ((Sum.inl r.1 : L2.Key), V.int r.2))) (Sum.inl h) = some (V.int (lr.length : Nat)) := by
    refine merge_val _ _ (fun kv hkv ek => ?_) (.inl ?_)
    · obtain ⟨r, hr, rfl⟩ := List.mem_map.mp hkv
      have er : r.1 = h := Sum.inl.inj ek
      obtain ⟨l, k1, k2⟩ := fr.2 r hr
      rw [er] at k1
      have := Option.some.inj (joinRes_uniq k1 jr)
      show V.int r.2 = _
      rw [k2, this]
    · have hm : h ∈ rs.map (·.1) := by rw [efst]; exact (mem_dset F.go.2).mpr e
      obtain ⟨r, hr, er⟩ := List.mem_map.mp hm
      exact ⟨_, List.mem_map.mpr ⟨r, hr, rfl⟩, congrArg Sum.inl er⟩
  refine ⟨_, i6, dd, _, rfl, .inl ⟨_, Sum.inl h, Rd.of upd_same, rfl, hval.symm⟩, ?_⟩
  have x2 := x1.trans (ExtN.of sd)
  refine best_go i9 i12 (sd _ _ (extN_lst x1 hd)) (fun z => Rp.ext x2 (h1 z)) h2 fun v2 H2 s2 rv2 => ?_
  obtain ⟨t2, rfl, ht2⟩ := rp_ints rv2
  refine ⟨t2, _, rfl, .inr (SqT.of ht2), rfl, _, rfl, ?_⟩
  rw [List.length_map, decide_eq_true rfl]
  exact q H2 (x2.trans (ExtN.of s2))
/-- how many heights pass, of the first j -/
noncomputable def pcnt (ties : List (Int × Int)) (hs gs : List Int) (p : Int) (j : Nat) : Int := (((((dset hs).take j).filter fun o => decide (ht gs p < o) && decide (o < ht hs p)).filter fun o => tf (Pass ties hs gs p o)).length : Nat)
theorem pcnt_yes {ties : List (Int × Int)} {hs gs : List Int} {p o : Int} {j : Nat} (ho : (dset hs)[j]? = some o) (h1 : ht gs p < o) (h2 : o < ht hs p) (h3 : Pass ties hs gs p o) : pcnt ties hs gs p (j + 1) = pcnt ties hs gs p j + 1 := by
  unfold pcnt
  rw [List.take_add_one, ho, List.filter_append, List.filter_append, List.length_append]
  have e : tf (Pass ties hs gs p o) = true := tf_iff.mpr h3
  simp [h1, h2, e]
theorem pcnt_no {ties : List (Int × Int)} {hs gs : List Int} {p o : Int} {j : Nat} (ho : (dset hs)[j]? = some o) (h1 : ¬ (ht gs p < o ∧ o < ht hs p ∧ Pass ties hs gs p o)) : pcnt ties hs gs p (j + 1) = pcnt ties hs gs p j := by
  unfold pcnt
  rw [List.take_add_one, ho, List.filter_append, List.filter_append, List.length_append]
  by_cases k1 : ht gs p < o
  · by_cases k2 : o < ht hs p
    · have e : tf (Pass ties hs gs p o) = false := by
        rw [← Bool.not_eq_true, tf_iff]
        exact fun z => h1 ⟨k1, k2, z⟩
      simp [k1, k2, e]
    · simp [k2]
  · simp [k1]
theorem fun_ok {P : Program} {w : World} {K : PySem.W.Frag} {mg : Str → Option Value} {base : Heap} {x : Str} {st : Stmt} {N ps : List Str} {k : Nat} {sp : Sp} {f0 : Addr} {fd : FuncData} (F : FunD K x x (defArgs st) (defBody st) (defScope st) [] [] f0 fd) (S : FnScope N ps (defScope st)) (len : ∀ vs H Q E, sp vs H Q E → vs.length = ps.length)
    (hbody : ∀ (f : Addr) (cdv : Value) (A : Around) (outer : List Env) (s : Shared) (H : Hp) (vs : List V) (Q : VK) (E : XK), Room k (A.deeper (envOfC x (defScope st) s.heap.objs.size f cdv)) → sp vs H Q E →
      ∃ t, PSs (cxOf CX0 P w K mg base N x (defScope st) f cdv A outer s H E).nox (defBody st) t ∧ t { nx := fun _ H' => Q .non H', rt := Q } (L2.start N vs) H) : FnOk P w K mg base CX0 (k + 1) f0 fd ps sp :=
  F.ok S len fun cdv A outer s H vs Q E hr h => by
    obtain ⟨t, h1, h2⟩ := hbody f0 cdv A outer s H vs Q E hr h
    exact ⟨t, h1.nox, h2⟩
def sp_law (K : PySem.W.Frag) (Pt : Addr) : Sp := fun vs H Q _ => ∃ (a : Addr) (ns : List Int), vs = [.ref a] ∧ SqL K H a (ns.map V.int) ∧ TabS H Pt qL ∧ ∀ H', Q (.bl true) H'
end Sto

/-! text: S5 -/
set_option Elab.async false
set_option linter.all false
set_option maxRecDepth 100000
set_option maxHeartbeats 20000000
/-! the law -/
namespace Sto
open PySem PySem.Spec PyProof.Rows L2 StX LamX
theorem sc_law : FnScope ["_law_script", "_law_row", "_law_web_here", "_law_heights_here", "_law_goal_here", "_law_good", "_law_height", "_law_some", "_law_source", "_law_due", "_law_lots", "_law_one", "_law_best", "_law_told", "_law_person", "_law_size", "_law_lot", "_law_many", "_law_loose", "_law_part", "_law_near", "_law_other"] ["_law_script"] (defScope s_law) := ⟨rfl, rfl, rfl, by decide +kernel, rfl, by decide +kernel, by decide +kernel⟩
section
variable {P : Program} {w : World} {K : PySem.W.Frag} {mg : Str → Option Value} {base : Heap}
theorem fn_law {Pt : Addr} (c_law_taken : Ca P w K mg base 1 "_law_taken" (sp_law_taken K)) (c_law_web : Ca P w K mg base 2 "_law_web" (sp_law_web K)) (c_law_heights : Ca P w K mg base 2 "_law_heights" (sp_law_heights K)) (c_law_goal : Ca P w K mg base 4 "_law_goal" (sp_law_goal K))
    (c_law_comes : Ca P w K mg base 2 "_law_comes" (sp_law_comes K)) (c_joined_at : Ca P w K mg base 6 "joined_at" (sp_joined_at K Pt)) (c_passing : Ca P w K mg base 6 "passing" (sp_passing K)) (c_law_open : Ca P w K mg base 1 "_law_open" (sp_law_open K))
    (c_law_parts : Ca P w K mg base 1 "_law_parts" (sp_law_parts K)) (c_law_alike : Ca P w K mg base 2 "_law_alike" (sp_law_alikeT K)) (c_fewest_by_height : Ca P w K mg base 6 "fewest_by_height" (sp_fewest_by_height K Pt)) (T : Tx mg)
    {f0 : Addr} {fd : FuncData} (F0 : FunD K "law" "law" (defArgs s_law) (defBody s_law) (defScope s_law) [] [] f0 fd) : FnOk P w K mg base CX0 7 f0 fd ["_law_script"] (sp_law K Pt) := by
  refine fun_ok F0 sc_law (fun vs H Q E h => ?_) (fun f cdv A outer s H vs Q E hr h => ?_)
  · obtain ⟨a, ns, rfl, _⟩ := h
    rfl
  · obtain ⟨a, ns, rfl, hsq, tS0, q⟩ := h
    have hu := hu_of hr
    refine ⟨_, (pss_cons (ps_set (i := 1) sc_law.nd rfl (Or.inl rfl) (pe_lst (pa_cons (pv 0) (pa_cons pe_int (pa_cons pe_int (pa_cons pe_int pa_nil))))))
      (pss_cons (ps_set (i := 2) sc_law.nd rfl (Or.inl rfl) (pe_ca c_law_web hr (by decide) (by rfl) (pa_cons (pv 1) (pa_cons pe_int (pa_cons pe_int pa_nil)))))
      (pss_cons (ps_set (i := 3) sc_law.nd rfl (Or.inr rfl) (pe_ca c_law_heights hr (by decide) (by rfl) (pa_cons (pv 1) (pa_cons (pe_ix ix_tup (pv 2) pe_int (fun _ _ => rfl)) (pa_cons pe_int pa_nil)))))
      (pss_cons (ps_set (i := 4) sc_law.nd rfl (Or.inr rfl) (pe_ca c_law_goal hr (by decide) (by rfl) (pa_cons (pv 1) (pa_cons (pv 2) (pa_cons (pv 3) pa_nil)))))
      (pss_cons (ps_set (i := 5) sc_law.nd rfl (Or.inl rfl) (pe_ca c_law_comes hr (by decide) (by rfl) (pa_cons (pv 2) (pa_cons (pv 3) (pa_cons (pv 4) pa_nil)))))
      (pss_cons (ps_set (i := 6) sc_law.nd rfl (Or.inr rfl) (pe_op op_sub (pe_ca c_law_taken hr (by decide) (by rfl) (pa_cons (pv 1) (pa_cons pe_int pa_nil))) pe_int))
      (pss_cons (ps_if (pt_not (pt_val (pv 5)))
        (pss_one (ps_ret (pe_and (pe_cmpR op_isN (pe_ca c_joined_at hr (by decide) (by rfl) (pa_cons (pv 2) (pa_cons (pv 3) (pa_cons (pv 4) (pa_cons (pv 6) pa_nil))))) pe_non (nomark _)) (pe_one (pe_cmpR op_isN (pe_ca c_passing hr (by decide) (by rfl) (pa_cons (pv 2) (pa_cons (pv 3) (pa_cons (pv 4) pa_nil)))) pe_non (nomark _))))))
        pss_nil)
      (pss_cons (ps_set (i := 7) sc_law.nd rfl (Or.inl rfl) (pe_ca c_law_open hr (by decide) (by rfl) (pa_cons (pv 3) (pa_cons (pv 4) (pa_cons (pv 6) pa_nil)))))
      (pss_cons (ps_set (i := 8) sc_law.nd rfl (Or.inr rfl) (pe_lc (own := [("_law_one", 11)]) (g := (gName 11)) (tt := (tTest (tOp rEq (tOp (rIxT K) (tVar 3) (tVar 11)) (tVar 6)))) (te := (tVar 11)) rfl sc_law.nd (pi_tup (pv 7)) (blkOk_by (N := ["_law_script", "_law_row", "_law_web_here", "_law_heights_here", "_law_goal_here", "_law_good", "_law_height", "_law_some", "_law_source", "_law_due", "_law_lots", "_law_one", "_law_best", "_law_told", "_law_person", "_law_size", "_law_lot", "_law_many", "_law_loose", "_law_part", "_law_near", "_law_other"]) (sc := (defScope s_law)) (by decide +kernel)) (fun _ _ _ _ _ => (pg_name (i := 11) sc_law.nd rfl (Or.inl rfl))) (fun _ _ _ _ _ => (pts_one (pt_cmpR op_eq (pe_ix ix_tup (pv 3) (pv 11) (fun _ _ => rfl)) (pv 6) (nomark _)))) (fun _ _ _ _ _ => (pv 11))))
      (pss_cons (ps_setLc (i := 9) (own := [("_law_one", 11)]) (g := (gName 11)) (tt := (tAnd (tTest (tOp rEq (tOp (rIxT K) (tVar 4) (tVar 11)) (tVar 6))) (tTest (tOp rNe (tOp (rIxT K) (tVar 3) (tVar 11)) (tVar 6))))) (te := (tVar 11)) rfl sc_law.nd rfl rfl (sw_true rfl rfl rfl (by decide +kernel)) (pi_tup (pv 7)) (blkOk_by (N := ["_law_script", "_law_row", "_law_web_here", "_law_heights_here", "_law_goal_here", "_law_good", "_law_height", "_law_some", "_law_source", "_law_due", "_law_lots", "_law_one", "_law_best", "_law_told", "_law_person", "_law_size", "_law_lot", "_law_many", "_law_loose", "_law_part", "_law_near", "_law_other"]) (sc := (defScope s_law)) (by decide +kernel)) (fun _ _ _ _ _ => (pg_name (i := 11) sc_law.nd rfl (Or.inl rfl))) (fun _ _ _ _ _ => (pts_one (PW.pt (pw_and (pt_cmpR op_eq (pe_ix ix_tup (pv 4) (pv 11) (fun _ _ => rfl)) (pv 6) (nomark _)) (pw_and1 (pt_cmpR op_ne (pe_ix ix_tup (pv 3) (pv 11) (fun _ _ => rfl)) (pv 6) (nomark _))))))) (fun _ _ _ _ _ => (pv 11)))
      (pss_cons (ps_set (i := 10) sc_law.nd rfl (Or.inl rfl) (pe_lst (pa_cons (pe_tup pa_nil) pa_nil)))
      (pss_cons (ps_for PassesOwn.never rfl (pi_tup (pv 7)) (pg_name (i := 11) sc_law.nd rfl (Or.inr rfl))
        (pss_one (ps_set (i := 10) sc_law.nd rfl (Or.inl rfl) (pe_op op_cat (pv 10) (pe_lc (own := [("_law_lot", 16)]) (g := (gName 16)) (tt := (tTest (tOp rNe (tOp (rIxT K) (tVar 3) (tVar 11)) (tVar 6)))) (te := (tOp (rCatA K) (tVar 16) (tTup (tCons (tVar 11) tNil)))) rfl sc_law.nd (pi_list (pv 10)) (blkOk_by (N := ["_law_script", "_law_row", "_law_web_here", "_law_heights_here", "_law_goal_here", "_law_good", "_law_height", "_law_some", "_law_source", "_law_due", "_law_lots", "_law_one", "_law_best", "_law_told", "_law_person", "_law_size", "_law_lot", "_law_many", "_law_loose", "_law_part", "_law_near", "_law_other"]) (sc := (defScope s_law)) (by decide +kernel)) (fun _ _ _ _ _ => (pg_name (i := 16) sc_law.nd rfl (Or.inl rfl))) (fun _ _ _ _ _ => (pts_one (pt_cmpR op_ne (pe_ix ix_tup (pv 3) (pv 11) (fun _ _ => rfl)) (pv 6) (nomark _)))) (fun _ _ _ _ _ => (pe_op op_catA (pv 16) (pe_tup (pa_cons (pv 11) pa_nil)))))))))
      (pss_cons (ps_set (i := 12) sc_law.nd rfl (Or.inl rfl) pe_non)
      (pss_cons (ps_for PassesOwn.never rfl (pi_list (pe_callB (cr_sortedN (Nat.lt_of_le_of_lt (Nat.add_le_add_left (by decide : 2 ≤ 64) _) hr.units)) (by rfl) T.sorted bo_sorted (pa_cons (pe_lc (own := [("_law_lot", 16)]) (g := (gName 16)) (tt := tYes) (te := (tTup (tCons (tCB (fun xs H Q => ∃ p ys, xs = [.ref p] ∧ (SqL K H p ys ∨ SqT K H p ys) ∧ Q (.int ys.length) H) (tCons (tVar 16) tNil)) (tCons (tVar 16) tNil)))) rfl sc_law.nd (pi_list (pv 10)) (blkOk_by (N := ["_law_script", "_law_row", "_law_web_here", "_law_heights_here", "_law_goal_here", "_law_good", "_law_height", "_law_some", "_law_source", "_law_due", "_law_lots", "_law_one", "_law_best", "_law_told", "_law_person", "_law_size", "_law_lot", "_law_many", "_law_loose", "_law_part", "_law_near", "_law_other"]) (sc := (defScope s_law)) (by decide +kernel)) (fun _ _ _ _ _ => (pg_name (i := 16) sc_law.nd rfl (Or.inl rfl))) (fun _ _ _ _ _ => pts_nil) (fun _ _ _ _ _ => (pe_tup (pa_cons (pe_callB call_len_seq (by rfl) T.len bo_len (pa_cons (pv 16) pa_nil)) (pa_cons (pv 16) pa_nil))))) pa_nil))) (pg_tup rfl (pgs_cons (pg_name (i := 15) sc_law.nd rfl (Or.inl rfl)) (pgs_cons (pg_name (i := 16) sc_law.nd rfl (Or.inr rfl)) pgs_nil)))
        (pss_one (ps_if (PW.pt (pw_and (pt_cmpR op_isN (pv 12) pe_non (nomark _)) (pw_and1 (pt_cmpR (op_eqD hr.units) (pe_lc (own := [("_law_one", 11)]) (g := (gName 11)) (tt := (tTest (tOp (rIn K true) (tVar 11) (tVar 16)))) (te := (tVar 11)) rfl sc_law.nd (pi_list (pv 9)) (blkOk_by (N := ["_law_script", "_law_row", "_law_web_here", "_law_heights_here", "_law_goal_here", "_law_good", "_law_height", "_law_some", "_law_source", "_law_due", "_law_lots", "_law_one", "_law_best", "_law_told", "_law_person", "_law_size", "_law_lot", "_law_many", "_law_loose", "_law_part", "_law_near", "_law_other"]) (sc := (defScope s_law)) (by decide +kernel)) (fun _ _ _ _ _ => (pg_name (i := 11) sc_law.nd rfl (Or.inl rfl))) (fun _ _ _ _ _ => (pts_one (pt_cmpR op_notIn_seq (pv 11) (pv 16) (by rfl)))) (fun _ _ _ _ _ => (pv 11))) (pe_lst pa_nil) (nomark _)))))
          (pss_cons (ps_setLc (i := 18) (own := [("_law_one", 11)]) (g := (gName 11)) (tt := tYes) (te := (tVar 11)) rfl sc_law.nd rfl rfl (sw_true rfl rfl rfl (by decide +kernel)) (pi_tup (pv 16)) (blkOk_by (N := ["_law_script", "_law_row", "_law_web_here", "_law_heights_here", "_law_goal_here", "_law_good", "_law_height", "_law_some", "_law_source", "_law_due", "_law_lots", "_law_one", "_law_best", "_law_told", "_law_person", "_law_size", "_law_lot", "_law_many", "_law_loose", "_law_part", "_law_near", "_law_other"]) (sc := (defScope s_law)) (by decide +kernel)) (fun _ _ _ _ _ => (pg_name (i := 11) sc_law.nd rfl (Or.inl rfl))) (fun _ _ _ _ _ => pts_nil) (fun _ _ _ _ _ => (pv 11)))
          (pss_cons (ps_for PassesOwn.never rfl (pi_list (pe_ca c_law_parts hr (by decide) (by rfl) (pa_cons (pv 2) (pa_cons (pe_callTy call_tuple_of (by rfl) T.tuple bo_tuple (pa_cons (pe_callB cr_sortedI (by rfl) T.sorted bo_sorted (pa_cons (pe_op op_cat (pe_callTy call_list_of (by rfl) T.list bo_list (pa_cons (pv 16) pa_nil)) (pv 8)) pa_nil)) pa_nil)) pa_nil)))) (pg_name (i := 19) sc_law.nd rfl (Or.inr rfl))
            (pss_one (ps_if (pt_cmpR (op_neD hr.units) (pe_lc (own := [("_law_one", 11)]) (g := (gName 11)) (tt := (tTest (tOp (rIn K false) (tVar 11) (tVar 8)))) (te := (tVar 11)) rfl sc_law.nd (pi_tup (pv 19)) (blkOk_by (N := ["_law_script", "_law_row", "_law_web_here", "_law_heights_here", "_law_goal_here", "_law_good", "_law_height", "_law_some", "_law_source", "_law_due", "_law_lots", "_law_one", "_law_best", "_law_told", "_law_person", "_law_size", "_law_lot", "_law_many", "_law_loose", "_law_part", "_law_near", "_law_other"]) (sc := (defScope s_law)) (by decide +kernel)) (fun _ _ _ _ _ => (pg_name (i := 11) sc_law.nd rfl (Or.inl rfl))) (fun _ _ _ _ _ => (pts_one (pt_cmpR op_in_seq (pv 11) (pv 8) (by rfl)))) (fun _ _ _ _ _ => (pv 11))) (pe_lst pa_nil) (nomark _))
              (pss_one (ps_setLc (i := 18) (own := [("_law_one", 11)]) (g := (gName 11)) (tt := (tTest (tOp (rIn K true) (tVar 11) (tVar 19)))) (te := (tVar 11)) rfl sc_law.nd rfl rfl (sw_true rfl rfl rfl (by decide +kernel)) (pi_list (pv 18)) (blkOk_by (N := ["_law_script", "_law_row", "_law_web_here", "_law_heights_here", "_law_goal_here", "_law_good", "_law_height", "_law_some", "_law_source", "_law_due", "_law_lots", "_law_one", "_law_best", "_law_told", "_law_person", "_law_size", "_law_lot", "_law_many", "_law_loose", "_law_part", "_law_near", "_law_other"]) (sc := (defScope s_law)) (by decide +kernel)) (fun _ _ _ _ _ => (pg_name (i := 11) sc_law.nd rfl (Or.inl rfl))) (fun _ _ _ _ _ => (pts_one (pt_cmpR op_notIn_seq (pv 11) (pv 19) (by rfl)))) (fun _ _ _ _ _ => (pv 11))))
              pss_nil)))
          (pss_one (ps_set (i := 12) sc_law.nd rfl (Or.inl rfl) (pe_ifExp (pt_cmpR (op_eqD hr.units) (pv 18) (pe_lst pa_nil) (nomark _)) (pv 16) pe_non)))))
          pss_nil)))
      (pss_cons (ps_if (pt_not (pt_val (pe_ca c_law_alike hr (by decide) (by rfl) (pa_cons (pe_ca c_joined_at hr (by decide) (by rfl) (pa_cons (pv 2) (pa_cons (pv 3) (pa_cons (pv 4) (pa_cons (pv 6) pa_nil))))) (pa_cons (pe_ifExp (pt_cmpR (op_neD hr.units) (pv 9) (pe_lst pa_nil) (nomark _)) (pv 12) (pe_tup pa_nil)) pa_nil)))))
        (pss_one (ps_ret pe_bl))
        pss_nil)
      (pss_cons (ps_if (PW.pt (pw_and (pt_cmpR op_in_seq (pv 6) (pv 4) (by rfl)) (pw_and1 (pt_cmpR op_ne (pe_dget hu (pe_callTy (call_dictX rfl) (by rfl) T.dict bo_dict (pa_cons (pe_ca c_fewest_by_height hr (by decide) (by rfl) (pa_cons (pv 2) (pa_cons (pv 3) (pa_cons (pv 4) pa_nil)))) pa_nil)) (pv 6) (fun _ _ => rfl)) (pe_callB call_len_seq (by rfl) T.len bo_len (pa_cons (pe_ifExp (pt_cmpR (op_neD hr.units) (pv 9) (pe_lst pa_nil) (nomark _)) (pv 12) (pe_tup pa_nil)) pa_nil)) (nomark _)))))
        (pss_one (ps_ret pe_bl))
        pss_nil)
      (pss_cons (ps_set (i := 13) sc_law.nd rfl (Or.inl rfl) (pe_lst pa_nil))
      (pss_cons (ps_for PassesOwn.never rfl (pi_range1 rfl T.range (pa_cons (pe_ix ix_tup (pv 2) pe_int (fun _ _ => rfl)) pa_nil)) (pg_name (i := 14) sc_law.nd rfl (Or.inr rfl))
        (pss_cons (ps_set (i := 17) sc_law.nd rfl (Or.inl rfl) pe_int)
        (pss_cons (ps_for PassesOwn.never rfl (pi_list (pe_callB (cr_sortedSet rfl) (by rfl) T.sorted bo_sorted (pa_cons (pe_callTy (cr_setT rfl) (by rfl) T.set bo_set (pa_cons (pv 3) pa_nil)) pa_nil))) (pg_name (i := 11) sc_law.nd rfl (Or.inr rfl))
          (pss_one (ps_if (pt_chain op_lt op_lt (pe_ix ix_tup (pv 4) (pv 14) (fun _ _ => rfl)) (pv 11) (pe_ix ix_tup (pv 3) (pv 14) (fun _ _ => rfl)))
            (pss_cons (ps_set (i := 20) sc_law.nd rfl (Or.inl rfl) (pe_ix ix_list (pe_lc (own := [("_law_part", 19)]) (g := (gName 19)) (tt := (tTest (tOp (rIn K false) (tVar 14) (tVar 19)))) (te := (tVar 19)) rfl sc_law.nd (pi_list (pe_ca c_law_parts hr (by decide) (by rfl) (pa_cons (pv 2) (pa_cons (pe_ca c_law_open hr (by decide) (by rfl) (pa_cons (pv 3) (pa_cons (pv 4) (pa_cons (pv 11) pa_nil)))) pa_nil)))) (blkOk_by (N := ["_law_script", "_law_row", "_law_web_here", "_law_heights_here", "_law_goal_here", "_law_good", "_law_height", "_law_some", "_law_source", "_law_due", "_law_lots", "_law_one", "_law_best", "_law_told", "_law_person", "_law_size", "_law_lot", "_law_many", "_law_loose", "_law_part", "_law_near", "_law_other"]) (sc := (defScope s_law)) (by decide +kernel)) (fun _ _ _ _ _ => (pg_name (i := 19) sc_law.nd rfl (Or.inl rfl))) (fun _ _ _ _ _ => (pts_one (pt_cmpR op_in_seq (pv 14) (pv 19) (by rfl)))) (fun _ _ _ _ _ => (pv 19))) pe_int (fun _ _ => rfl)))
            (pss_one (ps_set (i := 17) sc_law.nd rfl (Or.inl rfl) (pe_op op_add (pv 17) (pe_ifExp (pt_cmpR (op_neD hr.units) (pe_lc (own := [("_law_other", 21)]) (g := (gName 21)) (tt := (tTest (tOp rEq (tOp (rIxT K) (tVar 3) (tVar 21)) (tVar 11)))) (te := (tVar 21)) rfl sc_law.nd (pi_tup (pv 20)) (blkOk_by (N := ["_law_script", "_law_row", "_law_web_here", "_law_heights_here", "_law_goal_here", "_law_good", "_law_height", "_law_some", "_law_source", "_law_due", "_law_lots", "_law_one", "_law_best", "_law_told", "_law_person", "_law_size", "_law_lot", "_law_many", "_law_loose", "_law_part", "_law_near", "_law_other"]) (sc := (defScope s_law)) (by decide +kernel)) (fun _ _ _ _ _ => (pg_name (i := 21) sc_law.nd rfl (Or.inl rfl))) (fun _ _ _ _ _ => (pts_one (pt_cmpR op_eq (pe_ix ix_tup (pv 3) (pv 21) (fun _ _ => rfl)) (pv 11) (nomark _)))) (fun _ _ _ _ _ => (pv 21))) (pe_lst pa_nil) (nomark _)) pe_int pe_int)))))
            pss_nil)))
        (pss_one (ps_expr (pe_bm PySem.F.plainAttrs_list PySem.F.slot_list_append PySem.F.type_list_append mt_append (pv 13) (pa_cons (pv 17) pa_nil)))))))
      (pss_one (ps_ret (pe_ca c_law_alike hr (by decide) (by rfl) (pa_cons (pe_ca c_passing hr (by decide) (by rfl) (pa_cons (pv 2) (pa_cons (pv 3) (pa_cons (pv 4) pa_nil)))) (pa_cons (pe_callTy call_tuple_of (by rfl) T.tuple bo_tuple (pa_cons (pv 13) pa_nil)) pa_nil))))))))))))))))))))))), ?_⟩
    -- the row
    refine ⟨_, rfl, le4, fun r hr0 => ?_⟩
    have sr0 := same_upd (o := .lst [.ref a, .int 0, .int 4905, .int 0]) hr0
    have R0 : Row K (upd H r (.lst [.ref a, .int 0, .int 4905, .int 0])) r (a, ns) := ⟨0, 4905, 0, upd_same, sr0.seq hsq, Int.le_refl _⟩
    have tS := tS0.ext sr0
    -- the web, the heights, the goal
    refine ⟨_, rfl, r, (a, ns), rfl, R0, fun v H1 many ties s1 R1 rw wo => ?_⟩
    have rw' := rw
    obtain ⟨pw, pt, ts, rfl, hw, hpt, pr⟩ := wb_open rw'
    have m1 := wo.lo
    have m6 := wo.hi
    refine ⟨_, rfl, _, rfl, pw, _, 0, .int many, rfl, rfl, SqT.of hw, atI_nat (j := 0) rfl, r, (a, ns), many, rfl, R1, m1, m6, fun u H2 hs s2 R2 ru hl hb => ?_⟩
    refine ⟨_, rfl, _, rfl, _, rfl, r, (a, ns), .ref pw, u, many, ties, hs, rfl, R2, Rep.mono (tsm_sr R1 s2) rw, wo.ties, ru, hl, fun z H3 gs s3 R3 rz gl gin => ?_⟩
    obtain ⟨ha, rfl, hha⟩ := rp_ints ru
    obtain ⟨ga, rfl, hga⟩ := rp_ints rz
    have ho : HtsOk many hs := ⟨hl, fun x hx => by have := hb x hx; omega⟩
    have go : HtsOk many gs := ⟨by omega, fun x hx => by have := hb x (gin x hx); omega⟩
    have W3 : Whg H3 (.ref pw) (.ref ha) (.ref ga) many ties hs gs := ⟨Rep.mono (tsm_sr R1 (s2.trans s3)) rw, wo.few, Rep.mono (tsm_sr R2 s3) ru, rz, hl, by omega, m1, m6⟩
    obtain ⟨xs0, hx0⟩ := R0.lst
    have t3 : TabS H3 Pt qL := tabS_sr tS hx0 ((s1.trans s2).trans s3)
    refine ⟨_, rfl, _, rfl, _, rfl, .ref pw, .ref ha, .ref ga, many, ties, hs, gs, rfl, W3, fun H4 s4 => ?_⟩
    have R4 := R3.same s4
    refine ⟨_, rfl, r, (a, ns), 6, rfl, R4, by decide, by decide, fun hz H5 z0 z1 s5 R5 => ⟨_, _, rfl, rfl, ?_⟩⟩
    show gName 6 (V.int (hz - 2)) _ _ _
    obtain ⟨h, eh⟩ : ∃ h, h = hz - 2 := ⟨_, rfl⟩
    rw [← eh]
    have W5 : Whg H5 (.ref pw) (.ref ha) (.ref ga) many ties hs gs := (W3.mono s4).tsm (tsm_sr R4 s5)
    have F5 : Full H5 (.ref pw) (.ref ha) (.ref ga) many ties hs gs := ⟨W5, wo, ho, go⟩
    obtain ⟨xs4, hx4⟩ := R4.lst
    have t5 : TabS H5 Pt qL := tabS_sr (t3.ext s4) hx4 s5
    clear R0 R1 R2 R3 R4 hx0 hx4 tS t3 W3 s1 s2 s3 s4 s5 rw ru rz hw hpt pr hha hga
    refine ⟨_, rfl, _, rfl, ite2 (fun e => ?_) (fun e => ?_)⟩
    · have C : ¬ Comes ties hs gs := fun z => by rw [tf_iff.mpr z] at e; cases e
      refine ⟨_, rfl, _, rfl, _, rfl, _, rfl, .ref pw, .ref ha, .ref ga, many, ties, hs, gs, h, rfl, F5, t5, by omega, by omega, fun y H6 x6 t6 c1 c2 => ⟨rfl, _, rfl, ?_⟩⟩
      obtain rfl := c2 C
      refine ite2 (fun _ => ?_) (fun e => absurd (decide_eq_true rfl) e)
      refine ⟨_, rfl, _, rfl, _, rfl, .ref pw, .ref ha, .ref ga, many, ties, hs, gs, rfl, F5.ext x6, fun y H7 s7 p1 p2 => ⟨rfl, ?_⟩⟩
      obtain rfl := p2 C
      rw [decide_eq_true rfl]
      exact q _
    have C : Comes ties hs gs := by
      by_cases z : Comes ties hs gs
      · exact z
      · exact absurd (by rw [show tf (Comes ties hs gs) = false from by rw [← Bool.not_eq_true, tf_iff]; exact z]; rfl) e
    -- the open set, its sources, its due persons
    obtain ⟨rw5, hz5, ru5, rz5, _, hgl, _, _⟩ := W5
    have hha := ti_iff.mp ru5
    have hga := ti_iff.mp rz5
    refine ⟨_, rfl, _, rfl, _, rfl, .ref ha, .ref ga, hs, gs, h, rfl, ru5, rz5, by omega, by omega, fun so H6 s6 rso => ?_⟩
    have hso := ti_iff.mp rso
    have hol := opn_len hs gs h
    have lt6 : ∀ (p : Int → Bool), ((opn hs gs h).filter p).length ≤ 6 := fun p => by
      have := List.length_filter_le p (opn hs gs h)
      omega
    refine ⟨_, rfl, so, rfl, ⟨_, SqT.of hso⟩, fun D1 hD1 => ?_⟩
    refine lcT (α := Int) (β := Int) (as := opn hs gs h) (fun i => decide (ht hs i = h)) (fun x => x) (SqT.of hso) hD1 (small1000 (by omega)) (paired_of_ints _) (fun v1 x H7 kF kT hm rx s7 hF hT => ⟨rfl, ?_⟩) fun H7 s7 l7 => ?_
    · obtain rfl : v1 = .int x := rx
      obtain ⟨x0, x1⟩ := mem_opn_lt hm
      refine ⟨_, rfl, _, rfl, ix_ints (s7 _ _ (s6 _ _ hha)) x0 x1 ⟨_, rfl, rfl, _, rfl, ?_⟩⟩
      rw [dec_int]
      exact ite2 (fun e => ⟨_, rfl, hT (by simpa using e) _ _ (Same.refl _) rfl⟩) fun e => hF (by simpa using e) _ (Same.refl _)
    rw [List.map_id'] at l7
    have l7 := ls_ints.mp l7
    have s67 := s6.trans s7
    have hso7 := s7 _ _ hso
    refine ⟨_, rfl, so, rfl, ⟨_, SqT.of hso7⟩, fun D2 hD2 => ?_⟩
    refine lcT (α := Int) (β := Int) (as := opn hs gs h) (fun i => decide (ht gs i = h) && !decide (ht hs i = h)) (fun x => x) (SqT.of hso7) hD2 (small1000 (by omega)) (paired_of_ints _) (fun v1 x H8 kF kT hm rx s8 hF hT => ⟨rfl, ?_⟩) fun H8 s8 l8 => ?_
    · obtain rfl : v1 = .int x := rx
      obtain ⟨x0, x1⟩ := mem_opn_lt hm
      refine ⟨_, rfl, _, rfl, ix_ints (s8 _ _ (s67 _ _ hga)) x0 (by omega) ⟨_, rfl, rfl, _, rfl, ?_⟩⟩
      rw [dec_int]
      refine ite2 (fun e => ?_) fun e => iteF (hF (by rw [show decide (ht gs x = h) = false from by simpa using e]; rfl) _ (Same.refl _))
      refine ⟨_, rfl, _, rfl, ix_ints (s8 _ _ (s67 _ _ hha)) x0 x1 ⟨_, rfl, rfl, _, rfl, ?_⟩⟩
      rw [dec_int]
      have e' : decide (ht gs x = h) = true := by simpa using e
      exact ite2 (fun e2 => ⟨_, rfl, hT (by rw [e']; simpa using e2) _ _ (Same.refl _) rfl⟩) fun e2 => hF (by rw [e']; simpa using e2) _ (Same.refl _)
    rw [List.map_id'] at l8
    have l8 := ls_ints.mp l8
    have s68 := s67.trans s8
    -- all lots
    refine ⟨Nat.zero_le _, fun e0 he0 => ?_⟩
    refine ⟨le1, fun L0 hL0 => ?_⟩
    obtain ⟨H9, e9⟩ : ∃ H9, H9 = upd (upd H8 e0 (.tup [])) L0 (.lst [.ref e0]) := ⟨_, rfl⟩
    have s9 : Same H5 H9 := by
      rw [e9]
      exact (s68.trans (same_upd (o := .tup []) he0)).trans (same_upd (o := .lst [.ref e0]) hL0)
    have s89 : Same H8 H9 := by
      rw [e9]
      exact (same_upd (o := .tup []) he0).trans (same_upd (o := .lst [.ref e0]) hL0)
    have l9 : Ls H9 L0 (subs ([] : List Int)) := by
      rw [e9]
      exact ls_new hL0 (.cons (rp_new he0 .nil) .nil)
    have hsrc : H9 D1 = some (.lst ((srcs hs gs h).map V.int)) := s89 _ _ (s8 _ _ l7)
    have hdue : H9 D2 = some (.lst ((dues hs gs h).map V.int)) := s89 _ _ l8
    have hso9 : H9 so = some (.tup ((opn hs gs h).map V.int)) := s89 _ _ (s8 _ _ hso7)
    have F9 := F5.mono s9
    have t9 := t5.ext s9
    have hha9 := s9 _ _ hha
    have hga9 := s9 _ _ hga
    have rw9 := Rp.mono s9 rw5
    rw [← e9]
    clear e9 s9 s89 F5 t5 hha hga rw5 l7 l8 s6 s7 s8 s67 s68 hso hso7 rso he0 hL0 hD1 hD2 ru5 rz5 hr0 hsq
    refine ⟨_, rfl, so, rfl, ⟨_, SqT.of hso9⟩, ?_⟩
    refine for_tup (K := K) (a := so) (xs := (opn hs gs h).map V.int) (fun i σ H' => Same H9 H' ∧ ∃ (L : Addr) (y11 : Option V), σ = [some (.ref a), some (.ref r), some (.ref pw), some (.ref ha), some (.ref ga), some (.bl (tf (Comes ties hs gs))), some (.int h), some (.ref so), some (.ref D1), some (.ref D2), some (.ref L), y11, none, none, none, none, none, none, none, none, none, none] ∧ Ls H' L (subs (((opn hs gs h).take i).filter fun x => !decide (ht hs x = h))))
      ⟨Same.refl _, L0, none, rfl, l9⟩ (fun i σ H' _ h => SqT.of (h.1 _ _ hso9)) ?_ ?_
    · rintro i x σ H10 hx ⟨s10, L, y11, rfl, hL⟩
      rw [List.getElem?_map] at hx
      obtain ⟨p, hp, rfl⟩ := Option.map_eq_some_iff.mp hx
      obtain ⟨p0, p1⟩ := mem_opn_lt (List.mem_of_getElem? hp)
      have hcl : (((opn hs gs h).take i).filter fun x => !decide (ht hs x = h)).length ≤ 6 := by
        have h1 := List.length_filter_le (fun x => !decide (ht hs x = h)) ((opn hs gs h).take i)
        rw [List.length_take] at h1
        omega
      have hsl : (subs (((opn hs gs h).take i).filter fun x => !decide (ht hs x = h))).length ≤ 64 := by
        rw [subs_len]
        exact Nat.le_trans (Nat.pow_le_pow_right (by decide) hcl) (by decide)
      obtain ⟨vs, hvs, prv⟩ := hL
      refine ⟨_, rfl, _, rfl, L, rfl, ⟨_, SqL.of hvs⟩, fun D3 hD3 => ?_⟩
      refine lcL (α := List Int) (β := List Int) (as := subs (((opn hs gs h).take i).filter fun x => !decide (ht hs x = h))) (fun _ => !decide (ht hs p = h)) (fun l => l ++ [p]) (SqL.of hvs) hD3 (small1000 (by omega)) prv (fun v1 l H11 kF kT hm rx s11 hF hT => ⟨rfl, ?_⟩) fun H11 s11 l11 => ?_
      · have hl6 := (subs_in hm).1
        obtain ⟨t, rfl, ht'⟩ := rp_ints rx
        refine ⟨_, rfl, _, rfl, ix_ints ((s10.trans s11) _ _ hha9) p0 p1 ⟨_, rfl, rfl, _, rfl, ?_⟩⟩
        rw [dec_int]
        refine ite2 (fun e => ?_) (fun e => hF (by simpa using e) _ (Same.refl _))
        refine ⟨_, rfl, _, rfl, le1, fun t2 ht2 => ?_⟩
        have s12 := same_upd (o := .tup [.int p]) ht2
        refine catA_go (s12 _ _ ht') upd_same (by rw [List.length_map, List.length_singleton]; omega) fun c H12 s13 hc => hT (by simpa using e) _ _ (s12.trans s13) (ti_iff.mpr (by rw [hc, List.map_append]; rfl))
      · obtain ⟨ws, hws, pr2⟩ := l11
        have e1 := Paired.length prv
        have e2 := Paired.length pr2
        have e3 := List.length_filter_le (fun _ => !decide (ht hs p = h)) (subs (((opn hs gs h).take i).filter fun x => !decide (ht hs x = h)))
        rw [List.length_map] at e2
        refine ⟨L, D3, _, _, rfl, rfl, s11 _ _ hvs, hws, Nat.le_of_lt (small1000 (by omega)), fun L2 hL2 => ?_⟩
        refine ⟨(s10.trans s11).trans (same_upd hL2), L2, _, rfl, ?_⟩
        rw [lots_next hp]
        exact ls_new hL2 (paired_app (paired_mono (tsm_of s11) prv) pr2)
    · rintro σ H10 ⟨s10, L, y11, rfl, hL⟩
      rw [List.length_map, List.take_length] at hL
      have hL : Ls H10 L (subs (frees hs gs h)) := hL
      have hfl : (frees hs gs h).length ≤ 6 := lt6 _
      have hsl : (subs (frees hs gs h)).length ≤ 64 := by
        rw [subs_len]
        exact Nat.le_trans (Nat.pow_le_pow_right (by decide) hfl) (by decide)
      obtain ⟨vs, hvs, prv⟩ := hL
      -- the lots in their order
      refine ⟨_, rfl, L, rfl, ⟨_, SqL.of hvs⟩, fun D3 hD3 => ?_⟩
      refine lcL (α := List Int) (β := Int × List Int) (as := subs (frees hs gs h)) (fun _ => true) lenKey (SqL.of hvs) hD3 (small1000 (by omega)) prv (fun v1 l H11 kF kT hm rx s11 hF hT => ⟨rfl, tyes (iteT ?_)⟩) fun H11 s11 l11 => ?_
      · obtain ⟨t, rfl, ht'⟩ := rp_ints rx
        refine ⟨_, rfl, t, _, rfl, .inr (SqT.of ht'), _, rfl, le2, fun t2 ht2 => hT rfl _ _ (same_upd ht2) ⟨t2, _, .ref t, rfl, upd_same, ?_, ti_iff.mpr (same_upd ht2 _ _ ht')⟩⟩
        show V.int _ = V.int _
        rw [List.length_map]
        rfl
      rw [filter_tt] at l11
      obtain ⟨ws, hws, prw⟩ := l11
      have key := snd_mem prw
      refine ⟨D3, ws, fun v => lenKey (sndOf H11 v), rfl, SqL.of hws, fun x hx => ?_, fun ys sl srt stb hsl0 => ?_⟩
      · obtain ⟨t, u1, u2, e, ht', e1, e2⟩ := key x hx
        obtain ⟨b, hb', hbb⟩ := rp_ints (show Rp H11 u2 (lenKey (sndOf H11 x)).2 from e2)
        have e1 : u1 = .int (lenKey (sndOf H11 x)).1 := e1
        exact ⟨t, b, e, by rw [ht', e1, hb'], hbb⟩
      have eL : ws.map (sndOf H11) = subs (frees hs gs h) := by
        rw [snd_map prw, List.map_map]
        exact List.map_id'' (fun _ => rfl) _
      obtain ⟨LL, eLL⟩ : ∃ LL, LL = ys.map (sndOf H11) := ⟨_, rfl⟩
      have srtL : SrtO.Srtd ltL LL := by
        rw [eLL]
        exact SrtO.srtd_map (lt := ltL) srt
      have stbL : SrtO.Stb ltL LL (subs (frees hs gs h)) := by
        rw [eLL, ← eL]
        exact SrtO.Stb.map (lt := ltL) ltL_swo (sndOf H11) stb
      obtain ⟨Hc, eHc⟩ : ∃ Hc, Hc = upd H11 sl (.lst ys) := ⟨_, rfl⟩
      have s1c : Same H11 Hc := by
        rw [eHc]
        exact same_upd hsl0
      have hys : Hc sl = some (.lst ys) := by rw [eHc, upd_same]
      have s9c : Same H9 Hc := (s10.trans s11).trans s1c
      rw [← eHc]
      have keyc : ∀ v ∈ ys, Rp Hc v (lenKey (sndOf H11 v)) := fun v hv => Rp.mono s1c (key v (stb.perm.mem_iff.mp hv))
      have Fc := F9.mono s9c
      have tc := t9.ext s9c
      have hsrc := s9c _ _ hsrc
      have hdue := s9c _ _ hdue
      have hhac := s9c _ _ hha9
      have hgac := s9c _ _ hga9
      have rwc := Rp.mono s9c rw9
      clear eHc s1c key prw hws hsl0 s11 hD3 prv hvs s10 F9 t9 hha9 hga9 rw9 hso9 s9c l9
      refine ⟨sl, rfl, ⟨_, SqL.of hys⟩, ?_⟩
      refine for_list (K := K) (a := sl) (xs := ys) (fun i σ H' => Same Hc H' ∧ ∃ (bv : V) (y11 y15 y16 y18 y19 : Option V), σ = [some (.ref a), some (.ref r), some (.ref pw), some (.ref ha), some (.ref ga), some (.bl (tf (Comes ties hs gs))), some (.int h), some (.ref so), some (.ref D1), some (.ref D2), some (.ref L), y11, some bv, none, none, y15, y16, none, y18, y19, none, none] ∧ ResO H' bv ((LL.take i).find? (goodLot ties hs gs h)))
        ⟨Same.refl _, .non, y11, none, none, none, none, rfl, rfl⟩ (fun i σ H' _ h => SqL.of (h.1 _ _ hys)) ?_ ?_
      · rintro i x σ H12 hx ⟨s12, bv, y11, y15, y16, y18, y19, rfl, hres⟩
        obtain ⟨l, el⟩ : ∃ l, l = sndOf H11 x := ⟨_, rfl⟩
        have hLi : LL[i]? = some l := by rw [eLL, List.getElem?_map, hx, el]; rfl
        have kx := keyc x (List.mem_of_getElem? hx)
        rw [← el] at kx
        obtain ⟨t, u1, u2, rfl, ht', e1, e2⟩ := kx
        obtain rfl : u1 = .int (lenKey l).1 := e1
        obtain ⟨b, rfl, hb'⟩ := rp_ints (show Rp Hc u2 l from e2)
        have hl6 : l.length ≤ 6 := by
          have h1 := (subs_in (stbL.perm.mem_iff.mp (List.mem_of_getElem? hLi))).1
          omega
        refine ⟨t, _, rfl, SqT.of (s12 _ _ ht'), rfl, _, _, rfl, _, _, rfl, rfl, ?_⟩
        refine ⟨_, rfl, rfl, _, rfl, ite2 (fun e => ?_) (fun e => ?_)⟩
        · obtain rfl : bv = .non := of_decide_eq_true e
          have hnone : (LL.take i).find? (goodLot ties hs gs h) = none := by
            cases q : (LL.take i).find? (goodLot ties hs gs h) with
            | none => rfl
            | some l0 =>
              rw [q] at hres
              obtain ⟨_, _, z, _⟩ := hres
              cases z
          have hb12 := s12 _ _ hb'
          have hdl : (dues hs gs h).length ≤ 6 := lt6 _
          have hsl6 : (srcs hs gs h).length ≤ 6 := lt6 _
          refine ⟨_, rfl, D2, rfl, ⟨_, SqL.of (s12 _ _ hdue)⟩, fun D4 hD4 => ?_⟩
          refine lcL (α := Int) (β := Int) (as := dues hs gs h) (fun d => !decide (d ∈ l)) (fun d => d) (SqL.of (s12 _ _ hdue)) hD4 (small1000 (by omega)) (paired_of_ints _) (fun v1 d H13 kF kT hm rx s13 hF hT => ⟨rfl, ?_⟩) fun H13 s13 l13 => ?_
          · obtain rfl : v1 = .int d := rx
            exact ⟨_, rfl, _, rfl, notin_ints (sq_tup (s13 _ _ hb12)) ⟨_, rfl, ite2 (fun e => ⟨_, rfl, hT e _ _ (Same.refl _) rfl⟩) fun e => hF (by simpa using e) _ (Same.refl _)⟩⟩
          rw [List.map_id'] at l13
          refine ⟨Nat.zero_le _, fun t4 ht4 => ?_⟩
          have s4 := same_upd (o := .lst []) ht4
          have hgood : goodLot ties hs gs h l = (((dues hs gs h).filter fun d => !decide (d ∈ l)).isEmpty && tf (Joined ties l (srcs hs gs h))) := by
            unfold goodLot
            congr 1
            rw [Bool.eq_iff_iff, List.all_eq_true, List.isEmpty_iff, List.filter_eq_nil_iff]
            constructor
            · intro z d hd
              rw [z d hd]
              decide
            · intro z d hd
              have := z d hd
              simpa using this
          obtain ⟨H14, e14⟩ : ∃ H14, H14 = upd H13 t4 (.lst []) := ⟨_, rfl⟩
          have s14 : Same Hc H14 := by
            rw [e14]
            exact (s12.trans s13).trans s4
          refine eq_nilL (α := Int) (xs := (dues hs gs h).filter fun d => !decide (d ∈ l)) (by decide) (l13.mono s4) upd_same ⟨_, rfl, ite2 (fun e2 => ?_) (fun e2 => ?_)⟩
          · rw [e2, Bool.true_and] at hgood
            rw [← e14]
            have hb14 := s14 _ _ hb'
            have hsr14 := s14 _ _ hsrc
            -- all of the lot is loose as yet
            refine ⟨_, rfl, b, rfl, ⟨_, SqT.of hb14⟩, fun D5 hD5 => ?_⟩
            refine lcT (α := Int) (β := Int) (as := l) (fun _ => true) (fun d => d) (SqT.of hb14) hD5 (small1000 (by omega)) (paired_of_ints _) (fun v1 d H15 kF kT hm rx s15 hF hT => ⟨rfl, tyes (iteT ⟨_, rfl, hT rfl _ _ (Same.refl _) rx⟩)⟩) fun H15 s15 l15 => ?_
            rw [List.map_id', filter_tt] at l15
            have l15 := ls_ints.mp l15
            have hb15 := s15 _ _ hb14
            have hsr15 := s15 _ _ hsr14
            have sc15 := s14.trans s15
            -- the parts
            refine ⟨_, rfl, _, rfl, b, _, rfl, .inr (SqT.of hb15), fun l1 hl1 => ?_⟩
            have sA := same_upd (o := .lst (l.map V.int)) hl1
            refine ⟨_, rfl, l1, D1, _, _, rfl, rfl, upd_same, sA _ _ hsr15, Nat.le_of_lt (small1000 (by rw [List.length_map, List.length_map]; omega)), fun l2 hl2 => ?_⟩
            have sB := sA.trans (same_upd (o := .lst (l.map V.int ++ (srcs hs gs h).map V.int)) hl2)
            refine ⟨l2, l ++ srcs hs gs h, rfl, SqL.of (by rw [upd_same, List.map_append]), fun ns' p hp hpw hp0 => ?_⟩
            have sC := sB.trans (same_upd (o := .lst (ns'.map V.int)) hp0)
            refine ⟨p, _, rfl, .inl ⟨SqL.of upd_same, fun t3 ht3 => ?_⟩⟩
            have sD := sC.trans (same_upd (o := .tup (ns'.map V.int)) ht3)
            have hnl : ns'.length ≤ 12 := by
              rw [hp.length_eq, List.length_append]
              omega
            refine ⟨.ref pw, t3, many, ties, ns', rfl, Rp.mono (sc15.trans sD) rwc, wo.few, upd_same, by omega, fun pl H16 Lp s16 hnp hpl po hLl hLp => ?_⟩
            obtain ⟨ps, hps, prp⟩ := hpl
            have s1516 := sD.trans s16
            refine ⟨pl, rfl, ⟨_, SqL.of hps⟩, ?_⟩
            refine for_list (K := K) (a := pl) (xs := ps) (fun j σ H' => Same H16 H' ∧ ∃ (lo : Addr) (y11 y19 : Option V), σ = [some (.ref a), some (.ref r), some (.ref pw), some (.ref ha), some (.ref ga), some (.bl (tf (Comes ties hs gs))), some (.int h), some (.ref so), some (.ref D1), some (.ref D2), some (.ref L), y11, some .non, none, none, some (.int (lenKey l).1), some (.ref b), none, some (.ref lo), y19, none, none] ∧ H' lo = some (.lst (((Lp.take j).foldl (looseF (srcs hs gs h)) l).map V.int)))
              ⟨Same.refl _, D5, y11, y19, rfl, s1516 _ _ l15⟩ (fun j σ H' _ h => SqL.of (h.1 _ _ hps)) ?_ ?_
            · rintro j x σ H17 hx ⟨s17, lo, y11, y19, rfl, hlo⟩
              obtain ⟨part, hpt, rx⟩ := paired_at prp hx
              have rx : Rp H17 x part := Rp.mono s17 rx
              obtain ⟨tp, rfl, htp⟩ := rp_ints rx
              have hpl13 : part.length ≤ 13 := by
                have := hLp part (List.mem_of_getElem? hpt)
                omega
              have et : Lp.take (j + 1) = Lp.take j ++ [part] := by rw [List.take_add_one, hpt]; rfl
              obtain ⟨cur, ecur⟩ : ∃ cur, cur = (Lp.take j).foldl (looseF (srcs hs gs h)) l := ⟨_, rfl⟩
              have ef : (Lp.take (j + 1)).foldl (looseF (srcs hs gs h)) l = looseF (srcs hs gs h) cur part := by rw [et, List.foldl_append, ← ecur]; rfl
              have hcl : cur.length ≤ 6 := by
                have := loose_fold_len (srcs hs gs h) (Lp.take j) l
                rw [← ecur] at this
                omega
              rw [← ecur] at hlo
              have hsr17 := s17 _ _ (s1516 _ _ hsr15)
              refine ⟨_, rfl, tp, rfl, ⟨_, SqT.of htp⟩, fun D6 hD6 => ?_⟩
              refine lcT (α := Int) (β := Int) (as := part) (fun d => decide (d ∈ srcs hs gs h)) (fun d => d) (SqT.of htp) hD6 (small1000 (by omega)) (paired_of_ints _) (fun v1 d H18 kF kT hm rx s18 hF hT => ⟨rfl, ?_⟩) fun H18 s18 l18 => ?_
              · obtain rfl : v1 = .int d := rx
                exact ⟨_, rfl, _, rfl, in_ints (sq_lst (s18 _ _ hsr17)) ⟨_, rfl, ite2 (fun e => ⟨_, rfl, hT e _ _ (Same.refl _) rfl⟩) fun e => hF (by simpa using e) _ (Same.refl _)⟩⟩
              rw [List.map_id'] at l18
              refine ⟨Nat.zero_le _, fun t6 ht6 => ?_⟩
              have s6 := same_upd (o := .lst []) ht6
              obtain ⟨H19, e19⟩ : ∃ H19, H19 = upd H18 t6 (.lst []) := ⟨_, rfl⟩
              have s19 : Same H17 H19 := by
                rw [e19]
                exact s18.trans s6
              refine ne_nilL (α := Int) (xs := part.filter fun d => decide (d ∈ srcs hs gs h)) (by decide) (l18.mono s6) upd_same ⟨_, rfl, ite2 (fun e3 => ?_) (fun e3 => ?_)⟩
              · rw [← e19]
                have hlo19 := s19 _ _ hlo
                refine ⟨_, rfl, lo, rfl, ⟨_, SqL.of hlo19⟩, fun D7 hD7 => ?_⟩
                refine lcL (α := Int) (β := Int) (as := cur) (fun d => !decide (d ∈ part)) (fun d => d) (SqL.of hlo19) hD7 (small1000 (by omega)) (paired_of_ints _) (fun v1 d H20 kF kT hm rx s20 hF hT => ⟨rfl, ?_⟩) fun H20 s20 l20 => ?_
                · obtain rfl : v1 = .int d := rx
                  exact ⟨_, rfl, _, rfl, notin_ints (sq_tup (s20 _ _ (s19 _ _ htp))) ⟨_, rfl, ite2 (fun e => ⟨_, rfl, hT e _ _ (Same.refl _) rfl⟩) fun e => hF (by simpa using e) _ (Same.refl _)⟩⟩
                rw [List.map_id'] at l20
                have l20 := ls_ints.mp l20
                have eq1 : looseF (srcs hs gs h) cur part = cur.filter fun d => !decide (d ∈ part) := if_neg (by simpa using e3)
                exact ⟨(s17.trans s19).trans s20, D7, _, _, rfl, by rw [ef, eq1]; exact l20⟩
              · rw [← e19]
                have eq1 : looseF (srcs hs gs h) cur part = cur := if_pos (by simpa using e3)
                exact ⟨s17.trans s19, lo, _, _, rfl, by rw [ef, eq1]; exact s19 _ _ hlo⟩
            · rintro σ H17 ⟨s17, lo, y11, y19, rfl, hlo⟩
              have hlen : ps.length = Lp.length := Paired.length prp
              rw [hlen, List.take_length] at hlo
              have hJ : Lp.foldl (looseF (srcs hs gs h)) l = [] ↔ Joined ties l (srcs hs gs h) := loose_iff po fun x => hp.mem_iff
              refine ⟨_, rfl, Nat.zero_le _, fun t7 ht7 => ?_⟩
              have s7 := same_upd (o := .lst []) ht7
              have sFin := ((sc15.trans s1516).trans s17).trans s7
              refine eq_nilL (α := Int) (xs := Lp.foldl (looseF (srcs hs gs h)) l) (by decide) (ls_ints.mpr (s7 _ _ hlo)) upd_same ⟨_, rfl, ite2 (fun e3 => ?_) (fun e3 => ?_)⟩
              · have hg : goodLot ties hs gs h l = true := by
                  rw [hgood, tf_iff]
                  exact hJ.mp (List.isEmpty_iff.mp e3)
                exact ⟨_, rfl, sFin, .ref b, _, _, _, _, _, rfl, by rw [find_new hnone hLi hg]; exact ti_iff.mpr (sFin _ _ hb')⟩
              · have hg : goodLot ties hs gs h l = false := by
                  rw [hgood, ← Bool.not_eq_true, tf_iff]
                  exact fun z => e3 (List.isEmpty_iff.mpr (hJ.mpr z))
                exact ⟨sFin, .non, _, _, _, _, _, rfl, by rw [find_skip hnone hLi hg]; rfl⟩
          · have hg : goodLot ties hs gs h l = false := by
              rw [hgood, show ((dues hs gs h).filter fun d => !decide (d ∈ l)).isEmpty = false from by simpa using e2, Bool.false_and]
            exact ⟨(s12.trans s13).trans s4, .non, _, _, _, _, _, rfl, by rw [find_skip hnone hLi hg]; rfl⟩
        · obtain ⟨l0, hl0⟩ : ∃ l0, (LL.take i).find? (goodLot ties hs gs h) = some l0 := by
            cases q : (LL.take i).find? (goodLot ties hs gs h) with
            | none =>
              rw [q] at hres
              exact absurd (decide_eq_true (show bv = .non from hres)) e
            | some l0 => exact ⟨l0, rfl⟩
          exact iteF ⟨s12, bv, y11, _, _, y18, y19, rfl, by rw [find_keep hl0, ← hl0]; exact hres⟩
      · rintro σ H12 ⟨s12, bv, y11, y15, y16, y18, y19, rfl, hres⟩
        have hyl : ys.length = LL.length := by rw [eLL, List.length_map]
        rw [hyl, List.take_length] at hres
        have F12 := Fc.mono s12
        have t12 := tc.ext s12
        have hdue12 := s12 _ _ hdue
        -- joined_at
        refine ⟨_, rfl, _, rfl, _, rfl, _, rfl, .ref pw, .ref ha, .ref ga, many, ties, hs, gs, h, rfl, F12, t12, by omega, by omega, fun y H13 x13 t13 c1 c2 => ?_⟩
        obtain ⟨r0, hr1, hr2⟩ := c1 C
        obtain ⟨lr, rfl⟩ := joinRes_some C hr2
        have hb1 : dues hs gs h ≠ [] → Rp H12 bv lr := fun z => by
          have := joinRes_uniq (.inr ⟨z, LL, srtL, stbL, rfl⟩) hr2
          rw [this] at hres
          exact hres
        have hb2 : dues hs gs h = [] → lr = [] := fun z => by
          rcases hr2 with ⟨_, e⟩ | ⟨n, _⟩
          · exact Option.some.inj e
          · exact absurd z n
        have hll := joinRes_len hr2
        refine best_go rfl rfl (extN_lst x13 hdue12) (fun z => Rp.ext x13 (hb1 z)) hb2 fun v2 H14 s14 rv2 => ?_
        refine ⟨y, v2, lr, rfl, Rp.mono s14 (show Rp H13 y lr from hr1), rv2, by omega, fun H15 s15 => ⟨true, rfl, iteF ?_⟩⟩
        have x15 : ExtN H12 H15 := x13.trans (ExtN.of (s14.trans s15))
        -- fewest_by_height
        refine few_go rfl rfl rfl rfl rfl rfl (F12.ext x15) (t13.ext (s14.trans s15)) C (extN_lst x15 hdue12) (fun z => Rp.ext x15 (hb1 z)) hb2 hr2 fun H16 x16 => iteF ?_
        -- passing
        refine ⟨Nat.zero_le _, fun TL hTL => ?_⟩
        have sTL := same_upd (o := .lst []) hTL
        have F16 := (F12.ext x15).ext x16
        have rw16 := F16.w.1
        have hh16 := ti_iff.mp F16.w.2.2.1
        have hg16 := ti_iff.mp F16.w.2.2.2.1
        have hw16 : H16 pw = some (.tup [.int many, .ref pt]) ∨ ∃ pt', H16 pw = some (.tup [.int many, .ref pt']) := by
          obtain ⟨pw', pt', ts', e, hw', _, _⟩ := wb_open rw16
          cases e
          exact .inr ⟨pt', hw'⟩
        obtain ⟨pt2, hw16⟩ : ∃ pt', H16 pw = some (.tup [.int many, .ref pt']) := hw16.elim (fun z => ⟨_, z⟩) id
        have hdl := dset_len ho.2
        refine ⟨_, rfl, pw, _, 0, .int many, rfl, rfl, SqT.of (sTL _ _ hw16), atI_nat (j := 0) rfl, many, rfl, by omega, by omega, ?_⟩
        refine for_range (lo := 0) (n := many.toNat) (fun i σ H' => Same H16 H' ∧ ∃ (y11 y14 y17 y20 : Option V), σ = [some (.ref a), some (.ref r), some (.ref pw), some (.ref ha), some (.ref ga), some (.bl (tf (Comes ties hs gs))), some (.int h), some (.ref so), some (.ref D1), some (.ref D2), some (.ref L), y11, some bv, some (.ref TL), y14, y15, y16, y17, y18, y19, y20, none] ∧ H' TL = some (.lst ((((upto many.toNat).take i).map (passCnt ties hs gs)).map V.int)))
          ⟨sTL, y11, none, none, none, rfl, upd_same⟩ ?_ ?_
        · rintro i σ H17 hi ⟨s17, y11, y14, y17, y20, rfl, htl⟩
          obtain ⟨p, ep⟩ : ∃ p : Int, p = 0 + (i : Int) := ⟨_, rfl⟩
          rw [← ep]
          have p0 : 0 ≤ p := by omega
          have p1 : p < hs.length := by omega
          have hpi : (upto many.toNat)[i]? = some p := by
            rw [upto_at hi, ep, Int.zero_add]
          refine srtset_go (hs := hs) rfl (s17 _ _ hh16) (by omega) ho.2 fun ds H18 s18 hds0 hds => ?_
          have s168 := s17.trans s18
          refine ⟨ds, rfl, ⟨_, SqL.of hds⟩, ?_⟩
          refine for_list (K := K) (a := ds) (xs := (dset hs).map V.int) (fun j σ H' => Same H18 H' ∧ ∃ (y11 y20 : Option V), σ = [some (.ref a), some (.ref r), some (.ref pw), some (.ref ha), some (.ref ga), some (.bl (tf (Comes ties hs gs))), some (.int h), some (.ref so), some (.ref D1), some (.ref D2), some (.ref L), y11, some bv, some (.ref TL), some (.int p), y15, y16, some (.int (pcnt ties hs gs p j)), y18, y19, y20, none])
            ⟨Same.refl _, y11, y20, rfl⟩ (fun j σ H' _ h => SqL.of (h.1 _ _ hds)) ?_ ?_
          · rintro j x σ H19 hx ⟨s19, y11, y20, rfl⟩
            rw [List.getElem?_map] at hx
            obtain ⟨o, hoj, rfl⟩ := Option.map_eq_some_iff.mp hx
            have s169 := s168.trans s19
            refine ⟨_, rfl, _, rfl, ix_ints (s169 _ _ hg16) p0 (by omega) ⟨_, rfl, _, _, rfl, rfl, _, rfl, ite2 (fun e => ?_) (fun e => ?_)⟩⟩
            · have e := of_decide_eq_true e
              refine ⟨_, rfl, _, rfl, ix_ints (s169 _ _ hh16) p0 p1 ⟨_, _, rfl, rfl, _, rfl, ite2 (fun e2 => ?_) (fun e2 => ?_)⟩⟩
              · have e2 := of_decide_eq_true e2
                have hpo : p ∈ opn hs gs o := mem_opn.mpr ⟨⟨p0, p1⟩, by omega, by omega⟩
                have hol2 := opn_len hs gs o
                refine ⟨_, rfl, _, rfl, _, rfl, _, rfl, .ref ha, .ref ga, hs, gs, o, rfl, ti_iff.mpr (s169 _ _ hh16), ti_iff.mpr (s169 _ _ hg16), by omega, by omega, fun lo H20 s20 rlo => ?_⟩
                have s1620 := s169.trans s20
                refine ⟨.ref pw, lo, many, ties, opn hs gs o, rfl, Rp.mono s1620 rw16, wo.few, ti_iff.mp rlo, by omega, fun pl H21 Lp s21 hnp hpl po hLl hLp => ?_⟩
                obtain ⟨ps, hps, prp⟩ := hpl
                have s1621 := s1620.trans s21
                refine ⟨pl, rfl, ⟨_, SqL.of hps⟩, fun D5 hD5 => ?_⟩
                refine lcL (α := List Int) (β := List Int) (as := Lp) (fun part => decide (p ∈ part)) (fun x => x) (SqL.of hps) hD5 (small1000 (by omega)) prp (fun v1 part H22 kF kT hm rx s22 hF hT => ⟨rfl, ?_⟩) fun H22 s22 l22 => ?_
                · obtain ⟨t, rfl, ht'⟩ := rp_ints rx
                  exact ⟨_, rfl, _, rfl, in_ints (sq_tup ht') ⟨_, rfl, ite2 (fun e => ⟨_, rfl, hT e _ _ (Same.refl _) (ti_iff.mpr ht')⟩) fun e => hF (by simpa using e) _ (Same.refl _)⟩⟩
                rw [List.map_id'] at l22
                obtain ⟨part, rest, efl⟩ : ∃ part rest, (Lp.filter fun part => decide (p ∈ part)) = part :: rest := by
                  obtain ⟨part, k1, k2⟩ := po.2 p hpo
                  have hm : part ∈ Lp.filter fun part => decide (p ∈ part) := List.mem_filter.mpr ⟨k1, decide_eq_true k2⟩
                  cases q : Lp.filter fun part => decide (p ∈ part) with
                  | nil =>
                    rw [q] at hm
                    simp at hm
                  | cons a b => exact ⟨a, b, rfl⟩
                have hmem : part ∈ Lp.filter fun part => decide (p ∈ part) := by rw [efl]; exact List.mem_cons_self
                obtain ⟨k1, k2⟩ := List.mem_filter.mp hmem
                have hxp := po.of k1 (of_decide_eq_true k2)
                have hpl7 := hLp part k1
                rw [efl] at l22
                obtain ⟨ws, hws, prw⟩ := l22
                obtain ⟨v0, hv0, rv0⟩ := paired_at2 (i := 0) prw (y := part) rfl
                obtain ⟨tp, rfl, htp⟩ := rp_ints (show Rp _ v0 part from rv0)
                refine ⟨D5, ws, 0, .ref tp, rfl, rfl, SqL.of hws, atI_nat (j := 0) hv0, ?_⟩
                refine ⟨_, rfl, _, rfl, tp, rfl, ⟨_, SqT.of htp⟩, fun D6 hD6 => ?_⟩
                refine lcT (α := Int) (β := Int) (as := part) (fun d => decide (ht hs d = o)) (fun d => d) (SqT.of htp) hD6 (small1000 (by omega)) (paired_of_ints _) (fun v1 d H23 kF kT hm rx s23 hF hT => ⟨rfl, ?_⟩) fun H23 s23 l23 => ?_
                · obtain rfl : v1 = .int d := rx
                  obtain ⟨x0, x1⟩ := reach_opn hpo ((hxp d).mp hm)
                  refine ⟨_, rfl, _, rfl, ix_ints ((s1621.trans (s22.trans s23)) _ _ hh16) x0 x1 ⟨_, rfl, rfl, _, rfl, ?_⟩⟩
                  rw [dec_int]
                  exact ite2 (fun e => ⟨_, rfl, hT (by simpa using e) _ _ (Same.refl _) rfl⟩) fun e => hF (by simpa using e) _ (Same.refl _)
                rw [List.map_id'] at l23
                refine ⟨Nat.zero_le _, fun t8 ht8 => ?_⟩
                have s8 := same_upd (o := .lst []) ht8
                have sAll : Same H18 (upd H23 t8 (.lst [])) := (((s19.trans s20).trans s21).trans (s22.trans s23)).trans s8
                refine ne_nilL (α := Int) (xs := part.filter fun d => decide (ht hs d = o)) (by decide) (l23.mono s8) upd_same ⟨_, rfl, ite2 (fun e3 => ?_) (fun e3 => ?_)⟩
                · have hP : Pass ties hs gs p o := by
                    cases q : part.filter fun d => decide (ht hs d = o) with
                    | nil =>
                      rw [q] at e3
                      cases e3
                    | cons d r =>
                      have hm : d ∈ part.filter fun d => decide (ht hs d = o) := by rw [q]; exact List.mem_cons_self
                      obtain ⟨h1, h2⟩ := List.mem_filter.mp hm
                      exact ⟨d, (hxp d).mp h1, of_decide_eq_true h2⟩
                  exact ⟨_, _, rfl, rfl, sAll, some (.int o), some (.ref tp), by rw [pcnt_yes hoj e e2 hP] <;> rfl⟩
                · have hP : ¬ Pass ties hs gs p o := fun ⟨d, h1, h2⟩ => by
                    have hm : d ∈ part.filter fun d => decide (ht hs d = o) := List.mem_filter.mpr ⟨(hxp d).mpr h1, decide_eq_true h2⟩
                    have e4 : (part.filter fun d => decide (ht hs d = o)).isEmpty = true := by simpa using e3
                    rw [List.isEmpty_iff.mp e4] at hm
                    simp at hm
                  have e5 : pcnt ties hs gs p (j + 1) = pcnt ties hs gs p j + 0 := by rw [pcnt_no hoj fun z => hP z.2.2, Int.add_zero]
                  exact ⟨_, _, rfl, rfl, sAll, some (.int o), some (.ref tp), by rw [e5] <;> rfl⟩
              · exact ⟨s19, some (.int o), y20, by rw [pcnt_no hoj fun z => e2 (decide_eq_true z.2.1)] <;> rfl⟩
            · exact ⟨_, rfl, iteF ⟨s19, some (.int o), y20, by rw [pcnt_no hoj fun z => e (decide_eq_true z.1)] <;> rfl⟩⟩
          · rintro σ H19 ⟨s19, y11, y20, rfl⟩
            have epc : pcnt ties hs gs p ((dset hs).map V.int).length = passCnt ties hs gs p := by
              unfold pcnt passCnt PassN
              rw [List.length_map, List.take_length]
            rw [epc]
            have htl19 := s19 _ _ (s18 _ _ htl)
            refine ⟨_, rfl, .inl ⟨rfl, _, SqL.of htl19⟩, _, rfl, TL, _, _, rfl, rfl, htl19, small1000 (by rw [List.length_map, List.length_map, List.length_take]; omega), ?_⟩
            refine ⟨same_lst hTL (s168.trans s19), _, _, _, _, rfl, ?_⟩
            rw [upd_same, List.take_add_one, hpi, List.map_append, List.map_append]
            rfl
        · rintro σ H17 ⟨s17, y11, y14, y17, y20, rfl, htl⟩
          have eu : (upto many.toNat).take many.toNat = upto many.toNat := List.take_of_length_le (by rw [upto_len]; exact Nat.le_refl _)
          rw [eu] at htl
          refine ⟨_, rfl, _, rfl, _, rfl, .ref pw, .ref ha, .ref ga, many, ties, hs, gs, rfl, F16.mono s17, fun y H22 s22 p1 p2 => ?_⟩
          refine ⟨_, rfl, TL, _, rfl, .inl ⟨SqL.of (s22 _ _ htl), fun t ht' => ?_⟩⟩
          have sl2 := same_upd (o := .tup (((upto many.toNat).map (passCnt ties hs gs)).map V.int)) ht'
          have em : hs.length = many.toNat := by omega
          refine ⟨y, .ref t, (upto hs.length).map (passCnt ties hs gs), rfl, Rp.mono sl2 (p1 C), ?_, by rw [List.length_map, upto_len]; omega, fun H' _ => q H'⟩
          rw [em]
          exact rp_new ht' (paired_of_ints _)
end
end Sto

/-! text: SHead -/
set_option Elab.async false
set_option linter.all false
set_option maxRecDepth 100000
set_option maxHeartbeats 0
namespace Sto
open PySem PySem.Spec PyProof.Rows L2
/-! ### the head: what stands where, and the run -/
def dd_is_int : He.DefD := { at_ := ("is_int", none), name := "is_int", qual := "is_int", params := defArgs s_is_int, body := defBody s_is_int, scope := defScope s_is_int }
def dd_is_from : He.DefD := { at_ := ("is_from", none), name := "is_from", qual := "is_from", params := defArgs s_is_from, body := defBody s_is_from, scope := defScope s_is_from }
def dd_is_height : He.DefD := { at_ := ("is_height", none), name := "is_height", qual := "is_height", params := defArgs s_is_height, body := defBody s_is_height, scope := defScope s_is_height }
def dd_is_tie : He.DefD := { at_ := ("is_tie", none), name := "is_tie", qual := "is_tie", params := defArgs s_is_tie, body := defBody s_is_tie, scope := defScope s_is_tie }
def dd_need_web : He.DefD := { at_ := ("need_web", none), name := "need_web", qual := "need_web", params := defArgs s_need_web, body := defBody s_need_web, scope := defScope s_need_web }
def dd_need_heights : He.DefD := { at_ := ("need_heights", none), name := "need_heights", qual := "need_heights", params := defArgs s_need_heights, body := defBody s_need_heights, scope := defScope s_need_heights }
def dd_tied_to : He.DefD := { at_ := ("tied_to", none), name := "tied_to", qual := "tied_to", params := defArgs s_tied_to, body := defBody s_tied_to, scope := defScope s_tied_to }
def dd_hanging : He.DefD := { at_ := ("hanging", none), name := "hanging", qual := "hanging", params := defArgs s_hanging, body := defBody s_hanging, scope := defScope s_hanging }
def dd_everybody : He.DefD := { at_ := ("everybody", none), name := "everybody", qual := "everybody", params := defArgs s_everybody, body := defBody s_everybody, scope := defScope s_everybody }
def dd_lots_of : He.DefD := { at_ := ("lots_of", none), name := "lots_of", qual := "lots_of", params := defArgs s_lots_of, body := defBody s_lots_of, scope := defScope s_lots_of }
def dd_open_at : He.DefD := { at_ := ("open_at", none), name := "open_at", qual := "open_at", params := defArgs s_open_at, body := defBody s_open_at, scope := defScope s_open_at }
def dd_joins : He.DefD := { at_ := ("joins", none), name := "joins", qual := "joins", params := defArgs s_joins, body := defBody s_joins, scope := defScope s_joins }
def dd_join_of : He.DefD := { at_ := ("join_of", none), name := "join_of", qual := "join_of", params := defArgs s_join_of, body := defBody s_join_of, scope := defScope s_join_of }
def dd_piece_of : He.DefD := { at_ := ("piece_of", none), name := "piece_of", qual := "piece_of", params := defArgs s_piece_of, body := defBody s_piece_of, scope := defScope s_piece_of }
def dd_sources_of : He.DefD := { at_ := ("sources_of", none), name := "sources_of", qual := "sources_of", params := defArgs s_sources_of, body := defBody s_sources_of, scope := defScope s_sources_of }
def dd_need_both : He.DefD := { at_ := ("need_both", none), name := "need_both", qual := "need_both", params := defArgs s_need_both, body := defBody s_need_both, scope := defScope s_need_both }
def dd_is_reached : He.DefD := { at_ := ("is_reached", none), name := "is_reached", qual := "is_reached", params := defArgs s_is_reached, body := defBody s_is_reached, scope := defScope s_is_reached }
def dd_fewest_by_height : He.DefD := { at_ := ("fewest_by_height", none), name := "fewest_by_height", qual := "fewest_by_height", params := defArgs s_fewest_by_height, body := defBody s_fewest_by_height, scope := defScope s_fewest_by_height }
def dd_joined_at : He.DefD := { at_ := ("joined_at", none), name := "joined_at", qual := "joined_at", params := defArgs s_joined_at, body := defBody s_joined_at, scope := defScope s_joined_at }
def dd_passing : He.DefD := { at_ := ("passing", none), name := "passing", qual := "passing", params := defArgs s_passing, body := defBody s_passing, scope := defScope s_passing }
def dd_can_pass : He.DefD := { at_ := ("can_pass", none), name := "can_pass", qual := "can_pass", params := defArgs s_can_pass, body := defBody s_can_pass, scope := defScope s_can_pass }
def dd_law_taken : He.DefD := { at_ := ("_law_taken", none), name := "_law_taken", qual := "_law_taken", params := defArgs s_law_taken, body := defBody s_law_taken, scope := defScope s_law_taken }
def dd_law_pick : He.DefD := { at_ := ("_law_pick", none), name := "_law_pick", qual := "_law_pick", params := defArgs s_law_pick, body := defBody s_law_pick, scope := defScope s_law_pick }
def dd_law_alike : He.DefD := { at_ := ("_law_alike", none), name := "_law_alike", qual := "_law_alike", params := defArgs s_law_alike, body := defBody s_law_alike, scope := defScope s_law_alike }
def dd_law_web : He.DefD := { at_ := ("_law_web", none), name := "_law_web", qual := "_law_web", params := defArgs s_law_web, body := defBody s_law_web, scope := defScope s_law_web }
def dd_law_heights : He.DefD := { at_ := ("_law_heights", none), name := "_law_heights", qual := "_law_heights", params := defArgs s_law_heights, body := defBody s_law_heights, scope := defScope s_law_heights }
def dd_law_ties : He.DefD := { at_ := ("_law_ties", none), name := "_law_ties", qual := "_law_ties", params := defArgs s_law_ties, body := defBody s_law_ties, scope := defScope s_law_ties }
def dd_law_parts : He.DefD := { at_ := ("_law_parts", none), name := "_law_parts", qual := "_law_parts", params := defArgs s_law_parts, body := defBody s_law_parts, scope := defScope s_law_parts }
def dd_law_stoops : He.DefD := { at_ := ("_law_stoops", none), name := "_law_stoops", qual := "_law_stoops", params := defArgs s_law_stoops, body := defBody s_law_stoops, scope := defScope s_law_stoops }
def dd_law_after : He.DefD := { at_ := ("_law_after", none), name := "_law_after", qual := "_law_after", params := defArgs s_law_after, body := defBody s_law_after, scope := defScope s_law_after }
def dd_law_drawn : He.DefD := { at_ := ("_law_drawn", none), name := "_law_drawn", qual := "_law_drawn", params := defArgs s_law_drawn, body := defBody s_law_drawn, scope := defScope s_law_drawn }
def dd_law_open : He.DefD := { at_ := ("_law_open", none), name := "_law_open", qual := "_law_open", params := defArgs s_law_open, body := defBody s_law_open, scope := defScope s_law_open }
def dd_law_comes : He.DefD := { at_ := ("_law_comes", none), name := "_law_comes", qual := "_law_comes", params := defArgs s_law_comes, body := defBody s_law_comes, scope := defScope s_law_comes }
def dd_law_goal : He.DefD := { at_ := ("_law_goal", none), name := "_law_goal", qual := "_law_goal", params := defArgs s_law_goal, body := defBody s_law_goal, scope := defScope s_law_goal }
def dd_law : He.DefD := { at_ := ("law", none), name := "law", qual := "law", params := defArgs s_law, body := defBody s_law, scope := defScope s_law }
def ddAll : List He.DefD := [dd_is_int, dd_is_from, dd_is_height, dd_is_tie, dd_need_web, dd_need_heights, dd_tied_to, dd_hanging, dd_everybody, dd_lots_of, dd_open_at, dd_joins, dd_join_of, dd_piece_of, dd_sources_of, dd_need_both, dd_is_reached, dd_fewest_by_height, dd_joined_at, dd_passing, dd_can_pass, dd_law_taken, dd_law_pick, dd_law_alike, dd_law_web, dd_law_heights, dd_law_ties, dd_law_parts, dd_law_stoops, dd_law_after, dd_law_drawn, dd_law_open, dd_law_comes, dd_law_goal, dd_law]
def faAll : List He.Fa := [.glo "is_int", .glo "is_from", .glo "is_height", .glo "is_tie", .glo "need_web", .glo "need_heights", .glo "tied_to", .glo "hanging", .glo "everybody", .glo "lots_of", .glo "open_at", .glo "joins", .glo "join_of", .glo "piece_of", .glo "sources_of", .glo "need_both", .glo "is_reached", .glo "fewest_by_height", .glo "joined_at", .glo "passing", .glo "can_pass", .glo "_law_taken", .glo "_law_pick", .glo "_law_alike", .glo "_law_web", .glo "_law_heights", .glo "_law_ties", .glo "_law_parts", .glo "_law_stoops", .glo "_law_after", .glo "_law_drawn", .glo "_law_open", .glo "_law_comes", .glo "_law_goal", .glo "law", .int "MOST_PERSONS" 8, .int "MOST_HEIGHT" 1000, .free "isinstance", .free "int", .free "bool", .free "tuple", .free "list", .free "str", .free "len", .free "enumerate", .free "sorted", .free "range", .free "all", .free "any", .free "set", .free "dict"]
def looseA : List PySem.Str := ["StoopError", "BadWeb", "BadHeights", "BadNumber", "is_int", "is_from", "is_height", "is_tie", "need_web", "need_heights", "tied_to", "hanging", "everybody", "lots_of", "open_at", "joins", "join_of", "piece_of", "sources_of", "need_both"]
def looseB : List PySem.Str := ["is_reached", "fewest_by_height", "joined_at", "passing", "can_pass", "_law_taken", "_law_pick", "_law_alike", "_law_web", "_law_heights", "_law_ties", "_law_parts", "_law_stoops", "_law_after", "_law_drawn", "_law_open", "_law_comes", "_law_goal", "MOST_PERSONS", "MOST_HEIGHT"]
abbrev Rw : PySem.W.OpenRow := PySem.W.OpenLaw.row PySem.Challenge.rw_stoopers_k05_whole_joins
abbrev hk : PySem.W.Hook := He.hookX 4 faAll ddAll [] [("lots_of", none)] (fun _ => true)
def ob (s : PySem.W.SharedT) : He.AlX := He.obsX 4 faAll ddAll [] [("lots_of", none)] (fun _ => true) (HandSHeadRun.getT s)
theorem ob_eq (s : PySem.W.SharedT) : ob s = hk.obs s.abs := He.obsX_eq (HandSHeadRun.getT_eq s)
theorem run (w : World) : HandSHeadRun.RunEq Rw (PySem.W.view Rw.prog [45]) hk ob 4000 (looseA ++ looseB) w := by
  intro os
  kernel_rfl
end Sto

/-! text: S6 -/
set_option Elab.async false
set_option linter.all false
set_option maxRecDepth 100000
set_option maxHeartbeats 0
/-! the facts of the head put together -/
namespace Sto
open PySem PySem.Spec PyProof.Rows L2 LamX
section
variable {P : Program} {w : World} {K : PySem.W.Frag} {base h : Heap} {mg : Str → Option Value}
theorem df_is_int (X : K.In h) (G : h.Ns mainGlobals mg) (c : He.SaysD faAll ddAll K) : Df K mg "is_int" s_is_int ["value"] := by
  obtain ⟨fd, F⟩ := c.def_ 0 (d := dd_is_int) rfl
  exact ⟨_, fd, F, He.glo_ok X G (c.fact 0 (f := .glo "is_int") rfl), FunD.bindsN F fun _ _ _ _ _ _ us hl => match us, hl with | [_], _ => rfl⟩
theorem df_is_from (X : K.In h) (G : h.Ns mainGlobals mg) (c : He.SaysD faAll ddAll K) : Df K mg "is_from" s_is_from ["value", "least", "most"] := by
  obtain ⟨fd, F⟩ := c.def_ 1 (d := dd_is_from) rfl
  exact ⟨_, fd, F, He.glo_ok X G (c.fact 1 (f := .glo "is_from") rfl), FunD.bindsN F fun _ _ _ _ _ _ us hl => match us, hl with | [_, _, _], _ => rfl⟩
theorem df_is_height (X : K.In h) (G : h.Ns mainGlobals mg) (c : He.SaysD faAll ddAll K) : Df K mg "is_height" s_is_height ["value"] := by
  obtain ⟨fd, F⟩ := c.def_ 2 (d := dd_is_height) rfl
  exact ⟨_, fd, F, He.glo_ok X G (c.fact 2 (f := .glo "is_height") rfl), FunD.bindsN F fun _ _ _ _ _ _ us hl => match us, hl with | [_], _ => rfl⟩
theorem df_is_tie (X : K.In h) (G : h.Ns mainGlobals mg) (c : He.SaysD faAll ddAll K) : Df K mg "is_tie" s_is_tie ["value", "many"] := by
  obtain ⟨fd, F⟩ := c.def_ 3 (d := dd_is_tie) rfl
  exact ⟨_, fd, F, He.glo_ok X G (c.fact 3 (f := .glo "is_tie") rfl), FunD.bindsN F fun _ _ _ _ _ _ us hl => match us, hl with | [_, _], _ => rfl⟩
theorem df_need_web (X : K.In h) (G : h.Ns mainGlobals mg) (c : He.SaysD faAll ddAll K) : Df K mg "need_web" s_need_web ["value"] := by
  obtain ⟨fd, F⟩ := c.def_ 4 (d := dd_need_web) rfl
  exact ⟨_, fd, F, He.glo_ok X G (c.fact 4 (f := .glo "need_web") rfl), FunD.bindsN F fun _ _ _ _ _ _ us hl => match us, hl with | [_], _ => rfl⟩
theorem df_need_heights (X : K.In h) (G : h.Ns mainGlobals mg) (c : He.SaysD faAll ddAll K) : Df K mg "need_heights" s_need_heights ["web", "value"] := by
  obtain ⟨fd, F⟩ := c.def_ 5 (d := dd_need_heights) rfl
  exact ⟨_, fd, F, He.glo_ok X G (c.fact 5 (f := .glo "need_heights") rfl), FunD.bindsN F fun _ _ _ _ _ _ us hl => match us, hl with | [_, _], _ => rfl⟩
theorem df_tied_to (X : K.In h) (G : h.Ns mainGlobals mg) (c : He.SaysD faAll ddAll K) : Df K mg "tied_to" s_tied_to ["web", "person"] := by
  obtain ⟨fd, F⟩ := c.def_ 6 (d := dd_tied_to) rfl
  exact ⟨_, fd, F, He.glo_ok X G (c.fact 6 (f := .glo "tied_to") rfl), FunD.bindsN F fun _ _ _ _ _ _ us hl => match us, hl with | [_, _], _ => rfl⟩
theorem df_hanging (X : K.In h) (G : h.Ns mainGlobals mg) (c : He.SaysD faAll ddAll K) : Df K mg "hanging" s_hanging ["web", "person", "lot"] := by
  obtain ⟨fd, F⟩ := c.def_ 7 (d := dd_hanging) rfl
  exact ⟨_, fd, F, He.glo_ok X G (c.fact 7 (f := .glo "hanging") rfl), FunD.bindsN F fun _ _ _ _ _ _ us hl => match us, hl with | [_, _, _], _ => rfl⟩
theorem df_everybody (X : K.In h) (G : h.Ns mainGlobals mg) (c : He.SaysD faAll ddAll K) : Df K mg "everybody" s_everybody ["web"] := by
  obtain ⟨fd, F⟩ := c.def_ 8 (d := dd_everybody) rfl
  exact ⟨_, fd, F, He.glo_ok X G (c.fact 8 (f := .glo "everybody") rfl), FunD.bindsN F fun _ _ _ _ _ _ us hl => match us, hl with | [_], _ => rfl⟩
theorem df_lots_of (X : K.In h) (G : h.Ns mainGlobals mg) (c : He.SaysD faAll ddAll K) : DfC K mg "lots_of" s_lots_of ["some"] := by
  obtain ⟨fd, F⟩ := c.def_ 9 (d := dd_lots_of) rfl
  exact ⟨fd, F, He.glo_ok X G (c.fact 9 (f := .glo "lots_of") rfl), FunD.bindsN F fun _ _ _ _ _ _ us hl => match us, hl with | [_], _ => rfl⟩
theorem df_open_at (X : K.In h) (G : h.Ns mainGlobals mg) (c : He.SaysD faAll ddAll K) : Df K mg "open_at" s_open_at ["heights", "goal", "height"] := by
  obtain ⟨fd, F⟩ := c.def_ 10 (d := dd_open_at) rfl
  exact ⟨_, fd, F, He.glo_ok X G (c.fact 10 (f := .glo "open_at") rfl), FunD.bindsN F fun _ _ _ _ _ _ us hl => match us, hl with | [_, _, _], _ => rfl⟩
theorem df_joins (X : K.In h) (G : h.Ns mainGlobals mg) (c : He.SaysD faAll ddAll K) : Df K mg "joins" s_joins ["web", "some", "source"] := by
  obtain ⟨fd, F⟩ := c.def_ 11 (d := dd_joins) rfl
  exact ⟨_, fd, F, He.glo_ok X G (c.fact 11 (f := .glo "joins") rfl), FunD.bindsN F fun _ _ _ _ _ _ us hl => match us, hl with | [_, _, _], _ => rfl⟩
theorem df_join_of (X : K.In h) (G : h.Ns mainGlobals mg) (c : He.SaysD faAll ddAll K) : Df K mg "join_of" s_join_of ["web", "heights", "goal", "height"] := by
  obtain ⟨fd, F⟩ := c.def_ 12 (d := dd_join_of) rfl
  exact ⟨_, fd, F, He.glo_ok X G (c.fact 12 (f := .glo "join_of") rfl), FunD.bindsN F fun _ _ _ _ _ _ us hl => match us, hl with | [_, _, _, _], _ => rfl⟩
theorem df_piece_of (X : K.In h) (G : h.Ns mainGlobals mg) (c : He.SaysD faAll ddAll K) : Df K mg "piece_of" s_piece_of ["web", "heights", "goal", "person"] := by
  obtain ⟨fd, F⟩ := c.def_ 13 (d := dd_piece_of) rfl
  exact ⟨_, fd, F, He.glo_ok X G (c.fact 13 (f := .glo "piece_of") rfl), FunD.bindsN F fun _ _ _ _ _ _ us hl => match us, hl with | [_, _, _, _], _ => rfl⟩
theorem df_sources_of (X : K.In h) (G : h.Ns mainGlobals mg) (c : He.SaysD faAll ddAll K) : Df K mg "sources_of" s_sources_of ["web", "heights", "goal", "person"] := by
  obtain ⟨fd, F⟩ := c.def_ 14 (d := dd_sources_of) rfl
  exact ⟨_, fd, F, He.glo_ok X G (c.fact 14 (f := .glo "sources_of") rfl), FunD.bindsN F fun _ _ _ _ _ _ us hl => match us, hl with | [_, _, _, _], _ => rfl⟩
theorem df_need_both (X : K.In h) (G : h.Ns mainGlobals mg) (c : He.SaysD faAll ddAll K) : Df K mg "need_both" s_need_both ["web", "heights", "goal"] := by
  obtain ⟨fd, F⟩ := c.def_ 15 (d := dd_need_both) rfl
  exact ⟨_, fd, F, He.glo_ok X G (c.fact 15 (f := .glo "need_both") rfl), FunD.bindsN F fun _ _ _ _ _ _ us hl => match us, hl with | [_, _, _], _ => rfl⟩
theorem df_is_reached (X : K.In h) (G : h.Ns mainGlobals mg) (c : He.SaysD faAll ddAll K) : Df K mg "is_reached" s_is_reached ["web", "heights", "goal"] := by
  obtain ⟨fd, F⟩ := c.def_ 16 (d := dd_is_reached) rfl
  exact ⟨_, fd, F, He.glo_ok X G (c.fact 16 (f := .glo "is_reached") rfl), FunD.bindsN F fun _ _ _ _ _ _ us hl => match us, hl with | [_, _, _], _ => rfl⟩
theorem df_fewest_by_height (X : K.In h) (G : h.Ns mainGlobals mg) (c : He.SaysD faAll ddAll K) : Df K mg "fewest_by_height" s_fewest_by_height ["web", "heights", "goal"] := by
  obtain ⟨fd, F⟩ := c.def_ 17 (d := dd_fewest_by_height) rfl
  exact ⟨_, fd, F, He.glo_ok X G (c.fact 17 (f := .glo "fewest_by_height") rfl), FunD.bindsN F fun _ _ _ _ _ _ us hl => match us, hl with | [_, _, _], _ => rfl⟩
theorem df_joined_at (X : K.In h) (G : h.Ns mainGlobals mg) (c : He.SaysD faAll ddAll K) : Df K mg "joined_at" s_joined_at ["web", "heights", "goal", "height"] := by
  obtain ⟨fd, F⟩ := c.def_ 18 (d := dd_joined_at) rfl
  exact ⟨_, fd, F, He.glo_ok X G (c.fact 18 (f := .glo "joined_at") rfl), FunD.bindsN F fun _ _ _ _ _ _ us hl => match us, hl with | [_, _, _, _], _ => rfl⟩
theorem df_passing (X : K.In h) (G : h.Ns mainGlobals mg) (c : He.SaysD faAll ddAll K) : Df K mg "passing" s_passing ["web", "heights", "goal"] := by
  obtain ⟨fd, F⟩ := c.def_ 19 (d := dd_passing) rfl
  exact ⟨_, fd, F, He.glo_ok X G (c.fact 19 (f := .glo "passing") rfl), FunD.bindsN F fun _ _ _ _ _ _ us hl => match us, hl with | [_, _, _], _ => rfl⟩
theorem df_can_pass (X : K.In h) (G : h.Ns mainGlobals mg) (c : He.SaysD faAll ddAll K) : Df K mg "can_pass" s_can_pass ["web", "heights", "goal", "person", "height"] := by
  obtain ⟨fd, F⟩ := c.def_ 20 (d := dd_can_pass) rfl
  exact ⟨_, fd, F, He.glo_ok X G (c.fact 20 (f := .glo "can_pass") rfl), FunD.bindsN F fun _ _ _ _ _ _ us hl => match us, hl with | [_, _, _, _, _], _ => rfl⟩
theorem df_law_taken (X : K.In h) (G : h.Ns mainGlobals mg) (c : He.SaysD faAll ddAll K) : Df K mg "_law_taken" s_law_taken ["_law_row", "_law_many"] := by
  obtain ⟨fd, F⟩ := c.def_ 21 (d := dd_law_taken) rfl
  exact ⟨_, fd, F, He.glo_ok X G (c.fact 21 (f := .glo "_law_taken") rfl), FunD.bindsN F fun _ _ _ _ _ _ us hl => match us, hl with | [_, _], _ => rfl⟩
theorem df_law_pick (X : K.In h) (G : h.Ns mainGlobals mg) (c : He.SaysD faAll ddAll K) : Df K mg "_law_pick" s_law_pick ["_law_row", "_law_things"] := by
  obtain ⟨fd, F⟩ := c.def_ 22 (d := dd_law_pick) rfl
  exact ⟨_, fd, F, He.glo_ok X G (c.fact 22 (f := .glo "_law_pick") rfl), FunD.bindsN F fun _ _ _ _ _ _ us hl => match us, hl with | [_, _], _ => rfl⟩
theorem df_law_alike (X : K.In h) (G : h.Ns mainGlobals mg) (c : He.SaysD faAll ddAll K) : Df K mg "_law_alike" s_law_alike ["_law_found", "_law_due"] := by
  obtain ⟨fd, F⟩ := c.def_ 23 (d := dd_law_alike) rfl
  exact ⟨_, fd, F, He.glo_ok X G (c.fact 23 (f := .glo "_law_alike") rfl), FunD.bindsN F fun _ _ _ _ _ _ us hl => match us, hl with | [_, _], _ => rfl⟩
theorem df_law_web (X : K.In h) (G : h.Ns mainGlobals mg) (c : He.SaysD faAll ddAll K) : Df K mg "_law_web" s_law_web ["_law_row", "_law_most", "_law_more"] := by
  obtain ⟨fd, F⟩ := c.def_ 24 (d := dd_law_web) rfl
  exact ⟨_, fd, F, He.glo_ok X G (c.fact 24 (f := .glo "_law_web") rfl), FunD.bindsN F fun _ _ _ _ _ _ us hl => match us, hl with | [_, _, _], _ => rfl⟩
theorem df_law_heights (X : K.In h) (G : h.Ns mainGlobals mg) (c : He.SaysD faAll ddAll K) : Df K mg "_law_heights" s_law_heights ["_law_row", "_law_many", "_law_high"] := by
  obtain ⟨fd, F⟩ := c.def_ 25 (d := dd_law_heights) rfl
  exact ⟨_, fd, F, He.glo_ok X G (c.fact 25 (f := .glo "_law_heights") rfl), FunD.bindsN F fun _ _ _ _ _ _ us hl => match us, hl with | [_, _, _], _ => rfl⟩
theorem df_law_ties (X : K.In h) (G : h.Ns mainGlobals mg) (c : He.SaysD faAll ddAll K) : Df K mg "_law_ties" s_law_ties ["_law_web_here", "_law_person"] := by
  obtain ⟨fd, F⟩ := c.def_ 26 (d := dd_law_ties) rfl
  exact ⟨_, fd, F, He.glo_ok X G (c.fact 26 (f := .glo "_law_ties") rfl), FunD.bindsN F fun _ _ _ _ _ _ us hl => match us, hl with | [_, _], _ => rfl⟩
theorem df_law_parts (X : K.In h) (G : h.Ns mainGlobals mg) (c : He.SaysD faAll ddAll K) : Df K mg "_law_parts" s_law_parts ["_law_web_here", "_law_lot"] := by
  obtain ⟨fd, F⟩ := c.def_ 27 (d := dd_law_parts) rfl
  exact ⟨_, fd, F, He.glo_ok X G (c.fact 27 (f := .glo "_law_parts") rfl), FunD.bindsN F fun _ _ _ _ _ _ us hl => match us, hl with | [_, _], _ => rfl⟩
theorem df_law_stoops (X : K.In h) (G : h.Ns mainGlobals mg) (c : He.SaysD faAll ddAll K) : Df K mg "_law_stoops" s_law_stoops ["_law_web_here", "_law_heights_here"] := by
  obtain ⟨fd, F⟩ := c.def_ 28 (d := dd_law_stoops) rfl
  exact ⟨_, fd, F, He.glo_ok X G (c.fact 28 (f := .glo "_law_stoops") rfl), FunD.bindsN F fun _ _ _ _ _ _ us hl => match us, hl with | [_, _], _ => rfl⟩
theorem df_law_after (X : K.In h) (G : h.Ns mainGlobals mg) (c : He.SaysD faAll ddAll K) : Df K mg "_law_after" s_law_after ["_law_heights_here", "_law_pair"] := by
  obtain ⟨fd, F⟩ := c.def_ 29 (d := dd_law_after) rfl
  exact ⟨_, fd, F, He.glo_ok X G (c.fact 29 (f := .glo "_law_after") rfl), FunD.bindsN F fun _ _ _ _ _ _ us hl => match us, hl with | [_, _], _ => rfl⟩
theorem df_law_drawn (X : K.In h) (G : h.Ns mainGlobals mg) (c : He.SaysD faAll ddAll K) : Df K mg "_law_drawn" s_law_drawn ["_law_row", "_law_web_here", "_law_heights_here", "_law_most"] := by
  obtain ⟨fd, F⟩ := c.def_ 30 (d := dd_law_drawn) rfl
  exact ⟨_, fd, F, He.glo_ok X G (c.fact 30 (f := .glo "_law_drawn") rfl), FunD.bindsN F fun _ _ _ _ _ _ us hl => match us, hl with | [_, _, _, _], _ => rfl⟩
theorem df_law_open (X : K.In h) (G : h.Ns mainGlobals mg) (c : He.SaysD faAll ddAll K) : Df K mg "_law_open" s_law_open ["_law_heights_here", "_law_goal_here", "_law_height"] := by
  obtain ⟨fd, F⟩ := c.def_ 31 (d := dd_law_open) rfl
  exact ⟨_, fd, F, He.glo_ok X G (c.fact 31 (f := .glo "_law_open") rfl), FunD.bindsN F fun _ _ _ _ _ _ us hl => match us, hl with | [_, _, _], _ => rfl⟩
theorem df_law_comes (X : K.In h) (G : h.Ns mainGlobals mg) (c : He.SaysD faAll ddAll K) : Df K mg "_law_comes" s_law_comes ["_law_web_here", "_law_heights_here", "_law_goal_here"] := by
  obtain ⟨fd, F⟩ := c.def_ 32 (d := dd_law_comes) rfl
  exact ⟨_, fd, F, He.glo_ok X G (c.fact 32 (f := .glo "_law_comes") rfl), FunD.bindsN F fun _ _ _ _ _ _ us hl => match us, hl with | [_, _, _], _ => rfl⟩
theorem df_law_goal (X : K.In h) (G : h.Ns mainGlobals mg) (c : He.SaysD faAll ddAll K) : Df K mg "_law_goal" s_law_goal ["_law_row", "_law_web_here", "_law_heights_here"] := by
  obtain ⟨fd, F⟩ := c.def_ 33 (d := dd_law_goal) rfl
  exact ⟨_, fd, F, He.glo_ok X G (c.fact 33 (f := .glo "_law_goal") rfl), FunD.bindsN F fun _ _ _ _ _ _ us hl => match us, hl with | [_, _, _], _ => rfl⟩
theorem tx_of (X : K.In h) (G : h.Ns mainGlobals mg) (c : He.SaysD faAll ddAll K) : Tx mg := by
  obtain ⟨t1, h1⟩ := He.int_ok X G (c.fact 35 (f := .int "MOST_PERSONS" 8) rfl)
  obtain ⟨t2, h2⟩ := He.int_ok X G (c.fact 36 (f := .int "MOST_HEIGHT" 1000) rfl)
  exact ⟨He.free_ok X G (c.fact 37 (f := .free "isinstance") rfl),
    He.free_ok X G (c.fact 38 (f := .free "int") rfl),
    He.free_ok X G (c.fact 39 (f := .free "bool") rfl),
    He.free_ok X G (c.fact 40 (f := .free "tuple") rfl),
    He.free_ok X G (c.fact 41 (f := .free "list") rfl),
    He.free_ok X G (c.fact 42 (f := .free "str") rfl),
    He.free_ok X G (c.fact 43 (f := .free "len") rfl),
    He.free_ok X G (c.fact 44 (f := .free "enumerate") rfl),
    He.free_ok X G (c.fact 45 (f := .free "sorted") rfl),
    He.free_ok X G (c.fact 46 (f := .free "range") rfl),
    He.free_ok X G (c.fact 47 (f := .free "all") rfl),
    He.free_ok X G (c.fact 48 (f := .free "any") rfl),
    He.free_ok X G (c.fact 49 (f := .free "set") rfl),
    He.free_ok X G (c.fact 50 (f := .free "dict") rfl), ⟨_, h1, ⟨t1, rfl⟩⟩, ⟨_, h2, ⟨t2, rfl⟩⟩⟩
theorem law_ok {f0 : Addr} {fd : FuncData} (X : K.In h) (G : h.Ns mainGlobals mg) (c : He.SaysD faAll ddAll K) {Pt : Addr} (TB : TabB base mg (He.codeOf K ("lots_of", none)) Pt) (F0 : FunD K "law" "law" (defArgs s_law) (defBody s_law) (defScope s_law) [] [] f0 fd) : FnOk P w K mg base CX0 7 f0 fd ["_law_script"] (sp_law K Pt) := by
  have T := tx_of X G c
  have c_is_int := ca_is_int (P := P) (w := w) (base := base) T (df_is_int X G c)
  have c_is_from := ca_is_from (P := P) (w := w) (base := base) c_is_int T (df_is_from X G c)
  have c_is_height := ca_is_height (P := P) (w := w) (base := base) c_is_from T (df_is_height X G c)
  have c_is_tie := ca_is_tie (P := P) (w := w) (base := base) c_is_from T (df_is_tie X G c)
  have c_need_heights := ca_need_heights (P := P) (w := w) (base := base) c_is_height T (df_need_heights X G c)
  have c_need_web := ca_need_web (P := P) (w := w) (base := base) c_is_from c_is_tie T (df_need_web X G c)
  have c_need_both := ca_need_both (P := P) (w := w) (base := base) c_need_web c_need_heights T (df_need_both X G c)
  have c_everybody := ca_everybody (P := P) (w := w) (base := base) T (df_everybody X G c)
  have c_open_at := ca_open_at (P := P) (w := w) (base := base) T (df_open_at X G c)
  have c_law_open := ca_law_open (P := P) (w := w) (base := base) T (df_law_open X G c)
  have c_tied_to := ca_tied_to (P := P) (w := w) (base := base) T (df_tied_to X G c)
  have c_law_ties := ca_law_ties (P := P) (w := w) (base := base) T (df_law_ties X G c)
  have c_hanging := ca_hanging (P := P) (w := w) (base := base) c_tied_to T (df_hanging X G c)
  have c_joins := ca_joins (P := P) (w := w) (base := base) c_hanging T (df_joins X G c)
  have c_piece_of := ca_piece_of (P := P) (w := w) (base := base) c_open_at c_hanging T (df_piece_of X G c)
  have c_sources_of := ca_sources_of (P := P) (w := w) (base := base) c_piece_of T (df_sources_of X G c)
  have c_is_reached := ca_is_reached (P := P) (w := w) (base := base) c_everybody c_sources_of T (df_is_reached X G c)
  have c_can_pass := ca_can_pass (P := P) (w := w) (base := base) c_open_at c_hanging T (df_can_pass X G c)
  have c_lots_of := ca_lots_of (P := P) (w := w) (base := base) TB T (df_lots_of X G c)
  have c_join_of := ca_join_of (P := P) (w := w) (base := base) c_open_at c_lots_of c_joins T (df_join_of X G c)
  have c_joined_at := ca_joined_at (P := P) (w := w) (base := base) c_need_both c_is_height c_is_reached c_join_of T (df_joined_at X G c)
  have c_fewest_by_height := ca_fewest_by_height (P := P) (w := w) (base := base) c_need_both c_is_reached c_join_of T (df_fewest_by_height X G c)
  have c_passing := ca_passing (P := P) (w := w) (base := base) c_need_both c_is_reached c_everybody c_can_pass T (df_passing X G c)
  have c_law_taken := ca_law_taken (P := P) (w := w) (base := base) T (df_law_taken X G c)
  have c_law_pick := ca_law_pick (P := P) (w := w) (base := base) c_law_taken T (df_law_pick X G c)
  have c_law_heights := ca_law_heights (P := P) (w := w) (base := base) c_law_taken T (df_law_heights X G c)
  have c_law_web := ca_law_web (P := P) (w := w) (base := base) c_law_taken T (df_law_web X G c)
  have c_law_stoops := ca_law_stoops (P := P) (w := w) (base := base) c_law_ties T (df_law_stoops X G c)
  have c_law_after := ca_law_after (P := P) (w := w) (base := base) T (df_law_after X G c)
  have c_law_drawn := ca_law_drawn (P := P) (w := w) (base := base) c_law_stoops c_law_pick c_law_after T (df_law_drawn X G c)
  have c_law_goal := ca_law_goal (P := P) (w := w) (base := base) c_law_taken c_law_drawn c_law_pick T (df_law_goal X G c)
  have c_law_parts := ca_law_parts (P := P) (w := w) (base := base) T (df_law_parts X G c)
  have c_law_comes := ca_law_comes (P := P) (w := w) (base := base) c_law_open c_law_parts T (df_law_comes X G c)
  have c_law_alike := ca_law_alike (P := P) (w := w) (base := base) T (df_law_alike X G c)
  have c_law_alikeT := ca_law_alikeT (P := P) (w := w) (base := base) c_law_alike T (df_law_alike X G c)
  exact fn_law c_law_taken c_law_web c_law_heights c_law_goal c_law_comes c_joined_at c_passing c_law_open c_law_parts c_law_alikeT c_fewest_by_height T F0
end
theorem law_at (w : World) (mg : Str → Option Value) (fa : Addr) (h : Heap) (Y : hk.says w h) (G : h.Ns mainGlobals mg) (hmg : mg ("law" : Str) = some (.ref fa)) : ∃ K : PySem.W.Frag, K.In h ∧ LawAtS PySem.Challenge.rw_stoopers_k05_whole_joins w K CX0 7 63 "_law_script" mg fa h := by
  obtain ⟨K, X, c⟩ := Y
  have cd := c.t.d
  obtain ⟨fd, F⟩ := cd.def_ 34 (d := dd_law) rfl
  have e := hmg.symm.trans (He.glo_ok X G (cd.fact 34 (f := .glo "law") rfl))
  cases e
  have b := FunD.bindsA (ps := ["_law_script"]) F fun _ _ _ _ _ _ us hl => match us, hl with | [_], _ => rfl
  have m : (("lots_of", none) : He.Defn) ∈ [(("lots_of", none) : He.Defn)] := List.mem_singleton.mpr rfl
  have one : ∀ p, p ∈ [He.cT K ("lots_of", none)] → p = He.cT K ("lots_of", none) := fun p hp => List.mem_singleton.mp hp
  have m2 : He.cT K ("lots_of", none) ∈ [He.cT K ("lots_of", none)] := List.mem_singleton.mpr rfl
  refine ⟨K, X, fd, [He.cT K ("lots_of", none)], sp_law K (He.cT K ("lots_of", none)).2, fun p hp => ?_, fun p hp => ?_, fun p hp => ?_, fun s v => b s [v] rfl, fun H a ns hl _ hT hS => ⟨a, ns, rfl, hS, TabS.nil (hT _ m2), fun _ => rfl⟩, fun base _ _ hTB => ?_⟩
  · rw [one p hp]
    exact c.empty _ m
  · rw [one p hp]
    exact c.out _ m
  · rw [one p hp]
    exact PySem.W.codeHd_of_K X (c.hd _ m)
  · exact law_ok X G cd (hTB _ m2) F
end Sto
open PySem PySem.W PySem.Calls PyProof.Rows
theorem PySem.Challenge.cw_stoopers_k05_whole_joins_holds : PySem.Challenge.rw_stoopers_k05_whole_joins.Holds := by
  w_on; o_law
  refine HandSHeadRun.head_any (r := OpenLaw.row PySem.Challenge.rw_stoopers_k05_whole_joins) (q := view (OpenLaw.row PySem.Challenge.rw_stoopers_k05_whole_joins).prog [45]) (H := Sto.hk) (ob := Sto.ob) (M := 4000) (loose := Sto.looseA ++ Sto.looseB) (d := HandSHeadRun.topDef (OpenLaw.row PySem.Challenge.rw_stoopers_k05_whole_joins).prog 45) (kwd := []) Sto.ob_eq
    (by kernel_rfl) (fun s => by kernel_rfl) Sto.run (by kernel_rfl) (by kernel_rfl) (by kernel_rfl) (by rfl) (by first | assumption | decide +kernel) (by decide +kernel) ⟨rfl, rfl, rfl, rfl, rfl, by decide +kernel⟩ ?hw ?hc
  case hw => w_witness2
  case hc =>
    refine LamX.walk_ofTsE (l := PySem.Challenge.rw_stoopers_k05_whole_joins) (n := 63) (k := 7) (x := "_law_script") (CX := fun _ => L2.CX0) rfl (by decide) (by kernel_rfl) ⟨rfl, by decide, by decide⟩ ?F (fun _ _ _ _ _ z => z)
    intro w mg fa h Y G hmg0
    have hmg : mg ("law" : PySem.Str) = some (.ref fa) := by
      have e : (HandSHeadRun.topDef (OpenLaw.row PySem.Challenge.rw_stoopers_k05_whole_joins).prog 45).name = ("law" : PySem.Str) := by kernel_rfl
      rw [← e]
      exact hmg0
    exact Sto.law_at w mg fa h Y G hmg
