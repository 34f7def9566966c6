import PyProof.Rows.All
import Wide.All
import OpenK.AllK
import Wide.FinOn
import HandS.ForMost
import HandS.IsInst
import HandS.Wide
import HandS.WideMore
import HandS.WideBits
import HandS.Walk
import HandS.Zip
import HandS.Conv
import HandS.SortRule
import HandS.SortInts
import HandS.Deep
import HandS.Style
import HandS.Codes
import HandS.SetFor
import HandS.TupSets
import KE.GoesEnum
import HandS.ExcSuper
import KE.KSuper
import KE.RegKSuper
import HandS.ExcField
import HandS.WordsExc
import HandS.TryMany
import HandS.Lambda
import HandS.ExcIs
import HandS.EndOwn
import PySem.Challenge.RW_keyrules_k70_whole_clocks_that_go_fast_o
set_option Elab.async false
set_option linter.all false
set_option maxRecDepth 100000
namespace Kb
open PySem PySem.Spec PyProof.Rows L2
/-! ### isinstance(x, (A, B)): the tuple of classes is laid, not tracked -/
def tIsP (K : PySem.W.Frag) (A B : String) (te : TE) : TE := fun σ H Q => te σ H fun x H1 => ∃ t b, TyX K H1 x t ∧ PySem.W.kitAny K t [.type A, .type B] = some b ∧ Q (.bl b) H1
theorem two_ty {A B : String} : ∀ {us : List Value}, Vals [V.ty A, V.ty B] us → us = [Value.type A, Value.type B]
  | _, .cons a (.cons b .nil) => by cases a; cases b; rfl
section
variable {X : Cx} {p pos tpos : Pos} {e : Expr} {es : List Expr} {te : TE} {A B : String}
theorem pe_isP {kk : Nat} (he : PE X e te) (hg : Gl X "isinstance") (hm : X.mg "isinstance" = none) (hes : PA X es (tCons (tC (.ty A)) (tCons (tC (.ty B)) tNil)))
    (q1 : starEach [e, .Tuple es kk tpos] X.env = (false, eval e X.env) :: starEach [.Tuple es kk tpos] X.env := by rfl)
    (q2 : starEach [.Tuple es kk tpos] X.env = (false, eval (.Tuple es kk tpos) X.env) :: starEach [] X.env := by rfl)
    (q3 : (backTo pos (starEach [.Tuple es kk tpos] X.env)).any (·.1) = false := by rfl) :
    PE X (.Call (.Name "isinstance" p) [e, .Tuple es kk tpos] [] pos) (tIsP X.K A B te) := by
  constructor
  intro pp s0 sg H Q I hh
  refine wpAny_Call_Name_kw (ld_blt I hg hm PyProof.Rows.boot_isinstance ?_ (by decide) (by decide))
  refine PyProof.Rows.callWith_builtin1 ?_ q1 q3
  rw [q1]
  show wpAny _ _ (spliced ((false, eval e X.env) :: backTo pos (starEach [.Tuple es kk tpos] X.env))) _ _ s0
  refine Calls.spliced_cons (thn (he.run pp s0 sg H _ I hh) ?_)
  rintro u s1 ⟨x, H1, I1, rx, t, b, ty, hk, hq⟩
  rw [q2]
  show wpAny _ _ (spliced ((false, eval (.Tuple es kk tpos) X.env) :: backTo pos (starEach [] X.env))) _ _ s1
  refine Calls.spliced_cons (wpAny_Tuple_spliced (thn (hes.run tpos pp s1 sg H1 (fun ys H' => ys = [.ty A, .ty B] ∧ H' = H1) I1 ⟨rfl, rfl⟩) ?_))
  rintro us s2 ⟨ys, H2, I2, r2, rfl, rfl⟩
  have eu := two_ty r2
  subst eu
  refine ⟨by show 2 ≤ sizeLine; rw [sizeLine_eq]; omega, ?_⟩
  have I3 := I2.kept (h' := s2.heap.push { cls := .type "tuple", data := .seq [Value.type A, Value.type B].toArray }) (t' := s2.toks) fun b o z => Heap.get?_push_of_some _ z
  obtain ⟨P, Z, pz, hx⟩ := kit_of I3 rx ty
  refine Calls.spliced_nil ?_
  exact PySem.W.kia_tup Z I3.kIn pz (Heap.get?_push_size _ rfl) hk hx fun tk => ⟨.bl b, H2, I3.tok tk, rfl, hq⟩
end
/-! ### enumerate of a tuple -/
theorem meets_enT (l : Addr) (items : Array Value) :
    Meets (Builtin.«enumerate.__new__» ⟨[.type "enumerate", .ref l], []⟩) (fun _ R s => s.heap.IsTuple l items ∧
      R (.ok (.ret (.ref (s.heap.push { cls := .type "tuple_iterator", data := .fields #[.ref l, .int 0 0] }).objs.size)))
        { s with heap := (s.heap.push { cls := .type "tuple_iterator", data := .fields #[.ref l, .int 0 0] }).push { cls := .type "enumerate", data := .fields #[.none, .bool false, .ref s.heap.objs.size, rawInt 0, .none, .none] } }) :=
  .of_wp fun prog w A R s h => by
    obtain ⟨hp, gg, dd, tk, os⟩ := s
    obtain ⟨hl, h⟩ := h
    have hsub := sub_enumerate
    have q1 : ∀ {A' : Around} {E : Value → Shared → Prop} {Q : Value → Shared → Prop}, Q (.ref hp.objs.size) ⟨hp.push { cls := .type "tuple_iterator", data := .fields #[.ref l, .int 0 0] }, gg, dd, tk, os⟩ → wpAny (model prog w) A' (pyIter (.ref l)) Q E ⟨hp, gg, dd, tk, os⟩ :=
      fun q => wpAny_pyIter_tuple hl q
    wp_walk using q1
    refine wpAny_stack_any fun st => wpAny_pure ?_
    split
    · rename_i c _ _ _ _ _
      cases (c == Value.type "enumerate")
      · wp_walk using q1
        exact ⟨_, rfl, h⟩
      · wp_walk using q1
        exact ⟨_, rfl, h⟩
    · wp_walk using q1
      exact ⟨_, rfl, h⟩
theorem call_enT {prog : Program} {w : World} {A : Around} {E : Value → Shared → Prop} {s : Shared} {l : Addr} {items : Array Value} {Q : Value → Shared → Prop} (hL : s.heap.IsTuple l items)
    (h : ∀ h', IsEnum h' (s.heap.objs.size + 1) s.heap.objs.size 0 .none → h'.IsTupleIter s.heap.objs.size l 0 → h'.objs.size = s.heap.objs.size + 2 →
      (∀ b o, s.heap.get? b = some o → h'.get? b = some o) → Q (.ref (s.heap.objs.size + 1)) { s with heap := h' }) :
    wpAny (model prog w) A (call (.type "enumerate") [.ref l]) Q E s := by
  refine callType_new F.called_enumerate (by decide) (F.typeCall_enumerate_1 _) (F.newCall_enumerate_1 _) (fun obj => F.args_object_init_2 obj _) F.entry_enumerate_new (meets_enT l items) ⟨hL, ?_⟩
  have hz : (s.heap.push { cls := .type "tuple_iterator", data := .fields #[.ref l, .int 0 0] }).objs.size = s.heap.objs.size + 1 := Heap.size_push ..
  show _ ∧ _
  rw [hz]
  have he := Heap.get?_push_size (s.heap.push { cls := .type "tuple_iterator", data := .fields #[.ref l, .int 0 0] })
      (o := { cls := .type "enumerate", data := .fields #[.none, .bool false, .ref s.heap.objs.size, rawInt 0, .none, .none] }) rfl
  rw [hz] at he
  exact ⟨⟨_, he, rfl⟩, h _ he ⟨_, Heap.get?_push_of_some _ (Heap.get?_push_size _ rfl), rfl, rfl⟩ (by rw [Heap.size_push, hz]) fun b o z => Heap.get?_push_of_some _ (Heap.get?_push_of_some _ z)⟩
/-- the tuple at a, item by item with its number, each time a new pair -/
def IteT (K : PySem.W.Frag) (a : Addr) : It :=
  ⟨fun i H => ∃ xs x, SqT K H a xs ∧ xs[i]? = some x, fun i H v H' => ∃ T x, v = .ref T ∧ H T = none ∧ H' = upd H T (.tup [.int (i : Nat), x]) ∧ ∀ xs, SqT K H a xs → xs[i]? = some x, fun i H => ∃ xs : List V, SqT K H a xs ∧ xs.length ≤ i⟩
theorem turn_enT {P : Program} {w : World} {K : PySem.W.Frag} {elts : List Expr} {kk : Nat} {tpos : Pos} (a e it : Addr) :
    Turn P w K (.Tuple elts kk tpos) (IteT K a) [e, it] e (fun i h => (∃ old, IsEnum h e it ((i : Nat) : Int) old) ∧ h.IsTupleIter it a i ∧ e ≠ it ∧ a ≠ it) where
  mem := List.mem_cons_self
  obj := by
    rintro i h ⟨⟨old, he⟩, ⟨o, ho, hc, hd⟩, _⟩ b hb
    rcases List.mem_cons.mp hb with z | z
    · rw [z]; exact ⟨_, he, fun v q => by cases q⟩
    · rw [List.mem_singleton.mp z]
      exact ⟨o, ho, fun v q => by rw [hd] at q; cases q⟩
  keep := by
    rintro i h h' ⟨⟨old, he⟩, hi, hne⟩ k
    exact ⟨⟨old, k e List.mem_cons_self _ he⟩, hi.at fun o q => k it (List.mem_cons_of_mem _ List.mem_cons_self) o q, hne⟩
  item := by
    intro X hP hw hK hc i pp s sg H E I hf st hg
    subst hP hw hK
    obtain ⟨⟨old, he⟩, hit, hne, hai⟩ := st
    obtain ⟨xs, x, hq, hx⟩ := hg
    obtain ⟨its, rv, tp, hz⟩ := I.tuple hq
    have hil : i < its.toArray.size := by
      have e1 := rv.length
      have e2 := (List.getElem?_eq_some_iff.mp hx).1
      rw [List.size_toArray]
      omega
    have hef : e ∉ [it, a] := by
      intro z
      rcases List.mem_cons.mp z with z | z
      · exact hne z
      · have z' := List.mem_singleton.mp z
        subst z'
        obtain ⟨o, ho, hc', _⟩ := tp
        rw [he] at ho
        cases ho
        injection hc' with hc2; exact absurd hc2 (by decide)
    have helt : e < s.heap.objs.size := Heap.lt_size he
    have hitl : it < s.heap.objs.size := by obtain ⟨_, q, _⟩ := hit; exact Heap.lt_size q
    refine wpAny_pyNext_enum_itemD (Draws.tuple (show X.A.in1.handled = none from I.ok.hd hc) it a hai its.toArray) he (show _ ∧ _ from ⟨hit, tp⟩) hil hne hef fun u h' tk hP ho hs' hT hsz hk => ?_
    refine ⟨_, rfl, wpAny_letOwnedTupleGo_enum (s := { s with heap := h', toks := tk + 1 }) ho fun h2 he2 sb => ?_⟩
    have hT2 : h2.get? s.heap.objs.size = some { cls := .type "tuple", data := .seq #[.int i tk, u] } := (sb.2 _ (Nat.ne_of_gt helt)).trans hT
    have hxu : RelV x u := by
      obtain ⟨u', e1, r1⟩ := rv.get hx
      have e2 : its.toArray[i]? = some u := hP
      rw [List.getElem?_toArray, e1] at e2
      cases e2
      exact r1
    have I1 : Inv X pp sg (upd H s.heap.objs.size (.tup [.int (i : Nat), x])) { s with heap := h2, toks := tk + 1 } :=
      I.turnedNew (ch := [e, it]) (fun b ob hb q => (sb.2 b (fun z => hb (by simp [z]))).trans (hk b ob (fun z => hb (by simp [z])) (fun z => hb (by simp [z])) q)) hf (Nat.le_refl _)
        ⟨by show 2 ≤ sizeLine; decide, [.int i tk, u], .cons ⟨_, rfl⟩ (.cons hxu .nil), ⟨_, hT2, rfl, _, rfl⟩⟩
    refine ⟨.ref s.heap.objs.size, _, I1, rfl, ⟨_, x, rfl, I.hok.fresh (Nat.le_refl _), rfl, fun ys hy => by rw [I.tuple_inj hy hq]; exact hx⟩, ⟨⟨u, ?_⟩, hs'.1.at fun o q => (sb.2 it (Ne.symm hne)).trans q, hne, hai⟩, fun b hb => ?_⟩
    · have e1 : ((i + 1 : Nat) : Int) = (i : Int) + 1 := by omega
      rw [e1]
      exact he2
    · have hb' : b < s.heap.objs.size := by
        rcases List.mem_cons.mp hb with z | z
        · rw [z]; exact helt
        · rw [List.mem_singleton.mp z]; exact hitl
      rw [upd_ne (Nat.ne_of_lt hb')]
      exact (hf b hb).1
  done := by
    intro X hP hw hK hc i pp s sg H E I hf st hg
    subst hP hw hK
    obtain ⟨⟨old, he⟩, hit, hne, hai⟩ := st
    obtain ⟨xs, hq, hx⟩ := hg
    obtain ⟨its, rv, tp, hz⟩ := I.tuple hq
    obtain ⟨f0, f1, f2, f3, f4, f5⟩ := hf it (List.mem_cons_of_mem _ List.mem_cons_self)
    have hl := rv.length
    have hT : s.TypeIs (.ref e) "enumerate" := ⟨_, he, rfl⟩
    unfold pyNext
    refine wpAny_bind (wpAny_attempt (wpAny_callSpecial?_slot (name := Str.ofString "__next__") hT F.slot_enumerate_next
      (wpAny_call_entry F.slot_enumerate_next hT F.entry_enumerate_next ?_ (F.args_enumerate_next_1 _))))
    show wpAny _ _ (field (.ref e) 2 >>= _) _ _ _
    refine wpAny_bind (wpAny_field he rfl (x := .ref it) rfl ?_)
    refine wpAny_bind (wpAny_nextOf_tuple_end (I.ok.hd hc) hit tp (by simp; omega) fun h' x1 he' hx' => ?_)
    obtain ⟨o, ho, hc1⟩ := hx'
    refine wpAny_bind (wpAny_isInstance (T := "StopIteration") (b := true) ⟨o, ho, hc1⟩ isSubtype_stop ?_)
    exact wpAny_pure ⟨rfl, I.turned (t' := s.toks) (fun b o hb q => he' b o hb q) f0 f1 f3 f4 f5⟩
  self := fun A i s Q E st h => let ⟨⟨_, he⟩, _⟩ := st; wpAny_pyIter_enum he h
/-- enumerate(v), v a list or a tuple -/
def iEnumA (K : PySem.W.Frag) (ta : TA) : TI := fun σ H R => ta σ H fun vs H1 => ∃ a xs, vs = [.ref a] ∧ ((SqL K H1 a xs ∧ R (Ite K a) H1) ∨ (SqT K H1 a xs ∧ R (IteT K a) H1))
theorem pi_enumA {X : Cx} {e : Expr} {ta : TA} {p pos tpos : Pos} {elts : List Expr} {kk : Nat} (hg : Gl X "enumerate") (hm : X.mg "enumerate" = none) (ha : PA X [e] ta) (hs : starEach [e] X.env = [(false, eval e X.env)] := by rfl) :
    PI X (.Tuple elts kk tpos) (.Call (.Name "enumerate" p) [e] [] pos) (iEnumA X.K ta) := by
  constructor
  intro pp s0 sg H R I hh
  refine Call_ (ld_blt I hg hm boot_enumerate (PyProof.Rows.callWith_type1 (thn (ha.run pos pp s0 sg H _ I hh) ?_) hs rfl))
  rintro us s1 ⟨vs, H1, I1, r1, a, xs, rfl, hq⟩
  have eu : us = [Value.ref a] := by
    cases r1 with
    | cons r rr =>
      cases rr
      cases r
      rfl
  subst eu
  have hmem : ∀ b ∈ [s1.heap.objs.size + 1, s1.heap.objs.size], s1.heap.objs.size ≤ b := by
    intro b hb
    rcases List.mem_cons.mp hb with z | z
    · rw [z]; exact Nat.le_succ _
    · rw [List.mem_singleton.mp z]; exact Nat.le_refl _
  rcases hq with ⟨hq, q⟩ | ⟨hq, q⟩
  · obtain ⟨its, rv, pl, hz⟩ := I1.list hq
    refine call_enumerate_list pl.isList fun h' he hit hsz hk => wpAny_pyIter_enum he ?_
    exact ⟨s1.heap.objs.size + 1, [s1.heap.objs.size + 1, s1.heap.objs.size], _, _, H1, rfl, I1.kept (t' := s1.toks) hk, turn_enum a (s1.heap.objs.size + 1) s1.heap.objs.size, ⟨⟨.none, he⟩, hit, Nat.succ_ne_self _⟩,
      fun b hb => I1.fpOk (hmem b hb) (I1.hok.fresh (hmem b hb)), q⟩
  · obtain ⟨its, rv, tp, hz⟩ := I1.tuple hq
    refine call_enT tp fun h' he hit hsz hk => wpAny_pyIter_enum he ?_
    exact ⟨s1.heap.objs.size + 1, [s1.heap.objs.size + 1, s1.heap.objs.size], _, _, H1, rfl, I1.kept (t' := s1.toks) hk, turn_enT a (s1.heap.objs.size + 1) s1.heap.objs.size,
      ⟨⟨.none, he⟩, hit, Nat.succ_ne_self _, Nat.ne_of_lt (by obtain ⟨o, ho, _⟩ := tp; exact Heap.lt_size ho)⟩, fun b hb => I1.fpOk (hmem b hb) (I1.hok.fresh (hmem b hb)), q⟩
/-- both kinds as one walk -/
theorem walk_enT {K : PySem.W.Frag} {a : Addr} {xs : List V} : Walk (IteT K a) xs.length (fun H => SqT K H a xs) (YPair (fun i => some (.int (i : Nat))) (fun i => xs[i]?)) := by
  refine ⟨fun i _ hi q => ⟨xs, xs[i], q, by simp [hi]⟩, fun _ q => ⟨xs, q, Nat.le_refl _⟩, ?_⟩
  rintro i H v H' _ q ⟨T, x, h1, h2, h3, h4⟩
  exact ⟨T, .int (i : Nat), x, h1, h2, h3, rfl, h4 xs q⟩
end Kb
namespace Kb
open PySem PySem.Spec PyProof.Rows L2
/-! ### heaps -/
theorem same_new {H : Hp} {p : Addr} {o : HO} (h : H p = none) : Same H (upd H p o) := fun b x e => by rw [upd_ne (ne_of_none e h)]; exact e
theorem Same.tup {K : PySem.W.Frag} {H H' : Hp} {a : Addr} {xs : List V} (e : Same H H') (h : SqT K H a xs) : SqT K H' a xs := by
  rcases h with (h | ⟨o, h⟩) | h
  · exact .inl (.inl (e _ _ h))
  · exact .inl (.inr ⟨o, e _ _ h⟩)
  · exact .inr h
/-- the heap without what stands at b -/
def hid (b : Addr) (H : Hp) : Hp := fun a => if a = b then none else H a
theorem hid_le (b : Addr) (H : Hp) : Same (hid b H) H := by
  intro a o h
  unfold hid at h
  split at h
  · cases h
  · exact h
theorem hid_mono {b : Addr} {H H' : Hp} (e : Same H H') : Same (hid b H) (hid b H') := by
  intro a o h
  unfold hid at h ⊢
  split at h
  · cases h
  · rename_i n
    rw [if_neg n]
    exact e _ _ h
theorem hid_at {b a : Addr} {H : Hp} {o : HO} (h : H a = some o) (n : a ≠ b) : hid b H a = some o := by
  unfold hid
  rw [if_neg n]
  exact h
theorem hid_free {b a : Addr} {H : Hp} (h : H a = none) : hid b H a = none := by
  unfold hid
  split
  · rfl
  · exact h
theorem Same.mk2 {H : Hp} {p q : Addr} {o u : HO} (h : H p = none) (h2 : (upd H p o) q = none) : Same H (upd (upd H p o) q u) := (same_new h).trans (same_new h2)
theorem back {H H' : Hp} {p : Addr} (e : Same H H') (h : H' p = none) : H p = none := e.free h
theorem hid_upd {b : Addr} {H : Hp} {o : HO} : hid b (upd H b o) = hid b H := by
  funext a
  unfold hid
  split
  · rfl
  · rename_i n
    rw [upd_ne n]
/-! ### natural numbers as values -/
abbrev nv (n : Nat) : V := .int (n : Int)
theorem cast1 {x : Nat} : ((1 : Int) = (x : Int)) = (1 = x) := by rw [eq_iff_iff]; omega
theorem cast0 {x : Nat} : ((0 : Int) = (x : Int)) = (0 = x) := by rw [eq_iff_iff]; omega
abbrev nvs (l : List Nat) : List V := l.map nv
section
variable {X : Cx}
theorem op_orU : OpR X (binaryOp .BitOr) (fun x y H Q => ∃ n m : Nat, x = nv n ∧ y = nv m ∧ Q (nv (n ||| m)) H) := by
  intro pp s sg H x y v u Q I rx ry h
  obtain ⟨n, m, rfl, rfl, q⟩ := h
  refine op_or pp s sg H _ _ v u Q I rx ry ⟨_, _, rfl, rfl, ?_⟩
  show Q (.int (Builtin.bitOr (n : Int) (m : Int))) H
  rw [bitOr_nn (Int.natCast_nonneg _) (Int.natCast_nonneg _), Int.toNat_natCast, Int.toNat_natCast]
  exact q
theorem bitAnd_nn {n m : Nat} : Builtin.bitAnd (n : Int) (m : Int) = ((n &&& m : Nat) : Int) := by
  unfold Builtin.bitAnd
  rw [decide_eq_true (Int.natCast_nonneg n), decide_eq_true (Int.natCast_nonneg m)]
  rfl
theorem op_andU : OpR X (binaryOp .BitAnd) (fun x y H Q => ∃ n m : Nat, x = nv n ∧ y = nv m ∧ Q (nv (n &&& m)) H) := by
  intro pp s sg H x y v u Q I rx ry h
  obtain ⟨n, m, rfl, rfl, q⟩ := h
  refine op_and pp s sg H _ _ v u Q I rx ry ⟨_, _, rfl, rfl, ?_⟩
  show Q (.int (Builtin.bitAnd (n : Int) (m : Int))) H
  rw [bitAnd_nn]
  exact q
theorem op_shrU : OpR X (binaryOp .RShift) (fun x y H Q => ∃ n k : Nat, x = nv n ∧ y = nv k ∧ Q (nv (n >>> k)) H) := by
  intro pp s sg H x y v u Q I rx ry h
  obtain ⟨n, k, rfl, rfl, q⟩ := h
  refine op_shrN pp s sg H _ _ v u Q I rx ry ⟨_, _, rfl, rfl, ?_⟩
  rw [Nat.shiftRight_eq_div_pow] at q
  have e : ((n : Int) / 2 ^ k) = ((n / 2 ^ k : Nat) : Int) := by
    rw [Int.natCast_ediv, Int.natCast_pow]
    rfl
  rw [e]
  exact q
theorem op_shlU : OpR X (binaryOp .LShift) (fun x y H Q => ∃ k : Nat, x = .int 1 ∧ y = nv k ∧ k ≤ 1000000 ∧ Q (nv (1 <<< k)) H) := by
  intro pp s sg H x y v u Q I rx ry h
  obtain ⟨k, rfl, rfl, hk, q⟩ := h
  refine op_oneShl pp s sg H _ _ v u Q I rx ry ⟨_, rfl, rfl, by omega, ?_⟩
  have e : (2 : Int) ^ k = ((1 <<< k : Nat) : Int) := by
    rw [Nat.shiftLeft_eq, Nat.one_mul, Int.natCast_pow]
    rfl
  rw [e]
  exact q
end
/-! ### what isn't a whole number -/
def NotInt (K : PySem.W.Frag) (H : Hp) (x : V) : Prop := ∃ t b1 b2, TyX K H x t ∧ PySem.W.kitOne K t (.type "int") = some b1 ∧ PySem.W.kitOne K t (.type "bool") = some b2 ∧ (b1 && !b2) = false
theorem kit_ii {K : PySem.W.Frag} : PySem.W.kitOne K (.type "int") (.type "int") = some true := kit_ty (by decide +kernel)
theorem kit_ib {K : PySem.W.Frag} : PySem.W.kitOne K (.type "int") (.type "bool") = some false := kit_ty (by decide +kernel)
theorem kit_lp {K : PySem.W.Frag} : PySem.W.kitAny K (.type "list") [.type "list", .type "tuple"] = some true :=
  kitAny_cons (b := true) (kit_ty (by decide +kernel)) (fun h => nomatch h) fun _ => rfl
theorem kit_tp {K : PySem.W.Frag} : PySem.W.kitAny K (.type "tuple") [.type "list", .type "tuple"] = some true :=
  kitAny_cons (b := false) (kit_ty (by decide +kernel)) (fun _ => kitAny_cons (b := true) (kit_ty (by decide +kernel)) (fun h => nomatch h) fun _ => rfl) fun h => nomatch h
theorem tyInt {K : PySem.W.Frag} {H : Hp} (i : Int) : TyX K H (.int i) (.type "int") := .base (.int i)
/-- a list or a tuple of these -/
def Seq (K : PySem.W.Frag) (H : Hp) (a : Addr) (xs : List V) : Prop := SqL K H a xs ∨ SqT K H a xs
theorem Same.sq {K : PySem.W.Frag} {H H' : Hp} {a : Addr} {xs : List V} (e : Same H H') (h : Seq K H a xs) : Seq K H' a xs := h.elim (fun h => .inl (Same.seq e h)) fun h => .inr (Kb.Same.tup e h)
theorem tyL {K : PySem.W.Frag} {H : Hp} {a : Addr} {xs : List V} (h : SqL K H a xs) : TyX K H (.ref a) (.type "list") := by
  rcases h with (h | ⟨o, h⟩) | ⟨o, its, n, hk, hc, _⟩
  · exact .base (.lst h)
  · exact .base (.frz h)
  · exact .kList hk hc
theorem tyT {K : PySem.W.Frag} {H : Hp} {a : Addr} {xs : List V} (h : SqT K H a xs) : TyX K H (.ref a) (.type "tuple") := by
  rcases h with (h | ⟨o, h⟩) | ⟨o, its, n, hk, hc, _⟩
  · exact .base (.tup h)
  · exact .fTuple h
  · exact .kTuple hk hc
/-! ### for over a list or a tuple -/
def iSeq (K : PySem.W.Frag) (tl : TE) : TI := fun σ H R => tl σ H fun x H1 => ∃ a, x = .ref a ∧ (((∃ xs, SqL K H1 a xs) ∧ R (Itl K a) H1) ∨ ((∃ xs, SqT K H1 a xs) ∧ R (Itt K a) H1))
theorem pi_seq {X : Cx} {tg l : Expr} {tl : TE} (hl : PE X l tl) : PI X tg l (iSeq X.K tl) := by
  constructor
  intro pp s0 sg H R I hh
  refine thn (hl.run pp s0 sg H _ I hh) ?_
  rintro v s1 ⟨x, H1, I1, r1, a, rfl, q⟩
  cases r1
  have new : ∀ b ∈ [s1.heap.objs.size], FpOk X pp H1 b := fun b hb => by
    rw [List.mem_singleton.mp hb]
    exact I1.fpOk (Nat.le_refl _) (I1.hok.fresh (Nat.le_refl _))
  rcases q with ⟨⟨xs, hq⟩, q⟩ | ⟨⟨xs, hq⟩, q⟩
  · obtain ⟨its, _, pl, _⟩ := I1.list hq
    exact wpAny_pyIter_list pl.isList ⟨_, _, _, _, H1, rfl, I1.kept (t' := s1.toks) fun b o z => Heap.get?_push_of_some _ z, turn_list a s1.heap.objs.size, ⟨_, Heap.get?_push_size _ rfl, rfl, rfl⟩, new, q⟩
  · obtain ⟨its, _, tp, _⟩ := I1.tuple hq
    exact wpAny_pyIter_tuple (show s1.heap.IsTuple a its.toArray from tp) ⟨_, _, _, _, H1, rfl, I1.kept (t' := s1.toks) fun b o z => Heap.get?_push_of_some _ z, turn_tuple a s1.heap.objs.size, ⟨_, Heap.get?_push_size _ rfl, rfl, rfl⟩, new, q⟩
end Kb
namespace Kb
open PySem PySem.Spec PyProof.Rows L2
/-! ### the rules with the written part told by its name -/
section
variable {X : Cx} {K : PySem.W.Frag} {a b c e o : Expr} {es : List Expr} {ta tb te to tl : TE} {t : TA} {pos apos cpos p tpos : Pos} {tg : Expr} {elts : List Expr} {kk : Nat}
theorem pe_globI {x : Str} {n : Int} (hg : Gl X x) (hm : ∃ t, X.mg x = some (.int n t)) (hd : (x == ("__debug__" : Str)) = false := by decide) : PE X (.Name x pos) (tC (.int n)) := by
  obtain ⟨t, e⟩ := hm
  exact pe_glob hg e ⟨_, rfl⟩ hd
theorem truthK (hK : X.K = K) (ha : PE X a ta) (he : ∀ whole, isTrue a X.env whole = (do let v ← whole; standAt a.pos; holding [v] (truthy v))) :
    PT X a (fun σ H Q => ta σ H fun x H' => ∃ k, TruV K x H' k ∧ Q k H') := by subst hK; exact pt_truth ha he
theorem ixL (hK : X.K = K) : IxR X (rIxL K) := by subst hK; exact ix_list
theorem ixT (hK : X.K = K) : IxR X (rIxT K) := by subst hK; exact ix_tup
/-- of a list or a tuple -/
def rIxA (K : PySem.W.Frag) : R2 := fun x y H Q => ∃ p xs i v, x = .ref p ∧ y = .int i ∧ Seq K H p xs ∧ atI xs i = some v ∧ Q v H
theorem ixA (hK : X.K = K) : IxR X (rIxA K) := by
  subst hK
  intro value slice pp s sg H x y v u Q I rx ry h hs
  obtain ⟨q, xs, i, z, rfl, rfl, hq, hz, k⟩ := h
  rcases hq with hq | hq
  · exact ix_list value slice pp s sg H _ _ v u Q I rx ry ⟨q, xs, i, z, rfl, rfl, hq, hz, k⟩ hs
  · exact ix_tup value slice pp s sg H _ _ v u Q I rx ry ⟨q, xs, i, z, rfl, rfl, hq, hz, k⟩ hs
def rLenA (K : PySem.W.Frag) : List V → Hp → VK → Prop := fun xs H Q => ∃ q ys, xs = [.ref q] ∧ Seq K H q ys ∧ Q (.int (ys.length : Nat)) H
theorem lenK (hK : X.K = K) : CallR X (.builtin "len") (rLenA K) := by subst hK; exact call_len_seq
def rListOf (K : PySem.W.Frag) : List V → Hp → VK → Prop := fun xs H Q => ∃ q ys, xs = [.ref q] ∧ Seq K H q ys ∧ ∀ l, H l = none → Q (.ref l) (upd H l (.lst ys))
theorem listOfK (hK : X.K = K) : CallR X (.type "list") (rListOf K) := by subst hK; exact call_list_of
def rTupOf (K : PySem.W.Frag) : List V → Hp → VK → Prop := fun xs H Q => ∃ q ys, xs = [.ref q] ∧ ((SqL K H q ys ∧ ∀ l, H l = none → Q (.ref l) (upd H l (.tup ys))) ∨ (SqT K H q ys ∧ Q (.ref q) H))
theorem tupOfK (hK : X.K = K) : CallR X (.type "tuple") (rTupOf K) := by subst hK; exact call_tuple_of
theorem isiK (hK : X.K = K) : CallR X (.builtin "isinstance") (rIsi K) := by subst hK; exact call_isi
theorem inK (hK : X.K = K) : OpR X (compareOp .In) (rIn K false) := by subst hK; exact op_in_seq
theorem notInK (hK : X.K = K) : OpR X (compareOp .NotIn) (rIn K true) := by subst hK; exact op_notIn_seq
theorem eqDK (hK : X.K = K) (hu : X.A.units + 64 < cLine) : OpR X (compareOp .Eq) (rEqD K) := by subst hK; exact op_eqD hu
theorem neDK (hK : X.K = K) (hu : X.A.units + 64 < cLine) : OpR X (compareOp .NotEq) (rNeD K) := by subst hK; exact op_neD hu
theorem inDK (hK : X.K = K) (hu : X.A.units + 65 < cLine) : OpR X (compareOp .In) (rInD K) := by subst hK; exact op_inD hu
theorem notInDK (hK : X.K = K) (hu : X.A.units + 65 < cLine) : OpR X (compareOp .NotIn) (rNotInD K) := by subst hK; exact op_notInD hu
theorem slL (hK : X.K = K) : SlR X (rSlL K) := by subst hK; exact sl_list
theorem slT (hK : X.K = K) : SlR X (rSlT K) := by subst hK; exact sl_tup
theorem catTK (hK : X.K = K) : OpR X (binaryOp .Add) (rCatT K) := by subst hK; exact op_catT
theorem fldK {f : Str} (hK : X.K = K) (he : PE X e ta) (hb : attributeBase e f X.env (eval e X.env) = eval e X.env) : PE X (.Attribute e f pos) (tFld K ta f) := by subst hK; exact pe_fld he hb
theorem sortIK (hK : X.K = K) : CallR X (.builtin "sorted") (rSortedI K) := by subst hK; exact cr_sortedI
theorem sortPK (hK : X.K = K) : CallR X (.builtin "sorted") (rSortedPO K) := by subst hK; exact cr_sortedPO
theorem sumK (hK : X.K = K) (hc : X.calm = true) : CallR X (.builtin "sum") (rSum K) := by subst hK; exact cr_sum hc
theorem plistK (hK : X.K = K) (h : PE X a tl) : PI X tg a (iList K tl) := by subst hK; exact pi_list h
theorem ptupK (hK : X.K = K) (h : PE X a tl) : PI X tg a (iTup K tl) := by subst hK; exact pi_tup h
theorem pseqK (hK : X.K = K) (h : PE X a tl) : PI X tg a (iSeq K tl) := by subst hK; exact pi_seq h
theorem penumK (hK : X.K = K) (hg : Gl X "enumerate") (hm : X.mg "enumerate" = none) (ha : PA X [e] t) (hs : starEach [e] X.env = [(false, eval e X.env)] := by rfl) :
    PI X (.Tuple elts kk tpos) (.Call (.Name "enumerate" p) [e] [] pos) (iEnumA K t) := by subst hK; exact pi_enumA hg hm ha hs
theorem pzipK {e2 : Expr} (hK : X.K = K) (hg : Gl X "zip") (hm : X.mg "zip" = none) (ha : PA X [e, e2] t) (hs : starEach [e, e2] X.env = (false, eval e X.env) :: starEach [e2] X.env := by rfl)
    (hpl : (backTo pos (starEach [e2] X.env)).any (·.1) = false := by rfl) : PI X (.Tuple elts kk tpos) (.Call (.Name "zip" p) [e, e2] [] pos) (RZ.iZipA K t) := by subst hK; exact RZ.pi_zipA hg hm ha hs hpl
theorem gtupK {u : TGs} {n : Nat} (hK : X.K = K) (hc : X.calm = true) (h : PGs X es u) (hn : (assignEach es X.env).length = n := by rfl) (hst : (assignEach es X.env).findIdx? (·.1) = none := by rfl) :
    PG X (.Tuple es kk pos) (gTup K n u) := by subst hK; exact pg_tup hc h hn hst
theorem isPK {A B : String} (hK : X.K = K) (he : PE X e te) (hg : Gl X "isinstance") (hm : X.mg "isinstance" = none) (hes : PA X es (tCons (tC (.ty A)) (tCons (tC (.ty B)) tNil)))
    (q1 : starEach [e, .Tuple es kk tpos] X.env = (false, eval e X.env) :: starEach [.Tuple es kk tpos] X.env := by rfl)
    (q2 : starEach [.Tuple es kk tpos] X.env = (false, eval (.Tuple es kk tpos) X.env) :: starEach [] X.env := by rfl)
    (q3 : (backTo pos (starEach [.Tuple es kk tpos] X.env)).any (·.1) = false := by rfl) :
    PE X (.Call (.Name "isinstance" p) [e, .Tuple es kk tpos] [] pos) (tIsP K A B te) := by subst hK; exact pe_isP he hg hm hes q1 q2 q3
theorem bmK {name : Str} {T id : String} {r : V → List V → Hp → VK → Prop} (hK : X.K = K) (pa : PlainAttrs T) (slot : Slot T name id) (hty : typeOf (.builtin id) = pure (.type "method_descriptor")) (hm : MtR X id r) (ho : PE X o to) (ha : PA X (e :: es) t)
    (q1 : attributeBase o name X.env (eval o X.env) = eval o X.env := by rfl)
    (q2 : ((backTo cpos (starEach (e :: es) X.env)).all (fun x => !x.1) && (backToKw cpos (keywordEach [] X.env)).all (fun x => x.1.isSome)
      && decide ((e :: es).length + ([] : List Keyword).length + (if ([] : List Keyword).isEmpty then 0 else 1) < 30)) = true := by rfl)
    (q3 : (apos.endLine == cpos.line) = true := by rfl) (q4 : starEach (e :: es) X.env = (false, eval e X.env) :: starEach es X.env := by rfl) (q5 : (backTo cpos (starEach es X.env)).any (·.1) = false := by rfl) :
    PE X (.Call (.Attribute o name apos) (e :: es) [] cpos) (tBM K T r to t) := by subst hK; exact pe_bm pa slot hty hm ho ha q1 q2 q3 q4 q5
theorem bm0K {name : Str} {T id : String} {r : V → List V → Hp → VK → Prop} (hK : X.K = K) (pa : PlainAttrs T) (slot : Slot T name id) (hty : typeOf (.builtin id) = pure (.type "method_descriptor")) (hm : MtR X id r) (ho : PE X o to)
    (q1 : attributeBase o name X.env (eval o X.env) = eval o X.env := by rfl) (q3 : (apos.endLine == cpos.line) = true := by rfl) :
    PE X (.Call (.Attribute o name apos) [] [] cpos) (tBM0 K T r to) := by subst hK; exact pe_bm0 pa slot hty hm ho q1 q3
theorem ty_lst {H : Hp} {q : Addr} {xs : List V} (h : SqL K H q xs) : tyV K "list" (.ref q) H := .inl ⟨rfl, _, h⟩
end
/-! ### comprehensions whose element and test leave the heap as it is -/
section
variable {K : PySem.W.Frag} {σ : L2.St} {H : Hp} {Q : VK} {D : Ends} {tt : TT} {te tl : TE} {ta : TA} {j : Nat} {tb : TS}
theorem set_wipe {σ : L2.St} {j : Nat} {x : Option V} : (σ.set j none).set j x = σ.set j x := List.set_set ..
theorem lcR1 (n : Nat) (p : Nat → Bool) (f : Nat → V) (h : ∀ R : List V → Hp → Prop, R [nv n] H → ta σ H R) (hn : n < 100000)
    (hs : ∀ (i : Nat) (H' : Hp) (Q1 : VK) (Q2 : Hp → Prop), i < n → Same H H' → (p i = true → Q1 (f i) H') → (p i = false → Q2 H') → tt (σ.set j (some (nv i))) H' fun b H3 => if b = true then te (σ.set j (some (nv i))) H3 Q1 else Q2 H3)
    (hd : ∀ L, H L = none → Q (.ref L) (upd H L (.lst (((List.range n).filter p).map f)))) : tLc (iRng1 ta) (gName j) tt te [j] σ H Q := by
  refine h _ ⟨(n : Int), rfl, by omega, by omega, fun L hL => ?_⟩
  have take_s : ∀ i : Nat, (List.range (i + 1)).filter p = (List.range i).filter p ++ (if p i = true then [i] else []) := by
    intro i
    rw [List.range_succ, List.filter_append, List.filter_cons, List.filter_nil]
  have e0 : (n : Int).toNat = n := Int.toNat_natCast n
  rw [e0]
  refine lc_range (lo := 0) (n := n) (fun i H' => H' = upd H L (.lst (((List.range i).filter p).map f))) rfl (fun i H' hi e => ?_) (fun H' e => ?_)
  · subst e
    have e1 : (0 : Int) + (i : Int) = (i : Int) := Int.zero_add _
    rw [e1]
    have ew : (wipe σ [j]).set j (some (nv i)) = σ.set j (some (nv i)) := set_wipe
    show wipe ((wipe σ [j]).set j (some (nv i))) [j] = wipe σ [j] ∧ tt ((wipe σ [j]).set j (some (nv i))) _ _
    rw [ew]
    refine ⟨List.set_set .., hs i _ _ _ hi (same_new hL) (fun hp => ?_) (fun hp => ?_)⟩
    · refine ⟨_, upd_same, ?_, ?_⟩
      · have := List.length_filter_le p (List.range i)
        rw [List.length_range] at this
        rw [List.length_map, sizeLine_eq]
        omega
      · rw [upd_upd, take_s, hp, if_pos rfl, List.map_append]
        rfl
    · rw [take_s, hp, if_neg Bool.false_ne_true, List.append_nil]
  · subst e
    exact hd L hL
/-- over a list or a tuple -/
theorem lcS (a : Addr) (xs : List V) (p : V → Bool) (f : V → V) (h : ∀ R : V → Hp → Prop, R (.ref a) H → tl σ H R) (hx : Seq K H a xs) (hn : xs.length < 100000)
    (hs : ∀ (x : V) (H' : Hp) (Q1 : VK) (Q2 : Hp → Prop), x ∈ xs → Same H H' → (p x = true → Q1 (f x) H') → (p x = false → Q2 H') → tt (σ.set j (some x)) H' fun b H3 => if b = true then te (σ.set j (some x)) H3 Q1 else Q2 H3)
    (hd : ∀ L, H L = none → Q (.ref L) (upd H L (.lst ((xs.filter p).map f)))) : tLc (iSeq K tl) (gName j) tt te [j] σ H Q := by
  have take_s : ∀ (i : Nat) (x : V), xs[i]? = some x → (xs.take (i + 1)).filter p = (xs.take i).filter p ++ (if p x = true then [x] else []) := by
    intro i x e
    rw [List.take_add_one, e, List.filter_append]
    show _ ++ [x].filter p = _
    rw [List.filter_cons, List.filter_nil]
  have step : ∀ (L : Addr), H L = none → ∀ (i : Nat) (x : V) (H' : Hp), xs[i]? = some x → H' = upd H L (.lst (((xs.take i).filter p).map f)) →
      gName j x (wipe σ [j]) H' fun σ2 H2 => wipe σ2 [j] = wipe σ [j] ∧ tt σ2 H2 fun b H3 => if b = true then te σ2 H3 fun y H4 => ∃ acc, H4 L = some (.lst acc) ∧ acc.length < sizeLine ∧ upd H4 L (.lst (acc ++ [y])) = upd H L (.lst (((xs.take (i + 1)).filter p).map f)) else H3 = upd H L (.lst (((xs.take (i + 1)).filter p).map f)) := by
    intro L hL i x H' hi e
    subst e
    have ew : (wipe σ [j]).set j (some x) = σ.set j (some x) := set_wipe
    show wipe ((wipe σ [j]).set j (some x)) [j] = wipe σ [j] ∧ tt ((wipe σ [j]).set j (some x)) _ _
    rw [ew]
    refine ⟨List.set_set .., hs x _ _ _ (List.mem_of_getElem? hi) (same_new hL) (fun hp => ?_) (fun hp => ?_)⟩
    · refine ⟨_, upd_same, ?_, ?_⟩
      · have h1 := List.length_filter_le p (xs.take i)
        have h2 := List.length_take_le i xs
        rw [List.length_map, sizeLine_eq]
        have := List.length_take_le' i xs
        omega
      · rw [upd_upd, take_s i x hi, hp, if_pos rfl, List.map_append]
        rfl
    · rw [take_s i x hi, hp, if_neg Bool.false_ne_true, List.append_nil]
  have fin : ∀ L, H L = none → ∀ H', H' = upd H L (.lst (((xs.take xs.length).filter p).map f)) → Q (.ref L) H' := by
    intro L hL H' e
    rw [List.take_length] at e
    subst e
    exact hd L hL
  rcases hx with hx | hx
  · exact h _ ⟨a, rfl, .inl ⟨⟨xs, hx⟩, fun L hL => lc_list (xs := xs) (fun i H' => H' = upd H L (.lst (((xs.take i).filter p).map f))) rfl (fun i H' _ e => by subst e; exact Same.seq (same_new hL) hx) (fun i x H' hi e => step L hL i x H' hi e) (fin L hL)⟩⟩
  · exact h _ ⟨a, rfl, .inr ⟨⟨xs, hx⟩, fun L hL => lc_tup (xs := xs) (fun i H' => H' = upd H L (.lst (((xs.take i).filter p).map f))) rfl (fun i H' _ e => by subst e; exact Kb.Same.tup (same_new hL) hx) (fun i x H' hi e => step L hL i x H' hi e) (fin L hL)⟩⟩
/-- over a range, whatever the element and the test do: Pv of the turn, the heap and the list so far -/
theorem lcR1G (n : Nat) (Pv : Addr → Nat → Hp → List V → Prop) (h : ∀ R : List V → Hp → Prop, R [nv n] H → ta σ H R) (hn : n < 100000) (h0 : ∀ L, H L = none → Pv L 0 (upd H L (.lst [])) [])
    (hs : ∀ (L : Addr) (i : Nat) (H' : Hp) (acc : List V), H L = none → i < n → H' L = some (.lst acc) → Pv L i H' acc → tt (σ.set j (some (nv i))) H' fun b H3 =>
      if b = true then te (σ.set j (some (nv i))) H3 fun y H4 => H4 L = some (.lst acc) ∧ Pv L (i + 1) (upd H4 L (.lst (acc ++ [y]))) (acc ++ [y]) else H3 L = some (.lst acc) ∧ Pv L (i + 1) H3 acc)
    (mt : ∀ σ H (Q1 Q2 : Bool → Hp → Prop), (∀ b H', Q1 b H' → Q2 b H') → tt σ H Q1 → tt σ H Q2) (me : ∀ σ H (Q1 Q2 : VK), (∀ v H', Q1 v H' → Q2 v H') → te σ H Q1 → te σ H Q2)
    (hd : ∀ (L : Addr) (H' : Hp) (acc : List V), H L = none → H' L = some (.lst acc) → Pv L n H' acc → Q (.ref L) H') : tLc (iRng1 ta) (gName j) tt te [j] σ H Q := by
  refine h _ ⟨(n : Int), rfl, by omega, by omega, fun L hL => ?_⟩
  have e0 : (n : Int).toNat = n := Int.toNat_natCast n
  rw [e0]
  refine lc_range (lo := 0) (n := n) (fun i H' => ∃ acc, H' L = some (.lst acc) ∧ acc.length ≤ i ∧ Pv L i H' acc) ⟨[], upd_same, Nat.zero_le _, h0 L hL⟩ ?_ ?_
  · rintro i H' hi ⟨acc, e1, e2, p⟩
    have e3 : (0 : Int) + (i : Int) = (i : Int) := Int.zero_add _
    rw [e3]
    have ew : (wipe σ [j]).set j (some (nv i)) = σ.set j (some (nv i)) := set_wipe
    show wipe ((wipe σ [j]).set j (some (nv i))) [j] = wipe σ [j] ∧ tt ((wipe σ [j]).set j (some (nv i))) _ _
    rw [ew]
    refine ⟨List.set_set .., mt _ _ _ _ (fun b H3 q => ?_) (hs L i H' acc hL hi e1 p)⟩
    cases b with
    | true =>
      refine me _ _ _ _ (fun y H4 q => ?_) q
      obtain ⟨q1, q2⟩ := q
      exact ⟨acc, q1, by rw [sizeLine_eq]; omega, _, upd_same, by rw [List.length_append]; exact Nat.add_le_add e2 (Nat.le_refl 1), q2⟩
    | false =>
      obtain ⟨q1, q2⟩ := q
      exact ⟨acc, q1, Nat.le_succ_of_le e2, q2⟩
  · rintro H' ⟨acc, e1, _, p⟩
    exact hd L H' acc hL e1 p
/-! ### loops -/
theorem forR1 (n : Nat) (Pv : Nat → L2.St → Hp → Prop) (h : ∀ R : List V → Hp → Prop, R [nv n] H → ta σ H R) (hn : n < 100000) (h0 : Pv 0 σ H)
    (hs : ∀ (i : Nat) (σ' : L2.St) (H' : Hp), i < n → Pv i σ' H' → tb { D with nx := Pv (i + 1), ct := Pv (i + 1), bk := D.nx } (σ'.set j (some (nv i))) H') (hd : ∀ σ' H', Pv n σ' H' → D.nx σ' H') : tFor (iRng1 ta) (gName j) tb D σ H := by
  refine h _ ⟨(n : Int), rfl, by omega, by omega, ?_⟩
  have e0 : (n : Int).toNat = n := Int.toNat_natCast n
  rw [e0]
  refine for_range (lo := 0) (n := n) Pv h0 (fun i σ' H' hi e => ?_) hd
  have e1 : (0 : Int) + (i : Int) = (i : Int) := Int.zero_add _
  rw [e1]
  exact hs i σ' H' hi e
theorem forR2 (lo n : Nat) (Pv : Nat → L2.St → Hp → Prop) (h : ∀ R : List V → Hp → Prop, R [nv lo, nv n] H → ta σ H R) (hn : lo < 100000 ∧ n < 100000) (h0 : Pv 0 σ H)
    (hs : ∀ (i : Nat) (σ' : L2.St) (H' : Hp), lo + i < n → Pv i σ' H' → tb { D with nx := Pv (i + 1), ct := Pv (i + 1), bk := D.nx } (σ'.set j (some (nv (lo + i)))) H') (hd : ∀ σ' H', Pv (n - lo) σ' H' → D.nx σ' H') : tFor (iRng2 ta) (gName j) tb D σ H := by
  refine h _ ⟨(lo : Int), (n : Int), rfl, ⟨by omega, by omega, by omega, by omega⟩, ?_⟩
  have e0 : ((n : Int) - (lo : Int)).toNat = n - lo := by omega
  rw [e0]
  refine for_range (lo := (lo : Int)) (n := n - lo) Pv h0 (fun i σ' H' hi e => ?_) hd
  have e1 : (lo : Int) + (i : Int) = ((lo + i : Nat) : Int) := (Int.natCast_add ..).symm
  rw [e1]
  exact hs i σ' H' (by omega) e
/-- what a loop over a list or a tuple wants: the heap G that it stands in is kept -/
def LoopOk (K : PySem.W.Frag) (g : TG) (tb : TS) (D : Ends) (σ : L2.St) (x : V) (H : Hp) : Prop := ∃ (a : Addr) (xs : List V) (Pv : Nat → L2.St → Hp → Prop) (G : Hp), x = .ref a ∧ Pv 0 σ H ∧ Seq K G a xs ∧ (∀ i σ' H', Pv i σ' H' → Same G H') ∧
  (∀ (i : Nat) (x : V) (σ' : L2.St) (H' : Hp), xs[i]? = some x → Pv i σ' H' → g x σ' H' fun σ2 H2 => tb { D with nx := Pv (i + 1), ct := Pv (i + 1), bk := D.nx } σ2 H2) ∧ (∀ σ' H', Pv xs.length σ' H' → D.nx σ' H')
theorem LoopOk.go {g : TG} {x : V} (h : LoopOk K g tb D σ x H) : ∃ a, x = .ref a ∧ (((∃ xs, SqL K H a xs) ∧ (fun J H1 => ∃ W : Nat → Nat → L2.St → Hp → Prop, (∃ m, W 0 m σ H1) ∧ ∀ i m σ H, W i m σ H →
  (It.stop J i H ∧ D.nx σ H) ∨ (J.go i H ∧ ∃ N : L2.St → Hp → Prop, (∀ σ' H', N σ' H' → ∃ m', m' < m ∧ W (i + 1) m' σ' H') ∧ ∀ x H', J.yld i H x H' → g x σ H' fun σ2 H2 => tb { D with nx := N, ct := N, bk := D.nx } σ2 H2)) (Itl K a) H) ∨
  ((∃ xs, SqT K H a xs) ∧ (fun J H1 => ∃ W : Nat → Nat → L2.St → Hp → Prop, (∃ m, W 0 m σ H1) ∧ ∀ i m σ H, W i m σ H →
  (It.stop J i H ∧ D.nx σ H) ∨ (J.go i H ∧ ∃ N : L2.St → Hp → Prop, (∀ σ' H', N σ' H' → ∃ m', m' < m ∧ W (i + 1) m' σ' H') ∧ ∀ x H', J.yld i H x H' → g x σ H' fun σ2 H2 => tb { D with nx := N, ct := N, bk := D.nx } σ2 H2)) (Itt K a) H)) := by
  obtain ⟨a, xs, Pv, G, rfl, h0, hx, hl, hs, hd⟩ := h
  rcases hx with hx | hx
  · exact ⟨a, rfl, .inl ⟨⟨xs, Same.seq (hl 0 _ _ h0) hx⟩, for_list Pv h0 (fun i σ' H' _ p => Same.seq (hl i σ' H' p) hx) hs hd⟩⟩
  · exact ⟨a, rfl, .inr ⟨⟨xs, Kb.Same.tup (hl 0 _ _ h0) hx⟩, for_tup Pv h0 (fun i σ' H' _ p => Kb.Same.tup (hl i σ' H' p) hx) hs hd⟩⟩
/-- over a list or a tuple that stays, the body leaving all that was tracked but b as it was -/
theorem forS {g : TG} (a : Addr) (xs : List V) (Pv : Nat → L2.St → Hp → Prop) (h : ∀ R : V → Hp → Prop, R (.ref a) H → tl σ H R) (h0 : Pv 0 σ H) (G : Hp) (hx : Seq K G a xs) (hl : ∀ i σ' H', Pv i σ' H' → Same G H')
    (hs : ∀ (i : Nat) (x : V) (σ' : L2.St) (H' : Hp), xs[i]? = some x → Pv i σ' H' → g x σ' H' fun σ2 H2 => tb { D with nx := Pv (i + 1), ct := Pv (i + 1), bk := D.nx } σ2 H2) (hd : ∀ σ' H', Pv xs.length σ' H' → D.nx σ' H') : tFor (iSeq K tl) g tb D σ H :=
  h _ (LoopOk.go ⟨a, xs, Pv, G, rfl, h0, hx, hl, hs, hd⟩)
/-- a promise that asks no more of what follows than what it says -/
def Mono (sp : Sp) : Prop := ∀ vs H (Q Q' : VK) E, (∀ v H', Q v H' → Q' v H') → sp vs H Q E → sp vs H Q' E
/-- for x in f(..) -/
theorem forC {g : TG} {sp : Sp} {dvs : List V} {E : XK} (vs : List V) (h : ∀ R : List V → Hp → Prop, R vs H → ta σ H R) (m : Mono sp) (q : sp (vs ++ dvs) H (fun x H1 => LoopOk K g tb D σ x H1) E) : tFor (iSeq K (tCall sp dvs E ta)) g tb D σ H :=
  h _ (m _ _ _ _ _ (fun _ _ => LoopOk.go) q)
/-- over the numbers and items of a list or a tuple that stays -/
theorem forE {i1 i2 : Nat} (a : Addr) (xs : List V) (Pv : Nat → L2.St → Hp → Prop) (h : ∀ R : List V → Hp → Prop, R [.ref a] H → ta σ H R) (h0 : Pv 0 σ H) (G : Hp) (hx : Seq K G a xs) (hl : ∀ i σ' H', Pv i σ' H' → Same G H')
    (hs : ∀ (i : Nat) (x : V) (σ' : L2.St) (H' : Hp) (T : Addr), xs[i]? = some x → Pv i σ' H' → H' T = none →
      tb { D with nx := Pv (i + 1), ct := Pv (i + 1), bk := D.nx } ((σ'.set i1 (some (nv i))).set i2 (some x)) (upd H' T (.tup [nv i, x]))) (hd : ∀ σ' H', Pv xs.length σ' H' → D.nx σ' H') :
    tFor (iEnumA K ta) (gTup K 2 (gCons (gName i1) (gCons (gName i2) gNil))) tb D σ H := by
  have go : ∀ (i : Nat) (v : V) (σ' : L2.St) (H1 H2 : Hp), Pv i σ' H1 → YPair (fun i => some (.int (i : Nat))) (fun i => xs[i]?) i H1 v H2 →
      gTup K 2 (gCons (gName i1) (gCons (gName i2) gNil)) v σ' H2 fun σ2 H2 => tb { D with nx := Pv (i + 1), ct := Pv (i + 1), bk := D.nx } σ2 H2 := by
    rintro i v σ' H1 H2 hp ⟨T, x, y, rfl, hT, rfl, e1, e2⟩
    cases e1
    exact ⟨T, _, rfl, .of upd_same, rfl, _, _, rfl, _, _, rfl, rfl, hs i y σ' H1 T e2 hp hT⟩
  rcases hx with hx | hx
  · exact h _ ⟨a, xs, rfl, .inl ⟨Same.seq (hl 0 _ _ h0) hx, for_it walk_enum Pv h0 (fun i σ' H' _ p => Same.seq (hl i σ' H' p) hx) (fun i x σ' H1 H2 _ p y => go i x σ' H1 H2 p y) hd⟩⟩
  · exact h _ ⟨a, xs, rfl, .inr ⟨Kb.Same.tup (hl 0 _ _ h0) hx, for_it walk_enT Pv h0 (fun i σ' H' _ p => Kb.Same.tup (hl i σ' H' p) hx) (fun i x σ' H1 H2 _ p y => go i x σ' H1 H2 p y) hd⟩⟩
end
end Kb
namespace Kb
open PySem PySem.Spec PyProof.Rows L2
/-! ### is True, is False -/
def rIsV : R2 := fun x y H Q => ∃ b, y = .bl b ∧ Q (.bl (decide (x = .bl b))) H
theorem op_isBv {X : Cx} : OpR X (compareOp .Is) rIsV := by
  intro pins s σ H x y v u Q I rx ry h
  obtain ⟨b, rfl, q⟩ := h
  cases (show u = Value.bool b from ry)
  have no : x ≠ .bl b → plainIs v (.bool b) = true → v ≠ .bool b → wpAny (model X.prog X.w) X.A (compareOp .Is v (.bool b)) (EP X pins σ Q) X.xe s := fun n p e =>
    wpAny_is_other p e (fin_bl I q (decide_eq_false n))
  cases x with
  | bl a =>
    cases (show v = Value.bool a from rx)
    by_cases e : a = b
    · subst e
      exact wpAny_is_self rfl (fin_bl I q (decide_eq_true rfl))
    · exact no (fun z => e (V.bl.inj z)) rfl fun z => e (Value.bool.inj z)
  | non => cases rx; exact no (fun z => nomatch z) rfl fun z => nomatch z
  | ref a => cases rx; exact no (fun z => nomatch z) rfl fun z => nomatch z
  | ty a => cases rx; exact no (fun z => nomatch z) rfl fun z => nomatch z
  | int a => obtain ⟨t, rfl⟩ := rx; exact no (fun z => nomatch z) rfl fun z => nomatch z
  | str a => obtain ⟨t, rfl⟩ := rx; exact no (fun z => nomatch z) rfl fun z => nomatch z
  | byt a => obtain ⟨t, rfl⟩ := rx; exact no (fun z => nomatch z) rfl fun z => nomatch z
  | flt a => obtain ⟨t, rfl⟩ := rx; exact no (fun z => nomatch z) rfl fun z => nomatch z
theorem hu65 {A : Around} {k : Nat} (hr : Room k A) : A.units + 65 < cLine := by
  have := hr.un
  omega
/-! ### sorted(set(l)) of a list of ints -/
abbrev nSet (w : World) : Obj := { cls := .type "set", dict := none, data := .set #[] 0 (.fresh 0 0 (!w.params.followText "set-order")) }
/-- the state behind the new set -/
abbrev sSet (w : World) (s : Shared) : Shared := { s with heap := s.heap.push (nSet w) }
section
variable {P : Program} {w : World} {A : Around} {E : Value → Shared → Prop} {s : Shared}
set_option maxHeartbeats 4000000 in
theorem set_of_list {l : Addr} {its : Array Value} (ns : List Int) {Q : Value → Shared → Prop} (nh : A.handled = none) (hl : s.heap.IsList l its) (hi : IntsAre its.toList ns) (hb : ns.length + 1 < scanBound)
    (h : ∀ (h' : Heap) (tk c : Nat), SetR w h' s.heap.objs.size (fun j => decide (j ∈ ns)) c → c ≤ ns.length → (∀ b o, s.heap.get? b = some o → h'.get? b = some o) → Q (.ref s.heap.objs.size) { s with heap := h', toks := tk }) :
    wpAny (model P w) A (call (.type "set") [.ref l]) Q E s := by
  have sz : its.size = ns.length := (Array.length_toList (xs := its)).symm.trans (IntsAre.length hi)
  obtain ⟨c, tl, mro⟩ := F.called_set.mro
  have m1 := F.called_set.made
  have m2 := F.called_set.sub
  refine wpAny_call (codeAny_of_tree ?_)
  show wpAny _ _ (callAny (.type "set") _) _ _ _
  refine wpAny_pure ⟨Code.quiet_builtin _ (by decide +kernel), codeAny_builtin F.entry_type_call ?_⟩
  rw [Around.under_plain (weight_type_call_type "set" [.ref l] []) rfl]
  have m3 := F.called_set.notType
  have m4 := F.called_set.canCreate
  have m5 := F.typeCall_set_1 (.ref l)
  repeat (any_goals (first | assumption | wp_step))
  refine codeAny_mono (code_set_led1 (.ref l) (E := E) (Q₁ := fun y z => y = .ref s.heap.objs.size ∧ z = sSet w s) ⟨rfl, rfl⟩) fun r z hr => ?_
  cases r with
  | error e => exact hr
  | ok fl =>
    cases fl with
    | ret y =>
      obtain ⟨rfl, rfl⟩ := hr
      have gS : (s.heap.push (nSet w)).get? s.heap.objs.size = some (nSet w) := Heap.get?_push_size _ rfl
      have tS : Shared.TypeIs (sSet w s) (.ref s.heap.objs.size) "set" := ⟨_, gS, rfl⟩
      have i1 := F.called_set.init.lookup
      have i2 := F.called_set.init.bind (.ref s.heap.objs.size)
      repeat (any_goals (first | assumption | wp_step))
      refine codeAny_mono (codeAny_call_builtin (R := wants (fun r z => r = .none ∧ ∃ h' tk c, z = { s with heap := h', toks := tk } ∧ SetR w h' s.heap.objs.size (fun j => decide (j ∈ ns)) c ∧ c ≤ ns.length ∧
          (∀ b o, s.heap.get? b = some o → h'.get? b = some o)) E) F.called_set.init.plain F.entry_set_init (check_set_init_1 tS ?_)) fun r z hr => ?_
      · obtain ⟨ol, gl, cl, n, dl⟩ := hl
        obtain ⟨oc, od, oo, os⟩ := ol
        simp only at cl dl
        subst cl; subst dl
        have gl' : (s.heap.push (nSet w)).get? l = some { cls := .type "list", dict := od, data := .seq its n, slots := os } := Heap.get?_push_of_some _ gl
        have b1 := F.sub_list_set
        have b2 := F.sub_list_frozenset
        have b3 : (Value.type "list" == Value.type "dict") = false := by decide
        have l1 : (s.heap.push (nSet w)).IsList l its := ⟨_, gl', rfl, n, rfl⟩
        unfold Builtin.«set.__init__» noKeywords Builtin.Frozenset.updateFrom
        generalize hPI : pyIter = PI
        wp_walk
        subst hPI
        refine wpAny_pyIter_list l1 (wpAny_bind (wpAny_runValue ?_))
        have lt : l < s.heap.objs.size := Heap.lt_size gl
        have n3 : A.in1.in1.in1.handled = none := by simp [nh]
        have s1 : (s.heap.push (nSet w)).objs.size = s.heap.objs.size + 1 := Heap.size_push ..
        have ne : l ≠ (s.heap.push (nSet w)).objs.size := by rw [s1]; exact Nat.ne_of_lt (Nat.lt_succ_of_lt lt)
        have nf : s.heap.objs.size ∉ [(s.heap.push (nSet w)).objs.size, l] := by
          rw [s1]
          simp only [List.mem_cons, List.not_mem_nil, or_false, not_or]
          exact ⟨Nat.ne_of_lt (Nat.lt_succ_self _), Nat.ne_of_gt lt⟩
        refine set_update_ints ((Walks.list n3 _ l ne its).toS) s.heap.objs.size nf ns sz hb (fun i v hv => ?_) (its.size - 0) 0 _ (by omega) (Nat.zero_le _)
          ⟨⟨_, Heap.get?_push_size _ rfl, rfl, rfl⟩, (l1.push _)⟩ ⟨0, Nat.le_refl 0, setR_new_at (Heap.get?_push_of_some _ gS)⟩ ?_
        · have hi2 : i < ns.length := by rw [← sz]; exact (Array.getElem?_eq_some_iff.mp hv).1
          obtain ⟨t, e⟩ := IntsAre.int_at hi i v (by rw [Array.getElem?_toList]; exact hv)
          exact ⟨ns[i], t, List.getElem?_eq_getElem hi2, by rw [e, List.getD_eq_getElem?_getD, List.getElem?_eq_getElem hi2] <;> rfl⟩
        · intro z c2 hm hc hR
          obtain ⟨h', g2, d2, tk, o2⟩ := z
          have e1 : g2 = s.gens := hm.gens
          have e2 : d2 = s.drawn := hm.drawn
          have e3 : o2 = s.os := hm.os
          subst e1; subst e2; subst e3
          show wpAny _ _ _ _ _ _
          refine wpAny_pure ?_
          show wpAny _ _ (ret Value.none) _ _ _
          rw [sz] at hc
          refine wpAny_pure ⟨rfl, h', tk, c2, rfl, hR, hc, fun b o e => ?_⟩
          have lb : b < s.heap.objs.size := Heap.lt_size e
          refine hm.heap b o (fun z => ?_) (Heap.get?_push_of_some _ (Heap.get?_push_of_some _ e))
          simp only [List.mem_cons, List.not_mem_nil, or_false] at z
          rcases z with z | z
          · exact Nat.ne_of_lt lb z
          · exact Nat.ne_of_lt (Nat.lt_succ_of_lt lb) (z.trans s1)
      · cases r with
        | error e => exact hr
        | ok fl =>
          cases fl with
          | ret y =>
            obtain ⟨rfl, h', tk, c2, rfl, hS, hc, hk⟩ := hr
            repeat (any_goals (first | assumption | wp_step))
            exact h _ _ _ hS hc hk
          | _ => exact hr.elim
    | _ => exact hr.elim
end
/-- sorted(set(e)), e a list of few ints -/
def tSSet (K : PySem.W.Frag) (ta : TA) : TE := fun σ H Q => ta σ H fun vs H1 => ∃ (a : Addr) (ns : List Int), vs = [.ref a] ∧ SqL K H1 a (ns.map V.int) ∧ ns.length < 64 ∧
  ∀ (out : List Int) (p : Addr), out.Pairwise (· < ·) → (∀ k, k ∈ out ↔ k ∈ ns) → H1 p = none → Q (.ref p) (upd H1 p (.lst (out.map V.int)))
theorem pe_sset {X : Cx} {K : PySem.W.Frag} {e : Expr} {ta : TA} {p1 p2 q1 q2 : Pos} (hK : X.K = K) (hc : X.calm = true) (g1 : Gl X "sorted") (m1 : X.mg "sorted" = none) (g2 : Gl X "set") (m2 : X.mg "set" = none) (ha : PA X [e] ta)
    (he : starEach [e] X.env = [(false, eval e X.env)] := by rfl) (he2 : starEach [.Call (.Name "set" p2) [e] [] q2] X.env = [(false, eval (.Call (.Name "set" p2) [e] [] q2) X.env)] := by rfl) :
    PE X (.Call (.Name "sorted" p1) [.Call (.Name "set" p2) [e] [] q2] [] q1) (tSSet K ta) := by
  subst hK
  refine ⟨fun pins s σ H Q I h => ?_⟩
  refine wpAny_Call_Name_kw (ld_blt I g1 m1 (u := .builtin "sorted") (by decide +kernel) ?_)
  refine PyProof.Rows.callWith_builtin1 ?_ he2 rfl
  rw [he2]
  refine Calls.spliced_cons ?_
  refine wpAny_Call_Name_kw (ld_blt I g2 m2 PyProof.Rows.boot_set ?_)
  refine PyProof.Rows.callWith_type1 (thn (ha.run q2 pins s σ H _ I h) fun us s1 ⟨vs, H1, I1, r1, h1⟩ => ?_) he rfl
  obtain ⟨a, ns, rfl, hs, hl, q⟩ := h1
  rw [Vals.ref1 r1]
  obtain ⟨its, rv, ht, hz⟩ := I1.list hs
  have hi : IntsAre its.toArray.toList ns := rv.ints
  have hd := I1.ok.hd hc
  refine set_of_list ns hd ht.isList hi (by unfold scanBound; omega) fun h' tk c R hcn k => ?_
  refine Calls.spliced_nil ?_
  refine sorted_set R hd (by omega) fun s2 p out n ks k2 g2 o2 hp hg hI hw hm hn => ?_
  have kall : ∀ b u, s1.heap.get? b = some u → s2.heap.get? b = some u := fun b u e => k2 b u (k b u e)
  have ge : s1.heap.objs.size ≤ p := by
    obtain ⟨o, es, ep, t, ho, _⟩ := R
    exact Nat.le_trans (Nat.le_of_lt (Heap.lt_size ho)) hp
  have hlen : (ks.map V.int).length ≤ sizeLine := by rw [List.length_map, hn, sizeLine_eq]; omega
  exact ⟨.ref p, upd H1 p (.lst (ks.map V.int)), I1.call' (ch := []) o2 (Un.laid kall ge (I1.hok.fresh ge)) (I1.hok.laid kall ge ⟨hlen, out.toList, n, vals_of_ints hI, hg⟩) (by rw [g2]; exact I1.bare) (fun _ z => nomatch z), rfl,
    q ks p hw (fun j => by rw [hm j, decide_eq_true_eq]) (I1.hok.fresh ge)⟩
end Kb
namespace Kb
open PySem PySem.Spec PyProof.Rows L2
/-! ### int(x) of a number, int(x) of a bool, abs -/
def rIntI : List V → Hp → VK → Prop := fun xs H Q => ∃ i, xs = [.int i] ∧ Q (.int i) H
def rIntB : List V → Hp → VK → Prop := fun xs H Q => ∃ k, xs = [.bl k] ∧ Q (.int (if k = true then 1 else 0)) H
def rAbsN : List V → Hp → VK → Prop := fun xs H Q => ∃ i, xs = [.int i] ∧ Q (.int (i.natAbs : Int)) H
section
variable {X : Cx}
theorem callIntI : CallR X (.type "int") rIntI := fun pins s σ H xs us Q I r h => call_int1 pins s σ H xs us Q I r (.inl h)
theorem callIntB : CallR X (.type "int") rIntB := fun pins s σ H xs us Q I r h => call_int1 pins s σ H xs us Q I r (.inr h)
theorem callAbsN : CallR X (.builtin "abs") rAbsN := fun pins s σ H xs us Q I r h => by
  obtain ⟨i, e, q⟩ := h
  refine call_abs pins s σ H xs us Q I r ⟨i, e, ?_⟩
  rw [show (if i < 0 then -i else i) = (i.natAbs : Int) by split <;> omega]
  exact q
end
theorem or_xor_and : ∀ n m : Nat, n ||| m = (n ^^^ m) + (n &&& m) := by
  intro n
  induction n using Nat.strongRecOn with
  | _ n ih =>
    intro m
    by_cases h0 : n = 0
    · subst h0
      simp
    · have h := ih (n / 2) (by omega) (m / 2)
      rw [← Nat.or_div_two, ← Nat.xor_div_two, ← Nat.and_div_two] at h
      have a := Nat.or_mod_two_eq_one (a := n) (b := m)
      have b := Nat.xor_mod_two_eq_one (a := n) (b := m)
      have c := Nat.and_mod_two_eq_one (a := n) (b := m)
      omega
theorem bitXor_nn {n m : Nat} : Builtin.bitXor (n : Int) (m : Int) = ((n ^^^ m : Nat) : Int) := by
  unfold Builtin.bitXor
  rw [bitOr_nn (Int.natCast_nonneg _) (Int.natCast_nonneg _), Int.toNat_natCast, Int.toNat_natCast, bitAnd_nn, or_xor_and n m]
  omega
theorem op_xorU {X : Cx} : OpR X (binaryOp .BitXor) (fun x y H Q => ∃ n m : Nat, x = nv n ∧ y = nv m ∧ Q (nv (n ^^^ m)) H) := by
  intro pp s sg H x y v u Q I rx ry h
  obtain ⟨n, m, rfl, rfl, q⟩ := h
  refine op_xor pp s sg H _ _ v u Q I rx ry ⟨_, _, rfl, rfl, ?_⟩
  show Q (.int (Builtin.bitXor (n : Int) (m : Int))) H
  rw [bitXor_nn]
  exact q
theorem mulL {i j : Int} (h0 : 0 ≤ i) (h1 : i < 2 ^ 64) : CMul i j := .inl ⟨by omega, h1⟩
theorem mulR {i j : Int} (h0 : 0 ≤ j) (h1 : j < 2 ^ 64) : CMul i j := .inr ⟨by omega, h1⟩
section
variable {K : PySem.W.Frag} {σ : L2.St} {H : Hp} {Q : VK} {tt : TT} {te : TE} {ta : TA} {j : Nat}
/-- over a range, the element and the test making what is new -/
theorem lcR1S (n : Nat) (p : Nat → Bool) (f : Nat → V) (h : ∀ R : List V → Hp → Prop, R [nv n] H → ta σ H R) (hn : n < 100000)
    (hs : ∀ (i : Nat) (H' : Hp) (Q1 : VK) (Q2 : Hp → Prop), i < n → Same H H' → (∀ H3, Same H' H3 → p i = true → Q1 (f i) H3) → (∀ H3, Same H' H3 → p i = false → Q2 H3) → tt (σ.set j (some (nv i))) H' fun b H3 => if b = true then te (σ.set j (some (nv i))) H3 Q1 else Q2 H3)
    (hd : ∀ L H', H L = none → Same H H' → H' L = some (.lst (((List.range n).filter p).map f)) → Q (.ref L) H') : tLc (iRng1 ta) (gName j) tt te [j] σ H Q := by
  refine h _ ⟨(n : Int), rfl, by omega, by omega, fun L hL => ?_⟩
  rw [Int.toNat_natCast]
  refine lc_range (lo := 0) (n := n) (fun i H' => Same H H' ∧ H' L = some (.lst (((List.range i).filter p).map f))) ⟨same_new hL, upd_same⟩ (fun i H' hi e => ?_) (fun H' e => hd L H' hL e.1 e.2)
  obtain ⟨s1, e1⟩ := e
  rw [show (0 : Int) + (i : Int) = (i : Int) from Int.zero_add _]
  have ew : (wipe σ [j]).set j (some (nv i)) = σ.set j (some (nv i)) := set_wipe
  show wipe ((wipe σ [j]).set j (some (nv i))) [j] = wipe σ [j] ∧ tt ((wipe σ [j]).set j (some (nv i))) _ _
  rw [ew]
  refine ⟨List.set_set .., hs i _ _ _ hi s1 (fun H3 s3 hp => ?_) fun H3 s3 hp => ?_⟩
  · refine ⟨_, s3 _ _ e1, ?_, fun b o hb => ?_, ?_⟩
    · have := List.length_filter_le p (List.range i)
      rw [List.length_range] at this
      rw [List.length_map, sizeLine_eq]
      omega
    · rw [upd_ne (ne_of_none hb hL)]
      exact s3 _ _ (s1 _ _ hb)
    · rw [upd_same, List.range_succ, List.filter_append, List.filter_cons, List.filter_nil, if_pos hp, List.map_append]
      rfl
  · refine ⟨s1.trans s3, ?_⟩
    rw [List.range_succ, List.filter_append, List.filter_cons, List.filter_nil, if_neg (by rw [hp]; exact Bool.false_ne_true), List.append_nil]
    exact s3 _ _ e1
end
end Kb
namespace Kb
open PySem PySem.Spec PyProof.Rows L2
section
variable {K : PySem.W.Frag} {σ : L2.St} {H : Hp} {Q : VK} {tt : TT} {te tl : TE} {j : Nat}
/-- over a list or a tuple that stays, whatever the element and the test do: Pv of the turn, the heap and the list so far -/
theorem lcSG (a : Addr) (xs : List V) (Pv : Addr → Nat → Hp → List V → Prop) (h : ∀ R : V → Hp → Prop, R (.ref a) H → tl σ H R) (hx : Seq K H a xs) (hn : xs.length < 100000) (h0 : ∀ L, H L = none → Pv L 0 (upd H L (.lst [])) [])
    (hl : ∀ L i H' acc, H L = none → Pv L i H' acc → Same H H')
    (hs : ∀ (L : Addr) (i : Nat) (x : V) (H' : Hp) (acc : List V), H L = none → xs[i]? = some x → H' L = some (.lst acc) → Pv L i H' acc → tt (σ.set j (some x)) H' fun b H3 =>
      if b = true then te (σ.set j (some x)) H3 fun y H4 => H4 L = some (.lst acc) ∧ Pv L (i + 1) (upd H4 L (.lst (acc ++ [y]))) (acc ++ [y]) else H3 L = some (.lst acc) ∧ Pv L (i + 1) H3 acc)
    (mt : ∀ σ H (Q1 Q2 : Bool → Hp → Prop), (∀ b H', Q1 b H' → Q2 b H') → tt σ H Q1 → tt σ H Q2) (me : ∀ σ H (Q1 Q2 : VK), (∀ v H', Q1 v H' → Q2 v H') → te σ H Q1 → te σ H Q2)
    (hd : ∀ (L : Addr) (H' : Hp) (acc : List V), H L = none → H' L = some (.lst acc) → Pv L xs.length H' acc → Q (.ref L) H') : tLc (iSeq K tl) (gName j) tt te [j] σ H Q := by
  have step : ∀ (L : Addr), H L = none → ∀ (i : Nat) (x : V) (H' : Hp), xs[i]? = some x → (∃ acc, H' L = some (.lst acc) ∧ acc.length ≤ i ∧ Pv L i H' acc) →
      gName j x (wipe σ [j]) H' fun σ2 H2 => wipe σ2 [j] = wipe σ [j] ∧ tt σ2 H2 fun b H3 => if b = true then te σ2 H3 fun y H4 => ∃ acc, H4 L = some (.lst acc) ∧ acc.length < sizeLine ∧ (∃ acc2, (upd H4 L (.lst (acc ++ [y]))) L = some (.lst acc2) ∧ acc2.length ≤ i + 1 ∧ Pv L (i + 1) (upd H4 L (.lst (acc ++ [y]))) acc2)
        else ∃ acc, H3 L = some (.lst acc) ∧ acc.length ≤ i + 1 ∧ Pv L (i + 1) H3 acc := by
    rintro L hL i x H' hi ⟨acc, e1, e2, p⟩
    have lt : i < xs.length := (List.getElem?_eq_some_iff.mp hi).1
    have ew : (wipe σ [j]).set j (some x) = σ.set j (some x) := set_wipe
    show wipe ((wipe σ [j]).set j (some x)) [j] = wipe σ [j] ∧ tt ((wipe σ [j]).set j (some x)) _ _
    rw [ew]
    refine ⟨List.set_set .., mt _ _ _ _ (fun b H3 q => ?_) (hs L i x H' acc hL hi e1 p)⟩
    cases b with
    | true =>
      refine me _ _ _ _ (fun y H4 q => ?_) q
      obtain ⟨q1, q2⟩ := q
      exact ⟨acc, q1, by rw [sizeLine_eq]; omega, _, upd_same, by rw [List.length_append]; exact Nat.add_le_add e2 (Nat.le_refl 1), q2⟩
    | false =>
      obtain ⟨q1, q2⟩ := q
      exact ⟨acc, q1, Nat.le_succ_of_le e2, q2⟩
  have fin : ∀ (L : Addr), H L = none → ∀ H', (∃ acc, H' L = some (.lst acc) ∧ acc.length ≤ xs.length ∧ Pv L xs.length H' acc) → Q (.ref L) H' := by
    rintro L hL H' ⟨acc, e1, _, p⟩
    exact hd L H' acc hL e1 p
  rcases hx with hx | hx
  · exact h _ ⟨a, rfl, .inl ⟨⟨xs, hx⟩, fun L hL => lc_list (xs := xs) (fun i H' => ∃ acc, H' L = some (.lst acc) ∧ acc.length ≤ i ∧ Pv L i H' acc) ⟨[], upd_same, Nat.zero_le _, h0 L hL⟩ (fun i H' _ e => by obtain ⟨acc, _, _, p⟩ := e; exact Same.seq (hl L i H' acc hL p) hx) (step L hL) (fin L hL)⟩⟩
  · exact h _ ⟨a, rfl, .inr ⟨⟨xs, hx⟩, fun L hL => lc_tup (xs := xs) (fun i H' => ∃ acc, H' L = some (.lst acc) ∧ acc.length ≤ i ∧ Pv L i H' acc) ⟨[], upd_same, Nat.zero_le _, h0 L hL⟩ (fun i H' _ e => by obtain ⟨acc, _, _, p⟩ := e; exact Kb.Same.tup (hl L i H' acc hL p) hx) (step L hL) (fin L hL)⟩⟩
/-- over a sequence that the loop's head makes: F tells what it makes -/
theorem forSF {D : Ends} {g : TG} {tb : TS} (F : Hp → Addr → Prop) (h : ∀ R : V → Hp → Prop, (∀ H1 p, F H1 p → R (.ref p) H1) → tl σ H R) (q : ∀ H1 p, F H1 p → LoopOk K g tb D σ (.ref p) H1) : tFor (iSeq K tl) g tb D σ H :=
  h _ fun H1 p f => LoopOk.go (q H1 p f)
end
end Kb
namespace Kx
open PySem PySem.W PySem.Calls PyProof.Rows PySem.HandSPX
/-! ### an own error below a class of one's own below Exception: __init__ says super().__init__(text), then self.at = at -/
abbrev exEnd : List Value := [.type "Exception", .type "BaseException", .type "object"]
abbrev line (rs : List Addr) : List Value := rs.map Value.ref ++ exEnd
theorem line_has (X : String) (rs : List Addr) : (line rs).contains (.type X) = exEnd.contains (.type X) := by
  induction rs with
  | nil => rfl
  | cons r t ih =>
    rw [show line (r :: t) = Value.ref r :: line t from rfl, List.contains_cons, ih]
    rfl
theorem line_pass (self : Value) (rs : List Addr) : refuseLoop self "__setattr__" (line rs) = pure () := by
  induction rs with
  | nil => exact F.store_Exception.passes self
  | cons r t ih => exact (refuseLoop_ref self "__setattr__" r (line t)).trans ih
theorem line_ne (rs : List Addr) : (line rs).isEmpty = false := by cases rs <;> rfl
section
open Builtin Builtin.ObjectAttr
variable {prog : Program} {w : World} {A : Around} {R : Result → Shared → Prop} {hp : Heap} {g : Array GenState} {d : Drawn} {t : Nat} {os : OsState}
set_option maxHeartbeats 4000000 in
/-- self.name = v, the object without a dict so far -/
theorem err_set {K : Frag} {name : Str} {tk : Tok} {v : Value} {x C : Addr} {fv : Array Value} {cd : ClassData} {rs : List Addr}
    (X : K.In hp) (hx : hp.get? x = some { cls := .ref C, data := .fields fv }) (hcd : clsIn K C = some cd) (hm : cd.mro = line rs) (hh : cd.hasDict = true) (ha : findIn K (.ref C) name = some none)
    (hq : ∀ h' tk' dx, (∀ b o, b ≠ x → hp.get? b = some o → h'.get? b = some o) → hp.objs.size ≤ dx → dx ≠ x → h'.get? x = some { cls := .ref C, dict := some dx, data := .fields fv } →
      h'.Ns1 dx (fun y => if y = name then some v else none) → R (.ok (.ret .none)) ⟨h', g, d, tk', os⟩) :
    codeAny (model prog w) A (.call (.builtin "object.__setattr__") ⟨[.ref x, .str name tk, v], []⟩) R ⟨hp, g, d, t, os⟩ := by
  have at_x : InstAt hp x { cls := .ref C, data := .fields fv } C none := ⟨hx, rfl, rfl, trivial⟩
  have SF := F.store_object
  have fresh : x ≠ hp.objs.size := Nat.ne_of_lt (Heap.lt_size hx)
  have isO : Looks (model prog w) hp (isInstance (.ref x) (.type "object")) true := at_x.type.andThen (looks_mroIn X (by
    unfold mroIn
    rw [hcd, Option.bind_some, hm, if_neg (by rw [line_ne]; decide), line_has]
    rfl))
  refine codeAny_call_builtin SF.slot.plain SF.entry (@check_slot (model prog w) A.in1 _ ⟨hp, g, d, t, os⟩ "object.__setattr__" "object" "__setattr__"
    (.ref x) [.str name tk, v] [] _ SF.kind SF.split isO (SF.args (.ref x) (.str name tk) v) ?_)
  have mro : Looks (model prog w) hp (mroOf (.ref C)) cd.mro := (looks_clsIn X hcd).andThen .now
  have no : Looks (model prog w) hp (storeTaker? none) none := .now
  have cls : Looks (model prog w) hp (classData C) cd := looks_clsIn X hcd
  rw [osa_eq, refuse_eq]
  refine wpAny_bind (wpAny_bind (at_x.type.at (wpAny_bind (mro.at ?_))))
  rw [show refuseLoop (.ref x) "__setattr__" cd.mro = pure () by rw [hm]; exact line_pass _ _]
  refine wpAny_pure (wpAny_bind (at_x.type.at (wpAny_bind ((looks_findIn X ha).at (wpAny_bind (no.at ?_))))))
  show wpAny _ _ (storeInOwnDict (.ref x) (.ref C) (.str name tk) name v false) _ _ _
  obtain ⟨c1, c2, c3, c4, c5, c6, c7, c8, c9, c10, c11⟩ := cd
  dsimp only at hh
  subst hh
  unfold storeInOwnDict ownDictForStores
  repeat (first | with_reducible refine store_in_new ?_ ?_ | with_reducible refine wpAny_loadPart_at hx ?_ | with_reducible refine cls.at ?_ | wp_step)
  · exact ⟨_, #[], _, (Heap.get?_update_ne _ _ _ _ fresh.symm).trans (Heap.get?_push_at rfl rfl), rfl, fun e he => absurd he (by simp), fun _ => rfl⟩
  · intro h' tk' ns' sb
    have hx1 : (hp.push { cls := .type "dict", data := .dict #[] }).get? x = some { cls := .ref C, data := .fields fv } := Heap.get?_push_of_some _ hx
    refine hq h' tk' hp.objs.size (fun b o hb ho => ?_) (Nat.le_refl _) fresh.symm ?_ ns'
    · exact (sb.2 b (Nat.ne_of_lt (Heap.lt_size ho))).trans ((Heap.get?_update_ne _ _ _ _ hb).trans (Heap.get?_push_of_some _ ho))
    · exact (sb.2 x fresh).trans (Heap.get?_update_self _ hx1 rfl)
end
/-! ### the text of __init__ -/
def iA (fld : Str) (p1 p2 : Pos) : Arguments := { posonlyargs := [], args := [{ arg := "self", annotation := none, pos := p1 }, { arg := fld, annotation := none, pos := p2 }], vararg := none, kwonlyargs := [], kw_defaults := [], kwarg := none, defaults := [] }
def iB (fld txt : Str) (q1 q2 q3 q4 q5 q6 r1 r2 r3 r4 : Pos) : List Stmt :=
  [.Expr (.Call (.Attribute (.Call (.Name "super" q1) [] [] q2) "__init__" q3) [.Constant (.str txt) 0 q4] [] q5) q6, .Assign [.Attribute (.Name "self" r1) fld r2] (.Name fld r3) r4]
def iS (fld : Str) : Scope := { kind := .function, names := [(PySem.Str.ofString "self", .local), (fld, .local), (PySem.Str.ofString "__class__", .free), (PySem.Str.ofString "super", .globalImplicit)], isGenerator := false, isCoroutine := false, more := [] }
/-- the statement is such an __init__ -/
def IsInit (fld : Str) (st : Stmt) : Prop := ∃ p1 p2 txt q1 q2 q3 q4 q5 q6 r1 r2 r3 r4, L2.defArgs st = iA fld p1 p2 ∧ L2.defBody st = iB fld txt q1 q2 q3 q4 q5 q6 r1 r2 r3 r4 ∧ L2.defScope st = iS fld ∧
  ∀ env : Env, ∃ pl : Sem Bool, eval (.Call (.Attribute (.Call (.Name "super" q1) [] [] q2) "__init__" q3) [.Constant (.str txt) 0 q4] [] q5) env = (do
    let ov ← attributeBase (.Call (.Name "super" q1) [] [] q2) "__init__" env (eval (.Call (.Name "super" q1) [] [] q2) env)
    standAt q3.atName
    let (f, first) ← holding [ov] (getMethod ov "__init__" pl)
    callWith q5 f first (backTo q5 (starEach [.Constant (.str txt) 0 q4] env)) [])
/-- what the written part says of an error's class at C and of its __init__ at f -/
structure ErrTxt (prog : Program) (K : Frag) (C f : Addr) (st : Stmt) (fld : Str) : Prop where
  hf : fld = PySem.Str.ofString "at" ∨ fld = PySem.Str.ofString "word"
  tx : IsInit fld st
  cls : ∃ nm q N bs rs sn sub ab col dd k0 k1 k2 k3 k5, K.lookup C = some (excClassObj nm q C N bs (line rs) true sn sub ab col dd k0 k1 k2 k3 k5 "Exception.__new__") ∧ alongIn K "__init__" (line rs) = some (some (.builtin "Exception.__init__"))
  sa : findIn K (.ref C) "__setattr__" = some (some (.builtin "object.__setattr__"))
  noN : findIn K (.ref C) fld = some none
  iC : findIn K (.ref C) "__init__" = some (some (.ref f))
  tC : typeIn K (.ref f) = some (.type "function")
  kC : keepIn K (.ref C) = true
  exC : subIn K (.ref C) (.type "BaseException") = some true
  exE : subIn K (.ref C) (.type "Exception") = some true
  self : mroIn K C (.ref C) = some true
  tyC : typeIn K (.ref C) = some (.type "type")
  tp : nsIn K cStatics "thirdparty.any" = some none
  fn : ∃ oc od doc pm an cda ct cc osl qual kV, K.lookup f = some ⟨oc, od, .func (ksFn "__init__" qual (L2.defArgs st) (L2.defBody st) (L2.defScope st) .none kV doc pm an (.ref cda) ct cc), osl⟩ ∧ codeIn K (.ref cda) qual = true ∧
    (∃ cl cld csl, K.lookup cc = some ⟨cl, cld, .cell (some (.ref C)), csl⟩) ∧ ∃ ccl cdd vs ccs file tf, K.lookup cda = some ⟨ccl, cdd, .fields vs, ccs⟩ ∧ vs[2]? = some (.str file tf) ∧ ((prog.main.file : Str) == file) = true
  top : (prog.main.scope.names.lookup ("super" : Str)).isSome = false
/-- what __init__ leaves of a new error at x -/
structure InitEnd (fld : Str) (h h' : Heap) (x C dx : Addr) (v : Value) : Prop where
  keep : ∀ b o, b ≠ x → h.get? b = some o → h'.get? b = some o
  obj : ∃ t1, h'.get? x = some { cls := .ref C, dict := some dx, data := .fields #[.ref t1, .none, .none, .none, .bool false, .none] }
  dbig : h.objs.size ≤ dx
  dne : dx ≠ x
  ns : h'.Ns1 dx (fun y => if y = fld then some v else none)
/-- a made error -/
structure Made (fld : Str) (h h' : Heap) (e C d : Addr) (v : Value) : Prop where
  keep : ∀ b o, h.get? b = some o → h'.get? b = some o
  new : h.objs.size ≤ e
  obj : ∃ oe vs, h'.get? e = some oe ∧ oe.cls = .ref C ∧ oe.dict = some d ∧ oe.data = .fields vs ∧ vs[1]? = some .none
  dbig : h.objs.size ≤ d
  dne : d ≠ e
  ns : h'.Ns1 d (fun y => if y = fld then some v else none)
section
variable {prog : Program} {w : World} {A : Around} {E : Value → Shared → Prop} {R : Result → Shared → Prop} {s : Shared} {K : Frag} {mg mb : Str → Option Value} {C f : Addr} {st : Stmt} {fld : Str}
theorem one_size (v : Value) : [v].length ≤ sizeLine := by
  rw [sizeLine_eq]
  exact (by decide : 1 ≤ 16777216)
set_option maxHeartbeats 4000000 in
theorem err_init_at (T : ErrTxt prog K C f st (PySem.Str.ofString "at")) {x t0 : Addr} {v : Value} (X : K.In s.heap) (hlim : s.heap.NoLimit) (G : s.heap.Ns mainGlobals mg) (hs : mg "super" = none) (B : s.heap.Ns builtinsNs mb) (hb : mb "super" = bootBuiltins "super")
    (hx : s.heap.get? x = some (excO C t0)) (hnx : K.lookup x = none) (hroom : A.depth < recursionLimit)
    (hq : ∀ h' tk dx, InitEnd (PySem.Str.ofString "at") s.heap h' x C dx v → R (.ok (.ret .none)) { s with heap := h', toks := tk }) :
    codeAny (model prog w) A (.call (.ref f) ⟨[.ref x, v], []⟩) R s := by
  obtain ⟨oc, od, doc, pm, an, cda, ct, cc, osl, qual, kV, ho, hcd, ⟨cl, cld, csl, hcell⟩, ccl, cdd, vs, ccs, file, tf, hcode, hvs, hfile⟩ := T.fn
  obtain ⟨nm, q, N, bs, rs, sn, sub, ab, col, dd, k0, k1, k2, k3, k5, hC, hal⟩ := T.cls
  obtain ⟨p1, p2, txt, q1, q2, q3, q4, q5, q6, r1, r2, r3, r4, e1, e2, e3, he⟩ := T.tx
  rw [e1, e2, e3] at ho
  have hcl : clsIn K C = some { name := nm, bases := bs, mro := line (C :: rs), ns := N, qualname := q, hasDict := true, slotNames := sn, subclasses := sub, abstract := ab, collection := col, hasDel := false } := by unfold clsIn; rw [hC] <;> rfl
  have loc : ∀ y ∈ [(PySem.Str.ofString "self", Value.ref x), (PySem.Str.ofString "at", v)], (iS (PySem.Str.ofString "at")).names.lookup y.1 = some .local := fun y hy => by
    rcases List.mem_cons.mp hy with rfl | hy
    · rfl
    · rw [List.mem_singleton.mp hy]
      rfl
  obtain ⟨hp, g, d, tk, os⟩ := s
  refine ks_codeAny_call_defAt (binds := [("self", .ref x), ("at", v)]) hroom (X _ _ ho) rfl hlim (codeRec_of X hcd) rfl (BindsTo.of_eq rfl) (show ∀ y ∈ (iS (PySem.Str.ofString "at")).names, y.2 ≠ .cell by decide) loc (fun h1 ns k => ?_) rfl rfl rfl
  have X1 : K.In h1 := X.keeps k
  have hx1 := k _ _ hx
  have nx : x ≠ C := fun z => by rw [z, hC] at hnx; cases hnx
  have hC1 := X1 _ _ hC
  have I1 : InstAt h1 x (excO C t0) C none := ⟨hx1, rfl, rfl, trivial⟩
  obtain ⟨pl, he⟩ := he (callEnv (ksFn "__init__" qual (iA (PySem.Str.ofString "at") p1 p2) (iB (PySem.Str.ofString "at") txt q1 q2 q3 q4 q5 q6 r1 r2 r3 r4) (iS (PySem.Str.ofString "at")) .none kV doc pm an (.ref cda) ct cc) hp.objs.size f)
  refine ks_wpAt_execs_cons (ks_wpAt_Expr_any (ks_wpAt_MethodCall (pl := pl) (he := he) (ks_wpAt_super_base rfl rfl rfl rfl (X1 _ _ ho) rfl rfl rfl (X1 _ _ hcode) rfl hvs hfile T.top ?_)))
  refine ks_loadName_global rfl rfl (loadGlobal_builtin (G.keeps k) hs (B.keeps k) (hb.trans (by decide +kernel)) ⟨rfl, ?_⟩)
  refine wpAny_loadName_free rfl rfl rfl ⟨_, X1 _ _ hcell, rfl⟩ ?_
  refine wpAny_loadName_local rfl rfl ns rfl ?_
  refine ks_wpAny_isType_cls hC1 rfl ⟨rfl, ?_⟩
  refine ks_wpAny_call_super hC1 rfl hx1 rfl (fun c e => nomatch e) (looks_mroIn X1 T.self) fun h2 es k2 => ?_
  have X2 : K.In h2 := X1.keeps k2
  have I2 : InstAt h2 x (excO C t0) C none := ⟨k2 _ _ hx1, rfl, rfl, trivial⟩
  refine ESX.getMethod_super es (looks_opaque X2 T.tp) ((looks_clsIn X2 hcl).andThen .now) (ESX.drop_own C (line rs)) X2 hal nx rfl (I2.type.andThen (looks_subIn X2 T.exE)) ?_
  have X3 : K.In (h2.push (ESX.bw x)) := X2.keeps fun b o e => Heap.get?_push_of_some _ e
  refine ESX.callWith_bound (x := x) (e := .Constant (.str txt) 0 q4) (rest := []) ?_ rfl rfl
  show wpAny _ _ (spliced [(false, eval (.Constant (.str txt) 0 q4) _)]) _ _ _
  refine Calls.spliced_cons (Calls.Constant_str (k := 0) (pos := q4) (Calls.spliced_nil ⟨Heap.get?_push_size _ rfl, ?_⟩))
  refine ESX.call_bw (X3 _ _ hC) (Heap.get?_push_of_some _ (k2 _ _ hx1)) (Heap.get?_push_size _ rfl) (one_size _) fun h4 t1 k4 e4 => ?_
  have up : ∀ b o, b ≠ x → hp.get? b = some o → h4.get? b = some o := fun b o hb e => k4 b o hb (Heap.get?_push_of_some _ (k2 _ _ (k _ _ e)))
  have X4 : K.In h4 := fun a o e => k4 a o (fun z => by rw [z, hnx] at e; cases e) (X3 a o e)
  have hL : hp.objs.size ≠ x := Nat.ne_of_gt (Heap.lt_size hx)
  have ns4 := ns.at (h' := h4) fun o e => k4 _ o hL (Heap.get?_push_of_some _ (k2 _ _ e))
  show PySem.wpAt _ _ _ (execs [.Assign [.Attribute (.Name "self" r1) "at" r2] (.Name "at" r3) r4] (callEnv (ksFn "__init__" qual (iA (PySem.Str.ofString "at") p1 p2) (iB (PySem.Str.ofString "at") txt q1 q2 q3 q4 q5 q6 r1 r2 r3 r4) (iS (PySem.Str.ofString "at")) .none kV doc pm an (.ref cda) ct cc) hp.objs.size f)) _ _ _
  refine ks_wpAt_execs_cons (ks_wpAt_Assign_Attr (o := .Name "self" r1) (attr := "at") (value := .Name "at" r3) (wpAt_of_wpAny ?_) rfl)
  refine ESX.ldL (s := ⟨h4, g, d, _, os⟩) (env := callEnv (ksFn "__init__" qual (iA (PySem.Str.ofString "at") p1 p2) (iB (PySem.Str.ofString "at") txt q1 q2 q3 q4 q5 q6 r1 r2 r3 r4) (iS (PySem.Str.ofString "at")) .none kV doc pm an (.ref cda) ct cc) hp.objs.size f) (m := fun y => List.lookup y [(PySem.Str.ofString "self", Value.ref x), (PySem.Str.ofString "at", v)].reverse) (x := "at") (v := v) ns4 rfl ?_
  refine ESX.ldL (s := ⟨h4, g, d, _, os⟩) (env := callEnv (ksFn "__init__" qual (iA (PySem.Str.ofString "at") p1 p2) (iB (PySem.Str.ofString "at") txt q1 q2 q3 q4 q5 q6 r1 r2 r3 r4) (iS (PySem.Str.ofString "at")) .none kV doc pm an (.ref cda) ct cc) hp.objs.size f) (m := fun y => List.lookup y [(PySem.Str.ofString "self", Value.ref x), (PySem.Str.ofString "at", v)].reverse) (x := "self") (v := .ref x) ns4 rfl ?_
  refine set_plain X4 (ox := excO C t1) (od := none) ⟨e4, rfl, rfl, trivial⟩ T.sa ?_
  refine err_set X4 e4 hcl rfl rfl T.noN fun h5 tk5 dx k5 dn dne hx5 n5 => ?_
  show PySem.wpAt _ _ _ (execs _ _) _ _ _
  refine wpAt_of_wpAny (wpAny_execs_nil ?_)
  have sz : hp.objs.size < h4.objs.size := ns4.lt
  exact hq h5 tk5 dx ⟨fun b o hb e => k5 b o hb (up b o hb e), ⟨t1, hx5⟩, Nat.le_of_lt (Nat.lt_of_lt_of_le sz dn), dne, n5⟩
set_option maxHeartbeats 4000000 in
theorem err_init_word (T : ErrTxt prog K C f st (PySem.Str.ofString "word")) {x t0 : Addr} {v : Value} (X : K.In s.heap) (hlim : s.heap.NoLimit) (G : s.heap.Ns mainGlobals mg) (hs : mg "super" = none) (B : s.heap.Ns builtinsNs mb) (hb : mb "super" = bootBuiltins "super")
    (hx : s.heap.get? x = some (excO C t0)) (hnx : K.lookup x = none) (hroom : A.depth < recursionLimit)
    (hq : ∀ h' tk dx, InitEnd (PySem.Str.ofString "word") s.heap h' x C dx v → R (.ok (.ret .none)) { s with heap := h', toks := tk }) :
    codeAny (model prog w) A (.call (.ref f) ⟨[.ref x, v], []⟩) R s := by
  obtain ⟨oc, od, doc, pm, an, cda, ct, cc, osl, qual, kV, ho, hcd, ⟨cl, cld, csl, hcell⟩, ccl, cdd, vs, ccs, file, tf, hcode, hvs, hfile⟩ := T.fn
  obtain ⟨nm, q, N, bs, rs, sn, sub, ab, col, dd, k0, k1, k2, k3, k5, hC, hal⟩ := T.cls
  obtain ⟨p1, p2, txt, q1, q2, q3, q4, q5, q6, r1, r2, r3, r4, e1, e2, e3, he⟩ := T.tx
  rw [e1, e2, e3] at ho
  have hcl : clsIn K C = some { name := nm, bases := bs, mro := line (C :: rs), ns := N, qualname := q, hasDict := true, slotNames := sn, subclasses := sub, abstract := ab, collection := col, hasDel := false } := by unfold clsIn; rw [hC] <;> rfl
  have loc : ∀ y ∈ [(PySem.Str.ofString "self", Value.ref x), (PySem.Str.ofString "word", v)], (iS (PySem.Str.ofString "word")).names.lookup y.1 = some .local := fun y hy => by
    rcases List.mem_cons.mp hy with rfl | hy
    · rfl
    · rw [List.mem_singleton.mp hy]
      rfl
  obtain ⟨hp, g, d, tk, os⟩ := s
  refine ks_codeAny_call_defAt (binds := [("self", .ref x), ("word", v)]) hroom (X _ _ ho) rfl hlim (codeRec_of X hcd) rfl (BindsTo.of_eq rfl) (show ∀ y ∈ (iS (PySem.Str.ofString "word")).names, y.2 ≠ .cell by decide) loc (fun h1 ns k => ?_) rfl rfl rfl
  have X1 : K.In h1 := X.keeps k
  have hx1 := k _ _ hx
  have nx : x ≠ C := fun z => by rw [z, hC] at hnx; cases hnx
  have hC1 := X1 _ _ hC
  have I1 : InstAt h1 x (excO C t0) C none := ⟨hx1, rfl, rfl, trivial⟩
  obtain ⟨pl, he⟩ := he (callEnv (ksFn "__init__" qual (iA (PySem.Str.ofString "word") p1 p2) (iB (PySem.Str.ofString "word") txt q1 q2 q3 q4 q5 q6 r1 r2 r3 r4) (iS (PySem.Str.ofString "word")) .none kV doc pm an (.ref cda) ct cc) hp.objs.size f)
  refine ks_wpAt_execs_cons (ks_wpAt_Expr_any (ks_wpAt_MethodCall (pl := pl) (he := he) (ks_wpAt_super_base rfl rfl rfl rfl (X1 _ _ ho) rfl rfl rfl (X1 _ _ hcode) rfl hvs hfile T.top ?_)))
  refine ks_loadName_global rfl rfl (loadGlobal_builtin (G.keeps k) hs (B.keeps k) (hb.trans (by decide +kernel)) ⟨rfl, ?_⟩)
  refine wpAny_loadName_free rfl rfl rfl ⟨_, X1 _ _ hcell, rfl⟩ ?_
  refine wpAny_loadName_local rfl rfl ns rfl ?_
  refine ks_wpAny_isType_cls hC1 rfl ⟨rfl, ?_⟩
  refine ks_wpAny_call_super hC1 rfl hx1 rfl (fun c e => nomatch e) (looks_mroIn X1 T.self) fun h2 es k2 => ?_
  have X2 : K.In h2 := X1.keeps k2
  have I2 : InstAt h2 x (excO C t0) C none := ⟨k2 _ _ hx1, rfl, rfl, trivial⟩
  refine ESX.getMethod_super es (looks_opaque X2 T.tp) ((looks_clsIn X2 hcl).andThen .now) (ESX.drop_own C (line rs)) X2 hal nx rfl (I2.type.andThen (looks_subIn X2 T.exE)) ?_
  have X3 : K.In (h2.push (ESX.bw x)) := X2.keeps fun b o e => Heap.get?_push_of_some _ e
  refine ESX.callWith_bound (x := x) (e := .Constant (.str txt) 0 q4) (rest := []) ?_ rfl rfl
  show wpAny _ _ (spliced [(false, eval (.Constant (.str txt) 0 q4) _)]) _ _ _
  refine Calls.spliced_cons (Calls.Constant_str (k := 0) (pos := q4) (Calls.spliced_nil ⟨Heap.get?_push_size _ rfl, ?_⟩))
  refine ESX.call_bw (X3 _ _ hC) (Heap.get?_push_of_some _ (k2 _ _ hx1)) (Heap.get?_push_size _ rfl) (one_size _) fun h4 t1 k4 e4 => ?_
  have up : ∀ b o, b ≠ x → hp.get? b = some o → h4.get? b = some o := fun b o hb e => k4 b o hb (Heap.get?_push_of_some _ (k2 _ _ (k _ _ e)))
  have X4 : K.In h4 := fun a o e => k4 a o (fun z => by rw [z, hnx] at e; cases e) (X3 a o e)
  have hL : hp.objs.size ≠ x := Nat.ne_of_gt (Heap.lt_size hx)
  have ns4 := ns.at (h' := h4) fun o e => k4 _ o hL (Heap.get?_push_of_some _ (k2 _ _ e))
  show PySem.wpAt _ _ _ (execs [.Assign [.Attribute (.Name "self" r1) "word" r2] (.Name "word" r3) r4] (callEnv (ksFn "__init__" qual (iA (PySem.Str.ofString "word") p1 p2) (iB (PySem.Str.ofString "word") txt q1 q2 q3 q4 q5 q6 r1 r2 r3 r4) (iS (PySem.Str.ofString "word")) .none kV doc pm an (.ref cda) ct cc) hp.objs.size f)) _ _ _
  refine ks_wpAt_execs_cons (ks_wpAt_Assign_Attr (o := .Name "self" r1) (attr := "word") (value := .Name "word" r3) (wpAt_of_wpAny ?_) rfl)
  refine ESX.ldL (s := ⟨h4, g, d, _, os⟩) (env := callEnv (ksFn "__init__" qual (iA (PySem.Str.ofString "word") p1 p2) (iB (PySem.Str.ofString "word") txt q1 q2 q3 q4 q5 q6 r1 r2 r3 r4) (iS (PySem.Str.ofString "word")) .none kV doc pm an (.ref cda) ct cc) hp.objs.size f) (m := fun y => List.lookup y [(PySem.Str.ofString "self", Value.ref x), (PySem.Str.ofString "word", v)].reverse) (x := "word") (v := v) ns4 rfl ?_
  refine ESX.ldL (s := ⟨h4, g, d, _, os⟩) (env := callEnv (ksFn "__init__" qual (iA (PySem.Str.ofString "word") p1 p2) (iB (PySem.Str.ofString "word") txt q1 q2 q3 q4 q5 q6 r1 r2 r3 r4) (iS (PySem.Str.ofString "word")) .none kV doc pm an (.ref cda) ct cc) hp.objs.size f) (m := fun y => List.lookup y [(PySem.Str.ofString "self", Value.ref x), (PySem.Str.ofString "word", v)].reverse) (x := "self") (v := .ref x) ns4 rfl ?_
  refine set_plain X4 (ox := excO C t1) (od := none) ⟨e4, rfl, rfl, trivial⟩ T.sa ?_
  refine err_set X4 e4 hcl rfl rfl T.noN fun h5 tk5 dx k5 dn dne hx5 n5 => ?_
  show PySem.wpAt _ _ _ (execs _ _) _ _ _
  refine wpAt_of_wpAny (wpAny_execs_nil ?_)
  have sz : hp.objs.size < h4.objs.size := ns4.lt
  exact hq h5 tk5 dx ⟨fun b o hb e => k5 b o hb (up b o hb e), ⟨t1, hx5⟩, Nat.le_of_lt (Nat.lt_of_lt_of_le sz dn), dne, n5⟩
theorem err_init (T : ErrTxt prog K C f st fld) {x t0 : Addr} {v : Value} (X : K.In s.heap) (hlim : s.heap.NoLimit) (G : s.heap.Ns mainGlobals mg) (hs : mg "super" = none) (B : s.heap.Ns builtinsNs mb) (hb : mb "super" = bootBuiltins "super")
    (hx : s.heap.get? x = some (excO C t0)) (hnx : K.lookup x = none) (hroom : A.depth < recursionLimit)
    (hq : ∀ h' tk dx, InitEnd fld s.heap h' x C dx v → R (.ok (.ret .none)) { s with heap := h', toks := tk }) :
    codeAny (model prog w) A (.call (.ref f) ⟨[.ref x, v], []⟩) R s := by
  rcases T.hf with h | h
  · subst h
    exact err_init_at T X hlim G hs B hb hx hnx hroom hq
  · subst h
    exact err_init_word T X hlim G hs B hb hx hnx hroom hq
set_option maxHeartbeats 4000000 in
theorem err_made (T : ErrTxt prog K C f st fld) {v : Value} (X : K.In s.heap) (hlim : s.heap.NoLimit) (G : s.heap.Ns mainGlobals mg) (hs : mg "super" = none) (B : s.heap.Ns builtinsNs mb) (hb : mb "super" = bootBuiltins "super") (hroom : A.depth + 1 < recursionLimit)
    (hq : ∀ h' tk e d, Made fld s.heap h' e C d v → R (.ok (.ret (.ref e))) { s with heap := h', toks := tk }) :
    codeAny (model prog w) A (.call (.ref C) ⟨[v], []⟩) R s := by
  obtain ⟨nm, q, N, bs, rs, sn, sub, ab, col, dd, k0, k1, k2, k3, k5, hC, hal⟩ := T.cls
  obtain ⟨hp, g, dr, tk, os⟩ := s
  have k : ∀ b o, hp.get? b = some o → ((hp.push (kdv_tup [v])).push (excO C hp.objs.size)).get? b = some o := fun b o e => Heap.get?_push_of_some _ (Heap.get?_push_of_some _ e)
  have at_e : ((hp.push (kdv_tup [v])).push (excO C hp.objs.size)).get? (hp.objs.size + 1) = some (excO C hp.objs.size) := by heap_get
  have no_e : K.lookup (hp.objs.size + 1) = none := by
    cases e : K.lookup (hp.objs.size + 1) with
    | none => rfl
    | some o =>
      have z : hp.get? (hp.objs.size + 1) = some o := X _ _ e
      exact absurd (Nat.lt_of_succ_lt (Heap.lt_size z)) (Nat.lt_irrefl _)
  refine call_own F.excBase_Exception (fun Y => line_has Y rs) (X _ _ hC) (looks_findIn X T.iC) (fun self => bind_fn X self T.tC) (one_size v) ?_
  refine err_init (s := ⟨(hp.push (kdv_tup [v])).push (excO C hp.objs.size), g, dr, tk, os⟩) T (X.keeps k) (hlim.keeps k) (G.keeps k) hs (B.keeps k) hb at_e no_e hroom fun h' tk' dx M => ?_
  have old : ∀ b o, hp.get? b = some o → h'.get? b = some o := fun b o e => M.keep b o (Nat.ne_of_lt (Nat.lt_succ_of_lt (Heap.lt_size e))) (k b o e)
  have big : hp.objs.size + 1 + 1 ≤ dx := by
    have z := M.dbig
    simp only [Heap.size_push] at z
    exact z
  obtain ⟨t1, hx⟩ := M.obj
  exact ⟨rfl, hq h' tk' (hp.objs.size + 1) dx ⟨old, Nat.le_succ _, ⟨_, _, hx, rfl, rfl, rfl, rfl⟩, Nat.le_trans (Nat.le_trans (Nat.le_succ _) (Nat.le_succ _)) big, M.dne, M.ns⟩⟩
end
end Kx
namespace Kb
open PySem PySem.Spec PyProof.Rows L2
/-! ### raise C(v), C an error of the program's own -/
theorem relO_at {v : V} {u : Value} (r : RelV v u) {fld : Str} (f : Str) : RelO (List.lookup f [(fld, v)]) (if f = fld then some u else none) := by
  by_cases e : f = fld
  · rw [e, if_pos rfl, show List.lookup fld [(fld, v)] = some v by simp [List.lookup]]
    exact r
  · have e2 : (f == fld) = false := beq_eq_false_iff_ne.mpr e
    rw [if_neg e, show List.lookup f [(fld, v)] = none by simp [List.lookup, e2]]
    trivial
/-- C(e) -/
def tErr (C : Addr) (fld : Str) (ta : TA) : L2.St → Hp → XK → Prop := fun σ H Q => ta σ H fun vs H1 => ∃ v, vs = [v] ∧ ∀ d, H1 d = none → Q (.ref C) (some d) (upd H1 d (.xd [(fld, v)]))
section
variable {X : Cx} {P : Program} {K : PySem.W.Frag} {C f : Addr} {st : Stmt} {fld : Str}
theorem pmk_err {a : Expr} {ta : TA} {x : Str} {p pos : Pos} {k : Nat} (hP : X.prog = P) (hK : X.K = K) (T : Kx.ErrTxt P K C f st fld) (hr : Room k X.A) (gC : X.mg x = some (.ref C)) (hs : X.mg "super" = none) (ha : PA X [a] ta) (hg : Gl X x) (hd : (x == ("__debug__" : Str)) = false := by decide)
    (he : starEach (a :: []) X.env = (false, eval a X.env) :: starEach [] X.env := by rfl) (hpl : (backTo pos (starEach [] X.env)).any (·.1) = false := by rfl) :
    PMk X (.Call (.Name x p) [a] [] pos) (tErr C fld ta) := by
  subst hP hK
  intro pins s σ H Q I h
  refine wpAny_Call_Name_kw (ld_glob I hg gC ?_ hd)
  refine PySem.W.callWith_K (h₀ := X.base) I.ok.mod.kin T.kC (thn (ha.run pos pins s σ H _ I h) fun us s1 hh => ?_) he hpl
  obtain ⟨vs, H1, I1, r1, v, ev, q1⟩ := hh
  subst ev
  refine ⟨I1.kIn, ?_⟩
  cases r1 with
  | cons rv rn =>
    rename_i u us
    cases rn
    show wpAny _ _ (call (.ref C) [u]) _ _ _
    obtain ⟨mb, hb1, hb2⟩ := I1.mod.blt
    obtain ⟨hp, g, dr, tk, os⟩ := s1
    refine wpAny_call (Kx.err_made T I1.kIn I1.nolimit (I1.mod.glob.keeps I1.bk) hs (hb1.keeps I1.bk) (hb2 _ (by decide)) (by have := hr.dp; omega) fun h' tk' e d M => ?_)
    show MkP X pins σ Q (.ref e) ⟨h', g, dr, tk', os⟩
    obtain ⟨oe, fv, hoe, hc, hd2, hdat, h1⟩ := M.obj
    obtain ⟨G, g1, g2⟩ := restrict h' fun b => decide (b ≠ e)
    have gk : ∀ b, b ≠ e → G.get? b = h'.get? b := fun b hb => g1 b (decide_eq_true hb)
    have ge : G.get? e = none := g2 e (by simp)
    have old : ∀ b o, hp.get? b = some o → G.get? b = some o := fun b o q => (gk b (Nat.ne_of_lt (Nat.lt_of_lt_of_le (Heap.lt_size q) M.new))).trans (M.keep b o q)
    have ob : ObjOk X.prog X.w (upd H1 d (.xd [(fld, v)])) G d (.xd [(fld, v)]) := ⟨_, M.ns.at (fun o q => (gk d M.dne).trans q), fun f => relO_at rv f⟩
    have J : Inv X pins σ (upd H1 d (.xd [(fld, v)])) ⟨G, g, dr, tk', os⟩ := I1.laid (t' := tk') old M.dbig ob
    refine ⟨e, oe, fv, ⟨G, g, dr, tk', os⟩, _, .ref C, some d, rfl, J, fun b o q => ?_, ge, hoe, ⟨hc, hd2⟩, hdat, h1, ?_, rfl, I1.bare, raises_own T.exC T.tyC, q1 d (I1.hok.fresh M.dbig)⟩
    · by_cases hb : b = e
      · have q2 : G.get? b = some o := q
        rw [hb, ge] at q2
        cases q2
      · exact (gk b hb).symm.trans q
    · rw [upd_ne (Ne.symm M.dne)]
      exact I1.hok.fresh M.new
/-- raise C(e) -/
def tRaise (C : Addr) (fld : Str) (W : WX) (ta : TA) : TS := fun _ σ H => tErr C fld ta σ H fun cls d H' => W cls d σ H'
theorem ps_raiseE {a : Expr} {ta : TA} {W : WX} {x : Str} {p pos pos2 : Pos} {k : Nat} (hc : X.calm = true) (hP : X.prog = P) (hK : X.K = K) (T : Kx.ErrTxt P K C f st fld) (hr : Room k X.A) (gC : X.mg x = some (.ref C)) (hs : X.mg "super" = none) (tk : Takes X W) (ha : PA X [a] ta) (hg : Gl X x)
    (hd : (x == ("__debug__" : Str)) = false := by decide) (he : starEach (a :: []) X.env = (false, eval a X.env) :: starEach [] X.env := by rfl) (hpl : (backTo pos (starEach [] X.env)).any (·.1) = false := by rfl) :
    PS X (.Raise (some (.Call (.Name x p) [a] [] pos)) none pos2) (tRaise C fld W ta) := ps_raise hc tk (pmk_err hP hK T hr gC hs ha hg hd he hpl)
end
end Kb
namespace Kb
open PySem PySem.Spec PyProof.Rows L2
/-! ### try: .. except C1 as e: .. except C2 as e: .. -/
/-- the ends of a suite behind which the name in slot i is gone -/
def gone (i : Nat) (D : Ends) : Ends := { nx := fun σ H => D.nx (σ.set i none) H, rt := D.rt, bk := fun σ H => D.bk (σ.set i none) H, ct := fun σ H => D.ct (σ.set i none) H }
abbrev Clause := Value × (Addr → Value → Option Addr → TS)
/-- what the clauses wish of an exception, one after the other -/
def wClauses (K : PySem.W.Frag) (i : Nat) (Wout : WX) (D : Ends) : List Clause → WX
  | [] => Wout
  | (c, ts) :: r => fun cls d σ H => ∃ b, PySem.W.exmOne K cls c = some b ∧ (b = true → ∀ a, H a = none → ts a cls d (gone i D) (σ.set i (some (.ref a))) H) ∧ (b = false → wClauses K i Wout D r cls d σ H)
inductive ClOk (X : Cx) (n : Str) : List ExceptHandler → List Clause → Prop
  | nil : ClOk X n [] []
  | cons {x : Str} {c : Value} {ts : Addr → Value → Option Addr → TS} {st : Stmt} {sts : List Stmt} {q1 q2 : Pos} {hs : List ExceptHandler} {l : List Clause} (nm : Names X x c)
      (su : ∀ (a : Addr) (oe : Obj) (cls : Value) (d : Option Addr) (pn : List (Addr × Obj)), Zc cls d oe → (∃ vs, oe.data = .fields vs) → PSs (X.suite a ((a, oe) :: pn)) (st :: sts) (ts a cls d)) (r : ClOk X n hs l) :
      ClOk X n (.ExceptHandler (some (.Name x q1)) (some n) (st :: sts) q2 :: hs) ((c, ts) :: l)
section
variable {X : Cx} {n : Str} {i : Nat} {body : List Stmt} {h0 : ExceptHandler} {hs : List ExceptHandler} {l : List Clause} {pos : Pos} {tb : WX → TS} {Wout : WX}
theorem ps_try_clauses (hst : X.stack = X.env :: X.outer) (hf : X.env.frame = some X.env.locals) (hN : X.N.Nodup) (hi : X.N[i]? = some n) (hl : X.env.kindOf n = some .local) (tk : Takes X Wout)
    (hb : ∀ (W : WX) (pn : List (Addr × Obj)) (xe : Value → Shared → Prop), Takes (X.tr pn xe) W → PassesOwn (model X.prog X.w) X.A X.env xe → PSs (X.tr pn xe) body (tb W))
    (hc : ClOk X n (h0 :: hs) l) : PS X (.Try body (h0 :: hs) [] [] pos) (fun D σ H => tb (wClauses X.K i Wout D l) D σ H) := by
  constructor
  intro pp s0 sg H D I hw
  have ok := I.ok
  have frames : X.A.frames = some (X.env :: X.outer) := by rw [ok.frames, hst]
  refine wpAny_Try_except ?_
  refine wpAny_mono ((hb (wClauses X.K i Wout D l) (X.pn ++ pp) (fun e z => wpAny (model X.prog X.w) X.A (noteFrame e X.env) (fun _ z => wpAny (model X.prog X.w) X.A (setFlight e none) (fun _ z =>
    wpAny (model X.prog X.w) X.A (handleBy e X.env (h0 :: hs)) (SP X pp D) X.xe z) X.xe z) X.xe z) (fun u z xx => ?_) PassesOwn.looking).run [] s0 sg H D (I.toTry _) hw) (fun f z hsp => ?_) (fun _ _ he => he)
  · obtain ⟨a, B, sI, pp', sg', H', cls, d, rfl, J', nb, up, sky, na, eos, ag, w⟩ := xx
    have J : Inv X pp sg' H' sI := J'.ofTry ok
    have sky2 : Sky B (X.env :: X.outer) a (Zc cls d) X.env.locals z.heap := by rw [← hst]; exact sky
    show wpAny (model X.prog X.w) X.A (noteFrame (.ref a) X.env) _ _ _
    refine Sky.land Zc.steady frames hf sky2 fun h3 fl3 up3 => ?_
    have J3 : Inv X pp sg' H' { z with heap := h3 } := J.landed nb fl3.1 (up.trans up3) eos ag
    obtain ⟨oe3, vs3, e3, z3, d3⟩ := fl3.there
    have away : a ∉ frs (X.env :: X.outer) := fun hm => by
      obtain ⟨_, o', e', hnf⟩ := fl3.2.2.1.mem hm
      rw [e3] at e'
      cases e'
      exact hnf _ d3
    have nL : a ≠ X.env.locals := fun y => away (List.mem_filterMap.mpr ⟨X.env, List.mem_cons_self, by rw [hf, y]⟩)
    have nF : a ∉ X.fs := fun hm => by
      obtain ⟨e, he, q⟩ := List.mem_filterMap.mp hm
      exact away (List.mem_filterMap.mpr ⟨e, List.mem_cons_of_mem _ he, q⟩)
    have S3 := J3.suite e3 d3 na nL nF
    have go : ∀ {hs' : List ExceptHandler} {l' : List Clause}, ClOk X n hs' l' → wClauses X.K i Wout D l' cls d sg' H' → wpAny (model X.prog X.w) X.A (handleBy (.ref a) X.env hs') (SP X pp D) X.xe { z with heap := h3 } := by
      intro hs' l' hk
      induction hk with
      | nil =>
        intro w
        refine wpAny_handleBy_nil ?_
        obtain ⟨k1, k2, k3, oe, vs, T, oT, ts', he, hz, hd, h1, hr⟩ := id fl3
        unfold PySem.passOn
        refine wpAny_bind (wpAny_field he hd h1 ?_)
        rw [if_neg (by simp)]
        have fin : wpAny (model X.prog X.w) X.A (setFlight (.ref a) X.env.frame) (fun _ y => wpAny (model X.prog X.w) X.A (throw (.ref a) : Sem Flow) (SP X pp D) X.xe y) X.xe { z with heap := h3 } := by
          rw [hf]
          refine HandSPX.setFlight_upZ fl3 fun h4 hh4 up4 => wpAny_throw (tk _ _ ?_)
          exact ⟨a, B, sI, pp, sg', H', cls, d, rfl, J, nb, (up.trans up3).trans up4, .inr (.inr (by rw [hst]; exact hh4)), na, eos, ag, w⟩
        first
          | exact wpAny_bind (wpAny_pure (wpAny_bind fin))
          | exact wpAny_bind fin
      | @cons x c ts st sts q1 q2 hs2 l2 nm su r ih =>
        intro w
        obtain ⟨b, hb1, yes, no⟩ := w
        refine wpAny_handleBy_cons (codeAny_handlers_test ?_) (by intro q; cases q)
        have lt : PySem.W.Looks (model X.prog X.w) h3 (typeOf (.ref a)) cls := fun A Q E s k q => wpAny_typeOf_ref (k _ _ e3) (by rw [z3.1]; exact q)
        have lm := PySem.W.exm_one (M := model X.prog X.w) J3.kIn lt hb1
        have test : ∀ {Q : Value → Shared → Prop} {E : Value → Shared → Prop}, Q c { z with heap := h3 } → wpAny (model X.prog X.w) (X.A.mark (some (.ref a))) (eval (.Name x q1) X.env) Q E { z with heap := h3 } := fun {Q E} q => by
          obtain ⟨hg, hdbg, hm | ⟨hm, hv, hnn⟩⟩ := nm
          · exact ld_glob (X := X.suite a ((a, oe3) :: (X.pn ++ pp))) S3 hg hm q hdbg
          · exact ld_blt (X := X.suite a ((a, oe3) :: (X.pn ++ pp))) S3 hg hm hv q hnn hdbg
        refine test (lm.here ?_)
        cases b with
        | true =>
          refine codeAny_handlers_suite_as ?_
          refine HandSPX.lands_againZ fl3 fun h4 fl4 up4 => ?_
          have J4 : Inv X pp sg' H' { z with heap := h4 } := J.landed nb fl4.1 ((up.trans up3).trans up4) eos ag
          obtain ⟨oe4, vs4, e4, z4, d4⟩ := fl4.there
          have S4 := J4.suite e4 d4 na nL nF
          refine store_ok (X := X.suite a ((a, oe4) :: (X.pn ++ pp))) (v := .ref a) S4 hN hi (.inl hl) rfl (fun s5 S5 => ?_) (.inr hl)
          refine wpAny_mono ((su a oe4 cls d (X.pn ++ pp) z4 ⟨_, d4⟩).run [] s5 _ H' _ S5 (yes rfl a na)) (fun f s6 hsp => ?_) (fun _ _ y => False.elim y)
          have bye : ∀ {σ6 : L2.St} {H6 : Hp} {Q : Shared → Prop}, Inv (X.suite a ((a, oe4) :: (X.pn ++ pp))) [] σ6 H6 s6 → (∀ s7, Inv X pp (σ6.set i none) H6 s7 → Q s7) →
              wpAny (model X.prog X.w) X.A (do bindName X.env n .none; unbindBehindTheSuite X.env n q2) (fun _ s7 => Q s7) X.xe s6 := fun S6 hq => gone_ok (S6.unsuite ok) hN hi hl hq
          cases f with
          | ret u =>
            obtain ⟨v6, σ6, H6, S6, r6, q6⟩ := hsp
            exact bye S6 fun s7 J7 => ⟨_, _, _, J7, r6, q6⟩
          | _ =>
            obtain ⟨σ6, H6, S6, q6⟩ := hsp
            exact bye S6 fun s7 J7 => ⟨_, _, J7, q6⟩
        | false =>
          show wpAny _ X.A (handleBy (.ref a) X.env hs2) _ _ _
          exact ih (no rfl)
    exact go hc w
  · cases f with
    | next =>
      obtain ⟨σ', H', J', q⟩ := hsp
      exact wpAny_execs_nil ⟨σ', H', J'.ofTry ok, q⟩
    | ret u =>
      obtain ⟨v, σ', H', J', r, q⟩ := hsp
      exact ⟨v, σ', H', J'.ofTry ok, r, q⟩
    | _ =>
      obtain ⟨σ', H', J', q⟩ := hsp
      exact ⟨σ', H', J'.ofTry ok, q⟩
end
end Kb
namespace Kb
open PySem PySem.Spec PyProof.Rows L2
/-! ### what a handed lambda's call may raise, told by the clauses of the def that calls it -/
theorem takes_len {X : Cx} {W : WX} (tk : Takes X W) : Takes X (fun cls d σ H => σ.length = X.N.length → W cls d σ H) := fun u s' ⟨a, B, sI, pins, σ, H, cls, d, e, I, nb, up, sky, na, os, ag, w⟩ =>
  tk u s' ⟨a, B, sI, pins, σ, H, cls, d, e, I, nb, up, sky, na, os, ag, w I.len⟩
/-- the answers of «except C as e: return (name, e.at)», one after the other -/
def wErrs (K : PySem.W.Frag) (Q : VK) : List (Addr × Str × Str) → XK
  | [] => fun _ _ _ => False
  | (C, nm, fld) :: r => fun cls d H => ∃ b, PySem.W.exmOne K cls (.ref C) = some b ∧ (b = true → cls = .ref C ∧ ∃ dd fs v, d = some dd ∧ H dd = some (.xd fs) ∧ List.lookup fld fs = some v ∧ ∀ p, H p = none → Q (.ref p) (upd H p (.tup [.str nm, v]))) ∧
    (b = false → wErrs K Q r cls d H)
/-- try: call() / except ..: .. / return ("told",) -/
def TTe (K : PySem.W.Frag) (l : List (Addr × Str × Str)) : (XK → Hp → VK → Prop) → Hp → VK → Prop := fun tl H Q => tl (wErrs K Q l) H fun _ H1 => [V.str (Str.ofString "told")].length ≤ sizeLine ∧ ∀ p, H1 p = none → Q (.ref p) (upd H1 p (.tup [.str (Str.ofString "told")]))
/-- what a class's clause wants of the written part -/
structure Told (K : PySem.W.Frag) (mg : Str → Option Value) (C : Addr) (x fld : Str) : Prop where
  xf : XfC K C
  no : PySem.W.findIn K (.ref C) fld = some none
  g : mg x = some (.ref C)
/-- the reading of a clause -/
def tsErr (C : Addr) (i : Nat) (nm fld : Str) : Addr → Value → Option Addr → TS := fun a cls d => tRet (tTup (tCons (tC (.str nm)) (tCons (tXf a cls d C fld (tVar i)) tNil)))
def clauses (i : Nat) (l : List (Addr × Str × Str)) : List Clause := l.map fun c => (Value.ref c.1, tsErr c.1 i c.2.1 c.2.2)
theorem wErrs_clauses {K : PySem.W.Frag} {i : Nat} {D : Ends} {Q : VK} (hQ : D.rt = Q) : ∀ {l : List (Addr × Str × Str)} {cls : Value} {d : Option Addr} {H : Hp} {σ : L2.St}, i < σ.length → wErrs K Q l cls d H → wClauses K i (fun _ _ _ _ => False) D (clauses i l) cls d σ H
  | [], _, _, _, _, _, h => h
  | (C, nm, fld) :: r, cls, d, H, σ, hi, h => by
    obtain ⟨b, e, y, n⟩ := h
    refine ⟨b, e, fun hb a ha => ?_, fun hb => wErrs_clauses hQ hi (n hb)⟩
    obtain ⟨rfl, dd, fs, v, rfl, e1, e2, q⟩ := y hb
    have ei : (σ.set i (some (V.ref a)))[i]? = some (some (V.ref a)) := by rw [List.getElem?_set_self hi]
    show tRet (tTup _) (gone i D) _ H
    refine ⟨_, ei, rfl, rfl, dd, fs, v, rfl, e1, e2, ?_⟩
    refine ⟨(by rw [sizeLine_eq]; decide : 2 ≤ sizeLine), fun p hp => ?_⟩
    show D.rt _ _
    rw [hQ]
    exact q p hp
theorem err_gives {X : Cx} {a x e q : Str} {sg : Scope} {g : Addr} {cdg : Value} {l : List (Addr × Str × Str)} {hds : List ExceptHandler} {h0 : ExceptHandler} {j k : Nat} {p1 p2 p3 p4 p5 p6 p7 : Pos} (nd : ([a, e] : List Str).Nodup) (hl : sg.names.lookup e = some .local)
    (hc : ∀ (s : Shared) (H : Hp), ClOk (cxOf C8.CX0 X.prog X.w X.K X.mg X.base [a, e] x sg g cdg X.A X.stack s H C8.E0).nox e (h0 :: hds) (clauses 1 l)) :
    LamX.GivesTo X [a, e] x sg g cdg [.Try [.Expr (.Call (.Name a p1) [] [] p2) p3] (h0 :: hds) [] [] p4, .Return (some (.Tuple [.Constant (.str (Str.ofString "told")) j p5] k p6)) p7] a q (TTe X.K l) := by
  intro f c' s H Q tl act hc' h
  refine ⟨_, pss_cons (ps_try_clauses (X := (cxOf C8.CX0 X.prog X.w X.K X.mg X.base [a, e] x sg g cdg X.A X.stack s H C8.E0).nox) (i := 1) (n := e) (l := clauses 1 l) (Wout := fun _ _ _ _ => False)
      (tb := fun W D σ H => ∃ Ech : XK, (∀ cls d σ' H', σ'.length = 2 → Ech cls d H' → W cls d σ' H') ∧ σ[0]? = some (some (.ref f)) ∧ H c' = some (LamX.CodeO c' q) ∧ tl Ech H (fun _ H1 => D.nx σ H1))
      rfl rfl nd rfl hl LamX.takes0 (fun W pn xe tk _ => ?_) (hc s H)) (pss_one (ps_ret (pe_tup (pa_cons pe_str pa_nil)))), ?_⟩
  · refine ⟨fun pins s' σ H' D I h' => ?_⟩
    obtain ⟨Ech, hW, h1, h2, h3⟩ := h'
    have hp := act (fun cls d σ H => σ.length = 2 → W cls d σ H) pn xe Ech p1 p2 (takes_len tk) fun cls d σ' H' ec hl => hW cls d σ' H' hl ec
    exact (pss_one (ps_expr (pos := p3) hp)).run pins s' σ H' D I ⟨h1, h2, h3⟩
  · exact ⟨wErrs X.K Q l, fun cls d σ' H' hl ec => wErrs_clauses rfl (by rw [hl]; decide) ec, rfl, hc', h⟩
end Kb
namespace Kx
open PySem PySem.W PySem.Calls PyProof.Rows
/-! ### isinstance of a caught error that has a dict of its own -/
section
variable {prog : Program} {w : World} {A : Around} {E : Value → Shared → Prop} {s : Shared} {K : Frag} {x D : Addr} {ox : Obj} {od : Option Obj}
theorem findO {C : Addr} {name : Str} {a g : Value} (hc : (clsIn K C).isSome = true) (ha : findIn K (.ref C) name = some (some a)) (hg : specialIn K a "__get__" = some (some g)) (ht : takesIn K a = some true) : findObj K C od name = some (.bind g a) := by
  obtain ⟨cd, e⟩ := Option.isSome_iff_exists.mp hc
  unfold findObj
  rw [e, Option.bind_some, ha, Option.bind_some]
  simp [hg, ht]
/-- e.__class__ -/
theorem cls_of (T : L2.ExcC K D) (X : K.In s.heap) (I : InstAt s.heap x ox D od) {Q : Option Value → Shared → Prop} (h : Q (some (.ref D)) { s with toks := s.toks + 1 }) : wpAny (model prog w) A (getAttr? (.ref x) "__class__") Q E s := by
  have hf : findObj K D od "__class__" = some (.bind (.builtin "getset_descriptor.__get__") (.builtin "object.__class__")) := findO (by obtain ⟨cd, e, _⟩ := any_some T.hd; rw [e]; rfl) T.ha T.hn T.ht
  obtain ⟨hp, g, d, t, os⟩ := s
  have l0 := I.type (M := model prog w)
  have l1 := looks_findIn (M := model prog w) X T.hg
  have l2 := looks_findIn (M := model prog w) X T.hk
  have l3 := looks_find (M := model prog w) X I hf
  have sub : Looks (model prog w) hp (isInstance (.ref x) (.type "BaseException")) true := l0.andThen (looks_subIn X T.hs)
  have n0 : (false && onTheHeap (Value.builtin "BaseException.__getattribute__")) = false := rfl
  have n2 : (Value.builtin "BaseException.__getattribute__" == Value.builtin "object.__getattribute__") = false := by decide +kernel
  have n1 : (onTheHeap (Value.ref D) && Value.builtin "BaseException.__getattribute__" == Value.builtin "object.__getattribute__") = false := by rw [n2]; rfl
  unfold getAttr? getAttrBy? getAttrBy
  refine wpAny_bind (wpAny_mkText (wpAny_bind (wpAny_attempt (wpAny_holding (wpAny_bind (l0.at (wpAny_bind (l1.at ?_))))))))
  show wpAny _ _ (if (onTheHeap (Value.ref D) && Value.builtin "BaseException.__getattribute__" == Value.builtin "object.__getattribute__") = true then _ else _) _ _ _
  rw [n1, if_neg Bool.false_ne_true]
  unfold getAttrByItsOwn hookBefore
  refine wpAny_bind ?_
  rw [if_pos (show onTheHeap (Value.ref D) = true from rfl)]
  refine l2.at ?_
  refine wpAny_bind (wpAny_attempt (wpAny_holding ?_))
  unfold callGetattribute
  rw [n0, if_neg Bool.false_ne_true]
  unfold boundAndCalled
  rw [PySem.F.excAttr_ValueError.ga.bind (.ref x)]
  refine wpAny_bind (wpAny_pure ?_)
  show wpAny _ _ (call (.builtin "BaseException.__getattribute__") [.ref x, .str "__class__" t]) _ _ _
  refine wpAny_call (codeAny_call_builtin PySem.F.excAttr_ValueError.ga.plain PySem.F.entry_bexc_ga ?_)
  refine @check_slot (model prog w) _ _ ⟨hp, g, d, t + 1, os⟩ "BaseException.__getattribute__" "BaseException" "__getattribute__" (.ref x) [.str "__class__" t] [] _ (by decide +kernel) (by decide +kernel) sub (PySem.F.args_bexc_ga (.ref x) (.str "__class__" t)) ?_
  unfold Builtin.«object.__getattribute__»
  refine wpAny_bind (wpAny_of_eq (a := ((Value.ref x : Value), [Value.str "__class__" t])) (by first | rfl | (simp only [slotArgs]; rfl)) ?_)
  refine wpAny_bind (wpAny_pure (wpAny_bind (l0.at (wpAny_bind (l3.at ?_)))))
  show wpAny _ _ (holding [Value.builtin "object.__class__"] (call (.builtin "getset_descriptor.__get__") [.builtin "object.__class__", .ref x, .ref D]) >>= ret) _ _ _
  refine wpAny_bind (wpAny_holding (wpAny_call (class_get (s := ⟨hp, g, d, t + 1, os⟩) (ox := ox) (od := od) X I T.hm ?_)))
  refine wpAny_pure ?_
  show wpAny _ _ (handedOut (.ref D)) _ _ _
  rw [handedOut_of (v := .ref D) rfl]
  first
    | exact wpAny_pure (wpAny_pure h)
    | exact wpAny_pure h
    | exact wpAny_pure (wpAny_bind (wpAny_pure (wpAny_pure h)))
theorem kit_err (T : L2.ExcC K D) : KitX K (.ref x) (.ref D) (fun h => InstAt h x ox D od) where
  ty := fun _ _ _ I => I.type
  it := fun _ _ X _ => by
    obtain ⟨cd, hcD, _⟩ := any_some T.hd
    unfold clsIn at hcD
    split at hcD
    · rename_i c' d' cd' sl' ho
      intro A' Q' E' s' k q
      unfold isType loadHead
      exact wpAny_bind (wpAny_loadPart (k _ _ (X _ _ ho)) (wpAny_pure q))
    · cases hcD
  ne := fun h tp dd its n sl X htp => by
    obtain ⟨cd, hcD, _⟩ := any_some T.hd
    refine Bool.eq_false_iff.mpr fun q => ?_
    have e : D = tp := Value.ref.inj (beq_iff_eq.mp q)
    subst e
    unfold clsIn at hcD
    split at hcD
    · rename_i c' d' cd' sl' ho
      have z := (X _ _ ho).symm.trans htp
      cases z
    · cases hcD
  ca := fun X I k => cls_of T X I k
end
end Kx
namespace Kb
open PySem PySem.Spec PyProof.Rows L2
/-- isinstance(e, c), e the error that the suite holds -/
def rIsO (K : PySem.W.Frag) (a : Addr) (cls : Value) (d : Option Addr) : List V → Hp → VK → Prop := fun xs H Q => ∃ (D dd : Addr) (fs : List (Str × V)) (c : V) (cv : Value) (b : Bool), xs = [.ref a, c] ∧ cls = .ref D ∧ ExcC K D ∧ d = some dd ∧ H dd = some (.xd fs) ∧ RelC c cv ∧ PySem.W.kitOne K (.ref D) cv = some b ∧ Q (.bl b) H
where RelC (c : V) (cv : Value) : Prop := ∀ u, RelV c u → u = cv
theorem relC_ref (C : Addr) : rIsO.RelC (.ref C) (.ref C) := fun u r => r
theorem call_isO {X : Cx} {K : PySem.W.Frag} {a : Addr} {oe : Obj} {cls : Value} {d : Option Addr} {pn : List (Addr × Obj)} (hK : X.K = K) (hz : Zc cls d oe) (hf : ∃ vs, oe.data = .fields vs) : CallR (X.suite a ((a, oe) :: pn)) (.builtin "isinstance") (rIsO K a cls d) := by
  subst hK
  intro pins s σ H xs us Q I r h
  obtain ⟨D, dd, fs, c, cv, b, rfl, rfl, C, rfl, ea, hcv, e, q⟩ := h
  cases r with
  | cons rx rr =>
    cases rr with
    | cons rt rr =>
      cases rr
      cases rx
      have ec := hcv _ rt
      subst ec
      obtain ⟨hget, _⟩ := I.pin (a, oe) (List.mem_append.mpr (.inl List.mem_cons_self))
      obtain ⟨vs, hv⟩ := hf
      have hx : ObjOk X.prog X.w H s.heap dd (.xd fs) := I.hok dd _ ea
      obtain ⟨mA, hns, hr⟩ := hx
      obtain ⟨od, ho, hl⟩ := lookIn_ns hns
      have J : PySem.W.InstAt s.heap a oe D (some od) := ⟨hget, hz.1, by unfold PySem.W.notCls; rw [hv] <;> rfl, by rw [hz.2]; exact ho⟩
      exact PySem.W.kia_one (Kx.kit_err C) I.kIn J e (fun z => nomatch z) fun tk => ⟨.bl b, H, I.kept (t' := tk) fun _ _ z => z, rfl, q⟩
end Kb
namespace Kb
open PySem PySem.Spec PyProof.Rows L2
/-! ### f(a = .., b = ..): all parameters by their names, in their order -/
structure KB0 (fd : FuncData) (ps : List Str) : Prop where
  to : ∀ (s : Shared) (ws : List Value), ws.length = ps.length → BindsTo s fd ⟨[], ps.zip ws⟩ (ps.zip ws)
def tCallK0 (sp : Sp) (E : XK) (tk : TA) : TE := fun σ H Q => tk σ H fun zs H2 => sp zs H2 Q E
section
variable {X : Cx} {P : Program} {w : World} {K : PySem.W.Frag} {mg : Str → Option Value} {base : Heap} {CX : CXT} {k : Nat} {f : Addr} {fd : FuncData} {ps : List Str} {sp : Sp} {E : XK} {x : Str} {p pos : Pos} {kws : List Keyword} {tk : TA}
theorem pe_callK0 (F : FnOk X.prog X.w X.K X.mg X.base CX k f fd ps sp) (hr : Room k X.A) (hg : Gl X x) (hm : X.mg x = some (.ref f)) (hk : PySem.W.keepIn X.K (.ref f) = true) (hb : KB0 fd ps) (hx : Passes CX X E)
    (hkw : PK X kws tk) (hall : (backToKw pos (keywordEach kws X.env)).all (·.1.isSome) = true := by rfl) (hks : (backToKw pos (keywordEach kws X.env)).filterMap (·.1) = ps := by rfl)
    (hdb : (x == ("__debug__" : Str)) = false := by decide) (hpl : ((backTo pos (starEach [] X.env)).any (·.1) || (backToKw pos (keywordEach kws X.env)).any (·.1.isNone)) = false := by rfl) :
    PE X (.Call (.Name x p) [] kws pos) (tCallK0 sp E tk) := by
  refine ⟨fun pins s σ H Q I h => ?_⟩
  refine wpAny_Call_Name_kw (ld_glob I hg hm ?_ hdb)
  refine PySem.W.callWith_KW0 (h₀ := X.base) I.ok.mod.kin hk hall (thn (hkw.run pos pins s σ H _ I h) fun ws s2 hh => ?_) hpl
  obtain ⟨zs, H2, I2, rz, q2⟩ := hh
  refine ⟨I2.kIn, ?_⟩
  rw [hks]
  have hl : ws.length = ps.length := by rw [← rz.length]; exact F.len _ _ _ _ q2
  refine wpAny_call (codeAny_mono (F.run X.A X.stack s2 H2 ⟨[], ps.zip ws⟩ ws zs Q E hr I2.env0 (hb.to s2 ws hl) rz q2) fun r s' hq => ?_)
  cases r with
  | error e => exact hx pins σ H2 s2 e s' I2 hq
  | ok fl =>
    cases fl with
    | ret u => exact I2.after hq
    | next => exact False.elim hq
    | brk => exact False.elim hq
    | cont => exact False.elim hq
end
end Kb
namespace Kr
open PySem PySem.Spec PyProof.Rows L2 Kb
def topS (i : Nat) : Stmt := PySem.Challenge.pw_keyrules_k70_whole_clocks_that_go_fast_o.main.body.getD i (.Pass ⟨0, 0, 0, 0⟩)
abbrev s_InvalidCount___init__ : Stmt := inClass (topS 2) 0
abbrev s_InvalidRates___init__ : Stmt := inClass (topS 3) 0
abbrev s_is_integer : Stmt := topS 5
abbrev s_is_between : Stmt := topS 6
abbrev s_is_sequence : Stmt := topS 7
abbrev s_is_row : Stmt := topS 8
abbrev s_is_paper : Stmt := topS 9
abbrev s_is_word : Stmt := topS 10
abbrev s_need_count : Stmt := topS 12
abbrev s_need_fraction : Stmt := topS 15
abbrev s_need_clocks : Stmt := topS 16
abbrev s_spare : Stmt := topS 17
abbrev s_lowest : Stmt := topS 18
abbrev s_is_apart : Stmt := topS 19
abbrev s_clock_paper : Stmt := topS 20
abbrev s_clock_holds : Stmt := topS 21
abbrev s_greatest_count : Stmt := topS 22
abbrev s__law_box : Stmt := topS 24
abbrev s__law_take : Stmt := topS 25
abbrev s__law_pick : Stmt := topS 26
abbrev s__law_alike : Stmt := topS 27
abbrev s__law_apart : Stmt := topS 28
abbrev s__law_low : Stmt := topS 29
abbrev s__law_right : Stmt := topS 30
abbrev s__law_number : Stmt := topS 31
abbrev s__law_paces : Stmt := topS 32
abbrev s__law_said : Stmt := topS 33
abbrev s__law_refused : Stmt := topS 34
abbrev s__law_hours : Stmt := topS 35
abbrev s__law_asks : Stmt := topS 36
abbrev s_law : Stmt := topS 37
theorem sc_is_integer : FnScope ["value"] ["value"] (defScope s_is_integer) := ⟨rfl, rfl, rfl, by decide +kernel, rfl, by decide +kernel, by decide +kernel⟩
theorem sc_is_between : FnScope ["value", "least", "greatest"] ["value", "least", "greatest"] (defScope s_is_between) := ⟨rfl, rfl, rfl, by decide +kernel, rfl, by decide +kernel, by decide +kernel⟩
theorem sc_is_sequence : FnScope ["value"] ["value"] (defScope s_is_sequence) := ⟨rfl, rfl, rfl, by decide +kernel, rfl, by decide +kernel, by decide +kernel⟩
theorem sc_is_row : FnScope ["value", "many"] ["value", "many"] (defScope s_is_row) := ⟨rfl, rfl, rfl, by decide +kernel, rfl, by decide +kernel, by decide +kernel⟩
theorem sc_is_paper : FnScope ["value", "many"] ["value", "many"] (defScope s_is_paper) := ⟨rfl, rfl, rfl, by decide +kernel, rfl, by decide +kernel, by decide +kernel⟩
theorem sc_is_word : FnScope ["value", "word"] ["value", "word"] (defScope s_is_word) := ⟨rfl, rfl, rfl, by decide +kernel, rfl, by decide +kernel, by decide +kernel⟩
theorem sc_need_count : FnScope ["value", "least", "greatest"] ["value", "least", "greatest"] (defScope s_need_count) := ⟨rfl, rfl, rfl, by decide +kernel, rfl, by decide +kernel, by decide +kernel⟩
theorem sc_need_fraction : FnScope ["value", "at"] ["value", "at"] (defScope s_need_fraction) := ⟨rfl, rfl, rfl, by decide +kernel, rfl, by decide +kernel, by decide +kernel⟩
theorem sc_need_clocks : FnScope ["wait", "slow", "fast", "journey"] ["wait", "slow", "fast", "journey"] (defScope s_need_clocks) := ⟨rfl, rfl, rfl, by decide +kernel, rfl, by decide +kernel, by decide +kernel⟩
theorem sc_spare : FnScope ["wait", "slow", "fast", "journey", "top"] ["wait", "slow", "fast", "journey"] (defScope s_spare) := ⟨rfl, rfl, rfl, by decide +kernel, rfl, by decide +kernel, by decide +kernel⟩
theorem sc_lowest : FnScope ["top", "bottom", "one", "other"] ["top", "bottom"] (defScope s_lowest) := ⟨rfl, rfl, rfl, by decide +kernel, rfl, by decide +kernel, by decide +kernel⟩
theorem sc_is_apart : FnScope ["count", "wait", "slow", "fast", "journey", "top", "bottom"] ["count", "wait", "slow", "fast", "journey"] (defScope s_is_apart) := ⟨rfl, rfl, rfl, by decide +kernel, rfl, by decide +kernel, by decide +kernel⟩
theorem sc_clock_paper : FnScope ["count", "wait", "slow", "fast", "journey", "top", "bottom", "ticks"] ["count", "wait", "slow", "fast", "journey"] (defScope s_clock_paper) := ⟨rfl, rfl, rfl, by decide +kernel, rfl, by decide +kernel, by decide +kernel⟩
theorem sc_clock_holds : FnScope ["count", "wait", "slow", "fast", "journey", "value", "sent", "bottom", "ticks", "parts"] ["count", "wait", "slow", "fast", "journey", "value"] (defScope s_clock_holds) := ⟨rfl, rfl, rfl, by decide +kernel, rfl, by decide +kernel, by decide +kernel⟩
theorem sc_greatest_count : FnScope ["wait", "slow", "fast", "journey", "top", "bottom"] ["wait", "slow", "fast", "journey"] (defScope s_greatest_count) := ⟨rfl, rfl, rfl, by decide +kernel, rfl, by decide +kernel, by decide +kernel⟩
theorem sc__law_box : FnScope ["script", "k", "cell"] ["script", "k"] (defScope s__law_box) := ⟨rfl, rfl, rfl, by decide +kernel, rfl, by decide +kernel, by decide +kernel⟩
theorem sc__law_take : FnScope ["box", "many", "digit", "raw"] ["box", "many"] (defScope s__law_take) := ⟨rfl, rfl, rfl, by decide +kernel, rfl, by decide +kernel, by decide +kernel⟩
theorem sc__law_pick : FnScope ["box", "some"] ["box", "some"] (defScope s__law_pick) := ⟨rfl, rfl, rfl, by decide +kernel, rfl, by decide +kernel, by decide +kernel⟩
theorem sc__law_alike : FnScope ["value", "due", "one", "other"] ["value", "due"] (defScope s__law_alike) := ⟨rfl, rfl, rfl, by decide +kernel, rfl, by decide +kernel, by decide +kernel⟩
theorem sc__law_apart : FnScope ["count", "wait", "slow", "fast", "journey", "left"] ["count", "wait", "slow", "fast", "journey"] (defScope s__law_apart) := ⟨rfl, rfl, rfl, by decide +kernel, rfl, by decide +kernel, by decide +kernel⟩
theorem sc__law_low : FnScope ["one", "other", "top", "bottom", "turn", "rest"] ["one", "other"] (defScope s__law_low) := ⟨rfl, rfl, rfl, by decide +kernel, rfl, by decide +kernel, by decide +kernel⟩
theorem sc__law_right : FnScope ["count", "wait", "slow", "fast", "journey", "value", "part", "sent", "bottom"] ["count", "wait", "slow", "fast", "journey", "value"] (defScope s__law_right) := ⟨rfl, rfl, rfl, by decide +kernel, rfl, by decide +kernel, by decide +kernel⟩
theorem sc__law_number : FnScope ["box", "least"] ["box", "least"] (defScope s__law_number) := ⟨rfl, rfl, rfl, by decide +kernel, rfl, by decide +kernel, by decide +kernel⟩
theorem sc__law_paces : FnScope ["box", "slow", "journey", "fast"] ["box"] (defScope s__law_paces) := ⟨rfl, rfl, rfl, by decide +kernel, rfl, by decide +kernel, by decide +kernel⟩
theorem sc__law_said : FnScope ["question", "count", "wait", "slow", "fast", "journey", "error"] ["question", "count", "wait", "slow", "fast", "journey"] (defScope s__law_said) := ⟨rfl, rfl, rfl, by decide +kernel, rfl, by decide +kernel, by decide +kernel⟩
theorem sc__law_refused : FnScope ["box", "count", "wait", "slow", "fast", "journey", "bad", "pair", "question"] ["box", "count", "wait", "slow", "fast", "journey"] (defScope s__law_refused) := ⟨rfl, rfl, rfl, by decide +kernel, rfl, by decide +kernel, by decide +kernel⟩
theorem sc__law_hours : FnScope ["box", "count", "wait", "slow", "fast", "journey", "ends", "found", "top", "bottom", "more", "hour", "middle"] ["box", "count", "wait", "slow", "fast", "journey"] (defScope s__law_hours) := ⟨rfl, rfl, rfl, by decide +kernel, rfl, by decide +kernel, by decide +kernel⟩
theorem sc__law_asks : FnScope ["box", "slow", "fast", "journey", "wait", "most", "count", "paper", "value", "due"] ["box"] (defScope s__law_asks) := ⟨rfl, rfl, rfl, by decide +kernel, rfl, by decide +kernel, by decide +kernel⟩
theorem sc_law : FnScope ["script", "k"] ["script"] (defScope s_law) := ⟨rfl, rfl, rfl, by decide +kernel, rfl, by decide +kernel, by decide +kernel⟩
structure Tx (P : Program) (K : PySem.W.Frag) (mg : Str → Option Value) where
  a_InvalidCount___init__ : Addr
  a_InvalidRates___init__ : Addr
  a_is_integer : Addr
  d_is_integer : FuncData
  F_is_integer : Fun K "is_integer" "is_integer" s_is_integer a_is_integer d_is_integer
  g_is_integer : mg "is_integer" = some (.ref a_is_integer)
  b_is_integer : Binds K d_is_integer ["value"] []
  a_is_between : Addr
  d_is_between : FuncData
  F_is_between : Fun K "is_between" "is_between" s_is_between a_is_between d_is_between
  g_is_between : mg "is_between" = some (.ref a_is_between)
  b_is_between : Binds K d_is_between ["value", "least", "greatest"] []
  a_is_sequence : Addr
  d_is_sequence : FuncData
  F_is_sequence : Fun K "is_sequence" "is_sequence" s_is_sequence a_is_sequence d_is_sequence
  g_is_sequence : mg "is_sequence" = some (.ref a_is_sequence)
  b_is_sequence : Binds K d_is_sequence ["value"] []
  a_is_row : Addr
  d_is_row : FuncData
  F_is_row : Fun K "is_row" "is_row" s_is_row a_is_row d_is_row
  g_is_row : mg "is_row" = some (.ref a_is_row)
  b_is_row : Binds K d_is_row ["value", "many"] []
  a_is_paper : Addr
  d_is_paper : FuncData
  F_is_paper : Fun K "is_paper" "is_paper" s_is_paper a_is_paper d_is_paper
  g_is_paper : mg "is_paper" = some (.ref a_is_paper)
  b_is_paper : Binds K d_is_paper ["value", "many"] []
  a_is_word : Addr
  d_is_word : FuncData
  F_is_word : Fun K "is_word" "is_word" s_is_word a_is_word d_is_word
  g_is_word : mg "is_word" = some (.ref a_is_word)
  b_is_word : Binds K d_is_word ["value", "word"] []
  a_need_count : Addr
  d_need_count : FuncData
  F_need_count : Fun K "need_count" "need_count" s_need_count a_need_count d_need_count
  g_need_count : mg "need_count" = some (.ref a_need_count)
  b_need_count : Binds K d_need_count ["value", "least", "greatest"] []
  a_need_fraction : Addr
  d_need_fraction : FuncData
  F_need_fraction : Fun K "need_fraction" "need_fraction" s_need_fraction a_need_fraction d_need_fraction
  g_need_fraction : mg "need_fraction" = some (.ref a_need_fraction)
  b_need_fraction : Binds K d_need_fraction ["value", "at"] []
  a_need_clocks : Addr
  d_need_clocks : FuncData
  F_need_clocks : Fun K "need_clocks" "need_clocks" s_need_clocks a_need_clocks d_need_clocks
  g_need_clocks : mg "need_clocks" = some (.ref a_need_clocks)
  b_need_clocks : Binds K d_need_clocks ["wait", "slow", "fast", "journey"] []
  a_spare : Addr
  d_spare : FuncData
  F_spare : Fun K "spare" "spare" s_spare a_spare d_spare
  g_spare : mg "spare" = some (.ref a_spare)
  b_spare : Binds K d_spare ["wait", "slow", "fast", "journey"] []
  a_lowest : Addr
  d_lowest : FuncData
  F_lowest : Fun K "lowest" "lowest" s_lowest a_lowest d_lowest
  g_lowest : mg "lowest" = some (.ref a_lowest)
  b_lowest : Binds K d_lowest ["top", "bottom"] []
  a_is_apart : Addr
  d_is_apart : FuncData
  F_is_apart : Fun K "is_apart" "is_apart" s_is_apart a_is_apart d_is_apart
  g_is_apart : mg "is_apart" = some (.ref a_is_apart)
  b_is_apart : Binds K d_is_apart ["count", "wait", "slow", "fast", "journey"] []
  a_clock_paper : Addr
  d_clock_paper : FuncData
  F_clock_paper : Fun K "clock_paper" "clock_paper" s_clock_paper a_clock_paper d_clock_paper
  g_clock_paper : mg "clock_paper" = some (.ref a_clock_paper)
  b_clock_paper : Binds K d_clock_paper ["count", "wait", "slow", "fast", "journey"] []
  a_clock_holds : Addr
  d_clock_holds : FuncData
  F_clock_holds : Fun K "clock_holds" "clock_holds" s_clock_holds a_clock_holds d_clock_holds
  g_clock_holds : mg "clock_holds" = some (.ref a_clock_holds)
  b_clock_holds : Binds K d_clock_holds ["count", "wait", "slow", "fast", "journey", "value"] []
  a_greatest_count : Addr
  d_greatest_count : FuncData
  F_greatest_count : Fun K "greatest_count" "greatest_count" s_greatest_count a_greatest_count d_greatest_count
  g_greatest_count : mg "greatest_count" = some (.ref a_greatest_count)
  b_greatest_count : Binds K d_greatest_count ["wait", "slow", "fast", "journey"] []
  a__law_box : Addr
  d__law_box : FuncData
  F__law_box : Fun K "_law_box" "_law_box" s__law_box a__law_box d__law_box
  g__law_box : mg "_law_box" = some (.ref a__law_box)
  b__law_box : Binds K d__law_box ["script", "k"] []
  a__law_take : Addr
  d__law_take : FuncData
  F__law_take : Fun K "_law_take" "_law_take" s__law_take a__law_take d__law_take
  g__law_take : mg "_law_take" = some (.ref a__law_take)
  b__law_take : Binds K d__law_take ["box", "many"] []
  a__law_pick : Addr
  d__law_pick : FuncData
  F__law_pick : Fun K "_law_pick" "_law_pick" s__law_pick a__law_pick d__law_pick
  g__law_pick : mg "_law_pick" = some (.ref a__law_pick)
  b__law_pick : Binds K d__law_pick ["box", "some"] []
  a__law_alike : Addr
  d__law_alike : FuncData
  F__law_alike : Fun K "_law_alike" "_law_alike" s__law_alike a__law_alike d__law_alike
  g__law_alike : mg "_law_alike" = some (.ref a__law_alike)
  b__law_alike : Binds K d__law_alike ["value", "due"] []
  a__law_apart : Addr
  d__law_apart : FuncData
  F__law_apart : Fun K "_law_apart" "_law_apart" s__law_apart a__law_apart d__law_apart
  g__law_apart : mg "_law_apart" = some (.ref a__law_apart)
  b__law_apart : Binds K d__law_apart ["count", "wait", "slow", "fast", "journey"] []
  a__law_low : Addr
  d__law_low : FuncData
  F__law_low : Fun K "_law_low" "_law_low" s__law_low a__law_low d__law_low
  g__law_low : mg "_law_low" = some (.ref a__law_low)
  b__law_low : Binds K d__law_low ["one", "other"] []
  a__law_right : Addr
  d__law_right : FuncData
  F__law_right : Fun K "_law_right" "_law_right" s__law_right a__law_right d__law_right
  g__law_right : mg "_law_right" = some (.ref a__law_right)
  b__law_right : Binds K d__law_right ["count", "wait", "slow", "fast", "journey", "value"] []
  a__law_number : Addr
  d__law_number : FuncData
  F__law_number : Fun K "_law_number" "_law_number" s__law_number a__law_number d__law_number
  g__law_number : mg "_law_number" = some (.ref a__law_number)
  b__law_number : Binds K d__law_number ["box", "least"] []
  a__law_paces : Addr
  d__law_paces : FuncData
  F__law_paces : Fun K "_law_paces" "_law_paces" s__law_paces a__law_paces d__law_paces
  g__law_paces : mg "_law_paces" = some (.ref a__law_paces)
  b__law_paces : Binds K d__law_paces ["box"] []
  a__law_said : Addr
  d__law_said : FuncData
  F__law_said : Fun K "_law_said" "_law_said" s__law_said a__law_said d__law_said
  g__law_said : mg "_law_said" = some (.ref a__law_said)
  b__law_said : Binds K d__law_said ["question", "count", "wait", "slow", "fast", "journey"] []
  a__law_refused : Addr
  d__law_refused : FuncData
  F__law_refused : Fun K "_law_refused" "_law_refused" s__law_refused a__law_refused d__law_refused
  g__law_refused : mg "_law_refused" = some (.ref a__law_refused)
  b__law_refused : Binds K d__law_refused ["box", "count", "wait", "slow", "fast", "journey"] []
  a__law_hours : Addr
  d__law_hours : FuncData
  F__law_hours : Fun K "_law_hours" "_law_hours" s__law_hours a__law_hours d__law_hours
  g__law_hours : mg "_law_hours" = some (.ref a__law_hours)
  b__law_hours : Binds K d__law_hours ["box", "count", "wait", "slow", "fast", "journey"] []
  a__law_asks : Addr
  d__law_asks : FuncData
  F__law_asks : Fun K "_law_asks" "_law_asks" s__law_asks a__law_asks d__law_asks
  g__law_asks : mg "_law_asks" = some (.ref a__law_asks)
  b__law_asks : Binds K d__law_asks ["box"] []
  a_law : Addr
  d_law : FuncData
  F_law : Fun K "law" "law" s_law a_law d_law
  g_law : mg "law" = some (.ref a_law)
  b_law : Binds K d_law ["script"] []
  c_RuleError : Addr
  g_RuleError : mg "RuleError" = some (.ref c_RuleError)
  c_InvalidCount : Addr
  g_InvalidCount : mg "InvalidCount" = some (.ref c_InvalidCount)
  c_InvalidRates : Addr
  g_InvalidRates : mg "InvalidRates" = some (.ref c_InvalidRates)
  kb_greatest_count : KB0 d_greatest_count ["wait", "slow", "fast", "journey"]
  kb_clock_paper : KB0 d_clock_paper ["count", "wait", "slow", "fast", "journey"]
  ex_CB : PySem.W.exmOne K (.ref c_InvalidCount) (.ref c_RuleError) = some true
  ex_RB : PySem.W.exmOne K (.ref c_InvalidRates) (.ref c_RuleError) = some true
  ki_CC : PySem.W.kitOne K (.ref c_InvalidCount) (.ref c_InvalidCount) = some true
  ki_CR : PySem.W.kitOne K (.ref c_InvalidCount) (.ref c_InvalidRates) = some false
  ki_RC : PySem.W.kitOne K (.ref c_InvalidRates) (.ref c_InvalidCount) = some false
  ki_RR : PySem.W.kitOne K (.ref c_InvalidRates) (.ref c_InvalidRates) = some true
  x_InvalidCount : Told K mg c_InvalidCount "InvalidCount" (Str.ofString "at")
  x_InvalidRates : Told K mg c_InvalidRates "InvalidRates" (Str.ofString "at")
  y_InvalidCount : ExcC K c_InvalidCount
  y_InvalidRates : ExcC K c_InvalidRates
  e_InvalidCount : Kx.ErrTxt P K c_InvalidCount a_InvalidCount___init__ s_InvalidCount___init__ (Str.ofString "at")
  e_InvalidRates : Kx.ErrTxt P K c_InvalidRates a_InvalidRates___init__ s_InvalidRates___init__ (Str.ofString "at")
  g_MOST_TICKS : ∃ t, mg "MOST_TICKS" = some (.int (1000000000) t)
  n_abs : mg "abs" = none
  n_bool : mg "bool" = none
  n_int : mg "int" = none
  n_isinstance : mg "isinstance" = none
  n_len : mg "len" = none
  n_list : mg "list" = none
  n_max : mg "max" = none
  n_min : mg "min" = none
  n_range : mg "range" = none
  n_str : mg "str" = none
  n_super : mg "super" = none
  n_tuple : mg "tuple" = none
  n_zip : mg "zip" = none
end Kr
namespace Kr
open PySem PySem.Spec PyProof.Rows L2 Kb
section
variable {P : Program} {w : World} {K : PySem.W.Frag} {mg : Str → Option Value} {base : Heap}
/-! ### the law's own comparison -/
/-- two values that are one datum of less depth than n, of None, bools, ints, texts and tuples -/
inductive TD (K : PySem.W.Frag) (H : Hp) : Nat → V → V → Prop
  | non (n : Nat) : TD K H (n + 1) .non .non
  | bl (n : Nat) (b : Bool) : TD K H (n + 1) (.bl b) (.bl b)
  | int (n : Nat) (i : Int) : TD K H (n + 1) (.int i) (.int i)
  | str (n : Nat) (t : Str) : TD K H (n + 1) (.str t) (.str t)
  | tup {n : Nat} {a b : Addr} {xs ys : List V} : SqT K H a xs → SqT K H b ys → xs.length = ys.length → (∀ (i : Nat) (x y : V), xs[i]? = some x → ys[i]? = some y → TD K H n x y) → TD K H (n + 1) (.ref a) (.ref b)
theorem TD.same {H H' : Hp} {n : Nat} {x y : V} (e : Same H H') (h : TD K H n x y) : TD K H' n x y := by
  induction h with
  | non n => exact .non n
  | bl n b => exact .bl n b
  | int n i => exact .int n i
  | str n t => exact .str n t
  | tup h1 h2 h3 _ ih => exact .tup (Kb.Same.tup e h1) (Kb.Same.tup e h2) h3 ih
theorem TD.ints {H : Hp} {n : Nat} {a b : Addr} {l : List Nat} (h1 : H a = some (.tup (nvs l))) (h2 : H b = some (.tup (nvs l))) : TD K H (n + 2) (.ref a) (.ref b) := by
  refine .tup (.inl (.inl h1)) (.inl (.inl h2)) rfl fun i x y e1 e2 => ?_
  rw [e1] at e2
  cases e2
  rw [List.getElem?_map] at e1
  obtain ⟨c, _, rfl⟩ := Option.map_eq_some_iff.mp e1
  exact .int n _
/-- over the pairs of two tuples of one length, the test never holding -/
theorem lcZ0 {σ : L2.St} {H : Hp} {Q : VK} {ta : TA} {tt : TT} {te : TE} {i1 i2 : Nat} (a b : Addr) (xs ys : List V) (hi : i1 ≠ i2) (h : ∀ R : List V → Hp → Prop, R [.ref a, .ref b] H → ta σ H R) (hx : SqT K H a xs) (hy : SqT K H b ys) (hl : xs.length = ys.length)
    (hs : ∀ (i : Nat) (x y : V) (H' : Hp) (Q1 : VK) (Q2 : Hp → Prop), xs[i]? = some x → ys[i]? = some y → Same H H' → (∀ H3, Same H' H3 → Q2 H3) → tt ((σ.set i1 (some x)).set i2 (some y)) H' fun c H3 => if c = true then te ((σ.set i1 (some x)).set i2 (some y)) H3 Q1 else Q2 H3)
    (hd : ∀ (L : Addr) (H' : Hp), H L = none → Same H H' → H' L = some (.lst []) → Q (.ref L) H') : tLc (RZ.iZipA K ta) (gTup K 2 (gCons (gName i1) (gCons (gName i2) gNil))) tt te [i1, i2] σ H Q := by
  refine h _ ⟨a, b, xs, ys, rfl, .inr ⟨hx, hy, fun L hL => ?_⟩⟩
  have sL : Same H (upd H L (.lst [])) := same_new hL
  refine ⟨fun i m H' => m = xs.length - i ∧ i ≤ xs.length ∧ Same (upd H L (.lst [])) H', ⟨xs.length, rfl, Nat.zero_le _, Same.refl _⟩, ?_⟩
  rintro i m H' ⟨rfl, hi2, s⟩
  have s2 := sL.trans s
  have qx := Kb.Same.tup s2 hx
  have qy := Kb.Same.tup s2 hy
  by_cases lt : i < xs.length
  · have ex : xs[i]? = some xs[i] := List.getElem?_eq_getElem lt
    have lt2 : i < ys.length := by omega
    have ey : ys[i]? = some ys[i] := List.getElem?_eq_getElem lt2
    refine .inr ⟨⟨xs, ys, _, _, qx, qy, ex, ey⟩, fun H3 => Same (upd H L (.lst [])) H3, fun H3 p => ⟨xs.length - (i + 1), by omega, rfl, lt, p⟩, fun v H3 yl => ?_⟩
    obtain ⟨t, x, y, rfl, ht, rfl, f1, f2⟩ := yl
    have e1 := f1 xs qx
    have e2 := f2 ys qy
    have st := same_new (o := .tup [x, y]) ht
    refine ⟨t, _, rfl, .of upd_same, rfl, _, _, rfl, _, _, rfl, rfl, ?_⟩
    have ew : ((wipe σ [i1, i2]).set i1 (some x)).set i2 (some y) = (σ.set i1 (some x)).set i2 (some y) := by
      show (((σ.set i2 none).set i1 none).set i1 (some x)).set i2 (some y) = _
      rw [List.set_set, List.set_comm _ _ hi, List.set_set, List.set_comm _ _ hi.symm]
    show wipe (((wipe σ [i1, i2]).set i1 (some x)).set i2 (some y)) [i1, i2] = wipe σ [i1, i2] ∧ tt (((wipe σ [i1, i2]).set i1 (some x)).set i2 (some y)) _ _
    rw [ew]
    refine ⟨?_, hs i x y _ _ _ e1 e2 (s2.trans st) fun H4 s4 => (s.trans st).trans s4⟩
    show ((((σ.set i1 (some x)).set i2 (some y)).set i2 none).set i1 none) = ((σ.set i2 none).set i1 none)
    rw [List.set_set, List.set_comm _ _ hi, List.set_set, List.set_comm _ _ hi.symm]
  · have e : i = xs.length := by omega
    exact .inl ⟨⟨xs, ys, qx, qy, .inl (by omega)⟩, hd L H' hL s2 (s _ _ upd_same)⟩
end
end Kr
namespace Kr
open PySem PySem.Spec PyProof.Rows L2 Kb
section
variable {P : Program} {w : World} {K : PySem.W.Frag} {mg : Str → Option Value} {base : Heap}
/-! ### the law's own box: a list of three ints -/
abbrev ivs (l : List Int) : List V := l.map V.int
/-- the heap without the box at b -/
def hbx (b : Addr) (H : Hp) : Hp := fun a => if a = b then none else H a
/-- the box at b -/
def Bx (b : Addr) (H : Hp) : Prop := ∃ c s n : Int, H b = some (.lst [.int c, .int s, .int n]) ∧ 0 ≤ c
theorem hbx_of {b a : Addr} {H : Hp} {o : HO} (h : hbx b H a = some o) : a ≠ b ∧ H a = some o := by
  unfold hbx at h
  split at h
  · cases h
  · rename_i n
    exact ⟨n, h⟩
theorem hbx_le (b : Addr) (H : Hp) : Same (hbx b H) H := fun a o h => (hbx_of h).2
theorem hbx_at {b a : Addr} {H : Hp} {o : HO} (h : H a = some o) (n : a ≠ b) : hbx b H a = some o := by
  unfold hbx
  rw [if_neg n]
  exact h
theorem hbx_mono {b : Addr} {H H' : Hp} (e : Same H H') : Same (hbx b H) (hbx b H') := fun a u h => by
  obtain ⟨h1, h2⟩ := hbx_of h
  exact hbx_at (e _ _ h2) h1
theorem hbx_free {b a : Addr} {H : Hp} (h : H a = none) : hbx b H a = none := by
  unfold hbx
  split
  · rfl
  · exact h
theorem Bx.is {b : Addr} {H : Hp} (h : Bx b H) : ∃ o, H b = some o := by
  obtain ⟨c, s, n, h1, _⟩ := h
  exact ⟨_, h1⟩
theorem Bx.same {b : Addr} {H H' : Hp} (h : Bx b H) (e : Same H H') : Bx b H' := by
  obtain ⟨c, s, n, h1, h2⟩ := h
  exact ⟨c, s, n, e _ _ h1, h2⟩
theorem Bx.new {b p : Addr} {H H' : Hp} {o : HO} (h : Bx b H) (hp : H p = none) (hp2 : H' p = some o) : hbx b H' p = some o := by
  obtain ⟨c, s, n, h1, h2⟩ := h
  exact hbx_at hp2 (Ne.symm (ne_of_none h1 hp))
theorem Bx.upd_new {b p : Addr} {H : Hp} {o : HO} (h : Bx b H) (hp : H p = none) : hbx b (upd H p o) p = some o := h.new hp upd_same
theorem hbx_box {b : Addr} {H : Hp} {u : HO} : hbx b (upd H b u) = hbx b H := by
  funext a
  unfold hbx
  split
  · rfl
  · rename_i n
    rw [upd_ne n]
theorem hbx_put {b p : Addr} {H : Hp} {o u : HO} (h : hbx b H p = some o) : hbx b (upd H p u) = upd (hbx b H) p u := by
  obtain ⟨h1, h2⟩ := hbx_of h
  funext a
  unfold hbx
  by_cases e : a = p
  · subst e
    rw [if_neg h1, upd_same, upd_same]
  · rw [upd_ne e, upd_ne e]
def sp_law_box (K : PySem.W.Frag) : Sp := fun vs H Q _ => ∃ a ns, ∃ k : Nat, vs = [.ref a, nv k] ∧ SqL K H a (ivs ns) ∧ ∀ H' b, Same H (hbx b H') → H b = none → Bx b H' → Q (.ref b) H'
theorem ok__law_box (T : Tx P K mg) : FnOk P w K mg base CX0 1 T.a__law_box T.d__law_box ["script", "k"] (sp_law_box K) := by
  refine T.F__law_box.ok sc__law_box (fun vs H Q E h => ?_) (fun cdv A outer s H vs Q E hr h => ?_)
  · obtain ⟨a, ns, k, rfl, _⟩ := h
    rfl
  · obtain ⟨a, ns, k, rfl, hs, q⟩ := h
    refine ⟨_, (pss_cons (ps_set (i := 2) sc__law_box.nd rfl (Or.inl rfl) (pe_op op_add (pe_op op_mul pe_int (pv 1)) pe_int))
      (pss_cons (ps_if (pt_cmpR op_lt (pv 1) (pe_callB (lenK (K := K) rfl) (by rfl) T.n_len PySem.boot_len (pa_cons (pv 0) pa_nil)) (nomark _)) (pss_one (ps_set (i := 2) sc__law_box.nd rfl (Or.inl rfl) (pe_callB callAbsN (by rfl) T.n_abs (by decide +kernel) (pa_cons (pe_ix (ixL (K := K) rfl) (pv 0) (pv 1) (fun _ _ => rfl)) pa_nil)))) (pss_one (ps_if (pt_cmpR op_gt (pe_callB (lenK (K := K) rfl) (by rfl) T.n_len PySem.boot_len (pa_cons (pv 0) pa_nil)) pe_int (nomark _)) (pss_one (ps_set (i := 2) sc__law_box.nd rfl (Or.inl rfl) (pe_op op_add (pv 2) (pe_op op_mul (pe_op op_mod (pe_callTy callIntI (by rfl) T.n_int (by decide +kernel) (pa_cons (pe_callB callAbsN (by rfl) T.n_abs (by decide +kernel) (pa_cons (pe_ix (ixL (K := K) rfl) (pv 0) (pe_op op_mod (pe_callTy callIntI (by rfl) T.n_int (by decide +kernel) (pa_cons (pv 1) pa_nil)) (pe_callB (lenK (K := K) rfl) (by rfl) T.n_len PySem.boot_len (pa_cons (pv 0) pa_nil))) (fun _ _ => rfl)) pa_nil)) pa_nil)) pe_int) pe_int)))) pss_nil)))
      (pss_one (ps_ret (pe_lst (pa_cons (pe_ix (ixL (K := K) rfl) (pe_lst (pa_cons pe_int (pa_cons (pv 2) pa_nil))) (pe_callTy callIntB (by rfl) T.n_int (by decide +kernel) (pa_cons (pe_cmpR op_ge (pv 2) (pe_op op_pow pe_int pe_int) (nomark _)) pa_nil)) (fun _ _ => rfl)) (pa_cons (pe_op op_add (pe_op op_mod (pe_callTy callIntI (by rfl) T.n_int (by decide +kernel) (pa_cons (pe_op op_add (pe_op op_mul (pe_op op_mod (pe_callTy callIntI (by rfl) T.n_int (by decide +kernel) (pa_cons (pv 2) pa_nil)) pe_int) pe_int) (pe_op op_mul pe_int (pv 1))) pa_nil)) pe_int) pe_int) (pa_cons pe_int pa_nil)))))))), ?_⟩
    rw [show L2.start ["script", "k", "cell"] [.ref a, nv k] = [some (.ref a), some (nv k), none] from rfl]
    generalize hS : tSeq (tRet _) _ = S
    (try simp only [tVar, tC, tOp, tUn, rI, rI0, rU, rEq, rNe, scal, tTest, tB, tAnd, tOr, tNot, tAndV, tOrV, tNotV, tIf, tChain, tNil, tCons, tCB, tCall, tTup, tLst, tRet, tRetN, tDrop, tSeq, tNext, tIfS, tAsg, gName, tPar, tPar3, gNil, gCons, gTup, gSub, tAug, tSl, tNoPart, tPart, tBM, tBM0, tYes, tIsP, iSeq, iEnumA, RZ.iZipA, iRng1, iRng2, iList, iTup, rIsi, rIsB, rIxL, rIxT, rIxA, rLenA, rListOf, rTupOf, rSetL, rSlL, rCat, rAppend, tFld, sFld, tMake, tBits, Int.ofNat_inj, cast1, cast0, TruV, cxOf, Cx.nox, Cx.wish, tNever, tBreak, tCont, ipI, tDIn, tDNotIn, sDPut, tDNewT, tDNewK, tDGet, rSortedPO, rSortedI, rIn, rEqD, rNeD, rInD, rNotInD, tSSet, rIsV, rIntI, rIntB, rAbsN, tLstRg, tRg1, tRg2, List.append_nil, List.nil_append, List.cons_append, Option.some.injEq, exists_eq_left', exists_eq_left, exists_eq_right, exists_eq_right', List.getElem?_cons_zero, List.getElem?_cons_succ, List.set_cons_zero, List.set_cons_succ, List.cons.injEq, and_true, true_and, exists_and_left, exists_and_right, and_assoc, V.int.injEq, V.bl.injEq, V.ref.injEq, V.str.injEq, reduceCtorEq, decide_true, decide_false, Bool.not_true, Bool.not_false, Bool.false_eq_true, if_false, if_true, ite_true, ite_false, List.length_cons, List.length_nil, tRaise, tErr, LamX.tLam, TTe])
    subst hS
    have fin : ∀ z : Int, 0 ≤ z → 0 + 1 + 1 ≤ sizeLine ∧ ∀ p, H p = none → CPow 10 18 ∧ ∃ x, SqL K (upd H p (.lst [.int 0, .int z])) p x ∧ ∃ y, atI x (if decide ((10 : Int) ^ Int.toNat 18 ≤ z) = true then 1 else 0) = some y ∧ (0 : Int) < 2147483629 ∧ CMul (z % 2147483629) 58543 ∧ CMul 55691 (k : Int) ∧ (0 : Int) < 2147483629 ∧
        0 + 1 + 1 + 1 ≤ sizeLine ∧ ∀ p1, upd H p (.lst [.int 0, .int z]) p1 = none → Q (.ref p1) (upd (upd H p (.lst [.int 0, .int z])) p1 (.lst [y, .int ((z % 2147483629 * 58543 + 55691 * (k : Int)) % 2147483629 + 1), .int 0])) := by
      intro z hz
      refine ⟨by decide, fun p hp => ⟨⟨by decide, by decide, by decide⟩, _, .of upd_same, .int (if decide ((10 : Int) ^ Int.toNat 18 ≤ z) = true then z else 0), ?_, by decide, mulR (by decide) (by decide), mulL (by decide) (by decide), by decide, by decide, fun p1 hp1 => ?_⟩⟩
      · split <;> rfl
      · refine q _ p1 (fun a o h => ?_) (back (same_new hp) hp1) ⟨_, _, _, upd_same, ?_⟩
        · exact hbx_at (same_new hp1 _ _ (same_new hp _ _ h)) (ne_of_none h (back (same_new hp) hp1))
        · split <;> omega
    have nn : ∀ i : Int, 0 ≤ (i.natAbs : Int) % 2147483629 := fun i => Int.emod_nonneg _ (by decide)
    refine ⟨mulL (by decide) (by decide), _, .inl hs, ?_⟩
    by_cases hk : k < ns.length
    · rw [decide_eq_true (by rw [List.length_map]; omega)]
      exact iteT ⟨_, hs, _, atI_nat (by rw [List.getElem?_map, List.getElem?_eq_getElem hk]; rfl), _, rfl, fin _ (by omega)⟩
    · rw [decide_eq_false (by rw [List.length_map]; omega)]
      refine iteF ⟨_, .inl hs, ?_⟩
      by_cases h0 : 0 < ns.length
      · rw [decide_eq_true (by rw [List.length_map]; omega)]
        have lt : k % ns.length < ns.length := Nat.mod_lt _ h0
        refine iteT ⟨_, .inl hs, by rw [List.length_map]; omega, _, hs, .int ns[k % ns.length], ?_, _, rfl, by decide, mulR (by decide) (by decide), fin _ ?_⟩
        · rw [List.length_map, ← Int.natCast_emod]
          exact atI_nat (by rw [List.getElem?_map, List.getElem?_eq_getElem lt]; rfl)
        · have := nn ns[k % ns.length]
          omega
      · rw [decide_eq_false (by rw [List.length_map]; omega)]
        exact iteF (fin _ (by omega))
def sp_law_take (K : PySem.W.Frag) : Sp := fun vs H Q _ => ∃ b, ∃ m : Nat, vs = [.ref b, nv m] ∧ (1 ≤ m ∧ m < 1073741824) ∧ Bx b H ∧ ∀ H' k, Same (hbx b H) (hbx b H') → Bx b H' → k < m → Q (nv k) H'
theorem ok__law_take (T : Tx P K mg) : FnOk P w K mg base CX0 1 T.a__law_take T.d__law_take ["box", "many"] (sp_law_take K) := by
  refine T.F__law_take.ok sc__law_take (fun vs H Q E h => ?_) (fun cdv A outer s H vs Q E hr h => ?_)
  · obtain ⟨b, m, rfl, _⟩ := h
    rfl
  · obtain ⟨b, m, rfl, ⟨m1, m2⟩, ⟨c, s, n, eb, c0⟩, q⟩ := h
    refine ⟨_, (pss_cons (ps_if (pt_cmpR op_gt (pe_ix (ixL (K := K) rfl) (pv 0) pe_int (fun _ _ => rfl)) pe_int (nomark _)) (pss_cons (ps_set (i := 2) sc__law_take.nd rfl (Or.inl rfl) (pe_op op_mod (pe_callTy callIntI (by rfl) T.n_int (by decide +kernel) (pa_cons (pe_ix (ixL (K := K) rfl) (pv 0) pe_int (fun _ _ => rfl)) pa_nil)) (pv 1)))
      (pss_cons (ps_asg (pe_op op_fdiv (pe_ix (ixL (K := K) rfl) (pv 0) pe_int (fun _ _ => rfl)) (pv 1)) (pg_sub (pv 0) pe_int set_list))
      (pss_one (ps_ret (pv 2))))) pss_nil)
      (pss_cons (ps_asg (pe_op op_add (pe_ix (ixL (K := K) rfl) (pv 0) pe_int (fun _ _ => rfl)) pe_int) (pg_sub (pv 0) pe_int set_list))
      (pss_cons (ps_set (i := 3) sc__law_take.nd rfl (Or.inl rfl) (pe_op op_mod (pe_callTy callIntI (by rfl) T.n_int (by decide +kernel) (pa_cons (pe_op op_add (pe_op op_mul (pe_op op_add (pe_ix (ixL (K := K) rfl) (pv 0) pe_int (fun _ _ => rfl)) (pe_op op_mul pe_int (pe_ix (ixL (K := K) rfl) (pv 0) pe_int (fun _ _ => rfl)))) pe_int) pe_int) pa_nil)) pe_int))
      (pss_cons (ps_asg (pe_op op_add (pe_op op_mod (pe_callTy callIntI (by rfl) T.n_int (by decide +kernel) (pa_cons (pe_op op_add (pe_op op_mul (pv 3) pe_int) pe_int) pa_nil)) pe_int) pe_int) (pg_sub (pv 0) pe_int set_list))
      (pss_one (ps_ret (pe_op op_mod (pe_callTy callIntI (by rfl) T.n_int (by decide +kernel) (pa_cons (pe_op op_fdiv (pe_op op_add (pe_op op_mul (pv 3) pe_int) (pe_ix (ixL (K := K) rfl) (pv 0) pe_int (fun _ _ => rfl))) pe_int) pa_nil)) (pv 1)))))))), ?_⟩
    rw [show L2.start ["box", "many", "digit", "raw"] [.ref b, nv m] = [some (.ref b), some (nv m), none, none] from rfl]
    (try simp only [tVar, tC, tOp, tUn, rI, rI0, rU, rEq, rNe, scal, tTest, tB, tAnd, tOr, tNot, tAndV, tOrV, tNotV, tIf, tChain, tNil, tCons, tCB, tCall, tTup, tLst, tRet, tRetN, tDrop, tSeq, tNext, tIfS, tAsg, gName, tPar, tPar3, gNil, gCons, gTup, gSub, tAug, tSl, tNoPart, tPart, tBM, tBM0, tYes, tIsP, iSeq, iEnumA, RZ.iZipA, iRng1, iRng2, iList, iTup, rIsi, rIsB, rIxL, rIxT, rIxA, rLenA, rListOf, rTupOf, rSetL, rSlL, rCat, rAppend, tFld, sFld, tMake, tBits, Int.ofNat_inj, cast1, cast0, TruV, cxOf, Cx.nox, Cx.wish, tNever, tBreak, tCont, ipI, tDIn, tDNotIn, sDPut, tDNewT, tDNewK, tDGet, rSortedPO, rSortedI, rIn, rEqD, rNeD, rInD, rNotInD, tSSet, rIsV, rIntI, rIntB, rAbsN, tLstRg, tRg1, tRg2, List.append_nil, List.nil_append, List.cons_append, Option.some.injEq, exists_eq_left', exists_eq_left, exists_eq_right, exists_eq_right', List.getElem?_cons_zero, List.getElem?_cons_succ, List.set_cons_zero, List.set_cons_succ, List.cons.injEq, and_true, true_and, exists_and_left, exists_and_right, and_assoc, V.int.injEq, V.bl.injEq, V.ref.injEq, V.str.injEq, reduceCtorEq, decide_true, decide_false, Bool.not_true, Bool.not_false, Bool.false_eq_true, if_false, if_true, ite_true, ite_false, List.length_cons, List.length_nil, tRaise, tErr, LamX.tLam, TTe])
    have m0 : (0 : Int) < (m : Int) := by omega
    have md : ∀ z : Int, ∃ k : Nat, z % (m : Int) = (k : Int) ∧ k < m := fun z => by
      have h1 := Int.emod_nonneg z (Int.ne_of_gt m0)
      have h2 := Int.emod_lt_of_pos z m0
      exact ⟨(z % (m : Int)).toNat, by omega, by omega⟩
    have wr : ∀ o, Same (hbx b H) (hbx b (upd H b o)) := fun o => by rw [hbx_box]; exact Same.refl _
    refine ⟨_, .of eb, _, atI_nat (j := 0) rfl, _, rfl, ?_⟩
    by_cases hc : 0 < c
    · rw [decide_eq_true hc]
      refine iteT ⟨_, .of eb, _, atI_nat (j := 0) rfl, _, rfl, m0, _, .of eb, _, atI_nat (j := 0) rfl, _, rfl, ⟨m0, by omega⟩, _, eb, 0, rfl, ?_⟩
      obtain ⟨k, e, hk⟩ := md c
      rw [e]
      exact q _ k (wr _) ⟨_, _, _, upd_same, Int.ediv_nonneg c0 (Int.le_of_lt m0)⟩ hk
    · rw [decide_eq_false hc]
      refine iteF ⟨_, .of eb, _, atI_nat (j := 2) rfl, _, rfl, _, eb, 2, rfl, _, .of upd_same, _, atI_nat (j := 1) rfl, _, .of upd_same, _, atI_nat (j := 2) rfl, _, rfl, mulL (by decide) (by decide), _, rfl, mulR (by decide) (by decide), by decide, mulR (by decide) (by decide), by decide, ?_⟩
      refine ⟨_, upd_same, 1, rfl, mulR (by decide) (by decide), _, .of upd_same, _, atI_nat (j := 1) rfl, _, rfl, ⟨by decide, by decide⟩, m0, ?_⟩
      have fin : ∀ (z c' s' n' : Int) (o1 : HO), 0 ≤ c' → Q (.int (z % (m : Int))) (upd (upd H b o1) b (.lst [.int c', .int s', .int n'])) := fun z c' s' n' o1 h0 => by
        obtain ⟨k, e, hk⟩ := md z
        rw [e]
        exact q _ k (by rw [hbx_box]; exact wr _) ⟨_, _, _, upd_same, h0⟩ hk
      exact fin _ _ _ _ _ c0
def sp_law_pick (K : PySem.W.Frag) : Sp := fun vs H Q _ => ∃ b a, ∃ xs : List V, vs = [.ref b, .ref a] ∧ Bx b H ∧ SqL K (hbx b H) a xs ∧ (1 ≤ xs.length ∧ xs.length ≤ 100) ∧ ∀ H' (k : Nat) x, Same (hbx b H) (hbx b H') → Bx b H' → xs[k]? = some x → Q x H'
theorem ok__law_pick (T : Tx P K mg) : FnOk P w K mg base CX0 2 T.a__law_pick T.d__law_pick ["box", "some"] (sp_law_pick K) := by
  refine T.F__law_pick.ok sc__law_pick (fun vs H Q E h => ?_) (fun cdv A outer s H vs Q E hr h => ?_)
  · obtain ⟨b, a, xs, rfl, _⟩ := h
    rfl
  · obtain ⟨b, a, xs, rfl, hb, hs, ⟨x1, x2⟩, q⟩ := h
    refine ⟨_, (pss_one (ps_ret (pe_ix (ixA (K := K) rfl) (pv 1) (pe_call (ok__law_take T) (hr.mono (by decide)) (by rfl) T.g__law_take T.F__law_take.kp T.b__law_take .nil pass0 (pa_cons (pv 0) (pa_cons (pe_callB (lenK (K := K) rfl) (by rfl) T.n_len PySem.boot_len (pa_cons (pv 1) pa_nil)) pa_nil))) (fun _ _ => rfl)))), ?_⟩
    rw [show L2.start ["box", "some"] [.ref b, .ref a] = [some (.ref b), some (.ref a)] from rfl]
    (try simp only [tVar, tC, tOp, tUn, rI, rI0, rU, rEq, rNe, scal, tTest, tB, tAnd, tOr, tNot, tAndV, tOrV, tNotV, tIf, tChain, tNil, tCons, tCB, tCall, tTup, tLst, tRet, tRetN, tDrop, tSeq, tNext, tIfS, tAsg, gName, tPar, tPar3, gNil, gCons, gTup, gSub, tAug, tSl, tNoPart, tPart, tBM, tBM0, tYes, tIsP, iSeq, iEnumA, RZ.iZipA, iRng1, iRng2, iList, iTup, rIsi, rIsB, rIxL, rIxT, rIxA, rLenA, rListOf, rTupOf, rSetL, rSlL, rCat, rAppend, tFld, sFld, tMake, tBits, Int.ofNat_inj, cast1, cast0, TruV, cxOf, Cx.nox, Cx.wish, tNever, tBreak, tCont, ipI, tDIn, tDNotIn, sDPut, tDNewT, tDNewK, tDGet, rSortedPO, rSortedI, rIn, rEqD, rNeD, rInD, rNotInD, tSSet, rIsV, rIntI, rIntB, rAbsN, tLstRg, tRg1, tRg2, List.append_nil, List.nil_append, List.cons_append, Option.some.injEq, exists_eq_left', exists_eq_left, exists_eq_right, exists_eq_right', List.getElem?_cons_zero, List.getElem?_cons_succ, List.set_cons_zero, List.set_cons_succ, List.cons.injEq, and_true, true_and, exists_and_left, exists_and_right, and_assoc, V.int.injEq, V.bl.injEq, V.ref.injEq, V.str.injEq, reduceCtorEq, decide_true, decide_false, Bool.not_true, Bool.not_false, Bool.false_eq_true, if_false, if_true, ite_true, ite_false, List.length_cons, List.length_nil, tRaise, tErr, LamX.tLam, TTe])
    refine ⟨_, .inl (Same.seq (hbx_le b H) hs), b, xs.length, rfl, ⟨x1, by omega⟩, hb, fun H' k s hb2 hk => ?_⟩
    exact ⟨_, _, rfl, .inl (Same.seq (hbx_le b H') (Same.seq s hs)), xs[k], atI_nat (List.getElem?_eq_getElem hk), q H' k _ s hb2 (List.getElem?_eq_getElem hk)⟩
end
end Kr
namespace Kr
open PySem PySem.Spec PyProof.Rows L2 Kb
section
variable {P : Program} {w : World} {K : PySem.W.Frag} {mg : Str → Option Value} {base : Heap}
def sp_law_alike (K : PySem.W.Frag) (n : Nat) : Sp := fun vs H Q _ => ∃ x y, vs = [x, y] ∧ TD K H n x y ∧ ∀ H', Same H H' → Q (.bl true) H'
theorem ok_law_alike_n (T : Tx P K mg) : ∀ n, FnOk P w K mg base CX0 (n + 1) T.a__law_alike T.d__law_alike ["value", "due"] (sp_law_alike K n) := by
  intro n
  induction n with
  | zero =>
    refine T.F__law_alike.ok sc__law_alike (fun vs H Q E h => ?_) (fun cdv A outer s H vs Q E hr h => ?_)
    all_goals
      obtain ⟨x, y, _, h, _⟩ := h
      cases h
  | succ n ih =>
    refine T.F__law_alike.ok sc__law_alike (fun vs H Q E h => by obtain ⟨x, y, rfl, _⟩ := h; rfl) (fun cdv A outer s H vs Q E hr h => ?_)
    obtain ⟨x, y, rfl, td, q⟩ := h
    refine ⟨_, (pss_cons (ps_if (pt_val (pe_callB (isiK (K := K) rfl) (by rfl) T.n_isinstance (by decide +kernel) (pa_cons (pv 1) (pa_cons (pe_bltn (v := .ty "tuple") (by rfl) T.n_tuple (by decide +kernel) rfl) pa_nil)))) (pss_cons (ps_if (PW.pt (pw_or (pt_not (pt_val (pe_callB (isiK (K := K) rfl) (by rfl) T.n_isinstance (by decide +kernel) (pa_cons (pv 0) (pa_cons (pe_bltn (v := .ty "tuple") (by rfl) T.n_tuple (by decide +kernel) rfl) pa_nil))))) (pw_or1 (pt_cmpR op_ne (pe_callB (lenK (K := K) rfl) (by rfl) T.n_len PySem.boot_len (pa_cons (pv 0) pa_nil)) (pe_callB (lenK (K := K) rfl) (by rfl) T.n_len PySem.boot_len (pa_cons (pv 1) pa_nil)) (nomark _))))) (pss_one (ps_ret pe_bl)) pss_nil)
      (pss_one (ps_ret (pe_cmpR (eqDK (K := K) rfl hr.units) (pe_lc (own := [("one", 2), ("other", 3)]) (by rfl) sc__law_alike.nd (pzipK (K := K) rfl (by rfl) T.n_zip (pa_cons (pv 0) (pa_cons (pv 1) pa_nil))) (blkOk_by (own := [("one", 2), ("other", 3)]) (N := ["value", "due", "one", "other"]) (sc := defScope s__law_alike) (by decide +kernel)) (fun _ _ _ _ _ => (gtupK (K := K) (n := 2) rfl (by rfl) (pgs_cons (pg_name (i := 2) sc__law_alike.nd rfl (by first | exact Or.inl rfl | exact Or.inr rfl)) (pgs_cons (pg_name (i := 3) sc__law_alike.nd rfl (by first | exact Or.inl rfl | exact Or.inr rfl)) pgs_nil)))) (fun _ _ _ _ _ => (pts_one (pt_not (pt_val (pe_call ih (hr.mono (by omega)) (by rfl) T.g__law_alike T.F__law_alike.kp T.b__law_alike .nil pass0 (pa_cons (pv 2) (pa_cons (pv 3) pa_nil))))))) (fun _ _ _ _ _ => pe_int)) (pe_lst pa_nil) (nomark _))))) pss_nil)
      (pss_cons (ps_if (pt_cmpR op_isN (pv 1) pe_non (nomark _)) (pss_one (ps_ret (pe_cmpR op_isN (pv 0) pe_non (nomark _)))) pss_nil)
      (pss_cons (ps_if (pt_val (pe_callB (isiK (K := K) rfl) (by rfl) T.n_isinstance (by decide +kernel) (pa_cons (pv 1) (pa_cons (pe_bltn (v := .ty "bool") (by rfl) T.n_bool (by decide +kernel) rfl) pa_nil)))) (pss_one (ps_ret (pe_and (pe_callB (isiK (K := K) rfl) (by rfl) T.n_isinstance (by decide +kernel) (pa_cons (pv 0) (pa_cons (pe_bltn (v := .ty "bool") (by rfl) T.n_bool (by decide +kernel) rfl) pa_nil))) (pe_one (pe_cmpR op_eq (pv 0) (pv 1) (nomark _)))))) pss_nil)
      (pss_cons (ps_if (pt_val (pe_callB (isiK (K := K) rfl) (by rfl) T.n_isinstance (by decide +kernel) (pa_cons (pv 1) (pa_cons (pe_bltn (v := .ty "str") (by rfl) T.n_str (by decide +kernel) rfl) pa_nil)))) (pss_one (ps_ret (pe_and (pe_callB (isiK (K := K) rfl) (by rfl) T.n_isinstance (by decide +kernel) (pa_cons (pv 0) (pa_cons (pe_bltn (v := .ty "str") (by rfl) T.n_str (by decide +kernel) rfl) pa_nil))) (pe_one (pe_cmpR op_eq (pv 0) (pv 1) (nomark _)))))) pss_nil)
      (pss_one (ps_ret (pe_and (pe_callB (isiK (K := K) rfl) (by rfl) T.n_isinstance (by decide +kernel) (pa_cons (pv 0) (pa_cons (pe_bltn (v := .ty "int") (by rfl) T.n_int (by decide +kernel) rfl) pa_nil))) (pe_and (pe_not (pe_callB (isiK (K := K) rfl) (by rfl) T.n_isinstance (by decide +kernel) (pa_cons (pv 0) (pa_cons (pe_bltn (v := .ty "bool") (by rfl) T.n_bool (by decide +kernel) rfl) pa_nil)))) (pe_one (pe_cmpR op_eq (pv 0) (pv 1) (nomark _))))))))))), ?_⟩
    rw [show L2.start ["value", "due", "one", "other"] [x, y] = [some (x), some (y), none, none] from rfl]
    cases td with
    | non =>
      (try simp only [tVar, tC, tOp, tUn, rI, rI0, rU, rEq, rNe, scal, tTest, tB, tAnd, tOr, tNot, tAndV, tOrV, tNotV, tIf, tChain, tNil, tCons, tCB, tCall, tTup, tLst, tRet, tRetN, tDrop, tSeq, tNext, tIfS, tAsg, gName, tPar, tPar3, gNil, gCons, gTup, gSub, tAug, tSl, tNoPart, tPart, tBM, tBM0, tYes, tIsP, iSeq, iEnumA, RZ.iZipA, iRng1, iRng2, iList, iTup, rIsi, rIsB, rIxL, rIxT, rIxA, rLenA, rListOf, rTupOf, rSetL, rSlL, rCat, rAppend, tFld, sFld, tMake, tBits, Int.ofNat_inj, cast1, cast0, TruV, cxOf, Cx.nox, Cx.wish, tNever, tBreak, tCont, ipI, tDIn, tDNotIn, sDPut, tDNewT, tDNewK, tDGet, rSortedPO, rSortedI, rIn, rEqD, rNeD, rInD, rNotInD, tSSet, rIsV, rIntI, rIntB, rAbsN, tLstRg, tRg1, tRg2, List.append_nil, List.nil_append, List.cons_append, Option.some.injEq, exists_eq_left', exists_eq_left, exists_eq_right, exists_eq_right', List.getElem?_cons_zero, List.getElem?_cons_succ, List.set_cons_zero, List.set_cons_succ, List.cons.injEq, and_true, true_and, exists_and_left, exists_and_right, and_assoc, V.int.injEq, V.bl.injEq, V.ref.injEq, V.str.injEq, reduceCtorEq, decide_true, decide_false, Bool.not_true, Bool.not_false, Bool.false_eq_true, if_false, if_true, ite_true, ite_false, List.length_cons, List.length_nil, tRaise, tErr, LamX.tLam, TTe])
      refine ⟨_, _, .ty "tuple", .base .non, false, kit_ty (by decide +kernel), iteF ?_⟩
      exact q _ (Same.refl _)
    | bl _ b =>
      (try simp only [tVar, tC, tOp, tUn, rI, rI0, rU, rEq, rNe, scal, tTest, tB, tAnd, tOr, tNot, tAndV, tOrV, tNotV, tIf, tChain, tNil, tCons, tCB, tCall, tTup, tLst, tRet, tRetN, tDrop, tSeq, tNext, tIfS, tAsg, gName, tPar, tPar3, gNil, gCons, gTup, gSub, tAug, tSl, tNoPart, tPart, tBM, tBM0, tYes, tIsP, iSeq, iEnumA, RZ.iZipA, iRng1, iRng2, iList, iTup, rIsi, rIsB, rIxL, rIxT, rIxA, rLenA, rListOf, rTupOf, rSetL, rSlL, rCat, rAppend, tFld, sFld, tMake, tBits, Int.ofNat_inj, cast1, cast0, TruV, cxOf, Cx.nox, Cx.wish, tNever, tBreak, tCont, ipI, tDIn, tDNotIn, sDPut, tDNewT, tDNewK, tDGet, rSortedPO, rSortedI, rIn, rEqD, rNeD, rInD, rNotInD, tSSet, rIsV, rIntI, rIntB, rAbsN, tLstRg, tRg1, tRg2, List.append_nil, List.nil_append, List.cons_append, Option.some.injEq, exists_eq_left', exists_eq_left, exists_eq_right, exists_eq_right', List.getElem?_cons_zero, List.getElem?_cons_succ, List.set_cons_zero, List.set_cons_succ, List.cons.injEq, and_true, true_and, exists_and_left, exists_and_right, and_assoc, V.int.injEq, V.bl.injEq, V.ref.injEq, V.str.injEq, reduceCtorEq, decide_true, decide_false, Bool.not_true, Bool.not_false, Bool.false_eq_true, if_false, if_true, ite_true, ite_false, List.length_cons, List.length_nil, tRaise, tErr, LamX.tLam, TTe])
      refine ⟨_, _, .ty "tuple", .base (.bl b), false, kit_ty (by decide +kernel), iteF ?_⟩
      refine ⟨_, _, .ty "bool", .base (.bl b), true, kit_ty (by decide +kernel), iteT ?_⟩
      exact ⟨_, _, .ty "bool", .base (.bl b), true, kit_ty (by decide +kernel), iteT (q _ (Same.refl _))⟩
    | int _ i =>
      (try simp only [tVar, tC, tOp, tUn, rI, rI0, rU, rEq, rNe, scal, tTest, tB, tAnd, tOr, tNot, tAndV, tOrV, tNotV, tIf, tChain, tNil, tCons, tCB, tCall, tTup, tLst, tRet, tRetN, tDrop, tSeq, tNext, tIfS, tAsg, gName, tPar, tPar3, gNil, gCons, gTup, gSub, tAug, tSl, tNoPart, tPart, tBM, tBM0, tYes, tIsP, iSeq, iEnumA, RZ.iZipA, iRng1, iRng2, iList, iTup, rIsi, rIsB, rIxL, rIxT, rIxA, rLenA, rListOf, rTupOf, rSetL, rSlL, rCat, rAppend, tFld, sFld, tMake, tBits, Int.ofNat_inj, cast1, cast0, TruV, cxOf, Cx.nox, Cx.wish, tNever, tBreak, tCont, ipI, tDIn, tDNotIn, sDPut, tDNewT, tDNewK, tDGet, rSortedPO, rSortedI, rIn, rEqD, rNeD, rInD, rNotInD, tSSet, rIsV, rIntI, rIntB, rAbsN, tLstRg, tRg1, tRg2, List.append_nil, List.nil_append, List.cons_append, Option.some.injEq, exists_eq_left', exists_eq_left, exists_eq_right, exists_eq_right', List.getElem?_cons_zero, List.getElem?_cons_succ, List.set_cons_zero, List.set_cons_succ, List.cons.injEq, and_true, true_and, exists_and_left, exists_and_right, and_assoc, V.int.injEq, V.bl.injEq, V.ref.injEq, V.str.injEq, reduceCtorEq, decide_true, decide_false, Bool.not_true, Bool.not_false, Bool.false_eq_true, if_false, if_true, ite_true, ite_false, List.length_cons, List.length_nil, tRaise, tErr, LamX.tLam, TTe])
      refine ⟨_, _, .ty "tuple", .base (.int i), false, kit_ty (by decide +kernel), iteF ?_⟩
      refine ⟨_, _, .ty "bool", .base (.int i), false, kit_ty (by decide +kernel), iteF ?_⟩
      refine ⟨_, _, .ty "str", .base (.int i), false, kit_ty (by decide +kernel), iteF ?_⟩
      refine ⟨_, _, .ty "int", .base (.int i), true, kit_ty (by decide +kernel), iteT ?_⟩
      exact ⟨_, _, .ty "bool", .base (.int i), false, kit_ty (by decide +kernel), iteT (q _ (Same.refl _))⟩
    | str _ t =>
      (try simp only [tVar, tC, tOp, tUn, rI, rI0, rU, rEq, rNe, scal, tTest, tB, tAnd, tOr, tNot, tAndV, tOrV, tNotV, tIf, tChain, tNil, tCons, tCB, tCall, tTup, tLst, tRet, tRetN, tDrop, tSeq, tNext, tIfS, tAsg, gName, tPar, tPar3, gNil, gCons, gTup, gSub, tAug, tSl, tNoPart, tPart, tBM, tBM0, tYes, tIsP, iSeq, iEnumA, RZ.iZipA, iRng1, iRng2, iList, iTup, rIsi, rIsB, rIxL, rIxT, rIxA, rLenA, rListOf, rTupOf, rSetL, rSlL, rCat, rAppend, tFld, sFld, tMake, tBits, Int.ofNat_inj, cast1, cast0, TruV, cxOf, Cx.nox, Cx.wish, tNever, tBreak, tCont, ipI, tDIn, tDNotIn, sDPut, tDNewT, tDNewK, tDGet, rSortedPO, rSortedI, rIn, rEqD, rNeD, rInD, rNotInD, tSSet, rIsV, rIntI, rIntB, rAbsN, tLstRg, tRg1, tRg2, List.append_nil, List.nil_append, List.cons_append, Option.some.injEq, exists_eq_left', exists_eq_left, exists_eq_right, exists_eq_right', List.getElem?_cons_zero, List.getElem?_cons_succ, List.set_cons_zero, List.set_cons_succ, List.cons.injEq, and_true, true_and, exists_and_left, exists_and_right, and_assoc, V.int.injEq, V.bl.injEq, V.ref.injEq, V.str.injEq, reduceCtorEq, decide_true, decide_false, Bool.not_true, Bool.not_false, Bool.false_eq_true, if_false, if_true, ite_true, ite_false, List.length_cons, List.length_nil, tRaise, tErr, LamX.tLam, TTe])
      refine ⟨_, _, .ty "tuple", .base (.str t), false, kit_ty (by decide +kernel), iteF ?_⟩
      refine ⟨_, _, .ty "bool", .base (.str t), false, kit_ty (by decide +kernel), iteF ?_⟩
      refine ⟨_, _, .ty "str", .base (.str t), true, kit_ty (by decide +kernel), iteT ?_⟩
      exact ⟨_, _, .ty "str", .base (.str t), true, kit_ty (by decide +kernel), iteT (q _ (Same.refl _))⟩
    | @tup _ a b xs ys h1 h2 hl hs =>
      generalize hL1 : tLc _ _ _ _ _ = L1
      (try simp only [tVar, tC, tOp, tUn, rI, rI0, rU, rEq, rNe, scal, tTest, tB, tAnd, tOr, tNot, tAndV, tOrV, tNotV, tIf, tChain, tNil, tCons, tCB, tCall, tTup, tLst, tRet, tRetN, tDrop, tSeq, tNext, tIfS, tAsg, gName, tPar, tPar3, gNil, gCons, gTup, gSub, tAug, tSl, tNoPart, tPart, tBM, tBM0, tYes, tIsP, iSeq, iEnumA, RZ.iZipA, iRng1, iRng2, iList, iTup, rIsi, rIsB, rIxL, rIxT, rIxA, rLenA, rListOf, rTupOf, rSetL, rSlL, rCat, rAppend, tFld, sFld, tMake, tBits, Int.ofNat_inj, cast1, cast0, TruV, cxOf, Cx.nox, Cx.wish, tNever, tBreak, tCont, ipI, tDIn, tDNotIn, sDPut, tDNewT, tDNewK, tDGet, rSortedPO, rSortedI, rIn, rEqD, rNeD, rInD, rNotInD, tSSet, rIsV, rIntI, rIntB, rAbsN, tLstRg, tRg1, tRg2, List.append_nil, List.nil_append, List.cons_append, Option.some.injEq, exists_eq_left', exists_eq_left, exists_eq_right, exists_eq_right', List.getElem?_cons_zero, List.getElem?_cons_succ, List.set_cons_zero, List.set_cons_succ, List.cons.injEq, and_true, true_and, exists_and_left, exists_and_right, and_assoc, V.int.injEq, V.bl.injEq, V.ref.injEq, V.str.injEq, reduceCtorEq, decide_true, decide_false, Bool.not_true, Bool.not_false, Bool.false_eq_true, if_false, if_true, ite_true, ite_false, List.length_cons, List.length_nil, tRaise, tErr, LamX.tLam, TTe])
      refine ⟨_, _, .ty "tuple", tyT h2, true, kit_ty (by decide +kernel), iteT ?_⟩
      refine ⟨_, _, .ty "tuple", tyT h1, true, kit_ty (by decide +kernel), iteF ⟨_, .inr h1, _, .inr h2, ?_⟩⟩
      rw [if_neg (by rw [hl]; simp)]
      subst hL1
      refine lcZ0 a b xs ys (by decide) (fun R h => ?_) h1 h2 hl (fun i x y H' Q1 Q2 e1 e2 s1 q2 => ?_) fun L H' hL s1 eL => ?_
      · (try simp only [tVar, tC, tOp, tUn, rI, rI0, rU, rEq, rNe, scal, tTest, tB, tAnd, tOr, tNot, tAndV, tOrV, tNotV, tIf, tChain, tNil, tCons, tCB, tCall, tTup, tLst, tRet, tRetN, tDrop, tSeq, tNext, tIfS, tAsg, gName, tPar, tPar3, gNil, gCons, gTup, gSub, tAug, tSl, tNoPart, tPart, tBM, tBM0, tYes, tIsP, iSeq, iEnumA, RZ.iZipA, iRng1, iRng2, iList, iTup, rIsi, rIsB, rIxL, rIxT, rIxA, rLenA, rListOf, rTupOf, rSetL, rSlL, rCat, rAppend, tFld, sFld, tMake, tBits, Int.ofNat_inj, cast1, cast0, TruV, cxOf, Cx.nox, Cx.wish, tNever, tBreak, tCont, ipI, tDIn, tDNotIn, sDPut, tDNewT, tDNewK, tDGet, rSortedPO, rSortedI, rIn, rEqD, rNeD, rInD, rNotInD, tSSet, rIsV, rIntI, rIntB, rAbsN, tLstRg, tRg1, tRg2, List.append_nil, List.nil_append, List.cons_append, Option.some.injEq, exists_eq_left', exists_eq_left, exists_eq_right, exists_eq_right', List.getElem?_cons_zero, List.getElem?_cons_succ, List.set_cons_zero, List.set_cons_succ, List.cons.injEq, and_true, true_and, exists_and_left, exists_and_right, and_assoc, V.int.injEq, V.bl.injEq, V.ref.injEq, V.str.injEq, reduceCtorEq, decide_true, decide_false, Bool.not_true, Bool.not_false, Bool.false_eq_true, if_false, if_true, ite_true, ite_false, List.length_cons, List.length_nil, tRaise, tErr, LamX.tLam, TTe])
        exact h
      · (try simp only [tVar, tC, tOp, tUn, rI, rI0, rU, rEq, rNe, scal, tTest, tB, tAnd, tOr, tNot, tAndV, tOrV, tNotV, tIf, tChain, tNil, tCons, tCB, tCall, tTup, tLst, tRet, tRetN, tDrop, tSeq, tNext, tIfS, tAsg, gName, tPar, tPar3, gNil, gCons, gTup, gSub, tAug, tSl, tNoPart, tPart, tBM, tBM0, tYes, tIsP, iSeq, iEnumA, RZ.iZipA, iRng1, iRng2, iList, iTup, rIsi, rIsB, rIxL, rIxT, rIxA, rLenA, rListOf, rTupOf, rSetL, rSlL, rCat, rAppend, tFld, sFld, tMake, tBits, Int.ofNat_inj, cast1, cast0, TruV, cxOf, Cx.nox, Cx.wish, tNever, tBreak, tCont, ipI, tDIn, tDNotIn, sDPut, tDNewT, tDNewK, tDGet, rSortedPO, rSortedI, rIn, rEqD, rNeD, rInD, rNotInD, tSSet, rIsV, rIntI, rIntB, rAbsN, tLstRg, tRg1, tRg2, List.append_nil, List.nil_append, List.cons_append, Option.some.injEq, exists_eq_left', exists_eq_left, exists_eq_right, exists_eq_right', List.getElem?_cons_zero, List.getElem?_cons_succ, List.set_cons_zero, List.set_cons_succ, List.cons.injEq, and_true, true_and, exists_and_left, exists_and_right, and_assoc, V.int.injEq, V.bl.injEq, V.ref.injEq, V.str.injEq, reduceCtorEq, decide_true, decide_false, Bool.not_true, Bool.not_false, Bool.false_eq_true, if_false, if_true, ite_true, ite_false, List.length_cons, List.length_nil, tRaise, tErr, LamX.tLam, TTe])
        refine ⟨x, y, rfl, (hs i x y e1 e2).same s1, fun H3 s3 => ?_⟩
        (try simp only [tVar, tC, tOp, tUn, rI, rI0, rU, rEq, rNe, scal, tTest, tB, tAnd, tOr, tNot, tAndV, tOrV, tNotV, tIf, tChain, tNil, tCons, tCB, tCall, tTup, tLst, tRet, tRetN, tDrop, tSeq, tNext, tIfS, tAsg, gName, tPar, tPar3, gNil, gCons, gTup, gSub, tAug, tSl, tNoPart, tPart, tBM, tBM0, tYes, tIsP, iSeq, iEnumA, RZ.iZipA, iRng1, iRng2, iList, iTup, rIsi, rIsB, rIxL, rIxT, rIxA, rLenA, rListOf, rTupOf, rSetL, rSlL, rCat, rAppend, tFld, sFld, tMake, tBits, Int.ofNat_inj, cast1, cast0, TruV, cxOf, Cx.nox, Cx.wish, tNever, tBreak, tCont, ipI, tDIn, tDNotIn, sDPut, tDNewT, tDNewK, tDGet, rSortedPO, rSortedI, rIn, rEqD, rNeD, rInD, rNotInD, tSSet, rIsV, rIntI, rIntB, rAbsN, tLstRg, tRg1, tRg2, List.append_nil, List.nil_append, List.cons_append, Option.some.injEq, exists_eq_left', exists_eq_left, exists_eq_right, exists_eq_right', List.getElem?_cons_zero, List.getElem?_cons_succ, List.set_cons_zero, List.set_cons_succ, List.cons.injEq, and_true, true_and, exists_and_left, exists_and_right, and_assoc, V.int.injEq, V.bl.injEq, V.ref.injEq, V.str.injEq, reduceCtorEq, decide_true, decide_false, Bool.not_true, Bool.not_false, Bool.false_eq_true, if_false, if_true, ite_true, ite_false, List.length_cons, List.length_nil, tRaise, tErr, LamX.tLam, TTe])
        exact q2 _ s3
      · (try simp only [tVar, tC, tOp, tUn, rI, rI0, rU, rEq, rNe, scal, tTest, tB, tAnd, tOr, tNot, tAndV, tOrV, tNotV, tIf, tChain, tNil, tCons, tCB, tCall, tTup, tLst, tRet, tRetN, tDrop, tSeq, tNext, tIfS, tAsg, gName, tPar, tPar3, gNil, gCons, gTup, gSub, tAug, tSl, tNoPart, tPart, tBM, tBM0, tYes, tIsP, iSeq, iEnumA, RZ.iZipA, iRng1, iRng2, iList, iTup, rIsi, rIsB, rIxL, rIxT, rIxA, rLenA, rListOf, rTupOf, rSetL, rSlL, rCat, rAppend, tFld, sFld, tMake, tBits, Int.ofNat_inj, cast1, cast0, TruV, cxOf, Cx.nox, Cx.wish, tNever, tBreak, tCont, ipI, tDIn, tDNotIn, sDPut, tDNewT, tDNewK, tDGet, rSortedPO, rSortedI, rIn, rEqD, rNeD, rInD, rNotInD, tSSet, rIsV, rIntI, rIntB, rAbsN, tLstRg, tRg1, tRg2, List.append_nil, List.nil_append, List.cons_append, Option.some.injEq, exists_eq_left', exists_eq_left, exists_eq_right, exists_eq_right', List.getElem?_cons_zero, List.getElem?_cons_succ, List.set_cons_zero, List.set_cons_succ, List.cons.injEq, and_true, true_and, exists_and_left, exists_and_right, and_assoc, V.int.injEq, V.bl.injEq, V.ref.injEq, V.str.injEq, reduceCtorEq, decide_true, decide_false, Bool.not_true, Bool.not_false, Bool.false_eq_true, if_false, if_true, ite_true, ite_false, List.length_cons, List.length_nil, tRaise, tErr, LamX.tLam, TTe])
        refine ⟨by decide, fun p hp => ⟨_, .lst (.of (same_new hp _ _ eL)) .nil, _, .lst (.of upd_same) .nil, by decide, by decide, ?_⟩⟩
        exact q _ (s1.trans (same_new hp))
theorem ok__law_alike (T : Tx P K mg) : FnOk P w K mg base CX0 6 T.a__law_alike T.d__law_alike ["value", "due"] (sp_law_alike K 5) := ok_law_alike_n T 5
end
end Kr
namespace Kr
open PySem PySem.Spec PyProof.Rows L2 Kb
section
variable {P : Program} {w : World} {K : PySem.W.Frag} {mg : Str → Option Value} {base : Heap}
/-! ### words -/
def sp_is_integer (K : PySem.W.Frag) : Sp := fun vs H Q _ => ∃ x t b1 b2, vs = [x] ∧ TyX K H x t ∧ PySem.W.kitOne K t (.type "int") = some b1 ∧ PySem.W.kitOne K t (.type "bool") = some b2 ∧ Q (.bl (b1 && !b2)) H
theorem ok_is_integer (T : Tx P K mg) : FnOk P w K mg base CX0 1 T.a_is_integer T.d_is_integer ["value"] (sp_is_integer K) := by
  refine T.F_is_integer.ok sc_is_integer (fun vs H Q E h => ?_) (fun cdv A outer s H vs Q E hr h => ?_)
  · obtain ⟨x, t, b1, b2, rfl, _⟩ := h
    rfl
  · obtain ⟨x, t, b1, b2, rfl, ht, h1, h2, q⟩ := h
    refine ⟨_, (pss_one (ps_ret (pe_and (pe_callB (isiK (K := K) rfl) (by rfl) T.n_isinstance (by decide +kernel) (pa_cons (pv 0) (pa_cons (pe_bltn (v := .ty "int") (by rfl) T.n_int (by decide +kernel) rfl) pa_nil))) (pe_one (pe_not (pe_callB (isiK (K := K) rfl) (by rfl) T.n_isinstance (by decide +kernel) (pa_cons (pv 0) (pa_cons (pe_bltn (v := .ty "bool") (by rfl) T.n_bool (by decide +kernel) rfl) pa_nil)))))))), ?_⟩
    refine ⟨x, rfl, x, _, t, _, b1, rfl, .ty "int", ht, h1, b1, rfl, ?_⟩
    cases b1
    · exact iteF q
    · exact iteT ⟨x, rfl, x, _, t, _, b2, rfl, .ty "bool", ht, h2, b2, rfl, q⟩
theorem is_int {H : Hp} {Q : VK} {E : XK} {i : Int} (q : Q (.bl true) H) : sp_is_integer K [.int i] H Q E := ⟨_, _, _, _, rfl, tyInt i, kit_ii, kit_ib, q⟩
theorem is_notInt {H : Hp} {Q : VK} {E : XK} {x : V} (n : NotInt K H x) (q : Q (.bl false) H) : sp_is_integer K [x] H Q E := by
  obtain ⟨t, b1, b2, h0, h1, h2, e⟩ := n
  exact ⟨_, _, _, _, rfl, h0, h1, h2, e ▸ q⟩
/-- what a value is, as a whole number -/
def AsInt (K : PySem.W.Frag) (H : Hp) (x : V) : Option Int → Prop
  | some i => x = .int i
  | none => NotInt K H x
def below (l : Int) : Option Int → Bool
  | some i => decide (0 ≤ i) && decide (i < l)
  | none => false
def between (l m : Int) : Option Int → Bool
  | some i => decide (l ≤ i) && decide (i ≤ m)
  | none => false
def sp_is_below (K : PySem.W.Frag) : Sp := fun vs H Q _ => ∃ x o l, vs = [x, .int l] ∧ AsInt K H x o ∧ Q (.bl (below l o)) H
theorem below_i {i l : Int} {H : Hp} {Q : VK} {E : XK} (q : Q (.bl (decide (0 ≤ i) && decide (i < l))) H) : sp_is_below K [.int i, .int l] H Q E := ⟨_, some i, _, rfl, rfl, q⟩
theorem below_n {k n : Nat} {H : Hp} {Q : VK} {E : XK} (h : k < n) (q : Q (.bl true) H) : sp_is_below K [nv k, nv n] H Q E := by
  refine below_i ?_
  rw [decide_eq_true (Int.natCast_nonneg k), decide_eq_true (Int.ofNat_lt.mpr h)]
  exact q
def sp_is_between (K : PySem.W.Frag) : Sp := fun vs H Q _ => ∃ x o l m, vs = [x, .int l, .int m] ∧ AsInt K H x o ∧ Q (.bl (between l m o)) H
theorem ok_is_between (T : Tx P K mg) : FnOk P w K mg base CX0 2 T.a_is_between T.d_is_between ["value", "least", "greatest"] (sp_is_between K) := by
  refine T.F_is_between.ok sc_is_between (fun vs H Q E h => ?_) (fun cdv A outer s H vs Q E hr h => ?_)
  · obtain ⟨x, o, l, m, rfl, _⟩ := h
    rfl
  · obtain ⟨x, o, l, m, rfl, ho, q⟩ := h
    refine ⟨_, (pss_one (ps_ret (pe_and (pe_call (ok_is_integer T) (hr.mono (by decide)) (by rfl) T.g_is_integer T.F_is_integer.kp T.b_is_integer .nil pass0 (pa_cons (pv 0) pa_nil)) (pe_one (pe_chain op_le op_le (pv 1) (pv 0) (pv 2)))))), ?_⟩
    rw [show L2.start ["value", "least", "greatest"] [x, .int l, .int m] = [some (x), some (.int l), some (.int m)] from rfl]
    (try simp only [tVar, tC, tOp, tUn, rI, rI0, rU, rEq, rNe, scal, tTest, tB, tAnd, tOr, tNot, tAndV, tOrV, tNotV, tIf, tChain, tNil, tCons, tCB, tCall, tTup, tLst, tRet, tRetN, tDrop, tSeq, tNext, tIfS, tAsg, gName, tPar, tPar3, gNil, gCons, gTup, gSub, tAug, tSl, tNoPart, tPart, tBM, tBM0, tYes, tIsP, iSeq, iEnumA, RZ.iZipA, iRng1, iRng2, iList, iTup, rIsi, rIsB, rIxL, rIxT, rIxA, rLenA, rListOf, rTupOf, rSetL, rSlL, rCat, rAppend, tFld, sFld, tMake, tBits, Int.ofNat_inj, cast1, cast0, TruV, cxOf, Cx.nox, Cx.wish, tNever, tBreak, tCont, ipI, tDIn, tDNotIn, sDPut, tDNewT, tDNewK, tDGet, rSortedPO, rSortedI, rIn, rEqD, rNeD, rInD, rNotInD, tSSet, rIsV, rIntI, rIntB, rAbsN, tLstRg, tRg1, tRg2, List.append_nil, List.nil_append, List.cons_append, Option.some.injEq, exists_eq_left', exists_eq_left, exists_eq_right, exists_eq_right', List.getElem?_cons_zero, List.getElem?_cons_succ, List.set_cons_zero, List.set_cons_succ, List.cons.injEq, and_true, true_and, exists_and_left, exists_and_right, and_assoc, V.int.injEq, V.bl.injEq, V.ref.injEq, V.str.injEq, reduceCtorEq, decide_true, decide_false, Bool.not_true, Bool.not_false, Bool.false_eq_true, if_false, if_true, ite_true, ite_false, List.length_cons, List.length_nil, tRaise, tErr, LamX.tLam, TTe])
    cases o with
    | none => exact is_notInt ho (by simpa [between] using q)
    | some i =>
      cases ho
      refine is_int ?_
      (try simp only [tVar, tC, tOp, tUn, rI, rI0, rU, rEq, rNe, scal, tTest, tB, tAnd, tOr, tNot, tAndV, tOrV, tNotV, tIf, tChain, tNil, tCons, tCB, tCall, tTup, tLst, tRet, tRetN, tDrop, tSeq, tNext, tIfS, tAsg, gName, tPar, tPar3, gNil, gCons, gTup, gSub, tAug, tSl, tNoPart, tPart, tBM, tBM0, tYes, tIsP, iSeq, iEnumA, RZ.iZipA, iRng1, iRng2, iList, iTup, rIsi, rIsB, rIxL, rIxT, rIxA, rLenA, rListOf, rTupOf, rSetL, rSlL, rCat, rAppend, tFld, sFld, tMake, tBits, Int.ofNat_inj, cast1, cast0, TruV, cxOf, Cx.nox, Cx.wish, tNever, tBreak, tCont, ipI, tDIn, tDNotIn, sDPut, tDNewT, tDNewK, tDGet, rSortedPO, rSortedI, rIn, rEqD, rNeD, rInD, rNotInD, tSSet, rIsV, rIntI, rIntB, rAbsN, tLstRg, tRg1, tRg2, List.append_nil, List.nil_append, List.cons_append, Option.some.injEq, exists_eq_left', exists_eq_left, exists_eq_right, exists_eq_right', List.getElem?_cons_zero, List.getElem?_cons_succ, List.set_cons_zero, List.set_cons_succ, List.cons.injEq, and_true, true_and, exists_and_left, exists_and_right, and_assoc, V.int.injEq, V.bl.injEq, V.ref.injEq, V.str.injEq, reduceCtorEq, decide_true, decide_false, Bool.not_true, Bool.not_false, Bool.false_eq_true, if_false, if_true, ite_true, ite_false, List.length_cons, List.length_nil, tRaise, tErr, LamX.tLam, TTe])
      unfold between at q
      split <;> simp_all
theorem between_i {i l m : Int} {H : Hp} {Q : VK} {E : XK} (q : Q (.bl (decide (l ≤ i) && decide (i ≤ m))) H) : sp_is_between K [.int i, .int l, .int m] H Q E := ⟨_, some i, _, _, rfl, rfl, q⟩
def sp_is_sequence (K : PySem.W.Frag) : Sp := fun vs H Q _ => ∃ x t b, vs = [x] ∧ TyX K H x t ∧ PySem.W.kitAny K t [.type "list", .type "tuple"] = some b ∧ Q (.bl b) H
theorem ok_is_sequence (T : Tx P K mg) : FnOk P w K mg base CX0 1 T.a_is_sequence T.d_is_sequence ["value"] (sp_is_sequence K) := by
  refine T.F_is_sequence.ok sc_is_sequence (fun vs H Q E h => ?_) (fun cdv A outer s H vs Q E hr h => ?_)
  · obtain ⟨x, t, b, rfl, _⟩ := h
    rfl
  · obtain ⟨x, t, b, rfl, ht, hb, q⟩ := h
    refine ⟨_, (pss_one (ps_ret (isPK (K := K) (A := "list") (B := "tuple") rfl (pv 0) (by rfl) T.n_isinstance (pa_cons (pe_bltn (v := .ty "list") (by rfl) T.n_list (by decide +kernel) rfl) (pa_cons (pe_bltn (v := .ty "tuple") (by rfl) T.n_tuple (by decide +kernel) rfl) pa_nil))))), ?_⟩
    exact ⟨x, rfl, t, b, ht, hb, q⟩
theorem is_seq {H : Hp} {Q : VK} {E : XK} {a : Addr} {xs : List V} (s : Seq K H a xs) (q : Q (.bl true) H) : sp_is_sequence K [.ref a] H Q E := by
  rcases s with s | s
  · exact ⟨_, _, _, rfl, tyL s, kit_lp, q⟩
  · exact ⟨_, _, _, rfl, tyT s, kit_tp, q⟩
def sp_is_row (K : PySem.W.Frag) : Sp := fun vs H Q _ => ∃ x t b l, vs = [x, .int l] ∧ TyX K H x t ∧ PySem.W.kitAny K t [.type "list", .type "tuple"] = some b ∧ (b = false → Q (.bl false) H) ∧
  (b = true → ∃ a xs, x = .ref a ∧ Seq K H a xs ∧ Q (.bl (decide ((xs.length : Int) = l))) H)
theorem ok_is_row (T : Tx P K mg) : FnOk P w K mg base CX0 2 T.a_is_row T.d_is_row ["value", "many"] (sp_is_row K) := by
  refine T.F_is_row.ok sc_is_row (fun vs H Q E h => ?_) (fun cdv A outer s H vs Q E hr h => ?_)
  · obtain ⟨x, t, b, l, rfl, _⟩ := h
    rfl
  · obtain ⟨x, t, b, l, rfl, ht, hb, q0, q1⟩ := h
    refine ⟨_, (pss_one (ps_ret (pe_and (pe_call (ok_is_sequence T) (hr.mono (by decide)) (by rfl) T.g_is_sequence T.F_is_sequence.kp T.b_is_sequence .nil pass0 (pa_cons (pv 0) pa_nil)) (pe_one (pe_cmpR op_eq (pe_callB (lenK (K := K) rfl) (by rfl) T.n_len PySem.boot_len (pa_cons (pv 0) pa_nil)) (pv 1) (nomark _)))))), ?_⟩
    rw [show L2.start ["value", "many"] [x, .int l] = [some (x), some (.int l)] from rfl]
    (try simp only [tVar, tC, tOp, tUn, rI, rI0, rU, rEq, rNe, scal, tTest, tB, tAnd, tOr, tNot, tAndV, tOrV, tNotV, tIf, tChain, tNil, tCons, tCB, tCall, tTup, tLst, tRet, tRetN, tDrop, tSeq, tNext, tIfS, tAsg, gName, tPar, tPar3, gNil, gCons, gTup, gSub, tAug, tSl, tNoPart, tPart, tBM, tBM0, tYes, tIsP, iSeq, iEnumA, RZ.iZipA, iRng1, iRng2, iList, iTup, rIsi, rIsB, rIxL, rIxT, rIxA, rLenA, rListOf, rTupOf, rSetL, rSlL, rCat, rAppend, tFld, sFld, tMake, tBits, Int.ofNat_inj, cast1, cast0, TruV, cxOf, Cx.nox, Cx.wish, tNever, tBreak, tCont, ipI, tDIn, tDNotIn, sDPut, tDNewT, tDNewK, tDGet, rSortedPO, rSortedI, rIn, rEqD, rNeD, rInD, rNotInD, tSSet, rIsV, rIntI, rIntB, rAbsN, tLstRg, tRg1, tRg2, List.append_nil, List.nil_append, List.cons_append, Option.some.injEq, exists_eq_left', exists_eq_left, exists_eq_right, exists_eq_right', List.getElem?_cons_zero, List.getElem?_cons_succ, List.set_cons_zero, List.set_cons_succ, List.cons.injEq, and_true, true_and, exists_and_left, exists_and_right, and_assoc, V.int.injEq, V.bl.injEq, V.ref.injEq, V.str.injEq, reduceCtorEq, decide_true, decide_false, Bool.not_true, Bool.not_false, Bool.false_eq_true, if_false, if_true, ite_true, ite_false, List.length_cons, List.length_nil, tRaise, tErr, LamX.tLam, TTe])
    refine ⟨_, _, _, rfl, ht, hb, ?_⟩
    cases b with
    | false => exact ⟨false, rfl, iteF (q0 rfl)⟩
    | true =>
      obtain ⟨a, xs, rfl, hs, q⟩ := q1 rfl
      refine ⟨true, rfl, iteT ?_⟩
      (try simp only [tVar, tC, tOp, tUn, rI, rI0, rU, rEq, rNe, scal, tTest, tB, tAnd, tOr, tNot, tAndV, tOrV, tNotV, tIf, tChain, tNil, tCons, tCB, tCall, tTup, tLst, tRet, tRetN, tDrop, tSeq, tNext, tIfS, tAsg, gName, tPar, tPar3, gNil, gCons, gTup, gSub, tAug, tSl, tNoPart, tPart, tBM, tBM0, tYes, tIsP, iSeq, iEnumA, RZ.iZipA, iRng1, iRng2, iList, iTup, rIsi, rIsB, rIxL, rIxT, rIxA, rLenA, rListOf, rTupOf, rSetL, rSlL, rCat, rAppend, tFld, sFld, tMake, tBits, Int.ofNat_inj, cast1, cast0, TruV, cxOf, Cx.nox, Cx.wish, tNever, tBreak, tCont, ipI, tDIn, tDNotIn, sDPut, tDNewT, tDNewK, tDGet, rSortedPO, rSortedI, rIn, rEqD, rNeD, rInD, rNotInD, tSSet, rIsV, rIntI, rIntB, rAbsN, tLstRg, tRg1, tRg2, List.append_nil, List.nil_append, List.cons_append, Option.some.injEq, exists_eq_left', exists_eq_left, exists_eq_right, exists_eq_right', List.getElem?_cons_zero, List.getElem?_cons_succ, List.set_cons_zero, List.set_cons_succ, List.cons.injEq, and_true, true_and, exists_and_left, exists_and_right, and_assoc, V.int.injEq, V.bl.injEq, V.ref.injEq, V.str.injEq, reduceCtorEq, decide_true, decide_false, Bool.not_true, Bool.not_false, Bool.false_eq_true, if_false, if_true, ite_true, ite_false, List.length_cons, List.length_nil, tRaise, tErr, LamX.tLam, TTe])
      exact ⟨xs, hs, q⟩
theorem row_i {a : Addr} {xs : List V} {l : Int} {H : Hp} {Q : VK} {E : XK} (h : Seq K H a xs) (q : Q (.bl (decide ((xs.length : Int) = l))) H) : sp_is_row K [.ref a, .int l] H Q E := by
  rcases h with h | h
  · exact ⟨_, _, _, _, rfl, tyL h, kit_lp, (fun z => nomatch z), fun _ => ⟨_, _, rfl, .inl h, q⟩⟩
  · exact ⟨_, _, _, _, rfl, tyT h, kit_tp, (fun z => nomatch z), fun _ => ⟨_, _, rfl, .inr h, q⟩⟩
/-! ### masks -/
/-- the numbers of the bits, ascending -/
def bits (m : Nat) : List Nat := (List.range (Builtin.Int.intBits (m : Int))).filter m.testBit
theorem mem_bits {m k : Nat} (hm : m < 2 ^ 62) : k ∈ bits m ↔ m.testBit k = true := by
  unfold bits
  rw [List.mem_filter, List.mem_range]
  refine ⟨fun h => h.2, fun h => ⟨?_, h⟩⟩
  have e : Builtin.Int.intBits (m : Int) = if m = 0 then 0 else m.log2 + 1 := by
    unfold Builtin.Int.intBits
    simp
  rw [e]
  have hm0 : m ≠ 0 := fun z => by rw [z, Nat.zero_testBit] at h; cases h
  rw [if_neg hm0]
  have := Nat.ge_two_pow_of_testBit h
  have := (Nat.le_log2 hm0).mpr this
  omega
theorem bits_below {m n k : Nat} (hm : m < 2 ^ n) (h : k ∈ bits m) : k < n := by
  unfold bits at h
  have hb := (List.mem_filter.mp h).2
  have := Nat.ge_two_pow_of_testBit hb
  exact (Nat.pow_lt_pow_iff_right (by decide : 1 < 2)).mp (Nat.lt_of_le_of_lt this hm)
theorem odd_test (m k : Nat) : (((m >>> k &&& 1 : Nat) : Int) != 0) = m.testBit k := by
  unfold Nat.testBit
  rw [Nat.and_comm, Bool.eq_iff_iff]
  simp only [bne_iff_ne, ne_eq]
  omega
theorem bits_lt {m : Nat} (h : m < 2 ^ 62) : Builtin.Int.intBits (m : Int) ≤ 62 := by
  have : Builtin.Int.intBits (m : Int) = if m = 0 then 0 else m.log2 + 1 := by
    unfold Builtin.Int.intBits
    simp
  rw [this]
  split
  · omega
  · rename_i hm
    have := (Nat.log2_lt hm).mpr h
    omega
def maskOf (l : List Nat) : Nat := l.foldl (fun m k => m ||| 1 <<< k) 0
theorem maskOf_take {l : List Nat} {i k : Nat} (h : l[i]? = some k) : maskOf (l.take (i + 1)) = maskOf (l.take i) ||| 1 <<< k := by
  unfold maskOf
  rw [List.take_add_one, h, List.foldl_append]
  rfl
theorem nvs_at {l : List Nat} {i : Nat} {x : V} (h : (nvs l)[i]? = some x) : ∃ k, l[i]? = some k ∧ x = nv k := by
  rw [List.getElem?_map] at h
  cases e : l[i]? with
  | none => rw [e] at h; cases h
  | some k => rw [e] at h; exact ⟨k, rfl, (Option.some.inj h).symm⟩
def sp_lot_of (K : PySem.W.Frag) : Sp := fun vs H Q _ => ∃ m : Nat, vs = [nv m] ∧ m < 2 ^ 62 ∧ ∀ H' p, Same H H' → H p = none → H' p = some (.tup (nvs (bits m))) → Q (.ref p) H'
def sp_mask_of (K : PySem.W.Frag) : Sp := fun vs H Q _ => ∃ a ns, vs = [.ref a] ∧ Seq K H a (nvs ns) ∧ (∀ n ∈ ns, n < 64) ∧ Q (nv (maskOf ns)) H
end
end Kr
namespace Kr
open PySem PySem.Spec PyProof.Rows L2 Kb
/-! ### sizes -/
def Sz (n : Nat) (i : Int) : Prop := i.natAbs < 2 ^ n
theorem Sz.mono {n m : Nat} {i : Int} (h : Sz n i) (e : n ≤ m) : Sz m i := Nat.lt_of_lt_of_le h (Nat.pow_le_pow_right (by decide) e)
theorem Sz.mul {n m : Nat} {i j : Int} (h : Sz n i) (g : Sz m j) : Sz (n + m) (i * j) := by
  unfold Sz at *
  rw [Int.natAbs_mul, Nat.pow_add]
  exact Nat.mul_lt_mul_of_lt_of_lt h g
theorem Sz.add {n m : Nat} {i j : Int} (h : Sz n i) (g : Sz m j) : Sz (max n m + 1) (i + j) := by
  have h1 := h.mono (Nat.le_max_left n m)
  have h2 := g.mono (Nat.le_max_right n m)
  unfold Sz at *
  have := Int.natAbs_add_le i j
  rw [Nat.pow_succ]
  omega
theorem Sz.neg {n : Nat} {i : Int} (h : Sz n i) : Sz n (-i) := by
  unfold Sz at *
  rw [Int.natAbs_neg]
  exact h
theorem Sz.sub {n m : Nat} {i j : Int} (h : Sz n i) (g : Sz m j) : Sz (max n m + 1) (i - j) := by
  rw [Int.sub_eq_add_neg]
  exact h.add g.neg
theorem Sz.le {n : Nat} {i j : Int} (h : Sz n j) (e : i.natAbs ≤ j.natAbs) : Sz n i := Nat.lt_of_le_of_lt e h
theorem Sz.mulW {n m : Nat} {i j : Int} (h : Sz n i) (g : Sz m j) (e : n + m ≤ 9000) : CMulW i j := wide_mul (a := n + 1) (b := m + 1) (h.mono (Nat.le_succ n)) (g.mono (Nat.le_succ m)) (Nat.succ_pos _) (Nat.succ_pos _) (by omega)
theorem Sz.divW {n : Nat} {i j : Int} (h : Sz n j) (p : 0 < j) (e : n ≤ 8000) : CDivW i j := wide_div (b := n + 1) p (h.mono (Nat.le_succ n)) (Nat.succ_pos _) (by omega)
abbrev M9 : Int := 1000000000
theorem sz9 {i : Int} (h : -M9 - 1 ≤ i) (g : i ≤ M9 + 1) : Sz 30 i := by
  unfold Sz
  have : (2 : Nat) ^ 30 = 1073741824 := by decide
  rw [this]
  unfold M9 at *
  omega
section
variable {P : Program} {w : World} {K : PySem.W.Frag} {mg : Str → Option Value} {base : Heap}
/-! ### words -/
def sp_is_paper (K : PySem.W.Frag) : Sp := fun vs H Q _ => ∃ x t b l, vs = [x, .int l] ∧ TyX K H x t ∧ PySem.W.kitOne K t (.type "tuple") = some b ∧ (b = false → Q (.bl false) H) ∧ (b = true → ∃ a xs, x = .ref a ∧ SqT K H a xs ∧ Q (.bl (decide ((xs.length : Int) = l))) H)
theorem ok_is_paper (T : Tx P K mg) : FnOk P w K mg base CX0 1 T.a_is_paper T.d_is_paper ["value", "many"] (sp_is_paper K) := by
  refine T.F_is_paper.ok sc_is_paper (fun vs H Q E h => ?_) (fun cdv A outer s H vs Q E hr h => ?_)
  · obtain ⟨x, t, b, l, rfl, _⟩ := h
    rfl
  · obtain ⟨x, t, b, l, rfl, ht, hb, q0, q1⟩ := h
    refine ⟨_, (pss_one (ps_ret (pe_and (pe_callB (isiK (K := K) rfl) (by rfl) T.n_isinstance (by decide +kernel) (pa_cons (pv 0) (pa_cons (pe_bltn (v := .ty "tuple") (by rfl) T.n_tuple (by decide +kernel) rfl) pa_nil))) (pe_one (pe_cmpR op_eq (pe_callB (lenK (K := K) rfl) (by rfl) T.n_len PySem.boot_len (pa_cons (pv 0) pa_nil)) (pv 1) (nomark _)))))), ?_⟩
    rw [show L2.start ["value", "many"] [x, .int l] = [some (x), some (.int l)] from rfl]
    (try simp only [tVar, tC, tOp, tUn, rI, rI0, rU, rEq, rNe, scal, tTest, tB, tAnd, tOr, tNot, tAndV, tOrV, tNotV, tIf, tChain, tNil, tCons, tCB, tCall, tTup, tLst, tRet, tRetN, tDrop, tSeq, tNext, tIfS, tAsg, gName, tPar, tPar3, gNil, gCons, gTup, gSub, tAug, tSl, tNoPart, tPart, tBM, tBM0, tYes, tIsP, iSeq, iEnumA, RZ.iZipA, iRng1, iRng2, iList, iTup, rIsi, rIsB, rIxL, rIxT, rIxA, rLenA, rListOf, rTupOf, rSetL, rSlL, rCat, rAppend, tFld, sFld, tMake, tBits, Int.ofNat_inj, cast1, cast0, TruV, cxOf, Cx.nox, Cx.wish, tNever, tBreak, tCont, ipI, tDIn, tDNotIn, sDPut, tDNewT, tDNewK, tDGet, rSortedPO, rSortedI, rIn, rEqD, rNeD, rInD, rNotInD, tSSet, rIsV, rIntI, rIntB, rAbsN, tLstRg, tRg1, tRg2, List.append_nil, List.nil_append, List.cons_append, Option.some.injEq, exists_eq_left', exists_eq_left, exists_eq_right, exists_eq_right', List.getElem?_cons_zero, List.getElem?_cons_succ, List.set_cons_zero, List.set_cons_succ, List.cons.injEq, and_true, true_and, exists_and_left, exists_and_right, and_assoc, V.int.injEq, V.bl.injEq, V.ref.injEq, V.str.injEq, reduceCtorEq, decide_true, decide_false, Bool.not_true, Bool.not_false, Bool.false_eq_true, if_false, if_true, ite_true, ite_false, List.length_cons, List.length_nil, tRaise, tErr, LamX.tLam, TTe])
    refine ⟨_, _, .ty "tuple", ht, b, hb, ?_⟩
    cases b with
    | false => exact iteF (q0 rfl)
    | true =>
      obtain ⟨a, xs, rfl, hs, q⟩ := q1 rfl
      exact iteT ⟨_, rfl, _, .inr hs, q⟩
def sp_is_word (K : PySem.W.Frag) : Sp := fun vs H Q _ => ∃ x t b, ∃ z : Str, vs = [x, .str z] ∧ TyX K H x t ∧ PySem.W.kitOne K t (.type "str") = some b ∧ (b = false → Q (.bl false) H) ∧ (b = true → ∃ y : Str, x = .str y ∧ Q (.bl (decide (y = z))) H)
theorem ok_is_word (T : Tx P K mg) : FnOk P w K mg base CX0 1 T.a_is_word T.d_is_word ["value", "word"] (sp_is_word K) := by
  refine T.F_is_word.ok sc_is_word (fun vs H Q E h => ?_) (fun cdv A outer s H vs Q E hr h => ?_)
  · obtain ⟨x, t, b, z, rfl, _⟩ := h
    rfl
  · obtain ⟨x, t, b, z, rfl, ht, hb, q0, q1⟩ := h
    refine ⟨_, (pss_one (ps_ret (pe_and (pe_callB (isiK (K := K) rfl) (by rfl) T.n_isinstance (by decide +kernel) (pa_cons (pv 0) (pa_cons (pe_bltn (v := .ty "str") (by rfl) T.n_str (by decide +kernel) rfl) pa_nil))) (pe_one (pe_cmpR op_eq (pv 0) (pv 1) (nomark _)))))), ?_⟩
    rw [show L2.start ["value", "word"] [x, .str z] = [some (x), some (.str z)] from rfl]
    (try simp only [tVar, tC, tOp, tUn, rI, rI0, rU, rEq, rNe, scal, tTest, tB, tAnd, tOr, tNot, tAndV, tOrV, tNotV, tIf, tChain, tNil, tCons, tCB, tCall, tTup, tLst, tRet, tRetN, tDrop, tSeq, tNext, tIfS, tAsg, gName, tPar, tPar3, gNil, gCons, gTup, gSub, tAug, tSl, tNoPart, tPart, tBM, tBM0, tYes, tIsP, iSeq, iEnumA, RZ.iZipA, iRng1, iRng2, iList, iTup, rIsi, rIsB, rIxL, rIxT, rIxA, rLenA, rListOf, rTupOf, rSetL, rSlL, rCat, rAppend, tFld, sFld, tMake, tBits, Int.ofNat_inj, cast1, cast0, TruV, cxOf, Cx.nox, Cx.wish, tNever, tBreak, tCont, ipI, tDIn, tDNotIn, sDPut, tDNewT, tDNewK, tDGet, rSortedPO, rSortedI, rIn, rEqD, rNeD, rInD, rNotInD, tSSet, rIsV, rIntI, rIntB, rAbsN, tLstRg, tRg1, tRg2, List.append_nil, List.nil_append, List.cons_append, Option.some.injEq, exists_eq_left', exists_eq_left, exists_eq_right, exists_eq_right', List.getElem?_cons_zero, List.getElem?_cons_succ, List.set_cons_zero, List.set_cons_succ, List.cons.injEq, and_true, true_and, exists_and_left, exists_and_right, and_assoc, V.int.injEq, V.bl.injEq, V.ref.injEq, V.str.injEq, reduceCtorEq, decide_true, decide_false, Bool.not_true, Bool.not_false, Bool.false_eq_true, if_false, if_true, ite_true, ite_false, List.length_cons, List.length_nil, tRaise, tErr, LamX.tLam, TTe])
    refine ⟨_, _, .ty "str", ht, b, hb, ?_⟩
    cases b with
    | false => exact iteF (q0 rfl)
    | true =>
      obtain ⟨y, rfl, q⟩ := q1 rfl
      refine iteT ⟨rfl, ?_⟩
      simp only [V.str.injEq]
      exact q
/-! ### refusals -/
def atE (C : Addr) (i : Int) (H : Hp) (E : XK) : Prop := ∀ H' d, Same H H' → H' d = none → E (.ref C) (some d) (upd H' d (.xd [(("at" : Str), .int i)]))
theorem atE.here {C : Addr} {i : Int} {H : Hp} {E : XK} (h : atE C i H E) : ∀ d, H d = none → E (.ref C) (some d) (upd H d (.xd [(("at" : Str), .int i)])) := fun d hd => h H d (Same.refl _) hd
def sp_need_countX (C : Addr) (K : PySem.W.Frag) : Sp := fun vs H Q E => ∃ x o l m, vs = [x, .int l, .int m] ∧ AsInt K H x o ∧ (between l m o = true → Q .non H) ∧ (between l m o = false → atE C (-1) H E)
theorem okx_need_count (T : Tx P K mg) : FnOk P w K mg base (L2.CX P w) 3 T.a_need_count T.d_need_count ["value", "least", "greatest"] (sp_need_countX T.c_InvalidCount K) := by
  refine T.F_need_count.okX sc_need_count (fun vs H Q E h => ?_) (fun cdv A outer s H vs Q E hr h => ?_)
  · obtain ⟨x, o, l, m, rfl, _⟩ := h
    rfl
  · obtain ⟨x, o, l, m, rfl, ho, q0, q1⟩ := h
    refine ⟨_, (pss_one (ps_if (pt_not (pt_val (pe_call (ok_is_between T) (hr.mono (by decide)) (by rfl) T.g_is_between T.F_is_between.kp T.b_is_between .nil pass0 (pa_cons (pv 0) (pa_cons (pv 1) (pa_cons (pv 2) pa_nil)))))) (pss_one (ps_raiseE (P := P) (K := K) rfl rfl rfl T.e_InvalidCount hr T.g_InvalidCount T.n_super (takes_of rfl rfl rfl rfl) (pa_cons (pe_un un_neg pe_int) pa_nil) (by rfl))) pss_nil)), ?_⟩
    rw [show L2.start ["value", "least", "greatest"] [x, .int l, .int m] = [some (x), some (.int l), some (.int m)] from rfl]
    (try simp only [tVar, tC, tOp, tUn, rI, rI0, rU, rEq, rNe, scal, tTest, tB, tAnd, tOr, tNot, tAndV, tOrV, tNotV, tIf, tChain, tNil, tCons, tCB, tCall, tTup, tLst, tRet, tRetN, tDrop, tSeq, tNext, tIfS, tAsg, gName, tPar, tPar3, gNil, gCons, gTup, gSub, tAug, tSl, tNoPart, tPart, tBM, tBM0, tYes, tIsP, iSeq, iEnumA, RZ.iZipA, iRng1, iRng2, iList, iTup, rIsi, rIsB, rIxL, rIxT, rIxA, rLenA, rListOf, rTupOf, rSetL, rSlL, rCat, rAppend, tFld, sFld, tMake, tBits, Int.ofNat_inj, cast1, cast0, TruV, cxOf, Cx.nox, Cx.wish, tNever, tBreak, tCont, ipI, tDIn, tDNotIn, sDPut, tDNewT, tDNewK, tDGet, rSortedPO, rSortedI, rIn, rEqD, rNeD, rInD, rNotInD, tSSet, rIsV, rIntI, rIntB, rAbsN, tLstRg, tRg1, tRg2, List.append_nil, List.nil_append, List.cons_append, Option.some.injEq, exists_eq_left', exists_eq_left, exists_eq_right, exists_eq_right', List.getElem?_cons_zero, List.getElem?_cons_succ, List.set_cons_zero, List.set_cons_succ, List.cons.injEq, and_true, true_and, exists_and_left, exists_and_right, and_assoc, V.int.injEq, V.bl.injEq, V.ref.injEq, V.str.injEq, reduceCtorEq, decide_true, decide_false, Bool.not_true, Bool.not_false, Bool.false_eq_true, if_false, if_true, ite_true, ite_false, List.length_cons, List.length_nil, tRaise, tErr, LamX.tLam, TTe])
    refine ⟨x, o, l, m, rfl, ho, ?_⟩
    cases hb : between l m o with
    | true => exact ⟨true, rfl, iteF (q0 hb)⟩
    | false => exact ⟨false, rfl, iteT (q1 hb).here⟩
def sp_need_count (K : PySem.W.Frag) : Sp := fun vs H Q _ => ∃ i l m, vs = [.int i, .int l, .int m] ∧ (l ≤ i ∧ i ≤ m) ∧ Q .non H
theorem ok_need_count (T : Tx P K mg) : FnOk P w K mg base CX0 3 T.a_need_count T.d_need_count ["value", "least", "greatest"] (sp_need_count K) := by
  refine T.F_need_count.ok sc_need_count (fun vs H Q E h => ?_) (fun cdv A outer s H vs Q E hr h => ?_)
  · obtain ⟨i, l, m, rfl, _⟩ := h
    rfl
  · obtain ⟨i, l, m, rfl, ⟨h1, h2⟩, q⟩ := h
    refine ⟨_, (pss_one (ps_if (pt_not (pt_val (pe_call (ok_is_between T) (hr.mono (by decide)) (by rfl) T.g_is_between T.F_is_between.kp T.b_is_between .nil pass0 (pa_cons (pv 0) (pa_cons (pv 1) (pa_cons (pv 2) pa_nil)))))) (pss_one ps_never) pss_nil)), ?_⟩
    rw [show L2.start ["value", "least", "greatest"] [.int i, .int l, .int m] = [some (.int i), some (.int l), some (.int m)] from rfl]
    (try simp only [tVar, tC, tOp, tUn, rI, rI0, rU, rEq, rNe, scal, tTest, tB, tAnd, tOr, tNot, tAndV, tOrV, tNotV, tIf, tChain, tNil, tCons, tCB, tCall, tTup, tLst, tRet, tRetN, tDrop, tSeq, tNext, tIfS, tAsg, gName, tPar, tPar3, gNil, gCons, gTup, gSub, tAug, tSl, tNoPart, tPart, tBM, tBM0, tYes, tIsP, iSeq, iEnumA, RZ.iZipA, iRng1, iRng2, iList, iTup, rIsi, rIsB, rIxL, rIxT, rIxA, rLenA, rListOf, rTupOf, rSetL, rSlL, rCat, rAppend, tFld, sFld, tMake, tBits, Int.ofNat_inj, cast1, cast0, TruV, cxOf, Cx.nox, Cx.wish, tNever, tBreak, tCont, ipI, tDIn, tDNotIn, sDPut, tDNewT, tDNewK, tDGet, rSortedPO, rSortedI, rIn, rEqD, rNeD, rInD, rNotInD, tSSet, rIsV, rIntI, rIntB, rAbsN, tLstRg, tRg1, tRg2, List.append_nil, List.nil_append, List.cons_append, Option.some.injEq, exists_eq_left', exists_eq_left, exists_eq_right, exists_eq_right', List.getElem?_cons_zero, List.getElem?_cons_succ, List.set_cons_zero, List.set_cons_succ, List.cons.injEq, and_true, true_and, exists_and_left, exists_and_right, and_assoc, V.int.injEq, V.bl.injEq, V.ref.injEq, V.str.injEq, reduceCtorEq, decide_true, decide_false, Bool.not_true, Bool.not_false, Bool.false_eq_true, if_false, if_true, ite_true, ite_false, List.length_cons, List.length_nil, tRaise, tErr, LamX.tLam, TTe])
    refine between_i ?_
    rw [decide_eq_true h1, decide_eq_true h2]
    (try simp only [tVar, tC, tOp, tUn, rI, rI0, rU, rEq, rNe, scal, tTest, tB, tAnd, tOr, tNot, tAndV, tOrV, tNotV, tIf, tChain, tNil, tCons, tCB, tCall, tTup, tLst, tRet, tRetN, tDrop, tSeq, tNext, tIfS, tAsg, gName, tPar, tPar3, gNil, gCons, gTup, gSub, tAug, tSl, tNoPart, tPart, tBM, tBM0, tYes, tIsP, iSeq, iEnumA, RZ.iZipA, iRng1, iRng2, iList, iTup, rIsi, rIsB, rIxL, rIxT, rIxA, rLenA, rListOf, rTupOf, rSetL, rSlL, rCat, rAppend, tFld, sFld, tMake, tBits, Int.ofNat_inj, cast1, cast0, TruV, cxOf, Cx.nox, Cx.wish, tNever, tBreak, tCont, ipI, tDIn, tDNotIn, sDPut, tDNewT, tDNewK, tDGet, rSortedPO, rSortedI, rIn, rEqD, rNeD, rInD, rNotInD, tSSet, rIsV, rIntI, rIntB, rAbsN, tLstRg, tRg1, tRg2, List.append_nil, List.nil_append, List.cons_append, Option.some.injEq, exists_eq_left', exists_eq_left, exists_eq_right, exists_eq_right', List.getElem?_cons_zero, List.getElem?_cons_succ, List.set_cons_zero, List.set_cons_succ, List.cons.injEq, and_true, true_and, exists_and_left, exists_and_right, and_assoc, V.int.injEq, V.bl.injEq, V.ref.injEq, V.str.injEq, reduceCtorEq, decide_true, decide_false, Bool.not_true, Bool.not_false, Bool.false_eq_true, if_false, if_true, ite_true, ite_false, List.length_cons, List.length_nil, tRaise, tErr, LamX.tLam, TTe])
    exact q
/-- a value as a fraction, as the program looks at it -/
inductive FracV (K : PySem.W.Frag) (H : Hp) : V → Option (Int × Int) → Prop
  | good {a : Addr} {p q : Int} : Seq K H a [.int p, .int q] → 0 ≤ p → p ≤ M9 → 1 ≤ q → q ≤ M9 → FracV K H (.ref a) (some (p, q))
  | noSeq {x : V} {t : Value} : TyX K H x t → PySem.W.kitAny K t [.type "list", .type "tuple"] = some false → FracV K H x none
  | size {a : Addr} {xs : List V} : Seq K H a xs → xs.length ≠ 2 → FracV K H (.ref a) none
  | first {a : Addr} {x y : V} {o : Option Int} : Seq K H a [x, y] → AsInt K H x o → between 0 M9 o = false → FracV K H (.ref a) none
  | second {a : Addr} {p : Int} {y : V} {o : Option Int} : Seq K H a [.int p, y] → 0 ≤ p → p ≤ M9 → AsInt K H y o → between 1 M9 o = false → FracV K H (.ref a) none
theorem bt_in {l m i : Int} (h : l ≤ i) (g : i ≤ m) : between l m (some i) = true := by
  show (decide (l ≤ i) && decide (i ≤ m)) = true
  rw [decide_eq_true h, decide_eq_true g]
  rfl
def sp_need_fractionX (C : Addr) (K : PySem.W.Frag) : Sp := fun vs H Q E => ∃ x i r, vs = [x, .int i] ∧ FracV K H x r ∧ (r ≠ none → Q .non H) ∧ (r = none → atE C i H E)
theorem okx_need_fraction (T : Tx P K mg) : FnOk P w K mg base (L2.CX P w) 3 T.a_need_fraction T.d_need_fraction ["value", "at"] (sp_need_fractionX T.c_InvalidRates K) := by
  refine T.F_need_fraction.okX sc_need_fraction (fun vs H Q E h => ?_) (fun cdv A outer s H vs Q E hr h => ?_)
  · obtain ⟨x, i, r, rfl, _⟩ := h
    rfl
  · obtain ⟨x, i, r, rfl, hx, q0, q1⟩ := h
    refine ⟨_, (pss_one (ps_if (PW.pt (pw_or (pt_not (pt_val (pe_call (ok_is_row T) (hr.mono (by decide)) (by rfl) T.g_is_row T.F_is_row.kp T.b_is_row .nil pass0 (pa_cons (pv 0) (pa_cons pe_int pa_nil))))) (pw_or (pt_not (pt_val (pe_call (ok_is_between T) (hr.mono (by decide)) (by rfl) T.g_is_between T.F_is_between.kp T.b_is_between .nil pass0 (pa_cons (pe_ix (ixA (K := K) rfl) (pv 0) pe_int (fun _ _ => rfl)) (pa_cons pe_int (pa_cons (pe_globI rfl T.g_MOST_TICKS) pa_nil)))))) (pw_or1 (pt_not (pt_val (pe_call (ok_is_between T) (hr.mono (by decide)) (by rfl) T.g_is_between T.F_is_between.kp T.b_is_between .nil pass0 (pa_cons (pe_ix (ixA (K := K) rfl) (pv 0) pe_int (fun _ _ => rfl)) (pa_cons pe_int (pa_cons (pe_globI rfl T.g_MOST_TICKS) pa_nil)))))))))) (pss_one (ps_raiseE (P := P) (K := K) rfl rfl rfl T.e_InvalidRates hr T.g_InvalidRates T.n_super (takes_of rfl rfl rfl rfl) (pa_cons (pv 1) pa_nil) (by rfl))) pss_nil)), ?_⟩
    rw [show L2.start ["value", "at"] [x, .int i] = [some (x), some (.int i)] from rfl]
    (try simp only [tVar, tC, tOp, tUn, rI, rI0, rU, rEq, rNe, scal, tTest, tB, tAnd, tOr, tNot, tAndV, tOrV, tNotV, tIf, tChain, tNil, tCons, tCB, tCall, tTup, tLst, tRet, tRetN, tDrop, tSeq, tNext, tIfS, tAsg, gName, tPar, tPar3, gNil, gCons, gTup, gSub, tAug, tSl, tNoPart, tPart, tBM, tBM0, tYes, tIsP, iSeq, iEnumA, RZ.iZipA, iRng1, iRng2, iList, iTup, rIsi, rIsB, rIxL, rIxT, rIxA, rLenA, rListOf, rTupOf, rSetL, rSlL, rCat, rAppend, tFld, sFld, tMake, tBits, Int.ofNat_inj, cast1, cast0, TruV, cxOf, Cx.nox, Cx.wish, tNever, tBreak, tCont, ipI, tDIn, tDNotIn, sDPut, tDNewT, tDNewK, tDGet, rSortedPO, rSortedI, rIn, rEqD, rNeD, rInD, rNotInD, tSSet, rIsV, rIntI, rIntB, rAbsN, tLstRg, tRg1, tRg2, List.append_nil, List.nil_append, List.cons_append, Option.some.injEq, exists_eq_left', exists_eq_left, exists_eq_right, exists_eq_right', List.getElem?_cons_zero, List.getElem?_cons_succ, List.set_cons_zero, List.set_cons_succ, List.cons.injEq, and_true, true_and, exists_and_left, exists_and_right, and_assoc, V.int.injEq, V.bl.injEq, V.ref.injEq, V.str.injEq, reduceCtorEq, decide_true, decide_false, Bool.not_true, Bool.not_false, Bool.false_eq_true, if_false, if_true, ite_true, ite_false, List.length_cons, List.length_nil, tRaise, tErr, LamX.tLam, TTe])
    cases hx with
    | good hs p0 p1 s0 s1 =>
      refine row_i hs ⟨true, rfl, iteF ?_⟩
      refine ⟨_, rfl, _, hs, _, atI_nat (j := 0) rfl, _, some _, _, _, rfl, rfl, ?_⟩
      rw [bt_in p0 p1]
      refine ⟨true, rfl, iteF ?_⟩
      refine ⟨_, rfl, _, hs, _, atI_nat (j := 1) rfl, _, some _, _, _, rfl, rfl, ?_⟩
      rw [bt_in s0 s1]
      exact ⟨true, rfl, iteF (q0 (by simp))⟩
    | noSeq h1 h2 => exact ⟨_, _, _, _, rfl, h1, h2, fun _ => ⟨false, rfl, iteT (q1 rfl).here⟩, fun z => nomatch z⟩
    | size hs hl =>
      refine row_i hs ⟨false, ?_, iteT (q1 rfl).here⟩
      rw [decide_eq_false (by omega)]
    | first hs ho hb =>
      refine row_i hs ⟨true, rfl, iteF ?_⟩
      refine ⟨_, rfl, _, hs, _, atI_nat (j := 0) rfl, _, _, _, _, rfl, ho, ?_⟩
      rw [hb]
      exact ⟨false, rfl, iteT (q1 rfl).here⟩
    | second hs p0 p1 ho hb =>
      refine row_i hs ⟨true, rfl, iteF ?_⟩
      refine ⟨_, rfl, _, hs, _, atI_nat (j := 0) rfl, _, some _, _, _, rfl, rfl, ?_⟩
      rw [bt_in p0 p1]
      refine ⟨true, rfl, iteF ?_⟩
      refine ⟨_, rfl, _, hs, _, atI_nat (j := 1) rfl, _, _, _, _, rfl, ho, ?_⟩
      rw [hb]
      exact ⟨false, rfl, iteT (q1 rfl).here⟩
def sp_need_fraction (K : PySem.W.Frag) : Sp := fun vs H Q _ => ∃ x i p, vs = [x, .int i] ∧ FracV K H x (some p) ∧ Q .non H
theorem ok_need_fraction (T : Tx P K mg) : FnOk P w K mg base CX0 3 T.a_need_fraction T.d_need_fraction ["value", "at"] (sp_need_fraction K) := by
  refine T.F_need_fraction.ok sc_need_fraction (fun vs H Q E h => ?_) (fun cdv A outer s H vs Q E hr h => ?_)
  · obtain ⟨x, i, p, rfl, _⟩ := h
    rfl
  · obtain ⟨x, i, p, rfl, hx, q⟩ := h
    refine ⟨_, (pss_one (ps_if (PW.pt (pw_or (pt_not (pt_val (pe_call (ok_is_row T) (hr.mono (by decide)) (by rfl) T.g_is_row T.F_is_row.kp T.b_is_row .nil pass0 (pa_cons (pv 0) (pa_cons pe_int pa_nil))))) (pw_or (pt_not (pt_val (pe_call (ok_is_between T) (hr.mono (by decide)) (by rfl) T.g_is_between T.F_is_between.kp T.b_is_between .nil pass0 (pa_cons (pe_ix (ixA (K := K) rfl) (pv 0) pe_int (fun _ _ => rfl)) (pa_cons pe_int (pa_cons (pe_globI rfl T.g_MOST_TICKS) pa_nil)))))) (pw_or1 (pt_not (pt_val (pe_call (ok_is_between T) (hr.mono (by decide)) (by rfl) T.g_is_between T.F_is_between.kp T.b_is_between .nil pass0 (pa_cons (pe_ix (ixA (K := K) rfl) (pv 0) pe_int (fun _ _ => rfl)) (pa_cons pe_int (pa_cons (pe_globI rfl T.g_MOST_TICKS) pa_nil)))))))))) (pss_one ps_never) pss_nil)), ?_⟩
    rw [show L2.start ["value", "at"] [x, .int i] = [some (x), some (.int i)] from rfl]
    (try simp only [tVar, tC, tOp, tUn, rI, rI0, rU, rEq, rNe, scal, tTest, tB, tAnd, tOr, tNot, tAndV, tOrV, tNotV, tIf, tChain, tNil, tCons, tCB, tCall, tTup, tLst, tRet, tRetN, tDrop, tSeq, tNext, tIfS, tAsg, gName, tPar, tPar3, gNil, gCons, gTup, gSub, tAug, tSl, tNoPart, tPart, tBM, tBM0, tYes, tIsP, iSeq, iEnumA, RZ.iZipA, iRng1, iRng2, iList, iTup, rIsi, rIsB, rIxL, rIxT, rIxA, rLenA, rListOf, rTupOf, rSetL, rSlL, rCat, rAppend, tFld, sFld, tMake, tBits, Int.ofNat_inj, cast1, cast0, TruV, cxOf, Cx.nox, Cx.wish, tNever, tBreak, tCont, ipI, tDIn, tDNotIn, sDPut, tDNewT, tDNewK, tDGet, rSortedPO, rSortedI, rIn, rEqD, rNeD, rInD, rNotInD, tSSet, rIsV, rIntI, rIntB, rAbsN, tLstRg, tRg1, tRg2, List.append_nil, List.nil_append, List.cons_append, Option.some.injEq, exists_eq_left', exists_eq_left, exists_eq_right, exists_eq_right', List.getElem?_cons_zero, List.getElem?_cons_succ, List.set_cons_zero, List.set_cons_succ, List.cons.injEq, and_true, true_and, exists_and_left, exists_and_right, and_assoc, V.int.injEq, V.bl.injEq, V.ref.injEq, V.str.injEq, reduceCtorEq, decide_true, decide_false, Bool.not_true, Bool.not_false, Bool.false_eq_true, if_false, if_true, ite_true, ite_false, List.length_cons, List.length_nil, tRaise, tErr, LamX.tLam, TTe])
    cases hx with
    | good hs p0 p1 s0 s1 =>
      refine row_i hs ⟨true, rfl, iteF ?_⟩
      refine ⟨_, rfl, _, hs, _, atI_nat (j := 0) rfl, _, some _, _, _, rfl, rfl, ?_⟩
      rw [bt_in p0 p1]
      refine ⟨true, rfl, iteF ?_⟩
      refine ⟨_, rfl, _, hs, _, atI_nat (j := 1) rfl, _, some _, _, _, rfl, rfl, ?_⟩
      rw [bt_in s0 s1]
      exact ⟨true, rfl, iteF q⟩
/-! ### clocks -/
structure Clk (w s0 s1 f0 f1 j0 j1 : Int) : Prop where
  w1 : 1 ≤ w
  w2 : w ≤ M9
  s01 : 1 ≤ s0
  s02 : s0 ≤ M9
  s11 : 1 ≤ s1
  s12 : s1 ≤ M9
  f01 : 1 ≤ f0
  f02 : f0 ≤ M9
  f11 : 1 ≤ f1
  f12 : f1 ≤ M9
  j01 : 0 ≤ j0
  j02 : j0 ≤ M9
  j11 : 1 ≤ j1
  j12 : j1 ≤ M9
  sf : s0 * f1 ≤ f0 * s1
/-- what the refusals tell of a time to wait and three fractions: none, or (the wait, -1), (a rate, its place) -/
inductive ClkV (K : PySem.W.Frag) (H : Hp) : V → V → V → V → Option (Bool × Int) → Prop
  | good {a b c : Addr} {w s0 s1 f0 f1 j0 j1 : Int} : Seq K H a [.int s0, .int s1] → Seq K H b [.int f0, .int f1] → Seq K H c [.int j0, .int j1] → Clk w s0 s1 f0 f1 j0 j1 → ClkV K H (.int w) (.ref a) (.ref b) (.ref c) none
  | wait {x s f j : V} {o : Option Int} : AsInt K H x o → between 1 M9 o = false → ClkV K H x s f j (some (true, -1))
  | slow {w : Int} {s f j : V} : 1 ≤ w → w ≤ M9 → FracV K H s none → ClkV K H (.int w) s f j (some (false, 0))
  | zero {w q : Int} {a : Addr} {f j : V} : 1 ≤ w → w ≤ M9 → Seq K H a [.int 0, .int q] → 1 ≤ q → q ≤ M9 → ClkV K H (.int w) (.ref a) f j (some (false, 0))
  | fast {w s0 s1 : Int} {a : Addr} {f j : V} : 1 ≤ w → w ≤ M9 → Seq K H a [.int s0, .int s1] → 1 ≤ s0 → s0 ≤ M9 → 1 ≤ s1 → s1 ≤ M9 → FracV K H f none → ClkV K H (.int w) (.ref a) f j (some (false, 1))
  | slower {w s0 s1 f0 f1 : Int} {a b : Addr} {j : V} : 1 ≤ w → w ≤ M9 → Seq K H a [.int s0, .int s1] → 1 ≤ s0 → s0 ≤ M9 → 1 ≤ s1 → s1 ≤ M9 → Seq K H b [.int f0, .int f1] → 0 ≤ f0 → f0 ≤ M9 → 1 ≤ f1 → f1 ≤ M9 → f0 * s1 < s0 * f1 → ClkV K H (.int w) (.ref a) (.ref b) j (some (false, 1))
  | way {w s0 s1 f0 f1 : Int} {a b : Addr} {j : V} : 1 ≤ w → w ≤ M9 → Seq K H a [.int s0, .int s1] → 1 ≤ s0 → s0 ≤ M9 → 1 ≤ s1 → s1 ≤ M9 → Seq K H b [.int f0, .int f1] → 0 ≤ f0 → f0 ≤ M9 → 1 ≤ f1 → f1 ≤ M9 → s0 * f1 ≤ f0 * s1 → FracV K H j none → ClkV K H (.int w) (.ref a) (.ref b) j (some (false, 2))
theorem cnt_ok {C : Addr} {H : Hp} {Q : VK} {E : XK} {l m i : Int} (h : l ≤ i) (g : i ≤ m) (q : Q .non H) : sp_need_countX C K [.int i, .int l, .int m] H Q E := ⟨_, some i, _, _, rfl, rfl, fun _ => q, fun z => by rw [bt_in h g] at z; cases z⟩
theorem cnt_no {C : Addr} {H : Hp} {Q : VK} {E : XK} {l m : Int} {x : V} {o : Option Int} (ho : AsInt K H x o) (hb : between l m o = false) (q : atE C (-1) H E) : sp_need_countX C K [x, .int l, .int m] H Q E := ⟨_, o, l, m, rfl, ho, (fun z => by rw [hb] at z; cases z), fun _ => q⟩
theorem frac_ok {C : Addr} {H : Hp} {Q : VK} {E : XK} {i p s : Int} {a : Addr} (hs : Seq K H a [.int p, .int s]) (p0 : 0 ≤ p) (p1 : p ≤ M9) (s0 : 1 ≤ s) (s1 : s ≤ M9) (q : Q .non H) : sp_need_fractionX C K [.ref a, .int i] H Q E :=
  ⟨_, _, _, rfl, .good hs p0 p1 s0 s1, fun _ => q, fun z => nomatch z⟩
theorem frac_no {C : Addr} {H : Hp} {Q : VK} {E : XK} {i : Int} {x : V} (hx : FracV K H x none) (q : atE C i H E) : sp_need_fractionX C K [x, .int i] H Q E := ⟨_, _, none, rfl, hx, fun z => absurd rfl z, fun _ => q⟩
theorem frac_ok0 {H : Hp} {Q : VK} {E : XK} {i p s : Int} {a : Addr} (hs : Seq K H a [.int p, .int s]) (p0 : 0 ≤ p) (p1 : p ≤ M9) (s0 : 1 ≤ s) (s1 : s ≤ M9) (q : Q .non H) : sp_need_fraction K [.ref a, .int i] H Q E := ⟨_, _, _, rfl, .good hs p0 p1 s0 s1, q⟩
theorem szp {i : Int} (h : 0 ≤ i) (g : i ≤ M9) : Sz 30 i := sz9 (by unfold M9; omega) (by unfold M9 at *; omega)
theorem dec0 {i : Int} (h : i ≠ 0) : decide (V.int i = V.int 0) = false := decide_eq_false fun e => h (by injection e)
def sp_need_clocksX (CC CR : Addr) (K : PySem.W.Frag) : Sp := fun vs H Q E => ∃ wt sl fa jo r, vs = [wt, sl, fa, jo] ∧ ClkV K H wt sl fa jo r ∧ (r = none → Q .non H) ∧ (∀ i, r = some (true, i) → atE CC i H E) ∧ (∀ i, r = some (false, i) → atE CR i H E)
theorem okx_need_clocks (T : Tx P K mg) : FnOk P w K mg base (L2.CX P w) 4 T.a_need_clocks T.d_need_clocks ["wait", "slow", "fast", "journey"] (sp_need_clocksX T.c_InvalidCount T.c_InvalidRates K) := by
  refine T.F_need_clocks.okX sc_need_clocks (fun vs H Q E h => ?_) (fun cdv A outer s H vs Q E hr h => ?_)
  · obtain ⟨wt, sl, fa, jo, r, rfl, _⟩ := h
    rfl
  · obtain ⟨wt, sl, fa, jo, r, rfl, hx, q0, q1, q2⟩ := h
    refine ⟨_, (pss_cons (ps_expr (pe_call (okx_need_count T) (hr.mono (by decide)) (by rfl) T.g_need_count T.F_need_count.kp T.b_need_count .nil (passes_call (takes_of rfl rfl rfl rfl) fun _ _ _ _ h => h) (pa_cons (pv 0) (pa_cons pe_int (pa_cons (pe_globI rfl T.g_MOST_TICKS) pa_nil)))))
      (pss_cons (ps_expr (pe_call (okx_need_fraction T) (hr.mono (by decide)) (by rfl) T.g_need_fraction T.F_need_fraction.kp T.b_need_fraction .nil (passes_call (takes_of rfl rfl rfl rfl) fun _ _ _ _ h => h) (pa_cons (pv 1) (pa_cons pe_int pa_nil))))
      (pss_cons (ps_if (pt_cmpR op_eq (pe_ix (ixA (K := K) rfl) (pv 1) pe_int (fun _ _ => rfl)) pe_int (nomark _)) (pss_one (ps_raiseE (P := P) (K := K) rfl rfl rfl T.e_InvalidRates hr T.g_InvalidRates T.n_super (takes_of rfl rfl rfl rfl) (pa_cons pe_int pa_nil) (by rfl))) pss_nil)
      (pss_cons (ps_expr (pe_call (okx_need_fraction T) (hr.mono (by decide)) (by rfl) T.g_need_fraction T.F_need_fraction.kp T.b_need_fraction .nil (passes_call (takes_of rfl rfl rfl rfl) fun _ _ _ _ h => h) (pa_cons (pv 2) (pa_cons pe_int pa_nil))))
      (pss_cons (ps_if (pt_cmpR op_lt (pe_op op_mulW (pe_ix (ixA (K := K) rfl) (pv 2) pe_int (fun _ _ => rfl)) (pe_ix (ixA (K := K) rfl) (pv 1) pe_int (fun _ _ => rfl))) (pe_op op_mulW (pe_ix (ixA (K := K) rfl) (pv 1) pe_int (fun _ _ => rfl)) (pe_ix (ixA (K := K) rfl) (pv 2) pe_int (fun _ _ => rfl))) (nomark _)) (pss_one (ps_raiseE (P := P) (K := K) rfl rfl rfl T.e_InvalidRates hr T.g_InvalidRates T.n_super (takes_of rfl rfl rfl rfl) (pa_cons pe_int pa_nil) (by rfl))) pss_nil)
      (pss_one (ps_expr (pe_call (okx_need_fraction T) (hr.mono (by decide)) (by rfl) T.g_need_fraction T.F_need_fraction.kp T.b_need_fraction .nil (passes_call (takes_of rfl rfl rfl rfl) fun _ _ _ _ h => h) (pa_cons (pv 3) (pa_cons pe_int pa_nil)))))))))), ?_⟩
    rw [show L2.start ["wait", "slow", "fast", "journey"] [wt, sl, fa, jo] = [some (wt), some (sl), some (fa), some (jo)] from rfl]
    (try simp only [tVar, tC, tOp, tUn, rI, rI0, rU, rEq, rNe, scal, tTest, tB, tAnd, tOr, tNot, tAndV, tOrV, tNotV, tIf, tChain, tNil, tCons, tCB, tCall, tTup, tLst, tRet, tRetN, tDrop, tSeq, tNext, tIfS, tAsg, gName, tPar, tPar3, gNil, gCons, gTup, gSub, tAug, tSl, tNoPart, tPart, tBM, tBM0, tYes, tIsP, iSeq, iEnumA, RZ.iZipA, iRng1, iRng2, iList, iTup, rIsi, rIsB, rIxL, rIxT, rIxA, rLenA, rListOf, rTupOf, rSetL, rSlL, rCat, rAppend, tFld, sFld, tMake, tBits, Int.ofNat_inj, cast1, cast0, TruV, cxOf, Cx.nox, Cx.wish, tNever, tBreak, tCont, ipI, tDIn, tDNotIn, sDPut, tDNewT, tDNewK, tDGet, rSortedPO, rSortedI, rIn, rEqD, rNeD, rInD, rNotInD, tSSet, rIsV, rIntI, rIntB, rAbsN, tLstRg, tRg1, tRg2, List.append_nil, List.nil_append, List.cons_append, Option.some.injEq, exists_eq_left', exists_eq_left, exists_eq_right, exists_eq_right', List.getElem?_cons_zero, List.getElem?_cons_succ, List.set_cons_zero, List.set_cons_succ, List.cons.injEq, and_true, true_and, exists_and_left, exists_and_right, and_assoc, V.int.injEq, V.bl.injEq, V.ref.injEq, V.str.injEq, reduceCtorEq, decide_true, decide_false, Bool.not_true, Bool.not_false, Bool.false_eq_true, if_false, if_true, ite_true, ite_false, List.length_cons, List.length_nil, tRaise, tErr, LamX.tLam, TTe])
    have ones : ∀ {i : Int}, 1 ≤ i → 0 ≤ i := fun h => by omega
    cases hx with
    | good ha hb hc C =>
      refine cnt_ok C.w1 C.w2 (frac_ok ha (ones C.s01) C.s02 C.s11 C.s12 ⟨_, rfl, _, ha, _, atI_nat (j := 0) rfl, rfl, ?_⟩)
      rw [dec0 (by have := C.s01; omega)]
      refine iteF (frac_ok hb (ones C.f01) C.f02 C.f11 C.f12 ?_)
      refine ⟨_, rfl, _, hb, _, atI_nat (j := 0) rfl, _, rfl, _, ha, _, atI_nat (j := 1) rfl, _, rfl, _, rfl, (szp (ones C.f01) C.f02).mulW (szp (ones C.s11) C.s12) (by decide), _, rfl, _, ha, _, atI_nat (j := 0) rfl, _, rfl, _, hb, _, atI_nat (j := 1) rfl, _, rfl, _, rfl, (szp (ones C.s01) C.s02).mulW (szp (ones C.f11) C.f12) (by decide), ?_⟩
      rw [decide_eq_false (by have := C.sf; omega)]
      exact iteF (frac_ok hc C.j01 C.j02 C.j11 C.j12 (q0 rfl))
    | wait ho hb => exact cnt_no ho hb (q1 _ rfl)
    | slow w1 w2 hf => exact cnt_ok w1 w2 (frac_no hf (q2 _ rfl))
    | zero w1 w2 ha h1 h2 =>
      refine cnt_ok w1 w2 (frac_ok ha (by decide) (by decide) h1 h2 ⟨_, rfl, _, ha, _, atI_nat (j := 0) rfl, rfl, ?_⟩)
      exact iteT (q2 _ rfl).here
    | fast w1 w2 ha a1 a2 a3 a4 hf =>
      refine cnt_ok w1 w2 (frac_ok ha (ones a1) a2 a3 a4 ⟨_, rfl, _, ha, _, atI_nat (j := 0) rfl, rfl, ?_⟩)
      rw [dec0 (by omega)]
      exact iteF (frac_no hf (q2 _ rfl))
    | slower w1 w2 ha a1 a2 a3 a4 hb b1 b2 b3 b4 hl =>
      refine cnt_ok w1 w2 (frac_ok ha (ones a1) a2 a3 a4 ⟨_, rfl, _, ha, _, atI_nat (j := 0) rfl, rfl, ?_⟩)
      rw [dec0 (by omega)]
      refine iteF (frac_ok hb b1 b2 b3 b4 ?_)
      refine ⟨_, rfl, _, hb, _, atI_nat (j := 0) rfl, _, rfl, _, ha, _, atI_nat (j := 1) rfl, _, rfl, _, rfl, (szp b1 b2).mulW (szp (ones a3) a4) (by decide), _, rfl, _, ha, _, atI_nat (j := 0) rfl, _, rfl, _, hb, _, atI_nat (j := 1) rfl, _, rfl, _, rfl, (szp (ones a1) a2).mulW (szp (ones b3) b4) (by decide), ?_⟩
      rw [decide_eq_true hl]
      exact iteT (q2 _ rfl).here
    | way w1 w2 ha a1 a2 a3 a4 hb b1 b2 b3 b4 hl hf =>
      refine cnt_ok w1 w2 (frac_ok ha (ones a1) a2 a3 a4 ⟨_, rfl, _, ha, _, atI_nat (j := 0) rfl, rfl, ?_⟩)
      rw [dec0 (by omega)]
      refine iteF (frac_ok hb b1 b2 b3 b4 ?_)
      refine ⟨_, rfl, _, hb, _, atI_nat (j := 0) rfl, _, rfl, _, ha, _, atI_nat (j := 1) rfl, _, rfl, _, rfl, (szp b1 b2).mulW (szp (ones a3) a4) (by decide), _, rfl, _, ha, _, atI_nat (j := 0) rfl, _, rfl, _, hb, _, atI_nat (j := 1) rfl, _, rfl, _, rfl, (szp (ones a1) a2).mulW (szp (ones b3) b4) (by decide), ?_⟩
      rw [decide_eq_false (by omega)]
      exact iteF (frac_no hf (q2 _ rfl))
/-- right clocks -/
structure ClkAt (K : PySem.W.Frag) (H : Hp) (a b c : Addr) (w s0 s1 f0 f1 j0 j1 : Int) : Prop where
  ha : Seq K H a [.int s0, .int s1]
  hb : Seq K H b [.int f0, .int f1]
  hc : Seq K H c [.int j0, .int j1]
  ck : Clk w s0 s1 f0 f1 j0 j1
theorem ClkAt.same {H H' : Hp} {a b c : Addr} {w s0 s1 f0 f1 j0 j1 : Int} (e : Same H H') (h : ClkAt K H a b c w s0 s1 f0 f1 j0 j1) : ClkAt K H' a b c w s0 s1 f0 f1 j0 j1 := ⟨Same.sq e h.ha, Same.sq e h.hb, Same.sq e h.hc, h.ck⟩
def sp_need_clocks (K : PySem.W.Frag) : Sp := fun vs H Q _ => ∃ a b c w s0 s1 f0 f1 j0 j1, vs = [.int w, .ref a, .ref b, .ref c] ∧ ClkAt K H a b c w s0 s1 f0 f1 j0 j1 ∧ Q .non H
theorem ok_need_clocks (T : Tx P K mg) : FnOk P w K mg base CX0 4 T.a_need_clocks T.d_need_clocks ["wait", "slow", "fast", "journey"] (sp_need_clocks K) := by
  refine T.F_need_clocks.ok sc_need_clocks (fun vs H Q E h => ?_) (fun cdv A outer s H vs Q E hr h => ?_)
  · obtain ⟨a, b, c, w, s0, s1, f0, f1, j0, j1, rfl, _⟩ := h
    rfl
  · obtain ⟨a, b, c, w, s0, s1, f0, f1, j0, j1, rfl, ⟨ha, hb, hc, C⟩, q⟩ := h
    refine ⟨_, (pss_cons (ps_expr (pe_call (ok_need_count T) (hr.mono (by decide)) (by rfl) T.g_need_count T.F_need_count.kp T.b_need_count .nil pass0 (pa_cons (pv 0) (pa_cons pe_int (pa_cons (pe_globI rfl T.g_MOST_TICKS) pa_nil)))))
      (pss_cons (ps_expr (pe_call (ok_need_fraction T) (hr.mono (by decide)) (by rfl) T.g_need_fraction T.F_need_fraction.kp T.b_need_fraction .nil pass0 (pa_cons (pv 1) (pa_cons pe_int pa_nil))))
      (pss_cons (ps_if (pt_cmpR op_eq (pe_ix (ixA (K := K) rfl) (pv 1) pe_int (fun _ _ => rfl)) pe_int (nomark _)) (pss_one ps_never) pss_nil)
      (pss_cons (ps_expr (pe_call (ok_need_fraction T) (hr.mono (by decide)) (by rfl) T.g_need_fraction T.F_need_fraction.kp T.b_need_fraction .nil pass0 (pa_cons (pv 2) (pa_cons pe_int pa_nil))))
      (pss_cons (ps_if (pt_cmpR op_lt (pe_op op_mulW (pe_ix (ixA (K := K) rfl) (pv 2) pe_int (fun _ _ => rfl)) (pe_ix (ixA (K := K) rfl) (pv 1) pe_int (fun _ _ => rfl))) (pe_op op_mulW (pe_ix (ixA (K := K) rfl) (pv 1) pe_int (fun _ _ => rfl)) (pe_ix (ixA (K := K) rfl) (pv 2) pe_int (fun _ _ => rfl))) (nomark _)) (pss_one ps_never) pss_nil)
      (pss_one (ps_expr (pe_call (ok_need_fraction T) (hr.mono (by decide)) (by rfl) T.g_need_fraction T.F_need_fraction.kp T.b_need_fraction .nil pass0 (pa_cons (pv 3) (pa_cons pe_int pa_nil)))))))))), ?_⟩
    rw [show L2.start ["wait", "slow", "fast", "journey"] [.int w, .ref a, .ref b, .ref c] = [some (.int w), some (.ref a), some (.ref b), some (.ref c)] from rfl]
    (try simp only [tVar, tC, tOp, tUn, rI, rI0, rU, rEq, rNe, scal, tTest, tB, tAnd, tOr, tNot, tAndV, tOrV, tNotV, tIf, tChain, tNil, tCons, tCB, tCall, tTup, tLst, tRet, tRetN, tDrop, tSeq, tNext, tIfS, tAsg, gName, tPar, tPar3, gNil, gCons, gTup, gSub, tAug, tSl, tNoPart, tPart, tBM, tBM0, tYes, tIsP, iSeq, iEnumA, RZ.iZipA, iRng1, iRng2, iList, iTup, rIsi, rIsB, rIxL, rIxT, rIxA, rLenA, rListOf, rTupOf, rSetL, rSlL, rCat, rAppend, tFld, sFld, tMake, tBits, Int.ofNat_inj, cast1, cast0, TruV, cxOf, Cx.nox, Cx.wish, tNever, tBreak, tCont, ipI, tDIn, tDNotIn, sDPut, tDNewT, tDNewK, tDGet, rSortedPO, rSortedI, rIn, rEqD, rNeD, rInD, rNotInD, tSSet, rIsV, rIntI, rIntB, rAbsN, tLstRg, tRg1, tRg2, List.append_nil, List.nil_append, List.cons_append, Option.some.injEq, exists_eq_left', exists_eq_left, exists_eq_right, exists_eq_right', List.getElem?_cons_zero, List.getElem?_cons_succ, List.set_cons_zero, List.set_cons_succ, List.cons.injEq, and_true, true_and, exists_and_left, exists_and_right, and_assoc, V.int.injEq, V.bl.injEq, V.ref.injEq, V.str.injEq, reduceCtorEq, decide_true, decide_false, Bool.not_true, Bool.not_false, Bool.false_eq_true, if_false, if_true, ite_true, ite_false, List.length_cons, List.length_nil, tRaise, tErr, LamX.tLam, TTe])
    have ones : ∀ {i : Int}, 1 ≤ i → 0 ≤ i := fun h => by omega
    refine ⟨_, _, _, rfl, ⟨C.w1, C.w2⟩, frac_ok0 ha (ones C.s01) C.s02 C.s11 C.s12 ⟨_, ha, _, atI_nat (j := 0) rfl, rfl, ?_⟩⟩
    rw [dec0 (by have := C.s01; omega)]
    refine iteF (frac_ok0 hb (ones C.f01) C.f02 C.f11 C.f12 ?_)
    refine ⟨_, hb, _, atI_nat (j := 0) rfl, _, ha, _, atI_nat (j := 1) rfl, _, rfl, _, rfl, (szp (ones C.f01) C.f02).mulW (szp (ones C.s11) C.s12) (by decide), _, ha, _, atI_nat (j := 0) rfl, _, hb, _, atI_nat (j := 1) rfl, _, rfl, _, rfl, (szp (ones C.s01) C.s02).mulW (szp (ones C.f11) C.f12) (by decide), ?_⟩
    rw [decide_eq_false (by have := C.sf; omega)]
    exact iteF (frac_ok0 hc C.j01 C.j02 C.j11 C.j12 q)
/-! ### what is to spare -/
def topI (w s0 f0 f1 j0 j1 : Int) : Int := s0 * (w * f1 * j1 - j0 * f0)
def botI (s1 f0 j1 : Int) : Int := s1 * f0 * j1
theorem Clk.top_sz {w s0 s1 f0 f1 j0 j1 : Int} (C : Clk w s0 s1 f0 f1 j0 j1) : Sz 121 (topI w s0 f0 f1 j0 j1) := by
  have h1 := (szp (by have := C.w1; omega) C.w2).mul (szp (by have := C.f11; omega) C.f12)
  have h2 := h1.mul (szp (by have := C.j11; omega) C.j12)
  have h3 := (szp C.j01 C.j02).mul (szp (by have := C.f01; omega) C.f02)
  exact (szp (by have := C.s01; omega) C.s02).mul (h2.sub h3)
theorem Clk.bot_sz {w s0 s1 f0 f1 j0 j1 : Int} (C : Clk w s0 s1 f0 f1 j0 j1) : Sz 90 (botI s1 f0 j1) := 
  ((szp (by have := C.s11; omega) C.s12).mul (szp (by have := C.f01; omega) C.f02)).mul (szp (by have := C.j11; omega) C.j12)
theorem Clk.bot_pos {w s0 s1 f0 f1 j0 j1 : Int} (C : Clk w s0 s1 f0 f1 j0 j1) : 1 ≤ botI s1 f0 j1 := by
  have h1 := Int.mul_pos (show 0 < s1 by have := C.s11; omega) (show 0 < f0 by have := C.f01; omega)
  have h2 := Int.mul_pos h1 (show 0 < j1 by have := C.j11; omega)
  unfold botI
  omega
def sp_spare (K : PySem.W.Frag) : Sp := fun vs H Q _ => ∃ a b c w s0 s1 f0 f1 j0 j1, vs = [.int w, .ref a, .ref b, .ref c] ∧ ClkAt K H a b c w s0 s1 f0 f1 j0 j1 ∧ ∀ p, H p = none → Q (.ref p) (upd H p (.tup [.int (topI w s0 f0 f1 j0 j1), .int (botI s1 f0 j1)]))
theorem ok_spare (T : Tx P K mg) : FnOk P w K mg base CX0 1 T.a_spare T.d_spare ["wait", "slow", "fast", "journey"] (sp_spare K) := by
  refine T.F_spare.ok sc_spare (fun vs H Q E h => ?_) (fun cdv A outer s H vs Q E hr h => ?_)
  · obtain ⟨a, b, c, w, s0, s1, f0, f1, j0, j1, rfl, _⟩ := h
    rfl
  · obtain ⟨a, b, c, w, s0, s1, f0, f1, j0, j1, rfl, ⟨ha, hb, hc, C⟩, q⟩ := h
    refine ⟨_, (pss_cons (ps_set (i := 4) sc_spare.nd rfl (Or.inl rfl) (pe_op op_mulW (pe_ix (ixA (K := K) rfl) (pv 1) pe_int (fun _ _ => rfl)) (pe_op op_sub (pe_op op_mulW (pe_op op_mulW (pv 0) (pe_ix (ixA (K := K) rfl) (pv 2) pe_int (fun _ _ => rfl))) (pe_ix (ixA (K := K) rfl) (pv 3) pe_int (fun _ _ => rfl))) (pe_op op_mulW (pe_ix (ixA (K := K) rfl) (pv 3) pe_int (fun _ _ => rfl)) (pe_ix (ixA (K := K) rfl) (pv 2) pe_int (fun _ _ => rfl))))))
      (pss_one (ps_ret (pe_tup (pa_cons (pv 4) (pa_cons (pe_op op_mulW (pe_op op_mulW (pe_ix (ixA (K := K) rfl) (pv 1) pe_int (fun _ _ => rfl)) (pe_ix (ixA (K := K) rfl) (pv 2) pe_int (fun _ _ => rfl))) (pe_ix (ixA (K := K) rfl) (pv 3) pe_int (fun _ _ => rfl))) pa_nil)))))), ?_⟩
    rw [show L2.start ["wait", "slow", "fast", "journey", "top"] [.int w, .ref a, .ref b, .ref c] = [some (.int w), some (.ref a), some (.ref b), some (.ref c), none] from rfl]
    (try simp only [tVar, tC, tOp, tUn, rI, rI0, rU, rEq, rNe, scal, tTest, tB, tAnd, tOr, tNot, tAndV, tOrV, tNotV, tIf, tChain, tNil, tCons, tCB, tCall, tTup, tLst, tRet, tRetN, tDrop, tSeq, tNext, tIfS, tAsg, gName, tPar, tPar3, gNil, gCons, gTup, gSub, tAug, tSl, tNoPart, tPart, tBM, tBM0, tYes, tIsP, iSeq, iEnumA, RZ.iZipA, iRng1, iRng2, iList, iTup, rIsi, rIsB, rIxL, rIxT, rIxA, rLenA, rListOf, rTupOf, rSetL, rSlL, rCat, rAppend, tFld, sFld, tMake, tBits, Int.ofNat_inj, cast1, cast0, TruV, cxOf, Cx.nox, Cx.wish, tNever, tBreak, tCont, ipI, tDIn, tDNotIn, sDPut, tDNewT, tDNewK, tDGet, rSortedPO, rSortedI, rIn, rEqD, rNeD, rInD, rNotInD, tSSet, rIsV, rIntI, rIntB, rAbsN, tLstRg, tRg1, tRg2, List.append_nil, List.nil_append, List.cons_append, Option.some.injEq, exists_eq_left', exists_eq_left, exists_eq_right, exists_eq_right', List.getElem?_cons_zero, List.getElem?_cons_succ, List.set_cons_zero, List.set_cons_succ, List.cons.injEq, and_true, true_and, exists_and_left, exists_and_right, and_assoc, V.int.injEq, V.bl.injEq, V.ref.injEq, V.str.injEq, reduceCtorEq, decide_true, decide_false, Bool.not_true, Bool.not_false, Bool.false_eq_true, if_false, if_true, ite_true, ite_false, List.length_cons, List.length_nil, tRaise, tErr, LamX.tLam, TTe])
    have zw := szp (by have := C.w1; omega) C.w2
    have zs0 := szp (by have := C.s01; omega) C.s02
    have zs1 := szp (by have := C.s11; omega) C.s12
    have zf0 := szp (by have := C.f01; omega) C.f02
    have zf1 := szp (by have := C.f11; omega) C.f12
    have zj0 := szp C.j01 C.j02
    have zj1 := szp (by have := C.j11; omega) C.j12
    refine ⟨_, ha, _, atI_nat (j := 0) rfl, _, hb, _, atI_nat (j := 1) rfl, _, rfl, zw.mulW zf1 (by decide), _, hc, _, atI_nat (j := 1) rfl, _, rfl, (zw.mul zf1).mulW zj1 (by decide), _, hc, _, atI_nat (j := 0) rfl, _, hb, _, atI_nat (j := 0) rfl, _, rfl, _, rfl, zj0.mulW zf0 (by decide), _, rfl, zs0.mulW (((zw.mul zf1).mul zj1).sub (zj0.mul zf0)) (by decide), ?_⟩
    exact ⟨_, ha, _, atI_nat (j := 1) rfl, _, hb, _, atI_nat (j := 0) rfl, _, rfl, _, rfl, zs1.mulW zf0 (by decide), _, hc, _, atI_nat (j := 1) rfl, _, rfl, (zs1.mul zf0).mulW zj1 (by decide), by decide, q⟩
/-! ### the greatest common part -/
def sp_lowest (K : PySem.W.Frag) : Sp := fun vs H Q _ => ∃ t b : Nat, vs = [nv t, nv b] ∧ 0 < b ∧ Sz 8000 t ∧ Sz 8000 b ∧ ∀ p, H p = none → Q (.ref p) (upd H p (.tup [nv (t / Nat.gcd t b), nv (b / Nat.gcd t b)]))
def gcdM (i : Nat) (σ : L2.St) : Nat := match σ[i]? with
  | some (some (.int z)) => z.toNat
  | _ => 0
theorem ok_lowest (T : Tx P K mg) : FnOk P w K mg base CX0 1 T.a_lowest T.d_lowest ["top", "bottom"] (sp_lowest K) := by
  refine T.F_lowest.ok sc_lowest (fun vs H Q E h => ?_) (fun cdv A outer s H vs Q E hr h => ?_)
  · obtain ⟨t, b, rfl, _⟩ := h
    rfl
  · obtain ⟨t, b, rfl, hb, zt, zb, q⟩ := h
    refine ⟨_, (pss_cons (ps_par (i := 2) (j := 3) (by rfl) sc_lowest.nd rfl rfl (by decide) rfl rfl (pa_cons (pv 0) (pa_cons (pv 1) pa_nil)) (by rfl))
      (pss_cons (ps_while PassesOwn.never (truthK (K := K) rfl (pv 3) (by intro _; rfl)) (pss_one (ps_par (i := 2) (j := 3) (by rfl) sc_lowest.nd rfl rfl (by decide) rfl rfl (pa_cons (pv 3) (pa_cons (pe_op op_mod (pv 2) (pv 3)) pa_nil)) (by rfl))))
      (pss_one (ps_ret (pe_tup (pa_cons (pe_op op_fdivW (pv 0) (pv 2)) (pa_cons (pe_op op_fdivW (pv 1) (pv 2)) pa_nil))))))), ?_⟩
    rw [show L2.start ["top", "bottom", "one", "other"] [nv t, nv b] = [some (nv t), some (nv b), none, none] from rfl]
    generalize hW : tWhile _ _ = W
    (try simp only [tVar, tC, tOp, tUn, rI, rI0, rU, rEq, rNe, scal, tTest, tB, tAnd, tOr, tNot, tAndV, tOrV, tNotV, tIf, tChain, tNil, tCons, tCB, tCall, tTup, tLst, tRet, tRetN, tDrop, tSeq, tNext, tIfS, tAsg, gName, tPar, tPar3, gNil, gCons, gTup, gSub, tAug, tSl, tNoPart, tPart, tBM, tBM0, tYes, tIsP, iSeq, iEnumA, RZ.iZipA, iRng1, iRng2, iList, iTup, rIsi, rIsB, rIxL, rIxT, rIxA, rLenA, rListOf, rTupOf, rSetL, rSlL, rCat, rAppend, tFld, sFld, tMake, tBits, Int.ofNat_inj, cast1, cast0, TruV, cxOf, Cx.nox, Cx.wish, tNever, tBreak, tCont, ipI, tDIn, tDNotIn, sDPut, tDNewT, tDNewK, tDGet, rSortedPO, rSortedI, rIn, rEqD, rNeD, rInD, rNotInD, tSSet, rIsV, rIntI, rIntB, rAbsN, tLstRg, tRg1, tRg2, List.append_nil, List.nil_append, List.cons_append, Option.some.injEq, exists_eq_left', exists_eq_left, exists_eq_right, exists_eq_right', List.getElem?_cons_zero, List.getElem?_cons_succ, List.set_cons_zero, List.set_cons_succ, List.cons.injEq, and_true, true_and, exists_and_left, exists_and_right, and_assoc, V.int.injEq, V.bl.injEq, V.ref.injEq, V.str.injEq, reduceCtorEq, decide_true, decide_false, Bool.not_true, Bool.not_false, Bool.false_eq_true, if_false, if_true, ite_true, ite_false, List.length_cons, List.length_nil, tRaise, tErr, LamX.tLam, TTe])
    subst hW
    obtain ⟨Pv, hPv⟩ : ∃ Pv : L2.St → Hp → Prop, ∀ σ' H', Pv σ' H' = (∃ x y : Nat, σ' = [some (nv t), some (nv b), some (nv x), some (nv y)] ∧ H' = H ∧ Nat.gcd x y = Nat.gcd t b) := ⟨_, fun _ _ => rfl⟩
    have g0 : 0 < Nat.gcd t b := Nat.gcd_pos_of_pos_right t hb
    refine while_by Pv (fun σ' _ => gcdM 3 σ') (by rw [hPv]; exact ⟨t, b, rfl, rfl, rfl⟩) ?_ (fun σ H Q Q' m h => ?_)
    · intro σ' H' hh
      rw [hPv] at hh
      obtain ⟨x, y, rfl, rfl, hg⟩ := hh
      (try simp only [tVar, tC, tOp, tUn, rI, rI0, rU, rEq, rNe, scal, tTest, tB, tAnd, tOr, tNot, tAndV, tOrV, tNotV, tIf, tChain, tNil, tCons, tCB, tCall, tTup, tLst, tRet, tRetN, tDrop, tSeq, tNext, tIfS, tAsg, gName, tPar, tPar3, gNil, gCons, gTup, gSub, tAug, tSl, tNoPart, tPart, tBM, tBM0, tYes, tIsP, iSeq, iEnumA, RZ.iZipA, iRng1, iRng2, iList, iTup, rIsi, rIsB, rIxL, rIxT, rIxA, rLenA, rListOf, rTupOf, rSetL, rSlL, rCat, rAppend, tFld, sFld, tMake, tBits, Int.ofNat_inj, cast1, cast0, TruV, cxOf, Cx.nox, Cx.wish, tNever, tBreak, tCont, ipI, tDIn, tDNotIn, sDPut, tDNewT, tDNewK, tDGet, rSortedPO, rSortedI, rIn, rEqD, rNeD, rInD, rNotInD, tSSet, rIsV, rIntI, rIntB, rAbsN, tLstRg, tRg1, tRg2, List.append_nil, List.nil_append, List.cons_append, Option.some.injEq, exists_eq_left', exists_eq_left, exists_eq_right, exists_eq_right', List.getElem?_cons_zero, List.getElem?_cons_succ, List.set_cons_zero, List.set_cons_succ, List.cons.injEq, and_true, true_and, exists_and_left, exists_and_right, and_assoc, V.int.injEq, V.bl.injEq, V.ref.injEq, V.str.injEq, reduceCtorEq, decide_true, decide_false, Bool.not_true, Bool.not_false, Bool.false_eq_true, if_false, if_true, ite_true, ite_false, List.length_cons, List.length_nil, tRaise, tErr, LamX.tLam, TTe])
      by_cases hy : y = 0
      · subst hy
        rw [Nat.gcd_zero_right] at hg
        subst hg
        have g1 : Nat.gcd t b ≤ b := Nat.le_of_dvd hb (Nat.gcd_dvd_right t b)
        have zg : Sz 8000 ((Nat.gcd t b : Nat) : Int) := zb.le (by rw [Int.natAbs_natCast, Int.natAbs_natCast]; exact g1)
        have gp : (0 : Int) < ((Nat.gcd t b : Nat) : Int) := by omega
        refine iteF ⟨zg.divW gp (by decide), zg.divW gp (by decide), by decide, fun p hp => ?_⟩
        rw [← Int.natCast_ediv, ← Int.natCast_ediv]
        exact q p hp
      · rw [show ((y : Int) != 0) = true by rw [bne_iff_ne]; omega]
        refine iteT ⟨by omega, ?_, ?_⟩
        · rw [hPv]
          refine ⟨y, x % y, by rw [show V.int ((x : Int) % (y : Int)) = nv (x % y) from congrArg V.int (Int.natCast_emod x y).symm], rfl, ?_⟩
          rw [Nat.gcd_comm, ← Nat.gcd_rec, Nat.gcd_comm]
          exact hg
        · rw [show V.int ((x : Int) % (y : Int)) = nv (x % y) from congrArg V.int (Int.natCast_emod x y).symm]
          show Int.toNat ((x % y : Nat) : Int) < Int.toNat ((y : Nat) : Int)
          rw [Int.toNat_natCast, Int.toNat_natCast]
          exact Nat.mod_lt _ (Nat.pos_of_ne_zero hy)
    · revert h
      (try simp only [tVar, tC, tOp, tUn, rI, rI0, rU, rEq, rNe, scal, tTest, tB, tAnd, tOr, tNot, tAndV, tOrV, tNotV, tIf, tChain, tNil, tCons, tCB, tCall, tTup, tLst, tRet, tRetN, tDrop, tSeq, tNext, tIfS, tAsg, gName, tPar, tPar3, gNil, gCons, gTup, gSub, tAug, tSl, tNoPart, tPart, tBM, tBM0, tYes, tIsP, iSeq, iEnumA, RZ.iZipA, iRng1, iRng2, iList, iTup, rIsi, rIsB, rIxL, rIxT, rIxA, rLenA, rListOf, rTupOf, rSetL, rSlL, rCat, rAppend, tFld, sFld, tMake, tBits, Int.ofNat_inj, cast1, cast0, TruV, cxOf, Cx.nox, Cx.wish, tNever, tBreak, tCont, ipI, tDIn, tDNotIn, sDPut, tDNewT, tDNewK, tDGet, rSortedPO, rSortedI, rIn, rEqD, rNeD, rInD, rNotInD, tSSet, rIsV, rIntI, rIntB, rAbsN, tLstRg, tRg1, tRg2, List.append_nil, List.nil_append, List.cons_append, Option.some.injEq, exists_eq_left', exists_eq_left, exists_eq_right, exists_eq_right', List.getElem?_cons_zero, List.getElem?_cons_succ, List.set_cons_zero, List.set_cons_succ, List.cons.injEq, and_true, true_and, exists_and_left, exists_and_right, and_assoc, V.int.injEq, V.bl.injEq, V.ref.injEq, V.str.injEq, reduceCtorEq, decide_true, decide_false, Bool.not_true, Bool.not_false, Bool.false_eq_true, if_false, if_true, ite_true, ite_false, List.length_cons, List.length_nil, tRaise, tErr, LamX.tLam, TTe])
      rintro ⟨v, e, k, z, g⟩
      exact ⟨v, e, k, z, m _ _ g⟩
def apartB (c w s0 s1 f0 f1 j0 j1 : Int) : Bool := decide (c * botI s1 f0 j1 ≤ topI w s0 f0 f1 j0 j1)
def sp_is_apart (K : PySem.W.Frag) : Sp := fun vs H Q _ => ∃ n w a b c s0 s1 f0 f1 j0 j1, vs = [.int n, .int w, .ref a, .ref b, .ref c] ∧ Sz 40 n ∧ ClkAt K H a b c w s0 s1 f0 f1 j0 j1 ∧ ∀ H', Same H H' → Q (.bl (apartB n w s0 s1 f0 f1 j0 j1)) H'
theorem ok_is_apart (T : Tx P K mg) : FnOk P w K mg base CX0 2 T.a_is_apart T.d_is_apart ["count", "wait", "slow", "fast", "journey"] (sp_is_apart K) := by
  refine T.F_is_apart.ok sc_is_apart (fun vs H Q E h => ?_) (fun cdv A outer s H vs Q E hr h => ?_)
  · obtain ⟨n, w, a, b, c, s0, s1, f0, f1, j0, j1, rfl, _⟩ := h
    rfl
  · obtain ⟨n, w, a, b, c, s0, s1, f0, f1, j0, j1, rfl, zn, C, q⟩ := h
    refine ⟨_, (pss_cons (ps_asg (pe_call (ok_spare T) (hr.mono (by decide)) (by rfl) T.g_spare T.F_spare.kp T.b_spare .nil pass0 (pa_cons (pv 1) (pa_cons (pv 2) (pa_cons (pv 3) (pa_cons (pv 4) pa_nil))))) (gtupK (K := K) (n := 2) rfl (by rfl) (pgs_cons (pg_name (i := 5) sc_is_apart.nd rfl (Or.inl rfl)) (pgs_cons (pg_name (i := 6) sc_is_apart.nd rfl (Or.inl rfl)) pgs_nil))))
      (pss_one (ps_ret (pe_cmpR op_le (pe_op op_mulW (pv 0) (pv 6)) (pv 5) (nomark _))))), ?_⟩
    rw [show L2.start ["count", "wait", "slow", "fast", "journey", "top", "bottom"] [.int n, .int w, .ref a, .ref b, .ref c] = [some (.int n), some (.int w), some (.ref a), some (.ref b), some (.ref c), none, none] from rfl]
    (try simp only [tVar, tC, tOp, tUn, rI, rI0, rU, rEq, rNe, scal, tTest, tB, tAnd, tOr, tNot, tAndV, tOrV, tNotV, tIf, tChain, tNil, tCons, tCB, tCall, tTup, tLst, tRet, tRetN, tDrop, tSeq, tNext, tIfS, tAsg, gName, tPar, tPar3, gNil, gCons, gTup, gSub, tAug, tSl, tNoPart, tPart, tBM, tBM0, tYes, tIsP, iSeq, iEnumA, RZ.iZipA, iRng1, iRng2, iList, iTup, rIsi, rIsB, rIxL, rIxT, rIxA, rLenA, rListOf, rTupOf, rSetL, rSlL, rCat, rAppend, tFld, sFld, tMake, tBits, Int.ofNat_inj, cast1, cast0, TruV, cxOf, Cx.nox, Cx.wish, tNever, tBreak, tCont, ipI, tDIn, tDNotIn, sDPut, tDNewT, tDNewK, tDGet, rSortedPO, rSortedI, rIn, rEqD, rNeD, rInD, rNotInD, tSSet, rIsV, rIntI, rIntB, rAbsN, tLstRg, tRg1, tRg2, List.append_nil, List.nil_append, List.cons_append, Option.some.injEq, exists_eq_left', exists_eq_left, exists_eq_right, exists_eq_right', List.getElem?_cons_zero, List.getElem?_cons_succ, List.set_cons_zero, List.set_cons_succ, List.cons.injEq, and_true, true_and, exists_and_left, exists_and_right, and_assoc, V.int.injEq, V.bl.injEq, V.ref.injEq, V.str.injEq, reduceCtorEq, decide_true, decide_false, Bool.not_true, Bool.not_false, Bool.false_eq_true, if_false, if_true, ite_true, ite_false, List.length_cons, List.length_nil, tRaise, tErr, LamX.tLam, TTe])
    refine ⟨a, b, c, w, s0, s1, f0, f1, j0, j1, rfl, C, fun p hp => ?_⟩
    exact ⟨_, rfl, _, .of upd_same, rfl, _, _, rfl, _, _, rfl, rfl, _, rfl, zn.mulW C.ck.bot_sz (by decide), _, rfl, q _ (same_new hp)⟩
end
end Kr
namespace Kr
open PySem PySem.Spec PyProof.Rows L2 Kb
section
variable {P : Program} {w : World} {K : PySem.W.Frag} {mg : Str → Option Value} {base : Heap}
theorem cnt_ok0 {H : Hp} {Q : VK} {E : XK} {l m i : Int} (h : l ≤ i) (g : i ≤ m) (q : Q .non H) : sp_need_count K [.int i, .int l, .int m] H Q E := ⟨i, l, m, rfl, ⟨h, g⟩, q⟩
/-- a lowest fraction's two numbers -/
def lowI (x y : Int) : Int × Int := (((x.toNat / Nat.gcd x.toNat y.toNat : Nat) : Int), ((y.toNat / Nat.gcd x.toNat y.toNat : Nat) : Int))
theorem low_i {H : Hp} {Q : VK} {E : XK} {x y : Int} (hx : 0 ≤ x) (hy : 0 < y) (zx : Sz 8000 x) (zy : Sz 8000 y) (q : ∀ p, H p = none → Q (.ref p) (upd H p (.tup [.int (lowI x y).1, .int (lowI x y).2]))) : sp_lowest K [.int x, .int y] H Q E := by
  obtain ⟨t, rfl⟩ := Int.eq_ofNat_of_zero_le hx
  obtain ⟨b, rfl⟩ := Int.eq_ofNat_of_zero_le (Int.le_of_lt hy)
  exact ⟨t, b, rfl, by omega, zx, zy, q⟩
/-- the hour that the paper tells -/
def ticksI (n w s0 s1 f0 f1 j0 j1 : Int) : Int := (if 0 > topI w s0 f0 f1 j0 j1 then 0 else topI w s0 f0 f1 j0 j1) + n * botI s1 f0 j1
def hourI (n w s0 s1 f0 f1 j0 j1 : Int) : Int × Int := lowI (ticksI n w s0 s1 f0 f1 j0 j1 * s1) (2 * botI s1 f0 j1 * s0)
theorem Clk.ticks_sz {n w s0 s1 f0 f1 j0 j1 : Int} (C : Clk w s0 s1 f0 f1 j0 j1) (zn : Sz 30 n) : Sz 122 (ticksI n w s0 s1 f0 f1 j0 j1) := by
  unfold ticksI
  refine Sz.add (n := 121) (m := 121) ?_ ((zn.mul C.bot_sz).mono (by decide))
  split
  · exact (szp (i := 0) (by decide) (by decide)).mono (by decide)
  · exact C.top_sz
theorem Clk.ticks_pos {n w s0 s1 f0 f1 j0 j1 : Int} (C : Clk w s0 s1 f0 f1 j0 j1) (hn : 1 ≤ n) : 0 ≤ ticksI n w s0 s1 f0 f1 j0 j1 := by
  unfold ticksI
  have := Int.mul_nonneg (a := n) (b := botI s1 f0 j1) (by omega) (by have := C.bot_pos; omega)
  split <;> omega
def sp_clock_paper (K : PySem.W.Frag) : Sp := fun vs H Q _ => ∃ n w a b c s0 s1 f0 f1 j0 j1, vs = [.int n, .int w, .ref a, .ref b, .ref c] ∧ (1 ≤ n ∧ n ≤ M9) ∧ ClkAt K H a b c w s0 s1 f0 f1 j0 j1 ∧
  (apartB n w s0 s1 f0 f1 j0 j1 = true → ∀ H' p, Same H H' → H' p = none → Q (.ref p) (upd H' p (.tup [.str "apart"]))) ∧
  (apartB n w s0 s1 f0 f1 j0 j1 = false → ∀ H' p t, Same H H' → H' p = none → SqT K H' t [.int (hourI n w s0 s1 f0 f1 j0 j1).1, .int (hourI n w s0 s1 f0 f1 j0 j1).2] → Q (.ref p) (upd H' p (.tup [.str "late", .ref t])))
theorem ok_clock_paper (T : Tx P K mg) : FnOk P w K mg base CX0 5 T.a_clock_paper T.d_clock_paper ["count", "wait", "slow", "fast", "journey"] (sp_clock_paper K) := by
  refine T.F_clock_paper.ok sc_clock_paper (fun vs H Q E h => ?_) (fun cdv A outer s H vs Q E hr h => ?_)
  · obtain ⟨n, w, a, b, c, s0, s1, f0, f1, j0, j1, rfl, _⟩ := h
    rfl
  · obtain ⟨n, w, a, b, c, s0, s1, f0, f1, j0, j1, rfl, ⟨n1, n2⟩, C, q0, q1⟩ := h
    refine ⟨_, (pss_cons (ps_expr (pe_call (ok_need_count T) (hr.mono (by decide)) (by rfl) T.g_need_count T.F_need_count.kp T.b_need_count .nil pass0 (pa_cons (pv 0) (pa_cons pe_int (pa_cons (pe_globI rfl T.g_MOST_TICKS) pa_nil)))))
      (pss_cons (ps_expr (pe_call (ok_need_clocks T) (hr.mono (by decide)) (by rfl) T.g_need_clocks T.F_need_clocks.kp T.b_need_clocks .nil pass0 (pa_cons (pv 1) (pa_cons (pv 2) (pa_cons (pv 3) (pa_cons (pv 4) pa_nil))))))
      (pss_cons (ps_if (pt_val (pe_call (ok_is_apart T) (hr.mono (by decide)) (by rfl) T.g_is_apart T.F_is_apart.kp T.b_is_apart .nil pass0 (pa_cons (pv 0) (pa_cons (pv 1) (pa_cons (pv 2) (pa_cons (pv 3) (pa_cons (pv 4) pa_nil))))))) (pss_one (ps_ret (pe_tup (pa_cons pe_str pa_nil)))) pss_nil)
      (pss_cons (ps_asg (pe_call (ok_spare T) (hr.mono (by decide)) (by rfl) T.g_spare T.F_spare.kp T.b_spare .nil pass0 (pa_cons (pv 1) (pa_cons (pv 2) (pa_cons (pv 3) (pa_cons (pv 4) pa_nil))))) (gtupK (K := K) (n := 2) rfl (by rfl) (pgs_cons (pg_name (i := 5) sc_clock_paper.nd rfl (Or.inl rfl)) (pgs_cons (pg_name (i := 6) sc_clock_paper.nd rfl (Or.inl rfl)) pgs_nil))))
      (pss_cons (ps_set (i := 7) sc_clock_paper.nd rfl (Or.inl rfl) (pe_op op_add (pe_callB (call_max2 rfl) (by rfl) T.n_max (by decide +kernel) (pa_cons (pv 5) (pa_cons pe_int pa_nil))) (pe_op op_mulW (pv 0) (pv 6))))
      (pss_one (ps_ret (pe_tup (pa_cons pe_str (pa_cons (pe_call (ok_lowest T) (hr.mono (by decide)) (by rfl) T.g_lowest T.F_lowest.kp T.b_lowest .nil pass0 (pa_cons (pe_op op_mulW (pv 7) (pe_ix (ixA (K := K) rfl) (pv 2) pe_int (fun _ _ => rfl))) (pa_cons (pe_op op_mulW (pe_op op_mulW pe_int (pv 6)) (pe_ix (ixA (K := K) rfl) (pv 2) pe_int (fun _ _ => rfl))) pa_nil))) pa_nil)))))))))), ?_⟩
    rw [show L2.start ["count", "wait", "slow", "fast", "journey", "top", "bottom", "ticks"] [.int n, .int w, .ref a, .ref b, .ref c] = [some (.int n), some (.int w), some (.ref a), some (.ref b), some (.ref c), none, none, none] from rfl]
    (try simp only [tVar, tC, tOp, tUn, rI, rI0, rU, rEq, rNe, scal, tTest, tB, tAnd, tOr, tNot, tAndV, tOrV, tNotV, tIf, tChain, tNil, tCons, tCB, tCall, tTup, tLst, tRet, tRetN, tDrop, tSeq, tNext, tIfS, tAsg, gName, tPar, tPar3, gNil, gCons, gTup, gSub, tAug, tSl, tNoPart, tPart, tBM, tBM0, tYes, tIsP, iSeq, iEnumA, RZ.iZipA, iRng1, iRng2, iList, iTup, rIsi, rIsB, rIxL, rIxT, rIxA, rLenA, rListOf, rTupOf, rSetL, rSlL, rCat, rAppend, tFld, sFld, tMake, tBits, Int.ofNat_inj, cast1, cast0, TruV, cxOf, Cx.nox, Cx.wish, tNever, tBreak, tCont, ipI, tDIn, tDNotIn, sDPut, tDNewT, tDNewK, tDGet, rSortedPO, rSortedI, rIn, rEqD, rNeD, rInD, rNotInD, tSSet, rIsV, rIntI, rIntB, rAbsN, tLstRg, tRg1, tRg2, List.append_nil, List.nil_append, List.cons_append, Option.some.injEq, exists_eq_left', exists_eq_left, exists_eq_right, exists_eq_right', List.getElem?_cons_zero, List.getElem?_cons_succ, List.set_cons_zero, List.set_cons_succ, List.cons.injEq, and_true, true_and, exists_and_left, exists_and_right, and_assoc, V.int.injEq, V.bl.injEq, V.ref.injEq, V.str.injEq, reduceCtorEq, decide_true, decide_false, Bool.not_true, Bool.not_false, Bool.false_eq_true, if_false, if_true, ite_true, ite_false, List.length_cons, List.length_nil, tRaise, tErr, LamX.tLam, TTe])
    have zn := szp (by omega) n2
    have K0 := C.ck
    refine cnt_ok0 n1 n2 ⟨_, _, _, _, _, _, _, _, _, _, rfl, C, ?_⟩
    refine ⟨n, w, a, b, c, s0, s1, f0, f1, j0, j1, rfl, zn.mono (by decide), C, fun H1 e1 => ?_⟩
    cases hb : apartB n w s0 s1 f0 f1 j0 j1 with
    | true => exact ⟨true, rfl, iteT ⟨by decide, fun p hp => q0 hb _ p e1 hp⟩⟩
    | false =>
      refine ⟨false, rfl, iteF ⟨a, b, c, w, s0, s1, f0, f1, j0, j1, rfl, C.same e1, fun p hp => ?_⟩⟩
      have C2 := (C.same e1).same (same_new (o := .tup [.int (topI w s0 f0 f1 j0 j1), .int (botI s1 f0 j1)]) hp)
      have zs0 := szp (by have := K0.s01; omega) K0.s02
      have zs1 := szp (by have := K0.s11; omega) K0.s12
      have z2 : Sz 2 2 := by
        show (2 : Int).natAbs < 2 ^ 2
        decide
      have bp := K0.bot_pos
      refine ⟨_, rfl, _, .of upd_same, rfl, _, _, rfl, _, _, rfl, rfl, _, rfl, _, rfl, zn.mulW K0.bot_sz (by decide), _, C2.ha, _, atI_nat (j := 1) rfl, _, rfl, (K0.ticks_sz zn).mulW zs1 (by decide), _, rfl, z2.mulW K0.bot_sz (by decide), _, C2.ha, _, atI_nat (j := 0) rfl, _, rfl, (z2.mul K0.bot_sz).mulW zs0 (by decide), ?_⟩
      have h1 := Int.mul_nonneg (K0.ticks_pos n1) (b := s1) (by have := K0.s11; omega)
      have h2 : 0 < 2 * botI s1 f0 j1 * s0 := Int.mul_pos (by omega) (by have := K0.s01; omega)
      refine low_i h1 h2 (((K0.ticks_sz zn).mul zs1).mono (by decide)) (((z2.mul K0.bot_sz).mul zs0).mono (by decide)) fun t ht => ⟨by decide, fun p3 hp3 => ?_⟩
      exact q1 hb _ p3 t (e1.trans ((same_new hp).trans (same_new ht))) hp3 (.inl (.inl upd_same))
def mostI (w s0 s1 f0 f1 j0 j1 : Int) : Int := if topI w s0 f0 f1 j0 j1 / botI s1 f0 j1 > 0 then topI w s0 f0 f1 j0 j1 / botI s1 f0 j1 else 0
def sp_greatest_count (K : PySem.W.Frag) : Sp := fun vs H Q _ => ∃ w a b c s0 s1 f0 f1 j0 j1, vs = [.int w, .ref a, .ref b, .ref c] ∧ ClkAt K H a b c w s0 s1 f0 f1 j0 j1 ∧ ∀ H', Same H H' → Q (.int (mostI w s0 s1 f0 f1 j0 j1)) H'
theorem ok_greatest_count (T : Tx P K mg) : FnOk P w K mg base CX0 5 T.a_greatest_count T.d_greatest_count ["wait", "slow", "fast", "journey"] (sp_greatest_count K) := by
  refine T.F_greatest_count.ok sc_greatest_count (fun vs H Q E h => ?_) (fun cdv A outer s H vs Q E hr h => ?_)
  · obtain ⟨w, a, b, c, s0, s1, f0, f1, j0, j1, rfl, _⟩ := h
    rfl
  · obtain ⟨w, a, b, c, s0, s1, f0, f1, j0, j1, rfl, C, q⟩ := h
    refine ⟨_, (pss_cons (ps_expr (pe_call (ok_need_clocks T) (hr.mono (by decide)) (by rfl) T.g_need_clocks T.F_need_clocks.kp T.b_need_clocks .nil pass0 (pa_cons (pv 0) (pa_cons (pv 1) (pa_cons (pv 2) (pa_cons (pv 3) pa_nil))))))
      (pss_cons (ps_asg (pe_call (ok_spare T) (hr.mono (by decide)) (by rfl) T.g_spare T.F_spare.kp T.b_spare .nil pass0 (pa_cons (pv 0) (pa_cons (pv 1) (pa_cons (pv 2) (pa_cons (pv 3) pa_nil))))) (gtupK (K := K) (n := 2) rfl (by rfl) (pgs_cons (pg_name (i := 4) sc_greatest_count.nd rfl (Or.inl rfl)) (pgs_cons (pg_name (i := 5) sc_greatest_count.nd rfl (Or.inl rfl)) pgs_nil))))
      (pss_one (ps_ret (pe_callB (call_max2 rfl) (by rfl) T.n_max (by decide +kernel) (pa_cons pe_int (pa_cons (pe_op op_fdivW (pv 4) (pv 5)) pa_nil))))))), ?_⟩
    rw [show L2.start ["wait", "slow", "fast", "journey", "top", "bottom"] [.int w, .ref a, .ref b, .ref c] = [some (.int w), some (.ref a), some (.ref b), some (.ref c), none, none] from rfl]
    (try simp only [tVar, tC, tOp, tUn, rI, rI0, rU, rEq, rNe, scal, tTest, tB, tAnd, tOr, tNot, tAndV, tOrV, tNotV, tIf, tChain, tNil, tCons, tCB, tCall, tTup, tLst, tRet, tRetN, tDrop, tSeq, tNext, tIfS, tAsg, gName, tPar, tPar3, gNil, gCons, gTup, gSub, tAug, tSl, tNoPart, tPart, tBM, tBM0, tYes, tIsP, iSeq, iEnumA, RZ.iZipA, iRng1, iRng2, iList, iTup, rIsi, rIsB, rIxL, rIxT, rIxA, rLenA, rListOf, rTupOf, rSetL, rSlL, rCat, rAppend, tFld, sFld, tMake, tBits, Int.ofNat_inj, cast1, cast0, TruV, cxOf, Cx.nox, Cx.wish, tNever, tBreak, tCont, ipI, tDIn, tDNotIn, sDPut, tDNewT, tDNewK, tDGet, rSortedPO, rSortedI, rIn, rEqD, rNeD, rInD, rNotInD, tSSet, rIsV, rIntI, rIntB, rAbsN, tLstRg, tRg1, tRg2, List.append_nil, List.nil_append, List.cons_append, Option.some.injEq, exists_eq_left', exists_eq_left, exists_eq_right, exists_eq_right', List.getElem?_cons_zero, List.getElem?_cons_succ, List.set_cons_zero, List.set_cons_succ, List.cons.injEq, and_true, true_and, exists_and_left, exists_and_right, and_assoc, V.int.injEq, V.bl.injEq, V.ref.injEq, V.str.injEq, reduceCtorEq, decide_true, decide_false, Bool.not_true, Bool.not_false, Bool.false_eq_true, if_false, if_true, ite_true, ite_false, List.length_cons, List.length_nil, tRaise, tErr, LamX.tLam, TTe])
    refine ⟨a, b, c, w, s0, s1, f0, f1, j0, j1, rfl, C, ?_⟩
    refine ⟨a, b, c, w, s0, s1, f0, f1, j0, j1, rfl, C, fun p hp => ?_⟩
    exact ⟨_, rfl, _, .of upd_same, rfl, _, _, rfl, _, _, rfl, rfl, _, rfl, _, rfl, C.ck.bot_sz.divW (by have := C.ck.bot_pos; omega) (by decide), q _ (same_new hp)⟩
end
end Kr
namespace Kr
open PySem PySem.Spec PyProof.Rows L2 Kb
section
variable {P : Program} {w : World} {K : PySem.W.Frag} {mg : Str → Option Value} {base : Heap}
/-! ### a value that may be a paper -/
inductive OC where
  | non
  | bl
  | pair (p q : Int)
inductive OthV (K : PySem.W.Frag) (H : Hp) : V → OC → Prop
  | noTup {x : V} {t : Value} : TyX K H x t → PySem.W.kitOne K t (.type "tuple") = some false → OthV K H x .non
  | len {a : Addr} {xs : List V} : SqT K H a xs → xs.length ≠ 2 → OthV K H (.ref a) .non
  | bl {a : Addr} {p : Int} {b : Bool} : SqT K H a [.int p, .bl b] → OthV K H (.ref a) .bl
  | pair {a : Addr} {p q : Int} : SqT K H a [.int p, .int q] → Sz 400 p → Sz 140 q → OthV K H (.ref a) (.pair p q)
inductive PC where
  | non
  | one (s : Str)
  | two (s : Str) (o : OC)
inductive PapV (K : PySem.W.Frag) (H : Hp) : V → PC → Prop
  | noTup {x : V} {t : Value} : TyX K H x t → PySem.W.kitOne K t (.type "tuple") = some false → PapV K H x .non
  | one {a : Addr} {s : Str} : SqT K H a [.str s] → PapV K H (.ref a) (.one s)
  | two {a : Addr} {s : Str} {y : V} {o : OC} : SqT K H a [.str s, y] → OthV K H y o → PapV K H (.ref a) (.two s o)
theorem TyX.same {H H' : Hp} {x : V} {t : Value} (e : Same H H') (h : TyX K H x t) : TyX K H' x t := by
  cases h with
  | base h =>
    refine .base ?_
    cases h with
    | non => exact .non
    | bl x => exact .bl x
    | int i => exact .int i
    | str x => exact .str x
    | flt x => exact .flt x
    | lst h => exact .lst (e _ _ h)
    | frz h => exact .frz (e _ _ h)
    | tup h => exact .tup (e _ _ h)
    | dK h => exact .dK (e _ _ h)
    | dT h => exact .dT (e _ _ h)
    | ins h a b c d f => exact .ins (e _ _ h) a b c d f
  | byt b => exact .byt b
  | set h => exact .set (e _ _ h)
  | kList h c => exact .kList h c
  | kTuple h c => exact .kTuple h c
  | kDict h c => exact .kDict h c
  | fTuple h => exact .fTuple (e _ _ h)
  | fDict h => exact .fDict (e _ _ h)
theorem OthV.same {H H' : Hp} {x : V} {o : OC} (e : Same H H') (h : OthV K H x o) : OthV K H' x o := by
  cases h with
  | noTup h1 h2 => exact .noTup (TyX.same e h1) h2
  | len h1 h2 => exact .len (Kb.Same.tup e h1) h2
  | bl h1 => exact .bl (Kb.Same.tup e h1)
  | pair h1 h2 h3 => exact .pair (Kb.Same.tup e h1) h2 h3
theorem PapV.same {H H' : Hp} {x : V} {o : PC} (e : Same H H') (h : PapV K H x o) : PapV K H' x o := by
  cases h with
  | noTup h1 h2 => exact .noTup (TyX.same e h1) h2
  | one h1 => exact .one (Kb.Same.tup e h1)
  | two h1 h2 => exact .two (Kb.Same.tup e h1) (h2.same e)
/-- two pairs of ints as data -/
def iD (p q : Int) : PyData := .tuple [.int p, .int q]
theorem dp_ii {H : Hp} {a : Addr} {p q : Int} (h : SqT K H a [.int p, .int q]) : Dp K H (.ref a) (iD p q) := .tup h (.cons (.int _) (.cons (.int _) .nil))
theorem sh_ii (p q : Int) : SeqAt.shaped (iD p q) = true := by
  simp [SeqAt.shaped, iD, PyData.canLay0, PyData.canLayAll0, PyData.depth, PyData.depthAll]
theorem eqv_ii (p q r s : Int) : PyData.eqv (iD p q) (iD r s) = (decide (p = r) && decide (q = s)) := by
  simp only [iD, PyData.eqv, PyData.eqvAll, Bool.and_true]
  rfl
/-- what the program answers -/
def lateB (n w s0 s1 f0 f1 j0 j1 p q : Int) : Bool := decide (0 ≤ p) && decide (1 ≤ q) && (decide ((lowI p q).1 = p) && decide ((lowI p q).2 = q)) && decide (p * s0 < n * s1 * q) && decide (p * s0 * botI s1 f0 j1 > topI w s0 f0 f1 j0 j1 * s1 * q)
def holdsB (n w s0 s1 f0 f1 j0 j1 : Int) : PC → Bool
  | .non => false
  | .one s => decide (s = ("apart" : Str)) && apartB n w s0 s1 f0 f1 j0 j1
  | .two s (.pair p q) => decide (s = ("late" : Str)) && lateB n w s0 s1 f0 f1 j0 j1 p q
  | .two _ _ => false
theorem pap_non {H : Hp} {Q : VK} {E : XK} {x : V} {t : Value} {l : Int} (h1 : TyX K H x t) (h2 : PySem.W.kitOne K t (.type "tuple") = some false) (q : Q (.bl false) H) : sp_is_paper K [x, .int l] H Q E := ⟨x, t, false, l, rfl, h1, h2, fun _ => q, fun z => nomatch z⟩
theorem pap_tup {H : Hp} {Q : VK} {E : XK} {a : Addr} {xs : List V} {l : Int} (h : SqT K H a xs) (q : Q (.bl (decide ((xs.length : Int) = l))) H) : sp_is_paper K [.ref a, .int l] H Q E := ⟨_, _, true, l, rfl, tyT h, rfl, (fun z => nomatch z), fun _ => ⟨a, xs, rfl, h, q⟩⟩
theorem word_s {H : Hp} {Q : VK} {E : XK} {y z : Str} (q : Q (.bl (decide (y = z))) H) : sp_is_word K [.str y, .str z] H Q E := ⟨_, _, true, z, rfl, .base (.str y), rfl, (fun z => nomatch z), fun _ => ⟨y, rfl, q⟩⟩
theorem isint_i {H : Hp} {Q : VK} {E : XK} {i : Int} (q : Q (.bl true) H) : sp_is_integer K [.int i] H Q E := ⟨_, _, true, false, rfl, tyInt i, rfl, rfl, q⟩
theorem isint_b {H : Hp} {Q : VK} {E : XK} {b : Bool} (q : Q (.bl false) H) : sp_is_integer K [.bl b] H Q E := ⟨_, _, true, true, rfl, .base (.bl b), rfl, rfl, q⟩
def sp_clock_holds (K : PySem.W.Frag) : Sp := fun vs H Q _ => ∃ n w a b c s0 s1 f0 f1 j0 j1 x o, vs = [.int n, .int w, .ref a, .ref b, .ref c, x] ∧ (1 ≤ n ∧ n ≤ M9) ∧ ClkAt K H a b c w s0 s1 f0 f1 j0 j1 ∧ PapV K H x o ∧ ∀ H', Same H H' → Q (.bl (holdsB n w s0 s1 f0 f1 j0 j1 o)) H'
theorem ok_clock_holds (T : Tx P K mg) : FnOk P w K mg base CX0 5 T.a_clock_holds T.d_clock_holds ["count", "wait", "slow", "fast", "journey", "value"] (sp_clock_holds K) := by
  refine T.F_clock_holds.ok sc_clock_holds (fun vs H Q E h => ?_) (fun cdv A outer s H vs Q E hr h => ?_)
  · obtain ⟨n, w, a, b, c, s0, s1, f0, f1, j0, j1, x, o, rfl, _⟩ := h
    rfl
  · obtain ⟨n, w, a, b, c, s0, s1, f0, f1, j0, j1, x, o, rfl, ⟨n1, n2⟩, C, hx, q⟩ := h
    refine ⟨_, (pss_cons (ps_expr (pe_call (ok_need_count T) (hr.mono (by decide)) (by rfl) T.g_need_count T.F_need_count.kp T.b_need_count .nil pass0 (pa_cons (pv 0) (pa_cons pe_int (pa_cons (pe_globI rfl T.g_MOST_TICKS) pa_nil)))))
      (pss_cons (ps_expr (pe_call (ok_need_clocks T) (hr.mono (by decide)) (by rfl) T.g_need_clocks T.F_need_clocks.kp T.b_need_clocks .nil pass0 (pa_cons (pv 1) (pa_cons (pv 2) (pa_cons (pv 3) (pa_cons (pv 4) pa_nil))))))
      (pss_cons (ps_if (PW.pt (pw_and (pt_val (pe_call (ok_is_paper T) (hr.mono (by decide)) (by rfl) T.g_is_paper T.F_is_paper.kp T.b_is_paper .nil pass0 (pa_cons (pv 5) (pa_cons pe_int pa_nil)))) (pw_and1 (pt_val (pe_call (ok_is_word T) (hr.mono (by decide)) (by rfl) T.g_is_word T.F_is_word.kp T.b_is_word .nil pass0 (pa_cons (pe_ix (ixT (K := K) rfl) (pv 5) pe_int (fun _ _ => rfl)) (pa_cons pe_str pa_nil))))))) (pss_one (ps_ret (pe_call (ok_is_apart T) (hr.mono (by decide)) (by rfl) T.g_is_apart T.F_is_apart.kp T.b_is_apart .nil pass0 (pa_cons (pv 0) (pa_cons (pv 1) (pa_cons (pv 2) (pa_cons (pv 3) (pa_cons (pv 4) pa_nil)))))))) pss_nil)
      (pss_cons (ps_if (PW.pt (pw_or (pt_not (pt_val (pe_call (ok_is_paper T) (hr.mono (by decide)) (by rfl) T.g_is_paper T.F_is_paper.kp T.b_is_paper .nil pass0 (pa_cons (pv 5) (pa_cons pe_int pa_nil))))) (pw_or (pt_not (pt_val (pe_call (ok_is_word T) (hr.mono (by decide)) (by rfl) T.g_is_word T.F_is_word.kp T.b_is_word .nil pass0 (pa_cons (pe_ix (ixT (K := K) rfl) (pv 5) pe_int (fun _ _ => rfl)) (pa_cons pe_str pa_nil))))) (pw_or1 (pt_not (pt_val (pe_call (ok_is_paper T) (hr.mono (by decide)) (by rfl) T.g_is_paper T.F_is_paper.kp T.b_is_paper .nil pass0 (pa_cons (pe_ix (ixT (K := K) rfl) (pv 5) pe_int (fun _ _ => rfl)) (pa_cons pe_int pa_nil))))))))) (pss_one (ps_ret pe_bl)) pss_nil)
      (pss_cons (ps_asg (pe_ix (ixT (K := K) rfl) (pv 5) pe_int (fun _ _ => rfl)) (gtupK (K := K) (n := 2) rfl (by rfl) (pgs_cons (pg_name (i := 6) sc_clock_holds.nd rfl (Or.inl rfl)) (pgs_cons (pg_name (i := 7) sc_clock_holds.nd rfl (Or.inl rfl)) pgs_nil))))
      (pss_cons (ps_if (PW.pt (pw_or (pt_not (pt_val (pe_call (ok_is_integer T) (hr.mono (by decide)) (by rfl) T.g_is_integer T.F_is_integer.kp T.b_is_integer .nil pass0 (pa_cons (pv 6) pa_nil)))) (pw_or (pt_not (pt_val (pe_call (ok_is_integer T) (hr.mono (by decide)) (by rfl) T.g_is_integer T.F_is_integer.kp T.b_is_integer .nil pass0 (pa_cons (pv 7) pa_nil)))) (pw_or (pt_cmpR op_lt (pv 6) pe_int (nomark _)) (pw_or (pt_cmpR op_lt (pv 7) pe_int (nomark _)) (pw_or1 (pt_cmpR (neDK (K := K) rfl hr.units) (pe_call (ok_lowest T) (hr.mono (by decide)) (by rfl) T.g_lowest T.F_lowest.kp T.b_lowest .nil pass0 (pa_cons (pv 6) (pa_cons (pv 7) pa_nil))) (pe_ix (ixT (K := K) rfl) (pv 5) pe_int (fun _ _ => rfl)) (nomark _)))))))) (pss_one (ps_ret pe_bl)) pss_nil)
      (pss_cons (ps_asg (pe_call (ok_spare T) (hr.mono (by decide)) (by rfl) T.g_spare T.F_spare.kp T.b_spare .nil pass0 (pa_cons (pv 1) (pa_cons (pv 2) (pa_cons (pv 3) (pa_cons (pv 4) pa_nil))))) (gtupK (K := K) (n := 2) rfl (by rfl) (pgs_cons (pg_name (i := 8) sc_clock_holds.nd rfl (Or.inl rfl)) (pgs_cons (pg_name (i := 9) sc_clock_holds.nd rfl (Or.inl rfl)) pgs_nil))))
      (pss_one (ps_ret (pe_and (pe_cmpR op_lt (pe_op op_mulW (pv 6) (pe_ix (ixA (K := K) rfl) (pv 2) pe_int (fun _ _ => rfl))) (pe_op op_mulW (pe_op op_mulW (pv 0) (pe_ix (ixA (K := K) rfl) (pv 2) pe_int (fun _ _ => rfl))) (pv 7)) (nomark _)) (pe_one (pe_cmpR op_gt (pe_op op_mulW (pe_op op_mulW (pv 6) (pe_ix (ixA (K := K) rfl) (pv 2) pe_int (fun _ _ => rfl))) (pv 9)) (pe_op op_mulW (pe_op op_mulW (pv 8) (pe_ix (ixA (K := K) rfl) (pv 2) pe_int (fun _ _ => rfl))) (pv 7)) (nomark _))))))))))))), ?_⟩
    rw [show L2.start ["count", "wait", "slow", "fast", "journey", "value", "sent", "bottom", "ticks", "parts"] [.int n, .int w, .ref a, .ref b, .ref c, x] = [some (.int n), some (.int w), some (.ref a), some (.ref b), some (.ref c), some (x), none, none, none, none] from rfl]
    (try simp only [tVar, tC, tOp, tUn, rI, rI0, rU, rEq, rNe, scal, tTest, tB, tAnd, tOr, tNot, tAndV, tOrV, tNotV, tIf, tChain, tNil, tCons, tCB, tCall, tTup, tLst, tRet, tRetN, tDrop, tSeq, tNext, tIfS, tAsg, gName, tPar, tPar3, gNil, gCons, gTup, gSub, tAug, tSl, tNoPart, tPart, tBM, tBM0, tYes, tIsP, iSeq, iEnumA, RZ.iZipA, iRng1, iRng2, iList, iTup, rIsi, rIsB, rIxL, rIxT, rIxA, rLenA, rListOf, rTupOf, rSetL, rSlL, rCat, rAppend, tFld, sFld, tMake, tBits, Int.ofNat_inj, cast1, cast0, TruV, cxOf, Cx.nox, Cx.wish, tNever, tBreak, tCont, ipI, tDIn, tDNotIn, sDPut, tDNewT, tDNewK, tDGet, rSortedPO, rSortedI, rIn, rEqD, rNeD, rInD, rNotInD, tSSet, rIsV, rIntI, rIntB, rAbsN, tLstRg, tRg1, tRg2, List.append_nil, List.nil_append, List.cons_append, Option.some.injEq, exists_eq_left', exists_eq_left, exists_eq_right, exists_eq_right', List.getElem?_cons_zero, List.getElem?_cons_succ, List.set_cons_zero, List.set_cons_succ, List.cons.injEq, and_true, true_and, exists_and_left, exists_and_right, and_assoc, V.int.injEq, V.bl.injEq, V.ref.injEq, V.str.injEq, reduceCtorEq, decide_true, decide_false, Bool.not_true, Bool.not_false, Bool.false_eq_true, if_false, if_true, ite_true, ite_false, List.length_cons, List.length_nil, tRaise, tErr, LamX.tLam, TTe])
    have zn := szp (by omega) n2
    have K0 := C.ck
    refine cnt_ok0 n1 n2 ⟨_, _, _, _, _, _, _, _, _, _, rfl, C, ?_⟩
    cases hx with
    | noTup h1 h2 =>
      refine pap_non h1 h2 ⟨false, rfl, iteF (pap_non h1 h2 ⟨false, rfl, iteT ?_⟩)⟩
      exact q _ (Same.refl _)
    | one h1 =>
      rename_i a s
      refine pap_tup h1 ⟨true, rfl, iteT ?_⟩
      cases hw : decide (s = ("apart" : Str)) with
      | true =>
        simp only [holdsB, hw, Bool.true_and] at q
        refine ⟨_, rfl, _, h1, _, atI_nat (j := 0) rfl, word_s ?_⟩
        rw [hw]
        exact ⟨true, rfl, iteT ⟨n, w, _, _, _, s0, s1, f0, f1, j0, j1, rfl, zn.mono (by decide), C, q⟩⟩
      | false =>
        simp only [holdsB, hw, Bool.false_and] at q
        refine ⟨_, rfl, _, h1, _, atI_nat (j := 0) rfl, word_s ?_⟩
        rw [hw]
        exact ⟨false, rfl, iteF (pap_tup h1 ⟨false, rfl, iteT (q _ (Same.refl _))⟩)⟩
    | two h1 h2 =>
      rename_i x s y o
      refine pap_tup h1 ⟨false, rfl, iteF (pap_tup h1 ⟨true, rfl, iteF ?_⟩)⟩
      refine ⟨_, rfl, _, h1, _, atI_nat (j := 0) rfl, word_s ?_⟩
      cases hw : decide (s = ("late" : Str)) with
      | false =>
        have hf : holdsB n w s0 s1 f0 f1 j0 j1 (.two s o) = false := by cases o <;> simp only [holdsB, hw, Bool.false_and]
        rw [hf] at q
        exact ⟨false, rfl, iteT (q _ (Same.refl _))⟩
      | true =>
        refine ⟨true, rfl, iteF ⟨_, rfl, _, h1, _, atI_nat (j := 1) rfl, ?_⟩⟩
        cases h2 with
        | noTup g1 g2 => exact pap_non g1 g2 ⟨false, rfl, iteT (q _ (Same.refl _))⟩
        | len g1 g2 => 
          refine pap_tup g1 ?_
          rw [decide_eq_false (by omega)]
          exact ⟨false, rfl, iteT (q _ (Same.refl _))⟩
        | bl g1 => 
          refine pap_tup g1 ⟨true, rfl, iteF ⟨_, rfl, _, h1, _, atI_nat (j := 1) rfl, _, rfl, _, g1, rfl, _, _, rfl, _, _, rfl, rfl, ?_⟩⟩
          exact isint_i ⟨true, rfl, iteF (isint_b ⟨false, rfl, iteT (q _ (Same.refl _))⟩)⟩
        | pair g1 zp zq =>
          simp only [holdsB, hw, Bool.true_and] at q
          refine pap_tup g1 ⟨true, rfl, iteF ⟨_, rfl, _, h1, _, atI_nat (j := 1) rfl, _, rfl, _, g1, rfl, _, _, rfl, _, _, rfl, rfl, ?_⟩⟩
          rename_i y p r
          refine isint_i ⟨true, rfl, iteF (isint_i ⟨true, rfl, iteF ⟨_, rfl, ?_⟩⟩)⟩
          by_cases p0 : p < 0
          · rw [decide_eq_true p0]
            rw [show lateB n w s0 s1 f0 f1 j0 j1 p r = false by unfold lateB; rw [decide_eq_false (p := 0 ≤ p) (by omega)]; rfl] at q
            exact iteT (q _ (Same.refl _))
          rw [decide_eq_false p0]
          refine iteF ⟨_, rfl, ?_⟩
          by_cases r0 : r < 1
          · rw [decide_eq_true r0]
            rw [show lateB n w s0 s1 f0 f1 j0 j1 p r = false by unfold lateB; rw [decide_eq_false (p := 1 ≤ r) (by omega), Bool.and_false]; rfl] at q
            exact iteT (q _ (Same.refl _))
          rw [decide_eq_false r0]
          refine iteF (low_i (by omega) (by omega) (zp.mono (by decide)) (zq.mono (by decide)) fun t ht => ?_)
          have e1 : Same H (upd H t (.tup [.int (lowI p r).1, .int (lowI p r).2])) := same_new ht
          refine ⟨_, rfl, _, Kb.Same.tup e1 h1, _, atI_nat (j := 1) rfl, _, dp_ii (.inl (.inl upd_same)), _, dp_ii (Kb.Same.tup e1 g1), sh_ii _ _, sh_ii _ _, ?_⟩
          rw [eqv_ii]
          unfold lateB at q
          rw [decide_eq_true (p := 0 ≤ p) (by omega), decide_eq_true (p := 1 ≤ r) (by omega)] at q
          cases hl : (decide ((lowI p r).1 = p) && decide ((lowI p r).2 = r)) with
          | false =>
            rw [hl] at q
            exact iteT (q _ e1)
          | true =>
            rw [hl] at q
            refine iteF ⟨a, b, c, w, s0, s1, f0, f1, j0, j1, rfl, C.same e1, fun m hm => ?_⟩
            have e2 := e1.trans (same_new (o := .tup [.int (topI w s0 f0 f1 j0 j1), .int (botI s1 f0 j1)]) hm)
            have C2 := C.same e2
            have zs0 := szp (by have := K0.s01; omega) K0.s02
            have zs1 := szp (by have := K0.s11; omega) K0.s12
            refine ⟨_, rfl, _, .of upd_same, rfl, _, _, rfl, _, _, rfl, rfl, _, C2.ha, _, atI_nat (j := 0) rfl, _, rfl, _, rfl, zp.mulW zs0 (by decide), _, C2.ha, _, atI_nat (j := 1) rfl, _, rfl, zn.mulW zs1 (by decide), _, rfl, (zn.mul zs1).mulW zq (by decide), ?_⟩
            cases hA : decide (p * s0 < n * s1 * r) with
            | false =>
              rw [hA] at q
              exact iteF (q _ e2)
            | true =>
              rw [hA] at q
              refine iteT ?_
              exact ⟨_, C2.ha, _, atI_nat (j := 0) rfl, _, rfl, _, rfl, zp.mulW zs0 (by decide), _, rfl, (zp.mul zs0).mulW K0.bot_sz (by decide), _, C2.ha, _, atI_nat (j := 1) rfl, _, rfl, _, rfl, K0.top_sz.mulW zs1 (by decide), _, rfl, (K0.top_sz.mul zs1).mulW zq (by decide), q _ e2⟩
/-! ### refusals -/
def RefC (CC CR : Addr) (K : PySem.W.Frag) (H : Hp) (E : XK) (wt sl fa jo : V) : Prop := ∃ k i, ClkV K H wt sl fa jo (some (k, i)) ∧ atE (bif k then CC else CR) i H E
def RefN (CC CR : Addr) (K : PySem.W.Frag) (H : Hp) (E : XK) (n wt sl fa jo : V) : Prop := (∃ o, AsInt K H n o ∧ between 1 M9 o = false ∧ atE CC (-1) H E) ∨ ∃ i, n = .int i ∧ 1 ≤ i ∧ i ≤ M9 ∧ RefC CC CR K H E wt sl fa jo
theorem refC {CC CR : Addr} {H : Hp} {Q : VK} {E : XK} {wt sl fa jo : V} (h : RefC CC CR K H E wt sl fa jo) : sp_need_clocksX CC CR K [wt, sl, fa, jo] H Q E := by
  obtain ⟨k, i, h1, h2⟩ := h
  refine ⟨_, _, _, _, _, rfl, h1, (fun z => nomatch z), fun j e => ?_, fun j e => ?_⟩ <;> (cases e; exact h2)
def sp_clock_paperX (CC CR : Addr) (K : PySem.W.Frag) : Sp := fun vs H _ E => ∃ n wt sl fa jo, vs = [n, wt, sl, fa, jo] ∧ RefN CC CR K H E n wt sl fa jo
theorem okx_clock_paper (T : Tx P K mg) : FnOk P w K mg base (L2.CX P w) 5 T.a_clock_paper T.d_clock_paper ["count", "wait", "slow", "fast", "journey"] (sp_clock_paperX T.c_InvalidCount T.c_InvalidRates K) := by
  refine T.F_clock_paper.okX sc_clock_paper (fun vs H Q E h => ?_) (fun cdv A outer s H vs Q E hr h => ?_)
  · obtain ⟨n, wt, sl, fa, jo, rfl, _⟩ := h
    rfl
  · obtain ⟨n, wt, sl, fa, jo, rfl, h⟩ := h
    refine ⟨_, (pss_cons (ps_expr (pe_call (okx_need_count T) (hr.mono (by decide)) (by rfl) T.g_need_count T.F_need_count.kp T.b_need_count .nil (passes_call (takes_of rfl rfl rfl rfl) fun _ _ _ _ h => h) (pa_cons (pv 0) (pa_cons pe_int (pa_cons (pe_globI rfl T.g_MOST_TICKS) pa_nil)))))
      (pss_cons (ps_expr (pe_call (okx_need_clocks T) (hr.mono (by decide)) (by rfl) T.g_need_clocks T.F_need_clocks.kp T.b_need_clocks .nil (passes_call (takes_of rfl rfl rfl rfl) fun _ _ _ _ h => h) (pa_cons (pv 1) (pa_cons (pv 2) (pa_cons (pv 3) (pa_cons (pv 4) pa_nil))))))
      (pss_cons (ps_if (pt_val (pe_call (ok_is_apart T) (hr.mono (by decide)) (by rfl) T.g_is_apart T.F_is_apart.kp T.b_is_apart .nil pass0 (pa_cons (pv 0) (pa_cons (pv 1) (pa_cons (pv 2) (pa_cons (pv 3) (pa_cons (pv 4) pa_nil))))))) (pss_one (ps_ret (pe_tup (pa_cons pe_str pa_nil)))) pss_nil)
      (pss_cons (ps_asg (pe_call (ok_spare T) (hr.mono (by decide)) (by rfl) T.g_spare T.F_spare.kp T.b_spare .nil pass0 (pa_cons (pv 1) (pa_cons (pv 2) (pa_cons (pv 3) (pa_cons (pv 4) pa_nil))))) (gtupK (K := K) (n := 2) rfl (by rfl) (pgs_cons (pg_name (i := 5) sc_clock_paper.nd rfl (Or.inl rfl)) (pgs_cons (pg_name (i := 6) sc_clock_paper.nd rfl (Or.inl rfl)) pgs_nil))))
      (pss_cons (ps_set (i := 7) sc_clock_paper.nd rfl (Or.inl rfl) (pe_op op_add (pe_callB (call_max2 rfl) (by rfl) T.n_max (by decide +kernel) (pa_cons (pv 5) (pa_cons pe_int pa_nil))) (pe_op op_mulW (pv 0) (pv 6))))
      (pss_one (ps_ret (pe_tup (pa_cons pe_str (pa_cons (pe_call (ok_lowest T) (hr.mono (by decide)) (by rfl) T.g_lowest T.F_lowest.kp T.b_lowest .nil pass0 (pa_cons (pe_op op_mulW (pv 7) (pe_ix (ixA (K := K) rfl) (pv 2) pe_int (fun _ _ => rfl))) (pa_cons (pe_op op_mulW (pe_op op_mulW pe_int (pv 6)) (pe_ix (ixA (K := K) rfl) (pv 2) pe_int (fun _ _ => rfl))) pa_nil))) pa_nil)))))))))), ?_⟩
    rw [show L2.start ["count", "wait", "slow", "fast", "journey", "top", "bottom", "ticks"] [n, wt, sl, fa, jo] = [some (n), some (wt), some (sl), some (fa), some (jo), none, none, none] from rfl]
    (try simp only [tVar, tC, tOp, tUn, rI, rI0, rU, rEq, rNe, scal, tTest, tB, tAnd, tOr, tNot, tAndV, tOrV, tNotV, tIf, tChain, tNil, tCons, tCB, tCall, tTup, tLst, tRet, tRetN, tDrop, tSeq, tNext, tIfS, tAsg, gName, tPar, tPar3, gNil, gCons, gTup, gSub, tAug, tSl, tNoPart, tPart, tBM, tBM0, tYes, tIsP, iSeq, iEnumA, RZ.iZipA, iRng1, iRng2, iList, iTup, rIsi, rIsB, rIxL, rIxT, rIxA, rLenA, rListOf, rTupOf, rSetL, rSlL, rCat, rAppend, tFld, sFld, tMake, tBits, Int.ofNat_inj, cast1, cast0, TruV, cxOf, Cx.nox, Cx.wish, tNever, tBreak, tCont, ipI, tDIn, tDNotIn, sDPut, tDNewT, tDNewK, tDGet, rSortedPO, rSortedI, rIn, rEqD, rNeD, rInD, rNotInD, tSSet, rIsV, rIntI, rIntB, rAbsN, tLstRg, tRg1, tRg2, List.append_nil, List.nil_append, List.cons_append, Option.some.injEq, exists_eq_left', exists_eq_left, exists_eq_right, exists_eq_right', List.getElem?_cons_zero, List.getElem?_cons_succ, List.set_cons_zero, List.set_cons_succ, List.cons.injEq, and_true, true_and, exists_and_left, exists_and_right, and_assoc, V.int.injEq, V.bl.injEq, V.ref.injEq, V.str.injEq, reduceCtorEq, decide_true, decide_false, Bool.not_true, Bool.not_false, Bool.false_eq_true, if_false, if_true, ite_true, ite_false, List.length_cons, List.length_nil, tRaise, tErr, LamX.tLam, TTe])
    rcases h with ⟨o, h1, h2, h3⟩ | ⟨i, rfl, h1, h2, h3⟩
    · exact cnt_no h1 h2 h3
    · exact cnt_ok h1 h2 (refC h3)
def sp_clock_holdsX (CC CR : Addr) (K : PySem.W.Frag) : Sp := fun vs H _ E => ∃ n wt sl fa jo x, vs = [n, wt, sl, fa, jo, x] ∧ RefN CC CR K H E n wt sl fa jo
theorem okx_clock_holds (T : Tx P K mg) : FnOk P w K mg base (L2.CX P w) 5 T.a_clock_holds T.d_clock_holds ["count", "wait", "slow", "fast", "journey", "value"] (sp_clock_holdsX T.c_InvalidCount T.c_InvalidRates K) := by
  refine T.F_clock_holds.okX sc_clock_holds (fun vs H Q E h => ?_) (fun cdv A outer s H vs Q E hr h => ?_)
  · obtain ⟨n, wt, sl, fa, jo, x, rfl, _⟩ := h
    rfl
  · obtain ⟨n, wt, sl, fa, jo, x, rfl, h⟩ := h
    refine ⟨_, (pss_cons (ps_expr (pe_call (okx_need_count T) (hr.mono (by decide)) (by rfl) T.g_need_count T.F_need_count.kp T.b_need_count .nil (passes_call (takes_of rfl rfl rfl rfl) fun _ _ _ _ h => h) (pa_cons (pv 0) (pa_cons pe_int (pa_cons (pe_globI rfl T.g_MOST_TICKS) pa_nil)))))
      (pss_cons (ps_expr (pe_call (okx_need_clocks T) (hr.mono (by decide)) (by rfl) T.g_need_clocks T.F_need_clocks.kp T.b_need_clocks .nil (passes_call (takes_of rfl rfl rfl rfl) fun _ _ _ _ h => h) (pa_cons (pv 1) (pa_cons (pv 2) (pa_cons (pv 3) (pa_cons (pv 4) pa_nil))))))
      (pss_cons (ps_if (PW.pt (pw_and (pt_val (pe_call (ok_is_paper T) (hr.mono (by decide)) (by rfl) T.g_is_paper T.F_is_paper.kp T.b_is_paper .nil pass0 (pa_cons (pv 5) (pa_cons pe_int pa_nil)))) (pw_and1 (pt_val (pe_call (ok_is_word T) (hr.mono (by decide)) (by rfl) T.g_is_word T.F_is_word.kp T.b_is_word .nil pass0 (pa_cons (pe_ix (ixT (K := K) rfl) (pv 5) pe_int (fun _ _ => rfl)) (pa_cons pe_str pa_nil))))))) (pss_one (ps_ret (pe_call (ok_is_apart T) (hr.mono (by decide)) (by rfl) T.g_is_apart T.F_is_apart.kp T.b_is_apart .nil pass0 (pa_cons (pv 0) (pa_cons (pv 1) (pa_cons (pv 2) (pa_cons (pv 3) (pa_cons (pv 4) pa_nil)))))))) pss_nil)
      (pss_cons (ps_if (PW.pt (pw_or (pt_not (pt_val (pe_call (ok_is_paper T) (hr.mono (by decide)) (by rfl) T.g_is_paper T.F_is_paper.kp T.b_is_paper .nil pass0 (pa_cons (pv 5) (pa_cons pe_int pa_nil))))) (pw_or (pt_not (pt_val (pe_call (ok_is_word T) (hr.mono (by decide)) (by rfl) T.g_is_word T.F_is_word.kp T.b_is_word .nil pass0 (pa_cons (pe_ix (ixT (K := K) rfl) (pv 5) pe_int (fun _ _ => rfl)) (pa_cons pe_str pa_nil))))) (pw_or1 (pt_not (pt_val (pe_call (ok_is_paper T) (hr.mono (by decide)) (by rfl) T.g_is_paper T.F_is_paper.kp T.b_is_paper .nil pass0 (pa_cons (pe_ix (ixT (K := K) rfl) (pv 5) pe_int (fun _ _ => rfl)) (pa_cons pe_int pa_nil))))))))) (pss_one (ps_ret pe_bl)) pss_nil)
      (pss_cons (ps_asg (pe_ix (ixT (K := K) rfl) (pv 5) pe_int (fun _ _ => rfl)) (gtupK (K := K) (n := 2) rfl (by rfl) (pgs_cons (pg_name (i := 6) sc_clock_holds.nd rfl (Or.inl rfl)) (pgs_cons (pg_name (i := 7) sc_clock_holds.nd rfl (Or.inl rfl)) pgs_nil))))
      (pss_cons (ps_if (PW.pt (pw_or (pt_not (pt_val (pe_call (ok_is_integer T) (hr.mono (by decide)) (by rfl) T.g_is_integer T.F_is_integer.kp T.b_is_integer .nil pass0 (pa_cons (pv 6) pa_nil)))) (pw_or (pt_not (pt_val (pe_call (ok_is_integer T) (hr.mono (by decide)) (by rfl) T.g_is_integer T.F_is_integer.kp T.b_is_integer .nil pass0 (pa_cons (pv 7) pa_nil)))) (pw_or (pt_cmpR op_lt (pv 6) pe_int (nomark _)) (pw_or (pt_cmpR op_lt (pv 7) pe_int (nomark _)) (pw_or1 (pt_cmpR (neDK (K := K) rfl hr.units) (pe_call (ok_lowest T) (hr.mono (by decide)) (by rfl) T.g_lowest T.F_lowest.kp T.b_lowest .nil pass0 (pa_cons (pv 6) (pa_cons (pv 7) pa_nil))) (pe_ix (ixT (K := K) rfl) (pv 5) pe_int (fun _ _ => rfl)) (nomark _)))))))) (pss_one (ps_ret pe_bl)) pss_nil)
      (pss_cons (ps_asg (pe_call (ok_spare T) (hr.mono (by decide)) (by rfl) T.g_spare T.F_spare.kp T.b_spare .nil pass0 (pa_cons (pv 1) (pa_cons (pv 2) (pa_cons (pv 3) (pa_cons (pv 4) pa_nil))))) (gtupK (K := K) (n := 2) rfl (by rfl) (pgs_cons (pg_name (i := 8) sc_clock_holds.nd rfl (Or.inl rfl)) (pgs_cons (pg_name (i := 9) sc_clock_holds.nd rfl (Or.inl rfl)) pgs_nil))))
      (pss_one (ps_ret (pe_and (pe_cmpR op_lt (pe_op op_mulW (pv 6) (pe_ix (ixA (K := K) rfl) (pv 2) pe_int (fun _ _ => rfl))) (pe_op op_mulW (pe_op op_mulW (pv 0) (pe_ix (ixA (K := K) rfl) (pv 2) pe_int (fun _ _ => rfl))) (pv 7)) (nomark _)) (pe_one (pe_cmpR op_gt (pe_op op_mulW (pe_op op_mulW (pv 6) (pe_ix (ixA (K := K) rfl) (pv 2) pe_int (fun _ _ => rfl))) (pv 9)) (pe_op op_mulW (pe_op op_mulW (pv 8) (pe_ix (ixA (K := K) rfl) (pv 2) pe_int (fun _ _ => rfl))) (pv 7)) (nomark _))))))))))))), ?_⟩
    rw [show L2.start ["count", "wait", "slow", "fast", "journey", "value", "sent", "bottom", "ticks", "parts"] [n, wt, sl, fa, jo, x] = [some (n), some (wt), some (sl), some (fa), some (jo), some (x), none, none, none, none] from rfl]
    (try simp only [tVar, tC, tOp, tUn, rI, rI0, rU, rEq, rNe, scal, tTest, tB, tAnd, tOr, tNot, tAndV, tOrV, tNotV, tIf, tChain, tNil, tCons, tCB, tCall, tTup, tLst, tRet, tRetN, tDrop, tSeq, tNext, tIfS, tAsg, gName, tPar, tPar3, gNil, gCons, gTup, gSub, tAug, tSl, tNoPart, tPart, tBM, tBM0, tYes, tIsP, iSeq, iEnumA, RZ.iZipA, iRng1, iRng2, iList, iTup, rIsi, rIsB, rIxL, rIxT, rIxA, rLenA, rListOf, rTupOf, rSetL, rSlL, rCat, rAppend, tFld, sFld, tMake, tBits, Int.ofNat_inj, cast1, cast0, TruV, cxOf, Cx.nox, Cx.wish, tNever, tBreak, tCont, ipI, tDIn, tDNotIn, sDPut, tDNewT, tDNewK, tDGet, rSortedPO, rSortedI, rIn, rEqD, rNeD, rInD, rNotInD, tSSet, rIsV, rIntI, rIntB, rAbsN, tLstRg, tRg1, tRg2, List.append_nil, List.nil_append, List.cons_append, Option.some.injEq, exists_eq_left', exists_eq_left, exists_eq_right, exists_eq_right', List.getElem?_cons_zero, List.getElem?_cons_succ, List.set_cons_zero, List.set_cons_succ, List.cons.injEq, and_true, true_and, exists_and_left, exists_and_right, and_assoc, V.int.injEq, V.bl.injEq, V.ref.injEq, V.str.injEq, reduceCtorEq, decide_true, decide_false, Bool.not_true, Bool.not_false, Bool.false_eq_true, if_false, if_true, ite_true, ite_false, List.length_cons, List.length_nil, tRaise, tErr, LamX.tLam, TTe])
    rcases h with ⟨o, h1, h2, h3⟩ | ⟨i, rfl, h1, h2, h3⟩
    · exact cnt_no h1 h2 h3
    · exact cnt_ok h1 h2 (refC h3)
def sp_greatest_countX (CC CR : Addr) (K : PySem.W.Frag) : Sp := fun vs H _ E => ∃ wt sl fa jo, vs = [wt, sl, fa, jo] ∧ RefC CC CR K H E wt sl fa jo
theorem okx_greatest_count (T : Tx P K mg) : FnOk P w K mg base (L2.CX P w) 5 T.a_greatest_count T.d_greatest_count ["wait", "slow", "fast", "journey"] (sp_greatest_countX T.c_InvalidCount T.c_InvalidRates K) := by
  refine T.F_greatest_count.okX sc_greatest_count (fun vs H Q E h => ?_) (fun cdv A outer s H vs Q E hr h => ?_)
  · obtain ⟨wt, sl, fa, jo, rfl, _⟩ := h
    rfl
  · obtain ⟨wt, sl, fa, jo, rfl, h⟩ := h
    refine ⟨_, (pss_cons (ps_expr (pe_call (okx_need_clocks T) (hr.mono (by decide)) (by rfl) T.g_need_clocks T.F_need_clocks.kp T.b_need_clocks .nil (passes_call (takes_of rfl rfl rfl rfl) fun _ _ _ _ h => h) (pa_cons (pv 0) (pa_cons (pv 1) (pa_cons (pv 2) (pa_cons (pv 3) pa_nil))))))
      (pss_cons (ps_asg (pe_call (ok_spare T) (hr.mono (by decide)) (by rfl) T.g_spare T.F_spare.kp T.b_spare .nil pass0 (pa_cons (pv 0) (pa_cons (pv 1) (pa_cons (pv 2) (pa_cons (pv 3) pa_nil))))) (gtupK (K := K) (n := 2) rfl (by rfl) (pgs_cons (pg_name (i := 4) sc_greatest_count.nd rfl (Or.inl rfl)) (pgs_cons (pg_name (i := 5) sc_greatest_count.nd rfl (Or.inl rfl)) pgs_nil))))
      (pss_one (ps_ret (pe_callB (call_max2 rfl) (by rfl) T.n_max (by decide +kernel) (pa_cons pe_int (pa_cons (pe_op op_fdivW (pv 4) (pv 5)) pa_nil))))))), ?_⟩
    rw [show L2.start ["wait", "slow", "fast", "journey", "top", "bottom"] [wt, sl, fa, jo] = [some (wt), some (sl), some (fa), some (jo), none, none] from rfl]
    (try simp only [tVar, tC, tOp, tUn, rI, rI0, rU, rEq, rNe, scal, tTest, tB, tAnd, tOr, tNot, tAndV, tOrV, tNotV, tIf, tChain, tNil, tCons, tCB, tCall, tTup, tLst, tRet, tRetN, tDrop, tSeq, tNext, tIfS, tAsg, gName, tPar, tPar3, gNil, gCons, gTup, gSub, tAug, tSl, tNoPart, tPart, tBM, tBM0, tYes, tIsP, iSeq, iEnumA, RZ.iZipA, iRng1, iRng2, iList, iTup, rIsi, rIsB, rIxL, rIxT, rIxA, rLenA, rListOf, rTupOf, rSetL, rSlL, rCat, rAppend, tFld, sFld, tMake, tBits, Int.ofNat_inj, cast1, cast0, TruV, cxOf, Cx.nox, Cx.wish, tNever, tBreak, tCont, ipI, tDIn, tDNotIn, sDPut, tDNewT, tDNewK, tDGet, rSortedPO, rSortedI, rIn, rEqD, rNeD, rInD, rNotInD, tSSet, rIsV, rIntI, rIntB, rAbsN, tLstRg, tRg1, tRg2, List.append_nil, List.nil_append, List.cons_append, Option.some.injEq, exists_eq_left', exists_eq_left, exists_eq_right, exists_eq_right', List.getElem?_cons_zero, List.getElem?_cons_succ, List.set_cons_zero, List.set_cons_succ, List.cons.injEq, and_true, true_and, exists_and_left, exists_and_right, and_assoc, V.int.injEq, V.bl.injEq, V.ref.injEq, V.str.injEq, reduceCtorEq, decide_true, decide_false, Bool.not_true, Bool.not_false, Bool.false_eq_true, if_false, if_true, ite_true, ite_false, List.length_cons, List.length_nil, tRaise, tErr, LamX.tLam, TTe])
    exact refC h
end
end Kr
namespace Kr
open PySem PySem.Spec PyProof.Rows L2 Kb
section
variable {P : Program} {w : World} {K : PySem.W.Frag} {mg : Str → Option Value} {base : Heap}
/-! ### the law's own greatest common part -/
theorem euc_step {x y : Nat} {i : Nat} (hy : 0 < y) (hxy : y ≤ x) (h : x * y * 2 ^ i < 2 ^ 280) : y * (x % y) * 2 ^ (i + 1) < 2 ^ 280 := by
  have h1 : x % y < y := Nat.mod_lt _ hy
  have h2 : y + x % y ≤ x := by
    have h3 := Nat.div_add_mod x y
    have h4 : 1 ≤ x / y := (Nat.one_le_div_iff hy).mpr hxy
    have h5 : y * 1 ≤ y * (x / y) := Nat.mul_le_mul_left y h4
    omega
  have h3 : y * (x % y) * 2 ≤ x * y := by
    rw [Nat.mul_assoc, Nat.mul_comm x y]
    exact Nat.mul_le_mul_left y (by omega)
  refine Nat.lt_of_le_of_lt ?_ h
  rw [Nat.pow_succ', ← Nat.mul_assoc]
  exact Nat.mul_le_mul_right _ h3
def EucI (t b i x y : Nat) : Prop := Nat.gcd x y = Nat.gcd t b ∧ ((i = 0 ∧ x = t ∧ y = b) ∨ (1 ≤ i ∧ 0 < x ∧ y ≤ x ∧ x * y * 2 ^ (i - 1) < 2 ^ 280))
theorem EucI.step {t b i x y : Nat} (h : EucI t b i x y) (hb : b < 2 ^ 140) (hy : 0 < y) : EucI t b (i + 1) y (x % y) := by
  obtain ⟨g, h⟩ := h
  have hm : x % y < y := Nat.mod_lt _ hy
  refine ⟨by rw [Nat.gcd_comm, ← Nat.gcd_rec, Nat.gcd_comm]; exact g, .inr ⟨by omega, hy, by omega, ?_⟩⟩
  rcases h with ⟨rfl, rfl, rfl⟩ | ⟨i1, x0, hxy, hp⟩
  · show y * (x % y) * 1 < 2 ^ 280
    have h1 : y * (x % y) < 2 ^ 140 * 2 ^ 140 := Nat.mul_lt_mul_of_lt_of_lt hb (by omega)
    rw [Nat.mul_one]
    exact h1
  · have := euc_step (i := i - 1) hy hxy hp
    rw [show i + 1 - 1 = i - 1 + 1 by omega]
    exact this
theorem EucI.stay {t b i x : Nat} (h : EucI t b i x 0) (hb : 0 < b) : EucI t b (i + 1) x 0 := by
  obtain ⟨g, h⟩ := h
  rcases h with ⟨_, _, e⟩ | ⟨i1, x0, hxy, hp⟩
  · omega
  · exact ⟨g, .inr ⟨by omega, x0, hxy, by rw [Nat.mul_zero, Nat.zero_mul]; exact Nat.two_pow_pos 280⟩⟩
theorem EucI.done {t b x y : Nat} (h : EucI t b 300 x y) : y = 0 ∧ x = Nat.gcd t b ∧ 0 < x := by
  obtain ⟨g, h⟩ := h
  rcases h with ⟨e, _⟩ | ⟨_, x0, hxy, hp⟩
  · cases e
  · have y0 : y = 0 := by
      rcases Nat.eq_zero_or_pos y with e | e
      · exact e
      · have h1 : 1 * 2 ^ 299 ≤ x * y * 2 ^ (300 - 1) := Nat.mul_le_mul_right _ (Nat.mul_pos x0 e)
        have h2 : 2 ^ 280 ≤ 1 * 2 ^ 299 := by rw [Nat.one_mul]; exact Nat.pow_le_pow_right (by decide) (by decide)
        exact absurd hp (Nat.not_lt.mpr (Nat.le_trans h2 h1))
    subst y0
    exact ⟨rfl, by rw [← g, Nat.gcd_zero_right], x0⟩
def sp_law_low (K : PySem.W.Frag) : Sp := fun vs H Q _ => ∃ x y : Int, vs = [.int x, .int y] ∧ 0 ≤ x ∧ 0 < y ∧ Sz 140 y ∧ ∀ p, H p = none → Q (.ref p) (upd H p (.tup [.int (lowI x y).1, .int (lowI x y).2]))
theorem ok__law_low (T : Tx P K mg) : FnOk P w K mg base CX0 1 T.a__law_low T.d__law_low ["one", "other"] (sp_law_low K) := by
  refine T.F__law_low.ok sc__law_low (fun vs H Q E h => ?_) (fun cdv A outer s H vs Q E hr h => ?_)
  · obtain ⟨x, y, rfl, _⟩ := h
    rfl
  · obtain ⟨x, y, rfl, hx, hy, zy, q⟩ := h
    obtain ⟨t, rfl⟩ := Int.eq_ofNat_of_zero_le hx
    obtain ⟨b, rfl⟩ := Int.eq_ofNat_of_zero_le (Int.le_of_lt hy)
    have hb : b < 2 ^ 140 := zy
    refine ⟨_, (pss_cons (ps_par (i := 2) (j := 3) (by rfl) sc__law_low.nd rfl rfl (by decide) rfl rfl (pa_cons (pv 0) (pa_cons (pv 1) pa_nil)) (by rfl))
      (pss_cons (ps_for PassesOwn.never rfl (pi_range1 (by rfl) T.n_range (pa_cons pe_int pa_nil)) (pg_name (i := 4) sc__law_low.nd rfl (Or.inl rfl)) (pss_one (ps_if (pt_cmpR op_gt (pv 3) pe_int (nomark _)) (pss_cons (ps_set (i := 5) sc__law_low.nd rfl (Or.inl rfl) (pe_op op_mod (pe_callTy callIntI (by rfl) T.n_int (by decide +kernel) (pa_cons (pv 2) pa_nil)) (pv 3)))
      (pss_one (ps_par (i := 2) (j := 3) (by rfl) sc__law_low.nd rfl rfl (by decide) rfl rfl (pa_cons (pv 3) (pa_cons (pv 5) pa_nil)) (by rfl)))) pss_nil)))
      (pss_one (ps_ret (pe_tup (pa_cons (pe_op op_fdivW (pv 0) (pv 2)) (pa_cons (pe_op op_fdivW (pv 1) (pv 2)) pa_nil))))))), ?_⟩
    rw [show L2.start ["one", "other", "top", "bottom", "turn", "rest"] [nv t, nv b] = [some (nv t), some (nv b), none, none, none, none] from rfl]
    generalize hF1 : tFor _ _ _ = F1
    (try simp only [tVar, tC, tOp, tUn, rI, rI0, rU, rEq, rNe, scal, tTest, tB, tAnd, tOr, tNot, tAndV, tOrV, tNotV, tIf, tChain, tNil, tCons, tCB, tCall, tTup, tLst, tRet, tRetN, tDrop, tSeq, tNext, tIfS, tAsg, gName, tPar, tPar3, gNil, gCons, gTup, gSub, tAug, tSl, tNoPart, tPart, tBM, tBM0, tYes, tIsP, iSeq, iEnumA, RZ.iZipA, iRng1, iRng2, iList, iTup, rIsi, rIsB, rIxL, rIxT, rIxA, rLenA, rListOf, rTupOf, rSetL, rSlL, rCat, rAppend, tFld, sFld, tMake, tBits, Int.ofNat_inj, cast1, cast0, TruV, cxOf, Cx.nox, Cx.wish, tNever, tBreak, tCont, ipI, tDIn, tDNotIn, sDPut, tDNewT, tDNewK, tDGet, rSortedPO, rSortedI, rIn, rEqD, rNeD, rInD, rNotInD, tSSet, rIsV, rIntI, rIntB, rAbsN, tLstRg, tRg1, tRg2, List.append_nil, List.nil_append, List.cons_append, Option.some.injEq, exists_eq_left', exists_eq_left, exists_eq_right, exists_eq_right', List.getElem?_cons_zero, List.getElem?_cons_succ, List.set_cons_zero, List.set_cons_succ, List.cons.injEq, and_true, true_and, exists_and_left, exists_and_right, and_assoc, V.int.injEq, V.bl.injEq, V.ref.injEq, V.str.injEq, reduceCtorEq, decide_true, decide_false, Bool.not_true, Bool.not_false, Bool.false_eq_true, if_false, if_true, ite_true, ite_false, List.length_cons, List.length_nil, tRaise, tErr, LamX.tLam, TTe])
    subst hF1
    obtain ⟨Pv, hPv⟩ : ∃ Pv : Nat → L2.St → Hp → Prop, ∀ i σ' H', Pv i σ' H' = (∃ x y : Nat, ∃ y4 y5, σ' = [some (nv t), some (nv b), some (nv x), some (nv y), y4, y5] ∧ H' = H ∧ EucI t b i x y) := ⟨_, fun _ _ _ => rfl⟩
    refine forR1 300 Pv (fun R h => by (try simp only [tVar, tC, tOp, tUn, rI, rI0, rU, rEq, rNe, scal, tTest, tB, tAnd, tOr, tNot, tAndV, tOrV, tNotV, tIf, tChain, tNil, tCons, tCB, tCall, tTup, tLst, tRet, tRetN, tDrop, tSeq, tNext, tIfS, tAsg, gName, tPar, tPar3, gNil, gCons, gTup, gSub, tAug, tSl, tNoPart, tPart, tBM, tBM0, tYes, tIsP, iSeq, iEnumA, RZ.iZipA, iRng1, iRng2, iList, iTup, rIsi, rIsB, rIxL, rIxT, rIxA, rLenA, rListOf, rTupOf, rSetL, rSlL, rCat, rAppend, tFld, sFld, tMake, tBits, Int.ofNat_inj, cast1, cast0, TruV, cxOf, Cx.nox, Cx.wish, tNever, tBreak, tCont, ipI, tDIn, tDNotIn, sDPut, tDNewT, tDNewK, tDGet, rSortedPO, rSortedI, rIn, rEqD, rNeD, rInD, rNotInD, tSSet, rIsV, rIntI, rIntB, rAbsN, tLstRg, tRg1, tRg2, List.append_nil, List.nil_append, List.cons_append, Option.some.injEq, exists_eq_left', exists_eq_left, exists_eq_right, exists_eq_right', List.getElem?_cons_zero, List.getElem?_cons_succ, List.set_cons_zero, List.set_cons_succ, List.cons.injEq, and_true, true_and, exists_and_left, exists_and_right, and_assoc, V.int.injEq, V.bl.injEq, V.ref.injEq, V.str.injEq, reduceCtorEq, decide_true, decide_false, Bool.not_true, Bool.not_false, Bool.false_eq_true, if_false, if_true, ite_true, ite_false, List.length_cons, List.length_nil, tRaise, tErr, LamX.tLam, TTe]); exact h) (by omega) (by rw [hPv]; exact ⟨t, b, _, _, rfl, rfl, rfl, .inl ⟨rfl, rfl, rfl⟩⟩) (fun i σ' H' hi z => ?_) (fun σ' H' z => ?_)
    · rw [hPv] at z
      obtain ⟨x, y, y4, y5, rfl, rfl, z⟩ := z
      (try simp only [tVar, tC, tOp, tUn, rI, rI0, rU, rEq, rNe, scal, tTest, tB, tAnd, tOr, tNot, tAndV, tOrV, tNotV, tIf, tChain, tNil, tCons, tCB, tCall, tTup, tLst, tRet, tRetN, tDrop, tSeq, tNext, tIfS, tAsg, gName, tPar, tPar3, gNil, gCons, gTup, gSub, tAug, tSl, tNoPart, tPart, tBM, tBM0, tYes, tIsP, iSeq, iEnumA, RZ.iZipA, iRng1, iRng2, iList, iTup, rIsi, rIsB, rIxL, rIxT, rIxA, rLenA, rListOf, rTupOf, rSetL, rSlL, rCat, rAppend, tFld, sFld, tMake, tBits, Int.ofNat_inj, cast1, cast0, TruV, cxOf, Cx.nox, Cx.wish, tNever, tBreak, tCont, ipI, tDIn, tDNotIn, sDPut, tDNewT, tDNewK, tDGet, rSortedPO, rSortedI, rIn, rEqD, rNeD, rInD, rNotInD, tSSet, rIsV, rIntI, rIntB, rAbsN, tLstRg, tRg1, tRg2, List.append_nil, List.nil_append, List.cons_append, Option.some.injEq, exists_eq_left', exists_eq_left, exists_eq_right, exists_eq_right', List.getElem?_cons_zero, List.getElem?_cons_succ, List.set_cons_zero, List.set_cons_succ, List.cons.injEq, and_true, true_and, exists_and_left, exists_and_right, and_assoc, V.int.injEq, V.bl.injEq, V.ref.injEq, V.str.injEq, reduceCtorEq, decide_true, decide_false, Bool.not_true, Bool.not_false, Bool.false_eq_true, if_false, if_true, ite_true, ite_false, List.length_cons, List.length_nil, tRaise, tErr, LamX.tLam, TTe])
      by_cases hy : y = 0
      · subst hy
        refine iteF ?_
        rw [hPv]
        exact ⟨x, 0, _, _, rfl, rfl, z.stay (by omega)⟩
      · rw [decide_eq_true (show (0 : Int) < (y : Int) by omega)]
        refine iteT ⟨by omega, ?_⟩
        rw [hPv, show V.int ((x : Int) % (y : Int)) = nv (x % y) from congrArg V.int (Int.natCast_emod x y).symm]
        exact ⟨y, x % y, _, _, rfl, rfl, z.step hb (by omega)⟩
    · rw [hPv] at z
      obtain ⟨x, y, y4, y5, rfl, rfl, z⟩ := z
      obtain ⟨rfl, rfl, x0⟩ := z.done
      (try simp only [tVar, tC, tOp, tUn, rI, rI0, rU, rEq, rNe, scal, tTest, tB, tAnd, tOr, tNot, tAndV, tOrV, tNotV, tIf, tChain, tNil, tCons, tCB, tCall, tTup, tLst, tRet, tRetN, tDrop, tSeq, tNext, tIfS, tAsg, gName, tPar, tPar3, gNil, gCons, gTup, gSub, tAug, tSl, tNoPart, tPart, tBM, tBM0, tYes, tIsP, iSeq, iEnumA, RZ.iZipA, iRng1, iRng2, iList, iTup, rIsi, rIsB, rIxL, rIxT, rIxA, rLenA, rListOf, rTupOf, rSetL, rSlL, rCat, rAppend, tFld, sFld, tMake, tBits, Int.ofNat_inj, cast1, cast0, TruV, cxOf, Cx.nox, Cx.wish, tNever, tBreak, tCont, ipI, tDIn, tDNotIn, sDPut, tDNewT, tDNewK, tDGet, rSortedPO, rSortedI, rIn, rEqD, rNeD, rInD, rNotInD, tSSet, rIsV, rIntI, rIntB, rAbsN, tLstRg, tRg1, tRg2, List.append_nil, List.nil_append, List.cons_append, Option.some.injEq, exists_eq_left', exists_eq_left, exists_eq_right, exists_eq_right', List.getElem?_cons_zero, List.getElem?_cons_succ, List.set_cons_zero, List.set_cons_succ, List.cons.injEq, and_true, true_and, exists_and_left, exists_and_right, and_assoc, V.int.injEq, V.bl.injEq, V.ref.injEq, V.str.injEq, reduceCtorEq, decide_true, decide_false, Bool.not_true, Bool.not_false, Bool.false_eq_true, if_false, if_true, ite_true, ite_false, List.length_cons, List.length_nil, tRaise, tErr, LamX.tLam, TTe])
      have gp : (0 : Int) < ((Nat.gcd t b : Nat) : Int) := by omega
      have g1 : Nat.gcd t b ≤ b := Nat.le_of_dvd (by omega) (Nat.gcd_dvd_right t b)
      have zg : Sz 140 ((Nat.gcd t b : Nat) : Int) := zy.le (by rw [Int.natAbs_natCast, Int.natAbs_natCast]; exact g1)
      refine ⟨zg.divW gp (by decide), zg.divW gp (by decide), by decide, fun p hp => ?_⟩
      rw [← Int.natCast_ediv, ← Int.natCast_ediv]
      exact q p hp
/-! ### the law's own inequality -/
/-- right clocks, tuples -/
structure ClkT (K : PySem.W.Frag) (H : Hp) (a b c : Addr) (w s0 s1 f0 f1 j0 j1 : Int) : Prop where
  ha : SqT K H a [.int s0, .int s1]
  hb : SqT K H b [.int f0, .int f1]
  hc : SqT K H c [.int j0, .int j1]
  ck : Clk w s0 s1 f0 f1 j0 j1
theorem ClkT.same {H H' : Hp} {a b c : Addr} {w s0 s1 f0 f1 j0 j1 : Int} (e : Same H H') (h : ClkT K H a b c w s0 s1 f0 f1 j0 j1) : ClkT K H' a b c w s0 s1 f0 f1 j0 j1 := ⟨Kb.Same.tup e h.ha, Kb.Same.tup e h.hb, Kb.Same.tup e h.hc, h.ck⟩
theorem ClkT.at {H : Hp} {a b c : Addr} {w s0 s1 f0 f1 j0 j1 : Int} (h : ClkT K H a b c w s0 s1 f0 f1 j0 j1) : ClkAt K H a b c w s0 s1 f0 f1 j0 j1 := ⟨.inr h.ha, .inr h.hb, .inr h.hc, h.ck⟩
theorem apart_eq (n w s0 s1 f0 f1 j0 j1 : Int) : decide ((n * s1 * j1 + j0 * s0) * f0 ≤ w * f1 * s0 * j1) = apartB n w s0 s1 f0 f1 j0 j1 := by
  unfold apartB topI botI
  refine decide_eq_decide.mpr ?_
  have h : w * f1 * s0 * j1 - (n * s1 * j1 + j0 * s0) * f0 = s0 * (w * f1 * j1 - j0 * f0) - n * (s1 * f0 * j1) := by grind
  omega
theorem late_eq {w s0 s1 f0 f1 j0 j1 : Int} (p q : Int) (h0 : 0 < s0) (h1 : 0 < s1) : decide ((p * j1 + j0 * q) * f0 > w * f1 * q * j1) = decide (p * s0 * botI s1 f0 j1 > topI w s0 f0 f1 j0 j1 * s1 * q) := by
  unfold topI botI
  refine decide_eq_decide.mpr ?_
  have hs : 0 < s0 * s1 := Int.mul_pos h0 h1
  have h : p * s0 * (s1 * f0 * j1) - s0 * (w * f1 * j1 - j0 * f0) * s1 * q = (s0 * s1) * ((p * j1 + j0 * q) * f0 - w * f1 * q * j1) := by grind
  constructor
  · intro h2
    have := Int.mul_pos hs (show 0 < (p * j1 + j0 * q) * f0 - w * f1 * q * j1 by omega)
    omega
  · intro h2
    have h3 : 0 < (s0 * s1) * ((p * j1 + j0 * q) * f0 - w * f1 * q * j1) := by omega
    have := Int.pos_of_mul_pos_right h3 hs
    omega
def sp_law_apart (K : PySem.W.Frag) : Sp := fun vs H Q _ => ∃ n w a b c s0 s1 f0 f1 j0 j1, vs = [.int n, .int w, .ref a, .ref b, .ref c] ∧ Sz 40 n ∧ ClkT K H a b c w s0 s1 f0 f1 j0 j1 ∧ Q (.bl (apartB n w s0 s1 f0 f1 j0 j1)) H
theorem ok__law_apart (T : Tx P K mg) : FnOk P w K mg base CX0 1 T.a__law_apart T.d__law_apart ["count", "wait", "slow", "fast", "journey"] (sp_law_apart K) := by
  refine T.F__law_apart.ok sc__law_apart (fun vs H Q E h => ?_) (fun cdv A outer s H vs Q E hr h => ?_)
  · obtain ⟨n, w, a, b, c, s0, s1, f0, f1, j0, j1, rfl, _⟩ := h
    rfl
  · obtain ⟨n, w, a, b, c, s0, s1, f0, f1, j0, j1, rfl, zn, ⟨ha, hb, hc, C⟩, q⟩ := h
    refine ⟨_, (pss_cons (ps_set (i := 5) sc__law_apart.nd rfl (Or.inl rfl) (pe_op op_mulW (pe_op op_add (pe_op op_mulW (pe_op op_mulW (pv 0) (pe_ix (ixT (K := K) rfl) (pv 2) pe_int (fun _ _ => rfl))) (pe_ix (ixT (K := K) rfl) (pv 4) pe_int (fun _ _ => rfl))) (pe_op op_mulW (pe_ix (ixT (K := K) rfl) (pv 4) pe_int (fun _ _ => rfl)) (pe_ix (ixT (K := K) rfl) (pv 2) pe_int (fun _ _ => rfl)))) (pe_ix (ixT (K := K) rfl) (pv 3) pe_int (fun _ _ => rfl))))
      (pss_one (ps_ret (pe_cmpR op_le (pv 5) (pe_op op_mulW (pe_op op_mulW (pe_op op_mulW (pv 1) (pe_ix (ixT (K := K) rfl) (pv 3) pe_int (fun _ _ => rfl))) (pe_ix (ixT (K := K) rfl) (pv 2) pe_int (fun _ _ => rfl))) (pe_ix (ixT (K := K) rfl) (pv 4) pe_int (fun _ _ => rfl))) (nomark _))))), ?_⟩
    rw [show L2.start ["count", "wait", "slow", "fast", "journey", "left"] [.int n, .int w, .ref a, .ref b, .ref c] = [some (.int n), some (.int w), some (.ref a), some (.ref b), some (.ref c), none] from rfl]
    (try simp only [tVar, tC, tOp, tUn, rI, rI0, rU, rEq, rNe, scal, tTest, tB, tAnd, tOr, tNot, tAndV, tOrV, tNotV, tIf, tChain, tNil, tCons, tCB, tCall, tTup, tLst, tRet, tRetN, tDrop, tSeq, tNext, tIfS, tAsg, gName, tPar, tPar3, gNil, gCons, gTup, gSub, tAug, tSl, tNoPart, tPart, tBM, tBM0, tYes, tIsP, iSeq, iEnumA, RZ.iZipA, iRng1, iRng2, iList, iTup, rIsi, rIsB, rIxL, rIxT, rIxA, rLenA, rListOf, rTupOf, rSetL, rSlL, rCat, rAppend, tFld, sFld, tMake, tBits, Int.ofNat_inj, cast1, cast0, TruV, cxOf, Cx.nox, Cx.wish, tNever, tBreak, tCont, ipI, tDIn, tDNotIn, sDPut, tDNewT, tDNewK, tDGet, rSortedPO, rSortedI, rIn, rEqD, rNeD, rInD, rNotInD, tSSet, rIsV, rIntI, rIntB, rAbsN, tLstRg, tRg1, tRg2, List.append_nil, List.nil_append, List.cons_append, Option.some.injEq, exists_eq_left', exists_eq_left, exists_eq_right, exists_eq_right', List.getElem?_cons_zero, List.getElem?_cons_succ, List.set_cons_zero, List.set_cons_succ, List.cons.injEq, and_true, true_and, exists_and_left, exists_and_right, and_assoc, V.int.injEq, V.bl.injEq, V.ref.injEq, V.str.injEq, reduceCtorEq, decide_true, decide_false, Bool.not_true, Bool.not_false, Bool.false_eq_true, if_false, if_true, ite_true, ite_false, List.length_cons, List.length_nil, tRaise, tErr, LamX.tLam, TTe])
    rw [← apart_eq] at q
    have zw := szp (by have := C.w1; omega) C.w2
    have zs0 := szp (by have := C.s01; omega) C.s02
    have zs1 := szp (by have := C.s11; omega) C.s12
    have zf0 := szp (by have := C.f01; omega) C.f02
    have zf1 := szp (by have := C.f11; omega) C.f12
    have zj0 := szp C.j01 C.j02
    have zj1 := szp (by have := C.j11; omega) C.j12
    refine ⟨_, ha, _, atI_nat (j := 1) rfl, _, rfl, zn.mulW zs1 (by decide), _, hc, _, atI_nat (j := 1) rfl, _, rfl, (zn.mul zs1).mulW zj1 (by decide), ?_⟩
    refine ⟨_, hc, _, atI_nat (j := 0) rfl, _, ha, _, atI_nat (j := 0) rfl, _, rfl, _, rfl, zj0.mulW zs0 (by decide), _, hb, _, atI_nat (j := 0) rfl, _, rfl, (((zn.mul zs1).mul zj1).add (zj0.mul zs0)).mulW zf0 (by decide), _, hb, _, atI_nat (j := 1) rfl, _, rfl, zw.mulW zf1 (by decide), ?_⟩
    exact ⟨_, ha, _, atI_nat (j := 0) rfl, _, rfl, (zw.mul zf1).mulW zs0 (by decide), _, hc, _, atI_nat (j := 1) rfl, _, rfl, ((zw.mul zf1).mul zs0).mulW zj1 (by decide), q⟩
def notI : V → Bool
  | .int _ => false
  | _ => true
def sp_law_right (K : PySem.W.Frag) : Sp := fun vs H Q _ => ∃ n w a b c s0 s1 f0 f1 j0 j1 x o, vs = [.int n, .int w, .ref a, .ref b, .ref c, x] ∧ Sz 30 n ∧ ClkT K H a b c w s0 s1 f0 f1 j0 j1 ∧ PapV K H x o ∧ ∀ H', Same H H' → Q (.bl (holdsB n w s0 s1 f0 f1 j0 j1 o)) H'
theorem ok__law_right (T : Tx P K mg) : FnOk P w K mg base CX0 2 T.a__law_right T.d__law_right ["count", "wait", "slow", "fast", "journey", "value"] (sp_law_right K) := by
  refine T.F__law_right.ok sc__law_right (fun vs H Q E h => ?_) (fun cdv A outer s H vs Q E hr h => ?_)
  · obtain ⟨n, w, a, b, c, s0, s1, f0, f1, j0, j1, x, o, rfl, _⟩ := h
    rfl
  · obtain ⟨n, w, a, b, c, s0, s1, f0, f1, j0, j1, x, o, rfl, zn, C, hx, q⟩ := h
    refine ⟨_, (pss_cons (ps_if (PW.pt (pw_or (pt_not (pt_val (pe_callB (isiK (K := K) rfl) (by rfl) T.n_isinstance (by decide +kernel) (pa_cons (pv 5) (pa_cons (pe_bltn (v := .ty "tuple") (by rfl) T.n_tuple (by decide +kernel) rfl) pa_nil))))) (pw_or (pt_cmpR (notInK (K := K) rfl) (pe_callB (lenK (K := K) rfl) (by rfl) T.n_len PySem.boot_len (pa_cons (pv 5) pa_nil)) (pe_tup (pa_cons pe_int (pa_cons pe_int pa_nil))) (by rfl)) (pw_or1 (pt_not (pt_val (pe_callB (isiK (K := K) rfl) (by rfl) T.n_isinstance (by decide +kernel) (pa_cons (pe_ix (ixT (K := K) rfl) (pv 5) pe_int (fun _ _ => rfl)) (pa_cons (pe_bltn (v := .ty "str") (by rfl) T.n_str (by decide +kernel) rfl) pa_nil))))))))) (pss_one (ps_ret pe_bl)) pss_nil)
      (pss_cons (ps_if (pt_cmpR op_eq (pe_callB (lenK (K := K) rfl) (by rfl) T.n_len PySem.boot_len (pa_cons (pv 5) pa_nil)) pe_int (nomark _)) (pss_one (ps_ret (pe_and (pe_cmpR op_eq (pe_ix (ixT (K := K) rfl) (pv 5) pe_int (fun _ _ => rfl)) pe_str (nomark _)) (pe_one (pe_call (ok__law_apart T) (hr.mono (by decide)) (by rfl) T.g__law_apart T.F__law_apart.kp T.b__law_apart .nil pass0 (pa_cons (pv 0) (pa_cons (pv 1) (pa_cons (pv 2) (pa_cons (pv 3) (pa_cons (pv 4) pa_nil)))))))))) pss_nil)
      (pss_cons (ps_if (PW.pt (pw_or (pt_cmpR op_ne (pe_ix (ixT (K := K) rfl) (pv 5) pe_int (fun _ _ => rfl)) pe_str (nomark _)) (pw_or (pt_not (pt_val (pe_callB (isiK (K := K) rfl) (by rfl) T.n_isinstance (by decide +kernel) (pa_cons (pe_ix (ixT (K := K) rfl) (pv 5) pe_int (fun _ _ => rfl)) (pa_cons (pe_bltn (v := .ty "tuple") (by rfl) T.n_tuple (by decide +kernel) rfl) pa_nil))))) (pw_or1 (pt_cmpR op_ne (pe_callB (lenK (K := K) rfl) (by rfl) T.n_len PySem.boot_len (pa_cons (pe_ix (ixT (K := K) rfl) (pv 5) pe_int (fun _ _ => rfl)) pa_nil)) pe_int (nomark _)))))) (pss_one (ps_ret pe_bl)) pss_nil)
      (pss_cons (ps_if (pt_cmpR (neDK (K := K) rfl hr.units) (pe_lc (own := [("part", 6)]) (by rfl) sc__law_right.nd (pseqK (K := K) rfl (pe_ix (ixT (K := K) rfl) (pv 5) pe_int (fun _ _ => rfl))) (blkOk_by (own := [("part", 6)]) (N := ["count", "wait", "slow", "fast", "journey", "value", "part", "sent", "bottom"]) (sc := defScope s__law_right) (by decide +kernel)) (fun _ _ _ _ _ => (pg_name (i := 6) sc__law_right.nd rfl (by first | exact Or.inl rfl | exact Or.inr rfl))) (fun _ _ _ _ _ => (pts_one (PW.pt (pw_or (pt_val (pe_callB (isiK (K := K) rfl) (by rfl) T.n_isinstance (by decide +kernel) (pa_cons (pv 6) (pa_cons (pe_bltn (v := .ty "bool") (by rfl) T.n_bool (by decide +kernel) rfl) pa_nil)))) (pw_or1 (pt_not (pt_val (pe_callB (isiK (K := K) rfl) (by rfl) T.n_isinstance (by decide +kernel) (pa_cons (pv 6) (pa_cons (pe_bltn (v := .ty "int") (by rfl) T.n_int (by decide +kernel) rfl) pa_nil)))))))))) (fun _ _ _ _ _ => pe_int)) (pe_lst pa_nil) (nomark _)) (pss_one (ps_ret pe_bl)) pss_nil)
      (pss_cons (ps_asg (pe_ix (ixT (K := K) rfl) (pv 5) pe_int (fun _ _ => rfl)) (gtupK (K := K) (n := 2) rfl (by rfl) (pgs_cons (pg_name (i := 7) sc__law_right.nd rfl (Or.inl rfl)) (pgs_cons (pg_name (i := 8) sc__law_right.nd rfl (Or.inl rfl)) pgs_nil))))
      (pss_cons (ps_if (PW.pt (pw_or (pt_cmpR op_lt (pv 7) pe_int (nomark _)) (pw_or (pt_cmpR op_lt (pv 8) pe_int (nomark _)) (pw_or1 (pt_cmpR (neDK (K := K) rfl hr.units) (pe_call (ok__law_low T) (hr.mono (by decide)) (by rfl) T.g__law_low T.F__law_low.kp T.b__law_low .nil pass0 (pa_cons (pv 7) (pa_cons (pv 8) pa_nil))) (pe_tup (pa_cons (pv 7) (pa_cons (pv 8) pa_nil))) (nomark _)))))) (pss_one (ps_ret pe_bl)) pss_nil)
      (pss_cons (ps_if (pt_cmpR op_ge (pe_op op_mulW (pv 7) (pe_ix (ixT (K := K) rfl) (pv 2) pe_int (fun _ _ => rfl))) (pe_op op_mulW (pe_op op_mulW (pv 0) (pe_ix (ixT (K := K) rfl) (pv 2) pe_int (fun _ _ => rfl))) (pv 8)) (nomark _)) (pss_one (ps_ret pe_bl)) pss_nil)
      (pss_one (ps_ret (pe_cmpR op_gt (pe_op op_mulW (pe_op op_add (pe_op op_mulW (pv 7) (pe_ix (ixT (K := K) rfl) (pv 4) pe_int (fun _ _ => rfl))) (pe_op op_mulW (pe_ix (ixT (K := K) rfl) (pv 4) pe_int (fun _ _ => rfl)) (pv 8))) (pe_ix (ixT (K := K) rfl) (pv 3) pe_int (fun _ _ => rfl))) (pe_op op_mulW (pe_op op_mulW (pe_op op_mulW (pv 1) (pe_ix (ixT (K := K) rfl) (pv 3) pe_int (fun _ _ => rfl))) (pv 8)) (pe_ix (ixT (K := K) rfl) (pv 4) pe_int (fun _ _ => rfl))) (nomark _))))))))))), ?_⟩
    rw [show L2.start ["count", "wait", "slow", "fast", "journey", "value", "part", "sent", "bottom"] [.int n, .int w, .ref a, .ref b, .ref c, x] = [some (.int n), some (.int w), some (.ref a), some (.ref b), some (.ref c), some (x), none, none, none] from rfl]
    generalize hS : tSeq (tIfS (tTest (tOp (rNeD K) _ _)) _ _) _ = S
    (try simp only [tVar, tC, tOp, tUn, rI, rI0, rU, rEq, rNe, scal, tTest, tB, tAnd, tOr, tNot, tAndV, tOrV, tNotV, tIf, tChain, tNil, tCons, tCB, tCall, tTup, tLst, tRet, tRetN, tDrop, tSeq, tNext, tIfS, tAsg, gName, tPar, tPar3, gNil, gCons, gTup, gSub, tAug, tSl, tNoPart, tPart, tBM, tBM0, tYes, tIsP, iSeq, iEnumA, RZ.iZipA, iRng1, iRng2, iList, iTup, rIsi, rIsB, rIxL, rIxT, rIxA, rLenA, rListOf, rTupOf, rSetL, rSlL, rCat, rAppend, tFld, sFld, tMake, tBits, Int.ofNat_inj, cast1, cast0, TruV, cxOf, Cx.nox, Cx.wish, tNever, tBreak, tCont, ipI, tDIn, tDNotIn, sDPut, tDNewT, tDNewK, tDGet, rSortedPO, rSortedI, rIn, rEqD, rNeD, rInD, rNotInD, tSSet, rIsV, rIntI, rIntB, rAbsN, tLstRg, tRg1, tRg2, List.append_nil, List.nil_append, List.cons_append, Option.some.injEq, exists_eq_left', exists_eq_left, exists_eq_right, exists_eq_right', List.getElem?_cons_zero, List.getElem?_cons_succ, List.set_cons_zero, List.set_cons_succ, List.cons.injEq, and_true, true_and, exists_and_left, exists_and_right, and_assoc, V.int.injEq, V.bl.injEq, V.ref.injEq, V.str.injEq, reduceCtorEq, decide_true, decide_false, Bool.not_true, Bool.not_false, Bool.false_eq_true, if_false, if_true, ite_true, ite_false, List.length_cons, List.length_nil, tRaise, tErr, LamX.tLam, TTe])
    cases hx with
    | noTup h1 h2 =>
      refine ⟨_, _, .ty "tuple", h1, false, h2, iteT ?_⟩
      exact q _ (Same.refl _)
    | one h1 =>
      rename_i x s
      refine ⟨_, _, .ty "tuple", tyT h1, true, kit_ty (by decide +kernel), iteF ?_⟩
      refine ⟨_, rfl, _, .inr h1, by decide, fun p hp => ?_⟩
      have e1 : Same H (upd H p (.tup [.int 1, .int 2])) := same_new hp
      have g1 := Kb.Same.tup e1 h1
      refine ⟨_, .inr (.inl (.inl upd_same)), rfl, rfl, iteF ⟨_, rfl, _, g1, _, atI_nat (j := 0) rfl, _, _, .ty "str", .base (.str s), true, kit_ty (by decide +kernel), iteF ⟨_, rfl, _, .inr g1, iteT ⟨_, rfl, _, g1, _, atI_nat (j := 0) rfl, ?_⟩⟩⟩⟩
      refine ⟨rfl, ?_⟩
      rw [show decide (V.str s = V.str ("apart" : Str)) = decide (s = ("apart" : Str)) by simp only [V.str.injEq]]
      cases hw : decide (s = ("apart" : Str)) with
      | true =>
        simp only [holdsB, hw, Bool.true_and] at q
        exact iteT ⟨n, w, _, _, _, s0, s1, f0, f1, j0, j1, rfl, zn.mono (by decide), C.same e1, q _ e1⟩
      | false =>
        simp only [holdsB, hw, Bool.false_and] at q
        exact iteF (q _ e1)
    | two h1 h2 =>
      rename_i x s y o
      refine ⟨_, _, .ty "tuple", tyT h1, true, kit_ty (by decide +kernel), iteF ?_⟩
      refine ⟨_, rfl, _, .inr h1, by decide, fun p hp => ?_⟩
      have e1 : Same H (upd H p (.tup [.int 1, .int 2])) := same_new hp
      have g1 := Kb.Same.tup e1 h1
      refine ⟨_, .inr (.inl (.inl upd_same)), rfl, rfl, iteF ⟨_, rfl, _, g1, _, atI_nat (j := 0) rfl, _, _, .ty "str", .base (.str s), true, kit_ty (by decide +kernel), iteF ⟨_, rfl, _, .inr g1, iteF ⟨_, rfl, _, g1, _, atI_nat (j := 0) rfl, ?_⟩⟩⟩⟩
      refine ⟨rfl, ?_⟩
      rw [show decide (V.str s = V.str ("late" : Str)) = decide (s = ("late" : Str)) by simp only [V.str.injEq]]
      cases hw : decide (s = ("late" : Str)) with
      | false =>
        have hf : holdsB n w s0 s1 f0 f1 j0 j1 (.two s o) = false := by cases o <;> simp only [holdsB, hw, Bool.false_and]
        rw [hf] at q
        exact iteT (q _ e1)
      | true =>
        refine iteF ⟨_, rfl, _, g1, _, atI_nat (j := 1) rfl, ?_⟩
        have C2 := C.same e1
        generalize upd H p (.tup [.int 1, .int 2]) = H2 at e1 g1 C2
        cases h2 with
        | noTup k1 k2 => exact ⟨_, _, .ty "tuple", TyX.same e1 k1, false, k2, iteT (q _ e1)⟩
        | len k1 k2 =>
          refine ⟨_, _, .ty "tuple", tyT (Kb.Same.tup e1 k1), true, kit_ty (by decide +kernel), iteF ⟨_, rfl, _, g1, _, atI_nat (j := 1) rfl, _, rfl, _, .inr (Kb.Same.tup e1 k1), ?_⟩⟩
          rw [decide_eq_false (by omega)]
          exact iteT (q _ e1)
        | bl k1 =>
          have k2 := Kb.Same.tup e1 k1
          refine ⟨_, _, .ty "tuple", tyT k2, true, kit_ty (by decide +kernel), iteF ⟨_, rfl, _, g1, _, atI_nat (j := 1) rfl, _, rfl, _, .inr k2, iteF ?_⟩⟩
          subst hS
          generalize hS : tSeq (tAsg _ _) _ = S
          generalize hL1 : tLc _ _ _ _ _ = L1
          (try simp only [tVar, tC, tOp, tUn, rI, rI0, rU, rEq, rNe, scal, tTest, tB, tAnd, tOr, tNot, tAndV, tOrV, tNotV, tIf, tChain, tNil, tCons, tCB, tCall, tTup, tLst, tRet, tRetN, tDrop, tSeq, tNext, tIfS, tAsg, gName, tPar, tPar3, gNil, gCons, gTup, gSub, tAug, tSl, tNoPart, tPart, tBM, tBM0, tYes, tIsP, iSeq, iEnumA, RZ.iZipA, iRng1, iRng2, iList, iTup, rIsi, rIsB, rIxL, rIxT, rIxA, rLenA, rListOf, rTupOf, rSetL, rSlL, rCat, rAppend, tFld, sFld, tMake, tBits, Int.ofNat_inj, cast1, cast0, TruV, cxOf, Cx.nox, Cx.wish, tNever, tBreak, tCont, ipI, tDIn, tDNotIn, sDPut, tDNewT, tDNewK, tDGet, rSortedPO, rSortedI, rIn, rEqD, rNeD, rInD, rNotInD, tSSet, rIsV, rIntI, rIntB, rAbsN, tLstRg, tRg1, tRg2, List.append_nil, List.nil_append, List.cons_append, Option.some.injEq, exists_eq_left', exists_eq_left, exists_eq_right, exists_eq_right', List.getElem?_cons_zero, List.getElem?_cons_succ, List.set_cons_zero, List.set_cons_succ, List.cons.injEq, and_true, true_and, exists_and_left, exists_and_right, and_assoc, V.int.injEq, V.bl.injEq, V.ref.injEq, V.str.injEq, reduceCtorEq, decide_true, decide_false, Bool.not_true, Bool.not_false, Bool.false_eq_true, if_false, if_true, ite_true, ite_false, List.length_cons, List.length_nil, tRaise, tErr, LamX.tLam, TTe])
          subst hL1
          rename_i y p0 b0
          refine lcS y [V.int p0, V.bl b0] notI (fun _ => .int 1) (fun R h => by (try simp only [tVar, tC, tOp, tUn, rI, rI0, rU, rEq, rNe, scal, tTest, tB, tAnd, tOr, tNot, tAndV, tOrV, tNotV, tIf, tChain, tNil, tCons, tCB, tCall, tTup, tLst, tRet, tRetN, tDrop, tSeq, tNext, tIfS, tAsg, gName, tPar, tPar3, gNil, gCons, gTup, gSub, tAug, tSl, tNoPart, tPart, tBM, tBM0, tYes, tIsP, iSeq, iEnumA, RZ.iZipA, iRng1, iRng2, iList, iTup, rIsi, rIsB, rIxL, rIxT, rIxA, rLenA, rListOf, rTupOf, rSetL, rSlL, rCat, rAppend, tFld, sFld, tMake, tBits, Int.ofNat_inj, cast1, cast0, TruV, cxOf, Cx.nox, Cx.wish, tNever, tBreak, tCont, ipI, tDIn, tDNotIn, sDPut, tDNewT, tDNewK, tDGet, rSortedPO, rSortedI, rIn, rEqD, rNeD, rInD, rNotInD, tSSet, rIsV, rIntI, rIntB, rAbsN, tLstRg, tRg1, tRg2, List.append_nil, List.nil_append, List.cons_append, Option.some.injEq, exists_eq_left', exists_eq_left, exists_eq_right, exists_eq_right', List.getElem?_cons_zero, List.getElem?_cons_succ, List.set_cons_zero, List.set_cons_succ, List.cons.injEq, and_true, true_and, exists_and_left, exists_and_right, and_assoc, V.int.injEq, V.bl.injEq, V.ref.injEq, V.str.injEq, reduceCtorEq, decide_true, decide_false, Bool.not_true, Bool.not_false, Bool.false_eq_true, if_false, if_true, ite_true, ite_false, List.length_cons, List.length_nil, tRaise, tErr, LamX.tLam, TTe]); exact ⟨_, g1, _, atI_nat (j := 1) rfl, h⟩) (.inr k2) (show 2 < 100000 by decide) (fun x H' Q1 Q2 hx s1 q1 q2 => ?_) fun L hL => ?_
          · rcases List.mem_cons.mp hx with rfl | hx
            · (try simp only [tVar, tC, tOp, tUn, rI, rI0, rU, rEq, rNe, scal, tTest, tB, tAnd, tOr, tNot, tAndV, tOrV, tNotV, tIf, tChain, tNil, tCons, tCB, tCall, tTup, tLst, tRet, tRetN, tDrop, tSeq, tNext, tIfS, tAsg, gName, tPar, tPar3, gNil, gCons, gTup, gSub, tAug, tSl, tNoPart, tPart, tBM, tBM0, tYes, tIsP, iSeq, iEnumA, RZ.iZipA, iRng1, iRng2, iList, iTup, rIsi, rIsB, rIxL, rIxT, rIxA, rLenA, rListOf, rTupOf, rSetL, rSlL, rCat, rAppend, tFld, sFld, tMake, tBits, Int.ofNat_inj, cast1, cast0, TruV, cxOf, Cx.nox, Cx.wish, tNever, tBreak, tCont, ipI, tDIn, tDNotIn, sDPut, tDNewT, tDNewK, tDGet, rSortedPO, rSortedI, rIn, rEqD, rNeD, rInD, rNotInD, tSSet, rIsV, rIntI, rIntB, rAbsN, tLstRg, tRg1, tRg2, List.append_nil, List.nil_append, List.cons_append, Option.some.injEq, exists_eq_left', exists_eq_left, exists_eq_right, exists_eq_right', List.getElem?_cons_zero, List.getElem?_cons_succ, List.set_cons_zero, List.set_cons_succ, List.cons.injEq, and_true, true_and, exists_and_left, exists_and_right, and_assoc, V.int.injEq, V.bl.injEq, V.ref.injEq, V.str.injEq, reduceCtorEq, decide_true, decide_false, Bool.not_true, Bool.not_false, Bool.false_eq_true, if_false, if_true, ite_true, ite_false, List.length_cons, List.length_nil, tRaise, tErr, LamX.tLam, TTe])
              exact ⟨_, _, .ty "bool", .base (.int p0), false, kit_ty (by decide +kernel), iteF ⟨_, _, .ty "int", .base (.int p0), true, kit_ty (by decide +kernel), iteF (q2 rfl)⟩⟩
            · rw [List.mem_singleton] at hx
              subst hx
              (try simp only [tVar, tC, tOp, tUn, rI, rI0, rU, rEq, rNe, scal, tTest, tB, tAnd, tOr, tNot, tAndV, tOrV, tNotV, tIf, tChain, tNil, tCons, tCB, tCall, tTup, tLst, tRet, tRetN, tDrop, tSeq, tNext, tIfS, tAsg, gName, tPar, tPar3, gNil, gCons, gTup, gSub, tAug, tSl, tNoPart, tPart, tBM, tBM0, tYes, tIsP, iSeq, iEnumA, RZ.iZipA, iRng1, iRng2, iList, iTup, rIsi, rIsB, rIxL, rIxT, rIxA, rLenA, rListOf, rTupOf, rSetL, rSlL, rCat, rAppend, tFld, sFld, tMake, tBits, Int.ofNat_inj, cast1, cast0, TruV, cxOf, Cx.nox, Cx.wish, tNever, tBreak, tCont, ipI, tDIn, tDNotIn, sDPut, tDNewT, tDNewK, tDGet, rSortedPO, rSortedI, rIn, rEqD, rNeD, rInD, rNotInD, tSSet, rIsV, rIntI, rIntB, rAbsN, tLstRg, tRg1, tRg2, List.append_nil, List.nil_append, List.cons_append, Option.some.injEq, exists_eq_left', exists_eq_left, exists_eq_right, exists_eq_right', List.getElem?_cons_zero, List.getElem?_cons_succ, List.set_cons_zero, List.set_cons_succ, List.cons.injEq, and_true, true_and, exists_and_left, exists_and_right, and_assoc, V.int.injEq, V.bl.injEq, V.ref.injEq, V.str.injEq, reduceCtorEq, decide_true, decide_false, Bool.not_true, Bool.not_false, Bool.false_eq_true, if_false, if_true, ite_true, ite_false, List.length_cons, List.length_nil, tRaise, tErr, LamX.tLam, TTe])
              exact ⟨_, _, .ty "bool", .base (.bl b0), true, kit_ty (by decide +kernel), iteT (q1 rfl)⟩
          · refine ⟨by decide, fun r hr => ⟨_, .lst (xs := [.int 1]) (.of (same_new hr _ _ upd_same)) (.cons (.int 1) .nil), _, .lst (.of upd_same) .nil, by decide, by decide, iteT ?_⟩⟩
            exact q _ (e1.trans ((same_new hL).trans (same_new hr)))
        | pair k1 zp zq =>
          have k2 := Kb.Same.tup e1 k1
          refine ⟨_, _, .ty "tuple", tyT k2, true, kit_ty (by decide +kernel), iteF ⟨_, rfl, _, g1, _, atI_nat (j := 1) rfl, _, rfl, _, .inr k2, iteF ?_⟩⟩
          subst hS
          generalize hS : tSeq (tAsg _ _) _ = S
          generalize hL1 : tLc _ _ _ _ _ = L1
          (try simp only [tVar, tC, tOp, tUn, rI, rI0, rU, rEq, rNe, scal, tTest, tB, tAnd, tOr, tNot, tAndV, tOrV, tNotV, tIf, tChain, tNil, tCons, tCB, tCall, tTup, tLst, tRet, tRetN, tDrop, tSeq, tNext, tIfS, tAsg, gName, tPar, tPar3, gNil, gCons, gTup, gSub, tAug, tSl, tNoPart, tPart, tBM, tBM0, tYes, tIsP, iSeq, iEnumA, RZ.iZipA, iRng1, iRng2, iList, iTup, rIsi, rIsB, rIxL, rIxT, rIxA, rLenA, rListOf, rTupOf, rSetL, rSlL, rCat, rAppend, tFld, sFld, tMake, tBits, Int.ofNat_inj, cast1, cast0, TruV, cxOf, Cx.nox, Cx.wish, tNever, tBreak, tCont, ipI, tDIn, tDNotIn, sDPut, tDNewT, tDNewK, tDGet, rSortedPO, rSortedI, rIn, rEqD, rNeD, rInD, rNotInD, tSSet, rIsV, rIntI, rIntB, rAbsN, tLstRg, tRg1, tRg2, List.append_nil, List.nil_append, List.cons_append, Option.some.injEq, exists_eq_left', exists_eq_left, exists_eq_right, exists_eq_right', List.getElem?_cons_zero, List.getElem?_cons_succ, List.set_cons_zero, List.set_cons_succ, List.cons.injEq, and_true, true_and, exists_and_left, exists_and_right, and_assoc, V.int.injEq, V.bl.injEq, V.ref.injEq, V.str.injEq, reduceCtorEq, decide_true, decide_false, Bool.not_true, Bool.not_false, Bool.false_eq_true, if_false, if_true, ite_true, ite_false, List.length_cons, List.length_nil, tRaise, tErr, LamX.tLam, TTe])
          subst hL1
          rename_i y p0 q0
          refine lcS y [V.int p0, V.int q0] notI (fun _ => .int 1) (fun R h => by (try simp only [tVar, tC, tOp, tUn, rI, rI0, rU, rEq, rNe, scal, tTest, tB, tAnd, tOr, tNot, tAndV, tOrV, tNotV, tIf, tChain, tNil, tCons, tCB, tCall, tTup, tLst, tRet, tRetN, tDrop, tSeq, tNext, tIfS, tAsg, gName, tPar, tPar3, gNil, gCons, gTup, gSub, tAug, tSl, tNoPart, tPart, tBM, tBM0, tYes, tIsP, iSeq, iEnumA, RZ.iZipA, iRng1, iRng2, iList, iTup, rIsi, rIsB, rIxL, rIxT, rIxA, rLenA, rListOf, rTupOf, rSetL, rSlL, rCat, rAppend, tFld, sFld, tMake, tBits, Int.ofNat_inj, cast1, cast0, TruV, cxOf, Cx.nox, Cx.wish, tNever, tBreak, tCont, ipI, tDIn, tDNotIn, sDPut, tDNewT, tDNewK, tDGet, rSortedPO, rSortedI, rIn, rEqD, rNeD, rInD, rNotInD, tSSet, rIsV, rIntI, rIntB, rAbsN, tLstRg, tRg1, tRg2, List.append_nil, List.nil_append, List.cons_append, Option.some.injEq, exists_eq_left', exists_eq_left, exists_eq_right, exists_eq_right', List.getElem?_cons_zero, List.getElem?_cons_succ, List.set_cons_zero, List.set_cons_succ, List.cons.injEq, and_true, true_and, exists_and_left, exists_and_right, and_assoc, V.int.injEq, V.bl.injEq, V.ref.injEq, V.str.injEq, reduceCtorEq, decide_true, decide_false, Bool.not_true, Bool.not_false, Bool.false_eq_true, if_false, if_true, ite_true, ite_false, List.length_cons, List.length_nil, tRaise, tErr, LamX.tLam, TTe]); exact ⟨_, g1, _, atI_nat (j := 1) rfl, h⟩) (.inr k2) (show 2 < 100000 by decide) (fun x H' Q1 Q2 hx s1 q1 q2 => ?_) fun L hL => ?_
          · have hi : ∃ i, x = V.int i := by
              rcases List.mem_cons.mp hx with rfl | hx
              · exact ⟨_, rfl⟩
              · exact ⟨_, List.mem_singleton.mp hx⟩
            obtain ⟨i, rfl⟩ := hi
            (try simp only [tVar, tC, tOp, tUn, rI, rI0, rU, rEq, rNe, scal, tTest, tB, tAnd, tOr, tNot, tAndV, tOrV, tNotV, tIf, tChain, tNil, tCons, tCB, tCall, tTup, tLst, tRet, tRetN, tDrop, tSeq, tNext, tIfS, tAsg, gName, tPar, tPar3, gNil, gCons, gTup, gSub, tAug, tSl, tNoPart, tPart, tBM, tBM0, tYes, tIsP, iSeq, iEnumA, RZ.iZipA, iRng1, iRng2, iList, iTup, rIsi, rIsB, rIxL, rIxT, rIxA, rLenA, rListOf, rTupOf, rSetL, rSlL, rCat, rAppend, tFld, sFld, tMake, tBits, Int.ofNat_inj, cast1, cast0, TruV, cxOf, Cx.nox, Cx.wish, tNever, tBreak, tCont, ipI, tDIn, tDNotIn, sDPut, tDNewT, tDNewK, tDGet, rSortedPO, rSortedI, rIn, rEqD, rNeD, rInD, rNotInD, tSSet, rIsV, rIntI, rIntB, rAbsN, tLstRg, tRg1, tRg2, List.append_nil, List.nil_append, List.cons_append, Option.some.injEq, exists_eq_left', exists_eq_left, exists_eq_right, exists_eq_right', List.getElem?_cons_zero, List.getElem?_cons_succ, List.set_cons_zero, List.set_cons_succ, List.cons.injEq, and_true, true_and, exists_and_left, exists_and_right, and_assoc, V.int.injEq, V.bl.injEq, V.ref.injEq, V.str.injEq, reduceCtorEq, decide_true, decide_false, Bool.not_true, Bool.not_false, Bool.false_eq_true, if_false, if_true, ite_true, ite_false, List.length_cons, List.length_nil, tRaise, tErr, LamX.tLam, TTe])
            exact ⟨_, _, .ty "bool", .base (.int i), false, kit_ty (by decide +kernel), iteF ⟨_, _, .ty "int", .base (.int i), true, kit_ty (by decide +kernel), iteF (q2 rfl)⟩⟩
          · refine ⟨by decide, fun r hr => ⟨_, .lst (xs := []) (.of (same_new hr _ _ upd_same)) .nil, _, .lst (.of upd_same) .nil, by decide, by decide, iteF ?_⟩⟩
            have e3 := (same_new (o := .lst ([V.int p0, V.int q0].filter notI |>.map fun _ => V.int 1)) hL).trans (same_new (o := .lst []) hr)
            have g3 := Kb.Same.tup e3 g1
            have k3 := Kb.Same.tup e3 k2
            have C3 := C2.same e3
            have e4 := e1.trans e3
            generalize upd (upd H2 L _) r _ = H3 at e4 g3 k3 C3
            clear e3
            subst hS
            (try simp only [tVar, tC, tOp, tUn, rI, rI0, rU, rEq, rNe, scal, tTest, tB, tAnd, tOr, tNot, tAndV, tOrV, tNotV, tIf, tChain, tNil, tCons, tCB, tCall, tTup, tLst, tRet, tRetN, tDrop, tSeq, tNext, tIfS, tAsg, gName, tPar, tPar3, gNil, gCons, gTup, gSub, tAug, tSl, tNoPart, tPart, tBM, tBM0, tYes, tIsP, iSeq, iEnumA, RZ.iZipA, iRng1, iRng2, iList, iTup, rIsi, rIsB, rIxL, rIxT, rIxA, rLenA, rListOf, rTupOf, rSetL, rSlL, rCat, rAppend, tFld, sFld, tMake, tBits, Int.ofNat_inj, cast1, cast0, TruV, cxOf, Cx.nox, Cx.wish, tNever, tBreak, tCont, ipI, tDIn, tDNotIn, sDPut, tDNewT, tDNewK, tDGet, rSortedPO, rSortedI, rIn, rEqD, rNeD, rInD, rNotInD, tSSet, rIsV, rIntI, rIntB, rAbsN, tLstRg, tRg1, tRg2, List.append_nil, List.nil_append, List.cons_append, Option.some.injEq, exists_eq_left', exists_eq_left, exists_eq_right, exists_eq_right', List.getElem?_cons_zero, List.getElem?_cons_succ, List.set_cons_zero, List.set_cons_succ, List.cons.injEq, and_true, true_and, exists_and_left, exists_and_right, and_assoc, V.int.injEq, V.bl.injEq, V.ref.injEq, V.str.injEq, reduceCtorEq, decide_true, decide_false, Bool.not_true, Bool.not_false, Bool.false_eq_true, if_false, if_true, ite_true, ite_false, List.length_cons, List.length_nil, tRaise, tErr, LamX.tLam, TTe])
            refine ⟨_, g3, _, atI_nat (j := 1) rfl, _, rfl, _, k3, rfl, _, _, rfl, _, _, rfl, rfl, _, rfl, ?_⟩
            simp only [holdsB, hw, Bool.true_and] at q
            by_cases pn : p0 < 0
            · rw [decide_eq_true pn]
              rw [show lateB n w s0 s1 f0 f1 j0 j1 p0 q0 = false by unfold lateB; rw [decide_eq_false (p := 0 ≤ p0) (by omega)]; rfl] at q
              exact iteT (q _ e4)
            rw [decide_eq_false pn]
            refine iteF ⟨_, rfl, ?_⟩
            by_cases r0 : q0 < 1
            · rw [decide_eq_true r0]
              rw [show lateB n w s0 s1 f0 f1 j0 j1 p0 q0 = false by unfold lateB; rw [decide_eq_false (p := 1 ≤ q0) (by omega), Bool.and_false]; rfl] at q
              exact iteT (q _ e4)
            rw [decide_eq_false r0]
            refine iteF ⟨p0, q0, rfl, by omega, by omega, zq, fun t ht => ⟨by decide, fun m hm => ⟨_, dp_ii (.inl (.inl (same_new hm _ _ upd_same))), _, dp_ii (.inl (.inl upd_same)), sh_ii _ _, sh_ii _ _, ?_⟩⟩⟩
            rw [eqv_ii]
            unfold lateB at q
            rw [decide_eq_true (p := 0 ≤ p0) (by omega), decide_eq_true (p := 1 ≤ q0) (by omega)] at q
            have e5 := (same_new (o := .tup [.int (lowI p0 q0).1, .int (lowI p0 q0).2]) ht).trans (same_new (o := .tup [.int p0, .int q0]) hm)
            have C4 := C3.same e5
            have e6 := e4.trans e5
            generalize upd (upd H3 t _) m _ = H4 at e6 C4
            cases hl : (decide ((lowI p0 q0).1 = p0) && decide ((lowI p0 q0).2 = q0)) with
            | false =>
              rw [hl] at q
              exact iteT (q _ e6)
            | true =>
              rw [hl] at q
              refine iteF ?_
              have K0 := C.ck
              rw [← late_eq p0 q0 (by have := K0.s01; omega) (by have := K0.s11; omega)] at q
              have zw := szp (by have := K0.w1; omega) K0.w2
              have zs0 := szp (by have := K0.s01; omega) K0.s02
              have zs1 := szp (by have := K0.s11; omega) K0.s12
              have zf0 := szp (by have := K0.f01; omega) K0.f02
              have zf1 := szp (by have := K0.f11; omega) K0.f12
              have zj0 := szp K0.j01 K0.j02
              have zj1 := szp (by have := K0.j11; omega) K0.j12
              refine ⟨_, C4.ha, _, atI_nat (j := 0) rfl, _, rfl, _, rfl, zp.mulW zs0 (by decide), _, C4.ha, _, atI_nat (j := 1) rfl, _, rfl, zn.mulW zs1 (by decide), _, rfl, (zn.mul zs1).mulW zq (by decide), ?_⟩
              cases hA : decide (p0 * s0 < n * s1 * q0) with
              | false =>
                rw [hA] at q
                rw [decide_eq_true (by have := of_decide_eq_false hA; omega)]
                exact iteT (q _ e6)
              | true =>
                rw [hA] at q
                rw [decide_eq_false (by have := of_decide_eq_true hA; omega)]
                refine iteF ⟨_, C4.hc, _, atI_nat (j := 1) rfl, _, rfl, _, rfl, zp.mulW zj1 (by decide), _, C4.hc, _, atI_nat (j := 0) rfl, _, rfl, ?_⟩
                exact ⟨_, rfl, zj0.mulW zq (by decide), _, C4.hb, _, atI_nat (j := 0) rfl, _, rfl, ((zp.mul zj1).add (zj0.mul zq)).mulW zf0 (by decide), _, C4.hb, _, atI_nat (j := 1) rfl, _, rfl, zw.mulW zf1 (by decide), _, rfl, (zw.mul zf1).mulW zq (by decide), _, C4.hc, _, atI_nat (j := 1) rfl, _, rfl, ((zw.mul zf1).mul zq).mulW zj1 (by decide), q _ e6⟩
end
end Kr
namespace Kr
open PySem PySem.Spec PyProof.Rows L2 Kb
section
variable {P : Program} {w : World} {K : PySem.W.Frag} {mg : Str → Option Value} {base : Heap}
/-! ### what is said of a refusal -/
theorem AsInt.same {H H' : Hp} {x : V} {o : Option Int} (e : Same H H') (h : AsInt K H x o) : AsInt K H' x o := by
  cases o with
  | some i => exact h
  | none =>
    obtain ⟨t, b1, b2, h1, h2⟩ := h
    exact ⟨t, b1, b2, TyX.same e h1, h2⟩
theorem FracV.same {H H' : Hp} {x : V} {o : Option (Int × Int)} (e : Same H H') (h : FracV K H x o) : FracV K H' x o := by
  cases h with
  | good h1 h2 h3 h4 h5 => exact .good (Same.sq e h1) h2 h3 h4 h5
  | noSeq h1 h2 => exact .noSeq (TyX.same e h1) h2
  | size h1 h2 => exact .size (Same.sq e h1) h2
  | first h1 h2 h3 => exact .first (Same.sq e h1) (AsInt.same e h2) h3
  | second h1 h2 h3 h4 h5 => exact .second (Same.sq e h1) h2 h3 (AsInt.same e h4) h5
theorem ClkV.same {H H' : Hp} {x s f j : V} {o : Option (Bool × Int)} (e : Same H H') (h : ClkV K H x s f j o) : ClkV K H' x s f j o := by
  cases h with
  | good h1 h2 h3 h4 => exact .good (Same.sq e h1) (Same.sq e h2) (Same.sq e h3) h4
  | wait h1 h2 => exact .wait (AsInt.same e h1) h2
  | slow h1 h2 h3 => exact .slow h1 h2 (h3.same e)
  | zero h1 h2 h3 h4 h5 => exact .zero h1 h2 (Same.sq e h3) h4 h5
  | fast h1 h2 h3 h4 h5 h6 h7 h8 => exact .fast h1 h2 (Same.sq e h3) h4 h5 h6 h7 (h8.same e)
  | slower h1 h2 h3 h4 h5 h6 h7 g h8 h9 h10 h11 h12 => exact .slower h1 h2 (Same.sq e h3) h4 h5 h6 h7 (Same.sq e g) h8 h9 h10 h11 h12
  | way h1 h2 h3 h4 h5 h6 h7 g h8 h9 h10 h11 h12 h13 => exact .way h1 h2 (Same.sq e h3) h4 h5 h6 h7 (Same.sq e g) h8 h9 h10 h11 h12 (h13.same e)
/-- how a question is refused -/
def RefD (K : PySem.W.Frag) (H : Hp) (qn : Nat) (n wt sl fa jo : V) (k : Bool) (i : Int) : Prop := (qn < 2 ∧ k = true ∧ i = -1 ∧ ∃ o, AsInt K H n o ∧ between 1 M9 o = false) ∨ ((qn < 2 → ∃ m, n = .int m ∧ 1 ≤ m ∧ m ≤ M9) ∧ ClkV K H wt sl fa jo (some (k, i)))
theorem RefD.same {H H' : Hp} {qn : Nat} {n wt sl fa jo : V} {k : Bool} {i : Int} (e : Same H H') (h : RefD K H qn n wt sl fa jo k i) : RefD K H' qn n wt sl fa jo k i := by
  rcases h with ⟨h1, h2, h3, o, h4, h5⟩ | ⟨h1, h2⟩
  · exact .inl ⟨h1, h2, h3, o, AsInt.same e h4, h5⟩
  · exact .inr ⟨h1, h2.same e⟩
theorem RefD.two {H : Hp} {n wt sl fa jo : V} {k : Bool} {i : Int} {CC CR : Addr} {E : XK} (h : RefD K H 2 n wt sl fa jo k i) (e : atE (bif k then CC else CR) i H E) : RefC CC CR K H E wt sl fa jo := by
  rcases h with ⟨h1, _⟩ | ⟨h1, h2⟩
  · omega
  · exact ⟨k, i, h2, e⟩
theorem RefD.one {H : Hp} {qn : Nat} {n wt sl fa jo : V} {k : Bool} {i : Int} {CC CR : Addr} {E : XK} (h : RefD K H qn n wt sl fa jo k i) (hq : qn < 2) (e : atE (bif k then CC else CR) i H E) : RefN CC CR K H E n wt sl fa jo := by
  rcases h with ⟨h1, rfl, rfl, o, h4, h5⟩ | ⟨h1, h2⟩
  · exact .inl ⟨o, h4, h5, e⟩
  · obtain ⟨m, rfl, m1, m2⟩ := h1 hq
    exact .inr ⟨m, rfl, m1, m2, k, i, h2, e⟩
theorem isO {D C a dd : Addr} {fs : List (Str × V)} {b : Bool} {H : Hp} {Q : VK} (h : ExcC K D) (hd : H dd = some (.xd fs)) (hk : PySem.W.kitOne K (.ref D) (.ref C) = some b) (q : Q (.bl b) H) : rIsO K a (.ref D) (some dd) [.ref a, .ref C] H Q := ⟨D, dd, fs, _, .ref C, b, rfl, rfl, h, rfl, hd, relC_ref C, hk, q⟩
def saidW (k : Bool) : Str := bif k then "count" else "rates"
def sp_law_said (K : PySem.W.Frag) : Sp := fun vs H Q _ => ∃ qn : Nat, ∃ n wt sl fa jo k i, vs = [nv qn, n, wt, sl, fa, jo] ∧ qn < 3 ∧ RefD K H qn n wt sl fa jo k i ∧ ∀ H' p, Same H H' → H' p = none → Q (.ref p) (upd H' p (.tup [.str (saidW k), .int i]))
theorem ok__law_said (T : Tx P K mg) : FnOk P w K mg base CX0 6 T.a__law_said T.d__law_said ["question", "count", "wait", "slow", "fast", "journey"] (sp_law_said K) := by
  refine T.F__law_said.ok sc__law_said (fun vs H Q E h => ?_) (fun cdv A outer s H vs Q E hr h => ?_)
  · obtain ⟨qn, n, wt, sl, fa, jo, k, i, rfl, _⟩ := h
    rfl
  · obtain ⟨qn, n, wt, sl, fa, jo, k, i, rfl, hq, hr0, q⟩ := h
    refine ⟨_, (pss_one (ps_try_as (i := 6) rfl rfl sc__law_said.nd rfl rfl ⟨rfl, by decide, .inl T.g_RuleError⟩ LamX.takes0 (fun W pn xe tk _ => (pss_cons (ps_if (pt_cmpR op_eq (pv 0) pe_int (nomark _)) (pss_one (ps_ret (pe_tup (pa_cons pe_str (pa_cons (pe_callS (okx_clock_paper T) (hr.mono (by decide)) (by rfl) T.g_clock_paper T.F_clock_paper.kp T.b_clock_paper (fun σ => passAt tk σ) (pa_cons (pv 1) (pa_cons (pv 2) (pa_cons (pv 3) (pa_cons (pv 4) (pa_cons (pv 5) pa_nil)))))) pa_nil))))) pss_nil)
      (pss_cons (ps_if (pt_cmpR op_eq (pv 0) pe_int (nomark _)) (pss_one (ps_ret (pe_tup (pa_cons pe_str (pa_cons (pe_callS (okx_clock_holds T) (hr.mono (by decide)) (by rfl) T.g_clock_holds T.F_clock_holds.kp T.b_clock_holds (fun σ => passAt tk σ) (pa_cons (pv 1) (pa_cons (pv 2) (pa_cons (pv 3) (pa_cons (pv 4) (pa_cons (pv 5) (pa_cons (pe_tup (pa_cons pe_str pa_nil)) pa_nil))))))) pa_nil))))) pss_nil)
      (pss_one (ps_ret (pe_tup (pa_cons pe_str (pa_cons (pe_callS (okx_greatest_count T) (hr.mono (by decide)) (by rfl) T.g_greatest_count T.F_greatest_count.kp T.b_greatest_count (fun σ => passAt tk σ) (pa_cons (pv 2) (pa_cons (pv 3) (pa_cons (pv 4) (pa_cons (pv 5) pa_nil))))) pa_nil))))))))
      (fun a oe cls d pn hz hf => (pss_cons (ps_if (PW.pt (pw_and (pt_val (pe_callB (call_isO (K := K) rfl hz hf) (by rfl) T.n_isinstance (by decide +kernel) (pa_cons (pv 6) (pa_cons (pe_glob (v := .ref T.c_InvalidCount) rfl T.g_InvalidCount rfl) pa_nil)))) (pw_and1 (pt_not (pt_val (pe_callB (call_isO (K := K) rfl hz hf) (by rfl) T.n_isinstance (by decide +kernel) (pa_cons (pv 6) (pa_cons (pe_glob (v := .ref T.c_InvalidRates) rfl T.g_InvalidRates rfl) pa_nil)))))))) (pss_one (ps_ret (pe_tup (pa_cons pe_str (pa_cons (pe_xf T.x_InvalidCount.xf T.x_InvalidCount.no hz hf (pv 6)) pa_nil))))) pss_nil)
      (pss_cons (ps_if (PW.pt (pw_and (pt_val (pe_callB (call_isO (K := K) rfl hz hf) (by rfl) T.n_isinstance (by decide +kernel) (pa_cons (pv 6) (pa_cons (pe_glob (v := .ref T.c_InvalidRates) rfl T.g_InvalidRates rfl) pa_nil)))) (pw_and1 (pt_not (pt_val (pe_callB (call_isO (K := K) rfl hz hf) (by rfl) T.n_isinstance (by decide +kernel) (pa_cons (pv 6) (pa_cons (pe_glob (v := .ref T.c_InvalidCount) rfl T.g_InvalidCount rfl) pa_nil)))))))) (pss_one (ps_ret (pe_tup (pa_cons pe_str (pa_cons (pe_xf T.x_InvalidRates.xf T.x_InvalidRates.no hz hf (pv 6)) pa_nil))))) pss_nil)
      (pss_one (ps_ret (pe_tup (pa_cons pe_str (pa_cons pe_int pa_nil)))))))))), ?_⟩
    rw [show L2.start ["question", "count", "wait", "slow", "fast", "journey", "error"] [nv qn, n, wt, sl, fa, jo] = [some (nv qn), some (n), some (wt), some (sl), some (fa), some (jo), none] from rfl]
    (try simp only [tVar, tC, tOp, tUn, rI, rI0, rU, rEq, rNe, scal, tTest, tB, tAnd, tOr, tNot, tAndV, tOrV, tNotV, tIf, tChain, tNil, tCons, tCB, tCall, tTup, tLst, tRet, tRetN, tDrop, tSeq, tNext, tIfS, tAsg, gName, tPar, tPar3, gNil, gCons, gTup, gSub, tAug, tSl, tNoPart, tPart, tBM, tBM0, tYes, tIsP, iSeq, iEnumA, RZ.iZipA, iRng1, iRng2, iList, iTup, rIsi, rIsB, rIxL, rIxT, rIxA, rLenA, rListOf, rTupOf, rSetL, rSlL, rCat, rAppend, tFld, sFld, tMake, tBits, Int.ofNat_inj, cast1, cast0, TruV, cxOf, Cx.nox, Cx.wish, tNever, tBreak, tCont, ipI, tDIn, tDNotIn, sDPut, tDNewT, tDNewK, tDGet, rSortedPO, rSortedI, rIn, rEqD, rNeD, rInD, rNotInD, tSSet, rIsV, rIntI, rIntB, rAbsN, tLstRg, tRg1, tRg2, List.append_nil, List.nil_append, List.cons_append, Option.some.injEq, exists_eq_left', exists_eq_left, exists_eq_right, exists_eq_right', List.getElem?_cons_zero, List.getElem?_cons_succ, List.set_cons_zero, List.set_cons_succ, List.cons.injEq, and_true, true_and, exists_and_left, exists_and_right, and_assoc, V.int.injEq, V.bl.injEq, V.ref.injEq, V.str.injEq, reduceCtorEq, decide_true, decide_false, Bool.not_true, Bool.not_false, Bool.false_eq_true, if_false, if_true, ite_true, ite_false, List.length_cons, List.length_nil, tRaise, tErr, LamX.tLam, TTe])
    generalize hE : WE (wAs K _ 6 _ _ _) = E
    have hA : ∀ H1, Same H H1 → atE (bif k then T.c_InvalidCount else T.c_InvalidRates) i H1 (E [some (nv qn), some n, some wt, some sl, some fa, some jo, none]) := by
      subst hE
      intro H1 s1 H2 d s2 hd
      have s3 : Same H (upd H2 d (.xd [(("at" : Str), .int i)])) := (s1.trans s2).trans (same_new hd)
      cases k with
      | true =>
        refine ⟨true, T.ex_CB, fun _ a ha => ?_, fun z => nomatch z⟩
        (try simp only [tVar, tC, tOp, tUn, rI, rI0, rU, rEq, rNe, scal, tTest, tB, tAnd, tOr, tNot, tAndV, tOrV, tNotV, tIf, tChain, tNil, tCons, tCB, tCall, tTup, tLst, tRet, tRetN, tDrop, tSeq, tNext, tIfS, tAsg, gName, tPar, tPar3, gNil, gCons, gTup, gSub, tAug, tSl, tNoPart, tPart, tBM, tBM0, tYes, tIsP, iSeq, iEnumA, RZ.iZipA, iRng1, iRng2, iList, iTup, rIsi, rIsB, rIxL, rIxT, rIxA, rLenA, rListOf, rTupOf, rSetL, rSlL, rCat, rAppend, tFld, sFld, tMake, tBits, Int.ofNat_inj, cast1, cast0, TruV, cxOf, Cx.nox, Cx.wish, tNever, tBreak, tCont, ipI, tDIn, tDNotIn, sDPut, tDNewT, tDNewK, tDGet, rSortedPO, rSortedI, rIn, rEqD, rNeD, rInD, rNotInD, tSSet, rIsV, rIntI, rIntB, rAbsN, tLstRg, tRg1, tRg2, List.append_nil, List.nil_append, List.cons_append, Option.some.injEq, exists_eq_left', exists_eq_left, exists_eq_right, exists_eq_right', List.getElem?_cons_zero, List.getElem?_cons_succ, List.set_cons_zero, List.set_cons_succ, List.cons.injEq, and_true, true_and, exists_and_left, exists_and_right, and_assoc, V.int.injEq, V.bl.injEq, V.ref.injEq, V.str.injEq, reduceCtorEq, decide_true, decide_false, Bool.not_true, Bool.not_false, Bool.false_eq_true, if_false, if_true, ite_true, ite_false, List.length_cons, List.length_nil, tRaise, tErr, LamX.tLam, TTe])
        refine isO T.y_InvalidCount upd_same T.ki_CC ⟨true, rfl, iteT (isO T.y_InvalidCount upd_same T.ki_CR ⟨false, rfl, iteT ?_⟩)⟩
        (try simp only [tVar, tC, tOp, tUn, rI, rI0, rU, rEq, rNe, scal, tTest, tB, tAnd, tOr, tNot, tAndV, tOrV, tNotV, tIf, tChain, tNil, tCons, tCB, tCall, tTup, tLst, tRet, tRetN, tDrop, tSeq, tNext, tIfS, tAsg, gName, tPar, tPar3, gNil, gCons, gTup, gSub, tAug, tSl, tNoPart, tPart, tBM, tBM0, tYes, tIsP, iSeq, iEnumA, RZ.iZipA, iRng1, iRng2, iList, iTup, rIsi, rIsB, rIxL, rIxT, rIxA, rLenA, rListOf, rTupOf, rSetL, rSlL, rCat, rAppend, tFld, sFld, tMake, tBits, Int.ofNat_inj, cast1, cast0, TruV, cxOf, Cx.nox, Cx.wish, tNever, tBreak, tCont, ipI, tDIn, tDNotIn, sDPut, tDNewT, tDNewK, tDGet, rSortedPO, rSortedI, rIn, rEqD, rNeD, rInD, rNotInD, tSSet, rIsV, rIntI, rIntB, rAbsN, tLstRg, tRg1, tRg2, List.append_nil, List.nil_append, List.cons_append, Option.some.injEq, exists_eq_left', exists_eq_left, exists_eq_right, exists_eq_right', List.getElem?_cons_zero, List.getElem?_cons_succ, List.set_cons_zero, List.set_cons_succ, List.cons.injEq, and_true, true_and, exists_and_left, exists_and_right, and_assoc, V.int.injEq, V.bl.injEq, V.ref.injEq, V.str.injEq, reduceCtorEq, decide_true, decide_false, Bool.not_true, Bool.not_false, Bool.false_eq_true, if_false, if_true, ite_true, ite_false, List.length_cons, List.length_nil, tRaise, tErr, LamX.tLam, TTe, tXf])
        exact ⟨rfl, _, upd_same, _, rfl, by decide, fun p hp => q _ p s3 hp⟩
      | false =>
        refine ⟨true, T.ex_RB, fun _ a ha => ?_, fun z => nomatch z⟩
        (try simp only [tVar, tC, tOp, tUn, rI, rI0, rU, rEq, rNe, scal, tTest, tB, tAnd, tOr, tNot, tAndV, tOrV, tNotV, tIf, tChain, tNil, tCons, tCB, tCall, tTup, tLst, tRet, tRetN, tDrop, tSeq, tNext, tIfS, tAsg, gName, tPar, tPar3, gNil, gCons, gTup, gSub, tAug, tSl, tNoPart, tPart, tBM, tBM0, tYes, tIsP, iSeq, iEnumA, RZ.iZipA, iRng1, iRng2, iList, iTup, rIsi, rIsB, rIxL, rIxT, rIxA, rLenA, rListOf, rTupOf, rSetL, rSlL, rCat, rAppend, tFld, sFld, tMake, tBits, Int.ofNat_inj, cast1, cast0, TruV, cxOf, Cx.nox, Cx.wish, tNever, tBreak, tCont, ipI, tDIn, tDNotIn, sDPut, tDNewT, tDNewK, tDGet, rSortedPO, rSortedI, rIn, rEqD, rNeD, rInD, rNotInD, tSSet, rIsV, rIntI, rIntB, rAbsN, tLstRg, tRg1, tRg2, List.append_nil, List.nil_append, List.cons_append, Option.some.injEq, exists_eq_left', exists_eq_left, exists_eq_right, exists_eq_right', List.getElem?_cons_zero, List.getElem?_cons_succ, List.set_cons_zero, List.set_cons_succ, List.cons.injEq, and_true, true_and, exists_and_left, exists_and_right, and_assoc, V.int.injEq, V.bl.injEq, V.ref.injEq, V.str.injEq, reduceCtorEq, decide_true, decide_false, Bool.not_true, Bool.not_false, Bool.false_eq_true, if_false, if_true, ite_true, ite_false, List.length_cons, List.length_nil, tRaise, tErr, LamX.tLam, TTe])
        refine isO T.y_InvalidRates upd_same T.ki_RC ⟨false, rfl, iteF (isO T.y_InvalidRates upd_same T.ki_RR ⟨true, rfl, iteT (isO T.y_InvalidRates upd_same T.ki_RC ⟨false, rfl, iteT ?_⟩)⟩)⟩
        (try simp only [tVar, tC, tOp, tUn, rI, rI0, rU, rEq, rNe, scal, tTest, tB, tAnd, tOr, tNot, tAndV, tOrV, tNotV, tIf, tChain, tNil, tCons, tCB, tCall, tTup, tLst, tRet, tRetN, tDrop, tSeq, tNext, tIfS, tAsg, gName, tPar, tPar3, gNil, gCons, gTup, gSub, tAug, tSl, tNoPart, tPart, tBM, tBM0, tYes, tIsP, iSeq, iEnumA, RZ.iZipA, iRng1, iRng2, iList, iTup, rIsi, rIsB, rIxL, rIxT, rIxA, rLenA, rListOf, rTupOf, rSetL, rSlL, rCat, rAppend, tFld, sFld, tMake, tBits, Int.ofNat_inj, cast1, cast0, TruV, cxOf, Cx.nox, Cx.wish, tNever, tBreak, tCont, ipI, tDIn, tDNotIn, sDPut, tDNewT, tDNewK, tDGet, rSortedPO, rSortedI, rIn, rEqD, rNeD, rInD, rNotInD, tSSet, rIsV, rIntI, rIntB, rAbsN, tLstRg, tRg1, tRg2, List.append_nil, List.nil_append, List.cons_append, Option.some.injEq, exists_eq_left', exists_eq_left, exists_eq_right, exists_eq_right', List.getElem?_cons_zero, List.getElem?_cons_succ, List.set_cons_zero, List.set_cons_succ, List.cons.injEq, and_true, true_and, exists_and_left, exists_and_right, and_assoc, V.int.injEq, V.bl.injEq, V.ref.injEq, V.str.injEq, reduceCtorEq, decide_true, decide_false, Bool.not_true, Bool.not_false, Bool.false_eq_true, if_false, if_true, ite_true, ite_false, List.length_cons, List.length_nil, tRaise, tErr, LamX.tLam, TTe, tXf])
        exact ⟨rfl, _, upd_same, _, rfl, by decide, fun p hp => q _ p s3 hp⟩
    clear hE
    (try simp only [tVar, tC, tOp, tUn, rI, rI0, rU, rEq, rNe, scal, tTest, tB, tAnd, tOr, tNot, tAndV, tOrV, tNotV, tIf, tChain, tNil, tCons, tCB, tCall, tTup, tLst, tRet, tRetN, tDrop, tSeq, tNext, tIfS, tAsg, gName, tPar, tPar3, gNil, gCons, gTup, gSub, tAug, tSl, tNoPart, tPart, tBM, tBM0, tYes, tIsP, iSeq, iEnumA, RZ.iZipA, iRng1, iRng2, iList, iTup, rIsi, rIsB, rIxL, rIxT, rIxA, rLenA, rListOf, rTupOf, rSetL, rSlL, rCat, rAppend, tFld, sFld, tMake, tBits, Int.ofNat_inj, cast1, cast0, TruV, cxOf, Cx.nox, Cx.wish, tNever, tBreak, tCont, ipI, tDIn, tDNotIn, sDPut, tDNewT, tDNewK, tDGet, rSortedPO, rSortedI, rIn, rEqD, rNeD, rInD, rNotInD, tSSet, rIsV, rIntI, rIntB, rAbsN, tLstRg, tRg1, tRg2, List.append_nil, List.nil_append, List.cons_append, Option.some.injEq, exists_eq_left', exists_eq_left, exists_eq_right, exists_eq_right', List.getElem?_cons_zero, List.getElem?_cons_succ, List.set_cons_zero, List.set_cons_succ, List.cons.injEq, and_true, true_and, exists_and_left, exists_and_right, and_assoc, V.int.injEq, V.bl.injEq, V.ref.injEq, V.str.injEq, reduceCtorEq, decide_true, decide_false, Bool.not_true, Bool.not_false, Bool.false_eq_true, if_false, if_true, ite_true, ite_false, List.length_cons, List.length_nil, tRaise, tErr, LamX.tLam, TTe, tCallS])
    rcases (show qn = 0 ∨ qn = 1 ∨ qn = 2 by omega) with rfl | rfl | rfl
    · refine iteT ⟨n, wt, sl, fa, jo, rfl, hr0.one (by decide) (hA _ (Same.refl _))⟩
    · refine iteF (iteT ⟨by decide, fun p hp => ?_⟩)
      have s1 : Same H (upd H p (.tup [.str "apart"])) := same_new hp
      exact ⟨n, wt, sl, fa, jo, _, rfl, (hr0.same s1).one (by decide) (hA _ s1)⟩
    · exact iteF (iteF ⟨wt, sl, fa, jo, rfl, hr0.two (hA _ (Same.refl _))⟩)
end
end Kr
namespace Kr
open PySem PySem.Spec PyProof.Rows L2 Kb
section
variable {P : Program} {w : World} {K : PySem.W.Frag} {mg : Str → Option Value} {base : Heap}
/-! ### drawn clocks -/
theorem take_i {b : Addr} {m : Int} {H : Hp} {Q : VK} {E : XK} (h1 : 1 ≤ m) (h2 : m < 1073741824) (hb : Bx b H) (q : ∀ H' k, Same (hbx b H) (hbx b H') → Bx b H' → 0 ≤ k → k < m → Q (.int k) H') : sp_law_take K [.ref b, .int m] H Q E := by
  obtain ⟨n, rfl⟩ := Int.eq_ofNat_of_zero_le (show 0 ≤ m by omega)
  exact ⟨b, n, rfl, ⟨by omega, by omega⟩, hb, fun H' k s hb' hk => q H' (k : Int) s hb' (by omega) (by omega)⟩
theorem pick_l {b a : Addr} {xs : List V} {H : Hp} {Q : VK} {E : XK} (hb : Bx b H) (hs : SqL K (hbx b H) a xs) (h1 : 1 ≤ xs.length) (h2 : xs.length ≤ 100) (q : ∀ H' x, Same (hbx b H) (hbx b H') → Bx b H' → x ∈ xs → Q x H') : sp_law_pick K [.ref b, .ref a] H Q E :=
  ⟨b, a, xs, rfl, hb, hs, ⟨h1, h2⟩, fun H' k x s hb' hk => q H' x s hb' (List.mem_of_getElem? hk)⟩
theorem pick_new {b p : Addr} {xs : List V} {H : Hp} {Q : VK} {E : XK} (hb : Bx b H) (hp : H p = none) (h1 : 1 ≤ xs.length) (h2 : xs.length ≤ 100) (q : ∀ H' x, Same (hbx b H) (hbx b H') → Bx b H' → x ∈ xs → Q x H') : sp_law_pick K [.ref b, .ref p] (upd H p (.lst xs)) Q E :=
  pick_l (hb.same (same_new hp)) (.of (hb.upd_new hp)) h1 h2 fun H' x s => q H' x ((hbx_mono (same_new hp)).trans s)
def sp_law_number (K : PySem.W.Frag) : Sp := fun vs H Q _ => ∃ b l, vs = [.ref b, .int l] ∧ (0 ≤ l ∧ l ≤ 1) ∧ Bx b H ∧ ∀ H' i, Same (hbx b H) (hbx b H') → Bx b H' → l ≤ i → i ≤ M9 → Q (.int i) H'
theorem ok__law_number (T : Tx P K mg) : FnOk P w K mg base CX0 3 T.a__law_number T.d__law_number ["box", "least"] (sp_law_number K) := by
  refine T.F__law_number.ok sc__law_number (fun vs H Q E h => ?_) (fun cdv A outer s H vs Q E hr h => ?_)
  · obtain ⟨b, l, rfl, _⟩ := h
    rfl
  · obtain ⟨b, l, rfl, ⟨l0, l1⟩, hb, q⟩ := h
    refine ⟨_, (pss_one (ps_ret (pe_call (ok__law_pick T) (hr.mono (by decide)) (by rfl) T.g__law_pick T.F__law_pick.kp T.b__law_pick .nil pass0 (pa_cons (pv 0) (pa_cons (pe_lst (pa_cons (pe_op op_add (pv 1) (pe_call (ok__law_take T) (hr.mono (by decide)) (by rfl) T.g__law_take T.F__law_take.kp T.b__law_take .nil pass0 (pa_cons (pv 0) (pa_cons pe_int pa_nil)))) (pa_cons (pe_op op_add (pv 1) (pe_call (ok__law_take T) (hr.mono (by decide)) (by rfl) T.g__law_take T.F__law_take.kp T.b__law_take .nil pass0 (pa_cons (pv 0) (pa_cons (pe_call (ok__law_pick T) (hr.mono (by decide)) (by rfl) T.g__law_pick T.F__law_pick.kp T.b__law_pick .nil pass0 (pa_cons (pv 0) (pa_cons (pe_lst (pa_cons pe_int (pa_cons pe_int (pa_cons pe_int pa_nil)))) pa_nil))) pa_nil)))) (pa_cons (pe_op op_pow pe_int pe_int) pa_nil)))) pa_nil))))), ?_⟩
    rw [show L2.start ["box", "least"] [.ref b, .int l] = [some (.ref b), some (.int l)] from rfl]
    (try simp only [tVar, tC, tOp, tUn, rI, rI0, rU, rEq, rNe, scal, tTest, tB, tAnd, tOr, tNot, tAndV, tOrV, tNotV, tIf, tChain, tNil, tCons, tCB, tCall, tTup, tLst, tRet, tRetN, tDrop, tSeq, tNext, tIfS, tAsg, gName, tPar, tPar3, gNil, gCons, gTup, gSub, tAug, tSl, tNoPart, tPart, tBM, tBM0, tYes, tIsP, iSeq, iEnumA, RZ.iZipA, iRng1, iRng2, iList, iTup, rIsi, rIsB, rIxL, rIxT, rIxA, rLenA, rListOf, rTupOf, rSetL, rSlL, rCat, rAppend, tFld, sFld, tMake, tBits, Int.ofNat_inj, cast1, cast0, TruV, cxOf, Cx.nox, Cx.wish, tNever, tBreak, tCont, ipI, tDIn, tDNotIn, sDPut, tDNewT, tDNewK, tDGet, rSortedPO, rSortedI, rIn, rEqD, rNeD, rInD, rNotInD, tSSet, rIsV, rIntI, rIntB, rAbsN, tLstRg, tRg1, tRg2, List.append_nil, List.nil_append, List.cons_append, Option.some.injEq, exists_eq_left', exists_eq_left, exists_eq_right, exists_eq_right', List.getElem?_cons_zero, List.getElem?_cons_succ, List.set_cons_zero, List.set_cons_succ, List.cons.injEq, and_true, true_and, exists_and_left, exists_and_right, and_assoc, V.int.injEq, V.bl.injEq, V.ref.injEq, V.str.injEq, reduceCtorEq, decide_true, decide_false, Bool.not_true, Bool.not_false, Bool.false_eq_true, if_false, if_true, ite_true, ite_false, List.length_cons, List.length_nil, tRaise, tErr, LamX.tLam, TTe])
    refine take_i (by decide) (by decide) hb fun H1 k s1 hb1 k0 k1 => ⟨_, rfl, ⟨by decide, fun p hp => ?_⟩⟩
    refine pick_new hb1 hp (by decide) (by decide) fun H2 x s2 hb2 hx => ?_
    have hx2 : ∃ m : Int, x = .int m ∧ 1 ≤ m ∧ m ≤ 100000000 := by
      simp only [List.mem_cons, List.not_mem_nil, or_false] at hx
      rcases hx with rfl | rfl | rfl
      · exact ⟨_, rfl, by decide, by decide⟩
      · exact ⟨_, rfl, by decide, by decide⟩
      · exact ⟨_, rfl, by decide, by decide⟩
    obtain ⟨m, rfl, m1, m2⟩ := hx2
    refine take_i m1 (by omega) hb2 fun H3 j s3 hb3 j0 j1 => ?_
    refine ⟨_, rfl, ⟨by decide, by decide, by decide⟩, by decide, fun p2 hp2 => pick_new hb3 hp2 (show 1 ≤ 3 by decide) (show 3 ≤ 100 by decide) fun H4 x s4 hb4 hx => ?_⟩
    have sm := ((s1.trans s2).trans s3).trans s4
    simp only [List.mem_cons, List.not_mem_nil, or_false] at hx
    rcases hx with rfl | rfl | rfl
    · exact q _ _ sm hb4 (by omega) (by unfold M9; omega)
    · exact q _ _ sm hb4 (by omega) (by unfold M9; omega)
    · exact q _ _ sm hb4 (by rw [show (10 : Int) ^ Int.toNat 9 = 1000000000 by decide]; omega) (by rw [show (10 : Int) ^ Int.toNat 9 = 1000000000 by decide]; unfold M9; omega)
theorem num {b : Addr} {l : Int} {H : Hp} {Q : VK} {E : XK} (h0 : 0 ≤ l) (h1 : l ≤ 1) (hb : Bx b H) (q : ∀ H' i, Same (hbx b H) (hbx b H') → Bx b H' → l ≤ i → i ≤ M9 → Q (.int i) H') : sp_law_number K [.ref b, .int l] H Q E := ⟨b, l, rfl, ⟨h0, h1⟩, hb, q⟩
def sp_law_paces (K : PySem.W.Frag) : Sp := fun vs H Q _ => ∃ b, vs = [.ref b] ∧ Bx b H ∧ ∀ H' p a b2 c s0 s1 f0 f1 j0 j1, Same (hbx b H) (hbx b H') → Bx b H' → H' p = some (.tup [.ref a, .ref b2, .ref c]) → (∀ w, 1 ≤ w → w ≤ M9 → ClkT K (hbx b H') a b2 c w s0 s1 f0 f1 j0 j1) → Q (.ref p) H'
theorem ok__law_paces (T : Tx P K mg) : FnOk P w K mg base CX0 4 T.a__law_paces T.d__law_paces ["box"] (sp_law_paces K) := by
  refine T.F__law_paces.ok sc__law_paces (fun vs H Q E h => ?_) (fun cdv A outer s H vs Q E hr h => ?_)
  · obtain ⟨b, rfl, _⟩ := h
    rfl
  · obtain ⟨b, rfl, hb, q⟩ := h
    refine ⟨_, (pss_cons (ps_par (i := 1) (j := 2) (by rfl) sc__law_paces.nd rfl rfl (by decide) rfl rfl (pa_cons (pe_tup (pa_cons (pe_call (ok__law_number T) (hr.mono (by decide)) (by rfl) T.g__law_number T.F__law_number.kp T.b__law_number .nil pass0 (pa_cons (pv 0) (pa_cons pe_int pa_nil))) (pa_cons (pe_call (ok__law_number T) (hr.mono (by decide)) (by rfl) T.g__law_number T.F__law_number.kp T.b__law_number .nil pass0 (pa_cons (pv 0) (pa_cons pe_int pa_nil))) pa_nil))) (pa_cons (pe_tup (pa_cons (pe_call (ok__law_number T) (hr.mono (by decide)) (by rfl) T.g__law_number T.F__law_number.kp T.b__law_number .nil pass0 (pa_cons (pv 0) (pa_cons pe_int pa_nil))) (pa_cons (pe_call (ok__law_number T) (hr.mono (by decide)) (by rfl) T.g__law_number T.F__law_number.kp T.b__law_number .nil pass0 (pa_cons (pv 0) (pa_cons pe_int pa_nil))) pa_nil))) pa_nil)) (by rfl))
      (pss_cons (ps_if (pt_cmpR op_eq (pe_call (ok__law_take T) (hr.mono (by decide)) (by rfl) T.g__law_take T.F__law_take.kp T.b__law_take .nil pass0 (pa_cons (pv 0) (pa_cons pe_int pa_nil))) pe_int (nomark _)) (pss_one (ps_set (i := 2) sc__law_paces.nd rfl (Or.inl rfl) (pe_call (ok__law_pick T) (hr.mono (by decide)) (by rfl) T.g__law_pick T.F__law_pick.kp T.b__law_pick .nil pass0 (pa_cons (pv 0) (pa_cons (pe_lst (pa_cons (pe_tup (pa_cons pe_int (pa_cons pe_int pa_nil))) (pa_cons (pe_tup (pa_cons pe_int (pa_cons pe_int pa_nil))) (pa_cons (pe_tup (pa_cons pe_int (pa_cons pe_int pa_nil))) pa_nil)))) pa_nil))))) pss_nil)
      (pss_cons (ps_set (i := 3) sc__law_paces.nd rfl (Or.inl rfl) (pe_call (ok__law_pick T) (hr.mono (by decide)) (by rfl) T.g__law_pick T.F__law_pick.kp T.b__law_pick .nil pass0 (pa_cons (pv 0) (pa_cons (pe_lst (pa_cons (pv 1) (pa_cons (pe_tup (pa_cons (pe_callB (call_min2 rfl) (by rfl) T.n_min (by decide +kernel) (pa_cons (pe_op op_pow pe_int pe_int) (pa_cons (pe_op op_add (pe_ix (ixT (K := K) rfl) (pv 1) pe_int (fun _ _ => rfl)) (pe_call (ok__law_take T) (hr.mono (by decide)) (by rfl) T.g__law_take T.F__law_take.kp T.b__law_take .nil pass0 (pa_cons (pv 0) (pa_cons pe_int pa_nil)))) pa_nil))) (pa_cons (pe_ix (ixT (K := K) rfl) (pv 1) pe_int (fun _ _ => rfl)) pa_nil))) (pa_cons (pe_tup (pa_cons (pe_ix (ixT (K := K) rfl) (pv 1) pe_int (fun _ _ => rfl)) (pa_cons (pe_op op_add pe_int (pe_call (ok__law_take T) (hr.mono (by decide)) (by rfl) T.g__law_take T.F__law_take.kp T.b__law_take .nil pass0 (pa_cons (pv 0) (pa_cons (pe_ix (ixT (K := K) rfl) (pv 1) pe_int (fun _ _ => rfl)) pa_nil)))) pa_nil))) (pa_cons (pe_tup (pa_cons (pe_op op_pow pe_int pe_int) (pa_cons pe_int pa_nil))) pa_nil))))) pa_nil))))
      (pss_one (ps_ret (pe_tup (pa_cons (pv 1) (pa_cons (pv 3) (pa_cons (pv 2) pa_nil))))))))), ?_⟩
    rw [show L2.start ["box", "slow", "journey", "fast"] [.ref b] = [some (.ref b), none, none, none] from rfl]
    generalize hS1 : tSeq (tIfS _ _ _) _ = S1
    (try simp only [tVar, tC, tOp, tUn, rI, rI0, rU, rEq, rNe, scal, tTest, tB, tAnd, tOr, tNot, tAndV, tOrV, tNotV, tIf, tChain, tNil, tCons, tCB, tCall, tTup, tLst, tRet, tRetN, tDrop, tSeq, tNext, tIfS, tAsg, gName, tPar, tPar3, gNil, gCons, gTup, gSub, tAug, tSl, tNoPart, tPart, tBM, tBM0, tYes, tIsP, iSeq, iEnumA, RZ.iZipA, iRng1, iRng2, iList, iTup, rIsi, rIsB, rIxL, rIxT, rIxA, rLenA, rListOf, rTupOf, rSetL, rSlL, rCat, rAppend, tFld, sFld, tMake, tBits, Int.ofNat_inj, cast1, cast0, TruV, cxOf, Cx.nox, Cx.wish, tNever, tBreak, tCont, ipI, tDIn, tDNotIn, sDPut, tDNewT, tDNewK, tDGet, rSortedPO, rSortedI, rIn, rEqD, rNeD, rInD, rNotInD, tSSet, rIsV, rIntI, rIntB, rAbsN, tLstRg, tRg1, tRg2, List.append_nil, List.nil_append, List.cons_append, Option.some.injEq, exists_eq_left', exists_eq_left, exists_eq_right, exists_eq_right', List.getElem?_cons_zero, List.getElem?_cons_succ, List.set_cons_zero, List.set_cons_succ, List.cons.injEq, and_true, true_and, exists_and_left, exists_and_right, and_assoc, V.int.injEq, V.bl.injEq, V.ref.injEq, V.str.injEq, reduceCtorEq, decide_true, decide_false, Bool.not_true, Bool.not_false, Bool.false_eq_true, if_false, if_true, ite_true, ite_false, List.length_cons, List.length_nil, tRaise, tErr, LamX.tLam, TTe])
    refine num (by decide) (by decide) hb fun H1 i1 s1 hb1 a1 a2 => num (by decide) (by decide) hb1 fun H2 i2 s2 hb2 a3 a4 => ⟨by decide, fun p hp => ?_⟩
    have n2 : Same (hbx b H2) (hbx b (upd H2 p (.tup [.int i1, .int i2]))) := hbx_mono (same_new hp)
    refine num (by decide) (by decide) (hb2.same (same_new hp)) fun H3 j0 s3 hb3 a5 a6 => num (by decide) (by decide) hb3 fun H4 j1 s4 hb4 a7 a8 => ⟨by decide, fun p1 hp1 => ?_⟩
    have n4 : Same (hbx b H4) (hbx b (upd H4 p1 (.tup [.int j0, .int j1]))) := hbx_mono (same_new hp1)
    have sl := n4 _ _ (s4 _ _ (s3 _ _ (hb2.upd_new (o := .tup [.int i1, .int i2]) hp)))
    have jo := hb4.upd_new (o := .tup [.int j0, .int j1]) hp1
    have sm := ((((s1.trans s2).trans n2).trans s3).trans s4).trans n4
    have hb5 := hb4.same (same_new (o := .tup [.int j0, .int j1]) hp1)
    generalize upd H4 p1 (.tup [.int j0, .int j1]) = H5 at sl jo sm hb5
    clear n4 n2 s1 s2 s3 s4
    subst hS1
    generalize hS2 : tSeq (tAsg _ _) _ = S2
    have p2 : ∀ H6 c k0 k1, Same (hbx b H5) (hbx b H6) → Bx b H6 → hbx b H6 c = some (.tup [.int k0, .int k1]) → 0 ≤ k0 → k0 ≤ M9 → 1 ≤ k1 → k1 ≤ M9 → S2 { nx := fun x H' => Q V.non H', rt := Q } [some (V.ref b), some (V.ref p), some (V.ref c), none] H6 := by
      intro H6 c k0 k1 s6 hb6 hc b1 b2 b3 b4
      subst hS2
      (try simp only [tVar, tC, tOp, tUn, rI, rI0, rU, rEq, rNe, scal, tTest, tB, tAnd, tOr, tNot, tAndV, tOrV, tNotV, tIf, tChain, tNil, tCons, tCB, tCall, tTup, tLst, tRet, tRetN, tDrop, tSeq, tNext, tIfS, tAsg, gName, tPar, tPar3, gNil, gCons, gTup, gSub, tAug, tSl, tNoPart, tPart, tBM, tBM0, tYes, tIsP, iSeq, iEnumA, RZ.iZipA, iRng1, iRng2, iList, iTup, rIsi, rIsB, rIxL, rIxT, rIxA, rLenA, rListOf, rTupOf, rSetL, rSlL, rCat, rAppend, tFld, sFld, tMake, tBits, Int.ofNat_inj, cast1, cast0, TruV, cxOf, Cx.nox, Cx.wish, tNever, tBreak, tCont, ipI, tDIn, tDNotIn, sDPut, tDNewT, tDNewK, tDGet, rSortedPO, rSortedI, rIn, rEqD, rNeD, rInD, rNotInD, tSSet, rIsV, rIntI, rIntB, rAbsN, tLstRg, tRg1, tRg2, List.append_nil, List.nil_append, List.cons_append, Option.some.injEq, exists_eq_left', exists_eq_left, exists_eq_right, exists_eq_right', List.getElem?_cons_zero, List.getElem?_cons_succ, List.set_cons_zero, List.set_cons_succ, List.cons.injEq, and_true, true_and, exists_and_left, exists_and_right, and_assoc, V.int.injEq, V.bl.injEq, V.ref.injEq, V.str.injEq, reduceCtorEq, decide_true, decide_false, Bool.not_true, Bool.not_false, Bool.false_eq_true, if_false, if_true, ite_true, ite_false, List.length_cons, List.length_nil, tRaise, tErr, LamX.tLam, TTe])
      have h10 : (10 : Int) ^ Int.toNat 9 = 1000000000 := by decide
      simp only [h10]
      have cp : CPow 10 9 := ⟨by decide, by decide, by decide⟩
      have tp : ∀ G, Same (hbx b H6) (hbx b G) → SqT K G p [.int i1, .int i2] := fun G s => .inl (.inl (hbx_le b G _ _ (s _ _ (s6 _ _ sl))))
      refine ⟨cp, _, tp H6 (Same.refl _), _, atI_nat (j := 0) rfl, take_i (by decide) (by decide) hb6 fun H7 x s7 hb7 x0 x1 => ⟨_, rfl, _, rfl, _, tp H7 s7, _, atI_nat (j := 1) rfl, by decide, fun t1 ht1 => ?_⟩⟩
      have hf1 : ∃ f0, (if i1 + x < 1000000000 then i1 + x else 1000000000) = f0 ∧ i1 ≤ f0 ∧ f0 ≤ M9 := ⟨_, rfl, by unfold M9 at a2; split <;> omega, by unfold M9; split <;> omega⟩
      obtain ⟨f0, ef, f1, f2⟩ := hf1
      simp only [ef]
      have s8 := s7.trans (hbx_mono (b := b) (same_new (o := .tup [.int f0, .int i2]) ht1))
      have r1 := hb7.upd_new (o := .tup [.int f0, .int i2]) ht1
      refine ⟨_, tp _ s8, _, atI_nat (j := 0) rfl, _, tp _ s8, _, atI_nat (j := 1) rfl, take_i a3 (by unfold M9 at a4; omega) (hb7.same (same_new ht1)) fun H9 y s9 hb9 y0 y1 => ⟨_, rfl, by decide, fun t2 ht2 => ⟨cp, by decide, fun t3 ht3 => ⟨by decide, fun L hL => ?_⟩⟩⟩⟩
      have r2 := hb9.upd_new (o := .tup [.int i1, .int (1 + y)]) ht2
      have hb10 := hb9.same (same_new (o := .tup [.int i1, .int (1 + y)]) ht2)
      have r3 := hb10.upd_new (o := .tup [.int 1000000000, .int 1]) ht3
      have hb11 := hb10.same (same_new (o := .tup [.int 1000000000, .int 1]) ht3)
      have n2 := hbx_mono (b := b) (same_new (o := .tup [.int i1, .int (1 + y)]) ht2)
      have n3 := hbx_mono (b := b) (same_new (o := .tup [.int 1000000000, .int 1]) ht3)
      refine pick_new hb11 hL (show 1 ≤ 4 by decide) (show 4 ≤ 100 by decide) fun H12 v s12 hb12 hv => ⟨by decide, fun r hr => ?_⟩
      have s13 := (((s8.trans s9).trans n2).trans n3).trans s12
      have n13 := hbx_mono (b := b) (same_new (o := .tup [.ref p, v, .ref c]) hr)
      have fv : ∃ f g0 g1, v = .ref f ∧ hbx b H12 f = some (.tup [.int g0, .int g1]) ∧ 1 ≤ g0 ∧ g0 ≤ M9 ∧ 1 ≤ g1 ∧ g1 ≤ M9 ∧ i1 * g1 ≤ g0 * i2 := by
        simp only [List.mem_cons, List.not_mem_nil, or_false] at hv
        rcases hv with rfl | rfl | rfl | rfl
        · exact ⟨p, i1, i2, rfl, s13 _ _ (s6 _ _ sl), a1, a2, a3, a4, Int.le_refl _⟩
        · exact ⟨t1, f0, i2, rfl, s12 _ _ (n3 _ _ (n2 _ _ (s9 _ _ r1))), by omega, f2, a3, a4, Int.mul_le_mul_of_nonneg_right f1 (by omega)⟩
        · exact ⟨t2, i1, 1 + y, rfl, s12 _ _ (n3 _ _ r2), a1, a2, by omega, by omega, Int.mul_le_mul_of_nonneg_left (by omega) (by omega)⟩
        · refine ⟨t3, 1000000000, 1, rfl, s12 _ _ r3, by decide, by decide, by decide, by decide, ?_⟩
          unfold M9 at a2
          omega
      obtain ⟨f, g0, g1, rfl, hf, v1, v2, v3, v4, v5⟩ := fv
      refine q _ r p f c i1 i2 g0 g1 k0 k1 (((sm.trans s6).trans s13).trans n13) (hb12.same (same_new hr)) upd_same fun w w1 w2 => ?_
      exact ⟨.inl (.inl (n13 _ _ (s13 _ _ (s6 _ _ sl)))), .inl (.inl (n13 _ _ hf)), .inl (.inl (n13 _ _ (s13 _ _ hc))), ⟨w1, w2, a1, a2, a3, a4, v1, v2, v3, v4, b1, b2, b3, b4, v5⟩⟩
    (try simp only [tVar, tC, tOp, tUn, rI, rI0, rU, rEq, rNe, scal, tTest, tB, tAnd, tOr, tNot, tAndV, tOrV, tNotV, tIf, tChain, tNil, tCons, tCB, tCall, tTup, tLst, tRet, tRetN, tDrop, tSeq, tNext, tIfS, tAsg, gName, tPar, tPar3, gNil, gCons, gTup, gSub, tAug, tSl, tNoPart, tPart, tBM, tBM0, tYes, tIsP, iSeq, iEnumA, RZ.iZipA, iRng1, iRng2, iList, iTup, rIsi, rIsB, rIxL, rIxT, rIxA, rLenA, rListOf, rTupOf, rSetL, rSlL, rCat, rAppend, tFld, sFld, tMake, tBits, Int.ofNat_inj, cast1, cast0, TruV, cxOf, Cx.nox, Cx.wish, tNever, tBreak, tCont, ipI, tDIn, tDNotIn, sDPut, tDNewT, tDNewK, tDGet, rSortedPO, rSortedI, rIn, rEqD, rNeD, rInD, rNotInD, tSSet, rIsV, rIntI, rIntB, rAbsN, tLstRg, tRg1, tRg2, List.append_nil, List.nil_append, List.cons_append, Option.some.injEq, exists_eq_left', exists_eq_left, exists_eq_right, exists_eq_right', List.getElem?_cons_zero, List.getElem?_cons_succ, List.set_cons_zero, List.set_cons_succ, List.cons.injEq, and_true, true_and, exists_and_left, exists_and_right, and_assoc, V.int.injEq, V.bl.injEq, V.ref.injEq, V.str.injEq, reduceCtorEq, decide_true, decide_false, Bool.not_true, Bool.not_false, Bool.false_eq_true, if_false, if_true, ite_true, ite_false, List.length_cons, List.length_nil, tRaise, tErr, LamX.tLam, TTe])
    refine take_i (by decide) (by decide) hb5 fun H6 x s6 hb6 x0 x1 => ⟨rfl, ?_⟩
    by_cases h0 : x = 0
    · subst h0
      refine iteT ⟨by decide, fun t1 ht1 => ⟨by decide, fun t2 ht2 => ⟨by decide, fun t3 ht3 => ⟨by decide, fun L hL => ?_⟩⟩⟩⟩
      have r1 := hb6.upd_new (o := .tup [.int 0, .int 1]) ht1
      have hb7 := hb6.same (same_new (o := .tup [.int 0, .int 1]) ht1)
      have r2 := hb7.upd_new (o := .tup [.int 0, .int 7]) ht2
      have hb8 := hb7.same (same_new (o := .tup [.int 0, .int 7]) ht2)
      have r3 := hb8.upd_new (o := .tup [.int 1, .int 3]) ht3
      have hb9 := hb8.same (same_new (o := .tup [.int 1, .int 3]) ht3)
      have n1 := hbx_mono (b := b) (same_new (o := .tup [.int 0, .int 1]) ht1)
      have n2 := hbx_mono (b := b) (same_new (o := .tup [.int 0, .int 7]) ht2)
      have n3 := hbx_mono (b := b) (same_new (o := .tup [.int 1, .int 3]) ht3)
      refine pick_new hb9 hL (show 1 ≤ 3 by decide) (show 3 ≤ 100 by decide) fun H12 v s12 hb12 hv => ?_
      have s13 := (((s6.trans n1).trans n2).trans n3).trans s12
      simp only [List.mem_cons, List.not_mem_nil, or_false] at hv
      rcases hv with rfl | rfl | rfl
      · exact p2 _ t1 0 1 s13 hb12 (s12 _ _ (n3 _ _ (n2 _ _ r1))) (by decide) (by decide) (by decide) (by decide)
      · exact p2 _ t2 0 7 s13 hb12 (s12 _ _ (n3 _ _ r2)) (by decide) (by decide) (by decide) (by decide)
      · exact p2 _ t3 1 3 s13 hb12 (s12 _ _ r3) (by decide) (by decide) (by decide) (by decide)
    · rw [dec0 h0]
      exact iteF (p2 _ p1 j0 j1 s6 hb6 (s6 _ _ jo) a5 a6 a7 a8)
end
end Kr
namespace Kr
open PySem PySem.Spec PyProof.Rows L2 Kb
section
variable {P : Program} {w : World} {K : PySem.W.Frag} {mg : Str → Option Value} {base : Heap}
/-! ### refusals in their order -/
def sD (s : Str) (i : Int) : PyData := .tuple [.str s, .int i]
theorem dp_si {H : Hp} {a : Addr} {s : Str} {i : Int} (h : H a = some (.tup [.str s, .int i])) : Dp K H (.ref a) (sD s i) := .tup (.inl (.inl h)) (.cons (.str _) (.cons (.int _) .nil))
theorem sh_si {s : Str} (hs : PyData.strOk s = true) (i : Int) : SeqAt.shaped (sD s i) = true := by
  simp [SeqAt.shaped, sD, PyData.canLay0, PyData.canLayAll0, PyData.depth, PyData.depthAll, hs]
theorem ne_si {s : Str} {i : Int} : (!PyData.eqv (sD s i) (sD s i)) = false := by
  simp [sD, PyData.eqv, PyData.eqvAll]
theorem ok_count : PyData.strOk ("count" : Str) = true := by decide +kernel
theorem ok_rates : PyData.strOk ("rates" : Str) = true := by decide +kernel
theorem noI {H : Hp} {x : V} {t : Value} {b1 b2 : Bool} (h : TyX K H x t) (h1 : PySem.W.kitOne K t (.type "int") = some b1) (h2 : PySem.W.kitOne K t (.type "bool") = some b2) (e : (b1 && !b2) = false) : AsInt K H x none := ⟨t, b1, b2, h, h1, h2, e⟩
def sp_law_refused (K : PySem.W.Frag) : Sp := fun vs H Q _ => ∃ b n w a b2 c s0 s1 f0 f1 j0 j1, vs = [.ref b, .int n, .int w, .ref a, .ref b2, .ref c] ∧ Bx b H ∧ (1 ≤ n ∧ n ≤ M9) ∧ ClkT K (hbx b H) a b2 c w s0 s1 f0 f1 j0 j1 ∧ ∀ H', Same (hbx b H) (hbx b H') → Q (.bl true) H'
theorem ok__law_refused (T : Tx P K mg) : FnOk P w K mg base CX0 7 T.a__law_refused T.d__law_refused ["box", "count", "wait", "slow", "fast", "journey"] (sp_law_refused K) := by
  refine T.F__law_refused.ok sc__law_refused (fun vs H Q E h => ?_) (fun cdv A outer s H vs Q E hr h => ?_)
  · obtain ⟨b, n, w, a, b2, c, s0, s1, f0, f1, j0, j1, rfl, _⟩ := h
    rfl
  · obtain ⟨b, n, w, a, b2, c, s0, s1, f0, f1, j0, j1, rfl, hb, ⟨n1, n2⟩, C, q⟩ := h
    refine ⟨_, (pss_cons (ps_set (i := 6) sc__law_refused.nd rfl (Or.inl rfl) (pe_call (ok__law_pick T) (hr.mono (by decide)) (by rfl) T.g__law_pick T.F__law_pick.kp T.b__law_pick .nil pass0 (pa_cons (pv 0) (pa_cons (pe_lst (pa_cons pe_int (pa_cons (pe_op op_add (pe_op op_pow pe_int pe_int) pe_int) (pa_cons pe_non (pa_cons pe_bl (pa_cons pe_str (pa_cons (pe_op op_sub pe_int pe_int) pa_nil))))))) pa_nil))))
      (pss_cons (ps_set (i := 7) sc__law_refused.nd rfl (Or.inl rfl) (pe_call (ok__law_pick T) (hr.mono (by decide)) (by rfl) T.g__law_pick T.F__law_pick.kp T.b__law_pick .nil pass0 (pa_cons (pv 0) (pa_cons (pe_lst (pa_cons (pe_tup (pa_cons pe_int (pa_cons pe_int pa_nil))) (pa_cons (pe_tup (pa_cons (pe_op op_sub pe_int pe_int) (pa_cons pe_int pa_nil))) (pa_cons (pe_tup (pa_cons pe_int pa_nil)) (pa_cons pe_int (pa_cons pe_non (pa_cons (pe_tup (pa_cons pe_bl (pa_cons pe_int pa_nil))) (pa_cons (pe_tup (pa_cons pe_int (pa_cons (pe_op op_add (pe_op op_pow pe_int pe_int) pe_int) pa_nil))) (pa_cons (pe_tup (pa_cons (pe_op op_add (pe_op op_pow pe_int pe_int) pe_int) (pa_cons pe_int pa_nil))) (pa_cons pe_str pa_nil)))))))))) pa_nil))))
      (pss_cons (ps_for PassesOwn.never rfl (pi_range1 (by rfl) T.n_range (pa_cons pe_int pa_nil)) (pg_name (i := 8) sc__law_refused.nd rfl (Or.inl rfl)) (pss_cons (ps_if (PW.pt (pw_and (pt_cmpR op_lt (pv 8) pe_int (nomark _)) (pw_and1 (pt_cmpR (neDK (K := K) rfl hr.units) (pe_call (ok__law_said T) (hr.mono (by decide)) (by rfl) T.g__law_said T.F__law_said.kp T.b__law_said .nil pass0 (pa_cons (pv 8) (pa_cons (pv 6) (pa_cons (pv 6) (pa_cons (pv 7) (pa_cons (pv 7) (pa_cons (pv 7) pa_nil))))))) (pe_tup (pa_cons pe_str (pa_cons (pe_op op_sub pe_int pe_int) pa_nil))) (nomark _))))) (pss_one (ps_ret pe_bl)) pss_nil)
      (pss_cons (ps_if (PW.pt (pw_or (pt_cmpR (neDK (K := K) rfl hr.units) (pe_call (ok__law_said T) (hr.mono (by decide)) (by rfl) T.g__law_said T.F__law_said.kp T.b__law_said .nil pass0 (pa_cons (pv 8) (pa_cons (pv 1) (pa_cons (pv 6) (pa_cons (pv 7) (pa_cons (pv 7) (pa_cons (pv 7) pa_nil))))))) (pe_tup (pa_cons pe_str (pa_cons (pe_op op_sub pe_int pe_int) pa_nil))) (nomark _)) (pw_or1 (pt_cmpR (neDK (K := K) rfl hr.units) (pe_call (ok__law_said T) (hr.mono (by decide)) (by rfl) T.g__law_said T.F__law_said.kp T.b__law_said .nil pass0 (pa_cons (pv 8) (pa_cons (pv 1) (pa_cons (pv 2) (pa_cons (pv 7) (pa_cons (pv 7) (pa_cons (pv 7) pa_nil))))))) (pe_tup (pa_cons pe_str (pa_cons pe_int pa_nil))) (nomark _))))) (pss_one (ps_ret pe_bl)) pss_nil)
      (pss_cons (ps_if (PW.pt (pw_or (pt_cmpR (neDK (K := K) rfl hr.units) (pe_call (ok__law_said T) (hr.mono (by decide)) (by rfl) T.g__law_said T.F__law_said.kp T.b__law_said .nil pass0 (pa_cons (pv 8) (pa_cons (pv 1) (pa_cons (pv 2) (pa_cons (pe_tup (pa_cons pe_int (pa_cons pe_int pa_nil))) (pa_cons (pv 7) (pa_cons (pv 7) pa_nil))))))) (pe_tup (pa_cons pe_str (pa_cons pe_int pa_nil))) (nomark _)) (pw_or1 (pt_cmpR (neDK (K := K) rfl hr.units) (pe_call (ok__law_said T) (hr.mono (by decide)) (by rfl) T.g__law_said T.F__law_said.kp T.b__law_said .nil pass0 (pa_cons (pv 8) (pa_cons (pv 1) (pa_cons (pv 2) (pa_cons (pv 3) (pa_cons (pv 7) (pa_cons (pv 7) pa_nil))))))) (pe_tup (pa_cons pe_str (pa_cons pe_int pa_nil))) (nomark _))))) (pss_one (ps_ret pe_bl)) pss_nil)
      (pss_cons (ps_if (pt_cmpR (neDK (K := K) rfl hr.units) (pe_call (ok__law_said T) (hr.mono (by decide)) (by rfl) T.g__law_said T.F__law_said.kp T.b__law_said .nil pass0 (pa_cons (pv 8) (pa_cons (pv 1) (pa_cons (pv 2) (pa_cons (pv 3) (pa_cons (pv 4) (pa_cons (pv 7) pa_nil))))))) (pe_tup (pa_cons pe_str (pa_cons pe_int pa_nil))) (nomark _)) (pss_one (ps_ret pe_bl)) pss_nil)
      (pss_one (ps_if (pt_cmpR (neDK (K := K) rfl hr.units) (pe_call (ok__law_said T) (hr.mono (by decide)) (by rfl) T.g__law_said T.F__law_said.kp T.b__law_said .nil pass0 (pa_cons (pv 8) (pa_cons (pv 1) (pa_cons (pv 2) (pa_cons (pv 3) (pa_cons (pe_tup (pa_cons (pe_op op_sub (pe_ix (ixT (K := K) rfl) (pv 3) pe_int (fun _ _ => rfl)) pe_int) (pa_cons (pe_ix (ixT (K := K) rfl) (pv 3) pe_int (fun _ _ => rfl)) pa_nil))) (pa_cons (pv 7) pa_nil))))))) (pe_tup (pa_cons pe_str (pa_cons pe_int pa_nil))) (nomark _)) (pss_one (ps_ret pe_bl)) pss_nil)))))))
      (pss_one (ps_ret pe_bl))))), ?_⟩
    rw [show L2.start ["box", "count", "wait", "slow", "fast", "journey", "bad", "pair", "question"] [.ref b, .int n, .int w, .ref a, .ref b2, .ref c] = [some (.ref b), some (.int n), some (.int w), some (.ref a), some (.ref b2), some (.ref c), none, none, none] from rfl]
    generalize hF1 : tFor _ _ _ = F1
    (try simp only [tVar, tC, tOp, tUn, rI, rI0, rU, rEq, rNe, scal, tTest, tB, tAnd, tOr, tNot, tAndV, tOrV, tNotV, tIf, tChain, tNil, tCons, tCB, tCall, tTup, tLst, tRet, tRetN, tDrop, tSeq, tNext, tIfS, tAsg, gName, tPar, tPar3, gNil, gCons, gTup, gSub, tAug, tSl, tNoPart, tPart, tBM, tBM0, tYes, tIsP, iSeq, iEnumA, RZ.iZipA, iRng1, iRng2, iList, iTup, rIsi, rIsB, rIxL, rIxT, rIxA, rLenA, rListOf, rTupOf, rSetL, rSlL, rCat, rAppend, tFld, sFld, tMake, tBits, Int.ofNat_inj, cast1, cast0, TruV, cxOf, Cx.nox, Cx.wish, tNever, tBreak, tCont, ipI, tDIn, tDNotIn, sDPut, tDNewT, tDNewK, tDGet, rSortedPO, rSortedI, rIn, rEqD, rNeD, rInD, rNotInD, tSSet, rIsV, rIntI, rIntB, rAbsN, tLstRg, tRg1, tRg2, List.append_nil, List.nil_append, List.cons_append, Option.some.injEq, exists_eq_left', exists_eq_left, exists_eq_right, exists_eq_right', List.getElem?_cons_zero, List.getElem?_cons_succ, List.set_cons_zero, List.set_cons_succ, List.cons.injEq, and_true, true_and, exists_and_left, exists_and_right, and_assoc, V.int.injEq, V.bl.injEq, V.ref.injEq, V.str.injEq, reduceCtorEq, decide_true, decide_false, Bool.not_true, Bool.not_false, Bool.false_eq_true, if_false, if_true, ite_true, ite_false, List.length_cons, List.length_nil, tRaise, tErr, LamX.tLam, TTe])
    refine ⟨⟨by decide, by decide, by decide⟩, by decide, fun l1 hl1 => pick_new hb hl1 (show 1 ≤ 6 by decide) (show 6 ≤ 100 by decide) fun H1 bad s1' hb1 hx => ?_⟩
    have hbad : ∃ o, (∀ G, Same (hbx b H1) (hbx b G) → AsInt K G bad o) ∧ between 1 M9 o = false := by
      simp only [List.mem_cons, List.not_mem_nil, or_false] at hx
      rcases hx with rfl | rfl | rfl | rfl | rfl | rfl
      · exact ⟨some 0, fun _ _ => rfl, by decide⟩
      · exact ⟨some _, fun _ _ => rfl, by decide⟩
      · exact ⟨none, fun _ _ => noI (.base .non) rfl rfl rfl, rfl⟩
      · exact ⟨none, fun _ _ => noI (.base (.bl true)) rfl rfl rfl, rfl⟩
      · exact ⟨none, fun _ _ => noI (.base (.str _)) rfl rfl rfl, rfl⟩
      · exact ⟨some _, fun _ _ => rfl, by decide⟩
    obtain ⟨o, hbad2, hbo⟩ := hbad
    refine ⟨by decide, fun t0 h0 => ⟨by decide, fun t1 h1 => ⟨by decide, fun t2 h2 => ⟨by decide, fun t3 h3 => ⟨⟨by decide, by decide, by decide⟩, by decide, fun t4 h4 => ⟨⟨by decide, by decide, by decide⟩, by decide, fun t5 h5 => ⟨by decide, fun l2 hl2 => ?_⟩⟩⟩⟩⟩⟩⟩
    have r0 := hb1.upd_new (o := .tup [.int 1, .int 0]) h0
    have m0 := hbx_mono (b := b) (same_new (o := .tup [.int 1, .int 0]) h0)
    have hb_0 := hb1.same (same_new (o := .tup [.int 1, .int 0]) h0)
    have r1 := hb_0.upd_new (o := .tup [.int (0 - 1), .int 1]) h1
    have m1 := hbx_mono (b := b) (same_new (o := .tup [.int (0 - 1), .int 1]) h1)
    have hb_1 := hb_0.same (same_new (o := .tup [.int (0 - 1), .int 1]) h1)
    have r2 := hb_1.upd_new (o := .tup [.int 1]) h2
    have m2 := hbx_mono (b := b) (same_new (o := .tup [.int 1]) h2)
    have hb_2 := hb_1.same (same_new (o := .tup [.int 1]) h2)
    have r3 := hb_2.upd_new (o := .tup [.bl true, .int 1]) h3
    have m3 := hbx_mono (b := b) (same_new (o := .tup [.bl true, .int 1]) h3)
    have hb_3 := hb_2.same (same_new (o := .tup [.bl true, .int 1]) h3)
    have r4 := hb_3.upd_new (o := .tup [.int 1, .int (10 ^ Int.toNat 9 + 1)]) h4
    have m4 := hbx_mono (b := b) (same_new (o := .tup [.int 1, .int (10 ^ Int.toNat 9 + 1)]) h4)
    have hb_4 := hb_3.same (same_new (o := .tup [.int 1, .int (10 ^ Int.toNat 9 + 1)]) h4)
    have r5 := hb_4.upd_new (o := .tup [.int (10 ^ Int.toNat 9 + 1), .int 1]) h5
    have m5 := hbx_mono (b := b) (same_new (o := .tup [.int (10 ^ Int.toNat 9 + 1), .int 1]) h5)
    have hb_5 := hb_4.same (same_new (o := .tup [.int (10 ^ Int.toNat 9 + 1), .int 1]) h5)
    refine pick_new hb_5 hl2 (show 1 ≤ 9 by decide) (show 9 ≤ 100 by decide) fun H2 pair s2' hb2 hy => ?_
    have hpair : FracV K H2 pair none := by
      simp only [List.mem_cons, List.not_mem_nil, or_false] at hy
      rcases hy with rfl | rfl | rfl | rfl | rfl | rfl | rfl | rfl | rfl
      · exact .second (o := some 0) (.inr (.inl (.inl (hbx_le b H2 _ _ (s2' _ _ (m5 _ _ (m4 _ _ (m3 _ _ (m2 _ _ (m1 _ _ (r0))))))))))) (by decide) (by decide) rfl (by decide)
      · exact .first (o := some (0 - 1)) (.inr (.inl (.inl (hbx_le b H2 _ _ (s2' _ _ (m5 _ _ (m4 _ _ (m3 _ _ (m2 _ _ (r1)))))))))) rfl (by decide)
      · exact .size (.inr (.inl (.inl (hbx_le b H2 _ _ (s2' _ _ (m5 _ _ (m4 _ _ (m3 _ _ (r2))))))))) (by decide)
      · exact .noSeq (.base (.int 5)) rfl
      · exact .noSeq (.base .non) rfl
      · exact .first (.inr (.inl (.inl (hbx_le b H2 _ _ (s2' _ _ (m5 _ _ (m4 _ _ (r3)))))))) (noI (.base (.bl true)) rfl rfl rfl) rfl
      · exact .second (o := some (10 ^ Int.toNat 9 + 1)) (.inr (.inl (.inl (hbx_le b H2 _ _ (s2' _ _ (m5 _ _ (r4))))))) (by decide) (by decide) rfl (by decide)
      · exact .first (o := some (10 ^ Int.toNat 9 + 1)) (.inr (.inl (.inl (hbx_le b H2 _ _ (s2' _ _ (r5)))))) rfl (by decide)
      · exact .noSeq (.base (.str _)) rfl
    have s3 : Same (hbx b H) (hbx b H2) := (((((((s1'.trans m0).trans m1).trans m2).trans m3).trans m4).trans m5).trans s2')
    have ho2 : AsInt K H2 bad o := hbad2 _ ((((((m0.trans m1).trans m2).trans m3).trans m4).trans m5).trans s2')
    have C2 := C.same (s3.trans (hbx_le b H2))
    clear m0 m1 m2 m3 m4 m5 r0 r1 r2 r3 r4 r5
    subst hF1
    obtain ⟨Pv, hPv⟩ : ∃ Pv : Nat → L2.St → Hp → Prop, ∀ i σ' H', Pv i σ' H' = (∃ y, σ' = [some (.ref b), some (.int n), some (.int w), some (.ref a), some (.ref b2), some (.ref c), some bad, some pair, y] ∧ Same H2 H') := ⟨_, fun _ _ _ => rfl⟩
    refine forR1 3 Pv (fun R h => by (try simp only [tVar, tC, tOp, tUn, rI, rI0, rU, rEq, rNe, scal, tTest, tB, tAnd, tOr, tNot, tAndV, tOrV, tNotV, tIf, tChain, tNil, tCons, tCB, tCall, tTup, tLst, tRet, tRetN, tDrop, tSeq, tNext, tIfS, tAsg, gName, tPar, tPar3, gNil, gCons, gTup, gSub, tAug, tSl, tNoPart, tPart, tBM, tBM0, tYes, tIsP, iSeq, iEnumA, RZ.iZipA, iRng1, iRng2, iList, iTup, rIsi, rIsB, rIxL, rIxT, rIxA, rLenA, rListOf, rTupOf, rSetL, rSlL, rCat, rAppend, tFld, sFld, tMake, tBits, Int.ofNat_inj, cast1, cast0, TruV, cxOf, Cx.nox, Cx.wish, tNever, tBreak, tCont, ipI, tDIn, tDNotIn, sDPut, tDNewT, tDNewK, tDGet, rSortedPO, rSortedI, rIn, rEqD, rNeD, rInD, rNotInD, tSSet, rIsV, rIntI, rIntB, rAbsN, tLstRg, tRg1, tRg2, List.append_nil, List.nil_append, List.cons_append, Option.some.injEq, exists_eq_left', exists_eq_left, exists_eq_right, exists_eq_right', List.getElem?_cons_zero, List.getElem?_cons_succ, List.set_cons_zero, List.set_cons_succ, List.cons.injEq, and_true, true_and, exists_and_left, exists_and_right, and_assoc, V.int.injEq, V.bl.injEq, V.ref.injEq, V.str.injEq, reduceCtorEq, decide_true, decide_false, Bool.not_true, Bool.not_false, Bool.false_eq_true, if_false, if_true, ite_true, ite_false, List.length_cons, List.length_nil, tRaise, tErr, LamX.tLam, TTe]); exact h) (by decide) (by rw [hPv]; exact ⟨_, rfl, Same.refl _⟩) (fun i σ' H' hi z => ?_) (fun σ' H' z => ?_)
    · rw [hPv] at z
      obtain ⟨y, rfl, sH⟩ := z
      generalize hS : tSeq (tIfS (tOr _ _) _ _) _ = S
      have p1 : ∀ (D : Ends) X1, Same H2 X1 → (∀ Y, Same H2 Y → D.nx [some (.ref b), some (.int n), some (.int w), some (.ref a), some (.ref b2), some (.ref c), some bad, some pair, some (nv i)] Y) → S D [some (.ref b), some (.int n), some (.int w), some (.ref a), some (.ref b2), some (.ref c), some bad, some pair, some (nv i)] X1 := by
        intro D X1 e1 hD
        subst hS
        (try simp only [tVar, tC, tOp, tUn, rI, rI0, rU, rEq, rNe, scal, tTest, tB, tAnd, tOr, tNot, tAndV, tOrV, tNotV, tIf, tChain, tNil, tCons, tCB, tCall, tTup, tLst, tRet, tRetN, tDrop, tSeq, tNext, tIfS, tAsg, gName, tPar, tPar3, gNil, gCons, gTup, gSub, tAug, tSl, tNoPart, tPart, tBM, tBM0, tYes, tIsP, iSeq, iEnumA, RZ.iZipA, iRng1, iRng2, iList, iTup, rIsi, rIsB, rIxL, rIxT, rIxA, rLenA, rListOf, rTupOf, rSetL, rSlL, rCat, rAppend, tFld, sFld, tMake, tBits, Int.ofNat_inj, cast1, cast0, TruV, cxOf, Cx.nox, Cx.wish, tNever, tBreak, tCont, ipI, tDIn, tDNotIn, sDPut, tDNewT, tDNewK, tDGet, rSortedPO, rSortedI, rIn, rEqD, rNeD, rInD, rNotInD, tSSet, rIsV, rIntI, rIntB, rAbsN, tLstRg, tRg1, tRg2, List.append_nil, List.nil_append, List.cons_append, Option.some.injEq, exists_eq_left', exists_eq_left, exists_eq_right, exists_eq_right', List.getElem?_cons_zero, List.getElem?_cons_succ, List.set_cons_zero, List.set_cons_succ, List.cons.injEq, and_true, true_and, exists_and_left, exists_and_right, and_assoc, V.int.injEq, V.bl.injEq, V.ref.injEq, V.str.injEq, reduceCtorEq, decide_true, decide_false, Bool.not_true, Bool.not_false, Bool.false_eq_true, if_false, if_true, ite_true, ite_false, List.length_cons, List.length_nil, tRaise, tErr, LamX.tLam, TTe])
        refine ⟨_, _, _, _, _, _, true, (0 - 1), rfl, hi, (.inr ⟨fun _ => ⟨n, rfl, n1, n2⟩, (.wait (AsInt.same e1 ho2) hbo)⟩), fun G1 p1 sG1 hp1 => ⟨by decide, fun r1 hr1 => ⟨_, dp_si (s := "count") (i := (0 - 1)) (same_new hr1 _ _ upd_same), _, dp_si (s := "count") (i := (0 - 1)) upd_same, sh_si ok_count _, sh_si ok_count _, ?_⟩⟩⟩
        rw [ne_si]
        refine iteF ?_
        have e2 := (e1.trans sG1).trans ((same_new (o := .tup [.str (saidW true), .int ((0 - 1))]) hp1).trans (same_new (o := .tup [.str "count", .int ((0 - 1))]) hr1))
        generalize upd (upd G1 p1 _) r1 _ = X2 at e2
        refine ⟨_, _, _, _, _, _, false, 0, rfl, hi, (.inr ⟨fun _ => ⟨n, rfl, n1, n2⟩, (.slow C2.ck.w1 C2.ck.w2 (hpair.same e2))⟩), fun G2 p2 sG2 hp2 => ⟨by decide, fun r2 hr2 => ⟨_, dp_si (s := "rates") (i := 0) (same_new hr2 _ _ upd_same), _, dp_si (s := "rates") (i := 0) upd_same, sh_si ok_rates _, sh_si ok_rates _, ?_⟩⟩⟩
        rw [ne_si]
        refine iteF ?_
        have e3 := (e2.trans sG2).trans ((same_new (o := .tup [.str (saidW false), .int (0)]) hp2).trans (same_new (o := .tup [.str "rates", .int (0)]) hr2))
        generalize upd (upd G2 p2 _) r2 _ = X3 at e3
        refine ⟨by decide, fun t ht => ?_⟩
        have e4 := e3.trans (same_new (o := .tup [.int 0, .int 1]) ht)
        have h4 : SqT K (upd X3 t (.tup [.int 0, .int 1])) t [.int 0, .int 1] := .inl (.inl upd_same)
        generalize upd X3 t (.tup [.int 0, .int 1]) = X4 at e4 h4
        refine ⟨_, _, _, _, _, _, false, 0, rfl, hi, (.inr ⟨fun _ => ⟨n, rfl, n1, n2⟩, (.zero C2.ck.w1 C2.ck.w2 (.inr h4) (by decide) (by decide))⟩), fun G4 p4 sG4 hp4 => ⟨by decide, fun r4 hr4 => ⟨_, dp_si (s := "rates") (i := 0) (same_new hr4 _ _ upd_same), _, dp_si (s := "rates") (i := 0) upd_same, sh_si ok_rates _, sh_si ok_rates _, ?_⟩⟩⟩
        rw [ne_si]
        refine iteF ?_
        have e5 := (e4.trans sG4).trans ((same_new (o := .tup [.str (saidW false), .int (0)]) hp4).trans (same_new (o := .tup [.str "rates", .int (0)]) hr4))
        generalize upd (upd G4 p4 _) r4 _ = X5 at e5
        refine ⟨_, _, _, _, _, _, false, 1, rfl, hi, (.inr ⟨fun _ => ⟨n, rfl, n1, n2⟩, (.fast C2.ck.w1 C2.ck.w2 (.inr (C2.same e5).ha) C2.ck.s01 C2.ck.s02 C2.ck.s11 C2.ck.s12 (hpair.same e5))⟩), fun G5 p5 sG5 hp5 => ⟨by decide, fun r5 hr5 => ⟨_, dp_si (s := "rates") (i := 1) (same_new hr5 _ _ upd_same), _, dp_si (s := "rates") (i := 1) upd_same, sh_si ok_rates _, sh_si ok_rates _, ?_⟩⟩⟩
        rw [ne_si]
        refine iteF ?_
        have e6 := (e5.trans sG5).trans ((same_new (o := .tup [.str (saidW false), .int (1)]) hp5).trans (same_new (o := .tup [.str "rates", .int (1)]) hr5))
        generalize upd (upd G5 p5 _) r5 _ = X6 at e6
        refine ⟨_, _, _, _, _, _, false, 2, rfl, hi, (.inr ⟨fun _ => ⟨n, rfl, n1, n2⟩, (.way C2.ck.w1 C2.ck.w2 (.inr (C2.same e6).ha) C2.ck.s01 C2.ck.s02 C2.ck.s11 C2.ck.s12 (.inr (C2.same e6).hb) (by have := C2.ck.f01; omega) C2.ck.f02 C2.ck.f11 C2.ck.f12 C2.ck.sf (hpair.same e6))⟩), fun G6 p6 sG6 hp6 => ⟨by decide, fun r6 hr6 => ⟨_, dp_si (s := "rates") (i := 2) (same_new hr6 _ _ upd_same), _, dp_si (s := "rates") (i := 2) upd_same, sh_si ok_rates _, sh_si ok_rates _, ?_⟩⟩⟩
        rw [ne_si]
        refine iteF ?_
        have e7 := (e6.trans sG6).trans ((same_new (o := .tup [.str (saidW false), .int (2)]) hp6).trans (same_new (o := .tup [.str "rates", .int (2)]) hr6))
        generalize upd (upd G6 p6 _) r6 _ = X7 at e7
        refine ⟨_, (C2.same e7).ha, _, atI_nat (j := 0) rfl, _, rfl, _, (C2.same e7).ha, _, atI_nat (j := 1) rfl, by decide, fun u hu => ?_⟩
        have e8 := e7.trans (same_new (o := .tup [.int (s0 - 1), .int s1]) hu)
        have h8 : SqT K (upd X7 u (.tup [.int (s0 - 1), .int s1])) u [.int (s0 - 1), .int s1] := .inl (.inl upd_same)
        generalize upd X7 u (.tup [.int (s0 - 1), .int s1]) = X8 at e8 h8
        have lt8 : (s0 - 1) * s1 < s0 * s1 := Int.mul_lt_mul_of_pos_right (by omega) (by have := C2.ck.s11; omega)
        refine ⟨_, _, _, _, _, _, false, 1, rfl, hi, (.inr ⟨fun _ => ⟨n, rfl, n1, n2⟩, (.slower C2.ck.w1 C2.ck.w2 (.inr (C2.same e8).ha) C2.ck.s01 C2.ck.s02 C2.ck.s11 C2.ck.s12 (.inr h8) (by have := C2.ck.s01; omega) (by have := C2.ck.s02; omega) C2.ck.s11 C2.ck.s12 lt8)⟩), fun G8 p8 sG8 hp8 => ⟨by decide, fun r8 hr8 => ⟨_, dp_si (s := "rates") (i := 1) (same_new hr8 _ _ upd_same), _, dp_si (s := "rates") (i := 1) upd_same, sh_si ok_rates _, sh_si ok_rates _, ?_⟩⟩⟩
        rw [ne_si]
        refine iteF ?_
        have e9 := (e8.trans sG8).trans ((same_new (o := .tup [.str (saidW false), .int (1)]) hp8).trans (same_new (o := .tup [.str "rates", .int (1)]) hr8))
        generalize upd (upd G8 p8 _) r8 _ = X9 at e9
        exact hD _ e9
      (try simp only [tVar, tC, tOp, tUn, rI, rI0, rU, rEq, rNe, scal, tTest, tB, tAnd, tOr, tNot, tAndV, tOrV, tNotV, tIf, tChain, tNil, tCons, tCB, tCall, tTup, tLst, tRet, tRetN, tDrop, tSeq, tNext, tIfS, tAsg, gName, tPar, tPar3, gNil, gCons, gTup, gSub, tAug, tSl, tNoPart, tPart, tBM, tBM0, tYes, tIsP, iSeq, iEnumA, RZ.iZipA, iRng1, iRng2, iList, iTup, rIsi, rIsB, rIxL, rIxT, rIxA, rLenA, rListOf, rTupOf, rSetL, rSlL, rCat, rAppend, tFld, sFld, tMake, tBits, Int.ofNat_inj, cast1, cast0, TruV, cxOf, Cx.nox, Cx.wish, tNever, tBreak, tCont, ipI, tDIn, tDNotIn, sDPut, tDNewT, tDNewK, tDGet, rSortedPO, rSortedI, rIn, rEqD, rNeD, rInD, rNotInD, tSSet, rIsV, rIntI, rIntB, rAbsN, tLstRg, tRg1, tRg2, List.append_nil, List.nil_append, List.cons_append, Option.some.injEq, exists_eq_left', exists_eq_left, exists_eq_right, exists_eq_right', List.getElem?_cons_zero, List.getElem?_cons_succ, List.set_cons_zero, List.set_cons_succ, List.cons.injEq, and_true, true_and, exists_and_left, exists_and_right, and_assoc, V.int.injEq, V.bl.injEq, V.ref.injEq, V.str.injEq, reduceCtorEq, decide_true, decide_false, Bool.not_true, Bool.not_false, Bool.false_eq_true, if_false, if_true, ite_true, ite_false, List.length_cons, List.length_nil, tRaise, tErr, LamX.tLam, TTe])
      by_cases i2 : i < 2
      · rw [decide_eq_true (show (i : Int) < 2 by omega)]
        refine iteT ?_
        refine ⟨_, _, _, _, _, _, true, (0 - 1), rfl, hi, (.inl ⟨i2, rfl, rfl, o, AsInt.same sH ho2, hbo⟩), fun GH pH sGH hpH => ⟨by decide, fun rH hrH => ⟨_, dp_si (s := "count") (i := (0 - 1)) (same_new hrH _ _ upd_same), _, dp_si (s := "count") (i := (0 - 1)) upd_same, sh_si ok_count _, sh_si ok_count _, ?_⟩⟩⟩
        rw [ne_si]
        refine iteF ?_
        have eJ := (sH.trans sGH).trans ((same_new (o := .tup [.str (saidW true), .int ((0 - 1))]) hpH).trans (same_new (o := .tup [.str "count", .int ((0 - 1))]) hrH))
        generalize upd (upd GH pH _) rH _ = XJ at eJ
        refine p1 _ _ eJ fun Y hY => ?_
        show Pv (i + 1) _ _
        rw [hPv]
        exact ⟨_, rfl, hY⟩
      · rw [decide_eq_false (show ¬ (i : Int) < 2 by omega)]
        refine iteF (p1 _ _ sH fun Y hY => ?_)
        show Pv (i + 1) _ _
        rw [hPv]
        exact ⟨_, rfl, hY⟩
    · rw [hPv] at z
      obtain ⟨y, rfl, sH⟩ := z
      (try simp only [tVar, tC, tOp, tUn, rI, rI0, rU, rEq, rNe, scal, tTest, tB, tAnd, tOr, tNot, tAndV, tOrV, tNotV, tIf, tChain, tNil, tCons, tCB, tCall, tTup, tLst, tRet, tRetN, tDrop, tSeq, tNext, tIfS, tAsg, gName, tPar, tPar3, gNil, gCons, gTup, gSub, tAug, tSl, tNoPart, tPart, tBM, tBM0, tYes, tIsP, iSeq, iEnumA, RZ.iZipA, iRng1, iRng2, iList, iTup, rIsi, rIsB, rIxL, rIxT, rIxA, rLenA, rListOf, rTupOf, rSetL, rSlL, rCat, rAppend, tFld, sFld, tMake, tBits, Int.ofNat_inj, cast1, cast0, TruV, cxOf, Cx.nox, Cx.wish, tNever, tBreak, tCont, ipI, tDIn, tDNotIn, sDPut, tDNewT, tDNewK, tDGet, rSortedPO, rSortedI, rIn, rEqD, rNeD, rInD, rNotInD, tSSet, rIsV, rIntI, rIntB, rAbsN, tLstRg, tRg1, tRg2, List.append_nil, List.nil_append, List.cons_append, Option.some.injEq, exists_eq_left', exists_eq_left, exists_eq_right, exists_eq_right', List.getElem?_cons_zero, List.getElem?_cons_succ, List.set_cons_zero, List.set_cons_succ, List.cons.injEq, and_true, true_and, exists_and_left, exists_and_right, and_assoc, V.int.injEq, V.bl.injEq, V.ref.injEq, V.str.injEq, reduceCtorEq, decide_true, decide_false, Bool.not_true, Bool.not_false, Bool.false_eq_true, if_false, if_true, ite_true, ite_false, List.length_cons, List.length_nil, tRaise, tErr, LamX.tLam, TTe])
      exact q _ (s3.trans (hbx_mono sH))
end
end Kr
namespace Kr
open PySem PySem.Spec PyProof.Rows L2 Kb
section
variable {P : Program} {w : World} {K : PySem.W.Frag} {mg : Str → Option Value} {base : Heap}
/-! ### hours of the law's own making -/
def GoodL (K : PySem.W.Frag) (H : Hp) (L : Addr) (m : Nat) : Prop := ∃ xs, H L = some (.lst xs) ∧ xs.length ≤ m ∧ ∀ x ∈ xs, ∃ o, PapV K H x o
theorem GoodL.same {H H' : Hp} {L : Addr} {m : Nat} (e : Same H H') (h : GoodL K H L m) : GoodL K H' L m := by
  obtain ⟨xs, h1, h2, h3⟩ := h
  exact ⟨xs, e _ _ h1, h2, fun x hx => by obtain ⟨o, ho⟩ := h3 x hx; exact ⟨o, ho.same e⟩⟩
theorem GoodL.new {H : Hp} {L : Addr} {m : Nat} {xs : List V} (hL : H L = none) (hm : xs.length ≤ m) (h : ∀ x ∈ xs, ∃ o, PapV K H x o) : GoodL K (upd H L (.lst xs)) L m :=
  ⟨xs, upd_same, hm, fun x hx => by obtain ⟨o, ho⟩ := h x hx; exact ⟨o, ho.same (same_new hL)⟩⟩
theorem low_pos {x y : Int} (hx : 0 ≤ x) (hy : 0 < y) : 0 ≤ (lowI x y).1 ∧ (lowI x y).1 ≤ x ∧ 0 ≤ (lowI x y).2 ∧ (lowI x y).2 ≤ y := by
  have h1 := Nat.div_le_self x.toNat (Nat.gcd x.toNat y.toNat)
  have h2 := Nat.div_le_self y.toNat (Nat.gcd x.toNat y.toNat)
  unfold lowI
  dsimp only
  generalize x.toNat / Nat.gcd x.toNat y.toNat = u at h1 ⊢
  generalize y.toNat / Nat.gcd x.toNat y.toNat = v at h2 ⊢
  omega
theorem sz_between {n : Nat} {x y : Int} (h : Sz n y) (h0 : 0 ≤ x) (h1 : x ≤ y) : Sz n x := h.le (by omega)
theorem lowg {x y : Int} {H : Hp} {Q : VK} {E : XK} (hx : 0 ≤ x) (hy : 0 < y) (zx : Sz 300 x) (zy : Sz 130 y) (q : ∀ p g0 g1, H p = none → Sz 300 g0 → Sz 130 g1 → Q (.ref p) (upd H p (.tup [.int g0, .int g1]))) : sp_law_low K [.int x, .int y] H Q E := by
  obtain ⟨h1, h2, h3, h4⟩ := low_pos hx hy
  exact ⟨x, y, rfl, hx, hy, zy.mono (by decide), fun p hp => q p _ _ hp (sz_between zx h1 h2) (sz_between zy h3 h4)⟩
def sp_law_hours (K : PySem.W.Frag) : Sp := fun vs H Q _ => ∃ b n w a b2 c s0 s1 f0 f1 j0 j1, vs = [.ref b, .int n, .int w, .ref a, .ref b2, .ref c] ∧ (1 ≤ n ∧ n ≤ M9) ∧ ClkT K H a b2 c w s0 s1 f0 f1 j0 j1 ∧ ∀ H' L, Same H H' → GoodL K H' L 50 → Q (.ref L) H'
theorem ok__law_hours (T : Tx P K mg) : FnOk P w K mg base CX0 2 T.a__law_hours T.d__law_hours ["box", "count", "wait", "slow", "fast", "journey"] (sp_law_hours K) := by
  refine T.F__law_hours.ok sc__law_hours (fun vs H Q E h => ?_) (fun cdv A outer s H vs Q E hr h => ?_)
  · obtain ⟨b, n, w, a, b2, c, s0, s1, f0, f1, j0, j1, rfl, _⟩ := h
    rfl
  · obtain ⟨b, n, w, a, b2, c, s0, s1, f0, f1, j0, j1, rfl, ⟨n1, n2⟩, C, q⟩ := h
    refine ⟨_, (pss_cons (ps_set (i := 6) sc__law_hours.nd rfl (Or.inl rfl) (pe_lst (pa_cons (pe_tup (pa_cons (pe_op op_mulW (pv 1) (pe_ix (ixT (K := K) rfl) (pv 3) pe_int (fun _ _ => rfl))) (pa_cons (pe_ix (ixT (K := K) rfl) (pv 3) pe_int (fun _ _ => rfl)) pa_nil))) (pa_cons (pe_tup (pa_cons (pe_callB (call_max2 rfl) (by rfl) T.n_max (by decide +kernel) (pa_cons pe_int (pa_cons (pe_op op_sub (pe_op op_mulW (pe_op op_mulW (pv 2) (pe_ix (ixT (K := K) rfl) (pv 4) pe_int (fun _ _ => rfl))) (pe_ix (ixT (K := K) rfl) (pv 5) pe_int (fun _ _ => rfl))) (pe_op op_mulW (pe_ix (ixT (K := K) rfl) (pv 5) pe_int (fun _ _ => rfl)) (pe_ix (ixT (K := K) rfl) (pv 4) pe_int (fun _ _ => rfl)))) pa_nil))) (pa_cons (pe_op op_mulW (pe_ix (ixT (K := K) rfl) (pv 4) pe_int (fun _ _ => rfl)) (pe_ix (ixT (K := K) rfl) (pv 5) pe_int (fun _ _ => rfl))) pa_nil))) pa_nil))))
      (pss_cons (ps_set (i := 7) sc__law_hours.nd rfl (Or.inl rfl) (pe_lst (pa_cons (pe_tup (pa_cons pe_str pa_nil)) (pa_cons (pe_tup (pa_cons pe_str pa_nil)) (pa_cons (pe_tup (pa_cons pe_str (pa_cons (pe_tup (pa_cons pe_int (pa_cons pe_int pa_nil))) pa_nil))) (pa_cons (pe_tup (pa_cons pe_str (pa_cons pe_int pa_nil))) (pa_cons pe_non (pa_cons pe_bl (pa_cons (pe_lst (pa_cons pe_str pa_nil)) (pa_cons pe_str (pa_cons (pe_tup (pa_cons pe_str (pa_cons (pe_tup (pa_cons pe_int (pa_cons pe_int pa_nil))) pa_nil))) (pa_cons (pe_tup (pa_cons pe_str (pa_cons (pe_tup (pa_cons pe_int (pa_cons pe_int pa_nil))) pa_nil))) pa_nil))))))))))))
      (pss_cons (ps_for PassesOwn.never rfl (pseqK (K := K) rfl (pv 6)) (gtupK (K := K) (n := 2) rfl (by rfl) (pgs_cons (pg_name (i := 8) sc__law_hours.nd rfl (Or.inl rfl)) (pgs_cons (pg_name (i := 9) sc__law_hours.nd rfl (Or.inl rfl)) pgs_nil))) (pss_one (ps_for PassesOwn.never rfl (pseqK (K := K) rfl (pe_tup (pa_cons (pe_op op_sub pe_int pe_int) (pa_cons pe_int (pa_cons pe_int pa_nil))))) (pg_name (i := 10) sc__law_hours.nd rfl (Or.inl rfl)) (pss_cons (ps_set (i := 11) sc__law_hours.nd rfl (Or.inl rfl) (pe_call (ok__law_low T) (hr.mono (by decide)) (by rfl) T.g__law_low T.F__law_low.kp T.b__law_low .nil pass0 (pa_cons (pe_callB (call_max2 rfl) (by rfl) T.n_max (by decide +kernel) (pa_cons pe_int (pa_cons (pe_op op_add (pe_op op_mulW (pv 8) pe_int) (pv 10)) pa_nil))) (pa_cons (pe_op op_mulW (pv 9) pe_int) pa_nil))))
      (pss_one (ps_set (i := 7) sc__law_hours.nd rfl (Or.inl rfl) (pe_op op_cat (pv 7) (pe_lst (pa_cons (pe_tup (pa_cons pe_str (pa_cons (pv 11) pa_nil))) (pa_cons (pe_tup (pa_cons pe_str (pa_cons (pe_callTy (listOfK (K := K) rfl) (by rfl) T.n_list (by decide +kernel) (pa_cons (pv 11) pa_nil)) pa_nil))) (pa_cons (pe_tup (pa_cons pe_str (pa_cons (pe_tup (pa_cons (pe_op op_mulW (pe_ix (ixT (K := K) rfl) (pv 11) pe_int (fun _ _ => rfl)) pe_int) (pa_cons (pe_op op_mulW (pe_ix (ixT (K := K) rfl) (pv 11) pe_int (fun _ _ => rfl)) pe_int) pa_nil))) pa_nil))) (pa_cons (pe_tup (pa_cons pe_str (pa_cons (pe_tup (pa_cons (pe_op op_sub pe_int (pe_ix (ixT (K := K) rfl) (pv 11) pe_int (fun _ _ => rfl))) (pa_cons (pe_op op_sub pe_int (pe_ix (ixT (K := K) rfl) (pv 11) pe_int (fun _ _ => rfl))) pa_nil))) pa_nil))) pa_nil))))))))))))
      (pss_cons (ps_set (i := 12) sc__law_hours.nd rfl (Or.inl rfl) (pe_call (ok__law_low T) (hr.mono (by decide)) (by rfl) T.g__law_low T.F__law_low.kp T.b__law_low .nil pass0 (pa_cons (pe_op op_add (pe_op op_mulW (pe_ix (ixT (K := K) rfl) (pe_ix (ixL (K := K) rfl) (pv 6) pe_int (fun _ _ => rfl)) pe_int (fun _ _ => rfl)) (pe_ix (ixT (K := K) rfl) (pe_ix (ixL (K := K) rfl) (pv 6) pe_int (fun _ _ => rfl)) pe_int (fun _ _ => rfl))) (pe_op op_mulW (pe_ix (ixT (K := K) rfl) (pe_ix (ixL (K := K) rfl) (pv 6) pe_int (fun _ _ => rfl)) pe_int (fun _ _ => rfl)) (pe_ix (ixT (K := K) rfl) (pe_ix (ixL (K := K) rfl) (pv 6) pe_int (fun _ _ => rfl)) pe_int (fun _ _ => rfl)))) (pa_cons (pe_op op_mulW (pe_op op_mulW pe_int (pe_ix (ixT (K := K) rfl) (pe_ix (ixL (K := K) rfl) (pv 6) pe_int (fun _ _ => rfl)) pe_int (fun _ _ => rfl))) (pe_ix (ixT (K := K) rfl) (pe_ix (ixL (K := K) rfl) (pv 6) pe_int (fun _ _ => rfl)) pe_int (fun _ _ => rfl))) pa_nil))))
      (pss_one (ps_ret (pe_op op_cat (pv 7) (pe_lst (pa_cons (pe_tup (pa_cons pe_str (pa_cons (pv 12) pa_nil))) (pa_cons (pe_tup (pa_cons pe_str (pa_cons (pe_op (catTK (K := K) rfl) (pv 12) (pe_tup (pa_cons pe_int pa_nil))) pa_nil))) (pa_cons (pe_tup (pa_cons pe_str (pa_cons (pe_tup (pa_cons (pe_ix (ixT (K := K) rfl) (pv 12) pe_int (fun _ _ => rfl)) (pa_cons (pe_cmpR op_eq (pe_ix (ixT (K := K) rfl) (pv 12) pe_int (fun _ _ => rfl)) pe_int (nomark _)) pa_nil))) pa_nil))) (pa_cons (pe_tup (pa_cons pe_str (pa_cons (pv 12) pa_nil))) pa_nil)))))))))))), ?_⟩
    rw [show L2.start ["box", "count", "wait", "slow", "fast", "journey", "ends", "found", "top", "bottom", "more", "hour", "middle"] [.ref b, .int n, .int w, .ref a, .ref b2, .ref c] = [some (.ref b), some (.int n), some (.int w), some (.ref a), some (.ref b2), some (.ref c), none, none, none, none, none, none, none] from rfl]
    have K0 := C.ck
    have zn := szp (by omega) n2
    have zw := szp (by have := K0.w1; omega) K0.w2
    have zs0 := szp (by have := K0.s01; omega) K0.s02
    have zs1 := szp (by have := K0.s11; omega) K0.s12
    have zf0 := szp (by have := K0.f01; omega) K0.f02
    have zf1 := szp (by have := K0.f11; omega) K0.f12
    have zj0 := szp K0.j01 K0.j02
    have zj1 := szp (by have := K0.j11; omega) K0.j12
    generalize hS1 : tSeq (tAsg _ _) (tSeq (tFor _ _ _) _) = S1
    (try simp only [tVar, tC, tOp, tUn, rI, rI0, rU, rEq, rNe, scal, tTest, tB, tAnd, tOr, tNot, tAndV, tOrV, tNotV, tIf, tChain, tNil, tCons, tCB, tCall, tTup, tLst, tRet, tRetN, tDrop, tSeq, tNext, tIfS, tAsg, gName, tPar, tPar3, gNil, gCons, gTup, gSub, tAug, tSl, tNoPart, tPart, tBM, tBM0, tYes, tIsP, iSeq, iEnumA, RZ.iZipA, iRng1, iRng2, iList, iTup, rIsi, rIsB, rIxL, rIxT, rIxA, rLenA, rListOf, rTupOf, rSetL, rSlL, rCat, rAppend, tFld, sFld, tMake, tBits, Int.ofNat_inj, cast1, cast0, TruV, cxOf, Cx.nox, Cx.wish, tNever, tBreak, tCont, ipI, tDIn, tDNotIn, sDPut, tDNewT, tDNewK, tDGet, rSortedPO, rSortedI, rIn, rEqD, rNeD, rInD, rNotInD, tSSet, rIsV, rIntI, rIntB, rAbsN, tLstRg, tRg1, tRg2, List.append_nil, List.nil_append, List.cons_append, Option.some.injEq, exists_eq_left', exists_eq_left, exists_eq_right, exists_eq_right', List.getElem?_cons_zero, List.getElem?_cons_succ, List.set_cons_zero, List.set_cons_succ, List.cons.injEq, and_true, true_and, exists_and_left, exists_and_right, and_assoc, V.int.injEq, V.bl.injEq, V.ref.injEq, V.str.injEq, reduceCtorEq, decide_true, decide_false, Bool.not_true, Bool.not_false, Bool.false_eq_true, if_false, if_true, ite_true, ite_false, List.length_cons, List.length_nil, tRaise, tErr, LamX.tLam, TTe])
    refine ⟨_, C.ha, _, atI_nat (j := 1) rfl, _, rfl, zn.mulW zs1 (by decide), _, C.ha, _, atI_nat (j := 0) rfl, by decide, fun t1 h1 => ?_⟩
    have e1 := same_new (o := .tup [.int (n * s1), .int s0]) h1
    have r1 : (upd H t1 (.tup [.int (n * s1), .int s0])) t1 = some (.tup [.int (n * s1), .int s0]) := upd_same
    generalize upd H t1 (.tup [.int (n * s1), .int s0]) = H1 at e1 r1
    have C1 := C.same e1
    refine ⟨_, C1.hb, _, atI_nat (j := 1) rfl, _, rfl, zw.mulW zf1 (by decide), _, C1.hc, _, atI_nat (j := 1) rfl, _, rfl, (zw.mul zf1).mulW zj1 (by decide), _, C1.hc, _, atI_nat (j := 0) rfl, _, C1.hb, _, atI_nat (j := 0) rfl, _, rfl, _, rfl, zj0.mulW zf0 (by decide), _, C1.hb, _, atI_nat (j := 0) rfl, _, C1.hc, _, atI_nat (j := 1) rfl, _, rfl, _, rfl, zf0.mulW zj1 (by decide), by decide, ?_⟩
    have hT : ∃ T, (if w * f1 * j1 - j0 * f0 > 0 then w * f1 * j1 - j0 * f0 else 0) = T ∧ 0 ≤ T ∧ Sz 100 T := by
      refine ⟨_, rfl, by split <;> omega, ?_⟩
      split
      · exact (((zw.mul zf1).mul zj1).sub (zj0.mul zf0)).mono (by decide)
      · exact (szp (i := 0) (by decide) (by decide)).mono (by decide)
    obtain ⟨T0, eT, T1, zT⟩ := hT
    rw [eT]
    refine fun t2 h2 => ⟨by decide, fun E hE => ?_⟩
    have e2 : Same H (upd (upd H1 t2 (.tup [.int T0, .int (f0 * j1)])) E (.lst [.ref t1, .ref t2])) := (e1.trans (same_new h2)).trans (same_new hE)
    have q1 : (upd (upd H1 t2 (.tup [.int T0, .int (f0 * j1)])) E (.lst [.ref t1, .ref t2])) t1 = some (.tup [.int (n * s1), .int s0]) := same_new hE _ _ (same_new h2 _ _ r1)
    have q2 : (upd (upd H1 t2 (.tup [.int T0, .int (f0 * j1)])) E (.lst [.ref t1, .ref t2])) t2 = some (.tup [.int T0, .int (f0 * j1)]) := same_new hE _ _ upd_same
    have q3 : (upd (upd H1 t2 (.tup [.int T0, .int (f0 * j1)])) E (.lst [.ref t1, .ref t2])) E = some (.lst [.ref t1, .ref t2]) := upd_same
    generalize upd (upd H1 t2 (.tup [.int T0, .int (f0 * j1)])) E (.lst [.ref t1, .ref t2]) = H2 at e2 q1 q2 q3
    clear e1 r1 C1
    subst hS1
    generalize hS2 : tSeq (tFor _ _ _) _ = S2
    have p2 : ∀ G L, Same H2 G → GoodL K G L 10 → S2 { nx := fun x H' => Q V.non H', rt := Q } [some (.ref b), some (.int n), some (.int w), some (.ref a), some (.ref b2), some (.ref c), some (.ref E), some (.ref L), none, none, none, none, none] G := by
      intro G L eG gL
      subst hS2
      generalize hS3 : tSeq (tAsg _ _) (tRet _) = S3
      generalize hF2 : tFor _ _ _ = F2
      (try simp only [tVar, tC, tOp, tUn, rI, rI0, rU, rEq, rNe, scal, tTest, tB, tAnd, tOr, tNot, tAndV, tOrV, tNotV, tIf, tChain, tNil, tCons, tCB, tCall, tTup, tLst, tRet, tRetN, tDrop, tSeq, tNext, tIfS, tAsg, gName, tPar, tPar3, gNil, gCons, gTup, gSub, tAug, tSl, tNoPart, tPart, tBM, tBM0, tYes, tIsP, iSeq, iEnumA, RZ.iZipA, iRng1, iRng2, iList, iTup, rIsi, rIsB, rIxL, rIxT, rIxA, rLenA, rListOf, rTupOf, rSetL, rSlL, rCat, rAppend, tFld, sFld, tMake, tBits, Int.ofNat_inj, cast1, cast0, TruV, cxOf, Cx.nox, Cx.wish, tNever, tBreak, tCont, ipI, tDIn, tDNotIn, sDPut, tDNewT, tDNewK, tDGet, rSortedPO, rSortedI, rIn, rEqD, rNeD, rInD, rNotInD, tSSet, rIsV, rIntI, rIntB, rAbsN, tLstRg, tRg1, tRg2, List.append_nil, List.nil_append, List.cons_append, Option.some.injEq, exists_eq_left', exists_eq_left, exists_eq_right, exists_eq_right', List.getElem?_cons_zero, List.getElem?_cons_succ, List.set_cons_zero, List.set_cons_succ, List.cons.injEq, and_true, true_and, exists_and_left, exists_and_right, and_assoc, V.int.injEq, V.bl.injEq, V.ref.injEq, V.str.injEq, reduceCtorEq, decide_true, decide_false, Bool.not_true, Bool.not_false, Bool.false_eq_true, if_false, if_true, ite_true, ite_false, List.length_cons, List.length_nil, tRaise, tErr, LamX.tLam, TTe])
      obtain ⟨Pv, hPv⟩ : ∃ Pv : Nat → L2.St → Hp → Prop, ∀ i σ' H', Pv i σ' H' = (∃ L' y8 y9 y10 y11, σ' = [some (.ref b), some (.int n), some (.int w), some (.ref a), some (.ref b2), some (.ref c), some (.ref E), some (.ref L'), y8, y9, y10, y11, none] ∧ Same H2 H' ∧ GoodL K H' L' (10 + 12 * i)) := ⟨_, fun _ _ _ => rfl⟩
      subst hF2
      refine forS E [.ref t1, .ref t2] Pv (fun R h => by (try simp only [tVar, tC, tOp, tUn, rI, rI0, rU, rEq, rNe, scal, tTest, tB, tAnd, tOr, tNot, tAndV, tOrV, tNotV, tIf, tChain, tNil, tCons, tCB, tCall, tTup, tLst, tRet, tRetN, tDrop, tSeq, tNext, tIfS, tAsg, gName, tPar, tPar3, gNil, gCons, gTup, gSub, tAug, tSl, tNoPart, tPart, tBM, tBM0, tYes, tIsP, iSeq, iEnumA, RZ.iZipA, iRng1, iRng2, iList, iTup, rIsi, rIsB, rIxL, rIxT, rIxA, rLenA, rListOf, rTupOf, rSetL, rSlL, rCat, rAppend, tFld, sFld, tMake, tBits, Int.ofNat_inj, cast1, cast0, TruV, cxOf, Cx.nox, Cx.wish, tNever, tBreak, tCont, ipI, tDIn, tDNotIn, sDPut, tDNewT, tDNewK, tDGet, rSortedPO, rSortedI, rIn, rEqD, rNeD, rInD, rNotInD, tSSet, rIsV, rIntI, rIntB, rAbsN, tLstRg, tRg1, tRg2, List.append_nil, List.nil_append, List.cons_append, Option.some.injEq, exists_eq_left', exists_eq_left, exists_eq_right, exists_eq_right', List.getElem?_cons_zero, List.getElem?_cons_succ, List.set_cons_zero, List.set_cons_succ, List.cons.injEq, and_true, true_and, exists_and_left, exists_and_right, and_assoc, V.int.injEq, V.bl.injEq, V.ref.injEq, V.str.injEq, reduceCtorEq, decide_true, decide_false, Bool.not_true, Bool.not_false, Bool.false_eq_true, if_false, if_true, ite_true, ite_false, List.length_cons, List.length_nil, tRaise, tErr, LamX.tLam, TTe]); exact h) (by rw [hPv]; exact ⟨_, _, _, _, _, rfl, eG, gL⟩) H2 (.inl (.of q3)) (fun i σ' H' z => by rw [hPv] at z; obtain ⟨_, _, _, _, _, _, z, _⟩ := z; exact z) (fun i x σ' H' hx z => ?_) (fun σ' H' z => ?_)
      · rw [hPv] at z
        obtain ⟨L', y8, y9, y10, y11, rfl, sH, gH⟩ := z
        have hx2 : ∃ t top bot, x = .ref t ∧ H2 t = some (.tup [.int top, .int bot]) ∧ 0 ≤ top ∧ Sz 100 top ∧ 0 < bot ∧ Sz 61 bot := by
          have hm := List.mem_of_getElem? hx
          simp only [List.mem_cons, List.not_mem_nil, or_false] at hm
          rcases hm with rfl | rfl
          · exact ⟨t1, _, _, rfl, q1, Int.mul_nonneg (by omega) (by have := K0.s11; omega), (zn.mul zs1).mono (by decide), by have := K0.s01; omega, zs0.mono (by decide)⟩
          · exact ⟨t2, _, _, rfl, q2, T1, zT, Int.mul_pos (by have := K0.f01; omega) (by have := K0.j11; omega), (zf0.mul zj1).mono (by decide)⟩
        have hi0 := hx
        obtain ⟨t, top, bot, rfl, ht, tp0, ztp, bt0, zbt⟩ := hx2
        generalize hF3 : tFor _ _ _ = F3
        (try simp only [tVar, tC, tOp, tUn, rI, rI0, rU, rEq, rNe, scal, tTest, tB, tAnd, tOr, tNot, tAndV, tOrV, tNotV, tIf, tChain, tNil, tCons, tCB, tCall, tTup, tLst, tRet, tRetN, tDrop, tSeq, tNext, tIfS, tAsg, gName, tPar, tPar3, gNil, gCons, gTup, gSub, tAug, tSl, tNoPart, tPart, tBM, tBM0, tYes, tIsP, iSeq, iEnumA, RZ.iZipA, iRng1, iRng2, iList, iTup, rIsi, rIsB, rIxL, rIxT, rIxA, rLenA, rListOf, rTupOf, rSetL, rSlL, rCat, rAppend, tFld, sFld, tMake, tBits, Int.ofNat_inj, cast1, cast0, TruV, cxOf, Cx.nox, Cx.wish, tNever, tBreak, tCont, ipI, tDIn, tDNotIn, sDPut, tDNewT, tDNewK, tDGet, rSortedPO, rSortedI, rIn, rEqD, rNeD, rInD, rNotInD, tSSet, rIsV, rIntI, rIntB, rAbsN, tLstRg, tRg1, tRg2, List.append_nil, List.nil_append, List.cons_append, Option.some.injEq, exists_eq_left', exists_eq_left, exists_eq_right, exists_eq_right', List.getElem?_cons_zero, List.getElem?_cons_succ, List.set_cons_zero, List.set_cons_succ, List.cons.injEq, and_true, true_and, exists_and_left, exists_and_right, and_assoc, V.int.injEq, V.bl.injEq, V.ref.injEq, V.str.injEq, reduceCtorEq, decide_true, decide_false, Bool.not_true, Bool.not_false, Bool.false_eq_true, if_false, if_true, ite_true, ite_false, List.length_cons, List.length_nil, tRaise, tErr, LamX.tLam, TTe])
        refine ⟨_, .inl (.inl (sH _ _ ht)), rfl, _, _, rfl, _, _, rfl, rfl, ?_⟩
        subst hF3
        refine forSF (fun H1 p => H' p = none ∧ H1 = upd H' p (.tup [.int (0 - 1), .int 0, .int 1])) (fun R h => by (try simp only [tVar, tC, tOp, tUn, rI, rI0, rU, rEq, rNe, scal, tTest, tB, tAnd, tOr, tNot, tAndV, tOrV, tNotV, tIf, tChain, tNil, tCons, tCB, tCall, tTup, tLst, tRet, tRetN, tDrop, tSeq, tNext, tIfS, tAsg, gName, tPar, tPar3, gNil, gCons, gTup, gSub, tAug, tSl, tNoPart, tPart, tBM, tBM0, tYes, tIsP, iSeq, iEnumA, RZ.iZipA, iRng1, iRng2, iList, iTup, rIsi, rIsB, rIxL, rIxT, rIxA, rLenA, rListOf, rTupOf, rSetL, rSlL, rCat, rAppend, tFld, sFld, tMake, tBits, Int.ofNat_inj, cast1, cast0, TruV, cxOf, Cx.nox, Cx.wish, tNever, tBreak, tCont, ipI, tDIn, tDNotIn, sDPut, tDNewT, tDNewK, tDGet, rSortedPO, rSortedI, rIn, rEqD, rNeD, rInD, rNotInD, tSSet, rIsV, rIntI, rIntB, rAbsN, tLstRg, tRg1, tRg2, List.append_nil, List.nil_append, List.cons_append, Option.some.injEq, exists_eq_left', exists_eq_left, exists_eq_right, exists_eq_right', List.getElem?_cons_zero, List.getElem?_cons_succ, List.set_cons_zero, List.set_cons_succ, List.cons.injEq, and_true, true_and, exists_and_left, exists_and_right, and_assoc, V.int.injEq, V.bl.injEq, V.ref.injEq, V.str.injEq, reduceCtorEq, decide_true, decide_false, Bool.not_true, Bool.not_false, Bool.false_eq_true, if_false, if_true, ite_true, ite_false, List.length_cons, List.length_nil, tRaise, tErr, LamX.tLam, TTe]); exact ⟨by decide, fun p hp => h _ p ⟨hp, rfl⟩⟩) (fun H4 p4 hF => ?_)
        obtain ⟨hp4, e4⟩ := hF
        have s4 : Same H' H4 := by rw [e4]; exact same_new hp4
        have r4 : H4 p4 = some (.tup [.int (0 - 1), .int 0, .int 1]) := by rw [e4]; exact upd_same
        clear e4
        obtain ⟨Pw, hPw⟩ : ∃ Pw : Nat → L2.St → Hp → Prop, ∀ k σ' H', Pw k σ' H' = (∃ L' y10 y11, σ' = [some (.ref b), some (.int n), some (.int w), some (.ref a), some (.ref b2), some (.ref c), some (.ref E), some (.ref L'), some (.int top), some (.int bot), y10, y11, none] ∧ Same H4 H' ∧ GoodL K H' L' (10 + 12 * i + 4 * k)) := ⟨_, fun _ _ _ => rfl⟩
        refine ⟨p4, _, Pw, H4, rfl, by rw [hPw]; exact ⟨_, _, _, rfl, Same.refl _, gH.same s4⟩, .inr (.inl (.inl r4)), (fun k σ' H' z => by rw [hPw] at z; obtain ⟨_, _, _, _, z, _⟩ := z; exact z), (fun k x σ' H5 hx z => ?_), (fun σ' H5 z => ?_)⟩
        · rw [hPw] at z
          obtain ⟨L5, y10, y11, rfl, s5, g5⟩ := z
          have hx3 : ∃ m : Int, x = .int m ∧ -1 ≤ m ∧ m ≤ 1 := by
            have hm := List.mem_of_getElem? hx
            simp only [List.mem_cons, List.not_mem_nil, or_false] at hm
            rcases hm with rfl | rfl | rfl
            · exact ⟨_, rfl, by decide, by decide⟩
            · exact ⟨_, rfl, by decide, by decide⟩
            · exact ⟨_, rfl, by decide, by decide⟩
          obtain ⟨m, rfl, m1, m2⟩ := hx3
          (try simp only [tVar, tC, tOp, tUn, rI, rI0, rU, rEq, rNe, scal, tTest, tB, tAnd, tOr, tNot, tAndV, tOrV, tNotV, tIf, tChain, tNil, tCons, tCB, tCall, tTup, tLst, tRet, tRetN, tDrop, tSeq, tNext, tIfS, tAsg, gName, tPar, tPar3, gNil, gCons, gTup, gSub, tAug, tSl, tNoPart, tPart, tBM, tBM0, tYes, tIsP, iSeq, iEnumA, RZ.iZipA, iRng1, iRng2, iList, iTup, rIsi, rIsB, rIxL, rIxT, rIxA, rLenA, rListOf, rTupOf, rSetL, rSlL, rCat, rAppend, tFld, sFld, tMake, tBits, Int.ofNat_inj, cast1, cast0, TruV, cxOf, Cx.nox, Cx.wish, tNever, tBreak, tCont, ipI, tDIn, tDNotIn, sDPut, tDNewT, tDNewK, tDGet, rSortedPO, rSortedI, rIn, rEqD, rNeD, rInD, rNotInD, tSSet, rIsV, rIntI, rIntB, rAbsN, tLstRg, tRg1, tRg2, List.append_nil, List.nil_append, List.cons_append, Option.some.injEq, exists_eq_left', exists_eq_left, exists_eq_right, exists_eq_right', List.getElem?_cons_zero, List.getElem?_cons_succ, List.set_cons_zero, List.set_cons_succ, List.cons.injEq, and_true, true_and, exists_and_left, exists_and_right, and_assoc, V.int.injEq, V.bl.injEq, V.ref.injEq, V.str.injEq, reduceCtorEq, decide_true, decide_false, Bool.not_true, Bool.not_false, Bool.false_eq_true, if_false, if_true, ite_true, ite_false, List.length_cons, List.length_nil, tRaise, tErr, LamX.tLam, TTe])
          have z3 : ∀ {i : Int}, i = 2 ∨ i = 3 → Sz 2 i := fun h => by
            unfold Sz
            rcases h with rfl | rfl <;> decide
          replace z3 : Sz 2 3 ∧ Sz 2 2 := ⟨z3 (.inr rfl), z3 (.inl rfl)⟩
          obtain ⟨z3, z2⟩ := z3
          have zm : Sz 30 m := sz9 (by unfold M9; omega) (by unfold M9; omega)
          refine ⟨ztp.mulW z3 (by decide), zbt.mulW z3 (by decide), lowg (by split <;> omega) (by omega) (by split; exact ((ztp.mul z3).add zm).mono (by decide); exact (szp (i := 0) (by decide) (by decide)).mono (by decide)) ((zbt.mul z3).mono (by decide)) fun k0 g0 g1 kh0 zg0 zg1 => ?_⟩
          have kg0 := same_new (o := .tup [.int g0, .int g1]) kh0
          have kr0 : (upd H5 k0 (.tup [.int g0, .int g1])) k0 = some (.tup [.int g0, .int g1]) := upd_same
          generalize hY : upd H5 k0 (.tup [.int g0, .int g1]) = kY0 at kg0 kr0
          clear hY
          refine ⟨by decide, fun k1 kh1 => ?_⟩
          have kg1 := same_new (o := .tup [.str "late", .ref k0]) kh1
          have kr1 : (upd kY0 k1 (.tup [.str "late", .ref k0])) k1 = some (.tup [.str "late", .ref k0]) := upd_same
          generalize hY : upd kY0 k1 (.tup [.str "late", .ref k0]) = kY1 at kg1 kr1
          clear hY
          replace kr0 := kg1 _ _ kr0
          refine ⟨_, rfl, _, .inr (.inl (.inl kr0)), fun k2 kh2 => ?_⟩
          have kg2 := same_new (o := .lst [.int g0, .int g1]) kh2
          have kr2 : (upd kY1 k2 (.lst [.int g0, .int g1])) k2 = some (.lst [.int g0, .int g1]) := upd_same
          generalize hY : upd kY1 k2 (.lst [.int g0, .int g1]) = kY2 at kg2 kr2
          clear hY
          replace kr0 := kg2 _ _ kr0
          replace kr1 := kg2 _ _ kr1
          refine ⟨by decide, fun k3 kh3 => ?_⟩
          have kg3 := same_new (o := .tup [.str "late", .ref k2]) kh3
          have kr3 : (upd kY2 k3 (.tup [.str "late", .ref k2])) k3 = some (.tup [.str "late", .ref k2]) := upd_same
          generalize hY : upd kY2 k3 (.tup [.str "late", .ref k2]) = kY3 at kg3 kr3
          clear hY
          replace kr0 := kg3 _ _ kr0
          replace kr1 := kg3 _ _ kr1
          replace kr2 := kg3 _ _ kr2
          refine ⟨_, rfl, _, (.inl (.inl kr0)), _, atI_nat (j := 0) rfl, _, rfl, zg0.mulW z2 (by decide), _, rfl, _, (.inl (.inl kr0)), _, atI_nat (j := 1) rfl, _, rfl, zg1.mulW z2 (by decide), by decide, fun k4 kh4 => ?_⟩
          have kg4 := same_new (o := .tup [.int (g0 * 2), .int (g1 * 2)]) kh4
          have kr4 : (upd kY3 k4 (.tup [.int (g0 * 2), .int (g1 * 2)])) k4 = some (.tup [.int (g0 * 2), .int (g1 * 2)]) := upd_same
          generalize hY : upd kY3 k4 (.tup [.int (g0 * 2), .int (g1 * 2)]) = kY4 at kg4 kr4
          clear hY
          replace kr0 := kg4 _ _ kr0
          replace kr1 := kg4 _ _ kr1
          replace kr2 := kg4 _ _ kr2
          replace kr3 := kg4 _ _ kr3
          refine ⟨by decide, fun k5 kh5 => ?_⟩
          have kg5 := same_new (o := .tup [.str "late", .ref k4]) kh5
          have kr5 : (upd kY4 k5 (.tup [.str "late", .ref k4])) k5 = some (.tup [.str "late", .ref k4]) := upd_same
          generalize hY : upd kY4 k5 (.tup [.str "late", .ref k4]) = kY5 at kg5 kr5
          clear hY
          replace kr0 := kg5 _ _ kr0
          replace kr1 := kg5 _ _ kr1
          replace kr2 := kg5 _ _ kr2
          replace kr3 := kg5 _ _ kr3
          replace kr4 := kg5 _ _ kr4
          refine ⟨_, rfl, _, (.inl (.inl kr0)), _, atI_nat (j := 0) rfl, _, rfl, _, rfl, _, (.inl (.inl kr0)), _, atI_nat (j := 1) rfl, _, rfl, by decide, fun k6 kh6 => ?_⟩
          have kg6 := same_new (o := .tup [.int (0 - g0), .int (0 - g1)]) kh6
          have kr6 : (upd kY5 k6 (.tup [.int (0 - g0), .int (0 - g1)])) k6 = some (.tup [.int (0 - g0), .int (0 - g1)]) := upd_same
          generalize hY : upd kY5 k6 (.tup [.int (0 - g0), .int (0 - g1)]) = kY6 at kg6 kr6
          clear hY
          replace kr0 := kg6 _ _ kr0
          replace kr1 := kg6 _ _ kr1
          replace kr2 := kg6 _ _ kr2
          replace kr3 := kg6 _ _ kr3
          replace kr4 := kg6 _ _ kr4
          replace kr5 := kg6 _ _ kr5
          refine ⟨by decide, fun k7 kh7 => ?_⟩
          have kg7 := same_new (o := .tup [.str "late", .ref k6]) kh7
          have kr7 : (upd kY6 k7 (.tup [.str "late", .ref k6])) k7 = some (.tup [.str "late", .ref k6]) := upd_same
          generalize hY : upd kY6 k7 (.tup [.str "late", .ref k6]) = kY7 at kg7 kr7
          clear hY
          replace kr0 := kg7 _ _ kr0
          replace kr1 := kg7 _ _ kr1
          replace kr2 := kg7 _ _ kr2
          replace kr3 := kg7 _ _ kr3
          replace kr4 := kg7 _ _ kr4
          replace kr5 := kg7 _ _ kr5
          replace kr6 := kg7 _ _ kr6
          refine ⟨by decide, fun k8 kh8 => ?_⟩
          have kg8 := same_new (o := .lst [.ref k1, .ref k3, .ref k5, .ref k7]) kh8
          have kr8 : (upd kY7 k8 (.lst [.ref k1, .ref k3, .ref k5, .ref k7])) k8 = some (.lst [.ref k1, .ref k3, .ref k5, .ref k7]) := upd_same
          generalize hY : upd kY7 k8 (.lst [.ref k1, .ref k3, .ref k5, .ref k7]) = kY8 at kg8 kr8
          clear hY
          replace kr0 := kg8 _ _ kr0
          replace kr1 := kg8 _ _ kr1
          replace kr2 := kg8 _ _ kr2
          replace kr3 := kg8 _ _ kr3
          replace kr4 := kg8 _ _ kr4
          replace kr5 := kg8 _ _ kr5
          replace kr6 := kg8 _ _ kr6
          replace kr7 := kg8 _ _ kr7
          have ke := ((((((((kg0).trans kg1).trans kg2).trans kg3).trans kg4).trans kg5).trans kg6).trans kg7).trans kg8
          obtain ⟨xs, x1, x2, x3⟩ := g5.same ke
          refine ⟨xs, x1, _, kr8, by rw [sizeLine_eq]; show xs.length + 4 ≤ _; have := (List.getElem?_eq_some_iff.mp hx).1; have := (List.getElem?_eq_some_iff.mp hi0).1; simp only [List.length_cons, List.length_nil] at *; omega, fun p hp => ?_⟩
          show Pw (k + 1) _ _
          rw [hPw]
          refine ⟨_, _, _, rfl, (s5.trans ke).trans (same_new hp), GoodL.new hp (by rw [List.length_append]; show xs.length + 4 ≤ _; omega) fun y hy => ?_⟩
          rcases List.mem_append.mp hy with hy | hy
          · exact x3 y hy
          · simp only [List.mem_cons, List.not_mem_nil, or_false] at hy
            have w0 : Sz 302 (g0 * 2) := zg0.mul z2
            have w1 : Sz 132 (g1 * 2) := zg1.mul z2
            have v0 : Sz 300 (0 - g0) := zg0.le (by omega)
            have v1 : Sz 130 (0 - g1) := zg1.le (by omega)
            rcases hy with rfl | rfl | rfl | rfl
            · exact ⟨_, .two (.inl (.inl kr1)) (.pair (.inl (.inl kr0)) (zg0.mono (by decide)) (zg1.mono (by decide)))⟩
            · exact ⟨_, .two (.inl (.inl kr3)) (.noTup (tyL (.of kr2)) rfl)⟩
            · exact ⟨_, .two (.inl (.inl kr5)) (.pair (.inl (.inl kr4)) (w0.mono (by decide)) (w1.mono (by decide)))⟩
            · exact ⟨_, .two (.inl (.inl kr7)) (.pair (.inl (.inl kr6)) (v0.mono (by decide)) (v1.mono (by decide)))⟩
        · rw [hPw] at z
          obtain ⟨L5, y10, y11, rfl, s5, g5⟩ := z
          show Pv (i + 1) _ _
          rw [hPv]
          exact ⟨_, _, _, _, _, rfl, (sH.trans s4).trans s5, g5⟩
      · rw [hPv] at z
        obtain ⟨L', y8, y9, y10, y11, rfl, sH, gH⟩ := z
        subst hS3
        (try simp only [tVar, tC, tOp, tUn, rI, rI0, rU, rEq, rNe, scal, tTest, tB, tAnd, tOr, tNot, tAndV, tOrV, tNotV, tIf, tChain, tNil, tCons, tCB, tCall, tTup, tLst, tRet, tRetN, tDrop, tSeq, tNext, tIfS, tAsg, gName, tPar, tPar3, gNil, gCons, gTup, gSub, tAug, tSl, tNoPart, tPart, tBM, tBM0, tYes, tIsP, iSeq, iEnumA, RZ.iZipA, iRng1, iRng2, iList, iTup, rIsi, rIsB, rIxL, rIxT, rIxA, rLenA, rListOf, rTupOf, rSetL, rSlL, rCat, rAppend, tFld, sFld, tMake, tBits, Int.ofNat_inj, cast1, cast0, TruV, cxOf, Cx.nox, Cx.wish, tNever, tBreak, tCont, ipI, tDIn, tDNotIn, sDPut, tDNewT, tDNewK, tDGet, rSortedPO, rSortedI, rIn, rEqD, rNeD, rInD, rNotInD, tSSet, rIsV, rIntI, rIntB, rAbsN, tLstRg, tRg1, tRg2, List.append_nil, List.nil_append, List.cons_append, Option.some.injEq, exists_eq_left', exists_eq_left, exists_eq_right, exists_eq_right', List.getElem?_cons_zero, List.getElem?_cons_succ, List.set_cons_zero, List.set_cons_succ, List.cons.injEq, and_true, true_and, exists_and_left, exists_and_right, and_assoc, V.int.injEq, V.bl.injEq, V.ref.injEq, V.str.injEq, reduceCtorEq, decide_true, decide_false, Bool.not_true, Bool.not_false, Bool.false_eq_true, if_false, if_true, ite_true, ite_false, List.length_cons, List.length_nil, tRaise, tErr, LamX.tLam, TTe])
        have HE : SqL K H' E [.ref t1, .ref t2] := .of (sH _ _ q3)
        have HA : SqT K H' t1 [.int (n * s1), .int s0] := .inl (.inl (sH _ _ q1))
        have HB : SqT K H' t2 [.int T0, .int (f0 * j1)] := .inl (.inl (sH _ _ q2))
        have zb := zf0.mul zj1
        have z2 : Sz 2 2 := by
          unfold Sz
          decide
        refine ⟨_, HE, _, atI_nat (j := 0) rfl, _, rfl, _, HA, _, atI_nat (j := 0) rfl, _, HE, _, atI_nat (j := 1) rfl, _, rfl, _, HB, _, atI_nat (j := 1) rfl, _, rfl, _, rfl, (zn.mul zs1).mulW zb (by decide), ?_⟩
        refine ⟨_, HE, _, atI_nat (j := 1) rfl, _, rfl, _, HB, _, atI_nat (j := 0) rfl, _, HE, _, atI_nat (j := 0) rfl, _, rfl, _, HA, _, atI_nat (j := 1) rfl, _, rfl, _, rfl, zT.mulW zs0 (by decide), ?_⟩
        refine ⟨_, HE, _, atI_nat (j := 0) rfl, _, rfl, _, HA, _, atI_nat (j := 1) rfl, _, rfl, z2.mulW zs0 (by decide), ?_⟩
        refine ⟨_, HE, _, atI_nat (j := 1) rfl, _, rfl, _, HB, _, atI_nat (j := 1) rfl, _, rfl, (z2.mul zs0).mulW zb (by decide), ?_⟩
        have bp : 0 < f0 * j1 := Int.mul_pos (by have := K0.f01; omega) (by have := K0.j11; omega)
        refine lowg (Int.add_nonneg (Int.mul_nonneg (Int.mul_nonneg (by omega) (by have := K0.s11; omega)) (by omega)) (Int.mul_nonneg T1 (by have := K0.s01; omega))) (Int.mul_pos (by have := K0.s01; omega) bp) ((((zn.mul zs1).mul zb).add (zT.mul zs0)).mono (by decide)) (((z2.mul zs0).mul zb).mono (by decide)) fun k0 g0 g1 kh0 zg0 zg1 => ?_
        have kg0 := same_new (o := .tup [.int g0, .int g1]) kh0
        have kr0 : (upd H' k0 (.tup [.int g0, .int g1])) k0 = some (.tup [.int g0, .int g1]) := upd_same
        generalize hY : upd H' k0 (.tup [.int g0, .int g1]) = kY0 at kg0 kr0
        clear hY
        refine ⟨by decide, fun k1 kh1 => ?_⟩
        have kg1 := same_new (o := .tup [.str "late", .ref k0]) kh1
        have kr1 : (upd kY0 k1 (.tup [.str "late", .ref k0])) k1 = some (.tup [.str "late", .ref k0]) := upd_same
        generalize hY : upd kY0 k1 (.tup [.str "late", .ref k0]) = kY1 at kg1 kr1
        clear hY
        replace kr0 := kg1 _ _ kr0
        refine ⟨by decide, fun k2 kh2 => ?_⟩
        have kg2 := same_new (o := .tup [.int 1]) kh2
        have kr2 : (upd kY1 k2 (.tup [.int 1])) k2 = some (.tup [.int 1]) := upd_same
        generalize hY : upd kY1 k2 (.tup [.int 1]) = kY2 at kg2 kr2
        clear hY
        replace kr0 := kg2 _ _ kr0
        replace kr1 := kg2 _ _ kr1
        refine ⟨_, _, _, _, rfl, rfl, (.inl (.inl kr0)), (.inl (.inl kr2)), (fun z => nomatch z), (show 2 + 1 ≤ sizeLine by decide), (fun z => nomatch z), fun _ k3 kh3 => ?_⟩
        have kg3 := same_new (o := .tup ([.int g0, .int g1] ++ [.int 1])) kh3
        have kr3 : (upd kY2 k3 (.tup ([.int g0, .int g1] ++ [.int 1]))) k3 = some (.tup ([.int g0, .int g1] ++ [.int 1])) := upd_same
        generalize hY : upd kY2 k3 (.tup ([.int g0, .int g1] ++ [.int 1])) = kY3 at kg3 kr3
        clear hY
        replace kr0 := kg3 _ _ kr0
        replace kr1 := kg3 _ _ kr1
        replace kr2 := kg3 _ _ kr2
        refine ⟨by decide, fun k4 kh4 => ?_⟩
        have kg4 := same_new (o := .tup [.str "late", .ref k3]) kh4
        have kr4 : (upd kY3 k4 (.tup [.str "late", .ref k3])) k4 = some (.tup [.str "late", .ref k3]) := upd_same
        generalize hY : upd kY3 k4 (.tup [.str "late", .ref k3]) = kY4 at kg4 kr4
        clear hY
        replace kr0 := kg4 _ _ kr0
        replace kr1 := kg4 _ _ kr1
        replace kr2 := kg4 _ _ kr2
        replace kr3 := kg4 _ _ kr3
        refine ⟨_, rfl, _, (.inl (.inl kr0)), _, atI_nat (j := 0) rfl, _, rfl, _, (.inl (.inl kr0)), _, atI_nat (j := 1) rfl, rfl, by decide, fun k5 kh5 => ?_⟩
        have kg5 := same_new (o := .tup [.int g0, .bl (decide (V.int g1 = V.int 1))]) kh5
        have kr5 : (upd kY4 k5 (.tup [.int g0, .bl (decide (V.int g1 = V.int 1))])) k5 = some (.tup [.int g0, .bl (decide (V.int g1 = V.int 1))]) := upd_same
        generalize hY : upd kY4 k5 (.tup [.int g0, .bl (decide (V.int g1 = V.int 1))]) = kY5 at kg5 kr5
        clear hY
        replace kr0 := kg5 _ _ kr0
        replace kr1 := kg5 _ _ kr1
        replace kr2 := kg5 _ _ kr2
        replace kr3 := kg5 _ _ kr3
        replace kr4 := kg5 _ _ kr4
        refine ⟨by decide, fun k6 kh6 => ?_⟩
        have kg6 := same_new (o := .tup [.str "late", .ref k5]) kh6
        have kr6 : (upd kY5 k6 (.tup [.str "late", .ref k5])) k6 = some (.tup [.str "late", .ref k5]) := upd_same
        generalize hY : upd kY5 k6 (.tup [.str "late", .ref k5]) = kY6 at kg6 kr6
        clear hY
        replace kr0 := kg6 _ _ kr0
        replace kr1 := kg6 _ _ kr1
        replace kr2 := kg6 _ _ kr2
        replace kr3 := kg6 _ _ kr3
        replace kr4 := kg6 _ _ kr4
        replace kr5 := kg6 _ _ kr5
        refine ⟨by decide, fun k7 kh7 => ?_⟩
        have kg7 := same_new (o := .tup [.str "apart", .ref k0]) kh7
        have kr7 : (upd kY6 k7 (.tup [.str "apart", .ref k0])) k7 = some (.tup [.str "apart", .ref k0]) := upd_same
        generalize hY : upd kY6 k7 (.tup [.str "apart", .ref k0]) = kY7 at kg7 kr7
        clear hY
        replace kr0 := kg7 _ _ kr0
        replace kr1 := kg7 _ _ kr1
        replace kr2 := kg7 _ _ kr2
        replace kr3 := kg7 _ _ kr3
        replace kr4 := kg7 _ _ kr4
        replace kr5 := kg7 _ _ kr5
        replace kr6 := kg7 _ _ kr6
        refine ⟨by decide, fun k8 kh8 => ?_⟩
        have kg8 := same_new (o := .lst [.ref k1, .ref k4, .ref k6, .ref k7]) kh8
        have kr8 : (upd kY7 k8 (.lst [.ref k1, .ref k4, .ref k6, .ref k7])) k8 = some (.lst [.ref k1, .ref k4, .ref k6, .ref k7]) := upd_same
        generalize hY : upd kY7 k8 (.lst [.ref k1, .ref k4, .ref k6, .ref k7]) = kY8 at kg8 kr8
        clear hY
        replace kr0 := kg8 _ _ kr0
        replace kr1 := kg8 _ _ kr1
        replace kr2 := kg8 _ _ kr2
        replace kr3 := kg8 _ _ kr3
        replace kr4 := kg8 _ _ kr4
        replace kr5 := kg8 _ _ kr5
        replace kr6 := kg8 _ _ kr6
        replace kr7 := kg8 _ _ kr7
        have ke := ((((((((kg0).trans kg1).trans kg2).trans kg3).trans kg4).trans kg5).trans kg6).trans kg7).trans kg8
        obtain ⟨xs, x1, x2, x3⟩ := gH.same ke
        replace x2 : xs.length ≤ 34 := x2
        refine ⟨xs, x1, _, kr8, by rw [sizeLine_eq]; show xs.length + 4 ≤ _; omega, fun p hp => ?_⟩
        refine q _ p ((e2.trans (sH.trans ke)).trans (same_new hp)) (GoodL.new hp (by rw [List.length_append]; show xs.length + 4 ≤ _; omega) fun y hy => ?_)
        rcases List.mem_append.mp hy with hy | hy
        · exact x3 y hy
        · simp only [List.mem_cons, List.not_mem_nil, or_false] at hy
          rcases hy with rfl | rfl | rfl | rfl
          · exact ⟨_, .two (.inl (.inl kr1)) (.pair (.inl (.inl kr0)) (zg0.mono (by decide)) (zg1.mono (by decide)))⟩
          · exact ⟨_, .two (.inl (.inl kr4)) (.len (.inl (.inl kr3)) (by show 3 ≠ 2; decide))⟩
          · exact ⟨_, .two (.inl (.inl kr6)) (.bl (.inl (.inl kr5)))⟩
          · exact ⟨_, .two (.inl (.inl kr7)) (.pair (.inl (.inl kr0)) (zg0.mono (by decide)) (zg1.mono (by decide)))⟩
    (try simp only [tVar, tC, tOp, tUn, rI, rI0, rU, rEq, rNe, scal, tTest, tB, tAnd, tOr, tNot, tAndV, tOrV, tNotV, tIf, tChain, tNil, tCons, tCB, tCall, tTup, tLst, tRet, tRetN, tDrop, tSeq, tNext, tIfS, tAsg, gName, tPar, tPar3, gNil, gCons, gTup, gSub, tAug, tSl, tNoPart, tPart, tBM, tBM0, tYes, tIsP, iSeq, iEnumA, RZ.iZipA, iRng1, iRng2, iList, iTup, rIsi, rIsB, rIxL, rIxT, rIxA, rLenA, rListOf, rTupOf, rSetL, rSlL, rCat, rAppend, tFld, sFld, tMake, tBits, Int.ofNat_inj, cast1, cast0, TruV, cxOf, Cx.nox, Cx.wish, tNever, tBreak, tCont, ipI, tDIn, tDNotIn, sDPut, tDNewT, tDNewK, tDGet, rSortedPO, rSortedI, rIn, rEqD, rNeD, rInD, rNotInD, tSSet, rIsV, rIntI, rIntB, rAbsN, tLstRg, tRg1, tRg2, List.append_nil, List.nil_append, List.cons_append, Option.some.injEq, exists_eq_left', exists_eq_left, exists_eq_right, exists_eq_right', List.getElem?_cons_zero, List.getElem?_cons_succ, List.set_cons_zero, List.set_cons_succ, List.cons.injEq, and_true, true_and, exists_and_left, exists_and_right, and_assoc, V.int.injEq, V.bl.injEq, V.ref.injEq, V.str.injEq, reduceCtorEq, decide_true, decide_false, Bool.not_true, Bool.not_false, Bool.false_eq_true, if_false, if_true, ite_true, ite_false, List.length_cons, List.length_nil, tRaise, tErr, LamX.tLam, TTe])
    refine ⟨by decide, fun m0 mh0 => ?_⟩
    have mg0 := same_new (o := .tup [.str "apart"]) mh0
    have mr0 : (upd H2 m0 (.tup [.str "apart"])) m0 = some (.tup [.str "apart"]) := upd_same
    generalize hY : upd H2 m0 (.tup [.str "apart"]) = mY0 at mg0 mr0
    clear hY
    refine ⟨by decide, fun m1 mh1 => ?_⟩
    have mg1 := same_new (o := .tup [.str "late"]) mh1
    have mr1 : (upd mY0 m1 (.tup [.str "late"])) m1 = some (.tup [.str "late"]) := upd_same
    generalize hY : upd mY0 m1 (.tup [.str "late"]) = mY1 at mg1 mr1
    clear hY
    replace mr0 := mg1 _ _ mr0
    refine ⟨by decide, fun m2 mh2 => ?_⟩
    have mg2 := same_new (o := .tup [.int 0, .int 1]) mh2
    have mr2 : (upd mY1 m2 (.tup [.int 0, .int 1])) m2 = some (.tup [.int 0, .int 1]) := upd_same
    generalize hY : upd mY1 m2 (.tup [.int 0, .int 1]) = mY2 at mg2 mr2
    clear hY
    replace mr0 := mg2 _ _ mr0
    replace mr1 := mg2 _ _ mr1
    refine ⟨by decide, fun m3 mh3 => ?_⟩
    have mg3 := same_new (o := .tup [.str "apart", .ref m2]) mh3
    have mr3 : (upd mY2 m3 (.tup [.str "apart", .ref m2])) m3 = some (.tup [.str "apart", .ref m2]) := upd_same
    generalize hY : upd mY2 m3 (.tup [.str "apart", .ref m2]) = mY3 at mg3 mr3
    clear hY
    replace mr0 := mg3 _ _ mr0
    replace mr1 := mg3 _ _ mr1
    replace mr2 := mg3 _ _ mr2
    refine ⟨by decide, fun m4 mh4 => ?_⟩
    have mg4 := same_new (o := .tup [.str "late", .int 0]) mh4
    have mr4 : (upd mY3 m4 (.tup [.str "late", .int 0])) m4 = some (.tup [.str "late", .int 0]) := upd_same
    generalize hY : upd mY3 m4 (.tup [.str "late", .int 0]) = mY4 at mg4 mr4
    clear hY
    replace mr0 := mg4 _ _ mr0
    replace mr1 := mg4 _ _ mr1
    replace mr2 := mg4 _ _ mr2
    replace mr3 := mg4 _ _ mr3
    refine ⟨by decide, fun m5 mh5 => ?_⟩
    have mg5 := same_new (o := .lst [.str "apart"]) mh5
    have mr5 : (upd mY4 m5 (.lst [.str "apart"])) m5 = some (.lst [.str "apart"]) := upd_same
    generalize hY : upd mY4 m5 (.lst [.str "apart"]) = mY5 at mg5 mr5
    clear hY
    replace mr0 := mg5 _ _ mr0
    replace mr1 := mg5 _ _ mr1
    replace mr2 := mg5 _ _ mr2
    replace mr3 := mg5 _ _ mr3
    replace mr4 := mg5 _ _ mr4
    refine ⟨by decide, fun m6 mh6 => ?_⟩
    have mg6 := same_new (o := .tup [.int 0, .int 1]) mh6
    have mr6 : (upd mY5 m6 (.tup [.int 0, .int 1])) m6 = some (.tup [.int 0, .int 1]) := upd_same
    generalize hY : upd mY5 m6 (.tup [.int 0, .int 1]) = mY6 at mg6 mr6
    clear hY
    replace mr0 := mg6 _ _ mr0
    replace mr1 := mg6 _ _ mr1
    replace mr2 := mg6 _ _ mr2
    replace mr3 := mg6 _ _ mr3
    replace mr4 := mg6 _ _ mr4
    replace mr5 := mg6 _ _ mr5
    refine ⟨by decide, fun m7 mh7 => ?_⟩
    have mg7 := same_new (o := .tup [.str "late", .ref m6]) mh7
    have mr7 : (upd mY6 m7 (.tup [.str "late", .ref m6])) m7 = some (.tup [.str "late", .ref m6]) := upd_same
    generalize hY : upd mY6 m7 (.tup [.str "late", .ref m6]) = mY7 at mg7 mr7
    clear hY
    replace mr0 := mg7 _ _ mr0
    replace mr1 := mg7 _ _ mr1
    replace mr2 := mg7 _ _ mr2
    replace mr3 := mg7 _ _ mr3
    replace mr4 := mg7 _ _ mr4
    replace mr5 := mg7 _ _ mr5
    replace mr6 := mg7 _ _ mr6
    refine ⟨by decide, fun m8 mh8 => ?_⟩
    have mg8 := same_new (o := .tup [.int 0, .int 2]) mh8
    have mr8 : (upd mY7 m8 (.tup [.int 0, .int 2])) m8 = some (.tup [.int 0, .int 2]) := upd_same
    generalize hY : upd mY7 m8 (.tup [.int 0, .int 2]) = mY8 at mg8 mr8
    clear hY
    replace mr0 := mg8 _ _ mr0
    replace mr1 := mg8 _ _ mr1
    replace mr2 := mg8 _ _ mr2
    replace mr3 := mg8 _ _ mr3
    replace mr4 := mg8 _ _ mr4
    replace mr5 := mg8 _ _ mr5
    replace mr6 := mg8 _ _ mr6
    replace mr7 := mg8 _ _ mr7
    refine ⟨by decide, fun m9 mh9 => ?_⟩
    have mg9 := same_new (o := .tup [.str "late", .ref m8]) mh9
    have mr9 : (upd mY8 m9 (.tup [.str "late", .ref m8])) m9 = some (.tup [.str "late", .ref m8]) := upd_same
    generalize hY : upd mY8 m9 (.tup [.str "late", .ref m8]) = mY9 at mg9 mr9
    clear hY
    replace mr0 := mg9 _ _ mr0
    replace mr1 := mg9 _ _ mr1
    replace mr2 := mg9 _ _ mr2
    replace mr3 := mg9 _ _ mr3
    replace mr4 := mg9 _ _ mr4
    replace mr5 := mg9 _ _ mr5
    replace mr6 := mg9 _ _ mr6
    replace mr7 := mg9 _ _ mr7
    replace mr8 := mg9 _ _ mr8
    have me := (((((((((mg0).trans mg1).trans mg2).trans mg3).trans mg4).trans mg5).trans mg6).trans mg7).trans mg8).trans mg9
    refine ⟨by decide, fun L hL => p2 _ L (me.trans (same_new hL)) (GoodL.new hL (by show 10 ≤ 10; decide) fun x hx => ?_)⟩
    simp only [List.mem_cons, List.not_mem_nil, or_false] at hx
    rcases hx with rfl | rfl | rfl | rfl | rfl | rfl | rfl | rfl | rfl | rfl
    · exact ⟨_, .one (.inl (.inl mr0))⟩
    · exact ⟨_, .one (.inl (.inl mr1))⟩
    · exact ⟨_, .two (.inl (.inl mr3)) (.pair (.inl (.inl mr2)) ((szp (by decide) (by decide)).mono (by decide)) ((szp (by decide) (by decide)).mono (by decide)))⟩
    · exact ⟨_, .two (.inl (.inl mr4)) (.noTup (.base (.int 0)) rfl)⟩
    · exact ⟨_, .noTup (.base .non) rfl⟩
    · exact ⟨_, .noTup (.base (.bl true)) rfl⟩
    · exact ⟨_, .noTup (tyL (.of mr5)) rfl⟩
    · exact ⟨_, .noTup (.base (.str _)) rfl⟩
    · exact ⟨_, .two (.inl (.inl mr7)) (.pair (.inl (.inl mr6)) ((szp (by decide) (by decide)).mono (by decide)) ((szp (by decide) (by decide)).mono (by decide)))⟩
    · exact ⟨_, .two (.inl (.inl mr9)) (.pair (.inl (.inl mr8)) ((szp (by decide) (by decide)).mono (by decide)) ((szp (by decide) (by decide)).mono (by decide)))⟩
end
end Kr
namespace Kr
open PySem PySem.Spec PyProof.Rows L2 Kb
section
variable {P : Program} {w : World} {K : PySem.W.Frag} {mg : Str → Option Value} {base : Heap}
/-! ### the law -/
theorem most_at {w s0 s1 f0 f1 j0 j1 : Int} (C : Clk w s0 s1 f0 f1 j0 j1) : 0 ≤ mostI w s0 s1 f0 f1 j0 j1 ∧ mostI w s0 s1 f0 f1 j0 j1 ≤ M9 ∧ (0 < mostI w s0 s1 f0 f1 j0 j1 → apartB (mostI w s0 s1 f0 f1 j0 j1) w s0 s1 f0 f1 j0 j1 = true) ∧ apartB (mostI w s0 s1 f0 f1 j0 j1 + 1) w s0 s1 f0 f1 j0 j1 = false := by
  have hb := C.bot_pos
  have h1 := Int.ediv_mul_le (topI w s0 f0 f1 j0 j1) (show botI s1 f0 j1 ≠ 0 by omega)
  have h2 := Int.lt_ediv_add_one_mul_self (topI w s0 f0 f1 j0 j1) (show 0 < botI s1 f0 j1 by omega)
  have h3 : topI w s0 f0 f1 j0 j1 / botI s1 f0 j1 ≤ M9 := by
    have h4 : topI w s0 f0 f1 j0 j1 ≤ M9 * botI s1 f0 j1 := by
      have a1 : s0 * (w * f1 * j1 - j0 * f0) ≤ s0 * (w * f1 * j1) := Int.mul_le_mul_of_nonneg_left (by have := Int.mul_nonneg C.j01 (show 0 ≤ f0 by have := C.f01; omega); omega) (by have := C.s01; omega)
      have a2 : w * (s0 * f1 * j1) ≤ M9 * (s0 * f1 * j1) := Int.mul_le_mul_of_nonneg_right C.w2 (Int.mul_nonneg (Int.mul_nonneg (by have := C.s01; omega) (by have := C.f11; omega)) (by have := C.j11; omega))
      have a3 : (s0 * f1) * j1 ≤ (f0 * s1) * j1 := Int.mul_le_mul_of_nonneg_right C.sf (by have := C.j11; omega)
      have a4 : M9 * (s0 * f1 * j1) ≤ M9 * (f0 * s1 * j1) := Int.mul_le_mul_of_nonneg_left a3 (by decide)
      have a5 : s0 * (w * f1 * j1) = w * (s0 * f1 * j1) := by grind
      have a6 : M9 * (f0 * s1 * j1) = M9 * (s1 * f0 * j1) := by grind
      unfold topI botI
      omega
    exact Int.ediv_le_of_le_mul (by omega) h4
  unfold mostI
  split
  · rename_i h
    refine ⟨by omega, h3, fun _ => decide_eq_true h1, decide_eq_false (by omega)⟩
  · rename_i h
    refine ⟨by decide, by decide, fun z => absurd z (by decide), decide_eq_false ?_⟩
    intro z
    have h5 : topI w s0 f0 f1 j0 j1 / botI s1 f0 j1 + 1 ≤ 1 := by omega
    have h6 := Int.mul_le_mul_of_nonneg_right h5 (show 0 ≤ botI s1 f0 j1 by omega)
    omega
theorem low_mul {x y : Int} (hx : 0 ≤ x) (hy : 0 < y) : ∃ g : Int, 0 < g ∧ (lowI x y).1 * g = x ∧ (lowI x y).2 * g = y := by
  obtain ⟨t, rfl⟩ := Int.eq_ofNat_of_zero_le hx
  obtain ⟨b, rfl⟩ := Int.eq_ofNat_of_zero_le (Int.le_of_lt hy)
  have hb : 0 < b := by omega
  have h1 := Nat.div_mul_cancel (Nat.gcd_dvd_left t b)
  have h2 := Nat.div_mul_cancel (Nat.gcd_dvd_right t b)
  refine ⟨(Nat.gcd t b : Nat), by have := Nat.gcd_pos_of_pos_right t hb; omega, ?_, ?_⟩
  · show ((t / Nat.gcd t b : Nat) : Int) * ((Nat.gcd t b : Nat) : Int) = (t : Int)
    rw [← Int.natCast_mul, h1]
  · show ((b / Nat.gcd t b : Nat) : Int) * ((Nat.gcd t b : Nat) : Int) = (b : Int)
    rw [← Int.natCast_mul, h2]
theorem low_low {x y : Int} (hx : 0 ≤ x) (hy : 0 < y) : lowI (lowI x y).1 (lowI x y).2 = lowI x y := by
  obtain ⟨t, rfl⟩ := Int.eq_ofNat_of_zero_le hx
  obtain ⟨b, rfl⟩ := Int.eq_ofNat_of_zero_le (Int.le_of_lt hy)
  have hb : 0 < b := by omega
  have h := Nat.coprime_div_gcd_div_gcd (m := t) (n := b) (Nat.gcd_pos_of_pos_right t hb)
  unfold lowI
  simp only [Int.toNat_natCast]
  rw [show Nat.gcd (t / Nat.gcd t b) (b / Nat.gcd t b) = 1 from h, Nat.div_one, Nat.div_one]
theorem late_true {n w s0 s1 f0 f1 j0 j1 : Int} (C : Clk w s0 s1 f0 f1 j0 j1) (hn : 1 ≤ n) (h : apartB n w s0 s1 f0 f1 j0 j1 = false) : lateB n w s0 s1 f0 f1 j0 j1 (hourI n w s0 s1 f0 f1 j0 j1).1 (hourI n w s0 s1 f0 f1 j0 j1).2 = true := by
  have hb := C.bot_pos
  have h0 := of_decide_eq_false h
  have hs0 := C.s01
  have hs1 := C.s11
  have ht0 := C.ticks_pos hn
  have htk : ticksI n w s0 s1 f0 f1 j0 j1 < 2 * (n * botI s1 f0 j1) ∧ 2 * topI w s0 f0 f1 j0 j1 < ticksI n w s0 s1 f0 f1 j0 j1 := by
    have := Int.mul_pos (show 0 < n by omega) (show 0 < botI s1 f0 j1 by omega)
    unfold ticksI
    constructor <;> split <;> omega
  obtain ⟨k1, k2⟩ := htk
  unfold hourI lateB
  have x0 : 0 ≤ ticksI n w s0 s1 f0 f1 j0 j1 * s1 := Int.mul_nonneg ht0 (by omega)
  have y0 : 0 < 2 * botI s1 f0 j1 * s0 := Int.mul_pos (by omega) (by omega)
  rw [low_low x0 y0]
  obtain ⟨g, g0, e1, e2⟩ := low_mul x0 y0
  obtain ⟨p0, _, _, _⟩ := low_pos x0 y0
  have q0 : 0 < (lowI (ticksI n w s0 s1 f0 f1 j0 j1 * s1) (2 * botI s1 f0 j1 * s0)).2 := by
    refine Int.lt_of_not_ge fun z => ?_
    have := Int.mul_le_mul_of_nonneg_right z (show 0 ≤ g by omega)
    omega
  generalize (lowI (ticksI n w s0 s1 f0 f1 j0 j1 * s1) (2 * botI s1 f0 j1 * s0)).1 = p at *
  generalize (lowI (ticksI n w s0 s1 f0 f1 j0 j1 * s1) (2 * botI s1 f0 j1 * s0)).2 = q at *
  generalize ticksI n w s0 s1 f0 f1 j0 j1 = tk at *
  generalize topI w s0 f0 f1 j0 j1 = tp at *
  generalize botI s1 f0 j1 = bt at *
  have hs : 0 < s0 * s1 := Int.mul_pos (by omega) (by omega)
  have c1 : p * s0 < n * s1 * q := by
    refine Int.lt_of_mul_lt_mul_right (a := g) ?_ (by omega)
    have a1 : p * s0 * g = (s0 * s1) * tk := by grind
    have a2 : n * s1 * q * g = (s0 * s1) * (2 * (n * bt)) := by grind
    rw [a1, a2]
    exact Int.mul_lt_mul_of_pos_left k1 hs
  have c2 : tp * s1 * q < p * s0 * bt := by
    refine Int.lt_of_mul_lt_mul_right (a := g) ?_ (by omega)
    have a1 : p * s0 * bt * g = (s0 * s1 * bt) * tk := by grind
    have a2 : tp * s1 * q * g = (s0 * s1 * bt) * (2 * tp) := by grind
    rw [a1, a2]
    exact Int.mul_lt_mul_of_pos_left k2 (Int.mul_pos hs (by omega))
  rw [decide_eq_true p0, decide_eq_true (show 1 ≤ q by omega), decide_eq_true (rfl : p = p), decide_eq_true (rfl : q = q), decide_eq_true c1, decide_eq_true (show p * s0 * bt > tp * s1 * q from c2)]
  rfl
theorem hour_sz {n w s0 s1 f0 f1 j0 j1 : Int} (C : Clk w s0 s1 f0 f1 j0 j1) (h1 : 1 ≤ n) (h2 : n ≤ M9) : Sz 400 (hourI n w s0 s1 f0 f1 j0 j1).1 ∧ Sz 140 (hourI n w s0 s1 f0 f1 j0 j1).2 := by
  have zn := szp (show 0 ≤ n by omega) h2
  have zs0 := szp (by have := C.s01; omega) C.s02
  have zs1 := szp (by have := C.s11; omega) C.s12
  have x0 : 0 ≤ ticksI n w s0 s1 f0 f1 j0 j1 * s1 := Int.mul_nonneg (C.ticks_pos h1) (by have := C.s11; omega)
  have y0 : 0 < 2 * botI s1 f0 j1 * s0 := Int.mul_pos (by have := C.bot_pos; omega) (by have := C.s01; omega)
  obtain ⟨p0, p1, q0, q1⟩ := low_pos x0 y0
  have z2 : Sz 2 2 := by
    unfold Sz
    decide
  exact ⟨sz_between (((C.ticks_sz zn).mul zs1).mono (by decide)) p0 p1, sz_between (((z2.mul C.bot_sz).mul zs0).mono (by decide)) q0 q1⟩
def sp_law_asks (K : PySem.W.Frag) : Sp := fun vs H Q _ => ∃ b, vs = [.ref b] ∧ Bx b H ∧ ∀ H', Same (hbx b H) (hbx b H') → Q (.bl true) H'
theorem ok__law_asks (T : Tx P K mg) : FnOk P w K mg base CX0 8 T.a__law_asks T.d__law_asks ["box"] (sp_law_asks K) := by
  refine T.F__law_asks.ok sc__law_asks (fun vs H Q E h => ?_) (fun cdv A outer s H vs Q E hr h => ?_)
  · obtain ⟨b, rfl, _⟩ := h
    rfl
  · obtain ⟨b, rfl, hb, q⟩ := h
    refine ⟨_, (pss_cons (ps_asg (pe_call (ok__law_paces T) (hr.mono (by decide)) (by rfl) T.g__law_paces T.F__law_paces.kp T.b__law_paces .nil pass0 (pa_cons (pv 0) pa_nil)) (gtupK (K := K) (n := 3) rfl (by rfl) (pgs_cons (pg_name (i := 1) sc__law_asks.nd rfl (Or.inl rfl)) (pgs_cons (pg_name (i := 2) sc__law_asks.nd rfl (Or.inl rfl)) (pgs_cons (pg_name (i := 3) sc__law_asks.nd rfl (Or.inl rfl)) pgs_nil)))))
      (pss_cons (ps_set (i := 4) sc__law_asks.nd rfl (Or.inl rfl) (pe_call (ok__law_number T) (hr.mono (by decide)) (by rfl) T.g__law_number T.F__law_number.kp T.b__law_number .nil pass0 (pa_cons (pv 0) (pa_cons pe_int pa_nil))))
      (pss_cons (ps_set (i := 5) sc__law_asks.nd rfl (Or.inl rfl) (pe_callK0 (ok_greatest_count T) (hr.mono (by decide)) (by rfl) T.g_greatest_count T.F_greatest_count.kp T.kb_greatest_count pass0 (pk_cons (pv 4) (pk_cons (pv 1) (pk_cons (pv 2) (pk_cons (pv 3) pk_nil))))))
      (pss_cons (ps_if (PW.pt (pw_or (pt_val (pe_callB (isiK (K := K) rfl) (by rfl) T.n_isinstance (by decide +kernel) (pa_cons (pv 5) (pa_cons (pe_bltn (v := .ty "bool") (by rfl) T.n_bool (by decide +kernel) rfl) pa_nil)))) (pw_or (pt_not (pt_val (pe_callB (isiK (K := K) rfl) (by rfl) T.n_isinstance (by decide +kernel) (pa_cons (pv 5) (pa_cons (pe_bltn (v := .ty "int") (by rfl) T.n_int (by decide +kernel) rfl) pa_nil))))) (pw_or (pt_cmpR op_lt (pv 5) pe_int (nomark _)) (pw_or1 (pt_cmpR op_gt (pv 5) (pe_op op_pow pe_int pe_int) (nomark _))))))) (pss_one (ps_ret pe_bl)) pss_nil)
      (pss_cons (ps_if (PW.pt (pw_or (PW.pt (pw_and (pt_cmpR op_gt (pv 5) pe_int (nomark _)) (pw_and1 (pt_not (pt_val (pe_call (ok__law_apart T) (hr.mono (by decide)) (by rfl) T.g__law_apart T.F__law_apart.kp T.b__law_apart .nil pass0 (pa_cons (pv 5) (pa_cons (pv 4) (pa_cons (pv 1) (pa_cons (pv 2) (pa_cons (pv 3) pa_nil))))))))))) (pw_or1 (pt_val (pe_call (ok__law_apart T) (hr.mono (by decide)) (by rfl) T.g__law_apart T.F__law_apart.kp T.b__law_apart .nil pass0 (pa_cons (pe_op op_add (pv 5) pe_int) (pa_cons (pv 4) (pa_cons (pv 1) (pa_cons (pv 2) (pa_cons (pv 3) pa_nil)))))))))) (pss_one (ps_ret pe_bl)) pss_nil)
      (pss_cons (ps_for PassesOwn.never rfl (pseqK (K := K) rfl (pe_lst (pa_cons (pe_call (ok__law_number T) (hr.mono (by decide)) (by rfl) T.g__law_number T.F__law_number.kp T.b__law_number .nil pass0 (pa_cons (pv 0) (pa_cons pe_int pa_nil))) (pa_cons (pv 5) (pa_cons (pe_op op_add (pv 5) pe_int) (pa_cons (pe_op op_add (pv 5) pe_int) pa_nil)))))) (pg_name (i := 6) sc__law_asks.nd rfl (Or.inl rfl)) (pss_one (ps_if (PW.pt (pw_and (pt_cmpR op_gt (pv 6) pe_int (nomark _)) (pw_and1 (pt_cmpR op_le (pv 6) (pe_op op_pow pe_int pe_int) (nomark _))))) (pss_cons (ps_set (i := 7) sc__law_asks.nd rfl (Or.inl rfl) (pe_callK0 (ok_clock_paper T) (hr.mono (by decide)) (by rfl) T.g_clock_paper T.F_clock_paper.kp T.kb_clock_paper pass0 (pk_cons (pv 6) (pk_cons (pv 4) (pk_cons (pe_callTy (listOfK (K := K) rfl) (by rfl) T.n_list (by decide +kernel) (pa_cons (pv 1) pa_nil)) (pk_cons (pv 2) (pk_cons (pv 3) pk_nil)))))))
      (pss_cons (ps_if (pt_cmpR op_ne (pe_ix (ixT (K := K) rfl) (pv 7) pe_int (fun _ _ => rfl)) (pe_ifExp (pt_val (pe_call (ok__law_apart T) (hr.mono (by decide)) (by rfl) T.g__law_apart T.F__law_apart.kp T.b__law_apart .nil pass0 (pa_cons (pv 6) (pa_cons (pv 4) (pa_cons (pv 1) (pa_cons (pv 2) (pa_cons (pv 3) pa_nil))))))) pe_str pe_str) (nomark _)) (pss_one (ps_ret pe_bl)) pss_nil)
      (pss_cons (ps_for PassesOwn.never rfl (pseqK (K := K) rfl (pe_op op_cat (pe_lst (pa_cons (pv 7) pa_nil)) (pe_call (ok__law_hours T) (hr.mono (by decide)) (by rfl) T.g__law_hours T.F__law_hours.kp T.b__law_hours .nil pass0 (pa_cons (pv 0) (pa_cons (pv 6) (pa_cons (pv 4) (pa_cons (pv 1) (pa_cons (pv 2) (pa_cons (pv 3) pa_nil))))))))) (pg_name (i := 8) sc__law_asks.nd rfl (Or.inl rfl)) (pss_cons (ps_set (i := 9) sc__law_asks.nd rfl (Or.inl rfl) (pe_call (ok__law_right T) (hr.mono (by decide)) (by rfl) T.g__law_right T.F__law_right.kp T.b__law_right .nil pass0 (pa_cons (pv 6) (pa_cons (pv 4) (pa_cons (pv 1) (pa_cons (pv 2) (pa_cons (pv 3) (pa_cons (pv 8) pa_nil))))))))
      (pss_one (ps_if (pt_not (pt_val (pe_call (ok__law_alike T) (hr.mono (by decide)) (by rfl) T.g__law_alike T.F__law_alike.kp T.b__law_alike .nil pass0 (pa_cons (pe_call (ok_clock_holds T) (hr.mono (by decide)) (by rfl) T.g_clock_holds T.F_clock_holds.kp T.b_clock_holds .nil pass0 (pa_cons (pv 6) (pa_cons (pv 4) (pa_cons (pv 1) (pa_cons (pv 2) (pa_cons (pv 3) (pa_cons (pv 8) pa_nil))))))) (pa_cons (pv 9) pa_nil))))) (pss_one (ps_ret pe_bl)) pss_nil))))
      (pss_one (ps_if (pt_not (pt_val (pe_call (ok__law_right T) (hr.mono (by decide)) (by rfl) T.g__law_right T.F__law_right.kp T.b__law_right .nil pass0 (pa_cons (pv 6) (pa_cons (pv 4) (pa_cons (pv 1) (pa_cons (pv 2) (pa_cons (pv 3) (pa_cons (pv 7) pa_nil))))))))) (pss_one (ps_ret pe_bl)) pss_nil))))) pss_nil)))
      (pss_one (ps_ret (pe_call (ok__law_refused T) (hr.mono (by decide)) (by rfl) T.g__law_refused T.F__law_refused.kp T.b__law_refused .nil pass0 (pa_cons (pv 0) (pa_cons (pe_op op_add pe_int (pe_call (ok__law_take T) (hr.mono (by decide)) (by rfl) T.g__law_take T.F__law_take.kp T.b__law_take .nil pass0 (pa_cons (pv 0) (pa_cons pe_int pa_nil)))) (pa_cons (pv 4) (pa_cons (pv 1) (pa_cons (pv 2) (pa_cons (pv 3) pa_nil))))))))))))))), ?_⟩
    rw [show L2.start ["box", "slow", "fast", "journey", "wait", "most", "count", "paper", "value", "due"] [.ref b] = [some (.ref b), none, none, none, none, none, none, none, none, none] from rfl]
    generalize hF1 : tFor _ _ _ = F1
    (try simp only [tVar, tC, tOp, tUn, rI, rI0, rU, rEq, rNe, scal, tTest, tB, tAnd, tOr, tNot, tAndV, tOrV, tNotV, tIf, tChain, tNil, tCons, tCB, tCall, tTup, tLst, tRet, tRetN, tDrop, tSeq, tNext, tIfS, tAsg, gName, tPar, tPar3, gNil, gCons, gTup, gSub, tAug, tSl, tNoPart, tPart, tBM, tBM0, tYes, tIsP, iSeq, iEnumA, RZ.iZipA, iRng1, iRng2, iList, iTup, rIsi, rIsB, rIxL, rIxT, rIxA, rLenA, rListOf, rTupOf, rSetL, rSlL, rCat, rAppend, tFld, sFld, tMake, tBits, Int.ofNat_inj, cast1, cast0, TruV, cxOf, Cx.nox, Cx.wish, tNever, tBreak, tCont, ipI, tDIn, tDNotIn, sDPut, tDNewT, tDNewK, tDGet, rSortedPO, rSortedI, rIn, rEqD, rNeD, rInD, rNotInD, tSSet, rIsV, rIntI, rIntB, rAbsN, tLstRg, tRg1, tRg2, List.append_nil, List.nil_append, List.cons_append, Option.some.injEq, exists_eq_left', exists_eq_left, exists_eq_right, exists_eq_right', List.getElem?_cons_zero, List.getElem?_cons_succ, List.set_cons_zero, List.set_cons_succ, List.cons.injEq, and_true, true_and, exists_and_left, exists_and_right, and_assoc, V.int.injEq, V.bl.injEq, V.ref.injEq, V.str.injEq, reduceCtorEq, decide_true, decide_false, Bool.not_true, Bool.not_false, Bool.false_eq_true, if_false, if_true, ite_true, ite_false, List.length_cons, List.length_nil, tRaise, tErr, LamX.tLam, TTe])
    refine ⟨b, rfl, hb, fun H1 p a b2 c s0 s1 f0 f1 j0 j1 sa hb1 hp C => ?_⟩
    refine ⟨_, rfl, _, .inl (.inl hp), rfl, _, _, rfl, _, _, rfl, _, _, rfl, rfl, num (by decide) (by decide) hb1 fun H2 w s2 hb2 w1 w2 => ?_⟩
    have C2 : ClkT K (hbx b H2) a b2 c w s0 s1 f0 f1 j0 j1 := (C w w1 w2).same s2
    have sm2 := sa.trans s2
    clear hp sa s2
    (try simp only [tVar, tC, tOp, tUn, rI, rI0, rU, rEq, rNe, scal, tTest, tB, tAnd, tOr, tNot, tAndV, tOrV, tNotV, tIf, tChain, tNil, tCons, tCB, tCall, tTup, tLst, tRet, tRetN, tDrop, tSeq, tNext, tIfS, tAsg, gName, tPar, tPar3, gNil, gCons, gTup, gSub, tAug, tSl, tNoPart, tPart, tBM, tBM0, tYes, tIsP, iSeq, iEnumA, RZ.iZipA, iRng1, iRng2, iList, iTup, rIsi, rIsB, rIxL, rIxT, rIxA, rLenA, rListOf, rTupOf, rSetL, rSlL, rCat, rAppend, tFld, sFld, tMake, tBits, Int.ofNat_inj, cast1, cast0, TruV, cxOf, Cx.nox, Cx.wish, tNever, tBreak, tCont, ipI, tDIn, tDNotIn, sDPut, tDNewT, tDNewK, tDGet, rSortedPO, rSortedI, rIn, rEqD, rNeD, rInD, rNotInD, tSSet, rIsV, rIntI, rIntB, rAbsN, tLstRg, tRg1, tRg2, List.append_nil, List.nil_append, List.cons_append, Option.some.injEq, exists_eq_left', exists_eq_left, exists_eq_right, exists_eq_right', List.getElem?_cons_zero, List.getElem?_cons_succ, List.set_cons_zero, List.set_cons_succ, List.cons.injEq, and_true, true_and, exists_and_left, exists_and_right, and_assoc, V.int.injEq, V.bl.injEq, V.ref.injEq, V.str.injEq, reduceCtorEq, decide_true, decide_false, Bool.not_true, Bool.not_false, Bool.false_eq_true, if_false, if_true, ite_true, ite_false, List.length_cons, List.length_nil, tRaise, tErr, LamX.tLam, TTe, tCallK0])
    refine ⟨w, a, b2, c, s0, s1, f0, f1, j0, j1, rfl, (C2.same (hbx_le b H2)).at, fun H3 s3 => ?_⟩
    obtain ⟨M0, M1, M2, M3⟩ := most_at C2.ck
    generalize mostI w s0 s1 f0 f1 j0 j1 = M at M0 M1 M2 M3
    have C3 : ClkT K (hbx b H3) a b2 c w s0 s1 f0 f1 j0 j1 := C2.same (hbx_mono s3)
    have hb3 := hb2.same s3
    have sm3 := sm2.trans (hbx_mono (b := b) s3)
    have CC := C3.same (hbx_le b H3)
    have zM : Sz 40 M := (sz9 (i := M) (by unfold M9; omega) (by unfold M9 at *; omega)).mono (by decide)
    have zM1 : Sz 40 (M + 1) := (sz9 (i := M + 1) (by unfold M9; omega) (by unfold M9 at *; omega)).mono (by decide)
    have h10 : (10 : Int) ^ Int.toNat 9 = 1000000000 := by decide
    have cp : CPow 10 9 := ⟨by decide, by decide, by decide⟩
    have p1 : ∀ D : Ends, (∀ y6 y7 y8 y9 H', Same (hbx b H3) (hbx b H') → Bx b H' → D.nx [some (.ref b), some (.ref a), some (.ref b2), some (.ref c), some (.int w), some (.int M), y6, y7, y8, y9] H') → F1 D [some (.ref b), some (.ref a), some (.ref b2), some (.ref c), some (.int w), some (.int M), none, none, none, none] H3 := by
      intro D hD
      subst hF1
      refine forSF (fun H1 p => ∃ H0 i, Same (hbx b H3) (hbx b H0) ∧ Bx b H0 ∧ H0 p = none ∧ H1 = upd H0 p (.lst [.int i, .int M, .int (M + 1), .int (M + 2)]) ∧ 1 ≤ i ∧ i ≤ M9) (fun R h => by (try simp only [tVar, tC, tOp, tUn, rI, rI0, rU, rEq, rNe, scal, tTest, tB, tAnd, tOr, tNot, tAndV, tOrV, tNotV, tIf, tChain, tNil, tCons, tCB, tCall, tTup, tLst, tRet, tRetN, tDrop, tSeq, tNext, tIfS, tAsg, gName, tPar, tPar3, gNil, gCons, gTup, gSub, tAug, tSl, tNoPart, tPart, tBM, tBM0, tYes, tIsP, iSeq, iEnumA, RZ.iZipA, iRng1, iRng2, iList, iTup, rIsi, rIsB, rIxL, rIxT, rIxA, rLenA, rListOf, rTupOf, rSetL, rSlL, rCat, rAppend, tFld, sFld, tMake, tBits, Int.ofNat_inj, cast1, cast0, TruV, cxOf, Cx.nox, Cx.wish, tNever, tBreak, tCont, ipI, tDIn, tDNotIn, sDPut, tDNewT, tDNewK, tDGet, rSortedPO, rSortedI, rIn, rEqD, rNeD, rInD, rNotInD, tSSet, rIsV, rIntI, rIntB, rAbsN, tLstRg, tRg1, tRg2, List.append_nil, List.nil_append, List.cons_append, Option.some.injEq, exists_eq_left', exists_eq_left, exists_eq_right, exists_eq_right', List.getElem?_cons_zero, List.getElem?_cons_succ, List.set_cons_zero, List.set_cons_succ, List.cons.injEq, and_true, true_and, exists_and_left, exists_and_right, and_assoc, V.int.injEq, V.bl.injEq, V.ref.injEq, V.str.injEq, reduceCtorEq, decide_true, decide_false, Bool.not_true, Bool.not_false, Bool.false_eq_true, if_false, if_true, ite_true, ite_false, List.length_cons, List.length_nil, tRaise, tErr, LamX.tLam, TTe]); exact num (by decide) (by decide) hb3 fun H0 i sa hb0 i1 i2 => ⟨by decide, fun p hp => h _ p ⟨H0, i, sa, hb0, hp, rfl, i1, i2⟩⟩) (fun H4 p hF => ?_)
      obtain ⟨H0, i0, sa, hb0, hp, eH, i1, i2⟩ := hF
      have s4 : Same H0 H4 := by rw [eH]; exact same_new hp
      have r4 : H4 p = some (.lst [.int i0, .int M, .int (M + 1), .int (M + 2)]) := by rw [eH]; exact upd_same
      have sb : Same (hbx b H3) (hbx b H4) := sa.trans (hbx_mono s4)
      have hb4 := hb0.same s4
      clear eH
      have C4 := (C3.same sb).same (hbx_le b H4)
      obtain ⟨Pv, hPv⟩ : ∃ Pv : Nat → L2.St → Hp → Prop, ∀ k σ' H', Pv k σ' H' = (∃ y6 y7 y8 y9, σ' = [some (.ref b), some (.ref a), some (.ref b2), some (.ref c), some (.int w), some (.int M), y6, y7, y8, y9] ∧ Same H4 H') := ⟨_, fun _ _ _ => rfl⟩
      refine ⟨p, _, Pv, H4, rfl, by rw [hPv]; exact ⟨_, _, _, _, rfl, Same.refl _⟩, .inl (.of r4), (fun k σ' H' z => by rw [hPv] at z; obtain ⟨_, _, _, _, _, z⟩ := z; exact z), (fun k x σ' H5 hx z => ?_), (fun σ' H5 z => ?_)⟩
      · rw [hPv] at z
        obtain ⟨y6, y7, y8, y9, rfl, s5⟩ := z
        have hx3 : ∃ m : Int, x = .int m := by
          have hm := List.mem_of_getElem? hx
          simp only [List.mem_cons, List.not_mem_nil, or_false] at hm
          rcases hm with rfl | rfl | rfl | rfl <;> exact ⟨_, rfl⟩
        obtain ⟨m, rfl⟩ := hx3
        have C5 := C4.same s5
        have nxt : ∀ y7 y8 y9 H6, Same H5 H6 → Pv (k + 1) [some (.ref b), some (.ref a), some (.ref b2), some (.ref c), some (.int w), some (.int M), some (.int m), y7, y8, y9] H6 := fun y7 y8 y9 H6 s6 => by
          rw [hPv]
          exact ⟨_, _, _, _, rfl, s5.trans s6⟩
        generalize hS : tSeq (tIfS (tTest (tOp rNe _ _)) _ _) _ = S
        (try simp only [tVar, tC, tOp, tUn, rI, rI0, rU, rEq, rNe, scal, tTest, tB, tAnd, tOr, tNot, tAndV, tOrV, tNotV, tIf, tChain, tNil, tCons, tCB, tCall, tTup, tLst, tRet, tRetN, tDrop, tSeq, tNext, tIfS, tAsg, gName, tPar, tPar3, gNil, gCons, gTup, gSub, tAug, tSl, tNoPart, tPart, tBM, tBM0, tYes, tIsP, iSeq, iEnumA, RZ.iZipA, iRng1, iRng2, iList, iTup, rIsi, rIsB, rIxL, rIxT, rIxA, rLenA, rListOf, rTupOf, rSetL, rSlL, rCat, rAppend, tFld, sFld, tMake, tBits, Int.ofNat_inj, cast1, cast0, TruV, cxOf, Cx.nox, Cx.wish, tNever, tBreak, tCont, ipI, tDIn, tDNotIn, sDPut, tDNewT, tDNewK, tDGet, rSortedPO, rSortedI, rIn, rEqD, rNeD, rInD, rNotInD, tSSet, rIsV, rIntI, rIntB, rAbsN, tLstRg, tRg1, tRg2, List.append_nil, List.nil_append, List.cons_append, Option.some.injEq, exists_eq_left', exists_eq_left, exists_eq_right, exists_eq_right', List.getElem?_cons_zero, List.getElem?_cons_succ, List.set_cons_zero, List.set_cons_succ, List.cons.injEq, and_true, true_and, exists_and_left, exists_and_right, and_assoc, V.int.injEq, V.bl.injEq, V.ref.injEq, V.str.injEq, reduceCtorEq, decide_true, decide_false, Bool.not_true, Bool.not_false, Bool.false_eq_true, if_false, if_true, ite_true, ite_false, List.length_cons, List.length_nil, tRaise, tErr, LamX.tLam, TTe, tCallK0])
        by_cases m1 : 0 < m
        · rw [decide_eq_true m1]
          refine iteT ⟨cp, ?_⟩
          rw [h10]
          by_cases m2 : m ≤ 1000000000
          · rw [decide_eq_true m2]
            refine iteT ?_
            have m9 : m ≤ M9 := m2
            have p2 : ∀ H6 pp st rs o, Same H5 H6 → SqT K H6 pp (.str st :: rs) → PapV K H6 (.ref pp) o → st = (if apartB m w s0 s1 f0 f1 j0 j1 = true then ("apart" : Str) else "late") → holdsB m w s0 s1 f0 f1 j0 j1 o = true → S { nx := Pv (k + 1), rt := D.rt, bk := D.nx, ct := Pv (k + 1) } [some (.ref b), some (.ref a), some (.ref b2), some (.ref c), some (.int w), some (.int M), some (.int m), some (.ref pp), y8, y9] H6 := by
              intro H6 pp st rs o s6 hpp pv est hho
              subst hS
              generalize hF5 : tFor _ _ _ = F5
              have C6 := C5.same s6
              have zm : Sz 30 m := szp (by omega) m9
              have p3 : ∀ D' : Ends, (∀ y8 y9 H7, Same H6 H7 → D'.nx [some (.ref b), some (.ref a), some (.ref b2), some (.ref c), some (.int w), some (.int M), some (.int m), some (.ref pp), y8, y9] H7) → F5 D' [some (.ref b), some (.ref a), some (.ref b2), some (.ref c), some (.int w), some (.int M), some (.int m), some (.ref pp), y8, y9] H6 := by
                intro D' hD'
                subst hF5
                refine forSF (fun H1 p => Same H6 H1 ∧ ∃ xs, H1 p = some (.lst xs) ∧ ∀ x ∈ xs, ∃ o, PapV K H1 x o) (fun R h => ?_) (fun H7 p7 hF => ?_)
                · (try simp only [tVar, tC, tOp, tUn, rI, rI0, rU, rEq, rNe, scal, tTest, tB, tAnd, tOr, tNot, tAndV, tOrV, tNotV, tIf, tChain, tNil, tCons, tCB, tCall, tTup, tLst, tRet, tRetN, tDrop, tSeq, tNext, tIfS, tAsg, gName, tPar, tPar3, gNil, gCons, gTup, gSub, tAug, tSl, tNoPart, tPart, tBM, tBM0, tYes, tIsP, iSeq, iEnumA, RZ.iZipA, iRng1, iRng2, iList, iTup, rIsi, rIsB, rIxL, rIxT, rIxA, rLenA, rListOf, rTupOf, rSetL, rSlL, rCat, rAppend, tFld, sFld, tMake, tBits, Int.ofNat_inj, cast1, cast0, TruV, cxOf, Cx.nox, Cx.wish, tNever, tBreak, tCont, ipI, tDIn, tDNotIn, sDPut, tDNewT, tDNewK, tDGet, rSortedPO, rSortedI, rIn, rEqD, rNeD, rInD, rNotInD, tSSet, rIsV, rIntI, rIntB, rAbsN, tLstRg, tRg1, tRg2, List.append_nil, List.nil_append, List.cons_append, Option.some.injEq, exists_eq_left', exists_eq_left, exists_eq_right, exists_eq_right', List.getElem?_cons_zero, List.getElem?_cons_succ, List.set_cons_zero, List.set_cons_succ, List.cons.injEq, and_true, true_and, exists_and_left, exists_and_right, and_assoc, V.int.injEq, V.bl.injEq, V.ref.injEq, V.str.injEq, reduceCtorEq, decide_true, decide_false, Bool.not_true, Bool.not_false, Bool.false_eq_true, if_false, if_true, ite_true, ite_false, List.length_cons, List.length_nil, tRaise, tErr, LamX.tLam, TTe])
                  refine ⟨by decide, fun l1 hl1 => ⟨b, m, w, a, b2, c, s0, s1, f0, f1, j0, j1, rfl, ⟨by omega, m9⟩, C6.same (same_new hl1), fun H8 L8 e8 gL => ?_⟩⟩
                  obtain ⟨xs, x1, x2, x3⟩ := gL
                  refine ⟨_, rfl, _, e8 _ _ upd_same, xs, x1, by rw [sizeLine_eq]; show 1 + xs.length ≤ _; omega, fun p hp => h _ p ⟨((same_new hl1).trans e8).trans (same_new hp), _, upd_same, fun y hy => ?_⟩⟩
                  rcases List.mem_append.mp hy with hy | hy
                  · rw [List.mem_singleton] at hy
                    subst hy
                    exact ⟨o, pv.same (((same_new hl1).trans e8).trans (same_new hp))⟩
                  · obtain ⟨u, hu⟩ := x3 y hy
                    exact ⟨u, hu.same (same_new hp)⟩
                · obtain ⟨e7, xs, r7, g7⟩ := hF
                  obtain ⟨Pw, hPw⟩ : ∃ Pw : Nat → L2.St → Hp → Prop, ∀ k σ' H', Pw k σ' H' = (∃ y8 y9, σ' = [some (.ref b), some (.ref a), some (.ref b2), some (.ref c), some (.int w), some (.int M), some (.int m), some (.ref pp), y8, y9] ∧ Same H7 H') := ⟨_, fun _ _ _ => rfl⟩
                  refine ⟨p7, xs, Pw, H7, rfl, by rw [hPw]; exact ⟨_, _, rfl, Same.refl _⟩, .inl (.of r7), (fun k σ' H' z => by rw [hPw] at z; obtain ⟨_, _, _, z⟩ := z; exact z), (fun i x σ' H8 hx z => ?_), (fun σ' H8 z => ?_)⟩
                  · rw [hPw] at z
                    obtain ⟨y8', y9', rfl, e8⟩ := z
                    obtain ⟨u, hu⟩ := g7 x (List.mem_of_getElem? hx)
                    have hu8 := hu.same e8
                    have C8 := (C6.same e7).same e8
                    (try simp only [tVar, tC, tOp, tUn, rI, rI0, rU, rEq, rNe, scal, tTest, tB, tAnd, tOr, tNot, tAndV, tOrV, tNotV, tIf, tChain, tNil, tCons, tCB, tCall, tTup, tLst, tRet, tRetN, tDrop, tSeq, tNext, tIfS, tAsg, gName, tPar, tPar3, gNil, gCons, gTup, gSub, tAug, tSl, tNoPart, tPart, tBM, tBM0, tYes, tIsP, iSeq, iEnumA, RZ.iZipA, iRng1, iRng2, iList, iTup, rIsi, rIsB, rIxL, rIxT, rIxA, rLenA, rListOf, rTupOf, rSetL, rSlL, rCat, rAppend, tFld, sFld, tMake, tBits, Int.ofNat_inj, cast1, cast0, TruV, cxOf, Cx.nox, Cx.wish, tNever, tBreak, tCont, ipI, tDIn, tDNotIn, sDPut, tDNewT, tDNewK, tDGet, rSortedPO, rSortedI, rIn, rEqD, rNeD, rInD, rNotInD, tSSet, rIsV, rIntI, rIntB, rAbsN, tLstRg, tRg1, tRg2, List.append_nil, List.nil_append, List.cons_append, Option.some.injEq, exists_eq_left', exists_eq_left, exists_eq_right, exists_eq_right', List.getElem?_cons_zero, List.getElem?_cons_succ, List.set_cons_zero, List.set_cons_succ, List.cons.injEq, and_true, true_and, exists_and_left, exists_and_right, and_assoc, V.int.injEq, V.bl.injEq, V.ref.injEq, V.str.injEq, reduceCtorEq, decide_true, decide_false, Bool.not_true, Bool.not_false, Bool.false_eq_true, if_false, if_true, ite_true, ite_false, List.length_cons, List.length_nil, tRaise, tErr, LamX.tLam, TTe])
                    refine ⟨m, w, a, b2, c, s0, s1, f0, f1, j0, j1, x, u, rfl, zm, C8, hu8, fun Ha ea => ⟨m, w, a, b2, c, s0, s1, f0, f1, j0, j1, x, u, rfl, ⟨by omega, m9⟩, (C8.same ea).at, hu8.same ea, fun Hb eb => ⟨_, _, rfl, .bl 4 _, fun Hc ec => ⟨true, rfl, iteF ?_⟩⟩⟩⟩
                    show Pw (i + 1) _ _
                    rw [hPw]
                    exact ⟨_, _, rfl, ((e8.trans ea).trans eb).trans ec⟩
                  · rw [hPw] at z
                    obtain ⟨y8', y9', rfl, e8⟩ := z
                    exact hD' _ _ _ (e7.trans e8)
              (try simp only [tVar, tC, tOp, tUn, rI, rI0, rU, rEq, rNe, scal, tTest, tB, tAnd, tOr, tNot, tAndV, tOrV, tNotV, tIf, tChain, tNil, tCons, tCB, tCall, tTup, tLst, tRet, tRetN, tDrop, tSeq, tNext, tIfS, tAsg, gName, tPar, tPar3, gNil, gCons, gTup, gSub, tAug, tSl, tNoPart, tPart, tBM, tBM0, tYes, tIsP, iSeq, iEnumA, RZ.iZipA, iRng1, iRng2, iList, iTup, rIsi, rIsB, rIxL, rIxT, rIxA, rLenA, rListOf, rTupOf, rSetL, rSlL, rCat, rAppend, tFld, sFld, tMake, tBits, Int.ofNat_inj, cast1, cast0, TruV, cxOf, Cx.nox, Cx.wish, tNever, tBreak, tCont, ipI, tDIn, tDNotIn, sDPut, tDNewT, tDNewK, tDGet, rSortedPO, rSortedI, rIn, rEqD, rNeD, rInD, rNotInD, tSSet, rIsV, rIntI, rIntB, rAbsN, tLstRg, tRg1, tRg2, List.append_nil, List.nil_append, List.cons_append, Option.some.injEq, exists_eq_left', exists_eq_left, exists_eq_right, exists_eq_right', List.getElem?_cons_zero, List.getElem?_cons_succ, List.set_cons_zero, List.set_cons_succ, List.cons.injEq, and_true, true_and, exists_and_left, exists_and_right, and_assoc, V.int.injEq, V.bl.injEq, V.ref.injEq, V.str.injEq, reduceCtorEq, decide_true, decide_false, Bool.not_true, Bool.not_false, Bool.false_eq_true, if_false, if_true, ite_true, ite_false, List.length_cons, List.length_nil, tRaise, tErr, LamX.tLam, TTe])
              refine ⟨_, hpp, _, atI_nat (j := 0) rfl, m, w, a, b2, c, s0, s1, f0, f1, j0, j1, rfl, zm.mono (by decide), C6, ?_⟩
              have fin : ∀ y8 y9 H7, Same H6 H7 → sp_law_right K [.int m, .int w, .ref a, .ref b2, .ref c, .ref pp] H7 (fun x H1 => ∃ c_1, x = V.bl c_1 ∧ if (!c_1) = true then D.rt (V.bl false) H1 else Pv (k + 1) [some (.ref b), some (.ref a), some (.ref b2), some (.ref c), some (.int w), some (.int M), some (.int m), some (.ref pp), y8, y9] H1) E0 := by
                intro y8 y9 H7 e7
                refine ⟨m, w, a, b2, c, s0, s1, f0, f1, j0, j1, _, o, rfl, zm, C6.same e7, pv.same e7, fun Ha ea => ?_⟩
                rw [hho]
                exact ⟨true, rfl, iteF (nxt _ _ _ _ ((s6.trans e7).trans ea))⟩
              subst est
              cases hA : apartB m w s0 s1 f0 f1 j0 j1 with
              | true =>
                refine ⟨true, rfl, iteT ⟨rfl, ?_⟩⟩
                rw [decide_eq_true (by rfl)]
                exact iteF (p3 _ fun y8 y9 H7 e7 => by (try simp only [tVar, tC, tOp, tUn, rI, rI0, rU, rEq, rNe, scal, tTest, tB, tAnd, tOr, tNot, tAndV, tOrV, tNotV, tIf, tChain, tNil, tCons, tCB, tCall, tTup, tLst, tRet, tRetN, tDrop, tSeq, tNext, tIfS, tAsg, gName, tPar, tPar3, gNil, gCons, gTup, gSub, tAug, tSl, tNoPart, tPart, tBM, tBM0, tYes, tIsP, iSeq, iEnumA, RZ.iZipA, iRng1, iRng2, iList, iTup, rIsi, rIsB, rIxL, rIxT, rIxA, rLenA, rListOf, rTupOf, rSetL, rSlL, rCat, rAppend, tFld, sFld, tMake, tBits, Int.ofNat_inj, cast1, cast0, TruV, cxOf, Cx.nox, Cx.wish, tNever, tBreak, tCont, ipI, tDIn, tDNotIn, sDPut, tDNewT, tDNewK, tDGet, rSortedPO, rSortedI, rIn, rEqD, rNeD, rInD, rNotInD, tSSet, rIsV, rIntI, rIntB, rAbsN, tLstRg, tRg1, tRg2, List.append_nil, List.nil_append, List.cons_append, Option.some.injEq, exists_eq_left', exists_eq_left, exists_eq_right, exists_eq_right', List.getElem?_cons_zero, List.getElem?_cons_succ, List.set_cons_zero, List.set_cons_succ, List.cons.injEq, and_true, true_and, exists_and_left, exists_and_right, and_assoc, V.int.injEq, V.bl.injEq, V.ref.injEq, V.str.injEq, reduceCtorEq, decide_true, decide_false, Bool.not_true, Bool.not_false, Bool.false_eq_true, if_false, if_true, ite_true, ite_false, List.length_cons, List.length_nil, tRaise, tErr, LamX.tLam, TTe]); exact fin y8 y9 H7 e7)
              | false =>
                refine ⟨false, rfl, iteF ⟨rfl, ?_⟩⟩
                rw [decide_eq_true (by rfl)]
                exact iteF (p3 _ fun y8 y9 H7 e7 => by (try simp only [tVar, tC, tOp, tUn, rI, rI0, rU, rEq, rNe, scal, tTest, tB, tAnd, tOr, tNot, tAndV, tOrV, tNotV, tIf, tChain, tNil, tCons, tCB, tCall, tTup, tLst, tRet, tRetN, tDrop, tSeq, tNext, tIfS, tAsg, gName, tPar, tPar3, gNil, gCons, gTup, gSub, tAug, tSl, tNoPart, tPart, tBM, tBM0, tYes, tIsP, iSeq, iEnumA, RZ.iZipA, iRng1, iRng2, iList, iTup, rIsi, rIsB, rIxL, rIxT, rIxA, rLenA, rListOf, rTupOf, rSetL, rSlL, rCat, rAppend, tFld, sFld, tMake, tBits, Int.ofNat_inj, cast1, cast0, TruV, cxOf, Cx.nox, Cx.wish, tNever, tBreak, tCont, ipI, tDIn, tDNotIn, sDPut, tDNewT, tDNewK, tDGet, rSortedPO, rSortedI, rIn, rEqD, rNeD, rInD, rNotInD, tSSet, rIsV, rIntI, rIntB, rAbsN, tLstRg, tRg1, tRg2, List.append_nil, List.nil_append, List.cons_append, Option.some.injEq, exists_eq_left', exists_eq_left, exists_eq_right, exists_eq_right', List.getElem?_cons_zero, List.getElem?_cons_succ, List.set_cons_zero, List.set_cons_succ, List.cons.injEq, and_true, true_and, exists_and_left, exists_and_right, and_assoc, V.int.injEq, V.bl.injEq, V.ref.injEq, V.str.injEq, reduceCtorEq, decide_true, decide_false, Bool.not_true, Bool.not_false, Bool.false_eq_true, if_false, if_true, ite_true, ite_false, List.length_cons, List.length_nil, tRaise, tErr, LamX.tLam, TTe]); exact fin y8 y9 H7 e7)
            refine ⟨_, .inr C5.ha, fun l hl => ⟨m, w, l, b2, c, s0, s1, f0, f1, j0, j1, rfl, ⟨by omega, m9⟩, ⟨.inl (.of upd_same), .inr (C5.same (same_new hl)).hb, .inr (C5.same (same_new hl)).hc, C5.ck⟩, fun hA H6 q e6 hq => ?_, fun hA H6 q t e6 hq ht => ?_⟩⟩
            · have e7 := ((same_new hl).trans e6).trans (same_new (o := .tup [.str "apart"]) hq)
              refine p2 _ q "apart" [] (.one "apart") e7 (.inl (.inl upd_same)) (.one (.inl (.inl upd_same))) (by rw [hA]; rfl) ?_
              simp [holdsB, hA]
            · have e7 := ((same_new hl).trans e6).trans (same_new (o := .tup [.str "late", .ref t]) hq)
              obtain ⟨zp, zq⟩ := hour_sz (n := m) C5.ck (by omega) m9
              refine p2 _ q "late" [.ref t] (.two "late" (.pair _ _)) e7 (.inl (.inl upd_same)) (.two (.inl (.inl upd_same)) (.pair (Kb.Same.tup (same_new hq) ht) zp zq)) (by rw [hA]; rfl) ?_
              simp [holdsB, late_true C5.ck (show 1 ≤ m by omega) hA]
          · rw [decide_eq_false m2]
            exact iteF (nxt _ _ _ _ (Same.refl _))
        · rw [decide_eq_false m1]
          exact iteF (nxt _ _ _ _ (Same.refl _))
      · rw [hPv] at z
        obtain ⟨y6, y7, y8, y9, rfl, s5⟩ := z
        exact hD _ _ _ _ _ (sb.trans (hbx_mono s5)) (hb4.same s5)
    refine ⟨_, _, .ty "bool", .base (.int M), false, kit_ty (by decide +kernel), iteF ⟨_, _, .ty "int", .base (.int M), true, kit_ty (by decide +kernel), iteF ⟨_, rfl, ?_⟩⟩⟩
    rw [decide_eq_false (show ¬ M < 0 by omega)]
    refine iteF ⟨cp, _, rfl, ?_⟩
    rw [h10, decide_eq_false (show ¬ 1000000000 < M by unfold M9 at *; omega)]
    refine iteF ⟨_, rfl, ?_⟩
    by_cases hM : 0 < M
    · rw [decide_eq_true hM]
      refine iteT ⟨M, w, a, b2, c, s0, s1, f0, f1, j0, j1, rfl, zM, CC, ?_⟩
      rw [M2 hM]
      refine ⟨true, rfl, iteF ⟨_, rfl, M + 1, w, a, b2, c, s0, s1, f0, f1, j0, j1, rfl, zM1, CC, ?_⟩⟩
      rw [M3]
      refine ⟨false, rfl, iteF ?_⟩
      refine p1 _ fun y6 y7 y8 y9 H4 s4 hb4 => ?_
      (try simp only [tVar, tC, tOp, tUn, rI, rI0, rU, rEq, rNe, scal, tTest, tB, tAnd, tOr, tNot, tAndV, tOrV, tNotV, tIf, tChain, tNil, tCons, tCB, tCall, tTup, tLst, tRet, tRetN, tDrop, tSeq, tNext, tIfS, tAsg, gName, tPar, tPar3, gNil, gCons, gTup, gSub, tAug, tSl, tNoPart, tPart, tBM, tBM0, tYes, tIsP, iSeq, iEnumA, RZ.iZipA, iRng1, iRng2, iList, iTup, rIsi, rIsB, rIxL, rIxT, rIxA, rLenA, rListOf, rTupOf, rSetL, rSlL, rCat, rAppend, tFld, sFld, tMake, tBits, Int.ofNat_inj, cast1, cast0, TruV, cxOf, Cx.nox, Cx.wish, tNever, tBreak, tCont, ipI, tDIn, tDNotIn, sDPut, tDNewT, tDNewK, tDGet, rSortedPO, rSortedI, rIn, rEqD, rNeD, rInD, rNotInD, tSSet, rIsV, rIntI, rIntB, rAbsN, tLstRg, tRg1, tRg2, List.append_nil, List.nil_append, List.cons_append, Option.some.injEq, exists_eq_left', exists_eq_left, exists_eq_right, exists_eq_right', List.getElem?_cons_zero, List.getElem?_cons_succ, List.set_cons_zero, List.set_cons_succ, List.cons.injEq, and_true, true_and, exists_and_left, exists_and_right, and_assoc, V.int.injEq, V.bl.injEq, V.ref.injEq, V.str.injEq, reduceCtorEq, decide_true, decide_false, Bool.not_true, Bool.not_false, Bool.false_eq_true, if_false, if_true, ite_true, ite_false, List.length_cons, List.length_nil, tRaise, tErr, LamX.tLam, TTe])
      refine take_i (by decide) (by decide) hb4 fun H5 t s5 hb5 t0 t1 => ⟨t, rfl, ?_⟩
      exact ⟨b, 1 + t, w, a, b2, c, s0, s1, f0, f1, j0, j1, rfl, hb5, ⟨by omega, by unfold M9; omega⟩, (C3.same s4).same s5, fun H6 s6 => q H6 (((sm3.trans s4).trans s5).trans s6)⟩
    · rw [decide_eq_false hM]
      refine iteF ⟨_, rfl, M + 1, w, a, b2, c, s0, s1, f0, f1, j0, j1, rfl, zM1, CC, ?_⟩
      rw [M3]
      refine ⟨false, rfl, iteF ?_⟩
      refine p1 _ fun y6 y7 y8 y9 H4 s4 hb4 => ?_
      (try simp only [tVar, tC, tOp, tUn, rI, rI0, rU, rEq, rNe, scal, tTest, tB, tAnd, tOr, tNot, tAndV, tOrV, tNotV, tIf, tChain, tNil, tCons, tCB, tCall, tTup, tLst, tRet, tRetN, tDrop, tSeq, tNext, tIfS, tAsg, gName, tPar, tPar3, gNil, gCons, gTup, gSub, tAug, tSl, tNoPart, tPart, tBM, tBM0, tYes, tIsP, iSeq, iEnumA, RZ.iZipA, iRng1, iRng2, iList, iTup, rIsi, rIsB, rIxL, rIxT, rIxA, rLenA, rListOf, rTupOf, rSetL, rSlL, rCat, rAppend, tFld, sFld, tMake, tBits, Int.ofNat_inj, cast1, cast0, TruV, cxOf, Cx.nox, Cx.wish, tNever, tBreak, tCont, ipI, tDIn, tDNotIn, sDPut, tDNewT, tDNewK, tDGet, rSortedPO, rSortedI, rIn, rEqD, rNeD, rInD, rNotInD, tSSet, rIsV, rIntI, rIntB, rAbsN, tLstRg, tRg1, tRg2, List.append_nil, List.nil_append, List.cons_append, Option.some.injEq, exists_eq_left', exists_eq_left, exists_eq_right, exists_eq_right', List.getElem?_cons_zero, List.getElem?_cons_succ, List.set_cons_zero, List.set_cons_succ, List.cons.injEq, and_true, true_and, exists_and_left, exists_and_right, and_assoc, V.int.injEq, V.bl.injEq, V.ref.injEq, V.str.injEq, reduceCtorEq, decide_true, decide_false, Bool.not_true, Bool.not_false, Bool.false_eq_true, if_false, if_true, ite_true, ite_false, List.length_cons, List.length_nil, tRaise, tErr, LamX.tLam, TTe])
      refine take_i (by decide) (by decide) hb4 fun H5 t s5 hb5 t0 t1 => ⟨t, rfl, ?_⟩
      exact ⟨b, 1 + t, w, a, b2, c, s0, s1, f0, f1, j0, j1, rfl, hb5, ⟨by omega, by unfold M9; omega⟩, (C3.same s4).same s5, fun H6 s6 => q H6 (((sm3.trans s4).trans s5).trans s6)⟩
def sp_law (K : PySem.W.Frag) : Sp := fun vs H Q _ => ∃ a ns, vs = [.ref a] ∧ SqL K H a (ivs ns) ∧ ns.length ≤ 63 ∧ ∀ H', Q (.bl true) H'
theorem ok_law (T : Tx P K mg) : FnOk P w K mg base CX0 9 T.a_law T.d_law ["script"] (sp_law K) := by
  refine T.F_law.ok sc_law (fun vs H Q E h => ?_) (fun cdv A outer s H vs Q E hr h => ?_)
  · obtain ⟨a, ns, rfl, _⟩ := h
    rfl
  · obtain ⟨a, ns, rfl, hs, _, q⟩ := h
    refine ⟨_, (pss_cons (ps_if (PW.pt (pw_or (pt_not (pt_val (pe_call (ok__law_alike T) (hr.mono (by decide)) (by rfl) T.g__law_alike T.F__law_alike.kp T.b__law_alike .nil pass0 (pa_cons (pe_call (ok_greatest_count T) (hr.mono (by decide)) (by rfl) T.g_greatest_count T.F_greatest_count.kp T.b_greatest_count .nil pass0 (pa_cons pe_int (pa_cons (pe_tup (pa_cons pe_int (pa_cons pe_int pa_nil))) (pa_cons (pe_tup (pa_cons pe_int (pa_cons pe_int pa_nil))) (pa_cons (pe_tup (pa_cons pe_int (pa_cons pe_int pa_nil))) pa_nil))))) (pa_cons pe_int pa_nil))))) (pw_or1 (pt_not (pt_val (pe_call (ok__law_alike T) (hr.mono (by decide)) (by rfl) T.g__law_alike T.F__law_alike.kp T.b__law_alike .nil pass0 (pa_cons (pe_call (ok_greatest_count T) (hr.mono (by decide)) (by rfl) T.g_greatest_count T.F_greatest_count.kp T.b_greatest_count .nil pass0 (pa_cons pe_int (pa_cons (pe_tup (pa_cons pe_int (pa_cons pe_int pa_nil))) (pa_cons (pe_tup (pa_cons pe_int (pa_cons pe_int pa_nil))) (pa_cons (pe_tup (pa_cons pe_int (pa_cons pe_int pa_nil))) pa_nil))))) (pa_cons pe_int pa_nil)))))))) (pss_one (ps_ret pe_bl)) pss_nil)
      (pss_cons (ps_for PassesOwn.never rfl (pi_range1 (by rfl) T.n_range (pa_cons pe_int pa_nil)) (pg_name (i := 1) sc_law.nd rfl (Or.inl rfl)) (pss_one (ps_if (pt_not (pt_val (pe_call (ok__law_asks T) (hr.mono (by decide)) (by rfl) T.g__law_asks T.F__law_asks.kp T.b__law_asks .nil pass0 (pa_cons (pe_call (ok__law_box T) (hr.mono (by decide)) (by rfl) T.g__law_box T.F__law_box.kp T.b__law_box .nil pass0 (pa_cons (pv 0) (pa_cons (pv 1) pa_nil))) pa_nil)))) (pss_one (ps_ret pe_bl)) pss_nil)))
      (pss_one (ps_ret pe_bl)))), ?_⟩
    rw [show L2.start ["script", "k"] [.ref a] = [some (.ref a), none] from rfl]
    generalize hF1 : tFor _ _ _ = F1
    (try simp only [tVar, tC, tOp, tUn, rI, rI0, rU, rEq, rNe, scal, tTest, tB, tAnd, tOr, tNot, tAndV, tOrV, tNotV, tIf, tChain, tNil, tCons, tCB, tCall, tTup, tLst, tRet, tRetN, tDrop, tSeq, tNext, tIfS, tAsg, gName, tPar, tPar3, gNil, gCons, gTup, gSub, tAug, tSl, tNoPart, tPart, tBM, tBM0, tYes, tIsP, iSeq, iEnumA, RZ.iZipA, iRng1, iRng2, iList, iTup, rIsi, rIsB, rIxL, rIxT, rIxA, rLenA, rListOf, rTupOf, rSetL, rSlL, rCat, rAppend, tFld, sFld, tMake, tBits, Int.ofNat_inj, cast1, cast0, TruV, cxOf, Cx.nox, Cx.wish, tNever, tBreak, tCont, ipI, tDIn, tDNotIn, sDPut, tDNewT, tDNewK, tDGet, rSortedPO, rSortedI, rIn, rEqD, rNeD, rInD, rNotInD, tSSet, rIsV, rIntI, rIntB, rAbsN, tLstRg, tRg1, tRg2, List.append_nil, List.nil_append, List.cons_append, Option.some.injEq, exists_eq_left', exists_eq_left, exists_eq_right, exists_eq_right', List.getElem?_cons_zero, List.getElem?_cons_succ, List.set_cons_zero, List.set_cons_succ, List.cons.injEq, and_true, true_and, exists_and_left, exists_and_right, and_assoc, V.int.injEq, V.bl.injEq, V.ref.injEq, V.str.injEq, reduceCtorEq, decide_true, decide_false, Bool.not_true, Bool.not_false, Bool.false_eq_true, if_false, if_true, ite_true, ite_false, List.length_cons, List.length_nil, tRaise, tErr, LamX.tLam, TTe])
    have tup : ∀ {H : Hp} {p q r : Addr} {w s0 s1 f0 f1 j0 j1 : Int}, Clk w s0 s1 f0 f1 j0 j1 → H p = none → (upd H p (.tup [.int s0, .int s1])) q = none → (upd (upd H p (.tup [.int s0, .int s1])) q (.tup [.int f0, .int f1])) r = none → ClkAt K (upd (upd (upd H p (.tup [.int s0, .int s1])) q (.tup [.int f0, .int f1])) r (.tup [.int j0, .int j1])) p q r w s0 s1 f0 f1 j0 j1 :=
      fun C h1 h2 h3 => ⟨.inr (.inl (.inl (same_new h3 _ _ (same_new h2 _ _ upd_same)))), .inr (.inl (.inl (same_new h3 _ _ upd_same))), .inr (.inl (.inl upd_same)), C⟩
    have A1 : Clk 12 9 10 1 1 1 2 := by constructor <;> decide
    have A2 : Clk 1 1 2 1 1 3 1 := by constructor <;> decide
    refine ⟨by decide, fun t1 h1 => ⟨by decide, fun t2 h2 => ⟨by decide, fun t3 h3 => ⟨12, t1, t2, t3, 9, 10, 1, 1, 1, 2, rfl, tup A1 h1 h2 h3, fun H1 e1 => ?_⟩⟩⟩⟩
    rw [show mostI 12 9 10 1 1 1 2 = 10 by decide]
    refine ⟨_, _, rfl, .int 4 10, fun H2 e2 => ⟨true, rfl, iteF ?_⟩⟩
    have E2 : Same H H2 := (((same_new h1).trans (same_new h2)).trans (same_new h3)).trans (e1.trans e2)
    refine ⟨by decide, fun u1 g1 => ⟨by decide, fun u2 g2 => ⟨by decide, fun u3 g3 => ⟨1, u1, u2, u3, 1, 2, 1, 1, 3, 1, rfl, tup A2 g1 g2 g3, fun H3 e3 => ?_⟩⟩⟩⟩
    rw [show mostI 1 1 2 1 1 3 1 = 0 by decide]
    refine ⟨_, _, rfl, .int 4 0, fun H4 e4 => ⟨true, rfl, iteF ?_⟩⟩
    have E4 : Same H H4 := E2.trans ((((same_new g1).trans (same_new g2)).trans (same_new g3)).trans (e3.trans e4))
    have hs4 := Same.seq E4 hs
    subst hF1
    obtain ⟨Pv, hPv⟩ : ∃ Pv : Nat → L2.St → Hp → Prop, ∀ k σ' H', Pv k σ' H' = (∃ y, σ' = [some (.ref a), y] ∧ SqL K H' a (ivs ns)) := ⟨_, fun _ _ _ => rfl⟩
    refine forR1 3 Pv (fun R h => by (try simp only [tVar, tC, tOp, tUn, rI, rI0, rU, rEq, rNe, scal, tTest, tB, tAnd, tOr, tNot, tAndV, tOrV, tNotV, tIf, tChain, tNil, tCons, tCB, tCall, tTup, tLst, tRet, tRetN, tDrop, tSeq, tNext, tIfS, tAsg, gName, tPar, tPar3, gNil, gCons, gTup, gSub, tAug, tSl, tNoPart, tPart, tBM, tBM0, tYes, tIsP, iSeq, iEnumA, RZ.iZipA, iRng1, iRng2, iList, iTup, rIsi, rIsB, rIxL, rIxT, rIxA, rLenA, rListOf, rTupOf, rSetL, rSlL, rCat, rAppend, tFld, sFld, tMake, tBits, Int.ofNat_inj, cast1, cast0, TruV, cxOf, Cx.nox, Cx.wish, tNever, tBreak, tCont, ipI, tDIn, tDNotIn, sDPut, tDNewT, tDNewK, tDGet, rSortedPO, rSortedI, rIn, rEqD, rNeD, rInD, rNotInD, tSSet, rIsV, rIntI, rIntB, rAbsN, tLstRg, tRg1, tRg2, List.append_nil, List.nil_append, List.cons_append, Option.some.injEq, exists_eq_left', exists_eq_left, exists_eq_right, exists_eq_right', List.getElem?_cons_zero, List.getElem?_cons_succ, List.set_cons_zero, List.set_cons_succ, List.cons.injEq, and_true, true_and, exists_and_left, exists_and_right, and_assoc, V.int.injEq, V.bl.injEq, V.ref.injEq, V.str.injEq, reduceCtorEq, decide_true, decide_false, Bool.not_true, Bool.not_false, Bool.false_eq_true, if_false, if_true, ite_true, ite_false, List.length_cons, List.length_nil, tRaise, tErr, LamX.tLam, TTe]); exact h) (by decide) (by rw [hPv]; exact ⟨_, rfl, hs4⟩) (fun i σ' H' hi z => ?_) (fun σ' H' z => ?_)
    · rw [hPv] at z
      obtain ⟨y, rfl, sH⟩ := z
      (try simp only [tVar, tC, tOp, tUn, rI, rI0, rU, rEq, rNe, scal, tTest, tB, tAnd, tOr, tNot, tAndV, tOrV, tNotV, tIf, tChain, tNil, tCons, tCB, tCall, tTup, tLst, tRet, tRetN, tDrop, tSeq, tNext, tIfS, tAsg, gName, tPar, tPar3, gNil, gCons, gTup, gSub, tAug, tSl, tNoPart, tPart, tBM, tBM0, tYes, tIsP, iSeq, iEnumA, RZ.iZipA, iRng1, iRng2, iList, iTup, rIsi, rIsB, rIxL, rIxT, rIxA, rLenA, rListOf, rTupOf, rSetL, rSlL, rCat, rAppend, tFld, sFld, tMake, tBits, Int.ofNat_inj, cast1, cast0, TruV, cxOf, Cx.nox, Cx.wish, tNever, tBreak, tCont, ipI, tDIn, tDNotIn, sDPut, tDNewT, tDNewK, tDGet, rSortedPO, rSortedI, rIn, rEqD, rNeD, rInD, rNotInD, tSSet, rIsV, rIntI, rIntB, rAbsN, tLstRg, tRg1, tRg2, List.append_nil, List.nil_append, List.cons_append, Option.some.injEq, exists_eq_left', exists_eq_left, exists_eq_right, exists_eq_right', List.getElem?_cons_zero, List.getElem?_cons_succ, List.set_cons_zero, List.set_cons_succ, List.cons.injEq, and_true, true_and, exists_and_left, exists_and_right, and_assoc, V.int.injEq, V.bl.injEq, V.ref.injEq, V.str.injEq, reduceCtorEq, decide_true, decide_false, Bool.not_true, Bool.not_false, Bool.false_eq_true, if_false, if_true, ite_true, ite_false, List.length_cons, List.length_nil, tRaise, tErr, LamX.tLam, TTe])
      refine ⟨a, ns, i, rfl, sH, fun H5 b s5 b0 hb5 => ⟨b, rfl, hb5, fun H6 s6 => ⟨true, rfl, iteF ?_⟩⟩⟩
      show Pv (i + 1) _ _
      rw [hPv]
      exact ⟨_, rfl, Same.seq (hbx_le b H6) (Same.seq s6 (Same.seq s5 sH))⟩
    · rw [hPv] at z
      obtain ⟨y, rfl, sH⟩ := z
      (try simp only [tVar, tC, tOp, tUn, rI, rI0, rU, rEq, rNe, scal, tTest, tB, tAnd, tOr, tNot, tAndV, tOrV, tNotV, tIf, tChain, tNil, tCons, tCB, tCall, tTup, tLst, tRet, tRetN, tDrop, tSeq, tNext, tIfS, tAsg, gName, tPar, tPar3, gNil, gCons, gTup, gSub, tAug, tSl, tNoPart, tPart, tBM, tBM0, tYes, tIsP, iSeq, iEnumA, RZ.iZipA, iRng1, iRng2, iList, iTup, rIsi, rIsB, rIxL, rIxT, rIxA, rLenA, rListOf, rTupOf, rSetL, rSlL, rCat, rAppend, tFld, sFld, tMake, tBits, Int.ofNat_inj, cast1, cast0, TruV, cxOf, Cx.nox, Cx.wish, tNever, tBreak, tCont, ipI, tDIn, tDNotIn, sDPut, tDNewT, tDNewK, tDGet, rSortedPO, rSortedI, rIn, rEqD, rNeD, rInD, rNotInD, tSSet, rIsV, rIntI, rIntB, rAbsN, tLstRg, tRg1, tRg2, List.append_nil, List.nil_append, List.cons_append, Option.some.injEq, exists_eq_left', exists_eq_left, exists_eq_right, exists_eq_right', List.getElem?_cons_zero, List.getElem?_cons_succ, List.set_cons_zero, List.set_cons_succ, List.cons.injEq, and_true, true_and, exists_and_left, exists_and_right, and_assoc, V.int.injEq, V.bl.injEq, V.ref.injEq, V.str.injEq, reduceCtorEq, decide_true, decide_false, Bool.not_true, Bool.not_false, Bool.false_eq_true, if_false, if_true, ite_true, ite_false, List.length_cons, List.length_nil, tRaise, tErr, LamX.tLam, TTe])
      exact q _
end
end Kr
namespace Kr
open PySem PySem.Spec PyProof.Rows L2 Kb
theorem along_of {K : PySem.W.Frag} {C : Addr} {oc : Value} {od : Option Addr} {cd : ClassData} {sl : Array (Option Value)} {l : List Value} {name : Str} {r : Option Value} (h1 : K.lookup C = some ⟨oc, od, .cls cd, sl⟩) (h2 : cd.mro = l) (h3 : PySem.W.findIn K (.ref C) name = some r) : PySem.W.alongIn K name l = some r := by
  unfold PySem.W.findIn at h3
  simp only [h1] at h3
  rw [← h2]
  exact h3
theorem init_InvalidCount : Kx.IsInit (Str.ofString "at") s_InvalidCount___init__ := ⟨_, _, _, _, _, _, _, _, _, _, _, _, _, rfl, rfl, rfl, fun env => ⟨_, rfl⟩⟩
theorem init_InvalidRates : Kx.IsInit (Str.ofString "at") s_InvalidRates___init__ := ⟨_, _, _, _, _, _, _, _, _, _, _, _, _, rfl, rfl, rfl, fun env => ⟨_, rfl⟩⟩
set_option maxHeartbeats 0 in
theorem all_mk {P : Program} {w : World} {K : PySem.W.Frag} {h : Heap} {mg : Str → Option Value} {fa : Addr} (X : K.In h) (G : h.Ns mainGlobals mg) (hfa : mg "law" = some (.ref fa))
    {c_InvalidRates : Addr}
    {c_InvalidCount : Addr}
    {c_RuleError : Addr}
    {f1 : Addr} {od1 an1 : Option Addr} {sl1 : Array (Option Value)} {oc1 kV1 dc1 pm1 ct1 : Value}
    {f2 : Addr} {od2 an2 : Option Addr} {sl2 : Array (Option Value)} {oc2 kV2 dc2 pm2 ct2 : Value}
    {f3 : Addr} {od3 an3 : Option Addr} {sl3 : Array (Option Value)} {oc3 kV3 dc3 pm3 cd3 ct3 : Value}
    {f4 : Addr} {od4 an4 : Option Addr} {sl4 : Array (Option Value)} {oc4 kV4 dc4 pm4 cd4 ct4 : Value}
    {f5 : Addr} {od5 an5 : Option Addr} {sl5 : Array (Option Value)} {oc5 kV5 dc5 pm5 cd5 ct5 : Value}
    {f6 : Addr} {od6 an6 : Option Addr} {sl6 : Array (Option Value)} {oc6 kV6 dc6 pm6 cd6 ct6 : Value}
    {f7 : Addr} {od7 an7 : Option Addr} {sl7 : Array (Option Value)} {oc7 kV7 dc7 pm7 cd7 ct7 : Value}
    {f8 : Addr} {od8 an8 : Option Addr} {sl8 : Array (Option Value)} {oc8 kV8 dc8 pm8 cd8 ct8 : Value}
    {f9 : Addr} {od9 an9 : Option Addr} {sl9 : Array (Option Value)} {oc9 kV9 dc9 pm9 cd9 ct9 : Value}
    {f10 : Addr} {od10 an10 : Option Addr} {sl10 : Array (Option Value)} {oc10 kV10 dc10 pm10 cd10 ct10 : Value}
    {f11 : Addr} {od11 an11 : Option Addr} {sl11 : Array (Option Value)} {oc11 kV11 dc11 pm11 cd11 ct11 : Value}
    {f12 : Addr} {od12 an12 : Option Addr} {sl12 : Array (Option Value)} {oc12 kV12 dc12 pm12 cd12 ct12 : Value}
    {f13 : Addr} {od13 an13 : Option Addr} {sl13 : Array (Option Value)} {oc13 kV13 dc13 pm13 cd13 ct13 : Value}
    {f14 : Addr} {od14 an14 : Option Addr} {sl14 : Array (Option Value)} {oc14 kV14 dc14 pm14 cd14 ct14 : Value}
    {f15 : Addr} {od15 an15 : Option Addr} {sl15 : Array (Option Value)} {oc15 kV15 dc15 pm15 cd15 ct15 : Value}
    {f16 : Addr} {od16 an16 : Option Addr} {sl16 : Array (Option Value)} {oc16 kV16 dc16 pm16 cd16 ct16 : Value}
    {f17 : Addr} {od17 an17 : Option Addr} {sl17 : Array (Option Value)} {oc17 kV17 dc17 pm17 cd17 ct17 : Value}
    {f18 : Addr} {od18 an18 : Option Addr} {sl18 : Array (Option Value)} {oc18 kV18 dc18 pm18 cd18 ct18 : Value}
    {f19 : Addr} {od19 an19 : Option Addr} {sl19 : Array (Option Value)} {oc19 kV19 dc19 pm19 cd19 ct19 : Value}
    {f20 : Addr} {od20 an20 : Option Addr} {sl20 : Array (Option Value)} {oc20 kV20 dc20 pm20 cd20 ct20 : Value}
    {f21 : Addr} {od21 an21 : Option Addr} {sl21 : Array (Option Value)} {oc21 kV21 dc21 pm21 cd21 ct21 : Value}
    {f22 : Addr} {od22 an22 : Option Addr} {sl22 : Array (Option Value)} {oc22 kV22 dc22 pm22 cd22 ct22 : Value}
    {f23 : Addr} {od23 an23 : Option Addr} {sl23 : Array (Option Value)} {oc23 kV23 dc23 pm23 cd23 ct23 : Value}
    {f24 : Addr} {od24 an24 : Option Addr} {sl24 : Array (Option Value)} {oc24 kV24 dc24 pm24 cd24 ct24 : Value}
    {f25 : Addr} {od25 an25 : Option Addr} {sl25 : Array (Option Value)} {oc25 kV25 dc25 pm25 cd25 ct25 : Value}
    {f26 : Addr} {od26 an26 : Option Addr} {sl26 : Array (Option Value)} {oc26 kV26 dc26 pm26 cd26 ct26 : Value}
    {f27 : Addr} {od27 an27 : Option Addr} {sl27 : Array (Option Value)} {oc27 kV27 dc27 pm27 cd27 ct27 : Value}
    {f28 : Addr} {od28 an28 : Option Addr} {sl28 : Array (Option Value)} {oc28 kV28 dc28 pm28 cd28 ct28 : Value}
    {f29 : Addr} {od29 an29 : Option Addr} {sl29 : Array (Option Value)} {oc29 kV29 dc29 pm29 cd29 ct29 : Value}
    {f30 : Addr} {od30 an30 : Option Addr} {sl30 : Array (Option Value)} {oc30 kV30 dc30 pm30 cd30 ct30 : Value}
    {f31 : Addr} {od31 an31 : Option Addr} {sl31 : Array (Option Value)} {oc31 kV31 dc31 pm31 cd31 ct31 : Value}
    {ne_InvalidCount qe_InvalidCount : Str} {Ne_InvalidCount : Addr} {be_InvalidCount : List Value} {sn_InvalidCount : List Str} {su_InvalidCount : List Value} {ab_InvalidCount : Bool} {co_InvalidCount : Option Bool} {dd_InvalidCount : Option Addr} {m0_InvalidCount m1_InvalidCount m2_InvalidCount m3_InvalidCount m5_InvalidCount : Option Value}
    {cda_InvalidCount cc_InvalidCount : Addr} {cl_InvalidCount ccl_InvalidCount : Value} {cld_InvalidCount cdd_InvalidCount : Option Addr} {csl_InvalidCount ccs_InvalidCount : Array (Option Value)} {vs_InvalidCount : Array Value} {fi_InvalidCount : Str} {tf_InvalidCount : Tok}
    {ocB_RuleError : Value} {odB_RuleError : Option Addr} {cdB_RuleError : ClassData} {slB_RuleError : Array (Option Value)}
    {ne_InvalidRates qe_InvalidRates : Str} {Ne_InvalidRates : Addr} {be_InvalidRates : List Value} {sn_InvalidRates : List Str} {su_InvalidRates : List Value} {ab_InvalidRates : Bool} {co_InvalidRates : Option Bool} {dd_InvalidRates : Option Addr} {m0_InvalidRates m1_InvalidRates m2_InvalidRates m3_InvalidRates m5_InvalidRates : Option Value}
    {cda_InvalidRates cc_InvalidRates : Addr} {cl_InvalidRates ccl_InvalidRates : Value} {cld_InvalidRates cdd_InvalidRates : Option Addr} {csl_InvalidRates ccs_InvalidRates : Array (Option Value)} {vs_InvalidRates : Array Value} {fi_InvalidRates : Str} {tf_InvalidRates : Tok}
    {t_MOST_TICKS : Tok}
    (aC_InvalidRates : PySem.W.nsIn K mainGlobals "InvalidRates" = some (some (.ref c_InvalidRates)))
    (aC_InvalidCount : PySem.W.nsIn K mainGlobals "InvalidCount" = some (some (.ref c_InvalidCount)))
    (aC_RuleError : PySem.W.nsIn K mainGlobals "RuleError" = some (some (.ref c_RuleError)))
    (a1 : PySem.W.findIn K (.ref c_InvalidCount) "__init__" = some (some (.ref f1)))
    (i1 : PySem.W.isFn K (.ref f1) = true)
    (l1 : K.lookup f1 = some ⟨oc1, od1, .func (PySem.W.ksFn "__init__" "InvalidCount.__init__" (L2.defArgs s_InvalidCount___init__) (L2.defBody s_InvalidCount___init__) (L2.defScope s_InvalidCount___init__) .none kV1 dc1 pm1 an1 (.ref cda_InvalidCount) ct1 cc_InvalidCount), sl1⟩)
    (c1 : PySem.W.codeIn K (.ref cda_InvalidCount) "InvalidCount.__init__" = true)
    (a2 : PySem.W.findIn K (.ref c_InvalidRates) "__init__" = some (some (.ref f2)))
    (i2 : PySem.W.isFn K (.ref f2) = true)
    (l2 : K.lookup f2 = some ⟨oc2, od2, .func (PySem.W.ksFn "__init__" "InvalidRates.__init__" (L2.defArgs s_InvalidRates___init__) (L2.defBody s_InvalidRates___init__) (L2.defScope s_InvalidRates___init__) .none kV2 dc2 pm2 an2 (.ref cda_InvalidRates) ct2 cc_InvalidRates), sl2⟩)
    (c2 : PySem.W.codeIn K (.ref cda_InvalidRates) "InvalidRates.__init__" = true)
    (a3 : PySem.W.nsIn K mainGlobals "is_integer" = some (some (.ref f3)))
    (l3 : K.lookup f3 = some ⟨oc3, od3, .func (PySem.W.fnOf "is_integer" "is_integer" (defArgs s_is_integer) (defBody s_is_integer) (defScope s_is_integer) .none kV3 dc3 pm3 an3 cd3 ct3), sl3⟩)
    (c3 : PySem.W.codeIn K cd3 "is_integer" = true)
    (k3 : PySem.W.keepIn K (.ref f3) = true)
    (a4 : PySem.W.nsIn K mainGlobals "is_between" = some (some (.ref f4)))
    (l4 : K.lookup f4 = some ⟨oc4, od4, .func (PySem.W.fnOf "is_between" "is_between" (defArgs s_is_between) (defBody s_is_between) (defScope s_is_between) .none kV4 dc4 pm4 an4 cd4 ct4), sl4⟩)
    (c4 : PySem.W.codeIn K cd4 "is_between" = true)
    (k4 : PySem.W.keepIn K (.ref f4) = true)
    (a5 : PySem.W.nsIn K mainGlobals "is_sequence" = some (some (.ref f5)))
    (l5 : K.lookup f5 = some ⟨oc5, od5, .func (PySem.W.fnOf "is_sequence" "is_sequence" (defArgs s_is_sequence) (defBody s_is_sequence) (defScope s_is_sequence) .none kV5 dc5 pm5 an5 cd5 ct5), sl5⟩)
    (c5 : PySem.W.codeIn K cd5 "is_sequence" = true)
    (k5 : PySem.W.keepIn K (.ref f5) = true)
    (a6 : PySem.W.nsIn K mainGlobals "is_row" = some (some (.ref f6)))
    (l6 : K.lookup f6 = some ⟨oc6, od6, .func (PySem.W.fnOf "is_row" "is_row" (defArgs s_is_row) (defBody s_is_row) (defScope s_is_row) .none kV6 dc6 pm6 an6 cd6 ct6), sl6⟩)
    (c6 : PySem.W.codeIn K cd6 "is_row" = true)
    (k6 : PySem.W.keepIn K (.ref f6) = true)
    (a7 : PySem.W.nsIn K mainGlobals "is_paper" = some (some (.ref f7)))
    (l7 : K.lookup f7 = some ⟨oc7, od7, .func (PySem.W.fnOf "is_paper" "is_paper" (defArgs s_is_paper) (defBody s_is_paper) (defScope s_is_paper) .none kV7 dc7 pm7 an7 cd7 ct7), sl7⟩)
    (c7 : PySem.W.codeIn K cd7 "is_paper" = true)
    (k7 : PySem.W.keepIn K (.ref f7) = true)
    (a8 : PySem.W.nsIn K mainGlobals "is_word" = some (some (.ref f8)))
    (l8 : K.lookup f8 = some ⟨oc8, od8, .func (PySem.W.fnOf "is_word" "is_word" (defArgs s_is_word) (defBody s_is_word) (defScope s_is_word) .none kV8 dc8 pm8 an8 cd8 ct8), sl8⟩)
    (c8 : PySem.W.codeIn K cd8 "is_word" = true)
    (k8 : PySem.W.keepIn K (.ref f8) = true)
    (a9 : PySem.W.nsIn K mainGlobals "need_count" = some (some (.ref f9)))
    (l9 : K.lookup f9 = some ⟨oc9, od9, .func (PySem.W.fnOf "need_count" "need_count" (defArgs s_need_count) (defBody s_need_count) (defScope s_need_count) .none kV9 dc9 pm9 an9 cd9 ct9), sl9⟩)
    (c9 : PySem.W.codeIn K cd9 "need_count" = true)
    (k9 : PySem.W.keepIn K (.ref f9) = true)
    (a10 : PySem.W.nsIn K mainGlobals "need_fraction" = some (some (.ref f10)))
    (l10 : K.lookup f10 = some ⟨oc10, od10, .func (PySem.W.fnOf "need_fraction" "need_fraction" (defArgs s_need_fraction) (defBody s_need_fraction) (defScope s_need_fraction) .none kV10 dc10 pm10 an10 cd10 ct10), sl10⟩)
    (c10 : PySem.W.codeIn K cd10 "need_fraction" = true)
    (k10 : PySem.W.keepIn K (.ref f10) = true)
    (a11 : PySem.W.nsIn K mainGlobals "need_clocks" = some (some (.ref f11)))
    (l11 : K.lookup f11 = some ⟨oc11, od11, .func (PySem.W.fnOf "need_clocks" "need_clocks" (defArgs s_need_clocks) (defBody s_need_clocks) (defScope s_need_clocks) .none kV11 dc11 pm11 an11 cd11 ct11), sl11⟩)
    (c11 : PySem.W.codeIn K cd11 "need_clocks" = true)
    (k11 : PySem.W.keepIn K (.ref f11) = true)
    (a12 : PySem.W.nsIn K mainGlobals "spare" = some (some (.ref f12)))
    (l12 : K.lookup f12 = some ⟨oc12, od12, .func (PySem.W.fnOf "spare" "spare" (defArgs s_spare) (defBody s_spare) (defScope s_spare) .none kV12 dc12 pm12 an12 cd12 ct12), sl12⟩)
    (c12 : PySem.W.codeIn K cd12 "spare" = true)
    (k12 : PySem.W.keepIn K (.ref f12) = true)
    (a13 : PySem.W.nsIn K mainGlobals "lowest" = some (some (.ref f13)))
    (l13 : K.lookup f13 = some ⟨oc13, od13, .func (PySem.W.fnOf "lowest" "lowest" (defArgs s_lowest) (defBody s_lowest) (defScope s_lowest) .none kV13 dc13 pm13 an13 cd13 ct13), sl13⟩)
    (c13 : PySem.W.codeIn K cd13 "lowest" = true)
    (k13 : PySem.W.keepIn K (.ref f13) = true)
    (a14 : PySem.W.nsIn K mainGlobals "is_apart" = some (some (.ref f14)))
    (l14 : K.lookup f14 = some ⟨oc14, od14, .func (PySem.W.fnOf "is_apart" "is_apart" (defArgs s_is_apart) (defBody s_is_apart) (defScope s_is_apart) .none kV14 dc14 pm14 an14 cd14 ct14), sl14⟩)
    (c14 : PySem.W.codeIn K cd14 "is_apart" = true)
    (k14 : PySem.W.keepIn K (.ref f14) = true)
    (a15 : PySem.W.nsIn K mainGlobals "clock_paper" = some (some (.ref f15)))
    (l15 : K.lookup f15 = some ⟨oc15, od15, .func (PySem.W.fnOf "clock_paper" "clock_paper" (defArgs s_clock_paper) (defBody s_clock_paper) (defScope s_clock_paper) .none kV15 dc15 pm15 an15 cd15 ct15), sl15⟩)
    (c15 : PySem.W.codeIn K cd15 "clock_paper" = true)
    (k15 : PySem.W.keepIn K (.ref f15) = true)
    (a16 : PySem.W.nsIn K mainGlobals "clock_holds" = some (some (.ref f16)))
    (l16 : K.lookup f16 = some ⟨oc16, od16, .func (PySem.W.fnOf "clock_holds" "clock_holds" (defArgs s_clock_holds) (defBody s_clock_holds) (defScope s_clock_holds) .none kV16 dc16 pm16 an16 cd16 ct16), sl16⟩)
    (c16 : PySem.W.codeIn K cd16 "clock_holds" = true)
    (k16 : PySem.W.keepIn K (.ref f16) = true)
    (a17 : PySem.W.nsIn K mainGlobals "greatest_count" = some (some (.ref f17)))
    (l17 : K.lookup f17 = some ⟨oc17, od17, .func (PySem.W.fnOf "greatest_count" "greatest_count" (defArgs s_greatest_count) (defBody s_greatest_count) (defScope s_greatest_count) .none kV17 dc17 pm17 an17 cd17 ct17), sl17⟩)
    (c17 : PySem.W.codeIn K cd17 "greatest_count" = true)
    (k17 : PySem.W.keepIn K (.ref f17) = true)
    (a18 : PySem.W.nsIn K mainGlobals "_law_box" = some (some (.ref f18)))
    (l18 : K.lookup f18 = some ⟨oc18, od18, .func (PySem.W.fnOf "_law_box" "_law_box" (defArgs s__law_box) (defBody s__law_box) (defScope s__law_box) .none kV18 dc18 pm18 an18 cd18 ct18), sl18⟩)
    (c18 : PySem.W.codeIn K cd18 "_law_box" = true)
    (k18 : PySem.W.keepIn K (.ref f18) = true)
    (a19 : PySem.W.nsIn K mainGlobals "_law_take" = some (some (.ref f19)))
    (l19 : K.lookup f19 = some ⟨oc19, od19, .func (PySem.W.fnOf "_law_take" "_law_take" (defArgs s__law_take) (defBody s__law_take) (defScope s__law_take) .none kV19 dc19 pm19 an19 cd19 ct19), sl19⟩)
    (c19 : PySem.W.codeIn K cd19 "_law_take" = true)
    (k19 : PySem.W.keepIn K (.ref f19) = true)
    (a20 : PySem.W.nsIn K mainGlobals "_law_pick" = some (some (.ref f20)))
    (l20 : K.lookup f20 = some ⟨oc20, od20, .func (PySem.W.fnOf "_law_pick" "_law_pick" (defArgs s__law_pick) (defBody s__law_pick) (defScope s__law_pick) .none kV20 dc20 pm20 an20 cd20 ct20), sl20⟩)
    (c20 : PySem.W.codeIn K cd20 "_law_pick" = true)
    (k20 : PySem.W.keepIn K (.ref f20) = true)
    (a21 : PySem.W.nsIn K mainGlobals "_law_alike" = some (some (.ref f21)))
    (l21 : K.lookup f21 = some ⟨oc21, od21, .func (PySem.W.fnOf "_law_alike" "_law_alike" (defArgs s__law_alike) (defBody s__law_alike) (defScope s__law_alike) .none kV21 dc21 pm21 an21 cd21 ct21), sl21⟩)
    (c21 : PySem.W.codeIn K cd21 "_law_alike" = true)
    (k21 : PySem.W.keepIn K (.ref f21) = true)
    (a22 : PySem.W.nsIn K mainGlobals "_law_apart" = some (some (.ref f22)))
    (l22 : K.lookup f22 = some ⟨oc22, od22, .func (PySem.W.fnOf "_law_apart" "_law_apart" (defArgs s__law_apart) (defBody s__law_apart) (defScope s__law_apart) .none kV22 dc22 pm22 an22 cd22 ct22), sl22⟩)
    (c22 : PySem.W.codeIn K cd22 "_law_apart" = true)
    (k22 : PySem.W.keepIn K (.ref f22) = true)
    (a23 : PySem.W.nsIn K mainGlobals "_law_low" = some (some (.ref f23)))
    (l23 : K.lookup f23 = some ⟨oc23, od23, .func (PySem.W.fnOf "_law_low" "_law_low" (defArgs s__law_low) (defBody s__law_low) (defScope s__law_low) .none kV23 dc23 pm23 an23 cd23 ct23), sl23⟩)
    (c23 : PySem.W.codeIn K cd23 "_law_low" = true)
    (k23 : PySem.W.keepIn K (.ref f23) = true)
    (a24 : PySem.W.nsIn K mainGlobals "_law_right" = some (some (.ref f24)))
    (l24 : K.lookup f24 = some ⟨oc24, od24, .func (PySem.W.fnOf "_law_right" "_law_right" (defArgs s__law_right) (defBody s__law_right) (defScope s__law_right) .none kV24 dc24 pm24 an24 cd24 ct24), sl24⟩)
    (c24 : PySem.W.codeIn K cd24 "_law_right" = true)
    (k24 : PySem.W.keepIn K (.ref f24) = true)
    (a25 : PySem.W.nsIn K mainGlobals "_law_number" = some (some (.ref f25)))
    (l25 : K.lookup f25 = some ⟨oc25, od25, .func (PySem.W.fnOf "_law_number" "_law_number" (defArgs s__law_number) (defBody s__law_number) (defScope s__law_number) .none kV25 dc25 pm25 an25 cd25 ct25), sl25⟩)
    (c25 : PySem.W.codeIn K cd25 "_law_number" = true)
    (k25 : PySem.W.keepIn K (.ref f25) = true)
    (a26 : PySem.W.nsIn K mainGlobals "_law_paces" = some (some (.ref f26)))
    (l26 : K.lookup f26 = some ⟨oc26, od26, .func (PySem.W.fnOf "_law_paces" "_law_paces" (defArgs s__law_paces) (defBody s__law_paces) (defScope s__law_paces) .none kV26 dc26 pm26 an26 cd26 ct26), sl26⟩)
    (c26 : PySem.W.codeIn K cd26 "_law_paces" = true)
    (k26 : PySem.W.keepIn K (.ref f26) = true)
    (a27 : PySem.W.nsIn K mainGlobals "_law_said" = some (some (.ref f27)))
    (l27 : K.lookup f27 = some ⟨oc27, od27, .func (PySem.W.fnOf "_law_said" "_law_said" (defArgs s__law_said) (defBody s__law_said) (defScope s__law_said) .none kV27 dc27 pm27 an27 cd27 ct27), sl27⟩)
    (c27 : PySem.W.codeIn K cd27 "_law_said" = true)
    (k27 : PySem.W.keepIn K (.ref f27) = true)
    (a28 : PySem.W.nsIn K mainGlobals "_law_refused" = some (some (.ref f28)))
    (l28 : K.lookup f28 = some ⟨oc28, od28, .func (PySem.W.fnOf "_law_refused" "_law_refused" (defArgs s__law_refused) (defBody s__law_refused) (defScope s__law_refused) .none kV28 dc28 pm28 an28 cd28 ct28), sl28⟩)
    (c28 : PySem.W.codeIn K cd28 "_law_refused" = true)
    (k28 : PySem.W.keepIn K (.ref f28) = true)
    (a29 : PySem.W.nsIn K mainGlobals "_law_hours" = some (some (.ref f29)))
    (l29 : K.lookup f29 = some ⟨oc29, od29, .func (PySem.W.fnOf "_law_hours" "_law_hours" (defArgs s__law_hours) (defBody s__law_hours) (defScope s__law_hours) .none kV29 dc29 pm29 an29 cd29 ct29), sl29⟩)
    (c29 : PySem.W.codeIn K cd29 "_law_hours" = true)
    (k29 : PySem.W.keepIn K (.ref f29) = true)
    (a30 : PySem.W.nsIn K mainGlobals "_law_asks" = some (some (.ref f30)))
    (l30 : K.lookup f30 = some ⟨oc30, od30, .func (PySem.W.fnOf "_law_asks" "_law_asks" (defArgs s__law_asks) (defBody s__law_asks) (defScope s__law_asks) .none kV30 dc30 pm30 an30 cd30 ct30), sl30⟩)
    (c30 : PySem.W.codeIn K cd30 "_law_asks" = true)
    (k30 : PySem.W.keepIn K (.ref f30) = true)
    (a31 : PySem.W.nsIn K mainGlobals "law" = some (some (.ref f31)))
    (l31 : K.lookup f31 = some ⟨oc31, od31, .func (PySem.W.fnOf "law" "law" (defArgs s_law) (defBody s_law) (defScope s_law) .none kV31 dc31 pm31 an31 cd31 ct31), sl31⟩)
    (c31 : PySem.W.codeIn K cd31 "law" = true)
    (k31 : PySem.W.keepIn K (.ref f31) = true)
    (u_ex_CB : PySem.W.exmOne K (.ref c_InvalidCount) (.ref c_RuleError) = some true)
    (u_ex_RB : PySem.W.exmOne K (.ref c_InvalidRates) (.ref c_RuleError) = some true)
    (u_ki_CC : PySem.W.kitOne K (.ref c_InvalidCount) (.ref c_InvalidCount) = some true)
    (u_ki_CR : PySem.W.kitOne K (.ref c_InvalidCount) (.ref c_InvalidRates) = some false)
    (u_ki_RC : PySem.W.kitOne K (.ref c_InvalidRates) (.ref c_InvalidCount) = some false)
    (u_ki_RR : PySem.W.kitOne K (.ref c_InvalidRates) (.ref c_InvalidRates) = some true)
    (noN_InvalidCount : PySem.W.findIn K (.ref c_InvalidCount) "at" = some none)
    (xga_InvalidCount : PySem.W.findIn K (.ref c_InvalidCount) "__getattribute__" = some (some (.builtin "BaseException.__getattribute__")))
    (xgg_InvalidCount : PySem.W.findIn K (.ref c_InvalidCount) "__getattr__" = some none)
    (xex_InvalidCount : PySem.W.subIn K (.ref c_InvalidCount) (.type "BaseException") = some true)
    (xhd_InvalidCount : PySem.W.hasDictIn K c_InvalidCount = true)
    (noN_InvalidRates : PySem.W.findIn K (.ref c_InvalidRates) "at" = some none)
    (xga_InvalidRates : PySem.W.findIn K (.ref c_InvalidRates) "__getattribute__" = some (some (.builtin "BaseException.__getattribute__")))
    (xgg_InvalidRates : PySem.W.findIn K (.ref c_InvalidRates) "__getattr__" = some none)
    (xex_InvalidRates : PySem.W.subIn K (.ref c_InvalidRates) (.type "BaseException") = some true)
    (xhd_InvalidRates : PySem.W.hasDictIn K c_InvalidRates = true)
    (ha_InvalidCount : PySem.W.findIn K (.ref c_InvalidCount) "__class__" = some (some (.builtin "object.__class__")))
    (hn_InvalidCount : PySem.W.specialIn K (.builtin "object.__class__") "__get__" = some (some (.builtin "getset_descriptor.__get__")))
    (ht_InvalidCount : PySem.W.takesIn K (.builtin "object.__class__") = some true)
    (hm_InvalidCount : PySem.W.mroIn K c_InvalidCount (.type "object") = some true)
    (ha_InvalidRates : PySem.W.findIn K (.ref c_InvalidRates) "__class__" = some (some (.builtin "object.__class__")))
    (hn_InvalidRates : PySem.W.specialIn K (.builtin "object.__class__") "__get__" = some (some (.builtin "getset_descriptor.__get__")))
    (ht_InvalidRates : PySem.W.takesIn K (.builtin "object.__class__") = some true)
    (hm_InvalidRates : PySem.W.mroIn K c_InvalidRates (.type "object") = some true)
    (ex_InvalidCount : K.lookup c_InvalidCount = some (excClassObj ne_InvalidCount qe_InvalidCount c_InvalidCount Ne_InvalidCount be_InvalidCount [.ref c_RuleError, .type "Exception", .type "BaseException", .type "object"] true sn_InvalidCount su_InvalidCount ab_InvalidCount co_InvalidCount dd_InvalidCount m0_InvalidCount m1_InvalidCount m2_InvalidCount m3_InvalidCount m5_InvalidCount "Exception.__new__"))
    (exB_RuleError : K.lookup c_RuleError = some ⟨ocB_RuleError, odB_RuleError, .cls cdB_RuleError, slB_RuleError⟩)
    (mrB_RuleError : cdB_RuleError.mro = [.ref c_RuleError, .type "Exception", .type "BaseException", .type "object"])
    (fiB_RuleError : PySem.W.findIn K (.ref c_RuleError) "__init__" = some (some (.builtin "Exception.__init__")))
    (sa_InvalidCount : PySem.W.findIn K (.ref c_InvalidCount) "__setattr__" = some (some (.builtin "object.__setattr__")))
    (etc_InvalidCount : PySem.W.typeIn K (.ref f1) = some (.type "function"))
    (kc_InvalidCount : PySem.W.keepIn K (.ref c_InvalidCount) = true)
    (exe_InvalidCount : PySem.W.subIn K (.ref c_InvalidCount) (.type "Exception") = some true)
    (esl_InvalidCount : PySem.W.mroIn K c_InvalidCount (.ref c_InvalidCount) = some true)
    (ety_InvalidCount : PySem.W.typeIn K (.ref c_InvalidCount) = some (.type "type"))
    (etp : PySem.W.nsIn K cStatics "thirdparty.any" = some none)
    (ecc_InvalidCount : K.lookup cc_InvalidCount = some ⟨cl_InvalidCount, cld_InvalidCount, .cell (some (.ref c_InvalidCount)), csl_InvalidCount⟩)
    (ecd_InvalidCount : K.lookup cda_InvalidCount = some ⟨ccl_InvalidCount, cdd_InvalidCount, .fields vs_InvalidCount, ccs_InvalidCount⟩)
    (evs_InvalidCount : vs_InvalidCount[2]? = some (.str fi_InvalidCount tf_InvalidCount))
    (efi_InvalidCount : ((P.main.file : Str) == fi_InvalidCount) = true)
    (etop : (P.main.scope.names.lookup ("super" : Str)).isSome = false)
    (ex_InvalidRates : K.lookup c_InvalidRates = some (excClassObj ne_InvalidRates qe_InvalidRates c_InvalidRates Ne_InvalidRates be_InvalidRates [.ref c_RuleError, .type "Exception", .type "BaseException", .type "object"] true sn_InvalidRates su_InvalidRates ab_InvalidRates co_InvalidRates dd_InvalidRates m0_InvalidRates m1_InvalidRates m2_InvalidRates m3_InvalidRates m5_InvalidRates "Exception.__new__"))
    (sa_InvalidRates : PySem.W.findIn K (.ref c_InvalidRates) "__setattr__" = some (some (.builtin "object.__setattr__")))
    (etc_InvalidRates : PySem.W.typeIn K (.ref f2) = some (.type "function"))
    (kc_InvalidRates : PySem.W.keepIn K (.ref c_InvalidRates) = true)
    (exe_InvalidRates : PySem.W.subIn K (.ref c_InvalidRates) (.type "Exception") = some true)
    (esl_InvalidRates : PySem.W.mroIn K c_InvalidRates (.ref c_InvalidRates) = some true)
    (ety_InvalidRates : PySem.W.typeIn K (.ref c_InvalidRates) = some (.type "type"))
    (ecc_InvalidRates : K.lookup cc_InvalidRates = some ⟨cl_InvalidRates, cld_InvalidRates, .cell (some (.ref c_InvalidRates)), csl_InvalidRates⟩)
    (ecd_InvalidRates : K.lookup cda_InvalidRates = some ⟨ccl_InvalidRates, cdd_InvalidRates, .fields vs_InvalidRates, ccs_InvalidRates⟩)
    (evs_InvalidRates : vs_InvalidRates[2]? = some (.str fi_InvalidRates tf_InvalidRates))
    (efi_InvalidRates : ((P.main.file : Str) == fi_InvalidRates) = true)
    (q_MOST_TICKS : PySem.W.nsIn K mainGlobals "MOST_TICKS" = some (some (.int 1000000000 t_MOST_TICKS)))
    (z_abs : PySem.W.nsIn K mainGlobals "abs" = some none)
    (z_bool : PySem.W.nsIn K mainGlobals "bool" = some none)
    (z_int : PySem.W.nsIn K mainGlobals "int" = some none)
    (z_isinstance : PySem.W.nsIn K mainGlobals "isinstance" = some none)
    (z_len : PySem.W.nsIn K mainGlobals "len" = some none)
    (z_list : PySem.W.nsIn K mainGlobals "list" = some none)
    (z_max : PySem.W.nsIn K mainGlobals "max" = some none)
    (z_min : PySem.W.nsIn K mainGlobals "min" = some none)
    (z_range : PySem.W.nsIn K mainGlobals "range" = some none)
    (z_str : PySem.W.nsIn K mainGlobals "str" = some none)
    (z_super : PySem.W.nsIn K mainGlobals "super" = some none)
    (z_tuple : PySem.W.nsIn K mainGlobals "tuple" = some none)
    (z_zip : PySem.W.nsIn K mainGlobals "zip" = some none) :
    ∃ fd : FuncData, (∀ (s : Shared) (v : Value), BindsTo s fd ⟨[v], []⟩ [("script", v)]) ∧ ∀ base : Heap, K.In base → base.Ns mainGlobals mg → FnOk P w K mg base CX0 9 fa fd ["script"] (sp_law K) := by
  have e := hfa.symm.trans (PySem.W.mg_of X G a31)
  cases e
  have F3 := fun_mk (st := s_is_integer) l3 c3 k3
  have b3 := F3.binds (ps := ["value"]) fun _ _ _ _ _ _ us hl => match us, hl with | [_], _ => rfl
  have F4 := fun_mk (st := s_is_between) l4 c4 k4
  have b4 := F4.binds (ps := ["value", "least", "greatest"]) fun _ _ _ _ _ _ us hl => match us, hl with | [_, _, _], _ => rfl
  have F5 := fun_mk (st := s_is_sequence) l5 c5 k5
  have b5 := F5.binds (ps := ["value"]) fun _ _ _ _ _ _ us hl => match us, hl with | [_], _ => rfl
  have F6 := fun_mk (st := s_is_row) l6 c6 k6
  have b6 := F6.binds (ps := ["value", "many"]) fun _ _ _ _ _ _ us hl => match us, hl with | [_, _], _ => rfl
  have F7 := fun_mk (st := s_is_paper) l7 c7 k7
  have b7 := F7.binds (ps := ["value", "many"]) fun _ _ _ _ _ _ us hl => match us, hl with | [_, _], _ => rfl
  have F8 := fun_mk (st := s_is_word) l8 c8 k8
  have b8 := F8.binds (ps := ["value", "word"]) fun _ _ _ _ _ _ us hl => match us, hl with | [_, _], _ => rfl
  have F9 := fun_mk (st := s_need_count) l9 c9 k9
  have b9 := F9.binds (ps := ["value", "least", "greatest"]) fun _ _ _ _ _ _ us hl => match us, hl with | [_, _, _], _ => rfl
  have F10 := fun_mk (st := s_need_fraction) l10 c10 k10
  have b10 := F10.binds (ps := ["value", "at"]) fun _ _ _ _ _ _ us hl => match us, hl with | [_, _], _ => rfl
  have F11 := fun_mk (st := s_need_clocks) l11 c11 k11
  have b11 := F11.binds (ps := ["wait", "slow", "fast", "journey"]) fun _ _ _ _ _ _ us hl => match us, hl with | [_, _, _, _], _ => rfl
  have F12 := fun_mk (st := s_spare) l12 c12 k12
  have b12 := F12.binds (ps := ["wait", "slow", "fast", "journey"]) fun _ _ _ _ _ _ us hl => match us, hl with | [_, _, _, _], _ => rfl
  have F13 := fun_mk (st := s_lowest) l13 c13 k13
  have b13 := F13.binds (ps := ["top", "bottom"]) fun _ _ _ _ _ _ us hl => match us, hl with | [_, _], _ => rfl
  have F14 := fun_mk (st := s_is_apart) l14 c14 k14
  have b14 := F14.binds (ps := ["count", "wait", "slow", "fast", "journey"]) fun _ _ _ _ _ _ us hl => match us, hl with | [_, _, _, _, _], _ => rfl
  have F15 := fun_mk (st := s_clock_paper) l15 c15 k15
  have b15 := F15.binds (ps := ["count", "wait", "slow", "fast", "journey"]) fun _ _ _ _ _ _ us hl => match us, hl with | [_, _, _, _, _], _ => rfl
  have F16 := fun_mk (st := s_clock_holds) l16 c16 k16
  have b16 := F16.binds (ps := ["count", "wait", "slow", "fast", "journey", "value"]) fun _ _ _ _ _ _ us hl => match us, hl with | [_, _, _, _, _, _], _ => rfl
  have F17 := fun_mk (st := s_greatest_count) l17 c17 k17
  have b17 := F17.binds (ps := ["wait", "slow", "fast", "journey"]) fun _ _ _ _ _ _ us hl => match us, hl with | [_, _, _, _], _ => rfl
  have F18 := fun_mk (st := s__law_box) l18 c18 k18
  have b18 := F18.binds (ps := ["script", "k"]) fun _ _ _ _ _ _ us hl => match us, hl with | [_, _], _ => rfl
  have F19 := fun_mk (st := s__law_take) l19 c19 k19
  have b19 := F19.binds (ps := ["box", "many"]) fun _ _ _ _ _ _ us hl => match us, hl with | [_, _], _ => rfl
  have F20 := fun_mk (st := s__law_pick) l20 c20 k20
  have b20 := F20.binds (ps := ["box", "some"]) fun _ _ _ _ _ _ us hl => match us, hl with | [_, _], _ => rfl
  have F21 := fun_mk (st := s__law_alike) l21 c21 k21
  have b21 := F21.binds (ps := ["value", "due"]) fun _ _ _ _ _ _ us hl => match us, hl with | [_, _], _ => rfl
  have F22 := fun_mk (st := s__law_apart) l22 c22 k22
  have b22 := F22.binds (ps := ["count", "wait", "slow", "fast", "journey"]) fun _ _ _ _ _ _ us hl => match us, hl with | [_, _, _, _, _], _ => rfl
  have F23 := fun_mk (st := s__law_low) l23 c23 k23
  have b23 := F23.binds (ps := ["one", "other"]) fun _ _ _ _ _ _ us hl => match us, hl with | [_, _], _ => rfl
  have F24 := fun_mk (st := s__law_right) l24 c24 k24
  have b24 := F24.binds (ps := ["count", "wait", "slow", "fast", "journey", "value"]) fun _ _ _ _ _ _ us hl => match us, hl with | [_, _, _, _, _, _], _ => rfl
  have F25 := fun_mk (st := s__law_number) l25 c25 k25
  have b25 := F25.binds (ps := ["box", "least"]) fun _ _ _ _ _ _ us hl => match us, hl with | [_, _], _ => rfl
  have F26 := fun_mk (st := s__law_paces) l26 c26 k26
  have b26 := F26.binds (ps := ["box"]) fun _ _ _ _ _ _ us hl => match us, hl with | [_], _ => rfl
  have F27 := fun_mk (st := s__law_said) l27 c27 k27
  have b27 := F27.binds (ps := ["question", "count", "wait", "slow", "fast", "journey"]) fun _ _ _ _ _ _ us hl => match us, hl with | [_, _, _, _, _, _], _ => rfl
  have F28 := fun_mk (st := s__law_refused) l28 c28 k28
  have b28 := F28.binds (ps := ["box", "count", "wait", "slow", "fast", "journey"]) fun _ _ _ _ _ _ us hl => match us, hl with | [_, _, _, _, _, _], _ => rfl
  have F29 := fun_mk (st := s__law_hours) l29 c29 k29
  have b29 := F29.binds (ps := ["box", "count", "wait", "slow", "fast", "journey"]) fun _ _ _ _ _ _ us hl => match us, hl with | [_, _, _, _, _, _], _ => rfl
  have F30 := fun_mk (st := s__law_asks) l30 c30 k30
  have b30 := F30.binds (ps := ["box"]) fun _ _ _ _ _ _ us hl => match us, hl with | [_], _ => rfl
  have F31 := fun_mk (st := s_law) l31 c31 k31
  have b31 := F31.binds (ps := ["script"]) fun _ _ _ _ _ _ us hl => match us, hl with | [_], _ => rfl
  let T : Tx P K mg := { a_InvalidCount___init__ := f1, a_InvalidRates___init__ := f2, a_is_integer := f3, d_is_integer := _, F_is_integer := F3, b_is_integer := b3, g_is_integer := PySem.W.mg_of X G a3, a_is_between := f4, d_is_between := _, F_is_between := F4, b_is_between := b4, g_is_between := PySem.W.mg_of X G a4, a_is_sequence := f5, d_is_sequence := _, F_is_sequence := F5, b_is_sequence := b5, g_is_sequence := PySem.W.mg_of X G a5, a_is_row := f6, d_is_row := _, F_is_row := F6, b_is_row := b6, g_is_row := PySem.W.mg_of X G a6, a_is_paper := f7, d_is_paper := _, F_is_paper := F7, b_is_paper := b7, g_is_paper := PySem.W.mg_of X G a7, a_is_word := f8, d_is_word := _, F_is_word := F8, b_is_word := b8, g_is_word := PySem.W.mg_of X G a8, a_need_count := f9, d_need_count := _, F_need_count := F9, b_need_count := b9, g_need_count := PySem.W.mg_of X G a9, a_need_fraction := f10, d_need_fraction := _, F_need_fraction := F10, b_need_fraction := b10, g_need_fraction := PySem.W.mg_of X G a10, a_need_clocks := f11, d_need_clocks := _, F_need_clocks := F11, b_need_clocks := b11, g_need_clocks := PySem.W.mg_of X G a11, a_spare := f12, d_spare := _, F_spare := F12, b_spare := b12, g_spare := PySem.W.mg_of X G a12, a_lowest := f13, d_lowest := _, F_lowest := F13, b_lowest := b13, g_lowest := PySem.W.mg_of X G a13, a_is_apart := f14, d_is_apart := _, F_is_apart := F14, b_is_apart := b14, g_is_apart := PySem.W.mg_of X G a14, a_clock_paper := f15, d_clock_paper := _, F_clock_paper := F15, b_clock_paper := b15, g_clock_paper := PySem.W.mg_of X G a15, a_clock_holds := f16, d_clock_holds := _, F_clock_holds := F16, b_clock_holds := b16, g_clock_holds := PySem.W.mg_of X G a16, a_greatest_count := f17, d_greatest_count := _, F_greatest_count := F17, b_greatest_count := b17, g_greatest_count := PySem.W.mg_of X G a17, a__law_box := f18, d__law_box := _, F__law_box := F18, b__law_box := b18, g__law_box := PySem.W.mg_of X G a18, a__law_take := f19, d__law_take := _, F__law_take := F19, b__law_take := b19, g__law_take := PySem.W.mg_of X G a19, a__law_pick := f20, d__law_pick := _, F__law_pick := F20, b__law_pick := b20, g__law_pick := PySem.W.mg_of X G a20, a__law_alike := f21, d__law_alike := _, F__law_alike := F21, b__law_alike := b21, g__law_alike := PySem.W.mg_of X G a21, a__law_apart := f22, d__law_apart := _, F__law_apart := F22, b__law_apart := b22, g__law_apart := PySem.W.mg_of X G a22, a__law_low := f23, d__law_low := _, F__law_low := F23, b__law_low := b23, g__law_low := PySem.W.mg_of X G a23, a__law_right := f24, d__law_right := _, F__law_right := F24, b__law_right := b24, g__law_right := PySem.W.mg_of X G a24, a__law_number := f25, d__law_number := _, F__law_number := F25, b__law_number := b25, g__law_number := PySem.W.mg_of X G a25, a__law_paces := f26, d__law_paces := _, F__law_paces := F26, b__law_paces := b26, g__law_paces := PySem.W.mg_of X G a26, a__law_said := f27, d__law_said := _, F__law_said := F27, b__law_said := b27, g__law_said := PySem.W.mg_of X G a27, a__law_refused := f28, d__law_refused := _, F__law_refused := F28, b__law_refused := b28, g__law_refused := PySem.W.mg_of X G a28, a__law_hours := f29, d__law_hours := _, F__law_hours := F29, b__law_hours := b29, g__law_hours := PySem.W.mg_of X G a29, a__law_asks := f30, d__law_asks := _, F__law_asks := F30, b__law_asks := b30, g__law_asks := PySem.W.mg_of X G a30, a_law := fa, d_law := _, F_law := F31, b_law := b31, g_law := PySem.W.mg_of X G a31, c_RuleError := c_RuleError, g_RuleError := PySem.W.mg_of X G aC_RuleError, c_InvalidCount := c_InvalidCount, g_InvalidCount := PySem.W.mg_of X G aC_InvalidCount, c_InvalidRates := c_InvalidRates, g_InvalidRates := PySem.W.mg_of X G aC_InvalidRates, kb_greatest_count := ⟨fun s ws hl => match ws, hl with | [_, _, _, _], _ => .of_eq rfl⟩, kb_clock_paper := ⟨fun s ws hl => match ws, hl with | [_, _, _, _, _], _ => .of_eq rfl⟩, ex_CB := u_ex_CB, ex_RB := u_ex_RB, ki_CC := u_ki_CC, ki_CR := u_ki_CR, ki_RC := u_ki_RC, ki_RR := u_ki_RR, x_InvalidCount := ⟨⟨xga_InvalidCount, xgg_InvalidCount, xex_InvalidCount, xhd_InvalidCount⟩, noN_InvalidCount, PySem.W.mg_of X G aC_InvalidCount⟩, x_InvalidRates := ⟨⟨xga_InvalidRates, xgg_InvalidRates, xex_InvalidRates, xhd_InvalidRates⟩, noN_InvalidRates, PySem.W.mg_of X G aC_InvalidRates⟩, y_InvalidCount := ⟨xga_InvalidCount, xgg_InvalidCount, xex_InvalidCount, xhd_InvalidCount, ha_InvalidCount, hn_InvalidCount, ht_InvalidCount, hm_InvalidCount⟩, y_InvalidRates := ⟨xga_InvalidRates, xgg_InvalidRates, xex_InvalidRates, xhd_InvalidRates, ha_InvalidRates, hn_InvalidRates, ht_InvalidRates, hm_InvalidRates⟩, e_InvalidCount := { hf := Or.inl rfl, tx := init_InvalidCount, cls := ⟨_, _, _, _, [c_RuleError], _, _, _, _, _, _, _, _, _, _, ex_InvalidCount, along_of exB_RuleError mrB_RuleError fiB_RuleError⟩, sa := sa_InvalidCount, noN := noN_InvalidCount, iC := a1, tC := etc_InvalidCount, kC := kc_InvalidCount, exC := xex_InvalidCount, exE := exe_InvalidCount, self := esl_InvalidCount, tyC := ety_InvalidCount, tp := etp, fn := ⟨_, _, _, _, _, _, _, _, _, _, _, l1, c1, ⟨_, _, _, ecc_InvalidCount⟩, _, _, _, _, _, _, ecd_InvalidCount, evs_InvalidCount, efi_InvalidCount⟩, top := etop }, e_InvalidRates := { hf := Or.inl rfl, tx := init_InvalidRates, cls := ⟨_, _, _, _, [c_RuleError], _, _, _, _, _, _, _, _, _, _, ex_InvalidRates, along_of exB_RuleError mrB_RuleError fiB_RuleError⟩, sa := sa_InvalidRates, noN := noN_InvalidRates, iC := a2, tC := etc_InvalidRates, kC := kc_InvalidRates, exC := xex_InvalidRates, exE := exe_InvalidRates, self := esl_InvalidRates, tyC := ety_InvalidRates, tp := etp, fn := ⟨_, _, _, _, _, _, _, _, _, _, _, l2, c2, ⟨_, _, _, ecc_InvalidRates⟩, _, _, _, _, _, _, ecd_InvalidRates, evs_InvalidRates, efi_InvalidRates⟩, top := etop }, g_MOST_TICKS := ⟨_, PySem.W.mg_of X G q_MOST_TICKS⟩, n_abs := PySem.W.mg_none_of X G z_abs, n_bool := PySem.W.mg_none_of X G z_bool, n_int := PySem.W.mg_none_of X G z_int, n_isinstance := PySem.W.mg_none_of X G z_isinstance, n_len := PySem.W.mg_none_of X G z_len, n_list := PySem.W.mg_none_of X G z_list, n_max := PySem.W.mg_none_of X G z_max, n_min := PySem.W.mg_none_of X G z_min, n_range := PySem.W.mg_none_of X G z_range, n_str := PySem.W.mg_none_of X G z_str, n_super := PySem.W.mg_none_of X G z_super, n_tuple := PySem.W.mg_none_of X G z_tuple, n_zip := PySem.W.mg_none_of X G z_zip }
  exact ⟨PySem.W.fnOf "law" "law" (defArgs s_law) (defBody s_law) (defScope s_law) .none kV31 dc31 pm31 an31 cd31 ct31, fun s v => .of_eq rfl, fun base _ _ => ok_law T⟩
end Kr
open PySem PySem.W PyProof.Rows
set_option maxHeartbeats 0 in
theorem PySem.Challenge.cw_keyrules_k70_whole_clocks_that_go_fast_o_holds : PySem.Challenge.rw_keyrules_k70_whole_clocks_that_go_fast_o.Holds := by
  w_on; o_law; k_head; (case hw => w_witness2)
  k_fill
  refine L2.walk_of (l := PySem.Challenge.rw_keyrules_k70_whole_clocks_that_go_fast_o) (n := 63) (k := 9) (x := "script") (CX := fun _ => L2.CX0) (sp := fun w => Kr.sp_law _) rfl (by decide) rfl ⟨rfl, by decide, by decide⟩ (fun w h Y => PySem.W.kIn_of Y) ?F (fun _ _ a ns hl _ hS => ⟨a, ns, rfl, hS, hl, fun _ => rfl⟩) (fun _ _ _ _ _ h => h)
  case F =>
    intro w mg fa h KX G hmg
    have hm2 : mg "law" = some (.ref fa) := hmg
    clear hmg
    refine' Kr.all_mk KX G hm2 ?aC_InvalidRates ?aC_InvalidCount ?aC_RuleError ?a1 ?i1 ?l1 ?c1 ?a2 ?i2 ?l2 ?c2 ?a3 ?l3 ?c3 ?k3 ?a4 ?l4 ?c4 ?k4 ?a5 ?l5 ?c5 ?k5 ?a6 ?l6 ?c6 ?k6 ?a7 ?l7 ?c7 ?k7 ?a8 ?l8 ?c8 ?k8 ?a9 ?l9 ?c9 ?k9 ?a10 ?l10 ?c10 ?k10 ?a11 ?l11 ?c11 ?k11 ?a12 ?l12 ?c12 ?k12 ?a13 ?l13 ?c13 ?k13 ?a14 ?l14 ?c14 ?k14 ?a15 ?l15 ?c15 ?k15 ?a16 ?l16 ?c16 ?k16 ?a17 ?l17 ?c17 ?k17 ?a18 ?l18 ?c18 ?k18 ?a19 ?l19 ?c19 ?k19 ?a20 ?l20 ?c20 ?k20 ?a21 ?l21 ?c21 ?k21 ?a22 ?l22 ?c22 ?k22 ?a23 ?l23 ?c23 ?k23 ?a24 ?l24 ?c24 ?k24 ?a25 ?l25 ?c25 ?k25 ?a26 ?l26 ?c26 ?k26 ?a27 ?l27 ?c27 ?k27 ?a28 ?l28 ?c28 ?k28 ?a29 ?l29 ?c29 ?k29 ?a30 ?l30 ?c30 ?k30 ?a31 ?l31 ?c31 ?k31 ?u_ex_CB ?u_ex_RB ?u_ki_CC ?u_ki_CR ?u_ki_RC ?u_ki_RR ?noN_InvalidCount ?xga_InvalidCount ?xgg_InvalidCount ?xex_InvalidCount ?xhd_InvalidCount ?noN_InvalidRates ?xga_InvalidRates ?xgg_InvalidRates ?xex_InvalidRates ?xhd_InvalidRates ?ha_InvalidCount ?hn_InvalidCount ?ht_InvalidCount ?hm_InvalidCount ?ha_InvalidRates ?hn_InvalidRates ?ht_InvalidRates ?hm_InvalidRates ?ex_InvalidCount ?exB_RuleError ?mrB_RuleError ?fiB_RuleError ?sa_InvalidCount ?etc_InvalidCount ?kc_InvalidCount ?exe_InvalidCount ?esl_InvalidCount ?ety_InvalidCount ?etp ?ecc_InvalidCount ?ecd_InvalidCount ?evs_InvalidCount ?efi_InvalidCount ?etop ?ex_InvalidRates ?sa_InvalidRates ?etc_InvalidRates ?kc_InvalidRates ?exe_InvalidRates ?esl_InvalidRates ?ety_InvalidRates ?ecc_InvalidRates ?ecd_InvalidRates ?evs_InvalidRates ?efi_InvalidRates ?q_MOST_TICKS ?z_abs ?z_bool ?z_int ?z_isinstance ?z_len ?z_list ?z_max ?z_min ?z_range ?z_str ?z_super ?z_tuple ?z_zip
    (case aC_InvalidRates => k_is)
    (case aC_InvalidCount => k_is)
    (case aC_RuleError => k_is)
    (case a1 => k_is)
    (case i1 => k_is)
    (case l1 => k_is)
    (case c1 => k_is)
    (case a2 => k_is)
    (case i2 => k_is)
    (case l2 => k_is)
    (case c2 => k_is)
    (case a3 => k_is)
    (case l3 => k_is)
    (case c3 => k_is)
    (case k3 => k_is)
    (case a4 => k_is)
    (case l4 => k_is)
    (case c4 => k_is)
    (case k4 => k_is)
    (case a5 => k_is)
    (case l5 => k_is)
    (case c5 => k_is)
    (case k5 => k_is)
    (case a6 => k_is)
    (case l6 => k_is)
    (case c6 => k_is)
    (case k6 => k_is)
    (case a7 => k_is)
    (case l7 => k_is)
    (case c7 => k_is)
    (case k7 => k_is)
    (case a8 => k_is)
    (case l8 => k_is)
    (case c8 => k_is)
    (case k8 => k_is)
    (case a9 => k_is)
    (case l9 => k_is)
    (case c9 => k_is)
    (case k9 => k_is)
    (case a10 => k_is)
    (case l10 => k_is)
    (case c10 => k_is)
    (case k10 => k_is)
    (case a11 => k_is)
    (case l11 => k_is)
    (case c11 => k_is)
    (case k11 => k_is)
    (case a12 => k_is)
    (case l12 => k_is)
    (case c12 => k_is)
    (case k12 => k_is)
    (case a13 => k_is)
    (case l13 => k_is)
    (case c13 => k_is)
    (case k13 => k_is)
    (case a14 => k_is)
    (case l14 => k_is)
    (case c14 => k_is)
    (case k14 => k_is)
    (case a15 => k_is)
    (case l15 => k_is)
    (case c15 => k_is)
    (case k15 => k_is)
    (case a16 => k_is)
    (case l16 => k_is)
    (case c16 => k_is)
    (case k16 => k_is)
    (case a17 => k_is)
    (case l17 => k_is)
    (case c17 => k_is)
    (case k17 => k_is)
    (case a18 => k_is)
    (case l18 => k_is)
    (case c18 => k_is)
    (case k18 => k_is)
    (case a19 => k_is)
    (case l19 => k_is)
    (case c19 => k_is)
    (case k19 => k_is)
    (case a20 => k_is)
    (case l20 => k_is)
    (case c20 => k_is)
    (case k20 => k_is)
    (case a21 => k_is)
    (case l21 => k_is)
    (case c21 => k_is)
    (case k21 => k_is)
    (case a22 => k_is)
    (case l22 => k_is)
    (case c22 => k_is)
    (case k22 => k_is)
    (case a23 => k_is)
    (case l23 => k_is)
    (case c23 => k_is)
    (case k23 => k_is)
    (case a24 => k_is)
    (case l24 => k_is)
    (case c24 => k_is)
    (case k24 => k_is)
    (case a25 => k_is)
    (case l25 => k_is)
    (case c25 => k_is)
    (case k25 => k_is)
    (case a26 => k_is)
    (case l26 => k_is)
    (case c26 => k_is)
    (case k26 => k_is)
    (case a27 => k_is)
    (case l27 => k_is)
    (case c27 => k_is)
    (case k27 => k_is)
    (case a28 => k_is)
    (case l28 => k_is)
    (case c28 => k_is)
    (case k28 => k_is)
    (case a29 => k_is)
    (case l29 => k_is)
    (case c29 => k_is)
    (case k29 => k_is)
    (case a30 => k_is)
    (case l30 => k_is)
    (case c30 => k_is)
    (case k30 => k_is)
    (case a31 => k_is)
    (case l31 => k_is)
    (case c31 => k_is)
    (case k31 => k_is)
    (case u_ex_CB => first | rfl | k_is)
    (case u_ex_RB => first | rfl | k_is)
    (case u_ki_CC => first | rfl | k_is)
    (case u_ki_CR => first | rfl | k_is)
    (case u_ki_RC => first | rfl | k_is)
    (case u_ki_RR => first | rfl | k_is)
    (case noN_InvalidCount => k_is)
    (case xga_InvalidCount => k_is)
    (case xgg_InvalidCount => k_is)
    (case xex_InvalidCount => k_is)
    (case xhd_InvalidCount => k_is)
    (case noN_InvalidRates => k_is)
    (case xga_InvalidRates => k_is)
    (case xgg_InvalidRates => k_is)
    (case xex_InvalidRates => k_is)
    (case xhd_InvalidRates => k_is)
    (case ha_InvalidCount => k_is)
    (case hn_InvalidCount => k_is)
    (case ht_InvalidCount => k_is)
    (case hm_InvalidCount => k_is)
    (case ha_InvalidRates => k_is)
    (case hn_InvalidRates => k_is)
    (case ht_InvalidRates => k_is)
    (case hm_InvalidRates => k_is)
    (case ex_InvalidCount => k_is)
    (case exB_RuleError => k_is)
    (case mrB_RuleError => first | rfl | k_is)
    (case fiB_RuleError => k_is)
    (case sa_InvalidCount => k_is)
    (case etc_InvalidCount => k_is)
    (case kc_InvalidCount => k_is)
    (case exe_InvalidCount => k_is)
    (case esl_InvalidCount => first | rfl | k_is)
    (case ety_InvalidCount => k_is)
    (case etp => k_is)
    (case ecc_InvalidCount => k_is)
    (case ecd_InvalidCount => k_is)
    (case evs_InvalidCount => first | rfl | k_is)
    (case efi_InvalidCount => first | rfl | k_is)
    (case etop => first | rfl | k_is)
    (case ex_InvalidRates => k_is)
    (case sa_InvalidRates => k_is)
    (case etc_InvalidRates => k_is)
    (case kc_InvalidRates => k_is)
    (case exe_InvalidRates => k_is)
    (case esl_InvalidRates => first | rfl | k_is)
    (case ety_InvalidRates => k_is)
    (case ecc_InvalidRates => k_is)
    (case ecd_InvalidRates => k_is)
    (case evs_InvalidRates => first | rfl | k_is)
    (case efi_InvalidRates => first | rfl | k_is)
    (case q_MOST_TICKS => k_is)
    (case z_abs => k_is)
    (case z_bool => k_is)
    (case z_int => k_is)
    (case z_isinstance => k_is)
    (case z_len => k_is)
    (case z_list => k_is)
    (case z_max => k_is)
    (case z_min => k_is)
    (case z_range => k_is)
    (case z_str => k_is)
    (case z_super => k_is)
    (case z_tuple => k_is)
    (case z_zip => k_is)
