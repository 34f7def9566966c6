import PyProof.Rows.All
import Wide.All
import OpenK.AllK
import Wide.FinOn
import HandS.ForMost
import HandS.IsInst
import HandS.WideBits
import HandS.Walk
import HandS.Zip
import HandS.Conv
import HandS.SortRule
import HandS.SortInts
import HandS.Deep
import HandS.Style
import HandS.Codes
import HandS.SetFor
import KE.GoesEnum
import HandS.ExcSuper
import KE.KSuper
import KE.RegKSuper
import HandS.ExcField
import HandS.WordsExc
import HandS.TryMany
import HandS.Lambda
import HandS.EndOwn
import PySem.Challenge.RW_keyrules_k04_rows_and_where_they_end
set_option Elab.async false
set_option linter.all false
set_option maxRecDepth 100000
namespace Kb
open PySem PySem.Spec PyProof.Rows L2
/-! ### isinstance(x, (A, B)): the tuple of classes is laid, not tracked -/
def tIsP (K : PySem.W.Frag) (A B : String) (te : TE) : TE := fun σ H Q => te σ H fun x H1 => ∃ t b, TyX K H1 x t ∧ PySem.W.kitAny K t [.type A, .type B] = some b ∧ Q (.bl b) H1
theorem two_ty {A B : String} : ∀ {us : List Value}, Vals [V.ty A, V.ty B] us → us = [Value.type A, Value.type B]
  | _, .cons a (.cons b .nil) => by cases a; cases b; rfl
section
variable {X : Cx} {p pos tpos : Pos} {e : Expr} {es : List Expr} {te : TE} {A B : String}
theorem pe_isP {kk : Nat} (he : PE X e te) (hg : Gl X "isinstance") (hm : X.mg "isinstance" = none) (hes : PA X es (tCons (tC (.ty A)) (tCons (tC (.ty B)) tNil)))
    (q1 : starEach [e, .Tuple es kk tpos] X.env = (false, eval e X.env) :: starEach [.Tuple es kk tpos] X.env := by rfl)
    (q2 : starEach [.Tuple es kk tpos] X.env = (false, eval (.Tuple es kk tpos) X.env) :: starEach [] X.env := by rfl)
    (q3 : (backTo pos (starEach [.Tuple es kk tpos] X.env)).any (·.1) = false := by rfl) :
    PE X (.Call (.Name "isinstance" p) [e, .Tuple es kk tpos] [] pos) (tIsP X.K A B te) := by
  constructor
  intro pp s0 sg H Q I hh
  refine wpAny_Call_Name_kw (ld_blt I hg hm PyProof.Rows.boot_isinstance ?_ (by decide) (by decide))
  refine PyProof.Rows.callWith_builtin1 ?_ q1 q3
  rw [q1]
  show wpAny _ _ (spliced ((false, eval e X.env) :: backTo pos (starEach [.Tuple es kk tpos] X.env))) _ _ s0
  refine Calls.spliced_cons (thn (he.run pp s0 sg H _ I hh) ?_)
  rintro u s1 ⟨x, H1, I1, rx, t, b, ty, hk, hq⟩
  rw [q2]
  show wpAny _ _ (spliced ((false, eval (.Tuple es kk tpos) X.env) :: backTo pos (starEach [] X.env))) _ _ s1
  refine Calls.spliced_cons (wpAny_Tuple_spliced (thn (hes.run tpos pp s1 sg H1 (fun ys H' => ys = [.ty A, .ty B] ∧ H' = H1) I1 ⟨rfl, rfl⟩) ?_))
  rintro us s2 ⟨ys, H2, I2, r2, rfl, rfl⟩
  have eu := two_ty r2
  subst eu
  refine ⟨by show 2 ≤ sizeLine; rw [sizeLine_eq]; omega, ?_⟩
  have I3 := I2.kept (h' := s2.heap.push { cls := .type "tuple", data := .seq [Value.type A, Value.type B].toArray }) (t' := s2.toks) fun b o z => Heap.get?_push_of_some _ z
  obtain ⟨P, Z, pz, hx⟩ := kit_of I3 rx ty
  refine Calls.spliced_nil ?_
  exact PySem.W.kia_tup Z I3.kIn pz (Heap.get?_push_size _ rfl) hk hx fun tk => ⟨.bl b, H2, I3.tok tk, rfl, hq⟩
end
/-! ### enumerate of a tuple -/
theorem meets_enT (l : Addr) (items : Array Value) :
    Meets (Builtin.«enumerate.__new__» ⟨[.type "enumerate", .ref l], []⟩) (fun _ R s => s.heap.IsTuple l items ∧
      R (.ok (.ret (.ref (s.heap.push { cls := .type "tuple_iterator", data := .fields #[.ref l, .int 0 0] }).objs.size)))
        { s with heap := (s.heap.push { cls := .type "tuple_iterator", data := .fields #[.ref l, .int 0 0] }).push { cls := .type "enumerate", data := .fields #[.none, .bool false, .ref s.heap.objs.size, rawInt 0, .none, .none] } }) :=
  .of_wp fun prog w A R s h => by
    obtain ⟨hp, gg, dd, tk, os⟩ := s
    obtain ⟨hl, h⟩ := h
    have hsub := sub_enumerate
    have q1 : ∀ {A' : Around} {E : Value → Shared → Prop} {Q : Value → Shared → Prop}, Q (.ref hp.objs.size) ⟨hp.push { cls := .type "tuple_iterator", data := .fields #[.ref l, .int 0 0] }, gg, dd, tk, os⟩ → wpAny (model prog w) A' (pyIter (.ref l)) Q E ⟨hp, gg, dd, tk, os⟩ :=
      fun q => wpAny_pyIter_tuple hl q
    wp_walk using q1
    refine wpAny_stack_any fun st => wpAny_pure ?_
    split
    · rename_i c _ _ _ _ _
      cases (c == Value.type "enumerate")
      · wp_walk using q1
        exact ⟨_, rfl, h⟩
      · wp_walk using q1
        exact ⟨_, rfl, h⟩
    · wp_walk using q1
      exact ⟨_, rfl, h⟩
theorem call_enT {prog : Program} {w : World} {A : Around} {E : Value → Shared → Prop} {s : Shared} {l : Addr} {items : Array Value} {Q : Value → Shared → Prop} (hL : s.heap.IsTuple l items)
    (h : ∀ h', IsEnum h' (s.heap.objs.size + 1) s.heap.objs.size 0 .none → h'.IsTupleIter s.heap.objs.size l 0 → h'.objs.size = s.heap.objs.size + 2 →
      (∀ b o, s.heap.get? b = some o → h'.get? b = some o) → Q (.ref (s.heap.objs.size + 1)) { s with heap := h' }) :
    wpAny (model prog w) A (call (.type "enumerate") [.ref l]) Q E s := by
  refine callType_new F.called_enumerate (by decide) (F.typeCall_enumerate_1 _) (F.newCall_enumerate_1 _) (fun obj => F.args_object_init_2 obj _) F.entry_enumerate_new (meets_enT l items) ⟨hL, ?_⟩
  have hz : (s.heap.push { cls := .type "tuple_iterator", data := .fields #[.ref l, .int 0 0] }).objs.size = s.heap.objs.size + 1 := Heap.size_push ..
  show _ ∧ _
  rw [hz]
  have he := Heap.get?_push_size (s.heap.push { cls := .type "tuple_iterator", data := .fields #[.ref l, .int 0 0] })
      (o := { cls := .type "enumerate", data := .fields #[.none, .bool false, .ref s.heap.objs.size, rawInt 0, .none, .none] }) rfl
  rw [hz] at he
  exact ⟨⟨_, he, rfl⟩, h _ he ⟨_, Heap.get?_push_of_some _ (Heap.get?_push_size _ rfl), rfl, rfl⟩ (by rw [Heap.size_push, hz]) fun b o z => Heap.get?_push_of_some _ (Heap.get?_push_of_some _ z)⟩
/-- the tuple at a, item by item with its number, each time a new pair -/
def IteT (K : PySem.W.Frag) (a : Addr) : It :=
  ⟨fun i H => ∃ xs x, SqT K H a xs ∧ xs[i]? = some x, fun i H v H' => ∃ T x, v = .ref T ∧ H T = none ∧ H' = upd H T (.tup [.int (i : Nat), x]) ∧ ∀ xs, SqT K H a xs → xs[i]? = some x, fun i H => ∃ xs : List V, SqT K H a xs ∧ xs.length ≤ i⟩
theorem turn_enT {P : Program} {w : World} {K : PySem.W.Frag} {elts : List Expr} {kk : Nat} {tpos : Pos} (a e it : Addr) :
    Turn P w K (.Tuple elts kk tpos) (IteT K a) [e, it] e (fun i h => (∃ old, IsEnum h e it ((i : Nat) : Int) old) ∧ h.IsTupleIter it a i ∧ e ≠ it ∧ a ≠ it) where
  mem := List.mem_cons_self
  obj := by
    rintro i h ⟨⟨old, he⟩, ⟨o, ho, hc, hd⟩, _⟩ b hb
    rcases List.mem_cons.mp hb with z | z
    · rw [z]; exact ⟨_, he, fun v q => by cases q⟩
    · rw [List.mem_singleton.mp z]
      exact ⟨o, ho, fun v q => by rw [hd] at q; cases q⟩
  keep := by
    rintro i h h' ⟨⟨old, he⟩, hi, hne⟩ k
    exact ⟨⟨old, k e List.mem_cons_self _ he⟩, hi.at fun o q => k it (List.mem_cons_of_mem _ List.mem_cons_self) o q, hne⟩
  item := by
    intro X hP hw hK hc i pp s sg H E I hf st hg
    subst hP hw hK
    obtain ⟨⟨old, he⟩, hit, hne, hai⟩ := st
    obtain ⟨xs, x, hq, hx⟩ := hg
    obtain ⟨its, rv, tp, hz⟩ := I.tuple hq
    have hil : i < its.toArray.size := by
      have e1 := rv.length
      have e2 := (List.getElem?_eq_some_iff.mp hx).1
      rw [List.size_toArray]
      omega
    have hef : e ∉ [it, a] := by
      intro z
      rcases List.mem_cons.mp z with z | z
      · exact hne z
      · have z' := List.mem_singleton.mp z
        subst z'
        obtain ⟨o, ho, hc', _⟩ := tp
        rw [he] at ho
        cases ho
        injection hc' with hc2; exact absurd hc2 (by decide)
    have helt : e < s.heap.objs.size := Heap.lt_size he
    have hitl : it < s.heap.objs.size := by obtain ⟨_, q, _⟩ := hit; exact Heap.lt_size q
    refine wpAny_pyNext_enum_itemD (Draws.tuple (show X.A.in1.handled = none from I.ok.hd hc) it a hai its.toArray) he (show _ ∧ _ from ⟨hit, tp⟩) hil hne hef fun u h' tk hP ho hs' hT hsz hk => ?_
    refine ⟨_, rfl, wpAny_letOwnedTupleGo_enum (s := { s with heap := h', toks := tk + 1 }) ho fun h2 he2 sb => ?_⟩
    have hT2 : h2.get? s.heap.objs.size = some { cls := .type "tuple", data := .seq #[.int i tk, u] } := (sb.2 _ (Nat.ne_of_gt helt)).trans hT
    have hxu : RelV x u := by
      obtain ⟨u', e1, r1⟩ := rv.get hx
      have e2 : its.toArray[i]? = some u := hP
      rw [List.getElem?_toArray, e1] at e2
      cases e2
      exact r1
    have I1 : Inv X pp sg (upd H s.heap.objs.size (.tup [.int (i : Nat), x])) { s with heap := h2, toks := tk + 1 } :=
      I.turnedNew (ch := [e, it]) (fun b ob hb q => (sb.2 b (fun z => hb (by simp [z]))).trans (hk b ob (fun z => hb (by simp [z])) (fun z => hb (by simp [z])) q)) hf (Nat.le_refl _)
        ⟨by show 2 ≤ sizeLine; decide, [.int i tk, u], .cons ⟨_, rfl⟩ (.cons hxu .nil), ⟨_, hT2, rfl, _, rfl⟩⟩
    refine ⟨.ref s.heap.objs.size, _, I1, rfl, ⟨_, x, rfl, I.hok.fresh (Nat.le_refl _), rfl, fun ys hy => by rw [I.tuple_inj hy hq]; exact hx⟩, ⟨⟨u, ?_⟩, hs'.1.at fun o q => (sb.2 it (Ne.symm hne)).trans q, hne, hai⟩, fun b hb => ?_⟩
    · have e1 : ((i + 1 : Nat) : Int) = (i : Int) + 1 := by omega
      rw [e1]
      exact he2
    · have hb' : b < s.heap.objs.size := by
        rcases List.mem_cons.mp hb with z | z
        · rw [z]; exact helt
        · rw [List.mem_singleton.mp z]; exact hitl
      rw [upd_ne (Nat.ne_of_lt hb')]
      exact (hf b hb).1
  done := by
    intro X hP hw hK hc i pp s sg H E I hf st hg
    subst hP hw hK
    obtain ⟨⟨old, he⟩, hit, hne, hai⟩ := st
    obtain ⟨xs, hq, hx⟩ := hg
    obtain ⟨its, rv, tp, hz⟩ := I.tuple hq
    obtain ⟨f0, f1, f2, f3, f4, f5⟩ := hf it (List.mem_cons_of_mem _ List.mem_cons_self)
    have hl := rv.length
    have hT : s.TypeIs (.ref e) "enumerate" := ⟨_, he, rfl⟩
    unfold pyNext
    refine wpAny_bind (wpAny_attempt (wpAny_callSpecial?_slot (name := Str.ofString "__next__") hT F.slot_enumerate_next
      (wpAny_call_entry F.slot_enumerate_next hT F.entry_enumerate_next ?_ (F.args_enumerate_next_1 _))))
    show wpAny _ _ (field (.ref e) 2 >>= _) _ _ _
    refine wpAny_bind (wpAny_field he rfl (x := .ref it) rfl ?_)
    refine wpAny_bind (wpAny_nextOf_tuple_end (I.ok.hd hc) hit tp (by simp; omega) fun h' x1 he' hx' => ?_)
    obtain ⟨o, ho, hc1⟩ := hx'
    refine wpAny_bind (wpAny_isInstance (T := "StopIteration") (b := true) ⟨o, ho, hc1⟩ isSubtype_stop ?_)
    exact wpAny_pure ⟨rfl, I.turned (t' := s.toks) (fun b o hb q => he' b o hb q) f0 f1 f3 f4 f5⟩
  self := fun A i s Q E st h => let ⟨⟨_, he⟩, _⟩ := st; wpAny_pyIter_enum he h
/-- enumerate(v), v a list or a tuple -/
def iEnumA (K : PySem.W.Frag) (ta : TA) : TI := fun σ H R => ta σ H fun vs H1 => ∃ a xs, vs = [.ref a] ∧ ((SqL K H1 a xs ∧ R (Ite K a) H1) ∨ (SqT K H1 a xs ∧ R (IteT K a) H1))
theorem pi_enumA {X : Cx} {e : Expr} {ta : TA} {p pos tpos : Pos} {elts : List Expr} {kk : Nat} (hg : Gl X "enumerate") (hm : X.mg "enumerate" = none) (ha : PA X [e] ta) (hs : starEach [e] X.env = [(false, eval e X.env)] := by rfl) :
    PI X (.Tuple elts kk tpos) (.Call (.Name "enumerate" p) [e] [] pos) (iEnumA X.K ta) := by
  constructor
  intro pp s0 sg H R I hh
  refine Call_ (ld_blt I hg hm boot_enumerate (PyProof.Rows.callWith_type1 (thn (ha.run pos pp s0 sg H _ I hh) ?_) hs rfl))
  rintro us s1 ⟨vs, H1, I1, r1, a, xs, rfl, hq⟩
  have eu : us = [Value.ref a] := by
    cases r1 with
    | cons r rr =>
      cases rr
      cases r
      rfl
  subst eu
  have hmem : ∀ b ∈ [s1.heap.objs.size + 1, s1.heap.objs.size], s1.heap.objs.size ≤ b := by
    intro b hb
    rcases List.mem_cons.mp hb with z | z
    · rw [z]; exact Nat.le_succ _
    · rw [List.mem_singleton.mp z]; exact Nat.le_refl _
  rcases hq with ⟨hq, q⟩ | ⟨hq, q⟩
  · obtain ⟨its, rv, pl, hz⟩ := I1.list hq
    refine call_enumerate_list pl.isList fun h' he hit hsz hk => wpAny_pyIter_enum he ?_
    exact ⟨s1.heap.objs.size + 1, [s1.heap.objs.size + 1, s1.heap.objs.size], _, _, H1, rfl, I1.kept (t' := s1.toks) hk, turn_enum a (s1.heap.objs.size + 1) s1.heap.objs.size, ⟨⟨.none, he⟩, hit, Nat.succ_ne_self _⟩,
      fun b hb => I1.fpOk (hmem b hb) (I1.hok.fresh (hmem b hb)), q⟩
  · obtain ⟨its, rv, tp, hz⟩ := I1.tuple hq
    refine call_enT tp fun h' he hit hsz hk => wpAny_pyIter_enum he ?_
    exact ⟨s1.heap.objs.size + 1, [s1.heap.objs.size + 1, s1.heap.objs.size], _, _, H1, rfl, I1.kept (t' := s1.toks) hk, turn_enT a (s1.heap.objs.size + 1) s1.heap.objs.size,
      ⟨⟨.none, he⟩, hit, Nat.succ_ne_self _, Nat.ne_of_lt (by obtain ⟨o, ho, _⟩ := tp; exact Heap.lt_size ho)⟩, fun b hb => I1.fpOk (hmem b hb) (I1.hok.fresh (hmem b hb)), q⟩
/-- both kinds as one walk -/
theorem walk_enT {K : PySem.W.Frag} {a : Addr} {xs : List V} : Walk (IteT K a) xs.length (fun H => SqT K H a xs) (YPair (fun i => some (.int (i : Nat))) (fun i => xs[i]?)) := by
  refine ⟨fun i _ hi q => ⟨xs, xs[i], q, by simp [hi]⟩, fun _ q => ⟨xs, q, Nat.le_refl _⟩, ?_⟩
  rintro i H v H' _ q ⟨T, x, h1, h2, h3, h4⟩
  exact ⟨T, .int (i : Nat), x, h1, h2, h3, rfl, h4 xs q⟩
end Kb
namespace Kb
open PySem PySem.Spec PyProof.Rows L2
/-! ### heaps -/
theorem same_new {H : Hp} {p : Addr} {o : HO} (h : H p = none) : Same H (upd H p o) := fun b x e => by rw [upd_ne (ne_of_none e h)]; exact e
theorem Same.tup {K : PySem.W.Frag} {H H' : Hp} {a : Addr} {xs : List V} (e : Same H H') (h : SqT K H a xs) : SqT K H' a xs := by
  rcases h with (h | ⟨o, h⟩) | h
  · exact .inl (.inl (e _ _ h))
  · exact .inl (.inr ⟨o, e _ _ h⟩)
  · exact .inr h
/-- the heap without what stands at b -/
def hid (b : Addr) (H : Hp) : Hp := fun a => if a = b then none else H a
theorem hid_le (b : Addr) (H : Hp) : Same (hid b H) H := by
  intro a o h
  unfold hid at h
  split at h
  · cases h
  · exact h
theorem hid_mono {b : Addr} {H H' : Hp} (e : Same H H') : Same (hid b H) (hid b H') := by
  intro a o h
  unfold hid at h ⊢
  split at h
  · cases h
  · rename_i n
    rw [if_neg n]
    exact e _ _ h
theorem hid_at {b a : Addr} {H : Hp} {o : HO} (h : H a = some o) (n : a ≠ b) : hid b H a = some o := by
  unfold hid
  rw [if_neg n]
  exact h
theorem hid_free {b a : Addr} {H : Hp} (h : H a = none) : hid b H a = none := by
  unfold hid
  split
  · rfl
  · exact h
theorem Same.mk2 {H : Hp} {p q : Addr} {o u : HO} (h : H p = none) (h2 : (upd H p o) q = none) : Same H (upd (upd H p o) q u) := (same_new h).trans (same_new h2)
theorem back {H H' : Hp} {p : Addr} (e : Same H H') (h : H' p = none) : H p = none := e.free h
theorem hid_upd {b : Addr} {H : Hp} {o : HO} : hid b (upd H b o) = hid b H := by
  funext a
  unfold hid
  split
  · rfl
  · rename_i n
    rw [upd_ne n]
/-! ### natural numbers as values -/
abbrev nv (n : Nat) : V := .int (n : Int)
theorem cast1 {x : Nat} : ((1 : Int) = (x : Int)) = (1 = x) := by rw [eq_iff_iff]; omega
theorem cast0 {x : Nat} : ((0 : Int) = (x : Int)) = (0 = x) := by rw [eq_iff_iff]; omega
abbrev nvs (l : List Nat) : List V := l.map nv
section
variable {X : Cx}
theorem op_orU : OpR X (binaryOp .BitOr) (fun x y H Q => ∃ n m : Nat, x = nv n ∧ y = nv m ∧ Q (nv (n ||| m)) H) := by
  intro pp s sg H x y v u Q I rx ry h
  obtain ⟨n, m, rfl, rfl, q⟩ := h
  refine op_or pp s sg H _ _ v u Q I rx ry ⟨_, _, rfl, rfl, ?_⟩
  show Q (.int (Builtin.bitOr (n : Int) (m : Int))) H
  rw [bitOr_nn (Int.natCast_nonneg _) (Int.natCast_nonneg _), Int.toNat_natCast, Int.toNat_natCast]
  exact q
theorem bitAnd_nn {n m : Nat} : Builtin.bitAnd (n : Int) (m : Int) = ((n &&& m : Nat) : Int) := by
  unfold Builtin.bitAnd
  rw [decide_eq_true (Int.natCast_nonneg n), decide_eq_true (Int.natCast_nonneg m)]
  rfl
theorem op_andU : OpR X (binaryOp .BitAnd) (fun x y H Q => ∃ n m : Nat, x = nv n ∧ y = nv m ∧ Q (nv (n &&& m)) H) := by
  intro pp s sg H x y v u Q I rx ry h
  obtain ⟨n, m, rfl, rfl, q⟩ := h
  refine op_and pp s sg H _ _ v u Q I rx ry ⟨_, _, rfl, rfl, ?_⟩
  show Q (.int (Builtin.bitAnd (n : Int) (m : Int))) H
  rw [bitAnd_nn]
  exact q
theorem op_shrU : OpR X (binaryOp .RShift) (fun x y H Q => ∃ n k : Nat, x = nv n ∧ y = nv k ∧ Q (nv (n >>> k)) H) := by
  intro pp s sg H x y v u Q I rx ry h
  obtain ⟨n, k, rfl, rfl, q⟩ := h
  refine op_shrN pp s sg H _ _ v u Q I rx ry ⟨_, _, rfl, rfl, ?_⟩
  rw [Nat.shiftRight_eq_div_pow] at q
  have e : ((n : Int) / 2 ^ k) = ((n / 2 ^ k : Nat) : Int) := by
    rw [Int.natCast_ediv, Int.natCast_pow]
    rfl
  rw [e]
  exact q
theorem op_shlU : OpR X (binaryOp .LShift) (fun x y H Q => ∃ k : Nat, x = .int 1 ∧ y = nv k ∧ k ≤ 1000000 ∧ Q (nv (1 <<< k)) H) := by
  intro pp s sg H x y v u Q I rx ry h
  obtain ⟨k, rfl, rfl, hk, q⟩ := h
  refine op_oneShl pp s sg H _ _ v u Q I rx ry ⟨_, rfl, rfl, by omega, ?_⟩
  have e : (2 : Int) ^ k = ((1 <<< k : Nat) : Int) := by
    rw [Nat.shiftLeft_eq, Nat.one_mul, Int.natCast_pow]
    rfl
  rw [e]
  exact q
end
/-! ### what isn't a whole number -/
def NotInt (K : PySem.W.Frag) (H : Hp) (x : V) : Prop := ∃ t b1 b2, TyX K H x t ∧ PySem.W.kitOne K t (.type "int") = some b1 ∧ PySem.W.kitOne K t (.type "bool") = some b2 ∧ (b1 && !b2) = false
theorem kit_ii {K : PySem.W.Frag} : PySem.W.kitOne K (.type "int") (.type "int") = some true := kit_ty (by decide +kernel)
theorem kit_ib {K : PySem.W.Frag} : PySem.W.kitOne K (.type "int") (.type "bool") = some false := kit_ty (by decide +kernel)
theorem kit_lp {K : PySem.W.Frag} : PySem.W.kitAny K (.type "list") [.type "list", .type "tuple"] = some true :=
  kitAny_cons (b := true) (kit_ty (by decide +kernel)) (fun h => nomatch h) fun _ => rfl
theorem kit_tp {K : PySem.W.Frag} : PySem.W.kitAny K (.type "tuple") [.type "list", .type "tuple"] = some true :=
  kitAny_cons (b := false) (kit_ty (by decide +kernel)) (fun _ => kitAny_cons (b := true) (kit_ty (by decide +kernel)) (fun h => nomatch h) fun _ => rfl) fun h => nomatch h
theorem tyInt {K : PySem.W.Frag} {H : Hp} (i : Int) : TyX K H (.int i) (.type "int") := .base (.int i)
/-- a list or a tuple of these -/
def Seq (K : PySem.W.Frag) (H : Hp) (a : Addr) (xs : List V) : Prop := SqL K H a xs ∨ SqT K H a xs
theorem Same.sq {K : PySem.W.Frag} {H H' : Hp} {a : Addr} {xs : List V} (e : Same H H') (h : Seq K H a xs) : Seq K H' a xs := h.elim (fun h => .inl (Same.seq e h)) fun h => .inr (Kb.Same.tup e h)
theorem tyL {K : PySem.W.Frag} {H : Hp} {a : Addr} {xs : List V} (h : SqL K H a xs) : TyX K H (.ref a) (.type "list") := by
  rcases h with (h | ⟨o, h⟩) | ⟨o, its, n, hk, hc, _⟩
  · exact .base (.lst h)
  · exact .base (.frz h)
  · exact .kList hk hc
theorem tyT {K : PySem.W.Frag} {H : Hp} {a : Addr} {xs : List V} (h : SqT K H a xs) : TyX K H (.ref a) (.type "tuple") := by
  rcases h with (h | ⟨o, h⟩) | ⟨o, its, n, hk, hc, _⟩
  · exact .base (.tup h)
  · exact .fTuple h
  · exact .kTuple hk hc
/-! ### for over a list or a tuple -/
def iSeq (K : PySem.W.Frag) (tl : TE) : TI := fun σ H R => tl σ H fun x H1 => ∃ a, x = .ref a ∧ (((∃ xs, SqL K H1 a xs) ∧ R (Itl K a) H1) ∨ ((∃ xs, SqT K H1 a xs) ∧ R (Itt K a) H1))
theorem pi_seq {X : Cx} {tg l : Expr} {tl : TE} (hl : PE X l tl) : PI X tg l (iSeq X.K tl) := by
  constructor
  intro pp s0 sg H R I hh
  refine thn (hl.run pp s0 sg H _ I hh) ?_
  rintro v s1 ⟨x, H1, I1, r1, a, rfl, q⟩
  cases r1
  have new : ∀ b ∈ [s1.heap.objs.size], FpOk X pp H1 b := fun b hb => by
    rw [List.mem_singleton.mp hb]
    exact I1.fpOk (Nat.le_refl _) (I1.hok.fresh (Nat.le_refl _))
  rcases q with ⟨⟨xs, hq⟩, q⟩ | ⟨⟨xs, hq⟩, q⟩
  · obtain ⟨its, _, pl, _⟩ := I1.list hq
    exact wpAny_pyIter_list pl.isList ⟨_, _, _, _, H1, rfl, I1.kept (t' := s1.toks) fun b o z => Heap.get?_push_of_some _ z, turn_list a s1.heap.objs.size, ⟨_, Heap.get?_push_size _ rfl, rfl, rfl⟩, new, q⟩
  · obtain ⟨its, _, tp, _⟩ := I1.tuple hq
    exact wpAny_pyIter_tuple (show s1.heap.IsTuple a its.toArray from tp) ⟨_, _, _, _, H1, rfl, I1.kept (t' := s1.toks) fun b o z => Heap.get?_push_of_some _ z, turn_tuple a s1.heap.objs.size, ⟨_, Heap.get?_push_size _ rfl, rfl, rfl⟩, new, q⟩
end Kb
namespace Kb
open PySem PySem.Spec PyProof.Rows L2
/-! ### the rules with the written part told by its name -/
section
variable {X : Cx} {K : PySem.W.Frag} {a b c e o : Expr} {es : List Expr} {ta tb te to tl : TE} {t : TA} {pos apos cpos p tpos : Pos} {tg : Expr} {elts : List Expr} {kk : Nat}
theorem pe_globI {x : Str} {n : Int} (hg : Gl X x) (hm : ∃ t, X.mg x = some (.int n t)) (hd : (x == ("__debug__" : Str)) = false := by decide) : PE X (.Name x pos) (tC (.int n)) := by
  obtain ⟨t, e⟩ := hm
  exact pe_glob hg e ⟨_, rfl⟩ hd
theorem truthK (hK : X.K = K) (ha : PE X a ta) (he : ∀ whole, isTrue a X.env whole = (do let v ← whole; standAt a.pos; holding [v] (truthy v))) :
    PT X a (fun σ H Q => ta σ H fun x H' => ∃ k, TruV K x H' k ∧ Q k H') := by subst hK; exact pt_truth ha he
theorem ixL (hK : X.K = K) : IxR X (rIxL K) := by subst hK; exact ix_list
theorem ixT (hK : X.K = K) : IxR X (rIxT K) := by subst hK; exact ix_tup
/-- of a list or a tuple -/
def rIxA (K : PySem.W.Frag) : R2 := fun x y H Q => ∃ p xs i v, x = .ref p ∧ y = .int i ∧ Seq K H p xs ∧ atI xs i = some v ∧ Q v H
theorem ixA (hK : X.K = K) : IxR X (rIxA K) := by
  subst hK
  intro value slice pp s sg H x y v u Q I rx ry h hs
  obtain ⟨q, xs, i, z, rfl, rfl, hq, hz, k⟩ := h
  rcases hq with hq | hq
  · exact ix_list value slice pp s sg H _ _ v u Q I rx ry ⟨q, xs, i, z, rfl, rfl, hq, hz, k⟩ hs
  · exact ix_tup value slice pp s sg H _ _ v u Q I rx ry ⟨q, xs, i, z, rfl, rfl, hq, hz, k⟩ hs
def rLenA (K : PySem.W.Frag) : List V → Hp → VK → Prop := fun xs H Q => ∃ q ys, xs = [.ref q] ∧ Seq K H q ys ∧ Q (.int (ys.length : Nat)) H
theorem lenK (hK : X.K = K) : CallR X (.builtin "len") (rLenA K) := by subst hK; exact call_len_seq
def rListOf (K : PySem.W.Frag) : List V → Hp → VK → Prop := fun xs H Q => ∃ q ys, xs = [.ref q] ∧ Seq K H q ys ∧ ∀ l, H l = none → Q (.ref l) (upd H l (.lst ys))
theorem listOfK (hK : X.K = K) : CallR X (.type "list") (rListOf K) := by subst hK; exact call_list_of
def rTupOf (K : PySem.W.Frag) : List V → Hp → VK → Prop := fun xs H Q => ∃ q ys, xs = [.ref q] ∧ ((SqL K H q ys ∧ ∀ l, H l = none → Q (.ref l) (upd H l (.tup ys))) ∨ (SqT K H q ys ∧ Q (.ref q) H))
theorem tupOfK (hK : X.K = K) : CallR X (.type "tuple") (rTupOf K) := by subst hK; exact call_tuple_of
theorem isiK (hK : X.K = K) : CallR X (.builtin "isinstance") (rIsi K) := by subst hK; exact call_isi
theorem inK (hK : X.K = K) : OpR X (compareOp .In) (rIn K false) := by subst hK; exact op_in_seq
theorem notInK (hK : X.K = K) : OpR X (compareOp .NotIn) (rIn K true) := by subst hK; exact op_notIn_seq
theorem eqDK (hK : X.K = K) (hu : X.A.units + 64 < cLine) : OpR X (compareOp .Eq) (rEqD K) := by subst hK; exact op_eqD hu
theorem neDK (hK : X.K = K) (hu : X.A.units + 64 < cLine) : OpR X (compareOp .NotEq) (rNeD K) := by subst hK; exact op_neD hu
theorem inDK (hK : X.K = K) (hu : X.A.units + 65 < cLine) : OpR X (compareOp .In) (rInD K) := by subst hK; exact op_inD hu
theorem notInDK (hK : X.K = K) (hu : X.A.units + 65 < cLine) : OpR X (compareOp .NotIn) (rNotInD K) := by subst hK; exact op_notInD hu
theorem slL (hK : X.K = K) : SlR X (rSlL K) := by subst hK; exact sl_list
theorem slT (hK : X.K = K) : SlR X (rSlT K) := by subst hK; exact sl_tup
theorem catTK (hK : X.K = K) : OpR X (binaryOp .Add) (rCatT K) := by subst hK; exact op_catT
theorem fldK {f : Str} (hK : X.K = K) (he : PE X e ta) (hb : attributeBase e f X.env (eval e X.env) = eval e X.env) : PE X (.Attribute e f pos) (tFld K ta f) := by subst hK; exact pe_fld he hb
theorem sortIK (hK : X.K = K) : CallR X (.builtin "sorted") (rSortedI K) := by subst hK; exact cr_sortedI
theorem sortPK (hK : X.K = K) : CallR X (.builtin "sorted") (rSortedPO K) := by subst hK; exact cr_sortedPO
theorem sumK (hK : X.K = K) (hc : X.calm = true) : CallR X (.builtin "sum") (rSum K) := by subst hK; exact cr_sum hc
theorem plistK (hK : X.K = K) (h : PE X a tl) : PI X tg a (iList K tl) := by subst hK; exact pi_list h
theorem ptupK (hK : X.K = K) (h : PE X a tl) : PI X tg a (iTup K tl) := by subst hK; exact pi_tup h
theorem pseqK (hK : X.K = K) (h : PE X a tl) : PI X tg a (iSeq K tl) := by subst hK; exact pi_seq h
theorem penumK (hK : X.K = K) (hg : Gl X "enumerate") (hm : X.mg "enumerate" = none) (ha : PA X [e] t) (hs : starEach [e] X.env = [(false, eval e X.env)] := by rfl) :
    PI X (.Tuple elts kk tpos) (.Call (.Name "enumerate" p) [e] [] pos) (iEnumA K t) := by subst hK; exact pi_enumA hg hm ha hs
theorem pzipK {e2 : Expr} (hK : X.K = K) (hg : Gl X "zip") (hm : X.mg "zip" = none) (ha : PA X [e, e2] t) (hs : starEach [e, e2] X.env = (false, eval e X.env) :: starEach [e2] X.env := by rfl)
    (hpl : (backTo pos (starEach [e2] X.env)).any (·.1) = false := by rfl) : PI X (.Tuple elts kk tpos) (.Call (.Name "zip" p) [e, e2] [] pos) (RZ.iZipA K t) := by subst hK; exact RZ.pi_zipA hg hm ha hs hpl
theorem gtupK {u : TGs} {n : Nat} (hK : X.K = K) (hc : X.calm = true) (h : PGs X es u) (hn : (assignEach es X.env).length = n := by rfl) (hst : (assignEach es X.env).findIdx? (·.1) = none := by rfl) :
    PG X (.Tuple es kk pos) (gTup K n u) := by subst hK; exact pg_tup hc h hn hst
theorem isPK {A B : String} (hK : X.K = K) (he : PE X e te) (hg : Gl X "isinstance") (hm : X.mg "isinstance" = none) (hes : PA X es (tCons (tC (.ty A)) (tCons (tC (.ty B)) tNil)))
    (q1 : starEach [e, .Tuple es kk tpos] X.env = (false, eval e X.env) :: starEach [.Tuple es kk tpos] X.env := by rfl)
    (q2 : starEach [.Tuple es kk tpos] X.env = (false, eval (.Tuple es kk tpos) X.env) :: starEach [] X.env := by rfl)
    (q3 : (backTo pos (starEach [.Tuple es kk tpos] X.env)).any (·.1) = false := by rfl) :
    PE X (.Call (.Name "isinstance" p) [e, .Tuple es kk tpos] [] pos) (tIsP K A B te) := by subst hK; exact pe_isP he hg hm hes q1 q2 q3
theorem bmK {name : Str} {T id : String} {r : V → List V → Hp → VK → Prop} (hK : X.K = K) (pa : PlainAttrs T) (slot : Slot T name id) (hty : typeOf (.builtin id) = pure (.type "method_descriptor")) (hm : MtR X id r) (ho : PE X o to) (ha : PA X (e :: es) t)
    (q1 : attributeBase o name X.env (eval o X.env) = eval o X.env := by rfl)
    (q2 : ((backTo cpos (starEach (e :: es) X.env)).all (fun x => !x.1) && (backToKw cpos (keywordEach [] X.env)).all (fun x => x.1.isSome)
      && decide ((e :: es).length + ([] : List Keyword).length + (if ([] : List Keyword).isEmpty then 0 else 1) < 30)) = true := by rfl)
    (q3 : (apos.endLine == cpos.line) = true := by rfl) (q4 : starEach (e :: es) X.env = (false, eval e X.env) :: starEach es X.env := by rfl) (q5 : (backTo cpos (starEach es X.env)).any (·.1) = false := by rfl) :
    PE X (.Call (.Attribute o name apos) (e :: es) [] cpos) (tBM K T r to t) := by subst hK; exact pe_bm pa slot hty hm ho ha q1 q2 q3 q4 q5
theorem bm0K {name : Str} {T id : String} {r : V → List V → Hp → VK → Prop} (hK : X.K = K) (pa : PlainAttrs T) (slot : Slot T name id) (hty : typeOf (.builtin id) = pure (.type "method_descriptor")) (hm : MtR X id r) (ho : PE X o to)
    (q1 : attributeBase o name X.env (eval o X.env) = eval o X.env := by rfl) (q3 : (apos.endLine == cpos.line) = true := by rfl) :
    PE X (.Call (.Attribute o name apos) [] [] cpos) (tBM0 K T r to) := by subst hK; exact pe_bm0 pa slot hty hm ho q1 q3
theorem ty_lst {H : Hp} {q : Addr} {xs : List V} (h : SqL K H q xs) : tyV K "list" (.ref q) H := .inl ⟨rfl, _, h⟩
end
/-! ### comprehensions whose element and test leave the heap as it is -/
section
variable {K : PySem.W.Frag} {σ : L2.St} {H : Hp} {Q : VK} {D : Ends} {tt : TT} {te tl : TE} {ta : TA} {j : Nat} {tb : TS}
theorem set_wipe {σ : L2.St} {j : Nat} {x : Option V} : (σ.set j none).set j x = σ.set j x := List.set_set ..
theorem lcR1 (n : Nat) (p : Nat → Bool) (f : Nat → V) (h : ∀ R : List V → Hp → Prop, R [nv n] H → ta σ H R) (hn : n < 100000)
    (hs : ∀ (i : Nat) (H' : Hp) (Q1 : VK) (Q2 : Hp → Prop), i < n → Same H H' → (p i = true → Q1 (f i) H') → (p i = false → Q2 H') → tt (σ.set j (some (nv i))) H' fun b H3 => if b = true then te (σ.set j (some (nv i))) H3 Q1 else Q2 H3)
    (hd : ∀ L, H L = none → Q (.ref L) (upd H L (.lst (((List.range n).filter p).map f)))) : tLc (iRng1 ta) (gName j) tt te [j] σ H Q := by
  refine h _ ⟨(n : Int), rfl, by omega, by omega, fun L hL => ?_⟩
  have take_s : ∀ i : Nat, (List.range (i + 1)).filter p = (List.range i).filter p ++ (if p i = true then [i] else []) := by
    intro i
    rw [List.range_succ, List.filter_append, List.filter_cons, List.filter_nil]
  have e0 : (n : Int).toNat = n := Int.toNat_natCast n
  rw [e0]
  refine lc_range (lo := 0) (n := n) (fun i H' => H' = upd H L (.lst (((List.range i).filter p).map f))) rfl (fun i H' hi e => ?_) (fun H' e => ?_)
  · subst e
    have e1 : (0 : Int) + (i : Int) = (i : Int) := Int.zero_add _
    rw [e1]
    have ew : (wipe σ [j]).set j (some (nv i)) = σ.set j (some (nv i)) := set_wipe
    show wipe ((wipe σ [j]).set j (some (nv i))) [j] = wipe σ [j] ∧ tt ((wipe σ [j]).set j (some (nv i))) _ _
    rw [ew]
    refine ⟨List.set_set .., hs i _ _ _ hi (same_new hL) (fun hp => ?_) (fun hp => ?_)⟩
    · refine ⟨_, upd_same, ?_, ?_⟩
      · have := List.length_filter_le p (List.range i)
        rw [List.length_range] at this
        rw [List.length_map, sizeLine_eq]
        omega
      · rw [upd_upd, take_s, hp, if_pos rfl, List.map_append]
        rfl
    · rw [take_s, hp, if_neg Bool.false_ne_true, List.append_nil]
  · subst e
    exact hd L hL
/-- over a list or a tuple -/
theorem lcS (a : Addr) (xs : List V) (p : V → Bool) (f : V → V) (h : ∀ R : V → Hp → Prop, R (.ref a) H → tl σ H R) (hx : Seq K H a xs) (hn : xs.length < 100000)
    (hs : ∀ (x : V) (H' : Hp) (Q1 : VK) (Q2 : Hp → Prop), x ∈ xs → Same H H' → (p x = true → Q1 (f x) H') → (p x = false → Q2 H') → tt (σ.set j (some x)) H' fun b H3 => if b = true then te (σ.set j (some x)) H3 Q1 else Q2 H3)
    (hd : ∀ L, H L = none → Q (.ref L) (upd H L (.lst ((xs.filter p).map f)))) : tLc (iSeq K tl) (gName j) tt te [j] σ H Q := by
  have take_s : ∀ (i : Nat) (x : V), xs[i]? = some x → (xs.take (i + 1)).filter p = (xs.take i).filter p ++ (if p x = true then [x] else []) := by
    intro i x e
    rw [List.take_add_one, e, List.filter_append]
    show _ ++ [x].filter p = _
    rw [List.filter_cons, List.filter_nil]
  have step : ∀ (L : Addr), H L = none → ∀ (i : Nat) (x : V) (H' : Hp), xs[i]? = some x → H' = upd H L (.lst (((xs.take i).filter p).map f)) →
      gName j x (wipe σ [j]) H' fun σ2 H2 => wipe σ2 [j] = wipe σ [j] ∧ tt σ2 H2 fun b H3 => if b = true then te σ2 H3 fun y H4 => ∃ acc, H4 L = some (.lst acc) ∧ acc.length < sizeLine ∧ upd H4 L (.lst (acc ++ [y])) = upd H L (.lst (((xs.take (i + 1)).filter p).map f)) else H3 = upd H L (.lst (((xs.take (i + 1)).filter p).map f)) := by
    intro L hL i x H' hi e
    subst e
    have ew : (wipe σ [j]).set j (some x) = σ.set j (some x) := set_wipe
    show wipe ((wipe σ [j]).set j (some x)) [j] = wipe σ [j] ∧ tt ((wipe σ [j]).set j (some x)) _ _
    rw [ew]
    refine ⟨List.set_set .., hs x _ _ _ (List.mem_of_getElem? hi) (same_new hL) (fun hp => ?_) (fun hp => ?_)⟩
    · refine ⟨_, upd_same, ?_, ?_⟩
      · have h1 := List.length_filter_le p (xs.take i)
        have h2 := List.length_take_le i xs
        rw [List.length_map, sizeLine_eq]
        have := List.length_take_le' i xs
        omega
      · rw [upd_upd, take_s i x hi, hp, if_pos rfl, List.map_append]
        rfl
    · rw [take_s i x hi, hp, if_neg Bool.false_ne_true, List.append_nil]
  have fin : ∀ L, H L = none → ∀ H', H' = upd H L (.lst (((xs.take xs.length).filter p).map f)) → Q (.ref L) H' := by
    intro L hL H' e
    rw [List.take_length] at e
    subst e
    exact hd L hL
  rcases hx with hx | hx
  · exact h _ ⟨a, rfl, .inl ⟨⟨xs, hx⟩, fun L hL => lc_list (xs := xs) (fun i H' => H' = upd H L (.lst (((xs.take i).filter p).map f))) rfl (fun i H' _ e => by subst e; exact Same.seq (same_new hL) hx) (fun i x H' hi e => step L hL i x H' hi e) (fin L hL)⟩⟩
  · exact h _ ⟨a, rfl, .inr ⟨⟨xs, hx⟩, fun L hL => lc_tup (xs := xs) (fun i H' => H' = upd H L (.lst (((xs.take i).filter p).map f))) rfl (fun i H' _ e => by subst e; exact Kb.Same.tup (same_new hL) hx) (fun i x H' hi e => step L hL i x H' hi e) (fin L hL)⟩⟩
/-- over a range, whatever the element and the test do: Pv of the turn, the heap and the list so far -/
theorem lcR1G (n : Nat) (Pv : Addr → Nat → Hp → List V → Prop) (h : ∀ R : List V → Hp → Prop, R [nv n] H → ta σ H R) (hn : n < 100000) (h0 : ∀ L, H L = none → Pv L 0 (upd H L (.lst [])) [])
    (hs : ∀ (L : Addr) (i : Nat) (H' : Hp) (acc : List V), H L = none → i < n → H' L = some (.lst acc) → Pv L i H' acc → tt (σ.set j (some (nv i))) H' fun b H3 =>
      if b = true then te (σ.set j (some (nv i))) H3 fun y H4 => H4 L = some (.lst acc) ∧ Pv L (i + 1) (upd H4 L (.lst (acc ++ [y]))) (acc ++ [y]) else H3 L = some (.lst acc) ∧ Pv L (i + 1) H3 acc)
    (mt : ∀ σ H (Q1 Q2 : Bool → Hp → Prop), (∀ b H', Q1 b H' → Q2 b H') → tt σ H Q1 → tt σ H Q2) (me : ∀ σ H (Q1 Q2 : VK), (∀ v H', Q1 v H' → Q2 v H') → te σ H Q1 → te σ H Q2)
    (hd : ∀ (L : Addr) (H' : Hp) (acc : List V), H L = none → H' L = some (.lst acc) → Pv L n H' acc → Q (.ref L) H') : tLc (iRng1 ta) (gName j) tt te [j] σ H Q := by
  refine h _ ⟨(n : Int), rfl, by omega, by omega, fun L hL => ?_⟩
  have e0 : (n : Int).toNat = n := Int.toNat_natCast n
  rw [e0]
  refine lc_range (lo := 0) (n := n) (fun i H' => ∃ acc, H' L = some (.lst acc) ∧ acc.length ≤ i ∧ Pv L i H' acc) ⟨[], upd_same, Nat.zero_le _, h0 L hL⟩ ?_ ?_
  · rintro i H' hi ⟨acc, e1, e2, p⟩
    have e3 : (0 : Int) + (i : Int) = (i : Int) := Int.zero_add _
    rw [e3]
    have ew : (wipe σ [j]).set j (some (nv i)) = σ.set j (some (nv i)) := set_wipe
    show wipe ((wipe σ [j]).set j (some (nv i))) [j] = wipe σ [j] ∧ tt ((wipe σ [j]).set j (some (nv i))) _ _
    rw [ew]
    refine ⟨List.set_set .., mt _ _ _ _ (fun b H3 q => ?_) (hs L i H' acc hL hi e1 p)⟩
    cases b with
    | true =>
      refine me _ _ _ _ (fun y H4 q => ?_) q
      obtain ⟨q1, q2⟩ := q
      exact ⟨acc, q1, by rw [sizeLine_eq]; omega, _, upd_same, by rw [List.length_append]; exact Nat.add_le_add e2 (Nat.le_refl 1), q2⟩
    | false =>
      obtain ⟨q1, q2⟩ := q
      exact ⟨acc, q1, Nat.le_succ_of_le e2, q2⟩
  · rintro H' ⟨acc, e1, _, p⟩
    exact hd L H' acc hL e1 p
/-! ### loops -/
theorem forR1 (n : Nat) (Pv : Nat → L2.St → Hp → Prop) (h : ∀ R : List V → Hp → Prop, R [nv n] H → ta σ H R) (hn : n < 100000) (h0 : Pv 0 σ H)
    (hs : ∀ (i : Nat) (σ' : L2.St) (H' : Hp), i < n → Pv i σ' H' → tb { D with nx := Pv (i + 1), ct := Pv (i + 1), bk := D.nx } (σ'.set j (some (nv i))) H') (hd : ∀ σ' H', Pv n σ' H' → D.nx σ' H') : tFor (iRng1 ta) (gName j) tb D σ H := by
  refine h _ ⟨(n : Int), rfl, by omega, by omega, ?_⟩
  have e0 : (n : Int).toNat = n := Int.toNat_natCast n
  rw [e0]
  refine for_range (lo := 0) (n := n) Pv h0 (fun i σ' H' hi e => ?_) hd
  have e1 : (0 : Int) + (i : Int) = (i : Int) := Int.zero_add _
  rw [e1]
  exact hs i σ' H' hi e
theorem forR2 (lo n : Nat) (Pv : Nat → L2.St → Hp → Prop) (h : ∀ R : List V → Hp → Prop, R [nv lo, nv n] H → ta σ H R) (hn : lo < 100000 ∧ n < 100000) (h0 : Pv 0 σ H)
    (hs : ∀ (i : Nat) (σ' : L2.St) (H' : Hp), lo + i < n → Pv i σ' H' → tb { D with nx := Pv (i + 1), ct := Pv (i + 1), bk := D.nx } (σ'.set j (some (nv (lo + i)))) H') (hd : ∀ σ' H', Pv (n - lo) σ' H' → D.nx σ' H') : tFor (iRng2 ta) (gName j) tb D σ H := by
  refine h _ ⟨(lo : Int), (n : Int), rfl, ⟨by omega, by omega, by omega, by omega⟩, ?_⟩
  have e0 : ((n : Int) - (lo : Int)).toNat = n - lo := by omega
  rw [e0]
  refine for_range (lo := (lo : Int)) (n := n - lo) Pv h0 (fun i σ' H' hi e => ?_) hd
  have e1 : (lo : Int) + (i : Int) = ((lo + i : Nat) : Int) := (Int.natCast_add ..).symm
  rw [e1]
  exact hs i σ' H' (by omega) e
/-- what a loop over a list or a tuple wants: the heap G that it stands in is kept -/
def LoopOk (K : PySem.W.Frag) (g : TG) (tb : TS) (D : Ends) (σ : L2.St) (x : V) (H : Hp) : Prop := ∃ (a : Addr) (xs : List V) (Pv : Nat → L2.St → Hp → Prop) (G : Hp), x = .ref a ∧ Pv 0 σ H ∧ Seq K G a xs ∧ (∀ i σ' H', Pv i σ' H' → Same G H') ∧
  (∀ (i : Nat) (x : V) (σ' : L2.St) (H' : Hp), xs[i]? = some x → Pv i σ' H' → g x σ' H' fun σ2 H2 => tb { D with nx := Pv (i + 1), ct := Pv (i + 1), bk := D.nx } σ2 H2) ∧ (∀ σ' H', Pv xs.length σ' H' → D.nx σ' H')
theorem LoopOk.go {g : TG} {x : V} (h : LoopOk K g tb D σ x H) : ∃ a, x = .ref a ∧ (((∃ xs, SqL K H a xs) ∧ (fun J H1 => ∃ W : Nat → Nat → L2.St → Hp → Prop, (∃ m, W 0 m σ H1) ∧ ∀ i m σ H, W i m σ H →
  (It.stop J i H ∧ D.nx σ H) ∨ (J.go i H ∧ ∃ N : L2.St → Hp → Prop, (∀ σ' H', N σ' H' → ∃ m', m' < m ∧ W (i + 1) m' σ' H') ∧ ∀ x H', J.yld i H x H' → g x σ H' fun σ2 H2 => tb { D with nx := N, ct := N, bk := D.nx } σ2 H2)) (Itl K a) H) ∨
  ((∃ xs, SqT K H a xs) ∧ (fun J H1 => ∃ W : Nat → Nat → L2.St → Hp → Prop, (∃ m, W 0 m σ H1) ∧ ∀ i m σ H, W i m σ H →
  (It.stop J i H ∧ D.nx σ H) ∨ (J.go i H ∧ ∃ N : L2.St → Hp → Prop, (∀ σ' H', N σ' H' → ∃ m', m' < m ∧ W (i + 1) m' σ' H') ∧ ∀ x H', J.yld i H x H' → g x σ H' fun σ2 H2 => tb { D with nx := N, ct := N, bk := D.nx } σ2 H2)) (Itt K a) H)) := by
  obtain ⟨a, xs, Pv, G, rfl, h0, hx, hl, hs, hd⟩ := h
  rcases hx with hx | hx
  · exact ⟨a, rfl, .inl ⟨⟨xs, Same.seq (hl 0 _ _ h0) hx⟩, for_list Pv h0 (fun i σ' H' _ p => Same.seq (hl i σ' H' p) hx) hs hd⟩⟩
  · exact ⟨a, rfl, .inr ⟨⟨xs, Kb.Same.tup (hl 0 _ _ h0) hx⟩, for_tup Pv h0 (fun i σ' H' _ p => Kb.Same.tup (hl i σ' H' p) hx) hs hd⟩⟩
/-- over a list or a tuple that stays, the body leaving all that was tracked but b as it was -/
theorem forS {g : TG} (a : Addr) (xs : List V) (Pv : Nat → L2.St → Hp → Prop) (h : ∀ R : V → Hp → Prop, R (.ref a) H → tl σ H R) (h0 : Pv 0 σ H) (G : Hp) (hx : Seq K G a xs) (hl : ∀ i σ' H', Pv i σ' H' → Same G H')
    (hs : ∀ (i : Nat) (x : V) (σ' : L2.St) (H' : Hp), xs[i]? = some x → Pv i σ' H' → g x σ' H' fun σ2 H2 => tb { D with nx := Pv (i + 1), ct := Pv (i + 1), bk := D.nx } σ2 H2) (hd : ∀ σ' H', Pv xs.length σ' H' → D.nx σ' H') : tFor (iSeq K tl) g tb D σ H :=
  h _ (LoopOk.go ⟨a, xs, Pv, G, rfl, h0, hx, hl, hs, hd⟩)
/-- a promise that asks no more of what follows than what it says -/
def Mono (sp : Sp) : Prop := ∀ vs H (Q Q' : VK) E, (∀ v H', Q v H' → Q' v H') → sp vs H Q E → sp vs H Q' E
/-- for x in f(..) -/
theorem forC {g : TG} {sp : Sp} {dvs : List V} {E : XK} (vs : List V) (h : ∀ R : List V → Hp → Prop, R vs H → ta σ H R) (m : Mono sp) (q : sp (vs ++ dvs) H (fun x H1 => LoopOk K g tb D σ x H1) E) : tFor (iSeq K (tCall sp dvs E ta)) g tb D σ H :=
  h _ (m _ _ _ _ _ (fun _ _ => LoopOk.go) q)
/-- over the numbers and items of a list or a tuple that stays -/
theorem forE {i1 i2 : Nat} (a : Addr) (xs : List V) (Pv : Nat → L2.St → Hp → Prop) (h : ∀ R : List V → Hp → Prop, R [.ref a] H → ta σ H R) (h0 : Pv 0 σ H) (G : Hp) (hx : Seq K G a xs) (hl : ∀ i σ' H', Pv i σ' H' → Same G H')
    (hs : ∀ (i : Nat) (x : V) (σ' : L2.St) (H' : Hp) (T : Addr), xs[i]? = some x → Pv i σ' H' → H' T = none →
      tb { D with nx := Pv (i + 1), ct := Pv (i + 1), bk := D.nx } ((σ'.set i1 (some (nv i))).set i2 (some x)) (upd H' T (.tup [nv i, x]))) (hd : ∀ σ' H', Pv xs.length σ' H' → D.nx σ' H') :
    tFor (iEnumA K ta) (gTup K 2 (gCons (gName i1) (gCons (gName i2) gNil))) tb D σ H := by
  have go : ∀ (i : Nat) (v : V) (σ' : L2.St) (H1 H2 : Hp), Pv i σ' H1 → YPair (fun i => some (.int (i : Nat))) (fun i => xs[i]?) i H1 v H2 →
      gTup K 2 (gCons (gName i1) (gCons (gName i2) gNil)) v σ' H2 fun σ2 H2 => tb { D with nx := Pv (i + 1), ct := Pv (i + 1), bk := D.nx } σ2 H2 := by
    rintro i v σ' H1 H2 hp ⟨T, x, y, rfl, hT, rfl, e1, e2⟩
    cases e1
    exact ⟨T, _, rfl, .of upd_same, rfl, _, _, rfl, _, _, rfl, rfl, hs i y σ' H1 T e2 hp hT⟩
  rcases hx with hx | hx
  · exact h _ ⟨a, xs, rfl, .inl ⟨Same.seq (hl 0 _ _ h0) hx, for_it walk_enum Pv h0 (fun i σ' H' _ p => Same.seq (hl i σ' H' p) hx) (fun i x σ' H1 H2 _ p y => go i x σ' H1 H2 p y) hd⟩⟩
  · exact h _ ⟨a, xs, rfl, .inr ⟨Kb.Same.tup (hl 0 _ _ h0) hx, for_it walk_enT Pv h0 (fun i σ' H' _ p => Kb.Same.tup (hl i σ' H' p) hx) (fun i x σ' H1 H2 _ p y => go i x σ' H1 H2 p y) hd⟩⟩
end
end Kb
namespace Kb
open PySem PySem.Spec PyProof.Rows L2
/-! ### is True, is False -/
def rIsV : R2 := fun x y H Q => ∃ b, y = .bl b ∧ Q (.bl (decide (x = .bl b))) H
theorem op_isBv {X : Cx} : OpR X (compareOp .Is) rIsV := by
  intro pins s σ H x y v u Q I rx ry h
  obtain ⟨b, rfl, q⟩ := h
  cases (show u = Value.bool b from ry)
  have no : x ≠ .bl b → plainIs v (.bool b) = true → v ≠ .bool b → wpAny (model X.prog X.w) X.A (compareOp .Is v (.bool b)) (EP X pins σ Q) X.xe s := fun n p e =>
    wpAny_is_other p e (fin_bl I q (decide_eq_false n))
  cases x with
  | bl a =>
    cases (show v = Value.bool a from rx)
    by_cases e : a = b
    · subst e
      exact wpAny_is_self rfl (fin_bl I q (decide_eq_true rfl))
    · exact no (fun z => e (V.bl.inj z)) rfl fun z => e (Value.bool.inj z)
  | non => cases rx; exact no (fun z => nomatch z) rfl fun z => nomatch z
  | ref a => cases rx; exact no (fun z => nomatch z) rfl fun z => nomatch z
  | ty a => cases rx; exact no (fun z => nomatch z) rfl fun z => nomatch z
  | int a => obtain ⟨t, rfl⟩ := rx; exact no (fun z => nomatch z) rfl fun z => nomatch z
  | str a => obtain ⟨t, rfl⟩ := rx; exact no (fun z => nomatch z) rfl fun z => nomatch z
  | byt a => obtain ⟨t, rfl⟩ := rx; exact no (fun z => nomatch z) rfl fun z => nomatch z
  | flt a => obtain ⟨t, rfl⟩ := rx; exact no (fun z => nomatch z) rfl fun z => nomatch z
theorem hu65 {A : Around} {k : Nat} (hr : Room k A) : A.units + 65 < cLine := by
  have := hr.un
  omega
/-! ### sorted(set(l)) of a list of ints -/
abbrev nSet (w : World) : Obj := { cls := .type "set", dict := none, data := .set #[] 0 (.fresh 0 0 (!w.params.followText "set-order")) }
/-- the state behind the new set -/
abbrev sSet (w : World) (s : Shared) : Shared := { s with heap := s.heap.push (nSet w) }
section
variable {P : Program} {w : World} {A : Around} {E : Value → Shared → Prop} {s : Shared}
set_option maxHeartbeats 4000000 in
theorem set_of_list {l : Addr} {its : Array Value} (ns : List Int) {Q : Value → Shared → Prop} (nh : A.handled = none) (hl : s.heap.IsList l its) (hi : IntsAre its.toList ns) (hb : ns.length + 1 < scanBound)
    (h : ∀ (h' : Heap) (tk c : Nat), SetR w h' s.heap.objs.size (fun j => decide (j ∈ ns)) c → c ≤ ns.length → (∀ b o, s.heap.get? b = some o → h'.get? b = some o) → Q (.ref s.heap.objs.size) { s with heap := h', toks := tk }) :
    wpAny (model P w) A (call (.type "set") [.ref l]) Q E s := by
  have sz : its.size = ns.length := (Array.length_toList (xs := its)).symm.trans (IntsAre.length hi)
  obtain ⟨c, tl, mro⟩ := F.called_set.mro
  have m1 := F.called_set.made
  have m2 := F.called_set.sub
  refine wpAny_call (codeAny_of_tree ?_)
  show wpAny _ _ (callAny (.type "set") _) _ _ _
  refine wpAny_pure ⟨Code.quiet_builtin _ (by decide +kernel), codeAny_builtin F.entry_type_call ?_⟩
  rw [Around.under_plain (weight_type_call_type "set" [.ref l] []) rfl]
  have m3 := F.called_set.notType
  have m4 := F.called_set.canCreate
  have m5 := F.typeCall_set_1 (.ref l)
  repeat (any_goals (first | assumption | wp_step))
  refine codeAny_mono (code_set_led1 (.ref l) (E := E) (Q₁ := fun y z => y = .ref s.heap.objs.size ∧ z = sSet w s) ⟨rfl, rfl⟩) fun r z hr => ?_
  cases r with
  | error e => exact hr
  | ok fl =>
    cases fl with
    | ret y =>
      obtain ⟨rfl, rfl⟩ := hr
      have gS : (s.heap.push (nSet w)).get? s.heap.objs.size = some (nSet w) := Heap.get?_push_size _ rfl
      have tS : Shared.TypeIs (sSet w s) (.ref s.heap.objs.size) "set" := ⟨_, gS, rfl⟩
      have i1 := F.called_set.init.lookup
      have i2 := F.called_set.init.bind (.ref s.heap.objs.size)
      repeat (any_goals (first | assumption | wp_step))
      refine codeAny_mono (codeAny_call_builtin (R := wants (fun r z => r = .none ∧ ∃ h' tk c, z = { s with heap := h', toks := tk } ∧ SetR w h' s.heap.objs.size (fun j => decide (j ∈ ns)) c ∧ c ≤ ns.length ∧
          (∀ b o, s.heap.get? b = some o → h'.get? b = some o)) E) F.called_set.init.plain F.entry_set_init (check_set_init_1 tS ?_)) fun r z hr => ?_
      · obtain ⟨ol, gl, cl, n, dl⟩ := hl
        obtain ⟨oc, od, oo, os⟩ := ol
        simp only at cl dl
        subst cl; subst dl
        have gl' : (s.heap.push (nSet w)).get? l = some { cls := .type "list", dict := od, data := .seq its n, slots := os } := Heap.get?_push_of_some _ gl
        have b1 := F.sub_list_set
        have b2 := F.sub_list_frozenset
        have b3 : (Value.type "list" == Value.type "dict") = false := by decide
        have l1 : (s.heap.push (nSet w)).IsList l its := ⟨_, gl', rfl, n, rfl⟩
        unfold Builtin.«set.__init__» noKeywords Builtin.Frozenset.updateFrom
        generalize hPI : pyIter = PI
        wp_walk
        subst hPI
        refine wpAny_pyIter_list l1 (wpAny_bind (wpAny_runValue ?_))
        have lt : l < s.heap.objs.size := Heap.lt_size gl
        have n3 : A.in1.in1.in1.handled = none := by simp [nh]
        have s1 : (s.heap.push (nSet w)).objs.size = s.heap.objs.size + 1 := Heap.size_push ..
        have ne : l ≠ (s.heap.push (nSet w)).objs.size := by rw [s1]; exact Nat.ne_of_lt (Nat.lt_succ_of_lt lt)
        have nf : s.heap.objs.size ∉ [(s.heap.push (nSet w)).objs.size, l] := by
          rw [s1]
          simp only [List.mem_cons, List.not_mem_nil, or_false, not_or]
          exact ⟨Nat.ne_of_lt (Nat.lt_succ_self _), Nat.ne_of_gt lt⟩
        refine set_update_ints ((Walks.list n3 _ l ne its).toS) s.heap.objs.size nf ns sz hb (fun i v hv => ?_) (its.size - 0) 0 _ (by omega) (Nat.zero_le _)
          ⟨⟨_, Heap.get?_push_size _ rfl, rfl, rfl⟩, (l1.push _)⟩ ⟨0, Nat.le_refl 0, setR_new_at (Heap.get?_push_of_some _ gS)⟩ ?_
        · have hi2 : i < ns.length := by rw [← sz]; exact (Array.getElem?_eq_some_iff.mp hv).1
          obtain ⟨t, e⟩ := IntsAre.int_at hi i v (by rw [Array.getElem?_toList]; exact hv)
          exact ⟨ns[i], t, List.getElem?_eq_getElem hi2, by rw [e, List.getD_eq_getElem?_getD, List.getElem?_eq_getElem hi2] <;> rfl⟩
        · intro z c2 hm hc hR
          obtain ⟨h', g2, d2, tk, o2⟩ := z
          have e1 : g2 = s.gens := hm.gens
          have e2 : d2 = s.drawn := hm.drawn
          have e3 : o2 = s.os := hm.os
          subst e1; subst e2; subst e3
          show wpAny _ _ _ _ _ _
          refine wpAny_pure ?_
          show wpAny _ _ (ret Value.none) _ _ _
          rw [sz] at hc
          refine wpAny_pure ⟨rfl, h', tk, c2, rfl, hR, hc, fun b o e => ?_⟩
          have lb : b < s.heap.objs.size := Heap.lt_size e
          refine hm.heap b o (fun z => ?_) (Heap.get?_push_of_some _ (Heap.get?_push_of_some _ e))
          simp only [List.mem_cons, List.not_mem_nil, or_false] at z
          rcases z with z | z
          · exact Nat.ne_of_lt lb z
          · exact Nat.ne_of_lt (Nat.lt_succ_of_lt lb) (z.trans s1)
      · cases r with
        | error e => exact hr
        | ok fl =>
          cases fl with
          | ret y =>
            obtain ⟨rfl, h', tk, c2, rfl, hS, hc, hk⟩ := hr
            repeat (any_goals (first | assumption | wp_step))
            exact h _ _ _ hS hc hk
          | _ => exact hr.elim
    | _ => exact hr.elim
end
/-- sorted(set(e)), e a list of few ints -/
def tSSet (K : PySem.W.Frag) (ta : TA) : TE := fun σ H Q => ta σ H fun vs H1 => ∃ (a : Addr) (ns : List Int), vs = [.ref a] ∧ SqL K H1 a (ns.map V.int) ∧ ns.length < 64 ∧
  ∀ (out : List Int) (p : Addr), out.Pairwise (· < ·) → (∀ k, k ∈ out ↔ k ∈ ns) → H1 p = none → Q (.ref p) (upd H1 p (.lst (out.map V.int)))
theorem pe_sset {X : Cx} {K : PySem.W.Frag} {e : Expr} {ta : TA} {p1 p2 q1 q2 : Pos} (hK : X.K = K) (hc : X.calm = true) (g1 : Gl X "sorted") (m1 : X.mg "sorted" = none) (g2 : Gl X "set") (m2 : X.mg "set" = none) (ha : PA X [e] ta)
    (he : starEach [e] X.env = [(false, eval e X.env)] := by rfl) (he2 : starEach [.Call (.Name "set" p2) [e] [] q2] X.env = [(false, eval (.Call (.Name "set" p2) [e] [] q2) X.env)] := by rfl) :
    PE X (.Call (.Name "sorted" p1) [.Call (.Name "set" p2) [e] [] q2] [] q1) (tSSet K ta) := by
  subst hK
  refine ⟨fun pins s σ H Q I h => ?_⟩
  refine wpAny_Call_Name_kw (ld_blt I g1 m1 (u := .builtin "sorted") (by decide +kernel) ?_)
  refine PyProof.Rows.callWith_builtin1 ?_ he2 rfl
  rw [he2]
  refine Calls.spliced_cons ?_
  refine wpAny_Call_Name_kw (ld_blt I g2 m2 PyProof.Rows.boot_set ?_)
  refine PyProof.Rows.callWith_type1 (thn (ha.run q2 pins s σ H _ I h) fun us s1 ⟨vs, H1, I1, r1, h1⟩ => ?_) he rfl
  obtain ⟨a, ns, rfl, hs, hl, q⟩ := h1
  rw [Vals.ref1 r1]
  obtain ⟨its, rv, ht, hz⟩ := I1.list hs
  have hi : IntsAre its.toArray.toList ns := rv.ints
  have hd := I1.ok.hd hc
  refine set_of_list ns hd ht.isList hi (by unfold scanBound; omega) fun h' tk c R hcn k => ?_
  refine Calls.spliced_nil ?_
  refine sorted_set R hd (by omega) fun s2 p out n ks k2 g2 o2 hp hg hI hw hm hn => ?_
  have kall : ∀ b u, s1.heap.get? b = some u → s2.heap.get? b = some u := fun b u e => k2 b u (k b u e)
  have ge : s1.heap.objs.size ≤ p := by
    obtain ⟨o, es, ep, t, ho, _⟩ := R
    exact Nat.le_trans (Nat.le_of_lt (Heap.lt_size ho)) hp
  have hlen : (ks.map V.int).length ≤ sizeLine := by rw [List.length_map, hn, sizeLine_eq]; omega
  exact ⟨.ref p, upd H1 p (.lst (ks.map V.int)), I1.call' (ch := []) o2 (Un.laid kall ge (I1.hok.fresh ge)) (I1.hok.laid kall ge ⟨hlen, out.toList, n, vals_of_ints hI, hg⟩) (by rw [g2]; exact I1.bare) (fun _ z => nomatch z), rfl,
    q ks p hw (fun j => by rw [hm j, decide_eq_true_eq]) (I1.hok.fresh ge)⟩
end Kb
namespace Kb
open PySem PySem.Spec PyProof.Rows L2
/-! ### int(x) of a number, int(x) of a bool, abs -/
def rIntI : List V → Hp → VK → Prop := fun xs H Q => ∃ i, xs = [.int i] ∧ Q (.int i) H
def rIntB : List V → Hp → VK → Prop := fun xs H Q => ∃ k, xs = [.bl k] ∧ Q (.int (if k = true then 1 else 0)) H
def rAbsN : List V → Hp → VK → Prop := fun xs H Q => ∃ i, xs = [.int i] ∧ Q (.int (i.natAbs : Int)) H
section
variable {X : Cx}
theorem callIntI : CallR X (.type "int") rIntI := fun pins s σ H xs us Q I r h => call_int1 pins s σ H xs us Q I r (.inl h)
theorem callIntB : CallR X (.type "int") rIntB := fun pins s σ H xs us Q I r h => call_int1 pins s σ H xs us Q I r (.inr h)
theorem callAbsN : CallR X (.builtin "abs") rAbsN := fun pins s σ H xs us Q I r h => by
  obtain ⟨i, e, q⟩ := h
  refine call_abs pins s σ H xs us Q I r ⟨i, e, ?_⟩
  rw [show (if i < 0 then -i else i) = (i.natAbs : Int) by split <;> omega]
  exact q
end
theorem or_xor_and : ∀ n m : Nat, n ||| m = (n ^^^ m) + (n &&& m) := by
  intro n
  induction n using Nat.strongRecOn with
  | _ n ih =>
    intro m
    by_cases h0 : n = 0
    · subst h0
      simp
    · have h := ih (n / 2) (by omega) (m / 2)
      rw [← Nat.or_div_two, ← Nat.xor_div_two, ← Nat.and_div_two] at h
      have a := Nat.or_mod_two_eq_one (a := n) (b := m)
      have b := Nat.xor_mod_two_eq_one (a := n) (b := m)
      have c := Nat.and_mod_two_eq_one (a := n) (b := m)
      omega
theorem bitXor_nn {n m : Nat} : Builtin.bitXor (n : Int) (m : Int) = ((n ^^^ m : Nat) : Int) := by
  unfold Builtin.bitXor
  rw [bitOr_nn (Int.natCast_nonneg _) (Int.natCast_nonneg _), Int.toNat_natCast, Int.toNat_natCast, bitAnd_nn, or_xor_and n m]
  omega
theorem op_xorU {X : Cx} : OpR X (binaryOp .BitXor) (fun x y H Q => ∃ n m : Nat, x = nv n ∧ y = nv m ∧ Q (nv (n ^^^ m)) H) := by
  intro pp s sg H x y v u Q I rx ry h
  obtain ⟨n, m, rfl, rfl, q⟩ := h
  refine op_xor pp s sg H _ _ v u Q I rx ry ⟨_, _, rfl, rfl, ?_⟩
  show Q (.int (Builtin.bitXor (n : Int) (m : Int))) H
  rw [bitXor_nn]
  exact q
theorem mulL {i j : Int} (h0 : 0 ≤ i) (h1 : i < 2 ^ 64) : CMul i j := .inl ⟨by omega, h1⟩
theorem mulR {i j : Int} (h0 : 0 ≤ j) (h1 : j < 2 ^ 64) : CMul i j := .inr ⟨by omega, h1⟩
section
variable {K : PySem.W.Frag} {σ : L2.St} {H : Hp} {Q : VK} {tt : TT} {te : TE} {ta : TA} {j : Nat}
/-- over a range, the element and the test making what is new -/
theorem lcR1S (n : Nat) (p : Nat → Bool) (f : Nat → V) (h : ∀ R : List V → Hp → Prop, R [nv n] H → ta σ H R) (hn : n < 100000)
    (hs : ∀ (i : Nat) (H' : Hp) (Q1 : VK) (Q2 : Hp → Prop), i < n → Same H H' → (∀ H3, Same H' H3 → p i = true → Q1 (f i) H3) → (∀ H3, Same H' H3 → p i = false → Q2 H3) → tt (σ.set j (some (nv i))) H' fun b H3 => if b = true then te (σ.set j (some (nv i))) H3 Q1 else Q2 H3)
    (hd : ∀ L H', H L = none → Same H H' → H' L = some (.lst (((List.range n).filter p).map f)) → Q (.ref L) H') : tLc (iRng1 ta) (gName j) tt te [j] σ H Q := by
  refine h _ ⟨(n : Int), rfl, by omega, by omega, fun L hL => ?_⟩
  rw [Int.toNat_natCast]
  refine lc_range (lo := 0) (n := n) (fun i H' => Same H H' ∧ H' L = some (.lst (((List.range i).filter p).map f))) ⟨same_new hL, upd_same⟩ (fun i H' hi e => ?_) (fun H' e => hd L H' hL e.1 e.2)
  obtain ⟨s1, e1⟩ := e
  rw [show (0 : Int) + (i : Int) = (i : Int) from Int.zero_add _]
  have ew : (wipe σ [j]).set j (some (nv i)) = σ.set j (some (nv i)) := set_wipe
  show wipe ((wipe σ [j]).set j (some (nv i))) [j] = wipe σ [j] ∧ tt ((wipe σ [j]).set j (some (nv i))) _ _
  rw [ew]
  refine ⟨List.set_set .., hs i _ _ _ hi s1 (fun H3 s3 hp => ?_) fun H3 s3 hp => ?_⟩
  · refine ⟨_, s3 _ _ e1, ?_, fun b o hb => ?_, ?_⟩
    · have := List.length_filter_le p (List.range i)
      rw [List.length_range] at this
      rw [List.length_map, sizeLine_eq]
      omega
    · rw [upd_ne (ne_of_none hb hL)]
      exact s3 _ _ (s1 _ _ hb)
    · rw [upd_same, List.range_succ, List.filter_append, List.filter_cons, List.filter_nil, if_pos hp, List.map_append]
      rfl
  · refine ⟨s1.trans s3, ?_⟩
    rw [List.range_succ, List.filter_append, List.filter_cons, List.filter_nil, if_neg (by rw [hp]; exact Bool.false_ne_true), List.append_nil]
    exact s3 _ _ e1
end
end Kb
namespace Kb
open PySem PySem.Spec PyProof.Rows L2
section
variable {K : PySem.W.Frag} {σ : L2.St} {H : Hp} {Q : VK} {tt : TT} {te tl : TE} {j : Nat}
/-- over a list or a tuple that stays, whatever the element and the test do: Pv of the turn, the heap and the list so far -/
theorem lcSG (a : Addr) (xs : List V) (Pv : Addr → Nat → Hp → List V → Prop) (h : ∀ R : V → Hp → Prop, R (.ref a) H → tl σ H R) (hx : Seq K H a xs) (hn : xs.length < 100000) (h0 : ∀ L, H L = none → Pv L 0 (upd H L (.lst [])) [])
    (hl : ∀ L i H' acc, H L = none → Pv L i H' acc → Same H H')
    (hs : ∀ (L : Addr) (i : Nat) (x : V) (H' : Hp) (acc : List V), H L = none → xs[i]? = some x → H' L = some (.lst acc) → Pv L i H' acc → tt (σ.set j (some x)) H' fun b H3 =>
      if b = true then te (σ.set j (some x)) H3 fun y H4 => H4 L = some (.lst acc) ∧ Pv L (i + 1) (upd H4 L (.lst (acc ++ [y]))) (acc ++ [y]) else H3 L = some (.lst acc) ∧ Pv L (i + 1) H3 acc)
    (mt : ∀ σ H (Q1 Q2 : Bool → Hp → Prop), (∀ b H', Q1 b H' → Q2 b H') → tt σ H Q1 → tt σ H Q2) (me : ∀ σ H (Q1 Q2 : VK), (∀ v H', Q1 v H' → Q2 v H') → te σ H Q1 → te σ H Q2)
    (hd : ∀ (L : Addr) (H' : Hp) (acc : List V), H L = none → H' L = some (.lst acc) → Pv L xs.length H' acc → Q (.ref L) H') : tLc (iSeq K tl) (gName j) tt te [j] σ H Q := by
  have step : ∀ (L : Addr), H L = none → ∀ (i : Nat) (x : V) (H' : Hp), xs[i]? = some x → (∃ acc, H' L = some (.lst acc) ∧ acc.length ≤ i ∧ Pv L i H' acc) →
      gName j x (wipe σ [j]) H' fun σ2 H2 => wipe σ2 [j] = wipe σ [j] ∧ tt σ2 H2 fun b H3 => if b = true then te σ2 H3 fun y H4 => ∃ acc, H4 L = some (.lst acc) ∧ acc.length < sizeLine ∧ (∃ acc2, (upd H4 L (.lst (acc ++ [y]))) L = some (.lst acc2) ∧ acc2.length ≤ i + 1 ∧ Pv L (i + 1) (upd H4 L (.lst (acc ++ [y]))) acc2)
        else ∃ acc, H3 L = some (.lst acc) ∧ acc.length ≤ i + 1 ∧ Pv L (i + 1) H3 acc := by
    rintro L hL i x H' hi ⟨acc, e1, e2, p⟩
    have lt : i < xs.length := (List.getElem?_eq_some_iff.mp hi).1
    have ew : (wipe σ [j]).set j (some x) = σ.set j (some x) := set_wipe
    show wipe ((wipe σ [j]).set j (some x)) [j] = wipe σ [j] ∧ tt ((wipe σ [j]).set j (some x)) _ _
    rw [ew]
    refine ⟨List.set_set .., mt _ _ _ _ (fun b H3 q => ?_) (hs L i x H' acc hL hi e1 p)⟩
    cases b with
    | true =>
      refine me _ _ _ _ (fun y H4 q => ?_) q
      obtain ⟨q1, q2⟩ := q
      exact ⟨acc, q1, by rw [sizeLine_eq]; omega, _, upd_same, by rw [List.length_append]; exact Nat.add_le_add e2 (Nat.le_refl 1), q2⟩
    | false =>
      obtain ⟨q1, q2⟩ := q
      exact ⟨acc, q1, Nat.le_succ_of_le e2, q2⟩
  have fin : ∀ (L : Addr), H L = none → ∀ H', (∃ acc, H' L = some (.lst acc) ∧ acc.length ≤ xs.length ∧ Pv L xs.length H' acc) → Q (.ref L) H' := by
    rintro L hL H' ⟨acc, e1, _, p⟩
    exact hd L H' acc hL e1 p
  rcases hx with hx | hx
  · exact h _ ⟨a, rfl, .inl ⟨⟨xs, hx⟩, fun L hL => lc_list (xs := xs) (fun i H' => ∃ acc, H' L = some (.lst acc) ∧ acc.length ≤ i ∧ Pv L i H' acc) ⟨[], upd_same, Nat.zero_le _, h0 L hL⟩ (fun i H' _ e => by obtain ⟨acc, _, _, p⟩ := e; exact Same.seq (hl L i H' acc hL p) hx) (step L hL) (fin L hL)⟩⟩
  · exact h _ ⟨a, rfl, .inr ⟨⟨xs, hx⟩, fun L hL => lc_tup (xs := xs) (fun i H' => ∃ acc, H' L = some (.lst acc) ∧ acc.length ≤ i ∧ Pv L i H' acc) ⟨[], upd_same, Nat.zero_le _, h0 L hL⟩ (fun i H' _ e => by obtain ⟨acc, _, _, p⟩ := e; exact Kb.Same.tup (hl L i H' acc hL p) hx) (step L hL) (fin L hL)⟩⟩
/-- over a sequence that the loop's head makes: F tells what it makes -/
theorem forSF {D : Ends} {g : TG} {tb : TS} (F : Hp → Addr → Prop) (h : ∀ R : V → Hp → Prop, (∀ H1 p, F H1 p → R (.ref p) H1) → tl σ H R) (q : ∀ H1 p, F H1 p → LoopOk K g tb D σ (.ref p) H1) : tFor (iSeq K tl) g tb D σ H :=
  h _ fun H1 p f => LoopOk.go (q H1 p f)
end
end Kb
namespace Kx
open PySem PySem.W PySem.Calls PyProof.Rows PySem.HandSPX
/-! ### an own error below a class of one's own below Exception: __init__ says super().__init__(text), then self.at = at -/
abbrev exEnd : List Value := [.type "Exception", .type "BaseException", .type "object"]
abbrev line (rs : List Addr) : List Value := rs.map Value.ref ++ exEnd
theorem line_has (X : String) (rs : List Addr) : (line rs).contains (.type X) = exEnd.contains (.type X) := by
  induction rs with
  | nil => rfl
  | cons r t ih =>
    rw [show line (r :: t) = Value.ref r :: line t from rfl, List.contains_cons, ih]
    rfl
theorem line_pass (self : Value) (rs : List Addr) : refuseLoop self "__setattr__" (line rs) = pure () := by
  induction rs with
  | nil => exact F.store_Exception.passes self
  | cons r t ih => exact (refuseLoop_ref self "__setattr__" r (line t)).trans ih
theorem line_ne (rs : List Addr) : (line rs).isEmpty = false := by cases rs <;> rfl
section
open Builtin Builtin.ObjectAttr
variable {prog : Program} {w : World} {A : Around} {R : Result → Shared → Prop} {hp : Heap} {g : Array GenState} {d : Drawn} {t : Nat} {os : OsState}
set_option maxHeartbeats 4000000 in
/-- self.name = v, the object without a dict so far -/
theorem err_set {K : Frag} {name : Str} {tk : Tok} {v : Value} {x C : Addr} {fv : Array Value} {cd : ClassData} {rs : List Addr}
    (X : K.In hp) (hx : hp.get? x = some { cls := .ref C, data := .fields fv }) (hcd : clsIn K C = some cd) (hm : cd.mro = line rs) (hh : cd.hasDict = true) (ha : findIn K (.ref C) name = some none)
    (hq : ∀ h' tk' dx, (∀ b o, b ≠ x → hp.get? b = some o → h'.get? b = some o) → hp.objs.size ≤ dx → dx ≠ x → h'.get? x = some { cls := .ref C, dict := some dx, data := .fields fv } →
      h'.Ns1 dx (fun y => if y = name then some v else none) → R (.ok (.ret .none)) ⟨h', g, d, tk', os⟩) :
    codeAny (model prog w) A (.call (.builtin "object.__setattr__") ⟨[.ref x, .str name tk, v], []⟩) R ⟨hp, g, d, t, os⟩ := by
  have at_x : InstAt hp x { cls := .ref C, data := .fields fv } C none := ⟨hx, rfl, rfl, trivial⟩
  have SF := F.store_object
  have fresh : x ≠ hp.objs.size := Nat.ne_of_lt (Heap.lt_size hx)
  have isO : Looks (model prog w) hp (isInstance (.ref x) (.type "object")) true := at_x.type.andThen (looks_mroIn X (by
    unfold mroIn
    rw [hcd, Option.bind_some, hm, if_neg (by rw [line_ne]; decide), line_has]
    rfl))
  refine codeAny_call_builtin SF.slot.plain SF.entry (@check_slot (model prog w) A.in1 _ ⟨hp, g, d, t, os⟩ "object.__setattr__" "object" "__setattr__"
    (.ref x) [.str name tk, v] [] _ SF.kind SF.split isO (SF.args (.ref x) (.str name tk) v) ?_)
  have mro : Looks (model prog w) hp (mroOf (.ref C)) cd.mro := (looks_clsIn X hcd).andThen .now
  have no : Looks (model prog w) hp (storeTaker? none) none := .now
  have cls : Looks (model prog w) hp (classData C) cd := looks_clsIn X hcd
  rw [osa_eq, refuse_eq]
  refine wpAny_bind (wpAny_bind (at_x.type.at (wpAny_bind (mro.at ?_))))
  rw [show refuseLoop (.ref x) "__setattr__" cd.mro = pure () by rw [hm]; exact line_pass _ _]
  refine wpAny_pure (wpAny_bind (at_x.type.at (wpAny_bind ((looks_findIn X ha).at (wpAny_bind (no.at ?_))))))
  show wpAny _ _ (storeInOwnDict (.ref x) (.ref C) (.str name tk) name v false) _ _ _
  obtain ⟨c1, c2, c3, c4, c5, c6, c7, c8, c9, c10, c11⟩ := cd
  dsimp only at hh
  subst hh
  unfold storeInOwnDict ownDictForStores
  repeat (first | with_reducible refine store_in_new ?_ ?_ | with_reducible refine wpAny_loadPart_at hx ?_ | with_reducible refine cls.at ?_ | wp_step)
  · exact ⟨_, #[], _, (Heap.get?_update_ne _ _ _ _ fresh.symm).trans (Heap.get?_push_at rfl rfl), rfl, fun e he => absurd he (by simp), fun _ => rfl⟩
  · intro h' tk' ns' sb
    have hx1 : (hp.push { cls := .type "dict", data := .dict #[] }).get? x = some { cls := .ref C, data := .fields fv } := Heap.get?_push_of_some _ hx
    refine hq h' tk' hp.objs.size (fun b o hb ho => ?_) (Nat.le_refl _) fresh.symm ?_ ns'
    · exact (sb.2 b (Nat.ne_of_lt (Heap.lt_size ho))).trans ((Heap.get?_update_ne _ _ _ _ hb).trans (Heap.get?_push_of_some _ ho))
    · exact (sb.2 x fresh).trans (Heap.get?_update_self _ hx1 rfl)
end
/-! ### the text of __init__ -/
def iA (p1 p2 : Pos) : Arguments := { posonlyargs := [], args := [{ arg := "self", annotation := none, pos := p1 }, { arg := "at", annotation := none, pos := p2 }], vararg := none, kwonlyargs := [], kw_defaults := [], kwarg := none, defaults := [] }
def iB (txt : Str) (q1 q2 q3 q4 q5 q6 r1 r2 r3 r4 : Pos) : List Stmt :=
  [.Expr (.Call (.Attribute (.Call (.Name "super" q1) [] [] q2) "__init__" q3) [.Constant (.str txt) 0 q4] [] q5) q6, .Assign [.Attribute (.Name "self" r1) "at" r2] (.Name "at" r3) r4]
def iS : Scope := { kind := .function, names := [(PySem.Str.ofString "self", .local), (PySem.Str.ofString "at", .local), (PySem.Str.ofString "__class__", .free), (PySem.Str.ofString "super", .globalImplicit)], isGenerator := false, isCoroutine := false, more := [] }
/-- the statement is such an __init__ -/
def IsInit (st : Stmt) : Prop := ∃ p1 p2 txt q1 q2 q3 q4 q5 q6 r1 r2 r3 r4, L2.defArgs st = iA p1 p2 ∧ L2.defBody st = iB txt q1 q2 q3 q4 q5 q6 r1 r2 r3 r4 ∧ L2.defScope st = iS ∧
  ∀ env : Env, ∃ pl : Sem Bool, eval (.Call (.Attribute (.Call (.Name "super" q1) [] [] q2) "__init__" q3) [.Constant (.str txt) 0 q4] [] q5) env = (do
    let ov ← attributeBase (.Call (.Name "super" q1) [] [] q2) "__init__" env (eval (.Call (.Name "super" q1) [] [] q2) env)
    standAt q3.atName
    let (f, first) ← holding [ov] (getMethod ov "__init__" pl)
    callWith q5 f first (backTo q5 (starEach [.Constant (.str txt) 0 q4] env)) [])
/-- what the written part says of an error's class at C and of its __init__ at f -/
structure ErrTxt (prog : Program) (K : Frag) (C f : Addr) (st : Stmt) : Prop where
  tx : IsInit st
  cls : ∃ nm q N bs rs sn sub ab col dd k0 k1 k2 k3 k5, K.lookup C = some (excClassObj nm q C N bs (line rs) true sn sub ab col dd k0 k1 k2 k3 k5 "Exception.__new__") ∧ alongIn K "__init__" (line rs) = some (some (.builtin "Exception.__init__"))
  sa : findIn K (.ref C) "__setattr__" = some (some (.builtin "object.__setattr__"))
  noN : findIn K (.ref C) "at" = some none
  iC : findIn K (.ref C) "__init__" = some (some (.ref f))
  tC : typeIn K (.ref f) = some (.type "function")
  kC : keepIn K (.ref C) = true
  exC : subIn K (.ref C) (.type "BaseException") = some true
  exE : subIn K (.ref C) (.type "Exception") = some true
  self : mroIn K C (.ref C) = some true
  tyC : typeIn K (.ref C) = some (.type "type")
  tp : nsIn K cStatics "thirdparty.any" = some none
  fn : ∃ oc od doc pm an cda ct cc osl qual kV, K.lookup f = some ⟨oc, od, .func (ksFn "__init__" qual (L2.defArgs st) (L2.defBody st) (L2.defScope st) .none kV doc pm an (.ref cda) ct cc), osl⟩ ∧ codeIn K (.ref cda) qual = true ∧
    (∃ cl cld csl, K.lookup cc = some ⟨cl, cld, .cell (some (.ref C)), csl⟩) ∧ ∃ ccl cdd vs ccs file tf, K.lookup cda = some ⟨ccl, cdd, .fields vs, ccs⟩ ∧ vs[2]? = some (.str file tf) ∧ ((prog.main.file : Str) == file) = true
  top : (prog.main.scope.names.lookup ("super" : Str)).isSome = false
/-- what __init__ leaves of a new error at x -/
structure InitEnd (h h' : Heap) (x C dx : Addr) (v : Value) : Prop where
  keep : ∀ b o, b ≠ x → h.get? b = some o → h'.get? b = some o
  obj : ∃ t1, h'.get? x = some { cls := .ref C, dict := some dx, data := .fields #[.ref t1, .none, .none, .none, .bool false, .none] }
  dbig : h.objs.size ≤ dx
  dne : dx ≠ x
  ns : h'.Ns1 dx (fun y => if y = "at" then some v else none)
/-- a made error -/
structure Made (h h' : Heap) (e C d : Addr) (v : Value) : Prop where
  keep : ∀ b o, h.get? b = some o → h'.get? b = some o
  new : h.objs.size ≤ e
  obj : ∃ oe vs, h'.get? e = some oe ∧ oe.cls = .ref C ∧ oe.dict = some d ∧ oe.data = .fields vs ∧ vs[1]? = some .none
  dbig : h.objs.size ≤ d
  dne : d ≠ e
  ns : h'.Ns1 d (fun y => if y = "at" then some v else none)
section
variable {prog : Program} {w : World} {A : Around} {E : Value → Shared → Prop} {R : Result → Shared → Prop} {s : Shared} {K : Frag} {mg mb : Str → Option Value} {C f : Addr} {st : Stmt}
theorem one_size (v : Value) : [v].length ≤ sizeLine := by
  rw [sizeLine_eq]
  exact (by decide : 1 ≤ 16777216)
set_option maxHeartbeats 4000000 in
theorem err_init (T : ErrTxt prog K C f st) {x t0 : Addr} {v : Value} (X : K.In s.heap) (hlim : s.heap.NoLimit) (G : s.heap.Ns mainGlobals mg) (hs : mg "super" = none) (B : s.heap.Ns builtinsNs mb) (hb : mb "super" = bootBuiltins "super")
    (hx : s.heap.get? x = some (excO C t0)) (hnx : K.lookup x = none) (hroom : A.depth < recursionLimit)
    (hq : ∀ h' tk dx, InitEnd s.heap h' x C dx v → R (.ok (.ret .none)) { s with heap := h', toks := tk }) :
    codeAny (model prog w) A (.call (.ref f) ⟨[.ref x, v], []⟩) R s := by
  obtain ⟨oc, od, doc, pm, an, cda, ct, cc, osl, qual, kV, ho, hcd, ⟨cl, cld, csl, hcell⟩, ccl, cdd, vs, ccs, file, tf, hcode, hvs, hfile⟩ := T.fn
  obtain ⟨nm, q, N, bs, rs, sn, sub, ab, col, dd, k0, k1, k2, k3, k5, hC, hal⟩ := T.cls
  obtain ⟨p1, p2, txt, q1, q2, q3, q4, q5, q6, r1, r2, r3, r4, e1, e2, e3, he⟩ := T.tx
  rw [e1, e2, e3] at ho
  have hcl : clsIn K C = some { name := nm, bases := bs, mro := line (C :: rs), ns := N, qualname := q, hasDict := true, slotNames := sn, subclasses := sub, abstract := ab, collection := col, hasDel := false } := by unfold clsIn; rw [hC] <;> rfl
  have loc : ∀ y ∈ [(PySem.Str.ofString "self", Value.ref x), (PySem.Str.ofString "at", v)], iS.names.lookup y.1 = some .local := fun y hy => by
    rcases List.mem_cons.mp hy with rfl | hy
    · rfl
    · rw [List.mem_singleton.mp hy]
      rfl
  obtain ⟨hp, g, d, tk, os⟩ := s
  refine ks_codeAny_call_defAt (binds := [("self", .ref x), ("at", v)]) hroom (X _ _ ho) rfl hlim (codeRec_of X hcd) rfl (BindsTo.of_eq rfl) (show ∀ y ∈ iS.names, y.2 ≠ .cell by decide) loc (fun h1 ns k => ?_) rfl rfl rfl
  have X1 : K.In h1 := X.keeps k
  have hx1 := k _ _ hx
  have nx : x ≠ C := fun z => by rw [z, hC] at hnx; cases hnx
  have hC1 := X1 _ _ hC
  have I1 : InstAt h1 x (excO C t0) C none := ⟨hx1, rfl, rfl, trivial⟩
  obtain ⟨pl, he⟩ := he (callEnv (ksFn "__init__" qual (iA p1 p2) (iB txt q1 q2 q3 q4 q5 q6 r1 r2 r3 r4) iS .none kV doc pm an (.ref cda) ct cc) hp.objs.size f)
  refine ks_wpAt_execs_cons (ks_wpAt_Expr_any (ks_wpAt_MethodCall (pl := pl) (he := he) (ks_wpAt_super_base rfl rfl rfl rfl (X1 _ _ ho) rfl rfl rfl (X1 _ _ hcode) rfl hvs hfile T.top ?_)))
  refine ks_loadName_global rfl rfl (loadGlobal_builtin (G.keeps k) hs (B.keeps k) (hb.trans (by decide +kernel)) ⟨rfl, ?_⟩)
  refine wpAny_loadName_free rfl rfl rfl ⟨_, X1 _ _ hcell, rfl⟩ ?_
  refine wpAny_loadName_local rfl rfl ns rfl ?_
  refine ks_wpAny_isType_cls hC1 rfl ⟨rfl, ?_⟩
  refine ks_wpAny_call_super hC1 rfl hx1 rfl (fun c e => nomatch e) (looks_mroIn X1 T.self) fun h2 es k2 => ?_
  have X2 : K.In h2 := X1.keeps k2
  have I2 : InstAt h2 x (excO C t0) C none := ⟨k2 _ _ hx1, rfl, rfl, trivial⟩
  refine ESX.getMethod_super es (looks_opaque X2 T.tp) ((looks_clsIn X2 hcl).andThen .now) (ESX.drop_own C (line rs)) X2 hal nx rfl (I2.type.andThen (looks_subIn X2 T.exE)) ?_
  have X3 : K.In (h2.push (ESX.bw x)) := X2.keeps fun b o e => Heap.get?_push_of_some _ e
  refine ESX.callWith_bound (x := x) (e := .Constant (.str txt) 0 q4) (rest := []) ?_ rfl rfl
  show wpAny _ _ (spliced [(false, eval (.Constant (.str txt) 0 q4) _)]) _ _ _
  refine Calls.spliced_cons (Calls.Constant_str (k := 0) (pos := q4) (Calls.spliced_nil ⟨Heap.get?_push_size _ rfl, ?_⟩))
  refine ESX.call_bw (X3 _ _ hC) (Heap.get?_push_of_some _ (k2 _ _ hx1)) (Heap.get?_push_size _ rfl) (one_size _) fun h4 t1 k4 e4 => ?_
  have up : ∀ b o, b ≠ x → hp.get? b = some o → h4.get? b = some o := fun b o hb e => k4 b o hb (Heap.get?_push_of_some _ (k2 _ _ (k _ _ e)))
  have X4 : K.In h4 := fun a o e => k4 a o (fun z => by rw [z, hnx] at e; cases e) (X3 a o e)
  have hL : hp.objs.size ≠ x := Nat.ne_of_gt (Heap.lt_size hx)
  have ns4 := ns.at (h' := h4) fun o e => k4 _ o hL (Heap.get?_push_of_some _ (k2 _ _ e))
  show PySem.wpAt _ _ _ (execs [.Assign [.Attribute (.Name "self" r1) "at" r2] (.Name "at" r3) r4] (callEnv (ksFn "__init__" qual (iA p1 p2) (iB txt q1 q2 q3 q4 q5 q6 r1 r2 r3 r4) iS .none kV doc pm an (.ref cda) ct cc) hp.objs.size f)) _ _ _
  refine ks_wpAt_execs_cons (ks_wpAt_Assign_Attr (o := .Name "self" r1) (attr := "at") (value := .Name "at" r3) (wpAt_of_wpAny ?_) rfl)
  refine ESX.ldL (s := ⟨h4, g, d, _, os⟩) (env := callEnv (ksFn "__init__" qual (iA p1 p2) (iB txt q1 q2 q3 q4 q5 q6 r1 r2 r3 r4) iS .none kV doc pm an (.ref cda) ct cc) hp.objs.size f) (m := fun y => List.lookup y [(PySem.Str.ofString "self", Value.ref x), (PySem.Str.ofString "at", v)].reverse) (x := "at") (v := v) ns4 rfl ?_
  refine ESX.ldL (s := ⟨h4, g, d, _, os⟩) (env := callEnv (ksFn "__init__" qual (iA p1 p2) (iB txt q1 q2 q3 q4 q5 q6 r1 r2 r3 r4) iS .none kV doc pm an (.ref cda) ct cc) hp.objs.size f) (m := fun y => List.lookup y [(PySem.Str.ofString "self", Value.ref x), (PySem.Str.ofString "at", v)].reverse) (x := "self") (v := .ref x) ns4 rfl ?_
  refine set_plain X4 (ox := excO C t1) (od := none) ⟨e4, rfl, rfl, trivial⟩ T.sa ?_
  refine err_set X4 e4 hcl rfl rfl T.noN fun h5 tk5 dx k5 dn dne hx5 n5 => ?_
  show PySem.wpAt _ _ _ (execs _ _) _ _ _
  refine wpAt_of_wpAny (wpAny_execs_nil ?_)
  have sz : hp.objs.size < h4.objs.size := ns4.lt
  exact hq h5 tk5 dx ⟨fun b o hb e => k5 b o hb (up b o hb e), ⟨t1, hx5⟩, Nat.le_of_lt (Nat.lt_of_lt_of_le sz dn), dne, n5⟩
set_option maxHeartbeats 4000000 in
theorem err_made (T : ErrTxt prog K C f st) {v : Value} (X : K.In s.heap) (hlim : s.heap.NoLimit) (G : s.heap.Ns mainGlobals mg) (hs : mg "super" = none) (B : s.heap.Ns builtinsNs mb) (hb : mb "super" = bootBuiltins "super") (hroom : A.depth + 1 < recursionLimit)
    (hq : ∀ h' tk e d, Made s.heap h' e C d v → R (.ok (.ret (.ref e))) { s with heap := h', toks := tk }) :
    codeAny (model prog w) A (.call (.ref C) ⟨[v], []⟩) R s := by
  obtain ⟨nm, q, N, bs, rs, sn, sub, ab, col, dd, k0, k1, k2, k3, k5, hC, hal⟩ := T.cls
  obtain ⟨hp, g, dr, tk, os⟩ := s
  have k : ∀ b o, hp.get? b = some o → ((hp.push (kdv_tup [v])).push (excO C hp.objs.size)).get? b = some o := fun b o e => Heap.get?_push_of_some _ (Heap.get?_push_of_some _ e)
  have at_e : ((hp.push (kdv_tup [v])).push (excO C hp.objs.size)).get? (hp.objs.size + 1) = some (excO C hp.objs.size) := by heap_get
  have no_e : K.lookup (hp.objs.size + 1) = none := by
    cases e : K.lookup (hp.objs.size + 1) with
    | none => rfl
    | some o =>
      have z : hp.get? (hp.objs.size + 1) = some o := X _ _ e
      exact absurd (Nat.lt_of_succ_lt (Heap.lt_size z)) (Nat.lt_irrefl _)
  refine call_own F.excBase_Exception (fun Y => line_has Y rs) (X _ _ hC) (looks_findIn X T.iC) (fun self => bind_fn X self T.tC) (one_size v) ?_
  refine err_init (s := ⟨(hp.push (kdv_tup [v])).push (excO C hp.objs.size), g, dr, tk, os⟩) T (X.keeps k) (hlim.keeps k) (G.keeps k) hs (B.keeps k) hb at_e no_e hroom fun h' tk' dx M => ?_
  have old : ∀ b o, hp.get? b = some o → h'.get? b = some o := fun b o e => M.keep b o (Nat.ne_of_lt (Nat.lt_succ_of_lt (Heap.lt_size e))) (k b o e)
  have big : hp.objs.size + 1 + 1 ≤ dx := by
    have z := M.dbig
    simp only [Heap.size_push] at z
    exact z
  obtain ⟨t1, hx⟩ := M.obj
  exact ⟨rfl, hq h' tk' (hp.objs.size + 1) dx ⟨old, Nat.le_succ _, ⟨_, _, hx, rfl, rfl, rfl, rfl⟩, Nat.le_trans (Nat.le_trans (Nat.le_succ _) (Nat.le_succ _)) big, M.dne, M.ns⟩⟩
end
end Kx
namespace Kb
open PySem PySem.Spec PyProof.Rows L2
/-! ### raise C(v), C an error of the program's own -/
theorem relO_at {v : V} {u : Value} (r : RelV v u) (f : Str) : RelO (List.lookup f [(("at" : Str), v)]) (if f = "at" then some u else none) := by
  by_cases e : f = "at"
  · rw [e, if_pos rfl]
    exact r
  · have e2 : (f == ("at" : Str)) = false := beq_eq_false_iff_ne.mpr e
    rw [if_neg e, show List.lookup f [(("at" : Str), v)] = none by simp [List.lookup, e2]]
    trivial
/-- C(e) -/
def tErr (C : Addr) (ta : TA) : L2.St → Hp → XK → Prop := fun σ H Q => ta σ H fun vs H1 => ∃ v, vs = [v] ∧ ∀ d, H1 d = none → Q (.ref C) (some d) (upd H1 d (.xd [(("at" : Str), v)]))
section
variable {X : Cx} {P : Program} {K : PySem.W.Frag} {C f : Addr} {st : Stmt}
theorem pmk_err {a : Expr} {ta : TA} {x : Str} {p pos : Pos} {k : Nat} (hP : X.prog = P) (hK : X.K = K) (T : Kx.ErrTxt P K C f st) (hr : Room k X.A) (gC : X.mg x = some (.ref C)) (hs : X.mg "super" = none) (ha : PA X [a] ta) (hg : Gl X x) (hd : (x == ("__debug__" : Str)) = false := by decide)
    (he : starEach (a :: []) X.env = (false, eval a X.env) :: starEach [] X.env := by rfl) (hpl : (backTo pos (starEach [] X.env)).any (·.1) = false := by rfl) :
    PMk X (.Call (.Name x p) [a] [] pos) (tErr C ta) := by
  subst hP hK
  intro pins s σ H Q I h
  refine wpAny_Call_Name_kw (ld_glob I hg gC ?_ hd)
  refine PySem.W.callWith_K (h₀ := X.base) I.ok.mod.kin T.kC (thn (ha.run pos pins s σ H _ I h) fun us s1 hh => ?_) he hpl
  obtain ⟨vs, H1, I1, r1, v, ev, q1⟩ := hh
  subst ev
  refine ⟨I1.kIn, ?_⟩
  cases r1 with
  | cons rv rn =>
    rename_i u us
    cases rn
    show wpAny _ _ (call (.ref C) [u]) _ _ _
    obtain ⟨mb, hb1, hb2⟩ := I1.mod.blt
    obtain ⟨hp, g, dr, tk, os⟩ := s1
    refine wpAny_call (Kx.err_made T I1.kIn I1.nolimit (I1.mod.glob.keeps I1.bk) hs (hb1.keeps I1.bk) (hb2 _ (by decide)) (by have := hr.dp; omega) fun h' tk' e d M => ?_)
    show MkP X pins σ Q (.ref e) ⟨h', g, dr, tk', os⟩
    obtain ⟨oe, fv, hoe, hc, hd2, hdat, h1⟩ := M.obj
    obtain ⟨G, g1, g2⟩ := restrict h' fun b => decide (b ≠ e)
    have gk : ∀ b, b ≠ e → G.get? b = h'.get? b := fun b hb => g1 b (decide_eq_true hb)
    have ge : G.get? e = none := g2 e (by simp)
    have old : ∀ b o, hp.get? b = some o → G.get? b = some o := fun b o q => (gk b (Nat.ne_of_lt (Nat.lt_of_lt_of_le (Heap.lt_size q) M.new))).trans (M.keep b o q)
    have ob : ObjOk X.prog X.w (upd H1 d (.xd [(("at" : Str), v)])) G d (.xd [(("at" : Str), v)]) := ⟨_, M.ns.at (fun o q => (gk d M.dne).trans q), fun f => relO_at rv f⟩
    have J : Inv X pins σ (upd H1 d (.xd [(("at" : Str), v)])) ⟨G, g, dr, tk', os⟩ := I1.laid (t' := tk') old M.dbig ob
    refine ⟨e, oe, fv, ⟨G, g, dr, tk', os⟩, _, .ref C, some d, rfl, J, fun b o q => ?_, ge, hoe, ⟨hc, hd2⟩, hdat, h1, ?_, rfl, I1.bare, raises_own T.exC T.tyC, q1 d (I1.hok.fresh M.dbig)⟩
    · by_cases hb : b = e
      · have q2 : G.get? b = some o := q
        rw [hb, ge] at q2
        cases q2
      · exact (gk b hb).symm.trans q
    · rw [upd_ne (Ne.symm M.dne)]
      exact I1.hok.fresh M.new
/-- raise C(e) -/
def tRaise (C : Addr) (W : WX) (ta : TA) : TS := fun _ σ H => tErr C ta σ H fun cls d H' => W cls d σ H'
theorem ps_raiseE {a : Expr} {ta : TA} {W : WX} {x : Str} {p pos pos2 : Pos} {k : Nat} (hc : X.calm = true) (hP : X.prog = P) (hK : X.K = K) (T : Kx.ErrTxt P K C f st) (hr : Room k X.A) (gC : X.mg x = some (.ref C)) (hs : X.mg "super" = none) (tk : Takes X W) (ha : PA X [a] ta) (hg : Gl X x)
    (hd : (x == ("__debug__" : Str)) = false := by decide) (he : starEach (a :: []) X.env = (false, eval a X.env) :: starEach [] X.env := by rfl) (hpl : (backTo pos (starEach [] X.env)).any (·.1) = false := by rfl) :
    PS X (.Raise (some (.Call (.Name x p) [a] [] pos)) none pos2) (tRaise C W ta) := ps_raise hc tk (pmk_err hP hK T hr gC hs ha hg hd he hpl)
end
end Kb
namespace Kb
open PySem PySem.Spec PyProof.Rows L2
/-! ### try: .. except C1 as e: .. except C2 as e: .. -/
/-- the ends of a suite behind which the name in slot i is gone -/
def gone (i : Nat) (D : Ends) : Ends := { nx := fun σ H => D.nx (σ.set i none) H, rt := D.rt, bk := fun σ H => D.bk (σ.set i none) H, ct := fun σ H => D.ct (σ.set i none) H }
abbrev Clause := Value × (Addr → Value → Option Addr → TS)
/-- what the clauses wish of an exception, one after the other -/
def wClauses (K : PySem.W.Frag) (i : Nat) (Wout : WX) (D : Ends) : List Clause → WX
  | [] => Wout
  | (c, ts) :: r => fun cls d σ H => ∃ b, PySem.W.exmOne K cls c = some b ∧ (b = true → ∀ a, H a = none → ts a cls d (gone i D) (σ.set i (some (.ref a))) H) ∧ (b = false → wClauses K i Wout D r cls d σ H)
inductive ClOk (X : Cx) (n : Str) : List ExceptHandler → List Clause → Prop
  | nil : ClOk X n [] []
  | cons {x : Str} {c : Value} {ts : Addr → Value → Option Addr → TS} {st : Stmt} {sts : List Stmt} {q1 q2 : Pos} {hs : List ExceptHandler} {l : List Clause} (nm : Names X x c)
      (su : ∀ (a : Addr) (oe : Obj) (cls : Value) (d : Option Addr) (pn : List (Addr × Obj)), Zc cls d oe → (∃ vs, oe.data = .fields vs) → PSs (X.suite a ((a, oe) :: pn)) (st :: sts) (ts a cls d)) (r : ClOk X n hs l) :
      ClOk X n (.ExceptHandler (some (.Name x q1)) (some n) (st :: sts) q2 :: hs) ((c, ts) :: l)
section
variable {X : Cx} {n : Str} {i : Nat} {body : List Stmt} {h0 : ExceptHandler} {hs : List ExceptHandler} {l : List Clause} {pos : Pos} {tb : WX → TS} {Wout : WX}
theorem ps_try_clauses (hst : X.stack = X.env :: X.outer) (hf : X.env.frame = some X.env.locals) (hN : X.N.Nodup) (hi : X.N[i]? = some n) (hl : X.env.kindOf n = some .local) (tk : Takes X Wout)
    (hb : ∀ (W : WX) (pn : List (Addr × Obj)) (xe : Value → Shared → Prop), Takes (X.tr pn xe) W → PassesOwn (model X.prog X.w) X.A X.env xe → PSs (X.tr pn xe) body (tb W))
    (hc : ClOk X n (h0 :: hs) l) : PS X (.Try body (h0 :: hs) [] [] pos) (fun D σ H => tb (wClauses X.K i Wout D l) D σ H) := by
  constructor
  intro pp s0 sg H D I hw
  have ok := I.ok
  have frames : X.A.frames = some (X.env :: X.outer) := by rw [ok.frames, hst]
  refine wpAny_Try_except ?_
  refine wpAny_mono ((hb (wClauses X.K i Wout D l) (X.pn ++ pp) (fun e z => wpAny (model X.prog X.w) X.A (noteFrame e X.env) (fun _ z => wpAny (model X.prog X.w) X.A (setFlight e none) (fun _ z =>
    wpAny (model X.prog X.w) X.A (handleBy e X.env (h0 :: hs)) (SP X pp D) X.xe z) X.xe z) X.xe z) (fun u z xx => ?_) PassesOwn.looking).run [] s0 sg H D (I.toTry _) hw) (fun f z hsp => ?_) (fun _ _ he => he)
  · obtain ⟨a, B, sI, pp', sg', H', cls, d, rfl, J', nb, up, sky, na, eos, ag, w⟩ := xx
    have J : Inv X pp sg' H' sI := J'.ofTry ok
    have sky2 : Sky B (X.env :: X.outer) a (Zc cls d) X.env.locals z.heap := by rw [← hst]; exact sky
    show wpAny (model X.prog X.w) X.A (noteFrame (.ref a) X.env) _ _ _
    refine Sky.land Zc.steady frames hf sky2 fun h3 fl3 up3 => ?_
    have J3 : Inv X pp sg' H' { z with heap := h3 } := J.landed nb fl3.1 (up.trans up3) eos ag
    obtain ⟨oe3, vs3, e3, z3, d3⟩ := fl3.there
    have away : a ∉ frs (X.env :: X.outer) := fun hm => by
      obtain ⟨_, o', e', hnf⟩ := fl3.2.2.1.mem hm
      rw [e3] at e'
      cases e'
      exact hnf _ d3
    have nL : a ≠ X.env.locals := fun y => away (List.mem_filterMap.mpr ⟨X.env, List.mem_cons_self, by rw [hf, y]⟩)
    have nF : a ∉ X.fs := fun hm => by
      obtain ⟨e, he, q⟩ := List.mem_filterMap.mp hm
      exact away (List.mem_filterMap.mpr ⟨e, List.mem_cons_of_mem _ he, q⟩)
    have S3 := J3.suite e3 d3 na nL nF
    have go : ∀ {hs' : List ExceptHandler} {l' : List Clause}, ClOk X n hs' l' → wClauses X.K i Wout D l' cls d sg' H' → wpAny (model X.prog X.w) X.A (handleBy (.ref a) X.env hs') (SP X pp D) X.xe { z with heap := h3 } := by
      intro hs' l' hk
      induction hk with
      | nil =>
        intro w
        refine wpAny_handleBy_nil ?_
        obtain ⟨k1, k2, k3, oe, vs, T, oT, ts', he, hz, hd, h1, hr⟩ := id fl3
        unfold PySem.passOn
        refine wpAny_bind (wpAny_field he hd h1 ?_)
        rw [if_neg (by simp)]
        have fin : wpAny (model X.prog X.w) X.A (setFlight (.ref a) X.env.frame) (fun _ y => wpAny (model X.prog X.w) X.A (throw (.ref a) : Sem Flow) (SP X pp D) X.xe y) X.xe { z with heap := h3 } := by
          rw [hf]
          refine HandSPX.setFlight_upZ fl3 fun h4 hh4 up4 => wpAny_throw (tk _ _ ?_)
          exact ⟨a, B, sI, pp, sg', H', cls, d, rfl, J, nb, (up.trans up3).trans up4, .inr (.inr (by rw [hst]; exact hh4)), na, eos, ag, w⟩
        first
          | exact wpAny_bind (wpAny_pure (wpAny_bind fin))
          | exact wpAny_bind fin
      | @cons x c ts st sts q1 q2 hs2 l2 nm su r ih =>
        intro w
        obtain ⟨b, hb1, yes, no⟩ := w
        refine wpAny_handleBy_cons (codeAny_handlers_test ?_) (by intro q; cases q)
        have lt : PySem.W.Looks (model X.prog X.w) h3 (typeOf (.ref a)) cls := fun A Q E s k q => wpAny_typeOf_ref (k _ _ e3) (by rw [z3.1]; exact q)
        have lm := PySem.W.exm_one (M := model X.prog X.w) J3.kIn lt hb1
        have test : ∀ {Q : Value → Shared → Prop} {E : Value → Shared → Prop}, Q c { z with heap := h3 } → wpAny (model X.prog X.w) (X.A.mark (some (.ref a))) (eval (.Name x q1) X.env) Q E { z with heap := h3 } := fun {Q E} q => by
          obtain ⟨hg, hdbg, hm | ⟨hm, hv, hnn⟩⟩ := nm
          · exact ld_glob (X := X.suite a ((a, oe3) :: (X.pn ++ pp))) S3 hg hm q hdbg
          · exact ld_blt (X := X.suite a ((a, oe3) :: (X.pn ++ pp))) S3 hg hm hv q hnn hdbg
        refine test (lm.here ?_)
        cases b with
        | true =>
          refine codeAny_handlers_suite_as ?_
          refine HandSPX.lands_againZ fl3 fun h4 fl4 up4 => ?_
          have J4 : Inv X pp sg' H' { z with heap := h4 } := J.landed nb fl4.1 ((up.trans up3).trans up4) eos ag
          obtain ⟨oe4, vs4, e4, z4, d4⟩ := fl4.there
          have S4 := J4.suite e4 d4 na nL nF
          refine store_ok (X := X.suite a ((a, oe4) :: (X.pn ++ pp))) (v := .ref a) S4 hN hi (.inl hl) rfl (fun s5 S5 => ?_) (.inr hl)
          refine wpAny_mono ((su a oe4 cls d (X.pn ++ pp) z4 ⟨_, d4⟩).run [] s5 _ H' _ S5 (yes rfl a na)) (fun f s6 hsp => ?_) (fun _ _ y => False.elim y)
          have bye : ∀ {σ6 : L2.St} {H6 : Hp} {Q : Shared → Prop}, Inv (X.suite a ((a, oe4) :: (X.pn ++ pp))) [] σ6 H6 s6 → (∀ s7, Inv X pp (σ6.set i none) H6 s7 → Q s7) →
              wpAny (model X.prog X.w) X.A (do bindName X.env n .none; unbindBehindTheSuite X.env n q2) (fun _ s7 => Q s7) X.xe s6 := fun S6 hq => gone_ok (S6.unsuite ok) hN hi hl hq
          cases f with
          | ret u =>
            obtain ⟨v6, σ6, H6, S6, r6, q6⟩ := hsp
            exact bye S6 fun s7 J7 => ⟨_, _, _, J7, r6, q6⟩
          | _ =>
            obtain ⟨σ6, H6, S6, q6⟩ := hsp
            exact bye S6 fun s7 J7 => ⟨_, _, J7, q6⟩
        | false =>
          show wpAny _ X.A (handleBy (.ref a) X.env hs2) _ _ _
          exact ih (no rfl)
    exact go hc w
  · cases f with
    | next =>
      obtain ⟨σ', H', J', q⟩ := hsp
      exact wpAny_execs_nil ⟨σ', H', J'.ofTry ok, q⟩
    | ret u =>
      obtain ⟨v, σ', H', J', r, q⟩ := hsp
      exact ⟨v, σ', H', J'.ofTry ok, r, q⟩
    | _ =>
      obtain ⟨σ', H', J', q⟩ := hsp
      exact ⟨σ', H', J'.ofTry ok, q⟩
end
end Kb
namespace Kb
open PySem PySem.Spec PyProof.Rows L2
/-! ### what a handed lambda's call may raise, told by the clauses of the def that calls it -/
theorem takes_len {X : Cx} {W : WX} (tk : Takes X W) : Takes X (fun cls d σ H => σ.length = X.N.length → W cls d σ H) := fun u s' ⟨a, B, sI, pins, σ, H, cls, d, e, I, nb, up, sky, na, os, ag, w⟩ =>
  tk u s' ⟨a, B, sI, pins, σ, H, cls, d, e, I, nb, up, sky, na, os, ag, w I.len⟩
/-- the answers of «except C as e: return (name, e.at)», one after the other -/
def wErrs (K : PySem.W.Frag) (Q : VK) : List (Addr × Str) → XK
  | [] => fun _ _ _ => False
  | (C, nm) :: r => fun cls d H => ∃ b, PySem.W.exmOne K cls (.ref C) = some b ∧ (b = true → cls = .ref C ∧ ∃ dd fs v, d = some dd ∧ H dd = some (.xd fs) ∧ List.lookup ("at" : Str) fs = some v ∧ ∀ p, H p = none → Q (.ref p) (upd H p (.tup [.str nm, v]))) ∧
    (b = false → wErrs K Q r cls d H)
/-- try: call() / except ..: .. / return ("told",) -/
def TTe (K : PySem.W.Frag) (l : List (Addr × Str)) : (XK → Hp → VK → Prop) → Hp → VK → Prop := fun tl H Q => tl (wErrs K Q l) H fun _ H1 => [V.str (Str.ofString "told")].length ≤ sizeLine ∧ ∀ p, H1 p = none → Q (.ref p) (upd H1 p (.tup [.str (Str.ofString "told")]))
/-- what a class's clause wants of the written part -/
structure Told (K : PySem.W.Frag) (mg : Str → Option Value) (C : Addr) (x : Str) : Prop where
  xf : XfC K C
  no : PySem.W.findIn K (.ref C) "at" = some none
  g : mg x = some (.ref C)
/-- the reading of a clause -/
def tsErr (C : Addr) (i : Nat) (nm : Str) : Addr → Value → Option Addr → TS := fun a cls d => tRet (tTup (tCons (tC (.str nm)) (tCons (tXf a cls d C "at" (tVar i)) tNil)))
def clauses (i : Nat) (l : List (Addr × Str)) : List Clause := l.map fun c => (Value.ref c.1, tsErr c.1 i c.2)
theorem wErrs_clauses {K : PySem.W.Frag} {i : Nat} {D : Ends} {Q : VK} (hQ : D.rt = Q) : ∀ {l : List (Addr × Str)} {cls : Value} {d : Option Addr} {H : Hp} {σ : L2.St}, i < σ.length → wErrs K Q l cls d H → wClauses K i (fun _ _ _ _ => False) D (clauses i l) cls d σ H
  | [], _, _, _, _, _, h => h
  | (C, nm) :: r, cls, d, H, σ, hi, h => by
    obtain ⟨b, e, y, n⟩ := h
    refine ⟨b, e, fun hb a ha => ?_, fun hb => wErrs_clauses hQ hi (n hb)⟩
    obtain ⟨rfl, dd, fs, v, rfl, e1, e2, q⟩ := y hb
    have ei : (σ.set i (some (V.ref a)))[i]? = some (some (V.ref a)) := by rw [List.getElem?_set_self hi]
    show tRet (tTup _) (gone i D) _ H
    refine ⟨_, ei, rfl, rfl, dd, fs, v, rfl, e1, e2, ?_⟩
    refine ⟨(by rw [sizeLine_eq]; decide : 2 ≤ sizeLine), fun p hp => ?_⟩
    show D.rt _ _
    rw [hQ]
    exact q p hp
theorem err_gives {X : Cx} {a x e q : Str} {sg : Scope} {g : Addr} {cdg : Value} {l : List (Addr × Str)} {hds : List ExceptHandler} {h0 : ExceptHandler} {j k : Nat} {p1 p2 p3 p4 p5 p6 p7 : Pos} (nd : ([a, e] : List Str).Nodup) (hl : sg.names.lookup e = some .local)
    (hc : ∀ (s : Shared) (H : Hp), ClOk (cxOf C8.CX0 X.prog X.w X.K X.mg X.base [a, e] x sg g cdg X.A X.stack s H C8.E0).nox e (h0 :: hds) (clauses 1 l)) :
    LamX.GivesTo X [a, e] x sg g cdg [.Try [.Expr (.Call (.Name a p1) [] [] p2) p3] (h0 :: hds) [] [] p4, .Return (some (.Tuple [.Constant (.str (Str.ofString "told")) j p5] k p6)) p7] a q (TTe X.K l) := by
  intro f c' s H Q tl act hc' h
  refine ⟨_, pss_cons (ps_try_clauses (X := (cxOf C8.CX0 X.prog X.w X.K X.mg X.base [a, e] x sg g cdg X.A X.stack s H C8.E0).nox) (i := 1) (n := e) (l := clauses 1 l) (Wout := fun _ _ _ _ => False)
      (tb := fun W D σ H => ∃ Ech : XK, (∀ cls d σ' H', σ'.length = 2 → Ech cls d H' → W cls d σ' H') ∧ σ[0]? = some (some (.ref f)) ∧ H c' = some (LamX.CodeO c' q) ∧ tl Ech H (fun _ H1 => D.nx σ H1))
      rfl rfl nd rfl hl LamX.takes0 (fun W pn xe tk _ => ?_) (hc s H)) (pss_one (ps_ret (pe_tup (pa_cons pe_str pa_nil)))), ?_⟩
  · refine ⟨fun pins s' σ H' D I h' => ?_⟩
    obtain ⟨Ech, hW, h1, h2, h3⟩ := h'
    have hp := act (fun cls d σ H => σ.length = 2 → W cls d σ H) pn xe Ech p1 p2 (takes_len tk) fun cls d σ' H' ec hl => hW cls d σ' H' hl ec
    exact (pss_one (ps_expr (pos := p3) hp)).run pins s' σ H' D I ⟨h1, h2, h3⟩
  · exact ⟨wErrs X.K Q l, fun cls d σ' H' hl ec => wErrs_clauses rfl (by rw [hl]; decide) ec, rfl, hc', h⟩
end Kb
namespace Kr
open PySem PySem.Spec PyProof.Rows L2 Kb
def topS (i : Nat) : Stmt := PySem.Challenge.pw_keyrules_k04_rows_and_where_they_end.main.body.getD i (.Pass ⟨0, 0, 0, 0⟩)
abbrev s_InvalidKeys___init__ : Stmt := inClass (topS 4) 0
abbrev s_InvalidRow___init__ : Stmt := inClass (topS 5) 0
abbrev s_is_integer : Stmt := topS 7
abbrev s_is_below : Stmt := topS 8
abbrev s_is_between : Stmt := topS 9
abbrev s_is_sequence : Stmt := topS 10
abbrev s_is_row : Stmt := topS 11
abbrev s_is_text : Stmt := topS 12
abbrev s_lot_of : Stmt := topS 13
abbrev s_Keys___init__ : Stmt := inClass (topS 16) 0
abbrev s_need_count : Stmt := topS 17
abbrev s_told_clashes : Stmt := topS 18
abbrev s_need_keys : Stmt := topS 19
abbrev s_plain_keys : Stmt := topS 20
abbrev s_is_step : Stmt := topS 24
abbrev s_can_do : Stmt := topS 25
abbrev s_held_behind : Stmt := topS 26
abbrev s_had_behind : Stmt := topS 27
abbrev s_walk_row : Stmt := topS 28
abbrev s_row_ends : Stmt := topS 29
abbrev s__law_box : Stmt := topS 31
abbrev s__law_take : Stmt := topS 32
abbrev s__law_pick : Stmt := topS 33
abbrev s__law_mixed : Stmt := topS 34
abbrev s__law_is : Stmt := topS 35
abbrev s__law_lists : Stmt := topS 36
abbrev s__law_error : Stmt := topS 37
abbrev s__law_lot : Stmt := topS 38
abbrev s__law_graph : Stmt := topS 39
abbrev s_law : Stmt := topS 40
theorem sc_is_integer : FnScope ["value"] ["value"] (defScope s_is_integer) := ⟨rfl, rfl, rfl, by decide +kernel, rfl, by decide +kernel, by decide +kernel⟩
theorem sc_is_below : FnScope ["value", "limit"] ["value", "limit"] (defScope s_is_below) := ⟨rfl, rfl, rfl, by decide +kernel, rfl, by decide +kernel, by decide +kernel⟩
theorem sc_is_between : FnScope ["value", "least", "greatest"] ["value", "least", "greatest"] (defScope s_is_between) := ⟨rfl, rfl, rfl, by decide +kernel, rfl, by decide +kernel, by decide +kernel⟩
theorem sc_is_sequence : FnScope ["value"] ["value"] (defScope s_is_sequence) := ⟨rfl, rfl, rfl, by decide +kernel, rfl, by decide +kernel, by decide +kernel⟩
theorem sc_is_row : FnScope ["value", "many"] ["value", "many"] (defScope s_is_row) := ⟨rfl, rfl, rfl, by decide +kernel, rfl, by decide +kernel, by decide +kernel⟩
theorem sc_is_text : FnScope ["value", "words"] ["value", "words"] (defScope s_is_text) := ⟨rfl, rfl, rfl, by decide +kernel, rfl, by decide +kernel, by decide +kernel⟩
theorem sc_lot_of : FnScope ["mask", "key"] ["mask"] (defScope s_lot_of) := ⟨rfl, rfl, rfl, by decide +kernel, rfl, by decide +kernel, by decide +kernel⟩
theorem sc_Keys___init__ : FnScope ["self", "many", "clashes"] ["self", "many", "clashes"] (defScope s_Keys___init__) := ⟨rfl, rfl, rfl, by decide +kernel, rfl, by decide +kernel, by decide +kernel⟩
theorem sc_need_count : FnScope ["value", "least", "greatest"] ["value", "least", "greatest"] (defScope s_need_count) := ⟨rfl, rfl, rfl, by decide +kernel, rfl, by decide +kernel, by decide +kernel⟩
theorem sc_told_clashes : FnScope ["value", "many", "seen", "at", "pair"] ["value", "many"] (defScope s_told_clashes) := ⟨rfl, rfl, rfl, by decide +kernel, rfl, by decide +kernel, by decide +kernel⟩
theorem sc_need_keys : FnScope ["value"] ["value"] (defScope s_need_keys) := ⟨rfl, rfl, rfl, by decide +kernel, rfl, by decide +kernel, by decide +kernel⟩
theorem sc_plain_keys : FnScope ["many", "key"] ["many"] (defScope s_plain_keys) := ⟨rfl, rfl, rfl, by decide +kernel, rfl, by decide +kernel, by decide +kernel⟩
theorem sc_is_step : FnScope ["value", "many"] ["value", "many"] (defScope s_is_step) := ⟨rfl, rfl, rfl, by decide +kernel, rfl, by decide +kernel, by decide +kernel⟩
theorem sc_can_do : FnScope ["held", "what", "key"] ["held", "what", "key"] (defScope s_can_do) := ⟨rfl, rfl, rfl, by decide +kernel, rfl, by decide +kernel, by decide +kernel⟩
theorem sc_held_behind : FnScope ["held", "key"] ["held", "key"] (defScope s_held_behind) := ⟨rfl, rfl, rfl, by decide +kernel, rfl, by decide +kernel, by decide +kernel⟩
theorem sc_had_behind : FnScope ["had", "what", "key"] ["had", "what", "key"] (defScope s_had_behind) := ⟨rfl, rfl, rfl, by decide +kernel, rfl, by decide +kernel, by decide +kernel⟩
theorem sc_walk_row : FnScope ["value", "many", "held", "had", "at", "step"] ["value", "many"] (defScope s_walk_row) := ⟨rfl, rfl, rfl, by decide +kernel, rfl, by decide +kernel, by decide +kernel⟩
theorem sc_row_ends : FnScope ["keys", "row", "wrong", "held", "had"] ["keys", "row"] (defScope s_row_ends) := ⟨rfl, rfl, rfl, by decide +kernel, rfl, by decide +kernel, by decide +kernel⟩
theorem sc__law_box : FnScope ["script", "rest", "state", "k", "cell", "size"] ["script"] (defScope s__law_box) := ⟨rfl, rfl, rfl, by decide +kernel, rfl, by decide +kernel, by decide +kernel⟩
theorem sc__law_take : FnScope ["box", "many", "cell"] ["box", "many"] (defScope s__law_take) := ⟨rfl, rfl, rfl, by decide +kernel, rfl, by decide +kernel, by decide +kernel⟩
theorem sc__law_pick : FnScope ["box", "some"] ["box", "some"] (defScope s__law_pick) := ⟨rfl, rfl, rfl, by decide +kernel, rfl, by decide +kernel, by decide +kernel⟩
theorem sc__law_mixed : FnScope ["box", "row", "left", "told", "turn", "at"] ["box", "row"] (defScope s__law_mixed) := ⟨rfl, rfl, rfl, by decide +kernel, rfl, by decide +kernel, by decide +kernel⟩
theorem sc__law_is : FnScope ["told", "due", "one", "other"] ["told", "due"] (defScope s__law_is) := ⟨rfl, rfl, rfl, by decide +kernel, rfl, by decide +kernel, by decide +kernel⟩
theorem sc__law_lists : FnScope ["value", "part"] ["value"] (defScope s__law_lists) := ⟨rfl, rfl, rfl, by decide +kernel, rfl, by decide +kernel, by decide +kernel⟩
theorem sc__law_error : FnScope ["call", "e"] ["call"] (defScope s__law_error) := ⟨rfl, rfl, rfl, by decide +kernel, rfl, by decide +kernel, by decide +kernel⟩
theorem sc__law_lot : FnScope ["mask", "key"] ["mask"] (defScope s__law_lot) := ⟨rfl, rfl, rfl, by decide +kernel, rfl, by decide +kernel, by decide +kernel⟩
theorem sc__law_graph : FnScope ["box", "many", "side", "told", "one", "other", "chance", "hit"] ["box", "many"] (defScope s__law_graph) := ⟨rfl, rfl, rfl, by decide +kernel, rfl, by decide +kernel, by decide +kernel⟩
theorem sc_law : FnScope ["script", "box", "turn", "many", "keys", "steps", "held", "had", "size", "step", "key", "due", "row", "free", "full", "wrong", "bad", "behind"] ["script"] (defScope s_law) := ⟨rfl, rfl, rfl, by decide +kernel, rfl, by decide +kernel, by decide +kernel⟩
structure Tx (P : Program) (K : PySem.W.Frag) (mg : Str → Option Value) where
  a_InvalidKeys___init__ : Addr
  a_InvalidRow___init__ : Addr
  a_is_integer : Addr
  d_is_integer : FuncData
  F_is_integer : Fun K "is_integer" "is_integer" s_is_integer a_is_integer d_is_integer
  g_is_integer : mg "is_integer" = some (.ref a_is_integer)
  b_is_integer : Binds K d_is_integer ["value"] []
  a_is_below : Addr
  d_is_below : FuncData
  F_is_below : Fun K "is_below" "is_below" s_is_below a_is_below d_is_below
  g_is_below : mg "is_below" = some (.ref a_is_below)
  b_is_below : Binds K d_is_below ["value", "limit"] []
  a_is_between : Addr
  d_is_between : FuncData
  F_is_between : Fun K "is_between" "is_between" s_is_between a_is_between d_is_between
  g_is_between : mg "is_between" = some (.ref a_is_between)
  b_is_between : Binds K d_is_between ["value", "least", "greatest"] []
  a_is_sequence : Addr
  d_is_sequence : FuncData
  F_is_sequence : Fun K "is_sequence" "is_sequence" s_is_sequence a_is_sequence d_is_sequence
  g_is_sequence : mg "is_sequence" = some (.ref a_is_sequence)
  b_is_sequence : Binds K d_is_sequence ["value"] []
  a_is_row : Addr
  d_is_row : FuncData
  F_is_row : Fun K "is_row" "is_row" s_is_row a_is_row d_is_row
  g_is_row : mg "is_row" = some (.ref a_is_row)
  b_is_row : Binds K d_is_row ["value", "many"] []
  a_is_text : Addr
  d_is_text : FuncData
  F_is_text : Fun K "is_text" "is_text" s_is_text a_is_text d_is_text
  g_is_text : mg "is_text" = some (.ref a_is_text)
  b_is_text : Binds K d_is_text ["value", "words"] []
  a_lot_of : Addr
  d_lot_of : FuncData
  F_lot_of : Fun K "lot_of" "lot_of" s_lot_of a_lot_of d_lot_of
  g_lot_of : mg "lot_of" = some (.ref a_lot_of)
  b_lot_of : Binds K d_lot_of ["mask"] []
  a_Keys___init__ : Addr
  d_Keys___init__ : FuncData
  F_Keys___init__ : Fun K "__init__" "Keys.__init__" s_Keys___init__ a_Keys___init__ d_Keys___init__
  b_Keys___init__ : Binds K d_Keys___init__ ["self", "many", "clashes"] []
  a_need_count : Addr
  d_need_count : FuncData
  F_need_count : Fun K "need_count" "need_count" s_need_count a_need_count d_need_count
  g_need_count : mg "need_count" = some (.ref a_need_count)
  b_need_count : Binds K d_need_count ["value", "least", "greatest"] []
  a_told_clashes : Addr
  d_told_clashes : FuncData
  F_told_clashes : Fun K "told_clashes" "told_clashes" s_told_clashes a_told_clashes d_told_clashes
  g_told_clashes : mg "told_clashes" = some (.ref a_told_clashes)
  b_told_clashes : Binds K d_told_clashes ["value", "many"] []
  a_need_keys : Addr
  d_need_keys : FuncData
  F_need_keys : Fun K "need_keys" "need_keys" s_need_keys a_need_keys d_need_keys
  g_need_keys : mg "need_keys" = some (.ref a_need_keys)
  b_need_keys : Binds K d_need_keys ["value"] []
  a_plain_keys : Addr
  d_plain_keys : FuncData
  F_plain_keys : Fun K "plain_keys" "plain_keys" s_plain_keys a_plain_keys d_plain_keys
  g_plain_keys : mg "plain_keys" = some (.ref a_plain_keys)
  b_plain_keys : Binds K d_plain_keys ["many"] []
  a_is_step : Addr
  d_is_step : FuncData
  F_is_step : Fun K "is_step" "is_step" s_is_step a_is_step d_is_step
  g_is_step : mg "is_step" = some (.ref a_is_step)
  b_is_step : Binds K d_is_step ["value", "many"] []
  a_can_do : Addr
  d_can_do : FuncData
  F_can_do : Fun K "can_do" "can_do" s_can_do a_can_do d_can_do
  g_can_do : mg "can_do" = some (.ref a_can_do)
  b_can_do : Binds K d_can_do ["held", "what", "key"] []
  a_held_behind : Addr
  d_held_behind : FuncData
  F_held_behind : Fun K "held_behind" "held_behind" s_held_behind a_held_behind d_held_behind
  g_held_behind : mg "held_behind" = some (.ref a_held_behind)
  b_held_behind : Binds K d_held_behind ["held", "key"] []
  a_had_behind : Addr
  d_had_behind : FuncData
  F_had_behind : Fun K "had_behind" "had_behind" s_had_behind a_had_behind d_had_behind
  g_had_behind : mg "had_behind" = some (.ref a_had_behind)
  b_had_behind : Binds K d_had_behind ["had", "what", "key"] []
  a_walk_row : Addr
  d_walk_row : FuncData
  F_walk_row : Fun K "walk_row" "walk_row" s_walk_row a_walk_row d_walk_row
  g_walk_row : mg "walk_row" = some (.ref a_walk_row)
  b_walk_row : Binds K d_walk_row ["value", "many"] []
  a_row_ends : Addr
  d_row_ends : FuncData
  F_row_ends : Fun K "row_ends" "row_ends" s_row_ends a_row_ends d_row_ends
  g_row_ends : mg "row_ends" = some (.ref a_row_ends)
  b_row_ends : Binds K d_row_ends ["keys", "row"] []
  a__law_box : Addr
  d__law_box : FuncData
  F__law_box : Fun K "_law_box" "_law_box" s__law_box a__law_box d__law_box
  g__law_box : mg "_law_box" = some (.ref a__law_box)
  b__law_box : Binds K d__law_box ["script"] []
  a__law_take : Addr
  d__law_take : FuncData
  F__law_take : Fun K "_law_take" "_law_take" s__law_take a__law_take d__law_take
  g__law_take : mg "_law_take" = some (.ref a__law_take)
  b__law_take : Binds K d__law_take ["box", "many"] []
  a__law_pick : Addr
  d__law_pick : FuncData
  F__law_pick : Fun K "_law_pick" "_law_pick" s__law_pick a__law_pick d__law_pick
  g__law_pick : mg "_law_pick" = some (.ref a__law_pick)
  b__law_pick : Binds K d__law_pick ["box", "some"] []
  a__law_mixed : Addr
  d__law_mixed : FuncData
  F__law_mixed : Fun K "_law_mixed" "_law_mixed" s__law_mixed a__law_mixed d__law_mixed
  g__law_mixed : mg "_law_mixed" = some (.ref a__law_mixed)
  b__law_mixed : Binds K d__law_mixed ["box", "row"] []
  a__law_is : Addr
  d__law_is : FuncData
  F__law_is : Fun K "_law_is" "_law_is" s__law_is a__law_is d__law_is
  g__law_is : mg "_law_is" = some (.ref a__law_is)
  b__law_is : Binds K d__law_is ["told", "due"] []
  a__law_lists : Addr
  d__law_lists : FuncData
  F__law_lists : Fun K "_law_lists" "_law_lists" s__law_lists a__law_lists d__law_lists
  g__law_lists : mg "_law_lists" = some (.ref a__law_lists)
  b__law_lists : Binds K d__law_lists ["value"] []
  a__law_error : Addr
  d__law_error : FuncData
  F__law_error : Fun K "_law_error" "_law_error" s__law_error a__law_error d__law_error
  g__law_error : mg "_law_error" = some (.ref a__law_error)
  b__law_error : Binds K d__law_error ["call"] []
  a__law_lot : Addr
  d__law_lot : FuncData
  F__law_lot : Fun K "_law_lot" "_law_lot" s__law_lot a__law_lot d__law_lot
  g__law_lot : mg "_law_lot" = some (.ref a__law_lot)
  b__law_lot : Binds K d__law_lot ["mask"] []
  a__law_graph : Addr
  d__law_graph : FuncData
  F__law_graph : Fun K "_law_graph" "_law_graph" s__law_graph a__law_graph d__law_graph
  g__law_graph : mg "_law_graph" = some (.ref a__law_graph)
  b__law_graph : Binds K d__law_graph ["box", "many"] []
  a_law : Addr
  d_law : FuncData
  F_law : Fun K "law" "law" s_law a_law d_law
  g_law : mg "law" = some (.ref a_law)
  b_law : Binds K d_law ["script"] []
  c_InvalidKeys : Addr
  g_InvalidKeys : mg "InvalidKeys" = some (.ref c_InvalidKeys)
  c_InvalidRow : Addr
  g_InvalidRow : mg "InvalidRow" = some (.ref c_InvalidRow)
  c_Keys : Addr
  g_Keys : mg "Keys" = some (.ref c_Keys)
  m_Keys : Mk K c_Keys a_Keys___init__
  cl_Keys : Cls K c_Keys
  na_many : NoAttr K c_Keys "many"
  na_clashes : NoAttr K c_Keys "clashes"
  ic_Keys : C8.InsC K c_Keys
  ni_N : PySem.W.kitOne K (.type "NoneType") (.ref c_Keys) = some false
  ni_I : PySem.W.kitOne K (.type "int") (.ref c_Keys) = some false
  ni_T : PySem.W.kitOne K (.type "tuple") (.ref c_Keys) = some false
  ex_RK : PySem.W.exmOne K (.ref c_InvalidRow) (.ref c_InvalidKeys) = some false
  ex_RR : PySem.W.exmOne K (.ref c_InvalidRow) (.ref c_InvalidRow) = some true
  ex_KK : PySem.W.exmOne K (.ref c_InvalidKeys) (.ref c_InvalidKeys) = some true
  x_InvalidKeys : Told K mg c_InvalidKeys "InvalidKeys"
  x_InvalidRow : Told K mg c_InvalidRow "InvalidRow"
  e_InvalidKeys : Kx.ErrTxt P K c_InvalidKeys a_InvalidKeys___init__ s_InvalidKeys___init__
  e_InvalidRow : Kx.ErrTxt P K c_InvalidRow a_InvalidRow___init__ s_InvalidRow___init__
  g_MOST_KEYS : ∃ t, mg "MOST_KEYS" = some (.int 12 t)
  g_MOST_STEPS : ∃ t, mg "MOST_STEPS" = some (.int 1000 t)
  c_WHATS : Addr
  g_WHATS : mg "WHATS" = some (.ref c_WHATS)
  t_WHATS : ∀ H, SqT K H c_WHATS [.str (Str.ofString "take"), .str (Str.ofString "give")]
  n_abs : mg "abs" = none
  n_bool : mg "bool" = none
  n_enumerate : mg "enumerate" = none
  n_int : mg "int" = none
  n_isinstance : mg "isinstance" = none
  n_len : mg "len" = none
  n_list : mg "list" = none
  n_range : mg "range" = none
  n_sorted : mg "sorted" = none
  n_str : mg "str" = none
  n_super : mg "super" = none
  n_tuple : mg "tuple" = none
  n_zip : mg "zip" = none
end Kr
namespace Kr
open PySem PySem.Spec PyProof.Rows L2 Kb
section
variable {P : Program} {w : World} {K : PySem.W.Frag} {mg : Str → Option Value} {base : Heap}
/-! ### the law's own box of numbers -/
abbrev ivs (l : List Int) : List V := l.map V.int
/-- the first thing in a list, if that is an object -/
def rest : Option HO → Option Addr
  | some (.lst (.ref r :: _)) => some r
  | _ => none
/-- the heap without the box at b and without its rest -/
def hbx (b : Addr) (H : Hp) : Hp := fun a => if a = b ∨ rest (H b) = some a then none else H a
/-- the box at b: its rest and its state -/
def Bx (b : Addr) (H : Hp) : Prop := ∃ r cs st, H b = some (.lst [.ref r, .int st]) ∧ r ≠ b ∧ H r = some (.lst (ivs cs)) ∧ (∀ c ∈ cs, 0 ≤ c) ∧ cs.length ≤ 63 ∧ 0 ≤ st ∧ st < 2147483647
theorem hbx_of {b a : Addr} {H : Hp} {o : HO} (h : hbx b H a = some o) : a ≠ b ∧ rest (H b) ≠ some a ∧ H a = some o := by
  unfold hbx at h
  split at h
  · cases h
  · rename_i n
    exact ⟨fun e => n (.inl e), fun e => n (.inr e), h⟩
theorem hbx_le (b : Addr) (H : Hp) : Same (hbx b H) H := fun a o h => (hbx_of h).2.2
theorem hbx_at {b a : Addr} {H : Hp} {o : HO} (h : H a = some o) (n : a ≠ b) (m : rest (H b) ≠ some a) : hbx b H a = some o := by
  unfold hbx
  rw [if_neg fun z => z.elim n m]
  exact h
theorem hbx_mono {b : Addr} {H H' : Hp} {o : HO} (e : Same H H') (hb : H b = some o) : Same (hbx b H) (hbx b H') := fun a u h => by
  obtain ⟨h1, h2, h3⟩ := hbx_of h
  exact hbx_at (e _ _ h3) h1 (by rw [e _ _ hb, ← hb]; exact h2)
theorem hbx_free {b a : Addr} {H : Hp} (h : H a = none) : hbx b H a = none := by
  unfold hbx
  split
  · rfl
  · exact h
theorem Bx.is {b : Addr} {H : Hp} (h : Bx b H) : ∃ o, H b = some o := by
  obtain ⟨r, cs, st, h1, _⟩ := h
  exact ⟨_, h1⟩
theorem Bx.same {b : Addr} {H H' : Hp} (h : Bx b H) (e : Same H H') : Bx b H' := by
  obtain ⟨r, cs, st, h1, h2, h3, h4⟩ := h
  exact ⟨r, cs, st, e _ _ h1, h2, e _ _ h3, h4⟩
theorem Bx.mono {b : Addr} {H H' : Hp} (h : Bx b H) (e : Same H H') : Same (hbx b H) (hbx b H') := by
  obtain ⟨o, ho⟩ := h.is
  exact hbx_mono e ho
/-- what is new stands apart from the box -/
theorem Bx.new {b p : Addr} {H H' : Hp} {o : HO} (h : Bx b H) (e : Same H H') (hp : H p = none) (hp2 : H' p = some o) : hbx b H' p = some o := by
  obtain ⟨r, cs, st, h1, h2, h3, h4⟩ := h
  refine hbx_at hp2 (Ne.symm (ne_of_none h1 hp)) ?_
  rw [e _ _ h1]
  exact fun z => ne_of_none h3 hp (Option.some.inj z)
theorem cut_to {xs : List V} {k : Nat} (h : k ≤ xs.length) : cutV xs none (some (k : Int)) = xs.take k := by
  unfold cutV
  rw [HT.sIx_none, HT.sIx_nat, List.drop_zero, Nat.min_eq_left h, Nat.sub_zero]
theorem cut_from {xs : List V} {k : Nat} : cutV xs (some (k : Int)) none = xs.drop k := by
  unfold cutV
  rw [HT.sIx_none, HT.sIx_nat]
  by_cases h : k ≤ xs.length
  · rw [Nat.min_eq_left h, List.take_of_length_le (by rw [List.length_drop]; omega)]
  · rw [List.drop_of_length_le (by omega), List.drop_of_length_le (by omega), List.take_nil]
/-- what is no list stands apart from the box -/
theorem Bx.non {b a : Addr} {H : Hp} {o : HO} (h : Bx b H) (e : H a = some o) (n : ∀ xs, o ≠ .lst xs) : hbx b H a = some o := by
  obtain ⟨r, cs, st, h1, h2, h3, h4⟩ := h
  refine hbx_at e (fun z => ?_) fun z => ?_
  · rw [z, h1] at e
    exact n _ (Option.some.inj e).symm
  · rw [h1] at z
    rw [← (Option.some.inj z : r = a), h3] at e
    exact n _ (Option.some.inj e).symm
/-- an object apart from the box is written -/
theorem hbx_put {b p : Addr} {H : Hp} {o u : HO} (h : hbx b H p = some o) : hbx b (upd H p u) = upd (hbx b H) p u := by
  obtain ⟨h1, h2, h3⟩ := hbx_of h
  funext a
  unfold hbx
  rw [upd_ne (Ne.symm h1)]
  by_cases e : a = p
  · subst e
    rw [if_neg fun z => z.elim h1 h2, upd_same, upd_same]
  · rw [upd_ne e, upd_ne e]
theorem Bx.put {b p : Addr} {H : Hp} {o u : HO} (h : Bx b H) (hp : hbx b H p = some o) : Bx b (upd H p u) := by
  obtain ⟨r, cs, st, h1, h2, h3, h4⟩ := h
  obtain ⟨g1, g2, g3⟩ := hbx_of hp
  refine ⟨r, cs, st, by rw [upd_ne (Ne.symm g1)]; exact h1, h2, ?_, h4⟩
  rw [upd_ne fun e => g2 (by rw [h1, ← e]; rfl)]
  exact h3
/-- over the numbers and items of a list that is made for the loop -/
theorem forEN {σ : L2.St} {H : Hp} {D : Ends} {ta : TA} {tb : TS} {i1 i2 : Nat} (xs : List V) (Pv : Addr → Nat → L2.St → Hp → Prop) (h : ∀ R : List V → Hp → Prop, (∀ p, H p = none → R [.ref p] (upd H p (.lst xs))) → ta σ H R)
    (h0 : ∀ p, H p = none → Pv p 0 σ (upd H p (.lst xs))) (hl : ∀ p i σ' H', H p = none → Pv p i σ' H' → H' p = some (.lst xs))
    (hs : ∀ (p : Addr) (i : Nat) (x : V) (σ' : L2.St) (H' : Hp) (T : Addr), H p = none → xs[i]? = some x → Pv p i σ' H' → H' T = none →
      tb { D with nx := Pv p (i + 1), ct := Pv p (i + 1), bk := D.nx } ((σ'.set i1 (some (nv i))).set i2 (some x)) (upd H' T (.tup [nv i, x]))) (hd : ∀ p σ' H', H p = none → Pv p xs.length σ' H' → D.nx σ' H') :
    tFor (iEnumA K ta) (gTup K 2 (gCons (gName i1) (gCons (gName i2) gNil))) tb D σ H := by
  refine h _ fun p hp => ⟨p, xs, rfl, .inl ⟨.of upd_same, for_it walk_enum (Pv p) (h0 p hp) (fun i σ' H' _ z => .of (hl p i σ' H' hp z)) (fun i v σ' H1 H2 _ z y => ?_) fun σ' H' z => hd p σ' H' hp z⟩⟩
  obtain ⟨T, x, y, rfl, hT, rfl, e1, e2⟩ := y
  cases e1
  exact ⟨T, _, rfl, .of upd_same, rfl, _, _, rfl, _, _, rfl, rfl, hs p i y σ' H1 T hp e2 z hT⟩
theorem cut63 {xs : List V} (h : xs.length ≤ 63) : cutV xs none (some 63) = xs := by
  unfold cutV
  rw [show HT.sIx xs.length 0 none = 0 from rfl, List.drop_zero, show HT.sIx xs.length xs.length (some 63) = min 63 xs.length from HT.sIx_nat _ _ 63, List.take_of_length_le (by omega)]
def sp_law_box (K : PySem.W.Frag) : Sp := fun vs H Q _ => ∃ a ns, vs = [.ref a] ∧ SqL K H a (ivs ns) ∧ ns.length ≤ 63 ∧ ∀ H' b, Same H (hbx b H') → H b = none → Bx b H' → Q (.ref b) H'
theorem ok__law_box (T : Tx P K mg) : FnOk P w K mg base CX0 1 T.a__law_box T.d__law_box ["script"] (sp_law_box K) := by
  refine T.F__law_box.ok sc__law_box (fun vs H Q E h => ?_) (fun cdv A outer s H vs Q E hr h => ?_)
  · obtain ⟨a, ns, rfl, _⟩ := h
    rfl
  · obtain ⟨a, ns, rfl, hs, hn, q⟩ := h
    refine ⟨_, (pss_cons (ps_par (i := 1) (j := 2) (by rfl) sc__law_box.nd rfl rfl (by decide) rfl rfl (pa_cons (pe_lst pa_nil) (pa_cons pe_int pa_nil)) (by rfl))
      (pss_cons (ps_for PassesOwn.never rfl (penumK (K := K) rfl (by rfl) T.n_enumerate (pa_cons (pe_slice (slL (K := K) rfl) (pv 0) po_none (po_some pe_int)) pa_nil)) (gtupK (K := K) (n := 2) rfl (by rfl) (pgs_cons (pg_name (i := 3) sc__law_box.nd rfl (Or.inl rfl)) (pgs_cons (pg_name (i := 4) sc__law_box.nd rfl (Or.inl rfl)) pgs_nil))) (pss_cons (ps_set (i := 5) sc__law_box.nd rfl (Or.inl rfl) (pe_op op_add (pe_op op_mul (pe_callB callAbsN (by rfl) T.n_abs (by decide +kernel) (pa_cons (pv 4) pa_nil)) pe_int) (pe_callTy callIntB (by rfl) T.n_int (by decide +kernel) (pa_cons (pe_cmpR op_lt (pv 4) pe_int (nomark _)) pa_nil))))
      (pss_cons (ps_if (pt_cmpR op_ge (pe_callB callAbsN (by rfl) T.n_abs (by decide +kernel) (pa_cons (pv 4) pa_nil)) (pe_op op_pow pe_int pe_int) (nomark _)) (pss_one (ps_expr (bmK (K := K) rfl PySem.F.plainAttrs_list PySem.F.slot_list_append PySem.F.type_list_append mt_append (pv 1) (pa_cons (pe_callB callAbsN (by rfl) T.n_abs (by decide +kernel) (pa_cons (pv 4) pa_nil)) pa_nil)))) pss_nil)
      (pss_one (ps_set (i := 2) sc__law_box.nd rfl (Or.inl rfl) (pe_op op_add (pe_op op_mod (pe_callTy callIntI (by rfl) T.n_int (by decide +kernel) (pa_cons (pe_op op_add (pe_op op_add (pe_op op_mul (pv 2) pe_int) (pe_op op_mul (pe_op op_mod (pe_callTy callIntI (by rfl) T.n_int (by decide +kernel) (pa_cons (pv 5) pa_nil)) pe_int) (pe_op op_add (pe_op op_mul pe_int (pv 3)) pe_int))) pe_int) pa_nil)) pe_int) pe_int))))))
      (pss_one (ps_ret (pe_lst (pa_cons (pv 1) (pa_cons (pv 2) pa_nil))))))), ?_⟩
    rw [show L2.start ["script", "rest", "state", "k", "cell", "size"] [.ref a] = [some (.ref a), none, none, none, none, none] from rfl]
    generalize hF1 : tFor _ _ _ = F1
    (try simp only [tVar, tC, tOp, tUn, rI, rI0, rU, rEq, rNe, scal, tTest, tB, tAnd, tOr, tNot, tAndV, tOrV, tNotV, tIf, tChain, tNil, tCons, tCB, tCall, tTup, tLst, tRet, tRetN, tDrop, tSeq, tNext, tIfS, tAsg, gName, tPar, tPar3, gNil, gCons, gTup, gSub, tAug, tSl, tNoPart, tPart, tBM, tBM0, tYes, tIsP, iSeq, iEnumA, RZ.iZipA, iRng1, iRng2, iList, iTup, rIsi, rIsB, rIxL, rIxT, rIxA, rLenA, rListOf, rTupOf, rSetL, rSlL, rCat, rAppend, tFld, sFld, tMake, tBits, Int.ofNat_inj, cast1, cast0, TruV, cxOf, Cx.nox, Cx.wish, tNever, tBreak, tCont, ipI, tDIn, tDNotIn, sDPut, tDNewT, tDNewK, tDGet, rSortedPO, rSortedI, rIn, rEqD, rNeD, rInD, rNotInD, tSSet, rIsV, rIntI, rIntB, rAbsN, tLstRg, tRg1, tRg2, List.append_nil, List.nil_append, List.cons_append, Option.some.injEq, exists_eq_left', exists_eq_left, exists_eq_right, exists_eq_right', List.getElem?_cons_zero, List.getElem?_cons_succ, List.set_cons_zero, List.set_cons_succ, List.cons.injEq, and_true, true_and, exists_and_left, exists_and_right, and_assoc, V.int.injEq, V.bl.injEq, V.ref.injEq, V.str.injEq, reduceCtorEq, decide_true, decide_false, Bool.not_true, Bool.not_false, Bool.false_eq_true, if_false, if_true, ite_true, ite_false, List.length_cons, List.length_nil, tRaise, tErr, LamX.tLam, TTe])
    refine ⟨by decide, fun r hr0 => ?_⟩
    subst hF1
    refine forEN (ivs ns) (fun p i σ' H' => ∃ st y3 y4 y5 cs, σ' = [some (.ref a), some (.ref r), some (.int st), y3, y4, y5] ∧ Same H H' ∧ H' p = some (.lst (ivs ns)) ∧ H' r = some (.lst (ivs cs)) ∧ p ≠ r ∧ (∀ c ∈ cs, 0 ≤ c) ∧ cs.length ≤ i ∧ 0 ≤ st ∧ st < 2147483647) (fun R h => ?_) (fun p hp => ?_) (fun p i σ' H' hp z => ?_) ?_ ?_
    · (try simp only [tVar, tC, tOp, tUn, rI, rI0, rU, rEq, rNe, scal, tTest, tB, tAnd, tOr, tNot, tAndV, tOrV, tNotV, tIf, tChain, tNil, tCons, tCB, tCall, tTup, tLst, tRet, tRetN, tDrop, tSeq, tNext, tIfS, tAsg, gName, tPar, tPar3, gNil, gCons, gTup, gSub, tAug, tSl, tNoPart, tPart, tBM, tBM0, tYes, tIsP, iSeq, iEnumA, RZ.iZipA, iRng1, iRng2, iList, iTup, rIsi, rIsB, rIxL, rIxT, rIxA, rLenA, rListOf, rTupOf, rSetL, rSlL, rCat, rAppend, tFld, sFld, tMake, tBits, Int.ofNat_inj, cast1, cast0, TruV, cxOf, Cx.nox, Cx.wish, tNever, tBreak, tCont, ipI, tDIn, tDNotIn, sDPut, tDNewT, tDNewK, tDGet, rSortedPO, rSortedI, rIn, rEqD, rNeD, rInD, rNotInD, tSSet, rIsV, rIntI, rIntB, rAbsN, tLstRg, tRg1, tRg2, List.append_nil, List.nil_append, List.cons_append, Option.some.injEq, exists_eq_left', exists_eq_left, exists_eq_right, exists_eq_right', List.getElem?_cons_zero, List.getElem?_cons_succ, List.set_cons_zero, List.set_cons_succ, List.cons.injEq, and_true, true_and, exists_and_left, exists_and_right, and_assoc, V.int.injEq, V.bl.injEq, V.ref.injEq, V.str.injEq, reduceCtorEq, decide_true, decide_false, Bool.not_true, Bool.not_false, Bool.false_eq_true, if_false, if_true, ite_true, ite_false, List.length_cons, List.length_nil, tRaise, tErr, LamX.tLam, TTe])
      refine ⟨ivs ns, Same.seq (same_new hr0) hs, ?_⟩
      rw [cut63 (by rw [List.length_map]; exact hn)]
      exact h
    · have hne : p ≠ r := fun e => by rw [e, upd_same] at hp; cases hp
      exact ⟨40503, _, _, _, [], rfl, (same_new hr0).trans (same_new hp), upd_same, by rw [upd_ne (Ne.symm hne)]; exact upd_same, hne, fun c hc => (nomatch hc), Nat.le_refl _, by decide, by decide⟩
    · obtain ⟨_, _, _, _, _, _, _, z, _⟩ := z
      exact z
    · rintro p i x σ' H' t hp hx ⟨st, y3, y4, y5, cs, rfl, sm, ep, er, ne, hc, hl, s0, s1⟩ ht
      have lt : i < 63 := by have := (List.getElem?_eq_some_iff.mp hx).1; rw [List.length_map] at this; omega
      rw [List.getElem?_map] at hx
      obtain ⟨c, _, rfl⟩ := Option.map_eq_some_iff.mp hx
      (try simp only [tVar, tC, tOp, tUn, rI, rI0, rU, rEq, rNe, scal, tTest, tB, tAnd, tOr, tNot, tAndV, tOrV, tNotV, tIf, tChain, tNil, tCons, tCB, tCall, tTup, tLst, tRet, tRetN, tDrop, tSeq, tNext, tIfS, tAsg, gName, tPar, tPar3, gNil, gCons, gTup, gSub, tAug, tSl, tNoPart, tPart, tBM, tBM0, tYes, tIsP, iSeq, iEnumA, RZ.iZipA, iRng1, iRng2, iList, iTup, rIsi, rIsB, rIxL, rIxT, rIxA, rLenA, rListOf, rTupOf, rSetL, rSlL, rCat, rAppend, tFld, sFld, tMake, tBits, Int.ofNat_inj, cast1, cast0, TruV, cxOf, Cx.nox, Cx.wish, tNever, tBreak, tCont, ipI, tDIn, tDNotIn, sDPut, tDNewT, tDNewK, tDGet, rSortedPO, rSortedI, rIn, rEqD, rNeD, rInD, rNotInD, tSSet, rIsV, rIntI, rIntB, rAbsN, tLstRg, tRg1, tRg2, List.append_nil, List.nil_append, List.cons_append, Option.some.injEq, exists_eq_left', exists_eq_left, exists_eq_right, exists_eq_right', List.getElem?_cons_zero, List.getElem?_cons_succ, List.set_cons_zero, List.set_cons_succ, List.cons.injEq, and_true, true_and, exists_and_left, exists_and_right, and_assoc, V.int.injEq, V.bl.injEq, V.ref.injEq, V.str.injEq, reduceCtorEq, decide_true, decide_false, Bool.not_true, Bool.not_false, Bool.false_eq_true, if_false, if_true, ite_true, ite_false, List.length_cons, List.length_nil, tRaise, tErr, LamX.tLam, TTe])
      have md : ∀ z : Int, 0 ≤ z % 2147483629 ∧ z % 2147483629 < 2147483629 := fun z => ⟨Int.emod_nonneg z (by decide), Int.emod_lt_of_pos z (by decide)⟩
      have m1 := md ((c.natAbs : Int) * 2 + if decide (c < 0) = true then 1 else 0)
      have m2 := md (st * 48271 + ((c.natAbs : Int) * 2 + if decide (c < 0) = true then 1 else 0) % 2147483629 * (2 * (i : Int) + 69621) + 11)
      have ct : CMul st 48271 ∧ (0 : Int) < 2147483629 ∧ CMul 2 (i : Int) ∧ CMul (((c.natAbs : Int) * 2 + if decide (c < 0) = true then 1 else 0) % 2147483629) (2 * (i : Int) + 69621) :=
        ⟨mulR (by decide) (by decide), (show (0 : Int) < 2147483629 by decide), mulL (by decide) (by decide), mulL m1.1 (by omega)⟩
      have nt : r ≠ t := fun e => by rw [e, ht] at er; cases er
      have np : p ≠ t := fun e => by rw [e, ht] at ep; cases ep
      have sm1 : Same H (upd H' t (.tup [nv i, V.int c])) := sm.trans (same_new ht)
      refine ⟨mulR (by decide) (by decide), ⟨by decide, by decide, by decide⟩, ?_⟩
      split
      · refine ⟨ty_lst (.of (by rw [upd_ne nt]; exact er)), ivs cs, by rw [upd_ne nt]; exact er, by rw [List.length_map, sizeLine_eq]; omega, ct.1, ct.2.1, ct.2.2.1, ct.2.2.2, by decide, fun b o hb => ?_, ?_, cs ++ [(c.natAbs : Int)], ?_, ne, fun d hd => ?_, ?_, by omega, by omega⟩
        · rw [upd_ne (ne_of_none hb hr0)]
          exact sm1 _ _ hb
        · rw [upd_ne ne, upd_ne np]
          exact ep
        · rw [upd_same]
          show _ = some (HO.lst ((cs ++ [(c.natAbs : Int)]).map V.int))
          rw [List.map_append]
          rfl
        · rcases List.mem_append.mp hd with hd | hd
          · exact hc d hd
          · rw [List.mem_singleton.mp hd]
            exact Int.natCast_nonneg _
        · rw [List.length_append]
          exact Nat.add_le_add hl (Nat.le_refl 1)
      · exact ⟨ct.1, ct.2.1, ct.2.2.1, ct.2.2.2, by decide, sm1, by rw [upd_ne np]; exact ep, cs, by rw [upd_ne nt]; exact er, ne, hc, by omega, by omega, by omega⟩
    · rintro p σ' H' hp ⟨st, y3, y4, y5, cs, rfl, sm, ep, er, ne, hc, hl, s0, s1⟩
      (try simp only [tVar, tC, tOp, tUn, rI, rI0, rU, rEq, rNe, scal, tTest, tB, tAnd, tOr, tNot, tAndV, tOrV, tNotV, tIf, tChain, tNil, tCons, tCB, tCall, tTup, tLst, tRet, tRetN, tDrop, tSeq, tNext, tIfS, tAsg, gName, tPar, tPar3, gNil, gCons, gTup, gSub, tAug, tSl, tNoPart, tPart, tBM, tBM0, tYes, tIsP, iSeq, iEnumA, RZ.iZipA, iRng1, iRng2, iList, iTup, rIsi, rIsB, rIxL, rIxT, rIxA, rLenA, rListOf, rTupOf, rSetL, rSlL, rCat, rAppend, tFld, sFld, tMake, tBits, Int.ofNat_inj, cast1, cast0, TruV, cxOf, Cx.nox, Cx.wish, tNever, tBreak, tCont, ipI, tDIn, tDNotIn, sDPut, tDNewT, tDNewK, tDGet, rSortedPO, rSortedI, rIn, rEqD, rNeD, rInD, rNotInD, tSSet, rIsV, rIntI, rIntB, rAbsN, tLstRg, tRg1, tRg2, List.append_nil, List.nil_append, List.cons_append, Option.some.injEq, exists_eq_left', exists_eq_left, exists_eq_right, exists_eq_right', List.getElem?_cons_zero, List.getElem?_cons_succ, List.set_cons_zero, List.set_cons_succ, List.cons.injEq, and_true, true_and, exists_and_left, exists_and_right, and_assoc, V.int.injEq, V.bl.injEq, V.ref.injEq, V.str.injEq, reduceCtorEq, decide_true, decide_false, Bool.not_true, Bool.not_false, Bool.false_eq_true, if_false, if_true, ite_true, ite_false, List.length_cons, List.length_nil, tRaise, tErr, LamX.tLam, TTe])
      refine ⟨by decide, fun b hb => ?_⟩
      have hb0 := back sm hb
      refine q _ b (fun d o hd => ?_) hb0 ⟨r, cs, st, upd_same, ne_of_none er hb, same_new hb _ _ er, hc, by rw [List.length_map] at hl; omega, s0, s1⟩
      refine hbx_at (same_new hb _ _ (sm _ _ hd)) (ne_of_none hd hb0) ?_
      rw [upd_same]
      exact fun e => ne_of_none hd hr0 (Option.some.inj e).symm
theorem dp_ints (cs : List Int) {H : Hp} : DpAll K H (ivs cs) (cs.map PyData.int) := by
  induction cs with
  | nil => exact .nil
  | cons c r ih => exact .cons (.int c) ih
theorem hbx_take {b r p : Addr} {st st' : Int} {H H4 : Hp} (hb : H b = some (.lst [.ref r, .int st])) (s : Same H H4) (hp : p = r ∨ H p = none) : Same (hbx b H) (hbx b (upd H4 b (.lst [.ref p, .int st']))) := fun a o h => by
  obtain ⟨h1, h2, h3⟩ := hbx_of h
  refine hbx_at ?_ h1 ?_
  · rw [upd_ne h1]
    exact s _ _ h3
  · rw [upd_same]
    intro e
    have e2 : p = a := Option.some.inj e
    subst e2
    rcases hp with hp | hp
    · exact h2 (by rw [hb, hp]; rfl)
    · rw [hp] at h3
      cases h3
theorem cut1 (x : V) (xs : List V) : cutV (x :: xs) (some 1) none = xs := by
  unfold cutV
  rw [show HT.sIx (x :: xs).length 0 (some 1) = min 1 (x :: xs).length from HT.sIx_nat _ _ 1, HT.sIx_none, List.length_cons, show min 1 (xs.length + 1) = 1 by omega, List.drop_succ_cons, List.drop_zero, List.take_of_length_le (by omega)]
def sp_law_take (K : PySem.W.Frag) : Sp := fun vs H Q _ => ∃ b, ∃ m : Nat, vs = [.ref b, nv m] ∧ (1 ≤ m ∧ m < 1000000) ∧ Bx b H ∧ ∀ H' k, Same (hbx b H) (hbx b H') → Bx b H' → k < m → Q (nv k) H'
theorem ok__law_take (T : Tx P K mg) : FnOk P w K mg base CX0 1 T.a__law_take T.d__law_take ["box", "many"] (sp_law_take K) := by
  refine T.F__law_take.ok sc__law_take (fun vs H Q E h => ?_) (fun cdv A outer s H vs Q E hr h => ?_)
  · obtain ⟨b, m, rfl, _⟩ := h
    rfl
  · obtain ⟨b, m, rfl, ⟨m1, m2⟩, ⟨r, cs, st, eb, nr, er, hc, hl, s0, s1⟩, q⟩ := h
    refine ⟨_, (pss_cons (ps_if (pt_cmpR (neDK (K := K) rfl hr.units) (pe_ix (ixL (K := K) rfl) (pv 0) pe_int (fun _ _ => rfl)) (pe_lst pa_nil) (nomark _)) (pss_cons (ps_set (i := 2) sc__law_take.nd rfl (Or.inl rfl) (pe_ix (ixL (K := K) rfl) (pe_ix (ixL (K := K) rfl) (pv 0) pe_int (fun _ _ => rfl)) pe_int (fun _ _ => rfl)))
      (pss_cons (ps_asg (pe_op op_cat (pe_ifExp (pt_cmpR op_ge (pv 2) (pv 1) (nomark _)) (pe_lst (pa_cons (pe_op op_fdiv (pv 2) (pv 1)) pa_nil)) (pe_lst pa_nil)) (pe_slice (slL (K := K) rfl) (pe_ix (ixL (K := K) rfl) (pv 0) pe_int (fun _ _ => rfl)) (po_some pe_int) po_none)) (pg_sub (pv 0) pe_int set_list))
      (pss_one (ps_ret (pe_op op_mod (pe_callTy callIntI (by rfl) T.n_int (by decide +kernel) (pa_cons (pv 2) pa_nil)) (pv 1)))))) pss_nil)
      (pss_cons (ps_asg (pe_op op_mod (pe_callTy callIntI (by rfl) T.n_int (by decide +kernel) (pa_cons (pe_op op_mul (pe_ix (ixL (K := K) rfl) (pv 0) pe_int (fun _ _ => rfl)) pe_int) pa_nil)) pe_int) (pg_sub (pv 0) pe_int set_list))
      (pss_one (ps_ret (pe_op op_mod (pe_callTy callIntI (by rfl) T.n_int (by decide +kernel) (pa_cons (pe_op op_fdiv (pe_op op_add (pe_op op_mul (pe_ix (ixL (K := K) rfl) (pv 0) pe_int (fun _ _ => rfl)) pe_int) pe_int) pe_int) pa_nil)) (pv 1)))))), ?_⟩
    rw [show L2.start ["box", "many", "cell"] [.ref b, nv m] = [some (.ref b), some (nv m), none] from rfl]
    (try simp only [tVar, tC, tOp, tUn, rI, rI0, rU, rEq, rNe, scal, tTest, tB, tAnd, tOr, tNot, tAndV, tOrV, tNotV, tIf, tChain, tNil, tCons, tCB, tCall, tTup, tLst, tRet, tRetN, tDrop, tSeq, tNext, tIfS, tAsg, gName, tPar, tPar3, gNil, gCons, gTup, gSub, tAug, tSl, tNoPart, tPart, tBM, tBM0, tYes, tIsP, iSeq, iEnumA, RZ.iZipA, iRng1, iRng2, iList, iTup, rIsi, rIsB, rIxL, rIxT, rIxA, rLenA, rListOf, rTupOf, rSetL, rSlL, rCat, rAppend, tFld, sFld, tMake, tBits, Int.ofNat_inj, cast1, cast0, TruV, cxOf, Cx.nox, Cx.wish, tNever, tBreak, tCont, ipI, tDIn, tDNotIn, sDPut, tDNewT, tDNewK, tDGet, rSortedPO, rSortedI, rIn, rEqD, rNeD, rInD, rNotInD, tSSet, rIsV, rIntI, rIntB, rAbsN, tLstRg, tRg1, tRg2, List.append_nil, List.nil_append, List.cons_append, Option.some.injEq, exists_eq_left', exists_eq_left, exists_eq_right, exists_eq_right', List.getElem?_cons_zero, List.getElem?_cons_succ, List.set_cons_zero, List.set_cons_succ, List.cons.injEq, and_true, true_and, exists_and_left, exists_and_right, and_assoc, V.int.injEq, V.bl.injEq, V.ref.injEq, V.str.injEq, reduceCtorEq, decide_true, decide_false, Bool.not_true, Bool.not_false, Bool.false_eq_true, if_false, if_true, ite_true, ite_false, List.length_cons, List.length_nil, tRaise, tErr, LamX.tLam, TTe])
    refine ⟨_, .of eb, _, rfl, by decide, fun p hp => ⟨_, .lst (.of (same_new hp _ _ er)) (dp_ints cs), _, .lst (.of upd_same) .nil, PySem.W.shaped_ints cs, by decide, ?_⟩⟩
    have bp : b ≠ p := ne_of_none eb hp
    have eb1 : (upd H p (.lst [])) b = some (.lst [.ref r, .int st]) := by rw [upd_ne bp]; exact eb
    have m0 : (0 : Int) < (m : Int) := by omega
    have md : ∀ z : Int, ∃ k : Nat, z % (m : Int) = (k : Int) ∧ k < m := fun z => by
      have h1 := Int.emod_nonneg z (Int.ne_of_gt m0)
      have h2 := Int.emod_lt_of_pos z m0
      exact ⟨(z % (m : Int)).toNat, by omega, by omega⟩
    cases cs with
    | nil =>
      refine iteF ?_
      refine ⟨_, .of eb1, _, rfl, st, rfl, mulR (by decide) (by decide), (show (0 : Int) < 2147483647 by decide), _, eb1, 1, rfl, _, .of upd_same, _, rfl, _, rfl, mulR (by decide) (by decide), ⟨by decide, by decide⟩, m0, ?_⟩
      obtain ⟨k, e, hk⟩ := md ((st * 48271 % 2147483647 * 69621 + 7) / 1013)
      rw [e]
      have h1 := Int.emod_nonneg (st * 48271) (show (2147483647 : Int) ≠ 0 by decide)
      have h2 := Int.emod_lt_of_pos (st * 48271) (show (0 : Int) < 2147483647 by decide)
      refine q _ k (hbx_take eb (same_new hp) (.inl rfl)) ⟨r, [], _, upd_same, nr, ?_, hc, hl, h1, h2⟩ hk
      rw [upd_ne nr]
      exact same_new hp _ _ er
    | cons c t =>
      refine iteT ?_
      have c0 : 0 ≤ c := hc c List.mem_cons_self
      have er1 : (upd H p (.lst [])) r = some (.lst (ivs (c :: t))) := same_new hp _ _ er
      have fin : ∀ (hs : List Int) (H4 : Hp) (p4 : Addr), Same H H4 → H4 p4 = some (.lst (ivs hs ++ ivs t)) → H p4 = none → hs.length ≤ 1 → (∀ c ∈ hs, 0 ≤ c) → Q (.int (c % (m : Int))) (upd H4 b (.lst [.ref p4, .int st])) := by
        intro hs H4 p4 s4 e4 n4 l4 c4
        obtain ⟨k, e, hk⟩ := md c
        rw [e]
        have nb : p4 ≠ b := Ne.symm (ne_of_none eb n4)
        refine q _ k (hbx_take eb s4 (.inr n4)) ⟨p4, hs ++ t, st, upd_same, nb, ?_, fun d hd => ?_, ?_, s0, s1⟩ hk
        · rw [upd_ne nb, e4]
          show _ = some (HO.lst ((hs ++ t).map V.int))
          rw [List.map_append]
        · rcases List.mem_append.mp hd with hd | hd
          · exact c4 d hd
          · exact hc d (List.mem_cons_of_mem _ hd)
        · rw [List.length_append]
          rw [List.length_cons] at hl
          omega
      refine ⟨_, .of eb1, _, rfl, r, rfl, _, .of er1, _, atI_nat (j := 0) rfl, c, rfl, ?_⟩
      have lt : (ivs t).length ≤ 63 := by rw [List.length_map]; rw [List.length_cons] at hl; omega
      split
      · refine ⟨c, rfl, ⟨m0, by omega⟩, by decide, fun p2 h2 => ?_⟩
        have s2 := same_new (o := .lst [.int (c / (m : Int))]) h2
        refine ⟨_, .of (s2 _ _ eb1), _, rfl, r, rfl, _, .of (s2 _ _ er1), fun p3 h3 => ?_⟩
        rw [show cutV (ivs (c :: t)) (some 1) none = ivs t from cut1 _ _]
        have s3 := same_new (o := .lst (ivs t)) h3
        refine ⟨_, s3 _ _ upd_same, _, upd_same, by rw [sizeLine_eq]; show 0 + 1 + _ ≤ _; omega, fun p4 h4 => ?_⟩
        have s4 := same_new (o := .lst ([.int (c / (m : Int))] ++ ivs t)) h4
        have eb4 := s4 _ _ (s3 _ _ (s2 _ _ eb1))
        refine ⟨_, eb4, 0, rfl, c, rfl, m0, ?_⟩
        refine fin [c / (m : Int)] _ p4 ((((same_new hp).trans s2).trans s3).trans s4) upd_same (back (((same_new hp).trans s2).trans s3) h4) (Nat.le_refl _) fun d hd => ?_
        rw [List.mem_singleton.mp hd]
        exact Int.ediv_nonneg c0 (Int.le_of_lt m0)
      · refine ⟨by decide, fun p2 h2 => ?_⟩
        have s2 := same_new (o := .lst []) h2
        refine ⟨_, .of (s2 _ _ eb1), _, rfl, r, rfl, _, .of (s2 _ _ er1), fun p3 h3 => ?_⟩
        rw [show cutV (ivs (c :: t)) (some 1) none = ivs t from cut1 _ _]
        have s3 := same_new (o := .lst (ivs t)) h3
        refine ⟨_, s3 _ _ upd_same, _, upd_same, by rw [sizeLine_eq]; show 0 + _ ≤ _; omega, fun p4 h4 => ?_⟩
        have s4 := same_new (o := .lst ([] ++ ivs t)) h4
        have eb4 := s4 _ _ (s3 _ _ (s2 _ _ eb1))
        refine ⟨_, eb4, 0, rfl, c, rfl, m0, ?_⟩
        refine fin [] _ p4 ((((same_new hp).trans s2).trans s3).trans s4) upd_same (back (((same_new hp).trans s2).trans s3) h4) (Nat.zero_le _) fun d hd => nomatch hd
def sp_law_mixed (K : PySem.W.Frag) : Sp := fun vs H Q _ => ∃ b a xs, vs = [.ref b, .ref a] ∧ Bx b H ∧ Seq K H a xs ∧ xs.length ≤ 1000 ∧
  ∀ H' p ys, Same (hbx b H) (hbx b H') → Bx b H' → H p = none → hbx b H' p = some (.lst ys) → ys.Perm xs → Q (.ref p) H'
theorem ok__law_mixed (T : Tx P K mg) : FnOk P w K mg base CX0 2 T.a__law_mixed T.d__law_mixed ["box", "row"] (sp_law_mixed K) := by
  refine T.F__law_mixed.ok sc__law_mixed (fun vs H Q E h => ?_) (fun cdv A outer s H vs Q E hr h => ?_)
  · obtain ⟨b, a, xs, rfl, _⟩ := h
    rfl
  · obtain ⟨b, a, xs, rfl, hb, hs, hn, q⟩ := h
    refine ⟨_, (pss_cons (ps_par (i := 2) (j := 3) (by rfl) sc__law_mixed.nd rfl rfl (by decide) rfl rfl (pa_cons (pe_callTy (listOfK (K := K) rfl) (by rfl) T.n_list (by decide +kernel) (pa_cons (pv 1) pa_nil)) (pa_cons (pe_lst pa_nil) pa_nil)) (by rfl))
      (pss_cons (ps_for PassesOwn.never rfl (pi_range1 (by rfl) T.n_range (pa_cons (pe_callB (lenK (K := K) rfl) (by rfl) T.n_len PySem.boot_len (pa_cons (pv 1) pa_nil)) pa_nil)) (pg_name (i := 4) sc__law_mixed.nd rfl (Or.inl rfl)) (pss_cons (ps_set (i := 5) sc__law_mixed.nd rfl (Or.inl rfl) (pe_call (ok__law_take T) (hr.mono (by decide)) (by rfl) T.g__law_take T.F__law_take.kp T.b__law_take .nil pass0 (pa_cons (pv 0) (pa_cons (pe_callB (lenK (K := K) rfl) (by rfl) T.n_len PySem.boot_len (pa_cons (pv 2) pa_nil)) pa_nil))))
      (pss_cons (ps_expr (bmK (K := K) rfl PySem.F.plainAttrs_list PySem.F.slot_list_append PySem.F.type_list_append mt_append (pv 3) (pa_cons (pe_ix (ixL (K := K) rfl) (pv 2) (pv 5) (fun _ _ => rfl)) pa_nil)))
      (pss_one (ps_set (i := 2) sc__law_mixed.nd rfl (Or.inl rfl) (pe_op op_cat (pe_slice (slL (K := K) rfl) (pv 2) po_none (po_some (pv 5))) (pe_slice (slL (K := K) rfl) (pv 2) (po_some (pe_op op_add (pv 5) pe_int)) po_none)))))))
      (pss_one (ps_ret (pv 3))))), ?_⟩
    rw [show L2.start ["box", "row", "left", "told", "turn", "at"] [.ref b, .ref a] = [some (.ref b), some (.ref a), none, none, none, none] from rfl]
    generalize hF1 : tFor _ _ _ = F1
    (try simp only [tVar, tC, tOp, tUn, rI, rI0, rU, rEq, rNe, scal, tTest, tB, tAnd, tOr, tNot, tAndV, tOrV, tNotV, tIf, tChain, tNil, tCons, tCB, tCall, tTup, tLst, tRet, tRetN, tDrop, tSeq, tNext, tIfS, tAsg, gName, tPar, tPar3, gNil, gCons, gTup, gSub, tAug, tSl, tNoPart, tPart, tBM, tBM0, tYes, tIsP, iSeq, iEnumA, RZ.iZipA, iRng1, iRng2, iList, iTup, rIsi, rIsB, rIxL, rIxT, rIxA, rLenA, rListOf, rTupOf, rSetL, rSlL, rCat, rAppend, tFld, sFld, tMake, tBits, Int.ofNat_inj, cast1, cast0, TruV, cxOf, Cx.nox, Cx.wish, tNever, tBreak, tCont, ipI, tDIn, tDNotIn, sDPut, tDNewT, tDNewK, tDGet, rSortedPO, rSortedI, rIn, rEqD, rNeD, rInD, rNotInD, tSSet, rIsV, rIntI, rIntB, rAbsN, tLstRg, tRg1, tRg2, List.append_nil, List.nil_append, List.cons_append, Option.some.injEq, exists_eq_left', exists_eq_left, exists_eq_right, exists_eq_right', List.getElem?_cons_zero, List.getElem?_cons_succ, List.set_cons_zero, List.set_cons_succ, List.cons.injEq, and_true, true_and, exists_and_left, exists_and_right, and_assoc, V.int.injEq, V.bl.injEq, V.ref.injEq, V.str.injEq, reduceCtorEq, decide_true, decide_false, Bool.not_true, Bool.not_false, Bool.false_eq_true, if_false, if_true, ite_true, ite_false, List.length_cons, List.length_nil, tRaise, tErr, LamX.tLam, TTe])
    refine ⟨xs, hs, fun l0 hl0 => ⟨by decide, fun t ht => ?_⟩⟩
    subst hF1
    have t0 : H t = none := back (same_new hl0) ht
    have nlt : l0 ≠ t := fun e => by rw [← e, upd_same] at ht; cases ht
    have sm1 : Same H (upd (upd H l0 (.lst xs)) t (.lst [])) := (same_new hl0).trans (same_new ht)
    obtain ⟨ob, eb⟩ := hb.is
    have hbl : b ≠ l0 := ne_of_none eb hl0
    have hbt : b ≠ t := ne_of_none eb t0
    refine forR1 xs.length (fun i σ' H' => ∃ L y4 y5 ls ts, σ' = [some (.ref b), some (.ref a), some (.ref L), some (.ref t), y4, y5] ∧ Same (hbx b H) (hbx b H') ∧ Bx b H' ∧ hbx b H' L = some (.lst ls) ∧ hbx b H' t = some (.lst ts) ∧ L ≠ t ∧ (ts ++ ls).Perm xs ∧ ts.length = i) (fun R h => ?_) (by omega) ?_ ?_ ?_
    · (try simp only [tVar, tC, tOp, tUn, rI, rI0, rU, rEq, rNe, scal, tTest, tB, tAnd, tOr, tNot, tAndV, tOrV, tNotV, tIf, tChain, tNil, tCons, tCB, tCall, tTup, tLst, tRet, tRetN, tDrop, tSeq, tNext, tIfS, tAsg, gName, tPar, tPar3, gNil, gCons, gTup, gSub, tAug, tSl, tNoPart, tPart, tBM, tBM0, tYes, tIsP, iSeq, iEnumA, RZ.iZipA, iRng1, iRng2, iList, iTup, rIsi, rIsB, rIxL, rIxT, rIxA, rLenA, rListOf, rTupOf, rSetL, rSlL, rCat, rAppend, tFld, sFld, tMake, tBits, Int.ofNat_inj, cast1, cast0, TruV, cxOf, Cx.nox, Cx.wish, tNever, tBreak, tCont, ipI, tDIn, tDNotIn, sDPut, tDNewT, tDNewK, tDGet, rSortedPO, rSortedI, rIn, rEqD, rNeD, rInD, rNotInD, tSSet, rIsV, rIntI, rIntB, rAbsN, tLstRg, tRg1, tRg2, List.append_nil, List.nil_append, List.cons_append, Option.some.injEq, exists_eq_left', exists_eq_left, exists_eq_right, exists_eq_right', List.getElem?_cons_zero, List.getElem?_cons_succ, List.set_cons_zero, List.set_cons_succ, List.cons.injEq, and_true, true_and, exists_and_left, exists_and_right, and_assoc, V.int.injEq, V.bl.injEq, V.ref.injEq, V.str.injEq, reduceCtorEq, decide_true, decide_false, Bool.not_true, Bool.not_false, Bool.false_eq_true, if_false, if_true, ite_true, ite_false, List.length_cons, List.length_nil, tRaise, tErr, LamX.tLam, TTe])
      exact ⟨xs, Same.sq sm1 hs, h⟩
    · refine ⟨l0, _, _, xs, [], rfl, hb.mono sm1, hb.same sm1, ?_, ?_, nlt, .refl _, rfl⟩
      · exact hb.new sm1 hl0 (same_new ht _ _ upd_same)
      · exact hb.new sm1 t0 upd_same
    · rintro i σ' H' hi ⟨L, y4, y5, ls, ts, rfl, sm, hb2, eL, et, ne, pm, ln⟩
      (try simp only [tVar, tC, tOp, tUn, rI, rI0, rU, rEq, rNe, scal, tTest, tB, tAnd, tOr, tNot, tAndV, tOrV, tNotV, tIf, tChain, tNil, tCons, tCB, tCall, tTup, tLst, tRet, tRetN, tDrop, tSeq, tNext, tIfS, tAsg, gName, tPar, tPar3, gNil, gCons, gTup, gSub, tAug, tSl, tNoPart, tPart, tBM, tBM0, tYes, tIsP, iSeq, iEnumA, RZ.iZipA, iRng1, iRng2, iList, iTup, rIsi, rIsB, rIxL, rIxT, rIxA, rLenA, rListOf, rTupOf, rSetL, rSlL, rCat, rAppend, tFld, sFld, tMake, tBits, Int.ofNat_inj, cast1, cast0, TruV, cxOf, Cx.nox, Cx.wish, tNever, tBreak, tCont, ipI, tDIn, tDNotIn, sDPut, tDNewT, tDNewK, tDGet, rSortedPO, rSortedI, rIn, rEqD, rNeD, rInD, rNotInD, tSSet, rIsV, rIntI, rIntB, rAbsN, tLstRg, tRg1, tRg2, List.append_nil, List.nil_append, List.cons_append, Option.some.injEq, exists_eq_left', exists_eq_left, exists_eq_right, exists_eq_right', List.getElem?_cons_zero, List.getElem?_cons_succ, List.set_cons_zero, List.set_cons_succ, List.cons.injEq, and_true, true_and, exists_and_left, exists_and_right, and_assoc, V.int.injEq, V.bl.injEq, V.ref.injEq, V.str.injEq, reduceCtorEq, decide_true, decide_false, Bool.not_true, Bool.not_false, Bool.false_eq_true, if_false, if_true, ite_true, ite_false, List.length_cons, List.length_nil, tRaise, tErr, LamX.tLam, TTe])
      have lls : ls.length = xs.length - i := by
        have := pm.length_eq
        rw [List.length_append] at this
        omega
      refine ⟨ls, .inl (.of (hbx_le _ _ _ _ eL)), b, ls.length, rfl, ⟨by omega, by omega⟩, hb2, fun H1 k s1 hb3 hk => ?_⟩
      (try simp only [tVar, tC, tOp, tUn, rI, rI0, rU, rEq, rNe, scal, tTest, tB, tAnd, tOr, tNot, tAndV, tOrV, tNotV, tIf, tChain, tNil, tCons, tCB, tCall, tTup, tLst, tRet, tRetN, tDrop, tSeq, tNext, tIfS, tAsg, gName, tPar, tPar3, gNil, gCons, gTup, gSub, tAug, tSl, tNoPart, tPart, tBM, tBM0, tYes, tIsP, iSeq, iEnumA, RZ.iZipA, iRng1, iRng2, iList, iTup, rIsi, rIsB, rIxL, rIxT, rIxA, rLenA, rListOf, rTupOf, rSetL, rSlL, rCat, rAppend, tFld, sFld, tMake, tBits, Int.ofNat_inj, cast1, cast0, TruV, cxOf, Cx.nox, Cx.wish, tNever, tBreak, tCont, ipI, tDIn, tDNotIn, sDPut, tDNewT, tDNewK, tDGet, rSortedPO, rSortedI, rIn, rEqD, rNeD, rInD, rNotInD, tSSet, rIsV, rIntI, rIntB, rAbsN, tLstRg, tRg1, tRg2, List.append_nil, List.nil_append, List.cons_append, Option.some.injEq, exists_eq_left', exists_eq_left, exists_eq_right, exists_eq_right', List.getElem?_cons_zero, List.getElem?_cons_succ, List.set_cons_zero, List.set_cons_succ, List.cons.injEq, and_true, true_and, exists_and_left, exists_and_right, and_assoc, V.int.injEq, V.bl.injEq, V.ref.injEq, V.str.injEq, reduceCtorEq, decide_true, decide_false, Bool.not_true, Bool.not_false, Bool.false_eq_true, if_false, if_true, ite_true, ite_false, List.length_cons, List.length_nil, tRaise, tErr, LamX.tLam, TTe])
      have eL1 := hbx_le _ _ _ _ (s1 _ _ eL)
      have et1 := s1 _ _ et
      have hx : ls[k]? = some ls[k] := List.getElem?_eq_getElem hk
      refine ⟨ty_lst (.of (hbx_le _ _ _ _ et1)), ls, .of eL1, _, atI_nat hx, ts, hbx_le _ _ _ _ et1, by rw [sizeLine_eq]; omega, ?_⟩
      have hb4 : Bx b (upd H1 t (.lst (ts ++ [ls[k]]))) := hb3.put et1
      have eL4 : (upd H1 t (.lst (ts ++ [ls[k]]))) L = some (.lst ls) := by rw [upd_ne ne]; exact eL1
      have s4 : Same (hbx b H) (hbx b (upd H1 t (.lst (ts ++ [ls[k]])))) := fun a o h => by
        rw [hbx_put et1, upd_ne (fun e => ?_)]
        · exact s1 _ _ (sm _ _ h)
        · rw [e, hbx_free t0] at h
          cases h
      have et4 : hbx b (upd H1 t (.lst (ts ++ [ls[k]]))) t = some (.lst (ts ++ [ls[k]])) := by rw [hbx_put et1, upd_same]
      refine ⟨ls, .of eL4, fun p1 hp1 => ⟨ls, .of (same_new hp1 _ _ eL4), fun p2 hp2 => ⟨_, same_new hp2 _ _ upd_same, _, upd_same, ?_, fun p3 hp3 => ?_⟩⟩⟩
      · have l1 := cutV_length ls none (some (k : Int))
        have l2 := cutV_length ls (some ((k : Int) + 1)) none
        rw [sizeLine_eq]
        omega
      · have e5 := ((same_new (o := .lst (cutV ls none (some (k : Int)))) hp1).trans (same_new (o := .lst (cutV ls (some ((k : Int) + 1)) none)) hp2)).trans (same_new (o := .lst (cutV ls none (some (k : Int)) ++ cutV ls (some ((k : Int) + 1)) none)) hp3)
        have f3 := back ((same_new (o := .lst (cutV ls none (some (k : Int)))) hp1).trans (same_new (o := .lst (cutV ls (some ((k : Int) + 1)) none)) hp2)) hp3
        refine ⟨s4.trans (hb4.mono e5), hb4.same e5, _, hb4.new e5 f3 upd_same, _, hb4.mono e5 _ _ et4, ?_, ?_, ?_⟩
        · exact Ne.symm (ne_of_none (hbx_le _ _ _ _ et4) f3)
        · rw [cut_to (by omega), show (k : Int) + 1 = ((k + 1 : Nat) : Int) from rfl, cut_from]
          refine List.Perm.trans ?_ pm
          rw [List.append_assoc]
          refine List.Perm.append_left _ ?_
          have : ls = ls.take k ++ ls[k] :: ls.drop (k + 1) := by
            rw [← List.drop_eq_getElem_cons hk, List.take_append_drop]
          exact ((List.perm_middle (l₁ := ls.take k) (a := ls[k]) (l₂ := ls.drop (k + 1))).symm).trans (List.Perm.of_eq this.symm)
        · rw [List.length_append, ln]
          rfl
    · rintro σ' H' ⟨L, y4, y5, ls, ts, rfl, sm, hb2, eL, et, ne, pm, ln⟩
      (try simp only [tVar, tC, tOp, tUn, rI, rI0, rU, rEq, rNe, scal, tTest, tB, tAnd, tOr, tNot, tAndV, tOrV, tNotV, tIf, tChain, tNil, tCons, tCB, tCall, tTup, tLst, tRet, tRetN, tDrop, tSeq, tNext, tIfS, tAsg, gName, tPar, tPar3, gNil, gCons, gTup, gSub, tAug, tSl, tNoPart, tPart, tBM, tBM0, tYes, tIsP, iSeq, iEnumA, RZ.iZipA, iRng1, iRng2, iList, iTup, rIsi, rIsB, rIxL, rIxT, rIxA, rLenA, rListOf, rTupOf, rSetL, rSlL, rCat, rAppend, tFld, sFld, tMake, tBits, Int.ofNat_inj, cast1, cast0, TruV, cxOf, Cx.nox, Cx.wish, tNever, tBreak, tCont, ipI, tDIn, tDNotIn, sDPut, tDNewT, tDNewK, tDGet, rSortedPO, rSortedI, rIn, rEqD, rNeD, rInD, rNotInD, tSSet, rIsV, rIntI, rIntB, rAbsN, tLstRg, tRg1, tRg2, List.append_nil, List.nil_append, List.cons_append, Option.some.injEq, exists_eq_left', exists_eq_left, exists_eq_right, exists_eq_right', List.getElem?_cons_zero, List.getElem?_cons_succ, List.set_cons_zero, List.set_cons_succ, List.cons.injEq, and_true, true_and, exists_and_left, exists_and_right, and_assoc, V.int.injEq, V.bl.injEq, V.ref.injEq, V.str.injEq, reduceCtorEq, decide_true, decide_false, Bool.not_true, Bool.not_false, Bool.false_eq_true, if_false, if_true, ite_true, ite_false, List.length_cons, List.length_nil, tRaise, tErr, LamX.tLam, TTe])
      have l0 : ls = [] := by
        have := pm.length_eq
        rw [List.length_append] at this
        exact List.length_eq_zero_iff.mp (by omega)
      rw [l0, List.append_nil] at pm
      exact q H' t ts sm hb2 t0 et pm
end
end Kr
namespace Kr
open PySem PySem.Spec PyProof.Rows L2 Kb
section
variable {P : Program} {w : World} {K : PySem.W.Frag} {mg : Str → Option Value} {base : Heap}
/-! ### the law's own comparison -/
/-- two values that are one datum of less depth than n, of None, bools, ints, texts and tuples -/
inductive TD (K : PySem.W.Frag) (H : Hp) : Nat → V → V → Prop
  | non (n : Nat) : TD K H (n + 1) .non .non
  | bl (n : Nat) (b : Bool) : TD K H (n + 1) (.bl b) (.bl b)
  | int (n : Nat) (i : Int) : TD K H (n + 1) (.int i) (.int i)
  | str (n : Nat) (t : Str) : TD K H (n + 1) (.str t) (.str t)
  | tup {n : Nat} {a b : Addr} {xs ys : List V} : SqT K H a xs → SqT K H b ys → xs.length = ys.length → (∀ (i : Nat) (x y : V), xs[i]? = some x → ys[i]? = some y → TD K H n x y) → TD K H (n + 1) (.ref a) (.ref b)
theorem TD.same {H H' : Hp} {n : Nat} {x y : V} (e : Same H H') (h : TD K H n x y) : TD K H' n x y := by
  induction h with
  | non n => exact .non n
  | bl n b => exact .bl n b
  | int n i => exact .int n i
  | str n t => exact .str n t
  | tup h1 h2 h3 _ ih => exact .tup (Kb.Same.tup e h1) (Kb.Same.tup e h2) h3 ih
theorem TD.ints {H : Hp} {n : Nat} {a b : Addr} {l : List Nat} (h1 : H a = some (.tup (nvs l))) (h2 : H b = some (.tup (nvs l))) : TD K H (n + 2) (.ref a) (.ref b) := by
  refine .tup (.inl (.inl h1)) (.inl (.inl h2)) rfl fun i x y e1 e2 => ?_
  rw [e1] at e2
  cases e2
  rw [List.getElem?_map] at e1
  obtain ⟨c, _, rfl⟩ := Option.map_eq_some_iff.mp e1
  exact .int n _
/-- over the pairs of two tuples of one length, the test never holding -/
theorem lcZ0 {σ : L2.St} {H : Hp} {Q : VK} {ta : TA} {tt : TT} {te : TE} {i1 i2 : Nat} (a b : Addr) (xs ys : List V) (hi : i1 ≠ i2) (h : ∀ R : List V → Hp → Prop, R [.ref a, .ref b] H → ta σ H R) (hx : SqT K H a xs) (hy : SqT K H b ys) (hl : xs.length = ys.length)
    (hs : ∀ (i : Nat) (x y : V) (H' : Hp) (Q1 : VK) (Q2 : Hp → Prop), xs[i]? = some x → ys[i]? = some y → Same H H' → (∀ H3, Same H' H3 → Q2 H3) → tt ((σ.set i1 (some x)).set i2 (some y)) H' fun c H3 => if c = true then te ((σ.set i1 (some x)).set i2 (some y)) H3 Q1 else Q2 H3)
    (hd : ∀ (L : Addr) (H' : Hp), H L = none → Same H H' → H' L = some (.lst []) → Q (.ref L) H') : tLc (RZ.iZipA K ta) (gTup K 2 (gCons (gName i1) (gCons (gName i2) gNil))) tt te [i1, i2] σ H Q := by
  refine h _ ⟨a, b, xs, ys, rfl, .inr ⟨hx, hy, fun L hL => ?_⟩⟩
  have sL : Same H (upd H L (.lst [])) := same_new hL
  refine ⟨fun i m H' => m = xs.length - i ∧ i ≤ xs.length ∧ Same (upd H L (.lst [])) H', ⟨xs.length, rfl, Nat.zero_le _, Same.refl _⟩, ?_⟩
  rintro i m H' ⟨rfl, hi2, s⟩
  have s2 := sL.trans s
  have qx := Kb.Same.tup s2 hx
  have qy := Kb.Same.tup s2 hy
  by_cases lt : i < xs.length
  · have ex : xs[i]? = some xs[i] := List.getElem?_eq_getElem lt
    have lt2 : i < ys.length := by omega
    have ey : ys[i]? = some ys[i] := List.getElem?_eq_getElem lt2
    refine .inr ⟨⟨xs, ys, _, _, qx, qy, ex, ey⟩, fun H3 => Same (upd H L (.lst [])) H3, fun H3 p => ⟨xs.length - (i + 1), by omega, rfl, lt, p⟩, fun v H3 yl => ?_⟩
    obtain ⟨t, x, y, rfl, ht, rfl, f1, f2⟩ := yl
    have e1 := f1 xs qx
    have e2 := f2 ys qy
    have st := same_new (o := .tup [x, y]) ht
    refine ⟨t, _, rfl, .of upd_same, rfl, _, _, rfl, _, _, rfl, rfl, ?_⟩
    have ew : ((wipe σ [i1, i2]).set i1 (some x)).set i2 (some y) = (σ.set i1 (some x)).set i2 (some y) := by
      show (((σ.set i2 none).set i1 none).set i1 (some x)).set i2 (some y) = _
      rw [List.set_set, List.set_comm _ _ hi, List.set_set, List.set_comm _ _ hi.symm]
    show wipe (((wipe σ [i1, i2]).set i1 (some x)).set i2 (some y)) [i1, i2] = wipe σ [i1, i2] ∧ tt (((wipe σ [i1, i2]).set i1 (some x)).set i2 (some y)) _ _
    rw [ew]
    refine ⟨?_, hs i x y _ _ _ e1 e2 (s2.trans st) fun H4 s4 => (s.trans st).trans s4⟩
    show ((((σ.set i1 (some x)).set i2 (some y)).set i2 none).set i1 none) = ((σ.set i2 none).set i1 none)
    rw [List.set_set, List.set_comm _ _ hi, List.set_set, List.set_comm _ _ hi.symm]
  · have e : i = xs.length := by omega
    exact .inl ⟨⟨xs, ys, qx, qy, .inl (by omega)⟩, hd L H' hL s2 (s _ _ upd_same)⟩
def sp_law_is (K : PySem.W.Frag) (n : Nat) : Sp := fun vs H Q _ => ∃ x y, vs = [x, y] ∧ TD K H n x y ∧ ∀ H', Same H H' → Q (.bl true) H'
theorem ok_law_is_n (T : Tx P K mg) : ∀ n, FnOk P w K mg base CX0 (n + 1) T.a__law_is T.d__law_is ["told", "due"] (sp_law_is K n) := by
  intro n
  induction n with
  | zero =>
    refine T.F__law_is.ok sc__law_is (fun vs H Q E h => ?_) (fun cdv A outer s H vs Q E hr h => ?_)
    all_goals
      obtain ⟨x, y, _, h, _⟩ := h
      cases h
  | succ n ih =>
    refine T.F__law_is.ok sc__law_is (fun vs H Q E h => by obtain ⟨x, y, rfl, _⟩ := h; rfl) (fun cdv A outer s H vs Q E hr h => ?_)
    obtain ⟨x, y, rfl, td, q⟩ := h
    refine ⟨_, (pss_cons (ps_if (pt_val (pe_callB (isiK (K := K) rfl) (by rfl) T.n_isinstance (by decide +kernel) (pa_cons (pv 1) (pa_cons (pe_bltn (v := .ty "tuple") (by rfl) T.n_tuple (by decide +kernel) rfl) pa_nil)))) (pss_cons (ps_if (PW.pt (pw_or (pt_not (pt_val (pe_callB (isiK (K := K) rfl) (by rfl) T.n_isinstance (by decide +kernel) (pa_cons (pv 0) (pa_cons (pe_bltn (v := .ty "tuple") (by rfl) T.n_tuple (by decide +kernel) rfl) pa_nil))))) (pw_or1 (pt_cmpR op_ne (pe_callB (lenK (K := K) rfl) (by rfl) T.n_len PySem.boot_len (pa_cons (pv 0) pa_nil)) (pe_callB (lenK (K := K) rfl) (by rfl) T.n_len PySem.boot_len (pa_cons (pv 1) pa_nil)) (nomark _))))) (pss_one (ps_ret pe_bl)) pss_nil)
      (pss_one (ps_ret (pe_cmpR (eqDK (K := K) rfl hr.units) (pe_lc (own := [("one", 2), ("other", 3)]) (by rfl) sc__law_is.nd (pzipK (K := K) rfl (by rfl) T.n_zip (pa_cons (pv 0) (pa_cons (pv 1) pa_nil))) (blkOk_by (own := [("one", 2), ("other", 3)]) (N := ["told", "due", "one", "other"]) (sc := defScope s__law_is) (by decide +kernel)) (fun _ _ _ _ _ => (gtupK (K := K) (n := 2) rfl (by rfl) (pgs_cons (pg_name (i := 2) sc__law_is.nd rfl (by first | exact Or.inl rfl | exact Or.inr rfl)) (pgs_cons (pg_name (i := 3) sc__law_is.nd rfl (by first | exact Or.inl rfl | exact Or.inr rfl)) pgs_nil)))) (fun _ _ _ _ _ => (pts_one (pt_not (pt_val (pe_call ih (hr.mono (by omega)) (by rfl) T.g__law_is T.F__law_is.kp T.b__law_is .nil pass0 (pa_cons (pv 2) (pa_cons (pv 3) pa_nil))))))) (fun _ _ _ _ _ => pe_int)) (pe_lst pa_nil) (nomark _))))) pss_nil)
      (pss_cons (ps_if (PW.pt (pw_or (pt_cmpR op_isN (pv 1) pe_non (nomark _)) (pw_or (pt_cmpR op_isBv (pv 1) pe_bl (nomark _)) (pw_or1 (pt_cmpR op_isBv (pv 1) pe_bl (nomark _)))))) (pss_one (ps_ret (pe_ifExp (pt_cmpR op_isN (pv 1) pe_non (nomark _)) (pe_cmpR op_isN (pv 0) pe_non (nomark _)) (pe_ifExp (pt_cmpR op_isBv (pv 1) pe_bl (nomark _)) (pe_cmpR op_isBv (pv 0) pe_bl (nomark _)) (pe_cmpR op_isBv (pv 0) pe_bl (nomark _)))))) pss_nil)
      (pss_cons (ps_if (pt_val (pe_callB (isiK (K := K) rfl) (by rfl) T.n_isinstance (by decide +kernel) (pa_cons (pv 1) (pa_cons (pe_bltn (v := .ty "int") (by rfl) T.n_int (by decide +kernel) rfl) pa_nil)))) (pss_one (ps_ret (pe_and (pe_callB (isiK (K := K) rfl) (by rfl) T.n_isinstance (by decide +kernel) (pa_cons (pv 0) (pa_cons (pe_bltn (v := .ty "int") (by rfl) T.n_int (by decide +kernel) rfl) pa_nil))) (pe_and (pe_not (pe_callB (isiK (K := K) rfl) (by rfl) T.n_isinstance (by decide +kernel) (pa_cons (pv 0) (pa_cons (pe_bltn (v := .ty "bool") (by rfl) T.n_bool (by decide +kernel) rfl) pa_nil)))) (pe_one (pe_cmpR op_eq (pv 0) (pv 1) (nomark _))))))) pss_nil)
      (pss_one (ps_ret (pe_and (pe_callB (isiK (K := K) rfl) (by rfl) T.n_isinstance (by decide +kernel) (pa_cons (pv 1) (pa_cons (pe_bltn (v := .ty "str") (by rfl) T.n_str (by decide +kernel) rfl) pa_nil))) (pe_and (pe_callB (isiK (K := K) rfl) (by rfl) T.n_isinstance (by decide +kernel) (pa_cons (pv 0) (pa_cons (pe_bltn (v := .ty "str") (by rfl) T.n_str (by decide +kernel) rfl) pa_nil))) (pe_one (pe_cmpR op_eq (pv 0) (pv 1) (nomark _)))))))))), ?_⟩
    rw [show L2.start ["told", "due", "one", "other"] [x, y] = [some (x), some (y), none, none] from rfl]
    cases td with
    | non =>
      (try simp only [tVar, tC, tOp, tUn, rI, rI0, rU, rEq, rNe, scal, tTest, tB, tAnd, tOr, tNot, tAndV, tOrV, tNotV, tIf, tChain, tNil, tCons, tCB, tCall, tTup, tLst, tRet, tRetN, tDrop, tSeq, tNext, tIfS, tAsg, gName, tPar, tPar3, gNil, gCons, gTup, gSub, tAug, tSl, tNoPart, tPart, tBM, tBM0, tYes, tIsP, iSeq, iEnumA, RZ.iZipA, iRng1, iRng2, iList, iTup, rIsi, rIsB, rIxL, rIxT, rIxA, rLenA, rListOf, rTupOf, rSetL, rSlL, rCat, rAppend, tFld, sFld, tMake, tBits, Int.ofNat_inj, cast1, cast0, TruV, cxOf, Cx.nox, Cx.wish, tNever, tBreak, tCont, ipI, tDIn, tDNotIn, sDPut, tDNewT, tDNewK, tDGet, rSortedPO, rSortedI, rIn, rEqD, rNeD, rInD, rNotInD, tSSet, rIsV, rIntI, rIntB, rAbsN, tLstRg, tRg1, tRg2, List.append_nil, List.nil_append, List.cons_append, Option.some.injEq, exists_eq_left', exists_eq_left, exists_eq_right, exists_eq_right', List.getElem?_cons_zero, List.getElem?_cons_succ, List.set_cons_zero, List.set_cons_succ, List.cons.injEq, and_true, true_and, exists_and_left, exists_and_right, and_assoc, V.int.injEq, V.bl.injEq, V.ref.injEq, V.str.injEq, reduceCtorEq, decide_true, decide_false, Bool.not_true, Bool.not_false, Bool.false_eq_true, if_false, if_true, ite_true, ite_false, List.length_cons, List.length_nil, tRaise, tErr, LamX.tLam, TTe])
      refine ⟨_, _, .ty "tuple", .base .non, false, kit_ty (by decide +kernel), iteF ?_⟩
      exact q _ (Same.refl _)
    | bl _ b =>
      (try simp only [tVar, tC, tOp, tUn, rI, rI0, rU, rEq, rNe, scal, tTest, tB, tAnd, tOr, tNot, tAndV, tOrV, tNotV, tIf, tChain, tNil, tCons, tCB, tCall, tTup, tLst, tRet, tRetN, tDrop, tSeq, tNext, tIfS, tAsg, gName, tPar, tPar3, gNil, gCons, gTup, gSub, tAug, tSl, tNoPart, tPart, tBM, tBM0, tYes, tIsP, iSeq, iEnumA, RZ.iZipA, iRng1, iRng2, iList, iTup, rIsi, rIsB, rIxL, rIxT, rIxA, rLenA, rListOf, rTupOf, rSetL, rSlL, rCat, rAppend, tFld, sFld, tMake, tBits, Int.ofNat_inj, cast1, cast0, TruV, cxOf, Cx.nox, Cx.wish, tNever, tBreak, tCont, ipI, tDIn, tDNotIn, sDPut, tDNewT, tDNewK, tDGet, rSortedPO, rSortedI, rIn, rEqD, rNeD, rInD, rNotInD, tSSet, rIsV, rIntI, rIntB, rAbsN, tLstRg, tRg1, tRg2, List.append_nil, List.nil_append, List.cons_append, Option.some.injEq, exists_eq_left', exists_eq_left, exists_eq_right, exists_eq_right', List.getElem?_cons_zero, List.getElem?_cons_succ, List.set_cons_zero, List.set_cons_succ, List.cons.injEq, and_true, true_and, exists_and_left, exists_and_right, and_assoc, V.int.injEq, V.bl.injEq, V.ref.injEq, V.str.injEq, reduceCtorEq, decide_true, decide_false, Bool.not_true, Bool.not_false, Bool.false_eq_true, if_false, if_true, ite_true, ite_false, List.length_cons, List.length_nil, tRaise, tErr, LamX.tLam, TTe])
      refine ⟨_, _, .ty "tuple", .base (.bl b), false, kit_ty (by decide +kernel), iteF ?_⟩
      cases b
      · exact iteF (iteT (iteF (q _ (Same.refl _))))
      · exact iteT (iteT (q _ (Same.refl _)))
    | int _ i =>
      (try simp only [tVar, tC, tOp, tUn, rI, rI0, rU, rEq, rNe, scal, tTest, tB, tAnd, tOr, tNot, tAndV, tOrV, tNotV, tIf, tChain, tNil, tCons, tCB, tCall, tTup, tLst, tRet, tRetN, tDrop, tSeq, tNext, tIfS, tAsg, gName, tPar, tPar3, gNil, gCons, gTup, gSub, tAug, tSl, tNoPart, tPart, tBM, tBM0, tYes, tIsP, iSeq, iEnumA, RZ.iZipA, iRng1, iRng2, iList, iTup, rIsi, rIsB, rIxL, rIxT, rIxA, rLenA, rListOf, rTupOf, rSetL, rSlL, rCat, rAppend, tFld, sFld, tMake, tBits, Int.ofNat_inj, cast1, cast0, TruV, cxOf, Cx.nox, Cx.wish, tNever, tBreak, tCont, ipI, tDIn, tDNotIn, sDPut, tDNewT, tDNewK, tDGet, rSortedPO, rSortedI, rIn, rEqD, rNeD, rInD, rNotInD, tSSet, rIsV, rIntI, rIntB, rAbsN, tLstRg, tRg1, tRg2, List.append_nil, List.nil_append, List.cons_append, Option.some.injEq, exists_eq_left', exists_eq_left, exists_eq_right, exists_eq_right', List.getElem?_cons_zero, List.getElem?_cons_succ, List.set_cons_zero, List.set_cons_succ, List.cons.injEq, and_true, true_and, exists_and_left, exists_and_right, and_assoc, V.int.injEq, V.bl.injEq, V.ref.injEq, V.str.injEq, reduceCtorEq, decide_true, decide_false, Bool.not_true, Bool.not_false, Bool.false_eq_true, if_false, if_true, ite_true, ite_false, List.length_cons, List.length_nil, tRaise, tErr, LamX.tLam, TTe])
      refine ⟨_, _, .ty "tuple", .base (.int i), false, kit_ty (by decide +kernel), iteF ?_⟩
      refine ⟨_, _, .ty "int", .base (.int i), true, kit_ty (by decide +kernel), iteT ?_⟩
      refine ⟨_, _, .ty "int", .base (.int i), true, kit_ty (by decide +kernel), iteT ?_⟩
      exact ⟨_, _, .ty "bool", .base (.int i), false, kit_ty (by decide +kernel), iteT (q _ (Same.refl _))⟩
    | str _ t =>
      (try simp only [tVar, tC, tOp, tUn, rI, rI0, rU, rEq, rNe, scal, tTest, tB, tAnd, tOr, tNot, tAndV, tOrV, tNotV, tIf, tChain, tNil, tCons, tCB, tCall, tTup, tLst, tRet, tRetN, tDrop, tSeq, tNext, tIfS, tAsg, gName, tPar, tPar3, gNil, gCons, gTup, gSub, tAug, tSl, tNoPart, tPart, tBM, tBM0, tYes, tIsP, iSeq, iEnumA, RZ.iZipA, iRng1, iRng2, iList, iTup, rIsi, rIsB, rIxL, rIxT, rIxA, rLenA, rListOf, rTupOf, rSetL, rSlL, rCat, rAppend, tFld, sFld, tMake, tBits, Int.ofNat_inj, cast1, cast0, TruV, cxOf, Cx.nox, Cx.wish, tNever, tBreak, tCont, ipI, tDIn, tDNotIn, sDPut, tDNewT, tDNewK, tDGet, rSortedPO, rSortedI, rIn, rEqD, rNeD, rInD, rNotInD, tSSet, rIsV, rIntI, rIntB, rAbsN, tLstRg, tRg1, tRg2, List.append_nil, List.nil_append, List.cons_append, Option.some.injEq, exists_eq_left', exists_eq_left, exists_eq_right, exists_eq_right', List.getElem?_cons_zero, List.getElem?_cons_succ, List.set_cons_zero, List.set_cons_succ, List.cons.injEq, and_true, true_and, exists_and_left, exists_and_right, and_assoc, V.int.injEq, V.bl.injEq, V.ref.injEq, V.str.injEq, reduceCtorEq, decide_true, decide_false, Bool.not_true, Bool.not_false, Bool.false_eq_true, if_false, if_true, ite_true, ite_false, List.length_cons, List.length_nil, tRaise, tErr, LamX.tLam, TTe])
      refine ⟨_, _, .ty "tuple", .base (.str t), false, kit_ty (by decide +kernel), iteF ?_⟩
      refine ⟨_, _, .ty "int", .base (.str t), false, kit_ty (by decide +kernel), iteF ?_⟩
      refine ⟨_, _, .ty "str", .base (.str t), true, kit_ty (by decide +kernel), iteT ?_⟩
      refine ⟨_, _, .ty "str", .base (.str t), true, kit_ty (by decide +kernel), iteT ?_⟩
      exact q _ (Same.refl _)
    | @tup _ a b xs ys h1 h2 hl hs =>
      generalize hL1 : tLc _ _ _ _ _ = L1
      (try simp only [tVar, tC, tOp, tUn, rI, rI0, rU, rEq, rNe, scal, tTest, tB, tAnd, tOr, tNot, tAndV, tOrV, tNotV, tIf, tChain, tNil, tCons, tCB, tCall, tTup, tLst, tRet, tRetN, tDrop, tSeq, tNext, tIfS, tAsg, gName, tPar, tPar3, gNil, gCons, gTup, gSub, tAug, tSl, tNoPart, tPart, tBM, tBM0, tYes, tIsP, iSeq, iEnumA, RZ.iZipA, iRng1, iRng2, iList, iTup, rIsi, rIsB, rIxL, rIxT, rIxA, rLenA, rListOf, rTupOf, rSetL, rSlL, rCat, rAppend, tFld, sFld, tMake, tBits, Int.ofNat_inj, cast1, cast0, TruV, cxOf, Cx.nox, Cx.wish, tNever, tBreak, tCont, ipI, tDIn, tDNotIn, sDPut, tDNewT, tDNewK, tDGet, rSortedPO, rSortedI, rIn, rEqD, rNeD, rInD, rNotInD, tSSet, rIsV, rIntI, rIntB, rAbsN, tLstRg, tRg1, tRg2, List.append_nil, List.nil_append, List.cons_append, Option.some.injEq, exists_eq_left', exists_eq_left, exists_eq_right, exists_eq_right', List.getElem?_cons_zero, List.getElem?_cons_succ, List.set_cons_zero, List.set_cons_succ, List.cons.injEq, and_true, true_and, exists_and_left, exists_and_right, and_assoc, V.int.injEq, V.bl.injEq, V.ref.injEq, V.str.injEq, reduceCtorEq, decide_true, decide_false, Bool.not_true, Bool.not_false, Bool.false_eq_true, if_false, if_true, ite_true, ite_false, List.length_cons, List.length_nil, tRaise, tErr, LamX.tLam, TTe])
      refine ⟨_, _, .ty "tuple", tyT h2, true, kit_ty (by decide +kernel), iteT ?_⟩
      refine ⟨_, _, .ty "tuple", tyT h1, true, kit_ty (by decide +kernel), iteF ⟨_, .inr h1, _, .inr h2, ?_⟩⟩
      rw [if_neg (by rw [hl]; simp)]
      subst hL1
      refine lcZ0 a b xs ys (by decide) (fun R h => ?_) h1 h2 hl (fun i x y H' Q1 Q2 e1 e2 s1 q2 => ?_) fun L H' hL s1 eL => ?_
      · (try simp only [tVar, tC, tOp, tUn, rI, rI0, rU, rEq, rNe, scal, tTest, tB, tAnd, tOr, tNot, tAndV, tOrV, tNotV, tIf, tChain, tNil, tCons, tCB, tCall, tTup, tLst, tRet, tRetN, tDrop, tSeq, tNext, tIfS, tAsg, gName, tPar, tPar3, gNil, gCons, gTup, gSub, tAug, tSl, tNoPart, tPart, tBM, tBM0, tYes, tIsP, iSeq, iEnumA, RZ.iZipA, iRng1, iRng2, iList, iTup, rIsi, rIsB, rIxL, rIxT, rIxA, rLenA, rListOf, rTupOf, rSetL, rSlL, rCat, rAppend, tFld, sFld, tMake, tBits, Int.ofNat_inj, cast1, cast0, TruV, cxOf, Cx.nox, Cx.wish, tNever, tBreak, tCont, ipI, tDIn, tDNotIn, sDPut, tDNewT, tDNewK, tDGet, rSortedPO, rSortedI, rIn, rEqD, rNeD, rInD, rNotInD, tSSet, rIsV, rIntI, rIntB, rAbsN, tLstRg, tRg1, tRg2, List.append_nil, List.nil_append, List.cons_append, Option.some.injEq, exists_eq_left', exists_eq_left, exists_eq_right, exists_eq_right', List.getElem?_cons_zero, List.getElem?_cons_succ, List.set_cons_zero, List.set_cons_succ, List.cons.injEq, and_true, true_and, exists_and_left, exists_and_right, and_assoc, V.int.injEq, V.bl.injEq, V.ref.injEq, V.str.injEq, reduceCtorEq, decide_true, decide_false, Bool.not_true, Bool.not_false, Bool.false_eq_true, if_false, if_true, ite_true, ite_false, List.length_cons, List.length_nil, tRaise, tErr, LamX.tLam, TTe])
        exact h
      · (try simp only [tVar, tC, tOp, tUn, rI, rI0, rU, rEq, rNe, scal, tTest, tB, tAnd, tOr, tNot, tAndV, tOrV, tNotV, tIf, tChain, tNil, tCons, tCB, tCall, tTup, tLst, tRet, tRetN, tDrop, tSeq, tNext, tIfS, tAsg, gName, tPar, tPar3, gNil, gCons, gTup, gSub, tAug, tSl, tNoPart, tPart, tBM, tBM0, tYes, tIsP, iSeq, iEnumA, RZ.iZipA, iRng1, iRng2, iList, iTup, rIsi, rIsB, rIxL, rIxT, rIxA, rLenA, rListOf, rTupOf, rSetL, rSlL, rCat, rAppend, tFld, sFld, tMake, tBits, Int.ofNat_inj, cast1, cast0, TruV, cxOf, Cx.nox, Cx.wish, tNever, tBreak, tCont, ipI, tDIn, tDNotIn, sDPut, tDNewT, tDNewK, tDGet, rSortedPO, rSortedI, rIn, rEqD, rNeD, rInD, rNotInD, tSSet, rIsV, rIntI, rIntB, rAbsN, tLstRg, tRg1, tRg2, List.append_nil, List.nil_append, List.cons_append, Option.some.injEq, exists_eq_left', exists_eq_left, exists_eq_right, exists_eq_right', List.getElem?_cons_zero, List.getElem?_cons_succ, List.set_cons_zero, List.set_cons_succ, List.cons.injEq, and_true, true_and, exists_and_left, exists_and_right, and_assoc, V.int.injEq, V.bl.injEq, V.ref.injEq, V.str.injEq, reduceCtorEq, decide_true, decide_false, Bool.not_true, Bool.not_false, Bool.false_eq_true, if_false, if_true, ite_true, ite_false, List.length_cons, List.length_nil, tRaise, tErr, LamX.tLam, TTe])
        refine ⟨x, y, rfl, (hs i x y e1 e2).same s1, fun H3 s3 => ?_⟩
        (try simp only [tVar, tC, tOp, tUn, rI, rI0, rU, rEq, rNe, scal, tTest, tB, tAnd, tOr, tNot, tAndV, tOrV, tNotV, tIf, tChain, tNil, tCons, tCB, tCall, tTup, tLst, tRet, tRetN, tDrop, tSeq, tNext, tIfS, tAsg, gName, tPar, tPar3, gNil, gCons, gTup, gSub, tAug, tSl, tNoPart, tPart, tBM, tBM0, tYes, tIsP, iSeq, iEnumA, RZ.iZipA, iRng1, iRng2, iList, iTup, rIsi, rIsB, rIxL, rIxT, rIxA, rLenA, rListOf, rTupOf, rSetL, rSlL, rCat, rAppend, tFld, sFld, tMake, tBits, Int.ofNat_inj, cast1, cast0, TruV, cxOf, Cx.nox, Cx.wish, tNever, tBreak, tCont, ipI, tDIn, tDNotIn, sDPut, tDNewT, tDNewK, tDGet, rSortedPO, rSortedI, rIn, rEqD, rNeD, rInD, rNotInD, tSSet, rIsV, rIntI, rIntB, rAbsN, tLstRg, tRg1, tRg2, List.append_nil, List.nil_append, List.cons_append, Option.some.injEq, exists_eq_left', exists_eq_left, exists_eq_right, exists_eq_right', List.getElem?_cons_zero, List.getElem?_cons_succ, List.set_cons_zero, List.set_cons_succ, List.cons.injEq, and_true, true_and, exists_and_left, exists_and_right, and_assoc, V.int.injEq, V.bl.injEq, V.ref.injEq, V.str.injEq, reduceCtorEq, decide_true, decide_false, Bool.not_true, Bool.not_false, Bool.false_eq_true, if_false, if_true, ite_true, ite_false, List.length_cons, List.length_nil, tRaise, tErr, LamX.tLam, TTe])
        exact q2 _ s3
      · (try simp only [tVar, tC, tOp, tUn, rI, rI0, rU, rEq, rNe, scal, tTest, tB, tAnd, tOr, tNot, tAndV, tOrV, tNotV, tIf, tChain, tNil, tCons, tCB, tCall, tTup, tLst, tRet, tRetN, tDrop, tSeq, tNext, tIfS, tAsg, gName, tPar, tPar3, gNil, gCons, gTup, gSub, tAug, tSl, tNoPart, tPart, tBM, tBM0, tYes, tIsP, iSeq, iEnumA, RZ.iZipA, iRng1, iRng2, iList, iTup, rIsi, rIsB, rIxL, rIxT, rIxA, rLenA, rListOf, rTupOf, rSetL, rSlL, rCat, rAppend, tFld, sFld, tMake, tBits, Int.ofNat_inj, cast1, cast0, TruV, cxOf, Cx.nox, Cx.wish, tNever, tBreak, tCont, ipI, tDIn, tDNotIn, sDPut, tDNewT, tDNewK, tDGet, rSortedPO, rSortedI, rIn, rEqD, rNeD, rInD, rNotInD, tSSet, rIsV, rIntI, rIntB, rAbsN, tLstRg, tRg1, tRg2, List.append_nil, List.nil_append, List.cons_append, Option.some.injEq, exists_eq_left', exists_eq_left, exists_eq_right, exists_eq_right', List.getElem?_cons_zero, List.getElem?_cons_succ, List.set_cons_zero, List.set_cons_succ, List.cons.injEq, and_true, true_and, exists_and_left, exists_and_right, and_assoc, V.int.injEq, V.bl.injEq, V.ref.injEq, V.str.injEq, reduceCtorEq, decide_true, decide_false, Bool.not_true, Bool.not_false, Bool.false_eq_true, if_false, if_true, ite_true, ite_false, List.length_cons, List.length_nil, tRaise, tErr, LamX.tLam, TTe])
        refine ⟨by decide, fun p hp => ⟨_, .lst (.of (same_new hp _ _ eL)) .nil, _, .lst (.of upd_same) .nil, by decide, by decide, ?_⟩⟩
        exact q _ (s1.trans (same_new hp))
theorem ok__law_is (T : Tx P K mg) : FnOk P w K mg base CX0 6 T.a__law_is T.d__law_is ["told", "due"] (sp_law_is K 5) := ok_law_is_n T 5
end
end Kr
namespace Kr
open PySem PySem.Spec PyProof.Rows L2 Kb
section
variable {P : Program} {w : World} {K : PySem.W.Frag} {mg : Str → Option Value} {base : Heap}
/-! ### words -/
def sp_is_integer (K : PySem.W.Frag) : Sp := fun vs H Q _ => ∃ x t b1 b2, vs = [x] ∧ TyX K H x t ∧ PySem.W.kitOne K t (.type "int") = some b1 ∧ PySem.W.kitOne K t (.type "bool") = some b2 ∧ Q (.bl (b1 && !b2)) H
theorem ok_is_integer (T : Tx P K mg) : FnOk P w K mg base CX0 1 T.a_is_integer T.d_is_integer ["value"] (sp_is_integer K) := by
  refine T.F_is_integer.ok sc_is_integer (fun vs H Q E h => ?_) (fun cdv A outer s H vs Q E hr h => ?_)
  · obtain ⟨x, t, b1, b2, rfl, _⟩ := h
    rfl
  · obtain ⟨x, t, b1, b2, rfl, ht, h1, h2, q⟩ := h
    refine ⟨_, (pss_one (ps_ret (pe_and (pe_callB (isiK (K := K) rfl) (by rfl) T.n_isinstance (by decide +kernel) (pa_cons (pv 0) (pa_cons (pe_bltn (v := .ty "int") (by rfl) T.n_int (by decide +kernel) rfl) pa_nil))) (pe_one (pe_not (pe_callB (isiK (K := K) rfl) (by rfl) T.n_isinstance (by decide +kernel) (pa_cons (pv 0) (pa_cons (pe_bltn (v := .ty "bool") (by rfl) T.n_bool (by decide +kernel) rfl) pa_nil)))))))), ?_⟩
    refine ⟨x, rfl, x, _, t, _, b1, rfl, .ty "int", ht, h1, b1, rfl, ?_⟩
    cases b1
    · exact iteF q
    · exact iteT ⟨x, rfl, x, _, t, _, b2, rfl, .ty "bool", ht, h2, b2, rfl, q⟩
theorem is_int {H : Hp} {Q : VK} {E : XK} {i : Int} (q : Q (.bl true) H) : sp_is_integer K [.int i] H Q E := ⟨_, _, _, _, rfl, tyInt i, kit_ii, kit_ib, q⟩
theorem is_notInt {H : Hp} {Q : VK} {E : XK} {x : V} (n : NotInt K H x) (q : Q (.bl false) H) : sp_is_integer K [x] H Q E := by
  obtain ⟨t, b1, b2, h0, h1, h2, e⟩ := n
  exact ⟨_, _, _, _, rfl, h0, h1, h2, e ▸ q⟩
/-- what a value is, as a whole number -/
def AsInt (K : PySem.W.Frag) (H : Hp) (x : V) : Option Int → Prop
  | some i => x = .int i
  | none => NotInt K H x
def below (l : Int) : Option Int → Bool
  | some i => decide (0 ≤ i) && decide (i < l)
  | none => false
def between (l m : Int) : Option Int → Bool
  | some i => decide (l ≤ i) && decide (i ≤ m)
  | none => false
def sp_is_below (K : PySem.W.Frag) : Sp := fun vs H Q _ => ∃ x o l, vs = [x, .int l] ∧ AsInt K H x o ∧ Q (.bl (below l o)) H
theorem ok_is_below (T : Tx P K mg) : FnOk P w K mg base CX0 2 T.a_is_below T.d_is_below ["value", "limit"] (sp_is_below K) := by
  refine T.F_is_below.ok sc_is_below (fun vs H Q E h => ?_) (fun cdv A outer s H vs Q E hr h => ?_)
  · obtain ⟨x, o, l, rfl, _⟩ := h
    rfl
  · obtain ⟨x, o, l, rfl, ho, q⟩ := h
    refine ⟨_, (pss_one (ps_ret (pe_and (pe_call (ok_is_integer T) (hr.mono (by decide)) (by rfl) T.g_is_integer T.F_is_integer.kp T.b_is_integer .nil pass0 (pa_cons (pv 0) pa_nil)) (pe_one (pe_chain op_le op_lt pe_int (pv 0) (pv 1)))))), ?_⟩
    rw [show L2.start ["value", "limit"] [x, .int l] = [some (x), some (.int l)] from rfl]
    (try simp only [tVar, tC, tOp, tUn, rI, rI0, rU, rEq, rNe, scal, tTest, tB, tAnd, tOr, tNot, tAndV, tOrV, tNotV, tIf, tChain, tNil, tCons, tCB, tCall, tTup, tLst, tRet, tRetN, tDrop, tSeq, tNext, tIfS, tAsg, gName, tPar, tPar3, gNil, gCons, gTup, gSub, tAug, tSl, tNoPart, tPart, tBM, tBM0, tYes, tIsP, iSeq, iEnumA, RZ.iZipA, iRng1, iRng2, iList, iTup, rIsi, rIsB, rIxL, rIxT, rIxA, rLenA, rListOf, rTupOf, rSetL, rSlL, rCat, rAppend, tFld, sFld, tMake, tBits, Int.ofNat_inj, cast1, cast0, TruV, cxOf, Cx.nox, Cx.wish, tNever, tBreak, tCont, ipI, tDIn, tDNotIn, sDPut, tDNewT, tDNewK, tDGet, rSortedPO, rSortedI, rIn, rEqD, rNeD, rInD, rNotInD, tSSet, rIsV, rIntI, rIntB, rAbsN, tLstRg, tRg1, tRg2, List.append_nil, List.nil_append, List.cons_append, Option.some.injEq, exists_eq_left', exists_eq_left, exists_eq_right, exists_eq_right', List.getElem?_cons_zero, List.getElem?_cons_succ, List.set_cons_zero, List.set_cons_succ, List.cons.injEq, and_true, true_and, exists_and_left, exists_and_right, and_assoc, V.int.injEq, V.bl.injEq, V.ref.injEq, V.str.injEq, reduceCtorEq, decide_true, decide_false, Bool.not_true, Bool.not_false, Bool.false_eq_true, if_false, if_true, ite_true, ite_false, List.length_cons, List.length_nil, tRaise, tErr, LamX.tLam, TTe])
    cases o with
    | none => exact is_notInt ho (by simpa [below] using q)
    | some i =>
      cases ho
      refine is_int ?_
      (try simp only [tVar, tC, tOp, tUn, rI, rI0, rU, rEq, rNe, scal, tTest, tB, tAnd, tOr, tNot, tAndV, tOrV, tNotV, tIf, tChain, tNil, tCons, tCB, tCall, tTup, tLst, tRet, tRetN, tDrop, tSeq, tNext, tIfS, tAsg, gName, tPar, tPar3, gNil, gCons, gTup, gSub, tAug, tSl, tNoPart, tPart, tBM, tBM0, tYes, tIsP, iSeq, iEnumA, RZ.iZipA, iRng1, iRng2, iList, iTup, rIsi, rIsB, rIxL, rIxT, rIxA, rLenA, rListOf, rTupOf, rSetL, rSlL, rCat, rAppend, tFld, sFld, tMake, tBits, Int.ofNat_inj, cast1, cast0, TruV, cxOf, Cx.nox, Cx.wish, tNever, tBreak, tCont, ipI, tDIn, tDNotIn, sDPut, tDNewT, tDNewK, tDGet, rSortedPO, rSortedI, rIn, rEqD, rNeD, rInD, rNotInD, tSSet, rIsV, rIntI, rIntB, rAbsN, tLstRg, tRg1, tRg2, List.append_nil, List.nil_append, List.cons_append, Option.some.injEq, exists_eq_left', exists_eq_left, exists_eq_right, exists_eq_right', List.getElem?_cons_zero, List.getElem?_cons_succ, List.set_cons_zero, List.set_cons_succ, List.cons.injEq, and_true, true_and, exists_and_left, exists_and_right, and_assoc, V.int.injEq, V.bl.injEq, V.ref.injEq, V.str.injEq, reduceCtorEq, decide_true, decide_false, Bool.not_true, Bool.not_false, Bool.false_eq_true, if_false, if_true, ite_true, ite_false, List.length_cons, List.length_nil, tRaise, tErr, LamX.tLam, TTe])
      unfold below at q
      split <;> simp_all
theorem below_i {i l : Int} {H : Hp} {Q : VK} {E : XK} (q : Q (.bl (decide (0 ≤ i) && decide (i < l))) H) : sp_is_below K [.int i, .int l] H Q E := ⟨_, some i, _, rfl, rfl, q⟩
theorem below_n {k n : Nat} {H : Hp} {Q : VK} {E : XK} (h : k < n) (q : Q (.bl true) H) : sp_is_below K [nv k, nv n] H Q E := by
  refine below_i ?_
  rw [decide_eq_true (Int.natCast_nonneg k), decide_eq_true (Int.ofNat_lt.mpr h)]
  exact q
def sp_is_between (K : PySem.W.Frag) : Sp := fun vs H Q _ => ∃ x o l m, vs = [x, .int l, .int m] ∧ AsInt K H x o ∧ Q (.bl (between l m o)) H
theorem ok_is_between (T : Tx P K mg) : FnOk P w K mg base CX0 2 T.a_is_between T.d_is_between ["value", "least", "greatest"] (sp_is_between K) := by
  refine T.F_is_between.ok sc_is_between (fun vs H Q E h => ?_) (fun cdv A outer s H vs Q E hr h => ?_)
  · obtain ⟨x, o, l, m, rfl, _⟩ := h
    rfl
  · obtain ⟨x, o, l, m, rfl, ho, q⟩ := h
    refine ⟨_, (pss_one (ps_ret (pe_and (pe_call (ok_is_integer T) (hr.mono (by decide)) (by rfl) T.g_is_integer T.F_is_integer.kp T.b_is_integer .nil pass0 (pa_cons (pv 0) pa_nil)) (pe_one (pe_chain op_le op_le (pv 1) (pv 0) (pv 2)))))), ?_⟩
    rw [show L2.start ["value", "least", "greatest"] [x, .int l, .int m] = [some (x), some (.int l), some (.int m)] from rfl]
    (try simp only [tVar, tC, tOp, tUn, rI, rI0, rU, rEq, rNe, scal, tTest, tB, tAnd, tOr, tNot, tAndV, tOrV, tNotV, tIf, tChain, tNil, tCons, tCB, tCall, tTup, tLst, tRet, tRetN, tDrop, tSeq, tNext, tIfS, tAsg, gName, tPar, tPar3, gNil, gCons, gTup, gSub, tAug, tSl, tNoPart, tPart, tBM, tBM0, tYes, tIsP, iSeq, iEnumA, RZ.iZipA, iRng1, iRng2, iList, iTup, rIsi, rIsB, rIxL, rIxT, rIxA, rLenA, rListOf, rTupOf, rSetL, rSlL, rCat, rAppend, tFld, sFld, tMake, tBits, Int.ofNat_inj, cast1, cast0, TruV, cxOf, Cx.nox, Cx.wish, tNever, tBreak, tCont, ipI, tDIn, tDNotIn, sDPut, tDNewT, tDNewK, tDGet, rSortedPO, rSortedI, rIn, rEqD, rNeD, rInD, rNotInD, tSSet, rIsV, rIntI, rIntB, rAbsN, tLstRg, tRg1, tRg2, List.append_nil, List.nil_append, List.cons_append, Option.some.injEq, exists_eq_left', exists_eq_left, exists_eq_right, exists_eq_right', List.getElem?_cons_zero, List.getElem?_cons_succ, List.set_cons_zero, List.set_cons_succ, List.cons.injEq, and_true, true_and, exists_and_left, exists_and_right, and_assoc, V.int.injEq, V.bl.injEq, V.ref.injEq, V.str.injEq, reduceCtorEq, decide_true, decide_false, Bool.not_true, Bool.not_false, Bool.false_eq_true, if_false, if_true, ite_true, ite_false, List.length_cons, List.length_nil, tRaise, tErr, LamX.tLam, TTe])
    cases o with
    | none => exact is_notInt ho (by simpa [between] using q)
    | some i =>
      cases ho
      refine is_int ?_
      (try simp only [tVar, tC, tOp, tUn, rI, rI0, rU, rEq, rNe, scal, tTest, tB, tAnd, tOr, tNot, tAndV, tOrV, tNotV, tIf, tChain, tNil, tCons, tCB, tCall, tTup, tLst, tRet, tRetN, tDrop, tSeq, tNext, tIfS, tAsg, gName, tPar, tPar3, gNil, gCons, gTup, gSub, tAug, tSl, tNoPart, tPart, tBM, tBM0, tYes, tIsP, iSeq, iEnumA, RZ.iZipA, iRng1, iRng2, iList, iTup, rIsi, rIsB, rIxL, rIxT, rIxA, rLenA, rListOf, rTupOf, rSetL, rSlL, rCat, rAppend, tFld, sFld, tMake, tBits, Int.ofNat_inj, cast1, cast0, TruV, cxOf, Cx.nox, Cx.wish, tNever, tBreak, tCont, ipI, tDIn, tDNotIn, sDPut, tDNewT, tDNewK, tDGet, rSortedPO, rSortedI, rIn, rEqD, rNeD, rInD, rNotInD, tSSet, rIsV, rIntI, rIntB, rAbsN, tLstRg, tRg1, tRg2, List.append_nil, List.nil_append, List.cons_append, Option.some.injEq, exists_eq_left', exists_eq_left, exists_eq_right, exists_eq_right', List.getElem?_cons_zero, List.getElem?_cons_succ, List.set_cons_zero, List.set_cons_succ, List.cons.injEq, and_true, true_and, exists_and_left, exists_and_right, and_assoc, V.int.injEq, V.bl.injEq, V.ref.injEq, V.str.injEq, reduceCtorEq, decide_true, decide_false, Bool.not_true, Bool.not_false, Bool.false_eq_true, if_false, if_true, ite_true, ite_false, List.length_cons, List.length_nil, tRaise, tErr, LamX.tLam, TTe])
      unfold between at q
      split <;> simp_all
theorem between_i {i l m : Int} {H : Hp} {Q : VK} {E : XK} (q : Q (.bl (decide (l ≤ i) && decide (i ≤ m))) H) : sp_is_between K [.int i, .int l, .int m] H Q E := ⟨_, some i, _, _, rfl, rfl, q⟩
def sp_is_sequence (K : PySem.W.Frag) : Sp := fun vs H Q _ => ∃ x t b, vs = [x] ∧ TyX K H x t ∧ PySem.W.kitAny K t [.type "list", .type "tuple"] = some b ∧ Q (.bl b) H
theorem ok_is_sequence (T : Tx P K mg) : FnOk P w K mg base CX0 1 T.a_is_sequence T.d_is_sequence ["value"] (sp_is_sequence K) := by
  refine T.F_is_sequence.ok sc_is_sequence (fun vs H Q E h => ?_) (fun cdv A outer s H vs Q E hr h => ?_)
  · obtain ⟨x, t, b, rfl, _⟩ := h
    rfl
  · obtain ⟨x, t, b, rfl, ht, hb, q⟩ := h
    refine ⟨_, (pss_one (ps_ret (isPK (K := K) (A := "list") (B := "tuple") rfl (pv 0) (by rfl) T.n_isinstance (pa_cons (pe_bltn (v := .ty "list") (by rfl) T.n_list (by decide +kernel) rfl) (pa_cons (pe_bltn (v := .ty "tuple") (by rfl) T.n_tuple (by decide +kernel) rfl) pa_nil))))), ?_⟩
    exact ⟨x, rfl, t, b, ht, hb, q⟩
theorem is_seq {H : Hp} {Q : VK} {E : XK} {a : Addr} {xs : List V} (s : Seq K H a xs) (q : Q (.bl true) H) : sp_is_sequence K [.ref a] H Q E := by
  rcases s with s | s
  · exact ⟨_, _, _, rfl, tyL s, kit_lp, q⟩
  · exact ⟨_, _, _, rfl, tyT s, kit_tp, q⟩
def sp_is_row (K : PySem.W.Frag) : Sp := fun vs H Q _ => ∃ x t b l, vs = [x, .int l] ∧ TyX K H x t ∧ PySem.W.kitAny K t [.type "list", .type "tuple"] = some b ∧ (b = false → Q (.bl false) H) ∧
  (b = true → ∃ a xs, x = .ref a ∧ Seq K H a xs ∧ Q (.bl (decide ((xs.length : Int) = l))) H)
theorem ok_is_row (T : Tx P K mg) : FnOk P w K mg base CX0 2 T.a_is_row T.d_is_row ["value", "many"] (sp_is_row K) := by
  refine T.F_is_row.ok sc_is_row (fun vs H Q E h => ?_) (fun cdv A outer s H vs Q E hr h => ?_)
  · obtain ⟨x, t, b, l, rfl, _⟩ := h
    rfl
  · obtain ⟨x, t, b, l, rfl, ht, hb, q0, q1⟩ := h
    refine ⟨_, (pss_one (ps_ret (pe_and (pe_call (ok_is_sequence T) (hr.mono (by decide)) (by rfl) T.g_is_sequence T.F_is_sequence.kp T.b_is_sequence .nil pass0 (pa_cons (pv 0) pa_nil)) (pe_one (pe_cmpR op_eq (pe_callB (lenK (K := K) rfl) (by rfl) T.n_len PySem.boot_len (pa_cons (pv 0) pa_nil)) (pv 1) (nomark _)))))), ?_⟩
    rw [show L2.start ["value", "many"] [x, .int l] = [some (x), some (.int l)] from rfl]
    (try simp only [tVar, tC, tOp, tUn, rI, rI0, rU, rEq, rNe, scal, tTest, tB, tAnd, tOr, tNot, tAndV, tOrV, tNotV, tIf, tChain, tNil, tCons, tCB, tCall, tTup, tLst, tRet, tRetN, tDrop, tSeq, tNext, tIfS, tAsg, gName, tPar, tPar3, gNil, gCons, gTup, gSub, tAug, tSl, tNoPart, tPart, tBM, tBM0, tYes, tIsP, iSeq, iEnumA, RZ.iZipA, iRng1, iRng2, iList, iTup, rIsi, rIsB, rIxL, rIxT, rIxA, rLenA, rListOf, rTupOf, rSetL, rSlL, rCat, rAppend, tFld, sFld, tMake, tBits, Int.ofNat_inj, cast1, cast0, TruV, cxOf, Cx.nox, Cx.wish, tNever, tBreak, tCont, ipI, tDIn, tDNotIn, sDPut, tDNewT, tDNewK, tDGet, rSortedPO, rSortedI, rIn, rEqD, rNeD, rInD, rNotInD, tSSet, rIsV, rIntI, rIntB, rAbsN, tLstRg, tRg1, tRg2, List.append_nil, List.nil_append, List.cons_append, Option.some.injEq, exists_eq_left', exists_eq_left, exists_eq_right, exists_eq_right', List.getElem?_cons_zero, List.getElem?_cons_succ, List.set_cons_zero, List.set_cons_succ, List.cons.injEq, and_true, true_and, exists_and_left, exists_and_right, and_assoc, V.int.injEq, V.bl.injEq, V.ref.injEq, V.str.injEq, reduceCtorEq, decide_true, decide_false, Bool.not_true, Bool.not_false, Bool.false_eq_true, if_false, if_true, ite_true, ite_false, List.length_cons, List.length_nil, tRaise, tErr, LamX.tLam, TTe])
    refine ⟨_, _, _, rfl, ht, hb, ?_⟩
    cases b with
    | false => exact ⟨false, rfl, iteF (q0 rfl)⟩
    | true =>
      obtain ⟨a, xs, rfl, hs, q⟩ := q1 rfl
      refine ⟨true, rfl, iteT ?_⟩
      (try simp only [tVar, tC, tOp, tUn, rI, rI0, rU, rEq, rNe, scal, tTest, tB, tAnd, tOr, tNot, tAndV, tOrV, tNotV, tIf, tChain, tNil, tCons, tCB, tCall, tTup, tLst, tRet, tRetN, tDrop, tSeq, tNext, tIfS, tAsg, gName, tPar, tPar3, gNil, gCons, gTup, gSub, tAug, tSl, tNoPart, tPart, tBM, tBM0, tYes, tIsP, iSeq, iEnumA, RZ.iZipA, iRng1, iRng2, iList, iTup, rIsi, rIsB, rIxL, rIxT, rIxA, rLenA, rListOf, rTupOf, rSetL, rSlL, rCat, rAppend, tFld, sFld, tMake, tBits, Int.ofNat_inj, cast1, cast0, TruV, cxOf, Cx.nox, Cx.wish, tNever, tBreak, tCont, ipI, tDIn, tDNotIn, sDPut, tDNewT, tDNewK, tDGet, rSortedPO, rSortedI, rIn, rEqD, rNeD, rInD, rNotInD, tSSet, rIsV, rIntI, rIntB, rAbsN, tLstRg, tRg1, tRg2, List.append_nil, List.nil_append, List.cons_append, Option.some.injEq, exists_eq_left', exists_eq_left, exists_eq_right, exists_eq_right', List.getElem?_cons_zero, List.getElem?_cons_succ, List.set_cons_zero, List.set_cons_succ, List.cons.injEq, and_true, true_and, exists_and_left, exists_and_right, and_assoc, V.int.injEq, V.bl.injEq, V.ref.injEq, V.str.injEq, reduceCtorEq, decide_true, decide_false, Bool.not_true, Bool.not_false, Bool.false_eq_true, if_false, if_true, ite_true, ite_false, List.length_cons, List.length_nil, tRaise, tErr, LamX.tLam, TTe])
      exact ⟨xs, hs, q⟩
theorem row_i {a : Addr} {xs : List V} {l : Int} {H : Hp} {Q : VK} {E : XK} (h : Seq K H a xs) (q : Q (.bl (decide ((xs.length : Int) = l))) H) : sp_is_row K [.ref a, .int l] H Q E := by
  rcases h with h | h
  · exact ⟨_, _, _, _, rfl, tyL h, kit_lp, (fun z => nomatch z), fun _ => ⟨_, _, rfl, .inl h, q⟩⟩
  · exact ⟨_, _, _, _, rfl, tyT h, kit_tp, (fun z => nomatch z), fun _ => ⟨_, _, rfl, .inr h, q⟩⟩
/-! ### masks -/
/-- the numbers of the bits, ascending -/
def bits (m : Nat) : List Nat := (List.range (Builtin.Int.intBits (m : Int))).filter m.testBit
theorem mem_bits {m k : Nat} (hm : m < 2 ^ 62) : k ∈ bits m ↔ m.testBit k = true := by
  unfold bits
  rw [List.mem_filter, List.mem_range]
  refine ⟨fun h => h.2, fun h => ⟨?_, h⟩⟩
  have e : Builtin.Int.intBits (m : Int) = if m = 0 then 0 else m.log2 + 1 := by
    unfold Builtin.Int.intBits
    simp
  rw [e]
  have hm0 : m ≠ 0 := fun z => by rw [z, Nat.zero_testBit] at h; cases h
  rw [if_neg hm0]
  have := Nat.ge_two_pow_of_testBit h
  have := (Nat.le_log2 hm0).mpr this
  omega
theorem bits_below {m n k : Nat} (hm : m < 2 ^ n) (h : k ∈ bits m) : k < n := by
  unfold bits at h
  have hb := (List.mem_filter.mp h).2
  have := Nat.ge_two_pow_of_testBit hb
  exact (Nat.pow_lt_pow_iff_right (by decide : 1 < 2)).mp (Nat.lt_of_le_of_lt this hm)
theorem odd_test (m k : Nat) : (((m >>> k &&& 1 : Nat) : Int) != 0) = m.testBit k := by
  unfold Nat.testBit
  rw [Nat.and_comm, Bool.eq_iff_iff]
  simp only [bne_iff_ne, ne_eq]
  omega
theorem bits_lt {m : Nat} (h : m < 2 ^ 62) : Builtin.Int.intBits (m : Int) ≤ 62 := by
  have : Builtin.Int.intBits (m : Int) = if m = 0 then 0 else m.log2 + 1 := by
    unfold Builtin.Int.intBits
    simp
  rw [this]
  split
  · omega
  · rename_i hm
    have := (Nat.log2_lt hm).mpr h
    omega
def maskOf (l : List Nat) : Nat := l.foldl (fun m k => m ||| 1 <<< k) 0
theorem maskOf_take {l : List Nat} {i k : Nat} (h : l[i]? = some k) : maskOf (l.take (i + 1)) = maskOf (l.take i) ||| 1 <<< k := by
  unfold maskOf
  rw [List.take_add_one, h, List.foldl_append]
  rfl
theorem nvs_at {l : List Nat} {i : Nat} {x : V} (h : (nvs l)[i]? = some x) : ∃ k, l[i]? = some k ∧ x = nv k := by
  rw [List.getElem?_map] at h
  cases e : l[i]? with
  | none => rw [e] at h; cases h
  | some k => rw [e] at h; exact ⟨k, rfl, (Option.some.inj h).symm⟩
def sp_lot_of (K : PySem.W.Frag) : Sp := fun vs H Q _ => ∃ m : Nat, vs = [nv m] ∧ m < 2 ^ 62 ∧ ∀ H' p, Same H H' → H p = none → H' p = some (.tup (nvs (bits m))) → Q (.ref p) H'
theorem ok_lot_of (T : Tx P K mg) : FnOk P w K mg base CX0 1 T.a_lot_of T.d_lot_of ["mask"] (sp_lot_of K) := by
  refine T.F_lot_of.ok sc_lot_of (fun vs H Q E h => ?_) (fun cdv A outer s H vs Q E hr h => ?_)
  · obtain ⟨m, rfl, _⟩ := h
    rfl
  · obtain ⟨m, rfl, hm, q⟩ := h
    refine ⟨_, (pss_one (ps_ret (pe_callTy (tupOfK (K := K) rfl) (by rfl) T.n_tuple (by decide +kernel) (pa_cons (pe_lc (own := [("key", 1)]) (by rfl) sc_lot_of.nd (pi_range1 (by rfl) T.n_range (pa_cons (pe_bits (pv 0)) pa_nil)) (blkOk_by (own := [("key", 1)]) (N := ["mask", "key"]) (sc := defScope s_lot_of) (by decide +kernel)) (fun _ _ _ _ _ => (pg_name (i := 1) sc_lot_of.nd rfl (by first | exact Or.inl rfl | exact Or.inr rfl))) (fun _ _ _ _ _ => (pts_one (truthK (K := K) rfl (pe_op op_andU (pe_op op_shrU (pv 0) (pv 1)) pe_int) (by intro _; rfl)))) (fun _ _ _ _ _ => (pv 1))) pa_nil)))), ?_⟩
    rw [show L2.start ["mask", "key"] [nv m] = [some (nv m), none] from rfl]
    generalize hL1 : tLc _ _ _ _ _ = L1
    (try simp only [tVar, tC, tOp, tUn, rI, rI0, rU, rEq, rNe, scal, tTest, tB, tAnd, tOr, tNot, tAndV, tOrV, tNotV, tIf, tChain, tNil, tCons, tCB, tCall, tTup, tLst, tRet, tRetN, tDrop, tSeq, tNext, tIfS, tAsg, gName, tPar, tPar3, gNil, gCons, gTup, gSub, tAug, tSl, tNoPart, tPart, tBM, tBM0, tYes, tIsP, iSeq, iEnumA, RZ.iZipA, iRng1, iRng2, iList, iTup, rIsi, rIsB, rIxL, rIxT, rIxA, rLenA, rListOf, rTupOf, rSetL, rSlL, rCat, rAppend, tFld, sFld, tMake, tBits, Int.ofNat_inj, cast1, cast0, TruV, cxOf, Cx.nox, Cx.wish, tNever, tBreak, tCont, ipI, tDIn, tDNotIn, sDPut, tDNewT, tDNewK, tDGet, rSortedPO, rSortedI, rIn, rEqD, rNeD, rInD, rNotInD, tSSet, rIsV, rIntI, rIntB, rAbsN, tLstRg, tRg1, tRg2, List.append_nil, List.nil_append, List.cons_append, Option.some.injEq, exists_eq_left', exists_eq_left, exists_eq_right, exists_eq_right', List.getElem?_cons_zero, List.getElem?_cons_succ, List.set_cons_zero, List.set_cons_succ, List.cons.injEq, and_true, true_and, exists_and_left, exists_and_right, and_assoc, V.int.injEq, V.bl.injEq, V.ref.injEq, V.str.injEq, reduceCtorEq, decide_true, decide_false, Bool.not_true, Bool.not_false, Bool.false_eq_true, if_false, if_true, ite_true, ite_false, List.length_cons, List.length_nil, tRaise, tErr, LamX.tLam, TTe])
    subst hL1
    refine lcR1 (Builtin.Int.intBits (m : Int)) m.testBit nv (fun R h => ?_) ?_ (fun i H' Q1 Q2 hi e q1 q2 => ?_) fun L hL => ?_
    · (try simp only [tVar, tC, tOp, tUn, rI, rI0, rU, rEq, rNe, scal, tTest, tB, tAnd, tOr, tNot, tAndV, tOrV, tNotV, tIf, tChain, tNil, tCons, tCB, tCall, tTup, tLst, tRet, tRetN, tDrop, tSeq, tNext, tIfS, tAsg, gName, tPar, tPar3, gNil, gCons, gTup, gSub, tAug, tSl, tNoPart, tPart, tBM, tBM0, tYes, tIsP, iSeq, iEnumA, RZ.iZipA, iRng1, iRng2, iList, iTup, rIsi, rIsB, rIxL, rIxT, rIxA, rLenA, rListOf, rTupOf, rSetL, rSlL, rCat, rAppend, tFld, sFld, tMake, tBits, Int.ofNat_inj, cast1, cast0, TruV, cxOf, Cx.nox, Cx.wish, tNever, tBreak, tCont, ipI, tDIn, tDNotIn, sDPut, tDNewT, tDNewK, tDGet, rSortedPO, rSortedI, rIn, rEqD, rNeD, rInD, rNotInD, tSSet, rIsV, rIntI, rIntB, rAbsN, tLstRg, tRg1, tRg2, List.append_nil, List.nil_append, List.cons_append, Option.some.injEq, exists_eq_left', exists_eq_left, exists_eq_right, exists_eq_right', List.getElem?_cons_zero, List.getElem?_cons_succ, List.set_cons_zero, List.set_cons_succ, List.cons.injEq, and_true, true_and, exists_and_left, exists_and_right, and_assoc, V.int.injEq, V.bl.injEq, V.ref.injEq, V.str.injEq, reduceCtorEq, decide_true, decide_false, Bool.not_true, Bool.not_false, Bool.false_eq_true, if_false, if_true, ite_true, ite_false, List.length_cons, List.length_nil, tRaise, tErr, LamX.tLam, TTe])
      exact h
    · have := bits_lt hm
      omega
    · (try simp only [tVar, tC, tOp, tUn, rI, rI0, rU, rEq, rNe, scal, tTest, tB, tAnd, tOr, tNot, tAndV, tOrV, tNotV, tIf, tChain, tNil, tCons, tCB, tCall, tTup, tLst, tRet, tRetN, tDrop, tSeq, tNext, tIfS, tAsg, gName, tPar, tPar3, gNil, gCons, gTup, gSub, tAug, tSl, tNoPart, tPart, tBM, tBM0, tYes, tIsP, iSeq, iEnumA, RZ.iZipA, iRng1, iRng2, iList, iTup, rIsi, rIsB, rIxL, rIxT, rIxA, rLenA, rListOf, rTupOf, rSetL, rSlL, rCat, rAppend, tFld, sFld, tMake, tBits, Int.ofNat_inj, cast1, cast0, TruV, cxOf, Cx.nox, Cx.wish, tNever, tBreak, tCont, ipI, tDIn, tDNotIn, sDPut, tDNewT, tDNewK, tDGet, rSortedPO, rSortedI, rIn, rEqD, rNeD, rInD, rNotInD, tSSet, rIsV, rIntI, rIntB, rAbsN, tLstRg, tRg1, tRg2, List.append_nil, List.nil_append, List.cons_append, Option.some.injEq, exists_eq_left', exists_eq_left, exists_eq_right, exists_eq_right', List.getElem?_cons_zero, List.getElem?_cons_succ, List.set_cons_zero, List.set_cons_succ, List.cons.injEq, and_true, true_and, exists_and_left, exists_and_right, and_assoc, V.int.injEq, V.bl.injEq, V.ref.injEq, V.str.injEq, reduceCtorEq, decide_true, decide_false, Bool.not_true, Bool.not_false, Bool.false_eq_true, if_false, if_true, ite_true, ite_false, List.length_cons, List.length_nil, tRaise, tErr, LamX.tLam, TTe])
      rw [odd_test]
      cases ht : m.testBit i
      · exact q2 ht
      · exact q1 ht
    · (try simp only [tVar, tC, tOp, tUn, rI, rI0, rU, rEq, rNe, scal, tTest, tB, tAnd, tOr, tNot, tAndV, tOrV, tNotV, tIf, tChain, tNil, tCons, tCB, tCall, tTup, tLst, tRet, tRetN, tDrop, tSeq, tNext, tIfS, tAsg, gName, tPar, tPar3, gNil, gCons, gTup, gSub, tAug, tSl, tNoPart, tPart, tBM, tBM0, tYes, tIsP, iSeq, iEnumA, RZ.iZipA, iRng1, iRng2, iList, iTup, rIsi, rIsB, rIxL, rIxT, rIxA, rLenA, rListOf, rTupOf, rSetL, rSlL, rCat, rAppend, tFld, sFld, tMake, tBits, Int.ofNat_inj, cast1, cast0, TruV, cxOf, Cx.nox, Cx.wish, tNever, tBreak, tCont, ipI, tDIn, tDNotIn, sDPut, tDNewT, tDNewK, tDGet, rSortedPO, rSortedI, rIn, rEqD, rNeD, rInD, rNotInD, tSSet, rIsV, rIntI, rIntB, rAbsN, tLstRg, tRg1, tRg2, List.append_nil, List.nil_append, List.cons_append, Option.some.injEq, exists_eq_left', exists_eq_left, exists_eq_right, exists_eq_right', List.getElem?_cons_zero, List.getElem?_cons_succ, List.set_cons_zero, List.set_cons_succ, List.cons.injEq, and_true, true_and, exists_and_left, exists_and_right, and_assoc, V.int.injEq, V.bl.injEq, V.ref.injEq, V.str.injEq, reduceCtorEq, decide_true, decide_false, Bool.not_true, Bool.not_false, Bool.false_eq_true, if_false, if_true, ite_true, ite_false, List.length_cons, List.length_nil, tRaise, tErr, LamX.tLam, TTe])
      exact ⟨_, .inl ⟨.of upd_same, fun l hl => q _ l (Same.mk2 hL hl) (back (same_new hL) hl) upd_same⟩⟩
def sp_mask_of (K : PySem.W.Frag) : Sp := fun vs H Q _ => ∃ a ns, vs = [.ref a] ∧ Seq K H a (nvs ns) ∧ (∀ n ∈ ns, n < 64) ∧ Q (nv (maskOf ns)) H
end
end Kr
namespace Kr
open PySem PySem.Spec PyProof.Rows L2 Kb
section
variable {P : Program} {w : World} {K : PySem.W.Frag} {mg : Str → Option Value} {base : Heap}
/-! ### keys -/
def sp_need_count (K : PySem.W.Frag) : Sp := fun vs H Q _ => ∃ i l m, vs = [.int i, .int l, .int m] ∧ (l ≤ i ∧ i ≤ m) ∧ Q .non H
theorem ok_need_count (T : Tx P K mg) : FnOk P w K mg base CX0 3 T.a_need_count T.d_need_count ["value", "least", "greatest"] (sp_need_count K) := by
  refine T.F_need_count.ok sc_need_count (fun vs H Q E h => ?_) (fun cdv A outer s H vs Q E hr h => ?_)
  · obtain ⟨i, l, m, rfl, _⟩ := h
    rfl
  · obtain ⟨i, l, m, rfl, ⟨h1, h2⟩, q⟩ := h
    refine ⟨_, (pss_one (ps_if (pt_not (pt_val (pe_call (ok_is_between T) (hr.mono (by decide)) (by rfl) T.g_is_between T.F_is_between.kp T.b_is_between .nil pass0 (pa_cons (pv 0) (pa_cons (pv 1) (pa_cons (pv 2) pa_nil)))))) (pss_one ps_never) pss_nil)), ?_⟩
    rw [show L2.start ["value", "least", "greatest"] [.int i, .int l, .int m] = [some (.int i), some (.int l), some (.int m)] from rfl]
    (try simp only [tVar, tC, tOp, tUn, rI, rI0, rU, rEq, rNe, scal, tTest, tB, tAnd, tOr, tNot, tAndV, tOrV, tNotV, tIf, tChain, tNil, tCons, tCB, tCall, tTup, tLst, tRet, tRetN, tDrop, tSeq, tNext, tIfS, tAsg, gName, tPar, tPar3, gNil, gCons, gTup, gSub, tAug, tSl, tNoPart, tPart, tBM, tBM0, tYes, tIsP, iSeq, iEnumA, RZ.iZipA, iRng1, iRng2, iList, iTup, rIsi, rIsB, rIxL, rIxT, rIxA, rLenA, rListOf, rTupOf, rSetL, rSlL, rCat, rAppend, tFld, sFld, tMake, tBits, Int.ofNat_inj, cast1, cast0, TruV, cxOf, Cx.nox, Cx.wish, tNever, tBreak, tCont, ipI, tDIn, tDNotIn, sDPut, tDNewT, tDNewK, tDGet, rSortedPO, rSortedI, rIn, rEqD, rNeD, rInD, rNotInD, tSSet, rIsV, rIntI, rIntB, rAbsN, tLstRg, tRg1, tRg2, List.append_nil, List.nil_append, List.cons_append, Option.some.injEq, exists_eq_left', exists_eq_left, exists_eq_right, exists_eq_right', List.getElem?_cons_zero, List.getElem?_cons_succ, List.set_cons_zero, List.set_cons_succ, List.cons.injEq, and_true, true_and, exists_and_left, exists_and_right, and_assoc, V.int.injEq, V.bl.injEq, V.ref.injEq, V.str.injEq, reduceCtorEq, decide_true, decide_false, Bool.not_true, Bool.not_false, Bool.false_eq_true, if_false, if_true, ite_true, ite_false, List.length_cons, List.length_nil, tRaise, tErr, LamX.tLam, TTe])
    refine between_i ?_
    rw [decide_eq_true h1, decide_eq_true h2]
    (try simp only [tVar, tC, tOp, tUn, rI, rI0, rU, rEq, rNe, scal, tTest, tB, tAnd, tOr, tNot, tAndV, tOrV, tNotV, tIf, tChain, tNil, tCons, tCB, tCall, tTup, tLst, tRet, tRetN, tDrop, tSeq, tNext, tIfS, tAsg, gName, tPar, tPar3, gNil, gCons, gTup, gSub, tAug, tSl, tNoPart, tPart, tBM, tBM0, tYes, tIsP, iSeq, iEnumA, RZ.iZipA, iRng1, iRng2, iList, iTup, rIsi, rIsB, rIxL, rIxT, rIxA, rLenA, rListOf, rTupOf, rSetL, rSlL, rCat, rAppend, tFld, sFld, tMake, tBits, Int.ofNat_inj, cast1, cast0, TruV, cxOf, Cx.nox, Cx.wish, tNever, tBreak, tCont, ipI, tDIn, tDNotIn, sDPut, tDNewT, tDNewK, tDGet, rSortedPO, rSortedI, rIn, rEqD, rNeD, rInD, rNotInD, tSSet, rIsV, rIntI, rIntB, rAbsN, tLstRg, tRg1, tRg2, List.append_nil, List.nil_append, List.cons_append, Option.some.injEq, exists_eq_left', exists_eq_left, exists_eq_right, exists_eq_right', List.getElem?_cons_zero, List.getElem?_cons_succ, List.set_cons_zero, List.set_cons_succ, List.cons.injEq, and_true, true_and, exists_and_left, exists_and_right, and_assoc, V.int.injEq, V.bl.injEq, V.ref.injEq, V.str.injEq, reduceCtorEq, decide_true, decide_false, Bool.not_true, Bool.not_false, Bool.false_eq_true, if_false, if_true, ite_true, ite_false, List.length_cons, List.length_nil, tRaise, tErr, LamX.tLam, TTe])
    exact q
abbrev NP := Nat × Nat
/-- these pairs, each a tuple of its own -/
def Prs (H : Hp) (xs : List V) (ps : List NP) : Prop := Paired (fun (x : V) (p : NP) => ∃ a, x = .ref a ∧ H a = some (.tup [nv p.1, nv p.2])) xs ps
theorem Prs.same {H H' : Hp} {xs : List V} {ps : List NP} (e : Same H H') (h : Prs H xs ps) : Prs H' xs ps := Paired.mapP h fun _ _ ⟨a, e1, e2⟩ => ⟨a, e1, e _ _ e2⟩
theorem Prs.len {H : Hp} {xs : List V} {ps : List NP} (h : Prs H xs ps) : xs.length = ps.length := Paired.length h
theorem Prs.at {H : Hp} : ∀ {xs : List V} {ps : List NP} {i : Nat} {x : V}, Prs H xs ps → xs[i]? = some x → ∃ p a, ps[i]? = some p ∧ x = .ref a ∧ H a = some (.tup [nv p.1, nv p.2])
  | _, _, _, _, .nil, e => by simp at e
  | _, _, 0, _, .cons ⟨a, e1, e2⟩ _, e => by
    have z := Option.some.inj e
    exact ⟨_, a, rfl, z ▸ e1, e2⟩
  | _, _, i + 1, _, .cons _ t, e => Prs.at (i := i) t e
def kof (p : NP) : List Key := [.inl (p.1 : Int), .inl (p.2 : Int)]
theorem kof_inj {p q : NP} (h : kof p = kof q) : p = q := by
  unfold kof at h
  injection h with h1 h2
  injection h2 with h2 _
  injection h1 with h1
  injection h2 with h2
  obtain ⟨a, b⟩ := p
  obtain ⟨c, d⟩ := q
  simp only [Prod.mk.injEq]
  omega
def ent (p : NP) : List Key × V := (kof p, .bl true)
theorem val_none {ps : List NP} {p : NP} (h : p ∉ ps) : valV (ps.map ent) (kof p) = none := by
  induction ps with
  | nil => rfl
  | cons q r ih =>
    rw [List.map_cons, valV_neg (fun e => h (by rw [kof_inj e]; exact List.mem_cons_self))]
    exact ih fun m => h (List.mem_cons_of_mem _ m)
theorem put_new {ps : List NP} {p : NP} (h : p ∉ ps) : putK (ps.map ent) (kof p) (.bl true) = (ps ++ [p]).map ent := by
  unfold putK
  rw [valV_any, val_none h, List.map_append]
  rfl
def enK (k : Nat) : Key × V := (.inl (k : Int), .bl true)
theorem valk_none {ns : List Nat} {k : Nat} (h : k ∉ ns) : valV (ns.map enK) (.inl (k : Int)) = none := by
  induction ns with
  | nil => rfl
  | cons q r ih =>
    rw [List.map_cons, valV_neg (fun e => h (by injection e with e; rw [show k = q by omega]; exact List.mem_cons_self))]
    exact ih fun m => h (List.mem_cons_of_mem _ m)
theorem putk_new {ns : List Nat} {k : Nat} (h : k ∉ ns) : putK (ns.map enK) (.inl (k : Int)) (.bl true) = (ns ++ [k]).map enK := by
  unfold putK
  rw [valV_any, valk_none h, List.map_append]
  rfl
theorem not_in_take {α : Type} {l : List α} {i : Nat} {x : α} (nd : l.Nodup) (h : l[i]? = some x) : x ∉ l.take i := fun m => by
  obtain ⟨j, hj, e⟩ := List.mem_iff_getElem.mp m
  rw [List.length_take] at hj
  rw [List.getElem_take] at e
  have hj2 : l[j]? = some x := by rw [List.getElem?_eq_getElem (by omega), e]
  have := nd_ix nd hj2 h
  omega
/-- the pairs in their order -/
def lexle (p q : NP) : Prop := p.1 < q.1 ∨ (p.1 = q.1 ∧ p.2 ≤ q.2)
theorem prs_keys {H : Hp} : ∀ {ps : List NP} {bs : List Addr}, IsKeys H (ps.map ent) bs → Prs H (bs.map V.ref) ps
  | [], [], .nil => .nil
  | _ :: _, b :: _, .cons h t => .cons ⟨b, rfl, h⟩ (prs_keys t)
/-- a pair, out of the heap -/
def dec (H : Hp) (x : V) : Int × Int := match x with
  | .ref t => match H t with
    | some (.tup [.int a, .int b]) => (a, b)
    | _ => (0, 0)
  | _ => (0, 0)
theorem dec_of {H : Hp} {t : Addr} {a b : Int} (h : H t = some (.tup [.int a, .int b])) : dec H (.ref t) = (a, b) := by
  unfold dec
  simp only [h]
def decN (H : Hp) (x : V) : NP := ((dec H x).1.toNat, (dec H x).2.toNat)
def decs (H : Hp) (ys : List V) : List NP := ys.map (decN H)
theorem decN_of {H : Hp} {t : Addr} {p : NP} (h : H t = some (.tup [nv p.1, nv p.2])) : decN H (.ref t) = p := by
  unfold decN
  rw [dec_of h]
  exact Prod.ext (Int.toNat_natCast _) (Int.toNat_natCast _)
theorem Prs.decs {H : Hp} : ∀ {xs : List V} {ps : List NP}, Prs H xs ps → decs H xs = ps
  | _, _, .nil => rfl
  | _, _, .cons ⟨t, e1, e2⟩ r => by
    subst e1
    show decN H (.ref t) :: Kr.decs H _ = _
    rw [decN_of e2, Prs.decs r]
theorem prs_self {H : Hp} : ∀ {ys : List V}, (∀ y ∈ ys, ∃ t p, y = .ref t ∧ H t = some (.tup [nv p.1, nv (p : NP).2])) → Prs H ys (decs H ys)
  | [], _ => .nil
  | y :: r, h => by
    obtain ⟨t, p, rfl, e⟩ := h y List.mem_cons_self
    refine .cons ⟨t, rfl, ?_⟩ (prs_self fun z hz => h z (List.mem_cons_of_mem _ hz))
    rw [decN_of e]
    exact e
theorem sort_prs {H : Hp} {xs ys : List V} {ps : List NP} (h : Prs H xs ps) (hp : ys.Perm xs) : Prs H ys (decs H ys) ∧ (decs H ys).Perm ps := by
  refine ⟨prs_self fun y hy => ?_, ?_⟩
  · obtain ⟨i, hi⟩ := List.mem_iff_getElem?.mp (hp.mem_iff.mp hy)
    obtain ⟨p, b, _, rfl, eb⟩ := Prs.at h hi
    exact ⟨b, p, rfl, eb⟩
  · have := hp.map (decN H)
    rw [show xs.map (decN H) = ps from h.decs] at this
    exact this
theorem sort_lex {H : Hp} {ys : List V} (h : Prs H ys (decs H ys)) (hs : SrtO.Srtd (ltP (dec H)) ys) : (decs H ys).Pairwise lexle := by
  have key : ∀ y ∈ ys, dec H y = (((decN H y).1 : Int), ((decN H y).2 : Int)) := by
    intro y hy
    obtain ⟨i, hi⟩ := List.mem_iff_getElem?.mp hy
    obtain ⟨p, b, _, rfl, eb⟩ := Prs.at h hi
    rw [decN_of eb, dec_of eb]
  refine List.pairwise_map.mpr (hs.imp_of_mem fun {a b} ha hb hab => ?_)
  have e := SrtO.lexB_no.mp hab
  rw [key a ha, key b hb] at e
  unfold lexle
  simp only at e
  omega
def GoodPairs (n : Nat) (ps : List NP) : Prop := ps.Nodup ∧ ∀ p ∈ ps, p.1 ≤ p.2 ∧ p.2 < n
def sp_told_clashes (K : PySem.W.Frag) : Sp := fun vs H Q _ => ∃ a xs ps n, vs = [.ref a, nv n] ∧ Seq K H a xs ∧ Prs H xs ps ∧ GoodPairs n ps ∧ ps.length ≤ 1000 ∧
  ∀ H' p ys qs, Same H H' → H p = none → H' p = some (.tup ys) → Prs H' ys qs → qs.Perm ps → qs.Pairwise lexle → Q (.ref p) H'
theorem ok_told_clashes (T : Tx P K mg) : FnOk P w K mg base CX0 3 T.a_told_clashes T.d_told_clashes ["value", "many"] (sp_told_clashes K) := by
  refine T.F_told_clashes.ok sc_told_clashes (fun vs H Q E h => ?_) (fun cdv A outer s H vs Q E hr h => ?_)
  · obtain ⟨a, xs, ps, n, rfl, _⟩ := h
    rfl
  · obtain ⟨a, xs, ps, n, rfl, hs, hp, ⟨nd, hg⟩, hz, q⟩ := h
    refine ⟨_, (pss_cons (ps_if (pt_not (pt_val (pe_call (ok_is_sequence T) (hr.mono (by decide)) (by rfl) T.g_is_sequence T.F_is_sequence.kp T.b_is_sequence .nil pass0 (pa_cons (pv 0) pa_nil)))) (pss_one ps_never) pss_nil)
      (pss_cons (ps_set (i := 2) sc_told_clashes.nd rfl (Or.inl rfl) pe_dnewT)
      (pss_cons (ps_for PassesOwn.never rfl (penumK (K := K) rfl (by rfl) T.n_enumerate (pa_cons (pv 0) pa_nil)) (gtupK (K := K) (n := 2) rfl (by rfl) (pgs_cons (pg_name (i := 3) sc_told_clashes.nd rfl (Or.inl rfl)) (pgs_cons (pg_name (i := 4) sc_told_clashes.nd rfl (Or.inl rfl)) pgs_nil))) (pss_cons (ps_if (PW.pt (pw_or (pt_not (pt_val (pe_call (ok_is_row T) (hr.mono (by decide)) (by rfl) T.g_is_row T.F_is_row.kp T.b_is_row .nil pass0 (pa_cons (pv 4) (pa_cons pe_int pa_nil))))) (pw_or (pt_not (pt_val (pe_call (ok_is_below T) (hr.mono (by decide)) (by rfl) T.g_is_below T.F_is_below.kp T.b_is_below .nil pass0 (pa_cons (pe_ix (ixA (K := K) rfl) (pv 4) pe_int (fun _ _ => rfl)) (pa_cons (pv 1) pa_nil))))) (pw_or1 (pt_not (pt_val (pe_call (ok_is_below T) (hr.mono (by decide)) (by rfl) T.g_is_below T.F_is_below.kp T.b_is_below .nil pass0 (pa_cons (pe_ix (ixA (K := K) rfl) (pv 4) pe_int (fun _ _ => rfl)) (pa_cons (pv 1) pa_nil))))))))) (pss_one ps_never) pss_nil)
      (pss_cons (ps_if (PW.pt (pw_or (pt_cmpR op_gt (pe_ix (ixA (K := K) rfl) (pv 4) pe_int (fun _ _ => rfl)) (pe_ix (ixA (K := K) rfl) (pv 4) pe_int (fun _ _ => rfl)) (nomark _)) (pw_or1 (pt_cmp (pc_din (hu_of hr) (pe_tup (pa_cons (pe_ix (ixA (K := K) rfl) (pv 4) pe_int (fun _ _ => rfl)) (pa_cons (pe_ix (ixA (K := K) rfl) (pv 4) pe_int (fun _ _ => rfl)) pa_nil))) (pv 2)))))) (pss_one ps_never) pss_nil)
      (pss_one (ps_dput (hu_of hr) (pv 2) (pe_tup (pa_cons (pe_ix (ixA (K := K) rfl) (pv 4) pe_int (fun _ _ => rfl)) (pa_cons (pe_ix (ixA (K := K) rfl) (pv 4) pe_int (fun _ _ => rfl)) pa_nil))) pe_bl rfl)))))
      (pss_one (ps_ret (pe_callTy (tupOfK (K := K) rfl) (by rfl) T.n_tuple (by decide +kernel) (pa_cons (pe_callB (sortPK (K := K) rfl) (by rfl) T.n_sorted (by decide +kernel) (pa_cons (pe_callTy (call_list_dT rfl) (by rfl) T.n_list (by decide +kernel) (pa_cons (pv 2) pa_nil)) pa_nil)) pa_nil))))))), ?_⟩
    rw [show L2.start ["value", "many", "seen", "at", "pair"] [.ref a, nv n] = [some (.ref a), some (nv n), none, none, none] from rfl]
    generalize hF1 : tFor _ _ _ = F1
    (try simp only [tVar, tC, tOp, tUn, rI, rI0, rU, rEq, rNe, scal, tTest, tB, tAnd, tOr, tNot, tAndV, tOrV, tNotV, tIf, tChain, tNil, tCons, tCB, tCall, tTup, tLst, tRet, tRetN, tDrop, tSeq, tNext, tIfS, tAsg, gName, tPar, tPar3, gNil, gCons, gTup, gSub, tAug, tSl, tNoPart, tPart, tBM, tBM0, tYes, tIsP, iSeq, iEnumA, RZ.iZipA, iRng1, iRng2, iList, iTup, rIsi, rIsB, rIxL, rIxT, rIxA, rLenA, rListOf, rTupOf, rSetL, rSlL, rCat, rAppend, tFld, sFld, tMake, tBits, Int.ofNat_inj, cast1, cast0, TruV, cxOf, Cx.nox, Cx.wish, tNever, tBreak, tCont, ipI, tDIn, tDNotIn, sDPut, tDNewT, tDNewK, tDGet, rSortedPO, rSortedI, rIn, rEqD, rNeD, rInD, rNotInD, tSSet, rIsV, rIntI, rIntB, rAbsN, tLstRg, tRg1, tRg2, List.append_nil, List.nil_append, List.cons_append, Option.some.injEq, exists_eq_left', exists_eq_left, exists_eq_right, exists_eq_right', List.getElem?_cons_zero, List.getElem?_cons_succ, List.set_cons_zero, List.set_cons_succ, List.cons.injEq, and_true, true_and, exists_and_left, exists_and_right, and_assoc, V.int.injEq, V.bl.injEq, V.ref.injEq, V.str.injEq, reduceCtorEq, decide_true, decide_false, Bool.not_true, Bool.not_false, Bool.false_eq_true, if_false, if_true, ite_true, ite_false, List.length_cons, List.length_nil, tRaise, tErr, LamX.tLam, TTe])
    refine is_seq hs ?_
    (try simp only [tVar, tC, tOp, tUn, rI, rI0, rU, rEq, rNe, scal, tTest, tB, tAnd, tOr, tNot, tAndV, tOrV, tNotV, tIf, tChain, tNil, tCons, tCB, tCall, tTup, tLst, tRet, tRetN, tDrop, tSeq, tNext, tIfS, tAsg, gName, tPar, tPar3, gNil, gCons, gTup, gSub, tAug, tSl, tNoPart, tPart, tBM, tBM0, tYes, tIsP, iSeq, iEnumA, RZ.iZipA, iRng1, iRng2, iList, iTup, rIsi, rIsB, rIxL, rIxT, rIxA, rLenA, rListOf, rTupOf, rSetL, rSlL, rCat, rAppend, tFld, sFld, tMake, tBits, Int.ofNat_inj, cast1, cast0, TruV, cxOf, Cx.nox, Cx.wish, tNever, tBreak, tCont, ipI, tDIn, tDNotIn, sDPut, tDNewT, tDNewK, tDGet, rSortedPO, rSortedI, rIn, rEqD, rNeD, rInD, rNotInD, tSSet, rIsV, rIntI, rIntB, rAbsN, tLstRg, tRg1, tRg2, List.append_nil, List.nil_append, List.cons_append, Option.some.injEq, exists_eq_left', exists_eq_left, exists_eq_right, exists_eq_right', List.getElem?_cons_zero, List.getElem?_cons_succ, List.set_cons_zero, List.set_cons_succ, List.cons.injEq, and_true, true_and, exists_and_left, exists_and_right, and_assoc, V.int.injEq, V.bl.injEq, V.ref.injEq, V.str.injEq, reduceCtorEq, decide_true, decide_false, Bool.not_true, Bool.not_false, Bool.false_eq_true, if_false, if_true, ite_true, ite_false, List.length_cons, List.length_nil, tRaise, tErr, LamX.tLam, TTe])
    intro d hd
    subst hF1
    refine forE a xs (fun i σ' H' => ∃ y3 y4, σ' = [some (.ref a), some (nv n), some (.ref d), y3, y4] ∧ Same H H' ∧ H' d = some (.dT ((ps.take i).map ent))) (fun R h => ?_) ⟨_, _, rfl, same_new hd, upd_same⟩ H hs (fun i σ' H' h => by obtain ⟨_, _, _, h, _⟩ := h; exact h) ?_ ?_
    · (try simp only [tVar, tC, tOp, tUn, rI, rI0, rU, rEq, rNe, scal, tTest, tB, tAnd, tOr, tNot, tAndV, tOrV, tNotV, tIf, tChain, tNil, tCons, tCB, tCall, tTup, tLst, tRet, tRetN, tDrop, tSeq, tNext, tIfS, tAsg, gName, tPar, tPar3, gNil, gCons, gTup, gSub, tAug, tSl, tNoPart, tPart, tBM, tBM0, tYes, tIsP, iSeq, iEnumA, RZ.iZipA, iRng1, iRng2, iList, iTup, rIsi, rIsB, rIxL, rIxT, rIxA, rLenA, rListOf, rTupOf, rSetL, rSlL, rCat, rAppend, tFld, sFld, tMake, tBits, Int.ofNat_inj, cast1, cast0, TruV, cxOf, Cx.nox, Cx.wish, tNever, tBreak, tCont, ipI, tDIn, tDNotIn, sDPut, tDNewT, tDNewK, tDGet, rSortedPO, rSortedI, rIn, rEqD, rNeD, rInD, rNotInD, tSSet, rIsV, rIntI, rIntB, rAbsN, tLstRg, tRg1, tRg2, List.append_nil, List.nil_append, List.cons_append, Option.some.injEq, exists_eq_left', exists_eq_left, exists_eq_right, exists_eq_right', List.getElem?_cons_zero, List.getElem?_cons_succ, List.set_cons_zero, List.set_cons_succ, List.cons.injEq, and_true, true_and, exists_and_left, exists_and_right, and_assoc, V.int.injEq, V.bl.injEq, V.ref.injEq, V.str.injEq, reduceCtorEq, decide_true, decide_false, Bool.not_true, Bool.not_false, Bool.false_eq_true, if_false, if_true, ite_true, ite_false, List.length_cons, List.length_nil, tRaise, tErr, LamX.tLam, TTe])
      exact h
    · rintro i x σ' H' T hx ⟨y3, y4, rfl, sm, ed⟩ hT
      obtain ⟨p, b, hpi, rfl, eb⟩ := Prs.at hp hx
      have gp := hg p (List.mem_of_getElem? hpi)
      have e1 : (upd H' T (.tup [nv i, .ref b])) b = some (.tup [nv p.1, nv p.2]) := same_new hT _ _ (sm _ _ eb)
      have sb : Seq K (upd H' T (.tup [nv i, .ref b])) b [nv p.1, nv p.2] := .inr (.of e1)
      have ed1 : (upd H' T (.tup [nv i, .ref b])) d = some (.dT ((ps.take i).map ent)) := same_new hT _ _ ed
      (try simp only [tVar, tC, tOp, tUn, rI, rI0, rU, rEq, rNe, scal, tTest, tB, tAnd, tOr, tNot, tAndV, tOrV, tNotV, tIf, tChain, tNil, tCons, tCB, tCall, tTup, tLst, tRet, tRetN, tDrop, tSeq, tNext, tIfS, tAsg, gName, tPar, tPar3, gNil, gCons, gTup, gSub, tAug, tSl, tNoPart, tPart, tBM, tBM0, tYes, tIsP, iSeq, iEnumA, RZ.iZipA, iRng1, iRng2, iList, iTup, rIsi, rIsB, rIxL, rIxT, rIxA, rLenA, rListOf, rTupOf, rSetL, rSlL, rCat, rAppend, tFld, sFld, tMake, tBits, Int.ofNat_inj, cast1, cast0, TruV, cxOf, Cx.nox, Cx.wish, tNever, tBreak, tCont, ipI, tDIn, tDNotIn, sDPut, tDNewT, tDNewK, tDGet, rSortedPO, rSortedI, rIn, rEqD, rNeD, rInD, rNotInD, tSSet, rIsV, rIntI, rIntB, rAbsN, tLstRg, tRg1, tRg2, List.append_nil, List.nil_append, List.cons_append, Option.some.injEq, exists_eq_left', exists_eq_left, exists_eq_right, exists_eq_right', List.getElem?_cons_zero, List.getElem?_cons_succ, List.set_cons_zero, List.set_cons_succ, List.cons.injEq, and_true, true_and, exists_and_left, exists_and_right, and_assoc, V.int.injEq, V.bl.injEq, V.ref.injEq, V.str.injEq, reduceCtorEq, decide_true, decide_false, Bool.not_true, Bool.not_false, Bool.false_eq_true, if_false, if_true, ite_true, ite_false, List.length_cons, List.length_nil, tRaise, tErr, LamX.tLam, TTe])
      refine row_i sb ?_
      (try simp only [tVar, tC, tOp, tUn, rI, rI0, rU, rEq, rNe, scal, tTest, tB, tAnd, tOr, tNot, tAndV, tOrV, tNotV, tIf, tChain, tNil, tCons, tCB, tCall, tTup, tLst, tRet, tRetN, tDrop, tSeq, tNext, tIfS, tAsg, gName, tPar, tPar3, gNil, gCons, gTup, gSub, tAug, tSl, tNoPart, tPart, tBM, tBM0, tYes, tIsP, iSeq, iEnumA, RZ.iZipA, iRng1, iRng2, iList, iTup, rIsi, rIsB, rIxL, rIxT, rIxA, rLenA, rListOf, rTupOf, rSetL, rSlL, rCat, rAppend, tFld, sFld, tMake, tBits, Int.ofNat_inj, cast1, cast0, TruV, cxOf, Cx.nox, Cx.wish, tNever, tBreak, tCont, ipI, tDIn, tDNotIn, sDPut, tDNewT, tDNewK, tDGet, rSortedPO, rSortedI, rIn, rEqD, rNeD, rInD, rNotInD, tSSet, rIsV, rIntI, rIntB, rAbsN, tLstRg, tRg1, tRg2, List.append_nil, List.nil_append, List.cons_append, Option.some.injEq, exists_eq_left', exists_eq_left, exists_eq_right, exists_eq_right', List.getElem?_cons_zero, List.getElem?_cons_succ, List.set_cons_zero, List.set_cons_succ, List.cons.injEq, and_true, true_and, exists_and_left, exists_and_right, and_assoc, V.int.injEq, V.bl.injEq, V.ref.injEq, V.str.injEq, reduceCtorEq, decide_true, decide_false, Bool.not_true, Bool.not_false, Bool.false_eq_true, if_false, if_true, ite_true, ite_false, List.length_cons, List.length_nil, tRaise, tErr, LamX.tLam, TTe])
      refine ⟨_, sb, _, rfl, below_n (by omega) ?_⟩
      (try simp only [tVar, tC, tOp, tUn, rI, rI0, rU, rEq, rNe, scal, tTest, tB, tAnd, tOr, tNot, tAndV, tOrV, tNotV, tIf, tChain, tNil, tCons, tCB, tCall, tTup, tLst, tRet, tRetN, tDrop, tSeq, tNext, tIfS, tAsg, gName, tPar, tPar3, gNil, gCons, gTup, gSub, tAug, tSl, tNoPart, tPart, tBM, tBM0, tYes, tIsP, iSeq, iEnumA, RZ.iZipA, iRng1, iRng2, iList, iTup, rIsi, rIsB, rIxL, rIxT, rIxA, rLenA, rListOf, rTupOf, rSetL, rSlL, rCat, rAppend, tFld, sFld, tMake, tBits, Int.ofNat_inj, cast1, cast0, TruV, cxOf, Cx.nox, Cx.wish, tNever, tBreak, tCont, ipI, tDIn, tDNotIn, sDPut, tDNewT, tDNewK, tDGet, rSortedPO, rSortedI, rIn, rEqD, rNeD, rInD, rNotInD, tSSet, rIsV, rIntI, rIntB, rAbsN, tLstRg, tRg1, tRg2, List.append_nil, List.nil_append, List.cons_append, Option.some.injEq, exists_eq_left', exists_eq_left, exists_eq_right, exists_eq_right', List.getElem?_cons_zero, List.getElem?_cons_succ, List.set_cons_zero, List.set_cons_succ, List.cons.injEq, and_true, true_and, exists_and_left, exists_and_right, and_assoc, V.int.injEq, V.bl.injEq, V.ref.injEq, V.str.injEq, reduceCtorEq, decide_true, decide_false, Bool.not_true, Bool.not_false, Bool.false_eq_true, if_false, if_true, ite_true, ite_false, List.length_cons, List.length_nil, tRaise, tErr, LamX.tLam, TTe])
      refine ⟨_, sb, _, rfl, below_n gp.2 ?_⟩
      (try simp only [tVar, tC, tOp, tUn, rI, rI0, rU, rEq, rNe, scal, tTest, tB, tAnd, tOr, tNot, tAndV, tOrV, tNotV, tIf, tChain, tNil, tCons, tCB, tCall, tTup, tLst, tRet, tRetN, tDrop, tSeq, tNext, tIfS, tAsg, gName, tPar, tPar3, gNil, gCons, gTup, gSub, tAug, tSl, tNoPart, tPart, tBM, tBM0, tYes, tIsP, iSeq, iEnumA, RZ.iZipA, iRng1, iRng2, iList, iTup, rIsi, rIsB, rIxL, rIxT, rIxA, rLenA, rListOf, rTupOf, rSetL, rSlL, rCat, rAppend, tFld, sFld, tMake, tBits, Int.ofNat_inj, cast1, cast0, TruV, cxOf, Cx.nox, Cx.wish, tNever, tBreak, tCont, ipI, tDIn, tDNotIn, sDPut, tDNewT, tDNewK, tDGet, rSortedPO, rSortedI, rIn, rEqD, rNeD, rInD, rNotInD, tSSet, rIsV, rIntI, rIntB, rAbsN, tLstRg, tRg1, tRg2, List.append_nil, List.nil_append, List.cons_append, Option.some.injEq, exists_eq_left', exists_eq_left, exists_eq_right, exists_eq_right', List.getElem?_cons_zero, List.getElem?_cons_succ, List.set_cons_zero, List.set_cons_succ, List.cons.injEq, and_true, true_and, exists_and_left, exists_and_right, and_assoc, V.int.injEq, V.bl.injEq, V.ref.injEq, V.str.injEq, reduceCtorEq, decide_true, decide_false, Bool.not_true, Bool.not_false, Bool.false_eq_true, if_false, if_true, ite_true, ite_false, List.length_cons, List.length_nil, tRaise, tErr, LamX.tLam, TTe])
      refine ⟨_, sb, _, rfl, _, sb, _, rfl, _, rfl, _, rfl, ?_⟩
      rw [decide_eq_false (by omega)]
      (try simp only [tVar, tC, tOp, tUn, rI, rI0, rU, rEq, rNe, scal, tTest, tB, tAnd, tOr, tNot, tAndV, tOrV, tNotV, tIf, tChain, tNil, tCons, tCB, tCall, tTup, tLst, tRet, tRetN, tDrop, tSeq, tNext, tIfS, tAsg, gName, tPar, tPar3, gNil, gCons, gTup, gSub, tAug, tSl, tNoPart, tPart, tBM, tBM0, tYes, tIsP, iSeq, iEnumA, RZ.iZipA, iRng1, iRng2, iList, iTup, rIsi, rIsB, rIxL, rIxT, rIxA, rLenA, rListOf, rTupOf, rSetL, rSlL, rCat, rAppend, tFld, sFld, tMake, tBits, Int.ofNat_inj, cast1, cast0, TruV, cxOf, Cx.nox, Cx.wish, tNever, tBreak, tCont, ipI, tDIn, tDNotIn, sDPut, tDNewT, tDNewK, tDGet, rSortedPO, rSortedI, rIn, rEqD, rNeD, rInD, rNotInD, tSSet, rIsV, rIntI, rIntB, rAbsN, tLstRg, tRg1, tRg2, List.append_nil, List.nil_append, List.cons_append, Option.some.injEq, exists_eq_left', exists_eq_left, exists_eq_right, exists_eq_right', List.getElem?_cons_zero, List.getElem?_cons_succ, List.set_cons_zero, List.set_cons_succ, List.cons.injEq, and_true, true_and, exists_and_left, exists_and_right, and_assoc, V.int.injEq, V.bl.injEq, V.ref.injEq, V.str.injEq, reduceCtorEq, decide_true, decide_false, Bool.not_true, Bool.not_false, Bool.false_eq_true, if_false, if_true, ite_true, ite_false, List.length_cons, List.length_nil, tRaise, tErr, LamX.tLam, TTe])
      refine ⟨_, sb, _, rfl, _, sb, _, rfl, by rw [sizeLine_eq]; decide, fun t ht => ?_⟩
      have np : p ∉ ps.take i := fun m => by
        obtain ⟨j, hj, e⟩ := List.mem_iff_getElem.mp m
        rw [List.length_take] at hj
        rw [List.getElem_take] at e
        have hj2 : ps[j]? = some p := by rw [List.getElem?_eq_getElem (by omega), e]
        have := nd_ix nd hj2 hpi
        omega
      refine ⟨none, ?_, ?_⟩
      · rw [← val_none np]
        exact DGet.t (same_new ht _ _ ed1) upd_same
      · refine iteF ?_
        refine ⟨_, Same.sq (same_new ht) sb, _, rfl, _, Same.sq (same_new ht) sb, _, rfl, by rw [sizeLine_eq]; decide, fun t2 ht2 => ?_⟩
        refine ⟨_, .inr ⟨_, kof p, t2, same_new ht2 _ _ (same_new ht _ _ ed1), rfl, upd_same, by rw [List.length_map, List.length_take, sizeLine_eq]; omega, rfl⟩, ?_, ?_⟩
        · intro c o hc
          have hne : c ≠ d := ne_of_none hc hd
          rw [upd_ne hne]
          exact same_new ht2 _ _ (same_new ht _ _ (same_new hT _ _ (sm _ _ hc)))
        · rw [upd_same, put_new np, List.take_add_one, hpi]
          rfl
    · rintro σ' H' ⟨y3, y4, rfl, sm, ed⟩
      rw [Prs.len hp, List.take_length] at ed
      (try simp only [tVar, tC, tOp, tUn, rI, rI0, rU, rEq, rNe, scal, tTest, tB, tAnd, tOr, tNot, tAndV, tOrV, tNotV, tIf, tChain, tNil, tCons, tCB, tCall, tTup, tLst, tRet, tRetN, tDrop, tSeq, tNext, tIfS, tAsg, gName, tPar, tPar3, gNil, gCons, gTup, gSub, tAug, tSl, tNoPart, tPart, tBM, tBM0, tYes, tIsP, iSeq, iEnumA, RZ.iZipA, iRng1, iRng2, iList, iTup, rIsi, rIsB, rIxL, rIxT, rIxA, rLenA, rListOf, rTupOf, rSetL, rSlL, rCat, rAppend, tFld, sFld, tMake, tBits, Int.ofNat_inj, cast1, cast0, TruV, cxOf, Cx.nox, Cx.wish, tNever, tBreak, tCont, ipI, tDIn, tDNotIn, sDPut, tDNewT, tDNewK, tDGet, rSortedPO, rSortedI, rIn, rEqD, rNeD, rInD, rNotInD, tSSet, rIsV, rIntI, rIntB, rAbsN, tLstRg, tRg1, tRg2, List.append_nil, List.nil_append, List.cons_append, Option.some.injEq, exists_eq_left', exists_eq_left, exists_eq_right, exists_eq_right', List.getElem?_cons_zero, List.getElem?_cons_succ, List.set_cons_zero, List.set_cons_succ, List.cons.injEq, and_true, true_and, exists_and_left, exists_and_right, and_assoc, V.int.injEq, V.bl.injEq, V.ref.injEq, V.str.injEq, reduceCtorEq, decide_true, decide_false, Bool.not_true, Bool.not_false, Bool.false_eq_true, if_false, if_true, ite_true, ite_false, List.length_cons, List.length_nil, tRaise, tErr, LamX.tLam, TTe])
      refine ⟨_, .inl ed, fun l bs hl hk => ?_⟩
      have hp2 := prs_keys hk
      have sl : Same H' (upd H' l (.lst (bs.map .ref))) := same_new hl
      refine ⟨_, .of upd_same, dec (upd H' l (.lst (bs.map .ref))), fun y hy => ?_, fun ys t hsrt hstb ht => ?_⟩
      · obtain ⟨i, hi⟩ := List.mem_iff_getElem?.mp hy
        obtain ⟨p, b, _, rfl, eb⟩ := Prs.at hp2 hi
        refine ⟨b, rfl, ?_⟩
        rw [dec_of (sl _ _ eb)]
        exact sl _ _ eb
      · have hq2 := sort_prs (hp2.same sl) hstb.perm
        refine ⟨_, .inl ⟨.of upd_same, fun r hr => q _ r ys (decs (upd H' l (.lst (bs.map .ref))) ys) ?_ ?_ upd_same ?_ hq2.2 ?_⟩⟩
        · exact ((sm.trans sl).trans (same_new ht)).trans (same_new hr)
        · exact ((sm.trans sl).trans (same_new ht)).free hr
        · exact (hq2.1.same (same_new ht)).same (same_new hr)
        · exact sort_lex hq2.1 hsrt
end
end Kr
namespace Kr
open PySem PySem.Spec PyProof.Rows L2 Kb
section
variable {P : Program} {w : World} {K : PySem.W.Frag} {mg : Str → Option Value} {base : Heap}
theorem Prs.upd {H : Hp} {xs : List V} {ps : List NP} {k : Addr} {o : HO} (h : Prs H xs ps) (hk : ∀ ys, H k ≠ some (.tup ys)) : Prs (upd H k o) xs ps :=
  Paired.mapP h fun _ _ ⟨a, e1, e2⟩ => ⟨a, e1, by rw [upd_ne (fun z => hk _ (z ▸ e2))]; exact e2⟩
theorem Prs.snoc {H : Hp} : ∀ {xs : List V} {ps : List NP} {y : V} {p : NP}, Prs H xs ps → (∃ a, y = .ref a ∧ H a = some (.tup [nv p.1, nv p.2])) → Prs H (xs ++ [y]) (ps ++ [p])
  | _, _, _, _, .nil, h => .cons h .nil
  | _, _, _, _, .cons a t, h => .cons a (Prs.snoc t h)
/-- the Keys at k -/
def KeysAt (C : Addr) (H : Hp) (k : Addr) (n : Nat) (qs : List NP) : Prop := ∃ dx t ys, H k = some (.ins C dx [("many", nv n), ("clashes", .ref t)]) ∧ H t = some (.tup ys) ∧ Prs H ys qs
theorem KeysAt.same {C : Addr} {H H' : Hp} {k : Addr} {n : Nat} {qs : List NP} (e : Same H H') (h : KeysAt C H k n qs) : KeysAt C H' k n qs := by
  obtain ⟨dx, t, ys, h1, h2, h3⟩ := h
  exact ⟨dx, t, ys, e _ _ h1, e _ _ h2, h3.same e⟩
def sp_Keys_init (C : Addr) (K : PySem.W.Frag) : Sp := fun vs H Q _ => ∃ k dx a xs ps n, vs = [.ref k, nv n, .ref a] ∧ H k = some (.ins C dx []) ∧ (1 ≤ n ∧ n ≤ 12) ∧ Seq K H a xs ∧ Prs H xs ps ∧ GoodPairs n ps ∧ ps.length ≤ 1000 ∧
  ∀ H' qs, (∀ b o, b ≠ k → H b = some o → H' b = some o) → KeysAt C H' k n qs → qs.Perm ps → qs.Pairwise lexle → Q .non H'
theorem ok_Keys___init__ (T : Tx P K mg) : FnOk P w K mg base CX0 4 T.a_Keys___init__ T.d_Keys___init__ ["self", "many", "clashes"] (sp_Keys_init T.c_Keys K) := by
  refine T.F_Keys___init__.ok sc_Keys___init__ (fun vs H Q E h => ?_) (fun cdv A outer s H vs Q E hr h => ?_)
  · obtain ⟨k, dx, a, xs, ps, n, rfl, _⟩ := h
    rfl
  · obtain ⟨k, dx, a, xs, ps, n, rfl, hk, ⟨n1, n2⟩, hs, hp, hg, hz, q⟩ := h
    refine ⟨_, (pss_cons (ps_expr (pe_call (ok_need_count T) (hr.mono (by decide)) (by rfl) T.g_need_count T.F_need_count.kp T.b_need_count .nil pass0 (pa_cons (pv 1) (pa_cons pe_int (pa_cons (pe_globI rfl T.g_MOST_KEYS) pa_nil)))))
      (pss_cons (ps_fld (pv 0) (pv 1) rfl)
      (pss_one (ps_fld (pv 0) (pe_call (ok_told_clashes T) (hr.mono (by decide)) (by rfl) T.g_told_clashes T.F_told_clashes.kp T.b_told_clashes .nil pass0 (pa_cons (pv 2) (pa_cons (pv 1) pa_nil))) rfl)))), ?_⟩
    rw [show L2.start ["self", "many", "clashes"] [.ref k, nv n, .ref a] = [some (.ref k), some (nv n), some (.ref a)] from rfl]
    (try simp only [tVar, tC, tOp, tUn, rI, rI0, rU, rEq, rNe, scal, tTest, tB, tAnd, tOr, tNot, tAndV, tOrV, tNotV, tIf, tChain, tNil, tCons, tCB, tCall, tTup, tLst, tRet, tRetN, tDrop, tSeq, tNext, tIfS, tAsg, gName, tPar, tPar3, gNil, gCons, gTup, gSub, tAug, tSl, tNoPart, tPart, tBM, tBM0, tYes, tIsP, iSeq, iEnumA, RZ.iZipA, iRng1, iRng2, iList, iTup, rIsi, rIsB, rIxL, rIxT, rIxA, rLenA, rListOf, rTupOf, rSetL, rSlL, rCat, rAppend, tFld, sFld, tMake, tBits, Int.ofNat_inj, cast1, cast0, TruV, cxOf, Cx.nox, Cx.wish, tNever, tBreak, tCont, ipI, tDIn, tDNotIn, sDPut, tDNewT, tDNewK, tDGet, rSortedPO, rSortedI, rIn, rEqD, rNeD, rInD, rNotInD, tSSet, rIsV, rIntI, rIntB, rAbsN, tLstRg, tRg1, tRg2, List.append_nil, List.nil_append, List.cons_append, Option.some.injEq, exists_eq_left', exists_eq_left, exists_eq_right, exists_eq_right', List.getElem?_cons_zero, List.getElem?_cons_succ, List.set_cons_zero, List.set_cons_succ, List.cons.injEq, and_true, true_and, exists_and_left, exists_and_right, and_assoc, V.int.injEq, V.bl.injEq, V.ref.injEq, V.str.injEq, reduceCtorEq, decide_true, decide_false, Bool.not_true, Bool.not_false, Bool.false_eq_true, if_false, if_true, ite_true, ite_false, List.length_cons, List.length_nil, tRaise, tErr, LamX.tLam, TTe])
    refine ⟨_, _, _, rfl, ⟨by omega, by omega⟩, ?_⟩
    (try simp only [tVar, tC, tOp, tUn, rI, rI0, rU, rEq, rNe, scal, tTest, tB, tAnd, tOr, tNot, tAndV, tOrV, tNotV, tIf, tChain, tNil, tCons, tCB, tCall, tTup, tLst, tRet, tRetN, tDrop, tSeq, tNext, tIfS, tAsg, gName, tPar, tPar3, gNil, gCons, gTup, gSub, tAug, tSl, tNoPart, tPart, tBM, tBM0, tYes, tIsP, iSeq, iEnumA, RZ.iZipA, iRng1, iRng2, iList, iTup, rIsi, rIsB, rIxL, rIxT, rIxA, rLenA, rListOf, rTupOf, rSetL, rSlL, rCat, rAppend, tFld, sFld, tMake, tBits, Int.ofNat_inj, cast1, cast0, TruV, cxOf, Cx.nox, Cx.wish, tNever, tBreak, tCont, ipI, tDIn, tDNotIn, sDPut, tDNewT, tDNewK, tDGet, rSortedPO, rSortedI, rIn, rEqD, rNeD, rInD, rNotInD, tSSet, rIsV, rIntI, rIntB, rAbsN, tLstRg, tRg1, tRg2, List.append_nil, List.nil_append, List.cons_append, Option.some.injEq, exists_eq_left', exists_eq_left, exists_eq_right, exists_eq_right', List.getElem?_cons_zero, List.getElem?_cons_succ, List.set_cons_zero, List.set_cons_succ, List.cons.injEq, and_true, true_and, exists_and_left, exists_and_right, and_assoc, V.int.injEq, V.bl.injEq, V.ref.injEq, V.str.injEq, reduceCtorEq, decide_true, decide_false, Bool.not_true, Bool.not_false, Bool.false_eq_true, if_false, if_true, ite_true, ite_false, List.length_cons, List.length_nil, tRaise, tErr, LamX.tLam, TTe])
    refine ⟨_, _, _, hk, T.cl_Keys, T.na_many, by decide, ?_⟩
    (try simp only [tVar, tC, tOp, tUn, rI, rI0, rU, rEq, rNe, scal, tTest, tB, tAnd, tOr, tNot, tAndV, tOrV, tNotV, tIf, tChain, tNil, tCons, tCB, tCall, tTup, tLst, tRet, tRetN, tDrop, tSeq, tNext, tIfS, tAsg, gName, tPar, tPar3, gNil, gCons, gTup, gSub, tAug, tSl, tNoPart, tPart, tBM, tBM0, tYes, tIsP, iSeq, iEnumA, RZ.iZipA, iRng1, iRng2, iList, iTup, rIsi, rIsB, rIxL, rIxT, rIxA, rLenA, rListOf, rTupOf, rSetL, rSlL, rCat, rAppend, tFld, sFld, tMake, tBits, Int.ofNat_inj, cast1, cast0, TruV, cxOf, Cx.nox, Cx.wish, tNever, tBreak, tCont, ipI, tDIn, tDNotIn, sDPut, tDNewT, tDNewK, tDGet, rSortedPO, rSortedI, rIn, rEqD, rNeD, rInD, rNotInD, tSSet, rIsV, rIntI, rIntB, rAbsN, tLstRg, tRg1, tRg2, List.append_nil, List.nil_append, List.cons_append, Option.some.injEq, exists_eq_left', exists_eq_left, exists_eq_right, exists_eq_right', List.getElem?_cons_zero, List.getElem?_cons_succ, List.set_cons_zero, List.set_cons_succ, List.cons.injEq, and_true, true_and, exists_and_left, exists_and_right, and_assoc, V.int.injEq, V.bl.injEq, V.ref.injEq, V.str.injEq, reduceCtorEq, decide_true, decide_false, Bool.not_true, Bool.not_false, Bool.false_eq_true, if_false, if_true, ite_true, ite_false, List.length_cons, List.length_nil, tRaise, tErr, LamX.tLam, TTe])
    have ne : ∀ ys, H k ≠ some (.tup ys) := fun ys e => by rw [hk] at e; cases e
    have hs1 : Seq K (upd H k (.ins T.c_Keys dx (putF "many" (nv n) []))) a xs := by
      rcases hs with hs | hs
      · refine .inl ?_
        rcases hs with (hs | ⟨o, hs⟩) | hs
        · exact .inl (.inl (by rw [upd_ne (fun z => by rw [z, hk] at hs; cases hs)]; exact hs))
        · exact .inl (.inr ⟨o, by rw [upd_ne (fun z => by rw [z, hk] at hs; cases hs)]; exact hs⟩)
        · exact .inr hs
      · refine .inr ?_
        rcases hs with (hs | ⟨o, hs⟩) | hs
        · exact .inl (.inl (by rw [upd_ne (fun z => by rw [z, hk] at hs; cases hs)]; exact hs))
        · exact .inl (.inr ⟨o, by rw [upd_ne (fun z => by rw [z, hk] at hs; cases hs)]; exact hs⟩)
        · exact .inr hs
    refine ⟨_, _, _, _, rfl, hs1, hp.upd ne, hg, hz, fun H' t ys qs sm ht et hq hperm hsrt => ?_⟩
    have hk2 := sm _ _ (upd_same (H := H) (a := k) (o := .ins T.c_Keys dx (putF "many" (nv n) [])))
    refine ⟨_, _, _, hk2, T.cl_Keys, T.na_clashes, (show (1 : Nat) < 1000 by decide), ?_⟩
    refine q _ qs (fun b o hb e => ?_) ⟨dx, t, ys, upd_same, ?_, ?_⟩ hperm hsrt
    · rw [upd_ne hb]
      exact sm _ _ (by rw [upd_ne hb]; exact e)
    · rw [upd_ne (fun z => by rw [z, hk2] at et; cases et)]
      exact et
    · exact hq.upd fun ys e => by rw [hk2] at e; cases e
def sp_need_keys (C : Addr) : Sp := fun vs H Q _ => ∃ k dx fs, vs = [.ref k] ∧ H k = some (.ins C dx fs) ∧ Q .non H
theorem ok_need_keys (T : Tx P K mg) : FnOk P w K mg base CX0 3 T.a_need_keys T.d_need_keys ["value"] (sp_need_keys T.c_Keys) := by
  refine T.F_need_keys.ok sc_need_keys (fun vs H Q E h => ?_) (fun cdv A outer s H vs Q E hr h => ?_)
  · obtain ⟨k, dx, fs, rfl, _⟩ := h
    rfl
  · obtain ⟨k, dx, fs, rfl, hk, q⟩ := h
    refine ⟨_, (pss_one (ps_if (pt_not (pt_val (pe_callB (C8.call_isC T.ic_Keys) (by rfl) T.n_isinstance (by decide +kernel) (pa_cons (pv 0) (pa_cons (pe_glob (v := .ref T.c_Keys) rfl T.g_Keys rfl) pa_nil))))) (pss_one ps_never) pss_nil)), ?_⟩
    rw [show L2.start ["value"] [.ref k] = [some (.ref k)] from rfl]
    (try simp only [tVar, tC, tOp, tUn, rI, rI0, rU, rEq, rNe, scal, tTest, tB, tAnd, tOr, tNot, tAndV, tOrV, tNotV, tIf, tChain, tNil, tCons, tCB, tCall, tTup, tLst, tRet, tRetN, tDrop, tSeq, tNext, tIfS, tAsg, gName, tPar, tPar3, gNil, gCons, gTup, gSub, tAug, tSl, tNoPart, tPart, tBM, tBM0, tYes, tIsP, iSeq, iEnumA, RZ.iZipA, iRng1, iRng2, iList, iTup, rIsi, rIsB, rIxL, rIxT, rIxA, rLenA, rListOf, rTupOf, rSetL, rSlL, rCat, rAppend, tFld, sFld, tMake, tBits, Int.ofNat_inj, cast1, cast0, TruV, cxOf, Cx.nox, Cx.wish, tNever, tBreak, tCont, ipI, tDIn, tDNotIn, sDPut, tDNewT, tDNewK, tDGet, rSortedPO, rSortedI, rIn, rEqD, rNeD, rInD, rNotInD, tSSet, rIsV, rIntI, rIntB, rAbsN, tLstRg, tRg1, tRg2, List.append_nil, List.nil_append, List.cons_append, Option.some.injEq, exists_eq_left', exists_eq_left, exists_eq_right, exists_eq_right', List.getElem?_cons_zero, List.getElem?_cons_succ, List.set_cons_zero, List.set_cons_succ, List.cons.injEq, and_true, true_and, exists_and_left, exists_and_right, and_assoc, V.int.injEq, V.bl.injEq, V.ref.injEq, V.str.injEq, reduceCtorEq, decide_true, decide_false, Bool.not_true, Bool.not_false, Bool.false_eq_true, if_false, if_true, ite_true, ite_false, List.length_cons, List.length_nil, tRaise, tErr, LamX.tLam, TTe])
    exact ⟨⟨_, _, hk⟩, q⟩
def sp_need_key (K : PySem.W.Frag) : Sp := fun vs H Q _ => ∃ k n : Nat, vs = [nv k, nv n] ∧ k < n ∧ Q .non H
def sp_lot_wrong (K : PySem.W.Frag) : Sp := fun vs H Q _ => ∃ a ns n, vs = [.ref a, nv n] ∧ Seq K H a (nvs ns) ∧ (ns.Nodup ∧ ∀ k ∈ ns, k < n) ∧ ns.length ≤ 1000 ∧ ∀ H', Same H H' → Q (.int (-1)) H'
def sp_need_lot (K : PySem.W.Frag) : Sp := fun vs H Q _ => ∃ a ns n, vs = [.ref a, nv n] ∧ Seq K H a (nvs ns) ∧ (ns.Nodup ∧ ∀ k ∈ ns, k < n) ∧ ns.length ≤ 1000 ∧ n ≤ 64 ∧ ∀ H', Same H H' → Q (nv (maskOf ns)) H'
/-! ### what is near -/
def nstep (l : List Nat) (p : NP) : List Nat := (l.set p.1 (l.getD p.1 0 ||| 1 <<< p.2)).set p.2 ((l.set p.1 (l.getD p.1 0 ||| 1 <<< p.2)).getD p.2 0 ||| 1 <<< p.1)
def nearM (n : Nat) (qs : List NP) : List Nat := qs.foldl nstep (List.replicate n 0)
theorem nstep_len (l : List Nat) (p : NP) : (nstep l p).length = l.length := by
  unfold nstep
  rw [List.length_set, List.length_set]
theorem near_len (n : Nat) (qs : List NP) : (nearM n qs).length = n := by
  have : ∀ (qs : List NP) (l : List Nat), (qs.foldl nstep l).length = l.length := by
    intro qs
    induction qs with
    | nil => intro l; rfl
    | cons q r ih => intro l; rw [List.foldl_cons, ih, nstep_len]
  unfold nearM
  rw [this, List.length_replicate]
theorem near_take {n : Nat} {qs : List NP} {i : Nat} {p : NP} (h : qs[i]? = some p) : nearM n (qs.take (i + 1)) = nstep (nearM n (qs.take i)) p := by
  unfold nearM
  rw [List.take_add_one, h, List.foldl_append]
  rfl
theorem nvs_ix {l : List Nat} {k : Nat} (h : k < l.length) : atI (nvs l) (k : Int) = some (nv (l.getD k 0)) := by
  refine atI_nat ?_
  rw [List.getElem?_map, List.getElem?_eq_getElem h, List.getD_eq_getElem?_getD, List.getElem?_eq_getElem h]
  rfl
theorem ix_n {l : List Nat} {k : Nat} (h : k < l.length) : ixN (nvs l).length (k : Int) = some k := by
  unfold ixN
  rw [List.length_map, if_pos (Int.natCast_nonneg k), if_pos (Int.ofNat_lt.mpr h), Int.toNat_natCast]
theorem nvs_set (l : List Nat) (k v : Nat) : (nvs l).set k (nv v) = nvs (l.set k v) := (List.map_set ..).symm
def sp_near_masks (C : Addr) : Sp := fun vs H Q _ => ∃ k n qs, vs = [.ref k] ∧ KeysAt C H k n qs ∧ n ≤ 12 ∧ (∀ p ∈ qs, p.1 ≤ p.2 ∧ p.2 < n) ∧ ∀ H' p, Same H H' → H p = none → H' p = some (.lst (nvs (nearM n qs))) → Q (.ref p) H'
theorem mono_near_masks {C : Addr} : Mono (sp_near_masks C) := by
  rintro vs H Q Q' E m ⟨k, n, qs, h1, h2, h3, h4, q⟩
  exact ⟨k, n, qs, h1, h2, h3, h4, fun H' p a b c => m _ _ (q H' p a b c)⟩
/-- what is near some key of the mask -/
def nearOf (near : List Nat) (m : Nat) : Nat := (bits m).foldl (fun f k => f ||| near.getD k 0) 0
theorem mono_lot_of : Mono (sp_lot_of K) := by
  rintro vs H Q Q' E m ⟨k, h1, h2, q⟩
  exact ⟨k, h1, h2, fun H' p a b c => m _ _ (q H' p a b c)⟩
def sp_near_of (K : PySem.W.Frag) : Sp := fun vs H Q _ => ∃ a near m, vs = [.ref a, nv m] ∧ SqL K H a (nvs near) ∧ near.length ≤ 62 ∧ m < 2 ^ near.length ∧ ∀ H', Same H H' → Q (nv (nearOf near m)) H'
def sp_plain_keys (C : Addr) : Sp := fun vs H Q _ => ∃ n : Nat, vs = [nv n] ∧ (1 ≤ n ∧ n ≤ 12) ∧ ∀ H' k qs, Same H H' → KeysAt C H' k n qs → qs.Perm ((List.range n).map fun i => (i, i)) → Q (.ref k) H'
theorem ok_plain_keys (T : Tx P K mg) : FnOk P w K mg base CX0 6 T.a_plain_keys T.d_plain_keys ["many"] (sp_plain_keys T.c_Keys) := by
  refine T.F_plain_keys.ok sc_plain_keys (fun vs H Q E h => ?_) (fun cdv A outer s H vs Q E hr h => ?_)
  · obtain ⟨n, rfl, _⟩ := h
    rfl
  · obtain ⟨n, rfl, ⟨n1, n2⟩, q⟩ := h
    refine ⟨_, (pss_cons (ps_expr (pe_call (ok_need_count T) (hr.mono (by decide)) (by rfl) T.g_need_count T.F_need_count.kp T.b_need_count .nil pass0 (pa_cons (pv 0) (pa_cons pe_int (pa_cons (pe_globI rfl T.g_MOST_KEYS) pa_nil)))))
      (pss_one (ps_ret (pe_make T.m_Keys (ok_Keys___init__ T) (hr.mono (by decide)) (by rfl) T.g_Keys T.b_Keys___init__ .nil pass0 (pa_cons (pv 0) (pa_cons (pe_lc (own := [("key", 1)]) (by rfl) sc_plain_keys.nd (pi_range1 (by rfl) T.n_range (pa_cons (pv 0) pa_nil)) (blkOk_by (own := [("key", 1)]) (N := ["many", "key"]) (sc := defScope s_plain_keys) (by decide +kernel)) (fun _ _ _ _ _ => (pg_name (i := 1) sc_plain_keys.nd rfl (by first | exact Or.inl rfl | exact Or.inr rfl))) (fun _ _ _ _ _ => pts_nil) (fun _ _ _ _ _ => (pe_tup (pa_cons (pv 1) (pa_cons (pv 1) pa_nil))))) pa_nil)))))), ?_⟩
    rw [show L2.start ["many", "key"] [nv n] = [some (nv n), none] from rfl]
    generalize hL1 : tLc _ _ _ _ _ = L1
    (try simp only [tVar, tC, tOp, tUn, rI, rI0, rU, rEq, rNe, scal, tTest, tB, tAnd, tOr, tNot, tAndV, tOrV, tNotV, tIf, tChain, tNil, tCons, tCB, tCall, tTup, tLst, tRet, tRetN, tDrop, tSeq, tNext, tIfS, tAsg, gName, tPar, tPar3, gNil, gCons, gTup, gSub, tAug, tSl, tNoPart, tPart, tBM, tBM0, tYes, tIsP, iSeq, iEnumA, RZ.iZipA, iRng1, iRng2, iList, iTup, rIsi, rIsB, rIxL, rIxT, rIxA, rLenA, rListOf, rTupOf, rSetL, rSlL, rCat, rAppend, tFld, sFld, tMake, tBits, Int.ofNat_inj, cast1, cast0, TruV, cxOf, Cx.nox, Cx.wish, tNever, tBreak, tCont, ipI, tDIn, tDNotIn, sDPut, tDNewT, tDNewK, tDGet, rSortedPO, rSortedI, rIn, rEqD, rNeD, rInD, rNotInD, tSSet, rIsV, rIntI, rIntB, rAbsN, tLstRg, tRg1, tRg2, List.append_nil, List.nil_append, List.cons_append, Option.some.injEq, exists_eq_left', exists_eq_left, exists_eq_right, exists_eq_right', List.getElem?_cons_zero, List.getElem?_cons_succ, List.set_cons_zero, List.set_cons_succ, List.cons.injEq, and_true, true_and, exists_and_left, exists_and_right, and_assoc, V.int.injEq, V.bl.injEq, V.ref.injEq, V.str.injEq, reduceCtorEq, decide_true, decide_false, Bool.not_true, Bool.not_false, Bool.false_eq_true, if_false, if_true, ite_true, ite_false, List.length_cons, List.length_nil, tRaise, tErr, LamX.tLam, TTe])
    refine ⟨_, _, _, rfl, ⟨by omega, by omega⟩, ?_⟩
    (try simp only [tVar, tC, tOp, tUn, rI, rI0, rU, rEq, rNe, scal, tTest, tB, tAnd, tOr, tNot, tAndV, tOrV, tNotV, tIf, tChain, tNil, tCons, tCB, tCall, tTup, tLst, tRet, tRetN, tDrop, tSeq, tNext, tIfS, tAsg, gName, tPar, tPar3, gNil, gCons, gTup, gSub, tAug, tSl, tNoPart, tPart, tBM, tBM0, tYes, tIsP, iSeq, iEnumA, RZ.iZipA, iRng1, iRng2, iList, iTup, rIsi, rIsB, rIxL, rIxT, rIxA, rLenA, rListOf, rTupOf, rSetL, rSlL, rCat, rAppend, tFld, sFld, tMake, tBits, Int.ofNat_inj, cast1, cast0, TruV, cxOf, Cx.nox, Cx.wish, tNever, tBreak, tCont, ipI, tDIn, tDNotIn, sDPut, tDNewT, tDNewK, tDGet, rSortedPO, rSortedI, rIn, rEqD, rNeD, rInD, rNotInD, tSSet, rIsV, rIntI, rIntB, rAbsN, tLstRg, tRg1, tRg2, List.append_nil, List.nil_append, List.cons_append, Option.some.injEq, exists_eq_left', exists_eq_left, exists_eq_right, exists_eq_right', List.getElem?_cons_zero, List.getElem?_cons_succ, List.set_cons_zero, List.set_cons_succ, List.cons.injEq, and_true, true_and, exists_and_left, exists_and_right, and_assoc, V.int.injEq, V.bl.injEq, V.ref.injEq, V.str.injEq, reduceCtorEq, decide_true, decide_false, Bool.not_true, Bool.not_false, Bool.false_eq_true, if_false, if_true, ite_true, ite_false, List.length_cons, List.length_nil, tRaise, tErr, LamX.tLam, TTe])
    subst hL1
    refine lcR1G n (fun L i H' acc => Same H H' ∧ Prs H' acc ((List.range i).map fun i => (i, i))) (fun R h => ?_) (by omega) (fun L hL => ⟨same_new hL, .nil⟩) ?_ (fun σ H Q1 Q2 m h => m _ _ h) (fun σ H Q1 Q2 m h => ?_) ?_
    · (try simp only [tVar, tC, tOp, tUn, rI, rI0, rU, rEq, rNe, scal, tTest, tB, tAnd, tOr, tNot, tAndV, tOrV, tNotV, tIf, tChain, tNil, tCons, tCB, tCall, tTup, tLst, tRet, tRetN, tDrop, tSeq, tNext, tIfS, tAsg, gName, tPar, tPar3, gNil, gCons, gTup, gSub, tAug, tSl, tNoPart, tPart, tBM, tBM0, tYes, tIsP, iSeq, iEnumA, RZ.iZipA, iRng1, iRng2, iList, iTup, rIsi, rIsB, rIxL, rIxT, rIxA, rLenA, rListOf, rTupOf, rSetL, rSlL, rCat, rAppend, tFld, sFld, tMake, tBits, Int.ofNat_inj, cast1, cast0, TruV, cxOf, Cx.nox, Cx.wish, tNever, tBreak, tCont, ipI, tDIn, tDNotIn, sDPut, tDNewT, tDNewK, tDGet, rSortedPO, rSortedI, rIn, rEqD, rNeD, rInD, rNotInD, tSSet, rIsV, rIntI, rIntB, rAbsN, tLstRg, tRg1, tRg2, List.append_nil, List.nil_append, List.cons_append, Option.some.injEq, exists_eq_left', exists_eq_left, exists_eq_right, exists_eq_right', List.getElem?_cons_zero, List.getElem?_cons_succ, List.set_cons_zero, List.set_cons_succ, List.cons.injEq, and_true, true_and, exists_and_left, exists_and_right, and_assoc, V.int.injEq, V.bl.injEq, V.ref.injEq, V.str.injEq, reduceCtorEq, decide_true, decide_false, Bool.not_true, Bool.not_false, Bool.false_eq_true, if_false, if_true, ite_true, ite_false, List.length_cons, List.length_nil, tRaise, tErr, LamX.tLam, TTe])
      exact h
    · rintro L i H' acc hL hi eL ⟨sm, hp⟩
      (try simp only [tVar, tC, tOp, tUn, rI, rI0, rU, rEq, rNe, scal, tTest, tB, tAnd, tOr, tNot, tAndV, tOrV, tNotV, tIf, tChain, tNil, tCons, tCB, tCall, tTup, tLst, tRet, tRetN, tDrop, tSeq, tNext, tIfS, tAsg, gName, tPar, tPar3, gNil, gCons, gTup, gSub, tAug, tSl, tNoPart, tPart, tBM, tBM0, tYes, tIsP, iSeq, iEnumA, RZ.iZipA, iRng1, iRng2, iList, iTup, rIsi, rIsB, rIxL, rIxT, rIxA, rLenA, rListOf, rTupOf, rSetL, rSlL, rCat, rAppend, tFld, sFld, tMake, tBits, Int.ofNat_inj, cast1, cast0, TruV, cxOf, Cx.nox, Cx.wish, tNever, tBreak, tCont, ipI, tDIn, tDNotIn, sDPut, tDNewT, tDNewK, tDGet, rSortedPO, rSortedI, rIn, rEqD, rNeD, rInD, rNotInD, tSSet, rIsV, rIntI, rIntB, rAbsN, tLstRg, tRg1, tRg2, List.append_nil, List.nil_append, List.cons_append, Option.some.injEq, exists_eq_left', exists_eq_left, exists_eq_right, exists_eq_right', List.getElem?_cons_zero, List.getElem?_cons_succ, List.set_cons_zero, List.set_cons_succ, List.cons.injEq, and_true, true_and, exists_and_left, exists_and_right, and_assoc, V.int.injEq, V.bl.injEq, V.ref.injEq, V.str.injEq, reduceCtorEq, decide_true, decide_false, Bool.not_true, Bool.not_false, Bool.false_eq_true, if_false, if_true, ite_true, ite_false, List.length_cons, List.length_nil, tRaise, tErr, LamX.tLam, TTe])
      refine ⟨by rw [sizeLine_eq]; decide, fun p hp2 => ⟨same_new hp2 _ _ eL, ?_, ?_⟩⟩
      · intro b o hb
        rw [upd_ne (ne_of_none hb hL)]
        exact same_new hp2 _ _ (sm _ _ hb)
      · rw [List.range_succ, List.map_append]
        have eL2 := same_new hp2 (o := .tup [nv i, nv i]) _ _ eL
        refine Prs.upd ((hp.same (same_new hp2)).snoc ⟨p, rfl, upd_same⟩) fun ys z => ?_
        rw [eL2] at z
        cases z
    · revert h
      (try simp only [tVar, tC, tOp, tUn, rI, rI0, rU, rEq, rNe, scal, tTest, tB, tAnd, tOr, tNot, tAndV, tOrV, tNotV, tIf, tChain, tNil, tCons, tCB, tCall, tTup, tLst, tRet, tRetN, tDrop, tSeq, tNext, tIfS, tAsg, gName, tPar, tPar3, gNil, gCons, gTup, gSub, tAug, tSl, tNoPart, tPart, tBM, tBM0, tYes, tIsP, iSeq, iEnumA, RZ.iZipA, iRng1, iRng2, iList, iTup, rIsi, rIsB, rIxL, rIxT, rIxA, rLenA, rListOf, rTupOf, rSetL, rSlL, rCat, rAppend, tFld, sFld, tMake, tBits, Int.ofNat_inj, cast1, cast0, TruV, cxOf, Cx.nox, Cx.wish, tNever, tBreak, tCont, ipI, tDIn, tDNotIn, sDPut, tDNewT, tDNewK, tDGet, rSortedPO, rSortedI, rIn, rEqD, rNeD, rInD, rNotInD, tSSet, rIsV, rIntI, rIntB, rAbsN, tLstRg, tRg1, tRg2, List.append_nil, List.nil_append, List.cons_append, Option.some.injEq, exists_eq_left', exists_eq_left, exists_eq_right, exists_eq_right', List.getElem?_cons_zero, List.getElem?_cons_succ, List.set_cons_zero, List.set_cons_succ, List.cons.injEq, and_true, true_and, exists_and_left, exists_and_right, and_assoc, V.int.injEq, V.bl.injEq, V.ref.injEq, V.str.injEq, reduceCtorEq, decide_true, decide_false, Bool.not_true, Bool.not_false, Bool.false_eq_true, if_false, if_true, ite_true, ite_false, List.length_cons, List.length_nil, tRaise, tErr, LamX.tLam, TTe])
      rintro ⟨v, e1, v1, e2, z, g⟩
      exact ⟨v, e1, v1, e2, z, fun p hp => m _ _ (g p hp)⟩
    · rintro L H' acc hL eL ⟨sm, hp⟩ x dx hx hdx hne
      have e2 : Same H' (upd (upd H' dx (.own x)) x (.ins T.c_Keys dx [])) := (same_new hdx).trans (same_new (by rw [upd_ne (Ne.symm hne)]; exact hx))
      refine ⟨x, dx, L, acc, _, n, rfl, upd_same, ⟨n1, n2⟩, .inl (.inl (.inl (e2 _ _ eL))), hp.same e2, ⟨?_, ?_⟩, by rw [List.length_map, List.length_range]; omega, fun H2 qs kp ka pe _ => ⟨rfl, q H2 x qs ?_ ka pe⟩⟩
      · exact List.pairwise_map.mpr (List.nodup_range.imp fun h e => h (Prod.mk.inj e).1)
      · intro p hp3
        obtain ⟨i, hi, rfl⟩ := List.mem_map.mp hp3
        have := List.mem_range.mp hi
        exact ⟨Nat.le_refl _, this⟩
      · intro b o hb
        have h1 := e2 _ _ (sm _ _ hb)
        exact kp b o (ne_of_none (sm _ _ hb) hx) h1
end
end Kr
namespace Kr
open PySem PySem.Spec PyProof.Rows L2 Kb
section
variable {P : Program} {w : World} {K : PySem.W.Frag} {mg : Str → Option Value} {base : Heap}
theorem filter_range {p : Nat → Bool} {a b : Nat} (ha : ∀ k, p k = true → k < a) (hb : ∀ k, p k = true → k < b) : (List.range a).filter p = (List.range b).filter p := by
  have go : ∀ d a, (∀ k, p k = true → k < a) → (List.range (a + d)).filter p = (List.range a).filter p := by
    intro d
    induction d with
    | zero => intro a _; rfl
    | succ d ih =>
      intro a h
      rw [← Nat.add_assoc, List.range_succ, List.filter_append, ih a h, List.filter_cons, List.filter_nil, if_neg (fun e => by have := h _ e; omega), List.append_nil]
  rcases Nat.le_total a b with h | h
  · rw [← go (b - a) a ha, show a + (b - a) = b by omega]
  · rw [← go (a - b) b hb, show b + (a - b) = a by omega]
theorem bits_range {m n : Nat} (h : m < 2 ^ n) (h2 : m < 2 ^ 62) : (List.range n).filter m.testBit = bits m := by
  refine filter_range (fun k e => ?_) (fun k e => ?_)
  · exact bits_below h ((mem_bits h2).mpr e)
  · have := (mem_bits h2).mpr e
    unfold bits at this
    exact List.mem_range.mp (List.mem_filter.mp this).1
def sp_law_lot (K : PySem.W.Frag) : Sp := fun vs H Q _ => ∃ m : Nat, vs = [nv m] ∧ m < 2 ^ 12 ∧ ∀ H' p, Same H H' → H p = none → H' p = some (.tup (nvs (bits m))) → Q (.ref p) H'
theorem ok__law_lot (T : Tx P K mg) : FnOk P w K mg base CX0 1 T.a__law_lot T.d__law_lot ["mask"] (sp_law_lot K) := by
  refine T.F__law_lot.ok sc__law_lot (fun vs H Q E h => ?_) (fun cdv A outer s H vs Q E hr h => ?_)
  · obtain ⟨m, rfl, _⟩ := h
    rfl
  · obtain ⟨m, rfl, hm, q⟩ := h
    refine ⟨_, (pss_one (ps_ret (pe_callTy (tupOfK (K := K) rfl) (by rfl) T.n_tuple (by decide +kernel) (pa_cons (pe_lc (own := [("key", 1)]) (by rfl) sc__law_lot.nd (pi_range1 (by rfl) T.n_range (pa_cons pe_int pa_nil)) (blkOk_by (own := [("key", 1)]) (N := ["mask", "key"]) (sc := defScope s__law_lot) (by decide +kernel)) (fun _ _ _ _ _ => (pg_name (i := 1) sc__law_lot.nd rfl (by first | exact Or.inl rfl | exact Or.inr rfl))) (fun _ _ _ _ _ => (pts_one (truthK (K := K) rfl (pe_op op_andU (pe_op op_shrU (pv 0) (pv 1)) pe_int) (by intro _; rfl)))) (fun _ _ _ _ _ => (pv 1))) pa_nil)))), ?_⟩
    rw [show L2.start ["mask", "key"] [nv m] = [some (nv m), none] from rfl]
    generalize hL1 : tLc _ _ _ _ _ = L1
    (try simp only [tVar, tC, tOp, tUn, rI, rI0, rU, rEq, rNe, scal, tTest, tB, tAnd, tOr, tNot, tAndV, tOrV, tNotV, tIf, tChain, tNil, tCons, tCB, tCall, tTup, tLst, tRet, tRetN, tDrop, tSeq, tNext, tIfS, tAsg, gName, tPar, tPar3, gNil, gCons, gTup, gSub, tAug, tSl, tNoPart, tPart, tBM, tBM0, tYes, tIsP, iSeq, iEnumA, RZ.iZipA, iRng1, iRng2, iList, iTup, rIsi, rIsB, rIxL, rIxT, rIxA, rLenA, rListOf, rTupOf, rSetL, rSlL, rCat, rAppend, tFld, sFld, tMake, tBits, Int.ofNat_inj, cast1, cast0, TruV, cxOf, Cx.nox, Cx.wish, tNever, tBreak, tCont, ipI, tDIn, tDNotIn, sDPut, tDNewT, tDNewK, tDGet, rSortedPO, rSortedI, rIn, rEqD, rNeD, rInD, rNotInD, tSSet, rIsV, rIntI, rIntB, rAbsN, tLstRg, tRg1, tRg2, List.append_nil, List.nil_append, List.cons_append, Option.some.injEq, exists_eq_left', exists_eq_left, exists_eq_right, exists_eq_right', List.getElem?_cons_zero, List.getElem?_cons_succ, List.set_cons_zero, List.set_cons_succ, List.cons.injEq, and_true, true_and, exists_and_left, exists_and_right, and_assoc, V.int.injEq, V.bl.injEq, V.ref.injEq, V.str.injEq, reduceCtorEq, decide_true, decide_false, Bool.not_true, Bool.not_false, Bool.false_eq_true, if_false, if_true, ite_true, ite_false, List.length_cons, List.length_nil, tRaise, tErr, LamX.tLam, TTe])
    subst hL1
    refine lcR1 12 m.testBit nv (fun R h => ?_) (by decide) (fun i H' Q1 Q2 hi e q1 q2 => ?_) fun L hL => ?_
    · (try simp only [tVar, tC, tOp, tUn, rI, rI0, rU, rEq, rNe, scal, tTest, tB, tAnd, tOr, tNot, tAndV, tOrV, tNotV, tIf, tChain, tNil, tCons, tCB, tCall, tTup, tLst, tRet, tRetN, tDrop, tSeq, tNext, tIfS, tAsg, gName, tPar, tPar3, gNil, gCons, gTup, gSub, tAug, tSl, tNoPart, tPart, tBM, tBM0, tYes, tIsP, iSeq, iEnumA, RZ.iZipA, iRng1, iRng2, iList, iTup, rIsi, rIsB, rIxL, rIxT, rIxA, rLenA, rListOf, rTupOf, rSetL, rSlL, rCat, rAppend, tFld, sFld, tMake, tBits, Int.ofNat_inj, cast1, cast0, TruV, cxOf, Cx.nox, Cx.wish, tNever, tBreak, tCont, ipI, tDIn, tDNotIn, sDPut, tDNewT, tDNewK, tDGet, rSortedPO, rSortedI, rIn, rEqD, rNeD, rInD, rNotInD, tSSet, rIsV, rIntI, rIntB, rAbsN, tLstRg, tRg1, tRg2, List.append_nil, List.nil_append, List.cons_append, Option.some.injEq, exists_eq_left', exists_eq_left, exists_eq_right, exists_eq_right', List.getElem?_cons_zero, List.getElem?_cons_succ, List.set_cons_zero, List.set_cons_succ, List.cons.injEq, and_true, true_and, exists_and_left, exists_and_right, and_assoc, V.int.injEq, V.bl.injEq, V.ref.injEq, V.str.injEq, reduceCtorEq, decide_true, decide_false, Bool.not_true, Bool.not_false, Bool.false_eq_true, if_false, if_true, ite_true, ite_false, List.length_cons, List.length_nil, tRaise, tErr, LamX.tLam, TTe])
      exact h
    · (try simp only [tVar, tC, tOp, tUn, rI, rI0, rU, rEq, rNe, scal, tTest, tB, tAnd, tOr, tNot, tAndV, tOrV, tNotV, tIf, tChain, tNil, tCons, tCB, tCall, tTup, tLst, tRet, tRetN, tDrop, tSeq, tNext, tIfS, tAsg, gName, tPar, tPar3, gNil, gCons, gTup, gSub, tAug, tSl, tNoPart, tPart, tBM, tBM0, tYes, tIsP, iSeq, iEnumA, RZ.iZipA, iRng1, iRng2, iList, iTup, rIsi, rIsB, rIxL, rIxT, rIxA, rLenA, rListOf, rTupOf, rSetL, rSlL, rCat, rAppend, tFld, sFld, tMake, tBits, Int.ofNat_inj, cast1, cast0, TruV, cxOf, Cx.nox, Cx.wish, tNever, tBreak, tCont, ipI, tDIn, tDNotIn, sDPut, tDNewT, tDNewK, tDGet, rSortedPO, rSortedI, rIn, rEqD, rNeD, rInD, rNotInD, tSSet, rIsV, rIntI, rIntB, rAbsN, tLstRg, tRg1, tRg2, List.append_nil, List.nil_append, List.cons_append, Option.some.injEq, exists_eq_left', exists_eq_left, exists_eq_right, exists_eq_right', List.getElem?_cons_zero, List.getElem?_cons_succ, List.set_cons_zero, List.set_cons_succ, List.cons.injEq, and_true, true_and, exists_and_left, exists_and_right, and_assoc, V.int.injEq, V.bl.injEq, V.ref.injEq, V.str.injEq, reduceCtorEq, decide_true, decide_false, Bool.not_true, Bool.not_false, Bool.false_eq_true, if_false, if_true, ite_true, ite_false, List.length_cons, List.length_nil, tRaise, tErr, LamX.tLam, TTe])
      rw [odd_test]
      cases ht : m.testBit i
      · exact q2 ht
      · exact q1 ht
    · (try simp only [tVar, tC, tOp, tUn, rI, rI0, rU, rEq, rNe, scal, tTest, tB, tAnd, tOr, tNot, tAndV, tOrV, tNotV, tIf, tChain, tNil, tCons, tCB, tCall, tTup, tLst, tRet, tRetN, tDrop, tSeq, tNext, tIfS, tAsg, gName, tPar, tPar3, gNil, gCons, gTup, gSub, tAug, tSl, tNoPart, tPart, tBM, tBM0, tYes, tIsP, iSeq, iEnumA, RZ.iZipA, iRng1, iRng2, iList, iTup, rIsi, rIsB, rIxL, rIxT, rIxA, rLenA, rListOf, rTupOf, rSetL, rSlL, rCat, rAppend, tFld, sFld, tMake, tBits, Int.ofNat_inj, cast1, cast0, TruV, cxOf, Cx.nox, Cx.wish, tNever, tBreak, tCont, ipI, tDIn, tDNotIn, sDPut, tDNewT, tDNewK, tDGet, rSortedPO, rSortedI, rIn, rEqD, rNeD, rInD, rNotInD, tSSet, rIsV, rIntI, rIntB, rAbsN, tLstRg, tRg1, tRg2, List.append_nil, List.nil_append, List.cons_append, Option.some.injEq, exists_eq_left', exists_eq_left, exists_eq_right, exists_eq_right', List.getElem?_cons_zero, List.getElem?_cons_succ, List.set_cons_zero, List.set_cons_succ, List.cons.injEq, and_true, true_and, exists_and_left, exists_and_right, and_assoc, V.int.injEq, V.bl.injEq, V.ref.injEq, V.str.injEq, reduceCtorEq, decide_true, decide_false, Bool.not_true, Bool.not_false, Bool.false_eq_true, if_false, if_true, ite_true, ite_false, List.length_cons, List.length_nil, tRaise, tErr, LamX.tLam, TTe])
      rw [bits_range hm (Nat.lt_trans hm (by decide))]
      exact ⟨_, .inl ⟨.of upd_same, fun l hl => q _ l (Same.mk2 hL hl) (back (same_new hL) hl) upd_same⟩⟩
def sp_law_mask (K : PySem.W.Frag) : Sp := fun vs H Q _ => ∃ a ns, vs = [.ref a] ∧ Seq K H a (nvs ns) ∧ (∀ n ∈ ns, n < 64) ∧ Q (nv (maskOf ns)) H
def sp_law_near (K : PySem.W.Frag) : Sp := fun vs H Q _ => ∃ n a ys qs, vs = [nv n, .ref a] ∧ SqL K H a ys ∧ Prs H ys qs ∧ n ≤ 12 ∧ (∀ p ∈ qs, p.1 ≤ p.2 ∧ p.2 < n) ∧ ∀ H' p, Same H H' → H p = none → H' p = some (.lst (nvs (nearM n qs))) → Q (.ref p) H'
def sp_law_close (K : PySem.W.Frag) : Sp := fun vs H Q _ => ∃ a near m, vs = [.ref a, nv m] ∧ SqL K H a (nvs near) ∧ near.length ≤ 62 ∧ m < 2 ^ near.length ∧ ∀ H', Same H H' → Q (nv (nearOf near m)) H'
end
end Kr
namespace Kr
open PySem PySem.Spec PyProof.Rows L2 Kb
section
variable {P : Program} {w : World} {K : PySem.W.Frag} {mg : Str → Option Value} {base : Heap}
/-- the pairs that come ahead of (a, b) -/
def Ahead (a b : Nat) (ps : List NP) : Prop := ps.Nodup ∧ ∀ p ∈ ps, p.1 ≤ p.2 ∧ (p.1 < a ∨ (p.1 = a ∧ p.2 < b))
theorem Ahead.mono {a b b' : Nat} {ps : List NP} (h : Ahead a b ps) (e : b ≤ b') : Ahead a b' ps := ⟨h.1, fun p hp => by
  obtain ⟨h1, h2⟩ := h.2 p hp
  exact ⟨h1, by omega⟩⟩
theorem Ahead.row {a b : Nat} {ps : List NP} (h : Ahead a b ps) : Ahead (a + 1) 0 ps := ⟨h.1, fun p hp => by
  obtain ⟨h1, h2⟩ := h.2 p hp
  exact ⟨h1, by omega⟩⟩
theorem Ahead.snoc {a b : Nat} {ps : List NP} (h : Ahead a b ps) (e : a ≤ b) : Ahead a (b + 1) (ps ++ [(a, b)]) := by
  refine ⟨List.nodup_append.mpr ⟨h.1, List.pairwise_singleton _ _, fun p hp q hq z => ?_⟩, fun p hp => ?_⟩
  · rw [List.mem_singleton.mp hq] at z
    obtain ⟨_, h2⟩ := h.2 p hp
    rw [z] at h2
    simp only at h2
    omega
  · rcases List.mem_append.mp hp with hp | hp
    · obtain ⟨h1, h2⟩ := h.2 p hp
      exact ⟨h1, by omega⟩
    · rw [List.mem_singleton.mp hp]
      exact ⟨e, .inr ⟨rfl, Nat.lt_succ_self b⟩⟩
theorem iteB {c : Prop} [Decidable c] {p q : Prop} (h1 : p) (h2 : q) : if c then p else q := by
  split
  · exact h1
  · exact h2
def sp_law_graph (K : PySem.W.Frag) : Sp := fun vs H Q _ => ∃ b, ∃ n : Nat, vs = [.ref b, nv n] ∧ (1 ≤ n ∧ n ≤ 12) ∧ Bx b H ∧
  ∀ H' t xs ps, Same (hbx b H) (hbx b H') → Bx b H' → hbx b H t = none → hbx b H' t = some (.lst xs) → Prs (hbx b H') xs ps → GoodPairs n ps → ps.length ≤ 144 → Q (.ref t) H'
theorem ok__law_graph (T : Tx P K mg) : FnOk P w K mg base CX0 2 T.a__law_graph T.d__law_graph ["box", "many"] (sp_law_graph K) := by
  refine T.F__law_graph.ok sc__law_graph (fun vs H Q E h => ?_) (fun cdv A outer s H vs Q E hr h => ?_)
  · obtain ⟨b, n, rfl, _⟩ := h
    rfl
  · obtain ⟨b, n, rfl, ⟨n1, n2⟩, hb, q⟩ := h
    refine ⟨_, (pss_cons (ps_par (i := 2) (j := 3) (by rfl) sc__law_graph.nd rfl rfl (by decide) rfl rfl (pa_cons (pe_call (ok__law_take T) (hr.mono (by decide)) (by rfl) T.g__law_take T.F__law_take.kp T.b__law_take .nil pass0 (pa_cons (pv 0) (pa_cons pe_int pa_nil))) (pa_cons (pe_lst pa_nil) pa_nil)) (by rfl))
      (pss_cons (ps_for PassesOwn.never rfl (pi_range1 (by rfl) T.n_range (pa_cons (pv 1) pa_nil)) (pg_name (i := 4) sc__law_graph.nd rfl (Or.inl rfl)) (pss_one (ps_for PassesOwn.never rfl (pi_range2 (by rfl) T.n_range (pa_cons (pv 4) (pa_cons (pv 1) pa_nil))) (pg_name (i := 5) sc__law_graph.nd rfl (Or.inl rfl)) (pss_cons (ps_set (i := 6) sc__law_graph.nd rfl (Or.inl rfl) (pe_call (ok__law_take T) (hr.mono (by decide)) (by rfl) T.g__law_take T.F__law_take.kp T.b__law_take .nil pass0 (pa_cons (pv 0) (pa_cons pe_int pa_nil))))
      (pss_cons (ps_set (i := 7) sc__law_graph.nd rfl (Or.inl rfl) (pe_ifExp (pt_cmpR op_lt (pv 2) pe_int (nomark _)) (pe_cmpR op_eq (pv 4) (pv 5) (nomark _)) (pe_cmpR op_lt (pv 6) pe_int (nomark _))))
      (pss_cons (ps_if (pt_cmpR op_eq (pv 2) pe_int (nomark _)) (pss_one (ps_set (i := 7) sc__law_graph.nd rfl (Or.inl rfl) (pe_or (pv 7) (pe_one (pe_cmpR op_eq (pv 6) pe_int (nomark _)))))) pss_nil)
      (pss_cons (ps_if (pt_cmpR op_eq (pv 2) pe_int (nomark _)) (pss_one (ps_set (i := 7) sc__law_graph.nd rfl (Or.inl rfl) (pe_and (pe_cmpR op_eq (pe_op op_fdiv (pv 4) pe_int) (pe_op op_fdiv (pv 5) pe_int) (nomark _)) (pe_one (pe_or (pe_cmpR op_eq (pe_op op_mod (pv 4) pe_int) pe_int (nomark _)) (pe_one (pe_cmpR op_eq (pe_op op_mod (pv 5) pe_int) pe_int (nomark _)))))))) pss_nil)
      (pss_cons (ps_if (pt_cmpR op_eq (pv 2) pe_int (nomark _)) (pss_one (ps_set (i := 7) sc__law_graph.nd rfl (Or.inl rfl) (pe_cmpR op_lt (pv 6) pe_int (nomark _)))) pss_nil)
      (pss_one (ps_if (pt_val (pv 7)) (pss_one (ps_expr (bmK (K := K) rfl PySem.F.plainAttrs_list PySem.F.slot_list_append PySem.F.type_list_append mt_append (pv 3) (pa_cons (pe_tup (pa_cons (pv 4) (pa_cons (pv 5) pa_nil))) pa_nil)))) pss_nil))))))))))
      (pss_one (ps_ret (pv 3))))), ?_⟩
    rw [show L2.start ["box", "many", "side", "told", "one", "other", "chance", "hit"] [.ref b, nv n] = [some (.ref b), some (nv n), none, none, none, none, none, none] from rfl]
    generalize hF1 : tFor _ _ _ = F1
    (try simp only [tVar, tC, tOp, tUn, rI, rI0, rU, rEq, rNe, scal, tTest, tB, tAnd, tOr, tNot, tAndV, tOrV, tNotV, tIf, tChain, tNil, tCons, tCB, tCall, tTup, tLst, tRet, tRetN, tDrop, tSeq, tNext, tIfS, tAsg, gName, tPar, tPar3, gNil, gCons, gTup, gSub, tAug, tSl, tNoPart, tPart, tBM, tBM0, tYes, tIsP, iSeq, iEnumA, RZ.iZipA, iRng1, iRng2, iList, iTup, rIsi, rIsB, rIxL, rIxT, rIxA, rLenA, rListOf, rTupOf, rSetL, rSlL, rCat, rAppend, tFld, sFld, tMake, tBits, Int.ofNat_inj, cast1, cast0, TruV, cxOf, Cx.nox, Cx.wish, tNever, tBreak, tCont, ipI, tDIn, tDNotIn, sDPut, tDNewT, tDNewK, tDGet, rSortedPO, rSortedI, rIn, rEqD, rNeD, rInD, rNotInD, tSSet, rIsV, rIntI, rIntB, rAbsN, tLstRg, tRg1, tRg2, List.append_nil, List.nil_append, List.cons_append, Option.some.injEq, exists_eq_left', exists_eq_left, exists_eq_right, exists_eq_right', List.getElem?_cons_zero, List.getElem?_cons_succ, List.set_cons_zero, List.set_cons_succ, List.cons.injEq, and_true, true_and, exists_and_left, exists_and_right, and_assoc, V.int.injEq, V.bl.injEq, V.ref.injEq, V.str.injEq, reduceCtorEq, decide_true, decide_false, Bool.not_true, Bool.not_false, Bool.false_eq_true, if_false, if_true, ite_true, ite_false, List.length_cons, List.length_nil, tRaise, tErr, LamX.tLam, TTe])
    refine ⟨b, 5, rfl, by decide, hb, fun H1 side s1 hb1 hs => ?_⟩
    (try simp only [tVar, tC, tOp, tUn, rI, rI0, rU, rEq, rNe, scal, tTest, tB, tAnd, tOr, tNot, tAndV, tOrV, tNotV, tIf, tChain, tNil, tCons, tCB, tCall, tTup, tLst, tRet, tRetN, tDrop, tSeq, tNext, tIfS, tAsg, gName, tPar, tPar3, gNil, gCons, gTup, gSub, tAug, tSl, tNoPart, tPart, tBM, tBM0, tYes, tIsP, iSeq, iEnumA, RZ.iZipA, iRng1, iRng2, iList, iTup, rIsi, rIsB, rIxL, rIxT, rIxA, rLenA, rListOf, rTupOf, rSetL, rSlL, rCat, rAppend, tFld, sFld, tMake, tBits, Int.ofNat_inj, cast1, cast0, TruV, cxOf, Cx.nox, Cx.wish, tNever, tBreak, tCont, ipI, tDIn, tDNotIn, sDPut, tDNewT, tDNewK, tDGet, rSortedPO, rSortedI, rIn, rEqD, rNeD, rInD, rNotInD, tSSet, rIsV, rIntI, rIntB, rAbsN, tLstRg, tRg1, tRg2, List.append_nil, List.nil_append, List.cons_append, Option.some.injEq, exists_eq_left', exists_eq_left, exists_eq_right, exists_eq_right', List.getElem?_cons_zero, List.getElem?_cons_succ, List.set_cons_zero, List.set_cons_succ, List.cons.injEq, and_true, true_and, exists_and_left, exists_and_right, and_assoc, V.int.injEq, V.bl.injEq, V.ref.injEq, V.str.injEq, reduceCtorEq, decide_true, decide_false, Bool.not_true, Bool.not_false, Bool.false_eq_true, if_false, if_true, ite_true, ite_false, List.length_cons, List.length_nil, tRaise, tErr, LamX.tLam, TTe])
    refine ⟨by decide, fun t ht => ?_⟩
    have tG : ∀ o, hbx b H t ≠ some o := fun o e => by
      have := s1 _ _ e
      rw [hbx_free ht] at this
      cases this
    subst hF1
    refine forR1 n (fun i σ' H' => ∃ y4 y5 y6 y7 xs ps, σ' = [some (.ref b), some (nv n), some (nv side), some (.ref t), y4, y5, y6, y7] ∧ Same (hbx b H) (hbx b H') ∧ Bx b H' ∧ hbx b H' t = some (.lst xs) ∧ Prs (hbx b H') xs ps ∧ Ahead i 0 ps ∧ (∀ p ∈ ps, p.2 < n) ∧ ps.length ≤ 12 * i) (fun R h => ?_) (by omega) ?_ ?_ ?_
    · (try simp only [tVar, tC, tOp, tUn, rI, rI0, rU, rEq, rNe, scal, tTest, tB, tAnd, tOr, tNot, tAndV, tOrV, tNotV, tIf, tChain, tNil, tCons, tCB, tCall, tTup, tLst, tRet, tRetN, tDrop, tSeq, tNext, tIfS, tAsg, gName, tPar, tPar3, gNil, gCons, gTup, gSub, tAug, tSl, tNoPart, tPart, tBM, tBM0, tYes, tIsP, iSeq, iEnumA, RZ.iZipA, iRng1, iRng2, iList, iTup, rIsi, rIsB, rIxL, rIxT, rIxA, rLenA, rListOf, rTupOf, rSetL, rSlL, rCat, rAppend, tFld, sFld, tMake, tBits, Int.ofNat_inj, cast1, cast0, TruV, cxOf, Cx.nox, Cx.wish, tNever, tBreak, tCont, ipI, tDIn, tDNotIn, sDPut, tDNewT, tDNewK, tDGet, rSortedPO, rSortedI, rIn, rEqD, rNeD, rInD, rNotInD, tSSet, rIsV, rIntI, rIntB, rAbsN, tLstRg, tRg1, tRg2, List.append_nil, List.nil_append, List.cons_append, Option.some.injEq, exists_eq_left', exists_eq_left, exists_eq_right, exists_eq_right', List.getElem?_cons_zero, List.getElem?_cons_succ, List.set_cons_zero, List.set_cons_succ, List.cons.injEq, and_true, true_and, exists_and_left, exists_and_right, and_assoc, V.int.injEq, V.bl.injEq, V.ref.injEq, V.str.injEq, reduceCtorEq, decide_true, decide_false, Bool.not_true, Bool.not_false, Bool.false_eq_true, if_false, if_true, ite_true, ite_false, List.length_cons, List.length_nil, tRaise, tErr, LamX.tLam, TTe])
      exact h
    · exact ⟨_, _, _, _, [], [], rfl, s1.trans (hb1.mono (same_new ht)), hb1.same (same_new ht), hb1.new (same_new ht) ht upd_same, .nil, ⟨List.nodup_nil, fun p hp => absurd hp List.not_mem_nil⟩, fun p hp => absurd hp List.not_mem_nil, Nat.le_refl _⟩
    · rintro i σ' H' hi ⟨y4, y5, y6, y7, xs, ps, rfl, sm, hb2, et, hp0, ah, hn, hl⟩
      generalize hF2 : tFor _ _ _ = F2
      (try simp only [tVar, tC, tOp, tUn, rI, rI0, rU, rEq, rNe, scal, tTest, tB, tAnd, tOr, tNot, tAndV, tOrV, tNotV, tIf, tChain, tNil, tCons, tCB, tCall, tTup, tLst, tRet, tRetN, tDrop, tSeq, tNext, tIfS, tAsg, gName, tPar, tPar3, gNil, gCons, gTup, gSub, tAug, tSl, tNoPart, tPart, tBM, tBM0, tYes, tIsP, iSeq, iEnumA, RZ.iZipA, iRng1, iRng2, iList, iTup, rIsi, rIsB, rIxL, rIxT, rIxA, rLenA, rListOf, rTupOf, rSetL, rSlL, rCat, rAppend, tFld, sFld, tMake, tBits, Int.ofNat_inj, cast1, cast0, TruV, cxOf, Cx.nox, Cx.wish, tNever, tBreak, tCont, ipI, tDIn, tDNotIn, sDPut, tDNewT, tDNewK, tDGet, rSortedPO, rSortedI, rIn, rEqD, rNeD, rInD, rNotInD, tSSet, rIsV, rIntI, rIntB, rAbsN, tLstRg, tRg1, tRg2, List.append_nil, List.nil_append, List.cons_append, Option.some.injEq, exists_eq_left', exists_eq_left, exists_eq_right, exists_eq_right', List.getElem?_cons_zero, List.getElem?_cons_succ, List.set_cons_zero, List.set_cons_succ, List.cons.injEq, and_true, true_and, exists_and_left, exists_and_right, and_assoc, V.int.injEq, V.bl.injEq, V.ref.injEq, V.str.injEq, reduceCtorEq, decide_true, decide_false, Bool.not_true, Bool.not_false, Bool.false_eq_true, if_false, if_true, ite_true, ite_false, List.length_cons, List.length_nil, tRaise, tErr, LamX.tLam, TTe])
      subst hF2
      refine forR2 i n (fun j σ' H' => ∃ y5 y6 y7 xs ps, σ' = [some (.ref b), some (nv n), some (nv side), some (.ref t), some (nv i), y5, y6, y7] ∧ Same (hbx b H) (hbx b H') ∧ Bx b H' ∧ hbx b H' t = some (.lst xs) ∧ Prs (hbx b H') xs ps ∧ Ahead i (i + j) ps ∧ (∀ p ∈ ps, p.2 < n) ∧ ps.length ≤ 12 * i + j) (fun R h => ?_) (by omega) ?_ ?_ ?_
      · (try simp only [tVar, tC, tOp, tUn, rI, rI0, rU, rEq, rNe, scal, tTest, tB, tAnd, tOr, tNot, tAndV, tOrV, tNotV, tIf, tChain, tNil, tCons, tCB, tCall, tTup, tLst, tRet, tRetN, tDrop, tSeq, tNext, tIfS, tAsg, gName, tPar, tPar3, gNil, gCons, gTup, gSub, tAug, tSl, tNoPart, tPart, tBM, tBM0, tYes, tIsP, iSeq, iEnumA, RZ.iZipA, iRng1, iRng2, iList, iTup, rIsi, rIsB, rIxL, rIxT, rIxA, rLenA, rListOf, rTupOf, rSetL, rSlL, rCat, rAppend, tFld, sFld, tMake, tBits, Int.ofNat_inj, cast1, cast0, TruV, cxOf, Cx.nox, Cx.wish, tNever, tBreak, tCont, ipI, tDIn, tDNotIn, sDPut, tDNewT, tDNewK, tDGet, rSortedPO, rSortedI, rIn, rEqD, rNeD, rInD, rNotInD, tSSet, rIsV, rIntI, rIntB, rAbsN, tLstRg, tRg1, tRg2, List.append_nil, List.nil_append, List.cons_append, Option.some.injEq, exists_eq_left', exists_eq_left, exists_eq_right, exists_eq_right', List.getElem?_cons_zero, List.getElem?_cons_succ, List.set_cons_zero, List.set_cons_succ, List.cons.injEq, and_true, true_and, exists_and_left, exists_and_right, and_assoc, V.int.injEq, V.bl.injEq, V.ref.injEq, V.str.injEq, reduceCtorEq, decide_true, decide_false, Bool.not_true, Bool.not_false, Bool.false_eq_true, if_false, if_true, ite_true, ite_false, List.length_cons, List.length_nil, tRaise, tErr, LamX.tLam, TTe])
        exact h
      · exact ⟨_, _, _, xs, ps, rfl, sm, hb2, et, hp0, ah.mono (Nat.zero_le _), hn, hl⟩
      · rintro j σ' H' hj ⟨y5, y6, y7, xs, ps, rfl, sm, hb2, et, hp0, ah, hn, hl⟩
        generalize hS : tIfS (tB (tVar 7)) _ _ = S7
        (try simp only [tVar, tC, tOp, tUn, rI, rI0, rU, rEq, rNe, scal, tTest, tB, tAnd, tOr, tNot, tAndV, tOrV, tNotV, tIf, tChain, tNil, tCons, tCB, tCall, tTup, tLst, tRet, tRetN, tDrop, tSeq, tNext, tIfS, tAsg, gName, tPar, tPar3, gNil, gCons, gTup, gSub, tAug, tSl, tNoPart, tPart, tBM, tBM0, tYes, tIsP, iSeq, iEnumA, RZ.iZipA, iRng1, iRng2, iList, iTup, rIsi, rIsB, rIxL, rIxT, rIxA, rLenA, rListOf, rTupOf, rSetL, rSlL, rCat, rAppend, tFld, sFld, tMake, tBits, Int.ofNat_inj, cast1, cast0, TruV, cxOf, Cx.nox, Cx.wish, tNever, tBreak, tCont, ipI, tDIn, tDNotIn, sDPut, tDNewT, tDNewK, tDGet, rSortedPO, rSortedI, rIn, rEqD, rNeD, rInD, rNotInD, tSSet, rIsV, rIntI, rIntB, rAbsN, tLstRg, tRg1, tRg2, List.append_nil, List.nil_append, List.cons_append, Option.some.injEq, exists_eq_left', exists_eq_left, exists_eq_right, exists_eq_right', List.getElem?_cons_zero, List.getElem?_cons_succ, List.set_cons_zero, List.set_cons_succ, List.cons.injEq, and_true, true_and, exists_and_left, exists_and_right, and_assoc, V.int.injEq, V.bl.injEq, V.ref.injEq, V.str.injEq, reduceCtorEq, decide_true, decide_false, Bool.not_true, Bool.not_false, Bool.false_eq_true, if_false, if_true, ite_true, ite_false, List.length_cons, List.length_nil, tRaise, tErr, LamX.tLam, TTe])
        refine ⟨b, 6, rfl, by decide, hb2, fun H3 ch s3 hb3 hc => ?_⟩
        have et3 := s3 _ _ et
        have fin : ∀ (D : Ends) (v : Bool), D.nx [some (.ref b), some (nv n), some (nv side), some (.ref t), some (nv i), some (nv (i + j)), some (nv ch), some (.bl v)] H3 →
            (∀ p, H3 p = none → D.nx [some (.ref b), some (nv n), some (nv side), some (.ref t), some (nv i), some (nv (i + j)), some (nv ch), some (.bl v)] (upd (upd H3 p (.tup [nv i, nv (i + j)])) t (.lst (xs ++ [.ref p])))) →
            S7 D [some (.ref b), some (nv n), some (nv side), some (.ref t), some (nv i), some (nv (i + j)), some (nv ch), some (.bl v)] H3 := by
          intro D v e1 e2
          subst hS
          (try simp only [tVar, tC, tOp, tUn, rI, rI0, rU, rEq, rNe, scal, tTest, tB, tAnd, tOr, tNot, tAndV, tOrV, tNotV, tIf, tChain, tNil, tCons, tCB, tCall, tTup, tLst, tRet, tRetN, tDrop, tSeq, tNext, tIfS, tAsg, gName, tPar, tPar3, gNil, gCons, gTup, gSub, tAug, tSl, tNoPart, tPart, tBM, tBM0, tYes, tIsP, iSeq, iEnumA, RZ.iZipA, iRng1, iRng2, iList, iTup, rIsi, rIsB, rIxL, rIxT, rIxA, rLenA, rListOf, rTupOf, rSetL, rSlL, rCat, rAppend, tFld, sFld, tMake, tBits, Int.ofNat_inj, cast1, cast0, TruV, cxOf, Cx.nox, Cx.wish, tNever, tBreak, tCont, ipI, tDIn, tDNotIn, sDPut, tDNewT, tDNewK, tDGet, rSortedPO, rSortedI, rIn, rEqD, rNeD, rInD, rNotInD, tSSet, rIsV, rIntI, rIntB, rAbsN, tLstRg, tRg1, tRg2, List.append_nil, List.nil_append, List.cons_append, Option.some.injEq, exists_eq_left', exists_eq_left, exists_eq_right, exists_eq_right', List.getElem?_cons_zero, List.getElem?_cons_succ, List.set_cons_zero, List.set_cons_succ, List.cons.injEq, and_true, true_and, exists_and_left, exists_and_right, and_assoc, V.int.injEq, V.bl.injEq, V.ref.injEq, V.str.injEq, reduceCtorEq, decide_true, decide_false, Bool.not_true, Bool.not_false, Bool.false_eq_true, if_false, if_true, ite_true, ite_false, List.length_cons, List.length_nil, tRaise, tErr, LamX.tLam, TTe])
          cases v
          · exact iteF e1
          · refine iteT ⟨ty_lst (.of (hbx_le _ _ _ _ et3)), by decide, fun p hp => ⟨_, same_new hp _ _ (hbx_le _ _ _ _ et3), ?_, e2 p hp⟩⟩
            rw [hp0.len, sizeLine_eq]
            omega
        have no : ∃ xs ps, hbx b H3 t = some (.lst xs) ∧ Prs (hbx b H3) xs ps ∧ Ahead i (i + (j + 1)) ps ∧ (∀ p ∈ ps, p.2 < n) ∧ ps.length ≤ 12 * i + (j + 1) :=
          ⟨xs, ps, et3, hp0.same s3, ah.mono (by omega), hn, by omega⟩
        have yes : ∀ p, H3 p = none → Same (hbx b H) (hbx b (upd (upd H3 p (.tup [nv i, nv (i + j)])) t (.lst (xs ++ [.ref p])))) ∧ Bx b (upd (upd H3 p (.tup [nv i, nv (i + j)])) t (.lst (xs ++ [.ref p]))) ∧
            ∃ xs' ps', hbx b (upd (upd H3 p (.tup [nv i, nv (i + j)])) t (.lst (xs ++ [.ref p]))) t = some (.lst xs') ∧ Prs (hbx b (upd (upd H3 p (.tup [nv i, nv (i + j)])) t (.lst (xs ++ [.ref p])))) xs' ps' ∧ Ahead i (i + (j + 1)) ps' ∧ (∀ p ∈ ps', p.2 < n) ∧ ps'.length ≤ 12 * i + (j + 1) := by
          intro p hp
          have s4 := same_new (o := .tup [nv i, nv (i + j)]) hp
          have g4 := hb3.mono s4
          have et4 := g4 _ _ et3
          have ep : hbx b (upd H3 p (.tup [nv i, nv (i + j)])) p = some (.tup [nv i, nv (i + j)]) := hb3.new s4 hp upd_same
          refine ⟨fun a o ha => ?_, (hb3.same s4).put et4, xs ++ [.ref p], ps ++ [(i, i + j)], by rw [hbx_put et4, upd_same], ?_, ah.snoc (Nat.le_add_right i j), fun z hz => ?_, by rw [List.length_append, List.length_singleton]; omega⟩
          · rw [hbx_put et4, upd_ne (fun e => tG o (by rw [← e]; exact ha))]
            exact g4 _ _ (s3 _ _ (sm _ _ ha))
          · rw [hbx_put et4]
            exact (((hp0.same s3).same g4).snoc ⟨p, rfl, ep⟩).upd fun ys e => by rw [et4] at e; cases e
          · rcases List.mem_append.mp hz with hz | hz
            · exact hn z hz
            · rw [List.mem_singleton.mp hz]
              exact hj
        (try simp only [tVar, tC, tOp, tUn, rI, rI0, rU, rEq, rNe, scal, tTest, tB, tAnd, tOr, tNot, tAndV, tOrV, tNotV, tIf, tChain, tNil, tCons, tCB, tCall, tTup, tLst, tRet, tRetN, tDrop, tSeq, tNext, tIfS, tAsg, gName, tPar, tPar3, gNil, gCons, gTup, gSub, tAug, tSl, tNoPart, tPart, tBM, tBM0, tYes, tIsP, iSeq, iEnumA, RZ.iZipA, iRng1, iRng2, iList, iTup, rIsi, rIsB, rIxL, rIxT, rIxA, rLenA, rListOf, rTupOf, rSetL, rSlL, rCat, rAppend, tFld, sFld, tMake, tBits, Int.ofNat_inj, cast1, cast0, TruV, cxOf, Cx.nox, Cx.wish, tNever, tBreak, tCont, ipI, tDIn, tDNotIn, sDPut, tDNewT, tDNewK, tDGet, rSortedPO, rSortedI, rIn, rEqD, rNeD, rInD, rNotInD, tSSet, rIsV, rIntI, rIntB, rAbsN, tLstRg, tRg1, tRg2, List.append_nil, List.nil_append, List.cons_append, Option.some.injEq, exists_eq_left', exists_eq_left, exists_eq_right, exists_eq_right', List.getElem?_cons_zero, List.getElem?_cons_succ, List.set_cons_zero, List.set_cons_succ, List.cons.injEq, and_true, true_and, exists_and_left, exists_and_right, and_assoc, V.int.injEq, V.bl.injEq, V.ref.injEq, V.str.injEq, reduceCtorEq, decide_true, decide_false, Bool.not_true, Bool.not_false, Bool.false_eq_true, if_false, if_true, ite_true, ite_false, List.length_cons, List.length_nil, tRaise, tErr, LamX.tLam, TTe])
        repeat' (first | refine iteB ?_ ?_ | refine ⟨by decide, ?_⟩ | refine ⟨⟨by decide, by decide⟩, ?_⟩ | fail)
        all_goals
          refine fin _ _ ?_ fun p hp => ?_
          · obtain ⟨xs', ps', z⟩ := no
            exact ⟨⟨_, _, _, rfl⟩, sm.trans s3, hb3, xs', z.1, ps', z.2⟩
          · obtain ⟨z1, z2, xs', ps', z⟩ := yes p hp
            exact ⟨⟨_, _, _, rfl⟩, z1, z2, xs', z.1, ps', z.2⟩
      · rintro σ' H' ⟨y5, y6, y7, xs, ps, rfl, sm, hb2, et, hp0, ah, hn, hl⟩
        (try simp only [tVar, tC, tOp, tUn, rI, rI0, rU, rEq, rNe, scal, tTest, tB, tAnd, tOr, tNot, tAndV, tOrV, tNotV, tIf, tChain, tNil, tCons, tCB, tCall, tTup, tLst, tRet, tRetN, tDrop, tSeq, tNext, tIfS, tAsg, gName, tPar, tPar3, gNil, gCons, gTup, gSub, tAug, tSl, tNoPart, tPart, tBM, tBM0, tYes, tIsP, iSeq, iEnumA, RZ.iZipA, iRng1, iRng2, iList, iTup, rIsi, rIsB, rIxL, rIxT, rIxA, rLenA, rListOf, rTupOf, rSetL, rSlL, rCat, rAppend, tFld, sFld, tMake, tBits, Int.ofNat_inj, cast1, cast0, TruV, cxOf, Cx.nox, Cx.wish, tNever, tBreak, tCont, ipI, tDIn, tDNotIn, sDPut, tDNewT, tDNewK, tDGet, rSortedPO, rSortedI, rIn, rEqD, rNeD, rInD, rNotInD, tSSet, rIsV, rIntI, rIntB, rAbsN, tLstRg, tRg1, tRg2, List.append_nil, List.nil_append, List.cons_append, Option.some.injEq, exists_eq_left', exists_eq_left, exists_eq_right, exists_eq_right', List.getElem?_cons_zero, List.getElem?_cons_succ, List.set_cons_zero, List.set_cons_succ, List.cons.injEq, and_true, true_and, exists_and_left, exists_and_right, and_assoc, V.int.injEq, V.bl.injEq, V.ref.injEq, V.str.injEq, reduceCtorEq, decide_true, decide_false, Bool.not_true, Bool.not_false, Bool.false_eq_true, if_false, if_true, ite_true, ite_false, List.length_cons, List.length_nil, tRaise, tErr, LamX.tLam, TTe])
        exact ⟨⟨_, rfl⟩, sm, hb2, xs, et, ps, hp0, ah.row, hn, by omega⟩
    · rintro σ' H' ⟨y4, y5, y6, y7, xs, ps, rfl, sm, hb2, et, hp0, ah, hn, hl⟩
      (try simp only [tVar, tC, tOp, tUn, rI, rI0, rU, rEq, rNe, scal, tTest, tB, tAnd, tOr, tNot, tAndV, tOrV, tNotV, tIf, tChain, tNil, tCons, tCB, tCall, tTup, tLst, tRet, tRetN, tDrop, tSeq, tNext, tIfS, tAsg, gName, tPar, tPar3, gNil, gCons, gTup, gSub, tAug, tSl, tNoPart, tPart, tBM, tBM0, tYes, tIsP, iSeq, iEnumA, RZ.iZipA, iRng1, iRng2, iList, iTup, rIsi, rIsB, rIxL, rIxT, rIxA, rLenA, rListOf, rTupOf, rSetL, rSlL, rCat, rAppend, tFld, sFld, tMake, tBits, Int.ofNat_inj, cast1, cast0, TruV, cxOf, Cx.nox, Cx.wish, tNever, tBreak, tCont, ipI, tDIn, tDNotIn, sDPut, tDNewT, tDNewK, tDGet, rSortedPO, rSortedI, rIn, rEqD, rNeD, rInD, rNotInD, tSSet, rIsV, rIntI, rIntB, rAbsN, tLstRg, tRg1, tRg2, List.append_nil, List.nil_append, List.cons_append, Option.some.injEq, exists_eq_left', exists_eq_left, exists_eq_right, exists_eq_right', List.getElem?_cons_zero, List.getElem?_cons_succ, List.set_cons_zero, List.set_cons_succ, List.cons.injEq, and_true, true_and, exists_and_left, exists_and_right, and_assoc, V.int.injEq, V.bl.injEq, V.ref.injEq, V.str.injEq, reduceCtorEq, decide_true, decide_false, Bool.not_true, Bool.not_false, Bool.false_eq_true, if_false, if_true, ite_true, ite_false, List.length_cons, List.length_nil, tRaise, tErr, LamX.tLam, TTe])
      exact q H' t xs ps sm hb2 (Option.eq_none_iff_forall_ne_some.mpr tG) et hp0 ⟨ah.1, fun p hp => ⟨(ah.2 p hp).1, hn p hp⟩⟩ (by omega)
end
end Kr
namespace Kr
open PySem PySem.Spec PyProof.Rows L2 Kb
section
variable {P : Program} {w : World} {K : PySem.W.Frag} {mg : Str → Option Value} {base : Heap}
def sp_is_text (K : PySem.W.Frag) : Sp := fun vs H Q _ => ∃ x a, ∃ ws : List Str, ∃ t b, vs = [x, .ref a] ∧ SqT K H a (ws.map V.str) ∧ TyX K H x t ∧ PySem.W.kitOne K t (.type "str") = some b ∧ (b = false → Q (.bl false) H) ∧
  (b = true → ∃ z : Str, x = .str z ∧ Q (.bl (inV (.str z) (ws.map V.str))) H)
theorem flat_strs (ws : List Str) : (ws.map V.str).all flatV = true := by
  rw [List.all_eq_true]
  intro x hx
  obtain ⟨k, _, rfl⟩ := List.mem_map.mp hx
  rfl
theorem in_strs (z : Str) (ws : List Str) : inV (.str z) (ws.map V.str) = decide (z ∈ ws) := by
  unfold inV
  rw [Bool.eq_iff_iff, List.any_eq_true, decide_eq_true_eq]
  constructor
  · rintro ⟨y, hy, e⟩
    obtain ⟨m, hm, rfl⟩ := List.mem_map.mp hy
    have e2 : m = z := by simpa [eqV] using e
    exact e2 ▸ hm
  · intro h
    exact ⟨.str z, List.mem_map.mpr ⟨z, h, rfl⟩, by simp [eqV]⟩
theorem ok_is_text (T : Tx P K mg) : FnOk P w K mg base CX0 1 T.a_is_text T.d_is_text ["value", "words"] (sp_is_text K) := by
  refine T.F_is_text.ok sc_is_text (fun vs H Q E h => ?_) (fun cdv A outer s H vs Q E hr h => ?_)
  · obtain ⟨x, a, ws, t, b, rfl, _⟩ := h
    rfl
  · obtain ⟨x, a, ws, t, b, rfl, ha, ht, hb, q0, q1⟩ := h
    refine ⟨_, (pss_one (ps_ret (pe_and (pe_callB (isiK (K := K) rfl) (by rfl) T.n_isinstance (by decide +kernel) (pa_cons (pv 0) (pa_cons (pe_bltn (v := .ty "str") (by rfl) T.n_str (by decide +kernel) rfl) pa_nil))) (pe_one (pe_cmpR (inK (K := K) rfl) (pv 0) (pv 1) (by rfl)))))), ?_⟩
    rw [show L2.start ["value", "words"] [x, .ref a] = [some (x), some (.ref a)] from rfl]
    (try simp only [tVar, tC, tOp, tUn, rI, rI0, rU, rEq, rNe, scal, tTest, tB, tAnd, tOr, tNot, tAndV, tOrV, tNotV, tIf, tChain, tNil, tCons, tCB, tCall, tTup, tLst, tRet, tRetN, tDrop, tSeq, tNext, tIfS, tAsg, gName, tPar, tPar3, gNil, gCons, gTup, gSub, tAug, tSl, tNoPart, tPart, tBM, tBM0, tYes, tIsP, iSeq, iEnumA, RZ.iZipA, iRng1, iRng2, iList, iTup, rIsi, rIsB, rIxL, rIxT, rIxA, rLenA, rListOf, rTupOf, rSetL, rSlL, rCat, rAppend, tFld, sFld, tMake, tBits, Int.ofNat_inj, cast1, cast0, TruV, cxOf, Cx.nox, Cx.wish, tNever, tBreak, tCont, ipI, tDIn, tDNotIn, sDPut, tDNewT, tDNewK, tDGet, rSortedPO, rSortedI, rIn, rEqD, rNeD, rInD, rNotInD, tSSet, rIsV, rIntI, rIntB, rAbsN, tLstRg, tRg1, tRg2, List.append_nil, List.nil_append, List.cons_append, Option.some.injEq, exists_eq_left', exists_eq_left, exists_eq_right, exists_eq_right', List.getElem?_cons_zero, List.getElem?_cons_succ, List.set_cons_zero, List.set_cons_succ, List.cons.injEq, and_true, true_and, exists_and_left, exists_and_right, and_assoc, V.int.injEq, V.bl.injEq, V.ref.injEq, V.str.injEq, reduceCtorEq, decide_true, decide_false, Bool.not_true, Bool.not_false, Bool.false_eq_true, if_false, if_true, ite_true, ite_false, List.length_cons, List.length_nil, tRaise, tErr, LamX.tLam, TTe])
    refine ⟨_, _, .ty "str", ht, b, hb, ?_⟩
    cases b with
    | false => exact iteF (q0 rfl)
    | true =>
      obtain ⟨z, rfl, q⟩ := q1 rfl
      refine iteT ?_
      exact ⟨_, .inr ha, rfl, flat_strs ws, q⟩
/-- the row of what's -/
abbrev whats : List Str := [Str.ofString "take", Str.ofString "give"]
/-- whether a value is a step below n, as the program looks at it -/
inductive StepV (K : PySem.W.Frag) (H : Hp) (n : Nat) : V → Bool → Prop
  | good {a : Addr} {z : Str} {k : Nat} : Seq K H a [.str z, nv k] → z ∈ whats → k < n → StepV K H n (.ref a) true
  | noSeq {x : V} {t : Value} : TyX K H x t → PySem.W.kitAny K t [.type "list", .type "tuple"] = some false → StepV K H n x false
  | size {a : Addr} {xs : List V} : Seq K H a xs → xs.length ≠ 2 → StepV K H n (.ref a) false
  | noText {a : Addr} {x y : V} {t : Value} : Seq K H a [x, y] → TyX K H x t → PySem.W.kitOne K t (.type "str") = some false → StepV K H n (.ref a) false
  | noWhat {a : Addr} {y : V} {z : Str} : Seq K H a [.str z, y] → z ∉ whats → StepV K H n (.ref a) false
  | noKey {a : Addr} {y : V} {z : Str} {o : Option Int} : Seq K H a [.str z, y] → z ∈ whats → AsInt K H y o → below n o = false → StepV K H n (.ref a) false
def sp_is_step (K : PySem.W.Frag) : Sp := fun vs H Q _ => ∃ x n b, vs = [x, nv n] ∧ StepV K H n x b ∧ Q (.bl b) H
theorem ok_is_step (T : Tx P K mg) : FnOk P w K mg base CX0 3 T.a_is_step T.d_is_step ["value", "many"] (sp_is_step K) := by
  refine T.F_is_step.ok sc_is_step (fun vs H Q E h => ?_) (fun cdv A outer s H vs Q E hr h => ?_)
  · obtain ⟨x, n, b, rfl, _⟩ := h
    rfl
  · obtain ⟨x, n, b, rfl, hb, q⟩ := h
    refine ⟨_, (pss_one (ps_ret (pe_and (pe_call (ok_is_row T) (hr.mono (by decide)) (by rfl) T.g_is_row T.F_is_row.kp T.b_is_row .nil pass0 (pa_cons (pv 0) (pa_cons pe_int pa_nil))) (pe_and (pe_call (ok_is_text T) (hr.mono (by decide)) (by rfl) T.g_is_text T.F_is_text.kp T.b_is_text .nil pass0 (pa_cons (pe_ix (ixA (K := K) rfl) (pv 0) pe_int (fun _ _ => rfl)) (pa_cons (pe_glob (v := .ref T.c_WHATS) rfl T.g_WHATS rfl) pa_nil))) (pe_one (pe_call (ok_is_below T) (hr.mono (by decide)) (by rfl) T.g_is_below T.F_is_below.kp T.b_is_below .nil pass0 (pa_cons (pe_ix (ixA (K := K) rfl) (pv 0) pe_int (fun _ _ => rfl)) (pa_cons (pv 1) pa_nil)))))))), ?_⟩
    rw [show L2.start ["value", "many"] [x, nv n] = [some (x), some (nv n)] from rfl]
    (try simp only [tVar, tC, tOp, tUn, rI, rI0, rU, rEq, rNe, scal, tTest, tB, tAnd, tOr, tNot, tAndV, tOrV, tNotV, tIf, tChain, tNil, tCons, tCB, tCall, tTup, tLst, tRet, tRetN, tDrop, tSeq, tNext, tIfS, tAsg, gName, tPar, tPar3, gNil, gCons, gTup, gSub, tAug, tSl, tNoPart, tPart, tBM, tBM0, tYes, tIsP, iSeq, iEnumA, RZ.iZipA, iRng1, iRng2, iList, iTup, rIsi, rIsB, rIxL, rIxT, rIxA, rLenA, rListOf, rTupOf, rSetL, rSlL, rCat, rAppend, tFld, sFld, tMake, tBits, Int.ofNat_inj, cast1, cast0, TruV, cxOf, Cx.nox, Cx.wish, tNever, tBreak, tCont, ipI, tDIn, tDNotIn, sDPut, tDNewT, tDNewK, tDGet, rSortedPO, rSortedI, rIn, rEqD, rNeD, rInD, rNotInD, tSSet, rIsV, rIntI, rIntB, rAbsN, tLstRg, tRg1, tRg2, List.append_nil, List.nil_append, List.cons_append, Option.some.injEq, exists_eq_left', exists_eq_left, exists_eq_right, exists_eq_right', List.getElem?_cons_zero, List.getElem?_cons_succ, List.set_cons_zero, List.set_cons_succ, List.cons.injEq, and_true, true_and, exists_and_left, exists_and_right, and_assoc, V.int.injEq, V.bl.injEq, V.ref.injEq, V.str.injEq, reduceCtorEq, decide_true, decide_false, Bool.not_true, Bool.not_false, Bool.false_eq_true, if_false, if_true, ite_true, ite_false, List.length_cons, List.length_nil, tRaise, tErr, LamX.tLam, TTe])
    cases hb with
    | noSeq h1 h2 => exact ⟨_, _, _, _, rfl, h1, h2, fun _ => ⟨false, rfl, iteF q⟩, fun z => nomatch z⟩
    | size hs hl =>
      refine row_i hs ?_
      rw [decide_eq_false (by omega)]
      exact ⟨false, rfl, iteF q⟩
    | noText hs ht hk =>
      refine row_i hs ⟨true, rfl, iteT ?_⟩
      refine ⟨_, rfl, _, hs, _, atI_nat (j := 0) rfl, _, _, whats, _, _, rfl, T.t_WHATS H, ht, hk, fun _ => ⟨false, rfl, iteF q⟩, fun z => nomatch z⟩
    | noWhat hs hz =>
      refine row_i hs ⟨true, rfl, iteT ?_⟩
      refine ⟨_, rfl, _, hs, _, atI_nat (j := 0) rfl, _, _, whats, _, true, rfl, T.t_WHATS H, .base (.str _), kit_ty (by decide +kernel), fun z => (nomatch z), fun _ => ⟨_, rfl, ?_⟩⟩
      rw [in_strs, decide_eq_false hz]
      exact ⟨false, rfl, iteF q⟩
    | noKey hs hz ho hb =>
      refine row_i hs ⟨true, rfl, iteT ?_⟩
      refine ⟨_, rfl, _, hs, _, atI_nat (j := 0) rfl, _, _, whats, _, true, rfl, T.t_WHATS H, .base (.str _), kit_ty (by decide +kernel), fun z => (nomatch z), fun _ => ⟨_, rfl, ?_⟩⟩
      rw [in_strs, decide_eq_true hz]
      refine ⟨true, rfl, iteT ⟨_, rfl, _, hs, _, atI_nat (j := 1) rfl, _, _, _, rfl, ho, ?_⟩⟩
      rw [hb]
      exact q
    | good hs hz hk =>
      refine row_i hs ⟨true, rfl, iteT ?_⟩
      refine ⟨_, rfl, _, hs, _, atI_nat (j := 0) rfl, _, _, whats, _, true, rfl, T.t_WHATS H, .base (.str _), kit_ty (by decide +kernel), fun z => (nomatch z), fun _ => ⟨_, rfl, ?_⟩⟩
      rw [in_strs, decide_eq_true hz]
      exact ⟨true, rfl, iteT ⟨_, rfl, _, hs, _, atI_nat (j := 1) rfl, below_n hk q⟩⟩
theorem odd_is (m k : Nat) : decide (((m >>> k &&& 1 : Nat) : Int) = 1) = m.testBit k := by
  have e := odd_test m k
  have h : (m >>> k &&& 1) < 2 := by rw [Nat.and_one_is_mod]; omega
  rw [← e, Bool.eq_iff_iff, decide_eq_true_eq, bne_iff_ne]
  omega
def sp_can_do (K : PySem.W.Frag) : Sp := fun vs H Q _ => ∃ (h : Nat) (z : Str) (k : Nat), vs = [nv h, .str z, nv k] ∧ Q (.bl (decide (h.testBit k = (z == Str.ofString "give")))) H
theorem ok_can_do (T : Tx P K mg) : FnOk P w K mg base CX0 1 T.a_can_do T.d_can_do ["held", "what", "key"] (sp_can_do K) := by
  refine T.F_can_do.ok sc_can_do (fun vs H Q E h => ?_) (fun cdv A outer s H vs Q E hr h => ?_)
  · obtain ⟨h, z, k, rfl, _⟩ := h
    rfl
  · obtain ⟨h, z, k, rfl, q⟩ := h
    refine ⟨_, (pss_one (ps_ret (pe_cmpR op_eq (pe_cmpR op_eq (pe_op op_andU (pe_op op_shrU (pv 0) (pv 2)) pe_int) pe_int (nomark _)) (pe_cmpR op_eq (pv 1) pe_str (nomark _)) (nomark _)))), ?_⟩
    rw [show L2.start ["held", "what", "key"] [nv h, .str z, nv k] = [some (nv h), some (.str z), some (nv k)] from rfl]
    (try simp only [tVar, tC, tOp, tUn, rI, rI0, rU, rEq, rNe, scal, tTest, tB, tAnd, tOr, tNot, tAndV, tOrV, tNotV, tIf, tChain, tNil, tCons, tCB, tCall, tTup, tLst, tRet, tRetN, tDrop, tSeq, tNext, tIfS, tAsg, gName, tPar, tPar3, gNil, gCons, gTup, gSub, tAug, tSl, tNoPart, tPart, tBM, tBM0, tYes, tIsP, iSeq, iEnumA, RZ.iZipA, iRng1, iRng2, iList, iTup, rIsi, rIsB, rIxL, rIxT, rIxA, rLenA, rListOf, rTupOf, rSetL, rSlL, rCat, rAppend, tFld, sFld, tMake, tBits, Int.ofNat_inj, cast1, cast0, TruV, cxOf, Cx.nox, Cx.wish, tNever, tBreak, tCont, ipI, tDIn, tDNotIn, sDPut, tDNewT, tDNewK, tDGet, rSortedPO, rSortedI, rIn, rEqD, rNeD, rInD, rNotInD, tSSet, rIsV, rIntI, rIntB, rAbsN, tLstRg, tRg1, tRg2, List.append_nil, List.nil_append, List.cons_append, Option.some.injEq, exists_eq_left', exists_eq_left, exists_eq_right, exists_eq_right', List.getElem?_cons_zero, List.getElem?_cons_succ, List.set_cons_zero, List.set_cons_succ, List.cons.injEq, and_true, true_and, exists_and_left, exists_and_right, and_assoc, V.int.injEq, V.bl.injEq, V.ref.injEq, V.str.injEq, reduceCtorEq, decide_true, decide_false, Bool.not_true, Bool.not_false, Bool.false_eq_true, if_false, if_true, ite_true, ite_false, List.length_cons, List.length_nil, tRaise, tErr, LamX.tLam, TTe])
    have e : (decide (((h >>> k &&& 1 : Nat) : Int) = 1) = decide (z = Str.ofString "give")) = (h.testBit k = (z == Str.ofString "give")) := by
      rw [odd_is, show decide (z = Str.ofString "give") = (z == Str.ofString "give") by rw [Bool.eq_iff_iff, decide_eq_true_eq, beq_iff_eq]]
    simp only [e]
    exact q
def sp_held_behind (K : PySem.W.Frag) : Sp := fun vs H Q _ => ∃ h k : Nat, vs = [nv h, nv k] ∧ k < 64 ∧ Q (nv (h ^^^ 1 <<< k)) H
theorem ok_held_behind (T : Tx P K mg) : FnOk P w K mg base CX0 1 T.a_held_behind T.d_held_behind ["held", "key"] (sp_held_behind K) := by
  refine T.F_held_behind.ok sc_held_behind (fun vs H Q E h => ?_) (fun cdv A outer s H vs Q E hr h => ?_)
  · obtain ⟨h, k, rfl, _⟩ := h
    rfl
  · obtain ⟨h, k, rfl, hk, q⟩ := h
    refine ⟨_, (pss_one (ps_ret (pe_op op_xorU (pv 0) (pe_op op_shlU pe_int (pv 1))))), ?_⟩
    rw [show L2.start ["held", "key"] [nv h, nv k] = [some (nv h), some (nv k)] from rfl]
    (try simp only [tVar, tC, tOp, tUn, rI, rI0, rU, rEq, rNe, scal, tTest, tB, tAnd, tOr, tNot, tAndV, tOrV, tNotV, tIf, tChain, tNil, tCons, tCB, tCall, tTup, tLst, tRet, tRetN, tDrop, tSeq, tNext, tIfS, tAsg, gName, tPar, tPar3, gNil, gCons, gTup, gSub, tAug, tSl, tNoPart, tPart, tBM, tBM0, tYes, tIsP, iSeq, iEnumA, RZ.iZipA, iRng1, iRng2, iList, iTup, rIsi, rIsB, rIxL, rIxT, rIxA, rLenA, rListOf, rTupOf, rSetL, rSlL, rCat, rAppend, tFld, sFld, tMake, tBits, Int.ofNat_inj, cast1, cast0, TruV, cxOf, Cx.nox, Cx.wish, tNever, tBreak, tCont, ipI, tDIn, tDNotIn, sDPut, tDNewT, tDNewK, tDGet, rSortedPO, rSortedI, rIn, rEqD, rNeD, rInD, rNotInD, tSSet, rIsV, rIntI, rIntB, rAbsN, tLstRg, tRg1, tRg2, List.append_nil, List.nil_append, List.cons_append, Option.some.injEq, exists_eq_left', exists_eq_left, exists_eq_right, exists_eq_right', List.getElem?_cons_zero, List.getElem?_cons_succ, List.set_cons_zero, List.set_cons_succ, List.cons.injEq, and_true, true_and, exists_and_left, exists_and_right, and_assoc, V.int.injEq, V.bl.injEq, V.ref.injEq, V.str.injEq, reduceCtorEq, decide_true, decide_false, Bool.not_true, Bool.not_false, Bool.false_eq_true, if_false, if_true, ite_true, ite_false, List.length_cons, List.length_nil, tRaise, tErr, LamX.tLam, TTe])
    exact ⟨by omega, q⟩
def sp_had_behind (K : PySem.W.Frag) : Sp := fun vs H Q _ => ∃ (h : Nat) (z : Str) (k : Nat), vs = [nv h, .str z, nv k] ∧ k < 64 ∧ Q (nv (if z = Str.ofString "give" then h ||| 1 <<< k else h)) H
theorem ok_had_behind (T : Tx P K mg) : FnOk P w K mg base CX0 1 T.a_had_behind T.d_had_behind ["had", "what", "key"] (sp_had_behind K) := by
  refine T.F_had_behind.ok sc_had_behind (fun vs H Q E h => ?_) (fun cdv A outer s H vs Q E hr h => ?_)
  · obtain ⟨h, z, k, rfl, _⟩ := h
    rfl
  · obtain ⟨h, z, k, rfl, hk, q⟩ := h
    refine ⟨_, (pss_one (ps_ret (pe_ifExp (pt_cmpR op_eq (pv 1) pe_str (nomark _)) (pe_op op_orU (pv 0) (pe_op op_shlU pe_int (pv 2))) (pv 0)))), ?_⟩
    rw [show L2.start ["had", "what", "key"] [nv h, .str z, nv k] = [some (nv h), some (.str z), some (nv k)] from rfl]
    (try simp only [tVar, tC, tOp, tUn, rI, rI0, rU, rEq, rNe, scal, tTest, tB, tAnd, tOr, tNot, tAndV, tOrV, tNotV, tIf, tChain, tNil, tCons, tCB, tCall, tTup, tLst, tRet, tRetN, tDrop, tSeq, tNext, tIfS, tAsg, gName, tPar, tPar3, gNil, gCons, gTup, gSub, tAug, tSl, tNoPart, tPart, tBM, tBM0, tYes, tIsP, iSeq, iEnumA, RZ.iZipA, iRng1, iRng2, iList, iTup, rIsi, rIsB, rIxL, rIxT, rIxA, rLenA, rListOf, rTupOf, rSetL, rSlL, rCat, rAppend, tFld, sFld, tMake, tBits, Int.ofNat_inj, cast1, cast0, TruV, cxOf, Cx.nox, Cx.wish, tNever, tBreak, tCont, ipI, tDIn, tDNotIn, sDPut, tDNewT, tDNewK, tDGet, rSortedPO, rSortedI, rIn, rEqD, rNeD, rInD, rNotInD, tSSet, rIsV, rIntI, rIntB, rAbsN, tLstRg, tRg1, tRg2, List.append_nil, List.nil_append, List.cons_append, Option.some.injEq, exists_eq_left', exists_eq_left, exists_eq_right, exists_eq_right', List.getElem?_cons_zero, List.getElem?_cons_succ, List.set_cons_zero, List.set_cons_succ, List.cons.injEq, and_true, true_and, exists_and_left, exists_and_right, and_assoc, V.int.injEq, V.bl.injEq, V.ref.injEq, V.str.injEq, reduceCtorEq, decide_true, decide_false, Bool.not_true, Bool.not_false, Bool.false_eq_true, if_false, if_true, ite_true, ite_false, List.length_cons, List.length_nil, tRaise, tErr, LamX.tLam, TTe])
    by_cases e : z = Str.ofString "give"
    · rw [if_pos e] at q
      rw [decide_eq_true e]
      exact iteT ⟨by omega, q⟩
    · rw [if_neg e] at q
      rw [decide_eq_false e]
      exact iteF q
end
end Kr
namespace Kr
open PySem PySem.Spec PyProof.Rows L2 Kb
section
variable {P : Program} {w : World} {K : PySem.W.Frag} {mg : Str → Option Value} {base : Heap}
abbrev Step := Str × Nat
abbrev give : Str := Str.ofString "give"
def canDo (h : Nat) (s : Step) : Bool := decide (h.testBit s.2 = (s.1 == give))
def hadB (d : Nat) (s : Step) : Nat := if s.1 = give then d ||| 1 <<< s.2 else d
/-- the first wrong place, what is held and was had there -/
def walkF : Nat → Nat → Nat → List (Option Step) → Option Nat × Nat × Nat
  | _, h, d, [] => (none, h, d)
  | i, h, d, none :: _ => (some i, h, d)
  | i, h, d, some s :: r => if canDo h s = true then walkF (i + 1) (h ^^^ 1 <<< s.2) (hadB d s) r else (some i, h, d)
/-- a value as a step: a right one, or none -/
def StepAt (K : PySem.W.Frag) (H : Hp) (n : Nat) (x : V) : Option Step → Prop
  | some s => ∃ a, x = .ref a ∧ Seq K H a [.str s.1, nv s.2] ∧ s.1 ∈ whats ∧ s.2 < n
  | none => StepV K H n x false
def wv : Option Int → V
  | some i => .int i
  | none => .non
/-- a value as a row, and what the walk tells of it -/
inductive RowIs (K : PySem.W.Frag) (H : Hp) (n : Nat) : V → Option Int × Nat × Nat → Prop
  | noSeq {x : V} {t : Value} : TyX K H x t → PySem.W.kitAny K t [.type "list", .type "tuple"] = some false → RowIs K H n x (some (-1), 0, 0)
  | long {a : Addr} {xs : List V} : Seq K H a xs → 1000 < xs.length → RowIs K H n (.ref a) (some (-1), 0, 0)
  | row {a : Addr} {xs : List V} {os : List (Option Step)} : Seq K H a xs → xs.length ≤ 1000 → xs.length = os.length → (∀ (i : Nat) (x : V) (o : Option Step), xs[i]? = some x → os[i]? = some o → StepAt K H n x o) →
      RowIs K H n (.ref a) ((walkF 0 0 0 os).1.map Int.ofNat, (walkF 0 0 0 os).2)
theorem TyX.same {H H' : Hp} {x : V} {t : Value} (e : Same H H') (h : TyX K H x t) : TyX K H' x t := by
  cases h with
  | base h =>
    refine .base ?_
    cases h with
    | non => exact .non
    | bl x => exact .bl x
    | int i => exact .int i
    | str x => exact .str x
    | flt x => exact .flt x
    | lst h => exact .lst (e _ _ h)
    | frz h => exact .frz (e _ _ h)
    | tup h => exact .tup (e _ _ h)
    | dK h => exact .dK (e _ _ h)
    | dT h => exact .dT (e _ _ h)
    | ins h a b c d f => exact .ins (e _ _ h) a b c d f
  | byt b => exact .byt b
  | set h => exact .set (e _ _ h)
  | kList h c => exact .kList h c
  | kTuple h c => exact .kTuple h c
  | kDict h c => exact .kDict h c
  | fTuple h => exact .fTuple (e _ _ h)
  | fDict h => exact .fDict (e _ _ h)
theorem AsInt.same {H H' : Hp} {x : V} {o : Option Int} (e : Same H H') (h : AsInt K H x o) : AsInt K H' x o := by
  cases o with
  | some i => exact h
  | none =>
    obtain ⟨t, b1, b2, h1, h2⟩ := h
    exact ⟨t, b1, b2, TyX.same e h1, h2⟩
theorem StepV.same {H H' : Hp} {n : Nat} {x : V} {b : Bool} (e : Same H H') (h : StepV K H n x b) : StepV K H' n x b := by
  cases h with
  | good hs hz hk => exact .good (Same.sq e hs) hz hk
  | noSeq h1 h2 => exact .noSeq (TyX.same e h1) h2
  | size hs hl => exact .size (Same.sq e hs) hl
  | noText hs h1 h2 => exact .noText (Same.sq e hs) (TyX.same e h1) h2
  | noWhat hs hz => exact .noWhat (Same.sq e hs) hz
  | noKey hs hz ho hb => exact .noKey (Same.sq e hs) hz (AsInt.same e ho) hb
theorem StepAt.same {H H' : Hp} {n : Nat} {x : V} {o : Option Step} (e : Same H H') (h : StepAt K H n x o) : StepAt K H' n x o := by
  cases o with
  | none => exact StepV.same e h
  | some s =>
    obtain ⟨a, h1, h2, h3⟩ := h
    exact ⟨a, h1, Same.sq e h2, h3⟩
def sp_walk_row (K : PySem.W.Frag) : Sp := fun vs H Q _ => ∃ x n r, vs = [x, nv n] ∧ n ≤ 12 ∧ RowIs K H n x r ∧ ∀ H' p, Same H H' → H' p = some (.tup [wv r.1, nv r.2.1, nv r.2.2]) → Q (.ref p) H'
theorem ok_walk_row (T : Tx P K mg) : FnOk P w K mg base CX0 4 T.a_walk_row T.d_walk_row ["value", "many"] (sp_walk_row K) := by
  refine T.F_walk_row.ok sc_walk_row (fun vs H Q E h => ?_) (fun cdv A outer s H vs Q E hr h => ?_)
  · obtain ⟨x, n, r, rfl, _⟩ := h
    rfl
  · obtain ⟨x, n, r, rfl, h12, hr0, q⟩ := h
    refine ⟨_, (pss_cons (ps_if (PW.pt (pw_or (pt_not (pt_val (pe_call (ok_is_sequence T) (hr.mono (by decide)) (by rfl) T.g_is_sequence T.F_is_sequence.kp T.b_is_sequence .nil pass0 (pa_cons (pv 0) pa_nil)))) (pw_or1 (pt_cmpR op_gt (pe_callB (lenK (K := K) rfl) (by rfl) T.n_len PySem.boot_len (pa_cons (pv 0) pa_nil)) (pe_globI rfl T.g_MOST_STEPS) (nomark _))))) (pss_one (ps_ret (pe_tup (pa_cons (pe_un un_neg pe_int) (pa_cons pe_int (pa_cons pe_int pa_nil)))))) pss_nil)
      (pss_cons (ps_set (i := 2) sc_walk_row.nd rfl (Or.inl rfl) pe_int)
      (pss_cons (ps_set (i := 3) sc_walk_row.nd rfl (Or.inl rfl) pe_int)
      (pss_cons (ps_for PassesOwn.never rfl (penumK (K := K) rfl (by rfl) T.n_enumerate (pa_cons (pv 0) pa_nil)) (gtupK (K := K) (n := 2) rfl (by rfl) (pgs_cons (pg_name (i := 4) sc_walk_row.nd rfl (Or.inl rfl)) (pgs_cons (pg_name (i := 5) sc_walk_row.nd rfl (Or.inl rfl)) pgs_nil))) (pss_cons (ps_if (PW.pt (pw_or (pt_not (pt_val (pe_call (ok_is_step T) (hr.mono (by decide)) (by rfl) T.g_is_step T.F_is_step.kp T.b_is_step .nil pass0 (pa_cons (pv 5) (pa_cons (pv 1) pa_nil))))) (pw_or1 (pt_not (pt_val (pe_call (ok_can_do T) (hr.mono (by decide)) (by rfl) T.g_can_do T.F_can_do.kp T.b_can_do .nil pass0 (pa_cons (pv 2) (pa_cons (pe_ix (ixA (K := K) rfl) (pv 5) pe_int (fun _ _ => rfl)) (pa_cons (pe_ix (ixA (K := K) rfl) (pv 5) pe_int (fun _ _ => rfl)) pa_nil))))))))) (pss_one (ps_ret (pe_tup (pa_cons (pv 4) (pa_cons (pv 2) (pa_cons (pv 3) pa_nil)))))) pss_nil)
      (pss_cons (ps_set (i := 2) sc_walk_row.nd rfl (Or.inl rfl) (pe_call (ok_held_behind T) (hr.mono (by decide)) (by rfl) T.g_held_behind T.F_held_behind.kp T.b_held_behind .nil pass0 (pa_cons (pv 2) (pa_cons (pe_ix (ixA (K := K) rfl) (pv 5) pe_int (fun _ _ => rfl)) pa_nil))))
      (pss_one (ps_set (i := 3) sc_walk_row.nd rfl (Or.inl rfl) (pe_call (ok_had_behind T) (hr.mono (by decide)) (by rfl) T.g_had_behind T.F_had_behind.kp T.b_had_behind .nil pass0 (pa_cons (pv 3) (pa_cons (pe_ix (ixA (K := K) rfl) (pv 5) pe_int (fun _ _ => rfl)) (pa_cons (pe_ix (ixA (K := K) rfl) (pv 5) pe_int (fun _ _ => rfl)) pa_nil)))))))))
      (pss_one (ps_ret (pe_tup (pa_cons pe_non (pa_cons (pv 2) (pa_cons (pv 3) pa_nil)))))))))), ?_⟩
    rw [show L2.start ["value", "many", "held", "had", "at", "step"] [x, nv n] = [some (x), some (nv n), none, none, none, none] from rfl]
    generalize hF1 : tFor _ _ _ = F1
    (try simp only [tVar, tC, tOp, tUn, rI, rI0, rU, rEq, rNe, scal, tTest, tB, tAnd, tOr, tNot, tAndV, tOrV, tNotV, tIf, tChain, tNil, tCons, tCB, tCall, tTup, tLst, tRet, tRetN, tDrop, tSeq, tNext, tIfS, tAsg, gName, tPar, tPar3, gNil, gCons, gTup, gSub, tAug, tSl, tNoPart, tPart, tBM, tBM0, tYes, tIsP, iSeq, iEnumA, RZ.iZipA, iRng1, iRng2, iList, iTup, rIsi, rIsB, rIxL, rIxT, rIxA, rLenA, rListOf, rTupOf, rSetL, rSlL, rCat, rAppend, tFld, sFld, tMake, tBits, Int.ofNat_inj, cast1, cast0, TruV, cxOf, Cx.nox, Cx.wish, tNever, tBreak, tCont, ipI, tDIn, tDNotIn, sDPut, tDNewT, tDNewK, tDGet, rSortedPO, rSortedI, rIn, rEqD, rNeD, rInD, rNotInD, tSSet, rIsV, rIntI, rIntB, rAbsN, tLstRg, tRg1, tRg2, List.append_nil, List.nil_append, List.cons_append, Option.some.injEq, exists_eq_left', exists_eq_left, exists_eq_right, exists_eq_right', List.getElem?_cons_zero, List.getElem?_cons_succ, List.set_cons_zero, List.set_cons_succ, List.cons.injEq, and_true, true_and, exists_and_left, exists_and_right, and_assoc, V.int.injEq, V.bl.injEq, V.ref.injEq, V.str.injEq, reduceCtorEq, decide_true, decide_false, Bool.not_true, Bool.not_false, Bool.false_eq_true, if_false, if_true, ite_true, ite_false, List.length_cons, List.length_nil, tRaise, tErr, LamX.tLam, TTe])
    cases hr0 with
    | noSeq h1 h2 =>
      refine ⟨_, _, _, rfl, h1, h2, false, rfl, iteT ⟨by decide, fun p hp => ?_⟩⟩
      exact q _ p (same_new hp) upd_same
    | long hs hl =>
      refine is_seq hs ⟨true, rfl, iteF ⟨_, rfl, _, hs, ?_⟩⟩
      rw [decide_eq_true (by omega)]
      exact iteT ⟨by decide, fun p hp => q _ p (same_new hp) upd_same⟩
    | @row a xs os hs hl he ha =>
      refine is_seq hs ⟨true, rfl, iteF ⟨_, rfl, _, hs, ?_⟩⟩
      rw [decide_eq_false (by omega)]
      refine iteF ?_
      subst hF1
      refine forE a xs (fun i σ' H' => ∃ h d y4 y5, σ' = [some (.ref a), some (nv n), some (nv h), some (nv d), y4, y5] ∧ Same H H' ∧ walkF 0 0 0 os = walkF i h d (os.drop i)) (fun R h => ?_) ⟨0, 0, _, _, rfl, Same.refl _, rfl⟩ H hs (fun i σ' H' h => by obtain ⟨_, _, _, _, _, h, _⟩ := h; exact h) ?_ ?_
      · (try simp only [tVar, tC, tOp, tUn, rI, rI0, rU, rEq, rNe, scal, tTest, tB, tAnd, tOr, tNot, tAndV, tOrV, tNotV, tIf, tChain, tNil, tCons, tCB, tCall, tTup, tLst, tRet, tRetN, tDrop, tSeq, tNext, tIfS, tAsg, gName, tPar, tPar3, gNil, gCons, gTup, gSub, tAug, tSl, tNoPart, tPart, tBM, tBM0, tYes, tIsP, iSeq, iEnumA, RZ.iZipA, iRng1, iRng2, iList, iTup, rIsi, rIsB, rIxL, rIxT, rIxA, rLenA, rListOf, rTupOf, rSetL, rSlL, rCat, rAppend, tFld, sFld, tMake, tBits, Int.ofNat_inj, cast1, cast0, TruV, cxOf, Cx.nox, Cx.wish, tNever, tBreak, tCont, ipI, tDIn, tDNotIn, sDPut, tDNewT, tDNewK, tDGet, rSortedPO, rSortedI, rIn, rEqD, rNeD, rInD, rNotInD, tSSet, rIsV, rIntI, rIntB, rAbsN, tLstRg, tRg1, tRg2, List.append_nil, List.nil_append, List.cons_append, Option.some.injEq, exists_eq_left', exists_eq_left, exists_eq_right, exists_eq_right', List.getElem?_cons_zero, List.getElem?_cons_succ, List.set_cons_zero, List.set_cons_succ, List.cons.injEq, and_true, true_and, exists_and_left, exists_and_right, and_assoc, V.int.injEq, V.bl.injEq, V.ref.injEq, V.str.injEq, reduceCtorEq, decide_true, decide_false, Bool.not_true, Bool.not_false, Bool.false_eq_true, if_false, if_true, ite_true, ite_false, List.length_cons, List.length_nil, tRaise, tErr, LamX.tLam, TTe])
        exact h
      · rintro i x σ' H' t hx ⟨h, d, y4, y5, rfl, sm, e0⟩ ht
        have st := same_new (o := .tup [nv i, x]) ht
        have sm2 := sm.trans st
        have lt : i < os.length := by have := (List.getElem?_eq_some_iff.mp hx).1; omega
        have ho : os[i]? = some os[i] := List.getElem?_eq_getElem lt
        have hd := List.drop_eq_getElem_cons lt
        have hs2 := StepAt.same sm2 (ha i x _ hx ho)
        rw [hd] at e0
        (try simp only [tVar, tC, tOp, tUn, rI, rI0, rU, rEq, rNe, scal, tTest, tB, tAnd, tOr, tNot, tAndV, tOrV, tNotV, tIf, tChain, tNil, tCons, tCB, tCall, tTup, tLst, tRet, tRetN, tDrop, tSeq, tNext, tIfS, tAsg, gName, tPar, tPar3, gNil, gCons, gTup, gSub, tAug, tSl, tNoPart, tPart, tBM, tBM0, tYes, tIsP, iSeq, iEnumA, RZ.iZipA, iRng1, iRng2, iList, iTup, rIsi, rIsB, rIxL, rIxT, rIxA, rLenA, rListOf, rTupOf, rSetL, rSlL, rCat, rAppend, tFld, sFld, tMake, tBits, Int.ofNat_inj, cast1, cast0, TruV, cxOf, Cx.nox, Cx.wish, tNever, tBreak, tCont, ipI, tDIn, tDNotIn, sDPut, tDNewT, tDNewK, tDGet, rSortedPO, rSortedI, rIn, rEqD, rNeD, rInD, rNotInD, tSSet, rIsV, rIntI, rIntB, rAbsN, tLstRg, tRg1, tRg2, List.append_nil, List.nil_append, List.cons_append, Option.some.injEq, exists_eq_left', exists_eq_left, exists_eq_right, exists_eq_right', List.getElem?_cons_zero, List.getElem?_cons_succ, List.set_cons_zero, List.set_cons_succ, List.cons.injEq, and_true, true_and, exists_and_left, exists_and_right, and_assoc, V.int.injEq, V.bl.injEq, V.ref.injEq, V.str.injEq, reduceCtorEq, decide_true, decide_false, Bool.not_true, Bool.not_false, Bool.false_eq_true, if_false, if_true, ite_true, ite_false, List.length_cons, List.length_nil, tRaise, tErr, LamX.tLam, TTe])
        cases hoi : os[i] with
        | none =>
          rw [hoi] at hs2 e0
          refine ⟨_, _, _, rfl, hs2, ⟨false, rfl, iteT ⟨by decide, fun p hp => ?_⟩⟩⟩
          refine q _ p (sm2.trans (same_new hp)) ?_
          rw [e0]
          exact upd_same
        | some s =>
          rw [hoi] at hs2 e0
          obtain ⟨b, rfl, hb, hz, hk⟩ := hs2
          refine ⟨_, _, true, rfl, .good hb hz hk, ⟨true, rfl, iteF ?_⟩⟩
          refine ⟨_, rfl, _, hb, _, atI_nat (j := 0) rfl, _, rfl, _, hb, _, atI_nat (j := 1) rfl, h, s.1, s.2, rfl, ?_⟩
          refine ⟨_, rfl, ?_⟩
          have e1 : walkF i h d (some s :: os.drop (i + 1)) = if canDo h s = true then walkF (i + 1) (h ^^^ 1 <<< s.2) (hadB d s) (os.drop (i + 1)) else (some i, h, d) := rfl
          rw [e1] at e0
          cases hc : canDo h s with
          | false =>
            rw [show decide (h.testBit s.2 = (s.1 == Str.ofString "give")) = false from hc]
            rw [hc, if_neg Bool.false_ne_true] at e0
            refine iteT ⟨by decide, fun p hp => ?_⟩
            refine q _ p (sm2.trans (same_new hp)) ?_
            rw [e0]
            exact upd_same
          | true =>
            rw [show decide (h.testBit s.2 = (s.1 == Str.ofString "give")) = true from hc]
            rw [hc, if_pos rfl] at e0
            refine iteF ⟨_, rfl, _, hb, _, atI_nat (j := 1) rfl, h, s.2, rfl, by omega, ?_⟩
            refine ⟨_, rfl, _, hb, _, atI_nat (j := 0) rfl, _, rfl, _, hb, _, atI_nat (j := 1) rfl, d, s.1, s.2, rfl, by omega, ?_⟩
            exact ⟨_, rfl, _, rfl, sm2, e0⟩
      · rintro σ' H' ⟨h, d, y4, y5, rfl, sm, e0⟩
        (try simp only [tVar, tC, tOp, tUn, rI, rI0, rU, rEq, rNe, scal, tTest, tB, tAnd, tOr, tNot, tAndV, tOrV, tNotV, tIf, tChain, tNil, tCons, tCB, tCall, tTup, tLst, tRet, tRetN, tDrop, tSeq, tNext, tIfS, tAsg, gName, tPar, tPar3, gNil, gCons, gTup, gSub, tAug, tSl, tNoPart, tPart, tBM, tBM0, tYes, tIsP, iSeq, iEnumA, RZ.iZipA, iRng1, iRng2, iList, iTup, rIsi, rIsB, rIxL, rIxT, rIxA, rLenA, rListOf, rTupOf, rSetL, rSlL, rCat, rAppend, tFld, sFld, tMake, tBits, Int.ofNat_inj, cast1, cast0, TruV, cxOf, Cx.nox, Cx.wish, tNever, tBreak, tCont, ipI, tDIn, tDNotIn, sDPut, tDNewT, tDNewK, tDGet, rSortedPO, rSortedI, rIn, rEqD, rNeD, rInD, rNotInD, tSSet, rIsV, rIntI, rIntB, rAbsN, tLstRg, tRg1, tRg2, List.append_nil, List.nil_append, List.cons_append, Option.some.injEq, exists_eq_left', exists_eq_left, exists_eq_right, exists_eq_right', List.getElem?_cons_zero, List.getElem?_cons_succ, List.set_cons_zero, List.set_cons_succ, List.cons.injEq, and_true, true_and, exists_and_left, exists_and_right, and_assoc, V.int.injEq, V.bl.injEq, V.ref.injEq, V.str.injEq, reduceCtorEq, decide_true, decide_false, Bool.not_true, Bool.not_false, Bool.false_eq_true, if_false, if_true, ite_true, ite_false, List.length_cons, List.length_nil, tRaise, tErr, LamX.tLam, TTe])
        refine ⟨by decide, fun p hp => ?_⟩
        rw [he, List.drop_length] at e0
        refine q _ p (sm.trans (same_new hp)) ?_
        rw [e0]
        exact upd_same
/-! ### where rows end -/
def sp_need_keysX (C CE : Addr) (K : PySem.W.Frag) : Sp := fun vs H Q E => ∃ x, vs = [x] ∧ ((∃ k dx fs, x = .ref k ∧ H k = some (.ins C dx fs) ∧ Q .non H) ∨
  (∃ t, TyX K H x t ∧ PySem.W.kitOne K t (.ref C) = some false ∧ ∀ d, H d = none → E (.ref CE) (some d) (upd H d (.xd [(("at" : Str), .int (-1))]))))
theorem okx_need_keys (T : Tx P K mg) : FnOk P w K mg base (L2.CX P w) 3 T.a_need_keys T.d_need_keys ["value"] (sp_need_keysX T.c_Keys T.c_InvalidKeys K) := by
  refine T.F_need_keys.okX sc_need_keys (fun vs H Q E h => ?_) (fun cdv A outer s H vs Q E hr h => ?_)
  · obtain ⟨x, rfl, _⟩ := h
    rfl
  · obtain ⟨x, rfl, hx⟩ := h
    refine ⟨_, (pss_one (ps_if (pt_not (pt_val (pe_callB (isiK (K := K) rfl) (by rfl) T.n_isinstance (by decide +kernel) (pa_cons (pv 0) (pa_cons (pe_glob (v := .ref T.c_Keys) rfl T.g_Keys rfl) pa_nil))))) (pss_one (ps_raiseE (P := P) (K := K) rfl rfl rfl T.e_InvalidKeys hr T.g_InvalidKeys T.n_super (takes_of rfl rfl rfl rfl) (pa_cons (pe_un un_neg pe_int) pa_nil) (by rfl))) pss_nil)), ?_⟩
    rw [show L2.start ["value"] [x] = [some (x)] from rfl]
    (try simp only [tVar, tC, tOp, tUn, rI, rI0, rU, rEq, rNe, scal, tTest, tB, tAnd, tOr, tNot, tAndV, tOrV, tNotV, tIf, tChain, tNil, tCons, tCB, tCall, tTup, tLst, tRet, tRetN, tDrop, tSeq, tNext, tIfS, tAsg, gName, tPar, tPar3, gNil, gCons, gTup, gSub, tAug, tSl, tNoPart, tPart, tBM, tBM0, tYes, tIsP, iSeq, iEnumA, RZ.iZipA, iRng1, iRng2, iList, iTup, rIsi, rIsB, rIxL, rIxT, rIxA, rLenA, rListOf, rTupOf, rSetL, rSlL, rCat, rAppend, tFld, sFld, tMake, tBits, Int.ofNat_inj, cast1, cast0, TruV, cxOf, Cx.nox, Cx.wish, tNever, tBreak, tCont, ipI, tDIn, tDNotIn, sDPut, tDNewT, tDNewK, tDGet, rSortedPO, rSortedI, rIn, rEqD, rNeD, rInD, rNotInD, tSSet, rIsV, rIntI, rIntB, rAbsN, tLstRg, tRg1, tRg2, List.append_nil, List.nil_append, List.cons_append, Option.some.injEq, exists_eq_left', exists_eq_left, exists_eq_right, exists_eq_right', List.getElem?_cons_zero, List.getElem?_cons_succ, List.set_cons_zero, List.set_cons_succ, List.cons.injEq, and_true, true_and, exists_and_left, exists_and_right, and_assoc, V.int.injEq, V.bl.injEq, V.ref.injEq, V.str.injEq, reduceCtorEq, decide_true, decide_false, Bool.not_true, Bool.not_false, Bool.false_eq_true, if_false, if_true, ite_true, ite_false, List.length_cons, List.length_nil, tRaise, tErr, LamX.tLam, TTe])
    rcases hx with ⟨k, dx, fs, rfl, hk, q⟩ | ⟨t, ht, hf, q⟩
    · exact ⟨_, _, .own _, .base (.ins hk T.cl_Keys T.ic_Keys.ha T.ic_Keys.hn T.ic_Keys.htk T.ic_Keys.hm), true, T.ic_Keys.me, iteF q⟩
    · exact ⟨_, _, .own _, ht, false, hf, iteT q⟩
def sp_row_ends (C CK CR : Addr) (K : PySem.W.Frag) : Sp := fun vs H Q E => ∃ x y, vs = [x, y] ∧
  ((∃ t, TyX K H x t ∧ PySem.W.kitOne K t (.ref C) = some false ∧ ∀ d, H d = none → E (.ref CK) (some d) (upd H d (.xd [(("at" : Str), .int (-1))]))) ∨
   ∃ k n qs r, x = .ref k ∧ KeysAt C H k n qs ∧ n ≤ 12 ∧ RowIs K H n y r ∧ (r.2.1 < 2 ^ 62 ∧ r.2.2 < 2 ^ 62) ∧ (∀ i, r.1 = some i → ∀ H' d, Same H H' → H' d = none → E (.ref CR) (some d) (upd H' d (.xd [(("at" : Str), .int i)]))) ∧
     (r.1 = none → ∀ H' p a b, Same H H' → H' a = some (.tup (nvs (bits r.2.1))) → H' b = some (.tup (nvs (bits r.2.2))) → H' p = some (.tup [.ref a, .ref b]) → Q (.ref p) H'))
theorem okx_row_ends (T : Tx P K mg) : FnOk P w K mg base (L2.CX P w) 5 T.a_row_ends T.d_row_ends ["keys", "row"] (sp_row_ends T.c_Keys T.c_InvalidKeys T.c_InvalidRow K) := by
  refine T.F_row_ends.okX sc_row_ends (fun vs H Q E h => ?_) (fun cdv A outer s H vs Q E hr h => ?_)
  · obtain ⟨x, y, rfl, _⟩ := h
    rfl
  · obtain ⟨x, y, rfl, hx⟩ := h
    refine ⟨_, (pss_cons (ps_expr (pe_call (okx_need_keys T) (hr.mono (by decide)) (by rfl) T.g_need_keys T.F_need_keys.kp T.b_need_keys .nil (passes_call (takes_of rfl rfl rfl rfl) fun _ _ _ _ h => h) (pa_cons (pv 0) pa_nil)))
      (pss_cons (ps_asg (pe_call (ok_walk_row T) (hr.mono (by decide)) (by rfl) T.g_walk_row T.F_walk_row.kp T.b_walk_row .nil pass0 (pa_cons (pv 1) (pa_cons (fldK (K := K) rfl (pv 0) rfl) pa_nil))) (gtupK (K := K) (n := 3) rfl (by rfl) (pgs_cons (pg_name (i := 2) sc_row_ends.nd rfl (Or.inl rfl)) (pgs_cons (pg_name (i := 3) sc_row_ends.nd rfl (Or.inl rfl)) (pgs_cons (pg_name (i := 4) sc_row_ends.nd rfl (Or.inl rfl)) pgs_nil)))))
      (pss_cons (ps_if (pt_cmpR op_notN (pv 2) pe_non (nomark _)) (pss_one (ps_raiseE (P := P) (K := K) rfl rfl rfl T.e_InvalidRow hr T.g_InvalidRow T.n_super (takes_of rfl rfl rfl rfl) (pa_cons (pv 2) pa_nil) (by rfl))) pss_nil)
      (pss_one (ps_ret (pe_tup (pa_cons (pe_call (ok_lot_of T) (hr.mono (by decide)) (by rfl) T.g_lot_of T.F_lot_of.kp T.b_lot_of .nil pass0 (pa_cons (pv 3) pa_nil)) (pa_cons (pe_call (ok_lot_of T) (hr.mono (by decide)) (by rfl) T.g_lot_of T.F_lot_of.kp T.b_lot_of .nil pass0 (pa_cons (pv 4) pa_nil)) pa_nil)))))))), ?_⟩
    rw [show L2.start ["keys", "row", "wrong", "held", "had"] [x, y] = [some (x), some (y), none, none, none] from rfl]
    (try simp only [tVar, tC, tOp, tUn, rI, rI0, rU, rEq, rNe, scal, tTest, tB, tAnd, tOr, tNot, tAndV, tOrV, tNotV, tIf, tChain, tNil, tCons, tCB, tCall, tTup, tLst, tRet, tRetN, tDrop, tSeq, tNext, tIfS, tAsg, gName, tPar, tPar3, gNil, gCons, gTup, gSub, tAug, tSl, tNoPart, tPart, tBM, tBM0, tYes, tIsP, iSeq, iEnumA, RZ.iZipA, iRng1, iRng2, iList, iTup, rIsi, rIsB, rIxL, rIxT, rIxA, rLenA, rListOf, rTupOf, rSetL, rSlL, rCat, rAppend, tFld, sFld, tMake, tBits, Int.ofNat_inj, cast1, cast0, TruV, cxOf, Cx.nox, Cx.wish, tNever, tBreak, tCont, ipI, tDIn, tDNotIn, sDPut, tDNewT, tDNewK, tDGet, rSortedPO, rSortedI, rIn, rEqD, rNeD, rInD, rNotInD, tSSet, rIsV, rIntI, rIntB, rAbsN, tLstRg, tRg1, tRg2, List.append_nil, List.nil_append, List.cons_append, Option.some.injEq, exists_eq_left', exists_eq_left, exists_eq_right, exists_eq_right', List.getElem?_cons_zero, List.getElem?_cons_succ, List.set_cons_zero, List.set_cons_succ, List.cons.injEq, and_true, true_and, exists_and_left, exists_and_right, and_assoc, V.int.injEq, V.bl.injEq, V.ref.injEq, V.str.injEq, reduceCtorEq, decide_true, decide_false, Bool.not_true, Bool.not_false, Bool.false_eq_true, if_false, if_true, ite_true, ite_false, List.length_cons, List.length_nil, tRaise, tErr, LamX.tLam, TTe])
    rcases hx with ⟨t, ht, hf, q⟩ | ⟨k, n, qs, r, rfl, hk, h12, hr2, hb, q1, q2⟩
    · exact ⟨x, rfl, .inr ⟨t, ht, hf, q⟩⟩
    · obtain ⟨dx, t, ys, ek, et, hp⟩ := id hk
      refine ⟨_, rfl, .inl ⟨k, dx, _, rfl, ek, ?_⟩⟩
      (try simp only [tVar, tC, tOp, tUn, rI, rI0, rU, rEq, rNe, scal, tTest, tB, tAnd, tOr, tNot, tAndV, tOrV, tNotV, tIf, tChain, tNil, tCons, tCB, tCall, tTup, tLst, tRet, tRetN, tDrop, tSeq, tNext, tIfS, tAsg, gName, tPar, tPar3, gNil, gCons, gTup, gSub, tAug, tSl, tNoPart, tPart, tBM, tBM0, tYes, tIsP, iSeq, iEnumA, RZ.iZipA, iRng1, iRng2, iList, iTup, rIsi, rIsB, rIxL, rIxT, rIxA, rLenA, rListOf, rTupOf, rSetL, rSlL, rCat, rAppend, tFld, sFld, tMake, tBits, Int.ofNat_inj, cast1, cast0, TruV, cxOf, Cx.nox, Cx.wish, tNever, tBreak, tCont, ipI, tDIn, tDNotIn, sDPut, tDNewT, tDNewK, tDGet, rSortedPO, rSortedI, rIn, rEqD, rNeD, rInD, rNotInD, tSSet, rIsV, rIntI, rIntB, rAbsN, tLstRg, tRg1, tRg2, List.append_nil, List.nil_append, List.cons_append, Option.some.injEq, exists_eq_left', exists_eq_left, exists_eq_right, exists_eq_right', List.getElem?_cons_zero, List.getElem?_cons_succ, List.set_cons_zero, List.set_cons_succ, List.cons.injEq, and_true, true_and, exists_and_left, exists_and_right, and_assoc, V.int.injEq, V.bl.injEq, V.ref.injEq, V.str.injEq, reduceCtorEq, decide_true, decide_false, Bool.not_true, Bool.not_false, Bool.false_eq_true, if_false, if_true, ite_true, ite_false, List.length_cons, List.length_nil, tRaise, tErr, LamX.tLam, TTe])
      refine ⟨_, _, _, ek, T.cl_Keys, T.na_many, _, rfl, ?_⟩
      (try simp only [tVar, tC, tOp, tUn, rI, rI0, rU, rEq, rNe, scal, tTest, tB, tAnd, tOr, tNot, tAndV, tOrV, tNotV, tIf, tChain, tNil, tCons, tCB, tCall, tTup, tLst, tRet, tRetN, tDrop, tSeq, tNext, tIfS, tAsg, gName, tPar, tPar3, gNil, gCons, gTup, gSub, tAug, tSl, tNoPart, tPart, tBM, tBM0, tYes, tIsP, iSeq, iEnumA, RZ.iZipA, iRng1, iRng2, iList, iTup, rIsi, rIsB, rIxL, rIxT, rIxA, rLenA, rListOf, rTupOf, rSetL, rSlL, rCat, rAppend, tFld, sFld, tMake, tBits, Int.ofNat_inj, cast1, cast0, TruV, cxOf, Cx.nox, Cx.wish, tNever, tBreak, tCont, ipI, tDIn, tDNotIn, sDPut, tDNewT, tDNewK, tDGet, rSortedPO, rSortedI, rIn, rEqD, rNeD, rInD, rNotInD, tSSet, rIsV, rIntI, rIntB, rAbsN, tLstRg, tRg1, tRg2, List.append_nil, List.nil_append, List.cons_append, Option.some.injEq, exists_eq_left', exists_eq_left, exists_eq_right, exists_eq_right', List.getElem?_cons_zero, List.getElem?_cons_succ, List.set_cons_zero, List.set_cons_succ, List.cons.injEq, and_true, true_and, exists_and_left, exists_and_right, and_assoc, V.int.injEq, V.bl.injEq, V.ref.injEq, V.str.injEq, reduceCtorEq, decide_true, decide_false, Bool.not_true, Bool.not_false, Bool.false_eq_true, if_false, if_true, ite_true, ite_false, List.length_cons, List.length_nil, tRaise, tErr, LamX.tLam, TTe])
      refine ⟨y, n, r, rfl, h12, hr2, fun H1 p s1 ep => ?_⟩
      (try simp only [tVar, tC, tOp, tUn, rI, rI0, rU, rEq, rNe, scal, tTest, tB, tAnd, tOr, tNot, tAndV, tOrV, tNotV, tIf, tChain, tNil, tCons, tCB, tCall, tTup, tLst, tRet, tRetN, tDrop, tSeq, tNext, tIfS, tAsg, gName, tPar, tPar3, gNil, gCons, gTup, gSub, tAug, tSl, tNoPart, tPart, tBM, tBM0, tYes, tIsP, iSeq, iEnumA, RZ.iZipA, iRng1, iRng2, iList, iTup, rIsi, rIsB, rIxL, rIxT, rIxA, rLenA, rListOf, rTupOf, rSetL, rSlL, rCat, rAppend, tFld, sFld, tMake, tBits, Int.ofNat_inj, cast1, cast0, TruV, cxOf, Cx.nox, Cx.wish, tNever, tBreak, tCont, ipI, tDIn, tDNotIn, sDPut, tDNewT, tDNewK, tDGet, rSortedPO, rSortedI, rIn, rEqD, rNeD, rInD, rNotInD, tSSet, rIsV, rIntI, rIntB, rAbsN, tLstRg, tRg1, tRg2, List.append_nil, List.nil_append, List.cons_append, Option.some.injEq, exists_eq_left', exists_eq_left, exists_eq_right, exists_eq_right', List.getElem?_cons_zero, List.getElem?_cons_succ, List.set_cons_zero, List.set_cons_succ, List.cons.injEq, and_true, true_and, exists_and_left, exists_and_right, and_assoc, V.int.injEq, V.bl.injEq, V.ref.injEq, V.str.injEq, reduceCtorEq, decide_true, decide_false, Bool.not_true, Bool.not_false, Bool.false_eq_true, if_false, if_true, ite_true, ite_false, List.length_cons, List.length_nil, tRaise, tErr, LamX.tLam, TTe])
      refine ⟨_, .inl (.inl ep), rfl, _, _, rfl, _, _, rfl, _, _, rfl, rfl, ?_⟩
      obtain ⟨o, h, d⟩ := r
      cases o with
      | some i =>
        rw [if_pos (by show (!decide (V.int i = V.non)) = true; rfl)]
        exact fun dd hd => q1 i rfl _ dd s1 hd
      | none =>
        rw [if_neg (by show ¬ (!decide (V.non = V.non)) = true; simp)]
        refine ⟨h, rfl, hb.1, fun H2 a s2 _ ea => ?_⟩
        refine ⟨d, rfl, hb.2, fun H3 b s3 _ eb => ⟨by decide, fun z hz => ?_⟩⟩
        have sz := same_new (o := .tup [.ref a, .ref b]) hz
        exact q2 rfl _ z a b (((s1.trans s2).trans s3).trans sz) (sz _ _ (s3 _ _ ea)) (sz _ _ eb) upd_same
end
end Kr
namespace Kr
open PySem PySem.Spec PyProof.Rows L2 Kb
section
variable {P : Program} {w : World} {K : PySem.W.Frag} {mg : Str → Option Value} {base : Heap}
def sp_law_pick (K : PySem.W.Frag) : Sp := fun vs H Q _ => ∃ b a, ∃ xs : List V, vs = [.ref b, .ref a] ∧ Seq K (hbx b H) a xs ∧ (1 ≤ xs.length ∧ xs.length < 1000000) ∧ Bx b H ∧ ∀ H' (k : Nat) x, Same (hbx b H) (hbx b H') → Bx b H' → xs[k]? = some x → Q x H'
theorem ok__law_pick (T : Tx P K mg) : FnOk P w K mg base CX0 2 T.a__law_pick T.d__law_pick ["box", "some"] (sp_law_pick K) := by
  refine T.F__law_pick.ok sc__law_pick (fun vs H Q E h => ?_) (fun cdv A outer s H vs Q E hr h => ?_)
  · obtain ⟨b, a, xs, rfl, _⟩ := h
    rfl
  · obtain ⟨b, a, xs, rfl, hs, hl, hb, q⟩ := h
    refine ⟨_, (pss_one (ps_ret (pe_ix (ixA (K := K) rfl) (pv 1) (pe_call (ok__law_take T) (hr.mono (by decide)) (by rfl) T.g__law_take T.F__law_take.kp T.b__law_take .nil pass0 (pa_cons (pv 0) (pa_cons (pe_callB (lenK (K := K) rfl) (by rfl) T.n_len PySem.boot_len (pa_cons (pv 1) pa_nil)) pa_nil))) (fun _ _ => rfl)))), ?_⟩
    rw [show L2.start ["box", "some"] [.ref b, .ref a] = [some (.ref b), some (.ref a)] from rfl]
    (try simp only [tVar, tC, tOp, tUn, rI, rI0, rU, rEq, rNe, scal, tTest, tB, tAnd, tOr, tNot, tAndV, tOrV, tNotV, tIf, tChain, tNil, tCons, tCB, tCall, tTup, tLst, tRet, tRetN, tDrop, tSeq, tNext, tIfS, tAsg, gName, tPar, tPar3, gNil, gCons, gTup, gSub, tAug, tSl, tNoPart, tPart, tBM, tBM0, tYes, tIsP, iSeq, iEnumA, RZ.iZipA, iRng1, iRng2, iList, iTup, rIsi, rIsB, rIxL, rIxT, rIxA, rLenA, rListOf, rTupOf, rSetL, rSlL, rCat, rAppend, tFld, sFld, tMake, tBits, Int.ofNat_inj, cast1, cast0, TruV, cxOf, Cx.nox, Cx.wish, tNever, tBreak, tCont, ipI, tDIn, tDNotIn, sDPut, tDNewT, tDNewK, tDGet, rSortedPO, rSortedI, rIn, rEqD, rNeD, rInD, rNotInD, tSSet, rIsV, rIntI, rIntB, rAbsN, tLstRg, tRg1, tRg2, List.append_nil, List.nil_append, List.cons_append, Option.some.injEq, exists_eq_left', exists_eq_left, exists_eq_right, exists_eq_right', List.getElem?_cons_zero, List.getElem?_cons_succ, List.set_cons_zero, List.set_cons_succ, List.cons.injEq, and_true, true_and, exists_and_left, exists_and_right, and_assoc, V.int.injEq, V.bl.injEq, V.ref.injEq, V.str.injEq, reduceCtorEq, decide_true, decide_false, Bool.not_true, Bool.not_false, Bool.false_eq_true, if_false, if_true, ite_true, ite_false, List.length_cons, List.length_nil, tRaise, tErr, LamX.tLam, TTe])
    refine ⟨xs, Same.sq (hbx_le b H) hs, b, xs.length, rfl, ⟨by omega, by omega⟩, hb, fun H1 k s1 hb1 hk => ?_⟩
    (try simp only [tVar, tC, tOp, tUn, rI, rI0, rU, rEq, rNe, scal, tTest, tB, tAnd, tOr, tNot, tAndV, tOrV, tNotV, tIf, tChain, tNil, tCons, tCB, tCall, tTup, tLst, tRet, tRetN, tDrop, tSeq, tNext, tIfS, tAsg, gName, tPar, tPar3, gNil, gCons, gTup, gSub, tAug, tSl, tNoPart, tPart, tBM, tBM0, tYes, tIsP, iSeq, iEnumA, RZ.iZipA, iRng1, iRng2, iList, iTup, rIsi, rIsB, rIxL, rIxT, rIxA, rLenA, rListOf, rTupOf, rSetL, rSlL, rCat, rAppend, tFld, sFld, tMake, tBits, Int.ofNat_inj, cast1, cast0, TruV, cxOf, Cx.nox, Cx.wish, tNever, tBreak, tCont, ipI, tDIn, tDNotIn, sDPut, tDNewT, tDNewK, tDGet, rSortedPO, rSortedI, rIn, rEqD, rNeD, rInD, rNotInD, tSSet, rIsV, rIntI, rIntB, rAbsN, tLstRg, tRg1, tRg2, List.append_nil, List.nil_append, List.cons_append, Option.some.injEq, exists_eq_left', exists_eq_left, exists_eq_right, exists_eq_right', List.getElem?_cons_zero, List.getElem?_cons_succ, List.set_cons_zero, List.set_cons_succ, List.cons.injEq, and_true, true_and, exists_and_left, exists_and_right, and_assoc, V.int.injEq, V.bl.injEq, V.ref.injEq, V.str.injEq, reduceCtorEq, decide_true, decide_false, Bool.not_true, Bool.not_false, Bool.false_eq_true, if_false, if_true, ite_true, ite_false, List.length_cons, List.length_nil, tRaise, tErr, LamX.tLam, TTe])
    have hx : xs[k]? = some xs[k] := List.getElem?_eq_getElem hk
    exact ⟨xs, Same.sq (s1.trans (hbx_le b H1)) hs, _, atI_nat hx, q H1 k _ s1 hb1 hx⟩
theorem gives__law_error (T : Tx P K mg) {X : Cx} (hP : X.prog = P) (hK : X.K = K) (hm : X.mg = mg) (q : Str) (cdg : Value) :
    LamX.GivesTo X ["call", "e"] "_law_error" (defScope s__law_error) T.a__law_error cdg (defBody s__law_error) "call" q (TTe K [(T.c_InvalidKeys, Str.ofString "keys"), (T.c_InvalidRow, Str.ofString "row")]) := by
  subst hP hK hm
  exact err_gives sc__law_error.nd rfl fun s H => .cons ⟨rfl, rfl, .inl T.g_InvalidKeys⟩ (fun a oe cls d pn hz hf => pss_one (ps_ret (pe_tup (pa_cons pe_str (pa_cons (pe_xf T.x_InvalidKeys.xf T.x_InvalidKeys.no hz hf (pv 1)) pa_nil)))))
    (.cons ⟨rfl, rfl, .inl T.g_InvalidRow⟩ (fun a oe cls d pn hz hf => pss_one (ps_ret (pe_tup (pa_cons pe_str (pa_cons (pe_xf T.x_InvalidRow.xf T.x_InvalidRow.no hz hf (pv 1)) pa_nil))))) .nil)
end
end Kr
namespace Kr
open PySem PySem.Spec PyProof.Rows L2 Kb
section
variable {P : Program} {w : World} {K : PySem.W.Frag} {mg : Str → Option Value} {base : Heap}
/-! ### lists of lists -/
inductive Sc : V → Value → Prop
  | non : Sc .non (.type "NoneType")
  | bl (b : Bool) : Sc (.bl b) (.type "bool")
  | int (i : Int) : Sc (.int i) (.type "int")
  | str (t : Str) : Sc (.str t) (.type "str")
theorem Sc.ty {H : Hp} {x : V} {t : Value} (h : Sc x t) : TyX K H x t := by
  cases h with
  | non => exact .base .non
  | bl b => exact .base (.bl b)
  | int i => exact .base (.int i)
  | str s => exact .base (.str s)
theorem Sc.no {x : V} {t : Value} (h : Sc x t) : PySem.W.kitOne K t (.type "list") = some false ∧ PySem.W.kitOne K t (.type "tuple") = some false := by
  cases h <;> exact ⟨kit_ty (by decide +kernel), kit_ty (by decide +kernel)⟩
/-- a list or a tuple that is tracked -/
def Tq (H : Hp) (a : Addr) (xs : List V) : Prop := H a = some (.lst xs) ∨ H a = some (.tup xs)
theorem Tq.sq {H : Hp} {a : Addr} {xs : List V} (h : Tq H a xs) : Seq K H a xs := h.elim (fun h => .inl (.inl (.inl h))) fun h => .inr (.inl (.inl h))
theorem Tq.same {H H' : Hp} {a : Addr} {xs : List V} (e : Same H H') (h : Tq H a xs) : Tq H' a xs := h.elim (fun h => .inl (e _ _ h)) fun h => .inr (e _ _ h)
/-- data of less depth than n -/
inductive LV (K : PySem.W.Frag) (H : Hp) : Nat → V → Prop
  | sc {n : Nat} {x : V} {t : Value} : Sc x t → LV K H (n + 1) x
  | seq {n : Nat} {a : Addr} {xs : List V} : Tq H a xs → xs.length ≤ 1000 → (∀ x ∈ xs, LV K H n x) → LV K H (n + 1) (.ref a)
/-- y is x, its tuples made lists, the lists none of F -/
inductive LC (K : PySem.W.Frag) (H : Hp) (F : Addr → Prop) (H' : Hp) : Nat → V → V → Prop
  | sc {n : Nat} {x : V} {t : Value} : Sc x t → LC K H F H' (n + 1) x x
  | seq {n : Nat} {a b : Addr} {xs ys : List V} : Tq H a xs → ¬ F b → H' b = some (.lst ys) → xs.length = ys.length → (∀ (i : Nat) (x y : V), xs[i]? = some x → ys[i]? = some y → LC K H F H' n x y) → LC K H F H' (n + 1) (.ref a) (.ref b)
theorem LV.same {H H' : Hp} {n : Nat} {x : V} (e : Same H H') (h : LV K H n x) : LV K H' n x := by
  induction h with
  | sc h => exact .sc h
  | seq hs hl _ ih => exact .seq (hs.same e) hl ih
theorem LC.same {H H' H2 : Hp} {F : Addr → Prop} {n : Nat} {x y : V} (e : Same H' H2) (h : LC K H F H' n x y) : LC K H F H2 n x y := by
  induction h with
  | sc h => exact .sc h
  | seq hs hf hb hl _ ih => exact .seq hs hf (e _ _ hb) hl ih
theorem LC.weak {H H' : Hp} {F F' : Addr → Prop} {n : Nat} {x y : V} (e : ∀ b, F b → F' b) (h : LC K H F' H' n x y) : LC K H F H' n x y := by
  induction h with
  | sc h => exact .sc h
  | seq hs hf hb hl _ ih => exact .seq hs (fun z => hf (e _ z)) hb hl ih
theorem LC.upd {H H' : Hp} {F : Addr → Prop} {n : Nat} {x y : V} {l : Addr} {o : HO} (e : F l) (h : LC K H F H' n x y) : LC K H F (L2.upd H' l o) n x y := by
  induction h with
  | sc h => exact .sc h
  | seq hs hf hb hl _ ih => exact .seq hs hf (by rw [upd_ne (fun z => hf (by rw [z]; exact e))]; exact hb) hl ih
def sp_law_lists (K : PySem.W.Frag) (n : Nat) : Sp := fun vs H Q _ => ∃ x G, vs = [x] ∧ Same G H ∧ LV K G n x ∧ ∀ H' y, Same H H' → LC K G (fun b => H b ≠ none) H' n x y → Q y H'
theorem mono_lists {n : Nat} : Mono (sp_law_lists K n) := by
  rintro vs H Q Q' E m ⟨x, G, h1, h0, h2, q⟩
  exact ⟨x, G, h1, h0, h2, fun H' y a b => m _ _ (q H' y a b)⟩
theorem ok_law_lists_n (T : Tx P K mg) : ∀ n, FnOk P w K mg base CX0 (n + 1) T.a__law_lists T.d__law_lists ["value"] (sp_law_lists K n) := by
  intro n
  induction n with
  | zero =>
    refine T.F__law_lists.ok sc__law_lists (fun vs H Q E h => ?_) (fun cdv A outer s H vs Q E hr h => ?_)
    all_goals
      obtain ⟨x, G, _, _, h, _⟩ := h
      cases h
  | succ n ih =>
    refine T.F__law_lists.ok sc__law_lists (fun vs H Q E h => by obtain ⟨x, G, rfl, _⟩ := h; rfl) (fun cdv A outer s H vs Q E hr h => ?_)
    obtain ⟨x, G, rfl, sg, hv, q⟩ := h
    refine ⟨_, (pss_cons (ps_if (PW.pt (pw_or (pt_val (pe_callB (isiK (K := K) rfl) (by rfl) T.n_isinstance (by decide +kernel) (pa_cons (pv 0) (pa_cons (pe_bltn (v := .ty "list") (by rfl) T.n_list (by decide +kernel) rfl) pa_nil)))) (pw_or1 (pt_val (pe_callB (isiK (K := K) rfl) (by rfl) T.n_isinstance (by decide +kernel) (pa_cons (pv 0) (pa_cons (pe_bltn (v := .ty "tuple") (by rfl) T.n_tuple (by decide +kernel) rfl) pa_nil))))))) (pss_one (ps_ret (pe_lc (own := [("part", 1)]) (by rfl) sc__law_lists.nd (pseqK (K := K) rfl (pv 0)) (blkOk_by (own := [("part", 1)]) (N := ["value", "part"]) (sc := defScope s__law_lists) (by decide +kernel)) (fun _ _ _ _ _ => (pg_name (i := 1) sc__law_lists.nd rfl (by first | exact Or.inl rfl | exact Or.inr rfl))) (fun _ _ _ _ _ => pts_nil) (fun _ _ _ _ _ => (pe_call ih (hr.mono (by omega)) (by rfl) T.g__law_lists T.F__law_lists.kp T.b__law_lists .nil pass0 (pa_cons (pv 1) pa_nil)))))) pss_nil)
      (pss_one (ps_ret (pv 0)))), ?_⟩
    rw [show L2.start ["value", "part"] [x] = [some (x), none] from rfl]
    generalize hL1 : tLc _ _ _ _ _ = L1
    (try simp only [tVar, tC, tOp, tUn, rI, rI0, rU, rEq, rNe, scal, tTest, tB, tAnd, tOr, tNot, tAndV, tOrV, tNotV, tIf, tChain, tNil, tCons, tCB, tCall, tTup, tLst, tRet, tRetN, tDrop, tSeq, tNext, tIfS, tAsg, gName, tPar, tPar3, gNil, gCons, gTup, gSub, tAug, tSl, tNoPart, tPart, tBM, tBM0, tYes, tIsP, iSeq, iEnumA, RZ.iZipA, iRng1, iRng2, iList, iTup, rIsi, rIsB, rIxL, rIxT, rIxA, rLenA, rListOf, rTupOf, rSetL, rSlL, rCat, rAppend, tFld, sFld, tMake, tBits, Int.ofNat_inj, cast1, cast0, TruV, cxOf, Cx.nox, Cx.wish, tNever, tBreak, tCont, ipI, tDIn, tDNotIn, sDPut, tDNewT, tDNewK, tDGet, rSortedPO, rSortedI, rIn, rEqD, rNeD, rInD, rNotInD, tSSet, rIsV, rIntI, rIntB, rAbsN, tLstRg, tRg1, tRg2, List.append_nil, List.nil_append, List.cons_append, Option.some.injEq, exists_eq_left', exists_eq_left, exists_eq_right, exists_eq_right', List.getElem?_cons_zero, List.getElem?_cons_succ, List.set_cons_zero, List.set_cons_succ, List.cons.injEq, and_true, true_and, exists_and_left, exists_and_right, and_assoc, V.int.injEq, V.bl.injEq, V.ref.injEq, V.str.injEq, reduceCtorEq, decide_true, decide_false, Bool.not_true, Bool.not_false, Bool.false_eq_true, if_false, if_true, ite_true, ite_false, List.length_cons, List.length_nil, tRaise, tErr, LamX.tLam, TTe])
    cases hv with
    | sc h =>
      obtain ⟨n1, n2⟩ := h.no (K := K)
      exact ⟨_, _, .ty "list", h.ty, false, n1, iteF ⟨_, _, .ty "tuple", h.ty, false, n2, iteF (q _ _ (Same.refl _) (.sc h))⟩⟩
    | @seq _ a xs hs hl hx =>
      have main : L1 [some (.ref a), none] H Q := by
        subst hL1
        refine lcSG a xs (fun L i H' acc => Same H H' ∧ acc.length = i ∧ ∀ (k : Nat) (x y : V), xs[k]? = some x → acc[k]? = some y → LC K G (fun b => H b ≠ none ∨ b = L) H' n x y) (fun R h => ?_) (Same.sq sg hs.sq) (by omega) (fun L hL => ⟨same_new hL, rfl, fun k x y _ e => by simp at e⟩)
          (fun L i H' acc _ p => p.1) ?_ (fun σ H Q1 Q2 m h => m _ _ h) (fun σ H Q1 Q2 m h => ?_) ?_
        · (try simp only [tVar, tC, tOp, tUn, rI, rI0, rU, rEq, rNe, scal, tTest, tB, tAnd, tOr, tNot, tAndV, tOrV, tNotV, tIf, tChain, tNil, tCons, tCB, tCall, tTup, tLst, tRet, tRetN, tDrop, tSeq, tNext, tIfS, tAsg, gName, tPar, tPar3, gNil, gCons, gTup, gSub, tAug, tSl, tNoPart, tPart, tBM, tBM0, tYes, tIsP, iSeq, iEnumA, RZ.iZipA, iRng1, iRng2, iList, iTup, rIsi, rIsB, rIxL, rIxT, rIxA, rLenA, rListOf, rTupOf, rSetL, rSlL, rCat, rAppend, tFld, sFld, tMake, tBits, Int.ofNat_inj, cast1, cast0, TruV, cxOf, Cx.nox, Cx.wish, tNever, tBreak, tCont, ipI, tDIn, tDNotIn, sDPut, tDNewT, tDNewK, tDGet, rSortedPO, rSortedI, rIn, rEqD, rNeD, rInD, rNotInD, tSSet, rIsV, rIntI, rIntB, rAbsN, tLstRg, tRg1, tRg2, List.append_nil, List.nil_append, List.cons_append, Option.some.injEq, exists_eq_left', exists_eq_left, exists_eq_right, exists_eq_right', List.getElem?_cons_zero, List.getElem?_cons_succ, List.set_cons_zero, List.set_cons_succ, List.cons.injEq, and_true, true_and, exists_and_left, exists_and_right, and_assoc, V.int.injEq, V.bl.injEq, V.ref.injEq, V.str.injEq, reduceCtorEq, decide_true, decide_false, Bool.not_true, Bool.not_false, Bool.false_eq_true, if_false, if_true, ite_true, ite_false, List.length_cons, List.length_nil, tRaise, tErr, LamX.tLam, TTe])
          exact h
        · rintro L i x H' acc hL hi eL ⟨sm, ln, hc⟩
          (try simp only [tVar, tC, tOp, tUn, rI, rI0, rU, rEq, rNe, scal, tTest, tB, tAnd, tOr, tNot, tAndV, tOrV, tNotV, tIf, tChain, tNil, tCons, tCB, tCall, tTup, tLst, tRet, tRetN, tDrop, tSeq, tNext, tIfS, tAsg, gName, tPar, tPar3, gNil, gCons, gTup, gSub, tAug, tSl, tNoPart, tPart, tBM, tBM0, tYes, tIsP, iSeq, iEnumA, RZ.iZipA, iRng1, iRng2, iList, iTup, rIsi, rIsB, rIxL, rIxT, rIxA, rLenA, rListOf, rTupOf, rSetL, rSlL, rCat, rAppend, tFld, sFld, tMake, tBits, Int.ofNat_inj, cast1, cast0, TruV, cxOf, Cx.nox, Cx.wish, tNever, tBreak, tCont, ipI, tDIn, tDNotIn, sDPut, tDNewT, tDNewK, tDGet, rSortedPO, rSortedI, rIn, rEqD, rNeD, rInD, rNotInD, tSSet, rIsV, rIntI, rIntB, rAbsN, tLstRg, tRg1, tRg2, List.append_nil, List.nil_append, List.cons_append, Option.some.injEq, exists_eq_left', exists_eq_left, exists_eq_right, exists_eq_right', List.getElem?_cons_zero, List.getElem?_cons_succ, List.set_cons_zero, List.set_cons_succ, List.cons.injEq, and_true, true_and, exists_and_left, exists_and_right, and_assoc, V.int.injEq, V.bl.injEq, V.ref.injEq, V.str.injEq, reduceCtorEq, decide_true, decide_false, Bool.not_true, Bool.not_false, Bool.false_eq_true, if_false, if_true, ite_true, ite_false, List.length_cons, List.length_nil, tRaise, tErr, LamX.tLam, TTe])
          refine ⟨x, G, rfl, sg.trans sm, hx x (List.mem_of_getElem? hi), fun H4 y s4 hy => ⟨s4 _ _ eL, ?_⟩⟩
          have nl : ∀ b, (H b ≠ none ∨ b = L) → H' b ≠ none := fun b hb z => by
            rcases hb with hb | hb
            · cases ho : H b with
              | none => exact hb ho
              | some o => rw [sm _ _ ho] at z; cases z
            · rw [hb, eL] at z
              cases z
          refine ⟨fun b o hb => ?_, by rw [List.length_append, ln]; rfl, fun k x2 y2 hx2 hy2 => ?_⟩
          · rw [upd_ne (ne_of_none hb hL)]
            exact s4 _ _ (sm _ _ hb)
          · refine LC.upd (.inr rfl) ?_
            by_cases hk : k < acc.length
            · rw [List.getElem?_append_left hk] at hy2
              exact (hc k x2 y2 hx2 hy2).same s4
            · have lt : k < (acc ++ [y]).length := (List.getElem?_eq_some_iff.mp hy2).1
              rw [List.length_append, List.length_singleton] at lt
              have ek : k = acc.length := by omega
              subst ek
              rw [List.getElem?_append_right (Nat.le_refl _), Nat.sub_self] at hy2
              have e1 : y = y2 := Option.some.inj hy2
              rw [ln, hi] at hx2
              have e2 : x = x2 := Option.some.inj hx2
              rw [← e1, ← e2]
              exact hy.weak nl
        · revert h
          (try simp only [tVar, tC, tOp, tUn, rI, rI0, rU, rEq, rNe, scal, tTest, tB, tAnd, tOr, tNot, tAndV, tOrV, tNotV, tIf, tChain, tNil, tCons, tCB, tCall, tTup, tLst, tRet, tRetN, tDrop, tSeq, tNext, tIfS, tAsg, gName, tPar, tPar3, gNil, gCons, gTup, gSub, tAug, tSl, tNoPart, tPart, tBM, tBM0, tYes, tIsP, iSeq, iEnumA, RZ.iZipA, iRng1, iRng2, iList, iTup, rIsi, rIsB, rIxL, rIxT, rIxA, rLenA, rListOf, rTupOf, rSetL, rSlL, rCat, rAppend, tFld, sFld, tMake, tBits, Int.ofNat_inj, cast1, cast0, TruV, cxOf, Cx.nox, Cx.wish, tNever, tBreak, tCont, ipI, tDIn, tDNotIn, sDPut, tDNewT, tDNewK, tDGet, rSortedPO, rSortedI, rIn, rEqD, rNeD, rInD, rNotInD, tSSet, rIsV, rIntI, rIntB, rAbsN, tLstRg, tRg1, tRg2, List.append_nil, List.nil_append, List.cons_append, Option.some.injEq, exists_eq_left', exists_eq_left, exists_eq_right, exists_eq_right', List.getElem?_cons_zero, List.getElem?_cons_succ, List.set_cons_zero, List.set_cons_succ, List.cons.injEq, and_true, true_and, exists_and_left, exists_and_right, and_assoc, V.int.injEq, V.bl.injEq, V.ref.injEq, V.str.injEq, reduceCtorEq, decide_true, decide_false, Bool.not_true, Bool.not_false, Bool.false_eq_true, if_false, if_true, ite_true, ite_false, List.length_cons, List.length_nil, tRaise, tErr, LamX.tLam, TTe])
          rintro ⟨v, e1, z⟩
          exact ⟨v, e1, mono_lists _ _ _ _ _ m z⟩
        · rintro L H' acc hL eL ⟨sm, ln, hc⟩
          exact q H' _ sm (.seq hs (fun z => z hL) eL ln.symm fun k x y e1 e2 => (hc k x y e1 e2).weak fun b hb => .inl hb)
      rcases hs with hs | hs
      · exact ⟨_, _, .ty "list", tyL (.inl (.inl (sg _ _ hs))), true, kit_ty (by decide +kernel), iteT main⟩
      · exact ⟨_, _, .ty "list", tyT (.inl (.inl (sg _ _ hs))), false, kit_ty (by decide +kernel), iteF ⟨_, _, .ty "tuple", tyT (.inl (.inl (sg _ _ hs))), true, kit_ty (by decide +kernel), iteT main⟩⟩
theorem ok__law_lists (T : Tx P K mg) : FnOk P w K mg base CX0 5 T.a__law_lists T.d__law_lists ["value"] (sp_law_lists K 4) := ok_law_lists_n T 4
end
end Kr
namespace Kr
open PySem PySem.Spec PyProof.Rows L2 Kb
section
variable {P : Program} {w : World} {K : PySem.W.Frag} {mg : Str → Option Value} {base : Heap}
/-- the errors that the law's own error def tells apart -/
abbrev told4 (T : Tx P K mg) : List (Addr × Str) := [(T.c_InvalidKeys, Str.ofString "keys"), (T.c_InvalidRow, Str.ofString "row")]
theorem ans_row (T : Tx P K mg) {Q : VK} {v : V} {H : Hp} {d : Addr} (hd : H d = none) (q : ∀ H' p, Same H H' → H' p = some (.tup [.str (Str.ofString "row"), v]) → Q (.ref p) H') : wErrs K Q (told4 T) (.ref T.c_InvalidRow) (some d) (upd H d (.xd [(("at" : Str), v)])) :=
  ⟨false, T.ex_RK, fun z => (nomatch z), fun _ => ⟨true, T.ex_RR, fun _ => ⟨rfl, d, _, v, rfl, upd_same, by simp [List.lookup], fun p hp => q _ p ((same_new hd).trans (same_new hp)) upd_same⟩, fun z => (nomatch z)⟩⟩
theorem ans_keys (T : Tx P K mg) {Q : VK} {v : V} {H : Hp} {d : Addr} (hd : H d = none) (q : ∀ H' p, Same H H' → H' p = some (.tup [.str (Str.ofString "keys"), v]) → Q (.ref p) H') : wErrs K Q (told4 T) (.ref T.c_InvalidKeys) (some d) (upd H d (.xd [(("at" : Str), v)])) :=
  ⟨true, T.ex_KK, fun _ => ⟨rfl, d, _, v, rfl, upd_same, by simp [List.lookup], fun p hp => q _ p ((same_new hd).trans (same_new hp)) upd_same⟩, fun z => (nomatch z)⟩
/-- _law_error(lambda: body) -/
theorem pe_lamE (T : Tx P K mg) {X : Cx} {TT : List (Addr × Str)} {c Pt : Addr} {k : Nat} {params : Arguments} {body : Expr} {scope : Scope} {t : XK → TE} {p lpos pos : Pos} (hP : X.prog = P) (hK : X.K = K) (hm : X.mg = mg) (hg : Gl X "_law_error")
    (TB : LamX.TabB X.base X.mg c Pt) (hcode : X.env.code = .ref c) (hmT : (Pt, X.env.qual ++ "<lambda>") ∈ TT) (hu : ∀ p ∈ TT, p.1 = Pt → p.2 = X.env.qual ++ "<lambda>") (hr : Room (k + 2) X.A) (L : LamX.LamS X.env.scope scope) (hdef : defaultsOf params X.env = ([], []))
    (hbind : ∀ (q : Str) (cl : List (Str × Addr)) (pm cv ctv : Value), bindArgs (PySem.W.kla_fn "<lambda>" q params body scope cl pm cv ctv) ⟨[], []⟩ = pure [])
    (hbody : ∀ (A : Around) (outer : List Env) (s : Shared) (H : Hp) (E : XK) (f c' : Addr), Room k (A.deeper (LamX.lamEnv X scope s.heap.objs.size f c')) → PE (LamX.lamCx X A outer s H E scope f c') body (t E)) :
    PE X (.Call (.Name "_law_error" p) [.Lambda params body scope lpos] [] pos) (LamX.tLam TT (TTe K (told4 T)) t) := by
  subst hP hK hm
  obtain ⟨oc, od, kV, doc, pm, an, cdv, ct, osl, e, lk, hcd⟩ := T.F__law_error.ex
  have hb := T.b__law_error
  rw [e] at hb lk
  exact LamX.pe_lamcall (x := "_law_error") (a := "call") hg T.g__law_error T.F__law_error.kp lk hcd hb sc__law_error rfl (.inl rfl) (gives__law_error T rfl rfl rfl _ _) TB hcode hmT hu hr L hdef hbind hbody
/-- as Fun.ok, the def's own code object known -/
theorem ok_code {x qual : Str} {st : Stmt} {f c : Addr} {N ps : List Str} {k : Nat} {sp : Sp} {oc : Value} {od an : Option Addr} {kV doc pm ct : Value} {osl : Array (Option Value)}
    (lk : K.lookup f = some ⟨oc, od, .func (PySem.W.fnOf x qual (defArgs st) (defBody st) (defScope st) .none kV doc pm an (.ref c) ct), osl⟩) (hcd : PySem.W.codeIn K (.ref c) qual = true) (S : FnScope N ps (defScope st)) (len : ∀ vs H Q E, sp vs H Q E → vs.length = ps.length)
    (hbody : ∀ (A : Around) (outer : List Env) (s : Shared) (H : Hp) (vs : List V) (Q : VK) (E : XK), Room k (A.deeper (envOfC qual (defScope st) s.heap.objs.size f (.ref c))) → sp vs H Q E →
      ∃ t, PSs (cxOf CX0 P w K mg base N qual (defScope st) f (.ref c) A outer s H E).nox (defBody st) t ∧ t { nx := fun _ H' => Q .non H', rt := Q } (L2.start N vs) H) :
    FnOk P w K mg base CX0 (k + 1) f (PySem.W.fnOf x qual (defArgs st) (defBody st) (defScope st) .none kV doc pm an (.ref c) ct) ps sp :=
  fn_of lk hcd S len fun A outer s H vs Q E hr hsp => by
    obtain ⟨t, h1, h2⟩ := hbody A outer s H vs Q E hr hsp
    exact ⟨t, h1.nox, h2⟩
end
end Kr
namespace Kr
open PySem PySem.Spec PyProof.Rows L2 Kb
section
variable {K : PySem.W.Frag}
/-- the heap without the tables of code objects -/
def nt (H : Hp) : Hp := fun a => match H a with
  | some (.tbl _) => none
  | x => x
theorem nt_of {H : Hp} {a : Addr} {o : HO} (h : nt H a = some o) : H a = some o ∧ ∀ ps, o ≠ .tbl ps := by
  unfold nt at h
  split at h
  · cases h
  · rename_i n
    exact ⟨h, fun ps e => n ps (by rw [h, e])⟩
theorem nt_at {H : Hp} {a : Addr} {o : HO} (h : H a = some o) (n : ∀ ps, o ≠ .tbl ps) : nt H a = some o := by
  unfold nt
  split
  · rename_i ps e
    rw [h] at e
    exact absurd (Option.some.inj e) (n ps)
  · exact h
theorem nt_le (H : Hp) : Same (nt H) H := fun a o h => (nt_of h).1
theorem nt_ext {H H' : Hp} (e : LamX.ExtN H H') : Same (nt H) (nt H') := fun a o h => by
  obtain ⟨h1, h2⟩ := nt_of h
  exact nt_at (e a o h1 h2) h2
theorem nt_mono {H H' : Hp} (e : Same H H') : Same (nt H) (nt H') := nt_ext (LamX.ExtN.of e)
theorem nt_free {H : Hp} {a : Addr} (h : H a = none) : nt H a = none := by
  cases e : nt H a with
  | none => rfl
  | some o => rw [(nt_of e).1] at h; cases h
theorem Bx.ntB {b : Addr} {H : Hp} (h : Bx b H) : Bx b (nt H) := by
  obtain ⟨r, cs, st, h1, h2, h3, h4⟩ := h
  exact ⟨r, cs, st, nt_at h1 (fun ps z => nomatch z), h2, nt_at h3 (fun ps z => nomatch z), h4⟩
theorem Bx.ext {b : Addr} {H H' : Hp} (h : Bx b H) (e : LamX.ExtN H H') : Bx b H' := by
  obtain ⟨r, cs, st, h1, h2, h3, h4⟩ := h
  exact ⟨r, cs, st, e _ _ h1 (fun ps z => nomatch z), h2, e _ _ h3 (fun ps z => nomatch z), h4⟩
/-- the heap without the box, its rest and the tables -/
def vis (b : Addr) (H : Hp) : Hp := nt (hbx b H)
theorem vis_le (b : Addr) (H : Hp) : Same (vis b H) H := (nt_le _).trans (hbx_le b H)
theorem vis_bx {b : Addr} {H H' : Hp} (e : Same (hbx b H) (hbx b H')) : Same (vis b H) (vis b H') := nt_mono e
theorem Bx.visE {b : Addr} {H H' : Hp} (h : Bx b H) (e : LamX.ExtN H H') : Same (vis b H) (vis b H') := nt_ext fun a o ha n => by
  obtain ⟨h1, h2, h3⟩ := hbx_of ha
  obtain ⟨r, cs, st, eb, _⟩ := h
  refine hbx_at (e a o h3 n) h1 ?_
  rw [e _ _ eb (fun ps z => nomatch z), ← eb]
  exact h2
theorem Bx.visM {b : Addr} {H H' : Hp} (h : Bx b H) (e : Same H H') : Same (vis b H) (vis b H') := vis_bx (h.mono e)
/-- what is no list and no table stands apart -/
theorem Bx.visN {b a : Addr} {H : Hp} {o : HO} (h : Bx b H) (e : H a = some o) (n : ∀ xs, o ≠ .lst xs) (m : ∀ ps, o ≠ .tbl ps) : vis b H a = some o := nt_at (h.non e n) m
theorem Bx.vis_new {b p : Addr} {H H' : Hp} {o : HO} (h : Bx b H) (e : Same H H') (hp : H p = none) (hp2 : H' p = some o) (m : ∀ ps, o ≠ .tbl ps) : vis b H' p = some o := nt_at (h.new e hp hp2) m
theorem vis_free {b a : Addr} {H : Hp} (h : H a = none) : vis b H a = none := nt_free (hbx_free h)
theorem vis_hbx {b p : Addr} {H : Hp} {o : HO} (h : vis b H p = some o) : hbx b H p = some o := (nt_of h).1
theorem vis_put {b p : Addr} {H : Hp} {o u : HO} (h : vis b H p = some o) (m : ∀ ps, u ≠ .tbl ps) : vis b (upd H p u) = upd (vis b H) p u := by
  unfold vis
  rw [hbx_put (vis_hbx h)]
  funext a
  by_cases e : a = p
  · subst e
    rw [upd_same, nt_at upd_same m]
  · rw [upd_ne e]
    unfold nt
    rw [upd_ne e]
theorem KeysAt.vis {C b : Addr} {H : Hp} {k : Addr} {n : Nat} {qs : List NP} (hb : Bx b H) (h : KeysAt C H k n qs) : KeysAt C (vis b H) k n qs := by
  obtain ⟨dx, t, ys, h1, h2, h3⟩ := h
  exact ⟨dx, t, ys, hb.visN h1 (fun xs z => nomatch z) (fun ps z => nomatch z), hb.visN h2 (fun xs z => nomatch z) (fun ps z => nomatch z),
    Paired.mapP h3 fun _ _ ⟨a, e1, e2⟩ => ⟨a, e1, hb.visN e2 (fun xs z => nomatch z) (fun ps z => nomatch z)⟩⟩
/-! ### rows that go -/
/-- a step, as a tuple of its own -/
def TStep (G : Hp) (n : Nat) (x : V) (s : Step) : Prop := ∃ a, x = .ref a ∧ G a = some (.tup [.str s.1, nv s.2]) ∧ s.1 ∈ whats ∧ s.2 < n
theorem TStep.same {G G' : Hp} {n : Nat} {x : V} {s : Step} (e : Same G G') (h : TStep G n x s) : TStep G' n x s := by
  obtain ⟨a, h1, h2, h3⟩ := h
  exact ⟨a, h1, e _ _ h2, h3⟩
theorem TStep.at {G : Hp} {n : Nat} {x : V} {s : Step} (h : TStep G n x s) : StepAt K G n x (some s) := by
  obtain ⟨a, h1, h2, h3⟩ := h
  exact ⟨a, h1, .inr (.inl (.inl h2)), h3⟩
def TSteps (G : Hp) (n : Nat) (xs : List V) (os : List Step) : Prop := Paired (TStep G n) xs os
theorem TSteps.same {G G' : Hp} {n : Nat} {xs : List V} {os : List Step} (e : Same G G') (h : TSteps G n xs os) : TSteps G' n xs os := Paired.mapP h fun _ _ z => z.same e
theorem paired_at {α : Type} {R : V → α → Prop} : ∀ {xs : List V} {os : List α} {i : Nat} {x : V} {o : α}, Paired R xs os → xs[i]? = some x → os[i]? = some o → R x o
  | _, _, _, _, _, .nil, e, _ => by simp at e
  | _, _, 0, _, _, .cons h _, e, f => by cases e; cases f; exact h
  | _, _, i + 1, _, _, .cons _ t, e, f => paired_at (i := i) t e f
theorem paired_snoc {α : Type} {R : V → α → Prop} : ∀ {xs : List V} {os : List α} {x : V} {o : α}, Paired R xs os → R x o → Paired R (xs ++ [x]) (os ++ [o])
  | _, _, _, _, .nil, h => .cons h .nil
  | _, _, _, _, .cons h t, h2 => .cons h (paired_snoc t h2)
theorem paired_app {α : Type} {R : V → α → Prop} : ∀ {xs ys : List V} {os ps : List α}, Paired R xs os → Paired R ys ps → Paired R (xs ++ ys) (os ++ ps)
  | _, _, _, _, .nil, h => h
  | _, _, _, _, .cons h t, h2 => .cons h (paired_app t h2)
theorem paired_map {α β : Type} {R : V → β → Prop} {f : α → β} : ∀ {xs : List V} {os : List α}, Paired (fun x o => R x (f o)) xs os → Paired R xs (os.map f)
  | _, _, .nil => .nil
  | _, _, .cons h t => .cons h (paired_map t)
/-- a row of values that are steps or none, as it is walked -/
theorem RowIs.of {H : Hp} {n : Nat} {a : Addr} {xs : List V} {os : List (Option Step)} (h : Seq K H a xs) (l : xs.length ≤ 1000) (p : Paired (StepAt K H n) xs os) :
    RowIs K H n (.ref a) ((walkF 0 0 0 os).1.map Int.ofNat, (walkF 0 0 0 os).2) := .row h l p.length fun i x o e1 e2 => paired_at p e1 e2
theorem walk_app : ∀ (os : List Step) (r : List (Option Step)) (i h d h' d' : Nat), walkF i h d (os.map some) = (none, h', d') → walkF i h d (os.map some ++ r) = walkF (i + os.length) h' d' r
  | [], r, i, h, d, h', d', e => by
    cases e
    rfl
  | s :: t, r, i, h, d, h', d', e => by
    have e1 : (if canDo h s = true then walkF (i + 1) (h ^^^ 1 <<< s.2) (hadB d s) (t.map some) else (some i, h, d)) = (none, h', d') := e
    show (if canDo h s = true then walkF (i + 1) (h ^^^ 1 <<< s.2) (hadB d s) (t.map some ++ r) else (some i, h, d)) = _
    split at e1
    · rename_i c
      rw [if_pos c, walk_app t r _ _ _ h' d' e1, List.length_cons]
      congr 1
      omega
    · cases e1
theorem tabs_put {TT : List (Addr × Str)} {H : Hp} {L : Addr} {xs : List V} {u : HO} (t : LamX.Tabs TT H) (h : H L = some (.lst xs)) : LamX.Tabs TT (upd H L u) := fun p hp => by
  obtain ⟨ps, h1, h2, h3⟩ := t p hp
  refine ⟨ps, by rw [upd_ne (fun z => by rw [z, h] at h1; cases h1)]; exact h1, h2, fun pos cv hc => ?_⟩
  obtain ⟨c, e1, e2⟩ := h3 pos cv hc
  have ne : c ≠ L := fun z => by
    rw [z, h] at e2
    exact absurd (Option.some.inj e2) (by unfold LamX.CodeO; exact fun w => nomatch w)
  exact ⟨c, e1, by rw [upd_ne ne]; exact e2⟩
theorem KeysAt.put {C : Addr} {H : Hp} {k L : Addr} {n : Nat} {qs : List NP} {xs : List V} {u : HO} (h : KeysAt C H k n qs) (e : H L = some (.lst xs)) : KeysAt C (upd H L u) k n qs := by
  obtain ⟨dx, t, ys, h1, h2, h3⟩ := h
  exact ⟨dx, t, ys, by rw [upd_ne (fun z => by rw [z, e] at h1; cases h1)]; exact h1, by rw [upd_ne (fun z => by rw [z, e] at h2; cases h2)]; exact h2, h3.upd fun ys z => by rw [e] at z; cases z⟩
theorem TSteps.put {G : Hp} {n : Nat} {L : Addr} {xs ys : List V} {os : List Step} {u : HO} (h : TSteps G n xs os) (e : G L = some (.lst ys)) : TSteps (upd G L u) n xs os := Paired.mapP h fun _ _ ⟨a, h1, h2, h3⟩ =>
  ⟨a, h1, by rw [upd_ne (fun z => by rw [z, e] at h2; cases h2)]; exact h2, h3⟩
theorem steps_put {TT : List (Addr × Str)} {C b k L p : Addr} {H : Hp} {n key : Nat} {qs : List NP} {xs : List V} {os : List Step} {z : Str} (hb : Bx b H) (tb : LamX.Tabs TT H) (hk : KeysAt C (vis b H) k n qs) (eL : vis b H L = some (.lst xs)) (ts : TSteps (vis b H) n xs os)
    (hp : H p = none) (hz : z ∈ whats) (hkey : key < n) : Bx b (upd (upd H p (.tup [.str z, nv key])) L (.lst (xs ++ [.ref p]))) ∧ LamX.Tabs TT (upd (upd H p (.tup [.str z, nv key])) L (.lst (xs ++ [.ref p]))) ∧
      KeysAt C (vis b (upd (upd H p (.tup [.str z, nv key])) L (.lst (xs ++ [.ref p])))) k n qs ∧ vis b (upd (upd H p (.tup [.str z, nv key])) L (.lst (xs ++ [.ref p]))) L = some (.lst (xs ++ [.ref p])) ∧
      TSteps (vis b (upd (upd H p (.tup [.str z, nv key])) L (.lst (xs ++ [.ref p])))) n (xs ++ [.ref p]) (os ++ [(z, key)]) := by
  have s1 := same_new (o := .tup [.str z, nv key]) hp
  have g1 := hb.visM s1
  have hb1 := hb.same s1
  have eL1 := g1 _ _ eL
  have ep := hb.vis_new s1 hp upd_same (o := .tup [.str z, nv key]) (fun ps z => nomatch z)
  have ev := vis_put (u := .lst (xs ++ [.ref p])) eL1 (fun ps z => nomatch z)
  rw [ev]
  exact ⟨hb1.put (vis_hbx eL1), tabs_put (tb.ext s1) (vis_le _ _ _ _ eL1), (hk.same g1).put eL1, upd_same, TSteps.put (paired_snoc (ts.same g1) ⟨p, rfl, ep, hz, hkey⟩) eL1⟩
theorem Bx.tabs {TT : List (Addr × Str)} {b : Addr} {H H' : Hp} (hb : Bx b H) (t : LamX.Tabs TT H) (s : Same (hbx b H) (hbx b H')) : LamX.Tabs TT H' := by
  have t1 : LamX.Tabs TT (hbx b H) := fun p hp => by
    obtain ⟨ps, h1, h2, h3⟩ := t p hp
    refine ⟨ps, hb.non h1 (fun xs z => nomatch z), h2, fun pos cv hc => ?_⟩
    obtain ⟨c, e1, e2⟩ := h3 pos cv hc
    exact ⟨c, e1, hb.non e2 (by unfold LamX.CodeO; exact fun xs z => nomatch z)⟩
  exact t1.ext (s.trans (hbx_le b H'))
theorem walk_snoc {os : List Step} {h d : Nat} {s : Step} (e : walkF 0 0 0 (os.map some) = (none, h, d)) (c : canDo h s = true) : walkF 0 0 0 ((os ++ [s]).map some) = (none, h ^^^ 1 <<< s.2, hadB d s) := by
  rw [List.map_append, walk_app os _ _ _ _ _ _ e]
  show (if canDo h s = true then walkF _ _ _ [] else _) = _
  rw [if_pos c]
  rfl
theorem can_give {h k : Nat} (e : h.testBit k = true) : canDo h (give, k) = true := by
  show decide (h.testBit k = (give == give)) = true
  rw [e, beq_self_eq_true]
  rfl
theorem take_ne : (Str.ofString "take" == give) = false := by decide +kernel
theorem can_take {h k : Nat} (e : h.testBit k = false) : canDo h (Str.ofString "take", k) = true := by
  show decide (h.testBit k = (Str.ofString "take" == give)) = true
  rw [e, take_ne]
  rfl
theorem no_take {h k : Nat} (e : h.testBit k = true) : canDo h (Str.ofString "take", k) = false := by
  show decide (h.testBit k = (Str.ofString "take" == give)) = false
  rw [e, take_ne]
  rfl
theorem no_give {h k : Nat} (e : h.testBit k = false) : canDo h (give, k) = false := by
  show decide (h.testBit k = (give == give)) = false
  rw [e, beq_self_eq_true]
  rfl
theorem RowIs.same {H H' : Hp} {n : Nat} {x : V} {r : Option Int × Nat × Nat} (e : Same H H') (h : RowIs K H n x r) : RowIs K H' n x r := by
  cases h with
  | noSeq h1 h2 => exact .noSeq (TyX.same e h1) h2
  | long hs hl => exact .long (Same.sq e hs) hl
  | row hs hl he ha => exact .row (Same.sq e hs) hl he fun i x o e1 e2 => (ha i x o e1 e2).same e
theorem RowIs.goes {H : Hp} {n h d : Nat} {a : Addr} {xs : List V} {os : List Step} (hs : Seq K H a xs) (l : xs.length ≤ 1000) (p : Paired (fun x s => StepAt K H n x (some s)) xs os) (w : walkF 0 0 0 (os.map some) = (none, h, d)) : RowIs K H n (.ref a) (none, h, d) := by
  have z := RowIs.of hs l (paired_map (f := some) (R := StepAt K H n) p)
  rw [w] at z
  exact z
theorem TD.two {H : Hp} {n : Nat} {p q a b c d : Addr} {l m : List Nat} (hp : H p = some (.tup [.ref a, .ref b])) (hq : H q = some (.tup [.ref c, .ref d])) (ha : H a = some (.tup (nvs l))) (hc : H c = some (.tup (nvs l))) (hb : H b = some (.tup (nvs m))) (hd : H d = some (.tup (nvs m))) :
    TD K H (n + 3) (.ref p) (.ref q) := by
  refine .tup (.inl (.inl hp)) (.inl (.inl hq)) rfl fun i x y e1 e2 => ?_
  match i, e1, e2 with
  | 0, e1, e2 => cases e1; cases e2; exact .ints ha hc
  | 1, e1, e2 => cases e1; cases e2; exact .ints hb hd
/-- what the law's lists of a row are -/
theorem lists_row {H H' : Hp} {F : Addr → Prop} {L : Addr} {n : Nat} {xs : List V} {os : List Step} {y : V} (hL : H L = some (.lst xs)) (ts : TSteps H n xs os) (h : LC K H F H' 4 (.ref L) y) :
    ∃ p ys, y = .ref p ∧ H' p = some (.lst ys) ∧ Paired (fun x s => StepAt K H' n x (some s)) ys os := by
  have tq : ∀ {a : Addr} {us vs : List V}, Tq H a us → (H a = some (.lst vs) ∨ H a = some (.tup vs)) → us = vs := fun {a us vs} h1 h2 => by
    rcases h1 with h1 | h1 <;> rcases h2 with h2 | h2 <;> rw [h1] at h2 <;> cases h2 <;> rfl
  cases h with
  | sc h => cases h
  | @seq _ _ p us ys hs _ hp hl hx =>
    have e := tq hs (.inl hL)
    subst e
    refine ⟨p, ys, rfl, hp, ?_⟩
    clear hs hp hL
    induction ts generalizing ys with
    | nil =>
      cases ys with
      | nil => exact .nil
      | cons y r => simp at hl
    | @cons x s r os h t ih =>
      cases ys with
      | nil => simp at hl
      | cons y ys =>
        refine .cons ?_ (ih (by simpa using hl) fun i x y e1 e2 => hx (i + 1) x y e1 e2)
        have z := hx 0 _ y rfl rfl
        obtain ⟨a, rfl, ea, hz, hk⟩ := h
        cases z with
        | sc h => cases h
        | @seq _ _ q us zs hs _ hq hl hx =>
          have e := tq hs (.inr ea)
          subst e
          match zs, hl with
          | [z1, z2], _ =>
            have a1 := hx 0 _ z1 rfl rfl
            have a2 := hx 1 _ z2 rfl rfl
            cases a1
            cases a2
            exact ⟨q, rfl, .inl (.inl (.inl hq)), hz, hk⟩
theorem TSteps.lv {G : Hp} {n L : Nat} {xs : List V} {os : List Step} (hL : G L = some (.lst xs)) (l : xs.length ≤ 1000) (h : TSteps G n xs os) : LV K G 4 (.ref L) := by
  refine .seq (.inl hL) l fun x hx => ?_
  obtain ⟨i, hi⟩ := List.mem_iff_getElem?.mp hx
  have lt : i < os.length := by rw [← h.length]; exact (List.getElem?_eq_some_iff.mp hi).1
  obtain ⟨a, rfl, ea, _⟩ := paired_at h hi (List.getElem?_eq_getElem lt)
  refine .seq (.inr ea) (by simp) fun y hy => ?_
  simp only [List.mem_cons, List.not_mem_nil, or_false] at hy
  rcases hy with rfl | rfl
  · exact .sc (.str _)
  · exact .sc (.int _)
/-- [(z, key) for key in ..] -/
theorem lc_steps {σ : L2.St} {H : Hp} {Q : VK} {j i : Nat} {a : Addr} {ks : List Nat} (z : Str) (hj : σ[j]? = some (some (.ref a))) (hi : i < σ.length) (hij : j ≠ i) (hs : Seq K H a (nvs ks)) (hl : ks.length < 1000)
    (hd : ∀ (L : Addr) (H' : Hp) (ws : List V), H L = none → Same H H' → H' L = some (.lst ws) → Paired (fun x k => ∃ p, x = .ref p ∧ H p = none ∧ H' p = some (.tup [.str z, nv k])) ws ks → Q (.ref L) H') :
    tLc (iSeq K (tVar j)) (gName i) tYes (tTup (tCons (tC (.str z)) (tCons (tVar i) tNil))) [i] σ H Q := by
  refine lcSG a (nvs ks) (fun L m H' acc => Same H H' ∧ Paired (fun x k => ∃ p, x = .ref p ∧ H p = none ∧ p ≠ L ∧ H' p = some (.tup [.str z, nv k])) acc (ks.take m)) (fun R h => ⟨_, hj, h⟩) hs (by rw [List.length_map]; omega) (fun L hL => ⟨same_new hL, .nil⟩) (fun L m H' acc _ h => h.1)
    (fun L m x H' acc hL hx eL h => ?_) (fun σ H Q1 Q2 m h => m _ _ h) (fun σ H Q1 Q2 m h => ?_) fun L H' acc hL eL h => ?_
  · obtain ⟨sm, pr⟩ := h
    obtain ⟨k, hk, rfl⟩ := nvs_at hx
    refine ⟨_, List.getElem?_set_self hi, (by rw [sizeLine_eq]; decide : 2 ≤ sizeLine), fun p hp => ⟨same_new hp _ _ eL, ?_, ?_⟩⟩
    · intro b o hb
      rw [upd_ne (ne_of_none hb hL)]
      exact same_new hp _ _ (sm _ _ hb)
    · have np : p ≠ L := Ne.symm (ne_of_none eL hp)
      rw [List.take_add_one, hk]
      refine paired_snoc (Paired.mapP pr fun y k2 hy => ?_) ⟨p, rfl, back sm hp, np, ?_⟩
      · obtain ⟨q, h1, h2, h3, h4⟩ := hy
        exact ⟨q, h1, h2, h3, by rw [upd_ne h3]; exact same_new hp _ _ h4⟩
      · rw [upd_ne np]
        exact upd_same
  · obtain ⟨v, e, l, g⟩ := h
    exact ⟨v, e, l, fun p hp => m _ _ (g p hp)⟩
  · obtain ⟨sm, pr⟩ := h
    rw [List.length_map, List.take_length] at pr
    exact hd L H' acc hL sm eL (Paired.mapP pr fun y k hy => by
      obtain ⟨p, h1, h2, _, h4⟩ := hy
      exact ⟨p, h1, h2, h4⟩)
/-- no step that can be done -/
def BadV (K : PySem.W.Frag) (G : Hp) (n held : Nat) (x : V) : Prop := ∃ o : Option Step, StepAt K G n x o ∧ ∀ s, o = some s → canDo held s = false
theorem BadV.same {G G' : Hp} {n held : Nat} {x : V} (e : Same G G') (h : BadV K G n held x) : BadV K G' n held x := by
  obtain ⟨o, h1, h2⟩ := h
  exact ⟨o, h1.same e, h2⟩
theorem BadV.no {G : Hp} {n held : Nat} {x : V} (h : StepV K G n x false) : BadV K G n held x := ⟨none, h, fun s e => nomatch e⟩
theorem walk_bad {os : List Step} {held had : Nat} {o : Option Step} {r : List (Option Step)} (e : walkF 0 0 0 (os.map some) = (none, held, had)) (h : ∀ s, o = some s → canDo held s = false) : walkF 0 0 0 (os.map some ++ o :: r) = (some os.length, held, had) := by
  rw [walk_app os _ _ _ _ _ _ e, Nat.zero_add]
  cases o with
  | none => rfl
  | some s =>
    show (if canDo held s = true then _ else _) = _
    rw [if_neg (by rw [h s rfl]; exact Bool.false_ne_true)]
theorem kit2 {t : Value} (h1 : PySem.W.kitOne K t (.type "list") = some false) (h2 : PySem.W.kitOne K t (.type "tuple") = some false) : PySem.W.kitAny K t [.type "list", .type "tuple"] = some false :=
  kitAny_cons (b := false) h1 (fun _ => kitAny_cons (b := false) h2 (fun _ => rfl) fun h => nomatch h) fun h => nomatch h
theorem dp_nvs (l : List Nat) {H : Hp} : DpAll K H (nvs l) (l.map fun n : Nat => PyData.int (n : Int)) := by
  induction l with
  | nil => exact .nil
  | cons c r ih => exact .cons (.int c) ih
theorem bad_len {G : Hp} {n held : Nat} {a : Addr} {xs : List V} (h : G a = some (.tup xs)) (l : xs.length ≠ 2) : BadV K G n held (.ref a) := .no (.size (.inr (.inl (.inl h))) l)
theorem bad_sc {G : Hp} {n held : Nat} {x : V} {t : Value} (h : Sc x t) : BadV K G n held x := .no (.noSeq h.ty (kit2 h.no.1 h.no.2))
theorem bad_key {G : Hp} {n held : Nat} {a : Addr} {z : Str} {y : V} {o : Option Int} (h : G a = some (.tup [.str z, y])) (hz : z ∈ whats) (ho : AsInt K G y o) (hb : below n o = false) : BadV K G n held (.ref a) := .no (.noKey (.inr (.inl (.inl h))) hz ho hb)
theorem not_bl {G : Hp} (b : Bool) : AsInt K G (.bl b) none := ⟨_, true, true, .base (.bl b), kit_ty (by decide +kernel), kit_ty (by decide +kernel), rfl⟩
theorem not_non {G : Hp} : AsInt K G .non none := ⟨_, false, false, .base .non, kit_ty (by decide +kernel), kit_ty (by decide +kernel), rfl⟩
theorem shl_lt {k n : Nat} (h : k < n) : 1 <<< k < 2 ^ n := by
  rw [Nat.shiftLeft_eq, Nat.one_mul]
  exact Nat.pow_lt_pow_right (by decide) h
end
end Kr
namespace Kr
open PySem PySem.Spec PyProof.Rows L2 Kb
section
variable {P : Program} {w : World} {K : PySem.W.Frag} {mg : Str → Option Value} {base : Heap}
theorem shaped_nats (l : List Nat) : SeqAt.shaped (PyData.list (l.map fun n : Nat => PyData.int (n : Int))) = true := by
  have h := PySem.W.shaped_ints (l.map Int.ofNat)
  rw [List.map_map] at h
  exact h
theorem mem_cut {xs : List V} {i j : Option Int} {v : V} (h : v ∈ cutV xs i j) : v ∈ xs := by
  unfold cutV at h
  exact List.mem_of_mem_drop (List.mem_of_mem_take h)
theorem TD.strint {H : Hp} {a b : Addr} {z : Str} {v : Int} {n : Nat} (h1 : H a = some (.tup [.str z, .int v])) (h2 : H b = some (.tup [.str z, .int v])) : TD K H (n + 2) (.ref a) (.ref b) := by
  refine .tup (.inl (.inl h1)) (.inl (.inl h2)) rfl fun i x y e1 e2 => ?_
  rw [e1] at e2
  cases e2
  match i, e1 with
  | 0, e1 => cases e1; exact .str _ _
  | 1, e1 => cases e1; exact .int _ _
/-- the name of law's lambdas -/
abbrev lamQ : Str := (Str.ofString "law" ++ Str.ofString ".<locals>.") ++ Str.ofString "<lambda>"
def sp_lawT (K : PySem.W.Frag) (Pt : Addr) : Sp := fun vs H Q _ => ∃ a ns, vs = [.ref a] ∧ SqL K H a (ivs ns) ∧ ns.length ≤ 63 ∧ H Pt = some (.tbl #[]) ∧ ∀ H', Q (.bl true) H'
set_option maxHeartbeats 8000000 in
theorem ok_law (T : Tx P K mg) {c Pt : Addr} {oc : Value} {od an : Option Addr} {kV doc pm ct : Value} {osl : Array (Option Value)}
    (lk : K.lookup T.a_law = some ⟨oc, od, .func (PySem.W.fnOf "law" "law" (defArgs s_law) (defBody s_law) (defScope s_law) .none kV doc pm an (.ref c) ct), osl⟩) (hcd : PySem.W.codeIn K (.ref c) "law" = true) (TB : LamX.TabB base mg c Pt) :
    FnOk P w K mg base CX0 (10) T.a_law (PySem.W.fnOf "law" "law" (defArgs s_law) (defBody s_law) (defScope s_law) .none kV doc pm an (.ref c) ct) ["script"] (sp_lawT K Pt) := by
  refine ok_code lk hcd sc_law (fun vs H Q E h => ?_) (fun A outer s H vs Q E hr h => ?_)
  · obtain ⟨a, ns, rfl, _⟩ := h
    rfl
  · obtain ⟨a, ns, rfl, hs, hn, hP, q⟩ := h
    have hmT : (Pt, lamQ) ∈ [(Pt, lamQ)] := List.mem_singleton_self _
    have hu : ∀ p ∈ [(Pt, lamQ)], p.1 = Pt → p.2 = lamQ := fun p hp _ => by rw [List.mem_singleton.mp hp]
    refine ⟨_, (pss_cons (ps_set (i := 1) sc_law.nd rfl (Or.inl rfl) (pe_call (ok__law_box T) (hr.mono (by decide)) (by rfl) T.g__law_box T.F__law_box.kp T.b__law_box .nil pass0 (pa_cons (pv 0) pa_nil)))
      (pss_cons (ps_for PassesOwn.never rfl (pi_range1 (by rfl) T.n_range (pa_cons pe_int pa_nil)) (pg_name (i := 2) sc_law.nd rfl (Or.inl rfl)) (pss_cons (ps_set (i := 3) sc_law.nd rfl (Or.inl rfl) (pe_op op_add pe_int (pe_call (ok__law_take T) (hr.mono (by decide)) (by rfl) T.g__law_take T.F__law_take.kp T.b__law_take .nil pass0 (pa_cons (pv 1) (pa_cons pe_int pa_nil)))))
      (pss_cons (ps_set (i := 4) sc_law.nd rfl (Or.inr rfl) (pe_make T.m_Keys (ok_Keys___init__ T) (hr.mono (by decide)) (by rfl) T.g_Keys T.b_Keys___init__ .nil pass0 (pa_cons (pv 3) (pa_cons (pe_call (ok__law_graph T) (hr.mono (by decide)) (by rfl) T.g__law_graph T.F__law_graph.kp T.b__law_graph .nil pass0 (pa_cons (pv 1) (pa_cons (pv 3) pa_nil))) pa_nil))))
      (pss_cons (ps_asg (pe_tup (pa_cons (pe_lst pa_nil) (pa_cons pe_int (pa_cons pe_int pa_nil)))) (gtupK (K := K) (n := 3) rfl (by rfl) (pgs_cons (pg_name (i := 5) sc_law.nd rfl (Or.inr rfl)) (pgs_cons (pg_name (i := 6) sc_law.nd rfl (Or.inr rfl)) (pgs_cons (pg_name (i := 7) sc_law.nd rfl (Or.inl rfl)) pgs_nil)))))
      (pss_cons (ps_set (i := 8) sc_law.nd rfl (Or.inl rfl) (pe_call (ok__law_pick T) (hr.mono (by decide)) (by rfl) T.g__law_pick T.F__law_pick.kp T.b__law_pick .nil pass0 (pa_cons (pv 1) (pa_cons (pe_lst (pa_cons pe_int (pa_cons pe_int (pa_cons pe_int (pa_cons pe_int (pa_cons pe_int (pa_cons (pe_ifExp (pt_cmpR op_eq (pv 2) pe_int (nomark _)) pe_int pe_int) pa_nil))))))) pa_nil))))
      (pss_cons (ps_for PassesOwn.never rfl (pi_range1 (by rfl) T.n_range (pa_cons (pv 8) pa_nil)) (pg_name (i := 9) sc_law.nd rfl (Or.inl rfl)) (pss_cons (ps_set (i := 10) sc_law.nd rfl (Or.inl rfl) (pe_call (ok__law_take T) (hr.mono (by decide)) (by rfl) T.g__law_take T.F__law_take.kp T.b__law_take .nil pass0 (pa_cons (pv 1) (pa_cons (pv 3) pa_nil))))
      (pss_cons (ps_if (truthK (K := K) rfl (pe_op op_andU (pe_op op_shrU (pv 6) (pv 10)) pe_int) (by intro _; rfl)) (pss_cons (ps_expr (bmK (K := K) rfl PySem.F.plainAttrs_list PySem.F.slot_list_append PySem.F.type_list_append mt_append (pv 5) (pa_cons (pe_tup (pa_cons pe_str (pa_cons (pv 10) pa_nil))) pa_nil)))
      (pss_one (ps_set (i := 7) sc_law.nd rfl (Or.inl rfl) (pe_op op_orU (pv 7) (pe_op op_shlU pe_int (pv 10)))))) (pss_one (ps_expr (bmK (K := K) rfl PySem.F.plainAttrs_list PySem.F.slot_list_append PySem.F.type_list_append mt_append (pv 5) (pa_cons (pe_tup (pa_cons pe_str (pa_cons (pv 10) pa_nil))) pa_nil)))))
      (pss_one (ps_set (i := 6) sc_law.nd rfl (Or.inr rfl) (pe_op op_xorU (pv 6) (pe_op op_shlU pe_int (pv 10))))))))
      (pss_cons (ps_set (i := 11) sc_law.nd rfl (Or.inl rfl) (pe_tup (pa_cons (pe_call (ok__law_lot T) (hr.mono (by decide)) (by rfl) T.g__law_lot T.F__law_lot.kp T.b__law_lot .nil pass0 (pa_cons (pv 6) pa_nil)) (pa_cons (pe_call (ok__law_lot T) (hr.mono (by decide)) (by rfl) T.g__law_lot T.F__law_lot.kp T.b__law_lot .nil pass0 (pa_cons (pv 7) pa_nil)) pa_nil))))
      (pss_cons (ps_for PassesOwn.never rfl (pseqK (K := K) rfl (pe_lst (pa_cons (pv 5) (pa_cons (pe_callTy (tupOfK (K := K) rfl) (by rfl) T.n_tuple (by decide +kernel) (pa_cons (pv 5) pa_nil)) (pa_cons (pe_call (ok__law_lists T) (hr.mono (by decide)) (by rfl) T.g__law_lists T.F__law_lists.kp T.b__law_lists .nil pass0 (pa_cons (pv 5) pa_nil)) pa_nil))))) (pg_name (i := 12) sc_law.nd rfl (Or.inl rfl)) (pss_one (ps_if (pt_not (pt_val (pe_call (ok__law_is T) (hr.mono (by decide)) (by rfl) T.g__law_is T.F__law_is.kp T.b__law_is .nil pass0 (pa_cons (pe_call (okx_row_ends T) (hr.mono (by decide)) (by rfl) T.g_row_ends T.F_row_ends.kp T.b_row_ends .nil passL (pa_cons (pv 4) (pa_cons (pv 12) pa_nil))) (pa_cons (pv 11) pa_nil))))) (pss_one (ps_ret pe_bl)) pss_nil)))
      (pss_cons (ps_if (PW.pt (pw_and (pt_cmpR op_eq (pv 8) pe_int (nomark _)) (pw_and1 (pt_not (pt_val (pe_call (ok__law_is T) (hr.mono (by decide)) (by rfl) T.g__law_is T.F__law_is.kp T.b__law_is .nil pass0 (pa_cons (pe_lamE (k := 7) T rfl rfl rfl (by rfl) TB rfl hmT hu (hr.mono (by decide)) (LamX.lamS_by (by show LamX.lamSB (defScope s_law) _ = true; decide +kernel)) rfl (fun _ _ _ _ _ => rfl) (fun A outer s H E f c' hr => (pe_call (okx_row_ends T) (hr.mono (by decide)) (by rfl) T.g_row_ends T.F_row_ends.kp T.b_row_ends .nil (passes_call (takes_of rfl rfl rfl rfl) fun _ _ _ _ h => h) (pa_cons (pv 4) (pa_cons (pe_op op_cat (pv 5) (pe_lst (pa_cons (pe_ix (ixL (K := K) rfl) (pv 5) pe_int (fun _ _ => rfl)) pa_nil))) pa_nil))))) (pa_cons (pe_tup (pa_cons pe_str (pa_cons (pe_un un_neg pe_int) pa_nil))) pa_nil)))))))) (pss_one (ps_ret pe_bl)) pss_nil)
      (pss_cons (ps_if (pt_cmpR op_gt (pv 8) pe_int (nomark _)) (pss_one ps_continue) pss_nil)
      (pss_cons (ps_par (i := 13) (j := 14) (by rfl) sc_law.nd rfl rfl (by decide) rfl rfl (pa_cons (pe_lc (own := [("key", 10)]) (by rfl) sc_law.nd (pi_range1 (by rfl) T.n_range (pa_cons (pv 3) pa_nil)) (blkOk_by (own := [("key", 10)]) (N := ["script", "box", "turn", "many", "keys", "steps", "held", "had", "size", "step", "key", "due", "row", "free", "full", "wrong", "bad", "behind"]) (sc := defScope s_law) (by decide +kernel)) (fun _ _ _ _ _ => (pg_name (i := 10) sc_law.nd rfl (by first | exact Or.inl rfl | exact Or.inr rfl))) (fun _ _ _ _ _ => (pts_one (pt_not (truthK (K := K) rfl (pe_op op_andU (pe_op op_shrU (pv 6) (pv 10)) pe_int) (by intro _; rfl))))) (fun _ _ _ _ _ => (pv 10))) (pa_cons (pe_callTy (listOfK (K := K) rfl) (by rfl) T.n_list (by decide +kernel) (pa_cons (pe_call (ok__law_lot T) (hr.mono (by decide)) (by rfl) T.g__law_lot T.F__law_lot.kp T.b__law_lot .nil pass0 (pa_cons (pv 6) pa_nil)) pa_nil)) pa_nil)) (by rfl))
      (pss_cons (ps_set (i := 15) sc_law.nd rfl (Or.inl rfl) (pe_op op_cat (pe_lc (own := [("key", 10)]) (by rfl) sc_law.nd (pseqK (K := K) rfl (pv 14)) (blkOk_by (own := [("key", 10)]) (N := ["script", "box", "turn", "many", "keys", "steps", "held", "had", "size", "step", "key", "due", "row", "free", "full", "wrong", "bad", "behind"]) (sc := defScope s_law) (by decide +kernel)) (fun _ _ _ _ _ => (pg_name (i := 10) sc_law.nd rfl (by first | exact Or.inl rfl | exact Or.inr rfl))) (fun _ _ _ _ _ => pts_nil) (fun _ _ _ _ _ => (pe_tup (pa_cons pe_str (pa_cons (pv 10) pa_nil))))) (pe_lc (own := [("key", 10)]) (by rfl) sc_law.nd (pseqK (K := K) rfl (pv 13)) (blkOk_by (own := [("key", 10)]) (N := ["script", "box", "turn", "many", "keys", "steps", "held", "had", "size", "step", "key", "due", "row", "free", "full", "wrong", "bad", "behind"]) (sc := defScope s_law) (by decide +kernel)) (fun _ _ _ _ _ => (pg_name (i := 10) sc_law.nd rfl (by first | exact Or.inl rfl | exact Or.inr rfl))) (fun _ _ _ _ _ => pts_nil) (fun _ _ _ _ _ => (pe_tup (pa_cons pe_str (pa_cons (pv 10) pa_nil)))))))
      (pss_cons (ps_expr (bmK (K := K) rfl PySem.F.plainAttrs_list PySem.F.slot_list_extend PySem.F.type_list_extend mt_extend (pv 15) (pa_cons (pe_lst (pa_cons (pe_tup (pa_cons pe_str (pa_cons (pv 3) pa_nil))) (pa_cons (pe_tup (pa_cons pe_str (pa_cons (pe_un un_neg pe_int) pa_nil))) (pa_cons (pe_tup (pa_cons pe_str (pa_cons pe_bl pa_nil))) (pa_cons (pe_tup (pa_cons pe_str (pa_cons pe_non pa_nil))) (pa_cons (pe_tup (pa_cons pe_str pa_nil)) (pa_cons (pe_tup (pa_cons pe_str (pa_cons pe_int pa_nil))) (pa_cons pe_str (pa_cons pe_non pa_nil))))))))) pa_nil)))
      (pss_cons (ps_expr (bmK (K := K) rfl PySem.F.plainAttrs_list PySem.F.slot_list_extend PySem.F.type_list_extend mt_extend (pv 15) (pa_cons (pe_lst (pa_cons (pe_tup (pa_cons pe_str (pa_cons pe_int (pa_cons pe_int pa_nil)))) (pa_cons (pe_tup (pa_cons pe_str (pa_cons (pe_ifExp (pt_cmpR (neDK (K := K) rfl hr.units) (pv 13) (pe_lst pa_nil) (nomark _)) (pe_ix (ixL (K := K) rfl) (pv 13) pe_int (fun _ _ => rfl)) (pv 3)) (pa_cons pe_int pa_nil)))) (pa_cons pe_int (pa_cons (pe_tup (pa_cons pe_int (pa_cons pe_str pa_nil))) (pa_cons (pe_lst (pa_cons pe_non (pa_cons pe_int pa_nil))) (pa_cons (pe_tup (pa_cons (pe_lst (pa_cons pe_str pa_nil)) (pa_cons pe_int pa_nil))) pa_nil))))))) pa_nil)))
      (pss_one (ps_for PassesOwn.never rfl (pseqK (K := K) rfl (pe_slice (slL (K := K) rfl) (pe_call (ok__law_mixed T) (hr.mono (by decide)) (by rfl) T.g__law_mixed T.F__law_mixed.kp T.b__law_mixed .nil pass0 (pa_cons (pv 1) (pa_cons (pv 15) pa_nil))) po_none (po_some pe_int))) (pg_name (i := 16) sc_law.nd rfl (Or.inr rfl)) (pss_cons (ps_set (i := 17) sc_law.nd rfl (Or.inr rfl) (pe_op op_cat (pe_lst (pa_cons (pv 16) pa_nil)) (pe_lst (pa_cons (pe_call (ok__law_pick T) (hr.mono (by decide)) (by rfl) T.g__law_pick T.F__law_pick.kp T.b__law_pick .nil pass0 (pa_cons (pv 1) (pa_cons (pe_lst (pa_cons (pv 16) (pa_cons (pe_tup (pa_cons pe_str (pa_cons (pv 3) pa_nil))) (pa_cons pe_non pa_nil)))) pa_nil))) pa_nil))))
      (pss_one (ps_if (pt_not (pt_val (pe_call (ok__law_is T) (hr.mono (by decide)) (by rfl) T.g__law_is T.F__law_is.kp T.b__law_is .nil pass0 (pa_cons (pe_lamE (k := 7) T rfl rfl rfl (by rfl) TB rfl hmT hu (hr.mono (by decide)) (LamX.lamS_by (by show LamX.lamSB (defScope s_law) _ = true; decide +kernel)) rfl (fun _ _ _ _ _ => rfl) (fun A outer s H E f c' hr => (pe_call (okx_row_ends T) (hr.mono (by decide)) (by rfl) T.g_row_ends T.F_row_ends.kp T.b_row_ends .nil (passes_call (takes_of rfl rfl rfl rfl) fun _ _ _ _ h => h) (pa_cons (pv 4) (pa_cons (pe_op op_cat (pv 5) (pv 17)) pa_nil))))) (pa_cons (pe_tup (pa_cons pe_str (pa_cons (pv 8) pa_nil))) pa_nil))))) (pss_one (ps_ret pe_bl)) pss_nil)))))))))))))))))))
      (pss_cons (ps_for PassesOwn.never rfl (pseqK (K := K) rfl (pe_lst (pa_cons pe_non (pa_cons pe_int (pa_cons pe_str (pa_cons pe_dnewK (pa_cons (pe_tup (pa_cons pe_str (pa_cons pe_int pa_nil))) pa_nil))))))) (pg_name (i := 16) sc_law.nd rfl (Or.inr rfl)) (pss_cons (ps_set (i := 11) sc_law.nd rfl (Or.inl rfl) (pe_ifExp (pt_val (pe_callB (isiK (K := K) rfl) (by rfl) T.n_isinstance (by decide +kernel) (pa_cons (pv 16) (pa_cons (pe_bltn (v := .ty "tuple") (by rfl) T.n_tuple (by decide +kernel) rfl) pa_nil)))) (pe_tup (pa_cons pe_str (pa_cons pe_int pa_nil))) (pe_tup (pa_cons pe_str (pa_cons (pe_un un_neg pe_int) pa_nil)))))
      (pss_one (ps_if (pt_not (pt_val (pe_call (ok__law_is T) (hr.mono (by decide)) (by rfl) T.g__law_is T.F__law_is.kp T.b__law_is .nil pass0 (pa_cons (pe_lamE (k := 7) T rfl rfl rfl (by rfl) TB rfl hmT hu (hr.mono (by decide)) (LamX.lamS_by (by show LamX.lamSB (defScope s_law) _ = true; decide +kernel)) rfl (fun _ _ _ _ _ => rfl) (fun A outer s H E f c' hr => (pe_call (okx_row_ends T) (hr.mono (by decide)) (by rfl) T.g_row_ends T.F_row_ends.kp T.b_row_ends .nil (passes_call (takes_of rfl rfl rfl rfl) fun _ _ _ _ h => h) (pa_cons (pe_call (ok_plain_keys T) (hr.mono (by decide)) (by rfl) T.g_plain_keys T.F_plain_keys.kp T.b_plain_keys .nil pass0 (pa_cons pe_int pa_nil)) (pa_cons (pv 16) pa_nil))))) (pa_cons (pv 11) pa_nil))))) (pss_one (ps_ret pe_bl)) pss_nil))))
      (pss_cons (ps_for PassesOwn.never rfl (pseqK (K := K) rfl (pe_lst (pa_cons pe_non (pa_cons pe_int (pa_cons (pe_tup (pa_cons pe_int (pa_cons (pe_tup pa_nil) pa_nil))) pa_nil))))) (pg_name (i := 16) sc_law.nd rfl (Or.inr rfl)) (pss_one (ps_if (pt_not (pt_val (pe_call (ok__law_is T) (hr.mono (by decide)) (by rfl) T.g__law_is T.F__law_is.kp T.b__law_is .nil pass0 (pa_cons (pe_lamE (k := 7) T rfl rfl rfl (by rfl) TB rfl hmT hu (hr.mono (by decide)) (LamX.lamS_by (by show LamX.lamSB (defScope s_law) _ = true; decide +kernel)) rfl (fun _ _ _ _ _ => rfl) (fun A outer s H E f c' hr => (pe_call (okx_row_ends T) (hr.mono (by decide)) (by rfl) T.g_row_ends T.F_row_ends.kp T.b_row_ends .nil (passes_call (takes_of rfl rfl rfl rfl) fun _ _ _ _ h => h) (pa_cons (pv 16) (pa_cons pe_int pa_nil))))) (pa_cons (pe_tup (pa_cons pe_str (pa_cons (pe_un un_neg pe_int) pa_nil))) pa_nil))))) (pss_one (ps_ret pe_bl)) pss_nil)))
      (pss_one (ps_ret pe_bl)))))), ?_⟩
    rw [show L2.start ["script", "box", "turn", "many", "keys", "steps", "held", "had", "size", "step", "key", "due", "row", "free", "full", "wrong", "bad", "behind"] [.ref a] = [some (.ref a), none, none, none, none, none, none, none, none, none, none, none, none, none, none, none, none, none] from rfl]
    generalize hF1 : tFor _ _ _ = F1
    generalize hS : tSeq (tFor (iSeq K (tLst (tCons (tC .non) _))) _ _) _ = S2
    (try simp only [tVar, tC, tOp, tUn, rI, rI0, rU, rEq, rNe, scal, tTest, tB, tAnd, tOr, tNot, tAndV, tOrV, tNotV, tIf, tChain, tNil, tCons, tCB, tCall, tTup, tLst, tRet, tRetN, tDrop, tSeq, tNext, tIfS, tAsg, gName, tPar, tPar3, gNil, gCons, gTup, gSub, tAug, tSl, tNoPart, tPart, tBM, tBM0, tYes, tIsP, iSeq, iEnumA, RZ.iZipA, iRng1, iRng2, iList, iTup, rIsi, rIsB, rIxL, rIxT, rIxA, rLenA, rListOf, rTupOf, rSetL, rSlL, rCat, rAppend, tFld, sFld, tMake, tBits, Int.ofNat_inj, cast1, cast0, TruV, cxOf, Cx.nox, Cx.wish, tNever, tBreak, tCont, ipI, tDIn, tDNotIn, sDPut, tDNewT, tDNewK, tDGet, rSortedPO, rSortedI, rIn, rEqD, rNeD, rInD, rNotInD, tSSet, rIsV, rIntI, rIntB, rAbsN, tLstRg, tRg1, tRg2, List.append_nil, List.nil_append, List.cons_append, Option.some.injEq, exists_eq_left', exists_eq_left, exists_eq_right, exists_eq_right', List.getElem?_cons_zero, List.getElem?_cons_succ, List.set_cons_zero, List.set_cons_succ, List.cons.injEq, and_true, true_and, exists_and_left, exists_and_right, and_assoc, V.int.injEq, V.bl.injEq, V.ref.injEq, V.str.injEq, reduceCtorEq, decide_true, decide_false, Bool.not_true, Bool.not_false, Bool.false_eq_true, if_false, if_true, ite_true, ite_false, List.length_cons, List.length_nil, tRaise, tErr, LamX.tLam, TTe])
    refine ⟨a, ns, rfl, hs, hn, fun H1 b s1 hb0 hb1 => ?_⟩
    have tb0 : LamX.Tabs [(Pt, lamQ)] H := fun p hp => by
      rw [List.mem_singleton.mp hp]
      exact LamX.TabS.nil hP
    have tb1 := tb0.ext (s1.trans (hbx_le b H1))
    have p2 : ∀ (D : Ends) (H3 : Hp) (y2 y3 y4 y5 y6 y7 y8 y9 y10 y11 y12 y13 y14 y15 y16 y17 : Option V), Bx b H3 → LamX.Tabs [(Pt, lamQ)] H3 → D.rt = Q → S2 D [some (.ref a), some (.ref b), y2, y3, y4, y5, y6, y7, y8, y9, y10, y11, y12, y13, y14, y15, y16, y17] H3 := by
      intro D H3 y2 y3 y4 y5 y6 y7 y8 y9 y10 y11 y12 y13 y14 y15 y16 y17 hb3 tb3 hQ
      subst hS
      generalize hF3 : tSeq (tFor (iSeq K (tLst (tCons (tC .non) (tCons (tC (.int 5)) (tCons (tTup _) tNil))))) _ _) _ = S3
      generalize hF2 : tFor _ _ _ = F2
      (try simp only [tVar, tC, tOp, tUn, rI, rI0, rU, rEq, rNe, scal, tTest, tB, tAnd, tOr, tNot, tAndV, tOrV, tNotV, tIf, tChain, tNil, tCons, tCB, tCall, tTup, tLst, tRet, tRetN, tDrop, tSeq, tNext, tIfS, tAsg, gName, tPar, tPar3, gNil, gCons, gTup, gSub, tAug, tSl, tNoPart, tPart, tBM, tBM0, tYes, tIsP, iSeq, iEnumA, RZ.iZipA, iRng1, iRng2, iList, iTup, rIsi, rIsB, rIxL, rIxT, rIxA, rLenA, rListOf, rTupOf, rSetL, rSlL, rCat, rAppend, tFld, sFld, tMake, tBits, Int.ofNat_inj, cast1, cast0, TruV, cxOf, Cx.nox, Cx.wish, tNever, tBreak, tCont, ipI, tDIn, tDNotIn, sDPut, tDNewT, tDNewK, tDGet, rSortedPO, rSortedI, rIn, rEqD, rNeD, rInD, rNotInD, tSSet, rIsV, rIntI, rIntB, rAbsN, tLstRg, tRg1, tRg2, List.append_nil, List.nil_append, List.cons_append, Option.some.injEq, exists_eq_left', exists_eq_left, exists_eq_right, exists_eq_right', List.getElem?_cons_zero, List.getElem?_cons_succ, List.set_cons_zero, List.set_cons_succ, List.cons.injEq, and_true, true_and, exists_and_left, exists_and_right, and_assoc, V.int.injEq, V.bl.injEq, V.ref.injEq, V.str.injEq, reduceCtorEq, decide_true, decide_false, Bool.not_true, Bool.not_false, Bool.false_eq_true, if_false, if_true, ite_true, ite_false, List.length_cons, List.length_nil, tRaise, tErr, LamX.tLam, TTe])
      have p3 : ∀ (H4 : Hp) (y2 y3 y4 y5 y6 y7 y8 y9 y10 y11 y12 y13 y14 y15 y16 y17 : Option V), LamX.Tabs [(Pt, lamQ)] H4 → S3 D [some (.ref a), some (.ref b), y2, y3, y4, y5, y6, y7, y8, y9, y10, y11, y12, y13, y14, y15, y16, y17] H4 := by
        intro H4 y2 y3 y4 y5 y6 y7 y8 y9 y10 y11 y12 y13 y14 y15 y16 y17 tb4
        subst hF3
        generalize hF4 : tFor _ _ _ = F4
        (try simp only [tVar, tC, tOp, tUn, rI, rI0, rU, rEq, rNe, scal, tTest, tB, tAnd, tOr, tNot, tAndV, tOrV, tNotV, tIf, tChain, tNil, tCons, tCB, tCall, tTup, tLst, tRet, tRetN, tDrop, tSeq, tNext, tIfS, tAsg, gName, tPar, tPar3, gNil, gCons, gTup, gSub, tAug, tSl, tNoPart, tPart, tBM, tBM0, tYes, tIsP, iSeq, iEnumA, RZ.iZipA, iRng1, iRng2, iList, iTup, rIsi, rIsB, rIxL, rIxT, rIxA, rLenA, rListOf, rTupOf, rSetL, rSlL, rCat, rAppend, tFld, sFld, tMake, tBits, Int.ofNat_inj, cast1, cast0, TruV, cxOf, Cx.nox, Cx.wish, tNever, tBreak, tCont, ipI, tDIn, tDNotIn, sDPut, tDNewT, tDNewK, tDGet, rSortedPO, rSortedI, rIn, rEqD, rNeD, rInD, rNotInD, tSSet, rIsV, rIntI, rIntB, rAbsN, tLstRg, tRg1, tRg2, List.append_nil, List.nil_append, List.cons_append, Option.some.injEq, exists_eq_left', exists_eq_left, exists_eq_right, exists_eq_right', List.getElem?_cons_zero, List.getElem?_cons_succ, List.set_cons_zero, List.set_cons_succ, List.cons.injEq, and_true, true_and, exists_and_left, exists_and_right, and_assoc, V.int.injEq, V.bl.injEq, V.ref.injEq, V.str.injEq, reduceCtorEq, decide_true, decide_false, Bool.not_true, Bool.not_false, Bool.false_eq_true, if_false, if_true, ite_true, ite_false, List.length_cons, List.length_nil, tRaise, tErr, LamX.tLam, TTe])
        subst hF4
        refine forSF (fun H1 p => ∃ t u, Same H4 H1 ∧ H1 p = some (.lst [.non, .int 5, .ref t]) ∧ H1 t = some (.tup [.int 3, .ref u])) (fun R h => ?_) fun H1 p ⟨t, u, s1, ep, et⟩ => ?_
        · (try simp only [tVar, tC, tOp, tUn, rI, rI0, rU, rEq, rNe, scal, tTest, tB, tAnd, tOr, tNot, tAndV, tOrV, tNotV, tIf, tChain, tNil, tCons, tCB, tCall, tTup, tLst, tRet, tRetN, tDrop, tSeq, tNext, tIfS, tAsg, gName, tPar, tPar3, gNil, gCons, gTup, gSub, tAug, tSl, tNoPart, tPart, tBM, tBM0, tYes, tIsP, iSeq, iEnumA, RZ.iZipA, iRng1, iRng2, iList, iTup, rIsi, rIsB, rIxL, rIxT, rIxA, rLenA, rListOf, rTupOf, rSetL, rSlL, rCat, rAppend, tFld, sFld, tMake, tBits, Int.ofNat_inj, cast1, cast0, TruV, cxOf, Cx.nox, Cx.wish, tNever, tBreak, tCont, ipI, tDIn, tDNotIn, sDPut, tDNewT, tDNewK, tDGet, rSortedPO, rSortedI, rIn, rEqD, rNeD, rInD, rNotInD, tSSet, rIsV, rIntI, rIntB, rAbsN, tLstRg, tRg1, tRg2, List.append_nil, List.nil_append, List.cons_append, Option.some.injEq, exists_eq_left', exists_eq_left, exists_eq_right, exists_eq_right', List.getElem?_cons_zero, List.getElem?_cons_succ, List.set_cons_zero, List.set_cons_succ, List.cons.injEq, and_true, true_and, exists_and_left, exists_and_right, and_assoc, V.int.injEq, V.bl.injEq, V.ref.injEq, V.str.injEq, reduceCtorEq, decide_true, decide_false, Bool.not_true, Bool.not_false, Bool.false_eq_true, if_false, if_true, ite_true, ite_false, List.length_cons, List.length_nil, tRaise, tErr, LamX.tLam, TTe])
          refine ⟨by decide, fun u hu => ⟨by decide, fun t ht => ⟨by decide, fun p hp => ?_⟩⟩⟩
          have e1 := same_new (o := .tup []) hu
          have e2 := same_new (o := .tup [.int 3, .ref u]) ht
          have e3 := same_new (o := .lst [.non, .int 5, .ref t]) hp
          exact h _ p ⟨t, u, (e1.trans e2).trans e3, upd_same, e3 _ _ upd_same⟩
        · refine ⟨p, _, fun i σ' H' => ∃ z2 z3 z4 z5 z6 z7 z8 z9 z10 z11 z12 z13 z14 z15 z16 z17, σ' = [some (.ref a), some (.ref b), z2, z3, z4, z5, z6, z7, z8, z9, z10, z11, z12, z13, z14, z15, z16, z17] ∧ Same (nt H1) (nt H') ∧ LamX.Tabs [(Pt, lamQ)] H', nt H1, rfl, ⟨_, _, _, _, _, _, _, _, _, _, _, _, _, _, _, _, rfl, Same.refl _, tb4.ext s1⟩, .inl (.of (nt_at ep fun ps z => nomatch z)), fun i σ' H' h => ?_, ?_, ?_⟩
          · obtain ⟨z2, z3, z4, z5, z6, z7, z8, z9, z10, z11, z12, z13, z14, z15, z16, z17, _, sm, _⟩ := h
            exact sm.trans (nt_le H')
          · rintro i x σ' H' hx ⟨z2, z3, z4, z5, z6, z7, z8, z9, z10, z11, z12, z13, z14, z15, z16, z17, rfl, sm, tb⟩
            have key : ∃ ty : Value, PySem.W.kitOne K ty (.ref T.c_Keys) = some false ∧ ∀ G, Same (nt H1) G → TyX K G x ty := by
              have lt : i < 3 := (List.getElem?_eq_some_iff.mp hx).1
              match i, lt, hx with
              | 0, _, hx => cases hx; exact ⟨_, T.ni_N, fun G _ => .base .non⟩
              | 1, _, hx => cases hx; exact ⟨_, T.ni_I, fun G _ => .base (.int _)⟩
              | 2, _, hx => cases hx; exact ⟨_, T.ni_T, fun G sG => tyT (.inl (.inl (sG _ _ (nt_at et fun ps z => nomatch z))))⟩
            obtain ⟨ty, k1, k2⟩ := key
            (try simp only [tVar, tC, tOp, tUn, rI, rI0, rU, rEq, rNe, scal, tTest, tB, tAnd, tOr, tNot, tAndV, tOrV, tNotV, tIf, tChain, tNil, tCons, tCB, tCall, tTup, tLst, tRet, tRetN, tDrop, tSeq, tNext, tIfS, tAsg, gName, tPar, tPar3, gNil, gCons, gTup, gSub, tAug, tSl, tNoPart, tPart, tBM, tBM0, tYes, tIsP, iSeq, iEnumA, RZ.iZipA, iRng1, iRng2, iList, iTup, rIsi, rIsB, rIxL, rIxT, rIxA, rLenA, rListOf, rTupOf, rSetL, rSlL, rCat, rAppend, tFld, sFld, tMake, tBits, Int.ofNat_inj, cast1, cast0, TruV, cxOf, Cx.nox, Cx.wish, tNever, tBreak, tCont, ipI, tDIn, tDNotIn, sDPut, tDNewT, tDNewK, tDGet, rSortedPO, rSortedI, rIn, rEqD, rNeD, rInD, rNotInD, tSSet, rIsV, rIntI, rIntB, rAbsN, tLstRg, tRg1, tRg2, List.append_nil, List.nil_append, List.cons_append, Option.some.injEq, exists_eq_left', exists_eq_left, exists_eq_right, exists_eq_right', List.getElem?_cons_zero, List.getElem?_cons_succ, List.set_cons_zero, List.set_cons_succ, List.cons.injEq, and_true, true_and, exists_and_left, exists_and_right, and_assoc, V.int.injEq, V.bl.injEq, V.ref.injEq, V.str.injEq, reduceCtorEq, decide_true, decide_false, Bool.not_true, Bool.not_false, Bool.false_eq_true, if_false, if_true, ite_true, ite_false, List.length_cons, List.length_nil, tRaise, tErr, LamX.tLam, TTe])
            refine ⟨tb, fun H5 e5 tb5 => ?_⟩
            have s5 : Same (nt H1) (nt H5) := sm.trans (nt_ext e5)
            refine ⟨x, .int 5, rfl, .inl ⟨ty, TyX.same (nt_le H5) (k2 _ s5), k1, fun d hd => ?_⟩⟩
            refine ans_keys T hd fun H8 p8 s8 e8 => ?_
            refine ⟨by decide, fun p9 hp9 => ?_⟩
            have s9 := same_new (o := .tup [.str (Str.ofString "keys"), .int (-1)]) hp9
            refine ⟨_, _, rfl, TD.strint (s9 _ _ e8) upd_same, fun H10 s10 => ?_⟩
            (try simp only [tVar, tC, tOp, tUn, rI, rI0, rU, rEq, rNe, scal, tTest, tB, tAnd, tOr, tNot, tAndV, tOrV, tNotV, tIf, tChain, tNil, tCons, tCB, tCall, tTup, tLst, tRet, tRetN, tDrop, tSeq, tNext, tIfS, tAsg, gName, tPar, tPar3, gNil, gCons, gTup, gSub, tAug, tSl, tNoPart, tPart, tBM, tBM0, tYes, tIsP, iSeq, iEnumA, RZ.iZipA, iRng1, iRng2, iList, iTup, rIsi, rIsB, rIxL, rIxT, rIxA, rLenA, rListOf, rTupOf, rSetL, rSlL, rCat, rAppend, tFld, sFld, tMake, tBits, Int.ofNat_inj, cast1, cast0, TruV, cxOf, Cx.nox, Cx.wish, tNever, tBreak, tCont, ipI, tDIn, tDNotIn, sDPut, tDNewT, tDNewK, tDGet, rSortedPO, rSortedI, rIn, rEqD, rNeD, rInD, rNotInD, tSSet, rIsV, rIntI, rIntB, rAbsN, tLstRg, tRg1, tRg2, List.append_nil, List.nil_append, List.cons_append, Option.some.injEq, exists_eq_left', exists_eq_left, exists_eq_right, exists_eq_right', List.getElem?_cons_zero, List.getElem?_cons_succ, List.set_cons_zero, List.set_cons_succ, List.cons.injEq, and_true, true_and, exists_and_left, exists_and_right, and_assoc, V.int.injEq, V.bl.injEq, V.ref.injEq, V.str.injEq, reduceCtorEq, decide_true, decide_false, Bool.not_true, Bool.not_false, Bool.false_eq_true, if_false, if_true, ite_true, ite_false, List.length_cons, List.length_nil, tRaise, tErr, LamX.tLam, TTe])
            have s59 := (s8.trans s9).trans s10
            exact ⟨s5.trans (nt_mono s59), tb5.ext s59⟩
          · rintro σ' H' ⟨z2, z3, z4, z5, z6, z7, z8, z9, z10, z11, z12, z13, z14, z15, z16, z17, rfl, sm, tb⟩
            (try simp only [tVar, tC, tOp, tUn, rI, rI0, rU, rEq, rNe, scal, tTest, tB, tAnd, tOr, tNot, tAndV, tOrV, tNotV, tIf, tChain, tNil, tCons, tCB, tCall, tTup, tLst, tRet, tRetN, tDrop, tSeq, tNext, tIfS, tAsg, gName, tPar, tPar3, gNil, gCons, gTup, gSub, tAug, tSl, tNoPart, tPart, tBM, tBM0, tYes, tIsP, iSeq, iEnumA, RZ.iZipA, iRng1, iRng2, iList, iTup, rIsi, rIsB, rIxL, rIxT, rIxA, rLenA, rListOf, rTupOf, rSetL, rSlL, rCat, rAppend, tFld, sFld, tMake, tBits, Int.ofNat_inj, cast1, cast0, TruV, cxOf, Cx.nox, Cx.wish, tNever, tBreak, tCont, ipI, tDIn, tDNotIn, sDPut, tDNewT, tDNewK, tDGet, rSortedPO, rSortedI, rIn, rEqD, rNeD, rInD, rNotInD, tSSet, rIsV, rIntI, rIntB, rAbsN, tLstRg, tRg1, tRg2, List.append_nil, List.nil_append, List.cons_append, Option.some.injEq, exists_eq_left', exists_eq_left, exists_eq_right, exists_eq_right', List.getElem?_cons_zero, List.getElem?_cons_succ, List.set_cons_zero, List.set_cons_succ, List.cons.injEq, and_true, true_and, exists_and_left, exists_and_right, and_assoc, V.int.injEq, V.bl.injEq, V.ref.injEq, V.str.injEq, reduceCtorEq, decide_true, decide_false, Bool.not_true, Bool.not_false, Bool.false_eq_true, if_false, if_true, ite_true, ite_false, List.length_cons, List.length_nil, tRaise, tErr, LamX.tLam, TTe])
            rw [hQ]
            exact q _
      subst hF2
      refine forSF (fun H1 p => ∃ d t, Same H3 H1 ∧ H1 p = some (.lst [.non, .int 5, .str (Str.ofString "take"), .ref d, .ref t]) ∧ H1 d = some (.dK []) ∧ H1 t = some (.tup [.str (Str.ofString "take"), .int 0])) (fun R h => ?_) fun H1 p ⟨d, t, s1, ep, ed, et⟩ => ?_
      · (try simp only [tVar, tC, tOp, tUn, rI, rI0, rU, rEq, rNe, scal, tTest, tB, tAnd, tOr, tNot, tAndV, tOrV, tNotV, tIf, tChain, tNil, tCons, tCB, tCall, tTup, tLst, tRet, tRetN, tDrop, tSeq, tNext, tIfS, tAsg, gName, tPar, tPar3, gNil, gCons, gTup, gSub, tAug, tSl, tNoPart, tPart, tBM, tBM0, tYes, tIsP, iSeq, iEnumA, RZ.iZipA, iRng1, iRng2, iList, iTup, rIsi, rIsB, rIxL, rIxT, rIxA, rLenA, rListOf, rTupOf, rSetL, rSlL, rCat, rAppend, tFld, sFld, tMake, tBits, Int.ofNat_inj, cast1, cast0, TruV, cxOf, Cx.nox, Cx.wish, tNever, tBreak, tCont, ipI, tDIn, tDNotIn, sDPut, tDNewT, tDNewK, tDGet, rSortedPO, rSortedI, rIn, rEqD, rNeD, rInD, rNotInD, tSSet, rIsV, rIntI, rIntB, rAbsN, tLstRg, tRg1, tRg2, List.append_nil, List.nil_append, List.cons_append, Option.some.injEq, exists_eq_left', exists_eq_left, exists_eq_right, exists_eq_right', List.getElem?_cons_zero, List.getElem?_cons_succ, List.set_cons_zero, List.set_cons_succ, List.cons.injEq, and_true, true_and, exists_and_left, exists_and_right, and_assoc, V.int.injEq, V.bl.injEq, V.ref.injEq, V.str.injEq, reduceCtorEq, decide_true, decide_false, Bool.not_true, Bool.not_false, Bool.false_eq_true, if_false, if_true, ite_true, ite_false, List.length_cons, List.length_nil, tRaise, tErr, LamX.tLam, TTe])
        refine fun d hd => ⟨by decide, fun t ht => ⟨by decide, fun p hp => ?_⟩⟩
        have e1 := same_new (o := .dK []) hd
        have e2 := same_new (o := .tup [.str (Str.ofString "take"), .int 0]) ht
        have e3 := same_new (o := .lst [.non, .int 5, .str (Str.ofString "take"), .ref d, .ref t]) hp
        exact h _ p ⟨d, t, (e1.trans e2).trans e3, upd_same, e3 _ _ (e2 _ _ upd_same), e3 _ _ upd_same⟩
      · refine ⟨p, _, fun i σ' H' => ∃ z2 z3 z4 z5 z6 z7 z8 z9 z10 z11 z12 z13 z14 z15 z16 z17, σ' = [some (.ref a), some (.ref b), z2, z3, z4, z5, z6, z7, z8, z9, z10, z11, z12, z13, z14, z15, z16, z17] ∧ Same (nt H1) (nt H') ∧ LamX.Tabs [(Pt, lamQ)] H', nt H1, rfl, ⟨_, _, _, _, _, _, _, _, _, _, _, _, _, _, _, _, rfl, Same.refl _, tb3.ext s1⟩, .inl (.of (nt_at ep fun ps z => nomatch z)), fun i σ' H' h => ?_, ?_, ?_⟩
        · obtain ⟨z2, z3, z4, z5, z6, z7, z8, z9, z10, z11, z12, z13, z14, z15, z16, z17, _, sm, _⟩ := h
          exact sm.trans (nt_le H')
        · rintro i x σ' H' hx ⟨z2, z3, z4, z5, z6, z7, z8, z9, z10, z11, z12, z13, z14, z15, z16, z17, rfl, sm, tb⟩
          have key : ∃ (ty : Value) (bb : Bool) (v : Int), TyX K H' x ty ∧ PySem.W.kitOne K ty (.type "tuple") = some bb ∧ (v = if bb = true then 0 else -1) ∧ ∀ G, Same (nt H1) G → RowIs K G 3 x (some v, 0, 0) := by
            have lt : i < 5 := (List.getElem?_eq_some_iff.mp hx).1
            match i, lt, hx with
            | 0, _, hx => cases hx; exact ⟨_, false, -1, .base .non, kit_ty (by decide +kernel), rfl, fun G _ => .noSeq (.base .non) (kit2 (kit_ty (by decide +kernel)) (kit_ty (by decide +kernel)))⟩
            | 1, _, hx => cases hx; exact ⟨_, false, -1, .base (.int _), kit_ty (by decide +kernel), rfl, fun G _ => .noSeq (.base (.int _)) (kit2 (kit_ty (by decide +kernel)) (kit_ty (by decide +kernel)))⟩
            | 2, _, hx => cases hx; exact ⟨_, false, -1, .base (.str _), kit_ty (by decide +kernel), rfl, fun G _ => .noSeq (.base (.str _)) (kit2 (kit_ty (by decide +kernel)) (kit_ty (by decide +kernel)))⟩
            | 3, _, hx =>
              cases hx
              have ed' := nt_at ed fun ps z => nomatch z
              exact ⟨_, false, -1, .base (.dK (nt_le _ _ _ (sm _ _ ed'))), kit_ty (by decide +kernel), rfl, fun G sG => .noSeq (.base (.dK (sG _ _ ed'))) (kit2 (kit_ty (by decide +kernel)) (kit_ty (by decide +kernel)))⟩
            | 4, _, hx =>
              cases hx
              have et' := nt_at et fun ps z => nomatch z
              refine ⟨_, true, 0, tyT (.inl (.inl (nt_le _ _ _ (sm _ _ et')))), kit_ty (by decide +kernel), rfl, fun G sG => ?_⟩
              refine RowIs.row (os := [none, none]) (.inr (.inl (.inl (sG _ _ et')))) (by decide) rfl fun j y o e1 e2 => ?_
              match j, e1, e2 with
              | 0, e1, e2 => cases e1; cases e2; exact .noSeq (.base (.str _)) (kit2 (kit_ty (by decide +kernel)) (kit_ty (by decide +kernel)))
              | 1, e1, e2 => cases e1; cases e2; exact .noSeq (.base (.int _)) (kit2 (kit_ty (by decide +kernel)) (kit_ty (by decide +kernel)))
          obtain ⟨ty, bb, v, k1, k2, k3, k4⟩ := key
          (try simp only [tVar, tC, tOp, tUn, rI, rI0, rU, rEq, rNe, scal, tTest, tB, tAnd, tOr, tNot, tAndV, tOrV, tNotV, tIf, tChain, tNil, tCons, tCB, tCall, tTup, tLst, tRet, tRetN, tDrop, tSeq, tNext, tIfS, tAsg, gName, tPar, tPar3, gNil, gCons, gTup, gSub, tAug, tSl, tNoPart, tPart, tBM, tBM0, tYes, tIsP, iSeq, iEnumA, RZ.iZipA, iRng1, iRng2, iList, iTup, rIsi, rIsB, rIxL, rIxT, rIxA, rLenA, rListOf, rTupOf, rSetL, rSlL, rCat, rAppend, tFld, sFld, tMake, tBits, Int.ofNat_inj, cast1, cast0, TruV, cxOf, Cx.nox, Cx.wish, tNever, tBreak, tCont, ipI, tDIn, tDNotIn, sDPut, tDNewT, tDNewK, tDGet, rSortedPO, rSortedI, rIn, rEqD, rNeD, rInD, rNotInD, tSSet, rIsV, rIntI, rIntB, rAbsN, tLstRg, tRg1, tRg2, List.append_nil, List.nil_append, List.cons_append, Option.some.injEq, exists_eq_left', exists_eq_left, exists_eq_right, exists_eq_right', List.getElem?_cons_zero, List.getElem?_cons_succ, List.set_cons_zero, List.set_cons_succ, List.cons.injEq, and_true, true_and, exists_and_left, exists_and_right, and_assoc, V.int.injEq, V.bl.injEq, V.ref.injEq, V.str.injEq, reduceCtorEq, decide_true, decide_false, Bool.not_true, Bool.not_false, Bool.false_eq_true, if_false, if_true, ite_true, ite_false, List.length_cons, List.length_nil, tRaise, tErr, LamX.tLam, TTe])
          refine ⟨_, _, .ty "tuple", k1, bb, k2, ?_⟩
          cases bb
          · refine iteF ⟨by decide, fun p hp => ⟨tb.ext (same_new hp), fun H5 e5 tb5 => ?_⟩⟩
            have s5 : Same (nt H1) (nt H5) := (sm.trans (nt_mono (same_new hp))).trans (nt_ext e5)
            refine ⟨3, rfl, by decide, fun H6 k qs s6 hk6 pm6 => ?_⟩
            (try simp only [tVar, tC, tOp, tUn, rI, rI0, rU, rEq, rNe, scal, tTest, tB, tAnd, tOr, tNot, tAndV, tOrV, tNotV, tIf, tChain, tNil, tCons, tCB, tCall, tTup, tLst, tRet, tRetN, tDrop, tSeq, tNext, tIfS, tAsg, gName, tPar, tPar3, gNil, gCons, gTup, gSub, tAug, tSl, tNoPart, tPart, tBM, tBM0, tYes, tIsP, iSeq, iEnumA, RZ.iZipA, iRng1, iRng2, iList, iTup, rIsi, rIsB, rIxL, rIxT, rIxA, rLenA, rListOf, rTupOf, rSetL, rSlL, rCat, rAppend, tFld, sFld, tMake, tBits, Int.ofNat_inj, cast1, cast0, TruV, cxOf, Cx.nox, Cx.wish, tNever, tBreak, tCont, ipI, tDIn, tDNotIn, sDPut, tDNewT, tDNewK, tDGet, rSortedPO, rSortedI, rIn, rEqD, rNeD, rInD, rNotInD, tSSet, rIsV, rIntI, rIntB, rAbsN, tLstRg, tRg1, tRg2, List.append_nil, List.nil_append, List.cons_append, Option.some.injEq, exists_eq_left', exists_eq_left, exists_eq_right, exists_eq_right', List.getElem?_cons_zero, List.getElem?_cons_succ, List.set_cons_zero, List.set_cons_succ, List.cons.injEq, and_true, true_and, exists_and_left, exists_and_right, and_assoc, V.int.injEq, V.bl.injEq, V.ref.injEq, V.str.injEq, reduceCtorEq, decide_true, decide_false, Bool.not_true, Bool.not_false, Bool.false_eq_true, if_false, if_true, ite_true, ite_false, List.length_cons, List.length_nil, tRaise, tErr, LamX.tLam, TTe])
            refine ⟨_, x, rfl, .inr ⟨k, 3, qs, _, rfl, hk6, by decide, k4 H6 (s5.trans ((nt_le H5).trans s6)), ⟨(show (0 : Nat) < 2 ^ 62 by decide), (show (0 : Nat) < 2 ^ 62 by decide)⟩, fun i2 e2 H7 d7 s7 hd7 => ?_, fun z => nomatch z⟩⟩
            have e3 : v = i2 := Option.some.inj e2
            refine ans_row T hd7 fun H8 p8 s8 e8 => ?_
            have ep8 := s8 _ _ (s7 _ _ (s6 _ _ (e5 p _ upd_same fun ps z => nomatch z)))
            rw [← e3, k3] at e8
            refine ⟨_, _, rfl, TD.strint e8 ep8, fun H9 s9 => ?_⟩
            (try simp only [tVar, tC, tOp, tUn, rI, rI0, rU, rEq, rNe, scal, tTest, tB, tAnd, tOr, tNot, tAndV, tOrV, tNotV, tIf, tChain, tNil, tCons, tCB, tCall, tTup, tLst, tRet, tRetN, tDrop, tSeq, tNext, tIfS, tAsg, gName, tPar, tPar3, gNil, gCons, gTup, gSub, tAug, tSl, tNoPart, tPart, tBM, tBM0, tYes, tIsP, iSeq, iEnumA, RZ.iZipA, iRng1, iRng2, iList, iTup, rIsi, rIsB, rIxL, rIxT, rIxA, rLenA, rListOf, rTupOf, rSetL, rSlL, rCat, rAppend, tFld, sFld, tMake, tBits, Int.ofNat_inj, cast1, cast0, TruV, cxOf, Cx.nox, Cx.wish, tNever, tBreak, tCont, ipI, tDIn, tDNotIn, sDPut, tDNewT, tDNewK, tDGet, rSortedPO, rSortedI, rIn, rEqD, rNeD, rInD, rNotInD, tSSet, rIsV, rIntI, rIntB, rAbsN, tLstRg, tRg1, tRg2, List.append_nil, List.nil_append, List.cons_append, Option.some.injEq, exists_eq_left', exists_eq_left, exists_eq_right, exists_eq_right', List.getElem?_cons_zero, List.getElem?_cons_succ, List.set_cons_zero, List.set_cons_succ, List.cons.injEq, and_true, true_and, exists_and_left, exists_and_right, and_assoc, V.int.injEq, V.bl.injEq, V.ref.injEq, V.str.injEq, reduceCtorEq, decide_true, decide_false, Bool.not_true, Bool.not_false, Bool.false_eq_true, if_false, if_true, ite_true, ite_false, List.length_cons, List.length_nil, tRaise, tErr, LamX.tLam, TTe])
            have s59 := ((s6.trans s7).trans s8).trans s9
            exact ⟨s5.trans (nt_mono s59), tb5.ext s59⟩
          · refine iteT ⟨by decide, fun p hp => ⟨tb.ext (same_new hp), fun H5 e5 tb5 => ?_⟩⟩
            have s5 : Same (nt H1) (nt H5) := (sm.trans (nt_mono (same_new hp))).trans (nt_ext e5)
            refine ⟨3, rfl, by decide, fun H6 k qs s6 hk6 pm6 => ?_⟩
            (try simp only [tVar, tC, tOp, tUn, rI, rI0, rU, rEq, rNe, scal, tTest, tB, tAnd, tOr, tNot, tAndV, tOrV, tNotV, tIf, tChain, tNil, tCons, tCB, tCall, tTup, tLst, tRet, tRetN, tDrop, tSeq, tNext, tIfS, tAsg, gName, tPar, tPar3, gNil, gCons, gTup, gSub, tAug, tSl, tNoPart, tPart, tBM, tBM0, tYes, tIsP, iSeq, iEnumA, RZ.iZipA, iRng1, iRng2, iList, iTup, rIsi, rIsB, rIxL, rIxT, rIxA, rLenA, rListOf, rTupOf, rSetL, rSlL, rCat, rAppend, tFld, sFld, tMake, tBits, Int.ofNat_inj, cast1, cast0, TruV, cxOf, Cx.nox, Cx.wish, tNever, tBreak, tCont, ipI, tDIn, tDNotIn, sDPut, tDNewT, tDNewK, tDGet, rSortedPO, rSortedI, rIn, rEqD, rNeD, rInD, rNotInD, tSSet, rIsV, rIntI, rIntB, rAbsN, tLstRg, tRg1, tRg2, List.append_nil, List.nil_append, List.cons_append, Option.some.injEq, exists_eq_left', exists_eq_left, exists_eq_right, exists_eq_right', List.getElem?_cons_zero, List.getElem?_cons_succ, List.set_cons_zero, List.set_cons_succ, List.cons.injEq, and_true, true_and, exists_and_left, exists_and_right, and_assoc, V.int.injEq, V.bl.injEq, V.ref.injEq, V.str.injEq, reduceCtorEq, decide_true, decide_false, Bool.not_true, Bool.not_false, Bool.false_eq_true, if_false, if_true, ite_true, ite_false, List.length_cons, List.length_nil, tRaise, tErr, LamX.tLam, TTe])
            refine ⟨_, x, rfl, .inr ⟨k, 3, qs, _, rfl, hk6, by decide, k4 H6 (s5.trans ((nt_le H5).trans s6)), ⟨(show (0 : Nat) < 2 ^ 62 by decide), (show (0 : Nat) < 2 ^ 62 by decide)⟩, fun i2 e2 H7 d7 s7 hd7 => ?_, fun z => nomatch z⟩⟩
            have e3 : v = i2 := Option.some.inj e2
            refine ans_row T hd7 fun H8 p8 s8 e8 => ?_
            have ep8 := s8 _ _ (s7 _ _ (s6 _ _ (e5 p _ upd_same fun ps z => nomatch z)))
            rw [← e3, k3] at e8
            refine ⟨_, _, rfl, TD.strint e8 ep8, fun H9 s9 => ?_⟩
            (try simp only [tVar, tC, tOp, tUn, rI, rI0, rU, rEq, rNe, scal, tTest, tB, tAnd, tOr, tNot, tAndV, tOrV, tNotV, tIf, tChain, tNil, tCons, tCB, tCall, tTup, tLst, tRet, tRetN, tDrop, tSeq, tNext, tIfS, tAsg, gName, tPar, tPar3, gNil, gCons, gTup, gSub, tAug, tSl, tNoPart, tPart, tBM, tBM0, tYes, tIsP, iSeq, iEnumA, RZ.iZipA, iRng1, iRng2, iList, iTup, rIsi, rIsB, rIxL, rIxT, rIxA, rLenA, rListOf, rTupOf, rSetL, rSlL, rCat, rAppend, tFld, sFld, tMake, tBits, Int.ofNat_inj, cast1, cast0, TruV, cxOf, Cx.nox, Cx.wish, tNever, tBreak, tCont, ipI, tDIn, tDNotIn, sDPut, tDNewT, tDNewK, tDGet, rSortedPO, rSortedI, rIn, rEqD, rNeD, rInD, rNotInD, tSSet, rIsV, rIntI, rIntB, rAbsN, tLstRg, tRg1, tRg2, List.append_nil, List.nil_append, List.cons_append, Option.some.injEq, exists_eq_left', exists_eq_left, exists_eq_right, exists_eq_right', List.getElem?_cons_zero, List.getElem?_cons_succ, List.set_cons_zero, List.set_cons_succ, List.cons.injEq, and_true, true_and, exists_and_left, exists_and_right, and_assoc, V.int.injEq, V.bl.injEq, V.ref.injEq, V.str.injEq, reduceCtorEq, decide_true, decide_false, Bool.not_true, Bool.not_false, Bool.false_eq_true, if_false, if_true, ite_true, ite_false, List.length_cons, List.length_nil, tRaise, tErr, LamX.tLam, TTe])
            have s59 := ((s6.trans s7).trans s8).trans s9
            exact ⟨s5.trans (nt_mono s59), tb5.ext s59⟩
        · rintro σ' H' ⟨z2, z3, z4, z5, z6, z7, z8, z9, z10, z11, z12, z13, z14, z15, z16, z17, rfl, sm, tb⟩
          exact p3 _ _ _ _ _ _ _ _ _ _ _ _ _ _ _ _ _ tb
    subst hF1
    refine forR1 5 (fun i σ' H' => ∃ y2 y3 y4 y5 y6 y7 y8 y9 y10 y11 y12 y13 y14 y15 y16 y17, σ' = [some (.ref a), some (.ref b), y2, y3, y4, y5, y6, y7, y8, y9, y10, y11, y12, y13, y14, y15, y16, y17] ∧ Bx b H' ∧ LamX.Tabs [(Pt, lamQ)] H') (fun R h => ?_) (by decide) ⟨_, _, _, _, _, _, _, _, _, _, _, _, _, _, _, _, rfl, hb1, tb1⟩ ?_ ?_
    · (try simp only [tVar, tC, tOp, tUn, rI, rI0, rU, rEq, rNe, scal, tTest, tB, tAnd, tOr, tNot, tAndV, tOrV, tNotV, tIf, tChain, tNil, tCons, tCB, tCall, tTup, tLst, tRet, tRetN, tDrop, tSeq, tNext, tIfS, tAsg, gName, tPar, tPar3, gNil, gCons, gTup, gSub, tAug, tSl, tNoPart, tPart, tBM, tBM0, tYes, tIsP, iSeq, iEnumA, RZ.iZipA, iRng1, iRng2, iList, iTup, rIsi, rIsB, rIxL, rIxT, rIxA, rLenA, rListOf, rTupOf, rSetL, rSlL, rCat, rAppend, tFld, sFld, tMake, tBits, Int.ofNat_inj, cast1, cast0, TruV, cxOf, Cx.nox, Cx.wish, tNever, tBreak, tCont, ipI, tDIn, tDNotIn, sDPut, tDNewT, tDNewK, tDGet, rSortedPO, rSortedI, rIn, rEqD, rNeD, rInD, rNotInD, tSSet, rIsV, rIntI, rIntB, rAbsN, tLstRg, tRg1, tRg2, List.append_nil, List.nil_append, List.cons_append, Option.some.injEq, exists_eq_left', exists_eq_left, exists_eq_right, exists_eq_right', List.getElem?_cons_zero, List.getElem?_cons_succ, List.set_cons_zero, List.set_cons_succ, List.cons.injEq, and_true, true_and, exists_and_left, exists_and_right, and_assoc, V.int.injEq, V.bl.injEq, V.ref.injEq, V.str.injEq, reduceCtorEq, decide_true, decide_false, Bool.not_true, Bool.not_false, Bool.false_eq_true, if_false, if_true, ite_true, ite_false, List.length_cons, List.length_nil, tRaise, tErr, LamX.tLam, TTe])
      exact h
    · rintro i σ' H2 hi ⟨y2, y3, y4, y5, y6, y7, y8, y9, y10, y11, y12, y13, y14, y15, y16, y17, rfl, hb2, tb2⟩
      generalize hS5 : tSeq (tAsg (tTup (tCons (tCall (sp_law_lot K) _ _ _) _)) (gName 11)) _ = S5
      generalize hF4 : tFor _ (gName 9) _ = F4
      (try simp only [tVar, tC, tOp, tUn, rI, rI0, rU, rEq, rNe, scal, tTest, tB, tAnd, tOr, tNot, tAndV, tOrV, tNotV, tIf, tChain, tNil, tCons, tCB, tCall, tTup, tLst, tRet, tRetN, tDrop, tSeq, tNext, tIfS, tAsg, gName, tPar, tPar3, gNil, gCons, gTup, gSub, tAug, tSl, tNoPart, tPart, tBM, tBM0, tYes, tIsP, iSeq, iEnumA, RZ.iZipA, iRng1, iRng2, iList, iTup, rIsi, rIsB, rIxL, rIxT, rIxA, rLenA, rListOf, rTupOf, rSetL, rSlL, rCat, rAppend, tFld, sFld, tMake, tBits, Int.ofNat_inj, cast1, cast0, TruV, cxOf, Cx.nox, Cx.wish, tNever, tBreak, tCont, ipI, tDIn, tDNotIn, sDPut, tDNewT, tDNewK, tDGet, rSortedPO, rSortedI, rIn, rEqD, rNeD, rInD, rNotInD, tSSet, rIsV, rIntI, rIntB, rAbsN, tLstRg, tRg1, tRg2, List.append_nil, List.nil_append, List.cons_append, Option.some.injEq, exists_eq_left', exists_eq_left, exists_eq_right, exists_eq_right', List.getElem?_cons_zero, List.getElem?_cons_succ, List.set_cons_zero, List.set_cons_succ, List.cons.injEq, and_true, true_and, exists_and_left, exists_and_right, and_assoc, V.int.injEq, V.bl.injEq, V.ref.injEq, V.str.injEq, reduceCtorEq, decide_true, decide_false, Bool.not_true, Bool.not_false, Bool.false_eq_true, if_false, if_true, ite_true, ite_false, List.length_cons, List.length_nil, tRaise, tErr, LamX.tLam, TTe])
      refine ⟨b, 12, rfl, by decide, hb2, fun H3 n0 s3 hb3 hn0 => ?_⟩
      (try simp only [tVar, tC, tOp, tUn, rI, rI0, rU, rEq, rNe, scal, tTest, tB, tAnd, tOr, tNot, tAndV, tOrV, tNotV, tIf, tChain, tNil, tCons, tCB, tCall, tTup, tLst, tRet, tRetN, tDrop, tSeq, tNext, tIfS, tAsg, gName, tPar, tPar3, gNil, gCons, gTup, gSub, tAug, tSl, tNoPart, tPart, tBM, tBM0, tYes, tIsP, iSeq, iEnumA, RZ.iZipA, iRng1, iRng2, iList, iTup, rIsi, rIsB, rIxL, rIxT, rIxA, rLenA, rListOf, rTupOf, rSetL, rSlL, rCat, rAppend, tFld, sFld, tMake, tBits, Int.ofNat_inj, cast1, cast0, TruV, cxOf, Cx.nox, Cx.wish, tNever, tBreak, tCont, ipI, tDIn, tDNotIn, sDPut, tDNewT, tDNewK, tDGet, rSortedPO, rSortedI, rIn, rEqD, rNeD, rInD, rNotInD, tSSet, rIsV, rIntI, rIntB, rAbsN, tLstRg, tRg1, tRg2, List.append_nil, List.nil_append, List.cons_append, Option.some.injEq, exists_eq_left', exists_eq_left, exists_eq_right, exists_eq_right', List.getElem?_cons_zero, List.getElem?_cons_succ, List.set_cons_zero, List.set_cons_succ, List.cons.injEq, and_true, true_and, exists_and_left, exists_and_right, and_assoc, V.int.injEq, V.bl.injEq, V.ref.injEq, V.str.injEq, reduceCtorEq, decide_true, decide_false, Bool.not_true, Bool.not_false, Bool.false_eq_true, if_false, if_true, ite_true, ite_false, List.length_cons, List.length_nil, tRaise, tErr, LamX.tLam, TTe])
      simp only [show (1 : Int) + (n0 : Int) = ((n0 + 1 : Nat) : Int) by omega]
      refine ⟨b, n0 + 1, rfl, ⟨by omega, by omega⟩, hb3, fun H4 t xs ps s4 hb4 ht0 ht hps hgp hln x dx hx hdx hne => ?_⟩
      (try simp only [tVar, tC, tOp, tUn, rI, rI0, rU, rEq, rNe, scal, tTest, tB, tAnd, tOr, tNot, tAndV, tOrV, tNotV, tIf, tChain, tNil, tCons, tCB, tCall, tTup, tLst, tRet, tRetN, tDrop, tSeq, tNext, tIfS, tAsg, gName, tPar, tPar3, gNil, gCons, gTup, gSub, tAug, tSl, tNoPart, tPart, tBM, tBM0, tYes, tIsP, iSeq, iEnumA, RZ.iZipA, iRng1, iRng2, iList, iTup, rIsi, rIsB, rIxL, rIxT, rIxA, rLenA, rListOf, rTupOf, rSetL, rSlL, rCat, rAppend, tFld, sFld, tMake, tBits, Int.ofNat_inj, cast1, cast0, TruV, cxOf, Cx.nox, Cx.wish, tNever, tBreak, tCont, ipI, tDIn, tDNotIn, sDPut, tDNewT, tDNewK, tDGet, rSortedPO, rSortedI, rIn, rEqD, rNeD, rInD, rNotInD, tSSet, rIsV, rIntI, rIntB, rAbsN, tLstRg, tRg1, tRg2, List.append_nil, List.nil_append, List.cons_append, Option.some.injEq, exists_eq_left', exists_eq_left, exists_eq_right, exists_eq_right', List.getElem?_cons_zero, List.getElem?_cons_succ, List.set_cons_zero, List.set_cons_succ, List.cons.injEq, and_true, true_and, exists_and_left, exists_and_right, and_assoc, V.int.injEq, V.bl.injEq, V.ref.injEq, V.str.injEq, reduceCtorEq, decide_true, decide_false, Bool.not_true, Bool.not_false, Bool.false_eq_true, if_false, if_true, ite_true, ite_false, List.length_cons, List.length_nil, tRaise, tErr, LamX.tLam, TTe])
      have tb4 : LamX.Tabs [(Pt, lamQ)] H4 := hb3.tabs (hb2.tabs tb2 s3) s4
      have e2 : Same H4 (upd (upd H4 dx (.own x)) x (.ins T.c_Keys dx [])) := (same_new hdx).trans (same_new (by rw [upd_ne (Ne.symm hne)]; exact hx))
      refine ⟨x, dx, t, xs, ps, n0 + 1, rfl, upd_same, ⟨by omega, by omega⟩, .inl (.inl (.inl (e2 _ _ (hbx_le _ _ _ _ ht)))), (hps.same (hbx_le b H4)).same e2, hgp, by omega, fun H5 qs kp ka pe _ => ⟨rfl, ?_⟩⟩
      have s5 : Same H4 H5 := fun a o h => kp a o (ne_of_none h hx) (e2 _ _ h)
      refine ⟨by decide, fun L hL => ⟨by decide, fun z hz => ⟨_, .of upd_same, rfl, _, _, rfl, _, _, rfl, _, _, rfl, rfl, ?_⟩⟩⟩
      generalize hH6 : upd (upd H5 L (.lst [])) z (.tup [.ref L, .int 0, .int 0]) = H6
      have e56 : Same H5 H6 := by
        rw [← hH6]
        exact (same_new hL).trans (same_new hz)
      have eL6 : H6 L = some (.lst []) := by
        rw [← hH6]
        exact same_new hz _ _ upd_same
      have hb5 := hb4.same s5
      have hb6 := hb5.same e56
      have tb6 := (tb4.ext s5).ext e56
      have vL6 := hb5.vis_new e56 hL eL6 fun ps z => nomatch z
      have hk6 := (ka.same e56).vis hb6
      have pk : ∀ (F : V → Hp → Prop) (p : Addr) (v0 : Nat), H6 p = none → (v0 = 1000 ∨ v0 = 3) → (∀ (H8 : Hp) (size : Nat), Same (vis b H6) (vis b H8) → Bx b H8 → LamX.Tabs [(Pt, lamQ)] H8 → (size = 1000 ∨ size ≤ 199) → F (nv size) H8) →
          sp_law_pick K [.ref b, .ref p] (upd H6 p (.lst [.int 0, .int 1, .int 7, .int 40, .int 199, nv v0])) F E0 := by
        intro F p v0 hp hv hF
        have e7 := same_new (o := .lst [.int 0, .int 1, .int 7, .int 40, .int 199, nv v0]) hp
        have hb7 := hb6.same e7
        refine ⟨b, p, _, rfl, .inl (.inl (.inl (hb6.new e7 hp upd_same))), ⟨by simp, by simp⟩, hb7, fun H8 kk v s8 hb8 hv8 => ?_⟩
        have key : ∃ size : Nat, v = nv size ∧ (size = 1000 ∨ size ≤ 199) := by
          have lt : kk < 6 := (List.getElem?_eq_some_iff.mp hv8).1
          match kk, lt, hv8 with
          | 0, _, e => cases e; exact ⟨0, rfl, .inr (by decide)⟩
          | 1, _, e => cases e; exact ⟨1, rfl, .inr (by decide)⟩
          | 2, _, e => cases e; exact ⟨7, rfl, .inr (by decide)⟩
          | 3, _, e => cases e; exact ⟨40, rfl, .inr (by decide)⟩
          | 4, _, e => cases e; exact ⟨199, rfl, .inr (by decide)⟩
          | 5, _, e => cases e; exact ⟨v0, rfl, by omega⟩
        obtain ⟨size, rfl, h⟩ := key
        exact hF H8 size ((hb6.visM e7).trans (vis_bx s8)) hb8 (hb7.tabs (tb6.ext e7) s8) h
      have p4 : ∀ (D : Ends) (H8 : Hp) (size : Nat), Same (vis b H6) (vis b H8) → Bx b H8 → LamX.Tabs [(Pt, lamQ)] H8 → size ≤ 1000 →
          (∀ (H9 : Hp) (xs : List V) (os : List Step) (held had : Nat) (y9 y10 : Option V), Bx b H9 → LamX.Tabs [(Pt, lamQ)] H9 → KeysAt T.c_Keys (vis b H9) x (n0 + 1) qs → vis b H9 L = some (.lst xs) → TSteps (vis b H9) (n0 + 1) xs os → os.length = size →
            walkF 0 0 0 (os.map some) = (none, held, had) → held < 2 ^ (n0 + 1) → had < 2 ^ (n0 + 1) →
            D.nx [some (V.ref a), some (V.ref b), some (nv i), some (nv (n0 + 1)), some (V.ref x), some (.ref L), some (nv held), some (nv had), some (nv size), y9, y10, y11, y12, y13, y14, y15, y16, y17] H9) →
          F4 D [some (V.ref a), some (V.ref b), some (nv i), some (nv (n0 + 1)), some (V.ref x), some (.ref L), some (.int 0), some (.int 0), some (nv size), y9, y10, y11, y12, y13, y14, y15, y16, y17] H8 := by
        intro D H8 size s8 hb8 tb8 hsz fin
        subst hF4
        refine forR1 size (fun j σ' H' => ∃ xs os held had y9 y10, σ' = [some (V.ref a), some (V.ref b), some (nv i), some (nv (n0 + 1)), some (V.ref x), some (.ref L), some (nv held), some (nv had), some (nv size), y9, y10, y11, y12, y13, y14, y15, y16, y17] ∧
            Bx b H' ∧ LamX.Tabs [(Pt, lamQ)] H' ∧ KeysAt T.c_Keys (vis b H') x (n0 + 1) qs ∧ vis b H' L = some (.lst xs) ∧ TSteps (vis b H') (n0 + 1) xs os ∧ os.length = j ∧ walkF 0 0 0 (os.map some) = (none, held, had) ∧ held < 2 ^ (n0 + 1) ∧ had < 2 ^ (n0 + 1)) (fun R h => ?_) (by omega)
          ⟨[], [], 0, 0, _, _, rfl, hb8, tb8, hk6.same s8, s8 _ _ vL6, .nil, rfl, rfl, Nat.pow_pos (by decide), Nat.pow_pos (by decide)⟩ ?_ ?_
        · (try simp only [tVar, tC, tOp, tUn, rI, rI0, rU, rEq, rNe, scal, tTest, tB, tAnd, tOr, tNot, tAndV, tOrV, tNotV, tIf, tChain, tNil, tCons, tCB, tCall, tTup, tLst, tRet, tRetN, tDrop, tSeq, tNext, tIfS, tAsg, gName, tPar, tPar3, gNil, gCons, gTup, gSub, tAug, tSl, tNoPart, tPart, tBM, tBM0, tYes, tIsP, iSeq, iEnumA, RZ.iZipA, iRng1, iRng2, iList, iTup, rIsi, rIsB, rIxL, rIxT, rIxA, rLenA, rListOf, rTupOf, rSetL, rSlL, rCat, rAppend, tFld, sFld, tMake, tBits, Int.ofNat_inj, cast1, cast0, TruV, cxOf, Cx.nox, Cx.wish, tNever, tBreak, tCont, ipI, tDIn, tDNotIn, sDPut, tDNewT, tDNewK, tDGet, rSortedPO, rSortedI, rIn, rEqD, rNeD, rInD, rNotInD, tSSet, rIsV, rIntI, rIntB, rAbsN, tLstRg, tRg1, tRg2, List.append_nil, List.nil_append, List.cons_append, Option.some.injEq, exists_eq_left', exists_eq_left, exists_eq_right, exists_eq_right', List.getElem?_cons_zero, List.getElem?_cons_succ, List.set_cons_zero, List.set_cons_succ, List.cons.injEq, and_true, true_and, exists_and_left, exists_and_right, and_assoc, V.int.injEq, V.bl.injEq, V.ref.injEq, V.str.injEq, reduceCtorEq, decide_true, decide_false, Bool.not_true, Bool.not_false, Bool.false_eq_true, if_false, if_true, ite_true, ite_false, List.length_cons, List.length_nil, tRaise, tErr, LamX.tLam, TTe])
          exact h
        · rintro j σ' H' hj ⟨xs, os, held, had, y9, y10, rfl, hb', tb', hk', eL', ts', ln', wk', hh', hd'⟩
          (try simp only [tVar, tC, tOp, tUn, rI, rI0, rU, rEq, rNe, scal, tTest, tB, tAnd, tOr, tNot, tAndV, tOrV, tNotV, tIf, tChain, tNil, tCons, tCB, tCall, tTup, tLst, tRet, tRetN, tDrop, tSeq, tNext, tIfS, tAsg, gName, tPar, tPar3, gNil, gCons, gTup, gSub, tAug, tSl, tNoPart, tPart, tBM, tBM0, tYes, tIsP, iSeq, iEnumA, RZ.iZipA, iRng1, iRng2, iList, iTup, rIsi, rIsB, rIxL, rIxT, rIxA, rLenA, rListOf, rTupOf, rSetL, rSlL, rCat, rAppend, tFld, sFld, tMake, tBits, Int.ofNat_inj, cast1, cast0, TruV, cxOf, Cx.nox, Cx.wish, tNever, tBreak, tCont, ipI, tDIn, tDNotIn, sDPut, tDNewT, tDNewK, tDGet, rSortedPO, rSortedI, rIn, rEqD, rNeD, rInD, rNotInD, tSSet, rIsV, rIntI, rIntB, rAbsN, tLstRg, tRg1, tRg2, List.append_nil, List.nil_append, List.cons_append, Option.some.injEq, exists_eq_left', exists_eq_left, exists_eq_right, exists_eq_right', List.getElem?_cons_zero, List.getElem?_cons_succ, List.set_cons_zero, List.set_cons_succ, List.cons.injEq, and_true, true_and, exists_and_left, exists_and_right, and_assoc, V.int.injEq, V.bl.injEq, V.ref.injEq, V.str.injEq, reduceCtorEq, decide_true, decide_false, Bool.not_true, Bool.not_false, Bool.false_eq_true, if_false, if_true, ite_true, ite_false, List.length_cons, List.length_nil, tRaise, tErr, LamX.tLam, TTe])
          refine ⟨b, n0 + 1, rfl, ⟨by omega, by omega⟩, hb', fun H1 key s1 hb1 hkey => ?_⟩
          (try simp only [tVar, tC, tOp, tUn, rI, rI0, rU, rEq, rNe, scal, tTest, tB, tAnd, tOr, tNot, tAndV, tOrV, tNotV, tIf, tChain, tNil, tCons, tCB, tCall, tTup, tLst, tRet, tRetN, tDrop, tSeq, tNext, tIfS, tAsg, gName, tPar, tPar3, gNil, gCons, gTup, gSub, tAug, tSl, tNoPart, tPart, tBM, tBM0, tYes, tIsP, iSeq, iEnumA, RZ.iZipA, iRng1, iRng2, iList, iTup, rIsi, rIsB, rIxL, rIxT, rIxA, rLenA, rListOf, rTupOf, rSetL, rSlL, rCat, rAppend, tFld, sFld, tMake, tBits, Int.ofNat_inj, cast1, cast0, TruV, cxOf, Cx.nox, Cx.wish, tNever, tBreak, tCont, ipI, tDIn, tDNotIn, sDPut, tDNewT, tDNewK, tDGet, rSortedPO, rSortedI, rIn, rEqD, rNeD, rInD, rNotInD, tSSet, rIsV, rIntI, rIntB, rAbsN, tLstRg, tRg1, tRg2, List.append_nil, List.nil_append, List.cons_append, Option.some.injEq, exists_eq_left', exists_eq_left, exists_eq_right, exists_eq_right', List.getElem?_cons_zero, List.getElem?_cons_succ, List.set_cons_zero, List.set_cons_succ, List.cons.injEq, and_true, true_and, exists_and_left, exists_and_right, and_assoc, V.int.injEq, V.bl.injEq, V.ref.injEq, V.str.injEq, reduceCtorEq, decide_true, decide_false, Bool.not_true, Bool.not_false, Bool.false_eq_true, if_false, if_true, ite_true, ite_false, List.length_cons, List.length_nil, tRaise, tErr, LamX.tLam, TTe])
          rw [odd_test]
          have s1v := vis_bx s1
          have tb1' := hb'.tabs tb' s1
          have ln2 : xs.length = j := ts'.length.trans ln'
          have eL1 := vis_le _ _ _ _ (s1v _ _ eL')
          have hx1 := Nat.xor_lt_two_pow hh' (shl_lt hkey)
          cases ht : held.testBit key
          · refine iteF ⟨ty_lst (.of eL1), by decide, fun p hp => ⟨_, same_new hp _ _ eL1, by rw [ln2, sizeLine_eq]; omega, ?_⟩⟩
            obtain ⟨z1, z2, z3, z4, z5⟩ := steps_put (z := Str.ofString "take") hb1 tb1' (hk'.same s1v) (s1v _ _ eL') (ts'.same s1v) hp (by simp) hkey
            exact ⟨by omega, z1, z2, z3, _, z4, _, z5, by rw [List.length_append, ln']; rfl, walk_snoc wk' (can_take ht), hx1, hd'⟩
          · refine iteT ⟨ty_lst (.of eL1), by decide, fun p hp => ⟨_, same_new hp _ _ eL1, by rw [ln2, sizeLine_eq]; omega, ?_⟩⟩
            obtain ⟨z1, z2, z3, z4, z5⟩ := steps_put (z := give) hb1 tb1' (hk'.same s1v) (s1v _ _ eL') (ts'.same s1v) hp (by simp) hkey
            exact ⟨by omega, by omega, z1, z2, z3, _, z4, _, z5, by rw [List.length_append, ln']; rfl, walk_snoc wk' (can_give ht), hx1, Nat.or_lt_two_pow hd' (shl_lt hkey)⟩
        · rintro σ' H' ⟨xs, os, held, had, y9, y10, rfl, hb', tb', hk', eL', ts', ln', wk', hh', hd'⟩
          exact fin H' xs os held had y9 y10 hb' tb' hk' eL' ts' ln' wk' hh' hd'
      have p5 : ∀ (D : Ends) (H9 : Hp) (xs : List V) (os : List Step) (held had size : Nat) (y9 y10 : Option V), Bx b H9 → LamX.Tabs [(Pt, lamQ)] H9 → KeysAt T.c_Keys (vis b H9) x (n0 + 1) qs → vis b H9 L = some (.lst xs) → TSteps (vis b H9) (n0 + 1) xs os → os.length = size → (size = 1000 ∨ size ≤ 199) →
            walkF 0 0 0 (os.map some) = (none, held, had) → held < 2 ^ (n0 + 1) → had < 2 ^ (n0 + 1) → D.rt = Q →
            (∀ (H' : Hp) (z3 z4 z5 z6 z7 z8 z9 z10 z11 z12 z13 z14 z15 z16 z17 : Option V), Bx b H' → LamX.Tabs [(Pt, lamQ)] H' → D.nx [some (V.ref a), some (V.ref b), some (nv i), z3, z4, z5, z6, z7, z8, z9, z10, z11, z12, z13, z14, z15, z16, z17] H' ∧ D.ct [some (V.ref a), some (V.ref b), some (nv i), z3, z4, z5, z6, z7, z8, z9, z10, z11, z12, z13, z14, z15, z16, z17] H') →
            S5 D [some (V.ref a), some (V.ref b), some (nv i), some (nv (n0 + 1)), some (V.ref x), some (.ref L), some (nv held), some (nv had), some (nv size), y9, y10, y11, y12, y13, y14, y15, y16, y17] H9 := by
        intro D H9 xs os held had size y9 y10 hb9 tb9 hk9 eL9 ts9 ln9 hsz wk9 hh9 hd9 hQ hD
        subst hS5
        generalize hF5 : tFor _ (gName 12) _ = F5
        generalize hS6 : tSeq (tIfS _ _ _) (tSeq (tIfS _ _ _) _) = S6
        (try simp only [tVar, tC, tOp, tUn, rI, rI0, rU, rEq, rNe, scal, tTest, tB, tAnd, tOr, tNot, tAndV, tOrV, tNotV, tIf, tChain, tNil, tCons, tCB, tCall, tTup, tLst, tRet, tRetN, tDrop, tSeq, tNext, tIfS, tAsg, gName, tPar, tPar3, gNil, gCons, gTup, gSub, tAug, tSl, tNoPart, tPart, tBM, tBM0, tYes, tIsP, iSeq, iEnumA, RZ.iZipA, iRng1, iRng2, iList, iTup, rIsi, rIsB, rIxL, rIxT, rIxA, rLenA, rListOf, rTupOf, rSetL, rSlL, rCat, rAppend, tFld, sFld, tMake, tBits, Int.ofNat_inj, cast1, cast0, TruV, cxOf, Cx.nox, Cx.wish, tNever, tBreak, tCont, ipI, tDIn, tDNotIn, sDPut, tDNewT, tDNewK, tDGet, rSortedPO, rSortedI, rIn, rEqD, rNeD, rInD, rNotInD, tSSet, rIsV, rIntI, rIntB, rAbsN, tLstRg, tRg1, tRg2, List.append_nil, List.nil_append, List.cons_append, Option.some.injEq, exists_eq_left', exists_eq_left, exists_eq_right, exists_eq_right', List.getElem?_cons_zero, List.getElem?_cons_succ, List.set_cons_zero, List.set_cons_succ, List.cons.injEq, and_true, true_and, exists_and_left, exists_and_right, and_assoc, V.int.injEq, V.bl.injEq, V.ref.injEq, V.str.injEq, reduceCtorEq, decide_true, decide_false, Bool.not_true, Bool.not_false, Bool.false_eq_true, if_false, if_true, ite_true, ite_false, List.length_cons, List.length_nil, tRaise, tErr, LamX.tLam, TTe])
        have l12 : 2 ^ (n0 + 1) ≤ 2 ^ 12 := Nat.pow_le_pow_right (by decide) (by omega)
        refine ⟨held, rfl, by omega, fun H10 q1 s10 hq1 eq1 => ⟨had, rfl, by omega, fun H11 q2 s11 hq2 eq2 => ⟨by decide, fun du hdu => ?_⟩⟩⟩
        generalize hH12 : upd H11 du (.tup [.ref q1, .ref q2]) = H12
        have e11 : Same H11 H12 := by
          rw [← hH12]
          exact same_new hdu
        have edu : H12 du = some (.tup [.ref q1, .ref q2]) := by
          rw [← hH12]
          exact upd_same
        have e9 : Same H9 H12 := (s10.trans s11).trans e11
        have eq1' := e11 _ _ (s11 _ _ eq1)
        have eq2' := e11 _ _ eq2
        have eL12 := e9 _ _ (vis_le _ _ _ _ eL9)
        have ts12 : TSteps H12 (n0 + 1) xs os := ts9.same ((vis_le b H9).trans e9)
        have hk12 : KeysAt T.c_Keys H12 x (n0 + 1) qs := (hk9.same (vis_le b H9)).same e9
        have hb12 := hb9.same e9
        have tb12 := tb9.ext e9
        have lx : xs.length ≤ 1000 := by
          rw [ts9.length, ln9]
          omega
        have st12 : Paired (fun x s => StepAt K H12 (n0 + 1) x (some s)) xs os := Paired.mapP ts12 fun _ _ z => z.at
        have p6 : ∀ (D : Ends) (H13 : Hp) (y12 : Option V), Same H12 H13 → D.rt = Q → (∀ (H' : Hp) (z3 z4 z5 z6 z7 z8 z9 z10 z11 z12 z13 z14 z15 z16 z17 : Option V), Bx b H' → LamX.Tabs [(Pt, lamQ)] H' → D.nx [some (V.ref a), some (V.ref b), some (nv i), z3, z4, z5, z6, z7, z8, z9, z10, z11, z12, z13, z14, z15, z16, z17] H' ∧ D.ct [some (V.ref a), some (V.ref b), some (nv i), z3, z4, z5, z6, z7, z8, z9, z10, z11, z12, z13, z14, z15, z16, z17] H') →
            S6 D [some (V.ref a), some (V.ref b), some (nv i), some (nv (n0 + 1)), some (V.ref x), some (.ref L), some (nv held), some (nv had), some (nv size), y9, y10, some (.ref du), y12, y13, y14, y15, y16, y17] H13 := by
          intro D H13 y12 e13 hQ hD
          subst hS6
          generalize hS7 : tSeq (tIfS _ tCont tNext) _ = S7
          have p7 : ∀ (H14 : Hp) , LamX.ExtN H9 H14 → LamX.Tabs [(Pt, lamQ)] H14 → S7 D [some (V.ref a), some (V.ref b), some (nv i), some (nv (n0 + 1)), some (V.ref x), some (.ref L), some (nv held), some (nv had), some (nv size), y9, y10, some (.ref du), y12, y13, y14, y15, y16, y17] H14 := by
            intro H14 x14 tb14
            subst hS7
            have hb14 := hb9.ext x14
            have v14 := hb9.visE x14
            generalize hF8 : tFor _ (gName 16) _ = F8
            have p8 : ∀ (H31 : Hp) (W : Addr) (ws : List V) (y10 y12 y13 y14 y16 y17 : Option V), Bx b H31 → LamX.Tabs [(Pt, lamQ)] H31 → Same (vis b H9) (vis b H31) → vis b H31 W = some (.lst ws) → (∀ v ∈ ws, BadV K (vis b H31) (n0 + 1) held v) → ws.length ≤ 1000 → size ≤ 199 →
                F8 D [some (V.ref a), some (V.ref b), some (nv i), some (nv (n0 + 1)), some (V.ref x), some (.ref L), some (nv held), some (nv had), some (nv size), y9, y10, some (.ref du), y12, y13, y14, some (.ref W), y16, y17] H31 := by
              intro H31 W ws y10 y12 y13 y14 y16 y17 hb31 tb31 v31 eW hbad lW hs199
              subst hF8
              refine forSF (fun H1 p => ∃ ys, Bx b H1 ∧ LamX.Tabs [(Pt, lamQ)] H1 ∧ Same (vis b H31) (vis b H1) ∧ vis b H1 p = some (.lst ys) ∧ ∀ v ∈ ys, v ∈ ws) (fun R h => ?_) fun H1 p ⟨ys, hb1, tb1, v1, ep, hys⟩ => ?_
              · (try simp only [tVar, tC, tOp, tUn, rI, rI0, rU, rEq, rNe, scal, tTest, tB, tAnd, tOr, tNot, tAndV, tOrV, tNotV, tIf, tChain, tNil, tCons, tCB, tCall, tTup, tLst, tRet, tRetN, tDrop, tSeq, tNext, tIfS, tAsg, gName, tPar, tPar3, gNil, gCons, gTup, gSub, tAug, tSl, tNoPart, tPart, tBM, tBM0, tYes, tIsP, iSeq, iEnumA, RZ.iZipA, iRng1, iRng2, iList, iTup, rIsi, rIsB, rIxL, rIxT, rIxA, rLenA, rListOf, rTupOf, rSetL, rSlL, rCat, rAppend, tFld, sFld, tMake, tBits, Int.ofNat_inj, cast1, cast0, TruV, cxOf, Cx.nox, Cx.wish, tNever, tBreak, tCont, ipI, tDIn, tDNotIn, sDPut, tDNewT, tDNewK, tDGet, rSortedPO, rSortedI, rIn, rEqD, rNeD, rInD, rNotInD, tSSet, rIsV, rIntI, rIntB, rAbsN, tLstRg, tRg1, tRg2, List.append_nil, List.nil_append, List.cons_append, Option.some.injEq, exists_eq_left', exists_eq_left, exists_eq_right, exists_eq_right', List.getElem?_cons_zero, List.getElem?_cons_succ, List.set_cons_zero, List.set_cons_succ, List.cons.injEq, and_true, true_and, exists_and_left, exists_and_right, and_assoc, V.int.injEq, V.bl.injEq, V.ref.injEq, V.str.injEq, reduceCtorEq, decide_true, decide_false, Bool.not_true, Bool.not_false, Bool.false_eq_true, if_false, if_true, ite_true, ite_false, List.length_cons, List.length_nil, tRaise, tErr, LamX.tLam, TTe])
                refine ⟨b, W, ws, rfl, hb31, .inl (.of (vis_le _ _ _ _ eW)), lW, fun H1 p ys s1 hb1 hp ep pm => ⟨_, rfl, _, .of (hbx_le _ _ _ _ ep), fun p2 hp2 => ?_⟩⟩
                have s2 := same_new (o := .lst (cutV ys none (some 8))) hp2
                refine h _ p2 ⟨_, hb1.same s2, (hb31.tabs tb31 s1).ext s2, (vis_bx s1).trans (hb1.visM s2), hb1.vis_new s2 hp2 upd_same (fun ps z => nomatch z), fun v hv => pm.mem_iff.mp ?_⟩
                exact mem_cut hv
              · refine ⟨p, ys, fun i2 σ' H' => ∃ y16 y17, σ' = [some (V.ref a), some (V.ref b), some (nv i), some (nv (n0 + 1)), some (V.ref x), some (.ref L), some (nv held), some (nv had), some (nv size), y9, y10, some (.ref du), y12, y13, y14, some (.ref W), y16, y17] ∧ Bx b H' ∧ LamX.Tabs [(Pt, lamQ)] H' ∧ Same (vis b H1) (vis b H'), vis b H1, rfl, ⟨_, _, rfl, hb1, tb1, Same.refl _⟩, .inl (.of ep), fun i2 σ' H' h => ?_, ?_, ?_⟩
                · obtain ⟨_, _, _, _, _, sm⟩ := h
                  exact sm.trans (vis_le b H')
                · rintro i2 v σ' H' hv ⟨y16, y17, rfl, hb', tb', vm⟩
                  (try simp only [tVar, tC, tOp, tUn, rI, rI0, rU, rEq, rNe, scal, tTest, tB, tAnd, tOr, tNot, tAndV, tOrV, tNotV, tIf, tChain, tNil, tCons, tCB, tCall, tTup, tLst, tRet, tRetN, tDrop, tSeq, tNext, tIfS, tAsg, gName, tPar, tPar3, gNil, gCons, gTup, gSub, tAug, tSl, tNoPart, tPart, tBM, tBM0, tYes, tIsP, iSeq, iEnumA, RZ.iZipA, iRng1, iRng2, iList, iTup, rIsi, rIsB, rIxL, rIxT, rIxA, rLenA, rListOf, rTupOf, rSetL, rSlL, rCat, rAppend, tFld, sFld, tMake, tBits, Int.ofNat_inj, cast1, cast0, TruV, cxOf, Cx.nox, Cx.wish, tNever, tBreak, tCont, ipI, tDIn, tDNotIn, sDPut, tDNewT, tDNewK, tDGet, rSortedPO, rSortedI, rIn, rEqD, rNeD, rInD, rNotInD, tSSet, rIsV, rIntI, rIntB, rAbsN, tLstRg, tRg1, tRg2, List.append_nil, List.nil_append, List.cons_append, Option.some.injEq, exists_eq_left', exists_eq_left, exists_eq_right, exists_eq_right', List.getElem?_cons_zero, List.getElem?_cons_succ, List.set_cons_zero, List.set_cons_succ, List.cons.injEq, and_true, true_and, exists_and_left, exists_and_right, and_assoc, V.int.injEq, V.bl.injEq, V.ref.injEq, V.str.injEq, reduceCtorEq, decide_true, decide_false, Bool.not_true, Bool.not_false, Bool.false_eq_true, if_false, if_true, ite_true, ite_false, List.length_cons, List.length_nil, tRaise, tErr, LamX.tLam, TTe])
                  refine ⟨by decide, fun p1 hp1 => ⟨by decide, fun p2 hp2 => ⟨by decide, fun p3 hp3 => ?_⟩⟩⟩
                  have c1 := same_new (o := .lst [v]) hp1
                  have c2 := same_new (o := .tup [.str (Str.ofString "take"), nv (n0 + 1)]) hp2
                  have c3 := same_new (o := .lst [v, .ref p2, .non]) hp3
                  have c12 := c1.trans c2
                  have c13 := c12.trans c3
                  have hb3 := hb'.same c13
                  have g13 := hb'.visM c13
                  have vv := v31.trans (v1.trans vm)
                  refine ⟨b, p3, _, rfl, .inl (.of (hb'.new c13 (back c12 hp3) upd_same)), ⟨by simp, by simp⟩, hb3, fun H32 kk v2 s32 hb32 hv2 => ?_⟩
                  have g32 := vis_bx s32
                  have vv32 := vv.trans (g13.trans g32)
                  have tb32 := hb3.tabs (tb'.ext c13) s32
                  have ep1 : H32 p1 = some (.lst [v]) := vis_le _ _ _ _ (g32 _ _ (hb'.vis_new c13 hp1 (c3 _ _ (c2 _ _ upd_same)) fun ps z => nomatch z))
                  refine ⟨by decide, fun p4 hp4 => ⟨_, same_new hp4 _ _ ep1, _, upd_same, by rw [sizeLine_eq, List.length_singleton, List.length_singleton]; omega, fun p5 hp5 => ⟨?_, fun H33 e33 tb33 => ?_⟩⟩⟩
                  · exact (tb32.ext (same_new hp4)).ext (same_new hp5)
                  have c45 := (same_new (o := .lst [v2]) hp4).trans (same_new (o := .lst ([v] ++ [v2])) hp5)
                  have x33 := (LamX.ExtN.of c45).trans e33
                  have hb33 := hb32.ext x33
                  have vv33 := vv32.trans (hb32.visE x33)
                  have eL33 := vis_le _ _ _ _ (vv33 _ _ eL9)
                  have ep5 : H33 p5 = some (.lst ([v] ++ [v2])) := e33 _ _ upd_same fun ps z => nomatch z
                  refine ⟨xs, eL33, _, ep5, by rw [List.length_append, List.length_singleton, List.length_singleton, sizeLine_eq]; omega, fun p6 hp6 => ?_⟩
                  have c6 := same_new (o := .lst (xs ++ ([v] ++ [v2]))) hp6
                  have mv := hbad v (hys v (List.mem_of_getElem? hv))
                  have g33 : Same (vis b H31) H33 := (((v1.trans vm).trans (g13.trans g32)).trans (hb32.visE x33)).trans (vis_le b H33)
                  have o2 : ∃ o, StepAt K H33 (n0 + 1) v2 o := by
                    have lt : kk < 3 := (List.getElem?_eq_some_iff.mp hv2).1
                    match kk, lt, hv2 with
                    | 0, _, e =>
                      cases e
                      obtain ⟨o, ho, _⟩ := mv
                      exact ⟨o, ho.same g33⟩
                    | 1, _, e =>
                      cases e
                      obtain ⟨o, ho, _⟩ := bad_key (K := K) (G := H33) (n := n0 + 1) (held := 0) (a := p2) (z := Str.ofString "take") (y := nv (n0 + 1)) (o := some (((n0 + 1 : Nat) : Int))) (vis_le _ _ _ _ ((hb32.visE x33) _ _ (g32 _ _ (hb'.vis_new c13 (back c1 hp2) (c3 _ _ upd_same) fun ps z => nomatch z)))) (by simp) rfl (by simp [below])
                      exact ⟨o, ho⟩
                    | 2, _, e => cases e; exact ⟨none, .noSeq (.base .non) (kit2 (kit_ty (by decide +kernel)) (kit_ty (by decide +kernel)))⟩
                  obtain ⟨o2, ho2⟩ := o2
                  obtain ⟨o, ho, hno⟩ := mv
                  have row : RowIs K (upd H33 p6 (.lst (xs ++ ([v] ++ [v2])))) (n0 + 1) (.ref p6) (some (size : Int), held, had) := by
                    have z := RowIs.of (K := K) (H := upd H33 p6 (.lst (xs ++ ([v] ++ [v2])))) (n := n0 + 1) (a := p6) (xs := xs ++ ([v] ++ [v2])) (os := os.map some ++ [o, o2]) (.inl (.of upd_same)) (by rw [List.length_append, ts9.length, ln9]; show size + 2 ≤ 1000; omega)
                      (paired_app (paired_map (f := some) (Paired.mapP ts9 fun _ _ z => (z.same (vv33.trans ((vis_le b H33).trans c6))).at)) (.cons ((ho.same g33).same c6) (.cons (ho2.same c6) .nil)))
                    rw [walk_bad wk9 hno, ln9] at z
                    exact z
                  refine ⟨.ref x, .ref p6, rfl, .inr ⟨x, n0 + 1, qs, _, rfl, (hk9.same (vv33.trans (vis_le b H33))).same c6, by omega, row, ⟨by show held < 2 ^ 62; omega, by show had < 2 ^ 62; omega⟩, fun i2 e2 H7 d7 s7 hd7 => ?_, fun z => nomatch z⟩⟩
                  have e3 : (size : Int) = i2 := Option.some.inj e2
                  refine ans_row T hd7 fun H18 p8 s8 e8 => ⟨by decide, fun p9 hp9 => ?_⟩
                  rw [← e3] at e8
                  have s9 := same_new (o := .tup [.str (Str.ofString "row"), nv size]) hp9
                  refine ⟨_, _, rfl, TD.strint (s9 _ _ e8) upd_same, fun H19 s19 => ?_⟩
                  (try simp only [tVar, tC, tOp, tUn, rI, rI0, rU, rEq, rNe, scal, tTest, tB, tAnd, tOr, tNot, tAndV, tOrV, tNotV, tIf, tChain, tNil, tCons, tCB, tCall, tTup, tLst, tRet, tRetN, tDrop, tSeq, tNext, tIfS, tAsg, gName, tPar, tPar3, gNil, gCons, gTup, gSub, tAug, tSl, tNoPart, tPart, tBM, tBM0, tYes, tIsP, iSeq, iEnumA, RZ.iZipA, iRng1, iRng2, iList, iTup, rIsi, rIsB, rIxL, rIxT, rIxA, rLenA, rListOf, rTupOf, rSetL, rSlL, rCat, rAppend, tFld, sFld, tMake, tBits, Int.ofNat_inj, cast1, cast0, TruV, cxOf, Cx.nox, Cx.wish, tNever, tBreak, tCont, ipI, tDIn, tDNotIn, sDPut, tDNewT, tDNewK, tDGet, rSortedPO, rSortedI, rIn, rEqD, rNeD, rInD, rNotInD, tSSet, rIsV, rIntI, rIntB, rAbsN, tLstRg, tRg1, tRg2, List.append_nil, List.nil_append, List.cons_append, Option.some.injEq, exists_eq_left', exists_eq_left, exists_eq_right, exists_eq_right', List.getElem?_cons_zero, List.getElem?_cons_succ, List.set_cons_zero, List.set_cons_succ, List.cons.injEq, and_true, true_and, exists_and_left, exists_and_right, and_assoc, V.int.injEq, V.bl.injEq, V.ref.injEq, V.str.injEq, reduceCtorEq, decide_true, decide_false, Bool.not_true, Bool.not_false, Bool.false_eq_true, if_false, if_true, ite_true, ite_false, List.length_cons, List.length_nil, tRaise, tErr, LamX.tLam, TTe])
                  have s59 := ((c6.trans (s7.trans s8)).trans s9).trans s19
                  exact ⟨hb33.same s59, tb33.ext s59, vm.trans ((g13.trans g32).trans ((hb32.visE x33).trans (hb33.visM s59)))⟩
                · rintro σ' H' ⟨y16, y17, rfl, hb', tb', vm⟩
                  exact (hD H' _ _ _ _ _ _ _ _ _ _ _ _ _ _ _ hb' tb').1
            generalize hS8 : tSeq (tAsg (tOp rCat _ _) (gName 15)) _ = S8
            generalize hC1 : tLc _ _ _ _ _ = C1
            (try simp only [tVar, tC, tOp, tUn, rI, rI0, rU, rEq, rNe, scal, tTest, tB, tAnd, tOr, tNot, tAndV, tOrV, tNotV, tIf, tChain, tNil, tCons, tCB, tCall, tTup, tLst, tRet, tRetN, tDrop, tSeq, tNext, tIfS, tAsg, gName, tPar, tPar3, gNil, gCons, gTup, gSub, tAug, tSl, tNoPart, tPart, tBM, tBM0, tYes, tIsP, iSeq, iEnumA, RZ.iZipA, iRng1, iRng2, iList, iTup, rIsi, rIsB, rIxL, rIxT, rIxA, rLenA, rListOf, rTupOf, rSetL, rSlL, rCat, rAppend, tFld, sFld, tMake, tBits, Int.ofNat_inj, cast1, cast0, TruV, cxOf, Cx.nox, Cx.wish, tNever, tBreak, tCont, ipI, tDIn, tDNotIn, sDPut, tDNewT, tDNewK, tDGet, rSortedPO, rSortedI, rIn, rEqD, rNeD, rInD, rNotInD, tSSet, rIsV, rIntI, rIntB, rAbsN, tLstRg, tRg1, tRg2, List.append_nil, List.nil_append, List.cons_append, Option.some.injEq, exists_eq_left', exists_eq_left, exists_eq_right, exists_eq_right', List.getElem?_cons_zero, List.getElem?_cons_succ, List.set_cons_zero, List.set_cons_succ, List.cons.injEq, and_true, true_and, exists_and_left, exists_and_right, and_assoc, V.int.injEq, V.bl.injEq, V.ref.injEq, V.str.injEq, reduceCtorEq, decide_true, decide_false, Bool.not_true, Bool.not_false, Bool.false_eq_true, if_false, if_true, ite_true, ite_false, List.length_cons, List.length_nil, tRaise, tErr, LamX.tLam, TTe])
            split
            · exact (hD H14 _ _ _ _ _ _ _ _ _ _ _ _ _ _ _ hb14 tb14).2
            · rename_i hs900
              have hs199 : size ≤ 199 := by
                rw [decide_eq_true_eq] at hs900
                omega
              subst hC1
              refine lcR1 (n0 + 1) (fun k => !held.testBit k) nv (fun R h => ?_) (by omega) (fun i2 H' Q1 Q2 hi2 e q1 q2 => ?_) fun Lf hLf => ?_
              · (try simp only [tVar, tC, tOp, tUn, rI, rI0, rU, rEq, rNe, scal, tTest, tB, tAnd, tOr, tNot, tAndV, tOrV, tNotV, tIf, tChain, tNil, tCons, tCB, tCall, tTup, tLst, tRet, tRetN, tDrop, tSeq, tNext, tIfS, tAsg, gName, tPar, tPar3, gNil, gCons, gTup, gSub, tAug, tSl, tNoPart, tPart, tBM, tBM0, tYes, tIsP, iSeq, iEnumA, RZ.iZipA, iRng1, iRng2, iList, iTup, rIsi, rIsB, rIxL, rIxT, rIxA, rLenA, rListOf, rTupOf, rSetL, rSlL, rCat, rAppend, tFld, sFld, tMake, tBits, Int.ofNat_inj, cast1, cast0, TruV, cxOf, Cx.nox, Cx.wish, tNever, tBreak, tCont, ipI, tDIn, tDNotIn, sDPut, tDNewT, tDNewK, tDGet, rSortedPO, rSortedI, rIn, rEqD, rNeD, rInD, rNotInD, tSSet, rIsV, rIntI, rIntB, rAbsN, tLstRg, tRg1, tRg2, List.append_nil, List.nil_append, List.cons_append, Option.some.injEq, exists_eq_left', exists_eq_left, exists_eq_right, exists_eq_right', List.getElem?_cons_zero, List.getElem?_cons_succ, List.set_cons_zero, List.set_cons_succ, List.cons.injEq, and_true, true_and, exists_and_left, exists_and_right, and_assoc, V.int.injEq, V.bl.injEq, V.ref.injEq, V.str.injEq, reduceCtorEq, decide_true, decide_false, Bool.not_true, Bool.not_false, Bool.false_eq_true, if_false, if_true, ite_true, ite_false, List.length_cons, List.length_nil, tRaise, tErr, LamX.tLam, TTe])
                exact h
              · (try simp only [tVar, tC, tOp, tUn, rI, rI0, rU, rEq, rNe, scal, tTest, tB, tAnd, tOr, tNot, tAndV, tOrV, tNotV, tIf, tChain, tNil, tCons, tCB, tCall, tTup, tLst, tRet, tRetN, tDrop, tSeq, tNext, tIfS, tAsg, gName, tPar, tPar3, gNil, gCons, gTup, gSub, tAug, tSl, tNoPart, tPart, tBM, tBM0, tYes, tIsP, iSeq, iEnumA, RZ.iZipA, iRng1, iRng2, iList, iTup, rIsi, rIsB, rIxL, rIxT, rIxA, rLenA, rListOf, rTupOf, rSetL, rSlL, rCat, rAppend, tFld, sFld, tMake, tBits, Int.ofNat_inj, cast1, cast0, TruV, cxOf, Cx.nox, Cx.wish, tNever, tBreak, tCont, ipI, tDIn, tDNotIn, sDPut, tDNewT, tDNewK, tDGet, rSortedPO, rSortedI, rIn, rEqD, rNeD, rInD, rNotInD, tSSet, rIsV, rIntI, rIntB, rAbsN, tLstRg, tRg1, tRg2, List.append_nil, List.nil_append, List.cons_append, Option.some.injEq, exists_eq_left', exists_eq_left, exists_eq_right, exists_eq_right', List.getElem?_cons_zero, List.getElem?_cons_succ, List.set_cons_zero, List.set_cons_succ, List.cons.injEq, and_true, true_and, exists_and_left, exists_and_right, and_assoc, V.int.injEq, V.bl.injEq, V.ref.injEq, V.str.injEq, reduceCtorEq, decide_true, decide_false, Bool.not_true, Bool.not_false, Bool.false_eq_true, if_false, if_true, ite_true, ite_false, List.length_cons, List.length_nil, tRaise, tErr, LamX.tLam, TTe])
                rw [odd_test]
                cases ht : held.testBit i2
                · exact q1 (by rw [ht]; rfl)
                · exact q2 (by rw [ht]; rfl)
              · (try simp only [tVar, tC, tOp, tUn, rI, rI0, rU, rEq, rNe, scal, tTest, tB, tAnd, tOr, tNot, tAndV, tOrV, tNotV, tIf, tChain, tNil, tCons, tCB, tCall, tTup, tLst, tRet, tRetN, tDrop, tSeq, tNext, tIfS, tAsg, gName, tPar, tPar3, gNil, gCons, gTup, gSub, tAug, tSl, tNoPart, tPart, tBM, tBM0, tYes, tIsP, iSeq, iEnumA, RZ.iZipA, iRng1, iRng2, iList, iTup, rIsi, rIsB, rIxL, rIxT, rIxA, rLenA, rListOf, rTupOf, rSetL, rSlL, rCat, rAppend, tFld, sFld, tMake, tBits, Int.ofNat_inj, cast1, cast0, TruV, cxOf, Cx.nox, Cx.wish, tNever, tBreak, tCont, ipI, tDIn, tDNotIn, sDPut, tDNewT, tDNewK, tDGet, rSortedPO, rSortedI, rIn, rEqD, rNeD, rInD, rNotInD, tSSet, rIsV, rIntI, rIntB, rAbsN, tLstRg, tRg1, tRg2, List.append_nil, List.nil_append, List.cons_append, Option.some.injEq, exists_eq_left', exists_eq_left, exists_eq_right, exists_eq_right', List.getElem?_cons_zero, List.getElem?_cons_succ, List.set_cons_zero, List.set_cons_succ, List.cons.injEq, and_true, true_and, exists_and_left, exists_and_right, and_assoc, V.int.injEq, V.bl.injEq, V.ref.injEq, V.str.injEq, reduceCtorEq, decide_true, decide_false, Bool.not_true, Bool.not_false, Bool.false_eq_true, if_false, if_true, ite_true, ite_false, List.length_cons, List.length_nil, tRaise, tErr, LamX.tLam, TTe])
                generalize hfr : (List.range (n0 + 1)).filter (fun k => !held.testBit k) = fr
                generalize hH15 : upd H14 Lf (.lst (fr.map nv)) = H15
                have e15 : Same H14 H15 := by
                  rw [← hH15]
                  exact same_new hLf
                have eLf : H15 Lf = some (.lst (nvs fr)) := by
                  rw [← hH15]
                  exact upd_same
                refine ⟨held, rfl, by omega, fun H16 q s16 hq eq => ⟨_, rfl, _, .inr (.of eq), fun l hl => ?_⟩⟩
                generalize hH17 : upd H16 l (.lst (nvs (bits held))) = H17
                have e17 : Same H16 H17 := by
                  rw [← hH17]
                  exact same_new hl
                have el : H17 l = some (.lst (nvs (bits held))) := by
                  rw [← hH17]
                  exact upd_same
                subst hS8
                generalize hS9 : tSeq (tDrop (tBM K "list" rExtend _ _)) _ = S9
                (try simp only [tVar, tC, tOp, tUn, rI, rI0, rU, rEq, rNe, scal, tTest, tB, tAnd, tOr, tNot, tAndV, tOrV, tNotV, tIf, tChain, tNil, tCons, tCB, tCall, tTup, tLst, tRet, tRetN, tDrop, tSeq, tNext, tIfS, tAsg, gName, tPar, tPar3, gNil, gCons, gTup, gSub, tAug, tSl, tNoPart, tPart, tBM, tBM0, tYes, tIsP, iSeq, iEnumA, RZ.iZipA, iRng1, iRng2, iList, iTup, rIsi, rIsB, rIxL, rIxT, rIxA, rLenA, rListOf, rTupOf, rSetL, rSlL, rCat, rAppend, tFld, sFld, tMake, tBits, Int.ofNat_inj, cast1, cast0, TruV, cxOf, Cx.nox, Cx.wish, tNever, tBreak, tCont, ipI, tDIn, tDNotIn, sDPut, tDNewT, tDNewK, tDGet, rSortedPO, rSortedI, rIn, rEqD, rNeD, rInD, rNotInD, tSSet, rIsV, rIntI, rIntB, rAbsN, tLstRg, tRg1, tRg2, List.append_nil, List.nil_append, List.cons_append, Option.some.injEq, exists_eq_left', exists_eq_left, exists_eq_right, exists_eq_right', List.getElem?_cons_zero, List.getElem?_cons_succ, List.set_cons_zero, List.set_cons_succ, List.cons.injEq, and_true, true_and, exists_and_left, exists_and_right, and_assoc, V.int.injEq, V.bl.injEq, V.ref.injEq, V.str.injEq, reduceCtorEq, decide_true, decide_false, Bool.not_true, Bool.not_false, Bool.false_eq_true, if_false, if_true, ite_true, ite_false, List.length_cons, List.length_nil, tRaise, tErr, LamX.tLam, TTe])
                have lb : (bits held).length < 1000 := by
                  have h1 : (bits held).length ≤ _ := List.length_filter_le _ _
                  have h2 := bits_lt (m := held) (by omega)
                  rw [List.length_range] at h1
                  omega
                have lf : fr.length < 1000 := by
                  have h1 := List.length_filter_le (fun k => !held.testBit k) (List.range (n0 + 1))
                  rw [hfr, List.length_range] at h1
                  omega
                refine lc_steps (Str.ofString "take") rfl (by simp) (by decide) (.inl (.of el)) lb fun L1 H18 ws1 hL1 s18 eL1 pr1 => ?_
                refine lc_steps (Str.ofString "give") rfl (by simp) (by decide) (.inl (.of (s18 _ _ (e17 _ _ (s16 _ _ eLf))))) lf fun L2 H19 ws2 hL2 s19 eL2 pr2 => ?_
                refine ⟨_, rfl, _, rfl, _, s19 _ _ eL1, _, eL2, by rw [pr1.length, pr2.length, sizeLine_eq]; omega, fun W hW => ?_⟩
                have z17 : Same H14 H17 := (e15.trans s16).trans e17
                have z19 := z17.trans (s18.trans s19)
                generalize hH20 : upd H19 W (.lst (ws1 ++ ws2)) = H20
                have e20 : Same H19 H20 := by
                  rw [← hH20]
                  exact same_new hW
                have eW : H20 W = some (.lst (ws1 ++ ws2)) := by
                  rw [← hH20]
                  exact upd_same
                have z20 := z19.trans e20
                have hW14 := back z19 hW
                have bad1 : ∀ v ∈ ws1 ++ ws2, BadV K (hid W (vis b H20)) (n0 + 1) held v := by
                  intro v hv
                  rcases List.mem_append.mp hv with hv | hv
                  · obtain ⟨i3, hi3⟩ := List.mem_iff_getElem?.mp hv
                    have lt : i3 < (bits held).length := by rw [← pr1.length]; exact (List.getElem?_eq_some_iff.mp hi3).1
                    obtain ⟨p, rfl, h1, h2⟩ := paired_at pr1 hi3 (List.getElem?_eq_getElem lt)
                    have hm := List.getElem_mem lt
                    refine ⟨some (Str.ofString "take", (bits held)[i3]), ⟨p, rfl, .inr (.inl (.inl (hid_at (hb14.vis_new z20 (back z17 h1) (e20 _ _ (s19 _ _ h2)) fun ps z => nomatch z) (ne_of_none (s19 _ _ h2) hW)))), by simp, bits_below hh9 hm⟩, fun s e => ?_⟩
                    cases e
                    exact no_take ((mem_bits (by omega)).mp hm)
                  · obtain ⟨i3, hi3⟩ := List.mem_iff_getElem?.mp hv
                    have lt : i3 < fr.length := by rw [← pr2.length]; exact (List.getElem?_eq_some_iff.mp hi3).1
                    obtain ⟨p, rfl, h1, h2⟩ := paired_at pr2 hi3 (List.getElem?_eq_getElem lt)
                    have hm := List.getElem_mem lt
                    generalize fr[i3] = k3 at hm h2
                    rw [← hfr] at hm
                    obtain ⟨hm1, hm2⟩ := List.mem_filter.mp hm
                    refine ⟨some (give, k3), ⟨p, rfl, .inr (.inl (.inl (hid_at (hb14.vis_new z20 (back (z17.trans s18) h1) (e20 _ _ h2) fun ps z => nomatch z) (ne_of_none h2 hW)))), by simp, List.mem_range.mp hm1⟩, fun s e => ?_⟩
                    cases e
                    exact no_give (by simpa using hm2)
                have eLf20 : H20 Lf = some (.lst (nvs fr)) := e20 _ _ (s19 _ _ (s18 _ _ (e17 _ _ (s16 _ _ eLf))))
                have lW : (ws1 ++ ws2).length = (bits held).length + fr.length := by rw [List.length_append, pr1.length, pr2.length]
                subst hS9
                generalize hS10 : tSeq (tDrop (tBM K "list" rExtend _ _)) F8 = S10
                (try simp only [tVar, tC, tOp, tUn, rI, rI0, rU, rEq, rNe, scal, tTest, tB, tAnd, tOr, tNot, tAndV, tOrV, tNotV, tIf, tChain, tNil, tCons, tCB, tCall, tTup, tLst, tRet, tRetN, tDrop, tSeq, tNext, tIfS, tAsg, gName, tPar, tPar3, gNil, gCons, gTup, gSub, tAug, tSl, tNoPart, tPart, tBM, tBM0, tYes, tIsP, iSeq, iEnumA, RZ.iZipA, iRng1, iRng2, iList, iTup, rIsi, rIsB, rIxL, rIxT, rIxA, rLenA, rListOf, rTupOf, rSetL, rSlL, rCat, rAppend, tFld, sFld, tMake, tBits, Int.ofNat_inj, cast1, cast0, TruV, cxOf, Cx.nox, Cx.wish, tNever, tBreak, tCont, ipI, tDIn, tDNotIn, sDPut, tDNewT, tDNewK, tDGet, rSortedPO, rSortedI, rIn, rEqD, rNeD, rInD, rNotInD, tSSet, rIsV, rIntI, rIntB, rAbsN, tLstRg, tRg1, tRg2, List.append_nil, List.nil_append, List.cons_append, Option.some.injEq, exists_eq_left', exists_eq_left, exists_eq_right, exists_eq_right', List.getElem?_cons_zero, List.getElem?_cons_succ, List.set_cons_zero, List.set_cons_succ, List.cons.injEq, and_true, true_and, exists_and_left, exists_and_right, and_assoc, V.int.injEq, V.bl.injEq, V.ref.injEq, V.str.injEq, reduceCtorEq, decide_true, decide_false, Bool.not_true, Bool.not_false, Bool.false_eq_true, if_false, if_true, ite_true, ite_false, List.length_cons, List.length_nil, tRaise, tErr, LamX.tLam, TTe])
                refine ⟨ty_lst (.of eW), by decide, fun t1 h1 => ⟨by decide, fun t2 h2 => ⟨by decide, fun t3 h3 => ⟨by decide, fun t4 h4 => ⟨by decide, fun t5 h5 => ⟨by decide, fun t6 h6 => ⟨by decide, fun l1 hl1 => ?_⟩⟩⟩⟩⟩⟩⟩
                have a1 := same_new (o := .tup [.str (Str.ofString "take"), nv (n0 + 1)]) h1
                have a2 := same_new (o := .tup [.str (Str.ofString "take"), .int (-1)]) h2
                have a3 := same_new (o := .tup [.str (Str.ofString "take"), .bl true]) h3
                have a4 := same_new (o := .tup [.str (Str.ofString "give"), .non]) h4
                have a5 := same_new (o := .tup [.str (Str.ofString "fall")]) h5
                have a6 := same_new (o := .tup [.str (Str.ofString "hold"), .int 0]) h6
                have a7 := same_new (o := .lst [.ref t1, .ref t2, .ref t3, .ref t4, .ref t5, .ref t6, .str (Str.ofString "take"), .non]) hl1
                have a67 := a6.trans a7
                have a57 := a5.trans a67
                have a47 := a4.trans a57
                have a37 := a3.trans a47
                have a27 := a2.trans a37
                have a17 := a1.trans a27
                refine ⟨W, l1, _, _, rfl, rfl, a17 _ _ eW, upd_same, by rw [lW, sizeLine_eq]; show _ + 8 ≤ _; omega, ?_⟩
                show S10 D _ _
                generalize hxs28 : ws1 ++ ws2 ++ [V.ref t1, .ref t2, .ref t3, .ref t4, .ref t5, .ref t6, .str (Str.ofString "take"), .non] = xs28
                have g17 := hb14.same z20 |>.visM a17
                have m17 : Same (hid W (vis b H20)) (hid W (vis b _)) := hid_mono g17
                have z27 := z20.trans a17
                have nw : ∀ (p : Addr) (o : HO), H14 p = none → _ = some o → (∀ ps, o ≠ .tbl ps) → p ≠ W → hid W (vis b _) p = some o := fun p o h1 h2 m n => hid_at (hb14.vis_new z27 h1 h2 m) n
                have nt1 := ne_of_none eW h1
                have nt2 := ne_of_none (a1 _ _ eW) h2
                have nt3 := ne_of_none ((a1.trans a2) _ _ eW) h3
                have nt4 := ne_of_none ((a1.trans (a2.trans a3)) _ _ eW) h4
                have nt5 := ne_of_none ((a1.trans (a2.trans (a3.trans a4))) _ _ eW) h5
                have nt6 := ne_of_none ((a1.trans (a2.trans (a3.trans (a4.trans a5)))) _ _ eW) h6
                have k1 := nw t1 _ (back z20 h1) (a27 _ _ upd_same) (fun ps z => nomatch z) (Ne.symm nt1)
                have k2 := nw t2 _ (back (z20.trans a1) h2) (a37 _ _ upd_same) (fun ps z => nomatch z) (Ne.symm nt2)
                have k3 := nw t3 _ (back (z20.trans (a1.trans a2)) h3) (a47 _ _ upd_same) (fun ps z => nomatch z) (Ne.symm nt3)
                have k4 := nw t4 _ (back (z20.trans (a1.trans (a2.trans a3))) h4) (a57 _ _ upd_same) (fun ps z => nomatch z) (Ne.symm nt4)
                have k5 := nw t5 _ (back (z20.trans (a1.trans (a2.trans (a3.trans a4)))) h5) (a67 _ _ upd_same) (fun ps z => nomatch z) (Ne.symm nt5)
                have k6 := nw t6 _ (back (z20.trans (a1.trans (a2.trans (a3.trans (a4.trans a5))))) h6) (a7 _ _ upd_same) (fun ps z => nomatch z) (Ne.symm nt6)
                have eW27 := a17 _ _ eW
                have eLf27 := a17 _ _ eLf20
                have eWv := hb14.vis_new z27 hW14 eW27 fun ps z => nomatch z
                clear nw nt1 nt2 nt3 nt4 nt5 nt6 a1 a2 a3 a4 a5 a6 a7 a67 a57 a47 a37 a27 a17 g17
                revert m17 z27 k1 k2 k3 k4 k5 k6 eW27 eLf27 eWv
                generalize upd (upd (upd (upd (upd (upd (upd H20 t1 _) t2 _) t3 _) t4 _) t5 _) t6 _) l1 _ = H27
                intro m17 z27 k1 k2 k3 k4 k5 k6 eW27 eLf27 eWv
                have bad2 : ∀ v ∈ xs28, BadV K (hid W (vis b H27)) (n0 + 1) held v := by
                  intro v hv
                  rw [← hxs28] at hv
                  rcases List.mem_append.mp hv with hv | hv
                  · exact (bad1 v hv).same m17
                  · simp only [List.mem_cons, List.not_mem_nil, or_false] at hv
                    rcases hv with rfl | rfl | rfl | rfl | rfl | rfl | rfl | rfl
                    · exact bad_key (o := some (((n0 + 1 : Nat) : Int))) k1 (by simp) rfl (by simp [below])
                    · exact bad_key (o := some (-1)) k2 (by simp) rfl (by simp [below])
                    · exact bad_key k3 (by simp) (not_bl true) rfl
                    · exact bad_key k4 (by simp) not_non rfl
                    · exact bad_len k5 (by simp)
                    · exact .no (.noWhat (.inr (.inl (.inl k6))) (by decide +kernel))
                    · exact bad_sc (.str _)
                    · exact bad_sc .non
                generalize hH28 : upd H27 W (.lst xs28) = H28
                have hv28 : vis b H28 = upd (vis b H27) W (.lst xs28) := by
                  rw [← hH28]
                  exact vis_put eWv fun ps z => nomatch z
                have eW28 : vis b H28 W = some (.lst xs28) := by rw [hv28, upd_same]
                have bad3 : ∀ v ∈ xs28, BadV K (hid W (vis b H28)) (n0 + 1) held v := by
                  rw [hv28, hid_upd]
                  exact bad2
                have hb28 : Bx b H28 := by
                  rw [← hH28]
                  exact (hb14.same z27).put (vis_hbx eWv)
                have tb28 : LamX.Tabs [(Pt, lamQ)] H28 := by
                  rw [← hH28]
                  exact tabs_put (tb14.ext z27) eW27
                have eLf28 : H28 Lf = some (.lst (nvs fr)) := by
                  rw [← hH28, upd_ne (fun z => ?_)]
                  · exact eLf27
                  · rw [z] at eLf20
                    exact ne_of_none (s19 _ _ (s18 _ _ (e17 _ _ (s16 _ _ eLf)))) hW z
                have V28 : Same (hid W (vis b H14)) (hid W (vis b H28)) := by
                  rw [hv28, hid_upd]
                  exact hid_mono (hb14.visM z27)
                have l28 : xs28.length ≤ 400 := by
                  rw [← hxs28, List.length_append, lW]
                  show _ + 8 ≤ 400
                  have h1 : (bits held).length ≤ _ := List.length_filter_le _ _
                  have h2 := bits_lt (m := held) (by omega)
                  have h3 := List.length_filter_le (fun k => !held.testBit k) (List.range (n0 + 1))
                  rw [hfr, List.length_range] at h3
                  rw [List.length_range] at h1
                  omega
                subst hS10
                (try simp only [tVar, tC, tOp, tUn, rI, rI0, rU, rEq, rNe, scal, tTest, tB, tAnd, tOr, tNot, tAndV, tOrV, tNotV, tIf, tChain, tNil, tCons, tCB, tCall, tTup, tLst, tRet, tRetN, tDrop, tSeq, tNext, tIfS, tAsg, gName, tPar, tPar3, gNil, gCons, gTup, gSub, tAug, tSl, tNoPart, tPart, tBM, tBM0, tYes, tIsP, iSeq, iEnumA, RZ.iZipA, iRng1, iRng2, iList, iTup, rIsi, rIsB, rIxL, rIxT, rIxA, rLenA, rListOf, rTupOf, rSetL, rSlL, rCat, rAppend, tFld, sFld, tMake, tBits, Int.ofNat_inj, cast1, cast0, TruV, cxOf, Cx.nox, Cx.wish, tNever, tBreak, tCont, ipI, tDIn, tDNotIn, sDPut, tDNewT, tDNewK, tDGet, rSortedPO, rSortedI, rIn, rEqD, rNeD, rInD, rNotInD, tSSet, rIsV, rIntI, rIntB, rAbsN, tLstRg, tRg1, tRg2, List.append_nil, List.nil_append, List.cons_append, Option.some.injEq, exists_eq_left', exists_eq_left, exists_eq_right, exists_eq_right', List.getElem?_cons_zero, List.getElem?_cons_succ, List.set_cons_zero, List.set_cons_succ, List.cons.injEq, and_true, true_and, exists_and_left, exists_and_right, and_assoc, V.int.injEq, V.bl.injEq, V.ref.injEq, V.str.injEq, reduceCtorEq, decide_true, decide_false, Bool.not_true, Bool.not_false, Bool.false_eq_true, if_false, if_true, ite_true, ite_false, List.length_cons, List.length_nil, tRaise, tErr, LamX.tLam, TTe])
                refine ⟨ty_lst (.of (vis_le _ _ _ _ eW28)), by decide, fun t1 h1 => ⟨by decide, fun t2 h2 => ?_⟩⟩
                have a1 := same_new (o := .tup [.str (Str.ofString "take"), .int 0, .int 0]) h1
                have a2 := same_new (o := .lst []) h2
                refine ⟨_, .lst (.of ((a1.trans a2) _ _ eLf28)) (dp_nvs fr), _, .lst (.of upd_same) .nil, shaped_nats fr, by decide, ?_⟩
                rcases fr with _ | ⟨f0, fr⟩
                all_goals first | refine iteT ⟨_, .of ((a1.trans a2) _ _ eLf28), _, atI_nat (j := 0) rfl, ?_⟩ | refine iteF ?_
                all_goals
                  generalize hy : HO.tup [V.str (Str.ofString "give"), _, V.int 0] = o3
                  refine ⟨by decide, fun t3 h3 => ⟨by decide, fun t4 h4 => ⟨by decide, fun t5 h5 => ⟨by decide, fun t6 h6 => ⟨by decide, fun t7 h7 => ⟨by decide, fun l1 hl1 => ?_⟩⟩⟩⟩⟩⟩
                  have a3 := same_new (o := o3) h3
                  have a4 := same_new (o := .tup [.int 0, .str (Str.ofString "take")]) h4
                  have a5 := same_new (o := .lst [.non, .int 0]) h5
                  have a6 := same_new (o := .lst [.str (Str.ofString "take")]) h6
                  have a7 := same_new (o := .tup [.ref t6, .int 0]) h7
                  have a8 := same_new (o := .lst [.ref t1, .ref t3, .int 7, .ref t4, .ref t5, .ref t7]) hl1
                  have a78 := a7.trans a8
                  have a68 := a6.trans a78
                  have a58 := a5.trans a68
                  have a48 := a4.trans a58
                  have a38 := a3.trans a48
                  have a28 := a2.trans a38
                  have a18 := a1.trans a28
                  have eWf := vis_le _ _ _ _ eW28
                  refine ⟨W, l1, _, _, rfl, rfl, a18 _ _ eWf, upd_same, by rw [sizeLine_eq]; show _ + 6 ≤ _; omega, ?_⟩
                  show F8 D _ _
                  have z28 := a18
                  have g18 := hb28.visM a18
                  have nw : ∀ (p : Addr) (o : HO), H28 p = none → _ = some o → (∀ ps, o ≠ .tbl ps) → p ≠ W → hid W (vis b _) p = some o := fun p o h1 h2 m n => hid_at (hb28.vis_new z28 h1 h2 m) n
                  have k1 := nw t1 _ h1 (a28 _ _ upd_same) (fun ps z => nomatch z) (Ne.symm (ne_of_none eWf h1))
                  have k3 := nw t3 _ (back (a1.trans a2) h3) (a48 _ _ upd_same) (fun ps z => by rw [← hy] at z; cases z) (Ne.symm (ne_of_none ((a1.trans a2) _ _ eWf) h3))
                  have k4 := nw t4 _ (back (a1.trans (a2.trans a3)) h4) (a58 _ _ upd_same) (fun ps z => nomatch z) (Ne.symm (ne_of_none ((a1.trans (a2.trans a3)) _ _ eWf) h4))
                  have k5 := nw t5 _ (back (a1.trans (a2.trans (a3.trans a4))) h5) (a68 _ _ upd_same) (fun ps z => nomatch z) (Ne.symm (ne_of_none ((a1.trans (a2.trans (a3.trans a4))) _ _ eWf) h5))
                  have k6 := nw t6 _ (back (a1.trans (a2.trans (a3.trans (a4.trans a5)))) h6) (a78 _ _ upd_same) (fun ps z => nomatch z) (Ne.symm (ne_of_none ((a1.trans (a2.trans (a3.trans (a4.trans a5)))) _ _ eWf) h6))
                  have k7 := nw t7 _ (back (a1.trans (a2.trans (a3.trans (a4.trans (a5.trans a6))))) h7) (a8 _ _ upd_same) (fun ps z => nomatch z) (Ne.symm (ne_of_none ((a1.trans (a2.trans (a3.trans (a4.trans (a5.trans a6))))) _ _ eWf) h7))
                  have eW36 := a18 _ _ eWf
                  clear nw a1 a2 a3 a4 a5 a6 a7 a8 a78 a68 a58 a48 a38 a28 a18
                  revert g18 z28 k1 k3 k4 k5 k6 k7 eW36
                  generalize upd (upd (upd (upd (upd (upd (upd (upd H28 t1 _) t2 _) t3 _) t4 _) t5 _) t6 _) t7 _) l1 _ = H36
                  intro z28 g18 k1 k3 k4 k5 k6 k7 eW36
                  have bad4 : ∀ v ∈ xs28 ++ [V.ref t1, .ref t3, .int 7, .ref t4, .ref t5, .ref t7], BadV K (hid W (vis b H36)) (n0 + 1) held v := by
                    intro v hv
                    rcases List.mem_append.mp hv with hv | hv
                    · exact (bad3 v hv).same (hid_mono g18)
                    · simp only [List.mem_cons, List.not_mem_nil, or_false] at hv
                      rcases hv with rfl | rfl | rfl | rfl | rfl | rfl
                      · exact bad_len k1 (by simp)
                      · rw [← hy] at k3
                        exact bad_len k3 (by simp)
                      · exact bad_sc (.int _)
                      · exact .no (.noText (.inr (.inl (.inl k4))) (.base (.int _)) (kit_ty (by decide +kernel)))
                      · exact .no (.noText (.inl (.inl (.inl k5))) (.base .non) (kit_ty (by decide +kernel)))
                      · exact .no (.noText (.inr (.inl (.inl k7))) (.base (.lst k6)) (kit_ty (by decide +kernel)))
                  have eWv := g18 _ _ eW28
                  have ev := vis_put (u := .lst (xs28 ++ [V.ref t1, .ref t3, .int 7, .ref t4, .ref t5, .ref t7])) eWv fun ps z => nomatch z
                  have hs := hid_le W (vis b (upd H36 W (.lst (xs28 ++ [V.ref t1, .ref t3, .int 7, .ref t4, .ref t5, .ref t7]))))
                  have v9 : Same (vis b H9) (vis b (upd H36 W (.lst (xs28 ++ [V.ref t1, .ref t3, .int 7, .ref t4, .ref t5, .ref t7])))) := fun c o hc => by
                    have hc14 := v14 _ _ hc
                    have nW : c ≠ W := fun z => by rw [z, vis_free hW14] at hc14; cases hc14
                    exact hid_le _ _ _ _ (by rw [ev, hid_upd]; exact hid_mono g18 _ _ (V28 _ _ (hid_at hc14 nW)))
                  refine p8 _ W _ y10 y12 _ _ y16 y17 ((hb28.same z28).put (vis_hbx eWv)) (tabs_put (tb28.ext z28) eW36) v9 (by rw [ev, upd_same]) (fun v hv => (bad4 v hv).same ?_) (by rw [List.length_append]; show _ + 6 ≤ _; omega) hs199
                  rw [ev]
                  exact fun c o hc => hid_le _ _ _ _ (by rw [hid_upd]; exact hc)
          (try simp only [tVar, tC, tOp, tUn, rI, rI0, rU, rEq, rNe, scal, tTest, tB, tAnd, tOr, tNot, tAndV, tOrV, tNotV, tIf, tChain, tNil, tCons, tCB, tCall, tTup, tLst, tRet, tRetN, tDrop, tSeq, tNext, tIfS, tAsg, gName, tPar, tPar3, gNil, gCons, gTup, gSub, tAug, tSl, tNoPart, tPart, tBM, tBM0, tYes, tIsP, iSeq, iEnumA, RZ.iZipA, iRng1, iRng2, iList, iTup, rIsi, rIsB, rIxL, rIxT, rIxA, rLenA, rListOf, rTupOf, rSetL, rSlL, rCat, rAppend, tFld, sFld, tMake, tBits, Int.ofNat_inj, cast1, cast0, TruV, cxOf, Cx.nox, Cx.wish, tNever, tBreak, tCont, ipI, tDIn, tDNotIn, sDPut, tDNewT, tDNewK, tDGet, rSortedPO, rSortedI, rIn, rEqD, rNeD, rInD, rNotInD, tSSet, rIsV, rIntI, rIntB, rAbsN, tLstRg, tRg1, tRg2, List.append_nil, List.nil_append, List.cons_append, Option.some.injEq, exists_eq_left', exists_eq_left, exists_eq_right, exists_eq_right', List.getElem?_cons_zero, List.getElem?_cons_succ, List.set_cons_zero, List.set_cons_succ, List.cons.injEq, and_true, true_and, exists_and_left, exists_and_right, and_assoc, V.int.injEq, V.bl.injEq, V.ref.injEq, V.str.injEq, reduceCtorEq, decide_true, decide_false, Bool.not_true, Bool.not_false, Bool.false_eq_true, if_false, if_true, ite_true, ite_false, List.length_cons, List.length_nil, tRaise, tErr, LamX.tLam, TTe])
          have x13 : LamX.ExtN H9 H13 := .of (e9.trans e13)
          split
          · rename_i h1000
            rw [decide_eq_true_eq] at h1000
            refine ⟨tb12.ext e13, fun H14 e14 tb14 => ?_⟩
            have x14 := x13.trans e14
            have eL14 := e14 _ _ (e13 _ _ eL12) (fun ps z => nomatch z)
            have l1000 : xs.length = 1000 := by
              rw [ts9.length, ln9]
              omega
            have hx0 : xs[0]? = some xs[0] := List.getElem?_eq_getElem (by omega)
            have hk14 := (hk9.same (hb9.visE x14)).same (vis_le b H14)
            refine ⟨xs, .of eL14, xs[0], atI_nat (j := 0) hx0, by decide, fun p hp => ⟨xs, same_new hp _ _ eL14, _, upd_same, by rw [sizeLine_eq, List.length_singleton]; omega, fun p1 hp1 => ?_⟩⟩
            have e16 := (same_new (o := .lst [xs[0]]) hp).trans (same_new (o := .lst (xs ++ [xs[0]])) hp1)
            refine ⟨.ref x, .ref p1, rfl, .inr ⟨x, n0 + 1, qs, _, rfl, hk14.same e16, by omega, .long (.inl (.of upd_same)) (by rw [List.length_append, List.length_singleton]; omega), ⟨(show (0 : Nat) < 2 ^ 62 by decide), (show (0 : Nat) < 2 ^ 62 by decide)⟩, fun i2 e2 H7 d7 s7 hd7 => ?_, fun z => nomatch z⟩⟩
            have e3 : (-1 : Int) = i2 := Option.some.inj e2
            refine ans_row T hd7 fun H18 p8 s8 e8 => ⟨by decide, fun p9 hp9 => ?_⟩
            rw [← e3] at e8
            have s9 := same_new (o := .tup [.str (Str.ofString "row"), .int (-1)]) hp9
            refine ⟨_, _, rfl, TD.strint (s9 _ _ e8) upd_same, fun H19 s19 => ?_⟩
            (try simp only [tVar, tC, tOp, tUn, rI, rI0, rU, rEq, rNe, scal, tTest, tB, tAnd, tOr, tNot, tAndV, tOrV, tNotV, tIf, tChain, tNil, tCons, tCB, tCall, tTup, tLst, tRet, tRetN, tDrop, tSeq, tNext, tIfS, tAsg, gName, tPar, tPar3, gNil, gCons, gTup, gSub, tAug, tSl, tNoPart, tPart, tBM, tBM0, tYes, tIsP, iSeq, iEnumA, RZ.iZipA, iRng1, iRng2, iList, iTup, rIsi, rIsB, rIxL, rIxT, rIxA, rLenA, rListOf, rTupOf, rSetL, rSlL, rCat, rAppend, tFld, sFld, tMake, tBits, Int.ofNat_inj, cast1, cast0, TruV, cxOf, Cx.nox, Cx.wish, tNever, tBreak, tCont, ipI, tDIn, tDNotIn, sDPut, tDNewT, tDNewK, tDGet, rSortedPO, rSortedI, rIn, rEqD, rNeD, rInD, rNotInD, tSSet, rIsV, rIntI, rIntB, rAbsN, tLstRg, tRg1, tRg2, List.append_nil, List.nil_append, List.cons_append, Option.some.injEq, exists_eq_left', exists_eq_left, exists_eq_right, exists_eq_right', List.getElem?_cons_zero, List.getElem?_cons_succ, List.set_cons_zero, List.set_cons_succ, List.cons.injEq, and_true, true_and, exists_and_left, exists_and_right, and_assoc, V.int.injEq, V.bl.injEq, V.ref.injEq, V.str.injEq, reduceCtorEq, decide_true, decide_false, Bool.not_true, Bool.not_false, Bool.false_eq_true, if_false, if_true, ite_true, ite_false, List.length_cons, List.length_nil, tRaise, tErr, LamX.tLam, TTe])
            have s59 := ((e16.trans (s7.trans s8)).trans s9).trans s19
            exact p7 H19 (x14.trans (.of s59)) (tb14.ext s59)
          · exact p7 H13 x13 (tb12.ext e13)
        subst hF5
        refine forSF (fun H1 p => ∃ r2 r3, Same H12 H1 ∧ H1 p = some (.lst [.ref L, .ref r2, r3]) ∧ ∀ v ∈ [V.ref L, .ref r2, r3], RowIs K H1 (n0 + 1) v (none, held, had)) (fun R h => ?_) fun H1 p ⟨r2, r3, s1, ep, hv⟩ => ?_
        · (try simp only [tVar, tC, tOp, tUn, rI, rI0, rU, rEq, rNe, scal, tTest, tB, tAnd, tOr, tNot, tAndV, tOrV, tNotV, tIf, tChain, tNil, tCons, tCB, tCall, tTup, tLst, tRet, tRetN, tDrop, tSeq, tNext, tIfS, tAsg, gName, tPar, tPar3, gNil, gCons, gTup, gSub, tAug, tSl, tNoPart, tPart, tBM, tBM0, tYes, tIsP, iSeq, iEnumA, RZ.iZipA, iRng1, iRng2, iList, iTup, rIsi, rIsB, rIxL, rIxT, rIxA, rLenA, rListOf, rTupOf, rSetL, rSlL, rCat, rAppend, tFld, sFld, tMake, tBits, Int.ofNat_inj, cast1, cast0, TruV, cxOf, Cx.nox, Cx.wish, tNever, tBreak, tCont, ipI, tDIn, tDNotIn, sDPut, tDNewT, tDNewK, tDGet, rSortedPO, rSortedI, rIn, rEqD, rNeD, rInD, rNotInD, tSSet, rIsV, rIntI, rIntB, rAbsN, tLstRg, tRg1, tRg2, List.append_nil, List.nil_append, List.cons_append, Option.some.injEq, exists_eq_left', exists_eq_left, exists_eq_right, exists_eq_right', List.getElem?_cons_zero, List.getElem?_cons_succ, List.set_cons_zero, List.set_cons_succ, List.cons.injEq, and_true, true_and, exists_and_left, exists_and_right, and_assoc, V.int.injEq, V.bl.injEq, V.ref.injEq, V.str.injEq, reduceCtorEq, decide_true, decide_false, Bool.not_true, Bool.not_false, Bool.false_eq_true, if_false, if_true, ite_true, ite_false, List.length_cons, List.length_nil, tRaise, tErr, LamX.tLam, TTe])
          refine ⟨_, .inl ⟨.of eL12, fun r2 hr2 => ?_⟩⟩
          have e2' := same_new (o := .tup xs) hr2
          refine ⟨_, H12, rfl, e2', TSteps.lv eL12 lx ts12, fun H2 r3 s2 hc => ⟨by decide, fun p hp => ?_⟩⟩
          have e3 := same_new (o := .lst [.ref L, .ref r2, r3]) hp
          have e23 := (e2'.trans s2).trans e3
          obtain ⟨p3, ys, rfl, ep3, hys⟩ := lists_row eL12 ts12 hc
          refine h _ p ⟨r2, _, e23, upd_same, fun v hv => ?_⟩
          have st3 : Paired (fun x s => StepAt K (upd H2 p (.lst [.ref L, .ref r2, .ref p3])) (n0 + 1) x (some s)) xs os := Paired.mapP st12 fun _ _ z => z.same e23
          simp only [List.mem_cons, List.not_mem_nil, or_false] at hv
          rcases hv with rfl | rfl | rfl
          · exact RowIs.goes (.inl (.inl (.inl (e23 _ _ eL12)))) lx st3 wk9
          · exact RowIs.goes (.inr (.inl (.inl (e3 _ _ (s2 _ _ upd_same))))) lx st3 wk9
          · exact RowIs.goes (.inl (.inl (.inl (e3 _ _ ep3)))) (by rw [hys.length, ln9]; omega) (Paired.mapP hys fun _ _ z => z.same e3) wk9
        · refine ⟨p, _, fun i2 σ' H' => ∃ y12, σ' = [some (V.ref a), some (V.ref b), some (nv i), some (nv (n0 + 1)), some (V.ref x), some (.ref L), some (nv held), some (nv had), some (nv size), y9, y10, some (.ref du), y12, y13, y14, y15, y16, y17] ∧ Same H1 H', H1, rfl, ⟨_, rfl, Same.refl _⟩, .inl (.of ep), fun i2 σ' H' h => ?_, ?_, ?_⟩
          · obtain ⟨_, _, sm⟩ := h
            exact sm
          · rintro i2 v σ' H' hx2 ⟨y12, rfl, sm⟩
            (try simp only [tVar, tC, tOp, tUn, rI, rI0, rU, rEq, rNe, scal, tTest, tB, tAnd, tOr, tNot, tAndV, tOrV, tNotV, tIf, tChain, tNil, tCons, tCB, tCall, tTup, tLst, tRet, tRetN, tDrop, tSeq, tNext, tIfS, tAsg, gName, tPar, tPar3, gNil, gCons, gTup, gSub, tAug, tSl, tNoPart, tPart, tBM, tBM0, tYes, tIsP, iSeq, iEnumA, RZ.iZipA, iRng1, iRng2, iList, iTup, rIsi, rIsB, rIxL, rIxT, rIxA, rLenA, rListOf, rTupOf, rSetL, rSlL, rCat, rAppend, tFld, sFld, tMake, tBits, Int.ofNat_inj, cast1, cast0, TruV, cxOf, Cx.nox, Cx.wish, tNever, tBreak, tCont, ipI, tDIn, tDNotIn, sDPut, tDNewT, tDNewK, tDGet, rSortedPO, rSortedI, rIn, rEqD, rNeD, rInD, rNotInD, tSSet, rIsV, rIntI, rIntB, rAbsN, tLstRg, tRg1, tRg2, List.append_nil, List.nil_append, List.cons_append, Option.some.injEq, exists_eq_left', exists_eq_left, exists_eq_right, exists_eq_right', List.getElem?_cons_zero, List.getElem?_cons_succ, List.set_cons_zero, List.set_cons_succ, List.cons.injEq, and_true, true_and, exists_and_left, exists_and_right, and_assoc, V.int.injEq, V.bl.injEq, V.ref.injEq, V.str.injEq, reduceCtorEq, decide_true, decide_false, Bool.not_true, Bool.not_false, Bool.false_eq_true, if_false, if_true, ite_true, ite_false, List.length_cons, List.length_nil, tRaise, tErr, LamX.tLam, TTe])
            have e1' := s1.trans sm
            refine ⟨.ref x, v, rfl, .inr ⟨x, n0 + 1, qs, _, rfl, hk12.same e1', by omega, (hv v (List.mem_of_getElem? hx2)).same sm, ⟨by show held < 2 ^ 62; omega, by show had < 2 ^ 62; omega⟩, (fun i e => nomatch e), fun _ H2 p2 a2 b2 s2 ea eb ep2 => ?_⟩⟩
            have e22 := e1'.trans s2
            refine ⟨_, _, rfl, TD.two ep2 (e22 _ _ edu) ea (e22 _ _ eq1') eb (e22 _ _ eq2'), fun H3 s3 => ?_⟩
            (try simp only [tVar, tC, tOp, tUn, rI, rI0, rU, rEq, rNe, scal, tTest, tB, tAnd, tOr, tNot, tAndV, tOrV, tNotV, tIf, tChain, tNil, tCons, tCB, tCall, tTup, tLst, tRet, tRetN, tDrop, tSeq, tNext, tIfS, tAsg, gName, tPar, tPar3, gNil, gCons, gTup, gSub, tAug, tSl, tNoPart, tPart, tBM, tBM0, tYes, tIsP, iSeq, iEnumA, RZ.iZipA, iRng1, iRng2, iList, iTup, rIsi, rIsB, rIxL, rIxT, rIxA, rLenA, rListOf, rTupOf, rSetL, rSlL, rCat, rAppend, tFld, sFld, tMake, tBits, Int.ofNat_inj, cast1, cast0, TruV, cxOf, Cx.nox, Cx.wish, tNever, tBreak, tCont, ipI, tDIn, tDNotIn, sDPut, tDNewT, tDNewK, tDGet, rSortedPO, rSortedI, rIn, rEqD, rNeD, rInD, rNotInD, tSSet, rIsV, rIntI, rIntB, rAbsN, tLstRg, tRg1, tRg2, List.append_nil, List.nil_append, List.cons_append, Option.some.injEq, exists_eq_left', exists_eq_left, exists_eq_right, exists_eq_right', List.getElem?_cons_zero, List.getElem?_cons_succ, List.set_cons_zero, List.set_cons_succ, List.cons.injEq, and_true, true_and, exists_and_left, exists_and_right, and_assoc, V.int.injEq, V.bl.injEq, V.ref.injEq, V.str.injEq, reduceCtorEq, decide_true, decide_false, Bool.not_true, Bool.not_false, Bool.false_eq_true, if_false, if_true, ite_true, ite_false, List.length_cons, List.length_nil, tRaise, tErr, LamX.tLam, TTe])
            exact sm.trans (s2.trans s3)
          · rintro σ' H' ⟨y12, rfl, sm⟩
            exact p6 D H' y12 (s1.trans sm) hQ hD
      split
      · refine ⟨by decide, fun p hp => pk _ p 1000 hp (.inl rfl) fun H8 size s8 hb8 tb8 hsz => p4 _ H8 size s8 hb8 tb8 (by omega) fun H9 xs os held had y9 y10 hb9 tb9 hk9 eL9 ts9 ln9 wk9 hh9 hd9 => ?_⟩
        exact p5 _ H9 xs os held had size y9 y10 hb9 tb9 hk9 eL9 ts9 ln9 hsz wk9 hh9 hd9 rfl fun H' z3 z4 z5 z6 z7 z8 z9 z10 z11 z12 z13 z14 z15 z16 z17 hb' tb' => ⟨⟨⟨_, _, _, _, _, _, _, _, _, _, _, _, _, _, _, _, rfl⟩, hb', tb'⟩, ⟨_, _, _, _, _, _, _, _, _, _, _, _, _, _, _, _, rfl⟩, hb', tb'⟩
      · refine ⟨by decide, fun p hp => pk _ p 3 hp (.inr rfl) fun H8 size s8 hb8 tb8 hsz => p4 _ H8 size s8 hb8 tb8 (by omega) fun H9 xs os held had y9 y10 hb9 tb9 hk9 eL9 ts9 ln9 wk9 hh9 hd9 => ?_⟩
        exact p5 _ H9 xs os held had size y9 y10 hb9 tb9 hk9 eL9 ts9 ln9 hsz wk9 hh9 hd9 rfl fun H' z3 z4 z5 z6 z7 z8 z9 z10 z11 z12 z13 z14 z15 z16 z17 hb' tb' => ⟨⟨⟨_, _, _, _, _, _, _, _, _, _, _, _, _, _, _, _, rfl⟩, hb', tb'⟩, ⟨_, _, _, _, _, _, _, _, _, _, _, _, _, _, _, _, rfl⟩, hb', tb'⟩
    · rintro σ' H2 ⟨y2, y3, y4, y5, y6, y7, y8, y9, y10, y11, y12, y13, y14, y15, y16, y17, rfl, hb2, tb2⟩
      exact p2 _ _ _ _ _ _ _ _ _ _ _ _ _ _ _ _ _ _ hb2 tb2 rfl
end
end Kr
namespace Kr
open PySem PySem.Spec PyProof.Rows L2 Kb
theorem along_of {K : PySem.W.Frag} {C : Addr} {oc : Value} {od : Option Addr} {cd : ClassData} {sl : Array (Option Value)} {l : List Value} {name : Str} {r : Option Value} (h1 : K.lookup C = some ⟨oc, od, .cls cd, sl⟩) (h2 : cd.mro = l) (h3 : PySem.W.findIn K (.ref C) name = some r) : PySem.W.alongIn K name l = some r := by
  unfold PySem.W.findIn at h3
  simp only [h1] at h3
  rw [← h2]
  exact h3
theorem init_InvalidKeys : Kx.IsInit s_InvalidKeys___init__ := ⟨_, _, _, _, _, _, _, _, _, _, _, _, _, rfl, rfl, rfl, fun env => ⟨_, rfl⟩⟩
theorem init_InvalidRow : Kx.IsInit s_InvalidRow___init__ := ⟨_, _, _, _, _, _, _, _, _, _, _, _, _, rfl, rfl, rfl, fun env => ⟨_, rfl⟩⟩
theorem all_mk {P : Program} {w : World} {K : PySem.W.Frag} {h : Heap} {mg : Str → Option Value} {fa : Addr} (X : K.In h) (G : h.Ns mainGlobals mg) (hfa : mg "law" = some (.ref fa)) (own : LamX.OwnTab K fa h)
    {c_WHATS : Addr}
    {c_RuleError : Addr}
    {c_Keys : Addr}
    {c_InvalidRow : Addr}
    {c_InvalidKeys : Addr}
    {f1 : Addr} {od1 an1 : Option Addr} {sl1 : Array (Option Value)} {oc1 kV1 dc1 pm1 ct1 : Value}
    {f2 : Addr} {od2 an2 : Option Addr} {sl2 : Array (Option Value)} {oc2 kV2 dc2 pm2 ct2 : Value}
    {f3 : Addr} {od3 an3 : Option Addr} {sl3 : Array (Option Value)} {oc3 kV3 dc3 pm3 cd3 ct3 : Value}
    {f4 : Addr} {od4 an4 : Option Addr} {sl4 : Array (Option Value)} {oc4 kV4 dc4 pm4 cd4 ct4 : Value}
    {f5 : Addr} {od5 an5 : Option Addr} {sl5 : Array (Option Value)} {oc5 kV5 dc5 pm5 cd5 ct5 : Value}
    {f6 : Addr} {od6 an6 : Option Addr} {sl6 : Array (Option Value)} {oc6 kV6 dc6 pm6 cd6 ct6 : Value}
    {f7 : Addr} {od7 an7 : Option Addr} {sl7 : Array (Option Value)} {oc7 kV7 dc7 pm7 cd7 ct7 : Value}
    {f8 : Addr} {od8 an8 : Option Addr} {sl8 : Array (Option Value)} {oc8 kV8 dc8 pm8 cd8 ct8 : Value}
    {f9 : Addr} {od9 an9 : Option Addr} {sl9 : Array (Option Value)} {oc9 kV9 dc9 pm9 cd9 ct9 : Value}
    {f10 : Addr} {od10 an10 : Option Addr} {sl10 : Array (Option Value)} {oc10 kV10 dc10 pm10 cd10 ct10 : Value}
    {f11 : Addr} {od11 an11 : Option Addr} {sl11 : Array (Option Value)} {oc11 kV11 dc11 pm11 cd11 ct11 : Value}
    {f12 : Addr} {od12 an12 : Option Addr} {sl12 : Array (Option Value)} {oc12 kV12 dc12 pm12 cd12 ct12 : Value}
    {f13 : Addr} {od13 an13 : Option Addr} {sl13 : Array (Option Value)} {oc13 kV13 dc13 pm13 cd13 ct13 : Value}
    {f14 : Addr} {od14 an14 : Option Addr} {sl14 : Array (Option Value)} {oc14 kV14 dc14 pm14 cd14 ct14 : Value}
    {f15 : Addr} {od15 an15 : Option Addr} {sl15 : Array (Option Value)} {oc15 kV15 dc15 pm15 cd15 ct15 : Value}
    {f16 : Addr} {od16 an16 : Option Addr} {sl16 : Array (Option Value)} {oc16 kV16 dc16 pm16 cd16 ct16 : Value}
    {f17 : Addr} {od17 an17 : Option Addr} {sl17 : Array (Option Value)} {oc17 kV17 dc17 pm17 cd17 ct17 : Value}
    {f18 : Addr} {od18 an18 : Option Addr} {sl18 : Array (Option Value)} {oc18 kV18 dc18 pm18 cd18 ct18 : Value}
    {f19 : Addr} {od19 an19 : Option Addr} {sl19 : Array (Option Value)} {oc19 kV19 dc19 pm19 cd19 ct19 : Value}
    {f20 : Addr} {od20 an20 : Option Addr} {sl20 : Array (Option Value)} {oc20 kV20 dc20 pm20 cd20 ct20 : Value}
    {f21 : Addr} {od21 an21 : Option Addr} {sl21 : Array (Option Value)} {oc21 kV21 dc21 pm21 cd21 ct21 : Value}
    {f22 : Addr} {od22 an22 : Option Addr} {sl22 : Array (Option Value)} {oc22 kV22 dc22 pm22 cd22 ct22 : Value}
    {f23 : Addr} {od23 an23 : Option Addr} {sl23 : Array (Option Value)} {oc23 kV23 dc23 pm23 cd23 ct23 : Value}
    {f24 : Addr} {od24 an24 : Option Addr} {sl24 : Array (Option Value)} {oc24 kV24 dc24 pm24 cd24 ct24 : Value}
    {f25 : Addr} {od25 an25 : Option Addr} {sl25 : Array (Option Value)} {oc25 kV25 dc25 pm25 cd25 ct25 : Value}
    {f26 : Addr} {od26 an26 : Option Addr} {sl26 : Array (Option Value)} {oc26 kV26 dc26 pm26 cd26 ct26 : Value}
    {f27 : Addr} {od27 an27 : Option Addr} {sl27 : Array (Option Value)} {oc27 kV27 dc27 pm27 cd27 ct27 : Value}
    {f28 : Addr} {od28 an28 : Option Addr} {sl28 : Array (Option Value)} {oc28 kV28 dc28 pm28 cd28 ct28 : Value}
    {f29 : Addr} {od29 an29 : Option Addr} {sl29 : Array (Option Value)} {oc29 kV29 dc29 pm29 cd29 ct29 : Value}
    {f30 : Addr} {od30 an30 : Option Addr} {sl30 : Array (Option Value)} {oc30 kV30 dc30 pm30 ct30 : Value}
    {cdL PtL : Addr} {eL : Value} {ddL : Option Addr} {vsL : Array Value} {slL : Array (Option Value)}
    {ne_InvalidKeys qe_InvalidKeys : Str} {Ne_InvalidKeys : Addr} {be_InvalidKeys : List Value} {sn_InvalidKeys : List Str} {su_InvalidKeys : List Value} {ab_InvalidKeys : Bool} {co_InvalidKeys : Option Bool} {dd_InvalidKeys : Option Addr} {m0_InvalidKeys m1_InvalidKeys m2_InvalidKeys m3_InvalidKeys m5_InvalidKeys : Option Value}
    {cda_InvalidKeys cc_InvalidKeys : Addr} {cl_InvalidKeys ccl_InvalidKeys : Value} {cld_InvalidKeys cdd_InvalidKeys : Option Addr} {csl_InvalidKeys ccs_InvalidKeys : Array (Option Value)} {vs_InvalidKeys : Array Value} {fi_InvalidKeys : Str} {tf_InvalidKeys : Tok}
    {ocB_RuleError : Value} {odB_RuleError : Option Addr} {cdB_RuleError : ClassData} {slB_RuleError : Array (Option Value)}
    {ne_InvalidRow qe_InvalidRow : Str} {Ne_InvalidRow : Addr} {be_InvalidRow : List Value} {sn_InvalidRow : List Str} {su_InvalidRow : List Value} {ab_InvalidRow : Bool} {co_InvalidRow : Option Bool} {dd_InvalidRow : Option Addr} {m0_InvalidRow m1_InvalidRow m2_InvalidRow m3_InvalidRow m5_InvalidRow : Option Value}
    {cda_InvalidRow cc_InvalidRow : Addr} {cl_InvalidRow ccl_InvalidRow : Value} {cld_InvalidRow cdd_InvalidRow : Option Addr} {csl_InvalidRow ccs_InvalidRow : Array (Option Value)} {vs_InvalidRow : Array Value} {fi_InvalidRow : Str} {tf_InvalidRow : Tok}
    {t_MOST_KEYS : Tok}
    {t_MOST_STEPS : Tok}
    {w0_WHATS w1_WHATS : Tok} {od_WHATS : Option Addr} {nn_WHATS : Nat} {sl_WHATS : Array (Option Value)}
    (aC_WHATS : PySem.W.nsIn K mainGlobals "WHATS" = some (some (.ref c_WHATS)))
    (aC_RuleError : PySem.W.nsIn K mainGlobals "RuleError" = some (some (.ref c_RuleError)))
    (aC_Keys : PySem.W.nsIn K mainGlobals "Keys" = some (some (.ref c_Keys)))
    (aC_InvalidRow : PySem.W.nsIn K mainGlobals "InvalidRow" = some (some (.ref c_InvalidRow)))
    (aC_InvalidKeys : PySem.W.nsIn K mainGlobals "InvalidKeys" = some (some (.ref c_InvalidKeys)))
    (a1 : PySem.W.findIn K (.ref c_InvalidKeys) "__init__" = some (some (.ref f1)))
    (i1 : PySem.W.isFn K (.ref f1) = true)
    (l1 : K.lookup f1 = some ⟨oc1, od1, .func (PySem.W.ksFn "__init__" "InvalidKeys.__init__" (L2.defArgs s_InvalidKeys___init__) (L2.defBody s_InvalidKeys___init__) (L2.defScope s_InvalidKeys___init__) .none kV1 dc1 pm1 an1 (.ref cda_InvalidKeys) ct1 cc_InvalidKeys), sl1⟩)
    (c1 : PySem.W.codeIn K (.ref cda_InvalidKeys) "InvalidKeys.__init__" = true)
    (a2 : PySem.W.findIn K (.ref c_InvalidRow) "__init__" = some (some (.ref f2)))
    (i2 : PySem.W.isFn K (.ref f2) = true)
    (l2 : K.lookup f2 = some ⟨oc2, od2, .func (PySem.W.ksFn "__init__" "InvalidRow.__init__" (L2.defArgs s_InvalidRow___init__) (L2.defBody s_InvalidRow___init__) (L2.defScope s_InvalidRow___init__) .none kV2 dc2 pm2 an2 (.ref cda_InvalidRow) ct2 cc_InvalidRow), sl2⟩)
    (c2 : PySem.W.codeIn K (.ref cda_InvalidRow) "InvalidRow.__init__" = true)
    (a3 : PySem.W.nsIn K mainGlobals "is_integer" = some (some (.ref f3)))
    (l3 : K.lookup f3 = some ⟨oc3, od3, .func (PySem.W.fnOf "is_integer" "is_integer" (defArgs s_is_integer) (defBody s_is_integer) (defScope s_is_integer) .none kV3 dc3 pm3 an3 cd3 ct3), sl3⟩)
    (c3 : PySem.W.codeIn K cd3 "is_integer" = true)
    (k3 : PySem.W.keepIn K (.ref f3) = true)
    (a4 : PySem.W.nsIn K mainGlobals "is_below" = some (some (.ref f4)))
    (l4 : K.lookup f4 = some ⟨oc4, od4, .func (PySem.W.fnOf "is_below" "is_below" (defArgs s_is_below) (defBody s_is_below) (defScope s_is_below) .none kV4 dc4 pm4 an4 cd4 ct4), sl4⟩)
    (c4 : PySem.W.codeIn K cd4 "is_below" = true)
    (k4 : PySem.W.keepIn K (.ref f4) = true)
    (a5 : PySem.W.nsIn K mainGlobals "is_between" = some (some (.ref f5)))
    (l5 : K.lookup f5 = some ⟨oc5, od5, .func (PySem.W.fnOf "is_between" "is_between" (defArgs s_is_between) (defBody s_is_between) (defScope s_is_between) .none kV5 dc5 pm5 an5 cd5 ct5), sl5⟩)
    (c5 : PySem.W.codeIn K cd5 "is_between" = true)
    (k5 : PySem.W.keepIn K (.ref f5) = true)
    (a6 : PySem.W.nsIn K mainGlobals "is_sequence" = some (some (.ref f6)))
    (l6 : K.lookup f6 = some ⟨oc6, od6, .func (PySem.W.fnOf "is_sequence" "is_sequence" (defArgs s_is_sequence) (defBody s_is_sequence) (defScope s_is_sequence) .none kV6 dc6 pm6 an6 cd6 ct6), sl6⟩)
    (c6 : PySem.W.codeIn K cd6 "is_sequence" = true)
    (k6 : PySem.W.keepIn K (.ref f6) = true)
    (a7 : PySem.W.nsIn K mainGlobals "is_row" = some (some (.ref f7)))
    (l7 : K.lookup f7 = some ⟨oc7, od7, .func (PySem.W.fnOf "is_row" "is_row" (defArgs s_is_row) (defBody s_is_row) (defScope s_is_row) .none kV7 dc7 pm7 an7 cd7 ct7), sl7⟩)
    (c7 : PySem.W.codeIn K cd7 "is_row" = true)
    (k7 : PySem.W.keepIn K (.ref f7) = true)
    (a8 : PySem.W.nsIn K mainGlobals "is_text" = some (some (.ref f8)))
    (l8 : K.lookup f8 = some ⟨oc8, od8, .func (PySem.W.fnOf "is_text" "is_text" (defArgs s_is_text) (defBody s_is_text) (defScope s_is_text) .none kV8 dc8 pm8 an8 cd8 ct8), sl8⟩)
    (c8 : PySem.W.codeIn K cd8 "is_text" = true)
    (k8 : PySem.W.keepIn K (.ref f8) = true)
    (a9 : PySem.W.nsIn K mainGlobals "lot_of" = some (some (.ref f9)))
    (l9 : K.lookup f9 = some ⟨oc9, od9, .func (PySem.W.fnOf "lot_of" "lot_of" (defArgs s_lot_of) (defBody s_lot_of) (defScope s_lot_of) .none kV9 dc9 pm9 an9 cd9 ct9), sl9⟩)
    (c9 : PySem.W.codeIn K cd9 "lot_of" = true)
    (k9 : PySem.W.keepIn K (.ref f9) = true)
    (a10 : PySem.W.findIn K (.ref c_Keys) "__init__" = some (some (.ref f10)))
    (i10 : PySem.W.isFn K (.ref f10) = true)
    (l10 : K.lookup f10 = some ⟨oc10, od10, .func (PySem.W.fnOf "__init__" "Keys.__init__" (defArgs s_Keys___init__) (defBody s_Keys___init__) (defScope s_Keys___init__) .none kV10 dc10 pm10 an10 cd10 ct10), sl10⟩)
    (c10 : PySem.W.codeIn K cd10 "Keys.__init__" = true)
    (k10 : PySem.W.keepIn K (.ref f10) = true)
    (a11 : PySem.W.nsIn K mainGlobals "need_count" = some (some (.ref f11)))
    (l11 : K.lookup f11 = some ⟨oc11, od11, .func (PySem.W.fnOf "need_count" "need_count" (defArgs s_need_count) (defBody s_need_count) (defScope s_need_count) .none kV11 dc11 pm11 an11 cd11 ct11), sl11⟩)
    (c11 : PySem.W.codeIn K cd11 "need_count" = true)
    (k11 : PySem.W.keepIn K (.ref f11) = true)
    (a12 : PySem.W.nsIn K mainGlobals "told_clashes" = some (some (.ref f12)))
    (l12 : K.lookup f12 = some ⟨oc12, od12, .func (PySem.W.fnOf "told_clashes" "told_clashes" (defArgs s_told_clashes) (defBody s_told_clashes) (defScope s_told_clashes) .none kV12 dc12 pm12 an12 cd12 ct12), sl12⟩)
    (c12 : PySem.W.codeIn K cd12 "told_clashes" = true)
    (k12 : PySem.W.keepIn K (.ref f12) = true)
    (a13 : PySem.W.nsIn K mainGlobals "need_keys" = some (some (.ref f13)))
    (l13 : K.lookup f13 = some ⟨oc13, od13, .func (PySem.W.fnOf "need_keys" "need_keys" (defArgs s_need_keys) (defBody s_need_keys) (defScope s_need_keys) .none kV13 dc13 pm13 an13 cd13 ct13), sl13⟩)
    (c13 : PySem.W.codeIn K cd13 "need_keys" = true)
    (k13 : PySem.W.keepIn K (.ref f13) = true)
    (a14 : PySem.W.nsIn K mainGlobals "plain_keys" = some (some (.ref f14)))
    (l14 : K.lookup f14 = some ⟨oc14, od14, .func (PySem.W.fnOf "plain_keys" "plain_keys" (defArgs s_plain_keys) (defBody s_plain_keys) (defScope s_plain_keys) .none kV14 dc14 pm14 an14 cd14 ct14), sl14⟩)
    (c14 : PySem.W.codeIn K cd14 "plain_keys" = true)
    (k14 : PySem.W.keepIn K (.ref f14) = true)
    (a15 : PySem.W.nsIn K mainGlobals "is_step" = some (some (.ref f15)))
    (l15 : K.lookup f15 = some ⟨oc15, od15, .func (PySem.W.fnOf "is_step" "is_step" (defArgs s_is_step) (defBody s_is_step) (defScope s_is_step) .none kV15 dc15 pm15 an15 cd15 ct15), sl15⟩)
    (c15 : PySem.W.codeIn K cd15 "is_step" = true)
    (k15 : PySem.W.keepIn K (.ref f15) = true)
    (a16 : PySem.W.nsIn K mainGlobals "can_do" = some (some (.ref f16)))
    (l16 : K.lookup f16 = some ⟨oc16, od16, .func (PySem.W.fnOf "can_do" "can_do" (defArgs s_can_do) (defBody s_can_do) (defScope s_can_do) .none kV16 dc16 pm16 an16 cd16 ct16), sl16⟩)
    (c16 : PySem.W.codeIn K cd16 "can_do" = true)
    (k16 : PySem.W.keepIn K (.ref f16) = true)
    (a17 : PySem.W.nsIn K mainGlobals "held_behind" = some (some (.ref f17)))
    (l17 : K.lookup f17 = some ⟨oc17, od17, .func (PySem.W.fnOf "held_behind" "held_behind" (defArgs s_held_behind) (defBody s_held_behind) (defScope s_held_behind) .none kV17 dc17 pm17 an17 cd17 ct17), sl17⟩)
    (c17 : PySem.W.codeIn K cd17 "held_behind" = true)
    (k17 : PySem.W.keepIn K (.ref f17) = true)
    (a18 : PySem.W.nsIn K mainGlobals "had_behind" = some (some (.ref f18)))
    (l18 : K.lookup f18 = some ⟨oc18, od18, .func (PySem.W.fnOf "had_behind" "had_behind" (defArgs s_had_behind) (defBody s_had_behind) (defScope s_had_behind) .none kV18 dc18 pm18 an18 cd18 ct18), sl18⟩)
    (c18 : PySem.W.codeIn K cd18 "had_behind" = true)
    (k18 : PySem.W.keepIn K (.ref f18) = true)
    (a19 : PySem.W.nsIn K mainGlobals "walk_row" = some (some (.ref f19)))
    (l19 : K.lookup f19 = some ⟨oc19, od19, .func (PySem.W.fnOf "walk_row" "walk_row" (defArgs s_walk_row) (defBody s_walk_row) (defScope s_walk_row) .none kV19 dc19 pm19 an19 cd19 ct19), sl19⟩)
    (c19 : PySem.W.codeIn K cd19 "walk_row" = true)
    (k19 : PySem.W.keepIn K (.ref f19) = true)
    (a20 : PySem.W.nsIn K mainGlobals "row_ends" = some (some (.ref f20)))
    (l20 : K.lookup f20 = some ⟨oc20, od20, .func (PySem.W.fnOf "row_ends" "row_ends" (defArgs s_row_ends) (defBody s_row_ends) (defScope s_row_ends) .none kV20 dc20 pm20 an20 cd20 ct20), sl20⟩)
    (c20 : PySem.W.codeIn K cd20 "row_ends" = true)
    (k20 : PySem.W.keepIn K (.ref f20) = true)
    (a21 : PySem.W.nsIn K mainGlobals "_law_box" = some (some (.ref f21)))
    (l21 : K.lookup f21 = some ⟨oc21, od21, .func (PySem.W.fnOf "_law_box" "_law_box" (defArgs s__law_box) (defBody s__law_box) (defScope s__law_box) .none kV21 dc21 pm21 an21 cd21 ct21), sl21⟩)
    (c21 : PySem.W.codeIn K cd21 "_law_box" = true)
    (k21 : PySem.W.keepIn K (.ref f21) = true)
    (a22 : PySem.W.nsIn K mainGlobals "_law_take" = some (some (.ref f22)))
    (l22 : K.lookup f22 = some ⟨oc22, od22, .func (PySem.W.fnOf "_law_take" "_law_take" (defArgs s__law_take) (defBody s__law_take) (defScope s__law_take) .none kV22 dc22 pm22 an22 cd22 ct22), sl22⟩)
    (c22 : PySem.W.codeIn K cd22 "_law_take" = true)
    (k22 : PySem.W.keepIn K (.ref f22) = true)
    (a23 : PySem.W.nsIn K mainGlobals "_law_pick" = some (some (.ref f23)))
    (l23 : K.lookup f23 = some ⟨oc23, od23, .func (PySem.W.fnOf "_law_pick" "_law_pick" (defArgs s__law_pick) (defBody s__law_pick) (defScope s__law_pick) .none kV23 dc23 pm23 an23 cd23 ct23), sl23⟩)
    (c23 : PySem.W.codeIn K cd23 "_law_pick" = true)
    (k23 : PySem.W.keepIn K (.ref f23) = true)
    (a24 : PySem.W.nsIn K mainGlobals "_law_mixed" = some (some (.ref f24)))
    (l24 : K.lookup f24 = some ⟨oc24, od24, .func (PySem.W.fnOf "_law_mixed" "_law_mixed" (defArgs s__law_mixed) (defBody s__law_mixed) (defScope s__law_mixed) .none kV24 dc24 pm24 an24 cd24 ct24), sl24⟩)
    (c24 : PySem.W.codeIn K cd24 "_law_mixed" = true)
    (k24 : PySem.W.keepIn K (.ref f24) = true)
    (a25 : PySem.W.nsIn K mainGlobals "_law_is" = some (some (.ref f25)))
    (l25 : K.lookup f25 = some ⟨oc25, od25, .func (PySem.W.fnOf "_law_is" "_law_is" (defArgs s__law_is) (defBody s__law_is) (defScope s__law_is) .none kV25 dc25 pm25 an25 cd25 ct25), sl25⟩)
    (c25 : PySem.W.codeIn K cd25 "_law_is" = true)
    (k25 : PySem.W.keepIn K (.ref f25) = true)
    (a26 : PySem.W.nsIn K mainGlobals "_law_lists" = some (some (.ref f26)))
    (l26 : K.lookup f26 = some ⟨oc26, od26, .func (PySem.W.fnOf "_law_lists" "_law_lists" (defArgs s__law_lists) (defBody s__law_lists) (defScope s__law_lists) .none kV26 dc26 pm26 an26 cd26 ct26), sl26⟩)
    (c26 : PySem.W.codeIn K cd26 "_law_lists" = true)
    (k26 : PySem.W.keepIn K (.ref f26) = true)
    (a27 : PySem.W.nsIn K mainGlobals "_law_error" = some (some (.ref f27)))
    (l27 : K.lookup f27 = some ⟨oc27, od27, .func (PySem.W.fnOf "_law_error" "_law_error" (defArgs s__law_error) (defBody s__law_error) (defScope s__law_error) .none kV27 dc27 pm27 an27 cd27 ct27), sl27⟩)
    (c27 : PySem.W.codeIn K cd27 "_law_error" = true)
    (k27 : PySem.W.keepIn K (.ref f27) = true)
    (a28 : PySem.W.nsIn K mainGlobals "_law_lot" = some (some (.ref f28)))
    (l28 : K.lookup f28 = some ⟨oc28, od28, .func (PySem.W.fnOf "_law_lot" "_law_lot" (defArgs s__law_lot) (defBody s__law_lot) (defScope s__law_lot) .none kV28 dc28 pm28 an28 cd28 ct28), sl28⟩)
    (c28 : PySem.W.codeIn K cd28 "_law_lot" = true)
    (k28 : PySem.W.keepIn K (.ref f28) = true)
    (a29 : PySem.W.nsIn K mainGlobals "_law_graph" = some (some (.ref f29)))
    (l29 : K.lookup f29 = some ⟨oc29, od29, .func (PySem.W.fnOf "_law_graph" "_law_graph" (defArgs s__law_graph) (defBody s__law_graph) (defScope s__law_graph) .none kV29 dc29 pm29 an29 cd29 ct29), sl29⟩)
    (c29 : PySem.W.codeIn K cd29 "_law_graph" = true)
    (k29 : PySem.W.keepIn K (.ref f29) = true)
    (a30 : PySem.W.nsIn K mainGlobals "law" = some (some (.ref f30)))
    (l30 : K.lookup f30 = some ⟨oc30, od30, .func (PySem.W.fnOf "law" "law" (defArgs s_law) (defBody s_law) (defScope s_law) .none kV30 dc30 pm30 an30 (.ref cdL) ct30), sl30⟩)
    (c30 : PySem.W.codeIn K (.ref cdL) "law" = true)
    (k30 : PySem.W.keepIn K (.ref f30) = true)
    (lcL : K.lookup cdL = some ⟨eL, ddL, .fields vsL, slL⟩)
    (vL : vsL[11]? = some (.ref PtL))
    (nL : K.lookup PtL = none)
    (hdL : PySem.W.codeHdIn K cdL PtL = true)
    (mk_Keys : PySem.W.makesIn K c_Keys = true)
    (kc_Keys : PySem.W.keepIn K (.ref c_Keys) = true)
    (pg_Keys : PySem.W.plainGet K c_Keys Str.empty = true)
    (hd_Keys : PySem.W.hasDictIn K c_Keys = true)
    (po_Keys : PySem.W.plainOver K c_Keys = true)
    (sa_Keys : PySem.W.findIn K (.ref c_Keys) "__setattr__" = some (some (.builtin "object.__setattr__")))
    (hna_many_Keys : PySem.W.findIn K (.ref c_Keys) "many" = some none)
    (hna_clashes_Keys : PySem.W.findIn K (.ref c_Keys) "clashes" = some none)
    (ha_Keys : PySem.W.findIn K (.ref c_Keys) "__class__" = some (some (.builtin "object.__class__")))
    (hn_Keys : PySem.W.specialIn K (.builtin "object.__class__") "__get__" = some (some (.builtin "getset_descriptor.__get__")))
    (ht_Keys : PySem.W.takesIn K (.builtin "object.__class__") = some true)
    (hm_Keys : PySem.W.mroIn K c_Keys (.type "object") = some true)
    (me_Keys : PySem.W.kitOne K (.ref c_Keys) (.ref c_Keys) = some true)
    (u_ni_N : PySem.W.kitOne K (.type "NoneType") (.ref c_Keys) = some false)
    (u_ni_I : PySem.W.kitOne K (.type "int") (.ref c_Keys) = some false)
    (u_ni_T : PySem.W.kitOne K (.type "tuple") (.ref c_Keys) = some false)
    (u_ex_RK : PySem.W.exmOne K (.ref c_InvalidRow) (.ref c_InvalidKeys) = some false)
    (u_ex_RR : PySem.W.exmOne K (.ref c_InvalidRow) (.ref c_InvalidRow) = some true)
    (u_ex_KK : PySem.W.exmOne K (.ref c_InvalidKeys) (.ref c_InvalidKeys) = some true)
    (noN_InvalidKeys : PySem.W.findIn K (.ref c_InvalidKeys) "at" = some none)
    (xga_InvalidKeys : PySem.W.findIn K (.ref c_InvalidKeys) "__getattribute__" = some (some (.builtin "BaseException.__getattribute__")))
    (xgg_InvalidKeys : PySem.W.findIn K (.ref c_InvalidKeys) "__getattr__" = some none)
    (xex_InvalidKeys : PySem.W.subIn K (.ref c_InvalidKeys) (.type "BaseException") = some true)
    (xhd_InvalidKeys : PySem.W.hasDictIn K c_InvalidKeys = true)
    (noN_InvalidRow : PySem.W.findIn K (.ref c_InvalidRow) "at" = some none)
    (xga_InvalidRow : PySem.W.findIn K (.ref c_InvalidRow) "__getattribute__" = some (some (.builtin "BaseException.__getattribute__")))
    (xgg_InvalidRow : PySem.W.findIn K (.ref c_InvalidRow) "__getattr__" = some none)
    (xex_InvalidRow : PySem.W.subIn K (.ref c_InvalidRow) (.type "BaseException") = some true)
    (xhd_InvalidRow : PySem.W.hasDictIn K c_InvalidRow = true)
    (ex_InvalidKeys : K.lookup c_InvalidKeys = some (excClassObj ne_InvalidKeys qe_InvalidKeys c_InvalidKeys Ne_InvalidKeys be_InvalidKeys [.ref c_RuleError, .type "Exception", .type "BaseException", .type "object"] true sn_InvalidKeys su_InvalidKeys ab_InvalidKeys co_InvalidKeys dd_InvalidKeys m0_InvalidKeys m1_InvalidKeys m2_InvalidKeys m3_InvalidKeys m5_InvalidKeys "Exception.__new__"))
    (exB_RuleError : K.lookup c_RuleError = some ⟨ocB_RuleError, odB_RuleError, .cls cdB_RuleError, slB_RuleError⟩)
    (mrB_RuleError : cdB_RuleError.mro = [.ref c_RuleError, .type "Exception", .type "BaseException", .type "object"])
    (fiB_RuleError : PySem.W.findIn K (.ref c_RuleError) "__init__" = some (some (.builtin "Exception.__init__")))
    (sa_InvalidKeys : PySem.W.findIn K (.ref c_InvalidKeys) "__setattr__" = some (some (.builtin "object.__setattr__")))
    (etc_InvalidKeys : PySem.W.typeIn K (.ref f1) = some (.type "function"))
    (kc_InvalidKeys : PySem.W.keepIn K (.ref c_InvalidKeys) = true)
    (exe_InvalidKeys : PySem.W.subIn K (.ref c_InvalidKeys) (.type "Exception") = some true)
    (esl_InvalidKeys : PySem.W.mroIn K c_InvalidKeys (.ref c_InvalidKeys) = some true)
    (ety_InvalidKeys : PySem.W.typeIn K (.ref c_InvalidKeys) = some (.type "type"))
    (etp : PySem.W.nsIn K cStatics "thirdparty.any" = some none)
    (ecc_InvalidKeys : K.lookup cc_InvalidKeys = some ⟨cl_InvalidKeys, cld_InvalidKeys, .cell (some (.ref c_InvalidKeys)), csl_InvalidKeys⟩)
    (ecd_InvalidKeys : K.lookup cda_InvalidKeys = some ⟨ccl_InvalidKeys, cdd_InvalidKeys, .fields vs_InvalidKeys, ccs_InvalidKeys⟩)
    (evs_InvalidKeys : vs_InvalidKeys[2]? = some (.str fi_InvalidKeys tf_InvalidKeys))
    (efi_InvalidKeys : ((P.main.file : Str) == fi_InvalidKeys) = true)
    (etop : (P.main.scope.names.lookup ("super" : Str)).isSome = false)
    (ex_InvalidRow : K.lookup c_InvalidRow = some (excClassObj ne_InvalidRow qe_InvalidRow c_InvalidRow Ne_InvalidRow be_InvalidRow [.ref c_RuleError, .type "Exception", .type "BaseException", .type "object"] true sn_InvalidRow su_InvalidRow ab_InvalidRow co_InvalidRow dd_InvalidRow m0_InvalidRow m1_InvalidRow m2_InvalidRow m3_InvalidRow m5_InvalidRow "Exception.__new__"))
    (sa_InvalidRow : PySem.W.findIn K (.ref c_InvalidRow) "__setattr__" = some (some (.builtin "object.__setattr__")))
    (etc_InvalidRow : PySem.W.typeIn K (.ref f2) = some (.type "function"))
    (kc_InvalidRow : PySem.W.keepIn K (.ref c_InvalidRow) = true)
    (exe_InvalidRow : PySem.W.subIn K (.ref c_InvalidRow) (.type "Exception") = some true)
    (esl_InvalidRow : PySem.W.mroIn K c_InvalidRow (.ref c_InvalidRow) = some true)
    (ety_InvalidRow : PySem.W.typeIn K (.ref c_InvalidRow) = some (.type "type"))
    (ecc_InvalidRow : K.lookup cc_InvalidRow = some ⟨cl_InvalidRow, cld_InvalidRow, .cell (some (.ref c_InvalidRow)), csl_InvalidRow⟩)
    (ecd_InvalidRow : K.lookup cda_InvalidRow = some ⟨ccl_InvalidRow, cdd_InvalidRow, .fields vs_InvalidRow, ccs_InvalidRow⟩)
    (evs_InvalidRow : vs_InvalidRow[2]? = some (.str fi_InvalidRow tf_InvalidRow))
    (efi_InvalidRow : ((P.main.file : Str) == fi_InvalidRow) = true)
    (q_MOST_KEYS : PySem.W.nsIn K mainGlobals "MOST_KEYS" = some (some (.int 12 t_MOST_KEYS)))
    (q_MOST_STEPS : PySem.W.nsIn K mainGlobals "MOST_STEPS" = some (some (.int 1000 t_MOST_STEPS)))
    (w_WHATS : K.lookup c_WHATS = some ⟨.type "tuple", od_WHATS, .seq #[.str (Str.ofString "take") w0_WHATS, .str (Str.ofString "give") w1_WHATS] nn_WHATS, sl_WHATS⟩)
    (z_abs : PySem.W.nsIn K mainGlobals "abs" = some none)
    (z_bool : PySem.W.nsIn K mainGlobals "bool" = some none)
    (z_enumerate : PySem.W.nsIn K mainGlobals "enumerate" = some none)
    (z_int : PySem.W.nsIn K mainGlobals "int" = some none)
    (z_isinstance : PySem.W.nsIn K mainGlobals "isinstance" = some none)
    (z_len : PySem.W.nsIn K mainGlobals "len" = some none)
    (z_list : PySem.W.nsIn K mainGlobals "list" = some none)
    (z_range : PySem.W.nsIn K mainGlobals "range" = some none)
    (z_sorted : PySem.W.nsIn K mainGlobals "sorted" = some none)
    (z_str : PySem.W.nsIn K mainGlobals "str" = some none)
    (z_super : PySem.W.nsIn K mainGlobals "super" = some none)
    (z_tuple : PySem.W.nsIn K mainGlobals "tuple" = some none)
    (z_zip : PySem.W.nsIn K mainGlobals "zip" = some none) :
    ∃ (fd : FuncData) (c Pt : Addr), h.get? Pt = some { cls := .none, data := .fields #[] } ∧ K.lookup Pt = none ∧ PySem.W.CodeHd h c Pt ∧ (∀ (s : Shared) (v : Value), BindsTo s fd ⟨[v], []⟩ [("script", v)]) ∧ ∀ base : Heap, K.In base → base.Ns mainGlobals mg → LamX.TabB base mg c Pt → FnOk P w K mg base CX0 10 fa fd ["script"] (sp_lawT K Pt) := by
  have e := hfa.symm.trans (PySem.W.mg_of X G a30)
  cases e
  have F3 := fun_mk (st := s_is_integer) l3 c3 k3
  have b3 := F3.binds (ps := ["value"]) fun _ _ _ _ _ _ us hl => match us, hl with | [_], _ => rfl
  have F4 := fun_mk (st := s_is_below) l4 c4 k4
  have b4 := F4.binds (ps := ["value", "limit"]) fun _ _ _ _ _ _ us hl => match us, hl with | [_, _], _ => rfl
  have F5 := fun_mk (st := s_is_between) l5 c5 k5
  have b5 := F5.binds (ps := ["value", "least", "greatest"]) fun _ _ _ _ _ _ us hl => match us, hl with | [_, _, _], _ => rfl
  have F6 := fun_mk (st := s_is_sequence) l6 c6 k6
  have b6 := F6.binds (ps := ["value"]) fun _ _ _ _ _ _ us hl => match us, hl with | [_], _ => rfl
  have F7 := fun_mk (st := s_is_row) l7 c7 k7
  have b7 := F7.binds (ps := ["value", "many"]) fun _ _ _ _ _ _ us hl => match us, hl with | [_, _], _ => rfl
  have F8 := fun_mk (st := s_is_text) l8 c8 k8
  have b8 := F8.binds (ps := ["value", "words"]) fun _ _ _ _ _ _ us hl => match us, hl with | [_, _], _ => rfl
  have F9 := fun_mk (st := s_lot_of) l9 c9 k9
  have b9 := F9.binds (ps := ["mask"]) fun _ _ _ _ _ _ us hl => match us, hl with | [_], _ => rfl
  have F10 := fun_mk (st := s_Keys___init__) l10 c10 k10
  have b10 := F10.binds (ps := ["self", "many", "clashes"]) fun _ _ _ _ _ _ us hl => match us, hl with | [_, _, _], _ => rfl
  have F11 := fun_mk (st := s_need_count) l11 c11 k11
  have b11 := F11.binds (ps := ["value", "least", "greatest"]) fun _ _ _ _ _ _ us hl => match us, hl with | [_, _, _], _ => rfl
  have F12 := fun_mk (st := s_told_clashes) l12 c12 k12
  have b12 := F12.binds (ps := ["value", "many"]) fun _ _ _ _ _ _ us hl => match us, hl with | [_, _], _ => rfl
  have F13 := fun_mk (st := s_need_keys) l13 c13 k13
  have b13 := F13.binds (ps := ["value"]) fun _ _ _ _ _ _ us hl => match us, hl with | [_], _ => rfl
  have F14 := fun_mk (st := s_plain_keys) l14 c14 k14
  have b14 := F14.binds (ps := ["many"]) fun _ _ _ _ _ _ us hl => match us, hl with | [_], _ => rfl
  have F15 := fun_mk (st := s_is_step) l15 c15 k15
  have b15 := F15.binds (ps := ["value", "many"]) fun _ _ _ _ _ _ us hl => match us, hl with | [_, _], _ => rfl
  have F16 := fun_mk (st := s_can_do) l16 c16 k16
  have b16 := F16.binds (ps := ["held", "what", "key"]) fun _ _ _ _ _ _ us hl => match us, hl with | [_, _, _], _ => rfl
  have F17 := fun_mk (st := s_held_behind) l17 c17 k17
  have b17 := F17.binds (ps := ["held", "key"]) fun _ _ _ _ _ _ us hl => match us, hl with | [_, _], _ => rfl
  have F18 := fun_mk (st := s_had_behind) l18 c18 k18
  have b18 := F18.binds (ps := ["had", "what", "key"]) fun _ _ _ _ _ _ us hl => match us, hl with | [_, _, _], _ => rfl
  have F19 := fun_mk (st := s_walk_row) l19 c19 k19
  have b19 := F19.binds (ps := ["value", "many"]) fun _ _ _ _ _ _ us hl => match us, hl with | [_, _], _ => rfl
  have F20 := fun_mk (st := s_row_ends) l20 c20 k20
  have b20 := F20.binds (ps := ["keys", "row"]) fun _ _ _ _ _ _ us hl => match us, hl with | [_, _], _ => rfl
  have F21 := fun_mk (st := s__law_box) l21 c21 k21
  have b21 := F21.binds (ps := ["script"]) fun _ _ _ _ _ _ us hl => match us, hl with | [_], _ => rfl
  have F22 := fun_mk (st := s__law_take) l22 c22 k22
  have b22 := F22.binds (ps := ["box", "many"]) fun _ _ _ _ _ _ us hl => match us, hl with | [_, _], _ => rfl
  have F23 := fun_mk (st := s__law_pick) l23 c23 k23
  have b23 := F23.binds (ps := ["box", "some"]) fun _ _ _ _ _ _ us hl => match us, hl with | [_, _], _ => rfl
  have F24 := fun_mk (st := s__law_mixed) l24 c24 k24
  have b24 := F24.binds (ps := ["box", "row"]) fun _ _ _ _ _ _ us hl => match us, hl with | [_, _], _ => rfl
  have F25 := fun_mk (st := s__law_is) l25 c25 k25
  have b25 := F25.binds (ps := ["told", "due"]) fun _ _ _ _ _ _ us hl => match us, hl with | [_, _], _ => rfl
  have F26 := fun_mk (st := s__law_lists) l26 c26 k26
  have b26 := F26.binds (ps := ["value"]) fun _ _ _ _ _ _ us hl => match us, hl with | [_], _ => rfl
  have F27 := fun_mk (st := s__law_error) l27 c27 k27
  have b27 := F27.binds (ps := ["call"]) fun _ _ _ _ _ _ us hl => match us, hl with | [_], _ => rfl
  have F28 := fun_mk (st := s__law_lot) l28 c28 k28
  have b28 := F28.binds (ps := ["mask"]) fun _ _ _ _ _ _ us hl => match us, hl with | [_], _ => rfl
  have F29 := fun_mk (st := s__law_graph) l29 c29 k29
  have b29 := F29.binds (ps := ["box", "many"]) fun _ _ _ _ _ _ us hl => match us, hl with | [_, _], _ => rfl
  have F30 := fun_mk (st := s_law) l30 c30 k30
  have b30 := F30.binds (ps := ["script"]) fun _ _ _ _ _ _ us hl => match us, hl with | [_], _ => rfl
  let T : Tx P K mg := { a_InvalidKeys___init__ := f1, a_InvalidRow___init__ := f2, a_is_integer := f3, d_is_integer := _, F_is_integer := F3, b_is_integer := b3, g_is_integer := PySem.W.mg_of X G a3, a_is_below := f4, d_is_below := _, F_is_below := F4, b_is_below := b4, g_is_below := PySem.W.mg_of X G a4, a_is_between := f5, d_is_between := _, F_is_between := F5, b_is_between := b5, g_is_between := PySem.W.mg_of X G a5, a_is_sequence := f6, d_is_sequence := _, F_is_sequence := F6, b_is_sequence := b6, g_is_sequence := PySem.W.mg_of X G a6, a_is_row := f7, d_is_row := _, F_is_row := F7, b_is_row := b7, g_is_row := PySem.W.mg_of X G a7, a_is_text := f8, d_is_text := _, F_is_text := F8, b_is_text := b8, g_is_text := PySem.W.mg_of X G a8, a_lot_of := f9, d_lot_of := _, F_lot_of := F9, b_lot_of := b9, g_lot_of := PySem.W.mg_of X G a9, a_Keys___init__ := f10, d_Keys___init__ := _, F_Keys___init__ := F10, b_Keys___init__ := b10, a_need_count := f11, d_need_count := _, F_need_count := F11, b_need_count := b11, g_need_count := PySem.W.mg_of X G a11, a_told_clashes := f12, d_told_clashes := _, F_told_clashes := F12, b_told_clashes := b12, g_told_clashes := PySem.W.mg_of X G a12, a_need_keys := f13, d_need_keys := _, F_need_keys := F13, b_need_keys := b13, g_need_keys := PySem.W.mg_of X G a13, a_plain_keys := f14, d_plain_keys := _, F_plain_keys := F14, b_plain_keys := b14, g_plain_keys := PySem.W.mg_of X G a14, a_is_step := f15, d_is_step := _, F_is_step := F15, b_is_step := b15, g_is_step := PySem.W.mg_of X G a15, a_can_do := f16, d_can_do := _, F_can_do := F16, b_can_do := b16, g_can_do := PySem.W.mg_of X G a16, a_held_behind := f17, d_held_behind := _, F_held_behind := F17, b_held_behind := b17, g_held_behind := PySem.W.mg_of X G a17, a_had_behind := f18, d_had_behind := _, F_had_behind := F18, b_had_behind := b18, g_had_behind := PySem.W.mg_of X G a18, a_walk_row := f19, d_walk_row := _, F_walk_row := F19, b_walk_row := b19, g_walk_row := PySem.W.mg_of X G a19, a_row_ends := f20, d_row_ends := _, F_row_ends := F20, b_row_ends := b20, g_row_ends := PySem.W.mg_of X G a20, a__law_box := f21, d__law_box := _, F__law_box := F21, b__law_box := b21, g__law_box := PySem.W.mg_of X G a21, a__law_take := f22, d__law_take := _, F__law_take := F22, b__law_take := b22, g__law_take := PySem.W.mg_of X G a22, a__law_pick := f23, d__law_pick := _, F__law_pick := F23, b__law_pick := b23, g__law_pick := PySem.W.mg_of X G a23, a__law_mixed := f24, d__law_mixed := _, F__law_mixed := F24, b__law_mixed := b24, g__law_mixed := PySem.W.mg_of X G a24, a__law_is := f25, d__law_is := _, F__law_is := F25, b__law_is := b25, g__law_is := PySem.W.mg_of X G a25, a__law_lists := f26, d__law_lists := _, F__law_lists := F26, b__law_lists := b26, g__law_lists := PySem.W.mg_of X G a26, a__law_error := f27, d__law_error := _, F__law_error := F27, b__law_error := b27, g__law_error := PySem.W.mg_of X G a27, a__law_lot := f28, d__law_lot := _, F__law_lot := F28, b__law_lot := b28, g__law_lot := PySem.W.mg_of X G a28, a__law_graph := f29, d__law_graph := _, F__law_graph := F29, b__law_graph := b29, g__law_graph := PySem.W.mg_of X G a29, a_law := fa, d_law := _, F_law := F30, b_law := b30, g_law := PySem.W.mg_of X G a30, c_InvalidKeys := c_InvalidKeys, g_InvalidKeys := PySem.W.mg_of X G aC_InvalidKeys, c_InvalidRow := c_InvalidRow, g_InvalidRow := PySem.W.mg_of X G aC_InvalidRow, c_Keys := c_Keys, g_Keys := PySem.W.mg_of X G aC_Keys, m_Keys := ⟨mk_Keys, a10, i10, kc_Keys⟩, cl_Keys := ⟨pg_Keys, hd_Keys, po_Keys, sa_Keys⟩, na_many := hna_many_Keys, na_clashes := hna_clashes_Keys, ic_Keys := ⟨⟨pg_Keys, hd_Keys, po_Keys, sa_Keys⟩, ha_Keys, hn_Keys, ht_Keys, hm_Keys, me_Keys⟩, ni_N := u_ni_N, ni_I := u_ni_I, ni_T := u_ni_T, ex_RK := u_ex_RK, ex_RR := u_ex_RR, ex_KK := u_ex_KK, x_InvalidKeys := ⟨⟨xga_InvalidKeys, xgg_InvalidKeys, xex_InvalidKeys, xhd_InvalidKeys⟩, noN_InvalidKeys, PySem.W.mg_of X G aC_InvalidKeys⟩, x_InvalidRow := ⟨⟨xga_InvalidRow, xgg_InvalidRow, xex_InvalidRow, xhd_InvalidRow⟩, noN_InvalidRow, PySem.W.mg_of X G aC_InvalidRow⟩, e_InvalidKeys := { tx := init_InvalidKeys, cls := ⟨_, _, _, _, [c_RuleError], _, _, _, _, _, _, _, _, _, _, ex_InvalidKeys, along_of exB_RuleError mrB_RuleError fiB_RuleError⟩, sa := sa_InvalidKeys, noN := noN_InvalidKeys, iC := a1, tC := etc_InvalidKeys, kC := kc_InvalidKeys, exC := xex_InvalidKeys, exE := exe_InvalidKeys, self := esl_InvalidKeys, tyC := ety_InvalidKeys, tp := etp, fn := ⟨_, _, _, _, _, _, _, _, _, _, _, l1, c1, ⟨_, _, _, ecc_InvalidKeys⟩, _, _, _, _, _, _, ecd_InvalidKeys, evs_InvalidKeys, efi_InvalidKeys⟩, top := etop }, e_InvalidRow := { tx := init_InvalidRow, cls := ⟨_, _, _, _, [c_RuleError], _, _, _, _, _, _, _, _, _, _, ex_InvalidRow, along_of exB_RuleError mrB_RuleError fiB_RuleError⟩, sa := sa_InvalidRow, noN := noN_InvalidRow, iC := a2, tC := etc_InvalidRow, kC := kc_InvalidRow, exC := xex_InvalidRow, exE := exe_InvalidRow, self := esl_InvalidRow, tyC := ety_InvalidRow, tp := etp, fn := ⟨_, _, _, _, _, _, _, _, _, _, _, l2, c2, ⟨_, _, _, ecc_InvalidRow⟩, _, _, _, _, _, _, ecd_InvalidRow, evs_InvalidRow, efi_InvalidRow⟩, top := etop }, g_MOST_KEYS := ⟨_, PySem.W.mg_of X G q_MOST_KEYS⟩, g_MOST_STEPS := ⟨_, PySem.W.mg_of X G q_MOST_STEPS⟩, c_WHATS := c_WHATS, g_WHATS := PySem.W.mg_of X G aC_WHATS, t_WHATS := fun H => .inr ⟨_, _, _, w_WHATS, rfl, rfl, (by decide : 2 ≤ sizeLine), (.cons ⟨_, rfl⟩ (.cons ⟨_, rfl⟩ .nil))⟩, n_abs := PySem.W.mg_none_of X G z_abs, n_bool := PySem.W.mg_none_of X G z_bool, n_enumerate := PySem.W.mg_none_of X G z_enumerate, n_int := PySem.W.mg_none_of X G z_int, n_isinstance := PySem.W.mg_none_of X G z_isinstance, n_len := PySem.W.mg_none_of X G z_len, n_list := PySem.W.mg_none_of X G z_list, n_range := PySem.W.mg_none_of X G z_range, n_sorted := PySem.W.mg_none_of X G z_sorted, n_str := PySem.W.mg_none_of X G z_str, n_super := PySem.W.mg_none_of X G z_super, n_tuple := PySem.W.mg_none_of X G z_tuple, n_zip := PySem.W.mg_none_of X G z_zip }
  exact ⟨PySem.W.fnOf "law" "law" (defArgs s_law) (defBody s_law) (defScope s_law) .none kV30 dc30 pm30 an30 (.ref cdL) ct30, cdL, PtL, own _ _ _ _ _ _ _ _ l30 rfl rfl lcL vL, nL, PySem.W.codeHd_of_K X hdL, fun s v => .of_eq rfl, fun base _ _ TB => ok_law T l30 c30 TB⟩
end Kr
open PySem PySem.W PyProof.Rows
set_option maxHeartbeats 0 in
theorem PySem.Challenge.cw_keyrules_k04_rows_and_where_they_end_holds : PySem.Challenge.rw_keyrules_k04_rows_and_where_they_end.Holds := by
  w_on; o_law; k_head; (case hw => w_witness2)
  k_fill
  refine LamX.walk_ofOwn (l := PySem.Challenge.rw_keyrules_k04_rows_and_where_they_end) (n := 63) (k := 10) (x := "script") (CX := fun _ => L2.CX0) rfl (by decide) rfl ⟨rfl, by decide, by decide⟩ (by decide +kernel) (fun w h Y => PySem.W.km_in_of Y) ?F (fun _ _ _ _ _ h => h)
  case F =>
    intro w mg fa h Y KX G hmg hown
    have hm2 : mg "law" = some (.ref fa) := hmg
    clear hmg
    have fin : ∀ {K : PySem.W.Frag}, (∃ (fd : FuncData) (c Pt : Addr), h.get? Pt = some { cls := .none, data := .fields #[] } ∧ K.lookup Pt = none ∧ PySem.W.CodeHd h c Pt ∧ (∀ (s : Shared) (v : Value), PySem.BindsTo s fd ⟨[v], []⟩ [("script", v)]) ∧ ∀ base : Heap, K.In base → base.Ns mainGlobals mg → LamX.TabB base mg c Pt → L2.FnOk PySem.Challenge.rw_keyrules_k04_rows_and_where_they_end.prog w K mg base L2.CX0 10 fa fd ["script"] (Kr.sp_lawT K Pt)) → LamX.LawAtS PySem.Challenge.rw_keyrules_k04_rows_and_where_they_end w K L2.CX0 10 63 "script" mg fa h := by
      rintro K ⟨fd, c, Pt, h1, h2, h3, h4, h5⟩
      exact ⟨fd, [(c, Pt)], Kr.sp_lawT K Pt, fun p hp => by rw [List.mem_singleton.mp hp]; exact h1, fun p hp => by rw [List.mem_singleton.mp hp]; exact h2, fun p hp => by rw [List.mem_singleton.mp hp]; exact h3, h4,
        fun H a ns hl _ hT hS => ⟨a, ns, rfl, hS, hl, hT (c, Pt) (List.mem_singleton_self _), fun _ => rfl⟩, fun base hb hn hT => h5 base hb hn (hT (c, Pt) (List.mem_singleton_self _))⟩
    refine fin ?_
    refine' Kr.all_mk KX G hm2 hown ?aC_WHATS ?aC_RuleError ?aC_Keys ?aC_InvalidRow ?aC_InvalidKeys ?a1 ?i1 ?l1 ?c1 ?a2 ?i2 ?l2 ?c2 ?a3 ?l3 ?c3 ?k3 ?a4 ?l4 ?c4 ?k4 ?a5 ?l5 ?c5 ?k5 ?a6 ?l6 ?c6 ?k6 ?a7 ?l7 ?c7 ?k7 ?a8 ?l8 ?c8 ?k8 ?a9 ?l9 ?c9 ?k9 ?a10 ?i10 ?l10 ?c10 ?k10 ?a11 ?l11 ?c11 ?k11 ?a12 ?l12 ?c12 ?k12 ?a13 ?l13 ?c13 ?k13 ?a14 ?l14 ?c14 ?k14 ?a15 ?l15 ?c15 ?k15 ?a16 ?l16 ?c16 ?k16 ?a17 ?l17 ?c17 ?k17 ?a18 ?l18 ?c18 ?k18 ?a19 ?l19 ?c19 ?k19 ?a20 ?l20 ?c20 ?k20 ?a21 ?l21 ?c21 ?k21 ?a22 ?l22 ?c22 ?k22 ?a23 ?l23 ?c23 ?k23 ?a24 ?l24 ?c24 ?k24 ?a25 ?l25 ?c25 ?k25 ?a26 ?l26 ?c26 ?k26 ?a27 ?l27 ?c27 ?k27 ?a28 ?l28 ?c28 ?k28 ?a29 ?l29 ?c29 ?k29 ?a30 ?l30 ?c30 ?k30 ?lcL ?vL ?nL ?hdL ?mk_Keys ?kc_Keys ?pg_Keys ?hd_Keys ?po_Keys ?sa_Keys ?hna_many_Keys ?hna_clashes_Keys ?ha_Keys ?hn_Keys ?ht_Keys ?hm_Keys ?me_Keys ?u_ni_N ?u_ni_I ?u_ni_T ?u_ex_RK ?u_ex_RR ?u_ex_KK ?noN_InvalidKeys ?xga_InvalidKeys ?xgg_InvalidKeys ?xex_InvalidKeys ?xhd_InvalidKeys ?noN_InvalidRow ?xga_InvalidRow ?xgg_InvalidRow ?xex_InvalidRow ?xhd_InvalidRow ?ex_InvalidKeys ?exB_RuleError ?mrB_RuleError ?fiB_RuleError ?sa_InvalidKeys ?etc_InvalidKeys ?kc_InvalidKeys ?exe_InvalidKeys ?esl_InvalidKeys ?ety_InvalidKeys ?etp ?ecc_InvalidKeys ?ecd_InvalidKeys ?evs_InvalidKeys ?efi_InvalidKeys ?etop ?ex_InvalidRow ?sa_InvalidRow ?etc_InvalidRow ?kc_InvalidRow ?exe_InvalidRow ?esl_InvalidRow ?ety_InvalidRow ?ecc_InvalidRow ?ecd_InvalidRow ?evs_InvalidRow ?efi_InvalidRow ?q_MOST_KEYS ?q_MOST_STEPS ?w_WHATS ?z_abs ?z_bool ?z_enumerate ?z_int ?z_isinstance ?z_len ?z_list ?z_range ?z_sorted ?z_str ?z_super ?z_tuple ?z_zip
    (case aC_WHATS => k_is)
    (case aC_RuleError => k_is)
    (case aC_Keys => k_is)
    (case aC_InvalidRow => k_is)
    (case aC_InvalidKeys => k_is)
    (case a1 => k_is)
    (case i1 => k_is)
    (case l1 => k_is)
    (case c1 => k_is)
    (case a2 => k_is)
    (case i2 => k_is)
    (case l2 => k_is)
    (case c2 => k_is)
    (case a3 => k_is)
    (case l3 => k_is)
    (case c3 => k_is)
    (case k3 => k_is)
    (case a4 => k_is)
    (case l4 => k_is)
    (case c4 => k_is)
    (case k4 => k_is)
    (case a5 => k_is)
    (case l5 => k_is)
    (case c5 => k_is)
    (case k5 => k_is)
    (case a6 => k_is)
    (case l6 => k_is)
    (case c6 => k_is)
    (case k6 => k_is)
    (case a7 => k_is)
    (case l7 => k_is)
    (case c7 => k_is)
    (case k7 => k_is)
    (case a8 => k_is)
    (case l8 => k_is)
    (case c8 => k_is)
    (case k8 => k_is)
    (case a9 => k_is)
    (case l9 => k_is)
    (case c9 => k_is)
    (case k9 => k_is)
    (case a10 => k_is)
    (case i10 => k_is)
    (case l10 => k_is)
    (case c10 => k_is)
    (case k10 => k_is)
    (case a11 => k_is)
    (case l11 => k_is)
    (case c11 => k_is)
    (case k11 => k_is)
    (case a12 => k_is)
    (case l12 => k_is)
    (case c12 => k_is)
    (case k12 => k_is)
    (case a13 => k_is)
    (case l13 => k_is)
    (case c13 => k_is)
    (case k13 => k_is)
    (case a14 => k_is)
    (case l14 => k_is)
    (case c14 => k_is)
    (case k14 => k_is)
    (case a15 => k_is)
    (case l15 => k_is)
    (case c15 => k_is)
    (case k15 => k_is)
    (case a16 => k_is)
    (case l16 => k_is)
    (case c16 => k_is)
    (case k16 => k_is)
    (case a17 => k_is)
    (case l17 => k_is)
    (case c17 => k_is)
    (case k17 => k_is)
    (case a18 => k_is)
    (case l18 => k_is)
    (case c18 => k_is)
    (case k18 => k_is)
    (case a19 => k_is)
    (case l19 => k_is)
    (case c19 => k_is)
    (case k19 => k_is)
    (case a20 => k_is)
    (case l20 => k_is)
    (case c20 => k_is)
    (case k20 => k_is)
    (case a21 => k_is)
    (case l21 => k_is)
    (case c21 => k_is)
    (case k21 => k_is)
    (case a22 => k_is)
    (case l22 => k_is)
    (case c22 => k_is)
    (case k22 => k_is)
    (case a23 => k_is)
    (case l23 => k_is)
    (case c23 => k_is)
    (case k23 => k_is)
    (case a24 => k_is)
    (case l24 => k_is)
    (case c24 => k_is)
    (case k24 => k_is)
    (case a25 => k_is)
    (case l25 => k_is)
    (case c25 => k_is)
    (case k25 => k_is)
    (case a26 => k_is)
    (case l26 => k_is)
    (case c26 => k_is)
    (case k26 => k_is)
    (case a27 => k_is)
    (case l27 => k_is)
    (case c27 => k_is)
    (case k27 => k_is)
    (case a28 => k_is)
    (case l28 => k_is)
    (case c28 => k_is)
    (case k28 => k_is)
    (case a29 => k_is)
    (case l29 => k_is)
    (case c29 => k_is)
    (case k29 => k_is)
    (case a30 => k_is)
    (case l30 => k_is)
    (case c30 => k_is)
    (case k30 => k_is)
    (case lcL => k_is)
    (case vL => first | rfl | k_is)
    (case nL => first | rfl | k_is)
    (case hdL => first | rfl | k_is)
    (case mk_Keys => k_is)
    (case kc_Keys => k_is)
    (case pg_Keys => k_is)
    (case hd_Keys => k_is)
    (case po_Keys => k_is)
    (case sa_Keys => k_is)
    (case hna_many_Keys => k_is)
    (case hna_clashes_Keys => k_is)
    (case ha_Keys => k_is)
    (case hn_Keys => k_is)
    (case ht_Keys => k_is)
    (case hm_Keys => k_is)
    (case me_Keys => first | rfl | k_is)
    (case u_ni_N => first | rfl | k_is)
    (case u_ni_I => first | rfl | k_is)
    (case u_ni_T => first | rfl | k_is)
    (case u_ex_RK => first | rfl | k_is)
    (case u_ex_RR => first | rfl | k_is)
    (case u_ex_KK => first | rfl | k_is)
    (case noN_InvalidKeys => k_is)
    (case xga_InvalidKeys => k_is)
    (case xgg_InvalidKeys => k_is)
    (case xex_InvalidKeys => k_is)
    (case xhd_InvalidKeys => k_is)
    (case noN_InvalidRow => k_is)
    (case xga_InvalidRow => k_is)
    (case xgg_InvalidRow => k_is)
    (case xex_InvalidRow => k_is)
    (case xhd_InvalidRow => k_is)
    (case ex_InvalidKeys => k_is)
    (case exB_RuleError => k_is)
    (case mrB_RuleError => first | rfl | k_is)
    (case fiB_RuleError => k_is)
    (case sa_InvalidKeys => k_is)
    (case etc_InvalidKeys => k_is)
    (case kc_InvalidKeys => k_is)
    (case exe_InvalidKeys => k_is)
    (case esl_InvalidKeys => first | rfl | k_is)
    (case ety_InvalidKeys => k_is)
    (case etp => k_is)
    (case ecc_InvalidKeys => k_is)
    (case ecd_InvalidKeys => k_is)
    (case evs_InvalidKeys => first | rfl | k_is)
    (case efi_InvalidKeys => first | rfl | k_is)
    (case etop => first | rfl | k_is)
    (case ex_InvalidRow => k_is)
    (case sa_InvalidRow => k_is)
    (case etc_InvalidRow => k_is)
    (case kc_InvalidRow => k_is)
    (case exe_InvalidRow => k_is)
    (case esl_InvalidRow => first | rfl | k_is)
    (case ety_InvalidRow => k_is)
    (case ecc_InvalidRow => k_is)
    (case ecd_InvalidRow => k_is)
    (case evs_InvalidRow => first | rfl | k_is)
    (case efi_InvalidRow => first | rfl | k_is)
    (case q_MOST_KEYS => k_is)
    (case q_MOST_STEPS => k_is)
    (case w_WHATS => k_is)
    (case z_abs => k_is)
    (case z_bool => k_is)
    (case z_enumerate => k_is)
    (case z_int => k_is)
    (case z_isinstance => k_is)
    (case z_len => k_is)
    (case z_list => k_is)
    (case z_range => k_is)
    (case z_sorted => k_is)
    (case z_str => k_is)
    (case z_super => k_is)
    (case z_tuple => k_is)
    (case z_zip => k_is)
